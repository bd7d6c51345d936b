import PyProof.Rows.All
import Wide.All
import OpenK.AllK
import Wide.FinOn
import PyProof.EqAt
import PyProof.EqKinds
import PyProof.TupleCall
import HandS.ForMost
import HandS.ForExc
import HandS.Defaults
import HandS.IsInst
import HandS.ExcInit
import HandS.ExcField
import HandS.TryOnly
import HandS.Evl
import HandS.ExcIs
import KE.KExcIs
import HandS.ReplaceLit
import HandS.StrMore
import PyProof.ReprRoads
import HandS.HotCalls
import PySem.Challenge.RW_alwaystree_k10_least_edit_by_trying
set_option Elab.async false
set_option linter.all false
set_option maxRecDepth 100000
set_option maxHeartbeats 4000000
/-! ## rules that the layer lacks, and words over heaps -/
namespace Al
open PySem PySem.Spec PyProof.Rows L2
section
variable {X : Cx} {CX : CXT} {k : Nat} {f : Addr} {fd : FuncData} {ps ks : List Str} {sp : Sp} {E : XK} {x : Str} {p pos : Pos} {kws : List Keyword} {tk : TA} {g : List Value → List Value → List Value} {gV : List V → List V → List V}
/-- f(k = v, ..): keywords alone -/
theorem pe_callN0 (F : FnOk X.prog X.w X.K X.mg X.base CX k f fd ps sp) (hr : Room k X.A) (hg : Gl X x) (hm : X.mg x = some (.ref f)) (hk : PySem.W.keepIn X.K (.ref f) = true) (hb : KBn X.K fd ps 0 ks g gV) (hx : Passes CX X E) (hkw : PK X kws tk)
    (hall : (backToKw pos (keywordEach kws X.env)).all (·.1.isSome) = true := by rfl) (hks : (backToKw pos (keywordEach kws X.env)).filterMap (·.1) = ks := by rfl) (hdb : (x == ("__debug__" : Str)) = false := by decide)
    (hpl : ((backTo pos (starEach [] X.env)).any (·.1) || (backToKw pos (keywordEach kws X.env)).any (·.1.isNone)) = false := by rfl) :
    PE X (.Call (.Name x p) [] kws pos) (tCallN 0 ks.length sp gV E tNil tk) := by
  refine ⟨fun pins s σ H Q I h => ?_⟩
  refine wpAny_Call_Name_kw (ld_glob I hg hm ?_ hdb)
  refine PySem.W.callWith_KW0 (h₀ := X.base) I.ok.mod.kin hk hall ?_ hpl
  refine thn (hkw.run pos pins s σ H _ I h) fun ws s2 ⟨zs, H2, I2, rz, l1, l2, q2⟩ => ⟨I2.kIn, ?_⟩
  rw [hks]
  exact run_fnN (us := []) (vs := []) F hr hb hx I2 .nil rz rfl l2 q2
end
/-- a class's facts for isinstance of its caught instances -/
structure ExC (K : PySem.W.Frag) (D : Addr) : Prop where
  cl : (PySem.W.clsIn K D).isSome = true
  hg : PySem.W.findIn K (.ref D) "__getattribute__" = some (some (.builtin "BaseException.__getattribute__"))
  hk : PySem.W.findIn K (.ref D) "__getattr__" = some none
  hs : PySem.W.subIn K (.ref D) (.type "BaseException") = some true
  ha : PySem.W.findIn K (.ref D) "__class__" = some (some (.builtin "object.__class__"))
  hn : PySem.W.specialIn K (.builtin "object.__class__") "__get__" = some (some (.builtin "getset_descriptor.__get__"))
  ht : PySem.W.takesIn K (.builtin "object.__class__") = some true
  hm : PySem.W.mroIn K D (.type "object") = some true
/-- isinstance(e, c), e the exception that the suite holds (class cls, own dict d) -/
def rIsE2 (K : PySem.W.Frag) (a : Addr) (cls : Value) (d : Option Addr) : List V → Hp → VK → Prop := fun xs H Q => ∃ (D dd : Addr) (fs : List (Str × V)) (c : V) (cv : Value) (b : Bool), cls = .ref D ∧ d = some dd ∧ ExC K D ∧ H dd = some (.xd fs) ∧ xs = [.ref a, c] ∧ (∀ u, RelV c u → u = cv) ∧ PySem.W.kitOne K (.ref D) cv = some b ∧ Q (.bl b) H
theorem call_isE2 {X : Cx} {a : Addr} {oe : Obj} {cls : Value} {d : Option Addr} {pn : List (Addr × Obj)} (hz : Zc cls d oe) (hf : ∃ vs, oe.data = .fields vs) : CallR (X.suite a ((a, oe) :: pn)) (.builtin "isinstance") (rIsE2 X.K a cls d) := by
  intro pins s σ H xs us Q I r h
  obtain ⟨D, dd, fs, c, cv, b, rfl, rfl, C, ea, rfl, hcv, e, q⟩ := h
  cases r with
  | cons rx rr =>
    cases rr with
    | cons rt rr =>
      cases rr
      cases rx
      have ec := hcv _ rt
      subst ec
      obtain ⟨hget, _⟩ := I.pin (a, oe) (List.mem_append.mpr (.inl List.mem_cons_self))
      obtain ⟨vs, hv⟩ := hf
      have hx : ObjOk X.prog X.w H s.heap dd (.xd fs) := I.hok dd _ ea
      obtain ⟨mA, hns, hr⟩ := hx
      obtain ⟨od, ho, hl⟩ := lookIn_ns hns
      have J : PySem.W.InstAt s.heap a oe D (some od) := ⟨hget, hz.1, by unfold PySem.W.notCls; rw [hv] <;> rfl, by rw [hz.2]; exact ho⟩
      exact PySem.W.kia_one (PySem.W.kitx_exc C.cl C.hg C.hk C.hs C.ha C.hn C.ht C.hm) I.kIn J e (fun z => nomatch z) fun tk => ⟨.bl b, H, I.kept (t' := tk) fun _ _ z => z, rfl, q⟩
/-- all that is asked of an own class of errors: C, whose __init__ stands at fI; B: the class that the except clauses name -/
structure ExAll (K : PySem.W.Frag) (C B fI : Addr) : Prop where
  x : OexC K C
  xf : XfC K C
  c : ExC K C
  i : PySem.W.findIn K (.ref C) "__init__" = some (some (.ref fI))
  t : PySem.W.typeIn K (.ref fI) = some (.type "function")
  em : PySem.W.exmOne K (.ref C) (.ref B) = some true
theorem exAll_mk {K : PySem.W.Frag} {C B fI : Addr} {nm q : Str} {N : Addr} {bs bm : List Value} {sn : List Str} {sub : List Value} {ab : Bool} {col : Option Bool} {dd : Option Addr} {m0 m1 m2 m3 m5 : Option Value}
    (x1 : K.lookup C = some (excClassObj nm q C N bs bm true sn sub ab col dd m0 m1 m2 m3 m5 "ValueError.__new__")) (x2 : PySem.HandSPX.refsVE bm = true)
    (x3 : PySem.W.findIn K (.ref C) "__setattr__" = some (some (.builtin "object.__setattr__"))) (x4 : PySem.W.subIn K (.ref C) (.type "BaseException") = some true) (x5 : PySem.W.typeIn K (.ref C) = some (.type "type")) (x6 : PySem.W.keepIn K (.ref C) = true)
    (x7 : PySem.W.findIn K (.ref C) "__getattribute__" = some (some (.builtin "BaseException.__getattribute__"))) (x8 : PySem.W.findIn K (.ref C) "__getattr__" = some none) (x9 : PySem.W.hasDictIn K C = true)
    (y1 : PySem.W.findIn K (.ref C) "__class__" = some (some (.builtin "object.__class__"))) (y2 : PySem.W.mroIn K C (.type "object") = some true) (y3 : PySem.W.subIn K (.ref C) (.ref B) = some true)
    (a : PySem.W.findIn K (.ref C) "__init__" = some (some (.ref fI))) (y4 : PySem.W.typeIn K (.ref fI) = some (.type "function"))
    (be : PySem.W.subIn K (.ref B) (.type "BaseException") = some true) (bh : PySem.W.hasDictIn K B = true) (bt : PySem.W.typeIn K (.ref B) = some (.type "type"))
    (sn' : PySem.W.specialIn K (.builtin "object.__class__") "__get__" = some (some (.builtin "getset_descriptor.__get__"))) (st' : PySem.W.takesIn K (.builtin "object.__class__") = some true) : ExAll K C B fI where
  x := ⟨⟨nm, q, N, bs, bm, sn, sub, ab, col, dd, m0, m1, m2, m3, m5, x1, x2⟩, x3, x4, x5, x6⟩
  xf := ⟨x7, x8, x4, x9⟩
  c := ⟨by obtain ⟨cd, hc, _⟩ := PySem.W.any_some x9; rw [hc]; rfl, x7, x8, x4, y1, sn', st', y2⟩
  i := a
  t := y4
  em := PySem.W.exm_ref be bh bt y3
theorem kit_self {K : PySem.W.Frag} {D : Addr} : PySem.W.kitOne K (.ref D) (.ref D) = some true := by
  unfold PySem.W.kitOne
  rw [if_pos (beq_self_eq_true _)]
/-- a def that may raise, called where its promise says that it does not -/
theorem passE0 {X : Cx} : Passes (L2.CX X.prog X.w) X E0 := fun _ _ _ _ _ _ _ h => by
  obtain ⟨_, _, _, _, _, _, _, _, _, _, _, _, h⟩ := h
  exact h.elim
/-! ### ifs -/
theorem br {c A B : Prop} {i : Decidable c} (h1 : c → A) (h2 : ¬ c → B) : @ite Prop c i A B := by
  by_cases h : c
  · rw [if_pos h]
    exact h1 h
  · rw [if_neg h]
    exact h2 h
/-- an if on a Bool that is decided: by the proposition -/
theorem brd {c A B : Prop} {j : Decidable c} {i : Decidable (decide c = true)} (h1 : c → A) (h2 : ¬ c → B) : @ite Prop (decide c = true) i A B :=
  br (fun h => h1 (of_decide_eq_true h)) (fun h => h2 fun q => h (decide_eq_true q))
theorem brb {b : Bool} {A B : Prop} {i : Decidable (b = true)} (h1 : b = true → A) (h2 : b = false → B) : @ite Prop (b = true) i A B :=
  br h1 (fun h => h2 (by cases b; rfl; exact absurd rfl h))
theorem brT {b : Bool} {A B : Prop} {i : Decidable (b = true)} (e : b = true) (h : A) : @ite Prop (b = true) i A B := br (fun _ => h) fun n => absurd e n
theorem brF {b : Bool} {A B : Prop} {i : Decidable (b = true)} (e : b = false) (h : B) : @ite Prop (b = true) i A B := br (fun n => by rw [e] at n; cases n) fun _ => h
theorem tC_go {v : V} {σ : L2.St} {H : Hp} {Q : VK} (h : Q v H) : tC v σ H Q := h
/-- a rest, a letter with its bounds -/
theorem modL {i j : Int} {H : Hp} {Q : VK} (hj : 0 < j) (h : ∀ r, r = i.fmod j → 0 ≤ r → r < j → Q (.int r) H) : rI (fun _ j => j ≠ 0) (fun i j => .int (i.fmod j)) (.int i) (.int j) H Q :=
  ⟨i, j, rfl, rfl, (show j ≠ 0 by omega), h _ rfl (by rw [Int.fmod_eq_emod_of_nonneg i (by omega)]; exact Int.emod_nonneg i (by omega)) (by rw [Int.fmod_eq_emod_of_nonneg i (by omega)]; exact Int.emod_lt_of_pos i hj)⟩
/-- a quotient, a letter with its bounds -/
theorem divL {i j : Int} {H : Hp} {Q : VK} (hj : 0 < j) (hs : j < 1000000000) (h : ∀ r, r = i.fdiv j → (0 ≤ i → 0 ≤ r ∧ r ≤ i) → r * j ≤ i → i < r * j + j → Q (.int r) H) : rI CDivN (fun i j => .int (i.fdiv j)) (.int i) (.int j) H Q := by
  have e : i.fdiv j = i / j := Int.fdiv_eq_ediv_of_nonneg i (by omega)
  have h1 : i / j * j ≤ i := Int.ediv_mul_le i (by omega)
  have h2 : i < (i / j + 1) * j := Int.lt_ediv_add_one_mul_self i hj
  refine ⟨i, j, rfl, rfl, ⟨by omega, by omega⟩, h _ rfl (fun h0 => ?_) (by rw [e]; exact h1) (by rw [e]; rw [Int.add_mul, Int.one_mul] at h2; exact h2)⟩
  rw [e]
  exact ⟨Int.ediv_nonneg h0 (by omega), Int.ediv_le_self _ h0⟩
theorem int_ne {i j : Int} (h : ¬ (V.int i = V.int j)) : i ≠ j := fun e => h (by rw [e])
/-! ### heaps -/
/-- all that is tracked stands, but at b -/
def But (b : Addr) (H H' : Hp) : Prop := ∀ a o, a ≠ b → H a = some o → H' a = some o
theorem But.refl {b : Addr} {H : Hp} : But b H H := fun _ _ _ h => h
theorem But.trans {b : Addr} {H H1 H2 : Hp} (x : But b H H1) (y : But b H1 H2) : But b H H2 := fun a o n h => y a o n (x a o n h)
theorem But.of {b : Addr} {H H' : Hp} (x : Same H H') : But b H H' := fun a o _ h => x a o h
theorem But.new {b p : Addr} {H : Hp} {o : HO} (h : H p = none) : But b H (upd H p o) := fun a u _ e => by
  rw [upd_ne (ne_of_none e h)]
  exact e
theorem But.at {b : Addr} {H : Hp} {o : HO} : But b H (upd H b o) := fun a u n e => by
  rw [upd_ne n]
  exact e
theorem But.seqL {K : PySem.W.Frag} {b a : Addr} {H H' : Hp} {xs : List V} (x : But b H H') (n : a ≠ b) (h : SqL K H a xs) : SqL K H' a xs := by
  rcases h with (h | ⟨o, h⟩) | h
  · exact .inl (.inl (x _ _ n h))
  · exact .inl (.inr ⟨o, x _ _ n h⟩)
  · exact .inr h
theorem But.seqT {K : PySem.W.Frag} {b a : Addr} {H H' : Hp} {xs : List V} (x : But b H H') (n : a ≠ b) (h : SqT K H a xs) : SqT K H' a xs := by
  rcases h with (h | ⟨o, h⟩) | h
  · exact .inl (.inl (x _ _ n h))
  · exact .inl (.inr ⟨o, x _ _ n h⟩)
  · exact .inr h
theorem _root_.L2.Same.seqT {K : PySem.W.Frag} {a : Addr} {H H' : Hp} {xs : List V} (x : Same H H') (h : SqT K H a xs) : SqT K H' a xs := by
  rcases h with (h | ⟨o, h⟩) | h
  · exact .inl (.inl (x _ _ h))
  · exact .inl (.inr ⟨o, x _ _ h⟩)
  · exact .inr h
theorem _root_.L2.Same.new {p : Addr} {H : Hp} {o : HO} (h : H p = none) : Same H (upd H p o) := fun a u e => by
  rw [upd_ne (ne_of_none e h)]
  exact e
theorem upd_seqT {K : PySem.W.Frag} {a p : Addr} {H : Hp} {o : HO} {xs : List V} (n : H p = none) (h : SqT K H a xs) : SqT K (upd H p o) a xs := (L2.Same.new n).seqT h
theorem upd_seqL {K : PySem.W.Frag} {a p : Addr} {H : Hp} {o : HO} {xs : List V} (n : H p = none) (h : SqL K H a xs) : SqL K (upd H p o) a xs := (L2.Same.new n).seq h
theorem free_of_but {b p : Addr} {H H' : Hp} (x : But b H H') (n : p ≠ b) (h : H' p = none) : H p = none := by
  cases e : H p with
  | none => rfl
  | some o =>
    rw [x p o n e] at h
    cases h
theorem But.get {a b : Addr} {H H' : Hp} {o : HO} (x : But b H H') (n : a ≠ b) (h : H a = some o) : H' a = some o := x a o n h
theorem _root_.L2.Same.get {a : Addr} {H H' : Hp} {o : HO} (x : Same H H') (h : H a = some o) : H' a = some o := x a o h
theorem upd_get {a p : Addr} {H : Hp} {o u : HO} (n : H p = none) (h : H a = some u) : upd H p o a = some u := by
  rw [upd_ne (ne_of_none h n)]
  exact h
theorem upd_get' {a p : Addr} {H : Hp} {o u : HO} (n : a ≠ p) (h : H a = some u) : upd H p o a = some u := by
  rw [upd_ne n]
  exact h
theorem ne_fresh {a p : Addr} {H : Hp} {o : HO} (n : H p = none) (h : H a = some o) : a ≠ p := ne_of_none h n
theorem upd_free {a p : Addr} {H : Hp} {o : HO} (n : a ≠ p) (h : H a = none) : upd H p o a = none := by
  rw [upd_ne n]
  exact h
theorem upd_free2 {a p : Addr} {H : Hp} {o : HO} (h : upd H p o a = none) : H a = none ∧ a ≠ p := by
  have n : a ≠ p := fun e => by
    rw [e, upd_same] at h
    cases h
  rw [upd_ne n] at h
  exact ⟨h, n⟩
theorem _root_.L2.Same.mut {H H' : Hp} {p : Addr} {o : HO} (s : Same H H') (n : H p = none) : Same H (upd H' p o) := fun a u e => by
  rw [upd_ne (ne_of_none e n)]
  exact s a u e
theorem But.mut {b p : Addr} {H H' : Hp} {o : HO} (s : But b H H') (n : H p = none) : But b H (upd H' p o) := fun a u m e => by
  rw [upd_ne (ne_of_none e n)]
  exact s a u m e
theorem lt_line {n : Nat} (h : n < 1000000) : n < sizeLine := Nat.lt_of_lt_of_le h (by decide)
theorem le_line {n : Nat} (h : n ≤ 1000000) : n ≤ sizeLine := Nat.le_trans h (by decide)
theorem ixN_of {n j : Nat} {i : Int} (e : i = (j : Int)) (h : j < n) : ixN n i = some j := by
  subst e
  unfold ixN
  rw [if_pos (by omega), if_pos (by omega)]
  simp
theorem ixN_lt {n j : Nat} {i : Int} (e : i = (j : Int)) (h : Nat.blt j n = true) : ixN n i = some j := ixN_of e (by simpa using h)
theorem atI_of {α : Type} {xs : List α} {i : Int} {j : Nat} {v : α} (e : i = (j : Int)) (h : xs[j]? = some v) : atI xs i = some v := by
  unfold atI
  rw [ixN_of e (List.getElem?_eq_some_iff.mp h).1]
  exact h
theorem atI_ex {α : Type} {xs : List α} {i : Int} (h0 : 0 ≤ i) (h1 : i < xs.length) : ∃ v, atI xs i = some v ∧ v ∈ xs := by
  have hj : i.toNat < xs.length := by omega
  exact ⟨xs[i.toNat], atI_of (j := i.toNat) (by omega) (List.getElem?_eq_getElem hj), List.getElem_mem hj⟩
/-! ### texts -/
open TL in
theorem joinL_nil : ∀ ps : List (List Nat), joinL [] ps = ps.flatten
  | [] => rfl
  | [p] => by simp [joinL]
  | p :: q :: r => by
    show p ++ ([] ++ joinL [] (q :: r)) = (p :: q :: r).flatten
    rw [joinL_nil (q :: r)]
    simp
open TL in
theorem join_flat (ys : List Str) : (Txt.join ("" : Str) ys).cps.toList = (ys.map fun y => y.cps.toList).flatten := by
  rw [join_eq]
  have h := tl_join "" ys
  have e : tl ("" : Str) = [] := by decide +kernel
  rw [e, joinL_nil] at h
  exact h
theorem len_cps (s : Str) : s.length = s.cps.toList.length := by simp [Str.length]
/-- texts of one sign each, joined -/
theorem join_ones (f : Nat → Bool) (ys : List Str) (h : ∀ y ∈ ys, ∃ c, y = (⟨#[c]⟩ : Str) ∧ f c = true) : (Txt.join ("" : Str) ys).length = ys.length ∧ (Txt.join ("" : Str) ys).cps.toList.all f = true := by
  rw [len_cps, join_flat]
  induction ys with
  | nil => exact ⟨rfl, rfl⟩
  | cons y r ih =>
    obtain ⟨c, rfl, hc⟩ := h y (List.mem_cons_self ..)
    obtain ⟨i1, i2⟩ := ih fun z hz => h z (List.mem_cons_of_mem _ hz)
    simp only [List.map_cons, List.flatten_cons, List.length_append, List.length_cons, List.all_append, i1, i2]
    simp [hc]
    omega
theorem sum_ones (ys : List Str) (f : Nat → Bool) (h : ∀ y ∈ ys, ∃ c, y = (⟨#[c]⟩ : Str) ∧ f c = true) : (ys.map (·.length)).sum = ys.length := by
  induction ys with
  | nil => rfl
  | cons y r ih =>
    obtain ⟨c, rfl, hc⟩ := h y (List.mem_cons_self ..)
    have := ih fun z hz => h z (List.mem_cons_of_mem _ hz)
    simp only [List.map_cons, List.sum_cons, List.length_cons, this]
    show 1 + r.length = r.length + 1
    omega
theorem mem_int {ns : List Int} {i : Nat} {x : V} (h : (ns.map V.int)[i]? = some x) : ∃ z, ns[i]? = some z ∧ x = .int z ∧ z ∈ ns := by
  rw [List.getElem?_map] at h
  cases e : ns[i]? with
  | none =>
    rw [e] at h
    cases h
  | some z =>
    rw [e] at h
    exact ⟨z, rfl, (Option.some.inj h).symm, List.mem_of_getElem? e⟩
theorem atI_all {ns : List Int} {i : Int} {C : Int → Prop} (h0 : 0 ≤ i) (h1 : i < ns.length) (f : ∀ n ∈ ns, C n) : ∃ n, atI (ns.map V.int) i = some (.int n) ∧ C n := by
  have hj : i.toNat < ns.length := by omega
  refine ⟨ns[i.toNat], atI_of (j := i.toNat) (by omega) ?_, f _ (List.getElem_mem hj)⟩
  rw [List.getElem?_map, List.getElem?_eq_getElem hj]
  rfl
theorem disp {n : Nat} (h : Nat.ble n 1000000 = true) : n ≤ sizeLine := le_line (Nat.le_of_ble_eq_true h)
/-! ### comprehensions whose element changes nothing -/
theorem lcR_go {lo : Int} {n j : Nat} {te : TE} {vs : List Nat} {σ : L2.St} {H1 : Hp} {D : Addr} {Qd : Hp → Prop} (f : Nat → V) (hn : n ≤ 1000000) (hw : ∀ x, wipe ((wipe σ vs).set j (some x)) vs = wipe σ vs)
    (ht : ∀ (i : Nat) (H' : Hp) (Q : VK), i < n → Same H1 H' → Q (f i) H' → te ((wipe σ vs).set j (some (.int (lo + i)))) H' Q) (hD : H1 D = none) (hd : Qd (upd H1 D (.lst ((List.range n).map f)))) :
    ∃ W : Nat → Nat → Hp → Prop, (∃ m, W 0 m (upd H1 D (.lst []))) ∧ ∀ i m H, W i m H →
      ((Itr lo n).stop i H ∧ Qd H) ∨ ((Itr lo n).go i H ∧ ∃ Nx : Hp → Prop, (∀ H', Nx H' → ∃ m', m' < m ∧ W (i + 1) m' H') ∧ ∀ x H', (Itr lo n).yld i H x H' → gName j x (wipe σ vs) H' fun σ2 H2 => wipe σ2 vs = wipe σ vs ∧ tYes σ2 H2 fun b H3 =>
        if b = true then te σ2 H3 fun y H4 => ∃ acc, H4 D = some (.lst acc) ∧ acc.length < sizeLine ∧ Nx (upd H4 D (.lst (acc ++ [y]))) else Nx H3) := by
  refine lc_range (lo := lo) (n := n) (fun i H' => H' = upd H1 D (.lst ((List.range i).map f))) rfl (fun i H' hi e => ?_) (fun H' e => by rw [e]; exact hd)
  subst e
  refine ⟨hw _, ?_⟩
  unfold tYes
  refine brT rfl ?_
  refine ht i _ _ hi (Same.new hD) ⟨_, upd_same, by rw [List.length_map, List.length_range]; exact lt_line (by omega), ?_⟩
  rw [upd_upd, List.range_succ, List.map_append]
  rfl
theorem lcL_go {K : PySem.W.Frag} {p : Addr} {xs : List V} {j : Nat} {te : TE} {vs : List Nat} {σ : L2.St} {H1 : Hp} {D : Addr} {Qd : Hp → Prop} (f : V → V) (hn : xs.length ≤ 1000000) (hw : ∀ x, wipe ((wipe σ vs).set j (some x)) vs = wipe σ vs) (hS : SqL K H1 p xs)
    (ht : ∀ (x : V) (H' : Hp) (Q : VK), x ∈ xs → Same H1 H' → Q (f x) H' → te ((wipe σ vs).set j (some x)) H' Q) (hD : H1 D = none) (hd : Qd (upd H1 D (.lst (xs.map f)))) :
    ∃ W : Nat → Nat → Hp → Prop, (∃ m, W 0 m (upd H1 D (.lst []))) ∧ ∀ i m H, W i m H →
      ((Itl K p).stop i H ∧ Qd H) ∨ ((Itl K p).go i H ∧ ∃ Nx : Hp → Prop, (∀ H', Nx H' → ∃ m', m' < m ∧ W (i + 1) m' H') ∧ ∀ x H', (Itl K p).yld i H x H' → gName j x (wipe σ vs) H' fun σ2 H2 => wipe σ2 vs = wipe σ vs ∧ tYes σ2 H2 fun b H3 =>
        if b = true then te σ2 H3 fun y H4 => ∃ acc, H4 D = some (.lst acc) ∧ acc.length < sizeLine ∧ Nx (upd H4 D (.lst (acc ++ [y]))) else Nx H3) := by
  refine lc_list (xs := xs) (fun i H' => H' = upd H1 D (.lst ((xs.take i).map f))) rfl (fun i H' _ e => by rw [e]; exact (Same.new hD).seq hS) (fun i x H' hx e => ?_) (fun H' e => by rw [e, List.take_length]; exact hd)
  subst e
  refine ⟨hw _, ?_⟩
  unfold tYes
  refine brT rfl ?_
  have hi := (List.getElem?_eq_some_iff.mp hx).1
  refine ht x _ _ (List.mem_of_getElem? hx) (Same.new hD) ⟨_, upd_same, by rw [List.length_map, List.length_take]; exact lt_line (by omega), ?_⟩
  rw [upd_upd, List.take_add_one, hx, List.map_append]
  rfl
theorem flat_rep {α : Type} (k : Nat) (x : α) : (List.replicate k [x]).flatten = List.replicate k x := by
  induction k with
  | zero => rfl
  | succ k ih =>
    rw [List.replicate_succ, List.flatten_cons, ih, List.replicate_succ]
    rfl
/-! ### readings, one step -/
section
variable {K : PySem.W.Frag} {H : Hp} {p l q' : Addr} {xs ys : List V} {i : Int} {j : Nat} {v y : V} {Q : VK} {R : Hp → Prop}
theorem ixL_go (h : SqL K H p xs) (e : atI xs i = some v) (q : Q v H) : rIxL K (.ref p) (.int i) H Q := ⟨p, xs, i, v, rfl, rfl, h, e, q⟩
theorem ixT_go (h : SqT K H p xs) (e : atI xs i = some v) (q : Q v H) : rIxT K (.ref p) (.int i) H Q := ⟨p, xs, i, v, rfl, rfl, h, e, q⟩
theorem setL_go (h : H p = some (.lst xs)) (e : ixN xs.length i = some j) (q : R (upd H p (.lst (xs.set j v)))) : rSetL (.ref p) (.int i) v H R := ⟨p, xs, i, j, rfl, rfl, h, e, q⟩
theorem app_go (h : H p = some (.lst xs)) (hl : xs.length < 1000000) (q : Q .non (upd H p (.lst (xs ++ [y])))) : rAppend (.ref p) [y] H Q := ⟨p, xs, y, rfl, rfl, h, lt_line hl, q⟩
theorem cat_go (h : H p = some (.lst xs)) (h' : H l = some (.lst ys)) (hl : xs.length + ys.length ≤ 1000000) (q : ∀ r, H r = none → Q (.ref r) (upd H r (.lst (xs ++ ys)))) : rCat (.ref p) (.ref l) H Q := ⟨p, l, xs, ys, rfl, rfl, h, h', le_line hl, q⟩
end
end Al
/-! ## rules under a token given out (1 ≤ s.toks): for what compares the identity of written texts -/
namespace Al
open PySem PySem.Spec PyProof.Rows L2 CwR
theorem thnT {α : Type} {t : Sem α} {Q Q' : α → Shared → Prop} {M : Model} {A : Around} {E : Value → Shared → Prop} {s : Shared} (h0 : 1 ≤ s.toks) (h : wpAny M A t Q E s) (hQ : ∀ a s', 1 ≤ s'.toks → Q a s' → Q' a s') : wpAny M A t Q' E s :=
  wpAny_mono (PySem.wpAny_toks_of h0 h) (fun a s' x => hQ a s' x.1 x.2) fun _ _ x => x.2
def PTT (X : Cx) (e : Expr) (t : TT) : Prop := ∀ (pins : List (Addr × Obj)) (s : Shared) (σ : L2.St) (H : Hp) (Q : Bool → Hp → Prop), 1 ≤ s.toks → Inv X pins σ H s → t σ H Q → wpAny (model X.prog X.w) X.A (isTrue e X.env (eval e X.env)) (TP X pins σ Q) X.xe s
def PWT (X : Cx) (e : Expr) (t : TT) : Prop := ∀ (whole : Sem Value) (pins : List (Addr × Obj)) (s : Shared) (σ : L2.St) (H : Hp) (Q : Bool → Hp → Prop), 1 ≤ s.toks → Inv X pins σ H s → t σ H Q → wpAny (model X.prog X.w) X.A (isTrue e X.env whole) (TP X pins σ Q) X.xe s
def PKT (X : Cx) (kws : List Keyword) (t : TA) : Prop := ∀ (pos : Pos) (pins : List (Addr × Obj)) (s : Shared) (σ : L2.St) (H : Hp) (Q : List V → Hp → Prop), 1 ≤ s.toks → PK X kws t
section
variable {X : Cx} {e a b : Expr} {te ta tb : TE} {t u : TS} {tt tu : TT} {pos : Pos} {st : Stmt} {rest : List Stmt} {es r : List Expr}
theorem PTT.of (h : PT X e tt) : PTT X e tt := fun pins s σ H Q _ I q => h.run pins s σ H Q I q
theorem PWT.ptt (h : PWT X e tt) : PTT X e tt := h _
theorem PWT.of (h : PW X e tt) : PWT X e tt := fun wh pins s σ H Q _ I q => h.run wh pins s σ H Q I q
theorem PAT.of {ta : TA} (h : PA X es ta) : PAT X es ta := fun pos pins s σ H Q _ I q => h.run pos pins s σ H Q I q
theorem ptt_val (h : PET X e te) (he : ∀ whole, isTrue e X.env whole = (do let v ← whole; standAt e.pos; holding [v] (truthy v)) := by intro _; rfl) : PTT X e (tB te) := by
  intro pins s σ H Q h0 I hw
  refine isTrue_plain (thn (h pins s σ H _ h0 I hw) fun v s1 ⟨x, H1, I1, r1, q1⟩ => ?_) (he _)
  obtain ⟨d, rfl, q⟩ := q1
  cases r1
  exact wpAny_truthy_bool ⟨H1, I1, q⟩
theorem ptt_not (ha : PTT X a tt) : PTT X (.UnaryOp .Not a pos) (tNot tt) := fun pins s σ H Q h0 I h => isTrue_not (ha pins s σ H (fun c H1 => Q (!c) H1) h0 I h)
theorem pwt_and1 (ha : PTT X a tt) : PWT X (.BoolOp .And [a] pos) tt := by
  intro wh pins s σ H Q h0 I h
  refine isTrue_and (thn (ha pins s σ H Q h0 I h) fun c s1 e => ?_)
  cases c with
  | true => exact isTrue_and_nil e
  | false => exact e
theorem pwt_or1 (ha : PTT X a tt) : PWT X (.BoolOp .Or [a] pos) tt := by
  intro wh pins s σ H Q h0 I h
  refine isTrue_or (thn (ha pins s σ H Q h0 I h) fun c s1 e => ?_)
  cases c with
  | false => exact isTrue_or_nil e
  | true => exact e
theorem pwt_and (ha : PTT X a tt) (hb : PWT X (.BoolOp .And (b :: r) pos) tu) : PWT X (.BoolOp .And (a :: b :: r) pos) (tAnd tt tu) := by
  intro wh pins s σ H Q h0 I h
  refine isTrue_and (thnT h0 (ha pins s σ H _ h0 I h) fun c s1 h1 ⟨H1, I1, q1⟩ => ?_)
  cases c with
  | true => exact hb wh pins s1 σ H1 Q h1 I1 q1
  | false => exact ⟨H1, I1, q1⟩
theorem pwt_or (ha : PTT X a tt) (hb : PWT X (.BoolOp .Or (b :: r) pos) tu) : PWT X (.BoolOp .Or (a :: b :: r) pos) (tOr tt tu) := by
  intro wh pins s σ H Q h0 I h
  refine isTrue_or (thnT h0 (ha pins s σ H _ h0 I h) fun c s1 h1 ⟨H1, I1, q1⟩ => ?_)
  cases c with
  | true => exact ⟨H1, I1, q1⟩
  | false => exact hb wh pins s1 σ H1 Q h1 I1 q1
theorem pet_one {op} (h : PET X a te) : PET X (.BoolOp op [a] pos) te := fun pins s σ H Q h0 I hw => BoolOp_one (h pins s σ H Q h0 I hw)
theorem pet_and (ha : PET X a ta) (hb : PET X (.BoolOp .And (b :: r) pos) tb) : PET X (.BoolOp .And (a :: b :: r) pos) (tAndV ta tb) := by
  intro pins s σ H Q h0 I h
  refine BoolOp_and (thnT h0 (ha pins s σ H _ h0 I h) fun v s1 h1 ⟨x, H1, I1, r1, q1⟩ => ?_)
  obtain ⟨c, rfl, q1⟩ := q1
  cases r1
  refine wpAny_truthy_bool ?_
  cases c with
  | true => exact hb pins s1 σ H1 Q h1 I1 q1
  | false => exact ⟨.bl false, H1, I1, rfl, q1⟩
theorem pet_or (ha : PET X a ta) (hb : PET X (.BoolOp .Or (b :: r) pos) tb) : PET X (.BoolOp .Or (a :: b :: r) pos) (tOrV ta tb) := by
  intro pins s σ H Q h0 I h
  refine BoolOp_or (thnT h0 (ha pins s σ H _ h0 I h) fun v s1 h1 ⟨x, H1, I1, r1, q1⟩ => ?_)
  obtain ⟨c, rfl, q1⟩ := q1
  cases r1
  refine wpAny_truthy_bool ?_
  cases c with
  | false => exact hb pins s1 σ H1 Q h1 I1 q1
  | true => exact ⟨.bl true, H1, I1, rfl, q1⟩
theorem pet_not (ha : PET X a ta) : PET X (.UnaryOp .Not a pos) (tNotV ta) := by
  intro pins s σ H Q h0 I h
  refine UnaryOp_ (thn (ha pins s σ H _ h0 I h) fun v s1 ⟨x, H1, I1, r1, q1⟩ => ?_)
  obtain ⟨c, rfl, q1⟩ := q1
  cases r1
  exact not_of (wpAny_truthy_bool ⟨.bl (!c), H1, I1, rfl, q1⟩)
theorem pet_cmpR {op : CmpOp} {r : R2} (ho : OpR X (compareOp op) r) (ha : PET X a ta) (hb : PET X b tb) (hm : behindInMarks op b = false) : PET X (.Compare a [op] [b] pos) (tOp r ta tb) := by
  intro pins s σ H Q h0 I h
  exact wpAny_Compare1 (thnT h0 (ha pins s σ H _ h0 I h) fun v s1 h1 ⟨x, H1, I1, r1, q1⟩ => thn (hb pins s1 σ H1 _ h1 I1 q1) fun u s2 ⟨y, H2, I2, r2, q2⟩ => ho pins s2 σ H2 x y v u Q I2 r1 r2 q2) hm
theorem ptt_cmpR {op : CmpOp} {r : R2} (ho : OpR X (compareOp op) r) (ha : PET X a ta) (hb : PET X b tb) (hm : behindInMarks op b = false) : PTT X (.Compare a [op] [b] pos) (tTest (tOp r ta tb)) := by
  intro pins s σ H Q h0 I h
  refine wpAny_isTrue_Compare1 (thnT h0 (ha pins s σ H _ h0 I h) fun v s1 h1 ⟨x, H1, I1, r1, q1⟩ => thn (hb pins s1 σ H1 _ h1 I1 q1) fun u s2 ⟨y, H2, I2, r2, q2⟩ =>
    thn (ho pins s2 σ H2 x y v u _ I2 r1 r2 q2) fun c s3 ⟨z, H3, I3, r3, k, e, q3⟩ => ?_) hm
  subst e
  cases r3
  exact wpAny_truthy_bool ⟨H3, I3, q3⟩
theorem pet_bm0 {T : String} {name : Str} {id : String} {r' : V → List V → Hp → VK → Prop} {o : Expr} {to : TE} {apos cpos : Pos} (pa : PlainAttrs T) (slot : Slot T name id) (hty : typeOf (.builtin id) = pure (.type "method_descriptor")) (hm : MtR X id r') (ho : PET X o to)
    (hbase : attributeBase o name X.env (eval o X.env) = eval o X.env := by rfl) (hline : (apos.endLine == cpos.line) = true := by rfl) : PET X (.Call (.Attribute o name apos) [] [] cpos) (tBM0 X.K T r' to) := by
  intro pins s σ H Q h0 I h
  refine wpAny_Call_method0_late hbase hline (thn (ho pins s σ H _ h0 I h) fun v s1 ⟨x, H1, I1, r1, ty, q1⟩ => ?_)
  obtain ⟨h1, h2⟩ := tyV_is I1 r1 ty
  exact ⟨T, id, pa, slot, hty, h1, h2, Calls.callWith_builtin rfl (PySem.evalArgs_none (hm pins s1 σ H1 x [] v [] Q I1 r1 .nil q1))⟩
theorem pst_ifT {c : Expr} {x y : List Stmt} (hc : PTT X c tt) (ha : PSsT X x t) (hb : PSsT X y u) : PST X (.If c x y pos) (tIfS tt t u) := by
  intro pins s σ H D h0 I h
  refine wpAny_If (thnT h0 (hc pins s σ H _ h0 I h) fun d s1 hk ⟨H1, I1, q1⟩ => ?_)
  cases d with
  | true => exact ha pins s1 σ H1 D hk I1 q1
  | false => exact hb pins s1 σ H1 D hk I1 q1
theorem pst_expr (he : PET X e te) (hs : swapsWith e none pos.line X.env = pure false := by rfl) : PST X (.Expr e pos) (tDrop te) := fun pins s σ H D h0 I h =>
  wpAny_Expr_any (thn (he pins s σ H _ h0 I h) fun v s1 ⟨x, H1, I1, r1, q1⟩ => ⟨σ, H1, I1, q1⟩) I.quiet hs
theorem pst_set {i : Nat} {x : Str} {pos' : Pos} (hN : X.N.Nodup) (hi : X.N[i]? = some x) (hx : Loc X.env.scope x) (he : PET X e te) (hs : swapsWith e (some (.Name x pos')) pos.line X.env = pure false := by rfl) (hf : X.fn x = true ∨ X.env.scope.names.lookup x = some .local := by first | exact .inl rfl | exact .inr rfl | assumption) :
    PST X (.Assign [.Name x pos'] e pos) (tAsg te (gName i)) := fun pins s σ H D h0 I h =>
  wpAny_Assign_Name (thn (he pins s σ H _ h0 I h) fun v s1 ⟨y, H1, I1, r1, q1⟩ => store_ok I1 hN hi hx r1 (fun s2 I2 => ⟨_, H1, I2, q1⟩) hf) hs
theorem psst_cut (h1 : PST X st t) (h2 : PSsT X rest u) : PSsT X (st :: rest) (Evl.tCut t u) := by
  intro pins s σ H D h0 I h
  obtain ⟨Mid, hm, hu⟩ := h
  refine wpAny_execs_cons (thnT h0 (h1 pins s σ H { D with nx := Mid } h0 I hm) fun f s1 hk q => ?_)
  cases f with
  | next =>
    obtain ⟨σ', H', I', q⟩ := q
    exact h2 pins s1 σ' H' D hk I' (hu σ' H' q)
  | ret v => exact q
  | brk => exact q
  | cont => exact q
/-- for, one token out: within the body, too -/
theorem pst_forT {tg iter : Expr} {body : List Stmt} {wi : TI} {g : TG} {tb : TS} (hp : PassesOwn (model X.prog X.w) X.A X.env X.xe) (hc : X.calm = true) (hi : PIT X tg iter wi) (hg : PG X tg g) (hb : PSsT X body tb)
    (hs : ∀ x, foldedSetIterable iter X.env x = pure x := by intro _; rfl) : PST X (.For tg iter body [] pos) (tFor wi g tb) := by
  intro pins s σ H D h0 I h
  refine wpAny_For (thnT h0 (hi pins s σ H _ h0 I h) fun v s1 k1 h1 => thnT k1 h1 fun itv s2 k2 h2 => ?_) hs
  obtain ⟨it, fp, tn, J, H2, e, I2, T, st2, f2, W, ⟨m0, w0⟩, turn⟩ := h2
  subst e
  have stat : ∀ {H' : Hp}, (∀ b ∈ fp, H' b = none) → ∀ b ∈ fp, FpOk X pins H' b := fun hn b hb => ⟨hn b hb, (f2 b hb).2⟩
  refine codeAny_forLoop_any (fun n s' => ∃ i σ' H', 1 ≤ s'.toks ∧ Inv X pins σ' H' s' ∧ tn i s'.heap ∧ (∀ b ∈ fp, H' b = none) ∧ W i n σ' H') ?_ m0 ⟨0, σ, H2, k2, I2, st2, fun b hb => (f2 b hb).1, w0⟩
  rintro n s3 ⟨i, σ3, H3, k3, I3, st3, fr3, w3⟩
  rcases turn i n σ3 H3 w3 with ⟨stop, qn⟩ | ⟨go, N, hN, step⟩
  · refine wpAny_passesOwn hp (thn (T.done X rfl rfl rfl hc i pins s3 σ3 H3 X.xe I3 (stat fr3) st3 stop) fun r s4 ⟨hr, I4⟩ => ?_)
    subst hr
    exact wpAny_execs_nil ⟨σ3, H3, I4, qn⟩
  · refine wpAny_passesOwn hp (thnT k3 (T.item X rfl rfl rfl hc i pins s3 σ3 H3 X.xe I3 (stat fr3) st3 go) fun r s4 k4 ⟨u, hr, h4⟩ => ?_)
    subst hr
    refine wpAny_passesOwn hp (thnT k4 h4 fun _ s5 k5 ⟨x, H5, I5, r5, y5, st5, fr5⟩ => ?_)
    have I5' := I5.pinned (stat fr5) (T.obj _ _ st5)
    refine wpAny_passesOwn hp (thnT k5 (hg.run _ s5 σ3 H5 x u _ I5' r5 (step x H5 y5)) fun _ s6 k6 ⟨σ6, H6, I6, q6⟩ => ?_)
    refine wpAny_passesOwn hp (thnT k6 (hb _ s6 σ6 H6 _ k6 I6 q6) fun f s7 k7 q7 => ?_)
    have again : ∀ {σ7 : L2.St} {H7 : Hp}, Inv X (pins ++ pinsAt fp s5.heap) σ7 H7 s7 → N σ7 H7 → ∃ m, m < n ∧ ∃ i σ' H', 1 ≤ s7.toks ∧ Inv X pins σ' H' s7 ∧ tn i s7.heap ∧ (∀ b ∈ fp, H' b = none) ∧ W i m σ' H' := fun {σ7 H7} I7 n7 => by
      obtain ⟨m', hm, w7⟩ := hN σ7 H7 n7
      refine ⟨m', hm, i + 1, σ7, H7, k7, I7.unpinned, T.keep _ _ _ st5 fun b hb o e => (I7.pin (b, o) (List.mem_append_right _ (List.mem_append_right _ (mem_pinsAt hb e)))).1, fun b hb => ?_, w7⟩
      obtain ⟨o, e, d⟩ := T.obj _ _ st5 b hb
      exact (I7.pin (b, o) (List.mem_append_right _ (List.mem_append_right _ (mem_pinsAt hb e)))).2.1
    cases f with
    | next => obtain ⟨σ7, H7, I7, n7⟩ := q7; exact again I7 n7
    | cont => obtain ⟨σ7, H7, I7, n7⟩ := q7; exact again I7 n7
    | brk => obtain ⟨σ7, H7, I7, q7⟩ := q7; exact ⟨σ7, H7, I7.unpinned, q7⟩
    | ret v => obtain ⟨x7, σ7, H7, I7, r7, q7⟩ := q7; exact ⟨x7, σ7, H7, I7.unpinned, r7, q7⟩
theorem PIT.of {tg it : Expr} {wi : TI} (h : PI X tg it wi) : PIT X tg it wi := fun pins s σ H R _ I q => h.run pins s σ H R I q
end
/-- a def's promise, kept where a token is out -/
structure FnOkN (n : Nat) (P : Program) (w : World) (K : PySem.W.Frag) (mg : Str → Option Value) (base : Heap) (CX : CXT) (k : Nat) (f : Addr) (fd : FuncData) (ps : List Str) (sp : Sp) : Prop where
  len : ∀ vs H Q E, sp vs H Q E → vs.length = ps.length
  run : ∀ (A : Around) (outer : List Env) (s : Shared) (H : Hp) (args : Args) (us : List Value) (vs : List V) (Q : VK) (E : XK), n ≤ s.toks → A.guards = some [] → Room k A → Env0 P w K mg base A outer s H → BindsTo s fd args (ps.zip us) → Vals vs us → sp vs H Q E →
    codeAny (model P w) A (.call (.ref f) args) (CR CX outer P w H s Q E) s
section
variable {CX : CXT} {P : Program} {w : World} {K : PySem.W.Frag} {mg : Str → Option Value} {base : Heap} {k : Nat} {f : Addr}
theorem fn_ofN {n : Nat} {name qual : Str} {params : Arguments} {body : List Stmt} {scope : Scope} {dV kV doc pm cdv ct oc : Value} {an od : Option Addr}
    {osl : Array (Option Value)} {N ps : List Str} {sp : Sp} (lk : K.lookup f = some ⟨oc, od, .func (PySem.W.fnOf name qual params body scope dV kV doc pm an cdv ct), osl⟩) (hcd : PySem.W.codeIn K cdv qual = true) (S : FnScope N ps scope)
    (len : ∀ vs H Q E, sp vs H Q E → vs.length = ps.length)
    (hbody : ∀ (A : Around) (outer : List Env) (s : Shared) (H : Hp) (vs : List V) (Q : VK) (E : XK), A.guards = some [] → Room k (A.deeper (envOfC qual scope s.heap.objs.size f cdv)) → sp vs H Q E →
      ∃ t : TS, (∀ (pins : List (Addr × Obj)) (s' : Shared) (σ : L2.St) (H' : Hp) (D : Ends), n ≤ s'.toks → Inv (cxOf CX P w K mg base N qual scope f cdv A outer s H E) pins σ H' s' → t D σ H' → wpAny (model P w) (cxOf CX P w K mg base N qual scope f cdv A outer s H E).A (execs body (cxOf CX P w K mg base N qual scope f cdv A outer s H E).env) (SP (cxOf CX P w K mg base N qual scope f cdv A outer s H E) pins D) (cxOf CX P w K mg base N qual scope f cdv A outer s H E).xe s') ∧ t { nx := fun _ H' => Q .non H', rt := Q } (start N vs) H) :
    FnOkN n P w K mg base CX (k + 1) f (PySem.W.fnOf name qual params body scope dV kV doc pm an cdv ct) ps sp := by
  refine ⟨len, fun A outer s H args us vs Q E htk hg hr e0 hb r hsp => ?_⟩
  have hl := len _ _ _ _ hsp
  have KX : K.In s.heap := e0.mod.kin.keeps fun b o e => (e0.bs b o e).1
  have lim : s.heap.NoLimit := e0.mod.nolimit.keeps fun b o e => (e0.bs b o e).1
  have hkind : ∀ y ∈ ps.zip us, scope.names.lookup y.1 = some .local ∨ (scope.names.lookup y.1 = some .cell ∧ ((cellsFrom (s.heap.objs.size + 1) scope.names []).lookup y.1).isSome = true) := fun ⟨n, v⟩ hy => by
    rcases S.par n (List.of_mem_zip hy).1 with q | q
    · exact .inl q
    · exact .inr ⟨q, PySem.W.cellsFrom_some _ _ _ (.inl q)⟩
  refine codeAny_call_function hr.depth (KX _ _ lk) rfl S.co S.gen rfl (PySem.W.codeRec_of KX hcd) (hb _ _ _ _ ?_)
  refine PySem.wpAny_with_toks htk ?_
  refine wpAny_newFunctionEnv_cells S.kind hkind fun env he s1 x hk1 => ?_
  subst he
  refine ⟨lim.keeps x.toInCall.keep, codeAny_func ?_⟩
  obtain ⟨t, ht, hq⟩ := hbody A outer s H vs Q E hg (hr.deeper _) hsp
  have I : Inv (cxOf CX P w K mg base N qual scope f cdv A outer s H E) [] (start N vs) H s1 := inv_start S hr.hd e0 hl r x
  refine wpAny_mono (ht [] s1 (start N vs) H _ hk1 I hq) (fun fl s' hs => ?_) fun e s' hs => hs
  have fin : ∀ {σ' : L2.St} {H' : Hp} {v : V} {u : Value}, Inv (cxOf CX P w K mg base N qual scope f cdv A outer s H E) [] σ' H' s' → RelV v u → Q v H' → CE outer P w H s Q u s' :=
    fun {σ' H' v u} J rv q => ⟨v, H', J.os, J.bare, J.base, J.hok, rv, q⟩
  cases fl with
  | ret u =>
    obtain ⟨v, σ', H', J, rv, q⟩ := hs
    exact fin J rv q
  | next =>
    obtain ⟨σ', H', J, q⟩ := hs
    exact fin (v := V.non) (u := Value.none) J rfl q
  | brk =>
    obtain ⟨_, _, _, q⟩ := hs
    exact False.elim q
  | cont =>
    obtain ⟨_, _, _, q⟩ := hs
    exact False.elim q
/-- as Fun.ok, Fun.okX, under a token -/
theorem _root_.L2.Fun.okT {x qual : Str} {st : Stmt} {f : Addr} {fd : FuncData} {N ps : List Str} {k : Nat} {sp : Sp} (F : Fun K x qual st f fd) (S : FnScope N ps (defScope st)) (len : ∀ vs H Q E, sp vs H Q E → vs.length = ps.length)
    (hbody : ∀ (cdv : Value) (A : Around) (outer : List Env) (s : Shared) (H : Hp) (vs : List V) (Q : VK) (E : XK), A.guards = some [] → Room k (A.deeper (envOfC qual (defScope st) s.heap.objs.size f cdv)) → sp vs H Q E →
      ∃ t, PSsT (cxOf CX P w K mg base N qual (defScope st) f cdv A outer s H E) (defBody st) t ∧ t { nx := fun _ H' => Q .non H', rt := Q } (start N vs) H) : FnOkN 1 P w K mg base CX (k + 1) f fd ps sp := by
  obtain ⟨oc, od, kV, doc, pm, an, cdv, ct, osl, rfl, lk, hcd⟩ := F.ex
  exact fn_ofN lk hcd S len fun A outer s H vs Q E hg hr hsp => hbody cdv A outer s H vs Q E hg hr hsp
/-- .. where no token is asked for, but that no repr is under way -/
theorem _root_.L2.Fun.okG {x qual : Str} {st : Stmt} {f : Addr} {fd : FuncData} {N ps : List Str} {k : Nat} {sp : Sp} (F : Fun K x qual st f fd) (S : FnScope N ps (defScope st)) (len : ∀ vs H Q E, sp vs H Q E → vs.length = ps.length)
    (hbody : ∀ (cdv : Value) (A : Around) (outer : List Env) (s : Shared) (H : Hp) (vs : List V) (Q : VK) (E : XK), A.guards = some [] → Room k (A.deeper (envOfC qual (defScope st) s.heap.objs.size f cdv)) → sp vs H Q E →
      ∃ t, PSs (cxOf CX0 P w K mg base N qual (defScope st) f cdv A outer s H E).nox (defBody st) t ∧ t { nx := fun _ H' => Q .non H', rt := Q } (start N vs) H) : FnOkN 0 P w K mg base CX0 (k + 1) f fd ps sp := by
  obtain ⟨oc, od, kV, doc, pm, an, cdv, ct, osl, rfl, lk, hcd⟩ := F.ex
  refine fn_ofN lk hcd S len fun A outer s H vs Q E hg hr hsp => ?_
  obtain ⟨t, h, q⟩ := hbody cdv A outer s H vs Q E hg hr hsp
  exact ⟨t, fun pins s σ H D _ I z => h.nox.run pins s σ H D I z, q⟩
/-- .. a def that lets no exception out, with loops -/
theorem _root_.L2.Fun.okT0 {x qual : Str} {st : Stmt} {f : Addr} {fd : FuncData} {N ps : List Str} {k : Nat} {sp : Sp} (F : Fun K x qual st f fd) (S : FnScope N ps (defScope st)) (len : ∀ vs H Q E, sp vs H Q E → vs.length = ps.length)
    (hbody : ∀ (cdv : Value) (A : Around) (outer : List Env) (s : Shared) (H : Hp) (vs : List V) (Q : VK) (E : XK), A.guards = some [] → Room k (A.deeper (envOfC qual (defScope st) s.heap.objs.size f cdv)) → sp vs H Q E →
      ∃ t, PSsT (cxOf CX0 P w K mg base N qual (defScope st) f cdv A outer s H E).nox (defBody st) t ∧ t { nx := fun _ H' => Q .non H', rt := Q } (start N vs) H) : FnOkN 1 P w K mg base CX0 (k + 1) f fd ps sp := by
  obtain ⟨oc, od, kV, doc, pm, an, cdv, ct, osl, rfl, lk, hcd⟩ := F.ex
  refine fn_ofN lk hcd S len fun A outer s H vs Q E hg hr hsp => ?_
  obtain ⟨t, h, q⟩ := hbody cdv A outer s H vs Q E hg hr hsp
  exact ⟨t, fun pins s σ H D h0 I z => wpAny_mono (h pins s σ H D h0 (I.wish _) z) (fun _ _ q => q.unwish) fun _ _ z => False.elim z, q⟩
end
abbrev FnOkT := FnOkN 1
theorem FnOkN.of {n : Nat} {P : Program} {w : World} {K : PySem.W.Frag} {mg : Str → Option Value} {base : Heap} {CX : CXT} {k : Nat} {f : Addr} {fd : FuncData} {ps : List Str} {sp : Sp} (F : FnOk P w K mg base CX k f fd ps sp) : FnOkN n P w K mg base CX k f fd ps sp :=
  ⟨F.len, fun A outer s H args us vs Q E _ _ => F.run A outer s H args us vs Q E⟩
section
variable {X : Cx} {CX : CXT} {k n : Nat} {f : Addr} {fd : FuncData} {ps ks : List Str} {sp : Sp} {dvs : List V} {ds : List Value} {E : XK} {ES : L2.St → XK} {x : Str} {p pos : Pos} {e : Expr} {es : List Expr} {t tk : TA} {kws : List Keyword}
  {g : List Value → List Value → List Value} {gV : List V → List V → List V} {pins : List (Addr × Obj)} {σ : L2.St} {H : Hp} {s : Shared} {Q : VK} {us ws : List Value} {vs zs : List V}
theorem run_fnT (F : FnOkT X.prog X.w X.K X.mg X.base CX k f fd ps sp) (hr : Room k X.A) (hb : Binds X.K fd ps ds) (hd : Vals dvs ds) (hx : Passes CX X E)
    (h0 : 1 ≤ s.toks) (hgd : X.A.guards = some []) (I : Inv X pins σ H s) (r : Vals vs us) (h : sp (vs ++ dvs) H Q E) : wpAny (model X.prog X.w) X.A (call (.ref f) us) (EP X pins σ Q) X.xe s := by
  have r2 : Vals (vs ++ dvs) (us ++ ds) := r.append hd
  have hl : (us ++ ds).length = ps.length := by rw [← r2.length]; exact F.len _ _ _ _ h
  refine wpAny_call (codeAny_mono (F.run X.A X.stack s H ⟨us, []⟩ (us ++ ds) (vs ++ dvs) Q E h0 hgd hr I.env0 (hb s us I.kIn hl) r2 h) fun r s' hq => ?_)
  cases r with
  | error e => exact hx pins σ H s e s' I hq
  | ok fl =>
    cases fl with
    | ret u => exact I.after hq
    | next => exact False.elim hq
    | brk => exact False.elim hq
    | cont => exact False.elim hq
theorem pet_call (hgd : X.A.guards = some []) (F : FnOkT X.prog X.w X.K X.mg X.base CX k f fd ps sp) (hr : Room k X.A) (hg : Gl X x) (hm : X.mg x = some (.ref f)) (hk : PySem.W.keepIn X.K (.ref f) = true) (hb : Binds X.K fd ps ds) (hd : Vals dvs ds) (hx : Passes CX X E)
    (ha : PAT X (e :: es) t) (hdb : (x == ("__debug__" : Str)) = false := by decide) (he : starEach (e :: es) X.env = (false, eval e X.env) :: starEach es X.env := by rfl) (hpl : (backTo pos (starEach es X.env)).any (·.1) = false := by rfl) :
    PET X (.Call (.Name x p) (e :: es) [] pos) (tCall sp dvs E t) := by
  intro pins s σ H Q h0 I h
  refine wpAny_Call_Name_kw (ld_glob I hg hm ?_ hdb)
  exact PySem.W.callWith_K (h₀ := X.base) I.ok.mod.kin hk (thnT h0 (ha pos pins s σ H _ h0 I h) fun us s1 h1 ⟨vs, H1, I1, r, q⟩ => ⟨I1.kIn, run_fnT F hr hb hd hx h1 hgd I1 r q⟩) he hpl
theorem run_fnST (F : FnOkT X.prog X.w X.K X.mg X.base CX k f fd ps sp) (hr : Room k X.A) (hb : Binds X.K fd ps []) (hx : PassesAt CX X σ (ES σ))
    (h0 : 1 ≤ s.toks) (hgd : X.A.guards = some []) (I : Inv X pins σ H s) (r : Vals vs us) (h : sp vs H Q (ES σ)) : wpAny (model X.prog X.w) X.A (call (.ref f) us) (EP X pins σ Q) X.xe s := by
  have hl : us.length = ps.length := by rw [← r.length]; exact F.len _ _ _ _ h
  have b := hb s us I.kIn (by rw [List.append_nil]; exact hl)
  rw [List.append_nil] at b
  refine wpAny_call (codeAny_mono (F.run X.A X.stack s H ⟨us, []⟩ us vs Q (ES σ) h0 hgd hr I.env0 b r h) fun r s' hq => ?_)
  cases r with
  | error e => exact hx pins H s e s' I hq
  | ok fl =>
    cases fl with
    | ret u => exact I.after hq
    | next => exact False.elim hq
    | brk => exact False.elim hq
    | cont => exact False.elim hq
theorem pet_callS (hgd : X.A.guards = some []) (F : FnOkT X.prog X.w X.K X.mg X.base CX k f fd ps sp) (hr : Room k X.A) (hg : Gl X x) (hm : X.mg x = some (.ref f)) (hk : PySem.W.keepIn X.K (.ref f) = true) (hb : Binds X.K fd ps []) (hx : ∀ σ, PassesAt CX X σ (ES σ))
    (ha : PAT X (e :: es) t) (hdb : (x == ("__debug__" : Str)) = false := by decide) (he : starEach (e :: es) X.env = (false, eval e X.env) :: starEach es X.env := by rfl) (hpl : (backTo pos (starEach es X.env)).any (·.1) = false := by rfl) :
    PET X (.Call (.Name x p) (e :: es) [] pos) (tCallS sp ES t) := by
  intro pins s σ H Q h0 I h
  refine wpAny_Call_Name_kw (ld_glob I hg hm ?_ hdb)
  exact PySem.W.callWith_K (h₀ := X.base) I.ok.mod.kin hk (thnT h0 (ha pos pins s σ H _ h0 I h) fun us s1 h1 ⟨vs, H1, I1, r, q⟩ => ⟨I1.kIn, run_fnST F hr hb (hx σ) h1 hgd I1 r q⟩) he hpl
theorem run_fnNT (F : FnOkT X.prog X.w X.K X.mg X.base CX k f fd ps sp) (hr : Room k X.A) (hb : KBn X.K fd ps n ks g gV) (hx : Passes CX X E)
    (h0 : 1 ≤ s.toks) (hgd : X.A.guards = some []) (I : Inv X pins σ H s) (r : Vals vs us) (rz : Vals zs ws) (l1 : vs.length = n) (l2 : zs.length = ks.length) (h : sp (gV vs zs) H Q E) : wpAny (model X.prog X.w) X.A (call (.ref f) us (ks.zip ws)) (EP X pins σ Q) X.xe s := by
  have r2 := hb.rel r rz
  refine wpAny_call (codeAny_mono (F.run X.A X.stack s H ⟨us, ks.zip ws⟩ (g us ws) (gV vs zs) Q E h0 hgd hr I.env0 (hb.to s us ws I.kIn (r.length.symm.trans l1) (rz.length.symm.trans l2)) r2 h) fun r s' hq => ?_)
  cases r with
  | error e => exact hx pins σ H s e s' I hq
  | ok fl =>
    cases fl with
    | ret u => exact I.after hq
    | next => exact False.elim hq
    | brk => exact False.elim hq
    | cont => exact False.elim hq
theorem pet_callN0 (hgd : X.A.guards = some []) (F : FnOkT X.prog X.w X.K X.mg X.base CX k f fd ps sp) (hr : Room k X.A) (hg : Gl X x) (hm : X.mg x = some (.ref f)) (hk : PySem.W.keepIn X.K (.ref f) = true) (hb : KBn X.K fd ps 0 ks g gV) (hx : Passes CX X E) (hkw : PK X kws tk)
    (hall : (backToKw pos (keywordEach kws X.env)).all (·.1.isSome) = true := by rfl) (hks : (backToKw pos (keywordEach kws X.env)).filterMap (·.1) = ks := by rfl) (hdb : (x == ("__debug__" : Str)) = false := by decide)
    (hpl : ((backTo pos (starEach [] X.env)).any (·.1) || (backToKw pos (keywordEach kws X.env)).any (·.1.isNone)) = false := by rfl) :
    PET X (.Call (.Name x p) [] kws pos) (tCallN 0 ks.length sp gV E tNil tk) := by
  intro pins s σ H Q h0 I h
  refine wpAny_Call_Name_kw (ld_glob I hg hm ?_ hdb)
  refine PySem.W.callWith_KW0 (h₀ := X.base) I.ok.mod.kin hk hall ?_ hpl
  refine thnT h0 (hkw.run pos pins s σ H _ I h) fun ws s2 h2 ⟨zs, H2, I2, rz, l1, l2, q2⟩ => ⟨I2.kIn, ?_⟩
  rw [hks]
  exact run_fnNT (us := []) (vs := []) F hr hb hx h2 hgd I2 .nil rz rfl l2 q2
end
/-! ### statements that give out a token -/
def PEG (X : Cx) (e : Expr) (t : TE) : Prop := ∀ (pins : List (Addr × Obj)) (s : Shared) (σ : L2.St) (H : Hp) (Q : VK), Inv X pins σ H s → t σ H Q → wpAny (model X.prog X.w) X.A (eval e X.env) (fun v s1 => 1 ≤ s1.toks ∧ EP X pins σ Q v s1) X.xe s
def PAG (X : Cx) (es : List Expr) (t : TA) : Prop := ∀ (pos : Pos) (pins : List (Addr × Obj)) (s : Shared) (σ : L2.St) (H : Hp) (Q : List V → Hp → Prop), Inv X pins σ H s → t σ H Q → wpAny (model X.prog X.w) X.A (spliced (backTo pos (starEach es X.env))) (fun v s1 => 1 ≤ s1.toks ∧ AP X pins σ Q v s1) X.xe s
section
variable {X : Cx} {e a b : Expr} {te ta tb : TE} {t : TS} {u : TS} {tA : TA} {pos : Pos} {st : Stmt} {rest : List Stmt} {es : List Expr} {CX : CXT} {k i : Nat} {f : Addr} {fd : FuncData} {ps : List Str} {sp : Sp} {dvs : List V} {ds : List Value} {E : XK} {x : Str} {p : Pos}
theorem peg_int {z : Int} {j : Nat} : PEG X (.Constant (.int z) j pos) (tC (.int z)) := fun pins s σ H Q I h => wpAny_Constant_int ⟨by show 1 ≤ s.toks + 1; omega, .int z, H, I.tok _, ⟨_, rfl⟩, h⟩
theorem pag_head (ha : PEG X e te) (hr : PA X es tA) (hs : starEach (e :: es) X.env = (false, eval e X.env) :: starEach es X.env := by rfl) : PAG X (e :: es) (tCons te tA) := by
  intro pos pins s σ H Q I h
  rw [hs]
  show wpAny _ _ (spliced ((false, eval e X.env) :: backTo pos (starEach es X.env))) _ _ s
  refine Calls.spliced_cons (thn (ha pins s σ H _ I h) fun v s1 q => ?_)
  obtain ⟨hk, x, H1, I1, r1, q1⟩ := q
  exact thnT hk (hr.run pos pins s1 σ H1 _ I1 q1) fun us s2 h2 ⟨xs, H2, I2, r2, q2⟩ => ⟨h2, x :: xs, H2, I2, .cons r1 r2, q2⟩
theorem pag_tail (ha : PE X e te) (hr : PAG X es tA) (hs : starEach (e :: es) X.env = (false, eval e X.env) :: starEach es X.env := by rfl) : PAG X (e :: es) (tCons te tA) := by
  intro pos pins s σ H Q I h
  rw [hs]
  show wpAny _ _ (spliced ((false, eval e X.env) :: backTo pos (starEach es X.env))) _ _ s
  refine Calls.spliced_cons (thn (ha.run pins s σ H _ I h) fun v s1 q => ?_)
  obtain ⟨x, H1, I1, r1, q1⟩ := q
  exact thn (hr pos pins s1 σ H1 _ I1 q1) fun us s2 ⟨h2, xs, H2, I2, r2, q2⟩ => ⟨h2, x :: xs, H2, I2, .cons r1 r2, q2⟩
theorem peg_call (F : FnOk X.prog X.w X.K X.mg X.base CX k f fd ps sp) (hr : Room k X.A) (hg : Gl X x) (hm : X.mg x = some (.ref f)) (hk : PySem.W.keepIn X.K (.ref f) = true) (hb : Binds X.K fd ps ds) (hd : Vals dvs ds) (hx : Passes CX X E)
    (ha : PAG X (e :: es) tA) (hdb : (x == ("__debug__" : Str)) = false := by decide) (he : starEach (e :: es) X.env = (false, eval e X.env) :: starEach es X.env := by rfl) (hpl : (backTo pos (starEach es X.env)).any (·.1) = false := by rfl) :
    PEG X (.Call (.Name x p) (e :: es) [] pos) (tCall sp dvs E tA) := by
  intro pins s σ H Q I h
  refine wpAny_Call_Name_kw (ld_glob I hg hm ?_ hdb)
  exact PySem.W.callWith_K (h₀ := X.base) I.ok.mod.kin hk (thn (ha pos pins s σ H _ I h) fun us s1 ⟨h1, vs, H1, I1, r, q⟩ => ⟨I1.kIn, thnT h1 (run_fn F hr hb hd hx I1 r q) fun _ _ h2 z => ⟨h2, z⟩⟩) he hpl
/-- x = e, where e gives out a token: the rest has one -/
theorem pssg_set {i : Nat} {x : Str} {pos' : Pos} (hN : X.N.Nodup) (hi : X.N[i]? = some x) (hx : Loc X.env.scope x) (he : PEG X e te) (h2 : PSsT X rest u) (hs : swapsWith e (some (.Name x pos')) pos.line X.env = pure false := by rfl) (hf : X.fn x = true ∨ X.env.scope.names.lookup x = some .local := by first | exact .inl rfl | exact .inr rfl | assumption) :
    PSs X (.Assign [.Name x pos'] e pos :: rest) (tSeq (tAsg te (gName i)) u) := by
  refine ⟨fun pins s σ H D I h => ?_⟩
  refine wpAny_execs_cons (wpAny_Assign_Name (thn (he pins s σ H _ I h) fun v s1 ⟨h1, y, H1, I1, r1, q1⟩ => ?_) hs)
  refine thnT h1 (store_ok (Q := fun _ s2 => Inv X pins (σ.set i (some y)) H1 s2) I1 hN hi hx r1 (fun s2 I2 => I2) hf) fun _ s2 k2 I2 => ?_
  exact h2 pins s2 _ H1 D k2 I2 q1
end
end Al
/-! ### try, one token out: L2.ps_try_as once more, for a body that has a token -/
namespace L2
open PySem PySem.Spec PyProof.Rows
section
variable {X : Cx} {pins : List (Addr × Obj)} {H : Hp} {s : Shared} {x n : Str} {c : Value} {i : Nat} {body suite : List Stmt} {b₀ : Stmt} {np pos pos' : Pos} {tb : WX → TS} {ts : Addr → Value → Option Addr → TS} {Wout : WX}
theorem pst_try_as (hs : X.stack = X.env :: X.outer) (hf : X.env.frame = some X.env.locals) (hN : X.N.Nodup) (hi : X.N[i]? = some n) (hln : X.env.kindOf n = some .local) (hc : Names X x c) (tk : Takes X Wout)
    (hb : ∀ (W : WX) (pn : List (Addr × Obj)) (xe : Value → Shared → Prop), Takes (X.tr pn xe) W → PassesOwn (model X.prog X.w) X.A X.env xe → PSsT (X.tr pn xe) body (tb W))
    (hsu : ∀ (a : Addr) (oe : Obj) (cls : Value) (d : Option Addr) (pn : List (Addr × Obj)), Zc cls d oe → (∃ vs, oe.data = .fields vs) → PSs (X.suite a ((a, oe) :: pn)) (b₀ :: suite) (ts a cls d)) :
    PST X (.Try body [.ExceptHandler (some (.Name x np)) (some n) (b₀ :: suite) pos'] [] [] pos) (fun D σ H => tb (wAs X.K c i ts Wout D) D σ H) := by
  intro pins s σ H D h0 I h
  have ok := I.ok
  have hfr : X.A.frames = some (X.env :: X.outer) := by rw [ok.frames, hs]
  have hloc : Loc X.env.scope n := .inl hln
  refine wpAny_Try_except ?_
  refine wpAny_mono ((hb (wAs X.K c i ts Wout D) (X.pn ++ pins) (fun e s₁ => wpAny (model X.prog X.w) X.A (noteFrame e X.env) (fun _ s₂ => wpAny (model X.prog X.w) X.A (setFlight e none) (fun _ s₃ =>
    wpAny (model X.prog X.w) X.A (handleBy e X.env [.ExceptHandler (some (.Name x np)) (some n) (b₀ :: suite) pos']) (SP X pins D) X.xe s₃) X.xe s₂) X.xe s₁) (fun u s' xx => ?_) PassesOwn.looking) [] s σ H D h0 (I.toTry _) h) (fun f s1 hsp => ?_) (fun e s1 he => he)
  · -- the catch
    obtain ⟨a, B, sI, pins', σ', H', cls, d, rfl, J', nb, up, sky, na, os, ag, b, hb1, hyes, hno⟩ := xx
    have J : Inv X pins σ' H' sI := J'.ofTry ok
    have sky' : Sky B (X.env :: X.outer) a (Zc cls d) X.env.locals s'.heap := by rw [← hs]; exact sky
    show wpAny (model X.prog X.w) X.A (noteFrame (.ref a) X.env) _ _ _
    refine Sky.land Zc.steady hfr hf sky' fun h3 fl3 up3 => ?_
    have J3 : Inv X pins σ' H' { s' with heap := h3 } := J.landed nb fl3.1 (up.trans up3) os ag
    obtain ⟨oe3, vs3, he3, hz3, hd3⟩ := fl3.there
    have notFr : ∀ {h : Heap} {o : Obj} {vs : Array Value}, h.FunFrames B (X.env :: X.outer) → h.get? a = some o → o.data = .fields vs → a ∉ frs (X.env :: X.outer) := fun {h o vs} ff e dd hm => by
      obtain ⟨_, o', e', hnf⟩ := ff.mem hm
      rw [e] at e'; cases e'
      exact hnf _ dd
    have nfr := notFr fl3.2.2.1 he3 hd3
    have nL : a ≠ X.env.locals := fun z => nfr (List.mem_filterMap.mpr ⟨X.env, List.mem_cons_self, by rw [hf, z]⟩)
    have nF : a ∉ X.fs := fun hm => by
      obtain ⟨e, he, q⟩ := List.mem_filterMap.mp hm
      exact nfr (List.mem_filterMap.mpr ⟨e, List.mem_cons_of_mem _ he, q⟩)
    have S3 := J3.suite he3 hd3 na nL nF
    refine wpAny_handleBy_cons (codeAny_handlers_test ?_) (by intro q; cases q)
    have LT : PySem.W.Looks (model X.prog X.w) h3 (typeOf (.ref a)) cls := fun A Q E s k q => wpAny_typeOf_ref (k _ _ he3) (by rw [hz3.1]; exact q)
    have LM := PySem.W.exm_one (M := model X.prog X.w) (J3.kIn) LT hb1
    have test : ∀ {Q : Value → Shared → Prop} {E : Value → Shared → Prop}, Q c { s' with heap := h3 } → wpAny (model X.prog X.w) (X.A.mark (some (.ref a))) (eval (.Name x np) X.env) Q E { s' with heap := h3 } := fun {Q E} q => by
      obtain ⟨hg, hdbg, hm | ⟨hm, hv, hnn⟩⟩ := hc
      · exact ld_glob (X := X.suite a ((a, oe3) :: (X.pn ++ pins))) S3 hg hm q hdbg
      · exact ld_blt (X := X.suite a ((a, oe3) :: (X.pn ++ pins))) S3 hg hm hv q hnn hdbg
    refine test (LM.here ?_)
    cases b with
    | true =>
      refine codeAny_handlers_suite_as ?_
      refine HandSPX.lands_againZ fl3 fun h4 fl4 up4 => ?_
      have J4 : Inv X pins σ' H' { s' with heap := h4 } := J.landed nb fl4.1 ((up.trans up3).trans up4) os ag
      obtain ⟨oe4, vs4, he4, hz4, hd4⟩ := fl4.there
      have S4 := J4.suite he4 hd4 na nL nF
      refine store_ok (X := X.suite a ((a, oe4) :: (X.pn ++ pins))) (v := .ref a) S4 hN hi hloc rfl (fun s5 S5 => ?_) (.inr hln)
      refine wpAny_mono ((hsu a oe4 cls d (X.pn ++ pins) hz4 ⟨_, hd4⟩).run [] s5 _ H' _ S5 (hyes rfl a na)) (fun f s6 hsp => ?_) (fun _ _ z => False.elim z)
      have end_ : ∀ {σ6 : St} {H6 : Hp} {Q : Shared → Prop}, Inv (X.suite a ((a, oe4) :: (X.pn ++ pins))) [] σ6 H6 s6 → (∀ s7, Inv X pins (σ6.set i none) H6 s7 → Q s7) →
          wpAny (model X.prog X.w) X.A (do bindName X.env n .none; unbindBehindTheSuite X.env n pos') (fun _ s7 => Q s7) X.xe s6 := fun {σ6 H6 Q} S6 hq => gone_ok (S6.unsuite ok) hN hi hln hq
      cases f with
      | next =>
        obtain ⟨σ6, H6, S6, q6⟩ := hsp
        exact end_ S6 fun s7 J7 => ⟨_, _, J7, q6⟩
      | brk =>
        obtain ⟨σ6, H6, S6, q6⟩ := hsp
        exact end_ S6 fun s7 J7 => ⟨_, _, J7, q6⟩
      | cont =>
        obtain ⟨σ6, H6, S6, q6⟩ := hsp
        exact end_ S6 fun s7 J7 => ⟨_, _, J7, q6⟩
      | ret u =>
        obtain ⟨v6, σ6, H6, S6, r6, q6⟩ := hsp
        exact end_ S6 fun s7 J7 => ⟨_, _, _, J7, r6, q6⟩
    | false =>
      show wpAny _ X.A (handleBy (.ref a) X.env []) _ _ _
      refine wpAny_handleBy_nil ?_
      obtain ⟨k1, k2, k3, oe, vs, T, oT, ts', he, hz, hd, h1, hr⟩ := id fl3
      unfold PySem.passOn
      refine wpAny_bind (wpAny_field he hd h1 ?_)
      rw [if_neg (show ¬ ((Value.ref T == Value.none) = true) from by simp)]
      have fin : wpAny (model X.prog X.w) X.A (setFlight (.ref a) X.env.frame) (fun _ s4 => wpAny (model X.prog X.w) X.A (throw (.ref a) : Sem Flow) (SP X pins D) X.xe s4) X.xe { s' with heap := h3 } := by
        rw [hf]
        refine HandSPX.setFlight_upZ fl3 fun h4 hh4 up4 => wpAny_throw (tk _ _ ?_)
        exact ⟨a, B, sI, pins, σ', H', cls, d, rfl, J, nb, (up.trans up3).trans up4, .inr (.inr (by rw [hs]; exact hh4)), na, os, ag, hno rfl⟩
      first
        | exact wpAny_bind (wpAny_pure (wpAny_bind fin))
        | exact wpAny_bind fin
  · cases f with
    | next =>
      obtain ⟨σ', H', J', q⟩ := hsp
      exact wpAny_execs_nil ⟨σ', H', J'.ofTry ok, q⟩
    | brk =>
      obtain ⟨σ', H', J', q⟩ := hsp
      exact ⟨σ', H', J'.ofTry ok, q⟩
    | cont =>
      obtain ⟨σ', H', J', q⟩ := hsp
      exact ⟨σ', H', J'.ofTry ok, q⟩
    | ret u =>
      obtain ⟨v, σ', H', J', r, q⟩ := hsp
      exact ⟨v, σ', H', J'.ofTry ok, r, q⟩
end
end L2
/-! ## the law's end, for a promise that asks that no repr is under way (L2.law_call, L2.walk_of once more) -/
namespace Al
open PySem PySem.Spec PyProof.Rows L2
theorem law_callG {P : Program} {w : World} {K : PySem.W.Frag} {mg mb : Str → Option Value} {CX : CXT} {k : Nat} {fa a : Addr} {fd : FuncData} {x : Str} {sp : Sp} {s₁ : Shared} {vs : List Value} {ns : List Int}
    (KX : K.In s₁.heap) (hns : s₁.heap.Ns mainGlobals mg) (hb : s₁.heap.Ns builtinsNs mb) (hbb : ∀ x : Str, x ≠ "__name__" → mb x = bootBuiltins x) (hlim : s₁.heap.NoLimit) (hg : s₁.gens = #[])
    (ha : s₁.heap.get? a = some { cls := .type "list", data := .seq vs.toArray }) (hi : IntsAre vs ns) (hl : ns.length ≤ sizeLine) (hr : Room k callerA)
    (F : ∀ base : Heap, K.In base → base.Ns mainGlobals mg → FnOkN 0 P w K mg base CX k fa fd [x] sp) (hbind : ∀ (s : Shared) (u : Value), BindsTo s fd ⟨[u], []⟩ [(x, u)])
    (hsp : ∀ H : Hp, Only H → SqL K H a (ns.map V.int) → sp [.ref a] H (fun v _ => v = .bl true) fun _ _ _ => False)
    (hCX : ∀ H e s', CX [] H s₁ (fun _ _ _ => False) e s' → False) :
    codeAny (model P w) callerA (.call (.ref fa) ⟨[.ref a], []⟩) (fun r s' => r = .ok (.ret (.bool true)) ∧ OldK s₁.heap s'.heap ∧ s'.os = s₁.os ∧ AllBare s'.gens) s₁ := by
  have rv := vals_ints hi
  have lenV := hi.length
  -- from an abstract heap in which nothing but the script may be tracked
  have core : ∀ H : Hp, Only H → SqL K H a (ns.map V.int) → HOk P w H s₁.heap → (∀ b, H b ≠ none → b = a) → (H a ≠ none → K.lookup a = none) →
      codeAny (model P w) callerA (.call (.ref fa) ⟨[.ref a], []⟩) (fun r s' => r = .ok (.ret (.bool true)) ∧ OldK s₁.heap s'.heap ∧ s'.os = s₁.os ∧ AllBare s'.gens) s₁ := by
    intro H hO hS hok hA hK
    have base_of : ∀ {b : Addr} {o : Obj}, s₁.heap.get? b = some o → H b = none → (hidT s₁.heap H).get? b = some o := fun e n => hidT_get e n
    have noA : ∀ {b : Addr} {o : Obj} {es : Array DictEntry} {ep : Nat}, s₁.heap.get? b = some o → o.data = .dict es ep → H b = none := fun {b o es ep} e d => by
      cases q : H b with
      | none => rfl
      | some u =>
        have e' : b = a := hA b (by rw [q]; simp)
        subst e'
        rw [ha] at e; cases e
        have d' : Data.seq vs.toArray _ = Data.dict es ep := d
        cases d'
    have nsK : ∀ {b : Addr} {m : Str → Option Value}, s₁.heap.Ns b m → (hidT s₁.heap H).Ns b m := fun {b m} ⟨o, es, ep, e, d, r⟩ => ⟨o, es, ep, base_of e (noA e d), d, r⟩
    have hKb : K.In (hidT s₁.heap H) := fun b o e => base_of (KX b o e) (by
      cases q : H b with
      | none => rfl
      | some u =>
        have e' : b = a := hA b (by rw [q]; simp)
        subst e'
        rw [hK (by rw [q]; simp)] at e; cases e)
    have hM : Mod K mg (hidT s₁.heap H) := ⟨hKb, nsK hns, ⟨mb, nsK hb, hbb⟩, let ⟨mc, h1, h2⟩ := hlim; ⟨mc, nsK h1, h2⟩⟩
    have e0 : Env0 P w K mg (hidT s₁.heap H) callerA [] s₁ H := ⟨rfl, hM, fun b o e => of_hidT e, Nat.le_of_eq (hidT_size _ _), trivial, fun b hb => absurd (show b ∈ ([] : List Addr) from hb) (by simp), hok, .of_eq hg⟩
    refine codeAny_mono ((F _ hKb (nsK hns)).run callerA [] s₁ H ⟨[.ref a], []⟩ [.ref a] [.ref a] _ _ (Nat.zero_le _) rfl hr e0 (hbind s₁ (.ref a)) (.cons rfl .nil) (hsp H hO hS)) fun r s' h => ?_
    cases r with
    | error e => exact (hCX H e s' h).elim
    | ok fl =>
      cases fl with
      | next => exact False.elim h
      | brk => exact False.elim h
      | cont => exact False.elim h
      | ret u =>
        obtain ⟨v, H', os, bare, un, hok', r', q⟩ := h
        have q' : v = .bl true := q
        subst q'
        obtain rfl : u = Value.bool true := r'
        refine ⟨rfl, OldK.of_keep fun b o e => ?_, os, bare⟩
        cases q : H b with
        | none => exact un.keep b o e q (by intro z; exact absurd (show b ∈ ([] : List Addr) from z) (by simp)) (by simp)
        | some u =>
          rcases hO b with z | ⟨ob, xs, z⟩
          · rw [q] at z; cases z
          · have z2 := un.frzs b ob _ z
            obtain ⟨e1, _⟩ := hok b _ z
            obtain ⟨e2, _⟩ := hok' b _ z2
            rw [e] at e1; cases e1
            exact e2
  cases hk : K.lookup a with
  | some o =>
    -- the script is one of the module's own objects
    have e := KX a o hk
    rw [ha] at e
    cases e
    refine core (fun _ => none) (fun _ => .inl rfl) (.inr ⟨_, vs.toArray, _, hk, rfl, rfl, rfl, by rw [List.size_toArray, lenV]; exact hl, by simpa using rv⟩) (fun b u z => by have z' : (none : Option HO) = some u := z; cases z') (fun b z => absurd rfl z) fun z => absurd rfl z
  | none =>
    refine core (fun b => if b = a then some (.frz { cls := .type "list", data := .seq vs.toArray } (.lst (ns.map V.int))) else none) (fun b => ?_) (.inl (.inr ⟨{ cls := .type "list", data := .seq vs.toArray }, if_pos rfl⟩)) (fun b u z => ?_) (fun b z => ?_) fun _ => hk
    · by_cases hb : b = a
      · exact .inr ⟨_, _, if_pos hb⟩
      · exact .inl (if_neg hb)
    · by_cases hb : b = a
      · have z' := (if_pos hb).symm.trans z
        cases z'
        subst hb
        exact ⟨ha, by rw [List.length_map]; exact hl, vs, _, rv, ha⟩
      · have z' := (if_neg hb).symm.trans z
        cases z'
    · by_cases hb : b = a
      · exact hb
      · exact absurd (if_neg hb) z
theorem walk_ofG {l : PySem.W.OpenLaw} {n k : Nat} {q : Program} {loose : List Str} {XP : (Str → Option Value) → Heap → Prop} {YP : World → Heap → Prop} {d : DefRec} {K : Params → PySem.W.Frag} {CX : World → CXT} {sp : World → Sp} {x : Str}
    (hn : l.most = some n) (hn2 : n ≤ sizeLine) (hdf : d.params.defaults = []) (hr : Room k callerA)
    (hY : ∀ (w : World) (h : Heap), YP w h → (K w.params).In h)
    (F : ∀ (w : World) (mg : Str → Option Value) (fa : Addr) (h : Heap), (K w.params).In h → h.Ns mainGlobals mg → mg d.name = some (.ref fa) →
      ∃ fd : FuncData, (∀ (s : Shared) (u : Value), BindsTo s fd ⟨[u], []⟩ [(x, u)]) ∧
        ∀ base : Heap, (K w.params).In base → base.Ns mainGlobals mg → FnOkN 0 l.prog w (K w.params) mg base (CX w) k fa fd [x] (sp w))
    (hsp : ∀ (w : World) (H : Hp) (a : Addr) (ns : List Int), ns.length ≤ n → Only H → SqL (K w.params) H a (ns.map V.int) → sp w [.ref a] H (fun v _ => v = .bl true) fun _ _ _ => False)
    (hCX : ∀ (w : World) (H : Hp) (s : Shared) (e : Value) (s' : Shared), CX w [] H s (fun _ _ _ => False) e s' → False) :
    PySem.W.WalkO q loose XP YP l.row.toRowW d [] (fun f vs => PySem.call f vs) := by
  refine Att.attach_call hn hdf fun w s₀ s₁ mg mb fa o pm cd doc a vs ns G Y ho hd hcd hmg hobj hints hlen hg => ?_
  have KX := hY w _ Y
  obtain ⟨fd, hb, hF⟩ := F w mg fa _ KX G.T.g hmg
  exact law_callG KX G.T.g G.T.b G.T.builtins G.T.nolimit hg hobj hints (Nat.le_trans hlen hn2) hr hF hb (fun H hO hS => hsp w H a ns hlen hO hS) fun H e s' => hCX w H s₁ e s'
end Al
/-! ## a def called within a suite, the caught exception handed to it -/
namespace Al
open PySem PySem.Spec PyProof.Rows L2 L2H
/-- isinstance(e, c), e an exception that the context pins -/
theorem call_isE3 {X : Cx} {a : Addr} {oe : Obj} {cls : Value} {d : Option Addr} (hp : (a, oe) ∈ X.pn) (hz : Zc cls d oe) (hf : ∃ vs, oe.data = .fields vs) : CallR X (.builtin "isinstance") (rIsE2 X.K a cls d) := by
  intro pins s σ H xs us Q I r h
  obtain ⟨D, dd, fs, c, cv, b, rfl, rfl, C, ea, rfl, hcv, e, q⟩ := h
  cases r with
  | cons rx rr =>
    cases rr with
    | cons rt rr =>
      cases rr
      cases rx
      have ec := hcv _ rt
      subst ec
      obtain ⟨hget, _⟩ := I.pin (a, oe) (List.mem_append.mpr (.inl hp))
      obtain ⟨vs, hv⟩ := hf
      have hx : ObjOk X.prog X.w H s.heap dd (.xd fs) := I.hok dd _ ea
      obtain ⟨mA, hns, hr⟩ := hx
      obtain ⟨od, ho, hl⟩ := lookIn_ns hns
      have J : PySem.W.InstAt s.heap a oe D (some od) := ⟨hget, hz.1, by unfold PySem.W.notCls; rw [hv] <;> rfl, by rw [hz.2]; exact ho⟩
      exact PySem.W.kia_one (PySem.W.kitx_exc C.cl C.hg C.hk C.hs C.ha C.hn C.ht C.hm) I.kIn J e (fun z => nomatch z) fun tk => ⟨.bl b, H, I.kept (t' := tk) fun _ _ z => z, rfl, q⟩
abbrev SpE := Addr → Value → Option Addr → Sp
/-- the promise of a def to which the caught exception is handed: it stands at p -/
structure FnE (P : Program) (w : World) (K : PySem.W.Frag) (mg : Str → Option Value) (base : Heap) (k : Nat) (f : Addr) (fd : FuncData) (ps : List Str) (sp : SpE) : Prop where
  len : ∀ a cls d vs H Q E, sp a cls d vs H Q E → vs.length = ps.length
  run : ∀ (A : Around) (outer : List Env) (s : Shared) (H : Hp) (args : Args) (us : List Value) (vs : List V) (Q : VK) (E : XK) (p : Addr × Obj) (cls : Value) (d : Option Addr), RoomH k A → PinOk outer H s p → Zc cls d p.2 → (∃ vs, p.2.data = .fields vs) → Env0 P w K mg base A outer s H →
    BindsTo s fd args (ps.zip us) → Vals vs us → sp p.1 cls d vs H Q E → codeAny (model P w) A (.call (.ref f) args) (CR CX0 outer P w H s Q E) s
section
variable {P : Program} {w : World} {K : PySem.W.Frag} {mg : Str → Option Value} {base : Heap} {k : Nat} {f : Addr}
theorem _root_.L2.Fun.okE {x qual : Str} {st : Stmt} {fd : FuncData} {N ps : List Str} {sp : SpE} (F : Fun K x qual st f fd) (S : FnScope N ps (defScope st)) (len : ∀ a cls d vs H Q E, sp a cls d vs H Q E → vs.length = ps.length)
    (hbody : ∀ (cdv : Value) (A : Around) (outer : List Env) (s : Shared) (H : Hp) (vs : List V) (Q : VK) (E : XK) (ea : Addr) (oe : Obj) (cls : Value) (d : Option Addr), Zc cls d oe → (∃ vs, oe.data = .fields vs) → RoomH k (A.deeper (envOfC qual (defScope st) s.heap.objs.size f cdv)) → sp ea cls d vs H Q E →
      ∃ t, PSs (cxH CX0 P w K mg base N qual (defScope st) f cdv A outer s H E (ea, oe)) (defBody st) t ∧ t { nx := fun _ H' => Q .non H', rt := Q } (L2.start N vs) H) : FnE P w K mg base (k + 1) f fd ps sp := by
  obtain ⟨oc, od, kV, doc, pm, an, cdv, ct, osl, rfl, lk, hcd⟩ := F.ex
  refine ⟨len, fun A outer s H args us vs Q E p cls d hr hpin hz hf e0 hb r hsp => ?_⟩
  have hl := len _ _ _ _ _ _ _ hsp
  have KX : K.In s.heap := e0.mod.kin.keeps fun b o e => (e0.bs b o e).1
  have lim : s.heap.NoLimit := e0.mod.nolimit.keeps fun b o e => (e0.bs b o e).1
  have hkind : ∀ y ∈ ps.zip us, (defScope st).names.lookup y.1 = some .local ∨ ((defScope st).names.lookup y.1 = some .cell ∧ ((cellsFrom (s.heap.objs.size + 1) (defScope st).names []).lookup y.1).isSome = true) := fun ⟨n, v⟩ hy => by
    rcases S.par n (List.of_mem_zip hy).1 with q | q
    · exact .inl q
    · exact .inr ⟨q, PySem.W.cellsFrom_some _ _ _ (.inl q)⟩
  refine codeAny_call_function hr.depth (KX _ _ lk) rfl S.co S.gen rfl (PySem.W.codeRec_of KX hcd) (hb _ _ _ _ ?_)
  refine wpAny_newFunctionEnv_cells S.kind hkind fun env he s1 x => ?_
  subst he
  refine ⟨lim.keeps x.toInCall.keep, codeAny_func ?_⟩
  obtain ⟨ea, oe⟩ := p
  obtain ⟨t, ht, hq⟩ := hbody cdv A outer s H vs Q E ea oe cls d hz hf (hr.deeper _) hsp
  have I := inv_startH (CX := CX0) (f := f) (cd := cdv) (qual := qual) (E := E) S hpin e0 hl r x
  refine wpAny_mono (ht.run [] s1 _ H _ I hq) (fun fl s' hs => ?_) fun e s' hs => hs
  cases fl with
  | ret u =>
    obtain ⟨v, σ', H', J, rv, q⟩ := hs
    exact ⟨v, H', J.os, J.bare, J.base, J.hok, rv, q⟩
  | next =>
    obtain ⟨σ', H', J, q⟩ := hs
    exact ⟨V.non, H', J.os, J.bare, J.base, J.hok, rfl, q⟩
  | brk =>
    obtain ⟨_, _, _, q⟩ := hs
    exact False.elim q
  | cont =>
    obtain ⟨_, _, _, q⟩ := hs
    exact False.elim q
end
section
variable {X : Cx} {k : Nat} {f a : Addr} {oe : Obj} {cls : Value} {d : Option Addr} {fd : FuncData} {ps : List Str} {sp : SpE} {x : Str} {q pos : Pos} {e : Expr} {es : List Expr} {t : TA}
/-- f(e, ..) in the suite of e -/
theorem pe_callE (F : FnE X.prog X.w X.K X.mg X.base k f fd ps sp) (hp : (a, oe) ∈ X.pn) (hz : Zc cls d oe) (hf : ∃ vs, oe.data = .fields vs) (hr : RoomH k X.A) (hg : Gl X x) (hm : X.mg x = some (.ref f)) (hk : PySem.W.keepIn X.K (.ref f) = true) (hb : Binds X.K fd ps [])
    (ha : PA X (e :: es) t) (hdb : (x == ("__debug__" : Str)) = false := by decide) (he : starEach (e :: es) X.env = (false, eval e X.env) :: starEach es X.env := by rfl) (hpl : (backTo pos (starEach es X.env)).any (·.1) = false := by rfl) :
    PE X (.Call (.Name x q) (e :: es) [] pos) (fun σ H Q => t σ H fun vs H1 => sp a cls d vs H1 Q E0) := by
  refine ⟨fun pins s σ H Q I h => ?_⟩
  refine wpAny_Call_Name_kw (ld_glob I hg hm ?_ hdb)
  refine PySem.W.callWith_K (h₀ := X.base) I.ok.mod.kin hk (thn (ha.run pos pins s σ H _ I h) fun us s1 ⟨vs, H1, I1, r, z⟩ => ⟨I1.kIn, ?_⟩) he hpl
  have hl : us.length = ps.length := by rw [← r.length]; exact F.len _ _ _ _ _ _ _ z
  have b := hb s1 us I1.kIn (by rw [List.append_nil]; exact hl)
  rw [List.append_nil] at b
  have P1 := I1.pin (a, oe) (List.mem_append_left _ hp)
  have hpin : PinOk X.stack H1 s1 (a, oe) := ⟨P1.1, P1.2.1, fun hm => (List.mem_cons.mp (I1.stkSub a hm)).elim P1.2.2.1 P1.2.2.2.1, P1.2.2.2.2⟩
  refine wpAny_call (codeAny_mono (F.run X.A X.stack s1 H1 ⟨us, []⟩ us vs Q E0 (a, oe) cls d hr hpin hz hf I1.env0 b r z) fun r s' hq => ?_)
  cases r with
  | error e => exact False.elim hq
  | ok fl =>
    cases fl with
    | ret u => exact I1.after hq
    | next => exact False.elim hq
    | brk => exact False.elim hq
    | cont => exact False.elim hq
end
end Al
/-! ## repr of plain data; isinstance of the caught exception handed on -/
namespace Al
open PySem PySem.Spec PyProof.Rows L2
def rRepr (K : PySem.W.Frag) : List V → Hp → VK → Prop := fun xs H Q => ∃ x d, xs = [x] ∧ Dp K H x d ∧ d.showable = true ∧ d.hasDict = false ∧ d.depth ≤ 60 ∧ d.shown.length ≤ sizeLine ∧ Q (.str d.shown) H
/-- repr(x), x plain data -/
theorem call_reprD {X : Cx} (hgd : X.A.guards = some []) (hu : X.A.units + 64 < cLine) : CallR X (.builtin "repr") (rRepr X.K) := by
  intro pins s σ H xs us Q I r h
  obtain ⟨x, d, rfl, hd, h1, h2, h3, h4, q⟩ := h
  obtain ⟨u, rfl, rx⟩ := vals1 r
  cases hd with
  | non =>
    obtain rfl : u = .none := rx
    simp only [PyData.shown] at q
    exact PySem.P.repr_of_none ⟨.str _, H, I.tok _, ⟨_, rfl⟩, q⟩
  | bl b =>
    obtain rfl : u = .bool b := rx
    refine PySem.P.repr_of_bool ⟨.str _, H, I.tok _, ⟨_, rfl⟩, ?_⟩
    have e : (PyData.bool b).shown = (if b then "True" else "False" : String) := by cases b <;> rfl
    rw [e] at q
    cases b <;> exact q
  | int i =>
    obtain ⟨t, rfl⟩ := rx
    simp only [PyData.shown] at q
    exact PySem.P.repr_of_int (by simpa [PyData.showable] using h1) ⟨.str _, H, I.tok _, ⟨_, rfl⟩, q⟩
  | str y =>
    obtain ⟨t, rfl⟩ := rx
    simp only [PyData.shown] at q h4
    exact PySem.P.repr_of_str ⟨.str _, H, I.tok _, ⟨_, rfl⟩, q⟩ h4
  | lst hs ha =>
    rename_i p xs ds
    obtain rfl : u = .ref p := rx
    obtain ⟨as, rd⟩ := Dp.reads I (.list ds) (.ref p) (.ref p) (.lst hs ha) rfl
    exact repr_of_reads' rd h1 (PyData.noDict_hsm h2) hgd (by omega) (fun _ _ z => z) (fun h' u tk hk => ⟨.str _, H, I.kept (t' := tk) hk, ⟨_, rfl⟩, q⟩) h4
  | tup hs ha =>
    rename_i p xs ds
    obtain rfl : u = .ref p := rx
    obtain ⟨as, rd⟩ := Dp.reads I (.tuple ds) (.ref p) (.ref p) (.tup hs ha) rfl
    exact repr_of_reads' rd h1 (PyData.noDict_hsm h2) hgd (by omega) (fun _ _ z => z) (fun h' u tk hk => ⟨.str _, H, I.kept (t' := tk) hk, ⟨_, rfl⟩, q⟩) h4
end Al
/-! ## plain data: none, truth values, ints, texts, lists and tuples -/
namespace Al
open PySem PySem.Spec PyProof.Rows L2
mutual
inductive Pd (R : Addr → HO → Prop) : V → PyData → Prop
  | non : Pd R .non .none
  | bl (b : Bool) : Pd R (.bl b) (.bool b)
  | int (i : Int) : Pd R (.int i) (.int i)
  | str (x : Str) : Pd R (.str x) (.str x)
  | lst {a : Addr} {xs : List V} {ds : List PyData} : R a (.lst xs) → PdAll R xs ds → Pd R (.ref a) (.list ds)
  | tup {a : Addr} {xs : List V} {ds : List PyData} : R a (.tup xs) → PdAll R xs ds → Pd R (.ref a) (.tuple ds)
inductive PdAll (R : Addr → HO → Prop) : List V → List PyData → Prop
  | nil : PdAll R [] []
  | cons {v : V} {vs : List V} {d : PyData} {ds : List PyData} : Pd R v d → PdAll R vs ds → PdAll R (v :: vs) (d :: ds)
end
section
variable {R R' : Addr → HO → Prop}
mutual
theorem Pd.mono (m : ∀ a o, R a o → R' a o) : ∀ (d : PyData) (v : V), Pd R v d → Pd R' v d
  | .none, _, h => by cases h; exact .non
  | .bool b, _, h => by cases h; exact .bl b
  | .int i, _, h => by cases h; exact .int i
  | .str x, _, h => by cases h; exact .str x
  | .list ds, _, h => by
    cases h with
    | lst h1 h2 => exact .lst (m _ _ h1) (PdAll.mono m ds _ h2)
  | .tuple ds, _, h => by
    cases h with
    | tup h1 h2 => exact .tup (m _ _ h1) (PdAll.mono m ds _ h2)
  | .dict _, _, h => by cases h
theorem PdAll.mono (m : ∀ a o, R a o → R' a o) : ∀ (ds : List PyData) (vs : List V), PdAll R vs ds → PdAll R' vs ds
  | [], _, h => by cases h; exact .nil
  | d :: ds, _, h => by
    cases h with
    | cons h1 h2 => exact .cons (Pd.mono m d _ h1) (PdAll.mono m ds _ h2)
end
end
/-- what stands in a heap -/
abbrev In (H : Hp) : Addr → HO → Prop := fun a o => H a = some o
/-- .. but at b -/
abbrev Off (b : Addr) (H : Hp) : Addr → HO → Prop := fun a o => H a = some o ∧ a ≠ b
theorem Pd.same {H H' : Hp} {v : V} {d : PyData} (s : Same H H') (h : Pd (In H) v d) : Pd (In H') v d := h.mono (fun a o e => s a o e)
theorem Pd.off {b : Addr} {H : Hp} {v : V} {d : PyData} (h : Pd (Off b H) v d) : Pd (In H) v d := h.mono (fun a o e => e.1)
theorem Pd.but {b : Addr} {H H' : Hp} {v : V} {d : PyData} (s : But b H H') (h : Pd (Off b H) v d) : Pd (Off b H') v d := h.mono (fun a o e => ⟨s a o e.2 e.1, e.2⟩)
theorem Pd.sameOff {b : Addr} {H H' : Hp} {v : V} {d : PyData} (s : Same H H') (h : Pd (Off b H) v d) : Pd (Off b H') v d := h.mono (fun a o e => ⟨s a o e.1, e.2⟩)
section
variable {K : PySem.W.Frag} {H : Hp}
mutual
theorem Pd.dp : ∀ (d : PyData) (v : V), Pd (In H) v d → Dp K H v d
  | .none, _, h => by cases h; exact .non
  | .bool b, _, h => by cases h; exact .bl b
  | .int i, _, h => by cases h; exact .int i
  | .str x, _, h => by cases h; exact .str x
  | .list ds, _, h => by
    cases h with
    | lst h1 h2 => exact .lst (SqL.of h1) (PdAll.dp ds _ h2)
  | .tuple ds, _, h => by
    cases h with
    | tup h1 h2 => exact .tup (SqT.of h1) (PdAll.dp ds _ h2)
  | .dict _, _, h => by cases h
theorem PdAll.dp : ∀ (ds : List PyData) (vs : List V), PdAll (In H) vs ds → DpAll K H vs ds
  | [], _, h => by cases h; exact .nil
  | d :: ds, _, h => by
    cases h with
    | cons h1 h2 => exact .cons (Pd.dp d _ h1) (PdAll.dp ds _ h2)
end
end
def tyn : PyData → String
  | .none => "NoneType"
  | .bool _ => "bool"
  | .int _ => "int"
  | .str _ => "str"
  | .list _ => "list"
  | .tuple _ => "tuple"
  | .dict _ => "dict"
theorem Pd.ty {K : PySem.W.Frag} {H : Hp} {v : V} {d : PyData} (h : Pd (In H) v d) : TyX K H v (.type (tyn d)) := by
  cases h with
  | non => exact .base .non
  | bl b => exact .base (.bl b)
  | int i => exact .base (.int i)
  | str s => exact .base (.str s)
  | lst e _ => exact .base (.lst e)
  | tup e _ => exact .base (.tup e)
theorem PdAll.length {R : Addr → HO → Prop} : ∀ {ds : List PyData} {vs : List V}, PdAll R vs ds → vs.length = ds.length
  | [], _, h => by cases h; rfl
  | d :: ds, _, h => by
    cases h with
    | cons h1 h2 => rw [List.length_cons, List.length_cons, h2.length]
theorem PdAll.mem {R : Addr → HO → Prop} : ∀ {ds : List PyData} {vs : List V} {i : Nat} {v : V}, PdAll R vs ds → vs[i]? = some v → ∃ d, d ∈ ds ∧ Pd R v d
  | [], _, _, _, h, e => by cases h; cases e
  | d :: ds, _, 0, v, h, e => by
    cases h with
    | cons h1 h2 =>
      cases e
      exact ⟨d, List.mem_cons_self .., h1⟩
  | d :: ds, _, i + 1, v, h, e => by
    cases h with
    | cons h1 h2 =>
      obtain ⟨d', m, q⟩ := h2.mem (i := i) e
      exact ⟨d', List.mem_cons_of_mem _ m, q⟩
theorem PdAll.append {R : Addr → HO → Prop} : ∀ {ds es : List PyData} {vs us : List V}, PdAll R vs ds → PdAll R us es → PdAll R (vs ++ us) (ds ++ es)
  | [], _, _, _, h, g => by cases h; exact g
  | d :: ds, _, _, _, h, g => by
    cases h with
    | cons h1 h2 => exact .cons h1 (h2.append g)
theorem PdAll.sameOff {b : Addr} {H H' : Hp} {vs : List V} {ds : List PyData} (s : Same H H') (h : PdAll (Off b H) vs ds) : PdAll (Off b H') vs ds := h.mono (fun a o e => ⟨s a o e.1, e.2⟩)
theorem PdAll.butOff {b : Addr} {H H' : Hp} {vs : List V} {ds : List PyData} (s : But b H H') (h : PdAll (Off b H) vs ds) : PdAll (Off b H') vs ds := h.mono (fun a o e => ⟨s a o e.2 e.1, e.2⟩)
/-! ### texts -/
def okText (s : Str) : Bool := Txt.isascii s && Txt.isprintable (Txt.replace s "\n" "")
def isTxtD : PyData → Bool
  | .str s => okText s
  | _ => false
def isIntD : PyData → Bool
  | .int _ => true
  | _ => false
def isNumD : PyData → Bool
  | .int i => decide (0 ≤ i)
  | _ => false
def numD : PyData → Int
  | .int i => i
  | _ => 0
def isEditD (n : Int) : PyData → Bool
  | .tuple [p, r, i] => isNumD p && isNumD r && isTxtD i && decide (numD p + numD r ≤ n)
  | _ => false
theorem isEditD_len {n : Int} {ds : List PyData} (h : ds.length ≠ 3) : isEditD n (.tuple ds) = false := by
  match ds, h with
  | [], _ => rfl
  | [_], _ => rfl
  | [_, _], _ => rfl
  | [_, _, _], h => exact absurd rfl h
  | _ :: _ :: _ :: _ :: _, _ => rfl
theorem isTxtD_form {d : PyData} (h : isTxtD d = true) : ∃ s, d = .str s ∧ okText s = true := by
  cases d with
  | str s => exact ⟨s, rfl, h⟩
  | _ => cases h
theorem isNumD_form {d : PyData} (h : isNumD d = true) : ∃ i, d = .int i ∧ 0 ≤ i := by
  cases d with
  | int i => exact ⟨i, rfl, of_decide_eq_true h⟩
  | _ => cases h
theorem isEditD_form {n : Int} {d : PyData} (h : isEditD n d = true) : ∃ p r i, d = .tuple [.int p, .int r, .str i] ∧ 0 ≤ p ∧ 0 ≤ r ∧ okText i = true ∧ p + r ≤ n := by
  cases d with
  | tuple ds =>
    match ds, h with
    | [d1, d2, d3], h =>
      have e : isEditD n (.tuple [d1, d2, d3]) = (isNumD d1 && isNumD d2 && isTxtD d3 && decide (numD d1 + numD d2 ≤ n)) := rfl
      rw [e] at h
      simp only [Bool.and_eq_true, decide_eq_true_eq] at h
      obtain ⟨⟨⟨h1, h2⟩, h3⟩, h4⟩ := h
      obtain ⟨p, rfl, p0⟩ := isNumD_form h1
      obtain ⟨r, rfl, r0⟩ := isNumD_form h2
      obtain ⟨i, rfl, hi⟩ := isTxtD_form h3
      exact ⟨p, r, i, rfl, p0, r0, hi, h4⟩
    | [], h => cases h
    | [_], h => cases h
    | [_, _], h => cases h
    | _ :: _ :: _ :: _ :: _, h => cases h
  | _ => cases h
/-- a text with an edit put in; what the edit takes out -/
def putIn (t : Str) (p r : Int) (i : Str) : Str := cutS t none (some p) ++ i ++ cutS t (some (p + r)) none
def tookOut (t : Str) (p r : Int) : Str := cutS t (some p) (some (p + r))
theorem putIn_len {t i : Str} {p r : Int} {n m : Nat} (h : t.length ≤ n) (h' : i.length ≤ m) : (putIn t p r i).length ≤ n + m + n := by
  unfold putIn
  rw [strLen_append, strLen_append]
  have h1 := cutS_length t none (some p)
  have h2 := cutS_length t (some (p + r)) none
  omega
theorem tookOut_len {t : Str} {p r : Int} : (tookOut t p r).length ≤ t.length := cutS_length t _ _
theorem join_del (c : Nat) : ∀ parts : List Str, (∀ p ∈ parts, c ∉ p.cps.toList) → (Str.join ⟨#[c]⟩ parts).cps.toList.filter (fun k => k != c) = (Str.join ("" : Str) parts).cps.toList
  | [], _ => rfl
  | [p], h => by
    show p.cps.toList.filter _ = p.cps.toList
    refine List.filter_eq_self.mpr fun k hk => ?_
    exact bne_iff_ne.mpr fun e => h p (List.mem_singleton.mpr rfl) (e ▸ hk)
  | p :: q :: r, h => by
    have ih := join_del c (q :: r) fun a ha => h a (List.mem_cons_of_mem _ ha)
    show (p ++ ⟨#[c]⟩ ++ Str.join ⟨#[c]⟩ (q :: r)).cps.toList.filter _ = (p ++ ("" : Str) ++ Str.join ("" : Str) (q :: r)).cps.toList
    simp only [Str.cps_append, Array.toList_append, List.filter_append, ih]
    have e1 : p.cps.toList.filter (fun k => k != c) = p.cps.toList := List.filter_eq_self.mpr fun k hk => bne_iff_ne.mpr fun e => h p (List.mem_cons_self ..) (e ▸ hk)
    rw [e1]
    have e2 : ([c] : List Nat).filter (fun k => k != c) = [] := by simp
    have e3 : ("" : Str).cps.toList = [] := by decide +kernel
    rw [e3]
    show p.cps.toList ++ List.filter (fun k => k != c) [c] ++ _ = _
    rw [e2]
theorem replace_del (x : Str) (c : Nat) : (Txt.replace x ⟨#[c]⟩ "").cps.toList = x.cps.toList.filter (fun k => k != c) := by
  rw [StrLaws.replace_one, ← join_del c _ (StrLaws.split_free x c), StrLaws.join_split]
/-- a sign of a text -/
def okSign (c : Nat) : Bool := decide (c < 128) && (c == 10 || Unicode.isPrintable c)
theorem all_and_filter {α : Type} (p q r : α → Bool) : ∀ l : List α, (l.all p && (l.filter q).all r) = l.all fun x => p x && (!q x || r x)
  | [] => rfl
  | x :: l => by
    have ih := all_and_filter p q r l
    rw [List.all_cons, List.all_cons, List.filter_cons, ← ih]
    cases q x
    · simp only [Bool.false_eq_true, if_false, Bool.not_false, Bool.true_or, Bool.and_true, Bool.and_assoc]
    · simp only [if_true, List.all_cons, Bool.not_true, Bool.false_or]
      cases p x <;> cases r x <;> simp
theorem okText_eq (s : Str) : okText s = s.cps.toList.all okSign := by
  have e : (Txt.replace s "\n" "").cps.toList = s.cps.toList.filter (fun k => k != 10) := replace_del s 10
  unfold okText Txt.isascii Txt.isprintable
  rw [← Array.all_toList, ← Array.all_toList, e, all_and_filter]
  refine congrArg s.cps.toList.all (funext fun c => ?_)
  unfold okSign
  show (decide (c < 128) && (!(c != 10) || _)) = _
  rw [bne, Bool.not_not]
theorem okSign_small : ∀ c, c < 127 → (c == 10 || decide (32 ≤ c)) = true → okSign c = true := by decide +kernel
end Al
/-! ## how long the repr of plain data is -/
namespace Al
open PySem PySem.Spec PyProof.Rows L2
mutual
def okD : PyData → Prop
  | .none => True
  | .bool _ => True
  | .int i => i.natAbs < 1000000000
  | .str s => ∀ c ∈ s.cps.toList, c < 16 ^ 8
  | .list xs => okAll xs
  | .tuple xs => okAll xs
  | .dict _ => False
def okAll : List PyData → Prop
  | [] => True
  | x :: xs => okD x ∧ okAll xs
end
mutual
def cost : PyData → Nat
  | .none => 4
  | .bool _ => 5
  | .int _ => 1921
  | .str s => 10 * s.length + 2
  | .list xs => 2 + costAll xs
  | .tuple xs => 3 + costAll xs
  | .dict _ => 0
def costAll : List PyData → Nat
  | [] => 0
  | x :: xs => cost x + 2 + costAll xs
end
theorem listText_le : ∀ ts : List Str, (listText ts).length ≤ 2 + piled ts
  | [] => by decide +kernel
  | t :: r => by
    have h := textFrom_length_pos r 1 (("[" : Str) ++ (if (0 : Nat) > 0 then ", " else "" : String) ++ t) (Nat.succ_pos 0)
    have e : ((("[" : Str) ++ (if (0 : Nat) > 0 then ", " else "" : String) ++ t)).length = 1 + t.length := by
      rw [strLen_append, strLen_append]
      rfl
    have hX : (listText (t :: r)).length = (textFrom 0 "[" (t :: r)).length + 1 := by
      show (textFrom 0 "[" (t :: r) ++ "]").length = _
      rw [strLen_append]
      rfl
    have hY : (textFrom 0 "[" (t :: r)).length = (textFrom 1 (("[" : Str) ++ (if (0 : Nat) > 0 then ", " else "" : String) ++ t) r).length := rfl
    rw [hX, hY, h, e, piled_cons]
    omega
theorem tupleText_le (ts : List Str) : (tupleText ts).length ≤ 3 + piled ts := by
  unfold tupleText
  rw [strLen_append, strLen_append]
  have e1 : ((("(" : String) : Str)).length = 1 := rfl
  have e3 : (((if ts.length == 1 then ",)" else ")" : String) : Str)).length ≤ 2 := by split <;> decide
  rw [e1]
  by_cases h : ts = []
  · subst h
    have e4 : (Str.join ", " ([] : List Str)).length = 0 := rfl
    omega
  · have := join_length_add ts h
    omega
theorem log2_small {n : Nat} (h : n < 1000000000) : n.log2 < 1920 := by
  rcases Nat.eq_zero_or_pos n with rfl | hp
  · decide
  · exact (Nat.log2_lt (by omega)).mpr (Nat.lt_of_lt_of_le h (by decide +kernel))
mutual
theorem okD_fits : ∀ d : PyData, okD d → d.shown.length ≤ cost d ∧ d.showable = true ∧ d.hasDict = false
  | .none, _ => ⟨by simp only [PyData.shown, cost]; decide, by simp only [PyData.showable], by simp only [PyData.hasDict]⟩
  | .bool b, _ => ⟨by simp only [PyData.shown, cost]; cases b <;> decide, by simp only [PyData.showable], by simp only [PyData.hasDict]⟩
  | .int i, h => by
    have h' : i.natAbs < 1000000000 := by simpa only [okD] using h
    refine ⟨?_, by simp only [PyData.showable]; exact decide_eq_true (log2_small h'), by simp only [PyData.hasDict]⟩
    simp only [PyData.shown, cost]
    exact PyProof.Rows.int_text_len_1921 (log2_small h')
  | .str s, h => by
    have h' : ∀ c ∈ s.cps.toList, c < 16 ^ 8 := by simpa only [okD] using h
    exact ⟨by simp only [PyData.shown, cost]; exact StrLaws.reprText_len s h', by simp only [PyData.showable], by simp only [PyData.hasDict]⟩
  | .list xs, h => by
    obtain ⟨h1, h2, h3⟩ := okAll_fits xs (by simpa only [okD] using h)
    refine ⟨?_, by simp only [PyData.showable]; exact h2, by simp only [PyData.hasDict]; exact h3⟩
    simp only [PyData.shown, cost]
    exact Nat.le_trans (listText_le _) (Nat.add_le_add_left h1 2)
  | .tuple xs, h => by
    obtain ⟨h1, h2, h3⟩ := okAll_fits xs (by simpa only [okD] using h)
    refine ⟨?_, by simp only [PyData.showable]; exact h2, by simp only [PyData.hasDict]; exact h3⟩
    simp only [PyData.shown, cost]
    exact Nat.le_trans (tupleText_le _) (Nat.add_le_add_left h1 3)
  | .dict _, h => absurd h (by simp only [okD]; exact id)
theorem okAll_fits : ∀ ds : List PyData, okAll ds → piled (PyData.shownAll ds) ≤ costAll ds ∧ PyData.showableAll ds = true ∧ PyData.hasDictAll ds = false
  | [], _ => ⟨by simp only [PyData.shownAll, costAll, piled_nil, Nat.le_refl], by simp only [PyData.showableAll], by simp only [PyData.hasDictAll]⟩
  | d :: ds, h => by
    have h' : okD d ∧ okAll ds := by simpa only [okAll] using h
    obtain ⟨a1, a2, a3⟩ := okD_fits d h'.1
    obtain ⟨b1, b2, b3⟩ := okAll_fits ds h'.2
    refine ⟨?_, by simp only [PyData.showableAll, a2, b2, Bool.and_self], by simp only [PyData.hasDictAll, a3, b3, Bool.or_self]⟩
    simp only [PyData.shownAll, costAll, piled_cons]
    omega
end
/-- data whose repr can be told, and is not long -/
structure Shw (d : PyData) : Prop where
  show_ : d.showable = true
  nod : d.hasDict = false
  dep : d.depth ≤ 60
  len : d.shown.length ≤ 100000
theorem Shw.of {d : PyData} (h : okD d) (hc : cost d ≤ 100000) (hd : d.depth ≤ 60) : Shw d := by
  obtain ⟨a, b, c⟩ := okD_fits d h
  exact ⟨b, c, hd, Nat.le_trans a hc⟩
end Al
/-! ## an edit and the one that turns it back -/
namespace Al
open PySem PySem.Spec PyProof.Rows L2
theorem str_ext {s t : Str} (h : s.cps.toList = t.cps.toList) : s = t := by
  obtain ⟨⟨l⟩⟩ := s
  obtain ⟨⟨m⟩⟩ := t
  cases (show l = m from h)
  rfl
theorem cut_head {t : Str} {i : Nat} (h : i ≤ t.length) : (cutS t none (some (i : Int))).cps.toList = t.cps.toList.take i := by
  show ((t.cps.toList.drop (HT.sIx t.length 0 none)).take (HT.sIx t.length t.length (some (i : Int)) - HT.sIx t.length 0 none)) = _
  rw [HT.sIx_nat, HT.sIx_none, Nat.min_eq_left h, Nat.sub_zero, List.drop_zero]
theorem cut_tail {t : Str} {i : Nat} (h : i ≤ t.length) : (cutS t (some (i : Int)) none).cps.toList = t.cps.toList.drop i := by
  show ((t.cps.toList.drop (HT.sIx t.length 0 (some (i : Int)))).take (HT.sIx t.length t.length none - HT.sIx t.length 0 (some (i : Int)))) = _
  rw [HT.sIx_nat, HT.sIx_none, Nat.min_eq_left h, List.take_of_length_le]
  rw [List.length_drop, ← len_cps]
  exact Nat.le_refl _
theorem cut_mid {t : Str} {i j : Nat} (hi : i ≤ t.length) (hj : j ≤ t.length) : (cutS t (some (i : Int)) (some (j : Int))).cps.toList = (t.cps.toList.drop i).take (j - i) := by
  show ((t.cps.toList.drop (HT.sIx t.length 0 (some (i : Int)))).take (HT.sIx t.length t.length (some (j : Int)) - HT.sIx t.length 0 (some (i : Int)))) = _
  rw [HT.sIx_nat, HT.sIx_nat, Nat.min_eq_left hi, Nat.min_eq_left hj]
section
variable {t i : Str} {p r : Nat}
theorem putIn_list (h : p + r ≤ t.length) : (putIn t p r i).cps.toList = t.cps.toList.take p ++ i.cps.toList ++ t.cps.toList.drop (p + r) := by
  unfold putIn
  rw [Str.cps_append, Str.cps_append, Array.toList_append, Array.toList_append, cut_head (by omega), show ((p : Int) + (r : Int)) = ((p + r : Nat) : Int) by omega, cut_tail h]
theorem tookOut_list (h : p + r ≤ t.length) : (tookOut t p r).cps.toList = (t.cps.toList.drop p).take r := by
  unfold tookOut
  rw [show ((p : Int) + (r : Int)) = ((p + r : Nat) : Int) by omega, cut_mid (by omega) h, Nat.add_sub_cancel_left]
theorem tookOut_length (h : p + r ≤ t.length) : (tookOut t p r).length = r := by
  rw [len_cps, tookOut_list h, List.length_take, List.length_drop, ← len_cps]
  omega
theorem putIn_length (h : p + r ≤ t.length) : (putIn t p r i).length + r = t.length + i.length := by
  rw [len_cps, putIn_list h, List.length_append, List.length_append, List.length_take, List.length_drop, ← len_cps, ← len_cps]
  omega
/-- the back edit leads back -/
theorem put_back (h : p + r ≤ t.length) : putIn (putIn t p r i) p i.length (tookOut t p r) = t := by
  refine str_ext ?_
  have hl := putIn_length (i := i) h
  have lt := len_cps t
  have li := len_cps i
  rw [putIn_list (by omega), putIn_list h, tookOut_list h]
  have e1 : (t.cps.toList.take p ++ i.cps.toList ++ t.cps.toList.drop (p + r)).take p = t.cps.toList.take p := by
    rw [List.append_assoc, List.take_append_of_le_length (by rw [List.length_take]; omega), List.take_take, Nat.min_self]
  have e2 : (t.cps.toList.take p ++ i.cps.toList ++ t.cps.toList.drop (p + r)).drop (p + i.length) = t.cps.toList.drop (p + r) := by
    rw [List.drop_append_of_le_length (by rw [List.length_append, List.length_take]; omega), List.drop_eq_nil_of_le (by rw [List.length_append, List.length_take]; omega), List.nil_append]
  rw [e1, e2, ← List.drop_drop, List.append_assoc, List.take_append_drop, List.take_append_drop]
/-- what the back edit takes out -/
theorem took_back (h : p + r ≤ t.length) : tookOut (putIn t p r i) p i.length = i := by
  refine str_ext ?_
  have hl := putIn_length (i := i) h
  have lt := len_cps t
  have li := len_cps i
  rw [tookOut_list (by omega), putIn_list h, List.append_assoc, List.drop_append_of_le_length (by rw [List.length_take]; omega), List.drop_eq_nil_of_le (by rw [List.length_take]; omega), List.nil_append, List.take_append_of_le_length (by omega), List.take_of_length_le (by omega)]
theorem okText_put (h : p + r ≤ t.length) (ht : okText t = true) (hi : okText i = true) : okText (putIn t p r i) = true := by
  rw [okText_eq] at *
  rw [putIn_list h, List.all_append, List.all_append, hi, Bool.and_true, Bool.and_eq_true]
  have ha := List.all_eq_true.mp ht
  exact ⟨List.all_eq_true.mpr fun c hc => ha c (List.mem_of_mem_take hc), List.all_eq_true.mpr fun c hc => ha c (List.mem_of_mem_drop hc)⟩
theorem okText_took (h : p + r ≤ t.length) (ht : okText t = true) : okText (tookOut t p r) = true := by
  rw [okText_eq] at *
  rw [tookOut_list h]
  have ha := List.all_eq_true.mp ht
  exact List.all_eq_true.mpr fun c hc => ha c (List.mem_of_mem_drop (List.mem_of_mem_take hc))
end
/-- the edits, latest back edit first, that lead t back to f -/
inductive Un (f : Str) : Str → List (Nat × Nat × Str) → Prop where
  | nil : Un f f []
  | cons {t i : Str} {p r : Nat} {l : List (Nat × Nat × Str)} (hi : okText i = true) (li : i.length ≤ 1000) (h : p + r ≤ t.length) (n : Un f (putIn t p r i) l) : Un f t ((p, r, i) :: l)
end Al
/-! ## a text times a number -/
namespace Al
open PySem PySem.Spec PyProof.Rows L2
theorem fold_reps (c : Array Nat) : ∀ (k : Nat) (acc : Array Nat), ((List.replicate k c).foldl (· ++ ·) acc).toList = acc.toList ++ (List.replicate k c.toList).flatten
  | 0, acc => by simp
  | k + 1, acc => by
    rw [List.replicate_succ, List.foldl_cons, fold_reps c k, List.replicate_succ, List.flatten_cons, Array.toList_append, List.append_assoc]
theorem op_repS {X : Cx} : OpR X (binaryOp .Mult) (fun x y H Q => ∃ (z : Str) (n : Int), x = .str z ∧ y = .int n ∧ 2 ≤ n ∧ n ≤ 1000 ∧ z.length ≤ 10000 ∧ ∀ o : Str, o.cps.toList = (List.replicate n.toNat z.cps.toList).flatten → Q (.str o) H) := by
  intro pins s σ H x y v u Q I rx ry h
  obtain ⟨z, n, rfl, rfl, h1, h2, h3, q⟩ := h
  obtain ⟨t, rfl⟩ := rx
  obtain ⟨t', rfl⟩ := ry
  have hm : z.length * n.toNat ≤ 10000 * 1000 := Nat.mul_le_mul h3 (by omega)
  have tl : Builtin.Str.tooLong (z.length * n.toNat) = false := by
    unfold Builtin.Str.tooLong sizeLine
    exact decide_eq_false (by omega)
  refine PySem.P.mul_str ?_ (fun _ _ => ?_) (fun _ _ => ?_) ?_
  · rw [decide_eq_false (by omega), decide_eq_false (by omega)]
    rfl
  · have : (10000 : Int) ≤ (2 ^ 63 - 1) / n := (Int.le_ediv_iff_mul_le (by omega)).mpr (by omega)
    omega
  · exact tl
  · rw [if_neg (by omega)]
    split
    · rename_i c
      refine ⟨.str z, H, I, ⟨t, rfl⟩, q z ?_⟩
      have hn : (n == 1) = false := beq_eq_false_iff_ne.mpr (by omega)
      rw [hn, Bool.false_or, beq_iff_eq] at c
      have e : z.cps.toList = [] := List.length_eq_zero_iff.mp (by rw [← len_cps]; exact c)
      rw [e, List.flatten_eq_nil_iff.mpr fun l hl => (List.mem_replicate.mp hl).2]
    · refine ⟨?_, .str _, H, I.tok _, ⟨_, rfl⟩, q _ (by rw [fold_reps]; rfl)⟩
      exact fits_reps tl
end Al
/-! ## a module's tuple -/
namespace Al
open PySem PySem.Spec PyProof.Rows L2
theorem relV_of_abs {x : V} {u : Value} (h : absV u = some x) : RelV x u := by
  cases u <;> simp only [absV] at h <;> first | (cases h; exact rfl) | (cases h; exact ⟨_, rfl⟩) | cases h
def absVs : List Value → Option (List V)
  | [] => some []
  | u :: us => match absV u, absVs us with
    | some x, some xs => some (x :: xs)
    | _, _ => none
theorem vals_of_abs : ∀ {us : List Value} {xs : List V}, absVs us = some xs → Vals xs us
  | [], xs, h => by cases h; exact .nil
  | u :: us, xs, h => by
    unfold absVs at h
    split at h
    · rename_i x ys e1 e2
      cases h
      exact .cons (relV_of_abs e1) (vals_of_abs e2)
    · cases h
structure KTup (K : PySem.W.Frag) (a : Addr) (xs : List V) : Prop where
  ex : ∃ (o : Obj) (its : Array Value) (n : Nat), K.lookup a = some o ∧ o.cls = .type "tuple" ∧ o.data = .seq its n ∧ its.size ≤ sizeLine ∧ Vals xs its.toList
theorem KTup.of {K : PySem.W.Frag} {a : Addr} {xs : List V} {od : Option Addr} {its : Array Value} {n : Nat} {sl : Array (Option Value)} (h : K.lookup a = some ⟨.type "tuple", od, .seq its n, sl⟩) (e : absVs its.toList = some xs) (l : Nat.ble its.size 1000000 = true) : KTup K a xs :=
  ⟨⟨_, its, n, h, rfl, rfl, le_line (Nat.le_of_ble_eq_true l), vals_of_abs e⟩⟩
theorem KTup.sq {K : PySem.W.Frag} {H : Hp} {a : Addr} {xs : List V} (h : KTup K a xs) : SqT K H a xs := .inr h.ex
/-- what reads as a tuple is one -/
theorem SqT_ty {K : PySem.W.Frag} {H : Hp} {a : Addr} {xs : List V} (h : SqT K H a xs) : TyX K H (.ref a) (.type "tuple") := by
  rcases h with (h | ⟨o, h⟩) | ⟨o, its, n, h, c, _⟩
  · exact .base (.tup h)
  · exact .fTuple h
  · exact .kTuple h c
end Al
/-! ## the least edit from one text to another -/
namespace Al
open PySem PySem.Spec PyProof.Rows L2
/-- both texts begin (end) with the same n signs -/
def Pre (s t : Str) (n : Nat) : Prop := n ≤ s.length ∧ n ≤ t.length ∧ s.cps.toList.take n = t.cps.toList.take n
def Suf (s t : Str) (n : Nat) : Prop := n ≤ s.length ∧ n ≤ t.length ∧ s.cps.toList.drop (s.length - n) = t.cps.toList.drop (t.length - n)
section
variable {s t i i' : Str} {n m p r p' r' : Nat}
theorem Pre.zero : Pre s t 0 := ⟨Nat.zero_le _, Nat.zero_le _, by rw [List.take_zero, List.take_zero]⟩
theorem Pre.le (h : Pre s t n) (l : m ≤ n) : Pre s t m := by
  obtain ⟨a, b, c⟩ := h
  refine ⟨by omega, by omega, ?_⟩
  have := congrArg (List.take m) c
  rwa [List.take_take, List.take_take, Nat.min_eq_left l] at this
theorem Pre.step (h : Pre s t n) (l : n ≤ m) (a : m ≤ s.length) (b : m ≤ t.length) : cutS s (some (n : Int)) (some (m : Int)) = cutS t (some (n : Int)) (some (m : Int)) ↔ Pre s t m := by
  have e1 := cut_mid (t := s) (i := n) (j := m) (by omega) a
  have e2 := cut_mid (t := t) (i := n) (j := m) (by omega) b
  constructor
  · intro e
    refine ⟨a, b, ?_⟩
    rw [e, e2] at e1
    obtain ⟨k, rfl⟩ : ∃ k, m = n + k := ⟨m - n, by omega⟩
    rw [Nat.add_sub_cancel_left] at e1
    rw [List.take_add, List.take_add, h.2.2, e1]
  · intro g
    refine str_ext ?_
    rw [e1, e2]
    have := congrArg (List.drop n) g.2.2
    rwa [List.drop_take, List.drop_take] at this
theorem Suf.zero : Suf s t 0 := ⟨Nat.zero_le _, Nat.zero_le _, by rw [Nat.sub_zero, Nat.sub_zero, List.drop_eq_nil_of_le (by rw [← len_cps]; exact Nat.le_refl _), List.drop_eq_nil_of_le (by rw [← len_cps]; exact Nat.le_refl _)]⟩
theorem Suf.le (h : Suf s t n) (l : m ≤ n) : Suf s t m := by
  obtain ⟨a, b, c⟩ := h
  refine ⟨by omega, by omega, ?_⟩
  have := congrArg (List.drop (n - m)) c
  rwa [List.drop_drop, List.drop_drop, show s.length - n + (n - m) = s.length - m by omega, show t.length - n + (n - m) = t.length - m by omega] at this
theorem Suf.step (h : Suf s t n) (l : n ≤ m) (a : m ≤ s.length) (b : m ≤ t.length) : cutS s (some ((s.length - m : Nat) : Int)) (some ((s.length - n : Nat) : Int)) = cutS t (some ((t.length - m : Nat) : Int)) (some ((t.length - n : Nat) : Int)) ↔ Suf s t m := by
  have e1 := cut_mid (t := s) (i := s.length - m) (j := s.length - n) (by omega) (by omega)
  have e2 := cut_mid (t := t) (i := t.length - m) (j := t.length - n) (by omega) (by omega)
  rw [show s.length - n - (s.length - m) = m - n by omega] at e1
  rw [show t.length - n - (t.length - m) = m - n by omega] at e2
  constructor
  · intro e
    refine ⟨a, b, ?_⟩
    rw [e, e2] at e1
    rw [← List.take_append_drop (m - n) (s.cps.toList.drop (s.length - m)), ← List.take_append_drop (m - n) (t.cps.toList.drop (t.length - m)), ← e1, List.drop_drop, List.drop_drop, show s.length - m + (m - n) = s.length - n by omega, show t.length - m + (m - n) = t.length - n by omega, h.2.2]
  · intro g
    refine str_ext ?_
    rw [e1, e2, g.2.2]
/-- an edit that leads from s to t -/
def Val (s t : Str) (p r : Nat) (i : Str) : Prop := p + r ≤ s.length ∧ putIn s p r i = t
/-- one edit goes ahead of another: fewer signs, or as many and not ahead of its place -/
def Bet (p r : Nat) (i : Str) (p' r' : Nat) (i' : Str) : Prop := r + i.length < r' + i'.length ∨ (r + i.length = r' + i'.length ∧ p' ≤ p)
structure Least (s t : Str) (p r : Nat) (i : Str) : Prop where
  same : s = t → p = 0 ∧ r = 0 ∧ i = ""
  val : Val s t p r i
  best : s ≠ t → ∀ p' r' i', Val s t p' r' i' → Bet p r i p' r' i'
theorem Val.len (h : Val s t p r i) : t.length + r = s.length + i.length := by
  have := putIn_length (i := i) h.1
  rw [h.2] at this
  omega
theorem Val.ins (h : Val s t p r i) : i = tookOut t p i.length := by
  have := took_back (i := i) h.1
  rw [h.2] at this
  exact this.symm
theorem Val.pre (h : Val s t p r i) : Pre s t p := by
  have hl := h.len
  have h1 := h.1
  refine ⟨by omega, by omega, ?_⟩
  rw [← h.2, putIn_list h.1, List.append_assoc, List.take_append_of_le_length (by rw [List.length_take, ← len_cps]; omega), List.take_take, Nat.min_self]
theorem Val.suf (h : Val s t p r i) : Suf s t (s.length - p - r) := by
  have hl := h.len
  have h1 := h.1
  refine ⟨by omega, by omega, ?_⟩
  have e1 : s.length - (s.length - p - r) = p + r := by omega
  have e2 : t.length - (s.length - p - r) = p + i.length := by omega
  have lp : (s.cps.toList.take p).length = p := by rw [List.length_take, ← len_cps]; omega
  have e4 : (s.cps.toList.take p ++ i.cps.toList).length = p + i.length := by rw [List.length_append, lp, ← len_cps]
  rw [e1, e2, ← h.2, putIn_list h.1, ← e4, List.drop_left]
theorem Least.refl : Least s s 0 0 "" := ⟨fun _ => ⟨rfl, rfl, rfl⟩, ⟨Nat.zero_le _, str_ext (by
  rw [putIn_list (Nat.zero_le _)]
  have e3 : ("" : Str).cps.toList = [] := by decide +kernel
  rw [e3]
  simp)⟩, fun h => absurd rfl h⟩
theorem Least.uniq (h : Least s t p r i) (g : Least s t p' r' i') : p = p' ∧ r = r' ∧ i = i' := by
  by_cases e : s = t
  · obtain ⟨a, b, c⟩ := h.same e
    obtain ⟨a', b', c'⟩ := g.same e
    exact ⟨a.trans a'.symm, b.trans b'.symm, c.trans c'.symm⟩
  · have h1 := h.best e _ _ _ g.val
    have h2 := g.best e _ _ _ h.val
    have l1 := h.val.len
    have l2 := g.val.len
    unfold Bet at h1 h2
    have ep : p = p' := by omega
    have er : r = r' := by omega
    have el : i.length = i'.length := by omega
    refine ⟨ep, er, ?_⟩
    rw [h.val.ins, g.val.ins, ep, el]
/-- of what is kept ahead and behind: the least edit -/
theorem least_of {m L B : Nat} (ne : s ≠ t) (hm : m ≤ s.length) (hm' : m ≤ t.length) (hx : m = s.length ∨ m = t.length) (lL : L ≤ m) (pL : Pre s t L) (mL : ∀ n, n ≤ m → Pre s t n → n ≤ L) (lB : B ≤ m - L) (sB : Suf s t B) (mB : ∀ n, n ≤ m - L → Suf s t n → n ≤ B) :
    Least s t L (s.length - B - L) (cutS t (some (L : Int)) (some ((t.length - B : Nat) : Int))) := by
  have e2 := cut_mid (t := t) (i := L) (j := t.length - B) (by omega) (by omega)
  have li : (cutS t (some (L : Int)) (some ((t.length - B : Nat) : Int))).length = t.length - B - L := by
    rw [len_cps, e2, List.length_take, List.length_drop, ← len_cps]
    omega
  have hv : Val s t L (s.length - B - L) (cutS t (some (L : Int)) (some ((t.length - B : Nat) : Int))) := by
    refine ⟨by omega, str_ext ?_⟩
    rw [putIn_list (by omega), e2, pL.2.2, show L + (s.length - B - L) = s.length - B by omega, sB.2.2]
    have e3 : t.cps.toList.drop (t.length - B) = (t.cps.toList.drop L).drop (t.length - B - L) := by rw [List.drop_drop, show L + (t.length - B - L) = t.length - B by omega]
    rw [e3, List.append_assoc, List.take_append_drop, List.take_append_drop]
  refine ⟨fun e => absurd e ne, hv, fun _ p' r' i' v => ?_⟩
  have vl := v.len
  have v1 := v.1
  have vp := v.pre
  have vs := v.suf
  have hp : p' ≤ L := mL p' (by have := vp.1; have := vp.2.1; omega) vp
  have hb : p' + (s.length - p' - r') ≤ L + B := by
    by_cases c : s.length - p' - r' ≤ m - L
    · have := mB _ c vs
      omega
    · have := mB (m - L) (Nat.le_refl _) (vs.le (by omega))
      omega
  unfold Bet
  rw [li]
  omega
/-- the best edit of those looked at so far: places below k, at k those that take out less than q -/
structure BestTo (s t : Str) (p r : Nat) (i : Str) (k q : Nat) : Prop where
  val : Val s t p r i
  place : p ≤ k
  best : ∀ p' r' i', Val s t p' r' i' → p' < k ∨ (p' = k ∧ r' < q) → Bet p r i p' r' i'
theorem BestTo.start : BestTo s t 0 s.length t 0 0 := ⟨⟨by omega, str_ext (by
  rw [putIn_list (by omega), Nat.zero_add, List.take_zero, List.nil_append, List.drop_eq_nil_of_le (by rw [← len_cps]; exact Nat.le_refl _), List.append_nil])⟩, Nat.zero_le _, fun p' r' i' _ h => by omega⟩
theorem BestTo.next {k : Nat} (h : BestTo s t p r i k (s.length - k + 1)) : BestTo s t p r i (k + 1) 0 := ⟨h.val, Nat.le_succ_of_le h.place, fun p' r' i' v hh => h.best p' r' i' v (by have := v.1; omega)⟩
/-- the one looked at next does not lead there -/
theorem BestTo.skip {k q : Nat} (h : BestTo s t p r i k q) (no : ∀ j, ¬ Val s t k q j) : BestTo s t p r i k (q + 1) := ⟨h.val, h.place, fun p' r' i' v hh => by
  rcases hh with hh | ⟨rfl, hq⟩
  · exact h.best _ _ _ v (.inl hh)
  · rcases Nat.lt_or_eq_of_le (Nat.le_of_lt_succ hq) with hq | rfl
    · exact h.best _ _ _ v (.inr ⟨rfl, hq⟩)
    · exact absurd v (no _)⟩
theorem BestTo.keep {k q : Nat} {j : Str} (h : BestTo s t p r i k q) (v : Val s t k q j) (c : ¬ q + j.length ≤ r + i.length) : BestTo s t p r i k (q + 1) := ⟨h.val, h.place, fun p' r' i' v' hh => by
  rcases hh with hh | ⟨rfl, hq⟩
  · exact h.best _ _ _ v' (.inl hh)
  · rcases Nat.lt_or_eq_of_le (Nat.le_of_lt_succ hq) with hq | rfl
    · exact h.best _ _ _ v' (.inr ⟨rfl, hq⟩)
    · have l1 := v.len
      have l2 := v'.len
      unfold Bet
      omega⟩
theorem BestTo.take {k q : Nat} {j : Str} (h : BestTo s t p r i k q) (v : Val s t k q j) (c : q + j.length ≤ r + i.length) : BestTo s t k q j k (q + 1) := ⟨v, Nat.le_refl _, fun p' r' i' v' hh => by
  have hp := h.place
  rcases hh with hh | ⟨rfl, hq⟩
  · have := h.best _ _ _ v' (.inl hh)
    unfold Bet at *
    omega
  · rcases Nat.lt_or_eq_of_le (Nat.le_of_lt_succ hq) with hq | rfl
    · have := h.best _ _ _ v' (.inr ⟨rfl, hq⟩)
      unfold Bet at *
      omega
    · have l1 := v.len
      have l2 := v'.len
      unfold Bet
      omega⟩
theorem BestTo.least (ne : s ≠ t) (h : BestTo s t p r i (s.length + 1) 0) : Least s t p r i := ⟨fun e => absurd e ne, h.val, fun _ p' r' i' v => h.best _ _ _ v (.inl (by have := v.1; omega))⟩
/-- what is tried: the text between must be what is due there -/
theorem Val.tried {k q : Nat} {j : Str} (v : Val s t k q j) : (t.length : Int) - s.length + q = (j.length : Int) ∧ j = tookOut t k j.length := ⟨by have := v.len; omega, v.ins⟩
end
/-! ### a row of edits, as far as it fits -/
def putD (s : Str) : PyData → Str
  | .tuple [.int p, .int r, .str i] => putIn s p r i
  | _ => s
def rowGo (s : Str) : List PyData → Nat → Except Nat Str
  | [], _ => .ok s
  | e :: es, k => if isEditD s.length e = true then rowGo (putD s e) es (k + 1) else .error k
theorem rowGo_append {es fs : List PyData} : ∀ {s t : Str} {k : Nat}, rowGo s es k = .ok t → rowGo s (es ++ fs) k = rowGo t fs (k + es.length) := by
  induction es with
  | nil =>
    intro s t k h
    cases h
    rfl
  | cons e es ih =>
    intro s t k h
    unfold rowGo at h
    rw [List.cons_append, rowGo]
    by_cases c : isEditD s.length e = true
    · rw [if_pos c] at h ⊢
      rw [ih h, List.length_cons, show k + 1 + es.length = k + (es.length + 1) by omega]
    · rw [if_neg c] at h
      cases h
theorem putD_len {s : Str} {e : PyData} (h : isEditD s.length e = true) : ∃ p r i, e = .tuple [.int (p : Nat), .int (r : Nat), .str i] ∧ putD s e = putIn s p r i ∧ p + r ≤ s.length ∧ okText i = true ∧ (putD s e).length + r = s.length + i.length := by
  obtain ⟨p, r, i, rfl, p0, r0, hi, hl⟩ := isEditD_form h
  obtain ⟨p, rfl⟩ := Int.eq_ofNat_of_zero_le p0
  obtain ⟨r, rfl⟩ := Int.eq_ofNat_of_zero_le r0
  have hl' : p + r ≤ s.length := by omega
  exact ⟨p, r, i, rfl, rfl, hl', hi, putIn_length hl'⟩
theorem PdAll.get {R : Addr → HO → Prop} : ∀ {ds : List PyData} {vs : List V} {i : Nat} {v : V}, PdAll R vs ds → vs[i]? = some v → ∃ d, ds[i]? = some d ∧ Pd R v d
  | [], _, _, _, h, e => by cases h; cases e
  | d :: ds, _, 0, v, h, e => by
    cases h with
    | cons h1 h2 =>
      cases e
      exact ⟨d, rfl, h1⟩
  | d :: ds, _, i + 1, v, h, e => by
    cases h with
    | cons h1 h2 =>
      obtain ⟨d', m, q⟩ := h2.get (i := i) e
      exact ⟨d', m, q⟩
end Al
namespace K10
open PySem PySem.Spec PyProof.Rows L2 Al
local macro_rules | `(tactic| walk_at "hp") => `(tactic| first
  | assumption
  | exact upd_same
  | (apply SqL.of; walk_at "hp")
  | (apply SqT.of; walk_at "hp")
  | ((first | (apply upd_get; assumption) | (apply upd_get'; walk_at "ne") | (apply Same.get; assumption) | (apply But.get; assumption; walk_at "ne") | (apply upd_seqT; assumption) | (apply upd_seqL; assumption) | (apply Same.seq; assumption) | (apply Same.seqT; assumption) | (apply But.seqL; assumption; walk_at "ne") | (apply But.seqT; assumption; walk_at "ne")); walk_at "hp"))
local macro_rules | `(tactic| walk_at "ne") => `(tactic| first | assumption | (apply Ne.symm; assumption))
local macro_rules | `(tactic| walk_at "ix") => `(tactic| first | exact atI_of (j := 0) (by decide) rfl | exact atI_of (j := 1) (by decide) rfl | exact atI_of (j := 2) (by decide) rfl | exact atI_of (j := 3) (by decide) rfl | exact atI_of (j := 4) (by decide) rfl | exact ixN_lt (j := 0) (by decide) rfl | exact ixN_lt (j := 1) (by decide) rfl | exact ixN_lt (j := 2) (by decide) rfl | exact ixN_lt (j := 3) (by decide) rfl | exact ixN_lt (j := 4) (by decide) rfl | assumption | (apply atI_of (Int.toNat_of_nonneg (by assumption)).symm; assumption))
local macro_rules | `(tactic| walk_at "sz") => `(tactic| first | (apply lt_line; (try simp only [List.length_map, List.length_append, List.length_cons, List.length_nil]); omega) | (apply le_line; (try simp only [List.length_map, List.length_append, List.length_cons, List.length_nil]); omega))
local macro_rules | `(tactic| walk_at "ty") => `(tactic| first | exact .base (.int _) | exact .base (.bl _) | exact .base (.str _) | exact .base .non | (apply TyX.base; apply TyOf.lst; walk_at "hp") | (apply TyX.base; apply TyOf.tup; walk_at "hp") | (apply SqT_ty; walk_at "hp"))
local macro_rules | `(tactic| walk_at "wp1") => `(tactic| first
  | refine ⟨_, rfl, ?_⟩
  | (with_reducible refine tC_go ?_)
  | (with_reducible refine modL (by first | decide | omega) fun _ _ _ _ => ?_)
  | (with_reducible refine divL (by first | decide | omega) (by first | decide | omega) fun _ _ _ _ _ => ?_)
  | refine ⟨_, _, rfl, rfl, ?_⟩
  | refine ⟨_, _, _, _, rfl, rfl, (by walk_at "hp"), (by walk_at "ix"), ?_⟩
  | refine ⟨rfl, ?_⟩
  | refine ⟨⟨_, rfl⟩, ?_⟩
  | refine ⟨.inl ⟨by omega, by omega⟩, ?_⟩
  | refine ⟨.inr ⟨by decide, by decide⟩, ?_⟩
  | refine ⟨⟨by decide, by decide, by decide⟩, ?_⟩
  | refine brT rfl ?_
  | refine brF rfl ?_
  | refine ⟨_, _, rfl, ?_⟩
  | refine ⟨_, _, rfl, .inl ⟨_, (by walk_at "hp"), rfl⟩, ?_⟩
  | refine ⟨_, _, rfl, .inr ⟨_, (by walk_at "hp"), rfl⟩, ?_⟩
  | refine ⟨.inl ⟨rfl, _, (by walk_at "hp")⟩, ?_⟩
  | refine ⟨_, _, _, rfl, rfl, (by walk_at "hp"), (by walk_at "sz"), ?_⟩
  | refine ⟨_, _, rfl, ⟨(by walk_at "sz"), rfl⟩, ?_⟩
  | refine ⟨_, _, rfl, .inr (by walk_at "hp"), rfl, rfl, ?_⟩
  | refine ⟨_, _, _, _, false, rfl, .ty _, (by walk_at "ty"), kit_ty (by decide +kernel), ?_⟩
  | refine ⟨_, _, _, _, true, rfl, .ty _, (by walk_at "ty"), kit_ty (by decide +kernel), ?_⟩
  | refine ⟨_, _, rfl, (by walk_at "hp"), rfl, _, _, rfl, _, _, rfl, rfl, ?_⟩
  | refine ⟨_, _, rfl, (by walk_at "hp"), rfl, _, _, rfl, _, _, rfl, _, _, rfl, rfl, ?_⟩
  | refine .inl ⟨_, rfl, ?_⟩
  | refine .inr ⟨_, rfl, ?_⟩)
local macro_rules | `(tactic| walk_at "wp") => `(tactic| repeat walk_at "wp1")
def topS (i : Nat) : Stmt := PySem.Challenge.pw_alwaystree_k10_least_edit_by_trying.main.body.getD i (.Pass ⟨0, 0, 0, 0⟩)
/-! ### the text -/
abbrev s_InvalidPattern_init : Stmt := inClass (topS 2) 0
theorem sc_InvalidPattern_init : FnScope ["self", "text", "at"] ["self", "text", "at"] (defScope s_InvalidPattern_init) := ⟨rfl, rfl, rfl, by decide +kernel, rfl, by decide +kernel, by decide +kernel⟩
abbrev s_InvalidKinds_init : Stmt := inClass (topS 3) 0
theorem sc_InvalidKinds_init : FnScope ["self", "value"] ["self", "value"] (defScope s_InvalidKinds_init) := ⟨rfl, rfl, rfl, by decide +kernel, rfl, by decide +kernel, by decide +kernel⟩
abbrev s_InvalidRules_init : Stmt := inClass (topS 4) 0
theorem sc_InvalidRules_init : FnScope ["self", "value"] ["self", "value"] (defScope s_InvalidRules_init) := ⟨rfl, rfl, rfl, by decide +kernel, rfl, by decide +kernel, by decide +kernel⟩
abbrev s_InvalidText_init : Stmt := inClass (topS 5) 0
theorem sc_InvalidText_init : FnScope ["self", "value"] ["self", "value"] (defScope s_InvalidText_init) := ⟨rfl, rfl, rfl, by decide +kernel, rfl, by decide +kernel, by decide +kernel⟩
abbrev s_InvalidTokens_init : Stmt := inClass (topS 6) 0
theorem sc_InvalidTokens_init : FnScope ["self", "value"] ["self", "value"] (defScope s_InvalidTokens_init) := ⟨rfl, rfl, rfl, by decide +kernel, rfl, by decide +kernel, by decide +kernel⟩
abbrev s_InvalidEdit_init : Stmt := inClass (topS 7) 0
theorem sc_InvalidEdit_init : FnScope ["self", "value"] ["self", "value"] (defScope s_InvalidEdit_init) := ⟨rfl, rfl, rfl, by decide +kernel, rfl, by decide +kernel, by decide +kernel⟩
abbrev s_InvalidNumber_init : Stmt := inClass (topS 8) 0
theorem sc_InvalidNumber_init : FnScope ["self", "value"] ["self", "value"] (defScope s_InvalidNumber_init) := ⟨rfl, rfl, rfl, by decide +kernel, rfl, by decide +kernel, by decide +kernel⟩
abbrev s_InvalidLanguage_init : Stmt := inClass (topS 9) 0
theorem sc_InvalidLanguage_init : FnScope ["self", "text", "at"] ["self", "text", "at"] (defScope s_InvalidLanguage_init) := ⟨rfl, rfl, rfl, by decide +kernel, rfl, by decide +kernel, by decide +kernel⟩
abbrev s_InvalidCommand_init : Stmt := inClass (topS 10) 0
theorem sc_InvalidCommand_init : FnScope ["self", "command", "at"] ["self", "command", "at"] (defScope s_InvalidCommand_init) := ⟨rfl, rfl, rfl, by decide +kernel, rfl, by decide +kernel, by decide +kernel⟩
abbrev s_Clash_init : Stmt := inClass (topS 11) 0
theorem sc_Clash_init : FnScope ["self", "paper"] ["self", "paper"] (defScope s_Clash_init) := ⟨rfl, rfl, rfl, by decide +kernel, rfl, by decide +kernel, by decide +kernel⟩
abbrev s_Undefined_init : Stmt := inClass (topS 12) 0
theorem sc_Undefined_init : FnScope ["self", "what"] ["self", "what"] (defScope s_Undefined_init) := ⟨rfl, rfl, rfl, by decide +kernel, rfl, by decide +kernel, by decide +kernel⟩
abbrev s_NothingToDo_init : Stmt := inClass (topS 13) 0
theorem sc_NothingToDo_init : FnScope ["self", "word"] ["self", "word"] (defScope s_NothingToDo_init) := ⟨rfl, rfl, rfl, by decide +kernel, rfl, by decide +kernel, by decide +kernel⟩
abbrev s_is_integer : Stmt := topS 15
theorem sc_is_integer : FnScope ["value"] ["value"] (defScope s_is_integer) := ⟨rfl, rfl, rfl, by decide +kernel, rfl, by decide +kernel, by decide +kernel⟩
abbrev s_is_number : Stmt := topS 16
theorem sc_is_number : FnScope ["value"] ["value"] (defScope s_is_number) := ⟨rfl, rfl, rfl, by decide +kernel, rfl, by decide +kernel, by decide +kernel⟩
abbrev s_is_text : Stmt := topS 18
theorem sc_is_text : FnScope ["value"] ["value"] (defScope s_is_text) := ⟨rfl, rfl, rfl, by decide +kernel, rfl, by decide +kernel, by decide +kernel⟩
abbrev s_text_asked : Stmt := topS 19
theorem sc_text_asked : FnScope ["value"] ["value"] (defScope s_text_asked) := ⟨rfl, rfl, rfl, by decide +kernel, rfl, by decide +kernel, by decide +kernel⟩
abbrev s_is_edit : Stmt := topS 22
theorem sc_is_edit : FnScope ["text", "value", "place", "removed", "inserted"] ["text", "value"] (defScope s_is_edit) := ⟨rfl, rfl, rfl, by decide +kernel, rfl, by decide +kernel, by decide +kernel⟩
abbrev s_edit_asked : Stmt := topS 23
theorem sc_edit_asked : FnScope ["text", "value"] ["text", "value"] (defScope s_edit_asked) := ⟨rfl, rfl, rfl, by decide +kernel, rfl, by decide +kernel, by decide +kernel⟩
abbrev s_put_in : Stmt := topS 24
theorem sc_put_in : FnScope ["text", "edit", "place", "removed", "inserted"] ["text", "edit"] (defScope s_put_in) := ⟨rfl, rfl, rfl, by decide +kernel, rfl, by decide +kernel, by decide +kernel⟩
abbrev s_alike_ahead : Stmt := topS 25
theorem sc_alike_ahead : FnScope ["one", "other", "most", "known", "bound", "middle"] ["one", "other", "most"] (defScope s_alike_ahead) := ⟨rfl, rfl, rfl, by decide +kernel, rfl, by decide +kernel, by decide +kernel⟩
abbrev s_alike_behind : Stmt := topS 26
theorem sc_alike_behind : FnScope ["one", "other", "most", "known", "bound", "middle", "left", "right"] ["one", "other", "most"] (defScope s_alike_behind) := ⟨rfl, rfl, rfl, by decide +kernel, rfl, by decide +kernel, by decide +kernel⟩
abbrev s_least_edit : Stmt := topS 27
theorem sc_least_edit : FnScope ["one", "other", "shorter", "place", "behind"] ["one", "other"] (defScope s_least_edit) := ⟨rfl, rfl, rfl, by decide +kernel, rfl, by decide +kernel, by decide +kernel⟩
abbrev s_joined_edits : Stmt := topS 28
theorem sc_joined_edits : FnScope ["text", "edits", "last", "edit"] ["text", "edits"] (defScope s_joined_edits) := ⟨rfl, rfl, rfl, by decide +kernel, rfl, by decide +kernel, by decide +kernel⟩
abbrev s_law_bag : Stmt := topS 30
theorem sc_law_bag : FnScope ["script"] ["script"] (defScope s_law_bag) := ⟨rfl, rfl, rfl, by decide +kernel, rfl, by decide +kernel, by decide +kernel⟩
abbrev s_law_take : Stmt := topS 31
theorem sc_law_take : FnScope ["bag", "many", "cell", "told", "mixed"] ["bag", "many"] (defScope s_law_take) := ⟨rfl, rfl, rfl, by decide +kernel, rfl, by decide +kernel, by decide +kernel⟩
abbrev s_law_sign : Stmt := topS 32
theorem sc_law_sign : FnScope ["number", "signs"] ["number"] (defScope s_law_sign) := ⟨rfl, rfl, rfl, by decide +kernel, rfl, by decide +kernel, by decide +kernel⟩
abbrev s_law_text : Stmt := topS 33
theorem sc_law_text : FnScope ["numbers", "number"] ["numbers"] (defScope s_law_text) := ⟨rfl, rfl, rfl, by decide +kernel, rfl, by decide +kernel, by decide +kernel⟩
abbrev s_law_letters : Stmt := topS 34
theorem sc_law_letters : FnScope ["bag", "first", "letters", "near", "k", "number"] ["bag"] (defScope s_law_letters) := ⟨rfl, rfl, rfl, by decide +kernel, rfl, by decide +kernel, by decide +kernel⟩
abbrev s_law_pick : Stmt := topS 35
theorem sc_law_pick : FnScope ["bag", "letters", "number"] ["bag", "letters"] (defScope s_law_pick) := ⟨rfl, rfl, rfl, by decide +kernel, rfl, by decide +kernel, by decide +kernel⟩
abbrev s_law_same : Stmt := topS 36
theorem sc_law_same : FnScope ["actual", "due", "k"] ["actual", "due"] (defScope s_law_same) := ⟨rfl, rfl, rfl, by decide +kernel, rfl, by decide +kernel, by decide +kernel⟩
abbrev s_law_lone : Stmt := topS 37
theorem sc_law_lone : FnScope ["e", "count"] ["e"] (defScope s_law_lone) := ⟨rfl, rfl, rfl, by decide +kernel, rfl, by decide +kernel, by decide +kernel⟩
abbrev s_law_tried : Stmt := topS 38
theorem sc_law_tried : FnScope ["one", "other", "best", "place", "removed", "size", "inserted"] ["one", "other"] (defScope s_law_tried) := ⟨rfl, rfl, rfl, by decide +kernel, rfl, by decide +kernel, by decide +kernel⟩
abbrev s_law_drawn : Stmt := topS 39
theorem sc_law_drawn : FnScope ["bag", "letters", "most", "numbers", "k"] ["bag", "letters", "most"] (defScope s_law_drawn) := ⟨rfl, rfl, rfl, by decide +kernel, rfl, by decide +kernel, by decide +kernel⟩
abbrev s_law_refused : Stmt := topS 40
theorem sc_law_refused : FnScope ["one", "other", "joined", "e"] ["one", "other", "joined"] (defScope s_law_refused) := ⟨rfl, rfl, rfl, by decide +kernel, rfl, by decide +kernel, by decide +kernel⟩
abbrev s_law : Stmt := topS 41
theorem sc_law : FnScope ["script", "bag", "letters", "first", "texts", "edits", "k", "text", "place", "removed", "last", "other", "pair", "bad", "worse", "size", "unfit", "rows"] ["script"] (defScope s_law) := ⟨rfl, rfl, rfl, by decide +kernel, rfl, by decide +kernel, by decide +kernel⟩
/-! ### what the top has written -/
structure Adr where
  InvalidPattern_init : Addr
  InvalidPattern_init_d : FuncData
  InvalidKinds_init : Addr
  InvalidKinds_init_d : FuncData
  InvalidRules_init : Addr
  InvalidRules_init_d : FuncData
  InvalidText_init : Addr
  InvalidText_init_d : FuncData
  InvalidTokens_init : Addr
  InvalidTokens_init_d : FuncData
  InvalidEdit_init : Addr
  InvalidEdit_init_d : FuncData
  InvalidNumber_init : Addr
  InvalidNumber_init_d : FuncData
  InvalidLanguage_init : Addr
  InvalidLanguage_init_d : FuncData
  InvalidCommand_init : Addr
  InvalidCommand_init_d : FuncData
  Clash_init : Addr
  Clash_init_d : FuncData
  Undefined_init : Addr
  Undefined_init_d : FuncData
  NothingToDo_init : Addr
  NothingToDo_init_d : FuncData
  is_integer : Addr
  is_integer_d : FuncData
  is_number : Addr
  is_number_d : FuncData
  is_text : Addr
  is_text_d : FuncData
  text_asked : Addr
  text_asked_d : FuncData
  is_edit : Addr
  is_edit_d : FuncData
  edit_asked : Addr
  edit_asked_d : FuncData
  put_in : Addr
  put_in_d : FuncData
  alike_ahead : Addr
  alike_ahead_d : FuncData
  alike_behind : Addr
  alike_behind_d : FuncData
  least_edit : Addr
  least_edit_d : FuncData
  joined_edits : Addr
  joined_edits_d : FuncData
  law_bag : Addr
  law_bag_d : FuncData
  law_take : Addr
  law_take_d : FuncData
  law_sign : Addr
  law_sign_d : FuncData
  law_text : Addr
  law_text_d : FuncData
  law_letters : Addr
  law_letters_d : FuncData
  law_pick : Addr
  law_pick_d : FuncData
  law_same : Addr
  law_same_d : FuncData
  law_lone : Addr
  law_lone_d : FuncData
  law_tried : Addr
  law_tried_d : FuncData
  law_drawn : Addr
  law_drawn_d : FuncData
  law_refused : Addr
  law_refused_d : FuncData
  law : Addr
  law_d : FuncData
  TreeError : Addr
  InvalidPattern : Addr
  InvalidKinds : Addr
  InvalidRules : Addr
  InvalidText : Addr
  InvalidTokens : Addr
  InvalidEdit : Addr
  InvalidNumber : Addr
  InvalidLanguage : Addr
  InvalidCommand : Addr
  Clash : Addr
  Undefined : Addr
  NothingToDo : Addr
  NO_CHANGE : Addr
structure Txt (K : PySem.W.Frag) (mg : Str → Option Value) (a : Adr) : Prop where
  F_InvalidPattern_init : Fun K "__init__" "InvalidPattern.__init__" s_InvalidPattern_init a.InvalidPattern_init a.InvalidPattern_init_d
  F_InvalidKinds_init : Fun K "__init__" "InvalidKinds.__init__" s_InvalidKinds_init a.InvalidKinds_init a.InvalidKinds_init_d
  F_InvalidRules_init : Fun K "__init__" "InvalidRules.__init__" s_InvalidRules_init a.InvalidRules_init a.InvalidRules_init_d
  F_InvalidText_init : Fun K "__init__" "InvalidText.__init__" s_InvalidText_init a.InvalidText_init a.InvalidText_init_d
  F_InvalidTokens_init : Fun K "__init__" "InvalidTokens.__init__" s_InvalidTokens_init a.InvalidTokens_init a.InvalidTokens_init_d
  F_InvalidEdit_init : Fun K "__init__" "InvalidEdit.__init__" s_InvalidEdit_init a.InvalidEdit_init a.InvalidEdit_init_d
  F_InvalidNumber_init : Fun K "__init__" "InvalidNumber.__init__" s_InvalidNumber_init a.InvalidNumber_init a.InvalidNumber_init_d
  F_InvalidLanguage_init : Fun K "__init__" "InvalidLanguage.__init__" s_InvalidLanguage_init a.InvalidLanguage_init a.InvalidLanguage_init_d
  F_InvalidCommand_init : Fun K "__init__" "InvalidCommand.__init__" s_InvalidCommand_init a.InvalidCommand_init a.InvalidCommand_init_d
  F_Clash_init : Fun K "__init__" "Clash.__init__" s_Clash_init a.Clash_init a.Clash_init_d
  F_Undefined_init : Fun K "__init__" "Undefined.__init__" s_Undefined_init a.Undefined_init a.Undefined_init_d
  F_NothingToDo_init : Fun K "__init__" "NothingToDo.__init__" s_NothingToDo_init a.NothingToDo_init a.NothingToDo_init_d
  F_is_integer : Fun K "is_integer" "is_integer" s_is_integer a.is_integer a.is_integer_d
  m_is_integer : mg "is_integer" = some (.ref a.is_integer)
  F_is_number : Fun K "is_number" "is_number" s_is_number a.is_number a.is_number_d
  m_is_number : mg "is_number" = some (.ref a.is_number)
  F_is_text : Fun K "is_text" "is_text" s_is_text a.is_text a.is_text_d
  m_is_text : mg "is_text" = some (.ref a.is_text)
  F_text_asked : Fun K "text_asked" "text_asked" s_text_asked a.text_asked a.text_asked_d
  m_text_asked : mg "text_asked" = some (.ref a.text_asked)
  F_is_edit : Fun K "is_edit" "is_edit" s_is_edit a.is_edit a.is_edit_d
  m_is_edit : mg "is_edit" = some (.ref a.is_edit)
  F_edit_asked : Fun K "edit_asked" "edit_asked" s_edit_asked a.edit_asked a.edit_asked_d
  m_edit_asked : mg "edit_asked" = some (.ref a.edit_asked)
  F_put_in : Fun K "put_in" "put_in" s_put_in a.put_in a.put_in_d
  m_put_in : mg "put_in" = some (.ref a.put_in)
  F_alike_ahead : Fun K "alike_ahead" "alike_ahead" s_alike_ahead a.alike_ahead a.alike_ahead_d
  m_alike_ahead : mg "alike_ahead" = some (.ref a.alike_ahead)
  F_alike_behind : Fun K "alike_behind" "alike_behind" s_alike_behind a.alike_behind a.alike_behind_d
  m_alike_behind : mg "alike_behind" = some (.ref a.alike_behind)
  F_least_edit : Fun K "least_edit" "least_edit" s_least_edit a.least_edit a.least_edit_d
  m_least_edit : mg "least_edit" = some (.ref a.least_edit)
  F_joined_edits : Fun K "joined_edits" "joined_edits" s_joined_edits a.joined_edits a.joined_edits_d
  m_joined_edits : mg "joined_edits" = some (.ref a.joined_edits)
  F_law_bag : Fun K "_law_bag" "_law_bag" s_law_bag a.law_bag a.law_bag_d
  m_law_bag : mg "_law_bag" = some (.ref a.law_bag)
  F_law_take : Fun K "_law_take" "_law_take" s_law_take a.law_take a.law_take_d
  m_law_take : mg "_law_take" = some (.ref a.law_take)
  F_law_sign : Fun K "_law_sign" "_law_sign" s_law_sign a.law_sign a.law_sign_d
  m_law_sign : mg "_law_sign" = some (.ref a.law_sign)
  F_law_text : Fun K "_law_text" "_law_text" s_law_text a.law_text a.law_text_d
  m_law_text : mg "_law_text" = some (.ref a.law_text)
  F_law_letters : Fun K "_law_letters" "_law_letters" s_law_letters a.law_letters a.law_letters_d
  m_law_letters : mg "_law_letters" = some (.ref a.law_letters)
  F_law_pick : Fun K "_law_pick" "_law_pick" s_law_pick a.law_pick a.law_pick_d
  m_law_pick : mg "_law_pick" = some (.ref a.law_pick)
  F_law_same : Fun K "_law_same" "_law_same" s_law_same a.law_same a.law_same_d
  m_law_same : mg "_law_same" = some (.ref a.law_same)
  F_law_lone : Fun K "_law_lone" "_law_lone" s_law_lone a.law_lone a.law_lone_d
  m_law_lone : mg "_law_lone" = some (.ref a.law_lone)
  F_law_tried : Fun K "_law_tried" "_law_tried" s_law_tried a.law_tried a.law_tried_d
  m_law_tried : mg "_law_tried" = some (.ref a.law_tried)
  F_law_drawn : Fun K "_law_drawn" "_law_drawn" s_law_drawn a.law_drawn a.law_drawn_d
  m_law_drawn : mg "_law_drawn" = some (.ref a.law_drawn)
  F_law_refused : Fun K "_law_refused" "_law_refused" s_law_refused a.law_refused a.law_refused_d
  m_law_refused : mg "_law_refused" = some (.ref a.law_refused)
  F_law : Fun K "law" "law" s_law a.law a.law_d
  m_law : mg "law" = some (.ref a.law)
  m_TreeError : mg "TreeError" = some (.ref a.TreeError)
  m_InvalidPattern : mg "InvalidPattern" = some (.ref a.InvalidPattern)
  m_InvalidKinds : mg "InvalidKinds" = some (.ref a.InvalidKinds)
  m_InvalidRules : mg "InvalidRules" = some (.ref a.InvalidRules)
  m_InvalidText : mg "InvalidText" = some (.ref a.InvalidText)
  e_InvalidText : ExAll K a.InvalidText a.TreeError a.InvalidText_init
  n_InvalidText_value : PySem.W.findIn K (.ref a.InvalidText) "value" = some none
  m_InvalidTokens : mg "InvalidTokens" = some (.ref a.InvalidTokens)
  m_InvalidEdit : mg "InvalidEdit" = some (.ref a.InvalidEdit)
  e_InvalidEdit : ExAll K a.InvalidEdit a.TreeError a.InvalidEdit_init
  n_InvalidEdit_value : PySem.W.findIn K (.ref a.InvalidEdit) "value" = some none
  m_InvalidNumber : mg "InvalidNumber" = some (.ref a.InvalidNumber)
  m_InvalidLanguage : mg "InvalidLanguage" = some (.ref a.InvalidLanguage)
  m_InvalidCommand : mg "InvalidCommand" = some (.ref a.InvalidCommand)
  m_Clash : mg "Clash" = some (.ref a.Clash)
  m_Undefined : mg "Undefined" = some (.ref a.Undefined)
  m_NothingToDo : mg "NothingToDo" = some (.ref a.NothingToDo)
  m_NO_CHANGE : mg "NO_CHANGE" = some (.ref a.NO_CHANGE)
  t_NO_CHANGE : KTup K a.NO_CHANGE [.int 0, .int 0, .str ""]
  z_ValueError : mg "ValueError" = none
  z_abs : mg "abs" = none
  z_all : mg "all" = none
  z_bool : mg "bool" = none
  z_int : mg "int" = none
  z_isinstance : mg "isinstance" = none
  z_len : mg "len" = none
  z_list : mg "list" = none
  z_max : mg "max" = none
  z_min : mg "min" = none
  z_range : mg "range" = none
  z_repr : mg "repr" = none
  z_str : mg "str" = none
  z_tuple : mg "tuple" = none
  k_Text_InvalidPattern : PySem.W.kitOne K (.ref a.InvalidText) (.ref a.InvalidPattern) = some false
  k_Text_InvalidKinds : PySem.W.kitOne K (.ref a.InvalidText) (.ref a.InvalidKinds) = some false
  k_Text_InvalidRules : PySem.W.kitOne K (.ref a.InvalidText) (.ref a.InvalidRules) = some false
  k_Text_InvalidText : PySem.W.kitOne K (.ref a.InvalidText) (.ref a.InvalidText) = some true
  k_Text_InvalidTokens : PySem.W.kitOne K (.ref a.InvalidText) (.ref a.InvalidTokens) = some false
  k_Text_InvalidEdit : PySem.W.kitOne K (.ref a.InvalidText) (.ref a.InvalidEdit) = some false
  k_Text_InvalidNumber : PySem.W.kitOne K (.ref a.InvalidText) (.ref a.InvalidNumber) = some false
  k_Text_InvalidLanguage : PySem.W.kitOne K (.ref a.InvalidText) (.ref a.InvalidLanguage) = some false
  k_Text_InvalidCommand : PySem.W.kitOne K (.ref a.InvalidText) (.ref a.InvalidCommand) = some false
  k_Text_Clash : PySem.W.kitOne K (.ref a.InvalidText) (.ref a.Clash) = some false
  k_Text_Undefined : PySem.W.kitOne K (.ref a.InvalidText) (.ref a.Undefined) = some false
  k_Text_NothingToDo : PySem.W.kitOne K (.ref a.InvalidText) (.ref a.NothingToDo) = some false
  k_Edit_InvalidPattern : PySem.W.kitOne K (.ref a.InvalidEdit) (.ref a.InvalidPattern) = some false
  k_Edit_InvalidKinds : PySem.W.kitOne K (.ref a.InvalidEdit) (.ref a.InvalidKinds) = some false
  k_Edit_InvalidRules : PySem.W.kitOne K (.ref a.InvalidEdit) (.ref a.InvalidRules) = some false
  k_Edit_InvalidText : PySem.W.kitOne K (.ref a.InvalidEdit) (.ref a.InvalidText) = some false
  k_Edit_InvalidTokens : PySem.W.kitOne K (.ref a.InvalidEdit) (.ref a.InvalidTokens) = some false
  k_Edit_InvalidEdit : PySem.W.kitOne K (.ref a.InvalidEdit) (.ref a.InvalidEdit) = some true
  k_Edit_InvalidNumber : PySem.W.kitOne K (.ref a.InvalidEdit) (.ref a.InvalidNumber) = some false
  k_Edit_InvalidLanguage : PySem.W.kitOne K (.ref a.InvalidEdit) (.ref a.InvalidLanguage) = some false
  k_Edit_InvalidCommand : PySem.W.kitOne K (.ref a.InvalidEdit) (.ref a.InvalidCommand) = some false
  k_Edit_Clash : PySem.W.kitOne K (.ref a.InvalidEdit) (.ref a.Clash) = some false
  k_Edit_Undefined : PySem.W.kitOne K (.ref a.InvalidEdit) (.ref a.Undefined) = some false
  k_Edit_NothingToDo : PySem.W.kitOne K (.ref a.InvalidEdit) (.ref a.NothingToDo) = some false
  k_Text_VE : PySem.W.kitOne K (.ref a.InvalidText) (.type "ValueError") = some true
  k_Edit_VE : PySem.W.kitOne K (.ref a.InvalidEdit) (.type "ValueError") = some true
section
variable {K : PySem.W.Frag} {mg : Str → Option Value} {a : Adr}
theorem B_InvalidPattern_init (T : Txt K mg a) : Binds K a.InvalidPattern_init_d ["self", "text", "at"] [] := T.F_InvalidPattern_init.binds (ps := ["self", "text", "at"]) fun _ _ _ _ _ _ us hl => match us, hl with | [_, _, _], _ => rfl
theorem B_InvalidKinds_init (T : Txt K mg a) : Binds K a.InvalidKinds_init_d ["self", "value"] [] := T.F_InvalidKinds_init.binds (ps := ["self", "value"]) fun _ _ _ _ _ _ us hl => match us, hl with | [_, _], _ => rfl
theorem B_InvalidRules_init (T : Txt K mg a) : Binds K a.InvalidRules_init_d ["self", "value"] [] := T.F_InvalidRules_init.binds (ps := ["self", "value"]) fun _ _ _ _ _ _ us hl => match us, hl with | [_, _], _ => rfl
theorem B_InvalidText_init (T : Txt K mg a) : Binds K a.InvalidText_init_d ["self", "value"] [] := T.F_InvalidText_init.binds (ps := ["self", "value"]) fun _ _ _ _ _ _ us hl => match us, hl with | [_, _], _ => rfl
theorem B_InvalidTokens_init (T : Txt K mg a) : Binds K a.InvalidTokens_init_d ["self", "value"] [] := T.F_InvalidTokens_init.binds (ps := ["self", "value"]) fun _ _ _ _ _ _ us hl => match us, hl with | [_, _], _ => rfl
theorem B_InvalidEdit_init (T : Txt K mg a) : Binds K a.InvalidEdit_init_d ["self", "value"] [] := T.F_InvalidEdit_init.binds (ps := ["self", "value"]) fun _ _ _ _ _ _ us hl => match us, hl with | [_, _], _ => rfl
theorem B_InvalidNumber_init (T : Txt K mg a) : Binds K a.InvalidNumber_init_d ["self", "value"] [] := T.F_InvalidNumber_init.binds (ps := ["self", "value"]) fun _ _ _ _ _ _ us hl => match us, hl with | [_, _], _ => rfl
theorem B_InvalidLanguage_init (T : Txt K mg a) : Binds K a.InvalidLanguage_init_d ["self", "text", "at"] [] := T.F_InvalidLanguage_init.binds (ps := ["self", "text", "at"]) fun _ _ _ _ _ _ us hl => match us, hl with | [_, _, _], _ => rfl
theorem B_InvalidCommand_init (T : Txt K mg a) : Binds K a.InvalidCommand_init_d ["self", "command", "at"] [] := T.F_InvalidCommand_init.binds (ps := ["self", "command", "at"]) fun _ _ _ _ _ _ us hl => match us, hl with | [_, _, _], _ => rfl
theorem B_Clash_init (T : Txt K mg a) : Binds K a.Clash_init_d ["self", "paper"] [] := T.F_Clash_init.binds (ps := ["self", "paper"]) fun _ _ _ _ _ _ us hl => match us, hl with | [_, _], _ => rfl
theorem B_Undefined_init (T : Txt K mg a) : Binds K a.Undefined_init_d ["self", "what"] [] := T.F_Undefined_init.binds (ps := ["self", "what"]) fun _ _ _ _ _ _ us hl => match us, hl with | [_, _], _ => rfl
theorem B_NothingToDo_init (T : Txt K mg a) : Binds K a.NothingToDo_init_d ["self", "word"] [] := T.F_NothingToDo_init.binds (ps := ["self", "word"]) fun _ _ _ _ _ _ us hl => match us, hl with | [_, _], _ => rfl
theorem B_is_integer (T : Txt K mg a) : Binds K a.is_integer_d ["value"] [] := T.F_is_integer.binds (ps := ["value"]) fun _ _ _ _ _ _ us hl => match us, hl with | [_], _ => rfl
theorem B_is_number (T : Txt K mg a) : Binds K a.is_number_d ["value"] [] := T.F_is_number.binds (ps := ["value"]) fun _ _ _ _ _ _ us hl => match us, hl with | [_], _ => rfl
theorem B_is_text (T : Txt K mg a) : Binds K a.is_text_d ["value"] [] := T.F_is_text.binds (ps := ["value"]) fun _ _ _ _ _ _ us hl => match us, hl with | [_], _ => rfl
theorem B_text_asked (T : Txt K mg a) : Binds K a.text_asked_d ["value"] [] := T.F_text_asked.binds (ps := ["value"]) fun _ _ _ _ _ _ us hl => match us, hl with | [_], _ => rfl
theorem B_is_edit (T : Txt K mg a) : Binds K a.is_edit_d ["text", "value"] [] := T.F_is_edit.binds (ps := ["text", "value"]) fun _ _ _ _ _ _ us hl => match us, hl with | [_, _], _ => rfl
theorem B_edit_asked (T : Txt K mg a) : Binds K a.edit_asked_d ["text", "value"] [] := T.F_edit_asked.binds (ps := ["text", "value"]) fun _ _ _ _ _ _ us hl => match us, hl with | [_, _], _ => rfl
theorem B_put_in (T : Txt K mg a) : Binds K a.put_in_d ["text", "edit"] [] := T.F_put_in.binds (ps := ["text", "edit"]) fun _ _ _ _ _ _ us hl => match us, hl with | [_, _], _ => rfl
theorem B_alike_ahead (T : Txt K mg a) : Binds K a.alike_ahead_d ["one", "other", "most"] [] := T.F_alike_ahead.binds (ps := ["one", "other", "most"]) fun _ _ _ _ _ _ us hl => match us, hl with | [_, _, _], _ => rfl
theorem B_alike_behind (T : Txt K mg a) : Binds K a.alike_behind_d ["one", "other", "most"] [] := T.F_alike_behind.binds (ps := ["one", "other", "most"]) fun _ _ _ _ _ _ us hl => match us, hl with | [_, _, _], _ => rfl
theorem B_least_edit (T : Txt K mg a) : Binds K a.least_edit_d ["one", "other"] [] := T.F_least_edit.binds (ps := ["one", "other"]) fun _ _ _ _ _ _ us hl => match us, hl with | [_, _], _ => rfl
theorem B_joined_edits (T : Txt K mg a) : Binds K a.joined_edits_d ["text", "edits"] [] := T.F_joined_edits.binds (ps := ["text", "edits"]) fun _ _ _ _ _ _ us hl => match us, hl with | [_, _], _ => rfl
theorem B_law_bag (T : Txt K mg a) : Binds K a.law_bag_d ["script"] [] := T.F_law_bag.binds (ps := ["script"]) fun _ _ _ _ _ _ us hl => match us, hl with | [_], _ => rfl
theorem B_law_take (T : Txt K mg a) : Binds K a.law_take_d ["bag", "many"] [] := T.F_law_take.binds (ps := ["bag", "many"]) fun _ _ _ _ _ _ us hl => match us, hl with | [_, _], _ => rfl
theorem B_law_sign (T : Txt K mg a) : Binds K a.law_sign_d ["number"] [] := T.F_law_sign.binds (ps := ["number"]) fun _ _ _ _ _ _ us hl => match us, hl with | [_], _ => rfl
theorem B_law_text (T : Txt K mg a) : Binds K a.law_text_d ["numbers"] [] := T.F_law_text.binds (ps := ["numbers"]) fun _ _ _ _ _ _ us hl => match us, hl with | [_], _ => rfl
theorem B_law_letters (T : Txt K mg a) : Binds K a.law_letters_d ["bag"] [] := T.F_law_letters.binds (ps := ["bag"]) fun _ _ _ _ _ _ us hl => match us, hl with | [_], _ => rfl
theorem B_law_pick (T : Txt K mg a) : Binds K a.law_pick_d ["bag", "letters"] [] := T.F_law_pick.binds (ps := ["bag", "letters"]) fun _ _ _ _ _ _ us hl => match us, hl with | [_, _], _ => rfl
theorem B_law_same (T : Txt K mg a) : Binds K a.law_same_d ["actual", "due"] [] := T.F_law_same.binds (ps := ["actual", "due"]) fun _ _ _ _ _ _ us hl => match us, hl with | [_, _], _ => rfl
theorem B_law_lone (T : Txt K mg a) : Binds K a.law_lone_d ["e"] [] := T.F_law_lone.binds (ps := ["e"]) fun _ _ _ _ _ _ us hl => match us, hl with | [_], _ => rfl
theorem B_law_tried (T : Txt K mg a) : Binds K a.law_tried_d ["one", "other"] [] := T.F_law_tried.binds (ps := ["one", "other"]) fun _ _ _ _ _ _ us hl => match us, hl with | [_, _], _ => rfl
theorem B_law_drawn (T : Txt K mg a) : Binds K a.law_drawn_d ["bag", "letters", "most"] [] := T.F_law_drawn.binds (ps := ["bag", "letters", "most"]) fun _ _ _ _ _ _ us hl => match us, hl with | [_, _, _], _ => rfl
theorem B_law_refused (T : Txt K mg a) : Binds K a.law_refused_d ["one", "other", "joined"] [] := T.F_law_refused.binds (ps := ["one", "other", "joined"]) fun _ _ _ _ _ _ us hl => match us, hl with | [_, _, _], _ => rfl
theorem B_law (T : Txt K mg a) : Binds K a.law_d ["script"] [] := T.F_law.binds (ps := ["script"]) fun _ _ _ _ _ _ us hl => match us, hl with | [_], _ => rfl
theorem kb_least_edit_0_other_one (T : Txt K mg a) : KBn K a.least_edit_d ["one", "other"] 0 ["other", "one"] (fun us ws => match us, ws with | [], [w0, w1] => [w1, w0] | _, _ => []) (fun us ws => match us, ws with | [], [w0, w1] => [w1, w0] | _, _ => []) := by
  obtain ⟨oc, od, kV, doc, pm, an, cdv, ct, osl, e, lk, hcd⟩ := T.F_least_edit.ex
  rw [e]
  refine ⟨fun s us ws X l1 l2 => ?_, fun {vs us zs ws} r1 r2 => ?_⟩
  · match us, l1, ws, l2 with
    | [], _, [w0, w1], _ => exact BindsTo.of_eq rfl
  · cases r1 with
    | cons _ _ => exact .nil
    | nil =>
      cases r2 with
      | nil => exact .nil
      | cons h_w0 r2 =>
        cases r2 with
        | nil => exact .nil
        | cons h_w1 r2 =>
          cases r2 with
          | cons _ _ => exact .nil
          | nil => exact (.cons h_w1 (.cons h_w0 .nil))
theorem kb_joined_edits_0_edits_text (T : Txt K mg a) : KBn K a.joined_edits_d ["text", "edits"] 0 ["edits", "text"] (fun us ws => match us, ws with | [], [w0, w1] => [w1, w0] | _, _ => []) (fun us ws => match us, ws with | [], [w0, w1] => [w1, w0] | _, _ => []) := by
  obtain ⟨oc, od, kV, doc, pm, an, cdv, ct, osl, e, lk, hcd⟩ := T.F_joined_edits.ex
  rw [e]
  refine ⟨fun s us ws X l1 l2 => ?_, fun {vs us zs ws} r1 r2 => ?_⟩
  · match us, l1, ws, l2 with
    | [], _, [w0, w1], _ => exact BindsTo.of_eq rfl
  · cases r1 with
    | cons _ _ => exact .nil
    | nil =>
      cases r2 with
      | nil => exact .nil
      | cons h_w0 r2 =>
        cases r2 with
        | nil => exact .nil
        | cons h_w1 r2 =>
          cases r2 with
          | cons _ _ => exact .nil
          | nil => exact (.cons h_w1 (.cons h_w0 .nil))
end

section
variable {P : Program} {w : World} {K : PySem.W.Frag} {mg : Str → Option Value} {base : Heap} {a : Adr}
/-! ### an error of one field -/
def sp_exc1 (C : Addr) (f : Str) : Sp := fun vs H Q _ => ∃ (e : Addr) (y : V), vs = [.ref e, y] ∧ H e = some (exo e C none) ∧ ∀ dx, H dx = none → dx ≠ e → Q .non (upd (upd H dx (exd dx [(f, y)])) e (exo e C (some dx)))
/-- what raise C(y) comes to -/
theorem exc1_go {C : Addr} {f : Str} {y : V} {H : Hp} {E : XK} (h : ∀ d H', H d = none → H' d = some (.xd [(f, y)]) → Same H H' → E (.ref C) (some d) H') :
    [y].length ≤ 1000 ∧ ∀ e, H e = none → sp_exc1 C f (.ref e :: ([y] ++ [])) (upd H e (exo e C none)) (fun v H2 => v = .non ∧ ∃ (d : Addr) (fs : List (Str × V)), H2 e = some (exo e C (some d)) ∧ H2 d = some (exd d fs) ∧ H d = none ∧ E (.ref C) (some d) (upd (del H2 e) d (.xd fs))) (fun _ _ _ => False) := by
  refine ⟨by show 1 ≤ 1000; decide, fun e he => ⟨e, y, rfl, upd_same, fun dx hdx ne => ⟨rfl, dx, [(f, y)], upd_same, ?_, ?_, ?_⟩⟩⟩
  · rw [upd_ne ne, upd_same]
  · rw [upd_ne ne] at hdx
    exact hdx
  · rw [upd_ne ne] at hdx
    refine h dx _ hdx upd_same fun a o ha => ?_
    have n1 : a ≠ dx := ne_of_none ha hdx
    have n2 : a ≠ e := ne_of_none ha he
    rw [upd_ne n1, del_ne n2, upd_ne n2, upd_ne n1, upd_ne n2]
    exact ha

/-! ### plain values, texts -/
def sp_is_integer : Sp := fun vs H Q _ => ∃ (x : V) (d : PyData), vs = [x] ∧ Pd (In H) x d ∧ Q (.bl (isIntD d)) H
theorem ok_is_integer (T : Txt K mg a) : FnOk P w K mg base CX0 1 a.is_integer a.is_integer_d ["value"] sp_is_integer := by
  refine T.F_is_integer.ok sc_is_integer (fun vs H Q E h => ?_) (fun cdv A outer s H vs Q E hr h => ?_)
  · obtain ⟨x, t, rfl, _⟩ := h
    rfl
  · obtain ⟨x, d, rfl, hb, q⟩ := h
    refine ⟨_, (pss_one (ps_ret (pe_and (pe_callB call_isi (by rfl) T.z_isinstance (by decide +kernel) (pa_cons (pv 0) (pa_cons (pe_bltn (v := .ty "int") (by rfl) T.z_int (by decide +kernel) rfl) pa_nil))) (pe_one (pe_not (pe_callB call_isi (by rfl) T.z_isinstance (by decide +kernel) (pa_cons (pv 0) (pa_cons (pe_bltn (v := .ty "bool") (by rfl) T.z_bool (by decide +kernel) rfl) pa_nil)))))))), ?_⟩
    have ty : TyX K H x (.type (tyn d)) := hb.ty
    refine ⟨x, rfl, ?_⟩
    cases hb with
    | int i =>
      refine ⟨_, _, _, _, true, rfl, .ty _, ty, kit_ty (by dsimp only [tyn]; decide +kernel), true, rfl, ?_⟩
      exact ⟨_, rfl, _, _, _, _, false, rfl, .ty _, ty, kit_ty (by dsimp only [tyn]; decide +kernel), false, rfl, q⟩
    | bl b =>
      refine ⟨_, _, _, _, true, rfl, .ty _, ty, kit_ty (by dsimp only [tyn]; decide +kernel), true, rfl, ?_⟩
      exact ⟨_, rfl, _, _, _, _, true, rfl, .ty _, ty, kit_ty (by dsimp only [tyn]; decide +kernel), true, rfl, q⟩
    | non => exact ⟨_, _, _, _, false, rfl, .ty _, ty, kit_ty (by dsimp only [tyn]; decide +kernel), false, rfl, q⟩
    | str s => exact ⟨_, _, _, _, false, rfl, .ty _, ty, kit_ty (by dsimp only [tyn]; decide +kernel), false, rfl, q⟩
    | lst _ _ => exact ⟨_, _, _, _, false, rfl, .ty _, ty, kit_ty (by dsimp only [tyn]; decide +kernel), false, rfl, q⟩
    | tup _ _ => exact ⟨_, _, _, _, false, rfl, .ty _, ty, kit_ty (by dsimp only [tyn]; decide +kernel), false, rfl, q⟩
def sp_is_number : Sp := fun vs H Q _ => ∃ (x : V) (d : PyData), vs = [x] ∧ Pd (In H) x d ∧ Q (.bl (isNumD d)) H
theorem ok_is_number (T : Txt K mg a) : FnOk P w K mg base CX0 2 a.is_number a.is_number_d ["value"] sp_is_number := by
  refine T.F_is_number.ok sc_is_number (fun vs H Q E h => ?_) (fun cdv A outer s H vs Q E hr h => ?_)
  · obtain ⟨x, t, rfl, _⟩ := h
    rfl
  · obtain ⟨x, d, rfl, hb, q⟩ := h
    refine ⟨_, (pss_one (ps_ret (pe_and (pe_call (ok_is_integer T) (hr.mono (by decide)) (by rfl) T.m_is_integer T.F_is_integer.kp (B_is_integer T) .nil pass0 (pa_cons (pv 0) pa_nil)) (pe_one (pe_cmpR op_ge (pv 0) pe_int (nomark _)))))), ?_⟩
    refine ⟨x, rfl, x, d, rfl, hb, isIntD d, rfl, ?_⟩
    cases hb with
    | int i =>
      refine brT rfl ?_
      walk_at "wp"
      exact q
    | bl b => exact brF rfl q
    | non => exact brF rfl q
    | str s => exact brF rfl q
    | lst _ _ => exact brF rfl q
    | tup _ _ => exact brF rfl q
/-- a text that is no longer than asked -/
def shortD : PyData → Prop
  | .str s => s.length ≤ 1000000
  | _ => True
def sp_is_text : Sp := fun vs H Q _ => ∃ (x : V) (d : PyData), vs = [x] ∧ Pd (In H) x d ∧ shortD d ∧ Q (.bl (isTxtD d)) H
theorem ok_is_text (T : Txt K mg a) : FnOkT P w K mg base CX0 1 a.is_text a.is_text_d ["value"] sp_is_text := by
  refine T.F_is_text.okT sc_is_text (fun vs H Q E h => ?_) (fun cdv A outer s H vs Q E hg hr h => ?_)
  · obtain ⟨x, t, rfl, _⟩ := h
    rfl
  · obtain ⟨x, d, rfl, hb, sh, q⟩ := h
    refine ⟨_, (psst_cons (PST.of (ps_if (pt_not (pt_val (pe_callB call_isi (by rfl) T.z_isinstance (by decide +kernel) (pa_cons (pv 0) (pa_cons (pe_bltn (v := .ty "str") (by rfl) T.z_str (by decide +kernel) rfl) pa_nil)))))
      (pss_one (ps_ret pe_bl))
      pss_nil))
    (CwR.psst_one (CwR.pst_ret (pet_and (CwR.PET.of (pe_bm0 PySem.F.plainAttrs_str PySem.F.slot_str_isascii PySem.F.type_str_isascii mt_isascii (pv 0))) (pet_one (pet_bm0 PySem.F.plainAttrs_str PySem.F.slot_str_isprintable PySem.F.type_str_isprintable mt_isprintable (CwR.pet_replC (pv 0)))))))), ?_⟩
    have ty : TyX K H x (.type (tyn d)) := hb.ty
    refine ⟨x, rfl, ?_⟩
    cases hb with
    | str s =>
      refine ⟨_, _, _, _, true, rfl, .ty _, ty, kit_ty (by dsimp only [tyn]; decide +kernel), true, rfl, ?_⟩
      refine brF rfl ?_
      refine ⟨_, rfl, rfl, s, rfl, rfl, trivial, Txt.isascii s, rfl, ?_⟩
      have key : ∀ b : Bool, Txt.isascii s = b → Q (.bl (b && Txt.isprintable (Txt.replace s "\n" ""))) H := fun b e => by
        rw [← e]
        exact q
      generalize Txt.isascii s = b at key ⊢
      cases b
      · exact brF rfl (key false rfl)
      · refine brT rfl ?_
        refine ⟨.str s, rfl, s, rfl, ?_, rfl, _, rfl, rfl, trivial, key true rfl⟩
        have h1 : s.length ≤ 1000000 := sh
        show s.length + (s.length + 1) * 0 ≤ 16777216
        omega
    | int i => exact ⟨_, _, _, _, false, rfl, .ty _, ty, kit_ty (by dsimp only [tyn]; decide +kernel), false, rfl, brT rfl q⟩
    | bl b => exact ⟨_, _, _, _, false, rfl, .ty _, ty, kit_ty (by dsimp only [tyn]; decide +kernel), false, rfl, brT rfl q⟩
    | non => exact ⟨_, _, _, _, false, rfl, .ty _, ty, kit_ty (by dsimp only [tyn]; decide +kernel), false, rfl, brT rfl q⟩
    | lst _ _ => exact ⟨_, _, _, _, false, rfl, .ty _, ty, kit_ty (by dsimp only [tyn]; decide +kernel), false, rfl, brT rfl q⟩
    | tup _ _ => exact ⟨_, _, _, _, false, rfl, .ty _, ty, kit_ty (by dsimp only [tyn]; decide +kernel), false, rfl, brT rfl q⟩
/-- what is refused: C of the value -/
abbrev Refuse (C : Addr) (f : Str) (x : V) (H : Hp) (E : XK) : Prop := ∀ dx H', H dx = none → H' dx = some (.xd [(f, x)]) → Same H H' → E (.ref C) (some dx) H'
theorem ok_InvalidText_init (T : Txt K mg a) : FnOk P w K mg base CX0 1 a.InvalidText_init a.InvalidText_init_d ["self", "value"] (sp_exc1 a.InvalidText "value") := by
  refine T.F_InvalidText_init.ok sc_InvalidText_init (fun vs H Q E h => ?_) (fun cdv A outer s H vs Q E hr h => ?_)
  · obtain ⟨e, y, rfl, _⟩ := h
    rfl
  · obtain ⟨e, y, rfl, he, q⟩ := h
    refine ⟨_, (pss_one (ps_ost (pv 0) (pv 1))), ?_⟩
    walk_at "wp"
    exact ⟨_, _, rfl, T.e_InvalidText.x, T.n_InvalidText_value, .inl ⟨he, fun dx n ne => q dx n ne⟩⟩
def sp_text_asked (C : Addr) : Sp := fun vs H Q E => ∃ (x : V) (d : PyData), vs = [x] ∧ Pd (In H) x d ∧ shortD d ∧ (isTxtD d = true → Q x H) ∧ (isTxtD d = false → Refuse C "value" x H E)
theorem ok_text_asked (T : Txt K mg a) : FnOkT P w K mg base (L2.CX P w) 3 a.text_asked a.text_asked_d ["value"] (sp_text_asked a.InvalidText) := by
  refine T.F_text_asked.okT sc_text_asked (fun vs H Q E h => ?_) (fun cdv A outer s H vs Q E hg hr h => ?_)
  · obtain ⟨x, t, rfl, _⟩ := h
    rfl
  · obtain ⟨x, d, rfl, hb, sh, q1, q2⟩ := h
    refine ⟨_, (psst_cons (pst_ifT (ptt_not (ptt_val (pet_call hg (ok_is_text T) (hr.mono (by decide)) (by rfl) T.m_is_text T.F_is_text.kp (B_is_text T) .nil pass0 (PAT.of (pa_cons (pv 0) pa_nil)))))
      (PSsT.of (pss_one (ps_raise rfl (takes_of rfl rfl rfl rfl) (pmk_oex T.e_InvalidText.x T.e_InvalidText.i T.e_InvalidText.t (ok_InvalidText_init T) (hr.mono (by decide)) (B_InvalidText_init T) .nil pass0 (by rfl) T.m_InvalidText (pa_cons (pv 0) pa_nil)))))
      CwR.psst_nil)
    (PSsT.of (pss_one (ps_ret (pv 0))))), ?_⟩
    refine ⟨x, rfl, x, d, rfl, hb, sh, _, rfl, ?_⟩
    cases e : isTxtD d
    · refine brT rfl ?_
      walk_at "wp"
      exact exc1_go (y := x) fun d' H' h1 h2 h3 => q2 e d' H' h1 h2 h3
    · refine brF rfl ?_
      walk_at "wp"
      exact q1 e

/-! ### edits -/
theorem ok_InvalidEdit_init (T : Txt K mg a) : FnOk P w K mg base CX0 1 a.InvalidEdit_init a.InvalidEdit_init_d ["self", "value"] (sp_exc1 a.InvalidEdit "value") := by
  refine T.F_InvalidEdit_init.ok sc_InvalidEdit_init (fun vs H Q E h => ?_) (fun cdv A outer s H vs Q E hr h => ?_)
  · obtain ⟨e, y, rfl, _⟩ := h
    rfl
  · obtain ⟨e, y, rfl, he, q⟩ := h
    refine ⟨_, (pss_one (ps_ost (pv 0) (pv 1))), ?_⟩
    walk_at "wp"
    exact ⟨_, _, rfl, T.e_InvalidEdit.x, T.n_InvalidEdit_value, .inl ⟨he, fun dx n ne => q dx n ne⟩⟩
/-- a text in an edit that is no longer than asked -/
def shortE : PyData → Prop
  | .tuple [_, _, i] => shortD i
  | _ => True
def sp_is_edit : Sp := fun vs H Q _ => ∃ (s : Str) (x : V) (d : PyData), vs = [.str s, x] ∧ s.length ≤ 100000 ∧ Pd (In H) x d ∧ shortE d ∧ Q (.bl (isEditD s.length d)) H
theorem ok_is_edit (T : Txt K mg a) : FnOkT P w K mg base CX0 3 a.is_edit a.is_edit_d ["text", "value"] sp_is_edit := by
  refine T.F_is_edit.okT sc_is_edit (fun vs H Q E h => ?_) (fun cdv A outer s H vs Q E hg hr h => ?_)
  · obtain ⟨s, x, t, rfl, _⟩ := h
    rfl
  · obtain ⟨t, x, d, rfl, ht, hb, sh, q⟩ := h
    refine ⟨_, (psst_cons (PST.of (ps_if (PW.pt (pw_or (pt_not (pt_val (pe_callB call_isi (by rfl) T.z_isinstance (by decide +kernel) (pa_cons (pv 1) (pa_cons (pe_bltn (v := .ty "tuple") (by rfl) T.z_tuple (by decide +kernel) rfl) pa_nil))))) (pw_or1 (pt_cmpR op_ne (pe_callB call_len (by rfl) T.z_len (by decide +kernel) (pa_cons (pv 1) pa_nil)) pe_int (nomark _)))))
      (pss_one (ps_ret pe_bl))
      pss_nil))
    (psst_cons (PST.of (ps_asg (pv 1) (pg_tup (by rfl) (pgs_cons (pg_name (i := 2) sc_is_edit.nd rfl (.inl rfl)) (pgs_cons (pg_name (i := 3) sc_is_edit.nd rfl (.inl rfl)) (pgs_cons (pg_name (i := 4) sc_is_edit.nd rfl (.inl rfl)) pgs_nil))))))
    (psst_cons (pst_ifT (PWT.ptt (pwt_or (PTT.of (pt_not (pt_val (pe_call (ok_is_number T) (hr.mono (by decide)) (by rfl) T.m_is_number T.F_is_number.kp (B_is_number T) .nil pass0 (pa_cons (pv 2) pa_nil))))) (pwt_or (PTT.of (pt_not (pt_val (pe_call (ok_is_number T) (hr.mono (by decide)) (by rfl) T.m_is_number T.F_is_number.kp (B_is_number T) .nil pass0 (pa_cons (pv 3) pa_nil))))) (pwt_or1 (ptt_not (ptt_val (pet_call hg (ok_is_text T) (hr.mono (by decide)) (by rfl) T.m_is_text T.F_is_text.kp (B_is_text T) .nil pass0 (PAT.of (pa_cons (pv 4) pa_nil)))))))))
      (PSsT.of (pss_one (ps_ret pe_bl)))
      CwR.psst_nil)
    (PSsT.of (pss_one (ps_ret (pe_cmpR op_le (pe_op op_add (pv 2) (pv 3)) (pe_callB call_len (by rfl) T.z_len (by decide +kernel) (pa_cons (pv 0) pa_nil)) (nomark _)))))))), ?_⟩
    have ty : TyX K H x (.type (tyn d)) := hb.ty
    refine ⟨x, rfl, ?_⟩
    cases hb with
    | int i => exact ⟨_, _, _, _, false, rfl, .ty _, ty, kit_ty (by dsimp only [tyn]; decide +kernel), false, rfl, brT rfl q⟩
    | bl b => exact ⟨_, _, _, _, false, rfl, .ty _, ty, kit_ty (by dsimp only [tyn]; decide +kernel), false, rfl, brT rfl q⟩
    | non => exact ⟨_, _, _, _, false, rfl, .ty _, ty, kit_ty (by dsimp only [tyn]; decide +kernel), false, rfl, brT rfl q⟩
    | str _ => exact ⟨_, _, _, _, false, rfl, .ty _, ty, kit_ty (by dsimp only [tyn]; decide +kernel), false, rfl, brT rfl q⟩
    | lst _ _ => exact ⟨_, _, _, _, false, rfl, .ty _, ty, kit_ty (by dsimp only [tyn]; decide +kernel), false, rfl, brT rfl q⟩
    | tup e ha =>
      rename_i p xs ds
      refine ⟨_, _, _, _, true, rfl, .ty _, ty, kit_ty (by dsimp only [tyn]; decide +kernel), true, rfl, ?_⟩
      refine brF rfl ?_
      walk_at "wp"
      have hc : decide (V.int (xs.length : Int) = V.int 3) = decide (xs.length = 3) := by
        rw [decide_eq_decide]
        exact ⟨fun h => by have := V.int.inj h; omega, fun h => by rw [h]; rfl⟩
      have hl := ha.length
      by_cases c : xs.length = 3
      · refine brF (by rw [hc, decide_eq_true c]; rfl) ?_
        match xs, ds, ha, hl, c with
        | [x1, x2, x3], [d1, d2, d3], .cons h1 (.cons h2 (.cons h3 .nil)), _, _ =>
        walk_at "wp"
        refine ⟨_, _, rfl, h1, isNumD d1, rfl, ?_⟩
        have e0 : isEditD (t.length : Int) (.tuple [d1, d2, d3]) = (isNumD d1 && isNumD d2 && isTxtD d3 && decide (numD d1 + numD d2 ≤ (t.length : Int))) := rfl
        rw [e0] at q
        cases n1 : isNumD d1
        · refine brT rfl ?_
          rw [n1] at q
          exact brT rfl q
        · rw [n1] at q
          refine brF rfl ?_
          refine ⟨_, rfl, _, _, rfl, h2, isNumD d2, rfl, ?_⟩
          cases n2 : isNumD d2
          · rw [n2] at q
            exact brT rfl (brT rfl q)
          · rw [n2] at q
            refine brF rfl ?_
            refine ⟨_, rfl, _, _, rfl, h3, sh, isTxtD d3, rfl, ?_⟩
            cases n3 : isTxtD d3
            · rw [n3] at q
              exact brT rfl q
            · rw [n3] at q
              refine brF rfl ?_
              cases h1 with
              | int i1 =>
                cases h2 with
                | int i2 =>
                  walk_at "wp"
                  exact q
                | _ => cases n2
              | _ => cases n1
      · refine brT (by rw [hc, decide_eq_false c]; rfl) ?_
        walk_at "wp"
        rw [isEditD_len (by omega)] at q
        exact q
def sp_edit_asked (C : Addr) : Sp := fun vs H Q E => ∃ (s : Str) (x : V) (d : PyData), vs = [.str s, x] ∧ s.length ≤ 100000 ∧ Pd (In H) x d ∧ shortE d ∧ (isEditD s.length d = true → Q x H) ∧ (isEditD s.length d = false → Refuse C "value" x H E)
theorem ok_edit_asked (T : Txt K mg a) : FnOkT P w K mg base (L2.CX P w) 4 a.edit_asked a.edit_asked_d ["text", "value"] (sp_edit_asked a.InvalidEdit) := by
  refine T.F_edit_asked.okT sc_edit_asked (fun vs H Q E h => ?_) (fun cdv A outer s H vs Q E hg hr h => ?_)
  · obtain ⟨s, x, t, rfl, _⟩ := h
    rfl
  · obtain ⟨t, x, d, rfl, ht, hb, sh, q1, q2⟩ := h
    refine ⟨_, (psst_cons (pst_ifT (ptt_not (ptt_val (pet_call hg (ok_is_edit T) (hr.mono (by decide)) (by rfl) T.m_is_edit T.F_is_edit.kp (B_is_edit T) .nil pass0 (PAT.of (pa_cons (pv 0) (pa_cons (pv 1) pa_nil))))))
      (PSsT.of (pss_one (ps_raise rfl (takes_of rfl rfl rfl rfl) (pmk_oex T.e_InvalidEdit.x T.e_InvalidEdit.i T.e_InvalidEdit.t (ok_InvalidEdit_init T) (hr.mono (by decide)) (B_InvalidEdit_init T) .nil pass0 (by rfl) T.m_InvalidEdit (pa_cons (pv 1) pa_nil)))))
      CwR.psst_nil)
    (PSsT.of (pss_one (ps_ret (pv 1))))), ?_⟩
    refine ⟨_, rfl, _, rfl, t, x, d, rfl, ht, hb, sh, _, rfl, ?_⟩
    cases e : isEditD t.length d
    · refine brT rfl ?_
      walk_at "wp"
      exact exc1_go (y := x) fun d' H' h1 h2 h3 => q2 e d' H' h1 h2 h3
    · refine brF rfl ?_
      walk_at "wp"
      exact q1 e
def sp_put_in : Sp := fun vs H Q _ => ∃ (s : Str) (x : Addr) (p r : Int) (i : Str), vs = [.str s, .ref x] ∧ H x = some (.tup [.int p, .int r, .str i]) ∧ s.length ≤ 100000 ∧ i.length ≤ 100000 ∧ Q (.str (putIn s p r i)) H
theorem ok_put_in (T : Txt K mg a) : FnOk P w K mg base CX0 1 a.put_in a.put_in_d ["text", "edit"] sp_put_in := by
  refine T.F_put_in.ok sc_put_in (fun vs H Q E h => ?_) (fun cdv A outer s H vs Q E hr h => ?_)
  · obtain ⟨s, x, p, r, i, rfl, _⟩ := h
    rfl
  · obtain ⟨t, x, p, r, i, rfl, e, l1, l2, q⟩ := h
    refine ⟨_, (pss_cons (ps_asg (pv 1) (pg_tup (by rfl) (pgs_cons (pg_name (i := 2) sc_put_in.nd rfl (.inl rfl)) (pgs_cons (pg_name (i := 3) sc_put_in.nd rfl (.inl rfl)) (pgs_cons (pg_name (i := 4) sc_put_in.nd rfl (.inl rfl)) pgs_nil)))))
    (pss_one (ps_ret (pe_op op_add_str (pe_op op_add_str (pe_slice sl_str (pv 0) po_none (po_some (pv 2))) (pv 4)) (pe_slice sl_str (pv 0) (po_some (pe_op op_add (pv 2) (pv 3))) po_none))))), ?_⟩
    have h1 := cutS_length t none (some p)
    have h2 := cutS_length t (some (p + r)) none
    walk_at "wp"
    refine ⟨le_line (by omega), ?_⟩
    walk_at "wp"
    refine ⟨le_line (by omega), ?_⟩
    walk_at "wp"
    refine ⟨le_line (by omega), ?_⟩
    refine ⟨_, _, rfl, rfl, le_line (by rw [strLen_append]; omega), q⟩
/-- the edit's row -/
theorem Pd.edit {H : Hp} {y : V} {p r : Int} {i : Str} (h : Pd (In H) y (.tuple [.int p, .int r, .str i])) : ∃ z, y = .ref z ∧ H z = some (.tup [.int p, .int r, .str i]) := by
  cases h with
  | tup e ha =>
    cases ha with
    | cons h1 h2 =>
      cases h2 with
      | cons h2 h3 =>
        cases h3 with
        | cons h3 h4 =>
          cases h4
          cases h1
          cases h2
          cases h3
          exact ⟨_, rfl, e⟩

/-! ### the least edit, the joined one: the walks -/
def AhW (s t : Str) (m : Nat) (H0 : Hp) : Nat → L2.St → Hp → Prop := fun d σ H => H = H0 ∧ ∃ (k b : Nat) (o : Option V), σ = [some (.str s), some (.str t), some (.int m), some (.int k), some (.int b), o] ∧ b = k + d ∧ b ≤ m ∧ Pre s t k ∧ ∀ n, n ≤ m → Pre s t n → n ≤ b
def sp_alike_ahead : Sp := fun vs H Q _ => ∃ (s t : Str) (m : Nat), vs = [.str s, .str t, .int m] ∧ m ≤ s.length ∧ m ≤ t.length ∧ s.length ≤ 100000 ∧ t.length ≤ 100000 ∧ ∀ k : Nat, k ≤ m → Pre s t k → (∀ n, n ≤ m → Pre s t n → n ≤ k) → Q (.int k) H
theorem ok_alike_ahead (T : Txt K mg a) : FnOk P w K mg base CX0 1 a.alike_ahead a.alike_ahead_d ["one", "other", "most"] sp_alike_ahead := by
  refine T.F_alike_ahead.ok sc_alike_ahead (fun vs H Q E h => ?_) (fun cdv A outer σ0 H vs Q E hr h => ?_)
  · obtain ⟨s, t, m, rfl, _⟩ := h
    rfl
  · obtain ⟨s, t, m, rfl, ms, mt, ls, lt, q⟩ := h
    refine ⟨_, (pss_cons (ps_par (i := 3) (j := 4) (by rfl) sc_alike_ahead.nd rfl rfl (by decide) rfl rfl (pa_cons pe_int (pa_cons (pv 2) pa_nil)) (by rfl))
    (pss_cons (ps_while PassesOwn.never (pt_cmpR op_lt (pv 3) (pv 4) (nomark _))
      (pss_cons (ps_set (i := 5) sc_alike_ahead.nd rfl (.inl rfl) (pe_op op_fdivN (pe_op op_add (pe_op op_add (pv 3) (pv 4)) pe_int) pe_int))
      (pss_one (ps_if (pt_cmpR op_eq (pe_slice sl_str (pv 0) (po_some (pv 3)) (po_some (pv 5))) (pe_slice sl_str (pv 1) (po_some (pv 3)) (po_some (pv 5))) (nomark _))
        (pss_one (ps_set (i := 3) sc_alike_ahead.nd rfl (.inl rfl) (pv 5)))
        (pss_one (ps_set (i := 4) sc_alike_ahead.nd rfl (.inl rfl) (pe_op op_sub (pv 5) pe_int)))))))
    (pss_one (ps_ret (pv 3))))), ?_⟩
    walk_at "wp"
    refine ⟨AhW s t m H, ⟨m, rfl, 0, m, none, rfl, by omega, Nat.le_refl _, Pre.zero, fun n h _ => h⟩, ?_⟩
    rintro d σ H' ⟨rfl, k, b, o, rfl, eb, hb, pk, mx⟩
    walk_at "wp"
    refine brd (fun h1 => ?_) (fun h1 => ?_)
    · refine ⟨fun σ' H1 => ∃ m', m' < d ∧ AhW s t m H' m' σ' H1, fun _ _ h => h, ?_⟩
      walk_at "wp"
      rename_i r _ r0 r1 r2
      obtain ⟨mid, rfl⟩ := Int.eq_ofNat_of_zero_le (r0 (by omega)).1
      have hm : k < mid ∧ mid ≤ b := by omega
      refine ⟨le_line (by omega), ?_⟩
      walk_at "wp"
      refine ⟨le_line (by omega), ?_⟩
      walk_at "wp"
      have st := pk.step (m := mid) (by omega) (by omega) (by omega)
      refine brd (fun h2 => ?_) (fun h2 => ?_)
      · have pm := st.mp (V.str.inj h2)
        walk_at "wp"
        exact ⟨b - mid, by omega, rfl, mid, b, _, rfl, by omega, hb, pm, mx⟩
      · walk_at "wp"
        refine ⟨mid - 1 - k, by omega, rfl, k, mid - 1, ?o, ?e, by omega, by omega, pk, fun n hn pn => ?f⟩
        case e =>
          rw [show ((mid - 1 : Nat) : Int) = (mid : Int) - 1 by omega]
          rfl
        case f =>
          by_cases c : mid ≤ n
          · exact absurd (congrArg V.str (st.mpr (pn.le c))) h2
          · omega
    · walk_at "wp"
      exact q k (by omega) pk fun n hn pn => by have := mx n hn pn; omega
def BhW (s t : Str) (m : Nat) (H0 : Hp) : Nat → L2.St → Hp → Prop := fun d σ H => H = H0 ∧ ∃ (k b : Nat) (o o2 o3 : Option V), σ = [some (.str s), some (.str t), some (.int m), some (.int k), some (.int b), o, o2, o3] ∧ b = k + d ∧ b ≤ m ∧ Suf s t k ∧ ∀ n, n ≤ m → Suf s t n → n ≤ b
def sp_alike_behind : Sp := fun vs H Q _ => ∃ (s t : Str) (m : Nat), vs = [.str s, .str t, .int m] ∧ m ≤ s.length ∧ m ≤ t.length ∧ s.length ≤ 100000 ∧ t.length ≤ 100000 ∧ ∀ k : Nat, k ≤ m → Suf s t k → (∀ n, n ≤ m → Suf s t n → n ≤ k) → Q (.int k) H
theorem ok_alike_behind (T : Txt K mg a) : FnOk P w K mg base CX0 1 a.alike_behind a.alike_behind_d ["one", "other", "most"] sp_alike_behind := by
  refine T.F_alike_behind.ok sc_alike_behind (fun vs H Q E h => ?_) (fun cdv A outer σ0 H vs Q E hr h => ?_)
  · obtain ⟨s, t, m, rfl, _⟩ := h
    rfl
  · obtain ⟨s, t, m, rfl, ms, mt, ls, lt, q⟩ := h
    refine ⟨_, (pss_cons (ps_par (i := 3) (j := 4) (by rfl) sc_alike_behind.nd rfl rfl (by decide) rfl rfl (pa_cons pe_int (pa_cons (pv 2) pa_nil)) (by rfl))
    (pss_cons (ps_while PassesOwn.never (pt_cmpR op_lt (pv 3) (pv 4) (nomark _))
      (pss_cons (ps_set (i := 5) sc_alike_behind.nd rfl (.inl rfl) (pe_op op_fdivN (pe_op op_add (pe_op op_add (pv 3) (pv 4)) pe_int) pe_int))
      (pss_cons (ps_set (i := 6) sc_alike_behind.nd rfl (.inl rfl) (pe_slice sl_str (pv 0) (po_some (pe_op op_sub (pe_callB call_len (by rfl) T.z_len (by decide +kernel) (pa_cons (pv 0) pa_nil)) (pv 5))) (po_some (pe_op op_sub (pe_callB call_len (by rfl) T.z_len (by decide +kernel) (pa_cons (pv 0) pa_nil)) (pv 3)))))
      (pss_cons (ps_set (i := 7) sc_alike_behind.nd rfl (.inl rfl) (pe_slice sl_str (pv 1) (po_some (pe_op op_sub (pe_callB call_len (by rfl) T.z_len (by decide +kernel) (pa_cons (pv 1) pa_nil)) (pv 5))) (po_some (pe_op op_sub (pe_callB call_len (by rfl) T.z_len (by decide +kernel) (pa_cons (pv 1) pa_nil)) (pv 3)))))
      (pss_one (ps_if (pt_cmpR op_eq (pv 6) (pv 7) (nomark _))
        (pss_one (ps_set (i := 3) sc_alike_behind.nd rfl (.inl rfl) (pv 5)))
        (pss_one (ps_set (i := 4) sc_alike_behind.nd rfl (.inl rfl) (pe_op op_sub (pv 5) pe_int)))))))))
    (pss_one (ps_ret (pv 3))))), ?_⟩
    walk_at "wp"
    refine ⟨BhW s t m H, ⟨m, rfl, 0, m, none, none, none, rfl, by omega, Nat.le_refl _, Suf.zero, fun n h _ => h⟩, ?_⟩
    rintro d σ H' ⟨rfl, k, b, o, o2, o3, rfl, eb, hb, pk, mx⟩
    walk_at "wp"
    refine brd (fun h1 => ?_) (fun h1 => ?_)
    · refine ⟨fun σ' H1 => ∃ m', m' < d ∧ BhW s t m H' m' σ' H1, fun _ _ h => h, ?_⟩
      walk_at "wp"
      rename_i r _ r0 r1 r2
      obtain ⟨mid, rfl⟩ := Int.eq_ofNat_of_zero_le (r0 (by omega)).1
      have hm : k < mid ∧ mid ≤ b := by omega
      refine ⟨le_line (by omega), ?_⟩
      walk_at "wp"
      refine ⟨le_line (by omega), ?_⟩
      walk_at "wp"
      have st := pk.step (m := mid) (by omega) (by omega) (by omega)
      rw [Int.ofNat_sub (by omega), Int.ofNat_sub (by omega), Int.ofNat_sub (by omega), Int.ofNat_sub (by omega)] at st
      refine brd (fun h2 => ?_) (fun h2 => ?_)
      · have pm := st.mp (V.str.inj h2)
        walk_at "wp"
        exact ⟨b - mid, by omega, rfl, mid, b, _, _, _, rfl, by omega, hb, pm, mx⟩
      · walk_at "wp"
        refine ⟨mid - 1 - k, by omega, rfl, k, mid - 1, ?o, ?o2, ?o3, ?e, by omega, by omega, pk, fun n hn pn => ?f⟩
        case e =>
          rw [show ((mid - 1 : Nat) : Int) = (mid : Int) - 1 by omega]
          rfl
        case f =>
          by_cases c : mid ≤ n
          · exact absurd (congrArg V.str (st.mpr (pn.le c))) h2
          · omega
    · walk_at "wp"
      exact q k (by omega) pk fun n hn pn => by have := mx n hn pn; omega
/-- both texts are asked, the first one first -/
structure LAsks (C : Addr) (x y : V) (d e : PyData) (H : Hp) (E : XK) (R : Str → Str → Prop) : Prop where
  hx : Pd (In H) x d
  hy : Pd (In H) y e
  sx : ∀ s, d = .str s → s.length ≤ 100000
  sy : ∀ s, e = .str s → s.length ≤ 100000
  bad : isTxtD d = false → Refuse C "value" x H E
  worse : ∀ s, d = .str s → okText s = true → isTxtD e = false → Refuse C "value" y H E
  good : ∀ s t, d = .str s → e = .str t → okText s = true → okText t = true → R s t
theorem shortD_of {d : PyData} (h : ∀ s, d = .str s → s.length ≤ 100000) : shortD d := by
  cases d with
  | str s =>
    have := h s rfl
    show s.length ≤ 1000000
    omega
  | _ => trivial
/-- what is told of the least edit -/
def IsLeast (K : PySem.W.Frag) (Q : VK) (H : Hp) (s t : Str) : Prop := ∀ (p r : Nat) (i : Str) (b : Addr) (H' : Hp), Least s t p r i → Same H H' → SqT K H' b [.int p, .int r, .str i] → Q (.ref b) H'
def sp_least_edit (K : PySem.W.Frag) (C : Addr) : Sp := fun vs H Q E => ∃ (x y : V) (d e : PyData), vs = [x, y] ∧ LAsks C x y d e H E (IsLeast K Q H)
theorem ok_least_edit (T : Txt K mg a) : FnOkT P w K mg base (L2.CX P w) 4 a.least_edit a.least_edit_d ["one", "other"] (sp_least_edit K a.InvalidText) := by
  refine T.F_least_edit.okT sc_least_edit (fun vs H Q E h => ?_) (fun cdv A outer s H vs Q E hg hr h => ?_)
  · obtain ⟨x, y, d, e, rfl, _⟩ := h
    rfl
  · obtain ⟨x, y, d, e, rfl, q⟩ := h
    refine ⟨_, (psst_cons (pst_expr (pet_call hg (ok_text_asked T) (hr.mono (by decide)) (by rfl) T.m_text_asked T.F_text_asked.kp (B_text_asked T) .nil (passes_call (takes_of rfl rfl rfl rfl) (fun _ _ _ _ h => h)) (PAT.of (pa_cons (pv 0) pa_nil))))
    (psst_cons (pst_expr (pet_call hg (ok_text_asked T) (hr.mono (by decide)) (by rfl) T.m_text_asked T.F_text_asked.kp (B_text_asked T) .nil (passes_call (takes_of rfl rfl rfl rfl) (fun _ _ _ _ h => h)) (PAT.of (pa_cons (pv 1) pa_nil))))
    (PSsT.of (pss_cons (ps_if (pt_cmpR op_eq (pv 0) (pv 1) (nomark _))
      (pss_one (ps_ret (pe_glob (by rfl) T.m_NO_CHANGE (show RelV (.ref a.NO_CHANGE) _ from rfl))))
      pss_nil)
    (pss_cons (ps_set (i := 2) sc_least_edit.nd rfl (.inl rfl) (pe_callB (call_min2 rfl) (by rfl) T.z_min (by decide +kernel) (pa_cons (pe_callB call_len (by rfl) T.z_len (by decide +kernel) (pa_cons (pv 0) pa_nil)) (pa_cons (pe_callB call_len (by rfl) T.z_len (by decide +kernel) (pa_cons (pv 1) pa_nil)) pa_nil))))
    (pss_cons (ps_set (i := 3) sc_least_edit.nd rfl (.inl rfl) (pe_call (ok_alike_ahead T) (hr.mono (by decide)) (by rfl) T.m_alike_ahead T.F_alike_ahead.kp (B_alike_ahead T) .nil pass0 (pa_cons (pv 0) (pa_cons (pv 1) (pa_cons (pv 2) pa_nil)))))
    (pss_cons (ps_set (i := 4) sc_least_edit.nd rfl (.inl rfl) (pe_call (ok_alike_behind T) (hr.mono (by decide)) (by rfl) T.m_alike_behind T.F_alike_behind.kp (B_alike_behind T) .nil pass0 (pa_cons (pv 0) (pa_cons (pv 1) (pa_cons (pe_op op_sub (pv 2) (pv 3)) pa_nil)))))
    (pss_one (ps_ret (pe_tup (pa_cons (pv 3) (pa_cons (pe_op op_sub (pe_op op_sub (pe_callB call_len (by rfl) T.z_len (by decide +kernel) (pa_cons (pv 0) pa_nil)) (pv 4)) (pv 3)) (pa_cons (pe_slice sl_str (pv 1) (po_some (pv 3)) (po_some (pe_op op_sub (pe_callB call_len (by rfl) T.z_len (by decide +kernel) (pa_cons (pv 1) pa_nil)) (pv 4)))) pa_nil))))))))))))), ?_⟩
    refine ⟨_, rfl, _, _, rfl, q.hx, shortD_of q.sx, fun h1 => ?_, q.bad⟩
    obtain ⟨s, rfl, os⟩ := isTxtD_form h1
    have hx := q.hx
    cases hx
    refine ⟨_, rfl, _, _, rfl, q.hy, shortD_of q.sy, fun h2 => ?_, q.worse s rfl os⟩
    obtain ⟨t, rfl, ot⟩ := isTxtD_form h2
    have hy := q.hy
    cases hy
    have g := q.good s t rfl rfl os ot
    have ls := q.sx s rfl
    have lt := q.sy t rfl
    walk_at "wp"
    refine brd (fun h3 => ?_) (fun h3 => ?_)
    · cases h3
      walk_at "wp"
      exact g 0 0 "" a.NO_CHANGE H Least.refl (.refl _) T.t_NO_CHANGE.sq
    · walk_at "wp"
      obtain ⟨m, em, m1, m2, m3⟩ : ∃ m : Nat, (if (t.length : Int) < (s.length : Int) then (t.length : Int) else (s.length : Int)) = (m : Int) ∧ m ≤ s.length ∧ m ≤ t.length ∧ (m = s.length ∨ m = t.length) := by
        by_cases c : (t.length : Int) < (s.length : Int)
        · exact ⟨t.length, by rw [if_pos c], by omega, Nat.le_refl _, .inr rfl⟩
        · exact ⟨s.length, by rw [if_neg c], Nat.le_refl _, by omega, .inl rfl⟩
      rw [em]
      refine ⟨s, t, m, rfl, m1, m2, ls, lt, fun L lL pL mL => ?_⟩
      walk_at "wp"
      refine ⟨s, t, m - L, by rw [Int.ofNat_sub lL]; rfl, by omega, by omega, ls, lt, fun B lB sB mB => ?_⟩
      walk_at "wp"
      refine ⟨le_line (by omega), ?_⟩
      refine ⟨disp rfl, fun b hb => ?_⟩
      have hl := least_of (s := s) (t := t) (fun e => h3 (congrArg V.str e)) m1 m2 m3 lL pL mL lB sB mB
      refine g _ _ _ b _ hl (Same.new hb) (.of ?_)
      rw [upd_same, Int.ofNat_sub (by omega), Int.ofNat_sub (by omega), Int.ofNat_sub (by omega)]
/-- a row of edits is asked: the text first, then the edits one by one -/
structure JAsks (K : PySem.W.Frag) (Ct Ce : Addr) (x : V) (ya : Addr) (d : PyData) (vs : List V) (es : List PyData) (H : Hp) (E : XK) (R : Str → Str → Prop) : Prop where
  hx : Pd (In H) x d
  row : SqL K H ya vs ∨ SqT K H ya vs
  hy : PdAll (In H) vs es
  sx : ∀ s, d = .str s → s.length + 10 * es.length ≤ 90000
  sy : ∀ e ∈ es, ∀ p r i, e = .tuple [p, r, .str i] → i.length ≤ 10
  bad : isTxtD d = false → Refuse Ct "value" x H E
  worse : ∀ s k v, d = .str s → okText s = true → rowGo s es 0 = .error k → vs[k]? = some v → Refuse Ce "value" v H E
  good : ∀ s t, d = .str s → okText s = true → rowGo s es 0 = .ok t → R s t
theorem shortE_of {e : PyData} (h : ∀ p r i, e = .tuple [p, r, .str i] → i.length ≤ 100000) : shortE e := by
  unfold shortE
  split
  · rename_i p r i
    cases i with
    | str s =>
      have := h _ _ s rfl
      show s.length ≤ 1000000
      omega
    | _ => trivial
  · trivial
def sp_joined_edits (K : PySem.W.Frag) (Ct Ce : Addr) : Sp := fun vs H Q E => ∃ (x : V) (ya : Addr) (d : PyData) (us : List V) (es : List PyData), vs = [x, .ref ya] ∧ JAsks K Ct Ce x ya d us es H E (IsLeast K Q H)
theorem ok_joined_edits (T : Txt K mg a) : FnOkT P w K mg base (L2.CX P w) 5 a.joined_edits a.joined_edits_d ["text", "edits"] (sp_joined_edits K a.InvalidText a.InvalidEdit) := by
  refine T.F_joined_edits.okT sc_joined_edits (fun vs H Q E h => ?_) (fun cdv A outer σ0 H vs Q E hg hr h => ?_)
  · obtain ⟨x, ya, d, us, es, rfl, _⟩ := h
    rfl
  · obtain ⟨x, ya, d, vs, es, rfl, q⟩ := h
    rcases q.row with hrow | hrow
    · refine ⟨_, (psst_cons (pst_expr (pet_call hg (ok_text_asked T) (hr.mono (by decide)) (by rfl) T.m_text_asked T.F_text_asked.kp (B_text_asked T) .nil (passes_call (takes_of rfl rfl rfl rfl) (fun _ _ _ _ h => h)) (PAT.of (pa_cons (pv 0) pa_nil))))
    (psst_cons (PST.of (ps_set (i := 2) sc_joined_edits.nd rfl (.inl rfl) (pv 0)))
    (psst_cons (pst_forT (passes_of rfl) rfl (PIT.of (pi_list (pv 1))) (pg_name (i := 3) sc_joined_edits.nd rfl (.inl rfl))
      (psst_cons (pst_expr (pet_call hg (ok_edit_asked T) (hr.mono (by decide)) (by rfl) T.m_edit_asked T.F_edit_asked.kp (B_edit_asked T) .nil (passes_call (takes_of rfl rfl rfl rfl) (fun _ _ _ _ h => h)) (PAT.of (pa_cons (pv 2) (pa_cons (pv 3) pa_nil)))))
      (PSsT.of (pss_one (ps_set (i := 2) sc_joined_edits.nd rfl (.inl rfl) (pe_call (ok_put_in T) (hr.mono (by decide)) (by rfl) T.m_put_in T.F_put_in.kp (B_put_in T) .nil pass0 (pa_cons (pv 2) (pa_cons (pv 3) pa_nil))))))))
    (CwR.psst_one (CwR.pst_ret (pet_call hg (ok_least_edit T) (hr.mono (by decide)) (by rfl) T.m_least_edit T.F_least_edit.kp (B_least_edit T) .nil (passes_call (takes_of rfl rfl rfl rfl) (fun _ _ _ _ h => h)) (PAT.of (pa_cons (pv 0) (pa_cons (pv 2) pa_nil))))))))), ?_⟩
      refine ⟨_, rfl, _, _, rfl, q.hx, shortD_of fun s e => by have := q.sx s e; omega, fun h1 => ?_, q.bad⟩
      obtain ⟨s, rfl, os⟩ := isTxtD_form h1
      have hx := q.hx
      cases hx
      have ls := q.sx s rfl
      walk_at "wp"
      refine ⟨⟨_, hrow⟩, for_list (xs := vs) (fun i σ H' => H' = H ∧ ∃ (t : Str) (o : Option V), σ = [some (.str s), some (.ref ya), some (.str t), o] ∧ okText t = true ∧ t.length ≤ s.length + 10 * i ∧ rowGo s es 0 = rowGo t (es.drop i) i) ⟨rfl, s, none, rfl, os, by omega, rfl⟩ (fun i σ H' _ ⟨e, _⟩ => by rw [e]; exact hrow) ?_ ?_⟩
      · rintro i x σ H' hx ⟨rfl, t, o, rfl, ot, lt, er⟩
        obtain ⟨d, ed, pd⟩ := q.hy.get hx
        have hi : i < es.length := (List.getElem?_eq_some_iff.mp ed).1
        have hd : es.drop i = d :: es.drop (i + 1) := by
          rw [List.drop_eq_getElem_cons hi]
          have := List.getElem?_eq_getElem hi
          rw [ed] at this
          rw [← Option.some.inj this]
        rw [hd, rowGo] at er
        have sy := q.sy d (List.mem_of_getElem? ed)
        walk_at "wp"
        refine ⟨t, x, d, rfl, by omega, pd, shortE_of fun p r i e => by have := sy p r i e; omega, fun h2 => ?_, fun h2 => ?_⟩
        · rw [if_pos h2] at er
          obtain ⟨p, r, j, rfl, ep, hl, oj, ln⟩ := putD_len h2
          obtain ⟨z, rfl, hz⟩ := Pd.edit pd
          have lj := sy _ _ _ rfl
          walk_at "wp"
          refine ⟨_, _, _, _, _, rfl, hz, by omega, by omega, ?_⟩
          walk_at "wp"
          rw [ep] at er ln
          exact ⟨okText_put hl ot oj, by omega, er⟩
        · rw [if_neg (by rw [h2]; decide)] at er
          exact q.worse s i x rfl os er hx
      · rintro σ H' ⟨rfl, t, o, rfl, ot, lt, er⟩
        have hl := q.hy.length
        rw [List.drop_of_length_le (by omega), rowGo] at er
        walk_at "wp"
        refine ⟨_, _, _, _, rfl, .str _, .str _, fun s' e => by cases e; omega, fun s' e => by cases e; omega, fun e => ?_, fun s' e _ e2 => ?_, fun s' t' e e' _ _ => ?_⟩
        · rw [show isTxtD (.str s) = okText s from rfl, os] at e
          cases e
        · rw [show isTxtD (.str t) = okText t from rfl, ot] at e2
          cases e2
        · cases e
          cases e'
          exact q.good s t rfl os er
    · refine ⟨_, (psst_cons (pst_expr (pet_call hg (ok_text_asked T) (hr.mono (by decide)) (by rfl) T.m_text_asked T.F_text_asked.kp (B_text_asked T) .nil (passes_call (takes_of rfl rfl rfl rfl) (fun _ _ _ _ h => h)) (PAT.of (pa_cons (pv 0) pa_nil))))
    (psst_cons (PST.of (ps_set (i := 2) sc_joined_edits.nd rfl (.inl rfl) (pv 0)))
    (psst_cons (pst_forT (passes_of rfl) rfl (PIT.of (pi_tup (pv 1))) (pg_name (i := 3) sc_joined_edits.nd rfl (.inl rfl))
      (psst_cons (pst_expr (pet_call hg (ok_edit_asked T) (hr.mono (by decide)) (by rfl) T.m_edit_asked T.F_edit_asked.kp (B_edit_asked T) .nil (passes_call (takes_of rfl rfl rfl rfl) (fun _ _ _ _ h => h)) (PAT.of (pa_cons (pv 2) (pa_cons (pv 3) pa_nil)))))
      (PSsT.of (pss_one (ps_set (i := 2) sc_joined_edits.nd rfl (.inl rfl) (pe_call (ok_put_in T) (hr.mono (by decide)) (by rfl) T.m_put_in T.F_put_in.kp (B_put_in T) .nil pass0 (pa_cons (pv 2) (pa_cons (pv 3) pa_nil))))))))
    (CwR.psst_one (CwR.pst_ret (pet_call hg (ok_least_edit T) (hr.mono (by decide)) (by rfl) T.m_least_edit T.F_least_edit.kp (B_least_edit T) .nil (passes_call (takes_of rfl rfl rfl rfl) (fun _ _ _ _ h => h)) (PAT.of (pa_cons (pv 0) (pa_cons (pv 2) pa_nil))))))))), ?_⟩
      refine ⟨_, rfl, _, _, rfl, q.hx, shortD_of fun s e => by have := q.sx s e; omega, fun h1 => ?_, q.bad⟩
      obtain ⟨s, rfl, os⟩ := isTxtD_form h1
      have hx := q.hx
      cases hx
      have ls := q.sx s rfl
      walk_at "wp"
      refine ⟨⟨_, hrow⟩, for_tup (xs := vs) (fun i σ H' => H' = H ∧ ∃ (t : Str) (o : Option V), σ = [some (.str s), some (.ref ya), some (.str t), o] ∧ okText t = true ∧ t.length ≤ s.length + 10 * i ∧ rowGo s es 0 = rowGo t (es.drop i) i) ⟨rfl, s, none, rfl, os, by omega, rfl⟩ (fun i σ H' _ ⟨e, _⟩ => by rw [e]; exact hrow) ?_ ?_⟩
      · rintro i x σ H' hx ⟨rfl, t, o, rfl, ot, lt, er⟩
        obtain ⟨d, ed, pd⟩ := q.hy.get hx
        have hi : i < es.length := (List.getElem?_eq_some_iff.mp ed).1
        have hd : es.drop i = d :: es.drop (i + 1) := by
          rw [List.drop_eq_getElem_cons hi]
          have := List.getElem?_eq_getElem hi
          rw [ed] at this
          rw [← Option.some.inj this]
        rw [hd, rowGo] at er
        have sy := q.sy d (List.mem_of_getElem? ed)
        walk_at "wp"
        refine ⟨t, x, d, rfl, by omega, pd, shortE_of fun p r i e => by have := sy p r i e; omega, fun h2 => ?_, fun h2 => ?_⟩
        · rw [if_pos h2] at er
          obtain ⟨p, r, j, rfl, ep, hl, oj, ln⟩ := putD_len h2
          obtain ⟨z, rfl, hz⟩ := Pd.edit pd
          have lj := sy _ _ _ rfl
          walk_at "wp"
          refine ⟨_, _, _, _, _, rfl, hz, by omega, by omega, ?_⟩
          walk_at "wp"
          rw [ep] at er ln
          exact ⟨okText_put hl ot oj, by omega, er⟩
        · rw [if_neg (by rw [h2]; decide)] at er
          exact q.worse s i x rfl os er hx
      · rintro σ H' ⟨rfl, t, o, rfl, ot, lt, er⟩
        have hl := q.hy.length
        rw [List.drop_of_length_le (by omega), rowGo] at er
        walk_at "wp"
        refine ⟨_, _, _, _, rfl, .str _, .str _, fun s' e => by cases e; omega, fun s' e => by cases e; omega, fun e => ?_, fun s' e _ e2 => ?_, fun s' t' e e' _ _ => ?_⟩
        · rw [show isTxtD (.str s) = okText s from rfl, os] at e
          cases e
        · rw [show isTxtD (.str t) = okText t from rfl, ot] at e2
          cases e2
        · cases e
          cases e'
          exact q.good s t rfl os er

/-! ### the bag of drawn numbers -/
/-- a bag stands at b, its row of cells at l -/
def Bag (H : Hp) (b l : Addr) : Prop := ∃ (ns : List Int) (i c s t : Int), H b = some (.lst [.ref l, .int i, .int c, .int s, .int t]) ∧ H l = some (.lst (ns.map V.int)) ∧ l ≠ b ∧ 0 ≤ i ∧ 0 ≤ c ∧ 0 ≤ s ∧ s < 2147483647
theorem Bag.same {H H' : Hp} {b l : Addr} (h : Same H H') (z : Bag H b l) : Bag H' b l := by
  obtain ⟨ns, i, c, s, t, e1, e2, r⟩ := z
  exact ⟨ns, i, c, s, t, h _ _ e1, h _ _ e2, r⟩
theorem Bag.new {H : Hp} {b l p : Addr} {o : HO} (n : H p = none) (z : Bag H b l) : Bag (upd H p o) b l := z.same (Same.new n)
theorem Bag.upd {H : Hp} {b l p : Addr} {o : HO} (n : p ≠ b) (m : p ≠ l) (z : Bag H b l) : Bag (upd H p o) b l := by
  obtain ⟨ns, i, c, s, t, e1, e2, r⟩ := z
  exact ⟨ns, i, c, s, t, by rw [upd_ne (Ne.symm n)]; exact e1, by rw [upd_ne (Ne.symm m)]; exact e2, r⟩
theorem Bag.ne {H : Hp} {b l p : Addr} (n : H p = none) (z : Bag H b l) : p ≠ b ∧ p ≠ l := by
  obtain ⟨ns, i, c, s, t, e1, e2, r⟩ := z
  exact ⟨Ne.symm (ne_of_none e1 n), Ne.symm (ne_of_none e2 n)⟩
theorem Bag.lne {H : Hp} {b c l : Addr} (z : Bag H b c) (n : H l = none) : l ≠ b := by
  obtain ⟨ns, i, c', s, t, e1, e2, r⟩ := z
  exact Ne.symm (ne_of_none e1 n)
local macro_rules | `(tactic| walk_at "hb") => `(tactic| first | assumption | (apply Bag.same; assumption; walk_at "hb") | (apply Bag.new; assumption; walk_at "hb") | (apply Bag.upd; walk_at "ne"; walk_at "ne"; walk_at "hb"))
def sp_law_bag (K : PySem.W.Frag) : Sp := fun vs H Q _ => ∃ (p : Addr) (ns : List Int), vs = [.ref p] ∧ SqL K H p (ns.map V.int) ∧ ∀ b l H', H b = none → Same H H' → Bag H' b l → Q (.ref b) H'
theorem ok_law_bag (T : Txt K mg a) : FnOk P w K mg base CX0 1 a.law_bag a.law_bag_d ["script"] (sp_law_bag K) := by
  refine T.F_law_bag.ok sc_law_bag (fun vs H Q E h => ?_) (fun cdv A outer s H vs Q E hr h => ?_)
  · obtain ⟨p, ns, rfl, _⟩ := h
    rfl
  · obtain ⟨p, ns, rfl, hS, q⟩ := h
    refine ⟨_, (pss_one (ps_ret (pe_lst (pa_cons (pe_callTy call_list_of (by rfl) T.z_list (by decide +kernel) (pa_cons (pv 0) pa_nil)) (pa_cons pe_int (pa_cons pe_int (pa_cons pe_int (pa_cons pe_int pa_nil)))))))), ?_⟩
    refine ⟨_, rfl, p, _, rfl, .inl hS, fun l hl => ?_⟩
    refine ⟨by show 5 ≤ sizeLine; decide, fun b hb => ?_⟩
    obtain ⟨hbH, nbl⟩ := upd_free2 hb
    refine q b l _ hbH ((Same.new hl).trans (Same.new hb)) ⟨ns, 0, 0, 5, 0, upd_same, ?_, Ne.symm nbl, by decide, by decide, by decide, by decide⟩
    rw [upd_ne (Ne.symm nbl), upd_same]
/-- a draw: any number below many; the bag alone changes -/
def sp_law_take : Sp := fun vs H Q _ => ∃ (b c : Addr) (m : Int), vs = [.ref b, .int m] ∧ Bag H b c ∧ 0 < m ∧ m < 1000000 ∧ ∀ n H', 0 ≤ n → n < m → But b H H' → Bag H' b c → Q (.int n) H'
theorem ok_law_take (T : Txt K mg a) : FnOk P w K mg base CX0 1 a.law_take a.law_take_d ["bag", "many"] sp_law_take := by
  refine T.F_law_take.ok sc_law_take (fun vs H Q E h => ?_) (fun cdv A outer s H vs Q E hr h => ?_)
  · obtain ⟨b, l, m, rfl, _⟩ := h
    rfl
  · obtain ⟨b, l, m, rfl, hB, hm0, hm1, q⟩ := h
    refine ⟨_, (Evl.pss_cut (ps_if (PW.pt (pw_and (pt_cmpR op_eq (pe_ix ix_list (pv 0) pe_int (fun _ _ => rfl)) pe_int (nomark _)) (pw_and1 (pt_cmpR op_lt (pe_ix ix_list (pv 0) pe_int (fun _ _ => rfl)) (pe_callB call_len (by rfl) T.z_len (by decide +kernel) (pa_cons (pe_ix ix_list (pv 0) pe_int (fun _ _ => rfl)) pa_nil)) (nomark _)))))
      (pss_cons (ps_set (i := 2) sc_law_take.nd rfl (.inl rfl) (pe_callTy call_int1 (by rfl) T.z_int (by decide +kernel) (pa_cons (pe_ix ix_list (pe_ix ix_list (pv 0) pe_int (fun _ _ => rfl)) (pe_ix ix_list (pv 0) pe_int (fun _ _ => rfl)) (fun _ _ => rfl)) pa_nil)))
      (pss_cons (ps_asg (pe_op op_add (pe_ix ix_list (pv 0) pe_int (fun _ _ => rfl)) pe_int) (pg_sub (pv 0) pe_int set_list))
      (pss_one (ps_if (pt_cmpR op_ge (pe_callB call_abs (by rfl) T.z_abs (by decide +kernel) (pa_cons (pv 2) pa_nil)) (pe_op op_pow pe_int pe_int) (nomark _))
        (pss_one (ps_asg (pe_callB call_abs (by rfl) T.z_abs (by decide +kernel) (pa_cons (pv 2) pa_nil)) (pg_sub (pv 0) pe_int set_list)))
        (pss_one (ps_asg (pe_op op_modN (pe_callTy call_int1 (by rfl) T.z_int (by decide +kernel) (pa_cons (pe_op op_add (pe_op op_add (pe_op op_add (pe_op op_mul (pe_ix ix_list (pv 0) pe_int (fun _ _ => rfl)) pe_int) (pe_op op_mul pe_int (pe_callB call_abs (by rfl) T.z_abs (by decide +kernel) (pa_cons (pv 2) pa_nil)))) (pe_callTy call_int1 (by rfl) T.z_int (by decide +kernel) (pa_cons (pe_cmpR op_lt (pv 2) pe_int (nomark _)) pa_nil))) pe_int) pa_nil)) pe_int) (pg_sub (pv 0) pe_int set_list)))))))
      pss_nil)
    (pss_cons (ps_if (pt_cmpR op_gt (pe_ix ix_list (pv 0) pe_int (fun _ _ => rfl)) pe_int (nomark _))
      (pss_cons (ps_set (i := 3) sc_law_take.nd rfl (.inl rfl) (pe_op op_modN (pe_callTy call_int1 (by rfl) T.z_int (by decide +kernel) (pa_cons (pe_ix ix_list (pv 0) pe_int (fun _ _ => rfl)) pa_nil)) (pv 1)))
      (pss_cons (ps_asg (pe_op op_fdivN (pe_ix ix_list (pv 0) pe_int (fun _ _ => rfl)) (pv 1)) (pg_sub (pv 0) pe_int set_list))
      (pss_one (ps_ret (pv 3)))))
      pss_nil)
    (pss_cons (ps_asg (pe_op op_add (pe_ix ix_list (pv 0) pe_int (fun _ _ => rfl)) pe_int) (pg_sub (pv 0) pe_int set_list))
    (pss_cons (ps_set (i := 4) sc_law_take.nd rfl (.inl rfl) (pe_op op_modN (pe_callTy call_int1 (by rfl) T.z_int (by decide +kernel) (pa_cons (pe_op op_add (pe_op op_add (pe_op op_mul (pe_ix ix_list (pv 0) pe_int (fun _ _ => rfl)) pe_int) (pe_op op_mul (pe_ix ix_list (pv 0) pe_int (fun _ _ => rfl)) pe_int)) pe_int) pa_nil)) pe_int))
    (pss_cons (ps_set (i := 4) sc_law_take.nd rfl (.inl rfl) (pe_op op_modN (pe_callTy call_int1 (by rfl) T.z_int (by decide +kernel) (pa_cons (pe_op op_add (pe_op op_add (pe_op op_mul (pv 4) (pv 4)) (pe_op op_mul (pe_ix ix_list (pv 0) pe_int (fun _ _ => rfl)) pe_int)) (pe_ix ix_list (pv 0) pe_int (fun _ _ => rfl))) pa_nil)) pe_int))
    (pss_one (ps_ret (pe_op op_modN (pe_callTy call_int1 (by rfl) T.z_int (by decide +kernel) (pa_cons (pe_op op_fdivN (pv 4) pe_int) pa_nil)) (pv 1))))))))), ?_⟩
    obtain ⟨ns, i, c, s, t, e1, e2, nlb, i0, c0, s0, s1⟩ := id hB
    refine ⟨fun σ' H' => ∃ o : Option V, σ' = [some (.ref b), some (.int m), o, none, none] ∧ Bag H' b l ∧ But b H H', ?_, ?_⟩
    · walk_at "wp"
      refine brd (fun h1 => ?_) (fun h1 => ?_)
      · walk_at "wp"
        refine brd (fun h2 => ?_) (fun h2 => ?_)
        · have h4 : i.toNat < ns.length := by rw [List.length_map] at h2; omega
          have h5 : (ns.map V.int)[i.toNat]? = some (.int ns[i.toNat]) := by rw [List.getElem?_map, List.getElem?_eq_getElem h4]; rfl
          walk_at "wp"
          refine brd (fun h6 => ?_) (fun h6 => ?_)
          · walk_at "wp"
            refine ⟨⟨ns, i + 1, _, s, t, upd_same, ?_, nlb, by omega, ?_, s0, s1⟩, But.trans .at .at⟩
            · rw [upd_ne nlb, upd_ne nlb]
              exact e2
            · split <;> omega
          · walk_at "wp"
            rename_i r _ r0 r1
            refine ⟨⟨ns, i + 1, c, r, t, upd_same, ?_, nlb, by omega, c0, r0, r1⟩, But.trans .at .at⟩
            rw [upd_ne nlb, upd_ne nlb]
            exact e2
        · walk_at "wp"
          exact ⟨hB, .refl⟩
      · walk_at "wp"
        exact ⟨hB, .refl⟩
    · intro σ' H' hW
      obtain ⟨o, rfl, hB', hb'⟩ := hW
      obtain ⟨ns, i, c, s, t, e1, e2, nlb, i0, c0, s0, s1⟩ := id hB'
      walk_at "wp"
      refine brd (fun h1 => ?_) (fun h1 => ?_)
      · walk_at "wp"
        rename_i r _ r0 r1 d _ d0 _ _
        refine q r _ r0 r1 (But.trans hb' .at) ⟨ns, i, d, s, t, upd_same, ?_, nlb, i0, (d0 c0).1, s0, s1⟩
        rw [upd_ne nlb]
        exact e2
      · walk_at "wp"
        refine q _ _ (by assumption) (by assumption) (But.trans hb' .at) ⟨ns, i, c, s, _, upd_same, ?_, nlb, i0, c0, s0, s1⟩
        rw [upd_ne nlb]
        exact e2
/-! ### signs, texts of signs -/
/-- line feed, or from the blank to the tilde, but the percent sign -/
def sgn (c : Nat) : Bool := c == 10 || (32 ≤ c && c ≤ 126 && c != 37)
def sp_law_sign : Sp := fun vs H Q _ => ∃ n : Int, vs = [.int n] ∧ 0 ≤ n ∧ n < 96 ∧ ∀ c, sgn c = true → Q (.str ⟨#[c]⟩) H
theorem ok_law_sign (T : Txt K mg a) : FnOk P w K mg base CX0 1 a.law_sign a.law_sign_d ["number"] sp_law_sign := by
  refine T.F_law_sign.ok sc_law_sign (fun vs H Q E h => ?_) (fun cdv A outer s H vs Q E hr h => ?_)
  · obtain ⟨n, rfl, _⟩ := h
    rfl
  · obtain ⟨n, rfl, h0, h1, q⟩ := h
    refine ⟨_, (pss_cons (ps_set (i := 1) sc_law_sign.nd rfl (.inl rfl) pe_str)
    (pss_one (ps_ret (pe_ix ix_str (pv 1) (pe_op op_sub (pv 0) (pe_callTy call_int1 (by rfl) T.z_int (by decide +kernel) (pa_cons (pe_cmpR op_gt (pv 0) pe_int (nomark _)) pa_nil))) (fun _ _ => rfl))))), ?_⟩
    walk_at "wp"
    have hk : 0 ≤ n - (if decide (6 < n) = true then 1 else 0) ∧ n - (if decide (6 < n) = true then 1 else 0) < 95 := by
      by_cases h6 : 6 < n
      · rw [decide_eq_true h6, if_pos rfl]
        omega
      · rw [decide_eq_false h6, if_neg (by decide)]
        omega
    have key : ∀ z : Str, (z.cps.toList.all sgn && z.cps.toList.length == 95) = true → z.length ≤ sizeLine → rIxS (.str z) (.int (n - (if decide (6 < n) = true then 1 else 0))) H Q := by
      intro z hz hl
      obtain ⟨h2, h3⟩ := Bool.and_eq_true_iff.mp hz
      have h4 : z.cps.toList.length = 95 := by simpa using h3
      obtain ⟨c, e, hm⟩ := atI_ex (xs := z.cps.toList) hk.1 (by rw [h4]; exact hk.2)
      exact ⟨z, _, c, rfl, rfl, hl, e, q c (List.all_eq_true.mp h2 c hm)⟩
    exact key _ (by decide +kernel) (by decide +kernel)
/-- a text of signs -/
def Txt1 (s : Str) : Prop := s.cps.toList.all sgn = true
def sp_law_text (K : PySem.W.Frag) : Sp := fun vs H Q _ => ∃ (p : Addr) (ns : List Int), vs = [.ref p] ∧ SqL K H p (ns.map V.int) ∧ ns.length ≤ 1000 ∧ (∀ n ∈ ns, 0 ≤ n ∧ n < 96) ∧ ∀ s H', s.length = ns.length → Txt1 s → Same H H' → Q (.str s) H'
theorem ok_law_text (T : Txt K mg a) : FnOk P w K mg base CX0 2 a.law_text a.law_text_d ["numbers"] (sp_law_text K) := by
  refine T.F_law_text.ok sc_law_text (fun vs H Q E h => ?_) (fun cdv A outer s H vs Q E hr h => ?_)
  · obtain ⟨p, ns, rfl, _⟩ := h
    rfl
  · obtain ⟨p, ns, rfl, hS, hl, hn, q⟩ := h
    refine ⟨_, (pss_one (ps_ret (pe_join pe_str (pe_lc (own := [("number", 1)]) rfl sc_law_text.nd (pi_list (pv 0)) (blkOk_by (own := [("number", 1)]) (N := ["numbers", "number"]) (sc := defScope s_law_text) (by decide +kernel)) (fun _ _ _ _ _ => (pg_name (i := 1) sc_law_text.nd rfl (Or.inl rfl))) (fun _ _ _ _ _ => pts_nil) (fun _ _ _ _ _ => (pe_call (ok_law_sign T) (hr.mono (by decide)) (by rfl) T.m_law_sign T.F_law_sign.kp (B_law_sign T) .nil pass0 (pa_cons (pv 1) pa_nil))))))), ?_⟩
    walk_at "wp"
    refine ⟨⟨_, hS⟩, fun D hD => lc_list (xs := ns.map V.int) (fun i H' => ∃ ys : List Str, ys.length = i ∧ (∀ y ∈ ys, ∃ c, y = (⟨#[c]⟩ : Str) ∧ sgn c = true) ∧ H' D = some (.lst (ys.map V.str)) ∧ Same H H') ⟨[], rfl, by simp, upd_same, Same.new hD⟩ (fun i H' _ ⟨_, _, _, _, s⟩ => s.seq hS) ?_ ?_⟩
    · rintro i x H' hx ⟨ys, rfl, hy, hD', sm⟩
      obtain ⟨z, hz, rfl, hm⟩ := mem_int hx
      have hlen := (List.getElem?_eq_some_iff.mp hx).1
      rw [List.length_map] at hlen
      refine ⟨rfl, ?_⟩
      walk_at "wp"
      refine ⟨(hn z hm).1, (hn z hm).2, fun c hc => ?_⟩
      refine ⟨_, hD', by rw [List.length_map]; exact lt_line (by omega), ys ++ [⟨#[c]⟩], by simp, ?_, ?_, ?_⟩
      · intro y hy'
        rcases List.mem_append.mp hy' with h | h
        · exact hy y h
        · exact ⟨c, List.mem_singleton.mp h, hc⟩
      · rw [upd_same, List.map_append]
        rfl
      · exact fun b o e => by rw [upd_ne (ne_of_none e hD)]; exact sm b o e
    · rintro H' ⟨ys, hyl, hy, hD', sm⟩
      rw [List.length_map] at hyl
      obtain ⟨j1, j2⟩ := join_ones sgn ys hy
      refine ⟨_, _, ys, rfl, rfl, .inl (SqL.of hD'), ?_, ?_⟩
      · rw [sum_ones ys sgn hy]
        show ys.length + ys.length * 0 ≤ _
        omega
      · exact q _ _ (by rw [j1, hyl]) j2 sm

/-- letters to draw from: one to four numbers below 96 -/
def Lets (H : Hp) (l : Addr) : Prop := ∃ ns : List Int, H l = some (.lst (ns.map V.int)) ∧ 0 < ns.length ∧ ns.length ≤ 4 ∧ ∀ n ∈ ns, 0 ≤ n ∧ n < 96
theorem Lets.but {b l : Addr} {H H' : Hp} (x : But b H H') (n : l ≠ b) (h : Lets H l) : Lets H' l := by
  obtain ⟨ns, e, r⟩ := h
  exact ⟨ns, x _ _ n e, r⟩
theorem Lets.same {l : Addr} {H H' : Hp} (x : Same H H') (h : Lets H l) : Lets H' l := by
  obtain ⟨ns, e, r⟩ := h
  exact ⟨ns, x _ _ e, r⟩
theorem Lets.ne {l p : Addr} {H : Hp} (n : H p = none) (h : Lets H l) : l ≠ p := by
  obtain ⟨ns, e, _⟩ := h
  exact ne_of_none e n
theorem Lets.upd {l p : Addr} {H : Hp} {o : HO} (n : l ≠ p) (h : Lets H l) : Lets (upd H p o) l := by
  obtain ⟨ns, e, r⟩ := h
  exact ⟨ns, by rw [upd_ne n]; exact e, r⟩
local macro_rules | `(tactic| walk_at "hl") => `(tactic| first | assumption | (apply Lets.same; assumption; walk_at "hl") | (apply Lets.but; assumption; walk_at "ne"; walk_at "hl"))
def sp_law_letters : Sp := fun vs H Q _ => ∃ b c : Addr, vs = [.ref b] ∧ Bag H b c ∧ ∀ l H', H l = none → But b H H' → Bag H' b c → Lets H' l → Q (.ref l) H'
theorem ok_law_letters (T : Txt K mg a) : FnOk P w K mg base CX0 2 a.law_letters a.law_letters_d ["bag"] sp_law_letters := by
  refine T.F_law_letters.ok sc_law_letters (fun vs H Q E h => ?_) (fun cdv A outer s H vs Q E hr h => ?_)
  · obtain ⟨b, c, rfl, _⟩ := h
    rfl
  · obtain ⟨b, c, rfl, hB, q⟩ := h
    refine ⟨_, (pss_cons (ps_set (i := 1) sc_law_letters.nd rfl (.inl rfl) (pe_ix ix_list (pe_lst (pa_cons pe_int (pa_cons pe_int (pa_cons pe_int (pa_cons (pe_call (ok_law_take T) (hr.mono (by decide)) (by rfl) T.m_law_take T.F_law_take.kp (B_law_take T) .nil pass0 (pa_cons (pv 0) (pa_cons pe_int pa_nil))) pa_nil))))) (pe_callB (call_min2 rfl) (by rfl) T.z_min (by decide +kernel) (pa_cons (pe_call (ok_law_take T) (hr.mono (by decide)) (by rfl) T.m_law_take T.F_law_take.kp (B_law_take T) .nil pass0 (pa_cons (pv 0) (pa_cons pe_int pa_nil))) (pa_cons pe_int pa_nil))) (fun _ _ => rfl)))
    (pss_cons (ps_set (i := 2) sc_law_letters.nd rfl (.inl rfl) (pe_lst (pa_cons (pe_op op_add (pv 1) (pe_callTy call_int1 (by rfl) T.z_int (by decide +kernel) (pa_cons (pe_cmpR op_gt (pv 1) pe_int (nomark _)) pa_nil))) pa_nil)))
    (pss_cons (ps_set (i := 3) sc_law_letters.nd rfl (.inl rfl) (pe_call (ok_law_take T) (hr.mono (by decide)) (by rfl) T.m_law_take T.F_law_take.kp (B_law_take T) .nil pass0 (pa_cons (pv 0) (pa_cons pe_int pa_nil))))
    (pss_cons (ps_for PassesOwn.never rfl (pi_range1 (by rfl) T.z_range (pa_cons (pe_op op_add pe_int (pe_call (ok_law_take T) (hr.mono (by decide)) (by rfl) T.m_law_take T.F_law_take.kp (B_law_take T) .nil pass0 (pa_cons (pv 0) (pa_cons pe_int pa_nil)))) pa_nil)) (pg_name (i := 4) sc_law_letters.nd rfl (.inl rfl))
      (pss_cons (ps_set (i := 5) sc_law_letters.nd rfl (.inl rfl) (pe_call (ok_law_take T) (hr.mono (by decide)) (by rfl) T.m_law_take T.F_law_take.kp (B_law_take T) .nil pass0 (pa_cons (pv 0) (pa_cons pe_int pa_nil))))
      (Evl.pss_cut (ps_if (pt_cmpR op_eq (pv 3) pe_int (nomark _))
        (pss_one (ps_set (i := 5) sc_law_letters.nd rfl (.inl rfl) (pe_op op_modN (pe_callTy call_int1 (by rfl) T.z_int (by decide +kernel) (pa_cons (pe_op op_add (pe_op op_add (pv 1) (pv 4)) pe_int) pa_nil)) pe_int)))
        pss_nil)
      (pss_one (ps_expr (pe_bm PySem.F.plainAttrs_list PySem.F.slot_list_append PySem.F.type_list_append mt_append (pv 2) (pa_cons (pe_op op_add (pv 5) (pe_callTy call_int1 (by rfl) T.z_int (by decide +kernel) (pa_cons (pe_cmpR op_gt (pv 5) pe_int (nomark _)) pa_nil))) pa_nil)))))))
    (pss_one (ps_ret (pv 2))))))), ?_⟩
    walk_at "wp"
    refine ⟨_, _, _, rfl, (by walk_at "hb"), (by decide), (by decide), fun n1 H1 n10 n11 s1 B1 => ?_⟩
    refine ⟨(by show 4 ≤ sizeLine; decide), fun p hp => ?_⟩
    walk_at "wp"
    obtain ⟨npb, npc⟩ := B1.ne hp
    refine ⟨_, _, _, rfl, (by walk_at "hb"), (by decide), (by decide), fun n2 H2 n20 n21 s2 B2 => ?_⟩
    walk_at "wp"
    obtain ⟨v, ev, v0, v1⟩ := atI_all (ns := [0, 59, 8, n1]) (i := if 3 < n2 then 3 else n2) (C := fun v => 0 ≤ v ∧ v < 95) (by split <;> omega) (by show _ < ((4 : Nat) : Int); split <;> omega) (by
      intro n hn
      simp only [List.mem_cons, List.not_mem_nil, or_false] at hn
      omega)
    refine ⟨_, _, _, _, rfl, rfl, (by walk_at "hp"), ev, ?_⟩
    walk_at "wp"
    refine ⟨disp rfl, fun l hl => ?_⟩
    obtain ⟨nlb, nlc⟩ := B2.ne hl
    walk_at "wp"
    refine ⟨_, _, _, rfl, (by walk_at "hb"), (by decide), (by decide), fun n3 H3 n30 n31 s3 B3 => ?_⟩
    walk_at "wp"
    refine ⟨_, _, _, rfl, (by walk_at "hb"), (by decide), (by decide), fun n4 H4 n40 n41 s4 B4 => ?_⟩
    walk_at "wp"
    have hl0 : H l = none := free_of_but s1 nlb (upd_free2 (free_of_but s2 nlb hl)).1
    refine ⟨by omega, by omega, for_range (lo := 0) (n := (1 + n4).toNat) (fun i σ H' => ∃ o4 o5 : Option V, ∃ ns : List Int, σ = [some (.ref b), some (.int v), some (.ref l), some (.int n3), o4, o5] ∧ Bag H' b c ∧ H' l = some (.lst (ns.map V.int)) ∧ ns.length = 1 + i ∧ (∀ n ∈ ns, 0 ≤ n ∧ n < 96) ∧ But b H H') ?_ ?_ ?_⟩
    · refine ⟨none, none, [v + if decide (5 < v) = true then 1 else 0], rfl, B4, (by walk_at "hp"), rfl, fun n hn => ?_, ((((s1.trans (But.new hp)).trans s2).trans (But.new hl)).trans s3).trans s4⟩
      rw [List.mem_singleton.mp hn]
      split <;> omega
    · rintro i σ H' hi ⟨o4, o5, ns, rfl, B, e, len, rng, sb⟩
      walk_at "wp"
      refine ⟨_, _, _, rfl, (by walk_at "hb"), (by decide), (by decide), fun n5 H5 n50 n51 s5 B5 => ?_⟩
      walk_at "wp"
      refine ⟨fun σ' H' => ∃ z : Int, H' = H5 ∧ 0 ≤ z ∧ z < 95 ∧ σ' = [some (.ref b), some (.int v), some (.ref l), some (.int n3), some (.int (0 + i)), some (.int z)], ?_, ?_⟩
      · walk_at "wp"
        refine brd (fun h1 => ?_) (fun h1 => ?_)
        · walk_at "wp"
          exact ⟨_, rfl, by assumption, by assumption, rfl⟩
        · walk_at "wp"
          exact ⟨_, rfl, by assumption, by assumption, rfl⟩
      · rintro σ' _ ⟨z, rfl, z0, z1, rfl⟩
        walk_at "wp"
        refine ⟨_, _, ns ++ [z + if decide (5 < z) = true then 1 else 0], rfl, B5.upd nlb nlc, ?_, ?_, ?_, (sb.trans s5).mut hl0⟩
        · rw [upd_same, List.map_append]
          rfl
        · rw [List.length_append, len]
          show 1 + i + 1 = 1 + (i + 1)
          omega
        · intro n hn
          rcases List.mem_append.mp hn with h | h
          · exact rng n h
          · rw [List.mem_singleton.mp h]
            split <;> omega
    · rintro σ H' ⟨o4, o5, ns, rfl, B, e, len, rng, sb⟩
      walk_at "wp"
      exact q l H' hl0 sb B ⟨ns, e, by omega, by omega, rng⟩
/-- a number of a sign: one of the letters, or any -/
def sp_law_pick : Sp := fun vs H Q _ => ∃ b c l : Addr, vs = [.ref b, .ref l] ∧ Bag H b c ∧ Lets H l ∧ l ≠ b ∧ ∀ n H', 0 ≤ n → n < 96 → But b H H' → Bag H' b c → Q (.int n) H'
theorem ok_law_pick (T : Txt K mg a) : FnOk P w K mg base CX0 2 a.law_pick a.law_pick_d ["bag", "letters"] sp_law_pick := by
  refine T.F_law_pick.ok sc_law_pick (fun vs H Q E h => ?_) (fun cdv A outer s H vs Q E hr h => ?_)
  · obtain ⟨b, c, l, rfl, _⟩ := h
    rfl
  · obtain ⟨b, c, l, rfl, hB, hL, nlb, q⟩ := h
    refine ⟨_, (pss_cons (ps_if (pt_cmpR op_gt (pe_call (ok_law_take T) (hr.mono (by decide)) (by rfl) T.m_law_take T.F_law_take.kp (B_law_take T) .nil pass0 (pa_cons (pv 0) (pa_cons pe_int pa_nil))) pe_int (nomark _))
      (pss_one (ps_ret (pe_ix ix_list (pv 1) (pe_call (ok_law_take T) (hr.mono (by decide)) (by rfl) T.m_law_take T.F_law_take.kp (B_law_take T) .nil pass0 (pa_cons (pv 0) (pa_cons (pe_callB call_len (by rfl) T.z_len (by decide +kernel) (pa_cons (pv 1) pa_nil)) pa_nil))) (fun _ _ => rfl))))
      pss_nil)
    (pss_cons (ps_set (i := 2) sc_law_pick.nd rfl (.inl rfl) (pe_call (ok_law_take T) (hr.mono (by decide)) (by rfl) T.m_law_take T.F_law_take.kp (B_law_take T) .nil pass0 (pa_cons (pv 0) (pa_cons pe_int pa_nil))))
    (pss_one (ps_ret (pe_op op_add (pv 2) (pe_callTy call_int1 (by rfl) T.z_int (by decide +kernel) (pa_cons (pe_cmpR op_gt (pv 2) pe_int (nomark _)) pa_nil))))))), ?_⟩
    walk_at "wp"
    refine ⟨_, _, _, rfl, (by walk_at "hb"), (by decide), (by decide), fun n1 H1 n10 n11 s1 B1 => ?_⟩
    walk_at "wp"
    refine brd (fun h1 => ?_) (fun h1 => ?_)
    · obtain ⟨ns, e, e0, e4, en⟩ := id hL
      walk_at "wp"
      refine ⟨_, _, _, rfl, (by walk_at "hb"), (by rw [List.length_map]; omega), (by rw [List.length_map]; omega), fun n2 H2 n20 n21 s2 B2 => ?_⟩
      obtain ⟨v, ev, v0, v1⟩ := atI_all n20 (by rw [List.length_map] at n21; exact n21) en
      refine ⟨_, _, _, _, rfl, rfl, (by walk_at "hp"), ev, ?_⟩
      walk_at "wp"
      exact q _ _ v0 v1 (s1.trans s2) B2
    · walk_at "wp"
      refine ⟨_, _, _, rfl, (by walk_at "hb"), (by decide), (by decide), fun n2 H2 n20 n21 s2 B2 => ?_⟩
      walk_at "wp"
      exact q _ _ (by show 0 ≤ n2 + _; split <;> omega) (by show n2 + _ < 96; split <;> omega) (s1.trans s2) B2

/-! ### told and due alike: two ints, truth values, texts, or flat tuples of those -/
def Flat : V → V → Prop := fun x y => (∃ i j, x = .int i ∧ y = .int j) ∨ (∃ i j, x = .bl i ∧ y = .bl j) ∨ (∃ i j, x = .str i ∧ y = .str j)
def sp_law_same0 : Sp := fun vs H Q _ => ∃ x y : V, vs = [x, y] ∧ Flat x y ∧ Q (.bl (decide (x = y))) H
theorem ok_law_same0 (T : Txt K mg a) : FnOk P w K mg base CX0 1 a.law_same a.law_same_d ["actual", "due"] sp_law_same0 := by
  refine T.F_law_same.ok sc_law_same (fun vs H Q E h => ?_) (fun cdv A outer s H vs Q E hr h => ?_)
  · obtain ⟨x, y, rfl, _⟩ := h
    rfl
  · obtain ⟨x, y, rfl, hxy, q⟩ := h
    refine ⟨_, (pss_cons (ps_if (pt_val (pe_callB call_isi (by rfl) T.z_isinstance (by decide +kernel) (pa_cons (pv 1) (pa_cons (pe_bltn (v := .ty "tuple") (by rfl) T.z_tuple (by decide +kernel) rfl) pa_nil)))) pss_never pss_nil)
    (pss_cons (ps_if (pt_val (pe_callB call_isi (by rfl) T.z_isinstance (by decide +kernel) (pa_cons (pv 1) (pa_cons (pe_bltn (v := .ty "bool") (by rfl) T.z_bool (by decide +kernel) rfl) pa_nil))))
      (pss_one (ps_ret (pe_and (pe_callB call_isi (by rfl) T.z_isinstance (by decide +kernel) (pa_cons (pv 0) (pa_cons (pe_bltn (v := .ty "bool") (by rfl) T.z_bool (by decide +kernel) rfl) pa_nil))) (pe_one (pe_cmpR op_eq (pv 0) (pv 1) (nomark _))))))
      pss_nil)
    (pss_cons (ps_if (pt_val (pe_callB call_isi (by rfl) T.z_isinstance (by decide +kernel) (pa_cons (pv 1) (pa_cons (pe_bltn (v := .ty "int") (by rfl) T.z_int (by decide +kernel) rfl) pa_nil))))
      (pss_one (ps_ret (pe_and (pe_callB call_isi (by rfl) T.z_isinstance (by decide +kernel) (pa_cons (pv 0) (pa_cons (pe_bltn (v := .ty "int") (by rfl) T.z_int (by decide +kernel) rfl) pa_nil))) (pe_and (pe_not (pe_callB call_isi (by rfl) T.z_isinstance (by decide +kernel) (pa_cons (pv 0) (pa_cons (pe_bltn (v := .ty "bool") (by rfl) T.z_bool (by decide +kernel) rfl) pa_nil)))) (pe_one (pe_cmpR op_eq (pv 0) (pv 1) (nomark _)))))))
      pss_nil)
    (pss_cons (ps_if (pt_val (pe_callB call_isi (by rfl) T.z_isinstance (by decide +kernel) (pa_cons (pv 1) (pa_cons (pe_bltn (v := .ty "str") (by rfl) T.z_str (by decide +kernel) rfl) pa_nil))))
      (pss_one (ps_ret (pe_and (pe_callB call_isi (by rfl) T.z_isinstance (by decide +kernel) (pa_cons (pv 0) (pa_cons (pe_bltn (v := .ty "str") (by rfl) T.z_str (by decide +kernel) rfl) pa_nil))) (pe_one (pe_cmpR op_eq (pv 0) (pv 1) (nomark _))))))
      pss_nil)
    (pss_one (ps_ret (pe_and (pe_cmpR op_isN (pv 1) pe_non (nomark _)) (pe_one (pe_cmpR op_isN (pv 0) pe_non (nomark _)))))))))), ?_⟩
    rcases hxy with ⟨i, j, rfl, rfl⟩ | ⟨i, j, rfl, rfl⟩ | ⟨i, j, rfl, rfl⟩
    · walk_at "wp"
      exact q
    · walk_at "wp"
      exact q
    · walk_at "wp"
      exact q
/-- .. at most one tuple deep -/
inductive Alike (K : PySem.W.Frag) (H : Hp) : V → V → Bool → Prop where
  | flat {x y : V} (h : Flat x y) : Alike K H x y (decide (x = y))
  | tup {p q : Addr} {xs ys : List V} (e1 : SqT K H p xs) (e2 : SqT K H q ys) (hl : xs.length = ys.length) (small : ys.length ≤ 1000) (h : ∀ (i : Nat) (u v : V), xs[i]? = some u → ys[i]? = some v → Flat u v) : Alike K H (.ref p) (.ref q) (decide (xs = ys))
def sp_law_same (K : PySem.W.Frag) : Sp := fun vs H Q _ => ∃ x y b, vs = [x, y] ∧ Alike K H x y b ∧ ∀ H', Same H H' → Q (.bl b) H'
theorem ok_law_same (T : Txt K mg a) : FnOk P w K mg base CX0 2 a.law_same a.law_same_d ["actual", "due"] (sp_law_same K) := by
  refine T.F_law_same.ok sc_law_same (fun vs H Q E h => ?_) (fun cdv A outer s H vs Q E hr h => ?_)
  · obtain ⟨x, y, b, rfl, _⟩ := h
    rfl
  · obtain ⟨x, y, b, rfl, hxy, q⟩ := h
    refine ⟨_, (pss_cons (ps_if (pt_val (pe_callB call_isi (by rfl) T.z_isinstance (by decide +kernel) (pa_cons (pv 1) (pa_cons (pe_bltn (v := .ty "tuple") (by rfl) T.z_tuple (by decide +kernel) rfl) pa_nil))))
      (pss_cons (ps_if (PW.pt (pw_or (pt_not (pt_val (pe_callB call_isi (by rfl) T.z_isinstance (by decide +kernel) (pa_cons (pv 0) (pa_cons (pe_bltn (v := .ty "tuple") (by rfl) T.z_tuple (by decide +kernel) rfl) pa_nil))))) (pw_or1 (pt_cmpR op_ne (pe_callB call_len (by rfl) T.z_len (by decide +kernel) (pa_cons (pv 0) pa_nil)) (pe_callB call_len (by rfl) T.z_len (by decide +kernel) (pa_cons (pv 1) pa_nil)) (nomark _)))))
        (pss_one (ps_ret pe_bl))
        pss_nil)
      (pss_one (ps_ret (pe_callB (cr_all rfl) (by rfl) T.z_all (by decide +kernel) (pa_cons (pe_lc (own := [("k", 2)]) rfl sc_law_same.nd (pi_range1 (by rfl) T.z_range (pa_cons (pe_callB call_len (by rfl) T.z_len (by decide +kernel) (pa_cons (pv 1) pa_nil)) pa_nil)) (blkOk_by (own := [("k", 2)]) (N := ["actual", "due", "k"]) (sc := defScope s_law_same) (by decide +kernel)) (fun _ _ _ _ _ => (pg_name (i := 2) sc_law_same.nd rfl (Or.inl rfl))) (fun _ _ _ _ _ => pts_nil) (fun _ _ _ _ _ => (pe_call (ok_law_same0 T) (hr.mono (by decide)) (by rfl) T.m_law_same T.F_law_same.kp (B_law_same T) .nil pass0 (pa_cons (pe_ix (show IxR _ (rIxT K) by exact ix_tup) (pv 0) (pv 2) (fun _ _ => rfl)) (pa_cons (pe_ix (show IxR _ (rIxT K) by exact ix_tup) (pv 1) (pv 2) (fun _ _ => rfl)) pa_nil))))) pa_nil)))))
      pss_nil)
    (pss_cons (ps_if (pt_val (pe_callB call_isi (by rfl) T.z_isinstance (by decide +kernel) (pa_cons (pv 1) (pa_cons (pe_bltn (v := .ty "bool") (by rfl) T.z_bool (by decide +kernel) rfl) pa_nil))))
      (pss_one (ps_ret (pe_and (pe_callB call_isi (by rfl) T.z_isinstance (by decide +kernel) (pa_cons (pv 0) (pa_cons (pe_bltn (v := .ty "bool") (by rfl) T.z_bool (by decide +kernel) rfl) pa_nil))) (pe_one (pe_cmpR op_eq (pv 0) (pv 1) (nomark _))))))
      pss_nil)
    (pss_cons (ps_if (pt_val (pe_callB call_isi (by rfl) T.z_isinstance (by decide +kernel) (pa_cons (pv 1) (pa_cons (pe_bltn (v := .ty "int") (by rfl) T.z_int (by decide +kernel) rfl) pa_nil))))
      (pss_one (ps_ret (pe_and (pe_callB call_isi (by rfl) T.z_isinstance (by decide +kernel) (pa_cons (pv 0) (pa_cons (pe_bltn (v := .ty "int") (by rfl) T.z_int (by decide +kernel) rfl) pa_nil))) (pe_and (pe_not (pe_callB call_isi (by rfl) T.z_isinstance (by decide +kernel) (pa_cons (pv 0) (pa_cons (pe_bltn (v := .ty "bool") (by rfl) T.z_bool (by decide +kernel) rfl) pa_nil)))) (pe_one (pe_cmpR op_eq (pv 0) (pv 1) (nomark _)))))))
      pss_nil)
    (pss_cons (ps_if (pt_val (pe_callB call_isi (by rfl) T.z_isinstance (by decide +kernel) (pa_cons (pv 1) (pa_cons (pe_bltn (v := .ty "str") (by rfl) T.z_str (by decide +kernel) rfl) pa_nil))))
      (pss_one (ps_ret (pe_and (pe_callB call_isi (by rfl) T.z_isinstance (by decide +kernel) (pa_cons (pv 0) (pa_cons (pe_bltn (v := .ty "str") (by rfl) T.z_str (by decide +kernel) rfl) pa_nil))) (pe_one (pe_cmpR op_eq (pv 0) (pv 1) (nomark _))))))
      pss_nil)
    (pss_one (ps_ret (pe_and (pe_cmpR op_isN (pv 1) pe_non (nomark _)) (pe_one (pe_cmpR op_isN (pv 0) pe_non (nomark _)))))))))), ?_⟩
    cases hxy with
    | flat h =>
      have q := q H (.refl _)
      rcases h with ⟨i, j, rfl, rfl⟩ | ⟨i, j, rfl, rfl⟩ | ⟨i, j, rfl, rfl⟩
      · walk_at "wp"
        exact q
      · walk_at "wp"
        exact q
      · walk_at "wp"
        exact q
    | tup e1 e2 hl small h =>
      rename_i p q' xs ys
      walk_at "wp"
      refine brF (by rw [hl, decide_eq_true rfl]; rfl) ?_
      walk_at "wp"
      refine ⟨by omega, by omega, fun D hD => ?_⟩
      have hlt : ∀ (l : List V) (i : Nat), i < l.length → ∃ u, l[i]? = some u := fun l i h => ⟨l[i], List.getElem?_eq_getElem h⟩
      refine lc_range (lo := 0) (n := ((ys.length : Int)).toNat) (fun i H' => Same H H' ∧ H' D = some (.lst ((List.range i).map fun (j : Nat) => V.bl (decide (xs[j]? = ys[j]?))))) ⟨Same.new hD, upd_same⟩ ?_ ?_
      · rintro i H2 hi ⟨sm, e⟩
        rw [Int.toNat_natCast] at hi
        refine ⟨rfl, ?_⟩
        obtain ⟨u, hu⟩ := hlt xs i (by omega)
        obtain ⟨v, hv⟩ := hlt ys i hi
        have au : atI xs (0 + (i : Int)) = some u := atI_of (by omega) hu
        have av : atI ys (0 + (i : Int)) = some v := atI_of (by omega) hv
        have e1' : SqT K H2 p xs := sm.seqT e1
        have e2' : SqT K H2 q' ys := sm.seqT e2
        unfold tYes
        refine brT rfl ?_
        refine ⟨_, rfl, _, rfl, _, _, _, _, rfl, rfl, e1', au, ?_⟩
        refine ⟨_, rfl, _, rfl, _, _, _, _, rfl, rfl, e2', av, ?_⟩
        refine ⟨u, v, rfl, h i u v hu hv, ?_⟩
        refine ⟨_, e, by rw [List.length_map, List.length_range]; exact lt_line (by omega), sm.mut hD, ?_⟩
        rw [upd_same, List.range_succ, List.map_append]
        have ee : decide (u = v) = decide (xs[i]? = ys[i]?) := by
          rw [decide_eq_decide, hu, hv]
          exact ⟨fun z => by rw [z], fun z => Option.some.inj z⟩
        rw [ee]
        rfl
      · rintro H2 ⟨sm, e⟩
        refine ⟨D, (List.range ((ys.length : Int)).toNat).map fun (j : Nat) => decide (xs[j]? = ys[j]?), rfl, SqL.of (by rw [e, List.map_map]; rfl), ?_⟩
        have hb : ((List.range ((ys.length : Int)).toNat).map fun (j : Nat) => decide (xs[j]? = ys[j]?)).all id = decide (xs = ys) := by
          rw [Bool.eq_iff_iff, List.all_eq_true, decide_eq_true_iff, Int.toNat_natCast]
          refine ⟨fun z => List.ext_getElem? fun i => ?_, fun z b hb => ?_⟩
          · by_cases hi : i < ys.length
            · exact of_decide_eq_true (z _ (List.mem_map.mpr ⟨i, List.mem_range.mpr hi, rfl⟩))
            · rw [List.getElem?_eq_none (by omega), List.getElem?_eq_none (by omega)]
          · obtain ⟨i, _, rfl⟩ := List.mem_map.mp hb
            rw [z]
            exact decide_eq_true rfl
        rw [hb]
        exact q H2 sm

/-! ### the law's own -/
def sp_law_lone (K : PySem.W.Frag) (a : Adr) : SpE := fun ea cls d vs H Q _ => vs = [.ref ea] ∧ ∃ (D dd : Addr) (fs : List (Str × V)), cls = .ref D ∧ d = some dd ∧ ExC K D ∧ H dd = some (.xd fs) ∧ (D = a.InvalidText ∨ D = a.InvalidEdit) ∧ Q (.bl true) H
theorem ok_law_lone (T : Txt K mg a) : FnE P w K mg base 1 a.law_lone a.law_lone_d ["e"] (sp_law_lone K a) := by
  refine T.F_law_lone.okE sc_law_lone (fun ea cls d vs H Q E h => ?_) (fun cdv A outer s H vs Q E ea oe cls d hz hf hr h => ?_)
  · obtain ⟨rfl, _⟩ := h
    rfl
  · obtain ⟨rfl, D, dd, fs, rfl, rfl, C, e, hD, q⟩ := h
    refine ⟨_, (pss_cons (ps_set (i := 1) sc_law_lone.nd rfl (.inl rfl) (pe_op op_add (pe_op op_add (pe_callTy call_int1 (by rfl) T.z_int (by decide +kernel) (pa_cons (pe_callB (call_isE3 List.mem_cons_self hz hf) (by rfl) T.z_isinstance (by decide +kernel) (pa_cons (pv 0) (pa_cons (pe_glob (v := .ref a.InvalidPattern) (by rfl) T.m_InvalidPattern rfl) pa_nil))) pa_nil)) (pe_callTy call_int1 (by rfl) T.z_int (by decide +kernel) (pa_cons (pe_callB (call_isE3 List.mem_cons_self hz hf) (by rfl) T.z_isinstance (by decide +kernel) (pa_cons (pv 0) (pa_cons (pe_glob (v := .ref a.InvalidKinds) (by rfl) T.m_InvalidKinds rfl) pa_nil))) pa_nil))) (pe_callTy call_int1 (by rfl) T.z_int (by decide +kernel) (pa_cons (pe_callB (call_isE3 List.mem_cons_self hz hf) (by rfl) T.z_isinstance (by decide +kernel) (pa_cons (pv 0) (pa_cons (pe_glob (v := .ref a.InvalidRules) (by rfl) T.m_InvalidRules rfl) pa_nil))) pa_nil))))
    (pss_cons (ps_set (i := 1) sc_law_lone.nd rfl (.inl rfl) (pe_op op_add (pe_op op_add (pe_op op_add (pv 1) (pe_callTy call_int1 (by rfl) T.z_int (by decide +kernel) (pa_cons (pe_callB (call_isE3 List.mem_cons_self hz hf) (by rfl) T.z_isinstance (by decide +kernel) (pa_cons (pv 0) (pa_cons (pe_glob (v := .ref a.InvalidText) (by rfl) T.m_InvalidText rfl) pa_nil))) pa_nil))) (pe_callTy call_int1 (by rfl) T.z_int (by decide +kernel) (pa_cons (pe_callB (call_isE3 List.mem_cons_self hz hf) (by rfl) T.z_isinstance (by decide +kernel) (pa_cons (pv 0) (pa_cons (pe_glob (v := .ref a.InvalidTokens) (by rfl) T.m_InvalidTokens rfl) pa_nil))) pa_nil))) (pe_callTy call_int1 (by rfl) T.z_int (by decide +kernel) (pa_cons (pe_callB (call_isE3 List.mem_cons_self hz hf) (by rfl) T.z_isinstance (by decide +kernel) (pa_cons (pv 0) (pa_cons (pe_glob (v := .ref a.InvalidEdit) (by rfl) T.m_InvalidEdit rfl) pa_nil))) pa_nil))))
    (pss_cons (ps_set (i := 1) sc_law_lone.nd rfl (.inl rfl) (pe_op op_add (pe_op op_add (pv 1) (pe_callTy call_int1 (by rfl) T.z_int (by decide +kernel) (pa_cons (pe_callB (call_isE3 List.mem_cons_self hz hf) (by rfl) T.z_isinstance (by decide +kernel) (pa_cons (pv 0) (pa_cons (pe_glob (v := .ref a.InvalidNumber) (by rfl) T.m_InvalidNumber rfl) pa_nil))) pa_nil))) (pe_callTy call_int1 (by rfl) T.z_int (by decide +kernel) (pa_cons (pe_callB (call_isE3 List.mem_cons_self hz hf) (by rfl) T.z_isinstance (by decide +kernel) (pa_cons (pv 0) (pa_cons (pe_glob (v := .ref a.InvalidLanguage) (by rfl) T.m_InvalidLanguage rfl) pa_nil))) pa_nil))))
    (pss_cons (ps_set (i := 1) sc_law_lone.nd rfl (.inl rfl) (pe_op op_add (pe_op op_add (pe_op op_add (pv 1) (pe_callTy call_int1 (by rfl) T.z_int (by decide +kernel) (pa_cons (pe_callB (call_isE3 List.mem_cons_self hz hf) (by rfl) T.z_isinstance (by decide +kernel) (pa_cons (pv 0) (pa_cons (pe_glob (v := .ref a.InvalidCommand) (by rfl) T.m_InvalidCommand rfl) pa_nil))) pa_nil))) (pe_callTy call_int1 (by rfl) T.z_int (by decide +kernel) (pa_cons (pe_callB (call_isE3 List.mem_cons_self hz hf) (by rfl) T.z_isinstance (by decide +kernel) (pa_cons (pv 0) (pa_cons (pe_glob (v := .ref a.Clash) (by rfl) T.m_Clash rfl) pa_nil))) pa_nil))) (pe_callTy call_int1 (by rfl) T.z_int (by decide +kernel) (pa_cons (pe_callB (call_isE3 List.mem_cons_self hz hf) (by rfl) T.z_isinstance (by decide +kernel) (pa_cons (pv 0) (pa_cons (pe_glob (v := .ref a.Undefined) (by rfl) T.m_Undefined rfl) pa_nil))) pa_nil))))
    (pss_one (ps_ret (pe_and (pe_cmpR op_eq (pe_op op_add (pv 1) (pe_callTy call_int1 (by rfl) T.z_int (by decide +kernel) (pa_cons (pe_callB (call_isE3 List.mem_cons_self hz hf) (by rfl) T.z_isinstance (by decide +kernel) (pa_cons (pv 0) (pa_cons (pe_glob (v := .ref a.NothingToDo) (by rfl) T.m_NothingToDo rfl) pa_nil))) pa_nil))) pe_int (nomark _)) (pe_one (pe_callB (call_isE3 List.mem_cons_self hz hf) (by rfl) T.z_isinstance (by decide +kernel) (pa_cons (pv 0) (pa_cons (pe_bltn (v := .ty "ValueError") (by rfl) T.z_ValueError (by decide +kernel) rfl) pa_nil))))))))))), ?_⟩
    rcases hD with rfl | rfl
    · iterate 13
        walk_at "wp"
        refine ⟨_, _, _, _, _, _, rfl, rfl, C, e, rfl, fun u hu => hu, (by first | exact T.k_Text_InvalidPattern | exact T.k_Text_InvalidKinds | exact T.k_Text_InvalidRules | exact T.k_Text_InvalidText | exact T.k_Text_InvalidTokens | exact T.k_Text_InvalidEdit | exact T.k_Text_InvalidNumber | exact T.k_Text_InvalidLanguage | exact T.k_Text_InvalidCommand | exact T.k_Text_Clash | exact T.k_Text_Undefined | exact T.k_Text_NothingToDo | exact T.k_Text_VE), ?_⟩
      walk_at "wp"
      exact q
    · iterate 13
        walk_at "wp"
        refine ⟨_, _, _, _, _, _, rfl, rfl, C, e, rfl, fun u hu => hu, (by first | exact T.k_Edit_InvalidPattern | exact T.k_Edit_InvalidKinds | exact T.k_Edit_InvalidRules | exact T.k_Edit_InvalidText | exact T.k_Edit_InvalidTokens | exact T.k_Edit_InvalidEdit | exact T.k_Edit_InvalidNumber | exact T.k_Edit_InvalidLanguage | exact T.k_Edit_InvalidCommand | exact T.k_Edit_Clash | exact T.k_Edit_Undefined | exact T.k_Edit_NothingToDo | exact T.k_Edit_VE), ?_⟩
      walk_at "wp"
      exact q

/-! ### a text of drawn letters -/
def sp_law_drawn : Sp := fun vs H Q _ => ∃ (b c l : Addr) (m : Int), vs = [.ref b, .ref l, .int m] ∧ Bag H b c ∧ Lets H l ∧ l ≠ b ∧ 0 ≤ m ∧ m ≤ 900 ∧ ∀ s H', (s.length : Int) ≤ m → Txt1 s → But b H H' → Bag H' b c → Q (.str s) H'
theorem ok_law_drawn (T : Txt K mg a) : FnOk P w K mg base CX0 3 a.law_drawn a.law_drawn_d ["bag", "letters", "most"] sp_law_drawn := by
  refine T.F_law_drawn.ok sc_law_drawn (fun vs H Q E h => ?_) (fun cdv A outer s H vs Q E hr h => ?_)
  · obtain ⟨b, c, l, m, rfl, _⟩ := h
    rfl
  · obtain ⟨b, c, l, m, rfl, hB, hL, nlb, m0, m1, q⟩ := h
    refine ⟨_, (pss_cons (ps_set (i := 3) sc_law_drawn.nd rfl (.inl rfl) (pe_lst pa_nil))
    (pss_cons (ps_for PassesOwn.never rfl (pi_range1 (by rfl) T.z_range (pa_cons (pe_call (ok_law_take T) (hr.mono (by decide)) (by rfl) T.m_law_take T.F_law_take.kp (B_law_take T) .nil pass0 (pa_cons (pv 0) (pa_cons (pe_op op_add (pv 2) pe_int) pa_nil))) pa_nil)) (pg_name (i := 4) sc_law_drawn.nd rfl (.inl rfl))
      (pss_one (ps_expr (pe_bm PySem.F.plainAttrs_list PySem.F.slot_list_append PySem.F.type_list_append mt_append (pv 3) (pa_cons (pe_ifExp (pt_cmpR op_gt (pe_call (ok_law_take T) (hr.mono (by decide)) (by rfl) T.m_law_take T.F_law_take.kp (B_law_take T) .nil pass0 (pa_cons (pv 0) (pa_cons pe_int pa_nil))) pe_int (nomark _)) (pe_ix ix_list (pv 1) (pe_call (ok_law_take T) (hr.mono (by decide)) (by rfl) T.m_law_take T.F_law_take.kp (B_law_take T) .nil pass0 (pa_cons (pv 0) (pa_cons (pe_callB (call_min2 rfl) (by rfl) T.z_min (by decide +kernel) (pa_cons (pe_callB call_len (by rfl) T.z_len (by decide +kernel) (pa_cons (pv 1) pa_nil)) (pa_cons pe_int pa_nil))) pa_nil))) (fun _ _ => rfl)) (pe_call (ok_law_pick T) (hr.mono (by decide)) (by rfl) T.m_law_pick T.F_law_pick.kp (B_law_pick T) .nil pass0 (pa_cons (pv 0) (pa_cons (pv 1) pa_nil)))) pa_nil)))))
    (pss_one (ps_ret (pe_call (ok_law_text T) (hr.mono (by decide)) (by rfl) T.m_law_text T.F_law_text.kp (B_law_text T) .nil pass0 (pa_cons (pv 3) pa_nil)))))), ?_⟩
    walk_at "wp"
    refine ⟨disp rfl, fun D hD => ?_⟩
    have nD := hB.ne hD
    have nDl : D ≠ l := Ne.symm (hL.ne hD)
    walk_at "wp"
    refine ⟨_, _, _, rfl, hB.new hD, by omega, by omega, fun n H1 n0 n1 s1 B1 => ?_⟩
    have L1 := (hL.same (Same.new (o := .lst []) hD)).but s1 nlb
    walk_at "wp"
    refine ⟨by omega, by omega, for_range (lo := 0) (n := n.toNat) (fun i σ H' => ∃ (o : Option V) (ns : List Int), σ = [some (.ref b), some (.ref l), some (.int m), some (.ref D), o] ∧ ns.length = i ∧ (∀ z ∈ ns, 0 ≤ z ∧ z < 96) ∧ H' D = some (.lst (ns.map V.int)) ∧ Bag H' b c ∧ But b H H' ∧ Lets H' l) ⟨none, [], rfl, rfl, by simp, s1 _ _ nD.1 upd_same, B1, (But.new hD).trans s1, L1⟩ ?_ ?_⟩
    · rintro i σ H2 hi ⟨o, ns, rfl, hl, hn, e, B2, s2, L2⟩
      walk_at "wp"
      refine ⟨_, _, _, rfl, B2, by decide, by decide, fun k1 H3 k10 k11 s3 B3 => ?_⟩
      have L3 := L2.but s3 nlb
      have e3 := s3 _ _ nD.1 e
      walk_at "wp"
      refine brd (fun h1 => ?_) (fun h1 => ?_)
      · obtain ⟨ls, el, l0, l4, ln⟩ := id L3
        walk_at "wp"
        refine ⟨_, _, _, rfl, B3, ?_, ?_, fun k2 H4 k20 k21 s4 B4 => ?_⟩
        · rw [List.length_map]
          split <;> omega
        · split <;> omega
        obtain ⟨v, ev, v0, v1⟩ := atI_all k20 (by rw [List.length_map] at k21; split at k21 <;> omega) ln
        refine ⟨_, _, _, _, rfl, rfl, SqL.of (s4 _ _ nlb el), ev, ?_⟩
        have e4 := s4 _ _ nD.1 e3
        refine ⟨D, _, _, rfl, rfl, e4, by rw [List.length_map]; exact lt_line (by omega), ?_⟩
        refine ⟨_, ns ++ [v], rfl, by rw [List.length_append, hl]; rfl, fun y hy => ?_, ?_, B4.upd nD.1 nD.2, (s2.trans (s3.trans s4)).mut hD, (L3.but s4 nlb).upd (Ne.symm nDl)⟩
        · rcases List.mem_append.mp hy with h | h
          · exact hn y h
          · rw [List.mem_singleton.mp h]
            exact ⟨v0, v1⟩
        · rw [upd_same, List.map_append]
          rfl
      · walk_at "wp"
        refine ⟨_, _, _, rfl, B3, L3, nlb, fun v H4 v0 v1 s4 B4 => ?_⟩
        have e4 := s4 _ _ nD.1 e3
        refine ⟨D, _, _, rfl, rfl, e4, by rw [List.length_map]; exact lt_line (by omega), ?_⟩
        refine ⟨_, ns ++ [v], rfl, by rw [List.length_append, hl]; rfl, fun y hy => ?_, ?_, B4.upd nD.1 nD.2, (s2.trans (s3.trans s4)).mut hD, (L3.but s4 nlb).upd (Ne.symm nDl)⟩
        · rcases List.mem_append.mp hy with h | h
          · exact hn y h
          · rw [List.mem_singleton.mp h]
            exact ⟨v0, v1⟩
        · rw [upd_same, List.map_append]
          rfl
    · rintro σ H2 ⟨o, ns, rfl, hl, hn, e, B2, s2, L2⟩
      walk_at "wp"
      refine ⟨D, ns, rfl, SqL.of e, by omega, hn, fun s H3 h1 h2 h3 => ?_⟩
      exact q s H3 (by omega) h2 (s2.trans (.of h3)) (B2.same h3)
/-! ### all edits are tried -/
def sp_law_tried (K : PySem.W.Frag) : Sp := fun vs H Q _ => ∃ (s t : Str), vs = [.str s, .str t] ∧ s.length ≤ 1000 ∧ t.length ≤ 1000 ∧ IsLeast K Q H s t
theorem ok_law_tried (T : Txt K mg a) : FnOk P w K mg base CX0 1 a.law_tried a.law_tried_d ["one", "other"] (sp_law_tried K) := by
  refine T.F_law_tried.ok sc_law_tried (fun vs H Q E h => ?_) (fun cdv A outer σ0 H vs Q E hr h => ?_)
  · obtain ⟨s, t, rfl, _⟩ := h
    rfl
  · obtain ⟨s, t, rfl, ls, lt, q⟩ := h
    refine ⟨_, (pss_cons (ps_if (pt_cmpR op_eq (pv 0) (pv 1) (nomark _))
      (pss_one (ps_ret (pe_tup (pa_cons pe_int (pa_cons pe_int (pa_cons pe_str pa_nil))))))
      pss_nil)
    (pss_cons (ps_set (i := 2) sc_law_tried.nd rfl (.inl rfl) (pe_tup (pa_cons pe_int (pa_cons (pe_callB call_len (by rfl) T.z_len (by decide +kernel) (pa_cons (pv 0) pa_nil)) (pa_cons (pv 1) pa_nil)))))
    (pss_cons (ps_for PassesOwn.never rfl (pi_range1 (by rfl) T.z_range (pa_cons (pe_op op_add (pe_callB call_len (by rfl) T.z_len (by decide +kernel) (pa_cons (pv 0) pa_nil)) pe_int) pa_nil)) (pg_name (i := 3) sc_law_tried.nd rfl (.inl rfl))
      (pss_one (ps_for PassesOwn.never rfl (pi_range1 (by rfl) T.z_range (pa_cons (pe_op op_add (pe_op op_sub (pe_callB call_len (by rfl) T.z_len (by decide +kernel) (pa_cons (pv 0) pa_nil)) (pv 3)) pe_int) pa_nil)) (pg_name (i := 4) sc_law_tried.nd rfl (.inl rfl))
        (pss_cons (ps_set (i := 5) sc_law_tried.nd rfl (.inl rfl) (pe_op op_add (pe_op op_sub (pe_callB call_len (by rfl) T.z_len (by decide +kernel) (pa_cons (pv 1) pa_nil)) (pe_callB call_len (by rfl) T.z_len (by decide +kernel) (pa_cons (pv 0) pa_nil))) (pv 4)))
        (pss_cons (ps_set (i := 6) sc_law_tried.nd rfl (.inl rfl) (pe_slice sl_str (pv 1) (po_some (pv 3)) (po_some (pe_op op_add (pv 3) (pe_callB (call_max2 rfl) (by rfl) T.z_max (by decide +kernel) (pa_cons (pv 5) (pa_cons pe_int pa_nil)))))))
        (pss_one (ps_if (PW.pt (pw_and (pt_cmpR op_ge (pv 5) pe_int (nomark _)) (pw_and1 (pt_cmpR op_eq (pe_op op_add_str (pe_op op_add_str (pe_slice sl_str (pv 0) po_none (po_some (pv 3))) (pv 6)) (pe_slice sl_str (pv 0) (po_some (pe_op op_add (pv 3) (pv 4))) po_none)) (pv 1) (nomark _)))))
          (pss_one (ps_if (pt_cmpR op_le (pe_op op_add (pv 4) (pv 5)) (pe_op op_add (pe_ix ix_tup (pv 2) pe_int (fun _ _ => rfl)) (pe_callB call_len (by rfl) T.z_len (by decide +kernel) (pa_cons (pe_ix ix_tup (pv 2) pe_int (fun _ _ => rfl)) pa_nil))) (nomark _))
            (pss_one (ps_set (i := 2) sc_law_tried.nd rfl (.inl rfl) (pe_tup (pa_cons (pv 3) (pa_cons (pv 4) (pa_cons (pv 6) pa_nil))))))
            pss_nil))
          pss_nil)))))))
    (pss_one (ps_ret (pv 2)))))), ?_⟩
    walk_at "wp"
    refine brd (fun h1 => ?_) (fun h1 => ?_)
    · cases h1
      walk_at "wp"
      refine ⟨disp rfl, fun b hb => ?_⟩
      exact q 0 0 "" b _ Least.refl (Same.new hb) (.of upd_same)
    · walk_at "wp"
      refine ⟨disp rfl, fun b hb => ?_⟩
      walk_at "wp"
      refine ⟨by omega, by omega, for_range (lo := 0) (n := ((s.length : Int) + 1).toNat) (fun i σ H' => ∃ (B : Addr) (p r : Nat) (j : Str) (o3 o4 o5 o6 : Option V), σ = [some (.str s), some (.str t), some (.ref B), o3, o4, o5, o6] ∧ Same H H' ∧ H' B = some (.tup [.int p, .int r, .str j]) ∧ BestTo s t p r j i 0) ⟨b, 0, s.length, t, none, none, none, none, rfl, Same.new hb, upd_same, BestTo.start⟩ ?_ ?_⟩
      · rintro i σ H2 hi ⟨B, p, r, j, o3, o4, o5, o6, rfl, sm, eB, bt⟩
        have hi' : i ≤ s.length := by omega
        rw [Int.zero_add]
        walk_at "wp"
        refine ⟨by omega, by omega, for_range (lo := 0) (n := ((s.length : Int) - (i : Int) + 1).toNat) (fun k σ H' => ∃ (B : Addr) (p r : Nat) (j : Str) (o4 o5 o6 : Option V), σ = [some (.str s), some (.str t), some (.ref B), some (.int (i : Int)), o4, o5, o6] ∧ Same H H' ∧ H' B = some (.tup [.int p, .int r, .str j]) ∧ BestTo s t p r j i k) ⟨B, p, r, j, o4, o5, o6, rfl, sm, eB, bt⟩ ?_ ?_⟩
        · rintro k σ H3 hk ⟨B, p, r, j, o4, o5, o6, rfl, sm, eB, bt⟩
          have hk' : i + k ≤ s.length := by omega
          rw [Int.zero_add]
          walk_at "wp"
          refine ⟨le_line (by omega), ?_⟩
          walk_at "wp"
          refine brd (fun h2 => ?_) (fun h2 => ?_)
          · obtain ⟨m, hm⟩ := Int.eq_ofNat_of_zero_le (a := (t.length : Int) - s.length + k) (by omega)
            simp only [hm] at h2 ⊢
            have em : (if (0 : Int) > (m : Int) then (0 : Int) else (m : Int)) = m := if_neg (by omega)
            rw [em]
            walk_at "wp"
            refine ⟨le_line (by omega), ?_⟩
            walk_at "wp"
            have c1 := cutS_length s none (some (i : Int))
            have c2 := cutS_length t (some (i : Int)) (some ((i : Int) + m))
            have c3 := cutS_length s (some ((i : Int) + k)) none
            refine ⟨le_line (by omega), ?_⟩
            walk_at "wp"
            refine ⟨le_line (by omega), ?_⟩
            refine ⟨_, _, rfl, rfl, le_line (by rw [strLen_append]; omega), ?_⟩
            walk_at "wp"
            refine brd (fun h3 => ?_) (fun h3 => ?_)
            · have v : Val s t i k (tookOut t i m) := ⟨hk', V.str.inj h3⟩
              have vl := v.tried.1
              have vj := bt.val.len
              have vj1 := bt.val.1
              walk_at "wp"
              refine brd (fun h4 => ?_) (fun h4 => ?_)
              · walk_at "wp"
                refine ⟨disp rfl, fun b2 hb2 => ?_⟩
                walk_at "wp"
                exact ⟨b2, i, k, tookOut t i m, _, _, _, rfl, sm.trans (Same.new hb2), upd_same, bt.take v (by omega)⟩
              · walk_at "wp"
                exact ⟨B, p, r, j, _, _, _, rfl, sm, eB, bt.keep v (by omega)⟩
            · have no : ∀ x, ¬ Val s t i k x := fun x v => h3 (congrArg V.str (by
                have e1 := v.tried.1
                have e2 := v.ins
                have e3 : x.length = m := by omega
                rw [e3] at e2
                have e4 := v.2
                rw [e2] at e4
                exact e4))
              walk_at "wp"
              exact ⟨B, p, r, j, _, _, _, rfl, sm, eB, bt.skip no⟩
          · have no : ∀ x, ¬ Val s t i k x := fun x v => by have := v.tried.1; omega
            walk_at "wp"
            exact ⟨B, p, r, j, _, _, _, rfl, sm, eB, bt.skip no⟩
        · rintro σ H3 ⟨B, p, r, j, o4, o5, o6, rfl, sm, eB, bt⟩
          rw [show ((s.length : Int) - (i : Int) + 1).toNat = s.length - i + 1 by omega] at bt
          walk_at "wp"
          exact ⟨B, p, r, j, _, _, _, _, rfl, sm, eB, bt.next⟩
      · rintro σ H2 ⟨B, p, r, j, o3, o4, o5, o6, rfl, sm, eB, bt⟩
        rw [show ((s.length : Int) + 1).toNat = s.length + 1 by omega] at bt
        walk_at "wp"
        exact q _ _ _ B H2 (bt.least fun e => h1 (congrArg V.str e)) sm (.of eB)
/-! ### what is refused -/
/-- what the except suite tells of a refused value -/
abbrev Told (Q : VK) (H : Hp) (w : Str) (z : PyData) : Prop := Shw z ∧ ∀ H', Same H H' → Q (.str (w ++ z.shown)) H'
def sp_law_refused (K : PySem.W.Frag) : Sp := fun vs H Q _ => ∃ (x y : V) (d : PyData) (t : Bool), vs = [x, y, .bl t] ∧ Pd (In H) x d ∧
  if t = true then ∃ (ya : Addr) (us : List V) (es : List PyData), y = .ref ya ∧ (SqL K H ya us ∨ SqT K H ya us) ∧ PdAll (In H) us es ∧ (∀ s, d = .str s → s.length + 10 * es.length ≤ 90000) ∧ (∀ e ∈ es, ∀ p r i, e = .tuple [p, r, .str i] → i.length ≤ 10) ∧
      ((isTxtD d = false ∧ Told Q H "text " d) ∨ (∃ s k e, d = .str s ∧ okText s = true ∧ rowGo s es 0 = .error k ∧ es[k]? = some e ∧ Told Q H "edit " e))
    else ∃ e, Pd (In H) y e ∧ (∀ s, d = .str s → s.length ≤ 100000) ∧ (∀ s, e = .str s → s.length ≤ 100000) ∧ ((isTxtD d = false ∧ Told Q H "text " d) ∨ (isTxtD d = true ∧ isTxtD e = false ∧ Told Q H "text " e))
theorem ok_law_refused (T : Txt K mg a) : FnOkT P w K mg base CX0 6 a.law_refused a.law_refused_d ["one", "other", "joined"] (sp_law_refused K) := by
  refine T.F_law_refused.okT sc_law_refused (fun vs H Q E h => ?_) (fun cdv A outer s H vs Q E hg hr h => ?_)
  · obtain ⟨x, y, d, t, rfl, _⟩ := h
    rfl
  · obtain ⟨x, y, d, t, rfl, hx, q⟩ := h
    refine ⟨_, (psst_cons (pst_try_as (i := 3) rfl rfl sc_law_refused.nd rfl rfl ⟨rfl, by decide, .inl T.m_TreeError⟩ takes0 (fun W pn xe tk _ =>
      (CwR.psst_one (pst_ifT (PTT.of (pt_val (pv 2)))
        (CwR.psst_one (pst_expr (pet_callS hg (ok_joined_edits T) (hr.mono (by decide)) (by rfl) T.m_joined_edits T.F_joined_edits.kp (B_joined_edits T) (fun σ => passAt tk σ) (PAT.of (pa_cons (pv 0) (pa_cons (pv 1) pa_nil))))))
        (CwR.psst_one (pst_expr (pet_callS hg (ok_least_edit T) (hr.mono (by decide)) (by rfl) T.m_least_edit T.F_least_edit.kp (B_least_edit T) (fun σ => passAt tk σ) (PAT.of (pa_cons (pv 0) (pa_cons (pv 1) pa_nil))))))))) (fun ea oe cls d pn hz hf =>
      (pss_cons (ps_if (pt_not (pt_val (pe_callE (ok_law_lone T) List.mem_cons_self hz hf ⟨(hr.mono (j := 1) (by decide)).dp, (hr.mono (j := 1) (by decide)).un⟩ (by rfl) T.m_law_lone T.F_law_lone.kp (B_law_lone T) (pa_cons (pv 3) pa_nil))))
        (pss_one (ps_ret pe_str))
        pss_nil)
      (pss_cons (ps_if (pt_val (pe_callB (call_isE2 hz hf) (by rfl) T.z_isinstance (by decide +kernel) (pa_cons (pv 3) (pa_cons (pe_glob (v := .ref a.InvalidText) (by rfl) T.m_InvalidText rfl) pa_nil))))
        (pss_one (ps_ret (pe_op op_add_str pe_str (pe_callB (show CallR _ (.builtin "repr") (rRepr K) by exact call_reprD hg hr.units) (by rfl) T.z_repr (by decide +kernel) (pa_cons (pe_xf T.e_InvalidText.xf T.n_InvalidText_value hz hf (pv 3)) pa_nil)))))
        pss_nil)
      (pss_one (ps_ret (pe_ifExp (pt_val (pe_callB (call_isE2 hz hf) (by rfl) T.z_isinstance (by decide +kernel) (pa_cons (pv 3) (pa_cons (pe_glob (v := .ref a.InvalidEdit) (by rfl) T.m_InvalidEdit rfl) pa_nil)))) (pe_op op_add_str pe_str (pe_callB (show CallR _ (.builtin "repr") (rRepr K) by exact call_reprD hg hr.units) (by rfl) T.z_repr (by decide +kernel) (pa_cons (pe_xf T.e_InvalidEdit.xf T.n_InvalidEdit_value hz hf (pv 3)) pa_nil))) pe_str)))))))
    (PSsT.of (pss_one (ps_ret pe_str)))), ?_⟩
    have l5 : ("text " : Str).length = 5 := by decide +kernel
    have l6 : ("edit " : Str).length = 5 := by decide +kernel
    walk_at "wp"
    cases t
    · refine brF rfl ?_
      rw [if_neg (by decide)] at q
      obtain ⟨e, hy, sx, sy, q⟩ := q
      refine ⟨_, rfl, _, rfl, x, y, d, e, rfl, hx, hy, sx, sy, fun h1 dx H' h2 h3 h4 => ?_, fun s es os h1 dx H' h2 h3 h4 => ?_, fun s t es et os ot => ?_⟩
      · obtain ⟨_, shx, q⟩ | ⟨h5, _⟩ := q
        · refine ⟨true, T.e_InvalidText.em, fun _ ea he => ?_, fun h => nomatch h⟩
          walk_at "wp"
          refine ⟨_, _, _, rfl, rfl, T.e_InvalidText.c, h3, .inl rfl, true, rfl, ?_⟩
          refine brF rfl ?_
          walk_at "wp"
          refine ⟨_, _, _, _, _, _, rfl, rfl, T.e_InvalidText.c, h3, rfl, fun u hu => hu, kit_self, ?_⟩
          walk_at "wp"
          refine ⟨_, _, _, rfl, h3, rfl, ?_⟩
          have hn := shx.len
          refine ⟨_, d, rfl, Pd.dp d x (hx.same h4), shx.show_, shx.nod, shx.dep, le_line (by omega), ?_⟩
          exact ⟨_, _, rfl, rfl, le_line (by omega), q _ h4⟩
        · rw [h5] at h1
          cases h1
      · subst es
        obtain ⟨h5, _⟩ | ⟨_, h5, shx, q⟩ := q
        · rw [show isTxtD (.str s) = okText s from rfl, os] at h5
          cases h5
        · refine ⟨true, T.e_InvalidText.em, fun _ ea he => ?_, fun h => nomatch h⟩
          walk_at "wp"
          refine ⟨_, _, _, rfl, rfl, T.e_InvalidText.c, h3, .inl rfl, true, rfl, ?_⟩
          refine brF rfl ?_
          walk_at "wp"
          refine ⟨_, _, _, _, _, _, rfl, rfl, T.e_InvalidText.c, h3, rfl, fun u hu => hu, kit_self, ?_⟩
          walk_at "wp"
          refine ⟨_, _, _, rfl, h3, rfl, ?_⟩
          have hn := shx.len
          refine ⟨_, e, rfl, Pd.dp e y (hy.same h4), shx.show_, shx.nod, shx.dep, le_line (by omega), ?_⟩
          exact ⟨_, _, rfl, rfl, le_line (by omega), q _ h4⟩
      · subst es et
        obtain ⟨h5, _⟩ | ⟨_, h5, _⟩ := q
        · rw [show isTxtD (.str s) = okText s from rfl, os] at h5
          cases h5
        · rw [show isTxtD (.str t) = okText t from rfl, ot] at h5
          cases h5
    · refine brT rfl ?_
      rw [if_pos rfl] at q
      obtain ⟨ya, us, es, rfl, hrow, hy, sx, sy, q⟩ := q
      refine ⟨_, rfl, _, rfl, x, ya, d, us, es, rfl, hx, hrow, hy, sx, sy, fun h1 dx H' h2 h3 h4 => ?_, fun s k v ed os h1 hv dx H' h2 h3 h4 => ?_, fun s t es os h1 => ?_⟩
      · obtain ⟨_, shx, q⟩ | ⟨s, k, e, rfl, os, _⟩ := q
        · refine ⟨true, T.e_InvalidText.em, fun _ ea he => ?_, fun h => nomatch h⟩
          walk_at "wp"
          refine ⟨_, _, _, rfl, rfl, T.e_InvalidText.c, h3, .inl rfl, true, rfl, ?_⟩
          refine brF rfl ?_
          walk_at "wp"
          refine ⟨_, _, _, _, _, _, rfl, rfl, T.e_InvalidText.c, h3, rfl, fun u hu => hu, kit_self, ?_⟩
          walk_at "wp"
          refine ⟨_, _, _, rfl, h3, rfl, ?_⟩
          have hn := shx.len
          refine ⟨_, d, rfl, Pd.dp d x (hx.same h4), shx.show_, shx.nod, shx.dep, le_line (by omega), ?_⟩
          exact ⟨_, _, rfl, rfl, le_line (by omega), q _ h4⟩
        · rw [show isTxtD (.str s) = okText s from rfl, os] at h1
          cases h1
      · subst ed
        obtain ⟨h5, _⟩ | ⟨s', k', e, es', os', h5, he, shx, q⟩ := q
        · rw [show isTxtD (.str s) = okText s from rfl, os] at h5
          cases h5
        · cases es'
          rw [h1] at h5
          cases h5
          obtain ⟨e', he', pv⟩ := hy.get hv
          rw [he] at he'
          cases he'
          refine ⟨true, T.e_InvalidEdit.em, fun _ ea he => ?_, fun h => nomatch h⟩
          walk_at "wp"
          refine ⟨_, _, _, rfl, rfl, T.e_InvalidEdit.c, h3, .inr rfl, true, rfl, ?_⟩
          refine brF rfl ?_
          walk_at "wp"
          refine ⟨_, _, _, _, _, _, rfl, rfl, T.e_InvalidEdit.c, h3, rfl, fun u hu => hu, T.k_Edit_InvalidText, ?_⟩
          walk_at "wp"
          refine ⟨_, _, _, _, _, _, rfl, rfl, T.e_InvalidEdit.c, h3, rfl, fun u hu => hu, kit_self, ?_⟩
          walk_at "wp"
          refine ⟨_, _, _, rfl, h3, rfl, ?_⟩
          have hn := shx.len
          refine ⟨_, e, rfl, Pd.dp e v (pv.same h4), shx.show_, shx.nod, shx.dep, le_line (by omega), ?_⟩
          exact ⟨_, _, rfl, rfl, le_line (by omega), q _ h4⟩
      · subst es
        obtain ⟨h5, _⟩ | ⟨s', k, e, es', os', h5, _⟩ := q
        · rw [show isTxtD (.str s) = okText s from rfl, os] at h5
          cases h5
        · cases es'
          rw [h1] at h5
          cases h5

/-! ### texts in a law: good ones, bad ones -/
theorem Txt1.ok {s : Str} (h : Txt1 s) : okText s = true := by
  rw [okText_eq]
  refine List.all_eq_true.mpr fun c hc => ?_
  have h1 := List.all_eq_true.mp h c hc
  refine okSign_small c ?_ ?_
  · unfold sgn at h1
    simp only [Bool.or_eq_true, Bool.and_eq_true, beq_iff_eq, decide_eq_true_eq] at h1
    omega
  · unfold sgn at h1
    simp only [Bool.or_eq_true, Bool.and_eq_true, beq_iff_eq, decide_eq_true_eq] at h1 ⊢
    omega
theorem okText_lt {s : Str} (h : okText s = true) : ∀ c ∈ s.cps.toList, c < 16 ^ 8 := fun c hc => by
  rw [okText_eq] at h
  have h1 := List.all_eq_true.mp h c hc
  unfold okSign at h1
  simp only [Bool.and_eq_true, decide_eq_true_eq] at h1
  have : (16 : Nat) ^ 8 = 4294967296 := by decide
  omega
theorem shwS {s : Str} (h : ∀ c ∈ s.cps.toList, c < 16 ^ 8) (hl : s.length ≤ 5000) : Shw (.str s) := .of (by simpa only [okD] using h) (by simp only [cost]; omega) (Nat.le_of_ble_eq_true rfl)
theorem okText_sub {s o : Str} (h : okText s = true) (g : ∀ c ∈ o.cps.toList, c ∈ s.cps.toList) : okText o = true := by
  rw [okText_eq] at *
  exact List.all_eq_true.mpr fun c hc => List.all_eq_true.mp h c (g c hc)
theorem cut_sub {s : Str} {lo hi : Option Int} : ∀ c ∈ (cutS s lo hi).cps.toList, c ∈ s.cps.toList := fun c hc => List.mem_of_mem_drop (List.mem_of_mem_take (show c ∈ (s.cps.toList.drop _).take _ from hc))
theorem cut_short {s : Str} {k : Nat} : (cutS s none (some (k : Int))).length ≤ k := by
  rw [len_cps]
  show ((s.cps.toList.drop (HT.sIx s.length 0 none)).take (HT.sIx s.length s.length (some (k : Int)) - HT.sIx s.length 0 none)).length ≤ k
  rw [HT.sIx_nat, HT.sIx_none, List.length_take]
  omega
theorem okStr {s : Str} (h : s.cps.toList.all (fun c => decide (c < 4294967296)) = true) : okD (.str s) := by
  simp only [okD]
  intro c hc
  exact of_decide_eq_true (List.all_eq_true.mp h c hc)
theorem okInt {i : Int} (h : -100000000 < i ∧ i < 100000000) : okD (.int i) := by
  simp only [okD]
  omega
theorem okT3 {a b c : PyData} (ha : okD a) (hb : okD b) (hc : okD c) : okD (.tuple [a, b, c]) := by simp only [okD, okAll]; exact ⟨ha, hb, hc, trivial⟩
theorem okL3 {a b c : PyData} (ha : okD a) (hb : okD b) (hc : okD c) : okD (.list [a, b, c]) := by simp only [okD, okAll]; exact ⟨ha, hb, hc, trivial⟩
theorem okL1 {a : PyData} (ha : okD a) : okD (.list [a]) := by simp only [okD, okAll]; exact ⟨ha, trivial⟩
theorem okT2 {a b : PyData} (ha : okD a) (hb : okD b) : okD (.tuple [a, b]) := by simp only [okD, okAll]; exact ⟨ha, hb, trivial⟩
theorem okT0 : okD (.tuple []) := by simp only [okD, okAll]
theorem okT4 {a b c d : PyData} (ha : okD a) (hb : okD b) (hc : okD c) (hd : okD d) : okD (.tuple [a, b, c, d]) := by simp only [okD, okAll]; exact ⟨ha, hb, hc, hd, trivial⟩
theorem isEdit_mk {n pl r : Nat} {s : Str} (h : pl + r ≤ n) (hs : okText s = true) : isEditD (n : Int) (.tuple [.int pl, .int r, .str s]) = true := by
  show (decide ((0 : Int) ≤ pl) && decide ((0 : Int) ≤ r) && okText s && decide ((pl : Int) + r ≤ n)) = true
  rw [decide_eq_true (by omega), decide_eq_true (by omega), hs, decide_eq_true (by omega)]
  rfl
theorem pdE {R : Addr → HO → Prop} {z : Addr} {p r : Int} {i : Str} (h : R z (.tup [.int p, .int r, .str i])) : Pd R (.ref z) (.tuple [.int p, .int r, .str i]) := .tup h (.cons (.int _) (.cons (.int _) (.cons (.str _) .nil)))
theorem _root_.Al.PdAll.at {R : Addr → HO → Prop} {vs : List V} {ds : List PyData} {i : Int} (h : PdAll R vs ds) (h0 : 0 ≤ i) (h1 : i < vs.length) : ∃ v d, atI vs i = some v ∧ d ∈ ds ∧ Pd R v d := by
  have hj : i.toNat < vs.length := by omega
  obtain ⟨d, m, q⟩ := h.mem (List.getElem?_eq_getElem hj)
  exact ⟨_, d, atI_of (j := i.toNat) (by omega) (List.getElem?_eq_getElem hj), m, q⟩
/-- what is no text -/
structure BadT (d : PyData) : Prop where
  no : isTxtD d = false
  shw : Shw d
  low : ∀ s, d = .str s → s.length ≤ 5000
theorem BadT.short {d : PyData} (h : BadT d) : ∀ s, d = .str s → s.length ≤ 100000 := fun s e => Nat.le_trans (h.low s e) (by decide)
theorem badT_all {t : Str} {i : Int} (hi : 0 ≤ i ∧ i < 100) (h : okText t = true) (hl : t.length ≤ 2000) : ∀ d ∈ [PyData.str (t ++ "\t"), .none, .int i, .list [.str t]], BadT d := by
  have l7 : ("\t" : Str).length = 1 := by decide +kernel
  have e7 : ("\t" : Str).cps.toList = [9] := by decide +kernel
  have hl2 : (t ++ ("\t" : Str)).length ≤ 2001 := by
    rw [strLen_append]
    omega
  intro d hd
  simp only [List.mem_cons, List.not_mem_nil, or_false] at hd
  rcases hd with rfl | rfl | rfl | rfl
  · refine ⟨?_, shwS ?_ (by omega), fun s e => by cases e; omega⟩
    · show okText _ = false
      rw [okText_eq, Str.cps_append, Array.toList_append, e7, List.all_append]
      have : okSign 9 = false := by decide +kernel
      simp [this]
    · intro c hc
      rw [Str.cps_append, Array.toList_append, e7] at hc
      rcases List.mem_append.mp hc with h1 | h1
      · exact okText_lt h c h1
      · rw [List.mem_singleton.mp h1]
        decide
  · exact ⟨rfl, .of (by simp only [okD]) (by simp only [cost]; decide) (Nat.le_of_ble_eq_true rfl), fun s e => nomatch e⟩
  · exact ⟨rfl, .of (by simp only [okD]; omega) (by simp only [cost]; decide) (Nat.le_of_ble_eq_true rfl), fun s e => nomatch e⟩
  · exact ⟨rfl, .of (by simp only [okD, okAll]; exact ⟨okText_lt h, trivial⟩) (by simp only [cost, costAll]; omega) (Nat.le_of_ble_eq_true rfl), fun s e => nomatch e⟩
theorem flat3 {a b a' b' : Int} {c c' : Str} : ∀ (i : Nat) (u v : V), [V.int a, .int b, .str c][i]? = some u → [V.int a', .int b', .str c'][i]? = some v → Flat u v
  | 0, _, _, h, g => .inl ⟨_, _, (Option.some.inj h).symm, (Option.some.inj g).symm⟩
  | 1, _, _, h, g => .inl ⟨_, _, (Option.some.inj h).symm, (Option.some.inj g).symm⟩
  | 2, _, _, h, g => .inr (.inr ⟨_, _, (Option.some.inj h).symm, (Option.some.inj g).symm⟩)
  | i + 3, _, _, h, g => by cases h

/-! ### the law -/
/-- an edit as it stands in the heap -/
abbrev Bk := Addr × Nat × Nat × Str
def Bk.tup (x : Bk) : HO := .tup [.int x.2.1, .int x.2.2.1, .str x.2.2.2]
def Bk.dat (x : Bk) : PyData := .tuple [.int x.2.1, .int x.2.2.1, .str x.2.2.2]
/-- the texts that the edits lead through -/
structure Chain (f : Str) (tx : List Str) (eds : List Bk) : Prop where
  len : tx.length = eds.length + 1
  go : ∀ j t, tx[j]? = some t → rowGo f ((eds.take j).map Bk.dat) 0 = .ok t ∧ okText t = true ∧ t.length ≤ 18 + 3 * j
  sz : ∀ x ∈ eds, x.2.2.2.length ≤ 3
theorem Chain.start {f : Str} (h : okText f = true) (l : f.length ≤ 18) : Chain f [f] [] := by
  refine ⟨rfl, fun j t e => ?_, fun x h => nomatch h⟩
  cases j with
  | zero =>
    cases e
    exact ⟨rfl, h, by omega⟩
  | succ j => cases e
theorem Chain.push {f t : Str} {tx : List Str} {eds : List Bk} {x : Bk} (c : Chain f tx eds) (e : tx[eds.length]? = some t) (h : x.2.1 + x.2.2.1 ≤ t.length) (o : okText x.2.2.2 = true) (l : x.2.2.2.length ≤ 3) : Chain f (tx ++ [putIn t x.2.1 x.2.2.1 x.2.2.2]) (eds ++ [x]) := by
  have hl := c.len
  obtain ⟨g1, g2, g3⟩ := c.go _ _ e
  refine ⟨by rw [List.length_append, List.length_append, hl]; rfl, fun j u eu => ?_, fun y hy => ?_⟩
  · by_cases hj : j < tx.length
    · rw [List.getElem?_append_left hj] at eu
      rw [List.take_append_of_le_length (by omega)]
      exact c.go j u eu
    · have hj2 : j = eds.length + 1 := by
        have := (List.getElem?_eq_some_iff.mp eu).1
        rw [List.length_append] at this
        simp only [List.length_cons, List.length_nil] at this
        omega
      subst hj2
      rw [List.getElem?_append_right (by omega), hl, Nat.sub_self] at eu
      cases eu
      have hp := putIn_length (i := x.2.2.2) h
      refine ⟨?_, okText_put h g2 o, by omega⟩
      rw [List.take_of_length_le (by rw [List.length_append]; exact Nat.le_refl _), List.map_append]
      rw [List.take_length] at g1
      rw [rowGo_append g1]
      show rowGo t [Bk.dat x] _ = _
      unfold rowGo
      rw [if_pos (show isEditD t.length (Bk.dat x) = true from isEdit_mk h o)]
      rfl
  · rcases List.mem_append.mp hy with hy | hy
    · exact c.sz y hy
    · rw [List.mem_singleton.mp hy]
      exact l
/-- bag, letters, the texts' list, the edits' list -/
structure Kq (b c l X D : Addr) (tx : List Str) (eds : List Bk) (H : Hp) : Prop where
  bag : Bag H b c
  lets : Lets H l
  nlb : l ≠ b
  txs : H X = some (.lst (tx.map V.str))
  lst : H D = some (.lst (eds.map fun x => .ref x.1))
  nXb : X ≠ b
  nXc : X ≠ c
  nXl : X ≠ l
  nXD : X ≠ D
  nDb : D ≠ b
  nDc : D ≠ c
  nDl : D ≠ l
  tups : ∀ x ∈ eds, H x.1 = some (Bk.tup x) ∧ x.1 ≠ b ∧ x.1 ≠ D ∧ x.1 ≠ X
theorem Kq.but {b c l X D : Addr} {tx : List Str} {eds : List Bk} {H H' : Hp} (k : Kq b c l X D tx eds H) (s : But b H H') (B : Bag H' b c) : Kq b c l X D tx eds H' :=
  ⟨B, k.lets.but s k.nlb, k.nlb, s _ _ k.nXb k.txs, s _ _ k.nDb k.lst, k.nXb, k.nXc, k.nXl, k.nXD, k.nDb, k.nDc, k.nDl, fun x hx => ⟨s _ _ (k.tups x hx).2.1 (k.tups x hx).1, (k.tups x hx).2⟩⟩
theorem Kq.same {b c l X D : Addr} {tx : List Str} {eds : List Bk} {H H' : Hp} (k : Kq b c l X D tx eds H) (s : Same H H') : Kq b c l X D tx eds H' := k.but (.of s) (k.bag.same s)
theorem Kq.new {b c l X D p : Addr} {tx : List Str} {eds : List Bk} {H : Hp} {o : HO} (n : H p = none) (k : Kq b c l X D tx eds H) : Kq b c l X D tx eds (upd H p o) := k.same (Same.new n)
theorem Kq.push {b c l X D : Addr} {tx : List Str} {eds : List Bk} {H : Hp} {x : Bk} (k : Kq b c l X D tx eds H) (hx : H x.1 = some (Bk.tup x)) (n1 : x.1 ≠ b) : Kq b c l X D tx (eds ++ [x]) (upd H D (.lst ((eds.map fun x => .ref x.1) ++ [.ref x.1]))) := by
  have n2 : x.1 ≠ D := fun e => by
    have := k.lst
    rw [← e, hx] at this
    cases this
  have n3 : x.1 ≠ X := fun e => by
    have := k.txs
    rw [← e, hx] at this
    cases this
  refine ⟨k.bag.upd k.nDb k.nDc, k.lets.upd (Ne.symm k.nDl), k.nlb, by rw [upd_ne k.nXD]; exact k.txs, by rw [upd_same, List.map_append]; rfl, k.nXb, k.nXc, k.nXl, k.nXD, k.nDb, k.nDc, k.nDl, fun y hy => ?_⟩
  rcases List.mem_append.mp hy with h | h
  · obtain ⟨e, m1, m2, m3⟩ := k.tups y h
    exact ⟨by rw [upd_ne m2]; exact e, m1, m2, m3⟩
  · rw [List.mem_singleton.mp h]
    exact ⟨by rw [upd_ne n2]; exact hx, n1, n2, n3⟩
theorem Kq.more {b c l X D : Addr} {tx : List Str} {eds : List Bk} {H : Hp} {t : Str} (k : Kq b c l X D tx eds H) : Kq b c l X D (tx ++ [t]) eds (upd H X (.lst (tx.map V.str ++ [.str t]))) := by
  refine ⟨k.bag.upd k.nXb k.nXc, k.lets.upd (Ne.symm k.nXl), k.nlb, by rw [upd_same, List.map_append]; rfl, by rw [upd_ne (Ne.symm k.nXD)]; exact k.lst, k.nXb, k.nXc, k.nXl, k.nXD, k.nDb, k.nDc, k.nDl, fun y hy => ?_⟩
  obtain ⟨e, m1, m2, m3⟩ := k.tups y hy
  exact ⟨by rw [upd_ne m3]; exact e, m1, m2, m3⟩
theorem Kq.rows {b c l X D : Addr} {tx : List Str} {eds : List Bk} {H : Hp} (k : Kq b c l X D tx eds H) : ∀ ys : List Bk, (∀ y ∈ ys, y ∈ eds) → PdAll (Off b H) (ys.map fun x => .ref x.1) (ys.map Bk.dat)
  | [], _ => .nil
  | y :: ys, h => .cons (pdE ⟨(k.tups y (h y (List.mem_cons_self ..))).1, (k.tups y (h y (List.mem_cons_self ..))).2.1⟩) (k.rows ys fun z hz => h z (List.mem_cons_of_mem _ hz))
theorem PdOff {b : Addr} {H : Hp} {vs : List V} {ds : List PyData} (h : PdAll (Off b H) vs ds) : PdAll (In H) vs ds := h.mono fun a o e => e.1
theorem Chain.short {f : Str} {tx : List Str} {eds : List Bk} (c : Chain f tx eds) : ∀ e ∈ eds.map Bk.dat, ∀ p r i, e = .tuple [p, r, .str i] → i.length ≤ 10 := by
  intro e he p r i h
  obtain ⟨x, hx, rfl⟩ := List.mem_map.mp he
  have := c.sz x hx
  cases h
  omega
theorem atI_last {α : Type} {xs : List α} {v : α} {n : Nat} (hl : xs.length = n + 1) (h : xs[n]? = some v) : atI xs (-1) = some v := by
  unfold atI ixN
  rw [if_neg (by decide), if_pos (by omega)]
  show xs[((-1 : Int) + xs.length).toNat]? = _
  rw [hl, show ((-1 : Int) + ((n + 1 : Nat) : Int)).toNat = n by omega]
  exact h
theorem l_good {C : Addr} {s t : Str} {H : Hp} {E : XK} {R : Str → Str → Prop} (os : okText s = true) (ot : okText t = true) (ls : s.length ≤ 1000) (lt : t.length ≤ 1000) (q : R s t) : LAsks C (.str s) (.str t) (.str s) (.str t) H E R := by
  refine ⟨.str _, .str _, fun u e => by cases e; omega, fun u e => by cases e; omega, fun e => ?_, fun u e _ e2 => ?_, fun u v e e' _ _ => ?_⟩
  · rw [show isTxtD (.str s) = okText s from rfl, os] at e
    cases e
  · rw [show isTxtD (.str t) = okText t from rfl, ot] at e2
    cases e2
  · cases e
    cases e'
    exact q
theorem j_good {Ct Ce : Addr} {s t : Str} {ya : Addr} {us : List V} {es : List PyData} {H : Hp} {E : XK} {R : Str → Str → Prop} (os : okText s = true) (ls : s.length ≤ 1000) (le : es.length ≤ 100) (hrow : SqL K H ya us ∨ SqT K H ya us) (hy : PdAll (In H) us es) (sy : ∀ e ∈ es, ∀ p r i, e = .tuple [p, r, .str i] → i.length ≤ 10) (g : rowGo s es 0 = .ok t) (q : R s t) :
    JAsks K Ct Ce (.str s) ya (.str s) us es H E R := by
  refine ⟨.str _, hrow, hy, fun u e => by cases e; omega, sy, fun e => ?_, fun u k v e _ e2 _ => ?_, fun u v e _ e2 => ?_⟩
  · rw [show isTxtD (.str s) = okText s from rfl, os] at e
    cases e
  · cases e
    rw [g] at e2
    cases e2
  · cases e
    rw [g] at e2
    cases e2
    exact q
theorem ref_F {x y : V} {d e : PyData} {H : Hp} {Q : VK} {E : XK} (hx : Pd (In H) x d) (hy : Pd (In H) y e) (sx : ∀ s, d = .str s → s.length ≤ 100000) (sy : ∀ s, e = .str s → s.length ≤ 100000) (q : (isTxtD d = false ∧ Told Q H "text " d) ∨ (isTxtD d = true ∧ isTxtD e = false ∧ Told Q H "text " e)) : sp_law_refused K [x, y, .bl false] H Q E :=
  ⟨x, y, d, false, rfl, hx, by rw [if_neg (by decide)]; exact ⟨e, hy, sx, sy, q⟩⟩
theorem ref_T {x : V} {ya : Addr} {d : PyData} {us : List V} {es : List PyData} {H : Hp} {Q : VK} {E : XK} (hx : Pd (In H) x d) (hr : SqL K H ya us ∨ SqT K H ya us) (hy : PdAll (In H) us es) (sx : ∀ s, d = .str s → s.length + 10 * es.length ≤ 90000) (sy : ∀ e ∈ es, ∀ p r i, e = .tuple [p, r, .str i] → i.length ≤ 10) (q : (isTxtD d = false ∧ Told Q H "text " d) ∨ (∃ s k e, d = .str s ∧ okText s = true ∧ rowGo s es 0 = .error k ∧ es[k]? = some e ∧ Told Q H "edit " e)) : sp_law_refused K [x, .ref ya, .bl true] H Q E :=
  ⟨x, .ref ya, d, true, rfl, hx, by rw [if_pos rfl]; exact ⟨ya, us, es, rfl, hr, hy, sx, sy, q⟩⟩
/-- pairs of texts -/
abbrev Pr := Addr × Str × Str
structure Prs (prs : List Pr) (E : Addr) (H : Hp) : Prop where
  at_ : H E = some (.tup (prs.map fun x => .ref x.1))
  all : ∀ x ∈ prs, H x.1 = some (.tup [.str x.2.1, .str x.2.2])
theorem Prs.of {b c l X D : Addr} {tx : List Str} {eds : List Bk} {prs : List Pr} {E : Addr} {H : Hp} (_ : Kq b c l X D tx eds H) (h1 : H E = some (.tup (prs.map fun x => .ref x.1))) (h2 : ∀ x ∈ prs, H x.1 = some (.tup [.str x.2.1, .str x.2.2]) ∧ okText x.2.1 = true ∧ okText x.2.2 = true ∧ x.2.1.length ≤ 100 ∧ x.2.2.length ≤ 100) :
    ∃ prs : List Pr, Prs prs E H ∧ ∀ x ∈ prs, okText x.2.1 = true ∧ okText x.2.2 = true ∧ x.2.1.length ≤ 100 ∧ x.2.2.length ≤ 100 := ⟨prs, ⟨h1, fun x hx => (h2 x hx).1⟩, fun x hx => (h2 x hx).2⟩
theorem Prs.same {prs : List Pr} {E : Addr} {H H' : Hp} (h : Prs prs E H) (s : Same H H') : Prs prs E H' := ⟨s _ _ h.at_, fun x hx => s _ _ (h.all x hx)⟩
/-- bad values beside -/
structure Bq (b c l X D : Addr) (tx : List Str) (eds : List Bk) (bv wv : V) (bd wd : PyData) (H : Hp) : Prop where
  kq : Kq b c l X D tx eds H
  pb : Pd (Off b H) bv bd
  pw : Pd (Off b H) wv wd
theorem Bq.but {b c l X D : Addr} {tx : List Str} {eds : List Bk} {bv wv : V} {bd wd : PyData} {H H' : Hp} (k : Bq b c l X D tx eds bv wv bd wd H) (s : But b H H') (B : Bag H' b c) : Bq b c l X D tx eds bv wv bd wd H' := ⟨k.kq.but s B, k.pb.but s, k.pw.but s⟩
theorem Bq.same {b c l X D : Addr} {tx : List Str} {eds : List Bk} {bv wv : V} {bd wd : PyData} {H H' : Hp} (k : Bq b c l X D tx eds bv wv bd wd H) (s : Same H H') : Bq b c l X D tx eds bv wv bd wd H' := k.but (.of s) (k.kq.bag.same s)
theorem badW_all : ∀ d ∈ [PyData.str "\t", .bool true, .tuple [.str "a"]], BadT d := by
  have st : okD (.str "\t") := okStr (by decide +kernel)
  have sa : okD (.str "a") := okStr (by decide +kernel)
  intro d hd
  simp only [List.mem_cons, List.not_mem_nil, or_false] at hd
  rcases hd with rfl | rfl | rfl
  · exact ⟨by decide +kernel, .of st (by simp only [cost]; decide +kernel) (Nat.le_of_ble_eq_true rfl), fun s e => by cases e; decide +kernel⟩
  · exact ⟨rfl, .of (by simp only [okD]) (by simp only [cost]; decide) (Nat.le_of_ble_eq_true rfl), fun s e => nomatch e⟩
  · exact ⟨rfl, .of (by simp only [okD, okAll]; exact ⟨by simpa only [okD] using sa, trivial⟩) (by simp only [cost, costAll]; decide +kernel) (Nat.le_of_ble_eq_true rfl), fun s e => nomatch e⟩
/-- wrong edits -/
def unfits (n : Int) : List PyData := [.tuple [.int (n + 1), .int 0, .str ""], .tuple [.int 0, .int (n + 1), .str "a"], .tuple [.int n, .int 1, .str ""], .list [.int 0, .int 0, .str ""], .tuple [.int 0, .int 0, .none], .none]
structure BadU (n : Int) (e : PyData) : Prop where
  no : isEditD n e = false
  shw : Shw e
  short : ∀ p r i, e = .tuple [p, r, .str i] → i.length ≤ 10
theorem unfit_all {n : Int} (n0 : 0 ≤ n) (n1 : n ≤ 1000) : ∀ e ∈ unfits n, BadU n e := by
  have i1 : ∀ {i : Int}, -100000000 < i ∧ i < 100000000 → okD (.int i) := okInt
  have sa : okD (.str "a") := okStr (by decide +kernel)
  have s0 : okD (.str "") := okStr (by decide +kernel)
  have sn : okD .none := by simp only [okD]
  have hs : ∀ (a b : PyData) (s : Str), s.length ≤ 10 → ∀ p r i, PyData.tuple [a, b, .str s] = .tuple [p, r, .str i] → i.length ≤ 10 := fun a b s h p r i e => by cases e; omega
  intro e he
  simp only [unfits, List.mem_cons, List.not_mem_nil, or_false] at he
  rcases he with rfl | rfl | rfl | rfl | rfl | rfl
  · refine ⟨?_, .of (okT3 (i1 (by omega)) (i1 (by omega)) s0) (by simp only [cost, costAll]; decide +kernel) (Nat.le_of_ble_eq_true rfl), hs _ _ _ (by decide +kernel)⟩
    show (_ && _ && _ && decide (n + 1 + 0 ≤ n)) = false
    rw [decide_eq_false (by omega), Bool.and_false]
  · refine ⟨?_, .of (okT3 (i1 (by omega)) (i1 (by omega)) sa) (by simp only [cost, costAll]; decide +kernel) (Nat.le_of_ble_eq_true rfl), hs _ _ _ (by decide +kernel)⟩
    show (_ && _ && _ && decide (0 + (n + 1) ≤ n)) = false
    rw [decide_eq_false (by omega), Bool.and_false]
  · refine ⟨?_, .of (okT3 (i1 (by omega)) (i1 (by omega)) s0) (by simp only [cost, costAll]; decide +kernel) (Nat.le_of_ble_eq_true rfl), hs _ _ _ (by decide +kernel)⟩
    show (_ && _ && _ && decide (n + 1 ≤ n)) = false
    rw [decide_eq_false (by omega), Bool.and_false]
  · exact ⟨rfl, .of (okL3 (i1 (by omega)) (i1 (by omega)) s0) (by simp only [cost, costAll]; decide +kernel) (Nat.le_of_ble_eq_true rfl), fun p r i e => nomatch e⟩
  · exact ⟨rfl, .of (okT3 (i1 (by omega)) (i1 (by omega)) sn) (by simp only [cost, costAll]; decide +kernel) (Nat.le_of_ble_eq_true rfl), fun p r i e => nomatch e⟩
  · exact ⟨rfl, .of sn (by simp only [cost, costAll]; decide +kernel) (Nat.le_of_ble_eq_true rfl), fun p r i e => nomatch e⟩
theorem row_err {f t : Str} {as bs : List PyData} {u : PyData} {k : Nat} (g : rowGo f as 0 = .ok t) (hk : as.length = k) (n : isEditD t.length u = false) : rowGo f (as ++ [u] ++ bs) 0 = .error k ∧ (as ++ [u] ++ bs)[k]? = some u := by
  subst hk
  constructor
  · rw [List.append_assoc, rowGo_append g, Nat.zero_add]
    show rowGo t (u :: bs) _ = _
    rw [rowGo, if_neg (by rw [n]; decide)]
  · rw [List.append_assoc, List.getElem?_append_right (Nat.le_refl _), Nat.sub_self]
    rfl
theorem cutV_take {xs : List V} {k : Nat} (h : k ≤ xs.length) : cutV xs none (some (k : Int)) = xs.take k := by
  show ((xs.drop (HT.sIx xs.length 0 none)).take (HT.sIx xs.length xs.length (some (k : Int)) - HT.sIx xs.length 0 none)) = _
  rw [HT.sIx_nat, HT.sIx_none, Nat.min_eq_left h, Nat.sub_zero, List.drop_zero]
theorem cutV_drop {xs : List V} {k : Nat} (h : k ≤ xs.length) : cutV xs (some (k : Int)) none = xs.drop k := by
  show ((xs.drop (HT.sIx xs.length 0 (some (k : Int)))).take (HT.sIx xs.length xs.length none - HT.sIx xs.length 0 (some (k : Int)))) = _
  rw [HT.sIx_nat, HT.sIx_none, Nat.min_eq_left h, List.take_of_length_le]
  rw [List.length_drop]
  exact Nat.le_refl _
theorem qT {Q : VK} {b : Bool} {H : Hp} (e : b = true) (q : Q (.bl true) H) : Q (.bl b) H := by
  rw [e]
  exact q
def sp_law (K : PySem.W.Frag) : Sp := fun vs H Q _ => ∃ (p : Addr) (ns : List Int), vs = [.ref p] ∧ SqL K H p (ns.map V.int) ∧ ns.length ≤ 63 ∧ ∀ H', Q (.bl true) H'
theorem ok_law (T : Txt K mg a) : FnOkN 0 P w K mg base CX0 7 a.law a.law_d ["script"] (sp_law K) := by
  refine T.F_law.okG sc_law (fun vs H Q E h => ?_) (fun cdv A outer s H vs Q E hg hr h => ?_)
  · obtain ⟨p, ns, rfl, _⟩ := h
    rfl
  · obtain ⟨p, ns, rfl, hS, hl, q⟩ := h
    refine ⟨_, (pss_cons (ps_set (i := 1) sc_law.nd rfl (.inl rfl) (pe_call (ok_law_bag T) (hr.mono (by decide)) (by rfl) T.m_law_bag T.F_law_bag.kp (B_law_bag T) .nil pass0 (pa_cons (pv 0) pa_nil)))
    (pss_cons (ps_set (i := 2) sc_law.nd rfl (.inl rfl) (pe_call (ok_law_letters T) (hr.mono (by decide)) (by rfl) T.m_law_letters T.F_law_letters.kp (B_law_letters T) .nil pass0 (pa_cons (pv 1) pa_nil)))
    (pssg_set (i := 3) sc_law.nd rfl (.inl rfl) (peg_call (ok_law_drawn T) (hr.mono (by decide)) (by rfl) T.m_law_drawn T.F_law_drawn.kp (B_law_drawn T) .nil pass0 (pag_tail (pv 1) (pag_tail (pv 2) (pag_head peg_int pa_nil))))
    (psst_cons (PST.of (ps_set (i := 4) sc_law.nd rfl (.inl rfl) (pe_lst (pa_cons (pv 3) pa_nil))))
    (psst_cons (PST.of (ps_set (i := 5) sc_law.nd rfl (.inl rfl) (pe_lst pa_nil)))
    (psst_cons (PST.of (ps_for PassesOwn.never rfl (pi_range1 (by rfl) T.z_range (pa_cons (pe_call (ok_law_take T) (hr.mono (by decide)) (by rfl) T.m_law_take T.F_law_take.kp (B_law_take T) .nil pass0 (pa_cons (pv 1) (pa_cons pe_int pa_nil))) pa_nil)) (pg_name (i := 6) sc_law.nd rfl (.inl rfl))
      (pss_cons (ps_set (i := 7) sc_law.nd rfl (.inl rfl) (pe_ix ix_list (pv 4) (pe_un un_neg pe_int) (fun _ _ => rfl)))
      (pss_cons (ps_set (i := 8) sc_law.nd rfl (.inl rfl) (pe_call (ok_law_take T) (hr.mono (by decide)) (by rfl) T.m_law_take T.F_law_take.kp (B_law_take T) .nil pass0 (pa_cons (pv 1) (pa_cons (pe_op op_add (pe_callB call_len (by rfl) T.z_len (by decide +kernel) (pa_cons (pv 7) pa_nil)) pe_int) pa_nil))))
      (pss_cons (ps_set (i := 9) sc_law.nd rfl (.inl rfl) (pe_call (ok_law_take T) (hr.mono (by decide)) (by rfl) T.m_law_take T.F_law_take.kp (B_law_take T) .nil pass0 (pa_cons (pv 1) (pa_cons (pe_op op_add (pe_callB (call_min2 rfl) (by rfl) T.z_min (by decide +kernel) (pa_cons (pe_op op_sub (pe_callB call_len (by rfl) T.z_len (by decide +kernel) (pa_cons (pv 7) pa_nil)) (pv 8)) (pa_cons pe_int pa_nil))) pe_int) pa_nil))))
      (pss_cons (ps_expr (pe_bm PySem.F.plainAttrs_list PySem.F.slot_list_append PySem.F.type_list_append mt_append (pv 5) (pa_cons (pe_tup (pa_cons (pv 8) (pa_cons (pv 9) (pa_cons (pe_call (ok_law_drawn T) (hr.mono (by decide)) (by rfl) T.m_law_drawn T.F_law_drawn.kp (B_law_drawn T) .nil pass0 (pa_cons (pv 1) (pa_cons (pv 2) (pa_cons pe_int pa_nil)))) pa_nil)))) pa_nil)))
      (pss_one (ps_expr (pe_bm PySem.F.plainAttrs_list PySem.F.slot_list_append PySem.F.type_list_append mt_append (pv 4) (pa_cons (pe_op op_add_str (pe_op op_add_str (pe_slice sl_str (pv 7) po_none (po_some (pv 8))) (pe_ix ix_tup (pe_ix ix_list (pv 5) (pe_un un_neg pe_int) (fun _ _ => rfl)) pe_int (fun _ _ => rfl))) (pe_slice sl_str (pv 7) (po_some (pe_op op_add (pv 8) (pv 9))) po_none)) pa_nil))))))))))
    (psst_cons (PST.of (ps_set (i := 10) sc_law.nd rfl (.inl rfl) (pe_ix ix_list (pv 4) (pe_un un_neg pe_int) (fun _ _ => rfl))))
    (psst_cut (PST.of (ps_set (i := 11) sc_law.nd rfl (.inl rfl) (pe_call (ok_law_drawn T) (hr.mono (by decide)) (by rfl) T.m_law_drawn T.F_law_drawn.kp (B_law_drawn T) .nil pass0 (pa_cons (pv 1) (pa_cons (pv 2) (pa_cons pe_int pa_nil))))))
    (psst_cut (pst_ifT (ptt_not (ptt_val (pet_call hg (FnOkN.of (ok_law_same T)) (hr.mono (by decide)) (by rfl) T.m_law_same T.F_law_same.kp (B_law_same T) .nil pass0 (pat_cons (pet_call hg (ok_joined_edits T) (hr.mono (by decide)) (by rfl) T.m_joined_edits T.F_joined_edits.kp (B_joined_edits T) .nil passE0 (PAT.of (pa_cons (pv 3) (pa_cons (pe_callTy call_list_of (by rfl) T.z_list (by decide +kernel) (pa_cons (pv 5) pa_nil)) pa_nil)))) (pat_cons (CwR.PET.of (pe_call (ok_law_tried T) (hr.mono (by decide)) (by rfl) T.m_law_tried T.F_law_tried.kp (B_law_tried T) .nil pass0 (pa_cons (pv 3) (pa_cons (pv 10) pa_nil)))) pat_nil)))))
      (PSsT.of (pss_one (ps_ret pe_bl)))
      CwR.psst_nil)
    (psst_cut (pst_ifT (ptt_not (ptt_val (pet_call hg (FnOkN.of (ok_law_same T)) (hr.mono (by decide)) (by rfl) T.m_law_same T.F_law_same.kp (B_law_same T) .nil pass0 (pat_cons (pet_call hg (ok_joined_edits T) (hr.mono (by decide)) (by rfl) T.m_joined_edits T.F_joined_edits.kp (B_joined_edits T) .nil passE0 (PAT.of (pa_cons (pv 3) (pa_cons (pe_callTy call_tuple_of (by rfl) T.z_tuple (by decide +kernel) (pa_cons (pv 5) pa_nil)) pa_nil)))) (pat_cons (CwR.PET.of (pe_call (ok_law_tried T) (hr.mono (by decide)) (by rfl) T.m_law_tried T.F_law_tried.kp (B_law_tried T) .nil pass0 (pa_cons (pv 3) (pa_cons (pv 10) pa_nil)))) pat_nil)))))
      (PSsT.of (pss_one (ps_ret pe_bl)))
      CwR.psst_nil)
    (psst_cons (pst_forT PassesOwn.never rfl (PIT.of (pi_tup (pe_tup (pa_cons (pe_tup (pa_cons (pv 3) (pa_cons (pv 10) pa_nil))) (pa_cons (pe_tup (pa_cons (pv 10) (pa_cons (pv 3) pa_nil))) (pa_cons (pe_tup (pa_cons (pv 11) (pa_cons (pv 10) pa_nil))) (pa_cons (pe_tup (pa_cons (pv 3) (pa_cons (pv 3) pa_nil))) (pa_cons (pe_tup (pa_cons (pv 3) (pa_cons pe_str pa_nil))) (pa_cons (pe_tup (pa_cons pe_str (pa_cons (pv 11) pa_nil))) pa_nil))))))))) (pg_name (i := 12) sc_law.nd rfl (.inl rfl))
      (CwR.psst_one (pst_ifT (ptt_not (ptt_val (pet_call hg (FnOkN.of (ok_law_same T)) (hr.mono (by decide)) (by rfl) T.m_law_same T.F_law_same.kp (B_law_same T) .nil pass0 (pat_cons (pet_call hg (ok_least_edit T) (hr.mono (by decide)) (by rfl) T.m_least_edit T.F_least_edit.kp (B_least_edit T) .nil passE0 (PAT.of (pa_cons (pe_ix ix_tup (pv 12) pe_int (fun _ _ => rfl)) (pa_cons (pe_ix ix_tup (pv 12) pe_int (fun _ _ => rfl)) pa_nil)))) (pat_cons (CwR.PET.of (pe_call (ok_law_tried T) (hr.mono (by decide)) (by rfl) T.m_law_tried T.F_law_tried.kp (B_law_tried T) .nil pass0 (pa_cons (pe_ix ix_tup (pv 12) pe_int (fun _ _ => rfl)) (pa_cons (pe_ix ix_tup (pv 12) pe_int (fun _ _ => rfl)) pa_nil)))) pat_nil)))))
        (PSsT.of (pss_one (ps_ret pe_bl)))
        CwR.psst_nil)))
    (psst_cons (PST.of (ps_set (i := 13) sc_law.nd rfl (.inl rfl) (pe_ix ix_list (pe_lst (pa_cons (pe_op op_add_str (pv 3) pe_str) (pa_cons pe_non (pa_cons pe_int (pa_cons (pe_lst (pa_cons (pv 3) pa_nil)) pa_nil))))) (pe_call (ok_law_take T) (hr.mono (by decide)) (by rfl) T.m_law_take T.F_law_take.kp (B_law_take T) .nil pass0 (pa_cons (pv 1) (pa_cons pe_int pa_nil))) (fun _ _ => rfl))))
    (psst_cut (PST.of (ps_set (i := 14) sc_law.nd rfl (.inl rfl) (pe_ix ix_list (pe_lst (pa_cons pe_str (pa_cons pe_bl (pa_cons (pe_tup (pa_cons pe_str pa_nil)) pa_nil)))) (pe_call (ok_law_take T) (hr.mono (by decide)) (by rfl) T.m_law_take T.F_law_take.kp (B_law_take T) .nil pass0 (pa_cons (pv 1) (pa_cons pe_int pa_nil))) (fun _ _ => rfl))))
    (psst_cut (pst_ifT (PWT.ptt (pwt_or (ptt_cmpR op_ne (pet_call hg (ok_law_refused T) (hr.mono (by decide)) (by rfl) T.m_law_refused T.F_law_refused.kp (B_law_refused T) .nil pass0 (PAT.of (pa_cons (pv 13) (pa_cons (pv 3) (pa_cons pe_bl pa_nil))))) (CwR.PET.of (pe_op op_add_str pe_str (pe_callB (show CallR _ (.builtin "repr") (rRepr K) by exact call_reprD hg hr.units) (by rfl) T.z_repr (by decide +kernel) (pa_cons (pv 13) pa_nil)))) (nomark _)) (pwt_or1 (ptt_cmpR op_ne (pet_call hg (ok_law_refused T) (hr.mono (by decide)) (by rfl) T.m_law_refused T.F_law_refused.kp (B_law_refused T) .nil pass0 (PAT.of (pa_cons (pv 3) (pa_cons (pv 13) (pa_cons pe_bl pa_nil))))) (CwR.PET.of (pe_op op_add_str pe_str (pe_callB (show CallR _ (.builtin "repr") (rRepr K) by exact call_reprD hg hr.units) (by rfl) T.z_repr (by decide +kernel) (pa_cons (pv 13) pa_nil)))) (nomark _)))))
      (PSsT.of (pss_one (ps_ret pe_bl)))
      CwR.psst_nil)
    (psst_cut (pst_ifT (PWT.ptt (pwt_or (ptt_cmpR op_ne (pet_call hg (ok_law_refused T) (hr.mono (by decide)) (by rfl) T.m_law_refused T.F_law_refused.kp (B_law_refused T) .nil pass0 (PAT.of (pa_cons (pv 13) (pa_cons (pv 14) (pa_cons pe_bl pa_nil))))) (CwR.PET.of (pe_op op_add_str pe_str (pe_callB (show CallR _ (.builtin "repr") (rRepr K) by exact call_reprD hg hr.units) (by rfl) T.z_repr (by decide +kernel) (pa_cons (pv 13) pa_nil)))) (nomark _)) (pwt_or1 (ptt_cmpR op_ne (pet_call hg (ok_law_refused T) (hr.mono (by decide)) (by rfl) T.m_law_refused T.F_law_refused.kp (B_law_refused T) .nil pass0 (PAT.of (pa_cons (pv 14) (pa_cons (pv 13) (pa_cons pe_bl pa_nil))))) (CwR.PET.of (pe_op op_add_str pe_str (pe_callB (show CallR _ (.builtin "repr") (rRepr K) by exact call_reprD hg hr.units) (by rfl) T.z_repr (by decide +kernel) (pa_cons (pv 14) pa_nil)))) (nomark _)))))
      (PSsT.of (pss_one (ps_ret pe_bl)))
      CwR.psst_nil)
    (psst_cons (PST.of (ps_set (i := 6) sc_law.nd rfl (.inl rfl) (pe_call (ok_law_take T) (hr.mono (by decide)) (by rfl) T.m_law_take T.F_law_take.kp (B_law_take T) .nil pass0 (pa_cons (pv 1) (pa_cons (pe_op op_add (pe_callB call_len (by rfl) T.z_len (by decide +kernel) (pa_cons (pv 5) pa_nil)) pe_int) pa_nil)))))
    (psst_cons (PST.of (ps_set (i := 15) sc_law.nd rfl (.inl rfl) (pe_callB call_len (by rfl) T.z_len (by decide +kernel) (pa_cons (pe_ix ix_list (pv 4) (pv 6) (fun _ _ => rfl)) pa_nil))))
    (psst_cut (PST.of (ps_set (i := 16) sc_law.nd rfl (.inl rfl) (pe_ix ix_list (pe_lst (pa_cons (pe_tup (pa_cons (pe_op op_add (pv 15) pe_int) (pa_cons pe_int (pa_cons pe_str pa_nil)))) (pa_cons (pe_tup (pa_cons pe_int (pa_cons (pe_op op_add (pv 15) pe_int) (pa_cons pe_str pa_nil)))) (pa_cons (pe_tup (pa_cons (pv 15) (pa_cons pe_int (pa_cons pe_str pa_nil)))) (pa_cons (pe_lst (pa_cons pe_int (pa_cons pe_int (pa_cons pe_str pa_nil)))) (pa_cons (pe_tup (pa_cons pe_int (pa_cons pe_int (pa_cons pe_non pa_nil)))) (pa_cons pe_non pa_nil))))))) (pe_call (ok_law_take T) (hr.mono (by decide)) (by rfl) T.m_law_take T.F_law_take.kp (B_law_take T) .nil pass0 (pa_cons (pv 1) (pa_cons pe_int pa_nil))) (fun _ _ => rfl))))
    (psst_cut (PST.of (ps_set (i := 17) sc_law.nd rfl (.inl rfl) (pe_op op_cat (pe_op op_cat (pe_slice sl_list (pv 5) po_none (po_some (pv 6))) (pe_lst (pa_cons (pv 16) pa_nil))) (pe_slice sl_list (pv 5) (po_some (pv 6)) po_none))))
    (psst_cut (pst_ifT (ptt_cmpR op_ne (pet_call hg (ok_law_refused T) (hr.mono (by decide)) (by rfl) T.m_law_refused T.F_law_refused.kp (B_law_refused T) .nil pass0 (PAT.of (pa_cons (pv 3) (pa_cons (pe_op op_cat (pv 17) (pe_lst (pa_cons pe_int pa_nil))) (pa_cons pe_bl pa_nil))))) (CwR.PET.of (pe_op op_add_str pe_str (pe_callB (show CallR _ (.builtin "repr") (rRepr K) by exact call_reprD hg hr.units) (by rfl) T.z_repr (by decide +kernel) (pa_cons (pv 16) pa_nil)))) (nomark _))
      (PSsT.of (pss_one (ps_ret pe_bl)))
      CwR.psst_nil)
    (psst_cut (pst_ifT (ptt_cmpR op_ne (pet_call hg (ok_law_refused T) (hr.mono (by decide)) (by rfl) T.m_law_refused T.F_law_refused.kp (B_law_refused T) .nil pass0 (PAT.of (pa_cons (pv 13) (pa_cons (pv 17) (pa_cons pe_bl pa_nil))))) (CwR.PET.of (pe_op op_add_str pe_str (pe_callB (show CallR _ (.builtin "repr") (rRepr K) by exact call_reprD hg hr.units) (by rfl) T.z_repr (by decide +kernel) (pa_cons (pv 13) pa_nil)))) (nomark _))
      (PSsT.of (pss_one (ps_ret pe_bl)))
      CwR.psst_nil)
    (psst_cut (pst_ifT (ptt_not (ptt_val (pet_call hg (FnOkN.of (ok_law_same T)) (hr.mono (by decide)) (by rfl) T.m_law_same T.F_law_same.kp (B_law_same T) .nil pass0 (pat_cons (pet_callN0 hg (ok_least_edit T) (hr.mono (by decide)) (by rfl) T.m_least_edit T.F_least_edit.kp (kb_least_edit_0_other_one T) passE0 (pk_cons (pv 10) (pk_cons (pv 11) pk_nil))) (pat_cons (CwR.PET.of (pe_call (ok_law_tried T) (hr.mono (by decide)) (by rfl) T.m_law_tried T.F_law_tried.kp (B_law_tried T) .nil pass0 (pa_cons (pv 11) (pa_cons (pv 10) pa_nil)))) pat_nil)))))
      (PSsT.of (pss_one (ps_ret pe_bl)))
      CwR.psst_nil)
    (CwR.psst_one (CwR.pst_ret (pet_call hg (FnOkN.of (ok_law_same T)) (hr.mono (by decide)) (by rfl) T.m_law_same T.F_law_same.kp (B_law_same T) .nil pass0 (pat_cons (pet_callN0 hg (ok_joined_edits T) (hr.mono (by decide)) (by rfl) T.m_joined_edits T.F_joined_edits.kp (kb_joined_edits_0_edits_text T) passE0 (pk_cons (pe_lst pa_nil) (pk_cons (pv 3) pk_nil))) (pat_cons (CwR.PET.of (pe_tup (pa_cons pe_int (pa_cons pe_int (pa_cons pe_str pa_nil))))) pat_nil))))))))))))))))))))))))))), ?_⟩
    walk_at "wp"
    refine ⟨p, ns, rfl, hS, fun b c H1 hb1 s1 B1 => ?_⟩
    walk_at "wp"
    refine ⟨b, c, rfl, B1, fun l H2 hl2 s2 B2 L2 => ?_⟩
    have nlb : l ≠ b := B1.lne hl2
    walk_at "wp"
    refine ⟨b, c, l, 18, rfl, B2, L2, nlb, by decide, by decide, fun f H3 f1 f2 s3 B3 => ?_⟩
    have L3 := L2.but s3 nlb
    have okf := f2.ok
    walk_at "wp"
    refine ⟨disp rfl, fun X hX => ?_⟩
    have nX := B3.ne hX
    have nXl : X ≠ l := Ne.symm (L3.ne hX)
    walk_at "wp"
    refine ⟨disp rfl, fun D hD => ?_⟩
    have B4 := B3.new (o := .lst [.str f]) hX
    have L4 := L3.same (Same.new (o := .lst [.str f]) hX)
    have nD := B4.ne hD
    have nDl : D ≠ l := Ne.symm (L4.ne hD)
    have nXD : X ≠ D := ne_of_none upd_same hD
    have K0 : Kq b c l X D [f] [] _ := ⟨B4.new hD, L4.same (Same.new (o := .lst []) hD), nlb, by rw [upd_ne nXD]; exact upd_same, upd_same, nX.1, nX.2, nXl, nXD, nD.1, nD.2, nDl, fun x hx => by cases hx⟩
    have C0 := Chain.start okf (by omega)
    walk_at "wp"
    refine ⟨_, _, _, rfl, K0.bag, by decide, by decide, fun n H5 n0 n1 s5 B5 => ?_⟩
    have K5 := K0.but s5 B5
    walk_at "wp"
    refine ⟨by omega, by omega, for_range (lo := 0) (n := n.toNat) (fun i σ H' => ∃ (tx : List Str) (eds : List Bk) (o6 o7 o8 o9 : Option V), σ = [some (.ref p), some (.ref b), some (.ref l), some (.str f), some (.ref X), some (.ref D), o6, o7, o8, o9, none, none, none, none, none, none, none, none] ∧ Kq b c l X D tx eds H' ∧ Chain f tx eds ∧ eds.length = i) ⟨[f], [], none, none, none, none, rfl, K5, C0, rfl⟩ ?_ ?_⟩
    · rintro i σ H6 hi ⟨tx, eds, o6, o7, o8, o9, rfl, K6, C6, he⟩
      have hlx := C6.len
      obtain ⟨t, et⟩ : ∃ t, tx[eds.length]? = some t := ⟨_, List.getElem?_eq_getElem (by omega)⟩
      obtain ⟨g6, okt, lt⟩ := C6.go _ _ et
      have lt2 : t.length ≤ 100 := by omega
      walk_at "wp"
      refine ⟨X, _, _, _, rfl, rfl, SqL.of K6.txs, atI_last (v := .str t) (n := eds.length) (by rw [List.length_map, hlx]) (by rw [List.getElem?_map, et]; rfl), ?_⟩
      walk_at "wp"
      refine ⟨_, _, _, rfl, K6.bag, by omega, by omega, fun pl H7 pl0 pl1 s7 B7 => ?_⟩
      obtain ⟨pl, rfl⟩ := Int.eq_ofNat_of_zero_le pl0
      have K7 := K6.but s7 B7
      walk_at "wp"
      refine ⟨_, _, _, rfl, K7.bag, by split <;> omega, by split <;> omega, fun r H8 r0 r1 s8 B8 => ?_⟩
      obtain ⟨r, rfl⟩ := Int.eq_ofNat_of_zero_le r0
      have K8 := K7.but s8 B8
      have hr8 : pl + r ≤ t.length := by split at r1 <;> omega
      walk_at "wp"
      refine ⟨.inl ⟨rfl, _, SqL.of K8.lst⟩, ?_⟩
      walk_at "wp"
      refine ⟨b, c, l, 3, rfl, K8.bag, K8.lets, nlb, by decide, by decide, fun s H9 g1 g2 s9 B9 => ?_⟩
      have K9 := K8.but s9 B9
      have ls : s.length ≤ 3 := by omega
      walk_at "wp"
      refine ⟨disp rfl, fun ed hed => ?_⟩
      have ned := (K9.bag.ne hed).1
      have K10 := K9.new (o := .tup [.int pl, .int r, .str s]) hed
      refine ⟨D, _, _, rfl, rfl, K10.lst, by rw [List.length_map]; exact lt_line (by omega), ?_⟩
      have K11 := K10.push (x := (ed, pl, r, s)) upd_same ned
      have C11 := C6.push (x := (ed, pl, r, s)) et hr8 g2.ok ls
      have c1 := cutS_length t none (some (pl : Int))
      have c2 := cutS_length t (some ((pl : Int) + r)) none
      have e11 := (K11.tups (ed, pl, r, s) (List.mem_append_right _ (List.mem_singleton.mpr rfl))).1
      change _ = some (HO.tup [.int pl, .int r, .str s]) at e11
      walk_at "wp"
      refine ⟨.inl ⟨rfl, _, SqL.of K11.txs⟩, ?_⟩
      walk_at "wp"
      refine ⟨le_line (by omega), ?_⟩
      walk_at "wp"
      refine ⟨D, _, _, _, rfl, rfl, SqL.of K11.lst, atI_last (v := .ref ed) (n := eds.length) (by rw [List.length_map, List.length_append]; rfl) (by rw [List.getElem?_map, List.getElem?_append_right (Nat.le_refl _), Nat.sub_self]; rfl), ?_⟩
      refine ⟨ed, _, _, _, rfl, rfl, SqT.of e11, atI_of (j := 2) (by decide) rfl, ?_⟩
      refine ⟨_, _, rfl, rfl, le_line (by omega), ?_⟩
      walk_at "wp"
      refine ⟨le_line (by omega), ?_⟩
      refine ⟨_, _, rfl, rfl, le_line (by rw [strLen_append]; omega), ?_⟩
      refine ⟨X, _, _, rfl, rfl, K11.txs, by rw [List.length_map]; exact lt_line (by omega), ?_⟩
      walk_at "wp"
      exact ⟨tx ++ [putIn t pl r s], eds ++ [(ed, pl, r, s)], _, _, _, _, rfl, K11.more, C11, by rw [List.length_append, he]; rfl⟩
    · rintro σ H6 ⟨tx, eds, o6, o7, o8, o9, rfl, K6, C6, he⟩
      have hlx := C6.len
      obtain ⟨t, et⟩ : ∃ t, tx[eds.length]? = some t := ⟨_, List.getElem?_eq_getElem (by omega)⟩
      obtain ⟨g6, okt, lt⟩ := C6.go _ _ et
      have lt2 : t.length ≤ 100 := by omega
      walk_at "wp"
      refine ⟨X, _, _, _, rfl, rfl, SqL.of K6.txs, atI_last (v := .str t) (n := eds.length) (by rw [List.length_map, hlx]) (by rw [List.getElem?_map, et]; rfl), ?_⟩
      refine ⟨fun σ H' => ∃ u : Str, σ = [some (.ref p), some (.ref b), some (.ref l), some (.str f), some (.ref X), some (.ref D), o6, o7, o8, o9, some (.str t), some (.str u), none, none, none, none, none, none] ∧ Kq b c l X D tx eds H' ∧ okText u = true ∧ u.length ≤ 12, ?_, ?_⟩
      walk_at "wp"
      refine ⟨b, c, l, 12, rfl, K6.bag, K6.lets, nlb, by decide, by decide, fun u H7 u1 u2 s7 B7 => ?_⟩
      have K7 := K6.but s7 B7
      walk_at "wp"
      exact ⟨K7, u2.ok, by omega⟩
      rintro σ H7 ⟨u, rfl, K7, oku, u1⟩
      rw [List.take_length] at g6
      have le6 : (eds.map Bk.dat).length ≤ 100 := by rw [List.length_map]; omega
      refine ⟨fun σ H' => σ = [some (.ref p), some (.ref b), some (.ref l), some (.str f), some (.ref X), some (.ref D), o6, o7, o8, o9, some (.str t), some (.str u), none, none, none, none, none, none] ∧ Kq b c l X D tx eds H', ?_, ?_⟩
      walk_at "wp"
      refine ⟨D, _, rfl, .inl (SqL.of K7.lst), fun E1 hE1 => ?_⟩
      have K8 := K7.new (o := .lst (eds.map fun x => .ref x.1)) hE1
      refine ⟨.str f, E1, .str f, _, _, rfl, j_good okf (by omega) le6 (.inl (SqL.of upd_same)) (PdOff (K8.rows eds fun _ h => h)) C6.short g6 ?_⟩
      intro p1 r1 i1 b1 H9 le1 s9 q1
      walk_at "wp"
      refine ⟨by omega, by omega, fun p2 r2 i2 b2 H10 le2 s10 q2 => ?_⟩
      walk_at "wp"
      refine ⟨_, _, _, rfl, .tup (s10.seqT q1) q2 rfl (Nat.le_of_ble_eq_true rfl) flat3, fun H11 s11 => ?_⟩
      obtain ⟨rfl, rfl, rfl⟩ := le1.uniq le2
      have K11 := ((K8.same s9).same s10).same s11
      refine ⟨_, rfl, ?_⟩
      refine brF (by rw [decide_eq_true rfl]; rfl) ?_
      walk_at "wp"
      exact K11
      rintro σ H11 ⟨rfl, K11⟩
      refine ⟨fun σ H' => σ = [some (.ref p), some (.ref b), some (.ref l), some (.str f), some (.ref X), some (.ref D), o6, o7, o8, o9, some (.str t), some (.str u), none, none, none, none, none, none] ∧ Kq b c l X D tx eds H', ?_, ?_⟩
      walk_at "wp"
      refine ⟨D, _, rfl, .inl ⟨SqL.of K11.lst, fun E2 hE2 => ?_⟩⟩
      have K12 := K11.new (o := .tup (eds.map fun x => .ref x.1)) hE2
      refine ⟨.str f, E2, .str f, _, _, rfl, j_good okf (by omega) le6 (.inr (SqT.of upd_same)) (PdOff (K12.rows eds fun _ h => h)) C6.short g6 ?_⟩
      intro p1 r1 i1 b1 H13 le1 s13 q1
      walk_at "wp"
      refine ⟨by omega, by omega, fun p2 r2 i2 b2 H14 le2 s14 q2 => ?_⟩
      walk_at "wp"
      refine ⟨_, _, _, rfl, .tup (s14.seqT q1) q2 rfl (Nat.le_of_ble_eq_true rfl) flat3, fun H15 s15 => ?_⟩
      obtain ⟨rfl, rfl, rfl⟩ := le1.uniq le2
      have K15 := ((K12.same s13).same s14).same s15
      refine ⟨_, rfl, ?_⟩
      refine brF (by rw [decide_eq_true rfl]; rfl) ?_
      walk_at "wp"
      exact K15
      rintro σ H15 ⟨rfl, K15⟩
      walk_at "wp"
      refine ⟨disp rfl, fun a0 h0 => ?_⟩
      walk_at "wp"
      refine ⟨disp rfl, fun a1 h1 => ?_⟩
      walk_at "wp"
      refine ⟨disp rfl, fun a2 h2 => ?_⟩
      walk_at "wp"
      refine ⟨disp rfl, fun a3 h3 => ?_⟩
      walk_at "wp"
      refine ⟨disp rfl, fun a4 h4 => ?_⟩
      walk_at "wp"
      refine ⟨disp rfl, fun a5 h5 => ?_⟩
      walk_at "wp"
      refine ⟨disp rfl, fun E3 hE3 => ?_⟩
      have m0 := Same.new (o := .tup [.str f, .str t]) h0
      have m1 := Same.new (o := .tup [.str t, .str f]) h1
      have m2 := Same.new (o := .tup [.str u, .str t]) h2
      have m3 := Same.new (o := .tup [.str f, .str f]) h3
      have m4 := Same.new (o := .tup [.str f, .str ""]) h4
      have m5 := Same.new (o := .tup [.str "", .str u]) h5
      have m6 := Same.new (o := .tup [.ref a0, .ref a1, .ref a2, .ref a3, .ref a4, .ref a5]) hE3
      have K16 := K15.same (m0.trans (m1.trans (m2.trans (m3.trans (m4.trans (m5.trans m6))))))
      have oke : okText "" = true := by decide +kernel
      have le0 : ("" : Str).length = 0 := by decide +kernel
      obtain ⟨prs, P16, okp⟩ := Prs.of (prs := [(a0, f, t), (a1, t, f), (a2, u, t), (a3, f, f), (a4, f, ""), (a5, "", u)]) (E := E3) K16 upd_same (fun x hx => by
        simp only [List.mem_cons, List.not_mem_nil, or_false] at hx
        rcases hx with rfl | rfl | rfl | rfl | rfl | rfl
        · exact ⟨(m1.trans (m2.trans (m3.trans (m4.trans (m5.trans m6))))) _ _ upd_same, okf, okt, by show f.length ≤ 100; omega, by show t.length ≤ 100; omega⟩
        · exact ⟨(m2.trans (m3.trans (m4.trans (m5.trans m6)))) _ _ upd_same, okt, okf, by show t.length ≤ 100; omega, by show f.length ≤ 100; omega⟩
        · exact ⟨(m3.trans (m4.trans (m5.trans m6))) _ _ upd_same, oku, okt, by show u.length ≤ 100; omega, by show t.length ≤ 100; omega⟩
        · exact ⟨(m4.trans (m5.trans m6)) _ _ upd_same, okf, okf, by show f.length ≤ 100; omega, by show f.length ≤ 100; omega⟩
        · exact ⟨(m5.trans m6) _ _ upd_same, okf, oke, by show f.length ≤ 100; omega, by show ("" : Str).length ≤ 100; omega⟩
        · exact ⟨m6 _ _ upd_same, oke, oku, by show ("" : Str).length ≤ 100; omega, by show u.length ≤ 100; omega⟩)
      walk_at "wp"
      refine ⟨⟨_, SqT.of P16.at_⟩, for_tup (xs := prs.map fun x => V.ref x.1) (fun j σ H' => ∃ o12 : Option V, σ = [some (.ref p), some (.ref b), some (.ref l), some (.str f), some (.ref X), some (.ref D), o6, o7, o8, o9, some (.str t), some (.str u), o12, none, none, none, none, none] ∧
        Kq b c l X D tx eds H' ∧ Prs prs E3 H') ⟨none, rfl, K16, P16⟩ (fun j σ H' _ ⟨_, _, _, h⟩ => SqT.of h.at_) ?_ ?_⟩
      · rintro j x σ H17 hx ⟨o12, rfl, K17, P17⟩
        rw [List.getElem?_map] at hx
        obtain ⟨pr, hpr, rfl⟩ := Option.map_eq_some_iff.mp hx
        obtain ⟨pa, u1, u2⟩ := pr
        have em := P17.all _ (List.mem_of_getElem? hpr)
        obtain ⟨ok1, ok2, l1, l2⟩ := okp _ (List.mem_of_getElem? hpr)
        change H17 pa = some (HO.tup [.str u1, .str u2]) at em
        change okText u1 = true at ok1
        change okText u2 = true at ok2
        change u1.length ≤ 100 at l1
        change u2.length ≤ 100 at l2
        walk_at "wp"
        refine ⟨_, _, _, _, rfl, l_good ok1 ok2 (by omega) (by omega) ?_⟩
        intro p1 r1 i1 b1 H18 le1 s18 q1
        have em2 := s18 _ _ em
        walk_at "wp"
        refine ⟨by omega, by omega, fun p2 r2 i2 b2 H19 le2 s19 q2 => ?_⟩
        walk_at "wp"
        refine ⟨_, _, _, rfl, .tup (s19.seqT q1) q2 rfl (Nat.le_of_ble_eq_true rfl) flat3, fun H20 s20 => ?_⟩
        obtain ⟨rfl, rfl, rfl⟩ := le1.uniq le2
        refine ⟨_, rfl, ?_⟩
        refine brF (by rw [decide_eq_true rfl]; rfl) ?_
        walk_at "wp"
        have K20 := ((K17.same s18).same s19).same s20
        have P20 := ((P17.same s18).same s19).same s20
        exact ⟨K20, P20⟩
      · rintro σ H17 ⟨o12, rfl, K17, P17⟩
        have l5 : ("text " : Str).length = 5 := by decide +kernel
        have l6 : ("edit " : Str).length = 5 := by decide +kernel
        have l7 : ("\t" : Str).length = 1 := by decide +kernel
        walk_at "wp"
        refine ⟨le_line (by omega), ?_⟩
        walk_at "wp"
        refine ⟨disp rfl, fun D4 hD4 => ?_⟩
        have K18 := K17.new (o := .lst [.str f]) hD4
        have nD4 := (K17.bag.ne hD4).1
        walk_at "wp"
        refine ⟨disp rfl, fun D5 hD5 => ?_⟩
        have K19 := K18.new (o := .lst [.str (f ++ "\t"), .non, .int 4, .ref D4]) hD5
        have nD5 := (K18.bag.ne hD5).1
        have n45 : D4 ≠ D5 := ne_of_none upd_same hD5
        walk_at "wp"
        refine ⟨_, _, _, rfl, K19.bag, by decide, by decide, fun m H20 m0' m1' s20 B20 => ?_⟩
        have K20 := K19.but s20 B20
        have pw : PdAll (Off b H20) [.str (f ++ "\t"), .non, .int 4, .ref D4] [.str (f ++ "\t"), .none, .int 4, .list [.str f]] :=
          .cons (.str _) (.cons .non (.cons (.int _) (.cons (.lst ⟨s20 _ _ nD4 (by rw [upd_ne n45]; exact upd_same), nD4⟩ (.cons (.str _) .nil)) .nil)))
        obtain ⟨bv, bd, eb, mb, pb⟩ := pw.at m0' m1'
        have bb := badT_all ⟨by decide, by decide⟩ okf (by omega) bd mb
        have hbl := bb.shw.len
        refine ⟨D5, _, _, _, rfl, rfl, SqL.of (s20 _ _ nD5 upd_same), eb, ?_⟩
        refine ⟨fun σ H' => ∃ (wv : V) (wd : PyData), σ = [some (.ref p), some (.ref b), some (.ref l), some (.str f), some (.ref X), some (.ref D), o6, o7, o8, o9, some (.str t), some (.str u), o12, some bv, some wv, none, none, none] ∧ Bq b c l X D tx eds bv wv bd wd H' ∧ BadT wd, ?_, ?_⟩
        walk_at "wp"
        refine ⟨disp rfl, fun D6 hD6 => ?_⟩
        have K21 := K20.new (o := .tup [.str "a"]) hD6
        have nD6 := (K20.bag.ne hD6).1
        have pb1 := pb.sameOff (Same.new (o := .tup [.str "a"]) hD6)
        walk_at "wp"
        refine ⟨disp rfl, fun D7 hD7 => ?_⟩
        have K22 := K21.new (o := .lst [.str "\t", .bl true, .ref D6]) hD7
        have nD7 := (K21.bag.ne hD7).1
        have n67 : D6 ≠ D7 := ne_of_none upd_same hD7
        have pb2 := pb1.sameOff (Same.new (o := .lst [.str "\t", .bl true, .ref D6]) hD7)
        walk_at "wp"
        refine ⟨_, _, _, rfl, K22.bag, by decide, by decide, fun m2 H23 m20 m21 s23 B23 => ?_⟩
        have K23 := K22.but s23 B23
        have pb3 := pb2.but s23
        have px : PdAll (Off b H23) [.str "\t", .bl true, .ref D6] [.str "\t", .bool true, .tuple [.str "a"]] :=
          .cons (.str _) (.cons (.bl _) (.cons (.tup ⟨s23 _ _ nD6 (by rw [upd_ne n67]; exact upd_same), nD6⟩ (.cons (.str _) .nil)) .nil))
        obtain ⟨wv, wd, ew, mw, pw'⟩ := px.at m20 m21
        have bw := badW_all wd mw
        refine ⟨D7, _, _, _, rfl, rfl, SqL.of (s23 _ _ nD7 upd_same), ew, ?_⟩
        walk_at "wp"
        exact ⟨wv, wd, rfl, ⟨K23, pb3, pw'⟩, bw⟩
        rintro σ H23 ⟨wv, wd, rfl, Q23, bw⟩
        have hwl := bw.shw.len
        have sf : ∀ s, PyData.str f = .str s → s.length ≤ 100000 := fun s e => by cases e; omega
        refine ⟨fun σ H' => σ = [some (.ref p), some (.ref b), some (.ref l), some (.str f), some (.ref X), some (.ref D), o6, o7, o8, o9, some (.str t), some (.str u), o12, some bv, some wv, none, none, none] ∧ Bq b c l X D tx eds bv wv bd wd H', ?_, ?_⟩
        walk_at "wp"
        refine ref_F (E := E0) Q23.pb.off (.str f) bb.short sf (.inl ⟨bb.no, bb.shw, fun H24 s24 => ?_⟩)
        have Q24 := Q23.same s24
        walk_at "wp"
        refine ⟨_, bd, rfl, Pd.dp bd bv Q24.pb.off, bb.shw.show_, bb.shw.nod, bb.shw.dep, le_line (by omega), ?_⟩
        refine ⟨_, _, rfl, rfl, le_line (by omega), ?_⟩
        walk_at "wp"
        refine brF (by rw [decide_eq_true rfl]; rfl) ?_
        walk_at "wp"
        refine ref_F (E := E0) (.str f) Q24.pb.off sf bb.short (.inr ⟨(show isTxtD (.str f) = true from okf), bb.no, bb.shw, fun H25 s25 => ?_⟩)
        have Q25 := Q24.same s25
        walk_at "wp"
        refine ⟨_, bd, rfl, Pd.dp bd bv Q25.pb.off, bb.shw.show_, bb.shw.nod, bb.shw.dep, le_line (by omega), ?_⟩
        refine ⟨_, _, rfl, rfl, le_line (by omega), ?_⟩
        walk_at "wp"
        refine brF (by rw [decide_eq_true rfl]; rfl) ?_
        walk_at "wp"
        exact Q25
        rintro σ H25 ⟨rfl, Q25⟩
        refine ⟨fun σ H' => σ = [some (.ref p), some (.ref b), some (.ref l), some (.str f), some (.ref X), some (.ref D), o6, o7, o8, o9, some (.str t), some (.str u), o12, some bv, some wv, none, none, none] ∧ Bq b c l X D tx eds bv wv bd wd H', ?_, ?_⟩
        walk_at "wp"
        refine ref_F (E := E0) Q25.pb.off Q25.pw.off bb.short bw.short (.inl ⟨bb.no, bb.shw, fun H26 s26 => ?_⟩)
        have Q26 := Q25.same s26
        walk_at "wp"
        refine ⟨_, bd, rfl, Pd.dp bd bv Q26.pb.off, bb.shw.show_, bb.shw.nod, bb.shw.dep, le_line (by omega), ?_⟩
        refine ⟨_, _, rfl, rfl, le_line (by omega), ?_⟩
        walk_at "wp"
        refine brF (by rw [decide_eq_true rfl]; rfl) ?_
        walk_at "wp"
        refine ref_F (E := E0) Q26.pw.off Q26.pb.off bw.short bb.short (.inl ⟨bw.no, bw.shw, fun H27 s27 => ?_⟩)
        have Q27 := Q26.same s27
        walk_at "wp"
        refine ⟨_, wd, rfl, Pd.dp wd wv Q27.pw.off, bw.shw.show_, bw.shw.nod, bw.shw.dep, le_line (by omega), ?_⟩
        refine ⟨_, _, rfl, rfl, le_line (by omega), ?_⟩
        walk_at "wp"
        refine brF (by rw [decide_eq_true rfl]; rfl) ?_
        walk_at "wp"
        exact Q27
        rintro σ H27 ⟨rfl, Q27⟩
        have eL := Q27.kq.lst
        have hlm : (eds.map fun x : Bk => V.ref x.1).length = eds.length := List.length_map ..
        walk_at "wp"
        refine ⟨_, _, _, rfl, Q27.kq.bag, by omega, by omega, fun k H28 k0 k1 s28 B28 => ?_⟩
        obtain ⟨k, rfl⟩ := Int.eq_ofNat_of_zero_le k0
        have Q28 := Q27.but s28 B28
        obtain ⟨tk, etk⟩ : ∃ t, tx[k]? = some t := ⟨_, List.getElem?_eq_getElem (by omega)⟩
        obtain ⟨gk, okk, ltk⟩ := C6.go _ _ etk
        have ltk2 : tk.length ≤ 100 := by omega
        walk_at "wp"
        refine ⟨X, _, _, _, rfl, rfl, SqL.of Q28.kq.txs, atI_of (j := k) rfl (by rw [List.getElem?_map, etk]; rfl), ?_⟩
        refine ⟨_, _, rfl, ⟨le_line (by omega), rfl⟩, ?_⟩
        refine ⟨fun σ H' => ∃ (uv : V) (ud : PyData), σ = [some (.ref p), some (.ref b), some (.ref l), some (.str f), some (.ref X), some (.ref D), some (.int k), o7, o8, o9, some (.str t), some (.str u), o12, some bv, some wv, some (.int tk.length), some uv, none] ∧ Bq b c l X D tx eds bv wv bd wd H' ∧ Pd (Off b H') uv ud ∧ BadU tk.length ud, ?_, ?_⟩
        walk_at "wp"
        refine ⟨disp rfl, fun u0 v0 => ?_⟩
        have w0 := Same.new (o := .tup [.int (tk.length + 1), .int 0, .str ""]) v0
        have nb0 := (Bag.ne v0 (by walk_at "hb")).1
        walk_at "wp"
        refine ⟨disp rfl, fun u1 v1 => ?_⟩
        have w1 := Same.new (o := .tup [.int 0, .int (tk.length + 1), .str "a"]) v1
        have nb1 := (Bag.ne v1 (by walk_at "hb")).1
        walk_at "wp"
        refine ⟨disp rfl, fun u2 v2 => ?_⟩
        have w2 := Same.new (o := .tup [.int tk.length, .int 1, .str ""]) v2
        have nb2 := (Bag.ne v2 (by walk_at "hb")).1
        walk_at "wp"
        refine ⟨disp rfl, fun u3 v3 => ?_⟩
        have w3 := Same.new (o := .lst [.int 0, .int 0, .str ""]) v3
        have nb3 := (Bag.ne v3 (by walk_at "hb")).1
        walk_at "wp"
        refine ⟨disp rfl, fun u4 v4 => ?_⟩
        have w4 := Same.new (o := .tup [.int 0, .int 0, .non]) v4
        have nb4 := (Bag.ne v4 (by walk_at "hb")).1
        walk_at "wp"
        refine ⟨disp rfl, fun u5 v5 => ?_⟩
        have w5 := Same.new (o := .lst [.ref u0, .ref u1, .ref u2, .ref u3, .ref u4, .non]) v5
        have nb5 := (Bag.ne v5 (by walk_at "hb")).1
        have Q29 := Q28.same (w0.trans (w1.trans (w2.trans (w3.trans (w4.trans w5)))))
        walk_at "wp"
        refine ⟨_, _, _, rfl, Q29.kq.bag, by decide, by decide, fun m3 H30 m30 m31 s30 B30 => ?_⟩
        have Q30 := Q29.but s30 B30
        have pu : PdAll (Off b H30) [.ref u0, .ref u1, .ref u2, .ref u3, .ref u4, .non] (unfits tk.length) :=
          .cons (.tup ⟨s30 _ _ nb0 ((w1.trans (w2.trans (w3.trans (w4.trans w5)))) _ _ upd_same), nb0⟩ (.cons (.int _) (.cons (.int _) (.cons (.str _) .nil)))) (.cons (.tup ⟨s30 _ _ nb1 ((w2.trans (w3.trans (w4.trans w5))) _ _ upd_same), nb1⟩ (.cons (.int _) (.cons (.int _) (.cons (.str _) .nil)))) (.cons (.tup ⟨s30 _ _ nb2 ((w3.trans (w4.trans w5)) _ _ upd_same), nb2⟩ (.cons (.int _) (.cons (.int _) (.cons (.str _) .nil)))) (.cons (.lst ⟨s30 _ _ nb3 ((w4.trans w5) _ _ upd_same), nb3⟩ (.cons (.int _) (.cons (.int _) (.cons (.str _) .nil)))) (.cons (.tup ⟨s30 _ _ nb4 (w5 _ _ upd_same), nb4⟩ (.cons (.int _) (.cons (.int _) (.cons .non .nil)))) (.cons .non .nil)))))
        obtain ⟨uv, ud, eu, mu, pu0⟩ := pu.at m30 m31
        have pu := pu0
        have bu := unfit_all (by omega) (by omega) ud mu
        refine ⟨u5, _, _, _, rfl, rfl, SqL.of (s30 _ _ nb5 upd_same), eu, ?_⟩
        walk_at "wp"
        exact ⟨uv, ud, rfl, Q30, pu, bu⟩
        rintro σ H30 ⟨uv, ud, rfl, Q30, pu, bu⟩
        have pu0 := pu
        have hul := bu.shw.len
        refine ⟨fun σ H' => ∃ r5 : Addr, σ = [some (.ref p), some (.ref b), some (.ref l), some (.str f), some (.ref X), some (.ref D), some (.int k), o7, o8, o9, some (.str t), some (.str u), o12, some bv, some wv, some (.int tk.length), some uv, some (.ref r5)] ∧ Bq b c l X D tx eds bv wv bd wd H' ∧ Pd (Off b H') uv ud ∧ H' r5 = some (.lst ((eds.map fun x : Bk => V.ref x.1).take k ++ [uv] ++ (eds.map fun x : Bk => V.ref x.1).drop k)) ∧ PdAll (Off b H') ((eds.map fun x : Bk => V.ref x.1).take k ++ [uv] ++ (eds.map fun x : Bk => V.ref x.1).drop k) ((eds.take k).map Bk.dat ++ [ud] ++ (eds.drop k).map Bk.dat), ?_, ?_⟩
        walk_at "wp"
        refine ⟨D, _, rfl, SqL.of Q30.kq.lst, fun r1 hr1 => ?_⟩
        rw [cutV_take (by omega)] 
        have Q31 := Q30.same (Same.new (o := .lst ((eds.map fun x : Bk => V.ref x.1).take k)) hr1)
        have pu := pu.sameOff (Same.new (o := .lst ((eds.map fun x : Bk => V.ref x.1).take k)) hr1)
        walk_at "wp"
        refine ⟨disp rfl, fun r2 hr2 => ?_⟩
        have Q32 := Q31.same (Same.new (o := .lst [uv]) hr2)
        have pu := pu.sameOff (Same.new (o := .lst [uv]) hr2)
        have lt1 : ((eds.map fun x : Bk => V.ref x.1).take k).length = k := by rw [List.length_take, hlm]; omega
        have lt3 : ((eds.map fun x : Bk => V.ref x.1).drop k).length = eds.length - k := by rw [List.length_drop, hlm]
        refine ⟨r1, r2, _, _, rfl, rfl, upd_get hr2 upd_same, upd_same, le_line (by rw [lt1]; show k + 1 ≤ _; omega), fun r3 hr3 => ?_⟩
        have Q33 := Q32.same (Same.new (o := .lst ((eds.map fun x : Bk => V.ref x.1).take k ++ [uv])) hr3)
        have pu := pu.sameOff (Same.new (o := .lst ((eds.map fun x : Bk => V.ref x.1).take k ++ [uv])) hr3)
        walk_at "wp"
        refine ⟨D, _, rfl, SqL.of Q33.kq.lst, fun r4 hr4 => ?_⟩
        rw [cutV_drop (by omega)]
        have Q34 := Q33.same (Same.new (o := .lst ((eds.map fun x : Bk => V.ref x.1).drop k)) hr4)
        have pu := pu.sameOff (Same.new (o := .lst ((eds.map fun x : Bk => V.ref x.1).drop k)) hr4)
        refine ⟨r3, r4, _, _, rfl, rfl, upd_get hr4 upd_same, upd_same, le_line (by rw [List.length_append, lt1, lt3]; show k + 1 + _ ≤ _; omega), fun r5 hr5 => ?_⟩
        have Q35 := Q34.same (Same.new (o := .lst ((eds.map fun x : Bk => V.ref x.1).take k ++ [uv] ++ (eds.map fun x : Bk => V.ref x.1).drop k)) hr5)
        have pu := pu.sameOff (Same.new (o := .lst ((eds.map fun x : Bk => V.ref x.1).take k ++ [uv] ++ (eds.map fun x : Bk => V.ref x.1).drop k)) hr5)
        have rk : PdAll (Off b H30) ((eds.map fun x : Bk => V.ref x.1).take k ++ [uv] ++ (eds.map fun x : Bk => V.ref x.1).drop k) ((eds.take k).map Bk.dat ++ [ud] ++ (eds.drop k).map Bk.dat) := by
          rw [← List.map_take, ← List.map_drop]
          exact ((Q30.kq.rows _ fun y hy => List.mem_of_mem_take hy).append (.cons pu0 .nil)).append (Q30.kq.rows _ fun y hy => List.mem_of_mem_drop hy)
        have s35 : Same H30 _ := (Same.new (o := .lst ((eds.map fun x : Bk => V.ref x.1).take k)) hr1).trans ((Same.new (o := .lst [uv]) hr2).trans ((Same.new (o := .lst ((eds.map fun x : Bk => V.ref x.1).take k ++ [uv])) hr3).trans ((Same.new (o := .lst ((eds.map fun x : Bk => V.ref x.1).drop k)) hr4).trans (Same.new (o := .lst ((eds.map fun x : Bk => V.ref x.1).take k ++ [uv] ++ (eds.map fun x : Bk => V.ref x.1).drop k)) hr5))))
        walk_at "wp"
        exact ⟨Q35, pu, upd_same, rk.sameOff s35⟩
        rintro σ H35 ⟨r5, rfl, Q35, pu, e5, rk⟩
        have sk : ∀ e ∈ (eds.take k).map Bk.dat ++ [ud] ++ (eds.drop k).map Bk.dat, ∀ p r i, e = .tuple [p, r, .str i] → i.length ≤ 10 := by
          intro e he
          rcases List.mem_append.mp he with h | h
          · rcases List.mem_append.mp h with h | h
            · obtain ⟨y, hy, rfl⟩ := List.mem_map.mp h
              exact C6.short _ (List.mem_map.mpr ⟨y, List.mem_of_mem_take hy, rfl⟩)
            · rw [List.mem_singleton.mp h]
              exact bu.short
          · obtain ⟨y, hy, rfl⟩ := List.mem_map.mp h
            exact C6.short _ (List.mem_map.mpr ⟨y, List.mem_of_mem_drop hy, rfl⟩)
        have lk : ((eds.take k).map Bk.dat ++ [ud] ++ (eds.drop k).map Bk.dat).length ≤ 20 := by
          simp only [List.length_append, List.length_map, List.length_take, List.length_drop, List.length_cons, List.length_nil]
          omega
        have hkl : ((eds.take k).map Bk.dat).length = k := by rw [List.length_map, List.length_take]; omega
        have er := row_err (bs := (eds.drop k).map Bk.dat ++ [.int 5]) gk hkl bu.no
        rw [← List.append_assoc] at er
        refine ⟨fun σ H' => σ = [some (.ref p), some (.ref b), some (.ref l), some (.str f), some (.ref X), some (.ref D), some (.int k), o7, o8, o9, some (.str t), some (.str u), o12, some bv, some wv, some (.int tk.length), some uv, some (.ref r5)] ∧ Bq b c l X D tx eds bv wv bd wd H' ∧ H' r5 = some (.lst ((eds.map fun x : Bk => V.ref x.1).take k ++ [uv] ++ (eds.map fun x : Bk => V.ref x.1).drop k)) ∧ PdAll (Off b H') ((eds.map fun x : Bk => V.ref x.1).take k ++ [uv] ++ (eds.map fun x : Bk => V.ref x.1).drop k) ((eds.take k).map Bk.dat ++ [ud] ++ (eds.drop k).map Bk.dat), ?_, ?_⟩
        walk_at "wp"
        refine ⟨disp rfl, fun r6 hr6 => ?_⟩
        have Q36 := Q35.same (Same.new (o := .lst [.int 5]) hr6)
        have rk := rk.sameOff (Same.new (o := .lst [.int 5]) hr6)
        have pu := pu.sameOff (Same.new (o := .lst [.int 5]) hr6)
        have ll : ((eds.map fun x : Bk => V.ref x.1).take k ++ [uv] ++ (eds.map fun x : Bk => V.ref x.1).drop k).length ≤ 20 := by rw [rk.length]; exact lk
        refine ⟨r5, r6, _, _, rfl, rfl, upd_get hr6 e5, upd_same, le_line (by show _ + 1 ≤ _; omega), fun r7 hr7 => ?_⟩
        have Q37 := Q36.same (Same.new (o := .lst (((eds.map fun x : Bk => V.ref x.1).take k ++ [uv] ++ (eds.map fun x : Bk => V.ref x.1).drop k) ++ [.int 5])) hr7)
        have rk := rk.sameOff (Same.new (o := .lst (((eds.map fun x : Bk => V.ref x.1).take k ++ [uv] ++ (eds.map fun x : Bk => V.ref x.1).drop k) ++ [.int 5])) hr7)
        have pu := pu.sameOff (Same.new (o := .lst (((eds.map fun x : Bk => V.ref x.1).take k ++ [uv] ++ (eds.map fun x : Bk => V.ref x.1).drop k) ++ [.int 5])) hr7)
        have e5 := upd_get (o := .lst (((eds.map fun x : Bk => V.ref x.1).take k ++ [uv] ++ (eds.map fun x : Bk => V.ref x.1).drop k) ++ [.int 5])) hr7 (upd_get (o := .lst [.int 5]) hr6 e5)
        walk_at "wp"
        refine ref_T (E := E0) (.str f) (.inl (SqL.of upd_same)) (PdOff (rk.append (.cons (.int 5) .nil))) (fun s e => by cases e; rw [List.length_append]; show f.length + 10 * (_ + 1) ≤ _; omega) (fun e he => ?_) (.inr ⟨f, k, ud, rfl, okf, er.1, er.2, bu.shw, fun H38 s38 => ?_⟩)
        · rcases List.mem_append.mp he with h | h
          · exact sk e h
          · rw [List.mem_singleton.mp h]
            exact fun p r i z => nomatch z
        have Q38 := Q37.same s38
        have rk := rk.sameOff s38
        have pu := pu.sameOff s38
        have e5 := s38 _ _ e5
        walk_at "wp"
        refine ⟨_, ud, rfl, Pd.dp ud uv pu.off, bu.shw.show_, bu.shw.nod, bu.shw.dep, le_line (by omega), ?_⟩
        refine ⟨_, _, rfl, rfl, le_line (by omega), ?_⟩
        walk_at "wp"
        refine brF (by rw [decide_eq_true rfl]; rfl) ?_
        walk_at "wp"
        exact ⟨Q38, e5, rk⟩
        rintro σ H38 ⟨rfl, Q38, e5, rk⟩
        refine ⟨fun σ H' => σ = [some (.ref p), some (.ref b), some (.ref l), some (.str f), some (.ref X), some (.ref D), some (.int k), o7, o8, o9, some (.str t), some (.str u), o12, some bv, some wv, some (.int tk.length), some uv, some (.ref r5)] ∧ Bq b c l X D tx eds bv wv bd wd H', ?_, ?_⟩
        walk_at "wp"
        refine ref_T (E := E0) Q38.pb.off (.inl (SqL.of e5)) (PdOff rk) (fun s e => by have := bb.low s e; omega) sk (.inl ⟨bb.no, bb.shw, fun H39 s39 => ?_⟩)
        have Q39 := Q38.same s39
        walk_at "wp"
        refine ⟨_, bd, rfl, Pd.dp bd bv Q39.pb.off, bb.shw.show_, bb.shw.nod, bb.shw.dep, le_line (by omega), ?_⟩
        refine ⟨_, _, rfl, rfl, le_line (by omega), ?_⟩
        walk_at "wp"
        refine brF (by rw [decide_eq_true rfl]; rfl) ?_
        walk_at "wp"
        exact Q39
        rintro σ H39 ⟨rfl, Q39⟩
        refine ⟨fun σ H' => σ = [some (.ref p), some (.ref b), some (.ref l), some (.str f), some (.ref X), some (.ref D), some (.int k), o7, o8, o9, some (.str t), some (.str u), o12, some bv, some wv, some (.int tk.length), some uv, some (.ref r5)] ∧ Bq b c l X D tx eds bv wv bd wd H', ?_, ?_⟩
        walk_at "wp"
        refine ⟨_, _, _, _, rfl, l_good oku okt (by omega) (by omega) ?_⟩
        intro p1 r1 i1 b1 H40 le1 s40 q1
        walk_at "wp"
        refine ⟨by omega, by omega, fun p2 r2 i2 b2 H41 le2 s41 q2 => ?_⟩
        walk_at "wp"
        refine ⟨_, _, _, rfl, .tup (s41.seqT q1) q2 rfl (Nat.le_of_ble_eq_true rfl) flat3, fun H42 s42 => ?_⟩
        obtain ⟨rfl, rfl, rfl⟩ := le1.uniq le2
        refine ⟨_, rfl, ?_⟩
        refine brF (by rw [decide_eq_true rfl]; rfl) ?_
        walk_at "wp"
        exact ((Q39.same s40).same s41).same s42
        rintro σ H42 ⟨rfl, Q42⟩
        walk_at "wp"
        refine ⟨disp rfl, fun z1 hz1 => ?_⟩
        walk_at "wp"
        refine ⟨_, _, _, [], [], rfl, j_good okf (by omega) (by decide) (.inl (SqL.of upd_same)) .nil (fun _ h => nomatch h) rfl ?_⟩
        intro p1 r1 i1 b1 H43 le1 s43 q1
        obtain ⟨rfl, rfl, rfl⟩ := le1.same rfl
        walk_at "wp"
        refine ⟨disp rfl, fun z2 hz2 => ?_⟩
        walk_at "wp"
        refine ⟨_, _, _, rfl, .tup ((Same.new hz2).seqT q1) (.of upd_same) rfl (Nat.le_of_ble_eq_true rfl) flat3, fun H44 s44 => ?_⟩
        walk_at "wp"
        exact qT (decide_eq_true rfl) (q H44)

end
theorem all_mk {l : PySem.W.OpenLaw} {w : World} {K : PySem.W.Frag} {h : Heap} {mg : Str → Option Value} {fa : Addr} (X : K.In h) (G : h.Ns mainGlobals mg) (hfa : mg "law" = some (.ref fa))
    {f_InvalidPattern_init f_InvalidKinds_init f_InvalidRules_init f_InvalidText_init f_InvalidTokens_init f_InvalidEdit_init f_InvalidNumber_init f_InvalidLanguage_init f_InvalidCommand_init f_Clash_init f_Undefined_init f_NothingToDo_init f_is_integer f_is_number f_is_text f_text_asked f_is_edit f_edit_asked f_put_in f_alike_ahead f_alike_behind f_least_edit f_joined_edits f_law_bag f_law_take f_law_sign f_law_text f_law_letters f_law_pick f_law_same f_law_lone f_law_tried f_law_drawn f_law_refused f_law c_TreeError c_InvalidPattern c_InvalidKinds c_InvalidRules c_InvalidText c_InvalidTokens c_InvalidEdit c_InvalidNumber c_InvalidLanguage c_InvalidCommand c_Clash c_Undefined c_NothingToDo : Addr}
    {od0 an0 : Option Addr} {sl0 : Array (Option Value)} {oc0 kV0 dc0 pm0 cd0 ct0 : Value}
    {od1 an1 : Option Addr} {sl1 : Array (Option Value)} {oc1 kV1 dc1 pm1 cd1 ct1 : Value}
    {od2 an2 : Option Addr} {sl2 : Array (Option Value)} {oc2 kV2 dc2 pm2 cd2 ct2 : Value}
    {od3 an3 : Option Addr} {sl3 : Array (Option Value)} {oc3 kV3 dc3 pm3 cd3 ct3 : Value}
    {od4 an4 : Option Addr} {sl4 : Array (Option Value)} {oc4 kV4 dc4 pm4 cd4 ct4 : Value}
    {od5 an5 : Option Addr} {sl5 : Array (Option Value)} {oc5 kV5 dc5 pm5 cd5 ct5 : Value}
    {od6 an6 : Option Addr} {sl6 : Array (Option Value)} {oc6 kV6 dc6 pm6 cd6 ct6 : Value}
    {od7 an7 : Option Addr} {sl7 : Array (Option Value)} {oc7 kV7 dc7 pm7 cd7 ct7 : Value}
    {od8 an8 : Option Addr} {sl8 : Array (Option Value)} {oc8 kV8 dc8 pm8 cd8 ct8 : Value}
    {od9 an9 : Option Addr} {sl9 : Array (Option Value)} {oc9 kV9 dc9 pm9 cd9 ct9 : Value}
    {od10 an10 : Option Addr} {sl10 : Array (Option Value)} {oc10 kV10 dc10 pm10 cd10 ct10 : Value}
    {od11 an11 : Option Addr} {sl11 : Array (Option Value)} {oc11 kV11 dc11 pm11 cd11 ct11 : Value}
    {od12 an12 : Option Addr} {sl12 : Array (Option Value)} {oc12 kV12 dc12 pm12 cd12 ct12 : Value}
    {od13 an13 : Option Addr} {sl13 : Array (Option Value)} {oc13 kV13 dc13 pm13 cd13 ct13 : Value}
    {od14 an14 : Option Addr} {sl14 : Array (Option Value)} {oc14 kV14 dc14 pm14 cd14 ct14 : Value}
    {od15 an15 : Option Addr} {sl15 : Array (Option Value)} {oc15 kV15 dc15 pm15 cd15 ct15 : Value}
    {od16 an16 : Option Addr} {sl16 : Array (Option Value)} {oc16 kV16 dc16 pm16 cd16 ct16 : Value}
    {od17 an17 : Option Addr} {sl17 : Array (Option Value)} {oc17 kV17 dc17 pm17 cd17 ct17 : Value}
    {od18 an18 : Option Addr} {sl18 : Array (Option Value)} {oc18 kV18 dc18 pm18 cd18 ct18 : Value}
    {od19 an19 : Option Addr} {sl19 : Array (Option Value)} {oc19 kV19 dc19 pm19 cd19 ct19 : Value}
    {od20 an20 : Option Addr} {sl20 : Array (Option Value)} {oc20 kV20 dc20 pm20 cd20 ct20 : Value}
    {od21 an21 : Option Addr} {sl21 : Array (Option Value)} {oc21 kV21 dc21 pm21 cd21 ct21 : Value}
    {od22 an22 : Option Addr} {sl22 : Array (Option Value)} {oc22 kV22 dc22 pm22 cd22 ct22 : Value}
    {od23 an23 : Option Addr} {sl23 : Array (Option Value)} {oc23 kV23 dc23 pm23 cd23 ct23 : Value}
    {od24 an24 : Option Addr} {sl24 : Array (Option Value)} {oc24 kV24 dc24 pm24 cd24 ct24 : Value}
    {od25 an25 : Option Addr} {sl25 : Array (Option Value)} {oc25 kV25 dc25 pm25 cd25 ct25 : Value}
    {od26 an26 : Option Addr} {sl26 : Array (Option Value)} {oc26 kV26 dc26 pm26 cd26 ct26 : Value}
    {od27 an27 : Option Addr} {sl27 : Array (Option Value)} {oc27 kV27 dc27 pm27 cd27 ct27 : Value}
    {od28 an28 : Option Addr} {sl28 : Array (Option Value)} {oc28 kV28 dc28 pm28 cd28 ct28 : Value}
    {od29 an29 : Option Addr} {sl29 : Array (Option Value)} {oc29 kV29 dc29 pm29 cd29 ct29 : Value}
    {od30 an30 : Option Addr} {sl30 : Array (Option Value)} {oc30 kV30 dc30 pm30 cd30 ct30 : Value}
    {od31 an31 : Option Addr} {sl31 : Array (Option Value)} {oc31 kV31 dc31 pm31 cd31 ct31 : Value}
    {od32 an32 : Option Addr} {sl32 : Array (Option Value)} {oc32 kV32 dc32 pm32 cd32 ct32 : Value}
    {od33 an33 : Option Addr} {sl33 : Array (Option Value)} {oc33 kV33 dc33 pm33 cd33 ct33 : Value}
    {od34 an34 : Option Addr} {sl34 : Array (Option Value)} {oc34 kV34 dc34 pm34 cd34 ct34 : Value}
    {t_NO_CHANGE : Addr} {ti_NO_CHANGE : Array Value} {tn_NO_CHANGE : Nat} {td_NO_CHANGE : Option Addr} {ts_NO_CHANGE : Array (Option Value)}
    {nm_InvalidText qn_InvalidText : Str} {nn_InvalidText : Addr} {bs_InvalidText bm_InvalidText : List Value} {sn_InvalidText : List Str} {sb_InvalidText : List Value} {ab_InvalidText : Bool} {cl_InvalidText : Option Bool} {dd_InvalidText : Option Addr} {m0_InvalidText m1_InvalidText m2_InvalidText m3_InvalidText m5_InvalidText : Option Value}
    {nm_InvalidEdit qn_InvalidEdit : Str} {nn_InvalidEdit : Addr} {bs_InvalidEdit bm_InvalidEdit : List Value} {sn_InvalidEdit : List Str} {sb_InvalidEdit : List Value} {ab_InvalidEdit : Bool} {cl_InvalidEdit : Option Bool} {dd_InvalidEdit : Option Addr} {m0_InvalidEdit m1_InvalidEdit m2_InvalidEdit m3_InvalidEdit m5_InvalidEdit : Option Value}
    (ac_TreeError : PySem.W.nsIn K mainGlobals "TreeError" = some (some (.ref c_TreeError)))
    (ac_InvalidPattern : PySem.W.nsIn K mainGlobals "InvalidPattern" = some (some (.ref c_InvalidPattern)))
    (ac_InvalidKinds : PySem.W.nsIn K mainGlobals "InvalidKinds" = some (some (.ref c_InvalidKinds)))
    (ac_InvalidRules : PySem.W.nsIn K mainGlobals "InvalidRules" = some (some (.ref c_InvalidRules)))
    (ac_InvalidText : PySem.W.nsIn K mainGlobals "InvalidText" = some (some (.ref c_InvalidText)))
    (ac_InvalidTokens : PySem.W.nsIn K mainGlobals "InvalidTokens" = some (some (.ref c_InvalidTokens)))
    (ac_InvalidEdit : PySem.W.nsIn K mainGlobals "InvalidEdit" = some (some (.ref c_InvalidEdit)))
    (ac_InvalidNumber : PySem.W.nsIn K mainGlobals "InvalidNumber" = some (some (.ref c_InvalidNumber)))
    (ac_InvalidLanguage : PySem.W.nsIn K mainGlobals "InvalidLanguage" = some (some (.ref c_InvalidLanguage)))
    (ac_InvalidCommand : PySem.W.nsIn K mainGlobals "InvalidCommand" = some (some (.ref c_InvalidCommand)))
    (ac_Clash : PySem.W.nsIn K mainGlobals "Clash" = some (some (.ref c_Clash)))
    (ac_Undefined : PySem.W.nsIn K mainGlobals "Undefined" = some (some (.ref c_Undefined)))
    (ac_NothingToDo : PySem.W.nsIn K mainGlobals "NothingToDo" = some (some (.ref c_NothingToDo)))
    (a0 : PySem.W.findIn K (.ref c_InvalidPattern) "__init__" = some (some (.ref f_InvalidPattern_init)))
    (l0 : K.lookup f_InvalidPattern_init = some ⟨oc0, od0, .func (PySem.W.fnOf "__init__" "InvalidPattern.__init__" (defArgs s_InvalidPattern_init) (defBody s_InvalidPattern_init) (defScope s_InvalidPattern_init) .none kV0 dc0 pm0 an0 cd0 ct0), sl0⟩)
    (co0 : PySem.W.codeIn K cd0 "InvalidPattern.__init__" = true)
    (ke0 : PySem.W.keepIn K (.ref f_InvalidPattern_init) = true)
    (a1 : PySem.W.findIn K (.ref c_InvalidKinds) "__init__" = some (some (.ref f_InvalidKinds_init)))
    (l1 : K.lookup f_InvalidKinds_init = some ⟨oc1, od1, .func (PySem.W.fnOf "__init__" "InvalidKinds.__init__" (defArgs s_InvalidKinds_init) (defBody s_InvalidKinds_init) (defScope s_InvalidKinds_init) .none kV1 dc1 pm1 an1 cd1 ct1), sl1⟩)
    (co1 : PySem.W.codeIn K cd1 "InvalidKinds.__init__" = true)
    (ke1 : PySem.W.keepIn K (.ref f_InvalidKinds_init) = true)
    (a2 : PySem.W.findIn K (.ref c_InvalidRules) "__init__" = some (some (.ref f_InvalidRules_init)))
    (l2 : K.lookup f_InvalidRules_init = some ⟨oc2, od2, .func (PySem.W.fnOf "__init__" "InvalidRules.__init__" (defArgs s_InvalidRules_init) (defBody s_InvalidRules_init) (defScope s_InvalidRules_init) .none kV2 dc2 pm2 an2 cd2 ct2), sl2⟩)
    (co2 : PySem.W.codeIn K cd2 "InvalidRules.__init__" = true)
    (ke2 : PySem.W.keepIn K (.ref f_InvalidRules_init) = true)
    (a3 : PySem.W.findIn K (.ref c_InvalidText) "__init__" = some (some (.ref f_InvalidText_init)))
    (l3 : K.lookup f_InvalidText_init = some ⟨oc3, od3, .func (PySem.W.fnOf "__init__" "InvalidText.__init__" (defArgs s_InvalidText_init) (defBody s_InvalidText_init) (defScope s_InvalidText_init) .none kV3 dc3 pm3 an3 cd3 ct3), sl3⟩)
    (co3 : PySem.W.codeIn K cd3 "InvalidText.__init__" = true)
    (ke3 : PySem.W.keepIn K (.ref f_InvalidText_init) = true)
    (a4 : PySem.W.findIn K (.ref c_InvalidTokens) "__init__" = some (some (.ref f_InvalidTokens_init)))
    (l4 : K.lookup f_InvalidTokens_init = some ⟨oc4, od4, .func (PySem.W.fnOf "__init__" "InvalidTokens.__init__" (defArgs s_InvalidTokens_init) (defBody s_InvalidTokens_init) (defScope s_InvalidTokens_init) .none kV4 dc4 pm4 an4 cd4 ct4), sl4⟩)
    (co4 : PySem.W.codeIn K cd4 "InvalidTokens.__init__" = true)
    (ke4 : PySem.W.keepIn K (.ref f_InvalidTokens_init) = true)
    (a5 : PySem.W.findIn K (.ref c_InvalidEdit) "__init__" = some (some (.ref f_InvalidEdit_init)))
    (l5 : K.lookup f_InvalidEdit_init = some ⟨oc5, od5, .func (PySem.W.fnOf "__init__" "InvalidEdit.__init__" (defArgs s_InvalidEdit_init) (defBody s_InvalidEdit_init) (defScope s_InvalidEdit_init) .none kV5 dc5 pm5 an5 cd5 ct5), sl5⟩)
    (co5 : PySem.W.codeIn K cd5 "InvalidEdit.__init__" = true)
    (ke5 : PySem.W.keepIn K (.ref f_InvalidEdit_init) = true)
    (a6 : PySem.W.findIn K (.ref c_InvalidNumber) "__init__" = some (some (.ref f_InvalidNumber_init)))
    (l6 : K.lookup f_InvalidNumber_init = some ⟨oc6, od6, .func (PySem.W.fnOf "__init__" "InvalidNumber.__init__" (defArgs s_InvalidNumber_init) (defBody s_InvalidNumber_init) (defScope s_InvalidNumber_init) .none kV6 dc6 pm6 an6 cd6 ct6), sl6⟩)
    (co6 : PySem.W.codeIn K cd6 "InvalidNumber.__init__" = true)
    (ke6 : PySem.W.keepIn K (.ref f_InvalidNumber_init) = true)
    (a7 : PySem.W.findIn K (.ref c_InvalidLanguage) "__init__" = some (some (.ref f_InvalidLanguage_init)))
    (l7 : K.lookup f_InvalidLanguage_init = some ⟨oc7, od7, .func (PySem.W.fnOf "__init__" "InvalidLanguage.__init__" (defArgs s_InvalidLanguage_init) (defBody s_InvalidLanguage_init) (defScope s_InvalidLanguage_init) .none kV7 dc7 pm7 an7 cd7 ct7), sl7⟩)
    (co7 : PySem.W.codeIn K cd7 "InvalidLanguage.__init__" = true)
    (ke7 : PySem.W.keepIn K (.ref f_InvalidLanguage_init) = true)
    (a8 : PySem.W.findIn K (.ref c_InvalidCommand) "__init__" = some (some (.ref f_InvalidCommand_init)))
    (l8 : K.lookup f_InvalidCommand_init = some ⟨oc8, od8, .func (PySem.W.fnOf "__init__" "InvalidCommand.__init__" (defArgs s_InvalidCommand_init) (defBody s_InvalidCommand_init) (defScope s_InvalidCommand_init) .none kV8 dc8 pm8 an8 cd8 ct8), sl8⟩)
    (co8 : PySem.W.codeIn K cd8 "InvalidCommand.__init__" = true)
    (ke8 : PySem.W.keepIn K (.ref f_InvalidCommand_init) = true)
    (a9 : PySem.W.findIn K (.ref c_Clash) "__init__" = some (some (.ref f_Clash_init)))
    (l9 : K.lookup f_Clash_init = some ⟨oc9, od9, .func (PySem.W.fnOf "__init__" "Clash.__init__" (defArgs s_Clash_init) (defBody s_Clash_init) (defScope s_Clash_init) .none kV9 dc9 pm9 an9 cd9 ct9), sl9⟩)
    (co9 : PySem.W.codeIn K cd9 "Clash.__init__" = true)
    (ke9 : PySem.W.keepIn K (.ref f_Clash_init) = true)
    (a10 : PySem.W.findIn K (.ref c_Undefined) "__init__" = some (some (.ref f_Undefined_init)))
    (l10 : K.lookup f_Undefined_init = some ⟨oc10, od10, .func (PySem.W.fnOf "__init__" "Undefined.__init__" (defArgs s_Undefined_init) (defBody s_Undefined_init) (defScope s_Undefined_init) .none kV10 dc10 pm10 an10 cd10 ct10), sl10⟩)
    (co10 : PySem.W.codeIn K cd10 "Undefined.__init__" = true)
    (ke10 : PySem.W.keepIn K (.ref f_Undefined_init) = true)
    (a11 : PySem.W.findIn K (.ref c_NothingToDo) "__init__" = some (some (.ref f_NothingToDo_init)))
    (l11 : K.lookup f_NothingToDo_init = some ⟨oc11, od11, .func (PySem.W.fnOf "__init__" "NothingToDo.__init__" (defArgs s_NothingToDo_init) (defBody s_NothingToDo_init) (defScope s_NothingToDo_init) .none kV11 dc11 pm11 an11 cd11 ct11), sl11⟩)
    (co11 : PySem.W.codeIn K cd11 "NothingToDo.__init__" = true)
    (ke11 : PySem.W.keepIn K (.ref f_NothingToDo_init) = true)
    (a12 : PySem.W.nsIn K mainGlobals "is_integer" = some (some (.ref f_is_integer)))
    (l12 : K.lookup f_is_integer = some ⟨oc12, od12, .func (PySem.W.fnOf "is_integer" "is_integer" (defArgs s_is_integer) (defBody s_is_integer) (defScope s_is_integer) .none kV12 dc12 pm12 an12 cd12 ct12), sl12⟩)
    (co12 : PySem.W.codeIn K cd12 "is_integer" = true)
    (ke12 : PySem.W.keepIn K (.ref f_is_integer) = true)
    (a13 : PySem.W.nsIn K mainGlobals "is_number" = some (some (.ref f_is_number)))
    (l13 : K.lookup f_is_number = some ⟨oc13, od13, .func (PySem.W.fnOf "is_number" "is_number" (defArgs s_is_number) (defBody s_is_number) (defScope s_is_number) .none kV13 dc13 pm13 an13 cd13 ct13), sl13⟩)
    (co13 : PySem.W.codeIn K cd13 "is_number" = true)
    (ke13 : PySem.W.keepIn K (.ref f_is_number) = true)
    (a14 : PySem.W.nsIn K mainGlobals "is_text" = some (some (.ref f_is_text)))
    (l14 : K.lookup f_is_text = some ⟨oc14, od14, .func (PySem.W.fnOf "is_text" "is_text" (defArgs s_is_text) (defBody s_is_text) (defScope s_is_text) .none kV14 dc14 pm14 an14 cd14 ct14), sl14⟩)
    (co14 : PySem.W.codeIn K cd14 "is_text" = true)
    (ke14 : PySem.W.keepIn K (.ref f_is_text) = true)
    (a15 : PySem.W.nsIn K mainGlobals "text_asked" = some (some (.ref f_text_asked)))
    (l15 : K.lookup f_text_asked = some ⟨oc15, od15, .func (PySem.W.fnOf "text_asked" "text_asked" (defArgs s_text_asked) (defBody s_text_asked) (defScope s_text_asked) .none kV15 dc15 pm15 an15 cd15 ct15), sl15⟩)
    (co15 : PySem.W.codeIn K cd15 "text_asked" = true)
    (ke15 : PySem.W.keepIn K (.ref f_text_asked) = true)
    (a16 : PySem.W.nsIn K mainGlobals "is_edit" = some (some (.ref f_is_edit)))
    (l16 : K.lookup f_is_edit = some ⟨oc16, od16, .func (PySem.W.fnOf "is_edit" "is_edit" (defArgs s_is_edit) (defBody s_is_edit) (defScope s_is_edit) .none kV16 dc16 pm16 an16 cd16 ct16), sl16⟩)
    (co16 : PySem.W.codeIn K cd16 "is_edit" = true)
    (ke16 : PySem.W.keepIn K (.ref f_is_edit) = true)
    (a17 : PySem.W.nsIn K mainGlobals "edit_asked" = some (some (.ref f_edit_asked)))
    (l17 : K.lookup f_edit_asked = some ⟨oc17, od17, .func (PySem.W.fnOf "edit_asked" "edit_asked" (defArgs s_edit_asked) (defBody s_edit_asked) (defScope s_edit_asked) .none kV17 dc17 pm17 an17 cd17 ct17), sl17⟩)
    (co17 : PySem.W.codeIn K cd17 "edit_asked" = true)
    (ke17 : PySem.W.keepIn K (.ref f_edit_asked) = true)
    (a18 : PySem.W.nsIn K mainGlobals "put_in" = some (some (.ref f_put_in)))
    (l18 : K.lookup f_put_in = some ⟨oc18, od18, .func (PySem.W.fnOf "put_in" "put_in" (defArgs s_put_in) (defBody s_put_in) (defScope s_put_in) .none kV18 dc18 pm18 an18 cd18 ct18), sl18⟩)
    (co18 : PySem.W.codeIn K cd18 "put_in" = true)
    (ke18 : PySem.W.keepIn K (.ref f_put_in) = true)
    (a19 : PySem.W.nsIn K mainGlobals "alike_ahead" = some (some (.ref f_alike_ahead)))
    (l19 : K.lookup f_alike_ahead = some ⟨oc19, od19, .func (PySem.W.fnOf "alike_ahead" "alike_ahead" (defArgs s_alike_ahead) (defBody s_alike_ahead) (defScope s_alike_ahead) .none kV19 dc19 pm19 an19 cd19 ct19), sl19⟩)
    (co19 : PySem.W.codeIn K cd19 "alike_ahead" = true)
    (ke19 : PySem.W.keepIn K (.ref f_alike_ahead) = true)
    (a20 : PySem.W.nsIn K mainGlobals "alike_behind" = some (some (.ref f_alike_behind)))
    (l20 : K.lookup f_alike_behind = some ⟨oc20, od20, .func (PySem.W.fnOf "alike_behind" "alike_behind" (defArgs s_alike_behind) (defBody s_alike_behind) (defScope s_alike_behind) .none kV20 dc20 pm20 an20 cd20 ct20), sl20⟩)
    (co20 : PySem.W.codeIn K cd20 "alike_behind" = true)
    (ke20 : PySem.W.keepIn K (.ref f_alike_behind) = true)
    (a21 : PySem.W.nsIn K mainGlobals "least_edit" = some (some (.ref f_least_edit)))
    (l21 : K.lookup f_least_edit = some ⟨oc21, od21, .func (PySem.W.fnOf "least_edit" "least_edit" (defArgs s_least_edit) (defBody s_least_edit) (defScope s_least_edit) .none kV21 dc21 pm21 an21 cd21 ct21), sl21⟩)
    (co21 : PySem.W.codeIn K cd21 "least_edit" = true)
    (ke21 : PySem.W.keepIn K (.ref f_least_edit) = true)
    (a22 : PySem.W.nsIn K mainGlobals "joined_edits" = some (some (.ref f_joined_edits)))
    (l22 : K.lookup f_joined_edits = some ⟨oc22, od22, .func (PySem.W.fnOf "joined_edits" "joined_edits" (defArgs s_joined_edits) (defBody s_joined_edits) (defScope s_joined_edits) .none kV22 dc22 pm22 an22 cd22 ct22), sl22⟩)
    (co22 : PySem.W.codeIn K cd22 "joined_edits" = true)
    (ke22 : PySem.W.keepIn K (.ref f_joined_edits) = true)
    (a23 : PySem.W.nsIn K mainGlobals "_law_bag" = some (some (.ref f_law_bag)))
    (l23 : K.lookup f_law_bag = some ⟨oc23, od23, .func (PySem.W.fnOf "_law_bag" "_law_bag" (defArgs s_law_bag) (defBody s_law_bag) (defScope s_law_bag) .none kV23 dc23 pm23 an23 cd23 ct23), sl23⟩)
    (co23 : PySem.W.codeIn K cd23 "_law_bag" = true)
    (ke23 : PySem.W.keepIn K (.ref f_law_bag) = true)
    (a24 : PySem.W.nsIn K mainGlobals "_law_take" = some (some (.ref f_law_take)))
    (l24 : K.lookup f_law_take = some ⟨oc24, od24, .func (PySem.W.fnOf "_law_take" "_law_take" (defArgs s_law_take) (defBody s_law_take) (defScope s_law_take) .none kV24 dc24 pm24 an24 cd24 ct24), sl24⟩)
    (co24 : PySem.W.codeIn K cd24 "_law_take" = true)
    (ke24 : PySem.W.keepIn K (.ref f_law_take) = true)
    (a25 : PySem.W.nsIn K mainGlobals "_law_sign" = some (some (.ref f_law_sign)))
    (l25 : K.lookup f_law_sign = some ⟨oc25, od25, .func (PySem.W.fnOf "_law_sign" "_law_sign" (defArgs s_law_sign) (defBody s_law_sign) (defScope s_law_sign) .none kV25 dc25 pm25 an25 cd25 ct25), sl25⟩)
    (co25 : PySem.W.codeIn K cd25 "_law_sign" = true)
    (ke25 : PySem.W.keepIn K (.ref f_law_sign) = true)
    (a26 : PySem.W.nsIn K mainGlobals "_law_text" = some (some (.ref f_law_text)))
    (l26 : K.lookup f_law_text = some ⟨oc26, od26, .func (PySem.W.fnOf "_law_text" "_law_text" (defArgs s_law_text) (defBody s_law_text) (defScope s_law_text) .none kV26 dc26 pm26 an26 cd26 ct26), sl26⟩)
    (co26 : PySem.W.codeIn K cd26 "_law_text" = true)
    (ke26 : PySem.W.keepIn K (.ref f_law_text) = true)
    (a27 : PySem.W.nsIn K mainGlobals "_law_letters" = some (some (.ref f_law_letters)))
    (l27 : K.lookup f_law_letters = some ⟨oc27, od27, .func (PySem.W.fnOf "_law_letters" "_law_letters" (defArgs s_law_letters) (defBody s_law_letters) (defScope s_law_letters) .none kV27 dc27 pm27 an27 cd27 ct27), sl27⟩)
    (co27 : PySem.W.codeIn K cd27 "_law_letters" = true)
    (ke27 : PySem.W.keepIn K (.ref f_law_letters) = true)
    (a28 : PySem.W.nsIn K mainGlobals "_law_pick" = some (some (.ref f_law_pick)))
    (l28 : K.lookup f_law_pick = some ⟨oc28, od28, .func (PySem.W.fnOf "_law_pick" "_law_pick" (defArgs s_law_pick) (defBody s_law_pick) (defScope s_law_pick) .none kV28 dc28 pm28 an28 cd28 ct28), sl28⟩)
    (co28 : PySem.W.codeIn K cd28 "_law_pick" = true)
    (ke28 : PySem.W.keepIn K (.ref f_law_pick) = true)
    (a29 : PySem.W.nsIn K mainGlobals "_law_same" = some (some (.ref f_law_same)))
    (l29 : K.lookup f_law_same = some ⟨oc29, od29, .func (PySem.W.fnOf "_law_same" "_law_same" (defArgs s_law_same) (defBody s_law_same) (defScope s_law_same) .none kV29 dc29 pm29 an29 cd29 ct29), sl29⟩)
    (co29 : PySem.W.codeIn K cd29 "_law_same" = true)
    (ke29 : PySem.W.keepIn K (.ref f_law_same) = true)
    (a30 : PySem.W.nsIn K mainGlobals "_law_lone" = some (some (.ref f_law_lone)))
    (l30 : K.lookup f_law_lone = some ⟨oc30, od30, .func (PySem.W.fnOf "_law_lone" "_law_lone" (defArgs s_law_lone) (defBody s_law_lone) (defScope s_law_lone) .none kV30 dc30 pm30 an30 cd30 ct30), sl30⟩)
    (co30 : PySem.W.codeIn K cd30 "_law_lone" = true)
    (ke30 : PySem.W.keepIn K (.ref f_law_lone) = true)
    (a31 : PySem.W.nsIn K mainGlobals "_law_tried" = some (some (.ref f_law_tried)))
    (l31 : K.lookup f_law_tried = some ⟨oc31, od31, .func (PySem.W.fnOf "_law_tried" "_law_tried" (defArgs s_law_tried) (defBody s_law_tried) (defScope s_law_tried) .none kV31 dc31 pm31 an31 cd31 ct31), sl31⟩)
    (co31 : PySem.W.codeIn K cd31 "_law_tried" = true)
    (ke31 : PySem.W.keepIn K (.ref f_law_tried) = true)
    (a32 : PySem.W.nsIn K mainGlobals "_law_drawn" = some (some (.ref f_law_drawn)))
    (l32 : K.lookup f_law_drawn = some ⟨oc32, od32, .func (PySem.W.fnOf "_law_drawn" "_law_drawn" (defArgs s_law_drawn) (defBody s_law_drawn) (defScope s_law_drawn) .none kV32 dc32 pm32 an32 cd32 ct32), sl32⟩)
    (co32 : PySem.W.codeIn K cd32 "_law_drawn" = true)
    (ke32 : PySem.W.keepIn K (.ref f_law_drawn) = true)
    (a33 : PySem.W.nsIn K mainGlobals "_law_refused" = some (some (.ref f_law_refused)))
    (l33 : K.lookup f_law_refused = some ⟨oc33, od33, .func (PySem.W.fnOf "_law_refused" "_law_refused" (defArgs s_law_refused) (defBody s_law_refused) (defScope s_law_refused) .none kV33 dc33 pm33 an33 cd33 ct33), sl33⟩)
    (co33 : PySem.W.codeIn K cd33 "_law_refused" = true)
    (ke33 : PySem.W.keepIn K (.ref f_law_refused) = true)
    (a34 : PySem.W.nsIn K mainGlobals "law" = some (some (.ref f_law)))
    (l34 : K.lookup f_law = some ⟨oc34, od34, .func (PySem.W.fnOf "law" "law" (defArgs s_law) (defBody s_law) (defScope s_law) .none kV34 dc34 pm34 an34 cd34 ct34), sl34⟩)
    (co34 : PySem.W.codeIn K cd34 "law" = true)
    (ke34 : PySem.W.keepIn K (.ref f_law) = true)
    (ta_NO_CHANGE : PySem.W.nsIn K mainGlobals "NO_CHANGE" = some (some (.ref t_NO_CHANGE)))
    (tb_NO_CHANGE : K.lookup t_NO_CHANGE = some ⟨.type "tuple", td_NO_CHANGE, .seq ti_NO_CHANGE tn_NO_CHANGE, ts_NO_CHANGE⟩)
    (tc_NO_CHANGE : absVs ti_NO_CHANGE.toList = some [.int 0, .int 0, .str ""])
    (te_NO_CHANGE : Nat.ble ti_NO_CHANGE.size 1000000 = true)
    (z_ValueError : PySem.W.nsIn K mainGlobals "ValueError" = some none)
    (z_abs : PySem.W.nsIn K mainGlobals "abs" = some none)
    (z_all : PySem.W.nsIn K mainGlobals "all" = some none)
    (z_bool : PySem.W.nsIn K mainGlobals "bool" = some none)
    (z_int : PySem.W.nsIn K mainGlobals "int" = some none)
    (z_isinstance : PySem.W.nsIn K mainGlobals "isinstance" = some none)
    (z_len : PySem.W.nsIn K mainGlobals "len" = some none)
    (z_list : PySem.W.nsIn K mainGlobals "list" = some none)
    (z_max : PySem.W.nsIn K mainGlobals "max" = some none)
    (z_min : PySem.W.nsIn K mainGlobals "min" = some none)
    (z_range : PySem.W.nsIn K mainGlobals "range" = some none)
    (z_repr : PySem.W.nsIn K mainGlobals "repr" = some none)
    (z_str : PySem.W.nsIn K mainGlobals "str" = some none)
    (z_tuple : PySem.W.nsIn K mainGlobals "tuple" = some none)
    (b_e : PySem.W.subIn K (.ref c_TreeError) (.type "BaseException") = some true)
    (b_h : PySem.W.hasDictIn K c_TreeError = true)
    (b_t : PySem.W.typeIn K (.ref c_TreeError) = some (.type "type"))
    (s_n : PySem.W.specialIn K (.builtin "object.__class__") "__get__" = some (some (.builtin "getset_descriptor.__get__")))
    (s_t : PySem.W.takesIn K (.builtin "object.__class__") = some true)
    (x1_InvalidText : K.lookup c_InvalidText = some (excClassObj nm_InvalidText qn_InvalidText c_InvalidText nn_InvalidText bs_InvalidText bm_InvalidText true sn_InvalidText sb_InvalidText ab_InvalidText cl_InvalidText dd_InvalidText m0_InvalidText m1_InvalidText m2_InvalidText m3_InvalidText m5_InvalidText "ValueError.__new__"))
    (x2_InvalidText : PySem.HandSPX.refsVE bm_InvalidText = true)
    (x3_InvalidText : PySem.W.findIn K (.ref c_InvalidText) "__setattr__" = some (some (.builtin "object.__setattr__")))
    (x4_InvalidText : PySem.W.subIn K (.ref c_InvalidText) (.type "BaseException") = some true)
    (x5_InvalidText : PySem.W.typeIn K (.ref c_InvalidText) = some (.type "type"))
    (x6_InvalidText : PySem.W.keepIn K (.ref c_InvalidText) = true)
    (x7_InvalidText : PySem.W.findIn K (.ref c_InvalidText) "__getattribute__" = some (some (.builtin "BaseException.__getattribute__")))
    (x8_InvalidText : PySem.W.findIn K (.ref c_InvalidText) "__getattr__" = some none)
    (x9_InvalidText : PySem.W.hasDictIn K c_InvalidText = true)
    (y1_InvalidText : PySem.W.findIn K (.ref c_InvalidText) "__class__" = some (some (.builtin "object.__class__")))
    (y2_InvalidText : PySem.W.mroIn K c_InvalidText (.type "object") = some true)
    (y3_InvalidText : PySem.W.subIn K (.ref c_InvalidText) (.ref c_TreeError) = some true)
    (y4_InvalidText : PySem.W.typeIn K (.ref f_InvalidText_init) = some (.type "function"))
    (n_InvalidText_value : PySem.W.findIn K (.ref c_InvalidText) "value" = some none)
    (x1_InvalidEdit : K.lookup c_InvalidEdit = some (excClassObj nm_InvalidEdit qn_InvalidEdit c_InvalidEdit nn_InvalidEdit bs_InvalidEdit bm_InvalidEdit true sn_InvalidEdit sb_InvalidEdit ab_InvalidEdit cl_InvalidEdit dd_InvalidEdit m0_InvalidEdit m1_InvalidEdit m2_InvalidEdit m3_InvalidEdit m5_InvalidEdit "ValueError.__new__"))
    (x2_InvalidEdit : PySem.HandSPX.refsVE bm_InvalidEdit = true)
    (x3_InvalidEdit : PySem.W.findIn K (.ref c_InvalidEdit) "__setattr__" = some (some (.builtin "object.__setattr__")))
    (x4_InvalidEdit : PySem.W.subIn K (.ref c_InvalidEdit) (.type "BaseException") = some true)
    (x5_InvalidEdit : PySem.W.typeIn K (.ref c_InvalidEdit) = some (.type "type"))
    (x6_InvalidEdit : PySem.W.keepIn K (.ref c_InvalidEdit) = true)
    (x7_InvalidEdit : PySem.W.findIn K (.ref c_InvalidEdit) "__getattribute__" = some (some (.builtin "BaseException.__getattribute__")))
    (x8_InvalidEdit : PySem.W.findIn K (.ref c_InvalidEdit) "__getattr__" = some none)
    (x9_InvalidEdit : PySem.W.hasDictIn K c_InvalidEdit = true)
    (y1_InvalidEdit : PySem.W.findIn K (.ref c_InvalidEdit) "__class__" = some (some (.builtin "object.__class__")))
    (y2_InvalidEdit : PySem.W.mroIn K c_InvalidEdit (.type "object") = some true)
    (y3_InvalidEdit : PySem.W.subIn K (.ref c_InvalidEdit) (.ref c_TreeError) = some true)
    (y4_InvalidEdit : PySem.W.typeIn K (.ref f_InvalidEdit_init) = some (.type "function"))
    (n_InvalidEdit_value : PySem.W.findIn K (.ref c_InvalidEdit) "value" = some none)
    (k_Text_InvalidPattern : PySem.W.kitOne K (.ref c_InvalidText) (.ref c_InvalidPattern) = some false)
    (k_Text_InvalidKinds : PySem.W.kitOne K (.ref c_InvalidText) (.ref c_InvalidKinds) = some false)
    (k_Text_InvalidRules : PySem.W.kitOne K (.ref c_InvalidText) (.ref c_InvalidRules) = some false)
    (k_Text_InvalidText : PySem.W.kitOne K (.ref c_InvalidText) (.ref c_InvalidText) = some true)
    (k_Text_InvalidTokens : PySem.W.kitOne K (.ref c_InvalidText) (.ref c_InvalidTokens) = some false)
    (k_Text_InvalidEdit : PySem.W.kitOne K (.ref c_InvalidText) (.ref c_InvalidEdit) = some false)
    (k_Text_InvalidNumber : PySem.W.kitOne K (.ref c_InvalidText) (.ref c_InvalidNumber) = some false)
    (k_Text_InvalidLanguage : PySem.W.kitOne K (.ref c_InvalidText) (.ref c_InvalidLanguage) = some false)
    (k_Text_InvalidCommand : PySem.W.kitOne K (.ref c_InvalidText) (.ref c_InvalidCommand) = some false)
    (k_Text_Clash : PySem.W.kitOne K (.ref c_InvalidText) (.ref c_Clash) = some false)
    (k_Text_Undefined : PySem.W.kitOne K (.ref c_InvalidText) (.ref c_Undefined) = some false)
    (k_Text_NothingToDo : PySem.W.kitOne K (.ref c_InvalidText) (.ref c_NothingToDo) = some false)
    (k_Edit_InvalidPattern : PySem.W.kitOne K (.ref c_InvalidEdit) (.ref c_InvalidPattern) = some false)
    (k_Edit_InvalidKinds : PySem.W.kitOne K (.ref c_InvalidEdit) (.ref c_InvalidKinds) = some false)
    (k_Edit_InvalidRules : PySem.W.kitOne K (.ref c_InvalidEdit) (.ref c_InvalidRules) = some false)
    (k_Edit_InvalidText : PySem.W.kitOne K (.ref c_InvalidEdit) (.ref c_InvalidText) = some false)
    (k_Edit_InvalidTokens : PySem.W.kitOne K (.ref c_InvalidEdit) (.ref c_InvalidTokens) = some false)
    (k_Edit_InvalidEdit : PySem.W.kitOne K (.ref c_InvalidEdit) (.ref c_InvalidEdit) = some true)
    (k_Edit_InvalidNumber : PySem.W.kitOne K (.ref c_InvalidEdit) (.ref c_InvalidNumber) = some false)
    (k_Edit_InvalidLanguage : PySem.W.kitOne K (.ref c_InvalidEdit) (.ref c_InvalidLanguage) = some false)
    (k_Edit_InvalidCommand : PySem.W.kitOne K (.ref c_InvalidEdit) (.ref c_InvalidCommand) = some false)
    (k_Edit_Clash : PySem.W.kitOne K (.ref c_InvalidEdit) (.ref c_Clash) = some false)
    (k_Edit_Undefined : PySem.W.kitOne K (.ref c_InvalidEdit) (.ref c_Undefined) = some false)
    (k_Edit_NothingToDo : PySem.W.kitOne K (.ref c_InvalidEdit) (.ref c_NothingToDo) = some false)
    (k_Text_VE : PySem.W.kitOne K (.ref c_InvalidText) (.type "ValueError") = some true)
    (k_Edit_VE : PySem.W.kitOne K (.ref c_InvalidEdit) (.type "ValueError") = some true)
    : ∃ fd : FuncData, (∀ (s : Shared) (v : Value), BindsTo s fd ⟨[v], []⟩ [("script", v)]) ∧ ∀ base : Heap, K.In base → base.Ns mainGlobals mg → FnOkN 0 l.prog w K mg base CX0 7 fa fd ["script"] (sp_law K) := by
  have e := hfa.symm.trans (PySem.W.mg_of X G a34)
  cases e
  have T : Txt K mg { InvalidPattern_init := f_InvalidPattern_init, InvalidPattern_init_d := _, InvalidKinds_init := f_InvalidKinds_init, InvalidKinds_init_d := _, InvalidRules_init := f_InvalidRules_init, InvalidRules_init_d := _, InvalidText_init := f_InvalidText_init, InvalidText_init_d := _, InvalidTokens_init := f_InvalidTokens_init, InvalidTokens_init_d := _, InvalidEdit_init := f_InvalidEdit_init, InvalidEdit_init_d := _, InvalidNumber_init := f_InvalidNumber_init, InvalidNumber_init_d := _, InvalidLanguage_init := f_InvalidLanguage_init, InvalidLanguage_init_d := _, InvalidCommand_init := f_InvalidCommand_init, InvalidCommand_init_d := _, Clash_init := f_Clash_init, Clash_init_d := _, Undefined_init := f_Undefined_init, Undefined_init_d := _, NothingToDo_init := f_NothingToDo_init, NothingToDo_init_d := _, is_integer := f_is_integer, is_integer_d := _, is_number := f_is_number, is_number_d := _, is_text := f_is_text, is_text_d := _, text_asked := f_text_asked, text_asked_d := _, is_edit := f_is_edit, is_edit_d := _, edit_asked := f_edit_asked, edit_asked_d := _, put_in := f_put_in, put_in_d := _, alike_ahead := f_alike_ahead, alike_ahead_d := _, alike_behind := f_alike_behind, alike_behind_d := _, least_edit := f_least_edit, least_edit_d := _, joined_edits := f_joined_edits, joined_edits_d := _, law_bag := f_law_bag, law_bag_d := _, law_take := f_law_take, law_take_d := _, law_sign := f_law_sign, law_sign_d := _, law_text := f_law_text, law_text_d := _, law_letters := f_law_letters, law_letters_d := _, law_pick := f_law_pick, law_pick_d := _, law_same := f_law_same, law_same_d := _, law_lone := f_law_lone, law_lone_d := _, law_tried := f_law_tried, law_tried_d := _, law_drawn := f_law_drawn, law_drawn_d := _, law_refused := f_law_refused, law_refused_d := _, law := fa, law_d := _, TreeError := c_TreeError, InvalidPattern := c_InvalidPattern, InvalidKinds := c_InvalidKinds, InvalidRules := c_InvalidRules, InvalidText := c_InvalidText, InvalidTokens := c_InvalidTokens, InvalidEdit := c_InvalidEdit, InvalidNumber := c_InvalidNumber, InvalidLanguage := c_InvalidLanguage, InvalidCommand := c_InvalidCommand, Clash := c_Clash, Undefined := c_Undefined, NothingToDo := c_NothingToDo, NO_CHANGE := t_NO_CHANGE } :=
    { m_TreeError := PySem.W.mg_of X G ac_TreeError
      m_InvalidPattern := PySem.W.mg_of X G ac_InvalidPattern
      m_InvalidKinds := PySem.W.mg_of X G ac_InvalidKinds
      m_InvalidRules := PySem.W.mg_of X G ac_InvalidRules
      m_InvalidText := PySem.W.mg_of X G ac_InvalidText
      m_InvalidTokens := PySem.W.mg_of X G ac_InvalidTokens
      m_InvalidEdit := PySem.W.mg_of X G ac_InvalidEdit
      m_InvalidNumber := PySem.W.mg_of X G ac_InvalidNumber
      m_InvalidLanguage := PySem.W.mg_of X G ac_InvalidLanguage
      m_InvalidCommand := PySem.W.mg_of X G ac_InvalidCommand
      m_Clash := PySem.W.mg_of X G ac_Clash
      m_Undefined := PySem.W.mg_of X G ac_Undefined
      m_NothingToDo := PySem.W.mg_of X G ac_NothingToDo
      F_InvalidPattern_init := fun_mk (st := s_InvalidPattern_init) l0 co0 ke0
      F_InvalidKinds_init := fun_mk (st := s_InvalidKinds_init) l1 co1 ke1
      F_InvalidRules_init := fun_mk (st := s_InvalidRules_init) l2 co2 ke2
      F_InvalidText_init := fun_mk (st := s_InvalidText_init) l3 co3 ke3
      F_InvalidTokens_init := fun_mk (st := s_InvalidTokens_init) l4 co4 ke4
      F_InvalidEdit_init := fun_mk (st := s_InvalidEdit_init) l5 co5 ke5
      F_InvalidNumber_init := fun_mk (st := s_InvalidNumber_init) l6 co6 ke6
      F_InvalidLanguage_init := fun_mk (st := s_InvalidLanguage_init) l7 co7 ke7
      F_InvalidCommand_init := fun_mk (st := s_InvalidCommand_init) l8 co8 ke8
      F_Clash_init := fun_mk (st := s_Clash_init) l9 co9 ke9
      F_Undefined_init := fun_mk (st := s_Undefined_init) l10 co10 ke10
      F_NothingToDo_init := fun_mk (st := s_NothingToDo_init) l11 co11 ke11
      m_is_integer := PySem.W.mg_of X G a12
      F_is_integer := fun_mk (st := s_is_integer) l12 co12 ke12
      m_is_number := PySem.W.mg_of X G a13
      F_is_number := fun_mk (st := s_is_number) l13 co13 ke13
      m_is_text := PySem.W.mg_of X G a14
      F_is_text := fun_mk (st := s_is_text) l14 co14 ke14
      m_text_asked := PySem.W.mg_of X G a15
      F_text_asked := fun_mk (st := s_text_asked) l15 co15 ke15
      m_is_edit := PySem.W.mg_of X G a16
      F_is_edit := fun_mk (st := s_is_edit) l16 co16 ke16
      m_edit_asked := PySem.W.mg_of X G a17
      F_edit_asked := fun_mk (st := s_edit_asked) l17 co17 ke17
      m_put_in := PySem.W.mg_of X G a18
      F_put_in := fun_mk (st := s_put_in) l18 co18 ke18
      m_alike_ahead := PySem.W.mg_of X G a19
      F_alike_ahead := fun_mk (st := s_alike_ahead) l19 co19 ke19
      m_alike_behind := PySem.W.mg_of X G a20
      F_alike_behind := fun_mk (st := s_alike_behind) l20 co20 ke20
      m_least_edit := PySem.W.mg_of X G a21
      F_least_edit := fun_mk (st := s_least_edit) l21 co21 ke21
      m_joined_edits := PySem.W.mg_of X G a22
      F_joined_edits := fun_mk (st := s_joined_edits) l22 co22 ke22
      m_law_bag := PySem.W.mg_of X G a23
      F_law_bag := fun_mk (st := s_law_bag) l23 co23 ke23
      m_law_take := PySem.W.mg_of X G a24
      F_law_take := fun_mk (st := s_law_take) l24 co24 ke24
      m_law_sign := PySem.W.mg_of X G a25
      F_law_sign := fun_mk (st := s_law_sign) l25 co25 ke25
      m_law_text := PySem.W.mg_of X G a26
      F_law_text := fun_mk (st := s_law_text) l26 co26 ke26
      m_law_letters := PySem.W.mg_of X G a27
      F_law_letters := fun_mk (st := s_law_letters) l27 co27 ke27
      m_law_pick := PySem.W.mg_of X G a28
      F_law_pick := fun_mk (st := s_law_pick) l28 co28 ke28
      m_law_same := PySem.W.mg_of X G a29
      F_law_same := fun_mk (st := s_law_same) l29 co29 ke29
      m_law_lone := PySem.W.mg_of X G a30
      F_law_lone := fun_mk (st := s_law_lone) l30 co30 ke30
      m_law_tried := PySem.W.mg_of X G a31
      F_law_tried := fun_mk (st := s_law_tried) l31 co31 ke31
      m_law_drawn := PySem.W.mg_of X G a32
      F_law_drawn := fun_mk (st := s_law_drawn) l32 co32 ke32
      m_law_refused := PySem.W.mg_of X G a33
      F_law_refused := fun_mk (st := s_law_refused) l33 co33 ke33
      m_law := PySem.W.mg_of X G a34
      F_law := fun_mk (st := s_law) l34 co34 ke34
      m_NO_CHANGE := PySem.W.mg_of X G ta_NO_CHANGE
      t_NO_CHANGE := KTup.of tb_NO_CHANGE tc_NO_CHANGE te_NO_CHANGE
      z_ValueError := PySem.W.mg_none_of X G z_ValueError
      z_abs := PySem.W.mg_none_of X G z_abs
      z_all := PySem.W.mg_none_of X G z_all
      z_bool := PySem.W.mg_none_of X G z_bool
      z_int := PySem.W.mg_none_of X G z_int
      z_isinstance := PySem.W.mg_none_of X G z_isinstance
      z_len := PySem.W.mg_none_of X G z_len
      z_list := PySem.W.mg_none_of X G z_list
      z_max := PySem.W.mg_none_of X G z_max
      z_min := PySem.W.mg_none_of X G z_min
      z_range := PySem.W.mg_none_of X G z_range
      z_repr := PySem.W.mg_none_of X G z_repr
      z_str := PySem.W.mg_none_of X G z_str
      z_tuple := PySem.W.mg_none_of X G z_tuple
      e_InvalidText := exAll_mk x1_InvalidText x2_InvalidText x3_InvalidText x4_InvalidText x5_InvalidText x6_InvalidText x7_InvalidText x8_InvalidText x9_InvalidText y1_InvalidText y2_InvalidText y3_InvalidText a3 y4_InvalidText b_e b_h b_t s_n s_t
      n_InvalidText_value := n_InvalidText_value
      e_InvalidEdit := exAll_mk x1_InvalidEdit x2_InvalidEdit x3_InvalidEdit x4_InvalidEdit x5_InvalidEdit x6_InvalidEdit x7_InvalidEdit x8_InvalidEdit x9_InvalidEdit y1_InvalidEdit y2_InvalidEdit y3_InvalidEdit a5 y4_InvalidEdit b_e b_h b_t s_n s_t
      n_InvalidEdit_value := n_InvalidEdit_value
      k_Text_InvalidPattern := k_Text_InvalidPattern
      k_Text_InvalidKinds := k_Text_InvalidKinds
      k_Text_InvalidRules := k_Text_InvalidRules
      k_Text_InvalidText := k_Text_InvalidText
      k_Text_InvalidTokens := k_Text_InvalidTokens
      k_Text_InvalidEdit := k_Text_InvalidEdit
      k_Text_InvalidNumber := k_Text_InvalidNumber
      k_Text_InvalidLanguage := k_Text_InvalidLanguage
      k_Text_InvalidCommand := k_Text_InvalidCommand
      k_Text_Clash := k_Text_Clash
      k_Text_Undefined := k_Text_Undefined
      k_Text_NothingToDo := k_Text_NothingToDo
      k_Edit_InvalidPattern := k_Edit_InvalidPattern
      k_Edit_InvalidKinds := k_Edit_InvalidKinds
      k_Edit_InvalidRules := k_Edit_InvalidRules
      k_Edit_InvalidText := k_Edit_InvalidText
      k_Edit_InvalidTokens := k_Edit_InvalidTokens
      k_Edit_InvalidEdit := k_Edit_InvalidEdit
      k_Edit_InvalidNumber := k_Edit_InvalidNumber
      k_Edit_InvalidLanguage := k_Edit_InvalidLanguage
      k_Edit_InvalidCommand := k_Edit_InvalidCommand
      k_Edit_Clash := k_Edit_Clash
      k_Edit_Undefined := k_Edit_Undefined
      k_Edit_NothingToDo := k_Edit_NothingToDo
      k_Text_VE := k_Text_VE
      k_Edit_VE := k_Edit_VE }
  exact ⟨PySem.W.fnOf "law" "law" (defArgs s_law) (defBody s_law) (defScope s_law) .none kV34 dc34 pm34 an34 cd34 ct34, fun s v => .of_eq rfl, fun base _ _ => ok_law T⟩
end K10
open PySem PySem.W PyProof.Rows
set_option maxHeartbeats 0 in
theorem PySem.Challenge.cw_alwaystree_k10_least_edit_by_trying_holds : PySem.Challenge.rw_alwaystree_k10_least_edit_by_trying.Holds := by
  w_on; o_law; k_head; (case hw => w_witness2)
  k_fill
  refine Al.walk_ofG (l := PySem.Challenge.rw_alwaystree_k10_least_edit_by_trying) (n := 63) (k := 7) (x := "script") (CX := fun _ => L2.CX0) (sp := fun w => K10.sp_law _) rfl (by decide) rfl ⟨rfl, by decide, by decide⟩ (fun w h Y => PySem.W.kIn_of Y) ?F (fun _ _ a ns hl _ hS => ⟨a, ns, rfl, hS, hl, fun _ => rfl⟩) (fun _ _ _ _ _ h => h)
  case F =>
    intro w mg fa h KX G hmg
    refine' K10.all_mk KX G hmg ?ac_TreeError ?ac_InvalidPattern ?ac_InvalidKinds ?ac_InvalidRules ?ac_InvalidText ?ac_InvalidTokens ?ac_InvalidEdit ?ac_InvalidNumber ?ac_InvalidLanguage ?ac_InvalidCommand ?ac_Clash ?ac_Undefined ?ac_NothingToDo ?a0 ?l0 ?co0 ?ke0 ?a1 ?l1 ?co1 ?ke1 ?a2 ?l2 ?co2 ?ke2 ?a3 ?l3 ?co3 ?ke3 ?a4 ?l4 ?co4 ?ke4 ?a5 ?l5 ?co5 ?ke5 ?a6 ?l6 ?co6 ?ke6 ?a7 ?l7 ?co7 ?ke7 ?a8 ?l8 ?co8 ?ke8 ?a9 ?l9 ?co9 ?ke9 ?a10 ?l10 ?co10 ?ke10 ?a11 ?l11 ?co11 ?ke11 ?a12 ?l12 ?co12 ?ke12 ?a13 ?l13 ?co13 ?ke13 ?a14 ?l14 ?co14 ?ke14 ?a15 ?l15 ?co15 ?ke15 ?a16 ?l16 ?co16 ?ke16 ?a17 ?l17 ?co17 ?ke17 ?a18 ?l18 ?co18 ?ke18 ?a19 ?l19 ?co19 ?ke19 ?a20 ?l20 ?co20 ?ke20 ?a21 ?l21 ?co21 ?ke21 ?a22 ?l22 ?co22 ?ke22 ?a23 ?l23 ?co23 ?ke23 ?a24 ?l24 ?co24 ?ke24 ?a25 ?l25 ?co25 ?ke25 ?a26 ?l26 ?co26 ?ke26 ?a27 ?l27 ?co27 ?ke27 ?a28 ?l28 ?co28 ?ke28 ?a29 ?l29 ?co29 ?ke29 ?a30 ?l30 ?co30 ?ke30 ?a31 ?l31 ?co31 ?ke31 ?a32 ?l32 ?co32 ?ke32 ?a33 ?l33 ?co33 ?ke33 ?a34 ?l34 ?co34 ?ke34 ?ta_NO_CHANGE ?tb_NO_CHANGE ?tc_NO_CHANGE ?te_NO_CHANGE ?z_ValueError ?z_abs ?z_all ?z_bool ?z_int ?z_isinstance ?z_len ?z_list ?z_max ?z_min ?z_range ?z_repr ?z_str ?z_tuple ?b_e ?b_h ?b_t ?s_n ?s_t ?x1_InvalidText ?x2_InvalidText ?x3_InvalidText ?x4_InvalidText ?x5_InvalidText ?x6_InvalidText ?x7_InvalidText ?x8_InvalidText ?x9_InvalidText ?y1_InvalidText ?y2_InvalidText ?y3_InvalidText ?y4_InvalidText ?n_InvalidText_value ?x1_InvalidEdit ?x2_InvalidEdit ?x3_InvalidEdit ?x4_InvalidEdit ?x5_InvalidEdit ?x6_InvalidEdit ?x7_InvalidEdit ?x8_InvalidEdit ?x9_InvalidEdit ?y1_InvalidEdit ?y2_InvalidEdit ?y3_InvalidEdit ?y4_InvalidEdit ?n_InvalidEdit_value ?k_Text_InvalidPattern ?k_Text_InvalidKinds ?k_Text_InvalidRules ?k_Text_InvalidText ?k_Text_InvalidTokens ?k_Text_InvalidEdit ?k_Text_InvalidNumber ?k_Text_InvalidLanguage ?k_Text_InvalidCommand ?k_Text_Clash ?k_Text_Undefined ?k_Text_NothingToDo ?k_Edit_InvalidPattern ?k_Edit_InvalidKinds ?k_Edit_InvalidRules ?k_Edit_InvalidText ?k_Edit_InvalidTokens ?k_Edit_InvalidEdit ?k_Edit_InvalidNumber ?k_Edit_InvalidLanguage ?k_Edit_InvalidCommand ?k_Edit_Clash ?k_Edit_Undefined ?k_Edit_NothingToDo ?k_Text_VE ?k_Edit_VE
    (case ac_TreeError => k_is)
    (case ac_InvalidPattern => k_is)
    (case ac_InvalidKinds => k_is)
    (case ac_InvalidRules => k_is)
    (case ac_InvalidText => k_is)
    (case ac_InvalidTokens => k_is)
    (case ac_InvalidEdit => k_is)
    (case ac_InvalidNumber => k_is)
    (case ac_InvalidLanguage => k_is)
    (case ac_InvalidCommand => k_is)
    (case ac_Clash => k_is)
    (case ac_Undefined => k_is)
    (case ac_NothingToDo => k_is)
    (case a0 => k_is)
    (case l0 => k_is)
    (case co0 => k_is)
    (case ke0 => k_is)
    (case a1 => k_is)
    (case l1 => k_is)
    (case co1 => k_is)
    (case ke1 => k_is)
    (case a2 => k_is)
    (case l2 => k_is)
    (case co2 => k_is)
    (case ke2 => k_is)
    (case a3 => k_is)
    (case l3 => k_is)
    (case co3 => k_is)
    (case ke3 => k_is)
    (case a4 => k_is)
    (case l4 => k_is)
    (case co4 => k_is)
    (case ke4 => k_is)
    (case a5 => k_is)
    (case l5 => k_is)
    (case co5 => k_is)
    (case ke5 => k_is)
    (case a6 => k_is)
    (case l6 => k_is)
    (case co6 => k_is)
    (case ke6 => k_is)
    (case a7 => k_is)
    (case l7 => k_is)
    (case co7 => k_is)
    (case ke7 => k_is)
    (case a8 => k_is)
    (case l8 => k_is)
    (case co8 => k_is)
    (case ke8 => k_is)
    (case a9 => k_is)
    (case l9 => k_is)
    (case co9 => k_is)
    (case ke9 => k_is)
    (case a10 => k_is)
    (case l10 => k_is)
    (case co10 => k_is)
    (case ke10 => k_is)
    (case a11 => k_is)
    (case l11 => k_is)
    (case co11 => k_is)
    (case ke11 => k_is)
    (case a12 => k_is)
    (case l12 => k_is)
    (case co12 => k_is)
    (case ke12 => k_is)
    (case a13 => k_is)
    (case l13 => k_is)
    (case co13 => k_is)
    (case ke13 => k_is)
    (case a14 => k_is)
    (case l14 => k_is)
    (case co14 => k_is)
    (case ke14 => k_is)
    (case a15 => k_is)
    (case l15 => k_is)
    (case co15 => k_is)
    (case ke15 => k_is)
    (case a16 => k_is)
    (case l16 => k_is)
    (case co16 => k_is)
    (case ke16 => k_is)
    (case a17 => k_is)
    (case l17 => k_is)
    (case co17 => k_is)
    (case ke17 => k_is)
    (case a18 => k_is)
    (case l18 => k_is)
    (case co18 => k_is)
    (case ke18 => k_is)
    (case a19 => k_is)
    (case l19 => k_is)
    (case co19 => k_is)
    (case ke19 => k_is)
    (case a20 => k_is)
    (case l20 => k_is)
    (case co20 => k_is)
    (case ke20 => k_is)
    (case a21 => k_is)
    (case l21 => k_is)
    (case co21 => k_is)
    (case ke21 => k_is)
    (case a22 => k_is)
    (case l22 => k_is)
    (case co22 => k_is)
    (case ke22 => k_is)
    (case a23 => k_is)
    (case l23 => k_is)
    (case co23 => k_is)
    (case ke23 => k_is)
    (case a24 => k_is)
    (case l24 => k_is)
    (case co24 => k_is)
    (case ke24 => k_is)
    (case a25 => k_is)
    (case l25 => k_is)
    (case co25 => k_is)
    (case ke25 => k_is)
    (case a26 => k_is)
    (case l26 => k_is)
    (case co26 => k_is)
    (case ke26 => k_is)
    (case a27 => k_is)
    (case l27 => k_is)
    (case co27 => k_is)
    (case ke27 => k_is)
    (case a28 => k_is)
    (case l28 => k_is)
    (case co28 => k_is)
    (case ke28 => k_is)
    (case a29 => k_is)
    (case l29 => k_is)
    (case co29 => k_is)
    (case ke29 => k_is)
    (case a30 => k_is)
    (case l30 => k_is)
    (case co30 => k_is)
    (case ke30 => k_is)
    (case a31 => k_is)
    (case l31 => k_is)
    (case co31 => k_is)
    (case ke31 => k_is)
    (case a32 => k_is)
    (case l32 => k_is)
    (case co32 => k_is)
    (case ke32 => k_is)
    (case a33 => k_is)
    (case l33 => k_is)
    (case co33 => k_is)
    (case ke33 => k_is)
    (case a34 => k_is)
    (case l34 => k_is)
    (case co34 => k_is)
    (case ke34 => k_is)
    (case ta_NO_CHANGE => k_is)
    (case tb_NO_CHANGE => k_is)
    (case tc_NO_CHANGE => rfl)
    (case te_NO_CHANGE => rfl)
    (case z_ValueError => k_is)
    (case z_abs => k_is)
    (case z_all => k_is)
    (case z_bool => k_is)
    (case z_int => k_is)
    (case z_isinstance => k_is)
    (case z_len => k_is)
    (case z_list => k_is)
    (case z_max => k_is)
    (case z_min => k_is)
    (case z_range => k_is)
    (case z_repr => k_is)
    (case z_str => k_is)
    (case z_tuple => k_is)
    (case b_e => k_is)
    (case b_h => k_is)
    (case b_t => k_is)
    (case s_n => k_is)
    (case s_t => k_is)
    (case x1_InvalidText => k_is)
    (case x2_InvalidText => decide +kernel)
    (case x3_InvalidText => k_is)
    (case x4_InvalidText => k_is)
    (case x5_InvalidText => k_is)
    (case x6_InvalidText => k_is)
    (case x7_InvalidText => k_is)
    (case x8_InvalidText => k_is)
    (case x9_InvalidText => k_is)
    (case y1_InvalidText => k_is)
    (case y2_InvalidText => k_is)
    (case y3_InvalidText => k_is)
    (case y4_InvalidText => k_is)
    (case n_InvalidText_value => k_is)
    (case x1_InvalidEdit => k_is)
    (case x2_InvalidEdit => decide +kernel)
    (case x3_InvalidEdit => k_is)
    (case x4_InvalidEdit => k_is)
    (case x5_InvalidEdit => k_is)
    (case x6_InvalidEdit => k_is)
    (case x7_InvalidEdit => k_is)
    (case x8_InvalidEdit => k_is)
    (case x9_InvalidEdit => k_is)
    (case y1_InvalidEdit => k_is)
    (case y2_InvalidEdit => k_is)
    (case y3_InvalidEdit => k_is)
    (case y4_InvalidEdit => k_is)
    (case n_InvalidEdit_value => k_is)
    (case k_Text_InvalidPattern => kit_is)
    (case k_Text_InvalidKinds => kit_is)
    (case k_Text_InvalidRules => kit_is)
    (case k_Text_InvalidText => kit_is)
    (case k_Text_InvalidTokens => kit_is)
    (case k_Text_InvalidEdit => kit_is)
    (case k_Text_InvalidNumber => kit_is)
    (case k_Text_InvalidLanguage => kit_is)
    (case k_Text_InvalidCommand => kit_is)
    (case k_Text_Clash => kit_is)
    (case k_Text_Undefined => kit_is)
    (case k_Text_NothingToDo => kit_is)
    (case k_Edit_InvalidPattern => kit_is)
    (case k_Edit_InvalidKinds => kit_is)
    (case k_Edit_InvalidRules => kit_is)
    (case k_Edit_InvalidText => kit_is)
    (case k_Edit_InvalidTokens => kit_is)
    (case k_Edit_InvalidEdit => kit_is)
    (case k_Edit_InvalidNumber => kit_is)
    (case k_Edit_InvalidLanguage => kit_is)
    (case k_Edit_InvalidCommand => kit_is)
    (case k_Edit_Clash => kit_is)
    (case k_Edit_Undefined => kit_is)
    (case k_Edit_NothingToDo => kit_is)
    (case k_Text_VE => kit_is)
    (case k_Edit_VE => kit_is)
