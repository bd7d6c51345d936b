import PyProof.Rows.All
import Wide.All
import OpenK.AllK
import Wide.FinOn
import PyProof.EqAt
import PyProof.EqKinds
import PyProof.TupleCall
import HandS.ForMost
import HandS.ForExc
import HandS.Defaults
import HandS.IsInst
import HandS.ExcInit
import HandS.ExcField
import HandS.TryOnly
import HandS.Evl
import HandS.ExcIs
import KE.KExcIs
import PySem.Challenge.RW_alwaystree_k11_places_moved_and_untouche
set_option Elab.async false
set_option linter.all false
set_option maxRecDepth 100000
set_option maxHeartbeats 4000000
/-! ## rules that the layer lacks, and words over heaps -/
namespace Al
open PySem PySem.Spec PyProof.Rows L2
section
variable {X : Cx} {CX : CXT} {k : Nat} {f : Addr} {fd : FuncData} {ps ks : List Str} {sp : Sp} {E : XK} {x : Str} {p pos : Pos} {kws : List Keyword} {tk : TA} {g : List Value → List Value → List Value} {gV : List V → List V → List V}
/-- f(k = v, ..): keywords alone -/
theorem pe_callN0 (F : FnOk X.prog X.w X.K X.mg X.base CX k f fd ps sp) (hr : Room k X.A) (hg : Gl X x) (hm : X.mg x = some (.ref f)) (hk : PySem.W.keepIn X.K (.ref f) = true) (hb : KBn X.K fd ps 0 ks g gV) (hx : Passes CX X E) (hkw : PK X kws tk)
    (hall : (backToKw pos (keywordEach kws X.env)).all (·.1.isSome) = true := by rfl) (hks : (backToKw pos (keywordEach kws X.env)).filterMap (·.1) = ks := by rfl) (hdb : (x == ("__debug__" : Str)) = false := by decide)
    (hpl : ((backTo pos (starEach [] X.env)).any (·.1) || (backToKw pos (keywordEach kws X.env)).any (·.1.isNone)) = false := by rfl) :
    PE X (.Call (.Name x p) [] kws pos) (tCallN 0 ks.length sp gV E tNil tk) := by
  refine ⟨fun pins s σ H Q I h => ?_⟩
  refine wpAny_Call_Name_kw (ld_glob I hg hm ?_ hdb)
  refine PySem.W.callWith_KW0 (h₀ := X.base) I.ok.mod.kin hk hall ?_ hpl
  refine thn (hkw.run pos pins s σ H _ I h) fun ws s2 ⟨zs, H2, I2, rz, l1, l2, q2⟩ => ⟨I2.kIn, ?_⟩
  rw [hks]
  exact run_fnN (us := []) (vs := []) F hr hb hx I2 .nil rz rfl l2 q2
end
/-- a class's facts for isinstance of its caught instances -/
structure ExC (K : PySem.W.Frag) (D : Addr) : Prop where
  cl : (PySem.W.clsIn K D).isSome = true
  hg : PySem.W.findIn K (.ref D) "__getattribute__" = some (some (.builtin "BaseException.__getattribute__"))
  hk : PySem.W.findIn K (.ref D) "__getattr__" = some none
  hs : PySem.W.subIn K (.ref D) (.type "BaseException") = some true
  ha : PySem.W.findIn K (.ref D) "__class__" = some (some (.builtin "object.__class__"))
  hn : PySem.W.specialIn K (.builtin "object.__class__") "__get__" = some (some (.builtin "getset_descriptor.__get__"))
  ht : PySem.W.takesIn K (.builtin "object.__class__") = some true
  hm : PySem.W.mroIn K D (.type "object") = some true
/-- isinstance(e, c), e the exception that the suite holds (class cls, own dict d) -/
def rIsE2 (K : PySem.W.Frag) (a : Addr) (cls : Value) (d : Option Addr) : List V → Hp → VK → Prop := fun xs H Q => ∃ (D dd : Addr) (fs : List (Str × V)) (c : V) (cv : Value) (b : Bool), cls = .ref D ∧ d = some dd ∧ ExC K D ∧ H dd = some (.xd fs) ∧ xs = [.ref a, c] ∧ (∀ u, RelV c u → u = cv) ∧ PySem.W.kitOne K (.ref D) cv = some b ∧ Q (.bl b) H
theorem call_isE2 {X : Cx} {a : Addr} {oe : Obj} {cls : Value} {d : Option Addr} {pn : List (Addr × Obj)} (hz : Zc cls d oe) (hf : ∃ vs, oe.data = .fields vs) : CallR (X.suite a ((a, oe) :: pn)) (.builtin "isinstance") (rIsE2 X.K a cls d) := by
  intro pins s σ H xs us Q I r h
  obtain ⟨D, dd, fs, c, cv, b, rfl, rfl, C, ea, rfl, hcv, e, q⟩ := h
  cases r with
  | cons rx rr =>
    cases rr with
    | cons rt rr =>
      cases rr
      cases rx
      have ec := hcv _ rt
      subst ec
      obtain ⟨hget, _⟩ := I.pin (a, oe) (List.mem_append.mpr (.inl List.mem_cons_self))
      obtain ⟨vs, hv⟩ := hf
      have hx : ObjOk X.prog X.w H s.heap dd (.xd fs) := I.hok dd _ ea
      obtain ⟨mA, hns, hr⟩ := hx
      obtain ⟨od, ho, hl⟩ := lookIn_ns hns
      have J : PySem.W.InstAt s.heap a oe D (some od) := ⟨hget, hz.1, by unfold PySem.W.notCls; rw [hv] <;> rfl, by rw [hz.2]; exact ho⟩
      exact PySem.W.kia_one (PySem.W.kitx_exc C.cl C.hg C.hk C.hs C.ha C.hn C.ht C.hm) I.kIn J e (fun z => nomatch z) fun tk => ⟨.bl b, H, I.kept (t' := tk) fun _ _ z => z, rfl, q⟩
/-- all that is asked of an own class of errors: C, whose __init__ stands at fI; B: the class that the except clauses name -/
structure ExAll (K : PySem.W.Frag) (C B fI : Addr) : Prop where
  x : OexC K C
  xf : XfC K C
  c : ExC K C
  i : PySem.W.findIn K (.ref C) "__init__" = some (some (.ref fI))
  t : PySem.W.typeIn K (.ref fI) = some (.type "function")
  em : PySem.W.exmOne K (.ref C) (.ref B) = some true
theorem exAll_mk {K : PySem.W.Frag} {C B fI : Addr} {nm q : Str} {N : Addr} {bs bm : List Value} {sn : List Str} {sub : List Value} {ab : Bool} {col : Option Bool} {dd : Option Addr} {m0 m1 m2 m3 m5 : Option Value}
    (x1 : K.lookup C = some (excClassObj nm q C N bs bm true sn sub ab col dd m0 m1 m2 m3 m5 "ValueError.__new__")) (x2 : PySem.HandSPX.refsVE bm = true)
    (x3 : PySem.W.findIn K (.ref C) "__setattr__" = some (some (.builtin "object.__setattr__"))) (x4 : PySem.W.subIn K (.ref C) (.type "BaseException") = some true) (x5 : PySem.W.typeIn K (.ref C) = some (.type "type")) (x6 : PySem.W.keepIn K (.ref C) = true)
    (x7 : PySem.W.findIn K (.ref C) "__getattribute__" = some (some (.builtin "BaseException.__getattribute__"))) (x8 : PySem.W.findIn K (.ref C) "__getattr__" = some none) (x9 : PySem.W.hasDictIn K C = true)
    (y1 : PySem.W.findIn K (.ref C) "__class__" = some (some (.builtin "object.__class__"))) (y2 : PySem.W.mroIn K C (.type "object") = some true) (y3 : PySem.W.subIn K (.ref C) (.ref B) = some true)
    (a : PySem.W.findIn K (.ref C) "__init__" = some (some (.ref fI))) (y4 : PySem.W.typeIn K (.ref fI) = some (.type "function"))
    (be : PySem.W.subIn K (.ref B) (.type "BaseException") = some true) (bh : PySem.W.hasDictIn K B = true) (bt : PySem.W.typeIn K (.ref B) = some (.type "type"))
    (sn' : PySem.W.specialIn K (.builtin "object.__class__") "__get__" = some (some (.builtin "getset_descriptor.__get__"))) (st' : PySem.W.takesIn K (.builtin "object.__class__") = some true) : ExAll K C B fI where
  x := ⟨⟨nm, q, N, bs, bm, sn, sub, ab, col, dd, m0, m1, m2, m3, m5, x1, x2⟩, x3, x4, x5, x6⟩
  xf := ⟨x7, x8, x4, x9⟩
  c := ⟨by obtain ⟨cd, hc, _⟩ := PySem.W.any_some x9; rw [hc]; rfl, x7, x8, x4, y1, sn', st', y2⟩
  i := a
  t := y4
  em := PySem.W.exm_ref be bh bt y3
theorem kit_self {K : PySem.W.Frag} {D : Addr} : PySem.W.kitOne K (.ref D) (.ref D) = some true := by
  unfold PySem.W.kitOne
  rw [if_pos (beq_self_eq_true _)]
/-- a def that may raise, called where its promise says that it does not -/
theorem passE0 {X : Cx} : Passes (L2.CX X.prog X.w) X E0 := fun _ _ _ _ _ _ _ h => by
  obtain ⟨_, _, _, _, _, _, _, _, _, _, _, _, h⟩ := h
  exact h.elim
/-! ### ifs -/
theorem br {c A B : Prop} {i : Decidable c} (h1 : c → A) (h2 : ¬ c → B) : @ite Prop c i A B := by
  by_cases h : c
  · rw [if_pos h]
    exact h1 h
  · rw [if_neg h]
    exact h2 h
/-- an if on a Bool that is decided: by the proposition -/
theorem brd {c A B : Prop} {j : Decidable c} {i : Decidable (decide c = true)} (h1 : c → A) (h2 : ¬ c → B) : @ite Prop (decide c = true) i A B :=
  br (fun h => h1 (of_decide_eq_true h)) (fun h => h2 fun q => h (decide_eq_true q))
theorem brb {b : Bool} {A B : Prop} {i : Decidable (b = true)} (h1 : b = true → A) (h2 : b = false → B) : @ite Prop (b = true) i A B :=
  br h1 (fun h => h2 (by cases b; rfl; exact absurd rfl h))
theorem brT {b : Bool} {A B : Prop} {i : Decidable (b = true)} (e : b = true) (h : A) : @ite Prop (b = true) i A B := br (fun _ => h) fun n => absurd e n
theorem brF {b : Bool} {A B : Prop} {i : Decidable (b = true)} (e : b = false) (h : B) : @ite Prop (b = true) i A B := br (fun n => by rw [e] at n; cases n) fun _ => h
theorem tC_go {v : V} {σ : L2.St} {H : Hp} {Q : VK} (h : Q v H) : tC v σ H Q := h
/-- a rest, a letter with its bounds -/
theorem modL {i j : Int} {H : Hp} {Q : VK} (hj : 0 < j) (h : ∀ r, r = i.fmod j → 0 ≤ r → r < j → Q (.int r) H) : rI (fun _ j => j ≠ 0) (fun i j => .int (i.fmod j)) (.int i) (.int j) H Q :=
  ⟨i, j, rfl, rfl, (show j ≠ 0 by omega), h _ rfl (by rw [Int.fmod_eq_emod_of_nonneg i (by omega)]; exact Int.emod_nonneg i (by omega)) (by rw [Int.fmod_eq_emod_of_nonneg i (by omega)]; exact Int.emod_lt_of_pos i hj)⟩
/-- a quotient, a letter with its bounds -/
theorem divL {i j : Int} {H : Hp} {Q : VK} (hj : 0 < j) (hs : j < 1000000000) (h : ∀ r, r = i.fdiv j → (0 ≤ i → 0 ≤ r ∧ r ≤ i) → r * j ≤ i → i < r * j + j → Q (.int r) H) : rI CDivN (fun i j => .int (i.fdiv j)) (.int i) (.int j) H Q := by
  have e : i.fdiv j = i / j := Int.fdiv_eq_ediv_of_nonneg i (by omega)
  have h1 : i / j * j ≤ i := Int.ediv_mul_le i (by omega)
  have h2 : i < (i / j + 1) * j := Int.lt_ediv_add_one_mul_self i hj
  refine ⟨i, j, rfl, rfl, ⟨by omega, by omega⟩, h _ rfl (fun h0 => ?_) (by rw [e]; exact h1) (by rw [e]; rw [Int.add_mul, Int.one_mul] at h2; exact h2)⟩
  rw [e]
  exact ⟨Int.ediv_nonneg h0 (by omega), Int.ediv_le_self _ h0⟩
theorem int_ne {i j : Int} (h : ¬ (V.int i = V.int j)) : i ≠ j := fun e => h (by rw [e])
/-! ### heaps -/
/-- all that is tracked stands, but at b -/
def But (b : Addr) (H H' : Hp) : Prop := ∀ a o, a ≠ b → H a = some o → H' a = some o
theorem But.refl {b : Addr} {H : Hp} : But b H H := fun _ _ _ h => h
theorem But.trans {b : Addr} {H H1 H2 : Hp} (x : But b H H1) (y : But b H1 H2) : But b H H2 := fun a o n h => y a o n (x a o n h)
theorem But.of {b : Addr} {H H' : Hp} (x : Same H H') : But b H H' := fun a o _ h => x a o h
theorem But.new {b p : Addr} {H : Hp} {o : HO} (h : H p = none) : But b H (upd H p o) := fun a u _ e => by
  rw [upd_ne (ne_of_none e h)]
  exact e
theorem But.at {b : Addr} {H : Hp} {o : HO} : But b H (upd H b o) := fun a u n e => by
  rw [upd_ne n]
  exact e
theorem But.seqL {K : PySem.W.Frag} {b a : Addr} {H H' : Hp} {xs : List V} (x : But b H H') (n : a ≠ b) (h : SqL K H a xs) : SqL K H' a xs := by
  rcases h with (h | ⟨o, h⟩) | h
  · exact .inl (.inl (x _ _ n h))
  · exact .inl (.inr ⟨o, x _ _ n h⟩)
  · exact .inr h
theorem But.seqT {K : PySem.W.Frag} {b a : Addr} {H H' : Hp} {xs : List V} (x : But b H H') (n : a ≠ b) (h : SqT K H a xs) : SqT K H' a xs := by
  rcases h with (h | ⟨o, h⟩) | h
  · exact .inl (.inl (x _ _ n h))
  · exact .inl (.inr ⟨o, x _ _ n h⟩)
  · exact .inr h
theorem _root_.L2.Same.seqT {K : PySem.W.Frag} {a : Addr} {H H' : Hp} {xs : List V} (x : Same H H') (h : SqT K H a xs) : SqT K H' a xs := by
  rcases h with (h | ⟨o, h⟩) | h
  · exact .inl (.inl (x _ _ h))
  · exact .inl (.inr ⟨o, x _ _ h⟩)
  · exact .inr h
theorem _root_.L2.Same.new {p : Addr} {H : Hp} {o : HO} (h : H p = none) : Same H (upd H p o) := fun a u e => by
  rw [upd_ne (ne_of_none e h)]
  exact e
theorem upd_seqT {K : PySem.W.Frag} {a p : Addr} {H : Hp} {o : HO} {xs : List V} (n : H p = none) (h : SqT K H a xs) : SqT K (upd H p o) a xs := (L2.Same.new n).seqT h
theorem upd_seqL {K : PySem.W.Frag} {a p : Addr} {H : Hp} {o : HO} {xs : List V} (n : H p = none) (h : SqL K H a xs) : SqL K (upd H p o) a xs := (L2.Same.new n).seq h
theorem free_of_but {b p : Addr} {H H' : Hp} (x : But b H H') (n : p ≠ b) (h : H' p = none) : H p = none := by
  cases e : H p with
  | none => rfl
  | some o =>
    rw [x p o n e] at h
    cases h
theorem But.get {a b : Addr} {H H' : Hp} {o : HO} (x : But b H H') (n : a ≠ b) (h : H a = some o) : H' a = some o := x a o n h
theorem _root_.L2.Same.get {a : Addr} {H H' : Hp} {o : HO} (x : Same H H') (h : H a = some o) : H' a = some o := x a o h
theorem upd_get {a p : Addr} {H : Hp} {o u : HO} (n : H p = none) (h : H a = some u) : upd H p o a = some u := by
  rw [upd_ne (ne_of_none h n)]
  exact h
theorem upd_get' {a p : Addr} {H : Hp} {o u : HO} (n : a ≠ p) (h : H a = some u) : upd H p o a = some u := by
  rw [upd_ne n]
  exact h
theorem ne_fresh {a p : Addr} {H : Hp} {o : HO} (n : H p = none) (h : H a = some o) : a ≠ p := ne_of_none h n
theorem upd_free {a p : Addr} {H : Hp} {o : HO} (n : a ≠ p) (h : H a = none) : upd H p o a = none := by
  rw [upd_ne n]
  exact h
theorem upd_free2 {a p : Addr} {H : Hp} {o : HO} (h : upd H p o a = none) : H a = none ∧ a ≠ p := by
  have n : a ≠ p := fun e => by
    rw [e, upd_same] at h
    cases h
  rw [upd_ne n] at h
  exact ⟨h, n⟩
theorem _root_.L2.Same.mut {H H' : Hp} {p : Addr} {o : HO} (s : Same H H') (n : H p = none) : Same H (upd H' p o) := fun a u e => by
  rw [upd_ne (ne_of_none e n)]
  exact s a u e
theorem But.mut {b p : Addr} {H H' : Hp} {o : HO} (s : But b H H') (n : H p = none) : But b H (upd H' p o) := fun a u m e => by
  rw [upd_ne (ne_of_none e n)]
  exact s a u m e
theorem lt_line {n : Nat} (h : n < 1000000) : n < sizeLine := Nat.lt_of_lt_of_le h (by decide)
theorem le_line {n : Nat} (h : n ≤ 1000000) : n ≤ sizeLine := Nat.le_trans h (by decide)
theorem ixN_of {n j : Nat} {i : Int} (e : i = (j : Int)) (h : j < n) : ixN n i = some j := by
  subst e
  unfold ixN
  rw [if_pos (by omega), if_pos (by omega)]
  simp
theorem ixN_lt {n j : Nat} {i : Int} (e : i = (j : Int)) (h : Nat.blt j n = true) : ixN n i = some j := ixN_of e (by simpa using h)
theorem atI_of {α : Type} {xs : List α} {i : Int} {j : Nat} {v : α} (e : i = (j : Int)) (h : xs[j]? = some v) : atI xs i = some v := by
  unfold atI
  rw [ixN_of e (List.getElem?_eq_some_iff.mp h).1]
  exact h
theorem atI_ex {α : Type} {xs : List α} {i : Int} (h0 : 0 ≤ i) (h1 : i < xs.length) : ∃ v, atI xs i = some v ∧ v ∈ xs := by
  have hj : i.toNat < xs.length := by omega
  exact ⟨xs[i.toNat], atI_of (j := i.toNat) (by omega) (List.getElem?_eq_getElem hj), List.getElem_mem hj⟩
/-! ### texts -/
open TL in
theorem joinL_nil : ∀ ps : List (List Nat), joinL [] ps = ps.flatten
  | [] => rfl
  | [p] => by simp [joinL]
  | p :: q :: r => by
    show p ++ ([] ++ joinL [] (q :: r)) = (p :: q :: r).flatten
    rw [joinL_nil (q :: r)]
    simp
open TL in
theorem join_flat (ys : List Str) : (Txt.join ("" : Str) ys).cps.toList = (ys.map fun y => y.cps.toList).flatten := by
  rw [join_eq]
  have h := tl_join "" ys
  have e : tl ("" : Str) = [] := by decide +kernel
  rw [e, joinL_nil] at h
  exact h
theorem len_cps (s : Str) : s.length = s.cps.toList.length := by simp [Str.length]
/-- texts of one sign each, joined -/
theorem join_ones (f : Nat → Bool) (ys : List Str) (h : ∀ y ∈ ys, ∃ c, y = (⟨#[c]⟩ : Str) ∧ f c = true) : (Txt.join ("" : Str) ys).length = ys.length ∧ (Txt.join ("" : Str) ys).cps.toList.all f = true := by
  rw [len_cps, join_flat]
  induction ys with
  | nil => exact ⟨rfl, rfl⟩
  | cons y r ih =>
    obtain ⟨c, rfl, hc⟩ := h y (List.mem_cons_self ..)
    obtain ⟨i1, i2⟩ := ih fun z hz => h z (List.mem_cons_of_mem _ hz)
    simp only [List.map_cons, List.flatten_cons, List.length_append, List.length_cons, List.all_append, i1, i2]
    simp [hc]
    omega
theorem sum_ones (ys : List Str) (f : Nat → Bool) (h : ∀ y ∈ ys, ∃ c, y = (⟨#[c]⟩ : Str) ∧ f c = true) : (ys.map (·.length)).sum = ys.length := by
  induction ys with
  | nil => rfl
  | cons y r ih =>
    obtain ⟨c, rfl, hc⟩ := h y (List.mem_cons_self ..)
    have := ih fun z hz => h z (List.mem_cons_of_mem _ hz)
    simp only [List.map_cons, List.sum_cons, List.length_cons, this]
    show 1 + r.length = r.length + 1
    omega
theorem mem_int {ns : List Int} {i : Nat} {x : V} (h : (ns.map V.int)[i]? = some x) : ∃ z, ns[i]? = some z ∧ x = .int z ∧ z ∈ ns := by
  rw [List.getElem?_map] at h
  cases e : ns[i]? with
  | none =>
    rw [e] at h
    cases h
  | some z =>
    rw [e] at h
    exact ⟨z, rfl, (Option.some.inj h).symm, List.mem_of_getElem? e⟩
theorem atI_all {ns : List Int} {i : Int} {C : Int → Prop} (h0 : 0 ≤ i) (h1 : i < ns.length) (f : ∀ n ∈ ns, C n) : ∃ n, atI (ns.map V.int) i = some (.int n) ∧ C n := by
  have hj : i.toNat < ns.length := by omega
  refine ⟨ns[i.toNat], atI_of (j := i.toNat) (by omega) ?_, f _ (List.getElem_mem hj)⟩
  rw [List.getElem?_map, List.getElem?_eq_getElem hj]
  rfl
theorem disp {n : Nat} (h : Nat.ble n 1000000 = true) : n ≤ sizeLine := le_line (Nat.le_of_ble_eq_true h)
/-! ### comprehensions whose element changes nothing -/
theorem lcR_go {lo : Int} {n j : Nat} {te : TE} {vs : List Nat} {σ : L2.St} {H1 : Hp} {D : Addr} {Qd : Hp → Prop} (f : Nat → V) (hn : n ≤ 1000000) (hw : ∀ x, wipe ((wipe σ vs).set j (some x)) vs = wipe σ vs)
    (ht : ∀ (i : Nat) (H' : Hp) (Q : VK), i < n → Same H1 H' → Q (f i) H' → te ((wipe σ vs).set j (some (.int (lo + i)))) H' Q) (hD : H1 D = none) (hd : Qd (upd H1 D (.lst ((List.range n).map f)))) :
    ∃ W : Nat → Nat → Hp → Prop, (∃ m, W 0 m (upd H1 D (.lst []))) ∧ ∀ i m H, W i m H →
      ((Itr lo n).stop i H ∧ Qd H) ∨ ((Itr lo n).go i H ∧ ∃ Nx : Hp → Prop, (∀ H', Nx H' → ∃ m', m' < m ∧ W (i + 1) m' H') ∧ ∀ x H', (Itr lo n).yld i H x H' → gName j x (wipe σ vs) H' fun σ2 H2 => wipe σ2 vs = wipe σ vs ∧ tYes σ2 H2 fun b H3 =>
        if b = true then te σ2 H3 fun y H4 => ∃ acc, H4 D = some (.lst acc) ∧ acc.length < sizeLine ∧ Nx (upd H4 D (.lst (acc ++ [y]))) else Nx H3) := by
  refine lc_range (lo := lo) (n := n) (fun i H' => H' = upd H1 D (.lst ((List.range i).map f))) rfl (fun i H' hi e => ?_) (fun H' e => by rw [e]; exact hd)
  subst e
  refine ⟨hw _, ?_⟩
  unfold tYes
  refine brT rfl ?_
  refine ht i _ _ hi (Same.new hD) ⟨_, upd_same, by rw [List.length_map, List.length_range]; exact lt_line (by omega), ?_⟩
  rw [upd_upd, List.range_succ, List.map_append]
  rfl
theorem lcL_go {K : PySem.W.Frag} {p : Addr} {xs : List V} {j : Nat} {te : TE} {vs : List Nat} {σ : L2.St} {H1 : Hp} {D : Addr} {Qd : Hp → Prop} (f : V → V) (hn : xs.length ≤ 1000000) (hw : ∀ x, wipe ((wipe σ vs).set j (some x)) vs = wipe σ vs) (hS : SqL K H1 p xs)
    (ht : ∀ (x : V) (H' : Hp) (Q : VK), x ∈ xs → Same H1 H' → Q (f x) H' → te ((wipe σ vs).set j (some x)) H' Q) (hD : H1 D = none) (hd : Qd (upd H1 D (.lst (xs.map f)))) :
    ∃ W : Nat → Nat → Hp → Prop, (∃ m, W 0 m (upd H1 D (.lst []))) ∧ ∀ i m H, W i m H →
      ((Itl K p).stop i H ∧ Qd H) ∨ ((Itl K p).go i H ∧ ∃ Nx : Hp → Prop, (∀ H', Nx H' → ∃ m', m' < m ∧ W (i + 1) m' H') ∧ ∀ x H', (Itl K p).yld i H x H' → gName j x (wipe σ vs) H' fun σ2 H2 => wipe σ2 vs = wipe σ vs ∧ tYes σ2 H2 fun b H3 =>
        if b = true then te σ2 H3 fun y H4 => ∃ acc, H4 D = some (.lst acc) ∧ acc.length < sizeLine ∧ Nx (upd H4 D (.lst (acc ++ [y]))) else Nx H3) := by
  refine lc_list (xs := xs) (fun i H' => H' = upd H1 D (.lst ((xs.take i).map f))) rfl (fun i H' _ e => by rw [e]; exact (Same.new hD).seq hS) (fun i x H' hx e => ?_) (fun H' e => by rw [e, List.take_length]; exact hd)
  subst e
  refine ⟨hw _, ?_⟩
  unfold tYes
  refine brT rfl ?_
  have hi := (List.getElem?_eq_some_iff.mp hx).1
  refine ht x _ _ (List.mem_of_getElem? hx) (Same.new hD) ⟨_, upd_same, by rw [List.length_map, List.length_take]; exact lt_line (by omega), ?_⟩
  rw [upd_upd, List.take_add_one, hx, List.map_append]
  rfl
theorem flat_rep {α : Type} (k : Nat) (x : α) : (List.replicate k [x]).flatten = List.replicate k x := by
  induction k with
  | zero => rfl
  | succ k ih =>
    rw [List.replicate_succ, List.flatten_cons, ih, List.replicate_succ]
    rfl
/-! ### readings, one step -/
section
variable {K : PySem.W.Frag} {H : Hp} {p l q' : Addr} {xs ys : List V} {i : Int} {j : Nat} {v y : V} {Q : VK} {R : Hp → Prop}
theorem ixL_go (h : SqL K H p xs) (e : atI xs i = some v) (q : Q v H) : rIxL K (.ref p) (.int i) H Q := ⟨p, xs, i, v, rfl, rfl, h, e, q⟩
theorem ixT_go (h : SqT K H p xs) (e : atI xs i = some v) (q : Q v H) : rIxT K (.ref p) (.int i) H Q := ⟨p, xs, i, v, rfl, rfl, h, e, q⟩
theorem setL_go (h : H p = some (.lst xs)) (e : ixN xs.length i = some j) (q : R (upd H p (.lst (xs.set j v)))) : rSetL (.ref p) (.int i) v H R := ⟨p, xs, i, j, rfl, rfl, h, e, q⟩
theorem app_go (h : H p = some (.lst xs)) (hl : xs.length < 1000000) (q : Q .non (upd H p (.lst (xs ++ [y])))) : rAppend (.ref p) [y] H Q := ⟨p, xs, y, rfl, rfl, h, lt_line hl, q⟩
theorem cat_go (h : H p = some (.lst xs)) (h' : H l = some (.lst ys)) (hl : xs.length + ys.length ≤ 1000000) (q : ∀ r, H r = none → Q (.ref r) (upd H r (.lst (xs ++ ys)))) : rCat (.ref p) (.ref l) H Q := ⟨p, l, xs, ys, rfl, rfl, h, h', le_line hl, q⟩
end
end Al
namespace K11
open PySem PySem.Spec PyProof.Rows L2 Al
local macro_rules | `(tactic| walk_at "hp") => `(tactic| first
  | assumption
  | exact upd_same
  | (apply But.get; assumption; walk_at "ne"; walk_at "hp")
  | (apply Same.get; assumption; walk_at "hp")
  | (apply upd_get; assumption; walk_at "hp")
  | (apply upd_get'; walk_at "ne"; walk_at "hp")
  | (apply SqL.of; walk_at "hp")
  | (apply SqT.of; walk_at "hp")
  | (apply upd_seqT; assumption; walk_at "hp")
  | (apply upd_seqL; assumption; walk_at "hp")
  | (apply Same.seq; assumption; walk_at "hp")
  | (apply Same.seqT; assumption; walk_at "hp")
  | (apply But.seqL; assumption; walk_at "ne"; walk_at "hp")
  | (apply But.seqT; assumption; walk_at "ne"; walk_at "hp"))
local macro_rules | `(tactic| walk_at "ne") => `(tactic| first | assumption | (apply Ne.symm; assumption))
local macro_rules | `(tactic| walk_at "ix") => `(tactic| first | exact atI_of (j := 0) (by decide) rfl | exact atI_of (j := 1) (by decide) rfl | exact atI_of (j := 2) (by decide) rfl | exact atI_of (j := 3) (by decide) rfl | exact atI_of (j := 4) (by decide) rfl | exact ixN_lt (j := 0) (by decide) rfl | exact ixN_lt (j := 1) (by decide) rfl | exact ixN_lt (j := 2) (by decide) rfl | exact ixN_lt (j := 3) (by decide) rfl | exact ixN_lt (j := 4) (by decide) rfl | assumption | (apply atI_of (Int.toNat_of_nonneg (by assumption)).symm; assumption))
local macro_rules | `(tactic| walk_at "sz") => `(tactic| first | (apply lt_line; (try simp only [List.length_map, List.length_append, List.length_cons, List.length_nil]); omega) | (apply le_line; (try simp only [List.length_map, List.length_append, List.length_cons, List.length_nil]); omega))
local macro_rules | `(tactic| walk_at "ty") => `(tactic| first | exact .base (.int _) | exact .base (.bl _) | exact .base (.str _) | exact .base .non | (apply TyX.base; apply TyOf.lst; walk_at "hp") | (apply TyX.base; apply TyOf.tup; walk_at "hp"))
local macro_rules | `(tactic| walk_at "wp1") => `(tactic| first
  | refine ⟨_, rfl, ?_⟩
  | (with_reducible refine tC_go ?_)
  | (with_reducible refine modL (by first | decide | omega) fun _ _ _ _ => ?_)
  | (with_reducible refine divL (by first | decide | omega) (by first | decide | omega) fun _ _ _ _ _ => ?_)
  | refine ⟨_, _, rfl, rfl, ?_⟩
  | refine ⟨_, _, _, _, rfl, rfl, (by walk_at "hp"), (by walk_at "ix"), ?_⟩
  | refine ⟨rfl, ?_⟩
  | refine ⟨⟨_, rfl⟩, ?_⟩
  | refine ⟨.inl ⟨by omega, by omega⟩, ?_⟩
  | refine ⟨.inr ⟨by decide, by decide⟩, ?_⟩
  | refine ⟨⟨by decide, by decide, by decide⟩, ?_⟩
  | refine brT rfl ?_
  | refine brF rfl ?_
  | refine ⟨_, _, rfl, ?_⟩
  | refine ⟨_, _, rfl, .inl ⟨_, (by walk_at "hp"), rfl⟩, ?_⟩
  | refine ⟨_, _, rfl, .inr ⟨_, (by walk_at "hp"), rfl⟩, ?_⟩
  | refine ⟨.inl ⟨rfl, _, (by walk_at "hp")⟩, ?_⟩
  | refine ⟨_, _, _, rfl, rfl, (by walk_at "hp"), (by walk_at "sz"), ?_⟩
  | refine ⟨_, _, rfl, ⟨(by walk_at "sz"), rfl⟩, ?_⟩
  | refine ⟨_, _, rfl, .inr (by walk_at "hp"), rfl, rfl, ?_⟩
  | refine ⟨_, _, _, _, false, rfl, .ty _, (by walk_at "ty"), kit_ty (by decide +kernel), ?_⟩
  | refine ⟨_, _, _, _, true, rfl, .ty _, (by walk_at "ty"), kit_ty (by decide +kernel), ?_⟩
  | refine .inl ⟨_, rfl, ?_⟩
  | refine .inr ⟨_, rfl, ?_⟩)
local macro_rules | `(tactic| walk_at "wp") => `(tactic| repeat walk_at "wp1")
def topS (i : Nat) : Stmt := PySem.Challenge.pw_alwaystree_k11_places_moved_and_untouche.main.body.getD i (.Pass ⟨0, 0, 0, 0⟩)
/-! ### the text -/
abbrev s_Undefined_init : Stmt := inClass (topS 2) 0
theorem sc_Undefined_init : FnScope ["self", "what"] ["self", "what"] (defScope s_Undefined_init) := ⟨rfl, rfl, rfl, by decide +kernel, rfl, by decide +kernel, by decide +kernel⟩
abbrev s_is_integer : Stmt := topS 4
theorem sc_is_integer : FnScope ["value"] ["value"] (defScope s_is_integer) := ⟨rfl, rfl, rfl, by decide +kernel, rfl, by decide +kernel, by decide +kernel⟩
abbrev s_growth : Stmt := topS 6
theorem sc_growth : FnScope ["edit"] ["edit"] (defScope s_growth) := ⟨rfl, rfl, rfl, by decide +kernel, rfl, by decide +kernel, by decide +kernel⟩
abbrev s_side_asked : Stmt := topS 7
theorem sc_side_asked : FnScope ["value"] ["value"] (defScope s_side_asked) := ⟨rfl, rfl, rfl, by decide +kernel, rfl, by decide +kernel, by decide +kernel⟩
abbrev s_place_moved : Stmt := topS 8
theorem sc_place_moved : FnScope ["place", "edit", "side"] ["place", "edit", "side"] (defScope s_place_moved) := ⟨rfl, rfl, rfl, by decide +kernel, rfl, by decide +kernel, by decide +kernel⟩
abbrev s_untouched : Stmt := topS 9
theorem sc_untouched : FnScope ["edit", "start", "end"] ["edit", "start", "end"] (defScope s_untouched) := ⟨rfl, rfl, rfl, by decide +kernel, rfl, by decide +kernel, by decide +kernel⟩
abbrev s_law_bag : Stmt := topS 11
theorem sc_law_bag : FnScope ["script"] ["script"] (defScope s_law_bag) := ⟨rfl, rfl, rfl, by decide +kernel, rfl, by decide +kernel, by decide +kernel⟩
abbrev s_law_take : Stmt := topS 12
theorem sc_law_take : FnScope ["bag", "many", "cell", "told", "mixed"] ["bag", "many"] (defScope s_law_take) := ⟨rfl, rfl, rfl, by decide +kernel, rfl, by decide +kernel, by decide +kernel⟩
abbrev s_law_sign : Stmt := topS 13
theorem sc_law_sign : FnScope ["number", "signs"] ["number"] (defScope s_law_sign) := ⟨rfl, rfl, rfl, by decide +kernel, rfl, by decide +kernel, by decide +kernel⟩
abbrev s_law_text : Stmt := topS 14
theorem sc_law_text : FnScope ["numbers", "number"] ["numbers"] (defScope s_law_text) := ⟨rfl, rfl, rfl, by decide +kernel, rfl, by decide +kernel, by decide +kernel⟩
abbrev s_law_letters : Stmt := topS 15
theorem sc_law_letters : FnScope ["bag", "first", "letters", "near", "k", "number"] ["bag"] (defScope s_law_letters) := ⟨rfl, rfl, rfl, by decide +kernel, rfl, by decide +kernel, by decide +kernel⟩
abbrev s_law_pick : Stmt := topS 16
theorem sc_law_pick : FnScope ["bag", "letters", "number"] ["bag", "letters"] (defScope s_law_pick) := ⟨rfl, rfl, rfl, by decide +kernel, rfl, by decide +kernel, by decide +kernel⟩
abbrev s_law_same : Stmt := topS 17
theorem sc_law_same : FnScope ["actual", "due", "k"] ["actual", "due"] (defScope s_law_same) := ⟨rfl, rfl, rfl, by decide +kernel, rfl, by decide +kernel, by decide +kernel⟩
abbrev s_law_goes : Stmt := topS 18
theorem sc_law_goes : FnScope ["place", "edit", "side", "size", "row", "k"] ["place", "edit", "side", "size"] (defScope s_law_goes) := ⟨rfl, rfl, rfl, by decide +kernel, rfl, by decide +kernel, by decide +kernel⟩
abbrev s_law_refused : Stmt := topS 19
theorem sc_law_refused : FnScope ["place", "edit", "side", "e"] ["place", "edit", "side"] (defScope s_law_refused) := ⟨rfl, rfl, rfl, by decide +kernel, rfl, by decide +kernel, by decide +kernel⟩
abbrev s_law : Stmt := topS 20
theorem sc_law : FnScope ["script", "bag", "letters", "size", "carried", "told", "side", "k", "place", "wide", "removed", "edit", "places", "start", "way", "end", "due", "j"] ["script"] (defScope s_law) := ⟨rfl, rfl, rfl, by decide +kernel, rfl, by decide +kernel, by decide +kernel⟩
/-! ### what the top has written -/
structure Adr where
  Undefined_init : Addr
  Undefined_init_d : FuncData
  is_integer : Addr
  is_integer_d : FuncData
  growth : Addr
  growth_d : FuncData
  side_asked : Addr
  side_asked_d : FuncData
  place_moved : Addr
  place_moved_d : FuncData
  untouched : Addr
  untouched_d : FuncData
  law_bag : Addr
  law_bag_d : FuncData
  law_take : Addr
  law_take_d : FuncData
  law_sign : Addr
  law_sign_d : FuncData
  law_text : Addr
  law_text_d : FuncData
  law_letters : Addr
  law_letters_d : FuncData
  law_pick : Addr
  law_pick_d : FuncData
  law_same : Addr
  law_same_d : FuncData
  law_goes : Addr
  law_goes_d : FuncData
  law_refused : Addr
  law_refused_d : FuncData
  law : Addr
  law_d : FuncData
  TreeError : Addr
  Undefined : Addr
structure Txt (K : PySem.W.Frag) (mg : Str → Option Value) (a : Adr) : Prop where
  F_Undefined_init : Fun K "__init__" "Undefined.__init__" s_Undefined_init a.Undefined_init a.Undefined_init_d
  F_is_integer : Fun K "is_integer" "is_integer" s_is_integer a.is_integer a.is_integer_d
  m_is_integer : mg "is_integer" = some (.ref a.is_integer)
  F_growth : Fun K "growth" "growth" s_growth a.growth a.growth_d
  m_growth : mg "growth" = some (.ref a.growth)
  F_side_asked : Fun K "side_asked" "side_asked" s_side_asked a.side_asked a.side_asked_d
  m_side_asked : mg "side_asked" = some (.ref a.side_asked)
  F_place_moved : Fun K "place_moved" "place_moved" s_place_moved a.place_moved a.place_moved_d
  m_place_moved : mg "place_moved" = some (.ref a.place_moved)
  F_untouched : Fun K "untouched" "untouched" s_untouched a.untouched a.untouched_d
  m_untouched : mg "untouched" = some (.ref a.untouched)
  F_law_bag : Fun K "_law_bag" "_law_bag" s_law_bag a.law_bag a.law_bag_d
  m_law_bag : mg "_law_bag" = some (.ref a.law_bag)
  F_law_take : Fun K "_law_take" "_law_take" s_law_take a.law_take a.law_take_d
  m_law_take : mg "_law_take" = some (.ref a.law_take)
  F_law_sign : Fun K "_law_sign" "_law_sign" s_law_sign a.law_sign a.law_sign_d
  m_law_sign : mg "_law_sign" = some (.ref a.law_sign)
  F_law_text : Fun K "_law_text" "_law_text" s_law_text a.law_text a.law_text_d
  m_law_text : mg "_law_text" = some (.ref a.law_text)
  F_law_letters : Fun K "_law_letters" "_law_letters" s_law_letters a.law_letters a.law_letters_d
  m_law_letters : mg "_law_letters" = some (.ref a.law_letters)
  F_law_pick : Fun K "_law_pick" "_law_pick" s_law_pick a.law_pick a.law_pick_d
  m_law_pick : mg "_law_pick" = some (.ref a.law_pick)
  F_law_same : Fun K "_law_same" "_law_same" s_law_same a.law_same a.law_same_d
  m_law_same : mg "_law_same" = some (.ref a.law_same)
  F_law_goes : Fun K "_law_goes" "_law_goes" s_law_goes a.law_goes a.law_goes_d
  m_law_goes : mg "_law_goes" = some (.ref a.law_goes)
  F_law_refused : Fun K "_law_refused" "_law_refused" s_law_refused a.law_refused a.law_refused_d
  m_law_refused : mg "_law_refused" = some (.ref a.law_refused)
  F_law : Fun K "law" "law" s_law a.law a.law_d
  m_law : mg "law" = some (.ref a.law)
  m_TreeError : mg "TreeError" = some (.ref a.TreeError)
  m_Undefined : mg "Undefined" = some (.ref a.Undefined)
  e_Undefined : ExAll K a.Undefined a.TreeError a.Undefined_init
  n_Undefined_what : PySem.W.findIn K (.ref a.Undefined) "what" = some none
  z_abs : mg "abs" = none
  z_all : mg "all" = none
  z_bool : mg "bool" = none
  z_int : mg "int" = none
  z_isinstance : mg "isinstance" = none
  z_len : mg "len" = none
  z_list : mg "list" = none
  z_max : mg "max" = none
  z_min : mg "min" = none
  z_range : mg "range" = none
  z_str : mg "str" = none
  z_tuple : mg "tuple" = none
section
variable {K : PySem.W.Frag} {mg : Str → Option Value} {a : Adr}
theorem B_Undefined_init (T : Txt K mg a) : Binds K a.Undefined_init_d ["self", "what"] [] := T.F_Undefined_init.binds (ps := ["self", "what"]) fun _ _ _ _ _ _ us hl => match us, hl with | [_, _], _ => rfl
theorem B_is_integer (T : Txt K mg a) : Binds K a.is_integer_d ["value"] [] := T.F_is_integer.binds (ps := ["value"]) fun _ _ _ _ _ _ us hl => match us, hl with | [_], _ => rfl
theorem B_growth (T : Txt K mg a) : Binds K a.growth_d ["edit"] [] := T.F_growth.binds (ps := ["edit"]) fun _ _ _ _ _ _ us hl => match us, hl with | [_], _ => rfl
theorem B_side_asked (T : Txt K mg a) : Binds K a.side_asked_d ["value"] [] := T.F_side_asked.binds (ps := ["value"]) fun _ _ _ _ _ _ us hl => match us, hl with | [_], _ => rfl
theorem B_place_moved (T : Txt K mg a) : Binds K a.place_moved_d ["place", "edit", "side"] [] := T.F_place_moved.binds (ps := ["place", "edit", "side"]) fun _ _ _ _ _ _ us hl => match us, hl with | [_, _, _], _ => rfl
theorem B_untouched (T : Txt K mg a) : Binds K a.untouched_d ["edit", "start", "end"] [] := T.F_untouched.binds (ps := ["edit", "start", "end"]) fun _ _ _ _ _ _ us hl => match us, hl with | [_, _, _], _ => rfl
theorem B_law_bag (T : Txt K mg a) : Binds K a.law_bag_d ["script"] [] := T.F_law_bag.binds (ps := ["script"]) fun _ _ _ _ _ _ us hl => match us, hl with | [_], _ => rfl
theorem B_law_take (T : Txt K mg a) : Binds K a.law_take_d ["bag", "many"] [] := T.F_law_take.binds (ps := ["bag", "many"]) fun _ _ _ _ _ _ us hl => match us, hl with | [_, _], _ => rfl
theorem B_law_sign (T : Txt K mg a) : Binds K a.law_sign_d ["number"] [] := T.F_law_sign.binds (ps := ["number"]) fun _ _ _ _ _ _ us hl => match us, hl with | [_], _ => rfl
theorem B_law_text (T : Txt K mg a) : Binds K a.law_text_d ["numbers"] [] := T.F_law_text.binds (ps := ["numbers"]) fun _ _ _ _ _ _ us hl => match us, hl with | [_], _ => rfl
theorem B_law_letters (T : Txt K mg a) : Binds K a.law_letters_d ["bag"] [] := T.F_law_letters.binds (ps := ["bag"]) fun _ _ _ _ _ _ us hl => match us, hl with | [_], _ => rfl
theorem B_law_pick (T : Txt K mg a) : Binds K a.law_pick_d ["bag", "letters"] [] := T.F_law_pick.binds (ps := ["bag", "letters"]) fun _ _ _ _ _ _ us hl => match us, hl with | [_, _], _ => rfl
theorem B_law_same (T : Txt K mg a) : Binds K a.law_same_d ["actual", "due"] [] := T.F_law_same.binds (ps := ["actual", "due"]) fun _ _ _ _ _ _ us hl => match us, hl with | [_, _], _ => rfl
theorem B_law_goes (T : Txt K mg a) : Binds K a.law_goes_d ["place", "edit", "side", "size"] [] := T.F_law_goes.binds (ps := ["place", "edit", "side", "size"]) fun _ _ _ _ _ _ us hl => match us, hl with | [_, _, _, _], _ => rfl
theorem B_law_refused (T : Txt K mg a) : Binds K a.law_refused_d ["place", "edit", "side"] [] := T.F_law_refused.binds (ps := ["place", "edit", "side"]) fun _ _ _ _ _ _ us hl => match us, hl with | [_, _, _], _ => rfl
theorem B_law (T : Txt K mg a) : Binds K a.law_d ["script"] [] := T.F_law.binds (ps := ["script"]) fun _ _ _ _ _ _ us hl => match us, hl with | [_], _ => rfl
theorem kb_untouched_0_end_edit_start (T : Txt K mg a) : KBn K a.untouched_d ["edit", "start", "end"] 0 ["end", "edit", "start"] (fun us ws => match us, ws with | [], [w0, w1, w2] => [w1, w2, w0] | _, _ => []) (fun us ws => match us, ws with | [], [w0, w1, w2] => [w1, w2, w0] | _, _ => []) := by
  obtain ⟨oc, od, kV, doc, pm, an, cdv, ct, osl, e, lk, hcd⟩ := T.F_untouched.ex
  rw [e]
  refine ⟨fun s us ws X l1 l2 => ?_, fun {vs us zs ws} r1 r2 => ?_⟩
  · match us, l1, ws, l2 with
    | [], _, [w0, w1, w2], _ => exact BindsTo.of_eq rfl
  · cases r1 with
    | cons _ _ => exact .nil
    | nil =>
      cases r2 with
      | nil => exact .nil
      | cons h_w0 r2 =>
        cases r2 with
        | nil => exact .nil
        | cons h_w1 r2 =>
          cases r2 with
          | nil => exact .nil
          | cons h_w2 r2 =>
            cases r2 with
            | cons _ _ => exact .nil
            | nil => exact (.cons h_w1 (.cons h_w2 (.cons h_w0 .nil)))
theorem kb_place_moved_0_side_edit_place (T : Txt K mg a) : KBn K a.place_moved_d ["place", "edit", "side"] 0 ["side", "edit", "place"] (fun us ws => match us, ws with | [], [w0, w1, w2] => [w2, w1, w0] | _, _ => []) (fun us ws => match us, ws with | [], [w0, w1, w2] => [w2, w1, w0] | _, _ => []) := by
  obtain ⟨oc, od, kV, doc, pm, an, cdv, ct, osl, e, lk, hcd⟩ := T.F_place_moved.ex
  rw [e]
  refine ⟨fun s us ws X l1 l2 => ?_, fun {vs us zs ws} r1 r2 => ?_⟩
  · match us, l1, ws, l2 with
    | [], _, [w0, w1, w2], _ => exact BindsTo.of_eq rfl
  · cases r1 with
    | cons _ _ => exact .nil
    | nil =>
      cases r2 with
      | nil => exact .nil
      | cons h_w0 r2 =>
        cases r2 with
        | nil => exact .nil
        | cons h_w1 r2 =>
          cases r2 with
          | nil => exact .nil
          | cons h_w2 r2 =>
            cases r2 with
            | cons _ _ => exact .nil
            | nil => exact (.cons h_w2 (.cons h_w1 (.cons h_w0 .nil)))
end

section
variable {P : Program} {w : World} {K : PySem.W.Frag} {mg : Str → Option Value} {base : Heap} {a : Adr}
/-! ### plain values -/
/-- a value whose built-in type is known -/
inductive Bas (H : Hp) : V → String → Prop where
  | non : Bas H .non "NoneType"
  | bl (b : Bool) : Bas H (.bl b) "bool"
  | int (i : Int) : Bas H (.int i) "int"
  | str (s : Str) : Bas H (.str s) "str"
  | lst {a : Addr} {xs : List V} (e : H a = some (.lst xs)) : Bas H (.ref a) "list"
  | tup {a : Addr} {xs : List V} (e : H a = some (.tup xs)) : Bas H (.ref a) "tuple"
theorem Bas.ty {K : PySem.W.Frag} {H : Hp} {x : V} {t : String} (b : Bas H x t) : TyX K H x (.type t) := by
  cases b with
  | non => exact .base .non
  | bl b => exact .base (.bl b)
  | int i => exact .base (.int i)
  | str s => exact .base (.str s)
  | lst e => exact .base (.lst e)
  | tup e => exact .base (.tup e)
theorem Bas.mono {b : Addr} {H H' : Hp} {x : V} {t : String} (h : But b H H') (n : x ≠ .ref b) (z : Bas H x t) : Bas H' x t := by
  cases z with
  | non => exact .non
  | bl b => exact .bl b
  | int i => exact .int i
  | str s => exact .str s
  | lst e => exact .lst (h _ _ (fun q => n (by rw [q])) e)
  | tup e => exact .tup (h _ _ (fun q => n (by rw [q])) e)
theorem Bas.same {H H' : Hp} {x : V} {t : String} (h : Same H H') (z : Bas H x t) : Bas H' x t := by
  cases z with
  | non => exact .non
  | bl b => exact .bl b
  | int i => exact .int i
  | str s => exact .str s
  | lst e => exact .lst (h _ _ e)
  | tup e => exact .tup (h _ _ e)
def isIntV : V → Bool
  | .int _ => true
  | _ => false
def sp_is_integer : Sp := fun vs H Q _ => ∃ (x : V) (t : String), vs = [x] ∧ Bas H x t ∧ Q (.bl (isIntV x)) H
theorem ok_is_integer (T : Txt K mg a) : FnOk P w K mg base CX0 1 a.is_integer a.is_integer_d ["value"] sp_is_integer := by
  refine T.F_is_integer.ok sc_is_integer (fun vs H Q E h => ?_) (fun cdv A outer s H vs Q E hr h => ?_)
  · obtain ⟨x, t, rfl, _⟩ := h
    rfl
  · obtain ⟨x, t, rfl, hb, q⟩ := h
    refine ⟨_, (pss_one (ps_ret (pe_and (pe_callB call_isi (by rfl) T.z_isinstance (by decide +kernel) (pa_cons (pv 0) (pa_cons (pe_bltn (v := .ty "int") (by rfl) T.z_int (by decide +kernel) rfl) pa_nil))) (pe_one (pe_not (pe_callB call_isi (by rfl) T.z_isinstance (by decide +kernel) (pa_cons (pv 0) (pa_cons (pe_bltn (v := .ty "bool") (by rfl) T.z_bool (by decide +kernel) rfl) pa_nil)))))))), ?_⟩
    have ty : TyX K H x (.type t) := hb.ty
    refine ⟨x, rfl, ?_⟩
    have k1 : ∀ (r : Bool), kitB t "int" = some r → PySem.W.kitOne K (.type t) (.type "int") = some r := fun r e => kit_ty e
    cases hb with
    | int i =>
      refine ⟨_, _, _, _, true, rfl, .ty _, ty, kit_ty (by decide +kernel), true, rfl, ?_⟩
      refine ⟨_, rfl, _, _, _, _, false, rfl, .ty _, ty, kit_ty (by decide +kernel), false, rfl, ?_⟩
      exact q
    | bl b =>
      refine ⟨_, _, _, _, true, rfl, .ty _, ty, kit_ty (by decide +kernel), true, rfl, ?_⟩
      refine ⟨_, rfl, _, _, _, _, true, rfl, .ty _, ty, kit_ty (by decide +kernel), true, rfl, ?_⟩
      exact q
    | non =>
      refine ⟨_, _, _, _, false, rfl, .ty _, ty, kit_ty (by decide +kernel), false, rfl, ?_⟩
      exact q
    | str s =>
      refine ⟨_, _, _, _, false, rfl, .ty _, ty, kit_ty (by decide +kernel), false, rfl, ?_⟩
      exact q
    | lst e =>
      refine ⟨_, _, _, _, false, rfl, .ty _, ty, kit_ty (by decide +kernel), false, rfl, ?_⟩
      exact q
    | tup e =>
      refine ⟨_, _, _, _, false, rfl, .ty _, ty, kit_ty (by decide +kernel), false, rfl, ?_⟩
      exact q

/-! ### the bag of drawn numbers -/
/-- a bag stands at b, its row of cells at l -/
def Bag (H : Hp) (b l : Addr) : Prop := ∃ (ns : List Int) (i c s t : Int), H b = some (.lst [.ref l, .int i, .int c, .int s, .int t]) ∧ H l = some (.lst (ns.map V.int)) ∧ l ≠ b ∧ 0 ≤ i ∧ 0 ≤ c ∧ 0 ≤ s ∧ s < 2147483647
theorem Bag.same {H H' : Hp} {b l : Addr} (h : Same H H') (z : Bag H b l) : Bag H' b l := by
  obtain ⟨ns, i, c, s, t, e1, e2, r⟩ := z
  exact ⟨ns, i, c, s, t, h _ _ e1, h _ _ e2, r⟩
theorem Bag.new {H : Hp} {b l p : Addr} {o : HO} (n : H p = none) (z : Bag H b l) : Bag (upd H p o) b l := z.same (Same.new n)
theorem Bag.upd {H : Hp} {b l p : Addr} {o : HO} (n : p ≠ b) (m : p ≠ l) (z : Bag H b l) : Bag (upd H p o) b l := by
  obtain ⟨ns, i, c, s, t, e1, e2, r⟩ := z
  exact ⟨ns, i, c, s, t, by rw [upd_ne (Ne.symm n)]; exact e1, by rw [upd_ne (Ne.symm m)]; exact e2, r⟩
theorem Bag.ne {H : Hp} {b l p : Addr} (n : H p = none) (z : Bag H b l) : p ≠ b ∧ p ≠ l := by
  obtain ⟨ns, i, c, s, t, e1, e2, r⟩ := z
  exact ⟨Ne.symm (ne_of_none e1 n), Ne.symm (ne_of_none e2 n)⟩
local macro_rules | `(tactic| walk_at "hb") => `(tactic| first | assumption | (apply Bag.same; assumption; walk_at "hb") | (apply Bag.new; assumption; walk_at "hb") | (apply Bag.upd; walk_at "ne"; walk_at "ne"; walk_at "hb"))
def sp_law_bag (K : PySem.W.Frag) : Sp := fun vs H Q _ => ∃ (p : Addr) (ns : List Int), vs = [.ref p] ∧ SqL K H p (ns.map V.int) ∧ ∀ b l H', H b = none → Same H H' → Bag H' b l → Q (.ref b) H'
theorem ok_law_bag (T : Txt K mg a) : FnOk P w K mg base CX0 1 a.law_bag a.law_bag_d ["script"] (sp_law_bag K) := by
  refine T.F_law_bag.ok sc_law_bag (fun vs H Q E h => ?_) (fun cdv A outer s H vs Q E hr h => ?_)
  · obtain ⟨p, ns, rfl, _⟩ := h
    rfl
  · obtain ⟨p, ns, rfl, hS, q⟩ := h
    refine ⟨_, (pss_one (ps_ret (pe_lst (pa_cons (pe_callTy call_list_of (by rfl) T.z_list (by decide +kernel) (pa_cons (pv 0) pa_nil)) (pa_cons pe_int (pa_cons pe_int (pa_cons pe_int (pa_cons pe_int pa_nil)))))))), ?_⟩
    refine ⟨_, rfl, p, _, rfl, .inl hS, fun l hl => ?_⟩
    refine ⟨by show 5 ≤ sizeLine; decide, fun b hb => ?_⟩
    obtain ⟨hbH, nbl⟩ := upd_free2 hb
    refine q b l _ hbH ((Same.new hl).trans (Same.new hb)) ⟨ns, 0, 0, 5, 0, upd_same, ?_, Ne.symm nbl, by decide, by decide, by decide, by decide⟩
    rw [upd_ne (Ne.symm nbl), upd_same]
/-- a draw: any number below many; the bag alone changes -/
def sp_law_take : Sp := fun vs H Q _ => ∃ (b c : Addr) (m : Int), vs = [.ref b, .int m] ∧ Bag H b c ∧ 0 < m ∧ m < 1000000 ∧ ∀ n H', 0 ≤ n → n < m → But b H H' → Bag H' b c → Q (.int n) H'
theorem ok_law_take (T : Txt K mg a) : FnOk P w K mg base CX0 1 a.law_take a.law_take_d ["bag", "many"] sp_law_take := by
  refine T.F_law_take.ok sc_law_take (fun vs H Q E h => ?_) (fun cdv A outer s H vs Q E hr h => ?_)
  · obtain ⟨b, l, m, rfl, _⟩ := h
    rfl
  · obtain ⟨b, l, m, rfl, hB, hm0, hm1, q⟩ := h
    refine ⟨_, (Evl.pss_cut (ps_if (PW.pt (pw_and (pt_cmpR op_eq (pe_ix ix_list (pv 0) pe_int (fun _ _ => rfl)) pe_int (nomark _)) (pw_and1 (pt_cmpR op_lt (pe_ix ix_list (pv 0) pe_int (fun _ _ => rfl)) (pe_callB call_len (by rfl) T.z_len (by decide +kernel) (pa_cons (pe_ix ix_list (pv 0) pe_int (fun _ _ => rfl)) pa_nil)) (nomark _)))))
      (pss_cons (ps_set (i := 2) sc_law_take.nd rfl (.inl rfl) (pe_callTy call_int1 (by rfl) T.z_int (by decide +kernel) (pa_cons (pe_ix ix_list (pe_ix ix_list (pv 0) pe_int (fun _ _ => rfl)) (pe_ix ix_list (pv 0) pe_int (fun _ _ => rfl)) (fun _ _ => rfl)) pa_nil)))
      (pss_cons (ps_asg (pe_op op_add (pe_ix ix_list (pv 0) pe_int (fun _ _ => rfl)) pe_int) (pg_sub (pv 0) pe_int set_list))
      (pss_one (ps_if (pt_cmpR op_ge (pe_callB call_abs (by rfl) T.z_abs (by decide +kernel) (pa_cons (pv 2) pa_nil)) (pe_op op_pow pe_int pe_int) (nomark _))
        (pss_one (ps_asg (pe_callB call_abs (by rfl) T.z_abs (by decide +kernel) (pa_cons (pv 2) pa_nil)) (pg_sub (pv 0) pe_int set_list)))
        (pss_one (ps_asg (pe_op op_modN (pe_callTy call_int1 (by rfl) T.z_int (by decide +kernel) (pa_cons (pe_op op_add (pe_op op_add (pe_op op_add (pe_op op_mul (pe_ix ix_list (pv 0) pe_int (fun _ _ => rfl)) pe_int) (pe_op op_mul pe_int (pe_callB call_abs (by rfl) T.z_abs (by decide +kernel) (pa_cons (pv 2) pa_nil)))) (pe_callTy call_int1 (by rfl) T.z_int (by decide +kernel) (pa_cons (pe_cmpR op_lt (pv 2) pe_int (nomark _)) pa_nil))) pe_int) pa_nil)) pe_int) (pg_sub (pv 0) pe_int set_list)))))))
      pss_nil)
    (pss_cons (ps_if (pt_cmpR op_gt (pe_ix ix_list (pv 0) pe_int (fun _ _ => rfl)) pe_int (nomark _))
      (pss_cons (ps_set (i := 3) sc_law_take.nd rfl (.inl rfl) (pe_op op_modN (pe_callTy call_int1 (by rfl) T.z_int (by decide +kernel) (pa_cons (pe_ix ix_list (pv 0) pe_int (fun _ _ => rfl)) pa_nil)) (pv 1)))
      (pss_cons (ps_asg (pe_op op_fdivN (pe_ix ix_list (pv 0) pe_int (fun _ _ => rfl)) (pv 1)) (pg_sub (pv 0) pe_int set_list))
      (pss_one (ps_ret (pv 3)))))
      pss_nil)
    (pss_cons (ps_asg (pe_op op_add (pe_ix ix_list (pv 0) pe_int (fun _ _ => rfl)) pe_int) (pg_sub (pv 0) pe_int set_list))
    (pss_cons (ps_set (i := 4) sc_law_take.nd rfl (.inl rfl) (pe_op op_modN (pe_callTy call_int1 (by rfl) T.z_int (by decide +kernel) (pa_cons (pe_op op_add (pe_op op_add (pe_op op_mul (pe_ix ix_list (pv 0) pe_int (fun _ _ => rfl)) pe_int) (pe_op op_mul (pe_ix ix_list (pv 0) pe_int (fun _ _ => rfl)) pe_int)) pe_int) pa_nil)) pe_int))
    (pss_cons (ps_set (i := 4) sc_law_take.nd rfl (.inl rfl) (pe_op op_modN (pe_callTy call_int1 (by rfl) T.z_int (by decide +kernel) (pa_cons (pe_op op_add (pe_op op_add (pe_op op_mul (pv 4) (pv 4)) (pe_op op_mul (pe_ix ix_list (pv 0) pe_int (fun _ _ => rfl)) pe_int)) (pe_ix ix_list (pv 0) pe_int (fun _ _ => rfl))) pa_nil)) pe_int))
    (pss_one (ps_ret (pe_op op_modN (pe_callTy call_int1 (by rfl) T.z_int (by decide +kernel) (pa_cons (pe_op op_fdivN (pv 4) pe_int) pa_nil)) (pv 1))))))))), ?_⟩
    obtain ⟨ns, i, c, s, t, e1, e2, nlb, i0, c0, s0, s1⟩ := id hB
    refine ⟨fun σ' H' => ∃ o : Option V, σ' = [some (.ref b), some (.int m), o, none, none] ∧ Bag H' b l ∧ But b H H', ?_, ?_⟩
    · walk_at "wp"
      refine brd (fun h1 => ?_) (fun h1 => ?_)
      · walk_at "wp"
        refine brd (fun h2 => ?_) (fun h2 => ?_)
        · have h4 : i.toNat < ns.length := by rw [List.length_map] at h2; omega
          have h5 : (ns.map V.int)[i.toNat]? = some (.int ns[i.toNat]) := by rw [List.getElem?_map, List.getElem?_eq_getElem h4]; rfl
          walk_at "wp"
          refine brd (fun h6 => ?_) (fun h6 => ?_)
          · walk_at "wp"
            refine ⟨⟨ns, i + 1, _, s, t, upd_same, ?_, nlb, by omega, ?_, s0, s1⟩, But.trans .at .at⟩
            · rw [upd_ne nlb, upd_ne nlb]
              exact e2
            · split <;> omega
          · walk_at "wp"
            rename_i r _ r0 r1
            refine ⟨⟨ns, i + 1, c, r, t, upd_same, ?_, nlb, by omega, c0, r0, r1⟩, But.trans .at .at⟩
            rw [upd_ne nlb, upd_ne nlb]
            exact e2
        · walk_at "wp"
          exact ⟨hB, .refl⟩
      · walk_at "wp"
        exact ⟨hB, .refl⟩
    · intro σ' H' hW
      obtain ⟨o, rfl, hB', hb'⟩ := hW
      obtain ⟨ns, i, c, s, t, e1, e2, nlb, i0, c0, s0, s1⟩ := id hB'
      walk_at "wp"
      refine brd (fun h1 => ?_) (fun h1 => ?_)
      · walk_at "wp"
        rename_i r _ r0 r1 d _ d0 _ _
        refine q r _ r0 r1 (But.trans hb' .at) ⟨ns, i, d, s, t, upd_same, ?_, nlb, i0, (d0 c0).1, s0, s1⟩
        rw [upd_ne nlb]
        exact e2
      · walk_at "wp"
        refine q _ _ (by assumption) (by assumption) (But.trans hb' .at) ⟨ns, i, c, s, _, upd_same, ?_, nlb, i0, c0, s0, s1⟩
        rw [upd_ne nlb]
        exact e2
/-! ### signs, texts of signs -/
/-- line feed, or from the blank to the tilde, but the percent sign -/
def sgn (c : Nat) : Bool := c == 10 || (32 ≤ c && c ≤ 126 && c != 37)
def sp_law_sign : Sp := fun vs H Q _ => ∃ n : Int, vs = [.int n] ∧ 0 ≤ n ∧ n < 96 ∧ ∀ c, sgn c = true → Q (.str ⟨#[c]⟩) H
theorem ok_law_sign (T : Txt K mg a) : FnOk P w K mg base CX0 1 a.law_sign a.law_sign_d ["number"] sp_law_sign := by
  refine T.F_law_sign.ok sc_law_sign (fun vs H Q E h => ?_) (fun cdv A outer s H vs Q E hr h => ?_)
  · obtain ⟨n, rfl, _⟩ := h
    rfl
  · obtain ⟨n, rfl, h0, h1, q⟩ := h
    refine ⟨_, (pss_cons (ps_set (i := 1) sc_law_sign.nd rfl (.inl rfl) pe_str)
    (pss_one (ps_ret (pe_ix ix_str (pv 1) (pe_op op_sub (pv 0) (pe_callTy call_int1 (by rfl) T.z_int (by decide +kernel) (pa_cons (pe_cmpR op_gt (pv 0) pe_int (nomark _)) pa_nil))) (fun _ _ => rfl))))), ?_⟩
    walk_at "wp"
    have hk : 0 ≤ n - (if decide (6 < n) = true then 1 else 0) ∧ n - (if decide (6 < n) = true then 1 else 0) < 95 := by
      by_cases h6 : 6 < n
      · rw [decide_eq_true h6, if_pos rfl]
        omega
      · rw [decide_eq_false h6, if_neg (by decide)]
        omega
    have key : ∀ z : Str, (z.cps.toList.all sgn && z.cps.toList.length == 95) = true → z.length ≤ sizeLine → rIxS (.str z) (.int (n - (if decide (6 < n) = true then 1 else 0))) H Q := by
      intro z hz hl
      obtain ⟨h2, h3⟩ := Bool.and_eq_true_iff.mp hz
      have h4 : z.cps.toList.length = 95 := by simpa using h3
      obtain ⟨c, e, hm⟩ := atI_ex (xs := z.cps.toList) hk.1 (by rw [h4]; exact hk.2)
      exact ⟨z, _, c, rfl, rfl, hl, e, q c (List.all_eq_true.mp h2 c hm)⟩
    exact key _ (by decide +kernel) (by decide +kernel)
/-- a text of signs -/
def Txt1 (s : Str) : Prop := s.cps.toList.all sgn = true
def sp_law_text (K : PySem.W.Frag) : Sp := fun vs H Q _ => ∃ (p : Addr) (ns : List Int), vs = [.ref p] ∧ SqL K H p (ns.map V.int) ∧ ns.length ≤ 1000 ∧ (∀ n ∈ ns, 0 ≤ n ∧ n < 96) ∧ ∀ s H', s.length = ns.length → Txt1 s → Same H H' → Q (.str s) H'
theorem ok_law_text (T : Txt K mg a) : FnOk P w K mg base CX0 2 a.law_text a.law_text_d ["numbers"] (sp_law_text K) := by
  refine T.F_law_text.ok sc_law_text (fun vs H Q E h => ?_) (fun cdv A outer s H vs Q E hr h => ?_)
  · obtain ⟨p, ns, rfl, _⟩ := h
    rfl
  · obtain ⟨p, ns, rfl, hS, hl, hn, q⟩ := h
    refine ⟨_, (pss_one (ps_ret (pe_join pe_str (pe_lc (own := [("number", 1)]) rfl sc_law_text.nd (pi_list (pv 0)) (blkOk_by (own := [("number", 1)]) (N := ["numbers", "number"]) (sc := defScope s_law_text) (by decide +kernel)) (fun _ _ _ _ _ => (pg_name (i := 1) sc_law_text.nd rfl (Or.inl rfl))) (fun _ _ _ _ _ => pts_nil) (fun _ _ _ _ _ => (pe_call (ok_law_sign T) (hr.mono (by decide)) (by rfl) T.m_law_sign T.F_law_sign.kp (B_law_sign T) .nil pass0 (pa_cons (pv 1) pa_nil))))))), ?_⟩
    walk_at "wp"
    refine ⟨⟨_, hS⟩, fun D hD => lc_list (xs := ns.map V.int) (fun i H' => ∃ ys : List Str, ys.length = i ∧ (∀ y ∈ ys, ∃ c, y = (⟨#[c]⟩ : Str) ∧ sgn c = true) ∧ H' D = some (.lst (ys.map V.str)) ∧ Same H H') ⟨[], rfl, by simp, upd_same, Same.new hD⟩ (fun i H' _ ⟨_, _, _, _, s⟩ => s.seq hS) ?_ ?_⟩
    · rintro i x H' hx ⟨ys, rfl, hy, hD', sm⟩
      obtain ⟨z, hz, rfl, hm⟩ := mem_int hx
      have hlen := (List.getElem?_eq_some_iff.mp hx).1
      rw [List.length_map] at hlen
      refine ⟨rfl, ?_⟩
      walk_at "wp"
      refine ⟨(hn z hm).1, (hn z hm).2, fun c hc => ?_⟩
      refine ⟨_, hD', by rw [List.length_map]; exact lt_line (by omega), ys ++ [⟨#[c]⟩], by simp, ?_, ?_, ?_⟩
      · intro y hy'
        rcases List.mem_append.mp hy' with h | h
        · exact hy y h
        · exact ⟨c, List.mem_singleton.mp h, hc⟩
      · rw [upd_same, List.map_append]
        rfl
      · exact fun b o e => by rw [upd_ne (ne_of_none e hD)]; exact sm b o e
    · rintro H' ⟨ys, hyl, hy, hD', sm⟩
      rw [List.length_map] at hyl
      obtain ⟨j1, j2⟩ := join_ones sgn ys hy
      refine ⟨_, _, ys, rfl, rfl, .inl (SqL.of hD'), ?_, ?_⟩
      · rw [sum_ones ys sgn hy]
        show ys.length + ys.length * 0 ≤ _
        omega
      · exact q _ _ (by rw [j1, hyl]) j2 sm

/-- letters to draw from: one to four numbers below 96 -/
def Lets (H : Hp) (l : Addr) : Prop := ∃ ns : List Int, H l = some (.lst (ns.map V.int)) ∧ 0 < ns.length ∧ ns.length ≤ 4 ∧ ∀ n ∈ ns, 0 ≤ n ∧ n < 96
theorem Lets.but {b l : Addr} {H H' : Hp} (x : But b H H') (n : l ≠ b) (h : Lets H l) : Lets H' l := by
  obtain ⟨ns, e, r⟩ := h
  exact ⟨ns, x _ _ n e, r⟩
theorem Lets.same {l : Addr} {H H' : Hp} (x : Same H H') (h : Lets H l) : Lets H' l := by
  obtain ⟨ns, e, r⟩ := h
  exact ⟨ns, x _ _ e, r⟩
theorem Lets.ne {l p : Addr} {H : Hp} (n : H p = none) (h : Lets H l) : l ≠ p := by
  obtain ⟨ns, e, _⟩ := h
  exact ne_of_none e n
theorem Lets.upd {l p : Addr} {H : Hp} {o : HO} (n : l ≠ p) (h : Lets H l) : Lets (upd H p o) l := by
  obtain ⟨ns, e, r⟩ := h
  exact ⟨ns, by rw [upd_ne n]; exact e, r⟩
local macro_rules | `(tactic| walk_at "hl") => `(tactic| first | assumption | (apply Lets.same; assumption; walk_at "hl") | (apply Lets.but; assumption; walk_at "ne"; walk_at "hl"))
def sp_law_letters : Sp := fun vs H Q _ => ∃ b c : Addr, vs = [.ref b] ∧ Bag H b c ∧ ∀ l H', H l = none → But b H H' → Bag H' b c → Lets H' l → Q (.ref l) H'
theorem ok_law_letters (T : Txt K mg a) : FnOk P w K mg base CX0 2 a.law_letters a.law_letters_d ["bag"] sp_law_letters := by
  refine T.F_law_letters.ok sc_law_letters (fun vs H Q E h => ?_) (fun cdv A outer s H vs Q E hr h => ?_)
  · obtain ⟨b, c, rfl, _⟩ := h
    rfl
  · obtain ⟨b, c, rfl, hB, q⟩ := h
    refine ⟨_, (pss_cons (ps_set (i := 1) sc_law_letters.nd rfl (.inl rfl) (pe_ix ix_list (pe_lst (pa_cons pe_int (pa_cons pe_int (pa_cons pe_int (pa_cons (pe_call (ok_law_take T) (hr.mono (by decide)) (by rfl) T.m_law_take T.F_law_take.kp (B_law_take T) .nil pass0 (pa_cons (pv 0) (pa_cons pe_int pa_nil))) pa_nil))))) (pe_callB (call_min2 rfl) (by rfl) T.z_min (by decide +kernel) (pa_cons (pe_call (ok_law_take T) (hr.mono (by decide)) (by rfl) T.m_law_take T.F_law_take.kp (B_law_take T) .nil pass0 (pa_cons (pv 0) (pa_cons pe_int pa_nil))) (pa_cons pe_int pa_nil))) (fun _ _ => rfl)))
    (pss_cons (ps_set (i := 2) sc_law_letters.nd rfl (.inl rfl) (pe_lst (pa_cons (pe_op op_add (pv 1) (pe_callTy call_int1 (by rfl) T.z_int (by decide +kernel) (pa_cons (pe_cmpR op_gt (pv 1) pe_int (nomark _)) pa_nil))) pa_nil)))
    (pss_cons (ps_set (i := 3) sc_law_letters.nd rfl (.inl rfl) (pe_call (ok_law_take T) (hr.mono (by decide)) (by rfl) T.m_law_take T.F_law_take.kp (B_law_take T) .nil pass0 (pa_cons (pv 0) (pa_cons pe_int pa_nil))))
    (pss_cons (ps_for PassesOwn.never rfl (pi_range1 (by rfl) T.z_range (pa_cons (pe_op op_add pe_int (pe_call (ok_law_take T) (hr.mono (by decide)) (by rfl) T.m_law_take T.F_law_take.kp (B_law_take T) .nil pass0 (pa_cons (pv 0) (pa_cons pe_int pa_nil)))) pa_nil)) (pg_name (i := 4) sc_law_letters.nd rfl (.inl rfl))
      (pss_cons (ps_set (i := 5) sc_law_letters.nd rfl (.inl rfl) (pe_call (ok_law_take T) (hr.mono (by decide)) (by rfl) T.m_law_take T.F_law_take.kp (B_law_take T) .nil pass0 (pa_cons (pv 0) (pa_cons pe_int pa_nil))))
      (Evl.pss_cut (ps_if (pt_cmpR op_eq (pv 3) pe_int (nomark _))
        (pss_one (ps_set (i := 5) sc_law_letters.nd rfl (.inl rfl) (pe_op op_modN (pe_callTy call_int1 (by rfl) T.z_int (by decide +kernel) (pa_cons (pe_op op_add (pe_op op_add (pv 1) (pv 4)) pe_int) pa_nil)) pe_int)))
        pss_nil)
      (pss_one (ps_expr (pe_bm PySem.F.plainAttrs_list PySem.F.slot_list_append PySem.F.type_list_append mt_append (pv 2) (pa_cons (pe_op op_add (pv 5) (pe_callTy call_int1 (by rfl) T.z_int (by decide +kernel) (pa_cons (pe_cmpR op_gt (pv 5) pe_int (nomark _)) pa_nil))) pa_nil)))))))
    (pss_one (ps_ret (pv 2))))))), ?_⟩
    walk_at "wp"
    refine ⟨_, _, _, rfl, (by walk_at "hb"), (by decide), (by decide), fun n1 H1 n10 n11 s1 B1 => ?_⟩
    refine ⟨(by show 4 ≤ sizeLine; decide), fun p hp => ?_⟩
    walk_at "wp"
    obtain ⟨npb, npc⟩ := B1.ne hp
    refine ⟨_, _, _, rfl, (by walk_at "hb"), (by decide), (by decide), fun n2 H2 n20 n21 s2 B2 => ?_⟩
    walk_at "wp"
    obtain ⟨v, ev, v0, v1⟩ := atI_all (ns := [0, 59, 8, n1]) (i := if 3 < n2 then 3 else n2) (C := fun v => 0 ≤ v ∧ v < 95) (by split <;> omega) (by show _ < ((4 : Nat) : Int); split <;> omega) (by
      intro n hn
      simp only [List.mem_cons, List.not_mem_nil, or_false] at hn
      omega)
    refine ⟨_, _, _, _, rfl, rfl, (by walk_at "hp"), ev, ?_⟩
    walk_at "wp"
    refine ⟨disp rfl, fun l hl => ?_⟩
    obtain ⟨nlb, nlc⟩ := B2.ne hl
    walk_at "wp"
    refine ⟨_, _, _, rfl, (by walk_at "hb"), (by decide), (by decide), fun n3 H3 n30 n31 s3 B3 => ?_⟩
    walk_at "wp"
    refine ⟨_, _, _, rfl, (by walk_at "hb"), (by decide), (by decide), fun n4 H4 n40 n41 s4 B4 => ?_⟩
    walk_at "wp"
    have hl0 : H l = none := free_of_but s1 nlb (upd_free2 (free_of_but s2 nlb hl)).1
    refine ⟨by omega, by omega, for_range (lo := 0) (n := (1 + n4).toNat) (fun i σ H' => ∃ o4 o5 : Option V, ∃ ns : List Int, σ = [some (.ref b), some (.int v), some (.ref l), some (.int n3), o4, o5] ∧ Bag H' b c ∧ H' l = some (.lst (ns.map V.int)) ∧ ns.length = 1 + i ∧ (∀ n ∈ ns, 0 ≤ n ∧ n < 96) ∧ But b H H') ?_ ?_ ?_⟩
    · refine ⟨none, none, [v + if decide (5 < v) = true then 1 else 0], rfl, B4, (by walk_at "hp"), rfl, fun n hn => ?_, ((((s1.trans (But.new hp)).trans s2).trans (But.new hl)).trans s3).trans s4⟩
      rw [List.mem_singleton.mp hn]
      split <;> omega
    · rintro i σ H' hi ⟨o4, o5, ns, rfl, B, e, len, rng, sb⟩
      walk_at "wp"
      refine ⟨_, _, _, rfl, (by walk_at "hb"), (by decide), (by decide), fun n5 H5 n50 n51 s5 B5 => ?_⟩
      walk_at "wp"
      refine ⟨fun σ' H' => ∃ z : Int, H' = H5 ∧ 0 ≤ z ∧ z < 95 ∧ σ' = [some (.ref b), some (.int v), some (.ref l), some (.int n3), some (.int (0 + i)), some (.int z)], ?_, ?_⟩
      · walk_at "wp"
        refine brd (fun h1 => ?_) (fun h1 => ?_)
        · walk_at "wp"
          exact ⟨_, rfl, by assumption, by assumption, rfl⟩
        · walk_at "wp"
          exact ⟨_, rfl, by assumption, by assumption, rfl⟩
      · rintro σ' _ ⟨z, rfl, z0, z1, rfl⟩
        walk_at "wp"
        refine ⟨_, _, ns ++ [z + if decide (5 < z) = true then 1 else 0], rfl, B5.upd nlb nlc, ?_, ?_, ?_, (sb.trans s5).mut hl0⟩
        · rw [upd_same, List.map_append]
          rfl
        · rw [List.length_append, len]
          show 1 + i + 1 = 1 + (i + 1)
          omega
        · intro n hn
          rcases List.mem_append.mp hn with h | h
          · exact rng n h
          · rw [List.mem_singleton.mp h]
            split <;> omega
    · rintro σ H' ⟨o4, o5, ns, rfl, B, e, len, rng, sb⟩
      walk_at "wp"
      exact q l H' hl0 sb B ⟨ns, e, by omega, by omega, rng⟩
/-- a number of a sign: one of the letters, or any -/
def sp_law_pick : Sp := fun vs H Q _ => ∃ b c l : Addr, vs = [.ref b, .ref l] ∧ Bag H b c ∧ Lets H l ∧ l ≠ b ∧ ∀ n H', 0 ≤ n → n < 96 → But b H H' → Bag H' b c → Q (.int n) H'
theorem ok_law_pick (T : Txt K mg a) : FnOk P w K mg base CX0 2 a.law_pick a.law_pick_d ["bag", "letters"] sp_law_pick := by
  refine T.F_law_pick.ok sc_law_pick (fun vs H Q E h => ?_) (fun cdv A outer s H vs Q E hr h => ?_)
  · obtain ⟨b, c, l, rfl, _⟩ := h
    rfl
  · obtain ⟨b, c, l, rfl, hB, hL, nlb, q⟩ := h
    refine ⟨_, (pss_cons (ps_if (pt_cmpR op_gt (pe_call (ok_law_take T) (hr.mono (by decide)) (by rfl) T.m_law_take T.F_law_take.kp (B_law_take T) .nil pass0 (pa_cons (pv 0) (pa_cons pe_int pa_nil))) pe_int (nomark _))
      (pss_one (ps_ret (pe_ix ix_list (pv 1) (pe_call (ok_law_take T) (hr.mono (by decide)) (by rfl) T.m_law_take T.F_law_take.kp (B_law_take T) .nil pass0 (pa_cons (pv 0) (pa_cons (pe_callB call_len (by rfl) T.z_len (by decide +kernel) (pa_cons (pv 1) pa_nil)) pa_nil))) (fun _ _ => rfl))))
      pss_nil)
    (pss_cons (ps_set (i := 2) sc_law_pick.nd rfl (.inl rfl) (pe_call (ok_law_take T) (hr.mono (by decide)) (by rfl) T.m_law_take T.F_law_take.kp (B_law_take T) .nil pass0 (pa_cons (pv 0) (pa_cons pe_int pa_nil))))
    (pss_one (ps_ret (pe_op op_add (pv 2) (pe_callTy call_int1 (by rfl) T.z_int (by decide +kernel) (pa_cons (pe_cmpR op_gt (pv 2) pe_int (nomark _)) pa_nil))))))), ?_⟩
    walk_at "wp"
    refine ⟨_, _, _, rfl, (by walk_at "hb"), (by decide), (by decide), fun n1 H1 n10 n11 s1 B1 => ?_⟩
    walk_at "wp"
    refine brd (fun h1 => ?_) (fun h1 => ?_)
    · obtain ⟨ns, e, e0, e4, en⟩ := id hL
      walk_at "wp"
      refine ⟨_, _, _, rfl, (by walk_at "hb"), (by rw [List.length_map]; omega), (by rw [List.length_map]; omega), fun n2 H2 n20 n21 s2 B2 => ?_⟩
      obtain ⟨v, ev, v0, v1⟩ := atI_all n20 (by rw [List.length_map] at n21; exact n21) en
      refine ⟨_, _, _, _, rfl, rfl, (by walk_at "hp"), ev, ?_⟩
      walk_at "wp"
      exact q _ _ v0 v1 (s1.trans s2) B2
    · walk_at "wp"
      refine ⟨_, _, _, rfl, (by walk_at "hb"), (by decide), (by decide), fun n2 H2 n20 n21 s2 B2 => ?_⟩
      walk_at "wp"
      exact q _ _ (by show 0 ≤ n2 + _; split <;> omega) (by show n2 + _ < 96; split <;> omega) (s1.trans s2) B2

/-! ### an error of one field -/
def sp_exc1 (C : Addr) (f : Str) : Sp := fun vs H Q _ => ∃ (e : Addr) (y : V), vs = [.ref e, y] ∧ H e = some (exo e C none) ∧ ∀ dx, H dx = none → dx ≠ e → Q .non (upd (upd H dx (exd dx [(f, y)])) e (exo e C (some dx)))
/-- what raise C(y) comes to -/
theorem exc1_go {C : Addr} {f : Str} {y : V} {H : Hp} {E : XK} (h : ∀ d H', H d = none → H' d = some (.xd [(f, y)]) → Same H H' → E (.ref C) (some d) H') :
    [y].length ≤ 1000 ∧ ∀ e, H e = none → sp_exc1 C f (.ref e :: ([y] ++ [])) (upd H e (exo e C none)) (fun v H2 => v = .non ∧ ∃ (d : Addr) (fs : List (Str × V)), H2 e = some (exo e C (some d)) ∧ H2 d = some (exd d fs) ∧ H d = none ∧ E (.ref C) (some d) (upd (del H2 e) d (.xd fs))) (fun _ _ _ => False) := by
  refine ⟨by show 1 ≤ 1000; decide, fun e he => ⟨e, y, rfl, upd_same, fun dx hdx ne => ⟨rfl, dx, [(f, y)], upd_same, ?_, ?_, ?_⟩⟩⟩
  · rw [upd_ne ne, upd_same]
  · rw [upd_ne ne] at hdx
    exact hdx
  · rw [upd_ne ne] at hdx
    refine h dx _ hdx upd_same fun a o ha => ?_
    have n1 : a ≠ dx := ne_of_none ha hdx
    have n2 : a ≠ e := ne_of_none ha he
    rw [upd_ne n1, del_ne n2, upd_ne n2, upd_ne n1, upd_ne n2]
    exact ha

theorem ok_Undefined_init (T : Txt K mg a) : FnOk P w K mg base CX0 1 a.Undefined_init a.Undefined_init_d ["self", "what"] (sp_exc1 a.Undefined "what") := by
  refine T.F_Undefined_init.ok sc_Undefined_init (fun vs H Q E h => ?_) (fun cdv A outer s H vs Q E hr h => ?_)
  · obtain ⟨e, y, rfl, _⟩ := h
    rfl
  · obtain ⟨e, y, rfl, he, q⟩ := h
    refine ⟨_, (pss_one (ps_ost (pv 0) (pv 1))), ?_⟩
    walk_at "wp"
    exact ⟨_, _, rfl, T.e_Undefined.x, T.n_Undefined_what, .inl ⟨he, fun dx n ne => q dx n ne⟩⟩
def sp_growth (K : PySem.W.Frag) : Sp := fun vs H Q _ => ∃ (p : Addr) (x : V) (r : Int) (s : Str), vs = [.ref p] ∧ SqT K H p [x, .int r, .str s] ∧ s.length ≤ 1000 ∧ Q (.int (s.length - r)) H
theorem ok_growth (T : Txt K mg a) : FnOk P w K mg base CX0 1 a.growth a.growth_d ["edit"] (sp_growth K) := by
  refine T.F_growth.ok sc_growth (fun vs H Q E h => ?_) (fun cdv A outer s H vs Q E hr h => ?_)
  · obtain ⟨p, x, r, s, rfl, _⟩ := h
    rfl
  · obtain ⟨p, x, r, s, rfl, hT, hl, q⟩ := h
    refine ⟨_, (pss_one (ps_ret (pe_op op_sub (pe_callB call_len (by rfl) T.z_len (by decide +kernel) (pa_cons (pe_ix ix_tup (pv 0) pe_int (fun _ _ => rfl)) pa_nil)) (pe_ix ix_tup (pv 0) pe_int (fun _ _ => rfl))))), ?_⟩
    walk_at "wp"
    exact q
/-- a side that is one goes through; another one is refused -/
def sp_side_asked (C : Addr) : Sp := fun vs H Q E => ∃ n : Int, vs = [.int n] ∧ ((n = 0 ∨ n = 1) → ∀ H', Same H H' → Q (.int n) H') ∧
  (¬ (n = 0 ∨ n = 1) → ∀ d H', H d = none → H' d = some (.xd [("what", .str "side")]) → Same H H' → E (.ref C) (some d) H')
theorem ok_side_asked (T : Txt K mg a) : FnOk P w K mg base (L2.CX P w) 3 a.side_asked a.side_asked_d ["value"] (sp_side_asked a.Undefined) := by
  refine T.F_side_asked.okX sc_side_asked (fun vs H Q E h => ?_) (fun cdv A outer s H vs Q E hr h => ?_)
  · obtain ⟨n, rfl, _⟩ := h
    rfl
  · obtain ⟨n, rfl, q1, q2⟩ := h
    refine ⟨_, (pss_cons (ps_if (PW.pt (pw_or (pt_not (pt_val (pe_call (ok_is_integer T) (hr.mono (by decide)) (by rfl) T.m_is_integer T.F_is_integer.kp (B_is_integer T) .nil pass0 (pa_cons (pv 0) pa_nil)))) (pw_or1 (pt_cmpR op_notIn_seq (pv 0) (pe_tup (pa_cons pe_int (pa_cons pe_int pa_nil))) rfl))))
      (pss_one (ps_raise rfl (takes_of rfl rfl rfl rfl) (pmk_oex T.e_Undefined.x T.e_Undefined.i T.e_Undefined.t (ok_Undefined_init T) (hr.mono (by decide)) (B_Undefined_init T) .nil pass0 (by rfl) T.m_Undefined (pa_cons pe_str pa_nil))))
      pss_nil)
    (pss_one (ps_ret (pv 0)))), ?_⟩
    walk_at "wp"
    refine ⟨_, _, rfl, .int _, ?_⟩
    walk_at "wp"
    refine ⟨disp rfl, fun p hp => ?_⟩
    walk_at "wp"
    have e : inV (.int n) [.int 0, .int 1] = decide (n = 0 ∨ n = 1) := by
      show ((0 == n) || ((1 == n) || false)) = _
      rw [Bool.eq_iff_iff]
      simp only [Bool.or_false, Bool.or_eq_true, beq_iff_eq, decide_eq_true_eq]
      omega
    by_cases hn : n = 0 ∨ n = 1
    · rw [decide_eq_true hn] at e
      refine brF (by rw [e]; rfl) ?_
      walk_at "wp"
      exact q1 hn _ (Same.new hp)
    · rw [decide_eq_false hn] at e
      refine brT (by rw [e]; rfl) ?_
      walk_at "wp"
      refine exc1_go (y := .str "side") fun d H' h1 h2 h3 => q2 hn d H' (upd_free2 h1).1 h2 ((Same.new hp).trans h3)
def moved (n p r l sd : Int) : Int := if n < p then n else if n > p + r then n + (l - r) else p + sd * l
def sp_place_moved (K : PySem.W.Frag) (C : Addr) : Sp := fun vs H Q E => ∃ (n : Int) (ed : Addr) (p r : Int) (s : Str) (sd : Int), vs = [.int n, .ref ed, .int sd] ∧ SqT K H ed [.int p, .int r, .str s] ∧ s.length ≤ 1000 ∧
  ((sd = 0 ∨ sd = 1) → ∀ H', Same H H' → Q (.int (moved n p r s.length sd)) H') ∧ (¬ (sd = 0 ∨ sd = 1) → ∀ d H', H d = none → H' d = some (.xd [("what", .str "side")]) → Same H H' → E (.ref C) (some d) H')
theorem ok_place_moved (T : Txt K mg a) : FnOk P w K mg base (L2.CX P w) 4 a.place_moved a.place_moved_d ["place", "edit", "side"] (sp_place_moved K a.Undefined) := by
  refine T.F_place_moved.okX sc_place_moved (fun vs H Q E h => ?_) (fun cdv A outer s H vs Q E hr h => ?_)
  · obtain ⟨n, ed, p, r, s, sd, rfl, _⟩ := h
    rfl
  · obtain ⟨n, ed, p, r, s, sd, rfl, hT, hl, q1, q2⟩ := h
    refine ⟨_, (pss_cons (ps_expr (pe_call (ok_side_asked T) (hr.mono (by decide)) (by rfl) T.m_side_asked T.F_side_asked.kp (B_side_asked T) .nil (passes_call (takes_of rfl rfl rfl rfl) (fun _ _ _ _ h => h)) (pa_cons (pv 2) pa_nil)))
    (pss_cons (ps_if (pt_cmpR op_lt (pv 0) (pe_ix ix_tup (pv 1) pe_int (fun _ _ => rfl)) (nomark _))
      (pss_one (ps_ret (pv 0)))
      pss_nil)
    (pss_cons (ps_if (pt_cmpR op_gt (pv 0) (pe_op op_add (pe_ix ix_tup (pv 1) pe_int (fun _ _ => rfl)) (pe_ix ix_tup (pv 1) pe_int (fun _ _ => rfl))) (nomark _))
      (pss_one (ps_ret (pe_op op_add (pv 0) (pe_call (ok_growth T) (hr.mono (by decide)) (by rfl) T.m_growth T.F_growth.kp (B_growth T) .nil pass0 (pa_cons (pv 1) pa_nil)))))
      pss_nil)
    (pss_one (ps_ret (pe_op op_add (pe_ix ix_tup (pv 1) pe_int (fun _ _ => rfl)) (pe_op op_mul (pv 2) (pe_callB call_len (by rfl) T.z_len (by decide +kernel) (pa_cons (pe_ix ix_tup (pv 1) pe_int (fun _ _ => rfl)) pa_nil))))))))), ?_⟩
    walk_at "wp"
    refine ⟨fun hs H1 s1 => ?_, fun hs d H' h1 h2 h3 => q2 hs d H' h1 h2 h3⟩
    have q3 := q1 hs
    unfold moved at q3
    walk_at "wp"
    refine brd (fun c1 => ?_) (fun c1 => ?_)
    · walk_at "wp"
      rw [if_pos c1] at q3
      exact q3 H1 s1
    · rw [if_neg c1] at q3
      walk_at "wp"
      refine brd (fun c2 => ?_) (fun c2 => ?_)
      · rw [if_pos (show n > p + r from c2)] at q3
        walk_at "wp"
        exact ⟨_, _, _, _, rfl, s1.seqT hT, hl, _, _, rfl, rfl, q3 H1 s1⟩
      · rw [if_neg (show ¬ n > p + r from c2)] at q3
        walk_at "wp"
        exact q3 H1 s1
def sp_untouched (K : PySem.W.Frag) : Sp := fun vs H Q _ => ∃ (ed : Addr) (p r : Int) (x : V) (b e : Int), vs = [.ref ed, .int b, .int e] ∧ SqT K H ed [.int p, .int r, x] ∧ Q (.bl (decide (e ≤ p) || decide (p + r ≤ b))) H
theorem ok_untouched (T : Txt K mg a) : FnOk P w K mg base CX0 1 a.untouched a.untouched_d ["edit", "start", "end"] (sp_untouched K) := by
  refine T.F_untouched.ok sc_untouched (fun vs H Q E h => ?_) (fun cdv A outer s H vs Q E hr h => ?_)
  · obtain ⟨ed, p, r, x, b, e, rfl, _⟩ := h
    rfl
  · obtain ⟨ed, p, r, x, b, e, rfl, hT, q⟩ := h
    refine ⟨_, (pss_one (ps_ret (pe_or (pe_cmpR op_le (pv 2) (pe_ix ix_tup (pv 0) pe_int (fun _ _ => rfl)) (nomark _)) (pe_one (pe_cmpR op_ge (pv 1) (pe_op op_add (pe_ix ix_tup (pv 0) pe_int (fun _ _ => rfl)) (pe_ix ix_tup (pv 0) pe_int (fun _ _ => rfl))) (nomark _)))))), ?_⟩
    walk_at "wp"
    refine brd (fun c1 => ?_) (fun c1 => ?_)
    · walk_at "wp"
      rw [decide_eq_true c1] at q
      exact q
    · walk_at "wp"
      rw [decide_eq_false c1] at q
      exact q
/-- told and due: two ints, two truth values -/
def sp_law_same : Sp := fun vs H Q _ => ∃ x y : V, vs = [x, y] ∧ ((∃ i j, x = .int i ∧ y = .int j) ∨ (∃ i j, x = .bl i ∧ y = .bl j)) ∧ Q (.bl (decide (x = y))) H
theorem ok_law_same (T : Txt K mg a) : FnOk P w K mg base CX0 1 a.law_same a.law_same_d ["actual", "due"] sp_law_same := by
  refine T.F_law_same.ok sc_law_same (fun vs H Q E h => ?_) (fun cdv A outer s H vs Q E hr h => ?_)
  · obtain ⟨x, y, rfl, _⟩ := h
    rfl
  · obtain ⟨x, y, rfl, hxy, q⟩ := h
    refine ⟨_, (pss_cons (ps_if (pt_val (pe_callB call_isi (by rfl) T.z_isinstance (by decide +kernel) (pa_cons (pv 1) (pa_cons (pe_bltn (v := .ty "tuple") (by rfl) T.z_tuple (by decide +kernel) rfl) pa_nil)))) pss_never pss_nil)
    (pss_cons (ps_if (pt_val (pe_callB call_isi (by rfl) T.z_isinstance (by decide +kernel) (pa_cons (pv 1) (pa_cons (pe_bltn (v := .ty "bool") (by rfl) T.z_bool (by decide +kernel) rfl) pa_nil))))
      (pss_one (ps_ret (pe_and (pe_callB call_isi (by rfl) T.z_isinstance (by decide +kernel) (pa_cons (pv 0) (pa_cons (pe_bltn (v := .ty "bool") (by rfl) T.z_bool (by decide +kernel) rfl) pa_nil))) (pe_one (pe_cmpR op_eq (pv 0) (pv 1) (nomark _))))))
      pss_nil)
    (pss_cons (ps_if (pt_val (pe_callB call_isi (by rfl) T.z_isinstance (by decide +kernel) (pa_cons (pv 1) (pa_cons (pe_bltn (v := .ty "int") (by rfl) T.z_int (by decide +kernel) rfl) pa_nil))))
      (pss_one (ps_ret (pe_and (pe_callB call_isi (by rfl) T.z_isinstance (by decide +kernel) (pa_cons (pv 0) (pa_cons (pe_bltn (v := .ty "int") (by rfl) T.z_int (by decide +kernel) rfl) pa_nil))) (pe_and (pe_not (pe_callB call_isi (by rfl) T.z_isinstance (by decide +kernel) (pa_cons (pv 0) (pa_cons (pe_bltn (v := .ty "bool") (by rfl) T.z_bool (by decide +kernel) rfl) pa_nil)))) (pe_one (pe_cmpR op_eq (pv 0) (pv 1) (nomark _)))))))
      pss_nil)
    (pss_cons (ps_if (pt_val (pe_callB call_isi (by rfl) T.z_isinstance (by decide +kernel) (pa_cons (pv 1) (pa_cons (pe_bltn (v := .ty "str") (by rfl) T.z_str (by decide +kernel) rfl) pa_nil))))
      (pss_one (ps_ret (pe_and (pe_callB call_isi (by rfl) T.z_isinstance (by decide +kernel) (pa_cons (pv 0) (pa_cons (pe_bltn (v := .ty "str") (by rfl) T.z_str (by decide +kernel) rfl) pa_nil))) (pe_one (pe_cmpR op_eq (pv 0) (pv 1) (nomark _))))))
      pss_nil)
    (pss_one (ps_ret (pe_and (pe_cmpR op_isN (pv 1) pe_non (nomark _)) (pe_one (pe_cmpR op_isN (pv 0) pe_non (nomark _)))))))))), ?_⟩
    rcases hxy with ⟨i, j, rfl, rfl⟩ | ⟨i, j, rfl, rfl⟩
    · walk_at "wp"
      exact q
    · walk_at "wp"
      exact q
/-- the row of places in which the law looks a place up -/
def rowL (p r z : Int) (L : Nat) : List Int := (((List.range p.toNat).map fun (i : Nat) => 0 + (i : Int)) ++ List.replicate L (-1) ++ ((List.range (z - (p + r)).toNat).map fun (i : Nat) => p + r + (i : Int))) ++ [z]
theorem rowL_at {p r z n : Int} {L : Nat} (p0 : 0 ≤ p) (r0 : 0 ≤ r) (h1 : p + r < n) (h2 : n ≤ z) : (rowL p r z L)[(n + (L - r)).toNat]? = some n ∧ ∀ (m : Nat) (y : Int), m < (n + (L - r)).toNat → (rowL p r z L)[m]? = some y → y ≠ n := by
  have l1 : ((List.range p.toNat).map fun (i : Nat) => 0 + (i : Int)).length = p.toNat := by simp
  have l2 : (((List.range p.toNat).map fun (i : Nat) => 0 + (i : Int)) ++ List.replicate L (-1)).length = p.toNat + L := by simp
  have l3 : (((List.range p.toNat).map fun (i : Nat) => 0 + (i : Int)) ++ List.replicate L (-1) ++ ((List.range (z - (p + r)).toNat).map fun (i : Nat) => p + r + (i : Int))).length = p.toNat + L + (z - (p + r)).toNat := by simp; omega
  have key : ∀ m : Nat, p.toNat + L ≤ m → m < p.toNat + L + (z - (p + r)).toNat → (rowL p r z L)[m]? = some (p + r + ((m - (p.toNat + L) : Nat) : Int)) := by
    intro m h3 h4
    unfold rowL
    rw [List.getElem?_append_left (by rw [l3]; exact h4), List.getElem?_append_right (by rw [l2]; exact h3), l2, List.getElem?_map, List.getElem?_range (by omega)]
    rfl
  have kend : (rowL p r z L)[p.toNat + L + (z - (p + r)).toNat]? = some z := by
    unfold rowL
    rw [List.getElem?_append_right (by rw [l3]; exact Nat.le_refl _), l3, Nat.sub_self]
    rfl
  refine ⟨?_, fun m y hm hy => ?_⟩
  · by_cases hz : n = z
    · subst hz
      have e : (n + (L - r)).toNat = p.toNat + L + (n - (p + r)).toNat := by omega
      rw [e]
      exact kend
    · rw [key _ (by omega) (by omega)]
      congr 1
      omega
  · by_cases c1 : m < p.toNat
    · unfold rowL at hy
      rw [List.getElem?_append_left (by rw [l3]; omega), List.getElem?_append_left (by rw [l2]; omega), List.getElem?_append_left (by rw [l1]; exact c1), List.getElem?_map, List.getElem?_range c1] at hy
      have e : 0 + (m : Int) = y := Option.some.inj hy
      omega
    · by_cases c2 : m < p.toNat + L
      · unfold rowL at hy
        rw [List.getElem?_append_left (by rw [l3]; omega), List.getElem?_append_left (by rw [l2]; omega), List.getElem?_append_right (by rw [l1]; omega), List.getElem?_replicate] at hy
        rw [if_pos (by rw [l1]; omega)] at hy
        have e : (-1 : Int) = y := Option.some.inj hy
        omega
      · rw [key m (by omega) (by omega)] at hy
        have e := Option.some.inj hy
        omega
def sp_law_goes (K : PySem.W.Frag) : Sp := fun vs H Q _ => ∃ (n : Int) (ed : Addr) (p r : Int) (s : Str) (sd z : Int), vs = [.int n, .ref ed, .int sd, .int z] ∧ SqT K H ed [.int p, .int r, .str s] ∧ s.length ≤ 1000 ∧ (sd = 0 ∨ sd = 1) ∧ 0 ≤ n ∧ n ≤ z ∧ z ≤ 10000 ∧ 0 ≤ p ∧ 0 ≤ r ∧ p + r ≤ z ∧
  ∀ H', Same H H' → Q (.int (moved n p r s.length sd)) H'
theorem ok_law_goes (T : Txt K mg a) : FnOk P w K mg base CX0 1 a.law_goes a.law_goes_d ["place", "edit", "side", "size"] (sp_law_goes K) := by
  refine T.F_law_goes.ok sc_law_goes (fun vs H Q E h => ?_) (fun cdv A outer s H vs Q E hr h => ?_)
  · obtain ⟨n, ed, p, r, s, sd, z, rfl, _⟩ := h
    rfl
  · obtain ⟨n, ed, p, r, s, sd, z, rfl, hT, hl, hsd, n0, nz, z1, p0, r0, prz, q⟩ := h
    refine ⟨_, (pss_cons (ps_if (pt_cmpR op_lt (pv 0) (pe_ix ix_tup (pv 1) pe_int (fun _ _ => rfl)) (nomark _))
      (pss_one (ps_ret (pv 0)))
      pss_nil)
    (pss_cons (ps_if (pt_cmpR op_gt (pv 0) (pe_op op_add (pe_ix ix_tup (pv 1) pe_int (fun _ _ => rfl)) (pe_ix ix_tup (pv 1) pe_int (fun _ _ => rfl))) (nomark _))
      (pss_cons (ps_set (i := 4) sc_law_goes.nd rfl (.inl rfl) (pe_op op_cat (pe_op op_cat (pe_op op_cat (pe_lc (own := [("k", 5)]) rfl sc_law_goes.nd (pi_range1 (by rfl) T.z_range (pa_cons (pe_ix ix_tup (pv 1) pe_int (fun _ _ => rfl)) pa_nil)) (blkOk_by (own := [("k", 5)]) (N := ["place", "edit", "side", "size", "row", "k"]) (sc := defScope s_law_goes) (by decide +kernel)) (fun _ _ _ _ _ => (pg_name (i := 5) sc_law_goes.nd rfl (Or.inl rfl))) (fun _ _ _ _ _ => pts_nil) (fun _ _ _ _ _ => (pv 5))) (pe_op op_rep (pe_lst (pa_cons (pe_un un_neg pe_int) pa_nil)) (pe_callB call_len (by rfl) T.z_len (by decide +kernel) (pa_cons (pe_ix ix_tup (pv 1) pe_int (fun _ _ => rfl)) pa_nil)))) (pe_lc (own := [("k", 5)]) rfl sc_law_goes.nd (pi_range2 (by rfl) T.z_range (pa_cons (pe_op op_add (pe_ix ix_tup (pv 1) pe_int (fun _ _ => rfl)) (pe_ix ix_tup (pv 1) pe_int (fun _ _ => rfl))) (pa_cons (pv 3) pa_nil))) (blkOk_by (own := [("k", 5)]) (N := ["place", "edit", "side", "size", "row", "k"]) (sc := defScope s_law_goes) (by decide +kernel)) (fun _ _ _ _ _ => (pg_name (i := 5) sc_law_goes.nd rfl (Or.inl rfl))) (fun _ _ _ _ _ => pts_nil) (fun _ _ _ _ _ => (pv 5)))) (pe_lst (pa_cons (pv 3) pa_nil))))
      (pss_one (ps_ret (pe_bm PySem.F.plainAttrs_list PySem.F.slot_list_index PySem.F.type_list_index mt_index (pv 4) (pa_cons (pv 0) pa_nil)))))
      pss_nil)
    (pss_one (ps_ret (pe_op op_add (pe_ix ix_tup (pv 1) pe_int (fun _ _ => rfl)) (pe_ifExp (pt_cmpR op_eq (pv 2) pe_int (nomark _)) (pe_callB call_len (by rfl) T.z_len (by decide +kernel) (pa_cons (pe_ix ix_tup (pv 1) pe_int (fun _ _ => rfl)) pa_nil)) pe_int)))))), ?_⟩
    unfold moved at q
    walk_at "wp"
    refine brd (fun c1 => ?_) (fun c1 => ?_)
    · walk_at "wp"
      rw [if_pos c1] at q
      exact q H (.refl _)
    · rw [if_neg c1] at q
      walk_at "wp"
      refine brd (fun c2 => ?_) (fun c2 => ?_)
      · rw [if_pos (show n > p + r from c2)] at q
        walk_at "wp"
        refine ⟨by omega, by omega, fun D1 hD1 => lcR_go (fun i => .int (0 + i)) (by omega) (fun _ => rfl) (fun i H' Q _ _ q => ⟨_, rfl, q⟩) hD1 ?_⟩
        walk_at "wp"
        refine ⟨disp rfl, fun D2 hD2 => ?_⟩
        walk_at "wp"
        refine ⟨D2, _, _, rfl, rfl, upd_same, by omega, by omega, (by show 1 * _ ≤ sizeLine; rw [Nat.one_mul]; exact le_line (by omega)), fun D3 hD3 => ?_⟩
        refine ⟨D1, D3, _, _, rfl, rfl, (by walk_at "hp"), upd_same, (by rw [List.length_map, List.length_range, flat_rep, List.length_replicate]; exact le_line (by omega)), fun D4 hD4 => ?_⟩
        walk_at "wp"
        refine ⟨⟨by omega, by omega, by omega, by omega⟩, fun D5 hD5 => lcR_go (fun i => .int (p + r + i)) (by omega) (fun _ => rfl) (fun i H' Q _ _ q => ⟨_, rfl, q⟩) hD5 ?_⟩
        refine ⟨D4, D5, _, _, rfl, rfl, (by walk_at "hp"), upd_same, ?_, fun D6 hD6 => ?_⟩
        · rw [List.length_append, List.length_map, List.length_range, flat_rep, List.length_replicate, List.length_map, List.length_range]
          exact le_line (by omega)
        walk_at "wp"
        refine ⟨disp rfl, fun D7 hD7 => ?_⟩
        refine ⟨D6, D7, _, _, rfl, rfl, (by walk_at "hp"), upd_same, ?_, fun D8 hD8 => ?_⟩
        · rw [List.length_append, List.length_append, List.length_map, List.length_range, flat_rep, List.length_replicate, List.length_map, List.length_range]
          exact le_line (by show _ + 1 ≤ _; omega)
        walk_at "wp"
        obtain ⟨g1, g2⟩ := rowL_at (L := s.length) p0 r0 c2 nz
        have er : ((List.map (fun (i : Nat) => V.int (0 + (i : Int))) (List.range p.toNat) ++ (List.replicate ((s.length : Int)).toNat [V.int (-1)]).flatten ++ List.map (fun (i : Nat) => V.int (p + r + (i : Int))) (List.range (z - (p + r)).toNat)) ++ [V.int z]) = (rowL p r z s.length).map V.int := by
          unfold rowL
          rw [flat_rep, List.map_append, List.map_append, List.map_append, List.map_map, List.map_map, List.map_replicate, Int.toNat_natCast]
          rfl
        have es : ((n + (s.length - r)).toNat : Int) = n + (s.length - r) := Int.toNat_of_nonneg (by omega)
        refine ⟨D8, _, .int n, (n + (s.length - r)).toNat, .int n, rfl, rfl, SqL.of (upd_same.trans (congrArg (fun l => some (HO.lst l)) er)), rfl, ?_, ?_, ?_, ?_, ?_⟩
        · rw [List.all_map]
          exact List.all_eq_true.mpr fun _ _ => rfl
        · rw [List.getElem?_map, g1]
          rfl
        · show (n == n) = true
          exact beq_self_eq_true n
        · intro m z' hm hz'
          obtain ⟨y, hy, rfl, _⟩ := mem_int hz'
          show (y == n) = false
          exact beq_eq_false_iff_ne.mpr (g2 m y hm hy)
        · rw [es]
          exact q _ ((((((((Same.new hD1).trans (Same.new hD2)).trans (Same.new hD3)).trans (Same.new hD4)).trans (Same.new hD5)).trans (Same.new hD6)).trans (Same.new hD7)).trans (Same.new hD8))
      · rw [if_neg (show ¬ n > p + r from c2)] at q
        walk_at "wp"
        rcases hsd with rfl | rfl
        · refine brF rfl ?_
          walk_at "wp"
          have := q H (.refl _)
          rw [Int.zero_mul] at this
          exact this
        · refine brT rfl ?_
          walk_at "wp"
          have := q H (.refl _)
          rw [Int.one_mul] at this
          exact this
def sp_law_refused (K : PySem.W.Frag) : Sp := fun vs H Q _ => ∃ (n : Int) (ed : Addr) (p r : Int) (s : Str) (sd : Int), vs = [.int n, .ref ed, .int sd] ∧ SqT K H ed [.int p, .int r, .str s] ∧ s.length ≤ 1000 ∧ ¬ (sd = 0 ∨ sd = 1) ∧
  ∀ H', Same H H' → Q (.bl true) H'
theorem ok_law_refused (T : Txt K mg a) : FnOk P w K mg base CX0 5 a.law_refused a.law_refused_d ["place", "edit", "side"] (sp_law_refused K) := by
  refine T.F_law_refused.ok sc_law_refused (fun vs H Q E h => ?_) (fun cdv A outer s H vs Q E hr h => ?_)
  · obtain ⟨n, ed, p, r, s, sd, rfl, _⟩ := h
    rfl
  · obtain ⟨n, ed, p, r, s, sd, rfl, hT, hl, hsd, q⟩ := h
    refine ⟨_, (pss_cons (ps_try_as (i := 3) rfl rfl sc_law_refused.nd rfl rfl ⟨rfl, by decide, .inl T.m_TreeError⟩ takes0 (fun W pn xe tk _ =>
      (pss_one (ps_expr (pe_callS (ok_place_moved T) (hr.mono (by decide)) (by rfl) T.m_place_moved T.F_place_moved.kp (B_place_moved T) (fun σ => passAt tk σ) (pa_cons (pv 0) (pa_cons (pv 1) (pa_cons (pv 2) pa_nil))))))) (fun ea oe cls d pn hz hf =>
      (pss_one (ps_ret (pe_and (pe_callB (call_isE2 hz hf) (by rfl) T.z_isinstance (by decide +kernel) (pa_cons (pv 3) (pa_cons (pe_glob (v := .ref a.Undefined) (by rfl) T.m_Undefined rfl) pa_nil))) (pe_one (pe_cmpR op_eq (pe_xf T.e_Undefined.xf T.n_Undefined_what hz hf (pv 3)) pe_str (nomark _))))))))
    (pss_one (ps_ret pe_bl))), ?_⟩
    walk_at "wp"
    refine ⟨_, _, _, _, _, _, rfl, hT, hl, fun h => absurd h hsd, fun _ d H' h1 h2 h3 => ?_⟩
    refine ⟨true, T.e_Undefined.em, fun _ e he => ?_, fun h => nomatch h⟩
    walk_at "wp"
    refine ⟨_, _, _, _, _, _, rfl, rfl, T.e_Undefined.c, h2, rfl, fun u hu => hu, kit_self, ?_⟩
    walk_at "wp"
    refine ⟨_, _, _, rfl, h2, rfl, ?_⟩
    walk_at "wp"
    exact q _ h3
/-- what stands while the places of an edit are asked -/
structure Wd (H : Hp) (b c l ed pl : Addr) (x y : Int) (s : Str) (pns : List Int) : Prop where
  bag : Bag H b c
  let_ : Lets H l
  tup : H ed = some (.tup [.int x, .int y, .str s])
  lst : H pl = some (.lst (pns.map V.int))
theorem Wd.same {H H' : Hp} {b c l ed pl : Addr} {x y : Int} {s : Str} {pns : List Int} (h : Same H H') (z : Wd H b c l ed pl x y s pns) : Wd H' b c l ed pl x y s pns := ⟨z.bag.same h, z.let_.same h, h _ _ z.tup, h _ _ z.lst⟩
theorem moved_in {n p r l sd z : Int} (n0 : 0 ≤ n) (nz : n ≤ z) (p0 : 0 ≤ p) (r0 : 0 ≤ r) (h : p + r ≤ z) (l0 : 0 ≤ l) (hs : sd = 0 ∨ sd = 1) : 0 ≤ moved n p r l sd ∧ moved n p r l sd ≤ z - r + l := by
  unfold moved
  rcases hs with rfl | rfl
  · split
    · omega
    · split <;> omega
  · split
    · omega
    · split <;> omega
def sp_law (K : PySem.W.Frag) : Sp := fun vs H Q _ => ∃ (p : Addr) (ns : List Int), vs = [.ref p] ∧ SqL K H p (ns.map V.int) ∧ ns.length ≤ 63 ∧ ∀ H', Q (.bl true) H'
theorem ok_law (T : Txt K mg a) : FnOk P w K mg base CX0 6 a.law a.law_d ["script"] (sp_law K) := by
  refine T.F_law.ok sc_law (fun vs H Q E h => ?_) (fun cdv A outer s H vs Q E hr h => ?_)
  · obtain ⟨p, ns, rfl, _⟩ := h
    rfl
  · obtain ⟨p, ns, rfl, hS, hl, q⟩ := h
    refine ⟨_, (pss_cons (ps_set (i := 1) sc_law.nd rfl (.inr rfl) (pe_call (ok_law_bag T) (hr.mono (by decide)) (by rfl) T.m_law_bag T.F_law_bag.kp (B_law_bag T) .nil pass0 (pa_cons (pv 0) pa_nil)))
    (pss_cons (ps_set (i := 2) sc_law.nd rfl (.inr rfl) (pe_call (ok_law_letters T) (hr.mono (by decide)) (by rfl) T.m_law_letters T.F_law_letters.kp (B_law_letters T) .nil pass0 (pa_cons (pv 1) pa_nil)))
    (pss_cons (ps_set (i := 3) sc_law.nd rfl (.inl rfl) (pe_call (ok_law_take T) (hr.mono (by decide)) (by rfl) T.m_law_take T.F_law_take.kp (B_law_take T) .nil pass0 (pa_cons (pv 1) (pa_cons pe_int pa_nil))))
    (Evl.pss_cut (ps_if (pt_cmpR op_eq (pe_call (ok_law_take T) (hr.mono (by decide)) (by rfl) T.m_law_take T.F_law_take.kp (B_law_take T) .nil pass0 (pa_cons (pv 1) (pa_cons pe_int pa_nil))) pe_int (nomark _))
      (pss_one (ps_set (i := 3) sc_law.nd rfl (.inl rfl) (pe_op op_add (pv 3) (pe_call (ok_law_take T) (hr.mono (by decide)) (by rfl) T.m_law_take T.F_law_take.kp (B_law_take T) .nil pass0 (pa_cons (pv 1) (pa_cons pe_int pa_nil))))))
      pss_nil)
    (pss_cons (ps_set (i := 4) sc_law.nd rfl (.inl rfl) (pe_call (ok_law_take T) (hr.mono (by decide)) (by rfl) T.m_law_take T.F_law_take.kp (B_law_take T) .nil pass0 (pa_cons (pv 1) (pa_cons (pe_op op_add (pv 3) pe_int) pa_nil))))
    (pss_cons (ps_set (i := 5) sc_law.nd rfl (.inl rfl) (pv 4))
    (pss_cons (ps_set (i := 6) sc_law.nd rfl (.inl rfl) (pe_call (ok_law_take T) (hr.mono (by decide)) (by rfl) T.m_law_take T.F_law_take.kp (B_law_take T) .nil pass0 (pa_cons (pv 1) (pa_cons pe_int pa_nil))))
    (pss_cons (ps_for PassesOwn.never rfl (pi_range1 (by rfl) T.z_range (pa_cons (pe_op op_add pe_int (pe_call (ok_law_take T) (hr.mono (by decide)) (by rfl) T.m_law_take T.F_law_take.kp (B_law_take T) .nil pass0 (pa_cons (pv 1) (pa_cons pe_int pa_nil)))) pa_nil)) (pg_name (i := 7) sc_law.nd rfl (.inl rfl))
      (pss_cons (ps_set (i := 8) sc_law.nd rfl (.inl rfl) (pe_ix ix_list (pe_lst (pa_cons pe_int (pa_cons (pv 3) (pa_cons (pe_call (ok_law_take T) (hr.mono (by decide)) (by rfl) T.m_law_take T.F_law_take.kp (B_law_take T) .nil pass0 (pa_cons (pv 1) (pa_cons (pe_op op_add (pv 3) pe_int) pa_nil))) pa_nil)))) (pe_call (ok_law_take T) (hr.mono (by decide)) (by rfl) T.m_law_take T.F_law_take.kp (B_law_take T) .nil pass0 (pa_cons (pv 1) (pa_cons pe_int pa_nil))) (fun _ _ => rfl)))
      (pss_cons (ps_set (i := 9) sc_law.nd rfl (.inl rfl) (pe_op op_sub (pv 3) (pv 8)))
      (pss_cons (ps_set (i := 10) sc_law.nd rfl (.inl rfl) (pe_ix ix_list (pe_lst (pa_cons pe_int (pa_cons (pv 9) (pa_cons (pe_callB (call_min2 rfl) (by rfl) T.z_min (by decide +kernel) (pa_cons (pv 9) (pa_cons pe_int pa_nil))) (pa_cons (pe_call (ok_law_take T) (hr.mono (by decide)) (by rfl) T.m_law_take T.F_law_take.kp (B_law_take T) .nil pass0 (pa_cons (pv 1) (pa_cons (pe_op op_add (pv 9) pe_int) pa_nil))) pa_nil))))) (pe_call (ok_law_take T) (hr.mono (by decide)) (by rfl) T.m_law_take T.F_law_take.kp (B_law_take T) .nil pass0 (pa_cons (pv 1) (pa_cons pe_int pa_nil))) (fun _ _ => rfl)))
      (pss_cons (ps_set (i := 11) sc_law.nd rfl (.inl rfl) (pe_tup (pa_cons (pv 8) (pa_cons (pv 10) (pa_cons (pe_call (ok_law_text T) (hr.mono (by decide)) (by rfl) T.m_law_text T.F_law_text.kp (B_law_text T) .nil pass0 (pa_cons (pe_lc (own := [("j", 17)]) rfl sc_law.nd (pi_range1 (by rfl) T.z_range (pa_cons (pe_call (ok_law_take T) (hr.mono (by decide)) (by rfl) T.m_law_take T.F_law_take.kp (B_law_take T) .nil pass0 (pa_cons (pv 1) (pa_cons pe_int pa_nil))) pa_nil)) (blkOk_by (own := [("j", 17)]) (N := ["script", "bag", "letters", "size", "carried", "told", "side", "k", "place", "wide", "removed", "edit", "places", "start", "way", "end", "due", "j"]) (sc := defScope s_law) (by decide +kernel)) (fun _ _ _ _ _ => (pg_name (i := 17) sc_law.nd rfl (Or.inl rfl))) (fun _ _ _ _ _ => pts_nil) (fun _ _ _ _ _ => (pe_call (ok_law_pick T) (hr.mono (by decide)) (by rfl) T.m_law_pick T.F_law_pick.kp (B_law_pick T) .nil pass0 (pa_cons (pv 1) (pa_cons (pv 2) pa_nil))))) pa_nil)) pa_nil)))))
      (pss_cons (ps_set (i := 12) sc_law.nd rfl (.inl rfl) (pe_lst (pa_cons pe_int (pa_cons (pv 8) (pa_cons (pe_op op_add (pv 8) (pv 10)) (pa_cons (pv 3) (pa_cons (pe_call (ok_law_take T) (hr.mono (by decide)) (by rfl) T.m_law_take T.F_law_take.kp (B_law_take T) .nil pass0 (pa_cons (pv 1) (pa_cons (pe_op op_add (pv 3) pe_int) pa_nil))) (pa_cons (pe_callB (call_max2 rfl) (by rfl) T.z_max (by decide +kernel) (pa_cons (pe_op op_sub (pv 8) pe_int) (pa_cons pe_int pa_nil))) (pa_cons (pe_callB (call_min2 rfl) (by rfl) T.z_min (by decide +kernel) (pa_cons (pe_op op_add (pe_op op_add (pv 8) (pv 10)) pe_int) (pa_cons (pv 3) pa_nil))) pa_nil)))))))))
      (Evl.pss_cut (ps_if (pt_cmpR op_lt (pv 3) pe_int (nomark _))
        (pss_one (ps_setLc (i := 12) (own := [("j", 17)]) rfl sc_law.nd rfl rfl (sw_true rfl rfl rfl (by decide +kernel)) (pi_range1 (by rfl) T.z_range (pa_cons (pe_op op_add (pv 3) pe_int) pa_nil)) (blkOk_by (own := [("j", 17)]) (N := ["script", "bag", "letters", "size", "carried", "told", "side", "k", "place", "wide", "removed", "edit", "places", "start", "way", "end", "due", "j"]) (sc := defScope s_law) (by decide +kernel)) (fun _ _ _ _ _ => (pg_name (i := 17) sc_law.nd rfl (Or.inl rfl))) (fun _ _ _ _ _ => pts_nil) (fun _ _ _ _ _ => (pv 17))))
        pss_nil)
      (pss_cons (ps_for PassesOwn.never rfl (pi_list (pv 12)) (pg_name (i := 13) sc_law.nd rfl (.inl rfl))
        (pss_cons (ps_for PassesOwn.never rfl (pi_tup (pe_tup (pa_cons pe_int (pa_cons pe_int pa_nil)))) (pg_name (i := 14) sc_law.nd rfl (.inl rfl))
          (pss_one (ps_if (pt_not (pt_val (pe_call (ok_law_same T) (hr.mono (by decide)) (by rfl) T.m_law_same T.F_law_same.kp (B_law_same T) .nil pass0 (pa_cons (pe_call (ok_place_moved T) (hr.mono (by decide)) (by rfl) T.m_place_moved T.F_place_moved.kp (B_place_moved T) .nil passE0 (pa_cons (pv 13) (pa_cons (pv 11) (pa_cons (pv 14) pa_nil)))) (pa_cons (pe_call (ok_law_goes T) (hr.mono (by decide)) (by rfl) T.m_law_goes T.F_law_goes.kp (B_law_goes T) .nil pass0 (pa_cons (pv 13) (pa_cons (pv 11) (pa_cons (pv 14) (pa_cons (pv 3) pa_nil))))) pa_nil)))))
            (pss_one (ps_ret pe_bl))
            pss_nil)))
        (pss_one (ps_for PassesOwn.never rfl (pi_list (pe_op op_cat (pv 12) (pe_lst (pa_cons (pe_op op_add (pv 3) pe_int) pa_nil)))) (pg_name (i := 15) sc_law.nd rfl (.inl rfl))
          (pss_cons (ps_set (i := 16) sc_law.nd rfl (.inl rfl) (pe_or (pe_cmpR op_le (pv 15) (pv 8) (nomark _)) (pe_one (pe_cmpR op_ge (pv 13) (pe_op op_add (pv 8) (pv 10)) (nomark _)))))
          (pss_one (ps_if (PW.pt (pw_and (pt_cmpR op_le (pv 13) (pv 15) (nomark _)) (pw_and1 (pt_not (pt_val (pe_call (ok_law_same T) (hr.mono (by decide)) (by rfl) T.m_law_same T.F_law_same.kp (B_law_same T) .nil pass0 (pa_cons (pe_callN0 (ok_untouched T) (hr.mono (by decide)) (by rfl) T.m_untouched T.F_untouched.kp (kb_untouched_0_end_edit_start T) pass0 (pk_cons (pv 15) (pk_cons (pv 11) (pk_cons (pv 13) pk_nil)))) (pa_cons (pv 16) pa_nil))))))))
            (pss_one (ps_ret pe_bl))
            pss_nil)))))))
      (pss_cons (ps_if (pt_not (pt_val (pe_call (ok_law_refused T) (hr.mono (by decide)) (by rfl) T.m_law_refused T.F_law_refused.kp (B_law_refused T) .nil pass0 (pa_cons (pe_ix ix_list (pv 12) pe_int (fun _ _ => rfl)) (pa_cons (pv 11) (pa_cons (pe_ix ix_list (pe_lst (pa_cons pe_int (pa_cons (pe_un un_neg pe_int) (pa_cons pe_int (pa_cons pe_int pa_nil))))) (pe_call (ok_law_take T) (hr.mono (by decide)) (by rfl) T.m_law_take T.F_law_take.kp (B_law_take T) .nil pass0 (pa_cons (pv 1) (pa_cons pe_int pa_nil))) (fun _ _ => rfl)) pa_nil))))))
        (pss_one (ps_ret pe_bl))
        pss_nil)
      (pss_cons (ps_set (i := 4) sc_law.nd rfl (.inl rfl) (pe_call (ok_law_goes T) (hr.mono (by decide)) (by rfl) T.m_law_goes T.F_law_goes.kp (B_law_goes T) .nil pass0 (pa_cons (pv 4) (pa_cons (pv 11) (pa_cons (pv 6) (pa_cons (pv 3) pa_nil))))))
      (pss_cons (ps_set (i := 5) sc_law.nd rfl (.inl rfl) (pe_callN0 (ok_place_moved T) (hr.mono (by decide)) (by rfl) T.m_place_moved T.F_place_moved.kp (kb_place_moved_0_side_edit_place T) passE0 (pk_cons (pv 6) (pk_cons (pv 11) (pk_cons (pv 5) pk_nil)))))
      (pss_cons (ps_if (pt_not (pt_val (pe_call (ok_law_same T) (hr.mono (by decide)) (by rfl) T.m_law_same T.F_law_same.kp (B_law_same T) .nil pass0 (pa_cons (pv 5) (pa_cons (pv 4) pa_nil)))))
        (pss_one (ps_ret pe_bl))
        pss_nil)
      (pss_one (ps_set (i := 3) sc_law.nd rfl (.inl rfl) (pe_op op_add (pe_op op_sub (pv 3) (pv 10)) (pe_callB call_len (by rfl) T.z_len (by decide +kernel) (pa_cons (pe_ix ix_tup (pv 11) pe_int (fun _ _ => rfl)) pa_nil)))))))))))))))))
    (pss_one (ps_ret pe_bl)))))))))), ?_⟩
    walk_at "wp"
    refine ⟨p, ns, rfl, hS, fun b c H0 hb s0 B0 => ?_⟩
    walk_at "wp"
    refine ⟨b, c, rfl, B0, fun l H1 hl s1 B1 L1 => ?_⟩
    have nlb : l ≠ b := (B0.ne hl).1
    walk_at "wp"
    refine ⟨_, _, _, rfl, (by walk_at "hb"), (by decide), (by decide), fun n2 H2 n20 n21 s2 B2 => ?_⟩
    have L2 : Lets H2 l := by walk_at "hl"
    walk_at "wp"
    refine ⟨fun σ' H' => ∃ z : Int, σ' = [some (.ref p), some (.ref b), some (.ref l), some (.int z), none, none, none, none, none, none, none, none, none, none, none, none, none, none] ∧ 0 ≤ z ∧ z ≤ 1900 ∧ Bag H' b c ∧ Lets H' l, ?_, ?_⟩
    · walk_at "wp"
      refine ⟨_, _, _, rfl, (by walk_at "hb"), (by decide), (by decide), fun n3 H3 n30 n31 s3 B3 => ?_⟩
      have L3 : Lets H3 l := by walk_at "hl"
      walk_at "wp"
      refine brd (fun h1 => ?_) (fun h1 => ?_)
      · walk_at "wp"
        refine ⟨_, _, _, rfl, (by walk_at "hb"), (by decide), (by decide), fun n4 H4 n40 n41 s4 B4 => ?_⟩
        have L4 : Lets H4 l := by walk_at "hl"
        walk_at "wp"
        exact ⟨by omega, by omega, B4, L4⟩
      · exact ⟨n2, rfl, n20, by omega, B3, L3⟩
    · rintro σ' H3 ⟨z, rfl, z0, z1, B3, L3⟩
      walk_at "wp"
      refine ⟨_, _, _, rfl, (by walk_at "hb"), (by omega), (by omega), fun cr H4 c0 c1 s4 B4 => ?_⟩
      have L4 : Lets H4 l := by walk_at "hl"
      walk_at "wp"
      refine ⟨_, _, _, rfl, (by walk_at "hb"), (by decide), (by decide), fun sd H5 sd0 sd1 s5 B5 => ?_⟩
      have L5 : Lets H5 l := by walk_at "hl"
      have hsd : sd = 0 ∨ sd = 1 := by omega
      walk_at "wp"
      refine ⟨_, _, _, rfl, (by walk_at "hb"), (by decide), (by decide), fun n6 H6 n60 n61 s6 B6 => ?_⟩
      have L6 : Lets H6 l := by walk_at "hl"
      walk_at "wp"
      refine ⟨by omega, by omega, for_range (lo := 0) (n := (1 + n6).toNat) (fun i σ H' => ∃ (z cr : Int) (o7 o8 o9 o10 o11 o12 o13 o14 o15 o16 o17 : Option V), σ = [some (.ref p), some (.ref b), some (.ref l), some (.int z), some (.int cr), some (.int cr), some (.int sd), o7, o8, o9, o10, o11, o12, o13, o14, o15, o16, o17] ∧ 0 ≤ z ∧ z ≤ 1900 + 3 * (i : Int) ∧ 0 ≤ cr ∧ cr ≤ z ∧ Bag H' b c ∧ Lets H' l) ?_ ?_ ?_⟩
      · exact ⟨z, cr, none, none, none, none, none, none, none, none, none, none, none, rfl, z0, by omega, c0, by omega, B6, L6⟩
      · clear s0 s1 s2 s4 s5 s6 B0 B1 B2 B3 B4 B5 B6 L1 L2 L3 L4 L5 L6 hl hb
        rintro i σ H0 hi ⟨z, cr, o7, o8, o9, o10, o11, o12, o13, o14, o15, o16, o17, rfl, z0, z1, c0, c1, B0, L0⟩
        -- place
        walk_at "wp"
        refine ⟨_, _, _, rfl, (by walk_at "hb"), (by omega), (by omega), fun n1 H1 n10 n11 s1 B1 => ?_⟩
        have L1 : Lets H1 l := by walk_at "hl"
        walk_at "wp"
        refine ⟨disp rfl, fun D1 hD1 => ?_⟩
        have m1 : D1 ≠ b := (B1.ne hD1).1
        walk_at "wp"
        refine ⟨_, _, _, rfl, (by walk_at "hb"), (by decide), (by decide), fun n2 H2 n20 n21 s2 B2 => ?_⟩
        have L2 : Lets H2 l := L1.same (Same.new hD1) |>.but s2 nlb
        obtain ⟨pp, ep, p0, p1⟩ := atI_all (ns := [0, z, n1]) (i := n2) (C := fun v => 0 ≤ v ∧ v ≤ z) n20 n21 (by
          intro n hn
          simp only [List.mem_cons, List.not_mem_nil, or_false] at hn
          omega)
        refine ⟨_, _, _, _, rfl, rfl, (by walk_at "hp"), ep, ?_⟩
        -- wide, removed
        walk_at "wp"
        refine ⟨_, _, _, rfl, (by walk_at "hb"), (by omega), (by omega), fun n3 H3 n30 n31 s3 B3 => ?_⟩
        have L3 : Lets H3 l := by walk_at "hl"
        walk_at "wp"
        refine ⟨disp rfl, fun D2 hD2 => ?_⟩
        have m2 : D2 ≠ b := (B3.ne hD2).1
        walk_at "wp"
        refine ⟨_, _, _, rfl, (by walk_at "hb"), (by decide), (by decide), fun n4 H4 n40 n41 s4 B4 => ?_⟩
        have L4 : Lets H4 l := L3.same (Same.new hD2) |>.but s4 nlb
        obtain ⟨r, er, r0, r1⟩ := atI_all (ns := [0, z - pp, if 2 < z - pp then 2 else z - pp, n3]) (i := n4) (C := fun v => 0 ≤ v ∧ v ≤ z - pp) n40 n41 (by
          intro n hn
          simp only [List.mem_cons, List.not_mem_nil, or_false] at hn
          rcases hn with rfl | rfl | rfl | rfl
          · omega
          · omega
          · split <;> omega
          · omega)
        refine ⟨_, _, _, _, rfl, rfl, (by walk_at "hp"), er, ?_⟩
        -- edit
        walk_at "wp"
        refine ⟨_, _, _, rfl, (by walk_at "hb"), (by decide), (by decide), fun n5 H5 n50 n51 s5 B5 => ?_⟩
        have L5 : Lets H5 l := by walk_at "hl"
        walk_at "wp"
        refine ⟨by omega, by omega, fun D3 hD3 => ?_⟩
        refine lc_range (lo := 0) (n := n5.toNat) (fun i H' => ∃ ns : List Int, ns.length = i ∧ (∀ n ∈ ns, 0 ≤ n ∧ n < 96) ∧ H' D3 = some (.lst (ns.map V.int)) ∧ Bag H' b c ∧ Lets H' l) ⟨[], rfl, by simp, upd_same, B5.new hD3, L5.same (Same.new hD3)⟩ ?_ ?_
        · rintro i H' hi' ⟨ns, rfl, rng, e3, B, L⟩
          have m3 : D3 ≠ b := (B5.ne hD3).1
          refine ⟨rfl, ?_⟩
          unfold tYes
          refine brT rfl ?_
          walk_at "wp"
          refine ⟨b, c, l, rfl, B, L, nlb, fun n H'' v0 v1 sb B' => ?_⟩
          have L' : Lets H'' l := L.but sb nlb
          refine ⟨_, sb _ _ m3 e3, by rw [List.length_map]; exact lt_line (by omega), ns ++ [n], by simp, ?_, ?_, B'.upd m3 (B5.ne hD3).2, ?_⟩
          · intro y hy
            rcases List.mem_append.mp hy with h | h
            · exact rng y h
            · rw [List.mem_singleton.mp h]
              exact ⟨v0, v1⟩
          · rw [upd_same, List.map_append]
            rfl
          · exact (L.but sb nlb).upd (L5.ne hD3)
        · rintro H6 ⟨ns, hlen, rng, e6, B6, L6⟩
          refine ⟨D3, ns, rfl, SqL.of e6, by omega, rng, fun s H7 hs _ s7 => ?_⟩
          walk_at "wp"
          refine ⟨disp rfl, fun ed hed => ?_⟩
          have B7 : Bag H7 b c := by walk_at "hb"
          have L7 : Lets H7 l := by walk_at "hl"
          walk_at "wp"
          have B8 := B7.new (o := .tup [.int pp, .int r, .str s]) hed
          have L8 : Lets (upd H7 ed (.tup [.int pp, .int r, .str s])) l := L7.same (Same.new hed)
          have neb : ed ≠ b := (B7.ne hed).1
          -- places
          refine ⟨_, _, _, rfl, B8, (by omega), (by omega), fun n9 H9 n90 n91 s9 B9 => ?_⟩
          have L9 : Lets H9 l := L8.but s9 nlb
          have T9 : H9 ed = some (.tup [.int pp, .int r, .str s]) := s9 _ _ neb upd_same
          clear s1 s2 s3 s4 s5 s7 B0 B1 B2 B3 B4 B5 B6 B7 B8 L0 L1 L2 L3 L4 L5 L6 L7 L8 s9
          walk_at "wp"
          refine ⟨disp rfl, fun D4 hD4 => ?_⟩
          walk_at "wp"
          refine ⟨fun σ' H' => ∃ (pl : Addr) (pns : List Int), σ' = [some (.ref p), some (.ref b), some (.ref l), some (.int z), some (.int cr), some (.int cr), some (.int sd), some (.int (0 + i)), some (.int pp), some (.int (z - pp)), some (.int r), some (.ref ed), some (.ref pl), o13, o14, o15, o16, o17] ∧ Wd H' b c l ed pl pp r s pns ∧ 0 < pns.length ∧ pns.length ≤ 100 ∧ ∀ n ∈ pns, 0 ≤ n ∧ n ≤ z, ?_, ?_⟩
          · walk_at "wp"
            refine brd (fun h1 => ?_) (fun h1 => ?_)
            · walk_at "wp"
              refine ⟨by omega, by omega, fun D5 hD5 => lcR_go (fun i => .int (0 + i)) (by omega) (fun _ => rfl) (fun i H' Q _ _ q => ⟨_, rfl, q⟩) hD5 ?_⟩
              refine ⟨D5, (List.range (z + 1).toNat).map fun (i : Nat) => 0 + (i : Int), rfl, ⟨(B9.new hD4).new hD5, (L9.same (Same.new hD4)).same (Same.new hD5), Same.new hD5 _ _ (Same.new hD4 _ _ T9), ?_⟩, ?_, ?_, ?_⟩
              · rw [upd_same, List.map_map]
                rfl
              · rw [List.length_map, List.length_range]
                omega
              · rw [List.length_map, List.length_range]
                omega
              · intro n hn
                obtain ⟨j, hj, rfl⟩ := List.mem_map.mp hn
                have := List.mem_range.mp hj
                omega
            · refine ⟨D4, [0, pp, pp + r, z, n9, if 0 > pp - 1 then 0 else pp - 1, if z < pp + r + 1 then z else pp + r + 1], rfl, ⟨B9.new hD4, L9.same (Same.new hD4), Same.new hD4 _ _ T9, upd_same⟩, by show 0 < 7; decide, by show 7 ≤ 100; decide, fun n hn => ?_⟩
              simp only [List.mem_cons, List.not_mem_nil, or_false] at hn
              rcases hn with rfl | rfl | rfl | rfl | rfl | rfl | rfl
              · omega
              · omega
              · omega
              · omega
              · omega
              · split <;> omega
              · split <;> omega
          · clear hD4 B9 L9 T9 hed
            rintro σ' H0 ⟨pl, pns, rfl, W0, l0, l1, rng⟩
            walk_at "wp"
            refine ⟨⟨_, SqL.of W0.lst⟩, for_list (xs := pns.map V.int) (fun j σ H' => ∃ o13 o14 o15 o16 : Option V, σ = [some (.ref p), some (.ref b), some (.ref l), some (.int z), some (.int cr), some (.int cr), some (.int sd), some (.int (0 + i)), some (.int pp), some (.int (z - pp)), some (.int r), some (.ref ed), some (.ref pl), o13, o14, o15, o16, o17] ∧ Wd H' b c l ed pl pp r s pns) ⟨o13, o14, o15, o16, rfl, W0⟩ (fun j σ H' _ ⟨_, _, _, _, _, W⟩ => SqL.of W.lst) ?_ ?_⟩
            · clear W0
              rintro j x σ H1 hx ⟨o13, o14, o15, o16, rfl, W1⟩
              obtain ⟨n, hn, rfl, hm⟩ := mem_int hx
              obtain ⟨n0, nz⟩ := rng n hm
              walk_at "wp"
              refine ⟨disp rfl, fun D6 hD6 => ?_⟩
              walk_at "wp"
              refine ⟨⟨_, SqT.of upd_same⟩, for_tup (xs := [.int 0, .int 1]) (fun j σ H' => ∃ o14 : Option V, σ = [some (.ref p), some (.ref b), some (.ref l), some (.int z), some (.int cr), some (.int cr), some (.int sd), some (.int (0 + i)), some (.int pp), some (.int (z - pp)), some (.int r), some (.ref ed), some (.ref pl), some (.int n), o14, o15, o16, o17] ∧ Wd H' b c l ed pl pp r s pns ∧ SqT K H' D6 [.int 0, .int 1]) ⟨o14, rfl, W1.same (Same.new hD6), SqT.of upd_same⟩ (fun j σ H' _ ⟨_, _, _, h⟩ => h) ?_ ?_⟩
              · rintro j x σ H2 hx ⟨o14, rfl, W2, S2⟩
                obtain ⟨wy, rfl, hw⟩ : ∃ wy : Int, x = .int wy ∧ (wy = 0 ∨ wy = 1) := by
                  have hm := List.mem_of_getElem? hx
                  simp only [List.mem_cons, List.not_mem_nil, or_false] at hm
                  rcases hm with rfl | rfl
                  · exact ⟨0, rfl, .inl rfl⟩
                  · exact ⟨1, rfl, .inr rfl⟩
                walk_at "wp"
                refine ⟨n, ed, pp, r, s, wy, rfl, SqT.of W2.tup, by omega, fun _ H3 s3 => ?_, fun h => absurd hw h⟩
                have W3 := W2.same s3
                walk_at "wp"
                refine ⟨n, ed, pp, r, s, wy, z, rfl, SqT.of W3.tup, by omega, hw, n0, nz, by omega, p0, r0, by omega, fun H4 s4 => ?_⟩
                walk_at "wp"
                refine ⟨.inl ⟨_, _, rfl, rfl⟩, ?_⟩
                walk_at "wp"
                refine brF (by rw [decide_eq_true rfl]; rfl) ?_
                walk_at "wp"
                exact ⟨W3.same s4, s4.seqT (s3.seqT S2)⟩
              · rintro σ H2 ⟨o14, rfl, W2, S2⟩
                walk_at "wp"
                refine ⟨disp rfl, fun D7 hD7 => ?_⟩
                have W3 := W2.same (Same.new (o := .lst [.int (z + 1)]) hD7)
                refine ⟨pl, D7, _, _, rfl, rfl, W3.lst, upd_same, (by rw [List.length_map]; exact le_line (by show _ + 1 ≤ _; omega)), fun D8 hD8 => ?_⟩
                walk_at "wp"
                refine ⟨⟨_, SqL.of upd_same⟩, for_list (xs := pns.map V.int ++ [V.int (z + 1)]) (fun j σ H' => ∃ o15 o16 : Option V, σ = [some (.ref p), some (.ref b), some (.ref l), some (.int z), some (.int cr), some (.int cr), some (.int sd), some (.int (0 + i)), some (.int pp), some (.int (z - pp)), some (.int r), some (.ref ed), some (.ref pl), some (.int n), o14, o15, o16, o17] ∧ Wd H' b c l ed pl pp r s pns ∧ SqL K H' D8 (pns.map V.int ++ [V.int (z + 1)])) ⟨o15, o16, rfl, W3.same (Same.new hD8), SqL.of upd_same⟩ (fun j σ H' _ ⟨_, _, _, _, h⟩ => h) ?_ ?_⟩
                · rintro j x σ H4 hx ⟨o15, o16, rfl, W4, S4⟩
                  obtain ⟨e, rfl⟩ : ∃ e : Int, x = .int e := by
                    rcases List.mem_append.mp (List.mem_of_getElem? hx) with h | h
                    · obtain ⟨y, _, rfl⟩ := List.mem_map.mp h
                      exact ⟨y, rfl⟩
                    · exact ⟨z + 1, List.mem_singleton.mp h⟩
                  walk_at "wp"
                  refine brd (fun h1 => ?_) (fun h1 => ?_)
                  · walk_at "wp"
                    refine brd (fun h2 => ?_) (fun h2 => ?_)
                    · walk_at "wp"
                      refine ⟨ed, pp, r, .str s, n, e, rfl, SqT.of W4.tup, ?_⟩
                      walk_at "wp"
                      refine ⟨.inr ⟨_, _, rfl, rfl⟩, ?_⟩
                      walk_at "wp"
                      refine brF (by rw [decide_eq_true h1]; rfl) ?_
                      walk_at "wp"
                      exact ⟨W4, S4⟩
                    · walk_at "wp"
                      exact ⟨W4, S4⟩
                  · walk_at "wp"
                    refine brd (fun h2 => ?_) (fun h2 => ?_)
                    · walk_at "wp"
                      refine ⟨ed, pp, r, .str s, n, e, rfl, SqT.of W4.tup, ?_⟩
                      walk_at "wp"
                      refine ⟨.inr ⟨_, _, rfl, rfl⟩, ?_⟩
                      walk_at "wp"
                      refine brF (by rw [decide_eq_false h1, Bool.false_or, decide_eq_true rfl]; rfl) ?_
                      walk_at "wp"
                      exact ⟨W4, S4⟩
                    · walk_at "wp"
                      exact ⟨W4, S4⟩
                · rintro σ H4 ⟨o15, o16, rfl, W4, S4⟩
                  walk_at "wp"
                  exact ⟨_, _, _, _, rfl, W4⟩
            · clear W0
              rintro σ H1 ⟨o13, o14, o15, o16, rfl, W1⟩
              walk_at "wp"
              obtain ⟨n, en, n0, nz⟩ := atI_all (ns := pns) (i := 0) (C := fun v => 0 ≤ v ∧ v ≤ z) (by decide) (by omega) rng
              refine ⟨_, _, _, _, rfl, rfl, SqL.of W1.lst, en, ?_⟩
              walk_at "wp"
              refine ⟨disp rfl, fun D9 hD9 => ?_⟩
              have W2 := W1.same (Same.new (o := .lst [.int 2, .int (-1), .int 3, .int 10]) hD9)
              walk_at "wp"
              refine ⟨_, _, _, rfl, W2.bag, (by decide), (by decide), fun m H3 m0 m1 s3 B3 => ?_⟩
              have nD : D9 ≠ b := (W1.bag.ne hD9).1
              have npl : pl ≠ b := fun h => by
                obtain ⟨_, _, _, _, _, e1, _⟩ := W1.bag
                rw [h] at W1
                have := W1.lst
                rw [e1] at this
                have h2 := HO.lst.inj (Option.some.inj this)
                cases pns with
                | nil => cases h2
                | cons x xs => cases h2
              have W3 : Wd H3 b c l ed pl pp r s pns := ⟨B3, W2.let_.but s3 nlb, s3 _ _ neb W2.tup, s3 _ _ npl W2.lst⟩
              obtain ⟨v, ev, hv⟩ := atI_all (ns := [2, -1, 3, 10]) (i := m) (C := fun v => ¬ (v = 0 ∨ v = 1)) m0 m1 (by decide)
              refine ⟨_, _, _, _, rfl, rfl, SqL.of (s3 _ _ nD upd_same), ev, ?_⟩
              walk_at "wp"
              refine ⟨n, ed, pp, r, s, v, rfl, SqT.of W3.tup, by omega, hv, fun H4 s4 => ?_⟩
              have W4 := W3.same s4
              walk_at "wp"
              refine ⟨cr, ed, pp, r, s, sd, z, rfl, SqT.of W4.tup, by omega, hsd, c0, c1, by omega, p0, r0, by omega, fun H5 s5 => ?_⟩
              have W5 := W4.same s5
              walk_at "wp"
              refine ⟨cr, ed, pp, r, s, sd, rfl, SqT.of W5.tup, by omega, fun _ H6 s6 => ?_, fun h => absurd hsd h⟩
              have W6 := W5.same s6
              walk_at "wp"
              refine ⟨.inl ⟨_, _, rfl, rfl⟩, ?_⟩
              walk_at "wp"
              refine brF (by rw [decide_eq_true rfl]; rfl) ?_
              have T6 : SqT K H6 ed [.int pp, .int r, .str s] := SqT.of W6.tup
              walk_at "wp"
              obtain ⟨m2, m3⟩ := moved_in (l := (s.length : Int)) c0 c1 p0 r0 (show pp + r ≤ z by omega) (by omega) hsd
              refine ⟨z - r + s.length, moved cr pp r s.length sd, some (.int (0 + i)), some (.int pp), some (.int (z - pp)), some (.int r), some (.ref ed), some (.ref pl), o13, o14, o15, o16, o17, rfl, by omega, by omega, m2, m3, W6.bag, W6.let_⟩
      · rintro σ H' ⟨z, cr, o7, o8, o9, o10, o11, o12, o13, o14, o15, o16, o17, rfl, _⟩
        walk_at "wp"
        exact q _
end
theorem all_mk {l : PySem.W.OpenLaw} {w : World} {K : PySem.W.Frag} {h : Heap} {mg : Str → Option Value} {fa : Addr} (X : K.In h) (G : h.Ns mainGlobals mg) (hfa : mg "law" = some (.ref fa))
    {f_Undefined_init f_is_integer f_growth f_side_asked f_place_moved f_untouched f_law_bag f_law_take f_law_sign f_law_text f_law_letters f_law_pick f_law_same f_law_goes f_law_refused f_law c_TreeError c_Undefined : Addr}
    {od0 an0 : Option Addr} {sl0 : Array (Option Value)} {oc0 kV0 dc0 pm0 cd0 ct0 : Value}
    {od1 an1 : Option Addr} {sl1 : Array (Option Value)} {oc1 kV1 dc1 pm1 cd1 ct1 : Value}
    {od2 an2 : Option Addr} {sl2 : Array (Option Value)} {oc2 kV2 dc2 pm2 cd2 ct2 : Value}
    {od3 an3 : Option Addr} {sl3 : Array (Option Value)} {oc3 kV3 dc3 pm3 cd3 ct3 : Value}
    {od4 an4 : Option Addr} {sl4 : Array (Option Value)} {oc4 kV4 dc4 pm4 cd4 ct4 : Value}
    {od5 an5 : Option Addr} {sl5 : Array (Option Value)} {oc5 kV5 dc5 pm5 cd5 ct5 : Value}
    {od6 an6 : Option Addr} {sl6 : Array (Option Value)} {oc6 kV6 dc6 pm6 cd6 ct6 : Value}
    {od7 an7 : Option Addr} {sl7 : Array (Option Value)} {oc7 kV7 dc7 pm7 cd7 ct7 : Value}
    {od8 an8 : Option Addr} {sl8 : Array (Option Value)} {oc8 kV8 dc8 pm8 cd8 ct8 : Value}
    {od9 an9 : Option Addr} {sl9 : Array (Option Value)} {oc9 kV9 dc9 pm9 cd9 ct9 : Value}
    {od10 an10 : Option Addr} {sl10 : Array (Option Value)} {oc10 kV10 dc10 pm10 cd10 ct10 : Value}
    {od11 an11 : Option Addr} {sl11 : Array (Option Value)} {oc11 kV11 dc11 pm11 cd11 ct11 : Value}
    {od12 an12 : Option Addr} {sl12 : Array (Option Value)} {oc12 kV12 dc12 pm12 cd12 ct12 : Value}
    {od13 an13 : Option Addr} {sl13 : Array (Option Value)} {oc13 kV13 dc13 pm13 cd13 ct13 : Value}
    {od14 an14 : Option Addr} {sl14 : Array (Option Value)} {oc14 kV14 dc14 pm14 cd14 ct14 : Value}
    {od15 an15 : Option Addr} {sl15 : Array (Option Value)} {oc15 kV15 dc15 pm15 cd15 ct15 : Value}
    {nm_Undefined qn_Undefined : Str} {nn_Undefined : Addr} {bs_Undefined bm_Undefined : List Value} {sn_Undefined : List Str} {sb_Undefined : List Value} {ab_Undefined : Bool} {cl_Undefined : Option Bool} {dd_Undefined : Option Addr} {m0_Undefined m1_Undefined m2_Undefined m3_Undefined m5_Undefined : Option Value}
    (ac_TreeError : PySem.W.nsIn K mainGlobals "TreeError" = some (some (.ref c_TreeError)))
    (ac_Undefined : PySem.W.nsIn K mainGlobals "Undefined" = some (some (.ref c_Undefined)))
    (a0 : PySem.W.findIn K (.ref c_Undefined) "__init__" = some (some (.ref f_Undefined_init)))
    (l0 : K.lookup f_Undefined_init = some ⟨oc0, od0, .func (PySem.W.fnOf "__init__" "Undefined.__init__" (defArgs s_Undefined_init) (defBody s_Undefined_init) (defScope s_Undefined_init) .none kV0 dc0 pm0 an0 cd0 ct0), sl0⟩)
    (co0 : PySem.W.codeIn K cd0 "Undefined.__init__" = true)
    (ke0 : PySem.W.keepIn K (.ref f_Undefined_init) = true)
    (a1 : PySem.W.nsIn K mainGlobals "is_integer" = some (some (.ref f_is_integer)))
    (l1 : K.lookup f_is_integer = some ⟨oc1, od1, .func (PySem.W.fnOf "is_integer" "is_integer" (defArgs s_is_integer) (defBody s_is_integer) (defScope s_is_integer) .none kV1 dc1 pm1 an1 cd1 ct1), sl1⟩)
    (co1 : PySem.W.codeIn K cd1 "is_integer" = true)
    (ke1 : PySem.W.keepIn K (.ref f_is_integer) = true)
    (a2 : PySem.W.nsIn K mainGlobals "growth" = some (some (.ref f_growth)))
    (l2 : K.lookup f_growth = some ⟨oc2, od2, .func (PySem.W.fnOf "growth" "growth" (defArgs s_growth) (defBody s_growth) (defScope s_growth) .none kV2 dc2 pm2 an2 cd2 ct2), sl2⟩)
    (co2 : PySem.W.codeIn K cd2 "growth" = true)
    (ke2 : PySem.W.keepIn K (.ref f_growth) = true)
    (a3 : PySem.W.nsIn K mainGlobals "side_asked" = some (some (.ref f_side_asked)))
    (l3 : K.lookup f_side_asked = some ⟨oc3, od3, .func (PySem.W.fnOf "side_asked" "side_asked" (defArgs s_side_asked) (defBody s_side_asked) (defScope s_side_asked) .none kV3 dc3 pm3 an3 cd3 ct3), sl3⟩)
    (co3 : PySem.W.codeIn K cd3 "side_asked" = true)
    (ke3 : PySem.W.keepIn K (.ref f_side_asked) = true)
    (a4 : PySem.W.nsIn K mainGlobals "place_moved" = some (some (.ref f_place_moved)))
    (l4 : K.lookup f_place_moved = some ⟨oc4, od4, .func (PySem.W.fnOf "place_moved" "place_moved" (defArgs s_place_moved) (defBody s_place_moved) (defScope s_place_moved) .none kV4 dc4 pm4 an4 cd4 ct4), sl4⟩)
    (co4 : PySem.W.codeIn K cd4 "place_moved" = true)
    (ke4 : PySem.W.keepIn K (.ref f_place_moved) = true)
    (a5 : PySem.W.nsIn K mainGlobals "untouched" = some (some (.ref f_untouched)))
    (l5 : K.lookup f_untouched = some ⟨oc5, od5, .func (PySem.W.fnOf "untouched" "untouched" (defArgs s_untouched) (defBody s_untouched) (defScope s_untouched) .none kV5 dc5 pm5 an5 cd5 ct5), sl5⟩)
    (co5 : PySem.W.codeIn K cd5 "untouched" = true)
    (ke5 : PySem.W.keepIn K (.ref f_untouched) = true)
    (a6 : PySem.W.nsIn K mainGlobals "_law_bag" = some (some (.ref f_law_bag)))
    (l6 : K.lookup f_law_bag = some ⟨oc6, od6, .func (PySem.W.fnOf "_law_bag" "_law_bag" (defArgs s_law_bag) (defBody s_law_bag) (defScope s_law_bag) .none kV6 dc6 pm6 an6 cd6 ct6), sl6⟩)
    (co6 : PySem.W.codeIn K cd6 "_law_bag" = true)
    (ke6 : PySem.W.keepIn K (.ref f_law_bag) = true)
    (a7 : PySem.W.nsIn K mainGlobals "_law_take" = some (some (.ref f_law_take)))
    (l7 : K.lookup f_law_take = some ⟨oc7, od7, .func (PySem.W.fnOf "_law_take" "_law_take" (defArgs s_law_take) (defBody s_law_take) (defScope s_law_take) .none kV7 dc7 pm7 an7 cd7 ct7), sl7⟩)
    (co7 : PySem.W.codeIn K cd7 "_law_take" = true)
    (ke7 : PySem.W.keepIn K (.ref f_law_take) = true)
    (a8 : PySem.W.nsIn K mainGlobals "_law_sign" = some (some (.ref f_law_sign)))
    (l8 : K.lookup f_law_sign = some ⟨oc8, od8, .func (PySem.W.fnOf "_law_sign" "_law_sign" (defArgs s_law_sign) (defBody s_law_sign) (defScope s_law_sign) .none kV8 dc8 pm8 an8 cd8 ct8), sl8⟩)
    (co8 : PySem.W.codeIn K cd8 "_law_sign" = true)
    (ke8 : PySem.W.keepIn K (.ref f_law_sign) = true)
    (a9 : PySem.W.nsIn K mainGlobals "_law_text" = some (some (.ref f_law_text)))
    (l9 : K.lookup f_law_text = some ⟨oc9, od9, .func (PySem.W.fnOf "_law_text" "_law_text" (defArgs s_law_text) (defBody s_law_text) (defScope s_law_text) .none kV9 dc9 pm9 an9 cd9 ct9), sl9⟩)
    (co9 : PySem.W.codeIn K cd9 "_law_text" = true)
    (ke9 : PySem.W.keepIn K (.ref f_law_text) = true)
    (a10 : PySem.W.nsIn K mainGlobals "_law_letters" = some (some (.ref f_law_letters)))
    (l10 : K.lookup f_law_letters = some ⟨oc10, od10, .func (PySem.W.fnOf "_law_letters" "_law_letters" (defArgs s_law_letters) (defBody s_law_letters) (defScope s_law_letters) .none kV10 dc10 pm10 an10 cd10 ct10), sl10⟩)
    (co10 : PySem.W.codeIn K cd10 "_law_letters" = true)
    (ke10 : PySem.W.keepIn K (.ref f_law_letters) = true)
    (a11 : PySem.W.nsIn K mainGlobals "_law_pick" = some (some (.ref f_law_pick)))
    (l11 : K.lookup f_law_pick = some ⟨oc11, od11, .func (PySem.W.fnOf "_law_pick" "_law_pick" (defArgs s_law_pick) (defBody s_law_pick) (defScope s_law_pick) .none kV11 dc11 pm11 an11 cd11 ct11), sl11⟩)
    (co11 : PySem.W.codeIn K cd11 "_law_pick" = true)
    (ke11 : PySem.W.keepIn K (.ref f_law_pick) = true)
    (a12 : PySem.W.nsIn K mainGlobals "_law_same" = some (some (.ref f_law_same)))
    (l12 : K.lookup f_law_same = some ⟨oc12, od12, .func (PySem.W.fnOf "_law_same" "_law_same" (defArgs s_law_same) (defBody s_law_same) (defScope s_law_same) .none kV12 dc12 pm12 an12 cd12 ct12), sl12⟩)
    (co12 : PySem.W.codeIn K cd12 "_law_same" = true)
    (ke12 : PySem.W.keepIn K (.ref f_law_same) = true)
    (a13 : PySem.W.nsIn K mainGlobals "_law_goes" = some (some (.ref f_law_goes)))
    (l13 : K.lookup f_law_goes = some ⟨oc13, od13, .func (PySem.W.fnOf "_law_goes" "_law_goes" (defArgs s_law_goes) (defBody s_law_goes) (defScope s_law_goes) .none kV13 dc13 pm13 an13 cd13 ct13), sl13⟩)
    (co13 : PySem.W.codeIn K cd13 "_law_goes" = true)
    (ke13 : PySem.W.keepIn K (.ref f_law_goes) = true)
    (a14 : PySem.W.nsIn K mainGlobals "_law_refused" = some (some (.ref f_law_refused)))
    (l14 : K.lookup f_law_refused = some ⟨oc14, od14, .func (PySem.W.fnOf "_law_refused" "_law_refused" (defArgs s_law_refused) (defBody s_law_refused) (defScope s_law_refused) .none kV14 dc14 pm14 an14 cd14 ct14), sl14⟩)
    (co14 : PySem.W.codeIn K cd14 "_law_refused" = true)
    (ke14 : PySem.W.keepIn K (.ref f_law_refused) = true)
    (a15 : PySem.W.nsIn K mainGlobals "law" = some (some (.ref f_law)))
    (l15 : K.lookup f_law = some ⟨oc15, od15, .func (PySem.W.fnOf "law" "law" (defArgs s_law) (defBody s_law) (defScope s_law) .none kV15 dc15 pm15 an15 cd15 ct15), sl15⟩)
    (co15 : PySem.W.codeIn K cd15 "law" = true)
    (ke15 : PySem.W.keepIn K (.ref f_law) = true)
    (z_abs : PySem.W.nsIn K mainGlobals "abs" = some none)
    (z_all : PySem.W.nsIn K mainGlobals "all" = some none)
    (z_bool : PySem.W.nsIn K mainGlobals "bool" = some none)
    (z_int : PySem.W.nsIn K mainGlobals "int" = some none)
    (z_isinstance : PySem.W.nsIn K mainGlobals "isinstance" = some none)
    (z_len : PySem.W.nsIn K mainGlobals "len" = some none)
    (z_list : PySem.W.nsIn K mainGlobals "list" = some none)
    (z_max : PySem.W.nsIn K mainGlobals "max" = some none)
    (z_min : PySem.W.nsIn K mainGlobals "min" = some none)
    (z_range : PySem.W.nsIn K mainGlobals "range" = some none)
    (z_str : PySem.W.nsIn K mainGlobals "str" = some none)
    (z_tuple : PySem.W.nsIn K mainGlobals "tuple" = some none)
    (b_e : PySem.W.subIn K (.ref c_TreeError) (.type "BaseException") = some true)
    (b_h : PySem.W.hasDictIn K c_TreeError = true)
    (b_t : PySem.W.typeIn K (.ref c_TreeError) = some (.type "type"))
    (s_n : PySem.W.specialIn K (.builtin "object.__class__") "__get__" = some (some (.builtin "getset_descriptor.__get__")))
    (s_t : PySem.W.takesIn K (.builtin "object.__class__") = some true)
    (x1_Undefined : K.lookup c_Undefined = some (excClassObj nm_Undefined qn_Undefined c_Undefined nn_Undefined bs_Undefined bm_Undefined true sn_Undefined sb_Undefined ab_Undefined cl_Undefined dd_Undefined m0_Undefined m1_Undefined m2_Undefined m3_Undefined m5_Undefined "ValueError.__new__"))
    (x2_Undefined : PySem.HandSPX.refsVE bm_Undefined = true)
    (x3_Undefined : PySem.W.findIn K (.ref c_Undefined) "__setattr__" = some (some (.builtin "object.__setattr__")))
    (x4_Undefined : PySem.W.subIn K (.ref c_Undefined) (.type "BaseException") = some true)
    (x5_Undefined : PySem.W.typeIn K (.ref c_Undefined) = some (.type "type"))
    (x6_Undefined : PySem.W.keepIn K (.ref c_Undefined) = true)
    (x7_Undefined : PySem.W.findIn K (.ref c_Undefined) "__getattribute__" = some (some (.builtin "BaseException.__getattribute__")))
    (x8_Undefined : PySem.W.findIn K (.ref c_Undefined) "__getattr__" = some none)
    (x9_Undefined : PySem.W.hasDictIn K c_Undefined = true)
    (y1_Undefined : PySem.W.findIn K (.ref c_Undefined) "__class__" = some (some (.builtin "object.__class__")))
    (y2_Undefined : PySem.W.mroIn K c_Undefined (.type "object") = some true)
    (y3_Undefined : PySem.W.subIn K (.ref c_Undefined) (.ref c_TreeError) = some true)
    (y4_Undefined : PySem.W.typeIn K (.ref f_Undefined_init) = some (.type "function"))
    (n_Undefined_what : PySem.W.findIn K (.ref c_Undefined) "what" = some none)
    : ∃ fd : FuncData, (∀ (s : Shared) (v : Value), BindsTo s fd ⟨[v], []⟩ [("script", v)]) ∧ ∀ base : Heap, K.In base → base.Ns mainGlobals mg → FnOk l.prog w K mg base CX0 6 fa fd ["script"] (sp_law K) := by
  have e := hfa.symm.trans (PySem.W.mg_of X G a15)
  cases e
  have T : Txt K mg { Undefined_init := f_Undefined_init, Undefined_init_d := _, is_integer := f_is_integer, is_integer_d := _, growth := f_growth, growth_d := _, side_asked := f_side_asked, side_asked_d := _, place_moved := f_place_moved, place_moved_d := _, untouched := f_untouched, untouched_d := _, law_bag := f_law_bag, law_bag_d := _, law_take := f_law_take, law_take_d := _, law_sign := f_law_sign, law_sign_d := _, law_text := f_law_text, law_text_d := _, law_letters := f_law_letters, law_letters_d := _, law_pick := f_law_pick, law_pick_d := _, law_same := f_law_same, law_same_d := _, law_goes := f_law_goes, law_goes_d := _, law_refused := f_law_refused, law_refused_d := _, law := fa, law_d := _, TreeError := c_TreeError, Undefined := c_Undefined } :=
    { m_TreeError := PySem.W.mg_of X G ac_TreeError
      m_Undefined := PySem.W.mg_of X G ac_Undefined
      F_Undefined_init := fun_mk (st := s_Undefined_init) l0 co0 ke0
      m_is_integer := PySem.W.mg_of X G a1
      F_is_integer := fun_mk (st := s_is_integer) l1 co1 ke1
      m_growth := PySem.W.mg_of X G a2
      F_growth := fun_mk (st := s_growth) l2 co2 ke2
      m_side_asked := PySem.W.mg_of X G a3
      F_side_asked := fun_mk (st := s_side_asked) l3 co3 ke3
      m_place_moved := PySem.W.mg_of X G a4
      F_place_moved := fun_mk (st := s_place_moved) l4 co4 ke4
      m_untouched := PySem.W.mg_of X G a5
      F_untouched := fun_mk (st := s_untouched) l5 co5 ke5
      m_law_bag := PySem.W.mg_of X G a6
      F_law_bag := fun_mk (st := s_law_bag) l6 co6 ke6
      m_law_take := PySem.W.mg_of X G a7
      F_law_take := fun_mk (st := s_law_take) l7 co7 ke7
      m_law_sign := PySem.W.mg_of X G a8
      F_law_sign := fun_mk (st := s_law_sign) l8 co8 ke8
      m_law_text := PySem.W.mg_of X G a9
      F_law_text := fun_mk (st := s_law_text) l9 co9 ke9
      m_law_letters := PySem.W.mg_of X G a10
      F_law_letters := fun_mk (st := s_law_letters) l10 co10 ke10
      m_law_pick := PySem.W.mg_of X G a11
      F_law_pick := fun_mk (st := s_law_pick) l11 co11 ke11
      m_law_same := PySem.W.mg_of X G a12
      F_law_same := fun_mk (st := s_law_same) l12 co12 ke12
      m_law_goes := PySem.W.mg_of X G a13
      F_law_goes := fun_mk (st := s_law_goes) l13 co13 ke13
      m_law_refused := PySem.W.mg_of X G a14
      F_law_refused := fun_mk (st := s_law_refused) l14 co14 ke14
      m_law := PySem.W.mg_of X G a15
      F_law := fun_mk (st := s_law) l15 co15 ke15
      z_abs := PySem.W.mg_none_of X G z_abs
      z_all := PySem.W.mg_none_of X G z_all
      z_bool := PySem.W.mg_none_of X G z_bool
      z_int := PySem.W.mg_none_of X G z_int
      z_isinstance := PySem.W.mg_none_of X G z_isinstance
      z_len := PySem.W.mg_none_of X G z_len
      z_list := PySem.W.mg_none_of X G z_list
      z_max := PySem.W.mg_none_of X G z_max
      z_min := PySem.W.mg_none_of X G z_min
      z_range := PySem.W.mg_none_of X G z_range
      z_str := PySem.W.mg_none_of X G z_str
      z_tuple := PySem.W.mg_none_of X G z_tuple
      e_Undefined := exAll_mk x1_Undefined x2_Undefined x3_Undefined x4_Undefined x5_Undefined x6_Undefined x7_Undefined x8_Undefined x9_Undefined y1_Undefined y2_Undefined y3_Undefined a0 y4_Undefined b_e b_h b_t s_n s_t
      n_Undefined_what := n_Undefined_what }
  exact ⟨PySem.W.fnOf "law" "law" (defArgs s_law) (defBody s_law) (defScope s_law) .none kV15 dc15 pm15 an15 cd15 ct15, fun s v => .of_eq rfl, fun base _ _ => ok_law T⟩
end K11
open PySem PySem.W PyProof.Rows
set_option maxHeartbeats 0 in
theorem PySem.Challenge.cw_alwaystree_k11_places_moved_and_untouche_holds : PySem.Challenge.rw_alwaystree_k11_places_moved_and_untouche.Holds := by
  w_on; o_law; k_head; (case hw => w_witness2)
  k_fill
  refine L2.walk_of (l := PySem.Challenge.rw_alwaystree_k11_places_moved_and_untouche) (n := 63) (k := 6) (x := "script") (CX := fun _ => L2.CX0) (sp := fun w => K11.sp_law _) rfl (by decide) rfl ⟨rfl, by decide, by decide⟩ (fun w h Y => PySem.W.kIn_of Y) ?F (fun _ _ a ns hl _ hS => ⟨a, ns, rfl, hS, hl, fun _ => rfl⟩) (fun _ _ _ _ _ h => h)
  case F =>
    intro w mg fa h KX G hmg
    refine' K11.all_mk KX G hmg ?ac_TreeError ?ac_Undefined ?a0 ?l0 ?co0 ?ke0 ?a1 ?l1 ?co1 ?ke1 ?a2 ?l2 ?co2 ?ke2 ?a3 ?l3 ?co3 ?ke3 ?a4 ?l4 ?co4 ?ke4 ?a5 ?l5 ?co5 ?ke5 ?a6 ?l6 ?co6 ?ke6 ?a7 ?l7 ?co7 ?ke7 ?a8 ?l8 ?co8 ?ke8 ?a9 ?l9 ?co9 ?ke9 ?a10 ?l10 ?co10 ?ke10 ?a11 ?l11 ?co11 ?ke11 ?a12 ?l12 ?co12 ?ke12 ?a13 ?l13 ?co13 ?ke13 ?a14 ?l14 ?co14 ?ke14 ?a15 ?l15 ?co15 ?ke15 ?z_abs ?z_all ?z_bool ?z_int ?z_isinstance ?z_len ?z_list ?z_max ?z_min ?z_range ?z_str ?z_tuple ?b_e ?b_h ?b_t ?s_n ?s_t ?x1_Undefined ?x2_Undefined ?x3_Undefined ?x4_Undefined ?x5_Undefined ?x6_Undefined ?x7_Undefined ?x8_Undefined ?x9_Undefined ?y1_Undefined ?y2_Undefined ?y3_Undefined ?y4_Undefined ?n_Undefined_what
    (case ac_TreeError => k_is)
    (case ac_Undefined => k_is)
    (case a0 => k_is)
    (case l0 => k_is)
    (case co0 => k_is)
    (case ke0 => k_is)
    (case a1 => k_is)
    (case l1 => k_is)
    (case co1 => k_is)
    (case ke1 => k_is)
    (case a2 => k_is)
    (case l2 => k_is)
    (case co2 => k_is)
    (case ke2 => k_is)
    (case a3 => k_is)
    (case l3 => k_is)
    (case co3 => k_is)
    (case ke3 => k_is)
    (case a4 => k_is)
    (case l4 => k_is)
    (case co4 => k_is)
    (case ke4 => k_is)
    (case a5 => k_is)
    (case l5 => k_is)
    (case co5 => k_is)
    (case ke5 => k_is)
    (case a6 => k_is)
    (case l6 => k_is)
    (case co6 => k_is)
    (case ke6 => k_is)
    (case a7 => k_is)
    (case l7 => k_is)
    (case co7 => k_is)
    (case ke7 => k_is)
    (case a8 => k_is)
    (case l8 => k_is)
    (case co8 => k_is)
    (case ke8 => k_is)
    (case a9 => k_is)
    (case l9 => k_is)
    (case co9 => k_is)
    (case ke9 => k_is)
    (case a10 => k_is)
    (case l10 => k_is)
    (case co10 => k_is)
    (case ke10 => k_is)
    (case a11 => k_is)
    (case l11 => k_is)
    (case co11 => k_is)
    (case ke11 => k_is)
    (case a12 => k_is)
    (case l12 => k_is)
    (case co12 => k_is)
    (case ke12 => k_is)
    (case a13 => k_is)
    (case l13 => k_is)
    (case co13 => k_is)
    (case ke13 => k_is)
    (case a14 => k_is)
    (case l14 => k_is)
    (case co14 => k_is)
    (case ke14 => k_is)
    (case a15 => k_is)
    (case l15 => k_is)
    (case co15 => k_is)
    (case ke15 => k_is)
    (case z_abs => k_is)
    (case z_all => k_is)
    (case z_bool => k_is)
    (case z_int => k_is)
    (case z_isinstance => k_is)
    (case z_len => k_is)
    (case z_list => k_is)
    (case z_max => k_is)
    (case z_min => k_is)
    (case z_range => k_is)
    (case z_str => k_is)
    (case z_tuple => k_is)
    (case b_e => k_is)
    (case b_h => k_is)
    (case b_t => k_is)
    (case s_n => k_is)
    (case s_t => k_is)
    (case x1_Undefined => k_is)
    (case x2_Undefined => decide +kernel)
    (case x3_Undefined => k_is)
    (case x4_Undefined => k_is)
    (case x5_Undefined => k_is)
    (case x6_Undefined => k_is)
    (case x7_Undefined => k_is)
    (case x8_Undefined => k_is)
    (case x9_Undefined => k_is)
    (case y1_Undefined => k_is)
    (case y2_Undefined => k_is)
    (case y3_Undefined => k_is)
    (case y4_Undefined => k_is)
    (case n_Undefined_what => k_is)
