import PyProof.Rows.All
import Wide.All
import OpenK.AllK
import Wide.FinOn
import PyProof.EqAt
import PyProof.EqKinds
import PyProof.TupleCall
import HandS.ForMost
import HandS.ForExc
import HandS.Defaults
import HandS.IsInst
import HandS.ExcInit
import HandS.ExcField
import HandS.TryOnly
import HandS.Evl
import HandS.ExcIs
import KE.KExcIs
import HandS.ReplaceLit
import HandS.StrMore
import PyProof.ReprRoads
import HandS.HotCalls
import HandS.SortKw
import HandS.DictComp
import HandS.DictTup
import HandS.SetBool
import HandS.TupSets
import HandS.Rev
import HandS.RevTup
import HandS.Strs
import HandS.Zip
import HandS.Walk
import HandS.TupAny
import PySem.Challenge.RW_alwaystree_k63_token_changes
set_option Elab.async false
set_option linter.all false
set_option maxRecDepth 100000
set_option maxHeartbeats 4000000
/-! ## rules that the layer lacks, and words over heaps -/
namespace Al
open PySem PySem.Spec PyProof.Rows L2
section
variable {X : Cx} {CX : CXT} {k : Nat} {f : Addr} {fd : FuncData} {ps ks : List Str} {sp : Sp} {E : XK} {x : Str} {p pos : Pos} {kws : List Keyword} {tk : TA} {g : List Value → List Value → List Value} {gV : List V → List V → List V}
/-- f(k = v, ..): keywords alone -/
theorem pe_callN0 (F : FnOk X.prog X.w X.K X.mg X.base CX k f fd ps sp) (hr : Room k X.A) (hg : Gl X x) (hm : X.mg x = some (.ref f)) (hk : PySem.W.keepIn X.K (.ref f) = true) (hb : KBn X.K fd ps 0 ks g gV) (hx : Passes CX X E) (hkw : PK X kws tk)
    (hall : (backToKw pos (keywordEach kws X.env)).all (·.1.isSome) = true := by rfl) (hks : (backToKw pos (keywordEach kws X.env)).filterMap (·.1) = ks := by rfl) (hdb : (x == ("__debug__" : Str)) = false := by decide)
    (hpl : ((backTo pos (starEach [] X.env)).any (·.1) || (backToKw pos (keywordEach kws X.env)).any (·.1.isNone)) = false := by rfl) :
    PE X (.Call (.Name x p) [] kws pos) (tCallN 0 ks.length sp gV E tNil tk) := by
  refine ⟨fun pins s σ H Q I h => ?_⟩
  refine wpAny_Call_Name_kw (ld_glob I hg hm ?_ hdb)
  refine PySem.W.callWith_KW0 (h₀ := X.base) I.ok.mod.kin hk hall ?_ hpl
  refine thn (hkw.run pos pins s σ H _ I h) fun ws s2 ⟨zs, H2, I2, rz, l1, l2, q2⟩ => ⟨I2.kIn, ?_⟩
  rw [hks]
  exact run_fnN (us := []) (vs := []) F hr hb hx I2 .nil rz rfl l2 q2
end
/-- a class's facts for isinstance of its caught instances -/
structure ExC (K : PySem.W.Frag) (D : Addr) : Prop where
  cl : (PySem.W.clsIn K D).isSome = true
  hg : PySem.W.findIn K (.ref D) "__getattribute__" = some (some (.builtin "BaseException.__getattribute__"))
  hk : PySem.W.findIn K (.ref D) "__getattr__" = some none
  hs : PySem.W.subIn K (.ref D) (.type "BaseException") = some true
  ha : PySem.W.findIn K (.ref D) "__class__" = some (some (.builtin "object.__class__"))
  hn : PySem.W.specialIn K (.builtin "object.__class__") "__get__" = some (some (.builtin "getset_descriptor.__get__"))
  ht : PySem.W.takesIn K (.builtin "object.__class__") = some true
  hm : PySem.W.mroIn K D (.type "object") = some true
/-- isinstance(e, c), e the exception that the suite holds (class cls, own dict d) -/
def rIsE2 (K : PySem.W.Frag) (a : Addr) (cls : Value) (d : Option Addr) : List V → Hp → VK → Prop := fun xs H Q => ∃ (D dd : Addr) (fs : List (Str × V)) (c : V) (cv : Value) (b : Bool), cls = .ref D ∧ d = some dd ∧ ExC K D ∧ H dd = some (.xd fs) ∧ xs = [.ref a, c] ∧ (∀ u, RelV c u → u = cv) ∧ PySem.W.kitOne K (.ref D) cv = some b ∧ Q (.bl b) H
theorem call_isE2 {X : Cx} {a : Addr} {oe : Obj} {cls : Value} {d : Option Addr} {pn : List (Addr × Obj)} (hz : Zc cls d oe) (hf : ∃ vs, oe.data = .fields vs) : CallR (X.suite a ((a, oe) :: pn)) (.builtin "isinstance") (rIsE2 X.K a cls d) := by
  intro pins s σ H xs us Q I r h
  obtain ⟨D, dd, fs, c, cv, b, rfl, rfl, C, ea, rfl, hcv, e, q⟩ := h
  cases r with
  | cons rx rr =>
    cases rr with
    | cons rt rr =>
      cases rr
      cases rx
      have ec := hcv _ rt
      subst ec
      obtain ⟨hget, _⟩ := I.pin (a, oe) (List.mem_append.mpr (.inl List.mem_cons_self))
      obtain ⟨vs, hv⟩ := hf
      have hx : ObjOk X.prog X.w H s.heap dd (.xd fs) := I.hok dd _ ea
      obtain ⟨mA, hns, hr⟩ := hx
      obtain ⟨od, ho, hl⟩ := lookIn_ns hns
      have J : PySem.W.InstAt s.heap a oe D (some od) := ⟨hget, hz.1, by unfold PySem.W.notCls; rw [hv] <;> rfl, by rw [hz.2]; exact ho⟩
      exact PySem.W.kia_one (PySem.W.kitx_exc C.cl C.hg C.hk C.hs C.ha C.hn C.ht C.hm) I.kIn J e (fun z => nomatch z) fun tk => ⟨.bl b, H, I.kept (t' := tk) fun _ _ z => z, rfl, q⟩
/-- all that is asked of an own class of errors: C, whose __init__ stands at fI; B: the class that the except clauses name -/
structure ExAll (K : PySem.W.Frag) (C B fI : Addr) : Prop where
  x : OexC K C
  xf : XfC K C
  c : ExC K C
  i : PySem.W.findIn K (.ref C) "__init__" = some (some (.ref fI))
  t : PySem.W.typeIn K (.ref fI) = some (.type "function")
  em : PySem.W.exmOne K (.ref C) (.ref B) = some true
theorem exAll_mk {K : PySem.W.Frag} {C B fI : Addr} {nm q : Str} {N : Addr} {bs bm : List Value} {sn : List Str} {sub : List Value} {ab : Bool} {col : Option Bool} {dd : Option Addr} {m0 m1 m2 m3 m5 : Option Value}
    (x1 : K.lookup C = some (excClassObj nm q C N bs bm true sn sub ab col dd m0 m1 m2 m3 m5 "ValueError.__new__")) (x2 : PySem.HandSPX.refsVE bm = true)
    (x3 : PySem.W.findIn K (.ref C) "__setattr__" = some (some (.builtin "object.__setattr__"))) (x4 : PySem.W.subIn K (.ref C) (.type "BaseException") = some true) (x5 : PySem.W.typeIn K (.ref C) = some (.type "type")) (x6 : PySem.W.keepIn K (.ref C) = true)
    (x7 : PySem.W.findIn K (.ref C) "__getattribute__" = some (some (.builtin "BaseException.__getattribute__"))) (x8 : PySem.W.findIn K (.ref C) "__getattr__" = some none) (x9 : PySem.W.hasDictIn K C = true)
    (y1 : PySem.W.findIn K (.ref C) "__class__" = some (some (.builtin "object.__class__"))) (y2 : PySem.W.mroIn K C (.type "object") = some true) (y3 : PySem.W.subIn K (.ref C) (.ref B) = some true)
    (a : PySem.W.findIn K (.ref C) "__init__" = some (some (.ref fI))) (y4 : PySem.W.typeIn K (.ref fI) = some (.type "function"))
    (be : PySem.W.subIn K (.ref B) (.type "BaseException") = some true) (bh : PySem.W.hasDictIn K B = true) (bt : PySem.W.typeIn K (.ref B) = some (.type "type"))
    (sn' : PySem.W.specialIn K (.builtin "object.__class__") "__get__" = some (some (.builtin "getset_descriptor.__get__"))) (st' : PySem.W.takesIn K (.builtin "object.__class__") = some true) : ExAll K C B fI where
  x := ⟨⟨nm, q, N, bs, bm, sn, sub, ab, col, dd, m0, m1, m2, m3, m5, x1, x2⟩, x3, x4, x5, x6⟩
  xf := ⟨x7, x8, x4, x9⟩
  c := ⟨by obtain ⟨cd, hc, _⟩ := PySem.W.any_some x9; rw [hc]; rfl, x7, x8, x4, y1, sn', st', y2⟩
  i := a
  t := y4
  em := PySem.W.exm_ref be bh bt y3
theorem kit_self {K : PySem.W.Frag} {D : Addr} : PySem.W.kitOne K (.ref D) (.ref D) = some true := by
  unfold PySem.W.kitOne
  rw [if_pos (beq_self_eq_true _)]
/-- a def that may raise, called where its promise says that it does not -/
theorem passE0 {X : Cx} : Passes (L2.CX X.prog X.w) X E0 := fun _ _ _ _ _ _ _ h => by
  obtain ⟨_, _, _, _, _, _, _, _, _, _, _, _, h⟩ := h
  exact h.elim
/-! ### ifs -/
theorem br {c A B : Prop} {i : Decidable c} (h1 : c → A) (h2 : ¬ c → B) : @ite Prop c i A B := by
  by_cases h : c
  · rw [if_pos h]
    exact h1 h
  · rw [if_neg h]
    exact h2 h
/-- an if on a Bool that is decided: by the proposition -/
theorem brd {c A B : Prop} {j : Decidable c} {i : Decidable (decide c = true)} (h1 : c → A) (h2 : ¬ c → B) : @ite Prop (decide c = true) i A B :=
  br (fun h => h1 (of_decide_eq_true h)) (fun h => h2 fun q => h (decide_eq_true q))
theorem brb {b : Bool} {A B : Prop} {i : Decidable (b = true)} (h1 : b = true → A) (h2 : b = false → B) : @ite Prop (b = true) i A B :=
  br h1 (fun h => h2 (by cases b; rfl; exact absurd rfl h))
theorem brT {b : Bool} {A B : Prop} {i : Decidable (b = true)} (e : b = true) (h : A) : @ite Prop (b = true) i A B := br (fun _ => h) fun n => absurd e n
theorem brF {b : Bool} {A B : Prop} {i : Decidable (b = true)} (e : b = false) (h : B) : @ite Prop (b = true) i A B := br (fun n => by rw [e] at n; cases n) fun _ => h
theorem tC_go {v : V} {σ : L2.St} {H : Hp} {Q : VK} (h : Q v H) : tC v σ H Q := h
/-- a rest, a letter with its bounds -/
theorem modL {i j : Int} {H : Hp} {Q : VK} (hj : 0 < j) (h : ∀ r, r = i.fmod j → 0 ≤ r → r < j → Q (.int r) H) : rI (fun _ j => j ≠ 0) (fun i j => .int (i.fmod j)) (.int i) (.int j) H Q :=
  ⟨i, j, rfl, rfl, (show j ≠ 0 by omega), h _ rfl (by rw [Int.fmod_eq_emod_of_nonneg i (by omega)]; exact Int.emod_nonneg i (by omega)) (by rw [Int.fmod_eq_emod_of_nonneg i (by omega)]; exact Int.emod_lt_of_pos i hj)⟩
/-- a quotient, a letter with its bounds -/
theorem divL {i j : Int} {H : Hp} {Q : VK} (hj : 0 < j) (hs : j < 1000000000) (h : ∀ r, r = i.fdiv j → (0 ≤ i → 0 ≤ r ∧ r ≤ i) → r * j ≤ i → i < r * j + j → Q (.int r) H) : rI CDivN (fun i j => .int (i.fdiv j)) (.int i) (.int j) H Q := by
  have e : i.fdiv j = i / j := Int.fdiv_eq_ediv_of_nonneg i (by omega)
  have h1 : i / j * j ≤ i := Int.ediv_mul_le i (by omega)
  have h2 : i < (i / j + 1) * j := Int.lt_ediv_add_one_mul_self i hj
  refine ⟨i, j, rfl, rfl, ⟨by omega, by omega⟩, h _ rfl (fun h0 => ?_) (by rw [e]; exact h1) (by rw [e]; rw [Int.add_mul, Int.one_mul] at h2; exact h2)⟩
  rw [e]
  exact ⟨Int.ediv_nonneg h0 (by omega), Int.ediv_le_self _ h0⟩
theorem int_ne {i j : Int} (h : ¬ (V.int i = V.int j)) : i ≠ j := fun e => h (by rw [e])
/-! ### heaps -/
/-- all that is tracked stands, but at b -/
def But (b : Addr) (H H' : Hp) : Prop := ∀ a o, a ≠ b → H a = some o → H' a = some o
theorem But.refl {b : Addr} {H : Hp} : But b H H := fun _ _ _ h => h
theorem But.trans {b : Addr} {H H1 H2 : Hp} (x : But b H H1) (y : But b H1 H2) : But b H H2 := fun a o n h => y a o n (x a o n h)
theorem But.of {b : Addr} {H H' : Hp} (x : Same H H') : But b H H' := fun a o _ h => x a o h
theorem But.new {b p : Addr} {H : Hp} {o : HO} (h : H p = none) : But b H (upd H p o) := fun a u _ e => by
  rw [upd_ne (ne_of_none e h)]
  exact e
theorem But.at {b : Addr} {H : Hp} {o : HO} : But b H (upd H b o) := fun a u n e => by
  rw [upd_ne n]
  exact e
theorem But.seqL {K : PySem.W.Frag} {b a : Addr} {H H' : Hp} {xs : List V} (x : But b H H') (n : a ≠ b) (h : SqL K H a xs) : SqL K H' a xs := by
  rcases h with (h | ⟨o, h⟩) | h
  · exact .inl (.inl (x _ _ n h))
  · exact .inl (.inr ⟨o, x _ _ n h⟩)
  · exact .inr h
theorem But.seqT {K : PySem.W.Frag} {b a : Addr} {H H' : Hp} {xs : List V} (x : But b H H') (n : a ≠ b) (h : SqT K H a xs) : SqT K H' a xs := by
  rcases h with (h | ⟨o, h⟩) | h
  · exact .inl (.inl (x _ _ n h))
  · exact .inl (.inr ⟨o, x _ _ n h⟩)
  · exact .inr h
theorem _root_.L2.Same.seqT {K : PySem.W.Frag} {a : Addr} {H H' : Hp} {xs : List V} (x : Same H H') (h : SqT K H a xs) : SqT K H' a xs := by
  rcases h with (h | ⟨o, h⟩) | h
  · exact .inl (.inl (x _ _ h))
  · exact .inl (.inr ⟨o, x _ _ h⟩)
  · exact .inr h
theorem _root_.L2.Same.new {p : Addr} {H : Hp} {o : HO} (h : H p = none) : Same H (upd H p o) := fun a u e => by
  rw [upd_ne (ne_of_none e h)]
  exact e
theorem upd_seqT {K : PySem.W.Frag} {a p : Addr} {H : Hp} {o : HO} {xs : List V} (n : H p = none) (h : SqT K H a xs) : SqT K (upd H p o) a xs := (L2.Same.new n).seqT h
theorem upd_seqL {K : PySem.W.Frag} {a p : Addr} {H : Hp} {o : HO} {xs : List V} (n : H p = none) (h : SqL K H a xs) : SqL K (upd H p o) a xs := (L2.Same.new n).seq h
theorem free_of_but {b p : Addr} {H H' : Hp} (x : But b H H') (n : p ≠ b) (h : H' p = none) : H p = none := by
  cases e : H p with
  | none => rfl
  | some o =>
    rw [x p o n e] at h
    cases h
theorem But.get {a b : Addr} {H H' : Hp} {o : HO} (x : But b H H') (n : a ≠ b) (h : H a = some o) : H' a = some o := x a o n h
theorem _root_.L2.Same.get {a : Addr} {H H' : Hp} {o : HO} (x : Same H H') (h : H a = some o) : H' a = some o := x a o h
theorem upd_get {a p : Addr} {H : Hp} {o u : HO} (n : H p = none) (h : H a = some u) : upd H p o a = some u := by
  rw [upd_ne (ne_of_none h n)]
  exact h
theorem upd_get' {a p : Addr} {H : Hp} {o u : HO} (n : a ≠ p) (h : H a = some u) : upd H p o a = some u := by
  rw [upd_ne n]
  exact h
theorem ne_fresh {a p : Addr} {H : Hp} {o : HO} (n : H p = none) (h : H a = some o) : a ≠ p := ne_of_none h n
theorem upd_free {a p : Addr} {H : Hp} {o : HO} (n : a ≠ p) (h : H a = none) : upd H p o a = none := by
  rw [upd_ne n]
  exact h
theorem upd_free2 {a p : Addr} {H : Hp} {o : HO} (h : upd H p o a = none) : H a = none ∧ a ≠ p := by
  have n : a ≠ p := fun e => by
    rw [e, upd_same] at h
    cases h
  rw [upd_ne n] at h
  exact ⟨h, n⟩
theorem _root_.L2.Same.mut {H H' : Hp} {p : Addr} {o : HO} (s : Same H H') (n : H p = none) : Same H (upd H' p o) := fun a u e => by
  rw [upd_ne (ne_of_none e n)]
  exact s a u e
theorem But.mut {b p : Addr} {H H' : Hp} {o : HO} (s : But b H H') (n : H p = none) : But b H (upd H' p o) := fun a u m e => by
  rw [upd_ne (ne_of_none e n)]
  exact s a u m e
theorem lt_line {n : Nat} (h : n < 1000000) : n < sizeLine := Nat.lt_of_lt_of_le h (by decide)
theorem le_line {n : Nat} (h : n ≤ 1000000) : n ≤ sizeLine := Nat.le_trans h (by decide)
theorem ixN_of {n j : Nat} {i : Int} (e : i = (j : Int)) (h : j < n) : ixN n i = some j := by
  subst e
  unfold ixN
  rw [if_pos (by omega), if_pos (by omega)]
  simp
theorem ixN_lt {n j : Nat} {i : Int} (e : i = (j : Int)) (h : Nat.blt j n = true) : ixN n i = some j := ixN_of e (by simpa using h)
theorem atI_of {α : Type} {xs : List α} {i : Int} {j : Nat} {v : α} (e : i = (j : Int)) (h : xs[j]? = some v) : atI xs i = some v := by
  unfold atI
  rw [ixN_of e (List.getElem?_eq_some_iff.mp h).1]
  exact h
theorem atI_ex {α : Type} {xs : List α} {i : Int} (h0 : 0 ≤ i) (h1 : i < xs.length) : ∃ v, atI xs i = some v ∧ v ∈ xs := by
  have hj : i.toNat < xs.length := by omega
  exact ⟨xs[i.toNat], atI_of (j := i.toNat) (by omega) (List.getElem?_eq_getElem hj), List.getElem_mem hj⟩
/-! ### texts -/
open TL in
theorem joinL_nil : ∀ ps : List (List Nat), joinL [] ps = ps.flatten
  | [] => rfl
  | [p] => by simp [joinL]
  | p :: q :: r => by
    show p ++ ([] ++ joinL [] (q :: r)) = (p :: q :: r).flatten
    rw [joinL_nil (q :: r)]
    simp
open TL in
theorem join_flat (ys : List Str) : (Txt.join ("" : Str) ys).cps.toList = (ys.map fun y => y.cps.toList).flatten := by
  rw [join_eq]
  have h := tl_join "" ys
  have e : tl ("" : Str) = [] := by decide +kernel
  rw [e, joinL_nil] at h
  exact h
theorem len_cps (s : Str) : s.length = s.cps.toList.length := by simp [Str.length]
/-- texts of one sign each, joined -/
theorem join_ones (f : Nat → Bool) (ys : List Str) (h : ∀ y ∈ ys, ∃ c, y = (⟨#[c]⟩ : Str) ∧ f c = true) : (Txt.join ("" : Str) ys).length = ys.length ∧ (Txt.join ("" : Str) ys).cps.toList.all f = true := by
  rw [len_cps, join_flat]
  induction ys with
  | nil => exact ⟨rfl, rfl⟩
  | cons y r ih =>
    obtain ⟨c, rfl, hc⟩ := h y (List.mem_cons_self ..)
    obtain ⟨i1, i2⟩ := ih fun z hz => h z (List.mem_cons_of_mem _ hz)
    simp only [List.map_cons, List.flatten_cons, List.length_append, List.length_cons, List.all_append, i1, i2]
    simp [hc]
    omega
theorem sum_ones (ys : List Str) (f : Nat → Bool) (h : ∀ y ∈ ys, ∃ c, y = (⟨#[c]⟩ : Str) ∧ f c = true) : (ys.map (·.length)).sum = ys.length := by
  induction ys with
  | nil => rfl
  | cons y r ih =>
    obtain ⟨c, rfl, hc⟩ := h y (List.mem_cons_self ..)
    have := ih fun z hz => h z (List.mem_cons_of_mem _ hz)
    simp only [List.map_cons, List.sum_cons, List.length_cons, this]
    show 1 + r.length = r.length + 1
    omega
theorem mem_int {ns : List Int} {i : Nat} {x : V} (h : (ns.map V.int)[i]? = some x) : ∃ z, ns[i]? = some z ∧ x = .int z ∧ z ∈ ns := by
  rw [List.getElem?_map] at h
  cases e : ns[i]? with
  | none =>
    rw [e] at h
    cases h
  | some z =>
    rw [e] at h
    exact ⟨z, rfl, (Option.some.inj h).symm, List.mem_of_getElem? e⟩
theorem atI_all {ns : List Int} {i : Int} {C : Int → Prop} (h0 : 0 ≤ i) (h1 : i < ns.length) (f : ∀ n ∈ ns, C n) : ∃ n, atI (ns.map V.int) i = some (.int n) ∧ C n := by
  have hj : i.toNat < ns.length := by omega
  refine ⟨ns[i.toNat], atI_of (j := i.toNat) (by omega) ?_, f _ (List.getElem_mem hj)⟩
  rw [List.getElem?_map, List.getElem?_eq_getElem hj]
  rfl
theorem disp {n : Nat} (h : Nat.ble n 1000000 = true) : n ≤ sizeLine := le_line (Nat.le_of_ble_eq_true h)
/-! ### comprehensions whose element changes nothing -/
theorem lcR_go {lo : Int} {n j : Nat} {te : TE} {vs : List Nat} {σ : L2.St} {H1 : Hp} {D : Addr} {Qd : Hp → Prop} (f : Nat → V) (hn : n ≤ 1000000) (hw : ∀ x, wipe ((wipe σ vs).set j (some x)) vs = wipe σ vs)
    (ht : ∀ (i : Nat) (H' : Hp) (Q : VK), i < n → Same H1 H' → Q (f i) H' → te ((wipe σ vs).set j (some (.int (lo + i)))) H' Q) (hD : H1 D = none) (hd : Qd (upd H1 D (.lst ((List.range n).map f)))) :
    ∃ W : Nat → Nat → Hp → Prop, (∃ m, W 0 m (upd H1 D (.lst []))) ∧ ∀ i m H, W i m H →
      ((Itr lo n).stop i H ∧ Qd H) ∨ ((Itr lo n).go i H ∧ ∃ Nx : Hp → Prop, (∀ H', Nx H' → ∃ m', m' < m ∧ W (i + 1) m' H') ∧ ∀ x H', (Itr lo n).yld i H x H' → gName j x (wipe σ vs) H' fun σ2 H2 => wipe σ2 vs = wipe σ vs ∧ tYes σ2 H2 fun b H3 =>
        if b = true then te σ2 H3 fun y H4 => ∃ acc, H4 D = some (.lst acc) ∧ acc.length < sizeLine ∧ Nx (upd H4 D (.lst (acc ++ [y]))) else Nx H3) := by
  refine lc_range (lo := lo) (n := n) (fun i H' => H' = upd H1 D (.lst ((List.range i).map f))) rfl (fun i H' hi e => ?_) (fun H' e => by rw [e]; exact hd)
  subst e
  refine ⟨hw _, ?_⟩
  unfold tYes
  refine brT rfl ?_
  refine ht i _ _ hi (Same.new hD) ⟨_, upd_same, by rw [List.length_map, List.length_range]; exact lt_line (by omega), ?_⟩
  rw [upd_upd, List.range_succ, List.map_append]
  rfl
theorem lcL_go {K : PySem.W.Frag} {p : Addr} {xs : List V} {j : Nat} {te : TE} {vs : List Nat} {σ : L2.St} {H1 : Hp} {D : Addr} {Qd : Hp → Prop} (f : V → V) (hn : xs.length ≤ 1000000) (hw : ∀ x, wipe ((wipe σ vs).set j (some x)) vs = wipe σ vs) (hS : SqL K H1 p xs)
    (ht : ∀ (x : V) (H' : Hp) (Q : VK), x ∈ xs → Same H1 H' → Q (f x) H' → te ((wipe σ vs).set j (some x)) H' Q) (hD : H1 D = none) (hd : Qd (upd H1 D (.lst (xs.map f)))) :
    ∃ W : Nat → Nat → Hp → Prop, (∃ m, W 0 m (upd H1 D (.lst []))) ∧ ∀ i m H, W i m H →
      ((Itl K p).stop i H ∧ Qd H) ∨ ((Itl K p).go i H ∧ ∃ Nx : Hp → Prop, (∀ H', Nx H' → ∃ m', m' < m ∧ W (i + 1) m' H') ∧ ∀ x H', (Itl K p).yld i H x H' → gName j x (wipe σ vs) H' fun σ2 H2 => wipe σ2 vs = wipe σ vs ∧ tYes σ2 H2 fun b H3 =>
        if b = true then te σ2 H3 fun y H4 => ∃ acc, H4 D = some (.lst acc) ∧ acc.length < sizeLine ∧ Nx (upd H4 D (.lst (acc ++ [y]))) else Nx H3) := by
  refine lc_list (xs := xs) (fun i H' => H' = upd H1 D (.lst ((xs.take i).map f))) rfl (fun i H' _ e => by rw [e]; exact (Same.new hD).seq hS) (fun i x H' hx e => ?_) (fun H' e => by rw [e, List.take_length]; exact hd)
  subst e
  refine ⟨hw _, ?_⟩
  unfold tYes
  refine brT rfl ?_
  have hi := (List.getElem?_eq_some_iff.mp hx).1
  refine ht x _ _ (List.mem_of_getElem? hx) (Same.new hD) ⟨_, upd_same, by rw [List.length_map, List.length_take]; exact lt_line (by omega), ?_⟩
  rw [upd_upd, List.take_add_one, hx, List.map_append]
  rfl
theorem flat_rep {α : Type} (k : Nat) (x : α) : (List.replicate k [x]).flatten = List.replicate k x := by
  induction k with
  | zero => rfl
  | succ k ih =>
    rw [List.replicate_succ, List.flatten_cons, ih, List.replicate_succ]
    rfl
/-! ### readings, one step -/
section
variable {K : PySem.W.Frag} {H : Hp} {p l q' : Addr} {xs ys : List V} {i : Int} {j : Nat} {v y : V} {Q : VK} {R : Hp → Prop}
theorem ixL_go (h : SqL K H p xs) (e : atI xs i = some v) (q : Q v H) : rIxL K (.ref p) (.int i) H Q := ⟨p, xs, i, v, rfl, rfl, h, e, q⟩
theorem ixT_go (h : SqT K H p xs) (e : atI xs i = some v) (q : Q v H) : rIxT K (.ref p) (.int i) H Q := ⟨p, xs, i, v, rfl, rfl, h, e, q⟩
theorem setL_go (h : H p = some (.lst xs)) (e : ixN xs.length i = some j) (q : R (upd H p (.lst (xs.set j v)))) : rSetL (.ref p) (.int i) v H R := ⟨p, xs, i, j, rfl, rfl, h, e, q⟩
theorem app_go (h : H p = some (.lst xs)) (hl : xs.length < 1000000) (q : Q .non (upd H p (.lst (xs ++ [y])))) : rAppend (.ref p) [y] H Q := ⟨p, xs, y, rfl, rfl, h, lt_line hl, q⟩
theorem cat_go (h : H p = some (.lst xs)) (h' : H l = some (.lst ys)) (hl : xs.length + ys.length ≤ 1000000) (q : ∀ r, H r = none → Q (.ref r) (upd H r (.lst (xs ++ ys)))) : rCat (.ref p) (.ref l) H Q := ⟨p, l, xs, ys, rfl, rfl, h, h', le_line hl, q⟩
end
end Al
/-! ## rules under a token given out (1 ≤ s.toks): for what compares the identity of written texts -/
namespace Al
open PySem PySem.Spec PyProof.Rows L2 CwR
theorem thnT {α : Type} {t : Sem α} {Q Q' : α → Shared → Prop} {M : Model} {A : Around} {E : Value → Shared → Prop} {s : Shared} (h0 : 1 ≤ s.toks) (h : wpAny M A t Q E s) (hQ : ∀ a s', 1 ≤ s'.toks → Q a s' → Q' a s') : wpAny M A t Q' E s :=
  wpAny_mono (PySem.wpAny_toks_of h0 h) (fun a s' x => hQ a s' x.1 x.2) fun _ _ x => x.2
def PTT (X : Cx) (e : Expr) (t : TT) : Prop := ∀ (pins : List (Addr × Obj)) (s : Shared) (σ : L2.St) (H : Hp) (Q : Bool → Hp → Prop), 1 ≤ s.toks → Inv X pins σ H s → t σ H Q → wpAny (model X.prog X.w) X.A (isTrue e X.env (eval e X.env)) (TP X pins σ Q) X.xe s
def PWT (X : Cx) (e : Expr) (t : TT) : Prop := ∀ (whole : Sem Value) (pins : List (Addr × Obj)) (s : Shared) (σ : L2.St) (H : Hp) (Q : Bool → Hp → Prop), 1 ≤ s.toks → Inv X pins σ H s → t σ H Q → wpAny (model X.prog X.w) X.A (isTrue e X.env whole) (TP X pins σ Q) X.xe s
def PKT (X : Cx) (kws : List Keyword) (t : TA) : Prop := ∀ (pos : Pos) (pins : List (Addr × Obj)) (s : Shared) (σ : L2.St) (H : Hp) (Q : List V → Hp → Prop), 1 ≤ s.toks → PK X kws t
section
variable {X : Cx} {e a b : Expr} {te ta tb : TE} {t u : TS} {tt tu : TT} {pos : Pos} {st : Stmt} {rest : List Stmt} {es r : List Expr}
theorem PTT.of (h : PT X e tt) : PTT X e tt := fun pins s σ H Q _ I q => h.run pins s σ H Q I q
theorem PWT.ptt (h : PWT X e tt) : PTT X e tt := h _
theorem PWT.of (h : PW X e tt) : PWT X e tt := fun wh pins s σ H Q _ I q => h.run wh pins s σ H Q I q
theorem PAT.of {ta : TA} (h : PA X es ta) : PAT X es ta := fun pos pins s σ H Q _ I q => h.run pos pins s σ H Q I q
theorem ptt_val (h : PET X e te) (he : ∀ whole, isTrue e X.env whole = (do let v ← whole; standAt e.pos; holding [v] (truthy v)) := by intro _; rfl) : PTT X e (tB te) := by
  intro pins s σ H Q h0 I hw
  refine isTrue_plain (thn (h pins s σ H _ h0 I hw) fun v s1 ⟨x, H1, I1, r1, q1⟩ => ?_) (he _)
  obtain ⟨d, rfl, q⟩ := q1
  cases r1
  exact wpAny_truthy_bool ⟨H1, I1, q⟩
theorem ptt_not (ha : PTT X a tt) : PTT X (.UnaryOp .Not a pos) (tNot tt) := fun pins s σ H Q h0 I h => isTrue_not (ha pins s σ H (fun c H1 => Q (!c) H1) h0 I h)
theorem pwt_and1 (ha : PTT X a tt) : PWT X (.BoolOp .And [a] pos) tt := by
  intro wh pins s σ H Q h0 I h
  refine isTrue_and (thn (ha pins s σ H Q h0 I h) fun c s1 e => ?_)
  cases c with
  | true => exact isTrue_and_nil e
  | false => exact e
theorem pwt_or1 (ha : PTT X a tt) : PWT X (.BoolOp .Or [a] pos) tt := by
  intro wh pins s σ H Q h0 I h
  refine isTrue_or (thn (ha pins s σ H Q h0 I h) fun c s1 e => ?_)
  cases c with
  | false => exact isTrue_or_nil e
  | true => exact e
theorem pwt_and (ha : PTT X a tt) (hb : PWT X (.BoolOp .And (b :: r) pos) tu) : PWT X (.BoolOp .And (a :: b :: r) pos) (tAnd tt tu) := by
  intro wh pins s σ H Q h0 I h
  refine isTrue_and (thnT h0 (ha pins s σ H _ h0 I h) fun c s1 h1 ⟨H1, I1, q1⟩ => ?_)
  cases c with
  | true => exact hb wh pins s1 σ H1 Q h1 I1 q1
  | false => exact ⟨H1, I1, q1⟩
theorem pwt_or (ha : PTT X a tt) (hb : PWT X (.BoolOp .Or (b :: r) pos) tu) : PWT X (.BoolOp .Or (a :: b :: r) pos) (tOr tt tu) := by
  intro wh pins s σ H Q h0 I h
  refine isTrue_or (thnT h0 (ha pins s σ H _ h0 I h) fun c s1 h1 ⟨H1, I1, q1⟩ => ?_)
  cases c with
  | true => exact ⟨H1, I1, q1⟩
  | false => exact hb wh pins s1 σ H1 Q h1 I1 q1
theorem pet_one {op} (h : PET X a te) : PET X (.BoolOp op [a] pos) te := fun pins s σ H Q h0 I hw => BoolOp_one (h pins s σ H Q h0 I hw)
theorem pet_and (ha : PET X a ta) (hb : PET X (.BoolOp .And (b :: r) pos) tb) : PET X (.BoolOp .And (a :: b :: r) pos) (tAndV ta tb) := by
  intro pins s σ H Q h0 I h
  refine BoolOp_and (thnT h0 (ha pins s σ H _ h0 I h) fun v s1 h1 ⟨x, H1, I1, r1, q1⟩ => ?_)
  obtain ⟨c, rfl, q1⟩ := q1
  cases r1
  refine wpAny_truthy_bool ?_
  cases c with
  | true => exact hb pins s1 σ H1 Q h1 I1 q1
  | false => exact ⟨.bl false, H1, I1, rfl, q1⟩
theorem pet_or (ha : PET X a ta) (hb : PET X (.BoolOp .Or (b :: r) pos) tb) : PET X (.BoolOp .Or (a :: b :: r) pos) (tOrV ta tb) := by
  intro pins s σ H Q h0 I h
  refine BoolOp_or (thnT h0 (ha pins s σ H _ h0 I h) fun v s1 h1 ⟨x, H1, I1, r1, q1⟩ => ?_)
  obtain ⟨c, rfl, q1⟩ := q1
  cases r1
  refine wpAny_truthy_bool ?_
  cases c with
  | false => exact hb pins s1 σ H1 Q h1 I1 q1
  | true => exact ⟨.bl true, H1, I1, rfl, q1⟩
theorem pet_not (ha : PET X a ta) : PET X (.UnaryOp .Not a pos) (tNotV ta) := by
  intro pins s σ H Q h0 I h
  refine UnaryOp_ (thn (ha pins s σ H _ h0 I h) fun v s1 ⟨x, H1, I1, r1, q1⟩ => ?_)
  obtain ⟨c, rfl, q1⟩ := q1
  cases r1
  exact not_of (wpAny_truthy_bool ⟨.bl (!c), H1, I1, rfl, q1⟩)
theorem pet_cmpR {op : CmpOp} {r : R2} (ho : OpR X (compareOp op) r) (ha : PET X a ta) (hb : PET X b tb) (hm : behindInMarks op b = false) : PET X (.Compare a [op] [b] pos) (tOp r ta tb) := by
  intro pins s σ H Q h0 I h
  exact wpAny_Compare1 (thnT h0 (ha pins s σ H _ h0 I h) fun v s1 h1 ⟨x, H1, I1, r1, q1⟩ => thn (hb pins s1 σ H1 _ h1 I1 q1) fun u s2 ⟨y, H2, I2, r2, q2⟩ => ho pins s2 σ H2 x y v u Q I2 r1 r2 q2) hm
theorem ptt_cmpR {op : CmpOp} {r : R2} (ho : OpR X (compareOp op) r) (ha : PET X a ta) (hb : PET X b tb) (hm : behindInMarks op b = false) : PTT X (.Compare a [op] [b] pos) (tTest (tOp r ta tb)) := by
  intro pins s σ H Q h0 I h
  refine wpAny_isTrue_Compare1 (thnT h0 (ha pins s σ H _ h0 I h) fun v s1 h1 ⟨x, H1, I1, r1, q1⟩ => thn (hb pins s1 σ H1 _ h1 I1 q1) fun u s2 ⟨y, H2, I2, r2, q2⟩ =>
    thn (ho pins s2 σ H2 x y v u _ I2 r1 r2 q2) fun c s3 ⟨z, H3, I3, r3, k, e, q3⟩ => ?_) hm
  subst e
  cases r3
  exact wpAny_truthy_bool ⟨H3, I3, q3⟩
theorem pet_bm0 {T : String} {name : Str} {id : String} {r' : V → List V → Hp → VK → Prop} {o : Expr} {to : TE} {apos cpos : Pos} (pa : PlainAttrs T) (slot : Slot T name id) (hty : typeOf (.builtin id) = pure (.type "method_descriptor")) (hm : MtR X id r') (ho : PET X o to)
    (hbase : attributeBase o name X.env (eval o X.env) = eval o X.env := by rfl) (hline : (apos.endLine == cpos.line) = true := by rfl) : PET X (.Call (.Attribute o name apos) [] [] cpos) (tBM0 X.K T r' to) := by
  intro pins s σ H Q h0 I h
  refine wpAny_Call_method0_late hbase hline (thn (ho pins s σ H _ h0 I h) fun v s1 ⟨x, H1, I1, r1, ty, q1⟩ => ?_)
  obtain ⟨h1, h2⟩ := tyV_is I1 r1 ty
  exact ⟨T, id, pa, slot, hty, h1, h2, Calls.callWith_builtin rfl (PySem.evalArgs_none (hm pins s1 σ H1 x [] v [] Q I1 r1 .nil q1))⟩
theorem pst_ifT {c : Expr} {x y : List Stmt} (hc : PTT X c tt) (ha : PSsT X x t) (hb : PSsT X y u) : PST X (.If c x y pos) (tIfS tt t u) := by
  intro pins s σ H D h0 I h
  refine wpAny_If (thnT h0 (hc pins s σ H _ h0 I h) fun d s1 hk ⟨H1, I1, q1⟩ => ?_)
  cases d with
  | true => exact ha pins s1 σ H1 D hk I1 q1
  | false => exact hb pins s1 σ H1 D hk I1 q1
theorem pst_expr (he : PET X e te) (hs : swapsWith e none pos.line X.env = pure false := by rfl) : PST X (.Expr e pos) (tDrop te) := fun pins s σ H D h0 I h =>
  wpAny_Expr_any (thn (he pins s σ H _ h0 I h) fun v s1 ⟨x, H1, I1, r1, q1⟩ => ⟨σ, H1, I1, q1⟩) I.quiet hs
theorem pst_set {i : Nat} {x : Str} {pos' : Pos} (hN : X.N.Nodup) (hi : X.N[i]? = some x) (hx : Loc X.env.scope x) (he : PET X e te) (hs : swapsWith e (some (.Name x pos')) pos.line X.env = pure false := by rfl) (hf : X.fn x = true ∨ X.env.scope.names.lookup x = some .local := by first | exact .inl rfl | exact .inr rfl | assumption) :
    PST X (.Assign [.Name x pos'] e pos) (tAsg te (gName i)) := fun pins s σ H D h0 I h =>
  wpAny_Assign_Name (thn (he pins s σ H _ h0 I h) fun v s1 ⟨y, H1, I1, r1, q1⟩ => store_ok I1 hN hi hx r1 (fun s2 I2 => ⟨_, H1, I2, q1⟩) hf) hs
theorem psst_cut (h1 : PST X st t) (h2 : PSsT X rest u) : PSsT X (st :: rest) (Evl.tCut t u) := by
  intro pins s σ H D h0 I h
  obtain ⟨Mid, hm, hu⟩ := h
  refine wpAny_execs_cons (thnT h0 (h1 pins s σ H { D with nx := Mid } h0 I hm) fun f s1 hk q => ?_)
  cases f with
  | next =>
    obtain ⟨σ', H', I', q⟩ := q
    exact h2 pins s1 σ' H' D hk I' (hu σ' H' q)
  | ret v => exact q
  | brk => exact q
  | cont => exact q
/-- for, one token out: within the body, too -/
theorem pst_forT {tg iter : Expr} {body : List Stmt} {wi : TI} {g : TG} {tb : TS} (hp : PassesOwn (model X.prog X.w) X.A X.env X.xe) (hc : X.calm = true) (hi : PIT X tg iter wi) (hg : PG X tg g) (hb : PSsT X body tb)
    (hs : ∀ x, foldedSetIterable iter X.env x = pure x := by intro _; rfl) : PST X (.For tg iter body [] pos) (tFor wi g tb) := by
  intro pins s σ H D h0 I h
  refine wpAny_For (thnT h0 (hi pins s σ H _ h0 I h) fun v s1 k1 h1 => thnT k1 h1 fun itv s2 k2 h2 => ?_) hs
  obtain ⟨it, fp, tn, J, H2, e, I2, T, st2, f2, W, ⟨m0, w0⟩, turn⟩ := h2
  subst e
  have stat : ∀ {H' : Hp}, (∀ b ∈ fp, H' b = none) → ∀ b ∈ fp, FpOk X pins H' b := fun hn b hb => ⟨hn b hb, (f2 b hb).2⟩
  refine codeAny_forLoop_any (fun n s' => ∃ i σ' H', 1 ≤ s'.toks ∧ Inv X pins σ' H' s' ∧ tn i s'.heap ∧ (∀ b ∈ fp, H' b = none) ∧ W i n σ' H') ?_ m0 ⟨0, σ, H2, k2, I2, st2, fun b hb => (f2 b hb).1, w0⟩
  rintro n s3 ⟨i, σ3, H3, k3, I3, st3, fr3, w3⟩
  rcases turn i n σ3 H3 w3 with ⟨stop, qn⟩ | ⟨go, N, hN, step⟩
  · refine wpAny_passesOwn hp (thn (T.done X rfl rfl rfl hc i pins s3 σ3 H3 X.xe I3 (stat fr3) st3 stop) fun r s4 ⟨hr, I4⟩ => ?_)
    subst hr
    exact wpAny_execs_nil ⟨σ3, H3, I4, qn⟩
  · refine wpAny_passesOwn hp (thnT k3 (T.item X rfl rfl rfl hc i pins s3 σ3 H3 X.xe I3 (stat fr3) st3 go) fun r s4 k4 ⟨u, hr, h4⟩ => ?_)
    subst hr
    refine wpAny_passesOwn hp (thnT k4 h4 fun _ s5 k5 ⟨x, H5, I5, r5, y5, st5, fr5⟩ => ?_)
    have I5' := I5.pinned (stat fr5) (T.obj _ _ st5)
    refine wpAny_passesOwn hp (thnT k5 (hg.run _ s5 σ3 H5 x u _ I5' r5 (step x H5 y5)) fun _ s6 k6 ⟨σ6, H6, I6, q6⟩ => ?_)
    refine wpAny_passesOwn hp (thnT k6 (hb _ s6 σ6 H6 _ k6 I6 q6) fun f s7 k7 q7 => ?_)
    have again : ∀ {σ7 : L2.St} {H7 : Hp}, Inv X (pins ++ pinsAt fp s5.heap) σ7 H7 s7 → N σ7 H7 → ∃ m, m < n ∧ ∃ i σ' H', 1 ≤ s7.toks ∧ Inv X pins σ' H' s7 ∧ tn i s7.heap ∧ (∀ b ∈ fp, H' b = none) ∧ W i m σ' H' := fun {σ7 H7} I7 n7 => by
      obtain ⟨m', hm, w7⟩ := hN σ7 H7 n7
      refine ⟨m', hm, i + 1, σ7, H7, k7, I7.unpinned, T.keep _ _ _ st5 fun b hb o e => (I7.pin (b, o) (List.mem_append_right _ (List.mem_append_right _ (mem_pinsAt hb e)))).1, fun b hb => ?_, w7⟩
      obtain ⟨o, e, d⟩ := T.obj _ _ st5 b hb
      exact (I7.pin (b, o) (List.mem_append_right _ (List.mem_append_right _ (mem_pinsAt hb e)))).2.1
    cases f with
    | next => obtain ⟨σ7, H7, I7, n7⟩ := q7; exact again I7 n7
    | cont => obtain ⟨σ7, H7, I7, n7⟩ := q7; exact again I7 n7
    | brk => obtain ⟨σ7, H7, I7, q7⟩ := q7; exact ⟨σ7, H7, I7.unpinned, q7⟩
    | ret v => obtain ⟨x7, σ7, H7, I7, r7, q7⟩ := q7; exact ⟨x7, σ7, H7, I7.unpinned, r7, q7⟩
theorem PIT.of {tg it : Expr} {wi : TI} (h : PI X tg it wi) : PIT X tg it wi := fun pins s σ H R _ I q => h.run pins s σ H R I q
end
/-- a def's promise, kept where a token is out -/
structure FnOkN (n : Nat) (P : Program) (w : World) (K : PySem.W.Frag) (mg : Str → Option Value) (base : Heap) (CX : CXT) (k : Nat) (f : Addr) (fd : FuncData) (ps : List Str) (sp : Sp) : Prop where
  len : ∀ vs H Q E, sp vs H Q E → vs.length = ps.length
  run : ∀ (A : Around) (outer : List Env) (s : Shared) (H : Hp) (args : Args) (us : List Value) (vs : List V) (Q : VK) (E : XK), n ≤ s.toks → A.guards = some [] → Room k A → Env0 P w K mg base A outer s H → BindsTo s fd args (ps.zip us) → Vals vs us → sp vs H Q E →
    codeAny (model P w) A (.call (.ref f) args) (CR CX outer P w H s Q E) s
section
variable {CX : CXT} {P : Program} {w : World} {K : PySem.W.Frag} {mg : Str → Option Value} {base : Heap} {k : Nat} {f : Addr}
theorem fn_ofN {n : Nat} {name qual : Str} {params : Arguments} {body : List Stmt} {scope : Scope} {dV kV doc pm cdv ct oc : Value} {an od : Option Addr}
    {osl : Array (Option Value)} {N ps : List Str} {sp : Sp} (lk : K.lookup f = some ⟨oc, od, .func (PySem.W.fnOf name qual params body scope dV kV doc pm an cdv ct), osl⟩) (hcd : PySem.W.codeIn K cdv qual = true) (S : FnScope N ps scope)
    (len : ∀ vs H Q E, sp vs H Q E → vs.length = ps.length)
    (hbody : ∀ (A : Around) (outer : List Env) (s : Shared) (H : Hp) (vs : List V) (Q : VK) (E : XK), A.guards = some [] → Room k (A.deeper (envOfC qual scope s.heap.objs.size f cdv)) → sp vs H Q E →
      ∃ t : TS, (∀ (pins : List (Addr × Obj)) (s' : Shared) (σ : L2.St) (H' : Hp) (D : Ends), n ≤ s'.toks → Inv (cxOf CX P w K mg base N qual scope f cdv A outer s H E) pins σ H' s' → t D σ H' → wpAny (model P w) (cxOf CX P w K mg base N qual scope f cdv A outer s H E).A (execs body (cxOf CX P w K mg base N qual scope f cdv A outer s H E).env) (SP (cxOf CX P w K mg base N qual scope f cdv A outer s H E) pins D) (cxOf CX P w K mg base N qual scope f cdv A outer s H E).xe s') ∧ t { nx := fun _ H' => Q .non H', rt := Q } (start N vs) H) :
    FnOkN n P w K mg base CX (k + 1) f (PySem.W.fnOf name qual params body scope dV kV doc pm an cdv ct) ps sp := by
  refine ⟨len, fun A outer s H args us vs Q E htk hg hr e0 hb r hsp => ?_⟩
  have hl := len _ _ _ _ hsp
  have KX : K.In s.heap := e0.mod.kin.keeps fun b o e => (e0.bs b o e).1
  have lim : s.heap.NoLimit := e0.mod.nolimit.keeps fun b o e => (e0.bs b o e).1
  have hkind : ∀ y ∈ ps.zip us, scope.names.lookup y.1 = some .local ∨ (scope.names.lookup y.1 = some .cell ∧ ((cellsFrom (s.heap.objs.size + 1) scope.names []).lookup y.1).isSome = true) := fun ⟨n, v⟩ hy => by
    rcases S.par n (List.of_mem_zip hy).1 with q | q
    · exact .inl q
    · exact .inr ⟨q, PySem.W.cellsFrom_some _ _ _ (.inl q)⟩
  refine codeAny_call_function hr.depth (KX _ _ lk) rfl S.co S.gen rfl (PySem.W.codeRec_of KX hcd) (hb _ _ _ _ ?_)
  refine PySem.wpAny_with_toks htk ?_
  refine wpAny_newFunctionEnv_cells S.kind hkind fun env he s1 x hk1 => ?_
  subst he
  refine ⟨lim.keeps x.toInCall.keep, codeAny_func ?_⟩
  obtain ⟨t, ht, hq⟩ := hbody A outer s H vs Q E hg (hr.deeper _) hsp
  have I : Inv (cxOf CX P w K mg base N qual scope f cdv A outer s H E) [] (start N vs) H s1 := inv_start S hr.hd e0 hl r x
  refine wpAny_mono (ht [] s1 (start N vs) H _ hk1 I hq) (fun fl s' hs => ?_) fun e s' hs => hs
  have fin : ∀ {σ' : L2.St} {H' : Hp} {v : V} {u : Value}, Inv (cxOf CX P w K mg base N qual scope f cdv A outer s H E) [] σ' H' s' → RelV v u → Q v H' → CE outer P w H s Q u s' :=
    fun {σ' H' v u} J rv q => ⟨v, H', J.os, J.bare, J.base, J.hok, rv, q⟩
  cases fl with
  | ret u =>
    obtain ⟨v, σ', H', J, rv, q⟩ := hs
    exact fin J rv q
  | next =>
    obtain ⟨σ', H', J, q⟩ := hs
    exact fin (v := V.non) (u := Value.none) J rfl q
  | brk =>
    obtain ⟨_, _, _, q⟩ := hs
    exact False.elim q
  | cont =>
    obtain ⟨_, _, _, q⟩ := hs
    exact False.elim q
/-- as Fun.ok, Fun.okX, under a token -/
theorem _root_.L2.Fun.okT {x qual : Str} {st : Stmt} {f : Addr} {fd : FuncData} {N ps : List Str} {k : Nat} {sp : Sp} (F : Fun K x qual st f fd) (S : FnScope N ps (defScope st)) (len : ∀ vs H Q E, sp vs H Q E → vs.length = ps.length)
    (hbody : ∀ (cdv : Value) (A : Around) (outer : List Env) (s : Shared) (H : Hp) (vs : List V) (Q : VK) (E : XK), A.guards = some [] → Room k (A.deeper (envOfC qual (defScope st) s.heap.objs.size f cdv)) → sp vs H Q E →
      ∃ t, PSsT (cxOf CX P w K mg base N qual (defScope st) f cdv A outer s H E) (defBody st) t ∧ t { nx := fun _ H' => Q .non H', rt := Q } (start N vs) H) : FnOkN 1 P w K mg base CX (k + 1) f fd ps sp := by
  obtain ⟨oc, od, kV, doc, pm, an, cdv, ct, osl, rfl, lk, hcd⟩ := F.ex
  exact fn_ofN lk hcd S len fun A outer s H vs Q E hg hr hsp => hbody cdv A outer s H vs Q E hg hr hsp
/-- .. where no token is asked for, but that no repr is under way -/
theorem _root_.L2.Fun.okG {x qual : Str} {st : Stmt} {f : Addr} {fd : FuncData} {N ps : List Str} {k : Nat} {sp : Sp} (F : Fun K x qual st f fd) (S : FnScope N ps (defScope st)) (len : ∀ vs H Q E, sp vs H Q E → vs.length = ps.length)
    (hbody : ∀ (cdv : Value) (A : Around) (outer : List Env) (s : Shared) (H : Hp) (vs : List V) (Q : VK) (E : XK), A.guards = some [] → Room k (A.deeper (envOfC qual (defScope st) s.heap.objs.size f cdv)) → sp vs H Q E →
      ∃ t, PSs (cxOf CX0 P w K mg base N qual (defScope st) f cdv A outer s H E).nox (defBody st) t ∧ t { nx := fun _ H' => Q .non H', rt := Q } (start N vs) H) : FnOkN 0 P w K mg base CX0 (k + 1) f fd ps sp := by
  obtain ⟨oc, od, kV, doc, pm, an, cdv, ct, osl, rfl, lk, hcd⟩ := F.ex
  refine fn_ofN lk hcd S len fun A outer s H vs Q E hg hr hsp => ?_
  obtain ⟨t, h, q⟩ := hbody cdv A outer s H vs Q E hg hr hsp
  exact ⟨t, fun pins s σ H D _ I z => h.nox.run pins s σ H D I z, q⟩
/-- .. a def that lets no exception out, with loops -/
theorem _root_.L2.Fun.okT0 {x qual : Str} {st : Stmt} {f : Addr} {fd : FuncData} {N ps : List Str} {k : Nat} {sp : Sp} (F : Fun K x qual st f fd) (S : FnScope N ps (defScope st)) (len : ∀ vs H Q E, sp vs H Q E → vs.length = ps.length)
    (hbody : ∀ (cdv : Value) (A : Around) (outer : List Env) (s : Shared) (H : Hp) (vs : List V) (Q : VK) (E : XK), A.guards = some [] → Room k (A.deeper (envOfC qual (defScope st) s.heap.objs.size f cdv)) → sp vs H Q E →
      ∃ t, PSsT (cxOf CX0 P w K mg base N qual (defScope st) f cdv A outer s H E).nox (defBody st) t ∧ t { nx := fun _ H' => Q .non H', rt := Q } (start N vs) H) : FnOkN 1 P w K mg base CX0 (k + 1) f fd ps sp := by
  obtain ⟨oc, od, kV, doc, pm, an, cdv, ct, osl, rfl, lk, hcd⟩ := F.ex
  refine fn_ofN lk hcd S len fun A outer s H vs Q E hg hr hsp => ?_
  obtain ⟨t, h, q⟩ := hbody cdv A outer s H vs Q E hg hr hsp
  exact ⟨t, fun pins s σ H D h0 I z => wpAny_mono (h pins s σ H D h0 (I.wish _) z) (fun _ _ q => q.unwish) fun _ _ z => False.elim z, q⟩
end
abbrev FnOkT := FnOkN 1
theorem FnOkN.of {n : Nat} {P : Program} {w : World} {K : PySem.W.Frag} {mg : Str → Option Value} {base : Heap} {CX : CXT} {k : Nat} {f : Addr} {fd : FuncData} {ps : List Str} {sp : Sp} (F : FnOk P w K mg base CX k f fd ps sp) : FnOkN n P w K mg base CX k f fd ps sp :=
  ⟨F.len, fun A outer s H args us vs Q E _ _ => F.run A outer s H args us vs Q E⟩
section
variable {X : Cx} {CX : CXT} {k n : Nat} {f : Addr} {fd : FuncData} {ps ks : List Str} {sp : Sp} {dvs : List V} {ds : List Value} {E : XK} {ES : L2.St → XK} {x : Str} {p pos : Pos} {e : Expr} {es : List Expr} {t tk : TA} {kws : List Keyword}
  {g : List Value → List Value → List Value} {gV : List V → List V → List V} {pins : List (Addr × Obj)} {σ : L2.St} {H : Hp} {s : Shared} {Q : VK} {us ws : List Value} {vs zs : List V}
theorem run_fnT (F : FnOkT X.prog X.w X.K X.mg X.base CX k f fd ps sp) (hr : Room k X.A) (hb : Binds X.K fd ps ds) (hd : Vals dvs ds) (hx : Passes CX X E)
    (h0 : 1 ≤ s.toks) (hgd : X.A.guards = some []) (I : Inv X pins σ H s) (r : Vals vs us) (h : sp (vs ++ dvs) H Q E) : wpAny (model X.prog X.w) X.A (call (.ref f) us) (EP X pins σ Q) X.xe s := by
  have r2 : Vals (vs ++ dvs) (us ++ ds) := r.append hd
  have hl : (us ++ ds).length = ps.length := by rw [← r2.length]; exact F.len _ _ _ _ h
  refine wpAny_call (codeAny_mono (F.run X.A X.stack s H ⟨us, []⟩ (us ++ ds) (vs ++ dvs) Q E h0 hgd hr I.env0 (hb s us I.kIn hl) r2 h) fun r s' hq => ?_)
  cases r with
  | error e => exact hx pins σ H s e s' I hq
  | ok fl =>
    cases fl with
    | ret u => exact I.after hq
    | next => exact False.elim hq
    | brk => exact False.elim hq
    | cont => exact False.elim hq
theorem pet_call (hgd : X.A.guards = some []) (F : FnOkT X.prog X.w X.K X.mg X.base CX k f fd ps sp) (hr : Room k X.A) (hg : Gl X x) (hm : X.mg x = some (.ref f)) (hk : PySem.W.keepIn X.K (.ref f) = true) (hb : Binds X.K fd ps ds) (hd : Vals dvs ds) (hx : Passes CX X E)
    (ha : PAT X (e :: es) t) (hdb : (x == ("__debug__" : Str)) = false := by decide) (he : starEach (e :: es) X.env = (false, eval e X.env) :: starEach es X.env := by rfl) (hpl : (backTo pos (starEach es X.env)).any (·.1) = false := by rfl) :
    PET X (.Call (.Name x p) (e :: es) [] pos) (tCall sp dvs E t) := by
  intro pins s σ H Q h0 I h
  refine wpAny_Call_Name_kw (ld_glob I hg hm ?_ hdb)
  exact PySem.W.callWith_K (h₀ := X.base) I.ok.mod.kin hk (thnT h0 (ha pos pins s σ H _ h0 I h) fun us s1 h1 ⟨vs, H1, I1, r, q⟩ => ⟨I1.kIn, run_fnT F hr hb hd hx h1 hgd I1 r q⟩) he hpl
theorem run_fnST (F : FnOkT X.prog X.w X.K X.mg X.base CX k f fd ps sp) (hr : Room k X.A) (hb : Binds X.K fd ps []) (hx : PassesAt CX X σ (ES σ))
    (h0 : 1 ≤ s.toks) (hgd : X.A.guards = some []) (I : Inv X pins σ H s) (r : Vals vs us) (h : sp vs H Q (ES σ)) : wpAny (model X.prog X.w) X.A (call (.ref f) us) (EP X pins σ Q) X.xe s := by
  have hl : us.length = ps.length := by rw [← r.length]; exact F.len _ _ _ _ h
  have b := hb s us I.kIn (by rw [List.append_nil]; exact hl)
  rw [List.append_nil] at b
  refine wpAny_call (codeAny_mono (F.run X.A X.stack s H ⟨us, []⟩ us vs Q (ES σ) h0 hgd hr I.env0 b r h) fun r s' hq => ?_)
  cases r with
  | error e => exact hx pins H s e s' I hq
  | ok fl =>
    cases fl with
    | ret u => exact I.after hq
    | next => exact False.elim hq
    | brk => exact False.elim hq
    | cont => exact False.elim hq
theorem pet_callS (hgd : X.A.guards = some []) (F : FnOkT X.prog X.w X.K X.mg X.base CX k f fd ps sp) (hr : Room k X.A) (hg : Gl X x) (hm : X.mg x = some (.ref f)) (hk : PySem.W.keepIn X.K (.ref f) = true) (hb : Binds X.K fd ps []) (hx : ∀ σ, PassesAt CX X σ (ES σ))
    (ha : PAT X (e :: es) t) (hdb : (x == ("__debug__" : Str)) = false := by decide) (he : starEach (e :: es) X.env = (false, eval e X.env) :: starEach es X.env := by rfl) (hpl : (backTo pos (starEach es X.env)).any (·.1) = false := by rfl) :
    PET X (.Call (.Name x p) (e :: es) [] pos) (tCallS sp ES t) := by
  intro pins s σ H Q h0 I h
  refine wpAny_Call_Name_kw (ld_glob I hg hm ?_ hdb)
  exact PySem.W.callWith_K (h₀ := X.base) I.ok.mod.kin hk (thnT h0 (ha pos pins s σ H _ h0 I h) fun us s1 h1 ⟨vs, H1, I1, r, q⟩ => ⟨I1.kIn, run_fnST F hr hb (hx σ) h1 hgd I1 r q⟩) he hpl
theorem run_fnNT (F : FnOkT X.prog X.w X.K X.mg X.base CX k f fd ps sp) (hr : Room k X.A) (hb : KBn X.K fd ps n ks g gV) (hx : Passes CX X E)
    (h0 : 1 ≤ s.toks) (hgd : X.A.guards = some []) (I : Inv X pins σ H s) (r : Vals vs us) (rz : Vals zs ws) (l1 : vs.length = n) (l2 : zs.length = ks.length) (h : sp (gV vs zs) H Q E) : wpAny (model X.prog X.w) X.A (call (.ref f) us (ks.zip ws)) (EP X pins σ Q) X.xe s := by
  have r2 := hb.rel r rz
  refine wpAny_call (codeAny_mono (F.run X.A X.stack s H ⟨us, ks.zip ws⟩ (g us ws) (gV vs zs) Q E h0 hgd hr I.env0 (hb.to s us ws I.kIn (r.length.symm.trans l1) (rz.length.symm.trans l2)) r2 h) fun r s' hq => ?_)
  cases r with
  | error e => exact hx pins σ H s e s' I hq
  | ok fl =>
    cases fl with
    | ret u => exact I.after hq
    | next => exact False.elim hq
    | brk => exact False.elim hq
    | cont => exact False.elim hq
theorem pet_callN0 (hgd : X.A.guards = some []) (F : FnOkT X.prog X.w X.K X.mg X.base CX k f fd ps sp) (hr : Room k X.A) (hg : Gl X x) (hm : X.mg x = some (.ref f)) (hk : PySem.W.keepIn X.K (.ref f) = true) (hb : KBn X.K fd ps 0 ks g gV) (hx : Passes CX X E) (hkw : PK X kws tk)
    (hall : (backToKw pos (keywordEach kws X.env)).all (·.1.isSome) = true := by rfl) (hks : (backToKw pos (keywordEach kws X.env)).filterMap (·.1) = ks := by rfl) (hdb : (x == ("__debug__" : Str)) = false := by decide)
    (hpl : ((backTo pos (starEach [] X.env)).any (·.1) || (backToKw pos (keywordEach kws X.env)).any (·.1.isNone)) = false := by rfl) :
    PET X (.Call (.Name x p) [] kws pos) (tCallN 0 ks.length sp gV E tNil tk) := by
  intro pins s σ H Q h0 I h
  refine wpAny_Call_Name_kw (ld_glob I hg hm ?_ hdb)
  refine PySem.W.callWith_KW0 (h₀ := X.base) I.ok.mod.kin hk hall ?_ hpl
  refine thnT h0 (hkw.run pos pins s σ H _ I h) fun ws s2 h2 ⟨zs, H2, I2, rz, l1, l2, q2⟩ => ⟨I2.kIn, ?_⟩
  rw [hks]
  exact run_fnNT (us := []) (vs := []) F hr hb hx h2 hgd I2 .nil rz rfl l2 q2
end
/-! ### statements that give out a token -/
def PEG (X : Cx) (e : Expr) (t : TE) : Prop := ∀ (pins : List (Addr × Obj)) (s : Shared) (σ : L2.St) (H : Hp) (Q : VK), Inv X pins σ H s → t σ H Q → wpAny (model X.prog X.w) X.A (eval e X.env) (fun v s1 => 1 ≤ s1.toks ∧ EP X pins σ Q v s1) X.xe s
def PAG (X : Cx) (es : List Expr) (t : TA) : Prop := ∀ (pos : Pos) (pins : List (Addr × Obj)) (s : Shared) (σ : L2.St) (H : Hp) (Q : List V → Hp → Prop), Inv X pins σ H s → t σ H Q → wpAny (model X.prog X.w) X.A (spliced (backTo pos (starEach es X.env))) (fun v s1 => 1 ≤ s1.toks ∧ AP X pins σ Q v s1) X.xe s
section
variable {X : Cx} {e a b : Expr} {te ta tb : TE} {t : TS} {u : TS} {tA : TA} {pos : Pos} {st : Stmt} {rest : List Stmt} {es : List Expr} {CX : CXT} {k i : Nat} {f : Addr} {fd : FuncData} {ps : List Str} {sp : Sp} {dvs : List V} {ds : List Value} {E : XK} {x : Str} {p : Pos}
theorem peg_int {z : Int} {j : Nat} : PEG X (.Constant (.int z) j pos) (tC (.int z)) := fun pins s σ H Q I h => wpAny_Constant_int ⟨by show 1 ≤ s.toks + 1; omega, .int z, H, I.tok _, ⟨_, rfl⟩, h⟩
theorem pag_head (ha : PEG X e te) (hr : PA X es tA) (hs : starEach (e :: es) X.env = (false, eval e X.env) :: starEach es X.env := by rfl) : PAG X (e :: es) (tCons te tA) := by
  intro pos pins s σ H Q I h
  rw [hs]
  show wpAny _ _ (spliced ((false, eval e X.env) :: backTo pos (starEach es X.env))) _ _ s
  refine Calls.spliced_cons (thn (ha pins s σ H _ I h) fun v s1 q => ?_)
  obtain ⟨hk, x, H1, I1, r1, q1⟩ := q
  exact thnT hk (hr.run pos pins s1 σ H1 _ I1 q1) fun us s2 h2 ⟨xs, H2, I2, r2, q2⟩ => ⟨h2, x :: xs, H2, I2, .cons r1 r2, q2⟩
theorem pag_tail (ha : PE X e te) (hr : PAG X es tA) (hs : starEach (e :: es) X.env = (false, eval e X.env) :: starEach es X.env := by rfl) : PAG X (e :: es) (tCons te tA) := by
  intro pos pins s σ H Q I h
  rw [hs]
  show wpAny _ _ (spliced ((false, eval e X.env) :: backTo pos (starEach es X.env))) _ _ s
  refine Calls.spliced_cons (thn (ha.run pins s σ H _ I h) fun v s1 q => ?_)
  obtain ⟨x, H1, I1, r1, q1⟩ := q
  exact thn (hr pos pins s1 σ H1 _ I1 q1) fun us s2 ⟨h2, xs, H2, I2, r2, q2⟩ => ⟨h2, x :: xs, H2, I2, .cons r1 r2, q2⟩
theorem peg_call (F : FnOk X.prog X.w X.K X.mg X.base CX k f fd ps sp) (hr : Room k X.A) (hg : Gl X x) (hm : X.mg x = some (.ref f)) (hk : PySem.W.keepIn X.K (.ref f) = true) (hb : Binds X.K fd ps ds) (hd : Vals dvs ds) (hx : Passes CX X E)
    (ha : PAG X (e :: es) tA) (hdb : (x == ("__debug__" : Str)) = false := by decide) (he : starEach (e :: es) X.env = (false, eval e X.env) :: starEach es X.env := by rfl) (hpl : (backTo pos (starEach es X.env)).any (·.1) = false := by rfl) :
    PEG X (.Call (.Name x p) (e :: es) [] pos) (tCall sp dvs E tA) := by
  intro pins s σ H Q I h
  refine wpAny_Call_Name_kw (ld_glob I hg hm ?_ hdb)
  exact PySem.W.callWith_K (h₀ := X.base) I.ok.mod.kin hk (thn (ha pos pins s σ H _ I h) fun us s1 ⟨h1, vs, H1, I1, r, q⟩ => ⟨I1.kIn, thnT h1 (run_fn F hr hb hd hx I1 r q) fun _ _ h2 z => ⟨h2, z⟩⟩) he hpl
/-- x = e, where e gives out a token: the rest has one -/
theorem pssg_set {i : Nat} {x : Str} {pos' : Pos} (hN : X.N.Nodup) (hi : X.N[i]? = some x) (hx : Loc X.env.scope x) (he : PEG X e te) (h2 : PSsT X rest u) (hs : swapsWith e (some (.Name x pos')) pos.line X.env = pure false := by rfl) (hf : X.fn x = true ∨ X.env.scope.names.lookup x = some .local := by first | exact .inl rfl | exact .inr rfl | assumption) :
    PSs X (.Assign [.Name x pos'] e pos :: rest) (tSeq (tAsg te (gName i)) u) := by
  refine ⟨fun pins s σ H D I h => ?_⟩
  refine wpAny_execs_cons (wpAny_Assign_Name (thn (he pins s σ H _ I h) fun v s1 ⟨h1, y, H1, I1, r1, q1⟩ => ?_) hs)
  refine thnT h1 (store_ok (Q := fun _ s2 => Inv X pins (σ.set i (some y)) H1 s2) I1 hN hi hx r1 (fun s2 I2 => I2) hf) fun _ s2 k2 I2 => ?_
  exact h2 pins s2 _ H1 D k2 I2 q1
end
end Al
/-! ### try, one token out: L2.ps_try_as once more, for a body that has a token -/
namespace L2
open PySem PySem.Spec PyProof.Rows
section
variable {X : Cx} {pins : List (Addr × Obj)} {H : Hp} {s : Shared} {x n : Str} {c : Value} {i : Nat} {body suite : List Stmt} {b₀ : Stmt} {np pos pos' : Pos} {tb : WX → TS} {ts : Addr → Value → Option Addr → TS} {Wout : WX}
theorem pst_try_as (hs : X.stack = X.env :: X.outer) (hf : X.env.frame = some X.env.locals) (hN : X.N.Nodup) (hi : X.N[i]? = some n) (hln : X.env.kindOf n = some .local) (hc : Names X x c) (tk : Takes X Wout)
    (hb : ∀ (W : WX) (pn : List (Addr × Obj)) (xe : Value → Shared → Prop), Takes (X.tr pn xe) W → PassesOwn (model X.prog X.w) X.A X.env xe → PSsT (X.tr pn xe) body (tb W))
    (hsu : ∀ (a : Addr) (oe : Obj) (cls : Value) (d : Option Addr) (pn : List (Addr × Obj)), Zc cls d oe → (∃ vs, oe.data = .fields vs) → PSs (X.suite a ((a, oe) :: pn)) (b₀ :: suite) (ts a cls d)) :
    PST X (.Try body [.ExceptHandler (some (.Name x np)) (some n) (b₀ :: suite) pos'] [] [] pos) (fun D σ H => tb (wAs X.K c i ts Wout D) D σ H) := by
  intro pins s σ H D h0 I h
  have ok := I.ok
  have hfr : X.A.frames = some (X.env :: X.outer) := by rw [ok.frames, hs]
  have hloc : Loc X.env.scope n := .inl hln
  refine wpAny_Try_except ?_
  refine wpAny_mono ((hb (wAs X.K c i ts Wout D) (X.pn ++ pins) (fun e s₁ => wpAny (model X.prog X.w) X.A (noteFrame e X.env) (fun _ s₂ => wpAny (model X.prog X.w) X.A (setFlight e none) (fun _ s₃ =>
    wpAny (model X.prog X.w) X.A (handleBy e X.env [.ExceptHandler (some (.Name x np)) (some n) (b₀ :: suite) pos']) (SP X pins D) X.xe s₃) X.xe s₂) X.xe s₁) (fun u s' xx => ?_) PassesOwn.looking) [] s σ H D h0 (I.toTry _) h) (fun f s1 hsp => ?_) (fun e s1 he => he)
  · -- the catch
    obtain ⟨a, B, sI, pins', σ', H', cls, d, rfl, J', nb, up, sky, na, os, ag, b, hb1, hyes, hno⟩ := xx
    have J : Inv X pins σ' H' sI := J'.ofTry ok
    have sky' : Sky B (X.env :: X.outer) a (Zc cls d) X.env.locals s'.heap := by rw [← hs]; exact sky
    show wpAny (model X.prog X.w) X.A (noteFrame (.ref a) X.env) _ _ _
    refine Sky.land Zc.steady hfr hf sky' fun h3 fl3 up3 => ?_
    have J3 : Inv X pins σ' H' { s' with heap := h3 } := J.landed nb fl3.1 (up.trans up3) os ag
    obtain ⟨oe3, vs3, he3, hz3, hd3⟩ := fl3.there
    have notFr : ∀ {h : Heap} {o : Obj} {vs : Array Value}, h.FunFrames B (X.env :: X.outer) → h.get? a = some o → o.data = .fields vs → a ∉ frs (X.env :: X.outer) := fun {h o vs} ff e dd hm => by
      obtain ⟨_, o', e', hnf⟩ := ff.mem hm
      rw [e] at e'; cases e'
      exact hnf _ dd
    have nfr := notFr fl3.2.2.1 he3 hd3
    have nL : a ≠ X.env.locals := fun z => nfr (List.mem_filterMap.mpr ⟨X.env, List.mem_cons_self, by rw [hf, z]⟩)
    have nF : a ∉ X.fs := fun hm => by
      obtain ⟨e, he, q⟩ := List.mem_filterMap.mp hm
      exact nfr (List.mem_filterMap.mpr ⟨e, List.mem_cons_of_mem _ he, q⟩)
    have S3 := J3.suite he3 hd3 na nL nF
    refine wpAny_handleBy_cons (codeAny_handlers_test ?_) (by intro q; cases q)
    have LT : PySem.W.Looks (model X.prog X.w) h3 (typeOf (.ref a)) cls := fun A Q E s k q => wpAny_typeOf_ref (k _ _ he3) (by rw [hz3.1]; exact q)
    have LM := PySem.W.exm_one (M := model X.prog X.w) (J3.kIn) LT hb1
    have test : ∀ {Q : Value → Shared → Prop} {E : Value → Shared → Prop}, Q c { s' with heap := h3 } → wpAny (model X.prog X.w) (X.A.mark (some (.ref a))) (eval (.Name x np) X.env) Q E { s' with heap := h3 } := fun {Q E} q => by
      obtain ⟨hg, hdbg, hm | ⟨hm, hv, hnn⟩⟩ := hc
      · exact ld_glob (X := X.suite a ((a, oe3) :: (X.pn ++ pins))) S3 hg hm q hdbg
      · exact ld_blt (X := X.suite a ((a, oe3) :: (X.pn ++ pins))) S3 hg hm hv q hnn hdbg
    refine test (LM.here ?_)
    cases b with
    | true =>
      refine codeAny_handlers_suite_as ?_
      refine HandSPX.lands_againZ fl3 fun h4 fl4 up4 => ?_
      have J4 : Inv X pins σ' H' { s' with heap := h4 } := J.landed nb fl4.1 ((up.trans up3).trans up4) os ag
      obtain ⟨oe4, vs4, he4, hz4, hd4⟩ := fl4.there
      have S4 := J4.suite he4 hd4 na nL nF
      refine store_ok (X := X.suite a ((a, oe4) :: (X.pn ++ pins))) (v := .ref a) S4 hN hi hloc rfl (fun s5 S5 => ?_) (.inr hln)
      refine wpAny_mono ((hsu a oe4 cls d (X.pn ++ pins) hz4 ⟨_, hd4⟩).run [] s5 _ H' _ S5 (hyes rfl a na)) (fun f s6 hsp => ?_) (fun _ _ z => False.elim z)
      have end_ : ∀ {σ6 : St} {H6 : Hp} {Q : Shared → Prop}, Inv (X.suite a ((a, oe4) :: (X.pn ++ pins))) [] σ6 H6 s6 → (∀ s7, Inv X pins (σ6.set i none) H6 s7 → Q s7) →
          wpAny (model X.prog X.w) X.A (do bindName X.env n .none; unbindBehindTheSuite X.env n pos') (fun _ s7 => Q s7) X.xe s6 := fun {σ6 H6 Q} S6 hq => gone_ok (S6.unsuite ok) hN hi hln hq
      cases f with
      | next =>
        obtain ⟨σ6, H6, S6, q6⟩ := hsp
        exact end_ S6 fun s7 J7 => ⟨_, _, J7, q6⟩
      | brk =>
        obtain ⟨σ6, H6, S6, q6⟩ := hsp
        exact end_ S6 fun s7 J7 => ⟨_, _, J7, q6⟩
      | cont =>
        obtain ⟨σ6, H6, S6, q6⟩ := hsp
        exact end_ S6 fun s7 J7 => ⟨_, _, J7, q6⟩
      | ret u =>
        obtain ⟨v6, σ6, H6, S6, r6, q6⟩ := hsp
        exact end_ S6 fun s7 J7 => ⟨_, _, _, J7, r6, q6⟩
    | false =>
      show wpAny _ X.A (handleBy (.ref a) X.env []) _ _ _
      refine wpAny_handleBy_nil ?_
      obtain ⟨k1, k2, k3, oe, vs, T, oT, ts', he, hz, hd, h1, hr⟩ := id fl3
      unfold PySem.passOn
      refine wpAny_bind (wpAny_field he hd h1 ?_)
      rw [if_neg (show ¬ ((Value.ref T == Value.none) = true) from by simp)]
      have fin : wpAny (model X.prog X.w) X.A (setFlight (.ref a) X.env.frame) (fun _ s4 => wpAny (model X.prog X.w) X.A (throw (.ref a) : Sem Flow) (SP X pins D) X.xe s4) X.xe { s' with heap := h3 } := by
        rw [hf]
        refine HandSPX.setFlight_upZ fl3 fun h4 hh4 up4 => wpAny_throw (tk _ _ ?_)
        exact ⟨a, B, sI, pins, σ', H', cls, d, rfl, J, nb, (up.trans up3).trans up4, .inr (.inr (by rw [hs]; exact hh4)), na, os, ag, hno rfl⟩
      first
        | exact wpAny_bind (wpAny_pure (wpAny_bind fin))
        | exact wpAny_bind fin
  · cases f with
    | next =>
      obtain ⟨σ', H', J', q⟩ := hsp
      exact wpAny_execs_nil ⟨σ', H', J'.ofTry ok, q⟩
    | brk =>
      obtain ⟨σ', H', J', q⟩ := hsp
      exact ⟨σ', H', J'.ofTry ok, q⟩
    | cont =>
      obtain ⟨σ', H', J', q⟩ := hsp
      exact ⟨σ', H', J'.ofTry ok, q⟩
    | ret u =>
      obtain ⟨v, σ', H', J', r, q⟩ := hsp
      exact ⟨v, σ', H', J'.ofTry ok, r, q⟩
end
end L2
/-! ## the law's end, for a promise that asks that no repr is under way (L2.law_call, L2.walk_of once more) -/
namespace Al
open PySem PySem.Spec PyProof.Rows L2
theorem law_callG {P : Program} {w : World} {K : PySem.W.Frag} {mg mb : Str → Option Value} {CX : CXT} {k : Nat} {fa a : Addr} {fd : FuncData} {x : Str} {sp : Sp} {s₁ : Shared} {vs : List Value} {ns : List Int}
    (KX : K.In s₁.heap) (hns : s₁.heap.Ns mainGlobals mg) (hb : s₁.heap.Ns builtinsNs mb) (hbb : ∀ x : Str, x ≠ "__name__" → mb x = bootBuiltins x) (hlim : s₁.heap.NoLimit) (hg : s₁.gens = #[])
    (ha : s₁.heap.get? a = some { cls := .type "list", data := .seq vs.toArray }) (hi : IntsAre vs ns) (hl : ns.length ≤ sizeLine) (hr : Room k callerA)
    (F : ∀ base : Heap, K.In base → base.Ns mainGlobals mg → FnOkN 0 P w K mg base CX k fa fd [x] sp) (hbind : ∀ (s : Shared) (u : Value), BindsTo s fd ⟨[u], []⟩ [(x, u)])
    (hsp : ∀ H : Hp, Only H → SqL K H a (ns.map V.int) → sp [.ref a] H (fun v _ => v = .bl true) fun _ _ _ => False)
    (hCX : ∀ H e s', CX [] H s₁ (fun _ _ _ => False) e s' → False) :
    codeAny (model P w) callerA (.call (.ref fa) ⟨[.ref a], []⟩) (fun r s' => r = .ok (.ret (.bool true)) ∧ OldK s₁.heap s'.heap ∧ s'.os = s₁.os ∧ AllBare s'.gens) s₁ := by
  have rv := vals_ints hi
  have lenV := hi.length
  -- from an abstract heap in which nothing but the script may be tracked
  have core : ∀ H : Hp, Only H → SqL K H a (ns.map V.int) → HOk P w H s₁.heap → (∀ b, H b ≠ none → b = a) → (H a ≠ none → K.lookup a = none) →
      codeAny (model P w) callerA (.call (.ref fa) ⟨[.ref a], []⟩) (fun r s' => r = .ok (.ret (.bool true)) ∧ OldK s₁.heap s'.heap ∧ s'.os = s₁.os ∧ AllBare s'.gens) s₁ := by
    intro H hO hS hok hA hK
    have base_of : ∀ {b : Addr} {o : Obj}, s₁.heap.get? b = some o → H b = none → (hidT s₁.heap H).get? b = some o := fun e n => hidT_get e n
    have noA : ∀ {b : Addr} {o : Obj} {es : Array DictEntry} {ep : Nat}, s₁.heap.get? b = some o → o.data = .dict es ep → H b = none := fun {b o es ep} e d => by
      cases q : H b with
      | none => rfl
      | some u =>
        have e' : b = a := hA b (by rw [q]; simp)
        subst e'
        rw [ha] at e; cases e
        have d' : Data.seq vs.toArray _ = Data.dict es ep := d
        cases d'
    have nsK : ∀ {b : Addr} {m : Str → Option Value}, s₁.heap.Ns b m → (hidT s₁.heap H).Ns b m := fun {b m} ⟨o, es, ep, e, d, r⟩ => ⟨o, es, ep, base_of e (noA e d), d, r⟩
    have hKb : K.In (hidT s₁.heap H) := fun b o e => base_of (KX b o e) (by
      cases q : H b with
      | none => rfl
      | some u =>
        have e' : b = a := hA b (by rw [q]; simp)
        subst e'
        rw [hK (by rw [q]; simp)] at e; cases e)
    have hM : Mod K mg (hidT s₁.heap H) := ⟨hKb, nsK hns, ⟨mb, nsK hb, hbb⟩, let ⟨mc, h1, h2⟩ := hlim; ⟨mc, nsK h1, h2⟩⟩
    have e0 : Env0 P w K mg (hidT s₁.heap H) callerA [] s₁ H := ⟨rfl, hM, fun b o e => of_hidT e, Nat.le_of_eq (hidT_size _ _), trivial, fun b hb => absurd (show b ∈ ([] : List Addr) from hb) (by simp), hok, .of_eq hg⟩
    refine codeAny_mono ((F _ hKb (nsK hns)).run callerA [] s₁ H ⟨[.ref a], []⟩ [.ref a] [.ref a] _ _ (Nat.zero_le _) rfl hr e0 (hbind s₁ (.ref a)) (.cons rfl .nil) (hsp H hO hS)) fun r s' h => ?_
    cases r with
    | error e => exact (hCX H e s' h).elim
    | ok fl =>
      cases fl with
      | next => exact False.elim h
      | brk => exact False.elim h
      | cont => exact False.elim h
      | ret u =>
        obtain ⟨v, H', os, bare, un, hok', r', q⟩ := h
        have q' : v = .bl true := q
        subst q'
        obtain rfl : u = Value.bool true := r'
        refine ⟨rfl, OldK.of_keep fun b o e => ?_, os, bare⟩
        cases q : H b with
        | none => exact un.keep b o e q (by intro z; exact absurd (show b ∈ ([] : List Addr) from z) (by simp)) (by simp)
        | some u =>
          rcases hO b with z | ⟨ob, xs, z⟩
          · rw [q] at z; cases z
          · have z2 := un.frzs b ob _ z
            obtain ⟨e1, _⟩ := hok b _ z
            obtain ⟨e2, _⟩ := hok' b _ z2
            rw [e] at e1; cases e1
            exact e2
  cases hk : K.lookup a with
  | some o =>
    -- the script is one of the module's own objects
    have e := KX a o hk
    rw [ha] at e
    cases e
    refine core (fun _ => none) (fun _ => .inl rfl) (.inr ⟨_, vs.toArray, _, hk, rfl, rfl, rfl, by rw [List.size_toArray, lenV]; exact hl, by simpa using rv⟩) (fun b u z => by have z' : (none : Option HO) = some u := z; cases z') (fun b z => absurd rfl z) fun z => absurd rfl z
  | none =>
    refine core (fun b => if b = a then some (.frz { cls := .type "list", data := .seq vs.toArray } (.lst (ns.map V.int))) else none) (fun b => ?_) (.inl (.inr ⟨{ cls := .type "list", data := .seq vs.toArray }, if_pos rfl⟩)) (fun b u z => ?_) (fun b z => ?_) fun _ => hk
    · by_cases hb : b = a
      · exact .inr ⟨_, _, if_pos hb⟩
      · exact .inl (if_neg hb)
    · by_cases hb : b = a
      · have z' := (if_pos hb).symm.trans z
        cases z'
        subst hb
        exact ⟨ha, by rw [List.length_map]; exact hl, vs, _, rv, ha⟩
      · have z' := (if_neg hb).symm.trans z
        cases z'
    · by_cases hb : b = a
      · exact hb
      · exact absurd (if_neg hb) z
theorem walk_ofG {l : PySem.W.OpenLaw} {n k : Nat} {q : Program} {loose : List Str} {XP : (Str → Option Value) → Heap → Prop} {YP : World → Heap → Prop} {d : DefRec} {K : Params → PySem.W.Frag} {CX : World → CXT} {sp : World → Sp} {x : Str}
    (hn : l.most = some n) (hn2 : n ≤ sizeLine) (hdf : d.params.defaults = []) (hr : Room k callerA)
    (hY : ∀ (w : World) (h : Heap), YP w h → (K w.params).In h)
    (F : ∀ (w : World) (mg : Str → Option Value) (fa : Addr) (h : Heap), (K w.params).In h → h.Ns mainGlobals mg → mg d.name = some (.ref fa) →
      ∃ fd : FuncData, (∀ (s : Shared) (u : Value), BindsTo s fd ⟨[u], []⟩ [(x, u)]) ∧
        ∀ base : Heap, (K w.params).In base → base.Ns mainGlobals mg → FnOkN 0 l.prog w (K w.params) mg base (CX w) k fa fd [x] (sp w))
    (hsp : ∀ (w : World) (H : Hp) (a : Addr) (ns : List Int), ns.length ≤ n → Only H → SqL (K w.params) H a (ns.map V.int) → sp w [.ref a] H (fun v _ => v = .bl true) fun _ _ _ => False)
    (hCX : ∀ (w : World) (H : Hp) (s : Shared) (e : Value) (s' : Shared), CX w [] H s (fun _ _ _ => False) e s' → False) :
    PySem.W.WalkO q loose XP YP l.row.toRowW d [] (fun f vs => PySem.call f vs) := by
  refine Att.attach_call hn hdf fun w s₀ s₁ mg mb fa o pm cd doc a vs ns G Y ho hd hcd hmg hobj hints hlen hg => ?_
  have KX := hY w _ Y
  obtain ⟨fd, hb, hF⟩ := F w mg fa _ KX G.T.g hmg
  exact law_callG KX G.T.g G.T.b G.T.builtins G.T.nolimit hg hobj hints (Nat.le_trans hlen hn2) hr hF hb (fun H hO hS => hsp w H a ns hlen hO hS) fun H e s' => hCX w H s₁ e s'
end Al
/-! ## a def called within a suite, the caught exception handed to it -/
namespace Al
open PySem PySem.Spec PyProof.Rows L2 L2H
/-- isinstance(e, c), e an exception that the context pins -/
theorem call_isE3 {X : Cx} {a : Addr} {oe : Obj} {cls : Value} {d : Option Addr} (hp : (a, oe) ∈ X.pn) (hz : Zc cls d oe) (hf : ∃ vs, oe.data = .fields vs) : CallR X (.builtin "isinstance") (rIsE2 X.K a cls d) := by
  intro pins s σ H xs us Q I r h
  obtain ⟨D, dd, fs, c, cv, b, rfl, rfl, C, ea, rfl, hcv, e, q⟩ := h
  cases r with
  | cons rx rr =>
    cases rr with
    | cons rt rr =>
      cases rr
      cases rx
      have ec := hcv _ rt
      subst ec
      obtain ⟨hget, _⟩ := I.pin (a, oe) (List.mem_append.mpr (.inl hp))
      obtain ⟨vs, hv⟩ := hf
      have hx : ObjOk X.prog X.w H s.heap dd (.xd fs) := I.hok dd _ ea
      obtain ⟨mA, hns, hr⟩ := hx
      obtain ⟨od, ho, hl⟩ := lookIn_ns hns
      have J : PySem.W.InstAt s.heap a oe D (some od) := ⟨hget, hz.1, by unfold PySem.W.notCls; rw [hv] <;> rfl, by rw [hz.2]; exact ho⟩
      exact PySem.W.kia_one (PySem.W.kitx_exc C.cl C.hg C.hk C.hs C.ha C.hn C.ht C.hm) I.kIn J e (fun z => nomatch z) fun tk => ⟨.bl b, H, I.kept (t' := tk) fun _ _ z => z, rfl, q⟩
abbrev SpE := Addr → Value → Option Addr → Sp
/-- the promise of a def to which the caught exception is handed: it stands at p -/
structure FnE (P : Program) (w : World) (K : PySem.W.Frag) (mg : Str → Option Value) (base : Heap) (k : Nat) (f : Addr) (fd : FuncData) (ps : List Str) (sp : SpE) : Prop where
  len : ∀ a cls d vs H Q E, sp a cls d vs H Q E → vs.length = ps.length
  run : ∀ (A : Around) (outer : List Env) (s : Shared) (H : Hp) (args : Args) (us : List Value) (vs : List V) (Q : VK) (E : XK) (p : Addr × Obj) (cls : Value) (d : Option Addr), RoomH k A → PinOk outer H s p → Zc cls d p.2 → (∃ vs, p.2.data = .fields vs) → Env0 P w K mg base A outer s H →
    BindsTo s fd args (ps.zip us) → Vals vs us → sp p.1 cls d vs H Q E → codeAny (model P w) A (.call (.ref f) args) (CR CX0 outer P w H s Q E) s
section
variable {P : Program} {w : World} {K : PySem.W.Frag} {mg : Str → Option Value} {base : Heap} {k : Nat} {f : Addr}
theorem _root_.L2.Fun.okE {x qual : Str} {st : Stmt} {fd : FuncData} {N ps : List Str} {sp : SpE} (F : Fun K x qual st f fd) (S : FnScope N ps (defScope st)) (len : ∀ a cls d vs H Q E, sp a cls d vs H Q E → vs.length = ps.length)
    (hbody : ∀ (cdv : Value) (A : Around) (outer : List Env) (s : Shared) (H : Hp) (vs : List V) (Q : VK) (E : XK) (ea : Addr) (oe : Obj) (cls : Value) (d : Option Addr), Zc cls d oe → (∃ vs, oe.data = .fields vs) → RoomH k (A.deeper (envOfC qual (defScope st) s.heap.objs.size f cdv)) → sp ea cls d vs H Q E →
      ∃ t, PSs (cxH CX0 P w K mg base N qual (defScope st) f cdv A outer s H E (ea, oe)) (defBody st) t ∧ t { nx := fun _ H' => Q .non H', rt := Q } (L2.start N vs) H) : FnE P w K mg base (k + 1) f fd ps sp := by
  obtain ⟨oc, od, kV, doc, pm, an, cdv, ct, osl, rfl, lk, hcd⟩ := F.ex
  refine ⟨len, fun A outer s H args us vs Q E p cls d hr hpin hz hf e0 hb r hsp => ?_⟩
  have hl := len _ _ _ _ _ _ _ hsp
  have KX : K.In s.heap := e0.mod.kin.keeps fun b o e => (e0.bs b o e).1
  have lim : s.heap.NoLimit := e0.mod.nolimit.keeps fun b o e => (e0.bs b o e).1
  have hkind : ∀ y ∈ ps.zip us, (defScope st).names.lookup y.1 = some .local ∨ ((defScope st).names.lookup y.1 = some .cell ∧ ((cellsFrom (s.heap.objs.size + 1) (defScope st).names []).lookup y.1).isSome = true) := fun ⟨n, v⟩ hy => by
    rcases S.par n (List.of_mem_zip hy).1 with q | q
    · exact .inl q
    · exact .inr ⟨q, PySem.W.cellsFrom_some _ _ _ (.inl q)⟩
  refine codeAny_call_function hr.depth (KX _ _ lk) rfl S.co S.gen rfl (PySem.W.codeRec_of KX hcd) (hb _ _ _ _ ?_)
  refine wpAny_newFunctionEnv_cells S.kind hkind fun env he s1 x => ?_
  subst he
  refine ⟨lim.keeps x.toInCall.keep, codeAny_func ?_⟩
  obtain ⟨ea, oe⟩ := p
  obtain ⟨t, ht, hq⟩ := hbody cdv A outer s H vs Q E ea oe cls d hz hf (hr.deeper _) hsp
  have I := inv_startH (CX := CX0) (f := f) (cd := cdv) (qual := qual) (E := E) S hpin e0 hl r x
  refine wpAny_mono (ht.run [] s1 _ H _ I hq) (fun fl s' hs => ?_) fun e s' hs => hs
  cases fl with
  | ret u =>
    obtain ⟨v, σ', H', J, rv, q⟩ := hs
    exact ⟨v, H', J.os, J.bare, J.base, J.hok, rv, q⟩
  | next =>
    obtain ⟨σ', H', J, q⟩ := hs
    exact ⟨V.non, H', J.os, J.bare, J.base, J.hok, rfl, q⟩
  | brk =>
    obtain ⟨_, _, _, q⟩ := hs
    exact False.elim q
  | cont =>
    obtain ⟨_, _, _, q⟩ := hs
    exact False.elim q
end
section
variable {X : Cx} {k : Nat} {f a : Addr} {oe : Obj} {cls : Value} {d : Option Addr} {fd : FuncData} {ps : List Str} {sp : SpE} {x : Str} {q pos : Pos} {e : Expr} {es : List Expr} {t : TA}
/-- f(e, ..) in the suite of e -/
theorem pe_callE (F : FnE X.prog X.w X.K X.mg X.base k f fd ps sp) (hp : (a, oe) ∈ X.pn) (hz : Zc cls d oe) (hf : ∃ vs, oe.data = .fields vs) (hr : RoomH k X.A) (hg : Gl X x) (hm : X.mg x = some (.ref f)) (hk : PySem.W.keepIn X.K (.ref f) = true) (hb : Binds X.K fd ps [])
    (ha : PA X (e :: es) t) (hdb : (x == ("__debug__" : Str)) = false := by decide) (he : starEach (e :: es) X.env = (false, eval e X.env) :: starEach es X.env := by rfl) (hpl : (backTo pos (starEach es X.env)).any (·.1) = false := by rfl) :
    PE X (.Call (.Name x q) (e :: es) [] pos) (fun σ H Q => t σ H fun vs H1 => sp a cls d vs H1 Q E0) := by
  refine ⟨fun pins s σ H Q I h => ?_⟩
  refine wpAny_Call_Name_kw (ld_glob I hg hm ?_ hdb)
  refine PySem.W.callWith_K (h₀ := X.base) I.ok.mod.kin hk (thn (ha.run pos pins s σ H _ I h) fun us s1 ⟨vs, H1, I1, r, z⟩ => ⟨I1.kIn, ?_⟩) he hpl
  have hl : us.length = ps.length := by rw [← r.length]; exact F.len _ _ _ _ _ _ _ z
  have b := hb s1 us I1.kIn (by rw [List.append_nil]; exact hl)
  rw [List.append_nil] at b
  have P1 := I1.pin (a, oe) (List.mem_append_left _ hp)
  have hpin : PinOk X.stack H1 s1 (a, oe) := ⟨P1.1, P1.2.1, fun hm => (List.mem_cons.mp (I1.stkSub a hm)).elim P1.2.2.1 P1.2.2.2.1, P1.2.2.2.2⟩
  refine wpAny_call (codeAny_mono (F.run X.A X.stack s1 H1 ⟨us, []⟩ us vs Q E0 (a, oe) cls d hr hpin hz hf I1.env0 b r z) fun r s' hq => ?_)
  cases r with
  | error e => exact False.elim hq
  | ok fl =>
    cases fl with
    | ret u => exact I1.after hq
    | next => exact False.elim hq
    | brk => exact False.elim hq
    | cont => exact False.elim hq
end
end Al
/-! ## repr of plain data; isinstance of the caught exception handed on -/
namespace Al
open PySem PySem.Spec PyProof.Rows L2
def rRepr (K : PySem.W.Frag) : List V → Hp → VK → Prop := fun xs H Q => ∃ x d, xs = [x] ∧ Dp K H x d ∧ d.showable = true ∧ d.hasDict = false ∧ d.depth ≤ 60 ∧ d.shown.length ≤ sizeLine ∧ Q (.str d.shown) H
/-- repr(x), x plain data -/
theorem call_reprD {X : Cx} (hgd : X.A.guards = some []) (hu : X.A.units + 64 < cLine) : CallR X (.builtin "repr") (rRepr X.K) := by
  intro pins s σ H xs us Q I r h
  obtain ⟨x, d, rfl, hd, h1, h2, h3, h4, q⟩ := h
  obtain ⟨u, rfl, rx⟩ := vals1 r
  cases hd with
  | non =>
    obtain rfl : u = .none := rx
    simp only [PyData.shown] at q
    exact PySem.P.repr_of_none ⟨.str _, H, I.tok _, ⟨_, rfl⟩, q⟩
  | bl b =>
    obtain rfl : u = .bool b := rx
    refine PySem.P.repr_of_bool ⟨.str _, H, I.tok _, ⟨_, rfl⟩, ?_⟩
    have e : (PyData.bool b).shown = (if b then "True" else "False" : String) := by cases b <;> rfl
    rw [e] at q
    cases b <;> exact q
  | int i =>
    obtain ⟨t, rfl⟩ := rx
    simp only [PyData.shown] at q
    exact PySem.P.repr_of_int (by simpa [PyData.showable] using h1) ⟨.str _, H, I.tok _, ⟨_, rfl⟩, q⟩
  | str y =>
    obtain ⟨t, rfl⟩ := rx
    simp only [PyData.shown] at q h4
    exact PySem.P.repr_of_str ⟨.str _, H, I.tok _, ⟨_, rfl⟩, q⟩ h4
  | lst hs ha =>
    rename_i p xs ds
    obtain rfl : u = .ref p := rx
    obtain ⟨as, rd⟩ := Dp.reads I (.list ds) (.ref p) (.ref p) (.lst hs ha) rfl
    exact repr_of_reads' rd h1 (PyData.noDict_hsm h2) hgd (by omega) (fun _ _ z => z) (fun h' u tk hk => ⟨.str _, H, I.kept (t' := tk) hk, ⟨_, rfl⟩, q⟩) h4
  | tup hs ha =>
    rename_i p xs ds
    obtain rfl : u = .ref p := rx
    obtain ⟨as, rd⟩ := Dp.reads I (.tuple ds) (.ref p) (.ref p) (.tup hs ha) rfl
    exact repr_of_reads' rd h1 (PyData.noDict_hsm h2) hgd (by omega) (fun _ _ z => z) (fun h' u tk hk => ⟨.str _, H, I.kept (t' := tk) hk, ⟨_, rfl⟩, q⟩) h4
end Al
/-! ## plain data: none, truth values, ints, texts, lists and tuples -/
namespace Al
open PySem PySem.Spec PyProof.Rows L2
mutual
inductive Pd (R : Addr → HO → Prop) : V → PyData → Prop
  | non : Pd R .non .none
  | bl (b : Bool) : Pd R (.bl b) (.bool b)
  | int (i : Int) : Pd R (.int i) (.int i)
  | str (x : Str) : Pd R (.str x) (.str x)
  | lst {a : Addr} {xs : List V} {ds : List PyData} : R a (.lst xs) → PdAll R xs ds → Pd R (.ref a) (.list ds)
  | tup {a : Addr} {xs : List V} {ds : List PyData} : R a (.tup xs) → PdAll R xs ds → Pd R (.ref a) (.tuple ds)
inductive PdAll (R : Addr → HO → Prop) : List V → List PyData → Prop
  | nil : PdAll R [] []
  | cons {v : V} {vs : List V} {d : PyData} {ds : List PyData} : Pd R v d → PdAll R vs ds → PdAll R (v :: vs) (d :: ds)
end
section
variable {R R' : Addr → HO → Prop}
mutual
theorem Pd.mono (m : ∀ a o, R a o → R' a o) : ∀ (d : PyData) (v : V), Pd R v d → Pd R' v d
  | .none, _, h => by cases h; exact .non
  | .bool b, _, h => by cases h; exact .bl b
  | .int i, _, h => by cases h; exact .int i
  | .str x, _, h => by cases h; exact .str x
  | .list ds, _, h => by
    cases h with
    | lst h1 h2 => exact .lst (m _ _ h1) (PdAll.mono m ds _ h2)
  | .tuple ds, _, h => by
    cases h with
    | tup h1 h2 => exact .tup (m _ _ h1) (PdAll.mono m ds _ h2)
  | .dict _, _, h => by cases h
theorem PdAll.mono (m : ∀ a o, R a o → R' a o) : ∀ (ds : List PyData) (vs : List V), PdAll R vs ds → PdAll R' vs ds
  | [], _, h => by cases h; exact .nil
  | d :: ds, _, h => by
    cases h with
    | cons h1 h2 => exact .cons (Pd.mono m d _ h1) (PdAll.mono m ds _ h2)
end
end
/-- what stands in a heap -/
abbrev In (H : Hp) : Addr → HO → Prop := fun a o => H a = some o
/-- .. but at b -/
abbrev Off (b : Addr) (H : Hp) : Addr → HO → Prop := fun a o => H a = some o ∧ a ≠ b
theorem Pd.same {H H' : Hp} {v : V} {d : PyData} (s : Same H H') (h : Pd (In H) v d) : Pd (In H') v d := h.mono (fun a o e => s a o e)
theorem Pd.off {b : Addr} {H : Hp} {v : V} {d : PyData} (h : Pd (Off b H) v d) : Pd (In H) v d := h.mono (fun a o e => e.1)
theorem Pd.but {b : Addr} {H H' : Hp} {v : V} {d : PyData} (s : But b H H') (h : Pd (Off b H) v d) : Pd (Off b H') v d := h.mono (fun a o e => ⟨s a o e.2 e.1, e.2⟩)
theorem Pd.sameOff {b : Addr} {H H' : Hp} {v : V} {d : PyData} (s : Same H H') (h : Pd (Off b H) v d) : Pd (Off b H') v d := h.mono (fun a o e => ⟨s a o e.1, e.2⟩)
section
variable {K : PySem.W.Frag} {H : Hp}
mutual
theorem Pd.dp : ∀ (d : PyData) (v : V), Pd (In H) v d → Dp K H v d
  | .none, _, h => by cases h; exact .non
  | .bool b, _, h => by cases h; exact .bl b
  | .int i, _, h => by cases h; exact .int i
  | .str x, _, h => by cases h; exact .str x
  | .list ds, _, h => by
    cases h with
    | lst h1 h2 => exact .lst (SqL.of h1) (PdAll.dp ds _ h2)
  | .tuple ds, _, h => by
    cases h with
    | tup h1 h2 => exact .tup (SqT.of h1) (PdAll.dp ds _ h2)
  | .dict _, _, h => by cases h
theorem PdAll.dp : ∀ (ds : List PyData) (vs : List V), PdAll (In H) vs ds → DpAll K H vs ds
  | [], _, h => by cases h; exact .nil
  | d :: ds, _, h => by
    cases h with
    | cons h1 h2 => exact .cons (Pd.dp d _ h1) (PdAll.dp ds _ h2)
end
end
def tyn : PyData → String
  | .none => "NoneType"
  | .bool _ => "bool"
  | .int _ => "int"
  | .str _ => "str"
  | .list _ => "list"
  | .tuple _ => "tuple"
  | .dict _ => "dict"
theorem Pd.ty {K : PySem.W.Frag} {H : Hp} {v : V} {d : PyData} (h : Pd (In H) v d) : TyX K H v (.type (tyn d)) := by
  cases h with
  | non => exact .base .non
  | bl b => exact .base (.bl b)
  | int i => exact .base (.int i)
  | str s => exact .base (.str s)
  | lst e _ => exact .base (.lst e)
  | tup e _ => exact .base (.tup e)
theorem PdAll.length {R : Addr → HO → Prop} : ∀ {ds : List PyData} {vs : List V}, PdAll R vs ds → vs.length = ds.length
  | [], _, h => by cases h; rfl
  | d :: ds, _, h => by
    cases h with
    | cons h1 h2 => rw [List.length_cons, List.length_cons, h2.length]
theorem PdAll.mem {R : Addr → HO → Prop} : ∀ {ds : List PyData} {vs : List V} {i : Nat} {v : V}, PdAll R vs ds → vs[i]? = some v → ∃ d, d ∈ ds ∧ Pd R v d
  | [], _, _, _, h, e => by cases h; cases e
  | d :: ds, _, 0, v, h, e => by
    cases h with
    | cons h1 h2 =>
      cases e
      exact ⟨d, List.mem_cons_self .., h1⟩
  | d :: ds, _, i + 1, v, h, e => by
    cases h with
    | cons h1 h2 =>
      obtain ⟨d', m, q⟩ := h2.mem (i := i) e
      exact ⟨d', List.mem_cons_of_mem _ m, q⟩
theorem PdAll.append {R : Addr → HO → Prop} : ∀ {ds es : List PyData} {vs us : List V}, PdAll R vs ds → PdAll R us es → PdAll R (vs ++ us) (ds ++ es)
  | [], _, _, _, h, g => by cases h; exact g
  | d :: ds, _, _, _, h, g => by
    cases h with
    | cons h1 h2 => exact .cons h1 (h2.append g)
theorem PdAll.sameOff {b : Addr} {H H' : Hp} {vs : List V} {ds : List PyData} (s : Same H H') (h : PdAll (Off b H) vs ds) : PdAll (Off b H') vs ds := h.mono (fun a o e => ⟨s a o e.1, e.2⟩)
theorem PdAll.butOff {b : Addr} {H H' : Hp} {vs : List V} {ds : List PyData} (s : But b H H') (h : PdAll (Off b H) vs ds) : PdAll (Off b H') vs ds := h.mono (fun a o e => ⟨s a o e.2 e.1, e.2⟩)
/-! ### texts -/
def okText (s : Str) : Bool := Txt.isascii s && Txt.isprintable (Txt.replace s "\n" "")
def isTxtD : PyData → Bool
  | .str s => okText s
  | _ => false
def isIntD : PyData → Bool
  | .int _ => true
  | _ => false
def isNumD : PyData → Bool
  | .int i => decide (0 ≤ i)
  | _ => false
def numD : PyData → Int
  | .int i => i
  | _ => 0
def isEditD (n : Int) : PyData → Bool
  | .tuple [p, r, i] => isNumD p && isNumD r && isTxtD i && decide (numD p + numD r ≤ n)
  | _ => false
theorem isEditD_len {n : Int} {ds : List PyData} (h : ds.length ≠ 3) : isEditD n (.tuple ds) = false := by
  match ds, h with
  | [], _ => rfl
  | [_], _ => rfl
  | [_, _], _ => rfl
  | [_, _, _], h => exact absurd rfl h
  | _ :: _ :: _ :: _ :: _, _ => rfl
theorem isTxtD_form {d : PyData} (h : isTxtD d = true) : ∃ s, d = .str s ∧ okText s = true := by
  cases d with
  | str s => exact ⟨s, rfl, h⟩
  | _ => cases h
theorem isNumD_form {d : PyData} (h : isNumD d = true) : ∃ i, d = .int i ∧ 0 ≤ i := by
  cases d with
  | int i => exact ⟨i, rfl, of_decide_eq_true h⟩
  | _ => cases h
theorem isEditD_form {n : Int} {d : PyData} (h : isEditD n d = true) : ∃ p r i, d = .tuple [.int p, .int r, .str i] ∧ 0 ≤ p ∧ 0 ≤ r ∧ okText i = true ∧ p + r ≤ n := by
  cases d with
  | tuple ds =>
    match ds, h with
    | [d1, d2, d3], h =>
      have e : isEditD n (.tuple [d1, d2, d3]) = (isNumD d1 && isNumD d2 && isTxtD d3 && decide (numD d1 + numD d2 ≤ n)) := rfl
      rw [e] at h
      simp only [Bool.and_eq_true, decide_eq_true_eq] at h
      obtain ⟨⟨⟨h1, h2⟩, h3⟩, h4⟩ := h
      obtain ⟨p, rfl, p0⟩ := isNumD_form h1
      obtain ⟨r, rfl, r0⟩ := isNumD_form h2
      obtain ⟨i, rfl, hi⟩ := isTxtD_form h3
      exact ⟨p, r, i, rfl, p0, r0, hi, h4⟩
    | [], h => cases h
    | [_], h => cases h
    | [_, _], h => cases h
    | _ :: _ :: _ :: _ :: _, h => cases h
  | _ => cases h
/-- a text with an edit put in; what the edit takes out -/
def putIn (t : Str) (p r : Int) (i : Str) : Str := cutS t none (some p) ++ i ++ cutS t (some (p + r)) none
def tookOut (t : Str) (p r : Int) : Str := cutS t (some p) (some (p + r))
theorem putIn_len {t i : Str} {p r : Int} {n m : Nat} (h : t.length ≤ n) (h' : i.length ≤ m) : (putIn t p r i).length ≤ n + m + n := by
  unfold putIn
  rw [strLen_append, strLen_append]
  have h1 := cutS_length t none (some p)
  have h2 := cutS_length t (some (p + r)) none
  omega
theorem tookOut_len {t : Str} {p r : Int} : (tookOut t p r).length ≤ t.length := cutS_length t _ _
theorem join_del (c : Nat) : ∀ parts : List Str, (∀ p ∈ parts, c ∉ p.cps.toList) → (Str.join ⟨#[c]⟩ parts).cps.toList.filter (fun k => k != c) = (Str.join ("" : Str) parts).cps.toList
  | [], _ => rfl
  | [p], h => by
    show p.cps.toList.filter _ = p.cps.toList
    refine List.filter_eq_self.mpr fun k hk => ?_
    exact bne_iff_ne.mpr fun e => h p (List.mem_singleton.mpr rfl) (e ▸ hk)
  | p :: q :: r, h => by
    have ih := join_del c (q :: r) fun a ha => h a (List.mem_cons_of_mem _ ha)
    show (p ++ ⟨#[c]⟩ ++ Str.join ⟨#[c]⟩ (q :: r)).cps.toList.filter _ = (p ++ ("" : Str) ++ Str.join ("" : Str) (q :: r)).cps.toList
    simp only [Str.cps_append, Array.toList_append, List.filter_append, ih]
    have e1 : p.cps.toList.filter (fun k => k != c) = p.cps.toList := List.filter_eq_self.mpr fun k hk => bne_iff_ne.mpr fun e => h p (List.mem_cons_self ..) (e ▸ hk)
    rw [e1]
    have e2 : ([c] : List Nat).filter (fun k => k != c) = [] := by simp
    have e3 : ("" : Str).cps.toList = [] := by decide +kernel
    rw [e3]
    show p.cps.toList ++ List.filter (fun k => k != c) [c] ++ _ = _
    rw [e2]
theorem replace_del (x : Str) (c : Nat) : (Txt.replace x ⟨#[c]⟩ "").cps.toList = x.cps.toList.filter (fun k => k != c) := by
  rw [StrLaws.replace_one, ← join_del c _ (StrLaws.split_free x c), StrLaws.join_split]
/-- a sign of a text -/
def okSign (c : Nat) : Bool := decide (c < 128) && (c == 10 || Unicode.isPrintable c)
theorem all_and_filter {α : Type} (p q r : α → Bool) : ∀ l : List α, (l.all p && (l.filter q).all r) = l.all fun x => p x && (!q x || r x)
  | [] => rfl
  | x :: l => by
    have ih := all_and_filter p q r l
    rw [List.all_cons, List.all_cons, List.filter_cons, ← ih]
    cases q x
    · simp only [Bool.false_eq_true, if_false, Bool.not_false, Bool.true_or, Bool.and_true, Bool.and_assoc]
    · simp only [if_true, List.all_cons, Bool.not_true, Bool.false_or]
      cases p x <;> cases r x <;> simp
theorem okText_eq (s : Str) : okText s = s.cps.toList.all okSign := by
  have e : (Txt.replace s "\n" "").cps.toList = s.cps.toList.filter (fun k => k != 10) := replace_del s 10
  unfold okText Txt.isascii Txt.isprintable
  rw [← Array.all_toList, ← Array.all_toList, e, all_and_filter]
  refine congrArg s.cps.toList.all (funext fun c => ?_)
  unfold okSign
  show (decide (c < 128) && (!(c != 10) || _)) = _
  rw [bne, Bool.not_not]
theorem okSign_small : ∀ c, c < 127 → (c == 10 || decide (32 ≤ c)) = true → okSign c = true := by decide +kernel
end Al
/-! ## how long the repr of plain data is -/
namespace Al
open PySem PySem.Spec PyProof.Rows L2
mutual
def okD : PyData → Prop
  | .none => True
  | .bool _ => True
  | .int i => i.natAbs < 1000000000
  | .str s => ∀ c ∈ s.cps.toList, c < 16 ^ 8
  | .list xs => okAll xs
  | .tuple xs => okAll xs
  | .dict _ => False
def okAll : List PyData → Prop
  | [] => True
  | x :: xs => okD x ∧ okAll xs
end
mutual
def cost : PyData → Nat
  | .none => 4
  | .bool _ => 5
  | .int _ => 1921
  | .str s => 10 * s.length + 2
  | .list xs => 2 + costAll xs
  | .tuple xs => 3 + costAll xs
  | .dict _ => 0
def costAll : List PyData → Nat
  | [] => 0
  | x :: xs => cost x + 2 + costAll xs
end
theorem listText_le : ∀ ts : List Str, (listText ts).length ≤ 2 + piled ts
  | [] => by decide +kernel
  | t :: r => by
    have h := textFrom_length_pos r 1 (("[" : Str) ++ (if (0 : Nat) > 0 then ", " else "" : String) ++ t) (Nat.succ_pos 0)
    have e : ((("[" : Str) ++ (if (0 : Nat) > 0 then ", " else "" : String) ++ t)).length = 1 + t.length := by
      rw [strLen_append, strLen_append]
      rfl
    have hX : (listText (t :: r)).length = (textFrom 0 "[" (t :: r)).length + 1 := by
      show (textFrom 0 "[" (t :: r) ++ "]").length = _
      rw [strLen_append]
      rfl
    have hY : (textFrom 0 "[" (t :: r)).length = (textFrom 1 (("[" : Str) ++ (if (0 : Nat) > 0 then ", " else "" : String) ++ t) r).length := rfl
    rw [hX, hY, h, e, piled_cons]
    omega
theorem tupleText_le (ts : List Str) : (tupleText ts).length ≤ 3 + piled ts := by
  unfold tupleText
  rw [strLen_append, strLen_append]
  have e1 : ((("(" : String) : Str)).length = 1 := rfl
  have e3 : (((if ts.length == 1 then ",)" else ")" : String) : Str)).length ≤ 2 := by split <;> decide
  rw [e1]
  by_cases h : ts = []
  · subst h
    have e4 : (Str.join ", " ([] : List Str)).length = 0 := rfl
    omega
  · have := join_length_add ts h
    omega
theorem log2_small {n : Nat} (h : n < 1000000000) : n.log2 < 1920 := by
  rcases Nat.eq_zero_or_pos n with rfl | hp
  · decide
  · exact (Nat.log2_lt (by omega)).mpr (Nat.lt_of_lt_of_le h (by decide +kernel))
mutual
theorem okD_fits : ∀ d : PyData, okD d → d.shown.length ≤ cost d ∧ d.showable = true ∧ d.hasDict = false
  | .none, _ => ⟨by simp only [PyData.shown, cost]; decide, by simp only [PyData.showable], by simp only [PyData.hasDict]⟩
  | .bool b, _ => ⟨by simp only [PyData.shown, cost]; cases b <;> decide, by simp only [PyData.showable], by simp only [PyData.hasDict]⟩
  | .int i, h => by
    have h' : i.natAbs < 1000000000 := by simpa only [okD] using h
    refine ⟨?_, by simp only [PyData.showable]; exact decide_eq_true (log2_small h'), by simp only [PyData.hasDict]⟩
    simp only [PyData.shown, cost]
    exact PyProof.Rows.int_text_len_1921 (log2_small h')
  | .str s, h => by
    have h' : ∀ c ∈ s.cps.toList, c < 16 ^ 8 := by simpa only [okD] using h
    exact ⟨by simp only [PyData.shown, cost]; exact StrLaws.reprText_len s h', by simp only [PyData.showable], by simp only [PyData.hasDict]⟩
  | .list xs, h => by
    obtain ⟨h1, h2, h3⟩ := okAll_fits xs (by simpa only [okD] using h)
    refine ⟨?_, by simp only [PyData.showable]; exact h2, by simp only [PyData.hasDict]; exact h3⟩
    simp only [PyData.shown, cost]
    exact Nat.le_trans (listText_le _) (Nat.add_le_add_left h1 2)
  | .tuple xs, h => by
    obtain ⟨h1, h2, h3⟩ := okAll_fits xs (by simpa only [okD] using h)
    refine ⟨?_, by simp only [PyData.showable]; exact h2, by simp only [PyData.hasDict]; exact h3⟩
    simp only [PyData.shown, cost]
    exact Nat.le_trans (tupleText_le _) (Nat.add_le_add_left h1 3)
  | .dict _, h => absurd h (by simp only [okD]; exact id)
theorem okAll_fits : ∀ ds : List PyData, okAll ds → piled (PyData.shownAll ds) ≤ costAll ds ∧ PyData.showableAll ds = true ∧ PyData.hasDictAll ds = false
  | [], _ => ⟨by simp only [PyData.shownAll, costAll, piled_nil, Nat.le_refl], by simp only [PyData.showableAll], by simp only [PyData.hasDictAll]⟩
  | d :: ds, h => by
    have h' : okD d ∧ okAll ds := by simpa only [okAll] using h
    obtain ⟨a1, a2, a3⟩ := okD_fits d h'.1
    obtain ⟨b1, b2, b3⟩ := okAll_fits ds h'.2
    refine ⟨?_, by simp only [PyData.showableAll, a2, b2, Bool.and_self], by simp only [PyData.hasDictAll, a3, b3, Bool.or_self]⟩
    simp only [PyData.shownAll, costAll, piled_cons]
    omega
end
/-- data whose repr can be told, and is not long -/
structure Shw (d : PyData) : Prop where
  show_ : d.showable = true
  nod : d.hasDict = false
  dep : d.depth ≤ 60
  len : d.shown.length ≤ 100000
theorem Shw.of {d : PyData} (h : okD d) (hc : cost d ≤ 100000) (hd : d.depth ≤ 60) : Shw d := by
  obtain ⟨a, b, c⟩ := okD_fits d h
  exact ⟨b, c, hd, Nat.le_trans a hc⟩
end Al
/-! ## an edit and the one that turns it back -/
namespace Al
open PySem PySem.Spec PyProof.Rows L2
theorem str_ext {s t : Str} (h : s.cps.toList = t.cps.toList) : s = t := by
  obtain ⟨⟨l⟩⟩ := s
  obtain ⟨⟨m⟩⟩ := t
  cases (show l = m from h)
  rfl
theorem cut_head {t : Str} {i : Nat} (h : i ≤ t.length) : (cutS t none (some (i : Int))).cps.toList = t.cps.toList.take i := by
  show ((t.cps.toList.drop (HT.sIx t.length 0 none)).take (HT.sIx t.length t.length (some (i : Int)) - HT.sIx t.length 0 none)) = _
  rw [HT.sIx_nat, HT.sIx_none, Nat.min_eq_left h, Nat.sub_zero, List.drop_zero]
theorem cut_tail {t : Str} {i : Nat} (h : i ≤ t.length) : (cutS t (some (i : Int)) none).cps.toList = t.cps.toList.drop i := by
  show ((t.cps.toList.drop (HT.sIx t.length 0 (some (i : Int)))).take (HT.sIx t.length t.length none - HT.sIx t.length 0 (some (i : Int)))) = _
  rw [HT.sIx_nat, HT.sIx_none, Nat.min_eq_left h, List.take_of_length_le]
  rw [List.length_drop, ← len_cps]
  exact Nat.le_refl _
theorem cut_mid {t : Str} {i j : Nat} (hi : i ≤ t.length) (hj : j ≤ t.length) : (cutS t (some (i : Int)) (some (j : Int))).cps.toList = (t.cps.toList.drop i).take (j - i) := by
  show ((t.cps.toList.drop (HT.sIx t.length 0 (some (i : Int)))).take (HT.sIx t.length t.length (some (j : Int)) - HT.sIx t.length 0 (some (i : Int)))) = _
  rw [HT.sIx_nat, HT.sIx_nat, Nat.min_eq_left hi, Nat.min_eq_left hj]
section
variable {t i : Str} {p r : Nat}
theorem putIn_list (h : p + r ≤ t.length) : (putIn t p r i).cps.toList = t.cps.toList.take p ++ i.cps.toList ++ t.cps.toList.drop (p + r) := by
  unfold putIn
  rw [Str.cps_append, Str.cps_append, Array.toList_append, Array.toList_append, cut_head (by omega), show ((p : Int) + (r : Int)) = ((p + r : Nat) : Int) by omega, cut_tail h]
theorem tookOut_list (h : p + r ≤ t.length) : (tookOut t p r).cps.toList = (t.cps.toList.drop p).take r := by
  unfold tookOut
  rw [show ((p : Int) + (r : Int)) = ((p + r : Nat) : Int) by omega, cut_mid (by omega) h, Nat.add_sub_cancel_left]
theorem tookOut_length (h : p + r ≤ t.length) : (tookOut t p r).length = r := by
  rw [len_cps, tookOut_list h, List.length_take, List.length_drop, ← len_cps]
  omega
theorem putIn_length (h : p + r ≤ t.length) : (putIn t p r i).length + r = t.length + i.length := by
  rw [len_cps, putIn_list h, List.length_append, List.length_append, List.length_take, List.length_drop, ← len_cps, ← len_cps]
  omega
/-- the back edit leads back -/
theorem put_back (h : p + r ≤ t.length) : putIn (putIn t p r i) p i.length (tookOut t p r) = t := by
  refine str_ext ?_
  have hl := putIn_length (i := i) h
  have lt := len_cps t
  have li := len_cps i
  rw [putIn_list (by omega), putIn_list h, tookOut_list h]
  have e1 : (t.cps.toList.take p ++ i.cps.toList ++ t.cps.toList.drop (p + r)).take p = t.cps.toList.take p := by
    rw [List.append_assoc, List.take_append_of_le_length (by rw [List.length_take]; omega), List.take_take, Nat.min_self]
  have e2 : (t.cps.toList.take p ++ i.cps.toList ++ t.cps.toList.drop (p + r)).drop (p + i.length) = t.cps.toList.drop (p + r) := by
    rw [List.drop_append_of_le_length (by rw [List.length_append, List.length_take]; omega), List.drop_eq_nil_of_le (by rw [List.length_append, List.length_take]; omega), List.nil_append]
  rw [e1, e2, ← List.drop_drop, List.append_assoc, List.take_append_drop, List.take_append_drop]
/-- what the back edit takes out -/
theorem took_back (h : p + r ≤ t.length) : tookOut (putIn t p r i) p i.length = i := by
  refine str_ext ?_
  have hl := putIn_length (i := i) h
  have lt := len_cps t
  have li := len_cps i
  rw [tookOut_list (by omega), putIn_list h, List.append_assoc, List.drop_append_of_le_length (by rw [List.length_take]; omega), List.drop_eq_nil_of_le (by rw [List.length_take]; omega), List.nil_append, List.take_append_of_le_length (by omega), List.take_of_length_le (by omega)]
theorem okText_put (h : p + r ≤ t.length) (ht : okText t = true) (hi : okText i = true) : okText (putIn t p r i) = true := by
  rw [okText_eq] at *
  rw [putIn_list h, List.all_append, List.all_append, hi, Bool.and_true, Bool.and_eq_true]
  have ha := List.all_eq_true.mp ht
  exact ⟨List.all_eq_true.mpr fun c hc => ha c (List.mem_of_mem_take hc), List.all_eq_true.mpr fun c hc => ha c (List.mem_of_mem_drop hc)⟩
theorem okText_took (h : p + r ≤ t.length) (ht : okText t = true) : okText (tookOut t p r) = true := by
  rw [okText_eq] at *
  rw [tookOut_list h]
  have ha := List.all_eq_true.mp ht
  exact List.all_eq_true.mpr fun c hc => ha c (List.mem_of_mem_drop (List.mem_of_mem_take hc))
end
/-- the edits, latest back edit first, that lead t back to f -/
inductive Un (f : Str) : Str → List (Nat × Nat × Str) → Prop where
  | nil : Un f f []
  | cons {t i : Str} {p r : Nat} {l : List (Nat × Nat × Str)} (hi : okText i = true) (li : i.length ≤ 1000) (h : p + r ≤ t.length) (n : Un f (putIn t p r i) l) : Un f t ((p, r, i) :: l)
end Al
/-! ## a text times a number -/
namespace Al
open PySem PySem.Spec PyProof.Rows L2
theorem fold_reps (c : Array Nat) : ∀ (k : Nat) (acc : Array Nat), ((List.replicate k c).foldl (· ++ ·) acc).toList = acc.toList ++ (List.replicate k c.toList).flatten
  | 0, acc => by simp
  | k + 1, acc => by
    rw [List.replicate_succ, List.foldl_cons, fold_reps c k, List.replicate_succ, List.flatten_cons, Array.toList_append, List.append_assoc]
theorem op_repS {X : Cx} : OpR X (binaryOp .Mult) (fun x y H Q => ∃ (z : Str) (n : Int), x = .str z ∧ y = .int n ∧ 2 ≤ n ∧ n ≤ 1000 ∧ z.length ≤ 10000 ∧ ∀ o : Str, o.cps.toList = (List.replicate n.toNat z.cps.toList).flatten → Q (.str o) H) := by
  intro pins s σ H x y v u Q I rx ry h
  obtain ⟨z, n, rfl, rfl, h1, h2, h3, q⟩ := h
  obtain ⟨t, rfl⟩ := rx
  obtain ⟨t', rfl⟩ := ry
  have hm : z.length * n.toNat ≤ 10000 * 1000 := Nat.mul_le_mul h3 (by omega)
  have tl : Builtin.Str.tooLong (z.length * n.toNat) = false := by
    unfold Builtin.Str.tooLong sizeLine
    exact decide_eq_false (by omega)
  refine PySem.P.mul_str ?_ (fun _ _ => ?_) (fun _ _ => ?_) ?_
  · rw [decide_eq_false (by omega), decide_eq_false (by omega)]
    rfl
  · have : (10000 : Int) ≤ (2 ^ 63 - 1) / n := (Int.le_ediv_iff_mul_le (by omega)).mpr (by omega)
    omega
  · exact tl
  · rw [if_neg (by omega)]
    split
    · rename_i c
      refine ⟨.str z, H, I, ⟨t, rfl⟩, q z ?_⟩
      have hn : (n == 1) = false := beq_eq_false_iff_ne.mpr (by omega)
      rw [hn, Bool.false_or, beq_iff_eq] at c
      have e : z.cps.toList = [] := List.length_eq_zero_iff.mp (by rw [← len_cps]; exact c)
      rw [e, List.flatten_eq_nil_iff.mpr fun l hl => (List.mem_replicate.mp hl).2]
    · refine ⟨?_, .str _, H, I.tok _, ⟨_, rfl⟩, q _ (by rw [fold_reps]; rfl)⟩
      exact fits_reps tl
end Al
/-! ## a module's tuple -/
namespace Al
open PySem PySem.Spec PyProof.Rows L2
theorem relV_of_abs {x : V} {u : Value} (h : absV u = some x) : RelV x u := by
  cases u <;> simp only [absV] at h <;> first | (cases h; exact rfl) | (cases h; exact ⟨_, rfl⟩) | cases h
def absVs : List Value → Option (List V)
  | [] => some []
  | u :: us => match absV u, absVs us with
    | some x, some xs => some (x :: xs)
    | _, _ => none
theorem vals_of_abs : ∀ {us : List Value} {xs : List V}, absVs us = some xs → Vals xs us
  | [], xs, h => by cases h; exact .nil
  | u :: us, xs, h => by
    unfold absVs at h
    split at h
    · rename_i x ys e1 e2
      cases h
      exact .cons (relV_of_abs e1) (vals_of_abs e2)
    · cases h
structure KTup (K : PySem.W.Frag) (a : Addr) (xs : List V) : Prop where
  ex : ∃ (o : Obj) (its : Array Value) (n : Nat), K.lookup a = some o ∧ o.cls = .type "tuple" ∧ o.data = .seq its n ∧ its.size ≤ sizeLine ∧ Vals xs its.toList
theorem KTup.of {K : PySem.W.Frag} {a : Addr} {xs : List V} {od : Option Addr} {its : Array Value} {n : Nat} {sl : Array (Option Value)} (h : K.lookup a = some ⟨.type "tuple", od, .seq its n, sl⟩) (e : absVs its.toList = some xs) (l : Nat.ble its.size 1000000 = true) : KTup K a xs :=
  ⟨⟨_, its, n, h, rfl, rfl, le_line (Nat.le_of_ble_eq_true l), vals_of_abs e⟩⟩
theorem KTup.sq {K : PySem.W.Frag} {H : Hp} {a : Addr} {xs : List V} (h : KTup K a xs) : SqT K H a xs := .inr h.ex
/-- what reads as a tuple is one -/
theorem SqT_ty {K : PySem.W.Frag} {H : Hp} {a : Addr} {xs : List V} (h : SqT K H a xs) : TyX K H (.ref a) (.type "tuple") := by
  rcases h with (h | ⟨o, h⟩) | ⟨o, its, n, h, c, _⟩
  · exact .base (.tup h)
  · exact .fTuple h
  · exact .kTuple h c
end Al
/-! ## the least edit from one text to another -/
namespace Al
open PySem PySem.Spec PyProof.Rows L2
/-- both texts begin (end) with the same n signs -/
def Pre (s t : Str) (n : Nat) : Prop := n ≤ s.length ∧ n ≤ t.length ∧ s.cps.toList.take n = t.cps.toList.take n
def Suf (s t : Str) (n : Nat) : Prop := n ≤ s.length ∧ n ≤ t.length ∧ s.cps.toList.drop (s.length - n) = t.cps.toList.drop (t.length - n)
section
variable {s t i i' : Str} {n m p r p' r' : Nat}
theorem Pre.zero : Pre s t 0 := ⟨Nat.zero_le _, Nat.zero_le _, by rw [List.take_zero, List.take_zero]⟩
theorem Pre.le (h : Pre s t n) (l : m ≤ n) : Pre s t m := by
  obtain ⟨a, b, c⟩ := h
  refine ⟨by omega, by omega, ?_⟩
  have := congrArg (List.take m) c
  rwa [List.take_take, List.take_take, Nat.min_eq_left l] at this
theorem Pre.step (h : Pre s t n) (l : n ≤ m) (a : m ≤ s.length) (b : m ≤ t.length) : cutS s (some (n : Int)) (some (m : Int)) = cutS t (some (n : Int)) (some (m : Int)) ↔ Pre s t m := by
  have e1 := cut_mid (t := s) (i := n) (j := m) (by omega) a
  have e2 := cut_mid (t := t) (i := n) (j := m) (by omega) b
  constructor
  · intro e
    refine ⟨a, b, ?_⟩
    rw [e, e2] at e1
    obtain ⟨k, rfl⟩ : ∃ k, m = n + k := ⟨m - n, by omega⟩
    rw [Nat.add_sub_cancel_left] at e1
    rw [List.take_add, List.take_add, h.2.2, e1]
  · intro g
    refine str_ext ?_
    rw [e1, e2]
    have := congrArg (List.drop n) g.2.2
    rwa [List.drop_take, List.drop_take] at this
theorem Suf.zero : Suf s t 0 := ⟨Nat.zero_le _, Nat.zero_le _, by rw [Nat.sub_zero, Nat.sub_zero, List.drop_eq_nil_of_le (by rw [← len_cps]; exact Nat.le_refl _), List.drop_eq_nil_of_le (by rw [← len_cps]; exact Nat.le_refl _)]⟩
theorem Suf.le (h : Suf s t n) (l : m ≤ n) : Suf s t m := by
  obtain ⟨a, b, c⟩ := h
  refine ⟨by omega, by omega, ?_⟩
  have := congrArg (List.drop (n - m)) c
  rwa [List.drop_drop, List.drop_drop, show s.length - n + (n - m) = s.length - m by omega, show t.length - n + (n - m) = t.length - m by omega] at this
theorem Suf.step (h : Suf s t n) (l : n ≤ m) (a : m ≤ s.length) (b : m ≤ t.length) : cutS s (some ((s.length - m : Nat) : Int)) (some ((s.length - n : Nat) : Int)) = cutS t (some ((t.length - m : Nat) : Int)) (some ((t.length - n : Nat) : Int)) ↔ Suf s t m := by
  have e1 := cut_mid (t := s) (i := s.length - m) (j := s.length - n) (by omega) (by omega)
  have e2 := cut_mid (t := t) (i := t.length - m) (j := t.length - n) (by omega) (by omega)
  rw [show s.length - n - (s.length - m) = m - n by omega] at e1
  rw [show t.length - n - (t.length - m) = m - n by omega] at e2
  constructor
  · intro e
    refine ⟨a, b, ?_⟩
    rw [e, e2] at e1
    rw [← List.take_append_drop (m - n) (s.cps.toList.drop (s.length - m)), ← List.take_append_drop (m - n) (t.cps.toList.drop (t.length - m)), ← e1, List.drop_drop, List.drop_drop, show s.length - m + (m - n) = s.length - n by omega, show t.length - m + (m - n) = t.length - n by omega, h.2.2]
  · intro g
    refine str_ext ?_
    rw [e1, e2, g.2.2]
/-- an edit that leads from s to t -/
def Val (s t : Str) (p r : Nat) (i : Str) : Prop := p + r ≤ s.length ∧ putIn s p r i = t
/-- one edit goes ahead of another: fewer signs, or as many and not ahead of its place -/
def Bet (p r : Nat) (i : Str) (p' r' : Nat) (i' : Str) : Prop := r + i.length < r' + i'.length ∨ (r + i.length = r' + i'.length ∧ p' ≤ p)
structure Least (s t : Str) (p r : Nat) (i : Str) : Prop where
  same : s = t → p = 0 ∧ r = 0 ∧ i = ""
  val : Val s t p r i
  best : s ≠ t → ∀ p' r' i', Val s t p' r' i' → Bet p r i p' r' i'
theorem Val.len (h : Val s t p r i) : t.length + r = s.length + i.length := by
  have := putIn_length (i := i) h.1
  rw [h.2] at this
  omega
theorem Val.ins (h : Val s t p r i) : i = tookOut t p i.length := by
  have := took_back (i := i) h.1
  rw [h.2] at this
  exact this.symm
theorem Val.pre (h : Val s t p r i) : Pre s t p := by
  have hl := h.len
  have h1 := h.1
  refine ⟨by omega, by omega, ?_⟩
  rw [← h.2, putIn_list h.1, List.append_assoc, List.take_append_of_le_length (by rw [List.length_take, ← len_cps]; omega), List.take_take, Nat.min_self]
theorem Val.suf (h : Val s t p r i) : Suf s t (s.length - p - r) := by
  have hl := h.len
  have h1 := h.1
  refine ⟨by omega, by omega, ?_⟩
  have e1 : s.length - (s.length - p - r) = p + r := by omega
  have e2 : t.length - (s.length - p - r) = p + i.length := by omega
  have lp : (s.cps.toList.take p).length = p := by rw [List.length_take, ← len_cps]; omega
  have e4 : (s.cps.toList.take p ++ i.cps.toList).length = p + i.length := by rw [List.length_append, lp, ← len_cps]
  rw [e1, e2, ← h.2, putIn_list h.1, ← e4, List.drop_left]
theorem Least.refl : Least s s 0 0 "" := ⟨fun _ => ⟨rfl, rfl, rfl⟩, ⟨Nat.zero_le _, str_ext (by
  rw [putIn_list (Nat.zero_le _)]
  have e3 : ("" : Str).cps.toList = [] := by decide +kernel
  rw [e3]
  simp)⟩, fun h => absurd rfl h⟩
theorem Least.uniq (h : Least s t p r i) (g : Least s t p' r' i') : p = p' ∧ r = r' ∧ i = i' := by
  by_cases e : s = t
  · obtain ⟨a, b, c⟩ := h.same e
    obtain ⟨a', b', c'⟩ := g.same e
    exact ⟨a.trans a'.symm, b.trans b'.symm, c.trans c'.symm⟩
  · have h1 := h.best e _ _ _ g.val
    have h2 := g.best e _ _ _ h.val
    have l1 := h.val.len
    have l2 := g.val.len
    unfold Bet at h1 h2
    have ep : p = p' := by omega
    have er : r = r' := by omega
    have el : i.length = i'.length := by omega
    refine ⟨ep, er, ?_⟩
    rw [h.val.ins, g.val.ins, ep, el]
/-- of what is kept ahead and behind: the least edit -/
theorem least_of {m L B : Nat} (ne : s ≠ t) (hm : m ≤ s.length) (hm' : m ≤ t.length) (hx : m = s.length ∨ m = t.length) (lL : L ≤ m) (pL : Pre s t L) (mL : ∀ n, n ≤ m → Pre s t n → n ≤ L) (lB : B ≤ m - L) (sB : Suf s t B) (mB : ∀ n, n ≤ m - L → Suf s t n → n ≤ B) :
    Least s t L (s.length - B - L) (cutS t (some (L : Int)) (some ((t.length - B : Nat) : Int))) := by
  have e2 := cut_mid (t := t) (i := L) (j := t.length - B) (by omega) (by omega)
  have li : (cutS t (some (L : Int)) (some ((t.length - B : Nat) : Int))).length = t.length - B - L := by
    rw [len_cps, e2, List.length_take, List.length_drop, ← len_cps]
    omega
  have hv : Val s t L (s.length - B - L) (cutS t (some (L : Int)) (some ((t.length - B : Nat) : Int))) := by
    refine ⟨by omega, str_ext ?_⟩
    rw [putIn_list (by omega), e2, pL.2.2, show L + (s.length - B - L) = s.length - B by omega, sB.2.2]
    have e3 : t.cps.toList.drop (t.length - B) = (t.cps.toList.drop L).drop (t.length - B - L) := by rw [List.drop_drop, show L + (t.length - B - L) = t.length - B by omega]
    rw [e3, List.append_assoc, List.take_append_drop, List.take_append_drop]
  refine ⟨fun e => absurd e ne, hv, fun _ p' r' i' v => ?_⟩
  have vl := v.len
  have v1 := v.1
  have vp := v.pre
  have vs := v.suf
  have hp : p' ≤ L := mL p' (by have := vp.1; have := vp.2.1; omega) vp
  have hb : p' + (s.length - p' - r') ≤ L + B := by
    by_cases c : s.length - p' - r' ≤ m - L
    · have := mB _ c vs
      omega
    · have := mB (m - L) (Nat.le_refl _) (vs.le (by omega))
      omega
  unfold Bet
  rw [li]
  omega
/-- the best edit of those looked at so far: places below k, at k those that take out less than q -/
structure BestTo (s t : Str) (p r : Nat) (i : Str) (k q : Nat) : Prop where
  val : Val s t p r i
  place : p ≤ k
  best : ∀ p' r' i', Val s t p' r' i' → p' < k ∨ (p' = k ∧ r' < q) → Bet p r i p' r' i'
theorem BestTo.start : BestTo s t 0 s.length t 0 0 := ⟨⟨by omega, str_ext (by
  rw [putIn_list (by omega), Nat.zero_add, List.take_zero, List.nil_append, List.drop_eq_nil_of_le (by rw [← len_cps]; exact Nat.le_refl _), List.append_nil])⟩, Nat.zero_le _, fun p' r' i' _ h => by omega⟩
theorem BestTo.next {k : Nat} (h : BestTo s t p r i k (s.length - k + 1)) : BestTo s t p r i (k + 1) 0 := ⟨h.val, Nat.le_succ_of_le h.place, fun p' r' i' v hh => h.best p' r' i' v (by have := v.1; omega)⟩
/-- the one looked at next does not lead there -/
theorem BestTo.skip {k q : Nat} (h : BestTo s t p r i k q) (no : ∀ j, ¬ Val s t k q j) : BestTo s t p r i k (q + 1) := ⟨h.val, h.place, fun p' r' i' v hh => by
  rcases hh with hh | ⟨rfl, hq⟩
  · exact h.best _ _ _ v (.inl hh)
  · rcases Nat.lt_or_eq_of_le (Nat.le_of_lt_succ hq) with hq | rfl
    · exact h.best _ _ _ v (.inr ⟨rfl, hq⟩)
    · exact absurd v (no _)⟩
theorem BestTo.keep {k q : Nat} {j : Str} (h : BestTo s t p r i k q) (v : Val s t k q j) (c : ¬ q + j.length ≤ r + i.length) : BestTo s t p r i k (q + 1) := ⟨h.val, h.place, fun p' r' i' v' hh => by
  rcases hh with hh | ⟨rfl, hq⟩
  · exact h.best _ _ _ v' (.inl hh)
  · rcases Nat.lt_or_eq_of_le (Nat.le_of_lt_succ hq) with hq | rfl
    · exact h.best _ _ _ v' (.inr ⟨rfl, hq⟩)
    · have l1 := v.len
      have l2 := v'.len
      unfold Bet
      omega⟩
theorem BestTo.take {k q : Nat} {j : Str} (h : BestTo s t p r i k q) (v : Val s t k q j) (c : q + j.length ≤ r + i.length) : BestTo s t k q j k (q + 1) := ⟨v, Nat.le_refl _, fun p' r' i' v' hh => by
  have hp := h.place
  rcases hh with hh | ⟨rfl, hq⟩
  · have := h.best _ _ _ v' (.inl hh)
    unfold Bet at *
    omega
  · rcases Nat.lt_or_eq_of_le (Nat.le_of_lt_succ hq) with hq | rfl
    · have := h.best _ _ _ v' (.inr ⟨rfl, hq⟩)
      unfold Bet at *
      omega
    · have l1 := v.len
      have l2 := v'.len
      unfold Bet
      omega⟩
theorem BestTo.least (ne : s ≠ t) (h : BestTo s t p r i (s.length + 1) 0) : Least s t p r i := ⟨fun e => absurd e ne, h.val, fun _ p' r' i' v => h.best _ _ _ v (.inl (by have := v.1; omega))⟩
/-- what is tried: the text between must be what is due there -/
theorem Val.tried {k q : Nat} {j : Str} (v : Val s t k q j) : (t.length : Int) - s.length + q = (j.length : Int) ∧ j = tookOut t k j.length := ⟨by have := v.len; omega, v.ins⟩
end
/-! ### a row of edits, as far as it fits -/
def putD (s : Str) : PyData → Str
  | .tuple [.int p, .int r, .str i] => putIn s p r i
  | _ => s
def rowGo (s : Str) : List PyData → Nat → Except Nat Str
  | [], _ => .ok s
  | e :: es, k => if isEditD s.length e = true then rowGo (putD s e) es (k + 1) else .error k
theorem rowGo_append {es fs : List PyData} : ∀ {s t : Str} {k : Nat}, rowGo s es k = .ok t → rowGo s (es ++ fs) k = rowGo t fs (k + es.length) := by
  induction es with
  | nil =>
    intro s t k h
    cases h
    rfl
  | cons e es ih =>
    intro s t k h
    unfold rowGo at h
    rw [List.cons_append, rowGo]
    by_cases c : isEditD s.length e = true
    · rw [if_pos c] at h ⊢
      rw [ih h, List.length_cons, show k + 1 + es.length = k + (es.length + 1) by omega]
    · rw [if_neg c] at h
      cases h
theorem putD_len {s : Str} {e : PyData} (h : isEditD s.length e = true) : ∃ p r i, e = .tuple [.int (p : Nat), .int (r : Nat), .str i] ∧ putD s e = putIn s p r i ∧ p + r ≤ s.length ∧ okText i = true ∧ (putD s e).length + r = s.length + i.length := by
  obtain ⟨p, r, i, rfl, p0, r0, hi, hl⟩ := isEditD_form h
  obtain ⟨p, rfl⟩ := Int.eq_ofNat_of_zero_le p0
  obtain ⟨r, rfl⟩ := Int.eq_ofNat_of_zero_le r0
  have hl' : p + r ≤ s.length := by omega
  exact ⟨p, r, i, rfl, rfl, hl', hi, putIn_length hl'⟩
theorem PdAll.get {R : Addr → HO → Prop} : ∀ {ds : List PyData} {vs : List V} {i : Nat} {v : V}, PdAll R vs ds → vs[i]? = some v → ∃ d, ds[i]? = some d ∧ Pd R v d
  | [], _, _, _, h, e => by cases h; cases e
  | d :: ds, _, 0, v, h, e => by
    cases h with
    | cons h1 h2 =>
      cases e
      exact ⟨d, rfl, h1⟩
  | d :: ds, _, i + 1, v, h, e => by
    cases h with
    | cons h1 h2 =>
      obtain ⟨d', m, q⟩ := h2.get (i := i) e
      exact ⟨d', m, q⟩
end Al
/-! ## min(xs, default=None), xs a list of ints -/
namespace Al
open PySem PySem.Spec PyProof.Rows L2
section
variable {pg : Program} {w : World} {A : Around} {R : Result → Shared → Prop} {I : Addr} {fp wr : List Addr} {n : Nat} {P : Nat → Value → Prop} {St : Nat → Heap → Prop} {d : Value} {dn : Str}
/-- the list that the loop keeps: the best so far, twice; or nothing yet -/
abbrev BestObj (vs : Array Value) (c : Nat) : Obj := { cls := .type "list", dict := none, data := .seq vs c, slots := #[] }
theorem minName : (toString "min" ++ toString ".loop" : String) = "min.loop" := by decide
theorem minD_go (W : Walks pg w A.in1 I fp wr n P St) (bt : Nat → Nat → Bool) (cmp : CmpOf pg w A.in1 .Lt P bt) (S : Addr) (nS : S ∉ fp) : ∀ (m i : Nat), n - (i + 1) = m → i + 1 ≤ n → ∀ (t : Shared) (b0 : Value) (c : Nat), St (i + 1) t.heap → P (argBest bt i) b0 →
    t.heap.get? S = some (BestObj #[b0, b0] c) →
    (∀ v h1 tk, P (argBest bt (n - 1)) v → (∀ b o, b ∉ wr → b ≠ S → t.heap.get? b = some o → h1.get? b = some o) → R (.ok (.ret v)) { t with heap := h1, toks := tk }) →
    codeAny (model pg w) A (.builtin "min.loop" ⟨[.ref I, .none, .ref S], [(dn, d)]⟩) R t := by
  have nW : S ∉ wr := fun z => nS (W.sub _ z)
  intro m
  induction m with
  | zero =>
    intro i hm hi t b0 c st pb hS out
    have ei : i + 1 = n := by omega
    refine codeAny_builtin F.entry_min_loop ?_
    rw [Around.under_plainId F.plain_min_loop _]
    show wpAny _ A.in1 (seqItems? (.ref S) >>= _) _ _ t
    refine wpAny_bind (wpAny_seqItems hS rfl ?_)
    show wpAny _ A.in1 (tryCatch (pyNext (.ref I)) _ >>= _) _ _ t
    refine wpAny_bind (wpAny_tryCatch (W.done t _ _ (ei ▸ st) fun h1 tk keep => ?_))
    have hS1 := keep S _ nW hS
    show wpAny _ A.in1 (updateSeq S (fun _ => #[]) >>= _) _ _ _
    refine wpAny_bind (wpAny_updateSeq hS1 rfl (wpAny_bind (wpAny_letGo (wpAny_pure ?_))))
    exact out b0 _ tk (by rw [← ei]; exact pb) fun b o nb ne e => (Heap.get?_update_other _ _ (Ne.symm ne)).trans (keep b o nb e)
  | succ m ih =>
    intro i hm hi t b0 c st pb hS out
    have lt : i + 1 < n := by omega
    refine codeAny_builtin F.entry_min_loop ?_
    rw [Around.under_plainId F.plain_min_loop _]
    show wpAny _ A.in1 (seqItems? (.ref S) >>= _) _ _ t
    refine wpAny_bind (wpAny_seqItems hS rfl ?_)
    show wpAny _ A.in1 (tryCatch (pyNext (.ref I)) _ >>= _) _ _ t
    refine wpAny_bind (wpAny_tryCatch (W.item (i + 1) t _ _ lt st fun v h1 tk pv st1 keep => ?_))
    have hS1 := keep S _ nW hS
    show wpAny _ A.in1 (tryCatch (holding [v, v] (richCompare .Lt v b0 >>= _)) _ >>= _) _ _ _
    refine wpAny_bind (wpAny_tryCatch (wpAny_holding (wpAny_bind (cmp (i + 1) (argBest bt i) v b0 _ _ _ pv pb (wpAny_bind (wpAny_holding (wpAny_truthy_bool (wpAny_bind (wpAny_letGo (wpAny_pure ?_))))))))))
    cases hb : bt (i + 1) (argBest bt i) with
    | true =>
      simp only [if_true]
      refine wpAny_bind (wpAny_updateSeq hS1 rfl (wpAny_bind (wpAny_letGo ?_)))
      rw [minName]
      have pn : P (argBest bt (i + 1)) v := by simp only [argBest, hb, if_true]; exact pv
      refine wpAny_pure ⟨plainId_quiet F.plain_min_loop _, ih (i + 1) (by omega) lt _ v _ (W.frame _ _ _ st1 fun b hb2 o e => ?_) pn (Heap.get?_update_self _ hS1 rfl) fun v2 h2 tk2 p2 k2 => ?_⟩
      · exact (Heap.get?_update_other _ _ (fun z : S = b => nS (by rw [z]; exact hb2))).trans e
      · exact out v2 h2 tk2 p2 fun b o nb ne e => k2 b o nb ne ((Heap.get?_update_other _ _ (Ne.symm ne)).trans (keep b o nb e))
    | false =>
      simp only [Bool.false_eq_true, if_false]
      refine wpAny_bind (wpAny_letGo ?_)
      rw [minName]
      have pn : P (argBest bt (i + 1)) b0 := by simp only [argBest, hb, Bool.false_eq_true, if_false]; exact pb
      exact wpAny_pure ⟨plainId_quiet F.plain_min_loop _, ih (i + 1) (by omega) lt _ b0 c st1 pn hS1 fun v2 h2 tk2 p2 k2 => out v2 h2 tk2 p2 fun b o nb ne e => k2 b o nb ne (keep b o nb e)⟩
theorem minD_first (W : Walks pg w A.in1 I fp wr n P St) (bt : Nat → Nat → Bool) (cmp : CmpOf pg w A.in1 .Lt P bt) (S : Addr) (nS : S ∉ fp) {t : Shared} {c : Nat} (st : St 0 t.heap) (hS : t.heap.get? S = some (BestObj #[] c))
    (zero : n = 0 → ∀ h1 tk, (∀ b o, b ∉ wr → b ≠ S → t.heap.get? b = some o → h1.get? b = some o) → R (.ok (.ret d)) { t with heap := h1, toks := tk })
    (out : 0 < n → ∀ v h1 tk, P (argBest bt (n - 1)) v → (∀ b o, b ∉ wr → b ≠ S → t.heap.get? b = some o → h1.get? b = some o) → R (.ok (.ret v)) { t with heap := h1, toks := tk }) :
    codeAny (model pg w) A (.builtin "min.loop" ⟨[.ref I, .none, .ref S], [(dn, d)]⟩) R t := by
  have nW : S ∉ wr := fun z => nS (W.sub _ z)
  refine codeAny_builtin F.entry_min_loop ?_
  rw [Around.under_plainId F.plain_min_loop _]
  show wpAny _ A.in1 (seqItems? (.ref S) >>= _) _ _ t
  refine wpAny_bind (wpAny_seqItems hS rfl ?_)
  show wpAny _ A.in1 (tryCatch (pyNext (.ref I)) _ >>= _) _ _ t
  rcases Nat.eq_zero_or_pos n with hn | hn
  · refine wpAny_bind (wpAny_tryCatch (W.done t _ _ (hn ▸ st) fun h1 tk keep => ?_))
    refine wpAny_bind (wpAny_rule (wpAny_pure ?_))
    exact zero hn h1 tk fun b o nb _ e => keep b o nb e
  · refine wpAny_bind (wpAny_tryCatch (W.item 0 t _ _ hn st fun v h1 tk pv st1 keep => ?_))
    have hS1 := keep S _ nW hS
    show wpAny _ A.in1 (updateSeq S (fun _ => #[v, v]) >>= _) _ _ _
    refine wpAny_bind (wpAny_updateSeq hS1 rfl ?_)
    rw [minName]
    refine wpAny_pure ⟨plainId_quiet F.plain_min_loop _, minD_go W bt cmp S nS _ 0 rfl hn _ v _ (W.frame _ _ _ st1 fun b hb2 o e => ?_) pv (Heap.get?_update_self _ hS1 rfl) fun v2 h2 tk2 p2 k2 => ?_⟩
    · exact (Heap.get?_update_other _ _ (fun z : S = b => nS (by rw [z]; exact hb2))).trans e
    · exact out hn v2 h2 tk2 p2 fun b o nb ne e => k2 b o nb ne ((Heap.get?_update_other _ _ (Ne.symm ne)).trans (keep b o nb e))
end
section
variable {pg : Program} {w : World} {A : Around} {E : Value → Shared → Prop} {s : Shared}
theorem args_minD (a d : Value) : argsOk "min" ⟨[a], [(Str.ofString "default", d)]⟩ := by unfold argsOk; kernel_rfl
/-- a builtin of a tree, called with keywords -/
theorem call_treeK {id : String} {b : Builtin} {us : List Value} {ks : List (Str × Value)} {Q : Value → Shared → Prop} (hk : builtinKind id = none) (hp : plainId id = true) (hb : entryFor table id = some b) (ok : argsOk id ⟨us, ks⟩)
    (go : wpAny (model pg w) A.in1 (b ⟨us, ks⟩) (fun fin t => match fin with
      | .done f => (match (Except.ok f : Result) with | .ok (.ret v) => Q v t | .ok _ => False | .error e => E e t)
      | .again c => c.quiet = true ∧ codeAny (model pg w) A c (fun r t => match r with | .ok (.ret v) => Q v t | .ok _ => False | .error e => E e t) t) E s) : wpAny (model pg w) A (call (.builtin id) us ks) Q E s := by
  refine wpAny_call (codeAny_call_builtin hp hb ?_)
  simp only [checkBuiltinCall, hk]
  cases hs : Manifest.signature? id with
  | none => exact wpAny_pure go
  | some sig =>
    have ok1 : Bind.checkArgs id sig ⟨us, ks⟩ = pure () := by simpa only [argsOk, hs] using ok
    simp only [ok1]
    exact wpAny_pure go
theorem minD_raw {l : Addr} {its : List Value} {ns : List Int} {d : Value} {Q : Value → Shared → Prop} (hh : A.handled = none) (hl : s.heap.IsList l its.toArray) (hi : IntsAre its ns)
    (zero : ns = [] → ∀ h1 tk, (∀ b o, s.heap.get? b = some o → h1.get? b = some o) → Q d { s with heap := h1, toks := tk })
    (out : ∀ h1 tk M u, (∀ b o, s.heap.get? b = some o → h1.get? b = some o) → M ∈ ns → (∀ a, a ∈ ns → M ≤ a) → Q (.int M u) { s with heap := h1, toks := tk }) : wpAny (model pg w) A (call (.builtin "min") [.ref l] [(Str.ofString "default", d)]) Q E s := by
  obtain ⟨xs, e⟩ := hi.allInts.items
  have hn : numsOf (intItems xs).toList = ns := by rw [← e]; exact hi.numsOf
  rw [nums_intItems] at hn
  subst hn
  rw [e] at hl
  have hsz : (intItems xs).size = xs.size := by simp [intItems]
  refine call_treeK F.kind_min F.plain_min F.entry_min (args_minD _ _) ?_
  show wpAny _ A.in1 (Builtin.Builtins.bindParams "min" ["key", "default"] 0 ⟨[], [(Str.ofString "default", d)]⟩ >>= _) _ _ s
  refine wpAny_bind (wpAny_of_eq (show Builtin.Builtins.bindParams "min" ["key", "default"] 0 ⟨[], [(Str.ofString "default", d)]⟩ = pure [none, some d] from rfl) ?_)
  refine wpAny_bind (wpAny_pure (wpAny_bind (iter_intList hl fun s2 e2 st lt lI => ?_)))
  subst e2
  have W := Walks.list (prog := pg) (w := w) (A := A.in1) hh s.heap.objs.size l lI (intItems xs)
  refine wpAny_bind (wpAny_newObj_type ?_)
  rw [minName]
  have nS : (s.heap.push { cls := .type "list_iterator", data := .fields #[.ref l, .int 0 0] }).objs.size ∉ [s.heap.objs.size, l] := fun hm => Nat.lt_irrefl _ (lt _ hm)
  refine wpAny_pure ⟨plainId_quiet F.plain_min_loop _, minD_first W _ (CmpOf.ints_lt (numAt xs) (fun _ _ => intItems_at)) _ nS (W.frame _ _ _ st fun b _ o e => Heap.get?_push_of_some _ e) (Heap.get?_push_size _ rfl) (fun h0 h1 tk k => ?_) fun h0 v h1 tk hv k => ?_⟩
  · refine zero (by rw [List.map_eq_nil_iff]; exact Array.toList_eq_nil_iff.mpr (Array.eq_empty_of_size_eq_zero (by rw [← hsz]; exact h0))) h1 tk (old_kept fun b o nb e => k b o nb (Nat.ne_of_lt (Heap.lt_size e)) (Heap.get?_push_of_some _ e))
  · obtain ⟨u, rfl⟩ := intItems_at hv
    rw [hsz] at h0 hv ⊢
    obtain ⟨g1, g2⟩ := argBest_lt (numAt xs) (xs.size - 1)
    refine out h1 tk _ u (old_kept fun b o nb e => k b o nb (Nat.ne_of_lt (Heap.lt_size e)) (Heap.get?_push_of_some _ e)) ?_ fun a ha => ?_
    · rw [numAt_eq]
      exact PySem.getD_mem (by rw [List.length_map, Array.length_toList]; omega)
    · obtain ⟨j, hj, rfl⟩ := mem_getD ha
      rw [List.length_map, Array.length_toList] at hj
      rw [← numAt_eq]
      exact g2 j (by omega)
end
section
variable {X : Cx}
/-- min(xs, default=None) -/
def rMinD (K : PySem.W.Frag) : List V → List V → Hp → VK → Prop := fun xs zs H Q => ∃ (a : Addr) (ns : List Int), xs = [.ref a] ∧ zs = [.non] ∧ SqL K H a (ns.map V.int) ∧ (ns = [] → Q .non H) ∧ ∀ M, M ∈ ns → (∀ a, a ∈ ns → M ≤ a) → Q (.int M) H
theorem cr_minD (hc : X.calm = true) : CallRK X (.builtin "min") [Str.ofString "default"] (rMinD X.K) := by
  intro pins s σ H xs zs us ws Q I r1 r2 h
  obtain ⟨a, ns, rfl, rfl, hs, q0, q1⟩ := h
  obtain ⟨its, rv, hl, _⟩ := I.list hs
  rw [Vals.ref1 r1]
  obtain ⟨u, rfl, ru⟩ := vals1 r2
  obtain rfl : u = .none := ru
  exact minD_raw (I.ok.hd hc) hl.isList rv.ints (fun e h1 tk k => ⟨.non, H, I.kept k, rfl, q0 e⟩) fun h1 tk M t k m1 m2 => ⟨.int _, H, I.kept k, ⟨_, rfl⟩, q1 M m1 m2⟩
end
end Al
/-! ## a set of one tuple (or of none): hashing of nested tuples, set.add into an empty set -/
namespace Al
open PySem PySem.Spec PyProof.Rows L2
section
variable {pg : Program} {w : World}
/-- hashing it gives a number and leaves the heap -/
def Hsh (pg : Program) (w : World) (h : Heap) (k : Nat) (v : Value) : Prop := ∀ (A : Around) (E : Value → Shared → Prop) (s : Shared) (Q : Int → Shared → Prop), A.units + k < cLine → s.heap = h → (∀ i tk, Q i { s with toks := tk }) → wpAny (model pg w) A (pyHash v) Q E s
theorem hsh_str {h : Heap} {x : Str} {t : Tok} : Hsh pg w h 0 (.str x t) := fun A E s Q _ _ q => wpAny_pyHash_str (q _ _)
theorem Hsh.mono {h : Heap} {k j : Nat} {v : Value} (x : Hsh pg w h k v) (l : k ≤ j) : Hsh pg w h j v := fun A E s Q u e q => x A E s Q (by omega) e q
theorem hsh_tup {h : Heap} {k : Nat} {a : Addr} {o : Obj} {items : Array Value} {n : Nat} (ho : h.get? a = some o) (hc : o.cls = .type "tuple") (hd : o.data = .seq items n) (hi : ∀ v ∈ items.toList, Hsh pg w h k v) : Hsh pg w h (k + 1) (.ref a) := by
  intro A E s Q hu e q
  subst e
  have hT : s.TypeIs (.ref a) "tuple" := ⟨o, ho, hc⟩
  unfold pyHash
  first | unfold pyHashByItsType | skip
  first | refine wpAny_bind (wpAny_cRoomFor_or (.inr (by omega)) ?_) | skip
  refine wpAny_bind (wpAny_specialOf hT F.slot_tuple_hash.lookup ?_)
  show wpAny _ _ (if (some (Value.builtin "tuple.__hash__") == some Value.none) = true then _ else _) Q E s
  rw [if_neg (by rw [beq_builtin_none]; exact Bool.false_ne_true)]
  refine wpAny_bind (wpAny_specialOf hT F.slot_tuple_hash.lookup ?_)
  show wpAny _ _ (callSpecialIfBoundUnlessNone? (.ref a) "__hash__" _ >>= _) Q E s
  refine wpAny_bind (wpAny_callSpecialIfBoundUnlessNone?_slot hT F.slot_tuple_hash (wpAny_call_entry F.slot_tuple_hash hT F.entry_tuple_hash ?_ (F.args_tuple_hash_1 _)))
  show wpAny _ _ (Builtin.Tuple.tupleItemsOf (.ref a) >>= _) _ _ s
  refine wpAny_bind (wpAny_tupleItemsOf ho hd (wpAny_bind ?_))
  rw [← Array.forIn_toList]
  refine wpAny_forIn_list _ (fun rest (_ : Array Int) s1 => (∀ v ∈ rest, v ∈ items.toList) ∧ ∃ tk, s1 = { s with toks := tk }) _ ?_ ?_ _ _ ⟨fun _ z => z, s.toks, rfl⟩
  · rintro x rest b s1 ⟨hr, tk, rfl⟩
    refine wpAny_bind (hi x (hr x (List.mem_cons_self ..)) A.in1 _ { s with toks := tk } _ (by show A.units + 1 + k < cLine; omega) rfl fun i tk2 => ?_)
    have nx : ∀ v ∈ rest, v ∈ items.toList := fun v hv => hr v (List.mem_cons_of_mem _ hv)
    first
      | exact wpAny_pure ⟨nx, tk2, rfl⟩
      | exact wpAny_bind (wpAny_pure (wpAny_pure ⟨nx, tk2, rfl⟩))
  · rintro b s1 ⟨_, tk, rfl⟩
    show wpAny _ _ (retInt (Builtin.Tuple.tupleHashOf b.toList)) _ _ _
    refine wpAny_ret_mkInt ?_
    show wpAny _ _ (if (decide (-(2 : Int) ^ 63 ≤ Builtin.Tuple.tupleHashOf b.toList) && decide (Builtin.Tuple.tupleHashOf b.toList < 2 ^ 63)) = true then _ else _) Q E _
    by_cases c : (decide (-(2 : Int) ^ 63 ≤ Builtin.Tuple.tupleHashOf b.toList) && decide (Builtin.Tuple.tupleHashOf b.toList < 2 ^ 63)) = true
    · rw [if_pos c]
      exact wpAny_pure (q _ _)
    · rw [if_neg c]
      exact wpAny_bind (wpAny_rule (wpAny_pure (q _ _)))
/-- the hash of a tuple that begins with a text does not go by value -/
theorem byV_pair {A : Around} {E : Value → Shared → Prop} {s : Shared} {Q : Bool → Shared → Prop} {k : Nat} {a : Addr} {o : Obj} {items : Array Value} {n : Nat} {x : Str} {t : Tok} {rest : List Value} (ho : s.heap.get? a = some o) (hc : o.cls = .type "tuple") (hd : o.data = .seq items n) (hi : items.toList = .str x t :: rest) (q : Q false s) : wpAny (model pg w) A (hashByValue (k + 1) (.ref a)) Q E s := by
  have hT : s.TypeIs (.ref a) "tuple" := ⟨o, ho, hc⟩
  unfold hashByValue
  refine wpAny_bind (wpAny_specialOf hT F.slot_tuple_hash.lookup ?_)
  show wpAny _ _ (seqItems? (.ref a) >>= _) _ _ s
  refine wpAny_bind (wpAny_seqItems ho hd (wpAny_bind ?_))
  show wpAny _ _ (forIn items _ _) _ _ s
  rw [← Array.forIn_toList, hi]
  refine wpAny_forIn_list _ (fun l r s1 => r.1 = none ∧ s1 = s ∧ l = .str x t :: rest) _ ?_ ?_ _ _ ⟨rfl, rfl, rfl⟩
  · rintro v l r s1 ⟨hr, rfl, e⟩
    cases e
    rw [show hashByValue k (.str x t) = pure false by cases k <;> (unfold hashByValue; rfl)]
    refine wpAny_bind (wpAny_pure ?_)
    simp only [Bool.not_false, if_true]
    exact wpAny_pure (wpAny_pure q)
  · rintro r s1 ⟨_, _, e⟩
    cases e
/-! ### the set -/
abbrev freshT (w : World) : SetTable := .fresh 0 0 (!w.params.followText "set-order")
/-- a set of n members -/
def SetN (h : Heap) (a : Addr) (n : Nat) : Prop := ∃ o es ep t, h.get? a = some o ∧ o.ExactSet ∧ o.data = .set es ep t ∧ t.fits es.size = true ∧ es.size = n ∧ n < 1000
def Set0 (w : World) (h : Heap) (a : Addr) : Prop := h.get? a = some { cls := .type "set", dict := none, data := .set #[] 0 (freshT w) }
theorem freshOk (w : World) : TabOk (freshT w) [] := ⟨List.Pairwise.nil, rfl, rfl, .inl rfl, fun x hx => (by cases hx), fun i h j hi => (by simp at hi)⟩
theorem add_first {A : Around} {E : Value → Shared → Prop} {s : Shared} {a x : Addr} {hv : Int} {Q : Bool → Shared → Prop} {o : Obj} {items : Array Value} {n : Nat} {y : Str} {u : Tok} {rest : List Value} (R : Set0 w s.heap a) (ho : s.heap.get? x = some o) (hc : o.cls = .type "tuple") (hd : o.data = .seq items n) (hi : items.toList = .str y u :: rest)
    (q : ∀ h1, Heap.SameBut a s.heap h1 → SetN h1 a 1 → Q true { s with heap := h1 }) : wpAny (model pg w) A (setAddHashed a (.ref x) hv) Q E s := by
  have T := freshOk w
  have hf : (freshT w).fits (#[] : Array (Int × Value)).size = true := rfl
  have hK : way (freshT w).mask hv 0 ∉ (freshT w).place.toList := fun z => by cases z
  unfold setAddHashed
  refine wpAny_holding ?_
  rw [show (100000 : Nat) = 99999 + 1 from rfl, setAddHashedIn_succ]
  refine wpAny_bind (wpAny_setState_of R rfl hf ?_)
  dsimp only
  refine wp_if_neg (by simp [byScan, Value.scannable]) ?_
  try refine wpAny_bind (wpAny_pure ?_)
  refine wpAny_bind ?_
  unfold setSearch
  rw [show (100000 : Nat) = 99999 + 1 from rfl, setSearchFrom_succ]
  refine wpAny_bind (wpAny_setState_of R rfl hf ?_)
  dsimp only
  refine wp_if_neg (by show ¬ ((7 % 2 == 0) = true); decide) ?_
  try refine wpAny_bind (wpAny_pure ?_)
  refine wpAny_pure ?_
  dsimp only
  refine wpAny_bind (wpAny_setState_of R rfl hf ?_)
  dsimp only
  have ew : ((none : Option SetTable.Probe).getD ((freshT w).probeStart hv)).j = way (freshT w).mask hv 0 := rfl
  try rw [ew]
  obtain ⟨q1, q2, q3, q4, q5, q6, q7, q8, q9⟩ := T.put hK (fun k hk => absurd hk (Nat.not_lt_zero _))
  have hp1 : ((freshT w).put (way (freshT w).mask hv 0)).1.plain = true := by rw [q6]; rfl
  generalize (freshT w).put (way (freshT w).mask hv 0) = pt at q1 q3 q4 q5 q6 q7 q8 q9 hp1 ⊢
  obtain ⟨t1, p⟩ := pt
  dsimp only at q1 q3 q4 q5 q6 q7 q8 q9 hp1 ⊢
  first
    | (refine wpAny_bind ?_; refine wp_if_pos hp1 ?_; refine byV_pair ho hc hd hi ?_)
    | refine wp_if_pos hp1 (wpAny_bind (byV_pair ho hc hd hi ?_))
  simp only [Bool.false_eq_true, if_false]
  have hes : (SetTable.insertAt (#[] : Array (Int × Value)) p (hv, Value.ref x)).size = 1 := by
    rw [← Array.length_toList, SetTable.toList_insertAt]
    simp
  generalize SetTable.insertAt (#[] : Array (Int × Value)) p (hv, Value.ref x) = es1 at hes ⊢
  have hfull : ({ mask := t1.mask, place := t1.place, dummies := t1.dummies, finger := t1.finger, led := t1.led, moves := t1.moves, plain := false } : SetTable).tooFull = false := by
    unfold SetTable.tooFull
    rw [decide_eq_false_iff_not]
    have e1 : ({ mask := t1.mask, place := t1.place, dummies := t1.dummies, finger := t1.finger, led := t1.led, moves := t1.moves, plain := false } : SetTable).fill = 1 := q9
    have e2 : t1.mask = 7 := q4
    rw [e1]
    show ¬ (1 * 5 ≥ t1.mask * 3)
    omega
  have hfit : ({ mask := t1.mask, place := t1.place, dummies := t1.dummies, finger := t1.finger, led := t1.led, moves := t1.moves, plain := false } : SetTable).fits es1.size = true := by
    have e1 : t1.fill = 1 := q9
    have e2 : t1.mask = 7 := q4
    have e3 : t1.dummies = #[] := q3.dm
    unfold SetTable.fill at e1
    rw [e3] at e1
    have e4 : t1.place.size = 1 := by simpa using e1
    unfold SetTable.fits SetTable.fill
    show (t1.place.size == es1.size && decide (t1.place.size + t1.dummies.size ≤ t1.mask)) = true
    rw [e3, e4, hes, e2]
    decide
  refine wpAny_bind (wpAny_storeSet_of R rfl ?_ (by rw [hes, sizeLine_eq]; omega))
  rw [hfull]
  simp only [Bool.not_false, Bool.and_false, Bool.false_eq_true, if_false]
  refine wpAny_pure (q _ (Heap.SameBut.update ..) ⟨_, es1, _, _, PpSet.storeB_at R rfl, ⟨rfl, rfl, rfl⟩, rfl, hfit, hes, by decide⟩)
/-- set.add(x) into an empty set -/
theorem call_add_first {A : Around} {E : Value → Shared → Prop} {s : Shared} {a x : Addr} {k : Nat} {Q : Value → Shared → Prop} {o : Obj} {items : Array Value} {n : Nat} {y : Str} {u : Tok} {rest : List Value} (hu : A.units + (k + 1) + 1 < cLine) (R : Set0 w s.heap a) (ho : s.heap.get? x = some o) (hc : o.cls = .type "tuple") (hd : o.data = .seq items n) (hi : items.toList = .str y u :: rest)
    (hh : ∀ v ∈ items.toList, Hsh pg w s.heap k v) (q : ∀ h1 tk, Heap.SameBut a s.heap h1 → SetN h1 a 1 → Q .none { s with heap := h1, toks := tk }) : wpAny (model pg w) A (call (.builtin "set.add") [.ref a, .ref x]) Q E s := by
  have hT : s.TypeIs (.ref a) "set" := ⟨_, R, rfl⟩
  refine wpAny_call_entry F.slot_set_add hT F.entry_set_add ?_ (F.args_set_add_2 _ _)
  unfold Builtin.«set.add» Builtin.Frozenset.oneOther
  simp only [List.isEmpty_nil, bind_assoc]
  unfold Builtin.Frozenset.addrOf setAdd
  refine wpAny_bind (wpAny_pure ?_)
  try dsimp only
  refine wpAny_bind (wpAny_pure ?_)
  try dsimp only
  refine wpAny_bind (wpAny_holding (wpAny_bind (hsh_tup ho hc hd hh A.in1 _ s _ (by show A.units + 1 + (k + 1) < cLine; omega) rfl fun hv tk => ?_)))
  refine add_first (s := { s with toks := tk }) R ho hc hd hi fun h1 sb r => ?_
  show wpAny _ _ (ret Value.none) _ _ _
  exact wpAny_pure ⟨_, rfl, q h1 tk sb r⟩
end
end Al
/-! ## a set comprehension, whatever its members: what the set is and what adding asks are given -/
namespace Al
open PySem PySem.Spec PyProof.Rows L2 PpSet
/-- the fresh set's tracked thing; what adding y at D asks -/
structure SetWay (X : Cx) where
  z : Addr → HO
  ok : ∀ (H : Hp) (h : Heap) (a : Addr), Set0 X.w h a → ObjOk X.prog X.w H h a (z a)
  add : V → Addr → Hp → (Hp → Prop) → Prop
abbrev SetWay.Runs {X : Cx} (S : SetWay X) : Prop := ∀ (X' : Cx), X'.prog = X.prog → X'.w = X.w → X'.K = X.K → X'.A = X.A → ∀ (pins : List (Addr × Obj)) (σ : L2.St) (H : Hp) (s : Shared) (E : Value → Shared → Prop) (D : Addr) (y : V) (u : Value) (N : Hp → Prop), Inv X' pins σ H s → RelV y u → S.add y D H N →
  wpAny (model X.prog X.w) X.A (call (.builtin "set.add") [.ref D, u]) (fun _ s' => ∃ H', Inv X' pins σ H' s' ∧ N H') E s
section
variable {X : Cx}
def tScA (S : SetWay X) (wi : TI) (g : TG) (tt : TT) (te : TE) (vs : List Nat) : TE := fun σ H Q => wi σ H fun J H1 => ∀ D, H1 D = none → ∃ W : Nat → Nat → Hp → Prop, (∃ m, W 0 m (upd H1 D (S.z D))) ∧ ∀ i m H, W i m H →
  (J.stop i H ∧ Q (.ref D) H) ∨ (J.go i H ∧ ∃ Nx : Hp → Prop, (∀ H', Nx H' → ∃ m', m' < m ∧ W (i + 1) m' H') ∧ ∀ x H', J.yld i H x H' → g x (wipe σ vs) H' fun σ2 H2 => wipe σ2 vs = wipe σ vs ∧ tt σ2 H2 fun b H3 =>
    if b = true then te σ2 H3 fun y H4 => S.add y D H4 Nx else Nx H3)
variable {elt tg iter : Expr} {ifs : List Expr} {scope : Scope} {own : List (PySem.Str × Nat)} {pos : Pos} {wi : TI} {g : TG} {tt : TT} {te : TE}
abbrev InBlk (X : Cx) (scope : Scope) (p : Cx → Prop) : Prop := ∀ (s : Shared) (H : Hp) (C : Addr) (cl : List (PySem.Str × Addr)) (fp : List Addr), p (X.blk s H scope (compEnvC scope cl C X.env) fp)
theorem pe_scA (S : SetWay X) (run : S.Runs) (hc : X.calm = true) (hN : X.N.Nodup) (hi : PI X tg iter wi) (ok : BlkOk X.N X.env.scope scope own) (hg : InBlk X scope fun B => PG B tg g) (ht : InBlk X scope fun B => PTs B ifs tt) (he : InBlk X scope fun B => PE B elt te)
    (plain : ∀ x, foldedSetIterable iter X.env x = pure x := by intro _; rfl) : PE X (.SetComp elt [⟨tg, iter, ifs, 0⟩] scope pos) (tScA S wi g tt te (own.map (·.2))) := by
  refine ⟨fun pins s σ H Q I h => ?_⟩
  rw [eval_SetComp]
  have closed : ∀ y ∈ scope.names, y.2 = .free → ∃ c, X.env.cells.lookup y.1 = some c := fun y hy e => (ok.free y hy e).elim (fun k => I.ok.has _ (.inl k)) fun k => I.ok.has _ (.inr k)
  refine wpAny_comprehension_free (use := none) rfl plain (closure_ok closed) ok.kind (fun y hy e => by rw [ok.uniq y hy, e]) (thn (hi.run pins s σ H _ I h) fun xv s1 hx => thn hx fun itv s2 h2 => ?_)
  obtain ⟨it, fp, tn, J, H2, e, I2, T, st2, f2, q⟩ := h2
  subst e
  refine newSet_ok (newEnv_comp ?_)
  obtain ⟨D, eD⟩ : ∃ D, s2.heap.objs.size = D := ⟨_, rfl⟩
  have freeD : H2 D = none := I2.hok.fresh (Nat.le_of_eq eD)
  obtain ⟨W, ⟨m0, w0⟩, turn⟩ := q D freeD
  rw [eD]
  obtain ⟨s3, e3⟩ : ∃ s3 : Shared, s3 = { s2 with heap := s2.heap.push { cls := .type "set", dict := none, data := .set #[] 0 (freshT X.w) } } := ⟨_, rfl⟩
  have old3 : ∀ b o, s2.heap.get? b = some o → s3.heap.get? b = some o := fun b o e => by rw [e3]; exact Heap.get?_push_of_some _ e
  have I3 : Inv X pins σ (upd H2 D (S.z D)) s3 := by
    rw [e3]
    refine I2.laid (t' := s2.toks) (fun b o e => Heap.get?_push_of_some _ e) (Nat.le_of_eq eD) (S.ok _ _ _ ?_)
    rw [← eD]
    exact Heap.get?_push_size _ rfl
  have size3 : s3.heap.objs.size = s2.heap.objs.size + 1 := by rw [e3]; exact Heap.size_push ..
  have low : ∀ b ∈ fp, b < s2.heap.objs.size := fun b hb => let ⟨_, e, _⟩ := T.obj _ _ st2 b hb; Heap.lt_size e
  have f3 : ∀ b ∈ fp, FpOk X pins (upd H2 D (S.z D)) b ∧ b < s3.heap.objs.size := fun b hb => by
    have l := low b hb
    refine ⟨⟨?_, (f2 b hb).2⟩, by rw [size3]; exact Nat.lt_succ_of_lt l⟩
    rw [upd_ne (fun z => Nat.lt_irrefl _ (by rw [z, ← eD] at l; exact l))]
    exact (f2 b hb).1
  have st3 : tn 0 s3.heap := T.keep _ _ _ st2 fun b _ o e => old3 b o e
  have I4 := block_start I3 ok hN f3
  have none3 : ∀ b ∈ fp, (upd H2 D (S.z D)) b = none := fun b hb => (f3 b hb).1.1
  generalize hcl : cellsFrom (s3.heap.objs.size + 1) scope.names (cloFrom X.env.cells scope.names []) = cl at I4
  have pg := hg s3 (upd H2 D (S.z D)) s3.heap.objs.size cl fp
  have pt := ht s3 (upd H2 D (S.z D)) s3.heap.objs.size cl fp
  have pe := he s3 (upd H2 D (S.z D)) s3.heap.objs.size cl fp
  generalize hce : compEnvC scope cl s3.heap.objs.size X.env = ce at I4 pg pt pe
  have cL : ce.locals = s3.heap.objs.size := by rw [← hce]; rfl
  generalize hH3 : upd H2 D (S.z D) = H3 at I3 I4 pg pt pe w0 none3 f3
  generalize hs4 : ({ s3 with heap := pushCells (s3.heap.push { cls := .type "dict", data := .dict #[] }) scope.names } : Shared) = s4 at I4
  have st4 : tn 0 s4.heap := T.keep _ _ _ st3 fun b _ o e => by rw [← hs4]; exact pushCells_keeps _ _ _ _ (Heap.get?_push_of_some _ e)
  have fits : ∀ {σ' : L2.St} {H' : Hp} {s' : Shared}, Inv (X.blk s3 H3 scope ce fp) [] σ' H' s' → (∀ b ∈ fp, H' b = none) → ∀ b ∈ fp, FpOk (X.blk s3 H3 scope ce fp) [] H' b := fun {_ _ _} J' nn b hb =>
    ⟨nn b hb, (J'.ok.exf b hb).1, J'.ok.exfs b hb, .inl hb, fun x c e => (J'.ok.exf b hb).2 x c e, fun p hp => by simp at hp⟩
  have loop : codeAny (model X.prog X.w) X.A (.compLoop (.SetComp elt [⟨tg, iter, ifs, 0⟩] scope pos) 0 (.ref it) (.ref D) ce) (compPost (model X.prog X.w) X.A X.xe none (EP X pins σ Q) (.ref D) s3.heap.objs.size) s4 := by
    refine compLoopS_any (fun n s' => ∃ i H', Inv (X.blk s3 H3 scope ce fp) [] (wipe σ (own.map (·.2))) H' s' ∧ tn i s'.heap ∧ (∀ b ∈ fp, H' b = none) ∧ W i n H') ?_ m0 ⟨0, H3, I4, st4, none3, w0⟩
    rintro n s5 ⟨i, H5, I5, st5, n5, w5⟩
    rcases turn i n H5 w5 with ⟨stop, fin⟩ | ⟨go, Nx, low, step⟩
    · refine thnF (T.done (X.blk s3 H3 scope ce fp) rfl rfl rfl hc i [] s5 _ H5 (fun _ _ => False) I5 (fits I5 n5) st5 stop) fun r s6 ⟨hr, I6⟩ => ?_
      subst hr
      have I7 : Inv X pins σ H5 s6 := I3.call' (ch := fp) I6.os I6.base I6.hok I6.bare fun b hb => let z := (f3 b hb).1.2; ⟨z.2.2.1, z.1, z.2.2.2.1, z.2.2.2.2⟩
      have nC : H5 s3.heap.objs.size = none := by rw [← cL]; exact I6.free
      obtain ⟨m, hn, _⟩ := I6.loc
      have hn2 : s6.heap.Ns s3.heap.objs.size m := by rw [← cL]; exact hn
      obtain ⟨f0, f1, f2', f4, f5, f6⟩ := I3.fpOk (Nat.le_refl _) nC
      exact ⟨m, hn2, fun h'' sb => ⟨.ref D, H5, I7.turned (t' := s6.toks) (fun b o hb e => (sb.2 b hb).trans e) f0 f1 f4 f5 f6, rfl, fin⟩⟩
    · refine thnF (T.item (X.blk s3 H3 scope ce fp) rfl rfl rfl hc i [] s5 _ H5 (fun _ _ => False) I5 (fits I5 n5) st5 go) fun r s6 ⟨u, hr, h6⟩ => ?_
      subst hr
      refine thnF h6 fun _ s7 ⟨x, H7, I7, r7, y7, st7, n7⟩ => ?_
      refine thnF (pg.run _ s7 _ H7 x u _ (I7.pinned (fits I7 n7) (T.obj _ _ st7)) r7 (step x H7 y7)) fun _ s8 ⟨σ8, H8, I8, hw, q8⟩ => ?_
      refine thnF (pt.run _ s8 σ8 H8 _ I8 q8) fun b s9 ⟨H9, I9, q9⟩ => ?_
      have back : ∀ (s' : Shared) (H' : Hp), Inv (X.blk s3 H3 scope ce fp) ([] ++ pinsAt fp s7.heap) σ8 H' s' → Nx H' → ∃ m, m < n ∧ ∃ i H', Inv (X.blk s3 H3 scope ce fp) [] (wipe σ (own.map (·.2))) H' s' ∧ tn i s'.heap ∧ (∀ b ∈ fp, H' b = none) ∧ W i m H' := by
        intro s' H' J' nx
        obtain ⟨m1, lt, w1⟩ := low H' nx
        have same : ∀ b ∈ fp, ∀ o, s7.heap.get? b = some o → s'.heap.get? b = some o ∧ H' b = none := fun b hb o e =>
          have z := J'.pin (b, o) (List.mem_append_right _ (List.mem_append_right _ (mem_pinsAt hb e)))
          ⟨z.1, z.2.1⟩
        refine ⟨m1, lt, i + 1, H', (J'.unpinned (pins := [])).weak (by rw [← hw, wipe_length]) (fun j v e => ?_), T.keep _ _ _ st7 fun b hb o e => (same b hb o e).1, fun b hb => ?_, w1⟩
        · rw [← hw] at e
          exact (wipe_some e).1
        · obtain ⟨o, e, _⟩ := T.obj _ _ st7 b hb
          exact (same b hb o e).2
      cases b with
      | false =>
        simp only [Bool.false_eq_true, if_false] at q9 ⊢
        exact back _ _ I9 q9
      | true =>
        simp only [if_true] at q9 ⊢
        refine thnF (pe.run _ s9 σ8 H9 _ I9 q9) fun z s10 ⟨yv, H10, I10, r10, a10⟩ => ?_
        exact wpAny_mono (run (X.blk s3 H3 scope ce fp) rfl rfl rfl rfl _ σ8 H10 s10 _ D yv z Nx I10 r10 a10) (fun _ s11 ⟨H11, I11, nx⟩ => back s11 H11 I11 nx) fun _ _ e => e
  subst hce
  subst hcl
  subst hs4
  subst e3
  exact codeAny_compStart_set loop (T.self X.A 0 _ _ _ st4 loop)
end
end Al
/-! ## a set of one pair: a text, a tuple of texts -/
namespace Al
open PySem PySem.Spec PyProof.Rows L2 PpSet
def Z0 (w : World) (a : Addr) : HO := .ext fun h => Set0 w h a
def ZN (a : Addr) (n : Nat) : HO := .ext fun h => SetN h a n
theorem z0_ok {P : Program} {w : World} {H : Hp} {h : Heap} {a : Addr} (R : Set0 w h a) : ObjOk P w H h a (Z0 w a) := ⟨R, ⟨_, R⟩, fun _ _ p k => k _ p⟩
theorem zN_ok {P : Program} {w : World} {H : Hp} {h : Heap} {a : Addr} {n : Nat} (R : SetN h a n) : ObjOk P w H h a (ZN a n) := by
  obtain ⟨o, es, ep, t, ho, r⟩ := id R
  exact ⟨R, ⟨o, ho⟩, fun _ _ ⟨o, es, ep, t, ho, r⟩ k => ⟨o, es, ep, t, k o ho, r⟩⟩
/-- a pair of a text and a tuple of texts, as a rule of a grammar is -/
def PairAt (K : PySem.W.Frag) (H : Hp) (x : Addr) : Prop := ∃ (nm : Str) (p : Addr) (ps : List Str), SqT K H x [.str nm, .ref p] ∧ SqT K H p (ps.map V.str)
def pairWay (X : Cx) : SetWay X where
  z := Z0 X.w
  ok := fun _ _ _ => z0_ok
  add := fun y D H N => ∃ x : Addr, y = .ref x ∧ H D = some (Z0 X.w D) ∧ PairAt X.K H x ∧ N (upd H D (ZN D 1))
theorem strs_vals : ∀ {ps : List Str} {us : List Value}, Vals (ps.map V.str) us → ∀ v ∈ us, ∃ y t, v = Value.str y t
  | [], _, r, v, h => by cases r; cases h
  | p :: ps, _, r, v, h => by
    cases r with
    | cons r1 r2 =>
      rcases List.mem_cons.mp h with rfl | h
      · obtain ⟨t, rfl⟩ := r1
        exact ⟨p, t, rfl⟩
      · exact strs_vals r2 v h
theorem pairWay_runs {X : Cx} (hu : X.A.units + 64 < cLine) : (pairWay X).Runs := by
  intro X' e1 e2 e3 e4 pins σ H s E D y u N I r h
  obtain ⟨x, rfl, hD, ⟨nm, p, ps, hx, hp⟩, nx⟩ := h
  obtain rfl : u = .ref x := r
  rw [← e3] at hx hp
  obtain ⟨its, rv, ⟨o, ho, hc, n, hd⟩, _⟩ := I.tuple hx
  obtain ⟨jts, rw', ⟨o2, ho2, hc2, n2, hd2⟩, _⟩ := I.tuple hp
  have R : Set0 X.w s.heap D := by
    have z := I.hok D _ hD
    exact z.1
  match its, rv with
  | [u1, u2], .cons r1 (.cons r2 .nil) =>
    obtain ⟨t1, rfl⟩ := r1
    obtain rfl : u2 = .ref p := r2
    refine call_add_first (k := 1) (by omega) R ho hc hd rfl (fun v hv => ?_) fun h1 tk sb new => ?_
    · rcases List.mem_cons.mp hv with rfl | hv
      · exact hsh_str.mono (Nat.zero_le _)
      · rw [List.mem_singleton.mp hv]
        refine hsh_tup ho2 hc2 hd2 fun v hv => ?_
        obtain ⟨y, t, rfl⟩ := strs_vals rw' v (by simpa using hv)
        exact hsh_str
    · have he : ∃ u, h1.get? D = some u := let ⟨o, _, _, _, ho, _⟩ := new; ⟨o, ho⟩
      exact ⟨_, I.write (e := D) (t' := tk) (by rw [hD]; trivial) (.inl rfl) (fun b u hb hu => (sb.2 b hb).trans hu) he (zN_ok new), nx⟩
/-- len of such a set -/
def rLenN : List V → Hp → VK → Prop := fun xs H Q => ∃ (a : Addr) (n : Nat), xs = [.ref a] ∧ H a = some (ZN a n) ∧ Q (.int n) H
theorem call_lenN {X : Cx} : CallR X (.builtin "len") rLenN := by
  intro pins s σ H xs us Q I r h
  obtain ⟨a, n, rfl, ha, q⟩ := h
  rw [Vals.ref1 r]
  obtain ⟨o, es, ep, t, ho, hex, hd, hf, hn, h1⟩ := (I.hok a _ ha).1
  exact call_len_set ho hex hd hf (by rw [hn]; omega) ⟨.int n, H, I.tok _, ⟨_, by rw [hn]⟩, q⟩
end Al
/-! ## an empty dict, as one whose keys will be tuples -/
namespace Al
open PySem PySem.Spec PyProof.Rows L2
section
variable {X : Cx}
theorem cast_ok {P : Program} {w : World} {H : Hp} {h : Heap} {a : Addr} (x : ObjOk P w H h a (.dK [])) (H' : Hp) : ObjOk P w H' h a (.dT []) := by
  obtain ⟨_, n, vs, kv, o, es, ep, ho, hx, hd, _, pr, _⟩ := x
  cases kv
  have e0 : es.toList = [] := by
    generalize es.toList = l at pr
    cases l with
    | nil => rfl
    | cons _ _ => first | cases pr | exact absurd pr (by simp [Pairs])
  exact ⟨Nat.zero_le _, n, [], .nil, o, es, ep, ho, hx, hd, e0, List.nodup_nil⟩
theorem pe_castT {e : Expr} {t : TE} (h : PE X e t) : PE X e (fun σ H Q => t σ H fun x H1 => ∃ D, x = .ref D ∧ H1 D = some (.dK []) ∧ Q x (upd H1 D (.dT []))) := by
  refine ⟨fun pins s σ H Q I q => ?_⟩
  refine thn (h.run pins s σ H _ I q) fun u s1 ⟨x, H1, I1, r, D, ex, hD, q1⟩ => ?_
  have k := I1.hok D _ hD
  have ⟨_, _, _, _, o, _, _, ho, _⟩ := k
  exact ⟨x, _, I1.write (e := D) (t' := s1.toks) (by rw [hD]; trivial) (.inl rfl) (fun b u _ z => z) ⟨o, ho⟩ (cast_ok k _), r, q1⟩
end
end Al
namespace Al
open PySem
theorem hu1 {A : Around} (h : A.units + 64 < cLine) : A.units + 1 < cLine := by omega
end Al
namespace Al
open PySem PySem.Spec PyProof.Rows L2
/-- tuple(xs), its reading by name -/
def rTupOf (K : PySem.W.Frag) : List V → Hp → VK → Prop := fun xs H Q => ∃ p ys, xs = [.ref p] ∧ ((SqL K H p ys ∧ ∀ l, H l = none → Q (.ref l) (upd H l (.tup ys))) ∨ (SqT K H p ys ∧ Q (.ref p) H))
end Al
/-! ## a range as a value, walked -/
namespace Al
open PySem PySem.Spec PyProof.Rows L2
section
variable {X : Cx} {tg : Expr}
theorem cr_range1 : CallR X (.type "range") (fun vs H Q => ∃ j, vs = [V.int j] ∧ ∀ p, H p = none → Q (.ref p) (upd H p (.rng 0 j))) := by
  intro pins s σ H vs us Q I r h
  obtain ⟨j, rfl, q⟩ := h
  obtain ⟨u, rfl, ru⟩ := vals1 r
  obtain ⟨t, rfl⟩ := ru
  refine call_range_1 ⟨.ref s.heap.objs.size, _, I.laid (o := .rng 0 j) (t' := _) (fun b o e => Heap.get?_push_of_some _ e) (Nat.le_refl _) ?_, rfl, q _ (I.hok.fresh (Nat.le_refl _))⟩
  exact ⟨_, _, _, Heap.get?_push_size _ rfl⟩
def iRng (te : TE) : TI := fun σ H R => te σ H fun x H1 => ∃ (a : Addr) (lo hi : Int), x = .ref a ∧ H1 a = some (.rng lo hi) ∧ (-(2 ^ 62) ≤ lo ∧ lo < 2 ^ 62 ∧ -(2 ^ 62) ≤ hi ∧ hi < 2 ^ 62) ∧ R (Itr lo (hi - lo).toNat) H1
theorem pi_rng {e : Expr} {te : TE} (he : PE X e te) : PI X tg e (iRng te) := by
  refine ⟨fun pins s σ H R I h => ?_⟩
  refine thn (he.run pins s σ H _ I h) fun v s1 ⟨x, H1, I1, r1, a, lo, hi, ex, ha, ⟨b1, b2, b3, b4⟩, q⟩ => ?_
  subst ex
  cases r1
  obtain ⟨t, u, v, ho⟩ := I1.hok a _ ha
  refine wpAny_pyIter_range ho (small_one b1 b2 b3 b4) ?_
  refine ⟨s1.heap.objs.size, [s1.heap.objs.size], _, _, H1, rfl, I1.kept (t' := s1.toks) fun b o e => Heap.get?_push_of_some _ e, turn_range _ lo (hi - lo).toNat, ?_, fun b hb => ?_, q⟩
  · have e1 : lo + ((0 : Nat) : Int) * 1 = lo := by simp
    have e2 : (((hi - lo).toNat : Nat) : Int) - ((0 : Nat) : Int) = Builtin.Range.rangeSize lo hi 1 := by rw [rangeSize_one]; split <;> omega
    show IsRangeIter _ _ (lo + ((0 : Nat) : Int) * 1) ((((hi - lo).toNat : Nat) : Int) - ((0 : Nat) : Int)) 1
    rw [e1, e2]
    exact Heap.get?_push_size _ rfl
  · obtain rfl : b = s1.heap.objs.size := by simpa using hb
    exact I1.fpOk (Nat.le_refl _) (I1.hok.fresh (Nat.le_refl _))
end
end Al
/-! ## enumerate over a tuple -/
namespace Al
open PySem PySem.Spec PyProof.Rows L2
open PySem.AutoSeq1 (wpAny_loadPart')
section
variable {prog : Program} {w : World} {A : Around} {E : Value → Shared → Prop} {s : Shared}
theorem drawsTup (hh : A.handled = none) (it l : Addr) (hne : l ≠ it) (items : Array Value) : Draws prog w A it [it, l] items.size (fun i v => items[i]? = some v) (fun i h => h.IsTupleIter it l i ∧ h.IsTuple l items) where
  live := fun _ _ st => let ⟨o, ho, _⟩ := st.1; ⟨o, ho⟩
  frame := fun _ _ _ st hk => ⟨st.1.at fun o e => hk it (by simp) o e, let ⟨o, e, r⟩ := st.2; ⟨o, hk l (by simp) o e, r⟩⟩
  item := fun i s Q E hi st hQ => by
    refine RZ.nextOf_tuple_item st.1 st.2 (x := items[i]) (by simp [hi]) fun h1 k1 sb => ?_
    exact hQ _ h1 s.toks (by simp [hi]) ⟨k1, let ⟨o, e, r⟩ := st.2; ⟨o, (sb.2 l hne).trans e, r⟩⟩ sb
  done := fun s Q E st hE => RZ.nextOf_tuple_end hh st.1 st.2 (by simp) hE
theorem newEnumT (l : Addr) (items : Array Value) (n : Nat) (dct : Option Addr) (sl : Array (Option Value)) :
    Meets (Builtin.«enumerate.__new__» ⟨[.type "enumerate", .ref l], []⟩) (fun _ R s => s.heap.get? l = some { cls := .type "tuple", dict := dct, data := .seq items n, slots := sl } ∧
      R (.ok (.ret (.ref (s.heap.push { cls := .type "tuple_iterator", data := .fields #[.ref l, .int 0 0] }).objs.size)))
        { s with heap := (s.heap.push { cls := .type "tuple_iterator", data := .fields #[.ref l, .int 0 0] }).push { cls := .type "enumerate", data := .fields #[.none, .bool false, .ref s.heap.objs.size, rawInt 0, .none, .none] } }) :=
  .of_wp fun prog w A R s h => by
    obtain ⟨hp, g, d, tk, os⟩ := s
    obtain ⟨hl, h⟩ := h
    have sub := sub_enumerate
    have hT : Heap.IsTuple (Shared.heap ⟨hp, g, d, tk, os⟩) l items := ⟨_, hl, rfl, n, rfl⟩
    wp_walk using wpAny_loadPart' hl
    refine wpAny_stack_any fun st => wpAny_pure ?_
    split
    · rename_i c _ _ _ _ _
      cases (c == Value.type "enumerate") <;> (wp_walk using wpAny_loadPart' hl, wpAny_pyIter_tuple hT; exact ⟨_, rfl, h⟩)
    · wp_walk using wpAny_loadPart' hl, wpAny_pyIter_tuple hT
      exact ⟨_, rfl, h⟩
theorem call_enumT {l : Addr} {items : Array Value} {Q : Value → Shared → Prop} (hL : s.heap.IsTuple l items)
    (h : ∀ h1, IsEnum h1 (s.heap.objs.size + 1) s.heap.objs.size 0 .none → h1.IsTupleIter s.heap.objs.size l 0 → (∀ b o, s.heap.get? b = some o → h1.get? b = some o) → Q (.ref (s.heap.objs.size + 1)) { s with heap := h1 }) :
    wpAny (model prog w) A (call (.type "enumerate") [.ref l]) Q E s := by
  obtain ⟨⟨c, dct, dt, sl⟩, hl, hc, n, hd⟩ := hL
  obtain rfl : c = .type "tuple" := hc
  obtain rfl : dt = .seq items n := hd
  refine callType_new F.called_enumerate (by decide) (F.typeCall_enumerate_1 _) (F.newCall_enumerate_1 _) (fun obj => F.args_object_init_2 obj _) F.entry_enumerate_new (newEnumT l items n dct sl) ⟨hl, ?_⟩
  have hz : (s.heap.push { cls := .type "tuple_iterator", data := .fields #[.ref l, .int 0 0] }).objs.size = s.heap.objs.size + 1 := Heap.size_push ..
  show _ ∧ _
  rw [hz]
  have he := Heap.get?_push_size (s.heap.push { cls := .type "tuple_iterator", data := .fields #[.ref l, .int 0 0] }) (o := { cls := .type "enumerate", data := .fields #[.none, .bool false, .ref s.heap.objs.size, rawInt 0, .none, .none] }) rfl
  rw [hz] at he
  exact ⟨⟨_, he, rfl⟩, h _ he ⟨_, Heap.get?_push_of_some _ (Heap.get?_push_size _ rfl), rfl, rfl⟩ fun b o x => Heap.get?_push_of_some _ (Heap.get?_push_of_some _ x)⟩
end
/-- the tuple at a, its items in new pairs with their places -/
def IteT (K : PySem.W.Frag) (a : Addr) : It :=
  ⟨fun i H => ∃ (xs : List V) (x : V), SqT K H a xs ∧ xs[i]? = some x, fun i H v H' => ∃ T x, v = .ref T ∧ H T = none ∧ H' = upd H T (.tup [.int (i : Nat), x]) ∧ ∀ xs, SqT K H a xs → xs[i]? = some x, fun i H => ∃ xs : List V, SqT K H a xs ∧ xs.length = i⟩
theorem turn_enumT {P : Program} {w : World} {K : PySem.W.Frag} {elts : List Expr} {kk : Nat} {tpos : Pos} (a e it : Addr) (hai : a ≠ it) (hea : e ≠ a) :
    Turn P w K (.Tuple elts kk tpos) (IteT K a) [e, it] e (fun i h => (∃ old, IsEnum h e it ((i : Nat) : Int) old) ∧ h.IsTupleIter it a i ∧ e ≠ it) where
  mem := by simp
  obj := fun i h st b hb => by
    obtain ⟨⟨old, he⟩, ⟨o, ho, _, hd⟩, _⟩ := st
    rcases (show b = e ∨ b = it by simpa using hb) with rfl | rfl
    · exact ⟨_, he, fun v q => nomatch q⟩
    · exact ⟨o, ho, fun v q => by rw [hd] at q; cases q⟩
  keep := fun i h h' st k => let ⟨⟨old, he⟩, hi, hne⟩ := st; ⟨⟨old, k e (by simp) _ he⟩, hi.at fun o q => k it (by simp) o q, hne⟩
  item := by
    intro X hP hw hK hc i pins s σ H E I hf st hg
    subst hP hw hK
    obtain ⟨⟨old, he⟩, hit, hne⟩ := st
    obtain ⟨xs, x, hq, hx⟩ := hg
    obtain ⟨its, rv, p, hz⟩ := I.tuple hq
    obtain ⟨u, hu, ru⟩ := rv.get hx
    have hi : i < its.toArray.size := by have := (List.getElem?_eq_some_iff.mp hu).1; simpa using this
    have hel : e < s.heap.objs.size := Heap.lt_size he
    have hil : it < s.heap.objs.size := by obtain ⟨_, q, _⟩ := hit; exact Heap.lt_size q
    refine wpAny_pyNext_enum_itemD (drawsTup (prog := X.prog) (w := X.w) (A := X.A.in1) (I.ok.hd hc) it a hai its.toArray) he ⟨hit, p⟩ hi hne (by simp [hne, hea]) fun y h1 tk hy ho st1 hT hsz hk => ?_
    have eu : y = u := by
      have z : its.toArray[i]? = some u := by simpa using hu
      rw [z] at hy
      exact (Option.some.inj hy).symm
    subst eu
    refine ⟨_, rfl, wpAny_letOwnedTupleGo_enum (s := { s with heap := h1, toks := tk + 1 }) ho fun h2 he2 sb => ?_⟩
    have hT2 : h2.get? s.heap.objs.size = some { cls := .type "tuple", data := .seq #[.int i tk, y] } := (sb.2 _ (Nat.ne_of_gt hel)).trans hT
    have new : ObjOk X.prog X.w (upd H s.heap.objs.size (.tup [.int (i : Nat), x])) h2 s.heap.objs.size (.tup [.int (i : Nat), x]) :=
      ⟨by show 2 ≤ sizeLine; decide, [.int i tk, y], .cons ⟨_, rfl⟩ (.cons ru .nil), ⟨_, hT2, rfl, _, rfl⟩⟩
    have I1 : Inv X pins σ (upd H s.heap.objs.size (.tup [.int (i : Nat), x])) { s with heap := h2, toks := tk + 1 } :=
      I.turnedNew (ch := [e, it]) (fun b ob hb q => (sb.2 b (fun z => hb (by simp [z]))).trans (hk b ob (fun z => hb (by simp [z])) (fun z => hb (by simp [z])) q)) hf (Nat.le_refl _) new
    have inj : ∀ ys, SqT X.K H a ys → ys[i]? = some x := fun ys hy2 => by rw [I.tuple_inj hy2 hq]; exact hx
    refine ⟨.ref s.heap.objs.size, _, I1, rfl, ⟨_, x, rfl, I.hok.fresh (Nat.le_refl _), rfl, inj⟩, ⟨⟨y, ?_⟩, st1.1.at fun o q => (sb.2 it (Ne.symm hne)).trans q, hne⟩, fun b hb => ?_⟩
    · rw [show ((i + 1 : Nat) : Int) = (i : Int) + 1 by omega]
      exact he2
    · have hb2 : b < s.heap.objs.size := by
        rcases (show b = e ∨ b = it by simpa using hb) with rfl | rfl
        · exact hel
        · exact hil
      rw [upd_ne (Nat.ne_of_lt hb2)]
      exact (hf b hb).1
  done := by
    intro X hP hw hK hc i pins s σ H E I hf st hg
    subst hP hw hK
    obtain ⟨⟨old, he⟩, hit, hne⟩ := st
    obtain ⟨xs, hq, hx⟩ := hg
    obtain ⟨its, rv, p, hz⟩ := I.tuple hq
    subst hx
    obtain ⟨f0, f1, f2, f3, f4, f5⟩ := hf it (by simp)
    have hl : its.toArray.size = xs.length := by rw [List.size_toArray, rv.length]
    refine wpAny_pyNext_enum_endD (drawsTup (prog := X.prog) (w := X.w) (A := X.A.in1) (I.ok.hd hc) it a hai its.toArray) he ?_ fun h1 eb => ⟨rfl, I.turned (t' := s.toks) (fun b o hb q => eb b o hb q) f0 f1 f3 f4 f5⟩
    rw [hl]
    exact ⟨hit, p⟩
  self := fun A i s Q E st h => let ⟨⟨_, he⟩, _⟩ := st; wpAny_pyIter_enum he h
def iEnumT (K : PySem.W.Frag) (ta : TA) : TI := fun σ H R => ta σ H fun vs H1 => ∃ a xs, vs = [.ref a] ∧ SqT K H1 a xs ∧ R (IteT K a) H1
theorem pi_enumT {X : Cx} {e : Expr} {ta : TA} {p pos tpos : Pos} {elts : List Expr} {kk : Nat} (hg : Gl X "enumerate") (hm : X.mg "enumerate" = none) (ha : PA X [e] ta) (hs : starEach [e] X.env = [(false, eval e X.env)] := by rfl) :
    PI X (.Tuple elts kk tpos) (.Call (.Name "enumerate" p) [e] [] pos) (iEnumT X.K ta) := by
  refine ⟨fun pins s σ H R I h => ?_⟩
  refine Call_ (ld_blt I hg hm boot_enumerate (PyProof.Rows.callWith_type1 (thn (ha.run pos pins s σ H _ I h) fun us s1 ⟨vs, H1, I1, r1, a, xs, ex, hq, q⟩ => ?_) hs rfl))
  subst ex
  cases r1 with
  | cons r rr =>
    cases rr
    cases r
    obtain ⟨its, rv, tp, hz⟩ := I1.tuple hq
    have la : a < s1.heap.objs.size := by obtain ⟨o, ho, _⟩ := tp; exact Heap.lt_size ho
    refine call_enumT tp fun h1 he hit hk => wpAny_pyIter_enum he ?_
    refine ⟨s1.heap.objs.size + 1, [s1.heap.objs.size + 1, s1.heap.objs.size], _, _, H1, rfl, I1.kept (t' := s1.toks) hk, turn_enumT a (s1.heap.objs.size + 1) s1.heap.objs.size (Nat.ne_of_lt la) (Nat.ne_of_gt (Nat.lt_succ_of_lt la)), ⟨⟨.none, he⟩, hit, Nat.succ_ne_self _⟩, fun b hb => ?_, q⟩
    have le : s1.heap.objs.size ≤ b := by
      rcases (show b = s1.heap.objs.size + 1 ∨ b = s1.heap.objs.size by simpa using hb) with rfl | rfl
      · exact Nat.le_add_right _ _
      · exact Nat.le_refl _
    exact I1.fpOk le (I1.hok.fresh le)
theorem walk_enumT {K : PySem.W.Frag} {a : Addr} {xs : List V} : Walk (IteT K a) xs.length (fun H => SqT K H a xs) (YPair (fun i => some (.int (i : Nat))) (fun i => xs[i]?)) :=
  ⟨fun i _ hi q => ⟨xs, xs[i], q, by simp [hi]⟩, fun _ q => ⟨xs, q, rfl⟩, fun i H v H' hi q ⟨T, x, e1, e2, e3, e4⟩ => ⟨T, _, x, e1, e2, e3, rfl, e4 xs q⟩⟩
end Al
/-! ## len(set(xs)), xs a list of unlike texts -/
namespace Al
open PySem PySem.Spec PyProof.Rows L2
section
variable {pg : Program} {w : World} {A : Around} {R : Result → Shared → Prop} {I : Addr} {fp wr : List Addr} {G : Array GenState → Array GenState → Prop} {n : Nat} {P : Nat → Value → Prop} {St : Nat → Shared → Prop}
/-- the set holds the first i of xs -/
abbrev HoldsTo (pg : Program) (w : World) (h : Heap) (S : Addr) (xs : List Str) (i : Nat) : Prop := h.SetOf (PySem.strKind pg w) S (fun y => (xs.take i).any (· == y)) i
theorem addStrs (W : WalksS pg w A.in1 I fp wr G n P St) (S : Addr) (nS : S ∉ fp) (xs : List Str) (len : xs.length = n) (few : n ≤ 1000) (nd : xs.Nodup) (val : ∀ i v, P i v → ∃ t, v = .str (xs.getD i Str.empty) t) :
    ∀ (m i : Nat), n - i = m → i ≤ n → ∀ t : Shared, St i t → HoldsTo pg w t.heap S xs i → (∀ t', Moved (S :: wr) G t t' → HoldsTo pg w t'.heap S xs n → R (.ok (.ret .none)) t') → codeAny (model pg w) A (.builtin "set.update.loop" ⟨[.ref S, .ref I], []⟩) R t := by
  have nW : S ∉ wr := fun z => nS (W.sub _ z)
  have up : ∀ b ∈ wr, b ∈ S :: wr := fun b z => List.mem_cons_of_mem _ z
  intro m
  induction m with
  | zero =>
    intro i hm hi t st hS out
    obtain rfl : i = n := by omega
    refine codeAny_builtin PyProof.Rows.F.entry_set_update_loop ?_
    rw [Around.under_plainId PyProof.Rows.F.plain_set_update_loop _]
    show wpAny _ A.in1 (pyNext (.ref I) >>= _) _ _ t
    refine wpAny_bind (W.done t _ _ st fun t' mv => ?_)
    show wpAny _ A.in1 (ret Value.none) _ _ t'
    exact wpAny_pure (out t' (mv.mono up) (let ⟨o, es, ep, tb, ho, rest⟩ := hS; ⟨o, es, ep, tb, mv.heap S _ nW ho, rest⟩))
  | succ m ih =>
    intro i hm hi t st hS out
    have lt : i < n := by omega
    refine codeAny_builtin PyProof.Rows.F.entry_set_update_loop ?_
    rw [Around.under_plainId PyProof.Rows.F.plain_set_update_loop _]
    show wpAny _ A.in1 (pyNext (.ref I) >>= _) _ _ t
    refine wpAny_bind (W.item i t _ _ lt st fun v t' hv st' mv => ?_)
    obtain ⟨k, rfl⟩ := val i v hv
    have hS1 : HoldsTo pg w t'.heap S xs i := let ⟨o, es, ep, tb, ho, rest⟩ := hS; ⟨o, es, ep, tb, mv.heap S _ nW ho, rest⟩
    generalize hy : xs.getD i Str.empty = y
    have ey : xs[i]? = some y := by
      rw [← hy, List.getD_eq_getElem?_getD, List.getElem?_eq_getElem (by omega)]
      rfl
    have new : (xs.take i).any (· == y) = false := by
      rw [List.any_eq_false]
      intro z hz e
      obtain ⟨j, hj, ez⟩ := List.getElem_of_mem hz
      rw [List.length_take] at hj
      rw [List.getElem_take] at ez
      have ej : xs[j]? = some y := by rw [List.getElem?_eq_getElem (by omega), ez, eq_of_beq e]
      have := (List.getElem?_inj (show j < xs.length by omega) nd).mp (ej.trans ey.symm)
      omega
    show wpAny _ A.in1 (holding [Value.str y k] (setAdd S (.str y k)) >>= _) _ _ t'
    refine wpAny_bind (wpAny_holding ?_)
    unfold setAdd
    refine wpAny_holding (wpAny_bind ((PySem.strKind pg w).pyHash (k := y) (strKind_is _ _ _ _) ?_))
    refine wpAny_setAddHashed_of (knd := PySem.strKind pg w) (s := { t' with toks := t'.toks + 1 }) (strKind_is _ _ _ _) rfl hS1 (by unfold scanBound; omega) fun h1 sb hS2 => ?_
    have hS3 : HoldsTo pg w h1 S xs (i + 1) := by
      refine SetOf_congr hS2 (fun z => ?_) (by rw [new]; rfl)
      rw [List.take_add_one, ey, List.any_append]
      show _ = (_ || ([y].any (· == z)))
      by_cases e : z = y
      · subst e
        simp
      · have hb : (y == z) = false := by simpa [beq_iff_eq] using fun q : y = z => e q.symm
        simp [hb, e]
    refine wpAny_pure ⟨plainId_quiet PyProof.Rows.F.plain_set_update_loop _, ih (i + 1) (by omega) lt _ (W.frame _ t' _ _ st' (Nat.le_succ _) fun b hb o e => ?_) hS3 fun t2 mv2 hS4 => ?_⟩
    · rw [sb.2 b (fun z : b = S => nS (by rw [← z]; exact hb))]
      exact e
    · refine out t2 (Moved.trans W.gtrans ((mv.mono up).then_heap (Nat.le_succ _) fun b o hb e => ?_) mv2) hS4
      rw [sb.2 b (fun z : b = S => hb (by rw [z]; exact List.mem_cons_self))]
      exact e
end
section
variable {prog : Program} {w : World} {A : Around} {E : Value → Shared → Prop} {s : Shared}
/-- what stands behind the making of the set -/
abbrev SetMade (prog : Program) (w : World) (h0 h1 : Heap) (xs : List Str) : Prop := HoldsTo prog w h1 h0.objs.size xs xs.length ∧ ∀ b o, b < h0.objs.size → h0.get? b = some o → h1.get? b = some o
set_option maxHeartbeats 3200000 in
theorem call_setStrs {l : Addr} {items : Array Value} {xs : List Str} {Q : Value → Shared → Prop} (hh : A.handled = none) (hl : s.heap.IsList l items) (hi : PyProof.Rows.StrsAre items.toList xs) (few : xs.length ≤ 1000) (nd : xs.Nodup)
    (h : ∀ h1 tk, SetMade prog w s.heap h1 xs → Q (.ref s.heap.objs.size) { s with heap := h1, toks := tk }) : wpAny (model prog w) A (call (.type "set") [.ref l]) Q E s := by
  obtain ⟨c, tl, hmro⟩ := PySem.F.called_set.mro
  have k1 := PySem.F.called_set.made
  have k2 := PySem.F.called_set.sub
  refine wpAny_call (codeAny_of_tree ?_)
  show wpAny _ _ (callAny (.type "set") _) _ _ _
  refine wpAny_pure ⟨Code.quiet_builtin _ (by decide +kernel), codeAny_builtin PySem.F.entry_type_call ?_⟩
  rw [Around.under_plain (weight_type_call_type "set" [.ref l] []) rfl]
  have k3 := PySem.F.called_set.notType
  have k4 := PySem.F.called_set.canCreate
  have k5 := PySem.F.typeCall_set_1 (.ref l)
  repeat (any_goals (first | assumption | wp_step))
  have fresh : ∀ led : Bool, (s.heap.push { cls := .type "set", dict := none, data := .set #[] 0 (.fresh 0 0 led) }).get? s.heap.objs.size = some { cls := .type "set", dict := none, data := .set #[] 0 (.fresh 0 0 led) } := fun led => Heap.get?_push_size _ rfl
  refine codeAny_mono (code_set_new_1 (.ref l) (E := E) (Q₁ := fun obj t => ∃ led : Bool, obj = .ref s.heap.objs.size ∧ t = { s with heap := s.heap.push { cls := .type "set", dict := none, data := .set #[] 0 (.fresh 0 0 led) } }) fun led => ⟨led, rfl, rfl⟩) fun r t hr => ?_
  cases r with
  | error e => exact hr
  | ok fl =>
    cases fl with
    | ret obj =>
      obtain ⟨led, rfl, rfl⟩ := hr
      have hT : Shared.TypeIs { s with heap := s.heap.push { cls := .type "set", dict := none, data := .set #[] 0 (.fresh 0 0 led) } } (.ref s.heap.objs.size) "set" := ⟨_, fresh led, rfl⟩
      have k6 := PySem.F.called_set.init.lookup
      have k7 := PySem.F.called_set.init.bind (.ref s.heap.objs.size)
      repeat (any_goals (first | assumption | wp_step))
      refine codeAny_mono (codeAny_call_builtin (R := wants (fun r t => r = .none ∧ ∃ h1 tk, t = { s with heap := h1, toks := tk } ∧ SetMade prog w s.heap h1 xs) E) PySem.F.called_set.init.plain PySem.F.entry_set_init (check_set_init_1 hT ?_)) fun r2 t2 hr2 => ?_
      · obtain ⟨⟨lc, ld, lt, ls⟩, hol, hcl, nl, hdl⟩ := hl
        obtain rfl : lc = .type "list" := hcl
        obtain rfl : lt = .seq items nl := hdl
        have hol2 : (s.heap.push { cls := .type "set", dict := none, data := .set #[] 0 (.fresh 0 0 led) }).get? l = some { cls := .type "list", dict := ld, data := .seq items nl, slots := ls } := Heap.get?_push_of_some _ hol
        have k8 := PySem.F.sub_list_set
        have k9 := PySem.F.sub_list_frozenset
        have k10 : (Value.type "list" == Value.type "dict") = false := by decide
        have isL : (s.heap.push { cls := .type "set", dict := none, data := .set #[] 0 (.fresh 0 0 led) }).IsList l items := ⟨_, hol2, rfl, nl, rfl⟩
        unfold Builtin.«set.__init__» noKeywords Builtin.Frozenset.updateFrom
        generalize hPI : pyIter = PI
        wp_walk
        subst hPI
        refine wpAny_pyIter_list isL (wpAny_bind (wpAny_runValue ?_))
        have la : l < s.heap.objs.size := Heap.lt_size hol
        have h3 : A.in1.in1.in1.handled = none := by simp [hh]
        have ne1 : l ≠ (s.heap.push { cls := .type "set", dict := none, data := .set #[] 0 (.fresh 0 0 led) }).objs.size := by rw [Heap.size_push]; exact Nat.ne_of_lt (Nat.lt_succ_of_lt la)
        have ne2 : s.heap.objs.size ∉ [(s.heap.push { cls := .type "set", dict := none, data := .set #[] 0 (.fresh 0 0 led) }).objs.size, l] := by
          rw [Heap.size_push]
          simp only [List.mem_cons, List.mem_singleton, List.not_mem_nil, or_false, not_or]
          exact ⟨Nat.ne_of_lt (Nat.lt_succ_self _), Nat.ne_of_gt la⟩
        have sz : xs.length = items.size := by rw [← StrsAre.len_eq hi, Array.length_toList]
        refine addStrs ((Walks.list h3 _ l ne1 items).toS) s.heap.objs.size ne2 xs sz (by rw [← sz]; exact few) nd (fun i v hv => SS.strs_at hi i v (by rw [Array.getElem?_toList]; exact hv)) (items.size - 0) 0 rfl (Nat.zero_le _) _ ⟨⟨_, Heap.get?_push_size _ rfl, rfl, rfl⟩, isL.push _⟩ ?begin1 ?finish1
        case begin1 => exact PyProof.Rows.SetOf_congr ((PyProof.Rows.setObjOf_fresh (knd := PySem.strKind prog w) led).setOf (Heap.get?_push_of_some _ (fresh led)) (by unfold scanBound; omega)) (fun _ => rfl) rfl
        case finish1 =>
          intro t mv hS
          obtain ⟨h1, g1, d1, tk1, o1⟩ := t
          obtain rfl : g1 = s.gens := mv.gens
          obtain rfl : d1 = s.drawn := mv.drawn
          obtain rfl : o1 = s.os := mv.os
          show wpAny _ _ _ _ _ _
          refine wpAny_pure ?_
          show wpAny _ _ (ret Value.none) _ _ _
          refine wpAny_pure ⟨rfl, h1, tk1, rfl, by rw [sz]; exact hS, fun b o hb e => mv.heap b o ?_ (Heap.get?_push_of_some _ (Heap.get?_push_of_some _ e))⟩
          simp only [List.mem_cons, List.mem_singleton, List.not_mem_nil, or_false, not_or]
          exact ⟨Nat.ne_of_lt hb, by rw [Heap.size_push]; exact Nat.ne_of_lt (Nat.lt_succ_of_lt hb)⟩
      · cases r2 with
        | error e => exact hr2
        | ok f2 =>
          cases f2 with
          | ret r =>
            obtain ⟨rfl, h1, tk, rfl, made⟩ := hr2
            repeat (any_goals (first | assumption | wp_step))
            exact h _ _ made
          | _ => exact hr2.elim
    | _ => exact hr.elim
end
section
variable {X : Cx}
def tLenSetS (K : PySem.W.Frag) (ta : TE) : TE := fun σ H Q => ta σ H fun x H1 => ∃ (l : Addr) (xs : List Str), x = .ref l ∧ SqL K H1 l (xs.map V.str) ∧ xs.length ≤ 1000 ∧ xs.Nodup ∧ Q (.int xs.length) H1
theorem pe_lenSetS {e : Expr} {ta : TE} {p p2 q pos : Pos} (hc : X.calm = true) (g1 : Gl X "len") (m1 : X.mg "len" = none) (g2 : Gl X "set") (m2 : X.mg "set" = none) (he : PE X e ta) (na : starEach [e] X.env = (false, eval e X.env) :: starEach [] X.env := by rfl) :
    PE X (.Call (.Name "len" p) [.Call (.Name "set" p2) [e] [] q] [] pos) (tLenSetS X.K ta) := by
  refine ⟨fun pins s σ H Q I h => ?_⟩
  refine Call_ (ld_blt I g1 m1 boot_len (PyProof.Rows.callWith_builtin1 (PyProof.Rows.args_cons ?_ rfl) rfl rfl))
  refine Call_ (ld_blt I g2 m2 boot_set (PyProof.Rows.callWith_type1 (PyProof.Rows.args_cons (thn (he.run pins s σ H _ I h) fun v s1 ⟨x, H1, I1, r1, l, xs, ex, hq, few, nd, q1⟩ => PyProof.Rows.args_nil ?_) na) na rfl))
  subst ex
  cases r1
  obtain ⟨its, r, pl, hz⟩ := I1.list hq
  refine call_setStrs (I1.ok.hd hc) pl.isList (by simpa using strsAre_of r) few nd fun h1 tk ⟨hS, keep⟩ => PyProof.Rows.args_nil ?_
  obtain ⟨o, es, ep, t, ho, hex, hd, _, _, _, hf, hn⟩ := hS
  have I2 : Inv X pins σ H1 { s1 with heap := h1, toks := tk } := I1.kept fun b o e => keep b o (Heap.lt_size e) e
  exact call_len_set ho hex hd hf (by rw [hn]; omega) ⟨.int xs.length, H1, I2.tok _, ⟨_, by rw [hn]⟩, q1⟩
end
end Al
/-! ## list(r), r a range -/
namespace Al
open PySem PySem.Spec PyProof.Rows L2
/-- len(x), its reading by name -/
def rLen (K : PySem.W.Frag) : List V → Hp → VK → Prop := fun xs H Q => ∃ x n, xs = [x] ∧ LenV K x H n ∧ Q (.int (n : Nat)) H
theorem vals_ints : ∀ (us : List Value) (lo : Int) (n : Nat), us.length = n → (∀ (j : Nat) (v : Value), us[j]? = some v → ∃ t, v = .int (lo + j * 1) t) → Vals ((List.range n).map fun (i : Nat) => V.int (lo + i)) us
  | [], lo, n, e, _ => by
    subst e
    exact .nil
  | v :: r, lo, n, e, h => by
    subst e
    rw [List.length_cons, List.range_succ_eq_map, List.map_cons, List.map_map]
    obtain ⟨t, ht⟩ := h 0 v rfl
    refine .cons ?_ ?_
    · have hv : v = .int lo t := by rw [ht]; simp
      subst hv
      exact ⟨t, by simp⟩
    · have hf : ((fun (i : Nat) => V.int (lo + i)) ∘ Nat.succ) = fun (i : Nat) => V.int (lo + 1 + i) := by
        funext i
        show V.int (lo + ((i + 1 : Nat) : Int)) = _
        congr 1
        omega
      rw [hf]
      refine vals_ints r (lo + 1) r.length rfl fun j v hj => ?_
      obtain ⟨t', ht'⟩ := h (j + 1) v hj
      refine ⟨t', ht'.trans ?_⟩
      congr 1
      omega
section
variable {X : Cx}
theorem call_list_rng (hh : X.A.handled = none) : CallR X (.type "list") (fun xs H Q => ∃ (p : Addr) (lo hi : Int), xs = [.ref p] ∧ H p = some (.rng lo hi) ∧ (-(2 ^ 62) ≤ lo ∧ lo < 2 ^ 62 ∧ -(2 ^ 62) ≤ hi ∧ hi < 2 ^ 62) ∧ (hi - lo).toNat ≤ 1000000 ∧ ∀ l, H l = none → Q (.ref l) (upd H l (.lst ((List.range (hi - lo).toNat).map fun (i : Nat) => V.int (lo + i))))) := by
  intro pins s σ H xs us Q I r h
  obtain ⟨p, lo, hi, rfl, hp, ⟨b1, b2, b3, b4⟩, hz, q⟩ := h
  obtain ⟨u, rfl, rx⟩ := vals1 r
  cases rx
  obtain ⟨t, u, v, ho⟩ := I.hok p _ hp
  have hn : Builtin.Range.rangeSize lo hi 1 = (((hi - lo).toNat : Nat) : Int) := by rw [rangeSize_one]; split <;> omega
  refine call_list_range hh ho (small_one b1 b2 b3 b4) hn (Nat.le_trans hz (by decide)) fun h' tk acc c' kp e hI => ?_
  have hv := vals_ints acc.toList lo (hi - lo).toNat (by rw [Array.length_toList]; exact hI.1) fun j v hj => hI.2 j v (by rw [← hj, Array.getElem?_toList])
  have e2 : h'.get? s.heap.objs.size = some { cls := .type "list", dict := none, data := .seq acc.toList.toArray c', slots := #[] } := by rw [Array.toArray_toList]; exact e
  exact ⟨.ref s.heap.objs.size, _, I.laid (t' := tk) kp (Nat.le_refl _) (show ObjOk X.prog X.w _ h' _ (.lst _) from ⟨by rw [List.length_map, List.length_range]; exact le_line hz, acc.toList, c', hv, e2⟩), rfl, q _ (I.hok.fresh (Nat.le_refl _))⟩
end
end Al
/-! ## comprehensions without if whose i-th item is f i, all else standing -/
namespace Al
open PySem PySem.Spec PyProof.Rows L2
theorem lcF {J : It} {n : Nat} {G : Hp → Prop} {Y : Nat → Hp → V → Hp → Prop} (w : Walk J n G Y) {g : TG} {te : TE} {vs : List Nat} {σ : L2.St} {H1 : Hp} {D : Addr} {Qd : Hp → Prop} (f : Nat → V) (hn : n ≤ 1000000) (hD : H1 D = none) (hG : ∀ H', Same H1 H' → G H')
    (hs : ∀ (i : Nat) (x : V) (H H' : Hp) (R : VK), i < n → Same H1 H → Y i H x H' → (∀ H4, Same H H4 → R (f i) H4) → g x (wipe σ vs) H' fun σ2 H2 => wipe σ2 vs = wipe σ vs ∧ te σ2 H2 R)
    (hd : ∀ H', Same H1 H' → H' D = some (.lst ((List.range n).map f)) → Qd H') :
    ∃ W : Nat → Nat → Hp → Prop, (∃ m, W 0 m (upd H1 D (.lst []))) ∧ ∀ i m H, W i m H →
      (J.stop i H ∧ Qd H) ∨ (J.go i H ∧ ∃ Nx : Hp → Prop, (∀ H', Nx H' → ∃ m', m' < m ∧ W (i + 1) m' H') ∧ ∀ x H', J.yld i H x H' → g x (wipe σ vs) H' fun σ2 H2 => wipe σ2 vs = wipe σ vs ∧ tYes σ2 H2 fun b H3 =>
        if b = true then te σ2 H3 fun y H4 => ∃ acc, H4 D = some (.lst acc) ∧ acc.length < sizeLine ∧ Nx (upd H4 D (.lst (acc ++ [y]))) else Nx H3) := by
  refine lc_it w (fun i H => Same H1 H ∧ H D = some (.lst ((List.range i).map f))) ⟨Same.new hD, upd_same⟩ (fun i H _ h => hG H h.1) (fun i x H H' hi ⟨s, e⟩ y => ?_) fun H ⟨s, e⟩ => hd H s e
  have k := hs i x H H' (fun y H4 => ∃ acc, H4 D = some (.lst acc) ∧ acc.length < sizeLine ∧ Same H1 (upd H4 D (.lst (acc ++ [y]))) ∧ upd H4 D (.lst (acc ++ [y])) D = some (.lst ((List.range (i + 1)).map f))) hi s y fun H4 s4 => ?_
  · have e2 : (fun (σ2 : L2.St) (H2 : Hp) => wipe σ2 vs = wipe σ vs ∧ tYes σ2 H2 fun b H3 => if b = true then te σ2 H3 fun y H4 => ∃ acc, H4 D = some (.lst acc) ∧ acc.length < sizeLine ∧ Same H1 (upd H4 D (.lst (acc ++ [y]))) ∧ upd H4 D (.lst (acc ++ [y])) D = some (.lst ((List.range (i + 1)).map f)) else Same H1 H3 ∧ H3 D = some (.lst ((List.range (i + 1)).map f))) =
        fun σ2 H2 => wipe σ2 vs = wipe σ vs ∧ te σ2 H2 fun y H4 => ∃ acc, H4 D = some (.lst acc) ∧ acc.length < sizeLine ∧ Same H1 (upd H4 D (.lst (acc ++ [y]))) ∧ upd H4 D (.lst (acc ++ [y])) D = some (.lst ((List.range (i + 1)).map f)) := by
      funext σ2 H2
      unfold tYes
      dsimp only
      rw [if_pos rfl]
    rw [e2]
    exact k
  · refine ⟨_, s4 _ _ e, by rw [List.length_map, List.length_range]; exact lt_line (by omega), (s.trans s4).mut hD, ?_⟩
    rw [upd_same, List.range_succ, List.map_append]
    rfl
theorem all_rep {n : Nat} {H : Hp} {D : Addr} (h : H D = some (.lst ((List.range n).map fun _ => V.bl true))) : H D = some (.lst ((List.replicate n true).map V.bl)) ∧ (List.replicate n true).all id = true := by
  refine ⟨?_, by rw [List.all_eq_true]; intro b hb; rw [(List.mem_replicate.mp hb).2]; rfl⟩
  rw [h, List.map_replicate, List.map_const', List.length_range]
end Al
/-! ## dict comprehensions over any walk -/
namespace Al
open PySem PySem.Spec PyProof.Rows L2
theorem dc_it {J : It} {n : Nat} {G : Hp → Prop} {Y : Nat → Hp → V → Hp → Prop} (w : Walk J n G Y) {g : TG} {tt : TT} {tk tv : TE} {vs : List Nat} {σ : L2.St} {H1 : Hp} {D : Addr} {Qd : Hp → Prop} (Pv : Nat → Hp → Prop) (h0 : Pv 0 (upd H1 D (.dK []))) (hG : ∀ i H, i ≤ n → Pv i H → G H)
    (hs : ∀ i x H H', i < n → Pv i H → Y i H x H' → g x (wipe σ vs) H' fun σ2 H2 => wipe σ2 vs = wipe σ vs ∧ tt σ2 H2 fun b H3 => if b = true then tk σ2 H3 fun y H4 => tv σ2 H4 fun z H5 => ∃ kvs k, y = kV k ∧ H5 D = some (.dK kvs) ∧ kvs.length < sizeLine ∧ Pv (i + 1) (upd H5 D (.dK (putK kvs k z))) else Pv (i + 1) H3)
    (hd : ∀ H, Pv n H → Qd H) :
    ∃ W : Nat → Nat → Hp → Prop, (∃ m, W 0 m (upd H1 D (.dK []))) ∧ ∀ i m H, W i m H → (J.stop i H ∧ Qd H) ∨ (J.go i H ∧ ∃ Nx : Hp → Prop, (∀ H', Nx H' → ∃ m', m' < m ∧ W (i + 1) m' H') ∧ ∀ x H', J.yld i H x H' → g x (wipe σ vs) H' fun σ2 H2 => wipe σ2 vs = wipe σ vs ∧ tt σ2 H2 fun b H3 =>
      if b = true then tk σ2 H3 fun y H4 => tv σ2 H4 fun z H5 => ∃ kvs k, y = kV k ∧ H5 D = some (.dK kvs) ∧ kvs.length < sizeLine ∧ Nx (upd H5 D (.dK (putK kvs k z))) else Nx H3) := by
  refine ⟨fun i m H => m = n - i ∧ i ≤ n ∧ Pv i H, ⟨n, by simp, Nat.zero_le _, h0⟩, ?_⟩
  rintro i m H ⟨rfl, hi, p⟩
  by_cases lt : i < n
  · exact .inr ⟨w.goes i H lt (hG i H hi p), Pv (i + 1), fun H' p' => ⟨n - (i + 1), by omega, rfl, lt, p'⟩, fun x H' y => hs i x H H' lt p (w.yields i H x H' lt (hG i H hi p) y)⟩
  · obtain rfl : i = n := by omega
    exact .inl ⟨w.stops H (hG i H hi p), hd H p⟩
end Al
namespace K63
open PySem PySem.Spec PyProof.Rows L2 Al
local macro_rules | `(tactic| walk_at "hp") => `(tactic| first
  | assumption
  | exact upd_same
  | (apply SqL.of; walk_at "hp")
  | (apply SqT.of; walk_at "hp")
  | ((first | (apply upd_get; assumption) | (apply upd_get'; walk_at "ne") | (apply Same.get; assumption) | (apply But.get; assumption; walk_at "ne") | (apply upd_seqT; assumption) | (apply upd_seqL; assumption) | (apply Same.seq; assumption) | (apply Same.seqT; assumption) | (apply But.seqL; assumption; walk_at "ne") | (apply But.seqT; assumption; walk_at "ne")); walk_at "hp"))
local macro_rules | `(tactic| walk_at "ne") => `(tactic| first | assumption | (apply Ne.symm; assumption))
local macro_rules | `(tactic| walk_at "ix") => `(tactic| first | exact atI_of (j := 0) (by decide) rfl | exact atI_of (j := 1) (by decide) rfl | exact atI_of (j := 2) (by decide) rfl | exact atI_of (j := 3) (by decide) rfl | exact atI_of (j := 4) (by decide) rfl | exact ixN_lt (j := 0) (by decide) rfl | exact ixN_lt (j := 1) (by decide) rfl | exact ixN_lt (j := 2) (by decide) rfl | exact ixN_lt (j := 3) (by decide) rfl | exact ixN_lt (j := 4) (by decide) rfl | assumption | (apply atI_of (Int.toNat_of_nonneg (by assumption)).symm; assumption))
local macro_rules | `(tactic| walk_at "sz") => `(tactic| first | (apply lt_line; (try simp only [List.length_map, List.length_append, List.length_cons, List.length_nil]); omega) | (apply le_line; (try simp only [List.length_map, List.length_append, List.length_cons, List.length_nil]); omega))
local macro_rules | `(tactic| walk_at "ty") => `(tactic| first | exact .base (.int _) | exact .base (.bl _) | exact .base (.str _) | exact .base .non | (apply TyX.base; apply TyOf.lst; walk_at "hp") | (apply TyX.base; apply TyOf.tup; walk_at "hp") | (apply SqT_ty; walk_at "hp"))
local macro_rules | `(tactic| walk_at "wp1") => `(tactic| first
  | refine ⟨_, rfl, ?_⟩
  | (with_reducible refine tC_go ?_)
  | (with_reducible refine modL (by first | decide | omega) fun _ _ _ _ => ?_)
  | (with_reducible refine divL (by first | decide | omega) (by first | decide | omega) fun _ _ _ _ _ => ?_)
  | refine ⟨_, _, rfl, rfl, ?_⟩
  | refine ⟨_, _, _, _, rfl, rfl, (by walk_at "hp"), (by walk_at "ix"), ?_⟩
  | refine ⟨rfl, ?_⟩
  | refine ⟨⟨_, rfl⟩, ?_⟩
  | refine ⟨.inl ⟨by omega, by omega⟩, ?_⟩
  | refine ⟨.inr ⟨by decide, by decide⟩, ?_⟩
  | refine ⟨⟨by decide, by decide, by decide⟩, ?_⟩
  | refine brT rfl ?_
  | refine brF rfl ?_
  | refine ⟨_, _, rfl, ?_⟩
  | refine ⟨_, _, rfl, .inl ⟨_, (by walk_at "hp"), rfl⟩, ?_⟩
  | refine ⟨_, _, rfl, .inr ⟨_, (by walk_at "hp"), rfl⟩, ?_⟩
  | refine ⟨.inl ⟨rfl, _, (by walk_at "hp")⟩, ?_⟩
  | refine ⟨_, _, _, rfl, rfl, (by walk_at "hp"), (by walk_at "sz"), ?_⟩
  | refine ⟨_, _, rfl, ⟨(by walk_at "sz"), rfl⟩, ?_⟩
  | refine ⟨_, _, rfl, .inr (by walk_at "hp"), rfl, rfl, ?_⟩
  | refine ⟨_, _, _, _, false, rfl, .ty _, (by walk_at "ty"), kit_ty (by decide +kernel), ?_⟩
  | refine ⟨_, _, _, _, true, rfl, .ty _, (by walk_at "ty"), kit_ty (by decide +kernel), ?_⟩
  | refine ⟨_, _, rfl, (by walk_at "hp"), rfl, _, _, rfl, _, _, rfl, rfl, ?_⟩
  | refine ⟨_, _, rfl, (by walk_at "hp"), rfl, _, _, rfl, _, _, rfl, _, _, rfl, rfl, ?_⟩
  | refine .inl ⟨_, rfl, ?_⟩
  | refine .inr ⟨_, rfl, ?_⟩)
local macro_rules | `(tactic| walk_at "wp") => `(tactic| repeat walk_at "wp1")
def topS (i : Nat) : Stmt := PySem.Challenge.pw_alwaystree_k63_token_changes.main.body.getD i (.Pass ⟨0, 0, 0, 0⟩)
/-! ### the text -/
abbrev s_wall : Stmt := topS 0
theorem sc_wall : FnScope ["k"] ["k"] (defScope s_wall) := ⟨rfl, rfl, rfl, by decide +kernel, rfl, by decide +kernel, by decide +kernel⟩
abbrev s_is_integer : Stmt := topS 4
theorem sc_is_integer : FnScope ["value"] ["value"] (defScope s_is_integer) := ⟨rfl, rfl, rfl, by decide +kernel, rfl, by decide +kernel, by decide +kernel⟩
abbrev s_is_below : Stmt := topS 5
theorem sc_is_below : FnScope ["value", "bound"] ["value", "bound"] (defScope s_is_below) := ⟨rfl, rfl, rfl, by decide +kernel, rfl, by decide +kernel, by decide +kernel⟩
abbrev s_is_sequence : Stmt := topS 6
theorem sc_is_sequence : FnScope ["value"] ["value"] (defScope s_is_sequence) := ⟨rfl, rfl, rfl, by decide +kernel, rfl, by decide +kernel, by decide +kernel⟩
abbrev s_is_name : Stmt := topS 7
theorem sc_is_name : FnScope ["value", "sign"] ["value"] (defScope s_is_name) := ⟨rfl, rfl, rfl, by decide +kernel, rfl, by decide +kernel, by decide +kernel⟩
abbrev s_are_names : Stmt := topS 8
theorem sc_are_names : FnScope ["value", "name"] ["value"] (defScope s_are_names) := ⟨rfl, rfl, rfl, by decide +kernel, rfl, by decide +kernel, by decide +kernel⟩
abbrev s_stretch_cost : Stmt := topS 10
theorem sc_stretch_cost : FnScope ["row", "start", "end", "token", "others"] ["row", "start", "end", "token"] (defScope s_stretch_cost) := ⟨rfl, rfl, rfl, by decide +kernel, rfl, by decide +kernel, by decide +kernel⟩
abbrev s_Prices_init : Stmt := inClass (topS 11) 0
theorem sc_Prices_init : FnScope ["self", "grammar", "row", "numbers"] ["self", "grammar", "row", "numbers"] (defScope s_Prices_init) := ⟨rfl, rfl, rfl, by decide +kernel, rfl, by decide +kernel, by decide +kernel⟩
abbrev s_Prices_price : Stmt := inClass (topS 11) 1
theorem sc_Prices_price : FnScope ["self", "code", "start", "end"] ["self", "code", "start", "end"] (defScope s_Prices_price) := ⟨rfl, rfl, rfl, by decide +kernel, rfl, by decide +kernel, by decide +kernel⟩
abbrev s_InvalidKinds_init : Stmt := inClass (topS 14) 0
theorem sc_InvalidKinds_init : FnScope ["self", "value"] ["self", "value"] (defScope s_InvalidKinds_init) := ⟨rfl, rfl, rfl, by decide +kernel, rfl, by decide +kernel, by decide +kernel⟩
abbrev s_InvalidRules_init : Stmt := inClass (topS 15) 0
theorem sc_InvalidRules_init : FnScope ["self", "value"] ["self", "value"] (defScope s_InvalidRules_init) := ⟨rfl, rfl, rfl, by decide +kernel, rfl, by decide +kernel, by decide +kernel⟩
abbrev s_InvalidTokens_init : Stmt := inClass (topS 16) 0
theorem sc_InvalidTokens_init : FnScope ["self", "value"] ["self", "value"] (defScope s_InvalidTokens_init) := ⟨rfl, rfl, rfl, by decide +kernel, rfl, by decide +kernel, by decide +kernel⟩
abbrev s_added : Stmt := topS 18
theorem sc_added : FnScope ["one", "other"] ["one", "other"] (defScope s_added) := ⟨rfl, rfl, rfl, by decide +kernel, rfl, by decide +kernel, by decide +kernel⟩
abbrev s_lowest : Stmt := topS 19
theorem sc_lowest : FnScope ["numbers", "number"] ["numbers"] (defScope s_lowest) := ⟨rfl, rfl, rfl, by decide +kernel, rfl, by decide +kernel, by decide +kernel⟩
abbrev s_Tabling_init : Stmt := inClass (topS 20) 0
theorem sc_Tabling_init : FnScope ["self", "grammar", "row", "known", "width", "start", "key"] ["self", "grammar", "row", "known"] (defScope s_Tabling_init) := ⟨rfl, rfl, rfl, by decide +kernel, rfl, by decide +kernel, by decide +kernel⟩
abbrev s_Tabling_lay : Stmt := inClass (topS 20) 1
theorem sc_Tabling_lay : FnScope ["self", "start", "end", "rules", "inner", "rule", "again"] ["self", "start", "end"] (defScope s_Tabling_lay) := ⟨rfl, rfl, rfl, by decide +kernel, rfl, by decide +kernel, by decide +kernel⟩
abbrev s_Tabling_inner_sums : Stmt := inClass (topS 20) 2
theorem sc_Tabling_inner_sums : FnScope ["self", "rule", "start", "end", "told", "dot", "code", "cut"] ["self", "rule", "start", "end"] (defScope s_Tabling_inner_sums) := ⟨rfl, rfl, rfl, by decide +kernel, rfl, by decide +kernel, by decide +kernel⟩
abbrev s_Tabling_sum_by : Stmt := inClass (topS 20) 3
theorem sc_Tabling_sum_by : FnScope ["self", "rule", "dot", "code", "start", "cut", "end", "ahead"] ["self", "rule", "dot", "code", "start", "cut", "end"] (defScope s_Tabling_sum_by) := ⟨rfl, rfl, rfl, by decide +kernel, rfl, by decide +kernel, by decide +kernel⟩
abbrev s_Tabling_add_up : Stmt := inClass (topS 20) 4
theorem sc_Tabling_add_up : FnScope ["self", "rule", "start", "end", "inner", "dot", "code", "first", "last"] ["self", "rule", "start", "end", "inner"] (defScope s_Tabling_add_up) := ⟨rfl, rfl, rfl, by decide +kernel, rfl, by decide +kernel, by decide +kernel⟩
abbrev s_Tabling_by_rule : Stmt := inClass (topS 20) 5
theorem sc_Tabling_by_rule : FnScope ["self", "rule", "start", "end", "count"] ["self", "rule", "start", "end"] (defScope s_Tabling_by_rule) := ⟨rfl, rfl, rfl, by decide +kernel, rfl, by decide +kernel, by decide +kernel⟩
abbrev s_Tabling_lowers : Stmt := inClass (topS 20) 6
theorem sc_Tabling_lowers : FnScope ["self", "rule", "start", "end", "number", "key"] ["self", "rule", "start", "end"] (defScope s_Tabling_lowers) := ⟨rfl, rfl, rfl, by decide +kernel, rfl, by decide +kernel, by decide +kernel⟩
abbrev s_Tabling_entries : Stmt := inClass (topS 20) 7
theorem sc_Tabling_entries : FnScope ["self"] ["self"] (defScope s_Tabling_entries) := ⟨rfl, rfl, rfl, by decide +kernel, rfl, by decide +kernel, by decide +kernel⟩
abbrev s_is_row : Stmt := topS 22
theorem sc_is_row : FnScope ["grammar", "value", "count", "token"] ["grammar", "value"] (defScope s_is_row) := ⟨rfl, rfl, rfl, by decide +kernel, rfl, by decide +kernel, by decide +kernel⟩
abbrev s_row_asked : Stmt := topS 23
theorem sc_row_asked : FnScope ["grammar", "row"] ["grammar", "row"] (defScope s_row_asked) := ⟨rfl, rfl, rfl, by decide +kernel, rfl, by decide +kernel, by decide +kernel⟩
abbrev s_least_changes : Stmt := topS 25
theorem sc_least_changes : FnScope ["grammar", "row"] ["grammar", "row"] (defScope s_least_changes) := ⟨rfl, rfl, rfl, by decide +kernel, rfl, by decide +kernel, by decide +kernel⟩
abbrev s_token_changes : Stmt := topS 26
theorem sc_token_changes : FnScope ["row", "token"] ["row", "token"] (defScope s_token_changes) := ⟨rfl, rfl, rfl, by decide +kernel, rfl, by decide +kernel, by decide +kernel⟩
abbrev s_Beginnings_init : Stmt := inClass (topS 28) 0
theorem sc_Beginnings_init : FnScope ["self", "count", "groups", "heads", "parts", "table", "line", "codes"] ["self", "count", "groups", "heads", "parts"] (defScope s_Beginnings_init) := ⟨rfl, rfl, rfl, by decide +kernel, rfl, by decide +kernel, by decide +kernel⟩
abbrev s_empty_groups : Stmt := topS 29
theorem sc_empty_groups : FnScope ["count", "groups", "heads", "parts", "found", "again", "head", "codes", "code"] ["count", "groups", "heads", "parts"] (defScope s_empty_groups) := ⟨rfl, rfl, rfl, by decide +kernel, rfl, by decide +kernel, by decide +kernel⟩
abbrev s_first_table : Stmt := topS 30
theorem sc_first_table : FnScope ["known", "groups", "heads", "parts", "table", "again", "head", "codes", "token", "_"] ["known", "groups", "heads", "parts"] (defScope s_first_table) := ⟨rfl, rfl, rfl, by decide +kernel, rfl, by decide +kernel, by decide +kernel⟩
abbrev s_first_of : Stmt := topS 31
theorem sc_first_of : FnScope ["known", "table", "codes", "told", "code", "group"] ["known", "table", "codes"] (defScope s_first_of) := ⟨rfl, rfl, rfl, by decide +kernel, rfl, by decide +kernel, by decide +kernel⟩
abbrev s_marked_ones : Stmt := topS 32
theorem sc_marked_ones : FnScope ["line", "place", "mark"] ["line"] (defScope s_marked_ones) := ⟨rfl, rfl, rfl, by decide +kernel, rfl, by decide +kernel, by decide +kernel⟩
abbrev s_behind_dots : Stmt := topS 33
theorem sc_behind_dots : FnScope ["known", "codes", "tokens", "free", "told", "code", "group"] ["known", "codes"] (defScope s_behind_dots) := ⟨rfl, rfl, rfl, by decide +kernel, rfl, by decide +kernel, by decide +kernel⟩
abbrev s_joined_ones : Stmt := topS 34
theorem sc_joined_ones : FnScope ["one", "other"] ["one", "other"] (defScope s_joined_ones) := ⟨rfl, rfl, rfl, by decide +kernel, rfl, by decide +kernel, by decide +kernel⟩
abbrev s_with_trees : Stmt := topS 36
theorem sc_with_trees : FnScope ["count", "groups", "heads", "parts", "found", "again", "rule", "head"] ["count", "groups", "heads", "parts"] (defScope s_with_trees) := ⟨rfl, rfl, rfl, by decide +kernel, rfl, by decide +kernel, by decide +kernel⟩
abbrev s_can_stand : Stmt := topS 37
theorem sc_can_stand : FnScope ["count", "found", "codes", "code"] ["count", "found", "codes"] (defScope s_can_stand) := ⟨rfl, rfl, rfl, by decide +kernel, rfl, by decide +kernel, by decide +kernel⟩
abbrev s_reached : Stmt := topS 38
theorem sc_reached : FnScope ["count", "groups", "heads", "parts", "whole", "found", "waiting", "group", "rule", "head", "code"] ["count", "groups", "heads", "parts", "whole"] (defScope s_reached) := ⟨rfl, rfl, rfl, by decide +kernel, rfl, by decide +kernel, by decide +kernel⟩
abbrev s_useless_rules : Stmt := topS 39
theorem sc_useless_rules : FnScope ["count", "groups", "heads", "parts", "trees", "whole", "seen", "codes", "rule", "head"] ["count", "groups", "heads", "parts"] (defScope s_useless_rules) := ⟨rfl, rfl, rfl, by decide +kernel, rfl, by decide +kernel, by decide +kernel⟩
abbrev s_Grammar_init : Stmt := inClass (topS 41) 0
theorem sc_Grammar_init : FnScope ["self", "tokens", "rules", "count", "coded", "code", "name", "parts", "part", "group"] ["self", "tokens", "rules"] (defScope s_Grammar_init) := ⟨rfl, rfl, rfl, by decide +kernel, rfl, by decide +kernel, by decide +kernel⟩
abbrev s_Grammar_eq : Stmt := inClass (topS 41) 1
theorem sc_Grammar_eq : FnScope ["self", "other"] ["self", "other"] (defScope s_Grammar_eq) := ⟨rfl, rfl, rfl, by decide +kernel, rfl, by decide +kernel, by decide +kernel⟩
abbrev s_are_rules : Stmt := topS 42
theorem sc_are_rules : FnScope ["tokens", "value", "known", "name", "parts", "pair", "part"] ["tokens", "value"] (defScope s_are_rules) := ⟨rfl, rfl, rfl, by decide +kernel, rfl, by decide +kernel, by decide +kernel⟩
abbrev s_is_rule_pair : Stmt := topS 43
theorem sc_is_rule_pair : FnScope ["value", "name", "parts", "part"] ["value"] (defScope s_is_rule_pair) := ⟨rfl, rfl, rfl, by decide +kernel, rfl, by decide +kernel, by decide +kernel⟩
abbrev s_groups_in : Stmt := topS 44
theorem sc_groups_in : FnScope ["rules", "told", "name", "parts"] ["rules"] (defScope s_groups_in) := ⟨rfl, rfl, rfl, by decide +kernel, rfl, by decide +kernel, by decide +kernel⟩
abbrev s_rules_with : Stmt := topS 45
theorem sc_rules_with : FnScope ["heads", "group", "rule", "head"] ["heads", "group"] (defScope s_rules_with) := ⟨rfl, rfl, rfl, by decide +kernel, rfl, by decide +kernel, by decide +kernel⟩
abbrev s_law_box : Stmt := topS 47
theorem sc_law_box : FnScope ["script", "seed", "great", "cell"] ["script"] (defScope s_law_box) := ⟨rfl, rfl, rfl, by decide +kernel, rfl, by decide +kernel, by decide +kernel⟩
abbrev s_law_draw : Stmt := topS 48
theorem sc_law_draw : FnScope ["box", "many", "told", "mixed"] ["box", "many"] (defScope s_law_draw) := ⟨rfl, rfl, rfl, by decide +kernel, rfl, by decide +kernel, by decide +kernel⟩
abbrev s_law_same : Stmt := topS 51
theorem sc_law_same : FnScope ["told", "due", "k"] ["told", "due"] (defScope s_law_same) := ⟨rfl, rfl, rfl, by decide +kernel, rfl, by decide +kernel, by decide +kernel⟩
abbrev s_law_names : Stmt := topS 52
theorem sc_law_names : FnScope ["box", "many", "letters", "base", "at", "off", "names", "k", "name"] ["box", "many"] (defScope s_law_names) := ⟨rfl, rfl, rfl, by decide +kernel, rfl, by decide +kernel, by decide +kernel⟩
abbrev s_law_costs : Stmt := topS 53
theorem sc_law_costs : FnScope ["row", "word", "costs", "token", "newer", "b"] ["row", "word"] (defScope s_law_costs) := ⟨rfl, rfl, rfl, by decide +kernel, rfl, by decide +kernel, by decide +kernel⟩
abbrev s_law_by_places : Stmt := topS 54
theorem sc_law_by_places : FnScope ["row", "token", "there"] ["row", "token"] (defScope s_law_by_places) := ⟨rfl, rfl, rfl, by decide +kernel, rfl, by decide +kernel, by decide +kernel⟩
abbrev s_law : Stmt := topS 55
theorem sc_law : FnScope ["script", "box", "kinds", "size", "row", "token", "due", "handed", "tokens", "names", "grammar", "k"] ["script"] (defScope s_law) := ⟨rfl, rfl, rfl, by decide +kernel, rfl, by decide +kernel, by decide +kernel⟩
/-! ### what the top has written -/
structure Adr where
  wall : Addr
  wall_d : FuncData
  is_integer : Addr
  is_integer_d : FuncData
  is_below : Addr
  is_below_d : FuncData
  is_sequence : Addr
  is_sequence_d : FuncData
  is_name : Addr
  is_name_d : FuncData
  are_names : Addr
  are_names_d : FuncData
  stretch_cost : Addr
  stretch_cost_d : FuncData
  Prices_init : Addr
  Prices_init_d : FuncData
  Prices_price : Addr
  Prices_price_d : FuncData
  InvalidKinds_init : Addr
  InvalidKinds_init_d : FuncData
  InvalidRules_init : Addr
  InvalidRules_init_d : FuncData
  InvalidTokens_init : Addr
  InvalidTokens_init_d : FuncData
  added : Addr
  added_d : FuncData
  lowest : Addr
  lowest_d : FuncData
  Tabling_init : Addr
  Tabling_init_d : FuncData
  Tabling_lay : Addr
  Tabling_lay_d : FuncData
  Tabling_inner_sums : Addr
  Tabling_inner_sums_d : FuncData
  Tabling_sum_by : Addr
  Tabling_sum_by_d : FuncData
  Tabling_add_up : Addr
  Tabling_add_up_d : FuncData
  Tabling_by_rule : Addr
  Tabling_by_rule_d : FuncData
  Tabling_lowers : Addr
  Tabling_lowers_d : FuncData
  Tabling_entries : Addr
  Tabling_entries_d : FuncData
  is_row : Addr
  is_row_d : FuncData
  row_asked : Addr
  row_asked_d : FuncData
  least_changes : Addr
  least_changes_d : FuncData
  token_changes : Addr
  token_changes_d : FuncData
  Beginnings_init : Addr
  Beginnings_init_d : FuncData
  empty_groups : Addr
  empty_groups_d : FuncData
  first_table : Addr
  first_table_d : FuncData
  first_of : Addr
  first_of_d : FuncData
  marked_ones : Addr
  marked_ones_d : FuncData
  behind_dots : Addr
  behind_dots_d : FuncData
  joined_ones : Addr
  joined_ones_d : FuncData
  with_trees : Addr
  with_trees_d : FuncData
  can_stand : Addr
  can_stand_d : FuncData
  reached : Addr
  reached_d : FuncData
  useless_rules : Addr
  useless_rules_d : FuncData
  Grammar_init : Addr
  Grammar_init_d : FuncData
  Grammar_eq : Addr
  Grammar_eq_d : FuncData
  are_rules : Addr
  are_rules_d : FuncData
  is_rule_pair : Addr
  is_rule_pair_d : FuncData
  groups_in : Addr
  groups_in_d : FuncData
  rules_with : Addr
  rules_with_d : FuncData
  law_box : Addr
  law_box_d : FuncData
  law_draw : Addr
  law_draw_d : FuncData
  law_same : Addr
  law_same_d : FuncData
  law_names : Addr
  law_names_d : FuncData
  law_costs : Addr
  law_costs_d : FuncData
  law_by_places : Addr
  law_by_places_d : FuncData
  law : Addr
  law_d : FuncData
  Prices : Addr
  TreeError : Addr
  InvalidKinds : Addr
  InvalidRules : Addr
  InvalidTokens : Addr
  Tabling : Addr
  Beginnings : Addr
  Grammar : Addr
  LETTERS : Value
  LONGEST : Value
structure Txt (K : PySem.W.Frag) (mg : Str → Option Value) (a : Adr) : Prop where
  F_wall : Fun K "_wall" "_wall" s_wall a.wall a.wall_d
  m_wall : mg "_wall" = some (.ref a.wall)
  F_is_integer : Fun K "is_integer" "is_integer" s_is_integer a.is_integer a.is_integer_d
  m_is_integer : mg "is_integer" = some (.ref a.is_integer)
  F_is_below : Fun K "is_below" "is_below" s_is_below a.is_below a.is_below_d
  m_is_below : mg "is_below" = some (.ref a.is_below)
  F_is_sequence : Fun K "is_sequence" "is_sequence" s_is_sequence a.is_sequence a.is_sequence_d
  m_is_sequence : mg "is_sequence" = some (.ref a.is_sequence)
  F_is_name : Fun K "is_name" "is_name" s_is_name a.is_name a.is_name_d
  m_is_name : mg "is_name" = some (.ref a.is_name)
  F_are_names : Fun K "are_names" "are_names" s_are_names a.are_names a.are_names_d
  m_are_names : mg "are_names" = some (.ref a.are_names)
  F_stretch_cost : Fun K "stretch_cost" "stretch_cost" s_stretch_cost a.stretch_cost a.stretch_cost_d
  m_stretch_cost : mg "stretch_cost" = some (.ref a.stretch_cost)
  F_Prices_init : Fun K "__init__" "Prices.__init__" s_Prices_init a.Prices_init a.Prices_init_d
  F_Prices_price : Fun K "price" "Prices.price" s_Prices_price a.Prices_price a.Prices_price_d
  F_InvalidKinds_init : Fun K "__init__" "InvalidKinds.__init__" s_InvalidKinds_init a.InvalidKinds_init a.InvalidKinds_init_d
  F_InvalidRules_init : Fun K "__init__" "InvalidRules.__init__" s_InvalidRules_init a.InvalidRules_init a.InvalidRules_init_d
  F_InvalidTokens_init : Fun K "__init__" "InvalidTokens.__init__" s_InvalidTokens_init a.InvalidTokens_init a.InvalidTokens_init_d
  F_added : Fun K "added" "added" s_added a.added a.added_d
  m_added : mg "added" = some (.ref a.added)
  F_lowest : Fun K "lowest" "lowest" s_lowest a.lowest a.lowest_d
  m_lowest : mg "lowest" = some (.ref a.lowest)
  F_Tabling_init : Fun K "__init__" "Tabling.__init__" s_Tabling_init a.Tabling_init a.Tabling_init_d
  F_Tabling_lay : Fun K "lay" "Tabling.lay" s_Tabling_lay a.Tabling_lay a.Tabling_lay_d
  F_Tabling_inner_sums : Fun K "inner_sums" "Tabling.inner_sums" s_Tabling_inner_sums a.Tabling_inner_sums a.Tabling_inner_sums_d
  F_Tabling_sum_by : Fun K "sum_by" "Tabling.sum_by" s_Tabling_sum_by a.Tabling_sum_by a.Tabling_sum_by_d
  F_Tabling_add_up : Fun K "add_up" "Tabling.add_up" s_Tabling_add_up a.Tabling_add_up a.Tabling_add_up_d
  F_Tabling_by_rule : Fun K "by_rule" "Tabling.by_rule" s_Tabling_by_rule a.Tabling_by_rule a.Tabling_by_rule_d
  F_Tabling_lowers : Fun K "lowers" "Tabling.lowers" s_Tabling_lowers a.Tabling_lowers a.Tabling_lowers_d
  F_Tabling_entries : Fun K "entries" "Tabling.entries" s_Tabling_entries a.Tabling_entries a.Tabling_entries_d
  F_is_row : Fun K "is_row" "is_row" s_is_row a.is_row a.is_row_d
  m_is_row : mg "is_row" = some (.ref a.is_row)
  F_row_asked : Fun K "row_asked" "row_asked" s_row_asked a.row_asked a.row_asked_d
  m_row_asked : mg "row_asked" = some (.ref a.row_asked)
  F_least_changes : Fun K "least_changes" "least_changes" s_least_changes a.least_changes a.least_changes_d
  m_least_changes : mg "least_changes" = some (.ref a.least_changes)
  F_token_changes : Fun K "token_changes" "token_changes" s_token_changes a.token_changes a.token_changes_d
  m_token_changes : mg "token_changes" = some (.ref a.token_changes)
  F_Beginnings_init : Fun K "__init__" "Beginnings.__init__" s_Beginnings_init a.Beginnings_init a.Beginnings_init_d
  F_empty_groups : Fun K "empty_groups" "empty_groups" s_empty_groups a.empty_groups a.empty_groups_d
  m_empty_groups : mg "empty_groups" = some (.ref a.empty_groups)
  F_first_table : Fun K "first_table" "first_table" s_first_table a.first_table a.first_table_d
  m_first_table : mg "first_table" = some (.ref a.first_table)
  F_first_of : Fun K "first_of" "first_of" s_first_of a.first_of a.first_of_d
  m_first_of : mg "first_of" = some (.ref a.first_of)
  F_marked_ones : Fun K "marked_ones" "marked_ones" s_marked_ones a.marked_ones a.marked_ones_d
  m_marked_ones : mg "marked_ones" = some (.ref a.marked_ones)
  F_behind_dots : Fun K "behind_dots" "behind_dots" s_behind_dots a.behind_dots a.behind_dots_d
  m_behind_dots : mg "behind_dots" = some (.ref a.behind_dots)
  F_joined_ones : Fun K "joined_ones" "joined_ones" s_joined_ones a.joined_ones a.joined_ones_d
  m_joined_ones : mg "joined_ones" = some (.ref a.joined_ones)
  F_with_trees : Fun K "with_trees" "with_trees" s_with_trees a.with_trees a.with_trees_d
  m_with_trees : mg "with_trees" = some (.ref a.with_trees)
  F_can_stand : Fun K "can_stand" "can_stand" s_can_stand a.can_stand a.can_stand_d
  m_can_stand : mg "can_stand" = some (.ref a.can_stand)
  F_reached : Fun K "reached" "reached" s_reached a.reached a.reached_d
  m_reached : mg "reached" = some (.ref a.reached)
  F_useless_rules : Fun K "useless_rules" "useless_rules" s_useless_rules a.useless_rules a.useless_rules_d
  m_useless_rules : mg "useless_rules" = some (.ref a.useless_rules)
  F_Grammar_init : Fun K "__init__" "Grammar.__init__" s_Grammar_init a.Grammar_init a.Grammar_init_d
  F_Grammar_eq : Fun K "__eq__" "Grammar.__eq__" s_Grammar_eq a.Grammar_eq a.Grammar_eq_d
  F_are_rules : Fun K "are_rules" "are_rules" s_are_rules a.are_rules a.are_rules_d
  m_are_rules : mg "are_rules" = some (.ref a.are_rules)
  F_is_rule_pair : Fun K "is_rule_pair" "is_rule_pair" s_is_rule_pair a.is_rule_pair a.is_rule_pair_d
  m_is_rule_pair : mg "is_rule_pair" = some (.ref a.is_rule_pair)
  F_groups_in : Fun K "groups_in" "groups_in" s_groups_in a.groups_in a.groups_in_d
  m_groups_in : mg "groups_in" = some (.ref a.groups_in)
  F_rules_with : Fun K "rules_with" "rules_with" s_rules_with a.rules_with a.rules_with_d
  m_rules_with : mg "rules_with" = some (.ref a.rules_with)
  F_law_box : Fun K "_law_box" "_law_box" s_law_box a.law_box a.law_box_d
  m_law_box : mg "_law_box" = some (.ref a.law_box)
  F_law_draw : Fun K "_law_draw" "_law_draw" s_law_draw a.law_draw a.law_draw_d
  m_law_draw : mg "_law_draw" = some (.ref a.law_draw)
  F_law_same : Fun K "_law_same" "_law_same" s_law_same a.law_same a.law_same_d
  m_law_same : mg "_law_same" = some (.ref a.law_same)
  F_law_names : Fun K "_law_names" "_law_names" s_law_names a.law_names a.law_names_d
  m_law_names : mg "_law_names" = some (.ref a.law_names)
  F_law_costs : Fun K "_law_costs" "_law_costs" s_law_costs a.law_costs a.law_costs_d
  m_law_costs : mg "_law_costs" = some (.ref a.law_costs)
  F_law_by_places : Fun K "_law_by_places" "_law_by_places" s_law_by_places a.law_by_places a.law_by_places_d
  m_law_by_places : mg "_law_by_places" = some (.ref a.law_by_places)
  F_law : Fun K "law" "law" s_law a.law a.law_d
  m_law : mg "law" = some (.ref a.law)
  m_Prices : mg "Prices" = some (.ref a.Prices)
  cl_Prices : Cls K a.Prices
  mk_Prices : Mk K a.Prices a.Prices_init
  mt_Prices_price : Meth K a.Prices "price" a.Prices_price
  nf_Prices_count : NoAttr K a.Prices "count"
  nf_Prices_row : NoAttr K a.Prices "row"
  nf_Prices_numbers : NoAttr K a.Prices "numbers"
  m_TreeError : mg "TreeError" = some (.ref a.TreeError)
  m_InvalidKinds : mg "InvalidKinds" = some (.ref a.InvalidKinds)
  e_InvalidKinds : ExAll K a.InvalidKinds a.TreeError a.InvalidKinds_init
  n_InvalidKinds_value : PySem.W.findIn K (.ref a.InvalidKinds) "value" = some none
  m_InvalidRules : mg "InvalidRules" = some (.ref a.InvalidRules)
  e_InvalidRules : ExAll K a.InvalidRules a.TreeError a.InvalidRules_init
  n_InvalidRules_value : PySem.W.findIn K (.ref a.InvalidRules) "value" = some none
  m_InvalidTokens : mg "InvalidTokens" = some (.ref a.InvalidTokens)
  e_InvalidTokens : ExAll K a.InvalidTokens a.TreeError a.InvalidTokens_init
  n_InvalidTokens_value : PySem.W.findIn K (.ref a.InvalidTokens) "value" = some none
  m_Tabling : mg "Tabling" = some (.ref a.Tabling)
  cl_Tabling : Cls K a.Tabling
  mk_Tabling : Mk K a.Tabling a.Tabling_init
  mt_Tabling_lay : Meth K a.Tabling "lay" a.Tabling_lay
  mt_Tabling_inner_sums : Meth K a.Tabling "inner_sums" a.Tabling_inner_sums
  mt_Tabling_sum_by : Meth K a.Tabling "sum_by" a.Tabling_sum_by
  mt_Tabling_add_up : Meth K a.Tabling "add_up" a.Tabling_add_up
  mt_Tabling_by_rule : Meth K a.Tabling "by_rule" a.Tabling_by_rule
  mt_Tabling_lowers : Meth K a.Tabling "lowers" a.Tabling_lowers
  mt_Tabling_entries : Meth K a.Tabling "entries" a.Tabling_entries
  nf_Tabling_grammar : NoAttr K a.Tabling "grammar"
  nf_Tabling_row : NoAttr K a.Tabling "row"
  nf_Tabling_numbers : NoAttr K a.Tabling "numbers"
  nf_Tabling_prices : NoAttr K a.Tabling "prices"
  nf_Tabling_sums : NoAttr K a.Tabling "sums"
  nf_Tabling_made : NoAttr K a.Tabling "made"
  m_Beginnings : mg "Beginnings" = some (.ref a.Beginnings)
  cl_Beginnings : Cls K a.Beginnings
  mk_Beginnings : Mk K a.Beginnings a.Beginnings_init
  nf_Beginnings_count : NoAttr K a.Beginnings "count"
  nf_Beginnings_empty : NoAttr K a.Beginnings "empty"
  nf_Beginnings_first : NoAttr K a.Beginnings "first"
  nf_Beginnings_behind : NoAttr K a.Beginnings "behind"
  m_Grammar : mg "Grammar" = some (.ref a.Grammar)
  cl_Grammar : Cls K a.Grammar
  mk_Grammar : Mk K a.Grammar a.Grammar_init
  mt_Grammar___eq__ : Meth K a.Grammar "__eq__" a.Grammar_eq
  nf_Grammar_tokens : NoAttr K a.Grammar "tokens"
  nf_Grammar_rules : NoAttr K a.Grammar "rules"
  nf_Grammar_groups : NoAttr K a.Grammar "groups"
  nf_Grammar_codes : NoAttr K a.Grammar "codes"
  nf_Grammar_heads : NoAttr K a.Grammar "heads"
  nf_Grammar_parts : NoAttr K a.Grammar "parts"
  nf_Grammar_rules_of : NoAttr K a.Grammar "rules_of"
  nf_Grammar_beginnings : NoAttr K a.Grammar "beginnings"
  nf_Grammar_state_list : NoAttr K a.Grammar "state_list"
  m_LETTERS : mg "LETTERS" = some a.LETTERS
  r_LETTERS : RelV (.str "abcdefghijklmnopqrstuvwxyz") a.LETTERS
  m_LONGEST : mg "LONGEST" = some a.LONGEST
  r_LONGEST : RelV (.int 12) a.LONGEST
  z_all : mg "all" = none
  z_bool : mg "bool" = none
  z_enumerate : mg "enumerate" = none
  z_int : mg "int" = none
  z_isinstance : mg "isinstance" = none
  z_len : mg "len" = none
  z_list : mg "list" = none
  z_max : mg "max" = none
  z_min : mg "min" = none
  z_range : mg "range" = none
  z_reversed : mg "reversed" = none
  z_set : mg "set" = none
  z_sorted : mg "sorted" = none
  z_str : mg "str" = none
  z_tuple : mg "tuple" = none
  z_zip : mg "zip" = none
section
variable {K : PySem.W.Frag} {mg : Str → Option Value} {a : Adr}
theorem B_wall (T : Txt K mg a) : Binds K a.wall_d ["k"] [] := T.F_wall.binds (ps := ["k"]) fun _ _ _ _ _ _ us hl => match us, hl with | [_], _ => rfl
theorem B_is_integer (T : Txt K mg a) : Binds K a.is_integer_d ["value"] [] := T.F_is_integer.binds (ps := ["value"]) fun _ _ _ _ _ _ us hl => match us, hl with | [_], _ => rfl
theorem B_is_below (T : Txt K mg a) : Binds K a.is_below_d ["value", "bound"] [] := T.F_is_below.binds (ps := ["value", "bound"]) fun _ _ _ _ _ _ us hl => match us, hl with | [_, _], _ => rfl
theorem B_is_sequence (T : Txt K mg a) : Binds K a.is_sequence_d ["value"] [] := T.F_is_sequence.binds (ps := ["value"]) fun _ _ _ _ _ _ us hl => match us, hl with | [_], _ => rfl
theorem B_is_name (T : Txt K mg a) : Binds K a.is_name_d ["value"] [] := T.F_is_name.binds (ps := ["value"]) fun _ _ _ _ _ _ us hl => match us, hl with | [_], _ => rfl
theorem B_are_names (T : Txt K mg a) : Binds K a.are_names_d ["value"] [] := T.F_are_names.binds (ps := ["value"]) fun _ _ _ _ _ _ us hl => match us, hl with | [_], _ => rfl
theorem B_stretch_cost (T : Txt K mg a) : Binds K a.stretch_cost_d ["row", "start", "end", "token"] [] := T.F_stretch_cost.binds (ps := ["row", "start", "end", "token"]) fun _ _ _ _ _ _ us hl => match us, hl with | [_, _, _, _], _ => rfl
theorem B_Prices_init (T : Txt K mg a) : Binds K a.Prices_init_d ["self", "grammar", "row", "numbers"] [] := T.F_Prices_init.binds (ps := ["self", "grammar", "row", "numbers"]) fun _ _ _ _ _ _ us hl => match us, hl with | [_, _, _, _], _ => rfl
theorem B_Prices_price (T : Txt K mg a) : Binds K a.Prices_price_d ["self", "code", "start", "end"] [] := T.F_Prices_price.binds (ps := ["self", "code", "start", "end"]) fun _ _ _ _ _ _ us hl => match us, hl with | [_, _, _, _], _ => rfl
theorem B_InvalidKinds_init (T : Txt K mg a) : Binds K a.InvalidKinds_init_d ["self", "value"] [] := T.F_InvalidKinds_init.binds (ps := ["self", "value"]) fun _ _ _ _ _ _ us hl => match us, hl with | [_, _], _ => rfl
theorem B_InvalidRules_init (T : Txt K mg a) : Binds K a.InvalidRules_init_d ["self", "value"] [] := T.F_InvalidRules_init.binds (ps := ["self", "value"]) fun _ _ _ _ _ _ us hl => match us, hl with | [_, _], _ => rfl
theorem B_InvalidTokens_init (T : Txt K mg a) : Binds K a.InvalidTokens_init_d ["self", "value"] [] := T.F_InvalidTokens_init.binds (ps := ["self", "value"]) fun _ _ _ _ _ _ us hl => match us, hl with | [_, _], _ => rfl
theorem B_added (T : Txt K mg a) : Binds K a.added_d ["one", "other"] [] := T.F_added.binds (ps := ["one", "other"]) fun _ _ _ _ _ _ us hl => match us, hl with | [_, _], _ => rfl
theorem B_lowest (T : Txt K mg a) : Binds K a.lowest_d ["numbers"] [] := T.F_lowest.binds (ps := ["numbers"]) fun _ _ _ _ _ _ us hl => match us, hl with | [_], _ => rfl
theorem B_Tabling_init (T : Txt K mg a) : Binds K a.Tabling_init_d ["self", "grammar", "row", "known"] [] := T.F_Tabling_init.binds (ps := ["self", "grammar", "row", "known"]) fun _ _ _ _ _ _ us hl => match us, hl with | [_, _, _, _], _ => rfl
theorem B_Tabling_lay (T : Txt K mg a) : Binds K a.Tabling_lay_d ["self", "start", "end"] [] := T.F_Tabling_lay.binds (ps := ["self", "start", "end"]) fun _ _ _ _ _ _ us hl => match us, hl with | [_, _, _], _ => rfl
theorem B_Tabling_inner_sums (T : Txt K mg a) : Binds K a.Tabling_inner_sums_d ["self", "rule", "start", "end"] [] := T.F_Tabling_inner_sums.binds (ps := ["self", "rule", "start", "end"]) fun _ _ _ _ _ _ us hl => match us, hl with | [_, _, _, _], _ => rfl
theorem B_Tabling_sum_by (T : Txt K mg a) : Binds K a.Tabling_sum_by_d ["self", "rule", "dot", "code", "start", "cut", "end"] [] := T.F_Tabling_sum_by.binds (ps := ["self", "rule", "dot", "code", "start", "cut", "end"]) fun _ _ _ _ _ _ us hl => match us, hl with | [_, _, _, _, _, _, _], _ => rfl
theorem B_Tabling_add_up (T : Txt K mg a) : Binds K a.Tabling_add_up_d ["self", "rule", "start", "end", "inner"] [] := T.F_Tabling_add_up.binds (ps := ["self", "rule", "start", "end", "inner"]) fun _ _ _ _ _ _ us hl => match us, hl with | [_, _, _, _, _], _ => rfl
theorem B_Tabling_by_rule (T : Txt K mg a) : Binds K a.Tabling_by_rule_d ["self", "rule", "start", "end"] [] := T.F_Tabling_by_rule.binds (ps := ["self", "rule", "start", "end"]) fun _ _ _ _ _ _ us hl => match us, hl with | [_, _, _, _], _ => rfl
theorem B_Tabling_lowers (T : Txt K mg a) : Binds K a.Tabling_lowers_d ["self", "rule", "start", "end"] [] := T.F_Tabling_lowers.binds (ps := ["self", "rule", "start", "end"]) fun _ _ _ _ _ _ us hl => match us, hl with | [_, _, _, _], _ => rfl
theorem B_Tabling_entries (T : Txt K mg a) : Binds K a.Tabling_entries_d ["self"] [] := T.F_Tabling_entries.binds (ps := ["self"]) fun _ _ _ _ _ _ us hl => match us, hl with | [_], _ => rfl
theorem B_is_row (T : Txt K mg a) : Binds K a.is_row_d ["grammar", "value"] [] := T.F_is_row.binds (ps := ["grammar", "value"]) fun _ _ _ _ _ _ us hl => match us, hl with | [_, _], _ => rfl
theorem B_row_asked (T : Txt K mg a) : Binds K a.row_asked_d ["grammar", "row"] [] := T.F_row_asked.binds (ps := ["grammar", "row"]) fun _ _ _ _ _ _ us hl => match us, hl with | [_, _], _ => rfl
theorem B_least_changes (T : Txt K mg a) : Binds K a.least_changes_d ["grammar", "row"] [] := T.F_least_changes.binds (ps := ["grammar", "row"]) fun _ _ _ _ _ _ us hl => match us, hl with | [_, _], _ => rfl
theorem B_token_changes (T : Txt K mg a) : Binds K a.token_changes_d ["row", "token"] [] := T.F_token_changes.binds (ps := ["row", "token"]) fun _ _ _ _ _ _ us hl => match us, hl with | [_, _], _ => rfl
theorem B_Beginnings_init (T : Txt K mg a) : Binds K a.Beginnings_init_d ["self", "count", "groups", "heads", "parts"] [] := T.F_Beginnings_init.binds (ps := ["self", "count", "groups", "heads", "parts"]) fun _ _ _ _ _ _ us hl => match us, hl with | [_, _, _, _, _], _ => rfl
theorem B_empty_groups (T : Txt K mg a) : Binds K a.empty_groups_d ["count", "groups", "heads", "parts"] [] := T.F_empty_groups.binds (ps := ["count", "groups", "heads", "parts"]) fun _ _ _ _ _ _ us hl => match us, hl with | [_, _, _, _], _ => rfl
theorem B_first_table (T : Txt K mg a) : Binds K a.first_table_d ["known", "groups", "heads", "parts"] [] := T.F_first_table.binds (ps := ["known", "groups", "heads", "parts"]) fun _ _ _ _ _ _ us hl => match us, hl with | [_, _, _, _], _ => rfl
theorem B_first_of (T : Txt K mg a) : Binds K a.first_of_d ["known", "table", "codes"] [] := T.F_first_of.binds (ps := ["known", "table", "codes"]) fun _ _ _ _ _ _ us hl => match us, hl with | [_, _, _], _ => rfl
theorem B_marked_ones (T : Txt K mg a) : Binds K a.marked_ones_d ["line"] [] := T.F_marked_ones.binds (ps := ["line"]) fun _ _ _ _ _ _ us hl => match us, hl with | [_], _ => rfl
theorem B_behind_dots (T : Txt K mg a) : Binds K a.behind_dots_d ["known", "codes"] [] := T.F_behind_dots.binds (ps := ["known", "codes"]) fun _ _ _ _ _ _ us hl => match us, hl with | [_, _], _ => rfl
theorem B_joined_ones (T : Txt K mg a) : Binds K a.joined_ones_d ["one", "other"] [] := T.F_joined_ones.binds (ps := ["one", "other"]) fun _ _ _ _ _ _ us hl => match us, hl with | [_, _], _ => rfl
theorem B_with_trees (T : Txt K mg a) : Binds K a.with_trees_d ["count", "groups", "heads", "parts"] [] := T.F_with_trees.binds (ps := ["count", "groups", "heads", "parts"]) fun _ _ _ _ _ _ us hl => match us, hl with | [_, _, _, _], _ => rfl
theorem B_can_stand (T : Txt K mg a) : Binds K a.can_stand_d ["count", "found", "codes"] [] := T.F_can_stand.binds (ps := ["count", "found", "codes"]) fun _ _ _ _ _ _ us hl => match us, hl with | [_, _, _], _ => rfl
theorem B_reached (T : Txt K mg a) : Binds K a.reached_d ["count", "groups", "heads", "parts", "whole"] [] := T.F_reached.binds (ps := ["count", "groups", "heads", "parts", "whole"]) fun _ _ _ _ _ _ us hl => match us, hl with | [_, _, _, _, _], _ => rfl
theorem B_useless_rules (T : Txt K mg a) : Binds K a.useless_rules_d ["count", "groups", "heads", "parts"] [] := T.F_useless_rules.binds (ps := ["count", "groups", "heads", "parts"]) fun _ _ _ _ _ _ us hl => match us, hl with | [_, _, _, _], _ => rfl
theorem B_Grammar_init (T : Txt K mg a) : Binds K a.Grammar_init_d ["self", "tokens", "rules"] [] := T.F_Grammar_init.binds (ps := ["self", "tokens", "rules"]) fun _ _ _ _ _ _ us hl => match us, hl with | [_, _, _], _ => rfl
theorem B_Grammar_eq (T : Txt K mg a) : Binds K a.Grammar_eq_d ["self", "other"] [] := T.F_Grammar_eq.binds (ps := ["self", "other"]) fun _ _ _ _ _ _ us hl => match us, hl with | [_, _], _ => rfl
theorem B_are_rules (T : Txt K mg a) : Binds K a.are_rules_d ["tokens", "value"] [] := T.F_are_rules.binds (ps := ["tokens", "value"]) fun _ _ _ _ _ _ us hl => match us, hl with | [_, _], _ => rfl
theorem B_is_rule_pair (T : Txt K mg a) : Binds K a.is_rule_pair_d ["value"] [] := T.F_is_rule_pair.binds (ps := ["value"]) fun _ _ _ _ _ _ us hl => match us, hl with | [_], _ => rfl
theorem B_groups_in (T : Txt K mg a) : Binds K a.groups_in_d ["rules"] [] := T.F_groups_in.binds (ps := ["rules"]) fun _ _ _ _ _ _ us hl => match us, hl with | [_], _ => rfl
theorem B_rules_with (T : Txt K mg a) : Binds K a.rules_with_d ["heads", "group"] [] := T.F_rules_with.binds (ps := ["heads", "group"]) fun _ _ _ _ _ _ us hl => match us, hl with | [_, _], _ => rfl
theorem B_law_box (T : Txt K mg a) : Binds K a.law_box_d ["script"] [] := T.F_law_box.binds (ps := ["script"]) fun _ _ _ _ _ _ us hl => match us, hl with | [_], _ => rfl
theorem B_law_draw (T : Txt K mg a) : Binds K a.law_draw_d ["box", "many"] [] := T.F_law_draw.binds (ps := ["box", "many"]) fun _ _ _ _ _ _ us hl => match us, hl with | [_, _], _ => rfl
theorem B_law_same (T : Txt K mg a) : Binds K a.law_same_d ["told", "due"] [] := T.F_law_same.binds (ps := ["told", "due"]) fun _ _ _ _ _ _ us hl => match us, hl with | [_, _], _ => rfl
theorem B_law_names (T : Txt K mg a) : Binds K a.law_names_d ["box", "many"] [] := T.F_law_names.binds (ps := ["box", "many"]) fun _ _ _ _ _ _ us hl => match us, hl with | [_, _], _ => rfl
theorem B_law_costs (T : Txt K mg a) : Binds K a.law_costs_d ["row", "word"] [] := T.F_law_costs.binds (ps := ["row", "word"]) fun _ _ _ _ _ _ us hl => match us, hl with | [_, _], _ => rfl
theorem B_law_by_places (T : Txt K mg a) : Binds K a.law_by_places_d ["row", "token"] [] := T.F_law_by_places.binds (ps := ["row", "token"]) fun _ _ _ _ _ _ us hl => match us, hl with | [_, _], _ => rfl
theorem B_law (T : Txt K mg a) : Binds K a.law_d ["script"] [] := T.F_law.binds (ps := ["script"]) fun _ _ _ _ _ _ us hl => match us, hl with | [_], _ => rfl
end

section
variable {P : Program} {w : World} {K : PySem.W.Frag} {mg : Str → Option Value} {base : Heap} {a : Adr}
/-! ### plain values -/
local macro_rules | `(tactic| walk_at "cl") => `(tactic| first | exact Txt.cl_Prices (by assumption) | exact Txt.cl_Tabling (by assumption) | exact Txt.cl_Beginnings (by assumption) | exact Txt.cl_Grammar (by assumption))
/-- a name, as the program wants it -/
def okName (s : Str) : Prop := 1 ≤ s.length ∧ s.length ≤ 12 ∧ ∀ c ∈ s.cps.toList, 97 ≤ c ∧ c ≤ 122
theorem inLetters : ∀ c, c < 123 → 97 ≤ c → c ∈ ("abcdefghijklmnopqrstuvwxyz" : Str).cps.toList := by decide +kernel
def sp_is_integer : Sp := fun vs H Q _ => ∃ i : Int, vs = [.int i] ∧ Q (.bl true) H
theorem ok_is_integer (T : Txt K mg a) : FnOk P w K mg base CX0 1 a.is_integer a.is_integer_d ["value"] sp_is_integer := by
  refine T.F_is_integer.ok sc_is_integer (fun vs H Q E h => ?_) (fun cdv A outer s H vs Q E hr h => ?_)
  · obtain ⟨i, rfl, _⟩ := h
    rfl
  · obtain ⟨i, rfl, q⟩ := h
    refine ⟨_, (pss_one (ps_ret (pe_and (pe_callB call_isi (by rfl) T.z_isinstance (by decide +kernel) (pa_cons (pv 0) (pa_cons (pe_bltn (v := .ty "int") (by rfl) T.z_int (by decide +kernel) rfl) pa_nil))) (pe_one (pe_not (pe_callB call_isi (by rfl) T.z_isinstance (by decide +kernel) (pa_cons (pv 0) (pa_cons (pe_bltn (v := .ty "bool") (by rfl) T.z_bool (by decide +kernel) rfl) pa_nil)))))))), ?_⟩
    walk_at "wp"
    exact q
def sp_is_below : Sp := fun vs H Q _ => ∃ i n : Int, vs = [.int i, .int n] ∧ Q (.bl (decide (0 ≤ i ∧ i < n))) H
theorem ok_is_below (T : Txt K mg a) : FnOk P w K mg base CX0 2 a.is_below a.is_below_d ["value", "bound"] sp_is_below := by
  refine T.F_is_below.ok sc_is_below (fun vs H Q E h => ?_) (fun cdv A outer s H vs Q E hr h => ?_)
  · obtain ⟨i, n, rfl, _⟩ := h
    rfl
  · obtain ⟨i, n, rfl, q⟩ := h
    refine ⟨_, (pss_one (ps_ret (pe_and (pe_call (ok_is_integer T) (hr.mono (by decide)) (by rfl) T.m_is_integer T.F_is_integer.kp (B_is_integer T) .nil pass0 (pa_cons (pv 0) pa_nil)) (pe_one (pe_chain op_le op_lt pe_int (pv 0) (pv 1)))))), ?_⟩
    walk_at "wp"
    refine brd (fun h1 => ?_) (fun h1 => ?_)
    · walk_at "wp"
      rw [show decide (0 ≤ i ∧ i < n) = decide (i < n) by rw [decide_eq_decide]; exact ⟨fun z => z.2, fun z => ⟨h1, z⟩⟩] at q
      exact q
    · rw [decide_eq_false (fun z => h1 z.1)] at q
      exact q
theorem kitAny_head {K : PySem.W.Frag} {t u : Value} {us : List Value} (h : PySem.W.kitOne K t u = some true) : PySem.W.kitAny K t (u :: us) = some true := by
  unfold PySem.W.kitAny
  rw [h]
theorem kitAny_next {K : PySem.W.Frag} {t u : Value} {us : List Value} (h : PySem.W.kitOne K t u = some false) (g : PySem.W.kitAny K t us = some true) : PySem.W.kitAny K t (u :: us) = some true := by
  unfold PySem.W.kitAny
  rw [h, g]
def sp_is_sequence (K : PySem.W.Frag) : Sp := fun vs H Q _ => ∃ (p : Addr) (xs : List V), vs = [.ref p] ∧ (H p = some (.lst xs) ∨ SqT K H p xs) ∧ ∀ H', Same H H' → Q (.bl true) H'
theorem ok_is_sequence (T : Txt K mg a) : FnOk P w K mg base CX0 1 a.is_sequence a.is_sequence_d ["value"] (sp_is_sequence K) := by
  refine T.F_is_sequence.ok sc_is_sequence (fun vs H Q E h => ?_) (fun cdv A outer s H vs Q E hr h => ?_)
  · obtain ⟨p, xs, rfl, _⟩ := h
    rfl
  · obtain ⟨p, xs, rfl, e, q⟩ := h
    refine ⟨_, (pss_one (ps_ret (pe_callB call_isiT (by rfl) T.z_isinstance (by decide +kernel) (pa_cons (pv 0) (pa_cons (pe_tup (pa_cons (pe_bltn (v := .ty "list") (by rfl) T.z_list (by decide +kernel) rfl) (pa_cons (pe_bltn (v := .ty "tuple") (by rfl) T.z_tuple (by decide +kernel) rfl) pa_nil))) pa_nil))))), ?_⟩
    walk_at "wp"
    refine ⟨disp rfl, fun tp htp => ?_⟩
    have s1 := Same.new (o := .tup [.ty "list", .ty "tuple"]) htp
    rcases e with e | e
    · exact ⟨_, tp, _, .type "list", _, true, rfl, upd_same, .cons (.ty _) (.cons (.ty _) .nil), .base (.lst (s1 _ _ e)), kitAny_head (kit_ty (by decide +kernel)), q _ s1⟩
    · exact ⟨_, tp, _, .type "tuple", _, true, rfl, upd_same, .cons (.ty _) (.cons (.ty _) .nil), SqT_ty (s1.seqT e), kitAny_next (kit_ty (by decide +kernel)) (kitAny_head (kit_ty (by decide +kernel))), q _ s1⟩
def sp_is_name : Sp := fun vs H Q _ => ∃ s : Str, vs = [.str s] ∧ okName s ∧ ∀ H', Same H H' → Q (.bl true) H'
theorem ok_is_name (T : Txt K mg a) : FnOk P w K mg base CX0 1 a.is_name a.is_name_d ["value"] sp_is_name := by
  refine T.F_is_name.ok sc_is_name (fun vs H Q E h => ?_) (fun cdv A outer s H vs Q E hr h => ?_)
  · obtain ⟨s, rfl, _⟩ := h
    rfl
  · obtain ⟨z, rfl, ⟨z1, z2, z3⟩, q⟩ := h
    refine ⟨_, (pss_cons (ps_if (PW.pt (pw_or (pt_not (pt_val (pe_callB call_isi (by rfl) T.z_isinstance (by decide +kernel) (pa_cons (pv 0) (pa_cons (pe_bltn (v := .ty "str") (by rfl) T.z_str (by decide +kernel) rfl) pa_nil))))) (pw_or1 (pt_not (pt_chain op_le op_le pe_int (pe_callB call_len (by rfl) T.z_len (by decide +kernel) (pa_cons (pv 0) pa_nil)) (pe_glob (by rfl) T.m_LONGEST T.r_LONGEST))))))
      (pss_one (ps_ret pe_bl))
      pss_nil)
    (pss_one (ps_ret (pe_callB (cr_all rfl) (by rfl) T.z_all (by decide +kernel) (pa_cons (pe_lc (own := [("sign", 1)]) rfl sc_is_name.nd (pi_str (pv 0)) (blkOk_by (own := [("sign", 1)]) (N := ["value", "sign"]) (sc := defScope s_is_name) (by decide +kernel)) (fun _ _ _ _ _ => (pg_name (i := 1) sc_is_name.nd rfl (Or.inl rfl))) (fun _ _ _ _ _ => pts_nil) (fun _ _ _ _ _ => (pe_cmpR op_in_sign (pv 1) (pe_glob (by rfl) T.m_LETTERS T.r_LETTERS) rfl))) pa_nil))))), ?_⟩
    have e1 : (1 : Int) ≤ z.length := by omega
    have e2 : (z.length : Int) ≤ 12 := by omega
    walk_at "wp"
    refine brT (decide_eq_true e1) ?_
    walk_at "wp"
    refine brF (by rw [decide_eq_true e2]; rfl) ?_
    walk_at "wp"
    refine fun D hD => lcF (walk_str (z := z)) (fun _ => .bl true) (by show z.length ≤ _; omega) hD (fun _ _ => trivial) (fun i x H2 H3 R hi sm y k => ?_) fun H2 sm e => ?_
    · obtain ⟨rfl, c, hc, rfl⟩ := y
      refine ⟨rfl, ?_⟩
      have hm : c ∈ z.cps.toList := List.mem_of_getElem? (by rw [Array.getElem?_toList]; exact hc)
      obtain ⟨h1, h2⟩ := z3 c hm
      walk_at "wp"
      have e3 := decide_eq_true (inLetters c (by omega) h1)
      show R (.bl (decide (c ∈ ("abcdefghijklmnopqrstuvwxyz" : Str).cps.toList))) H3
      rw [e3]
      exact k _ (.refl _)
    · obtain ⟨e4, e5⟩ := all_rep e
      refine ⟨D, _, rfl, SqL.of e4, ?_⟩
      rw [e5]
      exact q _ sm
def sp_are_names (K : PySem.W.Frag) : Sp := fun vs H Q _ => ∃ (p : Addr) (ts : List Str), vs = [.ref p] ∧ H p = some (.lst (ts.map V.str)) ∧ 0 < ts.length ∧ ts.length ≤ 60 ∧ (∀ t ∈ ts, okName t) ∧ ts.Nodup ∧ ∀ H', Same H H' → Q (.bl true) H'
theorem ok_are_names (T : Txt K mg a) : FnOk P w K mg base CX0 2 a.are_names a.are_names_d ["value"] (sp_are_names K) := by
  refine T.F_are_names.ok sc_are_names (fun vs H Q E h => ?_) (fun cdv A outer s H vs Q E hr h => ?_)
  · obtain ⟨p, ts, rfl, _⟩ := h
    rfl
  · obtain ⟨p, ts, rfl, e, t0, t1, tn, nd, q⟩ := h
    refine ⟨_, (pss_cons (ps_if (PW.pt (pw_or (pt_not (pt_val (pe_call (ok_is_sequence T) (hr.mono (by decide)) (by rfl) T.m_is_sequence T.F_is_sequence.kp (B_is_sequence T) .nil pass0 (pa_cons (pv 0) pa_nil)))) (pw_or1 (pt_cmpR op_eq (pe_callB call_len (by rfl) T.z_len (by decide +kernel) (pa_cons (pv 0) pa_nil)) pe_int (nomark _)))))
      (pss_one (ps_ret pe_bl))
      pss_nil)
    (pss_cons (ps_if (pt_not (pt_val (pe_callB (cr_all rfl) (by rfl) T.z_all (by decide +kernel) (pa_cons (pe_lc (own := [("name", 1)]) rfl sc_are_names.nd (pi_list (pv 0)) (blkOk_by (own := [("name", 1)]) (N := ["value", "name"]) (sc := defScope s_are_names) (by decide +kernel)) (fun _ _ _ _ _ => (pg_name (i := 1) sc_are_names.nd rfl (Or.inl rfl))) (fun _ _ _ _ _ => pts_nil) (fun _ _ _ _ _ => (pe_call (ok_is_name T) (hr.mono (by decide)) (by rfl) T.m_is_name T.F_is_name.kp (B_is_name T) .nil pass0 (pa_cons (pv 1) pa_nil)))) pa_nil))))
      (pss_one (ps_ret pe_bl))
      pss_nil)
    (pss_one (ps_ret (pe_cmpR op_eq (pe_lenSetS rfl (by rfl) T.z_len (by rfl) T.z_set (pv 0)) (pe_callB call_len (by rfl) T.z_len (by decide +kernel) (pa_cons (pv 0) pa_nil)) (nomark _)))))), ?_⟩
    walk_at "wp"
    refine ⟨p, _, rfl, .inl e, fun H1 s1 => ?_⟩
    have e1 := s1 _ _ e
    walk_at "wp"
    refine brF (by rw [List.length_map]; exact decide_eq_false (fun z => by have := V.int.inj z; omega)) ?_
    walk_at "wp"
    refine ⟨⟨_, SqL.of e1⟩, fun D hD => lcF walk_list (fun _ => .bl true) (by rw [List.length_map]; omega) hD (fun _ s => SqL.of (s _ _ e1)) (fun i x H2 H3 R hi sm y k => ?_) fun H2 sm ee => ?_⟩
    · obtain ⟨rfl, hx⟩ := y
      rw [List.getElem?_map] at hx
      obtain ⟨z, hz, rfl⟩ := Option.map_eq_some_iff.mp hx
      refine ⟨rfl, ?_⟩
      walk_at "wp"
      exact ⟨tn z (List.mem_of_getElem? hz), fun H4 s4 => k H4 s4⟩
    · obtain ⟨e4, e5⟩ := all_rep ee
      have e6 := sm _ _ e1
      refine ⟨D, _, rfl, SqL.of e4, ?_⟩
      rw [e5]
      walk_at "wp"
      refine ⟨p, ts, rfl, SqL.of e6, by omega, nd, ?_⟩
      walk_at "wp"
      rw [List.length_map, decide_eq_true rfl]
      exact q _ (s1.trans sm)
/-- a rule: its name, its parts -/
def sp_is_rule_pair (K : PySem.W.Frag) : Sp := fun vs H Q _ => ∃ (x pa : Addr) (g : Str) (ps : List Str), vs = [.ref x] ∧ SqT K H x [.str g, .ref pa] ∧ SqT K H pa (ps.map V.str) ∧ okName g ∧ (∀ t ∈ ps, okName t) ∧ ps.length ≤ 60 ∧ ∀ H', Same H H' → Q (.bl true) H'
theorem ok_is_rule_pair (T : Txt K mg a) : FnOk P w K mg base CX0 2 a.is_rule_pair a.is_rule_pair_d ["value"] (sp_is_rule_pair K) := by
  refine T.F_is_rule_pair.ok sc_is_rule_pair (fun vs H Q E h => ?_) (fun cdv A outer s H vs Q E hr h => ?_)
  · obtain ⟨x, pa, g, ps, rfl, _⟩ := h
    rfl
  · obtain ⟨x, pa, g, ps, rfl, e, e2, og, op, lp, q⟩ := h
    refine ⟨_, (pss_cons (ps_if (PW.pt (pw_or (pt_not (pt_val (pe_callB call_isi (by rfl) T.z_isinstance (by decide +kernel) (pa_cons (pv 0) (pa_cons (pe_bltn (v := .ty "tuple") (by rfl) T.z_tuple (by decide +kernel) rfl) pa_nil))))) (pw_or1 (pt_cmpR op_ne (pe_callB call_len (by rfl) T.z_len (by decide +kernel) (pa_cons (pv 0) pa_nil)) pe_int (nomark _)))))
      (pss_one (ps_ret pe_bl))
      pss_nil)
    (pss_cons (ps_asg (pv 0) (pg_tup rfl (pgs_cons (pg_name (i := 1) sc_is_rule_pair.nd rfl (.inl rfl)) (pgs_cons (pg_name (i := 2) sc_is_rule_pair.nd rfl (.inl rfl)) pgs_nil))))
    (pss_cons (ps_if (PW.pt (pw_or (pt_not (pt_val (pe_call (ok_is_name T) (hr.mono (by decide)) (by rfl) T.m_is_name T.F_is_name.kp (B_is_name T) .nil pass0 (pa_cons (pv 1) pa_nil)))) (pw_or1 (pt_not (pt_val (pe_callB call_isi (by rfl) T.z_isinstance (by decide +kernel) (pa_cons (pv 2) (pa_cons (pe_bltn (v := .ty "tuple") (by rfl) T.z_tuple (by decide +kernel) rfl) pa_nil))))))))
      (pss_one (ps_ret pe_bl))
      pss_nil)
    (pss_one (ps_ret (pe_callB (cr_all rfl) (by rfl) T.z_all (by decide +kernel) (pa_cons (pe_lc (own := [("part", 3)]) rfl sc_is_rule_pair.nd (pi_tup (pv 2)) (blkOk_by (own := [("part", 3)]) (N := ["value", "name", "parts", "part"]) (sc := defScope s_is_rule_pair) (by decide +kernel)) (fun _ _ _ _ _ => (pg_name (i := 3) sc_is_rule_pair.nd rfl (Or.inl rfl))) (fun _ _ _ _ _ => pts_nil) (fun _ _ _ _ _ => (pe_call (ok_is_name T) (hr.mono (by decide)) (by rfl) T.m_is_name T.F_is_name.kp (B_is_name T) .nil pass0 (pa_cons (pv 3) pa_nil)))) pa_nil))))))), ?_⟩
    walk_at "wp"
    refine ⟨og, fun H1 s1 => ?_⟩
    have e1 := s1.seqT e
    have e3 := s1.seqT e2
    walk_at "wp"
    refine ⟨⟨_, e3⟩, fun D hD => lcF walk_tup (fun _ => .bl true) (by rw [List.length_map]; omega) hD (fun _ s => s.seqT e3) (fun i x H2 H3 R hi sm y k => ?_) fun H2 sm e => ?_⟩
    · obtain ⟨rfl, hx⟩ := y
      rw [List.getElem?_map] at hx
      obtain ⟨z, hz, rfl⟩ := Option.map_eq_some_iff.mp hx
      refine ⟨rfl, ?_⟩
      walk_at "wp"
      exact ⟨op z (List.mem_of_getElem? hz), fun H4 s4 => k H4 s4⟩
    · obtain ⟨e4, e5⟩ := all_rep e
      refine ⟨D, _, rfl, SqL.of e4, ?_⟩
      rw [e5]
      exact q _ (s1.trans sm)

/-! ### rules: one, of a group and one token -/
/-- the one rule: at x a pair of its name and its parts; R holds it alone -/
structure One (K : PySem.W.Frag) (H : Hp) (x pa : Addr) (g t : Str) : Prop where
  x : H x = some (.tup [.str g, .ref pa])
  pa : H pa = some (.tup [.str t])
theorem One.same {H H' : Hp} {x pa : Addr} {g t : Str} (o : One K H x pa g t) (s : Same H H') : One K H' x pa g t := ⟨s _ _ o.x, s _ _ o.pa⟩
theorem putK_le {κ : Type} [DecidableEq κ] (c : List (κ × V)) (k : κ) (x : V) : (putK c k x).length ≤ c.length + 1 := by
  unfold putK
  split
  · rw [List.length_map]
    omega
  · rw [List.length_append]
    exact Nat.le_refl _
theorem inV_not {g : Str} {ts : List Str} (h : g ∉ ts) : inV (.str g) (ts.map V.str) = false := by
  unfold inV
  rw [List.any_eq_false]
  intro y hy e
  obtain ⟨z, hz, rfl⟩ := List.mem_map.mp hy
  have : z = g := by simpa [eqV] using e
  exact h (this ▸ hz)
theorem flat_strs {ts : List Str} : (ts.map V.str).all flatV = true := by
  rw [List.all_eq_true]
  intro y hy
  obtain ⟨z, _, rfl⟩ := List.mem_map.mp hy
  rfl
def sp_are_rules (K : PySem.W.Frag) : Sp := fun vs H Q _ => ∃ (p r x pa : Addr) (ts : List Str) (g t : Str), vs = [.ref p, .ref r] ∧ H p = some (.lst (ts.map V.str)) ∧ H r = some (.lst [.ref x]) ∧ One K H x pa g t ∧ okName g ∧ okName t ∧ t ∈ ts ∧ g ∉ ts ∧ ts.length ≤ 60 ∧ ts.Nodup ∧ ∀ H', Same H H' → Q (.bl true) H'
theorem ok_are_rules (T : Txt K mg a) : FnOk P w K mg base CX0 3 a.are_rules a.are_rules_d ["tokens", "value"] (sp_are_rules K) := by
  refine T.F_are_rules.ok sc_are_rules (fun vs H Q E h => ?_) (fun cdv A outer s H vs Q E hr h => ?_)
  · obtain ⟨p, r, x, pa, ts, g, t, rfl, _⟩ := h
    rfl
  · obtain ⟨p, r, x, pa, ts, g, t, rfl, ep, er, o, og, ot, tm, gn, tl, nd, q⟩ := h
    refine ⟨_, (pss_cons (ps_if (PW.pt (pw_or (pt_not (pt_val (pe_call (ok_is_sequence T) (hr.mono (by decide)) (by rfl) T.m_is_sequence T.F_is_sequence.kp (B_is_sequence T) .nil pass0 (pa_cons (pv 1) pa_nil)))) (pw_or1 (pt_cmpR op_eq (pe_callB call_len (by rfl) T.z_len (by decide +kernel) (pa_cons (pv 1) pa_nil)) pe_int (nomark _)))))
      (pss_one (ps_ret pe_bl))
      pss_nil)
    (pss_cons (ps_if (pt_not (pt_val (pe_callB (cr_all rfl) (by rfl) T.z_all (by decide +kernel) (pa_cons (pe_lc (own := [("pair", 5)]) rfl sc_are_rules.nd (pi_list (pv 1)) (blkOk_by (own := [("pair", 5)]) (N := ["tokens", "value", "known", "name", "parts", "pair", "part"]) (sc := defScope s_are_rules) (by decide +kernel)) (fun _ _ _ _ _ => (pg_name (i := 5) sc_are_rules.nd rfl (Or.inl rfl))) (fun _ _ _ _ _ => pts_nil) (fun _ _ _ _ _ => (pe_call (ok_is_rule_pair T) (hr.mono (by decide)) (by rfl) T.m_is_rule_pair T.F_is_rule_pair.kp (B_is_rule_pair T) .nil pass0 (pa_cons (pv 5) pa_nil)))) pa_nil))))
      (pss_one (ps_ret pe_bl))
      pss_nil)
    (pss_cons (ps_set (i := 2) sc_are_rules.nd rfl (.inr rfl) (pe_dc (own := [("name", 3)]) rfl sc_are_rules.nd (pi_list (pv 0)) (blkOk_by (own := [("name", 3)]) (N := ["tokens", "value", "known", "name", "parts", "pair", "part"]) (sc := defScope s_are_rules) (by decide +kernel)) (fun _ _ _ _ _ => (pg_name (i := 3) sc_are_rules.nd rfl (Or.inl rfl))) (fun _ _ _ _ _ => pts_nil) (fun _ _ _ _ _ => (pv 3)) (fun _ _ _ _ _ => pe_bl)))
    (pss_cons (ps_for PassesOwn.never rfl (pi_list (pv 1)) (pg_tup rfl (pgs_cons (pg_name (i := 3) sc_are_rules.nd rfl (.inl rfl)) (pgs_cons (pg_name (i := 4) sc_are_rules.nd rfl (.inl rfl)) pgs_nil)))
      (pss_cons (ps_if (pt_cmpR op_in_seq (pv 3) (pv 0) rfl)
        (pss_one (ps_ret pe_bl))
        pss_nil)
      (pss_one (ps_dput (hu1 hr.units) (pv 2) (pv 3) pe_bl rfl))))
    (pss_cons (ps_if (pt_not (pt_val (pe_callB (cr_all rfl) (by rfl) T.z_all (by decide +kernel) (pa_cons (pe_lc2 (own := [("name", 3), ("parts", 4), ("part", 6)]) (vs1 := [6]) rfl sc_are_rules.nd (pi_list (pv 1)) (blkOk_by (own := [("name", 3), ("parts", 4), ("part", 6)]) (N := ["tokens", "value", "known", "name", "parts", "pair", "part"]) (sc := defScope s_are_rules) (by decide +kernel)) (by decide) (fun _ _ _ _ _ => (show PG _ _ (gTup K 2 (gCons (gName 3) (gCons (gName 4) gNil))) from pg_tup rfl (pgs_cons (pg_name (i := 3) sc_are_rules.nd rfl (Or.inl rfl) (Or.inr rfl)) (pgs_cons (pg_name (i := 4) sc_are_rules.nd rfl (Or.inl rfl) (Or.inr rfl)) pgs_nil)))) (fun _ _ _ _ _ => pts_nil) (fun _ _ _ _ _ => (show PI _ _ _ (iTup K (tVar 4)) from pi_tup (pv 4))) (fun _ _ _ _ _ => (pg_name (i := 6) sc_are_rules.nd rfl (Or.inl rfl))) (fun _ _ _ _ _ => pts_nil) (fun _ _ _ _ _ => (pe_cmp (pc_din (hu1 hr.units) (pv 6) (pv 2)) rfl))) pa_nil))))
      (pss_one (ps_ret pe_bl))
      pss_nil)
    (pss_one (ps_ret (pe_cmpR op_eq (pe_callB call_lenN (by rfl) T.z_len (by decide +kernel) (pa_cons (pe_scA (pairWay _) (pairWay_runs hr.units) (own := [("name", 3), ("parts", 4)]) rfl sc_are_rules.nd (pi_list (pv 1)) (blkOk_by (own := [("name", 3), ("parts", 4)]) (N := ["tokens", "value", "known", "name", "parts", "pair", "part"]) (sc := defScope s_are_rules) (by decide +kernel)) (fun _ _ _ _ _ => (show PG _ _ (gTup K 2 (gCons (gName 3) (gCons (gName 4) gNil))) from pg_tup rfl (pgs_cons (pg_name (i := 3) sc_are_rules.nd rfl (Or.inl rfl) (Or.inr rfl)) (pgs_cons (pg_name (i := 4) sc_are_rules.nd rfl (Or.inl rfl) (Or.inr rfl)) pgs_nil)))) (fun _ _ _ _ _ => pts_nil) (fun _ _ _ _ _ => (pe_tup (pa_cons (pv 3) (pa_cons (pv 4) pa_nil))))) pa_nil)) (pe_callB call_len (by rfl) T.z_len (by decide +kernel) (pa_cons (pv 1) pa_nil)) (nomark _))))))))), ?_⟩
    walk_at "wp"
    refine ⟨r, _, rfl, .inl er, fun H1 s1 => ?_⟩
    have ep1 := s1 _ _ ep
    have er1 := s1 _ _ er
    have o1 := o.same s1
    walk_at "wp"
    refine ⟨⟨_, SqL.of er1⟩, fun D hD => lcF walk_list (fun _ => .bl true) (Nat.le_of_ble_eq_true rfl) hD (fun _ s => SqL.of (s _ _ er1)) (fun i y H2 H3 R hi sm y k => ?_) fun H2 sm ee => ?_⟩
    · obtain ⟨rfl, hx⟩ := y
      obtain rfl : i = 0 := by simpa using hi
      cases hx
      refine ⟨rfl, ?_⟩
      have o3 := o1.same sm
      walk_at "wp"
      exact ⟨x, pa, g, [t], rfl, SqT.of o3.x, SqT.of o3.pa, og, fun z hz => by rw [List.mem_singleton.mp hz]; exact ot, Nat.le_of_ble_eq_true rfl, fun H4 s4 => k H4 s4⟩
    · obtain ⟨e4, e5⟩ := all_rep ee
      refine ⟨D, _, rfl, SqL.of e4, ?_⟩
      rw [e5]
      walk_at "wp"
      have ep2 := sm _ _ ep1
      refine ⟨⟨_, SqL.of ep2⟩, fun Kn hKn => dc_it walk_list (fun i H3 => Same H2 H3 ∧ ∃ kvs, H3 Kn = some (.dK kvs) ∧ kvs.length ≤ i ∧ ∀ z ∈ ts.take i, valV kvs (.inr z) = some (.bl true)) ⟨Same.new hKn, [], upd_same, Nat.le_refl _, fun z hz => by simp at hz⟩ (fun i H3 _ h => SqL.of (h.1 _ _ ep2)) (fun i y H3 H4 hi ⟨s3, kvs, e3, l3, v3⟩ ⟨eH, hy⟩ => ?_) fun H3 ⟨s3, kvs, e3, l3, v3⟩ => ?_⟩
      · subst eH
        rw [List.getElem?_map] at hy
        obtain ⟨z, hz, rfl⟩ := Option.map_eq_some_iff.mp hy
        rw [List.length_map] at hi
        refine ⟨rfl, ?_⟩
        unfold tYes
        refine brT rfl ?_
        walk_at "wp"
        refine ⟨kvs, .inr z, rfl, e3, lt_line (by omega), s3.mut hKn, _, upd_same, Nat.le_trans (putK_le ..) (by omega), fun y hy => ?_⟩
        rw [valV_put]
        by_cases c : (Sum.inr y : Key) = .inr z
        · rw [if_pos c]
        · rw [if_neg c]
          rw [List.take_add_one, hz] at hy
          rcases List.mem_append.mp hy with h | h
          · exact v3 y h
          · exact absurd (congrArg Sum.inr (List.mem_singleton.mp h)) c
      · rw [List.length_map, List.take_length] at v3
        rw [List.length_map] at l3
        have er3 := s3 _ _ (sm _ _ er1)
        have o3 := (o1.same sm).same s3
        walk_at "wp"
        have ep3 := s3 _ _ ep2
        refine ⟨⟨_, SqL.of er3⟩, for_list (xs := [.ref x]) (fun i σ H' => ∃ (o3 o4 : Option V) (kv : List (Key × V)), σ = [some (.ref p), some (.ref r), some (.ref Kn), o3, o4, none, none] ∧ Same H2 H' ∧ H' Kn = some (.dK kv) ∧ kv.length ≤ 61 + i ∧ ∀ z ∈ ts, valV kv (.inr z) = some (.bl true)) ⟨none, none, kvs, rfl, s3, e3, by omega, v3⟩ (fun i σ H' _ ⟨_, _, _, _, h, _⟩ => SqL.of (h _ _ (sm _ _ er1))) ?_ ?_⟩
        · rintro i y σ H4 hy ⟨o3', o4', kv, rfl, s4, e4, l4, v4⟩
          obtain rfl : i = 0 := by have := (List.getElem?_eq_some_iff.mp hy).1; simpa using this
          cases hy
          have ox := ((o1.same sm).same s4).x
          have ep4 := s4 _ _ ep2
          walk_at "wp"
          refine ⟨p, _, rfl, .inl (SqL.of ep4), rfl, flat_strs, _, rfl, ?_⟩
          refine brF (inV_not gn) ?_
          walk_at "wp"
          refine ⟨Kn, _, rfl, DPut.k (k := .inr g) e4 (lt_line (by omega)), ?_⟩
          refine ⟨_, _, _, rfl, s4.mut hKn, upd_same, Nat.le_trans (putK_le ..) (by omega), fun z hz => ?_⟩
          rw [valV_put]
          by_cases c : (Sum.inr z : Key) = .inr g
          · rw [if_pos c]
          · rw [if_neg c]
            exact v4 z hz
        · rintro σ H4 ⟨o3', o4', kv, rfl, s4, e4, l4, v4⟩
          have er4 := s4 _ _ (sm _ _ er1)
          have oo := (o1.same sm).same s4
          have o4x := oo.x
          have o4p := oo.pa
          walk_at "wp"
          refine ⟨⟨_, SqL.of er4⟩, fun D2 hD2 => ?_⟩
          refine ⟨fun i m H5 => i + m = 1 ∧ Same H4 H5 ∧ H5 D2 = some (.lst (List.replicate i (.bl true))), ⟨1, rfl, Same.new hD2, upd_same⟩, ?_⟩
          rintro i m H5 ⟨im, s5, e5⟩
          have er5 := SqL.of (K := K) (s5 _ _ er4)
          rcases (show i = 0 ∧ m = 1 ∨ i = 1 ∧ m = 0 by omega) with ⟨rfl, rfl⟩ | ⟨rfl, rfl⟩
          · refine .inr ⟨walk_list.goes 0 _ (Nat.le_of_ble_eq_true rfl) er5, fun H' => Same H4 H' ∧ H' D2 = some (.lst [.bl true]), fun H' h => ⟨0, by decide, rfl, h.1, h.2⟩, fun y H6 hy => ?_⟩
            obtain ⟨rfl, hy2⟩ := walk_list.yields 0 _ _ _ (Nat.le_of_ble_eq_true rfl) er5 hy
            obtain rfl : y = V.ref x := (Option.some.inj hy2).symm
            have o5x := s5 _ _ o4x
            have o5p := s5 _ _ o4p
            have eK := s5 _ _ e4
            refine ⟨x, _, rfl, SqT.of o5x, rfl, _, _, rfl, _, _, rfl, rfl, rfl, ?_⟩
            unfold tYes
            refine brT rfl ?_
            refine ⟨_, rfl, pa, rfl, ⟨_, SqT.of o5p⟩, ?_⟩
            refine ⟨fun j k H6 => j + k = 1 ∧ Same H4 H6 ∧ H6 D2 = some (.lst (List.replicate j (.bl true))), ⟨1, rfl, s5, e5⟩, ?_⟩
            rintro j k H7 ⟨jk, s7, e7⟩
            have er7 := SqT.of (K := K) (s7 _ _ o4p)
            rcases (show j = 0 ∧ k = 1 ∨ j = 1 ∧ k = 0 by omega) with ⟨rfl, rfl⟩ | ⟨rfl, rfl⟩
            · refine .inr ⟨walk_tup.goes 0 _ (Nat.le_of_ble_eq_true rfl) er7, fun H' => Same H4 H' ∧ H' D2 = some (.lst [.bl true]), fun H' h => ⟨0, by decide, rfl, h.1, h.2⟩, fun z H8 hz => ?_⟩
              obtain ⟨rfl, hz2⟩ := walk_tup.yields 0 _ _ _ (Nat.le_of_ble_eq_true rfl) er7 hz
              obtain rfl : z = V.str t := (Option.some.inj hz2).symm
              have eK7 := s7 _ _ e4
              refine ⟨rfl, ?_⟩
              refine brT rfl ?_
              walk_at "wp"
              refine ⟨Kn, _, rfl, DGet.k (k := .inr t) eK7, ?_⟩
              rw [v4 t tm]
              walk_at "wp"
              exact ⟨[], e7, lt_line (by decide), s7.mut hD2, upd_same⟩
            · exact .inl ⟨walk_tup.stops _ er7, s7, e7⟩
          · refine .inl ⟨walk_list.stops _ er5, ?_⟩
            have o5x := s5 _ _ o4x
            have o5p := s5 _ _ o4p
            walk_at "wp"
            refine ⟨D2, [true], rfl, SqL.of e5, ?_⟩
            walk_at "wp"
            have er6 := s5 _ _ er4
            refine ⟨⟨_, SqL.of er6⟩, fun D3 hD3 => ?_⟩
            refine ⟨fun i m H6 => i + m = 1 ∧ Same H5 H6 ∧ H6 D3 = some (if i = 0 then Z0 w D3 else ZN D3 1), ⟨1, rfl, Same.new hD3, upd_same⟩, ?_⟩
            rintro i m H6 ⟨im, s6, e6⟩
            have er7 := SqL.of (K := K) (s6 _ _ er6)
            rcases (show i = 0 ∧ m = 1 ∨ i = 1 ∧ m = 0 by omega) with ⟨rfl, rfl⟩ | ⟨rfl, rfl⟩
            · refine .inr ⟨walk_list.goes 0 _ (Nat.le_of_ble_eq_true rfl) er7, fun H' => Same H5 H' ∧ H' D3 = some (ZN D3 1), fun H' h => ⟨0, by decide, rfl, h.1, h.2⟩, fun y H8 hy => ?_⟩
              obtain ⟨rfl, hy2⟩ := walk_list.yields 0 _ _ _ (Nat.le_of_ble_eq_true rfl) er7 hy
              obtain rfl : y = V.ref x := (Option.some.inj hy2).symm
              have o6x := s6 _ _ o5x
              have o6p := s6 _ _ o5p
              refine ⟨x, _, rfl, SqT.of o6x, rfl, _, _, rfl, _, _, rfl, rfl, rfl, ?_⟩
              unfold tYes
              refine brT rfl ?_
              rw [if_pos rfl] at e6
              walk_at "wp"
              refine ⟨disp rfl, fun tq htq => ?_⟩
              exact ⟨tq, rfl, upd_get htq e6, ⟨g, pa, [t], SqT.of upd_same, SqT.of (upd_get htq o6p)⟩, (s6.trans (Same.new htq)).mut hD3, upd_same⟩
            · refine .inl ⟨walk_list.stops _ er7, ?_⟩
              have er8 := s6 _ _ er6
              rw [if_neg (by decide)] at e6
              refine ⟨D3, 1, rfl, e6, ?_⟩
              walk_at "wp"
              have e9 : decide (V.int ((1 : Nat) : Int) = V.int ([V.ref x].length : Int)) = true := decide_eq_true rfl
              rw [e9]
              exact q _ (s1.trans (sm.trans (s4.trans (s5.trans s6))))
def sp_groups_in (K : PySem.W.Frag) : Sp := fun vs H Q _ => ∃ (r x pa : Addr) (g t : Str), vs = [.ref r] ∧ H r = some (.tup [.ref x]) ∧ One K H x pa g t ∧ ∀ p H', Same H H' → H' p = some (.tup [.str g]) → Q (.ref p) H'
theorem ok_groups_in (T : Txt K mg a) : FnOk P w K mg base CX0 1 a.groups_in a.groups_in_d ["rules"] (sp_groups_in K) := by
  refine T.F_groups_in.ok sc_groups_in (fun vs H Q E h => ?_) (fun cdv A outer s H vs Q E hr h => ?_)
  · obtain ⟨r, x, pa, g, t, rfl, _⟩ := h
    rfl
  · obtain ⟨r, x, pa, g, t, rfl, er, o, q⟩ := h
    refine ⟨_, (pss_cons (ps_set (i := 1) sc_groups_in.nd rfl (.inl rfl) (pe_lst pa_nil))
    (pss_cons (ps_for PassesOwn.never rfl (pi_tup (pv 0)) (pg_tup rfl (pgs_cons (pg_name (i := 2) sc_groups_in.nd rfl (.inl rfl)) (pgs_cons (pg_name (i := 3) sc_groups_in.nd rfl (.inl rfl)) pgs_nil)))
      (pss_one (ps_if (pt_cmpR op_notIn_seq (pv 2) (pv 1) rfl)
        (pss_one (ps_expr (pe_bm PySem.F.plainAttrs_list PySem.F.slot_list_append PySem.F.type_list_append mt_append (pv 1) (pa_cons (pv 2) pa_nil))))
        pss_nil)))
    (pss_one (ps_ret (pe_callTy call_tuple_of (by rfl) T.z_tuple (by decide +kernel) (pa_cons (pv 1) pa_nil)))))), ?_⟩
    walk_at "wp"
    refine ⟨disp rfl, fun D hD => ?_⟩
    have sm := Same.new (o := .lst []) hD
    walk_at "wp"
    have er1 := sm _ _ er
    have o1 := o.same sm
    refine ⟨⟨_, SqT.of er1⟩, for_tup (xs := [.ref x]) (fun i σ H' => ∃ (o2 o3 : Option V), σ = [some (.ref r), some (.ref D), o2, o3] ∧ Same H H' ∧ H' r = some (.tup [.ref x]) ∧ One K H' x pa g t ∧ H' D = some (.lst (if i = 0 then [] else [.str g]))) ⟨none, none, rfl, sm, er1, o1, upd_same⟩ (fun i σ H' _ ⟨_, _, _, _, h, _⟩ => SqT.of h) ?_ ?_⟩
    · rintro i y σ H2 hy ⟨o2, o3, rfl, s2, e2, oo, eD⟩
      obtain rfl : i = 0 := by have := (List.getElem?_eq_some_iff.mp hy).1; simpa using this
      cases hy
      rw [if_pos rfl] at eD
      have ox := oo.x
      walk_at "wp"
      refine ⟨D, [], rfl, .inl (SqL.of eD), rfl, rfl, _, rfl, ?_⟩
      refine brT rfl ?_
      walk_at "wp"
      exact ⟨s2.mut hD, by rw [upd_ne (ne_of_none er hD)]; exact e2, ⟨by rw [upd_ne (ne_of_none o.x hD)]; exact oo.x, by rw [upd_ne (ne_of_none o.pa hD)]; exact oo.pa⟩, upd_same⟩
    · rintro σ H2 ⟨o2, o3, rfl, s2, e2, oo, eD⟩
      rw [if_neg (by show ¬ (1 = 0); decide)] at eD
      walk_at "wp"
      refine ⟨D, _, rfl, .inl ⟨SqL.of eD, fun l hl => ?_⟩⟩
      exact q l _ (s2.trans (Same.new hl)) upd_same
/-- the places of a number in a tuple: here of nought in (0,) -/
def sp_rules_with (K : PySem.W.Frag) : Sp := fun vs H Q _ => ∃ (hp : Addr), vs = [.ref hp, .int 0] ∧ SqT K H hp [.int 0] ∧ ∀ p H', Same H H' → Q (.ref p) H'
theorem ok_rules_with (T : Txt K mg a) : FnOk P w K mg base CX0 1 a.rules_with a.rules_with_d ["heads", "group"] (sp_rules_with K) := by
  refine T.F_rules_with.ok sc_rules_with (fun vs H Q E h => ?_) (fun cdv A outer s H vs Q E hr h => ?_)
  · obtain ⟨hp, rfl, _⟩ := h
    rfl
  · obtain ⟨hp, rfl, eh, q⟩ := h
    refine ⟨_, (pss_one (ps_ret (pe_callTy call_tuple_of (by rfl) T.z_tuple (by decide +kernel) (pa_cons (pe_lc (own := [("rule", 2), ("head", 3)]) rfl sc_rules_with.nd (pi_enumT (by rfl) T.z_enumerate (pa_cons (pv 0) pa_nil)) (blkOk_by (own := [("rule", 2), ("head", 3)]) (N := ["heads", "group", "rule", "head"]) (sc := defScope s_rules_with) (by decide +kernel)) (fun _ _ _ _ _ => (show PG _ _ (gTup K 2 (gCons (gName 2) (gCons (gName 3) gNil))) from pg_tup rfl (pgs_cons (pg_name (i := 2) sc_rules_with.nd rfl (Or.inl rfl) (Or.inr rfl)) (pgs_cons (pg_name (i := 3) sc_rules_with.nd rfl (Or.inl rfl) (Or.inr rfl)) pgs_nil)))) (fun _ _ _ _ _ => (pts_one (pt_cmpR op_eq (pv 3) (pv 1) (nomark _)))) (fun _ _ _ _ _ => (pv 2))) pa_nil)))), ?_⟩
    walk_at "wp"
    refine ⟨hp, _, rfl, eh, fun D hD => lc_it walk_enumT (fun i H3 => Same H H3 ∧ ∃ xs, H3 D = some (.lst xs) ∧ xs.length ≤ i) ⟨Same.new hD, [], upd_same, Nat.le_refl _⟩ (fun i H3 _ h => h.1.seqT eh) (fun i y H3 H4 hi ⟨s3, xs, e3, l3⟩ ⟨b, u, v, e1, fr, eH, hu, hv⟩ => ?_) fun H3 ⟨s3, xs, e3, l3⟩ => ?_⟩
    · subst e1 eH
      obtain rfl : i = 0 := by simpa using hi
      cases hu
      cases hv
      walk_at "wp"
      have nb := ne_of_none e3 fr
      refine ⟨xs, by rw [upd_ne nb]; exact e3, lt_line (by omega), (s3.trans (Same.new fr)).mut hD, _, upd_same, by rw [List.length_append]; show _ + 1 ≤ _; omega⟩
    · refine ⟨D, _, rfl, .inl ⟨SqL.of e3, fun l hl => ?_⟩⟩
      exact q l _ (s3.trans (Same.new hl))
/-- codes that are tokens alone can stand -/
def sp_can_stand (K : PySem.W.Frag) : Sp := fun vs H Q _ => ∃ (n c : Int) (f p : Addr), vs = [.int n, .ref f, .ref p] ∧ SqT K H p [.int c] ∧ c < n ∧ ∀ H', Same H H' → Q (.bl true) H'
theorem ok_can_stand (T : Txt K mg a) : FnOk P w K mg base CX0 1 a.can_stand a.can_stand_d ["count", "found", "codes"] (sp_can_stand K) := by
  refine T.F_can_stand.ok sc_can_stand (fun vs H Q E h => ?_) (fun cdv A outer s H vs Q E hr h => ?_)
  · obtain ⟨n, c, f, p, rfl, _⟩ := h
    rfl
  · obtain ⟨n, c, f, p, rfl, ep, hc, q⟩ := h
    refine ⟨_, (pss_one (ps_ret (pe_callB (cr_all rfl) (by rfl) T.z_all (by decide +kernel) (pa_cons (pe_lc (own := [("code", 3)]) rfl sc_can_stand.nd (pi_tup (pv 2)) (blkOk_by (own := [("code", 3)]) (N := ["count", "found", "codes", "code"]) (sc := defScope s_can_stand) (by decide +kernel)) (fun _ _ _ _ _ => (pg_name (i := 3) sc_can_stand.nd rfl (Or.inl rfl))) (fun _ _ _ _ _ => pts_nil) (fun _ _ _ _ _ => (pe_or (pe_cmpR op_lt (pv 3) (pv 0) (nomark _)) (pe_one (pe_ix (show IxR _ (rIxL K) by exact ix_list) (pv 1) (pe_op op_sub (pv 3) (pv 0)) (fun _ _ => rfl)))))) pa_nil)))), ?_⟩
    walk_at "wp"
    refine ⟨⟨_, ep⟩, fun D hD => lcF walk_tup (fun _ => .bl true) (Nat.le_of_ble_eq_true rfl) hD (fun _ s => s.seqT ep) (fun i y H2 H3 R hi sm y k => ?_) fun H2 sm ee => ?_⟩
    · obtain ⟨rfl, hx⟩ := y
      obtain rfl : i = 0 := by simpa using hi
      cases hx
      refine ⟨rfl, ?_⟩
      walk_at "wp"
      exact brT (decide_eq_true hc) (k _ (.refl _))
    · obtain ⟨e4, e5⟩ := all_rep ee
      refine ⟨D, _, rfl, SqL.of e4, ?_⟩
      rw [e5]
      exact q _ sm
/-- heads (0,), parts [(c,)] -/
structure Hd (K : PySem.W.Frag) (H : Hp) (hd pt p0 : Addr) (n c : Int) : Prop where
  hd : SqT K H hd [.int 0]
  pt : H pt = some (.lst [.ref p0])
  p0 : H p0 = some (.tup [.int c])
  lt : c < n
  nn : 0 ≤ c
theorem Hd.same {H H' : Hp} {hd pt p0 : Addr} {n c : Int} (o : Hd K H hd pt p0 n c) (s : Same H H') : Hd K H' hd pt p0 n c := ⟨s.seqT o.hd, s _ _ o.pt, s _ _ o.p0, o.lt, o.nn⟩
def sp_with_trees (K : PySem.W.Frag) : Sp := fun vs H Q _ => ∃ (n c : Int) (hd pt p0 : Addr), vs = [.int n, .int 1, .ref hd, .ref pt] ∧ Hd K H hd pt p0 n c ∧ ∀ p H', Same H H' → H' p = some (.lst [.bl true]) → Q (.ref p) H'
theorem ok_with_trees (T : Txt K mg a) : FnOk P w K mg base CX0 2 a.with_trees a.with_trees_d ["count", "groups", "heads", "parts"] (sp_with_trees K) := by
  refine T.F_with_trees.ok sc_with_trees (fun vs H Q E h => ?_) (fun cdv A outer s H vs Q E hr h => ?_)
  · obtain ⟨n, c, hd, pt, p0, rfl, _⟩ := h
    rfl
  · obtain ⟨n, c, hd, pt, p0, rfl, h, q⟩ := h
    refine ⟨_, (pss_cons (ps_set (i := 4) sc_with_trees.nd rfl (.inl rfl) (pe_op op_rep (pe_lst (pa_cons pe_bl pa_nil)) (pv 1)))
    (pss_cons (ps_set (i := 5) sc_with_trees.nd rfl (.inl rfl) pe_bl)
    (pss_cons (ps_while PassesOwn.never (pt_val (pv 5))
      (pss_cons (ps_set (i := 5) sc_with_trees.nd rfl (.inl rfl) pe_bl)
      (pss_one (ps_for PassesOwn.never rfl (pi_enumT (by rfl) T.z_enumerate (pa_cons (pv 2) pa_nil)) (pg_tup rfl (pgs_cons (pg_name (i := 6) sc_with_trees.nd rfl (.inl rfl)) (pgs_cons (pg_name (i := 7) sc_with_trees.nd rfl (.inl rfl)) pgs_nil)))
        (pss_one (ps_if (PW.pt (pw_and (pt_not (pt_val (pe_ix ix_list (pv 4) (pv 7) (fun _ _ => rfl)))) (pw_and1 (pt_val (pe_call (ok_can_stand T) (hr.mono (by decide)) (by rfl) T.m_can_stand T.F_can_stand.kp (B_can_stand T) .nil pass0 (pa_cons (pv 0) (pa_cons (pv 4) (pa_cons (pe_ix ix_list (pv 3) (pv 6) (fun _ _ => rfl)) pa_nil))))))))
          (pss_cons (ps_asg pe_bl (pg_sub (pv 4) (pv 7) set_list))
          (pss_one (ps_set (i := 5) sc_with_trees.nd rfl (.inl rfl) pe_bl)))
          pss_nil))))))
    (pss_one (ps_ret (pv 4)))))), ?_⟩
    walk_at "wp"
    refine ⟨disp rfl, fun f0 hf0 => ?_⟩
    walk_at "wp"
    refine ⟨f0, 1, _, rfl, rfl, upd_same, by decide, by decide, Nat.le_of_ble_eq_true rfl, fun f hf => ?_⟩
    have sm := (Same.new (o := .lst [.bl false]) hf0).trans (Same.new (o := .lst [.bl false]) hf)
    have fH : H f = none := (upd_free2 hf).1
    walk_at "wp"
    refine ⟨fun m σ H' => ∃ (fb ag : Bool) (o6 o7 : Option V), σ = [some (.int n), some (.int 1), some (.ref hd), some (.ref pt), some (.ref f), some (.bl ag), o6, o7] ∧ Same H H' ∧ H' f = some (.lst [.bl fb]) ∧ (ag = true → 1 ≤ m ∧ (fb = false → 2 ≤ m)) ∧ (ag = false → fb = true), ⟨2, false, true, none, none, rfl, sm, upd_same, fun _ => ⟨by decide, fun _ => by decide⟩, fun e => by cases e⟩, ?_⟩
    rintro m σ H1 ⟨fb, ag, o6, o7, rfl, s1, ef, hm, hz⟩
    walk_at "wp"
    cases ag
    · refine brF rfl ?_
      obtain rfl := hz rfl
      walk_at "wp"
      exact q f H1 s1 ef
    · refine brT rfl ?_
      obtain ⟨m1, m2⟩ := hm rfl
      refine ⟨fun σ' H' => ∃ m', m' < m ∧ ∃ (fb ag : Bool) (o6 o7 : Option V), σ' = [some (.int n), some (.int 1), some (.ref hd), some (.ref pt), some (.ref f), some (.bl ag), o6, o7] ∧ Same H H' ∧ H' f = some (.lst [.bl fb]) ∧ (ag = true → 1 ≤ m' ∧ (fb = false → 2 ≤ m')) ∧ (ag = false → fb = true), fun _ _ h => h, ?_⟩
      walk_at "wp"
      have hh := h.hd
      refine ⟨hd, _, rfl, s1.seqT hh, for_it walk_enumT (fun i σ H' => ∃ (ag : Bool) (fb2 : Bool) (o6 o7 : Option V), σ = [some (.int n), some (.int 1), some (.ref hd), some (.ref pt), some (.ref f), some (.bl ag), o6, o7] ∧ Same H H' ∧ H' f = some (.lst [.bl fb2]) ∧ (i = 0 → fb2 = fb ∧ ag = false) ∧ (i = 1 → fb2 = true ∧ (ag = true → fb = false))) ⟨false, fb, o6, o7, rfl, s1, ef, fun _ => ⟨rfl, rfl⟩, fun e => by cases e⟩ (fun i σ H' _ ⟨_, _, _, _, _, s, _⟩ => s.seqT hh) ?_ ?_⟩
      · rintro i y σ H2 H3 hi ⟨ag, fb2, o6, o7, rfl, s2, e2, z0, z1⟩ ⟨b, u, v, e1, fr, eH, hu, hv⟩
        subst e1 eH
        obtain rfl : i = 0 := by simpa using hi
        obtain ⟨rfl, rfl⟩ := z0 rfl
        cases hu
        cases hv
        have e3 := upd_get (o := .tup [V.int ((0 : Nat) : Int), .int 0]) fr e2
        have s3 := s2.trans (Same.new (o := .tup [V.int ((0 : Nat) : Int), .int 0]) fr)
        have ept := s3 _ _ h.pt
        have ep0 := s3 _ _ h.p0
        walk_at "wp"
        cases fb2
        · refine brT rfl ?_
          walk_at "wp"
          refine ⟨n, c, f, p0, rfl, SqT.of ep0, h.lt, fun H4 s4 => ?_⟩
          have e4 := s4 _ _ e3
          walk_at "wp"
          exact ⟨true, true, _, _, rfl, (s3.trans s4).mut fH, upd_same, fun e => absurd e (by decide), fun _ => ⟨rfl, fun _ => rfl⟩⟩
        · refine brF rfl ?_
          walk_at "wp"
          exact ⟨false, true, _, _, rfl, s3, e3, fun e => absurd e (by decide), fun _ => ⟨rfl, fun e => by cases e⟩⟩
      · rintro σ H2 ⟨ag, fb2, o6, o7, rfl, s2, e2, z0, z1⟩
        obtain ⟨rfl, z2⟩ := z1 rfl
        cases ag
        · exact ⟨0, by omega, true, false, _, _, rfl, s2, e2, fun e => (by cases e), fun _ => rfl⟩
        · exact ⟨1, by have := m2 (z2 rfl); omega, true, true, _, _, rfl, s2, e2, fun _ => ⟨Nat.le_refl _, fun e => by cases e⟩, fun e => by cases e⟩

/-! ### useless rules: none here -/
def sp_reached (K : PySem.W.Frag) : Sp := fun vs H Q _ => ∃ (n c : Int) (hd pt p0 wh : Addr), vs = [.int n, .int 1, .ref hd, .ref pt, .ref wh] ∧ Hd K H hd pt p0 n c ∧ H wh = some (.lst [.bl true]) ∧ ∀ p H', Same H H' → H' p = some (.lst [.bl true]) → Q (.ref p) H'
theorem ok_reached (T : Txt K mg a) : FnOk P w K mg base CX0 1 a.reached a.reached_d ["count", "groups", "heads", "parts", "whole"] (sp_reached K) := by
  refine T.F_reached.ok sc_reached (fun vs H Q E h => ?_) (fun cdv A outer s H vs Q E hr h => ?_)
  · obtain ⟨n, c, hd, pt, p0, wh, rfl, _⟩ := h
    rfl
  · obtain ⟨n, c, hd, pt, p0, wh, rfl, h, ew, q⟩ := h
    refine ⟨_, (pss_cons (ps_set (i := 5) sc_reached.nd rfl (.inl rfl) (pe_op op_rep (pe_lst (pa_cons pe_bl pa_nil)) (pv 1)))
    (pss_cons (ps_asg pe_bl (pg_sub (pv 5) pe_int set_list))
    (pss_cons (ps_set (i := 6) sc_reached.nd rfl (.inl rfl) (pe_lst (pa_cons pe_int pa_nil)))
    (pss_cons (ps_while PassesOwn.never (pt_truth (pv 6) (by intro _; rfl))
      (pss_cons (ps_set (i := 7) sc_reached.nd rfl (.inl rfl) (pe_bm0 PySem.F.plainAttrs_list PySem.F.slot_list_pop PySem.F.type_list_pop mt_pop (pv 6)))
      (pss_one (ps_for PassesOwn.never rfl (pi_enumT (by rfl) T.z_enumerate (pa_cons (pv 2) pa_nil)) (pg_tup rfl (pgs_cons (pg_name (i := 8) sc_reached.nd rfl (.inl rfl)) (pgs_cons (pg_name (i := 9) sc_reached.nd rfl (.inl rfl)) pgs_nil)))
        (pss_cons (ps_if (PW.pt (pw_or (pt_cmpR op_ne (pv 9) (pv 7) (nomark _)) (pw_or1 (pt_not (pt_val (pe_ix ix_list (pv 4) (pv 8) (fun _ _ => rfl)))))))
          (pss_one ps_continue)
          pss_nil)
        (pss_one (ps_for PassesOwn.never rfl (pi_tup (pe_ix ix_list (pv 3) (pv 8) (fun _ _ => rfl))) (pg_name (i := 10) sc_reached.nd rfl (.inl rfl))
          (pss_one (ps_if (PW.pt (pw_and (pt_cmpR op_ge (pv 10) (pv 0) (nomark _)) (pw_and1 (pt_not (pt_val (pe_ix ix_list (pv 5) (pe_op op_sub (pv 10) (pv 0)) (fun _ _ => rfl)))))))
            (pss_cons (ps_asg pe_bl (pg_sub (pv 5) (pe_op op_sub (pv 10) (pv 0)) set_list))
            (pss_one (ps_expr (pe_bm PySem.F.plainAttrs_list PySem.F.slot_list_append PySem.F.type_list_append mt_append (pv 6) (pa_cons (pe_op op_sub (pv 10) (pv 0)) pa_nil)))))
            pss_nil)))))))))
    (pss_one (ps_ret (pv 5))))))), ?_⟩
    walk_at "wp"
    refine ⟨disp rfl, fun f0 hf0 => ?_⟩
    walk_at "wp"
    refine ⟨f0, 1, _, rfl, rfl, upd_same, by decide, by decide, Nat.le_of_ble_eq_true rfl, fun f hf => ?_⟩
    have sm := (Same.new (o := .lst [.bl false]) hf0).trans (Same.new (o := .lst [.bl false]) hf)
    have fH : H f = none := (upd_free2 hf).1
    walk_at "wp"
    refine ⟨disp rfl, fun wt hwt => ?_⟩
    have nfw : f ≠ wt := fun z => by rw [z, upd_same] at hwt; cases hwt
    have wH : H wt = none := (upd_free2 (upd_free2 (upd_free2 hwt).1).1).1
    have s2 := (sm.mut (o := .lst [.bl true]) fH).trans (Same.new (o := .lst [.int 0]) hwt)
    walk_at "wp"
    refine ⟨fun m σ H' => m ≤ 1 ∧ ∃ (o7 o8 o9 o10 : Option V), σ = [some (.int n), some (.int 1), some (.ref hd), some (.ref pt), some (.ref wh), some (.ref f), some (.ref wt), o7, o8, o9, o10] ∧ Same H H' ∧ H' f = some (.lst [.bl true]) ∧ H' wt = some (.lst (List.replicate m (.int 0))), ⟨1, Nat.le_refl _, none, none, none, none, rfl, s2, by rw [upd_ne nfw]; exact upd_same, upd_same⟩, ?_⟩
    rintro m σ H1 ⟨hm, o7, o8, o9, o10, rfl, s1, ef, et⟩
    walk_at "wp"
    rcases (show m = 0 ∨ m = 1 by omega) with rfl | rfl
    · refine ⟨false, .inl ⟨_, SqL.of et, rfl⟩, ?_⟩
      refine brF rfl ?_
      walk_at "wp"
      exact q f H1 s1 ef
    · refine ⟨true, .inl ⟨_, SqL.of et, rfl⟩, ?_⟩
      refine brT rfl ?_
      refine ⟨fun σ' H' => 0 ≤ 1 ∧ ∃ (o7 o8 o9 o10 : Option V), σ' = [some (.int n), some (.int 1), some (.ref hd), some (.ref pt), some (.ref wh), some (.ref f), some (.ref wt), o7, o8, o9, o10] ∧ Same H H' ∧ H' f = some (.lst [.bl true]) ∧ H' wt = some (.lst []), fun σ' H' h => ⟨0, by decide, h⟩, ?_⟩
      walk_at "wp"
      refine ⟨wt, [.int 0], .int 0, rfl, rfl, et, rfl, ?_⟩
      have s2' := s1.mut (o := .lst []) wH
      walk_at "wp"
      have hh := h.hd
      refine ⟨hd, _, rfl, s2'.seqT hh, for_it walk_enumT (fun i σ H' => ∃ (o8 o9 o10 : Option V), σ = [some (.int n), some (.int 1), some (.ref hd), some (.ref pt), some (.ref wh), some (.ref f), some (.ref wt), some (.int 0), o8, o9, o10] ∧ Same H H' ∧ H' f = some (.lst [.bl true]) ∧ H' wt = some (.lst [])) ⟨o8, o9, o10, rfl, s2', by rw [upd_ne nfw]; exact ef, upd_same⟩ (fun i σ H' _ ⟨_, _, _, _, s, _⟩ => s.seqT hh) ?_ ?_⟩
      · rintro i y σ H2 H3 hi ⟨o8, o9, o10, rfl, s2, e2, e2w⟩ ⟨b, u, v, e1, fr, eH, hu, hv⟩
        subst e1 eH
        obtain rfl : i = 0 := by simpa using hi
        cases hu
        cases hv
        have e3 := upd_get (o := .tup [V.int ((0 : Nat) : Int), .int 0]) fr e2
        have e3w := upd_get (o := .tup [V.int ((0 : Nat) : Int), .int 0]) fr e2w
        have s3 := s2.trans (Same.new (o := .tup [V.int ((0 : Nat) : Int), .int 0]) fr)
        have ept := s3 _ _ h.pt
        have ep0 := s3 _ _ h.p0
        have eww := s3 _ _ ew
        walk_at "wp"
        refine ⟨⟨_, SqT.of ep0⟩, for_it walk_tup (fun i σ H' => ∃ (o10 : Option V), σ = [some (.int n), some (.int 1), some (.ref hd), some (.ref pt), some (.ref wh), some (.ref f), some (.ref wt), some (.int 0), some (.int ((0 : Nat) : Int)), some (.int 0), o10] ∧ Same H H' ∧ H' f = some (.lst [.bl true]) ∧ H' wt = some (.lst [])) ⟨o10, rfl, s3, e3, e3w⟩ (fun i σ H' _ ⟨_, _, s, _⟩ => SqT.of (s _ _ h.p0)) ?_ ?_⟩
        · rintro i y σ H4 H5 hi ⟨o, rfl, s4, e4, e4w⟩ ⟨eH, hy⟩
          subst eH
          obtain rfl : i = 0 := by simpa using hi
          cases hy
          have lt := h.lt
          walk_at "wp"
          refine brF (decide_eq_false (by omega)) ?_
          walk_at "wp"
          exact ⟨s4, e4, e4w⟩
        · rintro σ H4 ⟨o, rfl, s4, e4, e4w⟩
          exact ⟨_, _, _, rfl, s4, e4, e4w⟩
      · rintro σ H2 ⟨o8, o9, o10, rfl, s2, e2, e2w⟩
        exact ⟨by decide, _, _, _, _, rfl, s2, e2, e2w⟩
def sp_useless_rules (K : PySem.W.Frag) : Sp := fun vs H Q _ => ∃ (n c : Int) (hd pt p0 : Addr), vs = [.int n, .int 1, .ref hd, .ref pt] ∧ Hd K H hd pt p0 n c ∧ ∀ p H', Same H H' → H' p = some (.lst []) → Q (.ref p) H'
theorem ok_useless_rules (T : Txt K mg a) : FnOk P w K mg base CX0 3 a.useless_rules a.useless_rules_d ["count", "groups", "heads", "parts"] (sp_useless_rules K) := by
  refine T.F_useless_rules.ok sc_useless_rules (fun vs H Q E h => ?_) (fun cdv A outer s H vs Q E hr h => ?_)
  · obtain ⟨n, c, hd, pt, p0, rfl, _⟩ := h
    rfl
  · obtain ⟨n, c, hd, pt, p0, rfl, h, q⟩ := h
    refine ⟨_, (pss_cons (ps_set (i := 4) sc_useless_rules.nd rfl (.inr rfl) (pe_call (ok_with_trees T) (hr.mono (by decide)) (by rfl) T.m_with_trees T.F_with_trees.kp (B_with_trees T) .nil pass0 (pa_cons (pv 0) (pa_cons (pv 1) (pa_cons (pv 2) (pa_cons (pv 3) pa_nil))))))
    (pss_cons (ps_asg (pe_lc (own := [("codes", 7)]) rfl sc_useless_rules.nd (pi_list (pv 3)) (blkOk_by (own := [("codes", 7)]) (N := ["count", "groups", "heads", "parts", "trees", "whole", "seen", "codes", "rule", "head"]) (sc := defScope s_useless_rules) (by decide +kernel)) (fun _ _ _ _ _ => (pg_name (i := 7) sc_useless_rules.nd rfl (Or.inl rfl))) (fun _ _ _ _ _ => pts_nil) (fun _ _ _ _ _ => (pe_call (ok_can_stand T) (hr.mono (by decide)) (by rfl) T.m_can_stand T.F_can_stand.kp (B_can_stand T) .nil pass0 (pa_cons (pv 0) (pa_cons (pv 4) (pa_cons (pv 7) pa_nil)))))) (pg_name (i := 5) sc_useless_rules.nd rfl (.inr rfl)))
    (pss_cons (ps_set (i := 6) sc_useless_rules.nd rfl (.inr rfl) (pe_call (ok_reached T) (hr.mono (by decide)) (by rfl) T.m_reached T.F_reached.kp (B_reached T) .nil pass0 (pa_cons (pv 0) (pa_cons (pv 1) (pa_cons (pv 2) (pa_cons (pv 3) (pa_cons (pv 5) pa_nil)))))))
    (pss_one (ps_ret (pe_lc (own := [("rule", 8), ("head", 9)]) rfl sc_useless_rules.nd (pi_enumT (by rfl) T.z_enumerate (pa_cons (pv 2) pa_nil)) (blkOk_by (own := [("rule", 8), ("head", 9)]) (N := ["count", "groups", "heads", "parts", "trees", "whole", "seen", "codes", "rule", "head"]) (sc := defScope s_useless_rules) (by decide +kernel)) (fun _ _ _ _ _ => (show PG _ _ (gTup K 2 (gCons (gName 8) (gCons (gName 9) gNil))) from pg_tup rfl (pgs_cons (pg_name (i := 8) sc_useless_rules.nd rfl (Or.inl rfl) (Or.inr rfl)) (pgs_cons (pg_name (i := 9) sc_useless_rules.nd rfl (Or.inl rfl) (Or.inr rfl)) pgs_nil)))) (fun _ _ _ _ _ => (pts_one (PW.pt (pw_or (pt_not (pt_val (pe_ix (show IxR _ (rIxL K) by exact ix_list) (pv 5) (pv 8) (fun _ _ => rfl)))) (pw_or1 (pt_not (pt_val (pe_ix (show IxR _ (rIxL K) by exact ix_list) (pv 6) (pv 9) (fun _ _ => rfl))))))))) (fun _ _ _ _ _ => (pv 8)))))))), ?_⟩
    walk_at "wp"
    refine ⟨n, c, hd, pt, p0, rfl, h, fun tr H1 s1 e1 => ?_⟩
    have h1 := h.same s1
    have ept := h1.pt
    walk_at "wp"
    refine ⟨⟨_, SqL.of ept⟩, fun D hD => lcF walk_list (fun _ => .bl true) (Nat.le_of_ble_eq_true rfl) hD (fun _ s => SqL.of (s _ _ ept)) (fun i y H2 H3 R hi sm y2 k => ?_) fun H2 sm e => ?_⟩
    · obtain ⟨rfl, hx⟩ := y2
      obtain rfl : i = 0 := by simpa using hi
      cases hx
      have h3 := h1.same sm
      refine ⟨rfl, ?_⟩
      walk_at "wp"
      exact ⟨n, c, _, p0, rfl, SqT.of h3.p0, h.lt, fun H4 s4 => k H4 s4⟩
    · have h2 := h1.same sm
      walk_at "wp"
      refine ⟨n, c, hd, pt, p0, D, rfl, h2, e, fun sn H3 s3 e3 => ?_⟩
      have h3 := h2.same s3
      have eD := s3 _ _ e
      walk_at "wp"
      refine ⟨hd, _, rfl, h3.hd, fun D2 hD2 => lc_it walk_enumT (fun i H4 => Same H3 H4 ∧ H4 D2 = some (.lst [])) ⟨Same.new hD2, upd_same⟩ (fun i H4 _ g => g.1.seqT h3.hd) (fun i y H4 H5 hi ⟨s4, e4⟩ ⟨b, u, v, e6, fr, eH, hu, hv⟩ => ?_) fun H4 ⟨s4, e4⟩ => ?_⟩
      · subst e6 eH
        obtain rfl : i = 0 := by simpa using hi
        cases hu
        cases hv
        have s5 := s4.trans (Same.new (o := .tup [.int ((0 : Nat) : Int), .int 0]) fr)
        have e7 := s5 _ _ eD
        have e8 := s5 _ _ e3
        have nb := ne_of_none e4 fr
        walk_at "wp"
        exact ⟨s5, by rw [upd_ne nb]; exact e4⟩
      · exact q D2 _ (s1.trans (sm.trans (s3.trans s4))) e4

/-! ### beginnings -/
def sp_marked_ones : Sp := fun vs H Q _ => ∃ (l : Addr) (bs : List Bool), vs = [.ref l] ∧ H l = some (.lst (bs.map V.bl)) ∧ bs.length ≤ 1000 ∧ ∀ p xs H', Same H H' → H' p = some (.tup xs) → Q (.ref p) H'
theorem ok_marked_ones (T : Txt K mg a) : FnOk P w K mg base CX0 1 a.marked_ones a.marked_ones_d ["line"] sp_marked_ones := by
  refine T.F_marked_ones.ok sc_marked_ones (fun vs H Q E h => ?_) (fun cdv A outer s H vs Q E hr h => ?_)
  · obtain ⟨l, bs, rfl, _⟩ := h
    rfl
  · obtain ⟨l, bs, rfl, el, hb, q⟩ := h
    refine ⟨_, (pss_one (ps_ret (pe_callTy call_tuple_of (by rfl) T.z_tuple (by decide +kernel) (pa_cons (pe_lc (own := [("place", 1), ("mark", 2)]) rfl sc_marked_ones.nd (pi_enum (by rfl) T.z_enumerate (pa_cons (pv 0) pa_nil)) (blkOk_by (own := [("place", 1), ("mark", 2)]) (N := ["line", "place", "mark"]) (sc := defScope s_marked_ones) (by decide +kernel)) (fun _ _ _ _ _ => (show PG _ _ (gTup K 2 (gCons (gName 1) (gCons (gName 2) gNil))) from pg_tup rfl (pgs_cons (pg_name (i := 1) sc_marked_ones.nd rfl (Or.inl rfl) (Or.inr rfl)) (pgs_cons (pg_name (i := 2) sc_marked_ones.nd rfl (Or.inl rfl) (Or.inr rfl)) pgs_nil)))) (fun _ _ _ _ _ => (pts_one (pt_val (pv 2)))) (fun _ _ _ _ _ => (pv 1))) pa_nil)))), ?_⟩
    walk_at "wp"
    refine ⟨l, _, rfl, SqL.of el, fun D hD => lc_it walk_enum (fun i H3 => Same H H3 ∧ ∃ xs, H3 D = some (.lst xs) ∧ xs.length ≤ i) ⟨Same.new hD, [], upd_same, Nat.le_refl _⟩ (fun i H3 _ h => SqL.of (h.1 _ _ el)) (fun i y H3 H4 hi ⟨s3, xs, e3, l3⟩ ⟨b, u, v, e1, fr, eH, hu, hv⟩ => ?_) fun H3 ⟨s3, xs, e3, l3⟩ => ?_⟩
    · subst e1 eH
      cases hu
      obtain ⟨z, rfl⟩ : ∃ z, v = V.bl z := by
        have hv2 : (bs.map V.bl)[i]? = some v := hv
        rw [List.getElem?_map] at hv2
        obtain ⟨z, _, e⟩ := Option.map_eq_some_iff.mp hv2
        exact ⟨z, e.symm⟩
      rw [List.length_map] at hi
      have nb := ne_of_none e3 fr
      have s4 := s3.trans (Same.new (o := .tup [.int ((i : Nat) : Int), .bl z]) fr)
      refine ⟨b, _, rfl, SqT.of upd_same, rfl, _, _, rfl, _, _, rfl, rfl, rfl, ?_⟩
      walk_at "wp"
      cases z
      · exact brF rfl ⟨s4, xs, by rw [upd_ne nb]; exact e3, by omega⟩
      · refine brT rfl ?_
        exact ⟨_, rfl, xs, by rw [upd_ne nb]; exact e3, lt_line (by omega), s4.mut hD, _, upd_same, by rw [List.length_append]; show _ + 1 ≤ _; omega⟩
    · refine ⟨D, _, rfl, .inl ⟨SqL.of e3, fun l2 hl2 => ?_⟩⟩
      exact q l2 _ _ (s3.trans (Same.new hl2)) upd_same
/-- parts of a grammar with its start behind: ((c,), (n,)) -/
structure Hd2 (K : PySem.W.Frag) (H : Hp) (hd pt p0 p1 : Addr) (n c : Nat) : Prop where
  hd : SqT K H hd [.int 0]
  pt : H pt = some (.tup [.ref p0, .ref p1])
  p0 : H p0 = some (.tup [.int c])
  p1 : H p1 = some (.tup [.int n])
  lt : c < n
  few : n ≤ 900
theorem Hd2.same {H H' : Hp} {hd pt p0 p1 : Addr} {n c : Nat} (o : Hd2 K H hd pt p0 p1 n c) (s : Same H H') : Hd2 K H' hd pt p0 p1 n c := ⟨s.seqT o.hd, s _ _ o.pt, s _ _ o.p0, s _ _ o.p1, o.lt, o.few⟩
theorem walk_zipT {a b : Addr} {xs ys : List V} {n : Nat} (hn : n = min xs.length ys.length) : Walk (RZ.ItzT K a b) n (fun H => SqT K H a xs ∧ SqT K H b ys) (YPair (fun i => xs[i]?) (fun i => ys[i]?)) :=
  ⟨fun i H hi q => ⟨xs, ys, xs[i]'(by omega), ys[i]'(by omega), q.1, q.2, List.getElem?_eq_getElem _, List.getElem?_eq_getElem _⟩, fun H q => ⟨xs, ys, q.1, q.2, by omega⟩, fun i H v H' _ q ⟨T, x, y, e1, e2, e3, e4, e5⟩ => ⟨T, x, y, e1, e2, e3, e4 xs q.1, e5 ys q.2⟩⟩
def sp_empty_groups (K : PySem.W.Frag) : Sp := fun vs H Q _ => ∃ (n c : Nat) (hd pt p0 p1 : Addr), vs = [.int n, .int 1, .ref hd, .ref pt] ∧ Hd2 K H hd pt p0 p1 n c ∧ ∀ p H', Same H H' → H' p = some (.lst [.bl false]) → Q (.ref p) H'
theorem ok_empty_groups (T : Txt K mg a) : FnOk P w K mg base CX0 1 a.empty_groups a.empty_groups_d ["count", "groups", "heads", "parts"] (sp_empty_groups K) := by
  refine T.F_empty_groups.ok sc_empty_groups (fun vs H Q E h => ?_) (fun cdv A outer s H vs Q E hr h => ?_)
  · obtain ⟨n, c, hd, pt, p0, p1, rfl, _⟩ := h
    rfl
  · obtain ⟨n, c, hd, pt, p0, p1, rfl, h, q⟩ := h
    refine ⟨_, (pss_cons (ps_set (i := 4) sc_empty_groups.nd rfl (.inr rfl) (pe_op op_rep (pe_lst (pa_cons pe_bl pa_nil)) (pv 1)))
    (pss_cons (ps_set (i := 5) sc_empty_groups.nd rfl (.inl rfl) pe_bl)
    (pss_cons (ps_while PassesOwn.never (pt_val (pv 5))
      (pss_cons (ps_set (i := 5) sc_empty_groups.nd rfl (.inl rfl) pe_bl)
      (pss_one (ps_for PassesOwn.never rfl (RZ.pi_zipA (by rfl) T.z_zip (pa_cons (pv 2) (pa_cons (pv 3) pa_nil))) (pg_tup rfl (pgs_cons (pg_name (i := 6) sc_empty_groups.nd rfl (.inl rfl)) (pgs_cons (pg_name (i := 7) sc_empty_groups.nd rfl (.inl rfl)) pgs_nil)))
        (pss_one (ps_if (PW.pt (pw_and (pt_not (pt_val (pe_ix ix_list (pv 4) (pv 6) (fun _ _ => rfl)))) (pw_and1 (pt_val (pe_callB (cr_all rfl) (by rfl) T.z_all (by decide +kernel) (pa_cons (pe_lc (own := [("code", 8)]) rfl sc_empty_groups.nd (pi_tup (pv 7)) (blkOk_by (own := [("code", 8)]) (N := ["count", "groups", "heads", "parts", "found", "again", "head", "codes", "code"]) (sc := defScope s_empty_groups) (by decide +kernel)) (fun _ _ _ _ _ => (pg_name (i := 8) sc_empty_groups.nd rfl (Or.inl rfl))) (fun _ _ _ _ _ => pts_nil) (fun _ _ _ _ _ => (pe_and (pe_cmpR op_ge (pv 8) (pv 0) (nomark _)) (pe_one (pe_ix (show IxR _ (rIxL K) by exact ix_list) (pv 4) (pe_op op_sub (pv 8) (pv 0)) (fun _ _ => rfl)))))) pa_nil))))))
          (pss_cons (ps_asg pe_bl (pg_sub (pv 4) (pv 6) set_list))
          (pss_one (ps_set (i := 5) sc_empty_groups.nd rfl (.inl rfl) pe_bl)))
          pss_nil))))))
    (pss_one (ps_ret (pv 4)))))), ?_⟩
    walk_at "wp"
    refine ⟨disp rfl, fun f0 hf0 => ?_⟩
    walk_at "wp"
    refine ⟨f0, 1, _, rfl, rfl, upd_same, by decide, by decide, Nat.le_of_ble_eq_true rfl, fun f hf => ?_⟩
    have sm := (Same.new (o := .lst [.bl false]) hf0).trans (Same.new (o := .lst [.bl false]) hf)
    walk_at "wp"
    refine ⟨fun m σ H' => ∃ (ag : Bool) (o6 o7 o8 : Option V), σ = [some (.int n), some (.int 1), some (.ref hd), some (.ref pt), some (.ref f), some (.bl ag), o6, o7, o8] ∧ Same H H' ∧ H' f = some (.lst [.bl false]) ∧ (ag = true → 1 ≤ m), ⟨1, true, none, none, none, rfl, sm, upd_same, fun _ => Nat.le_refl _⟩, ?_⟩
    rintro m σ H1 ⟨ag, o6, o7, o8, rfl, s1, ef, hm⟩
    walk_at "wp"
    cases ag
    · refine brF rfl ?_
      walk_at "wp"
      exact q f H1 s1 ef
    · refine brT rfl ?_
      refine ⟨fun σ' H' => ∃ (o6 o7 o8 : Option V), σ' = [some (.int n), some (.int 1), some (.ref hd), some (.ref pt), some (.ref f), some (.bl false), o6, o7, o8] ∧ Same H H' ∧ H' f = some (.lst [.bl false]), fun σ' H' ⟨o6, o7, o8, e, s', f'⟩ => ⟨0, hm rfl, false, o6, o7, o8, e, s', f', fun e => by cases e⟩, ?_⟩
      walk_at "wp"
      refine ⟨hd, pt, _, _, rfl, .inr ⟨s1.seqT h.hd, SqT.of (s1 _ _ h.pt), ?_⟩⟩
      refine for_it (walk_zipT (n := 1) rfl) (fun i σ H' => ∃ (o6 o7 o8 : Option V), σ = [some (.int n), some (.int 1), some (.ref hd), some (.ref pt), some (.ref f), some (.bl false), o6, o7, o8] ∧ Same H H' ∧ H' f = some (.lst [.bl false])) ⟨o6, o7, o8, rfl, s1, ef⟩ (fun i σ H' _ ⟨_, _, _, _, s, _⟩ => ⟨s.seqT h.hd, SqT.of (s _ _ h.pt)⟩) ?_ fun σ H' h => h
      rintro i y σ H2 H3 hi ⟨o6, o7, o8, rfl, s2, e2⟩ ⟨b, u, v, e1, fr, eH, hu, hv⟩
      subst e1 eH
      obtain rfl : i = 0 := by omega
      cases hu
      cases hv
      have e3 := upd_get (o := .tup [V.int 0, .ref p0]) fr e2
      have s3 := s2.trans (Same.new (o := .tup [V.int 0, .ref p0]) fr)
      have ep0 := s3 _ _ h.p0
      walk_at "wp"
      refine ⟨⟨_, SqT.of ep0⟩, fun D hD => lcF walk_tup (fun _ => .bl false) (Nat.le_of_ble_eq_true rfl) hD (fun _ s => SqT.of (s _ _ ep0)) (fun i y H4 H5 R hi sm y2 k => ?_) fun H4 s4 e4 => ?_⟩
      · obtain ⟨rfl, hx⟩ := y2
        obtain rfl : i = 0 := by simpa using hi
        cases hx
        have lt := h.lt
        refine ⟨rfl, ?_⟩
        walk_at "wp"
        refine brF (decide_eq_false (by omega)) (k _ (.refl _))
      · refine ⟨D, [false], rfl, SqL.of e4, ?_⟩
        walk_at "wp"
        exact ⟨_, _, _, rfl, s3.trans s4, s4 _ _ e3⟩
/-- the beginnings' object, as far as it stands while it is made -/
structure Kn (K : PySem.W.Frag) (C : Addr) (H : Hp) (k : Addr) (n : Nat) (fs : List (Str × V)) : Prop where
  at_ : ∃ dx, H k = some (.ins C dx fs)
  count : fs.lookup ("count" : Str) = some (V.int n)
def sp_first_of (K : PySem.W.Frag) (a : Adr) : Sp := fun vs H Q _ => ∃ (k tb p0 : Addr) (n c : Nat) (fs : List (Str × V)), vs = [.ref k, .ref tb, .ref p0] ∧ Kn K a.Beginnings H k n fs ∧ H p0 = some (.tup [.int c]) ∧ c < n ∧ ∀ p H', Same H H' → H' p = some (.lst [.int c]) → Q (.ref p) H'
theorem ok_first_of (T : Txt K mg a) : FnOk P w K mg base CX0 2 a.first_of a.first_of_d ["known", "table", "codes"] (sp_first_of K a) := by
  refine T.F_first_of.ok sc_first_of (fun vs H Q E h => ?_) (fun cdv A outer s H vs Q E hr h => ?_)
  · obtain ⟨k, tb, p0, n, c, fs, rfl, _⟩ := h
    rfl
  · obtain ⟨k, tb, p0, n, c, fs, rfl, hk, ep, lt, q⟩ := h
    refine ⟨_, (pss_cons (ps_set (i := 3) sc_first_of.nd rfl (.inl rfl) (pe_lst pa_nil))
    (pss_cons (ps_for PassesOwn.never rfl (pi_tup (pv 2)) (pg_name (i := 4) sc_first_of.nd rfl (.inl rfl))
      (pss_cons (ps_if (pt_cmpR op_lt (pv 4) (pe_fld (pv 0) rfl) (nomark _))
        (pss_cons (ps_expr (pe_bm PySem.F.plainAttrs_list PySem.F.slot_list_append PySem.F.type_list_append mt_append (pv 3) (pa_cons (pv 4) pa_nil)))
        (pss_one (ps_ret (pv 3))))
        pss_nil)
      (pss_cons (ps_never)
      (pss_cons ps_never
      (pss_one ps_never)))))
    (pss_one (ps_ret (pv 3))))), ?_⟩
    walk_at "wp"
    refine ⟨disp rfl, fun D hD => ?_⟩
    walk_at "wp"
    have sm := Same.new (o := .lst []) hD
    have ep1 := sm _ _ ep
    obtain ⟨⟨dx, ek⟩, hc⟩ := hk
    refine ⟨⟨_, SqT.of ep1⟩, for_it walk_tup (fun i σ H' => i = 0 ∧ ∃ (o4 : Option V), σ = [some (.ref k), some (.ref tb), some (.ref p0), some (.ref D), o4, none] ∧ Same H H' ∧ H' D = some (.lst [])) ⟨rfl, none, rfl, sm, upd_same⟩ (fun i σ H' _ ⟨_, _, _, s, _⟩ => SqT.of (s _ _ ep)) ?_ ?_⟩
    · rintro i y σ H2 H3 hi ⟨rfl, o4, rfl, s2, e2⟩ ⟨eH, hy⟩
      subst eH
      cases hy
      have ek2 := s2 _ _ ek
      walk_at "wp"
      refine ⟨k, a.Beginnings, dx, fs, _, rfl, ek2, T.cl_Beginnings, T.nf_Beginnings_count, hc, ?_⟩
      walk_at "wp"
      refine brT (decide_eq_true (by omega)) ?_
      walk_at "wp"
      exact q D _ (s2.mut hD) upd_same
    · rintro σ H2 ⟨e0, _⟩
      exact absurd e0 (by show ¬ (1 = 0); decide)
/-- the table: one line of marks -/
def sp_first_table (K : PySem.W.Frag) (a : Adr) : Sp := fun vs H Q _ => ∃ (k hd pt p0 p1 : Addr) (n c : Nat) (fs : List (Str × V)), vs = [.ref k, .int 1, .ref hd, .ref pt] ∧ Kn K a.Beginnings H k n fs ∧ Hd2 K H hd pt p0 p1 n c ∧ ∀ (p l : Addr) (bs : List Bool) (H' : Hp), Same H H' → H' p = some (.lst [.ref l]) → H' l = some (.lst (bs.map V.bl)) → bs.length = n → Q (.ref p) H'
theorem ok_first_table (T : Txt K mg a) : FnOk P w K mg base CX0 3 a.first_table a.first_table_d ["known", "groups", "heads", "parts"] (sp_first_table K a) := by
  refine T.F_first_table.ok sc_first_table (fun vs H Q E h => ?_) (fun cdv A outer s H vs Q E hr h => ?_)
  · obtain ⟨k, hd, pt, p0, p1, n, c, fs, rfl, _⟩ := h
    rfl
  · obtain ⟨k, hd, pt, p0, p1, n, c, fs, rfl, hk, h, q⟩ := h
    obtain ⟨⟨dx, ek⟩, hc⟩ := hk
    have few := h.few
    refine ⟨_, (pss_cons (ps_setLc (i := 4) (own := [("_", 9)]) rfl sc_first_table.nd rfl rfl (sw_true rfl rfl rfl (by decide +kernel)) (pi_range1 (by rfl) T.z_range (pa_cons (pv 1) pa_nil)) (blkOk_by (own := [("_", 9)]) (N := ["known", "groups", "heads", "parts", "table", "again", "head", "codes", "token", "_"]) (sc := defScope s_first_table) (by decide +kernel)) (fun _ _ _ _ _ => (pg_name (i := 9) sc_first_table.nd rfl (Or.inl rfl))) (fun _ _ _ _ _ => pts_nil) (fun _ _ _ _ _ => (pe_op op_rep (pe_lst (pa_cons pe_bl pa_nil)) (show PE _ _ (tFld K (tVar 0) "count") from pe_fld (pv 0) rfl))))
    (pss_cons (ps_set (i := 5) sc_first_table.nd rfl (.inl rfl) pe_bl)
    (pss_cons (ps_while PassesOwn.never (pt_val (pv 5))
      (pss_cons (ps_set (i := 5) sc_first_table.nd rfl (.inl rfl) pe_bl)
      (pss_one (ps_for PassesOwn.never rfl (RZ.pi_zipA (by rfl) T.z_zip (pa_cons (pv 2) (pa_cons (pv 3) pa_nil))) (pg_tup rfl (pgs_cons (pg_name (i := 6) sc_first_table.nd rfl (.inl rfl)) (pgs_cons (pg_name (i := 7) sc_first_table.nd rfl (.inl rfl)) pgs_nil)))
        (pss_one (ps_for PassesOwn.never rfl (pi_list (pe_call (ok_first_of T) (hr.mono (by decide)) (by rfl) T.m_first_of T.F_first_of.kp (B_first_of T) .nil pass0 (pa_cons (pv 0) (pa_cons (pv 4) (pa_cons (pv 7) pa_nil))))) (pg_name (i := 8) sc_first_table.nd rfl (.inl rfl))
          (pss_one (ps_if (pt_not (pt_val (pe_ix ix_list (pe_ix ix_list (pv 4) (pv 6) (fun _ _ => rfl)) (pv 8) (fun _ _ => rfl))))
            (pss_cons (ps_asg pe_bl (pg_sub (pe_ix ix_list (pv 4) (pv 6) (fun _ _ => rfl)) (pv 8) set_list))
            (pss_one (ps_set (i := 5) sc_first_table.nd rfl (.inl rfl) pe_bl)))
            pss_nil))))))))
    (pss_one (ps_ret (pv 4)))))), ?_⟩
    walk_at "wp"
    refine ⟨by decide, by decide, fun D hD => lc_it walk_range (fun i H3 => Same H H3 ∧ ((i = 0 ∧ H3 D = some (.lst [])) ∨ (i = 1 ∧ ∃ l, H3 D = some (.lst [.ref l]) ∧ H3 l = some (.lst (List.replicate n (.bl false))) ∧ H l = none))) ⟨Same.new hD, .inl ⟨rfl, upd_same⟩⟩ (fun _ _ _ _ => trivial) (fun i y H3 H4 hi ⟨s3, z⟩ ⟨eH, ey⟩ => ?_) fun H3 ⟨s3, z⟩ => ?_⟩
    · subst eH ey
      have i0 : i = 0 := by have : i < 1 := hi; omega
      subst i0
      obtain ⟨_, e3⟩ | ⟨e0, _⟩ := z
      · refine ⟨rfl, ?_⟩
        unfold tYes
        refine brT rfl ?_
        have ek3 := s3 _ _ ek
        walk_at "wp"
        refine ⟨disp rfl, fun f0 hf0 => ?_⟩
        have ek4 := upd_get (o := .lst [.bl false]) hf0 ek3
        refine ⟨_, rfl, k, a.Beginnings, dx, fs, _, rfl, ek4, T.cl_Beginnings, T.nf_Beginnings_count, hc, ?_⟩
        refine ⟨f0, n, _, rfl, rfl, upd_same, by omega, by omega, le_line (by show 1 * _ ≤ _; omega), fun l hl => ?_⟩
        have nl := ne_of_none (upd_get (o := .lst [.bl false]) hf0 e3) hl
        have lH : H l = none := by
          cases e : H l with
          | none => rfl
          | some o => rw [upd_get hf0 (s3 _ _ e)] at hl; cases hl
        refine ⟨[], ?_, lt_line (by decide), ?_, .inr ⟨rfl, l, upd_same, ?_, lH⟩⟩
        · rw [upd_ne nl]
          exact upd_get hf0 e3
        · exact ((s3.trans (Same.new hf0)).trans (Same.new hl)).mut hD
        · rw [upd_ne (Ne.symm nl), upd_same, flat_rep]
          rfl
      · cases e0
    · obtain ⟨e0, _⟩ | ⟨_, l, eD, el, lH⟩ := z
      · cases e0
      have nDl : D ≠ l := fun e => by
        rw [e] at eD
        rw [eD] at el
        have := HO.lst.inj (Option.some.inj el)
        cases n with
        | zero => cases this
        | succ n => cases this
      walk_at "wp"
      refine ⟨fun m σ H' => ∃ (ag : Bool) (bs : List Bool) (o6 o7 o8 : Option V), σ = [some (.ref k), some (.int 1), some (.ref hd), some (.ref pt), some (.ref D), some (.bl ag), o6, o7, o8, none] ∧ Same H H' ∧ H' D = some (.lst [.ref l]) ∧ H' l = some (.lst (bs.map V.bl)) ∧ bs.length = n ∧ (ag = true → 1 ≤ m ∧ (bs[c]? = some false → 2 ≤ m)), ⟨2, true, List.replicate n false, none, none, none, rfl, s3, eD, by rw [el, List.map_replicate], List.length_replicate, fun _ => ⟨by decide, fun _ => by decide⟩⟩, ?_⟩
      rintro m σ H1 ⟨ag, bs, o6, o7, o8, rfl, s1, eD1, el1, lb, hm⟩
      walk_at "wp"
      cases ag
      · refine brF rfl ?_
        walk_at "wp"
        exact q D l bs H1 s1 eD1 el1 lb
      · refine brT rfl ?_
        obtain ⟨hm1, hm2⟩ := hm rfl
        have cl : c < bs.length := by rw [lb]; exact h.lt
        refine ⟨fun σ' H' => ∃ (ag : Bool) (bs' : List Bool) (o6 o7 o8 : Option V), σ' = [some (.ref k), some (.int 1), some (.ref hd), some (.ref pt), some (.ref D), some (.bl ag), o6, o7, o8, none] ∧ Same H H' ∧ H' D = some (.lst [.ref l]) ∧ H' l = some (.lst (bs'.map V.bl)) ∧ bs'.length = n ∧ (ag = true → bs[c]? = some false ∧ bs'[c]? = some true), fun σ' H' ⟨ag, bs', o6, o7, o8, e, s', d', f', l', g'⟩ => ?_, ?_⟩
        · cases ag
          · exact ⟨0, hm1, false, bs', o6, o7, o8, e, s', d', f', l', fun e => by cases e⟩
          · exact ⟨1, hm2 (g' rfl).1, true, bs', o6, o7, o8, e, s', d', f', l', fun _ => ⟨Nat.le_refl _, fun e2 => by rw [(g' rfl).2] at e2; cases e2⟩⟩
        walk_at "wp"
        refine ⟨hd, pt, _, _, rfl, .inr ⟨s1.seqT h.hd, SqT.of (s1 _ _ h.pt), ?_⟩⟩
        refine for_it (walk_zipT (n := 1) rfl) (fun i σ H' => ∃ (ag : Bool) (bs' : List Bool) (o6 o7 o8 : Option V), σ = [some (.ref k), some (.int 1), some (.ref hd), some (.ref pt), some (.ref D), some (.bl ag), o6, o7, o8, none] ∧ Same H H' ∧ H' D = some (.lst [.ref l]) ∧ H' l = some (.lst (bs'.map V.bl)) ∧ bs'.length = n ∧ (i = 0 → bs' = bs ∧ ag = false) ∧ (ag = true → bs[c]? = some false ∧ bs'[c]? = some true)) ⟨false, bs, o6, o7, o8, rfl, s1, eD1, el1, lb, fun _ => ⟨rfl, rfl⟩, fun e => by cases e⟩ (fun i σ H' _ ⟨_, _, _, _, _, _, s, _⟩ => ⟨s.seqT h.hd, SqT.of (s _ _ h.pt)⟩) ?_ fun σ H' ⟨ag, bs', o6, o7, o8, e, s', d', f', l', _, g'⟩ => ⟨ag, bs', o6, o7, o8, e, s', d', f', l', g'⟩
        rintro i y σ H2 H3' hi ⟨ag2, bs2, o6', o7', o8', rfl, s2, eD2, el2, lb2, z2, _⟩ ⟨b, u, v, e1, fr, eH, hu, hv⟩
        subst e1 eH
        obtain rfl : i = 0 := by omega
        obtain ⟨rfl, rfl⟩ := z2 rfl
        cases hu
        cases hv
        have eD3 := upd_get (o := .tup [V.int 0, .ref p0]) fr eD2
        have el3 := upd_get (o := .tup [V.int 0, .ref p0]) fr el2
        have s3' := s2.trans (Same.new (o := .tup [V.int 0, .ref p0]) fr)
        have ek3 := s3' _ _ ek
        have ep3 := s3' _ _ h.p0
        walk_at "wp"
        refine ⟨k, D, p0, n, c, fs, rfl, ⟨⟨dx, ek3⟩, hc⟩, ep3, h.lt, fun q2 H4 s4 e4 => ?_⟩
        refine ⟨q2, rfl, ⟨_, SqL.of e4⟩, ?_⟩
        have s5 := s3'.trans s4
        have eD4 := s4 _ _ eD3
        have el4 := s4 _ _ el3
        have nql : q2 ≠ l := fun e => by
          rw [e, el4] at e4
          have := HO.lst.inj (Option.some.inj e4)
          cases bs2 with
          | nil => cases this
          | cons z zs => cases this
        refine for_it (walk_list (xs := [.int c])) (fun i σ H' => ∃ (ag : Bool) (bs' : List Bool) (o7 o8 : Option V), σ = [some (.ref k), some (.int 1), some (.ref hd), some (.ref pt), some (.ref D), some (.bl ag), some (.int 0), o7, o8, none] ∧ Same H H' ∧ H' D = some (.lst [.ref l]) ∧ H' l = some (.lst (bs'.map V.bl)) ∧ bs'.length = n ∧ H' q2 = some (.lst [.int c]) ∧ (i = 0 → bs' = bs2 ∧ ag = false) ∧ (ag = true → bs2[c]? = some false ∧ bs'[c]? = some true)) ⟨_, bs2, _, _, rfl, s5, eD4, el4, lb2, e4, fun _ => ⟨rfl, rfl⟩, fun e => by cases e⟩ (fun i σ H' _ ⟨_, _, _, _, _, _, _, _, _, h, _⟩ => SqL.of h) ?_ fun σ H' ⟨ag, bs', o7, o8, e, s', d', f', l', e', _, g'⟩ => ⟨ag, bs', _, o7, o8, e, s', d', f', l', (fun e => absurd e (Nat.succ_ne_zero _)), g'⟩
        rintro i y σ H5 H6 hi ⟨ag5, bs5, o7, o8, rfl, s6, eD5, el5, lb5, eq5, z5, _⟩ ⟨eH, hy⟩
        subst eH
        obtain rfl : i = 0 := by simpa using hi
        obtain ⟨rfl, rfl⟩ := z5 rfl
        cases hy
        walk_at "wp"
        have cl2 : c < bs5.length := by rw [lb5]; exact h.lt
        obtain ⟨z, hz⟩ : ∃ z, bs5[c]? = some z := ⟨_, List.getElem?_eq_getElem cl2⟩
        refine ixL_go (SqL.of el5) (v := .bl z) ?_ ?_
        · exact atI_of rfl (by rw [List.getElem?_map, hz]; rfl)
        cases z
        · refine ⟨_, rfl, brT rfl ?_⟩
          walk_at "wp"
          refine setL_go el5 (j := c) (ixN_of rfl (by rw [List.length_map]; exact cl2)) ?_
          walk_at "wp"
          refine ⟨true, bs5.set c true, _, _, rfl, s6.mut lH, ?_, ?_, ?_, ?_, fun e => absurd e (Nat.succ_ne_zero _), fun _ => ⟨hz, ?_⟩⟩
          · rw [upd_ne nDl]
            exact eD5
          · rw [upd_same, List.map_set]
          · rw [List.length_set]
            exact lb5
          · rw [upd_ne nql]
            exact eq5
          · rw [List.getElem?_set_self cl2]
        · refine ⟨_, rfl, brF rfl ?_⟩
          walk_at "wp"
          exact ⟨false, bs5, _, _, rfl, s6, eD5, el5, lb5, eq5, fun e => absurd e (Nat.succ_ne_zero _), fun e => by cases e⟩
def sp_behind_dots (K : PySem.W.Frag) (a : Adr) : Sp := fun vs H Q _ => ∃ (k p em fi q : Addr) (n c : Nat) (fs : List (Str × V)), vs = [.ref k, .ref p] ∧ Kn K a.Beginnings H k n fs ∧ fs.lookup ("empty" : Str) = some (.ref em) ∧ fs.lookup ("first" : Str) = some (.ref fi) ∧ H em = some (.tup [.bl false]) ∧ H fi = some (.tup [.ref q]) ∧ (∃ xs, H q = some (.tup xs)) ∧ H p = some (.tup [.int c]) ∧ c ≤ n ∧ ∀ r H', Same H H' → Q (.ref r) H'
theorem ok_behind_dots (T : Txt K mg a) : FnOk P w K mg base CX0 2 a.behind_dots a.behind_dots_d ["known", "codes"] (sp_behind_dots K a) := by
  refine T.F_behind_dots.ok sc_behind_dots (fun vs H Q E h => ?_) (fun cdv A outer s H vs Q E hr h => ?_)
  · obtain ⟨k, p, em, fi, q', n, c, fs, rfl, _⟩ := h
    rfl
  · obtain ⟨k, p, em, fi, q', n, c, fs, rfl, ⟨⟨dx, ek⟩, hc⟩, l1, l2, e1, e2, ⟨xs, e3⟩, e4, cn, q⟩ := h
    refine ⟨_, (pss_cons (ps_set (i := 2) sc_behind_dots.nd rfl (.inl rfl) (pe_tup pa_nil))
    (pss_cons (ps_set (i := 3) sc_behind_dots.nd rfl (.inl rfl) pe_bl)
    (pss_cons (ps_set (i := 4) sc_behind_dots.nd rfl (.inl rfl) (pe_lst (pa_cons (pe_tup (pa_cons (pv 2) (pa_cons (pv 3) pa_nil))) pa_nil)))
    (pss_cons (ps_for PassesOwn.never rfl (RT.pi_revA (by rfl) T.z_reversed (pv 1)) (pg_name (i := 5) sc_behind_dots.nd rfl (.inl rfl))
      (pss_cons (ps_if (pt_cmpR op_lt (pv 5) (pe_fld (pv 0) rfl) (nomark _))
        (pss_cons (ps_set (i := 2) sc_behind_dots.nd rfl (.inl rfl) (pe_tup (pa_cons (pv 5) pa_nil)))
        (pss_one (ps_set (i := 3) sc_behind_dots.nd rfl (.inl rfl) pe_bl)))
        (pss_cons (ps_set (i := 6) sc_behind_dots.nd rfl (.inl rfl) (pe_op op_sub (pv 5) (pe_fld (pv 0) rfl)))
        (pss_one (ps_if (pt_val (pe_ix ix_seq (pe_fld (pv 0) rfl) (pv 6) (fun _ _ => rfl)))
          (pss_one ps_never)
          (pss_cons (ps_set (i := 2) sc_behind_dots.nd rfl (.inl rfl) (pe_ix ix_seq (pe_fld (pv 0) rfl) (pv 6) (fun _ _ => rfl)))
          (pss_one (ps_set (i := 3) sc_behind_dots.nd rfl (.inl rfl) pe_bl)))))))
      (pss_one (ps_expr (pe_bm PySem.F.plainAttrs_list PySem.F.slot_list_append PySem.F.type_list_append mt_append (pv 4) (pa_cons (pe_tup (pa_cons (pv 2) (pa_cons (pv 3) pa_nil))) pa_nil))))))
    (pss_one (ps_ret (RT.pe_tupRev rfl (by rfl) T.z_tuple (by rfl) T.z_reversed (pv 4)))))))), ?_⟩
    walk_at "wp"
    refine ⟨disp rfl, fun t0 ht0 => ?_⟩
    walk_at "wp"
    refine ⟨disp rfl, fun t1 ht1 => ?_⟩
    walk_at "wp"
    refine ⟨disp rfl, fun D hD => ?_⟩
    have sm := ((Same.new (o := .tup []) ht0).trans (Same.new (o := .tup [.ref t0, .bl true]) ht1)).trans (Same.new (o := .lst [.ref t1]) hD)
    have DH : H D = none := (upd_free2 (upd_free2 hD).1).1
    walk_at "wp"
    refine ⟨p, _, rfl, .inr ⟨SqT.of (sm _ _ e4), ?_⟩⟩
    refine RT.for_ItvT (fun i σ H' => ∃ (tk : Addr) (fr : Bool) (o5 o6 : Option V) (ys : List V), σ = [some (.ref k), some (.ref p), some (.ref tk), some (.bl fr), some (.ref D), o5, o6] ∧ Same H H' ∧ H' D = some (.lst ys) ∧ ys.length ≤ 1 + i) ⟨t0, true, none, none, _, rfl, sm, upd_same, Nat.le_refl _⟩ (fun i σ H' ⟨_, _, _, _, _, _, s, _⟩ => SqT.of (s _ _ e4)) ?_ ?_
    · rintro i y σ H2 hi hy ⟨tk, fr, o5, o6, ys, rfl, s2, eD, ly⟩
      obtain rfl : i = 0 := by simpa using hi
      cases hy
      have ek2 := s2 _ _ ek
      walk_at "wp"
      refine ⟨k, a.Beginnings, dx, fs, _, rfl, ek2, T.cl_Beginnings, T.nf_Beginnings_count, hc, ?_⟩
      walk_at "wp"
      refine brd (fun h1 => ?_) (fun h1 => ?_)
      · walk_at "wp"
        refine ⟨disp rfl, fun t2 ht2 => ?_⟩
        walk_at "wp"
        refine ⟨disp rfl, fun t3 ht3 => ?_⟩
        have s3 := (s2.trans (Same.new (o := .tup [.int c]) ht2)).trans (Same.new (o := .tup [.ref t2, .bl false]) ht3)
        have eD3 := upd_get (o := .tup [.ref t2, .bl false]) ht3 (upd_get (o := .tup [.int c]) ht2 eD)
        walk_at "wp"
        refine ⟨t2, false, _, _, _, rfl, s3.mut DH, upd_same, ?_⟩
        rw [List.length_append]
        show _ + 1 ≤ _
        omega
      · have ee : c = n := by omega
        subst ee
        have eem := s2 _ _ e1
        have efi := s2 _ _ e2
        walk_at "wp"
        refine ⟨k, a.Beginnings, dx, fs, _, rfl, ek2, T.cl_Beginnings, T.nf_Beginnings_count, hc, ?_⟩
        walk_at "wp"
        refine ⟨k, a.Beginnings, dx, fs, _, rfl, ek2, T.cl_Beginnings, T.nf_Beginnings_empty, l1, ?_⟩
        walk_at "wp"
        rw [show (fun i j => V.int (i - j)) (c : Int) (c : Int) = V.int 0 from congrArg V.int (Int.sub_self _)]
        refine .inr (.inl (ixT_go (SqT.of eem) rfl ?_))
        refine ⟨_, rfl, ?_⟩
        refine brF rfl ?_
        walk_at "wp"
        refine ⟨k, a.Beginnings, dx, fs, _, rfl, ek2, T.cl_Beginnings, T.nf_Beginnings_first, l2, ?_⟩
        walk_at "wp"
        refine .inr (.inl (ixT_go (SqT.of efi) rfl ?_))
        walk_at "wp"
        refine ⟨disp rfl, fun t3 ht3 => ?_⟩
        have s3 := s2.trans (Same.new (o := .tup [.ref q', .bl false]) ht3)
        have eD3 := upd_get (o := .tup [.ref q', .bl false]) ht3 eD
        walk_at "wp"
        refine ⟨q', false, _, _, _, rfl, s3.mut DH, upd_same, ?_⟩
        rw [List.length_append]
        show _ + 1 ≤ _
        omega
    · rintro σ H2 ⟨tk, fr, o5, o6, ys, rfl, s2, eD, ly⟩
      walk_at "wp"
      refine ⟨D, ys, rfl, SqL.of eD, fun q3 hq3 => ?_⟩
      exact q q3 _ (s2.trans (Same.new hq3))

/-! ### objects made -/
/-- the object at x, made behind H0, with the fields fs as yet -/
structure Ins (H0 : Hp) (C x dx : Addr) (fs : List (Str × V)) (H : Hp) : Prop where
  out : H0 x = none
  sm : Same H0 H
  at_ : H x = some (.ins C dx fs)
theorem Ins.start {H : Hp} {C x dx : Addr} (h1 : H x = none) (h2 : H dx = none) (h3 : dx ≠ x) : Ins H C x dx [] (upd (upd H dx (.own x)) x (.ins C dx [])) :=
  ⟨h1, (Same.new h2).trans (Same.new (by rw [upd_ne (Ne.symm h3)]; exact h1)), upd_same⟩
theorem Ins.same {H0 H H' : Hp} {C x dx : Addr} {fs : List (Str × V)} (i : Ins H0 C x dx fs H) (s : Same H H') : Ins H0 C x dx fs H' := ⟨i.out, i.sm.trans s, s _ _ i.at_⟩
theorem Ins.put {H0 H : Hp} {C x dx : Addr} {fs gs : List (Str × V)} (i : Ins H0 C x dx fs H) : Ins H0 C x dx gs (upd H x (.ins C dx gs)) := ⟨i.out, i.sm.mut i.out, upd_same⟩
theorem Ins.keep {H0 H : Hp} {C x dx p : Addr} {fs : List (Str × V)} {o o' : HO} (i : Ins H0 C x dx fs H) (e : H p = some o) (h : ∀ fs, o ≠ .ins C dx fs) : upd H x o' p = some o := by
  rw [upd_ne (fun q => by rw [q, i.at_] at e; exact h _ (Option.some.inj e).symm)]
  exact e
theorem Ins.mut {H0 H : Hp} {C x dx p : Addr} {fs : List (Str × V)} {o o' : HO} (i : Ins H0 C x dx fs H) (n : H0 p = none) (e : H p = some o) (h : ∀ fs, o ≠ .ins C dx fs) : Ins H0 C x dx fs (upd H p o') :=
  ⟨i.out, i.sm.mut n, by rw [upd_ne (fun q => by rw [← q, i.at_] at e; exact h _ (Option.some.inj e).symm)]; exact i.at_⟩
def sp_Beginnings_init (K : PySem.W.Frag) (a : Adr) : Sp := fun vs H Q _ => ∃ (x hd pt p0 p1 : Addr) (n c : Nat) (dx : Addr) (H0 : Hp), vs = [.ref x, .int n, .int 1, .ref hd, .ref pt] ∧ Ins H0 a.Beginnings x dx [] H ∧ Hd2 K H0 hd pt p0 p1 n c ∧ ∀ H', Same H0 H' → Q .non H'
theorem ok_Beginnings_init (T : Txt K mg a) : FnOk P w K mg base CX0 4 a.Beginnings_init a.Beginnings_init_d ["self", "count", "groups", "heads", "parts"] (sp_Beginnings_init K a) := by
  refine T.F_Beginnings_init.ok sc_Beginnings_init (fun vs H Q E h => ?_) (fun cdv A outer s H vs Q E hr h => ?_)
  · obtain ⟨x, hd, pt, p0, p1, n, c, dx, H0, rfl, _⟩ := h
    rfl
  · obtain ⟨x, hd, pt, p0, p1, n, c, dx, H0, rfl, hi, h, q⟩ := h
    refine ⟨_, (pss_cons (ps_fld (pv 0) (pv 1) rfl)
    (pss_cons (ps_fld (pv 0) (pe_callTy call_tuple_of (by rfl) T.z_tuple (by decide +kernel) (pa_cons (pe_call (ok_empty_groups T) (hr.mono (by decide)) (by rfl) T.m_empty_groups T.F_empty_groups.kp (B_empty_groups T) .nil pass0 (pa_cons (pv 1) (pa_cons (pv 2) (pa_cons (pv 3) (pa_cons (pv 4) pa_nil))))) pa_nil)) rfl)
    (pss_cons (ps_set (i := 5) sc_Beginnings_init.nd rfl (.inl rfl) (pe_call (ok_first_table T) (hr.mono (by decide)) (by rfl) T.m_first_table T.F_first_table.kp (B_first_table T) .nil pass0 (pa_cons (pv 0) (pa_cons (pv 2) (pa_cons (pv 3) (pa_cons (pv 4) pa_nil))))))
    (pss_cons (ps_fld (pv 0) (pe_callTy call_tuple_of (by rfl) T.z_tuple (by decide +kernel) (pa_cons (pe_lc (own := [("line", 6)]) rfl sc_Beginnings_init.nd (pi_list (pv 5)) (blkOk_by (own := [("line", 6)]) (N := ["self", "count", "groups", "heads", "parts", "table", "line", "codes"]) (sc := defScope s_Beginnings_init) (by decide +kernel)) (fun _ _ _ _ _ => (pg_name (i := 6) sc_Beginnings_init.nd rfl (Or.inl rfl))) (fun _ _ _ _ _ => pts_nil) (fun _ _ _ _ _ => (pe_call (ok_marked_ones T) (hr.mono (by decide)) (by rfl) T.m_marked_ones T.F_marked_ones.kp (B_marked_ones T) .nil pass0 (pa_cons (pv 6) pa_nil)))) pa_nil)) rfl)
    (pss_one (ps_fld (pv 0) (pe_callTy call_tuple_of (by rfl) T.z_tuple (by decide +kernel) (pa_cons (pe_lc (own := [("codes", 7)]) rfl sc_Beginnings_init.nd (pi_tup (pv 4)) (blkOk_by (own := [("codes", 7)]) (N := ["self", "count", "groups", "heads", "parts", "table", "line", "codes"]) (sc := defScope s_Beginnings_init) (by decide +kernel)) (fun _ _ _ _ _ => (pg_name (i := 7) sc_Beginnings_init.nd rfl (Or.inl rfl))) (fun _ _ _ _ _ => pts_nil) (fun _ _ _ _ _ => (pe_call (ok_behind_dots T) (hr.mono (by decide)) (by rfl) T.m_behind_dots T.F_behind_dots.kp (B_behind_dots T) .nil pass0 (pa_cons (pv 0) (pa_cons (pv 7) pa_nil))))) pa_nil)) rfl)))))), ?_⟩
    walk_at "wp"
    refine ⟨x, _, dx, _, rfl, hi.at_, T.cl_Beginnings, T.nf_Beginnings_count, by decide, ?_⟩
    have i1 := hi.put (gs := putF "count" (V.int n) [])
    have h1 := h.same i1.sm
    walk_at "wp"
    refine ⟨n, c, hd, pt, p0, p1, rfl, h1, fun em0 H2 s2 e2 => ?_⟩
    walk_at "wp"
    refine ⟨em0, _, rfl, .inl ⟨SqL.of e2, fun em hem => ?_⟩⟩
    walk_at "wp"
    have i2 := (i1.same s2).same (Same.new (o := .tup [.bl false]) hem)
    have em1 : upd H2 em (.tup [.bl false]) em = some (.tup [.bl false]) := upd_same
    refine ⟨x, _, dx, _, rfl, i2.at_, T.cl_Beginnings, T.nf_Beginnings_empty, (by show (1 : Nat) < 1000; decide), ?_⟩
    have i3 := i2.put (gs := putF "empty" (V.ref em) (putF "count" (V.int n) []))
    have em3 := i2.keep (o' := .ins a.Beginnings dx (putF "empty" (V.ref em) (putF "count" (V.int n) []))) em1 (fun _ e => by cases e)
    walk_at "wp"
    refine ⟨x, hd, pt, p0, p1, n, c, _, rfl, ⟨⟨dx, i3.at_⟩, rfl⟩, h.same i3.sm, fun tb l bs H4 s4 e4 l4 lb => ?_⟩
    have i4 := i3.same s4
    have em4 := s4 _ _ em3
    walk_at "wp"
    have few := h.few
    refine ⟨⟨_, SqL.of e4⟩, fun D hD => lc_it (walk_list (xs := [.ref l])) (fun i H5 => Same H4 H5 ∧ ((i = 0 ∧ H5 D = some (.lst [])) ∨ (i = 1 ∧ ∃ q xs, H5 D = some (.lst [.ref q]) ∧ H5 q = some (.tup xs)))) ⟨Same.new hD, .inl ⟨rfl, upd_same⟩⟩ (fun i H5 _ g => SqL.of (g.1 _ _ e4)) (fun i y H5 H6 hi ⟨s5, z⟩ ⟨eH, hy⟩ => ?_) fun H5 ⟨s5, z⟩ => ?_⟩
    · subst eH
      obtain rfl : i = 0 := by simpa using hi
      obtain ⟨_, e5⟩ | ⟨e0, _⟩ := z
      · cases hy
        refine ⟨rfl, ?_⟩
        walk_at "wp"
        refine ⟨l, bs, rfl, s5 _ _ l4, by omega, fun q2 xs H7 s7 e7 => ?_⟩
        refine ⟨[], s7 _ _ e5, lt_line (by decide), (s5.trans s7).mut hD, .inr ⟨rfl, q2, xs, upd_same, ?_⟩⟩
        rw [upd_ne (fun e => by rw [e, s7 _ _ e5] at e7; cases e7)]
        exact e7
      · cases e0
    · obtain ⟨e0, _⟩ | ⟨_, q2, xs, e5, e6⟩ := z
      · cases e0
      refine ⟨D, _, rfl, .inl ⟨SqL.of e5, fun fi hfi => ?_⟩⟩
      have i5 := (i4.same s5).same (Same.new (o := .tup [.ref q2]) hfi)
      have em5 := upd_get (o := .tup [.ref q2]) hfi (s5 _ _ em4)
      have q5 := upd_get (o := .tup [.ref q2]) hfi e6
      walk_at "wp"
      refine ⟨x, _, dx, _, rfl, i5.at_, T.cl_Beginnings, T.nf_Beginnings_first, (by show (2 : Nat) < 1000; decide), ?_⟩
      have i6 := i5.put (gs := putF "first" (V.ref fi) (putF "empty" (V.ref em) (putF "count" (V.int n) [])))
      have em6 := i5.keep (o' := .ins a.Beginnings dx (putF "first" (V.ref fi) (putF "empty" (V.ref em) (putF "count" (V.int n) [])))) em5 (fun _ e => by cases e)
      have q6 := i5.keep (o' := .ins a.Beginnings dx (putF "first" (V.ref fi) (putF "empty" (V.ref em) (putF "count" (V.int n) [])))) q5 (fun _ e => by cases e)
      have f6 := i5.keep (o' := .ins a.Beginnings dx (putF "first" (V.ref fi) (putF "empty" (V.ref em) (putF "count" (V.int n) [])))) (upd_same (o := .tup [.ref q2])) (fun _ e => by cases e)
      have h6 := h.same i6.sm
      walk_at "wp"
      refine ⟨⟨_, SqT.of h6.pt⟩, fun D2 hD2 => lc_it walk_tup (fun i H7 => Same _ H7 ∧ ∃ ys, H7 D2 = some (.lst ys) ∧ ys.length ≤ i) ⟨Same.new hD2, [], upd_same, Nat.le_refl _⟩ (fun i H5 _ g => SqT.of (g.1 _ _ h6.pt)) (fun i y H8 H7 hi ⟨s7, ys, e7, l7⟩ ⟨eH, hy⟩ => ?_) fun H7 ⟨s7, ys, e7, l7⟩ => ?_⟩
      · subst eH
        have hi2 : i < 2 := hi
        have i7 := i6.same s7
        have h7 := h6.same s7
        have em7 := s7 _ _ em6
        have f7 := s7 _ _ f6
        have q7 := s7 _ _ q6
        obtain ⟨p, d, rfl, ep, dn⟩ : ∃ (p : Addr) (d : Nat), y = V.ref p ∧ H7 p = some (.tup [.int d]) ∧ d ≤ n := by
          rcases (show i = 0 ∨ i = 1 by have : i < 2 := hi; omega) with rfl | rfl
          · cases hy
            exact ⟨p0, c, rfl, h7.p0, Nat.le_of_lt h7.lt⟩
          · cases hy
            exact ⟨p1, n, rfl, h7.p1, Nat.le_refl _⟩
        refine ⟨rfl, ?_⟩
        walk_at "wp"
        refine ⟨x, p, em, fi, q2, n, d, _, rfl, ⟨⟨dx, i7.at_⟩, rfl⟩, rfl, rfl, em7, f7, ⟨xs, q7⟩, ep, dn, fun r H8 s8 => ?_⟩
        refine ⟨ys, s8 _ _ e7, lt_line (by omega), (s7.trans s8).mut hD2, _, upd_same, ?_⟩
        rw [List.length_append]
        show _ + 1 ≤ _
        omega
      · refine ⟨D2, _, rfl, .inl ⟨SqL.of e7, fun be hbe => ?_⟩⟩
        have i8 := (i6.same s7).same (Same.new (o := .tup ys) hbe)
        walk_at "wp"
        refine ⟨x, _, dx, _, rfl, i8.at_, T.cl_Beginnings, T.nf_Beginnings_behind, (by show (3 : Nat) < 1000; decide), ?_⟩
        exact q _ (i8.put (gs := _)).sm

/-! ### a grammar of one rule -/
/-- the grammar at x: n tokens, one rule, of the token c -/
structure Gr (K : PySem.W.Frag) (a : Adr) (H : Hp) (x : Addr) (n c : Nat) : Prop where
  ex : ∃ (dx tk rl gp hd pt p0 p1 : Addr) (fs : List (Str × V)) (ts rs gs : List V), H x = some (.ins a.Grammar dx fs) ∧ fs.lookup ("tokens" : Str) = some (.ref tk) ∧ H tk = some (.tup ts) ∧ ts.length = n ∧ fs.lookup ("rules" : Str) = some (.ref rl) ∧ H rl = some (.tup rs) ∧ rs.length = 1 ∧ fs.lookup ("groups" : Str) = some (.ref gp) ∧ H gp = some (.tup gs) ∧ gs.length = 1 ∧
    fs.lookup ("heads" : Str) = some (.ref hd) ∧ fs.lookup ("parts" : Str) = some (.ref pt) ∧ Hd2 K H hd pt p0 p1 n c
theorem Gr.same {H H' : Hp} {x : Addr} {n c : Nat} (h : Gr K a H x n c) (s : Same H H') : Gr K a H' x n c := by
  obtain ⟨dx, tk, rl, gp, hd, pt, p0, p1, fs, ts, rs, gs, e1, e2, e3, e4, e5, e6, e7, e8, e9, e10, e11, e12, e13⟩ := h
  exact ⟨dx, tk, rl, gp, hd, pt, p0, p1, fs, ts, rs, gs, s _ _ e1, e2, s _ _ e3, e4, e5, s _ _ e6, e7, e8, s _ _ e9, e10, e11, e12, e13.same s⟩
abbrev gf1 (tk : Addr) : List (Str × V) := putF "tokens" (V.ref tk) []
abbrev gf2 (tk rl : Addr) : List (Str × V) := putF "rules" (V.ref rl) (gf1 tk)
abbrev gf3 (tk rl gp : Addr) : List (Str × V) := putF "groups" (V.ref gp) (gf2 tk rl)
abbrev gf4 (tk rl gp cd : Addr) : List (Str × V) := putF "codes" (V.ref cd) (gf3 tk rl gp)
abbrev gf5 (tk rl gp cd hd : Addr) : List (Str × V) := putF "heads" (V.ref hd) (gf4 tk rl gp cd)
abbrev gf6 (tk rl gp cd hd pt : Addr) : List (Str × V) := putF "parts" (V.ref pt) (gf5 tk rl gp cd hd)
abbrev gf7 (tk rl gp cd hd pt ro : Addr) : List (Str × V) := putF "rules_of" (V.ref ro) (gf6 tk rl gp cd hd pt)
abbrev gf8 (tk rl gp cd hd pt ro be : Addr) : List (Str × V) := putF "beginnings" (V.ref be) (gf7 tk rl gp cd hd pt ro)
abbrev gf9 (tk rl gp cd hd pt ro be : Addr) : List (Str × V) := putF "state_list" .non (gf8 tk rl gp cd hd pt ro be)
theorem yes_go {σ : L2.St} {H : Hp} {A B : Hp → Prop} (h : A H) : tYes σ H fun b H3 => if b = true then A H3 else B H3 := h
def sp_Grammar_init (K : PySem.W.Frag) (a : Adr) : Sp := fun vs H Q _ => ∃ (x p r rx pa dx : Addr) (H0 : Hp) (ts : List Str) (g t : Str) (c : Nat), vs = [.ref x, .ref p, .ref r] ∧ Ins H0 a.Grammar x dx [] H ∧ H0 p = some (.lst (ts.map V.str)) ∧ H0 r = some (.lst [.ref rx]) ∧ One K H0 rx pa g t ∧ okName g ∧ (∀ z ∈ ts, okName z) ∧ ts[c]? = some t ∧ g ∉ ts ∧ ts.length ≤ 60 ∧ ts.Nodup ∧ ∀ H', Same H0 H' → Gr K a H' x ts.length c → Q .non H'
theorem ok_Grammar_init (T : Txt K mg a) : FnOk P w K mg base CX0 6 a.Grammar_init a.Grammar_init_d ["self", "tokens", "rules"] (sp_Grammar_init K a) := by
  refine T.F_Grammar_init.ok sc_Grammar_init (fun vs H Q E h => ?_) (fun cdv A outer s H vs Q E hr h => ?_)
  · obtain ⟨x, p, r, rx, pa, dx, H0, ts, g, t, c, rfl, _⟩ := h
    rfl
  · obtain ⟨x, p, r, rx, pa, dx, H0, ts, g, t, c, rfl, hi, ep, er, o, og, ots, et, gn, tl, nd, q⟩ := h
    refine ⟨_, (pss_cons (ps_if (pt_not (pt_val (pe_call (ok_are_names T) (hr.mono (by decide)) (by rfl) T.m_are_names T.F_are_names.kp (B_are_names T) .nil pass0 (pa_cons (pv 1) pa_nil)))) pss_never pss_nil)
    (pss_cons (ps_if (pt_not (pt_val (pe_call (ok_are_rules T) (hr.mono (by decide)) (by rfl) T.m_are_rules T.F_are_rules.kp (B_are_rules T) .nil pass0 (pa_cons (pv 1) (pa_cons (pv 2) pa_nil))))) pss_never pss_nil)
    (pss_cons (ps_fld (pv 0) (pe_callTy call_tuple_of (by rfl) T.z_tuple (by decide +kernel) (pa_cons (pv 1) pa_nil)) rfl)
    (pss_cons (ps_fld (pv 0) (pe_callTy call_tuple_of (by rfl) T.z_tuple (by decide +kernel) (pa_cons (pv 2) pa_nil)) rfl)
    (pss_cons (ps_fld (pv 0) (pe_call (ok_groups_in T) (hr.mono (by decide)) (by rfl) T.m_groups_in T.F_groups_in.kp (B_groups_in T) .nil pass0 (pa_cons (pe_fld (pv 0) rfl) pa_nil)) rfl)
    (pss_cons (ps_set (i := 3) sc_Grammar_init.nd rfl (.inr rfl) (pe_callB call_len (by rfl) T.z_len (by decide +kernel) (pa_cons (pe_fld (pv 0) rfl) pa_nil)))
    (pss_cons (ps_fld (pv 0) (pe_dc (own := [("code", 5), ("name", 6)]) rfl sc_Grammar_init.nd (pi_enumT (by rfl) T.z_enumerate (pa_cons (pe_op op_catT (pe_fld (pv 0) rfl) (pe_fld (pv 0) rfl)) pa_nil)) (blkOk_by (own := [("code", 5), ("name", 6)]) (N := ["self", "tokens", "rules", "count", "coded", "code", "name", "parts", "part", "group"]) (sc := defScope s_Grammar_init) (by decide +kernel)) (fun _ _ _ _ _ => (show PG _ _ (gTup K 2 (gCons (gName 5) (gCons (gName 6) gNil))) from pg_tup rfl (pgs_cons (pg_name (i := 5) sc_Grammar_init.nd rfl (Or.inl rfl) (Or.inr rfl)) (pgs_cons (pg_name (i := 6) sc_Grammar_init.nd rfl (Or.inl rfl) (Or.inr rfl)) pgs_nil)))) (fun _ _ _ _ _ => pts_nil) (fun _ _ _ _ _ => (pv 6)) (fun _ _ _ _ _ => (pv 5))) rfl)
    (pss_cons (ps_fld (pv 0) (pe_callTy call_tuple_of (by rfl) T.z_tuple (by decide +kernel) (pa_cons (pe_lc (own := [("name", 6), ("parts", 7)]) rfl sc_Grammar_init.nd (pi_tup (pe_fld (pv 0) rfl)) (blkOk_by (own := [("name", 6), ("parts", 7)]) (N := ["self", "tokens", "rules", "count", "coded", "code", "name", "parts", "part", "group"]) (sc := defScope s_Grammar_init) (by decide +kernel)) (fun _ _ _ _ _ => (show PG _ _ (gTup K 2 (gCons (gName 6) (gCons (gName 7) gNil))) from pg_tup rfl (pgs_cons (pg_name (i := 6) sc_Grammar_init.nd rfl (Or.inl rfl) (Or.inr rfl)) (pgs_cons (pg_name (i := 7) sc_Grammar_init.nd rfl (Or.inl rfl) (Or.inr rfl)) pgs_nil)))) (fun _ _ _ _ _ => pts_nil) (fun _ _ _ _ _ => (pe_op op_sub (pe_dget (hu1 hr.units) (show PE _ _ (tFld K (tVar 0) "codes") from pe_fld (pv 0) rfl) (pv 6) (fun _ _ => rfl)) (pv 3)))) pa_nil)) rfl)
    (pss_cons (ps_setLc (i := 4) (own := [("name", 6), ("parts", 7)]) rfl sc_Grammar_init.nd rfl rfl (sw_true rfl rfl rfl (by decide +kernel)) (pi_tup (pe_fld (pv 0) rfl)) (blkOk_by (own := [("name", 6), ("parts", 7)]) (N := ["self", "tokens", "rules", "count", "coded", "code", "name", "parts", "part", "group"]) (sc := defScope s_Grammar_init) (by decide +kernel)) (fun _ _ _ _ _ => (show PG _ _ (gTup K 2 (gCons (gName 6) (gCons (gName 7) gNil))) from pg_tup rfl (pgs_cons (pg_name (i := 6) sc_Grammar_init.nd rfl (Or.inl rfl) (Or.inr rfl)) (pgs_cons (pg_name (i := 7) sc_Grammar_init.nd rfl (Or.inl rfl) (Or.inr rfl)) pgs_nil)))) (fun _ _ _ _ _ => pts_nil) (fun _ _ _ _ _ => (pe_callTy (show CallR _ (.type "tuple") (rTupOf K) from call_tuple_of) (by rfl) T.z_tuple (by decide +kernel) (pa_cons (pe_lc (own := [("part", 8)]) rfl sc_Grammar_init.nd (show PI _ _ _ (iTup K (tVar 7)) from pi_tup (pv 7)) (blkOk_by (own := [("part", 8)]) (N := ["self", "tokens", "rules", "count", "coded", "code", "name", "parts", "part", "group"]) (sc := _) (by rfl)) (fun _ _ _ _ _ => (pg_name (i := 8) sc_Grammar_init.nd rfl (Or.inl rfl))) (fun _ _ _ _ _ => pts_nil) (fun _ _ _ _ _ => (pe_dget (hu1 hr.units) (show PE _ _ (tFld K (tVar 0) "codes") from pe_fld (pv 0) rfl) (pv 8) (fun _ _ => rfl)))) pa_nil))))
    (pss_cons (ps_if (pt_truth (pe_call (ok_useless_rules T) (hr.mono (by decide)) (by rfl) T.m_useless_rules T.F_useless_rules.kp (B_useless_rules T) .nil pass0 (pa_cons (pv 3) (pa_cons (pe_callB call_len (by rfl) T.z_len (by decide +kernel) (pa_cons (pe_fld (pv 0) rfl) pa_nil)) (pa_cons (pe_fld (pv 0) rfl) (pa_cons (pv 4) pa_nil))))) (by intro _; rfl)) pss_never pss_nil)
    (pss_cons (ps_fld (pv 0) (pe_callTy call_tuple_of (by rfl) T.z_tuple (by decide +kernel) (pa_cons (pe_op op_cat (pv 4) (pe_lst (pa_cons (pe_tup (pa_cons (pv 3) pa_nil)) pa_nil))) pa_nil)) rfl)
    (pss_cons (ps_fld (pv 0) (pe_callTy call_tuple_of (by rfl) T.z_tuple (by decide +kernel) (pa_cons (pe_lc (own := [("group", 9)]) rfl sc_Grammar_init.nd (pi_range1 (by rfl) T.z_range (pa_cons (pe_callB call_len (by rfl) T.z_len (by decide +kernel) (pa_cons (pe_fld (pv 0) rfl) pa_nil)) pa_nil)) (blkOk_by (own := [("group", 9)]) (N := ["self", "tokens", "rules", "count", "coded", "code", "name", "parts", "part", "group"]) (sc := defScope s_Grammar_init) (by decide +kernel)) (fun _ _ _ _ _ => (pg_name (i := 9) sc_Grammar_init.nd rfl (Or.inl rfl))) (fun _ _ _ _ _ => pts_nil) (fun _ _ _ _ _ => (pe_call (ok_rules_with T) (hr.mono (by decide)) (by rfl) T.m_rules_with T.F_rules_with.kp (B_rules_with T) .nil pass0 (pa_cons (show PE _ _ (tFld K (tVar 0) "heads") from pe_fld (pv 0) rfl) (pa_cons (pv 9) pa_nil))))) pa_nil)) rfl)
    (pss_cons (ps_fld (pv 0) (pe_make T.mk_Beginnings (ok_Beginnings_init T) (hr.mono (by decide)) (by rfl) T.m_Beginnings (B_Beginnings_init T) .nil pass0 (pa_cons (pv 3) (pa_cons (pe_callB call_len (by rfl) T.z_len (by decide +kernel) (pa_cons (pe_fld (pv 0) rfl) pa_nil)) (pa_cons (pe_fld (pv 0) rfl) (pa_cons (pe_fld (pv 0) rfl) pa_nil))))) rfl)
    (pss_one (ps_fld (pv 0) pe_non rfl))))))))))))))), ?_⟩
    have tm : t ∈ ts := List.mem_of_getElem? et
    have hc : c < ts.length := (List.getElem?_eq_some_iff.mp et).1
    walk_at "wp"
    refine ⟨p, ts, rfl, hi.sm _ _ ep, by omega, tl, ots, nd, fun H1 s1 => ?_⟩
    refine ⟨_, rfl, brF rfl ?_⟩
    walk_at "wp"
    have i1 := hi.same s1
    refine ⟨p, r, rx, pa, ts, g, t, rfl, i1.sm _ _ ep, i1.sm _ _ er, o.same i1.sm, og, ots t tm, tm, gn, tl, nd, fun H2 s2 => ?_⟩
    refine ⟨_, rfl, brF rfl ?_⟩
    walk_at "wp"
    have i2 := i1.same s2
    refine ⟨p, _, rfl, .inl ⟨SqL.of (i2.sm _ _ ep), fun tk htk => ?_⟩⟩
    walk_at "wp"
    have i3 := i2.same (Same.new (o := .tup (ts.map V.str)) htk)
    refine ⟨x, _, dx, _, rfl, i3.at_, T.cl_Grammar, T.nf_Grammar_tokens, (by show (0 : Nat) < 1000; decide), ?_⟩
    have i4 := i3.put (gs := gf1 tk)
    have t4 := i3.keep (o' := .ins a.Grammar dx (gf1 tk)) (upd_same (o := .tup (ts.map V.str)) (a := tk)) (fun _ e => by cases e)
    walk_at "wp"
    refine ⟨r, _, rfl, .inl ⟨SqL.of (i4.sm _ _ er), fun rl hrl => ?_⟩⟩
    walk_at "wp"
    have i5 := i4.same (Same.new (o := .tup [.ref rx]) hrl)
    have t5 := upd_get (o := .tup [.ref rx]) hrl t4
    refine ⟨x, _, dx, _, rfl, i5.at_, T.cl_Grammar, T.nf_Grammar_rules, (by show (1 : Nat) < 1000; decide), ?_⟩
    have i6 := i5.put (gs := gf2 tk rl)
    have t6 := i5.keep (o' := .ins a.Grammar dx (gf2 tk rl)) t5 (fun _ e => by cases e)
    have r6 := i5.keep (o' := .ins a.Grammar dx (gf2 tk rl)) (upd_same (o := .tup [.ref rx]) (a := rl)) (fun _ e => by cases e)
    walk_at "wp"
    refine ⟨x, a.Grammar, dx, _, _, rfl, i6.at_, T.cl_Grammar, T.nf_Grammar_rules, rfl, ?_⟩
    refine ⟨rl, rx, pa, g, t, rfl, r6, o.same i6.sm, fun gp H7 s7 g7 => ?_⟩
    walk_at "wp"
    have i7 := i6.same s7
    refine ⟨x, _, dx, _, rfl, i7.at_, T.cl_Grammar, T.nf_Grammar_groups, (by show (2 : Nat) < 1000; decide), ?_⟩
    have i8 := i7.put (gs := gf3 tk rl gp)
    have t8 := i7.keep (o' := .ins a.Grammar dx (gf3 tk rl gp)) (s7 _ _ t6) (fun _ e => by cases e)
    have r8 := i7.keep (o' := .ins a.Grammar dx (gf3 tk rl gp)) (s7 _ _ r6) (fun _ e => by cases e)
    have g8 := i7.keep (o' := .ins a.Grammar dx (gf3 tk rl gp)) g7 (fun _ e => by cases e)
    walk_at "wp"
    refine ⟨x, a.Grammar, dx, _, _, rfl, i8.at_, T.cl_Grammar, T.nf_Grammar_tokens, rfl, ?_⟩
    walk_at "wp"
    rw [List.length_map]
    refine ⟨x, a.Grammar, dx, _, _, rfl, i8.at_, T.cl_Grammar, T.nf_Grammar_tokens, rfl, ?_⟩
    walk_at "wp"
    refine ⟨x, a.Grammar, dx, _, _, rfl, i8.at_, T.cl_Grammar, T.nf_Grammar_groups, rfl, ?_⟩
    refine ⟨tk, gp, _, _, rfl, rfl, SqT.of t8, SqT.of g8, by intro e; rw [List.map_eq_nil_iff] at e; rw [e] at hc; exact absurd hc (Nat.not_lt_zero _), le_line (by rw [List.length_map]; show _ + 1 ≤ _; omega), (fun e => nomatch e), fun _ cp hcp => ?_⟩
    have i9 := i8.same (Same.new (o := .tup (ts.map V.str ++ [.str g])) hcp)
    have t9 := upd_get (o := .tup (ts.map V.str ++ [.str g])) hcp t8
    have r9 := upd_get (o := .tup (ts.map V.str ++ [.str g])) hcp r8
    have g9 := upd_get (o := .tup (ts.map V.str ++ [.str g])) hcp g8
    have c9 : upd _ cp (.tup (ts.map V.str ++ [.str g])) cp = some (.tup (ts.map V.str ++ [.str g])) := upd_same (H := (upd H7 x (.ins a.Grammar dx (gf3 tk rl gp))))
    have nl : (ts.map V.str ++ [V.str g]).length = ts.length + 1 := by rw [List.length_append, List.length_map]; rfl
    have ng : ∀ i z, (ts.map V.str ++ [V.str g])[i]? = some z → ∃ y, (ts ++ [g])[i]? = some y ∧ z = V.str y := fun i z e => by
      rw [show ts.map V.str ++ [V.str g] = (ts ++ [g]).map V.str from by rw [List.map_append]; rfl, List.getElem?_map] at e
      obtain ⟨y, h1, h2⟩ := Option.map_eq_some_iff.mp e
      exact ⟨y, h1, h2.symm⟩
    have nn : (ts ++ [g]).Nodup := by
      rw [List.nodup_append]
      exact ⟨nd, by simp, fun y hy z hz e => by rw [List.mem_singleton.mp hz] at e; exact gn (e ▸ hy)⟩
    walk_at "wp"
    refine ⟨cp, _, rfl, SqT.of c9, fun cd hcd => dc_it walk_enumT (fun i H10 => Same _ H10 ∧ ∃ kvs, H10 cd = some (.dK kvs) ∧ kvs.length ≤ i ∧ ∀ j z, j < i → (ts ++ [g])[j]? = some z → valV kvs (.inr z) = some (.int (j : Nat))) ⟨Same.new hcd, [], upd_same, Nat.le_refl _, fun j z h => absurd h (Nat.not_lt_zero _)⟩ (fun i H10 _ h => SqT.of (h.1 _ _ c9)) (fun i y H11 H10 hi ⟨s10, kvs, e10, l10, v10⟩ ⟨b, u, v, e1, fr, eH, hu, hv⟩ => ?_) fun H10 ⟨s10, kvs, e10, l10, v10⟩ => ?_⟩
    · subst e1 eH
      cases hu
      obtain ⟨z, hz, rfl⟩ := ng i v hv
      rw [nl] at hi
      refine ⟨b, _, rfl, SqT.of upd_same, rfl, _, _, rfl, _, _, rfl, rfl, rfl, ?_⟩
      unfold tYes
      refine brT rfl ?_
      walk_at "wp"
      have nb := ne_of_none e10 fr
      refine ⟨kvs, .inr z, rfl, by rw [upd_ne nb]; exact e10, lt_line (by omega), (s10.trans (Same.new fr)).mut hcd, _, upd_same, Nat.le_trans (putK_le ..) (by omega), fun j y hj hy => ?_⟩
      rw [valV_put]
      by_cases cc : (Sum.inr y : Key) = .inr z
      · rw [if_pos cc]
        cases cc
        have := (List.getElem?_inj (by rw [List.length_append]; show j < _ + 1; omega) nn).mp (hy.trans hz.symm)
        rw [this]
      · rw [if_neg cc]
        rcases (show j < i ∨ j = i by omega) with h | rfl
        · exact v10 j y h hy
        · exact absurd (congrArg Sum.inr (Option.some.inj (hy.symm.trans hz))) cc
    · rw [nl] at v10
      have vg : valV kvs (.inr g) = some (.int (ts.length : Nat)) := v10 ts.length g (by omega) (by rw [List.getElem?_append_right (Nat.le_refl _), Nat.sub_self]; rfl)
      have vt : valV kvs (.inr t) = some (.int (c : Nat)) := v10 c t (by omega) (by rw [List.getElem?_append_left hc]; exact et)
      walk_at "wp"
      have i10 := i9.same s10
      refine ⟨x, _, dx, _, rfl, i10.at_, T.cl_Grammar, T.nf_Grammar_codes, (by show (3 : Nat) < 1000; decide), ?_⟩
      have i11 := i10.put (gs := gf4 tk rl gp cd)
      have t11 := i10.keep (o' := .ins a.Grammar dx (gf4 tk rl gp cd)) (s10 _ _ t9) (fun _ e => nomatch e)
      have r11 := i10.keep (o' := .ins a.Grammar dx (gf4 tk rl gp cd)) (s10 _ _ r9) (fun _ e => nomatch e)
      have g11 := i10.keep (o' := .ins a.Grammar dx (gf4 tk rl gp cd)) (s10 _ _ g9) (fun _ e => nomatch e)
      have d11 := i10.keep (o' := .ins a.Grammar dx (gf4 tk rl gp cd)) e10 (fun _ e => nomatch e)
      have o11 := o.same i11.sm
      walk_at "wp"
      refine ⟨x, a.Grammar, dx, _, _, rfl, i11.at_, T.cl_Grammar, T.nf_Grammar_rules, rfl, ?_⟩
      walk_at "wp"
      refine ⟨⟨_, SqT.of r11⟩, fun D hD => lcF walk_tup (fun _ => .int 0) (Nat.le_of_ble_eq_true rfl) hD (fun _ s => SqT.of (s _ _ r11)) (fun i y H12 H13 R hi s12 y2 k => ?_) fun H13 s13 e13 => ?_⟩
      · obtain ⟨rfl, hx⟩ := y2
        obtain rfl : i = 0 := by simpa using hi
        cases hx
        have i12 := i11.same s12
        have o12 := o11.same s12
        have d12 := s12 _ _ d11
        refine ⟨rx, _, rfl, SqT.of o12.x, rfl, _, _, rfl, _, _, rfl, rfl, rfl, ?_⟩
        walk_at "wp"
        refine ⟨x, a.Grammar, dx, _, _, rfl, i12.at_, T.cl_Grammar, T.nf_Grammar_codes, rfl, ?_⟩
        walk_at "wp"
        have dg := DGet.k (k := .inr g) d12
        rw [vg] at dg
        refine ⟨cd, _, rfl, dg, ?_⟩
        walk_at "wp"
        rw [show (fun i j => V.int (i - j)) (ts.length : Int) (ts.length : Int) = V.int 0 from congrArg V.int (Int.sub_self _)]
        exact k _ (.refl _)
      · have i13 := i11.same s13
        walk_at "wp"
        refine ⟨D, _, rfl, .inl ⟨SqL.of e13, fun hd hhd => ?_⟩⟩
        walk_at "wp"
        have i14 := i13.same (Same.new (o := .tup [.int 0]) hhd)
        refine ⟨x, _, dx, _, rfl, i14.at_, T.cl_Grammar, T.nf_Grammar_heads, (by show (4 : Nat) < 1000; decide), ?_⟩
        have i15 := i14.put (gs := gf5 tk rl gp cd hd)
        have mv : ∀ {p : Addr} {o : HO}, upd H10 x (HO.ins a.Grammar dx (gf4 tk rl gp cd)) p = some o → (∀ fs, o ≠ .ins a.Grammar dx fs) → upd (upd H13 hd (.tup [.int 0])) x (HO.ins a.Grammar dx (gf5 tk rl gp cd hd)) p = some o := fun e n => i14.keep (upd_get hhd (s13 _ _ e)) n
        have t15 := mv t11 (fun _ e => nomatch e)
        have r15 := mv r11 (fun _ e => nomatch e)
        have g15 := mv g11 (fun _ e => nomatch e)
        have d15 := mv d11 (fun _ e => nomatch e)
        have h15 := i14.keep (o' := .ins a.Grammar dx (gf5 tk rl gp cd hd)) (upd_same (o := .tup [.int 0]) (a := hd)) (fun _ e => nomatch e)
        have o15 := o.same i15.sm
        walk_at "wp"
        refine ⟨x, a.Grammar, dx, _, _, rfl, i15.at_, T.cl_Grammar, T.nf_Grammar_rules, rfl, ?_⟩
        walk_at "wp"
        refine ⟨⟨_, SqT.of r15⟩, fun D2 hD2 => lc_it (walk_tup (xs := [.ref rx])) (fun i H16 => Same _ H16 ∧ ((i = 0 ∧ H16 D2 = some (.lst [])) ∨ (i = 1 ∧ ∃ q, H16 D2 = some (.lst [.ref q]) ∧ H16 q = some (.tup [.int c])))) ⟨Same.new hD2, .inl ⟨rfl, upd_same⟩⟩ (fun i H5 _ g => SqT.of (g.1 _ _ r15)) (fun i y H17 H16 hi ⟨s16, z⟩ ⟨eH, hy⟩ => ?_) fun H16 ⟨s16, z⟩ => ?_⟩
        · subst eH
          obtain rfl : i = 0 := by simpa using hi
          obtain ⟨_, e16⟩ | ⟨e0, _⟩ := z
          · cases hy
            have i16 := i15.same s16
            have o16 := o15.same s16
            have d16 := s16 _ _ d15
            refine ⟨rx, _, rfl, SqT.of o16.x, rfl, _, _, rfl, _, _, rfl, rfl, rfl, ?_⟩
            refine yes_go ?_
            walk_at "wp"
            refine ⟨⟨_, SqT.of o16.pa⟩, fun D3 hD3 => lcF walk_tup (fun _ => .int c) (Nat.le_of_ble_eq_true rfl) hD3 (fun _ s => SqT.of (s _ _ o16.pa)) (fun i y H12 H13 R hi s12 y2 k => ?_) fun H17 s17 e17 => ?_⟩
            · obtain ⟨rfl, hx⟩ := y2
              obtain rfl : i = 0 := by simpa using hi
              cases hx
              have i17 := i16.same s12
              have d17 := s12 _ _ d16
              refine ⟨rfl, ?_⟩
              walk_at "wp"
              refine ⟨x, a.Grammar, dx, _, _, rfl, i17.at_, T.cl_Grammar, T.nf_Grammar_codes, rfl, ?_⟩
              walk_at "wp"
              have dt := DGet.k (k := .inr t) d17
              rw [vt] at dt
              refine ⟨cd, _, rfl, dt, ?_⟩
              exact k _ (.refl _)
            · refine ⟨D3, _, rfl, .inl ⟨SqL.of e17, fun p0 hp0 => ?_⟩⟩
              have n0 := ne_of_none (s17 _ _ e16) hp0
              refine ⟨[], by rw [upd_ne n0]; exact s17 _ _ e16, lt_line (by decide), ((s16.trans s17).trans (Same.new hp0)).mut hD2, .inr ⟨rfl, p0, upd_same, ?_⟩⟩
              rw [upd_ne (Ne.symm n0)]
              exact upd_same
          · cases e0
        · obtain ⟨e0, _⟩ | ⟨_, p0, e16, p16⟩ := z
          · cases e0
          have i16 := i15.same s16
          have h16 : Hd K H16 hd D2 p0 ts.length c := ⟨SqT.of (s16 _ _ h15), e16, p16, by omega, by omega⟩
          have t16 := s16 _ _ t15
          have r16 := s16 _ _ r15
          have g16 := s16 _ _ g15
          walk_at "wp"
          refine ⟨x, a.Grammar, dx, _, _, rfl, i16.at_, T.cl_Grammar, T.nf_Grammar_groups, rfl, ?_⟩
          walk_at "wp"
          refine ⟨x, a.Grammar, dx, _, _, rfl, i16.at_, T.cl_Grammar, T.nf_Grammar_heads, rfl, ?_⟩
          walk_at "wp"
          refine ⟨ts.length, c, hd, D2, p0, rfl, h16, fun us H18 s18 e18 => ?_⟩
          refine ⟨_, .inl ⟨_, SqL.of e18, rfl⟩, ?_⟩
          refine brF rfl ?_
          walk_at "wp"
          refine ⟨disp rfl, fun p1 hp1 => ?_⟩
          walk_at "wp"
          refine ⟨Nat.le_of_ble_eq_true rfl, fun l1 hl1 => ?_⟩
          have s19 := s18.trans ((Same.new (o := .tup [.int ts.length]) hp1).trans (Same.new (o := .lst [.ref p1]) hl1))
          refine cat_go (s19 _ _ e16) upd_same (Nat.le_of_ble_eq_true rfl) fun l2 hl2 => ?_
          have s20 := s19.trans (Same.new (o := .lst [.ref p0, .ref p1]) hl2)
          refine ⟨l2, _, rfl, .inl ⟨SqL.of upd_same, fun pt hpt => ?_⟩⟩
          have s21 := s20.trans (Same.new (o := .tup [.ref p0, .ref p1]) hpt)
          have i21 := i16.same s21
          walk_at "wp"
          refine ⟨x, _, dx, _, rfl, i21.at_, T.cl_Grammar, T.nf_Grammar_parts, (by show (5 : Nat) < 1000; decide), ?_⟩
          have i22 := i21.put (gs := gf6 tk rl gp cd hd pt)
          have mv2 : ∀ {p : Addr} {o : HO}, H16 p = some o → (∀ fs, o ≠ .ins a.Grammar dx fs) → upd _ x (HO.ins a.Grammar dx (gf6 tk rl gp cd hd pt)) p = some o := fun e n => i21.keep (s21 _ _ e) n
          have e22 : ∀ {p : Addr} {o : HO}, upd (upd (upd H18 p1 (.tup [.int ts.length])) l1 (.lst [.ref p1])) l2 (.lst [.ref p0, .ref p1]) p = some o → (∀ fs, o ≠ .ins a.Grammar dx fs) → upd _ x (HO.ins a.Grammar dx (gf6 tk rl gp cd hd pt)) p = some o := fun e n => i21.keep (upd_get hpt e) n
          have h22 : Hd2 K _ hd pt p0 p1 ts.length c := ⟨SqT.of (mv2 (s16 _ _ h15) (fun _ e => nomatch e)), i21.keep upd_same (fun _ e => nomatch e), mv2 p16 (fun _ e => nomatch e), e22 (upd_get hl2 (upd_get hl1 upd_same)) (fun _ e => nomatch e), hc, by omega⟩
          have t22 := mv2 t16 (fun _ e => nomatch e)
          have r22 := mv2 r16 (fun _ e => nomatch e)
          have g22 := mv2 g16 (fun _ e => nomatch e)
          walk_at "wp"
          refine ⟨x, a.Grammar, dx, _, _, rfl, i22.at_, T.cl_Grammar, T.nf_Grammar_groups, rfl, ?_⟩
          walk_at "wp"
          refine ⟨(by show (-2 ^ 62 : Int) ≤ 1; decide), (by show (1 : Int) < 2 ^ 62; decide), fun D4 hD4 => lc_it walk_range (fun i H23 => Same _ H23 ∧ ∃ ys, H23 D4 = some (.lst ys) ∧ ys.length ≤ i) ⟨Same.new hD4, [], upd_same, Nat.le_refl _⟩ (fun _ _ _ _ => trivial) (fun i y H24 H23 hi ⟨s23, ys, e23, l23⟩ ⟨eH, ey⟩ => ?_) fun H23 ⟨s23, ys, e23, l23⟩ => ?_⟩
          · subst eH ey
            have i0 : i = 0 := by have : i < 1 := hi; omega
            subst i0
            have i23 := i22.same s23
            refine ⟨rfl, ?_⟩
            refine yes_go ?_
            walk_at "wp"
            refine ⟨x, a.Grammar, dx, _, _, rfl, i23.at_, T.cl_Grammar, T.nf_Grammar_heads, rfl, ?_⟩
            walk_at "wp"
            refine ⟨s23.seqT h22.hd, fun p3 H24 s24 => ?_⟩
            refine ⟨ys, s24 _ _ e23, lt_line (by omega), (s23.trans s24).mut hD4, _, upd_same, ?_⟩
            rw [List.length_append]
            show _ + 1 ≤ _
            omega
          · refine ⟨D4, _, rfl, .inl ⟨SqL.of e23, fun ro hro => ?_⟩⟩
            have s24 := s23.trans (Same.new (o := .tup ys) hro)
            have i24 := i22.same s24
            walk_at "wp"
            refine ⟨x, _, dx, _, rfl, i24.at_, T.cl_Grammar, T.nf_Grammar_rules_of, (by show (6 : Nat) < 1000; decide), ?_⟩
            have i25 := i24.put (gs := gf7 tk rl gp cd hd pt ro)
            have mv3 : ∀ {p : Addr} {o : HO}, upd _ x (HO.ins a.Grammar dx (gf6 tk rl gp cd hd pt)) p = some o → (∀ fs, o ≠ .ins a.Grammar dx fs) → upd _ x (HO.ins a.Grammar dx (gf7 tk rl gp cd hd pt ro)) p = some o := fun e n => i24.keep (s24 _ _ e) n
            have h25 : Hd2 K _ hd pt p0 p1 ts.length c := ⟨SqT.of (mv3 (mv2 (s16 _ _ h15) (fun _ e => nomatch e)) (fun _ e => nomatch e)), mv3 h22.pt (fun _ e => nomatch e), mv3 h22.p0 (fun _ e => nomatch e), mv3 h22.p1 (fun _ e => nomatch e), hc, by omega⟩
            have t25 := mv3 t22 (fun _ e => nomatch e)
            have r25 := mv3 r22 (fun _ e => nomatch e)
            have g25 := mv3 g22 (fun _ e => nomatch e)
            walk_at "wp"
            refine ⟨x, a.Grammar, dx, _, _, rfl, i25.at_, T.cl_Grammar, T.nf_Grammar_groups, rfl, ?_⟩
            walk_at "wp"
            refine ⟨x, a.Grammar, dx, _, _, rfl, i25.at_, T.cl_Grammar, T.nf_Grammar_heads, rfl, ?_⟩
            walk_at "wp"
            refine ⟨x, a.Grammar, dx, _, _, rfl, i25.at_, T.cl_Grammar, T.nf_Grammar_parts, rfl, ?_⟩
            walk_at "wp"
            intro bx bd hbx hbd hne
            refine ⟨bx, hd, pt, p0, p1, ts.length, c, bd, _, rfl, Ins.start hbx hbd hne, h25, fun H26 s26 => ⟨rfl, ?_⟩⟩
            have i26 := i25.same s26
            walk_at "wp"
            refine ⟨x, _, dx, _, rfl, i26.at_, T.cl_Grammar, T.nf_Grammar_beginnings, (by show (7 : Nat) < 1000; decide), ?_⟩
            have i27 := i26.put (gs := gf8 tk rl gp cd hd pt ro bx)
            have mv4 : ∀ {p : Addr} {o : HO}, H26 p = some o → (∀ fs, o ≠ .ins a.Grammar dx fs) → upd H26 x (HO.ins a.Grammar dx (gf8 tk rl gp cd hd pt ro bx)) p = some o := fun e n => i26.keep e n
            walk_at "wp"
            refine ⟨x, _, dx, _, rfl, i27.at_, T.cl_Grammar, T.nf_Grammar_state_list, (by show (8 : Nat) < 1000; decide), ?_⟩
            have i28 := i27.put (gs := gf9 tk rl gp cd hd pt ro bx)
            have mv5 : ∀ {p : Addr} {o : HO}, H26 p = some o → (∀ fs, o ≠ .ins a.Grammar dx fs) → upd (upd H26 x (HO.ins a.Grammar dx (gf8 tk rl gp cd hd pt ro bx))) x (HO.ins a.Grammar dx (gf9 tk rl gp cd hd pt ro bx)) p = some o := fun e n => i27.keep (mv4 e n) n
            refine q _ i28.sm ⟨dx, tk, rl, gp, hd, pt, p0, p1, gf9 tk rl gp cd hd pt ro bx, _, _, _, i28.at_, rfl, mv5 (s26 _ _ t25) (fun _ e => nomatch e), by rw [List.length_map], rfl, mv5 (s26 _ _ r25) (fun _ e => nomatch e), rfl, rfl, mv5 (s26 _ _ g25) (fun _ e => nomatch e), rfl, rfl, rfl, ?_⟩
            exact ⟨SqT.of (mv5 (s26 _ _ (mv3 (mv2 (s16 _ _ h15) (fun _ e => nomatch e)) (fun _ e => nomatch e))) (fun _ e => nomatch e)), mv5 (s26 _ _ h25.pt) (fun _ e => nomatch e), mv5 (s26 _ _ h25.p0) (fun _ e => nomatch e), mv5 (s26 _ _ h25.p1) (fun _ e => nomatch e), hc, by omega⟩

/-! ### costs -/
def strC (r : List Int) (s e : Nat) (t : Int) : Int := if s = e then 1 else if t ∈ (r.drop s).take (e - s) then (e : Int) - s - 1 else (e : Int) - s
theorem cut_ints {r : List Int} {s e : Nat} (h1 : s ≤ e) (h2 : e ≤ r.length) : cutV (r.map V.int) (some (s : Int)) (some (e : Int)) = ((r.drop s).take (e - s)).map V.int := by
  unfold cutV
  rw [HT.sIx_nat, HT.sIx_nat, List.length_map, Nat.min_eq_left h2, Nat.min_eq_left (show s ≤ r.length by omega), ← List.map_drop, ← List.map_take]
theorem flat_ints (r : List Int) : (r.map V.int).all flatV = true := by
  rw [List.all_eq_true]
  intro y hy
  obtain ⟨z, _, rfl⟩ := List.mem_map.mp hy
  rfl
theorem inV_ints (r : List Int) (t : Int) : inV (.int t) (r.map V.int) = decide (t ∈ r) := by
  by_cases h : t ∈ r
  · rw [decide_eq_true h]
    unfold inV
    rw [List.any_eq_true]
    exact ⟨.int t, List.mem_map.mpr ⟨t, h, rfl⟩, by simp [eqV]⟩
  · rw [decide_eq_false h]
    unfold inV
    rw [List.any_eq_false]
    intro y hy e
    obtain ⟨z, hz, rfl⟩ := List.mem_map.mp hy
    have : z = t := by simpa [eqV] using e
    exact h (this ▸ hz)
theorem rSl_any {H : Hp} {p : Addr} {r : List Int} {s e : Nat} {Q : VK} (hp : SqL K H p (r.map V.int) ∨ SqT K H p (r.map V.int)) (se : s ≤ e) (er : e ≤ r.length)
    (k : ∀ p2 H2, Same H H2 → (SqL K H2 p2 (((r.drop s).take (e - s)).map V.int) ∨ SqT K H2 p2 (((r.drop s).take (e - s)).map V.int)) → Q (.ref p2) H2) : (fun x lo hi H Q => rSlL K x lo hi H Q ∨ rSlA K x lo hi H Q) (.ref p) (some (s : Int)) (some (e : Int)) H Q := by
  rcases hp with h | h
  · refine .inl ⟨p, _, rfl, h, fun p2 hp2 => ?_⟩
    rw [cut_ints se er]
    exact k _ _ (Same.new hp2) (.inl (SqL.of upd_same))
  · refine .inr ⟨p, _, rfl, h, fun ⟨w1, w2⟩ => ?_, fun _ p2 hp2 => ?_⟩
    · rw [HT.sIx_nat, List.length_map, Nat.min_eq_left (show s ≤ r.length by omega)] at w1
      rw [HT.sIx_nat, List.length_map, Nat.min_eq_left er] at w2
      subst w1
      refine k _ _ (.refl _) (.inr ?_)
      rw [w2, List.drop_zero, Nat.sub_zero, List.take_length]
      exact h
    · rw [cut_ints se er]
      exact k _ _ (Same.new hp2) (.inr (SqT.of upd_same))
def sp_stretch_cost (K : PySem.W.Frag) : Sp := fun vs H Q _ => ∃ (p : Addr) (r : List Int) (s e : Nat) (t : Int), vs = [.ref p, .int s, .int e, .int t] ∧ (SqL K H p (r.map V.int) ∨ SqT K H p (r.map V.int)) ∧ s ≤ e ∧ e ≤ r.length ∧ ∀ H', Same H H' → Q (.int (strC r s e t)) H'
theorem ok_stretch_cost (T : Txt K mg a) : FnOk P w K mg base CX0 1 a.stretch_cost a.stretch_cost_d ["row", "start", "end", "token"] (sp_stretch_cost K) := by
  refine T.F_stretch_cost.ok sc_stretch_cost (fun vs H Q E h => ?_) (fun cdv A outer st H vs Q E hr h => ?_)
  · obtain ⟨p, r, s, e, t, rfl, _⟩ := h
    rfl
  · obtain ⟨p, r, s, e, t, rfl, hp, se, er, q⟩ := h
    refine ⟨_, (pss_cons (ps_if (pt_cmpR op_eq (pv 1) (pv 2) (nomark _))
      (pss_one (ps_ret pe_int))
      pss_nil)
    (pss_cons (ps_set (i := 4) sc_stretch_cost.nd rfl (.inl rfl) (pe_op op_sub (pe_op op_sub (pv 2) (pv 1)) pe_int))
    (pss_one (ps_ret (pe_ifExp (pt_cmpR op_in_seq (pv 3) (pe_slice (sl_list.or sl_tupA) (pv 0) (po_some (pv 1)) (po_some (pv 2))) rfl) (pv 4) (pe_op op_add (pv 4) pe_int)))))), ?_⟩
    walk_at "wp"
    by_cases c : s = e
    · refine brT (decide_eq_true (by rw [c])) ?_
      walk_at "wp"
      have := q H (.refl _)
      unfold strC at this
      rw [if_pos c] at this
      exact this
    · refine brF (decide_eq_false (fun z => c (by have := V.int.inj z; omega))) ?_
      walk_at "wp"
      refine rSl_any hp se er fun p2 H2 s2 h2 => ?_
      refine ⟨p2, _, rfl, h2, rfl, flat_ints _, _, rfl, ?_⟩
      have qq := q H2 s2
      unfold strC at qq
      rw [if_neg c] at qq
      by_cases m : t ∈ (r.drop s).take (e - s)
      · rw [if_pos m] at qq
        refine brT ((inV_ints _ _).trans (decide_eq_true m)) ?_
        walk_at "wp"
        exact qq
      · rw [if_neg m] at qq
        refine brF ((inV_ints _ _).trans (decide_eq_false m)) ?_
        walk_at "wp"
        show Q (V.int ((e : Int) - s - 1 + 1)) H2
        rw [show (e : Int) - s - 1 + 1 = e - s by omega]
        exact qq
abbrev pf (n : Nat) (rw nm : Addr) : List (Str × V) := putF "numbers" (V.ref nm) (putF "row" (V.ref rw) (putF "count" (V.int n) []))
def sp_Prices_init (K : PySem.W.Frag) (a : Adr) : Sp := fun vs H Q _ => ∃ (x g rw nm dx : Addr) (n c : Nat) (H0 : Hp), vs = [.ref x, .ref g, .ref rw, .ref nm] ∧ Ins H0 a.Prices x dx [] H ∧ Gr K a H0 g n c ∧ ∀ H', Ins H0 a.Prices x dx (pf n rw nm) H' → Q .non H'
theorem ok_Prices_init (T : Txt K mg a) : FnOk P w K mg base CX0 1 a.Prices_init a.Prices_init_d ["self", "grammar", "row", "numbers"] (sp_Prices_init K a) := by
  refine T.F_Prices_init.ok sc_Prices_init (fun vs H Q E h => ?_) (fun cdv A outer s H vs Q E hr h => ?_)
  · obtain ⟨x, g, rw, nm, dx, n, c, H0, rfl, _⟩ := h
    rfl
  · obtain ⟨x, g, rw, nm, dx, n, c, H0, rfl, hi, hg, q⟩ := h
    obtain ⟨gx, tk, rl, gp, hd, pt, p0, p1, fs, ts, rs, gs, e1, e2, e3, e4, _⟩ := hg.same hi.sm
    refine ⟨_, (pss_cons (ps_fld (pv 0) (pe_callB call_len (by rfl) T.z_len (by decide +kernel) (pa_cons (pe_fld (pv 1) rfl) pa_nil)) rfl)
    (pss_cons (ps_fld (pv 0) (pv 2) rfl)
    (pss_one (ps_fld (pv 0) (pv 3) rfl)))), ?_⟩
    walk_at "wp"
    refine ⟨g, a.Grammar, gx, _, _, rfl, e1, T.cl_Grammar, T.nf_Grammar_tokens, e2, ?_⟩
    walk_at "wp"
    refine ⟨x, _, dx, _, rfl, hi.at_, T.cl_Prices, T.nf_Prices_count, (by show (0 : Nat) < 1000; decide), ?_⟩
    rw [e4]
    have i1 := hi.put (gs := putF "count" (V.int n) [])
    walk_at "wp"
    refine ⟨x, _, dx, _, rfl, i1.at_, T.cl_Prices, T.nf_Prices_row, (by show (1 : Nat) < 1000; decide), ?_⟩
    have i2 := i1.put (gs := putF "row" (V.ref rw) (putF "count" (V.int n) []))
    walk_at "wp"
    refine ⟨x, _, dx, _, rfl, i2.at_, T.cl_Prices, T.nf_Prices_numbers, (by show (2 : Nat) < 1000; decide), ?_⟩
    exact q _ i2.put
def sp_Prices_price (K : PySem.W.Frag) (a : Adr) : Sp := fun vs H Q _ => ∃ (x rw nm dx : Addr) (n c s e : Nat) (r : List Int), vs = [.ref x, .int c, .int s, .int e] ∧ H x = some (.ins a.Prices dx (pf n rw nm)) ∧ c < n ∧ SqT K H rw (r.map V.int) ∧ s ≤ e ∧ e ≤ r.length ∧ ∀ H', Same H H' → Q (.int (strC r s e c)) H'
theorem ok_Prices_price (T : Txt K mg a) : FnOk P w K mg base CX0 2 a.Prices_price a.Prices_price_d ["self", "code", "start", "end"] (sp_Prices_price K a) := by
  refine T.F_Prices_price.ok sc_Prices_price (fun vs H Q E h => ?_) (fun cdv A outer st H vs Q E hr h => ?_)
  · obtain ⟨x, rw, nm, dx, n, c, s, e, r, rfl, _⟩ := h
    rfl
  · obtain ⟨x, rw, nm, dx, n, c, s, e, r, rfl, ex, cn, er, se, el, q⟩ := h
    refine ⟨_, (pss_cons (ps_if (pt_cmpR op_lt (pv 1) (pe_fld (pv 0) rfl) (nomark _))
      (pss_one (ps_ret (pe_call (ok_stretch_cost T) (hr.mono (by decide)) (by rfl) T.m_stretch_cost T.F_stretch_cost.kp (B_stretch_cost T) .nil pass0 (pa_cons (pe_fld (pv 0) rfl) (pa_cons (pv 2) (pa_cons (pv 3) (pa_cons (pv 1) pa_nil)))))))
      pss_nil)
    (pss_one ps_never)), ?_⟩
    walk_at "wp"
    refine ⟨x, a.Prices, dx, _, _, rfl, ex, T.cl_Prices, T.nf_Prices_count, rfl, ?_⟩
    walk_at "wp"
    refine brT (decide_eq_true (by omega)) ?_
    walk_at "wp"
    refine ⟨x, a.Prices, dx, _, _, rfl, ex, T.cl_Prices, T.nf_Prices_row, rfl, ?_⟩
    walk_at "wp"
    exact ⟨rw, r, s, e, c, rfl, .inr er, se, el, q⟩
def sp_added : Sp := fun vs H Q _ => ∃ i j : Int, vs = [.int i, .int j] ∧ Q (.int (i + j)) H
theorem ok_added (T : Txt K mg a) : FnOk P w K mg base CX0 1 a.added a.added_d ["one", "other"] sp_added := by
  refine T.F_added.ok sc_added (fun vs H Q E h => ?_) (fun cdv A outer st H vs Q E hr h => ?_)
  · obtain ⟨i, j, rfl, _⟩ := h
    rfl
  · obtain ⟨i, j, rfl, q⟩ := h
    refine ⟨_, (pss_one (ps_ret (pe_ifExp (PW.pt (pw_or (pt_cmpR op_isN (pv 0) pe_non (nomark _)) (pw_or1 (pt_cmpR op_isN (pv 1) pe_non (nomark _))))) pe_non (pe_op op_add (pv 0) (pv 1))))), ?_⟩
    walk_at "wp"
    exact q
/-- a number or None -/
def oV : Option Int → V
  | none => .non
  | some i => .int i
def sp_lowest (K : PySem.W.Frag) : Sp := fun vs H Q _ => ∃ (p : Addr) (xs : List (Option Int)), vs = [.ref p] ∧ H p = some (.lst (xs.map oV)) ∧ xs.length ≤ 1000 ∧ ∀ H', Same H H' → ((∀ o ∈ xs, o = none) → Q .non H') ∧ ∀ M, some M ∈ xs → (∀ b, some b ∈ xs → M ≤ b) → Q (.int M) H'
theorem ok_lowest (T : Txt K mg a) : FnOk P w K mg base CX0 1 a.lowest a.lowest_d ["numbers"] (sp_lowest K) := by
  refine T.F_lowest.ok sc_lowest (fun vs H Q E h => ?_) (fun cdv A outer st H vs Q E hr h => ?_)
  · obtain ⟨p, xs, rfl, _⟩ := h
    rfl
  · obtain ⟨p, xs, rfl, ep, lx, q⟩ := h
    refine ⟨_, (pss_one (ps_ret (pe_callBK (show CallRK _ (.builtin "min") [Str.ofString "default"] (rMinD K) by exact cr_minD rfl) (by rfl) T.z_min (by decide +kernel) (pa_cons (pe_lc (own := [("number", 1)]) rfl sc_lowest.nd (pi_list (pv 0)) (blkOk_by (own := [("number", 1)]) (N := ["numbers", "number"]) (sc := defScope s_lowest) (by decide +kernel)) (fun _ _ _ _ _ => (pg_name (i := 1) sc_lowest.nd rfl (Or.inl rfl))) (fun _ _ _ _ _ => (pts_one (pt_cmpR op_notN (pv 1) pe_non (nomark _)))) (fun _ _ _ _ _ => (pv 1))) pa_nil) (pk_cons pe_non pk_nil)))), ?_⟩
    walk_at "wp"
    refine ⟨⟨_, SqL.of ep⟩, fun D hD => lc_it walk_list (fun i H3 => Same H H3 ∧ H3 D = some (.lst ((((xs.take i).filterMap id)).map V.int))) ⟨Same.new hD, upd_same⟩ (fun i H3 _ g => SqL.of (g.1 _ _ ep)) (fun i y H4 H3 hi ⟨s3, e3⟩ ⟨eH, hy⟩ => ?_) fun H3 ⟨s3, e3⟩ => ?_⟩
    · subst eH
      rw [List.getElem?_map] at hy
      obtain ⟨o, ho, rfl⟩ := Option.map_eq_some_iff.mp hy
      rw [List.length_map] at hi
      have hf : ∀ (l : List (Option Int)), l.length ≤ i → (l.filterMap id).length ≤ i := fun l h => Nat.le_trans (List.length_filterMap_le _ _) h
      refine ⟨rfl, ?_⟩
      walk_at "wp"
      cases o with
      | none =>
        refine brF rfl ⟨s3, ?_⟩
        rw [List.take_add_one, ho, List.filterMap_append, e3]
        simp
      | some i2 =>
        refine brT rfl ?_
        walk_at "wp"
        refine ⟨_, e3, ?_, s3.mut hD, ?_⟩
        · rw [List.length_map]
          refine lt_line ?_
          have := List.length_filterMap_le id (xs.take i)
          rw [List.length_take] at this
          omega
        · rw [upd_same, List.take_add_one, ho, List.filterMap_append, List.map_append]
          rfl
    · rw [List.length_map, List.take_length] at e3
      walk_at "wp"
      obtain ⟨q1, q2⟩ := q H3 s3
      refine ⟨D, _, rfl, rfl, SqL.of e3, fun z => q1 fun o ho => ?_, fun M hM hb => q2 M ?_ fun b hb2 => hb b ?_⟩
      · cases o with
        | none => rfl
        | some i =>
          have : i ∈ xs.filterMap id := List.mem_filterMap.mpr ⟨some i, ho, rfl⟩
          rw [z] at this
          cases this
      · obtain ⟨o, ho, e⟩ := List.mem_filterMap.mp hM
        cases o with
        | none => cases e
        | some i => cases e; exact ho
      · exact List.mem_filterMap.mpr ⟨some b, hb2, rfl⟩

/-! ### the table -/
abbrev tf (g rw nm pz sm : Addr) (md : Int) : List (Str × V) := putF "made" (V.int md) (putF "sums" (V.ref sm) (putF "prices" (V.ref pz) (putF "numbers" (V.ref nm) (putF "row" (V.ref rw) (putF "grammar" (V.ref g) [])))))
theorem tf_made {g rw nm pz sm : Addr} {md md' : Int} : putF "made" (V.int md') (tf g rw nm pz sm md) = tf g rw nm pz sm md' := rfl
abbrev kS (s u : Nat) : List Key := [.inl 0, .inl 0, .inl s, .inl u]
abbrev kE (s u : Nat) : List Key := [.inl 0, .inl 1, .inl s, .inl u]
abbrev kN (s u : Nat) : List Key := [.inl 0, .inl s, .inl u]
/-- all but the table's three parts stand -/
def F3 (x nm sm : Addr) (H H' : Hp) : Prop := ∀ p o, p ≠ x → p ≠ nm → p ≠ sm → H p = some o → H' p = some o
theorem F3.of {x nm sm : Addr} {H H' : Hp} (s : Same H H') : F3 x nm sm H H' := fun p o _ _ _ e => s p o e
theorem F3.trans {x nm sm : Addr} {H H' H'' : Hp} (s : F3 x nm sm H H') (t : F3 x nm sm H' H'') : F3 x nm sm H H'' := fun p o a b c e => t p o a b c (s p o a b c e)
theorem F3.put {x nm sm p : Addr} {H : Hp} {o : HO} (h : p = x ∨ p = nm ∨ p = sm) : F3 x nm sm H (upd H p o) := fun q o' a b c e => by
  rw [upd_ne (fun z => by subst z; rcases h with h | h | h <;> contradiction)]
  exact e
structure Tb (K : PySem.W.Frag) (a : Adr) (H0 : Hp) (x g rw nm pz sm : Addr) (n c : Nat) (r : List Int) (H : Hp) (md : Int) (S N : List (List Key × V)) : Prop where
  ox : H0 x = none
  om : H0 nm = none
  os : H0 sm = none
  ne : nm ≠ sm
  np : pz ≠ x
  s0 : Same H0 H
  at_ : ∃ dx, H x = some (.ins a.Tabling dx (tf g rw nm pz sm md))
  gr : Gr K a H0 g n c
  row : SqT K H0 rw (r.map V.int)
  few : r.length ≤ 6
  nm_ : H nm = some (.dT N)
  pz_ : ∃ dp, H pz = some (.ins a.Prices dp (pf n rw nm))
  sm_ : H sm = some (.dT S)
section
variable {H0 H H' : Hp} {x g rw nm pz sm p : Addr} {n c : Nat} {r : List Int} {md : Int} {S N : List (List Key × V)}
theorem Tb.same (t : Tb K a H0 x g rw nm pz sm n c r H md S N) (s : Same H H') : Tb K a H0 x g rw nm pz sm n c r H' md S N :=
  ⟨t.ox, t.om, t.os, t.ne, t.np, t.s0.trans s, t.at_.imp fun _ e => s _ _ e, t.gr, t.row, t.few, s _ _ t.nm_, t.pz_.imp fun _ e => s _ _ e, s _ _ t.sm_⟩
theorem Tb.xm (t : Tb K a H0 x g rw nm pz sm n c r H md S N) : x ≠ nm := fun e => by
  obtain ⟨dx, h⟩ := t.at_
  rw [e, t.nm_] at h
  cases h
theorem Tb.xs (t : Tb K a H0 x g rw nm pz sm n c r H md S N) : x ≠ sm := fun e => by
  obtain ⟨dx, h⟩ := t.at_
  rw [e, t.sm_] at h
  cases h
theorem Tb.pm (t : Tb K a H0 x g rw nm pz sm n c r H md S N) : pz ≠ nm := fun e => by
  obtain ⟨dx, h⟩ := t.pz_
  rw [e, t.nm_] at h
  cases h
theorem Tb.ps (t : Tb K a H0 x g rw nm pz sm n c r H md S N) : pz ≠ sm := fun e => by
  obtain ⟨dx, h⟩ := t.pz_
  rw [e, t.sm_] at h
  cases h
theorem Tb.gr_ (t : Tb K a H0 x g rw nm pz sm n c r H md S N) : ∃ (gx tk rl gp hd pt p0 p1 : Addr) (fs : List (Str × V)) (ts rs gs : List V), H g = some (.ins a.Grammar gx fs) ∧ fs.lookup ("tokens" : Str) = some (.ref tk) ∧ H tk = some (.tup ts) ∧ ts.length = n ∧ fs.lookup ("rules" : Str) = some (.ref rl) ∧ H rl = some (.tup rs) ∧ rs.length = 1 ∧ fs.lookup ("groups" : Str) = some (.ref gp) ∧ H gp = some (.tup gs) ∧ gs.length = 1 ∧
    fs.lookup ("heads" : Str) = some (.ref hd) ∧ fs.lookup ("parts" : Str) = some (.ref pt) ∧ Hd2 K H hd pt p0 p1 n c := (t.gr.same t.s0).ex
theorem Tb.cn (t : Tb K a H0 x g rw nm pz sm n c r H md S N) : c < n := by
  obtain ⟨_, _, _, _, _, _, _, _, _, _, _, _, _, _, _, _, _, _, _, _, _, _, _, _, h⟩ := t.gr_
  exact h.lt
theorem Tb.putS {S' : List (List Key × V)} (t : Tb K a H0 x g rw nm pz sm n c r H md S N) : Tb K a H0 x g rw nm pz sm n c r (upd H sm (.dT S')) md S' N :=
  ⟨t.ox, t.om, t.os, t.ne, t.np, t.s0.mut t.os, t.at_.imp fun _ e => by rw [upd_ne t.xs]; exact e, t.gr, t.row, t.few, by rw [upd_ne t.ne]; exact t.nm_, t.pz_.imp fun _ e => by rw [upd_ne t.ps]; exact e, upd_same⟩
theorem Tb.putN {N' : List (List Key × V)} (t : Tb K a H0 x g rw nm pz sm n c r H md S N) : Tb K a H0 x g rw nm pz sm n c r (upd H nm (.dT N')) md S N' :=
  ⟨t.ox, t.om, t.os, t.ne, t.np, t.s0.mut t.om, t.at_.imp fun _ e => by rw [upd_ne t.xm]; exact e, t.gr, t.row, t.few, upd_same, t.pz_.imp fun _ e => by rw [upd_ne t.pm]; exact e, by rw [upd_ne (Ne.symm t.ne)]; exact t.sm_⟩
theorem Tb.putM {md' : Int} {dx : Addr} (t : Tb K a H0 x g rw nm pz sm n c r H md S N) : Tb K a H0 x g rw nm pz sm n c r (upd H x (.ins a.Tabling dx (tf g rw nm pz sm md'))) md' S N :=
  ⟨t.ox, t.om, t.os, t.ne, t.np, t.s0.mut t.ox, ⟨dx, upd_same⟩, t.gr, t.row, t.few, by rw [upd_ne (Ne.symm t.xm)]; exact t.nm_, t.pz_.imp fun _ e => by rw [upd_ne t.np]; exact e, by rw [upd_ne (Ne.symm t.xs)]; exact t.sm_⟩
theorem Tb.lst {l : List V} (t : Tb K a H0 x g rw nm pz sm n c r H md S N) (e : H p = some (.lst l)) (f : F3 x nm sm H H') : H' p = some (.lst l) := by
  obtain ⟨dx, h⟩ := t.at_
  exact f _ _ (fun z => by rw [z, h] at e; cases e) (fun z => by rw [z, t.nm_] at e; cases e) (fun z => by rw [z, t.sm_] at e; cases e) e
theorem Tb.tup {l : List V} (t : Tb K a H0 x g rw nm pz sm n c r H md S N) (e : H p = some (.tup l)) (f : F3 x nm sm H H') : H' p = some (.tup l) := by
  obtain ⟨dx, h⟩ := t.at_
  exact f _ _ (fun z => by rw [z, h] at e; cases e) (fun z => by rw [z, t.nm_] at e; cases e) (fun z => by rw [z, t.sm_] at e; cases e) e
theorem Tb.oth {o : HO} (t : Tb K a H0 x g rw nm pz sm n c r H md S N) (e : H p = some o) (f : F3 x nm sm H H') (hi : ∀ C d fs, o ≠ .ins C d fs) (hd : ∀ k, o ≠ .dT k) : H' p = some o := by
  obtain ⟨dx, h⟩ := t.at_
  exact f _ _ (fun z => by rw [z, h] at e; exact hi _ _ _ (Option.some.inj e).symm) (fun z => by rw [z, t.nm_] at e; exact hd _ (Option.some.inj e).symm) (fun z => by rw [z, t.sm_] at e; exact hd _ (Option.some.inj e).symm) e
end
def sp_Tabling_sum_by (K : PySem.W.Frag) (a : Adr) : Sp := fun vs H Q _ => ∃ (H0 : Hp) (x g rw nm pz sm : Addr) (n c : Nat) (r : List Int) (md : Int) (S N : List (List Key × V)) (s u e : Nat) (o : Option Int), vs = [.ref x, .int 0, .int 0, .int c, .int s, .int u, .int e] ∧ Tb K a H0 x g rw nm pz sm n c r H md S N ∧
  ((valV S (kS s u) = some .non ∧ o = none) ∨ (valV S (kS s u) = some (.int 0) ∧ u ≤ e ∧ e ≤ r.length ∧ o = some (strC r u e c))) ∧ ∀ H', Same H H' → Q (oV o) H'
theorem ok_Tabling_sum_by (T : Txt K mg a) : FnOk P w K mg base CX0 3 a.Tabling_sum_by a.Tabling_sum_by_d ["self", "rule", "dot", "code", "start", "cut", "end"] (sp_Tabling_sum_by K a) := by
  refine T.F_Tabling_sum_by.ok sc_Tabling_sum_by (fun vs H Q E h => ?_) (fun cdv A outer st H vs Q E hr h => ?_)
  · obtain ⟨H0, x, g, rw, nm, pz, sm, n, c, r, md, S, N, s, u, e, o, rfl, _⟩ := h
    rfl
  · obtain ⟨H0, x, g, rw, nm, pz, sm, n, c, r, md, S, N, s, u, e, o, rfl, t, h, q⟩ := h
    obtain ⟨dx, ex⟩ := t.at_
    refine ⟨_, (pss_cons (ps_set (i := 7) sc_Tabling_sum_by.nd rfl (.inl rfl) (pe_dget (hu1 hr.units) (pe_fld (pv 0) rfl) (pe_tup (pa_cons (pv 1) (pa_cons (pv 2) (pa_cons (pv 4) (pa_cons (pv 5) pa_nil))))) (fun _ _ => rfl)))
    (pss_one (ps_ret (pe_ifExp (pt_cmpR op_isN (pv 7) pe_non (nomark _)) pe_non (pe_call (ok_added T) (hr.mono (by decide)) (by rfl) T.m_added T.F_added.kp (B_added T) .nil pass0 (pa_cons (pv 7) (pa_cons (pe_meth (pe_fld (pv 0) rfl) T.cl_Prices T.mt_Prices_price (ok_Prices_price T) (hr.mono (by decide)) (B_Prices_price T) .nil pass0 (pa_cons (pv 3) (pa_cons (pv 5) (pa_cons (pv 6) pa_nil)))) pa_nil))))))), ?_⟩
    walk_at "wp"
    refine ⟨x, a.Tabling, dx, _, _, rfl, ex, T.cl_Tabling, T.nf_Tabling_sums, rfl, ?_⟩
    walk_at "wp"
    refine ⟨disp rfl, fun kp hkp => ?_⟩
    have dg := DGet.t (k := kS s u) (upd_get (o := .tup [.int 0, .int 0, .int s, .int u]) hkp t.sm_) upd_same
    have s1 := Same.new (o := .tup [.int 0, .int 0, .int s, .int u]) hkp
    rcases h with ⟨hv, rfl⟩ | ⟨hv, ue, el, rfl⟩
    · rw [hv] at dg
      refine ⟨sm, _, rfl, dg, ?_⟩
      walk_at "wp"
      exact q _ s1
    · rw [hv] at dg
      refine ⟨sm, _, rfl, dg, ?_⟩
      walk_at "wp"
      obtain ⟨dp, ep⟩ := t.pz_
      refine ⟨x, a.Tabling, dx, _, _, rfl, s1 _ _ ex, T.cl_Tabling, T.nf_Tabling_prices, rfl, ?_⟩
      refine ⟨pz, dp, _, rfl, s1 _ _ ep, rfl, ?_⟩
      walk_at "wp"
      refine ⟨pz, rw, nm, dp, n, c, u, e, r, rfl, s1 _ _ ep, t.cn, (t.s0.trans s1).seqT t.row, ue, el, fun H2 s2 => ?_⟩
      refine ⟨0, _, rfl, ?_⟩
      rw [Int.zero_add]
      exact q _ (s1.trans s2)
def sp_Tabling_inner_sums (K : PySem.W.Frag) (a : Adr) : Sp := fun vs H Q _ => ∃ (H0 : Hp) (x g rw nm pz sm : Addr) (n c : Nat) (r : List Int) (md : Int) (S N : List (List Key × V)) (s e : Nat), vs = [.ref x, .int 0, .int s, .int e] ∧ Tb K a H0 x g rw nm pz sm n c r H md S N ∧ s ≤ e ∧ e ≤ 6 ∧
  (∀ u, s < u → u < e → valV S (kS s u) = some .non) ∧ ∀ p H', Same H H' → H' p = some (.lst [.non]) → Q (.ref p) H'
theorem ok_Tabling_inner_sums (T : Txt K mg a) : FnOk P w K mg base CX0 4 a.Tabling_inner_sums a.Tabling_inner_sums_d ["self", "rule", "start", "end"] (sp_Tabling_inner_sums K a) := by
  refine T.F_Tabling_inner_sums.ok sc_Tabling_inner_sums (fun vs H Q E h => ?_) (fun cdv A outer st H vs Q E hr h => ?_)
  · obtain ⟨H0, x, g, rw, nm, pz, sm, n, c, r, md, S, N, s, e, rfl, _⟩ := h
    rfl
  · obtain ⟨H0, x, g, rw, nm, pz, sm, n, c, r, md, S, N, s, e, rfl, t, se, e6, hu, q⟩ := h
    refine ⟨_, (pss_cons (ps_set (i := 4) sc_Tabling_inner_sums.nd rfl (.inl rfl) (pe_lst pa_nil))
    (pss_cons (ps_for PassesOwn.never rfl (pi_enumT (by rfl) T.z_enumerate (pa_cons (pe_ix ix_tup (pe_fld (pe_fld (pv 0) rfl) rfl) (pv 1) (fun _ _ => rfl)) pa_nil)) (pg_tup rfl (pgs_cons (pg_name (i := 5) sc_Tabling_inner_sums.nd rfl (.inr rfl)) (pgs_cons (pg_name (i := 6) sc_Tabling_inner_sums.nd rfl (.inr rfl)) pgs_nil)))
      (pss_one (ps_expr (pe_bm PySem.F.plainAttrs_list PySem.F.slot_list_append PySem.F.type_list_append mt_append (pv 4) (pa_cons (pe_call (ok_lowest T) (hr.mono (by decide)) (by rfl) T.m_lowest T.F_lowest.kp (B_lowest T) .nil pass0 (pa_cons (pe_lc (own := [("cut", 7)]) rfl sc_Tabling_inner_sums.nd (pi_range2 (by rfl) T.z_range (pa_cons (pe_op op_add (pv 2) pe_int) (pa_cons (pv 3) pa_nil))) (blkOk_by (own := [("cut", 7)]) (N := ["self", "rule", "start", "end", "told", "dot", "code", "cut"]) (sc := defScope s_Tabling_inner_sums) (by decide +kernel)) (fun _ _ _ _ _ => (pg_name (i := 7) sc_Tabling_inner_sums.nd rfl (Or.inl rfl))) (fun _ _ _ _ _ => pts_nil) (fun _ _ _ _ _ => (pe_meth (pv 0) T.cl_Tabling T.mt_Tabling_sum_by (ok_Tabling_sum_by T) (hr.mono (by decide)) (B_Tabling_sum_by T) .nil pass0 (pa_cons (pv 1) (pa_cons (pv 5) (pa_cons (pv 6) (pa_cons (pv 2) (pa_cons (pv 7) (pa_cons (pv 3) pa_nil))))))))) pa_nil)) pa_nil)))))
    (pss_one (ps_ret (pv 4))))), ?_⟩
    walk_at "wp"
    refine ⟨disp rfl, fun D hD => ?_⟩
    have t1 := t.same (Same.new (o := .lst []) hD)
    obtain ⟨dx, ex⟩ := t1.at_
    obtain ⟨gx, tk, rl, gp, hd, pt, p0, p1, fs, ts, rs, gs, e0, _, _, _, _, _, _, _, _, _, _, l12, h0⟩ := t.gr_
    have s1 := Same.new (o := .lst []) hD
    have e1 := s1 _ _ e0
    have h2 := h0.same s1
    walk_at "wp"
    refine ⟨x, a.Tabling, dx, _, _, rfl, ex, T.cl_Tabling, T.nf_Tabling_grammar, rfl, ?_⟩
    refine ⟨g, a.Grammar, gx, _, _, rfl, e1, T.cl_Grammar, T.nf_Grammar_parts, l12, ?_⟩
    walk_at "wp"
    refine ixT_go (SqT.of h2.pt) rfl ?_
    walk_at "wp"
    refine ⟨p0, _, rfl, SqT.of h2.p0, for_it (walk_enumT (xs := [.int c])) (fun i σ H' => ∃ (o5 o6 : Option V), σ = [some (.ref x), some (.int 0), some (.int s), some (.int e), some (.ref D), o5, o6, none] ∧ Same H H' ∧ H' D = some (.lst (if i = 0 then [] else [.non]))) ⟨none, none, rfl, Same.new hD, upd_same⟩ (fun i σ H' _ ⟨_, _, _, f, _⟩ => SqT.of (f _ _ h0.p0)) ?_ ?_⟩
    · rintro i y σ H2 H3 hi ⟨o5, o6, rfl, s2, e2⟩ ⟨b, u, v, eb, fr, eH, hu1, hv⟩
      subst eb eH
      obtain rfl : i = 0 := by simpa using hi
      cases hu1
      cases hv
      rw [if_pos rfl] at e2
      have s3 := s2.trans (Same.new (o := .tup [.int ((0 : Nat) : Int), .int c]) fr)
      have eD := upd_get (o := .tup [.int ((0 : Nat) : Int), .int c]) fr e2
      walk_at "wp"
      have kk : (((e : Int) - (s + 1)).toNat) = e - (s + 1) := by omega
      rw [kk]
      refine ⟨⟨by omega, by omega, by omega, by omega⟩, fun D2 hD2 => lcF walk_range (fun _ => .non) (by omega) hD2 (fun _ _ => trivial) (fun i y H4 H5 R hi s4 ⟨eH, ey⟩ k => ?_) fun H4 s4 e4 => ?_⟩
      · subst eH ey
        refine ⟨rfl, ?_⟩
        walk_at "wp"
        have t4 := (t.same s3).same s4
        obtain ⟨dx4, ex4⟩ := t4.at_
        refine ⟨x, dx4, _, rfl, ex4, rfl, ?_⟩
        walk_at "wp"
        exact ⟨H0, x, g, rw, nm, pz, sm, n, c, r, md, S, N, s, s + 1 + i, e, none, by rw [show ((s + 1 + i : Nat) : Int) = (s : Int) + 1 + i by omega]; rfl, t4, .inl ⟨hu _ (by omega) (by omega), rfl⟩, fun H6 s6 => k _ s6⟩
      · refine ⟨D2, List.replicate (e - (s + 1)) none, rfl, ?_, by rw [List.length_replicate]; omega, fun H5 s5 => ⟨fun _ => ?_, fun M hM => ?_⟩⟩
        · rw [e4, List.map_replicate, List.map_const', List.length_range]
          rfl
        · have eD5 := s5 _ _ (s4 _ _ eD)
          walk_at "wp"
          exact ⟨((s3.trans s4).trans s5).mut hD, upd_same⟩
        · rw [List.mem_replicate] at hM
          cases hM.2
    · rintro σ H2 ⟨o5, o6, rfl, s2, e2⟩
      walk_at "wp"
      exact q D _ s2 e2
theorem if_tC {b : Bool} {u v : V} {σ : L2.St} {H : Hp} {k : VK} (h : k (if b = true then u else v) H) : (fun (c : Bool) (H1 : Hp) => if c = true then tC u σ H1 k else tC v σ H1 k) b H := by
  cases b
  · exact h
  · exact h
def dia (s e : Nat) : V := if s = e then .int 0 else .non
theorem dia_if {s e : Nat} : (if decide (V.int s = V.int e) = true then V.int 0 else V.non) = dia s e := by
  unfold dia
  by_cases c : s = e
  · rw [c, if_pos (decide_eq_true rfl), if_pos rfl]
  · rw [if_neg c, if_neg (fun z => c (by have := V.int.inj (of_decide_eq_true z); omega))]
theorem kS_ne {s e u v : Nat} (h : e ≠ v ∨ s ≠ u) : kS s e ≠ kS u v := fun z => by
  have h1 := List.getElem?_eq_some_iff.mp ((congrArg (fun l : List Key => l[2]?) z).trans (show (kS u v)[2]? = some (.inl (u : Int)) from rfl))
  have h2 := List.getElem?_eq_some_iff.mp ((congrArg (fun l : List Key => l[3]?) z).trans (show (kS u v)[3]? = some (.inl (v : Int)) from rfl))
  obtain ⟨_, h1⟩ := h1
  obtain ⟨_, h2⟩ := h2
  have h1 : (s : Int) = u := Sum.inl.inj h1
  have h2 : (e : Int) = v := Sum.inl.inj h2
  omega
theorem kE_ne {s e u v : Nat} (h : e ≠ v ∨ s ≠ u) : kE s e ≠ kE u v := fun z => by
  have h1 := List.getElem?_eq_some_iff.mp ((congrArg (fun l : List Key => l[2]?) z).trans (show (kE u v)[2]? = some (.inl (u : Int)) from rfl))
  have h2 := List.getElem?_eq_some_iff.mp ((congrArg (fun l : List Key => l[3]?) z).trans (show (kE u v)[3]? = some (.inl (v : Int)) from rfl))
  obtain ⟨_, h1⟩ := h1
  obtain ⟨_, h2⟩ := h2
  have h1 : (s : Int) = u := Sum.inl.inj h1
  have h2 : (e : Int) = v := Sum.inl.inj h2
  omega
theorem kN_ne {s e u v : Nat} (h : e ≠ v ∨ s ≠ u) : kN s e ≠ kN u v := fun z => by
  have h1 := List.getElem?_eq_some_iff.mp ((congrArg (fun l : List Key => l[1]?) z).trans (show (kN u v)[1]? = some (.inl (u : Int)) from rfl))
  have h2 := List.getElem?_eq_some_iff.mp ((congrArg (fun l : List Key => l[2]?) z).trans (show (kN u v)[2]? = some (.inl (v : Int)) from rfl))
  obtain ⟨_, h1⟩ := h1
  obtain ⟨_, h2⟩ := h2
  have h1 : (s : Int) = u := Sum.inl.inj h1
  have h2 : (e : Int) = v := Sum.inl.inj h2
  omega
theorem kSE_ne {s e u v : Nat} : kS s e ≠ kE u v := fun z => by
  have h1 := List.getElem?_eq_some_iff.mp ((congrArg (fun l : List Key => l[1]?) z).trans (show (kE u v)[1]? = some (.inl 1) from rfl))
  obtain ⟨_, h1⟩ := h1
  have h1 : (0 : Int) = 1 := Sum.inl.inj h1
  omega
def sp_Tabling_add_up (K : PySem.W.Frag) (a : Adr) : Sp := fun vs H Q _ => ∃ (H0 : Hp) (x g rw nm pz sm : Addr) (n c : Nat) (r : List Int) (md : Int) (S N : List (List Key × V)) (s e : Nat) (p : Addr), vs = [.ref x, .int 0, .int s, .int e, .ref p] ∧ Tb K a H0 x g rw nm pz sm n c r H md S N ∧ s ≤ e ∧ e ≤ r.length ∧ H p = some (.lst [.non]) ∧
  (s ≠ e → valV S (kS s s) = some (.int 0)) ∧ S.length ≤ 1000 ∧ ∀ H', F3 x nm sm H H' → Tb K a H0 x g rw nm pz sm n c r H' md (putK (putK S (kS s e) (dia s e)) (kE s e) (.int (strC r s e c))) N → Q .non H'
theorem ok_Tabling_add_up (T : Txt K mg a) : FnOk P w K mg base CX0 4 a.Tabling_add_up a.Tabling_add_up_d ["self", "rule", "start", "end", "inner"] (sp_Tabling_add_up K a) := by
  refine T.F_Tabling_add_up.ok sc_Tabling_add_up (fun vs H Q E h => ?_) (fun cdv A outer st H vs Q E hr h => ?_)
  · obtain ⟨H0, x, g, rw, nm, pz, sm, n, c, r, md, S, N, s, e, p, rfl, _⟩ := h
    rfl
  · obtain ⟨H0, x, g, rw, nm, pz, sm, n, c, r, md, S, N, s, e, p, rfl, t, se, el, ep, hS, lS, q⟩ := h
    refine ⟨_, (pss_cons (ps_dput (hu1 hr.units) (pe_fld (pv 0) rfl) (pe_tup (pa_cons (pv 1) (pa_cons pe_int (pa_cons (pv 2) (pa_cons (pv 3) pa_nil))))) (pe_ifExp (pt_cmpR op_eq (pv 2) (pv 3) (nomark _)) pe_int pe_non) rfl)
    (pss_one (ps_for PassesOwn.never rfl (pi_enumT (by rfl) T.z_enumerate (pa_cons (pe_ix ix_tup (pe_fld (pe_fld (pv 0) rfl) rfl) (pv 1) (fun _ _ => rfl)) pa_nil)) (pg_tup rfl (pgs_cons (pg_name (i := 5) sc_Tabling_add_up.nd rfl (.inl rfl)) (pgs_cons (pg_name (i := 6) sc_Tabling_add_up.nd rfl (.inl rfl)) pgs_nil)))
      (pss_cons (ps_set (i := 7) sc_Tabling_add_up.nd rfl (.inl rfl) (pe_meth (pv 0) T.cl_Tabling T.mt_Tabling_sum_by (ok_Tabling_sum_by T) (hr.mono (by decide)) (B_Tabling_sum_by T) .nil pass0 (pa_cons (pv 1) (pa_cons (pv 5) (pa_cons (pv 6) (pa_cons (pv 2) (pa_cons (pv 2) (pa_cons (pv 3) pa_nil))))))))
      (pss_cons (ps_set (i := 8) sc_Tabling_add_up.nd rfl (.inl rfl) (pe_meth (pv 0) T.cl_Tabling T.mt_Tabling_sum_by (ok_Tabling_sum_by T) (hr.mono (by decide)) (B_Tabling_sum_by T) .nil pass0 (pa_cons (pv 1) (pa_cons (pv 5) (pa_cons (pv 6) (pa_cons (pv 2) (pa_cons (pv 3) (pa_cons (pv 3) pa_nil))))))))
      (pss_one (ps_dput (hu1 hr.units) (pe_fld (pv 0) rfl) (pe_tup (pa_cons (pv 1) (pa_cons (pe_op op_add (pv 5) pe_int) (pa_cons (pv 2) (pa_cons (pv 3) pa_nil))))) (pe_call (ok_lowest T) (hr.mono (by decide)) (by rfl) T.m_lowest T.F_lowest.kp (B_lowest T) .nil pass0 (pa_cons (pe_lst (pa_cons (pe_ix ix_list (pv 4) (pv 5) (fun _ _ => rfl)) (pa_cons (pv 7) (pa_cons (pv 8) pa_nil)))) pa_nil)) rfl))))))), ?_⟩
    obtain ⟨dx, ex⟩ := t.at_
    walk_at "wp"
    refine if_tC ?_
    rw [dia_if]
    walk_at "wp"
    refine ⟨x, a.Tabling, dx, _, _, rfl, ex, T.cl_Tabling, T.nf_Tabling_sums, rfl, ?_⟩
    walk_at "wp"
    refine ⟨disp rfl, fun k1 hk1 => ?_⟩
    have t1 := t.same (Same.new (o := .tup [.int 0, .int 0, .int s, .int e]) hk1)
    have ep1 := upd_get (o := .tup [.int 0, .int 0, .int s, .int e]) hk1 ep
    refine ⟨sm, _, rfl, DPut.t (k := kS s e) t1.sm_ upd_same (lt_line (by omega)), ?_⟩
    have t2 := t1.putS (S' := putK S (kS s e) (dia s e))
    have f2 : F3 x nm sm H _ := (F3.of (Same.new (o := .tup [.int 0, .int 0, .int s, .int e]) hk1)).trans (F3.put (p := sm) (o := .dT (putK S (kS s e) (dia s e))) (.inr (.inr rfl)))
    have ep2 := t1.lst ep1 (F3.put (p := sm) (o := .dT (putK S (kS s e) (dia s e))) (.inr (.inr rfl)))
    have vd : valV (putK S (kS s e) (dia s e)) (kS s e) = some (dia s e) := by rw [valV_put, if_pos rfl]
    have vs : valV (putK S (kS s e) (dia s e)) (kS s s) = some (.int 0) := by
      by_cases c : s = e
      · rw [c] at vd ⊢
        rw [vd, dia, if_pos rfl]
      · rw [valV_put, if_neg (kS_ne (.inl c))]
        exact hS c
    obtain ⟨dx2, ex2⟩ := t2.at_
    obtain ⟨gx, tk, rl, gp, hd, pt, p0, p1, fs, ts, rs, gs, e1, _, _, _, _, _, _, _, _, _, _, l12, h2⟩ := t2.gr_
    walk_at "wp"
    refine ⟨x, a.Tabling, dx2, _, _, rfl, ex2, T.cl_Tabling, T.nf_Tabling_grammar, rfl, ?_⟩
    refine ⟨g, a.Grammar, gx, _, _, rfl, e1, T.cl_Grammar, T.nf_Grammar_parts, l12, ?_⟩
    walk_at "wp"
    refine ixT_go (SqT.of h2.pt) rfl ?_
    walk_at "wp"
    refine ⟨p0, _, rfl, SqT.of h2.p0, for_it (walk_enumT (xs := [.int c])) (fun i σ H' => ∃ (o5 o6 o7 o8 : Option V), σ = [some (.ref x), some (.int 0), some (.int s), some (.int e), some (.ref p), o5, o6, o7, o8] ∧ F3 x nm sm H H' ∧ H' p = some (.lst [.non]) ∧ H' p0 = some (.tup [.int c]) ∧ Tb K a H0 x g rw nm pz sm n c r H' md (if i = 0 then putK S (kS s e) (dia s e) else putK (putK S (kS s e) (dia s e)) (kE s e) (.int (strC r s e c))) N) ⟨none, none, none, none, rfl, f2, ep2, h2.p0, t2⟩ (fun i σ H' _ ⟨_, _, _, _, _, _, _, f, _⟩ => SqT.of f) ?_ ?_⟩
    · rintro i y σ H2 H3 hi ⟨o5, o6, o7, o8, rfl, f3, e3, g3, t3⟩ ⟨b, u, v, eb, fr, eH, hu1, hv⟩
      subst eb eH
      obtain rfl : i = 0 := by simpa using hi
      cases hu1
      cases hv
      rw [if_pos rfl] at t3
      have s4 := Same.new (H := H2) (o := .tup [.int ((0 : Nat) : Int), .int c]) fr
      have t4 := t3.same s4
      obtain ⟨dx4, ex4⟩ := t4.at_
      walk_at "wp"
      refine ⟨x, dx4, _, rfl, ex4, rfl, ?_⟩
      walk_at "wp"
      refine ⟨H0, x, g, rw, nm, pz, sm, n, c, r, md, _, N, s, s, e, some (strC r s e c), rfl, t4, .inr ⟨vs, se, el, rfl⟩, fun H5 s5 => ?_⟩
      have t5 := t4.same s5
      obtain ⟨dx5, ex5⟩ := t5.at_
      walk_at "wp"
      refine ⟨x, dx5, _, rfl, ex5, rfl, ?_⟩
      walk_at "wp"
      have ho : ∃ o : Option Int, ((valV (putK S (kS s e) (dia s e)) (kS s e) = some .non ∧ o = none) ∨ (valV (putK S (kS s e) (dia s e)) (kS s e) = some (.int 0) ∧ e ≤ e ∧ e ≤ r.length ∧ o = some (strC r e e c))) ∧ (o = none ∨ o = some (strC r s e c)) := by
        by_cases cc : s = e
        · subst cc
          exact ⟨some _, .inr ⟨by rw [vd, dia, if_pos rfl], Nat.le_refl _, el, rfl⟩, .inr rfl⟩
        · exact ⟨none, .inl ⟨by rw [vd, dia, if_neg cc], rfl⟩, .inl rfl⟩
      obtain ⟨o, ho1, ho2⟩ := ho
      refine ⟨H0, x, g, rw, nm, pz, sm, n, c, r, md, _, N, s, e, e, o, rfl, t5, ho1, fun H6 s6 => ?_⟩
      have t6 := t5.same s6
      have e6 := s6 _ _ (s5 _ _ (s4 _ _ e3))
      walk_at "wp"
      refine ⟨Nat.le_of_ble_eq_true rfl, fun l1 hl1 => ?_⟩
      refine ⟨l1, [none, some (strC r s e c), o], rfl, upd_same, Nat.le_of_ble_eq_true rfl, fun H7 s7 => ⟨fun z => ?_, fun M hM hb => ?_⟩⟩
      · have := z (some (strC r s e c)) (by simp)
        cases this
      · obtain rfl : M = strC r s e c := by
          rcases ho2 with rfl | rfl
          · simpa using hM
          · simpa using hM
        have s67 := (Same.new (o := .lst [.non, .int (strC r s e c), oV o]) hl1).trans s7
        have t7 := t6.same s67
        obtain ⟨dx7, ex7⟩ := t7.at_
        walk_at "wp"
        refine ⟨x, a.Tabling, dx7, _, _, rfl, ex7, T.cl_Tabling, T.nf_Tabling_sums, rfl, ?_⟩
        walk_at "wp"
        refine ⟨disp rfl, fun k2 hk2 => ?_⟩
        have t8 := t7.same (Same.new (o := .tup [.int 0, .int (((0 : Nat) : Int) + 1), .int s, .int e]) hk2)
        have lP : (putK S (kS s e) (dia s e)).length ≤ 1001 := Nat.le_trans (putK_le ..) (by omega)
        refine ⟨sm, _, rfl, DPut.t (k := kE s e) t8.sm_ upd_same (lt_line (by omega)), ?_⟩
        have t9 := t8.putS (S' := putK (putK S (kS s e) (dia s e)) (kE s e) (.int (strC r s e c)))
        have fl := (F3.of (x := x) (nm := nm) (sm := sm) ((s4.trans (s5.trans (s6.trans s67))).trans (Same.new (o := .tup [.int 0, .int (((0 : Nat) : Int) + 1), .int s, .int e]) hk2))).trans (F3.put (p := sm) (o := .dT (putK (putK S (kS s e) (dia s e)) (kE s e) (.int (strC r s e c)))) (.inr (.inr rfl)))
        exact ⟨_, _, _, _, rfl, f3.trans fl, t3.lst e3 fl, t3.tup g3 fl, t9⟩
    · rintro σ H2 ⟨o5, o6, o7, o8, rfl, f3, e3, g3, t3⟩
      walk_at "wp"
      exact q _ f3 t3
def sp_Tabling_by_rule (K : PySem.W.Frag) (a : Adr) : Sp := fun vs H Q _ => ∃ (H0 : Hp) (x g rw nm pz sm : Addr) (n c : Nat) (r : List Int) (md : Int) (S N : List (List Key × V)) (s e : Nat) (v : Int), vs = [.ref x, .int 0, .int s, .int e] ∧ Tb K a H0 x g rw nm pz sm n c r H md S N ∧ valV S (kE s e) = some (.int v) ∧ ∀ H', Same H H' → Q (.int v) H'
theorem ok_Tabling_by_rule (T : Txt K mg a) : FnOk P w K mg base CX0 1 a.Tabling_by_rule a.Tabling_by_rule_d ["self", "rule", "start", "end"] (sp_Tabling_by_rule K a) := by
  refine T.F_Tabling_by_rule.ok sc_Tabling_by_rule (fun vs H Q E h => ?_) (fun cdv A outer st H vs Q E hr h => ?_)
  · obtain ⟨H0, x, g, rw, nm, pz, sm, n, c, r, md, S, N, s, e, v, rfl, _⟩ := h
    rfl
  · obtain ⟨H0, x, g, rw, nm, pz, sm, n, c, r, md, S, N, s, e, v, rfl, t, hv, q⟩ := h
    refine ⟨_, (pss_cons (ps_set (i := 4) sc_Tabling_by_rule.nd rfl (.inl rfl) (pe_callB call_len (by rfl) T.z_len (by decide +kernel) (pa_cons (pe_ix ix_tup (pe_fld (pe_fld (pv 0) rfl) rfl) (pv 1) (fun _ _ => rfl)) pa_nil)))
    (pss_one (ps_ret (pe_ifExp (pt_cmpR op_gt (pv 4) pe_int (nomark _)) (pe_dget (hu1 hr.units) (pe_fld (pv 0) rfl) (pe_tup (pa_cons (pv 1) (pa_cons (pv 4) (pa_cons (pv 2) (pa_cons (pv 3) pa_nil))))) (fun _ _ => rfl)) (pe_op op_sub (pv 3) (pv 2)))))), ?_⟩
    obtain ⟨dx, ex⟩ := t.at_
    obtain ⟨gx, tk, rl, gp, hd, pt, p0, p1, fs, ts, rs, gs, e1, _, _, _, _, _, _, _, _, _, _, l12, h2⟩ := t.gr_
    walk_at "wp"
    refine ⟨x, a.Tabling, dx, _, _, rfl, ex, T.cl_Tabling, T.nf_Tabling_grammar, rfl, ?_⟩
    refine ⟨g, a.Grammar, gx, _, _, rfl, e1, T.cl_Grammar, T.nf_Grammar_parts, l12, ?_⟩
    walk_at "wp"
    refine ixT_go (SqT.of h2.pt) rfl ?_
    have ep0 := h2.p0
    walk_at "wp"
    refine ⟨x, a.Tabling, dx, _, _, rfl, ex, T.cl_Tabling, T.nf_Tabling_sums, rfl, ?_⟩
    walk_at "wp"
    refine ⟨disp rfl, fun k1 hk1 => ?_⟩
    have dg := DGet.t (k := kE s e) (upd_get (o := .tup [.int 0, .int 1, .int s, .int e]) hk1 t.sm_) upd_same
    rw [hv] at dg
    refine ⟨sm, _, rfl, dg, ?_⟩
    exact q _ (Same.new hk1)
def sp_Tabling_lowers (K : PySem.W.Frag) (a : Adr) : Sp := fun vs H Q _ => ∃ (H0 : Hp) (x g rw nm pz sm : Addr) (n c : Nat) (r : List Int) (md : Int) (S N : List (List Key × V)) (s e : Nat) (v : Int), vs = [.ref x, .int 0, .int s, .int e] ∧ Tb K a H0 x g rw nm pz sm n c r H md S N ∧ valV S (kE s e) = some (.int v) ∧ N.length ≤ 1000 ∧
  ((valV N (kN s e) = none ∧ ∀ H', F3 x nm sm H H' → Tb K a H0 x g rw nm pz sm n c r H' md S (putK N (kN s e) (.int v)) → Q (.bl true) H') ∨ (valV N (kN s e) = some (.int v) ∧ ∀ H', Same H H' → Q (.bl false) H'))
theorem ok_Tabling_lowers (T : Txt K mg a) : FnOk P w K mg base CX0 2 a.Tabling_lowers a.Tabling_lowers_d ["self", "rule", "start", "end"] (sp_Tabling_lowers K a) := by
  refine T.F_Tabling_lowers.ok sc_Tabling_lowers (fun vs H Q E h => ?_) (fun cdv A outer st H vs Q E hr h => ?_)
  · obtain ⟨H0, x, g, rw, nm, pz, sm, n, c, r, md, S, N, s, e, v, rfl, _⟩ := h
    rfl
  · obtain ⟨H0, x, g, rw, nm, pz, sm, n, c, r, md, S, N, s, e, v, rfl, t, hv, lN, q⟩ := h
    refine ⟨_, (pss_cons (ps_set (i := 4) sc_Tabling_lowers.nd rfl (.inl rfl) (pe_meth (pv 0) T.cl_Tabling T.mt_Tabling_by_rule (ok_Tabling_by_rule T) (hr.mono (by decide)) (B_Tabling_by_rule T) .nil pass0 (pa_cons (pv 1) (pa_cons (pv 2) (pa_cons (pv 3) pa_nil)))))
    (pss_cons (ps_set (i := 5) sc_Tabling_lowers.nd rfl (.inl rfl) (pe_tup (pa_cons (pe_ix ix_tup (pe_fld (pe_fld (pv 0) rfl) rfl) (pv 1) (fun _ _ => rfl)) (pa_cons (pv 2) (pa_cons (pv 3) pa_nil)))))
    (pss_cons (ps_if (PW.pt (pw_or (pt_cmpR op_isN (pv 4) pe_non (nomark _)) (pw_or1 (PW.pt (pw_and (pt_cmp (pc_din (hu1 hr.units) (pv 5) (pe_fld (pv 0) rfl))) (pw_and1 (pt_cmpR op_le (pe_dget (hu1 hr.units) (pe_fld (pv 0) rfl) (pv 5) (fun _ _ => rfl)) (pv 4) (nomark _))))))))
      (pss_one (ps_ret pe_bl))
      pss_nil)
    (pss_cons (ps_dput (hu1 hr.units) (pe_fld (pv 0) rfl) (pv 5) (pv 4) rfl)
    (pss_one (ps_ret pe_bl)))))), ?_⟩
    obtain ⟨dx, ex⟩ := t.at_
    walk_at "wp"
    refine ⟨x, dx, _, rfl, ex, rfl, ?_⟩
    walk_at "wp"
    refine ⟨H0, x, g, rw, nm, pz, sm, n, c, r, md, S, N, s, e, v, rfl, t, hv, fun H1 s1 => ?_⟩
    have t1 := t.same s1
    obtain ⟨dx1, ex1⟩ := t1.at_
    obtain ⟨gx, tk, rl, gp, hd, pt, p0, p1, fs, ts, rs, gs, e1, _, _, _, _, _, _, _, _, _, l11, _, h2⟩ := t1.gr_
    walk_at "wp"
    refine ⟨x, a.Tabling, dx1, _, _, rfl, ex1, T.cl_Tabling, T.nf_Tabling_grammar, rfl, ?_⟩
    refine ⟨g, a.Grammar, gx, _, _, rfl, e1, T.cl_Grammar, T.nf_Grammar_heads, l11, ?_⟩
    walk_at "wp"
    refine ixT_go h2.hd rfl ?_
    walk_at "wp"
    refine ⟨disp rfl, fun kp hkp => ?_⟩
    have t2 := t1.same (Same.new (o := .tup [.int 0, .int s, .int e]) hkp)
    obtain ⟨dx2, ex2⟩ := t2.at_
    walk_at "wp"
    refine ⟨x, a.Tabling, dx2, _, _, rfl, ex2, T.cl_Tabling, T.nf_Tabling_numbers, rfl, ?_⟩
    walk_at "wp"
    have dg := DGet.t (k := kN s e) t2.nm_ upd_same
    rcases q with ⟨q1, q2⟩ | ⟨q1, q2⟩
    · rw [q1] at dg
      refine ⟨nm, _, rfl, dg, ?_⟩
      walk_at "wp"
      refine ⟨x, a.Tabling, dx2, _, _, rfl, ex2, T.cl_Tabling, T.nf_Tabling_numbers, rfl, ?_⟩
      walk_at "wp"
      refine ⟨nm, _, rfl, DPut.t (k := kN s e) t2.nm_ upd_same (lt_line (by omega)), ?_⟩
      walk_at "wp"
      exact q2 _ ((F3.of (s1.trans (Same.new hkp))).trans (F3.put (.inr (.inl rfl)))) t2.putN
    · rw [q1] at dg
      refine ⟨nm, _, rfl, dg, ?_⟩
      walk_at "wp"
      refine ⟨x, a.Tabling, dx2, _, _, rfl, ex2, T.cl_Tabling, T.nf_Tabling_numbers, rfl, ?_⟩
      walk_at "wp"
      have dg := DGet.t (k := kN s e) t2.nm_ upd_same
      rw [q1] at dg
      refine ⟨nm, _, rfl, dg, ?_⟩
      walk_at "wp"
      refine brT (decide_eq_true (Int.le_refl _)) ?_
      walk_at "wp"
      exact q2 _ (s1.trans (Same.new hkp))

/-! ### the table laid -/
def addS (S : List (List Key × V)) (s e : Nat) (v : Int) : List (List Key × V) := putK (putK S (kS s e) (dia s e)) (kE s e) (.int v)
theorem addS_S {S : List (List Key × V)} {s e : Nat} {v : Int} (u w : Nat) : valV (addS S s e v) (kS u w) = if u = s ∧ w = e then some (dia s e) else valV S (kS u w) := by
  unfold addS
  rw [valV_put, if_neg kSE_ne, valV_put]
  by_cases h : u = s ∧ w = e
  · obtain ⟨rfl, rfl⟩ := h
    rw [if_pos rfl, if_pos ⟨rfl, rfl⟩]
  · rw [if_neg (kS_ne (by omega)), if_neg h]
theorem addS_E {S : List (List Key × V)} {s e : Nat} {v : Int} : valV (addS S s e v) (kE s e) = some (.int v) := by
  unfold addS
  rw [valV_put, if_pos rfl]
theorem addS_len {S : List (List Key × V)} {s e : Nat} {v : Int} : (addS S s e v).length ≤ S.length + 2 := Nat.le_trans (putK_le ..) (by have := putK_le S (kS s e) (dia s e); omega)
def sp_Tabling_lay (K : PySem.W.Frag) (a : Adr) : Sp := fun vs H Q _ => ∃ (H0 : Hp) (x g rw nm pz sm : Addr) (n c : Nat) (r : List Int) (md : Int) (S N : List (List Key × V)) (s e : Nat), vs = [.ref x, .int s, .int e] ∧ Tb K a H0 x g rw nm pz sm n c r H md S N ∧ s ≤ e ∧ e ≤ r.length ∧ (∀ u, s ≤ u → u < e → valV S (kS s u) = some (dia s u)) ∧ valV N (kN s e) = none ∧ S.length ≤ 900 ∧ N.length ≤ 900 ∧
  ∀ H' S' md', F3 x nm sm H H' → Tb K a H0 x g rw nm pz sm n c r H' md' S' (putK N (kN s e) (.int (strC r s e c))) → (∀ u v, valV S' (kS u v) = if u = s ∧ v = e then some (dia s e) else valV S (kS u v)) → S'.length ≤ S.length + 4 → Q .non H'
theorem ok_Tabling_lay (T : Txt K mg a) : FnOk P w K mg base CX0 5 a.Tabling_lay a.Tabling_lay_d ["self", "start", "end"] (sp_Tabling_lay K a) := by
  refine T.F_Tabling_lay.ok sc_Tabling_lay (fun vs H Q E h => ?_) (fun cdv A outer st H vs Q E hr h => ?_)
  · obtain ⟨H0, x, g, rw, nm, pz, sm, n, c, r, md, S, N, s, e, rfl, _⟩ := h
    rfl
  · obtain ⟨H0, x, g, rw, nm, pz, sm, n, c, r, md, S, N, s, e, rfl, t, se, el, hS, hN, lS, lN, q⟩ := h
    refine ⟨_, (pss_cons (ps_set (i := 3) sc_Tabling_lay.nd rfl (.inl rfl) (pe_callTy cr_range1 (by rfl) T.z_range (by decide +kernel) (pa_cons (pe_callB call_len (by rfl) T.z_len (by decide +kernel) (pa_cons (pe_fld (pe_fld (pv 0) rfl) rfl) pa_nil)) pa_nil)))
    (pss_cons (ps_setLc (i := 4) (own := [("rule", 5)]) rfl sc_Tabling_lay.nd rfl rfl (sw_true rfl rfl rfl (by decide +kernel)) (pi_rng (pv 3)) (blkOk_by (own := [("rule", 5)]) (N := ["self", "start", "end", "rules", "inner", "rule", "again"]) (sc := defScope s_Tabling_lay) (by decide +kernel)) (fun _ _ _ _ _ => (pg_name (i := 5) sc_Tabling_lay.nd rfl (Or.inl rfl))) (fun _ _ _ _ _ => pts_nil) (fun _ _ _ _ _ => (pe_meth (pv 0) T.cl_Tabling T.mt_Tabling_inner_sums (ok_Tabling_inner_sums T) (hr.mono (by decide)) (B_Tabling_inner_sums T) .nil pass0 (pa_cons (pv 5) (pa_cons (pv 1) (pa_cons (pv 2) pa_nil))))))
    (pss_cons (ps_if (pt_cmp (pc_din (hu1 hr.units) (pe_tup (pa_cons pe_int (pa_cons (pv 1) (pa_cons (pv 2) pa_nil)))) (pe_fld (pv 0) rfl))) pss_never pss_nil)
    (pss_cons (ps_fldaug (pv 0) (pe_callB call_len (by rfl) T.z_len (by decide +kernel) (pa_cons (pe_fld (pe_fld (pv 0) rfl) rfl) pa_nil)) in_add)
    (pss_cons (ps_set (i := 6) sc_Tabling_lay.nd rfl (.inl rfl) pe_bl)
    (pss_one (ps_while PassesOwn.never (pt_val (pv 6))
      (pss_cons (ps_set (i := 6) sc_Tabling_lay.nd rfl (.inl rfl) pe_bl)
      (pss_one (ps_for PassesOwn.never rfl (pi_rng (pv 3)) (pg_name (i := 5) sc_Tabling_lay.nd rfl (.inl rfl))
        (pss_cons (ps_expr (pe_meth (pv 0) T.cl_Tabling T.mt_Tabling_add_up (ok_Tabling_add_up T) (hr.mono (by decide)) (B_Tabling_add_up T) .nil pass0 (pa_cons (pv 5) (pa_cons (pv 1) (pa_cons (pv 2) (pa_cons (pe_ix ix_list (pv 4) (pv 5) (fun _ _ => rfl)) pa_nil))))))
        (pss_one (ps_if (pt_val (pe_meth (pv 0) T.cl_Tabling T.mt_Tabling_lowers (ok_Tabling_lowers T) (hr.mono (by decide)) (B_Tabling_lowers T) .nil pass0 (pa_cons (pv 5) (pa_cons (pv 1) (pa_cons (pv 2) pa_nil)))))
          (pss_one (ps_set (i := 6) sc_Tabling_lay.nd rfl (.inl rfl) pe_bl))
          pss_nil))))))))))))), ?_⟩
    obtain ⟨dx, ex⟩ := t.at_
    obtain ⟨gx, tk, rl, gp, hd, pt, p0, p1, fs, ts, rs, gs, e1, _, _, _, e5, e6, e7, e8, e9, e10, _, _, h2⟩ := t.gr_
    walk_at "wp"
    refine ⟨x, a.Tabling, dx, _, _, rfl, ex, T.cl_Tabling, T.nf_Tabling_grammar, rfl, ?_⟩
    refine ⟨g, a.Grammar, gx, _, _, rfl, e1, T.cl_Grammar, T.nf_Grammar_rules, e5, ?_⟩
    walk_at "wp"
    rw [e7]
    intro rp hrp
    have s1 := Same.new (o := .rng 0 ((1 : Nat) : Int)) hrp
    have t1 := t.same s1
    walk_at "wp"
    refine ⟨rp, 0, ((1 : Nat) : Int), rfl, upd_same, ⟨by decide, by decide, by decide, by decide⟩, fun D hD => ?_⟩
    rw [show (((1 : Nat) : Int) - 0).toNat = 1 from rfl]
    refine lc_it walk_range (fun i H5 => Same (upd H rp (.rng 0 ((1 : Nat) : Int))) H5 ∧ ((i = 0 ∧ H5 D = some (.lst [])) ∨ (i = 1 ∧ ∃ l, H5 D = some (.lst [.ref l]) ∧ H5 l = some (.lst [.non])))) ⟨Same.new hD, .inl ⟨rfl, upd_same⟩⟩ (fun _ _ _ _ => trivial) (fun i y H5 H6 hi ⟨s5, z⟩ ⟨eH, hy⟩ => ?_) fun H5 ⟨s5, z⟩ => ?_
    · subst eH hy
      obtain rfl : i = 0 := by omega
      obtain ⟨_, e5⟩ | ⟨e0, _⟩ := z
      · refine ⟨rfl, ?_⟩
        have t5 := t1.same s5
        obtain ⟨dx5, ex5⟩ := t5.at_
        walk_at "wp"
        refine ⟨x, dx5, _, rfl, ex5, rfl, ?_⟩
        walk_at "wp"
        refine ⟨H0, x, g, rw, nm, pz, sm, n, c, r, md, S, N, s, e, rfl, t5, se, Nat.le_trans el t.few, fun u u1 u2 => by rw [hS u (by omega) u2, dia, if_neg (by omega)], fun l H7 s7 e7 => ?_⟩
        refine ⟨[], s7 _ _ e5, lt_line (by decide), (s5.trans s7).mut hD, .inr ⟨rfl, l, upd_same, ?_⟩⟩
        rw [upd_ne (fun z => by rw [z, s7 _ _ e5] at e7; cases e7)]
        exact e7
      · cases e0
    · obtain ⟨e0, _⟩ | ⟨_, l, e5, e6⟩ := z
      · cases e0
      have t5 := t1.same s5
      obtain ⟨dx5, ex5⟩ := t5.at_
      walk_at "wp"
      refine ⟨disp rfl, fun kp hkp => ?_⟩
      have s6 := (s1.trans s5).trans (Same.new (o := .tup [.int 0, .int s, .int e]) hkp)
      have t6 := t5.same (Same.new (o := .tup [.int 0, .int s, .int e]) hkp)
      obtain ⟨dx6, ex6⟩ := t6.at_
      walk_at "wp"
      refine ⟨x, a.Tabling, dx6, _, _, rfl, ex6, T.cl_Tabling, T.nf_Tabling_numbers, rfl, ?_⟩
      walk_at "wp"
      have dg := DGet.t (k := kN s e) t6.nm_ upd_same
      rw [hN] at dg
      refine ⟨nm, _, rfl, dg, ?_⟩
      walk_at "wp"
      obtain ⟨gx6, tk6, rl6, gp6, hd6, pt6, p06, p16, fs6, ts6, rs6, gs6, f1, _, _, _, _, _, _, f8, f9, f10, _, _, h6⟩ := t6.gr_
      refine ⟨x, a.Tabling, dx6, _, _, rfl, ex6, T.cl_Tabling, T.nf_Tabling_made, rfl, ?_⟩
      walk_at "wp"
      refine ⟨x, a.Tabling, dx6, _, _, rfl, ex6, T.cl_Tabling, T.nf_Tabling_grammar, rfl, ?_⟩
      refine ⟨g, a.Grammar, gx6, _, _, rfl, f1, T.cl_Grammar, T.nf_Grammar_groups, f8, ?_⟩
      walk_at "wp"
      rw [f10]
      refine ⟨dx6, _, ex6, (by show (6 : Nat) < 1000; decide), ?_⟩
      have t7 := t6.putM (md' := md + ((1 : Nat) : Int)) (dx := dx6)
      have f7 : F3 x nm sm _ _ := F3.put (H := upd H5 kp (.tup [.int 0, .int s, .int e])) (o := .ins a.Tabling dx6 (tf g rw nm pz sm (md + ((1 : Nat) : Int)))) (.inl rfl)
      have eD7 := t6.oth (upd_get hkp e5) f7 (fun _ _ _ z => by cases z) (fun _ z => by cases z)
      have el7 := t6.oth (upd_get hkp e6) f7 (fun _ _ _ z => by cases z) (fun _ z => by cases z)
      have er7 := t6.oth (upd_get hkp (s5 _ _ upd_same)) f7 (fun _ _ _ z => by cases z) (fun _ z => by cases z)
      have f70 := (F3.of s6).trans f7
      walk_at "wp"
      refine ⟨fun m σ H' => ∃ (ag : Bool) (S' N' : List (List Key × V)) (o5 : Option V), σ = [some (.ref x), some (.int s), some (.int e), some (.ref rp), some (.ref D), o5, some (.bl ag)] ∧ F3 x nm sm H H' ∧ Tb K a H0 x g rw nm pz sm n c r H' (md + ((1 : Nat) : Int)) S' N' ∧ H' D = some (.lst [.ref l]) ∧ H' l = some (.lst [.non]) ∧ H' rp = some (.rng 0 ((1 : Nat) : Int)) ∧
        ((ag = true ∧ ((m = 2 ∧ S' = S ∧ N' = N) ∨ (m = 1 ∧ S' = addS S s e (strC r s e c) ∧ N' = putK N (kN s e) (.int (strC r s e c))))) ∨ (ag = false ∧ m = 0 ∧ S' = addS (addS S s e (strC r s e c)) s e (strC r s e c) ∧ N' = putK N (kN s e) (.int (strC r s e c)))), ⟨2, true, S, N, none, rfl, f70, t7, eD7, el7, er7, .inl ⟨rfl, .inl ⟨rfl, rfl, rfl⟩⟩⟩, ?_⟩
      rintro m σ H1 ⟨ag, S', N', o5, rfl, f8, t8, eD8, el8, er8, hm⟩
      walk_at "wp"
      rcases hm with ⟨rfl, hm⟩ | ⟨rfl, rfl, rfl, rfl⟩
      · refine brT rfl ?_
        have hS8 : (s ≠ e → valV S' (kS s s) = some (.int 0)) ∧ S'.length ≤ 1000 ∧ N'.length ≤ 1000 := by
          refine ⟨fun ne => ?_, ?_⟩
          · rcases hm with ⟨_, rfl, _⟩ | ⟨_, rfl, _⟩
            · rw [hS s (Nat.le_refl _) (by omega), dia, if_pos rfl]
            · rw [addS_S, if_neg (fun z => ne z.2), hS s (Nat.le_refl _) (by omega), dia, if_pos rfl]
          · rcases hm with ⟨_, rfl, rfl⟩ | ⟨_, rfl, rfl⟩
            · omega
            · have := addS_len (S := S) (s := s) (e := e) (v := strC r s e c)
              have := putK_le N (kN s e) (.int (strC r s e c))
              omega
        refine ⟨fun σ' H' => ∃ m', m' < m ∧ ∃ (ag : Bool) (S' N' : List (List Key × V)) (o5 : Option V), σ' = [some (.ref x), some (.int s), some (.int e), some (.ref rp), some (.ref D), o5, some (.bl ag)] ∧ F3 x nm sm H H' ∧ Tb K a H0 x g rw nm pz sm n c r H' (md + ((1 : Nat) : Int)) S' N' ∧ H' D = some (.lst [.ref l]) ∧ H' l = some (.lst [.non]) ∧ H' rp = some (.rng 0 ((1 : Nat) : Int)) ∧
          ((ag = true ∧ ((m' = 2 ∧ S' = S ∧ N' = N) ∨ (m' = 1 ∧ S' = addS S s e (strC r s e c) ∧ N' = putK N (kN s e) (.int (strC r s e c))))) ∨ (ag = false ∧ m' = 0 ∧ S' = addS (addS S s e (strC r s e c)) s e (strC r s e c) ∧ N' = putK N (kN s e) (.int (strC r s e c)))), fun _ _ h => h, ?_⟩
        walk_at "wp"
        refine ⟨rp, 0, ((1 : Nat) : Int), rfl, er8, ⟨by decide, by decide, by decide, by decide⟩, ?_⟩
        rw [show (((1 : Nat) : Int) - 0).toNat = 1 from rfl]
        refine for_range (lo := 0) (n := 1) (fun i σ H' => (i = 0 ∧ σ = [some (.ref x), some (.int s), some (.int e), some (.ref rp), some (.ref D), o5, some (.bl false)] ∧ H' = H1) ∨ (i = 1 ∧ ∃ m', m' < m ∧ ∃ (ag : Bool) (S' N' : List (List Key × V)) (o5 : Option V), σ = [some (.ref x), some (.int s), some (.int e), some (.ref rp), some (.ref D), o5, some (.bl ag)] ∧ F3 x nm sm H H' ∧ Tb K a H0 x g rw nm pz sm n c r H' (md + ((1 : Nat) : Int)) S' N' ∧ H' D = some (.lst [.ref l]) ∧ H' l = some (.lst [.non]) ∧ H' rp = some (.rng 0 ((1 : Nat) : Int)) ∧
          ((ag = true ∧ ((m' = 2 ∧ S' = S ∧ N' = N) ∨ (m' = 1 ∧ S' = addS S s e (strC r s e c) ∧ N' = putK N (kN s e) (.int (strC r s e c))))) ∨ (ag = false ∧ m' = 0 ∧ S' = addS (addS S s e (strC r s e c)) s e (strC r s e c) ∧ N' = putK N (kN s e) (.int (strC r s e c)))))) (.inl ⟨rfl, rfl, rfl⟩) ?_ ?_
        · rintro i σ H2 hi (⟨rfl, rfl, rfl⟩ | ⟨rfl, _⟩)
          · obtain ⟨dx8, ex8⟩ := t8.at_
            walk_at "wp"
            refine ⟨x, dx8, _, rfl, ex8, rfl, ?_⟩
            walk_at "wp"
            refine ⟨H0, x, g, rw, nm, pz, sm, n, c, r, _, S', N', s, e, l, rfl, t8, se, el, el8, hS8.1, hS8.2.1, fun H3 f3 t9 => ?_⟩
            have t9 : Tb K a H0 x g rw nm pz sm n c r H3 (md + ((1 : Nat) : Int)) (addS S' s e (strC r s e c)) N' := t9
            have eD9 := t8.oth eD8 f3 (fun _ _ _ z => by cases z) (fun _ z => by cases z)
            have el9 := t8.oth el8 f3 (fun _ _ _ z => by cases z) (fun _ z => by cases z)
            have er9 := t8.oth er8 f3 (fun _ _ _ z => by cases z) (fun _ z => by cases z)
            obtain ⟨dx9, ex9⟩ := t9.at_
            walk_at "wp"
            refine ⟨x, dx9, _, rfl, ex9, rfl, ?_⟩
            walk_at "wp"
            refine ⟨H0, x, g, rw, nm, pz, sm, n, c, r, _, _, N', s, e, strC r s e c, rfl, t9, addS_E, hS8.2.2, ?_⟩
            rcases hm with ⟨rfl, rfl, rfl⟩ | ⟨rfl, rfl, rfl⟩
            · refine .inl ⟨hN, fun H4 f4 t10 => ?_⟩
              walk_at "wp"
              exact .inr ⟨rfl, 1, by decide, true, _, _, _, rfl, (f8.trans f3).trans f4, t10, t9.oth eD9 f4 (fun _ _ _ z => by cases z) (fun _ z => by cases z), t9.oth el9 f4 (fun _ _ _ z => by cases z) (fun _ z => by cases z), t9.oth er9 f4 (fun _ _ _ z => by cases z) (fun _ z => by cases z), .inl ⟨rfl, .inr ⟨rfl, rfl, rfl⟩⟩⟩
            · refine .inr ⟨by rw [valV_put, if_pos rfl], fun H4 s4 => ?_⟩
              walk_at "wp"
              exact .inr ⟨rfl, 0, by decide, false, _, _, _, rfl, (f8.trans f3).trans (F3.of s4), t9.same s4, s4 _ _ eD9, s4 _ _ el9, s4 _ _ er9, .inr ⟨rfl, rfl, rfl, rfl⟩⟩
          · omega
        · rintro σ H2 (⟨z, _⟩ | ⟨_, h⟩)
          · cases z
          · exact h
      · refine brF rfl ?_
        walk_at "wp"
        refine q _ _ _ f8 t8 (fun u v => ?_) ?_
        · rw [addS_S, addS_S]
          by_cases z : u = s ∧ v = e
          · rw [if_pos z, if_pos z]
          · rw [if_neg z, if_neg z]
        · have h1 := addS_len (S := S) (s := s) (e := e) (v := strC r s e c)
          have h2 := addS_len (S := addS S s e (strC r s e c)) (s := s) (e := e) (v := strC r s e c)
          omega
theorem cast_same {H : Hp} {kn D : Addr} {o : HO} (ek : H kn = some (.dK [])) (hD : upd H kn o D = none) : Same H (upd (upd (upd (upd H kn o) D (.dK [])) kn (.dK [])) D (.dT [])) := fun p u e => by
  obtain ⟨hD0, nD⟩ := upd_free2 hD
  have pD : p ≠ D := ne_of_none e hD0
  rw [upd_ne pD]
  by_cases pk : p = kn
  · subst pk
    rw [upd_same]
    exact ek.symm.trans e
  · rw [upd_ne pk, upd_ne pD, upd_ne pk]
    exact e
theorem free_same {H H' : Hp} {p : Addr} (s : Same H H') (n : H' p = none) : H p = none := by
  cases h : H p with
  | none => rfl
  | some o => rw [s _ _ h] at n; cases n
/-- the stretches laid so far: all narrower ones, and of this width those that start ahead of i -/
def Ld (L w i s u : Nat) : Prop := s ≤ u ∧ u ≤ L ∧ (u - s < w ∨ (u - s = w ∧ s < i))
def LT (S N : List (List Key × V)) (r : List Int) (c : Int) (w i : Nat) : Prop := (∀ s u, Ld r.length w i s u → valV S (kS s u) = some (dia s u) ∧ valV N (kN s u) = some (.int (strC r s u c))) ∧ (∀ s u, ¬ Ld r.length w i s u → valV N (kN s u) = none) ∧ S.length ≤ 4 * (7 * w + i) ∧ N.length ≤ 7 * w + i
theorem LT_0 {r : List Int} {c : Int} : LT [] [] r c 0 0 := ⟨fun s u z => by obtain ⟨_, _, z⟩ := z; omega, fun _ _ _ => rfl, Nat.le_refl _, Nat.le_refl _⟩
theorem LT.next {S S' N : List (List Key × V)} {r : List Int} {c : Int} {w i : Nat} (l : LT S N r c w i) (hi : i + w ≤ r.length) (h : ∀ u v, valV S' (kS u v) = if u = i ∧ v = i + w then some (dia i (i + w)) else valV S (kS u v)) (hl : S'.length ≤ S.length + 4) : LT S' (putK N (kN i (i + w)) (.int (strC r i (i + w) c))) r c w (i + 1) := by
  obtain ⟨l1, l2, l3, l4⟩ := l
  refine ⟨fun s u z => ?_, fun s u z => ?_, by omega, Nat.le_trans (putK_le ..) (by omega)⟩
  · by_cases e : s = i ∧ u = i + w
    · obtain ⟨rfl, rfl⟩ := e
      rw [h, if_pos ⟨rfl, rfl⟩, valV_put, if_pos rfl]
      exact ⟨rfl, rfl⟩
    · rw [h, if_neg e, valV_put, if_neg (kN_ne (by omega))]
      refine l1 s u ?_
      obtain ⟨z1, z2, z3⟩ := z
      refine ⟨z1, z2, ?_⟩
      omega
  · have e : ¬ (s = i ∧ u = i + w) := fun e => z ⟨by omega, by omega, .inr ⟨by omega, by omega⟩⟩
    rw [valV_put, if_neg (kN_ne (by omega))]
    refine l2 s u fun y => z ?_
    obtain ⟨z1, z2, z3⟩ := y
    exact ⟨z1, z2, by omega⟩
theorem LT.row {S N : List (List Key × V)} {r : List Int} {c : Int} {w : Nat} (l : LT S N r c w (r.length + 1 - w)) (hw : w ≤ r.length) (lr : r.length ≤ 6) : LT S N r c (w + 1) 0 := by
  obtain ⟨l1, l2, l3, l4⟩ := l
  refine ⟨fun s u z => l1 s u ?_, fun s u z => l2 s u fun y => z ?_, by omega, by omega⟩
  · obtain ⟨z1, z2, z3⟩ := z
    exact ⟨z1, z2, by omega⟩
  · obtain ⟨z1, z2, z3⟩ := y
    exact ⟨z1, z2, by omega⟩
def sp_Tabling_init (K : PySem.W.Frag) (a : Adr) : Sp := fun vs H Q _ => ∃ (x g rw kn dx : Addr) (n c : Nat) (r : List Int) (H0 : Hp), vs = [.ref x, .ref g, .ref rw, .ref kn] ∧ Ins H0 a.Tabling x dx [] H ∧ Gr K a H0 g n c ∧ SqT K H0 rw (r.map V.int) ∧ r.length ≤ 6 ∧ H0 kn = some (.dK []) ∧
  ∀ H' nm pz sm md S N, Tb K a H0 x g rw nm pz sm n c r H' md S N → valV N (kN 0 r.length) = some (.int (strC r 0 r.length c)) → Q .non H'
theorem ok_Tabling_init (T : Txt K mg a) : FnOk P w K mg base CX0 6 a.Tabling_init a.Tabling_init_d ["self", "grammar", "row", "known"] (sp_Tabling_init K a) := by
  refine T.F_Tabling_init.ok sc_Tabling_init (fun vs H Q E h => ?_) (fun cdv A outer st H vs Q E hr h => ?_)
  · obtain ⟨x, g, rw, kn, dx, n, c, r, H0, rfl, _⟩ := h
    rfl
  · obtain ⟨x, g, rw, kn, dx, n, c, r, H0, rfl, i0, hg, hr0, lr, ek, q⟩ := h
    refine ⟨_, (pss_cons (ps_fld (pv 0) (pv 1) rfl)
    (pss_cons (ps_fld (pv 0) (pv 2) rfl)
    (pss_cons (ps_fld (pv 0) (pe_castT (pe_lock (pe_dc (own := [("key", 6)]) rfl sc_Tabling_init.nd (pi_keys (pv 3)) (blkOk_by (own := [("key", 6)]) (N := ["self", "grammar", "row", "known", "width", "start", "key"]) (sc := defScope s_Tabling_init) (by decide +kernel)) (fun _ _ _ _ _ => (pg_name (i := 6) sc_Tabling_init.nd rfl (Or.inl rfl))) (fun _ _ _ _ _ => pts_nil) (fun _ _ _ _ _ => (pv 6)) (fun _ _ _ _ _ => (pe_dget (hu1 hr.units) (pv 3) (pv 6) (fun _ _ => rfl)))))) rfl)
    (pss_cons (ps_fld (pv 0) (pe_make T.mk_Prices (ok_Prices_init T) (hr.mono (by decide)) (by rfl) T.m_Prices (B_Prices_init T) .nil pass0 (pa_cons (pv 1) (pa_cons (pv 2) (pa_cons (pe_fld (pv 0) rfl) pa_nil)))) rfl)
    (pss_cons (ps_fld (pv 0) pe_dnewT rfl)
    (pss_cons (ps_fld (pv 0) pe_int rfl)
    (pss_one (ps_for PassesOwn.never rfl (pi_range1 (by rfl) T.z_range (pa_cons (pe_op op_add (pe_callB call_len (by rfl) T.z_len (by decide +kernel) (pa_cons (pv 2) pa_nil)) pe_int) pa_nil)) (pg_name (i := 4) sc_Tabling_init.nd rfl (.inl rfl))
      (pss_one (ps_for PassesOwn.never rfl (pi_range1 (by rfl) T.z_range (pa_cons (pe_op op_sub (pe_op op_add (pe_callB call_len (by rfl) T.z_len (by decide +kernel) (pa_cons (pv 2) pa_nil)) pe_int) (pv 4)) pa_nil)) (pg_name (i := 5) sc_Tabling_init.nd rfl (.inl rfl))
        (pss_one (ps_expr (pe_meth (pv 0) T.cl_Tabling T.mt_Tabling_lay (ok_Tabling_lay T) (hr.mono (by decide)) (B_Tabling_lay T) .nil pass0 (pa_cons (pv 5) (pa_cons (pe_op op_add (pv 5) (pv 4)) pa_nil))))))))))))))), ?_⟩
    walk_at "wp"
    refine ⟨x, _, dx, _, rfl, i0.at_, T.cl_Tabling, T.nf_Tabling_grammar, by decide, ?_⟩
    have i1 := i0.put (gs := putF "grammar" (V.ref g) [])
    walk_at "wp"
    refine ⟨x, _, dx, _, rfl, i1.at_, T.cl_Tabling, T.nf_Tabling_row, (by show (1 : Nat) < 1000; decide), ?_⟩
    have i2 := i1.put (gs := putF "row" (V.ref rw) (putF "grammar" (V.ref g) []))
    walk_at "wp"
    have ek2 := i2.sm _ _ ek
    refine ⟨kn, _, ek2, trivial, fun od => ?_⟩
    walk_at "wp"
    refine ⟨kn, od, rfl, .inl ⟨[], upd_same, fun D hD => dc_it walk_keys (fun i H' => H' = upd (upd _ kn (.frz od (.dK []))) D (.dK [])) rfl (fun i H' _ e => by rw [e]; exact upd_get hD upd_same) (fun i y Hn Hk hi => absurd hi (Nat.not_lt_zero _)) fun H5 eH => ?_⟩⟩
    subst eH
    obtain ⟨hD0, nD⟩ := upd_free2 hD
    refine ⟨upd_get hD upd_same, D, rfl, by rw [upd_ne nD]; exact upd_same, ?_⟩
    have sF := cast_same ek2 hD
    have i3 := i2.same sF
    walk_at "wp"
    refine ⟨x, _, dx, _, rfl, i3.at_, T.cl_Tabling, T.nf_Tabling_numbers, (by show (2 : Nat) < 1000; decide), ?_⟩
    have i4 := i3.put (gs := putF "numbers" (V.ref D) (putF "row" (V.ref rw) (putF "grammar" (V.ref g) [])))
    have eD4 := i3.keep (o' := .ins a.Tabling dx (putF "numbers" (V.ref D) (putF "row" (V.ref rw) (putF "grammar" (V.ref g) [])))) (upd_same (o := .dT [])) (fun _ e => by cases e)
    walk_at "wp"
    refine ⟨x, a.Tabling, dx, _, _, rfl, i4.at_, T.cl_Tabling, T.nf_Tabling_numbers, rfl, ?_⟩
    walk_at "wp"
    intro bx bd hbx hbd hne
    refine ⟨bx, g, rw, D, bd, n, c, _, rfl, Ins.start hbx hbd hne, hg.same i4.sm, fun H5 i5 => ⟨rfl, ?_⟩⟩
    have i6 := i4.same i5.sm
    have nbx : bx ≠ x := fun z => by rw [z, i4.at_] at hbx; cases hbx
    have eD6 := i5.sm _ _ eD4
    have i7 := i6.put (gs := putF "prices" (V.ref bx) (putF "numbers" (V.ref D) (putF "row" (V.ref rw) (putF "grammar" (V.ref g) []))))
    walk_at "wp"
    refine ⟨x, _, dx, _, rfl, i6.at_, T.cl_Tabling, T.nf_Tabling_prices, (by show (3 : Nat) < 1000; decide), ?_⟩
    have eD7 := i6.keep (o' := .ins a.Tabling dx (putF "prices" (V.ref bx) (putF "numbers" (V.ref D) (putF "row" (V.ref rw) (putF "grammar" (V.ref g) []))))) eD6 (fun _ e => by cases e)
    have eP7 : upd H5 x (.ins a.Tabling dx (putF "prices" (V.ref bx) (putF "numbers" (V.ref D) (putF "row" (V.ref rw) (putF "grammar" (V.ref g) []))))) bx = some (.ins a.Prices bd (pf n rw D)) := by rw [upd_ne nbx]; exact i5.at_
    walk_at "wp"
    intro sm hsm
    have i8 := i7.same (Same.new (o := .dT []) hsm)
    have sm7 : H5 sm = none := (upd_free2 hsm).1
    walk_at "wp"
    refine ⟨x, _, dx, _, rfl, i8.at_, T.cl_Tabling, T.nf_Tabling_sums, (by show (4 : Nat) < 1000; decide), ?_⟩
    have i9 := i8.put (gs := putF "sums" (V.ref sm) (putF "prices" (V.ref bx) (putF "numbers" (V.ref D) (putF "row" (V.ref rw) (putF "grammar" (V.ref g) [])))))
    walk_at "wp"
    refine ⟨x, _, dx, _, rfl, i9.at_, T.cl_Tabling, T.nf_Tabling_made, (by show (5 : Nat) < 1000; decide), ?_⟩
    have nx : x ≠ sm := ne_of_none i7.at_ hsm
    have nD2 : D ≠ x := fun z => by rw [z, i6.at_] at eD6; cases eD6
    have eD10 : (upd (upd (upd (upd H5 x (.ins a.Tabling dx (putF "prices" (V.ref bx) (putF "numbers" (V.ref D) (putF "row" (V.ref rw) (putF "grammar" (V.ref g) [])))))) sm (.dT [])) x (.ins a.Tabling dx (putF "sums" (V.ref sm) (putF "prices" (V.ref bx) (putF "numbers" (V.ref D) (putF "row" (V.ref rw) (putF "grammar" (V.ref g) []))))))) x (.ins a.Tabling dx (tf g rw D bx sm 0))) D = some (.dT []) := by
      rw [upd_ne nD2, upd_ne nD2]
      exact upd_get hsm eD7
    have eP10 : (upd (upd (upd (upd H5 x (.ins a.Tabling dx (putF "prices" (V.ref bx) (putF "numbers" (V.ref D) (putF "row" (V.ref rw) (putF "grammar" (V.ref g) [])))))) sm (.dT [])) x (.ins a.Tabling dx (putF "sums" (V.ref sm) (putF "prices" (V.ref bx) (putF "numbers" (V.ref D) (putF "row" (V.ref rw) (putF "grammar" (V.ref g) []))))))) x (.ins a.Tabling dx (tf g rw D bx sm 0))) bx = some (.ins a.Prices bd (pf n rw D)) := by
      rw [upd_ne nbx, upd_ne nbx]
      exact upd_get hsm eP7
    have eS10 : (upd (upd (upd (upd H5 x (.ins a.Tabling dx (putF "prices" (V.ref bx) (putF "numbers" (V.ref D) (putF "row" (V.ref rw) (putF "grammar" (V.ref g) [])))))) sm (.dT [])) x (.ins a.Tabling dx (putF "sums" (V.ref sm) (putF "prices" (V.ref bx) (putF "numbers" (V.ref D) (putF "row" (V.ref rw) (putF "grammar" (V.ref g) []))))))) x (.ins a.Tabling dx (tf g rw D bx sm 0))) sm = some (.dT []) := by
      rw [upd_ne (Ne.symm nx), upd_ne (Ne.symm nx)]
      exact upd_same
    have t9 : Tb K a H0 x g rw D bx sm n c r _ 0 [] [] := ⟨i0.out, free_same i2.sm hD0, free_same i6.sm sm7, ne_of_none eD7 hsm, nbx, (i9.put (gs := tf g rw D bx sm 0)).sm, ⟨dx, upd_same⟩, hg, hr0, lr, eD10, ⟨bd, eP10⟩, eS10⟩
    have hr9 := t9.s0.seqT hr0
    walk_at "wp"
    rw [List.length_map]
    refine ⟨by omega, by omega, for_range (lo := 0) (n := ((r.length : Int) + 1).toNat) (fun w σ H' => ∃ (o4 o5 : Option V) (md : Int) (S N : List (List Key × V)), σ = [some (.ref x), some (.ref g), some (.ref rw), some (.ref kn), o4, o5, none] ∧ Tb K a H0 x g rw D bx sm n c r H' md S N ∧ LT S N r c w 0) ⟨none, none, _, _, _, rfl, t9, LT_0⟩ ?_ ?_⟩
    · rintro w σ H10 hw ⟨o4, o5, md, S, N, rfl, t10, l10⟩
      have hr10 := t10.s0.seqT hr0
      walk_at "wp"
      rw [List.length_map]
      refine ⟨by omega, by omega, for_range (lo := 0) (n := ((r.length : Int) + 1 - (0 + w)).toNat) (fun i σ H' => ∃ (o5 : Option V) (md : Int) (S N : List (List Key × V)), σ = [some (.ref x), some (.ref g), some (.ref rw), some (.ref kn), some (.int (0 + w)), o5, none] ∧ Tb K a H0 x g rw D bx sm n c r H' md S N ∧ LT S N r c w i) ⟨_, _, _, _, rfl, t10, l10⟩ ?_ ?_⟩
      · rintro i σ H11 hi ⟨o5, md, S, N, rfl, t11, l11⟩
        obtain ⟨dx11, ex11⟩ := t11.at_
        walk_at "wp"
        refine ⟨x, dx11, _, rfl, ex11, rfl, ?_⟩
        walk_at "wp"
        refine ⟨H0, x, g, rw, D, bx, sm, n, c, r, md, S, N, i, i + w, by rw [Int.zero_add, Int.zero_add]; rfl, t11, by omega, by omega, fun u u1 u2 => (l11.1 i u ⟨u1, by omega, .inl (by omega)⟩).1, l11.2.1 i (i + w) (fun z => by obtain ⟨z1, z2, z3⟩ := z; omega), by have := l11.2.2.1; omega, by have := l11.2.2.2; omega, fun H12 S' md' f12 t12 vS' lS' => ?_⟩
        walk_at "wp"
        exact ⟨_, _, _, _, rfl, t12, l11.next (by omega) vS' lS'⟩
      · rintro σ H11 ⟨o5, md, S, N, rfl, t11, l11⟩
        rw [show ((r.length : Int) + 1 - (0 + w)).toNat = r.length + 1 - w by omega] at l11
        walk_at "wp"
        exact ⟨_, _, _, _, _, rfl, t11, l11.row (by omega) lr⟩
    · rintro σ H10 ⟨o4, o5, md, S, N, rfl, t10, l10⟩
      rw [show ((r.length : Int) + 1).toNat = r.length + 1 by omega] at l10
      walk_at "wp"
      exact q _ _ _ _ _ _ _ t10 (l10.1 0 r.length ⟨Nat.zero_le _, Nat.le_refl _, .inl (by omega)⟩).2

/-! ### rows asked, least changes -/
def sp_is_row (K : PySem.W.Frag) (a : Adr) : Sp := fun vs H Q _ => ∃ (g p : Addr) (n c : Nat) (r : List Int), vs = [.ref g, .ref p] ∧ Gr K a H g n c ∧ SqT K H p (r.map V.int) ∧ r.length ≤ 1000 ∧ (∀ t ∈ r, 0 ≤ t ∧ t < n) ∧ ∀ H', Same H H' → Q (.bl true) H'
theorem ok_is_row (T : Txt K mg a) : FnOk P w K mg base CX0 3 a.is_row a.is_row_d ["grammar", "value"] (sp_is_row K a) := by
  refine T.F_is_row.ok sc_is_row (fun vs H Q E h => ?_) (fun cdv A outer s H vs Q E hr h => ?_)
  · obtain ⟨g, p, n, c, r, rfl, _⟩ := h
    rfl
  · obtain ⟨g, p, n, c, r, rfl, hg, hp, lr, hb, q⟩ := h
    refine ⟨_, (pss_cons (ps_if (pt_not (pt_val (pe_call (ok_is_sequence T) (hr.mono (by decide)) (by rfl) T.m_is_sequence T.F_is_sequence.kp (B_is_sequence T) .nil pass0 (pa_cons (pv 1) pa_nil))))
      (pss_one (ps_ret pe_bl))
      pss_nil)
    (pss_cons (ps_set (i := 2) sc_is_row.nd rfl (.inr rfl) (pe_callB call_len (by rfl) T.z_len (by decide +kernel) (pa_cons (pe_fld (pv 0) rfl) pa_nil)))
    (pss_one (ps_ret (pe_callB (cr_all rfl) (by rfl) T.z_all (by decide +kernel) (pa_cons (pe_lc (own := [("token", 3)]) rfl sc_is_row.nd (pi_tup (pv 1)) (blkOk_by (own := [("token", 3)]) (N := ["grammar", "value", "count", "token"]) (sc := defScope s_is_row) (by decide +kernel)) (fun _ _ _ _ _ => (pg_name (i := 3) sc_is_row.nd rfl (Or.inl rfl))) (fun _ _ _ _ _ => pts_nil) (fun _ _ _ _ _ => (pe_call (ok_is_below T) (hr.mono (by decide)) (by rfl) T.m_is_below T.F_is_below.kp (B_is_below T) .nil pass0 (pa_cons (pv 3) (pa_cons (pv 2) pa_nil))))) pa_nil)))))), ?_⟩
    walk_at "wp"
    refine ⟨p, _, rfl, .inr hp, fun H1 s1 => ?_⟩
    walk_at "wp"
    have hp1 := s1.seqT hp
    obtain ⟨gx, tk, rl, gp, hd, pt, p0, p1, fs, ts, rs, gs, e1, e2, e3, e4, _⟩ := hg.same s1
    refine ⟨g, a.Grammar, gx, _, _, rfl, e1, T.cl_Grammar, T.nf_Grammar_tokens, e2, ?_⟩
    walk_at "wp"
    rw [e4]
    refine ⟨⟨_, hp1⟩, fun D hD => lcF walk_tup (fun _ => .bl true) (by rw [List.length_map]; omega) hD (fun _ s => s.seqT hp1) (fun i x H2 H3 R hi sm y k => ?_) fun H2 sm e => ?_⟩
    · obtain ⟨rfl, hx⟩ := y
      rw [List.getElem?_map] at hx
      obtain ⟨z, hz, rfl⟩ := Option.map_eq_some_iff.mp hx
      refine ⟨rfl, ?_⟩
      walk_at "wp"
      rw [decide_eq_true (hb z (List.mem_of_getElem? hz))]
      exact k _ (.refl _)
    · obtain ⟨e4, e5⟩ := all_rep e
      refine ⟨D, _, rfl, SqL.of e4, ?_⟩
      rw [e5]
      exact q _ (s1.trans sm)
def sp_row_asked (K : PySem.W.Frag) (a : Adr) : Sp := fun vs H Q _ => ∃ (g p : Addr) (n c : Nat) (r : List Int), vs = [.ref g, .ref p] ∧ Gr K a H g n c ∧ SqT K H p (r.map V.int) ∧ r.length ≤ 1000 ∧ (∀ t ∈ r, 0 ≤ t ∧ t < n) ∧ ∀ H', Same H H' → Q (.ref p) H'
theorem ok_row_asked (T : Txt K mg a) : FnOk P w K mg base CX0 4 a.row_asked a.row_asked_d ["grammar", "row"] (sp_row_asked K a) := by
  refine T.F_row_asked.ok sc_row_asked (fun vs H Q E h => ?_) (fun cdv A outer s H vs Q E hr h => ?_)
  · obtain ⟨g, p, n, c, r, rfl, _⟩ := h
    rfl
  · obtain ⟨g, p, n, c, r, rfl, hg, hp, lr, hb, q⟩ := h
    refine ⟨_, (pss_cons (ps_if (pt_not (pt_val (pe_call (ok_is_row T) (hr.mono (by decide)) (by rfl) T.m_is_row T.F_is_row.kp (B_is_row T) .nil pass0 (pa_cons (pv 0) (pa_cons (pv 1) pa_nil))))) pss_never pss_nil)
    (pss_one (ps_ret (pe_callTy call_tuple_of (by rfl) T.z_tuple (by decide +kernel) (pa_cons (pv 1) pa_nil))))), ?_⟩
    walk_at "wp"
    refine ⟨g, p, n, c, r, rfl, hg, hp, lr, hb, fun H1 s1 => ?_⟩
    walk_at "wp"
    exact ⟨p, _, rfl, .inr ⟨s1.seqT hp, q _ s1⟩⟩
def sp_token_changes (K : PySem.W.Frag) : Sp := fun vs H Q _ => ∃ (p : Addr) (r : List Int) (t : Int), vs = [.ref p, .int t] ∧ (SqL K H p (r.map V.int) ∨ SqT K H p (r.map V.int)) ∧ ∀ H', Same H H' → Q (.int (strC r 0 r.length t)) H'
theorem ok_token_changes (T : Txt K mg a) : FnOk P w K mg base CX0 2 a.token_changes a.token_changes_d ["row", "token"] (sp_token_changes K) := by
  refine T.F_token_changes.ok sc_token_changes (fun vs H Q E h => ?_) (fun cdv A outer s H vs Q E hr h => ?_)
  · obtain ⟨p, r, t, rfl, _⟩ := h
    rfl
  · obtain ⟨p, r, t, rfl, hp, q⟩ := h
    refine ⟨_, (pss_one (ps_ret (pe_call (ok_stretch_cost T) (hr.mono (by decide)) (by rfl) T.m_stretch_cost T.F_stretch_cost.kp (B_stretch_cost T) .nil pass0 (pa_cons (pv 0) (pa_cons pe_int (pa_cons (pe_callB call_len (by rfl) T.z_len (by decide +kernel) (pa_cons (pv 0) pa_nil)) (pa_cons (pv 1) pa_nil))))))), ?_⟩
    walk_at "wp"
    rcases id hp with h | h
    · walk_at "wp"
      rw [List.length_map]
      exact ⟨p, r, 0, r.length, t, rfl, hp, Nat.zero_le _, Nat.le_refl _, q⟩
    · walk_at "wp"
      rw [List.length_map]
      exact ⟨p, r, 0, r.length, t, rfl, hp, Nat.zero_le _, Nat.le_refl _, q⟩
def sp_least_changes (K : PySem.W.Frag) (a : Adr) : Sp := fun vs H Q _ => ∃ (g p : Addr) (n c : Nat) (r : List Int), vs = [.ref g, .ref p] ∧ Gr K a H g n c ∧ SqT K H p (r.map V.int) ∧ r.length ≤ 6 ∧ (∀ t ∈ r, 0 ≤ t ∧ t < n) ∧ ∀ H', Same H H' → Q (.int (strC r 0 r.length c)) H'
theorem ok_least_changes (T : Txt K mg a) : FnOk P w K mg base CX0 8 a.least_changes a.least_changes_d ["grammar", "row"] (sp_least_changes K a) := by
  refine T.F_least_changes.ok sc_least_changes (fun vs H Q E h => ?_) (fun cdv A outer s H vs Q E hr h => ?_)
  · obtain ⟨g, p, n, c, r, rfl, _⟩ := h
    rfl
  · obtain ⟨g, p, n, c, r, rfl, hg, hp, lr, hb, q⟩ := h
    refine ⟨_, (pss_cons (ps_set (i := 1) sc_least_changes.nd rfl (.inl rfl) (pe_call (ok_row_asked T) (hr.mono (by decide)) (by rfl) T.m_row_asked T.F_row_asked.kp (B_row_asked T) .nil pass0 (pa_cons (pv 0) (pa_cons (pv 1) pa_nil))))
    (pss_one (ps_ret (pe_dget (hu1 hr.units) (pe_fld (pe_make T.mk_Tabling (ok_Tabling_init T) (hr.mono (by decide)) (by rfl) T.m_Tabling (B_Tabling_init T) .nil pass0 (pa_cons (pv 0) (pa_cons (pv 1) (pa_cons pe_dnewK pa_nil)))) rfl) (pe_tup (pa_cons pe_int (pa_cons pe_int (pa_cons (pe_callB call_len (by rfl) T.z_len (by decide +kernel) (pa_cons (pv 1) pa_nil)) pa_nil)))) (fun _ _ => rfl))))), ?_⟩
    walk_at "wp"
    refine ⟨g, p, n, c, r, rfl, hg, hp, by omega, hb, fun H1 s1 => ?_⟩
    walk_at "wp"
    refine fun kn hkn => ?_
    walk_at "wp"
    intro bx bd hbx hbd hne
    have s2 := s1.trans (Same.new (o := .dK []) hkn)
    refine ⟨bx, g, p, kn, bd, n, c, r, _, rfl, Ins.start hbx hbd hne, hg.same s2, s2.seqT hp, lr, upd_same, fun H3 nm pz sm md S N t hv => ⟨rfl, ?_⟩⟩
    obtain ⟨dx, ex⟩ := t.at_
    have hp3 := t.s0.seqT (s2.seqT hp)
    refine ⟨bx, a.Tabling, dx, _, _, rfl, ex, T.cl_Tabling, T.nf_Tabling_numbers, rfl, ?_⟩
    walk_at "wp"
    refine ⟨disp rfl, fun kp hkp => ?_⟩
    have t2 := t.same (Same.new (o := .tup [.int 0, .int 0, .int ((r.map V.int).length : Nat)]) hkp)
    have dg := DGet.t (k := kN 0 r.length) t2.nm_ (by rw [upd_same, List.length_map]; rfl)
    rw [hv] at dg
    refine ⟨nm, _, rfl, dg, ?_⟩
    walk_at "wp"
    exact q _ (s2.trans t2.s0)

/-! ### the box of drawn numbers -/
/-- a box stands at b, its row of great cells at l -/
def Box (H : Hp) (b l : Addr) : Prop := ∃ (ns : List Int) (s i v c : Int), H b = some (.lst [.int s, .ref l, .int i, .int v, .int c]) ∧ H l = some (.lst (ns.map V.int)) ∧ l ≠ b ∧ 0 ≤ s ∧ s < 2147483647 ∧ 0 ≤ i
theorem Box.same {H H' : Hp} {b l : Addr} (h : Same H H') (z : Box H b l) : Box H' b l := by
  obtain ⟨ns, s, i, v, c, e1, e2, r⟩ := z
  exact ⟨ns, s, i, v, c, h _ _ e1, h _ _ e2, r⟩
theorem Box.new {H : Hp} {b l p : Addr} {o : HO} (n : H p = none) (z : Box H b l) : Box (upd H p o) b l := z.same (Same.new n)
theorem Box.upd {H : Hp} {b l p : Addr} {o : HO} (n : p ≠ b) (m : p ≠ l) (z : Box H b l) : Box (upd H p o) b l := by
  obtain ⟨ns, s, i, v, c, e1, e2, r⟩ := z
  exact ⟨ns, s, i, v, c, by rw [upd_ne (Ne.symm n)]; exact e1, by rw [upd_ne (Ne.symm m)]; exact e2, r⟩
theorem Box.ne {H : Hp} {b l p : Addr} (n : H p = none) (z : Box H b l) : p ≠ b ∧ p ≠ l := by
  obtain ⟨ns, s, i, v, c, e1, e2, r⟩ := z
  exact ⟨Ne.symm (ne_of_none e1 n), Ne.symm (ne_of_none e2 n)⟩
local macro_rules | `(tactic| walk_at "hb") => `(tactic| first | assumption | (apply Box.same; assumption; walk_at "hb") | (apply Box.new; assumption; walk_at "hb") | (apply Box.upd; walk_at "ne"; walk_at "ne"; walk_at "hb"))
def sp_law_box (K : PySem.W.Frag) : Sp := fun vs H Q _ => ∃ (p : Addr) (ns : List Int), vs = [.ref p] ∧ SqL K H p (ns.map V.int) ∧ ns.length ≤ 63 ∧ ∀ b l H', Same H H' → Box H' b l → H b = none → Q (.ref b) H'
theorem ok_law_box (T : Txt K mg a) : FnOk P w K mg base CX0 1 a.law_box a.law_box_d ["script"] (sp_law_box K) := by
  refine T.F_law_box.ok sc_law_box (fun vs H Q E h => ?_) (fun cdv A outer s H vs Q E hr h => ?_)
  · obtain ⟨p, ns, rfl, _⟩ := h
    rfl
  · obtain ⟨p, ns, rfl, hS, hl, q⟩ := h
    refine ⟨_, (pss_cons (ps_set (i := 1) sc_law_box.nd rfl (.inl rfl) pe_int)
    (pss_cons (ps_set (i := 2) sc_law_box.nd rfl (.inl rfl) (pe_lst pa_nil))
    (pss_cons (ps_for PassesOwn.never rfl (pi_list (pv 0)) (pg_name (i := 3) sc_law_box.nd rfl (.inl rfl))
      (pss_cons (ps_if (pt_cmpR op_ge (pv 3) pe_int (nomark _))
        (pss_one (ps_expr (pe_bm PySem.F.plainAttrs_list PySem.F.slot_list_append PySem.F.type_list_append mt_append (pv 2) (pa_cons (pv 3) pa_nil))))
        pss_nil)
      (pss_one (ps_set (i := 1) sc_law_box.nd rfl (.inl rfl) (pe_op op_modN (pe_callTy call_int1 (by rfl) T.z_int (by decide +kernel) (pa_cons (pe_op op_add (pe_op op_add (pe_op op_mul (pv 1) pe_int) (pe_op op_modN (pe_callTy call_int1 (by rfl) T.z_int (by decide +kernel) (pa_cons (pv 3) pa_nil)) pe_int)) pe_int) pa_nil)) pe_int)))))
    (pss_one (ps_ret (pe_lst (pa_cons (pv 1) (pa_cons (pv 2) (pa_cons pe_int (pa_cons pe_int (pa_cons pe_int pa_nil))))))))))), ?_⟩
    walk_at "wp"
    refine ⟨disp rfl, fun l hl0 => ?_⟩
    walk_at "wp"
    refine ⟨⟨_, (Same.new hl0).seq hS⟩, for_list (xs := ns.map V.int) (fun i σ H' => ∃ (s : Int) (gs : List Int) (o3 : Option V), σ = [some (.ref p), some (.int s), some (.ref l), o3] ∧ 0 ≤ s ∧ s < 2147483647 ∧ Same H H' ∧ H' l = some (.lst (gs.map V.int)) ∧ gs.length ≤ i) ⟨7, [], none, rfl, by decide, by decide, Same.new hl0, upd_same, Nat.le_refl _⟩ (fun i σ H' _ ⟨_, _, _, _, _, _, sm, _⟩ => sm.seq hS) ?_ ?_⟩
    · rintro i x σ H2 hx ⟨s, gs, o3, rfl, s0, s1, sm, e, le⟩
      obtain ⟨n, hn, rfl, _⟩ := mem_int hx
      have hi := (List.getElem?_eq_some_iff.mp hn).1
      walk_at "wp"
      refine brd (fun h1 => ?_) (fun h1 => ?_)
      · walk_at "wp"
        refine ⟨_, _, _, rfl, by assumption, by assumption, sm.mut hl0, by rw [upd_same]; exact congrArg _ (congrArg _ (List.map_append (f := V.int) (l₁ := gs) (l₂ := [n])).symm), ?_⟩
        rw [List.length_append]
        show _ + 1 ≤ _
        omega
      · walk_at "wp"
        exact ⟨_, _, _, rfl, by assumption, by assumption, sm, e, by omega⟩
    · rintro σ H2 ⟨s, gs, o3, rfl, s0, s1, sm, e, le⟩
      walk_at "wp"
      refine ⟨disp rfl, fun b hb => ?_⟩
      have hb0 : H b = none := by
        cases hH : H b with
        | none => rfl
        | some o => rw [sm _ _ hH] at hb; cases hb
      exact q b l _ (sm.trans (Same.new hb)) ⟨gs, s, 0, 0, 0, upd_same, upd_get hb e, ne_of_none e hb, s0, s1, by decide⟩ hb0
/-- a draw: any number below many; the box alone changes -/
def sp_law_draw : Sp := fun vs H Q _ => ∃ (b c : Addr) (m : Int), vs = [.ref b, .int m] ∧ Box H b c ∧ 0 < m ∧ m < 1000000 ∧ ∀ n H', 0 ≤ n → n < m → But b H H' → Box H' b c → Q (.int n) H'
theorem ok_law_draw (T : Txt K mg a) : FnOk P w K mg base CX0 1 a.law_draw a.law_draw_d ["box", "many"] sp_law_draw := by
  refine T.F_law_draw.ok sc_law_draw (fun vs H Q E h => ?_) (fun cdv A outer s H vs Q E hr h => ?_)
  · obtain ⟨b, l, m, rfl, _⟩ := h
    rfl
  · obtain ⟨b, l, m, rfl, hB, hm0, hm1, q⟩ := h
    refine ⟨_, (Evl.pss_cut (ps_if (PW.pt (pw_and (pt_cmpR op_eq (pe_ix ix_list (pv 0) pe_int (fun _ _ => rfl)) pe_int (nomark _)) (pw_and1 (pt_cmpR op_lt (pe_ix ix_list (pv 0) pe_int (fun _ _ => rfl)) (pe_callB call_len (by rfl) T.z_len (by decide +kernel) (pa_cons (pe_ix ix_list (pv 0) pe_int (fun _ _ => rfl)) pa_nil)) (nomark _)))))
      (pss_cons (ps_asg (pe_ix ix_list (pe_ix ix_list (pv 0) pe_int (fun _ _ => rfl)) (pe_ix ix_list (pv 0) pe_int (fun _ _ => rfl)) (fun _ _ => rfl)) (pg_sub (pv 0) pe_int set_list))
      (pss_cons (ps_asg (pe_op op_add (pe_ix ix_list (pv 0) pe_int (fun _ _ => rfl)) pe_int) (pg_sub (pv 0) pe_int set_list))
      (pss_one (ps_asg pe_int (pg_sub (pv 0) pe_int set_list)))))
      pss_nil)
    (pss_cons (ps_if (pt_cmpR op_gt (pe_ix ix_list (pv 0) pe_int (fun _ _ => rfl)) pe_int (nomark _))
      (pss_cons (ps_set (i := 2) sc_law_draw.nd rfl (.inl rfl) (pe_op op_modN (pe_callTy call_int1 (by rfl) T.z_int (by decide +kernel) (pa_cons (pe_ix ix_list (pv 0) pe_int (fun _ _ => rfl)) pa_nil)) (pv 1)))
      (pss_cons (ps_asg (pe_op op_fdivN (pe_ix ix_list (pv 0) pe_int (fun _ _ => rfl)) (pv 1)) (pg_sub (pv 0) pe_int set_list))
      (pss_cons (ps_asg (pe_op op_sub (pe_ix ix_list (pv 0) pe_int (fun _ _ => rfl)) pe_int) (pg_sub (pv 0) pe_int set_list))
      (pss_cons (ps_if (pt_cmpR op_eq (pe_ix ix_list (pv 0) pe_int (fun _ _ => rfl)) pe_int (nomark _))
        (pss_one (ps_asg pe_int (pg_sub (pv 0) pe_int set_list)))
        pss_nil)
      (pss_one (ps_ret (pv 2)))))))
      pss_nil)
    (pss_cons (ps_asg (pe_op op_modN (pe_callTy call_int1 (by rfl) T.z_int (by decide +kernel) (pa_cons (pe_op op_add (pe_op op_mul (pe_ix ix_list (pv 0) pe_int (fun _ _ => rfl)) pe_int) pe_int) pa_nil)) pe_int) (pg_sub (pv 0) pe_int set_list))
    (pss_cons (ps_set (i := 3) sc_law_draw.nd rfl (.inl rfl) (pe_op op_modN (pe_callTy call_int1 (by rfl) T.z_int (by decide +kernel) (pa_cons (pe_op op_mul (pe_op op_fdivN (pe_ix ix_list (pv 0) pe_int (fun _ _ => rfl)) pe_int) (pe_op op_add (pe_op op_fdivN (pe_ix ix_list (pv 0) pe_int (fun _ _ => rfl)) pe_int) pe_int)) pa_nil)) pe_int))
    (pss_one (ps_ret (pe_op op_modN (pe_callTy call_int1 (by rfl) T.z_int (by decide +kernel) (pa_cons (pe_op op_fdivN (pv 3) pe_int) pa_nil)) (pv 1)))))))), ?_⟩
    obtain ⟨ns, s, i, v, c, e1, e2, nlb, s0, s1, i0⟩ := id hB
    refine ⟨fun σ' H' => σ' = [some (.ref b), some (.int m), none, none] ∧ Box H' b l ∧ But b H H', ?_, ?_⟩
    · walk_at "wp"
      refine brd (fun h1 => ?_) (fun h1 => ?_)
      · walk_at "wp"
        refine brd (fun h2 => ?_) (fun h2 => ?_)
        · have h4 : i.toNat < ns.length := by rw [List.length_map] at h2; omega
          have h5 : (ns.map V.int)[i.toNat]? = some (.int ns[i.toNat]) := by rw [List.getElem?_map, List.getElem?_eq_getElem h4]; rfl
          walk_at "wp"
          refine ⟨⟨ns, s, i + 1, _, 60, upd_same, ?_, nlb, s0, s1, by omega⟩, But.trans .at (But.trans .at .at)⟩
          rw [upd_ne nlb, upd_ne nlb, upd_ne nlb]
          exact e2
        · walk_at "wp"
          exact ⟨hB, .refl⟩
      · walk_at "wp"
        exact ⟨hB, .refl⟩
    · rintro σ' H' ⟨rfl, hB', hb'⟩
      obtain ⟨ns, s, i, v, c, e1, e2, nlb, s0, s1, i0⟩ := id hB'
      walk_at "wp"
      refine brd (fun h1 => ?_) (fun h1 => ?_)
      · walk_at "wp"
        refine brd (fun h2 => ?_) (fun h2 => ?_)
        · walk_at "wp"
          refine q _ _ (by assumption) (by assumption) (But.trans hb' (But.trans .at (But.trans .at .at))) ⟨ns, s, i, _, _, upd_same, ?_, nlb, s0, s1, i0⟩
          rw [upd_ne nlb, upd_ne nlb, upd_ne nlb]
          exact e2
        · walk_at "wp"
          refine q _ _ (by assumption) (by assumption) (But.trans hb' (But.trans .at .at)) ⟨ns, s, i, _, _, upd_same, ?_, nlb, s0, s1, i0⟩
          rw [upd_ne nlb, upd_ne nlb]
          exact e2
      · walk_at "wp"
        refine q _ _ (by assumption) (by assumption) (But.trans hb' .at) ⟨ns, _, i, v, c, upd_same, ?_, nlb, by assumption, by assumption, i0⟩
        rw [upd_ne nlb]
        exact e2

/-! ### drawn names -/
theorem nodup_range {α : Type} (f : Nat → α) : ∀ (m : Nat), (∀ i j, i < m → j < m → f i = f j → i = j) → ((List.range m).map f).Nodup
  | 0, _ => by simp
  | m + 1, h => by
    rw [List.range_succ, List.map_append, List.nodup_append]
    refine ⟨nodup_range f m fun i j hi hj => h i j (by omega) (by omega), by simp, ?_⟩
    intro a ha b hb e
    obtain ⟨i, hi, rfl⟩ := List.mem_map.mp ha
    have hi := List.mem_range.mp hi
    obtain rfl := List.mem_singleton.mp hb
    have := h i m (by omega) (by omega) e
    omega
theorem nm_inj {A C A' C' : List Nat} {x y : Nat} (h : A ++ [x] ++ C = A' ++ [y] ++ C') (hA : A = A') : x = y := by
  subst hA
  rw [List.append_assoc, List.append_assoc] at h
  have := List.append_cancel_left h
  simp at this
  exact this.1
theorem off_inj {off i j : Int} (i0 : 0 ≤ i) (j0 : 0 ≤ j) (hi : i < 7) (hj : j < 7) (h : (off + i * 7).fmod 26 = (off + j * 7).fmod 26) : i = j := by
  rw [Int.fmod_eq_emod_of_nonneg _ (by decide), Int.fmod_eq_emod_of_nonneg _ (by decide)] at h
  omega
/-- small letters alone -/
def az (c : Nat) : Bool := 97 ≤ c && c ≤ 122
abbrev azS : Str := "abcdefghijklmnopqrstuvwxyz"
theorem az_at {j : Int} (h0 : 0 ≤ j) (h1 : j < 26) : atI azS.cps.toList j = some (97 + j.toNat) := by
  obtain ⟨k, rfl⟩ := Int.eq_ofNat_of_zero_le h0
  have hk : k < 26 := by omega
  refine atI_of (j := k) rfl ?_
  show azS.cps.toList[k]? = some (97 + k)
  have : ∀ k, k < 26 → azS.cps.toList[k]? = some (97 + k) := by decide +kernel
  exact this k hk
/-- the i-th name -/
def nmv (B : Str) (p : Nat) (off : Int) (i : Nat) : Str := (cutS B none (some (p : Int)) ++ (⟨#[97 + ((off + i * 7).fmod 26).toNat]⟩ : Str)) ++ cutS B (some (p : Int)) none
theorem cut_lo {B : Str} {p : Nat} (h : p ≤ B.length) : (cutS B none (some (p : Int))).cps.toList = B.cps.toList.take p := by
  show (B.cps.toList.drop (HT.sIx B.length 0 none)).take (HT.sIx B.length B.length (some (p : Int)) - HT.sIx B.length 0 none) = _
  rw [HT.sIx_nat, HT.sIx_none, List.drop_zero, Nat.min_eq_left h, Nat.sub_zero]
theorem cut_hi {B : Str} {p : Nat} (h : p ≤ B.length) : (cutS B (some (p : Int)) none).cps.toList = B.cps.toList.drop p := by
  show (B.cps.toList.drop (HT.sIx B.length 0 (some (p : Int)))).take (HT.sIx B.length B.length none - HT.sIx B.length 0 (some (p : Int))) = _
  rw [HT.sIx_nat, HT.sIx_none, Nat.min_eq_left h]
  refine List.take_of_length_le ?_
  rw [List.length_drop, ← len_cps]
  exact Nat.le_refl _
theorem nmv_cps {B : Str} {p : Nat} {off : Int} {i : Nat} (h : p ≤ B.length) : (nmv B p off i).cps.toList = B.cps.toList.take p ++ [97 + ((off + i * 7).fmod 26).toNat] ++ B.cps.toList.drop p := by
  unfold nmv
  rw [Str.cps_append, Str.cps_append, Array.toList_append, Array.toList_append, cut_lo h, cut_hi h]
theorem nmv_len {B : Str} {p : Nat} {off : Int} {i : Nat} (h : p ≤ B.length) : (nmv B p off i).length = B.length + 1 := by
  rw [len_cps, nmv_cps h, List.length_append, List.length_append, List.length_take, List.length_drop, ← len_cps]
  show min p B.length + 1 + (B.length - p) = _
  omega
theorem nmv_az {B : Str} {p : Nat} {off : Int} {i : Nat} (h : p ≤ B.length) (hB : B.cps.toList.all az = true) : ∀ c ∈ (nmv B p off i).cps.toList, 97 ≤ c ∧ c ≤ 122 := by
  have hz : ∀ c ∈ B.cps.toList, 97 ≤ c ∧ c ≤ 122 := fun c hc => by
    have := List.all_eq_true.mp hB c hc
    unfold az at this
    simpa using this
  intro c hc
  rw [nmv_cps h] at hc
  rcases List.mem_append.mp hc with hc | hc
  · rcases List.mem_append.mp hc with hc | hc
    · exact hz c (List.mem_of_mem_take hc)
    · rw [List.mem_singleton.mp hc]
      have h0 : 0 ≤ (off + i * 7).fmod 26 := Int.fmod_nonneg_of_pos _ (by decide)
      have h1 : (off + i * 7).fmod 26 < 26 := Int.fmod_lt_of_pos _ (by decide)
      omega
  · exact hz c (List.mem_of_mem_drop hc)
theorem nmv_inj {B : Str} {p : Nat} {off : Int} {i j : Nat} (h : p ≤ B.length) (hi : i < 7) (hj : j < 7) (e : (nmv B p off i).cps.toList = (nmv B p off j).cps.toList) : i = j := by
  rw [nmv_cps h, nmv_cps h] at e
  have := nm_inj e rfl
  have a0 : 0 ≤ (off + i * 7).fmod 26 := Int.fmod_nonneg_of_pos _ (by decide)
  have b0 : 0 ≤ (off + j * 7).fmod 26 := Int.fmod_nonneg_of_pos _ (by decide)
  have := off_inj (off := off) (i := i) (j := j) (by omega) (by omega) (by omega) (by omega) (by omega)
  omega
def sp_law_names (K : PySem.W.Frag) : Sp := fun vs H Q _ => ∃ (b c : Addr) (m : Nat), vs = [.ref b, .int m] ∧ Box H b c ∧ m ≤ 7 ∧ ∀ p H' (ts : List Str), But b H H' → Box H' b c → H' p = some (.lst (ts.map V.str)) → ts.length = m → (∀ t ∈ ts, okName t) → ts.Nodup → Q (.ref p) H'
theorem ok_law_names (T : Txt K mg a) : FnOk P w K mg base CX0 2 a.law_names a.law_names_d ["box", "many"] (sp_law_names K) := by
  refine T.F_law_names.ok sc_law_names (fun vs H Q E h => ?_) (fun cdv A outer s H vs Q E hr h => ?_)
  · obtain ⟨b, c, m, rfl, _⟩ := h
    rfl
  · obtain ⟨b, c, m, rfl, hB, m7, q⟩ := h
    refine ⟨_, (pss_cons (ps_set (i := 2) sc_law_names.nd rfl (.inr rfl) pe_str)
    (pss_cons (ps_set (i := 3) sc_law_names.nd rfl (.inr rfl) (pe_join pe_str (pe_lc (own := [("k", 7)]) rfl sc_law_names.nd (pi_range1 (by rfl) T.z_range (pa_cons (pe_call (ok_law_draw T) (hr.mono (by decide)) (by rfl) T.m_law_draw T.F_law_draw.kp (B_law_draw T) .nil pass0 (pa_cons (pv 0) (pa_cons pe_int pa_nil))) pa_nil)) (blkOk_by (own := [("k", 7)]) (N := ["box", "many", "letters", "base", "at", "off", "names", "k", "name"]) (sc := defScope s_law_names) (by decide +kernel)) (fun _ _ _ _ _ => (pg_name (i := 7) sc_law_names.nd rfl (Or.inl rfl))) (fun _ _ _ _ _ => pts_nil) (fun _ _ _ _ _ => (pe_ix ix_str (pv 2) (pe_call (ok_law_draw T) (hr.mono (by decide)) (by rfl) T.m_law_draw T.F_law_draw.kp (B_law_draw T) .nil pass0 (pa_cons (pv 0) (pa_cons pe_int pa_nil))) (fun _ _ => rfl))))))
    (pss_cons (ps_set (i := 4) sc_law_names.nd rfl (.inr rfl) (pe_call (ok_law_draw T) (hr.mono (by decide)) (by rfl) T.m_law_draw T.F_law_draw.kp (B_law_draw T) .nil pass0 (pa_cons (pv 0) (pa_cons (pe_op op_add (pe_callB call_len (by rfl) T.z_len (by decide +kernel) (pa_cons (pv 3) pa_nil)) pe_int) pa_nil))))
    (pss_cons (ps_set (i := 5) sc_law_names.nd rfl (.inr rfl) (pe_call (ok_law_draw T) (hr.mono (by decide)) (by rfl) T.m_law_draw T.F_law_draw.kp (B_law_draw T) .nil pass0 (pa_cons (pv 0) (pa_cons pe_int pa_nil))))
    (pss_cons (ps_setLc (i := 6) (own := [("k", 7)]) rfl sc_law_names.nd rfl rfl (sw_true rfl rfl rfl (by decide +kernel)) (pi_range1 (by rfl) T.z_range (pa_cons (pv 1) pa_nil)) (blkOk_by (own := [("k", 7)]) (N := ["box", "many", "letters", "base", "at", "off", "names", "k", "name"]) (sc := defScope s_law_names) (by decide +kernel)) (fun _ _ _ _ _ => (pg_name (i := 7) sc_law_names.nd rfl (Or.inl rfl))) (fun _ _ _ _ _ => pts_nil) (fun _ _ _ _ _ => (pe_op op_add_str (pe_op op_add_str (pe_slice sl_str (pv 3) po_none (po_some (pv 4))) (pe_ix ix_str (pv 2) (pe_op op_modN (pe_callTy call_int1 (by rfl) T.z_int (by decide +kernel) (pa_cons (pe_op op_add (pv 5) (pe_op op_mul (pv 7) pe_int)) pa_nil)) pe_int) (fun _ _ => rfl))) (pe_slice sl_str (pv 3) (po_some (pv 4)) po_none))))
    (pss_cons (ps_if (pt_cmpR op_in_seq pe_str (pv 6) rfl)
      (pss_one (ps_setLc (i := 6) (own := [("name", 8)]) rfl sc_law_names.nd rfl rfl (sw_true rfl rfl rfl (by decide +kernel)) (pi_list (pv 6)) (blkOk_by (own := [("name", 8)]) (N := ["box", "many", "letters", "base", "at", "off", "names", "k", "name"]) (sc := defScope s_law_names) (by decide +kernel)) (fun _ _ _ _ _ => (pg_name (i := 8) sc_law_names.nd rfl (Or.inl rfl))) (fun _ _ _ _ _ => pts_nil) (fun _ _ _ _ _ => (pe_op op_add_str (pv 8) pe_str))))
      pss_nil)
    (pss_one (ps_ret (pv 6))))))))), ?_⟩
    walk_at "wp"
    refine ⟨b, c, 11, rfl, hB, (by decide), (by decide), fun n H1 n0 n1 s1 B1 => ?_⟩
    walk_at "wp"
    refine ⟨by omega, by omega, fun D hD => ?_⟩
    have hDb := (B1.ne hD).1
    refine lc_it walk_range (fun i H' => ∃ ys : List Str, ys.length = i ∧ (∀ y ∈ ys, ∃ c, y = (⟨#[c]⟩ : Str) ∧ az c = true) ∧ H' D = some (.lst (ys.map V.str)) ∧ But b H1 H' ∧ Box H' b c) ⟨[], rfl, by simp, upd_same, But.new hD, B1.new hD⟩ (fun _ _ _ _ => trivial) (fun i y H3 H4 hi ⟨ys, yl, ya, e3, s3, B3⟩ ⟨eH, ey⟩ => ?_) fun H3 ⟨ys, yl, ya, e3, s3, B3⟩ => ?_
    · subst eH ey
      refine ⟨rfl, ?_⟩
      walk_at "wp"
      refine ⟨b, c, 26, rfl, B3, (by decide), (by decide), fun j H5 j0 j1 s5 B5 => ?_⟩
      refine ⟨azS, j, 97 + j.toNat, rfl, rfl, lt_line (by decide +kernel), az_at j0 j1, ?_⟩
      have e5 := s5 _ _ hDb e3
      refine ⟨_, e5, by rw [List.length_map]; exact lt_line (by omega), ys ++ [⟨#[97 + j.toNat]⟩], by rw [List.length_append, yl]; rfl, ?_, ?_, (s3.trans s5).mut hD, B5.upd hDb (B1.ne hD).2⟩
      · intro y hy
        rcases List.mem_append.mp hy with hy | hy
        · exact ya y hy
        · rw [List.mem_singleton.mp hy]
          refine ⟨_, rfl, ?_⟩
          unfold az
          simp
          omega
      · rw [upd_same, List.map_append]
        rfl
    · walk_at "wp"
      obtain ⟨j1, j2⟩ := join_ones az ys ya
      refine ⟨_, _, ys, rfl, rfl, .inl (SqL.of e3), ?_, ?_⟩
      · rw [sum_ones ys az ya]
        show ys.length + ys.length * 0 ≤ _
        exact le_line (by omega)
      · generalize hBs : Txt.join ("" : Str) ys = B at j1 j2
        have lB : B.length ≤ 10 := by omega
        walk_at "wp"
        refine ⟨b, c, (B.length : Int) + 1, rfl, B3, (by omega), (by omega), fun at_ H4 a0 a1 s4 B4 => ?_⟩
        walk_at "wp"
        refine ⟨b, c, 26, rfl, B4, (by decide), (by decide), fun off H5 o0 o1 s5 B5 => ?_⟩
        obtain ⟨p, rfl⟩ := Int.eq_ofNat_of_zero_le a0
        have hp : p ≤ B.length := by omega
        walk_at "wp"
        refine ⟨by omega, by omega, fun D2 hD2 => ?_⟩
        have hD2b := (B5.ne hD2).1
        refine lcF walk_range (fun i => V.str (nmv B p off i)) (by omega) hD2 (fun _ _ => trivial) (fun i y H6 H7 R hi s7 ⟨eH, ey⟩ k => ?_) fun H6 s6 e6 => ?_
        · subst eH ey
          refine ⟨rfl, ?_⟩
          walk_at "wp"
          refine ⟨le_line (by omega), ?_⟩
          walk_at "wp"
          rename_i md me m0 m1
          refine ⟨azS, md, 97 + md.toNat, rfl, rfl, lt_line (by decide +kernel), az_at m0 m1, ?_⟩
          have h1 : (cutS B none (some (p : Int))).length ≤ p := by
            rw [len_cps, cut_lo hp, List.length_take]
            omega
          have h2 : (cutS B (some (p : Int)) none).length ≤ B.length := by
            rw [len_cps, cut_hi hp, List.length_drop, ← len_cps]
            omega
          refine ⟨_, _, rfl, rfl, le_line (by show (cutS B none (some (p : Int))).length + 1 ≤ _; omega), ?_⟩
          walk_at "wp"
          refine ⟨le_line (by omega), ?_⟩
          refine ⟨_, _, rfl, rfl, le_line ?_, ?_⟩
          · rw [strLen_append]
            show (cutS B none (some (p : Int))).length + 1 + _ ≤ _
            omega
          · have e9 : nmv B p off i = (cutS B none (some (p : Int)) ++ (⟨#[97 + md.toNat]⟩ : Str)) ++ cutS B (some (p : Int)) none := by
              unfold nmv
              rw [me, Int.zero_add]
            rw [← e9]
            exact k _ (.refl _)
        · walk_at "wp"
          refine ⟨D2, _, rfl, .inl (SqL.of e6), rfl, ?_, ?_⟩
          · rw [List.all_eq_true]
            intro y hy
            obtain ⟨j, _, rfl⟩ := List.mem_map.mp hy
            rfl
          refine ⟨_, rfl, ?_⟩
          have b6 := (((s1.trans s3).trans s4).trans s5).trans (But.of s6)
          have B6 := B5.same s6
          rw [Int.toNat_natCast] at e6
          refine brb (fun hb => ?_) (fun hb => ?_)
          · walk_at "wp"
            refine ⟨⟨_, SqL.of e6⟩, fun D3 hD3 => ?_⟩
            refine lcF walk_list (fun i => V.str (nmv B p off i ++ ("s" : Str))) (by rw [List.length_map, List.length_range]; omega) hD3 (fun _ s => SqL.of (s _ _ e6)) (fun i y H8 H7 R hi s7 ⟨eH, ey⟩ k => ?_) fun H7 s7 e7 => ?_
            · subst eH
              rw [List.length_map, List.length_range] at hi
              rw [List.getElem?_map, List.getElem?_range hi] at ey
              cases ey
              refine ⟨rfl, ?_⟩
              walk_at "wp"
              exact ⟨le_line (by rw [nmv_len hp]; show _ + 1 + 1 ≤ _; omega), k _ (.refl _)⟩
            · rw [List.length_map, List.length_range] at e7
              walk_at "wp"
              refine q D3 H7 ((List.range m).map fun i => nmv B p off i ++ ("s" : Str)) (b6.trans (But.of s7)) (B6.same s7) (by rw [e7, List.map_map]; rfl) (by rw [List.length_map, List.length_range]) (fun z hz => ?_) (nodup_range _ _ fun i j hi hj e => nmv_inj (off := off) hp (by omega) (by omega) ?_)
              · obtain ⟨j, _, rfl⟩ := List.mem_map.mp hz
                refine ⟨by rw [strLen_append, nmv_len hp]; omega, by rw [strLen_append, nmv_len hp]; show _ + 1 + 1 ≤ 12; omega, fun x hx => ?_⟩
                rw [Str.cps_append, Array.toList_append] at hx
                rcases List.mem_append.mp hx with hx | hx
                · exact nmv_az hp j2 x hx
                · have e115 : (Str.ofString "s").cps.toList = [115] := by decide +kernel
                  rw [e115] at hx
                  have := List.mem_singleton.mp hx
                  omega
              · have := congrArg (fun s : Str => s.cps.toList) e
                rw [Str.cps_append, Str.cps_append, Array.toList_append, Array.toList_append] at this
                exact List.append_cancel_right this
          · walk_at "wp"
            refine q D2 H6 ((List.range m).map (nmv B p off)) b6 B6 (by rw [e6, List.map_map]; rfl) (by rw [List.length_map, List.length_range]) (fun z hz => ?_) (nodup_range _ _ fun i j hi hj e => nmv_inj hp (by omega) (by omega) (congrArg (fun s : Str => s.cps.toList) e))
            obtain ⟨j, _, rfl⟩ := List.mem_map.mp hz
            refine ⟨by rw [nmv_len hp]; omega, by rw [nmv_len hp]; omega, nmv_az hp j2⟩

def sp_law_same : Sp := fun vs H Q _ => ∃ i j : Int, vs = [.int i, .int j] ∧ Q (.bl (decide (i = j))) H
theorem ok_law_same (T : Txt K mg a) : FnOk P w K mg base CX0 1 a.law_same a.law_same_d ["told", "due"] sp_law_same := by
  refine T.F_law_same.ok sc_law_same (fun vs H Q E h => ?_) (fun cdv A outer s H vs Q E hr h => ?_)
  · obtain ⟨i, j, rfl, _⟩ := h
    rfl
  · obtain ⟨i, j, rfl, q⟩ := h
    refine ⟨_, (pss_cons (ps_if (pt_val (pe_callB call_isi (by rfl) T.z_isinstance (by decide +kernel) (pa_cons (pv 1) (pa_cons (pe_bltn (v := .ty "tuple") (by rfl) T.z_tuple (by decide +kernel) rfl) pa_nil)))) pss_never pss_nil)
    (pss_cons (ps_if (pt_val (pe_callB call_isi (by rfl) T.z_isinstance (by decide +kernel) (pa_cons (pv 1) (pa_cons (pe_bltn (v := .ty "bool") (by rfl) T.z_bool (by decide +kernel) rfl) pa_nil))))
      (pss_one (ps_ret (pe_and (pe_callB call_isi (by rfl) T.z_isinstance (by decide +kernel) (pa_cons (pv 0) (pa_cons (pe_bltn (v := .ty "bool") (by rfl) T.z_bool (by decide +kernel) rfl) pa_nil))) (pe_one (pe_cmpR op_eq (pv 0) (pv 1) (nomark _))))))
      pss_nil)
    (pss_cons (ps_if (pt_val (pe_callB call_isi (by rfl) T.z_isinstance (by decide +kernel) (pa_cons (pv 1) (pa_cons (pe_bltn (v := .ty "int") (by rfl) T.z_int (by decide +kernel) rfl) pa_nil))))
      (pss_one (ps_ret (pe_and (pe_callB call_isi (by rfl) T.z_isinstance (by decide +kernel) (pa_cons (pv 0) (pa_cons (pe_bltn (v := .ty "int") (by rfl) T.z_int (by decide +kernel) rfl) pa_nil))) (pe_and (pe_not (pe_callB call_isi (by rfl) T.z_isinstance (by decide +kernel) (pa_cons (pv 0) (pa_cons (pe_bltn (v := .ty "bool") (by rfl) T.z_bool (by decide +kernel) rfl) pa_nil)))) (pe_one (pe_cmpR op_eq (pv 0) (pv 1) (nomark _)))))))
      pss_nil)
    (pss_cons (ps_if (pt_val (pe_callB call_isi (by rfl) T.z_isinstance (by decide +kernel) (pa_cons (pv 1) (pa_cons (pe_bltn (v := .ty "str") (by rfl) T.z_str (by decide +kernel) rfl) pa_nil))))
      (pss_one (ps_ret (pe_and (pe_callB call_isi (by rfl) T.z_isinstance (by decide +kernel) (pa_cons (pv 0) (pa_cons (pe_bltn (v := .ty "str") (by rfl) T.z_str (by decide +kernel) rfl) pa_nil))) (pe_one (pe_cmpR op_eq (pv 0) (pv 1) (nomark _))))))
      pss_nil)
    (pss_one (ps_ret (pe_cmpR op_isN (pv 0) pe_non (nomark _)))))))), ?_⟩
    walk_at "wp"
    rw [show decide (V.int i = V.int j) = decide (i = j) by rw [decide_eq_decide]; exact ⟨V.int.inj, fun e => by rw [e]⟩]
    exact q
theorem strC_zero (r : List Int) (e : Nat) (t : Int) : strC r 0 e t = if e = 0 then 1 else if t ∈ r.take e then (e : Int) - 1 else e := by
  unfold strC
  by_cases h : e = 0
  · subst h
    rfl
  · rw [if_neg (Ne.symm h), if_neg h, List.drop_zero, Nat.sub_zero]
    by_cases m : t ∈ r.take e
    · rw [if_pos m, if_pos m]
      show (e : Int) - 0 - 1 = _
      omega
    · rw [if_neg m, if_neg m]
      show (e : Int) - 0 = _
      omega
theorem strC_step {r : List Int} {k : Nat} {t y : Int} (h : r[k]? = some y) : strC r 0 (k + 1) t = min ((k : Int) + (if y = t then 0 else 1)) (min ((k : Int) + 2) (strC r 0 k t + 1)) := by
  rw [strC_zero, strC_zero, if_neg (Nat.succ_ne_zero k), List.take_add_one, h]
  have e : (t ∈ r.take k ++ (some y).toList) ↔ (t ∈ r.take k ∨ t = y) := by simp
  by_cases hk : k = 0
  · subst hk
    rw [if_pos rfl]
    by_cases hy : y = t
    · subst hy
      rw [if_pos (e.mpr (.inr rfl)), if_pos rfl]
      decide
    · rw [if_neg hy, if_neg (fun z => hy (by rcases e.mp z with z | z; simp at z; exact z.symm))]
      decide
  · rw [if_neg hk]
    by_cases m : t ∈ r.take k
    · rw [if_pos m, if_pos (e.mpr (.inl m))]
      split <;> omega
    · rw [if_neg m]
      by_cases hy : y = t
      · rw [if_pos (e.mpr (.inr hy.symm)), if_pos hy]
        omega
      · rw [if_neg hy, if_neg (fun z => by rcases e.mp z with z | z; exact m z; exact hy z.symm)]
        omega
theorem places_min {r : List Int} {t m : Int} (h0 : 0 < r.length) (hm : m ∈ r.map fun y => (r.length : Int) - 1 + (if y = t then 0 else 1)) (hb : ∀ n ∈ r.map fun y => (r.length : Int) - 1 + (if y = t then 0 else 1), m ≤ n) : m = strC r 0 r.length t := by
  rw [strC_zero, if_neg (by omega), List.take_length]
  obtain ⟨y, hy, rfl⟩ := List.mem_map.mp hm
  by_cases h : t ∈ r
  · rw [if_pos h]
    have := hb _ (List.mem_map.mpr ⟨t, h, rfl⟩)
    rw [if_pos rfl] at this
    split at this <;> split <;> omega
  · rw [if_neg h, if_neg (fun (z : y = t) => h (z ▸ hy))]
    omega
theorem rng_at {f : Nat → V} {n k : Nat} (h : k < n) : ((List.range n).map f)[k]? = some (f k) := by
  rw [List.getElem?_map, List.getElem?_range h]
  rfl
theorem atI_end {α : Type} {xs : List α} {v : α} {n : Nat} (hl : xs.length = n + 1) (h : xs[n]? = some v) : atI xs (-1) = some v := by
  unfold atI ixN
  rw [if_neg (by decide), if_pos (by omega)]
  show xs[((-1 : Int) + xs.length).toNat]? = some v
  rw [show ((-1 : Int) + xs.length).toNat = n by omega]
  exact h
theorem ne_val {y t : Int} : (if (!decide (V.int y = V.int t)) = true then (1 : Int) else 0) = if y = t then 0 else 1 := by
  by_cases h : y = t
  · rw [h, decide_eq_true rfl, if_pos rfl]
    rfl
  · rw [decide_eq_false (fun z => h (V.int.inj z)), if_neg h]
    rfl
theorem map_getD {r : List Int} (f : Int → V) : ((List.range r.length).map fun i => f (r.getD i 0)) = r.map f := by
  apply List.ext_getElem?
  intro i
  by_cases h : i < r.length
  · rw [List.getElem?_map, List.getElem?_range h, List.getElem?_map, List.getElem?_eq_getElem h]
    show some (f (r.getD i 0)) = some (f r[i])
    rw [List.getD_eq_getElem?_getD, List.getElem?_eq_getElem h]
    rfl
  · rw [List.getElem?_eq_none (by rw [List.length_map, List.length_range]; omega), List.getElem?_eq_none (by rw [List.length_map]; omega)]
def sp_law_costs (K : PySem.W.Frag) : Sp := fun vs H Q _ => ∃ (p t0 : Addr) (r : List Int) (t : Int), vs = [.ref p, .ref t0] ∧ H p = some (.lst (r.map V.int)) ∧ SqT K H t0 [.int t] ∧ r.length ≤ 1000 ∧ ∀ p2 H', Same H H' → H' p2 = some (.lst ((List.range (r.length + 1)).map fun (k : Nat) => V.int (strC r 0 k t))) → Q (.ref p2) H'
theorem ok_law_costs (T : Txt K mg a) : FnOk P w K mg base CX0 1 a.law_costs a.law_costs_d ["row", "word"] (sp_law_costs K) := by
  refine T.F_law_costs.ok sc_law_costs (fun vs H Q E h => ?_) (fun cdv A outer s H vs Q E hr h => ?_)
  · obtain ⟨p, t0, r, t, rfl, _⟩ := h
    rfl
  · obtain ⟨p, t0, r, t, rfl, ep, et, lr, q⟩ := h
    refine ⟨_, (pss_cons (ps_set (i := 2) sc_law_costs.nd rfl (.inl rfl) (pe_callTy (call_list_rng hr.hd) (by rfl) T.z_list (by decide +kernel) (pa_cons (pe_callTy cr_range1 (by rfl) T.z_range (by decide +kernel) (pa_cons (pe_op op_add (pe_callB call_len (by rfl) T.z_len (by decide +kernel) (pa_cons (pv 0) pa_nil)) pe_int) pa_nil)) pa_nil)))
    (pss_cons (ps_for PassesOwn.never rfl (pi_tup (pv 1)) (pg_name (i := 3) sc_law_costs.nd rfl (.inl rfl))
      (pss_cons (ps_set (i := 4) sc_law_costs.nd rfl (.inl rfl) (pe_lst (pa_cons (pe_op op_add (pe_ix ix_list (pv 2) pe_int (fun _ _ => rfl)) pe_int) pa_nil)))
      (pss_cons (ps_for PassesOwn.never rfl (pi_range1 (by rfl) T.z_range (pa_cons (pe_callB call_len (by rfl) T.z_len (by decide +kernel) (pa_cons (pv 0) pa_nil)) pa_nil)) (pg_name (i := 5) sc_law_costs.nd rfl (.inl rfl))
        (pss_one (ps_expr (pe_bm PySem.F.plainAttrs_list PySem.F.slot_list_append PySem.F.type_list_append mt_append (pv 4) (pa_cons (pe_callB (cr_min rfl) (by rfl) T.z_min (by decide +kernel) (pa_cons (pe_lst (pa_cons (pe_op op_add (pe_ix ix_list (pv 2) (pv 5) (fun _ _ => rfl)) (pe_callTy call_int1 (by rfl) T.z_int (by decide +kernel) (pa_cons (pe_cmpR op_ne (pe_ix ix_list (pv 0) (pv 5) (fun _ _ => rfl)) (pv 3) (nomark _)) pa_nil))) (pa_cons (pe_op op_add (pe_ix ix_list (pv 2) (pe_op op_add (pv 5) pe_int) (fun _ _ => rfl)) pe_int) (pa_cons (pe_op op_add (pe_ix ix_list (pv 4) (pv 5) (fun _ _ => rfl)) pe_int) pa_nil)))) pa_nil)) pa_nil)))))
      (pss_one (ps_set (i := 2) sc_law_costs.nd rfl (.inl rfl) (pv 4))))))
    (pss_one (ps_ret (pv 2))))), ?_⟩
    walk_at "wp"
    intro rp hrp
    rw [List.length_map]
    walk_at "wp"
    refine ⟨rp, 0, _, rfl, upd_same, ⟨by decide, by decide, by omega, by omega⟩, by omega, fun cs hcs => ?_⟩
    have s1 := (Same.new (o := .rng 0 ((r.length : Int) + 1)) hrp).trans (Same.new (o := .lst ((List.range ((r.length : Int) + 1 - 0).toNat).map fun (i : Nat) => V.int (0 + i))) hcs)
    have et1 := s1.seqT et
    rw [show ((r.length : Int) + 1 - 0).toNat = r.length + 1 by omega] at s1 et1 ⊢
    walk_at "wp"
    refine ⟨⟨_, et1⟩, for_it (walk_tup (xs := [.int t])) (fun i σ H' => ∃ (c : Addr) (o3 o4 o5 : Option V), σ = [some (.ref p), some (.ref t0), some (.ref c), o3, o4, o5] ∧ Same H H' ∧ H' c = some (.lst ((List.range (r.length + 1)).map fun (k : Nat) => if i = 0 then V.int k else V.int (strC r 0 k t)))) ⟨cs, none, none, none, rfl, s1, ?_⟩ (fun i σ H' _ ⟨_, _, _, _, _, s, _⟩ => s.seqT et) ?_ ?_⟩
    · rw [upd_same]
      simp
    · rintro i y σ H2 H3 hi ⟨c, o3, o4, o5, rfl, s2, e2⟩ ⟨eH, hy⟩
      subst eH
      obtain rfl : i = 0 := by simpa using hi
      cases hy
      have e2 : H3 c = some (.lst ((List.range (r.length + 1)).map fun (k : Nat) => V.int k)) := by simpa using e2
      walk_at "wp"
      refine ixL_go (SqL.of e2) (atI_of (j := 0) rfl (rng_at (by omega))) ?_
      walk_at "wp"
      refine ⟨disp rfl, fun nw hnw => ?_⟩
      have s3 := s2.trans (Same.new (o := .lst [.int (((0 : Nat) : Int) + 1)]) hnw)
      have e3 := upd_get (o := .lst [.int (((0 : Nat) : Int) + 1)]) hnw e2
      walk_at "wp"
      rw [List.length_map]
      refine ⟨by omega, by omega, for_range (lo := 0) (n := ((r.length : Nat) : Int).toNat) (fun k σ H' => ∃ (o5 : Option V), σ = [some (.ref p), some (.ref t0), some (.ref c), some (.int t), some (.ref nw), o5] ∧ Same H H' ∧ H' c = some (.lst ((List.range (r.length + 1)).map fun (k : Nat) => V.int k)) ∧ H' nw = some (.lst ((List.range (k + 1)).map fun (j : Nat) => V.int (strC r 0 j t)))) ⟨_, rfl, s3, e3, upd_same⟩ ?_ ?_⟩
      · rintro k σ H4 hk ⟨o5, rfl, s4, e4, e5⟩
        rw [Int.toNat_natCast] at hk
        have ep4 := s4 _ _ ep
        obtain ⟨y, hy⟩ : ∃ y, r[k]? = some y := ⟨r[k], List.getElem?_eq_getElem hk⟩
        walk_at "wp"
        refine ixL_go (SqL.of e4) (atI_of (j := k) (by omega) (rng_at (by omega))) ?_
        walk_at "wp"
        refine ixL_go (SqL.of ep4) (atI_of (j := k) (v := .int y) (by omega) (by rw [List.getElem?_map, hy]; rfl)) ?_
        walk_at "wp"
        refine ixL_go (SqL.of e4) (atI_of (i := 0 + (k : Int) + 1) (j := k + 1) (by omega) (rng_at (n := r.length + 1) (k := k + 1) (by omega))) ?_
        walk_at "wp"
        refine ixL_go (SqL.of e5) (atI_of (j := k) (by omega) (rng_at (n := k + 1) (k := k) (by omega))) ?_
        walk_at "wp"
        refine ⟨disp rfl, fun l3 hl3 => ?_⟩
        refine ⟨l3, [(k : Int) + (if (!decide (V.int y = V.int t)) = true then 1 else 0), ((k + 1 : Nat) : Int) + 1, strC r 0 k t + 1], rfl, SqL.of upd_same, Nat.succ_pos _, fun m hm hb => ?_⟩
        have em : m = strC r 0 (k + 1) t := by
          rw [strC_step hy]
          rw [ne_val] at hm hb
          simp only [List.mem_cons, List.not_mem_nil, or_false] at hm hb
          have b1 := hb _ (.inl rfl)
          have b2 := hb _ (.inr (.inl rfl))
          have b3 := hb _ (.inr (.inr rfl))
          generalize (if y = t then (0 : Int) else 1) = q at *
          rcases hm with rfl | rfl | rfl <;> omega
        subst em
        have e6 := upd_get (o := .lst [.int ((k : Int) + (if (!decide (V.int y = V.int t)) = true then 1 else 0)), .int (((k + 1 : Nat) : Int) + 1), .int (strC r 0 k t + 1)]) hl3 e5
        walk_at "wp"
        refine ⟨nw, _, _, rfl, rfl, e6, lt_line (by rw [List.length_map, List.length_range]; omega), ?_⟩
        have ncw : c ≠ nw := ne_of_none e2 hnw
        refine ⟨_, rfl, (s4.trans (Same.new hl3)).mut (free_same s2 hnw), ?_, ?_⟩
        · rw [upd_ne ncw]
          exact upd_get hl3 e4
        · rw [upd_same, List.range_succ (n := k + 1), List.map_append]
          rfl
      · rintro σ H4 ⟨o5, rfl, s4, e4, e5⟩
        rw [Int.toNat_natCast] at e5
        walk_at "wp"
        refine ⟨_, _, _, _, rfl, s4, ?_⟩
        rw [e5]
        simp
    · rintro σ H2 ⟨c, o3, o4, o5, rfl, s2, e2⟩
      walk_at "wp"
      exact q c H2 s2 e2
def sp_law_by_places (K : PySem.W.Frag) : Sp := fun vs H Q _ => ∃ (p : Addr) (r : List Int) (t : Int), vs = [.ref p, .int t] ∧ H p = some (.lst (r.map V.int)) ∧ r.length ≤ 1000 ∧ ∀ H', Same H H' → Q (.int (strC r 0 r.length t)) H'
theorem ok_law_by_places (T : Txt K mg a) : FnOk P w K mg base CX0 1 a.law_by_places a.law_by_places_d ["row", "token"] (sp_law_by_places K) := by
  refine T.F_law_by_places.ok sc_law_by_places (fun vs H Q E h => ?_) (fun cdv A outer s H vs Q E hr h => ?_)
  · obtain ⟨p, r, t, rfl, _⟩ := h
    rfl
  · obtain ⟨p, r, t, rfl, ep, lr, q⟩ := h
    refine ⟨_, (pss_cons (ps_if (pt_cmpR op_eq (pe_callB call_len (by rfl) T.z_len (by decide +kernel) (pa_cons (pv 0) pa_nil)) pe_int (nomark _))
      (pss_one (ps_ret pe_int))
      pss_nil)
    (pss_one (ps_ret (pe_callB (cr_min rfl) (by rfl) T.z_min (by decide +kernel) (pa_cons (pe_lc (own := [("there", 2)]) rfl sc_law_by_places.nd (pi_list (pv 0)) (blkOk_by (own := [("there", 2)]) (N := ["row", "token", "there"]) (sc := defScope s_law_by_places) (by decide +kernel)) (fun _ _ _ _ _ => (pg_name (i := 2) sc_law_by_places.nd rfl (Or.inl rfl))) (fun _ _ _ _ _ => pts_nil) (fun _ _ _ _ _ => (pe_op op_add (pe_op op_sub (pe_callB (show CallR _ (.builtin "len") (Al.rLen K) from call_len) (by rfl) T.z_len (by decide +kernel) (pa_cons (pv 0) pa_nil)) pe_int) (pe_callTy call_int1 (by rfl) T.z_int (by decide +kernel) (pa_cons (pe_cmpR op_ne (pv 2) (pv 1) (nomark _)) pa_nil))))) pa_nil))))), ?_⟩
    walk_at "wp"
    by_cases h0 : r.length = 0
    · refine brT (by rw [List.length_map, h0]; rfl) ?_
      walk_at "wp"
      have := q H (.refl _)
      rw [h0, strC_zero, if_pos rfl] at this
      exact this
    · refine brF (by rw [List.length_map]; exact decide_eq_false (fun z => h0 (by have := V.int.inj z; omega))) ?_
      walk_at "wp"
      refine ⟨⟨_, SqL.of ep⟩, fun D hD => ?_⟩
      refine lcF walk_list (fun i => V.int ((r.length : Int) - 1 + (if r.getD i 0 = t then 0 else 1))) (by rw [List.length_map]; omega) hD (fun _ s => SqL.of (s _ _ ep)) (fun i y H3 H2 R hi s2 ⟨eH, ey⟩ k => ?_) fun H2 s2 e2 => ?_
      · subst eH
        rw [List.getElem?_map] at ey
        obtain ⟨z, hz, rfl⟩ := Option.map_eq_some_iff.mp ey
        refine ⟨rfl, ?_⟩
        have ep2 := s2 _ _ ep
        walk_at "wp"
        have := k H2 (.refl _)
        rw [List.getD_eq_getElem?_getD, hz] at this
        show R (V.int (((r.map V.int).length : Nat) - 1 + (if (!decide (V.int z = V.int t)) = true then 1 else 0))) H2
        rw [List.length_map, ne_val]
        exact this
      · rw [List.length_map, map_getD (fun y => V.int ((r.length : Int) - 1 + (if y = t then 0 else 1)))] at e2
        walk_at "wp"
        refine ⟨D, r.map fun y => (r.length : Int) - 1 + (if y = t then 0 else 1), rfl, SqL.of (by rw [List.map_map]; exact e2), by rw [List.length_map]; omega, fun m hm hb => ?_⟩
        rw [places_min (by omega) hm hb]
        exact q _ s2
theorem cut_strs {ts : List Str} {n : Nat} (h : n ≤ ts.length) : cutV (ts.map V.str) none (some (n : Int)) = (ts.take n).map V.str := by
  unfold cutV
  rw [HT.sIx_nat, HT.sIx_none, List.length_map, Nat.min_eq_left h, List.drop_zero, Nat.sub_zero, ← List.map_take]
theorem dpAll_ints {H : Hp} : ∀ r : List Int, DpAll K H (r.map V.int) (r.map PyData.int)
  | [] => .nil
  | x :: xs => .cons (.int x) (dpAll_ints xs)
theorem lay_ints : ∀ r : List Int, PyData.canLayAll0 (r.map PyData.int) = true
  | [] => by simp only [List.map_nil, PyData.canLayAll0]
  | x :: xs => by simp only [List.map_cons, PyData.canLayAll0, PyData.canLay0, lay_ints xs, Bool.and_self]
theorem depth_ints : ∀ r : List Int, PyData.depthAll (r.map PyData.int) = 0
  | [] => by simp only [List.map_nil, PyData.depthAll]
  | x :: xs => by simp only [List.map_cons, PyData.depthAll, PyData.depth, depth_ints xs, Nat.max_self]
theorem shaped_ints (r : List Int) : SeqAt.shaped (.list (r.map PyData.int)) = true := by
  simp only [SeqAt.shaped, PyData.canLay0, PyData.depth, lay_ints, depth_ints]
  decide
theorem eqv_ints : ∀ r : List Int, PyData.eqvAll (r.map PyData.int) (r.map PyData.int) = true
  | [] => by simp only [List.map_nil, PyData.eqvAll]
  | x :: xs => by simp only [List.map_cons, PyData.eqvAll, PyData.eqv, eqv_ints xs, beq_self_eq_true, Bool.and_self]
def sp_law (K : PySem.W.Frag) : Sp := fun vs H Q _ => ∃ (p : Addr) (ns : List Int), vs = [.ref p] ∧ SqL K H p (ns.map V.int) ∧ ns.length ≤ 63 ∧ ∀ H', Q (.bl true) H'
theorem ok_law (T : Txt K mg a) : FnOk P w K mg base CX0 9 a.law a.law_d ["script"] (sp_law K) := by
  refine T.F_law.ok sc_law (fun vs H Q E h => ?_) (fun cdv A outer s H vs Q E hr h => ?_)
  · obtain ⟨p, ns, rfl, _⟩ := h
    rfl
  · obtain ⟨p, ns, rfl, hS, hl, q⟩ := h
    refine ⟨_, (pss_cons (ps_set (i := 1) sc_law.nd rfl (.inr rfl) (pe_call (ok_law_box T) (hr.mono (by decide)) (by rfl) T.m_law_box T.F_law_box.kp (B_law_box T) .nil pass0 (pa_cons (pv 0) pa_nil)))
    (pss_cons (ps_set (i := 2) sc_law.nd rfl (.inr rfl) (pe_op op_add pe_int (pe_call (ok_law_draw T) (hr.mono (by decide)) (by rfl) T.m_law_draw T.F_law_draw.kp (B_law_draw T) .nil pass0 (pa_cons (pv 1) (pa_cons pe_int pa_nil)))))
    (Evl.pss_cut (ps_if (pt_cmpR op_eq (pe_call (ok_law_draw T) (hr.mono (by decide)) (by rfl) T.m_law_draw T.F_law_draw.kp (B_law_draw T) .nil pass0 (pa_cons (pv 1) (pa_cons pe_int pa_nil))) pe_int (nomark _))
      (pss_one (ps_set (i := 2) sc_law.nd rfl (.inr rfl) (pe_op op_add pe_int (pe_call (ok_law_draw T) (hr.mono (by decide)) (by rfl) T.m_law_draw T.F_law_draw.kp (B_law_draw T) .nil pass0 (pa_cons (pv 1) (pa_cons pe_int pa_nil))))))
      pss_nil)
    (pss_cons (ps_set (i := 3) sc_law.nd rfl (.inl rfl) (pe_call (ok_law_draw T) (hr.mono (by decide)) (by rfl) T.m_law_draw T.F_law_draw.kp (B_law_draw T) .nil pass0 (pa_cons (pv 1) (pa_cons pe_int pa_nil))))
    (Evl.pss_cut (ps_if (pt_cmpR op_eq (pe_call (ok_law_draw T) (hr.mono (by decide)) (by rfl) T.m_law_draw T.F_law_draw.kp (B_law_draw T) .nil pass0 (pa_cons (pv 1) (pa_cons pe_int pa_nil))) pe_int (nomark _))
      (pss_one (ps_set (i := 3) sc_law.nd rfl (.inl rfl) (pe_call (ok_law_draw T) (hr.mono (by decide)) (by rfl) T.m_law_draw T.F_law_draw.kp (B_law_draw T) .nil pass0 (pa_cons (pv 1) (pa_cons pe_int pa_nil)))))
      pss_nil)
    (pss_cons (ps_setLc (i := 4) (own := [("k", 11)]) rfl sc_law.nd rfl rfl (sw_true rfl rfl rfl (by decide +kernel)) (pi_range1 (by rfl) T.z_range (pa_cons (pv 3) pa_nil)) (blkOk_by (own := [("k", 11)]) (N := ["script", "box", "kinds", "size", "row", "token", "due", "handed", "tokens", "names", "grammar", "k"]) (sc := defScope s_law) (by decide +kernel)) (fun _ _ _ _ _ => (pg_name (i := 11) sc_law.nd rfl (Or.inl rfl))) (fun _ _ _ _ _ => pts_nil) (fun _ _ _ _ _ => (pe_call (ok_law_draw T) (hr.mono (by decide)) (by rfl) T.m_law_draw T.F_law_draw.kp (B_law_draw T) .nil pass0 (pa_cons (pv 1) (pa_cons (pv 2) pa_nil)))))
    (pss_cons (ps_set (i := 5) sc_law.nd rfl (.inl rfl) (pe_call (ok_law_draw T) (hr.mono (by decide)) (by rfl) T.m_law_draw T.F_law_draw.kp (B_law_draw T) .nil pass0 (pa_cons (pv 1) (pa_cons (pe_op op_add (pv 2) pe_int) pa_nil))))
    (Evl.pss_cut (ps_if (PW.pt (pw_and (pt_cmpR op_gt (pv 3) pe_int (nomark _)) (pw_and1 (pt_cmpR op_eq (pe_call (ok_law_draw T) (hr.mono (by decide)) (by rfl) T.m_law_draw T.F_law_draw.kp (B_law_draw T) .nil pass0 (pa_cons (pv 1) (pa_cons pe_int pa_nil))) pe_int (nomark _)))))
      (pss_one (ps_set (i := 5) sc_law.nd rfl (.inl rfl) (pe_ix ix_list (pv 4) (pe_call (ok_law_draw T) (hr.mono (by decide)) (by rfl) T.m_law_draw T.F_law_draw.kp (B_law_draw T) .nil pass0 (pa_cons (pv 1) (pa_cons (pv 3) pa_nil))) (fun _ _ => rfl))))
      pss_nil)
    (pss_cons (ps_set (i := 6) sc_law.nd rfl (.inl rfl) (pe_ix ix_list (pe_call (ok_law_costs T) (hr.mono (by decide)) (by rfl) T.m_law_costs T.F_law_costs.kp (B_law_costs T) .nil pass0 (pa_cons (pv 4) (pa_cons (pe_tup (pa_cons (pv 5) pa_nil)) pa_nil))) (pe_un un_neg pe_int) (fun _ _ => rfl)))
    (pss_cons (ps_if (pt_cmpR op_ne (pv 6) (pe_call (ok_law_by_places T) (hr.mono (by decide)) (by rfl) T.m_law_by_places T.F_law_by_places.kp (B_law_by_places T) .nil pass0 (pa_cons (pv 4) (pa_cons (pv 5) pa_nil))) (nomark _))
      (pss_one (ps_ret pe_bl))
      pss_nil)
    (pss_cons (ps_set (i := 7) sc_law.nd rfl (.inl rfl) (pe_callTy call_list_of (by rfl) T.z_list (by decide +kernel) (pa_cons (pv 4) pa_nil)))
    (pss_cons (ps_if (PW.pt (pw_or (pt_not (pt_val (pe_call (ok_law_same T) (hr.mono (by decide)) (by rfl) T.m_law_same T.F_law_same.kp (B_law_same T) .nil pass0 (pa_cons (pe_call (ok_token_changes T) (hr.mono (by decide)) (by rfl) T.m_token_changes T.F_token_changes.kp (B_token_changes T) .nil pass0 (pa_cons (pv 7) (pa_cons (pv 5) pa_nil))) (pa_cons (pv 6) pa_nil))))) (pw_or1 (pt_cmpR (op_neD hr.units) (pv 7) (pv 4) (nomark _)))))
      (pss_one (ps_ret pe_bl))
      pss_nil)
    (pss_cons (ps_expr (pe_bm PySem.F.plainAttrs_list PySem.F.slot_list_append PySem.F.type_list_append mt_append (pv 7) (pa_cons (pv 5) pa_nil)))
    (pss_cons (ps_if (pt_not (pt_val (pe_call (ok_law_same T) (hr.mono (by decide)) (by rfl) T.m_law_same T.F_law_same.kp (B_law_same T) .nil pass0 (pa_cons (pe_call (ok_token_changes T) (hr.mono (by decide)) (by rfl) T.m_token_changes T.F_token_changes.kp (B_token_changes T) .nil pass0 (pa_cons (pv 7) (pa_cons (pv 5) pa_nil))) (pa_cons (pe_call (ok_law_by_places T) (hr.mono (by decide)) (by rfl) T.m_law_by_places T.F_law_by_places.kp (B_law_by_places T) .nil pass0 (pa_cons (pv 7) (pa_cons (pv 5) pa_nil))) pa_nil)))))
      (pss_one (ps_ret pe_bl))
      pss_nil)
    (pss_cons (ps_if (pt_not (pt_val (pe_call (ok_law_same T) (hr.mono (by decide)) (by rfl) T.m_law_same T.F_law_same.kp (B_law_same T) .nil pass0 (pa_cons (pe_call (ok_token_changes T) (hr.mono (by decide)) (by rfl) T.m_token_changes T.F_token_changes.kp (B_token_changes T) .nil pass0 (pa_cons (pe_callTy call_tuple_of (by rfl) T.z_tuple (by decide +kernel) (pa_cons (pv 4) pa_nil)) (pa_cons (pv 5) pa_nil))) (pa_cons (pv 6) pa_nil)))))
      (pss_one (ps_ret pe_bl))
      pss_nil)
    (pss_cons (ps_set (i := 8) sc_law.nd rfl (.inl rfl) (pe_op op_add (pe_callB (cr_max rfl) (by rfl) T.z_max (by decide +kernel) (pa_cons (pe_op op_cat (pv 4) (pe_lst (pa_cons (pv 5) pa_nil))) pa_nil)) pe_int))
    (pss_cons (ps_if (PW.pt (pw_or (pt_cmpR op_gt (pe_callB call_len (by rfl) T.z_len (by decide +kernel) (pa_cons (pv 4) pa_nil)) pe_int (nomark _)) (pw_or1 (pt_cmpR op_gt (pv 8) pe_int (nomark _)))))
      (pss_one (ps_ret pe_bl))
      pss_nil)
    (pss_cons (ps_set (i := 9) sc_law.nd rfl (.inl rfl) (pe_call (ok_law_names T) (hr.mono (by decide)) (by rfl) T.m_law_names T.F_law_names.kp (B_law_names T) .nil pass0 (pa_cons (pv 1) (pa_cons (pe_op op_add (pv 8) pe_int) pa_nil))))
    (pss_cons (ps_set (i := 10) sc_law.nd rfl (.inl rfl) (pe_make T.mk_Grammar (ok_Grammar_init T) (hr.mono (by decide)) (by rfl) T.m_Grammar (B_Grammar_init T) .nil pass0 (pa_cons (pe_slice sl_list (pv 9) po_none (po_some (pe_op op_add (pv 8) pe_int))) (pa_cons (pe_lst (pa_cons (pe_tup (pa_cons (pe_ix ix_list (pv 9) (pe_op op_add (pv 8) pe_int) (fun _ _ => rfl)) (pa_cons (pe_tup (pa_cons (pe_ix ix_list (pv 9) (pv 5) (fun _ _ => rfl)) pa_nil)) pa_nil))) pa_nil)) pa_nil))))
    (pss_one (ps_ret (pe_call (ok_law_same T) (hr.mono (by decide)) (by rfl) T.m_law_same T.F_law_same.kp (B_law_same T) .nil pass0 (pa_cons (pe_call (ok_least_changes T) (hr.mono (by decide)) (by rfl) T.m_least_changes T.F_least_changes.kp (B_least_changes T) .nil pass0 (pa_cons (pv 10) (pa_cons (pe_callTy call_tuple_of (by rfl) T.z_tuple (by decide +kernel) (pa_cons (pv 4) pa_nil)) pa_nil))) (pa_cons (pv 6) pa_nil)))))))))))))))))))))))), ?_⟩
    walk_at "wp"
    refine ⟨p, ns, rfl, hS, hl, fun b l H1 s1 B1 hb0 => ?_⟩
    walk_at "wp"
    refine ⟨b, l, 4, rfl, B1, (by decide), (by decide), fun k0 H2 k00 k01 s2 B2 => ?_⟩
    walk_at "wp"
    refine ⟨fun σ' H' => ∃ kd : Int, σ' = [some (.ref p), some (.ref b), some (.int kd), none, none, none, none, none, none, none, none, none] ∧ 1 ≤ kd ∧ kd ≤ 900 ∧ Box H' b l, ?_, ?_⟩
    · walk_at "wp"
      refine ⟨b, l, 3, rfl, B2, (by decide), (by decide), fun k1 H3 k10 k11 s3 B3 => ?_⟩
      walk_at "wp"
      refine brd (fun h1 => ?_) (fun h1 => ?_)
      · walk_at "wp"
        refine ⟨b, l, 900, rfl, B3, (by decide), (by decide), fun k2 H4 k20 k21 s4 B4 => ?_⟩
        walk_at "wp"
        exact ⟨by omega, by omega, B4⟩
      · walk_at "wp"
        exact ⟨by omega, by omega, B3⟩
    · rintro σ' H3 ⟨kd, rfl, kd0, kd1, B3⟩
      walk_at "wp"
      refine ⟨b, l, 8, rfl, B3, (by decide), (by decide), fun z0 H4 z00 z01 s4 B4 => ?_⟩
      walk_at "wp"
      refine ⟨fun σ' H' => ∃ sz : Nat, σ' = [some (.ref p), some (.ref b), some (.int kd), some (.int sz), none, none, none, none, none, none, none, none] ∧ sz ≤ 90 ∧ Box H' b l, ?_, ?_⟩
      · walk_at "wp"
        refine ⟨b, l, 5, rfl, B4, (by decide), (by decide), fun k1 H5 k10 k11 s5 B5 => ?_⟩
        walk_at "wp"
        refine brd (fun h1 => ?_) (fun h1 => ?_)
        · walk_at "wp"
          refine ⟨b, l, 91, rfl, B5, (by decide), (by decide), fun k2 H6 k20 k21 s6 B6 => ?_⟩
          walk_at "wp"
          obtain ⟨k, rfl⟩ := Int.eq_ofNat_of_zero_le k20
          exact ⟨k, rfl, by omega, B6⟩
        · walk_at "wp"
          obtain ⟨k, rfl⟩ := Int.eq_ofNat_of_zero_le z00
          exact ⟨k, rfl, by omega, B5⟩
      · rintro σ' H5 ⟨sz, rfl, sz1, B5⟩
        walk_at "wp"
        refine ⟨by omega, by omega, fun D hD => ?_⟩
        have hDb := (B5.ne hD).1
        rw [show ((sz : Int)).toNat = sz by omega]
        refine lc_it walk_range (fun i H' => ∃ r : List Int, r.length = i ∧ (∀ y ∈ r, 0 ≤ y ∧ y < kd) ∧ H' D = some (.lst (r.map V.int)) ∧ Box H' b l) ⟨[], rfl, by simp, upd_same, B5.new hD⟩ (fun _ _ _ _ => trivial) (fun i y H6 H7 hi ⟨r, rl, ra, e6, B6⟩ ⟨eH, ey⟩ => ?_) fun H6 ⟨r, rl, ra, e6, B6⟩ => ?_
        · subst eH ey
          refine ⟨rfl, ?_⟩
          walk_at "wp"
          refine ⟨b, l, kd, rfl, B6, (by omega), (by omega), fun v H8 v0 v1 s8 B8 => ?_⟩
          refine ⟨_, s8 _ _ hDb e6, by rw [List.length_map]; exact lt_line (by omega), r ++ [v], by rw [List.length_append, rl]; rfl, ?_, ?_, B8.upd hDb (B5.ne hD).2⟩
          · intro y hy
            rcases List.mem_append.mp hy with hy | hy
            · exact ra y hy
            · rw [List.mem_singleton.mp hy]
              exact ⟨v0, v1⟩
          · rw [upd_same, List.map_append]
            rfl
        · walk_at "wp"
          refine ⟨b, l, kd + 1, rfl, B6, (by omega), (by omega), fun t0 H7 t00 t01 s7 B7 => ?_⟩
          have e7 := s7 _ _ hDb e6
          walk_at "wp"
          refine ⟨fun σ' H' => ∃ t : Int, σ' = [some (.ref p), some (.ref b), some (.int kd), some (.int sz), some (.ref D), some (.int t), none, none, none, none, none, none] ∧ 0 ≤ t ∧ t ≤ kd ∧ H' D = some (.lst (r.map V.int)) ∧ Box H' b l, ?_, ?_⟩
          · walk_at "wp"
            refine brd (fun h1 => ?_) (fun h1 => ?_)
            · walk_at "wp"
              refine ⟨b, l, 2, rfl, B7, (by decide), (by decide), fun k1 H8 k10 k11 s8 B8 => ?_⟩
              have e8 := s8 _ _ hDb e7
              walk_at "wp"
              refine brd (fun h2 => ?_) (fun h2 => ?_)
              · walk_at "wp"
                refine ⟨b, l, sz, rfl, B8, (by omega), (by omega), fun k2 H9 k20 k21 s9 B9 => ?_⟩
                have e9 := s9 _ _ hDb e8
                obtain ⟨t, et, t0, t1⟩ := atI_all (ns := r) (i := k2) (C := fun n => 0 ≤ n ∧ n < kd) k20 (by omega) ra
                refine ixL_go (SqL.of e9) et ?_
                walk_at "wp"
                exact ⟨t0, by omega, e9, B9⟩
              · walk_at "wp"
                exact ⟨t00, by omega, e8, B8⟩
            · walk_at "wp"
              exact ⟨t00, by omega, e7, B7⟩
          · rintro σ' H8 ⟨t, rfl, ta, tb, e8, B8⟩
            walk_at "wp"
            refine ⟨disp rfl, fun tp htp => ?_⟩
            have e9 := upd_get (o := .tup [.int t]) htp e8
            have B9 := B8.new (o := .tup [.int t]) htp
            walk_at "wp"
            refine ⟨D, tp, r, t, rfl, e9, SqT.of upd_same, by omega, fun cp H9 s9 ec => ?_⟩
            walk_at "wp"
            refine ixL_go (SqL.of ec) (atI_end (by rw [List.length_map, List.length_range]) (rng_at (k := r.length) (by omega))) ?_
            have e10 := s9 _ _ e9
            have B10 := B9.same s9
            walk_at "wp"
            refine ⟨D, r, t, rfl, e10, by omega, fun H11 s11 => ?_⟩
            have e11 := s11 _ _ e10
            have B11 := B10.same s11
            walk_at "wp"
            refine brF (by rw [decide_eq_true rfl]; rfl) ?_
            walk_at "wp"
            refine ⟨D, _, rfl, .inl (SqL.of e11), fun hd hhd => ?_⟩
            have e12 := upd_get (o := .lst (r.map V.int)) hhd e11
            have B12 := B11.new (o := .lst (r.map V.int)) hhd
            have nhD : hd ≠ D := fun z => by rw [z, e11] at hhd; cases hhd
            walk_at "wp"
            refine ⟨hd, r, t, rfl, .inl (SqL.of upd_same), fun H13 s13 => ?_⟩
            have e13 := s13 _ _ e12
            have h13 := s13 _ _ upd_same
            have B13 := B12.same s13
            walk_at "wp"
            refine brF (by rw [decide_eq_true rfl]; rfl) ?_
            walk_at "wp"
            refine ⟨.list (r.map PyData.int), .list (r.map PyData.int), .lst (SqL.of h13) (dpAll_ints r), .lst (SqL.of e13) (dpAll_ints r), shaped_ints r, shaped_ints r, ?_⟩
            walk_at "wp"
            refine brF (by simp only [PyData.eqv, eqv_ints, Bool.not_true]) ?_
            walk_at "wp"
            have h14 : (upd H13 hd (.lst (r.map V.int ++ [V.int t]))) hd = some (.lst ((r ++ [t]).map V.int)) := by
              rw [upd_same, List.map_append]
              rfl
            have e14 : (upd H13 hd (.lst (r.map V.int ++ [V.int t]))) D = some (.lst (r.map V.int)) := by
              rw [upd_ne (Ne.symm nhD)]
              exact e13
            have B14 : Box (upd H13 hd (.lst (r.map V.int ++ [V.int t]))) b l := B13.upd (B11.ne hhd).1 (B11.ne hhd).2
            generalize upd H13 hd (.lst (r.map V.int ++ [V.int t])) = H14 at h14 e14 B14 ⊢
            refine ⟨hd, r ++ [t], t, rfl, .inl (SqL.of h14), fun H15 s15 => ?_⟩
            have h15 := s15 _ _ h14
            have e15 := s15 _ _ e14
            have B15 := B14.same s15
            walk_at "wp"
            refine ⟨hd, r ++ [t], t, rfl, h15, by rw [List.length_append]; show _ + 1 ≤ _; omega, fun H16 s16 => ?_⟩
            have e16 := s16 _ _ e15
            have B16 := B15.same s16
            walk_at "wp"
            refine brF (by rw [decide_eq_true rfl]; rfl) ?_
            walk_at "wp"
            refine ⟨D, _, rfl, .inl ⟨SqL.of e16, fun tr htr => ?_⟩⟩
            have e17 := upd_get (o := .tup (r.map V.int)) htr e16
            have B17 := B16.new (o := .tup (r.map V.int)) htr
            walk_at "wp"
            refine ⟨tr, r, t, rfl, .inr (SqT.of upd_same), fun H18 s18 => ?_⟩
            have e18 := s18 _ _ e17
            have B18 := B17.same s18
            walk_at "wp"
            refine brF (by rw [decide_eq_true rfl]; rfl) ?_
            walk_at "wp"
            refine ⟨disp rfl, fun l1 hl1 => ?_⟩
            refine cat_go (upd_get hl1 e18) upd_same (by rw [List.length_map]; show _ + 1 ≤ _; omega) fun l2 hl2 => ?_
            have e20 := upd_get (o := .lst (r.map V.int ++ [V.int t])) hl2 (upd_get (o := .lst [.int t]) hl1 e18)
            have B20 := (B18.new (o := .lst [.int t]) hl1).new (o := .lst (r.map V.int ++ [V.int t])) hl2
            have h20 : (upd (upd H18 l1 (.lst [.int t])) l2 (.lst (r.map V.int ++ [V.int t]))) l2 = some (.lst ((r ++ [t]).map V.int)) := by
              rw [upd_same, List.map_append]
              rfl
            generalize (upd (upd H18 l1 (.lst [.int t])) l2 (.lst (r.map V.int ++ [V.int t]))) = H20 at h20 e20 B20 ⊢
            walk_at "wp"
            refine ⟨l2, r ++ [t], rfl, SqL.of h20, by rw [List.length_append]; show 0 < _ + 1; omega, fun M hM hb => ?_⟩
            walk_at "wp"
            rw [List.length_map]
            have hall : ∀ z ∈ r ++ [t], 0 ≤ z := fun z hz => by
              rcases List.mem_append.mp hz with hz | hz
              · exact (ra z hz).1
              · rw [List.mem_singleton.mp hz]
                exact ta
            obtain ⟨N, rfl⟩ := Int.eq_ofNat_of_zero_le (hall M hM)
            refine brd (fun h1 => ?_) (fun h1 => ?_)
            · walk_at "wp"
              exact q _
            · walk_at "wp"
              refine brd (fun h2 => ?_) (fun h2 => ?_)
              · walk_at "wp"
                exact q _
              · walk_at "wp"
                refine ⟨b, l, N + 3, (by show [V.ref b, V.int ((N : Int) + 1 + 2)] = _; rw [show ((N : Int) + 1 + 2) = ((N + 3 : Nat) : Int) by omega]), B20, by omega, fun nl H21 ts s21 B21 e21 lt ok nd => ?_⟩
                have d21 := s21 _ _ hDb e20
                walk_at "wp"
                refine ⟨nl, _, rfl, SqL.of e21, fun n2 hn2 => ?_⟩
                rw [show (some ((N : Int) + 1 + 1)) = some (((N + 2 : Nat) : Int)) by congr 1, cut_strs (by omega)]
                have t22 := upd_get (o := .lst ((ts.take (N + 2)).map V.str)) hn2 e21
                have d22 := upd_get (o := .lst ((ts.take (N + 2)).map V.str)) hn2 d21
                obtain ⟨g, hg⟩ : ∃ g, ts[N + 2]? = some g := ⟨ts[N + 2], List.getElem?_eq_getElem (by omega)⟩
                obtain ⟨c, rfl⟩ := Int.eq_ofNat_of_zero_le ta
                have cN : c ≤ N := by
                  have := hb (c : Int) (List.mem_append_right _ (List.mem_singleton.mpr rfl))
                  omega
                obtain ⟨tn, htn⟩ : ∃ g, ts[c]? = some g := ⟨ts[c], List.getElem?_eq_getElem (by omega)⟩
                have nd2 : (ts.take (N + 2) ++ ts.drop (N + 2)).Nodup := by
                  rw [List.take_append_drop]
                  exact nd
                obtain ⟨nd3, _, nd4⟩ := List.nodup_append.mp nd2
                have gd : g ∈ ts.drop (N + 2) := List.mem_of_getElem? (i := 0) (by rw [List.getElem?_drop]; exact hg)
                walk_at "wp"
                refine ixL_go (SqL.of t22) (atI_of (i := (N : Int) + 1 + 1) (j := N + 2) (v := .str g) (by omega) (by rw [List.getElem?_map, hg]; rfl)) ?_
                walk_at "wp"
                refine ixL_go (SqL.of t22) (atI_of (i := (c : Int)) (j := c) (v := .str tn) rfl (by rw [List.getElem?_map, htn]; rfl)) ?_
                walk_at "wp"
                refine ⟨disp rfl, fun pa hpa => ?_⟩
                walk_at "wp"
                refine ⟨disp rfl, fun rx hrx => ?_⟩
                walk_at "wp"
                refine ⟨disp rfl, fun rl hrl => ?_⟩
                walk_at "wp"
                intro ga gda hga hgda hne
                have c1 := Same.new (o := .tup [.str tn]) hpa
                have c2 := Same.new (o := .tup [.str g, .ref pa]) hrx
                have c3 := Same.new (o := .lst [.ref rx]) hrl
                refine ⟨ga, n2, rl, rx, pa, gda, _, ts.take (N + 2), g, tn, c, rfl, Ins.start hga hgda hne, c3 _ _ (c2 _ _ (c1 _ _ upd_same)), upd_same, ⟨c3 _ _ upd_same, c3 _ _ (c2 _ _ upd_same)⟩, ok g (List.mem_of_getElem? hg), fun z hz => ok z (List.mem_of_mem_take hz), by rw [List.getElem?_take, if_pos (by omega)]; exact htn, fun hm => nd4 g hm g gd rfl, by rw [List.length_take]; omega, nd3, fun H23 s23 gr => ⟨rfl, ?_⟩⟩
                have d23 := s23 _ _ (c3 _ _ (c2 _ _ (c1 _ _ d22)))
                rw [List.length_take, Nat.min_eq_left (show N + 2 ≤ ts.length by omega)] at gr
                walk_at "wp"
                refine ⟨D, _, rfl, .inl ⟨SqL.of d23, fun tq htq => ?_⟩⟩
                have gr2 := gr.same (Same.new (o := .tup (r.map V.int)) htq)
                walk_at "wp"
                refine ⟨ga, tq, N + 2, c, r, rfl, gr2, SqT.of upd_same, by omega, fun z hz => ⟨(ra z hz).1, ?_⟩, fun H24 s24 => ?_⟩
                · have := hb z (List.mem_append_left _ hz)
                  omega
                · walk_at "wp"
                  rw [decide_eq_true rfl]
                  exact q _

end
theorem all_mk {l : PySem.W.OpenLaw} {w : World} {K : PySem.W.Frag} {h : Heap} {mg : Str → Option Value} {fa : Addr} (X : K.In h) (G : h.Ns mainGlobals mg) (hfa : mg "law" = some (.ref fa))
    {f_wall f_is_integer f_is_below f_is_sequence f_is_name f_are_names f_stretch_cost f_Prices_init f_Prices_price f_InvalidKinds_init f_InvalidRules_init f_InvalidTokens_init f_added f_lowest f_Tabling_init f_Tabling_lay f_Tabling_inner_sums f_Tabling_sum_by f_Tabling_add_up f_Tabling_by_rule f_Tabling_lowers f_Tabling_entries f_is_row f_row_asked f_least_changes f_token_changes f_Beginnings_init f_empty_groups f_first_table f_first_of f_marked_ones f_behind_dots f_joined_ones f_with_trees f_can_stand f_reached f_useless_rules f_Grammar_init f_Grammar_eq f_are_rules f_is_rule_pair f_groups_in f_rules_with f_law_box f_law_draw f_law_same f_law_names f_law_costs f_law_by_places f_law c_Prices c_TreeError c_InvalidKinds c_InvalidRules c_InvalidTokens c_Tabling c_Beginnings c_Grammar : Addr}
    {od0 an0 : Option Addr} {sl0 : Array (Option Value)} {oc0 kV0 dc0 pm0 cd0 ct0 : Value}
    {od1 an1 : Option Addr} {sl1 : Array (Option Value)} {oc1 kV1 dc1 pm1 cd1 ct1 : Value}
    {od2 an2 : Option Addr} {sl2 : Array (Option Value)} {oc2 kV2 dc2 pm2 cd2 ct2 : Value}
    {od3 an3 : Option Addr} {sl3 : Array (Option Value)} {oc3 kV3 dc3 pm3 cd3 ct3 : Value}
    {od4 an4 : Option Addr} {sl4 : Array (Option Value)} {oc4 kV4 dc4 pm4 cd4 ct4 : Value}
    {od5 an5 : Option Addr} {sl5 : Array (Option Value)} {oc5 kV5 dc5 pm5 cd5 ct5 : Value}
    {od6 an6 : Option Addr} {sl6 : Array (Option Value)} {oc6 kV6 dc6 pm6 cd6 ct6 : Value}
    {od7 an7 : Option Addr} {sl7 : Array (Option Value)} {oc7 kV7 dc7 pm7 cd7 ct7 : Value}
    {od8 an8 : Option Addr} {sl8 : Array (Option Value)} {oc8 kV8 dc8 pm8 cd8 ct8 : Value}
    {od9 an9 : Option Addr} {sl9 : Array (Option Value)} {oc9 kV9 dc9 pm9 cd9 ct9 : Value}
    {od10 an10 : Option Addr} {sl10 : Array (Option Value)} {oc10 kV10 dc10 pm10 cd10 ct10 : Value}
    {od11 an11 : Option Addr} {sl11 : Array (Option Value)} {oc11 kV11 dc11 pm11 cd11 ct11 : Value}
    {od12 an12 : Option Addr} {sl12 : Array (Option Value)} {oc12 kV12 dc12 pm12 cd12 ct12 : Value}
    {od13 an13 : Option Addr} {sl13 : Array (Option Value)} {oc13 kV13 dc13 pm13 cd13 ct13 : Value}
    {od14 an14 : Option Addr} {sl14 : Array (Option Value)} {oc14 kV14 dc14 pm14 cd14 ct14 : Value}
    {od15 an15 : Option Addr} {sl15 : Array (Option Value)} {oc15 kV15 dc15 pm15 cd15 ct15 : Value}
    {od16 an16 : Option Addr} {sl16 : Array (Option Value)} {oc16 kV16 dc16 pm16 cd16 ct16 : Value}
    {od17 an17 : Option Addr} {sl17 : Array (Option Value)} {oc17 kV17 dc17 pm17 cd17 ct17 : Value}
    {od18 an18 : Option Addr} {sl18 : Array (Option Value)} {oc18 kV18 dc18 pm18 cd18 ct18 : Value}
    {od19 an19 : Option Addr} {sl19 : Array (Option Value)} {oc19 kV19 dc19 pm19 cd19 ct19 : Value}
    {od20 an20 : Option Addr} {sl20 : Array (Option Value)} {oc20 kV20 dc20 pm20 cd20 ct20 : Value}
    {od21 an21 : Option Addr} {sl21 : Array (Option Value)} {oc21 kV21 dc21 pm21 cd21 ct21 : Value}
    {od22 an22 : Option Addr} {sl22 : Array (Option Value)} {oc22 kV22 dc22 pm22 cd22 ct22 : Value}
    {od23 an23 : Option Addr} {sl23 : Array (Option Value)} {oc23 kV23 dc23 pm23 cd23 ct23 : Value}
    {od24 an24 : Option Addr} {sl24 : Array (Option Value)} {oc24 kV24 dc24 pm24 cd24 ct24 : Value}
    {od25 an25 : Option Addr} {sl25 : Array (Option Value)} {oc25 kV25 dc25 pm25 cd25 ct25 : Value}
    {od26 an26 : Option Addr} {sl26 : Array (Option Value)} {oc26 kV26 dc26 pm26 cd26 ct26 : Value}
    {od27 an27 : Option Addr} {sl27 : Array (Option Value)} {oc27 kV27 dc27 pm27 cd27 ct27 : Value}
    {od28 an28 : Option Addr} {sl28 : Array (Option Value)} {oc28 kV28 dc28 pm28 cd28 ct28 : Value}
    {od29 an29 : Option Addr} {sl29 : Array (Option Value)} {oc29 kV29 dc29 pm29 cd29 ct29 : Value}
    {od30 an30 : Option Addr} {sl30 : Array (Option Value)} {oc30 kV30 dc30 pm30 cd30 ct30 : Value}
    {od31 an31 : Option Addr} {sl31 : Array (Option Value)} {oc31 kV31 dc31 pm31 cd31 ct31 : Value}
    {od32 an32 : Option Addr} {sl32 : Array (Option Value)} {oc32 kV32 dc32 pm32 cd32 ct32 : Value}
    {od33 an33 : Option Addr} {sl33 : Array (Option Value)} {oc33 kV33 dc33 pm33 cd33 ct33 : Value}
    {od34 an34 : Option Addr} {sl34 : Array (Option Value)} {oc34 kV34 dc34 pm34 cd34 ct34 : Value}
    {od35 an35 : Option Addr} {sl35 : Array (Option Value)} {oc35 kV35 dc35 pm35 cd35 ct35 : Value}
    {od36 an36 : Option Addr} {sl36 : Array (Option Value)} {oc36 kV36 dc36 pm36 cd36 ct36 : Value}
    {od37 an37 : Option Addr} {sl37 : Array (Option Value)} {oc37 kV37 dc37 pm37 cd37 ct37 : Value}
    {od38 an38 : Option Addr} {sl38 : Array (Option Value)} {oc38 kV38 dc38 pm38 cd38 ct38 : Value}
    {od39 an39 : Option Addr} {sl39 : Array (Option Value)} {oc39 kV39 dc39 pm39 cd39 ct39 : Value}
    {od40 an40 : Option Addr} {sl40 : Array (Option Value)} {oc40 kV40 dc40 pm40 cd40 ct40 : Value}
    {od41 an41 : Option Addr} {sl41 : Array (Option Value)} {oc41 kV41 dc41 pm41 cd41 ct41 : Value}
    {od42 an42 : Option Addr} {sl42 : Array (Option Value)} {oc42 kV42 dc42 pm42 cd42 ct42 : Value}
    {od43 an43 : Option Addr} {sl43 : Array (Option Value)} {oc43 kV43 dc43 pm43 cd43 ct43 : Value}
    {od44 an44 : Option Addr} {sl44 : Array (Option Value)} {oc44 kV44 dc44 pm44 cd44 ct44 : Value}
    {od45 an45 : Option Addr} {sl45 : Array (Option Value)} {oc45 kV45 dc45 pm45 cd45 ct45 : Value}
    {od46 an46 : Option Addr} {sl46 : Array (Option Value)} {oc46 kV46 dc46 pm46 cd46 ct46 : Value}
    {od47 an47 : Option Addr} {sl47 : Array (Option Value)} {oc47 kV47 dc47 pm47 cd47 ct47 : Value}
    {od48 an48 : Option Addr} {sl48 : Array (Option Value)} {oc48 kV48 dc48 pm48 cd48 ct48 : Value}
    {od49 an49 : Option Addr} {sl49 : Array (Option Value)} {oc49 kV49 dc49 pm49 cd49 ct49 : Value}
    {v_LETTERS : Value}
    {v_LONGEST : Value}
    {nm_InvalidKinds qn_InvalidKinds : Str} {nn_InvalidKinds : Addr} {bs_InvalidKinds bm_InvalidKinds : List Value} {sn_InvalidKinds : List Str} {sb_InvalidKinds : List Value} {ab_InvalidKinds : Bool} {cl_InvalidKinds : Option Bool} {dd_InvalidKinds : Option Addr} {m0_InvalidKinds m1_InvalidKinds m2_InvalidKinds m3_InvalidKinds m5_InvalidKinds : Option Value}
    {nm_InvalidRules qn_InvalidRules : Str} {nn_InvalidRules : Addr} {bs_InvalidRules bm_InvalidRules : List Value} {sn_InvalidRules : List Str} {sb_InvalidRules : List Value} {ab_InvalidRules : Bool} {cl_InvalidRules : Option Bool} {dd_InvalidRules : Option Addr} {m0_InvalidRules m1_InvalidRules m2_InvalidRules m3_InvalidRules m5_InvalidRules : Option Value}
    {nm_InvalidTokens qn_InvalidTokens : Str} {nn_InvalidTokens : Addr} {bs_InvalidTokens bm_InvalidTokens : List Value} {sn_InvalidTokens : List Str} {sb_InvalidTokens : List Value} {ab_InvalidTokens : Bool} {cl_InvalidTokens : Option Bool} {dd_InvalidTokens : Option Addr} {m0_InvalidTokens m1_InvalidTokens m2_InvalidTokens m3_InvalidTokens m5_InvalidTokens : Option Value}
    (ac_Prices : PySem.W.nsIn K mainGlobals "Prices" = some (some (.ref c_Prices)))
    (ac_TreeError : PySem.W.nsIn K mainGlobals "TreeError" = some (some (.ref c_TreeError)))
    (ac_InvalidKinds : PySem.W.nsIn K mainGlobals "InvalidKinds" = some (some (.ref c_InvalidKinds)))
    (ac_InvalidRules : PySem.W.nsIn K mainGlobals "InvalidRules" = some (some (.ref c_InvalidRules)))
    (ac_InvalidTokens : PySem.W.nsIn K mainGlobals "InvalidTokens" = some (some (.ref c_InvalidTokens)))
    (ac_Tabling : PySem.W.nsIn K mainGlobals "Tabling" = some (some (.ref c_Tabling)))
    (ac_Beginnings : PySem.W.nsIn K mainGlobals "Beginnings" = some (some (.ref c_Beginnings)))
    (ac_Grammar : PySem.W.nsIn K mainGlobals "Grammar" = some (some (.ref c_Grammar)))
    (a0 : PySem.W.nsIn K mainGlobals "_wall" = some (some (.ref f_wall)))
    (l0 : K.lookup f_wall = some ⟨oc0, od0, .func (PySem.W.fnOf "_wall" "_wall" (defArgs s_wall) (defBody s_wall) (defScope s_wall) .none kV0 dc0 pm0 an0 cd0 ct0), sl0⟩)
    (co0 : PySem.W.codeIn K cd0 "_wall" = true)
    (ke0 : PySem.W.keepIn K (.ref f_wall) = true)
    (a1 : PySem.W.nsIn K mainGlobals "is_integer" = some (some (.ref f_is_integer)))
    (l1 : K.lookup f_is_integer = some ⟨oc1, od1, .func (PySem.W.fnOf "is_integer" "is_integer" (defArgs s_is_integer) (defBody s_is_integer) (defScope s_is_integer) .none kV1 dc1 pm1 an1 cd1 ct1), sl1⟩)
    (co1 : PySem.W.codeIn K cd1 "is_integer" = true)
    (ke1 : PySem.W.keepIn K (.ref f_is_integer) = true)
    (a2 : PySem.W.nsIn K mainGlobals "is_below" = some (some (.ref f_is_below)))
    (l2 : K.lookup f_is_below = some ⟨oc2, od2, .func (PySem.W.fnOf "is_below" "is_below" (defArgs s_is_below) (defBody s_is_below) (defScope s_is_below) .none kV2 dc2 pm2 an2 cd2 ct2), sl2⟩)
    (co2 : PySem.W.codeIn K cd2 "is_below" = true)
    (ke2 : PySem.W.keepIn K (.ref f_is_below) = true)
    (a3 : PySem.W.nsIn K mainGlobals "is_sequence" = some (some (.ref f_is_sequence)))
    (l3 : K.lookup f_is_sequence = some ⟨oc3, od3, .func (PySem.W.fnOf "is_sequence" "is_sequence" (defArgs s_is_sequence) (defBody s_is_sequence) (defScope s_is_sequence) .none kV3 dc3 pm3 an3 cd3 ct3), sl3⟩)
    (co3 : PySem.W.codeIn K cd3 "is_sequence" = true)
    (ke3 : PySem.W.keepIn K (.ref f_is_sequence) = true)
    (a4 : PySem.W.nsIn K mainGlobals "is_name" = some (some (.ref f_is_name)))
    (l4 : K.lookup f_is_name = some ⟨oc4, od4, .func (PySem.W.fnOf "is_name" "is_name" (defArgs s_is_name) (defBody s_is_name) (defScope s_is_name) .none kV4 dc4 pm4 an4 cd4 ct4), sl4⟩)
    (co4 : PySem.W.codeIn K cd4 "is_name" = true)
    (ke4 : PySem.W.keepIn K (.ref f_is_name) = true)
    (a5 : PySem.W.nsIn K mainGlobals "are_names" = some (some (.ref f_are_names)))
    (l5 : K.lookup f_are_names = some ⟨oc5, od5, .func (PySem.W.fnOf "are_names" "are_names" (defArgs s_are_names) (defBody s_are_names) (defScope s_are_names) .none kV5 dc5 pm5 an5 cd5 ct5), sl5⟩)
    (co5 : PySem.W.codeIn K cd5 "are_names" = true)
    (ke5 : PySem.W.keepIn K (.ref f_are_names) = true)
    (a6 : PySem.W.nsIn K mainGlobals "stretch_cost" = some (some (.ref f_stretch_cost)))
    (l6 : K.lookup f_stretch_cost = some ⟨oc6, od6, .func (PySem.W.fnOf "stretch_cost" "stretch_cost" (defArgs s_stretch_cost) (defBody s_stretch_cost) (defScope s_stretch_cost) .none kV6 dc6 pm6 an6 cd6 ct6), sl6⟩)
    (co6 : PySem.W.codeIn K cd6 "stretch_cost" = true)
    (ke6 : PySem.W.keepIn K (.ref f_stretch_cost) = true)
    (a7 : PySem.W.findIn K (.ref c_Prices) "__init__" = some (some (.ref f_Prices_init)))
    (l7 : K.lookup f_Prices_init = some ⟨oc7, od7, .func (PySem.W.fnOf "__init__" "Prices.__init__" (defArgs s_Prices_init) (defBody s_Prices_init) (defScope s_Prices_init) .none kV7 dc7 pm7 an7 cd7 ct7), sl7⟩)
    (co7 : PySem.W.codeIn K cd7 "Prices.__init__" = true)
    (ke7 : PySem.W.keepIn K (.ref f_Prices_init) = true)
    (a8 : PySem.W.findIn K (.ref c_Prices) "price" = some (some (.ref f_Prices_price)))
    (l8 : K.lookup f_Prices_price = some ⟨oc8, od8, .func (PySem.W.fnOf "price" "Prices.price" (defArgs s_Prices_price) (defBody s_Prices_price) (defScope s_Prices_price) .none kV8 dc8 pm8 an8 cd8 ct8), sl8⟩)
    (co8 : PySem.W.codeIn K cd8 "Prices.price" = true)
    (ke8 : PySem.W.keepIn K (.ref f_Prices_price) = true)
    (a9 : PySem.W.findIn K (.ref c_InvalidKinds) "__init__" = some (some (.ref f_InvalidKinds_init)))
    (l9 : K.lookup f_InvalidKinds_init = some ⟨oc9, od9, .func (PySem.W.fnOf "__init__" "InvalidKinds.__init__" (defArgs s_InvalidKinds_init) (defBody s_InvalidKinds_init) (defScope s_InvalidKinds_init) .none kV9 dc9 pm9 an9 cd9 ct9), sl9⟩)
    (co9 : PySem.W.codeIn K cd9 "InvalidKinds.__init__" = true)
    (ke9 : PySem.W.keepIn K (.ref f_InvalidKinds_init) = true)
    (a10 : PySem.W.findIn K (.ref c_InvalidRules) "__init__" = some (some (.ref f_InvalidRules_init)))
    (l10 : K.lookup f_InvalidRules_init = some ⟨oc10, od10, .func (PySem.W.fnOf "__init__" "InvalidRules.__init__" (defArgs s_InvalidRules_init) (defBody s_InvalidRules_init) (defScope s_InvalidRules_init) .none kV10 dc10 pm10 an10 cd10 ct10), sl10⟩)
    (co10 : PySem.W.codeIn K cd10 "InvalidRules.__init__" = true)
    (ke10 : PySem.W.keepIn K (.ref f_InvalidRules_init) = true)
    (a11 : PySem.W.findIn K (.ref c_InvalidTokens) "__init__" = some (some (.ref f_InvalidTokens_init)))
    (l11 : K.lookup f_InvalidTokens_init = some ⟨oc11, od11, .func (PySem.W.fnOf "__init__" "InvalidTokens.__init__" (defArgs s_InvalidTokens_init) (defBody s_InvalidTokens_init) (defScope s_InvalidTokens_init) .none kV11 dc11 pm11 an11 cd11 ct11), sl11⟩)
    (co11 : PySem.W.codeIn K cd11 "InvalidTokens.__init__" = true)
    (ke11 : PySem.W.keepIn K (.ref f_InvalidTokens_init) = true)
    (a12 : PySem.W.nsIn K mainGlobals "added" = some (some (.ref f_added)))
    (l12 : K.lookup f_added = some ⟨oc12, od12, .func (PySem.W.fnOf "added" "added" (defArgs s_added) (defBody s_added) (defScope s_added) .none kV12 dc12 pm12 an12 cd12 ct12), sl12⟩)
    (co12 : PySem.W.codeIn K cd12 "added" = true)
    (ke12 : PySem.W.keepIn K (.ref f_added) = true)
    (a13 : PySem.W.nsIn K mainGlobals "lowest" = some (some (.ref f_lowest)))
    (l13 : K.lookup f_lowest = some ⟨oc13, od13, .func (PySem.W.fnOf "lowest" "lowest" (defArgs s_lowest) (defBody s_lowest) (defScope s_lowest) .none kV13 dc13 pm13 an13 cd13 ct13), sl13⟩)
    (co13 : PySem.W.codeIn K cd13 "lowest" = true)
    (ke13 : PySem.W.keepIn K (.ref f_lowest) = true)
    (a14 : PySem.W.findIn K (.ref c_Tabling) "__init__" = some (some (.ref f_Tabling_init)))
    (l14 : K.lookup f_Tabling_init = some ⟨oc14, od14, .func (PySem.W.fnOf "__init__" "Tabling.__init__" (defArgs s_Tabling_init) (defBody s_Tabling_init) (defScope s_Tabling_init) .none kV14 dc14 pm14 an14 cd14 ct14), sl14⟩)
    (co14 : PySem.W.codeIn K cd14 "Tabling.__init__" = true)
    (ke14 : PySem.W.keepIn K (.ref f_Tabling_init) = true)
    (a15 : PySem.W.findIn K (.ref c_Tabling) "lay" = some (some (.ref f_Tabling_lay)))
    (l15 : K.lookup f_Tabling_lay = some ⟨oc15, od15, .func (PySem.W.fnOf "lay" "Tabling.lay" (defArgs s_Tabling_lay) (defBody s_Tabling_lay) (defScope s_Tabling_lay) .none kV15 dc15 pm15 an15 cd15 ct15), sl15⟩)
    (co15 : PySem.W.codeIn K cd15 "Tabling.lay" = true)
    (ke15 : PySem.W.keepIn K (.ref f_Tabling_lay) = true)
    (a16 : PySem.W.findIn K (.ref c_Tabling) "inner_sums" = some (some (.ref f_Tabling_inner_sums)))
    (l16 : K.lookup f_Tabling_inner_sums = some ⟨oc16, od16, .func (PySem.W.fnOf "inner_sums" "Tabling.inner_sums" (defArgs s_Tabling_inner_sums) (defBody s_Tabling_inner_sums) (defScope s_Tabling_inner_sums) .none kV16 dc16 pm16 an16 cd16 ct16), sl16⟩)
    (co16 : PySem.W.codeIn K cd16 "Tabling.inner_sums" = true)
    (ke16 : PySem.W.keepIn K (.ref f_Tabling_inner_sums) = true)
    (a17 : PySem.W.findIn K (.ref c_Tabling) "sum_by" = some (some (.ref f_Tabling_sum_by)))
    (l17 : K.lookup f_Tabling_sum_by = some ⟨oc17, od17, .func (PySem.W.fnOf "sum_by" "Tabling.sum_by" (defArgs s_Tabling_sum_by) (defBody s_Tabling_sum_by) (defScope s_Tabling_sum_by) .none kV17 dc17 pm17 an17 cd17 ct17), sl17⟩)
    (co17 : PySem.W.codeIn K cd17 "Tabling.sum_by" = true)
    (ke17 : PySem.W.keepIn K (.ref f_Tabling_sum_by) = true)
    (a18 : PySem.W.findIn K (.ref c_Tabling) "add_up" = some (some (.ref f_Tabling_add_up)))
    (l18 : K.lookup f_Tabling_add_up = some ⟨oc18, od18, .func (PySem.W.fnOf "add_up" "Tabling.add_up" (defArgs s_Tabling_add_up) (defBody s_Tabling_add_up) (defScope s_Tabling_add_up) .none kV18 dc18 pm18 an18 cd18 ct18), sl18⟩)
    (co18 : PySem.W.codeIn K cd18 "Tabling.add_up" = true)
    (ke18 : PySem.W.keepIn K (.ref f_Tabling_add_up) = true)
    (a19 : PySem.W.findIn K (.ref c_Tabling) "by_rule" = some (some (.ref f_Tabling_by_rule)))
    (l19 : K.lookup f_Tabling_by_rule = some ⟨oc19, od19, .func (PySem.W.fnOf "by_rule" "Tabling.by_rule" (defArgs s_Tabling_by_rule) (defBody s_Tabling_by_rule) (defScope s_Tabling_by_rule) .none kV19 dc19 pm19 an19 cd19 ct19), sl19⟩)
    (co19 : PySem.W.codeIn K cd19 "Tabling.by_rule" = true)
    (ke19 : PySem.W.keepIn K (.ref f_Tabling_by_rule) = true)
    (a20 : PySem.W.findIn K (.ref c_Tabling) "lowers" = some (some (.ref f_Tabling_lowers)))
    (l20 : K.lookup f_Tabling_lowers = some ⟨oc20, od20, .func (PySem.W.fnOf "lowers" "Tabling.lowers" (defArgs s_Tabling_lowers) (defBody s_Tabling_lowers) (defScope s_Tabling_lowers) .none kV20 dc20 pm20 an20 cd20 ct20), sl20⟩)
    (co20 : PySem.W.codeIn K cd20 "Tabling.lowers" = true)
    (ke20 : PySem.W.keepIn K (.ref f_Tabling_lowers) = true)
    (a21 : PySem.W.findIn K (.ref c_Tabling) "entries" = some (some (.ref f_Tabling_entries)))
    (l21 : K.lookup f_Tabling_entries = some ⟨oc21, od21, .func (PySem.W.fnOf "entries" "Tabling.entries" (defArgs s_Tabling_entries) (defBody s_Tabling_entries) (defScope s_Tabling_entries) .none kV21 dc21 pm21 an21 cd21 ct21), sl21⟩)
    (co21 : PySem.W.codeIn K cd21 "Tabling.entries" = true)
    (ke21 : PySem.W.keepIn K (.ref f_Tabling_entries) = true)
    (a22 : PySem.W.nsIn K mainGlobals "is_row" = some (some (.ref f_is_row)))
    (l22 : K.lookup f_is_row = some ⟨oc22, od22, .func (PySem.W.fnOf "is_row" "is_row" (defArgs s_is_row) (defBody s_is_row) (defScope s_is_row) .none kV22 dc22 pm22 an22 cd22 ct22), sl22⟩)
    (co22 : PySem.W.codeIn K cd22 "is_row" = true)
    (ke22 : PySem.W.keepIn K (.ref f_is_row) = true)
    (a23 : PySem.W.nsIn K mainGlobals "row_asked" = some (some (.ref f_row_asked)))
    (l23 : K.lookup f_row_asked = some ⟨oc23, od23, .func (PySem.W.fnOf "row_asked" "row_asked" (defArgs s_row_asked) (defBody s_row_asked) (defScope s_row_asked) .none kV23 dc23 pm23 an23 cd23 ct23), sl23⟩)
    (co23 : PySem.W.codeIn K cd23 "row_asked" = true)
    (ke23 : PySem.W.keepIn K (.ref f_row_asked) = true)
    (a24 : PySem.W.nsIn K mainGlobals "least_changes" = some (some (.ref f_least_changes)))
    (l24 : K.lookup f_least_changes = some ⟨oc24, od24, .func (PySem.W.fnOf "least_changes" "least_changes" (defArgs s_least_changes) (defBody s_least_changes) (defScope s_least_changes) .none kV24 dc24 pm24 an24 cd24 ct24), sl24⟩)
    (co24 : PySem.W.codeIn K cd24 "least_changes" = true)
    (ke24 : PySem.W.keepIn K (.ref f_least_changes) = true)
    (a25 : PySem.W.nsIn K mainGlobals "token_changes" = some (some (.ref f_token_changes)))
    (l25 : K.lookup f_token_changes = some ⟨oc25, od25, .func (PySem.W.fnOf "token_changes" "token_changes" (defArgs s_token_changes) (defBody s_token_changes) (defScope s_token_changes) .none kV25 dc25 pm25 an25 cd25 ct25), sl25⟩)
    (co25 : PySem.W.codeIn K cd25 "token_changes" = true)
    (ke25 : PySem.W.keepIn K (.ref f_token_changes) = true)
    (a26 : PySem.W.findIn K (.ref c_Beginnings) "__init__" = some (some (.ref f_Beginnings_init)))
    (l26 : K.lookup f_Beginnings_init = some ⟨oc26, od26, .func (PySem.W.fnOf "__init__" "Beginnings.__init__" (defArgs s_Beginnings_init) (defBody s_Beginnings_init) (defScope s_Beginnings_init) .none kV26 dc26 pm26 an26 cd26 ct26), sl26⟩)
    (co26 : PySem.W.codeIn K cd26 "Beginnings.__init__" = true)
    (ke26 : PySem.W.keepIn K (.ref f_Beginnings_init) = true)
    (a27 : PySem.W.nsIn K mainGlobals "empty_groups" = some (some (.ref f_empty_groups)))
    (l27 : K.lookup f_empty_groups = some ⟨oc27, od27, .func (PySem.W.fnOf "empty_groups" "empty_groups" (defArgs s_empty_groups) (defBody s_empty_groups) (defScope s_empty_groups) .none kV27 dc27 pm27 an27 cd27 ct27), sl27⟩)
    (co27 : PySem.W.codeIn K cd27 "empty_groups" = true)
    (ke27 : PySem.W.keepIn K (.ref f_empty_groups) = true)
    (a28 : PySem.W.nsIn K mainGlobals "first_table" = some (some (.ref f_first_table)))
    (l28 : K.lookup f_first_table = some ⟨oc28, od28, .func (PySem.W.fnOf "first_table" "first_table" (defArgs s_first_table) (defBody s_first_table) (defScope s_first_table) .none kV28 dc28 pm28 an28 cd28 ct28), sl28⟩)
    (co28 : PySem.W.codeIn K cd28 "first_table" = true)
    (ke28 : PySem.W.keepIn K (.ref f_first_table) = true)
    (a29 : PySem.W.nsIn K mainGlobals "first_of" = some (some (.ref f_first_of)))
    (l29 : K.lookup f_first_of = some ⟨oc29, od29, .func (PySem.W.fnOf "first_of" "first_of" (defArgs s_first_of) (defBody s_first_of) (defScope s_first_of) .none kV29 dc29 pm29 an29 cd29 ct29), sl29⟩)
    (co29 : PySem.W.codeIn K cd29 "first_of" = true)
    (ke29 : PySem.W.keepIn K (.ref f_first_of) = true)
    (a30 : PySem.W.nsIn K mainGlobals "marked_ones" = some (some (.ref f_marked_ones)))
    (l30 : K.lookup f_marked_ones = some ⟨oc30, od30, .func (PySem.W.fnOf "marked_ones" "marked_ones" (defArgs s_marked_ones) (defBody s_marked_ones) (defScope s_marked_ones) .none kV30 dc30 pm30 an30 cd30 ct30), sl30⟩)
    (co30 : PySem.W.codeIn K cd30 "marked_ones" = true)
    (ke30 : PySem.W.keepIn K (.ref f_marked_ones) = true)
    (a31 : PySem.W.nsIn K mainGlobals "behind_dots" = some (some (.ref f_behind_dots)))
    (l31 : K.lookup f_behind_dots = some ⟨oc31, od31, .func (PySem.W.fnOf "behind_dots" "behind_dots" (defArgs s_behind_dots) (defBody s_behind_dots) (defScope s_behind_dots) .none kV31 dc31 pm31 an31 cd31 ct31), sl31⟩)
    (co31 : PySem.W.codeIn K cd31 "behind_dots" = true)
    (ke31 : PySem.W.keepIn K (.ref f_behind_dots) = true)
    (a32 : PySem.W.nsIn K mainGlobals "joined_ones" = some (some (.ref f_joined_ones)))
    (l32 : K.lookup f_joined_ones = some ⟨oc32, od32, .func (PySem.W.fnOf "joined_ones" "joined_ones" (defArgs s_joined_ones) (defBody s_joined_ones) (defScope s_joined_ones) .none kV32 dc32 pm32 an32 cd32 ct32), sl32⟩)
    (co32 : PySem.W.codeIn K cd32 "joined_ones" = true)
    (ke32 : PySem.W.keepIn K (.ref f_joined_ones) = true)
    (a33 : PySem.W.nsIn K mainGlobals "with_trees" = some (some (.ref f_with_trees)))
    (l33 : K.lookup f_with_trees = some ⟨oc33, od33, .func (PySem.W.fnOf "with_trees" "with_trees" (defArgs s_with_trees) (defBody s_with_trees) (defScope s_with_trees) .none kV33 dc33 pm33 an33 cd33 ct33), sl33⟩)
    (co33 : PySem.W.codeIn K cd33 "with_trees" = true)
    (ke33 : PySem.W.keepIn K (.ref f_with_trees) = true)
    (a34 : PySem.W.nsIn K mainGlobals "can_stand" = some (some (.ref f_can_stand)))
    (l34 : K.lookup f_can_stand = some ⟨oc34, od34, .func (PySem.W.fnOf "can_stand" "can_stand" (defArgs s_can_stand) (defBody s_can_stand) (defScope s_can_stand) .none kV34 dc34 pm34 an34 cd34 ct34), sl34⟩)
    (co34 : PySem.W.codeIn K cd34 "can_stand" = true)
    (ke34 : PySem.W.keepIn K (.ref f_can_stand) = true)
    (a35 : PySem.W.nsIn K mainGlobals "reached" = some (some (.ref f_reached)))
    (l35 : K.lookup f_reached = some ⟨oc35, od35, .func (PySem.W.fnOf "reached" "reached" (defArgs s_reached) (defBody s_reached) (defScope s_reached) .none kV35 dc35 pm35 an35 cd35 ct35), sl35⟩)
    (co35 : PySem.W.codeIn K cd35 "reached" = true)
    (ke35 : PySem.W.keepIn K (.ref f_reached) = true)
    (a36 : PySem.W.nsIn K mainGlobals "useless_rules" = some (some (.ref f_useless_rules)))
    (l36 : K.lookup f_useless_rules = some ⟨oc36, od36, .func (PySem.W.fnOf "useless_rules" "useless_rules" (defArgs s_useless_rules) (defBody s_useless_rules) (defScope s_useless_rules) .none kV36 dc36 pm36 an36 cd36 ct36), sl36⟩)
    (co36 : PySem.W.codeIn K cd36 "useless_rules" = true)
    (ke36 : PySem.W.keepIn K (.ref f_useless_rules) = true)
    (a37 : PySem.W.findIn K (.ref c_Grammar) "__init__" = some (some (.ref f_Grammar_init)))
    (l37 : K.lookup f_Grammar_init = some ⟨oc37, od37, .func (PySem.W.fnOf "__init__" "Grammar.__init__" (defArgs s_Grammar_init) (defBody s_Grammar_init) (defScope s_Grammar_init) .none kV37 dc37 pm37 an37 cd37 ct37), sl37⟩)
    (co37 : PySem.W.codeIn K cd37 "Grammar.__init__" = true)
    (ke37 : PySem.W.keepIn K (.ref f_Grammar_init) = true)
    (a38 : PySem.W.findIn K (.ref c_Grammar) "__eq__" = some (some (.ref f_Grammar_eq)))
    (l38 : K.lookup f_Grammar_eq = some ⟨oc38, od38, .func (PySem.W.fnOf "__eq__" "Grammar.__eq__" (defArgs s_Grammar_eq) (defBody s_Grammar_eq) (defScope s_Grammar_eq) .none kV38 dc38 pm38 an38 cd38 ct38), sl38⟩)
    (co38 : PySem.W.codeIn K cd38 "Grammar.__eq__" = true)
    (ke38 : PySem.W.keepIn K (.ref f_Grammar_eq) = true)
    (a39 : PySem.W.nsIn K mainGlobals "are_rules" = some (some (.ref f_are_rules)))
    (l39 : K.lookup f_are_rules = some ⟨oc39, od39, .func (PySem.W.fnOf "are_rules" "are_rules" (defArgs s_are_rules) (defBody s_are_rules) (defScope s_are_rules) .none kV39 dc39 pm39 an39 cd39 ct39), sl39⟩)
    (co39 : PySem.W.codeIn K cd39 "are_rules" = true)
    (ke39 : PySem.W.keepIn K (.ref f_are_rules) = true)
    (a40 : PySem.W.nsIn K mainGlobals "is_rule_pair" = some (some (.ref f_is_rule_pair)))
    (l40 : K.lookup f_is_rule_pair = some ⟨oc40, od40, .func (PySem.W.fnOf "is_rule_pair" "is_rule_pair" (defArgs s_is_rule_pair) (defBody s_is_rule_pair) (defScope s_is_rule_pair) .none kV40 dc40 pm40 an40 cd40 ct40), sl40⟩)
    (co40 : PySem.W.codeIn K cd40 "is_rule_pair" = true)
    (ke40 : PySem.W.keepIn K (.ref f_is_rule_pair) = true)
    (a41 : PySem.W.nsIn K mainGlobals "groups_in" = some (some (.ref f_groups_in)))
    (l41 : K.lookup f_groups_in = some ⟨oc41, od41, .func (PySem.W.fnOf "groups_in" "groups_in" (defArgs s_groups_in) (defBody s_groups_in) (defScope s_groups_in) .none kV41 dc41 pm41 an41 cd41 ct41), sl41⟩)
    (co41 : PySem.W.codeIn K cd41 "groups_in" = true)
    (ke41 : PySem.W.keepIn K (.ref f_groups_in) = true)
    (a42 : PySem.W.nsIn K mainGlobals "rules_with" = some (some (.ref f_rules_with)))
    (l42 : K.lookup f_rules_with = some ⟨oc42, od42, .func (PySem.W.fnOf "rules_with" "rules_with" (defArgs s_rules_with) (defBody s_rules_with) (defScope s_rules_with) .none kV42 dc42 pm42 an42 cd42 ct42), sl42⟩)
    (co42 : PySem.W.codeIn K cd42 "rules_with" = true)
    (ke42 : PySem.W.keepIn K (.ref f_rules_with) = true)
    (a43 : PySem.W.nsIn K mainGlobals "_law_box" = some (some (.ref f_law_box)))
    (l43 : K.lookup f_law_box = some ⟨oc43, od43, .func (PySem.W.fnOf "_law_box" "_law_box" (defArgs s_law_box) (defBody s_law_box) (defScope s_law_box) .none kV43 dc43 pm43 an43 cd43 ct43), sl43⟩)
    (co43 : PySem.W.codeIn K cd43 "_law_box" = true)
    (ke43 : PySem.W.keepIn K (.ref f_law_box) = true)
    (a44 : PySem.W.nsIn K mainGlobals "_law_draw" = some (some (.ref f_law_draw)))
    (l44 : K.lookup f_law_draw = some ⟨oc44, od44, .func (PySem.W.fnOf "_law_draw" "_law_draw" (defArgs s_law_draw) (defBody s_law_draw) (defScope s_law_draw) .none kV44 dc44 pm44 an44 cd44 ct44), sl44⟩)
    (co44 : PySem.W.codeIn K cd44 "_law_draw" = true)
    (ke44 : PySem.W.keepIn K (.ref f_law_draw) = true)
    (a45 : PySem.W.nsIn K mainGlobals "_law_same" = some (some (.ref f_law_same)))
    (l45 : K.lookup f_law_same = some ⟨oc45, od45, .func (PySem.W.fnOf "_law_same" "_law_same" (defArgs s_law_same) (defBody s_law_same) (defScope s_law_same) .none kV45 dc45 pm45 an45 cd45 ct45), sl45⟩)
    (co45 : PySem.W.codeIn K cd45 "_law_same" = true)
    (ke45 : PySem.W.keepIn K (.ref f_law_same) = true)
    (a46 : PySem.W.nsIn K mainGlobals "_law_names" = some (some (.ref f_law_names)))
    (l46 : K.lookup f_law_names = some ⟨oc46, od46, .func (PySem.W.fnOf "_law_names" "_law_names" (defArgs s_law_names) (defBody s_law_names) (defScope s_law_names) .none kV46 dc46 pm46 an46 cd46 ct46), sl46⟩)
    (co46 : PySem.W.codeIn K cd46 "_law_names" = true)
    (ke46 : PySem.W.keepIn K (.ref f_law_names) = true)
    (a47 : PySem.W.nsIn K mainGlobals "_law_costs" = some (some (.ref f_law_costs)))
    (l47 : K.lookup f_law_costs = some ⟨oc47, od47, .func (PySem.W.fnOf "_law_costs" "_law_costs" (defArgs s_law_costs) (defBody s_law_costs) (defScope s_law_costs) .none kV47 dc47 pm47 an47 cd47 ct47), sl47⟩)
    (co47 : PySem.W.codeIn K cd47 "_law_costs" = true)
    (ke47 : PySem.W.keepIn K (.ref f_law_costs) = true)
    (a48 : PySem.W.nsIn K mainGlobals "_law_by_places" = some (some (.ref f_law_by_places)))
    (l48 : K.lookup f_law_by_places = some ⟨oc48, od48, .func (PySem.W.fnOf "_law_by_places" "_law_by_places" (defArgs s_law_by_places) (defBody s_law_by_places) (defScope s_law_by_places) .none kV48 dc48 pm48 an48 cd48 ct48), sl48⟩)
    (co48 : PySem.W.codeIn K cd48 "_law_by_places" = true)
    (ke48 : PySem.W.keepIn K (.ref f_law_by_places) = true)
    (a49 : PySem.W.nsIn K mainGlobals "law" = some (some (.ref f_law)))
    (l49 : K.lookup f_law = some ⟨oc49, od49, .func (PySem.W.fnOf "law" "law" (defArgs s_law) (defBody s_law) (defScope s_law) .none kV49 dc49 pm49 an49 cd49 ct49), sl49⟩)
    (co49 : PySem.W.codeIn K cd49 "law" = true)
    (ke49 : PySem.W.keepIn K (.ref f_law) = true)
    (va_LETTERS : PySem.W.nsIn K mainGlobals "LETTERS" = some (some v_LETTERS))
    (vb_LETTERS : RelV (.str "abcdefghijklmnopqrstuvwxyz") v_LETTERS)
    (va_LONGEST : PySem.W.nsIn K mainGlobals "LONGEST" = some (some v_LONGEST))
    (vb_LONGEST : RelV (.int 12) v_LONGEST)
    (z_all : PySem.W.nsIn K mainGlobals "all" = some none)
    (z_bool : PySem.W.nsIn K mainGlobals "bool" = some none)
    (z_enumerate : PySem.W.nsIn K mainGlobals "enumerate" = some none)
    (z_int : PySem.W.nsIn K mainGlobals "int" = some none)
    (z_isinstance : PySem.W.nsIn K mainGlobals "isinstance" = some none)
    (z_len : PySem.W.nsIn K mainGlobals "len" = some none)
    (z_list : PySem.W.nsIn K mainGlobals "list" = some none)
    (z_max : PySem.W.nsIn K mainGlobals "max" = some none)
    (z_min : PySem.W.nsIn K mainGlobals "min" = some none)
    (z_range : PySem.W.nsIn K mainGlobals "range" = some none)
    (z_reversed : PySem.W.nsIn K mainGlobals "reversed" = some none)
    (z_set : PySem.W.nsIn K mainGlobals "set" = some none)
    (z_sorted : PySem.W.nsIn K mainGlobals "sorted" = some none)
    (z_str : PySem.W.nsIn K mainGlobals "str" = some none)
    (z_tuple : PySem.W.nsIn K mainGlobals "tuple" = some none)
    (z_zip : PySem.W.nsIn K mainGlobals "zip" = some none)
    (b_e : PySem.W.subIn K (.ref c_TreeError) (.type "BaseException") = some true)
    (b_h : PySem.W.hasDictIn K c_TreeError = true)
    (b_t : PySem.W.typeIn K (.ref c_TreeError) = some (.type "type"))
    (s_n : PySem.W.specialIn K (.builtin "object.__class__") "__get__" = some (some (.builtin "getset_descriptor.__get__")))
    (s_t : PySem.W.takesIn K (.builtin "object.__class__") = some true)
    (x1_InvalidKinds : K.lookup c_InvalidKinds = some (excClassObj nm_InvalidKinds qn_InvalidKinds c_InvalidKinds nn_InvalidKinds bs_InvalidKinds bm_InvalidKinds true sn_InvalidKinds sb_InvalidKinds ab_InvalidKinds cl_InvalidKinds dd_InvalidKinds m0_InvalidKinds m1_InvalidKinds m2_InvalidKinds m3_InvalidKinds m5_InvalidKinds "ValueError.__new__"))
    (x2_InvalidKinds : PySem.HandSPX.refsVE bm_InvalidKinds = true)
    (x3_InvalidKinds : PySem.W.findIn K (.ref c_InvalidKinds) "__setattr__" = some (some (.builtin "object.__setattr__")))
    (x4_InvalidKinds : PySem.W.subIn K (.ref c_InvalidKinds) (.type "BaseException") = some true)
    (x5_InvalidKinds : PySem.W.typeIn K (.ref c_InvalidKinds) = some (.type "type"))
    (x6_InvalidKinds : PySem.W.keepIn K (.ref c_InvalidKinds) = true)
    (x7_InvalidKinds : PySem.W.findIn K (.ref c_InvalidKinds) "__getattribute__" = some (some (.builtin "BaseException.__getattribute__")))
    (x8_InvalidKinds : PySem.W.findIn K (.ref c_InvalidKinds) "__getattr__" = some none)
    (x9_InvalidKinds : PySem.W.hasDictIn K c_InvalidKinds = true)
    (y1_InvalidKinds : PySem.W.findIn K (.ref c_InvalidKinds) "__class__" = some (some (.builtin "object.__class__")))
    (y2_InvalidKinds : PySem.W.mroIn K c_InvalidKinds (.type "object") = some true)
    (y3_InvalidKinds : PySem.W.subIn K (.ref c_InvalidKinds) (.ref c_TreeError) = some true)
    (y4_InvalidKinds : PySem.W.typeIn K (.ref f_InvalidKinds_init) = some (.type "function"))
    (n_InvalidKinds_value : PySem.W.findIn K (.ref c_InvalidKinds) "value" = some none)
    (x1_InvalidRules : K.lookup c_InvalidRules = some (excClassObj nm_InvalidRules qn_InvalidRules c_InvalidRules nn_InvalidRules bs_InvalidRules bm_InvalidRules true sn_InvalidRules sb_InvalidRules ab_InvalidRules cl_InvalidRules dd_InvalidRules m0_InvalidRules m1_InvalidRules m2_InvalidRules m3_InvalidRules m5_InvalidRules "ValueError.__new__"))
    (x2_InvalidRules : PySem.HandSPX.refsVE bm_InvalidRules = true)
    (x3_InvalidRules : PySem.W.findIn K (.ref c_InvalidRules) "__setattr__" = some (some (.builtin "object.__setattr__")))
    (x4_InvalidRules : PySem.W.subIn K (.ref c_InvalidRules) (.type "BaseException") = some true)
    (x5_InvalidRules : PySem.W.typeIn K (.ref c_InvalidRules) = some (.type "type"))
    (x6_InvalidRules : PySem.W.keepIn K (.ref c_InvalidRules) = true)
    (x7_InvalidRules : PySem.W.findIn K (.ref c_InvalidRules) "__getattribute__" = some (some (.builtin "BaseException.__getattribute__")))
    (x8_InvalidRules : PySem.W.findIn K (.ref c_InvalidRules) "__getattr__" = some none)
    (x9_InvalidRules : PySem.W.hasDictIn K c_InvalidRules = true)
    (y1_InvalidRules : PySem.W.findIn K (.ref c_InvalidRules) "__class__" = some (some (.builtin "object.__class__")))
    (y2_InvalidRules : PySem.W.mroIn K c_InvalidRules (.type "object") = some true)
    (y3_InvalidRules : PySem.W.subIn K (.ref c_InvalidRules) (.ref c_TreeError) = some true)
    (y4_InvalidRules : PySem.W.typeIn K (.ref f_InvalidRules_init) = some (.type "function"))
    (n_InvalidRules_value : PySem.W.findIn K (.ref c_InvalidRules) "value" = some none)
    (x1_InvalidTokens : K.lookup c_InvalidTokens = some (excClassObj nm_InvalidTokens qn_InvalidTokens c_InvalidTokens nn_InvalidTokens bs_InvalidTokens bm_InvalidTokens true sn_InvalidTokens sb_InvalidTokens ab_InvalidTokens cl_InvalidTokens dd_InvalidTokens m0_InvalidTokens m1_InvalidTokens m2_InvalidTokens m3_InvalidTokens m5_InvalidTokens "ValueError.__new__"))
    (x2_InvalidTokens : PySem.HandSPX.refsVE bm_InvalidTokens = true)
    (x3_InvalidTokens : PySem.W.findIn K (.ref c_InvalidTokens) "__setattr__" = some (some (.builtin "object.__setattr__")))
    (x4_InvalidTokens : PySem.W.subIn K (.ref c_InvalidTokens) (.type "BaseException") = some true)
    (x5_InvalidTokens : PySem.W.typeIn K (.ref c_InvalidTokens) = some (.type "type"))
    (x6_InvalidTokens : PySem.W.keepIn K (.ref c_InvalidTokens) = true)
    (x7_InvalidTokens : PySem.W.findIn K (.ref c_InvalidTokens) "__getattribute__" = some (some (.builtin "BaseException.__getattribute__")))
    (x8_InvalidTokens : PySem.W.findIn K (.ref c_InvalidTokens) "__getattr__" = some none)
    (x9_InvalidTokens : PySem.W.hasDictIn K c_InvalidTokens = true)
    (y1_InvalidTokens : PySem.W.findIn K (.ref c_InvalidTokens) "__class__" = some (some (.builtin "object.__class__")))
    (y2_InvalidTokens : PySem.W.mroIn K c_InvalidTokens (.type "object") = some true)
    (y3_InvalidTokens : PySem.W.subIn K (.ref c_InvalidTokens) (.ref c_TreeError) = some true)
    (y4_InvalidTokens : PySem.W.typeIn K (.ref f_InvalidTokens_init) = some (.type "function"))
    (n_InvalidTokens_value : PySem.W.findIn K (.ref c_InvalidTokens) "value" = some none)
    (kg_Prices : PySem.W.plainGet K c_Prices Str.empty = true)
    (kh_Prices : PySem.W.hasDictIn K c_Prices = true)
    (ko_Prices : PySem.W.plainOver K c_Prices = true)
    (ks_Prices : PySem.W.findIn K (.ref c_Prices) "__setattr__" = some (some (.builtin "object.__setattr__")))
    (kf7 : PySem.W.isFn K (.ref f_Prices_init) = true)
    (km_Prices : PySem.W.makesIn K c_Prices = true)
    (kk_Prices : PySem.W.keepIn K (.ref c_Prices) = true)
    (kf8 : PySem.W.isFn K (.ref f_Prices_price) = true)
    (nf_Prices_count : PySem.W.findIn K (.ref c_Prices) "count" = some none)
    (nf_Prices_row : PySem.W.findIn K (.ref c_Prices) "row" = some none)
    (nf_Prices_numbers : PySem.W.findIn K (.ref c_Prices) "numbers" = some none)
    (kg_Tabling : PySem.W.plainGet K c_Tabling Str.empty = true)
    (kh_Tabling : PySem.W.hasDictIn K c_Tabling = true)
    (ko_Tabling : PySem.W.plainOver K c_Tabling = true)
    (ks_Tabling : PySem.W.findIn K (.ref c_Tabling) "__setattr__" = some (some (.builtin "object.__setattr__")))
    (kf14 : PySem.W.isFn K (.ref f_Tabling_init) = true)
    (km_Tabling : PySem.W.makesIn K c_Tabling = true)
    (kk_Tabling : PySem.W.keepIn K (.ref c_Tabling) = true)
    (kf15 : PySem.W.isFn K (.ref f_Tabling_lay) = true)
    (kf16 : PySem.W.isFn K (.ref f_Tabling_inner_sums) = true)
    (kf17 : PySem.W.isFn K (.ref f_Tabling_sum_by) = true)
    (kf18 : PySem.W.isFn K (.ref f_Tabling_add_up) = true)
    (kf19 : PySem.W.isFn K (.ref f_Tabling_by_rule) = true)
    (kf20 : PySem.W.isFn K (.ref f_Tabling_lowers) = true)
    (kf21 : PySem.W.isFn K (.ref f_Tabling_entries) = true)
    (nf_Tabling_grammar : PySem.W.findIn K (.ref c_Tabling) "grammar" = some none)
    (nf_Tabling_row : PySem.W.findIn K (.ref c_Tabling) "row" = some none)
    (nf_Tabling_numbers : PySem.W.findIn K (.ref c_Tabling) "numbers" = some none)
    (nf_Tabling_prices : PySem.W.findIn K (.ref c_Tabling) "prices" = some none)
    (nf_Tabling_sums : PySem.W.findIn K (.ref c_Tabling) "sums" = some none)
    (nf_Tabling_made : PySem.W.findIn K (.ref c_Tabling) "made" = some none)
    (kg_Beginnings : PySem.W.plainGet K c_Beginnings Str.empty = true)
    (kh_Beginnings : PySem.W.hasDictIn K c_Beginnings = true)
    (ko_Beginnings : PySem.W.plainOver K c_Beginnings = true)
    (ks_Beginnings : PySem.W.findIn K (.ref c_Beginnings) "__setattr__" = some (some (.builtin "object.__setattr__")))
    (kf26 : PySem.W.isFn K (.ref f_Beginnings_init) = true)
    (km_Beginnings : PySem.W.makesIn K c_Beginnings = true)
    (kk_Beginnings : PySem.W.keepIn K (.ref c_Beginnings) = true)
    (nf_Beginnings_count : PySem.W.findIn K (.ref c_Beginnings) "count" = some none)
    (nf_Beginnings_empty : PySem.W.findIn K (.ref c_Beginnings) "empty" = some none)
    (nf_Beginnings_first : PySem.W.findIn K (.ref c_Beginnings) "first" = some none)
    (nf_Beginnings_behind : PySem.W.findIn K (.ref c_Beginnings) "behind" = some none)
    (kg_Grammar : PySem.W.plainGet K c_Grammar Str.empty = true)
    (kh_Grammar : PySem.W.hasDictIn K c_Grammar = true)
    (ko_Grammar : PySem.W.plainOver K c_Grammar = true)
    (ks_Grammar : PySem.W.findIn K (.ref c_Grammar) "__setattr__" = some (some (.builtin "object.__setattr__")))
    (kf37 : PySem.W.isFn K (.ref f_Grammar_init) = true)
    (km_Grammar : PySem.W.makesIn K c_Grammar = true)
    (kk_Grammar : PySem.W.keepIn K (.ref c_Grammar) = true)
    (kf38 : PySem.W.isFn K (.ref f_Grammar_eq) = true)
    (nf_Grammar_tokens : PySem.W.findIn K (.ref c_Grammar) "tokens" = some none)
    (nf_Grammar_rules : PySem.W.findIn K (.ref c_Grammar) "rules" = some none)
    (nf_Grammar_groups : PySem.W.findIn K (.ref c_Grammar) "groups" = some none)
    (nf_Grammar_codes : PySem.W.findIn K (.ref c_Grammar) "codes" = some none)
    (nf_Grammar_heads : PySem.W.findIn K (.ref c_Grammar) "heads" = some none)
    (nf_Grammar_parts : PySem.W.findIn K (.ref c_Grammar) "parts" = some none)
    (nf_Grammar_rules_of : PySem.W.findIn K (.ref c_Grammar) "rules_of" = some none)
    (nf_Grammar_beginnings : PySem.W.findIn K (.ref c_Grammar) "beginnings" = some none)
    (nf_Grammar_state_list : PySem.W.findIn K (.ref c_Grammar) "state_list" = some none)
    : ∃ fd : FuncData, (∀ (s : Shared) (v : Value), BindsTo s fd ⟨[v], []⟩ [("script", v)]) ∧ ∀ base : Heap, K.In base → base.Ns mainGlobals mg → FnOk l.prog w K mg base CX0 9 fa fd ["script"] (sp_law K) := by
  have e := hfa.symm.trans (PySem.W.mg_of X G a49)
  cases e
  have T : Txt K mg { wall := f_wall, wall_d := _, is_integer := f_is_integer, is_integer_d := _, is_below := f_is_below, is_below_d := _, is_sequence := f_is_sequence, is_sequence_d := _, is_name := f_is_name, is_name_d := _, are_names := f_are_names, are_names_d := _, stretch_cost := f_stretch_cost, stretch_cost_d := _, Prices_init := f_Prices_init, Prices_init_d := _, Prices_price := f_Prices_price, Prices_price_d := _, InvalidKinds_init := f_InvalidKinds_init, InvalidKinds_init_d := _, InvalidRules_init := f_InvalidRules_init, InvalidRules_init_d := _, InvalidTokens_init := f_InvalidTokens_init, InvalidTokens_init_d := _, added := f_added, added_d := _, lowest := f_lowest, lowest_d := _, Tabling_init := f_Tabling_init, Tabling_init_d := _, Tabling_lay := f_Tabling_lay, Tabling_lay_d := _, Tabling_inner_sums := f_Tabling_inner_sums, Tabling_inner_sums_d := _, Tabling_sum_by := f_Tabling_sum_by, Tabling_sum_by_d := _, Tabling_add_up := f_Tabling_add_up, Tabling_add_up_d := _, Tabling_by_rule := f_Tabling_by_rule, Tabling_by_rule_d := _, Tabling_lowers := f_Tabling_lowers, Tabling_lowers_d := _, Tabling_entries := f_Tabling_entries, Tabling_entries_d := _, is_row := f_is_row, is_row_d := _, row_asked := f_row_asked, row_asked_d := _, least_changes := f_least_changes, least_changes_d := _, token_changes := f_token_changes, token_changes_d := _, Beginnings_init := f_Beginnings_init, Beginnings_init_d := _, empty_groups := f_empty_groups, empty_groups_d := _, first_table := f_first_table, first_table_d := _, first_of := f_first_of, first_of_d := _, marked_ones := f_marked_ones, marked_ones_d := _, behind_dots := f_behind_dots, behind_dots_d := _, joined_ones := f_joined_ones, joined_ones_d := _, with_trees := f_with_trees, with_trees_d := _, can_stand := f_can_stand, can_stand_d := _, reached := f_reached, reached_d := _, useless_rules := f_useless_rules, useless_rules_d := _, Grammar_init := f_Grammar_init, Grammar_init_d := _, Grammar_eq := f_Grammar_eq, Grammar_eq_d := _, are_rules := f_are_rules, are_rules_d := _, is_rule_pair := f_is_rule_pair, is_rule_pair_d := _, groups_in := f_groups_in, groups_in_d := _, rules_with := f_rules_with, rules_with_d := _, law_box := f_law_box, law_box_d := _, law_draw := f_law_draw, law_draw_d := _, law_same := f_law_same, law_same_d := _, law_names := f_law_names, law_names_d := _, law_costs := f_law_costs, law_costs_d := _, law_by_places := f_law_by_places, law_by_places_d := _, law := fa, law_d := _, Prices := c_Prices, TreeError := c_TreeError, InvalidKinds := c_InvalidKinds, InvalidRules := c_InvalidRules, InvalidTokens := c_InvalidTokens, Tabling := c_Tabling, Beginnings := c_Beginnings, Grammar := c_Grammar, LETTERS := v_LETTERS, LONGEST := v_LONGEST } :=
    { m_Prices := PySem.W.mg_of X G ac_Prices
      m_TreeError := PySem.W.mg_of X G ac_TreeError
      m_InvalidKinds := PySem.W.mg_of X G ac_InvalidKinds
      m_InvalidRules := PySem.W.mg_of X G ac_InvalidRules
      m_InvalidTokens := PySem.W.mg_of X G ac_InvalidTokens
      m_Tabling := PySem.W.mg_of X G ac_Tabling
      m_Beginnings := PySem.W.mg_of X G ac_Beginnings
      m_Grammar := PySem.W.mg_of X G ac_Grammar
      m_wall := PySem.W.mg_of X G a0
      F_wall := fun_mk (st := s_wall) l0 co0 ke0
      m_is_integer := PySem.W.mg_of X G a1
      F_is_integer := fun_mk (st := s_is_integer) l1 co1 ke1
      m_is_below := PySem.W.mg_of X G a2
      F_is_below := fun_mk (st := s_is_below) l2 co2 ke2
      m_is_sequence := PySem.W.mg_of X G a3
      F_is_sequence := fun_mk (st := s_is_sequence) l3 co3 ke3
      m_is_name := PySem.W.mg_of X G a4
      F_is_name := fun_mk (st := s_is_name) l4 co4 ke4
      m_are_names := PySem.W.mg_of X G a5
      F_are_names := fun_mk (st := s_are_names) l5 co5 ke5
      m_stretch_cost := PySem.W.mg_of X G a6
      F_stretch_cost := fun_mk (st := s_stretch_cost) l6 co6 ke6
      F_Prices_init := fun_mk (st := s_Prices_init) l7 co7 ke7
      F_Prices_price := fun_mk (st := s_Prices_price) l8 co8 ke8
      F_InvalidKinds_init := fun_mk (st := s_InvalidKinds_init) l9 co9 ke9
      F_InvalidRules_init := fun_mk (st := s_InvalidRules_init) l10 co10 ke10
      F_InvalidTokens_init := fun_mk (st := s_InvalidTokens_init) l11 co11 ke11
      m_added := PySem.W.mg_of X G a12
      F_added := fun_mk (st := s_added) l12 co12 ke12
      m_lowest := PySem.W.mg_of X G a13
      F_lowest := fun_mk (st := s_lowest) l13 co13 ke13
      F_Tabling_init := fun_mk (st := s_Tabling_init) l14 co14 ke14
      F_Tabling_lay := fun_mk (st := s_Tabling_lay) l15 co15 ke15
      F_Tabling_inner_sums := fun_mk (st := s_Tabling_inner_sums) l16 co16 ke16
      F_Tabling_sum_by := fun_mk (st := s_Tabling_sum_by) l17 co17 ke17
      F_Tabling_add_up := fun_mk (st := s_Tabling_add_up) l18 co18 ke18
      F_Tabling_by_rule := fun_mk (st := s_Tabling_by_rule) l19 co19 ke19
      F_Tabling_lowers := fun_mk (st := s_Tabling_lowers) l20 co20 ke20
      F_Tabling_entries := fun_mk (st := s_Tabling_entries) l21 co21 ke21
      m_is_row := PySem.W.mg_of X G a22
      F_is_row := fun_mk (st := s_is_row) l22 co22 ke22
      m_row_asked := PySem.W.mg_of X G a23
      F_row_asked := fun_mk (st := s_row_asked) l23 co23 ke23
      m_least_changes := PySem.W.mg_of X G a24
      F_least_changes := fun_mk (st := s_least_changes) l24 co24 ke24
      m_token_changes := PySem.W.mg_of X G a25
      F_token_changes := fun_mk (st := s_token_changes) l25 co25 ke25
      F_Beginnings_init := fun_mk (st := s_Beginnings_init) l26 co26 ke26
      m_empty_groups := PySem.W.mg_of X G a27
      F_empty_groups := fun_mk (st := s_empty_groups) l27 co27 ke27
      m_first_table := PySem.W.mg_of X G a28
      F_first_table := fun_mk (st := s_first_table) l28 co28 ke28
      m_first_of := PySem.W.mg_of X G a29
      F_first_of := fun_mk (st := s_first_of) l29 co29 ke29
      m_marked_ones := PySem.W.mg_of X G a30
      F_marked_ones := fun_mk (st := s_marked_ones) l30 co30 ke30
      m_behind_dots := PySem.W.mg_of X G a31
      F_behind_dots := fun_mk (st := s_behind_dots) l31 co31 ke31
      m_joined_ones := PySem.W.mg_of X G a32
      F_joined_ones := fun_mk (st := s_joined_ones) l32 co32 ke32
      m_with_trees := PySem.W.mg_of X G a33
      F_with_trees := fun_mk (st := s_with_trees) l33 co33 ke33
      m_can_stand := PySem.W.mg_of X G a34
      F_can_stand := fun_mk (st := s_can_stand) l34 co34 ke34
      m_reached := PySem.W.mg_of X G a35
      F_reached := fun_mk (st := s_reached) l35 co35 ke35
      m_useless_rules := PySem.W.mg_of X G a36
      F_useless_rules := fun_mk (st := s_useless_rules) l36 co36 ke36
      F_Grammar_init := fun_mk (st := s_Grammar_init) l37 co37 ke37
      F_Grammar_eq := fun_mk (st := s_Grammar_eq) l38 co38 ke38
      m_are_rules := PySem.W.mg_of X G a39
      F_are_rules := fun_mk (st := s_are_rules) l39 co39 ke39
      m_is_rule_pair := PySem.W.mg_of X G a40
      F_is_rule_pair := fun_mk (st := s_is_rule_pair) l40 co40 ke40
      m_groups_in := PySem.W.mg_of X G a41
      F_groups_in := fun_mk (st := s_groups_in) l41 co41 ke41
      m_rules_with := PySem.W.mg_of X G a42
      F_rules_with := fun_mk (st := s_rules_with) l42 co42 ke42
      m_law_box := PySem.W.mg_of X G a43
      F_law_box := fun_mk (st := s_law_box) l43 co43 ke43
      m_law_draw := PySem.W.mg_of X G a44
      F_law_draw := fun_mk (st := s_law_draw) l44 co44 ke44
      m_law_same := PySem.W.mg_of X G a45
      F_law_same := fun_mk (st := s_law_same) l45 co45 ke45
      m_law_names := PySem.W.mg_of X G a46
      F_law_names := fun_mk (st := s_law_names) l46 co46 ke46
      m_law_costs := PySem.W.mg_of X G a47
      F_law_costs := fun_mk (st := s_law_costs) l47 co47 ke47
      m_law_by_places := PySem.W.mg_of X G a48
      F_law_by_places := fun_mk (st := s_law_by_places) l48 co48 ke48
      m_law := PySem.W.mg_of X G a49
      F_law := fun_mk (st := s_law) l49 co49 ke49
      m_LETTERS := PySem.W.mg_of X G va_LETTERS
      r_LETTERS := vb_LETTERS
      m_LONGEST := PySem.W.mg_of X G va_LONGEST
      r_LONGEST := vb_LONGEST
      z_all := PySem.W.mg_none_of X G z_all
      z_bool := PySem.W.mg_none_of X G z_bool
      z_enumerate := PySem.W.mg_none_of X G z_enumerate
      z_int := PySem.W.mg_none_of X G z_int
      z_isinstance := PySem.W.mg_none_of X G z_isinstance
      z_len := PySem.W.mg_none_of X G z_len
      z_list := PySem.W.mg_none_of X G z_list
      z_max := PySem.W.mg_none_of X G z_max
      z_min := PySem.W.mg_none_of X G z_min
      z_range := PySem.W.mg_none_of X G z_range
      z_reversed := PySem.W.mg_none_of X G z_reversed
      z_set := PySem.W.mg_none_of X G z_set
      z_sorted := PySem.W.mg_none_of X G z_sorted
      z_str := PySem.W.mg_none_of X G z_str
      z_tuple := PySem.W.mg_none_of X G z_tuple
      z_zip := PySem.W.mg_none_of X G z_zip
      e_InvalidKinds := exAll_mk x1_InvalidKinds x2_InvalidKinds x3_InvalidKinds x4_InvalidKinds x5_InvalidKinds x6_InvalidKinds x7_InvalidKinds x8_InvalidKinds x9_InvalidKinds y1_InvalidKinds y2_InvalidKinds y3_InvalidKinds a9 y4_InvalidKinds b_e b_h b_t s_n s_t
      n_InvalidKinds_value := n_InvalidKinds_value
      e_InvalidRules := exAll_mk x1_InvalidRules x2_InvalidRules x3_InvalidRules x4_InvalidRules x5_InvalidRules x6_InvalidRules x7_InvalidRules x8_InvalidRules x9_InvalidRules y1_InvalidRules y2_InvalidRules y3_InvalidRules a10 y4_InvalidRules b_e b_h b_t s_n s_t
      n_InvalidRules_value := n_InvalidRules_value
      e_InvalidTokens := exAll_mk x1_InvalidTokens x2_InvalidTokens x3_InvalidTokens x4_InvalidTokens x5_InvalidTokens x6_InvalidTokens x7_InvalidTokens x8_InvalidTokens x9_InvalidTokens y1_InvalidTokens y2_InvalidTokens y3_InvalidTokens a11 y4_InvalidTokens b_e b_h b_t s_n s_t
      n_InvalidTokens_value := n_InvalidTokens_value
      cl_Prices := ⟨kg_Prices, kh_Prices, ko_Prices, ks_Prices⟩
      mk_Prices := ⟨km_Prices, a7, kf7, kk_Prices⟩
      mt_Prices_price := ⟨a8, kf8, ke8⟩
      nf_Prices_count := nf_Prices_count
      nf_Prices_row := nf_Prices_row
      nf_Prices_numbers := nf_Prices_numbers
      cl_Tabling := ⟨kg_Tabling, kh_Tabling, ko_Tabling, ks_Tabling⟩
      mk_Tabling := ⟨km_Tabling, a14, kf14, kk_Tabling⟩
      mt_Tabling_lay := ⟨a15, kf15, ke15⟩
      mt_Tabling_inner_sums := ⟨a16, kf16, ke16⟩
      mt_Tabling_sum_by := ⟨a17, kf17, ke17⟩
      mt_Tabling_add_up := ⟨a18, kf18, ke18⟩
      mt_Tabling_by_rule := ⟨a19, kf19, ke19⟩
      mt_Tabling_lowers := ⟨a20, kf20, ke20⟩
      mt_Tabling_entries := ⟨a21, kf21, ke21⟩
      nf_Tabling_grammar := nf_Tabling_grammar
      nf_Tabling_row := nf_Tabling_row
      nf_Tabling_numbers := nf_Tabling_numbers
      nf_Tabling_prices := nf_Tabling_prices
      nf_Tabling_sums := nf_Tabling_sums
      nf_Tabling_made := nf_Tabling_made
      cl_Beginnings := ⟨kg_Beginnings, kh_Beginnings, ko_Beginnings, ks_Beginnings⟩
      mk_Beginnings := ⟨km_Beginnings, a26, kf26, kk_Beginnings⟩
      nf_Beginnings_count := nf_Beginnings_count
      nf_Beginnings_empty := nf_Beginnings_empty
      nf_Beginnings_first := nf_Beginnings_first
      nf_Beginnings_behind := nf_Beginnings_behind
      cl_Grammar := ⟨kg_Grammar, kh_Grammar, ko_Grammar, ks_Grammar⟩
      mk_Grammar := ⟨km_Grammar, a37, kf37, kk_Grammar⟩
      mt_Grammar___eq__ := ⟨a38, kf38, ke38⟩
      nf_Grammar_tokens := nf_Grammar_tokens
      nf_Grammar_rules := nf_Grammar_rules
      nf_Grammar_groups := nf_Grammar_groups
      nf_Grammar_codes := nf_Grammar_codes
      nf_Grammar_heads := nf_Grammar_heads
      nf_Grammar_parts := nf_Grammar_parts
      nf_Grammar_rules_of := nf_Grammar_rules_of
      nf_Grammar_beginnings := nf_Grammar_beginnings
      nf_Grammar_state_list := nf_Grammar_state_list }
  exact ⟨PySem.W.fnOf "law" "law" (defArgs s_law) (defBody s_law) (defScope s_law) .none kV49 dc49 pm49 an49 cd49 ct49, fun s v => .of_eq rfl, fun base _ _ => ok_law T⟩
end K63
open PySem PySem.W PyProof.Rows
set_option maxHeartbeats 0 in
theorem PySem.Challenge.cw_alwaystree_k63_token_changes_holds : PySem.Challenge.rw_alwaystree_k63_token_changes.Holds := by
  w_on; o_law; k_head; (case hw => w_witness2)
  k_fill
  refine L2.walk_of (l := PySem.Challenge.rw_alwaystree_k63_token_changes) (n := 63) (k := 9) (x := "script") (CX := fun _ => L2.CX0) (sp := fun w => K63.sp_law _) rfl (by decide) rfl ⟨rfl, by decide, by decide⟩ (fun w h Y => PySem.W.kIn_of Y) ?F (fun _ _ a ns hl _ hS => ⟨a, ns, rfl, hS, hl, fun _ => rfl⟩) (fun _ _ _ _ _ h => h)
  case F =>
    intro w mg fa h KX G hmg
    refine' K63.all_mk KX G hmg ?ac_Prices ?ac_TreeError ?ac_InvalidKinds ?ac_InvalidRules ?ac_InvalidTokens ?ac_Tabling ?ac_Beginnings ?ac_Grammar ?a0 ?l0 ?co0 ?ke0 ?a1 ?l1 ?co1 ?ke1 ?a2 ?l2 ?co2 ?ke2 ?a3 ?l3 ?co3 ?ke3 ?a4 ?l4 ?co4 ?ke4 ?a5 ?l5 ?co5 ?ke5 ?a6 ?l6 ?co6 ?ke6 ?a7 ?l7 ?co7 ?ke7 ?a8 ?l8 ?co8 ?ke8 ?a9 ?l9 ?co9 ?ke9 ?a10 ?l10 ?co10 ?ke10 ?a11 ?l11 ?co11 ?ke11 ?a12 ?l12 ?co12 ?ke12 ?a13 ?l13 ?co13 ?ke13 ?a14 ?l14 ?co14 ?ke14 ?a15 ?l15 ?co15 ?ke15 ?a16 ?l16 ?co16 ?ke16 ?a17 ?l17 ?co17 ?ke17 ?a18 ?l18 ?co18 ?ke18 ?a19 ?l19 ?co19 ?ke19 ?a20 ?l20 ?co20 ?ke20 ?a21 ?l21 ?co21 ?ke21 ?a22 ?l22 ?co22 ?ke22 ?a23 ?l23 ?co23 ?ke23 ?a24 ?l24 ?co24 ?ke24 ?a25 ?l25 ?co25 ?ke25 ?a26 ?l26 ?co26 ?ke26 ?a27 ?l27 ?co27 ?ke27 ?a28 ?l28 ?co28 ?ke28 ?a29 ?l29 ?co29 ?ke29 ?a30 ?l30 ?co30 ?ke30 ?a31 ?l31 ?co31 ?ke31 ?a32 ?l32 ?co32 ?ke32 ?a33 ?l33 ?co33 ?ke33 ?a34 ?l34 ?co34 ?ke34 ?a35 ?l35 ?co35 ?ke35 ?a36 ?l36 ?co36 ?ke36 ?a37 ?l37 ?co37 ?ke37 ?a38 ?l38 ?co38 ?ke38 ?a39 ?l39 ?co39 ?ke39 ?a40 ?l40 ?co40 ?ke40 ?a41 ?l41 ?co41 ?ke41 ?a42 ?l42 ?co42 ?ke42 ?a43 ?l43 ?co43 ?ke43 ?a44 ?l44 ?co44 ?ke44 ?a45 ?l45 ?co45 ?ke45 ?a46 ?l46 ?co46 ?ke46 ?a47 ?l47 ?co47 ?ke47 ?a48 ?l48 ?co48 ?ke48 ?a49 ?l49 ?co49 ?ke49 ?va_LETTERS ?vb_LETTERS ?va_LONGEST ?vb_LONGEST ?z_all ?z_bool ?z_enumerate ?z_int ?z_isinstance ?z_len ?z_list ?z_max ?z_min ?z_range ?z_reversed ?z_set ?z_sorted ?z_str ?z_tuple ?z_zip ?b_e ?b_h ?b_t ?s_n ?s_t ?x1_InvalidKinds ?x2_InvalidKinds ?x3_InvalidKinds ?x4_InvalidKinds ?x5_InvalidKinds ?x6_InvalidKinds ?x7_InvalidKinds ?x8_InvalidKinds ?x9_InvalidKinds ?y1_InvalidKinds ?y2_InvalidKinds ?y3_InvalidKinds ?y4_InvalidKinds ?n_InvalidKinds_value ?x1_InvalidRules ?x2_InvalidRules ?x3_InvalidRules ?x4_InvalidRules ?x5_InvalidRules ?x6_InvalidRules ?x7_InvalidRules ?x8_InvalidRules ?x9_InvalidRules ?y1_InvalidRules ?y2_InvalidRules ?y3_InvalidRules ?y4_InvalidRules ?n_InvalidRules_value ?x1_InvalidTokens ?x2_InvalidTokens ?x3_InvalidTokens ?x4_InvalidTokens ?x5_InvalidTokens ?x6_InvalidTokens ?x7_InvalidTokens ?x8_InvalidTokens ?x9_InvalidTokens ?y1_InvalidTokens ?y2_InvalidTokens ?y3_InvalidTokens ?y4_InvalidTokens ?n_InvalidTokens_value ?kg_Prices ?kh_Prices ?ko_Prices ?ks_Prices ?kf7 ?km_Prices ?kk_Prices ?kf8 ?nf_Prices_count ?nf_Prices_row ?nf_Prices_numbers ?kg_Tabling ?kh_Tabling ?ko_Tabling ?ks_Tabling ?kf14 ?km_Tabling ?kk_Tabling ?kf15 ?kf16 ?kf17 ?kf18 ?kf19 ?kf20 ?kf21 ?nf_Tabling_grammar ?nf_Tabling_row ?nf_Tabling_numbers ?nf_Tabling_prices ?nf_Tabling_sums ?nf_Tabling_made ?kg_Beginnings ?kh_Beginnings ?ko_Beginnings ?ks_Beginnings ?kf26 ?km_Beginnings ?kk_Beginnings ?nf_Beginnings_count ?nf_Beginnings_empty ?nf_Beginnings_first ?nf_Beginnings_behind ?kg_Grammar ?kh_Grammar ?ko_Grammar ?ks_Grammar ?kf37 ?km_Grammar ?kk_Grammar ?kf38 ?nf_Grammar_tokens ?nf_Grammar_rules ?nf_Grammar_groups ?nf_Grammar_codes ?nf_Grammar_heads ?nf_Grammar_parts ?nf_Grammar_rules_of ?nf_Grammar_beginnings ?nf_Grammar_state_list
    (case ac_Prices => k_is)
    (case ac_TreeError => k_is)
    (case ac_InvalidKinds => k_is)
    (case ac_InvalidRules => k_is)
    (case ac_InvalidTokens => k_is)
    (case ac_Tabling => k_is)
    (case ac_Beginnings => k_is)
    (case ac_Grammar => k_is)
    (case a0 => k_is)
    (case l0 => k_is)
    (case co0 => k_is)
    (case ke0 => k_is)
    (case a1 => k_is)
    (case l1 => k_is)
    (case co1 => k_is)
    (case ke1 => k_is)
    (case a2 => k_is)
    (case l2 => k_is)
    (case co2 => k_is)
    (case ke2 => k_is)
    (case a3 => k_is)
    (case l3 => k_is)
    (case co3 => k_is)
    (case ke3 => k_is)
    (case a4 => k_is)
    (case l4 => k_is)
    (case co4 => k_is)
    (case ke4 => k_is)
    (case a5 => k_is)
    (case l5 => k_is)
    (case co5 => k_is)
    (case ke5 => k_is)
    (case a6 => k_is)
    (case l6 => k_is)
    (case co6 => k_is)
    (case ke6 => k_is)
    (case a7 => k_is)
    (case l7 => k_is)
    (case co7 => k_is)
    (case ke7 => k_is)
    (case a8 => k_is)
    (case l8 => k_is)
    (case co8 => k_is)
    (case ke8 => k_is)
    (case a9 => k_is)
    (case l9 => k_is)
    (case co9 => k_is)
    (case ke9 => k_is)
    (case a10 => k_is)
    (case l10 => k_is)
    (case co10 => k_is)
    (case ke10 => k_is)
    (case a11 => k_is)
    (case l11 => k_is)
    (case co11 => k_is)
    (case ke11 => k_is)
    (case a12 => k_is)
    (case l12 => k_is)
    (case co12 => k_is)
    (case ke12 => k_is)
    (case a13 => k_is)
    (case l13 => k_is)
    (case co13 => k_is)
    (case ke13 => k_is)
    (case a14 => k_is)
    (case l14 => k_is)
    (case co14 => k_is)
    (case ke14 => k_is)
    (case a15 => k_is)
    (case l15 => k_is)
    (case co15 => k_is)
    (case ke15 => k_is)
    (case a16 => k_is)
    (case l16 => k_is)
    (case co16 => k_is)
    (case ke16 => k_is)
    (case a17 => k_is)
    (case l17 => k_is)
    (case co17 => k_is)
    (case ke17 => k_is)
    (case a18 => k_is)
    (case l18 => k_is)
    (case co18 => k_is)
    (case ke18 => k_is)
    (case a19 => k_is)
    (case l19 => k_is)
    (case co19 => k_is)
    (case ke19 => k_is)
    (case a20 => k_is)
    (case l20 => k_is)
    (case co20 => k_is)
    (case ke20 => k_is)
    (case a21 => k_is)
    (case l21 => k_is)
    (case co21 => k_is)
    (case ke21 => k_is)
    (case a22 => k_is)
    (case l22 => k_is)
    (case co22 => k_is)
    (case ke22 => k_is)
    (case a23 => k_is)
    (case l23 => k_is)
    (case co23 => k_is)
    (case ke23 => k_is)
    (case a24 => k_is)
    (case l24 => k_is)
    (case co24 => k_is)
    (case ke24 => k_is)
    (case a25 => k_is)
    (case l25 => k_is)
    (case co25 => k_is)
    (case ke25 => k_is)
    (case a26 => k_is)
    (case l26 => k_is)
    (case co26 => k_is)
    (case ke26 => k_is)
    (case a27 => k_is)
    (case l27 => k_is)
    (case co27 => k_is)
    (case ke27 => k_is)
    (case a28 => k_is)
    (case l28 => k_is)
    (case co28 => k_is)
    (case ke28 => k_is)
    (case a29 => k_is)
    (case l29 => k_is)
    (case co29 => k_is)
    (case ke29 => k_is)
    (case a30 => k_is)
    (case l30 => k_is)
    (case co30 => k_is)
    (case ke30 => k_is)
    (case a31 => k_is)
    (case l31 => k_is)
    (case co31 => k_is)
    (case ke31 => k_is)
    (case a32 => k_is)
    (case l32 => k_is)
    (case co32 => k_is)
    (case ke32 => k_is)
    (case a33 => k_is)
    (case l33 => k_is)
    (case co33 => k_is)
    (case ke33 => k_is)
    (case a34 => k_is)
    (case l34 => k_is)
    (case co34 => k_is)
    (case ke34 => k_is)
    (case a35 => k_is)
    (case l35 => k_is)
    (case co35 => k_is)
    (case ke35 => k_is)
    (case a36 => k_is)
    (case l36 => k_is)
    (case co36 => k_is)
    (case ke36 => k_is)
    (case a37 => k_is)
    (case l37 => k_is)
    (case co37 => k_is)
    (case ke37 => k_is)
    (case a38 => k_is)
    (case l38 => k_is)
    (case co38 => k_is)
    (case ke38 => k_is)
    (case a39 => k_is)
    (case l39 => k_is)
    (case co39 => k_is)
    (case ke39 => k_is)
    (case a40 => k_is)
    (case l40 => k_is)
    (case co40 => k_is)
    (case ke40 => k_is)
    (case a41 => k_is)
    (case l41 => k_is)
    (case co41 => k_is)
    (case ke41 => k_is)
    (case a42 => k_is)
    (case l42 => k_is)
    (case co42 => k_is)
    (case ke42 => k_is)
    (case a43 => k_is)
    (case l43 => k_is)
    (case co43 => k_is)
    (case ke43 => k_is)
    (case a44 => k_is)
    (case l44 => k_is)
    (case co44 => k_is)
    (case ke44 => k_is)
    (case a45 => k_is)
    (case l45 => k_is)
    (case co45 => k_is)
    (case ke45 => k_is)
    (case a46 => k_is)
    (case l46 => k_is)
    (case co46 => k_is)
    (case ke46 => k_is)
    (case a47 => k_is)
    (case l47 => k_is)
    (case co47 => k_is)
    (case ke47 => k_is)
    (case a48 => k_is)
    (case l48 => k_is)
    (case co48 => k_is)
    (case ke48 => k_is)
    (case a49 => k_is)
    (case l49 => k_is)
    (case co49 => k_is)
    (case ke49 => k_is)
    (case va_LETTERS => k_is)
    (case vb_LETTERS => exact ⟨_, rfl⟩)
    (case va_LONGEST => k_is)
    (case vb_LONGEST => exact ⟨_, rfl⟩)
    (case z_all => k_is)
    (case z_bool => k_is)
    (case z_enumerate => k_is)
    (case z_int => k_is)
    (case z_isinstance => k_is)
    (case z_len => k_is)
    (case z_list => k_is)
    (case z_max => k_is)
    (case z_min => k_is)
    (case z_range => k_is)
    (case z_reversed => k_is)
    (case z_set => k_is)
    (case z_sorted => k_is)
    (case z_str => k_is)
    (case z_tuple => k_is)
    (case z_zip => k_is)
    (case b_e => k_is)
    (case b_h => k_is)
    (case b_t => k_is)
    (case s_n => k_is)
    (case s_t => k_is)
    (case x1_InvalidKinds => k_is)
    (case x2_InvalidKinds => decide +kernel)
    (case x3_InvalidKinds => k_is)
    (case x4_InvalidKinds => k_is)
    (case x5_InvalidKinds => k_is)
    (case x6_InvalidKinds => k_is)
    (case x7_InvalidKinds => k_is)
    (case x8_InvalidKinds => k_is)
    (case x9_InvalidKinds => k_is)
    (case y1_InvalidKinds => k_is)
    (case y2_InvalidKinds => k_is)
    (case y3_InvalidKinds => k_is)
    (case y4_InvalidKinds => k_is)
    (case n_InvalidKinds_value => k_is)
    (case x1_InvalidRules => k_is)
    (case x2_InvalidRules => decide +kernel)
    (case x3_InvalidRules => k_is)
    (case x4_InvalidRules => k_is)
    (case x5_InvalidRules => k_is)
    (case x6_InvalidRules => k_is)
    (case x7_InvalidRules => k_is)
    (case x8_InvalidRules => k_is)
    (case x9_InvalidRules => k_is)
    (case y1_InvalidRules => k_is)
    (case y2_InvalidRules => k_is)
    (case y3_InvalidRules => k_is)
    (case y4_InvalidRules => k_is)
    (case n_InvalidRules_value => k_is)
    (case x1_InvalidTokens => k_is)
    (case x2_InvalidTokens => decide +kernel)
    (case x3_InvalidTokens => k_is)
    (case x4_InvalidTokens => k_is)
    (case x5_InvalidTokens => k_is)
    (case x6_InvalidTokens => k_is)
    (case x7_InvalidTokens => k_is)
    (case x8_InvalidTokens => k_is)
    (case x9_InvalidTokens => k_is)
    (case y1_InvalidTokens => k_is)
    (case y2_InvalidTokens => k_is)
    (case y3_InvalidTokens => k_is)
    (case y4_InvalidTokens => k_is)
    (case n_InvalidTokens_value => k_is)
    (case kg_Prices => k_is)
    (case kh_Prices => k_is)
    (case ko_Prices => k_is)
    (case ks_Prices => k_is)
    (case kf7 => k_is)
    (case km_Prices => k_is)
    (case kk_Prices => k_is)
    (case kf8 => k_is)
    (case nf_Prices_count => k_is)
    (case nf_Prices_row => k_is)
    (case nf_Prices_numbers => k_is)
    (case kg_Tabling => k_is)
    (case kh_Tabling => k_is)
    (case ko_Tabling => k_is)
    (case ks_Tabling => k_is)
    (case kf14 => k_is)
    (case km_Tabling => k_is)
    (case kk_Tabling => k_is)
    (case kf15 => k_is)
    (case kf16 => k_is)
    (case kf17 => k_is)
    (case kf18 => k_is)
    (case kf19 => k_is)
    (case kf20 => k_is)
    (case kf21 => k_is)
    (case nf_Tabling_grammar => k_is)
    (case nf_Tabling_row => k_is)
    (case nf_Tabling_numbers => k_is)
    (case nf_Tabling_prices => k_is)
    (case nf_Tabling_sums => k_is)
    (case nf_Tabling_made => k_is)
    (case kg_Beginnings => k_is)
    (case kh_Beginnings => k_is)
    (case ko_Beginnings => k_is)
    (case ks_Beginnings => k_is)
    (case kf26 => k_is)
    (case km_Beginnings => k_is)
    (case kk_Beginnings => k_is)
    (case nf_Beginnings_count => k_is)
    (case nf_Beginnings_empty => k_is)
    (case nf_Beginnings_first => k_is)
    (case nf_Beginnings_behind => k_is)
    (case kg_Grammar => k_is)
    (case kh_Grammar => k_is)
    (case ko_Grammar => k_is)
    (case ks_Grammar => k_is)
    (case kf37 => k_is)
    (case km_Grammar => k_is)
    (case kk_Grammar => k_is)
    (case kf38 => k_is)
    (case nf_Grammar_tokens => k_is)
    (case nf_Grammar_rules => k_is)
    (case nf_Grammar_groups => k_is)
    (case nf_Grammar_codes => k_is)
    (case nf_Grammar_heads => k_is)
    (case nf_Grammar_parts => k_is)
    (case nf_Grammar_rules_of => k_is)
    (case nf_Grammar_beginnings => k_is)
    (case nf_Grammar_state_list => k_is)
