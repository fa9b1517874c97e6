import PyProof.Rows.All
import Wide.All
import OpenK.AllK
import Wide.FinOn
import KE.KNestM
import HandS.ForMost
import HandS.Star
import HandS.TupAny
import HandS.TupLe
import HandS.Zip
import HandS.DictComp
import HandS.IsInst
import HandS.SortInts
import HandS.Conv
import HandS.Wide
import HandS.TryOnly
import HandS.EndTab
import KE.SortData
import KE.DataMinMax
import KE.DataMinKey
import PySem.Challenge.RW_mexrooms_k91_whole_waves_compared
import KE.GoesMore
import HandS.SetFor
import HandS.Strs
import HandS.Nested
import HandS.SortKw
set_option Elab.async false
set_option linter.all false
set_option maxRecDepth 100000
/-! the base: the text by places, what stands, comprehensions in short. -/
namespace Mx
open PySem PySem.Spec PyProof.Rows L2
def topS (i : Nat) : Stmt := PySem.Challenge.pw_mexrooms_k91_whole_waves_compared.main.body.getD i (.Pass ⟨0, 0, 0, 0⟩)

/-! ### names of the module -/
structure Bz (mg : Str → Option Value) : Prop where
  zlen : mg "len" = none
  zisinstance : mg "isinstance" = none
  zint : mg "int" = none
  zbool : mg "bool" = none
  ztuple : mg "tuple" = none
  zlist : mg "list" = none
  zrange : mg "range" = none
  zsorted : mg "sorted" = none
  zset : mg "set" = none
  zenumerate : mg "enumerate" = none
  zzip : mg "zip" = none
  zall : mg "all" = none
  zany : mg "any" = none
  zsum : mg "sum" = none
  zmax : mg "max" = none
  zmin : mg "min" = none
/-- a def of the module: where it stands -/
def Dfn (K : PySem.W.Frag) (mg : Str → Option Value) (x : Str) (st : Stmt) (ps : List Str) : Prop :=
  ∃ (f : Addr) (fd : FuncData), mg x = some (.ref f) ∧ Fun K x x st f fd ∧ Binds K fd ps []
/-- .. and what it promises -/
def Cd (P : Program) (w : World) (K : PySem.W.Frag) (mg : Str → Option Value) (base : Heap) (k : Nat) (x : Str) (ps : List Str) (sp : Sp) : Prop :=
  ∃ (f : Addr) (fd : FuncData), mg x = some (.ref f) ∧ PySem.W.keepIn K (.ref f) = true ∧ Binds K fd ps [] ∧ FnOk P w K mg base CX0 k f fd ps sp
section
variable {P : Program} {w : World} {K : PySem.W.Frag} {mg : Str → Option Value} {base : Heap}
theorem cd_of {x : Str} {st : Stmt} {N ps : List Str} {k : Nat} {sp : Sp} (D : Dfn K mg x st ps) (S : FnScope N ps (defScope st)) (len : ∀ vs H Q E, sp vs H Q E → vs.length = ps.length)
    (hbody : ∀ (f : Addr) (cdv : Value) (A : Around) (outer : List Env) (s : Shared) (H : Hp) (vs : List V) (Q : VK) (E : XK), Room k (A.deeper (envOfC x (defScope st) s.heap.objs.size f cdv)) → sp vs H Q E →
      ∃ t, PSs (cxOf CX0 P w K mg base N x (defScope st) f cdv A outer s H E).nox (defBody st) t ∧ t { nx := fun _ H' => Q .non H', rt := Q } (start N vs) H) : Cd P w K mg base (k + 1) x ps sp := by
  obtain ⟨f, fd, hm, F, b⟩ := D
  exact ⟨f, fd, hm, F.kp, b, F.ok S len (hbody f)⟩
theorem Cd.mono {x : Str} {ps : List Str} {j k : Nat} {sp : Sp} (C : Cd P w K mg base j x ps sp) (h : j ≤ k) : Cd P w K mg base k x ps sp := by
  obtain ⟨f, fd, a, b, c, d⟩ := C
  exact ⟨f, fd, a, b, c, d.mono h⟩
end
/-- x(e, ..) by the def's promise -/
theorem pe_cd {X : Cx} {k : Nat} {x : Str} {ps : List Str} {sp : Sp} {e : Expr} {es : List Expr} {t : TA} {p pos : Pos} (C : Cd X.prog X.w X.K X.mg X.base k x ps sp) (hr : Room k X.A) (ha : PA X (e :: es) t)
    (hg : Gl X x := by rfl) (hd : (x == ("__debug__" : Str)) = false := by decide)
    (he : starEach (e :: es) X.env = (false, eval e X.env) :: starEach es X.env := by rfl) (hpl : (backTo pos (starEach es X.env)).any (·.1) = false := by rfl) : PE X (.Call (.Name x p) (e :: es) [] pos) (tCall sp [] E0 t) := by
  obtain ⟨f, fd, hm, hk, hb, F⟩ := C
  exact pe_call F hr hg hm hk hb .nil pass0 ha hd he hpl

/-! ### heaps -/
theorem sameT {K : PySem.W.Frag} {H H' : Hp} {a : Addr} {xs : List V} (e : Same H H') (h : SqT K H a xs) : SqT K H' a xs := by
  rcases h with (h | ⟨o, h⟩) | h
  · exact .inl (.inl (e _ _ h))
  · exact .inl (.inr ⟨o, e _ _ h⟩)
  · exact .inr h
theorem sameN {H : Hp} {p : Addr} {o : HO} (h : H p = none) : Same H (upd H p o) := fun b x e => by
  rw [upd_ne (ne_of_none e h)]
  exact e
/-- all but what stands at D -/
def ExD (D : Addr) (H H' : Hp) : Prop := ∀ b o, H b = some o → b ≠ D → H' b = some o
theorem exD_upd {D : Addr} {H : Hp} {o : HO} : ExD D H (upd H D o) := fun b x e h => by
  rw [upd_ne h]
  exact e
theorem ExD.refl (D : Addr) (H : Hp) : ExD D H H := fun _ _ e _ => e
theorem ExD.trans {D : Addr} {H H1 H2 : Hp} (a : ExD D H H1) (b : ExD D H1 H2) : ExD D H H2 := fun c o e h => b c o (a c o e h) h
theorem Same.exD {D : Addr} {H H' : Hp} (a : Same H H') : ExD D H H' := fun c o e _ => a c o e
theorem ExD.of_new {D : Addr} {H H1 H' : Hp} (a : Same H H1) (n : H D = none) (b : ExD D H1 H') : Same H H' := fun c o e => b c o (a c o e) (ne_of_none e n)

/-- a number -/
abbrev vi (k : Nat) : V := .int (k : Int)
theorem vi_map (l : List Nat) : l.map vi = (l.map Int.ofNat).map V.int := by
  rw [List.map_map]
  rfl
theorem vi_inj : ∀ {a b : List Nat}, a.map vi = b.map vi → a = b
  | [], [], _ => rfl
  | [], _ :: _, h => by cases h
  | _ :: _, [], h => by cases h
  | x :: xs, y :: ys, h => by
    have h1 : vi x = vi y ∧ xs.map vi = ys.map vi := by simpa using h
    have h2 : (x : Int) = (y : Int) := V.int.inj h1.1
    rw [vi_inj h1.2, Int.ofNat.inj h2]
theorem dec_nat_lt (a b : Nat) : decide ((a : Int) < (b : Int)) = decide (a < b) := by
  by_cases h : a < b
  · rw [decide_eq_true h, decide_eq_true (by omega)]
  · rw [decide_eq_false h, decide_eq_false (by omega)]
theorem dec_nat_le (a b : Nat) : decide ((a : Int) ≤ (b : Int)) = decide (a ≤ b) := by
  by_cases h : a ≤ b
  · rw [decide_eq_true h, decide_eq_true (by omega)]
  · rw [decide_eq_false h, decide_eq_false (by omega)]
theorem dec_vi_eq (a b : Nat) : decide (vi a = vi b) = decide (a = b) := by
  by_cases h : a = b
  · rw [decide_eq_true h, decide_eq_true (by rw [h])]
  · rw [decide_eq_false h, decide_eq_false (fun q => h (by have := V.int.inj q; omega))]
/-- an item of a row of numbers at a place -/
theorem at_vi {l : List Nat} {i : Nat} (h : i < l.length) : atI (l.map vi) (i : Int) = some (vi (l.getD i 0)) := by
  refine atI_nat ?_
  rw [List.getElem?_map, List.getElem?_eq_getElem h, List.getD_eq_getElem?_getD, List.getElem?_eq_getElem h]
  rfl
theorem get_vi {l : List Nat} {i : Nat} {x : V} (h : (l.map vi)[i]? = some x) : ∃ hi : i < l.length, x = vi l[i] := by
  rw [List.getElem?_map] at h
  cases e : l[i]? with
  | none =>
    rw [e] at h
    cases h
  | some y =>
    rw [e] at h
    obtain ⟨hi, e2⟩ := List.getElem?_eq_some_iff.mp e
    exact ⟨hi, by rw [e2]; exact (Option.some.inj h).symm⟩
theorem get_ref {l : List Addr} {i : Nat} {x : V} (h : (l.map V.ref)[i]? = some x) : ∃ hi : i < l.length, x = V.ref l[i] := by
  rw [List.getElem?_map] at h
  cases e : l[i]? with
  | none =>
    rw [e] at h
    cases h
  | some y =>
    rw [e] at h
    obtain ⟨hi, e2⟩ := List.getElem?_eq_some_iff.mp e
    exact ⟨hi, by rw [e2]; exact (Option.some.inj h).symm⟩

/-! ### comprehensions in short -/
/-- n turns, each yielding what Y tells, the element f i (none: left out): the new list -/
theorem lcG {J : It} {n : Nat} {H1 : Hp} {g : TG} {tt : TT} {te : TE} {vs : List Nat} {σ : L2.St} {Q : VK} (Y : Nat → V → Hp → Prop) (f : Nat → Option V) (hn : n ≤ 1000)
    (go : ∀ i H, i < n → Same H1 H → J.go i H) (stop : ∀ H, Same H1 H → J.stop n H) (yl : ∀ i H x H', i < n → Same H1 H → J.yld i H x H' → Same H H' ∧ Y i x H')
    (step : ∀ i x H (N : Option V → Hp → Prop), i < n → Same H1 H → Y i x H → (∀ H', Same H H' → N (f i) H') → g x (wipe σ vs) H fun σ2 H2 => wipe σ2 vs = wipe σ vs ∧ tt σ2 H2 fun b H3 =>
      if b = true then te σ2 H3 fun y H4 => N (some y) H4 else N none H3)
    (hd : ∀ D H, H1 D = none → Same H1 H → H D = some (.lst ((List.range n).filterMap f)) → Q (.ref D) H) :
    ∀ D, H1 D = none → ∃ W : Nat → Nat → Hp → Prop, (∃ m, W 0 m (upd H1 D (.lst []))) ∧ ∀ i m H, W i m H →
      (J.stop i H ∧ Q (.ref D) H) ∨ (J.go i H ∧ ∃ Nx : Hp → Prop, (∀ H', Nx H' → ∃ m', m' < m ∧ W (i + 1) m' H') ∧ ∀ x H', J.yld i H x H' → g x (wipe σ vs) H' fun σ2 H2 => wipe σ2 vs = wipe σ vs ∧ tt σ2 H2 fun b H3 =>
        if b = true then te σ2 H3 fun y H4 => ∃ acc, H4 D = some (.lst acc) ∧ acc.length < sizeLine ∧ Nx (upd H4 D (.lst (acc ++ [y]))) else Nx H3) := by
  intro D nD
  have fmlen : ∀ i, ((List.range i).filterMap f).length ≤ i := fun i => by
    have h := List.length_filterMap_le f (List.range i)
    rw [List.length_range] at h
    exact h
  refine ⟨fun i m H => m = n - i ∧ i ≤ n ∧ Same H1 H ∧ H D = some (.lst ((List.range i).filterMap f)), ⟨n, rfl, Nat.zero_le _, sameN nD, upd_same⟩, ?_⟩
  rintro i m H ⟨rfl, hi, sm, hD⟩
  by_cases hlt : i < n
  · refine .inr ⟨go i H hlt sm, fun H' => Same H1 H' ∧ H' D = some (.lst ((List.range (i + 1)).filterMap f)), fun H' ⟨a, b⟩ => ⟨n - (i + 1), by omega, rfl, hlt, a, b⟩, fun x H' hy => ?_⟩
    obtain ⟨s1, y1⟩ := yl i H x H' hlt sm hy
    refine step i x H' (fun o H4 => match o with
      | some y => ∃ acc, H4 D = some (.lst acc) ∧ acc.length < sizeLine ∧ (Same H1 (upd H4 D (.lst (acc ++ [y]))) ∧ (upd H4 D (.lst (acc ++ [y]))) D = some (.lst ((List.range (i + 1)).filterMap f)))
      | none => Same H1 H4 ∧ H4 D = some (.lst ((List.range (i + 1)).filterMap f))) hlt (sm.trans s1) y1 fun H4 s4 => ?_
    have hD4 : H4 D = some (.lst ((List.range i).filterMap f)) := s4 _ _ (s1 _ _ hD)
    have sm4 : Same H1 H4 := sm.trans (s1.trans s4)
    have er : (List.range (i + 1)).filterMap f = (List.range i).filterMap f ++ (f i).toList := by
      rw [List.range_succ, List.filterMap_append]
      cases e : f i with
      | none => simp [e]
      | some y => simp [e]
    cases e : f i with
    | none =>
      refine ⟨sm4, ?_⟩
      rw [hD4, er, e]
      simp
    | some y =>
      refine ⟨_, hD4, ?_, ?_, ?_⟩
      · exact Nat.lt_of_le_of_lt (fmlen i) (small1000 (by omega))
      · exact ExD.of_new sm4 nD exD_upd
      · rw [upd_same, er, e]
        rfl
  · have e : i = n := by omega
    subst e
    exact .inl ⟨stop H sm, hd D H nD sm hD⟩
theorem filterMap_range {α β : Type} (f : α → Option β) : ∀ (xs : List α), (List.range xs.length).filterMap (fun i => (xs[i]?).bind f) = xs.filterMap f
  | [] => rfl
  | x :: xs => by
    have ih := filterMap_range f xs
    rw [List.length_cons, List.range_succ_eq_map, List.filterMap_cons, List.filterMap_map]
    have e : ((fun i => ((x :: xs)[i]?).bind f) ∘ Nat.succ) = fun i => (xs[i]?).bind f := by
      funext i
      simp
    rw [e, ih]
    cases h : f x with
    | none => simp [h]
    | some y => simp [h]
/-! ### built-ins by name -/
theorem b_len : bootBuiltins "len" = some (.builtin "len") := PySem.boot_len
theorem b_isinstance : bootBuiltins "isinstance" = some (.builtin "isinstance") := PyProof.Rows.boot_isinstance
theorem b_int : bootBuiltins "int" = some (.type "int") := PyProof.Rows.boot_int
theorem b_bool : bootBuiltins "bool" = some (.type "bool") := PyProof.Rows.boot_bool
theorem b_list : bootBuiltins "list" = some (.type "list") := PyProof.Rows.boot_list
theorem b_tuple : bootBuiltins "tuple" = some (.type "tuple") := PyProof.Rows.boot_tuple
theorem b_range : bootBuiltins "range" = some (.type "range") := PyProof.Rows.boot_range
theorem b_set : bootBuiltins "set" = some (.type "set") := PyProof.Rows.boot_set
theorem b_sorted : bootBuiltins "sorted" = some (.builtin "sorted") := PyProof.Rows.boot_sorted
theorem b_all : bootBuiltins "all" = some (.builtin "all") := PyProof.Rows.boot_all
theorem b_any : bootBuiltins "any" = some (.builtin "any") := PyProof.Rows.boot_any
theorem b_sum : bootBuiltins "sum" = some (.builtin "sum") := PyProof.Rows.boot_sum
theorem b_max : bootBuiltins "max" = some (.builtin "max") := PyProof.Rows.boot_max
theorem b_min : bootBuiltins "min" = some (.builtin "min") := PyProof.Rows.boot_min
theorem tyT {K : PySem.W.Frag} {H : Hp} {p : Addr} {xs : List V} (h : SqT K H p xs) : TyX K H (.ref p) (.type "tuple") := by
  rcases h with (h | ⟨o, h⟩) | ⟨o, its, n, hk, hc, _⟩
  · exact .base (.tup h)
  · exact .fTuple h
  · exact .kTuple hk hc
theorem kit_ii {K : PySem.W.Frag} : PySem.W.kitOne K (.type "int") (.type "int") = some true := kit_ty (by decide +kernel)
theorem kit_ib {K : PySem.W.Frag} : PySem.W.kitOne K (.type "int") (.type "bool") = some false := kit_ty (by decide +kernel)
theorem kit_tt {K : PySem.W.Frag} : PySem.W.kitOne K (.type "tuple") (.type "tuple") = some true := kit_ty (by decide +kernel)
theorem qEq {Q : VK} {v v' : V} {H : Hp} (q : Q v H) (e : v = v') : Q v' H := e ▸ q
end Mx
set_option maxHeartbeats 4000000
namespace Mx
open PySem PySem.Spec PyProof.Rows L2
abbrev sIsInteger : Stmt := topS 1
abbrev sIsIn : Stmt := topS 2
abbrev sIsList : Stmt := topS 3
theorem scIsInteger : FnScope ["value"] ["value"] (defScope sIsInteger) := ⟨rfl, rfl, rfl, by decide +kernel, rfl, by decide +kernel, by decide +kernel⟩
theorem scIsIn : FnScope ["value", "least", "most"] ["value", "least", "most"] (defScope sIsIn) := ⟨rfl, rfl, rfl, by decide +kernel, rfl, by decide +kernel, by decide +kernel⟩
theorem scIsList : FnScope ["value", "least", "most"] ["value", "least", "most"] (defScope sIsList) := ⟨rfl, rfl, rfl, by decide +kernel, rfl, by decide +kernel, by decide +kernel⟩
def spIsInteger : Sp := fun vs H Q _ => ∃ i : Int, vs = [.int i] ∧ Q (.bl true) H
def spIsIn : Sp := fun vs H Q _ => ∃ i a b : Int, vs = [.int i, .int a, .int b] ∧ Q (.bl (decide (a ≤ i ∧ i ≤ b))) H
def spIsList (K : PySem.W.Frag) : Sp := fun vs H Q _ => ∃ (p : Addr) (xs : List V) (a b : Int), vs = [.ref p, .int a, .int b] ∧ SqT K H p xs ∧ Q (.bl (decide (a ≤ (xs.length : Int) ∧ (xs.length : Int) ≤ b))) H
section
variable {P : Program} {w : World} {K : PySem.W.Frag} {mg : Str → Option Value} {base : Heap}
theorem cd_is_integer (B : Bz mg) (D : Dfn K mg "is_integer" sIsInteger ["value"]) : Cd P w K mg base 1 "is_integer" ["value"] spIsInteger := by
  refine cd_of D scIsInteger (fun vs H Q E h => ?_) (fun f cdv A outer s H vs Q E hr h => ?_)
  · obtain ⟨i, rfl, _⟩ := h
    rfl
  obtain ⟨i, rfl, q⟩ := h
  refine ⟨_, pss_one (ps_ret (pe_and (pe_callB call_isi (by rfl) B.zisinstance b_isinstance (pa_cons (pv 0) (pa_cons (pe_bltn (v := .ty "int") (by rfl) B.zint b_int rfl) pa_nil)))
    (pe_one (pe_not (pe_callB call_isi (by rfl) B.zisinstance b_isinstance (pa_cons (pv 0) (pa_cons (pe_bltn (v := .ty "bool") (by rfl) B.zbool b_bool rfl) pa_nil))))))), ?_⟩
  refine ⟨_, rfl, .int i, .ty "int", _, _, true, rfl, .ty _, .base (.int i), kit_ii, _, rfl, iteT ?_⟩
  exact ⟨_, rfl, .int i, .ty "bool", _, _, false, rfl, .ty _, .base (.int i), kit_ib, _, rfl, q⟩
theorem cd_is_in (B : Bz mg) (D : Dfn K mg "is_in" sIsIn ["value", "least", "most"]) (C1 : Cd P w K mg base 1 "is_integer" ["value"] spIsInteger) : Cd P w K mg base 2 "is_in" ["value", "least", "most"] spIsIn := by
  refine cd_of D scIsIn (fun vs H Q E h => ?_) (fun f cdv A outer s H vs Q E hr h => ?_)
  · obtain ⟨i, a, b, rfl, _⟩ := h
    rfl
  obtain ⟨i, a, b, rfl, q⟩ := h
  refine ⟨_, pss_one (ps_ret (pe_and (pe_cd C1 hr (pa_cons (pv 0) pa_nil)) (pe_one (pe_chain op_le op_le (pv 1) (pv 0) (pv 2))))), ?_⟩
  refine ⟨_, rfl, i, rfl, _, rfl, iteT ?_⟩
  refine ⟨_, rfl, _, rfl, a, i, rfl, rfl, _, rfl, ?_⟩
  refine ite2 (fun c => ?_) (fun c => ?_)
  · refine ⟨_, rfl, i, b, rfl, rfl, ?_⟩
    have c' : a ≤ i := of_decide_eq_true c
    have e : decide (i ≤ b) = decide (a ≤ i ∧ i ≤ b) := by
      by_cases hb : i ≤ b
      · rw [decide_eq_true hb, decide_eq_true ⟨c', hb⟩]
      · rw [decide_eq_false hb, decide_eq_false (fun z => hb z.2)]
    rw [← e] at q
    exact q
  · have c' : ¬ a ≤ i := of_decide_eq_false (Bool.eq_false_iff.mpr c)
    rw [decide_eq_false (fun z : a ≤ i ∧ i ≤ b => c' z.1)] at q
    exact q
theorem cd_is_list (B : Bz mg) (D : Dfn K mg "is_list" sIsList ["value", "least", "most"]) : Cd P w K mg base 1 "is_list" ["value", "least", "most"] (spIsList K) := by
  refine cd_of D scIsList (fun vs H Q E h => ?_) (fun f cdv A outer s H vs Q E hr h => ?_)
  · obtain ⟨p, xs, a, b, rfl, _⟩ := h
    rfl
  obtain ⟨p, xs, a, b, rfl, hT, q⟩ := h
  refine ⟨_, pss_one (ps_ret (pe_and (pe_callB call_isi (by rfl) B.zisinstance b_isinstance (pa_cons (pv 0) (pa_cons (pe_bltn (v := .ty "tuple") (by rfl) B.ztuple b_tuple rfl) pa_nil)))
    (pe_one (pe_chain op_le op_le (pv 1) (pe_callB call_len_seq (by rfl) B.zlen b_len (pa_cons (pv 0) pa_nil)) (pv 2))))), ?_⟩
  refine ⟨_, rfl, .ref p, .ty "tuple", _, _, true, rfl, .ty _, tyT hT, kit_tt, _, rfl, iteT ?_⟩
  refine ⟨_, rfl, _, rfl, p, xs, rfl, .inr hT, a, _, rfl, rfl, _, rfl, ?_⟩
  refine ite2 (fun c => ?_) (fun c => ?_)
  · refine ⟨_, rfl, _, b, rfl, rfl, ?_⟩
    have c' : a ≤ (xs.length : Int) := of_decide_eq_true c
    have e : decide ((xs.length : Int) ≤ b) = decide (a ≤ (xs.length : Int) ∧ (xs.length : Int) ≤ b) := by
      by_cases hb : (xs.length : Int) ≤ b
      · rw [decide_eq_true hb, decide_eq_true ⟨c', hb⟩]
      · rw [decide_eq_false hb, decide_eq_false (fun z => hb z.2)]
    rw [← e] at q
    exact q
  · have c' : ¬ a ≤ (xs.length : Int) := of_decide_eq_false (Bool.eq_false_iff.mpr c)
    rw [decide_eq_false (fun z : a ≤ (xs.length : Int) ∧ (xs.length : Int) ≤ b => c' z.1)] at q
    exact q
end
end Mx
set_option maxHeartbeats 4000000
namespace PySem
open Sem (wp)
open AutoSeq1 (wpAny_loadPart')
theorem mx_enumerate_newT (l : Addr) (items : Array Value) (n : Nat) (dct : Option Addr) (sl : Array (Option Value)) :
    Meets (Builtin.«enumerate.__new__» ⟨[.type "enumerate", .ref l], []⟩) (fun _ R s => s.heap.get? l = some { cls := .type "tuple", dict := dct, data := .seq items n, slots := sl } ∧
      R (.ok (.ret (.ref (s.heap.push { cls := .type "tuple_iterator", data := .fields #[.ref l, .int 0 0] }).objs.size)))
        { s with heap := (s.heap.push { cls := .type "tuple_iterator", data := .fields #[.ref l, .int 0 0] }).push { cls := .type "enumerate", data := .fields #[.none, .bool false, .ref s.heap.objs.size, rawInt 0, .none, .none] } }) :=
  .of_wp fun prog w A R s h => by
    obtain ⟨hp, g, d, tk, os⟩ := s; obtain ⟨hl, h⟩ := h
    have hsub := sub_enumerate
    have hL : Heap.IsTuple (Shared.heap ⟨hp, g, d, tk, os⟩) l items := ⟨_, hl, rfl, n, rfl⟩
    wp_walk using wpAny_loadPart' hl
    refine wpAny_stack_any fun st => wpAny_pure ?_
    split
    · rename_i c _ _ _ _ _
      cases (c == Value.type "enumerate")
      · wp_walk using wpAny_loadPart' hl, wpAny_pyIter_tuple hL
        exact ⟨_, rfl, h⟩
      · wp_walk using wpAny_loadPart' hl, wpAny_pyIter_tuple hL
        exact ⟨_, rfl, h⟩
    · wp_walk using wpAny_loadPart' hl, wpAny_pyIter_tuple hL
      exact ⟨_, rfl, h⟩
theorem mx_call_enumerate_tuple {prog : Program} {w : World} {A : Around} {E : Value → Shared → Prop} {s : Shared} {l : Addr} {items : Array Value} {Q : Value → Shared → Prop} (hL : s.heap.IsTuple l items)
    (h : ∀ h', IsEnum h' (s.heap.objs.size + 1) s.heap.objs.size 0 .none → h'.IsTupleIter s.heap.objs.size l 0 → h'.objs.size = s.heap.objs.size + 2 →
      (∀ b o, s.heap.get? b = some o → h'.get? b = some o) → Q (.ref (s.heap.objs.size + 1)) { s with heap := h' }) :
    wpAny (model prog w) A (call (.type "enumerate") [.ref l]) Q E s := by
  obtain ⟨⟨c, dct, dt, sl⟩, hl, hc, n, hd⟩ := hL
  replace hc : c = .type "tuple" := hc
  replace hd : dt = .seq items n := hd
  subst hc hd
  refine callType_new F.called_enumerate (by decide) (F.typeCall_enumerate_1 _) (F.newCall_enumerate_1 _) (fun obj => F.args_object_init_2 obj _) F.entry_enumerate_new
    (mx_enumerate_newT l items n dct sl) ⟨hl, ?_⟩
  have hz : (s.heap.push { cls := .type "tuple_iterator", data := .fields #[.ref l, .int 0 0] }).objs.size = s.heap.objs.size + 1 := Heap.size_push ..
  show _ ∧ _
  rw [hz]
  have he : IsEnum ((s.heap.push { cls := .type "tuple_iterator", data := .fields #[.ref l, .int 0 0] }).push
      { cls := .type "enumerate", data := .fields #[.none, .bool false, .ref s.heap.objs.size, rawInt 0, .none, .none] }) (s.heap.objs.size + 1) s.heap.objs.size 0 .none := by
    have := Heap.get?_push_size (s.heap.push { cls := .type "tuple_iterator", data := .fields #[.ref l, .int 0 0] })
      (o := { cls := .type "enumerate", data := .fields #[.none, .bool false, .ref s.heap.objs.size, rawInt 0, .none, .none] }) rfl
    rw [hz] at this; exact this
  refine ⟨⟨_, he, rfl⟩, h _ he ⟨_, Heap.get?_push_of_some _ (Heap.get?_push_size _ rfl), rfl, rfl⟩ (by rw [Heap.size_push, hz]) fun b o x => Heap.get?_push_of_some _ (Heap.get?_push_of_some _ x)⟩
theorem mx_enum_endT {prog : Program} {w : World} {A : Around} {E : Value → Shared → Prop} {s : Shared} {e it l : Addr} {i : Nat} {items : Array Value} {old : Value} {Q : Option Value → Shared → Prop} (hh : A.handled = none)
    (he : IsEnum s.heap e it i old) (hit : s.heap.IsTupleIter it l i) (hl : s.heap.IsTuple l items) (hx : items[i]? = none)
    (hQ : ∀ h', Heap.ExtBut it s.heap h' → Q none { s with heap := h' }) : wpAny (model prog w) A (pyNext (.ref e)) Q E s := by
  have hT : s.TypeIs (.ref e) "enumerate" := ⟨_, he, rfl⟩
  unfold pyNext
  refine wpAny_bind (wpAny_attempt (wpAny_callSpecial?_slot (name := Str.ofString "__next__") hT F.slot_enumerate_next
    (wpAny_call_entry F.slot_enumerate_next hT F.entry_enumerate_next ?_ (F.args_enumerate_next_1 _))))
  show wpAny _ _ (field (.ref e) 2 >>= _) _ _ _
  refine wpAny_bind (wpAny_field he rfl (x := .ref it) rfl ?_)
  refine wpAny_bind (wpAny_nextOf_tuple_end hh hit hl hx fun h' x he' hx' => ?_)
  obtain ⟨o, ho, hc⟩ := hx'
  refine wpAny_bind (wpAny_isInstance (T := "StopIteration") (b := true) ⟨o, ho, hc⟩ isSubtype_stop ?_)
  exact wpAny_pure (hQ _ he')
end PySem
namespace Mx
open PySem PySem.Spec PyProof.Rows L2
/-- the tuple at a, each item in a new pair with its place -/
def IteT (K : PySem.W.Frag) (a : Addr) : It :=
  ⟨fun i H => ∃ (xs : List V) (x : V), SqT K H a xs ∧ xs[i]? = some x, fun i H v H' => ∃ T x, v = .ref T ∧ H T = none ∧ H' = upd H T (.tup [.int (i : Nat), x]) ∧ ∀ xs, SqT K H a xs → xs[i]? = some x, fun i H => ∃ xs : List V, SqT K H a xs ∧ xs.length ≤ i⟩
theorem turn_enumT {P : Program} {w : World} {K : PySem.W.Frag} {elts : List Expr} {kk : Nat} {tpos : Pos} (a e it : Addr) :
    Turn P w K (.Tuple elts kk tpos) (IteT K a) [e, it] e (fun i h => (∃ old, IsEnum h e it ((i : Nat) : Int) old) ∧ h.IsTupleIter it a i ∧ e ≠ it ∧ a ≠ e ∧ a ≠ it) where
  mem := by simp
  obj := fun i h st b hb => by
    obtain ⟨⟨old, he⟩, ⟨o, ho, hc, hd⟩, _⟩ := st
    have e' : b = e ∨ b = it := by simpa using hb
    rcases e' with z | z
    · rw [z]; exact ⟨_, he, fun v q => nomatch q⟩
    · rw [z]; exact ⟨o, ho, fun v q => by rw [hd] at q; cases q⟩
  keep := fun i h h' st k => let ⟨⟨old, he⟩, hi, hne⟩ := st; ⟨⟨old, k e (by simp) _ he⟩, hi.at fun o q => k it (by simp) o q, hne⟩
  item := by
    intro X hP hw hK hc i pins s σ H E I hf st hg
    subst hP hw hK
    obtain ⟨⟨old, he⟩, hit, hne, hae, hai⟩ := st
    obtain ⟨xs, x, hq, hx⟩ := hg
    obtain ⟨its, rv, p, hz⟩ := I.tuple hq
    obtain ⟨u, hu, ru⟩ := rv.get hx
    have hel : e < s.heap.objs.size := Heap.lt_size he
    have hil : it < s.heap.objs.size := by obtain ⟨_, q, _⟩ := hit; exact Heap.lt_size q
    have hlt : i < its.toArray.size := by
      have := (List.getElem?_eq_some_iff.mp hu).1
      simpa using this
    refine wpAny_pyNext_enum_itemD (Draws.tuple (prog := X.prog) (w := X.w) (A := X.A.in1) (I.ok.hd hc) it a hai its.toArray) he ⟨hit, p⟩ hlt hne (by simp; exact ⟨hne, Ne.symm hae⟩) fun x' h' tk hx' ho st' hT hsz hk => ?_
    have hxu : x' = u := by
      have q : its.toArray[i]? = some x' := hx'
      rw [show its.toArray[i]? = its[i]? by simp, hu] at q
      exact (Option.some.inj q).symm
    subst hxu
    refine ⟨_, rfl, wpAny_letOwnedTupleGo_enum (s := { s with heap := h', toks := tk + 1 }) ho fun h'' he' sb => ?_⟩
    have hT2 : h''.get? s.heap.objs.size = some { cls := .type "tuple", data := .seq #[.int i tk, x'] } := (sb.2 _ (Nat.ne_of_gt hel)).trans hT
    have new : ObjOk X.prog X.w (upd H s.heap.objs.size (.tup [.int (i : Nat), x])) h'' s.heap.objs.size (.tup [.int (i : Nat), x]) :=
      ⟨by show 2 ≤ sizeLine; decide, [.int i tk, x'], .cons ⟨_, rfl⟩ (.cons ru .nil), ⟨_, hT2, rfl, _, rfl⟩⟩
    have I1 : Inv X pins σ (upd H s.heap.objs.size (.tup [.int (i : Nat), x])) { s with heap := h'', toks := tk + 1 } :=
      I.turnedNew (ch := [e, it]) (fun b ob hb q => (sb.2 b (fun z => hb (by simp [z]))).trans (hk b ob (fun z => hb (by simp [z])) (fun z => hb (by simp [z])) q)) hf (Nat.le_refl _) new
    refine ⟨.ref s.heap.objs.size, _, I1, rfl, ⟨_, x, rfl, I.hok.fresh (Nat.le_refl _), rfl, fun ys hy => by rw [I.tuple_inj hy hq]; exact hx⟩, ⟨⟨x', ?_⟩, st'.1.at fun o q => (sb.2 it (Ne.symm hne)).trans q, hne, hae, hai⟩, fun b hb => ?_⟩
    · have e1 : ((i + 1 : Nat) : Int) = (i : Int) + 1 := by omega
      rw [e1]; exact he'
    · have hb' : b < s.heap.objs.size := by
        have e' : b = e ∨ b = it := by simpa using hb
        rcases e' with z | z
        · rw [z]; exact hel
        · rw [z]; exact hil
      rw [upd_ne (Nat.ne_of_lt hb')]
      exact (hf b hb).1
  done := by
    intro X hP hw hK hc i pins s σ H E I hf st hg
    subst hP hw hK
    obtain ⟨⟨old, he⟩, hit, hne, hae, hai⟩ := st
    obtain ⟨xs, hq, hx⟩ := hg
    obtain ⟨its, rv, p, hz⟩ := I.tuple hq
    obtain ⟨f0, f1, f2, f3, f4, f5⟩ := hf it (by simp)
    have hl := rv.length
    exact mx_enum_endT (I.ok.hd hc) he hit p (by simp; omega) fun h' eb => ⟨rfl, I.turned (t' := s.toks) (fun b o hb q => eb b o hb q) f0 f1 f3 f4 f5⟩
  self := fun A i s Q E st h => let ⟨⟨_, he⟩, _⟩ := st; wpAny_pyIter_enum he h
def iEnumT (K : PySem.W.Frag) (ta : TA) : TI := fun σ H R => ta σ H fun vs H1 => ∃ a xs, vs = [.ref a] ∧ SqT K H1 a xs ∧ R (IteT K a) H1
theorem pi_enumT {X : Cx} {e : Expr} {ta : TA} {p pos tpos : Pos} {elts : List Expr} {kk : Nat} (hg : Gl X "enumerate") (hm : X.mg "enumerate" = none) (ha : PA X [e] ta) (hs : starEach [e] X.env = [(false, eval e X.env)] := by rfl) :
    PI X (.Tuple elts kk tpos) (.Call (.Name "enumerate" p) [e] [] pos) (iEnumT X.K ta) := by
  refine ⟨fun pins s σ H R I h => ?_⟩
  refine Call_ (ld_blt I hg hm boot_enumerate (PyProof.Rows.callWith_type1 (thn (ha.run pos pins s σ H _ I h) fun us s1 ⟨vs, H1, I1, r1, q1⟩ => ?_) hs rfl))
  obtain ⟨a, xs, ex, hq, q⟩ := q1
  subst ex
  cases r1 with
  | cons r rr =>
    cases rr
    cases r
    obtain ⟨its, rv, p', hz⟩ := I1.tuple hq
    have la : a < s1.heap.objs.size := p'.lt
    refine PySem.mx_call_enumerate_tuple p' fun h' he hit hsz hk => wpAny_pyIter_enum he ?_
    have I2 : Inv X pins σ H1 { s1 with heap := h' } := I1.kept (t' := s1.toks) hk
    refine ⟨s1.heap.objs.size + 1, [s1.heap.objs.size + 1, s1.heap.objs.size], _, _, H1, rfl, I2, turn_enumT a (s1.heap.objs.size + 1) s1.heap.objs.size, ⟨⟨.none, he⟩, hit, Nat.succ_ne_self _, Nat.ne_of_lt (Nat.lt_succ_of_lt la), Nat.ne_of_lt la⟩, fun b hb => ?_, q⟩
    have e' : b = s1.heap.objs.size + 1 ∨ b = s1.heap.objs.size := by simpa using hb
    have hle : s1.heap.objs.size ≤ b := by
      rcases e' with z | z
      · rw [z]; exact Nat.le_add_right _ _
      · rw [z]; exact Nat.le_refl _
    exact I1.fpOk hle (I1.hok.fresh hle)
end Mx
set_option maxHeartbeats 4000000
namespace Mx
open PySem PySem.Spec PyProof.Rows L2
section
variable {X : Cx}
/-- t >= u, tuples of ints -/
def rGeT (K : PySem.W.Frag) : R2 := fun x y H Q => ∃ (a b : Addr) (ns ms : List Int), x = .ref a ∧ y = .ref b ∧ SqT K H a (ns.map V.int) ∧ SqT K H b (ms.map V.int) ∧
  Q (.bl (Ob.lexAt (fun j => decide (ns.getD j 0 = ms.getD j 0)) (fun j => decide (ms.getD j 0 ≤ ns.getD j 0)) (decide (ns.length ≥ ms.length)) 0 (min ns.length ms.length))) H
theorem op_geT (hu : X.A.units < cLine) : OpR X (compareOp .GtE) (rGeT X.K) := by
  intro pins s σ H x y v u Q I rx ry h
  obtain ⟨a, b, ns, ms, rfl, rfl, ha, hb, q⟩ := h
  cases rx
  cases ry
  obtain ⟨its, r1, p1, _⟩ := I.tuple ha
  obtain ⟨its2, r2, p2, _⟩ := I.tuple hb
  have i1 : IntsAre its ns := Vals.ints r1
  have i2 : IntsAre its2 ms := Vals.ints r2
  have e1 : its.toArray.size = ns.length := by rw [List.size_toArray]; exact i1.length
  have e2 : its2.toArray.size = ms.length := by rw [List.size_toArray]; exact i2.length
  have at1 : ∀ j (h1 : j < its.toArray.size), ∃ t, its.toArray[j] = .int (ns.getD j 0) t := fun j h1 => PyProof.Rows.IntsAre.int_at i1 _ _ (by simp at h1; simp [h1])
  have at2 : ∀ j (h1 : j < its2.toArray.size), ∃ t, its2.toArray[j] = .int (ms.getD j 0) t := fun j h1 => PyProof.Rows.IntsAre.int_at i2 _ _ (by simp at h1; simp [h1])
  have R := Ob.RcOp.tuples_ge (A := X.A) (s := s) (e := fun j => decide (ns.getD j 0 = ms.getD j 0)) (r := fun j => decide (ms.getD j 0 ≤ ns.getD j 0)) p1 p2 hu (fun j h1 h2 => by
    obtain ⟨t, et⟩ := at1 j h1
    obtain ⟨t', et'⟩ := at2 j h2
    rw [et, et']
    have z : (ns.getD j 0 == ms.getD j 0) = decide (ns.getD j 0 = ms.getD j 0) := by
      by_cases q : ns.getD j 0 = ms.getD j 0
      · rw [decide_eq_true q]; exact beq_iff_eq.mpr q
      · rw [decide_eq_false q]; exact beq_eq_false_iff_ne.mpr q
    rw [← z]
    exact SeqAt.EqAt.int_int _ _ _ _) (fun j h1 h2 _ => by
    obtain ⟨t, et⟩ := at1 j h1
    obtain ⟨t', et'⟩ := at2 j h2
    rw [et, et']
    exact Ob.RcOp.ge_int _ _ _ _)
  rw [e1, e2] at R
  have z : wpAny (model X.prog X.w) X.A (compareOp .GtE (.ref a) (.ref b)) (EP X pins σ Q) X.xe s := R X.prog X.w X.xe (EP X pins σ Q) ⟨.bl _, H, I, rfl, q⟩
  exact z
/-- sorted(xs), tuples of ints, none empty: some arrangement -/
def rSortedTup (K : PySem.W.Frag) : List V → Hp → VK → Prop := fun vs H Q => ∃ (a : Addr) (ks : List (Addr × List Int)), vs = [V.ref a] ∧ SqL K H a (ks.map fun p => V.ref p.1) ∧
  (∀ p ∈ ks, SqT K H p.1 (p.2.map V.int) ∧ p.2 ≠ []) ∧ ∀ (ks' : List (Addr × List Int)) (p : Addr), ks'.Perm ks → H p = none → Q (.ref p) (upd H p (.lst (ks'.map fun p => V.ref p.1)))
theorem refs_of : ∀ {ks : List (Addr × List Int)} {us : List Value}, Vals (ks.map fun p => V.ref p.1) us → us = ks.map fun p => Value.ref p.1
  | [], _, .nil => rfl
  | p :: ks, _, .cons r t => by
    rw [refs_of t]
    cases r
    rfl
theorem vals_refs : ∀ (ks : List (Addr × List Int)), Vals (ks.map fun p => V.ref p.1) (ks.map fun p => Value.ref p.1)
  | [] => .nil
  | p :: ks => .cons rfl (vals_refs ks)
theorem each_refs : ∀ (ks : List (Addr × List Int)), PySem.W.EachIs (fun (v : Value) (p : Addr × List Int) => v = Value.ref p.1) (ks.map fun p => Value.ref p.1) ks
  | [] => .nil
  | p :: ks => .cons rfl (each_refs ks)
theorem refs_each : ∀ {us : List Value} {ks : List (Addr × List Int)}, PySem.W.EachIs (fun (v : Value) (p : Addr × List Int) => v = Value.ref p.1) us ks → us = ks.map fun p => Value.ref p.1
  | _, _, .nil => rfl
  | _, _, .cons r t => by rw [r, refs_each t]; rfl
theorem dp_ints {K : PySem.W.Frag} {H : Hp} : ∀ ns : List Int, DpAll K H (ns.map V.int) (ns.map PyData.int)
  | [] => .nil
  | n :: ns => .cons (.int n) (dp_ints ns)
theorem dp_vis {K : PySem.W.Frag} {H : Hp} : ∀ ns : List Nat, DpAll K H (ns.map vi) (ns.map fun (k : Nat) => PyData.int (k : Int))
  | [] => .nil
  | n :: ns => .cons (.int n) (dp_vis ns)
def encT (p : Addr × List Int) : PyData := .tuple (p.2.map PyData.int)
theorem cr_sortedTup (hu : X.A.units + 64 < cLine) : CallR X (.builtin "sorted") (rSortedTup X.K) := by
  intro pins s σ H vs us Q I r h
  obtain ⟨a, ks, rfl, hs, hk, q⟩ := h
  obtain ⟨its, rv, hl, hz⟩ := I.list hs
  rw [Vals.ref1 r]
  have e1 := refs_of rv
  subst e1
  have er : PySem.W.EachIs (fun v b => ∃ as, Reads s.heap v (encT b) as) (ks.map fun p => Value.ref p.1) ks := by
    have key : ∀ l : List (Addr × List Int), (∀ p ∈ l, p ∈ ks) → PySem.W.EachIs (fun v b => ∃ as, Reads s.heap v (encT b) as) (l.map fun p => Value.ref p.1) l := by
      intro l
      induction l with
      | nil => intro _; exact .nil
      | cons p l ih =>
        intro hm
        refine .cons ?_ (ih fun x hx => hm x (List.mem_cons_of_mem _ hx))
        exact (Dp.tup (hk p (hm p List.mem_cons_self)).1 (dp_ints p.2)).reads I _ _ _ rfl
    exact key ks fun p hp => hp
  refine PySem.W.sorted_data (enc := encT) hl.isList (each_refs ks) er (PySem.W.AllAlike.of fun b b' => ?_) ?_ (by rw [List.length_map] at hz; exact hz) (fun b _ => ?_) fun out ho eo => ?_
  · show PySem.W.alike (.tuple _) (.tuple _) = true
    rw [PySem.W.alike]
    exact PySem.W.alike_ints _ _
  · refine .inl fun d hd => ?_
    obtain ⟨p, hp, rfl⟩ := List.mem_map.mp hd
    cases e : p.2 with
    | nil => exact absurd e (hk p hp).2
    | cons x xs => exact ⟨.int x, xs.map .int, by unfold encT; rw [e]; rfl⟩
  · have : (encT b).depth ≤ 1 := by
      unfold encT
      rw [PyData.depth, PySem.W.depth_ints]
      exact Nat.le_refl _
    omega
  · have e2 := refs_each eo
    have hp : (ks.mergeSort (PySem.W.dataLe false encT)).Perm ks := List.mergeSort_perm _ _
    obtain ⟨ep, he'⟩ := PyProof.Rows.sortedAll_at s.heap (ks.map fun p => Value.ref p.1) out.toArray
    refine ⟨.ref _, upd H (s.heap.objs.size + 1) (.lst ((ks.mergeSort (PySem.W.dataLe false encT)).map fun p => V.ref p.1)), I.laid (t' := s.toks) (fun _ _ => PyProof.Rows.sortedAll_old) (Nat.le_succ _) ⟨?_, out, ep, ?_, he'⟩, rfl, q _ _ hp (I.hok.fresh (Nat.le_succ _))⟩
    · rw [List.length_map, hp.length_eq]
      rw [List.length_map] at hz
      exact hz
    · rw [e2]
      exact vals_refs _
/-- max(t), a tuple of ints, not empty -/
def rMaxT (K : PySem.W.Frag) : List V → Hp → VK → Prop := fun vs H Q => ∃ (a : Addr) (ns : List Int), vs = [V.ref a] ∧ SqT K H a (ns.map V.int) ∧ ns ≠ [] ∧ ∀ m, m ∈ ns → (∀ y, y ∈ ns → y ≤ m) → Q (.int m) H
theorem max_fold (n : Int) : ∀ ns : List Int, ns.foldl max n ∈ n :: ns ∧ ∀ y ∈ n :: ns, y ≤ ns.foldl max n
  | [] => ⟨List.mem_singleton.mpr rfl, fun y h => by rw [List.mem_singleton.mp h]; exact Int.le_refl _⟩
  | m :: ns => by
    obtain ⟨h1, h2⟩ := max_fold (max n m) ns
    rw [List.foldl_cons]
    refine ⟨?_, fun y hy => ?_⟩
    · rcases List.mem_cons.mp h1 with e | e
      · rw [e]
        by_cases q : n ≤ m
        · rw [Int.max_eq_right q]; exact List.mem_cons_of_mem _ List.mem_cons_self
        · rw [Int.max_eq_left (by omega)]; exact List.mem_cons_self
      · exact List.mem_cons_of_mem _ (List.mem_cons_of_mem _ e)
    · have h3 := h2 (max n m) List.mem_cons_self
      rcases List.mem_cons.mp hy with e | e
      · rw [e]; omega
      · rcases List.mem_cons.mp e with e | e
        · rw [e]; omega
        · exact h2 y (List.mem_cons_of_mem _ e)
theorem alike_ints2 (ns : List Int) : PySem.W.AlikeAll (ns.map PyData.int) := by
  refine ⟨fun d hd d' hd' => ?_, fun d hd => ?_⟩
  · obtain ⟨a, _, rfl⟩ := List.mem_map.mp hd
    obtain ⟨b, _, rfl⟩ := List.mem_map.mp hd'
    simp [PySem.W.alike]
  · obtain ⟨a, _, rfl⟩ := List.mem_map.mp hd
    exact fun z => nomatch z
theorem cr_maxT (hu : X.A.units + 64 < cLine) (hc : X.calm = true) : CallR X (.builtin "max") (rMaxT X.K) := by
  intro pins s σ H vs us Q I r h
  obtain ⟨a, ns, rfl, hs, hne, q⟩ := h
  rw [Vals.ref1 r]
  cases ns with
  | nil => exact absurd rfl hne
  | cons n ns =>
    obtain ⟨its, rv, hl, hz⟩ := I.tuple hs
    obtain ⟨as, hr⟩ := Dp.readsAll I _ _ _ (dp_ints (K := X.K) (H := H) (n :: ns)) rv
    refine PySem.W.max_tuple_data (x := .int n) (xs := ns.map PyData.int) (I.ok.hd hc) hl (by rw [List.toList_toArray]; exact hr) (alike_ints2 (n :: ns)) ?_ fun i v h' tk bs hv rd hk => ?_
    · rw [show PyData.int n :: ns.map PyData.int = (n :: ns).map PyData.int from rfl, PySem.W.depth_ints]
      omega
    · rw [PySem.W.maxD_ints] at rd
      obtain ⟨h1, h2⟩ := max_fold n ns
      cases rd with
      | int => exact ⟨.int (ns.foldl max n), H, I.kept hk, ⟨_, rfl⟩, q _ h1 h2⟩
theorem collect_seqS {prog : Program} {w : World} {A : Around} {E : Value → Shared → Prop} {s : Shared} {Q : List Value → Shared → Prop} (it : Addr) {T : String} {o : Obj} {items : Array Value} {n : Nat} (hT : T = "list" ∨ T = "tuple")
    (ho : s.heap.get? it = some o) (hc : o.cls = .type T) (hd : o.data = .seq items n)
    (hQ : ∀ h', s.heap.objs.size ≤ h'.objs.size → (∀ b o', s.heap.get? b = some o' → h'.get? b = some o') → Q items.toList { s with heap := h' }) (hsz : items.size ≤ sizeLine) :
    wpAny (model prog w) A (collect (.ref it)) Q E s := by
  unfold collect
  refine wpAny_bind (wpAny_runValue (codeAny_builtin PySem.F.entry_proto_collect ?_))
  rw [Around.under_plainId PySem.F.plain_proto_collect _]
  show wpAny _ A.in1 (newList [] >>= fun l => again (.builtin "list.__iadd__" ⟨[l, .ref it], []⟩)) _ _ s
  refine wpAny_bind (wpAny_newObj_type ?_ (by show 0 ≤ sizeLine; decide))
  refine wpAny_pure ⟨plainId_quiet PySem.F.plain_list_iadd _, codeAny_builtin PySem.F.entry_list_iadd ?_⟩
  rw [Around.under_plainId PySem.F.plain_list_iadd _]
  show wpAny _ A.in1 (Builtin.List.listExtendWith (.ref s.heap.objs.size) (.ref it) (.ref s.heap.objs.size)) _ _ _
  have hS : (s.heap.push { cls := .type "list", data := .seq ([] : List Value).toArray }).get? s.heap.objs.size = some { cls := .type "list", data := .seq #[] 0 } := Heap.get?_push_size _ rfl
  have hS2 := Heap.get?_update_self (Obj.mapSeq (· ++ items)) hS rfl
  have fin' : wpAny (model prog w) A (match Value.ref s.heap.objs.size with
      | Value.ref a => do
        match (← load a).data with
          | Data.seq xs _ => pure xs.toList
          | _ => unsupported "internal:collect"
      | _ => unsupported "internal:collect") Q E { s with heap := (s.heap.push { cls := .type "list", data := .seq ([] : List Value).toArray }).update s.heap.objs.size (Obj.mapSeq (· ++ items)) } := by
    show wpAny _ A (load s.heap.objs.size >>= _) _ _ _
    refine wpAny_bind (wpAny_load hS2 ?_)
    refine wpAny_pure ?_
    have e : ((#[] : Array Value) ++ items).toList = items.toList := by simp
    show Q ((#[] : Array Value) ++ items).toList _
    rw [e]
    refine hQ _ (by rw [Heap.size_update, Heap.size_push]; exact Nat.le_succ _) (fun b o' hb => ?_)
    exact (Heap.get?_update_other _ _ (Nat.ne_of_gt (Heap.lt_size hb))).trans (Heap.get?_push_of_some _ hb)
  refine wpAny_mono (wpAny_extend_seq (hsz := hsz) (A := A) (R := fun r s' => r = .ok (.ret (.ref s.heap.objs.size)) ∧ s' = { s with heap := (s.heap.push { cls := .type "list", data := .seq ([] : List Value).toArray }).update s.heap.objs.size (Obj.mapSeq (· ++ items)) })
    (s := { s with heap := s.heap.push { cls := .type "list", data := .seq ([] : List Value).toArray } }) _ it _ 0 hT hS (Heap.get?_push_of_some _ ho) hc hd ⟨rfl, rfl⟩) (fun fin s' h => ?_) (fun e s' h => ?_)
  · cases fin with
    | done f =>
      obtain ⟨e, rfl⟩ := h
      cases e
      exact fin'
    | again c' => exact ⟨h.1, codeAny_mono h.2 fun r s'' hr => by obtain ⟨rfl, rfl⟩ := hr; exact fin'⟩
  · exact absurd h.1 (by simp)
/-- sorted(t), a tuple of ints -/
def rSortedTI (K : PySem.W.Frag) : List V → Hp → VK → Prop := fun vs H Q => ∃ (a : Addr) (ns : List Int), vs = [V.ref a] ∧ SqT K H a (ns.map V.int) ∧
  ∀ (ns' : List Int) (p : Addr), ns'.Perm ns → ns'.Pairwise (· ≤ ·) → H p = none → Q (.ref p) (upd H p (.lst (ns'.map V.int)))
theorem sorted_ordT {prog : Program} {w : World} {A : Around} {E : Value → Shared → Prop} {s : Shared} {l : Addr} {vs : List Value} {ns : List Int} {Q : Value → Shared → Prop} (hI : IntsAre vs ns) (hl : s.heap.IsTuple l vs.toArray) (hz : vs.length ≤ sizeLine)
    (h : ∀ (h' : Heap) (out : List Value), s.heap.objs.size ≤ h'.objs.size → (∀ b o, s.heap.get? b = some o → h'.get? b = some o) → SrtO.Srtd SrtO.ltIv out → SrtO.Stb SrtO.ltIv out vs →
      Q (.ref h'.objs.size) { s with heap := PyProof.Rows.sortedHeap (h'.push (seqObj "list" vs.toArray 0)) h'.objs.size vs out.toArray }) :
    wpAny (model prog w) A (call (.builtin "sorted") [.ref l]) Q E s := by
  obtain ⟨o, ho, hc, n, hd⟩ := id hl
  refine Calls.call_function_entry kind_sorted plain_sorted entry_sorted (args_sorted1 _) ?_
  unfold Builtin.«sorted»
  refine wpAny_bind (m := checkCount "sorted" 1 1 _) (wpAny_pure ?_)
  refine wpAny_bind (collect_seqS l (.inr rfl) ho hc hd (fun h' hs' hk => ?_) (by rw [List.size_toArray]; exact hz))
  rw [List.toList_toArray]
  refine wpAny_bind (wpAny_newList ?_ hz)
  have hoL : (h'.push (seqObj "list" vs.toArray 0)).get? h'.objs.size = some (seqObj "list" vs.toArray 0) := Heap.get?_push_size _ rfl
  refine wpAny_bind (wpAny_holding (wpAny_call_entry slot_list_sort ⟨_, hoL, rfl⟩ entry_list_sort (SrtO.list_sort_ord SrtO.swo_int hoL hz (fun h2 => SrtO.ints_sortable hI h2) fun out hs hb => ⟨_, rfl, ?_⟩) (args_list_sort _)))
  exact wpAny_pure ⟨_, rfl, h h' out hs' hk hs hb⟩
theorem cr_sortedTI : CallR X (.builtin "sorted") (rSortedTI X.K) := by
  intro pins s σ H vs us Q I r h
  obtain ⟨a, ns, rfl, hs, q⟩ := h
  obtain ⟨its, rv, hl, hz⟩ := I.tuple hs
  rw [Vals.ref1 r]
  have hi := rv.ints
  refine sorted_ordT hi hl (by rw [← rv.length]; exact hz) fun h' out hsz hk h1 h2 => ?_
  obtain ⟨k1, k2, k3⟩ := SrtO.ints_out hi h1 h2
  have hoL : (h'.push (seqObj "list" its.toArray 0)).get? h'.objs.size = some (seqObj "list" its.toArray 0) := Heap.get?_push_size _ rfl
  obtain ⟨ep, he'⟩ := PyProof.Rows.sortedHeap_at (vs := its) (out := out.toArray) hoL
  have hlen : ((out.map SrtO.iv).map V.int).length ≤ sizeLine := by
    rw [List.length_map, k2.length_eq]
    rw [List.length_map] at hz
    exact hz
  refine ⟨.ref _, upd H h'.objs.size (.lst ((out.map SrtO.iv).map V.int)), I.laid (t' := s.toks) (fun b u e => ?_) hsz ⟨hlen, out, ep, vals_of_ints k1, he'⟩, rfl, q _ _ k2 k3 (I.hok.fresh hsz)⟩
  have hlt : b < h'.objs.size := Heap.lt_size (hk b u e)
  rw [PyProof.Rows.sortedHeap_old (Nat.ne_of_lt hlt) (by rw [Heap.size_push]; exact Nat.lt_succ_of_lt hlt)]
  exact Heap.get?_push_of_some _ (hk b u e)
/-- set(t), a tuple of ints -/
def rSetT (K : PySem.W.Frag) (w : World) : List V → Hp → VK → Prop := fun vs H Q => ∃ (a : Addr) (ns : List Int), vs = [V.ref a] ∧ SqT K H a (ns.map V.int) ∧ ns.length ≤ 1000 ∧
  ∀ (p : Addr) (c : Nat), c ≤ ns.length → H p = none → Q (.ref p) (upd H p (SetO w p (fun j => decide (j ∈ ns)) c))
theorem cr_setT (hc : X.calm = true) : CallR X (.type "set") (rSetT X.K X.w) := by
  intro pins s σ H vs us Q I r h
  obtain ⟨a, ns, rfl, hs, hn, q⟩ := h
  obtain ⟨its, rv, hl, hz⟩ := I.tuple hs
  rw [Vals.ref1 r]
  refine call_set_tupI ns (I.ok.hd hc) (show s.heap.IsTuple a its.toArray from hl) (by rw [List.toList_toArray]; exact rv.ints) (by unfold scanBound; omega) fun h' tk c R1 hcn k => ?_
  exact ⟨.ref _, upd H s.heap.objs.size (SetO X.w s.heap.objs.size (fun j => decide (j ∈ ns)) c), I.laid (t' := tk) k (Nat.le_refl _) (setO_new R1), rfl, q _ c hcn (I.hok.fresh (Nat.le_refl _))⟩
end
end Mx
set_option maxHeartbeats 4000000
namespace Mx
open PySem PySem.Spec PyProof.Rows L2
section
variable {prog : Program} {w : World} {A : Around} {E : Value → Shared → Prop} {s : Shared}
theorem dictPut_pairs {d : Addr} {kvs : List (Key × Value)} {k : Key} {key v : Value} {Q : Unit → Shared → Prop} (hkey : (mixKind prog w).is k key = true) (hm : s.heap.DictOf (mixKind prog w) d kvs)
    (hQ : ∀ h', h'.DictOf (mixKind prog w) d (stored kvs k v) → Heap.SameBut d s.heap h' → Q () { s with heap := h' }) (hsz : kvs.length ≤ sizeLine) :
    wpAny (model prog w) A (dictPut d ((mixKind prog w).hash k) key v) Q E s := by
  obtain ⟨o, es, ep, ho, hc, hd, hk, hp, hn⟩ := hm
  have hes : es.size ≤ sizeLine := by
    have e1 := hp.length
    have e2 : es.toList.length = es.size := by simp
    omega
  unfold dictPut
  refine wpAny_bind (wpAny_dictFind_of hkey ho hd hk ?_)
  have hidx : (es.findIdx? fun e => (mixKind prog w).is k e.key) = kvs.findIdx? fun kv => decide (kv.1 = k) := by
    rw [← hp.findIdx k]; obtain ⟨l⟩ := es; simp
  cases hi : es.findIdx? fun e => (mixKind prog w).is k e.key with
  | some i =>
    refine wpAny_updateDict ho hd (hQ _ ⟨_, _, ep, Heap.get?_update_self _ ho (Obj.isFreed_of_dict (Obj.data_mapDict hd _)),
      hc.mapDict _, Obj.data_mapDict hd _, hk.modify _ _, ?_, ?_⟩ (Heap.SameBut.update ..))
    · rw [stored, if_pos (any_of_findIdx_some (hidx ▸ hi))]
      have hl : (es.toList.findIdx? fun e => (mixKind prog w).is k e.key) = some i := by rw [← hi]; obtain ⟨l⟩ := es; simp
      have := hp.modify hn hl v
      obtain ⟨l⟩ := es
      simpa using this
    · rw [stored, if_pos (any_of_findIdx_some (hidx ▸ hi)), keys_map_store]; exact hn
  | none =>
    have hnot : k ∉ kvs.map (·.1) := not_mem_of_findIdx_none (hidx ▸ hi)
    have hany : ¬ (kvs.any fun kv => decide (kv.1 = k)) = true := by
      rw [List.any_eq_true]; rintro ⟨kv, hkv, he⟩
      exact hnot (List.mem_map.mpr ⟨kv, hkv, of_decide_eq_true he⟩)
    refine wpAny_updateDictKeys (hz := hes) ho hd (hQ _ ⟨_, _, ep + 1, Heap.get?_update_self _ ho (Obj.isFreed_of_dict (Obj.data_mapDictKeys hd _)),
      hc.mapDictKeys _, Obj.data_mapDictKeys hd _, hk.push hkey _, ?_, ?_⟩ (Heap.SameBut.update ..))
    · rw [stored, if_neg hany]
      have := hp.append hkey ((mixKind prog w).hash k) v
      obtain ⟨l⟩ := es
      simpa using this
    · rw [stored, if_neg hany, List.map_append, List.nodup_append]
      refine ⟨hn, by simp, ?_⟩
      intro a ha b hb
      simp only [List.map_cons, List.map_nil, List.mem_singleton] at hb
      subst hb
      exact fun e => hnot (e ▸ ha)
theorem mergeMapping_pairs {d o : Addr} {kvs more : List (Key × Value)} {Q : Unit → Shared → Prop} (hdo : d ≠ o) (hoS : (o == sysModules) = false)
    (hd : s.heap.DictOf (mixKind prog w) d kvs) (ho : s.heap.DictOf (mixKind prog w) o more)
    (hQ : ∀ h', h'.DictOf (mixKind prog w) d (merged kvs more) → Heap.SameBut d s.heap h' → Q () { s with heap := h' })
    (hsz : kvs.length + more.length ≤ sizeLine) :
    wpAny (model prog w) A (mergeMapping d (.ref o) false) Q E s := by
  obtain ⟨od, esd, epd, hod, hcd, hdd, hkd, hpd, hnd⟩ := id hd
  obtain ⟨oo, eso, epo, hoo, hco, hdo', hko, hpo, hno⟩ := id ho
  have hlen : more.length = eso.size := by rw [← hpo.length]; simp
  have loop : ∀ (f : Nat → PUnit → Sem (ForInStep PUnit)),
      (∀ (i : Nat) (h' : Heap) (Q' : ForInStep PUnit → Shared → Prop) (kv : Key × Value), i < eso.size → more[i]? = some kv → h'.DictOf (mixKind prog w) d (merged kvs (more.take i)) → h'.get? o = some oo →
        (∀ h'', h''.DictOf (mixKind prog w) d (stored (merged kvs (more.take i)) kv.1 kv.2) → Heap.SameBut d h' h'' → Q' (.yield ()) { s with heap := h'' }) → wpAny (model prog w) A (f i ()) Q' E { s with heap := h' }) →
      wpAny (model prog w) A (forIn (List.range eso.size) PUnit.unit f) (fun _ s' => Q () s') E s := by
    intro f hf
    rw [List.range_eq_range']
    refine wpAny_forIn_list _
      (fun rest _ s' => ∃ h' i, s' = { s with heap := h' } ∧ rest = List.range' i (eso.size - i) ∧ i ≤ eso.size ∧ h'.DictOf (mixKind prog w) d (merged kvs (more.take i)) ∧ h'.get? o = some oo ∧ Heap.SameBut d s.heap h')
      _ ?_ ?_ _ _ ⟨s.heap, 0, rfl, by simp, Nat.zero_le _, by simpa [merged] using hd, hoo, Heap.SameBut.refl _ _⟩
    · rintro x rest b s' ⟨h', i, rfl, hr, hi, hd', hoo', hs'⟩
      have hlt : i < eso.size := by
        rcases Nat.lt_or_ge i eso.size with h | h
        · exact h
        · rw [Nat.sub_eq_zero_of_le h] at hr; simp at hr
      obtain ⟨rfl, hrest⟩ : x = i ∧ rest = List.range' (i + 1) (eso.size - (i + 1)) := by
        have e : eso.size - i = (eso.size - (i + 1)) + 1 := by omega
        rw [e, List.range'_succ] at hr
        injection hr with h1 h2
        exact ⟨h1, h2⟩
      obtain ⟨kv, hkv⟩ : ∃ kv, more[x]? = some kv := ⟨more[x]'(by rw [hlen]; exact hlt), List.getElem?_eq_getElem _⟩
      refine hf x h' _ kv hlt hkv hd' hoo' fun h'' hd'' hs'' => ?_
      exact ⟨h'', x + 1, rfl, hrest, hlt, by rw [merged_take_succ kvs more x kv hkv]; exact hd'', (hs''.2 o (Ne.symm hdo)).trans hoo', hs'.trans hs''⟩
    · rintro b s' ⟨h', i, rfl, hr, hi, hd', hoo', hs'⟩
      have hin : i = eso.size := by
        rcases Nat.lt_or_ge i eso.size with h | h
        · have e : eso.size - i = (eso.size - (i + 1)) + 1 := by omega
          rw [e, List.range'_succ] at hr; exact nomatch hr
        · exact Nat.le_antisymm hi h
      refine hQ h' ?_ hs'
      rw [hin, ← hlen, List.take_length] at hd'
      exact hd'
  have rest : wpAny (model prog w) A (do
      let es ← dictEntries o
      let size := es.size
      let epoch ← dictEpoch o
      forIn (List.range size) PUnit.unit fun i (_ : PUnit) => do
        let l ← dictEntries o
        match l[i]? with
          | some e => do
            holding [e.key, e.val] (dictPut d e.hash e.key e.val)
            let ep ← dictEpoch o
            if (ep != epoch) = true then do
                unsupported "dict.changed-during-merge"
                pure (ForInStep.yield PUnit.unit)
              else pure (ForInStep.yield PUnit.unit)
          | x => do
            unsupported "dict.changed-during-merge"
            pure (ForInStep.yield PUnit.unit)
      pure ()) Q E s := by
    refine wpAny_bind (wpAny_dictEntries hoo hdo' ?_)
    refine wpAny_bind (wpAny_dictEpoch hoo hdo' ?_)
    refine wpAny_bind (wpAny_mono (loop _ fun i h' Q' kv hlt hkv hd' hoo' hq => ?_) (fun _ _ h => wpAny_pure h) fun _ _ e => e)
    refine wpAny_bind (wpAny_dictEntries hoo' hdo' ?_)
    rw [Array.getElem?_eq_getElem hlt]
    obtain ⟨k, v⟩ := kv
    obtain ⟨hkey, hval⟩ := hpo.get? (e := eso[i]) (by simp [hlt]) hkv
    obtain ⟨k', hkey', hhash⟩ := hko eso[i] (Array.getElem_mem hlt)
    obtain rfl : k' = k := (mixKind prog w).inj _ _ _ hkey' hkey
    show wpAny _ _ (holding [eso[i].key, eso[i].val] (dictPut d eso[i].hash eso[i].key eso[i].val) >>= _) _ _ _
    rw [hhash, hval]
    have hmx : (merged kvs (more.take i)).length ≤ sizeLine := by
      have e1 := merged_length_le kvs (more.take i)
      have e2 : (more.take i).length ≤ more.length := by rw [List.length_take]; omega
      omega
    refine wpAny_bind (wpAny_holding (dictPut_pairs hkey hd' (fun h'' hd'' hs'' => ?_) hmx))
    have hoo'' : h''.get? o = some oo := (hs''.2 o (Ne.symm hdo)).trans hoo'
    refine wpAny_bind (wpAny_dictEpoch hoo'' hdo' ?_)
    rw [if_neg (by simp)]
    exact wpAny_pure (hq h'' hd'' hs'')
  unfold mergeMapping
  refine wpAny_bind (wpAny_isInstance ho.typeIs isSubtype_dict_dict ?_)
  simp only [if_true]
  refine wpAny_bind (wpAny_specialOf ho.typeIs PySem.F.slot_dict_iter.lookup (wpAny_bind (wpAny_pure ?_)))
  simp only [beq_self_eq_true]
  rw [if_neg (by rw [hoS]; exact Bool.false_ne_true)]
  refine wpAny_bind (wpAny_dictEntries hod hdd ?_)
  split
  · refine wpAny_bind (wpAny_dictEntries hoo hdo' ?_)
    refine wpAny_bind ?_
    refine PySem.MeetsSeq2.wpAny_forIn_array _ (fun rest _ s' => s' = s ∧ ∀ e ∈ rest, e ∈ eso.toList) _ ?_ ?_ _ _ ⟨rfl, fun _ h => h⟩
    · rintro x rest' b s' ⟨rfl, hm⟩
      obtain ⟨k', hkey', _⟩ := hko x (by simpa using hm x List.mem_cons_self)
      have hkx : ∀ a, x.key ≠ .ref a := fun a z => by
        rw [z] at hkey'
        rcases keyIs_shape (show keyIs k' (.ref a) = true from hkey') with ⟨i, t, _, e⟩ | ⟨i, t, _, e⟩ <;> cases e
      split
      · rename_i a e
        exact absurd e (hkx a)
      · exact wpAny_pure ⟨rfl, fun e he => hm e (List.mem_cons_of_mem _ he)⟩
    · rintro b s' ⟨rfl, _⟩
      exact rest
  · exact rest
end
/-- {**a, **b}, both with keys ints and texts -/
def tMrg (ta tb : TE) : TE := fun σ H Q => ∀ p, H p = none → ta σ (upd H p (.dK [])) fun x H1 => ∃ o1 k1, x = .ref o1 ∧ o1 ≠ p ∧ H1 o1 = some (.dK k1) ∧ H1 p = some (.dK []) ∧ k1.length ≤ 1000 ∧
  tb σ (upd H1 p (.dK (mergeK [] k1))) fun y H2 => ∃ o2 k2, y = .ref o2 ∧ o2 ≠ p ∧ H2 o2 = some (.dK k2) ∧ H2 p = some (.dK (mergeK [] k1)) ∧ k2.length ≤ 1000 ∧ Q (.ref p) (upd H2 p (.dK (mergeK (mergeK [] k1) k2)))
section
variable {X : Cx} {pins : List (Addr × Obj)} {σ : L2.St} {H : Hp} {s : Shared}
theorem merge_ok {A : Around} {E : Value → Shared → Prop} {d o : Addr} {kvs more : List (Key × V)} {Q : Unit → Shared → Prop} (I : Inv X pins σ H s) (hdo : o ≠ d) (hd : H d = some (.dK kvs)) (ho : H o = some (.dK more)) (hk : kvs.length ≤ 100000) (hm : more.length ≤ 100000)
    (h : ∀ s', Inv X pins σ (upd H d (.dK (mergeK kvs more))) s' → Q () s') : wpAny (model X.prog X.w) A (mergeMapping d (.ref o) false) Q E s := by
  obtain ⟨z1, hS1, vs1, r1, d1⟩ := dk_of I.hok hd
  obtain ⟨z2, hS2, vs2, r2, d2⟩ := dk_of I.hok ho
  have l1 : kvs.length = vs1.length := Paired.length r1
  have l2 : more.length = vs2.length := Paired.length r2
  refine mergeMapping_pairs (Ne.symm hdo) hS2 d1 d2 (fun h' dd hs => ?_) (by rw [sizeLine_eq]; omega)
  have hz : (mergeK kvs more).length ≤ sizeLine := by
    have := length_mergeK more kvs
    rw [sizeLine_eq]
    omega
  have he : ∃ q, h'.get? d = some q := let ⟨q, _, _, hq, _⟩ := dd; ⟨q, hq⟩
  exact h _ (d_write (t' := s.toks) I (by rw [hd]; exact True.intro) hs he (dk_new hz hS1 (r2.merge r1) dd))
theorem pe_merge {a b : Expr} {pos : Pos} {ta tb : TE} (ha : PE X a ta) (hb : PE X b tb) : PE X (.Dict [none, none] [a, b] pos) (tMrg ta tb) := by
  refine ⟨fun pins s σ H Q I q => ?_⟩
  have hn := I.hok.fresh (Nat.le_refl s.heap.objs.size)
  have I1 := I.laid (a := s.heap.objs.size) (o := .dK []) (h' := s.heap.push { cls := .type "dict", data := .dict #[] }) (t' := s.toks) (fun _ _ q => Heap.get?_push_of_some _ q) (Nat.le_refl _) (dk_empty s.heap I.big)
  rw [arm_eval_Dict]
  refine wpAny_bind (wpAny_standAt ?_)
  show wpAny _ _ (dictDisplay [(none, do let x ← eval a X.env; standAt pos; pure x), (none, do let x ← eval b X.env; standAt pos; pure x)]) _ _ _
  unfold dictDisplay
  simp only [List.forIn_cons, List.forIn_nil, List.isEmpty_nil, if_true, pure_bind, bind_assoc]
  refine wpAny_bind (wpAny_alloc ?_)
  refine wpAny_bind (wpAny_holding ?_)
  refine wpAny_bind (thn (ha.run pins _ σ _ _ I1 (q _ hn)) fun u s1 ⟨x, H1, I2, rx, o1, k1, ex, n1, e1, ed1, l1, q1⟩ => wpAny_bind (wpAny_standAt (wpAny_pure ?_)))
  subst ex
  obtain rfl : u = Value.ref o1 := rx
  refine wpAny_bind (wpAny_onRaise (wpAny_tryCatch (wpAny_onRaise (wpAny_holding (merge_ok I2 n1 ed1 e1 (by simp) (by omega) fun s2 I3 => ?_)))))
  refine wpAny_bind (wpAny_holding (wpAny_bind (thn (hb.run pins _ σ _ _ I3 q1) fun u2 s3 ⟨y, H2, I4, ry, o2, k2, ey, n2, e2, ed2, l2, q2⟩ => wpAny_bind (wpAny_standAt (wpAny_pure ?_)))))
  subst ey
  obtain rfl : u2 = Value.ref o2 := ry
  have l1' : (mergeK [] k1).length ≤ 100000 := by
    have := length_mergeK k1 []
    simp at this
    omega
  refine wpAny_bind (wpAny_onRaise (wpAny_tryCatch (wpAny_onRaise (wpAny_holding (merge_ok I4 n2 ed2 e2 l1' (by omega) fun s4 I5 => ?_)))))
  exact wpAny_pure ⟨.ref s.heap.objs.size, _, I5, rfl, q2⟩
end
end Mx
set_option maxHeartbeats 4000000
/-! the plain part: least missing numbers, houses, rests, waves. -/
namespace Mx
/-! ### the least number that is not shown -/
def top (l : List Nat) : Nat := l.foldr max 0 + 1
theorem lt_top : ∀ {l : List Nat} {x : Nat}, x ∈ l → x < top l
  | y :: l, x, h => by
    have e : top (y :: l) = max y (l.foldr max 0) + 1 := rfl
    rcases List.mem_cons.mp h with rfl | h
    · rw [e]; omega
    · have := lt_top h
      unfold top at this
      rw [e]; omega
def mexF (l : List Nat) : Nat → Nat → Nat
  | 0, k => k
  | f + 1, k => if k ∈ l then mexF l f (k + 1) else k
def mex (l : List Nat) : Nat := mexF l (top l) 0
theorem mexF_spec (l : List Nat) : ∀ f k, (∀ j, j < k → j ∈ l) → top l ≤ f + k → mexF l f k ∉ l ∧ ∀ j, j < mexF l f k → j ∈ l
  | 0, k, h, hf => ⟨fun q => by have := lt_top q; unfold mexF at this; omega, h⟩
  | f + 1, k, h, hf => by
    unfold mexF
    by_cases hk : k ∈ l
    · rw [if_pos hk]
      refine mexF_spec l f (k + 1) (fun j hj => ?_) (by omega)
      by_cases e : j = k
      · rw [e]; exact hk
      · exact h j (by omega)
    · rw [if_neg hk]
      exact ⟨hk, h⟩
theorem mex_spec (l : List Nat) : mex l ∉ l ∧ ∀ j, j < mex l → j ∈ l := mexF_spec l (top l) 0 (fun j hj => absurd hj (Nat.not_lt_zero _)) (Nat.le_refl _)
theorem mex_uniq {l : List Nat} {k : Nat} (h1 : k ∉ l) (h2 : ∀ j, j < k → j ∈ l) : mex l = k := by
  obtain ⟨a, b⟩ := mex_spec l
  rcases Nat.lt_trichotomy (mex l) k with h | h | h
  · exact absurd (h2 _ h) a
  · exact h
  · exact absurd (b _ h) h1
theorem mex_congr {l l' : List Nat} (h : ∀ x, x ∈ l ↔ x ∈ l') : mex l = mex l' := by
  obtain ⟨a, b⟩ := mex_spec l'
  exact mex_uniq (fun q => a ((h _).mp q)) (fun j hj => (h _).mpr (b j hj))
def shw (rw : List (List Nat)) (st : List Nat) (x : Nat) : List Nat := (rw.getD x []).map fun y => st.getD y 0
def fr (rw : List (List Nat)) (st : List Nat) (x : Nat) : Nat := mex (shw rw st x)
theorem mem_shw {rw : List (List Nat)} {st : List Nat} {x k : Nat} : k ∈ shw rw st x ↔ ∃ y, y ∈ rw.getD x [] ∧ st.getD y 0 = k := by
  unfold shw
  rw [List.mem_map]
/-! ### houses -/
structure HsOk (n : Nat) (ds : List (Nat × Nat)) : Prop where
  n1 : 1 ≤ n
  n8 : n ≤ 8
  len : ds.length ≤ 28
  lt : ∀ d, d ∈ ds → d.1 < d.2 ∧ d.2 < n
  asc : ds.Pairwise fun a b => a.1 < b.1 ∨ (a.1 = b.1 ∧ a.2 < b.2)
def nbr (x : Nat) (d : Nat × Nat) : Option Nat := if d.1 = x then some d.2 else if d.2 = x then some d.1 else none
def nb (ds : List (Nat × Nat)) (x : Nat) : List Nat := ds.filterMap (nbr x)
def srt (l : List Nat) : List Nat := l.mergeSort fun a b => decide (a ≤ b)
theorem srt_perm (l : List Nat) : (srt l).Perm l := List.mergeSort_perm _ _
theorem srt_asc (l : List Nat) : (srt l).Pairwise (· ≤ ·) := by
  have h := List.pairwise_mergeSort (le := fun a b : Nat => decide (a ≤ b)) (fun a b c h1 h2 => by simp at *; omega) (fun a b => by simp; omega) l
  exact h.imp fun h => by simpa using h
theorem eq_srt {l l' : List Nat} (p : l'.Perm l) (s : l'.Pairwise (· ≤ ·)) : l' = srt l :=
  List.Perm.eq_of_pairwise (le := (· ≤ ·)) (fun a b _ _ h1 h2 => Nat.le_antisymm h1 h2) s (srt_asc l) (p.trans (srt_perm l).symm)
def nearM (n : Nat) (ds : List (Nat × Nat)) : List (List Nat) := (List.range n).map fun x => srt (nb ds x)
def nearU (n : Nat) (ds : List (Nat × Nat)) : List (List Nat) := (List.range n).map (nb ds)
structure Gr (n : Nat) (rw : List (List Nat)) : Prop where
  len : rw.length = n
  sym : ∀ x y, y ∈ rw.getD x [] → x ∈ rw.getD y []
  lt : ∀ x y, y ∈ rw.getD x [] → y < n
  ne : ∀ x y, y ∈ rw.getD x [] → x ≠ y
theorem getD_map_range {α : Type} {n : Nat} {f : Nat → α} {x : Nat} {d : α} : ((List.range n).map f).getD x d = if x < n then f x else d := by
  rw [List.getD_eq_getElem?_getD, List.getElem?_map]
  by_cases h : x < n
  · rw [if_pos h, List.getElem?_eq_getElem (by rw [List.length_range]; exact h), List.getElem_range]
    rfl
  · rw [if_neg h, List.getElem?_eq_none (by rw [List.length_range]; omega)]
    rfl
theorem mem_nb {ds : List (Nat × Nat)} {x y : Nat} : y ∈ nb ds x ↔ ∃ d, d ∈ ds ∧ nbr x d = some y := by
  unfold nb
  rw [List.mem_filterMap]
theorem nbr_iff {x y : Nat} {d : Nat × Nat} (h : d.1 < d.2) : nbr x d = some y ↔ (d.1 = x ∧ d.2 = y) ∨ (d.1 = y ∧ d.2 = x) := by
  unfold nbr
  by_cases h1 : d.1 = x
  · rw [if_pos h1]
    constructor
    · intro e
      exact .inl ⟨h1, Option.some.inj e⟩
    · rintro (⟨_, e⟩ | ⟨e1, e2⟩)
      · rw [e]
      · omega
  · rw [if_neg h1]
    by_cases h2 : d.2 = x
    · rw [if_pos h2]
      constructor
      · intro e
        exact .inr ⟨Option.some.inj e, h2⟩
      · rintro (⟨e, _⟩ | ⟨e1, e2⟩)
        · exact absurd e h1
        · rw [e1]
    · rw [if_neg h2]
      constructor
      · intro e; cases e
      · rintro (⟨e, _⟩ | ⟨e1, e2⟩)
        · exact absurd e h1
        · exact absurd e2 h2
theorem gr_nb {n : Nat} {ds : List (Nat × Nat)} (h : HsOk n ds) {rw : List (List Nat)} (hl : rw.length = n) (hm : ∀ x y, y ∈ rw.getD x [] ↔ (x < n ∧ y ∈ nb ds x)) : Gr n rw where
  len := hl
  sym := fun x y q => by
    obtain ⟨hx, q⟩ := (hm x y).mp q
    obtain ⟨d, hd, e⟩ := mem_nb.mp q
    obtain ⟨l1, l2⟩ := h.lt d hd
    rw [nbr_iff l1] at e
    refine (hm y x).mpr ⟨by omega, mem_nb.mpr ⟨d, hd, (nbr_iff l1).mpr ?_⟩⟩
    omega
  lt := fun x y q => by
    obtain ⟨hx, q⟩ := (hm x y).mp q
    obtain ⟨d, hd, e⟩ := mem_nb.mp q
    obtain ⟨l1, l2⟩ := h.lt d hd
    rw [nbr_iff l1] at e
    omega
  ne := fun x y q => by
    obtain ⟨hx, q⟩ := (hm x y).mp q
    obtain ⟨d, hd, e⟩ := mem_nb.mp q
    obtain ⟨l1, l2⟩ := h.lt d hd
    rw [nbr_iff l1] at e
    omega
theorem mem_near {n : Nat} {ds : List (Nat × Nat)} {x y : Nat} : y ∈ (nearM n ds).getD x [] ↔ (x < n ∧ y ∈ nb ds x) := by
  unfold nearM
  rw [getD_map_range]
  by_cases h : x < n
  · rw [if_pos h, (srt_perm _).mem_iff]
    exact ⟨fun q => ⟨h, q⟩, fun q => q.2⟩
  · rw [if_neg h]
    exact ⟨fun q => by simp at q, fun q => absurd q.1 h⟩
theorem mem_nearU {n : Nat} {ds : List (Nat × Nat)} {x y : Nat} : y ∈ (nearU n ds).getD x [] ↔ (x < n ∧ y ∈ nb ds x) := by
  unfold nearU
  rw [getD_map_range]
  by_cases h : x < n
  · rw [if_pos h]
    exact ⟨fun q => ⟨h, q⟩, fun q => q.2⟩
  · rw [if_neg h]
    exact ⟨fun q => by simp at q, fun q => absurd q.1 h⟩
theorem gr_near {n : Nat} {ds : List (Nat × Nat)} (h : HsOk n ds) : Gr n (nearM n ds) := gr_nb h (by unfold nearM; rw [List.length_map, List.length_range]) fun x y => mem_near
theorem nb_len {n : Nat} {ds : List (Nat × Nat)} (h : HsOk n ds) (x : Nat) : (nb ds x).length ≤ 28 := Nat.le_trans (List.length_filterMap_le _ _) h.len
/-! ### rests and the rooms that fit -/
theorem ext0 {l l' : List Nat} (hl : l.length = l'.length) (h : ∀ i, i < l.length → l.getD i 0 = l'.getD i 0) : l = l' := by
  refine List.ext_getElem hl fun i h1 h2 => ?_
  have := h i h1
  rw [List.getD_eq_getElem?_getD, List.getD_eq_getElem?_getD, List.getElem?_eq_getElem h1, List.getElem?_eq_getElem h2] at this
  exact this
structure Way (n : Nat) (rw : List (List Nat)) (rest st : List Nat) : Prop where
  gr : Gr n rw
  lr : rest.length = n
  ls : st.length = n
  fix : ∀ x, x < n → fr rw rest x = rest.getD x 0
  bel : ∀ x, x < n → rest.getD x 0 ≤ st.getD x 0
def chL (st rest : List Nat) : List Nat := (List.range rest.length).filter fun x => decide (rest.getD x 0 < st.getD x 0)
def fitL (rw : List (List Nat)) (st rest : List Nat) : List Nat := (List.range rest.length).filter fun x => decide (rest.getD x 0 < st.getD x 0) && decide (fr rw st x = rest.getD x 0)
def putL (st rest r : List Nat) : List Nat := (List.range st.length).map fun x => if x ∈ r then rest.getD x 0 else st.getD x 0
theorem mem_ch {st rest : List Nat} {x : Nat} : x ∈ chL st rest ↔ x < rest.length ∧ rest.getD x 0 < st.getD x 0 := by
  unfold chL
  rw [List.mem_filter, List.mem_range]
  simp
theorem mem_fit {rw : List (List Nat)} {st rest : List Nat} {x : Nat} : x ∈ fitL rw st rest ↔ x < rest.length ∧ rest.getD x 0 < st.getD x 0 ∧ fr rw st x = rest.getD x 0 := by
  unfold fitL
  rw [List.mem_filter, List.mem_range]
  simp
theorem fit_ch {rw : List (List Nat)} {st rest : List Nat} {x : Nat} (h : x ∈ fitL rw st rest) : x ∈ chL st rest := by
  obtain ⟨a, b, _⟩ := mem_fit.mp h
  exact mem_ch.mpr ⟨a, b⟩
theorem filt_asc (p : Nat → Bool) (n : Nat) : ((List.range n).filter p).Pairwise (· < ·) := List.pairwise_lt_range.filter p
theorem ch_asc (st rest : List Nat) : (chL st rest).Pairwise (· < ·) := filt_asc _ _
theorem fit_asc (rw : List (List Nat)) (st rest : List Nat) : (fitL rw st rest).Pairwise (· < ·) := filt_asc _ _
theorem asc_nodup {l : List Nat} (h : l.Pairwise (· < ·)) : l.Nodup := h.imp fun h => Nat.ne_of_lt h
theorem asc_eq {l l' : List Nat} (h : l.Pairwise (· < ·)) (h' : l'.Pairwise (· < ·)) (hm : ∀ x, x ∈ l ↔ x ∈ l') : l = l' :=
  List.Perm.eq_of_pairwise (le := (· < ·)) (fun a b _ _ h1 h2 => absurd h1 (Nat.lt_asymm h2)) h h' ((List.perm_ext_iff_of_nodup (asc_nodup h) (asc_nodup h')).mpr hm)
theorem asc_filter {l : List Nat} (p : Nat → Bool) (h : l.Pairwise (· < ·)) : (l.filter p).Pairwise (· < ·) := h.filter p
theorem asc_sub {r l : List Nat} (h : r.Pairwise (· < ·)) (h' : l.Pairwise (· < ·)) (hm : ∀ x, x ∈ r → x ∈ l) : r.Sublist l := by
  have e : r = l.filter fun x => decide (x ∈ r) := asc_eq h (asc_filter _ h') fun x => by
    rw [List.mem_filter]
    simp
    exact hm x
  rw [e]
  exact List.filter_sublist
/-- a list with something in it has one with a least value -/
theorem least_of (f : Nat → Nat) : ∀ (l : List Nat), l ≠ [] → ∃ x, x ∈ l ∧ ∀ y, y ∈ l → f x ≤ f y
  | [], h => absurd rfl h
  | [a], _ => ⟨a, by simp, fun y hy => by simp at hy; rw [hy]; exact Nat.le_refl _⟩
  | a :: b :: l, _ => by
    obtain ⟨x, hx, hm⟩ := least_of f (b :: l) (by simp)
    by_cases h : f a ≤ f x
    · exact ⟨a, by simp, fun y hy => by
        rcases List.mem_cons.mp hy with rfl | hy
        · exact Nat.le_refl _
        · exact Nat.le_trans h (hm y hy)⟩
    · exact ⟨x, List.mem_cons_of_mem _ hx, fun y hy => by
        rcases List.mem_cons.mp hy with rfl | hy
        · omega
        · exact hm y hy⟩
theorem ch_nil {n : Nat} {rw : List (List Nat)} {rest st : List Nat} (W : Way n rw rest st) (h : chL st rest = []) : st = rest := by
  refine ext0 (W.ls.trans W.lr.symm) fun i hi => ?_
  rw [W.ls] at hi
  have h1 := W.bel i hi
  have h2 : ¬ i ∈ chL st rest := by rw [h]; simp
  rw [mem_ch, W.lr] at h2
  omega
theorem fit_ne {n : Nat} {rw : List (List Nat)} {rest st : List Nat} (W : Way n rw rest st) (h : st ≠ rest) : fitL rw st rest ≠ [] := by
  obtain ⟨x, hx, hm⟩ := least_of (fun x => rest.getD x 0) (chL st rest) fun q => h (ch_nil W q)
  obtain ⟨hl, hc⟩ := mem_ch.mp hx
  rw [W.lr] at hl
  have hfx := W.fix x hl
  have hsp := mex_spec (shw rw rest x)
  change fr rw rest x ∉ _ ∧ (∀ j, j < fr rw rest x → _) at hsp
  rw [hfx] at hsp
  have low : ∀ y, y < n → rest.getD y 0 < rest.getD x 0 → st.getD y 0 = rest.getD y 0 := fun y hy hlt => by
    have h1 := W.bel y hy
    by_cases q : rest.getD y 0 < st.getD y 0
    · have := hm y (mem_ch.mpr ⟨by rw [W.lr]; exact hy, q⟩)
      omega
    · omega
  have key : fr rw st x = rest.getD x 0 := by
    refine mex_uniq (fun q => ?_) (fun j hj => ?_)
    · obtain ⟨y, hy, e⟩ := mem_shw.mp q
      have hyn := W.gr.lt x y hy
      have h1 := W.bel y hyn
      have h2 : rest.getD y 0 ≠ rest.getD x 0 := fun q => hsp.1 (mem_shw.mpr ⟨y, hy, q⟩)
      have h3 := low y hyn (by omega)
      omega
    · obtain ⟨y, hy, e⟩ := mem_shw.mp (hsp.2 j hj)
      exact mem_shw.mpr ⟨y, hy, by rw [low y (W.gr.lt x y hy) (by omega)]; exact e⟩
  intro q
  have : x ∈ fitL rw st rest := mem_fit.mpr ⟨by rw [W.lr]; exact hl, hc, key⟩
  rw [q] at this
  simp at this
theorem put_len (st rest r : List Nat) : (putL st rest r).length = st.length := by
  unfold putL
  rw [List.length_map, List.length_range]
theorem put_get {st rest r : List Nat} {x : Nat} (h : x < st.length) : (putL st rest r).getD x 0 = if x ∈ r then rest.getD x 0 else st.getD x 0 := by
  unfold putL
  rw [getD_map_range, if_pos h]
theorem way_put {n : Nat} {rw : List (List Nat)} {rest st : List Nat} (W : Way n rw rest st) (r : List Nat) : Way n rw rest (putL st rest r) where
  gr := W.gr
  lr := W.lr
  ls := (put_len _ _ _).trans W.ls
  fix := W.fix
  bel := fun x hx => by
    rw [put_get (by rw [W.ls]; exact hx)]
    by_cases h : x ∈ r
    · rw [if_pos h]
      exact Nat.le_refl _
    · rw [if_neg h]
      exact W.bel x hx
theorem ch_put {n : Nat} {rw : List (List Nat)} {rest st : List Nat} (W : Way n rw rest st) (r : List Nat) : chL (putL st rest r) rest = (chL st rest).filter fun x => decide (x ∉ r) := by
  refine asc_eq (ch_asc _ _) (asc_filter _ (ch_asc _ _)) fun x => ?_
  rw [mem_ch, List.mem_filter, mem_ch]
  by_cases hx : x < n
  · rw [put_get (by rw [W.ls]; exact hx)]
    by_cases h : x ∈ r
    · rw [if_pos h]
      simp [h]
    · rw [if_neg h]
      simp [h]
  · rw [W.lr]
    simp [hx]
theorem nch_put {n : Nat} {rw : List (List Nat)} {rest st : List Nat} (W : Way n rw rest st) {r : List Nat} (h0 : r ≠ []) (hr : ∀ x, x ∈ r → x ∈ chL st rest) : (chL (putL st rest r) rest).length < (chL st rest).length := by
  rw [ch_put W]
  cases r with
  | nil => exact absurd rfl h0
  | cons a r =>
    refine List.length_filter_lt_length_iff_exists.mpr ⟨a, hr a (by simp), by simp⟩
theorem put_one {st rest : List Nat} {x : Nat} (h : x < st.length) : putL st rest [x] = st.set x (rest.getD x 0) := by
  refine ext0 (by rw [put_len, List.length_set]) fun i hi => ?_
  rw [put_len] at hi
  rw [put_get hi, List.getD_eq_getElem?_getD (l := st.set _ _)]
  by_cases e : i = x
  · subst e
    rw [if_pos (by simp), List.getElem?_set_self h]
    rfl
  · rw [if_neg (by simpa using e), List.getElem?_set_ne (Ne.symm e), List.getD_eq_getElem?_getD]
/-! ### rows of waves -/
def IsRow (rw : List (List Nat)) (rest : List Nat) : List Nat → List (List Nat) → Prop
  | st, [] => st = rest
  | st, r :: W => r ≠ [] ∧ r.Pairwise (· < ·) ∧ (∀ x, x ∈ r → x ∈ fitL rw st rest) ∧ IsRow rw rest (putL st rest r) W
def Best (rw : List (List Nat)) (rest st : List Nat) (W : List (List Nat)) : Prop := IsRow rw rest st W ∧ ∀ W', IsRow rw rest st W' → W.length ≤ W'.length
theorem best_nil {rw : List (List Nat)} {rest : List Nat} : Best rw rest rest [] := ⟨rfl, fun _ _ => Nat.zero_le _⟩
theorem best_len {rw : List (List Nat)} {rest st : List Nat} {W W' : List (List Nat)} (h : Best rw rest st W) (h' : Best rw rest st W') : W.length = W'.length := Nat.le_antisymm (h.2 _ h'.1) (h'.2 _ h.1)
/-- the least among the first waves with their best rows is the best row -/
theorem best_step {rw : List (List Nat)} {rest st : List Nat} (hne : st ≠ rest) {T : List (List (List Nat))} (ha : ∀ W, W ∈ T → ∃ r W', W = r :: W' ∧ r ≠ [] ∧ r.Pairwise (· < ·) ∧ (∀ x, x ∈ r → x ∈ fitL rw st rest) ∧ Best rw rest (putL st rest r) W')
    (hall : ∀ r, r ≠ [] → r.Pairwise (· < ·) → (∀ x, x ∈ r → x ∈ fitL rw st rest) → ∃ W', (r :: W') ∈ T) {W : List (List Nat)} (hW : W ∈ T) (hmin : ∀ W', W' ∈ T → W.length ≤ W'.length) : Best rw rest st W := by
  obtain ⟨r, W1, rfl, a, b, c, d⟩ := ha W hW
  refine ⟨⟨a, b, c, d.1⟩, fun Z hZ => ?_⟩
  cases Z with
  | nil => exact absurd hZ hne
  | cons q Z =>
    obtain ⟨a2, b2, c2, d2⟩ := hZ
    obtain ⟨W2, h2⟩ := hall q a2 b2 c2
    have h3 := hmin _ h2
    obtain ⟨q', W2', e, _, _, _, d3⟩ := ha _ h2
    cases e
    have := d3.2 Z d2
    simp only [List.length_cons] at *
    omega
theorem row_flat {n : Nat} {rw : List (List Nat)} {rest : List Nat} : ∀ {W : List (List Nat)} {st : List Nat}, Way n rw rest st → IsRow rw rest st W → W.flatten.Perm (chL st rest)
  | [], st, w, h => by
    have e : st = rest := h
    subst e
    have : chL st st = [] := List.eq_nil_iff_forall_not_mem.mpr fun x hx => by have := (mem_ch.mp hx).2; omega
    rw [this]
    exact .refl _
  | r :: W, st, w, h => by
    obtain ⟨a, b, c, d⟩ := h
    have ih := row_flat (way_put w r) d
    rw [ch_put w] at ih
    rw [List.flatten_cons]
    refine (List.Perm.append_left r ih).trans ?_
    have e : r = (chL st rest).filter fun x => decide (x ∈ r) := asc_eq b (asc_filter _ (ch_asc _ _)) fun x => by
      rw [List.mem_filter]
      simp
      exact fun q => fit_ch (c x q)
    have p := List.filter_append_perm (fun x => decide (x ∈ r)) (chL st rest)
    rw [← e] at p
    have e2 : (fun x => !decide (x ∈ r)) = fun x => decide (x ∉ r) := by
      funext x
      by_cases q : x ∈ r <;> simp [q]
    rw [e2] at p
    exact p
theorem row_lens {rw : List (List Nat)} {rest : List Nat} : ∀ {W : List (List Nat)} {st : List Nat}, IsRow rw rest st W → W.length ≤ W.flatten.length
  | [], st, h => Nat.le_refl _
  | r :: W, st, h => by
    have ih := row_lens h.2.2.2
    rw [List.flatten_cons, List.length_append, List.length_cons]
    have : r.length ≠ 0 := fun q => h.1 (List.length_eq_zero_iff.mp q)
    omega
/-- one wave alone: it holds all rooms that fit -/
theorem row_one {n : Nat} {rw : List (List Nat)} {rest st r : List Nat} (w : Way n rw rest st) (h : IsRow rw rest st [r]) : r = fitL rw st rest ∧ putL st rest r = rest ∧ st ≠ rest := by
  have hp := row_flat w h
  obtain ⟨a, b, c, d⟩ := h
  simp at hp
  refine ⟨asc_eq b (fit_asc _ _ _) fun x => ⟨c x, fun q => hp.mem_iff.mpr (fit_ch q)⟩, d, fun e => ?_⟩
  subst e
  cases r with
  | nil => exact a rfl
  | cons y r =>
    have := (mem_fit.mp (c y (by simp))).2.1
    omega
/-! ### sets of rooms, one by one -/
def exts (ok : Nat → List Nat → Bool) (L : List Nat) : List (List Nat) := L.foldl (fun acc x => acc ++ (acc.filter (ok x)).map (· ++ [x])) [[]]
theorem exts_snoc (ok : Nat → List Nat → Bool) (L : List Nat) (x : Nat) : exts ok (L ++ [x]) = exts ok L ++ ((exts ok L).filter (ok x)).map (· ++ [x]) := by
  unfold exts
  rw [List.foldl_append]
  rfl
theorem exts_len (ok : Nat → List Nat → Bool) : ∀ M : List Nat, (exts ok M.reverse).length ≤ 2 ^ M.length
  | [] => Nat.le_refl _
  | x :: M => by
    have ih := exts_len ok M
    have h2 := List.length_filter_le (ok x) (exts ok M.reverse)
    rw [List.reverse_cons, exts_snoc, List.length_append, List.length_map, List.length_cons, Nat.pow_succ]
    omega
theorem exts_length (ok : Nat → List Nat → Bool) (L : List Nat) : (exts ok L).length ≤ 2 ^ L.length := by
  have := exts_len ok L.reverse
  rw [List.reverse_reverse, List.length_reverse] at this
  exact this
theorem exts_sub (ok : Nat → List Nat → Bool) : ∀ (M : List Nat) {s : List Nat}, s ∈ exts ok M.reverse → s.Sublist M.reverse
  | [], s, h => by
    have : s = [] := by simpa [exts] using h
    rw [this]
    exact .slnil
  | x :: M, s, h => by
    rw [List.reverse_cons, exts_snoc] at h
    rw [List.reverse_cons]
    rcases List.mem_append.mp h with h | h
    · exact (exts_sub ok M h).trans (List.sublist_append_left _ _)
    · obtain ⟨t, ht, rfl⟩ := List.mem_map.mp h
      exact (exts_sub ok M (List.mem_filter.mp ht).1).append (.refl _)
theorem exts_sublist {ok : Nat → List Nat → Bool} {L s : List Nat} (h : s ∈ exts ok L) : s.Sublist L := by
  have := exts_sub ok L.reverse (s := s)
  rw [List.reverse_reverse] at this
  exact this h
theorem exts_all : ∀ (M : List Nat) {s : List Nat}, s.Sublist M.reverse → s ∈ exts (fun _ _ => true) M.reverse
  | [], s, h => by
    have : s = [] := by simpa using h
    rw [this]
    simp [exts]
  | x :: M, s, h => by
    rw [List.reverse_cons] at h ⊢
    rw [exts_snoc]
    obtain ⟨a, b, rfl, h1, h2⟩ := List.sublist_append_iff.mp h
    have ih := exts_all M h1
    have hb : b = [] ∨ b = [x] := by
      cases h2 with
      | cons _ h => left; simpa using h
      | cons_cons _ h => right; simpa using h
    rcases hb with rfl | rfl
    · rw [List.append_nil]
      exact List.mem_append_left _ ih
    · exact List.mem_append_right _ (List.mem_map.mpr ⟨a, List.mem_filter.mpr ⟨ih, rfl⟩, rfl⟩)
theorem exts_every {L s : List Nat} (h : s.Sublist L) : s ∈ exts (fun _ _ => true) L := by
  have := exts_all L.reverse (s := s)
  rw [List.reverse_reverse] at this
  exact this h
def subsL (L : List Nat) : List (List Nat) := (exts (fun _ _ => true) L).filter fun s => decide (s ≠ [])
theorem mem_subs {L s : List Nat} (hL : L.Pairwise (· < ·)) : s ∈ subsL L ↔ s ≠ [] ∧ s.Pairwise (· < ·) ∧ ∀ x, x ∈ s → x ∈ L := by
  unfold subsL
  rw [List.mem_filter]
  constructor
  · rintro ⟨a, b⟩
    have sb := exts_sublist a
    exact ⟨by simpa using b, hL.sublist sb, fun x hx => sb.subset hx⟩
  · rintro ⟨a, b, c⟩
    exact ⟨exts_every (asc_sub b hL c), by simpa using a⟩
/-! ### sets without neighbors, to which none can be added -/
def okI (rw : List (List Nat)) (x : Nat) (s : List Nat) : Bool := !((rw.getD x []).any fun y => decide (y ∈ s))
theorem okI_iff {rw : List (List Nat)} {x : Nat} {s : List Nat} : okI rw x s = true ↔ ∀ y, y ∈ rw.getD x [] → y ∉ s := by
  unfold okI
  simp
def lrg (rw : List (List Nat)) (rs s : List Nat) : Bool := rs.all fun x => decide (x ∈ s) || (rw.getD x []).any fun y => decide (y ∈ s)
theorem lrg_iff {rw : List (List Nat)} {rs s : List Nat} : lrg rw rs s = true ↔ ∀ x, x ∈ rs → x ∈ s ∨ ∃ y, y ∈ rw.getD x [] ∧ y ∈ s := by
  unfold lrg
  simp
def largest (rw : List (List Nat)) (rs : List Nat) : List (List Nat) := (exts (okI rw) rs).filter (lrg rw rs)
def Indep (rw : List (List Nat)) (s : List Nat) : Prop := ∀ x, x ∈ s → ∀ y, y ∈ s → y ∉ rw.getD x []
theorem exts_ind {n : Nat} {rw : List (List Nat)} (G : Gr n rw) : ∀ (M : List Nat) {s : List Nat}, s ∈ exts (okI rw) M.reverse → Indep rw s
  | [], s, h => by
    have : s = [] := by simpa [exts] using h
    rw [this]
    intro x hx
    simp at hx
  | z :: M, s, h => by
    rw [List.reverse_cons, exts_snoc] at h
    rcases List.mem_append.mp h with h | h
    · exact exts_ind G M h
    · obtain ⟨t, ht, rfl⟩ := List.mem_map.mp h
      obtain ⟨h1, h2⟩ := List.mem_filter.mp ht
      have ih := exts_ind G M h1
      have h3 := okI_iff.mp h2
      intro x hx y hy q
      rcases List.mem_append.mp hx with h5 | h5 <;> rcases List.mem_append.mp hy with h6 | h6
      · exact ih x h5 y h6 q
      · have e : y = z := by simpa using h6
        rw [e] at q
        exact h3 x (G.sym _ _ q) h5
      · have e : x = z := by simpa using h5
        rw [e] at q
        exact h3 y q h6
      · have e1 : x = z := by simpa using h5
        have e2 : y = z := by simpa using h6
        exact G.ne _ _ q (e1.trans e2.symm)
theorem greedy {n : Nat} {rw : List (List Nat)} (G : Gr n rw) (must : List Nat) (hm : Indep rw must) : ∀ (M : List Nat), ∃ T, T ∈ exts (okI rw) M.reverse ∧ (∀ x, x ∈ M → x ∈ must → x ∈ T) ∧ (∀ x, x ∈ T → x ∈ must ∨ ∀ y, y ∈ rw.getD x [] → y ∉ must) ∧
    (∀ x, x ∈ M → x ∈ T ∨ ∃ y, y ∈ rw.getD x [] ∧ (y ∈ must ∨ y ∈ T))
  | [] => ⟨[], by simp [exts], fun x hx => by simp at hx, fun x hx => by simp at hx, fun x hx => by simp at hx⟩
  | z :: M => by
    obtain ⟨T, h1, h2, h3, h4⟩ := greedy G must hm M
    rw [List.reverse_cons, exts_snoc]
    by_cases hz : okI rw z T = true ∧ (z ∈ must ∨ ∀ y, y ∈ rw.getD z [] → y ∉ must)
    · refine ⟨T ++ [z], List.mem_append_right _ (List.mem_map.mpr ⟨T, List.mem_filter.mpr ⟨h1, hz.1⟩, rfl⟩), fun x hx q => ?_, fun x hx => ?_, fun x hx => ?_⟩
      · rcases List.mem_cons.mp hx with rfl | hx
        · simp
        · exact List.mem_append_left _ (h2 x hx q)
      · rcases List.mem_append.mp hx with hx | hx
        · exact h3 x hx
        · have : x = z := by simpa using hx
          subst this
          exact hz.2
      · rcases List.mem_cons.mp hx with rfl | hx
        · left; simp
        · rcases h4 x hx with h | ⟨y, a, b⟩
          · left; simp [h]
          · right
            refine ⟨y, a, ?_⟩
            rcases b with b | b
            · exact .inl b
            · right; simp [b]
    · refine ⟨T, List.mem_append_left _ h1, fun x hx q => ?_, h3, fun x hx => ?_⟩
      · rcases List.mem_cons.mp hx with rfl | hx
        · exfalso
          refine hz ⟨okI_iff.mpr fun y hy hT => ?_, .inl q⟩
          rcases h3 y hT with h | h
          · exact hm x q y h hy
          · exact h x (G.sym _ _ hy) q
        · exact h2 x hx q
      · rcases List.mem_cons.mp hx with rfl | hx
        · right
          by_cases q : ∀ y, y ∈ rw.getD x [] → y ∉ must
          · have h5 : ¬ okI rw x T = true := fun e => hz ⟨e, .inr q⟩
            rw [okI_iff] at h5
            simp only [Classical.not_forall, Classical.not_not] at h5
            obtain ⟨y, a, b⟩ := h5
            exact ⟨y, a, .inr b⟩
          · simp only [Classical.not_forall, Classical.not_not] at q
            obtain ⟨y, a, b⟩ := q
            exact ⟨y, a, .inl b⟩
        · exact h4 x hx
theorem largest_with {n : Nat} {rw : List (List Nat)} (G : Gr n rw) {rs must : List Nat} (hm : Indep rw must) (hs : ∀ x, x ∈ must → x ∈ rs) : ∃ S, S ∈ largest rw rs ∧ ∀ x, x ∈ must → x ∈ S := by
  obtain ⟨T, h1, h2, h3, h4⟩ := greedy G must hm rs.reverse
  rw [List.reverse_reverse] at h1
  have hmT : ∀ x, x ∈ must → x ∈ T := fun x hx => h2 x (List.mem_reverse.mpr (hs x hx)) hx
  refine ⟨T, List.mem_filter.mpr ⟨h1, lrg_iff.mpr fun x hx => ?_⟩, hmT⟩
  rcases h4 x (List.mem_reverse.mpr hx) with h | ⟨y, a, b⟩
  · exact .inl h
  · refine .inr ⟨y, a, ?_⟩
    rcases b with b | b
    · exact hmT y b
    · exact b
theorem largest_facts {n : Nat} {rw : List (List Nat)} (G : Gr n rw) {rs S : List Nat} (h : S ∈ largest rw rs) : S.Sublist rs ∧ Indep rw S ∧ ∀ x, x ∈ rs → x ∈ S ∨ ∃ y, y ∈ rw.getD x [] ∧ y ∈ S := by
  obtain ⟨h1, h2⟩ := List.mem_filter.mp h
  have h3 := exts_ind G rs.reverse (s := S)
  rw [List.reverse_reverse] at h3
  exact ⟨exts_sublist h1, h3 h1, lrg_iff.mp h2⟩
/-! ### rests nowhere above a state, layer by layer -/
structure Low (rw : List (List Nat)) (rs st : List Nat) (lv : Nat) (g : Nat → Nat) : Prop where
  lo : ∀ x, x ∈ rs → lv ≤ g x
  hi : ∀ x, x ∈ rs → g x ≤ st.getD x 0
  all : ∀ x, x ∈ rs → ∀ j, lv ≤ j → j < g x → ∃ y, y ∈ rs ∧ y ∈ rw.getD x [] ∧ g y = j
  ne : ∀ x, x ∈ rs → ∀ y, y ∈ rs → y ∈ rw.getD x [] → g y ≠ g x
theorem low_step {n : Nat} {rw : List (List Nat)} (G : Gr n rw) {rs S left st : List Nat} {lv : Nat} {g g' : Nat → Nat} (hS : S ∈ largest rw rs) (hlv : ∀ x, x ∈ rs → lv ≤ st.getD x 0) (hl : ∀ x, x ∈ left ↔ (x ∈ rs ∧ x ∉ S)) (h : Low rw left st (lv + 1) g)
    (e1 : ∀ x, x ∈ S → g' x = lv) (e2 : ∀ x, x ∈ left → g' x = g x) : Low rw rs st lv g' := by
  obtain ⟨sb, ind, cov⟩ := largest_facts G hS
  have split : ∀ x, x ∈ rs → x ∈ S ∨ x ∈ left := fun x hx => by
    by_cases q : x ∈ S
    · exact .inl q
    · exact .inr ((hl x).mpr ⟨hx, q⟩)
  refine ⟨fun x hx => ?_, fun x hx => ?_, fun x hx j h1 h2 => ?_, fun x hx y hy q => ?_⟩
  · rcases split x hx with s | s
    · rw [e1 x s]; exact Nat.le_refl _
    · rw [e2 x s]; have := h.lo x s; omega
  · rcases split x hx with s | s
    · rw [e1 x s]; exact hlv x hx
    · rw [e2 x s]; exact h.hi x s
  · rcases split x hx with s | s
    · rw [e1 x s] at h2; omega
    · rw [e2 x s] at h2
      by_cases e : j = lv
      · rcases cov x hx with q | ⟨y, a, b⟩
        · exact absurd q ((hl x).mp s).2
        · exact ⟨y, sb.subset b, a, by rw [e1 y b]; exact e.symm⟩
      · obtain ⟨y, a, b, c⟩ := h.all x s j (by omega) h2
        exact ⟨y, ((hl y).mp a).1, b, by rw [e2 y a]; exact c⟩
  · rcases split x hx with s | s <;> rcases split y hy with t | t
    · exact absurd q (ind x s y t)
    · rw [e1 x s, e2 y t]; have := h.lo y t; omega
    · rw [e2 x s, e1 y t]; have := h.lo x s; omega
    · rw [e2 x s, e2 y t]; exact h.ne x s y t q
theorem low_way {n : Nat} {rw : List (List Nat)} (G : Gr n rw) {st : List Nat} (hs : st.length = n) {g : Nat → Nat} (h : Low rw (List.range n) st 0 g) : Way n rw ((List.range n).map g) st where
  gr := G
  lr := by rw [List.length_map, List.length_range]
  ls := hs
  fix := fun x hx => by
    rw [getD_map_range, if_pos hx]
    refine mex_uniq (fun q => ?_) (fun j hj => ?_)
    · obtain ⟨y, hy, e⟩ := mem_shw.mp q
      have hyn := G.lt x y hy
      rw [getD_map_range, if_pos hyn] at e
      exact h.ne x (List.mem_range.mpr hx) y (List.mem_range.mpr hyn) hy e
    · obtain ⟨y, a, b, c⟩ := h.all x (List.mem_range.mpr hx) j (Nat.zero_le _) hj
      refine mem_shw.mpr ⟨y, b, ?_⟩
      rw [getD_map_range, if_pos (List.mem_range.mp a)]
      exact c
  bel := fun x hx => by
    rw [getD_map_range, if_pos hx]
    exact h.hi x (List.mem_range.mpr hx)
/-! ### keys one by one -/
def keyL (rw : List (List Nat)) (st : List Nat) (x : Nat) : List Nat := st.set x (fr rw st x)
theorem key_fit {n : Nat} {rw : List (List Nat)} {rest st : List Nat} (W : Way n rw rest st) {x : Nat} (h : x ∈ fitL rw st rest) : keyL rw st x = putL st rest [x] := by
  obtain ⟨a, b, c⟩ := mem_fit.mp h
  rw [put_one (by rw [W.ls, ← W.lr]; exact a)]
  unfold keyL
  rw [c]
theorem key_cut {rw : List (List Nat)} {st : List Nat} {x : Nat} (h : x < st.length) : st.take x ++ fr rw st x :: st.drop (x + 1) = keyL rw st x := by
  unfold keyL
  rw [List.set_eq_take_append_cons_drop, if_pos h]
end Mx
set_option maxHeartbeats 4000000
/-! what lies where: rows, houses, rows of waves; comprehensions by kind. -/
namespace Mx
open PySem PySem.Spec PyProof.Rows L2
/-! ### heaps: all but dicts of tuples and code tables -/
def Keep (H H' : Hp) : Prop := ∀ b o, H b = some o → (∀ ks, o ≠ .dT ks) → (∀ t, o ≠ .tbl t) → H' b = some o
theorem Keep.refl (H : Hp) : Keep H H := fun _ _ h _ _ => h
theorem Keep.trans {H H1 H2 : Hp} (a : Keep H H1) (b : Keep H1 H2) : Keep H H2 := fun c o h x y => b c o (a c o h x y) x y
theorem Keep.of {H H' : Hp} (a : Same H H') : Keep H H' := fun c o h _ _ => a c o h
theorem Keep.lst {H H' : Hp} (e : Keep H H') {a : Addr} {xs : List V} (h : H a = some (.lst xs)) : H' a = some (.lst xs) := e _ _ h (fun _ q => by cases q) (fun _ q => by cases q)
theorem Keep.tup {H H' : Hp} (e : Keep H H') {a : Addr} {xs : List V} (h : H a = some (.tup xs)) : H' a = some (.tup xs) := e _ _ h (fun _ q => by cases q) (fun _ q => by cases q)
theorem Keep.dK {H H' : Hp} (e : Keep H H') {a : Addr} {xs : List (Key × V)} (h : H a = some (.dK xs)) : H' a = some (.dK xs) := e _ _ h (fun _ q => by cases q) (fun _ q => by cases q)
theorem Keep.seqL {K : PySem.W.Frag} {H H' : Hp} {a : Addr} {xs : List V} (e : Keep H H') (h : SqL K H a xs) : SqL K H' a xs := by
  rcases h with (h | ⟨o, h⟩) | h
  · exact .inl (.inl (e.lst h))
  · exact .inl (.inr ⟨o, e _ _ h (fun _ q => by cases q) (fun _ q => by cases q)⟩)
  · exact .inr h
theorem Keep.seqT {K : PySem.W.Frag} {H H' : Hp} {a : Addr} {xs : List V} (e : Keep H H') (h : SqT K H a xs) : SqT K H' a xs := by
  rcases h with (h | ⟨o, h⟩) | h
  · exact .inl (.inl (e.tup h))
  · exact .inl (.inr ⟨o, e _ _ h (fun _ q => by cases q) (fun _ q => by cases q)⟩)
  · exact .inr h
/-! ### what lies where -/
abbrev TN (K : PySem.W.Frag) (H : Hp) (a : Addr) (l : List Nat) : Prop := SqT K H a (l.map vi)
abbrev LN (K : PySem.W.Frag) (H : Hp) (a : Addr) (l : List Nat) : Prop := SqL K H a (l.map vi)
/-- a list of lists of numbers -/
def Rws (K : PySem.W.Frag) (H : Hp) (a : Addr) (rw : List (List Nat)) : Prop := ∃ as : List Addr, SqL K H a (as.map V.ref) ∧ as.length = rw.length ∧ ∀ i, i < rw.length → ∃ p, as[i]? = some p ∧ LN K H p (rw.getD i [])
/-- a tuple of pairs -/
def Drs (K : PySem.W.Frag) (H : Hp) (a : Addr) (ds : List (Nat × Nat)) : Prop := ∃ as : List Addr, SqT K H a (as.map V.ref) ∧ as.length = ds.length ∧ ∀ (i : Nat) (d : Nat × Nat), ds[i]? = some d → ∃ p, as[i]? = some p ∧ SqT K H p [vi d.1, vi d.2]
def Hse (K : PySem.W.Frag) (H : Hp) (a : Addr) (n : Nat) (ds : List (Nat × Nat)) : Prop := ∃ t, SqT K H a [vi n, .ref t] ∧ Drs K H t ds
/-- a tuple of tuples of numbers -/
def Wvs (K : PySem.W.Frag) (H : Hp) (a : Addr) (W : List (List Nat)) : Prop := ∃ as : List Addr, SqT K H a (as.map V.ref) ∧ as.length = W.length ∧ ∀ (i : Nat) (r : List Nat), W[i]? = some r → ∃ p, as[i]? = some p ∧ TN K H p r
theorem Keep.rws {K : PySem.W.Frag} {H H' : Hp} {a : Addr} {rw : List (List Nat)} (e : Keep H H') (h : Rws K H a rw) : Rws K H' a rw := by
  obtain ⟨as, h1, h2, h3⟩ := h
  exact ⟨as, e.seqL h1, h2, fun i hi => let ⟨p, a, b⟩ := h3 i hi; ⟨p, a, e.seqL b⟩⟩
theorem Keep.drs {K : PySem.W.Frag} {H H' : Hp} {a : Addr} {ds : List (Nat × Nat)} (e : Keep H H') (h : Drs K H a ds) : Drs K H' a ds := by
  obtain ⟨as, h1, h2, h3⟩ := h
  exact ⟨as, e.seqT h1, h2, fun i d hi => let ⟨p, a, b⟩ := h3 i d hi; ⟨p, a, e.seqT b⟩⟩
theorem Keep.hse {K : PySem.W.Frag} {H H' : Hp} {a : Addr} {n : Nat} {ds : List (Nat × Nat)} (e : Keep H H') (h : Hse K H a n ds) : Hse K H' a n ds := by
  obtain ⟨t, h1, h2⟩ := h
  exact ⟨t, e.seqT h1, e.drs h2⟩
theorem Keep.wvs {K : PySem.W.Frag} {H H' : Hp} {a : Addr} {W : List (List Nat)} (e : Keep H H') (h : Wvs K H a W) : Wvs K H' a W := by
  obtain ⟨as, h1, h2, h3⟩ := h
  exact ⟨as, e.seqT h1, h2, fun i d hi => let ⟨p, a, b⟩ := h3 i d hi; ⟨p, a, e.seqT b⟩⟩
theorem sameRws {K : PySem.W.Frag} {H H' : Hp} {a : Addr} {rw : List (List Nat)} (e : Same H H') (h : Rws K H a rw) : Rws K H' a rw := (Keep.of e).rws h
theorem sameHse {K : PySem.W.Frag} {H H' : Hp} {a : Addr} {n : Nat} {ds : List (Nat × Nat)} (e : Same H H') (h : Hse K H a n ds) : Hse K H' a n ds := (Keep.of e).hse h
theorem getD_of {α : Type} {l : List α} {i : Nat} {x d : α} (h : l[i]? = some x) : l.getD i d = x := by
  rw [List.getD_eq_getElem?_getD, h]
  rfl
theorem get_of {α : Type} {l : List α} {i : Nat} (d : α) (h : i < l.length) : l[i]? = some (l.getD i d) := by
  rw [List.getD_eq_getElem?_getD, List.getElem?_eq_getElem h]
  rfl
/-- x[i] at a number -/
theorem at_nat {xs : List V} {i : Nat} {v : V} (h : xs[i]? = some v) : atI xs (i : Int) = some v := atI_nat h
theorem get_map {α β : Type} {f : α → β} {l : List α} {i : Nat} {x : β} (h : (l.map f)[i]? = some x) : ∃ y, l[i]? = some y ∧ x = f y := by
  rw [List.getElem?_map] at h
  cases e : l[i]? with
  | none =>
    rw [e] at h
    cases h
  | some y =>
    rw [e] at h
    exact ⟨y, rfl, (Option.some.inj h).symm⟩
theorem map_get {α β : Type} {f : α → β} {l : List α} {i : Nat} {x : α} (h : l[i]? = some x) : (l.map f)[i]? = some (f x) := by
  rw [List.getElem?_map, h]
  rfl
theorem fm_map {α : Type} (h : Nat → α) (n : Nat) : (List.range n).filterMap (fun i => some (h i)) = (List.range n).map h := by
  induction List.range n with
  | nil => rfl
  | cons a l ih => rw [List.filterMap_cons, List.map_cons, ih]
theorem fm_filter {α : Type} (p : Nat → Bool) (h : Nat → α) (l : List Nat) : l.filterMap (fun i => if p i = true then some (h i) else none) = (l.filter p).map h := by
  induction l with
  | nil => rfl
  | cons a l ih =>
    rw [List.filterMap_cons, List.filter_cons]
    by_cases q : p a = true
    · rw [if_pos q, if_pos q, List.map_cons, ih]
    · rw [if_neg q, if_neg q, ih]
/-! ### comprehensions by kind -/
abbrev LcGoal (J : It) (g : TG) (tt : TT) (te : TE) (vs : List Nat) (σ : L2.St) (H1 : Hp) (Q : Addr → Hp → Prop) : Prop :=
  ∀ D, H1 D = none → ∃ W : Nat → Nat → Hp → Prop, (∃ m, W 0 m (upd H1 D (.lst []))) ∧ ∀ i m H, W i m H →
      (J.stop i H ∧ Q D H) ∨ (J.go i H ∧ ∃ Nx : Hp → Prop, (∀ H', Nx H' → ∃ m', m' < m ∧ W (i + 1) m' H') ∧ ∀ x H', J.yld i H x H' → g x (wipe σ vs) H' fun σ2 H2 => wipe σ2 vs = wipe σ vs ∧ tt σ2 H2 fun b H3 =>
        if b = true then te σ2 H3 fun y H4 => ∃ acc, H4 D = some (.lst acc) ∧ acc.length < sizeLine ∧ Nx (upd H4 D (.lst (acc ++ [y]))) else Nx H3)
/-- what one turn has to do -/
abbrev LcStep (g : TG) (tt : TT) (te : TE) (vs : List Nat) (σ : L2.St) (x : V) (H : Hp) (fi : Option V) : Prop :=
  ∀ (N : Option V → Hp → Prop), (∀ y H', fi = some y → Same H H' → N (some y) H') → (∀ H', fi = none → Same H H' → N none H') →
    g x (wipe σ vs) H fun σ2 H2 => wipe σ2 vs = wipe σ vs ∧ tt σ2 H2 fun b H3 => if b = true then te σ2 H3 fun y H4 => N (some y) H4 else N none H3
theorem lcR {n : Nat} {H1 : Hp} {g : TG} {tt : TT} {te : TE} {vs : List Nat} {σ : L2.St} {Q : Addr → Hp → Prop} (f : Nat → Option V) (hn : n ≤ 1000) (step : ∀ i H, i < n → Same H1 H → LcStep g tt te vs σ (vi i) H (f i))
    (hd : ∀ D H, H1 D = none → Same H1 H → H D = some (.lst ((List.range n).filterMap f)) → Q D H) : LcGoal (Itr 0 n) g tt te vs σ H1 Q := by
  refine lcG (Q := fun v H => match v with | .ref D => Q D H | _ => True) (fun i x _ => x = vi i) f hn (fun i H hi _ => hi) (fun H _ => Nat.le_refl _) (fun i H x H' hi _ hy => ?_) (fun i x H N hi sm hy k => ?_) hd
  · obtain ⟨rfl, e⟩ := hy
    refine ⟨Same.refl _, ?_⟩
    rw [e, Int.zero_add]
  · rw [hy]
    exact step i H hi sm N (fun y H' e s => e ▸ k H' s) (fun H' e s => e ▸ k H' s)
theorem lcL {K : PySem.W.Frag} {a : Addr} {xs : List V} {H1 : Hp} {g : TG} {tt : TT} {te : TE} {vs : List Nat} {σ : L2.St} {Q : Addr → Hp → Prop} (f : Nat → Option V) (hx : SqL K H1 a xs) (hn : xs.length ≤ 1000) (step : ∀ i x H, xs[i]? = some x → Same H1 H → LcStep g tt te vs σ x H (f i))
    (hd : ∀ D H, H1 D = none → Same H1 H → H D = some (.lst ((List.range xs.length).filterMap f)) → Q D H) : LcGoal (Itl K a) g tt te vs σ H1 Q := by
  refine lcG (Q := fun v H => match v with | .ref D => Q D H | _ => True) (fun i x _ => xs[i]? = some x) f hn (fun i H hi sm => ⟨xs, xs[i], sm.seq hx, List.getElem?_eq_getElem hi⟩) (fun H sm => ⟨xs, sm.seq hx, Nat.le_refl _⟩) (fun i H x H' hi sm hy => ?_) (fun i x H N hi sm hy k => ?_) hd
  · obtain ⟨rfl, e⟩ := hy
    exact ⟨Same.refl _, e _ (sm.seq hx)⟩
  · exact step i x H hy sm N (fun y H' e s => e ▸ k H' s) (fun H' e s => e ▸ k H' s)
theorem lcT {K : PySem.W.Frag} {a : Addr} {xs : List V} {H1 : Hp} {g : TG} {tt : TT} {te : TE} {vs : List Nat} {σ : L2.St} {Q : Addr → Hp → Prop} (f : Nat → Option V) (hx : SqT K H1 a xs) (hn : xs.length ≤ 1000) (step : ∀ i x H, xs[i]? = some x → Same H1 H → LcStep g tt te vs σ x H (f i))
    (hd : ∀ D H, H1 D = none → Same H1 H → H D = some (.lst ((List.range xs.length).filterMap f)) → Q D H) : LcGoal (Itt K a) g tt te vs σ H1 Q := by
  refine lcG (Q := fun v H => match v with | .ref D => Q D H | _ => True) (fun i x _ => xs[i]? = some x) f hn (fun i H hi sm => ⟨xs, xs[i], sameT sm hx, List.getElem?_eq_getElem hi⟩) (fun H sm => ⟨xs, sameT sm hx, Nat.le_refl _⟩) (fun i H x H' hi sm hy => ?_) (fun i x H N hi sm hy k => ?_) hd
  · obtain ⟨rfl, e⟩ := hy
    exact ⟨Same.refl _, e _ (sameT sm hx)⟩
  · exact step i x H hy sm N (fun y H' e s => e ▸ k H' s) (fun H' e s => e ▸ k H' s)
theorem lcE {K : PySem.W.Frag} {a : Addr} {xs : List V} {H1 : Hp} {g : TG} {tt : TT} {te : TE} {vs : List Nat} {σ : L2.St} {Q : Addr → Hp → Prop} (f : Nat → Option V) (hx : SqT K H1 a xs) (hn : xs.length ≤ 1000) (step : ∀ i x T H, xs[i]? = some x → Same H1 H → H T = some (.tup [vi i, x]) → LcStep g tt te vs σ (.ref T) H (f i))
    (hd : ∀ D H, H1 D = none → Same H1 H → H D = some (.lst ((List.range xs.length).filterMap f)) → Q D H) : LcGoal (IteT K a) g tt te vs σ H1 Q := by
  refine lcG (Q := fun v H => match v with | .ref D => Q D H | _ => True) (fun i x H => ∃ T y, x = .ref T ∧ H T = some (.tup [vi i, y]) ∧ xs[i]? = some y) f hn (fun i H hi sm => ⟨xs, xs[i], sameT sm hx, List.getElem?_eq_getElem hi⟩) (fun H sm => ⟨xs, sameT sm hx, Nat.le_refl _⟩) (fun i H x H' hi sm hy => ?_) (fun i x H N hi sm hy k => ?_) hd
  · obtain ⟨T, y, rfl, nT, rfl, e⟩ := hy
    exact ⟨sameN nT, T, y, rfl, upd_same, e _ (sameT sm hx)⟩
  · obtain ⟨T, y, rfl, hT, e⟩ := hy
    exact step i y T H e sm hT N (fun y H' e s => e ▸ k H' s) (fun H' e s => e ▸ k H' s)
theorem lcZ {K : PySem.W.Frag} {a b : Addr} {xs ys : List V} {H1 : Hp} {g : TG} {tt : TT} {te : TE} {vs : List Nat} {σ : L2.St} {Q : Addr → Hp → Prop} (f : Nat → Option V) (hx : SqT K H1 a xs) (hy : SqT K H1 b ys) (hl : xs.length = ys.length) (hn : xs.length ≤ 1000) (step : ∀ i x y T H, xs[i]? = some x → ys[i]? = some y → Same H1 H → H T = some (.tup [x, y]) → LcStep g tt te vs σ (.ref T) H (f i))
    (hd : ∀ D H, H1 D = none → Same H1 H → H D = some (.lst ((List.range xs.length).filterMap f)) → Q D H) : LcGoal (RZ.ItzT K a b) g tt te vs σ H1 Q := by
  refine lcG (Q := fun v H => match v with | .ref D => Q D H | _ => True) (fun i x H => ∃ T y z, x = .ref T ∧ H T = some (.tup [y, z]) ∧ xs[i]? = some y ∧ ys[i]? = some z) f hn (fun i H hi sm => ⟨xs, ys, xs[i], ys[i]'(hl ▸ hi), sameT sm hx, sameT sm hy, List.getElem?_eq_getElem hi, List.getElem?_eq_getElem (hl ▸ hi)⟩) (fun H sm => ⟨xs, ys, sameT sm hx, sameT sm hy, .inl (Nat.le_refl _)⟩) (fun i H x H' hi sm h => ?_) (fun i x H N hi sm h k => ?_) hd
  · obtain ⟨T, y, z, rfl, nT, rfl, e, e2⟩ := h
    exact ⟨sameN nT, T, y, z, rfl, upd_same, e _ (sameT sm hx), e2 _ (sameT sm hy)⟩
  · obtain ⟨T, y, z, rfl, hT, e, e2⟩ := h
    exact step i y z T H e e2 sm hT N (fun y H' e s => e ▸ k H' s) (fun H' e s => e ▸ k H' s)
theorem lcY {te : TE} {σ2 σ : L2.St} {vs : List Nat} {H2 : Hp} {N : Option V → Hp → Prop} (h : te σ2 H2 fun y H4 => N (some y) H4) (e : wipe σ2 vs = wipe σ vs := by rfl) :
    wipe σ2 vs = wipe σ vs ∧ tYes σ2 H2 fun b H3 => if b = true then te σ2 H3 fun y H4 => N (some y) H4 else N none H3 := ⟨e, by show if true = true then te σ2 H2 (fun y H4 => N (some y) H4) else N none H2; rw [if_pos rfl]; exact h⟩
/-- two items in a new pair, by names -/
theorem pair_nm {K : PySem.W.Frag} {T : Addr} {x y : V} {i j : Nat} {σ : L2.St} {H : Hp} {Q : L2.St → Hp → Prop} (h : SqT K H T [x, y]) (q : Q ((σ.set i (some x)).set j (some y)) H) : gTup K 2 (gCons (gName i) (gCons (gName j) gNil)) (.ref T) σ H Q :=
  ⟨T, [x, y], rfl, h, rfl, x, [y], rfl, y, [], rfl, rfl, q⟩
theorem flat_vi (l : List Nat) : (l.map vi).all flatV = true := by
  rw [List.all_eq_true]
  intro x hx
  obtain ⟨y, _, rfl⟩ := List.mem_map.mp hx
  rfl
theorem inV_vi (k : Nat) (l : List Nat) : inV (vi k) (l.map vi) = decide (k ∈ l) := by
  unfold inV
  rw [List.any_map]
  by_cases h : k ∈ l
  · rw [decide_eq_true h, List.any_eq_true]
    exact ⟨k, h, by simp [eqV]⟩
  · rw [decide_eq_false h, List.any_eq_false]
    intro x hx
    have : x ≠ k := fun e => h (e ▸ hx)
    simp [eqV]
    omega
end Mx
set_option maxHeartbeats 4000000
/-! data read as a whole: lists and tuples of numbers, tuples of such. -/
namespace Mx
open PySem PySem.Spec PyProof.Rows L2
abbrev dN (l : List Nat) : List PyData := l.map fun (k : Nat) => PyData.int (k : Int)
theorem eqv_dN : ∀ l l' : List Nat, PyData.eqvAll (dN l) (dN l') = decide (l = l')
  | [], [] => by simp [PyData.eqvAll]
  | [], _ :: _ => by simp [PyData.eqvAll]
  | _ :: _, [] => by simp [PyData.eqvAll]
  | x :: xs, y :: ys => by
    have ih := eqv_dN xs ys
    have e : PyData.eqvAll (dN (x :: xs)) (dN (y :: ys)) = (PyData.eqv (.int (x : Int)) (.int (y : Int)) && PyData.eqvAll (dN xs) (dN ys)) := by
      show PyData.eqvAll (_ :: _) (_ :: _) = _
      rw [PyData.eqvAll]
    rw [e, ih]
    have e2 : PyData.eqv (.int (x : Int)) (.int (y : Int)) = decide (x = y) := by
      simp only [PyData.eqv]
      by_cases q : x = y
      · rw [q]; simp
      · rw [decide_eq_false q]
        exact beq_eq_false_iff_ne.mpr (by omega)
    rw [e2]
    by_cases q : x = y <;> by_cases r : xs = ys <;> simp [q, r]
theorem depth_dN : ∀ l : List Nat, PyData.depthAll (dN l) = 0
  | [] => by simp [PyData.depthAll]
  | x :: xs => by
    have ih := depth_dN xs
    have e : PyData.depthAll (dN (x :: xs)) = max (PyData.depth (.int (x : Int))) (PyData.depthAll (dN xs)) := by
      show PyData.depthAll (_ :: _) = _
      rw [PyData.depthAll]
    rw [e, ih]
    simp [PyData.depth]
theorem lay_dN : ∀ l : List Nat, PyData.canLayAll0 (dN l) = true
  | [] => by simp [PyData.canLayAll0]
  | x :: xs => by
    have ih := lay_dN xs
    have e : PyData.canLayAll0 (dN (x :: xs)) = (PyData.canLay0 (.int (x : Int)) && PyData.canLayAll0 (dN xs)) := by
      show PyData.canLayAll0 (_ :: _) = _
      rw [PyData.canLayAll0]
    rw [e, ih]
    simp [PyData.canLay0]
theorem shp_t (l : List Nat) : SeqAt.shaped (.tuple (dN l)) = true := by
  unfold SeqAt.shaped
  rw [PyData.canLay0, lay_dN, PyData.depth, depth_dN]
  rfl
theorem shp_l (l : List Nat) : SeqAt.shaped (.list (dN l)) = true := by
  unfold SeqAt.shaped
  rw [PyData.canLay0, lay_dN, PyData.depth, depth_dN]
  rfl
theorem eqv_t (l l' : List Nat) : PyData.eqv (.tuple (dN l)) (.tuple (dN l')) = decide (l = l') := by
  rw [PyData.eqv, eqv_dN]
theorem eqv_l (l l' : List Nat) : PyData.eqv (.list (dN l)) (.list (dN l')) = decide (l = l') := by
  rw [PyData.eqv, eqv_dN]
theorem dp_t {K : PySem.W.Frag} {H : Hp} {a : Addr} {l : List Nat} (h : SqT K H a (l.map vi)) : Dp K H (.ref a) (.tuple (dN l)) := .tup h (dp_vis l)
theorem dp_l {K : PySem.W.Frag} {H : Hp} {a : Addr} {l : List Nat} (h : SqL K H a (l.map vi)) : Dp K H (.ref a) (.list (dN l)) := .lst h (dp_vis l)
/-- x == y, x != y, tuples of numbers -/
theorem eq_tt {K : PySem.W.Frag} {H : Hp} {a b : Addr} {l l' : List Nat} {Q : VK} (ha : SqT K H a (l.map vi)) (hb : SqT K H b (l'.map vi)) (q : Q (.bl (decide (l = l'))) H) : rEqD K (.ref a) (.ref b) H Q :=
  ⟨_, _, dp_t ha, dp_t hb, shp_t _, shp_t _, by rw [eqv_t]; exact q⟩
theorem ne_tt {K : PySem.W.Frag} {H : Hp} {a b : Addr} {l l' : List Nat} {Q : VK} (ha : SqT K H a (l.map vi)) (hb : SqT K H b (l'.map vi)) (q : Q (.bl (!decide (l = l'))) H) : rNeD K (.ref a) (.ref b) H Q :=
  ⟨_, _, dp_t ha, dp_t hb, shp_t _, shp_t _, by rw [eqv_t]; exact q⟩
theorem eq_ll {K : PySem.W.Frag} {H : Hp} {a b : Addr} {l l' : List Nat} {Q : VK} (ha : SqL K H a (l.map vi)) (hb : SqL K H b (l'.map vi)) (q : Q (.bl (decide (l = l'))) H) : rEqD K (.ref a) (.ref b) H Q :=
  ⟨_, _, dp_l ha, dp_l hb, shp_l _, shp_l _, by rw [eqv_l]; exact q⟩
theorem ne_ll {K : PySem.W.Frag} {H : Hp} {a b : Addr} {l l' : List Nat} {Q : VK} (ha : SqL K H a (l.map vi)) (hb : SqL K H b (l'.map vi)) (q : Q (.bl (!decide (l = l'))) H) : rNeD K (.ref a) (.ref b) H Q :=
  ⟨_, _, dp_l ha, dp_l hb, shp_l _, shp_l _, by rw [eqv_l]; exact q⟩
/-- lists of ints that are numbers -/
theorem asc_ints {ns : List Int} {l : List Nat} (h : ns.Pairwise (· < ·)) (hl : l.Pairwise (· < ·)) (hm : ∀ k : Int, k ∈ ns ↔ decide (k ∈ l.map Int.ofNat) = true) : ns = l.map Int.ofNat := by
  have hl' : (l.map Int.ofNat).Pairwise (· < ·) := by
    rw [List.pairwise_map]
    exact hl.imp fun h => Int.ofNat_lt.mpr h
  refine List.Perm.eq_of_pairwise (le := (· < ·)) (fun a b _ _ h1 h2 => absurd h1 (Int.not_lt.mpr (Int.le_of_lt h2))) h hl' ((List.perm_ext_iff_of_nodup (h.imp fun h => Int.ne_of_lt h) (hl'.imp fun h => Int.ne_of_lt h)).mpr fun k => ?_)
  rw [hm k]
  simp
theorem perm_ints {ns : List Int} {l : List Nat} (p : ns.Perm (l.map Int.ofNat)) (h : ns.Pairwise (· ≤ ·)) : ns = (srt l).map Int.ofNat := by
  have hl' : ((srt l).map Int.ofNat).Pairwise (· ≤ ·) := by
    rw [List.pairwise_map]
    exact (srt_asc l).imp fun h => Int.ofNat_le.mpr h
  exact List.Perm.eq_of_pairwise (le := (· ≤ ·)) (fun a b _ _ h1 h2 => Int.le_antisymm h1 h2) h hl' (p.trans ((srt_perm l).symm.map _))
theorem srt_of_asc {l : List Nat} (h : l.Pairwise (· < ·)) : srt l = l := (eq_srt (.refl _) (h.imp fun h => Nat.le_of_lt h)).symm
end Mx
set_option maxHeartbeats 4000000
/-! comprehensions whose items are new things; near's rows while they grow. -/
namespace Mx
open PySem PySem.Spec PyProof.Rows L2
inductive F2 {α β : Type} (R : α → β → Prop) : List α → List β → Prop
  | nil : F2 R [] []
  | cons {a b l m} : R a b → F2 R l m → F2 R (a :: l) (b :: m)
theorem F2.imp {α β : Type} {R S : α → β → Prop} (h : ∀ a b, R a b → S a b) : ∀ {l m}, F2 R l m → F2 S l m
  | _, _, .nil => .nil
  | _, _, .cons x t => .cons (h _ _ x) (t.imp h)
theorem F2.append {α β : Type} {R : α → β → Prop} : ∀ {l m l' m'}, F2 R l m → F2 R l' m' → F2 R (l ++ l') (m ++ m')
  | _, _, _, _, .nil, h => h
  | _, _, _, _, .cons x t, h => .cons x (t.append h)
theorem F2.len {α β : Type} {R : α → β → Prop} : ∀ {l m}, F2 R l m → l.length = m.length
  | _, _, .nil => rfl
  | _, _, .cons x t => congrArg (· + 1) t.len
theorem F2.right {α β : Type} {R : α → β → Prop} : ∀ {l m} {b : β}, F2 R l m → b ∈ m → ∃ a, a ∈ l ∧ R a b
  | _, _, _, .cons x t, h => by
    rcases List.mem_cons.mp h with rfl | h
    · exact ⟨_, by simp, x⟩
    · obtain ⟨a, h1, h2⟩ := t.right h
      exact ⟨a, List.mem_cons_of_mem _ h1, h2⟩
theorem F2.left {α β : Type} {R : α → β → Prop} : ∀ {l m} {a : α}, F2 R l m → a ∈ l → ∃ b, b ∈ m ∧ R a b
  | _, _, _, .cons x t, h => by
    rcases List.mem_cons.mp h with rfl | h
    · exact ⟨_, by simp, x⟩
    · obtain ⟨a, h1, h2⟩ := t.left h
      exact ⟨a, List.mem_cons_of_mem _ h1, h2⟩
theorem F2.get {α β : Type} {R : α → β → Prop} : ∀ {l m} {i : Nat} {a : α}, F2 R l m → l[i]? = some a → ∃ b, m[i]? = some b ∧ R a b
  | _, _, 0, _, .cons x t, h => by
    cases h
    exact ⟨_, rfl, x⟩
  | _, _, i + 1, _, .cons x t, h => t.get (i := i) (by simpa using h)
theorem F2.getR {α β : Type} {R : α → β → Prop} : ∀ {l m} {i : Nat} {b : β}, F2 R l m → m[i]? = some b → ∃ a, l[i]? = some a ∧ R a b
  | _, _, 0, _, .cons x t, h => by
    cases h
    exact ⟨_, rfl, x⟩
  | _, _, i + 1, _, .cons x t, h => t.getR (i := i) (by simpa using h)
theorem F2.map_eq {α β γ : Type} {f : α → γ} {g : β → γ} : ∀ {l : List α} {m : List β}, F2 (fun a b => f a = g b) l m → l.map f = m.map g
  | _, _, .nil => rfl
  | _, _, .cons x t => by rw [List.map_cons, List.map_cons, x, t.map_eq]
theorem lcX {J : It} {n : Nat} {H1 : Hp} {g : TG} {tt : TT} {te : TE} {vs : List Nat} {σ : L2.St} {Q : Addr → Hp → Prop} {β : Type} (val : β → V) (p : Nat → Bool) (R : Addr → Nat → β → Hp → Prop)
    (hR : ∀ D i b H H', R D i b H → ExD D H H' → R D i b H') (Y : Nat → V → Hp → Prop) (hn : n ≤ 1000)
    (go : ∀ i H, i < n → Same H1 H → J.go i H) (stop : ∀ H, Same H1 H → J.stop n H) (yl : ∀ i H x H', i < n → Same H1 H → J.yld i H x H' → Same H H' ∧ Y i x H')
    (step : ∀ D i x H (N : Option V → Hp → Prop), H1 D = none → (∃ acc, H D = some (.lst acc)) → i < n → Same H1 H → Y i x H → (∀ b H', p i = true → Same H H' → R D i b H' → N (some (val b)) H') → (∀ H', p i = false → Same H H' → N none H') →
      g x (wipe σ vs) H fun σ2 H2 => wipe σ2 vs = wipe σ vs ∧ tt σ2 H2 fun b H3 => if b = true then te σ2 H3 fun y H4 => N (some y) H4 else N none H3)
    (hd : ∀ D H bs, H1 D = none → Same H1 H → H D = some (.lst (bs.map val)) → F2 (fun i b => R D i b H) ((List.range n).filter p) bs → Q D H) : LcGoal J g tt te vs σ H1 Q := by
  intro D nD
  refine ⟨fun i m H => m = n - i ∧ i ≤ n ∧ Same H1 H ∧ ∃ bs : List β, H D = some (.lst (bs.map val)) ∧ F2 (fun i b => R D i b H) ((List.range i).filter p) bs, ⟨n, rfl, Nat.zero_le _, sameN nD, [], upd_same, .nil⟩, ?_⟩
  rintro i m H ⟨rfl, hi, sm, bs, hD, hF⟩
  by_cases hlt : i < n
  · refine .inr ⟨go i H hlt sm, fun H' => Same H1 H' ∧ ∃ bs : List β, H' D = some (.lst (bs.map val)) ∧ F2 (fun i b => R D i b H') ((List.range (i + 1)).filter p) bs, fun H' ⟨a, b⟩ => ⟨n - (i + 1), by omega, rfl, hlt, a, b⟩, fun x H' hy => ?_⟩
    obtain ⟨s1, y1⟩ := yl i H x H' hlt sm hy
    have hD' : H' D = some (.lst (bs.map val)) := s1 _ _ hD
    refine step D i x H' (fun o H4 => match o with
      | some y => ∃ acc, H4 D = some (.lst acc) ∧ acc.length < sizeLine ∧ (Same H1 (upd H4 D (.lst (acc ++ [y]))) ∧ ∃ bs : List β, (upd H4 D (.lst (acc ++ [y]))) D = some (.lst (bs.map val)) ∧ F2 (fun i b => R D i b (upd H4 D (.lst (acc ++ [y])))) ((List.range (i + 1)).filter p) bs)
      | none => Same H1 H4 ∧ ∃ bs : List β, H4 D = some (.lst (bs.map val)) ∧ F2 (fun i b => R D i b H4) ((List.range (i + 1)).filter p) bs) nD ⟨_, hD'⟩ hlt (sm.trans s1) y1 (fun b H4 hp s4 hb => ?_) (fun H4 hp s4 => ?_)
    · have hD4 : H4 D = some (.lst (bs.map val)) := s4 _ _ hD'
      have sm4 : Same H1 H4 := sm.trans (s1.trans s4)
      refine ⟨_, hD4, ?_, ExD.of_new sm4 nD exD_upd, bs ++ [b], by rw [upd_same, List.map_append]; rfl, ?_⟩
      · rw [List.length_map, ← hF.len]
        have := List.length_filter_le p (List.range i)
        rw [List.length_range] at this
        exact small1000 (by omega)
      · rw [List.range_succ, List.filter_append, List.filter_cons_of_pos hp]
        exact (hF.imp fun a b h => hR _ _ _ _ _ h ((Mx.Same.exD (D := D) (s1.trans s4)).trans exD_upd)).append (.cons (hR _ _ _ _ _ hb exD_upd) .nil)
    · refine ⟨sm.trans (s1.trans s4), bs, s4 _ _ hD', ?_⟩
      rw [List.range_succ, List.filter_append, List.filter_cons_of_neg (by rw [hp]; exact Bool.false_ne_true), List.filter_nil, List.append_nil]
      exact hF.imp fun a b h => hR _ _ _ _ _ h (Mx.Same.exD (s1.trans s4))
  · have e : i = n := by omega
    subst e
    exact .inl ⟨stop H sm, hd D H bs nD sm hD hF⟩
/-- .. over a list -/
theorem lcXL {K : PySem.W.Frag} {a : Addr} {xs : List V} {H1 : Hp} {g : TG} {tt : TT} {te : TE} {vs : List Nat} {σ : L2.St} {Q : Addr → Hp → Prop} {β : Type} (val : β → V) (p : Nat → Bool) (R : Addr → Nat → β → Hp → Prop)
    (hR : ∀ D i b H H', R D i b H → ExD D H H' → R D i b H') (hx : SqL K H1 a xs) (hn : xs.length ≤ 1000)
    (step : ∀ D i x H (N : Option V → Hp → Prop), H1 D = none → (∃ acc, H D = some (.lst acc)) → xs[i]? = some x → Same H1 H → (∀ b H', p i = true → Same H H' → R D i b H' → N (some (val b)) H') → (∀ H', p i = false → Same H H' → N none H') →
      g x (wipe σ vs) H fun σ2 H2 => wipe σ2 vs = wipe σ vs ∧ tt σ2 H2 fun b H3 => if b = true then te σ2 H3 fun y H4 => N (some y) H4 else N none H3)
    (hd : ∀ D H bs, H1 D = none → Same H1 H → H D = some (.lst (bs.map val)) → F2 (fun i b => R D i b H) ((List.range xs.length).filter p) bs → Q D H) : LcGoal (Itl K a) g tt te vs σ H1 Q := by
  refine lcX val p R hR (fun i x _ => xs[i]? = some x) hn (fun i H hi sm => ⟨xs, xs[i], sm.seq hx, List.getElem?_eq_getElem hi⟩) (fun H sm => ⟨xs, sm.seq hx, Nat.le_refl _⟩) (fun i H x H' hi sm hy => ?_) (fun D i x H N nD hD hi sm hy k1 k2 => step D i x H N nD hD hy sm k1 k2) hd
  obtain ⟨rfl, e⟩ := hy
  exact ⟨Same.refl _, e _ (sm.seq hx)⟩
theorem filt_true {α : Type} (l : List α) : (l.filter fun _ => true) = l := List.filter_eq_self.mpr fun _ _ => rfl
/-! ### dicts made by a comprehension -/
theorem merge_snoc (kvs : List (Key × V)) (l : List (Key × V)) (k : Key) (v : V) : mergeK kvs (l ++ [(k, v)]) = putK (mergeK kvs l) k v := by
  unfold mergeK
  rw [List.foldl_append]
  rfl
theorem merge_len : ∀ (l kvs : List (Key × V)), (mergeK kvs l).length ≤ kvs.length + l.length
  | [], kvs => Nat.le_refl _
  | (k, v) :: l, kvs => by
    have h := merge_len l (putK kvs k v)
    have h2 := length_putK kvs k v
    show (mergeK (putK kvs k v) l).length ≤ _
    rw [List.length_cons]
    omega
theorem merge_out : ∀ (l kvs : List (Key × V)) (k : Key), k ∉ l.map (·.1) → valV (mergeK kvs l) k = valV kvs k
  | [], kvs, k, _ => rfl
  | (j, v) :: l, kvs, k, h => by
    have h1 : k ≠ j := fun e => h (by rw [e]; simp)
    have h2 : k ∉ l.map (·.1) := fun e => h (by rw [List.map_cons]; exact List.mem_cons_of_mem _ e)
    show valV (mergeK (putK kvs j v) l) k = _
    rw [merge_out l _ k h2, valV_put, if_neg h1]
theorem merge_in : ∀ (l kvs : List (Key × V)) (k : Key) (v : V), k ∈ l.map (·.1) → (∀ x, (k, x) ∈ l → x = v) → valV (mergeK kvs l) k = some v
  | [], kvs, k, v, h, _ => by simp at h
  | (j, y) :: l, kvs, k, v, h, hv => by
    show valV (mergeK (putK kvs j y) l) k = _
    by_cases h2 : k ∈ l.map (·.1)
    · exact merge_in l _ k v h2 fun x hx => hv x (List.mem_cons_of_mem _ hx)
    · rw [merge_out l _ k h2, valV_put]
      have e : k = j := by
        rw [List.map_cons] at h
        rcases List.mem_cons.mp h with h | h
        · exact h
        · exact absurd h h2
      rw [if_pos e, hv y (by rw [e]; simp)]
abbrev DcGoal (J : It) (g : TG) (tt : TT) (tk tv : TE) (vs : List Nat) (σ : L2.St) (H1 : Hp) (Q : Addr → Hp → Prop) : Prop :=
  ∀ D, H1 D = none → ∃ W : Nat → Nat → Hp → Prop, (∃ m, W 0 m (upd H1 D (.dK []))) ∧ ∀ i m H, W i m H →
  (J.stop i H ∧ Q D H) ∨ (J.go i H ∧ ∃ Nx : Hp → Prop, (∀ H', Nx H' → ∃ m', m' < m ∧ W (i + 1) m' H') ∧ ∀ x H', J.yld i H x H' → g x (wipe σ vs) H' fun σ2 H2 => wipe σ2 vs = wipe σ vs ∧ tt σ2 H2 fun b H3 =>
    if b = true then tk σ2 H3 fun y H4 => tv σ2 H4 fun z H5 => ∃ kvs k, y = kV k ∧ H5 D = some (.dK kvs) ∧ kvs.length < sizeLine ∧ Nx (upd H5 D (.dK (putK kvs k z))) else Nx H3)
/-- over a tuple or a list: key and value by place -/
theorem dcG {J : It} {n j : Nat} {H1 : Hp} {tk tv : TE} {vs : List Nat} {σ : L2.St} {Q : Addr → Hp → Prop} (Y : Nat → V → Prop) (f : Nat → Key × V) (hn : n ≤ 1000)
    (go : ∀ i H, i < n → Same H1 H → J.go i H) (stop : ∀ H, Same H1 H → J.stop n H) (yl : ∀ i H x H', i < n → Same H1 H → J.yld i H x H' → Same H H' ∧ Y i x) (hw : ∀ x, wipe ((wipe σ vs).set j (some x)) vs = wipe σ vs)
    (step : ∀ i x H (N : V → V → Hp → Prop), i < n → Same H1 H → Y i x → (∀ H', Same H H' → N (kV (f i).1) (f i).2 H') → tk ((wipe σ vs).set j (some x)) H fun y H4 => tv ((wipe σ vs).set j (some x)) H4 fun z H5 => N y z H5)
    (hd : ∀ D H, H1 D = none → Same H1 H → H D = some (.dK (mergeK [] ((List.range n).map f))) → Q D H) : DcGoal J (gName j) tYes tk tv vs σ H1 Q := by
  intro D nD
  refine ⟨fun i m H => m = n - i ∧ i ≤ n ∧ Same H1 H ∧ H D = some (.dK (mergeK [] ((List.range i).map f))), ⟨n, rfl, Nat.zero_le _, sameN nD, upd_same⟩, ?_⟩
  rintro i m H ⟨rfl, hi, sm, hD⟩
  by_cases hlt : i < n
  · refine .inr ⟨go i H hlt sm, fun H' => Same H1 H' ∧ H' D = some (.dK (mergeK [] ((List.range (i + 1)).map f))), fun H' ⟨a, b⟩ => ⟨n - (i + 1), by omega, rfl, hlt, a, b⟩, fun x H' hy => ?_⟩
    obtain ⟨s1, y1⟩ := yl i H x H' hlt sm hy
    refine ⟨hw x, ?_⟩
    simp only [tYes, ↓reduceIte]
    refine step i x H' _ hlt (sm.trans s1) y1 fun H4 s4 => ?_
    have hD4 := s4 _ _ (s1 _ _ hD)
    refine ⟨_, (f i).1, rfl, hD4, ?_, ExD.of_new (sm.trans (s1.trans s4)) nD exD_upd, ?_⟩
    · have := merge_len ((List.range i).map f) []
      rw [List.length_map, List.length_range] at this
      exact small1000 (by simp at this; omega)
    · rw [upd_same, List.range_succ, List.map_append]
      exact congrArg (fun z => some (HO.dK z)) (merge_snoc _ _ _ _).symm
  · have e : i = n := by omega
    subst e
    exact .inl ⟨stop H sm, hd D H nD sm hD⟩
theorem dcL {K : PySem.W.Frag} {a : Addr} {xs : List V} {j : Nat} {H1 : Hp} {tk tv : TE} {vs : List Nat} {σ : L2.St} {Q : Addr → Hp → Prop} (f : Nat → Key × V) (hx : SqL K H1 a xs) (hn : xs.length ≤ 1000) (hw : ∀ x, wipe ((wipe σ vs).set j (some x)) vs = wipe σ vs)
    (step : ∀ i x H (N : V → V → Hp → Prop), xs[i]? = some x → Same H1 H → (∀ H', Same H H' → N (kV (f i).1) (f i).2 H') → tk ((wipe σ vs).set j (some x)) H fun y H4 => tv ((wipe σ vs).set j (some x)) H4 fun z H5 => N y z H5)
    (hd : ∀ D H, H1 D = none → Same H1 H → H D = some (.dK (mergeK [] ((List.range xs.length).map f))) → Q D H) : DcGoal (Itl K a) (gName j) tYes tk tv vs σ H1 Q := by
  refine dcG (fun i x => xs[i]? = some x) f hn (fun i H hi sm => ⟨xs, xs[i], sm.seq hx, List.getElem?_eq_getElem hi⟩) (fun H sm => ⟨xs, sm.seq hx, Nat.le_refl _⟩) (fun i H x H' hi sm hy => ?_) hw (fun i x H N hi sm hy k => step i x H N hy sm k) hd
  obtain ⟨rfl, e⟩ := hy
  exact ⟨Same.refl _, e _ (sm.seq hx)⟩
theorem dcT {K : PySem.W.Frag} {a : Addr} {xs : List V} {j : Nat} {H1 : Hp} {tk tv : TE} {vs : List Nat} {σ : L2.St} {Q : Addr → Hp → Prop} (f : Nat → Key × V) (hx : SqT K H1 a xs) (hn : xs.length ≤ 1000) (hw : ∀ x, wipe ((wipe σ vs).set j (some x)) vs = wipe σ vs)
    (step : ∀ i x H (N : V → V → Hp → Prop), xs[i]? = some x → Same H1 H → (∀ H', Same H H' → N (kV (f i).1) (f i).2 H') → tk ((wipe σ vs).set j (some x)) H fun y H4 => tv ((wipe σ vs).set j (some x)) H4 fun z H5 => N y z H5)
    (hd : ∀ D H, H1 D = none → Same H1 H → H D = some (.dK (mergeK [] ((List.range xs.length).map f))) → Q D H) : DcGoal (Itt K a) (gName j) tYes tk tv vs σ H1 Q := by
  refine dcG (fun i x => xs[i]? = some x) f hn (fun i H hi sm => ⟨xs, xs[i], sameT sm hx, List.getElem?_eq_getElem hi⟩) (fun H sm => ⟨xs, sameT sm hx, Nat.le_refl _⟩) (fun i H x H' hi sm hy => ?_) hw (fun i x H N hi sm hy k => step i x H N hy sm k) hd
  obtain ⟨rfl, e⟩ := hy
  exact ⟨Same.refl _, e _ (sameT sm hx)⟩
/-! ### rows that grow -/
structure RwM (H0 H : Hp) (F : Addr) (as : List Addr) (rows : List (List Nat)) : Prop where
  hF : H F = some (.lst (as.map V.ref))
  nF : H0 F = none
  nd : as.Nodup
  out : F ∉ as
  new : ∀ a, a ∈ as → H0 a = none
  sm : Same H0 H
  len : as.length = rows.length
  row : ∀ i p, as[i]? = some p → H p = some (.lst ((rows.getD i []).map vi))
theorem RwM.step {H0 H : Hp} {F p : Addr} {as : List Addr} {rows : List (List Nat)} {x y : Nat} (M : RwM H0 H F as rows) (hp : as[x]? = some p) : RwM H0 (upd H p (.lst ((rows.getD x []).map vi ++ [vi y]))) F as (rows.set x (rows.getD x [] ++ [y])) := by
  have hx := (List.getElem?_eq_some_iff.mp hp).1
  have hm : p ∈ as := List.mem_of_getElem? hp
  refine ⟨?_, M.nF, M.nd, M.out, M.new, fun b o e => ?_, by rw [List.length_set]; exact M.len, fun i q hq => ?_⟩
  · rw [upd_ne (fun e : F = p => M.out (by rw [e]; exact hm))]
    exact M.hF
  · rw [upd_ne (ne_of_none e (M.new p hm))]
    exact M.sm b o e
  · by_cases e : i = x
    · subst e
      rw [hp] at hq
      cases hq
      rw [upd_same, List.getD_eq_getElem?_getD (l := List.set _ _ _), List.getElem?_set_self (by rw [← M.len]; exact hx), Option.getD_some, List.map_append]
      rfl
    · have hne : q ≠ p := fun z => e (by
        have h1 := (List.getElem?_eq_some_iff.mp hq)
        have h2 := (List.getElem?_eq_some_iff.mp hp)
        exact nd_ix M.nd hq (z ▸ hp))
      rw [upd_ne hne, M.row i q hq, List.getD_eq_getElem?_getD, List.getD_eq_getElem?_getD, List.getElem?_set_ne (Ne.symm e)]
theorem RwM.rws {K : PySem.W.Frag} {H0 H : Hp} {F : Addr} {as : List Addr} {rows : List (List Nat)} (M : RwM H0 H F as rows) : Rws K H F rows :=
  ⟨as, SqL.of M.hF, M.len, fun i hi => ⟨as[i]'(by rw [M.len]; exact hi), List.getElem?_eq_getElem _, SqL.of (M.row i _ (List.getElem?_eq_getElem _))⟩⟩
theorem near_new {n j : Nat} {H0 : Hp} {vs : List Nat} {σ : L2.St} {Q : Addr → Hp → Prop} (hn : n ≤ 1000) (hw : ∀ x, wipe ((wipe σ vs).set j (some x)) vs = wipe σ vs) (hd : ∀ F as H, RwM H0 H F as (nearU n []) → Q F H) : LcGoal (Itr 0 n) (gName j) tYes (tLst tNil) vs σ H0 Q := by
  intro D nD
  refine ⟨fun i m H => m = n - i ∧ i ≤ n ∧ Same H0 H ∧ ∃ as : List Addr, H D = some (.lst (as.map V.ref)) ∧ as.length = i ∧ as.Nodup ∧ D ∉ as ∧ ∀ a, a ∈ as → H0 a = none ∧ H a = some (.lst []), ⟨n, rfl, Nat.zero_le _, sameN nD, [], upd_same, rfl, .nil, by simp, by simp⟩, ?_⟩
  rintro i m H ⟨rfl, hi, sm, as, hD, hl, nd, out, new⟩
  by_cases hlt : i < n
  · refine .inr ⟨hlt, fun H' => Same H0 H' ∧ ∃ as : List Addr, H' D = some (.lst (as.map V.ref)) ∧ as.length = i + 1 ∧ as.Nodup ∧ D ∉ as ∧ ∀ a, a ∈ as → H0 a = none ∧ H' a = some (.lst []), fun H' ⟨a, b⟩ => ⟨n - (i + 1), by omega, rfl, hlt, a, b⟩, fun x H' hy => ?_⟩
    obtain ⟨rfl, rfl⟩ := hy
    refine ⟨hw _, ?_⟩
    simp only [tYes, ↓reduceIte]
    refine ⟨Nat.zero_le _, fun p np => ?_⟩
    have hpD : p ≠ D := fun e => by rw [e, hD] at np; cases np
    have hpa : p ∉ as := fun e => by rw [(new p e).2] at np; cases np
    refine ⟨as.map V.ref, by rw [upd_ne (Ne.symm hpD)]; exact hD, by rw [List.length_map, hl]; exact small1000 (by omega), ?_, as ++ [p], by rw [upd_same, List.map_append]; rfl, by rw [List.length_append, hl]; rfl, ?_, ?_, fun a ha => ?_⟩
    · exact ExD.of_new (sm.trans (sameN np)) nD exD_upd
    · exact List.nodup_append.mpr ⟨nd, by simp, fun a ha b hb => by
        have : b = p := by simpa using hb
        rw [this]
        exact fun e => hpa (e ▸ ha)⟩
    · intro q
      rcases List.mem_append.mp q with q | q
      · exact out q
      · have e : D = p := by simpa using q
        exact hpD e.symm
    · rcases List.mem_append.mp ha with q | q
      · have := new a q
        rw [upd_ne (fun e : a = D => out (by rw [← e]; exact q)), upd_ne (fun e : a = p => hpa (by rw [← e]; exact q))]
        exact this
      · have e : a = p := by simpa using q
        subst e
        exact ⟨sm.free np, by rw [upd_ne hpD, upd_same]⟩
  · have e : i = n := by omega
    subst e
    refine .inl ⟨Nat.le_refl _, hd D as H ⟨hD, nD, nd, out, fun a ha => (new a ha).1, sm, by rw [hl]; unfold nearU; rw [List.length_map, List.length_range], fun z p hp => ?_⟩⟩
    rw [(new p (List.mem_of_getElem? hp)).2]
    have : ∀ m, (nearU m []).getD z [] = [] := fun m => by
      unfold nearU
      rw [getD_map_range]
      by_cases q : z < m <;> simp [q, nb]
    rw [this]
    rfl
end Mx
set_option maxHeartbeats 4000000
/-! name = {..: .. for ..} on one line, the name a local. -/
namespace Mx
open PySem PySem.Spec PyProof.Rows L2
theorem ps_setDc {X : Cx} {i : Nat} {y : Str} {py : Pos} {kx vx tg iter : Expr} {ifs : List Expr} {scope : Scope} {own : List (Str × Nat)} {pos spos : Pos} {wi : TI} {g : TG} {tt : TT} {tk tv : TE} (hc : X.calm = true) (hN : X.N.Nodup) (hy : X.N[i]? = some y) (hyl : X.env.scope.names.lookup y = some .local)
    (hsw : swapsWith (.DictComp kx vx [⟨tg, iter, ifs, 0⟩] scope pos) (some (.Name y py)) spos.line X.env = pure true) (hi : PI X tg iter wi) (ok : BlkOk X.N X.env.scope scope own)
    (hg : ∀ (s : Shared) (H : Hp) (C : Addr) (cl : List (Str × Addr)) (fp : List Addr), PG (X.blk s H scope (compEnvC scope cl C X.env) fp) tg g) (ht : ∀ (s : Shared) (H : Hp) (C : Addr) (cl : List (Str × Addr)) (fp : List Addr), PTs (X.blk s H scope (compEnvC scope cl C X.env) fp) ifs tt)
    (hk : ∀ (s : Shared) (H : Hp) (C : Addr) (cl : List (Str × Addr)) (fp : List Addr), PE (X.blk s H scope (compEnvC scope cl C X.env) fp) kx tk)
    (he : ∀ (s : Shared) (H : Hp) (C : Addr) (cl : List (Str × Addr)) (fp : List Addr), PE (X.blk s H scope (compEnvC scope cl C X.env) fp) vx tv) (hs : ∀ x, foldedSetIterable iter X.env x = pure x := by intro _; rfl) :
    PS X (.Assign [.Name y py] (.DictComp kx vx [⟨tg, iter, ifs, 0⟩] scope pos) spos) (tAsg (tDc wi g tt tk tv (own.map (·.2))) (gName i)) := by
  refine ⟨fun pins s σ H D I h => ?_⟩
  rw [exec_Assign_Name_used _ _ _ _ hsw]
  refine wpAny_bind (wpAny_standAt (wpAny_bind ?_))
  show wpAny _ X.A (do let _ ← comprehension (.DictComp kx vx [⟨tg, iter, ifs, 0⟩] scope pos) scope X.env (firstIterPos [⟨tg, iter, ifs, 0⟩] pos) newDict false (eval iter X.env) (some (assign (.Name y py) X.env))) _ _ s
  have h : tDc wi g tt tk tv (own.map (·.2)) σ H (fun x H1 => gName i x σ H1 D.nx) := h
  refine wpAny_bind (thn (dc_core (Qf := fun _ s' => SP X pins D .next s') hc hN I hi ok hg ht hk he hs h fun L C s' m H' I' q hn f => ?_) fun _ s' hq => wpAny_pure (wpAny_pure hq))
  show wpAny _ _ (assign (.Name y py) X.env (.ref L)) _ _ _
  refine wpAny_assign_Name (store_ok2 (v := V.ref L) I' hN hy (.inl hyl) rfl (fun s2 I2 ⟨a, sb, ha⟩ => ?_) (.inr hyl))
  obtain ⟨f0, f1, f2, f3, f4, f5⟩ := f
  have haC : C ≠ a := by
    rcases ha with z | z
    · rw [z]; exact f1
    · exact fun e => f4 y a z e.symm
  refine ⟨m, hn.sameBut sb haC, fun h3 sb3 => ?_⟩
  exact ⟨_, H', I2.turned (t' := s2.toks) (fun b o hb e => (sb3.2 b hb).trans e) f0 f1 f3 f4 f5, q⟩
theorem swD_true {kx vx : Expr} {gs : List Comprehension} {scope : Scope} {pos py : Pos} {y : Str} {l : Nat} {env : Env} (hk : env.scope.kind = .function) (hy : env.scope.names.lookup y = some .local) (hl : (py.line == pos.line) = true)
    (ha : (scope.names.any fun (n, k) => n == y && (k == .local || k == .cell)) = false) : swapsWith (.DictComp kx vx gs scope pos) (some (.Name y py)) l env = pure true := by
  have ky : env.kindOf y = some .local := hy
  have hb : env.blockKind = .function := by unfold Env.blockKind; rw [hk]; rfl
  unfold swapsWith
  simp only [hb, ky, ha, Expr.pos, hl]
  rfl
end Mx
set_option maxHeartbeats 4000000
namespace Mx
open PySem PySem.Spec PyProof.Rows L2
/-- global numbers -/
structure Gz (mg : Str → Option Value) : Prop where
  rooms : ∃ t, mg "MOST_ROOMS" = some (.int 8 t)
  number : ∃ t, mg "MOST_NUMBER" = some (.int 60 t)
  keys : ∃ t, mg "MOST_KEYS" = some (.int 60 t)
theorem for_enumT {K : PySem.W.Frag} {a : Addr} {xs : List V} {g : TG} {tb : TS} {D : Ends} {σ : L2.St} {H : Hp} (Pv : Nat → L2.St → Hp → Prop) (h0 : Pv 0 σ H) (hl : ∀ i σ H, Pv i σ H → SqT K H a xs)
    (hs : ∀ i x T σ H, xs[i]? = some x → Pv i σ H → H T = none → g (.ref T) σ (upd H T (.tup [vi i, x])) fun σ2 H2 => tb { D with nx := Pv (i + 1), ct := Pv (i + 1), bk := D.nx } σ2 H2) (hd : ∀ σ H, Pv xs.length σ H → D.nx σ H) :
    ∃ W : Nat → Nat → L2.St → Hp → Prop, (∃ m, W 0 m σ H) ∧ ∀ i m σ H, W i m σ H →
      ((IteT K a).stop i H ∧ D.nx σ H) ∨ ((IteT K a).go i H ∧ ∃ N : L2.St → Hp → Prop, (∀ σ' H', N σ' H' → ∃ m', m' < m ∧ W (i + 1) m' σ' H') ∧ ∀ x H', (IteT K a).yld i H x H' → g x σ H' fun σ2 H2 => tb { D with nx := N, ct := N, bk := D.nx } σ2 H2) := by
  refine ⟨fun i m σ H => m = xs.length - i ∧ i ≤ xs.length ∧ Pv i σ H, ⟨_, rfl, Nat.zero_le _, h0⟩, ?_⟩
  rintro i m σ H ⟨rfl, hi, hp⟩
  have hq := hl i σ H hp
  by_cases hlt : i < xs.length
  · refine .inr ⟨⟨xs, xs[i], hq, List.getElem?_eq_getElem hlt⟩, Pv (i + 1), fun σ' H' h => ⟨xs.length - (i + 1), by omega, rfl, hlt, h⟩, ?_⟩
    rintro x H' ⟨T, y, rfl, nT, rfl, e⟩
    exact hs i y T σ H (e _ hq) hp nT
  · have e : i = xs.length := by omega
    subst e
    exact .inl ⟨⟨xs, hq, Nat.le_refl _⟩, hd σ H hp⟩
abbrev sNeedDoors : Stmt := topS 15
abbrev sNeedHouse : Stmt := topS 16
abbrev sNeedSet : Stmt := topS 17
abbrev nNeedDoors : List Str := ["size", "doors", "index", "door", "room"]
abbrev nNeedHouse : List Str := ["house"]
abbrev nNeedSet : List Str := ["house", "rooms", "room"]
theorem ndNeedDoors : nNeedDoors.Nodup := by decide +kernel
theorem ndNeedSet : nNeedSet.Nodup := by decide +kernel
theorem scNeedDoors : FnScope nNeedDoors ["size", "doors"] (defScope sNeedDoors) := ⟨rfl, rfl, rfl, by decide +kernel, rfl, by decide +kernel, by decide +kernel⟩
theorem scNeedHouse : FnScope nNeedHouse ["house"] (defScope sNeedHouse) := ⟨rfl, rfl, rfl, by decide +kernel, rfl, by decide +kernel, by decide +kernel⟩
theorem scNeedSet : FnScope nNeedSet ["house", "rooms"] (defScope sNeedSet) := ⟨rfl, rfl, rfl, by decide +kernel, rfl, by decide +kernel, by decide +kernel⟩
def spNeedDoors (K : PySem.W.Frag) : Sp := fun vs H Q _ => ∃ (n : Nat) (a : Addr) (ds : List (Nat × Nat)), vs = [vi n, .ref a] ∧ Drs K H a ds ∧ HsOk n ds ∧ ∀ H', Same H H' → Q .non H'
def spNeedHouse (K : PySem.W.Frag) : Sp := fun vs H Q _ => ∃ (n : Nat) (a : Addr) (ds : List (Nat × Nat)), vs = [.ref a] ∧ Hse K H a n ds ∧ HsOk n ds ∧ ∀ H', Same H H' → Q .non H'
def spNeedSet (K : PySem.W.Frag) : Sp := fun vs H Q _ => ∃ (n : Nat) (a b : Addr) (ds : List (Nat × Nat)) (r : List Nat), vs = [.ref a, .ref b] ∧ Hse K H a n ds ∧ HsOk n ds ∧ TN K H b r ∧ r.Pairwise (· < ·) ∧ (∀ x, x ∈ r → x < n) ∧ r.length ≤ n ∧ ∀ H', Same H H' → Q .non H'
theorem ge_pairs {a b : Nat × Nat} (h : a.1 < b.1 ∨ (a.1 = b.1 ∧ a.2 < b.2)) :
    Ob.lexAt (fun j => decide ([(a.1 : Int), (a.2 : Int)].getD j 0 = [(b.1 : Int), (b.2 : Int)].getD j 0)) (fun j => decide ([(b.1 : Int), (b.2 : Int)].getD j 0 ≤ [(a.1 : Int), (a.2 : Int)].getD j 0)) (decide (([(a.1 : Int), (a.2 : Int)] : List Int).length ≥ ([(b.1 : Int), (b.2 : Int)] : List Int).length)) 0 (min 2 2) = false := by
  rw [show min 2 2 = 1 + 1 from rfl, Ob.lexAt_succ, Ob.lexAt_succ, Ob.lexAt_zero]
  rcases h with h | ⟨h1, h2⟩
  · rw [if_neg (by simp; omega)]
    simp
    omega
  · rw [if_pos (by simp; omega), if_neg (by simp; omega)]
    simp
    omega
section
variable {P : Program} {w : World} {K : PySem.W.Frag} {mg : Str → Option Value} {base : Heap}
theorem cd_need_doors (B : Bz mg) (G : Gz mg) (D : Dfn K mg "need_doors" sNeedDoors ["size", "doors"]) (C2 : Cd P w K mg base 2 "is_in" ["value", "least", "most"] spIsIn) (C1 : Cd P w K mg base 1 "is_list" ["value", "least", "most"] (spIsList K)) :
    Cd P w K mg base 3 "need_doors" ["size", "doors"] (spNeedDoors K) := by
  refine cd_of D scNeedDoors (fun vs H Q E h => ?_) (fun f cdv A outer s H vs Q E hr h => ?_)
  · obtain ⟨n, a, ds, rfl, _⟩ := h
    rfl
  obtain ⟨n, a, ds, rfl, hD, hok, q⟩ := h
  obtain ⟨tr, hmr⟩ := G.rooms
  refine ⟨_, pss_cons (ps_if (pt_not (pt_val (pe_cd C1 (hr.mono (by decide)) (pa_cons (pv 1) (pa_cons pe_int (pa_cons (pe_op op_fdiv (pe_op op_mul (pe_glob (v := .int 8) (by rfl) hmr ⟨_, rfl⟩) (pe_op op_sub (pe_glob (v := .int 8) (by rfl) hmr ⟨_, rfl⟩) pe_int)) pe_int) pa_nil)))))) (pss_one ps_never) pss_nil)
    (pss_one (ps_for PassesOwn.never rfl (pi_enumT (by rfl) B.zenumerate (pa_cons (pv 1) pa_nil)) (pg_tup rfl (pgs_cons (pg_name ndNeedDoors (i := 2) rfl (Or.inl rfl)) (pgs_cons (pg_name ndNeedDoors (i := 3) rfl (Or.inl rfl)) pgs_nil)))
      (pss_cons (ps_if (pw_or (pt_not (pt_val (pe_cd C1 (hr.mono (by decide)) (pa_cons (pv 3) (pa_cons pe_int (pa_cons pe_int pa_nil))))))
        (pw_or (pt_not (pt_val (pe_callB (cr_all rfl) (by rfl) B.zall b_all (pa_cons (pe_lc (own := [("room", 4)]) rfl ndNeedDoors (pi_tup (pv 3)) (blkOk_by (N := nNeedDoors) (sc := defScope sNeedDoors) (by decide +kernel)) (fun s H C cl fp => pg_name ndNeedDoors (i := 4) rfl (Or.inl rfl)) (fun s H C cl fp => pts_nil)
            (fun s H C cl fp => pe_cd C2 hr (pa_cons (pv 4) (pa_cons pe_int (pa_cons (pe_op op_sub (pv 0) pe_int) pa_nil))))) pa_nil))))
          (pw_or1 (pt_cmpR op_ge (pe_ix ix_tup (pv 3) pe_int (fun _ _ => rfl)) (pe_ix ix_tup (pv 3) pe_int (fun _ _ => rfl)) rfl)))).pt (pss_one ps_never) pss_nil)
        (pss_one (ps_if (pw_and (pt_cmpR op_gt (pv 2) pe_int rfl) (pw_and1 (pt_cmpR (op_geT hr.units0) (pe_ix ix_tup (pv 1) (pe_op op_sub (pv 2) pe_int) (fun _ _ => rfl)) (pv 3) rfl))).pt (pss_one ps_never) pss_nil))))), ?_⟩
  obtain ⟨as, hT, hl, ha⟩ := hD
  refine ⟨.ref a, rfl, 8, 1, rfl, rfl, 8, _, rfl, rfl, .inl ⟨by decide, by decide⟩, _, 2, rfl, rfl, ⟨by decide, by decide⟩, a, as.map V.ref, 0, _, rfl, hT, _, rfl, ?_⟩
  have e0 : decide ((0 : Int) ≤ ((as.map V.ref).length : Int) ∧ ((as.map V.ref).length : Int) ≤ 8 * (8 - 1) / 2) = true := by
    rw [List.length_map, hl]
    have := hok.len
    refine decide_eq_true ⟨by omega, by omega⟩
  rw [e0]
  refine iteF ?_
  refine ⟨.ref a, rfl, a, as.map V.ref, rfl, hT, ?_⟩
  refine for_enumT (fun i σ H' => (∃ u v z, σ = [some (vi n), some (.ref a), u, v, z]) ∧ Same H H') ⟨⟨_, _, _, rfl⟩, Same.refl _⟩ (fun i σ H' h => sameT h.2 hT) (fun i x T σ H' hx hP nT => ?_) (fun σ H' h => q H' h.2)
  obtain ⟨⟨u, v, z, rfl⟩, sm⟩ := hP
  obtain ⟨p, hp, rfl⟩ := get_map hx
  have hi : i < ds.length := by
    have := (List.getElem?_eq_some_iff.mp hp).1
    omega
  obtain ⟨p', hp', hd⟩ := ha i ds[i] (List.getElem?_eq_getElem hi)
  rw [hp] at hp'
  cases hp'
  obtain ⟨l1, l2⟩ := hok.lt ds[i] (List.getElem_mem hi)
  have sm1 : Same H (upd H' T (.tup [vi i, .ref p])) := sm.trans (sameN nT)
  have hd1 := sameT sm1 hd
  refine pair_nm (SqT.of upd_same) ?_
  refine ⟨.ref p, rfl, p, _, 2, 2, rfl, hd1, _, rfl, ?_⟩
  refine iteF ?_
  refine ⟨.ref p, rfl, p, rfl, ⟨_, hd1⟩, ?_⟩
  refine lcT (xs := [vi ds[i].1, vi ds[i].2]) (fun _ => some (.bl true)) hd1 (by show 2 ≤ 1000; decide) (fun j x H2 hx s2 N k1 k2 => ?_) (fun L H2 nL s2 hL => ?_)
  · have hx' : ∃ m : Nat, x = vi m ∧ m < n := by
      match j, hx with
      | 0, hx => exact ⟨_, (Option.some.inj hx).symm, by omega⟩
      | 1, hx => exact ⟨_, (Option.some.inj hx).symm, by omega⟩
    obtain ⟨m, rfl, hm⟩ := hx'
    refine lcY ?_
    refine ⟨_, rfl, vi n, rfl, n, 1, rfl, rfl, m, 0, _, rfl, ?_⟩
    rw [decide_eq_true (show (0 : Int) ≤ (m : Int) ∧ (m : Int) ≤ (n : Int) - 1 by omega)]
    exact k1 _ _ rfl (Same.refl _)
  have s3 : Same H H2 := sm1.trans s2
  refine ⟨L, [true, true], rfl, SqL.of hL, _, rfl, ?_⟩
  refine iteF ?_
  have hd2 := sameT s3 hd
  refine ⟨.ref p, rfl, p, _, 0, _, rfl, rfl, hd2, rfl, .ref p, rfl, p, _, 1, _, rfl, rfl, hd2, rfl, _, _, rfl, rfl, _, rfl, ?_⟩
  rw [dec_nat_le, decide_eq_false (by omega)]
  refine iteF ?_
  refine ⟨vi i, rfl, _, 0, rfl, rfl, _, rfl, ?_⟩
  refine ite2 (fun c => ?_) (fun c => iteF ⟨⟨_, _, _, rfl⟩, s3⟩)
  have c' : 0 < i := by
    have := of_decide_eq_true c
    omega
  have hi1 : i - 1 < ds.length := by omega
  obtain ⟨p1, hp1, hd1'⟩ := ha (i - 1) ds[i - 1] (List.getElem?_eq_getElem hi1)
  have hpr := List.pairwise_iff_getElem.mp hok.asc (i - 1) i hi1 hi (by omega)
  refine ⟨.ref a, rfl, vi i, rfl, _, 1, rfl, rfl, a, _, _, .ref p1, rfl, rfl, sameT s3 hT, ?_, .ref p, rfl, p1, p, [(ds[i-1].1 : Int), (ds[i-1].2 : Int)], [(ds[i].1 : Int), (ds[i].2 : Int)], rfl, rfl, sameT s3 hd1', hd2, false, congrArg V.bl (ge_pairs hpr), ?_⟩
  · have e1 : (i : Int) - 1 = ((i - 1 : Nat) : Int) := by omega
    rw [e1]
    exact at_nat (map_get hp1)
  · exact iteF ⟨⟨_, _, _, rfl⟩, s3⟩
theorem cd_need_house (B : Bz mg) (G : Gz mg) (D : Dfn K mg "need_house" sNeedHouse ["house"]) (C2 : Cd P w K mg base 2 "is_in" ["value", "least", "most"] spIsIn) (C1 : Cd P w K mg base 1 "is_list" ["value", "least", "most"] (spIsList K)) (C3 : Cd P w K mg base 3 "need_doors" ["size", "doors"] (spNeedDoors K)) :
    Cd P w K mg base 4 "need_house" ["house"] (spNeedHouse K) := by
  refine cd_of D scNeedHouse (fun vs H Q E h => ?_) (fun f cdv A outer s H vs Q E hr h => ?_)
  · obtain ⟨n, a, ds, rfl, _⟩ := h
    rfl
  obtain ⟨n, a, ds, rfl, ⟨t, hT, hD⟩, hok, q⟩ := h
  obtain ⟨tr, hmr⟩ := G.rooms
  refine ⟨_, pss_cons (ps_if (pt_not (pt_val (pe_cd C1 (hr.mono (by decide)) (pa_cons (pv 0) (pa_cons pe_int (pa_cons pe_int pa_nil)))))) (pss_one ps_never) pss_nil)
    (pss_cons (ps_if (pt_not (pt_val (pe_cd C2 (hr.mono (by decide)) (pa_cons (pe_ix ix_tup (pv 0) pe_int (fun _ _ => rfl)) (pa_cons pe_int (pa_cons (pe_glob (v := .int 8) (by rfl) hmr ⟨_, rfl⟩) pa_nil)))))) (pss_one ps_never) pss_nil)
      (pss_one (ps_expr (pe_cd C3 hr (pa_cons (pe_ix ix_tup (pv 0) pe_int (fun _ _ => rfl)) (pa_cons (pe_ix ix_tup (pv 0) pe_int (fun _ _ => rfl)) pa_nil)))))), ?_⟩
  refine ⟨.ref a, rfl, a, _, 2, 2, rfl, hT, _, rfl, ?_⟩
  refine iteF ?_
  have i1 := hok.n1
  have i2 := hok.n8
  refine ⟨.ref a, rfl, a, _, 0, _, rfl, rfl, hT, rfl, n, 1, 8, rfl, _, rfl, ?_⟩
  rw [decide_eq_true (show (1 : Int) ≤ (n : Int) ∧ (n : Int) ≤ 8 by omega)]
  refine iteF ?_
  exact ⟨.ref a, rfl, a, _, 0, _, rfl, rfl, hT, rfl, .ref a, rfl, a, _, 1, _, rfl, rfl, hT, rfl, n, t, ds, rfl, hD, hok, q⟩
theorem cd_need_set (B : Bz mg) (D : Dfn K mg "need_set" sNeedSet ["house", "rooms"]) (C2 : Cd P w K mg base 2 "is_in" ["value", "least", "most"] spIsIn) (C1 : Cd P w K mg base 1 "is_list" ["value", "least", "most"] (spIsList K)) :
    Cd P w K mg base 3 "need_set" ["house", "rooms"] (spNeedSet K) := by
  refine cd_of D scNeedSet (fun vs H Q E h => ?_) (fun f cdv A outer s H vs Q E hr h => ?_)
  · obtain ⟨n, a, b, ds, r, rfl, _⟩ := h
    rfl
  obtain ⟨n, a, b, ds, r, rfl, ⟨t, hT, hD⟩, hok, hb, asc, hlt, hln, q⟩ := h
  refine ⟨_, pss_cons (ps_if (pw_or (pt_not (pt_val (pe_cd C1 (hr.mono (by decide)) (pa_cons (pv 1) (pa_cons pe_int (pa_cons (pe_ix ix_tup (pv 0) pe_int (fun _ _ => rfl)) pa_nil))))))
        (pw_or1 (pt_not (pt_val (pe_callB (cr_all rfl) (by rfl) B.zall b_all (pa_cons (pe_lc (own := [("room", 2)]) rfl ndNeedSet (pi_tup (pv 1)) (blkOk_by (N := nNeedSet) (sc := defScope sNeedSet) (by decide +kernel)) (fun s H C cl fp => pg_name ndNeedSet (i := 2) rfl (Or.inl rfl)) (fun s H C cl fp => pts_nil)
            (fun s H C cl fp => pe_cd C2 (hr.mono (by decide)) (pa_cons (pv 2) (pa_cons pe_int (pa_cons (pe_op op_sub (pe_ix (ix_tup : IxR _ (rIxT K)) (pv 0) pe_int (fun _ _ => rfl)) pe_int) pa_nil))))) pa_nil)))))).pt (pss_one ps_never) pss_nil)
      (pss_one (ps_if (pt_cmpR (op_neD hr.units) (pe_callTy call_list_of (by rfl) B.zlist b_list (pa_cons (pv 1) pa_nil)) (pe_callB (cr_sortedSet rfl) (by rfl) B.zsorted b_sorted (pa_cons (pe_callTy (cr_setT rfl) (by rfl) B.zset b_set (pa_cons (pv 1) pa_nil)) pa_nil)) rfl) (pss_one ps_never) pss_nil)), ?_⟩
  have i1 := hok.n1
  have i2 := hok.n8
  refine ⟨.ref b, rfl, .ref a, rfl, a, _, 0, _, rfl, rfl, hT, rfl, b, _, 0, n, rfl, hb, _, rfl, ?_⟩
  rw [List.length_map, decide_eq_true (show (0 : Int) ≤ (r.length : Int) ∧ (r.length : Int) ≤ (n : Int) by omega)]
  refine iteF ?_
  refine ⟨.ref b, rfl, b, rfl, ⟨_, hb⟩, ?_⟩
  refine lcT (xs := r.map vi) (fun _ => some (.bl true)) hb (by rw [List.length_map]; omega) (fun j x H2 hx s2 N k1 k2 => ?_) (fun L H2 nL s2 hL => ?_)
  · obtain ⟨hj, rfl⟩ := get_vi hx
    have hm := hlt r[j] (List.getElem_mem hj)
    refine lcY ?_
    refine ⟨_, rfl, .ref a, rfl, a, _, 0, _, rfl, rfl, sameT s2 hT, rfl, n, 1, rfl, rfl, r[j], 0, _, rfl, ?_⟩
    rw [decide_eq_true (show (0 : Int) ≤ (r[j] : Int) ∧ (r[j] : Int) ≤ (n : Int) - 1 by omega)]
    exact k1 _ _ rfl (Same.refl _)
  refine ⟨L, (List.range (r.map vi).length).map fun _ => true, rfl, ?_, _, rfl, ?_⟩
  · rw [List.map_map]
    have e : (List.range (r.map vi).length).filterMap (fun _ => some (V.bl true)) = (List.range (r.map vi).length).map (V.bl ∘ fun _ => true) := fm_map _ _
    rw [← e]
    exact SqL.of hL
  have e2 : ((List.range (r.map vi).length).map fun _ => true).all id = true := by
    rw [List.all_map, List.all_eq_true]
    intro x _
    rfl
  rw [e2]
  refine iteF ?_
  have hb2 := sameT s2 hb
  refine ⟨.ref b, rfl, b, _, rfl, .inr hb2, fun l nl => ?_⟩
  refine ⟨.ref b, rfl, b, r.map Int.ofNat, rfl, ?_, by rw [List.length_map]; omega, fun sp c hc np => ?_⟩
  · rw [← vi_map]
    exact sameT (sameN nl) hb2
  refine ⟨sp, _, c, rfl, upd_same, by rw [List.length_map] at hc; omega, fun ns z hns hmem hlen nz => ?_⟩
  have e3 := asc_ints hns asc hmem
  subst e3
  have hl2 : SqL K (upd (upd (upd H2 l (.lst (r.map vi))) sp (SetO w sp (fun j => decide (j ∈ r.map Int.ofNat)) c)) z (.lst ((r.map Int.ofNat).map V.int))) l (r.map vi) := by
    refine SqL.of ?_
    have n1 : l ≠ sp := fun e => by rw [← e, upd_same] at np; cases np
    have n2 : l ≠ z := fun e => by rw [← e, upd_ne n1, upd_same] at nz; cases nz
    rw [upd_ne n2, upd_ne n1, upd_same]
  refine ne_ll (l := r) (l' := r) hl2 (by rw [vi_map]; exact SqL.of upd_same) ⟨_, rfl, ?_⟩
  refine iteNS rfl ?_
  refine q _ ?_
  exact s2.trans ((sameN nl).trans ((sameN np).trans (sameN nz)))
end
end Mx
set_option maxHeartbeats 4000000
namespace Mx
open PySem PySem.Spec PyProof.Rows L2
theorem nb_snoc (l : List (Nat × Nat)) (d : Nat × Nat) (x : Nat) : nb (l ++ [d]) x = nb l x ++ (nbr x d).toList := by
  unfold nb
  rw [List.filterMap_append]
  cases e : nbr x d with
  | none => simp [e]
  | some y => simp [e]
theorem nearU_get {n x : Nat} {ds : List (Nat × Nat)} (h : x < n) : (nearU n ds).getD x [] = nb ds x := by
  unfold nearU
  rw [getD_map_range, if_pos h]
theorem nearU_len (n : Nat) (ds : List (Nat × Nat)) : (nearU n ds).length = n := by
  unfold nearU
  rw [List.length_map, List.length_range]
theorem nearU_step {n i : Nat} {ds : List (Nat × Nat)} {d : Nat × Nat} (hd : ds[i]? = some d) (h1 : d.1 < d.2) (h2 : d.2 < n) :
    ((nearU n (ds.take i)).set d.1 ((nearU n (ds.take i)).getD d.1 [] ++ [d.2])).set d.2 (((nearU n (ds.take i)).set d.1 ((nearU n (ds.take i)).getD d.1 [] ++ [d.2])).getD d.2 [] ++ [d.1]) = nearU n (ds.take (i + 1)) := by
  have e0 : ds.take (i + 1) = ds.take i ++ [d] := by rw [List.take_add_one, hd]; rfl
  have e1 : ((nearU n (ds.take i)).set d.1 ((nearU n (ds.take i)).getD d.1 [] ++ [d.2])).getD d.2 [] = nb (ds.take i) d.2 := by
    rw [List.getD_eq_getElem?_getD, List.getElem?_set_ne (by omega), ← List.getD_eq_getElem?_getD, nearU_get h2]
  rw [e1, nearU_get (by omega : d.1 < n), e0]
  refine List.ext_getElem? fun x => ?_
  by_cases hx : x < n
  · have er : (nearU n (ds.take i ++ [d]))[x]? = some (nb (ds.take i) x ++ (nbr x d).toList) := by
      rw [get_of [] (by rw [nearU_len]; exact hx), nearU_get hx, nb_snoc]
    rw [er]
    unfold nbr
    by_cases q2 : x = d.2
    · subst q2
      rw [List.getElem?_set_self (by rw [List.length_set, nearU_len]; exact hx), if_neg (by omega), if_pos rfl]
      rfl
    · rw [List.getElem?_set_ne (Ne.symm q2)]
      by_cases q1 : x = d.1
      · subst q1
        rw [List.getElem?_set_self (by rw [nearU_len]; exact hx), if_pos rfl]
        rfl
      · rw [List.getElem?_set_ne (Ne.symm q1), if_neg (Ne.symm q1), if_neg (Ne.symm q2), get_of [] (by rw [nearU_len]; exact hx), nearU_get hx]
        simp
  · rw [List.getElem?_eq_none (by rw [List.length_set, List.length_set, nearU_len]; omega), List.getElem?_eq_none (by rw [nearU_len]; omega)]
abbrev tApp (K : PySem.W.Frag) (i j : Nat) : TS := tDrop (tBM K "list" rAppend (tOp (rIxL K) (tVar 1) (tVar i)) (tCons (tVar j) tNil))
abbrev σN (h F : Addr) (σ : L2.St) : Prop := ∃ u v z y, σ = [some (.ref h), some (.ref F), u, v, z, y]
theorem near_loop {K : PySem.W.Frag} {h F : Addr} {n : Nat} {ds : List (Nat × Nat)} {as : List Addr} {H0 : Hp} {D : Ends} {σ : L2.St} {H : Hp} (hH : Hse K H0 h n ds) (hok : HsOk n ds) (hσ : σN h F σ) (hM : RwM H0 H F as (nearU n []))
    (hd : ∀ σ H, σN h F σ → RwM H0 H F as (nearU n ds) → D.nx σ H) :
    tFor (iTup K (tOp (rIxT K) (tVar 0) (tC (.int 1)))) (gTup K 2 (gCons (gName 2) (gCons (gName 3) gNil))) (tSeq (tApp K 2 3) (tApp K 3 2)) D σ H := by
  obtain ⟨t, hT, as', hT2, hl, hp⟩ := hH
  obtain ⟨u, v, z, y, rfl⟩ := hσ
  refine ⟨.ref h, rfl, h, _, 1, _, rfl, rfl, sameT hM.sm hT, rfl, t, rfl, ⟨_, sameT hM.sm hT2⟩, ?_⟩
  refine for_tup (xs := as'.map V.ref) (fun i σ H => σN h F σ ∧ RwM H0 H F as (nearU n (ds.take i))) ⟨⟨_, _, _, _, rfl⟩, hM⟩ (fun i σ H _ k => sameT k.2.sm hT2) (fun i x σ H hx k => ?_) (fun σ H k => hd σ H k.1 ?_)
  · obtain ⟨⟨u, v, z, y, rfl⟩, M⟩ := k
    obtain ⟨q, hq, rfl⟩ := get_map hx
    have hi : i < ds.length := by
      have := (List.getElem?_eq_some_iff.mp hq).1
      omega
    have hdi := List.getElem?_eq_getElem hi
    obtain ⟨q', hq', hqd⟩ := hp i ds[i] hdi
    rw [hq] at hq'
    cases hq'
    obtain ⟨l1, l2⟩ := hok.lt ds[i] (List.getElem_mem hi)
    have hlen : as.length = n := by rw [M.len, nearU_len]
    have g1 : as[ds[i].1]? = some (as[ds[i].1]'(by omega)) := List.getElem?_eq_getElem _
    have g2 : as[ds[i].2]? = some (as[ds[i].2]'(by omega)) := List.getElem?_eq_getElem _
    refine pair_nm (sameT M.sm hqd) ?_
    have b1 : ((nearU n (ds.take i)).getD ds[i].1 []).length ≤ 28 := by
      rw [nearU_get (by omega)]
      have := List.length_filterMap_le (nbr ds[i].1) (ds.take i)
      have h2 := hok.len
      rw [List.length_take] at this
      unfold nb
      omega
    have b2 : (((nearU n (ds.take i)).set ds[i].1 ((nearU n (ds.take i)).getD ds[i].1 [] ++ [ds[i].2])).getD ds[i].2 []).length ≤ 28 := by
      rw [List.getD_eq_getElem?_getD, List.getElem?_set_ne (by omega), ← List.getD_eq_getElem?_getD, nearU_get (by omega)]
      have := List.length_filterMap_le (nbr ds[i].2) (ds.take i)
      have h2 := hok.len
      rw [List.length_take] at this
      unfold nb
      omega
    have M1 := M.step (y := ds[i].2) g1
    refine ⟨.ref F, rfl, vi ds[i].1, rfl, F, _, _, _, rfl, rfl, SqL.of M.hF, at_nat (map_get g1), .inl ⟨rfl, _, SqL.of (M.row _ _ g1)⟩, vi ds[i].2, rfl, _, _, _, rfl, rfl, M.row _ _ g1, by rw [List.length_map]; exact small1000 (by omega), ?_⟩
    refine ⟨.ref F, rfl, vi ds[i].2, rfl, F, _, _, _, rfl, rfl, SqL.of M1.hF, at_nat (map_get g2), .inl ⟨rfl, _, SqL.of (M1.row _ _ g2)⟩, vi ds[i].1, rfl, _, _, _, rfl, rfl, M1.row _ _ g2, by rw [List.length_map]; exact small1000 (by omega), ?_⟩
    refine ⟨⟨_, _, _, _, rfl⟩, ?_⟩
    have M2 := M1.step (y := ds[i].1) g2
    rw [nearU_step hdi l1 l2] at M2
    exact M2
  · have := k.2
    rw [List.length_map, hl, List.take_length] at this
    exact this
abbrev sNear : Stmt := topS 18
abbrev nNear : List Str := ["house", "found", "one", "other", "room", "row"]
theorem ndNear : nNear.Nodup := by decide +kernel
theorem scNear : FnScope nNear ["house"] (defScope sNear) := ⟨rfl, rfl, rfl, by decide +kernel, rfl, by decide +kernel, by decide +kernel⟩
abbrev sLNear : Stmt := topS 60
abbrev nLNear : List Str := ["_law_house_here", "_law_found", "_law_one", "_law_other", "_law_room", "zz"]
theorem ndLNear : nLNear.Nodup := by decide +kernel
theorem scLNear : FnScope nLNear ["_law_house_here"] (defScope sLNear) := ⟨rfl, rfl, rfl, by decide +kernel, rfl, by decide +kernel, by decide +kernel⟩
def spNear (K : PySem.W.Frag) : Sp := fun vs H Q _ => ∃ (n : Nat) (a : Addr) (ds : List (Nat × Nat)), vs = [.ref a] ∧ Hse K H a n ds ∧ HsOk n ds ∧ ∀ p H', Same H H' → Rws K H' p (nearM n ds) → Q (.ref p) H'
def spLNear (K : PySem.W.Frag) : Sp := fun vs H Q _ => ∃ (n : Nat) (a : Addr) (ds : List (Nat × Nat)), vs = [.ref a] ∧ Hse K H a n ds ∧ HsOk n ds ∧ ∀ p H', Same H H' → Rws K H' p (nearU n ds) → Q (.ref p) H'
section
variable {P : Program} {w : World} {K : PySem.W.Frag} {mg : Str → Option Value} {base : Heap}
theorem cd_near (B : Bz mg) (D : Dfn K mg "near" sNear ["house"]) : Cd P w K mg base 1 "near" ["house"] (spNear K) := by
  refine cd_of D scNear (fun vs H Q E h => ?_) (fun f cdv A outer s H vs Q E hr h => ?_)
  · obtain ⟨n, a, ds, rfl, _⟩ := h
    rfl
  obtain ⟨n, a, ds, rfl, hH, hok, q⟩ := h
  refine ⟨_, pss_cons (ps_setLc (own := [("room", 4)]) (i := 1) rfl ndNear rfl rfl (sw_true rfl rfl rfl rfl) (pi_range1 (by rfl) B.zrange (pa_cons (pe_ix ix_tup (pv 0) pe_int (fun _ _ => rfl)) pa_nil)) (blkOk_by (N := nNear) (sc := defScope sNear) (by decide +kernel)) (fun s H C cl fp => pg_name ndNear (i := 4) rfl (Or.inl rfl)) (fun s H C cl fp => pts_nil) (fun s H C cl fp => pe_lst pa_nil))
    (pss_cons (ps_for PassesOwn.never rfl (pi_tup (pe_ix ix_tup (pv 0) pe_int (fun _ _ => rfl))) (pg_tup rfl (pgs_cons (pg_name ndNear (i := 2) rfl (Or.inl rfl)) (pgs_cons (pg_name ndNear (i := 3) rfl (Or.inl rfl)) pgs_nil)))
        (pss_cons (ps_expr (pe_bm PySem.F.plainAttrs_list PySem.F.slot_list_append PySem.F.type_list_append mt_append (pe_ix ix_list (pv 1) (pv 2) (fun _ _ => rfl)) (pa_cons (pv 3) pa_nil)))
          (pss_one (ps_expr (pe_bm PySem.F.plainAttrs_list PySem.F.slot_list_append PySem.F.type_list_append mt_append (pe_ix ix_list (pv 1) (pv 3) (fun _ _ => rfl)) (pa_cons (pv 2) pa_nil))))))
      (pss_one (ps_ret (pe_lc (own := [("row", 5)]) rfl ndNear (pi_list (pv 1)) (blkOk_by (N := nNear) (sc := defScope sNear) (by decide +kernel)) (fun s H C cl fp => pg_name ndNear (i := 5) rfl (Or.inl rfl)) (fun s H C cl fp => pts_nil)
          (fun s H C cl fp => pe_callB (cr_sortedI : CallR _ _ (rSortedI K)) (by rfl) B.zsorted b_sorted (pa_cons (pv 5) pa_nil)))))), ?_⟩
  obtain ⟨t, hT, hDs⟩ := id hH
  have i2 := hok.n8
  refine ⟨.ref a, rfl, a, _, 0, _, rfl, rfl, hT, rfl, n, rfl, by omega, by omega, ?_⟩
  rw [show (n : Int).toNat = n from Int.toNat_natCast n]
  refine near_new (by omega) (fun x => rfl) fun F as H1 M => ?_
  refine near_loop hH hok ⟨_, _, _, _, rfl⟩ M fun σ H2 hσ M2 => ?_
  obtain ⟨u, v, z, y, rfl⟩ := hσ
  refine ⟨.ref F, rfl, F, rfl, ⟨_, SqL.of M2.hF⟩, ?_⟩
  have hlen : as.length = n := by rw [M2.len, nearU_len]
  refine lcXL (xs := as.map V.ref) V.ref (fun _ => true) (fun D i b H => b ≠ D ∧ H b = some (.lst ((srt (nb ds i)).map vi))) (fun D i b H H' h e => ⟨h.1, e _ _ h.2 h.1⟩) (SqL.of M2.hF) (by rw [List.length_map]; omega) (fun D i x H3 N nD hD hx s3 k1 k2 => ?_) (fun D H3 bs nD s3 hD hF => ?_)
  · obtain ⟨p, hp, rfl⟩ := get_map hx
    have hi := (List.getElem?_eq_some_iff.mp hp).1
    have hrow := M2.row i p hp
    rw [nearU_get (by omega)] at hrow
    refine lcY ?_
    refine ⟨.ref p, rfl, p, (nb ds i).map Int.ofNat, rfl, by rw [← vi_map]; exact SqL.of (s3 _ _ hrow), fun ns z hpm hs nz => ?_⟩
    have e := perm_ints hpm hs
    subst e
    refine k1 z _ rfl (sameN nz) ⟨fun e => ?_, by rw [upd_same, vi_map]⟩
    obtain ⟨acc, hacc⟩ := hD
    rw [e, hacc] at nz
    cases nz
  · refine q D H3 (M2.sm.trans s3) ⟨bs, SqL.of hD, ?_, fun i hi => ?_⟩
    · rw [← hF.len, filt_true, List.length_range, List.length_map, hlen]
      unfold nearM
      rw [List.length_map, List.length_range]
    · have hi' : i < n := by
        unfold nearM at hi
        rw [List.length_map, List.length_range] at hi
        exact hi
      have hg : ((List.range (as.map V.ref).length).filter fun _ => true)[i]? = some i := by
        rw [filt_true, List.getElem?_range (by rw [List.length_map, hlen]; exact hi')]
      obtain ⟨b, hb, h1, h2⟩ := hF.get hg
      refine ⟨b, hb, ?_⟩
      unfold nearM
      rw [getD_map_range, if_pos hi']
      exact SqL.of h2
theorem cd_law_near (B : Bz mg) (D : Dfn K mg "_law_near" sLNear ["_law_house_here"]) : Cd P w K mg base 1 "_law_near" ["_law_house_here"] (spLNear K) := by
  refine cd_of D scLNear (fun vs H Q E h => ?_) (fun f cdv A outer s H vs Q E hr h => ?_)
  · obtain ⟨n, a, ds, rfl, _⟩ := h
    rfl
  obtain ⟨n, a, ds, rfl, hH, hok, q⟩ := h
  refine ⟨_, pss_cons (ps_setLc (own := [("_law_room", 4)]) (i := 1) rfl ndLNear rfl rfl (sw_true rfl rfl rfl rfl) (pi_range1 (by rfl) B.zrange (pa_cons (pe_ix ix_tup (pv 0) pe_int (fun _ _ => rfl)) pa_nil)) (blkOk_by (N := nLNear) (sc := defScope sLNear) (by decide +kernel)) (fun s H C cl fp => pg_name ndLNear (i := 4) rfl (Or.inl rfl)) (fun s H C cl fp => pts_nil) (fun s H C cl fp => pe_lst pa_nil))
    (pss_cons (ps_for PassesOwn.never rfl (pi_tup (pe_ix ix_tup (pv 0) pe_int (fun _ _ => rfl))) (pg_tup rfl (pgs_cons (pg_name ndLNear (i := 2) rfl (Or.inl rfl)) (pgs_cons (pg_name ndLNear (i := 3) rfl (Or.inl rfl)) pgs_nil)))
        (pss_cons (ps_expr (pe_bm PySem.F.plainAttrs_list PySem.F.slot_list_append PySem.F.type_list_append mt_append (pe_ix ix_list (pv 1) (pv 2) (fun _ _ => rfl)) (pa_cons (pv 3) pa_nil)))
          (pss_one (ps_expr (pe_bm PySem.F.plainAttrs_list PySem.F.slot_list_append PySem.F.type_list_append mt_append (pe_ix ix_list (pv 1) (pv 3) (fun _ _ => rfl)) (pa_cons (pv 2) pa_nil))))))
      (pss_one (ps_ret (pv 1)))), ?_⟩
  obtain ⟨t, hT, hDs⟩ := id hH
  have i2 := hok.n8
  refine ⟨.ref a, rfl, a, _, 0, _, rfl, rfl, hT, rfl, n, rfl, by omega, by omega, ?_⟩
  rw [show (n : Int).toNat = n from Int.toNat_natCast n]
  refine near_new (by omega) (fun x => rfl) fun F as H1 M => ?_
  refine near_loop hH hok ⟨_, _, _, _, rfl⟩ M fun σ H2 hσ M2 => ?_
  obtain ⟨u, v, z, y, rfl⟩ := hσ
  exact ⟨.ref F, rfl, q F H2 M2.sm M2.rws⟩
end
end Mx
set_option maxHeartbeats 4000000
namespace Mx
open PySem PySem.Spec PyProof.Rows L2
structure Hz (n : Nat) (rw : List (List Nat)) : Prop where
  gr : Gr n rw
  n1 : 1 ≤ n
  n8 : n ≤ 8
  sh : ∀ x, (rw.getD x []).length ≤ 28
theorem hz_near {n : Nat} {ds : List (Nat × Nat)} (h : HsOk n ds) : Hz n (nearM n ds) := ⟨gr_near h, h.n1, h.n8, fun x => by
  unfold nearM
  rw [getD_map_range]
  by_cases q : x < n
  · rw [if_pos q, (srt_perm _).length_eq]
    exact nb_len h x
  · rw [if_neg q]
    exact Nat.zero_le _⟩
theorem rws_get {K : PySem.W.Frag} {H : Hp} {a : Addr} {rw : List (List Nat)} (h : Rws K H a rw) {x : Nat} (hx : x < rw.length) : ∃ as p, SqL K H a as ∧ atI as (x : Int) = some (.ref p) ∧ LN K H p (rw.getD x []) := by
  obtain ⟨as, h1, h2, h3⟩ := h
  obtain ⟨p, h4, h5⟩ := h3 x hx
  exact ⟨_, p, h1, at_nat (map_get h4), h5⟩
abbrev sNeedNumbers : Stmt := topS 22
abbrev sNeedState : Stmt := topS 23
abbrev sNeedRow : Stmt := topS 24
abbrev sFree : Stmt := topS 25
abbrev sKeyIn : Stmt := topS 26
abbrev sStoryIn : Stmt := topS 27
abbrev sAfter : Stmt := topS 28
abbrev sLikeIn : Stmt := topS 29
abbrev sNeedParted : Stmt := topS 30
abbrev sRestsIn : Stmt := topS 31
abbrev nNeedNumbers : List Str := ["house", "state", "index", "number"]
abbrev nNeedState : List Str := ["house", "state"]
abbrev nNeedRow : List Str := ["house", "keys", "index", "room"]
abbrev nFree : List Str := ["rows", "state", "room", "shown", "number", "other"]
abbrev nKeyIn : List Str := ["rows", "state", "room"]
abbrev nStoryIn : List Str := ["rows", "state", "keys", "found", "room"]
abbrev nAfter : List Str := ["house", "state", "keys"]
abbrev nLikeIn : List Str := ["house", "state", "door"]
abbrev nNeedParted : List Str := ["house", "state"]
abbrev nRestsIn : List Str := ["rows", "state", "room", "number"]
theorem ndNeedNumbers : nNeedNumbers.Nodup := by decide +kernel
theorem ndNeedRow : nNeedRow.Nodup := by decide +kernel
theorem ndFree : nFree.Nodup := by decide +kernel
theorem ndStoryIn : nStoryIn.Nodup := by decide +kernel
theorem ndLikeIn : nLikeIn.Nodup := by decide +kernel
theorem ndRestsIn : nRestsIn.Nodup := by decide +kernel
theorem scNeedNumbers : FnScope nNeedNumbers ["house", "state"] (defScope sNeedNumbers) := ⟨rfl, rfl, rfl, by decide +kernel, rfl, by decide +kernel, by decide +kernel⟩
theorem scNeedState : FnScope nNeedState ["house", "state"] (defScope sNeedState) := ⟨rfl, rfl, rfl, by decide +kernel, rfl, by decide +kernel, by decide +kernel⟩
theorem scNeedRow : FnScope nNeedRow ["house", "keys"] (defScope sNeedRow) := ⟨rfl, rfl, rfl, by decide +kernel, rfl, by decide +kernel, by decide +kernel⟩
theorem scFree : FnScope nFree ["rows", "state", "room"] (defScope sFree) := ⟨rfl, rfl, rfl, by decide +kernel, rfl, by decide +kernel, by decide +kernel⟩
theorem scKeyIn : FnScope nKeyIn ["rows", "state", "room"] (defScope sKeyIn) := ⟨rfl, rfl, rfl, by decide +kernel, rfl, by decide +kernel, by decide +kernel⟩
theorem scStoryIn : FnScope nStoryIn ["rows", "state", "keys"] (defScope sStoryIn) := ⟨rfl, rfl, rfl, by decide +kernel, rfl, by decide +kernel, by decide +kernel⟩
theorem scAfter : FnScope nAfter ["house", "state", "keys"] (defScope sAfter) := ⟨rfl, rfl, rfl, by decide +kernel, rfl, by decide +kernel, by decide +kernel⟩
theorem scLikeIn : FnScope nLikeIn ["house", "state"] (defScope sLikeIn) := ⟨rfl, rfl, rfl, by decide +kernel, rfl, by decide +kernel, by decide +kernel⟩
theorem scNeedParted : FnScope nNeedParted ["house", "state"] (defScope sNeedParted) := ⟨rfl, rfl, rfl, by decide +kernel, rfl, by decide +kernel, by decide +kernel⟩
theorem scRestsIn : FnScope nRestsIn ["rows", "state"] (defScope sRestsIn) := ⟨rfl, rfl, rfl, by decide +kernel, rfl, by decide +kernel, by decide +kernel⟩
/-- a house and a state of it -/
structure HS (K : PySem.W.Frag) (H : Hp) (a b : Addr) (n : Nat) (ds : List (Nat × Nat)) (st : List Nat) : Prop where
  hs : Hse K H a n ds
  ok : HsOk n ds
  tn : TN K H b st
  ln : st.length = n
  le : ∀ x, x ∈ st → x ≤ 60
theorem HS.same {K : PySem.W.Frag} {H H' : Hp} {a b : Addr} {n : Nat} {ds : List (Nat × Nat)} {st : List Nat} (h : HS K H a b n ds st) (e : Same H H') : HS K H' a b n ds st := ⟨sameHse e h.hs, h.ok, sameT e h.tn, h.ln, h.le⟩
def spNeedNumbers (K : PySem.W.Frag) : Sp := fun vs H Q _ => ∃ (n : Nat) (a b : Addr) (ds : List (Nat × Nat)) (st : List Nat), vs = [.ref a, .ref b] ∧ HS K H a b n ds st ∧ ∀ H', Same H H' → Q .non H'
def spNeedRow (K : PySem.W.Frag) : Sp := fun vs H Q _ => ∃ (n : Nat) (a b : Addr) (ds : List (Nat × Nat)) (ks : List Nat), vs = [.ref a, .ref b] ∧ Hse K H a n ds ∧ HsOk n ds ∧ TN K H b ks ∧ (∀ x, x ∈ ks → x < n) ∧ ks.length ≤ 60 ∧ ∀ H', Same H H' → Q .non H'
def spFree (K : PySem.W.Frag) : Sp := fun vs H Q _ => ∃ (n x : Nat) (a b : Addr) (rw : List (List Nat)) (st : List Nat), vs = [.ref a, .ref b, vi x] ∧ Rws K H a rw ∧ Hz n rw ∧ TN K H b st ∧ st.length = n ∧ x < n ∧ ∀ H', Same H H' → Q (vi (fr rw st x)) H'
def spKeyIn (K : PySem.W.Frag) : Sp := fun vs H Q _ => ∃ (n x : Nat) (a b : Addr) (rw : List (List Nat)) (st : List Nat), vs = [.ref a, .ref b, vi x] ∧ Rws K H a rw ∧ Hz n rw ∧ TN K H b st ∧ st.length = n ∧ x < n ∧ ∀ p H', Same H H' → H' p = some (.tup ((keyL rw st x).map vi)) → Q (.ref p) H'
def spStoryIn (K : PySem.W.Frag) : Sp := fun vs H Q _ => ∃ (n : Nat) (a b c : Addr) (rw : List (List Nat)) (st ks : List Nat), vs = [.ref a, .ref b, .ref c] ∧ Rws K H a rw ∧ Hz n rw ∧ TN K H b st ∧ st.length = n ∧ TN K H c ks ∧ (∀ x, x ∈ ks → x < n) ∧ ks.length ≤ 60 ∧
  ∀ L p ys H', Same H H' → SqL K H' L (ys ++ [V.ref p]) → TN K H' p (ks.foldl (keyL rw) st) → Q (.ref L) H'
def spAfter (K : PySem.W.Frag) : Sp := fun vs H Q _ => ∃ (n : Nat) (a b c : Addr) (ds : List (Nat × Nat)) (st ks : List Nat), vs = [.ref a, .ref b, .ref c] ∧ HS K H a b n ds st ∧ TN K H c ks ∧ (∀ x, x ∈ ks → x < n) ∧ ks.length ≤ 60 ∧
  ∀ p H', Same H H' → TN K H' p (ks.foldl (keyL (nearM n ds)) st) → Q (.ref p) H'
def Parted (ds : List (Nat × Nat)) (st : List Nat) : Prop := ∀ d, d ∈ ds → st.getD d.1 0 ≠ st.getD d.2 0
def spLikeIn (K : PySem.W.Frag) : Sp := fun vs H Q _ => ∃ (n : Nat) (a b : Addr) (ds : List (Nat × Nat)) (st : List Nat), vs = [.ref a, .ref b] ∧ HS K H a b n ds st ∧ Parted ds st ∧ ∀ p H', Same H H' → H' p = some (.lst []) → Q (.ref p) H'
def spNeedParted (K : PySem.W.Frag) : Sp := fun vs H Q _ => ∃ (n : Nat) (a b : Addr) (ds : List (Nat × Nat)) (st : List Nat), vs = [.ref a, .ref b] ∧ HS K H a b n ds st ∧ Parted ds st ∧ ∀ H', Same H H' → Q .non H'
def spRestsIn (K : PySem.W.Frag) : Sp := fun vs H Q _ => ∃ (n : Nat) (a b : Addr) (rw : List (List Nat)) (st : List Nat), vs = [.ref a, .ref b] ∧ Rws K H a rw ∧ Hz n rw ∧ TN K H b st ∧ st.length = n ∧ (∀ x, x < n → fr rw st x = st.getD x 0) ∧ ∀ H', Same H H' → Q (.bl true) H'
section
variable {P : Program} {w : World} {K : PySem.W.Frag} {mg : Str → Option Value} {base : Heap}
theorem cd_need_numbers (B : Bz mg) (G : Gz mg) (D : Dfn K mg "need_numbers" sNeedNumbers ["house", "state"]) (C2 : Cd P w K mg base 2 "is_in" ["value", "least", "most"] spIsIn) (C1 : Cd P w K mg base 1 "is_list" ["value", "least", "most"] (spIsList K)) :
    Cd P w K mg base 3 "need_numbers" ["house", "state"] (spNeedNumbers K) := by
  refine cd_of D scNeedNumbers (fun vs H Q E h => ?_) (fun f cdv A outer s H vs Q E hr h => ?_)
  · obtain ⟨n, a, b, ds, st, rfl, _⟩ := h
    rfl
  obtain ⟨n, a, b, ds, st, rfl, hs, q⟩ := h
  obtain ⟨t, hT, hD⟩ := hs.hs
  obtain ⟨tr, hmr⟩ := G.number
  refine ⟨_, pss_cons (ps_if (pt_not (pt_val (pe_cd C1 (hr.mono (by decide)) (pa_cons (pv 1) (pa_cons (pe_ix ix_tup (pv 0) pe_int (fun _ _ => rfl)) (pa_cons (pe_ix ix_tup (pv 0) pe_int (fun _ _ => rfl)) pa_nil)))))) (pss_one ps_never) pss_nil)
    (pss_one (ps_for PassesOwn.never rfl (pi_enumT (by rfl) B.zenumerate (pa_cons (pv 1) pa_nil)) (pg_tup rfl (pgs_cons (pg_name ndNeedNumbers (i := 2) rfl (Or.inl rfl)) (pgs_cons (pg_name ndNeedNumbers (i := 3) rfl (Or.inl rfl)) pgs_nil)))
      (pss_one (ps_if (pt_not (pt_val (pe_cd C2 hr (pa_cons (pv 3) (pa_cons pe_int (pa_cons (pe_glob (v := .int 60) (by rfl) hmr ⟨_, rfl⟩) pa_nil)))))) (pss_one ps_never) pss_nil)))), ?_⟩
  refine ⟨.ref b, rfl, .ref a, rfl, a, _, 0, _, rfl, rfl, hT, rfl, .ref a, rfl, a, _, 0, _, rfl, rfl, hT, rfl, b, _, n, n, rfl, hs.tn, _, rfl, ?_⟩
  rw [List.length_map, hs.ln, decide_eq_true ⟨Int.le_refl _, Int.le_refl _⟩]
  refine iteF ?_
  refine ⟨.ref b, rfl, b, _, rfl, hs.tn, ?_⟩
  refine for_enumT (fun i σ H' => (∃ u v, σ = [some (.ref a), some (.ref b), u, v]) ∧ Same H H') ⟨⟨_, _, rfl⟩, Same.refl _⟩ (fun i σ H' h => sameT h.2 hs.tn) (fun i x T σ H' hx hP nT => ?_) (fun σ H' h => q H' h.2)
  obtain ⟨⟨u, v, rfl⟩, sm⟩ := hP
  obtain ⟨hi, rfl⟩ := get_vi hx
  have := hs.le _ (List.getElem_mem hi)
  refine pair_nm (SqT.of upd_same) ?_
  refine ⟨_, rfl, _, 0, 60, rfl, _, rfl, ?_⟩
  rw [decide_eq_true (show (0 : Int) ≤ (st[i] : Int) ∧ (st[i] : Int) ≤ 60 by omega)]
  exact iteF ⟨⟨_, _, rfl⟩, sm.trans (sameN nT)⟩
theorem cd_need_state (D : Dfn K mg "need_state" sNeedState ["house", "state"]) (C1 : Cd P w K mg base 4 "need_house" ["house"] (spNeedHouse K)) (C2 : Cd P w K mg base 3 "need_numbers" ["house", "state"] (spNeedNumbers K)) :
    Cd P w K mg base 5 "need_state" ["house", "state"] (spNeedNumbers K) := by
  refine cd_of D scNeedState (fun vs H Q E h => ?_) (fun f cdv A outer s H vs Q E hr h => ?_)
  · obtain ⟨n, a, b, ds, st, rfl, _⟩ := h
    rfl
  obtain ⟨n, a, b, ds, st, rfl, hs, q⟩ := h
  refine ⟨_, pss_cons (ps_expr (pe_cd C1 hr (pa_cons (pv 0) pa_nil))) (pss_one (ps_expr (pe_cd C2 (hr.mono (by decide)) (pa_cons (pv 0) (pa_cons (pv 1) pa_nil))))), ?_⟩
  refine ⟨.ref a, rfl, n, a, ds, rfl, hs.hs, hs.ok, fun H1 s1 => ?_⟩
  exact ⟨.ref a, rfl, .ref b, rfl, n, a, b, ds, st, rfl, hs.same s1, fun H2 s2 => q _ (s1.trans s2)⟩
theorem cd_need_row (B : Bz mg) (G : Gz mg) (D : Dfn K mg "need_row" sNeedRow ["house", "keys"]) (C2 : Cd P w K mg base 2 "is_in" ["value", "least", "most"] spIsIn) (C1 : Cd P w K mg base 1 "is_list" ["value", "least", "most"] (spIsList K)) :
    Cd P w K mg base 3 "need_row" ["house", "keys"] (spNeedRow K) := by
  refine cd_of D scNeedRow (fun vs H Q E h => ?_) (fun f cdv A outer s H vs Q E hr h => ?_)
  · obtain ⟨n, a, b, ds, st, rfl, _⟩ := h
    rfl
  obtain ⟨n, a, b, ds, ks, rfl, ⟨t, hT, hD⟩, hok, hb, hlt, hl, q⟩ := h
  obtain ⟨tr, hmr⟩ := G.keys
  refine ⟨_, pss_cons (ps_if (pt_not (pt_val (pe_cd C1 (hr.mono (by decide)) (pa_cons (pv 1) (pa_cons pe_int (pa_cons (pe_glob (v := .int 60) (by rfl) hmr ⟨_, rfl⟩) pa_nil)))))) (pss_one ps_never) pss_nil)
    (pss_one (ps_for PassesOwn.never rfl (pi_enumT (by rfl) B.zenumerate (pa_cons (pv 1) pa_nil)) (pg_tup rfl (pgs_cons (pg_name ndNeedRow (i := 2) rfl (Or.inl rfl)) (pgs_cons (pg_name ndNeedRow (i := 3) rfl (Or.inl rfl)) pgs_nil)))
      (pss_one (ps_if (pt_not (pt_val (pe_cd C2 hr (pa_cons (pv 3) (pa_cons pe_int (pa_cons (pe_op op_sub (pe_ix ix_tup (pv 0) pe_int (fun _ _ => rfl)) pe_int) pa_nil)))))) (pss_one ps_never) pss_nil)))), ?_⟩
  refine ⟨.ref b, rfl, b, _, 0, 60, rfl, hb, _, rfl, ?_⟩
  rw [List.length_map, decide_eq_true (show (0 : Int) ≤ (ks.length : Int) ∧ (ks.length : Int) ≤ 60 by omega)]
  refine iteF ?_
  refine ⟨.ref b, rfl, b, _, rfl, hb, ?_⟩
  refine for_enumT (fun i σ H' => (∃ u v, σ = [some (.ref a), some (.ref b), u, v]) ∧ Same H H') ⟨⟨_, _, rfl⟩, Same.refl _⟩ (fun i σ H' h => sameT h.2 hb) (fun i x T σ H' hx hP nT => ?_) (fun σ H' h => q H' h.2)
  obtain ⟨⟨u, v, rfl⟩, sm⟩ := hP
  obtain ⟨hi, rfl⟩ := get_vi hx
  have hm := hlt _ (List.getElem_mem hi)
  refine pair_nm (SqT.of upd_same) ?_
  refine ⟨_, rfl, .ref a, rfl, a, _, 0, _, rfl, rfl, sameT (sm.trans (sameN nT)) hT, rfl, n, 1, rfl, rfl, _, 0, _, rfl, _, rfl, ?_⟩
  rw [decide_eq_true (show (0 : Int) ≤ (ks[i] : Int) ∧ (ks[i] : Int) ≤ (n : Int) - 1 by omega)]
  exact iteF ⟨⟨_, _, rfl⟩, sm.trans (sameN nT)⟩
theorem cd_free_number (B : Bz mg) (D : Dfn K mg "free_number" sFree ["rows", "state", "room"]) : Cd P w K mg base 1 "free_number" ["rows", "state", "room"] (spFree K) := by
  refine cd_of D scFree (fun vs H Q E h => ?_) (fun f cdv A outer s H vs Q E hr h => ?_)
  · obtain ⟨n, x, a, b, rw, st, rfl, _⟩ := h
    rfl
  obtain ⟨n, x, a, b, rw, st, rfl, hR, hz, hb, ln, hx, q⟩ := h
  refine ⟨_, pss_cons (ps_setDc (own := [("other", 5)]) (i := 3) rfl ndFree rfl rfl (swD_true rfl rfl rfl rfl) (pi_list (pe_ix ix_list (pv 0) (pv 2) (fun _ _ => rfl))) (blkOk_by (N := nFree) (sc := defScope sFree) (by decide +kernel)) (fun s H C cl fp => pg_name ndFree (i := 5) rfl (Or.inl rfl)) (fun s H C cl fp => pts_nil)
        (fun s H C cl fp => pe_ix (ix_tup : IxR _ (rIxT K)) (pv 1) (pv 5) (fun _ _ => rfl)) (fun s H C cl fp => pe_bl))
    (pss_cons (ps_set ndFree (i := 4) rfl (Or.inl rfl) pe_int)
      (pss_cons (ps_while PassesOwn.never (pt_cmp (pc_din (hu_of hr) (pv 4) (pv 3))) (pss_one (ps_aug ndFree (i := 4) rfl (Or.inl rfl) pe_int ip_add)))
        (pss_one (ps_ret (pv 4))))), ?_⟩
  obtain ⟨as, p, h1, h2, h3⟩ := rws_get hR (by rw [hz.gr.len]; exact hx)
  refine ⟨.ref a, rfl, vi x, rfl, a, as, _, .ref p, rfl, rfl, h1, h2, p, rfl, ⟨_, h3⟩, ?_⟩
  refine dcL (xs := (rw.getD x []).map vi) (fun i => (.inl ((st.getD ((rw.getD x []).getD i 0) 0 : Nat) : Int), V.bl true)) h3 (by have := hz.sh x; rw [List.length_map]; omega) (fun _ => rfl) (fun i y H2 N hy s2 k => ?_) (fun D H2 nD s2 hD => ?_)
  · obtain ⟨hi, rfl⟩ := get_vi hy
    have hlt := hz.gr.lt x _ (List.getElem_mem hi)
    refine ⟨.ref b, rfl, _, rfl, b, _, _, _, rfl, rfl, sameT s2 hb, at_vi (by rw [ln]; exact hlt), ?_⟩
    have := k _ (Same.refl _)
    rw [List.getD_eq_getElem?_getD (l := rw.getD x []), List.getElem?_eq_getElem hi] at this
    exact this
  have mem : ∀ k : Nat, (valV (mergeK [] ((List.range ((rw.getD x []).map vi).length).map fun i => ((.inl ((st.getD ((rw.getD x []).getD i 0) 0 : Nat) : Int) : Key), V.bl true))) (.inl (k : Int))).isSome = decide (k ∈ shw rw st x) := by
    intro k
    by_cases hk : k ∈ shw rw st x
    · rw [decide_eq_true hk, merge_in _ _ _ (.bl true) ?_ ?_]
      · rfl
      · obtain ⟨y, hy, e⟩ := mem_shw.mp hk
        obtain ⟨i, hi, e2⟩ := List.getElem_of_mem hy
        rw [List.map_map]
        refine List.mem_map.mpr ⟨i, List.mem_range.mpr (by rw [List.length_map]; exact hi), ?_⟩
        show (Sum.inl _ : Key) = _
        rw [List.getD_eq_getElem?_getD (l := rw.getD x []), List.getElem?_eq_getElem hi, Option.getD_some, e2, e]
      · intro z hz
        obtain ⟨i, _, e⟩ := List.mem_map.mp hz
        cases e
        rfl
    · rw [decide_eq_false hk, merge_out _ _ _ ?_]
      · rfl
      · intro q
        rw [List.map_map] at q
        obtain ⟨i, hi, e⟩ := List.mem_map.mp q
        have hi := List.mem_range.mp hi
        rw [List.length_map] at hi
        have e : ((st.getD ((rw.getD x []).getD i 0) 0 : Nat) : Int) = (k : Int) := Sum.inl.inj e
        rw [List.getD_eq_getElem?_getD (l := rw.getD x []), List.getElem?_eq_getElem hi, Option.getD_some] at e
        exact hk (mem_shw.mpr ⟨_, List.getElem_mem hi, Int.ofNat.inj e⟩)
  refine ⟨fun m σ H' => ∃ (k : Nat) (z : Option V), σ = [some (.ref a), some (.ref b), some (vi x), some (.ref D), some (vi k), z] ∧ (∀ j, j < k → j ∈ shw rw st x) ∧ k ≤ top (shw rw st x) ∧ m = top (shw rw st x) - k ∧ H' = H2, ⟨_, 0, _, rfl, fun j hj => absurd hj (Nat.not_lt_zero _), Nat.zero_le _, rfl, rfl⟩, ?_⟩
  rintro m σ H' ⟨k, z, rfl, hall, hk, rfl, rfl⟩
  refine ⟨vi k, rfl, .ref D, rfl, D, _, rfl, DGet.k (k := .inl (k : Int)) hD, _, rfl, ?_⟩
  rw [mem k]
  refine ite2 (fun c => ?_) (fun c => ?_)
  · have hin := of_decide_eq_true c
    have hlt := lt_top hin
    refine ⟨fun σ' H'' => ∃ z, σ' = [some (.ref a), some (.ref b), some (vi x), some (.ref D), some (vi (k + 1)), z] ∧ H'' = H', fun σ' H'' ⟨z, e1, e2⟩ => ⟨top (shw rw st x) - (k + 1), by omega, k + 1, z, e1, fun j hj => ?_, by omega, rfl, e2⟩, vi k, rfl, k, 1, rfl, rfl, _, rfl, rfl⟩
    by_cases e : j = k
    · rw [e]; exact hin
    · exact hall j (by omega)
  · have hout : k ∉ shw rw st x := of_decide_eq_false (Bool.eq_false_iff.mpr c)
    have e : fr rw st x = k := mex_uniq hout hall
    refine ⟨vi k, rfl, ?_⟩
    rw [← e]
    exact q _ s2
end
end Mx
set_option maxHeartbeats 4000000
namespace Mx
open PySem PySem.Spec PyProof.Rows L2
/-- a part of a tuple of numbers: that tuple or a new one -/
theorem sl_vi {K : PySem.W.Frag} {H : Hp} {b : Addr} {st : List Nat} {lo hi : Option Int} {l : List Nat} {Q : VK} (hb : TN K H b st) (hl : cutV (st.map vi) lo hi = l.map vi) (q : ∀ p H', Same H H' → TN K H' p l → Q (.ref p) H') : rSlA K (.ref b) lo hi H Q := by
  refine ⟨b, st.map vi, rfl, hb, fun ⟨e1, e2⟩ => ?_, fun _ p np => q p _ (sameN np) (SqT.of ?_)⟩
  · refine q b H (Same.refl _) ?_
    have e : cutV (st.map vi) lo hi = st.map vi := by
      unfold cutV
      rw [e1, e2, List.drop_zero, Nat.sub_zero, List.take_length]
    rw [e] at hl
    rw [← vi_inj hl]
    exact hb
  · rw [upd_same, hl]
theorem cut_to (st : List Nat) (x : Nat) (h : x ≤ st.length) : cutV (st.map vi) none (some (x : Int)) = (st.take x).map vi := by
  unfold cutV
  have e1 : HT.sIx (st.map vi).length 0 none = 0 := rfl
  have e2 : HT.sIx (st.map vi).length (st.map vi).length (some (x : Int)) = x := by
    have hx : ¬ ((x : Int) < 0) := by omega
    simp [HT.sIx, hx]
    omega
  rw [e1, e2, List.drop_zero, Nat.sub_zero, List.map_take]
theorem cut_from (st : List Nat) (x : Nat) (h : x ≤ st.length) : cutV (st.map vi) (some (x : Int)) none = (st.drop x).map vi := by
  unfold cutV
  have e1 : HT.sIx (st.map vi).length 0 (some (x : Int)) = x := by
    have hx : ¬ ((x : Int) < 0) := by omega
    simp [HT.sIx, hx]
    omega
  have e2 : HT.sIx (st.map vi).length (st.map vi).length none = (st.map vi).length := rfl
  rw [e1, e2, List.map_drop]
  refine List.take_of_length_le ?_
  simp
theorem cut_from1 (st : List Nat) (x : Nat) (h : x < st.length) : cutV (st.map vi) (some ((x : Int) + 1)) none = (st.drop (x + 1)).map vi := by
  have e : (x : Int) + 1 = ((x + 1 : Nat) : Int) := by omega
  rw [e]
  exact cut_from st (x + 1) h
section
variable {P : Program} {w : World} {K : PySem.W.Frag} {mg : Str → Option Value} {base : Heap}
theorem cd_key_in (B : Bz mg) (D : Dfn K mg "key_in" sKeyIn ["rows", "state", "room"]) (C1 : Cd P w K mg base 1 "free_number" ["rows", "state", "room"] (spFree K)) : Cd P w K mg base 2 "key_in" ["rows", "state", "room"] (spKeyIn K) := by
  refine cd_of D scKeyIn (fun vs H Q E h => ?_) (fun f cdv A outer s H vs Q E hr h => ?_)
  · obtain ⟨n, x, a, b, rw, st, rfl, _⟩ := h
    rfl
  obtain ⟨n, x, a, b, rw, st, rfl, hR, hz, hb, ln, hx, q⟩ := h
  refine ⟨_, pss_one (ps_ret (pe_tup (StX.pa_star (pe_slice sl_tupA (pv 1) po_none (po_some (pv 2))) (pa_cons (pe_cd C1 hr (pa_cons (pv 0) (pa_cons (pv 1) (pa_cons (pv 2) pa_nil)))) (StX.pa_star (pe_slice sl_tupA (pv 1) (po_some (pe_op op_add (pv 2) pe_int)) po_none) pa_nil))))), ?_⟩
  have hn := hz.n8
  refine ⟨.ref b, rfl, vi x, rfl, x, rfl, sl_vi hb (cut_to st x (by omega)) fun p1 H1 s1 h1 => ?_⟩
  refine ⟨p1, _, rfl, .inl h1, .ref a, rfl, .ref b, rfl, vi x, rfl, n, x, a, b, rw, st, rfl, sameRws s1 hR, hz, sameT s1 hb, ln, hx, fun H2 s2 => ?_⟩
  refine ⟨.ref b, rfl, vi x, rfl, x, 1, rfl, rfl, _, rfl, ?_⟩
  simp only [tNoPart]
  refine sl_vi (sameT (s1.trans s2) hb) (cut_from1 st x (by omega)) fun p3 H3 s3 h3 => ?_
  refine ⟨p3, _, rfl, .inl h3, ?_⟩
  have e : (st.take x).map vi ++ (vi (fr rw st x) :: ((st.drop (x + 1)).map vi ++ [])) = (keyL rw st x).map vi := by
    rw [← key_cut (by omega), List.map_append, List.map_cons, List.append_nil]
  refine ⟨?_, fun p np => q p _ (s1.trans (s2.trans (s3.trans (sameN np)))) ?_⟩
  · show ((st.take x).map vi ++ (vi (fr rw st x) :: ((st.drop (x + 1)).map vi ++ []))).length ≤ sizeLine
    rw [e, List.length_map]
    unfold keyL
    rw [List.length_set]
    exact Nat.le_of_lt (small1000 (by omega))
  · rw [upd_same]
    exact congrArg (fun z => some (HO.tup z)) e
theorem key_len (rw : List (List Nat)) (st : List Nat) (x : Nat) : (keyL rw st x).length = st.length := by
  unfold keyL
  rw [List.length_set]
theorem keys_len (rw : List (List Nat)) : ∀ (ks st : List Nat), (ks.foldl (keyL rw) st).length = st.length
  | [], st => rfl
  | x :: ks, st => by rw [List.foldl_cons, keys_len rw ks, key_len]
theorem at_last {xs : List V} {v : V} : atI (xs ++ [v]) (-1) = some v := by
  unfold atI ixN
  rw [if_neg (by omega), if_pos (by rw [List.length_append]; simp; omega)]
  have e : ((-1 : Int) + ((xs ++ [v]).length : Nat)).toNat = xs.length := by
    rw [List.length_append]
    simp
    omega
  rw [e]
  simp
theorem cd_story_in (B : Bz mg) (D : Dfn K mg "story_in" sStoryIn ["rows", "state", "keys"]) (C1 : Cd P w K mg base 2 "key_in" ["rows", "state", "room"] (spKeyIn K)) : Cd P w K mg base 3 "story_in" ["rows", "state", "keys"] (spStoryIn K) := by
  refine cd_of D scStoryIn (fun vs H Q E h => ?_) (fun f cdv A outer s H vs Q E hr h => ?_)
  · obtain ⟨n, a, b, c, rw, st, ks, rfl, _⟩ := h
    rfl
  obtain ⟨n, a, b, c, rw, st, ks, rfl, hR, hz, hb, ln, hc, hlt, hl, q⟩ := h
  refine ⟨_, pss_cons (ps_set ndStoryIn (i := 3) rfl (Or.inl rfl) (pe_lst (pa_cons (pv 1) pa_nil)))
    (pss_cons (ps_for PassesOwn.never rfl (pi_tup (pv 2)) (pg_name ndStoryIn (i := 4) rfl (Or.inl rfl))
        (pss_one (ps_expr (pe_bm PySem.F.plainAttrs_list PySem.F.slot_list_append PySem.F.type_list_append mt_append (pv 3) (pa_cons (pe_cd C1 hr (pa_cons (pv 0) (pa_cons (pe_ix ix_list (pv 3) (pe_un un_neg pe_int) (fun _ _ => rfl)) (pa_cons (pv 4) pa_nil)))) pa_nil)))))
      (pss_one (ps_ret (pv 3)))), ?_⟩
  refine ⟨.ref b, rfl, by show 1 ≤ sizeLine; decide, fun L nL => ?_⟩
  have hn := hz.n8
  refine ⟨.ref c, rfl, c, rfl, ⟨_, sameT (sameN nL) hc⟩, ?_⟩
  refine for_tup (xs := ks.map vi) (fun i σ H' => (∃ u, σ = [some (.ref a), some (.ref b), some (.ref c), some (.ref L), u]) ∧ Same H H' ∧ ∃ ys p, H' L = some (.lst (ys ++ [V.ref p])) ∧ ys.length = i ∧ TN K H' p ((ks.take i).foldl (keyL rw) st)) ⟨⟨_, rfl⟩, sameN nL, [], b, upd_same, rfl, sameT (sameN nL) hb⟩
    (fun i σ H' _ h => sameT h.2.1 hc) (fun i x σ H' hx h => ?_) (fun σ H' h => ?_)
  · obtain ⟨⟨u, rfl⟩, sm, ys, p, hL, hy, hp⟩ := h
    obtain ⟨hi, rfl⟩ := get_vi hx
    have hm := hlt _ (List.getElem_mem hi)
    refine ⟨.ref L, rfl, .inl ⟨rfl, _, SqL.of hL⟩, .ref a, rfl, .ref L, rfl, 1, rfl, L, _, -1, .ref p, rfl, rfl, SqL.of hL, at_last, _, rfl, n, _, a, p, rw, _, rfl, sameRws sm hR, hz, hp, by rw [keys_len, ln], hm, fun p2 H2 s2 h2 => ?_⟩
    have hL2 := s2 _ _ hL
    refine ⟨L, _, .ref p2, rfl, rfl, hL2, ?_, ⟨_, rfl⟩, ExD.of_new (sm.trans s2) nL exD_upd, ys ++ [V.ref p], p2, upd_same, by rw [List.length_append, hy]; rfl, ?_⟩
    · rw [List.length_append, hy]
      exact small1000 (by simp; omega)
    · have e : ks.take (i + 1) = ks.take i ++ [ks[i]] := by rw [List.take_add_one, List.getElem?_eq_getElem hi]; rfl
      rw [e, List.foldl_append]
      refine SqT.of ?_
      rw [upd_ne (fun e : p2 = L => by rw [e, hL2] at h2; cases h2)]
      exact h2
  · obtain ⟨⟨u, rfl⟩, sm, ys, p, hL, hy, hp⟩ := h
    rw [List.length_map, List.take_length] at hp
    exact ⟨.ref L, rfl, q L p ys H' sm (SqL.of hL) hp⟩
theorem cd_after (B : Bz mg) (D : Dfn K mg "after" sAfter ["house", "state", "keys"]) (C1 : Cd P w K mg base 3 "story_in" ["rows", "state", "keys"] (spStoryIn K)) (C2 : Cd P w K mg base 5 "need_state" ["house", "state"] (spNeedNumbers K)) (C3 : Cd P w K mg base 3 "need_row" ["house", "keys"] (spNeedRow K)) (C4 : Cd P w K mg base 1 "near" ["house"] (spNear K)) :
    Cd P w K mg base 6 "after" ["house", "state", "keys"] (spAfter K) := by
  refine cd_of D scAfter (fun vs H Q E h => ?_) (fun f cdv A outer s H vs Q E hr h => ?_)
  · obtain ⟨n, a, b, c, ds, st, ks, rfl, _⟩ := h
    rfl
  obtain ⟨n, a, b, c, ds, st, ks, rfl, hs, hc, hlt, hl, q⟩ := h
  refine ⟨_, pss_cons (ps_expr (pe_cd C2 hr (pa_cons (pv 0) (pa_cons (pv 1) pa_nil)))) (pss_cons (ps_expr (pe_cd C3 (hr.mono (by decide)) (pa_cons (pv 0) (pa_cons (pv 2) pa_nil))))
    (pss_one (ps_ret (pe_ix ix_list (pe_cd C1 (hr.mono (by decide)) (pa_cons (pe_cd C4 (hr.mono (by decide)) (pa_cons (pv 0) pa_nil)) (pa_cons (pv 1) (pa_cons (pv 2) pa_nil)))) (pe_un un_neg pe_int) (fun _ _ => rfl))))), ?_⟩
  refine ⟨.ref a, rfl, .ref b, rfl, n, a, b, ds, st, rfl, hs, fun H1 s1 => ?_⟩
  refine ⟨.ref a, rfl, .ref c, rfl, n, a, c, ds, ks, rfl, (hs.same s1).hs, hs.ok, sameT s1 hc, hlt, hl, fun H2 s2 => ?_⟩
  have s12 := s1.trans s2
  refine ⟨.ref a, rfl, n, a, ds, rfl, (hs.same s12).hs, hs.ok, fun r H3 s3 h3 => ?_⟩
  have s13 := s12.trans s3
  refine ⟨.ref b, rfl, .ref c, rfl, n, r, b, c, nearM n ds, st, ks, rfl, h3, hz_near hs.ok, sameT s13 hs.tn, hs.ln, sameT s13 hc, hlt, hl, fun L p ys H4 s4 hL hp => ?_⟩
  exact ⟨1, rfl, L, _, -1, .ref p, rfl, rfl, hL, at_last, q p H4 (s13.trans s4) hp⟩
theorem cd_like_in (B : Bz mg) (D : Dfn K mg "like_in" sLikeIn ["house", "state"]) : Cd P w K mg base 1 "like_in" ["house", "state"] (spLikeIn K) := by
  refine cd_of D scLikeIn (fun vs H Q E h => ?_) (fun f cdv A outer s H vs Q E hr h => ?_)
  · obtain ⟨n, a, b, ds, st, rfl, _⟩ := h
    rfl
  obtain ⟨n, a, b, ds, st, rfl, hs, hp, q⟩ := h
  obtain ⟨t, hT, as, hT2, hl, ha⟩ := hs.hs
  refine ⟨_, pss_one (ps_ret (pe_lc (own := [("door", 2)]) rfl ndLikeIn (pi_tup (pe_ix ix_tup (pv 0) pe_int (fun _ _ => rfl))) (blkOk_by (N := nLikeIn) (sc := defScope sLikeIn) (by decide +kernel)) (fun s H C cl fp => pg_name ndLikeIn (i := 2) rfl (Or.inl rfl))
      (fun s H C cl fp => pts_one (pt_cmpR op_eq (pe_ix (ix_tup : IxR _ (rIxT K)) (pv 1) (pe_ix (ix_tup : IxR _ (rIxT K)) (pv 2) pe_int (fun _ _ => rfl)) (fun _ _ => rfl)) (pe_ix (ix_tup : IxR _ (rIxT K)) (pv 1) (pe_ix (ix_tup : IxR _ (rIxT K)) (pv 2) pe_int (fun _ _ => rfl)) (fun _ _ => rfl)) rfl)) (fun s H C cl fp => pv 2))), ?_⟩
  refine ⟨.ref a, rfl, a, _, 1, _, rfl, rfl, hT, rfl, t, rfl, ⟨_, hT2⟩, ?_⟩
  have hlen := hs.ok.len
  refine lcT (xs := as.map V.ref) (fun i => none) hT2 (by rw [List.length_map, hl]; omega) (fun i x H2 hx s2 N k1 k2 => ?_) (fun D H2 nD s2 hD => ?_)
  · obtain ⟨p, hp1, rfl⟩ := get_map hx
    have hi : i < ds.length := by
      have := (List.getElem?_eq_some_iff.mp hp1).1
      omega
    obtain ⟨p', hp', hd⟩ := ha i ds[i] (List.getElem?_eq_getElem hi)
    rw [hp1] at hp'
    cases hp'
    obtain ⟨l1, l2⟩ := hs.ok.lt ds[i] (List.getElem_mem hi)
    have hb := sameT s2 hs.tn
    have hd := sameT s2 hd
    refine ⟨rfl, ?_⟩
    refine ⟨.ref b, rfl, .ref p, rfl, p, _, 0, _, rfl, rfl, hd, rfl, b, _, _, _, rfl, rfl, hb, at_vi (by rw [hs.ln]; omega), .ref b, rfl, .ref p, rfl, p, _, 1, _, rfl, rfl, hd, rfl, b, _, _, _, rfl, rfl, hb, at_vi (by rw [hs.ln]; omega), rfl, _, rfl, ?_⟩
    rw [dec_vi_eq, decide_eq_false (hp _ (List.getElem_mem hi))]
    exact iteF (k2 _ rfl (Same.refl _))
  · refine q D H2 s2 ?_
    rw [hD]
    have : ∀ l : List Nat, l.filterMap (fun _ => (none : Option V)) = [] := fun l => by induction l with
      | nil => rfl
      | cons a l ih => rw [List.filterMap_cons]; exact ih
    rw [this]
theorem cd_need_parted (B : Bz mg) (D : Dfn K mg "need_parted" sNeedParted ["house", "state"]) (C1 : Cd P w K mg base 5 "need_state" ["house", "state"] (spNeedNumbers K)) (C2 : Cd P w K mg base 1 "like_in" ["house", "state"] (spLikeIn K)) :
    Cd P w K mg base 6 "need_parted" ["house", "state"] (spNeedParted K) := by
  refine cd_of D scNeedParted (fun vs H Q E h => ?_) (fun f cdv A outer s H vs Q E hr h => ?_)
  · obtain ⟨n, a, b, ds, st, rfl, _⟩ := h
    rfl
  obtain ⟨n, a, b, ds, st, rfl, hs, hp, q⟩ := h
  refine ⟨_, pss_cons (ps_expr (pe_cd C1 hr (pa_cons (pv 0) (pa_cons (pv 1) pa_nil)))) (pss_one (ps_if (pt_cmpR (op_neD hr.units) (pe_cd C2 (hr.mono (by decide)) (pa_cons (pv 0) (pa_cons (pv 1) pa_nil))) (pe_lst pa_nil) rfl) (pss_one ps_never) pss_nil)), ?_⟩
  refine ⟨.ref a, rfl, .ref b, rfl, n, a, b, ds, st, rfl, hs, fun H1 s1 => ?_⟩
  refine ⟨.ref a, rfl, .ref b, rfl, n, a, b, ds, st, rfl, hs.same s1, hp, fun p H2 s2 h2 => ?_⟩
  refine ⟨Nat.zero_le _, fun l nl => ?_⟩
  have hp2 : (upd H2 l (.lst [])) p = some (.lst []) := by
    rw [upd_ne (ne_of_none h2 nl)]
    exact h2
  refine ne_ll (l := []) (l' := []) (SqL.of hp2) (SqL.of upd_same) ⟨_, rfl, ?_⟩
  refine iteNS rfl ?_
  exact q _ (s1.trans (s2.trans (sameN nl)))
theorem cd_rests_in (B : Bz mg) (D : Dfn K mg "rests_in" sRestsIn ["rows", "state"]) (C1 : Cd P w K mg base 1 "free_number" ["rows", "state", "room"] (spFree K)) : Cd P w K mg base 2 "rests_in" ["rows", "state"] (spRestsIn K) := by
  refine cd_of D scRestsIn (fun vs H Q E h => ?_) (fun f cdv A outer s H vs Q E hr h => ?_)
  · obtain ⟨n, a, b, rw, st, rfl, _⟩ := h
    rfl
  obtain ⟨n, a, b, rw, st, rfl, hR, hz, hb, ln, hfix, q⟩ := h
  refine ⟨_, pss_one (ps_ret (pe_callB (cr_all rfl) (by rfl) B.zall b_all (pa_cons (pe_lc (own := [("room", 2), ("number", 3)]) rfl ndRestsIn (pi_enumT (by rfl) B.zenumerate (pa_cons (pv 1) pa_nil)) (blkOk_by (N := nRestsIn) (sc := defScope sRestsIn) (by decide +kernel))
      (fun s H C cl fp => (pg_tup (n := 2) rfl (pgs_cons (pg_name ndRestsIn (i := 2) rfl (Or.inl rfl)) (pgs_cons (pg_name ndRestsIn (i := 3) rfl (Or.inl rfl)) pgs_nil)) : PG _ _ (gTup K 2 (gCons (gName 2) (gCons (gName 3) gNil))))) (fun s H C cl fp => pts_nil)
      (fun s H C cl fp => pe_cmpR op_eq (pe_cd C1 hr (pa_cons (pv 0) (pa_cons (pv 1) (pa_cons (pv 2) pa_nil)))) (pv 3) rfl)) pa_nil))), ?_⟩
  have hn := hz.n8
  refine ⟨.ref b, rfl, b, _, rfl, hb, ?_⟩
  refine lcE (xs := st.map vi) (fun i => some (.bl true)) hb (by rw [List.length_map]; omega) (fun i x T H2 hx s2 hT N k1 k2 => ?_) (fun D H2 nD s2 hD => ?_)
  · obtain ⟨hi, rfl⟩ := get_vi hx
    refine pair_nm (SqT.of hT) ?_
    refine lcY ?_
    refine ⟨.ref a, rfl, .ref b, rfl, vi i, rfl, n, i, a, b, rw, st, rfl, sameRws s2 hR, hz, sameT s2 hb, ln, by omega, fun H3 s3 => ?_⟩
    refine ⟨_, rfl, rfl, ?_⟩
    have e : decide (vi (fr rw st i) = vi st[i]) = true := by
      rw [dec_vi_eq, hfix i (by omega)]
      refine decide_eq_true ?_
      rw [List.getD_eq_getElem?_getD, List.getElem?_eq_getElem hi]
      rfl
    rw [e]
    exact k1 _ _ rfl s3
  · refine ⟨D, (List.range (st.map vi).length).map fun _ => true, rfl, ?_, ?_⟩
    · rw [List.map_map]
      have e : (List.range (st.map vi).length).filterMap (fun _ => some (V.bl true)) = (List.range (st.map vi).length).map (V.bl ∘ fun _ => true) := fm_map _ _
      rw [← e]
      exact SqL.of hD
    · have e2 : ((List.range (st.map vi).length).map fun _ => true).all id = true := by
        rw [List.all_map, List.all_eq_true]
        intro x _
        rfl
      rw [e2]
      exact q _ s2
end
end Mx
set_option maxHeartbeats 4000000
namespace Mx
open PySem PySem.Spec PyProof.Rows L2
theorem range_fm {α β : Type} (d : α) (q : α → Bool) (g : α → β) : ∀ l : List α, ((List.range l.length).filter fun i => q (l.getD i d)).map (fun i => g (l.getD i d)) = (l.filter q).map g
  | [] => rfl
  | x :: l => by
    have ih := range_fm d q g l
    rw [List.length_cons, List.range_succ_eq_map, List.filter_cons, List.filter_map]
    have e1 : ((fun i => q ((x :: l).getD i d)) ∘ Nat.succ) = fun i => q (l.getD i d) := by
      funext i
      simp
    have e0 : (x :: l).getD 0 d = x := rfl
    rw [e1, e0, List.filter_cons]
    by_cases h : q x = true
    · rw [if_pos h, if_pos h, List.map_cons, List.map_cons, List.map_map, ← ih]
      congr 1
    · rw [if_neg h, if_neg h, List.map_map, ← ih]
      congr 1
def Tups (H : Hp) (ks : List (Addr × List Nat)) : Prop := ∀ k, k ∈ ks → H k.1 = some (.tup (k.2.map vi))
abbrev rf (k : Addr × List Nat) : V := .ref k.1
theorem in_op {K : PySem.W.Frag} {H : Hp} {a : Addr} {S : List Nat} {y : Nat} {Q : VK} (h : TN K H a S ∨ LN K H a S) (q : Q (.bl (decide (y ∈ S))) H) : rIn K false (vi y) (.ref a) H Q :=
  ⟨a, S.map vi, rfl, h.symm, rfl, flat_vi S, by rw [inV_vi]; exact q⟩
theorem notin_op {K : PySem.W.Frag} {H : Hp} {a : Addr} {S : List Nat} {y : Nat} {Q : VK} (h : TN K H a S ∨ LN K H a S) (q : Q (.bl (!decide (y ∈ S))) H) : rIn K true (vi y) (.ref a) H Q :=
  ⟨a, S.map vi, rfl, h.symm, rfl, flat_vi S, by rw [inV_vi]; exact q⟩
/-- any([other in some for other in row]) -/
theorem anyin {K : PySem.W.Frag} {σ : L2.St} {H : Hp} {r sa : Addr} {row S : List Nat} {vs : List Nat} {i j : Nat} {Q : Addr → Hp → Prop} (hr : LN K H r row) (hl : row.length ≤ 1000) (hS : TN K H sa S) (hw : ∀ y, wipe ((wipe σ vs).set j (some y)) vs = wipe σ vs)
    (gj : ∀ y : V, ((wipe σ vs).set j (some y))[j]? = some (some y)) (gi : ∀ y : V, ((wipe σ vs).set j (some y))[i]? = some (some (V.ref sa)))
    (q : ∀ D H', Same H H' → SqL K H' D ((row.map fun y => decide (y ∈ S)).map V.bl) → Q D H') : LcGoal (Itl K r) (gName j) tYes (tOp (rIn K false) (tVar j) (tVar i)) vs σ H Q := by
  refine lcL (xs := row.map vi) (fun m => some (.bl (decide (row.getD m 0 ∈ S)))) hr (by rw [List.length_map]; exact hl) (fun m x H2 hx s2 N k1 k2 => ?_) (fun D H2 nD s2 hD => ?_)
  · obtain ⟨hm, rfl⟩ := get_vi hx
    refine lcY ?_ (hw _)
    refine ⟨_, gj _, _, gi _, in_op (.inl (sameT s2 hS)) ?_⟩
    refine k1 _ _ ?_ (Same.refl _)
    rw [List.getD_eq_getElem?_getD, List.getElem?_eq_getElem hm]
    rfl
  · refine q D H2 s2 (SqL.of ?_)
    rw [hD, fm_map, List.length_map]
    have := range_fm 0 (fun _ => true) (fun y => V.bl (decide (y ∈ S))) row
    rw [filt_true, filt_true] at this
    rw [this, List.map_map]
    rfl
theorem any_dec (row S : List Nat) : (row.map fun y => decide (y ∈ S)).any id = row.any fun y => decide (y ∈ S) := by
  rw [List.any_map]
  rfl
abbrev sLargestIn : Stmt := topS 33
abbrev sIsLargest : Stmt := topS 34
abbrev sNeedRest : Stmt := topS 35
abbrev nLargestIn : List Str := ["rows", "rooms", "found", "room", "some", "other"]
abbrev nIsLargest : List Str := ["rows", "rooms", "some", "room", "other"]
abbrev nNeedRest : List Str := ["house", "rest"]
theorem ndLargestIn : nLargestIn.Nodup := by decide +kernel
theorem ndIsLargest : nIsLargest.Nodup := by decide +kernel
theorem scLargestIn : FnScope nLargestIn ["rows", "rooms"] (defScope sLargestIn) := ⟨rfl, rfl, rfl, by decide +kernel, rfl, by decide +kernel, by decide +kernel⟩
theorem scIsLargest : FnScope nIsLargest ["rows", "rooms", "some"] (defScope sIsLargest) := ⟨rfl, rfl, rfl, by decide +kernel, rfl, by decide +kernel, by decide +kernel⟩
theorem scNeedRest : FnScope nNeedRest ["house", "rest"] (defScope sNeedRest) := ⟨rfl, rfl, rfl, by decide +kernel, rfl, by decide +kernel, by decide +kernel⟩
def spIsLargest (K : PySem.W.Frag) : Sp := fun vs H Q _ => ∃ (n : Nat) (a b c : Addr) (rw : List (List Nat)) (rs S : List Nat), vs = [.ref a, .ref b, .ref c] ∧ Rws K H a rw ∧ Hz n rw ∧ TN K H b rs ∧ rs.length ≤ 8 ∧ (∀ x, x ∈ rs → x < n) ∧ TN K H c S ∧ ∀ H', Same H H' → Q (.bl (lrg rw rs S)) H'
def spLargestIn (K : PySem.W.Frag) : Sp := fun vs H Q _ => ∃ (n : Nat) (a b : Addr) (rw : List (List Nat)) (rs : List Nat), vs = [.ref a, .ref b] ∧ Rws K H a rw ∧ Hz n rw ∧ TN K H b rs ∧ rs ≠ [] ∧ rs.length ≤ 8 ∧ (∀ x, x ∈ rs → x < n) ∧
  ∀ L ks H', Same H H' → H' L = some (.lst (ks.map rf)) → Tups H' ks → (∀ S, S ∈ ks.map (·.2) ↔ S ∈ largest rw rs) → ks.length ≤ 2 ^ rs.length → Q (.ref L) H'
def spNeedRest (K : PySem.W.Frag) : Sp := fun vs H Q _ => ∃ (n : Nat) (a b : Addr) (ds : List (Nat × Nat)) (st : List Nat), vs = [.ref a, .ref b] ∧ HS K H a b n ds st ∧ (∀ x, x < n → fr (nearM n ds) st x = st.getD x 0) ∧ ∀ H', Same H H' → Q .non H'
section
variable {P : Program} {w : World} {K : PySem.W.Frag} {mg : Str → Option Value} {base : Heap}
theorem cd_is_largest (B : Bz mg) (D : Dfn K mg "is_largest" sIsLargest ["rows", "rooms", "some"]) : Cd P w K mg base 1 "is_largest" ["rows", "rooms", "some"] (spIsLargest K) := by
  refine cd_of D scIsLargest (fun vs H Q E h => ?_) (fun f cdv A outer s H vs Q E hr h => ?_)
  · obtain ⟨n, a, b, c, rw, rs, S, rfl, _⟩ := h
    rfl
  obtain ⟨n, a, b, c, rw, rs, S, rfl, hR, hz, hb, hl8, hlt, hc, q⟩ := h
  refine ⟨_, pss_one (ps_ret (pe_callB (cr_all rfl) (by rfl) B.zall b_all (pa_cons (pe_lc (own := [("room", 3)]) rfl ndIsLargest (pi_tup (pv 1)) (blkOk_by (N := nIsLargest) (sc := defScope sIsLargest) (by decide +kernel)) (fun s H C cl fp => pg_name ndIsLargest (i := 3) rfl (Or.inl rfl)) (fun s H C cl fp => pts_nil)
      (fun s H C cl fp => pe_or (pe_cmpR (op_in_seq : OpR _ _ (rIn K false)) (pv 3) (pv 2) rfl) (pe_one (pe_callB (cr_any rfl : CallR _ _ (rAny K)) (by rfl) B.zany b_any (pa_cons (pe_lc (own := [("other", 4)]) rfl ndIsLargest (pi_list (pe_ix (ix_list : IxR _ (rIxL K)) (pv 0) (pv 3) (fun _ _ => rfl)) : PI _ _ _ (iList K (tOp (rIxL K) (tVar 0) (tVar 3)))) (blkOk_by (by rfl))
          (fun s H C cl fp => pg_name ndIsLargest (i := 4) rfl (Or.inl rfl)) (fun s H C cl fp => pts_nil) (fun s H C cl fp => pe_cmpR (op_in_seq : OpR _ _ (rIn K false)) (pv 4) (pv 2) rfl)) pa_nil))))) pa_nil))), ?_⟩
  refine ⟨.ref b, rfl, b, rfl, ⟨_, hb⟩, ?_⟩
  refine lcT (xs := rs.map vi) (fun i => some (.bl (decide (rs.getD i 0 ∈ S) || (rw.getD (rs.getD i 0) []).any fun y => decide (y ∈ S)))) hb (by rw [List.length_map]; omega) (fun i x H2 hx s2 N k1 k2 => ?_) (fun D H2 nD s2 hD => ?_)
  · obtain ⟨hi, rfl⟩ := get_vi hx
    have e0 : rs.getD i 0 = rs[i] := getD_of (List.getElem?_eq_getElem hi)
    rw [e0] at k1
    refine lcY ?_
    refine ⟨_, rfl, .ref c, rfl, in_op (.inl (sameT s2 hc)) ⟨_, rfl, ?_⟩⟩
    refine ite2 (fun z => ?_) (fun z => ?_)
    · refine k1 _ _ ?_ (Same.refl _)
      rw [z, Bool.true_or]
    · have z' : decide (rs[i] ∈ S) = false := Bool.eq_false_iff.mpr z
      obtain ⟨as, p, h1, h2, h3⟩ := rws_get (sameRws s2 hR) (x := rs[i]) (by rw [hz.gr.len]; exact hlt _ (List.getElem_mem hi))
      refine ⟨.ref a, rfl, vi rs[i], rfl, a, as, _, .ref p, rfl, rfl, h1, h2, p, rfl, ⟨_, h3⟩, ?_⟩
      refine anyin h3 (by have := hz.sh rs[i]; omega) (sameT s2 hc) (fun _ => rfl) (fun _ => rfl) (fun _ => rfl) fun L H3 s3 hL => ⟨L, _, rfl, hL, ?_⟩
      refine k1 _ _ ?_ s3
      rw [z', Bool.false_or, any_dec]
  · refine ⟨D, (List.range rs.length).map fun i => (decide (rs.getD i 0 ∈ S) || (rw.getD (rs.getD i 0) []).any fun y => decide (y ∈ S)), rfl, ?_, ?_⟩
    · refine SqL.of ?_
      rw [hD, fm_map, List.map_map, List.length_map]
      rfl
    · have e : ((List.range rs.length).map fun i => (decide (rs.getD i 0 ∈ S) || (rw.getD (rs.getD i 0) []).any fun y => decide (y ∈ S))).all id = lrg rw rs S := by
        have := range_fm 0 (fun _ => true) (fun x => (decide (x ∈ S) || (rw.getD x []).any fun y => decide (y ∈ S))) rs
        rw [filt_true, filt_true] at this
        rw [this, List.all_map]
        rfl
      rw [e]
      exact q H2 s2
theorem cd_largest_in (B : Bz mg) (D : Dfn K mg "largest_in" sLargestIn ["rows", "rooms"]) (C1 : Cd P w K mg base 1 "is_largest" ["rows", "rooms", "some"] (spIsLargest K)) : Cd P w K mg base 2 "largest_in" ["rows", "rooms"] (spLargestIn K) := by
  refine cd_of D scLargestIn (fun vs H Q E h => ?_) (fun f cdv A outer s H vs Q E hr h => ?_)
  · obtain ⟨n, a, b, rw, rs, rfl, _⟩ := h
    rfl
  obtain ⟨n, a, b, rw, rs, rfl, hR, hz, hb, hne, hl8, hlt, q⟩ := h
  refine ⟨_, pss_cons (ps_set ndLargestIn (i := 2) rfl (Or.inl rfl) (pe_lst (pa_cons (pe_tup pa_nil) pa_nil)))
    (pss_cons (ps_for PassesOwn.never rfl (pi_tup (pv 1)) (pg_name ndLargestIn (i := 3) rfl (Or.inr rfl))
        (pss_one (ps_expr (pe_bm PySem.F.plainAttrs_list PySem.F.slot_list_extend PySem.F.type_list_extend mt_extend (pv 2) (pa_cons
          (pe_lc (own := [("some", 4)]) rfl ndLargestIn (pi_list (pv 2)) (blkOk_by (N := nLargestIn) (sc := defScope sLargestIn) (by decide +kernel)) (fun s H C cl fp => pg_name ndLargestIn (i := 4) rfl (by first | exact Or.inl rfl | exact Or.inr rfl))
            (fun s H C cl fp => pts_one (pt_not (pt_val (pe_callB (cr_any rfl : CallR _ _ (rAny K)) (by rfl) B.zany b_any (pa_cons (pe_lc (own := [("other", 5)]) rfl ndLargestIn (pi_list (pe_ix (ix_list : IxR _ (rIxL K)) (pv 0) (pv 3) (fun _ _ => rfl)) : PI _ _ _ (iList K (tOp (rIxL K) (tVar 0) (tVar 3)))) (blkOk_by (by rfl))
              (fun s H C cl fp => pg_name ndLargestIn (i := 5) rfl (Or.inl rfl)) (fun s H C cl fp => pts_nil) (fun s H C cl fp => pe_cmpR (op_in_seq : OpR _ _ (rIn K false)) (pv 5) (pv 4) rfl)) pa_nil)))))
            (fun s H C cl fp => pe_tup (StX.pa_star (pv 4) (pa_cons (pv 3) pa_nil) : PA _ _ (StX.tStar K (tVar 4) (tCons (tVar 3) tNil))))) pa_nil)))))
      (pss_one (ps_ret (pe_callB (cr_sortedTup hr.units) (by rfl) B.zsorted b_sorted (pa_cons (pe_lc (own := [("some", 4)]) rfl ndLargestIn (pi_list (pv 2)) (blkOk_by (N := nLargestIn) (sc := defScope sLargestIn) (by decide +kernel)) (fun s H C cl fp => pg_name ndLargestIn (i := 4) rfl (Or.inl rfl))
          (fun s H C cl fp => pts_one (pt_val (pe_cd C1 (hr.mono (by decide)) (pa_cons (pv 0) (pa_cons (pv 1) (pa_cons (pv 4) pa_nil)))))) (fun s H C cl fp => pv 4)) pa_nil))))), ?_⟩
  refine ⟨Nat.zero_le _, fun e0 ne0 => ?_⟩
  refine ⟨by show 1 ≤ sizeLine; decide, fun F nF => ?_⟩
  have sm0 : Same H (upd (upd H e0 (.tup [])) F (.lst [V.ref e0])) := (sameN ne0).trans (sameN nF)
  refine ⟨.ref b, rfl, b, rfl, ⟨_, sameT sm0 hb⟩, ?_⟩
  have nF0 : H F = none := (sameN ne0).free nF
  refine for_tup (xs := rs.map vi) (fun i σ H' => (∃ u v z, σ = [some (.ref a), some (.ref b), some (.ref F), u, v, z]) ∧ Same H H' ∧ ∃ ks : List (Addr × List Nat), H' F = some (.lst (ks.map rf)) ∧ Tups H' ks ∧ ks.map (·.2) = exts (okI rw) (rs.take i)) ⟨⟨_, _, _, rfl⟩, sm0, [(e0, [])], upd_same, fun k hk => ?_, rfl⟩
    (fun i σ H' _ h => sameT h.2.1 hb) (fun i x σ H' hx h => ?_) (fun σ H' h => ?_)
  · have e : k = (e0, []) := by simpa using hk
    rw [e, upd_ne (fun e : e0 = F => by rw [← e, upd_same] at nF; cases nF), upd_same]
    rfl
  · obtain ⟨⟨u, v, z, rfl⟩, sm, ks, hF, hT, hks⟩ := h
    obtain ⟨hi, rfl⟩ := get_vi hx
    have hxn := hlt _ (List.getElem_mem hi)
    have hkl : ks.length ≤ 256 := by
      have h1 := exts_length (okI rw) (rs.take i)
      rw [← hks, List.length_map, List.length_take] at h1
      refine Nat.le_trans h1 ?_
      exact Nat.pow_le_pow_right (by decide) (show min i rs.length ≤ 8 by omega)
    refine ⟨.ref F, rfl, .inl ⟨rfl, _, SqL.of hF⟩, .ref F, rfl, F, rfl, ⟨_, SqL.of hF⟩, ?_⟩
    refine lcXL (xs := ks.map rf) rf (fun m => okI rw rs[i] ((ks.map (·.2)).getD m [])) (fun D m k H => k.1 ≠ D ∧ H k.1 = some (.tup (k.2.map vi)) ∧ k.2 = (ks.map (·.2)).getD m [] ++ [rs[i]]) (fun D m k H H' h e => ⟨h.1, e _ _ h.2.1 h.1, h.2.2⟩) (SqL.of hF) (by rw [List.length_map]; omega) (fun D m y H2 N nD hD hy s2 k1 k2 => ?_) (fun D H2 bs nD s2 hD hB => ?_)
    · obtain ⟨k, hk, rfl⟩ := get_map hy
      have ek : (ks.map (·.2)).getD m [] = k.2 := getD_of (map_get hk)
      rw [ek] at k1 k2
      have hkT := s2 _ _ (hT k (List.mem_of_getElem? hk))
      refine ⟨rfl, ?_⟩
      obtain ⟨as, p, h1, h2, h3⟩ := rws_get (sameRws (sm.trans s2) hR) (x := rs[i]) (by rw [hz.gr.len]; exact hxn)
      refine ⟨.ref a, rfl, vi rs[i], rfl, a, as, _, .ref p, rfl, rfl, h1, h2, p, rfl, ⟨_, h3⟩, ?_⟩
      refine anyin h3 (by have := hz.sh rs[i]; omega) (SqT.of hkT) (fun _ => rfl) (fun _ => rfl) (fun _ => rfl) fun L3 H3 s3 hL3 => ⟨L3, _, rfl, hL3, _, rfl, ?_⟩
      rw [any_dec]
      have hkT3 := s3 _ _ hkT
      refine ite2 (fun c => ?_) (fun c => ?_)
      · refine ⟨.ref k.1, rfl, k.1, _, rfl, .inl (SqT.of hkT3), vi rs[i], rfl, ?_, fun p np => ?_⟩
        · show (k.2.map vi ++ [vi rs[i]]).length ≤ sizeLine
          have hkm : k.2 ∈ exts (okI rw) (rs.take i) := by rw [← hks]; exact List.mem_map.mpr ⟨k, List.mem_of_getElem? hk, rfl⟩
          have := (exts_sublist hkm).length_le
          rw [List.length_take] at this
          rw [List.length_append, List.length_map]
          exact Nat.le_of_lt (small1000 (by simp; omega))
        · refine k1 (p, k.2 ++ [rs[i]]) _ c (s3.trans (sameN np)) ⟨fun e => ?_, by rw [upd_same, List.map_append]; rfl, rfl⟩
          obtain ⟨acc, hacc⟩ := hD
          have := s3 _ _ hacc
          rw [← e] at this
          rw [this] at np
          cases np
      · exact k2 _ (Bool.eq_false_iff.mpr c) s3
    · have hF2 := s2 _ _ hF
      have eL := (hB.imp fun m k h => h.2.2.symm).map_eq (f := fun m => (ks.map (·.2)).getD m [] ++ [rs[i]]) (g := fun k : Addr × List Nat => k.2)
      have eR := range_fm [] (okI rw rs[i]) (fun s => s ++ [rs[i]]) (ks.map (·.2))
      rw [List.length_map] at eR eL
      rw [eR] at eL
      have hneF : D ≠ F := fun e => by rw [e, hF] at nD; cases nD
      refine ⟨F, D, _, _, rfl, rfl, hF2, hD, ?_, ⟨_, _, _, rfl⟩, ExD.of_new (sm.trans s2) nF0 exD_upd, ks ++ bs, by rw [upd_same, List.map_append], ?_, ?_⟩
      · rw [List.length_map, List.length_map, ← hB.len]
        have := List.length_filter_le (fun m => okI rw rs[i] ((ks.map (·.2)).getD m [])) (List.range (ks.map rf).length)
        rw [List.length_range, List.length_map] at this
        exact Nat.le_of_lt (small1000 (by rw [List.length_map]; omega))
      · intro k hk
        have hne : ∀ k : Addr × List Nat, H2 k.1 = some (.tup (k.2.map vi)) → (upd H2 F (.lst (ks.map rf ++ bs.map rf))) k.1 = some (.tup (k.2.map vi)) := fun k h => by
          rw [upd_ne (fun e : k.1 = F => by rw [e, hF2] at h; cases h)]
          exact h
        rcases List.mem_append.mp hk with hk | hk
        · exact hne k (s2 _ _ (hT k hk))
        · obtain ⟨m, _, _, h2, _⟩ := hB.right hk
          exact hne k h2
      · have e : rs.take (i + 1) = rs.take i ++ [rs[i]] := by rw [List.take_add_one, List.getElem?_eq_getElem hi]; rfl
        rw [e, exts_snoc, List.map_append, ← eL, ← hks]
  · obtain ⟨⟨u, v, z, rfl⟩, sm, ks, hF, hT, hks⟩ := h
    rw [List.length_map, List.take_length] at hks
    have hkl0 : ks.length ≤ 2 ^ rs.length := by
      have h1 := exts_length (okI rw) rs
      rw [← hks, List.length_map] at h1
      exact h1
    have hkl : ks.length ≤ 256 := Nat.le_trans hkl0 (Nat.pow_le_pow_right (by decide) hl8)
    refine ⟨.ref F, rfl, F, rfl, ⟨_, SqL.of hF⟩, ?_⟩
    refine lcL (xs := ks.map rf) (fun m => if lrg rw rs (ks.getD m (0, [])).2 = true then some (rf (ks.getD m (0, []))) else none) (SqL.of hF) (by rw [List.length_map]; omega) (fun m y H2 hy s2 N k1 k2 => ?_) (fun D H2 nD s2 hD => ?_)
    · obtain ⟨k, hk, rfl⟩ := get_map hy
      rw [getD_of hk] at k1 k2
      refine ⟨rfl, ?_⟩
      refine ⟨.ref a, rfl, .ref b, rfl, rf k, rfl, n, a, b, k.1, rw, rs, k.2, rfl, sameRws (sm.trans s2) hR, hz, sameT (sm.trans s2) hb, hl8, hlt, SqT.of (s2 _ _ (hT k (List.mem_of_getElem? hk))), fun H3 s3 => ⟨_, rfl, ?_⟩⟩
      refine ite2 (fun c => ?_) (fun c => ?_)
      · exact ⟨rf k, rfl, k1 _ _ (if_pos c) s3⟩
      · exact k2 _ (if_neg c) s3
    · have eD : ((List.range (ks.map rf).length).filterMap fun m => if lrg rw rs (ks.getD m (0, [])).2 = true then some (rf (ks.getD m (0, []))) else none) = (ks.filter fun k => lrg rw rs k.2).map rf := by
        rw [List.length_map, fm_filter (fun m => lrg rw rs (ks.getD m (0, [])).2) (fun m => rf (ks.getD m (0, [])))]
        exact range_fm (0, []) (fun k : Addr × List Nat => lrg rw rs k.2) rf ks
      rw [eD] at hD
      refine ⟨D, (ks.filter fun k => lrg rw rs k.2).map fun k => (k.1, k.2.map Int.ofNat), rfl, ?_, fun p hp => ?_, fun ks' L hperm nL => ?_⟩
      · rw [List.map_map]
        exact SqL.of hD
      · obtain ⟨k, hk, rfl⟩ := List.mem_map.mp hp
        obtain ⟨h1, h2⟩ := List.mem_filter.mp hk
        refine ⟨?_, fun e => ?_⟩
        · show SqT K H2 k.1 ((k.2.map Int.ofNat).map V.int)
          rw [← vi_map]
          exact SqT.of (s2 _ _ (hT k h1))
        · have e : k.2 = [] := by simpa using e
          rw [e] at h2
          cases rs with
          | nil => exact hne rfl
          | cons y rs =>
            rcases lrg_iff.mp h2 y (by simp) with h | ⟨_, _, h⟩ <;> simp at h
      · have hmem : ∀ p, p ∈ ks' ↔ ∃ k, k ∈ ks ∧ lrg rw rs k.2 = true ∧ (k.1, k.2.map Int.ofNat) = p := fun p => by
          rw [hperm.mem_iff, List.mem_map]
          exact ⟨fun ⟨k, h1, h2⟩ => ⟨k, (List.mem_filter.mp h1).1, (List.mem_filter.mp h1).2, h2⟩, fun ⟨k, h1, h2, h3⟩ => ⟨k, List.mem_filter.mpr ⟨h1, h2⟩, h3⟩⟩
        have back : ∀ l : List Nat, (l.map Int.ofNat).map Int.toNat = l := fun l => by
          rw [List.map_map]
          exact (List.map_congr_left fun x _ => Int.toNat_natCast x).trans (List.map_id l)
        have s4 : Same H2 (upd H2 L (.lst (ks'.map fun p => V.ref p.1))) := sameN nL
        refine q L (ks'.map fun p => (p.1, p.2.map Int.toNat)) _ (sm.trans (s2.trans s4)) (by rw [upd_same, List.map_map]; rfl) (fun k hk => ?_) (fun S => ?_) ?_
        · obtain ⟨p, hp, rfl⟩ := List.mem_map.mp hk
          obtain ⟨k0, h1, h2, rfl⟩ := (hmem p).mp hp
          show _ = some (HO.tup ((((k0.2.map Int.ofNat).map Int.toNat)).map vi))
          rw [back]
          exact s4 _ _ (s2 _ _ (hT k0 h1))
        · rw [List.map_map]
          unfold largest
          rw [List.mem_filter, ← hks]
          constructor
          · intro h
            obtain ⟨p, hp, e⟩ := List.mem_map.mp h
            obtain ⟨k0, h1, h2, rfl⟩ := (hmem p).mp hp
            have e : (k0.2.map Int.ofNat).map Int.toNat = S := e
            rw [back] at e
            subst e
            exact ⟨List.mem_map.mpr ⟨k0, h1, rfl⟩, h2⟩
          · rintro ⟨h1, h2⟩
            obtain ⟨k0, h3, rfl⟩ := List.mem_map.mp h1
            exact List.mem_map.mpr ⟨_, (hmem _).mpr ⟨k0, h3, h2, rfl⟩, back k0.2⟩
        · rw [List.length_map, hperm.length_eq, List.length_map]
          exact Nat.le_trans (List.length_filter_le _ _) hkl0
end
end Mx
set_option maxHeartbeats 4000000
namespace Mx
open PySem PySem.Spec PyProof.Rows L2
abbrev sIsBelow : Stmt := topS 37
abbrev sNeedBoth : Stmt := topS 41
abbrev sFewestKeys : Stmt := topS 42
abbrev sShowsRow : Stmt := topS 45
abbrev nIsBelow : List Str := ["one", "other", "a", "b"]
abbrev nNeedBoth : List Str := ["house", "state", "rest"]
abbrev nFewestKeys : List Str := ["house", "state", "rest", "room"]
abbrev nShowsRow : List Str := ["house", "state", "rest", "value", "changed", "room", "x"]
theorem ndIsBelow : nIsBelow.Nodup := by decide +kernel
theorem ndFewestKeys : nFewestKeys.Nodup := by decide +kernel
theorem ndShowsRow : nShowsRow.Nodup := by decide +kernel
theorem scIsBelow : FnScope nIsBelow ["one", "other"] (defScope sIsBelow) := ⟨rfl, rfl, rfl, by decide +kernel, rfl, by decide +kernel, by decide +kernel⟩
theorem scNeedBoth : FnScope nNeedBoth ["house", "state", "rest"] (defScope sNeedBoth) := ⟨rfl, rfl, rfl, by decide +kernel, rfl, by decide +kernel, by decide +kernel⟩
theorem scFewestKeys : FnScope nFewestKeys ["house", "state", "rest"] (defScope sFewestKeys) := ⟨rfl, rfl, rfl, by decide +kernel, rfl, by decide +kernel, by decide +kernel⟩
theorem scShowsRow : FnScope nShowsRow ["house", "state", "rest", "value"] (defScope sShowsRow) := ⟨rfl, rfl, rfl, by decide +kernel, rfl, by decide +kernel, by decide +kernel⟩
/-- a house, a state, a rest below it -/
structure BT (K : PySem.W.Frag) (H : Hp) (a b c : Addr) (n : Nat) (ds : List (Nat × Nat)) (st rest : List Nat) : Prop where
  hs : HS K H a b n ds st
  pt : Parted ds st
  tr : TN K H c rest
  lr : rest.length = n
  fix : ∀ x, x < n → fr (nearM n ds) rest x = rest.getD x 0
  bel : ∀ x, x < n → rest.getD x 0 ≤ st.getD x 0
theorem BT.same {K : PySem.W.Frag} {H H' : Hp} {a b c : Addr} {n : Nat} {ds : List (Nat × Nat)} {st rest : List Nat} (h : BT K H a b c n ds st rest) (e : Same H H') : BT K H' a b c n ds st rest := ⟨h.hs.same e, h.pt, sameT e h.tr, h.lr, h.fix, h.bel⟩
theorem BT.way {K : PySem.W.Frag} {H : Hp} {a b c : Addr} {n : Nat} {ds : List (Nat × Nat)} {st rest : List Nat} (h : BT K H a b c n ds st rest) : Way n (nearM n ds) rest st := ⟨gr_near h.hs.ok, h.lr, h.hs.ln, h.fix, h.bel⟩
theorem BT.rest {K : PySem.W.Frag} {H : Hp} {a b c : Addr} {n : Nat} {ds : List (Nat × Nat)} {st rest : List Nat} (h : BT K H a b c n ds st rest) : HS K H a c n ds rest := ⟨h.hs.hs, h.hs.ok, h.tr, h.lr, fun x hx => by
  obtain ⟨i, hi, e⟩ := List.getElem_of_mem hx
  have h1 := h.bel i (by rw [← h.lr]; exact hi)
  have hi2 : i < st.length := by rw [h.hs.ln, ← h.lr]; exact hi
  rw [getD_of (List.getElem?_eq_getElem hi), getD_of (List.getElem?_eq_getElem hi2), e] at h1
  exact Nat.le_trans h1 (h.hs.le _ (List.getElem_mem hi2))⟩
def spIsBelow (K : PySem.W.Frag) : Sp := fun vs H Q _ => ∃ (n : Nat) (a b : Addr) (r st : List Nat), vs = [.ref a, .ref b] ∧ TN K H a r ∧ TN K H b st ∧ r.length = n ∧ st.length = n ∧ n ≤ 8 ∧ (∀ x, x < n → r.getD x 0 ≤ st.getD x 0) ∧ ∀ H', Same H H' → Q (.bl true) H'
def spNeedBoth (K : PySem.W.Frag) : Sp := fun vs H Q _ => ∃ (n : Nat) (a b c : Addr) (ds : List (Nat × Nat)) (st rest : List Nat), vs = [.ref a, .ref b, .ref c] ∧ BT K H a b c n ds st rest ∧ ∀ H', Same H H' → Q .non H'
def spFewestKeys (K : PySem.W.Frag) : Sp := fun vs H Q _ => ∃ (n : Nat) (a b c : Addr) (ds : List (Nat × Nat)) (st rest : List Nat), vs = [.ref a, .ref b, .ref c] ∧ BT K H a b c n ds st rest ∧ ∀ H', Same H H' → Q (vi (chL st rest).length) H'
def spShowsRow (K : PySem.W.Frag) : Sp := fun vs H Q _ => ∃ (n : Nat) (a b c d : Addr) (ds : List (Nat × Nat)) (st rest ks : List Nat), vs = [.ref a, .ref b, .ref c, .ref d] ∧ BT K H a b c n ds st rest ∧ TN K H d ks ∧ ks.Perm (chL st rest) ∧
  ∀ H', Same H H' → Q (.bl (decide (ks.foldl (keyL (nearM n ds)) st = rest))) H'
theorem all_true (n : Nat) : ((List.range n).map fun _ => true).all id = true := by
  rw [List.all_map, List.all_eq_true]
  intro x _
  rfl
theorem ch_list {st rest : List Nat} : ((List.range rest.length).filterMap fun i => if decide (rest.getD i 0 < st.getD i 0) = true then some (vi i) else none) = (chL st rest).map vi := fm_filter (fun i => decide (rest.getD i 0 < st.getD i 0)) vi _
section
variable {P : Program} {w : World} {K : PySem.W.Frag} {mg : Str → Option Value} {base : Heap}
theorem cd_need_rest (B : Bz mg) (D : Dfn K mg "need_rest" sNeedRest ["house", "rest"]) (hbs : ∃ c, mg "BadState" = some c) (C1 : Cd P w K mg base 3 "need_numbers" ["house", "state"] (spNeedNumbers K)) (C2 : Cd P w K mg base 2 "rests_in" ["rows", "state"] (spRestsIn K)) (C3 : Cd P w K mg base 1 "near" ["house"] (spNear K)) :
    Cd P w K mg base 4 "need_rest" ["house", "rest"] (spNeedRest K) := by
  refine cd_of D scNeedRest (fun vs H Q E h => ?_) (fun f cdv A outer s H vs Q E hr h => ?_)
  · obtain ⟨n, a, b, ds, st, rfl, _⟩ := h
    rfl
  obtain ⟨n, a, b, ds, st, rfl, hs, hfix, q⟩ := h
  obtain ⟨cb, hcb⟩ := hbs
  refine ⟨_, pss_cons (ps_try_only (Wout := fun _ _ _ _ => False) rfl rfl (x := "BadState") (c := cb) ⟨by rfl, by decide, .inl hcb⟩ (fun u s' ⟨_, _, _, _, _, _, _, _, _, _, _, _, _, _, _, _, z⟩ => z.elim)
      (fun W pn xe tk hp => pss_one (ps_expr (pe_cd C1 hr (pa_cons (pv 0) (pa_cons (pv 1) pa_nil))))) (fun a oe cls d pn hz hv => pss_never))
    (pss_one (ps_if (pt_not (pt_val (pe_cd C2 (hr.mono (by decide)) (pa_cons (pe_cd C3 (hr.mono (by decide)) (pa_cons (pv 0) pa_nil)) (pa_cons (pv 1) pa_nil))))) (pss_one ps_never) pss_nil)), ?_⟩
  refine ⟨.ref a, rfl, .ref b, rfl, n, a, b, ds, st, rfl, hs, fun H1 s1 => ?_⟩
  refine ⟨.ref a, rfl, n, a, ds, rfl, (hs.same s1).hs, hs.ok, fun r H2 s2 h2 => ?_⟩
  refine ⟨.ref b, rfl, n, r, b, nearM n ds, st, rfl, h2, hz_near hs.ok, (hs.same (s1.trans s2)).tn, hs.ln, hfix, fun H3 s3 => ⟨_, rfl, ?_⟩⟩
  exact iteF (q _ (s1.trans (s2.trans s3)))
theorem cd_is_below (B : Bz mg) (D : Dfn K mg "is_below" sIsBelow ["one", "other"]) : Cd P w K mg base 1 "is_below" ["one", "other"] (spIsBelow K) := by
  refine cd_of D scIsBelow (fun vs H Q E h => ?_) (fun f cdv A outer s H vs Q E hr h => ?_)
  · obtain ⟨n, a, b, r, st, rfl, _⟩ := h
    rfl
  obtain ⟨n, a, b, r, st, rfl, ha, hb, lr, ls, hn, hbel, q⟩ := h
  refine ⟨_, pss_one (ps_ret (pe_callB (cr_all rfl) (by rfl) B.zall b_all (pa_cons (pe_lc (own := [("a", 2), ("b", 3)]) rfl ndIsBelow (RZ.pi_zipA (by rfl) B.zzip (pa_cons (pv 0) (pa_cons (pv 1) pa_nil))) (blkOk_by (N := nIsBelow) (sc := defScope sIsBelow) (by decide +kernel))
      (fun s H C cl fp => (pg_tup (n := 2) rfl (pgs_cons (pg_name ndIsBelow (i := 2) rfl (Or.inl rfl)) (pgs_cons (pg_name ndIsBelow (i := 3) rfl (Or.inl rfl)) pgs_nil)) : PG _ _ (gTup K 2 (gCons (gName 2) (gCons (gName 3) gNil))))) (fun s H C cl fp => pts_nil)
      (fun s H C cl fp => pe_cmpR op_le (pv 2) (pv 3) rfl)) pa_nil))), ?_⟩
  refine ⟨.ref a, rfl, .ref b, rfl, a, b, r.map vi, st.map vi, rfl, .inr ⟨ha, hb, ?_⟩⟩
  refine lcZ (xs := r.map vi) (ys := st.map vi) (fun i => some (.bl true)) ha hb (by rw [List.length_map, List.length_map, lr, ls]) (by rw [List.length_map]; omega) (fun i x y T H2 hx hy s2 hT N k1 k2 => ?_) (fun D H2 nD s2 hD => ?_)
  · obtain ⟨hi, rfl⟩ := get_vi hx
    obtain ⟨hi2, rfl⟩ := get_vi hy
    refine pair_nm (SqT.of hT) ?_
    refine lcY ?_
    refine ⟨_, rfl, _, rfl, _, _, rfl, rfl, ?_⟩
    have h1 := hbel i (by omega)
    rw [getD_of (List.getElem?_eq_getElem hi), getD_of (List.getElem?_eq_getElem hi2)] at h1
    have e : decide ((r[i] : Int) ≤ (st[i] : Int)) = true := decide_eq_true (by omega)
    exact k1 _ _ (congrArg (fun z => some (V.bl z)) e.symm) (Same.refl _)
  · refine ⟨D, (List.range (r.map vi).length).map fun _ => true, rfl, ?_, ?_⟩
    · rw [List.map_map]
      have e : (List.range (r.map vi).length).filterMap (fun _ => some (V.bl true)) = (List.range (r.map vi).length).map (V.bl ∘ fun _ => true) := fm_map _ _
      rw [← e]
      exact SqL.of hD
    · rw [all_true]
      exact q _ s2
theorem cd_need_both (D : Dfn K mg "need_both" sNeedBoth ["house", "state", "rest"]) (C1 : Cd P w K mg base 6 "need_parted" ["house", "state"] (spNeedParted K)) (C2 : Cd P w K mg base 4 "need_rest" ["house", "rest"] (spNeedRest K)) (C3 : Cd P w K mg base 1 "is_below" ["one", "other"] (spIsBelow K)) :
    Cd P w K mg base 7 "need_both" ["house", "state", "rest"] (spNeedBoth K) := by
  refine cd_of D scNeedBoth (fun vs H Q E h => ?_) (fun f cdv A outer s H vs Q E hr h => ?_)
  · obtain ⟨n, a, b, c, ds, st, rest, rfl, _⟩ := h
    rfl
  obtain ⟨n, a, b, c, ds, st, rest, rfl, hB, q⟩ := h
  refine ⟨_, pss_cons (ps_expr (pe_cd C1 hr (pa_cons (pv 0) (pa_cons (pv 1) pa_nil)))) (pss_cons (ps_expr (pe_cd C2 (hr.mono (by decide)) (pa_cons (pv 0) (pa_cons (pv 2) pa_nil))))
    (pss_one (ps_if (pt_not (pt_val (pe_cd C3 (hr.mono (by decide)) (pa_cons (pv 2) (pa_cons (pv 1) pa_nil))))) (pss_one ps_never) pss_nil))), ?_⟩
  refine ⟨.ref a, rfl, .ref b, rfl, n, a, b, ds, st, rfl, hB.hs, hB.pt, fun H1 s1 => ?_⟩
  refine ⟨.ref a, rfl, .ref c, rfl, n, a, c, ds, rest, rfl, (hB.same s1).rest, hB.fix, fun H2 s2 => ?_⟩
  have hB2 := hB.same (s1.trans s2)
  refine ⟨.ref c, rfl, .ref b, rfl, n, c, b, rest, st, rfl, hB2.tr, hB2.hs.tn, hB.lr, hB.hs.ln, hB.hs.ok.n8, hB.bel, fun H3 s3 => ⟨_, rfl, ?_⟩⟩
  exact iteF (q _ (s1.trans (s2.trans s3)))
/-- [room for room in range(house[0]) if rest[room] < state[room]] -/
theorem chComp {H : Hp} {b c : Addr} {n j i k : Nat} {st rest : List Nat} {vs : List Nat} {σ : L2.St} {Q : Addr → Hp → Prop} (hn : n ≤ 8) (hb : TN K H b st) (hc : TN K H c rest) (lr : rest.length = n) (ls : st.length = n) (hw : ∀ y, wipe ((wipe σ vs).set j (some y)) vs = wipe σ vs)
    (gj : ∀ y : V, ((wipe σ vs).set j (some y))[j]? = some (some y)) (gi : ∀ y : V, ((wipe σ vs).set j (some y))[i]? = some (some (V.ref b))) (gk : ∀ y : V, ((wipe σ vs).set j (some y))[k]? = some (some (V.ref c)))
    (q : ∀ D H', H D = none → Same H H' → H' D = some (.lst ((chL st rest).map vi)) → Q D H') : LcGoal (Itr 0 n) (gName j) (tTest (tOp (rI0 fun i j => .bl (decide (i < j))) (tOp (rIxT K) (tVar k) (tVar j)) (tOp (rIxT K) (tVar i) (tVar j)))) (tVar j) vs σ H Q := by
  refine lcR (fun m => if decide (rest.getD m 0 < st.getD m 0) = true then some (vi m) else none) (by omega) (fun m H2 hm s2 N k1 k2 => ?_) (fun D H2 nD s2 hD => ?_)
  · refine ⟨hw _, ?_⟩
    refine ⟨_, gk _, vi m, gj _, c, _, _, _, rfl, rfl, sameT s2 hc, at_vi (by omega), _, gi _, vi m, gj _, b, _, _, _, rfl, rfl, sameT s2 hb, at_vi (by omega), _, _, rfl, rfl, _, rfl, ?_⟩
    rw [dec_nat_lt]
    refine ite2 (fun z => ⟨vi m, gj _, k1 _ _ (if_pos z) (Same.refl _)⟩) (fun z => k2 _ (if_neg z) (Same.refl _))
  · rw [← lr, ch_list] at hD
    exact q D H2 nD s2 hD
theorem cd_fewest_keys (B : Bz mg) (D : Dfn K mg "fewest_keys" sFewestKeys ["house", "state", "rest"]) (C1 : Cd P w K mg base 7 "need_both" ["house", "state", "rest"] (spNeedBoth K)) : Cd P w K mg base 8 "fewest_keys" ["house", "state", "rest"] (spFewestKeys K) := by
  refine cd_of D scFewestKeys (fun vs H Q E h => ?_) (fun f cdv A outer s H vs Q E hr h => ?_)
  · obtain ⟨n, a, b, c, ds, st, rest, rfl, _⟩ := h
    rfl
  obtain ⟨n, a, b, c, ds, st, rest, rfl, hB, q⟩ := h
  refine ⟨_, pss_cons (ps_expr (pe_cd C1 hr (pa_cons (pv 0) (pa_cons (pv 1) (pa_cons (pv 2) pa_nil))))) (pss_one (ps_ret (pe_callB call_len_seq (by rfl) B.zlen b_len (pa_cons (pe_lc (own := [("room", 3)]) rfl ndFewestKeys (pi_range1 (by rfl) B.zrange (pa_cons (pe_ix ix_tup (pv 0) pe_int (fun _ _ => rfl)) pa_nil)) (blkOk_by (N := nFewestKeys) (sc := defScope sFewestKeys) (by decide +kernel))
      (fun s H C cl fp => pg_name ndFewestKeys (i := 3) rfl (Or.inl rfl)) (fun s H C cl fp => pts_one (pt_cmpR op_lt (pe_ix (ix_tup : IxR _ (rIxT K)) (pv 2) (pv 3) (fun _ _ => rfl)) (pe_ix (ix_tup : IxR _ (rIxT K)) (pv 1) (pv 3) (fun _ _ => rfl)) rfl)) (fun s H C cl fp => pv 3)) pa_nil)))), ?_⟩
  refine ⟨.ref a, rfl, .ref b, rfl, .ref c, rfl, n, a, b, c, ds, st, rest, rfl, hB, fun H1 s1 => ?_⟩
  have hB1 := hB.same s1
  obtain ⟨t, hT, hD⟩ := hB1.hs.hs
  have hn := hB.hs.ok.n8
  refine ⟨.ref a, rfl, a, _, 0, _, rfl, rfl, hT, rfl, n, rfl, by omega, by omega, ?_⟩
  rw [show (n : Int).toNat = n from Int.toNat_natCast n]
  refine chComp hn hB1.hs.tn hB1.tr hB.lr hB.hs.ln (fun _ => rfl) (fun _ => rfl) (fun _ => rfl) (fun _ => rfl) fun D H2 nD s2 hD => ?_
  refine ⟨D, _, rfl, .inl (SqL.of hD), ?_⟩
  rw [List.length_map]
  exact q _ (s1.trans s2)
theorem cd_shows_row (B : Bz mg) (D : Dfn K mg "shows_row" sShowsRow ["house", "state", "rest", "value"]) (C1 : Cd P w K mg base 7 "need_both" ["house", "state", "rest"] (spNeedBoth K)) (C2 : Cd P w K mg base 2 "key_in" ["rows", "state", "room"] (spKeyIn K)) (C3 : Cd P w K mg base 1 "near" ["house"] (spNear K)) :
    Cd P w K mg base 8 "shows_row" ["house", "state", "rest", "value"] (spShowsRow K) := by
  refine cd_of D scShowsRow (fun vs H Q E h => ?_) (fun f cdv A outer s H vs Q E hr h => ?_)
  · obtain ⟨n, a, b, c, d, ds, st, rest, ks, rfl, _⟩ := h
    rfl
  obtain ⟨n, a, b, c, d, ds, st, rest, ks, rfl, hB, hd, hperm, q⟩ := h
  refine ⟨_, pss_cons (ps_expr (pe_cd C1 hr (pa_cons (pv 0) (pa_cons (pv 1) (pa_cons (pv 2) pa_nil)))))
    (pss_cons (ps_setLc (own := [("room", 5)]) (i := 4) rfl ndShowsRow rfl rfl (sw_true rfl rfl rfl rfl) (pi_range1 (by rfl) B.zrange (pa_cons (pe_ix ix_tup (pv 0) pe_int (fun _ _ => rfl)) pa_nil)) (blkOk_by (N := nShowsRow) (sc := defScope sShowsRow) (by decide +kernel))
        (fun s H C cl fp => pg_name ndShowsRow (i := 5) rfl (Or.inl rfl)) (fun s H C cl fp => pts_one (pt_cmpR op_lt (pe_ix (ix_tup : IxR _ (rIxT K)) (pv 2) (pv 5) (fun _ _ => rfl)) (pe_ix (ix_tup : IxR _ (rIxT K)) (pv 1) (pv 5) (fun _ _ => rfl)) rfl)) (fun s H C cl fp => pv 5))
      (pss_cons (ps_if (pw_or (pt_not (pt_val (pe_callB call_isi (by rfl) B.zisinstance b_isinstance (pa_cons (pv 3) (pa_cons (pe_bltn (v := .ty "tuple") (by rfl) B.ztuple b_tuple rfl) pa_nil)))))
          (pw_or1 (pt_not (pt_val (pe_callB (cr_all rfl) (by rfl) B.zall b_all (pa_cons (pe_lc (own := [("x", 6)]) rfl ndShowsRow (pi_tup (pv 3)) (blkOk_by (N := nShowsRow) (sc := defScope sShowsRow) (by decide +kernel)) (fun s H C cl fp => pg_name ndShowsRow (i := 6) rfl (Or.inl rfl)) (fun s H C cl fp => pts_nil)
            (fun s H C cl fp => pe_and (pe_callB (call_isi : CallR _ _ (rIsi K)) (by rfl) B.zisinstance b_isinstance (pa_cons (pv 6) (pa_cons (pe_bltn (v := .ty "int") (by rfl) B.zint b_int rfl) pa_nil))) (pe_one (pe_not (pe_callB (call_isi : CallR _ _ (rIsi K)) (by rfl) B.zisinstance b_isinstance (pa_cons (pv 6) (pa_cons (pe_bltn (v := .ty "bool") (by rfl) B.zbool b_bool rfl) pa_nil))))))) pa_nil)))))).pt (pss_one ps_never) pss_nil)
        (pss_cons (ps_if (pt_cmpR (op_neD hr.units) (pe_callB cr_sortedTI (by rfl) B.zsorted b_sorted (pa_cons (pv 3) pa_nil)) (pv 4) rfl) (pss_one ps_never) pss_nil)
          (pss_cons (ps_for PassesOwn.never rfl (pi_tup (pv 3)) (pg_name ndShowsRow (i := 5) rfl (Or.inl rfl)) (pss_one (ps_set ndShowsRow (i := 1) rfl (Or.inr rfl) (pe_cd C2 (hr.mono (by decide)) (pa_cons (pe_cd C3 (hr.mono (by decide)) (pa_cons (pv 0) pa_nil)) (pa_cons (pv 1) (pa_cons (pv 5) pa_nil)))))))
            (pss_one (ps_ret (pe_cmpR (op_eqD hr.units) (pv 1) (pv 2) rfl))))))), ?_⟩
  have hn := hB.hs.ok.n8
  have hlt : ∀ x, x ∈ ks → x < n := fun x hx => by
    have := (mem_ch.mp (hperm.mem_iff.mp hx)).1
    rw [hB.lr] at this
    exact this
  have hkl : ks.length ≤ 8 := by
    rw [hperm.length_eq]
    unfold chL
    refine Nat.le_trans (List.length_filter_le _ _) ?_
    rw [List.length_range, hB.lr]
    exact hn
  refine ⟨.ref a, rfl, .ref b, rfl, .ref c, rfl, n, a, b, c, ds, st, rest, rfl, hB, fun H1 s1 => ?_⟩
  have hB1 := hB.same s1
  obtain ⟨t, hT, hDs⟩ := hB1.hs.hs
  refine ⟨.ref a, rfl, a, _, 0, _, rfl, rfl, hT, rfl, n, rfl, by omega, by omega, ?_⟩
  rw [show (n : Int).toNat = n from Int.toNat_natCast n]
  refine chComp hn hB1.hs.tn hB1.tr hB.lr hB.hs.ln (fun _ => rfl) (fun _ => rfl) (fun _ => rfl) (fun _ => rfl) fun D H2 nD s2 hD => ?_
  have hd2 := sameT (s1.trans s2) hd
  refine ⟨.ref d, rfl, .ref d, .ty "tuple", _, _, true, rfl, .ty _, tyT hd2, kit_tt, _, rfl, ?_⟩
  refine iteF ?_
  refine ⟨.ref d, rfl, d, rfl, ⟨_, hd2⟩, ?_⟩
  refine lcT (xs := ks.map vi) (fun _ => some (.bl true)) hd2 (by rw [List.length_map]; omega) (fun i x H3 hx s3 N k1 k2 => ?_) (fun L H3 nL s3 hL => ?_)
  · obtain ⟨hi, rfl⟩ := get_vi hx
    refine lcY ?_
    refine ⟨_, rfl, .int _, .ty "int", _, _, true, rfl, .ty _, .base (.int _), kit_ii, _, rfl, iteT ?_⟩
    exact ⟨_, rfl, .int _, .ty "bool", _, _, false, rfl, .ty _, .base (.int _), kit_ib, _, rfl, k1 _ _ rfl (Same.refl _)⟩
  refine ⟨L, (List.range (ks.map vi).length).map fun _ => true, rfl, ?_, _, rfl, ?_⟩
  · rw [List.map_map]
    have e : (List.range (ks.map vi).length).filterMap (fun _ => some (V.bl true)) = (List.range (ks.map vi).length).map (V.bl ∘ fun _ => true) := fm_map _ _
    rw [← e]
    exact SqL.of hL
  rw [all_true]
  refine iteF ?_
  have hd3 := sameT s3 hd2
  refine ⟨.ref d, rfl, d, ks.map Int.ofNat, rfl, by rw [← vi_map]; exact hd3, fun ns z hp hs nz => ?_⟩
  have e := perm_ints hp hs
  subst e
  have e4 : srt ks = chL st rest := (eq_srt (hperm.symm) ((ch_asc st rest).imp fun h => Nat.le_of_lt h)).symm
  rw [e4]
  have s4 : Same H3 (upd H3 z (.lst (((chL st rest).map Int.ofNat).map V.int))) := sameN nz
  refine ⟨.ref D, rfl, ne_ll (l := chL st rest) (l' := chL st rest) (by rw [vi_map]; exact SqL.of upd_same) (SqL.of (s4 _ _ (s3 _ _ hD))) ⟨_, rfl, ?_⟩⟩
  refine iteNS rfl ?_
  have sm : Same H _ := s1.trans (s2.trans (s3.trans s4))
  refine ⟨.ref d, rfl, d, rfl, ⟨_, sameT s4 hd3⟩, ?_⟩
  refine for_tup (xs := ks.map vi) (fun i σ H' => (∃ p u v, σ = [some (.ref a), some (.ref p), some (.ref c), some (.ref d), some (.ref D), u, v] ∧ TN K H' p ((ks.take i).foldl (keyL (nearM n ds)) st)) ∧ Same H H') ⟨⟨b, _, _, rfl, sameT sm hB.hs.tn⟩, sm⟩
    (fun i σ H' _ h => sameT h.2 hd) (fun i x σ H' hx h => ?_) (fun σ H' h => ?_)
  · obtain ⟨⟨p, u, v, rfl, hp⟩, sm'⟩ := h
    obtain ⟨hi, rfl⟩ := get_vi hx
    refine ⟨.ref a, rfl, n, a, ds, rfl, (hB.same sm').hs.hs, hB.hs.ok, fun r H5 s5 h5 => ?_⟩
    refine ⟨.ref p, rfl, vi ks[i], rfl, n, _, r, p, nearM n ds, _, rfl, h5, hz_near hB.hs.ok, sameT s5 hp, by rw [keys_len, hB.hs.ln], hlt _ (List.getElem_mem hi), fun p2 H6 s6 h6 => ?_⟩
    refine ⟨⟨p2, _, _, rfl, ?_⟩, sm'.trans (s5.trans s6)⟩
    have e : ks.take (i + 1) = ks.take i ++ [ks[i]] := by rw [List.take_add_one, List.getElem?_eq_getElem hi]; rfl
    rw [e, List.foldl_append]
    exact SqT.of h6
  · obtain ⟨⟨p, u, v, rfl, hp⟩, sm'⟩ := h
    rw [List.length_map, List.take_length] at hp
    exact ⟨.ref p, rfl, .ref c, rfl, eq_tt hp (hB.same sm').tr (q _ sm')⟩
end
end Mx
set_option maxHeartbeats 4000000
/-! min(found, key=lambda x: (len(x), x)), a list of tuples of tuples of numbers. -/
namespace Mx
open PySem PySem.Spec PyProof.Rows L2
/-! ### the keys -/
abbrev dW (W : List (List Nat)) : List PyData := W.map fun r => PyData.tuple (dN r)
abbrev dK (W : List (List Nat)) : PyData := .tuple [.int (W.length : Int), .tuple (dW W)]
theorem al_nil (l : List PyData) : PySem.W.alikeAll [] l = true := by cases l <;> simp [PySem.W.alikeAll]
theorem al_nil' (l : List PyData) : PySem.W.alikeAll l [] = true := by cases l <;> simp [PySem.W.alikeAll]
theorem al_cons (x y : PyData) (xs ys : List PyData) : PySem.W.alikeAll (x :: xs) (y :: ys) = (PySem.W.alike x y && PySem.W.alikeAll xs ys) := by rw [PySem.W.alikeAll]
theorem al_N : ∀ l l' : List Nat, PySem.W.alikeAll (dN l) (dN l') = true
  | [], _ => al_nil _
  | _ :: _, [] => al_nil' _
  | x :: xs, y :: ys => by
    have ih := al_N xs ys
    show PySem.W.alikeAll (_ :: _) (_ :: _) = true
    rw [al_cons, ih]
    simp [PySem.W.alike]
theorem al_W : ∀ l l' : List (List Nat), PySem.W.alikeAll (dW l) (dW l') = true
  | [], _ => al_nil _
  | _ :: _, [] => al_nil' _
  | x :: xs, y :: ys => by
    have ih := al_W xs ys
    show PySem.W.alikeAll (_ :: _) (_ :: _) = true
    rw [al_cons, ih, PySem.W.alike, al_N]
    rfl
theorem al_K (W W' : List (List Nat)) : PySem.W.alike (dK W) (dK W') = true := by
  rw [PySem.W.alike, al_cons, al_cons, al_nil, PySem.W.alike, PySem.W.alike, al_W]
  rfl
theorem depth_W : ∀ W : List (List Nat), PyData.depthAll (dW W) ≤ 1
  | [] => by simp [PyData.depthAll]
  | r :: W => by
    have ih := depth_W W
    have e : PyData.depthAll (dW (r :: W)) = max (PyData.depth (.tuple (dN r))) (PyData.depthAll (dW W)) := by
      show PyData.depthAll (_ :: _) = _
      rw [PyData.depthAll]
    rw [e, PyData.depth, depth_dN]
    omega
theorem depth_K (W : List (List Nat)) : (dK W).depth ≤ 3 := by
  have := depth_W W
  simp only [dK, PyData.depth, PyData.depthAll]
  omega
theorem lt_len {W W' : List (List Nat)} (h : PySem.W.dataLt (dK W) (dK W') = true) : W.length ≤ W'.length := by
  rw [PySem.W.dataLt_pair (by simp [PySem.W.alike]) (by rw [PySem.W.alike, al_W])] at h
  by_cases e : W.length = W'.length
  · omega
  · have e2 : PyData.eqv (.int (W.length : Int)) (.int (W'.length : Int)) = false := by
      simp only [PyData.eqv]
      exact beq_eq_false_iff_ne.mpr (by omega)
    rw [e2, if_neg Bool.false_ne_true, PySem.W.dataLt_int] at h
    have := of_decide_eq_true h
    omega
theorem nlt_len {W W' : List (List Nat)} (h : PySem.W.dataLt (dK W) (dK W') = false) : W'.length ≤ W.length := by
  rw [PySem.W.dataLt_pair (by simp [PySem.W.alike]) (by rw [PySem.W.alike, al_W])] at h
  by_cases e : W.length = W'.length
  · omega
  · have e2 : PyData.eqv (.int (W.length : Int)) (.int (W'.length : Int)) = false := by
      simp only [PyData.eqv]
      exact beq_eq_false_iff_ne.mpr (by omega)
    rw [e2, if_neg Bool.false_ne_true, PySem.W.dataLt_int] at h
    have := of_decide_eq_false h
    omega
theorem best_min (g : Nat → List (List Nat)) : ∀ k, argBest (fun i j => PySem.W.dataLt (dK (g i)) (dK (g j))) k ≤ k ∧ ∀ j, j ≤ k → (g (argBest (fun i j => PySem.W.dataLt (dK (g i)) (dK (g j))) k)).length ≤ (g j).length
  | 0 => ⟨Nat.le_refl _, fun j hj => by
    have : j = 0 := by omega
    rw [this]
    exact Nat.le_refl _⟩
  | k + 1 => by
    obtain ⟨h1, h2⟩ := best_min g k
    unfold argBest
    by_cases h : PySem.W.dataLt (dK (g (k + 1))) (dK (g (argBest (fun i j => PySem.W.dataLt (dK (g i)) (dK (g j))) k))) = true
    · simp only [h, if_true]
      have h3 := lt_len h
      refine ⟨Nat.le_refl _, fun j hj => ?_⟩
      by_cases e : j = k + 1
      · rw [e]; exact Nat.le_refl _
      · exact Nat.le_trans h3 (h2 j (by omega))
    · have h' := Bool.eq_false_iff.mpr h
      simp only [h', Bool.false_eq_true, if_false]
      have h3 := nlt_len h'
      refine ⟨by omega, fun j hj => ?_⟩
      by_cases e : j = k + 1
      · rw [e]; exact h3
      · exact h2 j (by omega)
/-! ### the rule -/
/-- a tuple of tuples of numbers, the outer one tracked -/
def WvT (K : PySem.W.Frag) (H : Hp) (a : Addr) (W : List (List Nat)) : Prop := ∃ bs : List Addr, H a = some (.tup (bs.map V.ref)) ∧ bs.length = W.length ∧ ∀ (j : Nat) (r : List Nat), W[j]? = some r → ∃ b, bs[j]? = some b ∧ TN K H b r
theorem dpW {K : PySem.W.Frag} {H : Hp} : ∀ {bs : List Addr} {W : List (List Nat)}, bs.length = W.length → (∀ (j : Nat) (r : List Nat), W[j]? = some r → ∃ b, bs[j]? = some b ∧ TN K H b r) → DpAll K H (bs.map V.ref) (dW W)
  | [], [], _, _ => .nil
  | [], _ :: _, h, _ => by simp at h
  | _ :: _, [], h, _ => by simp at h
  | b :: bs, r :: W, hl, h => by
    refine .cons ?_ (dpW (by simpa using hl) fun j r hj => ?_)
    · obtain ⟨b', e, ht⟩ := h 0 r rfl
      cases e
      exact dp_t ht
    · obtain ⟨b', e, ht⟩ := h (j + 1) r (by simpa using hj)
      exact ⟨b', by simpa using e, ht⟩
theorem WvT.dp {K : PySem.W.Frag} {H : Hp} {a : Addr} {W : List (List Nat)} (h : WvT K H a W) : Dp K H (.ref a) (.tuple (dW W)) := by
  obtain ⟨bs, h1, h2, h3⟩ := h
  exact .tup (SqT.of h1) (dpW h2 h3)
def tMinL (K : PySem.W.Frag) (T : List (Addr × Str)) (te : TE) : TE := fun σ H Q => te σ H fun x H1 => ∃ (l : Addr) (as : List Addr) (Ws : List (List (List Nat))), x = .ref l ∧ SqL K H1 l (as.map V.ref) ∧ as ≠ [] ∧ as.length = Ws.length ∧
  (∀ (i : Nat) (a : Addr) (W : List (List Nat)), as[i]? = some a → Ws[i]? = some W → WvT K H1 a W) ∧ LamX.Tabs T H1 ∧
  ∀ (i : Nat) (a : Addr) (W : List (List Nat)) (H2 : Hp), as[i]? = some a → Ws[i]? = some W → (∀ W', W' ∈ Ws → W.length ≤ W'.length) → LamX.ExtN H1 H2 → LamX.Tabs T H2 → Q (.ref a) H2
theorem extN_seq {K : PySem.W.Frag} {H H' : Hp} {a : Addr} {xs : List V} (e : LamX.ExtN H H') (h : SqL K H a xs) : SqL K H' a xs := by
  rcases h with (h | ⟨o, h⟩) | h
  · exact .inl (.inl (e _ _ h (fun _ q => by cases q)))
  · exact .inl (.inr ⟨o, e _ _ h (fun _ q => by cases q)⟩)
  · exact .inr h
theorem extN_tup {K : PySem.W.Frag} {H H' : Hp} {a : Addr} {xs : List V} (e : LamX.ExtN H H') (h : SqT K H a xs) : SqT K H' a xs := by
  rcases h with (h | ⟨o, h⟩) | h
  · exact .inl (.inl (e _ _ h (fun _ q => by cases q)))
  · exact .inl (.inr ⟨o, e _ _ h (fun _ q => by cases q)⟩)
  · exact .inr h
section
variable {X : Cx} {pins : List (Addr × Obj)} {σ : L2.St} {H : Hp} {s : Shared}
/-- what a call of the lambda leaves: all but the frames' slots, a new pair -/
theorem lam_call {k : Nat} {f c' a : Addr} {params : Arguments} {scope : Scope} {pm ctv : Value} {qual : Str} {p1 p2 p3 p4 p5 : Pos} {x1 : Nat} {xs : List V} {E : Value → Shared → Prop} {Q : Value → Shared → Prop} (hr : Room (k + 1) X.A) (I : Inv X pins σ H s) (hm : X.mg "len" = none)
    (hf : s.heap.get? f = some (PySem.W.kla_obj "<lambda>" qual params (.Tuple [.Call (.Name "len" p1) [.Name "x" p2] [] p3, .Name "x" p4] x1 p5) scope [] pm c' ctv)) (hc : H c' = some (LamX.CodeO c' qual)) (S : NdefX.NScope ["x"] ["x"] [] scope) (hgl : scope.names.lookup ("len" : Str) = some .globalImplicit)
    (hb : ∀ (us : List Value), us.length = 1 → bindArgs (PySem.W.kla_fn "<lambda>" qual params (.Tuple [.Call (.Name "len" p1) [.Name "x" p2] [] p3, .Name "x" p4] x1 p5) scope [] pm (.ref c') ctv) ⟨us, []⟩ = pure ((["x"] : List Str).zip us))
    (ha : H a = some (.tup xs))
    (h : ∀ (p : Addr) (t : Tok) (s' : Shared), s'.os = s.os → AllBare s'.gens → (∀ b o, b ∉ frs X.stack → s.heap.get? b = some o → s'.heap.get? b = some o) → (∀ b o, s.heap.get? b = some o → ∃ sl, s'.heap.get? b = some { o with slots := sl }) → s.heap.get? p = none → p ∉ frs X.stack →
      IsTup s'.heap p #[.int (xs.length : Int) t, .ref a] → Q (.ref p) s') :
    wpAny (model X.prog X.w) X.A (call (.ref f) [.ref a]) Q E s := by
  obtain ⟨hz, its, rv, oa, hoa, hca, na, hda⟩ := I.hok a _ ha
  have e0 := I.env0
  have nob : ∀ b o, X.base.get? b = some o → b ≠ a := fun b o e z => by
    have := (I.bs b o e).2
    rw [z, ha] at this
    cases this
  have nofr : ∀ b, b ∈ frs X.stack → b ≠ a := fun b hb z => by
    have := I.stkFree b hb
    rw [z, ha] at this
    cases this
  generalize hHm : (fun b => if b = a then some (HO.frz oa (.tup xs)) else none : Hp) = Hm
  have hma : Hm a = some (.frz oa (.tup xs)) := by rw [← hHm]; simp
  have hmn : ∀ b, b ≠ a → Hm b = none := fun b hb => by rw [← hHm]; simp [hb]
  have hokm : HOk X.prog X.w Hm s.heap := fun b o e => by
    by_cases q : b = a
    · rw [q, hma] at e
      cases e
      rw [q]
      exact ⟨hoa, hz, its, rv, oa, hoa, hca, na, hda⟩
    · rw [hmn b q] at e
      cases e
  have e1 : Env0 X.prog X.w X.K X.mg X.base X.A X.stack s Hm := ⟨e0.frames, e0.mod, fun b o e => ⟨(e0.bs b o e).1, hmn b (nob b o e)⟩, e0.bsz, e0.funs, fun b hb => hmn b (nofr b hb), hokm, e0.bare⟩
  have hcr : s.heap.CodeRec (.ref c') qual := NdefX.codeO_at I.hok hc
  have lim : s.heap.NoLimit := I.nolimit
  have hsqa : SqT X.K Hm a xs := .inl (.inr ⟨oa, hma⟩)
  have rc : codeAny (model X.prog X.w) X.A (.call (.ref f) ⟨[.ref a], []⟩) (CR CX0 X.stack X.prog X.w Hm s (fun v H' => ∃ p, v = .ref p ∧ Hm p = none ∧ H' p = some (.tup [.int (xs.length : Int), .ref a])) E0) s := by
    refine PySem.W.kla_callFunE hr.depth hf rfl S.co S.gen rfl hcr ?_
    rw [hb [.ref a] rfl]
    refine wpAny_pure (wpAny_newFunctionEnv S.nocell (fun ⟨n, _⟩ hy => S.par n (List.of_mem_zip hy).1) (fun h₁ hns hsb => ⟨lim.fresh _ hsb, ?_⟩) S.kind)
    show codeAny _ _ (.expr (.Tuple [.Call (.Name "len" p1) [.Name "x" p2] [] p3, .Name "x" p4] x1 p5) (NdefX.envF ⟨"<lambda>", qual, params, [], scope, [], c'⟩ f s.heap.objs.size)) _ _
    have kp : ∀ b o, s.heap.get? b = some o → h₁.get? b = some o := fun b o e => hsb.extBut b o (Nat.ne_of_lt (Heap.lt_size e)) (Heap.get?_push_of_some _ e)
    have J : Inv (NdefX.ncx CX0 X.prog X.w X.K X.mg X.base ["x"] ⟨"<lambda>", qual, params, [], scope, [], c'⟩ f X.A X.stack s Hm E0) [] (NdefX.startF ["x"] [.ref a] []) Hm { s with heap := h₁, toks := s.toks + ((["x"] : List Str).zip [Value.ref a]).length } :=
      NdefX.inv_startN S hr.hd e1 rfl (.cons rfl .nil) ⟨rfl, fun y c e => by simp at e, fun x y c e => by simp at e, fun i y e => by simp at e⟩ hns kp
    have hx : scope.names.lookup ("x" : Str) = some .local := S.par "x" (by simp)
    have body : PE (NdefX.ncx CX0 X.prog X.w X.K X.mg X.base ["x"] ⟨"<lambda>", qual, params, [], scope, [], c'⟩ f X.A X.stack s Hm E0) (.Tuple [.Call (.Name "len" p1) [.Name "x" p2] [] p3, .Name "x" p4] x1 p5)
        (tTup (tCons (tCB (fun zs H Q => ∃ p ys, zs = [.ref p] ∧ (SqL X.K H p ys ∨ SqT X.K H p ys) ∧ Q (.int ys.length) H) (tCons (tVar 0) tNil)) (tCons (tVar 0) tNil))) :=
      pe_tup (pa_cons (pe_callB call_len_seq hgl hm b_len (pa_cons (pv 0 rfl (.inl hx)) pa_nil)) (pa_cons (pv 0 rfl (.inl hx)) pa_nil))
    refine PySem.W.kla_codeExpr (wpAny_mono (body.run [] _ _ Hm (fun v H' => ∃ p, v = .ref p ∧ Hm p = none ∧ H' p = some (.tup [.int (xs.length : Int), .ref a])) J ?_) (fun v s' hq => ?_) fun e s' hq => hq)
    · refine ⟨.ref a, rfl, a, xs, rfl, .inr hsqa, .ref a, rfl, by show 2 ≤ sizeLine; decide, fun p np => ⟨p, rfl, np, upd_same⟩⟩
    · obtain ⟨v', H', J', rv', q⟩ := hq
      exact ⟨v', H', J'.os, J'.bare, J'.base, J'.hok, rv', q⟩
  refine wpAny_call (codeAny_mono rc fun r s' hq => ?_)
  cases r with
  | error e => exact False.elim hq
  | ok fl =>
    cases fl with
    | ret u =>
      obtain ⟨v, H', hos, hbare, un, hok, rvv, p, rfl, np, hp⟩ := hq
      have hau : H' a = some (.frz oa (.tup xs)) := un.frzs a _ _ hma
      have hpa : p ≠ a := fun e => by rw [e, hma] at np; cases np
      have lit : ∀ b o, b ∉ frs X.stack → s.heap.get? b = some o → s'.heap.get? b = some o := fun b o hb e => by
        by_cases q : b = a
        · subst q
          rw [hoa] at e
          cases e
          exact (hok b _ hau).1
        · exact un.keep b o e (hmn b q) hb (by simp)
      have anyk : ∀ b o, s.heap.get? b = some o → ∃ sl, s'.heap.get? b = some { o with slots := sl } := fun b o e => by
        by_cases q : b ∈ frs X.stack
        · exact un.slot b o e (hmn b (nofr b q)) q (by simp)
        · exact ⟨o.slots, lit b o q e⟩
      have nps : s.heap.get? p = none := by
        cases e : s.heap.get? p with
        | none => rfl
        | some o =>
          have := un.free p o e np (by simp)
          rw [hp] at this
          cases this
      have npf : p ∉ frs X.stack := fun hb => by
        obtain ⟨_, o, ho, _⟩ := I.stack.mem (show p ∈ X.stack.filterMap (·.frame) from hb)
        rw [nps] at ho
        cases ho
      obtain ⟨_, its2, rv2, hit⟩ := hok p _ hp
      obtain rfl : u = Value.ref p := rvv
      cases rv2 with
      | cons r1 r2 =>
        cases r2 with
        | cons r3 r4 =>
          cases r4
          obtain ⟨t, rfl⟩ := r1
          cases r3
          exact h p t s' hos hbare lit anyk nps npf hit
    | next => exact False.elim hq
    | brk => exact False.elim hq
    | cont => exact False.elim hq
theorem clo_none (cells : List (Str × Addr)) : ∀ names : List (Str × NameKind), (∀ y ∈ names, y.2 ≠ .free) → cloFrom cells names [] = []
  | [], _ => rfl
  | (n, k) :: r, h => by
    unfold cloFrom
    have hk : (k == NameKind.free) = false := by
      cases e : k with
      | free => exact absurd e (h (n, k) (by simp))
      | _ => rfl
    rw [hk]
    exact clo_none cells r fun y hy => h y (List.mem_cons_of_mem _ hy)
theorem pe_minL {k : Nat} {e : Expr} {te : TE} {params : Arguments} {scope : Scope} {p1 p2 p3 p4 p5 p lpos kpos pos : Pos} {x1 : Nat} {T : List (Addr × Str)} {c P : Addr} (hr : Room (k + 2) X.A) (hcalm : X.calm = true) (hg : Gl X "min") (hm : X.mg "min" = none) (hml : X.mg "len" = none) (he : PE X e te)
    (TB : LamX.TabB X.base X.mg c P) (hcode : X.env.code = .ref c) (hmT : (P, X.env.qual ++ "<lambda>") ∈ T) (hu : ∀ p ∈ T, p.1 = P → p.2 = X.env.qual ++ "<lambda>") (S : NdefX.NScope ["x"] ["x"] [] scope) (hgl : scope.names.lookup ("len" : Str) = some .globalImplicit)
    (hb : ∀ (qual : Str) (cl : List (Str × Addr)) (pm cdv ctv : Value) (us : List Value), us.length = 1 → bindArgs (PySem.W.kla_fn "<lambda>" qual params (.Tuple [.Call (.Name "len" p1) [.Name "x" p2] [] p3, .Name "x" p4] x1 p5) scope cl pm cdv ctv) ⟨us, []⟩ = pure ((["x"] : List Str).zip us))
    (hdef : defaultsOf params X.env = ([], []) := by rfl)
    (hs : backTo pos (starEach [e] X.env) = (false, eval e X.env) :: backTo pos (starEach [] X.env) := by rfl) (hpl : (backTo pos (starEach [e] X.env)).any (·.1) = false := by rfl)
    (hall : (backToKw pos (keywordEach [⟨some "key", .Lambda params (.Tuple [.Call (.Name "len" p1) [.Name "x" p2] [] p3, .Name "x" p4] x1 p5) scope lpos, kpos⟩] X.env)).all (·.1.isSome) = true := by rfl)
    (hnone : (backToKw pos (keywordEach [⟨some "key", .Lambda params (.Tuple [.Call (.Name "len" p1) [.Name "x" p2] [] p3, .Name "x" p4] x1 p5) scope lpos, kpos⟩] X.env)).any (·.1.isNone) = false := by rfl)
    (hse : starEach [e] X.env = (false, eval e X.env) :: starEach [] X.env := by rfl) :
    PE X (.Call (.Name "min" p) [e] [⟨some "key", .Lambda params (.Tuple [.Call (.Name "len" p1) [.Name "x" p2] [] p3, .Name "x" p4] x1 p5) scope lpos, kpos⟩] pos) (tMinL X.K T te) := by
  refine ⟨fun pins s σ H Q I h => ?_⟩
  refine wpAny_Call_Name_kw (ld_blt I hg hm b_min ?_)
  refine PyProof.Rows.callWith_kw (thn ((pa_cons he pa_nil hse).run pos pins s σ H (fun vs H1 => match vs with
    | [x] => ∃ (l : Addr) (as : List Addr) (Ws : List (List (List Nat))), x = .ref l ∧ SqL X.K H1 l (as.map V.ref) ∧ as ≠ [] ∧ as.length = Ws.length ∧ (∀ (i : Nat) (a : Addr) (W : List (List Nat)), as[i]? = some a → Ws[i]? = some W → WvT X.K H1 a W) ∧ LamX.Tabs T H1 ∧
      ∀ (i : Nat) (a : Addr) (W : List (List Nat)) (H2 : Hp), as[i]? = some a → Ws[i]? = some W → (∀ W', W' ∈ Ws → W.length ≤ W'.length) → LamX.ExtN H1 H2 → LamX.Tabs T H2 → Q (.ref a) H2
    | _ => False) I h) fun us s1 ⟨vs, H1, I1, r1, q1⟩ => ?_) hs hpl hall hnone
  cases r1 with
  | nil => exact False.elim q1
  | cons r rr =>
    cases rr with
    | cons _ _ => exact False.elim q1
    | nil =>
      obtain ⟨l, as, Ws, rfl, hl, hne, hlen, hW, hT, q⟩ := q1
      cases r
      show wpAny _ _ (evalAll ((do let v ← eval (.Lambda params (.Tuple [.Call (.Name "len" p1) [.Name "x" p2] [] p3, .Name "x" p4] x1 p5) scope lpos) X.env; standAt pos; pure v) :: [])) _ _ s1
      refine wpAny_evalAll_cons (wpAny_bind (LamX.lam_make2 I1 TB hcode hmT hu hT hdef (fun y hy ef => absurd (S.free y hy ef) (by simp)) fun f c' pm ctv H2 s2 I2 ext hT2 hf hfn hff hc => wpAny_bind (wpAny_standAt (wpAny_pure ?_))))
      refine wpAny_evalAll_nil ?_
      show wpAny _ _ (call (.builtin "min") [.ref l] [(Str.ofString "key", .ref f)]) _ _ s2
      rw [clo_none X.env.cells scope.names (fun y hy ef => absurd (S.free y hy ef) (by simp))] at hf
      obtain ⟨its, rv, hpl2, hz⟩ := I2.list (extN_seq ext hl)
      have hits : its.length = as.length := by
        have := rv.length
        rw [List.length_map] at this
        exact this.symm
      have hcalm2 : (X.A.in1).handled = none := I2.ok.hd hcalm
      have hW2 : ∀ (i : Nat) (a : Addr) (W : List (List Nat)), as[i]? = some a → Ws[i]? = some W → WvT X.K H2 a W := fun i a W h1 h2 => by
        obtain ⟨bs, g1, g2, g3⟩ := hW i a W h1 h2
        exact ⟨bs, ext _ _ g1 (fun _ z => by cases z), g2, fun j r hj => let ⟨b, e1, e2⟩ := g3 j r hj; ⟨b, e1, extN_tup ext e2⟩⟩
      have vat : ∀ (i : Nat) (v : Value), its.toArray[i]? = some v → ∃ a, as[i]? = some a ∧ v = Value.ref a := fun i v hv => by
        have hv : its[i]? = some v := by simpa using hv
        have hi : i < as.length := by
          have := (List.getElem?_eq_some_iff.mp hv).1
          omega
        have hi2 : (as.map V.ref)[i]? = some (V.ref as[i]) := map_get (List.getElem?_eq_getElem hi)
        obtain ⟨u, hu2, ru⟩ := rv.get hi2
        rw [hv] at hu2
        cases hu2
        exact ⟨as[i], List.getElem?_eq_getElem hi, ru⟩
      have hl2 : H2 l = none ∨ ∃ o, H2 l = some o := by
        cases H2 l with
        | none => exact .inl rfl
        | some o => exact .inr ⟨o, rfl⟩
      refine PySem.call_min_walkK (PySem.W.iter_listW (A := X.A.in1) hcalm2 hpl2.isList fun s3 e3 W st hfp hnI hk => ?_)
      have I3 : Inv X pins σ H2 s3 := by
        rw [e3]
        exact I2.kept (t' := s2.toks) fun b o eb => Heap.get?_push_of_some _ eb
      have hf3 : s3.heap.get? f = _ := hk _ _ hf
      have hsz : s3.heap.objs.size = s2.heap.objs.size + 1 := by
        rw [e3]
        exact Heap.size_push ..
      have fpI : FpOk X pins H2 s2.heap.objs.size := I2.fpOk (Nat.le_refl _) (I2.hok.fresh (Nat.le_refl _))
      have fpS : FpOk X pins H2 s3.heap.objs.size := I3.fpOk (Nat.le_refl _) (I3.hok.fresh (Nat.le_refl _))
      have nfr : ∀ {b}, FpOk X pins H2 b → b ∉ frs X.stack := fun {b} fp hb => by
        rcases List.mem_cons.mp (I3.stkSub b hb) with z | z
        · exact fp.2.1 z
        · exact fp.2.2.1 z
      have fI : f ≠ s2.heap.objs.size := Nat.ne_of_lt (Heap.lt_size hf)
      have fS : f ≠ s3.heap.objs.size := Nat.ne_of_lt (Heap.lt_size hf3)
      have nl : l ∉ frs X.stack := fun hb => by
        have h0 := I2.stkFree l hb
        obtain ⟨_, ho, _⟩ := hpl2
        rcases extN_seq ext hl with (z | ⟨o, z⟩) | ⟨o, its0, n0, z, _⟩
        · rw [h0] at z; cases z
        · rw [h0] at z; cases z
        · obtain ⟨hb0, _⟩ := I2.stack.mem (show l ∈ X.stack.filterMap (·.frame) from hb)
          rw [I2.mod.kin l o z] at hb0
          cases hb0
      have hn : 0 < its.toArray.size := by
        rw [List.size_toArray, hits]
        exact List.length_pos_iff.mpr hne
      refine ⟨_, _, _, _, _, _, _, fun s' => Inv X pins σ H2 s' ∧ s'.heap.get? f = some (PySem.W.kla_obj "<lambda>" (X.env.qual ++ "<lambda>") params (.Tuple [.Call (.Name "len" p1) [.Name "x" p2] [] p3, .Name "x" p4] x1 p5) scope [] pm c' ctv),
        fun i kx s' => ∃ (p : Addr) (t : Tok), kx = .ref p ∧ p ∉ frs X.stack ∧ p ≠ s3.heap.objs.size ∧ p ≠ s2.heap.objs.size ∧ i < as.length ∧ IsTup s'.heap p #[.int ((Ws.getD i []).length : Int) t, .ref (as.getD i 0)],
        fun i j => PySem.W.dataLt (dK (Ws.getD i [])) (dK (Ws.getD j [])), rfl, W, st, hfp, hn, ⟨?_, ?_, ?_, ?_⟩, ⟨I3, hf3⟩, ?_⟩
      · -- keep
        rintro sa sb ⟨Ia, hfa⟩ mv
        have eb : sb = { sa with heap := sb.heap, toks := sb.toks } := by
          obtain ⟨h', g', d', t', o'⟩ := sb
          have e1 : g' = sa.gens := mv.gens
          have e2 : d' = sa.drawn := mv.drawn
          have e3 : o' = sa.os := mv.os
          subst e1 e2 e3
          rfl
        refine ⟨?_, mv.heap f _ (by simp; exact ⟨fS, fI⟩) hfa⟩
        rw [eb]
        refine Ia.turnedL (t' := sb.toks) (ch := [s3.heap.objs.size, s2.heap.objs.size]) (fun b o hb q => mv.heap b o hb q) fun b hb => ?_
        have e' : b = s3.heap.objs.size ∨ b = s2.heap.objs.size := by simpa using hb
        rcases e' with z | z
        · rw [z]; exact fpS
        · rw [z]; exact fpI
      · -- keepV
        rintro i kx sa sb ⟨p, t, e1, e2, e3', e4, e5, o, ho, r⟩ mv
        exact ⟨p, t, e1, e2, e3', e4, e5, o, mv.heap p o (by simp; exact ⟨e3', e4⟩) ho, r⟩
      · -- turn
        rintro i v sa o Q' E' hi hPv ⟨Ia, hfa⟩ ⟨hit, hil⟩ hS hQ'
        obtain ⟨a, haa, rfl⟩ := vat i v hPv
        have hia := (List.getElem?_eq_some_iff.mp haa).1
        have hWi : Ws[i]? = some (Ws.getD i []) := get_of [] (by omega)
        obtain ⟨bs, g1, g2, g3⟩ := hW2 i a _ haa hWi
        have Ib : Inv { X with A := X.A.in1 } pins σ H2 sa := by
          obtain ⟨z1, z2, z3, z4, z5, z6, z7, z8, z9, z10, z11⟩ := Ia
          obtain ⟨y1, y2, y3, y4, y5, y6, y7, y8, y9, y10, y11, y12, y13, y14, y15, y16, y17, y18⟩ := z1
          exact ⟨⟨y1, y2, y3, y4, y5, y6, y7, y8, y9, y10, y11, y12, y13, y14, y15, y16, y17, y18⟩, z2, z3, z4, z5, z6, z7, z8, z9, z10, z11⟩
        refine lam_call (X := { X with A := X.A.in1 }) (Room.in1 hr) Ib hml hfa hc S hgl (fun us hus => hb _ _ _ _ _ us hus) g1 fun p t sb hos hbare lit anyk np npf hit2 => ?_
        have un : Un (frs X.stack) [] H2 H2 sa.heap sb.heap := ⟨fun b ob e _ nb _ => lit b ob nb e, fun b ob e _ _ _ => anyk b ob e, fun b _ _ n _ => n, fun b ob e _ => let ⟨sl, z⟩ := anyk b ob e; ⟨_, z⟩, fun _ _ e => e, fun _ _ _ e => e, fun b ps e => ⟨#[], by rw [e]; simp⟩⟩
        have hokb : HOk X.prog X.w H2 sb.heap := fun b ob e => (Ia.hok b ob e).stay (fun d u hd q => lit d u (fun hz => by
          have h0 := Ia.stkFree d hz
          rcases hd with z | z
          · rw [z, e] at h0; cases h0
          · rw [z] at h0; cases h0) q) (fun _ q => q) fun _ _ q => q
        have Jb : Inv X pins σ H2 sb := Ia.call' (ch := []) hos un hokb hbare fun b hb => absurd hb (by simp)
        have litF : ∀ b ob, FpOk X pins H2 b → sa.heap.get? b = some ob → sb.heap.get? b = some ob := fun b ob fp e => lit b ob (nfr fp) e
        have pS : p ≠ s3.heap.objs.size := fun e => by rw [e, hS] at np; cases np
        have pI : p ≠ s2.heap.objs.size := fun e => by
          obtain ⟨oi, ho, _⟩ := hit
          rw [e, ho] at np
          cases np
        refine hQ' (.ref p) sb ⟨Jb, lit f _ hff hfa⟩ ⟨?_, ?_⟩ (litF _ _ fpS hS) ⟨p, t, rfl, npf, pS, pI, hia, ?_⟩ fun j kj hj => ?_
        · obtain ⟨oi, ho, r⟩ := hit
          exact ⟨oi, litF _ _ fpI ho, r⟩
        · obtain ⟨ol, ho, r⟩ := hil
          exact ⟨ol, lit _ _ nl ho, r⟩
        · rw [getD_of haa]
          have e5 : (bs.map V.ref).length = (Ws.getD i []).length := by rw [List.length_map, g2]
          rw [e5] at hit2
          exact hit2
        · obtain ⟨p', t', e1, e2, e3', e4, e5, o', ho, r⟩ := hj
          exact ⟨p', t', e1, e2, e3', e4, e5, o', lit _ _ e2 ho, r⟩
      · -- cmp
        rintro i j ki kj sa Q' E' ⟨Ia, hfa⟩ ⟨pi, ti, rfl, _, _, _, hi, oi, hoi, hci, ni, hdi⟩ ⟨pj, tj, rfl, _, _, _, hj, oj, hoj, hcj, nj, hdj⟩ hQ'
        obtain ⟨asi, rdi⟩ := Dp.reads Ia _ _ (.ref (as.getD i 0)) (hW2 i _ _ (get_of 0 hi) (get_of [] (by omega))).dp rfl
        obtain ⟨asj, rdj⟩ := Dp.reads Ia _ _ (.ref (as.getD j 0)) (hW2 j _ _ (get_of 0 hj) (get_of [] (by omega))).dp rfl
        have ri : Reads sa.heap (.ref pi) (dK (Ws.getD i [])) ([] ++ (asi ++ [])) := .tuple hoi hci hdi (.cons (.int _ _) (.cons rdi .nil))
        have rj : Reads sa.heap (.ref pj) (dK (Ws.getD j [])) ([] ++ (asj ++ [])) := .tuple hoj hcj hdj (.cons (.int _ _) (.cons rdj .nil))
        refine PySem.W.rcLt_alike _ _ X.A.in1 sa _ _ _ _ ri rj (al_K _ _) (fun z => by cases z) ?_ X.prog X.w E' Q' hQ'
        have h1 := (Room.in1 hr).units
        have h2 := depth_K (Ws.getD i [])
        have h3 := Nat.min_le_left (dK (Ws.getD i [])).depth (dK (Ws.getD j [])).depth
        omega
      · -- the end
        rintro v sb hPv ⟨Ib, _⟩
        obtain ⟨a, haa, rfl⟩ := vat _ v hPv
        have hsz2 : its.toArray.size = Ws.length := by rw [List.size_toArray, hits, hlen]
        obtain ⟨b1, b2⟩ := best_min (fun i => Ws.getD i []) (its.toArray.size - 1)
        refine ⟨.ref a, H2, Ib, rfl, q _ a (Ws.getD _ []) H2 haa (get_of [] (by omega)) (fun W' hW' => ?_) ext hT2⟩
        obtain ⟨j, hj, e⟩ := List.getElem_of_mem hW'
        have := b2 j (by omega)
        rw [getD_of (l := Ws) (i := j) (List.getElem?_eq_getElem hj), e] at this
        exact this
end
end Mx
set_option maxHeartbeats 4000000
namespace Mx
open PySem PySem.Spec PyProof.Rows L2
abbrev sFit : Stmt := topS 47
abbrev sSubsets : Stmt := topS 48
abbrev sPut : Stmt := topS 49
abbrev nFit : List Str := ["rows", "state", "rest", "x"]
abbrev nSubsets : List Str := ["rooms", "found", "room", "some"]
abbrev nPut : List Str := ["state", "rest", "rooms", "room", "part"]
theorem ndFit : nFit.Nodup := by decide +kernel
theorem ndSubsets : nSubsets.Nodup := by decide +kernel
theorem ndPut : nPut.Nodup := by decide +kernel
theorem scFit : FnScope nFit ["rows", "state", "rest"] (defScope sFit) := ⟨rfl, rfl, rfl, by decide +kernel, rfl, by decide +kernel, by decide +kernel⟩
theorem scSubsets : FnScope nSubsets ["rooms"] (defScope sSubsets) := ⟨rfl, rfl, rfl, by decide +kernel, rfl, by decide +kernel, by decide +kernel⟩
theorem scPut : FnScope nPut ["state", "rest", "rooms"] (defScope sPut) := ⟨rfl, rfl, rfl, by decide +kernel, rfl, by decide +kernel, by decide +kernel⟩
def spFit (K : PySem.W.Frag) : Sp := fun vs H Q _ => ∃ (n : Nat) (a b c : Addr) (rw : List (List Nat)) (st rest : List Nat), vs = [.ref a, .ref b, .ref c] ∧ Rws K H a rw ∧ Hz n rw ∧ TN K H b st ∧ TN K H c rest ∧ st.length = n ∧ rest.length = n ∧ ∀ L H', H L = none → Same H H' → H' L = some (.lst ((fitL rw st rest).map vi)) → Q (.ref L) H'
def spSubsets (K : PySem.W.Frag) : Sp := fun vs H Q _ => ∃ (a : Addr) (rs : List Nat), vs = [.ref a] ∧ LN K H a rs ∧ rs.length ≤ 8 ∧
  ∀ L ks H', Same H H' → H' L = some (.lst (ks.map rf)) → Tups H' ks → (∀ S, S ∈ ks.map (·.2) ↔ S ∈ subsL rs) → ks.length ≤ 2 ^ rs.length → Q (.ref L) H'
def spPut (K : PySem.W.Frag) : Sp := fun vs H Q _ => ∃ (n : Nat) (a b c : Addr) (st rest r : List Nat), vs = [.ref a, .ref b, .ref c] ∧ TN K H a st ∧ TN K H b rest ∧ (TN K H c r ∨ LN K H c r) ∧ st.length = n ∧ rest.length = n ∧ n ≤ 8 ∧
  ∀ p H', Same H H' → H' p = some (.tup ((putL st rest r).map vi)) → Q (.ref p) H'
theorem fit_list {rw : List (List Nat)} {st rest : List Nat} : ((List.range rest.length).filterMap fun i => if (decide (rest.getD i 0 < st.getD i 0) && decide (fr rw st i = rest.getD i 0)) = true then some (vi i) else none) = (fitL rw st rest).map vi :=
  fm_filter (fun i => decide (rest.getD i 0 < st.getD i 0) && decide (fr rw st i = rest.getD i 0)) vi _
/-- [x for x in range(len(rest)) if rest[x] < state[x] and free_number(rows, state, x) == rest[x]] -/
theorem fitComp {K : PySem.W.Frag} {H : Hp} {a b c : Addr} {n j ir is it : Nat} {rw : List (List Nat)} {st rest : List Nat} {vs : List Nat} {σ : L2.St} {Q : Addr → Hp → Prop} (hR : Rws K H a rw) (hz : Hz n rw) (hb : TN K H b st) (hc : TN K H c rest) (ls : st.length = n) (lr : rest.length = n) (hw : ∀ y, wipe ((wipe σ vs).set j (some y)) vs = wipe σ vs)
    (gj : ∀ y : V, ((wipe σ vs).set j (some y))[j]? = some (some y)) (gr : ∀ y : V, ((wipe σ vs).set j (some y))[ir]? = some (some (V.ref a))) (gs : ∀ y : V, ((wipe σ vs).set j (some y))[is]? = some (some (V.ref b))) (gt : ∀ y : V, ((wipe σ vs).set j (some y))[it]? = some (some (V.ref c)))
    (q : ∀ D H', H D = none → Same H H' → H' D = some (.lst ((fitL rw st rest).map vi)) → Q D H') :
    LcGoal (Itr 0 n) (gName j) (tAnd (tTest (tOp (rI0 fun i j => .bl (decide (i < j))) (tOp (rIxT K) (tVar it) (tVar j)) (tOp (rIxT K) (tVar is) (tVar j)))) (tTest (tOp rEq (tCall (spFree K) [] E0 (tCons (tVar ir) (tCons (tVar is) (tCons (tVar j) tNil)))) (tOp (rIxT K) (tVar it) (tVar j))))) (tVar j) vs σ H Q := by
  refine lcR (fun m => if (decide (rest.getD m 0 < st.getD m 0) && decide (fr rw st m = rest.getD m 0)) = true then some (vi m) else none) (by have := hz.n8; omega) (fun m H2 hm s2 N k1 k2 => ?_) (fun D H2 nD s2 hD => ?_)
  · refine ⟨hw _, ?_⟩
    refine ⟨_, gt _, vi m, gj _, c, _, _, _, rfl, rfl, sameT s2 hc, at_vi (by omega), _, gs _, vi m, gj _, b, _, _, _, rfl, rfl, sameT s2 hb, at_vi (by omega), _, _, rfl, rfl, _, rfl, ?_⟩
    rw [dec_nat_lt]
    refine ite2 (fun z => ?_) (fun z => ?_)
    · refine ⟨_, gr _, _, gs _, vi m, gj _, n, m, a, b, rw, st, rfl, sameRws s2 hR, hz, sameT s2 hb, ls, hm, fun H3 s3 => ?_⟩
      refine ⟨_, gt _, vi m, gj _, c, _, _, _, rfl, rfl, sameT (s2.trans s3) hc, at_vi (by omega), rfl, _, rfl, ?_⟩
      rw [dec_vi_eq]
      refine ite2 (fun z2 => ⟨vi m, gj _, k1 _ _ (if_pos ?_) s3⟩) (fun z2 => k2 _ (if_neg ?_) s3)
      · rw [z, z2]; rfl
      · rw [z, Bool.true_and]; exact z2
    · refine k2 _ (if_neg ?_) (Same.refl _)
      rw [Bool.eq_false_iff.mpr z, Bool.false_and]
      exact Bool.false_ne_true
  · rw [← lr, fit_list] at hD
    exact q D H2 nD s2 hD
section
variable {P : Program} {w : World} {K : PySem.W.Frag} {mg : Str → Option Value} {base : Heap}
theorem cd_fit_rooms (B : Bz mg) (D : Dfn K mg "fit_rooms" sFit ["rows", "state", "rest"]) (C1 : Cd P w K mg base 1 "free_number" ["rows", "state", "room"] (spFree K)) : Cd P w K mg base 2 "fit_rooms" ["rows", "state", "rest"] (spFit K) := by
  refine cd_of D scFit (fun vs H Q E h => ?_) (fun f cdv A outer s H vs Q E hr h => ?_)
  · obtain ⟨n, a, b, c, rw, st, rest, rfl, _⟩ := h
    rfl
  obtain ⟨n, a, b, c, rw, st, rest, rfl, hR, hz, hb, hc, ls, lr, q⟩ := h
  refine ⟨_, pss_one (ps_ret (pe_lc (own := [("x", 3)]) rfl ndFit (pi_range1 (by rfl) B.zrange (pa_cons (pe_callB call_len_seq (by rfl) B.zlen b_len (pa_cons (pv 2) pa_nil)) pa_nil)) (blkOk_by (N := nFit) (sc := defScope sFit) (by decide +kernel)) (fun s H C cl fp => pg_name ndFit (i := 3) rfl (Or.inl rfl))
      (fun s H C cl fp => pts_one (pw_and (pt_cmpR op_lt (pe_ix (ix_tup : IxR _ (rIxT K)) (pv 2) (pv 3) (fun _ _ => rfl)) (pe_ix (ix_tup : IxR _ (rIxT K)) (pv 1) (pv 3) (fun _ _ => rfl)) rfl)
        (pw_and1 (pt_cmpR op_eq (pe_cd C1 hr (pa_cons (pv 0) (pa_cons (pv 1) (pa_cons (pv 3) pa_nil)))) (pe_ix (ix_tup : IxR _ (rIxT K)) (pv 2) (pv 3) (fun _ _ => rfl)) rfl))).pt) (fun s H C cl fp => pv 3))), ?_⟩
  have hn := hz.n8
  refine ⟨.ref c, rfl, c, _, rfl, .inr hc, n, ?_, by omega, by omega, ?_⟩
  · rw [List.length_map, lr]
  rw [show (n : Int).toNat = n from Int.toNat_natCast n]
  exact fitComp hR hz hb hc ls lr (fun _ => rfl) (fun _ => rfl) (fun _ => rfl) (fun _ => rfl) (fun _ => rfl) q
theorem cd_subsets (B : Bz mg) (D : Dfn K mg "subsets" sSubsets ["rooms"]) : Cd P w K mg base 1 "subsets" ["rooms"] (spSubsets K) := by
  refine cd_of D scSubsets (fun vs H Q E h => ?_) (fun f cdv A outer s H vs Q E hr h => ?_)
  · obtain ⟨a, rs, rfl, _⟩ := h
    rfl
  obtain ⟨a, rs, rfl, hb, hl8, q⟩ := h
  refine ⟨_, pss_cons (ps_set ndSubsets (i := 1) rfl (Or.inl rfl) (pe_lst (pa_cons (pe_tup pa_nil) pa_nil)))
    (pss_cons (ps_for PassesOwn.never rfl (pi_list (pv 0)) (pg_name ndSubsets (i := 2) rfl (Or.inr rfl))
        (pss_one (ps_expr (pe_bm PySem.F.plainAttrs_list PySem.F.slot_list_extend PySem.F.type_list_extend mt_extend (pv 1) (pa_cons
          (pe_lc (own := [("some", 3)]) rfl ndSubsets (pi_list (pv 1)) (blkOk_by (N := nSubsets) (sc := defScope sSubsets) (by decide +kernel)) (fun s H C cl fp => pg_name ndSubsets (i := 3) rfl (Or.inl rfl)) (fun s H C cl fp => pts_nil)
            (fun s H C cl fp => pe_tup (StX.pa_star (pv 3) (pa_cons (pv 2) pa_nil) : PA _ _ (StX.tStar K (tVar 3) (tCons (tVar 2) tNil))))) pa_nil)))))
      (pss_one (ps_ret (pe_callB (cr_sortedTup hr.units) (by rfl) B.zsorted b_sorted (pa_cons (pe_lc (own := [("some", 3)]) rfl ndSubsets (pi_list (pv 1)) (blkOk_by (N := nSubsets) (sc := defScope sSubsets) (by decide +kernel)) (fun s H C cl fp => pg_name ndSubsets (i := 3) rfl (Or.inl rfl))
          (fun s H C cl fp => pts_one (pt_cmpR (op_neD hr.units : OpR _ _ (rNeD K)) (pv 3) (pe_tup pa_nil) rfl)) (fun s H C cl fp => pv 3)) pa_nil))))), ?_⟩
  refine ⟨Nat.zero_le _, fun e0 ne0 => ?_⟩
  refine ⟨by show 1 ≤ sizeLine; decide, fun F nF => ?_⟩
  have sm0 : Same H (upd (upd H e0 (.tup [])) F (.lst [V.ref e0])) := (sameN ne0).trans (sameN nF)
  refine ⟨.ref a, rfl, a, rfl, ⟨_, sm0.seq hb⟩, ?_⟩
  have nF0 : H F = none := (sameN ne0).free nF
  refine for_list (xs := rs.map vi) (fun i σ H' => (∃ u v, σ = [some (.ref a), some (.ref F), u, v]) ∧ Same H H' ∧ ∃ ks : List (Addr × List Nat), H' F = some (.lst (ks.map rf)) ∧ Tups H' ks ∧ ks.map (·.2) = exts (fun _ _ => true) (rs.take i)) ⟨⟨_, _, rfl⟩, sm0, [(e0, [])], upd_same, fun k hk => ?_, rfl⟩
    (fun i σ H' _ h => h.2.1.seq hb) (fun i x σ H' hx h => ?_) (fun σ H' h => ?_)
  · have e : k = (e0, []) := by simpa using hk
    rw [e, upd_ne (fun e : e0 = F => by rw [← e, upd_same] at nF; cases nF), upd_same]
    rfl
  · obtain ⟨⟨u, v, rfl⟩, sm, ks, hF, hT, hks⟩ := h
    obtain ⟨hi, rfl⟩ := get_vi hx
    have hkl : ks.length ≤ 256 := by
      have h1 := exts_length (fun _ _ => true) (rs.take i)
      rw [← hks, List.length_map, List.length_take] at h1
      refine Nat.le_trans h1 ?_
      exact Nat.pow_le_pow_right (by decide) (show min i rs.length ≤ 8 by omega)
    refine ⟨.ref F, rfl, .inl ⟨rfl, _, SqL.of hF⟩, .ref F, rfl, F, rfl, ⟨_, SqL.of hF⟩, ?_⟩
    refine lcXL (xs := ks.map rf) rf (fun m => (fun _ : List Nat => true) ((ks.map (·.2)).getD m [])) (fun D m k H => k.1 ≠ D ∧ H k.1 = some (.tup (k.2.map vi)) ∧ k.2 = (ks.map (·.2)).getD m [] ++ [rs[i]]) (fun D m k H H' h e => ⟨h.1, e _ _ h.2.1 h.1, h.2.2⟩) (SqL.of hF) (by rw [List.length_map]; omega) (fun D m y H2 N nD hD hy s2 k1 k2 => ?_) (fun D H2 bs nD s2 hD hB => ?_)
    · obtain ⟨k, hk, rfl⟩ := get_map hy
      have ek : (ks.map (·.2)).getD m [] = k.2 := getD_of (map_get hk)
      rw [ek] at k1
      have hkT := s2 _ _ (hT k (List.mem_of_getElem? hk))
      refine lcY ?_
      refine ⟨.ref k.1, rfl, k.1, _, rfl, .inl (SqT.of hkT), vi rs[i], rfl, ?_, fun p np => ?_⟩
      · show (k.2.map vi ++ [vi rs[i]]).length ≤ sizeLine
        have hkm : k.2 ∈ exts (fun _ _ => true) (rs.take i) := by rw [← hks]; exact List.mem_map.mpr ⟨k, List.mem_of_getElem? hk, rfl⟩
        have := (exts_sublist hkm).length_le
        rw [List.length_take] at this
        rw [List.length_append, List.length_map]
        exact Nat.le_of_lt (small1000 (by simp; omega))
      · refine k1 (p, k.2 ++ [rs[i]]) _ rfl (sameN np) ⟨fun e => ?_, by rw [upd_same, List.map_append]; rfl, rfl⟩
        obtain ⟨acc, hacc⟩ := hD
        have e : p = D := e
        rw [e, hacc] at np
        cases np
    · have hF2 := s2 _ _ hF
      have eL := (hB.imp fun m k h => h.2.2.symm).map_eq (f := fun m => (ks.map (·.2)).getD m [] ++ [rs[i]]) (g := fun k : Addr × List Nat => k.2)
      have eR := range_fm [] (fun _ : List Nat => true) (fun s => s ++ [rs[i]]) (ks.map (·.2))
      rw [List.length_map] at eR eL
      rw [eR] at eL
      refine ⟨F, D, _, _, rfl, rfl, hF2, hD, ?_, ⟨_, _, rfl⟩, ExD.of_new (sm.trans s2) nF0 exD_upd, ks ++ bs, by rw [upd_same, List.map_append], ?_, ?_⟩
      · rw [List.length_map, List.length_map, ← hB.len]
        have := List.length_filter_le (fun m => (fun _ : List Nat => true) ((ks.map (·.2)).getD m [])) (List.range (ks.map rf).length)
        rw [List.length_range, List.length_map] at this
        exact Nat.le_of_lt (small1000 (by rw [List.length_map]; omega))
      · intro k hk
        have hne : ∀ k : Addr × List Nat, H2 k.1 = some (.tup (k.2.map vi)) → (upd H2 F (.lst (ks.map rf ++ bs.map rf))) k.1 = some (.tup (k.2.map vi)) := fun k h => by
          rw [upd_ne (fun e : k.1 = F => by rw [e, hF2] at h; cases h)]
          exact h
        rcases List.mem_append.mp hk with hk | hk
        · exact hne k (s2 _ _ (hT k hk))
        · obtain ⟨m, _, _, h2, _⟩ := hB.right hk
          exact hne k h2
      · have e : rs.take (i + 1) = rs.take i ++ [rs[i]] := by rw [List.take_add_one, List.getElem?_eq_getElem hi]; rfl
        rw [e, exts_snoc, List.map_append, ← eL, ← hks]
  · obtain ⟨⟨u, v, rfl⟩, sm, ks, hF, hT, hks⟩ := h
    rw [List.length_map, List.take_length] at hks
    have hkl : ks.length ≤ 2 ^ rs.length := by
      have h1 := exts_length (fun _ _ => true) rs
      rw [← hks, List.length_map] at h1
      exact h1
    have hkl2 : ks.length ≤ 256 := Nat.le_trans hkl (Nat.pow_le_pow_right (by decide) hl8)
    refine ⟨.ref F, rfl, F, rfl, ⟨_, SqL.of hF⟩, ?_⟩
    refine lcL (xs := ks.map rf) (fun m => if decide ((ks.getD m (0, [])).2 ≠ []) = true then some (rf (ks.getD m (0, []))) else none) (SqL.of hF) (by rw [List.length_map]; omega) (fun m y H2 hy s2 N k1 k2 => ?_) (fun D H2 nD s2 hD => ?_)
    · obtain ⟨k, hk, rfl⟩ := get_map hy
      rw [getD_of hk] at k1 k2
      have hkT := s2 _ _ (hT k (List.mem_of_getElem? hk))
      refine ⟨rfl, ?_⟩
      refine ⟨rf k, rfl, Nat.zero_le _, fun z nz => ?_⟩
      refine ne_tt (l := k.2) (l' := []) (sameT (sameN nz) (SqT.of hkT)) (SqT.of upd_same) ⟨_, rfl, ?_⟩
      refine ite2 (fun c => ?_) (fun c => ?_)
      · have c' : k.2 ≠ [] := by simpa using c
        exact ⟨rf k, rfl, k1 _ _ (if_pos (decide_eq_true c')) (sameN nz)⟩
      · have c' : ¬ k.2 ≠ [] := by simpa using c
        exact k2 _ (if_neg (by rw [decide_eq_false c']; exact Bool.false_ne_true)) (sameN nz)
    · have eD : ((List.range (ks.map rf).length).filterMap fun m => if decide ((ks.getD m (0, [])).2 ≠ []) = true then some (rf (ks.getD m (0, []))) else none) = (ks.filter fun k => decide (k.2 ≠ [])).map rf := by
        rw [List.length_map, fm_filter (fun m => decide ((ks.getD m (0, [])).2 ≠ [])) (fun m => rf (ks.getD m (0, [])))]
        exact range_fm (0, []) (fun k : Addr × List Nat => decide (k.2 ≠ [])) rf ks
      rw [eD] at hD
      refine ⟨D, (ks.filter fun k => decide (k.2 ≠ [])).map fun k => (k.1, k.2.map Int.ofNat), rfl, ?_, fun p hp => ?_, fun ks' L hperm nL => ?_⟩
      · rw [List.map_map]
        exact SqL.of hD
      · obtain ⟨k, hk, rfl⟩ := List.mem_map.mp hp
        obtain ⟨h1, h2⟩ := List.mem_filter.mp hk
        refine ⟨?_, fun e => ?_⟩
        · show SqT K H2 k.1 ((k.2.map Int.ofNat).map V.int)
          rw [← vi_map]
          exact SqT.of (s2 _ _ (hT k h1))
        · have e : k.2 = [] := by simpa using e
          exact (of_decide_eq_true h2) e
      · have hmem : ∀ p, p ∈ ks' ↔ ∃ k, k ∈ ks ∧ k.2 ≠ [] ∧ (k.1, k.2.map Int.ofNat) = p := fun p => by
          rw [hperm.mem_iff, List.mem_map]
          exact ⟨fun ⟨k, h1, h2⟩ => ⟨k, (List.mem_filter.mp h1).1, of_decide_eq_true (List.mem_filter.mp h1).2, h2⟩, fun ⟨k, h1, h2, h3⟩ => ⟨k, List.mem_filter.mpr ⟨h1, decide_eq_true h2⟩, h3⟩⟩
        have back : ∀ l : List Nat, (l.map Int.ofNat).map Int.toNat = l := fun l => by
          rw [List.map_map]
          exact (List.map_congr_left fun x _ => Int.toNat_natCast x).trans (List.map_id l)
        have s4 : Same H2 (upd H2 L (.lst (ks'.map fun p => V.ref p.1))) := sameN nL
        refine q L (ks'.map fun p => (p.1, p.2.map Int.toNat)) _ (sm.trans (s2.trans s4)) (by rw [upd_same, List.map_map]; rfl) (fun k hk => ?_) (fun S => ?_) ?_
        · obtain ⟨p, hp, rfl⟩ := List.mem_map.mp hk
          obtain ⟨k0, h1, h2, rfl⟩ := (hmem p).mp hp
          show _ = some (HO.tup ((((k0.2.map Int.ofNat).map Int.toNat)).map vi))
          rw [back]
          exact s4 _ _ (s2 _ _ (hT k0 h1))
        · rw [List.map_map]
          unfold subsL
          rw [List.mem_filter, ← hks]
          constructor
          · intro h
            obtain ⟨p, hp, e⟩ := List.mem_map.mp h
            obtain ⟨k0, h1, h2, rfl⟩ := (hmem p).mp hp
            have e : (k0.2.map Int.ofNat).map Int.toNat = S := e
            rw [back] at e
            subst e
            exact ⟨List.mem_map.mpr ⟨k0, h1, rfl⟩, decide_eq_true h2⟩
          · rintro ⟨h1, h2⟩
            obtain ⟨k0, h3, rfl⟩ := List.mem_map.mp h1
            exact List.mem_map.mpr ⟨_, (hmem _).mpr ⟨k0, h3, of_decide_eq_true h2, rfl⟩, back k0.2⟩
        · rw [List.length_map, hperm.length_eq, List.length_map]
          exact Nat.le_trans (List.length_filter_le _ _) hkl
theorem cd_put (B : Bz mg) (D : Dfn K mg "put" sPut ["state", "rest", "rooms"]) : Cd P w K mg base 1 "put" ["state", "rest", "rooms"] (spPut K) := by
  refine cd_of D scPut (fun vs H Q E h => ?_) (fun f cdv A outer s H vs Q E hr h => ?_)
  · obtain ⟨n, a, b, c, st, rest, r, rfl, _⟩ := h
    rfl
  obtain ⟨n, a, b, c, st, rest, r, rfl, ha, hb, hc, ls, lr, hn, q⟩ := h
  refine ⟨_, pss_one (ps_ret (pe_callTy call_tuple_of (by rfl) B.ztuple b_tuple (pa_cons (pe_lc (own := [("room", 3), ("part", 4)]) rfl ndPut (pi_enumT (by rfl) B.zenumerate (pa_cons (pv 0) pa_nil)) (blkOk_by (N := nPut) (sc := defScope sPut) (by decide +kernel))
      (fun s H C cl fp => (pg_tup (n := 2) rfl (pgs_cons (pg_name ndPut (i := 3) rfl (Or.inl rfl)) (pgs_cons (pg_name ndPut (i := 4) rfl (Or.inl rfl)) pgs_nil)) : PG _ _ (gTup K 2 (gCons (gName 3) (gCons (gName 4) gNil))))) (fun s H C cl fp => pts_nil)
      (fun s H C cl fp => pe_ifExp (pt_cmpR (op_in_seq : OpR _ _ (rIn K false)) (pv 3) (pv 2) rfl) (pe_ix (ix_tup : IxR _ (rIxT K)) (pv 1) (pv 3) (fun _ _ => rfl)) (pv 4))) pa_nil))), ?_⟩
  refine ⟨.ref a, rfl, a, _, rfl, ha, ?_⟩
  refine lcE (xs := st.map vi) (fun i => some (vi (if i ∈ r then rest.getD i 0 else st.getD i 0))) ha (by rw [List.length_map]; omega) (fun i x T H2 hx s2 hT N k1 k2 => ?_) (fun D H2 nD s2 hD => ?_)
  · obtain ⟨hi, rfl⟩ := get_vi hx
    refine pair_nm (SqT.of hT) ?_
    refine lcY ?_
    have hc2 : TN K H2 c r ∨ LN K H2 c r := hc.elim (fun z => .inl (sameT s2 z)) fun z => .inr (s2.seq z)
    refine ⟨vi i, rfl, .ref c, rfl, in_op hc2 ⟨_, rfl, ?_⟩⟩
    refine ite2 (fun z => ?_) (fun z => ?_)
    · have z' := of_decide_eq_true z
      refine ⟨.ref b, rfl, vi i, rfl, b, _, _, _, rfl, rfl, sameT s2 hb, at_vi (by omega), k1 _ _ ?_ (Same.refl _)⟩
      rw [if_pos z']
    · have z' := of_decide_eq_false (Bool.eq_false_iff.mpr z)
      refine ⟨_, rfl, k1 _ _ ?_ (Same.refl _)⟩
      rw [if_neg z', getD_of (List.getElem?_eq_getElem hi)]
  · have e : ((List.range (st.map vi).length).filterMap fun i => some (vi (if i ∈ r then rest.getD i 0 else st.getD i 0))) = (putL st rest r).map vi := by
      rw [fm_map, List.length_map]
      unfold putL
      rw [List.map_map]
      rfl
    rw [e] at hD
    refine ⟨D, _, rfl, .inl ⟨SqL.of hD, fun p np => ?_⟩⟩
    exact q p _ (s2.trans (sameN np)) upd_same
end
end Mx
set_option maxHeartbeats 1000000
namespace Mx
open PySem PySem.Spec PyProof.Rows L2
/-- a def whose code object is known -/
def DfnC (K : PySem.W.Frag) (mg : Str → Option Value) (x : Str) (st : Stmt) (ps : List Str) (c : Addr) : Prop :=
  ∃ (f : Addr) (oc : Value) (od : Option Addr) (kV doc pm : Value) (an : Option Addr) (ct : Value) (osl : Array (Option Value)), mg x = some (.ref f) ∧ PySem.W.keepIn K (.ref f) = true ∧
    K.lookup f = some ⟨oc, od, .func (PySem.W.fnOf x x (defArgs st) (defBody st) (defScope st) .none kV doc pm an (.ref c) ct), osl⟩ ∧ PySem.W.codeIn K (.ref c) x = true ∧ Binds K (PySem.W.fnOf x x (defArgs st) (defBody st) (defScope st) .none kV doc pm an (.ref c) ct) ps []
theorem cd_ofC {P : Program} {w : World} {K : PySem.W.Frag} {mg : Str → Option Value} {base : Heap} {x : Str} {st : Stmt} {N ps : List Str} {k : Nat} {sp : Sp} {c : Addr} (D : DfnC K mg x st ps c) (S : FnScope N ps (defScope st)) (len : ∀ vs H Q E, sp vs H Q E → vs.length = ps.length)
    (hbody : ∀ (f : Addr) (A : Around) (outer : List Env) (s : Shared) (H : Hp) (vs : List V) (Q : VK) (E : XK), Room k (A.deeper (envOfC x (defScope st) s.heap.objs.size f (.ref c))) → sp vs H Q E →
      ∃ t, PSs (cxOf CX0 P w K mg base N x (defScope st) f (.ref c) A outer s H E).nox (defBody st) t ∧ t { nx := fun _ H' => Q .non H', rt := Q } (start N vs) H) : Cd P w K mg base (k + 1) x ps sp := by
  obtain ⟨f, oc, od, kV, doc, pm, an, ct, osl, hm, kp, lk, hcd, b⟩ := D
  refine ⟨f, _, hm, kp, b, ?_⟩
  refine fn_of lk hcd S len fun A outer s H vs Q E hr hsp => ?_
  obtain ⟨t, h, q⟩ := hbody f A outer s H vs Q E hr hsp
  exact ⟨t, h.nox, q⟩
/-! ### the memory of waves_from -/
def kyOf (st : List Nat) : List Key := st.map fun (k : Nat) => .inl (k : Int)
theorem kyOf_kV (st : List Nat) : (kyOf st).map kV = st.map vi := by
  unfold kyOf
  rw [List.map_map]
  rfl
theorem kyOf_inj {a b : List Nat} (h : kyOf a = kyOf b) : a = b := vi_inj (by rw [← kyOf_kV, ← kyOf_kV, h])
def tw : Nat → Nat
  | 0 => 0
  | k + 1 => 1 + 2 ^ (k + 1) * tw k
theorem tw_mono (k : Nat) : tw k ≤ tw (k + 1) := by
  have h1 : 1 ≤ 2 ^ (k + 1) := Nat.one_le_two_pow
  have h2 : 1 * tw k ≤ 2 ^ (k + 1) * tw k := Nat.mul_le_mul_right _ h1
  show tw k ≤ 1 + 2 ^ (k + 1) * tw k
  omega
def Mem (K : PySem.W.Frag) (H : Hp) (n : Nat) (rw : List (List Nat)) (rest : List Nat) (kvs : List (List Key × V)) : Prop :=
  ∀ (k : List Key) (v : V), valV kvs k = some v → ∃ (st : List Nat) (W : List (List Nat)) (p : Addr), k = kyOf st ∧ Best rw rest st W ∧ v = .ref p ∧ Wvs K H p W
theorem seqT_upd {K : PySem.W.Frag} {H : Hp} {F a : Addr} {z xs : List V} {o : HO} (hF : H F = some (.lst z)) (h : SqT K H a xs) : SqT K (upd H F o) a xs := by
  rcases h with (h | ⟨ob, h⟩) | h
  · refine .inl (.inl ?_)
    rw [upd_ne (fun e : a = F => by rw [e, hF] at h; cases h)]
    exact h
  · refine .inl (.inr ⟨ob, ?_⟩)
    rw [upd_ne (fun e : a = F => by rw [e, hF] at h; cases h)]
    exact h
  · exact .inr h
theorem seqT_updD {K : PySem.W.Frag} {H : Hp} {F a : Addr} {z : List (List Key × V)} {xs : List V} {o : HO} (hF : H F = some (.dT z)) (h : SqT K H a xs) : SqT K (upd H F o) a xs := by
  rcases h with (h | ⟨ob, h⟩) | h
  · refine .inl (.inl ?_)
    rw [upd_ne (fun e : a = F => by rw [e, hF] at h; cases h)]
    exact h
  · refine .inl (.inr ⟨ob, ?_⟩)
    rw [upd_ne (fun e : a = F => by rw [e, hF] at h; cases h)]
    exact h
  · exact .inr h
theorem wvs_by {K : PySem.W.Frag} {H H' : Hp} {a : Addr} {W : List (List Nat)} (e : ∀ b xs, SqT K H b xs → SqT K H' b xs) (h : Wvs K H a W) : Wvs K H' a W := by
  obtain ⟨as, h1, h2, h3⟩ := h
  exact ⟨as, e _ _ h1, h2, fun i d hi => let ⟨p, a, b⟩ := h3 i d hi; ⟨p, a, e _ _ b⟩⟩
theorem mem_by {K : PySem.W.Frag} {H H' : Hp} {n : Nat} {rw : List (List Nat)} {rest : List Nat} {kvs : List (List Key × V)} (e : ∀ b xs, SqT K H b xs → SqT K H' b xs) (h : Mem K H n rw rest kvs) : Mem K H' n rw rest kvs := fun k v hv => by
  obtain ⟨st, W, p, h1, h2, h3, h4⟩ := h k v hv
  exact ⟨st, W, p, h1, h2, h3, wvs_by e h4⟩
theorem keep_upd {H H' : Hp} {F : Addr} {o : HO} (k : Keep H H') (n : H F = none) : Keep H (upd H' F o) := fun b x e h1 h2 => by
  rw [upd_ne (ne_of_none e n)]
  exact k b x e h1 h2
theorem keep_updD {H H' : Hp} {F : Addr} {o : HO} {z : List (List Key × V)} (k : Keep H H') (n : H F = some (.dT z)) : Keep H (upd H' F o) := fun b x e h1 h2 => by
  rw [upd_ne (fun q : b = F => by rw [q, n] at e; cases e; exact h1 _ rfl)]
  exact k b x e h1 h2
theorem keep_ext {H H' : Hp} (e : LamX.ExtN H H') : Keep H H' := fun b o h _ h2 => e b o h h2
theorem tab_upd {T : List (Addr × Str)} {H : Hp} {F : Addr} {o : HO} (h : LamX.Tabs T H) (hF : (∃ z, H F = some (.lst z)) ∨ (∃ z, H F = some (.dT z)) ∨ H F = none) : LamX.Tabs T (upd H F o) := by
  intro p hp
  obtain ⟨ps, h1, h2, h3⟩ := h p hp
  have ne : ∀ b u, H b = some u → (∀ z, u ≠ .lst z) → (∀ z, u ≠ .dT z) → b ≠ F := fun b u e n1 n2 q => by
    rw [q] at e
    rcases hF with ⟨z, hF⟩ | ⟨z, hF⟩ | hF
    · rw [hF] at e; cases e; exact n1 _ rfl
    · rw [hF] at e; cases e; exact n2 _ rfl
    · rw [hF] at e; cases e
  refine ⟨ps, ?_, h2, fun pos cv hc => ?_⟩
  · rw [upd_ne (ne _ _ h1 (fun z e => by cases e) (fun z e => by cases e))]
    exact h1
  · obtain ⟨c, e1, e2⟩ := h3 pos cv hc
    refine ⟨c, e1, ?_⟩
    rw [upd_ne (ne _ _ e2 (fun z e => by unfold LamX.CodeO at e; cases e) (fun z e => by unfold LamX.CodeO at e; cases e))]
    exact e2
abbrev sWavesFrom : Stmt := topS 50
abbrev nWavesFrom : List Str := ["rows", "state", "rest", "known", "found", "rooms"]
theorem ndWavesFrom : nWavesFrom.Nodup := by decide +kernel
theorem scWavesFrom : FnScope nWavesFrom ["rows", "state", "rest", "known"] (defScope sWavesFrom) := ⟨rfl, rfl, rfl, by decide +kernel, rfl, by decide +kernel, by decide +kernel⟩
def spWaves (K : PySem.W.Frag) (T : List (Addr × Str)) (k : Nat) : Sp := fun vs H Q _ => ∃ (n : Nat) (a b c d : Addr) (rw : List (List Nat)) (st rest : List Nat) (kvs : List (List Key × V)), vs = [.ref a, .ref b, .ref c, .ref d] ∧ Rws K H a rw ∧ Hz n rw ∧ Way n rw rest st ∧ H b = some (.tup (st.map vi)) ∧ TN K H c rest ∧
  H d = some (.dT kvs) ∧ Mem K H n rw rest kvs ∧ (chL st rest).length ≤ k ∧ kvs.length + tw k ≤ 1000000 ∧ LamX.Tabs T H ∧
  ∀ p W H' kvs', Keep H H' → LamX.Tabs T H' → H' d = some (.dT kvs') → Mem K H' n rw rest kvs' → kvs'.length ≤ kvs.length + tw k → Best rw rest st W → Wvs K H' p W → Q (.ref p) H'
abbrev tqW (PT : Addr) : List (Addr × Str) := [(PT, "waves_from.<locals>." ++ "<lambda>")]
theorem mill : 1000000 < sizeLine := by decide
section
variable {P : Program} {w : World} {K : PySem.W.Frag} {mg : Str → Option Value} {base : Heap}
theorem cd_waves_0 {c PT : Addr} (D : DfnC K mg "waves_from" sWavesFrom ["rows", "state", "rest", "known"] c) : Cd P w K mg base 3 "waves_from" ["rows", "state", "rest", "known"] (spWaves K (tqW PT) 0) := by
  refine cd_ofC D scWavesFrom (fun vs H Q E h => ?_) (fun f A outer s H vs Q E hr h => ?_)
  · obtain ⟨n, a, b, c, d, rw, st, rest, kvs, rfl, _⟩ := h
    rfl
  obtain ⟨n, a, b, c, d, rw, st, rest, kvs, rfl, hR, hz, hw, hb, hc, hd, hm, hk, hl, hT, q⟩ := h
  refine ⟨_, pss_cons (ps_if (pt_cmpR (op_eqD hr.units) (pv 1) (pv 2) rfl) (pss_one (ps_ret (pe_tup pa_nil))) pss_nil) pss_never, ?_⟩
  have e : st = rest := ch_nil hw (List.length_eq_zero_iff.mp (Nat.le_zero.mp hk))
  subst e
  refine ⟨.ref b, rfl, .ref c, rfl, eq_tt (SqT.of hb) hc ⟨_, rfl, ?_⟩⟩
  rw [decide_eq_true rfl]
  refine iteT ⟨Nat.zero_le _, fun p np => ?_⟩
  have hd' : (upd H p (.tup [])) d = some (.dT kvs) := by
    rw [upd_ne (ne_of_none hd np)]
    exact hd
  exact q p [] _ kvs (Keep.of (sameN np)) (tab_upd hT (.inr (.inr np))) hd' (mem_by (fun b xs h => sameT (sameN np) h) hm) (Nat.le_refl _) best_nil ⟨[], SqT.of upd_same, rfl, fun i r h => by simp at h⟩
theorem cd_waves_s {c PT : Addr} {k : Nat} (B : Bz mg) (D : DfnC K mg "waves_from" sWavesFrom ["rows", "state", "rest", "known"] c) (TB : LamX.TabB base mg c PT) (C1 : Cd P w K mg base 2 "fit_rooms" ["rows", "state", "rest"] (spFit K)) (C2 : Cd P w K mg base 1 "subsets" ["rooms"] (spSubsets K))
    (C3 : Cd P w K mg base 1 "put" ["state", "rest", "rooms"] (spPut K)) (IH : Cd P w K mg base (3 + k) "waves_from" ["rows", "state", "rest", "known"] (spWaves K (tqW PT) k)) : Cd P w K mg base (3 + (k + 1)) "waves_from" ["rows", "state", "rest", "known"] (spWaves K (tqW PT) (k + 1)) := by
  refine cd_ofC (k := 3 + k) D scWavesFrom (fun vs H Q E h => ?_) (fun f A outer s H vs Q E hr h => ?_)
  · obtain ⟨n, a, b, c, d, rw, st, rest, kvs, rfl, _⟩ := h
    rfl
  obtain ⟨n, a, b, cc, d, rw, st, rest, kvs, rfl, hR, hz, hw, hb, hc, hd, hm, hk, hl, hT, q⟩ := h
  refine ⟨_, pss_cons (ps_if (pt_cmpR (op_eqD hr.units) (pv 1) (pv 2) rfl) (pss_one (ps_ret (pe_tup pa_nil))) pss_nil)
    (pss_cons (ps_if (pt_cmp (pc_dnotin (hu_of hr) (pv 1) (pv 3)))
        (pss_cons (ps_set ndWavesFrom (i := 4) rfl (Or.inl rfl) (pe_lst pa_nil))
          (pss_cons (ps_for PassesOwn.never rfl (pi_list (pe_cd C2 (hr.mono (by omega)) (pa_cons (pe_cd C1 (hr.mono (by omega)) (pa_cons (pv 0) (pa_cons (pv 1) (pa_cons (pv 2) pa_nil)))) pa_nil))) (pg_name ndWavesFrom (i := 5) rfl (Or.inl rfl))
              (pss_one (ps_expr (pe_bm PySem.F.plainAttrs_list PySem.F.slot_list_append PySem.F.type_list_append mt_append (pv 4) (pa_cons (pe_tup (pa_cons (pv 5) (StX.pa_star
                (pe_cd IH hr (pa_cons (pv 0) (pa_cons (pe_cd C3 (hr.mono (by omega)) (pa_cons (pv 1) (pa_cons (pv 2) (pa_cons (pv 5) pa_nil)))) (pa_cons (pv 2) (pa_cons (pv 3) pa_nil))))) pa_nil))) pa_nil)))))
            (pss_one (ps_dput (hu_of hr) (pv 3) (pv 1) (pe_minL (k := k) (T := tqW PT) (hr.mono (by omega)) rfl (by rfl) B.zmin B.zlen (pv 4) TB rfl (by exact List.mem_singleton.mpr rfl) (fun p hp _ => by rw [List.mem_singleton.mp hp]; rfl) (NdefX.nscope_by (by rfl)) (by rfl) (fun _ _ _ _ _ us hus => by
                match us, hus with
                | [_], _ => rfl)) rfl))))
        pss_nil)
      (pss_one (ps_ret (pe_dget (hu_of hr) (pv 3) (pv 1) (fun _ _ => rfl))))), ?_⟩
  refine ⟨.ref b, rfl, .ref cc, rfl, eq_tt (SqT.of hb) hc ⟨_, rfl, ?_⟩⟩
  refine ite2 (fun z => ?_) (fun z => ?_)
  · have e := of_decide_eq_true z
    subst e
    refine ⟨Nat.zero_le _, fun p np => ?_⟩
    have hd' : (upd H p (.tup [])) d = some (.dT kvs) := by
      rw [upd_ne (ne_of_none hd np)]
      exact hd
    exact q p [] _ kvs (Keep.of (sameN np)) (tab_upd hT (.inr (.inr np))) hd' (mem_by (fun b xs h => sameT (sameN np) h) hm) (Nat.le_add_right _ _) best_nil ⟨[], SqT.of upd_same, rfl, fun i r h => by simp at h⟩
  have hne : st ≠ rest := of_decide_eq_false (Bool.eq_false_iff.mpr z)
  have hbk : H b = some (.tup ((kyOf st).map kV)) := by rw [kyOf_kV]; exact hb
  refine ⟨.ref b, rfl, .ref d, rfl, d, _, rfl, DGet.t hd hbk, _, rfl, ?_⟩
  refine ite2 (fun z2 => ?_) (fun z2 => ?_)
  · -- not known
    refine ⟨Nat.zero_le _, fun F nF => ?_⟩
    have sF : Same H (upd H F (.lst [])) := sameN nF
    have hn := hz.n8
    refine ⟨.ref a, rfl, .ref b, rfl, .ref cc, rfl, n, a, b, cc, rw, st, rest, rfl, sameRws sF hR, hz, sameT sF (SqT.of hb), sameT sF hc, hw.ls, hw.lr, fun L H1 nL s1 hL => ?_⟩
    have hfl : (fitL rw st rest).length ≤ (chL st rest).length := by
      have := asc_sub (fit_asc rw st rest) (ch_asc st rest) fun x hx => fit_ch hx
      exact this.length_le
    have hcl : (chL st rest).length ≤ 8 := by
      unfold chL
      refine Nat.le_trans (List.length_filter_le _ _) ?_
      rw [List.length_range, hw.lr]
      exact hn
    refine ⟨L, fitL rw st rest, rfl, SqL.of hL, by omega, fun L2 ks H2 s2 hL2 hTu hks hkl => ?_⟩
    have sm : Same H H2 := sF.trans (s1.trans s2)
    have hkl2 : ks.length ≤ 2 ^ (k + 1) := Nat.le_trans hkl (Nat.pow_le_pow_right (by decide) (by omega))
    have hF2 : H2 F = some (.lst []) := s2 _ _ (s1 _ _ upd_same)
    have hL2F : L2 ≠ F ∨ ks = [] := by
      by_cases e : L2 = F
      · right
        rw [e, hF2] at hL2
        simp at hL2
        exact hL2
      · exact .inl e
    have hmem := fun S => (hks S).trans (mem_subs (fit_asc rw st rest))
    have hne2 : ks ≠ [] := fun e => by
      have hf := fit_ne hw hne
      have h0 := (hmem (fitL rw st rest)).mpr ⟨hf, fit_asc _ _ _, fun x hx => hx⟩
      rw [e] at h0
      simp at h0
    have hL2F' : L2 ≠ F := hL2F.elim id fun e => absurd e hne2
    refine ⟨L2, rfl, ⟨_, SqL.of hL2⟩, ?_⟩
    refine for_list (xs := ks.map rf) (fun i σ H' => (∃ u, σ = [some (.ref a), some (.ref b), some (.ref cc), some (.ref d), some (.ref F), u]) ∧ Keep H H' ∧ H' L2 = some (.lst (ks.map rf)) ∧ Tups H' ks ∧ LamX.Tabs (tqW PT) H' ∧ ∃ (kvs' : List (List Key × V)) (as : List Addr) (Ws : List (List (List Nat))),
      H' d = some (.dT kvs') ∧ Mem K H' n rw rest kvs' ∧ kvs'.length ≤ kvs.length + i * tw k ∧ H' F = some (.lst (as.map V.ref)) ∧ as.length = i ∧ Ws.length = i ∧
      (∀ (j : Nat) (p : Addr) (W : List (List Nat)), as[j]? = some p → Ws[j]? = some W → WvT K H' p W ∧ ∃ r W', (ks.map (·.2))[j]? = some r ∧ W = r :: W' ∧ Best rw rest (putL st rest r) W')) ?_ (fun i σ H' _ h => SqL.of h.2.2.1) (fun i x σ H' hx h => ?_) (fun σ H' h => ?_)
    · refine ⟨⟨_, rfl⟩, Keep.of sm, hL2, hTu, hT.ext sm, kvs, [], [], sm _ _ hd, mem_by (fun b xs h => sameT sm h) hm, by omega, hF2, rfl, rfl, fun j p W hj => by simp at hj⟩
    · obtain ⟨⟨u, rfl⟩, kp, hL2', hTu', hT', kvs', as, Ws, hd', hm', hkl', hF', hal, hWl, hall⟩ := h
      obtain ⟨ki, hki, rfl⟩ := get_map hx
      have hi := (List.getElem?_eq_some_iff.mp hki).1
      have hkm : ki ∈ ks := List.mem_of_getElem? hki
      obtain ⟨r1, r2, r3⟩ := (hmem ki.2).mp (List.mem_map.mpr ⟨ki, hkm, rfl⟩)
      have hkt := hTu' ki hkm
      refine ⟨.ref F, rfl, .inl ⟨rfl, _, SqL.of hF'⟩, rf ki, rfl, .ref a, rfl, .ref b, rfl, .ref cc, rfl, rf ki, rfl, n, b, cc, ki.1, st, rest, ki.2, rfl, kp.seqT (SqT.of hb), kp.seqT hc, .inl (SqT.of hkt), hw.ls, hw.lr, hn, fun p3 H3 s3 h3 => ?_⟩
      have hch : (chL (putL st rest ki.2) rest).length ≤ k := by
        have := nch_put hw r1 fun x hx => fit_ch (r3 x hx)
        omega
      have hroom : kvs'.length + tw k ≤ 1000000 := by
        have e1 : tw (k + 1) = 1 + 2 ^ (k + 1) * tw k := rfl
        have e2 : (i + 1) * tw k ≤ 2 ^ (k + 1) * tw k := Nat.mul_le_mul_right _ (by omega)
        have e3 : (i + 1) * tw k = i * tw k + tw k := Nat.succ_mul _ _
        omega
      have kp3 : Keep H H3 := kp.trans (Keep.of s3)
      refine ⟨.ref cc, rfl, .ref d, rfl, n, a, p3, cc, d, rw, putL st rest ki.2, rest, kvs', rfl, kp3.rws hR, hz, way_put hw ki.2, h3, kp3.seqT hc, s3 _ _ hd', mem_by (fun b xs h => sameT s3 h) hm', hch, hroom, hT'.ext s3, fun p4 W4 H4 kvs4 k4 t4 hd4 hm4 hl4 hbest hw4 => ?_⟩
      obtain ⟨bs4, hp4, hbl4, hbs4⟩ := hw4
      have kq : Keep H' H4 := (Keep.of s3).trans k4
      have hkt4 := kq.tup hkt
      have hF4 := kq.lst hF'
      have hW4 : W4.length ≤ 8 := by
        have h1 := row_lens hbest.1
        have h2 := (row_flat (way_put hw ki.2) hbest.1).length_eq
        have h3 : (chL (putL st rest ki.2) rest).length ≤ 8 := by
          unfold chL
          refine Nat.le_trans (List.length_filter_le _ _) ?_
          rw [List.length_range, hw.lr]
          exact hn
        omega
      refine ⟨p4, _, rfl, .inl hp4, by
        show (rf ki :: (bs4.map V.ref ++ [])).length ≤ sizeLine
        rw [List.length_cons, List.length_append, List.length_map, hbl4]
        exact Nat.le_of_lt (small1000 (by simp; omega)), fun p5 np5 => ?_⟩
      have s5 : Same H4 (upd H4 p5 (.tup (rf ki :: (bs4.map V.ref ++ [])))) := sameN np5
      have hF5 := s5 _ _ hF4
      have hks9 : ks.length ≤ 1000 := by
        have : 2 ^ (fitL rw st rest).length ≤ 2 ^ 8 := Nat.pow_le_pow_right (by decide) (by omega)
        omega
      refine ⟨F, _, .ref p5, rfl, rfl, hF5, by rw [List.length_map, hal]; exact small1000 (by omega), ?_⟩
      have key : ∀ b xs, SqT K H4 b xs → SqT K (upd (upd H4 p5 (.tup (rf ki :: (bs4.map V.ref ++ [])))) F (.lst (as.map V.ref ++ [V.ref p5]))) b xs := fun b xs h => seqT_upd hF5 (sameT s5 h)
      have keyT : ∀ b xs, H4 b = some (.tup xs) → (upd (upd H4 p5 (.tup (rf ki :: (bs4.map V.ref ++ [])))) F (.lst (as.map V.ref ++ [V.ref p5]))) b = some (.tup xs) := fun b xs h => by
        have := s5 _ _ h
        rw [upd_ne (fun e : b = F => by rw [e, hF5] at this; cases this)]
        exact this
      have hp5F : p5 ≠ F := fun e => by rw [e, hF4] at np5; cases np5
      have hdF : d ≠ F := fun e => by rw [e, hF4] at hd4; cases hd4
      refine ⟨⟨_, rfl⟩, ?_, ?_, fun kj hkj => keyT _ _ (kq.tup (hTu' kj hkj)), ?_, kvs4, as ++ [p5], Ws ++ [ki.2 :: W4], ?_, mem_by key hm4, ?_, ?_, by rw [List.length_append, hal]; rfl, by rw [List.length_append, hWl]; rfl, fun j pj Wj hj1 hj2 => ?_⟩
      · exact keep_upd ((kp.trans kq).trans (Keep.of s5)) nF
      · rw [upd_ne hL2F']
        exact s5 _ _ (kq.lst hL2')
      · exact tab_upd (t4.ext s5) (.inl ⟨_, hF5⟩)
      · rw [upd_ne hdF]
        exact s5 _ _ hd4
      · have e3 : (i + 1) * tw k = i * tw k + tw k := Nat.succ_mul _ _
        omega
      · rw [upd_same, List.map_append]
        rfl
      · by_cases hj : j < i
        · rw [List.getElem?_append_left (by omega)] at hj1 hj2
          obtain ⟨⟨bs, g1, g2, g3⟩, g4⟩ := hall j pj Wj hj1 hj2
          exact ⟨⟨bs, keyT _ _ (kq.tup g1), g2, fun m r hm => let ⟨bb, e1, e2⟩ := g3 m r hm; ⟨bb, e1, key _ _ (kq.seqT e2)⟩⟩, g4⟩
        · have hji : j = i := by
            have := (List.getElem?_eq_some_iff.mp hj1).1
            rw [List.length_append] at this
            simp at this
            omega
          subst hji
          rw [List.getElem?_append_right (by omega), hal] at hj1
          rw [List.getElem?_append_right (by omega), hWl] at hj2
          simp at hj1 hj2
          subst hj1 hj2
          refine ⟨⟨ki.1 :: bs4, ?_, by rw [List.length_cons, List.length_cons, hbl4], fun m r hm => ?_⟩, ki.2, W4, map_get hki, rfl, hbest⟩
          · rw [upd_ne hp5F, upd_same, List.append_nil]
            rfl
          · cases m with
            | zero =>
              simp at hm
              subst hm
              exact ⟨ki.1, rfl, key _ _ (SqT.of hkt4)⟩
            | succ m =>
              obtain ⟨bb, e1, e2⟩ := hbs4 m r (by simpa using hm)
              exact ⟨bb, by simpa using e1, key _ _ e2⟩
    · obtain ⟨⟨u, rfl⟩, kp, hL2', hTu', hT', kvs', as, Ws, hd', hm', hkl', hF', hal, hWl, hall⟩ := h
      rw [List.length_map] at hal hWl hkl'
      have hasne : as ≠ [] := fun e => by
        rw [e] at hal
        exact hne2 (List.length_eq_zero_iff.mp hal.symm)
      refine ⟨.ref F, rfl, F, as, Ws, rfl, SqL.of hF', hasne, by omega, fun i p W h1 h2 => (hall i p W h1 h2).1, hT', fun i p W H3 h1 h2 hmin ext t3 => ?_⟩
      have k3 : Keep H' H3 := keep_ext ext
      have hd3 : H3 d = some (.dT kvs') := ext _ _ hd' (fun _ z => by cases z)
      have hb3 : H3 b = some (.tup ((kyOf st).map kV)) := by rw [kyOf_kV]; exact (kp.trans k3).tup hb
      have hlen : kvs'.length < 1000000 := by
        have e1 : tw (k + 1) = 1 + 2 ^ (k + 1) * tw k := rfl
        have e2 : ks.length * tw k ≤ 2 ^ (k + 1) * tw k := Nat.mul_le_mul_right _ hkl2
        omega
      refine ⟨.ref d, rfl, .ref b, rfl, d, _, rfl, DPut.t hd3 hb3 (Nat.lt_trans hlen mill), ?_⟩
      -- the best row
      have hB : Best rw rest st W := by
        refine best_step hne (T := Ws) (fun W0 hW0 => ?_) (fun r e1 e2 e3 => ?_) (List.mem_of_getElem? h2) hmin
        · obtain ⟨j, hj, e⟩ := List.getElem_of_mem hW0
          have hj1 : as[j]? = some (as[j]'(by omega)) := List.getElem?_eq_getElem _
          obtain ⟨_, r, W', g1, g2, g3⟩ := hall j _ W0 hj1 (by rw [List.getElem?_eq_getElem hj, e])
          obtain ⟨q1, q2, q3⟩ := (hmem r).mp (List.mem_of_getElem? g1)
          exact ⟨r, W', g2, q1, q2, q3, g3⟩
        · have hin := (hmem r).mpr ⟨e1, e2, e3⟩
          obtain ⟨j, hj, e⟩ := List.getElem_of_mem hin
          rw [List.length_map] at hj
          have hj1 : as[j]? = some (as[j]'(by omega)) := List.getElem?_eq_getElem _
          have hj2 : Ws[j]? = some (Ws[j]'(by omega)) := List.getElem?_eq_getElem _
          obtain ⟨_, r', W', g1, g2, g3⟩ := hall j _ _ hj1 hj2
          have e4 : (ks.map (·.2))[j]? = some r := by
            rw [List.getElem?_eq_getElem (by rw [List.length_map]; exact hj), e]
          rw [e4] at g1
          cases g1
          exact ⟨W', by rw [← g2]; exact List.getElem_mem _⟩
      obtain ⟨⟨bs, g1, g2, g3⟩, _⟩ := hall i p W h1 h2
      have wv3 : Wvs K H3 p W := ⟨bs, SqT.of (k3.tup g1), g2, fun m r hm => let ⟨bb, e1, e2⟩ := g3 m r hm; ⟨bb, e1, k3.seqT e2⟩⟩
      have key : ∀ b xs, SqT K H3 b xs → SqT K (upd H3 d (.dT (putK kvs' (kyOf st) (.ref p)))) b xs := fun b xs h => seqT_updD hd3 h
      have hmp : Mem K (upd H3 d (.dT (putK kvs' (kyOf st) (.ref p)))) n rw rest (putK kvs' (kyOf st) (.ref p)) := by
        intro kk v hv
        rw [valV_put] at hv
        by_cases e : kk = kyOf st
        · rw [if_pos e] at hv
          cases hv
          exact ⟨st, W, p, e, hB, rfl, wvs_by key wv3⟩
        · rw [if_neg e] at hv
          obtain ⟨st', W', p', a1, a2, a3, a4⟩ := hm' kk v hv
          exact ⟨st', W', p', a1, a2, a3, wvs_by (fun b xs h => key _ _ (k3.seqT h)) a4⟩
      have hb4 : (upd H3 d (.dT (putK kvs' (kyOf st) (.ref p)))) b = some (.tup ((kyOf st).map kV)) := by
        rw [upd_ne (fun e : b = d => by rw [e, hd3] at hb3; cases hb3)]
        exact hb3
      refine ⟨.ref d, rfl, .ref b, rfl, d, .ref p, rfl, ?_, ?_⟩
      · have := DGet.t (k := kyOf st) (a := d) (b := b) (H := upd H3 d (.dT (putK kvs' (kyOf st) (.ref p)))) upd_same hb4
        rw [valV_put, if_pos rfl] at this
        exact this
      · refine q p W _ _ (keep_updD (kp.trans k3) hd) (tab_upd t3 (.inr (.inl ⟨_, hd3⟩))) upd_same hmp ?_ hB (wvs_by key wv3)
        have e0 := length_putK kvs' (kyOf st) (.ref p)
        have e1 : tw (k + 1) = 1 + 2 ^ (k + 1) * tw k := rfl
        have e2 : ks.length * tw k ≤ 2 ^ (k + 1) * tw k := Nat.mul_le_mul_right _ hkl2
        omega
  · -- known
    have hv : (valV kvs (kyOf st)).isSome = true := by
      cases e : (valV kvs (kyOf st)).isSome with
      | true => rfl
      | false => rw [e] at z2; exact absurd rfl z2
    obtain ⟨v, hv⟩ := Option.isSome_iff_exists.mp hv
    obtain ⟨st', W, p, a1, a2, rfl, a4⟩ := hm _ _ hv
    have e := kyOf_inj a1
    subst e
    refine ⟨.ref d, rfl, .ref b, rfl, d, .ref p, rfl, ?_, q p W H kvs (Keep.refl H) hT hd hm (Nat.le_add_right _ _) a2 a4⟩
    have := DGet.t (k := kyOf st) hd hbk
    rw [hv] at this
    exact this
end
end Mx
set_option maxHeartbeats 1000000
namespace Mx
open PySem PySem.Spec PyProof.Rows L2
abbrev sBelowIn : Stmt := topS 38
abbrev sRestsUnder : Stmt := topS 39
abbrev sRestsBelow : Stmt := topS 40
abbrev nBelowIn : List Str := ["rows", "rooms", "state", "level", "must", "found", "some", "left", "more", "room"]
abbrev nRestsUnder : List Str := ["house", "state", "found", "one", "room"]
abbrev nRestsBelow : List Str := ["house", "state"]
theorem ndBelowIn : nBelowIn.Nodup := by decide +kernel
theorem ndRestsUnder : nRestsUnder.Nodup := by decide +kernel
theorem scBelowIn : FnScope nBelowIn ["rows", "rooms", "state", "level"] (defScope sBelowIn) := ⟨rfl, rfl, rfl, by decide +kernel, rfl, by decide +kernel, by decide +kernel⟩
theorem scRestsUnder : FnScope nRestsUnder ["house", "state"] (defScope sRestsUnder) := ⟨rfl, rfl, rfl, by decide +kernel, rfl, by decide +kernel, by decide +kernel⟩
theorem scRestsBelow : FnScope nRestsBelow ["house", "state"] (defScope sRestsBelow) := ⟨rfl, rfl, rfl, by decide +kernel, rfl, by decide +kernel, by decide +kernel⟩
/-- a dict from the rooms rs to the numbers g tells -/
structure Dct (H : Hp) (p : Addr) (rs : List Nat) (g : Nat → Nat) : Prop where
  ex : ∃ kvs : List (Key × V), H p = some (.dK kvs) ∧ kvs.length ≤ rs.length ∧ (∀ x, x ∈ rs → valV kvs (.inl (x : Int)) = some (vi (g x))) ∧ ∀ kv, kv ∈ kvs → ∃ x, x ∈ rs ∧ kv.1 = .inl (x : Int) ∧ kv.2 = vi (g x)
theorem Dct.same {H H' : Hp} {p : Addr} {rs : List Nat} {g : Nat → Nat} (h : Dct H p rs g) (e : ∀ kvs, H p = some (.dK kvs) → H' p = some (.dK kvs)) : Dct H' p rs g := by
  obtain ⟨kvs, h1, h2⟩ := h.ex
  exact ⟨kvs, e _ h1, h2⟩
theorem lcXB {J : It} {n : Nat} {H1 : Hp} {g : TG} {tt : TT} {te : TE} {vs : List Nat} {σ : L2.St} {Q : Addr → Hp → Prop} {β : Type} (val : β → V) (p : Nat → Bool) (R : Addr → Nat → β → Hp → Prop)
    (hR : ∀ D i b H H', R D i b H → ExD D H H' → R D i b H') (Y : Nat → V → Hp → Prop) (hn : n ≤ 1000000)
    (go : ∀ i H, i < n → Same H1 H → J.go i H) (stop : ∀ H, Same H1 H → J.stop n H) (yl : ∀ i H x H', i < n → Same H1 H → J.yld i H x H' → Same H H' ∧ Y i x H')
    (step : ∀ D i x H (N : Option V → Hp → Prop), H1 D = none → (∃ acc, H D = some (.lst acc)) → i < n → Same H1 H → Y i x H → (∀ b H', p i = true → Same H H' → R D i b H' → N (some (val b)) H') → (∀ H', p i = false → Same H H' → N none H') →
      g x (wipe σ vs) H fun σ2 H2 => wipe σ2 vs = wipe σ vs ∧ tt σ2 H2 fun b H3 => if b = true then te σ2 H3 fun y H4 => N (some y) H4 else N none H3)
    (hd : ∀ D H bs, H1 D = none → Same H1 H → H D = some (.lst (bs.map val)) → F2 (fun i b => R D i b H) ((List.range n).filter p) bs → Q D H) : LcGoal J g tt te vs σ H1 Q := by
  intro D nD
  refine ⟨fun i m H => m = n - i ∧ i ≤ n ∧ Same H1 H ∧ ∃ bs : List β, H D = some (.lst (bs.map val)) ∧ F2 (fun i b => R D i b H) ((List.range i).filter p) bs, ⟨n, rfl, Nat.zero_le _, sameN nD, [], upd_same, .nil⟩, ?_⟩
  rintro i m H ⟨rfl, hi, sm, bs, hD, hF⟩
  by_cases hlt : i < n
  · refine .inr ⟨go i H hlt sm, fun H' => Same H1 H' ∧ ∃ bs : List β, H' D = some (.lst (bs.map val)) ∧ F2 (fun i b => R D i b H') ((List.range (i + 1)).filter p) bs, fun H' ⟨a, b⟩ => ⟨n - (i + 1), by omega, rfl, hlt, a, b⟩, fun x H' hy => ?_⟩
    obtain ⟨s1, y1⟩ := yl i H x H' hlt sm hy
    have hD' : H' D = some (.lst (bs.map val)) := s1 _ _ hD
    refine step D i x H' (fun o H4 => match o with
      | some y => ∃ acc, H4 D = some (.lst acc) ∧ acc.length < sizeLine ∧ (Same H1 (upd H4 D (.lst (acc ++ [y]))) ∧ ∃ bs : List β, (upd H4 D (.lst (acc ++ [y]))) D = some (.lst (bs.map val)) ∧ F2 (fun i b => R D i b (upd H4 D (.lst (acc ++ [y])))) ((List.range (i + 1)).filter p) bs)
      | none => Same H1 H4 ∧ ∃ bs : List β, H4 D = some (.lst (bs.map val)) ∧ F2 (fun i b => R D i b H4) ((List.range (i + 1)).filter p) bs) nD ⟨_, hD'⟩ hlt (sm.trans s1) y1 (fun b H4 hp s4 hb => ?_) (fun H4 hp s4 => ?_)
    · have hD4 : H4 D = some (.lst (bs.map val)) := s4 _ _ hD'
      have sm4 : Same H1 H4 := sm.trans (s1.trans s4)
      refine ⟨_, hD4, ?_, ExD.of_new sm4 nD exD_upd, bs ++ [b], by rw [upd_same, List.map_append]; rfl, ?_⟩
      · rw [List.length_map, ← hF.len]
        have := List.length_filter_le p (List.range i)
        rw [List.length_range] at this
        exact Nat.lt_of_le_of_lt (show _ ≤ 1000000 by omega) (by decide)
      · rw [List.range_succ, List.filter_append, List.filter_cons_of_pos hp]
        exact (hF.imp fun a b h => hR _ _ _ _ _ h ((Mx.Same.exD (D := D) (s1.trans s4)).trans exD_upd)).append (.cons (hR _ _ _ _ _ hb exD_upd) .nil)
    · refine ⟨sm.trans (s1.trans s4), bs, s4 _ _ hD', ?_⟩
      rw [List.range_succ, List.filter_append, List.filter_cons_of_neg (by rw [hp]; exact Bool.false_ne_true), List.filter_nil, List.append_nil]
      exact hF.imp fun a b h => hR _ _ _ _ _ h (Mx.Same.exD (s1.trans s4))
  · have e : i = n := by omega
    subst e
    exact .inl ⟨stop H sm, hd D H bs nD sm hD hF⟩
/-- .. over a list -/
theorem lcXLB {K : PySem.W.Frag} {a : Addr} {xs : List V} {H1 : Hp} {g : TG} {tt : TT} {te : TE} {vs : List Nat} {σ : L2.St} {Q : Addr → Hp → Prop} {β : Type} (val : β → V) (p : Nat → Bool) (R : Addr → Nat → β → Hp → Prop)
    (hR : ∀ D i b H H', R D i b H → ExD D H H' → R D i b H') (hx : SqL K H1 a xs) (hn : xs.length ≤ 1000000)
    (step : ∀ D i x H (N : Option V → Hp → Prop), H1 D = none → (∃ acc, H D = some (.lst acc)) → xs[i]? = some x → Same H1 H → (∀ b H', p i = true → Same H H' → R D i b H' → N (some (val b)) H') → (∀ H', p i = false → Same H H' → N none H') →
      g x (wipe σ vs) H fun σ2 H2 => wipe σ2 vs = wipe σ vs ∧ tt σ2 H2 fun b H3 => if b = true then te σ2 H3 fun y H4 => N (some y) H4 else N none H3)
    (hd : ∀ D H bs, H1 D = none → Same H1 H → H D = some (.lst (bs.map val)) → F2 (fun i b => R D i b H) ((List.range xs.length).filter p) bs → Q D H) : LcGoal (Itl K a) g tt te vs σ H1 Q := by
  refine lcXB val p R hR (fun i x _ => xs[i]? = some x) hn (fun i H hi sm => ⟨xs, xs[i], sm.seq hx, List.getElem?_eq_getElem hi⟩) (fun H sm => ⟨xs, sm.seq hx, Nat.le_refl _⟩) (fun i H x H' hi sm hy => ?_) (fun D i x H N nD hD hi sm hy k1 k2 => step D i x H N nD hD hy sm k1 k2) hd
  obtain ⟨rfl, e⟩ := hy
  exact ⟨Same.refl _, e _ (sm.seq hx)⟩

theorem putK_mem {kvs : List (Key × V)} {k : Key} {v : V} {kv : Key × V} (h : kv ∈ putK kvs k v) : kv ∈ kvs ∨ kv = (k, v) := by
  unfold putK at h
  split at h
  · obtain ⟨p, hp, e⟩ := List.mem_map.mp h
    by_cases q : p.1 = k
    · rw [if_pos q] at e
      right
      rw [← e, q]
    · rw [if_neg q] at e
      left
      rw [← e]
      exact hp
  · rcases List.mem_append.mp h with h | h
    · exact .inl h
    · exact .inr (by simpa using h)
theorem merge_mem : ∀ (l kvs : List (Key × V)) {kv : Key × V}, kv ∈ mergeK kvs l → kv ∈ kvs ∨ kv ∈ l
  | [], kvs, kv, h => .inl h
  | (k, v) :: l, kvs, kv, h => by
    rcases merge_mem l (putK kvs k v) h with h | h
    · rcases putK_mem h with h | h
      · exact .inl h
      · exact .inr (by rw [h]; simp)
    · exact .inr (List.mem_cons_of_mem _ h)
theorem valV_mem {kvs : List (Key × V)} {k : Key} {v : V} (h : valV kvs k = some v) : (k, v) ∈ kvs := by
  unfold valV at h
  cases e : kvs.find? (fun kv => decide (kv.1 = k)) with
  | none => rw [e] at h; cases h
  | some p =>
    rw [e] at h
    have h1 := List.mem_of_find?_eq_some e
    have h2 := List.find?_some e
    have h3 : p.1 = k := by simpa using h2
    have h4 : p.2 = v := Option.some.inj h
    rw [← h3, ← h4]
    exact h1
/-- the merged dict -/
theorem dct_merge {rs S left : List Nat} {lv : Nat} {g : Nat → Nat} {l k2 : List (Key × V)} (hl : l = S.map fun (x : Nat) => ((.inl (x : Int) : Key), vi lv)) (hsp : S.length + left.length = rs.length) (hS : ∀ x, x ∈ rs ↔ x ∈ S ∨ x ∈ left) (hd : ∀ x, x ∈ S → x ∉ left)
    (h2 : k2.length ≤ left.length) (h3 : ∀ x, x ∈ left → valV k2 (.inl (x : Int)) = some (vi (g x))) (h4 : ∀ kv, kv ∈ k2 → ∃ x, x ∈ left ∧ kv.1 = .inl (x : Int) ∧ kv.2 = vi (g x)) {H : Hp} {p : Addr} (hp : H p = some (.dK (mergeK (mergeK [] (mergeK [] l)) k2))) :
    Dct H p rs (fun x => if x ∈ S then lv else g x) := by
  have ent1 : ∀ kv, kv ∈ mergeK [] l → ∃ x, x ∈ S ∧ kv.1 = .inl (x : Int) ∧ kv.2 = vi lv := fun kv h => by
    rcases merge_mem l [] h with h | h
    · simp at h
    · rw [hl] at h
      obtain ⟨x, hx, rfl⟩ := List.mem_map.mp h
      exact ⟨x, hx, rfl, rfl⟩
  have val1 : ∀ x, x ∈ S → valV (mergeK [] l) (.inl (x : Int)) = some (vi lv) := fun x hx => by
    refine merge_in l [] _ _ ?_ fun y hy => ?_
    · rw [hl, List.map_map]
      exact List.mem_map.mpr ⟨x, hx, rfl⟩
    · rw [hl] at hy
      obtain ⟨z, _, e⟩ := List.mem_map.mp hy
      cases e
      rfl
  have key2 : ∀ x, x ∉ left → (.inl (x : Int) : Key) ∉ k2.map (·.1) := fun x hx h => by
    obtain ⟨kv, hkv, e⟩ := List.mem_map.mp h
    obtain ⟨y, hy, e1, _⟩ := h4 kv hkv
    rw [e1] at e
    have := Int.ofNat.inj (Sum.inl.inj e)
    exact hx (this ▸ hy)
  refine ⟨_, hp, ?_, fun x hx => ?_, fun kv hkv => ?_⟩
  · have a1 := merge_len k2 (mergeK [] (mergeK [] l))
    have a2 := merge_len (mergeK [] l) []
    have a3 := merge_len l []
    rw [hl, List.length_map] at a3
    rw [hl] at a1 a2 ⊢
    simp at a2 a3
    omega
  · by_cases q : x ∈ S
    · rw [if_pos q, merge_out _ _ _ (key2 x (hd x q))]
      refine merge_in _ _ _ _ ?_ fun y hy => ?_
      · exact List.mem_map.mpr ⟨_, valV_mem (val1 x q), rfl⟩
      · obtain ⟨z, _, e1, e2⟩ := ent1 _ hy
        exact e2
    · rw [if_neg q]
      have hx2 : x ∈ left := ((hS x).mp hx).elim (fun z => absurd z q) id
      refine merge_in _ _ _ _ (List.mem_map.mpr ⟨_, valV_mem (h3 x hx2), rfl⟩) fun y hy => ?_
      obtain ⟨z, _, e1, e2⟩ := h4 _ hy
      have : x = z := Int.ofNat.inj (Sum.inl.inj e1)
      rw [this]
      exact e2
  · rcases merge_mem k2 _ hkv with h | h
    · rcases merge_mem _ [] h with h | h
      · simp at h
      · obtain ⟨x, hx, e1, e2⟩ := ent1 kv h
        exact ⟨x, (hS x).mpr (.inl hx), e1, by rw [if_pos hx]; exact e2⟩
    · obtain ⟨x, hx, e1, e2⟩ := h4 kv h
      exact ⟨x, (hS x).mpr (.inr hx), e1, by rw [if_neg (fun q => hd x q hx)]; exact e2⟩
def tb : Nat → Nat
  | 0 => 1
  | k + 1 => 2 ^ (k + 1) * tb k
theorem tb_pos : ∀ k, 1 ≤ tb k
  | 0 => Nat.le_refl _
  | k + 1 => by
    have h1 : 1 ≤ 2 ^ (k + 1) := Nat.one_le_two_pow
    exact Nat.mul_le_mul h1 (tb_pos k)
theorem tb_mono {j k : Nat} (h : j ≤ k) : tb j ≤ tb k := by
  induction k with
  | zero =>
    have : j = 0 := by omega
    rw [this]
    exact Nat.le_refl _
  | succ k ih =>
    by_cases e : j = k + 1
    · rw [e]; exact Nat.le_refl _
    · have h1 : 1 ≤ 2 ^ (k + 1) := Nat.one_le_two_pow
      have h2 : 1 * tb k ≤ 2 ^ (k + 1) * tb k := Nat.mul_le_mul_right _ h1
      have h3 := ih (by omega)
      show tb j ≤ 2 ^ (k + 1) * tb k
      omega
theorem tb5 {k : Nat} (h : k ≤ 5) : tb k ≤ 100000 := Nat.le_trans (tb_mono h) (by decide)
def spBelowIn (K : PySem.W.Frag) (k : Nat) : Sp := fun vs H Q _ => ∃ (n lv : Nat) (a b c : Addr) (rw : List (List Nat)) (rs st : List Nat), vs = [.ref a, .ref b, .ref c, vi lv] ∧ Rws K H a rw ∧ Hz n rw ∧ TN K H b rs ∧ TN K H c st ∧ st.length = n ∧ rs.length ≤ k ∧ k ≤ 5 ∧ rs.Pairwise (· < ·) ∧ (∀ x, x ∈ rs → x < n) ∧
  (∀ x, x ∈ rs → lv ≤ st.getD x 0) ∧ (∀ x, x ∈ rs → ∀ y, y ∈ rs → y ∈ rw.getD x [] → st.getD x 0 ≠ st.getD y 0) ∧
  ∀ L (ps : List Addr) H', H L = none → Same H H' → H' L = some (.lst (ps.map V.ref)) → ps ≠ [] → ps.length ≤ tb k → (∀ p, p ∈ ps → ∃ g, Dct H' p rs g ∧ Low rw rs st lv g) → Q (.ref L) H'
section
variable {P : Program} {w : World} {K : PySem.W.Frag} {mg : Str → Option Value} {base : Heap}
theorem cd_below_0 (D : Dfn K mg "below_in" sBelowIn ["rows", "rooms", "state", "level"]) : Cd P w K mg base 3 "below_in" ["rows", "rooms", "state", "level"] (spBelowIn K 0) := by
  refine cd_of D scBelowIn (fun vs H Q E h => ?_) (fun f cdv A outer s H vs Q E hr h => ?_)
  · obtain ⟨n, lv, a, b, c, rw, rs, st, rfl, _⟩ := h
    rfl
  obtain ⟨n, lv, a, b, c, rw, rs, st, rfl, hR, hz, hb, hc, ls, hk, hk5, asc, hlt, hlv, hpt, q⟩ := h
  have e : rs = [] := List.length_eq_zero_iff.mp (Nat.le_zero.mp hk)
  subst e
  refine ⟨_, pss_cons (ps_if (pt_cmpR (op_eqD hr.units) (pv 1) (pe_tup pa_nil) rfl) (pss_one (ps_ret (pe_lst (pa_cons pe_dnewK pa_nil)))) pss_nil) pss_never, ?_⟩
  refine ⟨.ref b, rfl, Nat.zero_le _, fun z nz => ?_⟩
  refine eq_tt (l := []) (l' := []) (sameT (sameN nz) hb) (SqT.of upd_same) ⟨_, rfl, ?_⟩
  refine iteT ?_
  intro d nd
  refine ⟨by show 1 ≤ sizeLine; decide, fun L nL => ?_⟩
  refine q L [d] _ ((sameN nz).free ((sameN nd).free nL)) ((sameN nz).trans ((sameN nd).trans (sameN nL))) upd_same (by simp) (Nat.le_refl 1) fun p hp => ⟨fun _ => 0, ⟨[], ?_, Nat.zero_le _, fun x hx => by simp at hx, fun kv h => by simp at h⟩, ⟨fun x hx => by simp at hx, fun x hx => by simp at hx, fun x hx => by simp at hx, fun x hx => by simp at hx⟩⟩
  have e : p = d := by simpa using hp
  rw [e, upd_ne (fun e : d = L => by rw [← e, upd_same] at nL; cases nL), upd_same]
theorem cd_below_s {k : Nat} (B : Bz mg) (D : Dfn K mg "below_in" sBelowIn ["rows", "rooms", "state", "level"]) (C1 : Cd P w K mg base 2 "largest_in" ["rows", "rooms"] (spLargestIn K)) (IH : Cd P w K mg base (3 + k) "below_in" ["rows", "rooms", "state", "level"] (spBelowIn K k)) :
    Cd P w K mg base (3 + (k + 1)) "below_in" ["rows", "rooms", "state", "level"] (spBelowIn K (k + 1)) := by
  refine cd_of (k := 3 + k) D scBelowIn (fun vs H Q E h => ?_) (fun f cdv A outer s H vs Q E hr h => ?_)
  · obtain ⟨n, lv, a, b, c, rw, rs, st, rfl, _⟩ := h
    rfl
  obtain ⟨n, lv, a, b, c, rw, rs, st, rfl, hR, hz, hb, hc, ls, hk, hk5, asc, hlt, hlv, hpt, q⟩ := h
  refine ⟨_, pss_cons (ps_if (pt_cmpR (op_eqD hr.units) (pv 1) (pe_tup pa_nil) rfl) (pss_one (ps_ret (pe_lst (pa_cons pe_dnewK pa_nil)))) pss_nil)
    (pss_cons (ps_setLc (own := [("room", 9)]) (i := 4) rfl ndBelowIn rfl rfl (sw_true rfl rfl rfl rfl) (pi_tup (pv 1)) (blkOk_by (N := nBelowIn) (sc := defScope sBelowIn) (by decide +kernel)) (fun s H C cl fp => pg_name ndBelowIn (i := 9) rfl (Or.inl rfl))
        (fun s H C cl fp => pts_one (pt_cmpR op_eq (pe_ix (ix_tup : IxR _ (rIxT K)) (pv 2) (pv 9) (fun _ _ => rfl)) (pv 3) rfl)) (fun s H C cl fp => pv 9))
      (pss_cons (ps_set ndBelowIn (i := 5) rfl (Or.inl rfl) (pe_lst pa_nil))
        (pss_cons (ps_for PassesOwn.never rfl (pi_list (pe_cd C1 (hr.mono (by omega)) (pa_cons (pv 0) (pa_cons (pv 1) pa_nil)))) (pg_name ndBelowIn (i := 6) rfl (Or.inr rfl))
            (pss_one (ps_if (pw_and (pt_val (pe_callB (cr_all rfl) (by rfl) B.zall b_all (pa_cons (pe_lc (own := [("room", 9)]) rfl ndBelowIn (pi_list (pv 4)) (blkOk_by (N := nBelowIn) (sc := defScope sBelowIn) (by decide +kernel)) (fun s H C cl fp => pg_name ndBelowIn (i := 9) rfl (Or.inl rfl)) (fun s H C cl fp => pts_nil)
                    (fun s H C cl fp => pe_cmpR (op_in_seq : OpR _ _ (rIn K false)) (pv 9) (pv 6) rfl)) pa_nil)))
                  (pw_and1 (pt_val (pe_callB (cr_all rfl) (by rfl) B.zall b_all (pa_cons (pe_lc (own := [("room", 9)]) rfl ndBelowIn (pi_tup (pv 6)) (blkOk_by (N := nBelowIn) (sc := defScope sBelowIn) (by decide +kernel)) (fun s H C cl fp => pg_name ndBelowIn (i := 9) rfl (Or.inl rfl)) (fun s H C cl fp => pts_nil)
                    (fun s H C cl fp => pe_cmpR op_ge (pe_ix (ix_tup : IxR _ (rIxT K)) (pv 2) (pv 9) (fun _ _ => rfl)) (pv 3) rfl)) pa_nil))))).pt
                (pss_cons (ps_set ndBelowIn (i := 7) rfl (Or.inl rfl) (pe_callTy call_tuple_of (by rfl) B.ztuple b_tuple (pa_cons (pe_lc (own := [("room", 9)]) rfl ndBelowIn (pi_tup (pv 1)) (blkOk_by (N := nBelowIn) (sc := defScope sBelowIn) (by decide +kernel)) (fun s H C cl fp => pg_name ndBelowIn (i := 9) rfl (Or.inl rfl))
                    (fun s H C cl fp => pts_one (pt_cmpR (op_notIn_seq : OpR _ _ (rIn K true)) (pv 9) (pv 6) rfl)) (fun s H C cl fp => pv 9)) pa_nil)))
                  (pss_one (ps_for PassesOwn.never rfl (pi_list (pe_cd IH hr (pa_cons (pv 0) (pa_cons (pv 7) (pa_cons (pv 2) (pa_cons (pe_op op_add (pv 3) pe_int) pa_nil)))))) (pg_name ndBelowIn (i := 8) rfl (Or.inl rfl))
                    (pss_one (ps_expr (pe_bm PySem.F.plainAttrs_list PySem.F.slot_list_append PySem.F.type_list_append mt_append (pv 5) (pa_cons
                      (pe_merge (pe_dc (own := [("room", 9)]) rfl ndBelowIn (pi_tup (pv 6)) (blkOk_by (N := nBelowIn) (sc := defScope sBelowIn) (by decide +kernel)) (fun s H C cl fp => pg_name ndBelowIn (i := 9) rfl (Or.inl rfl)) (fun s H C cl fp => pts_nil) (fun s H C cl fp => pv 9) (fun s H C cl fp => pv 3)) (pv 8)) pa_nil)))))))
                pss_nil)))
          (pss_one (ps_ret (pv 5)))))), ?_⟩
  have hn := hz.n8
  have hk5' : k + 1 ≤ 5 := hk5
  refine ⟨.ref b, rfl, Nat.zero_le _, fun z nz => ?_⟩
  have sz : Same H (upd H z (.tup [])) := sameN nz
  refine eq_tt (l := rs) (l' := []) (sameT sz hb) (SqT.of upd_same) ⟨_, rfl, ?_⟩
  refine ite2 (fun c0 => ?_) (fun c0 => ?_)
  · have e : rs = [] := of_decide_eq_true c0
    subst e
    intro d nd
    refine ⟨by show 1 ≤ sizeLine; decide, fun L nL => ?_⟩
    refine q L [d] _ ((sameN nz).free ((sameN nd).free nL)) ((sameN nz).trans ((sameN nd).trans (sameN nL))) upd_same (by simp) (tb_pos _) fun p hp => ⟨fun _ => 0, ⟨[], ?_, Nat.zero_le _, fun x hx => by simp at hx, fun kv h => by simp at h⟩, ⟨fun x hx => by simp at hx, fun x hx => by simp at hx, fun x hx => by simp at hx, fun x hx => by simp at hx⟩⟩
    have e : p = d := by simpa using hp
    rw [e, upd_ne (fun e : d = L => by rw [← e, upd_same] at nL; cases nL), upd_same]
  have hne : rs ≠ [] := of_decide_eq_false (Bool.eq_false_iff.mpr c0)
  refine ⟨.ref b, rfl, b, rfl, ⟨_, sameT sz hb⟩, ?_⟩
  refine lcT (xs := rs.map vi) (fun i => if decide (st.getD (rs.getD i 0) 0 = lv) = true then some (vi (rs.getD i 0)) else none) (sameT sz hb) (by rw [List.length_map]; omega) (fun i x H2 hx s2 N k1 k2 => ?_) (fun M H1 nM s1 hM => ?_)
  · obtain ⟨hi, rfl⟩ := get_vi hx
    rw [getD_of (List.getElem?_eq_getElem hi)] at k1 k2
    refine ⟨rfl, ?_⟩
    refine ⟨.ref c, rfl, _, rfl, c, _, _, _, rfl, rfl, sameT (sz.trans s2) hc, at_vi (by have := hlt _ (List.getElem_mem hi); omega), vi lv, rfl, rfl, _, rfl, ?_⟩
    rw [dec_vi_eq]
    exact ite2 (fun z => ⟨_, rfl, k1 _ _ (if_pos z) (Same.refl _)⟩) (fun z => k2 _ (if_neg z) (Same.refl _))
  generalize hmust : rs.filter (fun x => decide (st.getD x 0 = lv)) = must
  have eM : ((List.range (rs.map vi).length).filterMap fun i => if decide (st.getD (rs.getD i 0) 0 = lv) = true then some (vi (rs.getD i 0)) else none) = must.map vi := by
    rw [List.length_map, fm_filter (fun i => decide (st.getD (rs.getD i 0) 0 = lv)) (fun i => vi (rs.getD i 0)), ← hmust]
    exact range_fm 0 (fun x => decide (st.getD x 0 = lv)) vi rs
  rw [eM] at hM
  have mmem : ∀ x, x ∈ must ↔ x ∈ rs ∧ st.getD x 0 = lv := fun x => by rw [← hmust, List.mem_filter]; simp
  have sm1 : Same H H1 := sz.trans s1
  refine ⟨Nat.zero_le _, fun F nF => ?_⟩
  have smF : Same H (upd H1 F (.lst [])) := sm1.trans (sameN nF)
  have nF0 : H F = none := sm1.free nF
  have hMF : M ≠ F := fun e => by rw [← e, hM] at nF; cases nF
  refine ⟨.ref a, rfl, .ref b, rfl, n, a, b, rw, rs, rfl, sameRws smF hR, hz, sameT smF hb, hne, by omega, hlt, fun L2 ks H2 s2 hL2 hTu hks hkl => ?_⟩
  have sm2 : Same H H2 := smF.trans s2
  have hF2 : H2 F = some (.lst []) := s2 _ _ upd_same
  have hM2 : H2 M = some (.lst (must.map vi)) := s2 _ _ (by rw [upd_ne hMF]; exact hM)
  have hind : Indep rw must := fun x hx y hy hxy => by
    obtain ⟨x1, x2⟩ := (mmem x).mp hx
    obtain ⟨y1, y2⟩ := (mmem y).mp hy
    exact hpt x x1 y y1 hxy (x2.trans y2.symm)
  obtain ⟨S0, hS0, hS0m⟩ := largest_with hz.gr hind fun x hx => ((mmem x).mp hx).1
  have hS0k := (hks S0).mpr hS0
  have hkne : ks ≠ [] := fun e => by rw [e] at hS0k; simp at hS0k
  have hL2F : L2 ≠ F := fun e => by
    rw [e, hF2] at hL2
    simp at hL2
    exact hkne hL2
  have hklk : ks.length ≤ 2 ^ (k + 1) := Nat.le_trans hkl (Nat.pow_le_pow_right (by decide) hk)
  have htb := tb5 hk5'
  have etb : tb (k + 1) = 2 ^ (k + 1) * tb k := rfl
  refine ⟨L2, rfl, ⟨_, SqL.of hL2⟩, ?_⟩
  refine for_list (xs := ks.map rf) (fun i σ H' => (∃ u v w r, σ = [some (.ref a), some (.ref b), some (.ref c), some (vi lv), some (.ref M), some (.ref F), u, v, w, r]) ∧ Same H H' ∧ H' L2 = some (.lst (ks.map rf)) ∧ Tups H' ks ∧ H' M = some (.lst (must.map vi)) ∧ ∃ ps : List Addr, H' F = some (.lst (ps.map V.ref)) ∧ ps.length ≤ i * tb k ∧
      (∀ p, p ∈ ps → ∃ g, Dct H' p rs g ∧ Low rw rs st lv g) ∧ ((∃ (j : Nat) (S : List Nat), j < i ∧ (ks.map (·.2))[j]? = some S ∧ ∀ x, x ∈ must → x ∈ S) → ps ≠ [])) ?_ (fun i σ H' _ h => SqL.of h.2.2.1) (fun i x σ H' hx h => ?_) (fun σ H' h => ?_)
  · exact ⟨⟨_, _, _, _, rfl⟩, sm2, hL2, hTu, hM2, [], hF2, Nat.zero_le _, fun p hp => by simp at hp, fun ⟨j, S, hj, _⟩ => absurd hj (Nat.not_lt_zero _)⟩
  · obtain ⟨⟨u, v, w', r, rfl⟩, sm, hL2', hTu', hM', ps, hF', hpl, hps, hpn⟩ := h
    obtain ⟨ki, hki, rfl⟩ := get_map hx
    have hi := (List.getElem?_eq_some_iff.mp hki).1
    have hkm : ki ∈ ks := List.mem_of_getElem? hki
    have hSl : ki.2 ∈ largest rw rs := (hks ki.2).mp (List.mem_map.mpr ⟨ki, hkm, rfl⟩)
    obtain ⟨sb, ind, cov⟩ := largest_facts hz.gr hSl
    have hkt := hTu' ki hkm
    have hSlen : ki.2.length ≤ 5 := Nat.le_trans sb.length_le (by omega)
    have esk : (ks.map (·.2))[i]? = some ki.2 := map_get hki
    refine ⟨.ref M, rfl, M, rfl, ⟨_, SqL.of hM'⟩, ?_⟩
    refine lcL (xs := must.map vi) (fun j => some (.bl (decide (must.getD j 0 ∈ ki.2)))) (SqL.of hM') (by rw [List.length_map, ← hmust]; have := List.length_filter_le (fun x => decide (st.getD x 0 = lv)) rs; omega) (fun j x H3 hx3 s3 N k1 k2 => ?_) (fun D3 H3 nD3 s3 hD3 => ?_)
    · obtain ⟨hj, rfl⟩ := get_vi hx3
      refine lcY ?_
      refine ⟨_, rfl, rf ki, rfl, in_op (.inl (SqT.of (s3 _ _ hkt))) (k1 _ _ ?_ (Same.refl _))⟩
      rw [getD_of (List.getElem?_eq_getElem hj)]
    have e3 : ((List.range (must.map vi).length).filterMap fun j => some (V.bl (decide (must.getD j 0 ∈ ki.2)))) = (must.map fun x => decide (x ∈ ki.2)).map V.bl := by
      rw [fm_map, List.length_map, List.map_map]
      have := range_fm 0 (fun _ => true) (fun x => V.bl (decide (x ∈ ki.2))) must
      rw [filt_true, filt_true] at this
      exact this
    rw [e3] at hD3
    have hF3 := s3 _ _ hF'
    refine ⟨D3, _, rfl, SqL.of hD3, _, rfl, ?_⟩
    have skip : ∀ {H4 : Hp} {v0 w0 r0 : Option V}, Same H' H4 → ¬ (∀ x, x ∈ must → x ∈ ki.2) → (∃ u v w r, [some (V.ref a), some (.ref b), some (.ref c), some (vi lv), some (.ref M), some (.ref F), some (rf ki), v0, w0, r0] = [some (V.ref a), some (.ref b), some (.ref c), some (vi lv), some (.ref M), some (.ref F), u, v, w, r]) ∧ Same H H4 ∧ H4 L2 = some (.lst (ks.map rf)) ∧ Tups H4 ks ∧ H4 M = some (.lst (must.map vi)) ∧ ∃ ps : List Addr, H4 F = some (.lst (ps.map V.ref)) ∧ ps.length ≤ (i + 1) * tb k ∧
      (∀ p, p ∈ ps → ∃ g, Dct H4 p rs g ∧ Low rw rs st lv g) ∧ ((∃ (j : Nat) (S : List Nat), j < i + 1 ∧ (ks.map (·.2))[j]? = some S ∧ ∀ x, x ∈ must → x ∈ S) → ps ≠ []) := fun {H4 v0 w0 r0} s4 hno => by
      refine ⟨⟨_, _, _, _, rfl⟩, sm.trans s4, s4 _ _ hL2', fun kj hkj => s4 _ _ (hTu' kj hkj), s4 _ _ hM', ps, s4 _ _ hF', ?_, fun p hp => ?_, fun ⟨j, S, hj, hjS, hall⟩ => ?_⟩
      · have : (i + 1) * tb k = i * tb k + tb k := Nat.succ_mul _ _
        omega
      · obtain ⟨g, g1, g2⟩ := hps p hp
        exact ⟨g, g1.same fun kvs h => s4 _ _ h, g2⟩
      · by_cases e : j = i
        · rw [e, esk] at hjS
          cases hjS
          exact absurd hall hno
        · exact hpn ⟨j, S, by omega, hjS, hall⟩
    refine ite2 (fun c1 => ?_) (fun c1 => ?_)
    · have hmS : ∀ x, x ∈ must → x ∈ ki.2 := by
        rw [List.all_map, List.all_eq_true] at c1
        exact fun x hx => of_decide_eq_true (c1 x hx)
      have hkt3 := s3 _ _ hkt
      refine ⟨rf ki, rfl, ki.1, rfl, ⟨_, SqT.of hkt3⟩, ?_⟩
      refine lcT (xs := ki.2.map vi) (fun _ => some (.bl true)) (SqT.of hkt3) (by rw [List.length_map]; omega) (fun j x H4 hx4 s4 N k1 k2 => ?_) (fun D4 H4 nD4 s4 hD4 => ?_)
      · obtain ⟨hj, rfl⟩ := get_vi hx4
        have hjr := sb.subset (List.getElem_mem hj)
        refine lcY ?_
        refine ⟨.ref c, rfl, _, rfl, c, _, _, _, rfl, rfl, sameT (sm.trans (s3.trans s4)) hc, at_vi (by have := hlt _ hjr; omega), vi lv, rfl, _, _, rfl, rfl, ?_⟩
        have e : decide ((lv : Int) ≤ ((st.getD ki.2[j] 0 : Nat) : Int)) = true := decide_eq_true (by have := hlv _ hjr; omega)
        exact k1 _ _ (congrArg (fun z => some (V.bl z)) e.symm) (Same.refl _)
      refine ⟨D4, (List.range (ki.2.map vi).length).map fun _ => true, rfl, ?_, _, rfl, ?_⟩
      · rw [List.map_map]
        have e : (List.range (ki.2.map vi).length).filterMap (fun _ => some (V.bl true)) = (List.range (ki.2.map vi).length).map (V.bl ∘ fun _ => true) := fm_map _ _
        rw [← e]
        exact SqL.of hD4
      rw [all_true]
      refine iteT ?_
      -- the rooms left
      have s34 := s3.trans s4
      have sm4 := sm.trans s34
      refine ⟨.ref b, rfl, b, rfl, ⟨_, sameT sm4 hb⟩, ?_⟩
      refine lcT (xs := rs.map vi) (fun m => if (!decide (rs.getD m 0 ∈ ki.2)) = true then some (vi (rs.getD m 0)) else none) (sameT sm4 hb) (by rw [List.length_map]; omega) (fun j x H5 hx5 s5 N k1 k2 => ?_) (fun D5 H5 nD5 s5 hD5 => ?_)
      · obtain ⟨hj, rfl⟩ := get_vi hx5
        rw [getD_of (List.getElem?_eq_getElem hj)] at k1 k2
        refine ⟨rfl, ?_⟩
        refine ⟨_, rfl, rf ki, rfl, notin_op (.inl (SqT.of (s5 _ _ (s4 _ _ hkt3)))) ⟨_, rfl, ?_⟩⟩
        exact ite2 (fun z => ⟨_, rfl, k1 _ _ (if_pos z) (Same.refl _)⟩) (fun z => k2 _ (if_neg z) (Same.refl _))
      generalize hleft : rs.filter (fun x => !decide (x ∈ ki.2)) = left
      have e5 : ((List.range (rs.map vi).length).filterMap fun m => if (!decide (rs.getD m 0 ∈ ki.2)) = true then some (vi (rs.getD m 0)) else none) = left.map vi := by
        rw [List.length_map, fm_filter (fun m => !decide (rs.getD m 0 ∈ ki.2)) (fun m => vi (rs.getD m 0)), ← hleft]
        exact range_fm 0 (fun x => !decide (x ∈ ki.2)) vi rs
      rw [e5] at hD5
      have lmem : ∀ x, x ∈ left ↔ x ∈ rs ∧ x ∉ ki.2 := fun x => by rw [← hleft, List.mem_filter]; simp
      have lsub : left.Sublist rs := by rw [← hleft]; exact List.filter_sublist
      have hSne : ki.2 ≠ [] := fun e => by
        cases rs with
        | nil => exact hne rfl
        | cons y rs =>
          rcases cov y (by simp) with h | ⟨_, _, h⟩ <;> rw [e] at h <;> simp at h
      have hSf : ki.2 = rs.filter fun x => decide (x ∈ ki.2) := asc_eq (asc.sublist sb) (asc_filter _ asc) fun x => by
        rw [List.mem_filter]
        simp
        exact fun h => sb.subset h
      have hsum : ki.2.length + left.length = rs.length := by
        have p := (List.filter_append_perm (fun x => decide (x ∈ ki.2)) rs).length_eq
        rw [← hSf, hleft, List.length_append] at p
        exact p
      have hSpos : 0 < ki.2.length := List.length_pos_iff.mpr hSne
      refine ⟨D5, _, rfl, .inl ⟨SqL.of hD5, fun pl npl => ?_⟩⟩
      have s5' : Same H' (upd H5 pl (.tup (left.map vi))) := s34.trans (s5.trans (sameN npl))
      have sm5 := sm.trans s5'
      refine ⟨.ref a, rfl, .ref pl, rfl, .ref c, rfl, vi lv, rfl, _, 1, rfl, rfl, ?_⟩
      refine ⟨n, lv + 1, a, pl, c, rw, left, st, rfl, sameRws sm5 hR, hz, SqT.of upd_same, sameT sm5 hc, ls, by omega, by omega, asc.sublist lsub, fun x hx => hlt x (lsub.subset hx), fun x hx => ?_, fun x hx y hy => hpt x (lsub.subset hx) y (lsub.subset hy), fun L3 ps3 H6 nL3 s6 hL3 hp3n hp3l hp3 => ?_⟩
      · obtain ⟨x1, x2⟩ := (lmem x).mp hx
        have := hlv x x1
        by_cases e : st.getD x 0 = lv
        · exact absurd (hmS x ((mmem x).mpr ⟨x1, e⟩)) x2
        · omega
      have s6' : Same H' H6 := s5'.trans s6
      have hF6 := s6' _ _ hF'
      have hL3F : L3 ≠ F := fun e => by rw [e, s5' _ _ hF'] at nL3; cases nL3
      refine ⟨L3, rfl, ⟨_, SqL.of hL3⟩, ?_⟩
      refine for_list (xs := ps3.map V.ref) (fun j σ H'' => (∃ w r, σ = [some (.ref a), some (.ref b), some (.ref c), some (vi lv), some (.ref M), some (.ref F), some (rf ki), some (.ref pl), w, r]) ∧ Same H H'' ∧ H'' L2 = some (.lst (ks.map rf)) ∧ Tups H'' ks ∧ H'' M = some (.lst (must.map vi)) ∧ H'' L3 = some (.lst (ps3.map V.ref)) ∧ (∀ p, p ∈ ps3 → ∃ g, Dct H'' p left g ∧ Low rw left st (lv + 1) g) ∧
        ∃ ex : List Addr, H'' F = some (.lst ((ps ++ ex).map V.ref)) ∧ ex.length = j ∧ ∀ p, p ∈ ps ++ ex → ∃ g, Dct H'' p rs g ∧ Low rw rs st lv g) ?_ (fun j σ H'' _ h => SqL.of h.2.2.2.2.2.1) (fun j x σ H'' hx6 h => ?_) (fun σ H'' h => ?_)
      · refine ⟨⟨_, _, rfl⟩, sm.trans s6', s6' _ _ hL2', fun kj hkj => s6' _ _ (hTu' kj hkj), s6' _ _ hM', hL3, hp3, [], by rw [List.append_nil]; exact hF6, rfl, fun p hp => ?_⟩
        rw [List.append_nil] at hp
        obtain ⟨g, g1, g2⟩ := hps p hp
        exact ⟨g, g1.same fun kvs h => s6' _ _ h, g2⟩
      · obtain ⟨⟨w2, r2, rfl⟩, smq, hL2q, hTq, hMq, hL3q, hp3q, ex, hFq, hexl, hexg⟩ := h
        obtain ⟨pm, hpm, rfl⟩ := get_map hx6
        obtain ⟨g, ⟨k2, hk2, hk2l, hk2v, hk2e⟩, hlow⟩ := hp3q pm (List.mem_of_getElem? hpm)
        have hktq := hTq ki hkm
        have hjl := (List.getElem?_eq_some_iff.mp hpm).1
        refine ⟨.ref F, rfl, .inl ⟨rfl, _, SqL.of hFq⟩, ?_⟩
        intro p np
        have hpF : p ≠ F := fun e => by rw [e, hFq] at np; cases np
        have hpm' : pm ≠ p := fun e => by rw [← e, hk2] at np; cases np
        have sp : Same H'' (upd H'' p (.dK [])) := sameN np
        refine ⟨rf ki, rfl, ki.1, rfl, ⟨_, SqT.of (sp _ _ hktq)⟩, ?_⟩
        refine dcT (xs := ki.2.map vi) (fun m => ((.inl ((ki.2.getD m 0 : Nat) : Int) : Key), vi lv)) (SqT.of (sp _ _ hktq)) (by rw [List.length_map]; omega) (fun _ => rfl) (fun m y H7 N hy s7 kk => ?_) (fun D7 H7 nD7 s7 hD7 => ?_)
        · obtain ⟨hm, rfl⟩ := get_vi hy
          refine ⟨_, rfl, vi lv, rfl, ?_⟩
          have := kk _ (Same.refl _)
          rw [getD_of (List.getElem?_eq_getElem hm)] at this
          exact this
        have el : ((List.range (ki.2.map vi).length).map fun m => ((.inl ((ki.2.getD m 0 : Nat) : Int) : Key), vi lv)) = ki.2.map fun (x : Nat) => ((.inl (x : Int) : Key), vi lv) := by
          rw [List.length_map]
          have := range_fm 0 (fun _ => true) (fun (x : Nat) => ((.inl (x : Int) : Key), vi lv)) ki.2
          rw [filt_true, filt_true] at this
          exact this
        rw [el] at hD7
        have hp7 : H7 p = some (.dK []) := s7 _ _ upd_same
        have hD7p : D7 ≠ p := fun e => by rw [e, upd_same] at nD7; cases nD7
        have l1 := merge_len (ki.2.map fun (x : Nat) => ((.inl (x : Int) : Key), vi lv)) []
        rw [List.length_map] at l1
        have hpm7 : H7 pm = some (.dK k2) := s7 _ _ (sp _ _ hk2)
        refine ⟨D7, _, rfl, hD7p, hD7, hp7, by simp at l1; omega, ?_⟩
        refine ⟨.ref pm, rfl, pm, k2, rfl, hpm', by rw [upd_ne hpm']; exact hpm7, upd_same, by omega, ?_⟩
        have s8 : Same H'' (upd (upd H7 p (.dK (mergeK [] (mergeK [] (ki.2.map fun (x : Nat) => ((.inl (x : Int) : Key), vi lv)))))) p (.dK (mergeK (mergeK [] (mergeK [] (ki.2.map fun (x : Nat) => ((.inl (x : Int) : Key), vi lv)))) k2))) := fun bb o e => by
          have hb' : bb ≠ p := ne_of_none e np
          rw [upd_ne hb', upd_ne hb']
          exact s7 _ _ (sp _ _ e)
        have hF8 := s8 _ _ hFq
        have hlen8 : (ps ++ ex).length ≤ 100000 := by
          have e2 : (i + 1) * tb k ≤ 2 ^ (k + 1) * tb k := Nat.mul_le_mul_right _ (by omega)
          have e3 : (i + 1) * tb k = i * tb k + tb k := Nat.succ_mul _ _
          rw [List.length_append]
          omega
        refine ⟨F, _, .ref p, rfl, rfl, hF8, by rw [List.length_map]; exact Nat.lt_of_le_of_lt hlen8 (by decide), ?_⟩
        have kF : ∀ bb o, H'' bb = some o → bb ≠ F → (upd (upd (upd H7 p (.dK (mergeK [] (mergeK [] (ki.2.map fun (x : Nat) => ((.inl (x : Int) : Key), vi lv)))))) p (.dK (mergeK (mergeK [] (mergeK [] (ki.2.map fun (x : Nat) => ((.inl (x : Int) : Key), vi lv)))) k2))) F (.lst ((ps ++ ex).map V.ref ++ [V.ref p]))) bb = some o := fun bb o e hb' => by
          rw [upd_ne hb']
          exact s8 _ _ e
        have dF : ∀ bb kvs, H'' bb = some (.dK kvs) → bb ≠ F := fun bb kvs e hb' => by rw [hb', hFq] at e; cases e
        refine ⟨⟨_, _, rfl⟩, ExD.of_new (smq.trans s8) nF0 exD_upd, kF _ _ hL2q hL2F, fun kj hkj => kF _ _ (hTq kj hkj) (fun e => by have := hTq kj hkj; rw [e, hFq] at this; cases this), kF _ _ hMq hMF, kF _ _ hL3q hL3F, fun p' hp' => ?_, ex ++ [p], by rw [upd_same, ← List.append_assoc, List.map_append (l₁ := ps ++ ex)]; rfl, by rw [List.length_append, hexl]; rfl, fun p' hp' => ?_⟩
        · obtain ⟨g', g1, g2⟩ := hp3q p' hp'
          exact ⟨g', g1.same fun kvs h => kF _ _ h (dF _ _ h), g2⟩
        · rw [← List.append_assoc] at hp'
          rcases List.mem_append.mp hp' with hp' | hp'
          · obtain ⟨g', g1, g2⟩ := hexg p' hp'
            exact ⟨g', g1.same fun kvs h => kF _ _ h (dF _ _ h), g2⟩
          · have e : p' = p := by simpa using hp'
            subst e
            refine ⟨fun x => if x ∈ ki.2 then lv else g x, ?_, ?_⟩
            · refine dct_merge (l := ki.2.map fun (x : Nat) => ((.inl (x : Int) : Key), vi lv)) rfl hsum (fun x => ⟨fun hx => ?_, fun hx => ?_⟩) (fun x hx hx2 => ((lmem x).mp hx2).2 hx) hk2l hk2v hk2e (by rw [upd_ne hpF, upd_same])
              · by_cases e : x ∈ ki.2
                · exact .inl e
                · exact .inr ((lmem x).mpr ⟨hx, e⟩)
              · exact hx.elim (fun z => sb.subset z) fun z => ((lmem x).mp z).1
            · exact low_step hz.gr hSl hlv lmem hlow (fun x hx => if_pos hx) fun x hx => if_neg ((lmem x).mp hx).2
      · obtain ⟨⟨w2, r2, rfl⟩, smq, hL2q, hTq, hMq, hL3q, hp3q, ex, hFq, hexl, hexg⟩ := h
        rw [List.length_map] at hexl
        refine ⟨⟨_, _, _, _, rfl⟩, smq, hL2q, hTq, hMq, ps ++ ex, hFq, ?_, hexg, fun _ e => ?_⟩
        · have e3 : (i + 1) * tb k = i * tb k + tb k := Nat.succ_mul _ _
          rw [List.length_append]
          omega
        · have : ex = [] := (List.append_eq_nil_iff.mp e).2
          rw [this] at hexl
          exact hp3n (List.length_eq_zero_iff.mp hexl.symm)
    · refine iteF ?_
      refine skip s3 fun hall => c1 ?_
      rw [List.all_map, List.all_eq_true]
      exact fun x hx => decide_eq_true (hall x hx)
  · obtain ⟨⟨u, v, w', r, rfl⟩, sm, hL2', hTu', hM', ps, hF', hpl, hps, hpn⟩ := h
    rw [List.length_map] at hpl
    obtain ⟨j, hj, e⟩ := List.getElem_of_mem hS0k
    refine ⟨.ref F, rfl, q F ps H' nF0 sm hF' (hpn ⟨j, S0, by rw [List.length_map] at hj ⊢; exact hj, by rw [List.getElem?_eq_getElem hj, e], hS0m⟩) ?_ hps⟩
    have e2 : ks.length * tb k ≤ 2 ^ (k + 1) * tb k := Nat.mul_le_mul_right _ hklk
    omega
end
end Mx
set_option maxHeartbeats 600000
namespace Mx
open PySem PySem.Spec PyProof.Rows L2
theorem rg_vi (n : Nat) : rgV 0 (n : Int) = (List.range n).map vi := by
  unfold rgV
  rw [show ((n : Int) - 0).toNat = n by omega]
  refine List.map_congr_left fun i _ => ?_
  show V.int (0 + (i : Int)) = V.int (i : Int)
  rw [Int.zero_add]
theorem parted_near {n : Nat} {ds : List (Nat × Nat)} {st : List Nat} (hok : HsOk n ds) (h : Parted ds st) {x y : Nat} (hy : y ∈ (nearM n ds).getD x []) : st.getD x 0 ≠ st.getD y 0 := by
  obtain ⟨hx, q⟩ := mem_near.mp hy
  obtain ⟨d, hd, e⟩ := mem_nb.mp q
  rw [nbr_iff (hok.lt d hd).1] at e
  have := h d hd
  rcases e with ⟨e1, e2⟩ | ⟨e1, e2⟩
  · rw [← e1, ← e2]
    exact this
  · rw [← e1, ← e2]
    exact fun z => this z.symm
def spRestsBelow (K : PySem.W.Frag) : Sp := fun vs H Q _ => ∃ (n : Nat) (a b : Addr) (ds : List (Nat × Nat)) (st : List Nat), vs = [.ref a, .ref b] ∧ HS K H a b n ds st ∧ Parted ds st ∧ n ≤ 5 ∧
  ∀ L ks H', Same H H' → H' L = some (.lst (ks.map rf)) → ks ≠ [] → ks.length ≤ 1000000 → (∀ k, k ∈ ks → H' k.1 = some (.tup (k.2.map vi)) ∧ Way n (nearM n ds) k.2 st) → Q (.ref L) H'
section
variable {P : Program} {w : World} {K : PySem.W.Frag} {mg : Str → Option Value} {base : Heap}
theorem cd_below (B : Bz mg) (D : Dfn K mg "below_in" sBelowIn ["rows", "rooms", "state", "level"]) (C1 : Cd P w K mg base 2 "largest_in" ["rows", "rooms"] (spLargestIn K)) : ∀ k, Cd P w K mg base (3 + k) "below_in" ["rows", "rooms", "state", "level"] (spBelowIn K k)
  | 0 => cd_below_0 D
  | k + 1 => cd_below_s B D C1 (cd_below B D C1 k)
theorem cd_rests_under (B : Bz mg) (D : Dfn K mg "rests_under" sRestsUnder ["house", "state"]) (C1 : Cd P w K mg base 8 "below_in" ["rows", "rooms", "state", "level"] (spBelowIn K 5)) (C2 : Cd P w K mg base 1 "near" ["house"] (spNear K)) : Cd P w K mg base 9 "rests_under" ["house", "state"] (spRestsBelow K) := by
  refine cd_of D scRestsUnder (fun vs H Q E h => ?_) (fun f cdv A outer s H vs Q E hr h => ?_)
  · obtain ⟨n, a, b, ds, st, rfl, _⟩ := h
    rfl
  obtain ⟨n, a, b, ds, st, rfl, hs, hp, hn5, q⟩ := h
  refine ⟨_, pss_cons (ps_set ndRestsUnder (i := 2) rfl (Or.inl rfl) (pe_cd C1 hr (pa_cons (pe_cd C2 (hr.mono (by decide)) (pa_cons (pv 0) pa_nil)) (pa_cons (pe_tupRg rfl (by rfl) B.ztuple (prg_1 (by rfl) B.zrange (pe_ix ix_tup (pv 0) pe_int (fun _ _ => rfl)))) (pa_cons (pv 1) (pa_cons pe_int pa_nil))))))
    (pss_one (ps_ret (pe_callB (cr_sortedTup hr.units) (by rfl) B.zsorted b_sorted (pa_cons (pe_lc (own := [("one", 3)]) rfl ndRestsUnder (pi_list (pv 2)) (blkOk_by (N := nRestsUnder) (sc := defScope sRestsUnder) (by decide +kernel)) (fun s H C cl fp => pg_name ndRestsUnder (i := 3) rfl (Or.inr rfl)) (fun s H C cl fp => pts_nil)
      (fun s H C cl fp => pe_callTy (call_tuple_of : CallR _ _ (fun xs H Q => ∃ p ys, xs = [.ref p] ∧ ((SqL K H p ys ∧ ∀ l, H l = none → Q (.ref l) (upd H l (.tup ys))) ∨ (SqT K H p ys ∧ Q (.ref p) H)))) (by rfl) B.ztuple b_tuple (pa_cons
        (pe_lc (own := [("room", 4)]) rfl ndRestsUnder (pi_range1 (by rfl) B.zrange (pa_cons (pe_ix (ix_tup : IxR _ (rIxT K)) (pv 0) pe_int (fun _ _ => rfl)) pa_nil)) (blkOk_by (by rfl)) (fun s H C cl fp => pg_name ndRestsUnder (i := 4) rfl (Or.inl rfl)) (fun s H C cl fp => pts_nil)
          (fun s H C cl fp => pe_dget (hu_of hr) (pv 3) (pv 4) (fun _ _ => rfl))) pa_nil))) pa_nil)))), ?_⟩
  obtain ⟨t, hT, hDs⟩ := id hs.hs
  have hz := hz_near hs.ok
  refine ⟨.ref a, rfl, n, a, ds, rfl, hs.hs, hs.ok, fun r H1 s1 h1 => ?_⟩
  refine ⟨.ref a, rfl, a, _, 0, _, rfl, rfl, sameT s1 hT, rfl, (n : Int), rfl, ⟨by omega, by omega, by omega, by omega, by omega⟩, fun p np => ?_⟩
  rw [rg_vi]
  have s2 : Same H (upd H1 p (.tup ((List.range n).map vi))) := s1.trans (sameN np)
  refine ⟨.ref b, rfl, n, 0, r, p, b, nearM n ds, List.range n, st, rfl, sameRws (sameN np) h1, hz, SqT.of upd_same, sameT s2 hs.tn, hs.ln, by rw [List.length_range]; omega, by omega, List.pairwise_lt_range, fun x hx => List.mem_range.mp hx, fun x hx => Nat.zero_le _, fun x hx y hy hxy => parted_near hs.ok hp hxy, fun L ps H3 nL s3 hL hpn hpl hps => ?_⟩
  have s23 := s2.trans s3
  refine ⟨.ref L, rfl, L, rfl, ⟨_, SqL.of hL⟩, ?_⟩
  have htb := tb5 (Nat.le_refl 5)
  refine lcXLB (xs := ps.map V.ref) rf (fun _ => true) (fun D i k H => k.1 ≠ D ∧ H k.1 = some (.tup (k.2.map vi)) ∧ Way n (nearM n ds) k.2 st) (fun D i k H H' h e => ⟨h.1, e _ _ h.2.1 h.1, h.2.2⟩) (SqL.of hL) (by rw [List.length_map]; omega) (fun D i x H4 N nD hD hx s4 k1 k2 => ?_) (fun D H4 bs nD s4 hD hF => ?_)
  · obtain ⟨pi, hpi, rfl⟩ := get_map hx
    obtain ⟨g, ⟨kvs, hk1, hk2, hk3, hk4⟩, hlow⟩ := hps pi (List.mem_of_getElem? hpi)
    have hk4 := s4 _ _ hk1
    refine lcY ?_
    refine ⟨.ref a, rfl, a, _, 0, _, rfl, rfl, sameT (s23.trans s4) hT, rfl, n, rfl, by omega, by omega, ?_⟩
    rw [show (n : Int).toNat = n from Int.toNat_natCast n]
    refine lcR (fun m => some (vi (g m))) (by omega) (fun m H5 hm s5 N5 k51 k52 => ?_) (fun D5 H5 nD5 s5 hD5 => ?_)
    · refine lcY ?_
      refine ⟨.ref pi, rfl, vi m, rfl, pi, vi (g m), rfl, ?_, k51 _ _ rfl (Same.refl _)⟩
      have := DGet.k (k := .inl (m : Int)) (s5 _ _ hk4)
      rw [hk3 m (List.mem_range.mpr hm)] at this
      exact this
    · rw [fm_map] at hD5
      refine ⟨D5, _, rfl, .inl ⟨SqL.of hD5, fun l nl => ?_⟩⟩
      have e : (List.range n).map (fun m => vi (g m)) = ((List.range n).map g).map vi := by rw [List.map_map]; rfl
      rw [e]
      refine k1 (l, (List.range n).map g) _ rfl (s5.trans (sameN nl)) ⟨fun e => ?_, upd_same, low_way (gr_near hs.ok) hs.ln hlow⟩
      obtain ⟨acc, hacc⟩ := hD
      have e : l = D := e
      rw [e, s5 _ _ hacc] at nl
      cases nl
  · have hbl := hF.len
    rw [filt_true, List.length_range, List.length_map] at hbl
    have hgood : ∀ k, k ∈ bs → H4 k.1 = some (.tup (k.2.map vi)) ∧ Way n (nearM n ds) k.2 st := fun k hk => by
      obtain ⟨i, _, h⟩ := hF.right hk
      exact h.2
    refine ⟨D, bs.map fun k => (k.1, k.2.map Int.ofNat), rfl, ?_, fun p hp => ?_, fun ks' L' hperm nL' => ?_⟩
    · rw [List.map_map]
      exact SqL.of hD
    · obtain ⟨k, hk, rfl⟩ := List.mem_map.mp hp
      obtain ⟨g1, g2⟩ := hgood k hk
      refine ⟨?_, fun e => ?_⟩
      · show SqT K H4 k.1 ((k.2.map Int.ofNat).map V.int)
        rw [← vi_map]
        exact SqT.of g1
      · have e : k.2 = [] := by simpa using e
        have := g2.lr
        rw [e] at this
        have := hs.ok.n1
        simp at *
        omega
    · have s5 : Same H4 (upd H4 L' (.lst (ks'.map fun p => V.ref p.1))) := sameN nL'
      have back : ∀ l : List Nat, (l.map Int.ofNat).map Int.toNat = l := fun l => by
        rw [List.map_map]
        exact (List.map_congr_left fun x _ => Int.toNat_natCast x).trans (List.map_id l)
      refine q L' (ks'.map fun p => (p.1, p.2.map Int.toNat)) _ (s23.trans (s4.trans s5)) (by rw [upd_same, List.map_map]; rfl) (fun e => ?_) ?_ (fun k hk => ?_)
      · have e : ks' = [] := by simpa using e
        have := hperm.length_eq
        rw [e, List.length_map] at this
        have h0 : ps.length = 0 := by rw [hbl, ← this]; rfl
        exact hpn (List.length_eq_zero_iff.mp h0)
      · rw [List.length_map, hperm.length_eq, List.length_map]
        omega
      · obtain ⟨p, hp, rfl⟩ := List.mem_map.mp hk
        obtain ⟨k0, h0, rfl⟩ := List.mem_map.mp (hperm.mem_iff.mp hp)
        obtain ⟨g1, g2⟩ := hgood k0 h0
        show _ = some (HO.tup ((((k0.2.map Int.ofNat).map Int.toNat)).map vi)) ∧ Way n _ ((k0.2.map Int.ofNat).map Int.toNat) st
        rw [back]
        exact ⟨s5 _ _ g1, g2⟩
theorem cd_rests_below (D : Dfn K mg "rests_below" sRestsBelow ["house", "state"]) (C1 : Cd P w K mg base 6 "need_parted" ["house", "state"] (spNeedParted K)) (C2 : Cd P w K mg base 9 "rests_under" ["house", "state"] (spRestsBelow K)) : Cd P w K mg base 10 "rests_below" ["house", "state"] (spRestsBelow K) := by
  refine cd_of D scRestsBelow (fun vs H Q E h => ?_) (fun f cdv A outer s H vs Q E hr h => ?_)
  · obtain ⟨n, a, b, ds, st, rfl, _⟩ := h
    rfl
  obtain ⟨n, a, b, ds, st, rfl, hs, hp, hn5, q⟩ := h
  refine ⟨_, pss_cons (ps_expr (pe_cd C1 (hr.mono (by decide)) (pa_cons (pv 0) (pa_cons (pv 1) pa_nil)))) (pss_one (ps_ret (pe_cd C2 hr (pa_cons (pv 0) (pa_cons (pv 1) pa_nil))))), ?_⟩
  refine ⟨.ref a, rfl, .ref b, rfl, n, a, b, ds, st, rfl, hs, hp, fun H1 s1 => ?_⟩
  exact ⟨.ref a, rfl, .ref b, rfl, n, a, b, ds, st, rfl, hs.same s1, hp, hn5, fun L ks H' s2 => q L ks H' (s1.trans s2)⟩
end
end Mx
set_option maxHeartbeats 600000
namespace Mx
open PySem PySem.Spec PyProof.Rows L2
abbrev sCountFrom : Stmt := topS 43
abbrev sCountShortest : Stmt := topS 44
abbrev nCountFrom : List Str := ["rows", "state", "rest", "known", "fit", "x", "room"]
abbrev nCountShortest : List Str := ["house", "state", "rest"]
theorem ndCountFrom : nCountFrom.Nodup := by decide +kernel
theorem scCountFrom : FnScope nCountFrom ["rows", "state", "rest", "known"] (defScope sCountFrom) := ⟨rfl, rfl, rfl, by decide +kernel, rfl, by decide +kernel, by decide +kernel⟩
theorem scCountShortest : FnScope nCountShortest ["house", "state", "rest"] (defScope sCountShortest) := ⟨rfl, rfl, rfl, by decide +kernel, rfl, by decide +kernel, by decide +kernel⟩
def Mem2 (kvs : List (List Key × V)) : Prop := ∀ (k : List Key) (v : V), valV kvs k = some v → ∃ m : Int, v = .int m ∧ 1 ≤ m
def spCount (K : PySem.W.Frag) (k : Nat) : Sp := fun vs H Q _ => ∃ (n : Nat) (a b c d : Addr) (rw : List (List Nat)) (st rest : List Nat) (kvs : List (List Key × V)), vs = [.ref a, .ref b, .ref c, .ref d] ∧ Rws K H a rw ∧ Hz n rw ∧ Way n rw rest st ∧ H b = some (.tup (st.map vi)) ∧ TN K H c rest ∧
  H d = some (.dT kvs) ∧ Mem2 kvs ∧ (chL st rest).length ≤ k ∧ kvs.length + tw k ≤ 1000000 ∧
  ∀ (m : Int) H' kvs', Keep H H' → H' d = some (.dT kvs') → Mem2 kvs' → kvs'.length ≤ kvs.length + tw k → 1 ≤ m → Q (.int m) H'
def spCountShortest (K : PySem.W.Frag) : Sp := fun vs H Q _ => ∃ (n : Nat) (a b c : Addr) (ds : List (Nat × Nat)) (st rest : List Nat), vs = [.ref a, .ref b, .ref c] ∧ BT K H a b c n ds st rest ∧ H b = some (.tup (st.map vi)) ∧ n ≤ 5 ∧ ∀ (m : Int) H', Keep H H' → 1 ≤ m → Q (.int m) H'
theorem sum_pos : ∀ {ms : List Int}, ms ≠ [] → (∀ m, m ∈ ms → 1 ≤ m) → 1 ≤ ms.sum
  | [], h, _ => absurd rfl h
  | m :: ms, _, h => by
    have h1 := h m (by simp)
    have h0 : ∀ l : List Int, (∀ m, m ∈ l → 1 ≤ m) → 0 ≤ l.sum := fun l => by
      induction l with
      | nil => intro _; exact Int.le_refl _
      | cons x l ih =>
        intro hx
        have a := hx x (by simp)
        have b := ih fun m hm => hx m (List.mem_cons_of_mem _ hm)
        rw [List.sum_cons]
        omega
    have h2 := h0 ms fun m hm => h m (List.mem_cons_of_mem _ hm)
    rw [List.sum_cons]
    omega
section
variable {P : Program} {w : World} {K : PySem.W.Frag} {mg : Str → Option Value} {base : Heap}
theorem cd_count_0 (D : Dfn K mg "count_from" sCountFrom ["rows", "state", "rest", "known"]) : Cd P w K mg base 3 "count_from" ["rows", "state", "rest", "known"] (spCount K 0) := by
  refine cd_of D scCountFrom (fun vs H Q E h => ?_) (fun f cdv A outer s H vs Q E hr h => ?_)
  · obtain ⟨n, a, b, c, d, rw, st, rest, kvs, rfl, _⟩ := h
    rfl
  obtain ⟨n, a, b, c, d, rw, st, rest, kvs, rfl, hR, hz, hw, hb, hc, hd, hm, hk, hl, q⟩ := h
  refine ⟨_, pss_cons (ps_if (pt_cmpR (op_eqD hr.units) (pv 1) (pv 2) rfl) (pss_one (ps_ret pe_int)) pss_nil) pss_never, ?_⟩
  have e : st = rest := ch_nil hw (List.length_eq_zero_iff.mp (Nat.le_zero.mp hk))
  subst e
  refine ⟨.ref b, rfl, .ref c, rfl, eq_tt (SqT.of hb) hc ⟨_, rfl, ?_⟩⟩
  rw [decide_eq_true rfl]
  exact iteT (q 1 H kvs (Keep.refl H) hd hm (Nat.le_refl _) (Int.le_refl _))
theorem cd_count_s {k : Nat} (B : Bz mg) (D : Dfn K mg "count_from" sCountFrom ["rows", "state", "rest", "known"]) (C1 : Cd P w K mg base 1 "free_number" ["rows", "state", "room"] (spFree K)) (C2 : Cd P w K mg base 2 "key_in" ["rows", "state", "room"] (spKeyIn K))
    (IH : Cd P w K mg base (3 + k) "count_from" ["rows", "state", "rest", "known"] (spCount K k)) : Cd P w K mg base (3 + (k + 1)) "count_from" ["rows", "state", "rest", "known"] (spCount K (k + 1)) := by
  refine cd_of (k := 3 + k) D scCountFrom (fun vs H Q E h => ?_) (fun f cdv A outer s H vs Q E hr h => ?_)
  · obtain ⟨n, a, b, c, d, rw, st, rest, kvs, rfl, _⟩ := h
    rfl
  obtain ⟨n, a, b, cc, d, rw, st, rest, kvs, rfl, hR, hz, hw, hb, hc, hd, hm, hk, hl, q⟩ := h
  refine ⟨_, pss_cons (ps_if (pt_cmpR (op_eqD hr.units) (pv 1) (pv 2) rfl) (pss_one (ps_ret pe_int)) pss_nil)
    (pss_cons (ps_if (pt_cmp (pc_dnotin (hu_of hr) (pv 1) (pv 3)))
        (pss_cons (ps_setLc (own := [("x", 5)]) (i := 4) rfl ndCountFrom rfl rfl (sw_true rfl rfl rfl rfl) (pi_range1 (by rfl) B.zrange (pa_cons (pe_callB call_len_seq (by rfl) B.zlen b_len (pa_cons (pv 2) pa_nil)) pa_nil)) (blkOk_by (N := nCountFrom) (sc := defScope sCountFrom) (by decide +kernel)) (fun s H C cl fp => pg_name ndCountFrom (i := 5) rfl (Or.inl rfl))
            (fun s H C cl fp => pts_one (pw_and (pt_cmpR op_lt (pe_ix (ix_tup : IxR _ (rIxT K)) (pv 2) (pv 5) (fun _ _ => rfl)) (pe_ix (ix_tup : IxR _ (rIxT K)) (pv 1) (pv 5) (fun _ _ => rfl)) rfl)
              (pw_and1 (pt_cmpR op_eq (pe_cd C1 (hr.mono (by omega)) (pa_cons (pv 0) (pa_cons (pv 1) (pa_cons (pv 5) pa_nil)))) (pe_ix (ix_tup : IxR _ (rIxT K)) (pv 2) (pv 5) (fun _ _ => rfl)) rfl))).pt) (fun s H C cl fp => pv 5))
          (pss_one (ps_dput (hu_of hr) (pv 3) (pv 1) (pe_callB (cr_sum rfl) (by rfl) B.zsum b_sum (pa_cons (pe_lc (own := [("room", 6)]) rfl ndCountFrom (pi_list (pv 4)) (blkOk_by (N := nCountFrom) (sc := defScope sCountFrom) (by decide +kernel)) (fun s H C cl fp => pg_name ndCountFrom (i := 6) rfl (Or.inl rfl)) (fun s H C cl fp => pts_nil)
            (fun s H C cl fp => pe_cd IH hr (pa_cons (pv 0) (pa_cons (pe_cd C2 (hr.mono (by omega)) (pa_cons (pv 0) (pa_cons (pv 1) (pa_cons (pv 6) pa_nil)))) (pa_cons (pv 2) (pa_cons (pv 3) pa_nil)))))) pa_nil)) rfl)))
        pss_nil)
      (pss_one (ps_ret (pe_dget (hu_of hr) (pv 3) (pv 1) (fun _ _ => rfl))))), ?_⟩
  refine ⟨.ref b, rfl, .ref cc, rfl, eq_tt (SqT.of hb) hc ⟨_, rfl, ?_⟩⟩
  refine ite2 (fun z => ?_) (fun z => ?_)
  · exact q 1 H kvs (Keep.refl H) hd hm (Nat.le_add_right _ _) (Int.le_refl _)
  have hne : st ≠ rest := of_decide_eq_false (Bool.eq_false_iff.mpr z)
  have hbk : H b = some (.tup ((kyOf st).map kV)) := by rw [kyOf_kV]; exact hb
  refine ⟨.ref b, rfl, .ref d, rfl, d, _, rfl, DGet.t hd hbk, _, rfl, ?_⟩
  have hn := hz.n8
  refine ite2 (fun z2 => ?_) (fun z2 => ?_)
  · refine ⟨.ref cc, rfl, cc, _, rfl, .inr hc, n, by rw [List.length_map, hw.lr], by omega, by omega, ?_⟩
    rw [show (n : Int).toNat = n from Int.toNat_natCast n]
    refine fitComp hR hz (SqT.of hb) hc hw.ls hw.lr (fun _ => rfl) (fun _ => rfl) (fun _ => rfl) (fun _ => rfl) (fun _ => rfl) fun L H1 nL s1 hL => ?_
    have hfl : (fitL rw st rest).length ≤ k + 1 := by
      have := asc_sub (fit_asc rw st rest) (ch_asc st rest) fun x hx => fit_ch hx
      exact Nat.le_trans this.length_le hk
    have hfl8 : (fitL rw st rest).length ≤ 8 := by
      unfold fitL
      refine Nat.le_trans (List.length_filter_le _ _) ?_
      rw [List.length_range, hw.lr]
      exact hn
    have etw : tw (k + 1) = 1 + 2 ^ (k + 1) * tw k := rfl
    have h2k : k + 1 ≤ 2 ^ (k + 1) := Nat.le_of_lt Nat.lt_two_pow_self
    refine ⟨.ref L, rfl, L, rfl, ⟨_, SqL.of hL⟩, ?_⟩
    intro D nD
    refine lc_list (xs := (fitL rw st rest).map vi) (fun i H' => Keep H H' ∧ H' L = some (.lst ((fitL rw st rest).map vi)) ∧ ∃ (kvs' : List (List Key × V)) (ms : List Int), H' d = some (.dT kvs') ∧ Mem2 kvs' ∧ kvs'.length ≤ kvs.length + i * tw k ∧ H' D = some (.lst (ms.map V.int)) ∧ ms.length = i ∧ ∀ m, m ∈ ms → 1 ≤ m) ?_ (fun i H' _ h => SqL.of h.2.1) (fun i x H' hx h => ?_) (fun H' h => ?_)
    · have sD : Same H1 (upd H1 D (.lst [])) := sameN nD
      exact ⟨Keep.of (s1.trans sD), sD _ _ hL, kvs, [], sD _ _ (s1 _ _ hd), hm, by omega, upd_same, rfl, fun m hm => by simp at hm⟩
    · obtain ⟨kp, hL', kvs', ms, hd', hm', hkl, hD', hml, hms⟩ := h
      obtain ⟨hi, rfl⟩ := get_vi hx
      have hfi := List.getElem_mem hi
      obtain ⟨f1, f2, f3⟩ := mem_fit.mp hfi
      refine ⟨rfl, ?_⟩
      simp only [tYes, ↓reduceIte]
      refine ⟨.ref a, rfl, .ref a, rfl, .ref b, rfl, _, rfl, n, _, a, b, rw, st, rfl, kp.rws hR, hz, kp.seqT (SqT.of hb), hw.ls, by rw [← hw.lr]; exact f1, fun p3 H3 s3 h3 => ?_⟩
      have kp3 : Keep H H3 := kp.trans (Keep.of s3)
      have ekey := key_fit hw hfi
      rw [ekey] at h3
      have hch : (chL (putL st rest [(fitL rw st rest)[i]]) rest).length ≤ k := by
        have := nch_put hw (r := [(fitL rw st rest)[i]]) (by simp) fun x hx => by
          have e : x = (fitL rw st rest)[i] := by simpa using hx
          rw [e]
          exact fit_ch hfi
        omega
      have e3 : (i + 1) * tw k = i * tw k + tw k := Nat.succ_mul _ _
      have e2 : (i + 1) * tw k ≤ 2 ^ (k + 1) * tw k := Nat.mul_le_mul_right _ (by omega)
      refine ⟨.ref cc, rfl, .ref d, rfl, n, a, p3, cc, d, rw, _, rest, kvs', rfl, kp3.rws hR, hz, way_put hw _, h3, kp3.seqT hc, s3 _ _ hd', hm', hch, by omega, fun m H4 kvs4 k4 hd4 hm4 hl4 h1 => ?_⟩
      have kq : Keep H' H4 := (Keep.of s3).trans k4
      have hD4 := kq.lst hD'
      have hLD : L ≠ D := fun e => by rw [← e, hL] at nD; cases nD
      have hdD : d ≠ D := fun e => by rw [e, hD4] at hd4; cases hd4
      have nD0 : H D = none := s1.free nD
      refine ⟨_, hD4, by rw [List.length_map, hml]; exact small1000 (by omega), keep_upd (kp.trans kq) nD0, by rw [upd_ne hLD]; exact kq.lst hL', kvs4, ms ++ [m], by rw [upd_ne hdD]; exact hd4, hm4, by omega, by rw [upd_same, List.map_append]; rfl, by rw [List.length_append, hml]; rfl, fun m' hm' => ?_⟩
      rcases List.mem_append.mp hm' with h | h
      · exact hms m' h
      · have e : m' = m := by simpa using h
        rw [e]
        exact h1
    · obtain ⟨kp, hL', kvs', ms, hd', hm', hkl, hD', hml, hms⟩ := h
      rw [List.length_map] at hml hkl
      have e2 : (fitL rw st rest).length * tw k ≤ 2 ^ (k + 1) * tw k := Nat.mul_le_mul_right _ (by omega)
      have hmne : ms ≠ [] := fun e => by
        rw [e] at hml
        exact fit_ne hw hne (List.length_eq_zero_iff.mp hml.symm)
      have hsum := sum_pos hmne hms
      refine ⟨D, ms, rfl, SqL.of hD', ?_⟩
      have hb' : H' b = some (.tup ((kyOf st).map kV)) := by rw [kyOf_kV]; exact kp.tup hb
      refine ⟨.ref d, rfl, .ref b, rfl, d, _, rfl, DPut.t hd' hb' (Nat.lt_trans (show _ < 1000000 by omega) mill), ?_⟩
      have hb4 : (upd H' d (.dT (putK kvs' (kyOf st) (.int ms.sum)))) b = some (.tup ((kyOf st).map kV)) := by
        rw [upd_ne (fun e : b = d => by rw [e, hd'] at hb'; cases hb')]
        exact hb'
      refine ⟨.ref d, rfl, .ref b, rfl, d, .int ms.sum, rfl, ?_, ?_⟩
      · have := DGet.t (k := kyOf st) (a := d) (b := b) (H := upd H' d (.dT (putK kvs' (kyOf st) (.int ms.sum)))) upd_same hb4
        rw [valV_put, if_pos rfl] at this
        exact this
      · refine q ms.sum _ _ (keep_updD kp hd) upd_same (fun kk v hv => ?_) ?_ hsum
        · rw [valV_put] at hv
          by_cases e : kk = kyOf st
          · rw [if_pos e] at hv
            cases hv
            exact ⟨_, rfl, hsum⟩
          · rw [if_neg e] at hv
            exact hm' kk v hv
        · have e0 := length_putK kvs' (kyOf st) (.int ms.sum)
          omega
  · have hv : (valV kvs (kyOf st)).isSome = true := by
      cases e : (valV kvs (kyOf st)).isSome with
      | true => rfl
      | false => rw [e] at z2; exact absurd rfl z2
    obtain ⟨v, hv⟩ := Option.isSome_iff_exists.mp hv
    obtain ⟨m, rfl, h1⟩ := hm _ _ hv
    refine ⟨.ref d, rfl, .ref b, rfl, d, .int m, rfl, ?_, q m H kvs (Keep.refl H) hd hm (Nat.le_add_right _ _) h1⟩
    have := DGet.t (k := kyOf st) hd hbk
    rw [hv] at this
    exact this
theorem cd_count (B : Bz mg) (D : Dfn K mg "count_from" sCountFrom ["rows", "state", "rest", "known"]) (C1 : Cd P w K mg base 1 "free_number" ["rows", "state", "room"] (spFree K)) (C2 : Cd P w K mg base 2 "key_in" ["rows", "state", "room"] (spKeyIn K)) : ∀ k, Cd P w K mg base (3 + k) "count_from" ["rows", "state", "rest", "known"] (spCount K k)
  | 0 => cd_count_0 D
  | k + 1 => cd_count_s B D C1 C2 (cd_count B D C1 C2 k)
theorem ch_le {st rest : List Nat} {n : Nat} (lr : rest.length = n) : (chL st rest).length ≤ n := by
  unfold chL
  refine Nat.le_trans (List.length_filter_le _ _) ?_
  rw [List.length_range, lr]
  exact Nat.le_refl _
theorem cd_count_shortest (D : Dfn K mg "count_shortest" sCountShortest ["house", "state", "rest"]) (C1 : Cd P w K mg base 7 "need_both" ["house", "state", "rest"] (spNeedBoth K)) (C2 : Cd P w K mg base 8 "count_from" ["rows", "state", "rest", "known"] (spCount K 5)) (C3 : Cd P w K mg base 1 "near" ["house"] (spNear K)) :
    Cd P w K mg base 9 "count_shortest" ["house", "state", "rest"] (spCountShortest K) := by
  refine cd_of D scCountShortest (fun vs H Q E h => ?_) (fun f cdv A outer s H vs Q E hr h => ?_)
  · obtain ⟨n, a, b, c, ds, st, rest, rfl, _⟩ := h
    rfl
  obtain ⟨n, a, b, c, ds, st, rest, rfl, hB, hb, hn5, q⟩ := h
  refine ⟨_, pss_cons (ps_expr (pe_cd C1 (hr.mono (by decide)) (pa_cons (pv 0) (pa_cons (pv 1) (pa_cons (pv 2) pa_nil))))) (pss_one (ps_ret (pe_cd C2 hr (pa_cons (pe_cd C3 (hr.mono (by decide)) (pa_cons (pv 0) pa_nil)) (pa_cons (pv 1) (pa_cons (pv 2) (pa_cons pe_dnewT pa_nil))))))), ?_⟩
  refine ⟨.ref a, rfl, .ref b, rfl, .ref c, rfl, n, a, b, c, ds, st, rest, rfl, hB, fun H1 s1 => ?_⟩
  refine ⟨.ref a, rfl, n, a, ds, rfl, (hB.same s1).hs.hs, hB.hs.ok, fun r H2 s2 h2 => ?_⟩
  have s12 := s1.trans s2
  refine ⟨.ref b, rfl, .ref c, rfl, fun d nd => ?_⟩
  have s3 := s12.trans (sameN (o := .dT []) nd)
  refine ⟨n, r, b, c, d, nearM n ds, st, rest, [], rfl, sameRws (sameN nd) h2, hz_near hB.hs.ok, hB.way, s3 _ _ hb, (hB.same s3).tr, upd_same, fun k v hv => (by cases hv), Nat.le_trans (ch_le hB.lr) hn5, by decide, fun m H' kvs' kp _ _ _ h1 => ?_⟩
  exact q m H' ((Keep.of s3).trans kp) h1
end
end Mx
set_option maxHeartbeats 600000
namespace Mx
open PySem PySem.Spec PyProof.Rows L2
abbrev sWaves : Stmt := topS 51
abbrev sFewestWaves : Stmt := topS 52
abbrev sEager : Stmt := topS 53
abbrev sAtOnce : Stmt := topS 55
abbrev nWaves : List Str := ["house", "state", "rest"]
abbrev nEager : List Str := ["house", "state", "rest", "rows", "found", "rooms"]
abbrev nAtOnce : List Str := ["house", "state", "rooms", "rows", "x", "part"]
theorem ndEager : nEager.Nodup := by decide +kernel
theorem ndAtOnce : nAtOnce.Nodup := by decide +kernel
theorem scWaves : FnScope nWaves ["house", "state", "rest"] (defScope sWaves) := ⟨rfl, rfl, rfl, by decide +kernel, rfl, by decide +kernel, by decide +kernel⟩
theorem scFewestWaves : FnScope nWaves ["house", "state", "rest"] (defScope sFewestWaves) := ⟨rfl, rfl, rfl, by decide +kernel, rfl, by decide +kernel, by decide +kernel⟩
theorem scEager : FnScope nEager ["house", "state", "rest"] (defScope sEager) := ⟨rfl, rfl, rfl, by decide +kernel, rfl, by decide +kernel, by decide +kernel⟩
theorem scAtOnce : FnScope nAtOnce ["house", "state", "rooms"] (defScope sAtOnce) := ⟨rfl, rfl, rfl, by decide +kernel, rfl, by decide +kernel, by decide +kernel⟩
def spWv (K : PySem.W.Frag) (T : List (Addr × Str)) : Sp := fun vs H Q _ => ∃ (n : Nat) (a b c : Addr) (ds : List (Nat × Nat)) (st rest : List Nat), vs = [.ref a, .ref b, .ref c] ∧ BT K H a b c n ds st rest ∧ H b = some (.tup (st.map vi)) ∧ n ≤ 5 ∧ LamX.Tabs T H ∧
  ∀ p W H', Keep H H' → LamX.Tabs T H' → Best (nearM n ds) rest st W → Wvs K H' p W → Q (.ref p) H'
def spFewestWaves (K : PySem.W.Frag) (T : List (Addr × Str)) : Sp := fun vs H Q _ => ∃ (n : Nat) (a b c : Addr) (ds : List (Nat × Nat)) (st rest : List Nat), vs = [.ref a, .ref b, .ref c] ∧ BT K H a b c n ds st rest ∧ H b = some (.tup (st.map vi)) ∧ n ≤ 5 ∧ LamX.Tabs T H ∧
  ∀ (W : List (List Nat)) H', Keep H H' → LamX.Tabs T H' → Best (nearM n ds) rest st W → Q (vi W.length) H'
def spEager (K : PySem.W.Frag) : Sp := fun vs H Q _ => ∃ (n : Nat) (a b c : Addr) (ds : List (Nat × Nat)) (st rest r : List Nat), vs = [.ref a, .ref b, .ref c] ∧ BT K H a b c n ds st rest ∧ IsRow (nearM n ds) rest st [r] ∧ ∀ p H', Same H H' → Wvs K H' p [r] → Q (.ref p) H'
def spAtOnce (K : PySem.W.Frag) : Sp := fun vs H Q _ => ∃ (n : Nat) (a b c : Addr) (ds : List (Nat × Nat)) (st rest r : List Nat), vs = [.ref a, .ref b, .ref c] ∧ HS K H a b n ds st ∧ TN K H c r ∧ r.Pairwise (· < ·) ∧ (∀ x, x ∈ r → x < n) ∧ (∀ x, x ∈ r → fr (nearM n ds) st x = rest.getD x 0) ∧
  ∀ p H', Same H H' → TN K H' p (putL st rest r) → Q (.ref p) H'
theorem asc_lt_len : ∀ {n : Nat} {r : List Nat}, r.Pairwise (· < ·) → (∀ x, x ∈ r → x < n) → r.length ≤ n := by
  intro n r h hl
  have := (asc_sub h (List.pairwise_lt_range (n := n)) fun x hx => List.mem_range.mpr (hl x hx)).length_le
  rw [List.length_range] at this
  exact this
section
variable {P : Program} {w : World} {K : PySem.W.Frag} {mg : Str → Option Value} {base : Heap} {PT : Addr}
theorem cd_waves_from {c : Addr} (B : Bz mg) (D : DfnC K mg "waves_from" sWavesFrom ["rows", "state", "rest", "known"] c) (TB : LamX.TabB base mg c PT) (C1 : Cd P w K mg base 2 "fit_rooms" ["rows", "state", "rest"] (spFit K)) (C2 : Cd P w K mg base 1 "subsets" ["rooms"] (spSubsets K))
    (C3 : Cd P w K mg base 1 "put" ["state", "rest", "rooms"] (spPut K)) : ∀ k, Cd P w K mg base (3 + k) "waves_from" ["rows", "state", "rest", "known"] (spWaves K (tqW PT) k)
  | 0 => cd_waves_0 D
  | k + 1 => cd_waves_s B D TB C1 C2 C3 (cd_waves_from B D TB C1 C2 C3 k)
theorem cd_waves (D : Dfn K mg "waves" sWaves ["house", "state", "rest"]) (C1 : Cd P w K mg base 7 "need_both" ["house", "state", "rest"] (spNeedBoth K)) (C2 : Cd P w K mg base 8 "waves_from" ["rows", "state", "rest", "known"] (spWaves K (tqW PT) 5)) (C3 : Cd P w K mg base 1 "near" ["house"] (spNear K)) :
    Cd P w K mg base 9 "waves" ["house", "state", "rest"] (spWv K (tqW PT)) := by
  refine cd_of D scWaves (fun vs H Q E h => ?_) (fun f cdv A outer s H vs Q E hr h => ?_)
  · obtain ⟨n, a, b, c, ds, st, rest, rfl, _⟩ := h
    rfl
  obtain ⟨n, a, b, c, ds, st, rest, rfl, hB, hb, hn5, hT, q⟩ := h
  refine ⟨_, pss_cons (ps_expr (pe_cd C1 (hr.mono (by decide)) (pa_cons (pv 0) (pa_cons (pv 1) (pa_cons (pv 2) pa_nil))))) (pss_one (ps_ret (pe_cd C2 hr (pa_cons (pe_cd C3 (hr.mono (by decide)) (pa_cons (pv 0) pa_nil)) (pa_cons (pv 1) (pa_cons (pv 2) (pa_cons pe_dnewT pa_nil))))))), ?_⟩
  refine ⟨.ref a, rfl, .ref b, rfl, .ref c, rfl, n, a, b, c, ds, st, rest, rfl, hB, fun H1 s1 => ?_⟩
  refine ⟨.ref a, rfl, n, a, ds, rfl, (hB.same s1).hs.hs, hB.hs.ok, fun r H2 s2 h2 => ?_⟩
  have s12 := s1.trans s2
  refine ⟨.ref b, rfl, .ref c, rfl, fun d nd => ?_⟩
  have s3 := s12.trans (sameN (o := .dT []) nd)
  refine ⟨n, r, b, c, d, nearM n ds, st, rest, [], rfl, sameRws (sameN nd) h2, hz_near hB.hs.ok, hB.way, s3 _ _ hb, (hB.same s3).tr, upd_same, fun k v hv => (by cases hv), Nat.le_trans (ch_le hB.lr) hn5, by decide, hT.ext s3, fun p W H' kvs' kp t' _ _ _ hb hw => ?_⟩
  exact q p W H' ((Keep.of s3).trans kp) t' hb hw
theorem cd_fewest_waves (B : Bz mg) (D : Dfn K mg "fewest_waves" sFewestWaves ["house", "state", "rest"]) (C1 : Cd P w K mg base 7 "need_both" ["house", "state", "rest"] (spNeedBoth K)) (C2 : Cd P w K mg base 8 "waves_from" ["rows", "state", "rest", "known"] (spWaves K (tqW PT) 5)) (C3 : Cd P w K mg base 1 "near" ["house"] (spNear K)) :
    Cd P w K mg base 9 "fewest_waves" ["house", "state", "rest"] (spFewestWaves K (tqW PT)) := by
  refine cd_of D scFewestWaves (fun vs H Q E h => ?_) (fun f cdv A outer s H vs Q E hr h => ?_)
  · obtain ⟨n, a, b, c, ds, st, rest, rfl, _⟩ := h
    rfl
  obtain ⟨n, a, b, c, ds, st, rest, rfl, hB, hb, hn5, hT, q⟩ := h
  refine ⟨_, pss_cons (ps_expr (pe_cd C1 (hr.mono (by decide)) (pa_cons (pv 0) (pa_cons (pv 1) (pa_cons (pv 2) pa_nil))))) (pss_one (ps_ret (pe_callB call_len_seq (by rfl) B.zlen b_len (pa_cons (pe_cd C2 hr (pa_cons (pe_cd C3 (hr.mono (by decide)) (pa_cons (pv 0) pa_nil)) (pa_cons (pv 1) (pa_cons (pv 2) (pa_cons pe_dnewT pa_nil))))) pa_nil)))), ?_⟩
  refine ⟨.ref a, rfl, .ref b, rfl, .ref c, rfl, n, a, b, c, ds, st, rest, rfl, hB, fun H1 s1 => ?_⟩
  refine ⟨.ref a, rfl, n, a, ds, rfl, (hB.same s1).hs.hs, hB.hs.ok, fun r H2 s2 h2 => ?_⟩
  have s12 := s1.trans s2
  refine ⟨.ref b, rfl, .ref c, rfl, fun d nd => ?_⟩
  have s3 := s12.trans (sameN (o := .dT []) nd)
  refine ⟨n, r, b, c, d, nearM n ds, st, rest, [], rfl, sameRws (sameN nd) h2, hz_near hB.hs.ok, hB.way, s3 _ _ hb, (hB.same s3).tr, upd_same, fun k v hv => (by cases hv), Nat.le_trans (ch_le hB.lr) hn5, by decide, hT.ext s3, fun p W H' kvs' kp t' _ _ _ hb hw => ?_⟩
  obtain ⟨as, h1, h2, h3⟩ := hw
  refine ⟨p, _, rfl, .inr h1, ?_⟩
  rw [List.length_map, h2]
  exact q W H' ((Keep.of s3).trans kp) t' hb
theorem cd_eager (B : Bz mg) (D : Dfn K mg "eager_waves" sEager ["house", "state", "rest"]) (C1 : Cd P w K mg base 7 "need_both" ["house", "state", "rest"] (spNeedBoth K)) (C2 : Cd P w K mg base 2 "fit_rooms" ["rows", "state", "rest"] (spFit K)) (C3 : Cd P w K mg base 1 "near" ["house"] (spNear K))
    (C4 : Cd P w K mg base 1 "put" ["state", "rest", "rooms"] (spPut K)) : Cd P w K mg base 8 "eager_waves" ["house", "state", "rest"] (spEager K) := by
  refine cd_of D scEager (fun vs H Q E h => ?_) (fun f cdv A outer s H vs Q E hr h => ?_)
  · obtain ⟨n, a, b, c, ds, st, rest, r, rfl, _⟩ := h
    rfl
  obtain ⟨n, a, b, c, ds, st, rest, r, rfl, hB, hrow, q⟩ := h
  refine ⟨_, pss_cons (ps_expr (pe_cd C1 hr (pa_cons (pv 0) (pa_cons (pv 1) (pa_cons (pv 2) pa_nil)))))
    (pss_cons (ps_par (i := 3) (j := 4) rfl ndEager rfl rfl (by decide) rfl rfl (pa_cons (pe_cd C3 (hr.mono (by decide)) (pa_cons (pv 0) pa_nil)) (pa_cons (pe_lst pa_nil) pa_nil)) rfl)
      (pss_cons (ps_while PassesOwn.never (pt_cmpR (op_neD hr.units) (pv 1) (pv 2) rfl)
          (pss_cons (ps_set ndEager (i := 5) rfl (Or.inl rfl) (pe_cd C2 (hr.mono (by decide)) (pa_cons (pv 3) (pa_cons (pv 1) (pa_cons (pv 2) pa_nil)))))
            (pss_cons (ps_expr (pe_bm PySem.F.plainAttrs_list PySem.F.slot_list_append PySem.F.type_list_append mt_append (pv 4) (pa_cons (pe_callTy call_tuple_of (by rfl) B.ztuple b_tuple (pa_cons (pv 5) pa_nil)) pa_nil)))
              (pss_one (ps_set ndEager (i := 1) rfl (Or.inl rfl) (pe_cd C4 (hr.mono (by decide)) (pa_cons (pv 1) (pa_cons (pv 2) (pa_cons (pv 5) pa_nil)))))))))
        (pss_one (ps_ret (pe_callTy call_tuple_of (by rfl) B.ztuple b_tuple (pa_cons (pv 4) pa_nil)))))), ?_⟩
  obtain ⟨er, ep, hne⟩ := row_one hB.way hrow
  have hz := hz_near hB.hs.ok
  refine ⟨.ref a, rfl, .ref b, rfl, .ref c, rfl, n, a, b, c, ds, st, rest, rfl, hB, fun H1 s1 => ?_⟩
  refine ⟨.ref a, rfl, n, a, ds, rfl, (hB.same s1).hs.hs, hB.hs.ok, fun rr H2 s2 h2 => ?_⟩
  have s12 := s1.trans s2
  refine ⟨Nat.zero_le _, fun F nF => ?_⟩
  have s3 : Same H (upd H2 F (.lst [])) := s12.trans (sameN nF)
  have nF0 : H F = none := s12.free nF
  have nF2 : H2 F = none := nF
  refine ⟨.ref rr, .ref F, rfl, ?_⟩
  refine ⟨fun m σ H' => (m = 1 ∧ (∃ u, σ = [some (.ref a), some (.ref b), some (.ref c), some (.ref rr), some (.ref F), u]) ∧ H' = upd H2 F (.lst [])) ∨ (m = 0 ∧ ∃ (p t : Addr) (u : Option V), σ = [some (.ref a), some (.ref p), some (.ref c), some (.ref rr), some (.ref F), u] ∧ Same H H' ∧ TN K H' p rest ∧ H' F = some (.lst [V.ref t]) ∧ TN K H' t r), ⟨1, .inl ⟨rfl, ⟨_, rfl⟩, rfl⟩⟩, ?_⟩
  rintro m σ H' (⟨rfl, ⟨u, rfl⟩, rfl⟩ | ⟨rfl, p, t, u, rfl, sm, hp, hF, ht⟩)
  · refine ⟨.ref b, rfl, .ref c, rfl, ne_tt (sameT s3 hB.hs.tn) (hB.same s3).tr ⟨_, rfl, ?_⟩⟩
    rw [decide_eq_false hne]
    refine iteT ?_
    refine ⟨fun σ' H' => ∃ (p t : Addr) (u : Option V), σ' = [some (.ref a), some (.ref p), some (.ref c), some (.ref rr), some (.ref F), u] ∧ Same H H' ∧ TN K H' p rest ∧ H' F = some (.lst [V.ref t]) ∧ TN K H' t r, fun σ' H' h => ⟨0, by decide, .inr ⟨rfl, h⟩⟩, ?_⟩
    refine ⟨.ref rr, rfl, .ref b, rfl, .ref c, rfl, n, rr, b, c, nearM n ds, st, rest, rfl, sameRws (sameN nF) h2, hz, sameT s3 hB.hs.tn, (hB.same s3).tr, hB.hs.ln, hB.lr, fun L H4 nL s4 hL => ?_⟩
    rw [← er] at hL
    have hF4 : H4 F = some (.lst []) := s4 _ _ upd_same
    have hLF : L ≠ F := fun e => by rw [e, upd_same] at nL; cases nL
    refine ⟨.ref F, rfl, .inl ⟨rfl, _, SqL.of hF4⟩, .ref L, rfl, L, _, rfl, .inl ⟨SqL.of hL, fun t nt => ?_⟩⟩
    have s5 : Same H4 (upd H4 t (.tup (r.map vi))) := sameN nt
    have htF : t ≠ F := fun e => by rw [e, hF4] at nt; cases nt
    refine ⟨F, _, .ref t, rfl, rfl, s5 _ _ hF4, by decide, ?_⟩
    have s6 : Same H (upd (upd H4 t (.tup (r.map vi))) F (.lst ([] ++ [V.ref t]))) := ExD.of_new (s3.trans (s4.trans s5)) nF0 exD_upd
    refine ⟨.ref b, rfl, .ref c, rfl, .ref L, rfl, n, b, c, L, st, rest, r, rfl, sameT s6 hB.hs.tn, (hB.same s6).tr, .inr (SqL.of (by rw [upd_ne hLF]; exact s5 _ _ hL)), hB.hs.ln, hB.lr, hB.hs.ok.n8, fun p H7 s7 h7 => ?_⟩
    rw [ep] at h7
    refine ⟨p, t, _, rfl, s6.trans s7, SqT.of h7, s7 _ _ upd_same, SqT.of (s7 _ _ (by rw [upd_ne htF, upd_same]))⟩
  · refine ⟨.ref p, rfl, .ref c, rfl, ne_tt hp (hB.same sm).tr ⟨_, rfl, ?_⟩⟩
    refine iteNS rfl ?_
    refine ⟨.ref F, rfl, F, _, rfl, .inl ⟨SqL.of hF, fun z nz => ?_⟩⟩
    refine q z _ (sm.trans (sameN nz)) ⟨[t], SqT.of upd_same, rfl, fun i x hx => ?_⟩
    cases i with
    | zero =>
      cases hx
      exact ⟨t, rfl, sameT (sameN nz) ht⟩
    | succ i => simp at hx
theorem cd_at_once (B : Bz mg) (D : Dfn K mg "at_once" sAtOnce ["house", "state", "rooms"]) (C1 : Cd P w K mg base 5 "need_state" ["house", "state"] (spNeedNumbers K)) (C2 : Cd P w K mg base 3 "need_set" ["house", "rooms"] (spNeedSet K)) (C3 : Cd P w K mg base 1 "near" ["house"] (spNear K))
    (C4 : Cd P w K mg base 1 "free_number" ["rows", "state", "room"] (spFree K)) : Cd P w K mg base 6 "at_once" ["house", "state", "rooms"] (spAtOnce K) := by
  refine cd_of D scAtOnce (fun vs H Q E h => ?_) (fun f cdv A outer s H vs Q E hr h => ?_)
  · obtain ⟨n, a, b, c, ds, st, rest, r, rfl, _⟩ := h
    rfl
  obtain ⟨n, a, b, c, ds, st, rest, r, rfl, hs, hc, asc, hlt, hfr, q⟩ := h
  refine ⟨_, pss_cons (ps_expr (pe_cd C1 hr (pa_cons (pv 0) (pa_cons (pv 1) pa_nil)))) (pss_cons (ps_expr (pe_cd C2 (hr.mono (by decide)) (pa_cons (pv 0) (pa_cons (pv 2) pa_nil))))
    (pss_cons (ps_set ndAtOnce (i := 3) rfl (Or.inr rfl) (pe_cd C3 (hr.mono (by decide)) (pa_cons (pv 0) pa_nil)))
      (pss_one (ps_ret (pe_callTy call_tuple_of (by rfl) B.ztuple b_tuple (pa_cons (pe_lc (own := [("x", 4), ("part", 5)]) rfl ndAtOnce (pi_enumT (by rfl) B.zenumerate (pa_cons (pv 1) pa_nil)) (blkOk_by (N := nAtOnce) (sc := defScope sAtOnce) (by decide +kernel))
        (fun s H C cl fp => (pg_tup (n := 2) rfl (pgs_cons (pg_name ndAtOnce (i := 4) rfl (Or.inl rfl)) (pgs_cons (pg_name ndAtOnce (i := 5) rfl (Or.inl rfl)) pgs_nil)) : PG _ _ (gTup K 2 (gCons (gName 4) (gCons (gName 5) gNil))))) (fun s H C cl fp => pts_nil)
        (fun s H C cl fp => pe_ifExp (pt_cmpR (op_in_seq : OpR _ _ (rIn K false)) (pv 4) (pv 2) rfl) (pe_cd C4 (hr.mono (by decide)) (pa_cons (pv 3) (pa_cons (pv 1) (pa_cons (pv 4) pa_nil)))) (pv 5))) pa_nil)))))), ?_⟩
  have hn := hs.ok.n8
  refine ⟨.ref a, rfl, .ref b, rfl, n, a, b, ds, st, rfl, hs, fun H1 s1 => ?_⟩
  refine ⟨.ref a, rfl, .ref c, rfl, n, a, c, ds, r, rfl, (hs.same s1).hs, hs.ok, sameT s1 hc, asc, hlt, asc_lt_len asc hlt, fun H2 s2 => ?_⟩
  have s12 := s1.trans s2
  refine ⟨.ref a, rfl, n, a, ds, rfl, (hs.same s12).hs, hs.ok, fun rr H3 s3 h3 => ?_⟩
  have s13 := s12.trans s3
  have hb3 := sameT s13 hs.tn
  refine ⟨.ref b, rfl, b, _, rfl, hb3, ?_⟩
  refine lcE (xs := st.map vi) (fun i => some (vi (if i ∈ r then rest.getD i 0 else st.getD i 0))) hb3 (by have := hs.ln; rw [List.length_map]; omega) (fun i x T H4 hx s4 hT N k1 k2 => ?_) (fun D H4 nD s4 hD => ?_)
  · obtain ⟨hi, rfl⟩ := get_vi hx
    have hin : i < n := by have := hs.ln; omega
    refine pair_nm (SqT.of hT) ?_
    refine lcY ?_
    refine ⟨vi i, rfl, .ref c, rfl, in_op (.inl (sameT (s13.trans s4) hc)) ⟨_, rfl, ?_⟩⟩
    refine ite2 (fun z => ?_) (fun z => ?_)
    · have z' := of_decide_eq_true z
      refine ⟨.ref rr, rfl, .ref b, rfl, vi i, rfl, n, i, rr, b, nearM n ds, st, rfl, sameRws s4 h3, hz_near hs.ok, sameT s4 hb3, hs.ln, hin, fun H5 s5 => k1 _ _ ?_ s5⟩
      rw [if_pos z', hfr i z']
    · have z' := of_decide_eq_false (Bool.eq_false_iff.mpr z)
      refine ⟨_, rfl, k1 _ _ ?_ (Same.refl _)⟩
      rw [if_neg z', getD_of (List.getElem?_eq_getElem hi)]
  · have e : ((List.range (st.map vi).length).filterMap fun i => some (vi (if i ∈ r then rest.getD i 0 else st.getD i 0))) = (putL st rest r).map vi := by
      rw [fm_map, List.length_map]
      unfold putL
      rw [List.map_map]
      rfl
    rw [e] at hD
    refine ⟨D, _, rfl, .inl ⟨SqL.of hD, fun p np => ?_⟩⟩
    exact q p _ (s13.trans (s4.trans (sameN np))) (SqT.of upd_same)
end
end Mx
set_option maxHeartbeats 600000
namespace Mx
open PySem PySem.Spec PyProof.Rows L2
abbrev sTaken : Stmt := topS 57
abbrev sPick : Stmt := topS 58
abbrev sHouse : Stmt := topS 59
abbrev sParted : Stmt := topS 61
abbrev nTaken : List Str := ["_law_row", "_law_many", "_law_found", "_law_cell"]
abbrev nPick : List Str := ["_law_row", "_law_things"]
abbrev nHouse : List Str := ["_law_row", "_law_most", "_law_size", "_law_part", "_law_doors", "_law_one", "_law_other"]
abbrev nParted : List Str := ["_law_row", "_law_house_here", "_law_top", "_law_rows", "_law_state", "_law_room", "_law_taken_here", "_law_fit", "_law_other", "_law_number"]
theorem ndTaken : nTaken.Nodup := by decide +kernel
theorem ndHouse : nHouse.Nodup := by decide +kernel
theorem ndParted : nParted.Nodup := by decide +kernel
theorem scTaken : FnScope nTaken ["_law_row", "_law_many"] (defScope sTaken) := ⟨rfl, rfl, rfl, by decide +kernel, rfl, by decide +kernel, by decide +kernel⟩
theorem scPick : FnScope nPick ["_law_row", "_law_things"] (defScope sPick) := ⟨rfl, rfl, rfl, by decide +kernel, rfl, by decide +kernel, by decide +kernel⟩
theorem scHouse : FnScope nHouse ["_law_row", "_law_most"] (defScope sHouse) := ⟨rfl, rfl, rfl, by decide +kernel, rfl, by decide +kernel, by decide +kernel⟩
theorem scParted : FnScope nParted ["_law_row", "_law_house_here", "_law_top"] (defScope sParted) := ⟨rfl, rfl, rfl, by decide +kernel, rfl, by decide +kernel, by decide +kernel⟩
/-- the row of draws over the script at S -/
def RowI (H : Hp) (R S : Addr) : Prop := ∃ i z r : Int, H R = some (.lst [.ref S, .int i, .int z, .int r]) ∧ 0 ≤ i ∧ 0 ≤ z ∧ z < 2147483647
structure RowAt (K : PySem.W.Frag) (H : Hp) (R S : Addr) : Prop where
  row : RowI H R S
  scr : ∃ ns : List Int, ∀ H', ExD R H H' → SqL K H' S (ns.map V.int)
theorem seqL_exD {K : PySem.W.Frag} {H H' : Hp} {R a : Addr} {xs : List V} (e : ExD R H H') (n : a ≠ R) (h : SqL K H a xs) : SqL K H' a xs := by
  rcases h with (h | ⟨o, h⟩) | h
  · exact .inl (.inl (e _ _ h n))
  · exact .inl (.inr ⟨o, e _ _ h n⟩)
  · exact .inr h
theorem seqT_exD {K : PySem.W.Frag} {H H' : Hp} {R a : Addr} {xs z : List V} (e : ExD R H H') (n : H R = some (.lst z)) (h : SqT K H a xs) : SqT K H' a xs := by
  rcases h with (h | ⟨o, h⟩) | h
  · exact .inl (.inl (e _ _ h (fun q => by rw [q, n] at h; cases h)))
  · exact .inl (.inr ⟨o, e _ _ h (fun q => by rw [q, n] at h; cases h)⟩)
  · exact .inr h
theorem RowAt.exD {K : PySem.W.Frag} {H H' : Hp} {R S : Addr} (h : RowAt K H R S) (e : ExD R H H') (r : RowI H' R S) : RowAt K H' R S := ⟨r, let ⟨ns, hs⟩ := h.scr; ⟨ns, fun H2 e2 => hs H2 (e.trans e2)⟩⟩
theorem RowI.same {H H' : Hp} {R S : Addr} (h : RowI H R S) (e : Same H H') : RowI H' R S := let ⟨i, z, r, a, b⟩ := h; ⟨i, z, r, e _ _ a, b⟩
theorem RowAt.same {K : PySem.W.Frag} {H H' : Hp} {R S : Addr} (h : RowAt K H R S) (e : Same H H') : RowAt K H' R S := h.exD (Mx.Same.exD e) (h.row.same e)
theorem exD_new {R D : Addr} {H H' : Hp} {o : HO} (e : ExD R H H') (n : H D = none) : ExD R H (upd H' D o) := fun b x h hb => by
  rw [upd_ne (ne_of_none h n)]
  exact e b x h hb
theorem exD_self {R : Addr} {H H' : Hp} {o : HO} (e : ExD R H H') : ExD R H (upd H' R o) := e.trans exD_upd
theorem mod_vi {x m : Int} (h : 0 < m) : ∃ k : Nat, V.int (x % m) = vi k ∧ (k : Int) < m := by
  have h1 := Int.emod_nonneg x (Int.ne_of_gt h)
  have h2 := Int.emod_lt_of_pos x h
  refine ⟨(x % m).toNat, ?_, by omega⟩
  show V.int (x % m) = V.int (((x % m).toNat : Nat) : Int)
  rw [Int.toNat_of_nonneg h1]
theorem nodup_len : ∀ (l m : List Nat), l.Nodup → (∀ x, x ∈ l → x ∈ m) → l.length ≤ m.length
  | [], m, _, _ => Nat.zero_le _
  | a :: l, m, h, hs => by
    obtain ⟨h1, h2⟩ := List.nodup_cons.mp h
    have ha := hs a (by simp)
    have ih := nodup_len l (m.erase a) h2 fun x hx => (List.mem_erase_of_ne (fun e : x = a => h1 (by rw [← e]; exact hx))).mpr (hs x (List.mem_cons_of_mem _ hx))
    rw [List.length_erase_of_mem ha] at ih
    have := List.length_pos_of_mem ha
    rw [List.length_cons]
    omega
theorem free_ne {l : List Nat} {m : Nat} (h : l.length < m) : ((List.range m).filter fun x => !decide (x ∈ l)) ≠ [] := by
  intro e
  have : ∀ x, x ∈ List.range m → x ∈ l := fun x hx => by
    by_cases q : x ∈ l
    · exact q
    · have : x ∈ (List.range m).filter fun x => !decide (x ∈ l) := List.mem_filter.mpr ⟨hx, by simp [q]⟩
      rw [e] at this
      simp at this
  have := nodup_len _ _ List.nodup_range this
  rw [List.length_range] at this
  omega
/-- the doors so far -/
structure DrM (H : Hp) (D : Addr) (ds : List (Nat × Nat)) : Prop where
  ex : ∃ as : List Addr, H D = some (.lst (as.map V.ref)) ∧ as.length = ds.length ∧ ∀ (i : Nat) (d : Nat × Nat), ds[i]? = some d → ∃ p, as[i]? = some p ∧ H p = some (.tup [vi d.1, vi d.2])
theorem DrM.by {H H' : Hp} {D R : Addr} {ds : List (Nat × Nat)} (h : DrM H D ds) (e : ExD R H H') (n : D ≠ R) {z : List V} (hR : H R = some (.lst z)) : DrM H' D ds := by
  obtain ⟨as, h1, h2, h3⟩ := h.ex
  exact ⟨as, e _ _ h1 n, h2, fun i d hi => let ⟨p, a, b⟩ := h3 i d hi; ⟨p, a, e _ _ b (fun q => by rw [q, hR] at b; cases b)⟩⟩
def spTaken (K : PySem.W.Frag) : Sp := fun vs H Q _ => ∃ (R S : Addr) (many : Nat), vs = [.ref R, vi many] ∧ RowAt K H R S ∧ 0 < many ∧ many ≤ 1000000 ∧ ∀ (m : Nat) H', m < many → ExD R H H' → RowI H' R S → Q (vi m) H'
def spPick (K : PySem.W.Frag) : Sp := fun vs H Q _ => ∃ (R S T : Addr) (xs : List V), vs = [.ref R, .ref T] ∧ RowAt K H R S ∧ SqL K H T xs ∧ xs ≠ [] ∧ xs.length ≤ 1000000 ∧ T ≠ R ∧ ∀ x H', x ∈ xs → ExD R H H' → RowI H' R S → Q x H'
def spHouse (K : PySem.W.Frag) : Sp := fun vs H Q _ => ∃ (R S : Addr) (most : Nat), vs = [.ref R, vi most] ∧ RowAt K H R S ∧ 1 ≤ most ∧ most ≤ 5 ∧ ∀ p n ds H', ExD R H H' → RowI H' R S → Hse K H' p n ds → HsOk n ds → n ≤ most → Q (.ref p) H'
def spParted (K : PySem.W.Frag) : Sp := fun vs H Q _ => ∃ (R S a : Addr) (n top : Nat) (ds : List (Nat × Nat)), vs = [.ref R, .ref a, vi top] ∧ RowAt K H R S ∧ Hse K H a n ds ∧ HsOk n ds ∧ top ≤ 10 ∧
  ∀ p st H', ExD R H H' → RowI H' R S → H' p = some (.tup (st.map vi)) → st.length = n → (∀ x, x ∈ st → x ≤ 60) → Parted ds st → Q (.ref p) H'
section
variable {P : Program} {w : World} {K : PySem.W.Frag} {mg : Str → Option Value} {base : Heap}
theorem cd_taken (B : Bz mg) (D : Dfn K mg "_law_taken" sTaken ["_law_row", "_law_many"]) : Cd P w K mg base 1 "_law_taken" ["_law_row", "_law_many"] (spTaken K) := by
  refine cd_of D scTaken (fun vs H Q E h => ?_) (fun f cdv A outer s H vs Q E hr h => ?_)
  · obtain ⟨R, S, many, rfl, _⟩ := h
    rfl
  obtain ⟨R, S, many, rfl, hrow, h0, h1, q⟩ := h
  refine ⟨_, pss_cons (ps_if (pt_cmpR op_gt (pe_ix ix_list (pv 0) pe_int (fun _ _ => rfl)) pe_int rfl)
        (pss_cons (ps_set ndTaken (i := 2) rfl (Or.inl rfl) (pe_op op_mod (pe_callTy call_int1 (by rfl) B.zint b_int (pa_cons (pe_ix ix_list (pv 0) pe_int (fun _ _ => rfl)) pa_nil)) (pv 1)))
          (pss_cons (ps_asg (pe_op op_fdiv (pe_ix ix_list (pv 0) pe_int (fun _ _ => rfl)) (pv 1)) (pg_sub (pv 0) pe_int set_list))
            (pss_one (ps_ret (pv 2))))) pss_nil)
    (pss_cons (ps_asg (pe_op op_add (pe_ix ix_list (pv 0) pe_int (fun _ _ => rfl)) pe_int) (pg_sub (pv 0) pe_int set_list))
      (pss_cons (ps_if (pt_cmpR op_gt (pe_ix ix_list (pv 0) pe_int (fun _ _ => rfl)) (pe_callB call_len_seq (by rfl) B.zlen b_len (pa_cons (pe_ix ix_list (pv 0) pe_int (fun _ _ => rfl)) pa_nil)) rfl)
          (pss_cons (ps_asg (pe_op op_mod (pe_callTy call_int1 (by rfl) B.zint b_int (pa_cons (pe_op op_add (pe_op op_mul (pe_ix ix_list (pv 0) pe_int (fun _ _ => rfl)) pe_int) pe_int) pa_nil)) pe_int) (pg_sub (pv 0) pe_int set_list))
            (pss_one (ps_ret (pe_op op_mod (pe_callTy call_int1 (by rfl) B.zint b_int (pa_cons (pe_op op_fdiv (pe_ix ix_list (pv 0) pe_int (fun _ _ => rfl)) pe_int) pa_nil)) (pv 1))))) pss_nil)
        (pss_cons (ps_set ndTaken (i := 3) rfl (Or.inl rfl) (pe_ix ix_list (pe_ix ix_list (pv 0) pe_int (fun _ _ => rfl)) (pe_op op_sub (pe_ix ix_list (pv 0) pe_int (fun _ _ => rfl)) pe_int) (fun _ _ => rfl)))
          (pss_cons (ps_asg (pe_op op_mod (pe_callTy call_int1 (by rfl) B.zint b_int (pa_cons (pe_op op_add (pe_op op_add (pe_op op_mul (pe_ix ix_list (pv 0) pe_int (fun _ _ => rfl)) pe_int) (pv 3)) pe_int) pa_nil)) pe_int) (pg_sub (pv 0) pe_int set_list))
            (pss_cons (ps_if (pt_cmpR op_ge (pv 3) (pe_op op_pow pe_int pe_int) rfl) (pss_one (ps_asg (pe_op op_fdiv (pv 3) (pv 1)) (pg_sub (pv 0) pe_int set_list))) pss_nil)
              (pss_one (ps_ret (pe_op op_mod (pe_callTy call_int1 (by rfl) B.zint b_int (pa_cons (pv 3) pa_nil)) (pv 1))))))))), ?_⟩
  obtain ⟨⟨i, z, r, hR, hi, hz0, hz1⟩, ⟨ns, hscr⟩⟩ := hrow
  have hm0 : (0 : Int) < (many : Int) := by omega
  have hdiv : CDiv r (many : Int) := ⟨hm0, by omega⟩
  refine ⟨.ref R, rfl, R, _, 3, _, rfl, rfl, SqL.of hR, rfl, r, 0, rfl, rfl, _, rfl, ?_⟩
  refine ite2 (fun c => ?_) (fun c => ?_)
  · refine ⟨.ref R, rfl, R, _, 3, _, rfl, rfl, SqL.of hR, rfl, .inl ⟨r, rfl, vi many, rfl, r, many, rfl, rfl, hm0, ?_⟩⟩
    refine ⟨.ref R, rfl, R, _, 3, _, rfl, rfl, SqL.of hR, rfl, vi many, rfl, r, many, rfl, rfl, hdiv, .ref R, rfl, R, _, 3, 3, rfl, rfl, hR, rfl, ?_⟩
    obtain ⟨k, ek, hk⟩ := mod_vi (x := r) hm0
    refine ⟨_, rfl, qEq (q k _ (by omega) exD_upd ⟨i, z, _, upd_same, hi, hz0, hz1⟩) ek.symm⟩
  · refine ⟨.ref R, rfl, R, _, 1, _, rfl, rfl, SqL.of hR, rfl, i, 1, rfl, rfl, .ref R, rfl, R, _, 1, 1, rfl, rfl, hR, rfl, ?_⟩
    have hR1 : (upd H R (.lst ([V.ref S, .int i, .int z, .int r].set 1 (.int (i + 1))))) R = some (.lst [.ref S, .int (i + 1), .int z, .int r]) := upd_same
    have e1 : ExD R H (upd H R (.lst ([V.ref S, .int i, .int z, .int r].set 1 (.int (i + 1))))) := exD_upd
    have hS1 := hscr _ e1
    refine ⟨.ref R, rfl, R, _, 1, _, rfl, rfl, SqL.of hR1, rfl, .ref R, rfl, R, _, 0, _, rfl, rfl, SqL.of hR1, rfl, S, _, rfl, .inl hS1, i + 1, _, rfl, rfl, _, rfl, ?_⟩
    rw [List.length_map]
    refine ite2 (fun c2 => ?_) (fun c2 => ?_)
    · refine ⟨.ref R, rfl, R, _, 2, _, rfl, rfl, SqL.of hR1, rfl, z, 48271, rfl, rfl, .inl ⟨by omega, by omega⟩, _, 11, rfl, rfl, .inl ⟨_, rfl, _, 2147483647, rfl, rfl, (by decide : (0 : Int) < 2147483647), .ref R, rfl, R, _, 2, 2, rfl, rfl, hR1, rfl, ?_⟩⟩
      refine ⟨.ref R, rfl, R, _, 2, _, rfl, rfl, SqL.of upd_same, rfl, _, 7, rfl, rfl, ⟨by decide, by decide⟩, .inl ⟨_, rfl, vi many, rfl, _, many, rfl, rfl, hm0, ?_⟩⟩
      obtain ⟨k, ek, hk⟩ := mod_vi (x := (z * 48271 + 11) % 2147483647 / 7) hm0
      refine qEq (q k _ (by omega) (exD_self e1) ⟨i + 1, _, r, upd_same, by omega, Int.emod_nonneg _ (by decide), Int.emod_lt_of_pos _ (by decide)⟩) ek.symm
    · have c3 : ¬ ((ns.length : Int) < i + 1) := of_decide_eq_false (Bool.eq_false_iff.mpr c2)
      have hix : i.toNat < ns.length := by omega
      have hcell : atI (ns.map V.int) (i + 1 - 1) = some (.int (ns[i.toNat])) := by
        have e : i + 1 - 1 = ((i.toNat : Nat) : Int) := by omega
        rw [e]
        exact at_nat (map_get (List.getElem?_eq_getElem hix))
      refine ⟨.ref R, rfl, R, _, 0, _, rfl, rfl, SqL.of hR1, rfl, .ref R, rfl, R, _, 1, _, rfl, rfl, SqL.of hR1, rfl, i + 1, 1, rfl, rfl, S, _, _, _, rfl, rfl, hS1, hcell, ?_⟩
      refine ⟨.ref R, rfl, R, _, 2, _, rfl, rfl, SqL.of hR1, rfl, z, 48271, rfl, rfl, .inl ⟨by omega, by omega⟩, _, rfl, _, _, rfl, rfl, _, 11, rfl, rfl, .inl ⟨_, rfl, _, 2147483647, rfl, rfl, (by decide : (0 : Int) < 2147483647), .ref R, rfl, R, _, 2, 2, rfl, rfl, hR1, rfl, ?_⟩⟩
      refine ⟨_, rfl, 10, 18, rfl, rfl, ⟨by decide, by decide, by decide⟩, _, _, rfl, rfl, _, rfl, ?_⟩
      obtain ⟨k, ek, hk⟩ := mod_vi (x := ns[i.toNat]) hm0
      refine ite2 (fun c4 => ?_) (fun c4 => ?_)
      · refine ⟨_, rfl, vi many, rfl, _, many, rfl, rfl, ⟨hm0, by omega⟩, .ref R, rfl, R, _, 3, 3, rfl, rfl, upd_same, rfl, ?_⟩
        refine ⟨_, rfl, .inl ⟨_, rfl, vi many, rfl, _, many, rfl, rfl, hm0, ?_⟩⟩
        exact qEq (q k _ (by omega) (exD_self (exD_self e1)) ⟨i + 1, _, _, upd_same, by omega, Int.emod_nonneg _ (by decide), Int.emod_lt_of_pos _ (by decide)⟩) ek.symm
      · refine ⟨_, rfl, .inl ⟨_, rfl, vi many, rfl, _, many, rfl, rfl, hm0, ?_⟩⟩
        exact qEq (q k _ (by omega) (exD_self e1) ⟨i + 1, _, _, upd_same, by omega, Int.emod_nonneg _ (by decide), Int.emod_lt_of_pos _ (by decide)⟩) ek.symm
theorem cd_pick (B : Bz mg) (D : Dfn K mg "_law_pick" sPick ["_law_row", "_law_things"]) (C1 : Cd P w K mg base 1 "_law_taken" ["_law_row", "_law_many"] (spTaken K)) : Cd P w K mg base 2 "_law_pick" ["_law_row", "_law_things"] (spPick K) := by
  refine cd_of D scPick (fun vs H Q E h => ?_) (fun f cdv A outer s H vs Q E hr h => ?_)
  · obtain ⟨R, S, T, xs, rfl, _⟩ := h
    rfl
  obtain ⟨R, S, T, xs, rfl, hrow, hT, hne, hl, hTR, q⟩ := h
  refine ⟨_, pss_one (ps_ret (pe_ix ix_list (pv 1) (pe_cd C1 hr (pa_cons (pv 0) (pa_cons (pe_callB call_len_seq (by rfl) B.zlen b_len (pa_cons (pv 1) pa_nil)) pa_nil))) (fun _ _ => rfl))), ?_⟩
  have hp : 0 < xs.length := List.length_pos_iff.mpr hne
  refine ⟨.ref T, rfl, .ref R, rfl, .ref T, rfl, T, xs, rfl, .inl hT, R, S, xs.length, rfl, hrow, hp, hl, fun m H1 hm e1 r1 => ?_⟩
  exact ⟨T, xs, m, xs[m], rfl, rfl, seqL_exD e1 hTR hT, at_nat (List.getElem?_eq_getElem hm), q _ H1 (List.getElem_mem hm) e1 r1⟩
theorem cd_house (B : Bz mg) (D : Dfn K mg "_law_house" sHouse ["_law_row", "_law_most"]) (C1 : Cd P w K mg base 1 "_law_taken" ["_law_row", "_law_many"] (spTaken K)) : Cd P w K mg base 2 "_law_house" ["_law_row", "_law_most"] (spHouse K) := by
  refine cd_of D scHouse (fun vs H Q E h => ?_) (fun f cdv A outer s H vs Q E hr h => ?_)
  · obtain ⟨R, S, most, rfl, _⟩ := h
    rfl
  obtain ⟨R, S, most, rfl, hrow, hm1, hm5, q⟩ := h
  refine ⟨_, pss_cons (ps_set ndHouse (i := 2) rfl (Or.inl rfl) (pe_op op_add pe_int (pe_cd C1 hr (pa_cons (pv 0) (pa_cons (pv 1) pa_nil)))))
    (pss_cons (ps_par (i := 3) (j := 4) rfl ndHouse rfl rfl (by decide) rfl rfl (pa_cons (pe_op op_add pe_int (pe_cd C1 hr (pa_cons (pv 0) (pa_cons pe_int pa_nil)))) (pa_cons (pe_lst pa_nil) pa_nil)) rfl)
      (pss_cons (ps_for PassesOwn.never rfl (pi_range1 (by rfl) B.zrange (pa_cons (pv 2) pa_nil)) (pg_name ndHouse (i := 5) rfl (Or.inl rfl))
          (pss_one (ps_for PassesOwn.never rfl (pi_range2 (by rfl) B.zrange (pa_cons (pe_op op_add (pv 5) pe_int) (pa_cons (pv 2) pa_nil))) (pg_name ndHouse (i := 6) rfl (Or.inl rfl))
            (pss_one (ps_if (pt_cmpR op_lt (pe_cd C1 hr (pa_cons (pv 0) (pa_cons pe_int pa_nil))) (pv 3) rfl)
              (pss_one (ps_expr (pe_bm PySem.F.plainAttrs_list PySem.F.slot_list_append PySem.F.type_list_append mt_append (pv 4) (pa_cons (pe_tup (pa_cons (pv 5) (pa_cons (pv 6) pa_nil))) pa_nil)))) pss_nil)))))
        (pss_one (ps_ret (pe_tup (pa_cons (pv 2) (pa_cons (pe_callTy call_tuple_of (by rfl) B.ztuple b_tuple (pa_cons (pv 4) pa_nil)) pa_nil))))))), ?_⟩
  refine ⟨.ref R, rfl, vi most, rfl, R, S, most, rfl, hrow, by omega, by omega, fun m1 H1 hm1' e1 r1 => ?_⟩
  refine ⟨1, m1, rfl, rfl, ?_⟩
  have hrow1 := hrow.exD e1 r1
  refine ⟨.ref R, rfl, R, S, 4, rfl, hrow1, by decide, by decide, fun m2 H2 hm2 e2 r2 => ?_⟩
  refine ⟨1, m2, rfl, rfl, Nat.zero_le _, fun D nD => ⟨_, _, rfl, ?_⟩⟩
  have e12 := e1.trans e2
  obtain ⟨i0, z0, q0, hR0, hb0⟩ := hrow.row
  obtain ⟨i2, z2, q2, hR2, hb2⟩ := id r2
  have nD0 : H D = none := by
    cases e : H D with
    | none => rfl
    | some o =>
      by_cases q : D = R
      · rw [q, hR2] at nD; cases nD
      · rw [e12 _ _ e q] at nD; cases nD
  have hDR : D ≠ R := fun e => by rw [e, hR0] at nD0; cases nD0
  have e13 : ExD R H (upd H2 D (.lst [])) := exD_new e12 nD0
  generalize hn : 1 + m1 = n
  have en : (1 : Int) + (m1 : Int) = (n : Int) := by omega
  have rowI_upd : ∀ {H' : Hp} {o : HO}, RowI H' R S → RowI (upd H' D o) R S := fun {H' o} ⟨i, z, r, a, b⟩ => ⟨i, z, r, by rw [upd_ne (Ne.symm hDR)]; exact a, b⟩
  refine ⟨.int (1 + (m1 : Int)), rfl, (n : Int), by rw [en], by omega, by omega, ?_⟩
  rw [show (n : Int).toNat = n from Int.toNat_natCast n]
  refine for_range (fun i σ H' => (∃ u v, σ = [some (.ref R), some (vi most), some (vi n), some (.int (1 + (m2 : Int))), some (.ref D), u, v]) ∧ ExD R H H' ∧ RowI H' R S ∧ ∃ ds, DrM H' D ds ∧ ds.length ≤ i * 5 ∧ (∀ d, d ∈ ds → d.1 < d.2 ∧ d.2 < n ∧ d.1 < i) ∧ ds.Pairwise fun a b => a.1 < b.1 ∨ (a.1 = b.1 ∧ a.2 < b.2)) ?_ (fun i σ H' hi h => ?_) (fun σ H' h => ?_)
  · refine ⟨⟨none, none, ?_⟩, e13, rowI_upd r2, [], ⟨[], upd_same, rfl, fun i d h => by simp at h⟩, Nat.zero_le _, fun d hd => by simp at hd, .nil⟩
    show [some (V.ref R), some (vi most), some (V.int (1 + (m1 : Int))), some (V.int (1 + (m2 : Int))), some (.ref D), none, none] = _
    rw [en]
  · obtain ⟨⟨u, v, rfl⟩, eH, rI, ds, hds, hdl, hda, hdp⟩ := h
    have hnm : n ≤ 5 := by omega
    rw [Int.zero_add]
    refine ⟨_, rfl, i, 1, rfl, rfl, vi n, rfl, (i : Int) + 1, n, rfl, ⟨by omega, by omega, by omega, by omega⟩, ?_⟩
    rw [show ((n : Int) - ((i : Int) + 1)).toNat = n - (i + 1) by omega]
    refine for_range (fun j σ H'' => (∃ v, σ = [some (.ref R), some (vi most), some (vi n), some (.int (1 + (m2 : Int))), some (.ref D), some (vi i), v]) ∧ ExD R H H'' ∧ RowI H'' R S ∧ ∃ ds, DrM H'' D ds ∧ ds.length ≤ i * 5 + j ∧ (∀ d, d ∈ ds → d.1 < d.2 ∧ d.2 < n ∧ (d.1 < i ∨ (d.1 = i ∧ d.2 < i + 1 + j))) ∧ ds.Pairwise fun a b => a.1 < b.1 ∨ (a.1 = b.1 ∧ a.2 < b.2)) ?_ (fun j σ H'' hj h => ?_) (fun σ H'' h => ?_)
    · exact ⟨⟨_, rfl⟩, eH, rI, ds, hds, by omega, fun d hd => let ⟨a, b, c⟩ := hda d hd; ⟨a, b, .inl c⟩, hdp⟩
    · obtain ⟨⟨v, rfl⟩, eH2, rI2, ds2, hds2, hdl2, hda2, hdp2⟩ := h
      have eo : (i : Int) + 1 + (j : Int) = ((i + 1 + j : Nat) : Int) := by omega
      rw [eo]
      refine ⟨.ref R, rfl, R, S, 5, rfl, hrow.exD eH2 rI2, by decide, by decide, fun m3 H3 hm3 e3 r3 => ?_⟩
      obtain ⟨ia, za, qa, hRa, _⟩ := rI2
      have hds3 := hds2.by e3 hDR hRa
      have eH3 := eH2.trans e3
      refine ⟨_, rfl, m3, _, rfl, rfl, _, rfl, ?_⟩
      refine ite2 (fun c => ?_) (fun c => ⟨⟨_, rfl⟩, eH3, r3, ds2, hds3, by omega, fun d hd => ?_, hdp2⟩)
      · obtain ⟨as, h1, h2, h3⟩ := hds3.ex
        refine ⟨.ref D, rfl, .inl ⟨rfl, _, SqL.of h1⟩, vi i, rfl, vi (i + 1 + j), rfl, by show 2 ≤ sizeLine; decide, fun p np => ?_⟩
        have hpD : p ≠ D := fun e => by rw [e, h1] at np; cases np
        obtain ⟨ib, zb, qb, hRb, hb4⟩ := id r3
        have hpR : p ≠ R := fun e => by rw [e, hRb] at np; cases np
        have npH : H p = none := by
          cases e : H p with
          | none => rfl
          | some o => rw [eH3 _ _ e hpR] at np; cases np
        refine ⟨D, _, .ref p, rfl, rfl, by rw [upd_ne (Ne.symm hpD)]; exact h1, by rw [List.length_map, h2]; exact small1000 (by omega), ?_⟩
        have keep : ∀ b o, H3 b = some o → b ≠ D → (upd (upd H3 p (.tup [vi i, vi (i + 1 + j)])) D (.lst (as.map V.ref ++ [V.ref p]))) b = some o := fun b o e hb => by
          rw [upd_ne hb, upd_ne (ne_of_none e np)]
          exact e
        refine ⟨⟨_, rfl⟩, exD_new (exD_new eH3 npH) nD0, ⟨ib, zb, qb, keep _ _ hRb (Ne.symm hDR), hb4⟩, ds2 ++ [(i, i + 1 + j)], ⟨as ++ [p], by rw [upd_same, List.map_append]; rfl, by rw [List.length_append, List.length_append, h2]; rfl, fun m d hd => ?_⟩, by rw [List.length_append]; simp; omega, fun d hd => ?_, ?_⟩
        · by_cases hm : m < ds2.length
          · rw [List.getElem?_append_left hm] at hd
            obtain ⟨pd, a1, a2⟩ := h3 m d hd
            exact ⟨pd, by rw [List.getElem?_append_left (by omega)]; exact a1, keep _ _ a2 (fun e => by rw [e, h1] at a2; cases a2)⟩
          · rw [List.getElem?_append_right (by omega)] at hd
            have hm0 : m - ds2.length = 0 := by
              have := (List.getElem?_eq_some_iff.mp hd).1
              simp at this
              omega
            rw [hm0] at hd
            cases hd
            refine ⟨p, by rw [List.getElem?_append_right (by omega), h2, hm0]; rfl, ?_⟩
            rw [upd_ne hpD, upd_same]
        · rcases List.mem_append.mp hd with hd | hd
          · obtain ⟨a1, a2, a3⟩ := hda2 d hd
            exact ⟨a1, a2, by omega⟩
          · have e : d = (i, i + 1 + j) := by simpa using hd
            rw [e]
            exact ⟨by simp; omega, by simp; omega, by simp⟩
        · refine List.pairwise_append.mpr ⟨hdp2, List.pairwise_singleton _ _, fun a ha b hb => ?_⟩
          have e : b = (i, i + 1 + j) := by simpa using hb
          obtain ⟨a1, a2, a3⟩ := hda2 a ha
          rw [e]
          simp
          omega
      · obtain ⟨a1, a2, a3⟩ := hda2 d hd
        exact ⟨a1, a2, by omega⟩
    · obtain ⟨⟨v, rfl⟩, eH2, rI2, ds2, hds2, hdl2, hda2, hdp2⟩ := h
      exact ⟨⟨_, _, rfl⟩, eH2, rI2, ds2, hds2, by omega, fun d hd => let ⟨a, b, c⟩ := hda2 d hd; ⟨a, b, by omega⟩, hdp2⟩
  · obtain ⟨⟨u, v, rfl⟩, eH, rI, ds, hds, hdl, hda, hdp⟩ := h
    obtain ⟨as, h1, h2, h3⟩ := hds.ex
    refine ⟨vi n, rfl, .ref D, rfl, D, _, rfl, .inl ⟨SqL.of h1, fun t nt => ⟨by show 2 ≤ sizeLine; decide, fun p np => ?_⟩⟩⟩
    have st : Same H' (upd H' t (.tup (as.map V.ref))) := sameN nt
    have sp := st.trans (sameN (o := .tup [vi n, .ref t]) np)
    have htp : t ≠ p := fun e => by rw [← e, upd_same] at np; cases np
    refine q p n ds _ (eH.trans (Mx.Same.exD sp)) (rI.same sp) ⟨t, SqT.of upd_same, as, SqT.of (by rw [upd_ne htp, upd_same]), h2, fun i d hd => let ⟨pd, a, b⟩ := h3 i d hd; ⟨pd, a, SqT.of (sp _ _ b)⟩⟩ ⟨by omega, by omega, by omega, fun d hd => let ⟨a, b, c⟩ := hda d hd; ⟨a, b⟩, hdp⟩ (by omega)
end
end Mx
set_option maxHeartbeats 600000
namespace Mx
open PySem PySem.Spec PyProof.Rows L2
theorem refs_ne {as : List Addr} {S : Addr} {i z r : Int} : as.map V.ref ≠ [.ref S, .int i, .int z, .int r] := by
  intro e
  cases as with
  | nil => simp at e
  | cons a as =>
    cases as with
    | nil => simp at e
    | cons b as => simp at e
theorem vis_ne {l : List Nat} {S : Addr} {i z r : Int} : l.map vi ≠ [.ref S, .int i, .int z, .int r] := by
  intro e
  cases l with
  | nil => simp at e
  | cons a l => simp at e
theorem seqL_exDne {K : PySem.W.Frag} {H H' : Hp} {R a : Addr} {xs z : List V} (e : ExD R H H') (n : H R = some (.lst z)) (ne : xs ≠ z) (h : SqL K H a xs) : SqL K H' a xs := by
  rcases h with (h | ⟨o, h⟩) | h
  · exact .inl (.inl (e _ _ h (fun q => by rw [q, n] at h; cases h; exact ne rfl)))
  · exact .inl (.inr ⟨o, e _ _ h (fun q => by rw [q, n] at h; cases h)⟩)
  · exact .inr h
theorem rws_exD {K : PySem.W.Frag} {H H' : Hp} {R S a : Addr} {rw : List (List Nat)} (e : ExD R H H') (r : RowI H R S) (h : Rws K H a rw) : Rws K H' a rw := by
  obtain ⟨i, z, q, hR, _⟩ := r
  obtain ⟨as, h1, h2, h3⟩ := h
  exact ⟨as, seqL_exDne e hR refs_ne h1, h2, fun i hi => let ⟨p, a, b⟩ := h3 i hi; ⟨p, a, seqL_exDne e hR vis_ne b⟩⟩
theorem hse_exD {K : PySem.W.Frag} {H H' : Hp} {R S a : Addr} {n : Nat} {ds : List (Nat × Nat)} (e : ExD R H H') (r : RowI H R S) (h : Hse K H a n ds) : Hse K H' a n ds := by
  obtain ⟨i, z, q, hR, _⟩ := r
  obtain ⟨t, h0, as, h1, h2, h3⟩ := h
  exact ⟨t, seqT_exD e hR h0, as, seqT_exD e hR h1, h2, fun i d hi => let ⟨p, a, b⟩ := h3 i d hi; ⟨p, a, seqT_exD e hR b⟩⟩
theorem rep_zero (n : Nat) : (List.replicate n [V.int 0]).flatten = (List.replicate n 0).map vi := by
  induction n with
  | zero => rfl
  | succ n ih =>
    rw [List.replicate_succ, List.flatten_cons, ih, List.replicate_succ, List.map_cons]
    rfl
theorem ixN_nat2 {n i : Nat} (h : i < n) : ixN n (i : Int) = some i := by
  unfold ixN
  rw [if_pos (by omega), if_pos (by omega), Int.toNat_natCast]
section
variable {P : Program} {w : World} {K : PySem.W.Frag} {mg : Str → Option Value} {base : Heap}
theorem cd_parted (B : Bz mg) (D : Dfn K mg "_law_parted" sParted ["_law_row", "_law_house_here", "_law_top"]) (C1 : Cd P w K mg base 2 "_law_pick" ["_law_row", "_law_things"] (spPick K)) (C2 : Cd P w K mg base 1 "_law_near" ["_law_house_here"] (spLNear K)) :
    Cd P w K mg base 3 "_law_parted" ["_law_row", "_law_house_here", "_law_top"] (spParted K) := by
  refine cd_of D scParted (fun vs H Q E h => ?_) (fun f cdv A outer s H vs Q E hr h => ?_)
  · obtain ⟨R, S, a, n, top, ds, rfl, _⟩ := h
    rfl
  obtain ⟨R, S, a, n, top, ds, rfl, hrow, hH, hok, htop, q⟩ := h
  refine ⟨_, pss_cons (ps_asg (pe_tup (pa_cons (pe_cd C2 (hr.mono (by decide)) (pa_cons (pv 1) pa_nil)) (pa_cons (pe_op op_rep (pe_lst (pa_cons pe_int pa_nil)) (pe_ix ix_tup (pv 1) pe_int (fun _ _ => rfl))) pa_nil)))
        (pg_tup rfl (pgs_cons (pg_name ndParted (i := 3) rfl (by first | exact Or.inl rfl | exact Or.inr rfl)) (pgs_cons (pg_name ndParted (i := 4) rfl (by first | exact Or.inl rfl | exact Or.inr rfl)) pgs_nil))))
    (pss_cons (ps_for PassesOwn.never rfl (pi_range1 (by rfl) B.zrange (pa_cons (pe_ix ix_tup (pv 1) pe_int (fun _ _ => rfl)) pa_nil)) (pg_name ndParted (i := 5) rfl (Or.inr rfl))
        (pss_cons (ps_set ndParted (i := 6) rfl (Or.inr rfl) (pe_lc (own := [("_law_other", 8)]) rfl ndParted (pi_list (pe_ix ix_list (pv 3) (pv 5) (fun _ _ => rfl))) (blkOk_by (N := nParted) (sc := defScope sParted) (by decide +kernel)) (fun s H C cl fp => pg_name ndParted (i := 8) rfl (Or.inl rfl))
            (fun s H C cl fp => pts_one (pt_cmpR op_lt (pv 8) (pv 5) rfl)) (fun s H C cl fp => pe_ix (ix_list : IxR _ (rIxL K)) (pv 4) (pv 8) (fun _ _ => rfl))))
          (pss_cons (ps_setLc (own := [("_law_number", 9)]) (i := 7) rfl ndParted rfl rfl (sw_true rfl rfl rfl rfl) (pi_range1 (by rfl) B.zrange (pa_cons (pe_op op_add (pe_op op_add (pv 2) pe_int) (pe_callB call_len_seq (by rfl) B.zlen b_len (pa_cons (pv 6) pa_nil))) pa_nil)) (blkOk_by (N := nParted) (sc := defScope sParted) (by decide +kernel)) (fun s H C cl fp => pg_name ndParted (i := 9) rfl (Or.inl rfl))
              (fun s H C cl fp => pts_one (pt_cmpR (op_notIn_seq : OpR _ _ (rIn K true)) (pv 9) (pv 6) rfl)) (fun s H C cl fp => pv 9))
            (pss_one (ps_asg (pe_cd C1 hr (pa_cons (pv 0) (pa_cons (pv 7) pa_nil))) (pg_sub (pv 4) (pv 5) set_list))))))
      (pss_one (ps_ret (pe_callTy call_tuple_of (by rfl) B.ztuple b_tuple (pa_cons (pv 4) pa_nil))))), ?_⟩
  have hn8 := hok.n8
  have hlen := hok.len
  obtain ⟨t, hT, hDs⟩ := id hH
  refine ⟨.ref a, rfl, n, a, ds, rfl, hH, hok, fun rr H1 s1 h1 => ?_⟩
  have hrow1 := hrow.same s1
  refine ⟨by show 1 ≤ sizeLine; decide, fun l0 nl0 => ?_⟩
  have s0 : Same H1 (upd H1 l0 (.lst [V.int 0])) := sameN nl0
  refine ⟨.ref a, rfl, a, _, 0, _, rfl, rfl, sameT (s1.trans s0) hT, rfl, l0, n, _, rfl, rfl, upd_same, by omega, by omega, ?_, fun L nL => ?_⟩
  · rw [Int.toNat_natCast]
    show 1 * n ≤ sizeLine
    exact Nat.le_of_lt (small1000 (by omega))
  rw [Int.toNat_natCast, rep_zero]
  have sL : Same (upd H1 l0 (.lst [V.int 0])) (upd (upd H1 l0 (.lst [V.int 0])) L (.lst ((List.replicate n 0).map vi))) := sameN nL
  refine ⟨by show 2 ≤ sizeLine; decide, fun T nT => ?_⟩
  refine pair_nm (SqT.of upd_same) ?_
  -- the base of the loop
  generalize hH2 : upd H1 l0 (.lst [V.int 0]) = H2 at *
  have sT : Same (upd H2 L (.lst ((List.replicate n 0).map vi))) (upd (upd H2 L (.lst ((List.replicate n 0).map vi))) T (.tup [.ref rr, .ref L])) := sameN nT
  have s2 : Same H H2 := s1.trans s0
  have hrow2 : RowAt K H2 R S := hrow1.same s0
  have hR2 : Rws K H2 rr (nearU n ds) := sameRws s0 h1
  obtain ⟨i2, z2, q2, hRr2, hb2⟩ := id hrow2.row
  have hLR : L ≠ R := fun e => by rw [e, hRr2] at nL; cases nL
  have e0 : ExD R H2 (upd (upd H2 L (.lst ((List.replicate n 0).map vi))) T (.tup [.ref rr, .ref L])) := Mx.Same.exD (sL.trans sT)
  have hL0 := sT _ _ (show (upd H2 L (.lst ((List.replicate n 0).map vi))) L = _ from upd_same)
  refine ⟨.ref a, rfl, a, _, 0, _, rfl, rfl, sameT (s2.trans (sL.trans sT)) hT, rfl, n, rfl, by omega, by omega, ?_⟩
  rw [show (n : Int).toNat = n from Int.toNat_natCast n]
  refine for_range (fun i σ H' => (∃ u v w x y, σ = [some (.ref R), some (.ref a), some (vi top), some (.ref rr), some (.ref L), u, v, w, x, y]) ∧ ExD R H2 H' ∧ RowI H' R S ∧ ∃ st : List Nat, H' L = some (.lst (st.map vi)) ∧ st.length = n ∧ (∀ x, x ∈ st → x ≤ 60) ∧ ∀ d, d ∈ ds → d.2 < i → st.getD d.1 0 ≠ st.getD d.2 0) ?_ (fun i σ H' hi h => ?_) (fun σ H' h => ?_)
  · refine ⟨⟨_, _, _, _, _, rfl⟩, e0, hrow2.row.same (sL.trans sT), List.replicate n 0, hL0, List.length_replicate, fun x hx => ?_, fun d hd h => absurd h (Nat.not_lt_zero _)⟩
    rw [(List.mem_replicate.mp hx).2]
    omega
  · obtain ⟨⟨u, v, w', x', y', rfl⟩, eH, rI, st, hL, hst, h60, hdp⟩ := h
    rw [Int.zero_add]
    have hrowH := hrow2.exD eH rI
    have hRH := rws_exD eH hrow2.row hR2
    obtain ⟨as, p, g1, g2, g3⟩ := rws_get hRH (x := i) (by rw [nearU_len]; exact hi)
    rw [nearU_get hi] at g3
    have hrl := nb_len hok i
    refine ⟨.ref rr, rfl, vi i, rfl, rr, as, _, .ref p, rfl, rfl, g1, g2, p, rfl, ⟨_, g3⟩, ?_⟩
    have hgr : ∀ y, y ∈ nb ds i → y < n := fun y hy => by
      obtain ⟨d, hd, e⟩ := mem_nb.mp hy
      obtain ⟨l1, l2⟩ := hok.lt d hd
      rw [nbr_iff l1] at e
      omega
    refine lcL (xs := (nb ds i).map vi) (fun j => if decide ((nb ds i).getD j 0 < i) = true then some (vi (st.getD ((nb ds i).getD j 0) 0)) else none) g3 (by rw [List.length_map]; omega) (fun j y H3 hy s3 N k1 k2 => ?_) (fun M H3 nM s3 hM => ?_)
    · obtain ⟨hj, rfl⟩ := get_vi hy
      rw [getD_of (List.getElem?_eq_getElem hj)] at k1 k2
      have hyn := hgr _ (List.getElem_mem hj)
      refine ⟨rfl, ?_⟩
      refine ⟨_, rfl, vi i, rfl, _, _, rfl, rfl, _, rfl, ?_⟩
      rw [dec_nat_lt]
      refine ite2 (fun z => ?_) (fun z => k2 _ (if_neg z) (Same.refl _))
      exact ⟨.ref L, rfl, _, rfl, L, _, _, _, rfl, rfl, SqL.of (s3 _ _ hL), at_vi (by omega), k1 _ _ (if_pos z) (Same.refl _)⟩
    generalize htk : ((nb ds i).filter fun y => decide (y < i)).map (fun y => st.getD y 0) = tk
    have eM : ((List.range ((nb ds i).map vi).length).filterMap fun j => if decide ((nb ds i).getD j 0 < i) = true then some (vi (st.getD ((nb ds i).getD j 0) 0)) else none) = tk.map vi := by
      rw [List.length_map, fm_filter (fun j => decide ((nb ds i).getD j 0 < i)) (fun j => vi (st.getD ((nb ds i).getD j 0) 0)), ← htk, List.map_map]
      exact range_fm 0 (fun y => decide (y < i)) (fun y => vi (st.getD y 0)) (nb ds i)
    rw [eM] at hM
    have htkl : tk.length ≤ 28 := by
      rw [← htk, List.length_map]
      exact Nat.le_trans (List.length_filter_le _ _) hrl
    refine ⟨vi top, rfl, top, 1, rfl, rfl, .ref M, rfl, M, _, rfl, .inl (SqL.of hM), _, _, rfl, rfl, _, rfl, ?_, ?_, ?_⟩
    · rw [List.length_map]; omega
    · rw [List.length_map]; omega
    rw [List.length_map, show ((top : Int) + 1 + (tk.length : Int)).toNat = top + 1 + tk.length by omega]
    refine lcR (fun m => if (!decide (m ∈ tk)) = true then some (vi m) else none) (by omega) (fun m H4 hm s4 N k1 k2 => ?_) (fun F H4 nF s4 hF => ?_)
    · refine ⟨rfl, ?_⟩
      refine ⟨vi m, rfl, .ref M, rfl, notin_op (.inr (SqL.of (s4 _ _ hM))) ⟨_, rfl, ?_⟩⟩
      exact ite2 (fun z => ⟨vi m, rfl, k1 _ _ (if_pos z) (Same.refl _)⟩) (fun z => k2 _ (if_neg z) (Same.refl _))
    rw [fm_filter (fun m => !decide (m ∈ tk)) vi] at hF
    have hfne := free_ne (l := tk) (m := top + 1 + tk.length) (by omega)
    have s34 := s3.trans s4
    have hrow4 := hrowH.same s34
    obtain ⟨i4, z4, q4, hR4, hb4⟩ := id hrow4.row
    have hFR : F ≠ R := fun e => by rw [e, (hrowH.same s3).row.choose_spec.choose_spec.choose_spec.1] at nF; cases nF
    refine ⟨.ref R, rfl, .ref F, rfl, R, S, F, _, rfl, hrow4, SqL.of hF, fun e => hfne (List.map_eq_nil_iff.mp e), ?_, hFR, fun x H5 hx e5 r5 => ?_⟩
    · rw [List.length_map]
      refine Nat.le_trans (List.length_filter_le _ _) ?_
      rw [List.length_range]
      omega
    obtain ⟨vv, hv, rfl⟩ := List.mem_map.mp hx
    obtain ⟨hv1, hv2⟩ := List.mem_filter.mp hv
    have hv1 := List.mem_range.mp hv1
    have hv2 : vv ∉ tk := by simpa using hv2
    have hL5 := e5 _ _ (s34 _ _ hL) hLR
    refine ⟨.ref L, rfl, vi i, rfl, L, _, i, i, rfl, rfl, hL5, by rw [List.length_map]; exact ixN_nat2 (by omega), ?_⟩
    have eset : (st.map vi).set i (vi vv) = (st.set i vv).map vi := by rw [List.map_set]
    rw [eset]
    have r6 : RowI (upd H5 L (.lst ((st.set i vv).map vi))) R S := by
      obtain ⟨ia, za, qa, ha, hb⟩ := r5
      exact ⟨ia, za, qa, by rw [upd_ne (Ne.symm hLR)]; exact ha, hb⟩
    have nLH2 : H2 L = none := nL
    refine ⟨⟨_, _, _, _, _, rfl⟩, exD_new ((eH.trans (Mx.Same.exD s34)).trans e5) nLH2, r6, st.set i vv, upd_same, by rw [List.length_set]; exact hst, fun x hx => ?_, fun d hd hlt => ?_⟩
    · rcases List.mem_or_eq_of_mem_set hx with hx | hx
      · exact h60 x hx
      · rw [hx]; omega
    · obtain ⟨l1, l2⟩ := hok.lt d hd
      have gd : ∀ y, y < n → (st.set i vv).getD y 0 = if y = i then vv else st.getD y 0 := fun y hy => by
        rw [List.getD_eq_getElem?_getD]
        by_cases e : y = i
        · rw [e, List.getElem?_set_self (by omega), if_pos rfl]
          rfl
        · rw [List.getElem?_set_ne (Ne.symm e), if_neg e, List.getD_eq_getElem?_getD]
      rw [gd d.1 (by omega), gd d.2 l2, if_neg (by omega)]
      by_cases e : d.2 = i
      · rw [if_pos e]
        intro q
        refine hv2 ?_
        rw [← htk]
        refine List.mem_map.mpr ⟨d.1, List.mem_filter.mpr ⟨mem_nb.mpr ⟨d, hd, (nbr_iff l1).mpr (.inr ⟨rfl, e⟩)⟩, by simp; omega⟩, q⟩
      · rw [if_neg e]
        exact hdp d hd (by omega)
  · obtain ⟨⟨u, v, w', x', y', rfl⟩, eH, rI, st, hL, hst, h60, hdp⟩ := h
    refine ⟨.ref L, rfl, L, _, rfl, .inl ⟨SqL.of hL, fun p np => ?_⟩⟩
    exact q p st _ (((Mx.Same.exD s2).trans eH).trans (Mx.Same.exD (sameN np))) (rI.same (sameN np)) upd_same hst h60 fun d hd => hdp d hd (hok.lt d hd).2
end
end Mx
set_option maxHeartbeats 1000000
namespace Mx
open PySem PySem.Spec PyProof.Rows L2
/-! ### data of rows of waves -/
theorem lay_W : ∀ W : List (List Nat), PyData.canLayAll0 (dW W) = true
  | [] => by simp [PyData.canLayAll0]
  | r :: W => by
    have ih := lay_W W
    have e : PyData.canLayAll0 (dW (r :: W)) = (PyData.canLay0 (.tuple (dN r)) && PyData.canLayAll0 (dW W)) := by
      show PyData.canLayAll0 (_ :: _) = _
      rw [PyData.canLayAll0]
    rw [e, ih, PyData.canLay0, lay_dN]
    rfl
theorem shp_W (W : List (List Nat)) : SeqAt.shaped (.tuple (dW W)) = true := by
  unfold SeqAt.shaped
  have h := depth_W W
  rw [PyData.canLay0, lay_W, PyData.depth, Bool.true_and]
  exact decide_eq_true (by omega)
theorem eqv_W (W : List (List Nat)) : PyData.eqv (.tuple (dW W)) (.tuple (dW W)) = true := SeqAt.eqv_refl _ (by rw [PyData.canLay0, lay_W])
theorem eqv_W0 (W : List (List Nat)) : PyData.eqv (.tuple (dW W)) (.tuple (dN [])) = decide (W = []) := by
  cases W with
  | nil => rw [PyData.eqv]; rfl
  | cons r W =>
    rw [PyData.eqv]
    show PyData.eqvAll (_ :: _) [] = _
    rw [PyData.eqvAll]
    rfl
theorem Wvs.dp {K : PySem.W.Frag} {H : Hp} {a : Addr} {W : List (List Nat)} (h : Wvs K H a W) : Dp K H (.ref a) (.tuple (dW W)) := by
  obtain ⟨bs, h1, h2, h3⟩ := h
  exact .tup h1 (dpW h2 h3)
theorem BT.keep {K : PySem.W.Frag} {H H' : Hp} {a b c : Addr} {n : Nat} {ds : List (Nat × Nat)} {st rest : List Nat} (h : BT K H a b c n ds st rest) (e : Keep H H') : BT K H' a b c n ds st rest := ⟨⟨e.hse h.hs.hs, h.hs.ok, e.seqT h.hs.tn, h.hs.ln, h.hs.le⟩, h.pt, e.seqT h.tr, h.lr, h.fix, h.bel⟩
theorem put_le {st rest r : List Nat} (hl : rest.length = st.length) (h1 : ∀ x, x ∈ st → x ≤ 60) (h2 : ∀ x, x ∈ rest → x ≤ 60) : ∀ x, x ∈ putL st rest r → x ≤ 60 := fun x hx => by
  unfold putL at hx
  obtain ⟨i, hi, e⟩ := List.mem_map.mp hx
  have hi := List.mem_range.mp hi
  rw [← e]
  by_cases q : i ∈ r
  · rw [if_pos q, getD_of (List.getElem?_eq_getElem (show i < rest.length by omega))]
    exact h2 _ (List.getElem_mem _)
  · rw [if_neg q, getD_of (List.getElem?_eq_getElem hi)]
    exact h1 _ (List.getElem_mem _)
theorem drop_get {α : Type} {l : List α} {i : Nat} (h : i < l.length) : l.drop i = l[i] :: l.drop (i + 1) := List.drop_eq_getElem_cons h
abbrev sLaw : Stmt := topS 62
abbrev nLaw : List Str := ["_law_script", "_law_row", "_law_house_here", "_law_state", "_law_rest", "_law_found", "_law_keys", "_law_some", "_law_many", "_law_here", "_law_room"]
theorem ndLaw : nLaw.Nodup := by decide +kernel
theorem scLaw : FnScope nLaw ["_law_script"] (defScope sLaw) := ⟨rfl, rfl, rfl, by decide +kernel, rfl, by decide +kernel, by decide +kernel⟩
def spLaw (K : PySem.W.Frag) (PT : Addr) : Sp := fun vs H Q _ => ∃ (a : Addr) (ns : List Int), vs = [.ref a] ∧ SqL K H a (ns.map V.int) ∧ H PT = some (.tbl #[]) ∧ ∀ H', Q (.bl true) H'
section
variable {P : Program} {w : World} {K : PySem.W.Frag} {mg : Str → Option Value} {base : Heap} {PT : Addr}
theorem ok_law {f : Addr} {fd : FuncData} (F : Fun K "law" "law" sLaw f fd) (B : Bz mg) (C1 : Cd P w K mg base 2 "_law_house" ["_law_row", "_law_most"] (spHouse K)) (C2 : Cd P w K mg base 3 "_law_parted" ["_law_row", "_law_house_here", "_law_top"] (spParted K)) (C3 : Cd P w K mg base 2 "_law_pick" ["_law_row", "_law_things"] (spPick K))
    (C4 : Cd P w K mg base 10 "rests_below" ["house", "state"] (spRestsBelow K)) (C5 : Cd P w K mg base 9 "waves" ["house", "state", "rest"] (spWv K (tqW PT))) (C6 : Cd P w K mg base 8 "fewest_keys" ["house", "state", "rest"] (spFewestKeys K)) (C7 : Cd P w K mg base 6 "at_once" ["house", "state", "rooms"] (spAtOnce K))
    (C8 : Cd P w K mg base 9 "fewest_waves" ["house", "state", "rest"] (spFewestWaves K (tqW PT))) (C9 : Cd P w K mg base 8 "eager_waves" ["house", "state", "rest"] (spEager K)) (C10 : Cd P w K mg base 9 "count_shortest" ["house", "state", "rest"] (spCountShortest K))
    (C11 : Cd P w K mg base 8 "shows_row" ["house", "state", "rest", "value"] (spShowsRow K)) (C12 : Cd P w K mg base 6 "after" ["house", "state", "keys"] (spAfter K)) : FnOk P w K mg base CX0 11 f fd ["_law_script"] (spLaw K PT) := by
  refine F.ok scLaw (fun vs H Q E h => ?_) (fun cdv A outer s H vs Q E hr h => ?_)
  · obtain ⟨a, ns, rfl, _⟩ := h
    rfl
  obtain ⟨a, ns, rfl, hS, hPT, q⟩ := h
  refine ⟨_, pss_cons (ps_set ndLaw (i := 1) rfl (Or.inl rfl) (pe_lst (pa_cons (pv 0) (pa_cons pe_int (pa_cons pe_int (pa_cons pe_int pa_nil))))))
    (pss_cons (ps_set ndLaw (i := 2) rfl (Or.inl rfl) (pe_cd C1 (hr.mono (by decide)) (pa_cons (pv 1) (pa_cons pe_int pa_nil))))
    (pss_cons (ps_set ndLaw (i := 3) rfl (Or.inr rfl) (pe_cd C2 (hr.mono (by decide)) (pa_cons (pv 1) (pa_cons (pv 2) (pa_cons pe_int pa_nil)))))
    (pss_cons (ps_set ndLaw (i := 4) rfl (Or.inr rfl) (pe_cd C3 (hr.mono (by decide)) (pa_cons (pv 1) (pa_cons (pe_cd C4 hr (pa_cons (pv 2) (pa_cons (pv 3) pa_nil))) pa_nil))))
    (pss_cons (ps_set ndLaw (i := 5) rfl (Or.inl rfl) (pe_cd C5 (hr.mono (by decide)) (pa_cons (pv 2) (pa_cons (pv 3) (pa_cons (pv 4) pa_nil)))))
    (pss_cons (ps_set ndLaw (i := 6) rfl (Or.inl rfl) (pe_lst pa_nil))
    (pss_cons (ps_for PassesOwn.never rfl (pi_tup (pv 5)) (pg_name ndLaw (i := 7) rfl (Or.inl rfl)) (pss_one (ps_set ndLaw (i := 6) rfl (Or.inl rfl) (pe_op op_cat (pv 6) (pe_callTy call_list_of (by rfl) B.zlist b_list (pa_cons (pv 7) pa_nil))))))
    (pss_cons (ps_set ndLaw (i := 8) rfl (Or.inl rfl) (pe_cd C6 (hr.mono (by decide)) (pa_cons (pv 2) (pa_cons (pv 3) (pa_cons (pv 4) pa_nil)))))
    (pss_cons (ps_if (pw_or (pt_cmpR op_ne (pe_callB call_len_seq (by rfl) B.zlen b_len (pa_cons (pv 6) pa_nil)) (pv 8) rfl)
        (pw_or1 (pt_cmpR (op_neD hr.units) (pe_callB cr_sortedI (by rfl) B.zsorted b_sorted (pa_cons (pv 6) pa_nil)) (pe_lc (own := [("_law_room", 10)]) rfl ndLaw (pi_range1 (by rfl) B.zrange (pa_cons (pe_ix ix_tup (pv 2) pe_int (fun _ _ => rfl)) pa_nil)) (blkOk_by (N := nLaw) (sc := defScope sLaw) (by decide +kernel))
          (fun s H C cl fp => pg_name ndLaw (i := 10) rfl (Or.inl rfl)) (fun s H C cl fp => pts_one (pt_cmpR op_lt (pe_ix (ix_tup : IxR _ (rIxT K)) (pv 4) (pv 10) (fun _ _ => rfl)) (pe_ix (ix_tup : IxR _ (rIxT K)) (pv 3) (pv 10) (fun _ _ => rfl)) rfl)) (fun s H C cl fp => pv 10)) rfl))).pt (pss_one (ps_ret pe_bl)) pss_nil)
    (pss_cons (ps_set ndLaw (i := 9) rfl (Or.inl rfl) (pv 3))
    (pss_cons (ps_for PassesOwn.never rfl (pi_tup (pv 5)) (pg_name ndLaw (i := 7) rfl (Or.inl rfl)) (pss_one (ps_set ndLaw (i := 9) rfl (Or.inl rfl) (pe_cd C7 (hr.mono (by decide)) (pa_cons (pv 2) (pa_cons (pv 9) (pa_cons (pv 7) pa_nil)))))))
    (pss_cons (ps_if (pt_cmpR (op_neD hr.units) (pv 9) (pv 4) rfl) (pss_one (ps_ret pe_bl)) pss_nil)
    (pss_cons (ps_if (pw_or (pt_cmpR op_gt (pe_callB call_len_seq (by rfl) B.zlen b_len (pa_cons (pv 5) pa_nil)) (pv 8) rfl)
        (pw_or (pt_cmpR op_ne (pe_cmpR op_gt (pv 8) pe_int rfl) (pe_cmpR (op_neD hr.units) (pv 5) (pe_tup pa_nil) rfl) rfl)
          (pw_or1 (pt_cmpR op_ne (pe_callB call_len_seq (by rfl) B.zlen b_len (pa_cons (pv 5) pa_nil)) (pe_cd C8 (hr.mono (by decide)) (pa_cons (pv 2) (pa_cons (pv 3) (pa_cons (pv 4) pa_nil)))) rfl)))).pt (pss_one (ps_ret pe_bl)) pss_nil)
    (pss_cons (ps_if (pw_and (pt_cmpR op_eq (pe_callB call_len_seq (by rfl) B.zlen b_len (pa_cons (pv 5) pa_nil)) pe_int rfl) (pw_and1 (pt_cmpR (op_neD hr.units) (pe_cd C9 (hr.mono (by decide)) (pa_cons (pv 2) (pa_cons (pv 3) (pa_cons (pv 4) pa_nil)))) (pv 5) rfl))).pt (pss_one (ps_ret pe_bl)) pss_nil)
    (pss_cons (ps_if (pw_or (pt_cmpR op_lt (pe_cd C10 (hr.mono (by decide)) (pa_cons (pv 2) (pa_cons (pv 3) (pa_cons (pv 4) pa_nil)))) pe_int rfl)
        (pw_or1 (pw_and (pt_cmpR op_gt (pv 8) pe_int rfl) (pw_and1 (pt_cmpR op_gt (pe_callB (cr_max rfl) (by rfl) B.zmax b_max (pa_cons (pe_lc (own := [("_law_room", 10)]) rfl ndLaw (pi_list (pv 6)) (blkOk_by (N := nLaw) (sc := defScope sLaw) (by decide +kernel)) (fun s H C cl fp => pg_name ndLaw (i := 10) rfl (Or.inl rfl)) (fun s H C cl fp => pts_nil)
          (fun s H C cl fp => pe_ix (ix_tup : IxR _ (rIxT K)) (pv 4) (pv 10) (fun _ _ => rfl))) pa_nil)) (pe_callB (cr_maxT hr.units rfl) (by rfl) B.zmax b_max (pa_cons (pv 3) pa_nil)) rfl))).pt)).pt (pss_one (ps_ret pe_bl)) pss_nil)
    (pss_one (ps_ret (pe_or (pe_not (pe_cd C11 (hr.mono (by decide)) (pa_cons (pv 2) (pa_cons (pv 3) (pa_cons (pv 4) (pa_cons (pe_callTy call_tuple_of (by rfl) B.ztuple b_tuple (pa_cons (pv 6) pa_nil)) pa_nil))))))
        (pe_one (pe_cmpR (op_eqD hr.units) (pe_cd C12 (hr.mono (by decide)) (pa_cons (pv 2) (pa_cons (pv 3) (pa_cons (pe_callTy call_tuple_of (by rfl) B.ztuple b_tuple (pa_cons (pv 6) pa_nil)) pa_nil)))) (pv 4) rfl))))))))))))))))))), ?_⟩
  refine ⟨.ref a, rfl, by show 4 ≤ sizeLine; decide, fun R nR => ?_⟩
  have hPR : PT ≠ R := fun e => by rw [e, nR] at hPT; cases hPT
  have e01 : ExD R H (upd H R (.lst [.ref a, .int 0, .int 6091, .int 0])) := exD_upd
  have hrow1 : RowAt K (upd H R (.lst [.ref a, .int 0, .int 6091, .int 0])) R a := by
    refine ⟨⟨0, 6091, 0, upd_same, by decide, by decide, by decide⟩, ns, fun H' e => ?_⟩
    rcases hS with (h | ⟨o, h⟩) | h
    · exact .inl (.inl (e _ _ (by rw [upd_ne (ne_of_none h nR)]; exact h) (ne_of_none h nR)))
    · exact .inl (.inr ⟨o, e _ _ (by rw [upd_ne (ne_of_none h nR)]; exact h) (ne_of_none h nR)⟩)
    · exact .inr h
  refine ⟨.ref R, rfl, R, a, 5, rfl, hrow1, by decide, by decide, fun hp n ds H2 e2 r2 hH2 hok hn5 => ?_⟩
  have hrow2 := hrow1.exD e2 r2
  refine ⟨.ref R, rfl, .ref hp, rfl, R, a, hp, n, 3, ds, rfl, hrow2, hH2, hok, by decide, fun sp st H3 e3 r3 hst ls h60 hpt => ?_⟩
  have hrow3 := hrow2.exD e3 r3
  have hH3 := hse_exD e3 r2 hH2
  have hs3 : HS K H3 hp sp n ds st := ⟨hH3, hok, SqT.of hst, ls, h60⟩
  refine ⟨.ref R, rfl, .ref hp, rfl, .ref sp, rfl, n, hp, sp, ds, st, rfl, hs3, hpt, hn5, fun L ks H4 s4 hL hkne hkl hks => ?_⟩
  have hrow4 := hrow3.same s4
  obtain ⟨i4, z4, q4, hR4, hb4⟩ := id hrow4.row
  have hLR : L ≠ R := fun e => by
    rw [e, hR4] at hL
    have e := HO.lst.inj (Option.some.inj hL)
    have e2 : ks.map rf = (ks.map (·.1)).map V.ref := by rw [List.map_map]; rfl
    rw [e2] at e
    exact refs_ne e.symm
  refine ⟨R, a, L, ks.map rf, rfl, hrow4, SqL.of hL, fun e => hkne (List.map_eq_nil_iff.mp e), by rw [List.length_map]; exact hkl, hLR, fun x H5 hx e5 r5 => ?_⟩
  obtain ⟨k, hk, rfl⟩ := List.mem_map.mp hx
  obtain ⟨hk1, hway⟩ := hks k hk
  obtain ⟨c, rest⟩ := k
  have hk1 : H4 c = some (.tup (rest.map vi)) := hk1
  have hway : Way n (nearM n ds) rest st := hway
  have hst4 := s4 _ _ hst
  have hst5 : H5 sp = some (.tup (st.map vi)) := e5 _ _ hst4 (fun e => by rw [e, hR4] at hst4; cases hst4)
  have hk5 : H5 c = some (.tup (rest.map vi)) := e5 _ _ hk1 (fun e => by rw [e, hR4] at hk1; cases hk1)
  have hB5 : BT K H5 hp sp c n ds st rest := ⟨⟨hse_exD e5 hrow4.row (sameHse s4 hH3), hok, SqT.of hst5, ls, h60⟩, hpt, SqT.of hk5, hway.lr, hway.fix, hway.bel⟩
  have hPT5 : H5 PT = some (.tbl #[]) := e5 _ _ (s4 _ _ (e3 _ _ (e2 _ _ (e01 _ _ hPT hPR) hPR) hPR)) hPR
  have hT5 : LamX.Tabs (tqW PT) H5 := fun p hp => by
    rw [List.mem_singleton.mp hp]
    exact LamX.TabS.nil hPT5
  refine ⟨.ref hp, rfl, .ref sp, rfl, rf (c, rest), rfl, n, hp, sp, c, ds, st, rest, rfl, hB5, hst5, hn5, hT5, fun fp W H6 k6 t6 hbest hwv => ?_⟩
  have hB6 := hB5.keep k6
  obtain ⟨was, w1, w2, w3⟩ := id hwv
  have hperm := row_flat hway hbest.1
  have hchn : (chL st rest).length ≤ 5 := Nat.le_trans (ch_le hway.lr) hn5
  have hflat : W.flatten.length ≤ 5 := by rw [hperm.length_eq]; exact hchn
  have hWl : W.length ≤ 5 := Nat.le_trans (row_lens hbest.1) hflat
  refine ⟨Nat.zero_le _, fun K0 nK0 => ?_⟩
  have s60 : Same H6 (upd H6 K0 (.lst [])) := sameN nK0
  refine ⟨.ref fp, rfl, fp, rfl, ⟨_, sameT s60 w1⟩, ?_⟩
  refine for_tup (xs := was.map V.ref) (fun i σ H' => ∃ (kk : Addr) (u : Option V), σ = [some (.ref a), some (.ref R), some (.ref hp), some (.ref sp), some (rf (c, rest)), some (.ref fp), some (.ref kk), u, none, none, none] ∧ Same H6 H' ∧ H' kk = some (.lst ((W.take i).flatten.map vi))) ⟨K0, none, rfl, s60, upd_same⟩ (fun i σ H' _ h => let ⟨_, _, _, sm, _⟩ := h; sameT sm w1) (fun i x σ H' hx h => ?_) (fun σ H' h => ?_)
  · obtain ⟨kk, u, rfl, sm, hkk⟩ := h
    obtain ⟨p, hp1, rfl⟩ := get_map hx
    have hi : i < W.length := by
      have := (List.getElem?_eq_some_iff.mp hp1).1
      omega
    obtain ⟨p', hp2, hpt'⟩ := w3 i W[i] (List.getElem?_eq_getElem hi)
    rw [hp1] at hp2
    cases hp2
    refine ⟨.ref kk, rfl, .ref p, rfl, p, _, rfl, .inr (sameT sm hpt'), fun l nl => ?_⟩
    have hkk2 := (sameN (o := .lst (W[i].map vi)) nl) _ _ hkk
    have hlen : (W.take i).flatten.length + W[i].length ≤ 5 := by
      have e := List.take_append_drop i W
      rw [drop_get hi] at e
      have e2 := congrArg (fun z => (List.flatten z).length) e
      simp only [List.flatten_append, List.flatten_cons, List.length_append] at e2
      omega
    refine ⟨kk, l, _, _, rfl, rfl, hkk2, upd_same, by rw [List.length_map, List.length_map]; exact Nat.le_of_lt (small1000 (by omega)), fun k2 nk2 => ?_⟩
    refine ⟨k2, _, rfl, sm.trans ((sameN nl).trans (sameN nk2)), ?_⟩
    have et : W.take (i + 1) = W.take i ++ [W[i]] := by rw [List.take_add_one, List.getElem?_eq_getElem hi]; rfl
    rw [upd_same, et, List.flatten_append, List.map_append]
    simp
  obtain ⟨kk, u, rfl, sm7, hkk⟩ := h
  rw [List.length_map, w2, List.take_length] at hkk
  have hB7 := hB6.same sm7
  refine ⟨.ref hp, rfl, .ref sp, rfl, rf (c, rest), rfl, n, hp, sp, c, ds, st, rest, rfl, hB7, fun H8 s8 => ?_⟩
  have hB8 := hB7.same s8
  have hkk8 := s8 _ _ hkk
  have hw8 : Wvs K H8 fp W := (Keep.of (sm7.trans s8)).wvs hwv
  obtain ⟨t8, hT8, hD8⟩ := hB8.hs.hs
  have hn8 := hok.n8
  refine ⟨.ref kk, rfl, kk, _, rfl, .inl (SqL.of hkk8), vi _, rfl, rfl, _, rfl, ?_⟩
  rw [List.length_map, hperm.length_eq, dec_vi_eq]
  refine iteNS rfl ?_
  refine ⟨.ref kk, rfl, kk, W.flatten.map Int.ofNat, rfl, by rw [← vi_map]; exact SqL.of hkk8, fun zs z hzp hzs nz => ?_⟩
  have ezs := perm_ints hzp hzs
  subst ezs
  have esrt : srt W.flatten = chL st rest := (eq_srt hperm.symm ((ch_asc st rest).imp fun h => Nat.le_of_lt h)).symm
  rw [esrt]
  have s9 : Same H8 (upd H8 z (.lst (((chL st rest).map Int.ofNat).map V.int))) := sameN nz
  refine ⟨.ref hp, rfl, hp, _, 0, _, rfl, rfl, sameT s9 hT8, rfl, n, rfl, by omega, by omega, ?_⟩
  rw [show (n : Int).toNat = n from Int.toNat_natCast n]
  refine chComp hn8 (hB8.same s9).hs.tn (hB8.same s9).tr hB8.lr ls (fun _ => rfl) (fun _ => rfl) (fun _ => rfl) (fun _ => rfl) fun D9 H10 nD9 s10 hD9 => ?_
  refine ne_ll (l := chL st rest) (l' := chL st rest) (by rw [vi_map]; exact SqL.of (s10 _ _ upd_same)) (SqL.of hD9) ⟨_, rfl, ?_⟩
  refine iteNS rfl ?_
  have s810 : Same H8 H10 := s9.trans s10
  have hB10 := hB8.same s810
  have hw10 : Wvs K H10 fp W := (Keep.of s810).wvs hw8
  have hkk10 := s810 _ _ hkk8
  refine ⟨.ref sp, rfl, ?_⟩
  obtain ⟨was2, v1, v2, v3⟩ := id hw10
  refine ⟨.ref fp, rfl, fp, rfl, ⟨_, v1⟩, ?_⟩
  refine for_tup (xs := was2.map V.ref) (fun i σ H' => ∃ (hh : Addr) (u : Option V) (cur : List Nat), σ = [some (.ref a), some (.ref R), some (.ref hp), some (.ref sp), some (rf (c, rest)), some (.ref fp), some (.ref kk), u, some (vi (chL st rest).length), some (.ref hh), none] ∧ Same H10 H' ∧ TN K H' hh cur ∧ Way n (nearM n ds) rest cur ∧ (∀ x, x ∈ cur → x ≤ 60) ∧ IsRow (nearM n ds) rest cur (W.drop i))
    ⟨sp, _, st, rfl, Same.refl _, hB10.hs.tn, hway, h60, by rw [List.drop_zero]; exact hbest.1⟩ (fun i σ H' _ h => let ⟨_, _, _, _, sm, _⟩ := h; sameT sm v1) (fun i x σ H' hx h => ?_) (fun σ H' h => ?_)
  · obtain ⟨hh, u, cur, rfl, sm, hcur, hwc, h60c, hrow⟩ := h
    obtain ⟨p, hp1, rfl⟩ := get_map hx
    have hi : i < W.length := by
      have := (List.getElem?_eq_some_iff.mp hp1).1
      omega
    obtain ⟨p', hp2, hpt'⟩ := v3 i W[i] (List.getElem?_eq_getElem hi)
    rw [hp1] at hp2
    cases hp2
    rw [drop_get hi] at hrow
    obtain ⟨a1, a2, a3, a4⟩ := hrow
    have hBc := hB10.same sm
    refine ⟨.ref hp, rfl, .ref hh, rfl, .ref p, rfl, n, hp, hh, p, ds, cur, rest, W[i], rfl, ⟨hBc.hs.hs, hok, hcur, hwc.ls, h60c⟩, sameT sm hpt', a2, fun x hx => ?_, fun x hx => (mem_fit.mp (a3 x hx)).2.2, fun p3 H11 s11 h11 => ?_⟩
    · have := (mem_fit.mp (a3 x hx)).1
      rw [hwc.lr] at this
      exact this
    · exact ⟨p3, _, putL cur rest W[i], rfl, sm.trans s11, h11, way_put hwc _, put_le (hwc.lr.trans hwc.ls.symm) h60c hB10.rest.le, a4⟩
  obtain ⟨hh, u2, cur, rfl, sm11, hcur, hwc, h60c, hrow⟩ := h
  rw [List.length_map, v2, List.drop_length] at hrow
  have hcr : cur = rest := hrow
  subst hcr
  have hB11 := hB10.same sm11
  refine ⟨.ref hh, rfl, rf (c, cur), rfl, ne_tt hcur hB11.tr ⟨_, rfl, ?_⟩⟩
  refine iteNS rfl ?_
  have hw11 : Wvs K H' fp W := (Keep.of sm11).wvs hw10
  obtain ⟨was3, x1, x2, x3⟩ := id hw11
  have hkk11 := sm11 _ _ hkk10
  have hst11 : H' sp = some (.tup (st.map vi)) := sm11 _ _ (s810 _ _ (s8 _ _ (sm7 _ _ (k6.tup hst5))))
  have hWm : W.length ≤ (chL st cur).length := by
    have := row_lens hbest.1
    rw [hperm.length_eq] at this
    exact this
  refine ⟨.ref fp, rfl, fp, _, rfl, .inr x1, vi _, rfl, _, _, rfl, rfl, _, rfl, ?_⟩
  rw [List.length_map, x2, dec_nat_lt, decide_eq_false (by omega)]
  refine iteF ?_
  refine ⟨vi _, rfl, _, 0, rfl, rfl, .ref fp, rfl, Nat.zero_le _, fun z2 nz2 => ?_⟩
  have s12 : Same H' (upd H' z2 (.tup [])) := sameN nz2
  have hw12 : Wvs K (upd H' z2 (.tup [])) fp W := (Keep.of s12).wvs hw11
  refine ⟨_, _, hw12.dp, dp_t (l := []) (SqT.of upd_same), shp_W W, shp_t [], rfl, _, rfl, ?_⟩
  rw [eqv_W0]
  have eb : decide ((0 : Int) < ((chL st cur).length : Int)) = !decide (W = []) := by
    by_cases e : W = []
    · have e2 : (chL st cur).length = 0 := by rw [← hperm.length_eq, e]; rfl
      rw [decide_eq_true e, decide_eq_false (by omega)]
      rfl
    · have : 0 < W.length := List.length_pos_iff.mpr e
      rw [decide_eq_false e, decide_eq_true (by omega)]
      rfl
  have ebv : (!decide (V.bl (decide ((0 : Int) < ((chL st cur).length : Int))) = V.bl (!decide (W = [])))) = false := by
    rw [eb, decide_eq_true rfl]
    rfl
  rw [ebv]
  refine iteF ?_
  have hB12 := hB11.same s12
  have t12 : LamX.Tabs (tqW PT) (upd H' z2 (.tup [])) := t6.ext (sm7.trans (s8.trans (s810.trans (sm11.trans s12))))
  refine ⟨.ref fp, rfl, fp, _, rfl, .inr (sameT s12 x1), .ref hp, rfl, .ref sp, rfl, rf (c, cur), rfl, n, hp, sp, c, ds, st, cur, rfl, hB12, s12 _ _ hst11, hn5, t12, fun W2 H13 k13 t13 hbest2 => ?_⟩
  refine ⟨rfl, _, rfl, ?_⟩
  rw [List.length_map, x2, best_len hbest2 hbest, dec_vi_eq]
  refine iteNS rfl ?_
  have hB13 := hB12.keep k13
  have hw13 : Wvs K H13 fp W := k13.wvs hw12
  obtain ⟨was4, y1, y2, y3⟩ := id hw13
  have hkk13 : H13 kk = some (.lst (W.flatten.map vi)) := k13.lst (s12 _ _ hkk11)
  have hst13 : H13 sp = some (.tup (st.map vi)) := k13.tup (s12 _ _ hst11)
  refine ⟨.ref fp, rfl, fp, _, rfl, .inr y1, rfl, _, rfl, ?_⟩
  rw [List.length_map, y2]
  have step2 : ∀ H14, Same H13 H14 → tSeq (tIfS (tOr (tTest (tOp (rI0 fun i j => .bl (decide (i < j))) (tCall (spCountShortest K) [] E0 (tCons (tVar 2) (tCons (tVar 3) (tCons (tVar 4) tNil)))) (tC (.int 1)))) (tAnd (tTest (tOp (rI0 fun i j => .bl (decide (j < i))) (tVar 8) (tC (.int 0)))) (tTest (tOp (rI0 fun i j => .bl (decide (j < i))) (tCB (rMax K) (tCons (tLc (iList K (tVar 6)) (gName 10) tYes (tOp (rIxT K) (tVar 4) (tVar 10)) [10]) tNil)) (tCB (rMaxT K) (tCons (tVar 3) tNil)))))) (tRet (tC (.bl false))) tNext)
      (tRet (tOrV (tNotV (tCall (spShowsRow K) [] E0 (tCons (tVar 2) (tCons (tVar 3) (tCons (tVar 4) (tCons (tCB (fun xs H Q => ∃ p ys, xs = [.ref p] ∧ ((SqL K H p ys ∧ ∀ l, H l = none → Q (.ref l) (upd H l (.tup ys))) ∨ (SqT K H p ys ∧ Q (.ref p) H))) (tCons (tVar 6) tNil)) tNil))))))
        (tOp (rEqD K) (tCall (spAfter K) [] E0 (tCons (tVar 2) (tCons (tVar 3) (tCons (tCB (fun xs H Q => ∃ p ys, xs = [.ref p] ∧ ((SqL K H p ys ∧ ∀ l, H l = none → Q (.ref l) (upd H l (.tup ys))) ∨ (SqT K H p ys ∧ Q (.ref p) H))) (tCons (tVar 6) tNil)) tNil)))) (tVar 4)))) { nx := fun _ H' => Q .non H', rt := Q }
      [some (.ref a), some (.ref R), some (.ref hp), some (.ref sp), some (rf (c, cur)), some (.ref fp), some (.ref kk), u2, some (vi (chL st cur).length), some (.ref hh), none] H14 := by
    intro H14 s14
    have hlt : ∀ x, x ∈ W.flatten → x < n := fun x hx => by
      have := (mem_ch.mp (hperm.mem_iff.mp hx)).1
      rw [hway.lr] at this
      exact this
    have step3 : ∀ H16, Keep H13 H16 → tRet (tOrV (tNotV (tCall (spShowsRow K) [] E0 (tCons (tVar 2) (tCons (tVar 3) (tCons (tVar 4) (tCons (tCB (fun xs H Q => ∃ p ys, xs = [.ref p] ∧ ((SqL K H p ys ∧ ∀ l, H l = none → Q (.ref l) (upd H l (.tup ys))) ∨ (SqT K H p ys ∧ Q (.ref p) H))) (tCons (tVar 6) tNil)) tNil))))))
        (tOp (rEqD K) (tCall (spAfter K) [] E0 (tCons (tVar 2) (tCons (tVar 3) (tCons (tCB (fun xs H Q => ∃ p ys, xs = [.ref p] ∧ ((SqL K H p ys ∧ ∀ l, H l = none → Q (.ref l) (upd H l (.tup ys))) ∨ (SqT K H p ys ∧ Q (.ref p) H))) (tCons (tVar 6) tNil)) tNil)))) (tVar 4))) { nx := fun _ H' => Q .non H', rt := Q }
        [some (.ref a), some (.ref R), some (.ref hp), some (.ref sp), some (rf (c, cur)), some (.ref fp), some (.ref kk), u2, some (vi (chL st cur).length), some (.ref hh), none] H16 := by
      intro H16 k16
      have hB16 := hB13.keep k16
      have hkk16 := k16.lst hkk13
      refine ⟨.ref hp, rfl, .ref sp, rfl, rf (c, cur), rfl, .ref kk, rfl, kk, _, rfl, .inl ⟨SqL.of hkk16, fun l nl => ?_⟩⟩
      have s17 : Same H16 (upd H16 l (.tup (W.flatten.map vi))) := sameN nl
      refine ⟨n, hp, sp, c, l, ds, st, cur, W.flatten, rfl, hB16.same s17, SqT.of upd_same, hperm, fun H18 s18 => ⟨_, rfl, _, rfl, ?_⟩⟩
      refine ite2 (fun z => q _) (fun z => ?_)
      have hF : W.flatten.foldl (keyL (nearM n ds)) st = cur := by
        by_cases e : W.flatten.foldl (keyL (nearM n ds)) st = cur
        · exact e
        · rw [decide_eq_false e] at z
          exact absurd rfl z
      have s168 := s17.trans s18
      have hB18 := hB16.same s168
      refine ⟨.ref hp, rfl, .ref sp, rfl, .ref kk, rfl, kk, _, rfl, .inl ⟨SqL.of (s168 _ _ hkk16), fun l2 nl2 => ?_⟩⟩
      have s19 : Same H18 (upd H18 l2 (.tup (W.flatten.map vi))) := sameN nl2
      have hB19 := hB18.same s19
      refine ⟨n, hp, sp, l2, ds, st, W.flatten, rfl, hB19.hs, SqT.of upd_same, hlt, by omega, fun p H20 s20 h20 => ?_⟩
      refine ⟨rf (c, cur), rfl, eq_tt h20 (hB19.same s20).tr ?_⟩
      rw [decide_eq_true hF]
      exact q _
    have hB14 := hB13.same s14
    refine ⟨.ref hp, rfl, .ref sp, rfl, rf (c, cur), rfl, n, hp, sp, c, ds, st, cur, rfl, hB14, s14 _ _ hst13, hn5, fun m H15 k15 h1 => ?_⟩
    refine ⟨m, 1, rfl, rfl, _, rfl, ?_⟩
    rw [decide_eq_false (by omega)]
    refine iteF ?_
    have k35 : Keep H13 H15 := (Keep.of s14).trans k15
    refine ⟨vi _, rfl, _, 0, rfl, rfl, _, rfl, ?_⟩
    refine ite2 (fun z3 => ?_) (fun z3 => iteF (step3 H15 k35))
    have hpos : 0 < (chL st cur).length := by
      have := of_decide_eq_true z3
      omega
    have hkk15 := k35.lst hkk13
    have hB15 := hB13.keep k35
    refine ⟨.ref kk, rfl, kk, rfl, ⟨_, SqL.of hkk15⟩, ?_⟩
    refine lcL (xs := W.flatten.map vi) (fun i => some (vi (cur.getD (W.flatten.getD i 0) 0))) (SqL.of hkk15) (by rw [List.length_map]; omega) (fun i x H16 hx s16 N k1 k2 => ?_) (fun D16 H16 nD16 s16 hD16 => ?_)
    · obtain ⟨hi, rfl⟩ := get_vi hx
      rw [getD_of (List.getElem?_eq_getElem hi)] at k1
      refine lcY ?_
      refine ⟨rf (c, cur), rfl, _, rfl, c, _, _, _, rfl, rfl, (hB15.same s16).tr, at_vi (by rw [hway.lr]; exact hlt _ (List.getElem_mem hi)), k1 _ _ rfl (Same.refl _)⟩
    · have em : (List.range (W.flatten.map vi).length).filterMap (fun i => some (vi (cur.getD (W.flatten.getD i 0) 0))) = ((W.flatten.map fun x => cur.getD x 0).map Int.ofNat).map V.int := by
        rw [fm_map, List.length_map, ← vi_map, List.map_map]
        have := range_fm 0 (fun _ => true) (fun x => vi (cur.getD x 0)) W.flatten
        rw [filt_true, filt_true] at this
        exact this
      rw [em] at hD16
      refine ⟨D16, _, rfl, SqL.of hD16, by rw [List.length_map, List.length_map, hperm.length_eq]; exact hpos, fun m1 hm1 _ => ?_⟩
      refine ⟨.ref sp, rfl, sp, st.map Int.ofNat, rfl, by rw [← vi_map]; exact (hB15.same s16).hs.tn, fun e => ?_, fun m2 hm2 hmax2 => ⟨m1, m2, rfl, rfl, _, rfl, ?_⟩⟩
      · have e : st = [] := by simpa using e
        have h1 := hok.n1
        rw [e] at ls
        simp at ls
        omega
      · obtain ⟨v1, hv1, e1⟩ := List.mem_map.mp hm1
        obtain ⟨x, hx, e2⟩ := List.mem_map.mp hv1
        have h3 := (mem_ch.mp (hperm.mem_iff.mp hx)).2
        have hxl : x < st.length := by rw [ls]; exact hlt x hx
        have h4 := hmax2 ((st.getD x 0 : Nat) : Int) (List.mem_map.mpr ⟨st.getD x 0, by rw [getD_of (List.getElem?_eq_getElem hxl)]; exact List.getElem_mem hxl, rfl⟩)
        have e1 : ((v1 : Nat) : Int) = m1 := e1
        rw [decide_eq_false (by omega)]
        exact iteF (step3 H16 (k35.trans (Keep.of s16)))
  refine ite2 (fun z4 => ?_) (fun z4 => iteF (step2 H13 (Same.refl _)))
  have hW1 : W.length = 1 := by
    have h := of_decide_eq_true z4
    have := V.int.inj h
    omega
  obtain ⟨r, hr1⟩ : ∃ r, W = [r] := by
    cases W with
    | nil => simp at hW1
    | cons r W =>
      cases W with
      | nil => exact ⟨r, rfl⟩
      | cons r2 W => simp at hW1
  refine ⟨.ref hp, rfl, .ref sp, rfl, rf (c, cur), rfl, n, hp, sp, c, ds, st, cur, r, rfl, hB13, by rw [← hr1]; exact hbest.1, fun p3 H14 s14 hw14 => ?_⟩
  rw [← hr1] at hw14
  refine ⟨.ref fp, rfl, _, _, hw14.dp, ((Keep.of s14).wvs hw13).dp, shp_W W, shp_W W, _, rfl, ?_⟩
  rw [eqv_W]
  exact iteF (step2 H14 s14)
end
end Mx
set_option maxHeartbeats 4000000
/-! what the top has written: the defs, the names, the lambda's table; the law's promise at the head. -/
namespace Mx
open PySem PySem.Spec PyProof.Rows L2
theorem bd_is_integer {K : PySem.W.Frag} {f : Addr} {fd : FuncData} (F : Fun K "is_integer" "is_integer" sIsInteger f fd) : Binds K fd ["value"] [] := F.binds (ps := ["value"]) fun _ _ _ _ _ _ us hl => match us, hl with | [_], _ => rfl
theorem bd_is_in {K : PySem.W.Frag} {f : Addr} {fd : FuncData} (F : Fun K "is_in" "is_in" sIsIn f fd) : Binds K fd ["value", "least", "most"] [] := F.binds (ps := ["value", "least", "most"]) fun _ _ _ _ _ _ us hl => match us, hl with | [_, _, _], _ => rfl
theorem bd_is_list {K : PySem.W.Frag} {f : Addr} {fd : FuncData} (F : Fun K "is_list" "is_list" sIsList f fd) : Binds K fd ["value", "least", "most"] [] := F.binds (ps := ["value", "least", "most"]) fun _ _ _ _ _ _ us hl => match us, hl with | [_, _, _], _ => rfl
theorem bd_need_doors {K : PySem.W.Frag} {f : Addr} {fd : FuncData} (F : Fun K "need_doors" "need_doors" sNeedDoors f fd) : Binds K fd ["size", "doors"] [] := F.binds (ps := ["size", "doors"]) fun _ _ _ _ _ _ us hl => match us, hl with | [_, _], _ => rfl
theorem bd_need_house {K : PySem.W.Frag} {f : Addr} {fd : FuncData} (F : Fun K "need_house" "need_house" sNeedHouse f fd) : Binds K fd ["house"] [] := F.binds (ps := ["house"]) fun _ _ _ _ _ _ us hl => match us, hl with | [_], _ => rfl
theorem bd_need_set {K : PySem.W.Frag} {f : Addr} {fd : FuncData} (F : Fun K "need_set" "need_set" sNeedSet f fd) : Binds K fd ["house", "rooms"] [] := F.binds (ps := ["house", "rooms"]) fun _ _ _ _ _ _ us hl => match us, hl with | [_, _], _ => rfl
theorem bd_near {K : PySem.W.Frag} {f : Addr} {fd : FuncData} (F : Fun K "near" "near" sNear f fd) : Binds K fd ["house"] [] := F.binds (ps := ["house"]) fun _ _ _ _ _ _ us hl => match us, hl with | [_], _ => rfl
theorem bd_need_numbers {K : PySem.W.Frag} {f : Addr} {fd : FuncData} (F : Fun K "need_numbers" "need_numbers" sNeedNumbers f fd) : Binds K fd ["house", "state"] [] := F.binds (ps := ["house", "state"]) fun _ _ _ _ _ _ us hl => match us, hl with | [_, _], _ => rfl
theorem bd_need_state {K : PySem.W.Frag} {f : Addr} {fd : FuncData} (F : Fun K "need_state" "need_state" sNeedState f fd) : Binds K fd ["house", "state"] [] := F.binds (ps := ["house", "state"]) fun _ _ _ _ _ _ us hl => match us, hl with | [_, _], _ => rfl
theorem bd_need_row {K : PySem.W.Frag} {f : Addr} {fd : FuncData} (F : Fun K "need_row" "need_row" sNeedRow f fd) : Binds K fd ["house", "keys"] [] := F.binds (ps := ["house", "keys"]) fun _ _ _ _ _ _ us hl => match us, hl with | [_, _], _ => rfl
theorem bd_free_number {K : PySem.W.Frag} {f : Addr} {fd : FuncData} (F : Fun K "free_number" "free_number" sFree f fd) : Binds K fd ["rows", "state", "room"] [] := F.binds (ps := ["rows", "state", "room"]) fun _ _ _ _ _ _ us hl => match us, hl with | [_, _, _], _ => rfl
theorem bd_key_in {K : PySem.W.Frag} {f : Addr} {fd : FuncData} (F : Fun K "key_in" "key_in" sKeyIn f fd) : Binds K fd ["rows", "state", "room"] [] := F.binds (ps := ["rows", "state", "room"]) fun _ _ _ _ _ _ us hl => match us, hl with | [_, _, _], _ => rfl
theorem bd_story_in {K : PySem.W.Frag} {f : Addr} {fd : FuncData} (F : Fun K "story_in" "story_in" sStoryIn f fd) : Binds K fd ["rows", "state", "keys"] [] := F.binds (ps := ["rows", "state", "keys"]) fun _ _ _ _ _ _ us hl => match us, hl with | [_, _, _], _ => rfl
theorem bd_after {K : PySem.W.Frag} {f : Addr} {fd : FuncData} (F : Fun K "after" "after" sAfter f fd) : Binds K fd ["house", "state", "keys"] [] := F.binds (ps := ["house", "state", "keys"]) fun _ _ _ _ _ _ us hl => match us, hl with | [_, _, _], _ => rfl
theorem bd_like_in {K : PySem.W.Frag} {f : Addr} {fd : FuncData} (F : Fun K "like_in" "like_in" sLikeIn f fd) : Binds K fd ["house", "state"] [] := F.binds (ps := ["house", "state"]) fun _ _ _ _ _ _ us hl => match us, hl with | [_, _], _ => rfl
theorem bd_need_parted {K : PySem.W.Frag} {f : Addr} {fd : FuncData} (F : Fun K "need_parted" "need_parted" sNeedParted f fd) : Binds K fd ["house", "state"] [] := F.binds (ps := ["house", "state"]) fun _ _ _ _ _ _ us hl => match us, hl with | [_, _], _ => rfl
theorem bd_rests_in {K : PySem.W.Frag} {f : Addr} {fd : FuncData} (F : Fun K "rests_in" "rests_in" sRestsIn f fd) : Binds K fd ["rows", "state"] [] := F.binds (ps := ["rows", "state"]) fun _ _ _ _ _ _ us hl => match us, hl with | [_, _], _ => rfl
theorem bd_is_largest {K : PySem.W.Frag} {f : Addr} {fd : FuncData} (F : Fun K "is_largest" "is_largest" sIsLargest f fd) : Binds K fd ["rows", "rooms", "some"] [] := F.binds (ps := ["rows", "rooms", "some"]) fun _ _ _ _ _ _ us hl => match us, hl with | [_, _, _], _ => rfl
theorem bd_largest_in {K : PySem.W.Frag} {f : Addr} {fd : FuncData} (F : Fun K "largest_in" "largest_in" sLargestIn f fd) : Binds K fd ["rows", "rooms"] [] := F.binds (ps := ["rows", "rooms"]) fun _ _ _ _ _ _ us hl => match us, hl with | [_, _], _ => rfl
theorem bd_need_rest {K : PySem.W.Frag} {f : Addr} {fd : FuncData} (F : Fun K "need_rest" "need_rest" sNeedRest f fd) : Binds K fd ["house", "rest"] [] := F.binds (ps := ["house", "rest"]) fun _ _ _ _ _ _ us hl => match us, hl with | [_, _], _ => rfl
theorem bd_is_below {K : PySem.W.Frag} {f : Addr} {fd : FuncData} (F : Fun K "is_below" "is_below" sIsBelow f fd) : Binds K fd ["one", "other"] [] := F.binds (ps := ["one", "other"]) fun _ _ _ _ _ _ us hl => match us, hl with | [_, _], _ => rfl
theorem bd_below_in {K : PySem.W.Frag} {f : Addr} {fd : FuncData} (F : Fun K "below_in" "below_in" sBelowIn f fd) : Binds K fd ["rows", "rooms", "state", "level"] [] := F.binds (ps := ["rows", "rooms", "state", "level"]) fun _ _ _ _ _ _ us hl => match us, hl with | [_, _, _, _], _ => rfl
theorem bd_rests_under {K : PySem.W.Frag} {f : Addr} {fd : FuncData} (F : Fun K "rests_under" "rests_under" sRestsUnder f fd) : Binds K fd ["house", "state"] [] := F.binds (ps := ["house", "state"]) fun _ _ _ _ _ _ us hl => match us, hl with | [_, _], _ => rfl
theorem bd_rests_below {K : PySem.W.Frag} {f : Addr} {fd : FuncData} (F : Fun K "rests_below" "rests_below" sRestsBelow f fd) : Binds K fd ["house", "state"] [] := F.binds (ps := ["house", "state"]) fun _ _ _ _ _ _ us hl => match us, hl with | [_, _], _ => rfl
theorem bd_need_both {K : PySem.W.Frag} {f : Addr} {fd : FuncData} (F : Fun K "need_both" "need_both" sNeedBoth f fd) : Binds K fd ["house", "state", "rest"] [] := F.binds (ps := ["house", "state", "rest"]) fun _ _ _ _ _ _ us hl => match us, hl with | [_, _, _], _ => rfl
theorem bd_fewest_keys {K : PySem.W.Frag} {f : Addr} {fd : FuncData} (F : Fun K "fewest_keys" "fewest_keys" sFewestKeys f fd) : Binds K fd ["house", "state", "rest"] [] := F.binds (ps := ["house", "state", "rest"]) fun _ _ _ _ _ _ us hl => match us, hl with | [_, _, _], _ => rfl
theorem bd_count_from {K : PySem.W.Frag} {f : Addr} {fd : FuncData} (F : Fun K "count_from" "count_from" sCountFrom f fd) : Binds K fd ["rows", "state", "rest", "known"] [] := F.binds (ps := ["rows", "state", "rest", "known"]) fun _ _ _ _ _ _ us hl => match us, hl with | [_, _, _, _], _ => rfl
theorem bd_count_shortest {K : PySem.W.Frag} {f : Addr} {fd : FuncData} (F : Fun K "count_shortest" "count_shortest" sCountShortest f fd) : Binds K fd ["house", "state", "rest"] [] := F.binds (ps := ["house", "state", "rest"]) fun _ _ _ _ _ _ us hl => match us, hl with | [_, _, _], _ => rfl
theorem bd_shows_row {K : PySem.W.Frag} {f : Addr} {fd : FuncData} (F : Fun K "shows_row" "shows_row" sShowsRow f fd) : Binds K fd ["house", "state", "rest", "value"] [] := F.binds (ps := ["house", "state", "rest", "value"]) fun _ _ _ _ _ _ us hl => match us, hl with | [_, _, _, _], _ => rfl
theorem bd_fit_rooms {K : PySem.W.Frag} {f : Addr} {fd : FuncData} (F : Fun K "fit_rooms" "fit_rooms" sFit f fd) : Binds K fd ["rows", "state", "rest"] [] := F.binds (ps := ["rows", "state", "rest"]) fun _ _ _ _ _ _ us hl => match us, hl with | [_, _, _], _ => rfl
theorem bd_subsets {K : PySem.W.Frag} {f : Addr} {fd : FuncData} (F : Fun K "subsets" "subsets" sSubsets f fd) : Binds K fd ["rooms"] [] := F.binds (ps := ["rooms"]) fun _ _ _ _ _ _ us hl => match us, hl with | [_], _ => rfl
theorem bd_put {K : PySem.W.Frag} {f : Addr} {fd : FuncData} (F : Fun K "put" "put" sPut f fd) : Binds K fd ["state", "rest", "rooms"] [] := F.binds (ps := ["state", "rest", "rooms"]) fun _ _ _ _ _ _ us hl => match us, hl with | [_, _, _], _ => rfl
theorem bd_waves_from {K : PySem.W.Frag} {f : Addr} {fd : FuncData} (F : Fun K "waves_from" "waves_from" sWavesFrom f fd) : Binds K fd ["rows", "state", "rest", "known"] [] := F.binds (ps := ["rows", "state", "rest", "known"]) fun _ _ _ _ _ _ us hl => match us, hl with | [_, _, _, _], _ => rfl
theorem bd_waves {K : PySem.W.Frag} {f : Addr} {fd : FuncData} (F : Fun K "waves" "waves" sWaves f fd) : Binds K fd ["house", "state", "rest"] [] := F.binds (ps := ["house", "state", "rest"]) fun _ _ _ _ _ _ us hl => match us, hl with | [_, _, _], _ => rfl
theorem bd_fewest_waves {K : PySem.W.Frag} {f : Addr} {fd : FuncData} (F : Fun K "fewest_waves" "fewest_waves" sFewestWaves f fd) : Binds K fd ["house", "state", "rest"] [] := F.binds (ps := ["house", "state", "rest"]) fun _ _ _ _ _ _ us hl => match us, hl with | [_, _, _], _ => rfl
theorem bd_eager_waves {K : PySem.W.Frag} {f : Addr} {fd : FuncData} (F : Fun K "eager_waves" "eager_waves" sEager f fd) : Binds K fd ["house", "state", "rest"] [] := F.binds (ps := ["house", "state", "rest"]) fun _ _ _ _ _ _ us hl => match us, hl with | [_, _, _], _ => rfl
theorem bd_at_once {K : PySem.W.Frag} {f : Addr} {fd : FuncData} (F : Fun K "at_once" "at_once" sAtOnce f fd) : Binds K fd ["house", "state", "rooms"] [] := F.binds (ps := ["house", "state", "rooms"]) fun _ _ _ _ _ _ us hl => match us, hl with | [_, _, _], _ => rfl
theorem bd__law_taken {K : PySem.W.Frag} {f : Addr} {fd : FuncData} (F : Fun K "_law_taken" "_law_taken" sTaken f fd) : Binds K fd ["_law_row", "_law_many"] [] := F.binds (ps := ["_law_row", "_law_many"]) fun _ _ _ _ _ _ us hl => match us, hl with | [_, _], _ => rfl
theorem bd__law_pick {K : PySem.W.Frag} {f : Addr} {fd : FuncData} (F : Fun K "_law_pick" "_law_pick" sPick f fd) : Binds K fd ["_law_row", "_law_things"] [] := F.binds (ps := ["_law_row", "_law_things"]) fun _ _ _ _ _ _ us hl => match us, hl with | [_, _], _ => rfl
theorem bd__law_house {K : PySem.W.Frag} {f : Addr} {fd : FuncData} (F : Fun K "_law_house" "_law_house" sHouse f fd) : Binds K fd ["_law_row", "_law_most"] [] := F.binds (ps := ["_law_row", "_law_most"]) fun _ _ _ _ _ _ us hl => match us, hl with | [_, _], _ => rfl
theorem bd__law_near {K : PySem.W.Frag} {f : Addr} {fd : FuncData} (F : Fun K "_law_near" "_law_near" sLNear f fd) : Binds K fd ["_law_house_here"] [] := F.binds (ps := ["_law_house_here"]) fun _ _ _ _ _ _ us hl => match us, hl with | [_], _ => rfl
theorem bd__law_parted {K : PySem.W.Frag} {f : Addr} {fd : FuncData} (F : Fun K "_law_parted" "_law_parted" sParted f fd) : Binds K fd ["_law_row", "_law_house_here", "_law_top"] [] := F.binds (ps := ["_law_row", "_law_house_here", "_law_top"]) fun _ _ _ _ _ _ us hl => match us, hl with | [_, _, _], _ => rfl
theorem bd_law {K : PySem.W.Frag} {f : Addr} {fd : FuncData} (F : Fun K "law" "law" sLaw f fd) : Binds K fd ["_law_script"] [] := F.binds (ps := ["_law_script"]) fun _ _ _ _ _ _ us hl => match us, hl with | [_], _ => rfl
theorem all_mk {l : PySem.W.OpenLaw} {w : World} {K : PySem.W.Frag} {h : Heap} {mg : Str → Option Value} {fa c PT : Addr} (X : K.In h) (G : h.Ns mainGlobals mg) (hfa : mg "law" = some (.ref fa)) (hP : h.get? PT = some { cls := .none, data := .fields #[] })
    {f1 : Addr} {od1 an1 : Option Addr} {sl1 : Array (Option Value)} {oc1 kV1 dc1 pm1 ct1 cd1 : Value} (a1 : PySem.W.nsIn K mainGlobals "is_integer" = some (some (.ref f1))) (l1 : K.lookup f1 = some ⟨oc1, od1, .func (PySem.W.fnOf "is_integer" "is_integer" (defArgs sIsInteger) (defBody sIsInteger) (defScope sIsInteger) .none kV1 dc1 pm1 an1 cd1 ct1), sl1⟩) (c1 : PySem.W.codeIn K cd1 "is_integer" = true) (k1 : PySem.W.keepIn K (.ref f1) = true)
    {f2 : Addr} {od2 an2 : Option Addr} {sl2 : Array (Option Value)} {oc2 kV2 dc2 pm2 ct2 cd2 : Value} (a2 : PySem.W.nsIn K mainGlobals "is_in" = some (some (.ref f2))) (l2 : K.lookup f2 = some ⟨oc2, od2, .func (PySem.W.fnOf "is_in" "is_in" (defArgs sIsIn) (defBody sIsIn) (defScope sIsIn) .none kV2 dc2 pm2 an2 cd2 ct2), sl2⟩) (c2 : PySem.W.codeIn K cd2 "is_in" = true) (k2 : PySem.W.keepIn K (.ref f2) = true)
    {f3 : Addr} {od3 an3 : Option Addr} {sl3 : Array (Option Value)} {oc3 kV3 dc3 pm3 ct3 cd3 : Value} (a3 : PySem.W.nsIn K mainGlobals "is_list" = some (some (.ref f3))) (l3 : K.lookup f3 = some ⟨oc3, od3, .func (PySem.W.fnOf "is_list" "is_list" (defArgs sIsList) (defBody sIsList) (defScope sIsList) .none kV3 dc3 pm3 an3 cd3 ct3), sl3⟩) (c3 : PySem.W.codeIn K cd3 "is_list" = true) (k3 : PySem.W.keepIn K (.ref f3) = true)
    {f15 : Addr} {od15 an15 : Option Addr} {sl15 : Array (Option Value)} {oc15 kV15 dc15 pm15 ct15 cd15 : Value} (a15 : PySem.W.nsIn K mainGlobals "need_doors" = some (some (.ref f15))) (l15 : K.lookup f15 = some ⟨oc15, od15, .func (PySem.W.fnOf "need_doors" "need_doors" (defArgs sNeedDoors) (defBody sNeedDoors) (defScope sNeedDoors) .none kV15 dc15 pm15 an15 cd15 ct15), sl15⟩) (c15 : PySem.W.codeIn K cd15 "need_doors" = true) (k15 : PySem.W.keepIn K (.ref f15) = true)
    {f16 : Addr} {od16 an16 : Option Addr} {sl16 : Array (Option Value)} {oc16 kV16 dc16 pm16 ct16 cd16 : Value} (a16 : PySem.W.nsIn K mainGlobals "need_house" = some (some (.ref f16))) (l16 : K.lookup f16 = some ⟨oc16, od16, .func (PySem.W.fnOf "need_house" "need_house" (defArgs sNeedHouse) (defBody sNeedHouse) (defScope sNeedHouse) .none kV16 dc16 pm16 an16 cd16 ct16), sl16⟩) (c16 : PySem.W.codeIn K cd16 "need_house" = true) (k16 : PySem.W.keepIn K (.ref f16) = true)
    {f17 : Addr} {od17 an17 : Option Addr} {sl17 : Array (Option Value)} {oc17 kV17 dc17 pm17 ct17 cd17 : Value} (a17 : PySem.W.nsIn K mainGlobals "need_set" = some (some (.ref f17))) (l17 : K.lookup f17 = some ⟨oc17, od17, .func (PySem.W.fnOf "need_set" "need_set" (defArgs sNeedSet) (defBody sNeedSet) (defScope sNeedSet) .none kV17 dc17 pm17 an17 cd17 ct17), sl17⟩) (c17 : PySem.W.codeIn K cd17 "need_set" = true) (k17 : PySem.W.keepIn K (.ref f17) = true)
    {f18 : Addr} {od18 an18 : Option Addr} {sl18 : Array (Option Value)} {oc18 kV18 dc18 pm18 ct18 cd18 : Value} (a18 : PySem.W.nsIn K mainGlobals "near" = some (some (.ref f18))) (l18 : K.lookup f18 = some ⟨oc18, od18, .func (PySem.W.fnOf "near" "near" (defArgs sNear) (defBody sNear) (defScope sNear) .none kV18 dc18 pm18 an18 cd18 ct18), sl18⟩) (c18 : PySem.W.codeIn K cd18 "near" = true) (k18 : PySem.W.keepIn K (.ref f18) = true)
    {f22 : Addr} {od22 an22 : Option Addr} {sl22 : Array (Option Value)} {oc22 kV22 dc22 pm22 ct22 cd22 : Value} (a22 : PySem.W.nsIn K mainGlobals "need_numbers" = some (some (.ref f22))) (l22 : K.lookup f22 = some ⟨oc22, od22, .func (PySem.W.fnOf "need_numbers" "need_numbers" (defArgs sNeedNumbers) (defBody sNeedNumbers) (defScope sNeedNumbers) .none kV22 dc22 pm22 an22 cd22 ct22), sl22⟩) (c22 : PySem.W.codeIn K cd22 "need_numbers" = true) (k22 : PySem.W.keepIn K (.ref f22) = true)
    {f23 : Addr} {od23 an23 : Option Addr} {sl23 : Array (Option Value)} {oc23 kV23 dc23 pm23 ct23 cd23 : Value} (a23 : PySem.W.nsIn K mainGlobals "need_state" = some (some (.ref f23))) (l23 : K.lookup f23 = some ⟨oc23, od23, .func (PySem.W.fnOf "need_state" "need_state" (defArgs sNeedState) (defBody sNeedState) (defScope sNeedState) .none kV23 dc23 pm23 an23 cd23 ct23), sl23⟩) (c23 : PySem.W.codeIn K cd23 "need_state" = true) (k23 : PySem.W.keepIn K (.ref f23) = true)
    {f24 : Addr} {od24 an24 : Option Addr} {sl24 : Array (Option Value)} {oc24 kV24 dc24 pm24 ct24 cd24 : Value} (a24 : PySem.W.nsIn K mainGlobals "need_row" = some (some (.ref f24))) (l24 : K.lookup f24 = some ⟨oc24, od24, .func (PySem.W.fnOf "need_row" "need_row" (defArgs sNeedRow) (defBody sNeedRow) (defScope sNeedRow) .none kV24 dc24 pm24 an24 cd24 ct24), sl24⟩) (c24 : PySem.W.codeIn K cd24 "need_row" = true) (k24 : PySem.W.keepIn K (.ref f24) = true)
    {f25 : Addr} {od25 an25 : Option Addr} {sl25 : Array (Option Value)} {oc25 kV25 dc25 pm25 ct25 cd25 : Value} (a25 : PySem.W.nsIn K mainGlobals "free_number" = some (some (.ref f25))) (l25 : K.lookup f25 = some ⟨oc25, od25, .func (PySem.W.fnOf "free_number" "free_number" (defArgs sFree) (defBody sFree) (defScope sFree) .none kV25 dc25 pm25 an25 cd25 ct25), sl25⟩) (c25 : PySem.W.codeIn K cd25 "free_number" = true) (k25 : PySem.W.keepIn K (.ref f25) = true)
    {f26 : Addr} {od26 an26 : Option Addr} {sl26 : Array (Option Value)} {oc26 kV26 dc26 pm26 ct26 cd26 : Value} (a26 : PySem.W.nsIn K mainGlobals "key_in" = some (some (.ref f26))) (l26 : K.lookup f26 = some ⟨oc26, od26, .func (PySem.W.fnOf "key_in" "key_in" (defArgs sKeyIn) (defBody sKeyIn) (defScope sKeyIn) .none kV26 dc26 pm26 an26 cd26 ct26), sl26⟩) (c26 : PySem.W.codeIn K cd26 "key_in" = true) (k26 : PySem.W.keepIn K (.ref f26) = true)
    {f27 : Addr} {od27 an27 : Option Addr} {sl27 : Array (Option Value)} {oc27 kV27 dc27 pm27 ct27 cd27 : Value} (a27 : PySem.W.nsIn K mainGlobals "story_in" = some (some (.ref f27))) (l27 : K.lookup f27 = some ⟨oc27, od27, .func (PySem.W.fnOf "story_in" "story_in" (defArgs sStoryIn) (defBody sStoryIn) (defScope sStoryIn) .none kV27 dc27 pm27 an27 cd27 ct27), sl27⟩) (c27 : PySem.W.codeIn K cd27 "story_in" = true) (k27 : PySem.W.keepIn K (.ref f27) = true)
    {f28 : Addr} {od28 an28 : Option Addr} {sl28 : Array (Option Value)} {oc28 kV28 dc28 pm28 ct28 cd28 : Value} (a28 : PySem.W.nsIn K mainGlobals "after" = some (some (.ref f28))) (l28 : K.lookup f28 = some ⟨oc28, od28, .func (PySem.W.fnOf "after" "after" (defArgs sAfter) (defBody sAfter) (defScope sAfter) .none kV28 dc28 pm28 an28 cd28 ct28), sl28⟩) (c28 : PySem.W.codeIn K cd28 "after" = true) (k28 : PySem.W.keepIn K (.ref f28) = true)
    {f29 : Addr} {od29 an29 : Option Addr} {sl29 : Array (Option Value)} {oc29 kV29 dc29 pm29 ct29 cd29 : Value} (a29 : PySem.W.nsIn K mainGlobals "like_in" = some (some (.ref f29))) (l29 : K.lookup f29 = some ⟨oc29, od29, .func (PySem.W.fnOf "like_in" "like_in" (defArgs sLikeIn) (defBody sLikeIn) (defScope sLikeIn) .none kV29 dc29 pm29 an29 cd29 ct29), sl29⟩) (c29 : PySem.W.codeIn K cd29 "like_in" = true) (k29 : PySem.W.keepIn K (.ref f29) = true)
    {f30 : Addr} {od30 an30 : Option Addr} {sl30 : Array (Option Value)} {oc30 kV30 dc30 pm30 ct30 cd30 : Value} (a30 : PySem.W.nsIn K mainGlobals "need_parted" = some (some (.ref f30))) (l30 : K.lookup f30 = some ⟨oc30, od30, .func (PySem.W.fnOf "need_parted" "need_parted" (defArgs sNeedParted) (defBody sNeedParted) (defScope sNeedParted) .none kV30 dc30 pm30 an30 cd30 ct30), sl30⟩) (c30 : PySem.W.codeIn K cd30 "need_parted" = true) (k30 : PySem.W.keepIn K (.ref f30) = true)
    {f31 : Addr} {od31 an31 : Option Addr} {sl31 : Array (Option Value)} {oc31 kV31 dc31 pm31 ct31 cd31 : Value} (a31 : PySem.W.nsIn K mainGlobals "rests_in" = some (some (.ref f31))) (l31 : K.lookup f31 = some ⟨oc31, od31, .func (PySem.W.fnOf "rests_in" "rests_in" (defArgs sRestsIn) (defBody sRestsIn) (defScope sRestsIn) .none kV31 dc31 pm31 an31 cd31 ct31), sl31⟩) (c31 : PySem.W.codeIn K cd31 "rests_in" = true) (k31 : PySem.W.keepIn K (.ref f31) = true)
    {f34 : Addr} {od34 an34 : Option Addr} {sl34 : Array (Option Value)} {oc34 kV34 dc34 pm34 ct34 cd34 : Value} (a34 : PySem.W.nsIn K mainGlobals "is_largest" = some (some (.ref f34))) (l34 : K.lookup f34 = some ⟨oc34, od34, .func (PySem.W.fnOf "is_largest" "is_largest" (defArgs sIsLargest) (defBody sIsLargest) (defScope sIsLargest) .none kV34 dc34 pm34 an34 cd34 ct34), sl34⟩) (c34 : PySem.W.codeIn K cd34 "is_largest" = true) (k34 : PySem.W.keepIn K (.ref f34) = true)
    {f33 : Addr} {od33 an33 : Option Addr} {sl33 : Array (Option Value)} {oc33 kV33 dc33 pm33 ct33 cd33 : Value} (a33 : PySem.W.nsIn K mainGlobals "largest_in" = some (some (.ref f33))) (l33 : K.lookup f33 = some ⟨oc33, od33, .func (PySem.W.fnOf "largest_in" "largest_in" (defArgs sLargestIn) (defBody sLargestIn) (defScope sLargestIn) .none kV33 dc33 pm33 an33 cd33 ct33), sl33⟩) (c33 : PySem.W.codeIn K cd33 "largest_in" = true) (k33 : PySem.W.keepIn K (.ref f33) = true)
    {f35 : Addr} {od35 an35 : Option Addr} {sl35 : Array (Option Value)} {oc35 kV35 dc35 pm35 ct35 cd35 : Value} (a35 : PySem.W.nsIn K mainGlobals "need_rest" = some (some (.ref f35))) (l35 : K.lookup f35 = some ⟨oc35, od35, .func (PySem.W.fnOf "need_rest" "need_rest" (defArgs sNeedRest) (defBody sNeedRest) (defScope sNeedRest) .none kV35 dc35 pm35 an35 cd35 ct35), sl35⟩) (c35 : PySem.W.codeIn K cd35 "need_rest" = true) (k35 : PySem.W.keepIn K (.ref f35) = true)
    {f37 : Addr} {od37 an37 : Option Addr} {sl37 : Array (Option Value)} {oc37 kV37 dc37 pm37 ct37 cd37 : Value} (a37 : PySem.W.nsIn K mainGlobals "is_below" = some (some (.ref f37))) (l37 : K.lookup f37 = some ⟨oc37, od37, .func (PySem.W.fnOf "is_below" "is_below" (defArgs sIsBelow) (defBody sIsBelow) (defScope sIsBelow) .none kV37 dc37 pm37 an37 cd37 ct37), sl37⟩) (c37 : PySem.W.codeIn K cd37 "is_below" = true) (k37 : PySem.W.keepIn K (.ref f37) = true)
    {f38 : Addr} {od38 an38 : Option Addr} {sl38 : Array (Option Value)} {oc38 kV38 dc38 pm38 ct38 cd38 : Value} (a38 : PySem.W.nsIn K mainGlobals "below_in" = some (some (.ref f38))) (l38 : K.lookup f38 = some ⟨oc38, od38, .func (PySem.W.fnOf "below_in" "below_in" (defArgs sBelowIn) (defBody sBelowIn) (defScope sBelowIn) .none kV38 dc38 pm38 an38 cd38 ct38), sl38⟩) (c38 : PySem.W.codeIn K cd38 "below_in" = true) (k38 : PySem.W.keepIn K (.ref f38) = true)
    {f39 : Addr} {od39 an39 : Option Addr} {sl39 : Array (Option Value)} {oc39 kV39 dc39 pm39 ct39 cd39 : Value} (a39 : PySem.W.nsIn K mainGlobals "rests_under" = some (some (.ref f39))) (l39 : K.lookup f39 = some ⟨oc39, od39, .func (PySem.W.fnOf "rests_under" "rests_under" (defArgs sRestsUnder) (defBody sRestsUnder) (defScope sRestsUnder) .none kV39 dc39 pm39 an39 cd39 ct39), sl39⟩) (c39 : PySem.W.codeIn K cd39 "rests_under" = true) (k39 : PySem.W.keepIn K (.ref f39) = true)
    {f40 : Addr} {od40 an40 : Option Addr} {sl40 : Array (Option Value)} {oc40 kV40 dc40 pm40 ct40 cd40 : Value} (a40 : PySem.W.nsIn K mainGlobals "rests_below" = some (some (.ref f40))) (l40 : K.lookup f40 = some ⟨oc40, od40, .func (PySem.W.fnOf "rests_below" "rests_below" (defArgs sRestsBelow) (defBody sRestsBelow) (defScope sRestsBelow) .none kV40 dc40 pm40 an40 cd40 ct40), sl40⟩) (c40 : PySem.W.codeIn K cd40 "rests_below" = true) (k40 : PySem.W.keepIn K (.ref f40) = true)
    {f41 : Addr} {od41 an41 : Option Addr} {sl41 : Array (Option Value)} {oc41 kV41 dc41 pm41 ct41 cd41 : Value} (a41 : PySem.W.nsIn K mainGlobals "need_both" = some (some (.ref f41))) (l41 : K.lookup f41 = some ⟨oc41, od41, .func (PySem.W.fnOf "need_both" "need_both" (defArgs sNeedBoth) (defBody sNeedBoth) (defScope sNeedBoth) .none kV41 dc41 pm41 an41 cd41 ct41), sl41⟩) (c41 : PySem.W.codeIn K cd41 "need_both" = true) (k41 : PySem.W.keepIn K (.ref f41) = true)
    {f42 : Addr} {od42 an42 : Option Addr} {sl42 : Array (Option Value)} {oc42 kV42 dc42 pm42 ct42 cd42 : Value} (a42 : PySem.W.nsIn K mainGlobals "fewest_keys" = some (some (.ref f42))) (l42 : K.lookup f42 = some ⟨oc42, od42, .func (PySem.W.fnOf "fewest_keys" "fewest_keys" (defArgs sFewestKeys) (defBody sFewestKeys) (defScope sFewestKeys) .none kV42 dc42 pm42 an42 cd42 ct42), sl42⟩) (c42 : PySem.W.codeIn K cd42 "fewest_keys" = true) (k42 : PySem.W.keepIn K (.ref f42) = true)
    {f43 : Addr} {od43 an43 : Option Addr} {sl43 : Array (Option Value)} {oc43 kV43 dc43 pm43 ct43 cd43 : Value} (a43 : PySem.W.nsIn K mainGlobals "count_from" = some (some (.ref f43))) (l43 : K.lookup f43 = some ⟨oc43, od43, .func (PySem.W.fnOf "count_from" "count_from" (defArgs sCountFrom) (defBody sCountFrom) (defScope sCountFrom) .none kV43 dc43 pm43 an43 cd43 ct43), sl43⟩) (c43 : PySem.W.codeIn K cd43 "count_from" = true) (k43 : PySem.W.keepIn K (.ref f43) = true)
    {f44 : Addr} {od44 an44 : Option Addr} {sl44 : Array (Option Value)} {oc44 kV44 dc44 pm44 ct44 cd44 : Value} (a44 : PySem.W.nsIn K mainGlobals "count_shortest" = some (some (.ref f44))) (l44 : K.lookup f44 = some ⟨oc44, od44, .func (PySem.W.fnOf "count_shortest" "count_shortest" (defArgs sCountShortest) (defBody sCountShortest) (defScope sCountShortest) .none kV44 dc44 pm44 an44 cd44 ct44), sl44⟩) (c44 : PySem.W.codeIn K cd44 "count_shortest" = true) (k44 : PySem.W.keepIn K (.ref f44) = true)
    {f45 : Addr} {od45 an45 : Option Addr} {sl45 : Array (Option Value)} {oc45 kV45 dc45 pm45 ct45 cd45 : Value} (a45 : PySem.W.nsIn K mainGlobals "shows_row" = some (some (.ref f45))) (l45 : K.lookup f45 = some ⟨oc45, od45, .func (PySem.W.fnOf "shows_row" "shows_row" (defArgs sShowsRow) (defBody sShowsRow) (defScope sShowsRow) .none kV45 dc45 pm45 an45 cd45 ct45), sl45⟩) (c45 : PySem.W.codeIn K cd45 "shows_row" = true) (k45 : PySem.W.keepIn K (.ref f45) = true)
    {f47 : Addr} {od47 an47 : Option Addr} {sl47 : Array (Option Value)} {oc47 kV47 dc47 pm47 ct47 cd47 : Value} (a47 : PySem.W.nsIn K mainGlobals "fit_rooms" = some (some (.ref f47))) (l47 : K.lookup f47 = some ⟨oc47, od47, .func (PySem.W.fnOf "fit_rooms" "fit_rooms" (defArgs sFit) (defBody sFit) (defScope sFit) .none kV47 dc47 pm47 an47 cd47 ct47), sl47⟩) (c47 : PySem.W.codeIn K cd47 "fit_rooms" = true) (k47 : PySem.W.keepIn K (.ref f47) = true)
    {f48 : Addr} {od48 an48 : Option Addr} {sl48 : Array (Option Value)} {oc48 kV48 dc48 pm48 ct48 cd48 : Value} (a48 : PySem.W.nsIn K mainGlobals "subsets" = some (some (.ref f48))) (l48 : K.lookup f48 = some ⟨oc48, od48, .func (PySem.W.fnOf "subsets" "subsets" (defArgs sSubsets) (defBody sSubsets) (defScope sSubsets) .none kV48 dc48 pm48 an48 cd48 ct48), sl48⟩) (c48 : PySem.W.codeIn K cd48 "subsets" = true) (k48 : PySem.W.keepIn K (.ref f48) = true)
    {f49 : Addr} {od49 an49 : Option Addr} {sl49 : Array (Option Value)} {oc49 kV49 dc49 pm49 ct49 cd49 : Value} (a49 : PySem.W.nsIn K mainGlobals "put" = some (some (.ref f49))) (l49 : K.lookup f49 = some ⟨oc49, od49, .func (PySem.W.fnOf "put" "put" (defArgs sPut) (defBody sPut) (defScope sPut) .none kV49 dc49 pm49 an49 cd49 ct49), sl49⟩) (c49 : PySem.W.codeIn K cd49 "put" = true) (k49 : PySem.W.keepIn K (.ref f49) = true)
    {f50 : Addr} {od50 an50 : Option Addr} {sl50 : Array (Option Value)} {oc50 kV50 dc50 pm50 ct50 : Value} (a50 : PySem.W.nsIn K mainGlobals "waves_from" = some (some (.ref f50))) (l50 : K.lookup f50 = some ⟨oc50, od50, .func (PySem.W.fnOf "waves_from" "waves_from" (defArgs sWavesFrom) (defBody sWavesFrom) (defScope sWavesFrom) .none kV50 dc50 pm50 an50 (.ref c) ct50), sl50⟩) (c50 : PySem.W.codeIn K (.ref c) "waves_from" = true) (k50 : PySem.W.keepIn K (.ref f50) = true)
    {f51 : Addr} {od51 an51 : Option Addr} {sl51 : Array (Option Value)} {oc51 kV51 dc51 pm51 ct51 cd51 : Value} (a51 : PySem.W.nsIn K mainGlobals "waves" = some (some (.ref f51))) (l51 : K.lookup f51 = some ⟨oc51, od51, .func (PySem.W.fnOf "waves" "waves" (defArgs sWaves) (defBody sWaves) (defScope sWaves) .none kV51 dc51 pm51 an51 cd51 ct51), sl51⟩) (c51 : PySem.W.codeIn K cd51 "waves" = true) (k51 : PySem.W.keepIn K (.ref f51) = true)
    {f52 : Addr} {od52 an52 : Option Addr} {sl52 : Array (Option Value)} {oc52 kV52 dc52 pm52 ct52 cd52 : Value} (a52 : PySem.W.nsIn K mainGlobals "fewest_waves" = some (some (.ref f52))) (l52 : K.lookup f52 = some ⟨oc52, od52, .func (PySem.W.fnOf "fewest_waves" "fewest_waves" (defArgs sFewestWaves) (defBody sFewestWaves) (defScope sFewestWaves) .none kV52 dc52 pm52 an52 cd52 ct52), sl52⟩) (c52 : PySem.W.codeIn K cd52 "fewest_waves" = true) (k52 : PySem.W.keepIn K (.ref f52) = true)
    {f53 : Addr} {od53 an53 : Option Addr} {sl53 : Array (Option Value)} {oc53 kV53 dc53 pm53 ct53 cd53 : Value} (a53 : PySem.W.nsIn K mainGlobals "eager_waves" = some (some (.ref f53))) (l53 : K.lookup f53 = some ⟨oc53, od53, .func (PySem.W.fnOf "eager_waves" "eager_waves" (defArgs sEager) (defBody sEager) (defScope sEager) .none kV53 dc53 pm53 an53 cd53 ct53), sl53⟩) (c53 : PySem.W.codeIn K cd53 "eager_waves" = true) (k53 : PySem.W.keepIn K (.ref f53) = true)
    {f55 : Addr} {od55 an55 : Option Addr} {sl55 : Array (Option Value)} {oc55 kV55 dc55 pm55 ct55 cd55 : Value} (a55 : PySem.W.nsIn K mainGlobals "at_once" = some (some (.ref f55))) (l55 : K.lookup f55 = some ⟨oc55, od55, .func (PySem.W.fnOf "at_once" "at_once" (defArgs sAtOnce) (defBody sAtOnce) (defScope sAtOnce) .none kV55 dc55 pm55 an55 cd55 ct55), sl55⟩) (c55 : PySem.W.codeIn K cd55 "at_once" = true) (k55 : PySem.W.keepIn K (.ref f55) = true)
    {f57 : Addr} {od57 an57 : Option Addr} {sl57 : Array (Option Value)} {oc57 kV57 dc57 pm57 ct57 cd57 : Value} (a57 : PySem.W.nsIn K mainGlobals "_law_taken" = some (some (.ref f57))) (l57 : K.lookup f57 = some ⟨oc57, od57, .func (PySem.W.fnOf "_law_taken" "_law_taken" (defArgs sTaken) (defBody sTaken) (defScope sTaken) .none kV57 dc57 pm57 an57 cd57 ct57), sl57⟩) (c57 : PySem.W.codeIn K cd57 "_law_taken" = true) (k57 : PySem.W.keepIn K (.ref f57) = true)
    {f58 : Addr} {od58 an58 : Option Addr} {sl58 : Array (Option Value)} {oc58 kV58 dc58 pm58 ct58 cd58 : Value} (a58 : PySem.W.nsIn K mainGlobals "_law_pick" = some (some (.ref f58))) (l58 : K.lookup f58 = some ⟨oc58, od58, .func (PySem.W.fnOf "_law_pick" "_law_pick" (defArgs sPick) (defBody sPick) (defScope sPick) .none kV58 dc58 pm58 an58 cd58 ct58), sl58⟩) (c58 : PySem.W.codeIn K cd58 "_law_pick" = true) (k58 : PySem.W.keepIn K (.ref f58) = true)
    {f59 : Addr} {od59 an59 : Option Addr} {sl59 : Array (Option Value)} {oc59 kV59 dc59 pm59 ct59 cd59 : Value} (a59 : PySem.W.nsIn K mainGlobals "_law_house" = some (some (.ref f59))) (l59 : K.lookup f59 = some ⟨oc59, od59, .func (PySem.W.fnOf "_law_house" "_law_house" (defArgs sHouse) (defBody sHouse) (defScope sHouse) .none kV59 dc59 pm59 an59 cd59 ct59), sl59⟩) (c59 : PySem.W.codeIn K cd59 "_law_house" = true) (k59 : PySem.W.keepIn K (.ref f59) = true)
    {f60 : Addr} {od60 an60 : Option Addr} {sl60 : Array (Option Value)} {oc60 kV60 dc60 pm60 ct60 cd60 : Value} (a60 : PySem.W.nsIn K mainGlobals "_law_near" = some (some (.ref f60))) (l60 : K.lookup f60 = some ⟨oc60, od60, .func (PySem.W.fnOf "_law_near" "_law_near" (defArgs sLNear) (defBody sLNear) (defScope sLNear) .none kV60 dc60 pm60 an60 cd60 ct60), sl60⟩) (c60 : PySem.W.codeIn K cd60 "_law_near" = true) (k60 : PySem.W.keepIn K (.ref f60) = true)
    {f61 : Addr} {od61 an61 : Option Addr} {sl61 : Array (Option Value)} {oc61 kV61 dc61 pm61 ct61 cd61 : Value} (a61 : PySem.W.nsIn K mainGlobals "_law_parted" = some (some (.ref f61))) (l61 : K.lookup f61 = some ⟨oc61, od61, .func (PySem.W.fnOf "_law_parted" "_law_parted" (defArgs sParted) (defBody sParted) (defScope sParted) .none kV61 dc61 pm61 an61 cd61 ct61), sl61⟩) (c61 : PySem.W.codeIn K cd61 "_law_parted" = true) (k61 : PySem.W.keepIn K (.ref f61) = true)
    {f62 : Addr} {od62 an62 : Option Addr} {sl62 : Array (Option Value)} {oc62 kV62 dc62 pm62 ct62 cd62 : Value} (a62 : PySem.W.nsIn K mainGlobals "law" = some (some (.ref f62))) (l62 : K.lookup f62 = some ⟨oc62, od62, .func (PySem.W.fnOf "law" "law" (defArgs sLaw) (defBody sLaw) (defScope sLaw) .none kV62 dc62 pm62 an62 cd62 ct62), sl62⟩) (c62 : PySem.W.codeIn K cd62 "law" = true) (k62 : PySem.W.keepIn K (.ref f62) = true)
    (z_len : PySem.W.nsIn K mainGlobals "len" = some none)
    (z_isinstance : PySem.W.nsIn K mainGlobals "isinstance" = some none)
    (z_int : PySem.W.nsIn K mainGlobals "int" = some none)
    (z_bool : PySem.W.nsIn K mainGlobals "bool" = some none)
    (z_tuple : PySem.W.nsIn K mainGlobals "tuple" = some none)
    (z_list : PySem.W.nsIn K mainGlobals "list" = some none)
    (z_range : PySem.W.nsIn K mainGlobals "range" = some none)
    (z_sorted : PySem.W.nsIn K mainGlobals "sorted" = some none)
    (z_set : PySem.W.nsIn K mainGlobals "set" = some none)
    (z_enumerate : PySem.W.nsIn K mainGlobals "enumerate" = some none)
    (z_zip : PySem.W.nsIn K mainGlobals "zip" = some none)
    (z_all : PySem.W.nsIn K mainGlobals "all" = some none)
    (z_any : PySem.W.nsIn K mainGlobals "any" = some none)
    (z_sum : PySem.W.nsIn K mainGlobals "sum" = some none)
    (z_max : PySem.W.nsIn K mainGlobals "max" = some none)
    (z_min : PySem.W.nsIn K mainGlobals "min" = some none)
    {t1 t2 t3 : Tok} {cb : Value} (g1 : PySem.W.nsIn K mainGlobals "MOST_ROOMS" = some (some (.int 8 t1))) (g2 : PySem.W.nsIn K mainGlobals "MOST_NUMBER" = some (some (.int 60 t2))) (g3 : PySem.W.nsIn K mainGlobals "MOST_KEYS" = some (some (.int 60 t3))) (g4 : PySem.W.nsIn K mainGlobals "BadState" = some (some cb))
    (hd : PySem.W.codeHdIn K c PT = true) (nP : K.lookup PT = none) : LamX.LawAtS l w K CX0 11 63 "_law_script" mg fa h := by
  have e := hfa.symm.trans (PySem.W.mg_of X G a62)
  cases e
  have B : Bz mg := ⟨PySem.W.mg_none_of X G z_len, PySem.W.mg_none_of X G z_isinstance, PySem.W.mg_none_of X G z_int, PySem.W.mg_none_of X G z_bool, PySem.W.mg_none_of X G z_tuple, PySem.W.mg_none_of X G z_list, PySem.W.mg_none_of X G z_range, PySem.W.mg_none_of X G z_sorted, PySem.W.mg_none_of X G z_set, PySem.W.mg_none_of X G z_enumerate, PySem.W.mg_none_of X G z_zip, PySem.W.mg_none_of X G z_all, PySem.W.mg_none_of X G z_any, PySem.W.mg_none_of X G z_sum, PySem.W.mg_none_of X G z_max, PySem.W.mg_none_of X G z_min⟩
  have Gg : Gz mg := ⟨⟨_, PySem.W.mg_of X G g1⟩, ⟨_, PySem.W.mg_of X G g2⟩, ⟨_, PySem.W.mg_of X G g3⟩⟩
  have hbs : ∃ c, mg "BadState" = some c := ⟨_, PySem.W.mg_of X G g4⟩
  have F1 := fun_mk (st := sIsInteger) l1 c1 k1
  have D1 : Dfn K mg "is_integer" sIsInteger ["value"] := ⟨f1, _, PySem.W.mg_of X G a1, F1, bd_is_integer F1⟩
  have F2 := fun_mk (st := sIsIn) l2 c2 k2
  have D2 : Dfn K mg "is_in" sIsIn ["value", "least", "most"] := ⟨f2, _, PySem.W.mg_of X G a2, F2, bd_is_in F2⟩
  have F3 := fun_mk (st := sIsList) l3 c3 k3
  have D3 : Dfn K mg "is_list" sIsList ["value", "least", "most"] := ⟨f3, _, PySem.W.mg_of X G a3, F3, bd_is_list F3⟩
  have F15 := fun_mk (st := sNeedDoors) l15 c15 k15
  have D15 : Dfn K mg "need_doors" sNeedDoors ["size", "doors"] := ⟨f15, _, PySem.W.mg_of X G a15, F15, bd_need_doors F15⟩
  have F16 := fun_mk (st := sNeedHouse) l16 c16 k16
  have D16 : Dfn K mg "need_house" sNeedHouse ["house"] := ⟨f16, _, PySem.W.mg_of X G a16, F16, bd_need_house F16⟩
  have F17 := fun_mk (st := sNeedSet) l17 c17 k17
  have D17 : Dfn K mg "need_set" sNeedSet ["house", "rooms"] := ⟨f17, _, PySem.W.mg_of X G a17, F17, bd_need_set F17⟩
  have F18 := fun_mk (st := sNear) l18 c18 k18
  have D18 : Dfn K mg "near" sNear ["house"] := ⟨f18, _, PySem.W.mg_of X G a18, F18, bd_near F18⟩
  have F22 := fun_mk (st := sNeedNumbers) l22 c22 k22
  have D22 : Dfn K mg "need_numbers" sNeedNumbers ["house", "state"] := ⟨f22, _, PySem.W.mg_of X G a22, F22, bd_need_numbers F22⟩
  have F23 := fun_mk (st := sNeedState) l23 c23 k23
  have D23 : Dfn K mg "need_state" sNeedState ["house", "state"] := ⟨f23, _, PySem.W.mg_of X G a23, F23, bd_need_state F23⟩
  have F24 := fun_mk (st := sNeedRow) l24 c24 k24
  have D24 : Dfn K mg "need_row" sNeedRow ["house", "keys"] := ⟨f24, _, PySem.W.mg_of X G a24, F24, bd_need_row F24⟩
  have F25 := fun_mk (st := sFree) l25 c25 k25
  have D25 : Dfn K mg "free_number" sFree ["rows", "state", "room"] := ⟨f25, _, PySem.W.mg_of X G a25, F25, bd_free_number F25⟩
  have F26 := fun_mk (st := sKeyIn) l26 c26 k26
  have D26 : Dfn K mg "key_in" sKeyIn ["rows", "state", "room"] := ⟨f26, _, PySem.W.mg_of X G a26, F26, bd_key_in F26⟩
  have F27 := fun_mk (st := sStoryIn) l27 c27 k27
  have D27 : Dfn K mg "story_in" sStoryIn ["rows", "state", "keys"] := ⟨f27, _, PySem.W.mg_of X G a27, F27, bd_story_in F27⟩
  have F28 := fun_mk (st := sAfter) l28 c28 k28
  have D28 : Dfn K mg "after" sAfter ["house", "state", "keys"] := ⟨f28, _, PySem.W.mg_of X G a28, F28, bd_after F28⟩
  have F29 := fun_mk (st := sLikeIn) l29 c29 k29
  have D29 : Dfn K mg "like_in" sLikeIn ["house", "state"] := ⟨f29, _, PySem.W.mg_of X G a29, F29, bd_like_in F29⟩
  have F30 := fun_mk (st := sNeedParted) l30 c30 k30
  have D30 : Dfn K mg "need_parted" sNeedParted ["house", "state"] := ⟨f30, _, PySem.W.mg_of X G a30, F30, bd_need_parted F30⟩
  have F31 := fun_mk (st := sRestsIn) l31 c31 k31
  have D31 : Dfn K mg "rests_in" sRestsIn ["rows", "state"] := ⟨f31, _, PySem.W.mg_of X G a31, F31, bd_rests_in F31⟩
  have F34 := fun_mk (st := sIsLargest) l34 c34 k34
  have D34 : Dfn K mg "is_largest" sIsLargest ["rows", "rooms", "some"] := ⟨f34, _, PySem.W.mg_of X G a34, F34, bd_is_largest F34⟩
  have F33 := fun_mk (st := sLargestIn) l33 c33 k33
  have D33 : Dfn K mg "largest_in" sLargestIn ["rows", "rooms"] := ⟨f33, _, PySem.W.mg_of X G a33, F33, bd_largest_in F33⟩
  have F35 := fun_mk (st := sNeedRest) l35 c35 k35
  have D35 : Dfn K mg "need_rest" sNeedRest ["house", "rest"] := ⟨f35, _, PySem.W.mg_of X G a35, F35, bd_need_rest F35⟩
  have F37 := fun_mk (st := sIsBelow) l37 c37 k37
  have D37 : Dfn K mg "is_below" sIsBelow ["one", "other"] := ⟨f37, _, PySem.W.mg_of X G a37, F37, bd_is_below F37⟩
  have F38 := fun_mk (st := sBelowIn) l38 c38 k38
  have D38 : Dfn K mg "below_in" sBelowIn ["rows", "rooms", "state", "level"] := ⟨f38, _, PySem.W.mg_of X G a38, F38, bd_below_in F38⟩
  have F39 := fun_mk (st := sRestsUnder) l39 c39 k39
  have D39 : Dfn K mg "rests_under" sRestsUnder ["house", "state"] := ⟨f39, _, PySem.W.mg_of X G a39, F39, bd_rests_under F39⟩
  have F40 := fun_mk (st := sRestsBelow) l40 c40 k40
  have D40 : Dfn K mg "rests_below" sRestsBelow ["house", "state"] := ⟨f40, _, PySem.W.mg_of X G a40, F40, bd_rests_below F40⟩
  have F41 := fun_mk (st := sNeedBoth) l41 c41 k41
  have D41 : Dfn K mg "need_both" sNeedBoth ["house", "state", "rest"] := ⟨f41, _, PySem.W.mg_of X G a41, F41, bd_need_both F41⟩
  have F42 := fun_mk (st := sFewestKeys) l42 c42 k42
  have D42 : Dfn K mg "fewest_keys" sFewestKeys ["house", "state", "rest"] := ⟨f42, _, PySem.W.mg_of X G a42, F42, bd_fewest_keys F42⟩
  have F43 := fun_mk (st := sCountFrom) l43 c43 k43
  have D43 : Dfn K mg "count_from" sCountFrom ["rows", "state", "rest", "known"] := ⟨f43, _, PySem.W.mg_of X G a43, F43, bd_count_from F43⟩
  have F44 := fun_mk (st := sCountShortest) l44 c44 k44
  have D44 : Dfn K mg "count_shortest" sCountShortest ["house", "state", "rest"] := ⟨f44, _, PySem.W.mg_of X G a44, F44, bd_count_shortest F44⟩
  have F45 := fun_mk (st := sShowsRow) l45 c45 k45
  have D45 : Dfn K mg "shows_row" sShowsRow ["house", "state", "rest", "value"] := ⟨f45, _, PySem.W.mg_of X G a45, F45, bd_shows_row F45⟩
  have F47 := fun_mk (st := sFit) l47 c47 k47
  have D47 : Dfn K mg "fit_rooms" sFit ["rows", "state", "rest"] := ⟨f47, _, PySem.W.mg_of X G a47, F47, bd_fit_rooms F47⟩
  have F48 := fun_mk (st := sSubsets) l48 c48 k48
  have D48 : Dfn K mg "subsets" sSubsets ["rooms"] := ⟨f48, _, PySem.W.mg_of X G a48, F48, bd_subsets F48⟩
  have F49 := fun_mk (st := sPut) l49 c49 k49
  have D49 : Dfn K mg "put" sPut ["state", "rest", "rooms"] := ⟨f49, _, PySem.W.mg_of X G a49, F49, bd_put F49⟩
  have F50 := fun_mk (st := sWavesFrom) l50 c50 k50
  have D50 : DfnC K mg "waves_from" sWavesFrom ["rows", "state", "rest", "known"] c := ⟨f50, _, _, _, _, _, _, _, _, PySem.W.mg_of X G a50, k50, l50, c50, bd_waves_from F50⟩
  have F51 := fun_mk (st := sWaves) l51 c51 k51
  have D51 : Dfn K mg "waves" sWaves ["house", "state", "rest"] := ⟨f51, _, PySem.W.mg_of X G a51, F51, bd_waves F51⟩
  have F52 := fun_mk (st := sFewestWaves) l52 c52 k52
  have D52 : Dfn K mg "fewest_waves" sFewestWaves ["house", "state", "rest"] := ⟨f52, _, PySem.W.mg_of X G a52, F52, bd_fewest_waves F52⟩
  have F53 := fun_mk (st := sEager) l53 c53 k53
  have D53 : Dfn K mg "eager_waves" sEager ["house", "state", "rest"] := ⟨f53, _, PySem.W.mg_of X G a53, F53, bd_eager_waves F53⟩
  have F55 := fun_mk (st := sAtOnce) l55 c55 k55
  have D55 : Dfn K mg "at_once" sAtOnce ["house", "state", "rooms"] := ⟨f55, _, PySem.W.mg_of X G a55, F55, bd_at_once F55⟩
  have F57 := fun_mk (st := sTaken) l57 c57 k57
  have D57 : Dfn K mg "_law_taken" sTaken ["_law_row", "_law_many"] := ⟨f57, _, PySem.W.mg_of X G a57, F57, bd__law_taken F57⟩
  have F58 := fun_mk (st := sPick) l58 c58 k58
  have D58 : Dfn K mg "_law_pick" sPick ["_law_row", "_law_things"] := ⟨f58, _, PySem.W.mg_of X G a58, F58, bd__law_pick F58⟩
  have F59 := fun_mk (st := sHouse) l59 c59 k59
  have D59 : Dfn K mg "_law_house" sHouse ["_law_row", "_law_most"] := ⟨f59, _, PySem.W.mg_of X G a59, F59, bd__law_house F59⟩
  have F60 := fun_mk (st := sLNear) l60 c60 k60
  have D60 : Dfn K mg "_law_near" sLNear ["_law_house_here"] := ⟨f60, _, PySem.W.mg_of X G a60, F60, bd__law_near F60⟩
  have F61 := fun_mk (st := sParted) l61 c61 k61
  have D61 : Dfn K mg "_law_parted" sParted ["_law_row", "_law_house_here", "_law_top"] := ⟨f61, _, PySem.W.mg_of X G a61, F61, bd__law_parted F61⟩
  have F62 := fun_mk (st := sLaw) l62 c62 k62
  refine ⟨PySem.W.fnOf "law" "law" (defArgs sLaw) (defBody sLaw) (defScope sLaw) .none kV62 dc62 pm62 an62 cd62 ct62, [(c, PT)], spLaw K PT, fun p hp => ?_, fun p hp => ?_, fun p hp => ?_, fun s u => .of_eq rfl, fun H a ns _ _ hT hS => ⟨a, ns, rfl, hS, hT (c, PT) (by simp), fun _ => rfl⟩, fun base hK hN hTB => ?_⟩
  · rw [List.mem_singleton.mp hp]
    exact hP
  · rw [List.mem_singleton.mp hp]
    exact nP
  · rw [List.mem_singleton.mp hp]
    exact PySem.W.codeHd_of_K X hd
  have TB : LamX.TabB base mg c PT := hTB (c, PT) (by simp)
  have c_is_integer := cd_is_integer (P := l.prog) (w := w) (base := base) B D1
  have c_is_in := cd_is_in (P := l.prog) (w := w) (base := base) B D2 c_is_integer
  have c_is_list := cd_is_list (P := l.prog) (w := w) (base := base) B D3
  have c_need_doors := cd_need_doors (P := l.prog) (w := w) (base := base) B Gg D15 c_is_in c_is_list
  have c_need_house := cd_need_house (P := l.prog) (w := w) (base := base) B Gg D16 c_is_in c_is_list c_need_doors
  have c_need_set := cd_need_set (P := l.prog) (w := w) (base := base) B D17 c_is_in c_is_list
  have c_near := cd_near (P := l.prog) (w := w) (base := base) B D18
  have c_need_numbers := cd_need_numbers (P := l.prog) (w := w) (base := base) B Gg D22 c_is_in c_is_list
  have c_need_state := cd_need_state (P := l.prog) (w := w) (base := base) D23 c_need_house c_need_numbers
  have c_need_row := cd_need_row (P := l.prog) (w := w) (base := base) B Gg D24 c_is_in c_is_list
  have c_free_number := cd_free_number (P := l.prog) (w := w) (base := base) B D25
  have c_key_in := cd_key_in (P := l.prog) (w := w) (base := base) B D26 c_free_number
  have c_story_in := cd_story_in (P := l.prog) (w := w) (base := base) B D27 c_key_in
  have c_after := cd_after (P := l.prog) (w := w) (base := base) B D28 c_story_in c_need_state c_need_row c_near
  have c_like_in := cd_like_in (P := l.prog) (w := w) (base := base) B D29
  have c_need_parted := cd_need_parted (P := l.prog) (w := w) (base := base) B D30 c_need_state c_like_in
  have c_rests_in := cd_rests_in (P := l.prog) (w := w) (base := base) B D31 c_free_number
  have c_is_largest := cd_is_largest (P := l.prog) (w := w) (base := base) B D34
  have c_largest_in := cd_largest_in (P := l.prog) (w := w) (base := base) B D33 c_is_largest
  have c_need_rest := cd_need_rest (P := l.prog) (w := w) (base := base) B D35 hbs c_need_numbers c_rests_in c_near
  have c_is_below := cd_is_below (P := l.prog) (w := w) (base := base) B D37
  have c_below_in := cd_below (P := l.prog) (w := w) (base := base) B D38 c_largest_in 5
  have c_rests_under := cd_rests_under (P := l.prog) (w := w) (base := base) B D39 c_below_in c_near
  have c_rests_below := cd_rests_below (P := l.prog) (w := w) (base := base) D40 c_need_parted c_rests_under
  have c_need_both := cd_need_both (P := l.prog) (w := w) (base := base) D41 c_need_parted c_need_rest c_is_below
  have c_fewest_keys := cd_fewest_keys (P := l.prog) (w := w) (base := base) B D42 c_need_both
  have c_count_from := cd_count (P := l.prog) (w := w) (base := base) B D43 c_free_number c_key_in 5
  have c_count_shortest := cd_count_shortest (P := l.prog) (w := w) (base := base) D44 c_need_both c_count_from c_near
  have c_shows_row := cd_shows_row (P := l.prog) (w := w) (base := base) B D45 c_need_both c_key_in c_near
  have c_fit_rooms := cd_fit_rooms (P := l.prog) (w := w) (base := base) B D47 c_free_number
  have c_subsets := cd_subsets (P := l.prog) (w := w) (base := base) B D48
  have c_put := cd_put (P := l.prog) (w := w) (base := base) B D49
  have c_waves_from := cd_waves_from (P := l.prog) (w := w) (base := base) B D50 TB c_fit_rooms c_subsets c_put 5
  have c_waves := cd_waves (P := l.prog) (w := w) (base := base) D51 c_need_both c_waves_from c_near
  have c_fewest_waves := cd_fewest_waves (P := l.prog) (w := w) (base := base) B D52 c_need_both c_waves_from c_near
  have c_eager_waves := cd_eager (P := l.prog) (w := w) (base := base) B D53 c_need_both c_fit_rooms c_near c_put
  have c_at_once := cd_at_once (P := l.prog) (w := w) (base := base) B D55 c_need_state c_need_set c_near c_free_number
  have c__law_taken := cd_taken (P := l.prog) (w := w) (base := base) B D57
  have c__law_pick := cd_pick (P := l.prog) (w := w) (base := base) B D58 c__law_taken
  have c__law_house := cd_house (P := l.prog) (w := w) (base := base) B D59 c__law_taken
  have c__law_near := cd_law_near (P := l.prog) (w := w) (base := base) B D60
  have c__law_parted := cd_parted (P := l.prog) (w := w) (base := base) B D61 c__law_pick c__law_near
  exact ok_law F62 B c__law_house c__law_parted c__law_pick c_rests_below c_waves c_fewest_keys c_at_once c_fewest_waves c_eager_waves c_count_shortest c_shows_row c_after
end Mx
open PySem PySem.W PyProof.Rows
set_option maxHeartbeats 0 in
theorem PySem.Challenge.cw_mexrooms_k91_whole_waves_compared_holds : PySem.Challenge.rw_mexrooms_k91_whole_waves_compared.Holds := by
  w_on; o_law; k_head; (case hw => w_witness2)
  k_fill
  refine LamX.walk_ofTs (l := PySem.Challenge.rw_mexrooms_k91_whole_waves_compared) (n := 63) (k := 11) (CX := fun _ => L2.CX0) (x := "_law_script") rfl (by decide) rfl ⟨rfl, by decide, by decide⟩ (fun w h Y => PySem.W.km_in_of Y) ?F (fun _ _ _ _ _ z => z)
  case F =>
    intro w mg fa h Y KX G hmg
    refine' Mx.all_mk (PT := 330) KX G hmg (PySem.W.km_tabs_of Y 330 (by simp)) ?a1 ?l1 ?c1 ?k1 ?a2 ?l2 ?c2 ?k2 ?a3 ?l3 ?c3 ?k3 ?a15 ?l15 ?c15 ?k15 ?a16 ?l16 ?c16 ?k16 ?a17 ?l17 ?c17 ?k17 ?a18 ?l18 ?c18 ?k18 ?a22 ?l22 ?c22 ?k22 ?a23 ?l23 ?c23 ?k23 ?a24 ?l24 ?c24 ?k24 ?a25 ?l25 ?c25 ?k25 ?a26 ?l26 ?c26 ?k26 ?a27 ?l27 ?c27 ?k27 ?a28 ?l28 ?c28 ?k28 ?a29 ?l29 ?c29 ?k29 ?a30 ?l30 ?c30 ?k30 ?a31 ?l31 ?c31 ?k31 ?a34 ?l34 ?c34 ?k34 ?a33 ?l33 ?c33 ?k33 ?a35 ?l35 ?c35 ?k35 ?a37 ?l37 ?c37 ?k37 ?a38 ?l38 ?c38 ?k38 ?a39 ?l39 ?c39 ?k39 ?a40 ?l40 ?c40 ?k40 ?a41 ?l41 ?c41 ?k41 ?a42 ?l42 ?c42 ?k42 ?a43 ?l43 ?c43 ?k43 ?a44 ?l44 ?c44 ?k44 ?a45 ?l45 ?c45 ?k45 ?a47 ?l47 ?c47 ?k47 ?a48 ?l48 ?c48 ?k48 ?a49 ?l49 ?c49 ?k49 ?a50 ?l50 ?c50 ?k50 ?a51 ?l51 ?c51 ?k51 ?a52 ?l52 ?c52 ?k52 ?a53 ?l53 ?c53 ?k53 ?a55 ?l55 ?c55 ?k55 ?a57 ?l57 ?c57 ?k57 ?a58 ?l58 ?c58 ?k58 ?a59 ?l59 ?c59 ?k59 ?a60 ?l60 ?c60 ?k60 ?a61 ?l61 ?c61 ?k61 ?a62 ?l62 ?c62 ?k62 ?z_len ?z_isinstance ?z_int ?z_bool ?z_tuple ?z_list ?z_range ?z_sorted ?z_set ?z_enumerate ?z_zip ?z_all ?z_any ?z_sum ?z_max ?z_min ?g1 ?g2 ?g3 ?g4 ?hd ?nP
    (case a1 => k_is)
    (case l1 => k_is)
    (case c1 => k_is)
    (case k1 => k_is)
    (case a2 => k_is)
    (case l2 => k_is)
    (case c2 => k_is)
    (case k2 => k_is)
    (case a3 => k_is)
    (case l3 => k_is)
    (case c3 => k_is)
    (case k3 => k_is)
    (case a15 => k_is)
    (case l15 => k_is)
    (case c15 => k_is)
    (case k15 => k_is)
    (case a16 => k_is)
    (case l16 => k_is)
    (case c16 => k_is)
    (case k16 => k_is)
    (case a17 => k_is)
    (case l17 => k_is)
    (case c17 => k_is)
    (case k17 => k_is)
    (case a18 => k_is)
    (case l18 => k_is)
    (case c18 => k_is)
    (case k18 => k_is)
    (case a22 => k_is)
    (case l22 => k_is)
    (case c22 => k_is)
    (case k22 => k_is)
    (case a23 => k_is)
    (case l23 => k_is)
    (case c23 => k_is)
    (case k23 => k_is)
    (case a24 => k_is)
    (case l24 => k_is)
    (case c24 => k_is)
    (case k24 => k_is)
    (case a25 => k_is)
    (case l25 => k_is)
    (case c25 => k_is)
    (case k25 => k_is)
    (case a26 => k_is)
    (case l26 => k_is)
    (case c26 => k_is)
    (case k26 => k_is)
    (case a27 => k_is)
    (case l27 => k_is)
    (case c27 => k_is)
    (case k27 => k_is)
    (case a28 => k_is)
    (case l28 => k_is)
    (case c28 => k_is)
    (case k28 => k_is)
    (case a29 => k_is)
    (case l29 => k_is)
    (case c29 => k_is)
    (case k29 => k_is)
    (case a30 => k_is)
    (case l30 => k_is)
    (case c30 => k_is)
    (case k30 => k_is)
    (case a31 => k_is)
    (case l31 => k_is)
    (case c31 => k_is)
    (case k31 => k_is)
    (case a34 => k_is)
    (case l34 => k_is)
    (case c34 => k_is)
    (case k34 => k_is)
    (case a33 => k_is)
    (case l33 => k_is)
    (case c33 => k_is)
    (case k33 => k_is)
    (case a35 => k_is)
    (case l35 => k_is)
    (case c35 => k_is)
    (case k35 => k_is)
    (case a37 => k_is)
    (case l37 => k_is)
    (case c37 => k_is)
    (case k37 => k_is)
    (case a38 => k_is)
    (case l38 => k_is)
    (case c38 => k_is)
    (case k38 => k_is)
    (case a39 => k_is)
    (case l39 => k_is)
    (case c39 => k_is)
    (case k39 => k_is)
    (case a40 => k_is)
    (case l40 => k_is)
    (case c40 => k_is)
    (case k40 => k_is)
    (case a41 => k_is)
    (case l41 => k_is)
    (case c41 => k_is)
    (case k41 => k_is)
    (case a42 => k_is)
    (case l42 => k_is)
    (case c42 => k_is)
    (case k42 => k_is)
    (case a43 => k_is)
    (case l43 => k_is)
    (case c43 => k_is)
    (case k43 => k_is)
    (case a44 => k_is)
    (case l44 => k_is)
    (case c44 => k_is)
    (case k44 => k_is)
    (case a45 => k_is)
    (case l45 => k_is)
    (case c45 => k_is)
    (case k45 => k_is)
    (case a47 => k_is)
    (case l47 => k_is)
    (case c47 => k_is)
    (case k47 => k_is)
    (case a48 => k_is)
    (case l48 => k_is)
    (case c48 => k_is)
    (case k48 => k_is)
    (case a49 => k_is)
    (case l49 => k_is)
    (case c49 => k_is)
    (case k49 => k_is)
    (case a50 => k_is)
    (case l50 => k_is)
    (case c50 => k_is)
    (case k50 => k_is)
    (case a51 => k_is)
    (case l51 => k_is)
    (case c51 => k_is)
    (case k51 => k_is)
    (case a52 => k_is)
    (case l52 => k_is)
    (case c52 => k_is)
    (case k52 => k_is)
    (case a53 => k_is)
    (case l53 => k_is)
    (case c53 => k_is)
    (case k53 => k_is)
    (case a55 => k_is)
    (case l55 => k_is)
    (case c55 => k_is)
    (case k55 => k_is)
    (case a57 => k_is)
    (case l57 => k_is)
    (case c57 => k_is)
    (case k57 => k_is)
    (case a58 => k_is)
    (case l58 => k_is)
    (case c58 => k_is)
    (case k58 => k_is)
    (case a59 => k_is)
    (case l59 => k_is)
    (case c59 => k_is)
    (case k59 => k_is)
    (case a60 => k_is)
    (case l60 => k_is)
    (case c60 => k_is)
    (case k60 => k_is)
    (case a61 => k_is)
    (case l61 => k_is)
    (case c61 => k_is)
    (case k61 => k_is)
    (case a62 => k_is)
    (case l62 => k_is)
    (case c62 => k_is)
    (case k62 => k_is)
    (case z_len => k_is)
    (case z_isinstance => k_is)
    (case z_int => k_is)
    (case z_bool => k_is)
    (case z_tuple => k_is)
    (case z_list => k_is)
    (case z_range => k_is)
    (case z_sorted => k_is)
    (case z_set => k_is)
    (case z_enumerate => k_is)
    (case z_zip => k_is)
    (case z_all => k_is)
    (case z_any => k_is)
    (case z_sum => k_is)
    (case z_max => k_is)
    (case z_min => k_is)
    (case g1 => k_is)
    (case g2 => k_is)
    (case g3 => k_is)
    (case g4 => k_is)
    (case hd => first | kernel_rfl | rfl | with_unfolding_all rfl)
    (case nP => first | kernel_rfl | rfl | with_unfolding_all rfl)
