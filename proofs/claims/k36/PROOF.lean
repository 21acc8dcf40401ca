import PyProof.Rows.All
import Wide.All
import OpenK.AllK
import Wide.FinOn
import HandS.ForMost
import HandS.ForExc
import HandS.ExcInit
import HandS.ExcField
import HandS.IsInst
import HandS.Style
import HandS.Gcd
import HandS.Wide
import HandS.Deep
import HandS.Flow
import HandS.Zip
import HandS.Evl
import HandS.Walk
import HandS.SortInts
import HandS.Conv
import HandS.ExcValue
import KE.KExcIs
import PySem.Challenge.RW_slotwork_k36_whole_times_in_spans
set_option Elab.async false
set_option linter.all false
set_option maxRecDepth 100000
set_option maxHeartbeats 4000000
namespace Sw
open PySem PySem.Spec PyProof.Rows L2
section
variable {X : Cx}
/-- what the written part says of the own class B over ValueError, so that B.__init__(self, ..) is ValueError's -/
structure BaseC (K : PySem.W.Frag) (B : Addr) : Prop where
  sp : PySem.W.specialIn K (.ref B) "__getattribute__" = some (some (.builtin "type.__getattribute__"))
  rd : PySem.W.readsIn K B (.type "type") = true
  iv : PySem.W.findCls K (.ref B) (.type "type") "__init__" = some (.val (.builtin "ValueError.__init__"))
theorem pe_binit {x : Str} {B : Addr} {p1 p2 pos : Pos} {e : Expr} {es : List Expr} {ta : TA} {pl : Sem Bool} (T : BaseC X.K B) (hg : Gl X x) (hm : X.mg x = some (.ref B)) (ha : PA X (e :: es) ta)
    (hdb : (x == ("__debug__" : Str)) = false := by decide)
    (hc : eval (.Call (.Attribute (.Name x p1) "__init__" p2) (e :: es) [] pos) X.env = (do
      let o ← eval (.Name x p1) X.env
      standAt p2.atName
      let (g, fst) ← holding [o] (getMethod o "__init__" pl)
      callWith pos g fst (backTo pos (starEach (e :: es) X.env)) (backToKw pos (keywordEach [] X.env))) := by rfl)
    (he : starEach (e :: es) X.env = (false, eval e X.env) :: starEach es X.env := by rfl) (hpl : (backTo pos (starEach es X.env)).any (·.1) = false := by rfl) :
    PE X (.Call (.Attribute (.Name x p1) "__init__" p2) (e :: es) [] pos) (tVeI X.K ta) := by
  refine ⟨fun pins s σ H Q I h => ?_⟩
  refine PySem.W.methodCall_KW (ld_glob I hg hm ?_ hdb) hc
  refine PySem.W.method_cls I.kIn T.sp ?_
  refine PySem.W.cls_value I.kIn T.rd T.iv (by decide +kernel) ?_
  refine PyProof.Rows.callWith_method1 (thn (ha.run pos pins _ σ H _ (I.tok _) h) fun us s1 ⟨vs, H1, I1, r1, a, C, ws, ev, hl, T', ea, q⟩ => ?_) he hpl
  subst ev
  cases r1 with
  | @cons _ u0 _ ur ra rw' =>
    obtain rfl : u0 = Value.ref a := ra
    refine oinit_ok T' I1 ea ?_ fun s' J => ⟨.non, H1, J, rfl, q⟩
    rw [← Paired.length rw', sizeLine_eq]
    omega

/-- isinstance(error, c), error the exception that the suite holds, at a, of the class at D -/
structure IsC (K : PySem.W.Frag) (D : Addr) : Prop where
  hc : (PySem.W.clsIn K D).isSome = true
  hg : PySem.W.findIn K (.ref D) "__getattribute__" = some (some (.builtin "BaseException.__getattribute__"))
  hk : PySem.W.findIn K (.ref D) "__getattr__" = some none
  hs : PySem.W.subIn K (.ref D) (.type "BaseException") = some true
  ha : PySem.W.findIn K (.ref D) "__class__" = some (some (.builtin "object.__class__"))
  hn : PySem.W.specialIn K (.builtin "object.__class__") "__get__" = some (some (.builtin "getset_descriptor.__get__"))
  ht : PySem.W.takesIn K (.builtin "object.__class__") = some true
  hm : PySem.W.mroIn K D (.type "object") = some true
def rIsX (K : PySem.W.Frag) (a : Addr) (cls : Value) (d : Option Addr) : List V → Hp → VK → Prop := fun xs H Q =>
  ∃ (D C : Addr) (b : Bool) (dd : Addr) (fs : List (Str × V)), xs = [.ref a, .ref C] ∧ cls = .ref D ∧ IsC K D ∧ d = some dd ∧ H dd = some (.xd fs) ∧ PySem.W.kitOne K (.ref D) (.ref C) = some b ∧ Q (.bl b) H
theorem call_isX {a : Addr} {cls : Value} {d : Option Addr} {oe : Obj} {pn : List (Addr × Obj)} (hz : Zc cls d oe) (hf : ∃ vs, oe.data = .fields vs) : CallR (X.suite a ((a, oe) :: pn)) (.builtin "isinstance") (rIsX X.K a cls d) := by
  intro pins s σ H xs us Q I r h
  obtain ⟨D, C, b, dd, fs, rfl, rfl, T, rfl, ea, e, q⟩ := h
  cases r with
  | cons rx rr =>
    cases rr with
    | cons rt rr =>
      cases rr
      cases rx
      cases rt
      have hget := (I.pin (a, oe) (List.mem_append_left _ List.mem_cons_self)).1
      obtain ⟨mA, hns, hr⟩ := (show ObjOk X.prog X.w H s.heap dd (.xd fs) from I.hok dd _ ea)
      obtain ⟨od, ho, hl⟩ := lookIn_ns hns
      obtain ⟨vs, hd⟩ := hf
      have J : PySem.W.InstAt s.heap a oe D (some od) := ⟨hget, hz.1, by unfold PySem.W.notCls; rw [hd] <;> rfl, by rw [hz.2]; exact ho⟩
      exact PySem.W.kia_one (PySem.W.kitx_exc T.hc T.hg T.hk T.hs T.ha T.hn T.ht T.hm) I.kIn J e (fun z => nomatch z) fun tk => ⟨.bl b, H, I.tok tk, rfl, q⟩
end

/-! ### // by a divisor of any sign, of many digits -/
def CDivZ (_ j : Int) : Prop := j ≠ 0 ∧ j.natAbs.log2 < 9000
theorem op_fdivZ {X : Cx} : OpR X (binaryOp .FloorDiv) (rI CDivZ fun i j => .int (i.fdiv j)) := opI fun i j _ _ _ _ _ hc k => floordiv_int hc.1 k (.inl (PyProof.noPylong_of_log2 hc.2))
theorem cdivZ_of {i j : Int} {b : Nat} (h : j ≠ 0) (hb : j.natAbs < 2 ^ b) (h0 : 0 < b) (h9 : b ≤ 9000) : CDivZ i j := ⟨h, Nat.lt_of_lt_of_le (PySem.Flt.log2_lt_of h0 hb) h9⟩

/-! ### heaps -/
theorem upd_self {H : Hp} {p : Addr} {o : HO} (h : H p = some o) : upd H p o = H := by
  funext b
  by_cases e : b = p
  · rw [e, upd_same, h]
  · rw [upd_ne e]
theorem _root_.L2.Same.new {H : Hp} {p : Addr} {o : HO} (h : H p = none) : Same H (upd H p o) := fun b u e => by
  rw [upd_ne (ne_of_none e h)]
  exact e
theorem _root_.L2.Same.then_new {H H' : Hp} {p : Addr} {o : HO} (e : Same H H') (h : H' p = none) : Same H (upd H' p o) := e.trans (Same.new h)
/-- what H does not know may change -/
theorem _root_.L2.Same.mut {H H' : Hp} {p : Addr} {o : HO} (e : Same H H') (h : H p = none) : Same H (upd H' p o) := fun b u ha => by
  rw [upd_ne (ne_of_none ha h)]
  exact e b u ha
theorem _root_.L2.Same.tup {K : PySem.W.Frag} {H H' : Hp} {a : Addr} {xs : List V} (e : Same H H') (h : SqT K H a xs) : SqT K H' a xs := by
  rcases h with (h | ⟨o, h⟩) | h
  · exact .inl (.inl (e _ _ h))
  · exact .inl (.inr ⟨o, e _ _ h⟩)
  · exact .inr h

theorem same_none {H : Hp} : Same (fun _ => none) H := fun _ _ e => by cases e

/-! ### raise C(w) -/
/-- C(w) is raised, w its what -/
def raisesW (C : Addr) (w : Str) (H : Hp) (E : XK) : Prop := ∀ d H', Same H H' → H' d = some (.xd [("what", .str w)]) → E (.ref C) (some d) H'
theorem raisesW.mono {C : Addr} {w : Str} {H H' : Hp} {E : XK} (h : raisesW C w H E) (s : Same H H') : raisesW C w H' E := fun d H2 s2 hd => h d H2 (s.trans s2) hd
def sp_exinit (C : Addr) : Sp := fun vs H Q _ => ∃ (x : Addr) (w : Str), vs = [.ref x, .str w] ∧ H x = some (exo x C none) ∧ w.length ≤ 1000 ∧ ∀ dx, H dx = none → dx ≠ x → Q .non (upd (upd H dx (exd dx [("what", .str w)])) x (exo x C (some dx)))
theorem raise_ok {C : Addr} {w : Str} {H : Hp} {E : XK} (h : raisesW C w H E) (hl : w.length ≤ 1000) : ∀ a, H a = none → sp_exinit C (.ref a :: ([.str w] ++ [])) (upd H a (exo a C none))
    (fun v H2 => v = .non ∧ ∃ (d : Addr) (fs : List (Str × V)), H2 a = some (exo a C (some d)) ∧ H2 d = some (exd d fs) ∧ H d = none ∧ E (.ref C) (some d) (upd (del H2 a) d (.xd fs))) (fun _ _ _ => False) := fun a ha =>
  ⟨a, w, rfl, upd_same, hl, fun dx hd hne => by
    have hd' : H dx = none := by rw [upd_ne hne] at hd; exact hd
    refine ⟨rfl, dx, _, upd_same, by rw [upd_ne hne, upd_same], hd', h dx _ (fun b o e => ?_) upd_same⟩
    have n1 : b ≠ dx := ne_of_none e hd'
    have n2 : b ≠ a := ne_of_none e ha
    rw [upd_ne n1, del_ne n2, upd_ne n2, upd_ne n1, upd_ne n2]
    exact e⟩

/-! ### the deck: its numbers in the order in which they are taken -/
def dk (D : List Int) : HO := .lst (D.reverse.map V.int)
def tk (D : List Int) (m : Int) : Int := D.headD 0 % m
theorem tk_nonneg (D : List Int) {m : Int} (h : 0 < m) : 0 ≤ tk D m := Int.emod_nonneg _ (by omega)
theorem tk_lt (D : List Int) {m : Int} (h : 0 < m) : tk D m < m := Int.emod_lt_of_pos _ h
def sp_take0 : Sp := fun vs H Q _ => ∃ (d : Addr) (D : List Int) (m : Int), vs = [.ref d, .int m] ∧ H d = some (dk D) ∧ 0 < m ∧ Q (.int (tk D m)) (upd H d (dk D.tail))
@[irreducible] def sp_take : Sp := sp_take0
theorem sp_take_eq : sp_take = sp_take0 := by unfold sp_take; rfl
theorem dk_last {x : Int} {D : List Int} : ((x :: D).reverse.map V.int)[((x :: D).reverse.map V.int).length - 1]? = some (V.int x) := by simp
theorem dk_drop {x : Int} {D : List Int} : ((x :: D).reverse.map V.int).dropLast = D.reverse.map V.int := by simp
def sp_deck (K : PySem.W.Frag) : Sp := fun vs H Q _ => ∃ (sa : Addr) (ns : List Int) (c e : Int), vs = [.ref sa, .int c, .int e] ∧ SqL K H sa (ns.map V.int) ∧ ns.length ≤ 1000 ∧ 0 ≤ c ∧ c ≤ 1000 ∧ 0 ≤ e ∧ e ≤ 100 ∧
  ∀ (D : List Int) (p : Addr) (H' : Hp), H p = none → Same H H' → H' p = some (dk D) → Q (.ref p) H'

/-! ### data: all that is known to a heap stays -/
mutual
theorem dp_same {K : PySem.W.Frag} {H H' : Hp} (s : Same H H') : ∀ (d : PyData) (v : V), Dp K H v d → Dp K H' v d
  | .none, _, h => by cases h; exact .non
  | .bool b, _, h => by cases h; exact .bl b
  | .int i, _, h => by cases h; exact .int i
  | .str x, _, h => by cases h; exact .str x
  | .list ds, _, h => by
    cases h with
    | lst h1 h2 => exact .lst (s.seq h1) (dpAll_same s ds _ h2)
  | .tuple ds, _, h => by
    cases h with
    | tup h1 h2 => exact .tup (s.tup h1) (dpAll_same s ds _ h2)
  | .dict _, _, h => nomatch h
theorem dpAll_same {K : PySem.W.Frag} {H H' : Hp} (s : Same H H') : ∀ (ds : List PyData) (vs : List V), DpAll K H vs ds → DpAll K H' vs ds
  | [], _, h => by cases h; exact .nil
  | d :: ds, _, h => by
    cases h with
    | cons h1 h2 => exact .cons (dp_same s d _ h1) (dpAll_same s ds _ h2)
end
/-! data all of whose cells lie in S -/
mutual
inductive DN (S : Addr → Prop) (H : Hp) : V → PyData → Prop
  | non : DN S H .non .none
  | bl (b : Bool) : DN S H (.bl b) (.bool b)
  | int (i : Int) : DN S H (.int i) (.int i)
  | str (x : Str) : DN S H (.str x) (.str x)
  | lst {a : Addr} {xs : List V} {ds : List PyData} : S a → H a = some (.lst xs) → DNs S H xs ds → DN S H (.ref a) (.list ds)
  | tup {a : Addr} {xs : List V} {ds : List PyData} : S a → H a = some (.tup xs) → DNs S H xs ds → DN S H (.ref a) (.tuple ds)
inductive DNs (S : Addr → Prop) (H : Hp) : List V → List PyData → Prop
  | nil : DNs S H [] []
  | cons {v : V} {vs : List V} {d : PyData} {ds : List PyData} : DN S H v d → DNs S H vs ds → DNs S H (v :: vs) (d :: ds)
end
mutual
theorem DN.dp {K : PySem.W.Frag} {S : Addr → Prop} {H : Hp} : ∀ (d : PyData) (v : V), DN S H v d → Dp K H v d
  | .none, _, h => by cases h; exact .non
  | .bool b, _, h => by cases h; exact .bl b
  | .int i, _, h => by cases h; exact .int i
  | .str x, _, h => by cases h; exact .str x
  | .list ds, _, h => by
    cases h with
    | lst _ h1 h2 => exact .lst (SqL.of h1) (DNs.dp ds _ h2)
  | .tuple ds, _, h => by
    cases h with
    | tup _ h1 h2 => exact .tup (SqT.of h1) (DNs.dp ds _ h2)
  | .dict _, _, h => nomatch h
theorem DNs.dp {K : PySem.W.Frag} {S : Addr → Prop} {H : Hp} : ∀ (ds : List PyData) (vs : List V), DNs S H vs ds → DpAll K H vs ds
  | [], _, h => by cases h; exact .nil
  | d :: ds, _, h => by
    cases h with
    | cons h1 h2 => exact .cons (DN.dp d _ h1) (DNs.dp ds _ h2)
end
mutual
theorem DN.mono {S S' : Addr → Prop} {H H' : Hp} (hs : ∀ a, S a → S' a) (hh : ∀ a o, S a → H a = some o → H' a = some o) : ∀ (d : PyData) (v : V), DN S H v d → DN S' H' v d
  | .none, _, h => by cases h; exact .non
  | .bool b, _, h => by cases h; exact .bl b
  | .int i, _, h => by cases h; exact .int i
  | .str x, _, h => by cases h; exact .str x
  | .list ds, _, h => by
    cases h with
    | lst h0 h1 h2 => exact .lst (hs _ h0) (hh _ _ h0 h1) (DNs.mono hs hh ds _ h2)
  | .tuple ds, _, h => by
    cases h with
    | tup h0 h1 h2 => exact .tup (hs _ h0) (hh _ _ h0 h1) (DNs.mono hs hh ds _ h2)
  | .dict _, _, h => nomatch h
theorem DNs.mono {S S' : Addr → Prop} {H H' : Hp} (hs : ∀ a, S a → S' a) (hh : ∀ a o, S a → H a = some o → H' a = some o) : ∀ (ds : List PyData) (vs : List V), DNs S H vs ds → DNs S' H' vs ds
  | [], _, h => by cases h; exact .nil
  | d :: ds, _, h => by
    cases h with
    | cons h1 h2 => exact .cons (DN.mono hs hh d _ h1) (DNs.mono hs hh ds _ h2)
end
theorem DNs.snoc {S : Addr → Prop} {H : Hp} {v : V} {d : PyData} (hv : DN S H v d) : ∀ {vs : List V} {ds : List PyData}, DNs S H vs ds → DNs S H (vs ++ [v]) (ds ++ [d])
  | _, _, .nil => .cons hv .nil
  | _, _, .cons h t => .cons h (DNs.snoc hv t)
theorem DNs.length {S : Addr → Prop} {H : Hp} : ∀ {vs : List V} {ds : List PyData}, DNs S H vs ds → vs.length = ds.length
  | _, _, .nil => rfl
  | _, _, .cons _ t => by rw [List.length_cons, List.length_cons, DNs.length t]
theorem dpAll_length {K : PySem.W.Frag} {H : Hp} : ∀ {vs : List V} {ds : List PyData}, DpAll K H vs ds → vs.length = ds.length
  | _, _, .nil => rfl
  | _, _, .cons _ t => by rw [List.length_cons, List.length_cons, dpAll_length t]
theorem dpAll_get {K : PySem.W.Frag} {H : Hp} : ∀ {vs : List V} {ds : List PyData} {i : Nat} {v : V}, DpAll K H vs ds → vs[i]? = some v → ∃ d, ds[i]? = some d ∧ Dp K H v d
  | _, _, i, _, .nil, e => by simp at e
  | _, _, 0, _, .cons h _, e => by
    have := Option.some.inj e
    subst this
    exact ⟨_, rfl, h⟩
  | _, _, i + 1, _, .cons _ t, e => by
    have e' := e
    rw [List.getElem?_cons_succ] at e'
    obtain ⟨d, h1, h2⟩ := dpAll_get t e'
    exact ⟨d, by rw [List.getElem?_cons_succ]; exact h1, h2⟩

/-! ### small data: nested at most n deep, rows of at most 1000 -/
mutual
def okD : Nat → PyData → Bool
  | _, .none => true
  | _, .bool _ => true
  | _, .int _ => true
  | _, .str x => PyData.strOk x
  | 0, .list _ => false
  | n + 1, .list xs => decide (xs.length ≤ 1000) && okDs n xs
  | 0, .tuple _ => false
  | n + 1, .tuple xs => decide (xs.length ≤ 1000) && okDs n xs
  | _, .dict _ => false
def okDs : Nat → List PyData → Bool
  | _, [] => true
  | n, x :: xs => okD n x && okDs n xs
end
/-! as okD, the rows of any length -/
mutual
def okDx : Nat → PyData → Bool
  | _, .none => true
  | _, .bool _ => true
  | _, .int _ => true
  | _, .str x => PyData.strOk x
  | 0, .list _ => false
  | n + 1, .list xs => okDxs n xs
  | 0, .tuple _ => false
  | n + 1, .tuple xs => okDxs n xs
  | _, .dict _ => false
def okDxs : Nat → List PyData → Bool
  | _, [] => true
  | n, x :: xs => okDx n x && okDxs n xs
end
theorem okDs_get {n : Nat} : ∀ {ds : List PyData} {i : Nat} {d : PyData}, okDs n ds = true → ds[i]? = some d → okD n d = true
  | [], i, d, _, e => by simp at e
  | x :: xs, 0, d, h, e => by
    have := Option.some.inj e
    subst this
    simp only [okDs, Bool.and_eq_true] at h
    exact h.1
  | x :: xs, i + 1, d, h, e => by
    simp only [okDs, Bool.and_eq_true] at h
    rw [List.getElem?_cons_succ] at e
    exact okDs_get h.2 e
mutual
theorem okDx_lay : ∀ (n : Nat) (d : PyData), okDx n d = true → d.canLay0 = true ∧ d.depth ≤ n
  | _, .none, _ => by simp [PyData.canLay0, PyData.depth]
  | _, .bool _, _ => by simp [PyData.canLay0, PyData.depth]
  | _, .int _, _ => by simp [PyData.canLay0, PyData.depth]
  | _, .str x, h => by
    simp only [okDx] at h
    simp [PyData.canLay0, PyData.depth, h]
  | 0, .list _, h => by simp [okDx] at h
  | n + 1, .list xs, h => by
    simp only [okDx] at h
    obtain ⟨h1, h2⟩ := okDxs_lay n xs h
    simp only [PyData.canLay0, PyData.depth]
    exact ⟨h1, by omega⟩
  | 0, .tuple _, h => by simp [okDx] at h
  | n + 1, .tuple xs, h => by
    simp only [okDx] at h
    obtain ⟨h1, h2⟩ := okDxs_lay n xs h
    simp only [PyData.canLay0, PyData.depth]
    exact ⟨h1, by omega⟩
  | _, .dict _, h => by simp [okDx] at h
theorem okDxs_lay : ∀ (n : Nat) (ds : List PyData), okDxs n ds = true → PyData.canLayAll0 ds = true ∧ PyData.depthAll ds ≤ n
  | _, [], _ => by simp [PyData.canLayAll0, PyData.depthAll]
  | n, x :: xs, h => by
    simp only [okDxs, Bool.and_eq_true] at h
    obtain ⟨a1, a2⟩ := okDx_lay n x h.1
    obtain ⟨b1, b2⟩ := okDxs_lay n xs h.2
    simp only [PyData.canLayAll0, PyData.depthAll, a1, b1]
    exact ⟨rfl, by omega⟩
end
theorem okDx_shaped {n : Nat} {d : PyData} (h : okDx n d = true) (hn : n ≤ 64) : SeqAt.shaped d = true := by
  obtain ⟨h1, h2⟩ := okDx_lay n d h
  show (d.canLay0 && decide (d.depth ≤ 64)) = true
  rw [h1, decide_eq_true (by omega)]
  rfl

/-! ### what _law_plain tells of data -/
mutual
def plainD : PyData → PyData
  | .list xs => .list (.bool true :: plainDs xs)
  | .tuple xs => .list (.bool false :: plainDs xs)
  | .none => .str "None"
  | .bool b => .str (if b then "True" else "False")
  | .int i => .list [.bool false, .int i]
  | .str x => .list [.bool true, .str x]
  | .dict _ => .str "another"
def plainDs : List PyData → List PyData
  | [] => []
  | x :: xs => plainD x :: plainDs xs
end
theorem plainDs_length : ∀ ds : List PyData, (plainDs ds).length = ds.length
  | [] => rfl
  | x :: xs => by simp only [plainDs, List.length_cons, plainDs_length xs]
theorem plainDs_take {d : PyData} : ∀ {ds : List PyData} {i : Nat}, ds[i]? = some d → plainDs (ds.take (i + 1)) = plainDs (ds.take i) ++ [plainD d]
  | [], i, e => by simp at e
  | x :: xs, 0, e => by
    have := Option.some.inj e
    subst this
    simp [plainDs]
  | x :: xs, i + 1, e => by
    rw [List.getElem?_cons_succ] at e
    have := plainDs_take e
    simp only [List.take_succ_cons, plainDs, this, List.cons_append]
mutual
theorem plainD_ok : ∀ (n : Nat) (d : PyData), okD n d = true → okDx (n + 1) (plainD d) = true
  | n, .none, _ => by simp only [plainD, okDx]; decide +kernel
  | n, .bool b, _ => by cases b <;> simp only [plainD, okDx] <;> decide +kernel
  | n, .int i, _ => by simp only [plainD, okDx, okDxs, Bool.and_self]
  | n, .str x, h => by
    simp only [okD] at h
    simp [plainD, okDx, okDxs, h]
  | 0, .list _, h => by simp [okD] at h
  | n + 1, .list xs, h => by
    simp only [okD, Bool.and_eq_true, decide_eq_true_eq] at h
    have := plainDs_ok n xs h.2
    simp [plainD, okDx, okDxs, this]
  | 0, .tuple _, h => by simp [okD] at h
  | n + 1, .tuple xs, h => by
    simp only [okD, Bool.and_eq_true, decide_eq_true_eq] at h
    have := plainDs_ok n xs h.2
    simp [plainD, okDx, okDxs, this]
  | _, .dict _, h => by simp [okD] at h
theorem plainDs_ok : ∀ (n : Nat) (ds : List PyData), okDs n ds = true → okDxs (n + 1) (plainDs ds) = true
  | _, [], _ => by simp [plainDs, okDxs]
  | n, x :: xs, h => by
    simp only [okDs, Bool.and_eq_true] at h
    have a := plainD_ok n x h.1
    have b := plainDs_ok n xs h.2
    simp [plainDs, okDxs, a, b]
end

/-! ### more of the deck -/
def SameBut (d : Addr) (H H' : Hp) : Prop := ∀ b o, b ≠ d → H b = some o → H' b = some o
def sp_number0 : Sp := fun vs H Q _ => ∃ (d : Addr) (D : List Int), vs = [.ref d] ∧ H d = some (dk D) ∧ ∀ (n : Int) (D' : List Int) (H' : Hp), SameBut d H H' → H' d = some (dk D') → n.natAbs < 2 ^ 130 → Q (.int n) H'
@[irreducible] def sp_number : Sp := sp_number0
theorem sp_number_eq : sp_number = sp_number0 := by unfold sp_number; rfl
/-- G: what stands still; the deck at d moves -/
structure Dk (G H : Hp) (d : Addr) (D : List Int) : Prop where
  nd : G d = none
  sm : Same G H
  hd : H d = some (dk D)
section
variable {G H H' : Hp} {d p : Addr} {D D' : List Int} {o : HO}
theorem Dk.take (k : Dk G H d D) : Dk G (upd H d (dk D')) d D' := ⟨k.nd, k.sm.mut k.nd, upd_same⟩
theorem Dk.new (k : Dk G H d D) (h : H p = none) : Dk (upd G p o) (upd H p o) d D := by
  have n : d ≠ p := ne_of_none k.hd h
  refine ⟨by rw [upd_ne n]; exact k.nd, fun b u e => ?_, by rw [upd_ne n]; exact k.hd⟩
  by_cases q : b = p
  · rw [q, upd_same] at e
    rw [q, upd_same]
    exact e
  · rw [upd_ne q] at e
    rw [upd_ne q]
    exact k.sm b u e
theorem Dk.same (k : Dk G H d D) (s : Same H H') : Dk G H' d D := ⟨k.nd, k.sm.trans s, s _ _ k.hd⟩
theorem Dk.but (k : Dk G H d D) (s : SameBut d H H') (h : H' d = some (dk D')) : Dk G H' d D' := ⟨k.nd, fun b u e => s b u (ne_of_none e k.nd) (k.sm b u e), h⟩
theorem Dk.ne (k : Dk G H d D) (h : G p = some o) : p ≠ d := ne_of_none h k.nd
theorem Dk.fresh (k : Dk G H d D) (h : H p = none) : G p = none := k.sm.free h
end
theorem atI_nat' {α : Type} {xs : List α} {i : Int} {j : Nat} {v : α} (e : i = (j : Int)) (h : xs[j]? = some v) : atI xs i = some v := by
  rw [e]
  exact atI_nat h
theorem atI_ints {ns : List Int} {i : Int} (h0 : 0 ≤ i) (h1 : i < (ns.length : Int)) : ∃ z, atI (ns.map V.int) i = some (.int z) ∧ z ∈ ns := by
  have hl : i.toNat < ns.length := by omega
  refine ⟨ns[i.toNat], atI_nat' (j := i.toNat) (by omega) ?_, List.getElem_mem hl⟩
  rw [List.getElem?_map, List.getElem?_eq_getElem hl]
  rfl
theorem small1000000 {n : Nat} (h : n ≤ 1000000) : n < sizeLine := by
  rw [sizeLine_eq]
  omega
theorem two_pow_mono {a b : Nat} (h : a ≤ b) : (2 : Int) ^ a ≤ 2 ^ b := by
  have := Nat.pow_le_pow_right (n := 2) (by decide) h
  have e : ∀ c : Nat, ((2 ^ c : Nat) : Int) = (2 : Int) ^ c := fun c => by rw [Int.natCast_pow]; rfl
  rw [← e, ← e]
  omega
/-- x is True -/
def rIsT : R2 := fun x y H Q => (∃ a b : Bool, x = .bl a ∧ y = .bl b ∧ Q (.bl (decide (a = b))) H) ∨ (x = .non ∧ ∃ b, y = .bl b ∧ Q (.bl false) H)
theorem op_isT {X : Cx} : OpR X (compareOp .Is) rIsT := by
  intro pins s σ H x y v u Q I rx ry h
  rcases h with h | ⟨rfl, b, rfl, k⟩
  · exact op_isBl pins s σ H x y v u Q I rx ry h
  · cases (show v = Value.none from rx)
    cases (show u = Value.bool b from ry)
    exact wpAny_is_other rfl (fun z => nomatch z) ⟨.bl false, H, I, rfl, k⟩
theorem kind_l {K : PySem.W.Frag} {H : Hp} {a : Addr} {xs : List V} (h : SqL K H a xs) : TyX K H (.ref a) (.type "list") := by
  rcases h with (h | ⟨o, h⟩) | ⟨o, _, _, h, c, _⟩
  · exact .base (.lst h)
  · exact .base (.frz h)
  · exact .kList h c
theorem kind_t {K : PySem.W.Frag} {H : Hp} {a : Addr} {xs : List V} (h : SqT K H a xs) : TyX K H (.ref a) (.type "tuple") := by
  rcases h with (h | ⟨o, h⟩) | ⟨o, _, _, h, c, _⟩
  · exact .base (.tup h)
  · exact .fTuple h
  · exact .kTuple h c
theorem kit2 {K : PySem.W.Frag} {a b c : String} {r1 r2 : Bool} (h1 : kitB a b = some r1) (h2 : kitB a c = some r2) : PySem.W.kitAny K (.type a) [.type b, .type c] = some (r1 || r2) := by
  cases r1 with
  | true => exact kitAny_cons (b := true) (kit_ty h1) (fun z => nomatch z) fun _ => rfl
  | false =>
    refine kitAny_cons (b := false) (kit_ty h1) (fun _ => ?_) (fun z => nomatch z)
    exact kitAny_cons (b := r2) (kit_ty h2) (fun z => by subst z; exact kitAny_nil) fun z => by subst z; rfl
def sp_plain (K : PySem.W.Frag) (n : Nat) : Sp := fun vs H Q _ => ∃ (v : V) (d : PyData), vs = [v] ∧ Dp K H v d ∧ okD n d = true ∧ ∀ (v' : V) (H' : Hp), Same H H' → DN (fun a => H a = none) H' v' (plainD d) → Q v' H'
/-- isinstance(x, (A, B)), the tuple just made at p -/
theorem isi_pair {K : PySem.W.Frag} {H : Hp} {p : Addr} {x : V} {t A B : String} {r1 r2 : Bool} {Q : VK} (h1 : kitB t A = some r1) (h2 : kitB t B = some r2) (hx : TyX K (upd H p (.tup [.ty A, .ty B])) x (.type t)) (k : Q (.bl (r1 || r2)) (upd H p (.tup [.ty A, .ty B]))) :
    rIsiT K [x, .ref p] (upd H p (.tup [.ty A, .ty B])) Q :=
  ⟨x, p, _, _, _, _, rfl, upd_same, .cons (.ty A) (.cons (.ty B) .nil), hx, kit2 h1 h2, k⟩
theorem _root_.L2.TyX.new {K : PySem.W.Frag} {H : Hp} {x : V} {T : String} {p : Addr} {o : HO} (h : TyX K H x (.type T)) (hp : H p = none) : TyX K (upd H p o) x (.type T) := by
  have s : Same H (upd H p o) := Same.new hp
  generalize e : Value.type T = t at h
  cases h with
  | base b =>
    cases b with
    | non => exact .base .non
    | bl y => exact .base (.bl y)
    | int i => exact .base (.int i)
    | str y => exact .base (.str y)
    | flt y => exact .base (.flt y)
    | lst q => exact .base (.lst (s _ _ q))
    | frz q => exact .base (.frz (s _ _ q))
    | tup q => exact .base (.tup (s _ _ q))
    | dK q => exact .base (.dK (s _ _ q))
    | dT q => exact .base (.dT (s _ _ q))
    | ins q => cases e
  | byt b => exact .byt b
  | set q => exact .set (s _ _ q)
  | kList q c => exact .kList q c
  | kTuple q c => exact .kTuple q c
  | kDict q c => exact .kDict q c
  | fTuple q => exact .fTuple (s _ _ q)
  | fDict q => exact .fDict (s _ _ q)

/-- two plain tellings of the same data are equal -/
theorem plain_same {K : PySem.W.Frag} {S S' : Addr → Prop} {H1 H3 : Hp} {v1 v2 : V} {d : PyData} {Q : VK} {n : Nat} (h1 : DN S H1 v1 (plainD d)) (hs : Same H1 H3) (h2 : DN S' H3 v2 (plainD d)) (ok : okD n d = true) (hn : n ≤ 60) (k : Q (.bl false) H3) : rNeD K v1 v2 H3 Q := by
  have sh := okDx_shaped (plainD_ok n d ok) (by omega)
  refine ⟨plainD d, plainD d, dp_same hs _ _ (DN.dp _ _ h1), DN.dp _ _ h2, sh, sh, ?_⟩
  rw [SeqAt.eqv_refl _ (SeqAt.canLay_of_shaped sh)]
  exact k
/-- .. as a test that then fails -/
theorem plain_test {K : PySem.W.Frag} {S S' : Addr → Prop} {H1 H3 : Hp} {v1 v2 : V} {d : PyData} {Q : Bool → Hp → Prop} (n : Nat) (h1 : DN S H1 v1 (plainD d)) (hs : Same H1 H3) (h2 : DN S' H3 v2 (plainD d)) (ok : okD n d = true) (hn : n ≤ 60) (k : Q false H3) : rNeD K v1 v2 H3 fun x H' => ∃ b, x = .bl b ∧ Q b H' :=
  plain_same h1 hs h2 ok hn ⟨false, rfl, k⟩
theorem gcd_cdiv {x y : Int} (i : Int) (h : y ≠ 0) (hy : y.natAbs < 2 ^ 8000) : CDivZ i ((Nat.gcd x.natAbs y.natAbs : Nat) : Int) ∧ CDivZ i (-((Nat.gcd x.natAbs y.natAbs : Nat) : Int)) := by
  have h1 : Nat.gcd x.natAbs y.natAbs ≤ y.natAbs := Nat.gcd_le_right _ (by omega)
  have h0 : 0 < Nat.gcd x.natAbs y.natAbs := Nat.gcd_pos_of_pos_right _ (by omega)
  generalize hg : Nat.gcd x.natAbs y.natAbs = g at h1 h0
  have hb : g < 2 ^ 8000 := Nat.lt_of_le_of_lt h1 hy
  exact ⟨cdivZ_of (b := 8000) (by omega) (by rw [Int.natAbs_natCast]; exact hb) (by decide) (by decide), cdivZ_of (b := 8000) (by omega) (by rw [Int.natAbs_neg, Int.natAbs_natCast]; exact hb) (by decide) (by decide)⟩
/-- what two ways have in common behind them, shown once -/
theorem cutP {X Y : Prop} (f : X → Y) (x : X) : Y := f x
theorem Dk.weak {G H : Hp} {d : Addr} {D : List Int} (k : Dk G H d D) : Dk (fun _ => none) H d D := ⟨rfl, same_none, k.hd⟩

/-! ### taking from the deck, the heap behind it not told -/
section
variable {Kf : PySem.W.Frag} {G H : Hp} {d l : Addr} {D : List Int} {Q : VK}
theorem take_q (K1 : Dk G H d D) {m : Int} (hm : 0 < m) (k : ∀ z H2, 0 ≤ z → z < m → Dk G H2 d D.tail → Q (.int z) H2) : sp_take [.ref d, .int m] H Q E0 := by
  rw [sp_take_eq]
  exact ⟨d, D, m, rfl, K1.hd, hm, k _ _ (tk_nonneg D hm) (tk_lt D hm) K1.take⟩
/-- .. the heap told -/
theorem take_u {H : Hp} {d : Addr} {D : List Int} {Q : VK} (hd : H d = some (dk D)) {m : Int} (hm : 0 < m) (k : Q (.int (tk D m)) (upd H d (dk D.tail))) : sp_take [.ref d, .int m] H Q E0 := by
  rw [sp_take_eq]
  exact ⟨d, D, m, rfl, hd, hm, k⟩
/-- [n, ..][_law_take(deck, how many)] -/
theorem pick (K1 : Dk G H d D) (hl : H l = none) (ns : List Int) (h : 0 < ns.length) (k : ∀ z H2, z ∈ ns → Dk G H2 d D.tail → Q (.int z) H2) : sp_take [.ref d, .int (ns.length : Int)] (upd H l (.lst (ns.map V.int))) (fun v H2 => rIxL Kf (.ref l) v H2 Q) E0 := by
  rw [sp_take_eq]
  have hm : (0 : Int) < (ns.length : Int) := by omega
  have K2 := K1.new (o := .lst (ns.map V.int)) hl
  have n : d ≠ l := ne_of_none K1.hd hl
  refine ⟨d, D, _, rfl, K2.hd, hm, ?_⟩
  have K3 := K2.take (D' := D.tail)
  obtain ⟨z, hz, hm⟩ := atI_ints (tk_nonneg D hm) (tk_lt D hm)
  refine ⟨l, _, _, _, rfl, rfl, SqL.of (K3.sm _ _ upd_same), hz, k _ _ hm ⟨K1.nd, ?_, K3.hd⟩⟩
  have g : G l = none := K1.sm.free hl
  exact (Same.new g).trans K3.sm
theorem number_q (K1 : Dk G H d D) (k : ∀ n D' H2, n.natAbs < 2 ^ 130 → Dk G H2 d D' → Q (.int n) H2) : sp_number [.ref d] H Q E0 := by
  rw [sp_number_eq]
  exact ⟨d, D, rfl, K1.hd, fun n D' H' s h hn => k n D' H' hn (K1.but s h)⟩
end
theorem abs_nat (x : Int) : (if x < 0 then -x else x) = (x.natAbs : Int) := by split <;> omega

/-! ### fractions in lowest terms -/
/-- the greatest common divisor, with the sign of what is below -/
def frC (x y : Int) : Int := if y < 0 then -((Nat.gcd x.natAbs y.natAbs : Nat) : Int) else ((Nat.gcd x.natAbs y.natAbs : Nat) : Int)
def frA (x y : Int) : Int := x.fdiv (frC x y)
def frB (x y : Int) : Int := y.fdiv (frC x y)
theorem fdiv_mul_self {c p : Int} (h : c ≠ 0) : (c * p).fdiv c = p := Int.mul_fdiv_cancel_left p h
/-- what a fraction in lowest terms is -/
theorem fr_spec {x y : Int} (h : y ≠ 0) : x = frC x y * frA x y ∧ y = frC x y * frB x y ∧ 0 < frB x y ∧ frC x y ≠ 0 ∧ (0 < frC x y ↔ 0 < y) ∧ frB x y ≤ y.natAbs ∧ Nat.gcd (frA x y).natAbs (frB x y).natAbs = 1 := by
  have h0 : 0 < Nat.gcd x.natAbs y.natAbs := Nat.gcd_pos_of_pos_right _ (by omega)
  have hx : frC x y ∣ x := by
    unfold frC
    split
    · exact Int.neg_dvd.mpr (Int.ofNat_dvd_left.mpr (Nat.gcd_dvd_left _ _))
    · exact Int.ofNat_dvd_left.mpr (Nat.gcd_dvd_left _ _)
  have hy : frC x y ∣ y := by
    unfold frC
    split
    · exact Int.neg_dvd.mpr (Int.ofNat_dvd_left.mpr (Nat.gcd_dvd_right _ _))
    · exact Int.ofNat_dvd_left.mpr (Nat.gcd_dvd_right _ _)
  have hn : (frC x y).natAbs = Nat.gcd x.natAbs y.natAbs := by
    unfold frC
    split <;> omega
  have hc0 : frC x y ≠ 0 := by omega
  have hs : (0 < frC x y ↔ 0 < y) := by
    unfold frC
    split <;> constructor <;> omega
  obtain ⟨p, hp⟩ := hx
  obtain ⟨q, hq⟩ := hy
  have e1 : frA x y = p := by
    unfold frA
    generalize frC x y = c at hp hc0
    rw [hp, fdiv_mul_self hc0]
  have e2 : frB x y = q := by
    unfold frB
    generalize frC x y = c at hq hc0
    rw [hq, fdiv_mul_self hc0]
  have na1 : x.natAbs = (frC x y).natAbs * p.natAbs := by
    rw [← Int.natAbs_mul, ← hp]
  have na2 : y.natAbs = (frC x y).natAbs * q.natAbs := by
    rw [← Int.natAbs_mul, ← hq]
  have q0 : q ≠ 0 := fun z => by
    rw [z, Int.mul_zero] at hq
    exact h hq
  refine ⟨by rw [e1]; exact hp, by rw [e2]; exact hq, ?_, hc0, hs, ?_, ?_⟩
  · rw [e2]
    rcases Int.lt_trichotomy q 0 with z | z | z
    · exfalso
      by_cases yp : 0 < y
      · have := Int.mul_neg_of_pos_of_neg (hs.mpr yp) z
        omega
      · have cn : frC x y < 0 := by
          have : ¬ 0 < frC x y := fun w => yp (hs.mp w)
          omega
        have := Int.mul_pos_of_neg_of_neg cn z
        omega
    · exact absurd z q0
    · exact z
  · rw [e2]
    have : q.natAbs ≤ y.natAbs := by
      rw [na2]
      exact Nat.le_mul_of_pos_left _ (by omega)
    omega
  · rw [e1, e2]
    have e3 : Nat.gcd x.natAbs y.natAbs = (frC x y).natAbs * Nat.gcd p.natAbs q.natAbs := by
      rw [na1, na2, Nat.gcd_mul_left]
    rw [hn] at e3
    have : Nat.gcd x.natAbs y.natAbs * Nat.gcd p.natAbs q.natAbs = Nat.gcd x.natAbs y.natAbs * 1 := by omega
    exact Nat.eq_of_mul_eq_mul_left h0 this
def sp_fraction (C : Addr) : Sp := fun vs H Q E => ∃ x y : Int, vs = [.int x, .int y] ∧ y.natAbs < 2 ^ 8000 ∧ (y = 0 → raisesW C "fraction" H E) ∧ (y ≠ 0 → ∀ p, H p = none → Q (.ref p) (upd H p (.tup [.int (frA x y), .int (frB x y)])))
def sp_lawgcd : Sp := fun vs H Q _ => ∃ x y : Int, vs = [.int x, .int y] ∧ Q (.int ((Nat.gcd x.natAbs y.natAbs : Nat) : Int)) H
def sp_lawfraction : Sp := fun vs H Q _ => ∃ x y : Int, vs = [.int x, .int y] ∧ y.natAbs < 2 ^ 8000 ∧ y ≠ 0 ∧ ∀ p, H p = none → Q (.ref p) (upd H p (.tup [.int (frA x y), .int (frB x y)]))

theorem dpAll_ints {K : PySem.W.Frag} {H : Hp} : ∀ ns : List Int, DpAll K H (ns.map V.int) (ns.map PyData.int)
  | [] => .nil
  | n :: ns => .cons (.int n) (dpAll_ints ns)
theorem dp_ints {K : PySem.W.Frag} {H : Hp} {p : Addr} {ns : List Int} (h : SqL K H p (ns.map V.int)) : Dp K H (.ref p) (.list (ns.map PyData.int)) := .lst h (dpAll_ints ns)
theorem okDs_ints {n : Nat} : ∀ ns : List Int, okDs n (ns.map PyData.int) = true
  | [] => by simp [okDs]
  | x :: ns => by simp only [List.map_cons, okDs, okD, Bool.true_and]; exact okDs_ints ns
theorem ok_ints {n : Nat} {ns : List Int} (h : ns.length ≤ 1000) : okD (n + 1) (.list (ns.map PyData.int)) = true := by
  simp only [okD, Bool.and_eq_true, decide_eq_true_eq, List.length_map]
  exact ⟨h, okDs_ints ns⟩
theorem okDx_ints {n : Nat} : ∀ ns : List Int, okDxs n (ns.map PyData.int) = true
  | [] => by simp [okDxs]
  | x :: ns => by simp only [List.map_cons, okDxs, okDx, Bool.true_and]; exact okDx_ints ns
theorem shaped_ints (ns : List Int) : SeqAt.shaped (.list (ns.map PyData.int)) = true := okDx_shaped (n := 1) (by simp only [okDx]; exact okDx_ints ns) (by decide)
/-- two int lists that are the same: != says no -/
theorem ints_same {K : PySem.W.Frag} {H : Hp} {p q : Addr} {ns : List Int} {Q : VK} (h1 : SqL K H p (ns.map V.int)) (h2 : SqL K H q (ns.map V.int)) (k : Q (.bl false) H) : rNeD K (.ref p) (.ref q) H Q := by
  refine ⟨_, _, dp_ints h1, dp_ints h2, shaped_ints ns, shaped_ints ns, ?_⟩
  rw [SeqAt.eqv_refl _ (SeqAt.canLay_of_shaped (shaped_ints ns))]
  exact k

theorem Dk.add {G H : Hp} {d q : Addr} {D : List Int} {o : HO} (k : Dk G H d D) (h : H q = some o) (n : q ≠ d) : Dk (upd G q o) H d D :=
  ⟨by rw [upd_ne (Ne.symm n)]; exact k.nd, fun b u e => by
    by_cases z : b = q
    · rw [z, upd_same] at e
      rw [z, h]
      exact e
    · rw [upd_ne z] at e
      exact k.sm b u e, k.hd⟩
theorem Dk.keep {G G' H : Hp} {d : Addr} {D : List Int} (k : Dk G H d D) (h : G' d = none) (s : Same G' H) : Dk G' H d D := ⟨h, s, k.hd⟩
/-! ### comprehensions whose element does nothing to the heap -/
theorem lc_pure {K : PySem.W.Frag} {a : Addr} {xs : List V} {te : TE} {vs : List Nat} {σ : L2.St} {H1 : Hp} {D : Addr} {Qd : Hp → Prop} {j : Nat} (f : Nat → V → V) (hx : SqL K H1 a xs) (hD : H1 D = none) (hz : xs.length ≤ 1000000) (hw : ∀ x, wipe ((wipe σ vs).set j (some x)) vs = wipe σ vs)
    (hs : ∀ i x H', xs[i]? = some x → Same H1 H' → ∀ Q : VK, Q (f i x) H' → te ((wipe σ vs).set j (some x)) H' Q) (hd : Qd (upd H1 D (.lst (xs.mapIdx f)))) :
    ∃ W : Nat → Nat → Hp → Prop, (∃ m, W 0 m (upd H1 D (.lst []))) ∧ ∀ i m H, W i m H →
      ((Itl K a).stop i H ∧ Qd H) ∨ ((Itl K a).go i H ∧ ∃ Nx : Hp → Prop, (∀ H', Nx H' → ∃ m', m' < m ∧ W (i + 1) m' H') ∧ ∀ x H', (Itl K a).yld i H x H' → gName j x (wipe σ vs) H' fun σ2 H2 => wipe σ2 vs = wipe σ vs ∧ tYes σ2 H2 fun b H3 =>
        if b = true then te σ2 H3 fun y H4 => ∃ acc, H4 D = some (.lst acc) ∧ acc.length < sizeLine ∧ Nx (upd H4 D (.lst (acc ++ [y]))) else Nx H3) := by
  have tk : ∀ (l : List V) (g : Nat → V → V) (i : Nat) (x : V), l[i]? = some x → (l.mapIdx g).take (i + 1) = (l.mapIdx g).take i ++ [g i x] := by
    intro l g i x e
    have h1 : (l.mapIdx g)[i]? = some (g i x) := by rw [List.getElem?_mapIdx, e]; rfl
    rw [List.take_add_one, h1]
    rfl
  refine lc_list (K := K) (a := a) (xs := xs) (fun i H' => H' = upd H1 D (.lst ((xs.mapIdx f).take i))) (by rw [List.take_zero]) (fun i H' _ q => by subst q; exact (Same.new hD).seq hx) ?_ ?_
  · rintro i x H' hi rfl
    have hi1 := (List.getElem?_eq_some_iff.mp hi).1
    refine ⟨hw x, ?_⟩
    show te _ _ _
    refine hs i x _ hi (Same.new hD) _ ?_
    refine ⟨_, upd_same, small1000000 (by rw [List.length_take]; omega), ?_⟩
    rw [upd_upd, tk xs f i x hi]
  · rintro H' rfl
    have e : (xs.mapIdx f).take xs.length = xs.mapIdx f := by
      have : (xs.mapIdx f).length = xs.length := List.length_mapIdx
      rw [← this, List.take_length]
    rw [e]
    exact hd
theorem pickV {Kf : PySem.W.Frag} {G H : Hp} {d l : Addr} {D : List Int} {Q : VK} (K1 : Dk G H d D) (hl : H l = none) (ns : List V) (h : 0 < ns.length) (k : ∀ z H2, z ∈ ns → Dk G H2 d D.tail → Q z H2) : sp_take [.ref d, .int (ns.length : Int)] (upd H l (.lst ns)) (fun v H2 => rIxL Kf (.ref l) v H2 Q) E0 := by
  rw [sp_take_eq]
  have hm : (0 : Int) < (ns.length : Int) := by omega
  have K2 := K1.new (o := .lst ns) hl
  refine ⟨d, D, _, rfl, K2.hd, hm, ?_⟩
  have K3 := K2.take (D' := D.tail)
  have b0 := tk_nonneg D hm
  have b1 := tk_lt D hm
  have hj : (tk D (ns.length : Int)).toNat < ns.length := by omega
  refine ⟨l, _, _, _, rfl, rfl, SqL.of (K3.sm _ _ upd_same), atI_nat' (j := (tk D (ns.length : Int)).toNat) (by omega) (List.getElem?_eq_getElem hj), k _ _ (List.getElem_mem hj) ⟨K1.nd, ?_, K3.hd⟩⟩
  exact (Same.new (K1.sm.free hl)).trans K3.sm
/-- an item of a list at a written place -/
theorem ix_at {Kf : PySem.W.Frag} {H : Hp} {p : Addr} {xs : List V} {v : V} {Q : VK} (j : Nat) (h : SqL Kf H p xs) (hv : xs[j]? = some v) (k : Q v H) : rIxL Kf (.ref p) (.int (j : Int)) H Q := ⟨p, xs, _, v, rfl, rfl, h, atI_nat hv, k⟩

/-! ### walks of what may be a list or a tuple -/
def SqX (K : PySem.W.Frag) (H : Hp) (a : Addr) (xs : List V) : Prop := SqL K H a xs ∨ SqT K H a xs
theorem SqX.mono {K : PySem.W.Frag} {H H' : Hp} {a : Addr} {xs : List V} (h : SqX K H a xs) (s : Same H H') : SqX K H' a xs := by
  rcases h with h | h
  · exact .inl (s.seq h)
  · exact .inr (s.tup h)
def iSeq (K : PySem.W.Frag) (tl : TE) : TI := fun σ H R => tl σ H fun x H1 => ∃ a, x = .ref a ∧ (((∃ xs, SqL K H1 a xs) ∧ R (Itl K a) H1) ∨ ((∃ xs, SqT K H1 a xs) ∧ R (Itt K a) H1))
theorem pi_seq {X : Cx} {tg l : Expr} {tl : TE} (hl : PE X l tl) : PI X tg l (iSeq X.K tl) := by
  refine ⟨fun pins s σ H R I h => thn (hl.run pins s σ H _ I h) fun v s1 ⟨x, H1, I1, r1, a, e, q⟩ => ?_⟩
  subst e
  cases r1
  have fresh : ∀ b ∈ [s1.heap.objs.size], FpOk X pins H1 b := by
    intro b hb
    rw [List.mem_singleton] at hb
    rw [hb]
    exact I1.fpOk (Nat.le_refl _) (I1.hok.fresh (Nat.le_refl _))
  rcases q with ⟨⟨xs, hq⟩, q⟩ | ⟨⟨xs, hq⟩, q⟩
  · obtain ⟨its, rv, pl, hz⟩ := I1.list hq
    exact wpAny_pyIter_list pl.isList ⟨_, _, _, _, H1, rfl, I1.kept (t' := s1.toks) (fun b o e => Heap.get?_push_of_some _ e), turn_list a _, ⟨_, Heap.get?_push_size _ rfl, rfl, rfl⟩, fresh, q⟩
  · obtain ⟨its, rv, pl, hz⟩ := I1.tuple hq
    exact wpAny_pyIter_tuple (show s1.heap.IsTuple a its.toArray from pl) ⟨_, _, _, _, H1, rfl, I1.kept (t' := s1.toks) (fun b o e => Heap.get?_push_of_some _ e), turn_tuple a _, ⟨_, Heap.get?_push_size _ rfl, rfl, rfl⟩, fresh, q⟩
/-- what a for loop asks of its walk J -/
def forR (g : TG) (tb : TS) (D : Ends) (σ : L2.St) (J : It) (H1 : Hp) : Prop := ∃ W : Nat → Nat → L2.St → Hp → Prop, (∃ m, W 0 m σ H1) ∧ ∀ i m σ H, W i m σ H →
  (J.stop i H ∧ D.nx σ H) ∨ (J.go i H ∧ ∃ N : L2.St → Hp → Prop, (∀ σ' H', N σ' H' → ∃ m', m' < m ∧ W (i + 1) m' σ' H') ∧ ∀ x H', J.yld i H x H' → g x σ H' fun σ2 H2 => tb { D with nx := N, ct := N, bk := D.nx } σ2 H2)
/-- .. a list or a tuple; G: where it stands -/
theorem for_seq {K : PySem.W.Frag} {a : Addr} {xs : List V} {g : TG} {tb : TS} {D : Ends} {σ : L2.St} {H G : Hp} (hq : SqX K G a xs) (Pv : Nat → L2.St → Hp → Prop) (h0 : Pv 0 σ H) (hl : ∀ i σ H, Pv i σ H → Same G H)
    (hs : ∀ i x σ H, xs[i]? = some x → Pv i σ H → g x σ H fun σ2 H2 => tb { D with nx := Pv (i + 1), ct := Pv (i + 1), bk := D.nx } σ2 H2) (hd : ∀ σ H, Pv xs.length σ H → D.nx σ H) :
    ((∃ xs, SqL K H a xs) ∧ forR g tb D σ (Itl K a) H) ∨ ((∃ xs, SqT K H a xs) ∧ forR g tb D σ (Itt K a) H) := by
  rcases hq with hq | hq
  · exact .inl ⟨⟨xs, (hl _ _ _ h0).seq hq⟩, for_list (K := K) (a := a) (xs := xs) Pv h0 (fun i σ H _ p => (hl i σ H p).seq hq) hs hd⟩
  · exact .inr ⟨⟨xs, (hl _ _ _ h0).tup hq⟩, for_tup (K := K) (a := a) (xs := xs) Pv h0 (fun i σ H _ p => (hl i σ H p).tup hq) hs hd⟩
/-- what a comprehension asks of its walk J -/
def lcR (g : TG) (tt : TT) (te : TE) (vs : List Nat) (σ : L2.St) (Q : VK) (J : It) (H1 : Hp) : Prop := ∀ D, H1 D = none → ∃ W : Nat → Nat → Hp → Prop, (∃ m, W 0 m (upd H1 D (.lst []))) ∧ ∀ i m H, W i m H →
  (J.stop i H ∧ Q (.ref D) H) ∨ (J.go i H ∧ ∃ Nx : Hp → Prop, (∀ H', Nx H' → ∃ m', m' < m ∧ W (i + 1) m' H') ∧ ∀ x H', J.yld i H x H' → g x (wipe σ vs) H' fun σ2 H2 => wipe σ2 vs = wipe σ vs ∧ tt σ2 H2 fun b H3 =>
    if b = true then te σ2 H3 fun y H4 => ∃ acc, H4 D = some (.lst acc) ∧ acc.length < sizeLine ∧ Nx (upd H4 D (.lst (acc ++ [y]))) else Nx H3)
theorem lc_seq {K : PySem.W.Frag} {a : Addr} {xs : List V} {g : TG} {tt : TT} {te : TE} {vs : List Nat} {σ : L2.St} {H1 G : Hp} {Q : VK} (hq : SqX K G a xs) (s : Same G H1) (Pv : Addr → Nat → Hp → Prop) (h0 : ∀ D, H1 D = none → Pv D 0 (upd H1 D (.lst []))) (hl : ∀ D i H, Pv D i H → Same G H)
    (hs : ∀ D, H1 D = none → ∀ i x H, xs[i]? = some x → Pv D i H → g x (wipe σ vs) H fun σ2 H2 => wipe σ2 vs = wipe σ vs ∧ tt σ2 H2 fun b H3 =>
      if b = true then te σ2 H3 fun y H4 => ∃ acc, H4 D = some (.lst acc) ∧ acc.length < sizeLine ∧ Pv D (i + 1) (upd H4 D (.lst (acc ++ [y]))) else Pv D (i + 1) H3) (hd : ∀ D, H1 D = none → ∀ H, Pv D xs.length H → Q (.ref D) H) :
    ((∃ xs, SqL K H1 a xs) ∧ lcR g tt te vs σ Q (Itl K a) H1) ∨ ((∃ xs, SqT K H1 a xs) ∧ lcR g tt te vs σ Q (Itt K a) H1) := by
  rcases hq with hq | hq
  · exact .inl ⟨⟨xs, s.seq hq⟩, fun D hD => lc_list (K := K) (a := a) (xs := xs) (Pv D) (h0 D hD) (fun i H _ p => (hl D i H p).seq hq) (hs D hD) (hd D hD)⟩
  · exact .inr ⟨⟨xs, s.tup hq⟩, fun D hD => lc_tup (K := K) (a := a) (xs := xs) (Pv D) (h0 D hD) (fun i H _ p => (hl D i H p).tup hq) (hs D hD) (hd D hD)⟩
/-- data that is a sequence -/
def seqD (isL : Bool) (ds : List PyData) : PyData := if isL then .list ds else .tuple ds
theorem dp_seq {K : PySem.W.Frag} {H : Hp} {v : V} {isL : Bool} {ds : List PyData} (h : Dp K H v (seqD isL ds)) : ∃ a xs, v = .ref a ∧ SqX K H a xs ∧ DpAll K H xs ds := by
  cases isL with
  | true =>
    cases (show Dp K H v (.list ds) from h) with
    | lst h1 h2 => exact ⟨_, _, rfl, .inl h1, h2⟩
  | false =>
    cases (show Dp K H v (.tuple ds) from h) with
    | tup h1 h2 => exact ⟨_, _, rfl, .inr h1, h2⟩
theorem dp_tup {K : PySem.W.Frag} {H : Hp} {v : V} {ds : List PyData} (h : Dp K H v (.tuple ds)) : ∃ a xs, v = .ref a ∧ SqT K H a xs ∧ DpAll K H xs ds := by
  cases h with
  | tup h1 h2 => exact ⟨_, _, rfl, h1, h2⟩
theorem dp_lst {K : PySem.W.Frag} {H : Hp} {v : V} {ds : List PyData} (h : Dp K H v (.list ds)) : ∃ a xs, v = .ref a ∧ SqL K H a xs ∧ DpAll K H xs ds := by
  cases h with
  | lst h1 h2 => exact ⟨_, _, rfl, h1, h2⟩
theorem dpAll_two {K : PySem.W.Frag} {H : Hp} {xs : List V} {d e : PyData} (h : DpAll K H xs [d, e]) : ∃ v w, xs = [v, w] ∧ Dp K H v d ∧ Dp K H w e := by
  cases h with
  | cons h1 h2 => cases h2 with
    | cons h2 h3 => cases h3; exact ⟨_, _, rfl, h1, h2⟩
theorem dpAll_three {K : PySem.W.Frag} {H : Hp} {xs : List V} {d e f : PyData} (h : DpAll K H xs [d, e, f]) : ∃ v w z, xs = [v, w, z] ∧ Dp K H v d ∧ Dp K H w e ∧ Dp K H z f := by
  cases h with
  | cons h1 h2 =>
    obtain ⟨v, w, rfl, h3, h4⟩ := dpAll_two h2
    exact ⟨_, _, _, rfl, h1, h3, h4⟩
theorem dp_int {K : PySem.W.Frag} {H : Hp} {v : V} {i : Int} (h : Dp K H v (.int i)) : v = .int i := by cases h; rfl
theorem dp_str {K : PySem.W.Frag} {H : Hp} {v : V} {i : Str} (h : Dp K H v (.str i)) : v = .str i := by cases h; rfl
theorem dpAll_app {K : PySem.W.Frag} {H : Hp} : ∀ {xs ys : List V} {ds es : List PyData}, DpAll K H xs ds → DpAll K H ys es → DpAll K H (xs ++ ys) (ds ++ es)
  | _, _, _, _, .nil, h => h
  | _, _, _, _, .cons h t, h2 => .cons h (dpAll_app t h2)
theorem dpAll_take {K : PySem.W.Frag} {H : Hp} : ∀ {xs : List V} {ds : List PyData} (n : Nat), DpAll K H xs ds → DpAll K H (xs.take n) (ds.take n)
  | _, _, 0, _ => by rw [List.take_zero, List.take_zero]; exact .nil
  | _, _, n + 1, .nil => .nil
  | _, _, n + 1, .cons h t => .cons h (dpAll_take n t)
theorem dpAll_drop {K : PySem.W.Frag} {H : Hp} : ∀ {xs : List V} {ds : List PyData} (n : Nat), DpAll K H xs ds → DpAll K H (xs.drop n) (ds.drop n)
  | _, _, 0, h => h
  | _, _, n + 1, .nil => .nil
  | _, _, n + 1, .cons h t => dpAll_drop n t
/-- xs[:k], xs[k:] -/
theorem cut_front {xs : List V} {k : Int} (h0 : 0 ≤ k) (h1 : k ≤ xs.length) : cutV xs none (some k) = xs.take k.toNat := by
  have e : k = ((k.toNat : Nat) : Int) := by omega
  unfold cutV
  rw [HT.sIx_none, List.drop_zero, e, HT.sIx_nat, Nat.sub_zero, Int.toNat_natCast]
  congr 1
  omega
theorem cut_back {xs : List V} {k : Int} (h0 : 0 ≤ k) (h1 : k ≤ xs.length) : cutV xs (some k) none = xs.drop k.toNat := by
  have e : k = ((k.toNat : Nat) : Int) := by omega
  unfold cutV
  rw [HT.sIx_none, e, HT.sIx_nat, Int.toNat_natCast, Nat.min_eq_left (by omega)]
  exact List.take_of_length_le (by rw [List.length_drop]; exact Nat.le_refl _)

/-! ### rounded half up -/
def hu (x y : Int) : Int := (2 * x + y) / (2 * y)
theorem half_up {x y : Int} (h : 0 < y) : 0 < frB x y ∧ frB x y ≤ y ∧ (2 * frA x y + frB x y).fdiv (2 * frB x y) = hu x y := by
  obtain ⟨e1, e2, q0, _, cs, hb, _⟩ := fr_spec (x := x) (y := y) (by omega)
  have hc := cs.mpr h
  refine ⟨q0, by omega, ?_⟩
  unfold hu
  generalize frC x y = c at *
  generalize frA x y = p at *
  generalize frB x y = q at *
  rw [Int.fdiv_eq_ediv_of_nonneg _ (by omega)]
  have a1 : 2 * x + y = c * (2 * p + q) := by rw [e1, e2, Int.mul_add, ← Int.mul_assoc c 2 p, Int.mul_comm c 2, Int.mul_assoc]
  have a2 : 2 * y = c * (2 * q) := by rw [e2, ← Int.mul_assoc c 2 q, Int.mul_comm c 2, Int.mul_assoc]
  rw [a1, a2, Int.mul_ediv_mul_of_pos _ _ hc]
/-- what half up means -/
theorem hu_near {x y : Int} (h : 0 < y) : -y ≤ 2 * (x - hu x y * y) ∧ 2 * (x - hu x y * y) < y := by
  have a := Int.emod_add_mul_ediv (2 * x + y) (2 * y)
  have b := Int.emod_nonneg (2 * x + y) (show 2 * y ≠ 0 by omega)
  have c := Int.emod_lt_of_pos (2 * x + y) (show 0 < 2 * y by omega)
  have e : 2 * y * ((2 * x + y) / (2 * y)) = 2 * (hu x y * y) := by
    unfold hu
    rw [Int.mul_comm ((2 * x + y) / (2 * y)) y, Int.mul_assoc]
  rw [e] at a
  omega
/-- and only the one nearest -/
theorem hu_uniq {x y t : Int} (h : 0 < y) (h1 : -y ≤ 2 * (x - t * y)) (h2 : 2 * (x - t * y) < y) : hu x y = t := by
  obtain ⟨a, b⟩ := hu_near (x := x) h
  have e : (hu x y - t) * y = hu x y * y - t * y := Int.sub_mul _ _ _
  generalize hu x y * y = u at a b e
  generalize t * y = v at h1 h2 e
  have l1 : (hu x y - t) * y < y := by omega
  have l2 : -y < (hu x y - t) * y := by omega
  generalize hd : hu x y - t = d at e l1 l2
  have d1 : d < 1 := by
    rcases Int.lt_or_le d 1 with z | z
    · exact z
    · have := Int.mul_le_mul_of_nonneg_right z (show 0 ≤ y by omega)
      omega
  have d2 : -1 < d := by
    rcases Int.lt_or_le (-1) d with z | z
    · exact z
    · have := Int.mul_le_mul_of_nonneg_right z (show 0 ≤ y by omega)
      omega
  omega
theorem hu_zero {y : Int} (h : 0 < y) : hu 0 y = 0 := hu_uniq h (by omega) (by omega)
theorem hu_all {n : Int} : hu (n * 100) 100 = n := hu_uniq (by decide) (by omega) (by omega)
def waysV : List V := [.str "down", .str "up", .str "toward zero", .str "half up", .str "half even"]
def sp_rounded_hu0 : Sp := fun vs H Q _ => ∃ x y : Int, vs = [.int x, .int y, .str "half up"] ∧ 0 < y ∧ y < 2 ^ 20 ∧ ∀ H', Same H H' → Q (.int (hu x y)) H'
@[irreducible] def sp_rounded_hu : Sp := sp_rounded_hu0
theorem sp_rounded_hu_eq : sp_rounded_hu = sp_rounded_hu0 := by unfold sp_rounded_hu; rfl
theorem rounded_hu {H : Hp} {Q : VK} {E : XK} (x : Int) {y : Int} (h0 : 0 < y) (h1 : y < 2 ^ 20) (k : ∀ H', Same H H' → Q (.int (hu x y)) H') : sp_rounded_hu [.int x, .int y, .str "half up"] H Q E := by
  rw [sp_rounded_hu_eq]
  exact ⟨x, y, rfl, h0, h1, k⟩
/-! ### all that stands but the deck -/
theorem del_some {H : Hp} {p b : Addr} {o : HO} (h : H b = some o) (n : b ≠ p) : del H p b = some o := by rw [del_ne n]; exact h
theorem del_of {H : Hp} {p b : Addr} {o : HO} (h : del H p b = some o) : H b = some o ∧ b ≠ p := by
  by_cases e : b = p
  · rw [e, del_same] at h
    cases h
  · rw [del_ne e] at h
    exact ⟨h, e⟩
theorem Dk.freeze {G H : Hp} {d : Addr} {D : List Int} (k : Dk G H d D) : Dk (del H d) H d D := ⟨del_same, fun _ _ e => (del_of e).1, k.hd⟩
theorem Dk.under {G H : Hp} {d : Addr} {D : List Int} (k : Dk G H d D) : Same G (del H d) := fun b o e => del_some (k.sm b o e) (k.ne e)
theorem DN.frozen {K : PySem.W.Frag} {S : Addr → Prop} {H : Hp} {p : Addr} {v : V} {d : PyData} (h : DN S H v d) (hs : ∀ b, S b → b ≠ p) : Dp K (del H p) v d :=
  DN.dp d v (DN.mono (S' := S) (fun _ z => z) (fun a o hS e => del_some e (hs a hS)) d v h)

theorem DNs.frozen {K : PySem.W.Frag} {S : Addr → Prop} {H : Hp} {p : Addr} {vs : List V} {ds : List PyData} (h : DNs S H vs ds) (hs : ∀ b, S b → b ≠ p) : DpAll K (del H p) vs ds :=
  DNs.dp ds vs (DNs.mono (S' := S) (fun _ z => z) (fun a o hS e => del_some e (hs a hS)) ds vs h)
theorem Dk.get {H H2 : Hp} {d b : Addr} {D : List Int} {o : HO} (k : Dk (del H d) H2 d D) (n : b ≠ d) (h : H b = some o) : H2 b = some o := k.sm b o (del_some h n)
theorem DNs.on {S : Addr → Prop} {H H2 : Hp} {d : Addr} {D : List Int} {vs : List V} {ds : List PyData} (h : DNs S H vs ds) (k : Dk (del H d) H2 d D) (hs : ∀ b, S b → b ≠ d) : DNs S H2 vs ds :=
  DNs.mono (fun _ z => z) (fun a o hS e => k.get (hs a hS) e) ds vs h
/-- a list and another with the same data: != says no -/
theorem data_same {K : PySem.W.Frag} {H : Hp} {v w : V} {d : PyData} {Q : VK} {n : Nat} (h1 : Dp K H v d) (h2 : Dp K H w d) (ok : okDx n d = true) (hn : n ≤ 64) (k : Q (.bl false) H) : rNeD K v w H Q := by
  have sh := okDx_shaped ok hn
  refine ⟨d, d, h1, h2, sh, sh, ?_⟩
  rw [SeqAt.eqv_refl _ (SeqAt.canLay_of_shaped sh)]
  exact k
theorem data_eq {K : PySem.W.Frag} {H : Hp} {v w : V} {d : PyData} {Q : VK} {n : Nat} (h1 : Dp K H v d) (h2 : Dp K H w d) (ok : okDx n d = true) (hn : n ≤ 64) (k : Q (.bl true) H) : rEqD K v w H Q := by
  have sh := okDx_shaped ok hn
  refine ⟨d, d, h1, h2, sh, sh, ?_⟩
  rw [SeqAt.eqv_refl _ (SeqAt.canLay_of_shaped sh)]
  exact k
mutual
theorem okD_x : ∀ (n : Nat) (d : PyData), okD n d = true → okDx n d = true
  | n, .none, _ => by cases n <;> simp only [okDx]
  | n, .bool b, _ => by cases n <;> simp only [okDx]
  | n, .int i, _ => by cases n <;> simp only [okDx]
  | n, .str x, h => by
    simp only [okD] at h
    cases n <;> simp [okDx, h]
  | 0, .list _, h => by simp [okD] at h
  | n + 1, .list xs, h => by
    simp only [okD, Bool.and_eq_true] at h
    simp only [okDx]
    exact okDs_x n xs h.2
  | 0, .tuple _, h => by simp [okD] at h
  | n + 1, .tuple xs, h => by
    simp only [okD, Bool.and_eq_true] at h
    simp only [okDx]
    exact okDs_x n xs h.2
  | n, .dict _, h => by cases n <;> simp [okD] at h
theorem okDs_x : ∀ (n : Nat) (ds : List PyData), okDs n ds = true → okDxs n ds = true
  | _, [], _ => by simp [okDxs]
  | n, x :: xs, h => by
    simp only [okDs, Bool.and_eq_true] at h
    simp only [okDxs, okD_x n x h.1, okDs_x n xs h.2, Bool.and_self]
end
/-! ### list comprehensions whose parts read K (walk_at "blk" closes the three equations) -/
section
variable {X : Cx}
theorem pe_lcK {elt tg iter : Expr} {ifs : List Expr} {scope : Scope} {own : List (Str × Nat)} {pos : Pos} {wi : TI} {g : TG} {tt : TT} {te : TE} {g' : Shared → Hp → Addr → List (Str × Addr) → List Addr → TG} {tt' : Shared → Hp → Addr → List (Str × Addr) → List Addr → TT} {te' : Shared → Hp → Addr → List (Str × Addr) → List Addr → TE}
    (hc : X.calm = true) (hN : X.N.Nodup) (hi : PI X tg iter wi) (ok : BlkOk X.N X.env.scope scope own)
    (hg : ∀ (s : Shared) (H : Hp) (C : Addr) (cl : List (Str × Addr)) (fp : List Addr), PG (X.blk s H scope (compEnvC scope cl C X.env) fp) tg (g' s H C cl fp)) (ht : ∀ (s : Shared) (H : Hp) (C : Addr) (cl : List (Str × Addr)) (fp : List Addr), PTs (X.blk s H scope (compEnvC scope cl C X.env) fp) ifs (tt' s H C cl fp))
    (he : ∀ (s : Shared) (H : Hp) (C : Addr) (cl : List (Str × Addr)) (fp : List Addr), PE (X.blk s H scope (compEnvC scope cl C X.env) fp) elt (te' s H C cl fp))
    (eg : ∀ s H C cl fp, g' s H C cl fp = g) (et : ∀ s H C cl fp, tt' s H C cl fp = tt) (ee : ∀ s H C cl fp, te' s H C cl fp = te) (hs : ∀ x, foldedSetIterable iter X.env x = pure x := by intro _; rfl) :
    PE X (.ListComp elt [⟨tg, iter, ifs, 0⟩] scope pos) (tLc wi g tt te (own.map (·.2))) :=
  pe_lc hc hN hi ok (fun s H C cl fp => by rw [← eg s H C cl fp]; exact hg s H C cl fp) (fun s H C cl fp => by rw [← et s H C cl fp]; exact ht s H C cl fp) (fun s H C cl fp => by rw [← ee s H C cl fp]; exact he s H C cl fp) hs
theorem ps_setLcK {i : Nat} {y : Str} {py : Pos} {elt tg iter : Expr} {ifs : List Expr} {scope : Scope} {own : List (Str × Nat)} {pos spos : Pos} {wi : TI} {g : TG} {tt : TT} {te : TE} {g' : Shared → Hp → Addr → List (Str × Addr) → List Addr → TG} {tt' : Shared → Hp → Addr → List (Str × Addr) → List Addr → TT} {te' : Shared → Hp → Addr → List (Str × Addr) → List Addr → TE}
    (hc : X.calm = true) (hN : X.N.Nodup) (hy : X.N[i]? = some y) (hyl : X.env.scope.names.lookup y = some .local)
    (hsw : swapsWith (.ListComp elt [⟨tg, iter, ifs, 0⟩] scope pos) (some (.Name y py)) spos.line X.env = pure true) (hi : PI X tg iter wi) (ok : BlkOk X.N X.env.scope scope own)
    (hg : ∀ (s : Shared) (H : Hp) (C : Addr) (cl : List (Str × Addr)) (fp : List Addr), PG (X.blk s H scope (compEnvC scope cl C X.env) fp) tg (g' s H C cl fp)) (ht : ∀ (s : Shared) (H : Hp) (C : Addr) (cl : List (Str × Addr)) (fp : List Addr), PTs (X.blk s H scope (compEnvC scope cl C X.env) fp) ifs (tt' s H C cl fp))
    (he : ∀ (s : Shared) (H : Hp) (C : Addr) (cl : List (Str × Addr)) (fp : List Addr), PE (X.blk s H scope (compEnvC scope cl C X.env) fp) elt (te' s H C cl fp))
    (eg : ∀ s H C cl fp, g' s H C cl fp = g) (et : ∀ s H C cl fp, tt' s H C cl fp = tt) (ee : ∀ s H C cl fp, te' s H C cl fp = te) (hs : ∀ x, foldedSetIterable iter X.env x = pure x := by intro _; rfl) :
    PS X (.Assign [.Name y py] (.ListComp elt [⟨tg, iter, ifs, 0⟩] scope pos) spos) (tAsg (tLc wi g tt te (own.map (·.2))) (gName i)) :=
  ps_setLc hc hN hy hyl hsw hi ok (fun s H C cl fp => by rw [← eg s H C cl fp]; exact hg s H C cl fp) (fun s H C cl fp => by rw [← et s H C cl fp]; exact ht s H C cl fp) (fun s H C cl fp => by rw [← ee s H C cl fp]; exact he s H C cl fp) hs
end
/-- a comprehension that changes nothing but new objects: f i is what turn i gives, none where the test fails -/
theorem lc_fn {J : It} {n : Nat} {G : Hp → Prop} {Y : Nat → Hp → V → Hp → Prop} (w : Walk J n G Y) (f : Nat → Option V) {g : TG} {tt : TT} {te : TE} {vs : List Nat} {σ : L2.St} {H1 : Hp} {D : Addr} {Qd : Hp → Prop} (hz : n ≤ 1000000) (hD : H1 D = none)
    (hG : ∀ H, Same H1 H → G H)
    (hs : ∀ i x H H' (R : VK) (N : Hp → Prop), i < n → Same H1 H → Y i H x H' → (∀ y H4, f i = some y → Same H H4 → R y H4) → (∀ H4, f i = none → Same H H4 → N H4) →
      g x (wipe σ vs) H' fun σ2 H2 => wipe σ2 vs = wipe σ vs ∧ tt σ2 H2 fun b H3 => if b = true then te σ2 H3 R else N H3)
    (hd : ∀ H', Same H1 H' → H' D = some (.lst ((List.range n).filterMap f)) → Qd H') :
    ∃ W : Nat → Nat → Hp → Prop, (∃ m, W 0 m (upd H1 D (.lst []))) ∧ ∀ i m H, W i m H →
      (J.stop i H ∧ Qd H) ∨ (J.go i H ∧ ∃ Nx : Hp → Prop, (∀ H', Nx H' → ∃ m', m' < m ∧ W (i + 1) m' H') ∧ ∀ x H', J.yld i H x H' → g x (wipe σ vs) H' fun σ2 H2 => wipe σ2 vs = wipe σ vs ∧ tt σ2 H2 fun b H3 =>
        if b = true then te σ2 H3 fun y H4 => ∃ acc, H4 D = some (.lst acc) ∧ acc.length < sizeLine ∧ Nx (upd H4 D (.lst (acc ++ [y]))) else Nx H3) := by
  refine lc_it w (fun i H' => Same H1 H' ∧ H' D = some (.lst ((List.range i).filterMap f))) ⟨Same.new hD, upd_same⟩ (fun i H _ q => hG H q.1) ?_ (fun H' q => hd H' q.1 q.2)
  rintro i x H H' hi ⟨s1, hl⟩ hy
  refine hs i x H H' _ _ hi s1 hy ?_ ?_
  · intro y H4 e s2
    refine ⟨_, s2 _ _ hl, small1000000 ?_, (s1.trans s2).mut hD, ?_⟩
    · have := List.length_filterMap_le f (List.range i)
      rw [List.length_range] at this
      omega
    · rw [upd_same, List.range_succ, List.filterMap_append]
      simp [e]
  · intro H4 e s2
    refine ⟨s1.trans s2, ?_⟩
    rw [s2 _ _ hl, List.range_succ, List.filterMap_append]
    simp [e]
theorem fm_some {α : Type} (f : Nat → α) (n : Nat) : (List.range n).filterMap (fun i => some (f i)) = (List.range n).map f := by
  rw [← List.filterMap_eq_map]
  rfl
theorem range_at {α β : Type} (xs : List α) (F : α → β) (f : Nat → β) (h : ∀ i x, xs[i]? = some x → f i = F x) : (List.range xs.length).map f = xs.map F := by
  refine List.ext_getElem? fun i => ?_
  rw [List.getElem?_map, List.getElem?_map]
  by_cases hi : i < xs.length
  · rw [List.getElem?_range hi, List.getElem?_eq_getElem hi]
    simp [h i _ (List.getElem?_eq_getElem hi)]
  · rw [List.getElem?_eq_none (by simp; omega), List.getElem?_eq_none (by omega)]
    rfl
theorem ints_get {ns : List Int} {i : Nat} {x : V} (h : (ns.map V.int)[i]? = some x) : ∃ z, ns[i]? = some z ∧ x = .int z := by
  rw [List.getElem?_map] at h
  obtain ⟨z, hz, rfl⟩ := Option.map_eq_some_iff.mp h
  exact ⟨z, hz, rfl⟩
theorem tk_sum {ns : List Int} {i : Nat} {z : Int} (f : Int → Int) (h : ns[i]? = some z) : ((ns.take (i + 1)).map f).sum = ((ns.take i).map f).sum + f z := by
  rw [List.take_add_one, h, List.map_append, List.sum_append]
  simp
section
variable {X : Cx}
/-- sorted(xs) of a tuple of ints -/
def rSortedT (K : PySem.W.Frag) : List V → Hp → VK → Prop := fun vs H Q => ∃ (a : Addr) (ns : List Int), vs = [V.ref a] ∧ SqT K H a (ns.map V.int) ∧
  ∀ (ns' : List Int) (p : Addr), ns'.Perm ns → ns'.Pairwise (· ≤ ·) → H p = none → Q (.ref p) (upd H p (.lst (ns'.map V.int)))
theorem cr_sortedT : CallR X (.builtin "sorted") (rSortedT X.K) := by
  intro pins s σ H vs us Q I r h
  obtain ⟨a, ns, rfl, hs, q⟩ := h
  obtain ⟨its, rv, ⟨o, ho, hc, n, hd⟩, hz⟩ := I.tuple hs
  rw [Vals.ref1 r]
  have hi := rv.ints
  have hz' : its.length ≤ sizeLine := by rw [← rv.length]; exact hz
  refine Calls.call_function_entry kind_sorted plain_sorted entry_sorted (args_sorted1 _) ?_
  unfold Builtin.«sorted»
  refine wpAny_bind (m := checkCount "sorted" 1 1 _) (wpAny_pure ?_)
  refine wpAny_bind (wpAny_collect_seq a (.inr rfl) ho hc hd (fun h1 hk => ?_) (by simpa using hz'))
  refine wpAny_bind (wpAny_newList ?_ (by simpa using hz'))
  have hoL : (h1.push (seqObj "list" its.toArray 0)).get? h1.objs.size = some (seqObj "list" its.toArray 0) := Heap.get?_push_size _ rfl
  have keep : ∀ b u, s.heap.get? b = some u → b ≠ h1.objs.size ∧ (h1.push (seqObj "list" its.toArray 0)).get? b = some u := fun b u e => ⟨Nat.ne_of_lt (Heap.lt_size (hk b u e)), Heap.get?_push_of_some _ (hk b u e)⟩
  have hn : H h1.objs.size = none := (I.hok.kept hk).fresh (Nat.le_refl _)
  have hp : s.heap.get? h1.objs.size = none := by
    cases e : s.heap.get? h1.objs.size with
    | none => rfl
    | some u => exact absurd (Heap.lt_size (hk _ _ e)) (Nat.lt_irrefl _)
  refine wpAny_bind (wpAny_holding (wpAny_call_entry slot_list_sort ⟨_, hoL, rfl⟩ entry_list_sort (SrtO.list_sort_ord SrtO.swo_int hoL hz' (fun h2 => SrtO.ints_sortable hi h2) fun out hs hb => ⟨_, rfl, ?_⟩) (args_list_sort _)))
  refine wpAny_pure ⟨_, rfl, ?_⟩
  obtain ⟨k1, k2, k3⟩ := SrtO.ints_out hi hs hb
  obtain ⟨ep, he'⟩ := sortedHeap_at (vs := its) (out := out.toArray) hoL
  have hlen : ((out.map SrtO.iv).map V.int).length ≤ sizeLine := by
    rw [List.length_map, k2.length_eq]
    rw [List.length_map] at hz
    exact hz
  refine ⟨.ref _, upd H h1.objs.size (.lst ((out.map SrtO.iv).map V.int)), I.laidN (t' := s.toks) (fun b u e => ?_) hp hn ⟨hlen, out, ep, vals_of_ints k1, he'⟩, rfl, q _ _ k2 k3 hn⟩
  rw [sortedHeap_old (keep b u e).1 (Heap.lt_size (keep b u e).2)]
  exact (keep b u e).2
/-- sorted(xs) of a list or a tuple of ints -/
def rSortedQ (K : PySem.W.Frag) : List V → Hp → VK → Prop := fun vs H Q => ∃ (a : Addr) (ns : List Int), vs = [V.ref a] ∧ SqX K H a (ns.map V.int) ∧
  ∀ (ns' : List Int) (p : Addr), ns'.Perm ns → ns'.Pairwise (· ≤ ·) → H p = none → Q (.ref p) (upd H p (.lst (ns'.map V.int)))
theorem cr_sortedQ : CallR X (.builtin "sorted") (rSortedQ X.K) := by
  intro pins s σ H vs us Q I r h
  obtain ⟨a, ns, e, hs | hs, q⟩ := h
  · exact cr_sortedI pins s σ H vs us Q I r ⟨a, ns, e, hs, q⟩
  · exact cr_sortedT pins s σ H vs us Q I r ⟨a, ns, e, hs, q⟩
end
/-- the blocks of a comprehension within a comprehension: sc is the scope of the def -/
def envAt (sc : Scope) : Env := { scope := sc, locals := 0, globals := 0, cells := [] }
theorem blkOk_in {N : List Str} {sc scope0 scope : Scope} {own : List (Str × Nat)} {env : Env} (he : env.scope = sc) (h : blkC N (relabel scope0 (envAt sc)) scope own = true) : BlkOk N (relabel scope0 env) scope own := by
  have e : relabel scope0 env = relabel scope0 (envAt sc) := by
    subst he
    rfl
  rw [e]
  exact blkOk_by h
theorem fm_ints {β : Type} (ns : List Int) (G : Int → Option β) : (List.range ns.length).filterMap (fun i => G (ns.getD i 0)) = ns.filterMap G := by
  have e : (List.range ns.length).map (fun i => ns.getD i 0) = ns := by
    rw [range_at ns id _ (fun i x e => by rw [List.getD_eq_getElem?_getD, e]; rfl), List.map_id]
  have h : (List.range ns.length).filterMap (fun i => G (ns.getD i 0)) = ((List.range ns.length).map (fun i => ns.getD i 0)).filterMap G := by
    rw [List.filterMap_map]
    rfl
  rw [h, e]
theorem fm_filter {α β : Type} (P : α → Bool) (f : α → β) : ∀ xs : List α, xs.filterMap (fun x => if P x = true then some (f x) else none) = (xs.filter P).map f
  | [] => rfl
  | x :: t => by
    by_cases h : P x = true
    · rw [List.filterMap_cons, if_pos h, List.filter_cons, if_pos h, List.map_cons, fm_filter P f t]
    · rw [List.filterMap_cons, if_neg h, List.filter_cons, if_neg h, fm_filter P f t]
theorem atI_last {α : Type} {xs : List α} {v : α} (h : xs[xs.length - 1]? = some v) : atI xs (-1) = some v := by
  have h0 : 0 < xs.length := by
    have := (List.getElem?_eq_some_iff.mp h).1
    omega
  unfold atI ixN
  rw [if_neg (by decide), if_pos (by omega)]
  show xs[(-1 + (xs.length : Int)).toNat]? = _
  rw [show (-1 + (xs.length : Int)).toNat = xs.length - 1 by omega]
  exact h
/-! ### methods and makings that may raise, by what is wanted at the place -/
section
variable {X : Cx} {CX : CXT} {k : Nat} {f C : Addr} {fd : FuncData} {ps : List Str} {sp : Sp} {E : L2.St → XK} {x m : Str} {p pos apos : Pos} {e o : Expr} {es : List Expr} {ta : TE} {t : TA}
def tMethQ (C : Addr) (m : Str) (sp : Sp) (E : L2.St → XK) (ta : TE) (t : TA) : TE := fun σ H Q => ta σ H fun x H1 => ∃ a dx fs, x = .ref a ∧ H1 a = some (.ins C dx fs) ∧ fs.lookup m = none ∧ t σ H1 fun vs H2 => sp (x :: vs) H2 Q (E σ)
theorem pe_methQ {pl : Sem Bool} (he : PE X o ta) (c : Cls X.K C) (hm : Meth X.K C m f) (F : FnOk X.prog X.w X.K X.mg X.base CX k f fd ps sp) (hr : Room k X.A) (hb : Binds X.K fd ps []) (hx : ∀ σ, PassesAt CX X σ (E σ)) (ha : PA X (e :: es) t)
    (hst : starEach (e :: es) X.env = (false, eval e X.env) :: starEach es X.env := by rfl) (hpl : (backTo pos (starEach es X.env)).any (·.1) = false := by rfl)
    (ht : eval (.Call (.Attribute o m apos) (e :: es) [] pos) X.env = (do
      let ov ← eval o X.env
      standAt apos.atName
      let (f, first) ← holding [ov] (getMethod ov m pl)
      callWith pos f first (backTo pos (starEach (e :: es) X.env)) (backToKw pos (keywordEach [] X.env))) := by rfl) :
    PE X (.Call (.Attribute o m apos) (e :: es) [] pos) (tMethQ C m sp E ta t) := by
  refine ⟨fun pins s σ H Q I h => ?_⟩
  refine PySem.W.methodCall_KW (pl := pl) (thn (he.run pins s σ H _ I h) fun u s1 ⟨x, H1, I1, rx, a, dx, fs, ex, ea, l, q⟩ => ?_) ht
  subst ex
  obtain rfl : u = Value.ref a := rx
  refine getmeth_ok I1 ea c hm l ?_
  refine PySem.W.callWith_K (first := [.ref a]) (h₀ := X.base) I.ok.mod.kin hm.kp (thn (ha.run pos pins s1 σ H1 _ I1 q) fun us s2 ⟨vs, H2, I2, r, q2⟩ => ⟨I2.kIn, ?_⟩) hst hpl
  exact run_fnS (us := .ref a :: us) (vs := .ref a :: vs) F hr hb (hx σ) I2 (.cons rfl r) q2
theorem pe_meth0Q {pl : Sem Bool} (he : PE X o ta) (c : Cls X.K C) (hm : Meth X.K C m f) (F : FnOk X.prog X.w X.K X.mg X.base CX k f fd ps sp) (hr : Room k X.A) (hb : Binds X.K fd ps []) (hx : ∀ σ, PassesAt CX X σ (E σ))
    (ht : eval (.Call (.Attribute o m apos) [] [] pos) X.env = (do
      let ov ← eval o X.env
      standAt apos.atName
      let (f, first) ← holding [ov] (getMethod ov m pl)
      callWith pos f first (backTo pos (starEach [] X.env)) (backToKw pos (keywordEach [] X.env))) := by rfl) :
    PE X (.Call (.Attribute o m apos) [] [] pos) (tMethQ C m sp E ta tNil) := by
  refine ⟨fun pins s σ H Q I h => ?_⟩
  refine PySem.W.methodCall_KW (pl := pl) (thn (he.run pins s σ H _ I h) fun u s1 ⟨x, H1, I1, rx, a, dx, fs, ex, ea, l, q⟩ => ?_) ht
  subst ex
  obtain rfl : u = Value.ref a := rx
  refine getmeth_ok I1 ea c hm l ?_
  exact PySem.W.callWith_K0 (first := [.ref a]) I1.kIn hm.kp (run_fnS (us := [.ref a]) (vs := [.ref a]) F hr hb (hx σ) I1 (.cons rfl .nil) q)
def tMakeQ (C : Addr) (sp : Sp) (E : L2.St → XK) (t : TA) : TE := fun σ H Q => t σ H fun vs H1 => ∀ x dx, H1 x = none → H1 dx = none → dx ≠ x →
  sp (.ref x :: vs) (upd (upd H1 dx (.own x)) x (.ins C dx [])) (fun v H2 => v = .non ∧ Q (.ref x) H2) (E σ)
theorem run_makeQ {pins : List (Addr × Obj)} {σ : L2.St} {H : Hp} {s : Shared} {Q : VK} {E : XK} {us : List Value} {vs : List V} (M : Mk X.K C f) (F : FnOk X.prog X.w X.K X.mg X.base CX k f fd ps sp) (hr : Room (k + 1) X.A) (hb : Binds X.K fd ps [])
    (hx : PassesAt CX X σ E) (I : Inv X pins σ H s) (r : Vals vs us)
    (h : ∀ x dx, H x = none → H dx = none → dx ≠ x → sp (.ref x :: vs) (upd (upd H dx (.own x)) x (.ins C dx [])) (fun v H2 => v = .non ∧ Q (.ref x) H2) E) :
    wpAny (model X.prog X.w) X.A (call (.ref C) us) (EP X pins σ Q) X.xe s := by
  have hq := h (s.heap.objs.size + 1) s.heap.objs.size (I.hok.fresh (Nat.le_succ _)) (I.hok.fresh (Nat.le_refl _)) (Nat.ne_of_lt (Nat.lt_succ_self _))
  have I2 := Inv.made (C := C) I
  have r2 : Vals (V.ref (s.heap.objs.size + 1) :: vs) (Value.ref (s.heap.objs.size + 1) :: us) := .cons rfl r
  have hl : (Value.ref (s.heap.objs.size + 1) :: us).length = ps.length := by
    have e := r2.length
    rw [F.len _ _ _ _ hq] at e
    exact e.symm
  have b := hb _ (Value.ref (s.heap.objs.size + 1) :: us) I2.kIn (by rw [List.append_nil]; exact hl)
  rw [List.append_nil] at b
  refine wpAny_call (make_map (f := f) I.kIn M.makes M.init (beq_iff_eq.mp M.fn) (codeAny_mono (F.run _ X.stack _ _ ⟨Value.ref (s.heap.objs.size + 1) :: us, []⟩ (Value.ref (s.heap.objs.size + 1) :: us) _ _ E (hr.make C us [])
    (I2.env0.make C us []) b r2 hq) fun r s' hq' => ?_))
  cases r with
  | error e => exact hx pins _ _ e s' I2 hq'
  | ok fl =>
    cases fl with
    | ret u =>
      obtain ⟨v, H', I3, rv, ev, q3⟩ := I2.after hq'
      subst ev
      exact ⟨rv, ⟨V.ref (s.heap.objs.size + 1), H', I3, rfl, q3⟩⟩
    | next => exact False.elim hq'
    | brk => exact False.elim hq'
    | cont => exact False.elim hq'
theorem pe_makeQ (M : Mk X.K C f) (F : FnOk X.prog X.w X.K X.mg X.base CX k f fd ps sp) (hr : Room (k + 1) X.A) (hg : Gl X x) (hm : X.mg x = some (.ref C)) (hb : Binds X.K fd ps []) (hx : ∀ σ, PassesAt CX X σ (E σ))
    (ha : PA X (e :: es) t) (hdb : (x == ("__debug__" : Str)) = false := by decide) (he : starEach (e :: es) X.env = (false, eval e X.env) :: starEach es X.env := by rfl) (hpl : (backTo pos (starEach es X.env)).any (·.1) = false := by rfl) :
    PE X (.Call (.Name x p) (e :: es) [] pos) (tMakeQ C sp E t) := by
  refine ⟨fun pins s σ H Q I h => ?_⟩
  refine wpAny_Call_Name_kw (ld_glob I hg hm ?_ hdb)
  refine PySem.W.callWith_K (h₀ := X.base) I.ok.mod.kin M.kp (thn (ha.run pos pins s σ H _ I h) fun us s1 ⟨vs, H1, I1, r, q⟩ => ⟨I1.kIn, ?_⟩) he hpl
  exact run_makeQ M F hr hb (hx σ) I1 r q
end

/-! ### the lists in a value, at most n deep -/
mutual
inductive DC (K : PySem.W.Frag) (H : Hp) : Nat → V → List Addr → Prop
  | non (n : Nat) : DC K H n .non []
  | bl (n : Nat) (b : Bool) : DC K H n (.bl b) []
  | int (n : Nat) (i : Int) : DC K H n (.int i) []
  | str (n : Nat) (x : Str) : DC K H n (.str x) []
  | lst {n : Nat} {a : Addr} {xs : List V} {L : List Addr} : H a = some (.lst xs) → xs.length ≤ 1000 → DCs K H n xs L → a ∉ L → DC K H (n + 1) (.ref a) (a :: L)
  | tup {n : Nat} {a : Addr} {xs : List V} {L : List Addr} : SqT K H a xs → xs.length ≤ 1000 → DCs K H n xs L → DC K H (n + 1) (.ref a) L
inductive DCs (K : PySem.W.Frag) (H : Hp) : Nat → List V → List Addr → Prop
  | nil (n : Nat) : DCs K H n [] []
  | cons {n : Nat} {v : V} {vs : List V} {L M : List Addr} : DC K H n v L → DCs K H n vs M → (∀ b, b ∈ L → b ∉ M) → DCs K H n (v :: vs) (L ++ M)
end
mutual
theorem DC.lists {K : PySem.W.Frag} {H : Hp} : ∀ {n : Nat} {v : V} {L : List Addr}, DC K H n v L → ∀ b, b ∈ L → ∃ xs, H b = some (.lst xs)
  | _, _, _, .non _, b, h => by cases h
  | _, _, _, .bl _ _, b, h => by cases h
  | _, _, _, .int _ _, b, h => by cases h
  | _, _, _, .str _ _, b, h => by cases h
  | _, _, _, .lst h1 _ h2 _, b, h => by
    rcases List.mem_cons.mp h with rfl | h
    · exact ⟨_, h1⟩
    · exact DCs.lists h2 b h
  | _, _, _, .tup _ _ h2, b, h => DCs.lists h2 b h
theorem DCs.lists {K : PySem.W.Frag} {H : Hp} : ∀ {n : Nat} {vs : List V} {L : List Addr}, DCs K H n vs L → ∀ b, b ∈ L → ∃ xs, H b = some (.lst xs)
  | _, _, _, .nil _, b, h => by cases h
  | _, _, _, .cons h1 h2 _, b, h => by
    rcases List.mem_append.mp h with h | h
    · exact DC.lists h1 b h
    · exact DCs.lists h2 b h
end
/-- all but the lists of P is as it was -/
def ButP (P : List Addr) (H H' : Hp) : Prop := ∀ b o, b ∉ P → H b = some o → H' b = some o
theorem ButP.tup {K : PySem.W.Frag} {P : List Addr} {H H' : Hp} (h : ButP P H H') (hP : ∀ b, b ∈ P → ∃ xs, H b = some (.lst xs)) {a : Addr} {xs : List V} (s : SqT K H a xs) : SqT K H' a xs := by
  have n : ∀ {o : HO}, H a = some o → (∀ ys, o ≠ .lst ys) → a ∉ P := fun e ne q => by
    obtain ⟨ys, hy⟩ := hP a q
    rw [e] at hy
    exact ne ys (Option.some.inj hy)
  rcases s with (s | ⟨o, s⟩) | s
  · exact .inl (.inl (h _ _ (n s (fun _ z => nomatch z)) s))
  · exact .inl (.inr ⟨o, h _ _ (n s (fun _ z => nomatch z)) s⟩)
  · exact .inr s
mutual
theorem DC.mono {K : PySem.W.Frag} {P : List Addr} {H H' : Hp} (h : ButP P H H') (hP : ∀ b, b ∈ P → ∃ xs, H b = some (.lst xs)) : ∀ {n : Nat} {v : V} {L : List Addr}, DC K H n v L → (∀ b, b ∈ L → b ∉ P) → DC K H' n v L
  | _, _, _, .non n, _ => .non n
  | _, _, _, .bl n b, _ => .bl n b
  | _, _, _, .int n i, _ => .int n i
  | _, _, _, .str n x, _ => .str n x
  | _, _, _, .lst h1 hz h2 h3, d => .lst (h _ _ (d _ List.mem_cons_self) h1) hz (DCs.mono h hP h2 fun b hb => d b (List.mem_cons_of_mem _ hb)) h3
  | _, _, _, .tup h1 hz h2, d => .tup (h.tup hP h1) hz (DCs.mono h hP h2 d)
theorem DCs.mono {K : PySem.W.Frag} {P : List Addr} {H H' : Hp} (h : ButP P H H') (hP : ∀ b, b ∈ P → ∃ xs, H b = some (.lst xs)) : ∀ {n : Nat} {vs : List V} {L : List Addr}, DCs K H n vs L → (∀ b, b ∈ L → b ∉ P) → DCs K H' n vs L
  | _, _, _, .nil n, _ => .nil n
  | _, _, _, .cons h1 h2 h3, d => .cons (DC.mono h hP h1 fun b hb => d b (List.mem_append.mpr (.inl hb))) (DCs.mono h hP h2 fun b hb => d b (List.mem_append.mpr (.inr hb))) h3
end
def sp_spoil (K : PySem.W.Frag) (n : Nat) : Sp := fun vs H Q _ => ∃ (v : V) (L : List Addr), vs = [v] ∧ DC K H n v L ∧ ∀ H', ButP L H H' → Q .non H'
theorem DCs.same {K : PySem.W.Frag} {H H' : Hp} (s : Same H H') {n : Nat} {vs : List V} {L : List Addr} (h : DCs K H n vs L) : DCs K H' n vs L := h.mono (P := []) (fun b o _ e => s b o e) (fun b hb => by cases hb) (fun b _ hb => by cases hb)
theorem DCs.ints {K : PySem.W.Frag} {H : Hp} {n : Nat} : ∀ ns : List Int, DCs K H n (ns.map V.int) []
  | [] => .nil n
  | x :: ns => by
    have h : DCs K H n (V.int x :: ns.map V.int) ([] ++ []) := .cons (.int n x) (DCs.ints ns) fun b hb => by cases hb
    exact h
/-- the turn of a for over a value's items that spoils them -/
theorem spoil_turn {K : PySem.W.Frag} {n i : Nat} {H1 H2 : Hp} {xs : List V} {x : V} {LL R : List Addr} (hx : xs[i]? = some x) (hR : DCs K H2 n (xs.drop i) R) (hL : ∀ b, b ∈ R → b ∈ LL) (h2 : ButP LL H1 H2) :
    ∃ N, DC K H2 n x N ∧ ∀ H', ButP N H2 H' → ∃ R', DCs K H' n (xs.drop (i + 1)) R' ∧ (∀ b, b ∈ R' → b ∈ LL) ∧ ButP LL H1 H' := by
  obtain ⟨hi, rfl⟩ := List.getElem?_eq_some_iff.mp hx
  rw [List.drop_eq_getElem_cons hi] at hR
  cases hR with
  | @cons _ _ _ N M c1 c2 d =>
    refine ⟨N, c1, fun H' hb => ⟨M, c2.mono hb c1.lists fun b hb q => d b q hb, fun b hb => hL b (List.mem_append.mpr (.inr hb)), fun b o nb e => hb b o (fun q => nb (hL b (List.mem_append.mpr (.inl q)))) (h2 b o nb e)⟩⟩
end Sw


set_option hygiene false in
local macro_rules | `(tactic| walk_at "len") => `(tactic| repeat (first | (obtain ⟨rfl, _⟩ := h; rfl) | (obtain ⟨_, h⟩ := h)))
local macro_rules | `(tactic| walk_at "st") => `(tactic| first
  | refine ⟨_, rfl, ?_⟩
  | refine ⟨_, _, rfl, rfl, (by show (0 : Int) < _; decide), ?_⟩
  | refine ⟨_, _, rfl, rfl, by decide, ?_⟩
  | refine ⟨_, _, rfl, rfl, ⟨by decide, by decide⟩, ?_⟩
  | refine ⟨_, _, rfl, rfl, .inl ⟨by decide, by decide⟩, ?_⟩
  | refine ⟨_, _, rfl, rfl, .inr ⟨by decide, by decide⟩, ?_⟩
  | refine ⟨_, _, rfl, rfl, ?_⟩
  | refine .inl ⟨_, rfl, ?_⟩
  | refine .inr ⟨_, rfl, ?_⟩
  | refine ⟨rfl, ?_⟩)
local macro_rules | `(tactic| walk_at "sts") => `(tactic| repeat walk_at "st")
local macro_rules | `(tactic| walk_at "blk") => `(tactic| (intros; first | (dsimp only [L2.Cx.blk, L2.cxOf]; done) | (dsimp only [L2.Cx.blk, L2.cxOf]; rfl) | rfl))

namespace K36
open PySem PySem.Spec PyProof.Rows L2 Sw
def topS (i : Nat) : Stmt := PySem.Challenge.pw_slotwork_k36_whole_times_in_spans.main.body.getD i (.Pass ⟨0, 0, 0, 0⟩)
abbrev st_c_InvalidTime_init : Stmt := inClass (topS 2) 0
abbrev st_c_InvalidSlot_init : Stmt := inClass (topS 3) 0
abbrev st_c_is_spans : Stmt := topS 5
abbrev st_c_check_spans : Stmt := topS 6
abbrev st_c_rest_of : Stmt := topS 7
abbrev st_c_length_of : Stmt := topS 8
abbrev st_c_first_fit : Stmt := topS 9
abbrev st_c_time_behind : Stmt := topS 10
abbrev st_c_time_before : Stmt := topS 11
abbrev st_c_law_deck : Stmt := topS 13
abbrev st_c_law_take : Stmt := topS 14
abbrev st_c_law_plain : Stmt := topS 15
abbrev st_c_law_spans : Stmt := topS 16
abbrev st_c_law_times : Stmt := topS 17
abbrev st_c_law_why : Stmt := topS 18
abbrev st_c_law : Stmt := topS 19
theorem sc_c_InvalidTime_init : FnScope ["self", "what"] ["self", "what"] (defScope st_c_InvalidTime_init) := ⟨rfl, rfl, rfl, by decide +kernel, rfl, by decide +kernel, by decide +kernel⟩
theorem sc_c_InvalidSlot_init : FnScope ["self", "what"] ["self", "what"] (defScope st_c_InvalidSlot_init) := ⟨rfl, rfl, rfl, by decide +kernel, rfl, by decide +kernel, by decide +kernel⟩
theorem sc_c_is_spans : FnScope ["spans", "start", "end", "one", "two"] ["spans"] (defScope st_c_is_spans) := ⟨rfl, rfl, rfl, by decide +kernel, rfl, by decide +kernel, by decide +kernel⟩
theorem sc_c_check_spans : FnScope ["spans"] ["spans"] (defScope st_c_check_spans) := ⟨rfl, rfl, rfl, by decide +kernel, rfl, by decide +kernel, by decide +kernel⟩
theorem sc_c_rest_of : FnScope ["spans", "start", "end", "found", "here", "one", "two"] ["spans", "start", "end"] (defScope st_c_rest_of) := ⟨rfl, rfl, rfl, by decide +kernel, rfl, by decide +kernel, by decide +kernel⟩
theorem sc_c_length_of : FnScope ["spans", "start", "end"] ["spans"] (defScope st_c_length_of) := ⟨rfl, rfl, rfl, by decide +kernel, rfl, by decide +kernel, by decide +kernel⟩
theorem sc_c_first_fit : FnScope ["spans", "length", "time", "start", "end"] ["spans", "length", "time"] (defScope st_c_first_fit) := ⟨rfl, rfl, rfl, by decide +kernel, rfl, by decide +kernel, by decide +kernel⟩
theorem sc_c_time_behind : FnScope ["spans", "time", "minutes", "left", "start", "end", "here"] ["spans", "time", "minutes"] (defScope st_c_time_behind) := ⟨rfl, rfl, rfl, by decide +kernel, rfl, by decide +kernel, by decide +kernel⟩
theorem sc_c_time_before : FnScope ["spans", "time", "minutes", "turned", "found", "start", "end"] ["spans", "time", "minutes"] (defScope st_c_time_before) := ⟨rfl, rfl, rfl, by decide +kernel, rfl, by decide +kernel, by decide +kernel⟩
theorem sc_c_law_deck : FnScope ["script", "cells", "each", "deck", "seed", "k", "cell", "rest", "at"] ["script", "cells", "each"] (defScope st_c_law_deck) := ⟨rfl, rfl, rfl, by decide +kernel, rfl, by decide +kernel, by decide +kernel⟩
theorem sc_c_law_take : FnScope ["deck", "many"] ["deck", "many"] (defScope st_c_law_take) := ⟨rfl, rfl, rfl, by decide +kernel, rfl, by decide +kernel, by decide +kernel⟩
theorem sc_c_law_plain : FnScope ["value", "item"] ["value"] (defScope st_c_law_plain) := ⟨rfl, rfl, rfl, by decide +kernel, rfl, by decide +kernel, by decide +kernel⟩
theorem sc_c_law_spans : FnScope ["deck", "most", "span", "found", "here", "turn", "end"] ["deck", "most", "span"] (defScope st_c_law_spans) := ⟨rfl, rfl, rfl, by decide +kernel, rfl, by decide +kernel, by decide +kernel⟩
theorem sc_c_law_times : FnScope ["spans", "found", "start", "end", "time"] ["spans"] (defScope st_c_law_times) := ⟨rfl, rfl, rfl, by decide +kernel, rfl, by decide +kernel, by decide +kernel⟩
theorem sc_c_law_why : FnScope ["ask", "spans", "number", "error"] ["ask", "spans", "number"] (defScope st_c_law_why) := ⟨rfl, rfl, rfl, by decide +kernel, rfl, by decide +kernel, by decide +kernel⟩
theorem sc_c_law : FnScope ["script", "deck", "spans", "times", "time", "length", "due", "start", "at", "handed", "minutes", "later", "count", "early", "back", "bad", "ask"] ["script"] (defScope st_c_law) := ⟨rfl, rfl, rfl, by decide +kernel, rfl, by decide +kernel, by decide +kernel⟩
/-- where the defs, the classes and the constants of the text stand -/
structure Ad where
  f_c_InvalidTime_init : Addr
  d_c_InvalidTime_init : FuncData
  f_c_InvalidSlot_init : Addr
  d_c_InvalidSlot_init : FuncData
  f_c_is_spans : Addr
  d_c_is_spans : FuncData
  f_c_check_spans : Addr
  d_c_check_spans : FuncData
  f_c_rest_of : Addr
  d_c_rest_of : FuncData
  f_c_length_of : Addr
  d_c_length_of : FuncData
  f_c_first_fit : Addr
  d_c_first_fit : FuncData
  f_c_time_behind : Addr
  d_c_time_behind : FuncData
  f_c_time_before : Addr
  d_c_time_before : FuncData
  f_c_law_deck : Addr
  d_c_law_deck : FuncData
  f_c_law_take : Addr
  d_c_law_take : FuncData
  f_c_law_plain : Addr
  d_c_law_plain : FuncData
  f_c_law_spans : Addr
  d_c_law_spans : FuncData
  f_c_law_times : Addr
  d_c_law_times : FuncData
  f_c_law_why : Addr
  d_c_law_why : FuncData
  f_c_law : Addr
  d_c_law : FuncData
  C_SlotError : Addr
  C_InvalidTime : Addr
  C_InvalidSlot : Addr
  z : Unit := ()
structure Txt (K : PySem.W.Frag) (mg : Str → Option Value) (a : Ad) : Prop where
  F_c_InvalidTime_init : Fun K "__init__" "InvalidTime.__init__" st_c_InvalidTime_init a.f_c_InvalidTime_init a.d_c_InvalidTime_init
  b_c_InvalidTime_init : Binds K a.d_c_InvalidTime_init ["self", "what"] []
  F_c_InvalidSlot_init : Fun K "__init__" "InvalidSlot.__init__" st_c_InvalidSlot_init a.f_c_InvalidSlot_init a.d_c_InvalidSlot_init
  b_c_InvalidSlot_init : Binds K a.d_c_InvalidSlot_init ["self", "what"] []
  F_c_is_spans : Fun K "is_spans" "is_spans" st_c_is_spans a.f_c_is_spans a.d_c_is_spans
  b_c_is_spans : Binds K a.d_c_is_spans ["spans"] []
  m_c_is_spans : mg "is_spans" = some (.ref a.f_c_is_spans)
  F_c_check_spans : Fun K "check_spans" "check_spans" st_c_check_spans a.f_c_check_spans a.d_c_check_spans
  b_c_check_spans : Binds K a.d_c_check_spans ["spans"] []
  m_c_check_spans : mg "check_spans" = some (.ref a.f_c_check_spans)
  F_c_rest_of : Fun K "rest_of" "rest_of" st_c_rest_of a.f_c_rest_of a.d_c_rest_of
  b_c_rest_of : Binds K a.d_c_rest_of ["spans", "start", "end"] []
  m_c_rest_of : mg "rest_of" = some (.ref a.f_c_rest_of)
  F_c_length_of : Fun K "length_of" "length_of" st_c_length_of a.f_c_length_of a.d_c_length_of
  b_c_length_of : Binds K a.d_c_length_of ["spans"] []
  m_c_length_of : mg "length_of" = some (.ref a.f_c_length_of)
  F_c_first_fit : Fun K "first_fit" "first_fit" st_c_first_fit a.f_c_first_fit a.d_c_first_fit
  b_c_first_fit : Binds K a.d_c_first_fit ["spans", "length", "time"] []
  m_c_first_fit : mg "first_fit" = some (.ref a.f_c_first_fit)
  F_c_time_behind : Fun K "time_behind" "time_behind" st_c_time_behind a.f_c_time_behind a.d_c_time_behind
  b_c_time_behind : Binds K a.d_c_time_behind ["spans", "time", "minutes"] []
  m_c_time_behind : mg "time_behind" = some (.ref a.f_c_time_behind)
  F_c_time_before : Fun K "time_before" "time_before" st_c_time_before a.f_c_time_before a.d_c_time_before
  b_c_time_before : Binds K a.d_c_time_before ["spans", "time", "minutes"] []
  m_c_time_before : mg "time_before" = some (.ref a.f_c_time_before)
  F_c_law_deck : Fun K "_law_deck" "_law_deck" st_c_law_deck a.f_c_law_deck a.d_c_law_deck
  b_c_law_deck : Binds K a.d_c_law_deck ["script", "cells", "each"] []
  m_c_law_deck : mg "_law_deck" = some (.ref a.f_c_law_deck)
  F_c_law_take : Fun K "_law_take" "_law_take" st_c_law_take a.f_c_law_take a.d_c_law_take
  b_c_law_take : Binds K a.d_c_law_take ["deck", "many"] []
  m_c_law_take : mg "_law_take" = some (.ref a.f_c_law_take)
  F_c_law_plain : Fun K "_law_plain" "_law_plain" st_c_law_plain a.f_c_law_plain a.d_c_law_plain
  b_c_law_plain : Binds K a.d_c_law_plain ["value"] []
  m_c_law_plain : mg "_law_plain" = some (.ref a.f_c_law_plain)
  F_c_law_spans : Fun K "_law_spans" "_law_spans" st_c_law_spans a.f_c_law_spans a.d_c_law_spans
  b_c_law_spans : Binds K a.d_c_law_spans ["deck", "most", "span"] []
  m_c_law_spans : mg "_law_spans" = some (.ref a.f_c_law_spans)
  F_c_law_times : Fun K "_law_times" "_law_times" st_c_law_times a.f_c_law_times a.d_c_law_times
  b_c_law_times : Binds K a.d_c_law_times ["spans"] []
  m_c_law_times : mg "_law_times" = some (.ref a.f_c_law_times)
  F_c_law_why : Fun K "_law_why" "_law_why" st_c_law_why a.f_c_law_why a.d_c_law_why
  b_c_law_why : Binds K a.d_c_law_why ["ask", "spans", "number"] []
  m_c_law_why : mg "_law_why" = some (.ref a.f_c_law_why)
  F_c_law : Fun K "law" "law" st_c_law a.f_c_law a.d_c_law
  b_c_law : Binds K a.d_c_law ["script"] []
  m_c_law : mg "law" = some (.ref a.f_c_law)
  m_SlotError : mg "SlotError" = some (.ref a.C_SlotError)
  bc_SlotError : BaseC K a.C_SlotError
  m_InvalidTime : mg "InvalidTime" = some (.ref a.C_InvalidTime)
  ox_InvalidTime : OexC K a.C_InvalidTime
  in_InvalidTime : PySem.W.findIn K (.ref a.C_InvalidTime) "__init__" = some (some (.ref a.f_c_InvalidTime_init))
  ti_InvalidTime : PySem.W.typeIn K (.ref a.f_c_InvalidTime_init) = some (.type "function")
  no_InvalidTime_what : PySem.W.findIn K (.ref a.C_InvalidTime) "what" = some none
  xf_InvalidTime : XfC K a.C_InvalidTime
  is_InvalidTime : IsC K a.C_InvalidTime
  em_InvalidTime_SlotError : PySem.W.exmOne K (.ref a.C_InvalidTime) (.ref a.C_SlotError) = some true
  em_InvalidTime_InvalidTime : PySem.W.exmOne K (.ref a.C_InvalidTime) (.ref a.C_InvalidTime) = some true
  m_InvalidSlot : mg "InvalidSlot" = some (.ref a.C_InvalidSlot)
  ox_InvalidSlot : OexC K a.C_InvalidSlot
  in_InvalidSlot : PySem.W.findIn K (.ref a.C_InvalidSlot) "__init__" = some (some (.ref a.f_c_InvalidSlot_init))
  ti_InvalidSlot : PySem.W.typeIn K (.ref a.f_c_InvalidSlot_init) = some (.type "function")
  no_InvalidSlot_what : PySem.W.findIn K (.ref a.C_InvalidSlot) "what" = some none
  xf_InvalidSlot : XfC K a.C_InvalidSlot
  is_InvalidSlot : IsC K a.C_InvalidSlot
  em_InvalidSlot_SlotError : PySem.W.exmOne K (.ref a.C_InvalidSlot) (.ref a.C_SlotError) = some true
  em_InvalidSlot_InvalidSlot : PySem.W.exmOne K (.ref a.C_InvalidSlot) (.ref a.C_InvalidSlot) = some true
  kt_InvalidTime_InvalidTime : PySem.W.kitOne K (.ref a.C_InvalidTime) (.ref a.C_InvalidTime) = some true
  kt_InvalidTime_InvalidSlot : PySem.W.kitOne K (.ref a.C_InvalidTime) (.ref a.C_InvalidSlot) = some false
  n_abs : mg "abs" = none
  n_all : mg "all" = none
  n_any : mg "any" = none
  n_bool : mg "bool" = none
  n_int : mg "int" = none
  n_isinstance : mg "isinstance" = none
  n_len : mg "len" = none
  n_list : mg "list" = none
  n_max : mg "max" = none
  n_min : mg "min" = none
  n_range : mg "range" = none
  n_str : mg "str" = none
  n_sum : mg "sum" = none
  n_tuple : mg "tuple" = none
  n_zip : mg "zip" = none
abbrev sp_c_law_take : Sp := sp_take
abbrev sp_c_law_deck (K : PySem.W.Frag) : Sp := sp_deck K
abbrev sp_c_law_plain (K : PySem.W.Frag) (n : Nat) : Sp := sp_plain K n
def adjL {α β : Type} (G : α → α → β) : List α → List β
  | a :: b :: t => G a b :: adjL G (b :: t)
  | _ => []
theorem adj_range {α β : Type} (G : α → α → β) (d : α) : ∀ xs : List α, (List.range (xs.length - 1)).map (fun i => G (xs.getD i d) (xs.getD (i + 1) d)) = adjL G xs
  | [] => rfl
  | [_] => rfl
  | a :: b :: t => by
    have ih := adj_range G d (b :: t)
    have e : (a :: b :: t).length - 1 = ((b :: t).length - 1) + 1 := by simp
    rw [e, List.range_succ_eq_map, List.map_cons, List.map_map]
    show G a b :: _ = G a b :: adjL G (b :: t)
    rw [← ih]
    rfl
def S (f : Int → Int) (a b : Int) : Int := ((List.range (b - a).toNat).map fun (i : Nat) => f (a + i)).sum
theorem S_succ (f : Int → Int) {a b : Int} (h : a ≤ b) : S f a (b + 1) = S f a b + f b := by
  unfold S
  rw [show (b + 1 - a).toNat = (b - a).toNat + 1 by omega, List.range_succ, List.map_append, List.sum_append]
  simp
  rw [show max (b - a) 0 = b - a by omega, show a + (b - a) = b by omega]
theorem S_self (f : Int → Int) (a : Int) : S f a a = 0 := by
  unfold S
  rw [Int.sub_self]
  rfl
theorem S_add (f : Int → Int) {a b c : Int} (h1 : a ≤ b) (h2 : b ≤ c) : S f a c = S f a b + S f b c := by
  obtain ⟨k, rfl⟩ : ∃ k : Nat, c = b + k := ⟨(c - b).toNat, by omega⟩
  induction k with
  | zero => simp [S_self]
  | succ k ih =>
    have e : b + ((k + 1 : Nat) : Int) = b + k + 1 := by omega
    rw [e, S_succ f (by omega), S_succ f (by omega), ih (by omega)]
    omega
theorem S_const (f : Int → Int) {a b v : Int} (h : a ≤ b) (hc : ∀ x, a ≤ x → x < b → f x = v) : S f a b = (b - a) * v := by
  obtain ⟨k, rfl⟩ : ∃ k : Nat, b = a + k := ⟨(b - a).toNat, by omega⟩
  induction k with
  | zero => simp [S_self]
  | succ k ih =>
    have e : a + ((k + 1 : Nat) : Int) = a + k + 1 := by omega
    rw [e, S_succ f (by omega), ih (by omega) (fun x h1 h2 => hc x h1 (by omega)), hc _ (by omega) (by omega)]
    grind
def pd (p : Int × Int) : PyData := .tuple [.int p.1, .int p.2]
theorem dp_pd {K : PySem.W.Frag} {H : Hp} {q : Addr} {z : Int × Int} (h : SqT K H q [.int z.1, .int z.2]) : Dp K H (.ref q) (pd z) := .tup h (.cons (.int _) (.cons (.int _) .nil))
theorem pd_inv {K : PySem.W.Frag} {H : Hp} {v : V} {z : Int × Int} (h : Dp K H v (pd z)) : ∃ q, v = .ref q ∧ SqT K H q [.int z.1, .int z.2] := by
  cases h with
  | tup h1 h2 =>
    cases h2 with
    | cons a b =>
      cases a
      cases b with
      | cons c d =>
        cases c
        cases d
        exact ⟨_, rfl, h1⟩
abbrev Rws (K : PySem.W.Frag) (H : Hp) (rs : List V) (ps : List (Int × Int)) : Prop := DpAll K H rs (ps.map pd)
theorem rws_at {K : PySem.W.Frag} {H : Hp} {rs : List V} {ps : List (Int × Int)} (h : Rws K H rs ps) {i : Nat} {v : V} (hv : rs[i]? = some v) : ∃ q z, v = .ref q ∧ ps[i]? = some z ∧ SqT K H q [.int z.1, .int z.2] := by
  obtain ⟨d, h1, h2⟩ := dpAll_get h hv
  rw [List.getElem?_map] at h1
  obtain ⟨z, hz, rfl⟩ := Option.map_eq_some_iff.mp h1
  obtain ⟨q, e, s⟩ := pd_inv h2
  exact ⟨q, z, e, hz, s⟩
theorem rws_len {K : PySem.W.Frag} {H : Hp} {rs : List V} {ps : List (Int × Int)} (h : Rws K H rs ps) : rs.length = ps.length := by rw [dpAll_length h, List.length_map]
theorem okD_rows {ps : List (Int × Int)} (h : ps.length ≤ 1000) : okD 3 (.list (ps.map pd)) = true := by
  simp only [okD, Bool.and_eq_true, decide_eq_true_eq, List.length_map]
  refine ⟨h, ?_⟩
  clear h
  induction ps with
  | nil => simp [okDs]
  | cons z t ih => simp only [List.map_cons, okDs, ih, Bool.and_true]; simp [pd, okD, okDs]

def tin (ps : List (Int × Int)) (t : Int) : Bool := ps.any fun z => decide (z.1 ≤ t) && decide (t < z.2)
theorem tin_iff {ps : List (Int × Int)} {t : Int} : tin ps t = true ↔ ∃ z ∈ ps, z.1 ≤ t ∧ t < z.2 := by
  unfold tin
  rw [List.any_eq_true]
  simp only [Bool.and_eq_true, decide_eq_true_eq]
def ind (ps : List (Int × Int)) (t : Int) : Int := if tin ps t = true then 1 else 0
theorem ind_01 (ps : List (Int × Int)) (t : Int) : 0 ≤ ind ps t ∧ ind ps t ≤ 1 := by unfold ind; split <;> omega
def okS (ps : List (Int × Int)) : Prop := (∀ z ∈ ps, z.1 < z.2) ∧ ps.Pairwise (fun a b => a.2 < b.1)
def isS (ps : List (Int × Int)) : Bool := !((ps.map fun z => decide (z.1 ≥ z.2)).any id) && (adjL (fun a b : Int × Int => decide (a.2 < b.1)) ps).all id
theorem isS_ok : ∀ {ps : List (Int × Int)}, isS ps = true → okS ps := by
  intro ps h
  unfold isS at h
  rw [Bool.and_eq_true] at h
  have h1 : ∀ z ∈ ps, z.1 < z.2 := fun z hz => by
    refine Int.not_le.mp fun w => ?_
    have : (ps.map fun z => decide (z.1 ≥ z.2)).any id = true := List.any_eq_true.mpr ⟨_, List.mem_map.mpr ⟨z, hz, rfl⟩, decide_eq_true w⟩
    rw [this] at h
    cases h.1
  refine ⟨h1, ?_⟩
  have h2 := h.2
  clear h
  induction ps with
  | nil => exact .nil
  | cons a t ih =>
    cases t with
    | nil => exact List.pairwise_singleton _ _
    | cons b t =>
      have h2' : (decide (a.2 < b.1) && (adjL (fun a b : Int × Int => decide (a.2 < b.1)) (b :: t)).all id) = true := h2
      rw [Bool.and_eq_true, decide_eq_true_eq] at h2'
      have p := ih (fun z hz => h1 z (List.mem_cons_of_mem _ hz)) h2'.2
      refine List.pairwise_cons.mpr ⟨fun c hc => ?_, p⟩
      rcases List.mem_cons.mp hc with rfl | hc
      · exact h2'.1
      · have := (List.pairwise_cons.mp p).1 c hc
        have := h1 b (List.mem_cons_of_mem _ List.mem_cons_self)
        omega
theorem ok_isS {ps : List (Int × Int)} (h : okS ps) : isS ps = true := by
  unfold isS
  rw [Bool.and_eq_true]
  refine ⟨?_, ?_⟩
  · have : (ps.map fun z => decide (z.1 ≥ z.2)).any id = false := by
      rw [Bool.eq_false_iff]
      intro c
      obtain ⟨b, hb, e⟩ := List.any_eq_true.mp c
      obtain ⟨z, hz, rfl⟩ := List.mem_map.mp hb
      have := of_decide_eq_true e
      have := h.1 z hz
      omega
    rw [this]
    rfl
  · have h2 := h.2
    clear h
    induction ps with
    | nil => rfl
    | cons a t ih =>
      cases t with
      | nil => rfl
      | cons b t =>
        have p := List.pairwise_cons.mp h2
        show (decide (a.2 < b.1) && (adjL (fun a b : Int × Int => decide (a.2 < b.1)) (b :: t)).all id) = true
        rw [ih p.2, decide_eq_true (p.1 b List.mem_cons_self)]
        rfl
theorem okS_tail {z : Int × Int} {t : List (Int × Int)} (h : okS (z :: t)) : okS t ∧ z.1 < z.2 ∧ ∀ w ∈ t, z.2 < w.1 :=
  ⟨⟨fun w hw => h.1 w (List.mem_cons_of_mem _ hw), (List.pairwise_cons.mp h.2).2⟩, h.1 z List.mem_cons_self, (List.pairwise_cons.mp h.2).1⟩
theorem pw_mem {ps : List (Int × Int)} (h : okS ps) : ∀ {z w}, z ∈ ps → w ∈ ps → z = w ∨ z.2 < w.1 ∨ w.2 < z.1 := by
  induction ps with
  | nil => intro z w hz; cases hz
  | cons a t ih =>
    obtain ⟨h1, h2, h3⟩ := okS_tail h
    intro z w hz hw
    rcases List.mem_cons.mp hz with rfl | hz' <;> rcases List.mem_cons.mp hw with rfl | hw'
    · exact .inl rfl
    · exact .inr (.inl (h3 w hw'))
    · exact .inr (.inr (h3 z hz'))
    · exact ih h1 hz' hw'
/-- the first of a, a + 1, .. for which P holds -/
def findL (P : Int → Bool) (a : Int) : Nat → Option Int
  | 0 => none
  | i + 1 => match findL P a i with
    | some x => some x
    | none => if P (a + i) = true then some (a + i) else none
theorem find_spec (P : Int → Bool) (a : Int) : ∀ i : Nat, (∀ x, findL P a i = some x → a ≤ x ∧ x < a + i ∧ P x = true ∧ ∀ y, a ≤ y → y < x → P y = false) ∧ (findL P a i = none → ∀ y, a ≤ y → y < a + i → P y = false)
  | 0 => ⟨fun x h => (by cases h), fun _ y h1 h2 => (by omega)⟩
  | i + 1 => by
    obtain ⟨h1, h2⟩ := find_spec P a i
    constructor
    · intro x hx
      unfold findL at hx
      cases e : findL P a i with
      | some w =>
        rw [e] at hx
        obtain ⟨b1, b2, b3, b4⟩ := h1 _ e
        cases hx
        exact ⟨b1, by omega, b3, b4⟩
      | none =>
        rw [e] at hx
        dsimp only at hx
        split at hx
        · cases hx
          rename_i hp
          exact ⟨by omega, by omega, hp, fun y c1 c2 => h2 e y c1 (by omega)⟩
        · cases hx
    · intro hx y c1 c2
      unfold findL at hx
      cases e : findL P a i with
      | some w => rw [e] at hx; cases hx
      | none =>
        rw [e] at hx
        dsimp only at hx
        split at hx
        · cases hx
        · rename_i hp
          by_cases z : y < a + i
          · exact h2 e y c1 z
          · have : y = a + i := by omega
            rw [this]
            simpa using hp
theorem find_some {P : Int → Bool} {a x : Int} {i : Nat} (h1 : a ≤ x) (h2 : x < a + i) (h3 : P x = true) (h4 : ∀ y, a ≤ y → y < x → P y = false) : findL P a i = some x := by
  obtain ⟨s1, s2⟩ := find_spec P a i
  cases e : findL P a i with
  | none =>
    have := s2 e x h1 h2
    rw [h3] at this
    cases this
  | some w =>
    obtain ⟨b1, b2, b3, b4⟩ := s1 w e
    rcases Int.lt_trichotomy w x with z | z | z
    · have := h4 w b1 z
      rw [b3] at this
      cases this
    · rw [z]
    · have := b4 x h1 z
      rw [h3] at this
      cases this
theorem find_none {P : Int → Bool} {a : Int} {i : Nat} (h : ∀ y, a ≤ y → y < a + i → P y = false) : findL P a i = none := by
  cases e : findL P a i with
  | none => rfl
  | some w =>
    obtain ⟨b1, b2, b3, b4⟩ := (find_spec P a i).1 w e
    rw [h w b1 b2] at b3
    cases b3
/-! counts -/
theorem C_le (ps : List (Int × Int)) {a b : Int} (h : a ≤ b) : 0 ≤ S (ind ps) a b ∧ S (ind ps) a b ≤ b - a := by
  obtain ⟨k, rfl⟩ : ∃ k : Nat, b = a + k := ⟨(b - a).toNat, by omega⟩
  induction k with
  | zero => simp [S_self]
  | succ k ih =>
    have e : a + ((k + 1 : Nat) : Int) = a + k + 1 := by omega
    rw [e, S_succ _ (by omega)]
    have := ih (by omega)
    have := ind_01 ps (a + k)
    omega
theorem C_mono (ps : List (Int × Int)) {a b c : Int} (h1 : a ≤ b) (h2 : b ≤ c) : S (ind ps) a b ≤ S (ind ps) a c := by
  rw [S_add (ind ps) h1 h2]
  have := C_le ps h2
  omega
theorem C_full {ps : List (Int × Int)} {a b : Int} (h : a ≤ b) : S (ind ps) a b = b - a ↔ ∀ t, a ≤ t → t < b → tin ps t = true := by
  obtain ⟨k, rfl⟩ : ∃ k : Nat, b = a + k := ⟨(b - a).toNat, by omega⟩
  induction k with
  | zero => simp [S_self]; omega
  | succ k ih =>
    have e : a + ((k + 1 : Nat) : Int) = a + k + 1 := by omega
    rw [e, S_succ _ (by omega)]
    have i1 := ih (by omega)
    have b1 := C_le ps (a := a) (b := a + k) (by omega)
    have b2 := ind_01 ps (a + k)
    constructor
    · intro q t h1 h2
      by_cases z : t < a + k
      · exact i1.mp (by omega) t h1 z
      · have et : t = a + k := by omega
        have : ind ps (a + k) = 1 := by omega
        rw [et]
        unfold ind at this
        split at this
        · assumption
        · omega
    · intro q
      have := i1.mpr fun t h1 h2 => q t h1 (by omega)
      have : ind ps (a + k) = 1 := by unfold ind; rw [if_pos (q _ (by omega) (by omega))]
      omega
def fits (ps : List (Int × Int)) (len x : Int) : Prop := ∃ z ∈ ps, z.1 ≤ x ∧ x + len ≤ z.2
theorem full_fits {ps : List (Int × Int)} {len x : Int} (ok : okS ps) (hl : 1 ≤ len) : S (ind ps) x (x + len) = len ↔ fits ps len x := by
  have e := C_full (ps := ps) (a := x) (b := x + len) (by omega)
  rw [show x + len - x = len by omega] at e
  rw [e]
  constructor
  · intro h
    obtain ⟨z, hz, z1, z2⟩ := tin_iff.mp (h x (by omega) (by omega))
    refine ⟨z, hz, z1, Int.not_lt.mp fun w => ?_⟩
    obtain ⟨u, hu, u1, u2⟩ := tin_iff.mp (h z.2 (by omega) (by omega))
    rcases pw_mem ok hz hu with rfl | q | q
    · omega
    · omega
    · have := ok.1 z hz
      omega
  · rintro ⟨z, hz, z1, z2⟩ t h1 h2
    exact tin_iff.mpr ⟨z, hz, by omega, by omega⟩
def ffit (len time : Int) : List (Int × Int) → Option Int
  | [] => none
  | z :: t => if (if time > z.1 then time else z.1) + len ≤ z.2 then some (if time > z.1 then time else z.1) else ffit len time t
theorem ffit_spec {len time : Int} (hl : 1 ≤ len) : ∀ {ps : List (Int × Int)}, okS ps → (∀ x, ffit len time ps = some x → time ≤ x ∧ fits ps len x ∧ ∀ y, time ≤ y → y < x → ¬ fits ps len y) ∧ (ffit len time ps = none → ∀ y, time ≤ y → ¬ fits ps len y)
  | [], _ => ⟨fun x h => (by cases h), fun _ y _ ⟨z, hz, _⟩ => (by cases hz)⟩
  | z :: t, ok => by
    obtain ⟨o1, o2, o3⟩ := okS_tail ok
    obtain ⟨i1, i2⟩ := ffit_spec hl o1
    have hw : ∀ w ∈ t, z.2 < w.1 := o3
    have hm : time ≤ (if time > z.1 then time else z.1) ∧ z.1 ≤ (if time > z.1 then time else z.1) ∧ ((if time > z.1 then time else z.1) = time ∨ (if time > z.1 then time else z.1) = z.1) := by split <;> omega
    unfold ffit
    generalize (if time > z.1 then time else z.1) = mx at hm ⊢
    by_cases c : mx + len ≤ z.2
    · rw [if_pos c]
      refine ⟨fun x hx => ?_, fun h => by cases h⟩
      cases hx
      refine ⟨hm.1, ⟨z, List.mem_cons_self, hm.2.1, c⟩, fun y h1 h2 ⟨w, hw', w1, w2⟩ => ?_⟩
      rcases List.mem_cons.mp hw' with rfl | hw'
      · omega
      · have := hw w hw'
        omega
    · rw [if_neg c]
      have key : ∀ y, time ≤ y → (fits (z :: t) len y ↔ fits t len y) := fun y hy => by
        constructor
        · rintro ⟨w, hw', w1, w2⟩
          rcases List.mem_cons.mp hw' with rfl | hw'
          · omega
          · exact ⟨w, hw', w1, w2⟩
        · rintro ⟨w, hw', w1, w2⟩
          exact ⟨w, List.mem_cons_of_mem _ hw', w1, w2⟩
      refine ⟨fun x hx => ?_, fun h y hy q => i2 h y hy ((key y hy).mp q)⟩
      obtain ⟨b1, b2, b3⟩ := i1 x hx
      exact ⟨b1, (key x b1).mpr b2, fun y h1 h2 q => b3 y h1 h2 ((key y h1).mp q)⟩
theorem law_fit {ps : List (Int × Int)} {len time : Int} (ok : okS ps) (hl : 1 ≤ len) (hb : ∀ z ∈ ps, z.2 ≤ 140) (P : Int → Bool) (hP : ∀ x, P x = true ↔ S (ind ps) x (x + len) = len) : findL P time (140 - time).toNat = ffit len time ps := by
  obtain ⟨s1, s2⟩ := ffit_spec (time := time) hl ok
  have key : ∀ y, P y = false ↔ ¬ fits ps len y := fun y => by rw [← full_fits ok hl, ← hP y]; simp
  cases e : ffit len time ps with
  | none => exact find_none fun y h1 _ => (key y).mpr (s2 e y h1)
  | some x =>
    obtain ⟨b1, b2, b3⟩ := s1 x e
    have b4 : x < 140 := by
      obtain ⟨z, hz, _, z2⟩ := b2
      have := hb z hz
      omega
    refine find_some b1 (by omega) ((hP x).mpr ((full_fits ok hl).mpr b2)) fun y h1 h2 => (key y).mpr (b3 y h1 h2)

/-! time behind -/
def ov (z : Int × Int) (a b : Int) : Int := S (fun t => if z.1 ≤ t ∧ t < z.2 then (1 : Int) else 0) a b
theorem ov_eq {z : Int × Int} {a b : Int} (h : a ≤ b) (hz : z.1 ≤ z.2) : ov z a b = max 0 (min z.2 b - max z.1 a) := by
  unfold ov
  obtain ⟨k, rfl⟩ : ∃ k : Nat, b = a + k := ⟨(b - a).toNat, by omega⟩
  induction k with
  | zero => simp [S_self]; omega
  | succ k ih =>
    have e : a + ((k + 1 : Nat) : Int) = a + k + 1 := by omega
    rw [e, S_succ _ (by omega), ih (by omega)]
    split <;> omega
theorem C_cons {z : Int × Int} {t : List (Int × Int)} (ok : okS (z :: t)) {a b : Int} (h : a ≤ b) : S (ind (z :: t)) a b = ov z a b + S (ind t) a b := by
  obtain ⟨o1, o2, o3⟩ := okS_tail ok
  have key : ∀ x, ind (z :: t) x = (if z.1 ≤ x ∧ x < z.2 then (1 : Int) else 0) + ind t x := fun x => by
    have e : tin (z :: t) x = (decide (z.1 ≤ x ∧ x < z.2) || tin t x) := by
      unfold tin
      rw [List.any_cons, Bool.decide_and]
    unfold ind
    rw [e]
    by_cases c : z.1 ≤ x ∧ x < z.2
    · have : tin t x = false := by
        rw [Bool.eq_false_iff]
        intro q
        obtain ⟨w, hw, w1, w2⟩ := tin_iff.mp q
        have := o3 w hw
        omega
      rw [decide_eq_true c, if_pos c, this]
      rfl
    · rw [decide_eq_false c, if_neg c, Bool.false_or]
      omega
  unfold ov
  obtain ⟨k, rfl⟩ : ∃ k : Nat, b = a + k := ⟨(b - a).toNat, by omega⟩
  induction k with
  | zero => simp [S_self]
  | succ k ih =>
    have e : a + ((k + 1 : Nat) : Int) = a + k + 1 := by omega
    rw [e, S_succ _ (by omega), S_succ _ (by omega), S_succ _ (by omega), ih (by omega), key]
    omega
theorem C_nil (a b : Int) : S (ind []) a b = 0 := by
  unfold S
  have : ∀ n : Nat, ((List.range n).map fun (i : Nat) => ind [] (a + i)).sum = 0 := fun n => by
    induction n with
    | zero => rfl
    | succ n ih => rw [List.range_succ, List.map_append, List.sum_append, ih]; rfl
  exact this _
theorem C_early {t : List (Int × Int)} {a b : Int} (h : a ≤ b) (hb : ∀ w ∈ t, b ≤ w.1) : S (ind t) a b = 0 := by
  rw [S_const (ind t) (v := 0) h fun x h1 h2 => by
    unfold ind
    rw [if_neg]
    intro q
    obtain ⟨w, hw, w1, w2⟩ := tin_iff.mp q
    have := hb w hw
    omega]
  omega
def tbr (time : Int) : List (Int × Int) → Int → Option Int
  | [], _ => none
  | z :: t, left => if (if time > z.1 then time else z.1) < z.2 then (if z.2 - (if time > z.1 then time else z.1) ≥ left then some ((if time > z.1 then time else z.1) + left) else tbr time t (left - (z.2 - (if time > z.1 then time else z.1)))) else tbr time t left
theorem tbr_spec {time : Int} : ∀ {ps : List (Int × Int)} {left : Int}, okS ps → 0 < left → (∀ x, tbr time ps left = some x → time < x ∧ S (ind ps) time x = left ∧ tin ps (x - 1) = true) ∧ (tbr time ps left = none → ∀ b, time ≤ b → S (ind ps) time b < left)
  | [], left, _, hl => ⟨fun x h => (by cases h), fun _ b hb => by rw [C_nil]; exact hl⟩
  | z :: t, left, ok, hl => by
    obtain ⟨o1, o2, o3⟩ := okS_tail ok
    have hm : time ≤ (if time > z.1 then time else z.1) ∧ z.1 ≤ (if time > z.1 then time else z.1) ∧ (if time > z.1 then time else z.1) = max z.1 time := by split <;> omega
    unfold tbr
    generalize (if time > z.1 then time else z.1) = mx at hm ⊢
    obtain ⟨m1, m2, m3⟩ := hm
    by_cases c : mx < z.2
    · rw [if_pos c]
      by_cases d : z.2 - mx ≥ left
      · rw [if_pos d]
        refine ⟨fun x hx => ?_, fun h => by cases h⟩
        cases hx
        refine ⟨by omega, ?_, tin_iff.mpr ⟨z, List.mem_cons_self, by omega, by omega⟩⟩
        rw [C_cons ok (by omega), ov_eq (by omega) (by omega), C_early (t := t) (by omega) fun w hw => by have := o3 w hw; omega]
        omega
      · rw [if_neg d]
        obtain ⟨i1, i2⟩ := tbr_spec (time := time) (left := left - (z.2 - mx)) o1 (by omega)
        refine ⟨fun x hx => ?_, fun h b hb => ?_⟩
        · obtain ⟨b1, b2, b3⟩ := i1 x hx
          obtain ⟨w, hw, w1, w2⟩ := tin_iff.mp b3
          have := o3 w hw
          refine ⟨b1, ?_, tin_iff.mpr ⟨w, List.mem_cons_of_mem _ hw, w1, w2⟩⟩
          rw [C_cons ok (by omega), ov_eq (by omega) (by omega), b2]
          omega
        · rw [C_cons ok hb, ov_eq hb (by omega)]
          have := i2 h b hb
          omega
    · rw [if_neg c]
      obtain ⟨i1, i2⟩ := tbr_spec (time := time) (left := left) o1 hl
      refine ⟨fun x hx => ?_, fun h b hb => ?_⟩
      · obtain ⟨b1, b2, b3⟩ := i1 x hx
        obtain ⟨w, hw, w1, w2⟩ := tin_iff.mp b3
        refine ⟨b1, ?_, tin_iff.mpr ⟨w, List.mem_cons_of_mem _ hw, w1, w2⟩⟩
        rw [C_cons ok (by omega), ov_eq (by omega) (by omega), b2]
        omega
      · rw [C_cons ok hb, ov_eq hb (by omega)]
        have := i2 h b hb
        omega
def tb (ps : List (Int × Int)) (time mins : Int) : Option Int := if mins = 0 then some time else tbr time ps mins
theorem tb_least {ps : List (Int × Int)} {time mins x : Int} (ok : okS ps) (hm : 0 ≤ mins) (h : tb ps time mins = some x) : time ≤ x ∧ S (ind ps) time x = mins ∧ (0 < mins → tin ps (x - 1) = true) ∧ ∀ y, time ≤ y → y < x → S (ind ps) time y ≠ mins := by
  unfold tb at h
  split at h
  · cases h
    rename_i e
    refine ⟨Int.le_refl _, by rw [S_self, e], fun q => by omega, fun y h1 h2 => by omega⟩
  · obtain ⟨b1, b2, b3⟩ := (tbr_spec ok (by omega)).1 x h
    refine ⟨by omega, b2, fun _ => b3, fun y h1 h2 q => ?_⟩
    have e : x = x - 1 + 1 := by omega
    rw [e, S_succ _ (by omega)] at b2
    have := C_mono ps (a := time) (b := y) (c := x - 1) h1 (by omega)
    have : ind ps (x - 1) = 1 := by unfold ind; rw [if_pos b3]
    omega
theorem tb_none {ps : List (Int × Int)} {time mins : Int} (ok : okS ps) (hm : 0 ≤ mins) (h : tb ps time mins = none) : ∀ y, time ≤ y → S (ind ps) time y ≠ mins := by
  unfold tb at h
  split at h
  · cases h
  · intro y hy q
    have := (tbr_spec ok (by omega)).2 h y hy
    omega
theorem tb_bound {ps : List (Int × Int)} {time mins x B : Int} (ok : okS ps) (hm : 0 ≤ mins) (h : tb ps time mins = some x) (hB : ∀ z ∈ ps, z.2 < B) (ht : time < B) : x < B := by
  obtain ⟨b1, b2, b3, b4⟩ := tb_least ok hm h
  by_cases c : 0 < mins
  · obtain ⟨w, hw, w1, w2⟩ := tin_iff.mp (b3 c)
    have := hB w hw
    omega
  · unfold tb at h
    rw [if_pos (by omega)] at h
    cases h
    exact ht
theorem law_behind {ps : List (Int × Int)} {time mins : Int} {n : Nat} (ok : okS ps) (hm : 0 ≤ mins) (hB : ∀ z ∈ ps, z.2 < time + n) (hn : 0 < n) (P : Int → Bool) (hP : ∀ x, P x = true ↔ S (ind ps) time x = mins) : findL P time n = tb ps time mins := by
  cases e : tb ps time mins with
  | none =>
    refine find_none fun y h1 _ => ?_
    rw [Bool.eq_false_iff]
    exact fun q => tb_none ok hm e y h1 ((hP y).mp q)
  | some x =>
    obtain ⟨b1, b2, b3, b4⟩ := tb_least ok hm e
    refine find_some b1 (tb_bound ok hm e hB (by omega)) ((hP x).mpr b2) fun y h1 h2 => ?_
    rw [Bool.eq_false_iff]
    exact fun q => b4 y h1 h2 ((hP y).mp q)
theorem tb_uniq {ps : List (Int × Int)} {time mins x : Int} (ok : okS ps) (hm : 0 < mins) (h1 : time < x) (h2 : S (ind ps) time x = mins) (h3 : tin ps (x - 1) = true) : tb ps time mins = some x := by
  have hmin : ∀ y, time ≤ y → y < x → S (ind ps) time y ≠ mins := fun y g1 g2 q => by
    have e : x = x - 1 + 1 := by omega
    rw [e, S_succ _ (by omega)] at h2
    have := C_mono ps (a := time) (b := y) (c := x - 1) g1 (by omega)
    have : ind ps (x - 1) = 1 := by unfold ind; rw [if_pos h3]
    omega
  cases e : tb ps time mins with
  | none => exact absurd h2 (tb_none ok (by omega) e x (by omega))
  | some w =>
    obtain ⟨b1, b2, b3, b4⟩ := tb_least ok (by omega) e
    rcases Int.lt_trichotomy w x with z | z | z
    · exact absurd b2 (hmin w b1 z)
    · rw [z]
    · exact absurd h2 (b4 x (by omega) z)
/-! turned -/
def turn (ps : List (Int × Int)) : List (Int × Int) := ps.reverse.map fun z => (-z.2, -z.1)
theorem turn_ok {ps : List (Int × Int)} (ok : okS ps) : okS (turn ps) := by
  refine ⟨fun z hz => ?_, ?_⟩
  · obtain ⟨w, hw, rfl⟩ := List.mem_map.mp hz
    have := ok.1 w (List.mem_reverse.mp hw)
    show -w.2 < -w.1
    omega
  · unfold turn
    rw [List.pairwise_map, List.pairwise_reverse]
    exact ok.2.imp fun {a b} h => by show -b.1 < -a.2; omega
theorem turn_tin (ps : List (Int × Int)) (y : Int) : tin (turn ps) y = tin ps (-y - 1) := by
  rw [Bool.eq_iff_iff, tin_iff, tin_iff]
  constructor
  · rintro ⟨z, hz, h1, h2⟩
    obtain ⟨w, hw, rfl⟩ := List.mem_map.mp hz
    have h1 : -w.2 ≤ y := h1
    have h2 : y < -w.1 := h2
    exact ⟨w, List.mem_reverse.mp hw, by omega, by omega⟩
  · rintro ⟨w, hw, h1, h2⟩
    refine ⟨(-w.2, -w.1), List.mem_map.mpr ⟨w, List.mem_reverse.mpr hw, rfl⟩, ?_, ?_⟩
    · show -w.2 ≤ y
      omega
    · show y < -w.1
      omega
theorem turn_C (ps : List (Int × Int)) {a b : Int} (h : a ≤ b) : S (ind (turn ps)) (-b) (-a) = S (ind ps) a b := by
  obtain ⟨k, rfl⟩ : ∃ k : Nat, b = a + k := ⟨(b - a).toNat, by omega⟩
  have key : ∀ k : Nat, S (ind (turn ps)) (-(a + (k : Nat))) (-a) = S (ind ps) a (a + k) := fun k => by
    induction k with
    | zero => simp [S_self]
    | succ k ih =>
      have e : a + ((k + 1 : Nat) : Int) = a + k + 1 := by omega
      rw [e, S_succ (ind ps) (by omega), ← ih, S_add (ind (turn ps)) (a := -(a + k + 1)) (b := -(a + k)) (c := -a) (by omega) (by omega)]
      have e1 : -(a + (k : Int)) = -(a + k + 1) + 1 := by omega
      have e2 : S (ind (turn ps)) (-(a + k + 1)) (-(a + (k : Int))) = ind (turn ps) (-(a + k + 1)) := by
        rw [e1, S_succ _ (by omega), S_self]
        omega
      have e3 : ind (turn ps) (-(a + k + 1)) = ind ps (a + k) := by
        unfold ind
        rw [turn_tin, show - -(a + (k : Int) + 1) - 1 = a + k by omega]
      rw [e2, e3]
      omega
  exact key k
theorem length_ge {ps : List (Int × Int)} : ∀ {a b : Int}, okS ps → a ≤ b → S (ind ps) a b ≤ (ps.map fun z => z.2 - z.1).sum := by
  induction ps with
  | nil => intro a b _ _; rw [C_nil]; simp
  | cons z t ih =>
    intro a b ok h
    obtain ⟨o1, o2, o3⟩ := okS_tail ok
    rw [C_cons ok h, ov_eq h (by omega), List.map_cons, List.sum_cons]
    have := ih o1 h
    omega

theorem rws_of {K : PySem.W.Frag} {H : Hp} : ∀ {rs : List V} {ps : List (Int × Int)}, rs.length = ps.length → (∀ (i : Nat) (v : V) (z : Int × Int), rs[i]? = some v → ps[i]? = some z → ∃ q, v = V.ref q ∧ SqT K H q [.int z.1, .int z.2]) → Rws K H rs ps
  | [], [], _, _ => .nil
  | [], _ :: _, h, _ => by simp at h
  | _ :: _, [], h, _ => by simp at h
  | v :: rs, z :: ps, h, k => by
    obtain ⟨q, rfl, s⟩ := k 0 v z rfl rfl
    exact .cons (dp_pd s) (rws_of (by simpa using h) fun i v z h1 h2 => k (i + 1) v z (by rw [List.getElem?_cons_succ]; exact h1) (by rw [List.getElem?_cons_succ]; exact h2))
theorem cut1 (xs : List V) : cutV xs (some 1) none = xs.drop 1 := by
  cases xs with
  | nil => rfl
  | cons x t => exact cut_back (by decide) (by simp only [List.length_cons]; omega)
theorem fm_get {α : Type} (xs : List α) : (List.range xs.length).filterMap (fun i => xs[i]?) = xs := by
  induction xs with
  | nil => rfl
  | cons x t ih =>
    rw [List.length_cons, List.range_succ_eq_map, List.filterMap_cons, List.filterMap_map]
    show x :: _ = _
    congr 1

def oV : Option Int → V
  | none => .non
  | some x => .int x
def oD : Option Int → PyData
  | none => .none
  | some x => .int x
theorem dp_o {K : PySem.W.Frag} {H : Hp} : ∀ o : Option Int, Dp K H (oV o) (oD o)
  | none => .non
  | some x => .int x
theorem ok_o (n : Nat) : ∀ o : Option Int, okD n (oD o) = true
  | none => by cases n <;> simp [oD, okD]
  | some x => by cases n <;> simp [oD, okD]
theorem putK_len {kvs : List (Key × V)} {k : Key} {v : V} : (putK kvs k v).length ≤ kvs.length + 1 := by
  unfold putK
  split
  · rw [List.length_map]; omega
  · simp
theorem cntL (ps : List (Int × Int)) (a : Int) (n : Nat) : (((List.range n).filterMap (fun (i : Nat) => if tin ps (a + i) = true then some (V.int 1) else none)).length : Int) = S (ind ps) a (a + n) := by
  induction n with
  | zero => simp [S_self]
  | succ n ih =>
    have e : a + ((n + 1 : Nat) : Int) = a + n + 1 := by omega
    rw [List.range_succ, List.filterMap_append, List.length_append, Int.natCast_add, ih, e, S_succ _ (by omega)]
    congr 1
    unfold ind
    by_cases h : tin ps (a + n) = true <;> simp [h]
def Tms (H : Hp) (d : Addr) (ps : List (Int × Int)) : Prop := ∃ kvs, H d = some (.dK kvs) ∧ ∀ n : Int, (valV kvs (.inl n)).isSome = tin ps n
def sp_c_is_spans0 (K : PySem.W.Frag) : Sp := fun vs H Q _ => ∃ (q : Addr) (rs : List V) (ps : List (Int × Int)), vs = [.ref q] ∧ SqL K H q rs ∧ Rws K H rs ps ∧ ps.length ≤ 1000 ∧ ∀ H', Same H H' → Q (.bl (isS ps)) H'
@[irreducible] def sp_c_is_spans (K : PySem.W.Frag) : Sp := sp_c_is_spans0 K
theorem sp_c_is_spans_eq (K : PySem.W.Frag) : sp_c_is_spans K = sp_c_is_spans0 K := by unfold sp_c_is_spans; rfl
theorem sp_c_is_spans_use {K : PySem.W.Frag} {vs : List V} {H : Hp} {Q : VK} {E : XK} (h : sp_c_is_spans0 K vs H Q E) : sp_c_is_spans K vs H Q E := by rw [sp_c_is_spans_eq]; exact h
def sp_c_check_spans0 (K : PySem.W.Frag) (C : Addr) : Sp := fun vs H Q E => ∃ (q : Addr) (rs : List V) (ps : List (Int × Int)), vs = [.ref q] ∧ SqL K H q rs ∧ Rws K H rs ps ∧ ps.length ≤ 1000 ∧ (isS ps = false → raisesW C "spans" H E) ∧ (isS ps = true → ∀ H', Same H H' → Q .non H')
@[irreducible] def sp_c_check_spans (K : PySem.W.Frag) (C : Addr) : Sp := sp_c_check_spans0 K C
theorem sp_c_check_spans_eq (K : PySem.W.Frag) (C : Addr) : sp_c_check_spans K C = sp_c_check_spans0 K C := by unfold sp_c_check_spans; rfl
theorem sp_c_check_spans_use {K : PySem.W.Frag} {C : Addr} {vs : List V} {H : Hp} {Q : VK} {E : XK} (h : sp_c_check_spans0 K C vs H Q E) : sp_c_check_spans K C vs H Q E := by rw [sp_c_check_spans_eq]; exact h
def sp_c_rest_of0 (K : PySem.W.Frag) : Sp := fun vs H Q _ => ∃ (q : Addr), vs = [.ref q, .int 0, .int 5] ∧ SqL K H q [] ∧ ∀ H' l t, Same H H' → H' l = some (.lst [.ref t]) → H' t = some (.tup [.int 0, .int 5]) → Q (.ref l) H'
@[irreducible] def sp_c_rest_of (K : PySem.W.Frag) : Sp := sp_c_rest_of0 K
theorem sp_c_rest_of_eq (K : PySem.W.Frag) : sp_c_rest_of K = sp_c_rest_of0 K := by unfold sp_c_rest_of; rfl
theorem sp_c_rest_of_use {K : PySem.W.Frag} {vs : List V} {H : Hp} {Q : VK} {E : XK} (h : sp_c_rest_of0 K vs H Q E) : sp_c_rest_of K vs H Q E := by rw [sp_c_rest_of_eq]; exact h
def sp_c_length_of0 (K : PySem.W.Frag) : Sp := fun vs H Q _ => ∃ (q : Addr) (rs : List V) (ps : List (Int × Int)), vs = [.ref q] ∧ SqL K H q rs ∧ Rws K H rs ps ∧ ps.length ≤ 1000 ∧ isS ps = true ∧ ∀ H', Same H H' → Q (.int (ps.map fun z => z.2 - z.1).sum) H'
@[irreducible] def sp_c_length_of (K : PySem.W.Frag) : Sp := sp_c_length_of0 K
theorem sp_c_length_of_eq (K : PySem.W.Frag) : sp_c_length_of K = sp_c_length_of0 K := by unfold sp_c_length_of; rfl
theorem sp_c_length_of_use {K : PySem.W.Frag} {vs : List V} {H : Hp} {Q : VK} {E : XK} (h : sp_c_length_of0 K vs H Q E) : sp_c_length_of K vs H Q E := by rw [sp_c_length_of_eq]; exact h
def sp_c_first_fit0 (K : PySem.W.Frag) (C : Addr) : Sp := fun vs H Q E => ∃ (q : Addr) (rs : List V) (ps : List (Int × Int)) (len time : Int), vs = [.ref q, .int len, .int time] ∧ SqL K H q rs ∧ Rws K H rs ps ∧ ps.length ≤ 1000 ∧ (isS ps = false → raisesW C "spans" H E) ∧ (isS ps = true → len < 1 → raisesW C "length" H E) ∧ (isS ps = true → 1 ≤ len → ∀ H', Same H H' → Q (oV (ffit len time ps)) H')
@[irreducible] def sp_c_first_fit (K : PySem.W.Frag) (C : Addr) : Sp := sp_c_first_fit0 K C
theorem sp_c_first_fit_eq (K : PySem.W.Frag) (C : Addr) : sp_c_first_fit K C = sp_c_first_fit0 K C := by unfold sp_c_first_fit; rfl
theorem sp_c_first_fit_use {K : PySem.W.Frag} {C : Addr} {vs : List V} {H : Hp} {Q : VK} {E : XK} (h : sp_c_first_fit0 K C vs H Q E) : sp_c_first_fit K C vs H Q E := by rw [sp_c_first_fit_eq]; exact h
def sp_c_time_behind0 (K : PySem.W.Frag) (C : Addr) : Sp := fun vs H Q E => ∃ (q : Addr) (rs : List V) (ps : List (Int × Int)) (time mins : Int), vs = [.ref q, .int time, .int mins] ∧ SqL K H q rs ∧ Rws K H rs ps ∧ ps.length ≤ 1000 ∧ (isS ps = false → raisesW C "spans" H E) ∧ (isS ps = true → mins < 0 → raisesW C "length" H E) ∧ (isS ps = true → 0 ≤ mins → ∀ H', Same H H' → Q (oV (tb ps time mins)) H')
@[irreducible] def sp_c_time_behind (K : PySem.W.Frag) (C : Addr) : Sp := sp_c_time_behind0 K C
theorem sp_c_time_behind_eq (K : PySem.W.Frag) (C : Addr) : sp_c_time_behind K C = sp_c_time_behind0 K C := by unfold sp_c_time_behind; rfl
theorem sp_c_time_behind_use {K : PySem.W.Frag} {C : Addr} {vs : List V} {H : Hp} {Q : VK} {E : XK} (h : sp_c_time_behind0 K C vs H Q E) : sp_c_time_behind K C vs H Q E := by rw [sp_c_time_behind_eq]; exact h
def sp_c_time_before0 (K : PySem.W.Frag) (C : Addr) : Sp := fun vs H Q E => ∃ (q : Addr) (rs : List V) (ps : List (Int × Int)) (time mins : Int), vs = [.ref q, .int time, .int mins] ∧ SqL K H q rs ∧ Rws K H rs ps ∧ ps.length ≤ 1000 ∧ (isS ps = false → raisesW C "spans" H E) ∧ (isS ps = true → mins < 0 → raisesW C "length" H E) ∧ (isS ps = true → 0 ≤ mins → ∀ H', Same H H' → Q (oV ((tb (turn ps) (-time) mins).map fun y => -y)) H')
@[irreducible] def sp_c_time_before (K : PySem.W.Frag) (C : Addr) : Sp := sp_c_time_before0 K C
theorem sp_c_time_before_eq (K : PySem.W.Frag) (C : Addr) : sp_c_time_before K C = sp_c_time_before0 K C := by unfold sp_c_time_before; rfl
theorem sp_c_time_before_use {K : PySem.W.Frag} {C : Addr} {vs : List V} {H : Hp} {Q : VK} {E : XK} (h : sp_c_time_before0 K C vs H Q E) : sp_c_time_before K C vs H Q E := by rw [sp_c_time_before_eq]; exact h
def sp_c_law_spans0 (K : PySem.W.Frag) : Sp := fun vs H Q _ => ∃ (d : Addr) (D : List Int), vs = [.ref d, .int 5, .int 12] ∧ H d = some (dk D) ∧ ∀ (H' : Hp) (D' : List Int) (l : Addr) (rs : List V) (ps : List (Int × Int)), SameBut d H H' → H' d = some (dk D') → H l = none → H' l = some (.lst rs) → Rws K (del H' d) rs ps → ps.length ≤ 5 → okS ps → (∀ z ∈ ps, -6 ≤ z.1 ∧ z.1 < z.2 ∧ z.2 ≤ 120) → Q (.ref l) H'
@[irreducible] def sp_c_law_spans (K : PySem.W.Frag) : Sp := sp_c_law_spans0 K
theorem sp_c_law_spans_eq (K : PySem.W.Frag) : sp_c_law_spans K = sp_c_law_spans0 K := by unfold sp_c_law_spans; rfl
theorem sp_c_law_spans_use {K : PySem.W.Frag} {vs : List V} {H : Hp} {Q : VK} {E : XK} (h : sp_c_law_spans0 K vs H Q E) : sp_c_law_spans K vs H Q E := by rw [sp_c_law_spans_eq]; exact h
def sp_c_law_times0 (K : PySem.W.Frag) : Sp := fun vs H Q _ => ∃ (q : Addr) (rs : List V) (ps : List (Int × Int)), vs = [.ref q] ∧ SqL K H q rs ∧ Rws K H rs ps ∧ ps.length ≤ 5 ∧ (∀ z ∈ ps, -6 ≤ z.1 ∧ z.1 < z.2 ∧ z.2 ≤ 120) ∧ ∀ H' d, Same H H' → H d = none → Tms H' d ps → Q (.ref d) H'
@[irreducible] def sp_c_law_times (K : PySem.W.Frag) : Sp := sp_c_law_times0 K
theorem sp_c_law_times_eq (K : PySem.W.Frag) : sp_c_law_times K = sp_c_law_times0 K := by unfold sp_c_law_times; rfl
theorem sp_c_law_times_use {K : PySem.W.Frag} {vs : List V} {H : Hp} {Q : VK} {E : XK} (h : sp_c_law_times0 K vs H Q E) : sp_c_law_times K vs H Q E := by rw [sp_c_law_times_eq]; exact h
def sp_c_law_why0 (K : PySem.W.Frag) : Sp := fun vs H Q _ => ∃ (k n : Int) (q : Addr) (rs : List V) (ps : List (Int × Int)) (wd : Str), vs = [.int k, .ref q, .int n] ∧ 0 ≤ k ∧ SqL K H q rs ∧ Rws K H rs ps ∧ ps.length ≤ 1000 ∧ ((isS ps = false ∧ wd = "spans") ∨ (isS ps = true ∧ (n < 0 ∨ (k = 0 ∧ n < 1)) ∧ wd = "length")) ∧ ∀ H', Same H H' → Q (.str wd) H'
@[irreducible] def sp_c_law_why (K : PySem.W.Frag) : Sp := sp_c_law_why0 K
theorem sp_c_law_why_eq (K : PySem.W.Frag) : sp_c_law_why K = sp_c_law_why0 K := by unfold sp_c_law_why; rfl
theorem sp_c_law_why_use {K : PySem.W.Frag} {vs : List V} {H : Hp} {Q : VK} {E : XK} (h : sp_c_law_why0 K vs H Q E) : sp_c_law_why K vs H Q E := by rw [sp_c_law_why_eq]; exact h
def sp_c_law (K : PySem.W.Frag) : Sp := fun vs H Q _ => ∃ (a : Addr) (ns : List Int), vs = [.ref a] ∧ SqL K H a (ns.map V.int) ∧ ns.length ≤ 63 ∧ ∀ H', Q (.bl true) H'

theorem ok_c_law_deck {P : Program} {w : World} {K : PySem.W.Frag} {mg : Str → Option Value} {base : Heap} {a : Ad} (T : Txt K mg a) : FnOk P w K mg base (L2.CX P w) 1 a.f_c_law_deck a.d_c_law_deck ["script", "cells", "each"] (sp_c_law_deck K) := by
  refine T.F_c_law_deck.okX sc_c_law_deck (fun vs H Q E h => ?_) (fun cdv A outer s H vs Q E hr h => ?_)
  · walk_at "len"
  · obtain ⟨sa, ns, c, e, rfl, hS, hns, hc0, hc1, he0, he1, k⟩ := h
    refine ⟨_, (pss_cons (ps_set (i := 3) sc_c_law_deck.nd (by rfl) (Or.inl rfl) (pe_lst pa_nil))
    (pss_cons (ps_set (i := 4) sc_c_law_deck.nd (by rfl) (Or.inl rfl) (pe_op op_add pe_int (pe_callB call_len_seq (by rfl) T.n_len (by decide +kernel) (pa_cons (pv 0) pa_nil))))
    (pss_cons (ps_for (passes_of rfl) rfl (pi_range1 (by rfl) T.n_range (pa_cons (pv 1) pa_nil)) (pg_name (i := 5) sc_c_law_deck.nd (by rfl) (Or.inl rfl)) (pss_cons (ps_set (i := 6) sc_c_law_deck.nd (by rfl) (Or.inl rfl) pe_int)
    (pss_cons (ps_if (pt_cmpR op_lt (pv 5) (pe_callB call_len_seq (by rfl) T.n_len (by decide +kernel) (pa_cons (pv 0) pa_nil)) (nomark _)) (pss_one (ps_set (i := 6) sc_c_law_deck.nd (by rfl) (Or.inl rfl) (pe_ix ix_list (pv 0) (pv 5) (fun _ _ => rfl)))) pss_nil)
    (pss_cons (ps_set (i := 7) sc_c_law_deck.nd (by rfl) (Or.inl rfl) (pe_callB call_abs (by rfl) T.n_abs (by decide +kernel) (pa_cons (pv 6) pa_nil)))
    (pss_one (ps_if (pt_cmpR op_ge (pv 7) (pe_op op_pow pe_int pe_int) (nomark _)) (pss_one (ps_for (passes_of rfl) rfl (pi_range1 (by rfl) T.n_range (pa_cons (pv 2) pa_nil)) (pg_name (i := 8) sc_c_law_deck.nd (by rfl) (Or.inl rfl)) (pss_cons (ps_expr (pe_bm PySem.F.plainAttrs_list PySem.F.slot_list_append PySem.F.type_list_append mt_append (pv 3) (pa_cons (pe_op op_mod (pe_callTy call_int1 (by rfl) T.n_int (by decide +kernel) (pa_cons (pv 7) pa_nil)) pe_int) pa_nil)))
    (pss_one (ps_set (i := 7) sc_c_law_deck.nd (by rfl) (Or.inl rfl) (pe_op op_fdiv (pv 7) pe_int)))))) (pss_cons (ps_set (i := 4) sc_c_law_deck.nd (by rfl) (Or.inl rfl) (pe_op op_mod (pe_callTy call_int1 (by rfl) T.n_int (by decide +kernel) (pa_cons (pe_op op_add (pe_op op_add (pe_op op_add (pe_op op_mul (pv 4) pe_int) (pe_op op_mul pe_int (pv 7))) (pe_callTy call_int1 (by rfl) T.n_int (by decide +kernel) (pa_cons (pe_cmpR op_lt (pv 6) pe_int (nomark _)) pa_nil))) (pv 5)) pa_nil)) pe_int))
    (pss_one (ps_for (passes_of rfl) rfl (pi_range1 (by rfl) T.n_range (pa_cons (pv 2) pa_nil)) (pg_name (i := 8) sc_c_law_deck.nd (by rfl) (Or.inl rfl)) (pss_cons (ps_set (i := 4) sc_c_law_deck.nd (by rfl) (Or.inl rfl) (pe_op op_mod (pe_callTy call_int1 (by rfl) T.n_int (by decide +kernel) (pa_cons (pe_op op_add (pe_op op_add (pe_op op_mul (pv 4) pe_int) (pv 8)) pe_int) pa_nil)) pe_int))
    (pss_one (ps_expr (pe_bm PySem.F.plainAttrs_list PySem.F.slot_list_append PySem.F.type_list_append mt_append (pv 3) (pa_cons (pe_op op_mod (pe_callTy call_int1 (by rfl) T.n_int (by decide +kernel) (pa_cons (pe_op op_fdiv (pv 4) pe_int) pa_nil)) pe_int) pa_nil))))))))))))))
    (pss_cons (ps_expr (pe_bm0 PySem.F.plainAttrs_list PySem.F.slot_list_reverse PySem.F.type_list_reverse mt_reverse (pv 3)))
    (pss_one (ps_ret (pv 3))))))), ?_⟩
    refine ⟨by show 0 ≤ sizeLine; decide, fun p hp => ?_⟩
    have s0 : Same H (upd H p (.lst [])) := Same.new hp
    refine ⟨_, rfl, sa, _, rfl, .inl (s0.seq hS), _, _, rfl, rfl, ?_⟩
    refine ⟨_, rfl, c, rfl, by omega, by omega, for_range (lo := 0) (n := c.toNat) (fun i σ H' => ∃ (sd : Int) (v5 v6 v7 v8 : Option V) (xs : List Int), σ = [some (.ref sa), some (.int c), some (.int e), some (.ref p), some (.int sd), v5, v6, v7, v8] ∧
      Same H H' ∧ H' p = some (.lst (xs.map V.int)) ∧ xs.length ≤ i * 100) ⟨_, none, none, none, none, [], rfl, s0, upd_same, by simp⟩ ?_ ?_⟩
    · rintro i σ H1 hi ⟨sd, v5, v6, v7, v8, xs, rfl, s1, h1, hx⟩
      have hi' : i < 1000 := by omega
      walk_at "st"
      refine ⟨_, rfl, sa, _, rfl, .inl (s1.seq hS), ?_⟩
      walk_at "sts"
      refine ite2 (fun hk => ?_) (fun _ => ?_)
      · have hk' : i < ns.length := by simpa using hk
        refine ⟨_, rfl, _, rfl, sa, _, _, _, rfl, rfl, s1.seq hS, atI_nat' (j := i) (by omega) (by rw [List.getElem?_map, List.getElem?_eq_getElem hk']; rfl), ?_⟩
        walk_at "sts"
        refine ite2 (fun _ => ?_) (fun _ => ?_)
        · refine ⟨_, rfl, e, rfl, by omega, by omega, for_range (lo := 0) (n := e.toNat) (fun j σ H' => ∃ (r : Int) (v6 v8 : Option V) (ys : List Int), σ = [some (.ref sa), some (.int c), some (.int e), some (.ref p), some (.int sd), some (.int (0 + (i : Int))), v6, some (.int r), v8] ∧
            Same H H' ∧ H' p = some (.lst (ys.map V.int)) ∧ ys.length ≤ i * 100 + j) ⟨_, _, v8, xs, rfl, s1, h1, by omega⟩ ?_ ?_⟩
          · rintro j σ H2 hj ⟨r, v6, v8, ys, rfl, s2, h2, hy⟩
            refine ⟨_, rfl, .inl ⟨rfl, _, SqL.of h2⟩, ?_⟩
            walk_at "sts"
            refine ⟨p, _, _, rfl, rfl, h2, by rw [List.length_map]; exact small1000000 (by omega), ?_⟩
            walk_at "sts"
            refine ⟨_, _, _, ys ++ [r % 1000003], rfl, s2.mut hp, ?_, by rw [List.length_append]; simp; omega⟩
            rw [upd_same, List.map_append]
            rfl
          · rintro σ H2 ⟨r, v6, v8, ys, rfl, s2, h2, hy⟩
            exact ⟨_, _, _, _, _, ys, rfl, s2, h2, by omega⟩
        · walk_at "sts"
          refine ⟨by omega, by omega, for_range (lo := 0) (n := e.toNat) (fun j σ H' => ∃ (sd : Int) (v6 v7 v8 : Option V) (ys : List Int), σ = [some (.ref sa), some (.int c), some (.int e), some (.ref p), some (.int sd), some (.int (0 + (i : Int))), v6, v7, v8] ∧
            Same H H' ∧ H' p = some (.lst (ys.map V.int)) ∧ ys.length ≤ i * 100 + j) ⟨_, _, _, v8, xs, rfl, s1, h1, by omega⟩ ?_ ?_⟩
          · rintro j σ H2 hj ⟨sd, v6, v7, v8, ys, rfl, s2, h2, hy⟩
            walk_at "sts"
            refine ⟨.inl ⟨rfl, _, SqL.of h2⟩, ?_⟩
            walk_at "sts"
            refine ⟨p, _, _, rfl, rfl, h2, by rw [List.length_map]; exact small1000000 (by omega), ?_⟩
            refine ⟨_, _, _, _, ys ++ [(sd * 69621 + (0 + (j : Int)) + 1) % 2147483629 / 5 % 1000003], rfl, s2.mut hp, ?_, by rw [List.length_append]; simp; omega⟩
            rw [upd_same, List.map_append]
            rfl
          · rintro σ H2 ⟨sd, v6, v7, v8, ys, rfl, s2, h2, hy⟩
            exact ⟨_, _, _, _, _, ys, rfl, s2, h2, by omega⟩
      · skip
        walk_at "sts"
        refine ⟨by omega, by omega, for_range (lo := 0) (n := e.toNat) (fun j σ H' => ∃ (sd : Int) (v6 v7 v8 : Option V) (ys : List Int), σ = [some (.ref sa), some (.int c), some (.int e), some (.ref p), some (.int sd), some (.int (0 + (i : Int))), v6, v7, v8] ∧
          Same H H' ∧ H' p = some (.lst (ys.map V.int)) ∧ ys.length ≤ i * 100 + j) ⟨_, _, _, v8, xs, rfl, s1, h1, by omega⟩ ?_ ?_⟩
        · rintro j σ H2 hj ⟨sd, v6, v7, v8, ys, rfl, s2, h2, hy⟩
          walk_at "sts"
          refine ⟨.inl ⟨rfl, _, SqL.of h2⟩, ?_⟩
          walk_at "sts"
          refine ⟨p, _, _, rfl, rfl, h2, by rw [List.length_map]; exact small1000000 (by omega), ?_⟩
          refine ⟨_, _, _, _, ys ++ [(sd * 69621 + (0 + (j : Int)) + 1) % 2147483629 / 5 % 1000003], rfl, s2.mut hp, ?_, by rw [List.length_append]; simp; omega⟩
          rw [upd_same, List.map_append]
          rfl
        · rintro σ H2 ⟨sd, v6, v7, v8, ys, rfl, s2, h2, hy⟩
          exact ⟨_, _, _, _, _, ys, rfl, s2, h2, by omega⟩
    · rintro σ H1 ⟨sd, v5, v6, v7, v8, xs, rfl, s1, h1, hx⟩
      refine ⟨_, rfl, .inl ⟨rfl, _, SqL.of h1⟩, p, _, rfl, rfl, h1, _, rfl, ?_⟩
      refine k xs p _ hp (s1.mut hp) ?_
      rw [upd_same]
      simp [dk]

theorem ok_c_law_plain_n {P : Program} {w : World} {K : PySem.W.Frag} {mg : Str → Option Value} {base : Heap} {a : Ad} (T : Txt K mg a) : ∀ n, FnOk P w K mg base (L2.CX P w) (n + 1) a.f_c_law_plain a.d_c_law_plain ["value"] (sp_c_law_plain K n) := by
  have step : ∀ n, (∀ m, m + 1 = n → FnOk P w K mg base (L2.CX P w) (m + 1) a.f_c_law_plain a.d_c_law_plain ["value"] (sp_c_law_plain K m)) → FnOk P w K mg base (L2.CX P w) (n + 1) a.f_c_law_plain a.d_c_law_plain ["value"] (sp_c_law_plain K n) := by
    intro n ih
    refine T.F_c_law_plain.okX sc_c_law_plain (fun vs H Q E h => ?_) (fun cdv A outer s H vs Q E hr h => ?_)
    · walk_at "len"
    · obtain ⟨v, d, rfl, hd, hok, k⟩ := h
      cases d with
      | dict _ => simp [okD] at hok
      | list ds =>
        cases n with
        | zero => simp [okD] at hok
        | succ n =>
        have IH := ih n rfl
        simp only [okD, Bool.and_eq_true, decide_eq_true_eq] at hok
        have hds := hok.1
        cases hd with
        | @lst aa xs _ hsq hall =>
        refine ⟨_, (pss_cons (ps_if (pt_val (pe_callB call_isiT (by rfl) T.n_isinstance (by decide +kernel) (pa_cons (pv 0) (pa_cons (pe_tup (pa_cons (pe_bltn (v := .ty "tuple") (by rfl) T.n_tuple (by decide +kernel) rfl) (pa_cons (pe_bltn (v := .ty "list") (by rfl) T.n_list (by decide +kernel) rfl) pa_nil))) pa_nil)))) (pss_one (ps_ret (pe_op op_cat (pe_lst (pa_cons (pe_callB call_isi (by rfl) T.n_isinstance (by decide +kernel) (pa_cons (pv 0) (pa_cons (pe_bltn (v := .ty "list") (by rfl) T.n_list (by decide +kernel) rfl) pa_nil))) pa_nil)) (pe_lcK (own := [("item", 1)]) (by rfl) sc_c_law_plain.nd (pi_list (pv 0)) (blkOk_by (own := [("item", 1)]) (N := ["value", "item"]) (sc := defScope st_c_law_plain) (by decide +kernel)) (fun _ _ _ _ _ => (pg_name (i := 1) sc_c_law_plain.nd (by rfl) (by first | exact Or.inl rfl | exact Or.inr rfl))) (fun _ _ _ _ _ => pts_nil) (fun _ _ _ _ _ => (pe_call IH (hr.mono (by omega)) (by rfl) T.m_c_law_plain T.F_c_law_plain.kp T.b_c_law_plain .nil passL (pa_cons (pv 1) pa_nil))) (by walk_at "blk") (by walk_at "blk") (by walk_at "blk"))))) pss_nil)
    (pss_cons (ps_if (PW.pt (pw_or (pt_cmpR op_isN (pv 0) pe_non (nomark _)) (pw_or1 (pt_val (pe_callB call_isi (by rfl) T.n_isinstance (by decide +kernel) (pa_cons (pv 0) (pa_cons (pe_bltn (v := .ty "bool") (by rfl) T.n_bool (by decide +kernel) rfl) pa_nil))))))) (pss_one (ps_ret (pe_ix ix_list (pe_lst (pa_cons pe_str (pa_cons pe_str (pa_cons pe_str pa_nil)))) (pe_op op_add (pe_callTy call_int1 (by rfl) T.n_int (by decide +kernel) (pa_cons (pe_cmpR op_notN (pv 0) pe_non (nomark _)) pa_nil)) (pe_callTy call_int1 (by rfl) T.n_int (by decide +kernel) (pa_cons (pe_cmpR op_isT (pv 0) pe_bl (nomark _)) pa_nil))) (fun _ _ => rfl)))) pss_nil)
    (pss_cons (ps_if (pt_val (pe_callB call_isiT (by rfl) T.n_isinstance (by decide +kernel) (pa_cons (pv 0) (pa_cons (pe_tup (pa_cons (pe_bltn (v := .ty "int") (by rfl) T.n_int (by decide +kernel) rfl) (pa_cons (pe_bltn (v := .ty "str") (by rfl) T.n_str (by decide +kernel) rfl) pa_nil))) pa_nil)))) (pss_one (ps_ret (pe_lst (pa_cons (pe_callB call_isi (by rfl) T.n_isinstance (by decide +kernel) (pa_cons (pv 0) (pa_cons (pe_bltn (v := .ty "str") (by rfl) T.n_str (by decide +kernel) rfl) pa_nil))) (pa_cons (pv 0) pa_nil))))) pss_nil)
    (pss_one (ps_ret pe_str))))), ?_⟩

        refine ⟨_, rfl, by show 2 ≤ sizeLine; decide, fun p hp => ?_⟩
        refine ⟨_, _, [.ty "tuple", .ty "list"], .type "list", _, _, rfl, upd_same, .cons (.ty "tuple") (.cons (.ty "list") .nil), ((kind_l hsq).new hp), kit2 (r1 := false) (r2 := true) (by decide +kernel) (by decide +kernel), ?_⟩
        refine ⟨_, rfl, ?_⟩
        refine iteT ?_
        have s1 : Same H (upd H p (.tup [.ty "tuple", .ty "list"])) := Same.new hp
        refine ⟨_, rfl, .ref aa, .ty "list", _, _, true, rfl, .ty "list", (kind_l hsq).new hp, kit_ty (by decide +kernel), ?_⟩
        refine ⟨by show 1 ≤ sizeLine; decide, fun l hl => ?_⟩
        have s2 := s1.then_new (o := .lst [.bl true]) hl
        have hl0 : H l = none := s1.free hl
        refine ⟨_, rfl, aa, rfl, ⟨_, Same.seq s2 hsq⟩, fun E' hE => ?_⟩
        have hE0 : H E' = none := s2.free hE
        have nlE : l ≠ E' := by
          intro z
          rw [z, upd_same] at hE
          cases hE
        refine lc_list (K := K) (a := aa) (xs := xs) (fun i H' => Same H H' ∧ H' l = some (.lst [.bl true]) ∧ ∃ acc, H' E' = some (.lst acc) ∧ DNs (fun b => H b = none ∧ b ≠ E' ∧ b ≠ l) H' acc (plainDs (ds.take i)) ∧ acc.length ≤ i)
          ⟨s2.then_new hE, by rw [upd_ne nlE]; exact upd_same, [], upd_same, by simp only [List.take_zero, plainDs]; exact .nil, Nat.le_refl _⟩ (fun i H' _ q => Same.seq q.1 hsq) ?_ ?_
        · rintro i x H' hi ⟨s3, h3, acc, ha, hn, hz⟩
          obtain ⟨dx, hdx, hx⟩ := dpAll_get hall hi
          have hi1 : i < ds.length := (List.getElem?_eq_some_iff.mp hdx).1
          refine ⟨rfl, ?_⟩
          refine ⟨_, rfl, x, dx, rfl, dp_same s3 dx x hx, okDs_get hok.2 hdx, fun v' H'' s4 hv => ?_⟩
          have hE2 := s4 _ _ ha
          have nn : ∀ b, H' b = none → H b = none ∧ b ≠ E' ∧ b ≠ l := fun b hb => ⟨s3.free hb, (fun z => by rw [z, ha] at hb; cases hb), (fun z => by rw [z, h3] at hb; cases hb)⟩
          refine ⟨acc, hE2, small1000000 (by omega), (s3.trans s4).mut hE0, by rw [upd_ne nlE]; exact s4 _ _ h3, acc ++ [v'], upd_same, ?_, by rw [List.length_append]; show _ + 1 ≤ _; omega⟩
          rw [plainDs_take hdx]
          exact DNs.snoc (DN.mono nn (fun b o hb e => by rw [upd_ne (nn b hb).2.1]; exact e) _ _ hv) (DNs.mono (fun _ z => z) (fun b o hb e => by rw [upd_ne hb.2.1]; exact s4 _ _ e) _ _ hn)
        · rintro H' ⟨s3, h3, acc, ha, hn, hz⟩
          have el : ds.take xs.length = ds := by rw [dpAll_length hall, List.take_length]
          rw [el] at hn
          have hlen : acc.length ≤ 1000 := by have := dpAll_length hall; omega
          refine ⟨l, E', _, _, rfl, rfl, h3, ha, Nat.le_of_lt (small1000000 (by show 1 + _ ≤ _; omega)), fun r hr' => ?_⟩
          have hr0 : H r = none := s3.free hr'
          refine k _ _ (s3.then_new hr') ?_
          simp only [plainD]
          refine .lst hr0 upd_same (.cons (.bl _) (DNs.mono (fun b z => z.1) (fun b o hb e => ?_) _ _ hn))
          rw [upd_ne (ne_of_none e hr')]
          exact e

      | tuple ds =>
        cases n with
        | zero => simp [okD] at hok
        | succ n =>
        have IH := ih n rfl
        simp only [okD, Bool.and_eq_true, decide_eq_true_eq] at hok
        have hds := hok.1
        cases hd with
        | @tup aa xs _ hsq hall =>
        refine ⟨_, (pss_cons (ps_if (pt_val (pe_callB call_isiT (by rfl) T.n_isinstance (by decide +kernel) (pa_cons (pv 0) (pa_cons (pe_tup (pa_cons (pe_bltn (v := .ty "tuple") (by rfl) T.n_tuple (by decide +kernel) rfl) (pa_cons (pe_bltn (v := .ty "list") (by rfl) T.n_list (by decide +kernel) rfl) pa_nil))) pa_nil)))) (pss_one (ps_ret (pe_op op_cat (pe_lst (pa_cons (pe_callB call_isi (by rfl) T.n_isinstance (by decide +kernel) (pa_cons (pv 0) (pa_cons (pe_bltn (v := .ty "list") (by rfl) T.n_list (by decide +kernel) rfl) pa_nil))) pa_nil)) (pe_lcK (own := [("item", 1)]) (by rfl) sc_c_law_plain.nd (pi_tup (pv 0)) (blkOk_by (own := [("item", 1)]) (N := ["value", "item"]) (sc := defScope st_c_law_plain) (by decide +kernel)) (fun _ _ _ _ _ => (pg_name (i := 1) sc_c_law_plain.nd (by rfl) (by first | exact Or.inl rfl | exact Or.inr rfl))) (fun _ _ _ _ _ => pts_nil) (fun _ _ _ _ _ => (pe_call IH (hr.mono (by omega)) (by rfl) T.m_c_law_plain T.F_c_law_plain.kp T.b_c_law_plain .nil passL (pa_cons (pv 1) pa_nil))) (by walk_at "blk") (by walk_at "blk") (by walk_at "blk"))))) pss_nil)
    (pss_cons (ps_if (PW.pt (pw_or (pt_cmpR op_isN (pv 0) pe_non (nomark _)) (pw_or1 (pt_val (pe_callB call_isi (by rfl) T.n_isinstance (by decide +kernel) (pa_cons (pv 0) (pa_cons (pe_bltn (v := .ty "bool") (by rfl) T.n_bool (by decide +kernel) rfl) pa_nil))))))) (pss_one (ps_ret (pe_ix ix_list (pe_lst (pa_cons pe_str (pa_cons pe_str (pa_cons pe_str pa_nil)))) (pe_op op_add (pe_callTy call_int1 (by rfl) T.n_int (by decide +kernel) (pa_cons (pe_cmpR op_notN (pv 0) pe_non (nomark _)) pa_nil)) (pe_callTy call_int1 (by rfl) T.n_int (by decide +kernel) (pa_cons (pe_cmpR op_isT (pv 0) pe_bl (nomark _)) pa_nil))) (fun _ _ => rfl)))) pss_nil)
    (pss_cons (ps_if (pt_val (pe_callB call_isiT (by rfl) T.n_isinstance (by decide +kernel) (pa_cons (pv 0) (pa_cons (pe_tup (pa_cons (pe_bltn (v := .ty "int") (by rfl) T.n_int (by decide +kernel) rfl) (pa_cons (pe_bltn (v := .ty "str") (by rfl) T.n_str (by decide +kernel) rfl) pa_nil))) pa_nil)))) (pss_one (ps_ret (pe_lst (pa_cons (pe_callB call_isi (by rfl) T.n_isinstance (by decide +kernel) (pa_cons (pv 0) (pa_cons (pe_bltn (v := .ty "str") (by rfl) T.n_str (by decide +kernel) rfl) pa_nil))) (pa_cons (pv 0) pa_nil))))) pss_nil)
    (pss_one (ps_ret pe_str))))), ?_⟩

        refine ⟨_, rfl, by show 2 ≤ sizeLine; decide, fun p hp => ?_⟩
        refine ⟨_, _, [.ty "tuple", .ty "list"], .type "tuple", _, _, rfl, upd_same, .cons (.ty "tuple") (.cons (.ty "list") .nil), ((kind_t hsq).new hp), kit2 (r1 := true) (r2 := false) (by decide +kernel) (by decide +kernel), ?_⟩
        refine ⟨_, rfl, ?_⟩
        refine iteT ?_
        have s1 : Same H (upd H p (.tup [.ty "tuple", .ty "list"])) := Same.new hp
        refine ⟨_, rfl, .ref aa, .ty "list", _, _, false, rfl, .ty "list", (kind_t hsq).new hp, kit_ty (by decide +kernel), ?_⟩
        refine ⟨by show 1 ≤ sizeLine; decide, fun l hl => ?_⟩
        have s2 := s1.then_new (o := .lst [.bl false]) hl
        have hl0 : H l = none := s1.free hl
        refine ⟨_, rfl, aa, rfl, ⟨_, Same.tup s2 hsq⟩, fun E' hE => ?_⟩
        have hE0 : H E' = none := s2.free hE
        have nlE : l ≠ E' := by
          intro z
          rw [z, upd_same] at hE
          cases hE
        refine lc_tup (K := K) (a := aa) (xs := xs) (fun i H' => Same H H' ∧ H' l = some (.lst [.bl false]) ∧ ∃ acc, H' E' = some (.lst acc) ∧ DNs (fun b => H b = none ∧ b ≠ E' ∧ b ≠ l) H' acc (plainDs (ds.take i)) ∧ acc.length ≤ i)
          ⟨s2.then_new hE, by rw [upd_ne nlE]; exact upd_same, [], upd_same, by simp only [List.take_zero, plainDs]; exact .nil, Nat.le_refl _⟩ (fun i H' _ q => Same.tup q.1 hsq) ?_ ?_
        · rintro i x H' hi ⟨s3, h3, acc, ha, hn, hz⟩
          obtain ⟨dx, hdx, hx⟩ := dpAll_get hall hi
          have hi1 : i < ds.length := (List.getElem?_eq_some_iff.mp hdx).1
          refine ⟨rfl, ?_⟩
          refine ⟨_, rfl, x, dx, rfl, dp_same s3 dx x hx, okDs_get hok.2 hdx, fun v' H'' s4 hv => ?_⟩
          have hE2 := s4 _ _ ha
          have nn : ∀ b, H' b = none → H b = none ∧ b ≠ E' ∧ b ≠ l := fun b hb => ⟨s3.free hb, (fun z => by rw [z, ha] at hb; cases hb), (fun z => by rw [z, h3] at hb; cases hb)⟩
          refine ⟨acc, hE2, small1000000 (by omega), (s3.trans s4).mut hE0, by rw [upd_ne nlE]; exact s4 _ _ h3, acc ++ [v'], upd_same, ?_, by rw [List.length_append]; show _ + 1 ≤ _; omega⟩
          rw [plainDs_take hdx]
          exact DNs.snoc (DN.mono nn (fun b o hb e => by rw [upd_ne (nn b hb).2.1]; exact e) _ _ hv) (DNs.mono (fun _ z => z) (fun b o hb e => by rw [upd_ne hb.2.1]; exact s4 _ _ e) _ _ hn)
        · rintro H' ⟨s3, h3, acc, ha, hn, hz⟩
          have el : ds.take xs.length = ds := by rw [dpAll_length hall, List.take_length]
          rw [el] at hn
          have hlen : acc.length ≤ 1000 := by have := dpAll_length hall; omega
          refine ⟨l, E', _, _, rfl, rfl, h3, ha, Nat.le_of_lt (small1000000 (by show 1 + _ ≤ _; omega)), fun r hr' => ?_⟩
          have hr0 : H r = none := s3.free hr'
          refine k _ _ (s3.then_new hr') ?_
          simp only [plainD]
          refine .lst hr0 upd_same (.cons (.bl _) (DNs.mono (fun b z => z.1) (fun b o hb e => ?_) _ _ hn))
          rw [upd_ne (ne_of_none e hr')]
          exact e

      | none =>
        cases hd
        refine ⟨_, (pss_cons (ps_if (pt_val (pe_callB call_isiT (by rfl) T.n_isinstance (by decide +kernel) (pa_cons (pv 0) (pa_cons (pe_tup (pa_cons (pe_bltn (v := .ty "tuple") (by rfl) T.n_tuple (by decide +kernel) rfl) (pa_cons (pe_bltn (v := .ty "list") (by rfl) T.n_list (by decide +kernel) rfl) pa_nil))) pa_nil)))) (pss_one ps_never) pss_nil)
    (pss_cons (ps_if (PW.pt (pw_or (pt_cmpR op_isN (pv 0) pe_non (nomark _)) (pw_or1 (pt_val (pe_callB call_isi (by rfl) T.n_isinstance (by decide +kernel) (pa_cons (pv 0) (pa_cons (pe_bltn (v := .ty "bool") (by rfl) T.n_bool (by decide +kernel) rfl) pa_nil))))))) (pss_one (ps_ret (pe_ix ix_list (pe_lst (pa_cons pe_str (pa_cons pe_str (pa_cons pe_str pa_nil)))) (pe_op op_add (pe_callTy call_int1 (by rfl) T.n_int (by decide +kernel) (pa_cons (pe_cmpR op_notN (pv 0) pe_non (nomark _)) pa_nil)) (pe_callTy call_int1 (by rfl) T.n_int (by decide +kernel) (pa_cons (pe_cmpR op_isT (pv 0) pe_bl (nomark _)) pa_nil))) (fun _ _ => rfl)))) pss_nil)
    (pss_cons (ps_if (pt_val (pe_callB call_isiT (by rfl) T.n_isinstance (by decide +kernel) (pa_cons (pv 0) (pa_cons (pe_tup (pa_cons (pe_bltn (v := .ty "int") (by rfl) T.n_int (by decide +kernel) rfl) (pa_cons (pe_bltn (v := .ty "str") (by rfl) T.n_str (by decide +kernel) rfl) pa_nil))) pa_nil)))) (pss_one (ps_ret (pe_lst (pa_cons (pe_callB call_isi (by rfl) T.n_isinstance (by decide +kernel) (pa_cons (pv 0) (pa_cons (pe_bltn (v := .ty "str") (by rfl) T.n_str (by decide +kernel) rfl) pa_nil))) (pa_cons (pv 0) pa_nil))))) pss_nil)
    (pss_one (ps_ret pe_str))))), ?_⟩

        refine ⟨_, rfl, by show 2 ≤ sizeLine; decide, fun p hp => ?_⟩
        refine ⟨_, _, [.ty "tuple", .ty "list"], .type "NoneType", _, _, rfl, upd_same, .cons (.ty "tuple") (.cons (.ty "list") .nil), (.base .non), kit2 (r1 := false) (r2 := false) (by decide +kernel) (by decide +kernel), ?_⟩
        refine ⟨_, rfl, ?_⟩
        refine iteF ?_
        have s1 : Same H (upd H p (.tup [.ty "tuple", .ty "list"])) := Same.new hp

        refine ⟨_, rfl, rfl, _, rfl, ?_⟩
        refine iteT ?_
        refine iteT ?_
        refine ⟨by show 3 ≤ sizeLine; decide, fun l hl => ?_⟩
        refine ⟨_, rfl, rfl, .inr ⟨_, rfl, ?_⟩⟩
        refine ⟨_, rfl, .inr ⟨rfl, _, rfl, .inr ⟨_, rfl, ?_⟩⟩⟩
        refine ⟨_, _, rfl, rfl, ?_⟩
        refine ⟨l, _, _, _, rfl, rfl, SqL.of upd_same, atI_nat' (j := 0) (by decide) rfl, ?_⟩
        exact k _ _ (s1.then_new hl) (by simp only [plainD]; exact .str _)
      | bool b =>
        cases hd
        refine ⟨_, (pss_cons (ps_if (pt_val (pe_callB call_isiT (by rfl) T.n_isinstance (by decide +kernel) (pa_cons (pv 0) (pa_cons (pe_tup (pa_cons (pe_bltn (v := .ty "tuple") (by rfl) T.n_tuple (by decide +kernel) rfl) (pa_cons (pe_bltn (v := .ty "list") (by rfl) T.n_list (by decide +kernel) rfl) pa_nil))) pa_nil)))) (pss_one ps_never) pss_nil)
    (pss_cons (ps_if (PW.pt (pw_or (pt_cmpR op_isN (pv 0) pe_non (nomark _)) (pw_or1 (pt_val (pe_callB call_isi (by rfl) T.n_isinstance (by decide +kernel) (pa_cons (pv 0) (pa_cons (pe_bltn (v := .ty "bool") (by rfl) T.n_bool (by decide +kernel) rfl) pa_nil))))))) (pss_one (ps_ret (pe_ix ix_list (pe_lst (pa_cons pe_str (pa_cons pe_str (pa_cons pe_str pa_nil)))) (pe_op op_add (pe_callTy call_int1 (by rfl) T.n_int (by decide +kernel) (pa_cons (pe_cmpR op_notN (pv 0) pe_non (nomark _)) pa_nil)) (pe_callTy call_int1 (by rfl) T.n_int (by decide +kernel) (pa_cons (pe_cmpR op_isT (pv 0) pe_bl (nomark _)) pa_nil))) (fun _ _ => rfl)))) pss_nil)
    (pss_cons (ps_if (pt_val (pe_callB call_isiT (by rfl) T.n_isinstance (by decide +kernel) (pa_cons (pv 0) (pa_cons (pe_tup (pa_cons (pe_bltn (v := .ty "int") (by rfl) T.n_int (by decide +kernel) rfl) (pa_cons (pe_bltn (v := .ty "str") (by rfl) T.n_str (by decide +kernel) rfl) pa_nil))) pa_nil)))) (pss_one (ps_ret (pe_lst (pa_cons (pe_callB call_isi (by rfl) T.n_isinstance (by decide +kernel) (pa_cons (pv 0) (pa_cons (pe_bltn (v := .ty "str") (by rfl) T.n_str (by decide +kernel) rfl) pa_nil))) (pa_cons (pv 0) pa_nil))))) pss_nil)
    (pss_one (ps_ret pe_str))))), ?_⟩

        refine ⟨_, rfl, by show 2 ≤ sizeLine; decide, fun p hp => ?_⟩
        refine ⟨_, _, [.ty "tuple", .ty "list"], .type "bool", _, _, rfl, upd_same, .cons (.ty "tuple") (.cons (.ty "list") .nil), (.base (.bl _)), kit2 (r1 := false) (r2 := false) (by decide +kernel) (by decide +kernel), ?_⟩
        refine ⟨_, rfl, ?_⟩
        refine iteF ?_
        have s1 : Same H (upd H p (.tup [.ty "tuple", .ty "list"])) := Same.new hp

        refine ⟨_, rfl, rfl, _, rfl, ?_⟩
        refine iteF ?_
        refine ⟨_, rfl, _, .ty "bool", _, _, true, rfl, .ty "bool", .base (.bl _), kit_ty (by decide +kernel), _, rfl, ?_⟩
        refine iteT ?_
        refine ⟨by show 3 ≤ sizeLine; decide, fun l hl => ?_⟩
        refine ⟨_, rfl, rfl, .inr ⟨_, rfl, ?_⟩⟩
        refine ⟨_, rfl, .inl ⟨_, _, rfl, rfl, .inr ⟨_, rfl, ?_⟩⟩⟩
        refine ⟨_, _, rfl, rfl, ?_⟩
        cases b
        · refine ⟨l, _, _, _, rfl, rfl, SqL.of upd_same, atI_nat' (j := 1) (by decide) rfl, ?_⟩
          exact k _ _ (s1.then_new hl) (by simp only [plainD]; exact .str _)
        · refine ⟨l, _, _, _, rfl, rfl, SqL.of upd_same, atI_nat' (j := 2) (by decide) rfl, ?_⟩
          exact k _ _ (s1.then_new hl) (by simp only [plainD]; exact .str _)
      | int i =>
        cases hd
        refine ⟨_, (pss_cons (ps_if (pt_val (pe_callB call_isiT (by rfl) T.n_isinstance (by decide +kernel) (pa_cons (pv 0) (pa_cons (pe_tup (pa_cons (pe_bltn (v := .ty "tuple") (by rfl) T.n_tuple (by decide +kernel) rfl) (pa_cons (pe_bltn (v := .ty "list") (by rfl) T.n_list (by decide +kernel) rfl) pa_nil))) pa_nil)))) (pss_one ps_never) pss_nil)
    (pss_cons (ps_if (PW.pt (pw_or (pt_cmpR op_isN (pv 0) pe_non (nomark _)) (pw_or1 (pt_val (pe_callB call_isi (by rfl) T.n_isinstance (by decide +kernel) (pa_cons (pv 0) (pa_cons (pe_bltn (v := .ty "bool") (by rfl) T.n_bool (by decide +kernel) rfl) pa_nil))))))) (pss_one (ps_ret (pe_ix ix_list (pe_lst (pa_cons pe_str (pa_cons pe_str (pa_cons pe_str pa_nil)))) (pe_op op_add (pe_callTy call_int1 (by rfl) T.n_int (by decide +kernel) (pa_cons (pe_cmpR op_notN (pv 0) pe_non (nomark _)) pa_nil)) (pe_callTy call_int1 (by rfl) T.n_int (by decide +kernel) (pa_cons (pe_cmpR op_isT (pv 0) pe_bl (nomark _)) pa_nil))) (fun _ _ => rfl)))) pss_nil)
    (pss_cons (ps_if (pt_val (pe_callB call_isiT (by rfl) T.n_isinstance (by decide +kernel) (pa_cons (pv 0) (pa_cons (pe_tup (pa_cons (pe_bltn (v := .ty "int") (by rfl) T.n_int (by decide +kernel) rfl) (pa_cons (pe_bltn (v := .ty "str") (by rfl) T.n_str (by decide +kernel) rfl) pa_nil))) pa_nil)))) (pss_one (ps_ret (pe_lst (pa_cons (pe_callB call_isi (by rfl) T.n_isinstance (by decide +kernel) (pa_cons (pv 0) (pa_cons (pe_bltn (v := .ty "str") (by rfl) T.n_str (by decide +kernel) rfl) pa_nil))) (pa_cons (pv 0) pa_nil))))) pss_nil)
    (pss_one (ps_ret pe_str))))), ?_⟩

        refine ⟨_, rfl, by show 2 ≤ sizeLine; decide, fun p hp => ?_⟩
        refine ⟨_, _, [.ty "tuple", .ty "list"], .type "int", _, _, rfl, upd_same, .cons (.ty "tuple") (.cons (.ty "list") .nil), (.base (.int _)), kit2 (r1 := false) (r2 := false) (by decide +kernel) (by decide +kernel), ?_⟩
        refine ⟨_, rfl, ?_⟩
        refine iteF ?_
        have s1 : Same H (upd H p (.tup [.ty "tuple", .ty "list"])) := Same.new hp

        refine ⟨_, rfl, rfl, _, rfl, ?_⟩
        refine iteF ?_
        refine ⟨_, rfl, _, .ty "bool", _, _, false, rfl, .ty "bool", .base (.int _), kit_ty (by decide +kernel), _, rfl, ?_⟩
        refine iteF ?_
        refine ⟨_, rfl, by show 2 ≤ sizeLine; decide, fun q hq => ?_⟩
        refine ⟨_, _, [.ty "int", .ty "str"], .type "int", _, _, rfl, upd_same, .cons (.ty "int") (.cons (.ty "str") .nil), (.base (.int _)), kit2 (r1 := true) (r2 := false) (by decide +kernel) (by decide +kernel), ?_⟩
        refine ⟨_, rfl, ?_⟩
        refine iteT ?_
        have s2 := s1.then_new (o := .tup [.ty "int", .ty "str"]) hq
        refine ⟨_, rfl, _, .ty "str", _, _, false, rfl, .ty "str", .base (.int _), kit_ty (by decide +kernel), ?_⟩
        refine ⟨_, rfl, by show 2 ≤ sizeLine; decide, fun l hl => ?_⟩
        refine k _ _ (s2.then_new hl) ?_
        simp only [plainD]
        exact .lst (s2.free hl) upd_same (.cons (.bl _) (.cons (.int _) .nil))
      | str i =>
        cases hd
        refine ⟨_, (pss_cons (ps_if (pt_val (pe_callB call_isiT (by rfl) T.n_isinstance (by decide +kernel) (pa_cons (pv 0) (pa_cons (pe_tup (pa_cons (pe_bltn (v := .ty "tuple") (by rfl) T.n_tuple (by decide +kernel) rfl) (pa_cons (pe_bltn (v := .ty "list") (by rfl) T.n_list (by decide +kernel) rfl) pa_nil))) pa_nil)))) (pss_one ps_never) pss_nil)
    (pss_cons (ps_if (PW.pt (pw_or (pt_cmpR op_isN (pv 0) pe_non (nomark _)) (pw_or1 (pt_val (pe_callB call_isi (by rfl) T.n_isinstance (by decide +kernel) (pa_cons (pv 0) (pa_cons (pe_bltn (v := .ty "bool") (by rfl) T.n_bool (by decide +kernel) rfl) pa_nil))))))) (pss_one (ps_ret (pe_ix ix_list (pe_lst (pa_cons pe_str (pa_cons pe_str (pa_cons pe_str pa_nil)))) (pe_op op_add (pe_callTy call_int1 (by rfl) T.n_int (by decide +kernel) (pa_cons (pe_cmpR op_notN (pv 0) pe_non (nomark _)) pa_nil)) (pe_callTy call_int1 (by rfl) T.n_int (by decide +kernel) (pa_cons (pe_cmpR op_isT (pv 0) pe_bl (nomark _)) pa_nil))) (fun _ _ => rfl)))) pss_nil)
    (pss_cons (ps_if (pt_val (pe_callB call_isiT (by rfl) T.n_isinstance (by decide +kernel) (pa_cons (pv 0) (pa_cons (pe_tup (pa_cons (pe_bltn (v := .ty "int") (by rfl) T.n_int (by decide +kernel) rfl) (pa_cons (pe_bltn (v := .ty "str") (by rfl) T.n_str (by decide +kernel) rfl) pa_nil))) pa_nil)))) (pss_one (ps_ret (pe_lst (pa_cons (pe_callB call_isi (by rfl) T.n_isinstance (by decide +kernel) (pa_cons (pv 0) (pa_cons (pe_bltn (v := .ty "str") (by rfl) T.n_str (by decide +kernel) rfl) pa_nil))) (pa_cons (pv 0) pa_nil))))) pss_nil)
    (pss_one (ps_ret pe_str))))), ?_⟩

        refine ⟨_, rfl, by show 2 ≤ sizeLine; decide, fun p hp => ?_⟩
        refine ⟨_, _, [.ty "tuple", .ty "list"], .type "str", _, _, rfl, upd_same, .cons (.ty "tuple") (.cons (.ty "list") .nil), (.base (.str _)), kit2 (r1 := false) (r2 := false) (by decide +kernel) (by decide +kernel), ?_⟩
        refine ⟨_, rfl, ?_⟩
        refine iteF ?_
        have s1 : Same H (upd H p (.tup [.ty "tuple", .ty "list"])) := Same.new hp

        refine ⟨_, rfl, rfl, _, rfl, ?_⟩
        refine iteF ?_
        refine ⟨_, rfl, _, .ty "bool", _, _, false, rfl, .ty "bool", .base (.str _), kit_ty (by decide +kernel), _, rfl, ?_⟩
        refine iteF ?_
        refine ⟨_, rfl, by show 2 ≤ sizeLine; decide, fun q hq => ?_⟩
        refine ⟨_, _, [.ty "int", .ty "str"], .type "str", _, _, rfl, upd_same, .cons (.ty "int") (.cons (.ty "str") .nil), (.base (.str _)), kit2 (r1 := false) (r2 := true) (by decide +kernel) (by decide +kernel), ?_⟩
        refine ⟨_, rfl, ?_⟩
        refine iteT ?_
        have s2 := s1.then_new (o := .tup [.ty "int", .ty "str"]) hq
        refine ⟨_, rfl, _, .ty "str", _, _, true, rfl, .ty "str", .base (.str _), kit_ty (by decide +kernel), ?_⟩
        refine ⟨_, rfl, by show 2 ≤ sizeLine; decide, fun l hl => ?_⟩
        refine k _ _ (s2.then_new hl) ?_
        simp only [plainD]
        exact .lst (s2.free hl) upd_same (.cons (.bl _) (.cons (.str _) .nil))
  intro n
  induction n with
  | zero => exact step 0 fun m e => by omega
  | succ n ih => exact step (n + 1) fun m e => by have : m = n := by omega
                                                  subst this
                                                  exact ih
theorem ok_c_law_plain {P : Program} {w : World} {K : PySem.W.Frag} {mg : Str → Option Value} {base : Heap} {a : Ad} (T : Txt K mg a) : FnOk P w K mg base (L2.CX P w) 5 a.f_c_law_plain a.d_c_law_plain ["value"] (sp_c_law_plain K 4) := ok_c_law_plain_n T 4

theorem ok_c_law_take {P : Program} {w : World} {K : PySem.W.Frag} {mg : Str → Option Value} {base : Heap} {a : Ad} (T : Txt K mg a) : FnOk P w K mg base (L2.CX P w) 1 a.f_c_law_take a.d_c_law_take ["deck", "many"] (sp_c_law_take) := by
  refine T.F_c_law_take.okX sc_c_law_take (fun vs H Q E h => ?_) (fun cdv A outer s H vs Q E hr h => ?_)
  · rw [sp_c_law_take, sp_take_eq] at h
    walk_at "len"
  · rw [sp_c_law_take, sp_take_eq] at h
    obtain ⟨d, D, m, rfl, hd, hm, k⟩ := h
    refine ⟨_, (pss_cons (ps_if (pt_cmpR op_eq (pe_callB call_len_seq (by rfl) T.n_len (by decide +kernel) (pa_cons (pv 0) pa_nil)) pe_int (nomark _)) (pss_one (ps_ret pe_int)) pss_nil)
    (pss_one (ps_ret (pe_op op_mod (pe_callTy call_int1 (by rfl) T.n_int (by decide +kernel) (pa_cons (pe_bm0 PySem.F.plainAttrs_list PySem.F.slot_list_pop PySem.F.type_list_pop mt_pop (pv 0)) pa_nil)) (pv 1))))), ?_⟩
    refine ⟨_, rfl, d, _, rfl, .inl (SqL.of hd), rfl, _, rfl, ?_⟩
    cases D with
    | nil =>
      refine iteT ?_
      have e : upd H d (dk []) = H := upd_self hd
      have k' : Q (.int (0 % m)) H := by rw [← e]; exact k
      rw [Int.zero_emod] at k'
      exact k'
    | cons x D =>
      refine ite2 (fun c => ?_) (fun _ => ?_)
      · simp at c
        omega
      · refine ⟨_, rfl, .inl ⟨rfl, _, SqL.of hd⟩, d, _, _, rfl, rfl, hd, dk_last, .inl ⟨_, rfl, _, rfl, _, _, rfl, rfl, hm, ?_⟩⟩
        rw [dk_drop]
        exact k
theorem ok_c_law_spans {P : Program} {w : World} {K : PySem.W.Frag} {mg : Str → Option Value} {base : Heap} {a : Ad} (T : Txt K mg a) : FnOk P w K mg base (L2.CX P w) 2 a.f_c_law_spans a.d_c_law_spans ["deck", "most", "span"] (sp_c_law_spans K) := by
  have G_c_law_take : FnOk P w K mg base (L2.CX P w) 1 a.f_c_law_take a.d_c_law_take ["deck", "many"] (sp_c_law_take) := ok_c_law_take T
  refine T.F_c_law_spans.okX sc_c_law_spans (fun vs H Q E h => ?_) (fun cdv A outer s H vs Q E hr h => ?_)
  · rw [sp_c_law_spans_eq] at h
    walk_at "len"
  · rw [sp_c_law_spans_eq] at h
    obtain ⟨d, D, rfl, hd, k⟩ := h
    refine ⟨_, (pss_cons (ps_set (i := 3) sc_c_law_spans.nd (by rfl) (Or.inl rfl) (pe_lst pa_nil))
    (pss_cons (ps_set (i := 4) sc_c_law_spans.nd (by rfl) (Or.inl rfl) (pe_op op_sub (pe_call G_c_law_take (hr.mono (by decide)) (by rfl) T.m_c_law_take T.F_c_law_take.kp T.b_c_law_take .nil passL (pa_cons (pv 0) (pa_cons (pv 2) pa_nil))) (pe_op op_fdiv (pv 2) pe_int)))
    (pss_cons (ps_for (passes_of rfl) rfl (pi_range1 (by rfl) T.n_range (pa_cons (pe_call G_c_law_take (hr.mono (by decide)) (by rfl) T.m_c_law_take T.F_c_law_take.kp T.b_c_law_take .nil passL (pa_cons (pv 0) (pa_cons (pe_op op_add (pv 1) pe_int) pa_nil))) pa_nil)) (pg_name (i := 5) sc_c_law_spans.nd (by rfl) (Or.inl rfl)) (pss_cons (ps_set (i := 6) sc_c_law_spans.nd (by rfl) (Or.inl rfl) (pe_op op_add (pe_op op_add (pv 4) pe_int) (pe_call G_c_law_take (hr.mono (by decide)) (by rfl) T.m_c_law_take T.F_c_law_take.kp T.b_c_law_take .nil passL (pa_cons (pv 0) (pa_cons (pv 2) pa_nil)))))
    (pss_cons (ps_expr (pe_bm PySem.F.plainAttrs_list PySem.F.slot_list_append PySem.F.type_list_append mt_append (pv 3) (pa_cons (pe_tup (pa_cons (pv 4) (pa_cons (pv 6) pa_nil))) pa_nil)))
    (pss_one (ps_set (i := 4) sc_c_law_spans.nd (by rfl) (Or.inl rfl) (pe_op op_add (pe_op op_add (pv 6) pe_int) (pe_call G_c_law_take (hr.mono (by decide)) (by rfl) T.m_c_law_take T.F_c_law_take.kp T.b_c_law_take .nil passL (pa_cons (pv 0) (pa_cons (pe_op op_add (pe_op op_fdiv (pv 2) pe_int) pe_int) pa_nil)))))))))
    (pss_one (ps_ret (pv 3)))))), ?_⟩
    have K0 : Dk (del H d) H d D := ⟨del_same, fun _ _ e => (del_of e).1, hd⟩
    refine ⟨by show 0 ≤ sizeLine; decide, fun l hl => ?_⟩
    have ndl : d ≠ l := ne_of_none hd hl
    have hl0 : del H d l = none := by rw [del_ne ndl.symm]; exact hl
    have K1 : Dk (del H d) (upd H l (.lst [])) d D := ⟨K0.nd, K0.sm.mut hl0, by rw [upd_ne ndl]; exact hd⟩
    refine ⟨_, rfl, _, rfl, take_q K1.freeze (by decide) fun a1 H1 a10 a11 K2 => ?_⟩
    have hL1 := K2.get ndl.symm upd_same
    have K2 : Dk (del H d) H1 d D.tail := K2.keep K1.nd (fun b o e => K2.sm b o (K1.under b o e))
    refine ⟨_, rfl, _, _, rfl, rfl, ⟨by decide, by decide⟩, _, _, rfl, rfl, ?_⟩
    refine ⟨_, rfl, _, rfl, _, _, rfl, rfl, take_q K2.freeze (by decide) fun n H2 n0 n1 K3 => ?_⟩
    have hL2 := K3.get ndl.symm hL1
    have K3 : Dk (del H d) H2 d D.tail.tail := K3.keep K2.nd (fun b o e => K3.sm b o (K2.under b o e))
    refine ⟨n, rfl, by omega, by omega, for_range (lo := 0) (n := n.toNat) (fun i σ H' => ∃ (b : Int) (v5 v6 : Option V) (D' : List Int) (rs : List V) (ps : List (Int × Int)), σ = [some (.ref d), some (.int 5), some (.int 12), some (.ref l), some (.int b), v5, v6] ∧ Dk (del H d) H' d D' ∧ H' l = some (.lst rs) ∧ Rws K (del (del H' d) l) rs ps ∧ ps.length = i ∧ okS ps ∧ (∀ z ∈ ps, z.2 < b) ∧ -6 ≤ b ∧ b ≤ 5 + 20 * i ∧ ∀ z ∈ ps, -6 ≤ z.1 ∧ z.1 < z.2 ∧ z.2 ≤ 120) ?_ ?_ ?_⟩
    · exact ⟨a1 - 6, none, none, _, [], [], rfl, K3, hL2, .nil, rfl, ⟨(fun z hz => by cases hz), .nil⟩, (fun z hz => by cases hz), by omega, by omega, (fun z hz => by cases hz)⟩
    · rintro i σ H3 hi ⟨b, v5, v6, D', rs, ps, rfl, K4, hL, hR, hln, hok, hkb, b1, b2, hz⟩
      refine ⟨_, rfl, _, _, rfl, rfl, _, rfl, _, rfl, take_q K4.freeze (by decide) fun z H4 z0 z1 K5 => ?_⟩
      have hL4 := K5.get ndl.symm hL
      have sH : Same (del H3 d) H4 := K5.sm
      have K6 : Dk (del H d) H4 d D'.tail := K5.keep K4.nd (fun b o e => K5.sm b o (K4.under b o e))
      refine ⟨_, _, rfl, rfl, ?_⟩
      obtain ⟨en, hen⟩ : ∃ w : Int, w = b + 1 + z := ⟨_, rfl⟩
      have een : (fun i j : Int => V.int (i + j)) (b + 1) z = V.int en := by rw [hen]
      rw [een]
      refine ⟨_, rfl, .inl ⟨rfl, _, SqL.of hL4⟩, _, rfl, _, rfl, by show 2 ≤ sizeLine; decide, fun tq htq => ?_⟩
      have ntl : tq ≠ l := fun w => by rw [w, hL4] at htq; cases htq
      have ntd : tq ≠ d := fun w => by rw [w, K6.hd] at htq; cases htq
      have rl := rws_len hR
      refine ⟨l, _, _, rfl, rfl, by rw [upd_ne ntl.symm]; exact hL4, small1000000 (by omega), ?_⟩
      have K7 : Dk (del H d) (upd (upd H4 tq (.tup [.int b, .int en])) l (.lst (rs ++ [.ref tq]))) d D'.tail := by
        have k := K6.same (Same.new (o := .tup [.int b, .int en]) htq)
        exact ⟨k.nd, k.sm.mut hl0, by rw [upd_ne ndl]; exact k.hd⟩
      refine ⟨_, rfl, _, _, rfl, rfl, _, rfl, _, rfl, _, _, rfl, rfl, ⟨by decide, by decide⟩, _, _, rfl, rfl, take_q K7.freeze (by decide) fun y H6 y0 y1 K8 => ?_⟩
      have hL6 := K8.get ndl.symm upd_same
      have hT6 := K8.get ntd (show (upd (upd H4 tq (.tup [.int b, .int en])) l (.lst (rs ++ [.ref tq])) : Hp) tq = some (.tup [.int b, .int en]) by rw [upd_ne ntl]; exact upd_same)
      have sI : Same (del (del H3 d) l) (del (del H6 d) l) := fun c o e => by
        obtain ⟨e1, e2⟩ := del_of e
        obtain ⟨e3, e4⟩ := del_of e1
        refine del_some (del_some (K8.get e4 ?_) e4) e2
        rw [upd_ne e2, upd_ne (ne_of_none (sH c o e1) htq)]
        exact sH c o e1
      have K8' : Dk (del H d) H6 d D'.tail.tail := K8.keep K7.nd (fun b o e => K8.sm b o (K7.under b o e))
      have y2 : y < 12 / 2 + 1 := y1
      refine ⟨_, _, rfl, rfl, ?_⟩
      refine ⟨_, _, _, _, rs ++ [.ref tq], ps ++ [(b, en)], rfl, K8', hL6, ?_, by rw [List.length_append, hln]; rfl, ⟨?_, ?_⟩, ?_, by omega, by omega, ?_⟩
      · show DpAll K _ (rs ++ [.ref tq]) ((ps ++ [(b, en)]).map pd)
        rw [List.map_append]
        exact dpAll_app (dpAll_same sI _ _ hR) (.cons (dp_pd (z := (b, en)) (SqT.of (del_some (del_some hT6 ntd) ntl))) .nil)
      · intro w hw
        rcases List.mem_append.mp hw with hw | hw
        · exact hok.1 w hw
        · rw [List.mem_singleton] at hw
          subst hw
          show b < en
          omega
      · refine List.pairwise_append.mpr ⟨hok.2, List.pairwise_singleton _ _, fun w hw w' hw' => ?_⟩
        rw [List.mem_singleton] at hw'
        rw [hw']
        exact hkb w hw
      · intro w hw
        rcases List.mem_append.mp hw with hw | hw
        · have := hkb w hw
          omega
        · rw [List.mem_singleton] at hw
          subst hw
          show en < _
          omega
      · intro w hw
        rcases List.mem_append.mp hw with hw | hw
        · exact hz w hw
        · rw [List.mem_singleton] at hw
          subst hw
          exact ⟨b1, by show b < en; omega, by show en ≤ 120; omega⟩
    rintro σ H3 ⟨b, v5, v6, D', rs, ps, rfl, K4, hL, hR, hln, hok, hkb, b1, b2, hz⟩
    refine ⟨_, rfl, k H3 D' l rs ps (fun c o nc e => K4.sm c o (del_some e nc)) K4.hd hl hL (dpAll_same (fun c o e => (del_of e).1) _ _ hR) (by omega) hok hz⟩
theorem ok_c_law_times {P : Program} {w : World} {K : PySem.W.Frag} {mg : Str → Option Value} {base : Heap} {a : Ad} (T : Txt K mg a) : FnOk P w K mg base (L2.CX P w) 1 a.f_c_law_times a.d_c_law_times ["spans"] (sp_c_law_times K) := by
  refine T.F_c_law_times.okX sc_c_law_times (fun vs H Q E h => ?_) (fun cdv A outer s H vs Q E hr h => ?_)
  · rw [sp_c_law_times_eq] at h
    walk_at "len"
  · rw [sp_c_law_times_eq] at h
    obtain ⟨q, rs, ps, rfl, hq, hr0, hl, hb, k⟩ := h
    refine ⟨_, (pss_cons (ps_set (i := 1) sc_c_law_times.nd (by rfl) (Or.inl rfl) pe_dnewK)
    (pss_cons (ps_for (passes_of rfl) rfl (pi_list (pv 0)) (pg_tup (n := 2) (by rfl) (pgs_cons (pg_name (i := 2) sc_c_law_times.nd (by rfl) (Or.inl rfl)) (pgs_cons (pg_name (i := 3) sc_c_law_times.nd (by rfl) (Or.inl rfl)) pgs_nil))) (pss_one (ps_for (passes_of rfl) rfl (pi_range2 (by rfl) T.n_range (pa_cons (pv 2) (pa_cons (pv 3) pa_nil))) (pg_name (i := 4) sc_c_law_times.nd (by rfl) (Or.inl rfl)) (pss_one (ps_dput (hu_of hr) (pv 1) (pv 4) pe_bl (by rfl))))))
    (pss_one (ps_ret (pv 1))))), ?_⟩
    have rl := rws_len hr0
    refine fun d hd => ?_
    have s0 : Same H (upd H d (.dK [])) := Same.new hd
    refine ⟨_, rfl, q, rfl, ⟨_, s0.seq hq⟩, for_it (walk_list (K := K) (a := q) (xs := rs)) (fun i σ H' => ∃ (v2 v3 v4 : Option V) (kvs : List (Key × V)), σ = [some (.ref q), some (.ref d), v2, v3, v4] ∧ Same H H' ∧ H' d = some (.dK kvs) ∧ kvs.length ≤ i * 200 ∧ ∀ n : Int, (valV kvs (.inl n)).isSome = tin (ps.take i) n) ⟨none, none, none, [], rfl, s0, upd_same, by simp, fun n => rfl⟩ (fun i σ H' _ ⟨_, _, _, _, _, s, _⟩ => s.seq hq) ?_ ?_⟩
    · rintro i v σ H1 H2 hi ⟨v2, v3, v4, kvs, rfl, s1, hK, hz, hv⟩ ⟨rfl, hx⟩
      obtain ⟨q1, z, rfl, hzz, hq1⟩ := rws_at hr0 hx
      obtain ⟨b1, b3, b2⟩ := hb z (List.mem_of_getElem? hzz)
      have et : ∀ n : Int, tin (ps.take (i + 1)) n = (tin (ps.take i) n || decide (z.1 ≤ n ∧ n < z.2)) := fun n => by
        rw [List.take_add_one, hzz]
        unfold tin
        rw [List.any_append]
        simp
      refine ⟨q1, _, rfl, s1.tup hq1, rfl, _, _, rfl, _, _, rfl, rfl, ?_⟩
      refine ⟨_, rfl, _, rfl, _, _, rfl, ⟨by omega, by omega, by omega, by omega⟩, for_range (lo := z.1) (n := (z.2 - z.1).toNat) (fun j σ H' => ∃ (v4 : Option V) (kvs : List (Key × V)), σ = [some (.ref q), some (.ref d), some (.int z.1), some (.int z.2), v4] ∧ Same H H' ∧ H' d = some (.dK kvs) ∧ kvs.length ≤ i * 200 + j ∧ ∀ n : Int, (valV kvs (.inl n)).isSome = (tin (ps.take i) n || decide (z.1 ≤ n ∧ n < z.1 + j))) ?_ ?_ ?_⟩
      · refine ⟨v4, kvs, rfl, s1, hK, by omega, fun n => ?_⟩
        rw [hv n, decide_eq_false (by omega), Bool.or_false]
      · rintro j σ H3 hj ⟨v4, kvs, rfl, s3, hK, hz, hv⟩
        refine ⟨_, rfl, _, rfl, d, _, rfl, DPut.k (k := .inl (z.1 + (j : Int))) hK (small1000000 (by omega)), ?_⟩
        have hln := putK_len (kvs := kvs) (k := (.inl (z.1 + (j : Int)) : Key)) (v := .bl true)
        refine ⟨_, _, rfl, s3.mut hd, upd_same, by omega, fun n => ?_⟩
        rw [valV_put]
        by_cases e : n = z.1 + j
        · rw [if_pos (by rw [e]), decide_eq_true (by omega), Bool.or_true]
          rfl
        · rw [if_neg (fun w => e (by injection w)), hv n]
          congr 1
          exact decide_eq_decide.mpr (by omega)
      rintro σ H3 ⟨v4, kvs, rfl, s3, hK, hz, hv⟩
      refine ⟨_, _, _, kvs, rfl, s3, hK, by omega, fun n => ?_⟩
      rw [hv n, et n]
      congr 1
      exact decide_eq_decide.mpr (by omega)
    rintro σ H1 ⟨v2, v3, v4, kvs, rfl, s1, hK, hz, hv⟩
    refine ⟨_, rfl, k H1 d s1 hd ⟨kvs, hK, fun n => ?_⟩⟩
    rw [hv n, rl, List.take_length]
theorem ok_c_InvalidTime_init {P : Program} {w : World} {K : PySem.W.Frag} {mg : Str → Option Value} {base : Heap} {a : Ad} (T : Txt K mg a) : FnOk P w K mg base (L2.CX P w) 1 a.f_c_InvalidTime_init a.d_c_InvalidTime_init ["self", "what"] (sp_exinit a.C_InvalidTime) := by
  refine T.F_c_InvalidTime_init.okX sc_c_InvalidTime_init (fun vs H Q E h => ?_) (fun cdv A outer s H vs Q E hr h => ?_)
  · walk_at "len"
  · obtain ⟨x, wd, rfl, hx, hl, k⟩ := h
    refine ⟨_, (pss_cons (ps_expr (pe_binit T.bc_SlotError (by rfl) T.m_SlotError (pa_cons (pv 0) (pa_cons (pe_op op_add_str pe_str (pv 1)) pa_nil))))
    (pss_one (ps_ost (pv 0) (pv 1)))), ?_⟩
    refine ⟨_, rfl, _, rfl, _, _, rfl, rfl, by have := small1000000 (n := 1000) (by decide); show _ + wd.length ≤ _; exact Nat.le_of_lt (Nat.lt_of_le_of_lt (Nat.add_le_add_left hl _) (small1000000 (by decide +kernel))), ?_⟩
    refine ⟨x, _, _, rfl, by show 1 ≤ 1000; decide, T.ox_InvalidTime, hx, ?_⟩
    refine ⟨_, rfl, _, rfl, x, _, rfl, T.ox_InvalidTime, T.no_InvalidTime_what, .inl ⟨hx, fun dx n ne => k dx n ne⟩⟩
theorem ok_c_is_spans {P : Program} {w : World} {K : PySem.W.Frag} {mg : Str → Option Value} {base : Heap} {a : Ad} (T : Txt K mg a) : FnOk P w K mg base (L2.CX P w) 1 a.f_c_is_spans a.d_c_is_spans ["spans"] (sp_c_is_spans K) := by
  refine T.F_c_is_spans.okX sc_c_is_spans (fun vs H Q E h => ?_) (fun cdv A outer s H vs Q E hr h => ?_)
  · rw [sp_c_is_spans_eq] at h
    walk_at "len"
  · rw [sp_c_is_spans_eq] at h
    obtain ⟨q, rs, ps, rfl, hq, hr0, hl, k⟩ := h
    refine ⟨_, (pss_cons (ps_if (pt_val (pe_callB (cr_any rfl) (by rfl) T.n_any (by decide +kernel) (pa_cons (pe_lcK (own := [("start", 1), ("end", 2)]) (by rfl) sc_c_is_spans.nd (pi_list (pv 0)) (blkOk_by (own := [("start", 1), ("end", 2)]) (N := ["spans", "start", "end", "one", "two"]) (sc := defScope st_c_is_spans) (by decide +kernel)) (fun _ _ _ _ _ => (pg_tup (n := 2) (by rfl) (pgs_cons (pg_name (i := 1) sc_c_is_spans.nd (by rfl) (by first | exact Or.inl rfl | exact Or.inr rfl)) (pgs_cons (pg_name (i := 2) sc_c_is_spans.nd (by rfl) (by first | exact Or.inl rfl | exact Or.inr rfl)) pgs_nil)))) (fun _ _ _ _ _ => pts_nil) (fun _ _ _ _ _ => (pe_cmpR op_ge (pv 1) (pv 2) (nomark _))) (by walk_at "blk") (by walk_at "blk") (by walk_at "blk")) pa_nil))) (pss_one (ps_ret pe_bl)) pss_nil)
    (pss_one (ps_ret (pe_callB (cr_all rfl) (by rfl) T.n_all (by decide +kernel) (pa_cons (pe_lcK (own := [("one", 3), ("two", 4)]) (by rfl) sc_c_is_spans.nd (pi_zip (by rfl) T.n_zip (pa_cons (pv 0) (pa_cons (pe_slice sl_list (pv 0) (po_some pe_int) po_none) pa_nil))) (blkOk_by (own := [("one", 3), ("two", 4)]) (N := ["spans", "start", "end", "one", "two"]) (sc := defScope st_c_is_spans) (by decide +kernel)) (fun _ _ _ _ _ => (pg_tup (n := 2) (by rfl) (pgs_cons (pg_name (i := 3) sc_c_is_spans.nd (by rfl) (by first | exact Or.inl rfl | exact Or.inr rfl)) (pgs_cons (pg_name (i := 4) sc_c_is_spans.nd (by rfl) (by first | exact Or.inl rfl | exact Or.inr rfl)) pgs_nil)))) (fun _ _ _ _ _ => pts_nil) (fun _ _ _ _ _ => (pe_cmpR op_lt (pe_ix ix_tup (pv 3) pe_int (fun _ _ => rfl)) (pe_ix ix_tup (pv 4) pe_int (fun _ _ => rfl)) (nomark _))) (by walk_at "blk") (by walk_at "blk") (by walk_at "blk")) pa_nil))))), ?_⟩
    have rl := rws_len hr0
    refine ⟨_, rfl, q, rfl, ⟨_, hq⟩, fun E1 hE1 => ?_⟩
    refine lc_fn (walk_list (xs := rs)) (fun i => some (.bl (decide ((ps.getD i (0, 0)).1 ≥ (ps.getD i (0, 0)).2)))) (by omega) hE1 (fun H s => s.seq hq) ?_ ?_
    · rintro i v H4 H5 R N hi s4 ⟨rfl, hv⟩ hR hN
      obtain ⟨q1, z1, rfl, hz1, hq1⟩ := rws_at hr0 hv
      refine ⟨q1, _, rfl, s4.tup hq1, rfl, _, _, rfl, _, _, rfl, rfl, rfl, ?_⟩
      refine ⟨_, rfl, _, rfl, _, _, rfl, rfl, hR _ _ ?_ (Same.refl _)⟩
      rw [List.getD_eq_getElem?_getD, hz1]
      rfl
    intro H1 s1 hE
    rw [fm_some, rl, range_at ps (fun z => V.bl (decide (z.1 ≥ z.2))) _ (fun i z e => by rw [List.getD_eq_getElem?_getD, e]; rfl)] at hE
    refine ⟨E1, ps.map fun z => decide (z.1 ≥ z.2), rfl, SqL.of (by rw [hE, List.map_map]; rfl), ?_⟩
    refine ⟨_, rfl, ?_⟩
    refine ite2 (fun c => ?_) (fun c => ?_)
    · have := k H1 s1
      unfold isS at this
      rw [c] at this
      exact this
    have c' : (ps.map fun z => decide (z.1 ≥ z.2)).any id = false := by simpa using c
    refine ⟨_, rfl, _, rfl, 1, rfl, q, _, rfl, s1.seq hq, fun l1 hl1 => ?_⟩
    rw [cut1]
    have s3 := s1.then_new (o := .lst (rs.drop 1)) hl1
    have hL1 : (upd H1 l1 (.lst (rs.drop 1)) : Hp) l1 = _ := upd_same
    generalize (upd H1 l1 (.lst (rs.drop 1)) : Hp) = H3 at s3 hL1 ⊢
    refine ⟨q, l1, rs, rs.drop 1, rfl, s3.seq hq, SqL.of hL1, fun E3 hE3 => ?_⟩
    refine lc_fn (walk_zip (xs := rs) (ys := rs.drop 1) (n := rs.length - 1) (by rw [List.length_drop]; omega)) (fun i => some (.bl (decide ((ps.getD i (0, 0)).2 < (ps.getD (i + 1) (0, 0)).1)))) (by omega) hE3 (fun H s => ⟨s.seq (s3.seq hq), s.seq (SqL.of hL1)⟩) ?_ ?_
    · rintro i v H4 H5 R N hi s4 ⟨T1, x1, x2, rfl, hT1, rfl, hx1, hx2⟩ hR hN
      have hx2 : (rs.drop 1)[i]? = some x2 := hx2
      rw [List.getElem?_drop, Nat.add_comm] at hx2
      obtain ⟨q1, z1, rfl, hz1, hq1⟩ := rws_at hr0 hx1
      obtain ⟨q2, z2, rfl, hz2, hq2⟩ := rws_at hr0 hx2
      have sx := (s3.trans s4).trans (Same.new (o := .tup [.ref q1, .ref q2]) hT1)
      refine ⟨T1, _, rfl, SqT.of upd_same, rfl, _, _, rfl, _, _, rfl, rfl, rfl, ?_⟩
      refine ⟨_, rfl, q1, _, _, _, rfl, rfl, sx.tup hq1, rfl, _, rfl, q2, _, _, _, rfl, rfl, sx.tup hq2, rfl, _, _, rfl, rfl, hR _ _ ?_ (Same.new hT1)⟩
      rw [List.getD_eq_getElem?_getD, List.getD_eq_getElem?_getD, hz1, hz2]
      rfl
    intro H4 s4 hE4
    rw [fm_some, rl] at hE4
    have eb : (List.range (ps.length - 1)).map (fun i => V.bl (decide ((ps.getD i (0, 0)).2 < (ps.getD (i + 1) (0, 0)).1))) = (adjL (fun a b : Int × Int => decide (a.2 < b.1)) ps).map V.bl := by
      rw [← adj_range (fun a b : Int × Int => decide (a.2 < b.1)) (0, 0) ps, List.map_map]
      rfl
    rw [eb] at hE4
    refine ⟨E3, adjL (fun a b : Int × Int => decide (a.2 < b.1)) ps, rfl, SqL.of hE4, ?_⟩
    have := k H4 (s3.trans s4)
    unfold isS at this
    rw [c', Bool.not_false, Bool.true_and] at this
    exact this
theorem ok_c_check_spans {P : Program} {w : World} {K : PySem.W.Frag} {mg : Str → Option Value} {base : Heap} {a : Ad} (T : Txt K mg a) : FnOk P w K mg base (L2.CX P w) 3 a.f_c_check_spans a.d_c_check_spans ["spans"] (sp_c_check_spans K a.C_InvalidTime) := by
  have G_c_InvalidTime_init : FnOk P w K mg base (L2.CX P w) 1 a.f_c_InvalidTime_init a.d_c_InvalidTime_init ["self", "what"] (sp_exinit a.C_InvalidTime) := ok_c_InvalidTime_init T
  have G_c_is_spans : FnOk P w K mg base (L2.CX P w) 1 a.f_c_is_spans a.d_c_is_spans ["spans"] (sp_c_is_spans K) := ok_c_is_spans T
  refine T.F_c_check_spans.okX sc_c_check_spans (fun vs H Q E h => ?_) (fun cdv A outer s H vs Q E hr h => ?_)
  · rw [sp_c_check_spans_eq] at h
    walk_at "len"
  · rw [sp_c_check_spans_eq] at h
    obtain ⟨q, rs, ps, rfl, hq, hr0, hl, k0, k1⟩ := h
    refine ⟨_, (pss_one (ps_if (pt_not (pt_val (pe_call G_c_is_spans (hr.mono (by decide)) (by rfl) T.m_c_is_spans T.F_c_is_spans.kp T.b_c_is_spans .nil passL (pa_cons (pv 0) pa_nil)))) (pss_one (ps_raise rfl (takes_of rfl rfl rfl rfl) (pmk_oex T.ox_InvalidTime T.in_InvalidTime T.ti_InvalidTime G_c_InvalidTime_init (hr.mono (by decide)) T.b_c_InvalidTime_init .nil passL (by rfl) T.m_InvalidTime (pa_cons pe_str pa_nil)))) pss_nil)), ?_⟩
    have bad : ∀ (wd : Str) (H2 : Hp), Same H H2 → wd.length ≤ 1000 → raisesW a.C_InvalidTime wd H E → ([wd] : List Str).length ≤ 1000 ∧ ∀ aa, H2 aa = none → sp_exinit a.C_InvalidTime (.ref aa :: ([.str wd] ++ [])) (upd H2 aa (exo aa a.C_InvalidTime none))
        (fun v H3 => v = .non ∧ ∃ (d : Addr) (fs : List (Str × V)), H3 aa = some (exo aa a.C_InvalidTime (some d)) ∧ H3 d = some (exd d fs) ∧ H2 d = none ∧ E (.ref a.C_InvalidTime) (some d) (upd (del H3 aa) d (.xd fs))) (fun _ _ _ => False) :=
      fun wd H2 s2 hw z => ⟨by show 1 ≤ 1000; decide, raise_ok (z.mono s2) hw⟩

    refine ⟨_, rfl, sp_c_is_spans_use ⟨q, rs, ps, rfl, hq, hr0, hl, fun H1 s1 => ?_⟩⟩
    refine ⟨_, rfl, ?_⟩
    refine ite2 (fun c => ?_) (fun c => ?_)
    · exact bad "spans" H1 s1 (by decide +kernel) (k0 (by simpa using c))
    · exact k1 (by simpa using c) H1 s1
theorem ok_c_first_fit {P : Program} {w : World} {K : PySem.W.Frag} {mg : Str → Option Value} {base : Heap} {a : Ad} (T : Txt K mg a) : FnOk P w K mg base (L2.CX P w) 4 a.f_c_first_fit a.d_c_first_fit ["spans", "length", "time"] (sp_c_first_fit K a.C_InvalidTime) := by
  have G_c_InvalidTime_init : FnOk P w K mg base (L2.CX P w) 1 a.f_c_InvalidTime_init a.d_c_InvalidTime_init ["self", "what"] (sp_exinit a.C_InvalidTime) := ok_c_InvalidTime_init T
  have G_c_check_spans : FnOk P w K mg base (L2.CX P w) 3 a.f_c_check_spans a.d_c_check_spans ["spans"] (sp_c_check_spans K a.C_InvalidTime) := ok_c_check_spans T
  refine T.F_c_first_fit.okX sc_c_first_fit (fun vs H Q E h => ?_) (fun cdv A outer s H vs Q E hr h => ?_)
  · rw [sp_c_first_fit_eq] at h
    walk_at "len"
  · rw [sp_c_first_fit_eq] at h
    obtain ⟨q, rs, ps, len, time, rfl, hq, hr0, hl, k0, k1, k2⟩ := h
    refine ⟨_, (pss_cons (ps_expr (pe_callS G_c_check_spans (hr.mono (by decide)) (by rfl) T.m_c_check_spans T.F_c_check_spans.kp T.b_c_check_spans (fun σ => passAt (takes_of rfl rfl rfl rfl) σ) (pa_cons (pv 0) pa_nil)))
    (pss_cons (ps_if (pt_cmpR op_lt (pv 1) pe_int (nomark _)) (pss_one (ps_raise rfl (takes_of rfl rfl rfl rfl) (pmk_oex T.ox_InvalidTime T.in_InvalidTime T.ti_InvalidTime G_c_InvalidTime_init (hr.mono (by decide)) T.b_c_InvalidTime_init .nil passL (by rfl) T.m_InvalidTime (pa_cons pe_str pa_nil)))) pss_nil)
    (pss_cons (ps_for (passes_of rfl) rfl (pi_list (pv 0)) (pg_tup (n := 2) (by rfl) (pgs_cons (pg_name (i := 3) sc_c_first_fit.nd (by rfl) (Or.inl rfl)) (pgs_cons (pg_name (i := 4) sc_c_first_fit.nd (by rfl) (Or.inl rfl)) pgs_nil))) (pss_one (ps_if (pt_cmpR op_le (pe_op op_add (pe_callB (call_max2 rfl) (by rfl) T.n_max (by decide +kernel) (pa_cons (pv 3) (pa_cons (pv 2) pa_nil))) (pv 1)) (pv 4) (nomark _)) (pss_one (ps_ret (pe_callB (call_max2 rfl) (by rfl) T.n_max (by decide +kernel) (pa_cons (pv 3) (pa_cons (pv 2) pa_nil))))) pss_nil)))
    (pss_one (ps_ret pe_non))))), ?_⟩
    have bad : ∀ (wd : Str) (H2 : Hp), Same H H2 → wd.length ≤ 1000 → raisesW a.C_InvalidTime wd H E → ([wd] : List Str).length ≤ 1000 ∧ ∀ aa, H2 aa = none → sp_exinit a.C_InvalidTime (.ref aa :: ([.str wd] ++ [])) (upd H2 aa (exo aa a.C_InvalidTime none))
        (fun v H3 => v = .non ∧ ∃ (d : Addr) (fs : List (Str × V)), H3 aa = some (exo aa a.C_InvalidTime (some d)) ∧ H3 d = some (exd d fs) ∧ H2 d = none ∧ E (.ref a.C_InvalidTime) (some d) (upd (del H3 aa) d (.xd fs))) (fun _ _ _ => False) :=
      fun wd H2 s2 hw z => ⟨by show 1 ≤ 1000; decide, raise_ok (z.mono s2) hw⟩

    refine ⟨_, rfl, sp_c_check_spans_use ⟨q, rs, ps, rfl, hq, hr0, hl, fun z => k0 z, fun his H1 s1 => ?_⟩⟩
    have k1 := k1 his
    have k2 := k2 his
    have rl := rws_len hr0
    refine ⟨_, rfl, _, _, rfl, rfl, _, rfl, ?_⟩
    refine ite2 (fun c => ?_) (fun c => ?_)
    · exact bad "length" H1 s1 (by decide +kernel) (k1 (of_decide_eq_true c))
    have c' : ¬ len < 1 := fun z => c (decide_eq_true z)
    have kk := k2 (by omega) H1 s1
    refine ⟨_, rfl, q, rfl, ⟨_, s1.seq hq⟩, for_it (walk_list (K := K) (a := q) (xs := rs)) (fun i σ H' => ∃ v3 v4 : Option V, σ = [some (.ref q), some (.int len), some (.int time), v3, v4] ∧ H' = H1 ∧ ffit len time ps = ffit len time (ps.drop i)) ⟨none, none, rfl, rfl, rfl⟩ (fun i σ H' _ ⟨_, _, _, e, _⟩ => by rw [e]; exact s1.seq hq) ?_ ?_⟩
    · rintro i v σ H2 H3 hi ⟨v3, v4, rfl, rfl, e⟩ ⟨rfl, hv⟩
      obtain ⟨q1, z, rfl, hz, hq1⟩ := rws_at hr0 hv
      obtain ⟨hi2, ez⟩ := List.getElem?_eq_some_iff.mp hz
      rw [List.drop_eq_getElem_cons hi2, ez] at e
      refine ⟨q1, _, rfl, s1.tup hq1, rfl, _, _, rfl, _, _, rfl, rfl, ?_⟩
      refine ⟨_, rfl, _, rfl, _, _, rfl, _, rfl, _, _, rfl, rfl, _, rfl, _, _, rfl, rfl, _, rfl, ?_⟩
      refine ite2 (fun c => ?_) (fun c => ?_)
      · have c2 : (if time > z.1 then time else z.1) + len ≤ z.2 := of_decide_eq_true c
        have e2 : ffit len time (z :: ps.drop (i + 1)) = some (if time > z.1 then time else z.1) := by
          show (if _ then _ else _) = _
          rw [if_pos c2]
        rw [e, e2] at kk
        exact ⟨_, rfl, _, rfl, _, _, rfl, kk⟩
      · have c2 : ¬ (if time > z.1 then time else z.1) + len ≤ z.2 := fun w => c (decide_eq_true w)
        have e2 : ffit len time (z :: ps.drop (i + 1)) = ffit len time (ps.drop (i + 1)) := by
          show (if _ then _ else _) = _
          rw [if_neg c2]
        exact ⟨_, _, rfl, rfl, e.trans e2⟩
    rintro σ H2 ⟨v3, v4, rfl, rfl, e⟩
    rw [rl, List.drop_length] at e
    rw [e] at kk
    exact kk
theorem ok_c_time_behind {P : Program} {w : World} {K : PySem.W.Frag} {mg : Str → Option Value} {base : Heap} {a : Ad} (T : Txt K mg a) : FnOk P w K mg base (L2.CX P w) 4 a.f_c_time_behind a.d_c_time_behind ["spans", "time", "minutes"] (sp_c_time_behind K a.C_InvalidTime) := by
  have G_c_InvalidTime_init : FnOk P w K mg base (L2.CX P w) 1 a.f_c_InvalidTime_init a.d_c_InvalidTime_init ["self", "what"] (sp_exinit a.C_InvalidTime) := ok_c_InvalidTime_init T
  have G_c_check_spans : FnOk P w K mg base (L2.CX P w) 3 a.f_c_check_spans a.d_c_check_spans ["spans"] (sp_c_check_spans K a.C_InvalidTime) := ok_c_check_spans T
  refine T.F_c_time_behind.okX sc_c_time_behind (fun vs H Q E h => ?_) (fun cdv A outer s H vs Q E hr h => ?_)
  · rw [sp_c_time_behind_eq] at h
    walk_at "len"
  · rw [sp_c_time_behind_eq] at h
    obtain ⟨q, rs, ps, time, mins, rfl, hq, hr0, hl, k0, k1, k2⟩ := h
    refine ⟨_, (pss_cons (ps_expr (pe_callS G_c_check_spans (hr.mono (by decide)) (by rfl) T.m_c_check_spans T.F_c_check_spans.kp T.b_c_check_spans (fun σ => passAt (takes_of rfl rfl rfl rfl) σ) (pa_cons (pv 0) pa_nil)))
    (pss_cons (ps_if (pt_cmpR op_lt (pv 2) pe_int (nomark _)) (pss_one (ps_raise rfl (takes_of rfl rfl rfl rfl) (pmk_oex T.ox_InvalidTime T.in_InvalidTime T.ti_InvalidTime G_c_InvalidTime_init (hr.mono (by decide)) T.b_c_InvalidTime_init .nil passL (by rfl) T.m_InvalidTime (pa_cons pe_str pa_nil)))) pss_nil)
    (pss_cons (ps_if (pt_cmpR op_eq (pv 2) pe_int (nomark _)) (pss_one (ps_ret (pv 1))) pss_nil)
    (pss_cons (ps_set (i := 3) sc_c_time_behind.nd (by rfl) (Or.inl rfl) (pv 2))
    (pss_cons (ps_for (passes_of rfl) rfl (pi_list (pv 0)) (pg_tup (n := 2) (by rfl) (pgs_cons (pg_name (i := 4) sc_c_time_behind.nd (by rfl) (Or.inl rfl)) (pgs_cons (pg_name (i := 5) sc_c_time_behind.nd (by rfl) (Or.inl rfl)) pgs_nil))) (pss_cons (ps_set (i := 6) sc_c_time_behind.nd (by rfl) (Or.inl rfl) (pe_callB (call_max2 rfl) (by rfl) T.n_max (by decide +kernel) (pa_cons (pv 4) (pa_cons (pv 1) pa_nil))))
    (pss_one (ps_if (pt_cmpR op_lt (pv 6) (pv 5) (nomark _)) (pss_cons (ps_if (pt_cmpR op_ge (pe_op op_sub (pv 5) (pv 6)) (pv 3) (nomark _)) (pss_one (ps_ret (pe_op op_add (pv 6) (pv 3)))) pss_nil)
    (pss_one (ps_aug (i := 3) sc_c_time_behind.nd (by rfl) (Or.inl rfl) (pe_op op_sub (pv 5) (pv 6)) ip_sub))) pss_nil))))
    (pss_one (ps_ret pe_non))))))), ?_⟩
    have bad : ∀ (wd : Str) (H2 : Hp), Same H H2 → wd.length ≤ 1000 → raisesW a.C_InvalidTime wd H E → ([wd] : List Str).length ≤ 1000 ∧ ∀ aa, H2 aa = none → sp_exinit a.C_InvalidTime (.ref aa :: ([.str wd] ++ [])) (upd H2 aa (exo aa a.C_InvalidTime none))
        (fun v H3 => v = .non ∧ ∃ (d : Addr) (fs : List (Str × V)), H3 aa = some (exo aa a.C_InvalidTime (some d)) ∧ H3 d = some (exd d fs) ∧ H2 d = none ∧ E (.ref a.C_InvalidTime) (some d) (upd (del H3 aa) d (.xd fs))) (fun _ _ _ => False) :=
      fun wd H2 s2 hw z => ⟨by show 1 ≤ 1000; decide, raise_ok (z.mono s2) hw⟩

    refine ⟨_, rfl, sp_c_check_spans_use ⟨q, rs, ps, rfl, hq, hr0, hl, fun z => k0 z, fun his H1 s1 => ?_⟩⟩
    have k1 := k1 his
    have k2 := k2 his
    have rl := rws_len hr0
    refine ⟨_, rfl, _, _, rfl, rfl, _, rfl, ?_⟩
    refine ite2 (fun c => ?_) (fun c => ?_)
    · exact bad "length" H1 s1 (by decide +kernel) (k1 (of_decide_eq_true c))
    have c' : ¬ mins < 0 := fun z => c (decide_eq_true z)
    have kk := k2 (by omega) H1 s1
    unfold tb at kk
    refine ⟨_, rfl, rfl, _, rfl, ?_⟩
    refine ite2 (fun c => ?_) (fun c => ?_)
    · have e : mins = 0 := V.int.inj (of_decide_eq_true c)
      rw [if_pos e] at kk
      exact ⟨_, rfl, kk⟩
    have e0 : ¬ mins = 0 := fun z => c (decide_eq_true (congrArg V.int z))
    rw [if_neg e0] at kk
    refine ⟨_, rfl, ?_⟩
    refine ⟨_, rfl, q, rfl, ⟨_, s1.seq hq⟩, for_it (walk_list (K := K) (a := q) (xs := rs)) (fun i σ H' => ∃ (left : Int) (v4 v5 v6 : Option V), σ = [some (.ref q), some (.int time), some (.int mins), some (.int left), v4, v5, v6] ∧ H' = H1 ∧ tbr time ps mins = tbr time (ps.drop i) left) ⟨mins, none, none, none, rfl, rfl, rfl⟩ (fun i σ H' _ ⟨_, _, _, _, _, e, _⟩ => by rw [e]; exact s1.seq hq) ?_ ?_⟩
    · rintro i v σ H2 H3 hi ⟨left, v4, v5, v6, rfl, rfl, e⟩ ⟨rfl, hv⟩
      obtain ⟨q1, z, rfl, hz, hq1⟩ := rws_at hr0 hv
      obtain ⟨hi2, ez⟩ := List.getElem?_eq_some_iff.mp hz
      rw [List.drop_eq_getElem_cons hi2, ez] at e
      refine ⟨q1, _, rfl, s1.tup hq1, rfl, _, _, rfl, _, _, rfl, rfl, ?_⟩
      refine ⟨_, rfl, _, rfl, _, _, rfl, ?_⟩
      have e2 : tbr time (z :: ps.drop (i + 1)) left = if (if time > z.1 then time else z.1) < z.2 then (if z.2 - (if time > z.1 then time else z.1) ≥ left then some ((if time > z.1 then time else z.1) + left) else tbr time (ps.drop (i + 1)) (left - (z.2 - (if time > z.1 then time else z.1)))) else tbr time (ps.drop (i + 1)) left := rfl
      rw [e2] at e
      refine ⟨_, rfl, _, rfl, _, _, rfl, rfl, _, rfl, ?_⟩
      refine ite2 (fun c => ?_) (fun c => ?_)
      · have c2 : (if time > z.1 then time else z.1) < z.2 := of_decide_eq_true c
        rw [if_pos c2] at e
        refine ⟨_, rfl, _, rfl, _, _, rfl, rfl, _, rfl, _, _, rfl, rfl, _, rfl, ?_⟩
        refine ite2 (fun c => ?_) (fun c => ?_)
        · have c3 : z.2 - (if time > z.1 then time else z.1) ≥ left := of_decide_eq_true c
          rw [if_pos c3] at e
          rw [e] at kk
          exact ⟨_, rfl, _, rfl, _, _, rfl, rfl, kk⟩
        · have c3 : ¬ z.2 - (if time > z.1 then time else z.1) ≥ left := fun w => c (decide_eq_true w)
          rw [if_neg c3] at e
          exact ⟨_, rfl, _, rfl, _, rfl, _, _, rfl, rfl, _, _, rfl, rfl, _, _, _, _, rfl, rfl, e⟩
      · have c2 : ¬ (if time > z.1 then time else z.1) < z.2 := fun w => c (decide_eq_true w)
        rw [if_neg c2] at e
        exact ⟨_, _, _, _, rfl, rfl, e⟩
    rintro σ H2 ⟨left, v4, v5, v6, rfl, rfl, e⟩
    rw [rl, List.drop_length] at e
    rw [e] at kk
    exact kk
theorem ok_c_time_before {P : Program} {w : World} {K : PySem.W.Frag} {mg : Str → Option Value} {base : Heap} {a : Ad} (T : Txt K mg a) : FnOk P w K mg base (L2.CX P w) 5 a.f_c_time_before a.d_c_time_before ["spans", "time", "minutes"] (sp_c_time_before K a.C_InvalidTime) := by
  have G_c_check_spans : FnOk P w K mg base (L2.CX P w) 3 a.f_c_check_spans a.d_c_check_spans ["spans"] (sp_c_check_spans K a.C_InvalidTime) := ok_c_check_spans T
  have G_c_time_behind : FnOk P w K mg base (L2.CX P w) 4 a.f_c_time_behind a.d_c_time_behind ["spans", "time", "minutes"] (sp_c_time_behind K a.C_InvalidTime) := ok_c_time_behind T
  refine T.F_c_time_before.okX sc_c_time_before (fun vs H Q E h => ?_) (fun cdv A outer s H vs Q E hr h => ?_)
  · rw [sp_c_time_before_eq] at h
    walk_at "len"
  · rw [sp_c_time_before_eq] at h
    obtain ⟨q, rs, ps, time, mins, rfl, hq, hr0, hl, k0, k1, k2⟩ := h
    refine ⟨_, (pss_cons (ps_setLcK (i := 3) (own := [("start", 5), ("end", 6)]) (by rfl) sc_c_time_before.nd (by rfl) (by rfl) (sw_true rfl rfl rfl (by decide +kernel)) (pi_list (pe_revL (pe_callTy call_list_of (by rfl) T.n_list (by decide +kernel) (pa_cons (pv 0) pa_nil)))) (blkOk_by (own := [("start", 5), ("end", 6)]) (N := ["spans", "time", "minutes", "turned", "found", "start", "end"]) (sc := defScope st_c_time_before) (by decide +kernel)) (fun _ _ _ _ _ => (pg_tup (n := 2) (by rfl) (pgs_cons (pg_name (i := 5) sc_c_time_before.nd (by rfl) (by first | exact Or.inl rfl | exact Or.inr rfl)) (pgs_cons (pg_name (i := 6) sc_c_time_before.nd (by rfl) (by first | exact Or.inl rfl | exact Or.inr rfl)) pgs_nil)))) (fun _ _ _ _ _ => pts_nil) (fun _ _ _ _ _ => (pe_tup (pa_cons (pe_un un_neg (pv 6)) (pa_cons (pe_un un_neg (pv 5)) pa_nil)))) (by walk_at "blk") (by walk_at "blk") (by walk_at "blk"))
    (pss_cons (ps_expr (pe_callS G_c_check_spans (hr.mono (by decide)) (by rfl) T.m_c_check_spans T.F_c_check_spans.kp T.b_c_check_spans (fun σ => passAt (takes_of rfl rfl rfl rfl) σ) (pa_cons (pv 0) pa_nil)))
    (pss_cons (ps_set (i := 4) sc_c_time_before.nd (by rfl) (Or.inl rfl) (pe_callS G_c_time_behind (hr.mono (by decide)) (by rfl) T.m_c_time_behind T.F_c_time_behind.kp T.b_c_time_behind (fun σ => passAt (takes_of rfl rfl rfl rfl) σ) (pa_cons (pv 3) (pa_cons (pe_un un_neg (pv 1)) (pa_cons (pv 2) pa_nil)))))
    (pss_cons (ps_if (pt_cmpR op_isN (pv 4) pe_non (nomark _)) (pss_one (ps_ret pe_non)) pss_nil)
    (pss_one (ps_ret (pe_un un_neg (pv 4)))))))), ?_⟩
    have rl := rws_len hr0
    refine ⟨_, rfl, q, _, rfl, .inl hq, fun l1 hl1 => ?_⟩
    have s1 := Same.new (o := .lst rs) hl1
    refine ⟨l1, _, rfl, SqL.of upd_same, fun l2 hl2 => ?_⟩
    have s2 := s1.then_new (o := .lst rs.reverse) hl2
    have hL2 : (upd (upd H l1 (.lst rs)) l2 (.lst rs.reverse) : Hp) l2 = some (.lst rs.reverse) := upd_same
    generalize (upd (upd H l1 (.lst rs)) l2 (.lst rs.reverse) : Hp) = H2 at s2 hL2 ⊢
    have tl : (turn ps).length = ps.length := by unfold turn; rw [List.length_map, List.length_reverse]
    refine ⟨l2, rfl, ⟨_, SqL.of hL2⟩, fun E1 hE1 => ?_⟩
    refine lc_it (walk_list (xs := rs.reverse)) (fun i H' => ∃ qs : List V, Same H2 H' ∧ H' E1 = some (.lst qs) ∧ Rws K (del H' E1) qs ((turn ps).take i)) ⟨[], Same.new hE1, upd_same, .nil⟩ (fun i H _ ⟨_, s, _⟩ => SqL.of (s _ _ hL2)) ?_ ?_
    · rintro i x H3 H4 hi ⟨qs, s3, hq3, hR3⟩ ⟨rfl, hv⟩
      rw [List.length_reverse] at hi
      rw [List.getElem?_reverse hi] at hv
      obtain ⟨q1, z, rfl, hz, hq1⟩ := rws_at hr0 hv
      have tz : (turn ps)[i]? = some (-z.2, -z.1) := by
        unfold turn
        rw [List.getElem?_map, List.getElem?_reverse (by omega), ← rl, hz]
        rfl
      have ql := rws_len hR3
      rw [List.length_take] at ql
      have sx := s2.trans s3
      refine ⟨q1, _, rfl, sx.tup hq1, rfl, _, _, rfl, _, _, rfl, rfl, rfl, ?_⟩
      refine ⟨_, rfl, _, rfl, _, rfl, _, rfl, by show 2 ≤ sizeLine; decide, fun tq htq => ?_⟩
      have ntE : tq ≠ E1 := fun w => by rw [w, hq3] at htq; cases htq
      refine ⟨qs, by rw [upd_ne ntE.symm]; exact hq3, small1000000 (by omega), qs ++ [.ref tq], (s3.then_new htq).mut hE1, upd_same, ?_⟩
      show DpAll K _ (qs ++ [.ref tq]) (((turn ps).take (i + 1)).map pd)
      rw [List.take_add_one, tz, List.map_append]
      refine dpAll_app (dpAll_same (fun c o e => ?_) _ _ hR3) (.cons (dp_pd (z := (-z.2, -z.1)) (SqT.of (del_some ?_ ntE))) .nil)
      · obtain ⟨e1, e2⟩ := del_of e
        refine del_some ?_ e2
        rw [upd_ne e2, upd_ne (ne_of_none e1 htq)]
        exact e1
      · rw [upd_ne ntE, upd_same]
    rintro H3 ⟨qs, s3, hq3, hR3⟩
    rw [List.length_reverse, rl, ← tl, List.take_length] at hR3
    have hR3' : Rws K H3 qs (turn ps) := dpAll_same (fun c o e => (del_of e).1) _ _ hR3
    have sx := s2.trans s3
    refine ⟨_, rfl, sp_c_check_spans_use ⟨q, rs, ps, rfl, sx.seq hq, dpAll_same sx _ _ hr0, hl, fun z => (k0 z).mono sx, fun his H4 s4 => ?_⟩⟩
    have okT := ok_isS (turn_ok (isS_ok his))
    refine ⟨_, rfl, _, rfl, _, rfl, _, rfl, ?_⟩
    refine sp_c_time_behind_use ⟨E1, qs, turn ps, -time, mins, rfl, SqL.of (s4 _ _ hq3), dpAll_same s4 _ _ hR3', by omega, fun z => absurd okT (by rw [z]; decide), fun _ z => (k1 his z).mono (sx.trans s4), fun _ z H5 s5 => ?_⟩
    have kk := k2 his z H5 ((sx.trans s4).trans s5)
    cases e : tb (turn ps) (-time) mins with
    | none =>
      rw [e] at kk
      refine ⟨_, rfl, rfl, _, rfl, ?_⟩
      refine iteT ?_
      exact kk
    | some y =>
      rw [e] at kk
      refine ⟨_, rfl, rfl, _, rfl, ?_⟩
      refine ite2 (fun c => absurd (of_decide_eq_true c) (by simp [oV])) (fun _ => ?_)
      exact ⟨_, rfl, _, rfl, kk⟩
theorem ok_c_law_why {P : Program} {w : World} {K : PySem.W.Frag} {mg : Str → Option Value} {base : Heap} {a : Ad} (T : Txt K mg a) : FnOk P w K mg base (L2.CX P w) 6 a.f_c_law_why a.d_c_law_why ["ask", "spans", "number"] (sp_c_law_why K) := by
  have G_c_first_fit : FnOk P w K mg base (L2.CX P w) 4 a.f_c_first_fit a.d_c_first_fit ["spans", "length", "time"] (sp_c_first_fit K a.C_InvalidTime) := ok_c_first_fit T
  have G_c_time_before : FnOk P w K mg base (L2.CX P w) 5 a.f_c_time_before a.d_c_time_before ["spans", "time", "minutes"] (sp_c_time_before K a.C_InvalidTime) := ok_c_time_before T
  have G_c_time_behind : FnOk P w K mg base (L2.CX P w) 4 a.f_c_time_behind a.d_c_time_behind ["spans", "time", "minutes"] (sp_c_time_behind K a.C_InvalidTime) := ok_c_time_behind T
  refine T.F_c_law_why.okX sc_c_law_why (fun vs H Q E h => ?_) (fun cdv A outer s H vs Q E hr h => ?_)
  · rw [sp_c_law_why_eq] at h
    walk_at "len"
  · rw [sp_c_law_why_eq] at h
    obtain ⟨kk, n, q, rs, ps, wd, rfl, hk, hq, hr0, hl, hc, k⟩ := h
    refine ⟨_, (pss_cons (ps_try_as (i := 3) (Wout := fun _ _ _ _ => False) rfl rfl sc_c_law_why.nd (by rfl) (by rfl) ⟨by rfl, by decide, .inl T.m_SlotError⟩ takes0
    (fun W pn xe tk po => (pss_one (ps_if (pt_cmpR op_eq (pv 0) pe_int (nomark _)) (pss_one (ps_expr (pe_callS G_c_first_fit (hr.mono (by decide)) (by rfl) T.m_c_first_fit T.F_c_first_fit.kp T.b_c_first_fit (fun σ => passAt tk σ) (pa_cons (pv 1) (pa_cons (pv 2) (pa_cons pe_int pa_nil)))))) (pss_one (ps_if (pt_cmpR op_eq (pv 0) pe_int (nomark _)) (pss_one (ps_expr (pe_callS G_c_time_behind (hr.mono (by decide)) (by rfl) T.m_c_time_behind T.F_c_time_behind.kp T.b_c_time_behind (fun σ => passAt tk σ) (pa_cons (pv 1) (pa_cons pe_int (pa_cons (pv 2) pa_nil)))))) (pss_one (ps_expr (pe_callS G_c_time_before (hr.mono (by decide)) (by rfl) T.m_c_time_before T.F_c_time_before.kp T.b_c_time_before (fun σ => passAt tk σ) (pa_cons (pv 1) (pa_cons pe_int (pa_cons (pv 2) pa_nil)))))))))))
    (fun ae oe cls dx pn hz hf => (pss_cons (ps_if (PW.pt (pw_and (pt_val (pe_callB (call_isX hz hf) (by rfl) T.n_isinstance (by decide +kernel) (pa_cons (pv 3) (pa_cons (pe_glob (v := .ref a.C_InvalidTime) (by rfl) T.m_InvalidTime rfl) pa_nil)))) (pw_and1 (pt_not (pt_val (pe_callB (call_isX hz hf) (by rfl) T.n_isinstance (by decide +kernel) (pa_cons (pv 3) (pa_cons (pe_glob (v := .ref a.C_InvalidSlot) (by rfl) T.m_InvalidSlot rfl) pa_nil)))))))) (pss_one (ps_ret (pe_xf T.xf_InvalidTime T.no_InvalidTime_what hz hf (pv 3)))) pss_nil)
    (pss_one (ps_ret pe_str)))))
    (pss_one (ps_ret pe_non))), ?_⟩
    refine ⟨_, rfl, rfl, _, rfl, ?_⟩
    refine ite2 (fun c => ?_) (fun c => ?_)
    · have c' : kk = 0 := V.int.inj (of_decide_eq_true c)
      refine ⟨_, rfl, _, rfl, sp_c_first_fit_use ⟨q, rs, ps, n, 0, rfl, hq, hr0, hl, fun z => ?_, fun z1 z2 => ?_, fun z1 z2 => ?_⟩⟩
      · have e : wd = "spans" := by
          rcases hc with hc | hc
          · exact hc.2
          · rw [z] at hc; exact absurd hc.1 (by decide)
        subst e
        intro d H' s1 hd
        refine ⟨true, T.em_InvalidTime_SlotError, fun _ ae _ => ?_, fun z => nomatch z⟩
        refine ⟨_, rfl, _, _, true, d, _, rfl, rfl, T.is_InvalidTime, rfl, hd, T.kt_InvalidTime_InvalidTime, true, rfl, ?_⟩
        refine ⟨_, rfl, _, _, false, d, _, rfl, rfl, T.is_InvalidTime, rfl, hd, T.kt_InvalidTime_InvalidSlot, _, rfl, ?_⟩
        exact ⟨_, rfl, rfl, rfl, d, _, _, rfl, hd, rfl, k H' s1⟩
      · have e : wd = "length" := by
          rcases hc with hc | hc
          · rw [z1] at hc; exact absurd hc.1 (by decide)
          · exact hc.2.2
        subst e
        intro d H' s1 hd
        refine ⟨true, T.em_InvalidTime_SlotError, fun _ ae _ => ?_, fun z => nomatch z⟩
        refine ⟨_, rfl, _, _, true, d, _, rfl, rfl, T.is_InvalidTime, rfl, hd, T.kt_InvalidTime_InvalidTime, true, rfl, ?_⟩
        refine ⟨_, rfl, _, _, false, d, _, rfl, rfl, T.is_InvalidTime, rfl, hd, T.kt_InvalidTime_InvalidSlot, _, rfl, ?_⟩
        exact ⟨_, rfl, rfl, rfl, d, _, _, rfl, hd, rfl, k H' s1⟩
      · exfalso
        rcases hc with hc | hc
        · rw [z1] at hc; exact absurd hc.1 (by decide)
        · omega
    refine ⟨_, rfl, rfl, _, rfl, ?_⟩
    have c0 : ¬ kk = 0 := fun z => c (decide_eq_true (congrArg V.int z))
    refine ite2 (fun c => ?_) (fun c => ?_)
    · refine ⟨_, rfl, _, rfl, sp_c_time_behind_use ⟨q, rs, ps, 0, n, rfl, hq, hr0, hl, fun z => ?_, fun z1 z2 => ?_, fun z1 z2 => ?_⟩⟩
      · have e : wd = "spans" := by
          rcases hc with hc | hc
          · exact hc.2
          · rw [z] at hc; exact absurd hc.1 (by decide)
        subst e
        intro d H' s1 hd
        refine ⟨true, T.em_InvalidTime_SlotError, fun _ ae _ => ?_, fun z => nomatch z⟩
        refine ⟨_, rfl, _, _, true, d, _, rfl, rfl, T.is_InvalidTime, rfl, hd, T.kt_InvalidTime_InvalidTime, true, rfl, ?_⟩
        refine ⟨_, rfl, _, _, false, d, _, rfl, rfl, T.is_InvalidTime, rfl, hd, T.kt_InvalidTime_InvalidSlot, _, rfl, ?_⟩
        exact ⟨_, rfl, rfl, rfl, d, _, _, rfl, hd, rfl, k H' s1⟩
      · have e : wd = "length" := by
          rcases hc with hc | hc
          · rw [z1] at hc; exact absurd hc.1 (by decide)
          · exact hc.2.2
        subst e
        intro d H' s1 hd
        refine ⟨true, T.em_InvalidTime_SlotError, fun _ ae _ => ?_, fun z => nomatch z⟩
        refine ⟨_, rfl, _, _, true, d, _, rfl, rfl, T.is_InvalidTime, rfl, hd, T.kt_InvalidTime_InvalidTime, true, rfl, ?_⟩
        refine ⟨_, rfl, _, _, false, d, _, rfl, rfl, T.is_InvalidTime, rfl, hd, T.kt_InvalidTime_InvalidSlot, _, rfl, ?_⟩
        exact ⟨_, rfl, rfl, rfl, d, _, _, rfl, hd, rfl, k H' s1⟩
      · exfalso
        rcases hc with hc | hc
        · rw [z1] at hc; exact absurd hc.1 (by decide)
        · omega
    · refine ⟨_, rfl, _, rfl, sp_c_time_before_use ⟨q, rs, ps, 0, n, rfl, hq, hr0, hl, fun z => ?_, fun z1 z2 => ?_, fun z1 z2 => ?_⟩⟩
      · have e : wd = "spans" := by
          rcases hc with hc | hc
          · exact hc.2
          · rw [z] at hc; exact absurd hc.1 (by decide)
        subst e
        intro d H' s1 hd
        refine ⟨true, T.em_InvalidTime_SlotError, fun _ ae _ => ?_, fun z => nomatch z⟩
        refine ⟨_, rfl, _, _, true, d, _, rfl, rfl, T.is_InvalidTime, rfl, hd, T.kt_InvalidTime_InvalidTime, true, rfl, ?_⟩
        refine ⟨_, rfl, _, _, false, d, _, rfl, rfl, T.is_InvalidTime, rfl, hd, T.kt_InvalidTime_InvalidSlot, _, rfl, ?_⟩
        exact ⟨_, rfl, rfl, rfl, d, _, _, rfl, hd, rfl, k H' s1⟩
      · have e : wd = "length" := by
          rcases hc with hc | hc
          · rw [z1] at hc; exact absurd hc.1 (by decide)
          · exact hc.2.2
        subst e
        intro d H' s1 hd
        refine ⟨true, T.em_InvalidTime_SlotError, fun _ ae _ => ?_, fun z => nomatch z⟩
        refine ⟨_, rfl, _, _, true, d, _, rfl, rfl, T.is_InvalidTime, rfl, hd, T.kt_InvalidTime_InvalidTime, true, rfl, ?_⟩
        refine ⟨_, rfl, _, _, false, d, _, rfl, rfl, T.is_InvalidTime, rfl, hd, T.kt_InvalidTime_InvalidSlot, _, rfl, ?_⟩
        exact ⟨_, rfl, rfl, rfl, d, _, _, rfl, hd, rfl, k H' s1⟩
      · exfalso
        rcases hc with hc | hc
        · rw [z1] at hc; exact absurd hc.1 (by decide)
        · omega
theorem ok_c_length_of {P : Program} {w : World} {K : PySem.W.Frag} {mg : Str → Option Value} {base : Heap} {a : Ad} (T : Txt K mg a) : FnOk P w K mg base (L2.CX P w) 4 a.f_c_length_of a.d_c_length_of ["spans"] (sp_c_length_of K) := by
  have G_c_check_spans : FnOk P w K mg base (L2.CX P w) 3 a.f_c_check_spans a.d_c_check_spans ["spans"] (sp_c_check_spans K a.C_InvalidTime) := ok_c_check_spans T
  refine T.F_c_length_of.okX sc_c_length_of (fun vs H Q E h => ?_) (fun cdv A outer s H vs Q E hr h => ?_)
  · rw [sp_c_length_of_eq] at h
    walk_at "len"
  · rw [sp_c_length_of_eq] at h
    obtain ⟨q, rs, ps, rfl, hq, hr0, hl, his, k⟩ := h
    refine ⟨_, (pss_cons (ps_expr (pe_callS G_c_check_spans (hr.mono (by decide)) (by rfl) T.m_c_check_spans T.F_c_check_spans.kp T.b_c_check_spans (fun σ => passAt (takes_of rfl rfl rfl rfl) σ) (pa_cons (pv 0) pa_nil)))
    (pss_one (ps_ret (pe_callB (cr_sum rfl) (by rfl) T.n_sum (by decide +kernel) (pa_cons (pe_lcK (own := [("start", 1), ("end", 2)]) (by rfl) sc_c_length_of.nd (pi_list (pv 0)) (blkOk_by (own := [("start", 1), ("end", 2)]) (N := ["spans", "start", "end"]) (sc := defScope st_c_length_of) (by decide +kernel)) (fun _ _ _ _ _ => (pg_tup (n := 2) (by rfl) (pgs_cons (pg_name (i := 1) sc_c_length_of.nd (by rfl) (by first | exact Or.inl rfl | exact Or.inr rfl)) (pgs_cons (pg_name (i := 2) sc_c_length_of.nd (by rfl) (by first | exact Or.inl rfl | exact Or.inr rfl)) pgs_nil)))) (fun _ _ _ _ _ => pts_nil) (fun _ _ _ _ _ => (pe_op op_sub (pv 2) (pv 1))) (by walk_at "blk") (by walk_at "blk") (by walk_at "blk")) pa_nil))))), ?_⟩
    have rl := rws_len hr0
    refine ⟨_, rfl, sp_c_check_spans_use ⟨q, rs, ps, rfl, hq, hr0, hl, fun z => absurd his (by rw [z]; decide), fun _ H1 s1 => ?_⟩⟩
    refine ⟨_, rfl, q, rfl, ⟨_, s1.seq hq⟩, fun E1 hE1 => ?_⟩
    refine lc_fn (walk_list (xs := rs)) (fun i => some (.int ((ps.getD i (0, 0)).2 - (ps.getD i (0, 0)).1))) (by omega) hE1 (fun H s => s.seq (s1.seq hq)) ?_ ?_
    · rintro i v H4 H5 R N hi s4 ⟨rfl, hv⟩ hR hN
      obtain ⟨q1, z1, rfl, hz1, hq1⟩ := rws_at hr0 hv
      refine ⟨q1, _, rfl, (s1.trans s4).tup hq1, rfl, _, _, rfl, _, _, rfl, rfl, rfl, ?_⟩
      refine ⟨_, rfl, _, rfl, _, _, rfl, rfl, hR _ _ ?_ (Same.refl _)⟩
      rw [List.getD_eq_getElem?_getD, hz1]
      rfl
    intro H2 s2 hE
    rw [fm_some, rl, range_at ps (fun z => V.int (z.2 - z.1)) _ (fun i z e => by rw [List.getD_eq_getElem?_getD, e]; rfl)] at hE
    refine ⟨E1, ps.map fun z => z.2 - z.1, rfl, SqL.of (by rw [hE, List.map_map]; rfl), ?_⟩
    exact k H2 (s1.trans s2)
theorem ok_c_rest_of {P : Program} {w : World} {K : PySem.W.Frag} {mg : Str → Option Value} {base : Heap} {a : Ad} (T : Txt K mg a) : FnOk P w K mg base (L2.CX P w) 4 a.f_c_rest_of a.d_c_rest_of ["spans", "start", "end"] (sp_c_rest_of K) := by
  have G_c_InvalidTime_init : FnOk P w K mg base (L2.CX P w) 1 a.f_c_InvalidTime_init a.d_c_InvalidTime_init ["self", "what"] (sp_exinit a.C_InvalidTime) := ok_c_InvalidTime_init T
  have G_c_check_spans : FnOk P w K mg base (L2.CX P w) 3 a.f_c_check_spans a.d_c_check_spans ["spans"] (sp_c_check_spans K a.C_InvalidTime) := ok_c_check_spans T
  refine T.F_c_rest_of.okX sc_c_rest_of (fun vs H Q E h => ?_) (fun cdv A outer s H vs Q E hr h => ?_)
  · rw [sp_c_rest_of_eq] at h
    walk_at "len"
  · rw [sp_c_rest_of_eq] at h
    obtain ⟨q, rfl, hq, k⟩ := h
    refine ⟨_, (pss_cons (ps_expr (pe_callS G_c_check_spans (hr.mono (by decide)) (by rfl) T.m_c_check_spans T.F_c_check_spans.kp T.b_c_check_spans (fun σ => passAt (takes_of rfl rfl rfl rfl) σ) (pa_cons (pv 0) pa_nil)))
    (pss_cons (ps_if (pt_cmpR op_ge (pv 1) (pv 2) (nomark _)) (pss_one (ps_raise rfl (takes_of rfl rfl rfl rfl) (pmk_oex T.ox_InvalidTime T.in_InvalidTime T.ti_InvalidTime G_c_InvalidTime_init (hr.mono (by decide)) T.b_c_InvalidTime_init .nil passL (by rfl) T.m_InvalidTime (pa_cons pe_str pa_nil)))) pss_nil)
    (pss_cons (ps_set (i := 3) sc_c_rest_of.nd (by rfl) (Or.inl rfl) (pe_lst pa_nil))
    (pss_cons (ps_set (i := 4) sc_c_rest_of.nd (by rfl) (Or.inl rfl) (pv 1))
    (pss_cons (ps_for (passes_of rfl) rfl (pi_list (pv 0)) (pg_tup (n := 2) (by rfl) (pgs_cons (pg_name (i := 5) sc_c_rest_of.nd (by rfl) (Or.inl rfl)) (pgs_cons (pg_name (i := 6) sc_c_rest_of.nd (by rfl) (Or.inl rfl)) pgs_nil))) (pss_cons (ps_if (pt_cmpR op_lt (pv 4) (pe_callB (call_min2 rfl) (by rfl) T.n_min (by decide +kernel) (pa_cons (pv 5) (pa_cons (pv 2) pa_nil))) (nomark _)) (pss_one (ps_expr (pe_bm PySem.F.plainAttrs_list PySem.F.slot_list_append PySem.F.type_list_append mt_append (pv 3) (pa_cons (pe_tup (pa_cons (pv 4) (pa_cons (pe_callB (call_min2 rfl) (by rfl) T.n_min (by decide +kernel) (pa_cons (pv 5) (pa_cons (pv 2) pa_nil))) pa_nil))) pa_nil)))) pss_nil)
    (pss_one (ps_set (i := 4) sc_c_rest_of.nd (by rfl) (Or.inl rfl) (pe_callB (call_max2 rfl) (by rfl) T.n_max (by decide +kernel) (pa_cons (pv 4) (pa_cons (pv 6) pa_nil)))))))
    (pss_cons (ps_if (pt_cmpR op_lt (pv 4) (pv 2) (nomark _)) (pss_one (ps_expr (pe_bm PySem.F.plainAttrs_list PySem.F.slot_list_append PySem.F.type_list_append mt_append (pv 3) (pa_cons (pe_tup (pa_cons (pv 4) (pa_cons (pv 2) pa_nil))) pa_nil)))) pss_nil)
    (pss_one (ps_ret (pv 3))))))))), ?_⟩
    refine ⟨_, rfl, sp_c_check_spans_use ⟨q, [], [], rfl, hq, .nil, by decide, fun z => absurd z (by decide), fun _ H1 s1 => ?_⟩⟩
    refine ⟨_, rfl, _, rfl, _, _, rfl, rfl, _, rfl, ?_⟩
    refine ite2 (fun c => absurd (of_decide_eq_true c) (by decide)) (fun _ => ?_)
    refine ⟨by show 0 ≤ sizeLine; decide, fun l hl => ?_⟩
    have s2 := s1.then_new (o := .lst []) hl
    have hL : (upd H1 l (.lst []) : Hp) l = some (.lst []) := upd_same
    generalize hH2 : (upd H1 l (.lst []) : Hp) = H2 at s2 hL ⊢
    have hl0 : H l = none := s1.free hl
    refine ⟨_, rfl, ?_⟩
    refine ⟨_, rfl, q, rfl, ⟨_, s2.seq hq⟩, for_it (walk_list (K := K) (a := q) (xs := [])) (fun i σ H' => σ = [some (.ref q), some (.int 0), some (.int 5), some (.ref l), some (.int 0), none, none] ∧ H' = H2) ⟨rfl, rfl⟩ (fun i σ H' _ ⟨_, e⟩ => by rw [e]; exact s2.seq hq) (fun i x σ H H' hi => absurd hi (by simp)) ?_⟩
    rintro σ H3 ⟨rfl, rfl⟩
    refine ⟨_, rfl, _, rfl, _, _, rfl, rfl, _, rfl, ?_⟩
    refine ite2 (fun _ => ?_) (fun c => absurd (by decide) c)
    refine ⟨_, rfl, .inl ⟨rfl, _, SqL.of hL⟩, _, rfl, _, rfl, by show 2 ≤ sizeLine; decide, fun tq htq => ?_⟩
    have ntl : tq ≠ l := fun w => by rw [w, hL] at htq; cases htq
    refine ⟨l, _, _, rfl, rfl, by rw [upd_ne ntl.symm]; exact hL, by show 0 < sizeLine; decide, ?_⟩
    refine ⟨_, rfl, k _ l tq ((s2.then_new htq).mut hl0) upd_same ?_⟩
    rw [upd_ne ntl]
    exact upd_same
theorem ok_c_law {P : Program} {w : World} {K : PySem.W.Frag} {mg : Str → Option Value} {base : Heap} {a : Ad} (T : Txt K mg a) : FnOk P w K mg base (L2.CX P w) 7 a.f_c_law a.d_c_law ["script"] (sp_c_law K) := by
  have G_c_law_deck : FnOk P w K mg base (L2.CX P w) 1 a.f_c_law_deck a.d_c_law_deck ["script", "cells", "each"] (sp_c_law_deck K) := ok_c_law_deck T
  have G_c_law_plain : FnOk P w K mg base (L2.CX P w) 5 a.f_c_law_plain a.d_c_law_plain ["value"] (sp_c_law_plain K 4) := ok_c_law_plain T
  have G_c_law_spans : FnOk P w K mg base (L2.CX P w) 2 a.f_c_law_spans a.d_c_law_spans ["deck", "most", "span"] (sp_c_law_spans K) := ok_c_law_spans T
  have G_c_law_take : FnOk P w K mg base (L2.CX P w) 1 a.f_c_law_take a.d_c_law_take ["deck", "many"] (sp_c_law_take) := ok_c_law_take T
  have G_c_law_times : FnOk P w K mg base (L2.CX P w) 1 a.f_c_law_times a.d_c_law_times ["spans"] (sp_c_law_times K) := ok_c_law_times T
  have G_c_law_why : FnOk P w K mg base (L2.CX P w) 6 a.f_c_law_why a.d_c_law_why ["ask", "spans", "number"] (sp_c_law_why K) := ok_c_law_why T
  have G_c_first_fit : FnOk P w K mg base (L2.CX P w) 4 a.f_c_first_fit a.d_c_first_fit ["spans", "length", "time"] (sp_c_first_fit K a.C_InvalidTime) := ok_c_first_fit T
  have G_c_length_of : FnOk P w K mg base (L2.CX P w) 4 a.f_c_length_of a.d_c_length_of ["spans"] (sp_c_length_of K) := ok_c_length_of T
  have G_c_rest_of : FnOk P w K mg base (L2.CX P w) 4 a.f_c_rest_of a.d_c_rest_of ["spans", "start", "end"] (sp_c_rest_of K) := ok_c_rest_of T
  have G_c_time_before : FnOk P w K mg base (L2.CX P w) 5 a.f_c_time_before a.d_c_time_before ["spans", "time", "minutes"] (sp_c_time_before K a.C_InvalidTime) := ok_c_time_before T
  have G_c_time_behind : FnOk P w K mg base (L2.CX P w) 4 a.f_c_time_behind a.d_c_time_behind ["spans", "time", "minutes"] (sp_c_time_behind K a.C_InvalidTime) := ok_c_time_behind T
  refine T.F_c_law.okX sc_c_law (fun vs H Q E h => ?_) (fun cdv A outer s H vs Q E hr h => ?_)
  · walk_at "len"
  · obtain ⟨sa, ns, rfl, hS, hlen, k⟩ := h
    refine ⟨_, (pss_cons (ps_set (i := 1) sc_c_law.nd (by rfl) (Or.inl rfl) (pe_call G_c_law_deck (hr.mono (by decide)) (by rfl) T.m_c_law_deck T.F_c_law_deck.kp T.b_c_law_deck .nil passL (pa_cons (pv 0) (pa_cons pe_int (pa_cons pe_int pa_nil)))))
    (pss_cons (ps_set (i := 2) sc_c_law.nd (by rfl) (Or.inl rfl) (pe_call G_c_law_spans (hr.mono (by decide)) (by rfl) T.m_c_law_spans T.F_c_law_spans.kp T.b_c_law_spans .nil passL (pa_cons (pv 1) (pa_cons pe_int (pa_cons pe_int pa_nil)))))
    (pss_cons (ps_set (i := 3) sc_c_law.nd (by rfl) (Or.inr rfl) (pe_call G_c_law_times (hr.mono (by decide)) (by rfl) T.m_c_law_times T.F_c_law_times.kp T.b_c_law_times .nil passL (pa_cons (pv 2) pa_nil)))
    (pss_cons (ps_set (i := 4) sc_c_law.nd (by rfl) (Or.inl rfl) (pe_op op_sub (pe_call G_c_law_take (hr.mono (by decide)) (by rfl) T.m_c_law_take T.F_c_law_take.kp T.b_c_law_take .nil passL (pa_cons (pv 1) (pa_cons pe_int pa_nil))) pe_int))
    (pss_cons (ps_set (i := 5) sc_c_law.nd (by rfl) (Or.inl rfl) (pe_op op_add pe_int (pe_call G_c_law_take (hr.mono (by decide)) (by rfl) T.m_c_law_take T.F_c_law_take.kp T.b_c_law_take .nil passL (pa_cons (pv 1) (pa_cons pe_int pa_nil)))))
    (pss_cons (ps_set (i := 6) sc_c_law.nd (by rfl) (Or.inl rfl) pe_non)
    (pss_cons (ps_for (passes_of rfl) rfl (pi_range2 (by rfl) T.n_range (pa_cons (pv 4) (pa_cons pe_int pa_nil))) (pg_name (i := 7) sc_c_law.nd (by rfl) (Or.inl rfl)) (pss_one (ps_if (PW.pt (pw_and (pt_cmpR op_isN (pv 6) pe_non (nomark _)) (pw_and1 (pt_cmpR op_eq (pe_callB call_len_seq (by rfl) T.n_len (by decide +kernel) (pa_cons (pe_lcK (own := [("at", 8)]) (by rfl) sc_c_law.nd (pi_range2 (by rfl) T.n_range (pa_cons (pv 7) (pa_cons (pe_op op_add (pv 7) (pv 5)) pa_nil))) (blkOk_by (own := [("at", 8)]) (N := ["script", "deck", "spans", "times", "time", "length", "due", "start", "at", "handed", "minutes", "later", "count", "early", "back", "bad", "ask"]) (sc := defScope st_c_law) (by decide +kernel)) (fun _ _ _ _ _ => (pg_name (i := 8) sc_c_law.nd (by rfl) (by first | exact Or.inl rfl | exact Or.inr rfl))) (fun _ _ _ _ _ => (pts_one (pt_cmp (pc_din (hu_of hr) (pv 8) (pv 3))))) (fun _ _ _ _ _ => pe_int) (by walk_at "blk") (by walk_at "blk") (by walk_at "blk")) pa_nil)) (pv 5) (nomark _))))) (pss_one (ps_set (i := 6) sc_c_law.nd (by rfl) (Or.inl rfl) (pv 7))) pss_nil)))
    (pss_cons (ps_set (i := 9) sc_c_law.nd (by rfl) (Or.inl rfl) (pe_callTy call_list_of (by rfl) T.n_list (by decide +kernel) (pa_cons (pv 2) pa_nil)))
    (Evl.pss_cut (ps_if (PW.pt (pw_or (pt_cmpR (op_neD hr.units) (pe_call G_c_law_plain (hr.mono (by decide)) (by rfl) T.m_c_law_plain T.F_c_law_plain.kp T.b_c_law_plain .nil passL (pa_cons (pe_call G_c_first_fit (hr.mono (by decide)) (by rfl) T.m_c_first_fit T.F_c_first_fit.kp T.b_c_first_fit .nil passL (pa_cons (pv 9) (pa_cons (pv 5) (pa_cons (pv 4) pa_nil)))) pa_nil)) (pe_call G_c_law_plain (hr.mono (by decide)) (by rfl) T.m_c_law_plain T.F_c_law_plain.kp T.b_c_law_plain .nil passL (pa_cons (pv 6) pa_nil)) (nomark _)) (pw_or1 (pt_cmpR (op_neD hr.units) (pv 9) (pv 2) (nomark _))))) (pss_one (ps_ret pe_bl)) pss_nil)
    (pss_cons (ps_set (i := 10) sc_c_law.nd (by rfl) (Or.inl rfl) (pe_call G_c_law_take (hr.mono (by decide)) (by rfl) T.m_c_law_take T.F_c_law_take.kp T.b_c_law_take .nil passL (pa_cons (pv 1) (pa_cons pe_int pa_nil))))
    (pss_cons (ps_set (i := 11) sc_c_law.nd (by rfl) (Or.inl rfl) pe_non)
    (pss_cons (ps_set (i := 12) sc_c_law.nd (by rfl) (Or.inl rfl) pe_int)
    (pss_cons (ps_for (passes_of rfl) rfl (pi_range2 (by rfl) T.n_range (pa_cons (pv 4) (pa_cons pe_int pa_nil))) (pg_name (i := 8) sc_c_law.nd (by rfl) (Or.inl rfl)) (Evl.pss_cut (ps_if (PW.pt (pw_and (pt_cmpR op_isN (pv 11) pe_non (nomark _)) (pw_and1 (pt_cmpR op_eq (pv 12) (pv 10) (nomark _))))) (pss_one (ps_set (i := 11) sc_c_law.nd (by rfl) (Or.inl rfl) (pv 8))) pss_nil)
    (pss_one (ps_set (i := 12) sc_c_law.nd (by rfl) (Or.inl rfl) (pe_op op_add (pv 12) (pe_callTy call_int1 (by rfl) T.n_int (by decide +kernel) (pa_cons (pe_cmp (pc_din (hu_of hr) (pv 8) (pv 3)) rfl) pa_nil)))))))
    (pss_cons (ps_set (i := 13) sc_c_law.nd (by rfl) (Or.inl rfl) pe_non)
    (pss_cons (ps_set (i := 12) sc_c_law.nd (by rfl) (Or.inl rfl) pe_int)
    (pss_cons (ps_for (passes_of rfl) rfl (pi_range3 (by rfl) T.n_range (pa_cons (pv 4) (pa_cons (pe_un un_neg pe_int) (pa_cons (pe_un un_neg pe_int) pa_nil)))) (pg_name (i := 8) sc_c_law.nd (by rfl) (Or.inl rfl)) (Evl.pss_cut (ps_if (PW.pt (pw_and (pt_cmpR op_isN (pv 13) pe_non (nomark _)) (pw_and1 (pt_cmpR op_eq (pv 12) (pv 10) (nomark _))))) (pss_one (ps_set (i := 13) sc_c_law.nd (by rfl) (Or.inl rfl) (pv 8))) pss_nil)
    (pss_one (ps_set (i := 12) sc_c_law.nd (by rfl) (Or.inl rfl) (pe_op op_add (pv 12) (pe_callTy call_int1 (by rfl) T.n_int (by decide +kernel) (pa_cons (pe_cmp (pc_din (hu_of hr) (pe_op op_sub (pv 8) pe_int) (pv 3)) rfl) pa_nil)))))))
    (Evl.pss_cut (ps_if (pt_cmpR (op_neD hr.units) (pe_call G_c_law_plain (hr.mono (by decide)) (by rfl) T.m_c_law_plain T.F_c_law_plain.kp T.b_c_law_plain .nil passL (pa_cons (pe_lst (pa_cons (pe_call G_c_time_behind (hr.mono (by decide)) (by rfl) T.m_c_time_behind T.F_c_time_behind.kp T.b_c_time_behind .nil passL (pa_cons (pv 2) (pa_cons (pv 4) (pa_cons (pv 10) pa_nil)))) (pa_cons (pe_call G_c_time_before (hr.mono (by decide)) (by rfl) T.m_c_time_before T.F_c_time_before.kp T.b_c_time_before .nil passL (pa_cons (pv 2) (pa_cons (pv 4) (pa_cons (pv 10) pa_nil)))) pa_nil))) pa_nil)) (pe_call G_c_law_plain (hr.mono (by decide)) (by rfl) T.m_c_law_plain T.F_c_law_plain.kp T.b_c_law_plain .nil passL (pa_cons (pe_lst (pa_cons (pv 11) (pa_cons (pv 13) pa_nil))) pa_nil)) (nomark _)) (pss_one (ps_ret pe_bl)) pss_nil)
    (Evl.pss_cut (ps_if (PW.pt (pw_and (pt_cmpR op_eq (pv 10) pe_int (nomark _)) (pw_and1 (PW.pt (pw_or (pt_cmpR (op_neD hr.units) (pv 11) (pv 4) (nomark _)) (pw_or1 (pt_cmpR (op_neD hr.units) (pv 13) (pv 4) (nomark _)))))))) (pss_one (ps_ret pe_bl)) pss_nil)
    (Evl.pss_cut (ps_if (PW.pt (pw_and (pt_cmpR op_notN (pv 11) pe_non (nomark _)) (pw_and (pt_cmp (pc_din (hu_of hr) (pv 4) (pv 3))) (pw_and1 (pt_cmpR op_gt (pv 10) pe_int (nomark _)))))) (pss_cons (ps_set (i := 14) sc_c_law.nd (by rfl) (Or.inl rfl) (pe_call G_c_time_before (hr.mono (by decide)) (by rfl) T.m_c_time_before T.F_c_time_before.kp T.b_c_time_before .nil passL (pa_cons (pv 2) (pa_cons (pv 11) (pa_cons (pv 10) pa_nil)))))
    (pss_one (ps_if (PW.pt (pw_or (pt_cmpR (op_neD hr.units) (pe_call G_c_law_plain (hr.mono (by decide)) (by rfl) T.m_c_law_plain T.F_c_law_plain.kp T.b_c_law_plain .nil passL (pa_cons (pv 14) pa_nil)) (pe_call G_c_law_plain (hr.mono (by decide)) (by rfl) T.m_c_law_plain T.F_c_law_plain.kp T.b_c_law_plain .nil passL (pa_cons (pv 4) pa_nil)) (nomark _)) (pw_or1 (pt_cmpR op_lt (pe_call G_c_length_of (hr.mono (by decide)) (by rfl) T.m_c_length_of T.F_c_length_of.kp T.b_c_length_of .nil passL (pa_cons (pv 2) pa_nil)) (pv 10) (nomark _))))) (pss_one (ps_ret pe_bl)) pss_nil))) pss_nil)
    (Evl.pss_cut (ps_if (pt_cmpR (op_neD hr.units) (pe_call G_c_law_plain (hr.mono (by decide)) (by rfl) T.m_c_law_plain T.F_c_law_plain.kp T.b_c_law_plain .nil passL (pa_cons (pe_call G_c_time_behind (hr.mono (by decide)) (by rfl) T.m_c_time_behind T.F_c_time_behind.kp T.b_c_time_behind .nil passL (pa_cons (pe_lst pa_nil) (pa_cons (pv 4) (pa_cons (pv 10) pa_nil)))) pa_nil)) (pe_call G_c_law_plain (hr.mono (by decide)) (by rfl) T.m_c_law_plain T.F_c_law_plain.kp T.b_c_law_plain .nil passL (pa_cons (pe_ifExp (pt_cmpR op_eq (pv 10) pe_int (nomark _)) (pv 4) pe_non) pa_nil)) (nomark _)) (pss_one (ps_ret pe_bl)) pss_nil)
    (pss_cons (ps_set (i := 15) sc_c_law.nd (by rfl) (Or.inl rfl) (pe_ix ix_list (pe_lst (pa_cons (pe_lst (pa_cons (pe_tup (pa_cons pe_int (pa_cons pe_int pa_nil))) pa_nil)) (pa_cons (pe_lst (pa_cons (pe_tup (pa_cons pe_int (pa_cons pe_int pa_nil))) (pa_cons (pe_tup (pa_cons pe_int (pa_cons pe_int pa_nil))) pa_nil))) (pa_cons (pe_lst (pa_cons (pe_tup (pa_cons pe_int (pa_cons pe_int pa_nil))) (pa_cons (pe_tup (pa_cons pe_int (pa_cons pe_int pa_nil))) pa_nil))) pa_nil)))) (pe_call G_c_law_take (hr.mono (by decide)) (by rfl) T.m_c_law_take T.F_c_law_take.kp T.b_c_law_take .nil passL (pa_cons (pv 1) (pa_cons pe_int pa_nil))) (fun _ _ => rfl)))
    (pss_cons (ps_set (i := 16) sc_c_law.nd (by rfl) (Or.inl rfl) (pe_call G_c_law_take (hr.mono (by decide)) (by rfl) T.m_c_law_take T.F_c_law_take.kp T.b_c_law_take .nil passL (pa_cons (pv 1) (pa_cons pe_int pa_nil))))
    (Evl.pss_cut (ps_if (PW.pt (pw_or (pt_cmpR op_ne (pe_call G_c_law_why (hr.mono (by decide)) (by rfl) T.m_c_law_why T.F_c_law_why.kp T.b_c_law_why .nil passL (pa_cons (pv 16) (pa_cons (pv 15) (pa_cons (pe_un un_neg pe_int) pa_nil)))) pe_str (nomark _)) (pw_or1 (pt_cmpR op_ne (pe_call G_c_law_why (hr.mono (by decide)) (by rfl) T.m_c_law_why T.F_c_law_why.kp T.b_c_law_why .nil passL (pa_cons (pv 16) (pa_cons (pv 2) (pa_cons (pe_op op_sub (pe_un un_neg pe_int) (pe_call G_c_law_take (hr.mono (by decide)) (by rfl) T.m_c_law_take T.F_c_law_take.kp T.b_c_law_take .nil passL (pa_cons (pv 1) (pa_cons pe_int pa_nil)))) pa_nil)))) pe_str (nomark _))))) (pss_one (ps_ret pe_bl)) pss_nil)
    (pss_one (ps_ret (pe_and (pe_cmpR op_eq (pe_call G_c_law_why (hr.mono (by decide)) (by rfl) T.m_c_law_why T.F_c_law_why.kp T.b_c_law_why .nil passL (pa_cons pe_int (pa_cons (pv 2) (pa_cons pe_int pa_nil)))) pe_str (nomark _)) (pe_one (pe_cmpR (op_eqD hr.units) (pe_call G_c_rest_of (hr.mono (by decide)) (by rfl) T.m_c_rest_of T.F_c_rest_of.kp T.b_c_rest_of .nil passL (pa_cons (pe_lst pa_nil) (pa_cons pe_int (pa_cons pe_int pa_nil)))) (pe_lst (pa_cons (pe_tup (pa_cons pe_int (pa_cons pe_int pa_nil))) pa_nil)) (nomark _))))))))))))))))))))))))))))), ?_⟩
    refine ⟨_, rfl, sa, ns, 30, 14, rfl, hS, by omega, by decide, by decide, by decide, by decide, fun D0 p H0 hp s0 hd0 => ?_⟩
    have K0 : Dk (fun _ => none) H0 p D0 := ⟨rfl, same_none, hd0⟩
    refine ⟨_, rfl, sp_c_law_spans_use ⟨p, D0, rfl, hd0, fun H2 D2 l rs ps sb h2 hl0 hl hR hn hok hz => ?_⟩⟩
    have nlp : l ≠ p := fun w => by rw [w, hd0] at hl0; cases hl0
    have hR' : Rws K H2 rs ps := dpAll_same (fun c o e => (del_of e).1) _ _ hR
    have his := ok_isS hok
    have rl := rws_len hR
    refine ⟨_, rfl, sp_c_law_times_use ⟨l, rs, ps, rfl, SqL.of hl, hR', hn, hz, fun H3 dt s3 hdt hT => ?_⟩⟩
    have ntp : dt ≠ p := fun w => by rw [w, h2] at hdt; cases hdt
    have h3 := s3 _ _ h2
    -- what stays: the spans and the times
    obtain ⟨kvs, hK, hkv⟩ := hT
    have hlG : del H3 p l = some (.lst rs) := del_some (s3 _ _ hl) nlp
    have hRG : Rws K (del H3 p) rs ps := dpAll_same (fun b o e => by
      obtain ⟨e1, e2⟩ := del_of e
      exact del_some (s3 _ _ e1) e2) _ _ hR
    have hKG : del H3 p dt = some (.dK kvs) := del_some hK ntp
    have K3 : Dk (del H3 p) H3 p D2 := ⟨del_same, fun b o e => (del_of e).1, h3⟩
    generalize (del H3 p : Hp) = G at hlG hRG hKG K3
    have tin_at : ∀ (H : Hp) (n : Int), Same G H → DGet H dt (.int n) (valV kvs (.inl n)) := fun H n s => DGet.k (k := .inl n) (s _ _ hKG)
    refine ⟨_, rfl, take_q K3 (by decide) fun a4 H4 a40 a41 K4 => ?_⟩
    refine ⟨_, _, rfl, rfl, ?_⟩
    obtain ⟨tm, htm⟩ : ∃ w : Int, w = a4 - 30 := ⟨_, rfl⟩
    have etm : (fun i j : Int => V.int (i - j)) a4 30 = V.int tm := by rw [htm]
    rw [etm]
    refine ⟨_, rfl, take_q K4 (by decide) fun a5 H5 a50 a51 K5 => ?_⟩
    refine ⟨_, _, rfl, rfl, ?_⟩
    obtain ⟨ln, hln⟩ : ∃ w : Int, w = 1 + a5 := ⟨_, rfl⟩
    have eln : (fun i j : Int => V.int (i + j)) 1 a5 = V.int ln := by rw [hln]
    rw [eln]
    generalize D2.tail.tail = D5 at K5
    let P1 : Int → Bool := fun x => decide (S (ind ps) x (x + ln) = ln)
    refine ⟨_, rfl, _, _, rfl, ⟨by omega, by omega, by omega, by omega⟩, for_range (lo := tm) (n := (140 - tm).toNat) (fun i σ H' => ∃ v7 v8 : Option V, σ = [some (.ref sa), some (.ref p), some (.ref l), some (.ref dt), some (.int tm), some (.int ln), some (oV (findL P1 tm i)), v7, v8, none, none, none, none, none, none, none, none] ∧ Dk G H' p D5) ?_ ?_ ?_⟩
    · exact ⟨none, none, rfl, K5⟩
    · rintro i σ H6 hi ⟨v7, v8, rfl, K6⟩
      have e1 : findL P1 tm (i + 1) = match findL P1 tm i with | some x => some x | none => if P1 (tm + i) = true then some (tm + i) else none := rfl
      cases ef : findL P1 tm i with
      | some x =>
        rw [ef] at e1
        refine ⟨_, rfl, rfl, _, rfl, ?_⟩
        refine ite2 (fun c => absurd (of_decide_eq_true c) (by simp [oV])) (fun _ => ?_)
        exact ⟨_, _, by rw [e1]; rfl, K6⟩
      | none =>
        rw [ef] at e1
        refine ⟨_, rfl, rfl, _, rfl, ?_⟩
        refine iteT ?_
        refine ⟨_, rfl, _, rfl, _, rfl, _, _, rfl, rfl, _, _, rfl, ⟨by omega, by omega, by omega, by omega⟩, fun E1 hE1 => ?_⟩
        refine lc_fn (walk_range (lo := tm + i) (n := (tm + i + ln - (tm + i)).toNat)) (fun (j : Nat) => if tin ps (tm + i + j) = true then some (V.int 1) else none) (by omega) hE1 (fun _ _ => trivial) ?_ ?_
        · rintro j x H7 H8 R Nx hj s7 ⟨rfl, hx⟩ hRR hNx
          have hx2 : x = V.int (tm + i + j) := hx
          subst hx2
          refine ⟨rfl, ?_⟩
          refine ⟨_, rfl, _, rfl, dt, _, rfl, tin_at _ _ (K6.sm.trans s7), ?_⟩
          rw [hkv]
          refine ⟨_, rfl, ?_⟩
          refine ite2 (fun c => ?_) (fun c => ?_)
          · exact hRR _ _ (by rw [if_pos c]) (Same.refl _)
          · exact hNx _ (by rw [if_neg c]) (Same.refl _)
        intro H7 s7 hE
        have K7 := K6.same s7
        have cl := cntL ps (tm + i) (tm + i + ln - (tm + i)).toNat
        rw [show tm + i + ((tm + i + ln - (tm + i)).toNat : Int) = tm + i + ln by omega] at cl
        refine ⟨E1, _, rfl, .inl (SqL.of hE), _, rfl, rfl, _, rfl, ?_⟩
        refine ite2 (fun c => ?_) (fun c => ?_)
        · have c' := V.int.inj (of_decide_eq_true c)
          have hp : P1 (tm + i) = true := decide_eq_true (by rw [← cl]; exact c')
          rw [if_pos hp] at e1
          exact ⟨_, rfl, _, _, by rw [e1]; rfl, K7⟩
        · have hp : ¬ P1 (tm + i) = true := fun w => c (decide_eq_true (congrArg V.int (cl.trans (of_decide_eq_true w))))
          rw [if_neg hp] at e1
          exact ⟨_, _, by rw [e1]; rfl, K7⟩
    rintro σ H6 ⟨v7, v8, rfl, K6⟩
    rw [law_fit (len := ln) hok (by omega) (fun z hz' => by have := hz z hz'; omega) P1 (fun x => by simp [P1])]
    -- handed
    refine ⟨_, rfl, l, _, rfl, .inl (SqL.of (K6.sm _ _ hlG)), fun lh hlh => ?_⟩
    have K7 := K6.new (o := .lst rs) hlh
    have sG := Same.new (o := .lst rs) (K6.fresh hlh)
    have hHG : (upd G lh (.lst rs) : Hp) lh = some (.lst rs) := upd_same
    have hlG := sG _ _ hlG
    have hRG : Rws K (upd G lh (.lst rs)) rs ps := dpAll_same sG _ _ hRG
    have hKG := sG _ _ hKG
    generalize (upd G lh (.lst rs) : Hp) = G2 at K7 hHG hlG hRG hKG
    have tin_at : ∀ (H : Hp) (n : Int), Same G2 H → DGet H dt (.int n) (valV kvs (.inl n)) := fun H n s => DGet.k (k := .inl n) (s _ _ hKG)
    refine ⟨fun σ H' => σ = [some (.ref sa), some (.ref p), some (.ref l), some (.ref dt), some (.int tm), some (.int ln), some (oV (ffit ln tm ps)), v7, v8, some (.ref lh), none, none, none, none, none, none, none] ∧ Dk G2 H' p D5, ?_, ?_⟩
    · refine ⟨_, rfl, _, rfl, _, rfl, ?_⟩
      refine sp_c_first_fit_use ⟨lh, rs, ps, ln, tm, rfl, SqL.of (K7.sm _ _ hHG), dpAll_same K7.sm _ _ hRG, by omega, fun z => absurd his (by rw [z]; decide), fun _ z => absurd z (by omega), fun _ _ H8 s8 => ?_⟩
      refine ⟨oV _, oD _, rfl, dp_o _, ok_o 4 _, fun v9 H9 s9 dn9 => ?_⟩
      refine ⟨_, rfl, oV _, oD _, rfl, dp_o _, ok_o 4 _, fun v10 H10 s10 dn10 => ?_⟩
      refine plain_test 4 dn9 s10 dn10 (ok_o 4 _) (by decide) ?_
      have K10 := ((K7.same s8).same s9).same s10
      refine ite2 (fun z => nomatch z) (fun _ => ?_)
      refine ⟨_, rfl, _, rfl, ?_⟩
      have okx : okDx 3 (.list (ps.map pd)) = true := okD_x 3 _ (okD_rows (by omega))
      refine data_same (d := .list (ps.map pd)) (n := 3) (.lst (SqL.of (K10.sm _ _ hHG)) (dpAll_same K10.sm _ _ hRG)) (.lst (SqL.of (K10.sm _ _ hlG)) (dpAll_same K10.sm _ _ hRG)) okx (by decide) ?_
      exact ⟨_, rfl, rfl, K10⟩
    rintro σ H11 ⟨rfl, K11⟩
    refine ⟨_, rfl, take_q K11 (by decide) fun mi H12 mi0 mi1 K12 => ?_⟩
    let P2 : Int → Bool := fun x => decide (S (ind ps) tm x = mi)
    refine ⟨_, rfl, _, _, rfl, ⟨by omega, by omega, by omega, by omega⟩, for_range (lo := tm) (n := (200 - tm).toNat) (fun i σ H' => ∃ v8 : Option V, σ = [some (.ref sa), some (.ref p), some (.ref l), some (.ref dt), some (.int tm), some (.int ln), some (oV (ffit ln tm ps)), v7,  v8, some (.ref lh), some (.int mi), some (oV (findL P2 tm i)), some (.int (S (ind ps) tm (tm + i))), none, none, none, none] ∧ Dk G2 H' p D5.tail) ?_ ?_ ?_⟩
    · refine ⟨v8, ?_, K12⟩
      rw [show tm + ((0 : Nat) : Int) = tm by omega, S_self]
      rfl
    · rintro i σ H13 hi ⟨v8, rfl, K13⟩
      have e1 : findL P2 tm (i + 1) = match findL P2 tm i with | some x => some x | none => if P2 (tm + i) = true then some (tm + i) else none := rfl
      refine ⟨fun σ H' => σ = [some (.ref sa), some (.ref p), some (.ref l), some (.ref dt), some (.int tm), some (.int ln), some (oV (ffit ln tm ps)), v7,  some (.int (tm + i)), some (.ref lh), some (.int mi), some (oV (findL P2 tm (i + 1))), some (.int (S (ind ps) tm (tm + i))), none, none, none, none] ∧ Dk G2 H' p D5.tail, ?_, ?_⟩
      · cases ef : findL P2 tm i with
        | some x =>
          rw [ef] at e1
          refine ⟨_, rfl, rfl, _, rfl, ?_⟩
          refine ite2 (fun c => absurd (of_decide_eq_true c) (by simp [oV])) (fun _ => ?_)
          exact ⟨by rw [e1]; rfl, K13⟩
        | none =>
          rw [ef] at e1
          refine ⟨_, rfl, rfl, _, rfl, ?_⟩
          refine iteT ?_
          refine ⟨_, rfl, _, rfl, rfl, _, rfl, ?_⟩
          refine ite2 (fun c => ?_) (fun c => ?_)
          · have hp : P2 (tm + i) = true := decide_eq_true (V.int.inj (of_decide_eq_true c))
            rw [if_pos hp] at e1
            exact ⟨_, rfl, by rw [e1]; rfl, K13⟩
          · have hp : ¬ P2 (tm + i) = true := fun w => c (decide_eq_true (congrArg V.int (of_decide_eq_true w)))
            rw [if_neg hp] at e1
            exact ⟨by rw [e1]; rfl, K13⟩
      rintro σ H14 ⟨rfl, K14⟩
      refine ⟨_, rfl, _, rfl, _, rfl, dt, _, rfl, tin_at _ _ K14.sm, ?_⟩
      rw [hkv]
      refine .inr ⟨_, rfl, _, _, rfl, rfl, ?_⟩
      have e2 : S (ind ps) tm (tm + ((i + 1 : Nat) : Int)) = S (ind ps) tm (tm + i) + ind ps (tm + i) := by
        rw [show tm + ((i + 1 : Nat) : Int) = tm + i + 1 by omega]
        exact S_succ _ (by omega)
      rw [e2]
      exact ⟨_, rfl, K14⟩
    rintro σ H15 ⟨v8, rfl, K15⟩
    rw [law_behind (ps := ps) hok mi0 (fun z hz' => by have := hz z hz'; omega) (by omega) P2 (fun x => by simp [P2])]
    generalize S (ind ps) tm (tm + ((200 - tm).toNat : Int)) = cx
    let P3 : Int → Bool := fun x => decide (S (ind (turn ps)) (-tm) x = mi)
    have okT := turn_ok hok
    refine ⟨_, rfl, _, rfl, _, rfl, tm, -100, -1, (tm - -100).toNat, rfl, RgC.neg (by omega) (by omega) (by decide) (by decide), for_it (walk_rangeC (lo := tm) (c := -1) (n := (tm - -100).toNat)) (fun i σ H' => ∃ v8 : Option V, σ = [some (.ref sa), some (.ref p), some (.ref l), some (.ref dt), some (.int tm), some (.int ln), some (oV (ffit ln tm ps)), v7,  v8, some (.ref lh), some (.int mi), some (oV (tb ps tm mi)), some (.int (S (ind (turn ps)) (-tm) (-tm + i))), some (oV ((findL P3 (-tm) i).map fun y => -y)), none, none, none] ∧ Dk G2 H' p D5.tail) ?_ (fun _ _ _ _ _ => trivial) ?_ ?_⟩
    · refine ⟨v8, ?_, K15⟩
      rw [show -tm + ((0 : Nat) : Int) = -tm by omega, S_self]
      rfl
    · rintro i x σ H16 H17 hi ⟨v8, rfl, K16⟩ ⟨rfl, hx⟩
      have hx2 : x = V.int (tm + (i : Nat) * -1) := hx
      subst hx2
      have e1 : findL P3 (-tm) (i + 1) = match findL P3 (-tm) i with | some x => some x | none => if P3 (-tm + i) = true then some (-tm + i) else none := rfl
      refine ⟨fun σ H' => σ = [some (.ref sa), some (.ref p), some (.ref l), some (.ref dt), some (.int tm), some (.int ln), some (oV (ffit ln tm ps)), v7,  some (.int (tm + (i : Nat) * -1)), some (.ref lh), some (.int mi), some (oV (tb ps tm mi)), some (.int (S (ind (turn ps)) (-tm) (-tm + i))), some (oV ((findL P3 (-tm) (i + 1)).map fun y => -y)), none, none, none] ∧ Dk G2 H' p D5.tail, ?_, ?_⟩
      · cases ef : findL P3 (-tm) i with
        | some x =>
          rw [ef] at e1
          refine ⟨_, rfl, rfl, _, rfl, ?_⟩
          refine ite2 (fun c => absurd (of_decide_eq_true c) (by simp [oV])) (fun _ => ?_)
          exact ⟨by rw [e1]; rfl, K16⟩
        | none =>
          rw [ef] at e1
          refine ⟨_, rfl, rfl, _, rfl, ?_⟩
          refine iteT ?_
          refine ⟨_, rfl, _, rfl, rfl, _, rfl, ?_⟩
          refine ite2 (fun c => ?_) (fun c => ?_)
          · have hp : P3 (-tm + i) = true := decide_eq_true (V.int.inj (of_decide_eq_true c))
            rw [if_pos hp] at e1
            refine ⟨_, rfl, ?_, K16⟩
            rw [e1]
            show _ = [some (.ref sa), some (.ref p), some (.ref l), some (.ref dt), some (.int tm), some (.int ln), some (oV (ffit ln tm ps)), v7,  some (.int (tm + (i : Nat) * -1)), some (.ref lh), some (.int mi), some (oV (tb ps tm mi)), some (.int (S (ind (turn ps)) (-tm) (-tm + i))), some (V.int (-(-tm + (i : Int)))), none, none, none]
            rw [show -(-tm + (i : Int)) = tm + (i : Nat) * -1 by omega]
            rfl
          · have hp : ¬ P3 (-tm + i) = true := fun w => c (decide_eq_true (congrArg V.int (of_decide_eq_true w)))
            rw [if_neg hp] at e1
            exact ⟨by rw [e1]; rfl, K16⟩
      rintro σ H18 ⟨rfl, K18⟩
      refine ⟨_, rfl, _, rfl, _, _, rfl, rfl, _, rfl, dt, _, rfl, tin_at _ _ K18.sm, ?_⟩
      rw [hkv]
      have et : tin ps (tm + (i : Nat) * -1 - 1) = tin (turn ps) (-tm + i) := by rw [turn_tin, show -(-tm + (i : Int)) - 1 = tm + (i : Nat) * -1 - 1 by omega]
      rw [et]
      refine .inr ⟨_, rfl, _, _, rfl, rfl, ?_⟩
      have e2 : S (ind (turn ps)) (-tm) (-tm + ((i + 1 : Nat) : Int)) = S (ind (turn ps)) (-tm) (-tm + i) + ind (turn ps) (-tm + i) := by
        rw [show -tm + ((i + 1 : Nat) : Int) = -tm + i + 1 by omega]
        exact S_succ _ (by omega)
      rw [e2]
      exact ⟨_, rfl, K18⟩
    rintro σ H20 ⟨v8, rfl, K20⟩
    have hbT : ∀ z ∈ turn ps, z.2 < -tm + ((tm - -100).toNat : Int) := fun z hz' => by
      unfold turn at hz'
      obtain ⟨w, hw, rfl⟩ := List.mem_map.mp hz'
      have := hz w (List.mem_reverse.mp hw)
      show -w.1 < _
      omega
    rw [law_behind (ps := turn ps) okT mi0 hbT (by omega) P3 (fun x => by simp [P3])]
    generalize S (ind (turn ps)) (-tm) (-tm + ((tm - -100).toNat : Int)) = cy
    have okL : ∀ x y : Option Int, okD 4 (.list [oD x, oD y]) = true := fun x y => by
      have h1 := ok_o 3 x
      have h2 := ok_o 3 y
      simp [okD, okDs, h1, h2]
    obtain ⟨later, hlater⟩ : ∃ o : Option Int, o = tb ps tm mi := ⟨_, rfl⟩
    obtain ⟨early, hearly⟩ : ∃ o : Option Int, o = (tb (turn ps) (-tm) mi).map fun y => -y := ⟨_, rfl⟩
    have tbe : ∀ (H : Hp) (Q : VK) (u v : Int), Same G2 H → 0 ≤ v → (∀ H', Same H H' → Q (oV (tb ps u v)) H') → sp_c_time_behind K a.C_InvalidTime [.ref l, .int u, .int v] H Q E0 := fun H Q u v s h0 h1 =>
      sp_c_time_behind_use ⟨l, rs, ps, u, v, rfl, SqL.of (s _ _ hlG), dpAll_same s _ _ hRG, by omega, fun z => absurd his (by rw [z]; decide), fun _ z => absurd z (by omega), fun _ _ => h1⟩
    have tbf : ∀ (H : Hp) (Q : VK) (u v : Int), Same G2 H → 0 ≤ v → (∀ H', Same H H' → Q (oV ((tb (turn ps) (-u) v).map fun y => -y)) H') → sp_c_time_before K a.C_InvalidTime [.ref l, .int u, .int v] H Q E0 := fun H Q u v s h0 h1 =>
      sp_c_time_before_use ⟨l, rs, ps, u, v, rfl, SqL.of (s _ _ hlG), dpAll_same s _ _ hRG, by omega, fun z => absurd his (by rw [z]; decide), fun _ z => absurd z (by omega), fun _ _ => h1⟩
    rw [← hlater, ← hearly]
    refine ⟨fun σ H' => σ = [some (.ref sa), some (.ref p), some (.ref l), some (.ref dt), some (.int tm), some (.int ln), some (oV (ffit ln tm ps)), v7, v8, some (.ref lh), some (.int mi), some (oV later), some (.int cy), some (oV early),  none, none, none] ∧ Dk G2 H' p D5.tail, ?_, ?_⟩
    · refine ⟨_, rfl, _, rfl, _, rfl, tbe _ _ tm mi K20.sm mi0 fun H21 s21 => ?_⟩
      have K21 := K20.same s21
      refine ⟨_, rfl, _, rfl, _, rfl, tbf _ _ tm mi K21.sm mi0 fun H22 s22 => ?_⟩
      have K22 := K21.same s22
      rw [← hlater, ← hearly]
      refine ⟨by show 2 ≤ sizeLine; decide, fun l1 hl1 => ?_⟩
      refine ⟨.ref l1, .list [oD later, oD early], rfl, .lst (SqL.of upd_same) (.cons (dp_o _) (.cons (dp_o _) .nil)), okL _ _, fun v23 H23 s23 dn23 => ?_⟩
      have K23 := (K22.same (Same.new (o := .lst [oV later, oV early]) hl1)).same s23
      refine ⟨_, rfl, _, rfl, by show 2 ≤ sizeLine; decide, fun l2 hl2 => ?_⟩
      have s24 := Same.new (o := .lst [oV later, oV early]) hl2
      refine ⟨.ref l2, .list [oD later, oD early], rfl, .lst (SqL.of upd_same) (.cons (dp_o _) (.cons (dp_o _) .nil)), okL _ _, fun v25 H25 s25 dn25 => ?_⟩
      exact plain_test 4 dn23 (s24.trans s25) dn25 (okL _ _) (by decide) ⟨rfl, (K23.same s24).same s25⟩
    rintro σ H26 ⟨rfl, K26⟩
    have shI : ∀ z : Int, okDx 1 (.int z) = true := fun z => by simp [okDx]
    refine ⟨fun σ H' => σ = [some (.ref sa), some (.ref p), some (.ref l), some (.ref dt), some (.int tm), some (.int ln), some (oV (ffit ln tm ps)), v7, v8, some (.ref lh), some (.int mi), some (oV later), some (.int cy), some (oV early),  none, none, none] ∧ Dk G2 H' p D5.tail, ?_, ?_⟩
    · refine ⟨_, rfl, rfl, _, rfl, ?_⟩
      refine ite2 (fun c => ?_) (fun c => ?_)
      rotate_left
      · exact ⟨rfl, K26⟩
      have c' : mi = 0 := V.int.inj (of_decide_eq_true c)
      have el : oV later = V.int tm := by rw [hlater, c']; rfl
      have ee : oV early = V.int tm := by
        rw [hearly, c']
        show V.int (- -tm) = _
        rw [Int.neg_neg]
      refine ⟨_, rfl, _, rfl, ?_⟩
      rw [el]
      refine data_same (.int tm) (.int tm) (shI tm) (by decide) ?_
      refine ⟨_, rfl, ?_⟩
      refine ite2 (fun z => nomatch z) (fun _ => ?_)
      refine ⟨_, rfl, _, rfl, ?_⟩
      rw [ee]
      refine data_same (.int tm) (.int tm) (shI tm) (by decide) ?_
      exact ⟨_, rfl, rfl, K26⟩
    rintro σ H27 ⟨rfl, K27⟩
    refine ⟨fun σ H' => ∃ v14 : Option V, σ = [some (.ref sa), some (.ref p), some (.ref l), some (.ref dt), some (.int tm), some (.int ln), some (oV (ffit ln tm ps)), v7, v8, some (.ref lh), some (.int mi), some (oV later), some (.int cy), some (oV early),  v14, none, none] ∧ Dk G2 H' p D5.tail, ?_, ?_⟩
    · cases eL : later with
      | none =>
        refine ⟨_, rfl, rfl, _, rfl, ?_⟩
        refine ite2 (fun c => absurd c (by simp [oV])) (fun _ => ?_)
        exact ⟨_, rfl, K27⟩
      | some x =>
        refine ⟨_, rfl, rfl, _, rfl, ?_⟩
        refine ite2 (fun _ => ?_) (fun c => absurd (by simp [oV]) c)
        refine ⟨_, rfl, _, rfl, dt, _, rfl, tin_at _ _ K27.sm, ?_⟩
        rw [hkv]
        refine ⟨_, rfl, ?_⟩
        refine ite2 (fun c2 => ?_) (fun c2 => ?_)
        rotate_left
        · exact ⟨_, rfl, K27⟩
        refine ⟨_, rfl, _, _, rfl, rfl, _, rfl, ?_⟩
        refine ite2 (fun c3 => ?_) (fun c3 => ?_)
        rotate_left
        · exact ⟨_, rfl, K27⟩
        have c3' : mi > 0 := of_decide_eq_true c3
        obtain ⟨b1, b2, b3, b4⟩ := tb_least (ps := ps) (x := x) hok mi0 (hlater.symm.trans eL)
        have hbk : tb (turn ps) (-x) mi = some (-tm) := by
          refine tb_uniq okT c3' ?_ (by rw [turn_C ps b1]; exact b2) (by rw [turn_tin, show -(-tm - 1) - 1 = tm by omega]; exact c2)
          rcases Int.lt_or_eq_of_le b1 with q | q
          · omega
          · rw [← q, S_self] at b2
            omega
        have hlen2 := length_ge (ps := ps) (a := tm) (b := x) hok b1
        refine ⟨_, rfl, _, rfl, _, rfl, tbf _ _ x mi K27.sm mi0 fun H28 s28 => ?_⟩
        rw [hbk]
        have K28 := K27.same s28
        have ebk : oV ((some (-tm)).map fun y => -y) = V.int tm := by
          show V.int (- -tm) = _
          rw [Int.neg_neg]
        rw [ebk]
        have okI : okD 4 (.int tm) = true := by simp [okD]
        refine ⟨_, rfl, .int tm, .int tm, rfl, .int _, okI, fun v29 H29 s29 dn29 => ?_⟩
        refine ⟨_, rfl, .int tm, .int tm, rfl, .int _, okI, fun v30 H30 s30 dn30 => ?_⟩
        refine plain_test 4 dn29 s30 dn30 okI (by decide) ?_
        have K30 := (K28.same s29).same s30
        refine ite2 (fun z => nomatch z) (fun _ => ?_)
        refine ⟨_, rfl, sp_c_length_of_use ⟨l, rs, ps, rfl, SqL.of (K30.sm _ _ hlG), dpAll_same K30.sm _ _ hRG, by omega, his, fun H31 s31 => ?_⟩⟩
        refine ⟨_, rfl, _, _, rfl, rfl, _, rfl, ?_⟩
        refine ite2 (fun c => absurd (of_decide_eq_true c) (by omega)) (fun _ => ?_)
        exact ⟨_, rfl, K30.same s31⟩
    rintro σ H32 ⟨v14, rfl, K32⟩
    refine ⟨fun σ H' => σ = [some (.ref sa), some (.ref p), some (.ref l), some (.ref dt), some (.int tm), some (.int ln), some (oV (ffit ln tm ps)), v7, v8, some (.ref lh), some (.int mi), some (oV later), some (.int cy), some (oV early),  v14, none, none] ∧ Dk G2 H' p D5.tail, ?_, ?_⟩
    · refine ⟨by show 0 ≤ sizeLine; decide, fun l3 hl3 => ?_⟩
      have s33 := Same.new (o := .lst []) hl3
      refine ⟨_, rfl, _, rfl, sp_c_time_behind_use ⟨l3, [], [], tm, mi, rfl, SqL.of upd_same, .nil, by decide, fun z => absurd z (by decide), fun _ z => absurd z (by omega), fun _ _ H34 s34 => ?_⟩⟩
      have K34 := (K32.same s33).same s34
      refine ⟨oV _, oD _, rfl, dp_o _, ok_o 4 _, fun v35 H35 s35 dn35 => ?_⟩
      have e0 : tb [] tm mi = if mi = 0 then some tm else none := rfl
      rw [e0] at dn35
      refine ⟨_, rfl, rfl, _, rfl, ?_⟩
      refine ite2 (fun c => ?_) (fun c => ?_)
      · have c' : mi = 0 := V.int.inj (of_decide_eq_true c)
        rw [if_pos c'] at dn35
        refine ⟨_, rfl, oV (some tm), oD (some tm), rfl, dp_o _, ok_o 4 _, fun v36 H36 s36 dn36 => ?_⟩
        refine plain_test 4 dn35 s36 dn36 (ok_o 4 _) (by decide) ?_
        exact ⟨rfl, (K34.same s35).same s36⟩
      · have c' : ¬ mi = 0 := fun w => c (decide_eq_true (congrArg V.int w))
        rw [if_neg c'] at dn35
        refine ⟨oV none, oD none, rfl, dp_o _, ok_o 4 _, fun v36 H36 s36 dn36 => ?_⟩
        refine plain_test 4 dn35 s36 dn36 (ok_o 4 _) (by decide) ?_
        exact ⟨rfl, (K34.same s35).same s36⟩
    rintro σ H40 ⟨rfl, K40⟩
    refine ⟨by show 2 ≤ sizeLine; decide, fun q1 hq1 => ?_⟩
    have sq1 := Same.new (o := .tup [.int 3, .int 3]) (K40.fresh hq1)
    have hlG := sq1 _ _ hlG
    have hRG := dpAll_same sq1 _ _ hRG
    have fq1 : (upd G2 q1 (.tup [.int 3, .int 3]) : Hp) q1 = some (.tup [.int 3, .int 3]) := upd_same
    have K40 := K40.new (o := .tup [.int 3, .int 3]) hq1
    clear sq1
    generalize (upd H40 q1 (.tup [.int 3, .int 3]) : Hp) = H40_1 at K40 ⊢
    generalize (upd G2 q1 (.tup [.int 3, .int 3]) : Hp) = B1 at fq1 hlG hRG K40
    refine ⟨by show 1 ≤ sizeLine; decide, fun b1 hb1 => ?_⟩
    have sb1 := Same.new (o := .lst [.ref q1]) (K40.fresh hb1)
    have fq1 := sb1 _ _ fq1
    have hlG := sb1 _ _ hlG
    have hRG := dpAll_same sb1 _ _ hRG
    have fb1 : (upd B1 b1 (.lst [.ref q1]) : Hp) b1 = some (.lst [.ref q1]) := upd_same
    have K40 := K40.new (o := .lst [.ref q1]) hb1
    clear sb1
    generalize (upd H40_1 b1 (.lst [.ref q1]) : Hp) = H40_2 at K40 ⊢
    generalize (upd B1 b1 (.lst [.ref q1]) : Hp) = B2 at fq1 fb1 hlG hRG K40
    refine ⟨by show 2 ≤ sizeLine; decide, fun q2 hq2 => ?_⟩
    have sq2 := Same.new (o := .tup [.int 1, .int 3]) (K40.fresh hq2)
    have fq1 := sq2 _ _ fq1
    have fb1 := sq2 _ _ fb1
    have hlG := sq2 _ _ hlG
    have hRG := dpAll_same sq2 _ _ hRG
    have fq2 : (upd B2 q2 (.tup [.int 1, .int 3]) : Hp) q2 = some (.tup [.int 1, .int 3]) := upd_same
    have K40 := K40.new (o := .tup [.int 1, .int 3]) hq2
    clear sq2
    generalize (upd H40_2 q2 (.tup [.int 1, .int 3]) : Hp) = H40_3 at K40 ⊢
    generalize (upd B2 q2 (.tup [.int 1, .int 3]) : Hp) = B3 at fq1 fb1 fq2 hlG hRG K40
    refine ⟨by show 2 ≤ sizeLine; decide, fun q3 hq3 => ?_⟩
    have sq3 := Same.new (o := .tup [.int 3, .int 5]) (K40.fresh hq3)
    have fq1 := sq3 _ _ fq1
    have fb1 := sq3 _ _ fb1
    have fq2 := sq3 _ _ fq2
    have hlG := sq3 _ _ hlG
    have hRG := dpAll_same sq3 _ _ hRG
    have fq3 : (upd B3 q3 (.tup [.int 3, .int 5]) : Hp) q3 = some (.tup [.int 3, .int 5]) := upd_same
    have K40 := K40.new (o := .tup [.int 3, .int 5]) hq3
    clear sq3
    generalize (upd H40_3 q3 (.tup [.int 3, .int 5]) : Hp) = H40_4 at K40 ⊢
    generalize (upd B3 q3 (.tup [.int 3, .int 5]) : Hp) = B4 at fq1 fb1 fq2 fq3 hlG hRG K40
    refine ⟨by show 2 ≤ sizeLine; decide, fun b2 hb2 => ?_⟩
    have sb2 := Same.new (o := .lst [.ref q2, .ref q3]) (K40.fresh hb2)
    have fq1 := sb2 _ _ fq1
    have fb1 := sb2 _ _ fb1
    have fq2 := sb2 _ _ fq2
    have fq3 := sb2 _ _ fq3
    have hlG := sb2 _ _ hlG
    have hRG := dpAll_same sb2 _ _ hRG
    have fb2 : (upd B4 b2 (.lst [.ref q2, .ref q3]) : Hp) b2 = some (.lst [.ref q2, .ref q3]) := upd_same
    have K40 := K40.new (o := .lst [.ref q2, .ref q3]) hb2
    clear sb2
    generalize (upd H40_4 b2 (.lst [.ref q2, .ref q3]) : Hp) = H40_5 at K40 ⊢
    generalize (upd B4 b2 (.lst [.ref q2, .ref q3]) : Hp) = B5 at fq1 fb1 fq2 fq3 fb2 hlG hRG K40
    refine ⟨by show 2 ≤ sizeLine; decide, fun q4 hq4 => ?_⟩
    have sq4 := Same.new (o := .tup [.int 5, .int 6]) (K40.fresh hq4)
    have fq1 := sq4 _ _ fq1
    have fb1 := sq4 _ _ fb1
    have fq2 := sq4 _ _ fq2
    have fq3 := sq4 _ _ fq3
    have fb2 := sq4 _ _ fb2
    have hlG := sq4 _ _ hlG
    have hRG := dpAll_same sq4 _ _ hRG
    have fq4 : (upd B5 q4 (.tup [.int 5, .int 6]) : Hp) q4 = some (.tup [.int 5, .int 6]) := upd_same
    have K40 := K40.new (o := .tup [.int 5, .int 6]) hq4
    clear sq4
    generalize (upd H40_5 q4 (.tup [.int 5, .int 6]) : Hp) = H40_6 at K40 ⊢
    generalize (upd B5 q4 (.tup [.int 5, .int 6]) : Hp) = B6 at fq1 fb1 fq2 fq3 fb2 fq4 hlG hRG K40
    refine ⟨by show 2 ≤ sizeLine; decide, fun q5 hq5 => ?_⟩
    have sq5 := Same.new (o := .tup [.int 1, .int 2]) (K40.fresh hq5)
    have fq1 := sq5 _ _ fq1
    have fb1 := sq5 _ _ fb1
    have fq2 := sq5 _ _ fq2
    have fq3 := sq5 _ _ fq3
    have fb2 := sq5 _ _ fb2
    have fq4 := sq5 _ _ fq4
    have hlG := sq5 _ _ hlG
    have hRG := dpAll_same sq5 _ _ hRG
    have fq5 : (upd B6 q5 (.tup [.int 1, .int 2]) : Hp) q5 = some (.tup [.int 1, .int 2]) := upd_same
    have K40 := K40.new (o := .tup [.int 1, .int 2]) hq5
    clear sq5
    generalize (upd H40_6 q5 (.tup [.int 1, .int 2]) : Hp) = H40_7 at K40 ⊢
    generalize (upd B6 q5 (.tup [.int 1, .int 2]) : Hp) = B7 at fq1 fb1 fq2 fq3 fb2 fq4 fq5 hlG hRG K40
    refine ⟨by show 2 ≤ sizeLine; decide, fun b3 hb3 => ?_⟩
    have sb3 := Same.new (o := .lst [.ref q4, .ref q5]) (K40.fresh hb3)
    have fq1 := sb3 _ _ fq1
    have fb1 := sb3 _ _ fb1
    have fq2 := sb3 _ _ fq2
    have fq3 := sb3 _ _ fq3
    have fb2 := sb3 _ _ fb2
    have fq4 := sb3 _ _ fq4
    have fq5 := sb3 _ _ fq5
    have hlG := sb3 _ _ hlG
    have hRG := dpAll_same sb3 _ _ hRG
    have fb3 : (upd B7 b3 (.lst [.ref q4, .ref q5]) : Hp) b3 = some (.lst [.ref q4, .ref q5]) := upd_same
    have K40 := K40.new (o := .lst [.ref q4, .ref q5]) hb3
    clear sb3
    generalize (upd H40_7 b3 (.lst [.ref q4, .ref q5]) : Hp) = H40_8 at K40 ⊢
    generalize (upd B7 b3 (.lst [.ref q4, .ref q5]) : Hp) = B8 at fq1 fb1 fq2 fq3 fb2 fq4 fq5 fb3 hlG hRG K40
    refine ⟨by show 3 ≤ sizeLine; decide, fun lb hlb => ?_⟩
    have slb := Same.new (o := .lst [.ref b1, .ref b2, .ref b3]) (K40.fresh hlb)
    have fq1 := slb _ _ fq1
    have fb1 := slb _ _ fb1
    have fq2 := slb _ _ fq2
    have fq3 := slb _ _ fq3
    have fb2 := slb _ _ fb2
    have fq4 := slb _ _ fq4
    have fq5 := slb _ _ fq5
    have fb3 := slb _ _ fb3
    have hlG := slb _ _ hlG
    have hRG := dpAll_same slb _ _ hRG
    have flb : (upd B8 lb (.lst [.ref b1, .ref b2, .ref b3]) : Hp) lb = some (.lst [.ref b1, .ref b2, .ref b3]) := upd_same
    have K40 := K40.new (o := .lst [.ref b1, .ref b2, .ref b3]) hlb
    clear slb
    generalize (upd H40_8 lb (.lst [.ref b1, .ref b2, .ref b3]) : Hp) = H40_9 at K40 ⊢
    generalize (upd B8 lb (.lst [.ref b1, .ref b2, .ref b3]) : Hp) = B9 at fq1 fb1 fq2 fq3 fb2 fq4 fq5 fb3 flb hlG hRG K40
    refine ⟨_, rfl, take_q K40 (by decide) fun bi H50 b0 b1' K50 => ?_⟩
    obtain ⟨bq, brs, bps, hat, hbq, hbr, hbl, hbs⟩ : ∃ (bq : Addr) (brs : List V) (bps : List (Int × Int)), atI [V.ref b1, .ref b2, .ref b3] bi = some (.ref bq) ∧ B9 bq = some (.lst brs) ∧ Rws K B9 brs bps ∧ bps.length ≤ 1000 ∧ isS bps = false := by
      have : bi = 0 ∨ bi = 1 ∨ bi = 2 := by omega
      rcases this with e | e | e <;> subst e
      · exact ⟨b1, _, [(3, 3)], rfl, fb1, .cons (dp_pd (SqT.of fq1)) .nil, by decide, by decide⟩
      · exact ⟨b2, _, [(1, 3), (3, 5)], rfl, fb2, .cons (dp_pd (SqT.of fq2)) (.cons (dp_pd (SqT.of fq3)) .nil), by decide, by decide⟩
      · exact ⟨b3, _, [(5, 6), (1, 2)], rfl, fb3, .cons (dp_pd (SqT.of fq4)) (.cons (dp_pd (SqT.of fq5)) .nil), by decide, by decide⟩
    refine ⟨lb, _, _, .ref bq, rfl, rfl, SqL.of (K50.sm _ _ flb), hat, ?_⟩
    refine ⟨_, rfl, take_q K50 (by decide) fun ask H51 a0 a1 K51 => ?_⟩
    refine ⟨fun σ H' => σ = [some (.ref sa), some (.ref p), some (.ref l), some (.ref dt), some (.int tm), some (.int ln), some (oV (ffit ln tm ps)), v7, v8, some (.ref lh), some (.int mi), some (oV later), some (.int cy), some (oV early),  v14, some (.ref bq), some (.int ask)] ∧ ∃ D', Dk B9 H' p D', ?_, ?_⟩
    · refine ⟨_, rfl, _, rfl, _, rfl, ?_⟩
      refine sp_c_law_why_use ⟨ask, -1, bq, brs, bps, "spans", rfl, a0, SqL.of (K51.sm _ _ hbq), dpAll_same K51.sm _ _ hbr, hbl, .inl ⟨hbs, rfl⟩, fun H52 s52 => ?_⟩
      have K52 := K51.same s52
      refine ⟨rfl, _, rfl, ?_⟩
      refine ite2 (fun c => absurd c (by decide)) (fun _ => ?_)
      refine ⟨_, rfl, _, rfl, _, rfl, _, rfl, take_q K52 (by decide) fun e5 H53 c0 c1 K53 => ?_⟩
      refine ⟨_, _, rfl, rfl, ?_⟩
      refine sp_c_law_why_use ⟨ask, -1 - e5, l, rs, ps, "length", rfl, a0, SqL.of (K53.sm _ _ hlG), dpAll_same K53.sm _ _ hRG, by omega, .inr ⟨his, .inl (by omega), rfl⟩, fun H54 s54 => ?_⟩
      refine ⟨rfl, _, rfl, ?_⟩
      refine ite2 (fun c => absurd c (by decide)) (fun _ => ?_)
      exact ⟨rfl, _, K53.same s54⟩
    rintro σ H60 ⟨rfl, D', K60⟩
    refine ⟨_, rfl, ?_⟩
    refine sp_c_law_why_use ⟨0, 0, l, rs, ps, "length", rfl, by decide, SqL.of (K60.sm _ _ hlG), dpAll_same K60.sm _ _ hRG, by omega, .inr ⟨his, .inr ⟨rfl, by decide⟩, rfl⟩, fun H61 s61 => ?_⟩
    refine ⟨rfl, _, rfl, ?_⟩
    refine iteT ?_
    refine ⟨by show 0 ≤ sizeLine; decide, fun l9 hl9 => ?_⟩
    refine sp_c_rest_of_use ⟨l9, rfl, SqL.of upd_same, fun H62 lr tr s62 hlr htr => ?_⟩
    refine ⟨by show 2 ≤ sizeLine; decide, fun q9 hq9 => ?_⟩
    have u9 := Same.new (o := .tup [.int 0, .int 5]) hq9
    have f9 : (upd H62 q9 (.tup [.int 0, .int 5]) : Hp) q9 = some (.tup [.int 0, .int 5]) := upd_same
    refine ⟨by show 1 ≤ sizeLine; decide, fun m9 hm9 => ?_⟩
    have v9 := Same.new (o := .lst [.ref q9]) hm9
    refine data_eq (d := .list [pd (0, 5)]) (n := 2) (.lst (SqL.of (v9 _ _ (u9 _ _ hlr))) (.cons (dp_pd (SqT.of (v9 _ _ (u9 _ _ htr)))) .nil)) (.lst (SqL.of upd_same) (.cons (dp_pd (SqT.of (v9 _ _ f9))) .nil)) (by decide) (by decide) ?_
    exact k _
theorem all_mk {l : PySem.W.OpenLaw} {w : World} {K : PySem.W.Frag} {h : Heap} {mg : Str → Option Value} {fa : Addr} (X : K.In h) (G : h.Ns mainGlobals mg) (hfa : mg "law" = some (.ref fa))
    {C_SlotError C_InvalidTime C_InvalidSlot : Addr}
    {f0 : Addr} {od0 an0 : Option Addr} {sl0 : Array (Option Value)} {oc0 kV0 dc0 pm0 cd0 ct0 : Value}
    {f1 : Addr} {od1 an1 : Option Addr} {sl1 : Array (Option Value)} {oc1 kV1 dc1 pm1 cd1 ct1 : Value}
    {f2 : Addr} {od2 an2 : Option Addr} {sl2 : Array (Option Value)} {oc2 kV2 dc2 pm2 cd2 ct2 : Value}
    {f3 : Addr} {od3 an3 : Option Addr} {sl3 : Array (Option Value)} {oc3 kV3 dc3 pm3 cd3 ct3 : Value}
    {f4 : Addr} {od4 an4 : Option Addr} {sl4 : Array (Option Value)} {oc4 kV4 dc4 pm4 cd4 ct4 : Value}
    {f5 : Addr} {od5 an5 : Option Addr} {sl5 : Array (Option Value)} {oc5 kV5 dc5 pm5 cd5 ct5 : Value}
    {f6 : Addr} {od6 an6 : Option Addr} {sl6 : Array (Option Value)} {oc6 kV6 dc6 pm6 cd6 ct6 : Value}
    {f7 : Addr} {od7 an7 : Option Addr} {sl7 : Array (Option Value)} {oc7 kV7 dc7 pm7 cd7 ct7 : Value}
    {f8 : Addr} {od8 an8 : Option Addr} {sl8 : Array (Option Value)} {oc8 kV8 dc8 pm8 cd8 ct8 : Value}
    {f9 : Addr} {od9 an9 : Option Addr} {sl9 : Array (Option Value)} {oc9 kV9 dc9 pm9 cd9 ct9 : Value}
    {f10 : Addr} {od10 an10 : Option Addr} {sl10 : Array (Option Value)} {oc10 kV10 dc10 pm10 cd10 ct10 : Value}
    {f11 : Addr} {od11 an11 : Option Addr} {sl11 : Array (Option Value)} {oc11 kV11 dc11 pm11 cd11 ct11 : Value}
    {f12 : Addr} {od12 an12 : Option Addr} {sl12 : Array (Option Value)} {oc12 kV12 dc12 pm12 cd12 ct12 : Value}
    {f13 : Addr} {od13 an13 : Option Addr} {sl13 : Array (Option Value)} {oc13 kV13 dc13 pm13 cd13 ct13 : Value}
    {f14 : Addr} {od14 an14 : Option Addr} {sl14 : Array (Option Value)} {oc14 kV14 dc14 pm14 cd14 ct14 : Value}
    {f15 : Addr} {od15 an15 : Option Addr} {sl15 : Array (Option Value)} {oc15 kV15 dc15 pm15 cd15 ct15 : Value}
    {nm_InvalidTime q_InvalidTime : Str} {N_InvalidTime : Addr} {bs_InvalidTime bm_InvalidTime : List Value} {sn_InvalidTime : List Str} {sub_InvalidTime : List Value} {ab_InvalidTime : Bool} {col_InvalidTime : Option Bool} {dd_InvalidTime : Option Addr} {m0_InvalidTime m1_InvalidTime m2_InvalidTime m3_InvalidTime m5_InvalidTime : Option Value}
    {nm_InvalidSlot q_InvalidSlot : Str} {N_InvalidSlot : Addr} {bs_InvalidSlot bm_InvalidSlot : List Value} {sn_InvalidSlot : List Str} {sub_InvalidSlot : List Value} {ab_InvalidSlot : Bool} {col_InvalidSlot : Option Bool} {dd_InvalidSlot : Option Addr} {m0_InvalidSlot m1_InvalidSlot m2_InvalidSlot m3_InvalidSlot m5_InvalidSlot : Option Value}
    (g_SlotError : PySem.W.nsIn K mainGlobals "SlotError" = some (some (.ref C_SlotError)))
    (g_InvalidTime : PySem.W.nsIn K mainGlobals "InvalidTime" = some (some (.ref C_InvalidTime)))
    (g_InvalidSlot : PySem.W.nsIn K mainGlobals "InvalidSlot" = some (some (.ref C_InvalidSlot)))
    (a0 : PySem.W.findIn K (.ref C_InvalidTime) "__init__" = some (some (.ref f0)))
    (l0 : K.lookup f0 = some ⟨oc0, od0, .func (PySem.W.fnOf "__init__" "InvalidTime.__init__" (defArgs st_c_InvalidTime_init) (defBody st_c_InvalidTime_init) (defScope st_c_InvalidTime_init) .none kV0 dc0 pm0 an0 cd0 ct0), sl0⟩)
    (c0 : PySem.W.codeIn K cd0 "InvalidTime.__init__" = true)
    (k0 : PySem.W.keepIn K (.ref f0) = true)
    (a1 : PySem.W.findIn K (.ref C_InvalidSlot) "__init__" = some (some (.ref f1)))
    (l1 : K.lookup f1 = some ⟨oc1, od1, .func (PySem.W.fnOf "__init__" "InvalidSlot.__init__" (defArgs st_c_InvalidSlot_init) (defBody st_c_InvalidSlot_init) (defScope st_c_InvalidSlot_init) .none kV1 dc1 pm1 an1 cd1 ct1), sl1⟩)
    (c1 : PySem.W.codeIn K cd1 "InvalidSlot.__init__" = true)
    (k1 : PySem.W.keepIn K (.ref f1) = true)
    (a2 : PySem.W.nsIn K mainGlobals "is_spans" = some (some (.ref f2)))
    (l2 : K.lookup f2 = some ⟨oc2, od2, .func (PySem.W.fnOf "is_spans" "is_spans" (defArgs st_c_is_spans) (defBody st_c_is_spans) (defScope st_c_is_spans) .none kV2 dc2 pm2 an2 cd2 ct2), sl2⟩)
    (c2 : PySem.W.codeIn K cd2 "is_spans" = true)
    (k2 : PySem.W.keepIn K (.ref f2) = true)
    (a3 : PySem.W.nsIn K mainGlobals "check_spans" = some (some (.ref f3)))
    (l3 : K.lookup f3 = some ⟨oc3, od3, .func (PySem.W.fnOf "check_spans" "check_spans" (defArgs st_c_check_spans) (defBody st_c_check_spans) (defScope st_c_check_spans) .none kV3 dc3 pm3 an3 cd3 ct3), sl3⟩)
    (c3 : PySem.W.codeIn K cd3 "check_spans" = true)
    (k3 : PySem.W.keepIn K (.ref f3) = true)
    (a4 : PySem.W.nsIn K mainGlobals "rest_of" = some (some (.ref f4)))
    (l4 : K.lookup f4 = some ⟨oc4, od4, .func (PySem.W.fnOf "rest_of" "rest_of" (defArgs st_c_rest_of) (defBody st_c_rest_of) (defScope st_c_rest_of) .none kV4 dc4 pm4 an4 cd4 ct4), sl4⟩)
    (c4 : PySem.W.codeIn K cd4 "rest_of" = true)
    (k4 : PySem.W.keepIn K (.ref f4) = true)
    (a5 : PySem.W.nsIn K mainGlobals "length_of" = some (some (.ref f5)))
    (l5 : K.lookup f5 = some ⟨oc5, od5, .func (PySem.W.fnOf "length_of" "length_of" (defArgs st_c_length_of) (defBody st_c_length_of) (defScope st_c_length_of) .none kV5 dc5 pm5 an5 cd5 ct5), sl5⟩)
    (c5 : PySem.W.codeIn K cd5 "length_of" = true)
    (k5 : PySem.W.keepIn K (.ref f5) = true)
    (a6 : PySem.W.nsIn K mainGlobals "first_fit" = some (some (.ref f6)))
    (l6 : K.lookup f6 = some ⟨oc6, od6, .func (PySem.W.fnOf "first_fit" "first_fit" (defArgs st_c_first_fit) (defBody st_c_first_fit) (defScope st_c_first_fit) .none kV6 dc6 pm6 an6 cd6 ct6), sl6⟩)
    (c6 : PySem.W.codeIn K cd6 "first_fit" = true)
    (k6 : PySem.W.keepIn K (.ref f6) = true)
    (a7 : PySem.W.nsIn K mainGlobals "time_behind" = some (some (.ref f7)))
    (l7 : K.lookup f7 = some ⟨oc7, od7, .func (PySem.W.fnOf "time_behind" "time_behind" (defArgs st_c_time_behind) (defBody st_c_time_behind) (defScope st_c_time_behind) .none kV7 dc7 pm7 an7 cd7 ct7), sl7⟩)
    (c7 : PySem.W.codeIn K cd7 "time_behind" = true)
    (k7 : PySem.W.keepIn K (.ref f7) = true)
    (a8 : PySem.W.nsIn K mainGlobals "time_before" = some (some (.ref f8)))
    (l8 : K.lookup f8 = some ⟨oc8, od8, .func (PySem.W.fnOf "time_before" "time_before" (defArgs st_c_time_before) (defBody st_c_time_before) (defScope st_c_time_before) .none kV8 dc8 pm8 an8 cd8 ct8), sl8⟩)
    (c8 : PySem.W.codeIn K cd8 "time_before" = true)
    (k8 : PySem.W.keepIn K (.ref f8) = true)
    (a9 : PySem.W.nsIn K mainGlobals "_law_deck" = some (some (.ref f9)))
    (l9 : K.lookup f9 = some ⟨oc9, od9, .func (PySem.W.fnOf "_law_deck" "_law_deck" (defArgs st_c_law_deck) (defBody st_c_law_deck) (defScope st_c_law_deck) .none kV9 dc9 pm9 an9 cd9 ct9), sl9⟩)
    (c9 : PySem.W.codeIn K cd9 "_law_deck" = true)
    (k9 : PySem.W.keepIn K (.ref f9) = true)
    (a10 : PySem.W.nsIn K mainGlobals "_law_take" = some (some (.ref f10)))
    (l10 : K.lookup f10 = some ⟨oc10, od10, .func (PySem.W.fnOf "_law_take" "_law_take" (defArgs st_c_law_take) (defBody st_c_law_take) (defScope st_c_law_take) .none kV10 dc10 pm10 an10 cd10 ct10), sl10⟩)
    (c10 : PySem.W.codeIn K cd10 "_law_take" = true)
    (k10 : PySem.W.keepIn K (.ref f10) = true)
    (a11 : PySem.W.nsIn K mainGlobals "_law_plain" = some (some (.ref f11)))
    (l11 : K.lookup f11 = some ⟨oc11, od11, .func (PySem.W.fnOf "_law_plain" "_law_plain" (defArgs st_c_law_plain) (defBody st_c_law_plain) (defScope st_c_law_plain) .none kV11 dc11 pm11 an11 cd11 ct11), sl11⟩)
    (c11 : PySem.W.codeIn K cd11 "_law_plain" = true)
    (k11 : PySem.W.keepIn K (.ref f11) = true)
    (a12 : PySem.W.nsIn K mainGlobals "_law_spans" = some (some (.ref f12)))
    (l12 : K.lookup f12 = some ⟨oc12, od12, .func (PySem.W.fnOf "_law_spans" "_law_spans" (defArgs st_c_law_spans) (defBody st_c_law_spans) (defScope st_c_law_spans) .none kV12 dc12 pm12 an12 cd12 ct12), sl12⟩)
    (c12 : PySem.W.codeIn K cd12 "_law_spans" = true)
    (k12 : PySem.W.keepIn K (.ref f12) = true)
    (a13 : PySem.W.nsIn K mainGlobals "_law_times" = some (some (.ref f13)))
    (l13 : K.lookup f13 = some ⟨oc13, od13, .func (PySem.W.fnOf "_law_times" "_law_times" (defArgs st_c_law_times) (defBody st_c_law_times) (defScope st_c_law_times) .none kV13 dc13 pm13 an13 cd13 ct13), sl13⟩)
    (c13 : PySem.W.codeIn K cd13 "_law_times" = true)
    (k13 : PySem.W.keepIn K (.ref f13) = true)
    (a14 : PySem.W.nsIn K mainGlobals "_law_why" = some (some (.ref f14)))
    (l14 : K.lookup f14 = some ⟨oc14, od14, .func (PySem.W.fnOf "_law_why" "_law_why" (defArgs st_c_law_why) (defBody st_c_law_why) (defScope st_c_law_why) .none kV14 dc14 pm14 an14 cd14 ct14), sl14⟩)
    (c14 : PySem.W.codeIn K cd14 "_law_why" = true)
    (k14 : PySem.W.keepIn K (.ref f14) = true)
    (a15 : PySem.W.nsIn K mainGlobals "law" = some (some (.ref f15)))
    (l15 : K.lookup f15 = some ⟨oc15, od15, .func (PySem.W.fnOf "law" "law" (defArgs st_c_law) (defBody st_c_law) (defScope st_c_law) .none kV15 dc15 pm15 an15 cd15 ct15), sl15⟩)
    (c15 : PySem.W.codeIn K cd15 "law" = true)
    (k15 : PySem.W.keepIn K (.ref f15) = true)
    (b1_SlotError : PySem.W.specialIn K (.ref C_SlotError) "__getattribute__" = some (some (.builtin "type.__getattribute__")))
    (b2_SlotError : PySem.W.readsIn K C_SlotError (.type "type") = true)
    (b3_SlotError : PySem.W.findCls K (.ref C_SlotError) (.type "type") "__init__" = some (.val (.builtin "ValueError.__init__")))
    (x_InvalidTime : K.lookup C_InvalidTime = some (excClassObj nm_InvalidTime q_InvalidTime C_InvalidTime N_InvalidTime bs_InvalidTime bm_InvalidTime true sn_InvalidTime sub_InvalidTime ab_InvalidTime col_InvalidTime dd_InvalidTime m0_InvalidTime m1_InvalidTime m2_InvalidTime m3_InvalidTime m5_InvalidTime "ValueError.__new__"))
    (rv_InvalidTime : PySem.HandSPX.refsVE bm_InvalidTime = true)
    (sa_InvalidTime : PySem.W.findIn K (.ref C_InvalidTime) "__setattr__" = some (some (.builtin "object.__setattr__")))
    (ga_InvalidTime : PySem.W.findIn K (.ref C_InvalidTime) "__getattribute__" = some (some (.builtin "BaseException.__getattribute__")))
    (gg_InvalidTime : PySem.W.findIn K (.ref C_InvalidTime) "__getattr__" = some none)
    (kC_InvalidTime : PySem.W.keepIn K (.ref C_InvalidTime) = true)
    (eC_InvalidTime : PySem.W.subIn K (.ref C_InvalidTime) (.type "BaseException") = some true)
    (tC_InvalidTime : PySem.W.typeIn K (.ref C_InvalidTime) = some (.type "type"))
    (hC_InvalidTime : PySem.W.hasDictIn K C_InvalidTime = true)
    (ic_InvalidTime : (PySem.W.clsIn K C_InvalidTime).isSome = true)
    (cc_InvalidTime : PySem.W.findIn K (.ref C_InvalidTime) "__class__" = some (some (.builtin "object.__class__")))
    (mo_InvalidTime : PySem.W.mroIn K C_InvalidTime (.type "object") = some true)
    (ti_InvalidTime : PySem.W.typeIn K (.ref f0) = some (.type "function"))
    (no_InvalidTime_what : PySem.W.findIn K (.ref C_InvalidTime) "what" = some none)
    (em_InvalidTime_SlotError : PySem.W.exmOne K (.ref C_InvalidTime) (.ref C_SlotError) = some true)
    (em_InvalidTime_InvalidTime : PySem.W.exmOne K (.ref C_InvalidTime) (.ref C_InvalidTime) = some true)
    (x_InvalidSlot : K.lookup C_InvalidSlot = some (excClassObj nm_InvalidSlot q_InvalidSlot C_InvalidSlot N_InvalidSlot bs_InvalidSlot bm_InvalidSlot true sn_InvalidSlot sub_InvalidSlot ab_InvalidSlot col_InvalidSlot dd_InvalidSlot m0_InvalidSlot m1_InvalidSlot m2_InvalidSlot m3_InvalidSlot m5_InvalidSlot "ValueError.__new__"))
    (rv_InvalidSlot : PySem.HandSPX.refsVE bm_InvalidSlot = true)
    (sa_InvalidSlot : PySem.W.findIn K (.ref C_InvalidSlot) "__setattr__" = some (some (.builtin "object.__setattr__")))
    (ga_InvalidSlot : PySem.W.findIn K (.ref C_InvalidSlot) "__getattribute__" = some (some (.builtin "BaseException.__getattribute__")))
    (gg_InvalidSlot : PySem.W.findIn K (.ref C_InvalidSlot) "__getattr__" = some none)
    (kC_InvalidSlot : PySem.W.keepIn K (.ref C_InvalidSlot) = true)
    (eC_InvalidSlot : PySem.W.subIn K (.ref C_InvalidSlot) (.type "BaseException") = some true)
    (tC_InvalidSlot : PySem.W.typeIn K (.ref C_InvalidSlot) = some (.type "type"))
    (hC_InvalidSlot : PySem.W.hasDictIn K C_InvalidSlot = true)
    (ic_InvalidSlot : (PySem.W.clsIn K C_InvalidSlot).isSome = true)
    (cc_InvalidSlot : PySem.W.findIn K (.ref C_InvalidSlot) "__class__" = some (some (.builtin "object.__class__")))
    (mo_InvalidSlot : PySem.W.mroIn K C_InvalidSlot (.type "object") = some true)
    (ti_InvalidSlot : PySem.W.typeIn K (.ref f1) = some (.type "function"))
    (no_InvalidSlot_what : PySem.W.findIn K (.ref C_InvalidSlot) "what" = some none)
    (em_InvalidSlot_SlotError : PySem.W.exmOne K (.ref C_InvalidSlot) (.ref C_SlotError) = some true)
    (em_InvalidSlot_InvalidSlot : PySem.W.exmOne K (.ref C_InvalidSlot) (.ref C_InvalidSlot) = some true)
    (z_hn : PySem.W.specialIn K (.builtin "object.__class__") "__get__" = some (some (.builtin "getset_descriptor.__get__")))
    (z_ht : PySem.W.takesIn K (.builtin "object.__class__") = some true)
    (kt_InvalidTime_InvalidTime : PySem.W.kitOne K (.ref C_InvalidTime) (.ref C_InvalidTime) = some true)
    (kt_InvalidTime_InvalidSlot : PySem.W.kitOne K (.ref C_InvalidTime) (.ref C_InvalidSlot) = some false)
    (n_abs : PySem.W.nsIn K mainGlobals "abs" = some none)
    (n_all : PySem.W.nsIn K mainGlobals "all" = some none)
    (n_any : PySem.W.nsIn K mainGlobals "any" = some none)
    (n_bool : PySem.W.nsIn K mainGlobals "bool" = some none)
    (n_int : PySem.W.nsIn K mainGlobals "int" = some none)
    (n_isinstance : PySem.W.nsIn K mainGlobals "isinstance" = some none)
    (n_len : PySem.W.nsIn K mainGlobals "len" = some none)
    (n_list : PySem.W.nsIn K mainGlobals "list" = some none)
    (n_max : PySem.W.nsIn K mainGlobals "max" = some none)
    (n_min : PySem.W.nsIn K mainGlobals "min" = some none)
    (n_range : PySem.W.nsIn K mainGlobals "range" = some none)
    (n_str : PySem.W.nsIn K mainGlobals "str" = some none)
    (n_sum : PySem.W.nsIn K mainGlobals "sum" = some none)
    (n_tuple : PySem.W.nsIn K mainGlobals "tuple" = some none)
    (n_zip : PySem.W.nsIn K mainGlobals "zip" = some none)
    : ∃ fd : FuncData, (∀ (s : Shared) (v : Value), BindsTo s fd ⟨[v], []⟩ [("script", v)]) ∧ ∀ base : Heap, K.In base → base.Ns mainGlobals mg → FnOk l.prog w K mg base (L2.CX l.prog w) 7 fa fd ["script"] (sp_c_law K) := by
  have e := hfa.symm.trans (PySem.W.mg_of X G a15)
  cases e
  have T : Txt K mg { f_c_InvalidTime_init := f0, d_c_InvalidTime_init := (PySem.W.fnOf "__init__" "InvalidTime.__init__" (defArgs st_c_InvalidTime_init) (defBody st_c_InvalidTime_init) (defScope st_c_InvalidTime_init) .none kV0 dc0 pm0 an0 cd0 ct0), f_c_InvalidSlot_init := f1, d_c_InvalidSlot_init := (PySem.W.fnOf "__init__" "InvalidSlot.__init__" (defArgs st_c_InvalidSlot_init) (defBody st_c_InvalidSlot_init) (defScope st_c_InvalidSlot_init) .none kV1 dc1 pm1 an1 cd1 ct1), f_c_is_spans := f2, d_c_is_spans := (PySem.W.fnOf "is_spans" "is_spans" (defArgs st_c_is_spans) (defBody st_c_is_spans) (defScope st_c_is_spans) .none kV2 dc2 pm2 an2 cd2 ct2), f_c_check_spans := f3, d_c_check_spans := (PySem.W.fnOf "check_spans" "check_spans" (defArgs st_c_check_spans) (defBody st_c_check_spans) (defScope st_c_check_spans) .none kV3 dc3 pm3 an3 cd3 ct3), f_c_rest_of := f4, d_c_rest_of := (PySem.W.fnOf "rest_of" "rest_of" (defArgs st_c_rest_of) (defBody st_c_rest_of) (defScope st_c_rest_of) .none kV4 dc4 pm4 an4 cd4 ct4), f_c_length_of := f5, d_c_length_of := (PySem.W.fnOf "length_of" "length_of" (defArgs st_c_length_of) (defBody st_c_length_of) (defScope st_c_length_of) .none kV5 dc5 pm5 an5 cd5 ct5), f_c_first_fit := f6, d_c_first_fit := (PySem.W.fnOf "first_fit" "first_fit" (defArgs st_c_first_fit) (defBody st_c_first_fit) (defScope st_c_first_fit) .none kV6 dc6 pm6 an6 cd6 ct6), f_c_time_behind := f7, d_c_time_behind := (PySem.W.fnOf "time_behind" "time_behind" (defArgs st_c_time_behind) (defBody st_c_time_behind) (defScope st_c_time_behind) .none kV7 dc7 pm7 an7 cd7 ct7), f_c_time_before := f8, d_c_time_before := (PySem.W.fnOf "time_before" "time_before" (defArgs st_c_time_before) (defBody st_c_time_before) (defScope st_c_time_before) .none kV8 dc8 pm8 an8 cd8 ct8), f_c_law_deck := f9, d_c_law_deck := (PySem.W.fnOf "_law_deck" "_law_deck" (defArgs st_c_law_deck) (defBody st_c_law_deck) (defScope st_c_law_deck) .none kV9 dc9 pm9 an9 cd9 ct9), f_c_law_take := f10, d_c_law_take := (PySem.W.fnOf "_law_take" "_law_take" (defArgs st_c_law_take) (defBody st_c_law_take) (defScope st_c_law_take) .none kV10 dc10 pm10 an10 cd10 ct10), f_c_law_plain := f11, d_c_law_plain := (PySem.W.fnOf "_law_plain" "_law_plain" (defArgs st_c_law_plain) (defBody st_c_law_plain) (defScope st_c_law_plain) .none kV11 dc11 pm11 an11 cd11 ct11), f_c_law_spans := f12, d_c_law_spans := (PySem.W.fnOf "_law_spans" "_law_spans" (defArgs st_c_law_spans) (defBody st_c_law_spans) (defScope st_c_law_spans) .none kV12 dc12 pm12 an12 cd12 ct12), f_c_law_times := f13, d_c_law_times := (PySem.W.fnOf "_law_times" "_law_times" (defArgs st_c_law_times) (defBody st_c_law_times) (defScope st_c_law_times) .none kV13 dc13 pm13 an13 cd13 ct13), f_c_law_why := f14, d_c_law_why := (PySem.W.fnOf "_law_why" "_law_why" (defArgs st_c_law_why) (defBody st_c_law_why) (defScope st_c_law_why) .none kV14 dc14 pm14 an14 cd14 ct14), f_c_law := fa, d_c_law := (PySem.W.fnOf "law" "law" (defArgs st_c_law) (defBody st_c_law) (defScope st_c_law) .none kV15 dc15 pm15 an15 cd15 ct15), C_SlotError := C_SlotError, C_InvalidTime := C_InvalidTime, C_InvalidSlot := C_InvalidSlot } := {
    F_c_InvalidTime_init := fun_mk (st := st_c_InvalidTime_init) l0 c0 k0
    b_c_InvalidTime_init := (fun_mk (st := st_c_InvalidTime_init) l0 c0 k0).binds (ps := ["self", "what"]) fun _ _ _ _ _ _ us hl => match us, hl with | [_, _], _ => rfl
    F_c_InvalidSlot_init := fun_mk (st := st_c_InvalidSlot_init) l1 c1 k1
    b_c_InvalidSlot_init := (fun_mk (st := st_c_InvalidSlot_init) l1 c1 k1).binds (ps := ["self", "what"]) fun _ _ _ _ _ _ us hl => match us, hl with | [_, _], _ => rfl
    F_c_is_spans := fun_mk (st := st_c_is_spans) l2 c2 k2
    b_c_is_spans := (fun_mk (st := st_c_is_spans) l2 c2 k2).binds (ps := ["spans"]) fun _ _ _ _ _ _ us hl => match us, hl with | [_], _ => rfl
    m_c_is_spans := PySem.W.mg_of X G a2
    F_c_check_spans := fun_mk (st := st_c_check_spans) l3 c3 k3
    b_c_check_spans := (fun_mk (st := st_c_check_spans) l3 c3 k3).binds (ps := ["spans"]) fun _ _ _ _ _ _ us hl => match us, hl with | [_], _ => rfl
    m_c_check_spans := PySem.W.mg_of X G a3
    F_c_rest_of := fun_mk (st := st_c_rest_of) l4 c4 k4
    b_c_rest_of := (fun_mk (st := st_c_rest_of) l4 c4 k4).binds (ps := ["spans", "start", "end"]) fun _ _ _ _ _ _ us hl => match us, hl with | [_, _, _], _ => rfl
    m_c_rest_of := PySem.W.mg_of X G a4
    F_c_length_of := fun_mk (st := st_c_length_of) l5 c5 k5
    b_c_length_of := (fun_mk (st := st_c_length_of) l5 c5 k5).binds (ps := ["spans"]) fun _ _ _ _ _ _ us hl => match us, hl with | [_], _ => rfl
    m_c_length_of := PySem.W.mg_of X G a5
    F_c_first_fit := fun_mk (st := st_c_first_fit) l6 c6 k6
    b_c_first_fit := (fun_mk (st := st_c_first_fit) l6 c6 k6).binds (ps := ["spans", "length", "time"]) fun _ _ _ _ _ _ us hl => match us, hl with | [_, _, _], _ => rfl
    m_c_first_fit := PySem.W.mg_of X G a6
    F_c_time_behind := fun_mk (st := st_c_time_behind) l7 c7 k7
    b_c_time_behind := (fun_mk (st := st_c_time_behind) l7 c7 k7).binds (ps := ["spans", "time", "minutes"]) fun _ _ _ _ _ _ us hl => match us, hl with | [_, _, _], _ => rfl
    m_c_time_behind := PySem.W.mg_of X G a7
    F_c_time_before := fun_mk (st := st_c_time_before) l8 c8 k8
    b_c_time_before := (fun_mk (st := st_c_time_before) l8 c8 k8).binds (ps := ["spans", "time", "minutes"]) fun _ _ _ _ _ _ us hl => match us, hl with | [_, _, _], _ => rfl
    m_c_time_before := PySem.W.mg_of X G a8
    F_c_law_deck := fun_mk (st := st_c_law_deck) l9 c9 k9
    b_c_law_deck := (fun_mk (st := st_c_law_deck) l9 c9 k9).binds (ps := ["script", "cells", "each"]) fun _ _ _ _ _ _ us hl => match us, hl with | [_, _, _], _ => rfl
    m_c_law_deck := PySem.W.mg_of X G a9
    F_c_law_take := fun_mk (st := st_c_law_take) l10 c10 k10
    b_c_law_take := (fun_mk (st := st_c_law_take) l10 c10 k10).binds (ps := ["deck", "many"]) fun _ _ _ _ _ _ us hl => match us, hl with | [_, _], _ => rfl
    m_c_law_take := PySem.W.mg_of X G a10
    F_c_law_plain := fun_mk (st := st_c_law_plain) l11 c11 k11
    b_c_law_plain := (fun_mk (st := st_c_law_plain) l11 c11 k11).binds (ps := ["value"]) fun _ _ _ _ _ _ us hl => match us, hl with | [_], _ => rfl
    m_c_law_plain := PySem.W.mg_of X G a11
    F_c_law_spans := fun_mk (st := st_c_law_spans) l12 c12 k12
    b_c_law_spans := (fun_mk (st := st_c_law_spans) l12 c12 k12).binds (ps := ["deck", "most", "span"]) fun _ _ _ _ _ _ us hl => match us, hl with | [_, _, _], _ => rfl
    m_c_law_spans := PySem.W.mg_of X G a12
    F_c_law_times := fun_mk (st := st_c_law_times) l13 c13 k13
    b_c_law_times := (fun_mk (st := st_c_law_times) l13 c13 k13).binds (ps := ["spans"]) fun _ _ _ _ _ _ us hl => match us, hl with | [_], _ => rfl
    m_c_law_times := PySem.W.mg_of X G a13
    F_c_law_why := fun_mk (st := st_c_law_why) l14 c14 k14
    b_c_law_why := (fun_mk (st := st_c_law_why) l14 c14 k14).binds (ps := ["ask", "spans", "number"]) fun _ _ _ _ _ _ us hl => match us, hl with | [_, _, _], _ => rfl
    m_c_law_why := PySem.W.mg_of X G a14
    F_c_law := fun_mk (st := st_c_law) l15 c15 k15
    b_c_law := (fun_mk (st := st_c_law) l15 c15 k15).binds (ps := ["script"]) fun _ _ _ _ _ _ us hl => match us, hl with | [_], _ => rfl
    m_c_law := PySem.W.mg_of X G a15
    m_SlotError := PySem.W.mg_of X G g_SlotError
    bc_SlotError := ⟨b1_SlotError, b2_SlotError, b3_SlotError⟩
    m_InvalidTime := PySem.W.mg_of X G g_InvalidTime
    ox_InvalidTime := ⟨⟨_, _, _, _, _, _, _, _, _, _, _, _, _, _, _, x_InvalidTime, rv_InvalidTime⟩, sa_InvalidTime, eC_InvalidTime, tC_InvalidTime, kC_InvalidTime⟩
    in_InvalidTime := a0
    ti_InvalidTime := ti_InvalidTime
    no_InvalidTime_what := no_InvalidTime_what
    xf_InvalidTime := ⟨ga_InvalidTime, gg_InvalidTime, eC_InvalidTime, hC_InvalidTime⟩
    is_InvalidTime := ⟨ic_InvalidTime, ga_InvalidTime, gg_InvalidTime, eC_InvalidTime, cc_InvalidTime, z_hn, z_ht, mo_InvalidTime⟩
    em_InvalidTime_SlotError := em_InvalidTime_SlotError
    em_InvalidTime_InvalidTime := em_InvalidTime_InvalidTime
    m_InvalidSlot := PySem.W.mg_of X G g_InvalidSlot
    ox_InvalidSlot := ⟨⟨_, _, _, _, _, _, _, _, _, _, _, _, _, _, _, x_InvalidSlot, rv_InvalidSlot⟩, sa_InvalidSlot, eC_InvalidSlot, tC_InvalidSlot, kC_InvalidSlot⟩
    in_InvalidSlot := a1
    ti_InvalidSlot := ti_InvalidSlot
    no_InvalidSlot_what := no_InvalidSlot_what
    xf_InvalidSlot := ⟨ga_InvalidSlot, gg_InvalidSlot, eC_InvalidSlot, hC_InvalidSlot⟩
    is_InvalidSlot := ⟨ic_InvalidSlot, ga_InvalidSlot, gg_InvalidSlot, eC_InvalidSlot, cc_InvalidSlot, z_hn, z_ht, mo_InvalidSlot⟩
    em_InvalidSlot_SlotError := em_InvalidSlot_SlotError
    em_InvalidSlot_InvalidSlot := em_InvalidSlot_InvalidSlot
    kt_InvalidTime_InvalidTime := kt_InvalidTime_InvalidTime
    kt_InvalidTime_InvalidSlot := kt_InvalidTime_InvalidSlot
    n_abs := PySem.W.mg_none_of X G n_abs
    n_all := PySem.W.mg_none_of X G n_all
    n_any := PySem.W.mg_none_of X G n_any
    n_bool := PySem.W.mg_none_of X G n_bool
    n_int := PySem.W.mg_none_of X G n_int
    n_isinstance := PySem.W.mg_none_of X G n_isinstance
    n_len := PySem.W.mg_none_of X G n_len
    n_list := PySem.W.mg_none_of X G n_list
    n_max := PySem.W.mg_none_of X G n_max
    n_min := PySem.W.mg_none_of X G n_min
    n_range := PySem.W.mg_none_of X G n_range
    n_str := PySem.W.mg_none_of X G n_str
    n_sum := PySem.W.mg_none_of X G n_sum
    n_tuple := PySem.W.mg_none_of X G n_tuple
    n_zip := PySem.W.mg_none_of X G n_zip
  }
  exact ⟨(PySem.W.fnOf "law" "law" (defArgs st_c_law) (defBody st_c_law) (defScope st_c_law) .none kV15 dc15 pm15 an15 cd15 ct15), fun s v => .of_eq rfl, fun base _ _ => ok_c_law T⟩
theorem walk {l : PySem.W.OpenLaw} {q : Program} {loose : List Str} {XP : (Str → Option Value) → Heap → Prop} {YP : World → Heap → Prop} {d : DefRec} {K : Params → PySem.W.Frag} (hn : l.most = some 63) (hdf : d.params.defaults = [])
    (hY : ∀ (w : World) (h : Heap), YP w h → (K w.params).In h)
    (F : ∀ (w : World) (mg : Str → Option Value) (fa : Addr) (h : Heap), (K w.params).In h → h.Ns mainGlobals mg → mg d.name = some (.ref fa) →
      ∃ fd : FuncData, (∀ (s : Shared) (u : Value), BindsTo s fd ⟨[u], []⟩ [("script", u)]) ∧ ∀ base : Heap, (K w.params).In base → base.Ns mainGlobals mg → FnOk l.prog w (K w.params) mg base (L2.CX l.prog w) 7 fa fd ["script"] (sp_c_law (K w.params))) :
    PySem.W.WalkO q loose XP YP l.row.toRowW d [] (fun f vs => PySem.call f vs) :=
  L2.walk_of (n := 63) (k := 7) (x := "script") (CX := fun w => L2.CX l.prog w) (sp := fun w => sp_c_law (K w.params)) hn (by decide) hdf ⟨rfl, by decide, by decide⟩ hY F (fun _ _ a ns hl _ hS => ⟨a, ns, rfl, hS, hl, fun _ => rfl⟩)
    fun _ _ _ _ _ z => by obtain ⟨_, _, _, _, _, _, _, _, _, _, _, _, z⟩ := z; exact z
end K36
open PySem PySem.W PyProof.Rows
set_option maxRecDepth 100000 in
set_option maxHeartbeats 0 in
theorem PySem.Challenge.cw_slotwork_k36_whole_times_in_spans_holds : PySem.Challenge.rw_slotwork_k36_whole_times_in_spans.Holds := by
  w_on; o_law; k_head; (case hw => w_witness2)
  k_fill
  refine K36.walk (l := PySem.Challenge.rw_slotwork_k36_whole_times_in_spans) rfl rfl (fun w h Y => PySem.W.kIn_of Y) ?F
  case F =>
    intro w mg fa h KX G hmg
    refine' K36.all_mk KX G hmg ?g_SlotError ?g_InvalidTime ?g_InvalidSlot ?a0 ?l0 ?c0 ?k0 ?a1 ?l1 ?c1 ?k1 ?a2 ?l2 ?c2 ?k2 ?a3 ?l3 ?c3 ?k3 ?a4 ?l4 ?c4 ?k4 ?a5 ?l5 ?c5 ?k5 ?a6 ?l6 ?c6 ?k6 ?a7 ?l7 ?c7 ?k7 ?a8 ?l8 ?c8 ?k8 ?a9 ?l9 ?c9 ?k9 ?a10 ?l10 ?c10 ?k10 ?a11 ?l11 ?c11 ?k11 ?a12 ?l12 ?c12 ?k12 ?a13 ?l13 ?c13 ?k13 ?a14 ?l14 ?c14 ?k14 ?a15 ?l15 ?c15 ?k15 ?b1_SlotError ?b2_SlotError ?b3_SlotError ?x_InvalidTime ?rv_InvalidTime ?sa_InvalidTime ?ga_InvalidTime ?gg_InvalidTime ?kC_InvalidTime ?eC_InvalidTime ?tC_InvalidTime ?hC_InvalidTime ?ic_InvalidTime ?cc_InvalidTime ?mo_InvalidTime ?ti_InvalidTime ?no_InvalidTime_what ?em_InvalidTime_SlotError ?em_InvalidTime_InvalidTime ?x_InvalidSlot ?rv_InvalidSlot ?sa_InvalidSlot ?ga_InvalidSlot ?gg_InvalidSlot ?kC_InvalidSlot ?eC_InvalidSlot ?tC_InvalidSlot ?hC_InvalidSlot ?ic_InvalidSlot ?cc_InvalidSlot ?mo_InvalidSlot ?ti_InvalidSlot ?no_InvalidSlot_what ?em_InvalidSlot_SlotError ?em_InvalidSlot_InvalidSlot ?z_hn ?z_ht ?kt_InvalidTime_InvalidTime ?kt_InvalidTime_InvalidSlot ?n_abs ?n_all ?n_any ?n_bool ?n_int ?n_isinstance ?n_len ?n_list ?n_max ?n_min ?n_range ?n_str ?n_sum ?n_tuple ?n_zip
    (case g_SlotError => first | k_is | rfl | decide +kernel)
    (case g_InvalidTime => first | k_is | rfl | decide +kernel)
    (case g_InvalidSlot => first | k_is | rfl | decide +kernel)
    (case a0 => first | k_is | rfl | decide +kernel)
    (case l0 => first | k_is | rfl | decide +kernel)
    (case c0 => first | k_is | rfl | decide +kernel)
    (case k0 => first | k_is | rfl | decide +kernel)
    (case a1 => first | k_is | rfl | decide +kernel)
    (case l1 => first | k_is | rfl | decide +kernel)
    (case c1 => first | k_is | rfl | decide +kernel)
    (case k1 => first | k_is | rfl | decide +kernel)
    (case a2 => first | k_is | rfl | decide +kernel)
    (case l2 => first | k_is | rfl | decide +kernel)
    (case c2 => first | k_is | rfl | decide +kernel)
    (case k2 => first | k_is | rfl | decide +kernel)
    (case a3 => first | k_is | rfl | decide +kernel)
    (case l3 => first | k_is | rfl | decide +kernel)
    (case c3 => first | k_is | rfl | decide +kernel)
    (case k3 => first | k_is | rfl | decide +kernel)
    (case a4 => first | k_is | rfl | decide +kernel)
    (case l4 => first | k_is | rfl | decide +kernel)
    (case c4 => first | k_is | rfl | decide +kernel)
    (case k4 => first | k_is | rfl | decide +kernel)
    (case a5 => first | k_is | rfl | decide +kernel)
    (case l5 => first | k_is | rfl | decide +kernel)
    (case c5 => first | k_is | rfl | decide +kernel)
    (case k5 => first | k_is | rfl | decide +kernel)
    (case a6 => first | k_is | rfl | decide +kernel)
    (case l6 => first | k_is | rfl | decide +kernel)
    (case c6 => first | k_is | rfl | decide +kernel)
    (case k6 => first | k_is | rfl | decide +kernel)
    (case a7 => first | k_is | rfl | decide +kernel)
    (case l7 => first | k_is | rfl | decide +kernel)
    (case c7 => first | k_is | rfl | decide +kernel)
    (case k7 => first | k_is | rfl | decide +kernel)
    (case a8 => first | k_is | rfl | decide +kernel)
    (case l8 => first | k_is | rfl | decide +kernel)
    (case c8 => first | k_is | rfl | decide +kernel)
    (case k8 => first | k_is | rfl | decide +kernel)
    (case a9 => first | k_is | rfl | decide +kernel)
    (case l9 => first | k_is | rfl | decide +kernel)
    (case c9 => first | k_is | rfl | decide +kernel)
    (case k9 => first | k_is | rfl | decide +kernel)
    (case a10 => first | k_is | rfl | decide +kernel)
    (case l10 => first | k_is | rfl | decide +kernel)
    (case c10 => first | k_is | rfl | decide +kernel)
    (case k10 => first | k_is | rfl | decide +kernel)
    (case a11 => first | k_is | rfl | decide +kernel)
    (case l11 => first | k_is | rfl | decide +kernel)
    (case c11 => first | k_is | rfl | decide +kernel)
    (case k11 => first | k_is | rfl | decide +kernel)
    (case a12 => first | k_is | rfl | decide +kernel)
    (case l12 => first | k_is | rfl | decide +kernel)
    (case c12 => first | k_is | rfl | decide +kernel)
    (case k12 => first | k_is | rfl | decide +kernel)
    (case a13 => first | k_is | rfl | decide +kernel)
    (case l13 => first | k_is | rfl | decide +kernel)
    (case c13 => first | k_is | rfl | decide +kernel)
    (case k13 => first | k_is | rfl | decide +kernel)
    (case a14 => first | k_is | rfl | decide +kernel)
    (case l14 => first | k_is | rfl | decide +kernel)
    (case c14 => first | k_is | rfl | decide +kernel)
    (case k14 => first | k_is | rfl | decide +kernel)
    (case a15 => first | k_is | rfl | decide +kernel)
    (case l15 => first | k_is | rfl | decide +kernel)
    (case c15 => first | k_is | rfl | decide +kernel)
    (case k15 => first | k_is | rfl | decide +kernel)
    (case b1_SlotError => first | k_is | rfl | decide +kernel)
    (case b2_SlotError => first | k_is | rfl | decide +kernel)
    (case b3_SlotError => first | k_is | rfl | decide +kernel)
    (case x_InvalidTime => first | k_is | rfl | decide +kernel)
    (case rv_InvalidTime => first | k_is | rfl | decide +kernel)
    (case sa_InvalidTime => first | k_is | rfl | decide +kernel)
    (case ga_InvalidTime => first | k_is | rfl | decide +kernel)
    (case gg_InvalidTime => first | k_is | rfl | decide +kernel)
    (case kC_InvalidTime => first | k_is | rfl | decide +kernel)
    (case eC_InvalidTime => first | k_is | rfl | decide +kernel)
    (case tC_InvalidTime => first | k_is | rfl | decide +kernel)
    (case hC_InvalidTime => first | k_is | rfl | decide +kernel)
    (case ic_InvalidTime => first | k_is | rfl | decide +kernel)
    (case cc_InvalidTime => first | k_is | rfl | decide +kernel)
    (case mo_InvalidTime => first | k_is | rfl | decide +kernel)
    (case ti_InvalidTime => first | k_is | rfl | decide +kernel)
    (case no_InvalidTime_what => first | k_is | rfl | decide +kernel)
    (case em_InvalidTime_SlotError => first | k_is | rfl | decide +kernel)
    (case em_InvalidTime_InvalidTime => first | k_is | rfl | decide +kernel)
    (case x_InvalidSlot => first | k_is | rfl | decide +kernel)
    (case rv_InvalidSlot => first | k_is | rfl | decide +kernel)
    (case sa_InvalidSlot => first | k_is | rfl | decide +kernel)
    (case ga_InvalidSlot => first | k_is | rfl | decide +kernel)
    (case gg_InvalidSlot => first | k_is | rfl | decide +kernel)
    (case kC_InvalidSlot => first | k_is | rfl | decide +kernel)
    (case eC_InvalidSlot => first | k_is | rfl | decide +kernel)
    (case tC_InvalidSlot => first | k_is | rfl | decide +kernel)
    (case hC_InvalidSlot => first | k_is | rfl | decide +kernel)
    (case ic_InvalidSlot => first | k_is | rfl | decide +kernel)
    (case cc_InvalidSlot => first | k_is | rfl | decide +kernel)
    (case mo_InvalidSlot => first | k_is | rfl | decide +kernel)
    (case ti_InvalidSlot => first | k_is | rfl | decide +kernel)
    (case no_InvalidSlot_what => first | k_is | rfl | decide +kernel)
    (case em_InvalidSlot_SlotError => first | k_is | rfl | decide +kernel)
    (case em_InvalidSlot_InvalidSlot => first | k_is | rfl | decide +kernel)
    (case z_hn => first | k_is | rfl | decide +kernel)
    (case z_ht => first | k_is | rfl | decide +kernel)
    (case kt_InvalidTime_InvalidTime => first | k_is | rfl | decide +kernel)
    (case kt_InvalidTime_InvalidSlot => first | k_is | rfl | decide +kernel)
    (case n_abs => first | k_is | rfl | decide +kernel)
    (case n_all => first | k_is | rfl | decide +kernel)
    (case n_any => first | k_is | rfl | decide +kernel)
    (case n_bool => first | k_is | rfl | decide +kernel)
    (case n_int => first | k_is | rfl | decide +kernel)
    (case n_isinstance => first | k_is | rfl | decide +kernel)
    (case n_len => first | k_is | rfl | decide +kernel)
    (case n_list => first | k_is | rfl | decide +kernel)
    (case n_max => first | k_is | rfl | decide +kernel)
    (case n_min => first | k_is | rfl | decide +kernel)
    (case n_range => first | k_is | rfl | decide +kernel)
    (case n_str => first | k_is | rfl | decide +kernel)
    (case n_sum => first | k_is | rfl | decide +kernel)
    (case n_tuple => first | k_is | rfl | decide +kernel)
    (case n_zip => first | k_is | rfl | decide +kernel)
