import PyProof.Rows.All
import Wide.All
import OpenK.AllK
import Wide.FinOn
import HandS.ForMost
import HandS.ForExc
import HandS.ExcInit
import HandS.ExcField
import HandS.IsInst
import HandS.Style
import HandS.Gcd
import HandS.Wide
import HandS.Deep
import HandS.Flow
import HandS.Zip
import HandS.Evl
import HandS.Walk
import HandS.SortInts
import HandS.Conv
import HandS.ExcValue
import KE.KExcIs
import PySem.Challenge.RW_slotwork_k34_months_and_weeks
set_option Elab.async false
set_option linter.all false
set_option maxRecDepth 100000
set_option maxHeartbeats 4000000
namespace Sw
open PySem PySem.Spec PyProof.Rows L2
section
variable {X : Cx}
/-- what the written part says of the own class B over ValueError, so that B.__init__(self, ..) is ValueError's -/
structure BaseC (K : PySem.W.Frag) (B : Addr) : Prop where
  sp : PySem.W.specialIn K (.ref B) "__getattribute__" = some (some (.builtin "type.__getattribute__"))
  rd : PySem.W.readsIn K B (.type "type") = true
  iv : PySem.W.findCls K (.ref B) (.type "type") "__init__" = some (.val (.builtin "ValueError.__init__"))
theorem pe_binit {x : Str} {B : Addr} {p1 p2 pos : Pos} {e : Expr} {es : List Expr} {ta : TA} {pl : Sem Bool} (T : BaseC X.K B) (hg : Gl X x) (hm : X.mg x = some (.ref B)) (ha : PA X (e :: es) ta)
    (hdb : (x == ("__debug__" : Str)) = false := by decide)
    (hc : eval (.Call (.Attribute (.Name x p1) "__init__" p2) (e :: es) [] pos) X.env = (do
      let o ← eval (.Name x p1) X.env
      standAt p2.atName
      let (g, fst) ← holding [o] (getMethod o "__init__" pl)
      callWith pos g fst (backTo pos (starEach (e :: es) X.env)) (backToKw pos (keywordEach [] X.env))) := by rfl)
    (he : starEach (e :: es) X.env = (false, eval e X.env) :: starEach es X.env := by rfl) (hpl : (backTo pos (starEach es X.env)).any (·.1) = false := by rfl) :
    PE X (.Call (.Attribute (.Name x p1) "__init__" p2) (e :: es) [] pos) (tVeI X.K ta) := by
  refine ⟨fun pins s σ H Q I h => ?_⟩
  refine PySem.W.methodCall_KW (ld_glob I hg hm ?_ hdb) hc
  refine PySem.W.method_cls I.kIn T.sp ?_
  refine PySem.W.cls_value I.kIn T.rd T.iv (by decide +kernel) ?_
  refine PyProof.Rows.callWith_method1 (thn (ha.run pos pins _ σ H _ (I.tok _) h) fun us s1 ⟨vs, H1, I1, r1, a, C, ws, ev, hl, T', ea, q⟩ => ?_) he hpl
  subst ev
  cases r1 with
  | @cons _ u0 _ ur ra rw' =>
    obtain rfl : u0 = Value.ref a := ra
    refine oinit_ok T' I1 ea ?_ fun s' J => ⟨.non, H1, J, rfl, q⟩
    rw [← Paired.length rw', sizeLine_eq]
    omega

/-- isinstance(error, c), error the exception that the suite holds, at a, of the class at D -/
structure IsC (K : PySem.W.Frag) (D : Addr) : Prop where
  hc : (PySem.W.clsIn K D).isSome = true
  hg : PySem.W.findIn K (.ref D) "__getattribute__" = some (some (.builtin "BaseException.__getattribute__"))
  hk : PySem.W.findIn K (.ref D) "__getattr__" = some none
  hs : PySem.W.subIn K (.ref D) (.type "BaseException") = some true
  ha : PySem.W.findIn K (.ref D) "__class__" = some (some (.builtin "object.__class__"))
  hn : PySem.W.specialIn K (.builtin "object.__class__") "__get__" = some (some (.builtin "getset_descriptor.__get__"))
  ht : PySem.W.takesIn K (.builtin "object.__class__") = some true
  hm : PySem.W.mroIn K D (.type "object") = some true
def rIsX (K : PySem.W.Frag) (a : Addr) (cls : Value) (d : Option Addr) : List V → Hp → VK → Prop := fun xs H Q =>
  ∃ (D C : Addr) (b : Bool) (dd : Addr) (fs : List (Str × V)), xs = [.ref a, .ref C] ∧ cls = .ref D ∧ IsC K D ∧ d = some dd ∧ H dd = some (.xd fs) ∧ PySem.W.kitOne K (.ref D) (.ref C) = some b ∧ Q (.bl b) H
theorem call_isX {a : Addr} {cls : Value} {d : Option Addr} {oe : Obj} {pn : List (Addr × Obj)} (hz : Zc cls d oe) (hf : ∃ vs, oe.data = .fields vs) : CallR (X.suite a ((a, oe) :: pn)) (.builtin "isinstance") (rIsX X.K a cls d) := by
  intro pins s σ H xs us Q I r h
  obtain ⟨D, C, b, dd, fs, rfl, rfl, T, rfl, ea, e, q⟩ := h
  cases r with
  | cons rx rr =>
    cases rr with
    | cons rt rr =>
      cases rr
      cases rx
      cases rt
      have hget := (I.pin (a, oe) (List.mem_append_left _ List.mem_cons_self)).1
      obtain ⟨mA, hns, hr⟩ := (show ObjOk X.prog X.w H s.heap dd (.xd fs) from I.hok dd _ ea)
      obtain ⟨od, ho, hl⟩ := lookIn_ns hns
      obtain ⟨vs, hd⟩ := hf
      have J : PySem.W.InstAt s.heap a oe D (some od) := ⟨hget, hz.1, by unfold PySem.W.notCls; rw [hd] <;> rfl, by rw [hz.2]; exact ho⟩
      exact PySem.W.kia_one (PySem.W.kitx_exc T.hc T.hg T.hk T.hs T.ha T.hn T.ht T.hm) I.kIn J e (fun z => nomatch z) fun tk => ⟨.bl b, H, I.tok tk, rfl, q⟩
end

/-! ### // by a divisor of any sign, of many digits -/
def CDivZ (_ j : Int) : Prop := j ≠ 0 ∧ j.natAbs.log2 < 9000
theorem op_fdivZ {X : Cx} : OpR X (binaryOp .FloorDiv) (rI CDivZ fun i j => .int (i.fdiv j)) := opI fun i j _ _ _ _ _ hc k => floordiv_int hc.1 k (.inl (PyProof.noPylong_of_log2 hc.2))
theorem cdivZ_of {i j : Int} {b : Nat} (h : j ≠ 0) (hb : j.natAbs < 2 ^ b) (h0 : 0 < b) (h9 : b ≤ 9000) : CDivZ i j := ⟨h, Nat.lt_of_lt_of_le (PySem.Flt.log2_lt_of h0 hb) h9⟩

/-! ### heaps -/
theorem upd_self {H : Hp} {p : Addr} {o : HO} (h : H p = some o) : upd H p o = H := by
  funext b
  by_cases e : b = p
  · rw [e, upd_same, h]
  · rw [upd_ne e]
theorem _root_.L2.Same.new {H : Hp} {p : Addr} {o : HO} (h : H p = none) : Same H (upd H p o) := fun b u e => by
  rw [upd_ne (ne_of_none e h)]
  exact e
theorem _root_.L2.Same.then_new {H H' : Hp} {p : Addr} {o : HO} (e : Same H H') (h : H' p = none) : Same H (upd H' p o) := e.trans (Same.new h)
/-- what H does not know may change -/
theorem _root_.L2.Same.mut {H H' : Hp} {p : Addr} {o : HO} (e : Same H H') (h : H p = none) : Same H (upd H' p o) := fun b u ha => by
  rw [upd_ne (ne_of_none ha h)]
  exact e b u ha
theorem _root_.L2.Same.tup {K : PySem.W.Frag} {H H' : Hp} {a : Addr} {xs : List V} (e : Same H H') (h : SqT K H a xs) : SqT K H' a xs := by
  rcases h with (h | ⟨o, h⟩) | h
  · exact .inl (.inl (e _ _ h))
  · exact .inl (.inr ⟨o, e _ _ h⟩)
  · exact .inr h

theorem same_none {H : Hp} : Same (fun _ => none) H := fun _ _ e => by cases e

/-! ### raise C(w) -/
/-- C(w) is raised, w its what -/
def raisesW (C : Addr) (w : Str) (H : Hp) (E : XK) : Prop := ∀ d H', Same H H' → H' d = some (.xd [("what", .str w)]) → E (.ref C) (some d) H'
theorem raisesW.mono {C : Addr} {w : Str} {H H' : Hp} {E : XK} (h : raisesW C w H E) (s : Same H H') : raisesW C w H' E := fun d H2 s2 hd => h d H2 (s.trans s2) hd
def sp_exinit (C : Addr) : Sp := fun vs H Q _ => ∃ (x : Addr) (w : Str), vs = [.ref x, .str w] ∧ H x = some (exo x C none) ∧ w.length ≤ 1000 ∧ ∀ dx, H dx = none → dx ≠ x → Q .non (upd (upd H dx (exd dx [("what", .str w)])) x (exo x C (some dx)))
theorem raise_ok {C : Addr} {w : Str} {H : Hp} {E : XK} (h : raisesW C w H E) (hl : w.length ≤ 1000) : ∀ a, H a = none → sp_exinit C (.ref a :: ([.str w] ++ [])) (upd H a (exo a C none))
    (fun v H2 => v = .non ∧ ∃ (d : Addr) (fs : List (Str × V)), H2 a = some (exo a C (some d)) ∧ H2 d = some (exd d fs) ∧ H d = none ∧ E (.ref C) (some d) (upd (del H2 a) d (.xd fs))) (fun _ _ _ => False) := fun a ha =>
  ⟨a, w, rfl, upd_same, hl, fun dx hd hne => by
    have hd' : H dx = none := by rw [upd_ne hne] at hd; exact hd
    refine ⟨rfl, dx, _, upd_same, by rw [upd_ne hne, upd_same], hd', h dx _ (fun b o e => ?_) upd_same⟩
    have n1 : b ≠ dx := ne_of_none e hd'
    have n2 : b ≠ a := ne_of_none e ha
    rw [upd_ne n1, del_ne n2, upd_ne n2, upd_ne n1, upd_ne n2]
    exact e⟩

/-! ### the deck: its numbers in the order in which they are taken -/
def dk (D : List Int) : HO := .lst (D.reverse.map V.int)
def tk (D : List Int) (m : Int) : Int := D.headD 0 % m
theorem tk_nonneg (D : List Int) {m : Int} (h : 0 < m) : 0 ≤ tk D m := Int.emod_nonneg _ (by omega)
theorem tk_lt (D : List Int) {m : Int} (h : 0 < m) : tk D m < m := Int.emod_lt_of_pos _ h
def sp_take0 : Sp := fun vs H Q _ => ∃ (d : Addr) (D : List Int) (m : Int), vs = [.ref d, .int m] ∧ H d = some (dk D) ∧ 0 < m ∧ Q (.int (tk D m)) (upd H d (dk D.tail))
@[irreducible] def sp_take : Sp := sp_take0
theorem sp_take_eq : sp_take = sp_take0 := by unfold sp_take; rfl
theorem dk_last {x : Int} {D : List Int} : ((x :: D).reverse.map V.int)[((x :: D).reverse.map V.int).length - 1]? = some (V.int x) := by simp
theorem dk_drop {x : Int} {D : List Int} : ((x :: D).reverse.map V.int).dropLast = D.reverse.map V.int := by simp
def sp_deck (K : PySem.W.Frag) : Sp := fun vs H Q _ => ∃ (sa : Addr) (ns : List Int) (c e : Int), vs = [.ref sa, .int c, .int e] ∧ SqL K H sa (ns.map V.int) ∧ ns.length ≤ 1000 ∧ 0 ≤ c ∧ c ≤ 1000 ∧ 0 ≤ e ∧ e ≤ 100 ∧
  ∀ (D : List Int) (p : Addr) (H' : Hp), H p = none → Same H H' → H' p = some (dk D) → Q (.ref p) H'

/-! ### data: all that is known to a heap stays -/
mutual
theorem dp_same {K : PySem.W.Frag} {H H' : Hp} (s : Same H H') : ∀ (d : PyData) (v : V), Dp K H v d → Dp K H' v d
  | .none, _, h => by cases h; exact .non
  | .bool b, _, h => by cases h; exact .bl b
  | .int i, _, h => by cases h; exact .int i
  | .str x, _, h => by cases h; exact .str x
  | .list ds, _, h => by
    cases h with
    | lst h1 h2 => exact .lst (s.seq h1) (dpAll_same s ds _ h2)
  | .tuple ds, _, h => by
    cases h with
    | tup h1 h2 => exact .tup (s.tup h1) (dpAll_same s ds _ h2)
  | .dict _, _, h => nomatch h
theorem dpAll_same {K : PySem.W.Frag} {H H' : Hp} (s : Same H H') : ∀ (ds : List PyData) (vs : List V), DpAll K H vs ds → DpAll K H' vs ds
  | [], _, h => by cases h; exact .nil
  | d :: ds, _, h => by
    cases h with
    | cons h1 h2 => exact .cons (dp_same s d _ h1) (dpAll_same s ds _ h2)
end
/-! data all of whose cells lie in S -/
mutual
inductive DN (S : Addr → Prop) (H : Hp) : V → PyData → Prop
  | non : DN S H .non .none
  | bl (b : Bool) : DN S H (.bl b) (.bool b)
  | int (i : Int) : DN S H (.int i) (.int i)
  | str (x : Str) : DN S H (.str x) (.str x)
  | lst {a : Addr} {xs : List V} {ds : List PyData} : S a → H a = some (.lst xs) → DNs S H xs ds → DN S H (.ref a) (.list ds)
  | tup {a : Addr} {xs : List V} {ds : List PyData} : S a → H a = some (.tup xs) → DNs S H xs ds → DN S H (.ref a) (.tuple ds)
inductive DNs (S : Addr → Prop) (H : Hp) : List V → List PyData → Prop
  | nil : DNs S H [] []
  | cons {v : V} {vs : List V} {d : PyData} {ds : List PyData} : DN S H v d → DNs S H vs ds → DNs S H (v :: vs) (d :: ds)
end
mutual
theorem DN.dp {K : PySem.W.Frag} {S : Addr → Prop} {H : Hp} : ∀ (d : PyData) (v : V), DN S H v d → Dp K H v d
  | .none, _, h => by cases h; exact .non
  | .bool b, _, h => by cases h; exact .bl b
  | .int i, _, h => by cases h; exact .int i
  | .str x, _, h => by cases h; exact .str x
  | .list ds, _, h => by
    cases h with
    | lst _ h1 h2 => exact .lst (SqL.of h1) (DNs.dp ds _ h2)
  | .tuple ds, _, h => by
    cases h with
    | tup _ h1 h2 => exact .tup (SqT.of h1) (DNs.dp ds _ h2)
  | .dict _, _, h => nomatch h
theorem DNs.dp {K : PySem.W.Frag} {S : Addr → Prop} {H : Hp} : ∀ (ds : List PyData) (vs : List V), DNs S H vs ds → DpAll K H vs ds
  | [], _, h => by cases h; exact .nil
  | d :: ds, _, h => by
    cases h with
    | cons h1 h2 => exact .cons (DN.dp d _ h1) (DNs.dp ds _ h2)
end
mutual
theorem DN.mono {S S' : Addr → Prop} {H H' : Hp} (hs : ∀ a, S a → S' a) (hh : ∀ a o, S a → H a = some o → H' a = some o) : ∀ (d : PyData) (v : V), DN S H v d → DN S' H' v d
  | .none, _, h => by cases h; exact .non
  | .bool b, _, h => by cases h; exact .bl b
  | .int i, _, h => by cases h; exact .int i
  | .str x, _, h => by cases h; exact .str x
  | .list ds, _, h => by
    cases h with
    | lst h0 h1 h2 => exact .lst (hs _ h0) (hh _ _ h0 h1) (DNs.mono hs hh ds _ h2)
  | .tuple ds, _, h => by
    cases h with
    | tup h0 h1 h2 => exact .tup (hs _ h0) (hh _ _ h0 h1) (DNs.mono hs hh ds _ h2)
  | .dict _, _, h => nomatch h
theorem DNs.mono {S S' : Addr → Prop} {H H' : Hp} (hs : ∀ a, S a → S' a) (hh : ∀ a o, S a → H a = some o → H' a = some o) : ∀ (ds : List PyData) (vs : List V), DNs S H vs ds → DNs S' H' vs ds
  | [], _, h => by cases h; exact .nil
  | d :: ds, _, h => by
    cases h with
    | cons h1 h2 => exact .cons (DN.mono hs hh d _ h1) (DNs.mono hs hh ds _ h2)
end
theorem DNs.snoc {S : Addr → Prop} {H : Hp} {v : V} {d : PyData} (hv : DN S H v d) : ∀ {vs : List V} {ds : List PyData}, DNs S H vs ds → DNs S H (vs ++ [v]) (ds ++ [d])
  | _, _, .nil => .cons hv .nil
  | _, _, .cons h t => .cons h (DNs.snoc hv t)
theorem DNs.length {S : Addr → Prop} {H : Hp} : ∀ {vs : List V} {ds : List PyData}, DNs S H vs ds → vs.length = ds.length
  | _, _, .nil => rfl
  | _, _, .cons _ t => by rw [List.length_cons, List.length_cons, DNs.length t]
theorem dpAll_length {K : PySem.W.Frag} {H : Hp} : ∀ {vs : List V} {ds : List PyData}, DpAll K H vs ds → vs.length = ds.length
  | _, _, .nil => rfl
  | _, _, .cons _ t => by rw [List.length_cons, List.length_cons, dpAll_length t]
theorem dpAll_get {K : PySem.W.Frag} {H : Hp} : ∀ {vs : List V} {ds : List PyData} {i : Nat} {v : V}, DpAll K H vs ds → vs[i]? = some v → ∃ d, ds[i]? = some d ∧ Dp K H v d
  | _, _, i, _, .nil, e => by simp at e
  | _, _, 0, _, .cons h _, e => by
    have := Option.some.inj e
    subst this
    exact ⟨_, rfl, h⟩
  | _, _, i + 1, _, .cons _ t, e => by
    have e' := e
    rw [List.getElem?_cons_succ] at e'
    obtain ⟨d, h1, h2⟩ := dpAll_get t e'
    exact ⟨d, by rw [List.getElem?_cons_succ]; exact h1, h2⟩

/-! ### small data: nested at most n deep, rows of at most 1000 -/
mutual
def okD : Nat → PyData → Bool
  | _, .none => true
  | _, .bool _ => true
  | _, .int _ => true
  | _, .str x => PyData.strOk x
  | 0, .list _ => false
  | n + 1, .list xs => decide (xs.length ≤ 1000) && okDs n xs
  | 0, .tuple _ => false
  | n + 1, .tuple xs => decide (xs.length ≤ 1000) && okDs n xs
  | _, .dict _ => false
def okDs : Nat → List PyData → Bool
  | _, [] => true
  | n, x :: xs => okD n x && okDs n xs
end
/-! as okD, the rows of any length -/
mutual
def okDx : Nat → PyData → Bool
  | _, .none => true
  | _, .bool _ => true
  | _, .int _ => true
  | _, .str x => PyData.strOk x
  | 0, .list _ => false
  | n + 1, .list xs => okDxs n xs
  | 0, .tuple _ => false
  | n + 1, .tuple xs => okDxs n xs
  | _, .dict _ => false
def okDxs : Nat → List PyData → Bool
  | _, [] => true
  | n, x :: xs => okDx n x && okDxs n xs
end
theorem okDs_get {n : Nat} : ∀ {ds : List PyData} {i : Nat} {d : PyData}, okDs n ds = true → ds[i]? = some d → okD n d = true
  | [], i, d, _, e => by simp at e
  | x :: xs, 0, d, h, e => by
    have := Option.some.inj e
    subst this
    simp only [okDs, Bool.and_eq_true] at h
    exact h.1
  | x :: xs, i + 1, d, h, e => by
    simp only [okDs, Bool.and_eq_true] at h
    rw [List.getElem?_cons_succ] at e
    exact okDs_get h.2 e
mutual
theorem okDx_lay : ∀ (n : Nat) (d : PyData), okDx n d = true → d.canLay0 = true ∧ d.depth ≤ n
  | _, .none, _ => by simp [PyData.canLay0, PyData.depth]
  | _, .bool _, _ => by simp [PyData.canLay0, PyData.depth]
  | _, .int _, _ => by simp [PyData.canLay0, PyData.depth]
  | _, .str x, h => by
    simp only [okDx] at h
    simp [PyData.canLay0, PyData.depth, h]
  | 0, .list _, h => by simp [okDx] at h
  | n + 1, .list xs, h => by
    simp only [okDx] at h
    obtain ⟨h1, h2⟩ := okDxs_lay n xs h
    simp only [PyData.canLay0, PyData.depth]
    exact ⟨h1, by omega⟩
  | 0, .tuple _, h => by simp [okDx] at h
  | n + 1, .tuple xs, h => by
    simp only [okDx] at h
    obtain ⟨h1, h2⟩ := okDxs_lay n xs h
    simp only [PyData.canLay0, PyData.depth]
    exact ⟨h1, by omega⟩
  | _, .dict _, h => by simp [okDx] at h
theorem okDxs_lay : ∀ (n : Nat) (ds : List PyData), okDxs n ds = true → PyData.canLayAll0 ds = true ∧ PyData.depthAll ds ≤ n
  | _, [], _ => by simp [PyData.canLayAll0, PyData.depthAll]
  | n, x :: xs, h => by
    simp only [okDxs, Bool.and_eq_true] at h
    obtain ⟨a1, a2⟩ := okDx_lay n x h.1
    obtain ⟨b1, b2⟩ := okDxs_lay n xs h.2
    simp only [PyData.canLayAll0, PyData.depthAll, a1, b1]
    exact ⟨rfl, by omega⟩
end
theorem okDx_shaped {n : Nat} {d : PyData} (h : okDx n d = true) (hn : n ≤ 64) : SeqAt.shaped d = true := by
  obtain ⟨h1, h2⟩ := okDx_lay n d h
  show (d.canLay0 && decide (d.depth ≤ 64)) = true
  rw [h1, decide_eq_true (by omega)]
  rfl

/-! ### what _law_plain tells of data -/
mutual
def plainD : PyData → PyData
  | .list xs => .list (.bool true :: plainDs xs)
  | .tuple xs => .list (.bool false :: plainDs xs)
  | .none => .str "None"
  | .bool b => .str (if b then "True" else "False")
  | .int i => .list [.bool false, .int i]
  | .str x => .list [.bool true, .str x]
  | .dict _ => .str "another"
def plainDs : List PyData → List PyData
  | [] => []
  | x :: xs => plainD x :: plainDs xs
end
theorem plainDs_length : ∀ ds : List PyData, (plainDs ds).length = ds.length
  | [] => rfl
  | x :: xs => by simp only [plainDs, List.length_cons, plainDs_length xs]
theorem plainDs_take {d : PyData} : ∀ {ds : List PyData} {i : Nat}, ds[i]? = some d → plainDs (ds.take (i + 1)) = plainDs (ds.take i) ++ [plainD d]
  | [], i, e => by simp at e
  | x :: xs, 0, e => by
    have := Option.some.inj e
    subst this
    simp [plainDs]
  | x :: xs, i + 1, e => by
    rw [List.getElem?_cons_succ] at e
    have := plainDs_take e
    simp only [List.take_succ_cons, plainDs, this, List.cons_append]
mutual
theorem plainD_ok : ∀ (n : Nat) (d : PyData), okD n d = true → okDx (n + 1) (plainD d) = true
  | n, .none, _ => by simp only [plainD, okDx]; decide +kernel
  | n, .bool b, _ => by cases b <;> simp only [plainD, okDx] <;> decide +kernel
  | n, .int i, _ => by simp only [plainD, okDx, okDxs, Bool.and_self]
  | n, .str x, h => by
    simp only [okD] at h
    simp [plainD, okDx, okDxs, h]
  | 0, .list _, h => by simp [okD] at h
  | n + 1, .list xs, h => by
    simp only [okD, Bool.and_eq_true, decide_eq_true_eq] at h
    have := plainDs_ok n xs h.2
    simp [plainD, okDx, okDxs, this]
  | 0, .tuple _, h => by simp [okD] at h
  | n + 1, .tuple xs, h => by
    simp only [okD, Bool.and_eq_true, decide_eq_true_eq] at h
    have := plainDs_ok n xs h.2
    simp [plainD, okDx, okDxs, this]
  | _, .dict _, h => by simp [okD] at h
theorem plainDs_ok : ∀ (n : Nat) (ds : List PyData), okDs n ds = true → okDxs (n + 1) (plainDs ds) = true
  | _, [], _ => by simp [plainDs, okDxs]
  | n, x :: xs, h => by
    simp only [okDs, Bool.and_eq_true] at h
    have a := plainD_ok n x h.1
    have b := plainDs_ok n xs h.2
    simp [plainDs, okDxs, a, b]
end

/-! ### more of the deck -/
def SameBut (d : Addr) (H H' : Hp) : Prop := ∀ b o, b ≠ d → H b = some o → H' b = some o
def sp_number0 : Sp := fun vs H Q _ => ∃ (d : Addr) (D : List Int), vs = [.ref d] ∧ H d = some (dk D) ∧ ∀ (n : Int) (D' : List Int) (H' : Hp), SameBut d H H' → H' d = some (dk D') → n.natAbs < 2 ^ 130 → Q (.int n) H'
@[irreducible] def sp_number : Sp := sp_number0
theorem sp_number_eq : sp_number = sp_number0 := by unfold sp_number; rfl
/-- G: what stands still; the deck at d moves -/
structure Dk (G H : Hp) (d : Addr) (D : List Int) : Prop where
  nd : G d = none
  sm : Same G H
  hd : H d = some (dk D)
section
variable {G H H' : Hp} {d p : Addr} {D D' : List Int} {o : HO}
theorem Dk.take (k : Dk G H d D) : Dk G (upd H d (dk D')) d D' := ⟨k.nd, k.sm.mut k.nd, upd_same⟩
theorem Dk.new (k : Dk G H d D) (h : H p = none) : Dk (upd G p o) (upd H p o) d D := by
  have n : d ≠ p := ne_of_none k.hd h
  refine ⟨by rw [upd_ne n]; exact k.nd, fun b u e => ?_, by rw [upd_ne n]; exact k.hd⟩
  by_cases q : b = p
  · rw [q, upd_same] at e
    rw [q, upd_same]
    exact e
  · rw [upd_ne q] at e
    rw [upd_ne q]
    exact k.sm b u e
theorem Dk.same (k : Dk G H d D) (s : Same H H') : Dk G H' d D := ⟨k.nd, k.sm.trans s, s _ _ k.hd⟩
theorem Dk.but (k : Dk G H d D) (s : SameBut d H H') (h : H' d = some (dk D')) : Dk G H' d D' := ⟨k.nd, fun b u e => s b u (ne_of_none e k.nd) (k.sm b u e), h⟩
theorem Dk.ne (k : Dk G H d D) (h : G p = some o) : p ≠ d := ne_of_none h k.nd
theorem Dk.fresh (k : Dk G H d D) (h : H p = none) : G p = none := k.sm.free h
end
theorem atI_nat' {α : Type} {xs : List α} {i : Int} {j : Nat} {v : α} (e : i = (j : Int)) (h : xs[j]? = some v) : atI xs i = some v := by
  rw [e]
  exact atI_nat h
theorem atI_ints {ns : List Int} {i : Int} (h0 : 0 ≤ i) (h1 : i < (ns.length : Int)) : ∃ z, atI (ns.map V.int) i = some (.int z) ∧ z ∈ ns := by
  have hl : i.toNat < ns.length := by omega
  refine ⟨ns[i.toNat], atI_nat' (j := i.toNat) (by omega) ?_, List.getElem_mem hl⟩
  rw [List.getElem?_map, List.getElem?_eq_getElem hl]
  rfl
theorem small1000000 {n : Nat} (h : n ≤ 1000000) : n < sizeLine := by
  rw [sizeLine_eq]
  omega
theorem two_pow_mono {a b : Nat} (h : a ≤ b) : (2 : Int) ^ a ≤ 2 ^ b := by
  have := Nat.pow_le_pow_right (n := 2) (by decide) h
  have e : ∀ c : Nat, ((2 ^ c : Nat) : Int) = (2 : Int) ^ c := fun c => by rw [Int.natCast_pow]; rfl
  rw [← e, ← e]
  omega
/-- x is True -/
def rIsT : R2 := fun x y H Q => (∃ a b : Bool, x = .bl a ∧ y = .bl b ∧ Q (.bl (decide (a = b))) H) ∨ (x = .non ∧ ∃ b, y = .bl b ∧ Q (.bl false) H)
theorem op_isT {X : Cx} : OpR X (compareOp .Is) rIsT := by
  intro pins s σ H x y v u Q I rx ry h
  rcases h with h | ⟨rfl, b, rfl, k⟩
  · exact op_isBl pins s σ H x y v u Q I rx ry h
  · cases (show v = Value.none from rx)
    cases (show u = Value.bool b from ry)
    exact wpAny_is_other rfl (fun z => nomatch z) ⟨.bl false, H, I, rfl, k⟩
theorem kind_l {K : PySem.W.Frag} {H : Hp} {a : Addr} {xs : List V} (h : SqL K H a xs) : TyX K H (.ref a) (.type "list") := by
  rcases h with (h | ⟨o, h⟩) | ⟨o, _, _, h, c, _⟩
  · exact .base (.lst h)
  · exact .base (.frz h)
  · exact .kList h c
theorem kind_t {K : PySem.W.Frag} {H : Hp} {a : Addr} {xs : List V} (h : SqT K H a xs) : TyX K H (.ref a) (.type "tuple") := by
  rcases h with (h | ⟨o, h⟩) | ⟨o, _, _, h, c, _⟩
  · exact .base (.tup h)
  · exact .fTuple h
  · exact .kTuple h c
theorem kit2 {K : PySem.W.Frag} {a b c : String} {r1 r2 : Bool} (h1 : kitB a b = some r1) (h2 : kitB a c = some r2) : PySem.W.kitAny K (.type a) [.type b, .type c] = some (r1 || r2) := by
  cases r1 with
  | true => exact kitAny_cons (b := true) (kit_ty h1) (fun z => nomatch z) fun _ => rfl
  | false =>
    refine kitAny_cons (b := false) (kit_ty h1) (fun _ => ?_) (fun z => nomatch z)
    exact kitAny_cons (b := r2) (kit_ty h2) (fun z => by subst z; exact kitAny_nil) fun z => by subst z; rfl
def sp_plain (K : PySem.W.Frag) (n : Nat) : Sp := fun vs H Q _ => ∃ (v : V) (d : PyData), vs = [v] ∧ Dp K H v d ∧ okD n d = true ∧ ∀ (v' : V) (H' : Hp), Same H H' → DN (fun a => H a = none) H' v' (plainD d) → Q v' H'
/-- isinstance(x, (A, B)), the tuple just made at p -/
theorem isi_pair {K : PySem.W.Frag} {H : Hp} {p : Addr} {x : V} {t A B : String} {r1 r2 : Bool} {Q : VK} (h1 : kitB t A = some r1) (h2 : kitB t B = some r2) (hx : TyX K (upd H p (.tup [.ty A, .ty B])) x (.type t)) (k : Q (.bl (r1 || r2)) (upd H p (.tup [.ty A, .ty B]))) :
    rIsiT K [x, .ref p] (upd H p (.tup [.ty A, .ty B])) Q :=
  ⟨x, p, _, _, _, _, rfl, upd_same, .cons (.ty A) (.cons (.ty B) .nil), hx, kit2 h1 h2, k⟩
theorem _root_.L2.TyX.new {K : PySem.W.Frag} {H : Hp} {x : V} {T : String} {p : Addr} {o : HO} (h : TyX K H x (.type T)) (hp : H p = none) : TyX K (upd H p o) x (.type T) := by
  have s : Same H (upd H p o) := Same.new hp
  generalize e : Value.type T = t at h
  cases h with
  | base b =>
    cases b with
    | non => exact .base .non
    | bl y => exact .base (.bl y)
    | int i => exact .base (.int i)
    | str y => exact .base (.str y)
    | flt y => exact .base (.flt y)
    | lst q => exact .base (.lst (s _ _ q))
    | frz q => exact .base (.frz (s _ _ q))
    | tup q => exact .base (.tup (s _ _ q))
    | dK q => exact .base (.dK (s _ _ q))
    | dT q => exact .base (.dT (s _ _ q))
    | ins q => cases e
  | byt b => exact .byt b
  | set q => exact .set (s _ _ q)
  | kList q c => exact .kList q c
  | kTuple q c => exact .kTuple q c
  | kDict q c => exact .kDict q c
  | fTuple q => exact .fTuple (s _ _ q)
  | fDict q => exact .fDict (s _ _ q)

/-- two plain tellings of the same data are equal -/
theorem plain_same {K : PySem.W.Frag} {S S' : Addr → Prop} {H1 H3 : Hp} {v1 v2 : V} {d : PyData} {Q : VK} {n : Nat} (h1 : DN S H1 v1 (plainD d)) (hs : Same H1 H3) (h2 : DN S' H3 v2 (plainD d)) (ok : okD n d = true) (hn : n ≤ 60) (k : Q (.bl false) H3) : rNeD K v1 v2 H3 Q := by
  have sh := okDx_shaped (plainD_ok n d ok) (by omega)
  refine ⟨plainD d, plainD d, dp_same hs _ _ (DN.dp _ _ h1), DN.dp _ _ h2, sh, sh, ?_⟩
  rw [SeqAt.eqv_refl _ (SeqAt.canLay_of_shaped sh)]
  exact k
/-- .. as a test that then fails -/
theorem plain_test {K : PySem.W.Frag} {S S' : Addr → Prop} {H1 H3 : Hp} {v1 v2 : V} {d : PyData} {Q : Bool → Hp → Prop} (n : Nat) (h1 : DN S H1 v1 (plainD d)) (hs : Same H1 H3) (h2 : DN S' H3 v2 (plainD d)) (ok : okD n d = true) (hn : n ≤ 60) (k : Q false H3) : rNeD K v1 v2 H3 fun x H' => ∃ b, x = .bl b ∧ Q b H' :=
  plain_same h1 hs h2 ok hn ⟨false, rfl, k⟩
theorem gcd_cdiv {x y : Int} (i : Int) (h : y ≠ 0) (hy : y.natAbs < 2 ^ 8000) : CDivZ i ((Nat.gcd x.natAbs y.natAbs : Nat) : Int) ∧ CDivZ i (-((Nat.gcd x.natAbs y.natAbs : Nat) : Int)) := by
  have h1 : Nat.gcd x.natAbs y.natAbs ≤ y.natAbs := Nat.gcd_le_right _ (by omega)
  have h0 : 0 < Nat.gcd x.natAbs y.natAbs := Nat.gcd_pos_of_pos_right _ (by omega)
  generalize hg : Nat.gcd x.natAbs y.natAbs = g at h1 h0
  have hb : g < 2 ^ 8000 := Nat.lt_of_le_of_lt h1 hy
  exact ⟨cdivZ_of (b := 8000) (by omega) (by rw [Int.natAbs_natCast]; exact hb) (by decide) (by decide), cdivZ_of (b := 8000) (by omega) (by rw [Int.natAbs_neg, Int.natAbs_natCast]; exact hb) (by decide) (by decide)⟩
/-- what two ways have in common behind them, shown once -/
theorem cutP {X Y : Prop} (f : X → Y) (x : X) : Y := f x
theorem Dk.weak {G H : Hp} {d : Addr} {D : List Int} (k : Dk G H d D) : Dk (fun _ => none) H d D := ⟨rfl, same_none, k.hd⟩

/-! ### taking from the deck, the heap behind it not told -/
section
variable {Kf : PySem.W.Frag} {G H : Hp} {d l : Addr} {D : List Int} {Q : VK}
theorem take_q (K1 : Dk G H d D) {m : Int} (hm : 0 < m) (k : ∀ z H2, 0 ≤ z → z < m → Dk G H2 d D.tail → Q (.int z) H2) : sp_take [.ref d, .int m] H Q E0 := by
  rw [sp_take_eq]
  exact ⟨d, D, m, rfl, K1.hd, hm, k _ _ (tk_nonneg D hm) (tk_lt D hm) K1.take⟩
/-- .. the heap told -/
theorem take_u {H : Hp} {d : Addr} {D : List Int} {Q : VK} (hd : H d = some (dk D)) {m : Int} (hm : 0 < m) (k : Q (.int (tk D m)) (upd H d (dk D.tail))) : sp_take [.ref d, .int m] H Q E0 := by
  rw [sp_take_eq]
  exact ⟨d, D, m, rfl, hd, hm, k⟩
/-- [n, ..][_law_take(deck, how many)] -/
theorem pick (K1 : Dk G H d D) (hl : H l = none) (ns : List Int) (h : 0 < ns.length) (k : ∀ z H2, z ∈ ns → Dk G H2 d D.tail → Q (.int z) H2) : sp_take [.ref d, .int (ns.length : Int)] (upd H l (.lst (ns.map V.int))) (fun v H2 => rIxL Kf (.ref l) v H2 Q) E0 := by
  rw [sp_take_eq]
  have hm : (0 : Int) < (ns.length : Int) := by omega
  have K2 := K1.new (o := .lst (ns.map V.int)) hl
  have n : d ≠ l := ne_of_none K1.hd hl
  refine ⟨d, D, _, rfl, K2.hd, hm, ?_⟩
  have K3 := K2.take (D' := D.tail)
  obtain ⟨z, hz, hm⟩ := atI_ints (tk_nonneg D hm) (tk_lt D hm)
  refine ⟨l, _, _, _, rfl, rfl, SqL.of (K3.sm _ _ upd_same), hz, k _ _ hm ⟨K1.nd, ?_, K3.hd⟩⟩
  have g : G l = none := K1.sm.free hl
  exact (Same.new g).trans K3.sm
theorem number_q (K1 : Dk G H d D) (k : ∀ n D' H2, n.natAbs < 2 ^ 130 → Dk G H2 d D' → Q (.int n) H2) : sp_number [.ref d] H Q E0 := by
  rw [sp_number_eq]
  exact ⟨d, D, rfl, K1.hd, fun n D' H' s h hn => k n D' H' hn (K1.but s h)⟩
end
theorem abs_nat (x : Int) : (if x < 0 then -x else x) = (x.natAbs : Int) := by split <;> omega

/-! ### fractions in lowest terms -/
/-- the greatest common divisor, with the sign of what is below -/
def frC (x y : Int) : Int := if y < 0 then -((Nat.gcd x.natAbs y.natAbs : Nat) : Int) else ((Nat.gcd x.natAbs y.natAbs : Nat) : Int)
def frA (x y : Int) : Int := x.fdiv (frC x y)
def frB (x y : Int) : Int := y.fdiv (frC x y)
theorem fdiv_mul_self {c p : Int} (h : c ≠ 0) : (c * p).fdiv c = p := Int.mul_fdiv_cancel_left p h
/-- what a fraction in lowest terms is -/
theorem fr_spec {x y : Int} (h : y ≠ 0) : x = frC x y * frA x y ∧ y = frC x y * frB x y ∧ 0 < frB x y ∧ frC x y ≠ 0 ∧ (0 < frC x y ↔ 0 < y) ∧ frB x y ≤ y.natAbs ∧ Nat.gcd (frA x y).natAbs (frB x y).natAbs = 1 := by
  have h0 : 0 < Nat.gcd x.natAbs y.natAbs := Nat.gcd_pos_of_pos_right _ (by omega)
  have hx : frC x y ∣ x := by
    unfold frC
    split
    · exact Int.neg_dvd.mpr (Int.ofNat_dvd_left.mpr (Nat.gcd_dvd_left _ _))
    · exact Int.ofNat_dvd_left.mpr (Nat.gcd_dvd_left _ _)
  have hy : frC x y ∣ y := by
    unfold frC
    split
    · exact Int.neg_dvd.mpr (Int.ofNat_dvd_left.mpr (Nat.gcd_dvd_right _ _))
    · exact Int.ofNat_dvd_left.mpr (Nat.gcd_dvd_right _ _)
  have hn : (frC x y).natAbs = Nat.gcd x.natAbs y.natAbs := by
    unfold frC
    split <;> omega
  have hc0 : frC x y ≠ 0 := by omega
  have hs : (0 < frC x y ↔ 0 < y) := by
    unfold frC
    split <;> constructor <;> omega
  obtain ⟨p, hp⟩ := hx
  obtain ⟨q, hq⟩ := hy
  have e1 : frA x y = p := by
    unfold frA
    generalize frC x y = c at hp hc0
    rw [hp, fdiv_mul_self hc0]
  have e2 : frB x y = q := by
    unfold frB
    generalize frC x y = c at hq hc0
    rw [hq, fdiv_mul_self hc0]
  have na1 : x.natAbs = (frC x y).natAbs * p.natAbs := by
    rw [← Int.natAbs_mul, ← hp]
  have na2 : y.natAbs = (frC x y).natAbs * q.natAbs := by
    rw [← Int.natAbs_mul, ← hq]
  have q0 : q ≠ 0 := fun z => by
    rw [z, Int.mul_zero] at hq
    exact h hq
  refine ⟨by rw [e1]; exact hp, by rw [e2]; exact hq, ?_, hc0, hs, ?_, ?_⟩
  · rw [e2]
    rcases Int.lt_trichotomy q 0 with z | z | z
    · exfalso
      by_cases yp : 0 < y
      · have := Int.mul_neg_of_pos_of_neg (hs.mpr yp) z
        omega
      · have cn : frC x y < 0 := by
          have : ¬ 0 < frC x y := fun w => yp (hs.mp w)
          omega
        have := Int.mul_pos_of_neg_of_neg cn z
        omega
    · exact absurd z q0
    · exact z
  · rw [e2]
    have : q.natAbs ≤ y.natAbs := by
      rw [na2]
      exact Nat.le_mul_of_pos_left _ (by omega)
    omega
  · rw [e1, e2]
    have e3 : Nat.gcd x.natAbs y.natAbs = (frC x y).natAbs * Nat.gcd p.natAbs q.natAbs := by
      rw [na1, na2, Nat.gcd_mul_left]
    rw [hn] at e3
    have : Nat.gcd x.natAbs y.natAbs * Nat.gcd p.natAbs q.natAbs = Nat.gcd x.natAbs y.natAbs * 1 := by omega
    exact Nat.eq_of_mul_eq_mul_left h0 this
def sp_fraction (C : Addr) : Sp := fun vs H Q E => ∃ x y : Int, vs = [.int x, .int y] ∧ y.natAbs < 2 ^ 8000 ∧ (y = 0 → raisesW C "fraction" H E) ∧ (y ≠ 0 → ∀ p, H p = none → Q (.ref p) (upd H p (.tup [.int (frA x y), .int (frB x y)])))
def sp_lawgcd : Sp := fun vs H Q _ => ∃ x y : Int, vs = [.int x, .int y] ∧ Q (.int ((Nat.gcd x.natAbs y.natAbs : Nat) : Int)) H
def sp_lawfraction : Sp := fun vs H Q _ => ∃ x y : Int, vs = [.int x, .int y] ∧ y.natAbs < 2 ^ 8000 ∧ y ≠ 0 ∧ ∀ p, H p = none → Q (.ref p) (upd H p (.tup [.int (frA x y), .int (frB x y)]))

theorem dpAll_ints {K : PySem.W.Frag} {H : Hp} : ∀ ns : List Int, DpAll K H (ns.map V.int) (ns.map PyData.int)
  | [] => .nil
  | n :: ns => .cons (.int n) (dpAll_ints ns)
theorem dp_ints {K : PySem.W.Frag} {H : Hp} {p : Addr} {ns : List Int} (h : SqL K H p (ns.map V.int)) : Dp K H (.ref p) (.list (ns.map PyData.int)) := .lst h (dpAll_ints ns)
theorem okDs_ints {n : Nat} : ∀ ns : List Int, okDs n (ns.map PyData.int) = true
  | [] => by simp [okDs]
  | x :: ns => by simp only [List.map_cons, okDs, okD, Bool.true_and]; exact okDs_ints ns
theorem ok_ints {n : Nat} {ns : List Int} (h : ns.length ≤ 1000) : okD (n + 1) (.list (ns.map PyData.int)) = true := by
  simp only [okD, Bool.and_eq_true, decide_eq_true_eq, List.length_map]
  exact ⟨h, okDs_ints ns⟩
theorem okDx_ints {n : Nat} : ∀ ns : List Int, okDxs n (ns.map PyData.int) = true
  | [] => by simp [okDxs]
  | x :: ns => by simp only [List.map_cons, okDxs, okDx, Bool.true_and]; exact okDx_ints ns
theorem shaped_ints (ns : List Int) : SeqAt.shaped (.list (ns.map PyData.int)) = true := okDx_shaped (n := 1) (by simp only [okDx]; exact okDx_ints ns) (by decide)
/-- two int lists that are the same: != says no -/
theorem ints_same {K : PySem.W.Frag} {H : Hp} {p q : Addr} {ns : List Int} {Q : VK} (h1 : SqL K H p (ns.map V.int)) (h2 : SqL K H q (ns.map V.int)) (k : Q (.bl false) H) : rNeD K (.ref p) (.ref q) H Q := by
  refine ⟨_, _, dp_ints h1, dp_ints h2, shaped_ints ns, shaped_ints ns, ?_⟩
  rw [SeqAt.eqv_refl _ (SeqAt.canLay_of_shaped (shaped_ints ns))]
  exact k

theorem Dk.add {G H : Hp} {d q : Addr} {D : List Int} {o : HO} (k : Dk G H d D) (h : H q = some o) (n : q ≠ d) : Dk (upd G q o) H d D :=
  ⟨by rw [upd_ne (Ne.symm n)]; exact k.nd, fun b u e => by
    by_cases z : b = q
    · rw [z, upd_same] at e
      rw [z, h]
      exact e
    · rw [upd_ne z] at e
      exact k.sm b u e, k.hd⟩
theorem Dk.keep {G G' H : Hp} {d : Addr} {D : List Int} (k : Dk G H d D) (h : G' d = none) (s : Same G' H) : Dk G' H d D := ⟨h, s, k.hd⟩
/-! ### comprehensions whose element does nothing to the heap -/
theorem lc_pure {K : PySem.W.Frag} {a : Addr} {xs : List V} {te : TE} {vs : List Nat} {σ : L2.St} {H1 : Hp} {D : Addr} {Qd : Hp → Prop} {j : Nat} (f : Nat → V → V) (hx : SqL K H1 a xs) (hD : H1 D = none) (hz : xs.length ≤ 1000000) (hw : ∀ x, wipe ((wipe σ vs).set j (some x)) vs = wipe σ vs)
    (hs : ∀ i x H', xs[i]? = some x → Same H1 H' → ∀ Q : VK, Q (f i x) H' → te ((wipe σ vs).set j (some x)) H' Q) (hd : Qd (upd H1 D (.lst (xs.mapIdx f)))) :
    ∃ W : Nat → Nat → Hp → Prop, (∃ m, W 0 m (upd H1 D (.lst []))) ∧ ∀ i m H, W i m H →
      ((Itl K a).stop i H ∧ Qd H) ∨ ((Itl K a).go i H ∧ ∃ Nx : Hp → Prop, (∀ H', Nx H' → ∃ m', m' < m ∧ W (i + 1) m' H') ∧ ∀ x H', (Itl K a).yld i H x H' → gName j x (wipe σ vs) H' fun σ2 H2 => wipe σ2 vs = wipe σ vs ∧ tYes σ2 H2 fun b H3 =>
        if b = true then te σ2 H3 fun y H4 => ∃ acc, H4 D = some (.lst acc) ∧ acc.length < sizeLine ∧ Nx (upd H4 D (.lst (acc ++ [y]))) else Nx H3) := by
  have tk : ∀ (l : List V) (g : Nat → V → V) (i : Nat) (x : V), l[i]? = some x → (l.mapIdx g).take (i + 1) = (l.mapIdx g).take i ++ [g i x] := by
    intro l g i x e
    have h1 : (l.mapIdx g)[i]? = some (g i x) := by rw [List.getElem?_mapIdx, e]; rfl
    rw [List.take_add_one, h1]
    rfl
  refine lc_list (K := K) (a := a) (xs := xs) (fun i H' => H' = upd H1 D (.lst ((xs.mapIdx f).take i))) (by rw [List.take_zero]) (fun i H' _ q => by subst q; exact (Same.new hD).seq hx) ?_ ?_
  · rintro i x H' hi rfl
    have hi1 := (List.getElem?_eq_some_iff.mp hi).1
    refine ⟨hw x, ?_⟩
    show te _ _ _
    refine hs i x _ hi (Same.new hD) _ ?_
    refine ⟨_, upd_same, small1000000 (by rw [List.length_take]; omega), ?_⟩
    rw [upd_upd, tk xs f i x hi]
  · rintro H' rfl
    have e : (xs.mapIdx f).take xs.length = xs.mapIdx f := by
      have : (xs.mapIdx f).length = xs.length := List.length_mapIdx
      rw [← this, List.take_length]
    rw [e]
    exact hd
theorem pickV {Kf : PySem.W.Frag} {G H : Hp} {d l : Addr} {D : List Int} {Q : VK} (K1 : Dk G H d D) (hl : H l = none) (ns : List V) (h : 0 < ns.length) (k : ∀ z H2, z ∈ ns → Dk G H2 d D.tail → Q z H2) : sp_take [.ref d, .int (ns.length : Int)] (upd H l (.lst ns)) (fun v H2 => rIxL Kf (.ref l) v H2 Q) E0 := by
  rw [sp_take_eq]
  have hm : (0 : Int) < (ns.length : Int) := by omega
  have K2 := K1.new (o := .lst ns) hl
  refine ⟨d, D, _, rfl, K2.hd, hm, ?_⟩
  have K3 := K2.take (D' := D.tail)
  have b0 := tk_nonneg D hm
  have b1 := tk_lt D hm
  have hj : (tk D (ns.length : Int)).toNat < ns.length := by omega
  refine ⟨l, _, _, _, rfl, rfl, SqL.of (K3.sm _ _ upd_same), atI_nat' (j := (tk D (ns.length : Int)).toNat) (by omega) (List.getElem?_eq_getElem hj), k _ _ (List.getElem_mem hj) ⟨K1.nd, ?_, K3.hd⟩⟩
  exact (Same.new (K1.sm.free hl)).trans K3.sm
/-- an item of a list at a written place -/
theorem ix_at {Kf : PySem.W.Frag} {H : Hp} {p : Addr} {xs : List V} {v : V} {Q : VK} (j : Nat) (h : SqL Kf H p xs) (hv : xs[j]? = some v) (k : Q v H) : rIxL Kf (.ref p) (.int (j : Int)) H Q := ⟨p, xs, _, v, rfl, rfl, h, atI_nat hv, k⟩

/-! ### walks of what may be a list or a tuple -/
def SqX (K : PySem.W.Frag) (H : Hp) (a : Addr) (xs : List V) : Prop := SqL K H a xs ∨ SqT K H a xs
theorem SqX.mono {K : PySem.W.Frag} {H H' : Hp} {a : Addr} {xs : List V} (h : SqX K H a xs) (s : Same H H') : SqX K H' a xs := by
  rcases h with h | h
  · exact .inl (s.seq h)
  · exact .inr (s.tup h)
def iSeq (K : PySem.W.Frag) (tl : TE) : TI := fun σ H R => tl σ H fun x H1 => ∃ a, x = .ref a ∧ (((∃ xs, SqL K H1 a xs) ∧ R (Itl K a) H1) ∨ ((∃ xs, SqT K H1 a xs) ∧ R (Itt K a) H1))
theorem pi_seq {X : Cx} {tg l : Expr} {tl : TE} (hl : PE X l tl) : PI X tg l (iSeq X.K tl) := by
  refine ⟨fun pins s σ H R I h => thn (hl.run pins s σ H _ I h) fun v s1 ⟨x, H1, I1, r1, a, e, q⟩ => ?_⟩
  subst e
  cases r1
  have fresh : ∀ b ∈ [s1.heap.objs.size], FpOk X pins H1 b := by
    intro b hb
    rw [List.mem_singleton] at hb
    rw [hb]
    exact I1.fpOk (Nat.le_refl _) (I1.hok.fresh (Nat.le_refl _))
  rcases q with ⟨⟨xs, hq⟩, q⟩ | ⟨⟨xs, hq⟩, q⟩
  · obtain ⟨its, rv, pl, hz⟩ := I1.list hq
    exact wpAny_pyIter_list pl.isList ⟨_, _, _, _, H1, rfl, I1.kept (t' := s1.toks) (fun b o e => Heap.get?_push_of_some _ e), turn_list a _, ⟨_, Heap.get?_push_size _ rfl, rfl, rfl⟩, fresh, q⟩
  · obtain ⟨its, rv, pl, hz⟩ := I1.tuple hq
    exact wpAny_pyIter_tuple (show s1.heap.IsTuple a its.toArray from pl) ⟨_, _, _, _, H1, rfl, I1.kept (t' := s1.toks) (fun b o e => Heap.get?_push_of_some _ e), turn_tuple a _, ⟨_, Heap.get?_push_size _ rfl, rfl, rfl⟩, fresh, q⟩
/-- what a for loop asks of its walk J -/
def forR (g : TG) (tb : TS) (D : Ends) (σ : L2.St) (J : It) (H1 : Hp) : Prop := ∃ W : Nat → Nat → L2.St → Hp → Prop, (∃ m, W 0 m σ H1) ∧ ∀ i m σ H, W i m σ H →
  (J.stop i H ∧ D.nx σ H) ∨ (J.go i H ∧ ∃ N : L2.St → Hp → Prop, (∀ σ' H', N σ' H' → ∃ m', m' < m ∧ W (i + 1) m' σ' H') ∧ ∀ x H', J.yld i H x H' → g x σ H' fun σ2 H2 => tb { D with nx := N, ct := N, bk := D.nx } σ2 H2)
/-- .. a list or a tuple; G: where it stands -/
theorem for_seq {K : PySem.W.Frag} {a : Addr} {xs : List V} {g : TG} {tb : TS} {D : Ends} {σ : L2.St} {H G : Hp} (hq : SqX K G a xs) (Pv : Nat → L2.St → Hp → Prop) (h0 : Pv 0 σ H) (hl : ∀ i σ H, Pv i σ H → Same G H)
    (hs : ∀ i x σ H, xs[i]? = some x → Pv i σ H → g x σ H fun σ2 H2 => tb { D with nx := Pv (i + 1), ct := Pv (i + 1), bk := D.nx } σ2 H2) (hd : ∀ σ H, Pv xs.length σ H → D.nx σ H) :
    ((∃ xs, SqL K H a xs) ∧ forR g tb D σ (Itl K a) H) ∨ ((∃ xs, SqT K H a xs) ∧ forR g tb D σ (Itt K a) H) := by
  rcases hq with hq | hq
  · exact .inl ⟨⟨xs, (hl _ _ _ h0).seq hq⟩, for_list (K := K) (a := a) (xs := xs) Pv h0 (fun i σ H _ p => (hl i σ H p).seq hq) hs hd⟩
  · exact .inr ⟨⟨xs, (hl _ _ _ h0).tup hq⟩, for_tup (K := K) (a := a) (xs := xs) Pv h0 (fun i σ H _ p => (hl i σ H p).tup hq) hs hd⟩
/-- what a comprehension asks of its walk J -/
def lcR (g : TG) (tt : TT) (te : TE) (vs : List Nat) (σ : L2.St) (Q : VK) (J : It) (H1 : Hp) : Prop := ∀ D, H1 D = none → ∃ W : Nat → Nat → Hp → Prop, (∃ m, W 0 m (upd H1 D (.lst []))) ∧ ∀ i m H, W i m H →
  (J.stop i H ∧ Q (.ref D) H) ∨ (J.go i H ∧ ∃ Nx : Hp → Prop, (∀ H', Nx H' → ∃ m', m' < m ∧ W (i + 1) m' H') ∧ ∀ x H', J.yld i H x H' → g x (wipe σ vs) H' fun σ2 H2 => wipe σ2 vs = wipe σ vs ∧ tt σ2 H2 fun b H3 =>
    if b = true then te σ2 H3 fun y H4 => ∃ acc, H4 D = some (.lst acc) ∧ acc.length < sizeLine ∧ Nx (upd H4 D (.lst (acc ++ [y]))) else Nx H3)
theorem lc_seq {K : PySem.W.Frag} {a : Addr} {xs : List V} {g : TG} {tt : TT} {te : TE} {vs : List Nat} {σ : L2.St} {H1 G : Hp} {Q : VK} (hq : SqX K G a xs) (s : Same G H1) (Pv : Addr → Nat → Hp → Prop) (h0 : ∀ D, H1 D = none → Pv D 0 (upd H1 D (.lst []))) (hl : ∀ D i H, Pv D i H → Same G H)
    (hs : ∀ D, H1 D = none → ∀ i x H, xs[i]? = some x → Pv D i H → g x (wipe σ vs) H fun σ2 H2 => wipe σ2 vs = wipe σ vs ∧ tt σ2 H2 fun b H3 =>
      if b = true then te σ2 H3 fun y H4 => ∃ acc, H4 D = some (.lst acc) ∧ acc.length < sizeLine ∧ Pv D (i + 1) (upd H4 D (.lst (acc ++ [y]))) else Pv D (i + 1) H3) (hd : ∀ D, H1 D = none → ∀ H, Pv D xs.length H → Q (.ref D) H) :
    ((∃ xs, SqL K H1 a xs) ∧ lcR g tt te vs σ Q (Itl K a) H1) ∨ ((∃ xs, SqT K H1 a xs) ∧ lcR g tt te vs σ Q (Itt K a) H1) := by
  rcases hq with hq | hq
  · exact .inl ⟨⟨xs, s.seq hq⟩, fun D hD => lc_list (K := K) (a := a) (xs := xs) (Pv D) (h0 D hD) (fun i H _ p => (hl D i H p).seq hq) (hs D hD) (hd D hD)⟩
  · exact .inr ⟨⟨xs, s.tup hq⟩, fun D hD => lc_tup (K := K) (a := a) (xs := xs) (Pv D) (h0 D hD) (fun i H _ p => (hl D i H p).tup hq) (hs D hD) (hd D hD)⟩
/-- data that is a sequence -/
def seqD (isL : Bool) (ds : List PyData) : PyData := if isL then .list ds else .tuple ds
theorem dp_seq {K : PySem.W.Frag} {H : Hp} {v : V} {isL : Bool} {ds : List PyData} (h : Dp K H v (seqD isL ds)) : ∃ a xs, v = .ref a ∧ SqX K H a xs ∧ DpAll K H xs ds := by
  cases isL with
  | true =>
    cases (show Dp K H v (.list ds) from h) with
    | lst h1 h2 => exact ⟨_, _, rfl, .inl h1, h2⟩
  | false =>
    cases (show Dp K H v (.tuple ds) from h) with
    | tup h1 h2 => exact ⟨_, _, rfl, .inr h1, h2⟩
theorem dp_tup {K : PySem.W.Frag} {H : Hp} {v : V} {ds : List PyData} (h : Dp K H v (.tuple ds)) : ∃ a xs, v = .ref a ∧ SqT K H a xs ∧ DpAll K H xs ds := by
  cases h with
  | tup h1 h2 => exact ⟨_, _, rfl, h1, h2⟩
theorem dp_lst {K : PySem.W.Frag} {H : Hp} {v : V} {ds : List PyData} (h : Dp K H v (.list ds)) : ∃ a xs, v = .ref a ∧ SqL K H a xs ∧ DpAll K H xs ds := by
  cases h with
  | lst h1 h2 => exact ⟨_, _, rfl, h1, h2⟩
theorem dpAll_two {K : PySem.W.Frag} {H : Hp} {xs : List V} {d e : PyData} (h : DpAll K H xs [d, e]) : ∃ v w, xs = [v, w] ∧ Dp K H v d ∧ Dp K H w e := by
  cases h with
  | cons h1 h2 => cases h2 with
    | cons h2 h3 => cases h3; exact ⟨_, _, rfl, h1, h2⟩
theorem dpAll_three {K : PySem.W.Frag} {H : Hp} {xs : List V} {d e f : PyData} (h : DpAll K H xs [d, e, f]) : ∃ v w z, xs = [v, w, z] ∧ Dp K H v d ∧ Dp K H w e ∧ Dp K H z f := by
  cases h with
  | cons h1 h2 =>
    obtain ⟨v, w, rfl, h3, h4⟩ := dpAll_two h2
    exact ⟨_, _, _, rfl, h1, h3, h4⟩
theorem dp_int {K : PySem.W.Frag} {H : Hp} {v : V} {i : Int} (h : Dp K H v (.int i)) : v = .int i := by cases h; rfl
theorem dp_str {K : PySem.W.Frag} {H : Hp} {v : V} {i : Str} (h : Dp K H v (.str i)) : v = .str i := by cases h; rfl
theorem dpAll_app {K : PySem.W.Frag} {H : Hp} : ∀ {xs ys : List V} {ds es : List PyData}, DpAll K H xs ds → DpAll K H ys es → DpAll K H (xs ++ ys) (ds ++ es)
  | _, _, _, _, .nil, h => h
  | _, _, _, _, .cons h t, h2 => .cons h (dpAll_app t h2)
theorem dpAll_take {K : PySem.W.Frag} {H : Hp} : ∀ {xs : List V} {ds : List PyData} (n : Nat), DpAll K H xs ds → DpAll K H (xs.take n) (ds.take n)
  | _, _, 0, _ => by rw [List.take_zero, List.take_zero]; exact .nil
  | _, _, n + 1, .nil => .nil
  | _, _, n + 1, .cons h t => .cons h (dpAll_take n t)
theorem dpAll_drop {K : PySem.W.Frag} {H : Hp} : ∀ {xs : List V} {ds : List PyData} (n : Nat), DpAll K H xs ds → DpAll K H (xs.drop n) (ds.drop n)
  | _, _, 0, h => h
  | _, _, n + 1, .nil => .nil
  | _, _, n + 1, .cons h t => dpAll_drop n t
/-- xs[:k], xs[k:] -/
theorem cut_front {xs : List V} {k : Int} (h0 : 0 ≤ k) (h1 : k ≤ xs.length) : cutV xs none (some k) = xs.take k.toNat := by
  have e : k = ((k.toNat : Nat) : Int) := by omega
  unfold cutV
  rw [HT.sIx_none, List.drop_zero, e, HT.sIx_nat, Nat.sub_zero, Int.toNat_natCast]
  congr 1
  omega
theorem cut_back {xs : List V} {k : Int} (h0 : 0 ≤ k) (h1 : k ≤ xs.length) : cutV xs (some k) none = xs.drop k.toNat := by
  have e : k = ((k.toNat : Nat) : Int) := by omega
  unfold cutV
  rw [HT.sIx_none, e, HT.sIx_nat, Int.toNat_natCast, Nat.min_eq_left (by omega)]
  exact List.take_of_length_le (by rw [List.length_drop]; exact Nat.le_refl _)

/-! ### rounded half up -/
def hu (x y : Int) : Int := (2 * x + y) / (2 * y)
theorem half_up {x y : Int} (h : 0 < y) : 0 < frB x y ∧ frB x y ≤ y ∧ (2 * frA x y + frB x y).fdiv (2 * frB x y) = hu x y := by
  obtain ⟨e1, e2, q0, _, cs, hb, _⟩ := fr_spec (x := x) (y := y) (by omega)
  have hc := cs.mpr h
  refine ⟨q0, by omega, ?_⟩
  unfold hu
  generalize frC x y = c at *
  generalize frA x y = p at *
  generalize frB x y = q at *
  rw [Int.fdiv_eq_ediv_of_nonneg _ (by omega)]
  have a1 : 2 * x + y = c * (2 * p + q) := by rw [e1, e2, Int.mul_add, ← Int.mul_assoc c 2 p, Int.mul_comm c 2, Int.mul_assoc]
  have a2 : 2 * y = c * (2 * q) := by rw [e2, ← Int.mul_assoc c 2 q, Int.mul_comm c 2, Int.mul_assoc]
  rw [a1, a2, Int.mul_ediv_mul_of_pos _ _ hc]
/-- what half up means -/
theorem hu_near {x y : Int} (h : 0 < y) : -y ≤ 2 * (x - hu x y * y) ∧ 2 * (x - hu x y * y) < y := by
  have a := Int.emod_add_mul_ediv (2 * x + y) (2 * y)
  have b := Int.emod_nonneg (2 * x + y) (show 2 * y ≠ 0 by omega)
  have c := Int.emod_lt_of_pos (2 * x + y) (show 0 < 2 * y by omega)
  have e : 2 * y * ((2 * x + y) / (2 * y)) = 2 * (hu x y * y) := by
    unfold hu
    rw [Int.mul_comm ((2 * x + y) / (2 * y)) y, Int.mul_assoc]
  rw [e] at a
  omega
/-- and only the one nearest -/
theorem hu_uniq {x y t : Int} (h : 0 < y) (h1 : -y ≤ 2 * (x - t * y)) (h2 : 2 * (x - t * y) < y) : hu x y = t := by
  obtain ⟨a, b⟩ := hu_near (x := x) h
  have e : (hu x y - t) * y = hu x y * y - t * y := Int.sub_mul _ _ _
  generalize hu x y * y = u at a b e
  generalize t * y = v at h1 h2 e
  have l1 : (hu x y - t) * y < y := by omega
  have l2 : -y < (hu x y - t) * y := by omega
  generalize hd : hu x y - t = d at e l1 l2
  have d1 : d < 1 := by
    rcases Int.lt_or_le d 1 with z | z
    · exact z
    · have := Int.mul_le_mul_of_nonneg_right z (show 0 ≤ y by omega)
      omega
  have d2 : -1 < d := by
    rcases Int.lt_or_le (-1) d with z | z
    · exact z
    · have := Int.mul_le_mul_of_nonneg_right z (show 0 ≤ y by omega)
      omega
  omega
theorem hu_zero {y : Int} (h : 0 < y) : hu 0 y = 0 := hu_uniq h (by omega) (by omega)
theorem hu_all {n : Int} : hu (n * 100) 100 = n := hu_uniq (by decide) (by omega) (by omega)
def waysV : List V := [.str "down", .str "up", .str "toward zero", .str "half up", .str "half even"]
def sp_rounded_hu0 : Sp := fun vs H Q _ => ∃ x y : Int, vs = [.int x, .int y, .str "half up"] ∧ 0 < y ∧ y < 2 ^ 20 ∧ ∀ H', Same H H' → Q (.int (hu x y)) H'
@[irreducible] def sp_rounded_hu : Sp := sp_rounded_hu0
theorem sp_rounded_hu_eq : sp_rounded_hu = sp_rounded_hu0 := by unfold sp_rounded_hu; rfl
theorem rounded_hu {H : Hp} {Q : VK} {E : XK} (x : Int) {y : Int} (h0 : 0 < y) (h1 : y < 2 ^ 20) (k : ∀ H', Same H H' → Q (.int (hu x y)) H') : sp_rounded_hu [.int x, .int y, .str "half up"] H Q E := by
  rw [sp_rounded_hu_eq]
  exact ⟨x, y, rfl, h0, h1, k⟩
/-! ### all that stands but the deck -/
theorem del_some {H : Hp} {p b : Addr} {o : HO} (h : H b = some o) (n : b ≠ p) : del H p b = some o := by rw [del_ne n]; exact h
theorem del_of {H : Hp} {p b : Addr} {o : HO} (h : del H p b = some o) : H b = some o ∧ b ≠ p := by
  by_cases e : b = p
  · rw [e, del_same] at h
    cases h
  · rw [del_ne e] at h
    exact ⟨h, e⟩
theorem Dk.freeze {G H : Hp} {d : Addr} {D : List Int} (k : Dk G H d D) : Dk (del H d) H d D := ⟨del_same, fun _ _ e => (del_of e).1, k.hd⟩
theorem Dk.under {G H : Hp} {d : Addr} {D : List Int} (k : Dk G H d D) : Same G (del H d) := fun b o e => del_some (k.sm b o e) (k.ne e)
theorem DN.frozen {K : PySem.W.Frag} {S : Addr → Prop} {H : Hp} {p : Addr} {v : V} {d : PyData} (h : DN S H v d) (hs : ∀ b, S b → b ≠ p) : Dp K (del H p) v d :=
  DN.dp d v (DN.mono (S' := S) (fun _ z => z) (fun a o hS e => del_some e (hs a hS)) d v h)

theorem DNs.frozen {K : PySem.W.Frag} {S : Addr → Prop} {H : Hp} {p : Addr} {vs : List V} {ds : List PyData} (h : DNs S H vs ds) (hs : ∀ b, S b → b ≠ p) : DpAll K (del H p) vs ds :=
  DNs.dp ds vs (DNs.mono (S' := S) (fun _ z => z) (fun a o hS e => del_some e (hs a hS)) ds vs h)
theorem Dk.get {H H2 : Hp} {d b : Addr} {D : List Int} {o : HO} (k : Dk (del H d) H2 d D) (n : b ≠ d) (h : H b = some o) : H2 b = some o := k.sm b o (del_some h n)
theorem DNs.on {S : Addr → Prop} {H H2 : Hp} {d : Addr} {D : List Int} {vs : List V} {ds : List PyData} (h : DNs S H vs ds) (k : Dk (del H d) H2 d D) (hs : ∀ b, S b → b ≠ d) : DNs S H2 vs ds :=
  DNs.mono (fun _ z => z) (fun a o hS e => k.get (hs a hS) e) ds vs h
/-- a list and another with the same data: != says no -/
theorem data_same {K : PySem.W.Frag} {H : Hp} {v w : V} {d : PyData} {Q : VK} {n : Nat} (h1 : Dp K H v d) (h2 : Dp K H w d) (ok : okDx n d = true) (hn : n ≤ 64) (k : Q (.bl false) H) : rNeD K v w H Q := by
  have sh := okDx_shaped ok hn
  refine ⟨d, d, h1, h2, sh, sh, ?_⟩
  rw [SeqAt.eqv_refl _ (SeqAt.canLay_of_shaped sh)]
  exact k
theorem data_eq {K : PySem.W.Frag} {H : Hp} {v w : V} {d : PyData} {Q : VK} {n : Nat} (h1 : Dp K H v d) (h2 : Dp K H w d) (ok : okDx n d = true) (hn : n ≤ 64) (k : Q (.bl true) H) : rEqD K v w H Q := by
  have sh := okDx_shaped ok hn
  refine ⟨d, d, h1, h2, sh, sh, ?_⟩
  rw [SeqAt.eqv_refl _ (SeqAt.canLay_of_shaped sh)]
  exact k
mutual
theorem okD_x : ∀ (n : Nat) (d : PyData), okD n d = true → okDx n d = true
  | n, .none, _ => by cases n <;> simp only [okDx]
  | n, .bool b, _ => by cases n <;> simp only [okDx]
  | n, .int i, _ => by cases n <;> simp only [okDx]
  | n, .str x, h => by
    simp only [okD] at h
    cases n <;> simp [okDx, h]
  | 0, .list _, h => by simp [okD] at h
  | n + 1, .list xs, h => by
    simp only [okD, Bool.and_eq_true] at h
    simp only [okDx]
    exact okDs_x n xs h.2
  | 0, .tuple _, h => by simp [okD] at h
  | n + 1, .tuple xs, h => by
    simp only [okD, Bool.and_eq_true] at h
    simp only [okDx]
    exact okDs_x n xs h.2
  | n, .dict _, h => by cases n <;> simp [okD] at h
theorem okDs_x : ∀ (n : Nat) (ds : List PyData), okDs n ds = true → okDxs n ds = true
  | _, [], _ => by simp [okDxs]
  | n, x :: xs, h => by
    simp only [okDs, Bool.and_eq_true] at h
    simp only [okDxs, okD_x n x h.1, okDs_x n xs h.2, Bool.and_self]
end
/-! ### list comprehensions whose parts read K (walk_at "blk" closes the three equations) -/
section
variable {X : Cx}
theorem pe_lcK {elt tg iter : Expr} {ifs : List Expr} {scope : Scope} {own : List (Str × Nat)} {pos : Pos} {wi : TI} {g : TG} {tt : TT} {te : TE} {g' : Shared → Hp → Addr → List (Str × Addr) → List Addr → TG} {tt' : Shared → Hp → Addr → List (Str × Addr) → List Addr → TT} {te' : Shared → Hp → Addr → List (Str × Addr) → List Addr → TE}
    (hc : X.calm = true) (hN : X.N.Nodup) (hi : PI X tg iter wi) (ok : BlkOk X.N X.env.scope scope own)
    (hg : ∀ (s : Shared) (H : Hp) (C : Addr) (cl : List (Str × Addr)) (fp : List Addr), PG (X.blk s H scope (compEnvC scope cl C X.env) fp) tg (g' s H C cl fp)) (ht : ∀ (s : Shared) (H : Hp) (C : Addr) (cl : List (Str × Addr)) (fp : List Addr), PTs (X.blk s H scope (compEnvC scope cl C X.env) fp) ifs (tt' s H C cl fp))
    (he : ∀ (s : Shared) (H : Hp) (C : Addr) (cl : List (Str × Addr)) (fp : List Addr), PE (X.blk s H scope (compEnvC scope cl C X.env) fp) elt (te' s H C cl fp))
    (eg : ∀ s H C cl fp, g' s H C cl fp = g) (et : ∀ s H C cl fp, tt' s H C cl fp = tt) (ee : ∀ s H C cl fp, te' s H C cl fp = te) (hs : ∀ x, foldedSetIterable iter X.env x = pure x := by intro _; rfl) :
    PE X (.ListComp elt [⟨tg, iter, ifs, 0⟩] scope pos) (tLc wi g tt te (own.map (·.2))) :=
  pe_lc hc hN hi ok (fun s H C cl fp => by rw [← eg s H C cl fp]; exact hg s H C cl fp) (fun s H C cl fp => by rw [← et s H C cl fp]; exact ht s H C cl fp) (fun s H C cl fp => by rw [← ee s H C cl fp]; exact he s H C cl fp) hs
theorem ps_setLcK {i : Nat} {y : Str} {py : Pos} {elt tg iter : Expr} {ifs : List Expr} {scope : Scope} {own : List (Str × Nat)} {pos spos : Pos} {wi : TI} {g : TG} {tt : TT} {te : TE} {g' : Shared → Hp → Addr → List (Str × Addr) → List Addr → TG} {tt' : Shared → Hp → Addr → List (Str × Addr) → List Addr → TT} {te' : Shared → Hp → Addr → List (Str × Addr) → List Addr → TE}
    (hc : X.calm = true) (hN : X.N.Nodup) (hy : X.N[i]? = some y) (hyl : X.env.scope.names.lookup y = some .local)
    (hsw : swapsWith (.ListComp elt [⟨tg, iter, ifs, 0⟩] scope pos) (some (.Name y py)) spos.line X.env = pure true) (hi : PI X tg iter wi) (ok : BlkOk X.N X.env.scope scope own)
    (hg : ∀ (s : Shared) (H : Hp) (C : Addr) (cl : List (Str × Addr)) (fp : List Addr), PG (X.blk s H scope (compEnvC scope cl C X.env) fp) tg (g' s H C cl fp)) (ht : ∀ (s : Shared) (H : Hp) (C : Addr) (cl : List (Str × Addr)) (fp : List Addr), PTs (X.blk s H scope (compEnvC scope cl C X.env) fp) ifs (tt' s H C cl fp))
    (he : ∀ (s : Shared) (H : Hp) (C : Addr) (cl : List (Str × Addr)) (fp : List Addr), PE (X.blk s H scope (compEnvC scope cl C X.env) fp) elt (te' s H C cl fp))
    (eg : ∀ s H C cl fp, g' s H C cl fp = g) (et : ∀ s H C cl fp, tt' s H C cl fp = tt) (ee : ∀ s H C cl fp, te' s H C cl fp = te) (hs : ∀ x, foldedSetIterable iter X.env x = pure x := by intro _; rfl) :
    PS X (.Assign [.Name y py] (.ListComp elt [⟨tg, iter, ifs, 0⟩] scope pos) spos) (tAsg (tLc wi g tt te (own.map (·.2))) (gName i)) :=
  ps_setLc hc hN hy hyl hsw hi ok (fun s H C cl fp => by rw [← eg s H C cl fp]; exact hg s H C cl fp) (fun s H C cl fp => by rw [← et s H C cl fp]; exact ht s H C cl fp) (fun s H C cl fp => by rw [← ee s H C cl fp]; exact he s H C cl fp) hs
end
/-- a comprehension that changes nothing but new objects: f i is what turn i gives, none where the test fails -/
theorem lc_fn {J : It} {n : Nat} {G : Hp → Prop} {Y : Nat → Hp → V → Hp → Prop} (w : Walk J n G Y) (f : Nat → Option V) {g : TG} {tt : TT} {te : TE} {vs : List Nat} {σ : L2.St} {H1 : Hp} {D : Addr} {Qd : Hp → Prop} (hz : n ≤ 1000000) (hD : H1 D = none)
    (hG : ∀ H, Same H1 H → G H)
    (hs : ∀ i x H H' (R : VK) (N : Hp → Prop), i < n → Same H1 H → Y i H x H' → (∀ y H4, f i = some y → Same H H4 → R y H4) → (∀ H4, f i = none → Same H H4 → N H4) →
      g x (wipe σ vs) H' fun σ2 H2 => wipe σ2 vs = wipe σ vs ∧ tt σ2 H2 fun b H3 => if b = true then te σ2 H3 R else N H3)
    (hd : ∀ H', Same H1 H' → H' D = some (.lst ((List.range n).filterMap f)) → Qd H') :
    ∃ W : Nat → Nat → Hp → Prop, (∃ m, W 0 m (upd H1 D (.lst []))) ∧ ∀ i m H, W i m H →
      (J.stop i H ∧ Qd H) ∨ (J.go i H ∧ ∃ Nx : Hp → Prop, (∀ H', Nx H' → ∃ m', m' < m ∧ W (i + 1) m' H') ∧ ∀ x H', J.yld i H x H' → g x (wipe σ vs) H' fun σ2 H2 => wipe σ2 vs = wipe σ vs ∧ tt σ2 H2 fun b H3 =>
        if b = true then te σ2 H3 fun y H4 => ∃ acc, H4 D = some (.lst acc) ∧ acc.length < sizeLine ∧ Nx (upd H4 D (.lst (acc ++ [y]))) else Nx H3) := by
  refine lc_it w (fun i H' => Same H1 H' ∧ H' D = some (.lst ((List.range i).filterMap f))) ⟨Same.new hD, upd_same⟩ (fun i H _ q => hG H q.1) ?_ (fun H' q => hd H' q.1 q.2)
  rintro i x H H' hi ⟨s1, hl⟩ hy
  refine hs i x H H' _ _ hi s1 hy ?_ ?_
  · intro y H4 e s2
    refine ⟨_, s2 _ _ hl, small1000000 ?_, (s1.trans s2).mut hD, ?_⟩
    · have := List.length_filterMap_le f (List.range i)
      rw [List.length_range] at this
      omega
    · rw [upd_same, List.range_succ, List.filterMap_append]
      simp [e]
  · intro H4 e s2
    refine ⟨s1.trans s2, ?_⟩
    rw [s2 _ _ hl, List.range_succ, List.filterMap_append]
    simp [e]
theorem fm_some {α : Type} (f : Nat → α) (n : Nat) : (List.range n).filterMap (fun i => some (f i)) = (List.range n).map f := by
  rw [← List.filterMap_eq_map]
  rfl
theorem range_at {α β : Type} (xs : List α) (F : α → β) (f : Nat → β) (h : ∀ i x, xs[i]? = some x → f i = F x) : (List.range xs.length).map f = xs.map F := by
  refine List.ext_getElem? fun i => ?_
  rw [List.getElem?_map, List.getElem?_map]
  by_cases hi : i < xs.length
  · rw [List.getElem?_range hi, List.getElem?_eq_getElem hi]
    simp [h i _ (List.getElem?_eq_getElem hi)]
  · rw [List.getElem?_eq_none (by simp; omega), List.getElem?_eq_none (by omega)]
    rfl
theorem ints_get {ns : List Int} {i : Nat} {x : V} (h : (ns.map V.int)[i]? = some x) : ∃ z, ns[i]? = some z ∧ x = .int z := by
  rw [List.getElem?_map] at h
  obtain ⟨z, hz, rfl⟩ := Option.map_eq_some_iff.mp h
  exact ⟨z, hz, rfl⟩
theorem tk_sum {ns : List Int} {i : Nat} {z : Int} (f : Int → Int) (h : ns[i]? = some z) : ((ns.take (i + 1)).map f).sum = ((ns.take i).map f).sum + f z := by
  rw [List.take_add_one, h, List.map_append, List.sum_append]
  simp
section
variable {X : Cx}
/-- sorted(xs) of a tuple of ints -/
def rSortedT (K : PySem.W.Frag) : List V → Hp → VK → Prop := fun vs H Q => ∃ (a : Addr) (ns : List Int), vs = [V.ref a] ∧ SqT K H a (ns.map V.int) ∧
  ∀ (ns' : List Int) (p : Addr), ns'.Perm ns → ns'.Pairwise (· ≤ ·) → H p = none → Q (.ref p) (upd H p (.lst (ns'.map V.int)))
theorem cr_sortedT : CallR X (.builtin "sorted") (rSortedT X.K) := by
  intro pins s σ H vs us Q I r h
  obtain ⟨a, ns, rfl, hs, q⟩ := h
  obtain ⟨its, rv, ⟨o, ho, hc, n, hd⟩, hz⟩ := I.tuple hs
  rw [Vals.ref1 r]
  have hi := rv.ints
  have hz' : its.length ≤ sizeLine := by rw [← rv.length]; exact hz
  refine Calls.call_function_entry kind_sorted plain_sorted entry_sorted (args_sorted1 _) ?_
  unfold Builtin.«sorted»
  refine wpAny_bind (m := checkCount "sorted" 1 1 _) (wpAny_pure ?_)
  refine wpAny_bind (wpAny_collect_seq a (.inr rfl) ho hc hd (fun h1 hk => ?_) (by simpa using hz'))
  refine wpAny_bind (wpAny_newList ?_ (by simpa using hz'))
  have hoL : (h1.push (seqObj "list" its.toArray 0)).get? h1.objs.size = some (seqObj "list" its.toArray 0) := Heap.get?_push_size _ rfl
  have keep : ∀ b u, s.heap.get? b = some u → b ≠ h1.objs.size ∧ (h1.push (seqObj "list" its.toArray 0)).get? b = some u := fun b u e => ⟨Nat.ne_of_lt (Heap.lt_size (hk b u e)), Heap.get?_push_of_some _ (hk b u e)⟩
  have hn : H h1.objs.size = none := (I.hok.kept hk).fresh (Nat.le_refl _)
  have hp : s.heap.get? h1.objs.size = none := by
    cases e : s.heap.get? h1.objs.size with
    | none => rfl
    | some u => exact absurd (Heap.lt_size (hk _ _ e)) (Nat.lt_irrefl _)
  refine wpAny_bind (wpAny_holding (wpAny_call_entry slot_list_sort ⟨_, hoL, rfl⟩ entry_list_sort (SrtO.list_sort_ord SrtO.swo_int hoL hz' (fun h2 => SrtO.ints_sortable hi h2) fun out hs hb => ⟨_, rfl, ?_⟩) (args_list_sort _)))
  refine wpAny_pure ⟨_, rfl, ?_⟩
  obtain ⟨k1, k2, k3⟩ := SrtO.ints_out hi hs hb
  obtain ⟨ep, he'⟩ := sortedHeap_at (vs := its) (out := out.toArray) hoL
  have hlen : ((out.map SrtO.iv).map V.int).length ≤ sizeLine := by
    rw [List.length_map, k2.length_eq]
    rw [List.length_map] at hz
    exact hz
  refine ⟨.ref _, upd H h1.objs.size (.lst ((out.map SrtO.iv).map V.int)), I.laidN (t' := s.toks) (fun b u e => ?_) hp hn ⟨hlen, out, ep, vals_of_ints k1, he'⟩, rfl, q _ _ k2 k3 hn⟩
  rw [sortedHeap_old (keep b u e).1 (Heap.lt_size (keep b u e).2)]
  exact (keep b u e).2
/-- sorted(xs) of a list or a tuple of ints -/
def rSortedQ (K : PySem.W.Frag) : List V → Hp → VK → Prop := fun vs H Q => ∃ (a : Addr) (ns : List Int), vs = [V.ref a] ∧ SqX K H a (ns.map V.int) ∧
  ∀ (ns' : List Int) (p : Addr), ns'.Perm ns → ns'.Pairwise (· ≤ ·) → H p = none → Q (.ref p) (upd H p (.lst (ns'.map V.int)))
theorem cr_sortedQ : CallR X (.builtin "sorted") (rSortedQ X.K) := by
  intro pins s σ H vs us Q I r h
  obtain ⟨a, ns, e, hs | hs, q⟩ := h
  · exact cr_sortedI pins s σ H vs us Q I r ⟨a, ns, e, hs, q⟩
  · exact cr_sortedT pins s σ H vs us Q I r ⟨a, ns, e, hs, q⟩
end
/-- the blocks of a comprehension within a comprehension: sc is the scope of the def -/
def envAt (sc : Scope) : Env := { scope := sc, locals := 0, globals := 0, cells := [] }
theorem blkOk_in {N : List Str} {sc scope0 scope : Scope} {own : List (Str × Nat)} {env : Env} (he : env.scope = sc) (h : blkC N (relabel scope0 (envAt sc)) scope own = true) : BlkOk N (relabel scope0 env) scope own := by
  have e : relabel scope0 env = relabel scope0 (envAt sc) := by
    subst he
    rfl
  rw [e]
  exact blkOk_by h
theorem fm_ints {β : Type} (ns : List Int) (G : Int → Option β) : (List.range ns.length).filterMap (fun i => G (ns.getD i 0)) = ns.filterMap G := by
  have e : (List.range ns.length).map (fun i => ns.getD i 0) = ns := by
    rw [range_at ns id _ (fun i x e => by rw [List.getD_eq_getElem?_getD, e]; rfl), List.map_id]
  have h : (List.range ns.length).filterMap (fun i => G (ns.getD i 0)) = ((List.range ns.length).map (fun i => ns.getD i 0)).filterMap G := by
    rw [List.filterMap_map]
    rfl
  rw [h, e]
theorem fm_filter {α β : Type} (P : α → Bool) (f : α → β) : ∀ xs : List α, xs.filterMap (fun x => if P x = true then some (f x) else none) = (xs.filter P).map f
  | [] => rfl
  | x :: t => by
    by_cases h : P x = true
    · rw [List.filterMap_cons, if_pos h, List.filter_cons, if_pos h, List.map_cons, fm_filter P f t]
    · rw [List.filterMap_cons, if_neg h, List.filter_cons, if_neg h, fm_filter P f t]
theorem atI_last {α : Type} {xs : List α} {v : α} (h : xs[xs.length - 1]? = some v) : atI xs (-1) = some v := by
  have h0 : 0 < xs.length := by
    have := (List.getElem?_eq_some_iff.mp h).1
    omega
  unfold atI ixN
  rw [if_neg (by decide), if_pos (by omega)]
  show xs[(-1 + (xs.length : Int)).toNat]? = _
  rw [show (-1 + (xs.length : Int)).toNat = xs.length - 1 by omega]
  exact h
end Sw


set_option hygiene false in
local macro_rules | `(tactic| walk_at "len") => `(tactic| repeat (first | (obtain ⟨rfl, _⟩ := h; rfl) | (obtain ⟨_, h⟩ := h)))
local macro_rules | `(tactic| walk_at "st") => `(tactic| first
  | refine ⟨_, rfl, ?_⟩
  | refine ⟨_, _, rfl, rfl, (by show (0 : Int) < _; decide), ?_⟩
  | refine ⟨_, _, rfl, rfl, by decide, ?_⟩
  | refine ⟨_, _, rfl, rfl, ⟨by decide, by decide⟩, ?_⟩
  | refine ⟨_, _, rfl, rfl, .inl ⟨by decide, by decide⟩, ?_⟩
  | refine ⟨_, _, rfl, rfl, .inr ⟨by decide, by decide⟩, ?_⟩
  | refine ⟨_, _, rfl, rfl, ?_⟩
  | refine .inl ⟨_, rfl, ?_⟩
  | refine .inr ⟨_, rfl, ?_⟩
  | refine ⟨rfl, ?_⟩)
local macro_rules | `(tactic| walk_at "sts") => `(tactic| repeat walk_at "st")
local macro_rules | `(tactic| walk_at "blk") => `(tactic| (intros; first | (dsimp only [L2.Cx.blk, L2.cxOf]; done) | (dsimp only [L2.Cx.blk, L2.cxOf]; rfl) | rfl))

namespace K34
open PySem PySem.Spec PyProof.Rows L2 Sw
def topS (i : Nat) : Stmt := PySem.Challenge.pw_slotwork_k34_months_and_weeks.main.body.getD i (.Pass ⟨0, 0, 0, 0⟩)
abbrev st_c_InvalidTime_init : Stmt := inClass (topS 2) 0
abbrev st_c_InvalidSlot_init : Stmt := inClass (topS 3) 0
abbrev st_c_is_leap : Stmt := topS 9
abbrev st_c_check_year : Stmt := topS 10
abbrev st_c_month_length : Stmt := topS 11
abbrev st_c_days_before_year : Stmt := topS 12
abbrev st_c_day_of : Stmt := topS 13
abbrev st_c_check_day : Stmt := topS 14
abbrev st_c_date_of : Stmt := topS 15
abbrev st_c_weekday : Stmt := topS 16
abbrev st_c_week_of : Stmt := topS 17
abbrev st_c_moved_months : Stmt := topS 18
abbrev st_c_weekday_in_month : Stmt := topS 19
abbrev st_c_easter : Stmt := topS 20
abbrev st_c_law_deck : Stmt := topS 22
abbrev st_c_law_take : Stmt := topS 23
abbrev st_c_law_plain : Stmt := topS 24
abbrev st_c_law_day : Stmt := topS 25
abbrev st_c_law_leap : Stmt := topS 26
abbrev st_c_law_length : Stmt := topS 27
abbrev st_c_law_date : Stmt := topS 28
abbrev st_c_law_why : Stmt := topS 29
abbrev st_c_law_moved : Stmt := topS 30
abbrev st_c_law_easter : Stmt := topS 31
abbrev st_c_law : Stmt := topS 32
theorem sc_c_InvalidTime_init : FnScope ["self", "what"] ["self", "what"] (defScope st_c_InvalidTime_init) := ⟨rfl, rfl, rfl, by decide +kernel, rfl, by decide +kernel, by decide +kernel⟩
theorem sc_c_InvalidSlot_init : FnScope ["self", "what"] ["self", "what"] (defScope st_c_InvalidSlot_init) := ⟨rfl, rfl, rfl, by decide +kernel, rfl, by decide +kernel, by decide +kernel⟩
theorem sc_c_is_leap : FnScope ["year"] ["year"] (defScope st_c_is_leap) := ⟨rfl, rfl, rfl, by decide +kernel, rfl, by decide +kernel, by decide +kernel⟩
theorem sc_c_check_year : FnScope ["year"] ["year"] (defScope st_c_check_year) := ⟨rfl, rfl, rfl, by decide +kernel, rfl, by decide +kernel, by decide +kernel⟩
theorem sc_c_month_length : FnScope ["year", "month"] ["year", "month"] (defScope st_c_month_length) := ⟨rfl, rfl, rfl, by decide +kernel, rfl, by decide +kernel, by decide +kernel⟩
theorem sc_c_days_before_year : FnScope ["year", "past"] ["year"] (defScope st_c_days_before_year) := ⟨rfl, rfl, rfl, by decide +kernel, rfl, by decide +kernel, by decide +kernel⟩
theorem sc_c_day_of : FnScope ["year", "month", "day", "months", "other"] ["year", "month", "day"] (defScope st_c_day_of) := ⟨rfl, rfl, rfl, by decide +kernel, rfl, by decide +kernel, by decide +kernel⟩
theorem sc_c_check_day : FnScope ["day"] ["day"] (defScope st_c_check_day) := ⟨rfl, rfl, rfl, by decide +kernel, rfl, by decide +kernel, by decide +kernel⟩
theorem sc_c_date_of : FnScope ["day", "count", "year", "rest", "month"] ["day"] (defScope st_c_date_of) := ⟨rfl, rfl, rfl, by decide +kernel, rfl, by decide +kernel, by decide +kernel⟩
theorem sc_c_weekday : FnScope ["day"] ["day"] (defScope st_c_weekday) := ⟨rfl, rfl, rfl, by decide +kernel, rfl, by decide +kernel, by decide +kernel⟩
theorem sc_c_week_of : FnScope ["day", "thursday", "year"] ["day"] (defScope st_c_week_of) := ⟨rfl, rfl, rfl, by decide +kernel, rfl, by decide +kernel, by decide +kernel⟩
theorem sc_c_moved_months : FnScope ["day", "months", "year", "month", "place", "count"] ["day", "months"] (defScope st_c_moved_months) := ⟨rfl, rfl, rfl, by decide +kernel, rfl, by decide +kernel, by decide +kernel⟩
theorem sc_c_weekday_in_month : FnScope ["year", "month", "which", "number", "length", "first", "found", "at"] ["year", "month", "which", "number"] (defScope st_c_weekday_in_month) := ⟨rfl, rfl, rfl, by decide +kernel, rfl, by decide +kernel, by decide +kernel⟩
theorem sc_c_easter : FnScope ["year", "golden", "century", "rest", "shift", "moon", "turn", "late", "count"] ["year"] (defScope st_c_easter) := ⟨rfl, rfl, rfl, by decide +kernel, rfl, by decide +kernel, by decide +kernel⟩
theorem sc_c_law_deck : FnScope ["script", "cells", "each", "deck", "seed", "k", "cell", "rest", "at"] ["script", "cells", "each"] (defScope st_c_law_deck) := ⟨rfl, rfl, rfl, by decide +kernel, rfl, by decide +kernel, by decide +kernel⟩
theorem sc_c_law_take : FnScope ["deck", "many"] ["deck", "many"] (defScope st_c_law_take) := ⟨rfl, rfl, rfl, by decide +kernel, rfl, by decide +kernel, by decide +kernel⟩
theorem sc_c_law_plain : FnScope ["value", "item"] ["value"] (defScope st_c_law_plain) := ⟨rfl, rfl, rfl, by decide +kernel, rfl, by decide +kernel, by decide +kernel⟩
theorem sc_c_law_day : FnScope ["year", "month", "day", "early", "past", "age", "rest", "place"] ["year", "month", "day"] (defScope st_c_law_day) := ⟨rfl, rfl, rfl, by decide +kernel, rfl, by decide +kernel, by decide +kernel⟩
theorem sc_c_law_leap : FnScope ["year"] ["year"] (defScope st_c_law_leap) := ⟨rfl, rfl, rfl, by decide +kernel, rfl, by decide +kernel, by decide +kernel⟩
theorem sc_c_law_length : FnScope ["year", "month"] ["year", "month"] (defScope st_c_law_length) := ⟨rfl, rfl, rfl, by decide +kernel, rfl, by decide +kernel, by decide +kernel⟩
theorem sc_c_law_date : FnScope ["deck", "year", "month", "day"] ["deck"] (defScope st_c_law_date) := ⟨rfl, rfl, rfl, by decide +kernel, rfl, by decide +kernel, by decide +kernel⟩
theorem sc_c_law_why : FnScope ["ask", "one", "two", "three", "four", "error"] ["ask", "one", "two", "three", "four"] (defScope st_c_law_why) := ⟨rfl, rfl, rfl, by decide +kernel, rfl, by decide +kernel, by decide +kernel⟩
theorem sc_c_law_moved : FnScope ["date", "months", "year", "month", "day", "turn"] ["date", "months"] (defScope st_c_law_moved) := ⟨rfl, rfl, rfl, by decide +kernel, rfl, by decide +kernel, by decide +kernel⟩
theorem sc_c_law_easter : FnScope ["year", "golden", "century", "cold", "age", "full"] ["year"] (defScope st_c_law_easter) := ⟨rfl, rfl, rfl, by decide +kernel, rfl, by decide +kernel, by decide +kernel⟩
theorem sc_c_law : FnScope ["script", "deck", "year", "month", "day", "number", "months", "due", "more", "thursday", "one", "near", "passed", "which", "listed", "place", "time", "told", "bad", "known", "low", "high", "answers"] ["script"] (defScope st_c_law) := ⟨rfl, rfl, rfl, by decide +kernel, rfl, by decide +kernel, by decide +kernel⟩
/-- where the defs, the classes and the constants of the text stand -/
structure Ad where
  f_c_InvalidTime_init : Addr
  d_c_InvalidTime_init : FuncData
  f_c_InvalidSlot_init : Addr
  d_c_InvalidSlot_init : FuncData
  f_c_is_leap : Addr
  d_c_is_leap : FuncData
  f_c_check_year : Addr
  d_c_check_year : FuncData
  f_c_month_length : Addr
  d_c_month_length : FuncData
  f_c_days_before_year : Addr
  d_c_days_before_year : FuncData
  f_c_day_of : Addr
  d_c_day_of : FuncData
  f_c_check_day : Addr
  d_c_check_day : FuncData
  f_c_date_of : Addr
  d_c_date_of : FuncData
  f_c_weekday : Addr
  d_c_weekday : FuncData
  f_c_week_of : Addr
  d_c_week_of : FuncData
  f_c_moved_months : Addr
  d_c_moved_months : FuncData
  f_c_weekday_in_month : Addr
  d_c_weekday_in_month : FuncData
  f_c_easter : Addr
  d_c_easter : FuncData
  f_c_law_deck : Addr
  d_c_law_deck : FuncData
  f_c_law_take : Addr
  d_c_law_take : FuncData
  f_c_law_plain : Addr
  d_c_law_plain : FuncData
  f_c_law_day : Addr
  d_c_law_day : FuncData
  f_c_law_leap : Addr
  d_c_law_leap : FuncData
  f_c_law_length : Addr
  d_c_law_length : FuncData
  f_c_law_date : Addr
  d_c_law_date : FuncData
  f_c_law_why : Addr
  d_c_law_why : FuncData
  f_c_law_moved : Addr
  d_c_law_moved : FuncData
  f_c_law_easter : Addr
  d_c_law_easter : FuncData
  f_c_law : Addr
  d_c_law : FuncData
  C_SlotError : Addr
  C_InvalidTime : Addr
  C_InvalidSlot : Addr
  A_LENGTHS : Addr
  t_FIRST_YEAR : Tok
  t_LAST_YEAR : Tok
  t_DAYS_BEFORE : Tok
  z : Unit := ()
structure Txt (K : PySem.W.Frag) (mg : Str → Option Value) (a : Ad) : Prop where
  F_c_InvalidTime_init : Fun K "__init__" "InvalidTime.__init__" st_c_InvalidTime_init a.f_c_InvalidTime_init a.d_c_InvalidTime_init
  b_c_InvalidTime_init : Binds K a.d_c_InvalidTime_init ["self", "what"] []
  F_c_InvalidSlot_init : Fun K "__init__" "InvalidSlot.__init__" st_c_InvalidSlot_init a.f_c_InvalidSlot_init a.d_c_InvalidSlot_init
  b_c_InvalidSlot_init : Binds K a.d_c_InvalidSlot_init ["self", "what"] []
  F_c_is_leap : Fun K "is_leap" "is_leap" st_c_is_leap a.f_c_is_leap a.d_c_is_leap
  b_c_is_leap : Binds K a.d_c_is_leap ["year"] []
  m_c_is_leap : mg "is_leap" = some (.ref a.f_c_is_leap)
  F_c_check_year : Fun K "check_year" "check_year" st_c_check_year a.f_c_check_year a.d_c_check_year
  b_c_check_year : Binds K a.d_c_check_year ["year"] []
  m_c_check_year : mg "check_year" = some (.ref a.f_c_check_year)
  F_c_month_length : Fun K "month_length" "month_length" st_c_month_length a.f_c_month_length a.d_c_month_length
  b_c_month_length : Binds K a.d_c_month_length ["year", "month"] []
  m_c_month_length : mg "month_length" = some (.ref a.f_c_month_length)
  F_c_days_before_year : Fun K "days_before_year" "days_before_year" st_c_days_before_year a.f_c_days_before_year a.d_c_days_before_year
  b_c_days_before_year : Binds K a.d_c_days_before_year ["year"] []
  m_c_days_before_year : mg "days_before_year" = some (.ref a.f_c_days_before_year)
  F_c_day_of : Fun K "day_of" "day_of" st_c_day_of a.f_c_day_of a.d_c_day_of
  b_c_day_of : Binds K a.d_c_day_of ["year", "month", "day"] []
  m_c_day_of : mg "day_of" = some (.ref a.f_c_day_of)
  F_c_check_day : Fun K "check_day" "check_day" st_c_check_day a.f_c_check_day a.d_c_check_day
  b_c_check_day : Binds K a.d_c_check_day ["day"] []
  m_c_check_day : mg "check_day" = some (.ref a.f_c_check_day)
  F_c_date_of : Fun K "date_of" "date_of" st_c_date_of a.f_c_date_of a.d_c_date_of
  b_c_date_of : Binds K a.d_c_date_of ["day"] []
  m_c_date_of : mg "date_of" = some (.ref a.f_c_date_of)
  F_c_weekday : Fun K "weekday" "weekday" st_c_weekday a.f_c_weekday a.d_c_weekday
  b_c_weekday : Binds K a.d_c_weekday ["day"] []
  m_c_weekday : mg "weekday" = some (.ref a.f_c_weekday)
  F_c_week_of : Fun K "week_of" "week_of" st_c_week_of a.f_c_week_of a.d_c_week_of
  b_c_week_of : Binds K a.d_c_week_of ["day"] []
  m_c_week_of : mg "week_of" = some (.ref a.f_c_week_of)
  F_c_moved_months : Fun K "moved_months" "moved_months" st_c_moved_months a.f_c_moved_months a.d_c_moved_months
  b_c_moved_months : Binds K a.d_c_moved_months ["day", "months"] []
  m_c_moved_months : mg "moved_months" = some (.ref a.f_c_moved_months)
  F_c_weekday_in_month : Fun K "weekday_in_month" "weekday_in_month" st_c_weekday_in_month a.f_c_weekday_in_month a.d_c_weekday_in_month
  b_c_weekday_in_month : Binds K a.d_c_weekday_in_month ["year", "month", "which", "number"] []
  m_c_weekday_in_month : mg "weekday_in_month" = some (.ref a.f_c_weekday_in_month)
  F_c_easter : Fun K "easter" "easter" st_c_easter a.f_c_easter a.d_c_easter
  b_c_easter : Binds K a.d_c_easter ["year"] []
  m_c_easter : mg "easter" = some (.ref a.f_c_easter)
  F_c_law_deck : Fun K "_law_deck" "_law_deck" st_c_law_deck a.f_c_law_deck a.d_c_law_deck
  b_c_law_deck : Binds K a.d_c_law_deck ["script", "cells", "each"] []
  m_c_law_deck : mg "_law_deck" = some (.ref a.f_c_law_deck)
  F_c_law_take : Fun K "_law_take" "_law_take" st_c_law_take a.f_c_law_take a.d_c_law_take
  b_c_law_take : Binds K a.d_c_law_take ["deck", "many"] []
  m_c_law_take : mg "_law_take" = some (.ref a.f_c_law_take)
  F_c_law_plain : Fun K "_law_plain" "_law_plain" st_c_law_plain a.f_c_law_plain a.d_c_law_plain
  b_c_law_plain : Binds K a.d_c_law_plain ["value"] []
  m_c_law_plain : mg "_law_plain" = some (.ref a.f_c_law_plain)
  F_c_law_day : Fun K "_law_day" "_law_day" st_c_law_day a.f_c_law_day a.d_c_law_day
  b_c_law_day : Binds K a.d_c_law_day ["year", "month", "day"] []
  m_c_law_day : mg "_law_day" = some (.ref a.f_c_law_day)
  F_c_law_leap : Fun K "_law_leap" "_law_leap" st_c_law_leap a.f_c_law_leap a.d_c_law_leap
  b_c_law_leap : Binds K a.d_c_law_leap ["year"] []
  m_c_law_leap : mg "_law_leap" = some (.ref a.f_c_law_leap)
  F_c_law_length : Fun K "_law_length" "_law_length" st_c_law_length a.f_c_law_length a.d_c_law_length
  b_c_law_length : Binds K a.d_c_law_length ["year", "month"] []
  m_c_law_length : mg "_law_length" = some (.ref a.f_c_law_length)
  F_c_law_date : Fun K "_law_date" "_law_date" st_c_law_date a.f_c_law_date a.d_c_law_date
  b_c_law_date : Binds K a.d_c_law_date ["deck"] []
  m_c_law_date : mg "_law_date" = some (.ref a.f_c_law_date)
  F_c_law_why : Fun K "_law_why" "_law_why" st_c_law_why a.f_c_law_why a.d_c_law_why
  b_c_law_why : Binds K a.d_c_law_why ["ask", "one", "two", "three", "four"] []
  m_c_law_why : mg "_law_why" = some (.ref a.f_c_law_why)
  F_c_law_moved : Fun K "_law_moved" "_law_moved" st_c_law_moved a.f_c_law_moved a.d_c_law_moved
  b_c_law_moved : Binds K a.d_c_law_moved ["date", "months"] []
  m_c_law_moved : mg "_law_moved" = some (.ref a.f_c_law_moved)
  F_c_law_easter : Fun K "_law_easter" "_law_easter" st_c_law_easter a.f_c_law_easter a.d_c_law_easter
  b_c_law_easter : Binds K a.d_c_law_easter ["year"] []
  m_c_law_easter : mg "_law_easter" = some (.ref a.f_c_law_easter)
  F_c_law : Fun K "law" "law" st_c_law a.f_c_law a.d_c_law
  b_c_law : Binds K a.d_c_law ["script"] []
  m_c_law : mg "law" = some (.ref a.f_c_law)
  m_SlotError : mg "SlotError" = some (.ref a.C_SlotError)
  bc_SlotError : BaseC K a.C_SlotError
  m_InvalidTime : mg "InvalidTime" = some (.ref a.C_InvalidTime)
  ox_InvalidTime : OexC K a.C_InvalidTime
  in_InvalidTime : PySem.W.findIn K (.ref a.C_InvalidTime) "__init__" = some (some (.ref a.f_c_InvalidTime_init))
  ti_InvalidTime : PySem.W.typeIn K (.ref a.f_c_InvalidTime_init) = some (.type "function")
  no_InvalidTime_what : PySem.W.findIn K (.ref a.C_InvalidTime) "what" = some none
  xf_InvalidTime : XfC K a.C_InvalidTime
  is_InvalidTime : IsC K a.C_InvalidTime
  em_InvalidTime_SlotError : PySem.W.exmOne K (.ref a.C_InvalidTime) (.ref a.C_SlotError) = some true
  em_InvalidTime_InvalidTime : PySem.W.exmOne K (.ref a.C_InvalidTime) (.ref a.C_InvalidTime) = some true
  m_InvalidSlot : mg "InvalidSlot" = some (.ref a.C_InvalidSlot)
  ox_InvalidSlot : OexC K a.C_InvalidSlot
  in_InvalidSlot : PySem.W.findIn K (.ref a.C_InvalidSlot) "__init__" = some (some (.ref a.f_c_InvalidSlot_init))
  ti_InvalidSlot : PySem.W.typeIn K (.ref a.f_c_InvalidSlot_init) = some (.type "function")
  no_InvalidSlot_what : PySem.W.findIn K (.ref a.C_InvalidSlot) "what" = some none
  xf_InvalidSlot : XfC K a.C_InvalidSlot
  is_InvalidSlot : IsC K a.C_InvalidSlot
  em_InvalidSlot_SlotError : PySem.W.exmOne K (.ref a.C_InvalidSlot) (.ref a.C_SlotError) = some true
  em_InvalidSlot_InvalidSlot : PySem.W.exmOne K (.ref a.C_InvalidSlot) (.ref a.C_InvalidSlot) = some true
  kt_InvalidTime_InvalidTime : PySem.W.kitOne K (.ref a.C_InvalidTime) (.ref a.C_InvalidTime) = some true
  kt_InvalidTime_InvalidSlot : PySem.W.kitOne K (.ref a.C_InvalidTime) (.ref a.C_InvalidSlot) = some false
  n_abs : mg "abs" = none
  n_bool : mg "bool" = none
  n_int : mg "int" = none
  n_isinstance : mg "isinstance" = none
  n_len : mg "len" = none
  n_list : mg "list" = none
  n_max : mg "max" = none
  n_min : mg "min" = none
  n_range : mg "range" = none
  n_str : mg "str" = none
  n_sum : mg "sum" = none
  n_tuple : mg "tuple" = none
  m_LENGTHS : mg "LENGTHS" = some (.ref a.A_LENGTHS)
  w_LENGTHS : SqT K (fun _ => none) a.A_LENGTHS [.int 31, .int 28, .int 31, .int 30, .int 31, .int 30, .int 31, .int 31, .int 30, .int 31, .int 30, .int 31]
  m_FIRST_YEAR : mg "FIRST_YEAR" = some (.int 1 a.t_FIRST_YEAR)
  m_LAST_YEAR : mg "LAST_YEAR" = some (.int 9999 a.t_LAST_YEAR)
  m_DAYS_BEFORE : mg "DAYS_BEFORE" = some (.int 738885 a.t_DAYS_BEFORE)
abbrev sp_c_law_take : Sp := sp_take
abbrev sp_c_law_deck (K : PySem.W.Frag) : Sp := sp_deck K
abbrev sp_c_law_plain (K : PySem.W.Frag) (n : Nat) : Sp := sp_plain K n
def leap (y : Int) : Bool := decide (y % 4 = 0) && (!decide (y % 100 = 0) || decide (y % 400 = 0))
def lens : List Int := [31, 28, 31, 30, 31, 30, 31, 31, 30, 31, 30, 31]
def mlen (y m : Int) : Int := lens.getD (m - 1).toNat 0 + (if m = 2 ∧ leap y = true then 1 else 0)
def dby (y : Int) : Int := 365 * (y - 1) + (y - 1) / 4 - (y - 1) / 100 + (y - 1) / 400
/-- the days of the months before the m-th (m from 1 on) -/
def mbef (y : Int) (m : Nat) : Int := ((List.range (m - 1)).map fun (i : Nat) => mlen y (1 + i)).sum
def dayN (y m d : Int) : Int := dby y + mbef y m.toNat + d - 1 - 738885
def okYM (y m : Int) : Prop := 1 ≤ y ∧ y ≤ 9999 ∧ 1 ≤ m ∧ m ≤ 12
def okD8 (y m d : Int) : Prop := okYM y m ∧ 1 ≤ d ∧ d ≤ mlen y m
def lawDay (y m d : Int) : Int :=
  let e : Int := if m < 3 then 1 else 0
  let p := y - e
  let g := p / 400
  let r := p - g * 400
  g * 146097 + r * 365 + r / 4 - r / 100 + ((153 * (m - 3 + 12 * e) + 2) / 5 + d - 1) - 719468 - 19723
theorem leap_iff {y : Int} : leap y = true ↔ y % 4 = 0 ∧ (¬ y % 100 = 0 ∨ y % 400 = 0) := by simp [leap]
theorem mbef_eq (y : Int) : mbef y 1 = 0 ∧ mbef y 2 = 31 ∧ mbef y 3 = 59 + (if leap y = true then 1 else 0) ∧ mbef y 4 = 90 + (if leap y = true then 1 else 0) ∧ mbef y 5 = 120 + (if leap y = true then 1 else 0) ∧ mbef y 6 = 151 + (if leap y = true then 1 else 0) ∧
    mbef y 7 = 181 + (if leap y = true then 1 else 0) ∧ mbef y 8 = 212 + (if leap y = true then 1 else 0) ∧ mbef y 9 = 243 + (if leap y = true then 1 else 0) ∧ mbef y 10 = 273 + (if leap y = true then 1 else 0) ∧ mbef y 11 = 304 + (if leap y = true then 1 else 0) ∧ mbef y 12 = 334 + (if leap y = true then 1 else 0) ∧ mbef y 13 = 365 + (if leap y = true then 1 else 0) := by
  cases h : leap y <;> simp [mbef, mlen, lens, h, List.range_succ]
theorem m12 {m : Int} (h1 : 1 ≤ m) (h2 : m ≤ 12) : m = 1 ∨ m = 2 ∨ m = 3 ∨ m = 4 ∨ m = 5 ∨ m = 6 ∨ m = 7 ∨ m = 8 ∨ m = 9 ∨ m = 10 ∨ m = 11 ∨ m = 12 := by omega
theorem mbef_int {y m : Int} (h1 : 1 ≤ m) (h2 : m ≤ 13) : mbef y m.toNat = (if m = 1 then 0 else if m = 2 then 31 else (if m = 3 then 59 else if m = 4 then 90 else if m = 5 then 120 else if m = 6 then 151 else if m = 7 then 181 else if m = 8 then 212 else if m = 9 then 243 else if m = 10 then 273 else if m = 11 then 304 else if m = 12 then 334 else 365) + (if leap y = true then 1 else 0)) := by
  obtain ⟨e1, e2, e3, e4, e5, e6, e7, e8, e9, e10, e11, e12, e13⟩ := mbef_eq y
  have : m = 1 ∨ m = 2 ∨ m = 3 ∨ m = 4 ∨ m = 5 ∨ m = 6 ∨ m = 7 ∨ m = 8 ∨ m = 9 ∨ m = 10 ∨ m = 11 ∨ m = 12 ∨ m = 13 := by omega
  rcases this with rfl | rfl | rfl | rfl | rfl | rfl | rfl | rfl | rfl | rfl | rfl | rfl | rfl
  · exact e1
  · exact e2
  · exact e3
  · exact e4
  · exact e5
  · exact e6
  · exact e7
  · exact e8
  · exact e9
  · exact e10
  · exact e11
  · exact e12
  · exact e13
theorem cut4 (p : Int) : (p - p / 400 * 400) / 4 = p / 4 - 100 * (p / 400) := by omega
theorem cut100 (p : Int) : (p - p / 400 * 400) / 100 = p / 100 - 4 * (p / 400) := by omega
theorem back4 (y : Int) : (y - 1) / 4 = y / 4 - (if y % 4 = 0 then 1 else 0) := by split <;> omega
theorem back100 (y : Int) : (y - 1) / 100 = y / 100 - (if y % 100 = 0 then 1 else 0) := by split <;> omega
theorem back400 (y : Int) : (y - 1) / 400 = y / 400 - (if y % 400 = 0 then 1 else 0) := by split <;> omega
theorem leap_sum (y : Int) : (if leap y = true then (1 : Int) else 0) = (if y % 4 = 0 then 1 else 0) - (if y % 100 = 0 then 1 else 0) + (if y % 400 = 0 then 1 else 0) := by
  have hl := leap_iff (y := y)
  by_cases a : y % 4 = 0 <;> by_cases b : y % 100 = 0 <;> by_cases c : y % 400 = 0
  all_goals
    simp only [a, b, c, if_true, if_false]
    by_cases z : leap y = true
    · have z' := hl.mp z
      rw [if_pos z]
      omega
    · have z' : ¬ (y % 4 = 0 ∧ (¬ y % 100 = 0 ∨ y % 400 = 0)) := fun q => z (hl.mpr q)
      rw [if_neg z]
      omega
theorem law_day {y m d : Int} (h1 : 1 ≤ m) (h2 : m ≤ 12) : lawDay y m d = dayN y m d := by
  unfold dayN
  rw [mbef_int h1 (by omega), leap_sum]
  unfold lawDay dby
  have b4 := back4 y
  have b100 := back100 y
  have b400 := back400 y
  have c4 := cut4 (y - 1)
  have c100 := cut100 (y - 1)
  have d4 := cut4 (y - 0)
  have d100 := cut100 (y - 0)
  rw [show (y - 0) / 4 = y / 4 by rw [Int.sub_zero]] at d4
  rw [show (y - 0) / 100 = y / 100 by rw [Int.sub_zero]] at d100
  have e400 : (y - 0) / 400 = y / 400 := by rw [Int.sub_zero]
  rcases m12 h1 h2 with rfl | rfl | rfl | rfl | rfl | rfl | rfl | rfl | rfl | rfl | rfl | rfl
  all_goals
    dsimp only
    simp only [if_true, if_false, Int.reduceLT, Int.reduceEq]
    first
    | rw [c4, c100, b4, b100, b400]
    | rw [d4, d100, e400, b4, b100, b400]
    generalize (if y % 4 = 0 then (1 : Int) else 0) = s4
    generalize (if y % 100 = 0 then (1 : Int) else 0) = s100
    generalize (if y % 400 = 0 then (1 : Int) else 0) = s400
    generalize y / 4 = q4
    generalize y / 100 = q100
    generalize y / 400 = q400
    omega
theorem mlen_int {y m : Int} (h1 : 1 ≤ m) (h2 : m ≤ 12) : mlen y m = (if m = 2 then (if leap y = true then 29 else 28) else if m = 4 ∨ m = 6 ∨ m = 9 ∨ m = 11 then 30 else 31) := by
  rcases m12 h1 h2 with rfl | rfl | rfl | rfl | rfl | rfl | rfl | rfl | rfl | rfl | rfl | rfl <;> cases z : leap y <;> simp [mlen, lens, z]
theorem mlen_bounds {y m : Int} (h1 : 1 ≤ m) (h2 : m ≤ 12) : 28 ≤ mlen y m ∧ mlen y m ≤ 31 := by
  rw [mlen_int h1 h2]
  constructor <;> (repeat' split) <;> omega
theorem mbef_step {y m : Int} (h1 : 1 ≤ m) : mbef y (m + 1).toNat = mbef y m.toNat + mlen y m := by
  obtain ⟨k, rfl⟩ : ∃ k : Nat, m = (k : Int) + 1 := ⟨(m - 1).toNat, by omega⟩
  have e1 : ((k : Int) + 1 + 1).toNat = k + 2 := by omega
  have e2 : ((k : Int) + 1).toNat = k + 1 := by omega
  rw [e1, e2]
  unfold mbef
  rw [show k + 2 - 1 = k + 1 by omega, show k + 1 - 1 = k by omega, List.range_succ, List.map_append, List.sum_append]
  simp [Int.add_comm]
theorem year_step {y : Int} : dby (y + 1) = dby y + mbef y 13 := by
  obtain ⟨_, _, _, _, _, _, _, _, _, _, _, _, e13⟩ := mbef_eq y
  rw [e13, leap_sum]
  unfold dby
  rw [Int.add_sub_cancel, back4, back100, back400]
  omega
theorem year_up {y : Int} : dby y + 365 ≤ dby (y + 1) ∧ dby (y + 1) ≤ dby y + 366 := by
  rw [year_step]
  obtain ⟨_, _, _, _, _, _, _, _, _, _, _, _, e13⟩ := mbef_eq y
  rw [e13]
  split <;> omega
theorem dby_mono {a b : Int} (h : a ≤ b) : dby a + (b - a) * 365 ≤ dby b := by
  obtain ⟨k, rfl⟩ : ∃ k : Nat, b = a + k := ⟨(b - a).toNat, by omega⟩
  induction k with
  | zero => simp
  | succ k ih =>
    have h1 := ih (by omega)
    have h2 := (year_up (y := a + k)).1
    rw [show a + ((k + 1 : Nat) : Int) = a + k + 1 by omega]
    omega
/-- each day has its year -/
theorem year_of {c : Int} (h0 : 0 ≤ c) (h1 : c < dby 10000) : ∃ y : Int, 1 ≤ y ∧ y ≤ 9999 ∧ dby y ≤ c ∧ c < dby (y + 1) := by
  have : ∀ k : Nat, c < dby (1 + k) → ∃ y : Int, 1 ≤ y ∧ y ≤ k ∧ dby y ≤ c ∧ c < dby (y + 1) := by
    intro k
    induction k with
    | zero => intro h; have : dby (1 + (0 : Nat)) = 0 := by decide
              omega
    | succ k ih =>
      intro h
      by_cases z : c < dby (1 + k)
      · obtain ⟨y, a, b, e, f⟩ := ih z
        exact ⟨y, a, by omega, e, f⟩
      · exact ⟨1 + k, by omega, by omega, by omega, by rw [show (1 : Int) + k + 1 = 1 + ((k + 1 : Nat) : Int) by omega]; exact h⟩
  obtain ⟨y, a, b, e, f⟩ := this 9999 h1
  exact ⟨y, a, by omega, e, f⟩
theorem month_of {y r : Int} (h0 : 0 ≤ r) (h1 : r < mbef y 13) : ∃ m : Int, 1 ≤ m ∧ m ≤ 12 ∧ mbef y m.toNat ≤ r ∧ r < mbef y (m + 1).toNat := by
  have : ∀ k : Nat, r < mbef y (k + 1) → ∃ m : Int, 1 ≤ m ∧ m ≤ k ∧ mbef y m.toNat ≤ r ∧ r < mbef y (m + 1).toNat := by
    intro k
    induction k with
    | zero => intro h; have : mbef y (0 + 1) = 0 := rfl
              omega
    | succ k ih =>
      intro h
      by_cases z : r < mbef y (k + 1)
      · obtain ⟨y, a, b, e, f⟩ := ih z
        exact ⟨y, a, by omega, e, f⟩
      · refine ⟨k + 1, by omega, by omega, ?_, ?_⟩
        · rw [show ((k : Int) + 1).toNat = k + 1 by omega]
          omega
        · rw [show ((k : Int) + 1 + 1).toNat = k + 1 + 1 by omega]
          exact h
  obtain ⟨m, a, b, e, f⟩ := this 12 h1
  exact ⟨m, a, by omega, e, f⟩
theorem mbef_mono {y a b : Int} (h0 : 1 ≤ a) (h : a ≤ b) (h1 : b ≤ 13) : mbef y a.toNat ≤ mbef y b.toNat := by
  obtain ⟨k, rfl⟩ : ∃ k : Nat, b = a + k := ⟨(b - a).toNat, by omega⟩
  induction k with
  | zero => simp
  | succ k ih =>
    have h2 := ih (by omega) (by omega)
    have h3 := mbef_step (y := y) (m := a + k) (by omega)
    have h4 := mlen_bounds (y := y) (m := a + k) (by omega) (by omega)
    rw [show a + ((k + 1 : Nat) : Int) = a + k + 1 by omega, h3]
    omega
theorem next_in {y m d : Int} : dayN y m (d + 1) = dayN y m d + 1 := by
  unfold dayN
  omega
theorem next_month {y m d : Int} (h1 : 1 ≤ m) (h : d = mlen y m) : dayN y (m + 1) 1 = dayN y m d + 1 := by
  have := mbef_step (y := y) h1
  unfold dayN
  omega
theorem next_year {y d : Int} (h : d = mlen y 12) : dayN (y + 1) 1 1 = dayN y 12 d + 1 := by
  have h1 := mbef_step (y := y) (m := 12) (by decide)
  have h2 := year_step (y := y)
  have h3 : mbef (y + 1) (1 : Int).toNat = 0 := rfl
  have h4 : ((12 : Int) + 1).toNat = 13 := rfl
  rw [h4] at h1
  unfold dayN
  omega
theorem day_range {y m d : Int} (h : okD8 y m d) : -738885 ≤ dayN y m d ∧ dayN y m d ≤ dby 10000 - 1 - 738885 := by
  obtain ⟨⟨a, b, c, e⟩, f, g⟩ := h
  have h1 := mbef_step (y := y) c
  have h2 := mbef_mono (y := y) (a := m + 1) (b := 13) (by omega) (by omega) (by decide)
  have h3 := year_step (y := y)
  have h4 := dby_mono (a := 1) (b := y) a
  have h5 := dby_mono (a := y + 1) (b := 10000) (by omega)
  have h6 : dby 1 = 0 := by decide
  have h7 := mbef_mono (y := y) (a := 1) (b := m) (by decide) c (by omega)
  have h8 : mbef y (1 : Int).toNat = 0 := rfl
  have h9 : (13 : Int).toNat = 13 := rfl
  rw [h9] at h2
  unfold dayN
  omega
/-- each day of the range has a date -/
theorem date_ex {n : Int} (h0 : -738885 ≤ n) (h1 : n ≤ dby 10000 - 1 - 738885) : ∃ y m d, okD8 y m d ∧ dayN y m d = n := by
  obtain ⟨y, a, b, c, e⟩ := year_of (c := n + 738885) (by omega) (by omega)
  have h3 := year_step (y := y)
  obtain ⟨m, f, g, i, j⟩ := month_of (y := y) (r := n + 738885 - dby y) (by omega) (by omega)
  have h4 := mbef_step (y := y) f
  refine ⟨y, m, n + 738885 - dby y - mbef y m.toNat + 1, ⟨⟨a, b, f, g⟩, by omega, by omega⟩, ?_⟩
  unfold dayN
  omega
theorem lens_at {m : Int} (h1 : 1 ≤ m) (h2 : m ≤ 12) : (lens.map V.int)[(m - 1).toNat]? = some (.int (lens.getD (m - 1).toNat 0)) := by
  rcases m12 h1 h2 with rfl | rfl | rfl | rfl | rfl | rfl | rfl | rfl | rfl | rfl | rfl | rfl <;> rfl

def inY (y : Int) : Prop := 1 ≤ y ∧ y ≤ 9999
def inD (n : Int) : Prop := -738885 ≤ n ∧ n ≤ dby 10000 - 1 - 738885
def mv (y m d k : Int) : Int := dayN ((12 * y + m - 1 + k) / 12) ((12 * y + m - 1 + k) % 12 + 1) (min d (mlen ((12 * y + m - 1 + k) / 12) ((12 * y + m - 1 + k) % 12 + 1)))
theorem mv_ok {y m d k : Int} (h : okD8 y m d) (hy : inY ((12 * y + m - 1 + k) / 12)) : okD8 ((12 * y + m - 1 + k) / 12) ((12 * y + m - 1 + k) % 12 + 1) (min d (mlen ((12 * y + m - 1 + k) / 12) ((12 * y + m - 1 + k) % 12 + 1))) := by
  obtain ⟨⟨a, b, c, e⟩, f, g⟩ := h
  have hb := mlen_bounds (y := (12 * y + m - 1 + k) / 12) (m := (12 * y + m - 1 + k) % 12 + 1) (by omega) (by omega)
  refine ⟨⟨hy.1, hy.2, by omega, by omega⟩, by omega, by omega⟩
theorem mv_small {y m d k : Int} (h : d < 29) : mv y m d k = dayN ((12 * y + m - 1 + k) / 12) ((12 * y + m - 1 + k) % 12 + 1) d := by
  have hb := mlen_bounds (y := (12 * y + m - 1 + k) / 12) (m := (12 * y + m - 1 + k) % 12 + 1) (by omega) (by omega)
  unfold mv
  rw [show min d (mlen ((12 * y + m - 1 + k) / 12) ((12 * y + m - 1 + k) % 12 + 1)) = d by omega]
theorem min_small {y m d k : Int} (h : d < 29) : min d (mlen ((12 * y + m - 1 + k) / 12) ((12 * y + m - 1 + k) % 12 + 1)) = d := by
  have hb := mlen_bounds (y := (12 * y + m - 1 + k) / 12) (m := (12 * y + m - 1 + k) % 12 + 1) (by omega) (by omega)
  omega
theorem mv_zero {y m d : Int} (h : okD8 y m d) : mv y m d 0 = dayN y m d := by
  obtain ⟨⟨a, b, c, e⟩, f, g⟩ := h
  unfold mv
  rw [show (12 * y + m - 1 + 0) / 12 = y by omega, show (12 * y + m - 1 + 0) % 12 + 1 = m by omega, show min d (mlen y m) = d by omega]
theorem mv_add {y m d k l : Int} (h : d < 29) : mv ((12 * y + m - 1 + k) / 12) ((12 * y + m - 1 + k) % 12 + 1) d l = mv y m d (k + l) := by
  rw [mv_small h, mv_small h]
  rw [show 12 * ((12 * y + m - 1 + k) / 12) + ((12 * y + m - 1 + k) % 12 + 1) - 1 + l = 12 * y + m - 1 + (k + l) by omega]
theorem dayN_first (y : Int) : dayN y 1 1 = dby y - 738885 := by
  unfold dayN
  have : mbef y (1 : Int).toNat = 0 := rfl
  omega
theorem dayN_at {y m d : Int} : dayN y m d = dayN y m 1 + (d - 1) := by
  unfold dayN
  omega
theorem in_year {y m d : Int} (h : okD8 y m d) : dby y - 738885 ≤ dayN y m d ∧ dayN y m d < dby (y + 1) - 738885 := by
  obtain ⟨⟨a, b, c, e⟩, f, g⟩ := h
  have h1 := mbef_step (y := y) c
  have h2 := mbef_mono (y := y) (a := m + 1) (b := 13) (by omega) (by omega) (by decide)
  have h3 := year_step (y := y)
  have h7 := mbef_mono (y := y) (a := 1) (b := m) (by decide) c (by omega)
  have h8 : mbef y (1 : Int).toNat = 0 := rfl
  have h9 : (13 : Int).toNat = 13 := rfl
  rw [h9] at h2
  unfold dayN
  omega
theorem year_uniq {a b c : Int} (h1 : dby a ≤ c) (h2 : c < dby (a + 1)) (h3 : dby b ≤ c) (h4 : c < dby (b + 1)) : a = b := by
  rcases Int.lt_trichotomy a b with h | h | h
  · have := dby_mono (a := a + 1) (b := b) (by omega)
    omega
  · exact h
  · have := dby_mono (a := b + 1) (b := a) (by omega)
    omega
theorem near_ex {y m d t : Int} (ok : okD8 y m d) (ht : t = dayN y m d - dayN y m d % 7 + 3) : ∃ Y, (Y = y - 1 ∨ Y = y ∨ Y = y + 1) ∧ dby Y ≤ t + 738885 ∧ t + 738885 < dby (Y + 1) := by
  obtain ⟨h1, h2⟩ := in_year ok
  have a := year_up (y := y - 1)
  have b := year_up (y := y)
  have c := year_up (y := y + 1)
  rw [show y - 1 + 1 = y by omega] at a
  by_cases z : t + 738885 < dby y
  · exact ⟨y - 1, .inl rfl, by omega, by rw [show y - 1 + 1 = y by omega]; exact z⟩
  · by_cases w : t + 738885 < dby (y + 1)
    · exact ⟨y, .inr (.inl rfl), by omega, w⟩
    · exact ⟨y + 1, .inr (.inr rfl), by omega, by omega⟩
/-- the days of a weekday -/
def FM (a : Int) (n : Nat) (w : Int) : List Int := (List.range n).filterMap fun (i : Nat) => if (a + i) % 7 = w then some (a + i) else none
theorem FM_succ (a : Int) (n : Nat) (w : Int) : FM a (n + 1) w = FM a n w ++ (if (a + n) % 7 = w then [a + n] else []) := by
  unfold FM
  rw [List.range_succ, List.filterMap_append]
  congr 1
  by_cases h : (a + n) % 7 = w <;> simp [h]
theorem FM_len {a : Int} {n : Nat} {w : Int} (h0 : 0 ≤ w) (h1 : w ≤ 6) : ((FM a n w).length : Int) = (a + n - 1 - w) / 7 - (a - 1 - w) / 7 := by
  induction n with
  | zero => simp [FM]
  | succ n ih =>
    rw [FM_succ, List.length_append, Int.natCast_add, ih]
    split
    · rw [List.length_singleton]; omega
    · rw [List.length_nil]; omega
theorem FM_small {y m w : Int} (h1 : 1 ≤ m) (h2 : m ≤ 12) (h0 : 0 ≤ w) (h6 : w ≤ 6) : (FM (dayN y m 1) (mlen y m).toNat w).length ≤ 5 := by
  have := FM_len (a := dayN y m 1) (n := (mlen y m).toNat) h0 h6
  have hb := mlen_bounds (y := y) h1 h2
  omega
theorem FM_v (a : Int) (n : Nat) (w : Int) : (List.range n).filterMap (fun (i : Nat) => if (a + i) % 7 = w then some (V.int (a + i)) else none) = (FM a n w).map V.int := by
  unfold FM
  rw [List.map_filterMap]
  congr 1
  funext i
  split <;> rfl
theorem week_count {a t : Int} (ha : a ≤ t) (ht : t % 7 = 3) : ((FM a (t + 1 - a).toNat 3).length : Int) = (t - a) / 7 + 1 := by
  rw [FM_len (by decide) (by decide)]
  omega
def eC (y : Int) : Int :=
  let g := y % 19
  let c := y / 100
  let r := y % 100
  let shift := (c - (c + 8) / 25 + 1) / 3
  let moon := (19 * g + c - c / 4 - shift + 15) % 30
  let turn := (32 + 2 * (c % 4) + 2 * (r / 4) - moon - r % 4) % 7
  let late := (g + 11 * moon + 22 * turn) / 451
  moon + turn - 7 * late + 114
def eA (y : Int) : Int :=
  let g := y % 19
  let c := y / 100
  let cold := c - c / 4 - (8 * c + 13) / 25
  (19 * g + cold + 15) % 30
def eB (y : Int) : Int := if eA y = 29 ∨ (eA y = 28 ∧ y % 19 > 10) then eA y - 1 else eA y
def lawE (y : Int) : Int := dayN y 3 21 + eB y + 7 - (dayN y 3 21 + eB y + 1) % 7
/-- days of March from the beginning of March on -/
def chkE (y : Int) : Bool :=
  let k := dby y + 59 + (if leap y = true then 1 else 0) - 738885
  let e := k + 20 + eB y + 7 - (k + 20 + eB y + 1) % 7
  let c := eC y
  decide (c / 31 = 3 ∧ c % 31 + 1 ≤ 31 ∧ k + (c % 31 + 1) - 1 = e ∧ 22 ≤ c % 31 + 1) || decide (c / 31 = 4 ∧ c % 31 + 1 ≤ 30 ∧ k + 31 + (c % 31 + 1) - 1 = e ∧ c % 31 + 1 ≤ 25)
theorem chk_all : (List.range 100).all (fun i => (List.range 100).all fun j => i * 100 + j == 0 || chkE ((i * 100 + j : Nat) : Int)) = true := by decide +kernel
theorem chk_y {y : Int} (h : inY y) : chkE y = true := by
  have h1 := List.all_eq_true.mp chk_all (y / 100).toNat (List.mem_range.mpr (by have := h.1; have := h.2; omega))
  have h2 := List.all_eq_true.mp h1 (y % 100).toNat (List.mem_range.mpr (by have := h.1; have := h.2; omega))
  rw [Bool.or_eq_true] at h2
  have e : (((y / 100).toNat * 100 + (y % 100).toNat : Nat) : Int) = y := by have := h.1; omega
  rcases h2 with h2 | h2
  · have := eq_of_beq h2
    have := h.1
    omega
  · rw [e] at h2
    exact h2
theorem easter_ok {y : Int} (h : inY y) : okD8 y (eC y / 31) (eC y % 31 + 1) ∧ dayN y (eC y / 31) (eC y % 31 + 1) = lawE y ∧ lawE y % 7 = 6 ∧ dayN y 3 22 ≤ lawE y ∧ lawE y ≤ dayN y 4 25 := by
  have hc := chk_y h
  have m3 : mbef y (3 : Int).toNat = 59 + (if leap y = true then 1 else 0) := (mbef_eq y).2.2.1
  have m4 : mbef y (4 : Int).toNat = 90 + (if leap y = true then 1 else 0) := (mbef_eq y).2.2.2.1
  have l3 : mlen y 3 = 31 := by rw [mlen_int (by decide) (by decide)]; rfl
  have l4 : mlen y 4 = 30 := by rw [mlen_int (by decide) (by decide)]; rfl
  have d3 : ∀ d : Int, dayN y 3 d = dby y + 59 + (if leap y = true then 1 else 0) - 738885 + d - 1 := fun d => by
    unfold dayN
    rw [m3]
    omega
  have d4 : ∀ d : Int, dayN y 4 d = dby y + 59 + (if leap y = true then 1 else 0) - 738885 + 31 + d - 1 := fun d => by
    unfold dayN
    rw [m4]
    omega
  have e : lawE y = dby y + 59 + (if leap y = true then 1 else 0) - 738885 + 20 + eB y + 7 - (dby y + 59 + (if leap y = true then 1 else 0) - 738885 + 20 + eB y + 1) % 7 := by
    unfold lawE
    rw [d3]
    rw [show dby y + 59 + (if leap y = true then 1 else 0) - 738885 + 21 - 1 = dby y + 59 + (if leap y = true then 1 else 0) - 738885 + 20 by omega]
  have w : lawE y % 7 = 6 := by rw [e]; omega
  unfold chkE at hc
  dsimp only at hc
  rw [← e, Bool.or_eq_true] at hc
  rw [d3, d4]
  rcases hc with hc | hc
  · obtain ⟨a, b, c, d⟩ := of_decide_eq_true hc
    rw [a]
    refine ⟨⟨⟨h.1, h.2, by decide, by decide⟩, by omega, by rw [l3]; exact b⟩, by rw [d3]; omega, w, by omega, by omega⟩
  · obtain ⟨a, b, c, d⟩ := of_decide_eq_true hc
    rw [a]
    refine ⟨⟨⟨h.1, h.2, by decide, by decide⟩, by omega, by rw [l4]; exact b⟩, by rw [d4]; omega, w, by omega, by omega⟩
theorem dp_date {K : PySem.W.Frag} {H : Hp} {q : Addr} {y m d : Int} (h : H q = some (.tup [.int y, .int m, .int d])) : Dp K H (.ref q) (.tuple [.int y, .int m, .int d]) := .tup (SqT.of h) (.cons (.int _) (.cons (.int _) (.cons (.int _) .nil)))
def sp_c_is_leap0 : Sp := fun vs H Q _ => ∃ y : Int, vs = [.int y] ∧ Q (.bl (leap y)) H
@[irreducible] def sp_c_is_leap : Sp := sp_c_is_leap0
theorem sp_c_is_leap_eq : sp_c_is_leap  = sp_c_is_leap0  := by unfold sp_c_is_leap; rfl
theorem sp_c_is_leap_use {vs : List V} {H : Hp} {Q : VK} {E : XK} (h : sp_c_is_leap0  vs H Q E) : sp_c_is_leap  vs H Q E := by rw [sp_c_is_leap_eq]; exact h
def sp_c_check_year0 (C : Addr) : Sp := fun vs H Q E => ∃ y : Int, vs = [.int y] ∧ (¬ (1 ≤ y ∧ y ≤ 9999) → raisesW C "date" H E) ∧ (1 ≤ y → y ≤ 9999 → Q .non H)
@[irreducible] def sp_c_check_year (C : Addr) : Sp := sp_c_check_year0 C
theorem sp_c_check_year_eq (C : Addr) : sp_c_check_year C = sp_c_check_year0 C := by unfold sp_c_check_year; rfl
theorem sp_c_check_year_use {C : Addr} {vs : List V} {H : Hp} {Q : VK} {E : XK} (h : sp_c_check_year0 C vs H Q E) : sp_c_check_year C vs H Q E := by rw [sp_c_check_year_eq]; exact h
def sp_c_month_length0 (C : Addr) : Sp := fun vs H Q E => ∃ y m : Int, vs = [.int y, .int m] ∧ (¬ okYM y m → raisesW C "date" H E) ∧ (okYM y m → Q (.int (mlen y m)) H)
@[irreducible] def sp_c_month_length (C : Addr) : Sp := sp_c_month_length0 C
theorem sp_c_month_length_eq (C : Addr) : sp_c_month_length C = sp_c_month_length0 C := by unfold sp_c_month_length; rfl
theorem sp_c_month_length_use {C : Addr} {vs : List V} {H : Hp} {Q : VK} {E : XK} (h : sp_c_month_length0 C vs H Q E) : sp_c_month_length C vs H Q E := by rw [sp_c_month_length_eq]; exact h
def sp_c_days_before_year0 : Sp := fun vs H Q _ => ∃ y : Int, vs = [.int y] ∧ y.natAbs < 2 ^ 60 ∧ Q (.int (dby y)) H
@[irreducible] def sp_c_days_before_year : Sp := sp_c_days_before_year0
theorem sp_c_days_before_year_eq : sp_c_days_before_year  = sp_c_days_before_year0  := by unfold sp_c_days_before_year; rfl
theorem sp_c_days_before_year_use {vs : List V} {H : Hp} {Q : VK} {E : XK} (h : sp_c_days_before_year0  vs H Q E) : sp_c_days_before_year  vs H Q E := by rw [sp_c_days_before_year_eq]; exact h
def sp_c_day_of0 (C : Addr) : Sp := fun vs H Q E => ∃ y m d : Int, vs = [.int y, .int m, .int d] ∧ (¬ okD8 y m d → raisesW C "date" H E) ∧ (okD8 y m d → ∀ H', Same H H' → Q (.int (dayN y m d)) H')
@[irreducible] def sp_c_day_of (C : Addr) : Sp := sp_c_day_of0 C
theorem sp_c_day_of_eq (C : Addr) : sp_c_day_of C = sp_c_day_of0 C := by unfold sp_c_day_of; rfl
theorem sp_c_day_of_use {C : Addr} {vs : List V} {H : Hp} {Q : VK} {E : XK} (h : sp_c_day_of0 C vs H Q E) : sp_c_day_of C vs H Q E := by rw [sp_c_day_of_eq]; exact h
def sp_c_check_day0 (C : Addr) : Sp := fun vs H Q E => ∃ n : Int, vs = [.int n] ∧ (¬ (-738885 ≤ n ∧ n ≤ dby 10000 - 1 - 738885) → raisesW C "day" H E) ∧ (-738885 ≤ n → n ≤ dby 10000 - 1 - 738885 → Q .non H)
@[irreducible] def sp_c_check_day (C : Addr) : Sp := sp_c_check_day0 C
theorem sp_c_check_day_eq (C : Addr) : sp_c_check_day C = sp_c_check_day0 C := by unfold sp_c_check_day; rfl
theorem sp_c_check_day_use {C : Addr} {vs : List V} {H : Hp} {Q : VK} {E : XK} (h : sp_c_check_day0 C vs H Q E) : sp_c_check_day C vs H Q E := by rw [sp_c_check_day_eq]; exact h
def sp_c_date_of0 (C : Addr) : Sp := fun vs H Q E => ∃ n : Int, vs = [.int n] ∧ (¬ (-738885 ≤ n ∧ n ≤ dby 10000 - 1 - 738885) → raisesW C "day" H E) ∧ (-738885 ≤ n → n ≤ dby 10000 - 1 - 738885 → ∃ y m d : Int, okD8 y m d ∧ dayN y m d = n ∧ ∀ p, H p = none → Q (.ref p) (upd H p (.tup [.int y, .int m, .int d])))
@[irreducible] def sp_c_date_of (C : Addr) : Sp := sp_c_date_of0 C
theorem sp_c_date_of_eq (C : Addr) : sp_c_date_of C = sp_c_date_of0 C := by unfold sp_c_date_of; rfl
theorem sp_c_date_of_use {C : Addr} {vs : List V} {H : Hp} {Q : VK} {E : XK} (h : sp_c_date_of0 C vs H Q E) : sp_c_date_of C vs H Q E := by rw [sp_c_date_of_eq]; exact h
def sp_c_weekday0 : Sp := fun vs H Q _ => ∃ n : Int, vs = [.int n] ∧ Q (.int (n % 7)) H
@[irreducible] def sp_c_weekday : Sp := sp_c_weekday0
theorem sp_c_weekday_eq : sp_c_weekday  = sp_c_weekday0  := by unfold sp_c_weekday; rfl
theorem sp_c_weekday_use {vs : List V} {H : Hp} {Q : VK} {E : XK} (h : sp_c_weekday0  vs H Q E) : sp_c_weekday  vs H Q E := by rw [sp_c_weekday_eq]; exact h
def sp_c_law_day0 : Sp := fun vs H Q _ => ∃ y m d : Int, vs = [.int y, .int m, .int d] ∧ y.natAbs < 2 ^ 20 ∧ m.natAbs < 2 ^ 20 ∧ Q (.int (lawDay y m d)) H
@[irreducible] def sp_c_law_day : Sp := sp_c_law_day0
theorem sp_c_law_day_eq : sp_c_law_day  = sp_c_law_day0  := by unfold sp_c_law_day; rfl
theorem sp_c_law_day_use {vs : List V} {H : Hp} {Q : VK} {E : XK} (h : sp_c_law_day0  vs H Q E) : sp_c_law_day  vs H Q E := by rw [sp_c_law_day_eq]; exact h
def sp_c_law_leap0 : Sp := fun vs H Q _ => ∃ y : Int, vs = [.int y] ∧ Q (.bl (leap y)) H
@[irreducible] def sp_c_law_leap : Sp := sp_c_law_leap0
theorem sp_c_law_leap_eq : sp_c_law_leap  = sp_c_law_leap0  := by unfold sp_c_law_leap; rfl
theorem sp_c_law_leap_use {vs : List V} {H : Hp} {Q : VK} {E : XK} (h : sp_c_law_leap0  vs H Q E) : sp_c_law_leap  vs H Q E := by rw [sp_c_law_leap_eq]; exact h
def sp_c_law_length0 : Sp := fun vs H Q _ => ∃ y m : Int, vs = [.int y, .int m] ∧ 1 ≤ m ∧ m ≤ 12 ∧ ∀ H', Same H H' → Q (.int (mlen y m)) H'
@[irreducible] def sp_c_law_length : Sp := sp_c_law_length0
theorem sp_c_law_length_eq : sp_c_law_length  = sp_c_law_length0  := by unfold sp_c_law_length; rfl
theorem sp_c_law_length_use {vs : List V} {H : Hp} {Q : VK} {E : XK} (h : sp_c_law_length0  vs H Q E) : sp_c_law_length  vs H Q E := by rw [sp_c_law_length_eq]; exact h
def sp_c_law_date0 : Sp := fun vs H Q _ => ∃ (d : Addr) (D : List Int), vs = [.ref d] ∧ H d = some (dk D) ∧ ∀ (H' : Hp) (D' : List Int) (p : Addr) (y m dd : Int), SameBut d H H' → H' d = some (dk D') → H p = none → H' p = some (.tup [.int y, .int m, .int dd]) → okD8 y m dd → Q (.ref p) H'
@[irreducible] def sp_c_law_date : Sp := sp_c_law_date0
theorem sp_c_law_date_eq : sp_c_law_date  = sp_c_law_date0  := by unfold sp_c_law_date; rfl
theorem sp_c_law_date_use {vs : List V} {H : Hp} {Q : VK} {E : XK} (h : sp_c_law_date0  vs H Q E) : sp_c_law_date  vs H Q E := by rw [sp_c_law_date_eq]; exact h

theorem near_list {y Y c : Int} (hy : Y = y - 1 ∨ Y = y ∨ Y = y + 1) (h1 : dby Y ≤ c) (h2 : c < dby (Y + 1)) : (List.range 3).filterMap (fun (i : Nat) => if dby (y - 1 + i) ≤ c ∧ c < dby (y - 1 + i + 1) then some (V.int (y - 1 + i)) else none) = [V.int Y] := by
  have u : ∀ z : Int, (dby z ≤ c ∧ c < dby (z + 1)) ↔ z = Y := fun z => ⟨fun q => year_uniq q.1 q.2 h1 h2, fun q => by rw [q]; exact ⟨h1, h2⟩⟩
  have e : (List.range 3) = [0, 1, 2] := rfl
  rw [e]
  simp only [u, List.filterMap_cons, List.filterMap_nil]
  rcases hy with rfl | rfl | rfl
  · rw [if_pos (by omega), if_neg (by omega), if_neg (by omega)]
    simp
  · rw [if_neg (by omega), if_pos (by omega), if_neg (by omega)]
    simp
  · rw [if_neg (by omega), if_neg (by omega), if_pos (by omega)]
    simp
    omega
theorem ite_min (i j : Int) : (if j < i then j else i) = min i j := by split <;> omega
def sp_c_week_of0 (C : Addr) : Sp := fun vs H Q E => ∃ n Y : Int, vs = [.int n] ∧ (¬ inD n → raisesW C "day" H E) ∧ (inD n → inY Y ∧ dby Y ≤ n - n % 7 + 3 + 738885 ∧ n - n % 7 + 3 + 738885 < dby (Y + 1) ∧ ∀ H' p, Same H H' → H' p = some (.tup [.int Y, .int ((n - n % 7 + 3 - dayN Y 1 1) / 7 + 1)]) → Q (.ref p) H')
@[irreducible] def sp_c_week_of (C : Addr) : Sp := sp_c_week_of0 C
theorem sp_c_week_of_eq (C : Addr) : sp_c_week_of C = sp_c_week_of0 C := by unfold sp_c_week_of; rfl
theorem sp_c_week_of_use {C : Addr} {vs : List V} {H : Hp} {Q : VK} {E : XK} (h : sp_c_week_of0 C vs H Q E) : sp_c_week_of C vs H Q E := by rw [sp_c_week_of_eq]; exact h
def sp_c_moved_months0 (C : Addr) : Sp := fun vs H Q E => ∃ n k y m d : Int, vs = [.int n, .int k] ∧ (¬ inD n → raisesW C "day" H E) ∧ (inD n → okD8 y m d ∧ dayN y m d = n ∧ (¬ inY ((12 * y + m - 1 + k) / 12) → raisesW C "date" H E) ∧ (inY ((12 * y + m - 1 + k) / 12) → ∀ H', Same H H' → Q (.int (mv y m d k)) H'))
@[irreducible] def sp_c_moved_months (C : Addr) : Sp := sp_c_moved_months0 C
theorem sp_c_moved_months_eq (C : Addr) : sp_c_moved_months C = sp_c_moved_months0 C := by unfold sp_c_moved_months; rfl
theorem sp_c_moved_months_use {C : Addr} {vs : List V} {H : Hp} {Q : VK} {E : XK} (h : sp_c_moved_months0 C vs H Q E) : sp_c_moved_months C vs H Q E := by rw [sp_c_moved_months_eq]; exact h
def okW (y m w k : Int) : Prop := 0 ≤ w ∧ w ≤ 6 ∧ k ≠ 0 ∧ -((FM (dayN y m 1) (mlen y m).toNat w).length : Int) ≤ k ∧ k ≤ ((FM (dayN y m 1) (mlen y m).toNat w).length : Int)
def wIx (l : List Int) (k : Int) : Int := if 0 < k then l.getD (k - 1).toNat 0 else l.getD (l.length + k).toNat 0
def sp_c_weekday_in_month0 (C : Addr) : Sp := fun vs H Q E => ∃ y m w k : Int, vs = [.int y, .int m, .int w, .int k] ∧ (¬ okYM y m → raisesW C "date" H E) ∧ (okYM y m → ¬ okW y m w k → raisesW C "weekday" H E) ∧ (okYM y m → okW y m w k → ∀ H', Same H H' → Q (.int (wIx (FM (dayN y m 1) (mlen y m).toNat w) k)) H')
@[irreducible] def sp_c_weekday_in_month (C : Addr) : Sp := sp_c_weekday_in_month0 C
theorem sp_c_weekday_in_month_eq (C : Addr) : sp_c_weekday_in_month C = sp_c_weekday_in_month0 C := by unfold sp_c_weekday_in_month; rfl
theorem sp_c_weekday_in_month_use {C : Addr} {vs : List V} {H : Hp} {Q : VK} {E : XK} (h : sp_c_weekday_in_month0 C vs H Q E) : sp_c_weekday_in_month C vs H Q E := by rw [sp_c_weekday_in_month_eq]; exact h
def sp_c_easter0 (C : Addr) : Sp := fun vs H Q E => ∃ y : Int, vs = [.int y] ∧ (¬ inY y → raisesW C "date" H E) ∧ (inY y → ∀ H', Same H H' → Q (.int (lawE y)) H')
@[irreducible] def sp_c_easter (C : Addr) : Sp := sp_c_easter0 C
theorem sp_c_easter_eq (C : Addr) : sp_c_easter C = sp_c_easter0 C := by unfold sp_c_easter; rfl
theorem sp_c_easter_use {C : Addr} {vs : List V} {H : Hp} {Q : VK} {E : XK} (h : sp_c_easter0 C vs H Q E) : sp_c_easter C vs H Q E := by rw [sp_c_easter_eq]; exact h
def sp_c_law_easter0 : Sp := fun vs H Q _ => ∃ y : Int, vs = [.int y] ∧ inY y ∧ Q (.int (lawE y)) H
@[irreducible] def sp_c_law_easter : Sp := sp_c_law_easter0
theorem sp_c_law_easter_eq : sp_c_law_easter  = sp_c_law_easter0  := by unfold sp_c_law_easter; rfl
theorem sp_c_law_easter_use {vs : List V} {H : Hp} {Q : VK} {E : XK} (h : sp_c_law_easter0  vs H Q E) : sp_c_law_easter  vs H Q E := by rw [sp_c_law_easter_eq]; exact h
def sp_c_law_moved0 (K : PySem.W.Frag) : Sp := fun vs H Q _ => ∃ (q : Addr) (y m d k : Int), vs = [.ref q, .int k] ∧ SqT K H q [.int y, .int m, .int d] ∧ okD8 y m d ∧ -400 ≤ k ∧ k ≤ 400 ∧ ∀ H', Same H H' → (inY ((12 * y + m - 1 + k) / 12) → Q (.int (mv y m d k)) H') ∧ (¬ inY ((12 * y + m - 1 + k) / 12) → Q .non H')
@[irreducible] def sp_c_law_moved (K : PySem.W.Frag) : Sp := sp_c_law_moved0 K
theorem sp_c_law_moved_eq (K : PySem.W.Frag) : sp_c_law_moved K = sp_c_law_moved0 K := by unfold sp_c_law_moved; rfl
theorem sp_c_law_moved_use {K : PySem.W.Frag} {vs : List V} {H : Hp} {Q : VK} {E : XK} (h : sp_c_law_moved0 K vs H Q E) : sp_c_law_moved K vs H Q E := by rw [sp_c_law_moved_eq]; exact h
def sp_c_law_why0 : Sp := fun vs H Q _ => ∃ (k a b c d : Int) (wd : Str), vs = [.int k, .int a, .int b, .int c, .int d] ∧ 0 ≤ k ∧ ((k = 0 ∧ ((¬ inD a ∧ wd = "day") ∨ (inD a ∧ wd = "date" ∧ ∃ y m dd, okD8 y m dd ∧ dayN y m dd = a ∧ ¬ inY ((12 * y + m - 1 + b) / 12)))) ∨ (k = 1 ∧ ¬ inD a ∧ wd = "day") ∨ (k = 2 ∧ ((¬ okYM a b ∧ wd = "date") ∨ (okYM a b ∧ ¬ okW a b c d ∧ wd = "weekday"))) ∨ (3 ≤ k ∧ ¬ inY a ∧ wd = "date")) ∧ ∀ H', Same H H' → Q (.str wd) H'
@[irreducible] def sp_c_law_why : Sp := sp_c_law_why0
theorem sp_c_law_why_eq : sp_c_law_why  = sp_c_law_why0  := by unfold sp_c_law_why; rfl
theorem sp_c_law_why_use {vs : List V} {H : Hp} {Q : VK} {E : XK} (h : sp_c_law_why0  vs H Q E) : sp_c_law_why  vs H Q E := by rw [sp_c_law_why_eq]; exact h
def sp_c_law (K : PySem.W.Frag) : Sp := fun vs H Q _ => ∃ (a : Addr) (ns : List Int), vs = [.ref a] ∧ SqL K H a (ns.map V.int) ∧ ns.length ≤ 63 ∧ ∀ H', Q (.bl true) H'

theorem ok_c_law_leap {P : Program} {w : World} {K : PySem.W.Frag} {mg : Str → Option Value} {base : Heap} {a : Ad} (T : Txt K mg a) : FnOk P w K mg base (L2.CX P w) 1 a.f_c_law_leap a.d_c_law_leap ["year"] (sp_c_law_leap) := by
  refine T.F_c_law_leap.okX sc_c_law_leap (fun vs H Q E h => ?_) (fun cdv A outer s H vs Q E hr h => ?_)
  · rw [sp_c_law_leap_eq] at h
    walk_at "len"
  · rw [sp_c_law_leap_eq] at h
    obtain ⟨y, rfl, k⟩ := h
    refine ⟨_, (pss_one (ps_ret (pe_and (pe_cmpR op_eq (pe_op op_mod (pe_callTy call_int1 (by rfl) T.n_int (by decide +kernel) (pa_cons (pv 0) pa_nil)) pe_int) pe_int (nomark _)) (pe_one (pe_or (pe_cmpR op_ne (pe_op op_mod (pe_callTy call_int1 (by rfl) T.n_int (by decide +kernel) (pa_cons (pv 0) pa_nil)) pe_int) pe_int (nomark _)) (pe_one (pe_cmpR op_eq (pe_op op_mod (pe_callTy call_int1 (by rfl) T.n_int (by decide +kernel) (pa_cons (pv 0) pa_nil)) pe_int) pe_int (nomark _)))))))), ?_⟩
    refine ⟨_, rfl, .inl ⟨_, rfl, _, _, rfl, rfl, (by show (0 : Int) < 4; decide), rfl, _, rfl, ?_⟩⟩
    refine ite2 (fun c => ?_) (fun c => ?_)
    rotate_left
    · have c' : ¬ y % 4 = 0 := fun z => c (decide_eq_true (congrArg V.int z))
      have e : leap y = false := by simp [leap, c']
      rw [e] at k
      exact k
    have c4 : y % 4 = 0 := V.int.inj (of_decide_eq_true c)
    refine ⟨_, rfl, .inl ⟨_, rfl, _, _, rfl, rfl, (by show (0 : Int) < 100; decide), rfl, _, rfl, ?_⟩⟩
    refine ite2 (fun c => ?_) (fun c => ?_)
    · have c' : ¬ y % 100 = 0 := fun z => by
        have c2 : (!decide (V.int (y % 100) = V.int 0)) = true := c
        rw [z] at c2
        simp at c2
      have e : leap y = true := by simp [leap, c4, c']
      rw [e] at k
      exact k
    have c5 : y % 100 = 0 := by
      have c2 : ¬ (!decide (V.int (y % 100) = V.int 0)) = true := c
      simpa using c2
    refine ⟨_, rfl, .inl ⟨_, rfl, _, _, rfl, rfl, (by show (0 : Int) < 400; decide), rfl, ?_⟩⟩
    have e : leap y = decide (V.int (y % 400) = V.int 0) := by simp [leap, c4, c5]
    rw [e] at k
    exact k
theorem ok_c_law_length {P : Program} {w : World} {K : PySem.W.Frag} {mg : Str → Option Value} {base : Heap} {a : Ad} (T : Txt K mg a) : FnOk P w K mg base (L2.CX P w) 2 a.f_c_law_length a.d_c_law_length ["year", "month"] (sp_c_law_length) := by
  have G_c_law_leap : FnOk P w K mg base (L2.CX P w) 1 a.f_c_law_leap a.d_c_law_leap ["year"] (sp_c_law_leap) := ok_c_law_leap T
  refine T.F_c_law_length.okX sc_c_law_length (fun vs H Q E h => ?_) (fun cdv A outer s H vs Q E hr h => ?_)
  · rw [sp_c_law_length_eq] at h
    walk_at "len"
  · rw [sp_c_law_length_eq] at h
    obtain ⟨y, m, rfl, m1, m2, k⟩ := h
    refine ⟨_, (pss_cons (ps_if (pt_cmpR op_eq (pv 1) pe_int (nomark _)) (pss_one (ps_ret (pe_ifExp (pt_val (pe_call G_c_law_leap (hr.mono (by decide)) (by rfl) T.m_c_law_leap T.F_c_law_leap.kp T.b_c_law_leap .nil passL (pa_cons (pv 0) pa_nil))) pe_int pe_int))) pss_nil)
    (pss_one (ps_ret (pe_ifExp (pt_cmpR op_in_seq (pv 1) (pe_tup (pa_cons pe_int (pa_cons pe_int (pa_cons pe_int (pa_cons pe_int pa_nil))))) (by rfl)) pe_int pe_int)))), ?_⟩
    rw [mlen_int m1 m2] at k
    refine ⟨_, rfl, rfl, _, rfl, ?_⟩
    refine ite2 (fun c => ?_) (fun c => ?_)
    · have c' : m = 2 := V.int.inj (of_decide_eq_true c)
      refine ⟨_, rfl, sp_c_law_leap_use ⟨y, rfl, ?_⟩⟩
      refine ⟨_, rfl, ?_⟩
      refine ite2 (fun e => ?_) (fun e => ?_)
      · have := k H (Same.refl _)
        rw [if_pos c', if_pos e] at this
        exact this
      · have := k H (Same.refl _)
        rw [if_pos c', if_neg e] at this
        exact this
    have c' : ¬ m = 2 := fun z => c (decide_eq_true (congrArg V.int z))
    refine ⟨_, rfl, by show 4 ≤ sizeLine; decide, fun q hq => ?_⟩
    have hin : inV (.int m) [.int 4, .int 6, .int 9, .int 11] = decide (m = 4 ∨ m = 6 ∨ m = 9 ∨ m = 11) := by
      rw [Bool.eq_iff_iff]
      simp [inV, eqV]
      omega
    have kq := k _ (Same.new (o := .tup [.int 4, .int 6, .int 9, .int 11]) hq)
    rw [if_neg c'] at kq
    refine ⟨q, _, rfl, .inr (SqT.of upd_same), rfl, rfl, _, rfl, ?_⟩
    rw [if_neg (by decide), hin]
    refine ite2 (fun e => ?_) (fun e => ?_)
    · rw [if_pos (of_decide_eq_true e)] at kq
      exact kq
    · rw [if_neg (fun z => e (decide_eq_true z))] at kq
      exact kq
theorem ok_c_law_take {P : Program} {w : World} {K : PySem.W.Frag} {mg : Str → Option Value} {base : Heap} {a : Ad} (T : Txt K mg a) : FnOk P w K mg base (L2.CX P w) 1 a.f_c_law_take a.d_c_law_take ["deck", "many"] (sp_c_law_take) := by
  refine T.F_c_law_take.okX sc_c_law_take (fun vs H Q E h => ?_) (fun cdv A outer s H vs Q E hr h => ?_)
  · rw [sp_c_law_take, sp_take_eq] at h
    walk_at "len"
  · rw [sp_c_law_take, sp_take_eq] at h
    obtain ⟨d, D, m, rfl, hd, hm, k⟩ := h
    refine ⟨_, (pss_cons (ps_if (pt_cmpR op_eq (pe_callB call_len_seq (by rfl) T.n_len (by decide +kernel) (pa_cons (pv 0) pa_nil)) pe_int (nomark _)) (pss_one (ps_ret pe_int)) pss_nil)
    (pss_one (ps_ret (pe_op op_mod (pe_callTy call_int1 (by rfl) T.n_int (by decide +kernel) (pa_cons (pe_bm0 PySem.F.plainAttrs_list PySem.F.slot_list_pop PySem.F.type_list_pop mt_pop (pv 0)) pa_nil)) (pv 1))))), ?_⟩
    refine ⟨_, rfl, d, _, rfl, .inl (SqL.of hd), rfl, _, rfl, ?_⟩
    cases D with
    | nil =>
      refine iteT ?_
      have e : upd H d (dk []) = H := upd_self hd
      have k' : Q (.int (0 % m)) H := by rw [← e]; exact k
      rw [Int.zero_emod] at k'
      exact k'
    | cons x D =>
      refine ite2 (fun c => ?_) (fun _ => ?_)
      · simp at c
        omega
      · refine ⟨_, rfl, .inl ⟨rfl, _, SqL.of hd⟩, d, _, _, rfl, rfl, hd, dk_last, .inl ⟨_, rfl, _, rfl, _, _, rfl, rfl, hm, ?_⟩⟩
        rw [dk_drop]
        exact k
theorem ok_c_law_date {P : Program} {w : World} {K : PySem.W.Frag} {mg : Str → Option Value} {base : Heap} {a : Ad} (T : Txt K mg a) : FnOk P w K mg base (L2.CX P w) 3 a.f_c_law_date a.d_c_law_date ["deck"] (sp_c_law_date) := by
  have G_c_law_length : FnOk P w K mg base (L2.CX P w) 2 a.f_c_law_length a.d_c_law_length ["year", "month"] (sp_c_law_length) := ok_c_law_length T
  have G_c_law_take : FnOk P w K mg base (L2.CX P w) 1 a.f_c_law_take a.d_c_law_take ["deck", "many"] (sp_c_law_take) := ok_c_law_take T
  refine T.F_c_law_date.okX sc_c_law_date (fun vs H Q E h => ?_) (fun cdv A outer s H vs Q E hr h => ?_)
  · rw [sp_c_law_date_eq] at h
    walk_at "len"
  · rw [sp_c_law_date_eq] at h
    obtain ⟨d, D, rfl, hd, k⟩ := h
    refine ⟨_, (pss_cons (ps_set (i := 1) sc_c_law_date.nd (by rfl) (Or.inl rfl) (pe_ix ix_list (pe_lst (pa_cons (pe_op op_add pe_int (pe_call G_c_law_take (hr.mono (by decide)) (by rfl) T.m_c_law_take T.F_c_law_take.kp T.b_c_law_take .nil passL (pa_cons (pv 0) (pa_cons pe_int pa_nil)))) (pa_cons (pe_op op_add pe_int (pe_call G_c_law_take (hr.mono (by decide)) (by rfl) T.m_c_law_take T.F_c_law_take.kp T.b_c_law_take .nil passL (pa_cons (pv 0) (pa_cons pe_int pa_nil)))) (pa_cons (pe_ix ix_list (pe_lst (pa_cons pe_int (pa_cons pe_int (pa_cons pe_int (pa_cons pe_int (pa_cons pe_int (pa_cons pe_int (pa_cons pe_int pa_nil)))))))) (pe_call G_c_law_take (hr.mono (by decide)) (by rfl) T.m_c_law_take T.F_c_law_take.kp T.b_c_law_take .nil passL (pa_cons (pv 0) (pa_cons pe_int pa_nil))) (fun _ _ => rfl)) pa_nil)))) (pe_call G_c_law_take (hr.mono (by decide)) (by rfl) T.m_c_law_take T.F_c_law_take.kp T.b_c_law_take .nil passL (pa_cons (pv 0) (pa_cons pe_int pa_nil))) (fun _ _ => rfl)))
    (pss_cons (ps_set (i := 2) sc_c_law_date.nd (by rfl) (Or.inl rfl) (pe_op op_add pe_int (pe_call G_c_law_take (hr.mono (by decide)) (by rfl) T.m_c_law_take T.F_c_law_take.kp T.b_c_law_take .nil passL (pa_cons (pv 0) (pa_cons pe_int pa_nil)))))
    (pss_cons (ps_set (i := 3) sc_c_law_date.nd (by rfl) (Or.inl rfl) (pe_op op_add pe_int (pe_call G_c_law_take (hr.mono (by decide)) (by rfl) T.m_c_law_take T.F_c_law_take.kp T.b_c_law_take .nil passL (pa_cons (pv 0) (pa_cons (pe_call G_c_law_length (hr.mono (by decide)) (by rfl) T.m_c_law_length T.F_c_law_length.kp T.b_c_law_length .nil passL (pa_cons (pv 1) (pa_cons (pv 2) pa_nil))) pa_nil)))))
    (Evl.pss_cut (ps_if (pt_cmpR op_eq (pe_call G_c_law_take (hr.mono (by decide)) (by rfl) T.m_c_law_take T.F_c_law_take.kp T.b_c_law_take .nil passL (pa_cons (pv 0) (pa_cons pe_int pa_nil))) pe_int (nomark _)) (pss_one (ps_set (i := 3) sc_c_law_date.nd (by rfl) (Or.inl rfl) (pe_call G_c_law_length (hr.mono (by decide)) (by rfl) T.m_c_law_length T.F_c_law_length.kp T.b_c_law_length .nil passL (pa_cons (pv 1) (pa_cons (pv 2) pa_nil))))) pss_nil)
    (pss_one (ps_ret (pe_tup (pa_cons (pv 1) (pa_cons (pv 2) (pa_cons (pv 3) pa_nil)))))))))), ?_⟩
    have K0 : Dk (del H d) H d D := ⟨del_same, fun _ _ e => (del_of e).1, hd⟩
    refine ⟨_, rfl, take_q K0 (by decide) fun a1 H1 a10 a11 K1 => ?_⟩
    refine ⟨_, _, rfl, rfl, _, rfl, take_q K1 (by decide) fun a2 H2 a20 a21 K2 => ?_⟩
    refine ⟨_, _, rfl, rfl, by show 7 ≤ sizeLine; decide, fun l hl => ⟨_, rfl, ?_⟩⟩
    refine pick K2 hl [1, 4, 100, 400, 1900, 2000, 9999] (by decide) fun a3 H3 ha3 K3 => ?_
    refine ⟨by show 3 ≤ sizeLine; decide, fun l2 hl2 => ⟨_, rfl, ?_⟩⟩
    refine pick K3 hl2 [1 + a1, 2000 + a2, a3] (Nat.succ_pos _) fun y H4 hy K4 => ?_
    have hyy : 1 ≤ y ∧ y ≤ 9999 := by
      simp only [List.mem_cons, List.not_mem_nil, or_false] at hy ha3
      omega
    refine ⟨_, rfl, take_q K4 (by decide) fun a5 H5 a50 a51 K5 => ?_⟩
    refine ⟨_, _, rfl, rfl, ?_⟩
    have hb := mlen_bounds (y := y) (m := 1 + a5) (by omega) (by omega)
    refine ⟨_, rfl, _, rfl, _, rfl, sp_c_law_length_use ⟨y, 1 + a5, rfl, by omega, by omega, fun H6 s6 => ?_⟩⟩
    refine take_q (K5.same s6) (by omega) fun a7 H7 a70 a71 K7 => ?_
    refine ⟨_, _, rfl, rfl, ?_⟩
    refine ⟨fun σ H' => ∃ (dd : Int) (D' : List Int), σ = [some (.ref d), some (.int y), some (.int (1 + a5)), some (.int dd)] ∧ Dk (del H d) H' d D' ∧ 1 ≤ dd ∧ dd ≤ mlen y (1 + a5), ?_, ?_⟩
    · refine ⟨_, rfl, take_q K7 (by decide) fun a8 H8 a80 a81 K8 => ?_⟩
      refine ⟨rfl, _, rfl, ?_⟩
      refine ite2 (fun c => ?_) (fun c => ?_)
      · refine ⟨_, rfl, _, rfl, sp_c_law_length_use ⟨y, 1 + a5, rfl, by omega, by omega, fun H9 s9 => ?_⟩⟩
        exact ⟨_, _, rfl, K8.same s9, by omega, by omega⟩
      · exact ⟨_, _, rfl, K8, by omega, by omega⟩
    rintro σ H8 ⟨dd, D8, rfl, K8, d1, d2⟩
    refine ⟨_, rfl, _, rfl, _, rfl, by show 3 ≤ sizeLine; decide, fun p hp => ?_⟩
    have np : p ≠ d := fun z => by rw [z, K8.hd] at hp; cases hp
    have hp0 : H p = none := by
      have := K8.fresh hp
      rwa [del_ne np] at this
    refine k _ D8 p y (1 + a5) dd (fun b o nb e => ?_) (by rw [upd_ne np.symm]; exact K8.hd) hp0 upd_same ⟨⟨hyy.1, hyy.2, by omega, by omega⟩, d1, d2⟩
    rw [upd_ne (ne_of_none e hp0)]
    exact K8.sm b o (del_some e nb)
theorem ok_c_law_day {P : Program} {w : World} {K : PySem.W.Frag} {mg : Str → Option Value} {base : Heap} {a : Ad} (T : Txt K mg a) : FnOk P w K mg base (L2.CX P w) 1 a.f_c_law_day a.d_c_law_day ["year", "month", "day"] (sp_c_law_day) := by
  refine T.F_c_law_day.okX sc_c_law_day (fun vs H Q E h => ?_) (fun cdv A outer s H vs Q E hr h => ?_)
  · rw [sp_c_law_day_eq] at h
    walk_at "len"
  · rw [sp_c_law_day_eq] at h
    obtain ⟨y, m, d, rfl, hy, hm, k⟩ := h
    refine ⟨_, (pss_cons (ps_set (i := 3) sc_c_law_day.nd (by rfl) (Or.inl rfl) (pe_callTy call_int1 (by rfl) T.n_int (by decide +kernel) (pa_cons (pe_cmpR op_lt (pv 1) pe_int (nomark _)) pa_nil)))
    (pss_cons (ps_set (i := 4) sc_c_law_day.nd (by rfl) (Or.inl rfl) (pe_op op_sub (pv 0) (pv 3)))
    (pss_cons (ps_set (i := 5) sc_c_law_day.nd (by rfl) (Or.inl rfl) (pe_op op_fdiv (pv 4) pe_int))
    (pss_cons (ps_set (i := 6) sc_c_law_day.nd (by rfl) (Or.inl rfl) (pe_op op_sub (pv 4) (pe_op op_mul (pv 5) pe_int)))
    (pss_cons (ps_set (i := 7) sc_c_law_day.nd (by rfl) (Or.inl rfl) (pe_op op_sub (pe_op op_add (pe_op op_fdiv (pe_op op_add (pe_op op_mul pe_int (pe_op op_add (pe_op op_sub (pv 1) pe_int) (pe_op op_mul pe_int (pv 3)))) pe_int) pe_int) (pv 2)) pe_int))
    (pss_one (ps_ret (pe_op op_sub (pe_op op_sub (pe_op op_add (pe_op op_sub (pe_op op_add (pe_op op_add (pe_op op_mul (pv 5) pe_int) (pe_op op_mul (pv 6) pe_int)) (pe_op op_fdiv (pv 6) pe_int)) (pe_op op_fdiv (pv 6) pe_int)) (pv 7)) pe_int) pe_int)))))))), ?_⟩
    have he : (if decide (m < 3) = true then (1 : Int) else 0) = if m < 3 then 1 else 0 := by simp only [decide_eq_true_eq]
    refine ⟨_, rfl, _, _, rfl, rfl, .inr ⟨_, rfl, ?_⟩⟩
    refine ⟨_, rfl, _, rfl, _, _, rfl, rfl, ?_⟩
    refine ⟨_, rfl, _, _, rfl, rfl, ⟨by decide, by decide⟩, ?_⟩
    refine ⟨_, rfl, _, rfl, _, _, rfl, rfl, .inr ⟨by decide, by decide⟩, _, _, rfl, rfl, ?_⟩
    refine ⟨_, rfl, _, _, rfl, rfl, _, rfl, _, _, rfl, rfl, .inl ⟨by decide, by decide⟩, _, _, rfl, rfl, _, _, rfl, rfl, .inl ⟨by decide, by decide⟩, _, _, rfl, rfl, _, _, rfl, rfl, ⟨by decide, by decide⟩, _, rfl, _, _, rfl, rfl, _, _, rfl, rfl, ?_⟩
    refine ⟨_, rfl, _, _, rfl, rfl, .inr ⟨by decide, by decide⟩, _, rfl, _, _, rfl, rfl, .inr ⟨by decide, by decide⟩, _, _, rfl, rfl, _, rfl, _, _, rfl, rfl, ⟨by decide, by decide⟩, _, _, rfl, rfl, _, rfl, _, _, rfl, rfl, ⟨by decide, by decide⟩, _, _, rfl, rfl, _, rfl, _, _, rfl, rfl, _, _, rfl, rfl, _, _, rfl, rfl, ?_⟩
    unfold lawDay at k
    rw [← he] at k
    exact k
theorem ok_c_law_deck {P : Program} {w : World} {K : PySem.W.Frag} {mg : Str → Option Value} {base : Heap} {a : Ad} (T : Txt K mg a) : FnOk P w K mg base (L2.CX P w) 1 a.f_c_law_deck a.d_c_law_deck ["script", "cells", "each"] (sp_c_law_deck K) := by
  refine T.F_c_law_deck.okX sc_c_law_deck (fun vs H Q E h => ?_) (fun cdv A outer s H vs Q E hr h => ?_)
  · walk_at "len"
  · obtain ⟨sa, ns, c, e, rfl, hS, hns, hc0, hc1, he0, he1, k⟩ := h
    refine ⟨_, (pss_cons (ps_set (i := 3) sc_c_law_deck.nd (by rfl) (Or.inl rfl) (pe_lst pa_nil))
    (pss_cons (ps_set (i := 4) sc_c_law_deck.nd (by rfl) (Or.inl rfl) (pe_op op_add pe_int (pe_callB call_len_seq (by rfl) T.n_len (by decide +kernel) (pa_cons (pv 0) pa_nil))))
    (pss_cons (ps_for (passes_of rfl) rfl (pi_range1 (by rfl) T.n_range (pa_cons (pv 1) pa_nil)) (pg_name (i := 5) sc_c_law_deck.nd (by rfl) (Or.inl rfl)) (pss_cons (ps_set (i := 6) sc_c_law_deck.nd (by rfl) (Or.inl rfl) pe_int)
    (pss_cons (ps_if (pt_cmpR op_lt (pv 5) (pe_callB call_len_seq (by rfl) T.n_len (by decide +kernel) (pa_cons (pv 0) pa_nil)) (nomark _)) (pss_one (ps_set (i := 6) sc_c_law_deck.nd (by rfl) (Or.inl rfl) (pe_ix ix_list (pv 0) (pv 5) (fun _ _ => rfl)))) pss_nil)
    (pss_cons (ps_set (i := 7) sc_c_law_deck.nd (by rfl) (Or.inl rfl) (pe_callB call_abs (by rfl) T.n_abs (by decide +kernel) (pa_cons (pv 6) pa_nil)))
    (pss_one (ps_if (pt_cmpR op_ge (pv 7) (pe_op op_pow pe_int pe_int) (nomark _)) (pss_one (ps_for (passes_of rfl) rfl (pi_range1 (by rfl) T.n_range (pa_cons (pv 2) pa_nil)) (pg_name (i := 8) sc_c_law_deck.nd (by rfl) (Or.inl rfl)) (pss_cons (ps_expr (pe_bm PySem.F.plainAttrs_list PySem.F.slot_list_append PySem.F.type_list_append mt_append (pv 3) (pa_cons (pe_op op_mod (pe_callTy call_int1 (by rfl) T.n_int (by decide +kernel) (pa_cons (pv 7) pa_nil)) pe_int) pa_nil)))
    (pss_one (ps_set (i := 7) sc_c_law_deck.nd (by rfl) (Or.inl rfl) (pe_op op_fdiv (pv 7) pe_int)))))) (pss_cons (ps_set (i := 4) sc_c_law_deck.nd (by rfl) (Or.inl rfl) (pe_op op_mod (pe_callTy call_int1 (by rfl) T.n_int (by decide +kernel) (pa_cons (pe_op op_add (pe_op op_add (pe_op op_add (pe_op op_mul (pv 4) pe_int) (pe_op op_mul pe_int (pv 7))) (pe_callTy call_int1 (by rfl) T.n_int (by decide +kernel) (pa_cons (pe_cmpR op_lt (pv 6) pe_int (nomark _)) pa_nil))) (pv 5)) pa_nil)) pe_int))
    (pss_one (ps_for (passes_of rfl) rfl (pi_range1 (by rfl) T.n_range (pa_cons (pv 2) pa_nil)) (pg_name (i := 8) sc_c_law_deck.nd (by rfl) (Or.inl rfl)) (pss_cons (ps_set (i := 4) sc_c_law_deck.nd (by rfl) (Or.inl rfl) (pe_op op_mod (pe_callTy call_int1 (by rfl) T.n_int (by decide +kernel) (pa_cons (pe_op op_add (pe_op op_add (pe_op op_mul (pv 4) pe_int) (pv 8)) pe_int) pa_nil)) pe_int))
    (pss_one (ps_expr (pe_bm PySem.F.plainAttrs_list PySem.F.slot_list_append PySem.F.type_list_append mt_append (pv 3) (pa_cons (pe_op op_mod (pe_callTy call_int1 (by rfl) T.n_int (by decide +kernel) (pa_cons (pe_op op_fdiv (pv 4) pe_int) pa_nil)) pe_int) pa_nil))))))))))))))
    (pss_cons (ps_expr (pe_bm0 PySem.F.plainAttrs_list PySem.F.slot_list_reverse PySem.F.type_list_reverse mt_reverse (pv 3)))
    (pss_one (ps_ret (pv 3))))))), ?_⟩
    refine ⟨by show 0 ≤ sizeLine; decide, fun p hp => ?_⟩
    have s0 : Same H (upd H p (.lst [])) := Same.new hp
    refine ⟨_, rfl, sa, _, rfl, .inl (s0.seq hS), _, _, rfl, rfl, ?_⟩
    refine ⟨_, rfl, c, rfl, by omega, by omega, for_range (lo := 0) (n := c.toNat) (fun i σ H' => ∃ (sd : Int) (v5 v6 v7 v8 : Option V) (xs : List Int), σ = [some (.ref sa), some (.int c), some (.int e), some (.ref p), some (.int sd), v5, v6, v7, v8] ∧
      Same H H' ∧ H' p = some (.lst (xs.map V.int)) ∧ xs.length ≤ i * 100) ⟨_, none, none, none, none, [], rfl, s0, upd_same, by simp⟩ ?_ ?_⟩
    · rintro i σ H1 hi ⟨sd, v5, v6, v7, v8, xs, rfl, s1, h1, hx⟩
      have hi' : i < 1000 := by omega
      walk_at "st"
      refine ⟨_, rfl, sa, _, rfl, .inl (s1.seq hS), ?_⟩
      walk_at "sts"
      refine ite2 (fun hk => ?_) (fun _ => ?_)
      · have hk' : i < ns.length := by simpa using hk
        refine ⟨_, rfl, _, rfl, sa, _, _, _, rfl, rfl, s1.seq hS, atI_nat' (j := i) (by omega) (by rw [List.getElem?_map, List.getElem?_eq_getElem hk']; rfl), ?_⟩
        walk_at "sts"
        refine ite2 (fun _ => ?_) (fun _ => ?_)
        · refine ⟨_, rfl, e, rfl, by omega, by omega, for_range (lo := 0) (n := e.toNat) (fun j σ H' => ∃ (r : Int) (v6 v8 : Option V) (ys : List Int), σ = [some (.ref sa), some (.int c), some (.int e), some (.ref p), some (.int sd), some (.int (0 + (i : Int))), v6, some (.int r), v8] ∧
            Same H H' ∧ H' p = some (.lst (ys.map V.int)) ∧ ys.length ≤ i * 100 + j) ⟨_, _, v8, xs, rfl, s1, h1, by omega⟩ ?_ ?_⟩
          · rintro j σ H2 hj ⟨r, v6, v8, ys, rfl, s2, h2, hy⟩
            refine ⟨_, rfl, .inl ⟨rfl, _, SqL.of h2⟩, ?_⟩
            walk_at "sts"
            refine ⟨p, _, _, rfl, rfl, h2, by rw [List.length_map]; exact small1000000 (by omega), ?_⟩
            walk_at "sts"
            refine ⟨_, _, _, ys ++ [r % 1000003], rfl, s2.mut hp, ?_, by rw [List.length_append]; simp; omega⟩
            rw [upd_same, List.map_append]
            rfl
          · rintro σ H2 ⟨r, v6, v8, ys, rfl, s2, h2, hy⟩
            exact ⟨_, _, _, _, _, ys, rfl, s2, h2, by omega⟩
        · walk_at "sts"
          refine ⟨by omega, by omega, for_range (lo := 0) (n := e.toNat) (fun j σ H' => ∃ (sd : Int) (v6 v7 v8 : Option V) (ys : List Int), σ = [some (.ref sa), some (.int c), some (.int e), some (.ref p), some (.int sd), some (.int (0 + (i : Int))), v6, v7, v8] ∧
            Same H H' ∧ H' p = some (.lst (ys.map V.int)) ∧ ys.length ≤ i * 100 + j) ⟨_, _, _, v8, xs, rfl, s1, h1, by omega⟩ ?_ ?_⟩
          · rintro j σ H2 hj ⟨sd, v6, v7, v8, ys, rfl, s2, h2, hy⟩
            walk_at "sts"
            refine ⟨.inl ⟨rfl, _, SqL.of h2⟩, ?_⟩
            walk_at "sts"
            refine ⟨p, _, _, rfl, rfl, h2, by rw [List.length_map]; exact small1000000 (by omega), ?_⟩
            refine ⟨_, _, _, _, ys ++ [(sd * 69621 + (0 + (j : Int)) + 1) % 2147483629 / 5 % 1000003], rfl, s2.mut hp, ?_, by rw [List.length_append]; simp; omega⟩
            rw [upd_same, List.map_append]
            rfl
          · rintro σ H2 ⟨sd, v6, v7, v8, ys, rfl, s2, h2, hy⟩
            exact ⟨_, _, _, _, _, ys, rfl, s2, h2, by omega⟩
      · skip
        walk_at "sts"
        refine ⟨by omega, by omega, for_range (lo := 0) (n := e.toNat) (fun j σ H' => ∃ (sd : Int) (v6 v7 v8 : Option V) (ys : List Int), σ = [some (.ref sa), some (.int c), some (.int e), some (.ref p), some (.int sd), some (.int (0 + (i : Int))), v6, v7, v8] ∧
          Same H H' ∧ H' p = some (.lst (ys.map V.int)) ∧ ys.length ≤ i * 100 + j) ⟨_, _, _, v8, xs, rfl, s1, h1, by omega⟩ ?_ ?_⟩
        · rintro j σ H2 hj ⟨sd, v6, v7, v8, ys, rfl, s2, h2, hy⟩
          walk_at "sts"
          refine ⟨.inl ⟨rfl, _, SqL.of h2⟩, ?_⟩
          walk_at "sts"
          refine ⟨p, _, _, rfl, rfl, h2, by rw [List.length_map]; exact small1000000 (by omega), ?_⟩
          refine ⟨_, _, _, _, ys ++ [(sd * 69621 + (0 + (j : Int)) + 1) % 2147483629 / 5 % 1000003], rfl, s2.mut hp, ?_, by rw [List.length_append]; simp; omega⟩
          rw [upd_same, List.map_append]
          rfl
        · rintro σ H2 ⟨sd, v6, v7, v8, ys, rfl, s2, h2, hy⟩
          exact ⟨_, _, _, _, _, ys, rfl, s2, h2, by omega⟩
    · rintro σ H1 ⟨sd, v5, v6, v7, v8, xs, rfl, s1, h1, hx⟩
      refine ⟨_, rfl, .inl ⟨rfl, _, SqL.of h1⟩, p, _, rfl, rfl, h1, _, rfl, ?_⟩
      refine k xs p _ hp (s1.mut hp) ?_
      rw [upd_same]
      simp [dk]
theorem ok_c_law_easter {P : Program} {w : World} {K : PySem.W.Frag} {mg : Str → Option Value} {base : Heap} {a : Ad} (T : Txt K mg a) : FnOk P w K mg base (L2.CX P w) 2 a.f_c_law_easter a.d_c_law_easter ["year"] (sp_c_law_easter) := by
  have G_c_law_day : FnOk P w K mg base (L2.CX P w) 1 a.f_c_law_day a.d_c_law_day ["year", "month", "day"] (sp_c_law_day) := ok_c_law_day T
  refine T.F_c_law_easter.okX sc_c_law_easter (fun vs H Q E h => ?_) (fun cdv A outer s H vs Q E hr h => ?_)
  · rw [sp_c_law_easter_eq] at h
    walk_at "len"
  · rw [sp_c_law_easter_eq] at h
    obtain ⟨y, rfl, hy, k⟩ := h
    refine ⟨_, (pss_cons (ps_set (i := 1) sc_c_law_easter.nd (by rfl) (Or.inl rfl) (pe_op op_mod (pe_callTy call_int1 (by rfl) T.n_int (by decide +kernel) (pa_cons (pv 0) pa_nil)) pe_int))
    (pss_cons (ps_set (i := 2) sc_c_law_easter.nd (by rfl) (Or.inl rfl) (pe_op op_fdiv (pv 0) pe_int))
    (pss_cons (ps_set (i := 3) sc_c_law_easter.nd (by rfl) (Or.inl rfl) (pe_op op_sub (pe_op op_sub (pv 2) (pe_op op_fdiv (pv 2) pe_int)) (pe_op op_fdiv (pe_op op_add (pe_op op_mul pe_int (pv 2)) pe_int) pe_int)))
    (pss_cons (ps_set (i := 4) sc_c_law_easter.nd (by rfl) (Or.inl rfl) (pe_op op_mod (pe_callTy call_int1 (by rfl) T.n_int (by decide +kernel) (pa_cons (pe_op op_add (pe_op op_add (pe_op op_mul pe_int (pv 1)) (pv 3)) pe_int) pa_nil)) pe_int))
    (Evl.pss_cut (ps_if (PW.pt (pw_or (pt_cmpR op_eq (pv 4) pe_int (nomark _)) (pw_or1 (PW.pt (pw_and (pt_cmpR op_eq (pv 4) pe_int (nomark _)) (pw_and1 (pt_cmpR op_gt (pv 1) pe_int (nomark _)))))))) (pss_one (ps_set (i := 4) sc_c_law_easter.nd (by rfl) (Or.inl rfl) (pe_op op_sub (pv 4) pe_int))) pss_nil)
    (pss_cons (ps_set (i := 5) sc_c_law_easter.nd (by rfl) (Or.inl rfl) (pe_op op_add (pe_call G_c_law_day (hr.mono (by decide)) (by rfl) T.m_c_law_day T.F_c_law_day.kp T.b_c_law_day .nil passL (pa_cons (pv 0) (pa_cons pe_int (pa_cons pe_int pa_nil)))) (pv 4)))
    (pss_one (ps_ret (pe_op op_sub (pe_op op_add (pv 5) pe_int) (pe_op op_mod (pe_callTy call_int1 (by rfl) T.n_int (by decide +kernel) (pa_cons (pe_op op_add (pv 5) pe_int) pa_nil)) pe_int)))))))))), ?_⟩
    refine ⟨_, rfl, .inl ⟨_, rfl, _, _, rfl, rfl, (by show (0 : Int) < _; decide), ?_⟩⟩
    refine ⟨_, rfl, _, _, rfl, rfl, ⟨by decide, by decide⟩, ?_⟩
    refine ⟨_, rfl, _, rfl, _, _, rfl, rfl, ⟨by decide, by decide⟩, _, _, rfl, rfl, _, rfl, _, _, rfl, rfl, .inl ⟨by decide, by decide⟩, _, _, rfl, rfl, _, _, rfl, rfl, ⟨by decide, by decide⟩, _, _, rfl, rfl, ?_⟩
    refine ⟨_, rfl, _, _, rfl, rfl, .inl ⟨by decide, by decide⟩, _, rfl, _, _, rfl, rfl, _, _, rfl, rfl, .inl ⟨_, rfl, _, _, rfl, rfl, (by show (0 : Int) < _; decide), ?_⟩⟩
    refine ⟨fun σ H' => ∃ g c cold : Option V, σ = [some (.int y), g, c, cold, some (.int (eB y)), none] ∧ H' = H, ?_, ?_⟩
    · have ea : (19 * (y % 19) + (y / 100 - y / 100 / 4 - (8 * (y / 100) + 13) / 25) + 15) % 30 = eA y := rfl
      refine ⟨_, rfl, rfl, _, rfl, ?_⟩
      refine ite2 (fun c => ?_) (fun c => ?_)
      · have c' : eA y = 29 := V.int.inj (of_decide_eq_true c)
        have : eB y = eA y - 1 := by unfold eB; rw [if_pos (.inl c')]
        rw [this]
        exact ⟨_, rfl, _, _, rfl, rfl, _, _, _, rfl, rfl⟩
      have c' : ¬ eA y = 29 := fun z => c (decide_eq_true (congrArg V.int z))
      refine ⟨_, rfl, rfl, _, rfl, ?_⟩
      refine ite2 (fun e => ?_) (fun e => ?_)
      · have e' : eA y = 28 := V.int.inj (of_decide_eq_true e)
        refine ⟨_, rfl, _, _, rfl, rfl, _, rfl, ?_⟩
        refine ite2 (fun f => ?_) (fun f => ?_)
        · have f' : y % 19 > 10 := of_decide_eq_true f
          have : eB y = eA y - 1 := by unfold eB; rw [if_pos (.inr ⟨e', f'⟩)]
          rw [this]
          exact ⟨_, rfl, _, _, rfl, rfl, _, _, _, rfl, rfl⟩
        · have f' : ¬ y % 19 > 10 := fun z => f (decide_eq_true z)
          have : eB y = eA y := by unfold eB; rw [if_neg (by rintro (z | z); exact c' z; exact f' z.2)]
          rw [this]
          exact ⟨_, _, _, rfl, rfl⟩
      · have e' : ¬ eA y = 28 := fun z => e (decide_eq_true (congrArg V.int z))
        have : eB y = eA y := by unfold eB; rw [if_neg (by rintro (z | z); exact c' z; exact e' z.1)]
        rw [this]
        exact ⟨_, _, _, rfl, rfl⟩
    rintro σ H1 ⟨g, c, cold, rfl, rfl⟩
    obtain ⟨y0, y1⟩ := id hy
    have hld := law_day (y := y) (m := 3) (d := 21) (by decide) (by decide)
    refine ⟨_, rfl, sp_c_law_day_use ⟨y, 3, 21, rfl, by omega, by decide, ?_⟩⟩
    rw [hld]
    refine ⟨_, rfl, _, _, rfl, rfl, ?_⟩
    refine ⟨_, rfl, _, _, rfl, rfl, _, rfl, _, _, rfl, rfl, .inl ⟨_, rfl, _, _, rfl, rfl, (by show (0 : Int) < _; decide), ?_⟩⟩
    exact ⟨_, _, rfl, rfl, k⟩
theorem ok_c_law_moved {P : Program} {w : World} {K : PySem.W.Frag} {mg : Str → Option Value} {base : Heap} {a : Ad} (T : Txt K mg a) : FnOk P w K mg base (L2.CX P w) 3 a.f_c_law_moved a.d_c_law_moved ["date", "months"] (sp_c_law_moved K) := by
  have G_c_law_day : FnOk P w K mg base (L2.CX P w) 1 a.f_c_law_day a.d_c_law_day ["year", "month", "day"] (sp_c_law_day) := ok_c_law_day T
  have G_c_law_length : FnOk P w K mg base (L2.CX P w) 2 a.f_c_law_length a.d_c_law_length ["year", "month"] (sp_c_law_length) := ok_c_law_length T
  refine T.F_c_law_moved.okX sc_c_law_moved (fun vs H Q E h => ?_) (fun cdv A outer s H vs Q E hr h => ?_)
  · rw [sp_c_law_moved_eq] at h
    walk_at "len"
  · rw [sp_c_law_moved_eq] at h
    obtain ⟨q, y, m, d, k, rfl, hq, ok, hk0, hk1, kk⟩ := h
    refine ⟨_, (pss_cons (ps_asg (pv 0) (pg_tup (n := 3) (by rfl) (pgs_cons (pg_name (i := 2) sc_c_law_moved.nd (by rfl) (Or.inl rfl)) (pgs_cons (pg_name (i := 3) sc_c_law_moved.nd (by rfl) (Or.inl rfl)) (pgs_cons (pg_name (i := 4) sc_c_law_moved.nd (by rfl) (Or.inl rfl)) pgs_nil)))))
    (pss_cons (ps_for (passes_of rfl) rfl (pi_range1 (by rfl) T.n_range (pa_cons (pe_callB call_abs (by rfl) T.n_abs (by decide +kernel) (pa_cons (pv 1) pa_nil)) pa_nil)) (pg_name (i := 5) sc_c_law_moved.nd (by rfl) (Or.inl rfl)) (Evl.pss_cut (ps_set (i := 3) sc_c_law_moved.nd (by rfl) (Or.inl rfl) (pe_op op_add (pv 3) (pe_ifExp (pt_cmpR op_gt (pv 1) pe_int (nomark _)) pe_int (pe_un un_neg pe_int))))
    (pss_cons (ps_if (pt_cmpR op_eq (pv 3) pe_int (nomark _)) (pss_one (ps_par (i := 2) (j := 3) (by rfl) sc_c_law_moved.nd (by rfl) (by rfl) (by decide) (by rfl) (by rfl) (pa_cons (pe_op op_add (pv 2) pe_int) (pa_cons pe_int pa_nil)) (by rfl))) pss_nil)
    (pss_one (ps_if (pt_cmpR op_eq (pv 3) pe_int (nomark _)) (pss_one (ps_par (i := 2) (j := 3) (by rfl) sc_c_law_moved.nd (by rfl) (by rfl) (by decide) (by rfl) (by rfl) (pa_cons (pe_op op_sub (pv 2) pe_int) (pa_cons pe_int pa_nil)) (by rfl))) pss_nil)))))
    (pss_cons (ps_if (pt_not (pt_chain op_le op_le pe_int (pv 2) pe_int)) (pss_one (ps_ret pe_non)) pss_nil)
    (pss_one (ps_ret (pe_call G_c_law_day (hr.mono (by decide)) (by rfl) T.m_c_law_day T.F_c_law_day.kp T.b_c_law_day .nil passL (pa_cons (pv 2) (pa_cons (pv 3) (pa_cons (pe_callB (call_min2 rfl) (by rfl) T.n_min (by decide +kernel) (pa_cons (pv 4) (pa_cons (pe_call G_c_law_length (hr.mono (by decide)) (by rfl) T.m_c_law_length T.F_c_law_length.kp T.b_c_law_length .nil passL (pa_cons (pv 2) (pa_cons (pv 3) pa_nil))) pa_nil))) pa_nil))))))))), ?_⟩
    obtain ⟨⟨o1, o2, o3, o4⟩, o5, o6⟩ := id ok
    refine ⟨_, rfl, q, _, rfl, hq, rfl, _, _, rfl, _, _, rfl, _, _, rfl, rfl, ?_⟩
    have hn : (if k < 0 then -k else k).toNat = k.natAbs := by split <;> omega
    refine ⟨_, rfl, k, rfl, _, rfl, by split <;> omega, by split <;> omega, for_range (lo := 0) (n := (if k < 0 then -k else k).toNat) (fun i σ H' => ∃ (Y M : Int) (tv : Option V), σ = [some (.ref q), some (.int k), some (.int Y), some (.int M), some (.int d), tv] ∧ H' = H ∧ 1 ≤ M ∧ M ≤ 12 ∧ 12 * Y + M - 1 = 12 * y + m - 1 + (if 0 < k then (i : Int) else -(i : Int))) ?_ ?_ ?_⟩
    · exact ⟨y, m, none, rfl, rfl, o3, o4, by split <;> simp⟩
    · rintro i σ H1 hi ⟨Y, M, tv, rfl, rfl, M0, M1, e⟩
      refine ⟨fun σ H' => ∃ M' : Int, σ = [some (.ref q), some (.int k), some (.int Y), some (.int M'), some (.int d), some (.int (0 + i))] ∧ H' = H1 ∧ M' = M + (if 0 < k then 1 else -1), ?_, ?_⟩
      · refine ⟨_, rfl, _, rfl, _, _, rfl, rfl, _, rfl, ?_⟩
        refine ite2 (fun c => ?_) (fun c => ?_)
        · have c' : k > 0 := of_decide_eq_true c
          exact ⟨_, _, rfl, rfl, _, rfl, rfl, by rw [if_pos c']⟩
        · have c' : ¬ k > 0 := fun z => c (decide_eq_true z)
          exact ⟨_, rfl, _, _, rfl, rfl, _, rfl, rfl, by rw [if_neg c']⟩
      rintro σ H2 ⟨M', rfl, rfl, hM'⟩
      refine ⟨_, rfl, rfl, _, rfl, ?_⟩
      refine ite2 (fun c => ?_) (fun c => ?_)
      · have c' : M' = 13 := V.int.inj (of_decide_eq_true c)
        refine ⟨_, rfl, _, _, rfl, rfl, _, _, rfl, ?_⟩
        refine ⟨_, rfl, rfl, _, rfl, ?_⟩
        refine ite2 (fun c2 => absurd (of_decide_eq_true c2) (by simp)) (fun _ => ?_)
        exact ⟨Y + 1, 1, _, rfl, rfl, by decide, by decide, by split <;> split at e <;> split at hM' <;> omega⟩
      have c' : ¬ M' = 13 := fun z => c (decide_eq_true (congrArg V.int z))
      refine ⟨_, rfl, rfl, _, rfl, ?_⟩
      refine ite2 (fun c2 => ?_) (fun c2 => ?_)
      · have c2' : M' = 0 := V.int.inj (of_decide_eq_true c2)
        refine ⟨_, rfl, _, _, rfl, rfl, _, _, rfl, ?_⟩
        exact ⟨Y - 1, 12, _, rfl, rfl, by decide, by decide, by split <;> split at e <;> split at hM' <;> omega⟩
      have c2' : ¬ M' = 0 := fun z => c2 (decide_eq_true (congrArg V.int z))
      exact ⟨Y, M', _, rfl, rfl, by split at hM' <;> omega, by split at hM' <;> omega, by split <;> split at e <;> split at hM' <;> omega⟩
    rintro σ H1 ⟨Y, M, tv, rfl, rfl, M0, M1, e⟩
    rw [hn] at e
    have e2 : 12 * Y + M - 1 = 12 * y + m - 1 + k := by split at e <;> omega
    have eY : (12 * y + m - 1 + k) / 12 = Y := by omega
    have eM : (12 * y + m - 1 + k) % 12 + 1 = M := by omega
    have kk' := fun H' s' => kk H' s'
    unfold mv at kk'
    rw [eY, eM] at kk'
    refine ⟨_, rfl, _, _, rfl, rfl, _, rfl, ?_⟩
    refine ite2 (fun c => ?_) (fun c => ?_)
    rotate_left
    · exact ⟨_, rfl, (kk' _ (Same.refl _)).2 fun z => c (decide_eq_true z.1)⟩
    have c0 : 1 ≤ Y := of_decide_eq_true c
    refine ⟨_, _, rfl, rfl, _, rfl, ?_⟩
    refine ite2 (fun c => ?_) (fun c => ?_)
    · exact (kk' _ (Same.refl _)).2 fun z => by
        have z' : (!decide (Y ≤ 9999)) = true := c
        rw [decide_eq_true z.2] at z'
        cases z'
    have c1 : Y ≤ 9999 := by
      have z' : ¬ (!decide (Y ≤ 9999)) = true := c
      simpa using z'
    refine ⟨_, rfl, _, rfl, _, rfl, _, rfl, _, rfl, sp_c_law_length_use ⟨Y, M, rfl, M0, M1, fun H2 s2 => ?_⟩⟩
    refine ⟨_, _, rfl, ?_⟩
    refine sp_c_law_day_use ⟨Y, M, _, rfl, by omega, by omega, ?_⟩
    rw [law_day M0 M1, ite_min]
    exact (kk' _ s2).1 ⟨c0, c1⟩

theorem ok_c_law_plain_n {P : Program} {w : World} {K : PySem.W.Frag} {mg : Str → Option Value} {base : Heap} {a : Ad} (T : Txt K mg a) : ∀ n, FnOk P w K mg base (L2.CX P w) (n + 1) a.f_c_law_plain a.d_c_law_plain ["value"] (sp_c_law_plain K n) := by
  have step : ∀ n, (∀ m, m + 1 = n → FnOk P w K mg base (L2.CX P w) (m + 1) a.f_c_law_plain a.d_c_law_plain ["value"] (sp_c_law_plain K m)) → FnOk P w K mg base (L2.CX P w) (n + 1) a.f_c_law_plain a.d_c_law_plain ["value"] (sp_c_law_plain K n) := by
    intro n ih
    refine T.F_c_law_plain.okX sc_c_law_plain (fun vs H Q E h => ?_) (fun cdv A outer s H vs Q E hr h => ?_)
    · walk_at "len"
    · obtain ⟨v, d, rfl, hd, hok, k⟩ := h
      cases d with
      | dict _ => simp [okD] at hok
      | list ds =>
        cases n with
        | zero => simp [okD] at hok
        | succ n =>
        have IH := ih n rfl
        simp only [okD, Bool.and_eq_true, decide_eq_true_eq] at hok
        have hds := hok.1
        cases hd with
        | @lst aa xs _ hsq hall =>
        refine ⟨_, (pss_cons (ps_if (pt_val (pe_callB call_isiT (by rfl) T.n_isinstance (by decide +kernel) (pa_cons (pv 0) (pa_cons (pe_tup (pa_cons (pe_bltn (v := .ty "tuple") (by rfl) T.n_tuple (by decide +kernel) rfl) (pa_cons (pe_bltn (v := .ty "list") (by rfl) T.n_list (by decide +kernel) rfl) pa_nil))) pa_nil)))) (pss_one (ps_ret (pe_op op_cat (pe_lst (pa_cons (pe_callB call_isi (by rfl) T.n_isinstance (by decide +kernel) (pa_cons (pv 0) (pa_cons (pe_bltn (v := .ty "list") (by rfl) T.n_list (by decide +kernel) rfl) pa_nil))) pa_nil)) (pe_lcK (own := [("item", 1)]) (by rfl) sc_c_law_plain.nd (pi_list (pv 0)) (blkOk_by (own := [("item", 1)]) (N := ["value", "item"]) (sc := defScope st_c_law_plain) (by decide +kernel)) (fun _ _ _ _ _ => (pg_name (i := 1) sc_c_law_plain.nd (by rfl) (by first | exact Or.inl rfl | exact Or.inr rfl))) (fun _ _ _ _ _ => pts_nil) (fun _ _ _ _ _ => (pe_call IH (hr.mono (by omega)) (by rfl) T.m_c_law_plain T.F_c_law_plain.kp T.b_c_law_plain .nil passL (pa_cons (pv 1) pa_nil))) (by walk_at "blk") (by walk_at "blk") (by walk_at "blk"))))) pss_nil)
    (pss_cons (ps_if (PW.pt (pw_or (pt_cmpR op_isN (pv 0) pe_non (nomark _)) (pw_or1 (pt_val (pe_callB call_isi (by rfl) T.n_isinstance (by decide +kernel) (pa_cons (pv 0) (pa_cons (pe_bltn (v := .ty "bool") (by rfl) T.n_bool (by decide +kernel) rfl) pa_nil))))))) (pss_one (ps_ret (pe_ix ix_list (pe_lst (pa_cons pe_str (pa_cons pe_str (pa_cons pe_str pa_nil)))) (pe_op op_add (pe_callTy call_int1 (by rfl) T.n_int (by decide +kernel) (pa_cons (pe_cmpR op_notN (pv 0) pe_non (nomark _)) pa_nil)) (pe_callTy call_int1 (by rfl) T.n_int (by decide +kernel) (pa_cons (pe_cmpR op_isT (pv 0) pe_bl (nomark _)) pa_nil))) (fun _ _ => rfl)))) pss_nil)
    (pss_cons (ps_if (pt_val (pe_callB call_isiT (by rfl) T.n_isinstance (by decide +kernel) (pa_cons (pv 0) (pa_cons (pe_tup (pa_cons (pe_bltn (v := .ty "int") (by rfl) T.n_int (by decide +kernel) rfl) (pa_cons (pe_bltn (v := .ty "str") (by rfl) T.n_str (by decide +kernel) rfl) pa_nil))) pa_nil)))) (pss_one (ps_ret (pe_lst (pa_cons (pe_callB call_isi (by rfl) T.n_isinstance (by decide +kernel) (pa_cons (pv 0) (pa_cons (pe_bltn (v := .ty "str") (by rfl) T.n_str (by decide +kernel) rfl) pa_nil))) (pa_cons (pv 0) pa_nil))))) pss_nil)
    (pss_one (ps_ret pe_str))))), ?_⟩

        refine ⟨_, rfl, by show 2 ≤ sizeLine; decide, fun p hp => ?_⟩
        refine ⟨_, _, [.ty "tuple", .ty "list"], .type "list", _, _, rfl, upd_same, .cons (.ty "tuple") (.cons (.ty "list") .nil), ((kind_l hsq).new hp), kit2 (r1 := false) (r2 := true) (by decide +kernel) (by decide +kernel), ?_⟩
        refine ⟨_, rfl, ?_⟩
        refine iteT ?_
        have s1 : Same H (upd H p (.tup [.ty "tuple", .ty "list"])) := Same.new hp
        refine ⟨_, rfl, .ref aa, .ty "list", _, _, true, rfl, .ty "list", (kind_l hsq).new hp, kit_ty (by decide +kernel), ?_⟩
        refine ⟨by show 1 ≤ sizeLine; decide, fun l hl => ?_⟩
        have s2 := s1.then_new (o := .lst [.bl true]) hl
        have hl0 : H l = none := s1.free hl
        refine ⟨_, rfl, aa, rfl, ⟨_, Same.seq s2 hsq⟩, fun E' hE => ?_⟩
        have hE0 : H E' = none := s2.free hE
        have nlE : l ≠ E' := by
          intro z
          rw [z, upd_same] at hE
          cases hE
        refine lc_list (K := K) (a := aa) (xs := xs) (fun i H' => Same H H' ∧ H' l = some (.lst [.bl true]) ∧ ∃ acc, H' E' = some (.lst acc) ∧ DNs (fun b => H b = none ∧ b ≠ E' ∧ b ≠ l) H' acc (plainDs (ds.take i)) ∧ acc.length ≤ i)
          ⟨s2.then_new hE, by rw [upd_ne nlE]; exact upd_same, [], upd_same, by simp only [List.take_zero, plainDs]; exact .nil, Nat.le_refl _⟩ (fun i H' _ q => Same.seq q.1 hsq) ?_ ?_
        · rintro i x H' hi ⟨s3, h3, acc, ha, hn, hz⟩
          obtain ⟨dx, hdx, hx⟩ := dpAll_get hall hi
          have hi1 : i < ds.length := (List.getElem?_eq_some_iff.mp hdx).1
          refine ⟨rfl, ?_⟩
          refine ⟨_, rfl, x, dx, rfl, dp_same s3 dx x hx, okDs_get hok.2 hdx, fun v' H'' s4 hv => ?_⟩
          have hE2 := s4 _ _ ha
          have nn : ∀ b, H' b = none → H b = none ∧ b ≠ E' ∧ b ≠ l := fun b hb => ⟨s3.free hb, (fun z => by rw [z, ha] at hb; cases hb), (fun z => by rw [z, h3] at hb; cases hb)⟩
          refine ⟨acc, hE2, small1000000 (by omega), (s3.trans s4).mut hE0, by rw [upd_ne nlE]; exact s4 _ _ h3, acc ++ [v'], upd_same, ?_, by rw [List.length_append]; show _ + 1 ≤ _; omega⟩
          rw [plainDs_take hdx]
          exact DNs.snoc (DN.mono nn (fun b o hb e => by rw [upd_ne (nn b hb).2.1]; exact e) _ _ hv) (DNs.mono (fun _ z => z) (fun b o hb e => by rw [upd_ne hb.2.1]; exact s4 _ _ e) _ _ hn)
        · rintro H' ⟨s3, h3, acc, ha, hn, hz⟩
          have el : ds.take xs.length = ds := by rw [dpAll_length hall, List.take_length]
          rw [el] at hn
          have hlen : acc.length ≤ 1000 := by have := dpAll_length hall; omega
          refine ⟨l, E', _, _, rfl, rfl, h3, ha, Nat.le_of_lt (small1000000 (by show 1 + _ ≤ _; omega)), fun r hr' => ?_⟩
          have hr0 : H r = none := s3.free hr'
          refine k _ _ (s3.then_new hr') ?_
          simp only [plainD]
          refine .lst hr0 upd_same (.cons (.bl _) (DNs.mono (fun b z => z.1) (fun b o hb e => ?_) _ _ hn))
          rw [upd_ne (ne_of_none e hr')]
          exact e

      | tuple ds =>
        cases n with
        | zero => simp [okD] at hok
        | succ n =>
        have IH := ih n rfl
        simp only [okD, Bool.and_eq_true, decide_eq_true_eq] at hok
        have hds := hok.1
        cases hd with
        | @tup aa xs _ hsq hall =>
        refine ⟨_, (pss_cons (ps_if (pt_val (pe_callB call_isiT (by rfl) T.n_isinstance (by decide +kernel) (pa_cons (pv 0) (pa_cons (pe_tup (pa_cons (pe_bltn (v := .ty "tuple") (by rfl) T.n_tuple (by decide +kernel) rfl) (pa_cons (pe_bltn (v := .ty "list") (by rfl) T.n_list (by decide +kernel) rfl) pa_nil))) pa_nil)))) (pss_one (ps_ret (pe_op op_cat (pe_lst (pa_cons (pe_callB call_isi (by rfl) T.n_isinstance (by decide +kernel) (pa_cons (pv 0) (pa_cons (pe_bltn (v := .ty "list") (by rfl) T.n_list (by decide +kernel) rfl) pa_nil))) pa_nil)) (pe_lcK (own := [("item", 1)]) (by rfl) sc_c_law_plain.nd (pi_tup (pv 0)) (blkOk_by (own := [("item", 1)]) (N := ["value", "item"]) (sc := defScope st_c_law_plain) (by decide +kernel)) (fun _ _ _ _ _ => (pg_name (i := 1) sc_c_law_plain.nd (by rfl) (by first | exact Or.inl rfl | exact Or.inr rfl))) (fun _ _ _ _ _ => pts_nil) (fun _ _ _ _ _ => (pe_call IH (hr.mono (by omega)) (by rfl) T.m_c_law_plain T.F_c_law_plain.kp T.b_c_law_plain .nil passL (pa_cons (pv 1) pa_nil))) (by walk_at "blk") (by walk_at "blk") (by walk_at "blk"))))) pss_nil)
    (pss_cons (ps_if (PW.pt (pw_or (pt_cmpR op_isN (pv 0) pe_non (nomark _)) (pw_or1 (pt_val (pe_callB call_isi (by rfl) T.n_isinstance (by decide +kernel) (pa_cons (pv 0) (pa_cons (pe_bltn (v := .ty "bool") (by rfl) T.n_bool (by decide +kernel) rfl) pa_nil))))))) (pss_one (ps_ret (pe_ix ix_list (pe_lst (pa_cons pe_str (pa_cons pe_str (pa_cons pe_str pa_nil)))) (pe_op op_add (pe_callTy call_int1 (by rfl) T.n_int (by decide +kernel) (pa_cons (pe_cmpR op_notN (pv 0) pe_non (nomark _)) pa_nil)) (pe_callTy call_int1 (by rfl) T.n_int (by decide +kernel) (pa_cons (pe_cmpR op_isT (pv 0) pe_bl (nomark _)) pa_nil))) (fun _ _ => rfl)))) pss_nil)
    (pss_cons (ps_if (pt_val (pe_callB call_isiT (by rfl) T.n_isinstance (by decide +kernel) (pa_cons (pv 0) (pa_cons (pe_tup (pa_cons (pe_bltn (v := .ty "int") (by rfl) T.n_int (by decide +kernel) rfl) (pa_cons (pe_bltn (v := .ty "str") (by rfl) T.n_str (by decide +kernel) rfl) pa_nil))) pa_nil)))) (pss_one (ps_ret (pe_lst (pa_cons (pe_callB call_isi (by rfl) T.n_isinstance (by decide +kernel) (pa_cons (pv 0) (pa_cons (pe_bltn (v := .ty "str") (by rfl) T.n_str (by decide +kernel) rfl) pa_nil))) (pa_cons (pv 0) pa_nil))))) pss_nil)
    (pss_one (ps_ret pe_str))))), ?_⟩

        refine ⟨_, rfl, by show 2 ≤ sizeLine; decide, fun p hp => ?_⟩
        refine ⟨_, _, [.ty "tuple", .ty "list"], .type "tuple", _, _, rfl, upd_same, .cons (.ty "tuple") (.cons (.ty "list") .nil), ((kind_t hsq).new hp), kit2 (r1 := true) (r2 := false) (by decide +kernel) (by decide +kernel), ?_⟩
        refine ⟨_, rfl, ?_⟩
        refine iteT ?_
        have s1 : Same H (upd H p (.tup [.ty "tuple", .ty "list"])) := Same.new hp
        refine ⟨_, rfl, .ref aa, .ty "list", _, _, false, rfl, .ty "list", (kind_t hsq).new hp, kit_ty (by decide +kernel), ?_⟩
        refine ⟨by show 1 ≤ sizeLine; decide, fun l hl => ?_⟩
        have s2 := s1.then_new (o := .lst [.bl false]) hl
        have hl0 : H l = none := s1.free hl
        refine ⟨_, rfl, aa, rfl, ⟨_, Same.tup s2 hsq⟩, fun E' hE => ?_⟩
        have hE0 : H E' = none := s2.free hE
        have nlE : l ≠ E' := by
          intro z
          rw [z, upd_same] at hE
          cases hE
        refine lc_tup (K := K) (a := aa) (xs := xs) (fun i H' => Same H H' ∧ H' l = some (.lst [.bl false]) ∧ ∃ acc, H' E' = some (.lst acc) ∧ DNs (fun b => H b = none ∧ b ≠ E' ∧ b ≠ l) H' acc (plainDs (ds.take i)) ∧ acc.length ≤ i)
          ⟨s2.then_new hE, by rw [upd_ne nlE]; exact upd_same, [], upd_same, by simp only [List.take_zero, plainDs]; exact .nil, Nat.le_refl _⟩ (fun i H' _ q => Same.tup q.1 hsq) ?_ ?_
        · rintro i x H' hi ⟨s3, h3, acc, ha, hn, hz⟩
          obtain ⟨dx, hdx, hx⟩ := dpAll_get hall hi
          have hi1 : i < ds.length := (List.getElem?_eq_some_iff.mp hdx).1
          refine ⟨rfl, ?_⟩
          refine ⟨_, rfl, x, dx, rfl, dp_same s3 dx x hx, okDs_get hok.2 hdx, fun v' H'' s4 hv => ?_⟩
          have hE2 := s4 _ _ ha
          have nn : ∀ b, H' b = none → H b = none ∧ b ≠ E' ∧ b ≠ l := fun b hb => ⟨s3.free hb, (fun z => by rw [z, ha] at hb; cases hb), (fun z => by rw [z, h3] at hb; cases hb)⟩
          refine ⟨acc, hE2, small1000000 (by omega), (s3.trans s4).mut hE0, by rw [upd_ne nlE]; exact s4 _ _ h3, acc ++ [v'], upd_same, ?_, by rw [List.length_append]; show _ + 1 ≤ _; omega⟩
          rw [plainDs_take hdx]
          exact DNs.snoc (DN.mono nn (fun b o hb e => by rw [upd_ne (nn b hb).2.1]; exact e) _ _ hv) (DNs.mono (fun _ z => z) (fun b o hb e => by rw [upd_ne hb.2.1]; exact s4 _ _ e) _ _ hn)
        · rintro H' ⟨s3, h3, acc, ha, hn, hz⟩
          have el : ds.take xs.length = ds := by rw [dpAll_length hall, List.take_length]
          rw [el] at hn
          have hlen : acc.length ≤ 1000 := by have := dpAll_length hall; omega
          refine ⟨l, E', _, _, rfl, rfl, h3, ha, Nat.le_of_lt (small1000000 (by show 1 + _ ≤ _; omega)), fun r hr' => ?_⟩
          have hr0 : H r = none := s3.free hr'
          refine k _ _ (s3.then_new hr') ?_
          simp only [plainD]
          refine .lst hr0 upd_same (.cons (.bl _) (DNs.mono (fun b z => z.1) (fun b o hb e => ?_) _ _ hn))
          rw [upd_ne (ne_of_none e hr')]
          exact e

      | none =>
        cases hd
        refine ⟨_, (pss_cons (ps_if (pt_val (pe_callB call_isiT (by rfl) T.n_isinstance (by decide +kernel) (pa_cons (pv 0) (pa_cons (pe_tup (pa_cons (pe_bltn (v := .ty "tuple") (by rfl) T.n_tuple (by decide +kernel) rfl) (pa_cons (pe_bltn (v := .ty "list") (by rfl) T.n_list (by decide +kernel) rfl) pa_nil))) pa_nil)))) (pss_one ps_never) pss_nil)
    (pss_cons (ps_if (PW.pt (pw_or (pt_cmpR op_isN (pv 0) pe_non (nomark _)) (pw_or1 (pt_val (pe_callB call_isi (by rfl) T.n_isinstance (by decide +kernel) (pa_cons (pv 0) (pa_cons (pe_bltn (v := .ty "bool") (by rfl) T.n_bool (by decide +kernel) rfl) pa_nil))))))) (pss_one (ps_ret (pe_ix ix_list (pe_lst (pa_cons pe_str (pa_cons pe_str (pa_cons pe_str pa_nil)))) (pe_op op_add (pe_callTy call_int1 (by rfl) T.n_int (by decide +kernel) (pa_cons (pe_cmpR op_notN (pv 0) pe_non (nomark _)) pa_nil)) (pe_callTy call_int1 (by rfl) T.n_int (by decide +kernel) (pa_cons (pe_cmpR op_isT (pv 0) pe_bl (nomark _)) pa_nil))) (fun _ _ => rfl)))) pss_nil)
    (pss_cons (ps_if (pt_val (pe_callB call_isiT (by rfl) T.n_isinstance (by decide +kernel) (pa_cons (pv 0) (pa_cons (pe_tup (pa_cons (pe_bltn (v := .ty "int") (by rfl) T.n_int (by decide +kernel) rfl) (pa_cons (pe_bltn (v := .ty "str") (by rfl) T.n_str (by decide +kernel) rfl) pa_nil))) pa_nil)))) (pss_one (ps_ret (pe_lst (pa_cons (pe_callB call_isi (by rfl) T.n_isinstance (by decide +kernel) (pa_cons (pv 0) (pa_cons (pe_bltn (v := .ty "str") (by rfl) T.n_str (by decide +kernel) rfl) pa_nil))) (pa_cons (pv 0) pa_nil))))) pss_nil)
    (pss_one (ps_ret pe_str))))), ?_⟩

        refine ⟨_, rfl, by show 2 ≤ sizeLine; decide, fun p hp => ?_⟩
        refine ⟨_, _, [.ty "tuple", .ty "list"], .type "NoneType", _, _, rfl, upd_same, .cons (.ty "tuple") (.cons (.ty "list") .nil), (.base .non), kit2 (r1 := false) (r2 := false) (by decide +kernel) (by decide +kernel), ?_⟩
        refine ⟨_, rfl, ?_⟩
        refine iteF ?_
        have s1 : Same H (upd H p (.tup [.ty "tuple", .ty "list"])) := Same.new hp

        refine ⟨_, rfl, rfl, _, rfl, ?_⟩
        refine iteT ?_
        refine iteT ?_
        refine ⟨by show 3 ≤ sizeLine; decide, fun l hl => ?_⟩
        refine ⟨_, rfl, rfl, .inr ⟨_, rfl, ?_⟩⟩
        refine ⟨_, rfl, .inr ⟨rfl, _, rfl, .inr ⟨_, rfl, ?_⟩⟩⟩
        refine ⟨_, _, rfl, rfl, ?_⟩
        refine ⟨l, _, _, _, rfl, rfl, SqL.of upd_same, atI_nat' (j := 0) (by decide) rfl, ?_⟩
        exact k _ _ (s1.then_new hl) (by simp only [plainD]; exact .str _)
      | bool b =>
        cases hd
        refine ⟨_, (pss_cons (ps_if (pt_val (pe_callB call_isiT (by rfl) T.n_isinstance (by decide +kernel) (pa_cons (pv 0) (pa_cons (pe_tup (pa_cons (pe_bltn (v := .ty "tuple") (by rfl) T.n_tuple (by decide +kernel) rfl) (pa_cons (pe_bltn (v := .ty "list") (by rfl) T.n_list (by decide +kernel) rfl) pa_nil))) pa_nil)))) (pss_one ps_never) pss_nil)
    (pss_cons (ps_if (PW.pt (pw_or (pt_cmpR op_isN (pv 0) pe_non (nomark _)) (pw_or1 (pt_val (pe_callB call_isi (by rfl) T.n_isinstance (by decide +kernel) (pa_cons (pv 0) (pa_cons (pe_bltn (v := .ty "bool") (by rfl) T.n_bool (by decide +kernel) rfl) pa_nil))))))) (pss_one (ps_ret (pe_ix ix_list (pe_lst (pa_cons pe_str (pa_cons pe_str (pa_cons pe_str pa_nil)))) (pe_op op_add (pe_callTy call_int1 (by rfl) T.n_int (by decide +kernel) (pa_cons (pe_cmpR op_notN (pv 0) pe_non (nomark _)) pa_nil)) (pe_callTy call_int1 (by rfl) T.n_int (by decide +kernel) (pa_cons (pe_cmpR op_isT (pv 0) pe_bl (nomark _)) pa_nil))) (fun _ _ => rfl)))) pss_nil)
    (pss_cons (ps_if (pt_val (pe_callB call_isiT (by rfl) T.n_isinstance (by decide +kernel) (pa_cons (pv 0) (pa_cons (pe_tup (pa_cons (pe_bltn (v := .ty "int") (by rfl) T.n_int (by decide +kernel) rfl) (pa_cons (pe_bltn (v := .ty "str") (by rfl) T.n_str (by decide +kernel) rfl) pa_nil))) pa_nil)))) (pss_one (ps_ret (pe_lst (pa_cons (pe_callB call_isi (by rfl) T.n_isinstance (by decide +kernel) (pa_cons (pv 0) (pa_cons (pe_bltn (v := .ty "str") (by rfl) T.n_str (by decide +kernel) rfl) pa_nil))) (pa_cons (pv 0) pa_nil))))) pss_nil)
    (pss_one (ps_ret pe_str))))), ?_⟩

        refine ⟨_, rfl, by show 2 ≤ sizeLine; decide, fun p hp => ?_⟩
        refine ⟨_, _, [.ty "tuple", .ty "list"], .type "bool", _, _, rfl, upd_same, .cons (.ty "tuple") (.cons (.ty "list") .nil), (.base (.bl _)), kit2 (r1 := false) (r2 := false) (by decide +kernel) (by decide +kernel), ?_⟩
        refine ⟨_, rfl, ?_⟩
        refine iteF ?_
        have s1 : Same H (upd H p (.tup [.ty "tuple", .ty "list"])) := Same.new hp

        refine ⟨_, rfl, rfl, _, rfl, ?_⟩
        refine iteF ?_
        refine ⟨_, rfl, _, .ty "bool", _, _, true, rfl, .ty "bool", .base (.bl _), kit_ty (by decide +kernel), _, rfl, ?_⟩
        refine iteT ?_
        refine ⟨by show 3 ≤ sizeLine; decide, fun l hl => ?_⟩
        refine ⟨_, rfl, rfl, .inr ⟨_, rfl, ?_⟩⟩
        refine ⟨_, rfl, .inl ⟨_, _, rfl, rfl, .inr ⟨_, rfl, ?_⟩⟩⟩
        refine ⟨_, _, rfl, rfl, ?_⟩
        cases b
        · refine ⟨l, _, _, _, rfl, rfl, SqL.of upd_same, atI_nat' (j := 1) (by decide) rfl, ?_⟩
          exact k _ _ (s1.then_new hl) (by simp only [plainD]; exact .str _)
        · refine ⟨l, _, _, _, rfl, rfl, SqL.of upd_same, atI_nat' (j := 2) (by decide) rfl, ?_⟩
          exact k _ _ (s1.then_new hl) (by simp only [plainD]; exact .str _)
      | int i =>
        cases hd
        refine ⟨_, (pss_cons (ps_if (pt_val (pe_callB call_isiT (by rfl) T.n_isinstance (by decide +kernel) (pa_cons (pv 0) (pa_cons (pe_tup (pa_cons (pe_bltn (v := .ty "tuple") (by rfl) T.n_tuple (by decide +kernel) rfl) (pa_cons (pe_bltn (v := .ty "list") (by rfl) T.n_list (by decide +kernel) rfl) pa_nil))) pa_nil)))) (pss_one ps_never) pss_nil)
    (pss_cons (ps_if (PW.pt (pw_or (pt_cmpR op_isN (pv 0) pe_non (nomark _)) (pw_or1 (pt_val (pe_callB call_isi (by rfl) T.n_isinstance (by decide +kernel) (pa_cons (pv 0) (pa_cons (pe_bltn (v := .ty "bool") (by rfl) T.n_bool (by decide +kernel) rfl) pa_nil))))))) (pss_one (ps_ret (pe_ix ix_list (pe_lst (pa_cons pe_str (pa_cons pe_str (pa_cons pe_str pa_nil)))) (pe_op op_add (pe_callTy call_int1 (by rfl) T.n_int (by decide +kernel) (pa_cons (pe_cmpR op_notN (pv 0) pe_non (nomark _)) pa_nil)) (pe_callTy call_int1 (by rfl) T.n_int (by decide +kernel) (pa_cons (pe_cmpR op_isT (pv 0) pe_bl (nomark _)) pa_nil))) (fun _ _ => rfl)))) pss_nil)
    (pss_cons (ps_if (pt_val (pe_callB call_isiT (by rfl) T.n_isinstance (by decide +kernel) (pa_cons (pv 0) (pa_cons (pe_tup (pa_cons (pe_bltn (v := .ty "int") (by rfl) T.n_int (by decide +kernel) rfl) (pa_cons (pe_bltn (v := .ty "str") (by rfl) T.n_str (by decide +kernel) rfl) pa_nil))) pa_nil)))) (pss_one (ps_ret (pe_lst (pa_cons (pe_callB call_isi (by rfl) T.n_isinstance (by decide +kernel) (pa_cons (pv 0) (pa_cons (pe_bltn (v := .ty "str") (by rfl) T.n_str (by decide +kernel) rfl) pa_nil))) (pa_cons (pv 0) pa_nil))))) pss_nil)
    (pss_one (ps_ret pe_str))))), ?_⟩

        refine ⟨_, rfl, by show 2 ≤ sizeLine; decide, fun p hp => ?_⟩
        refine ⟨_, _, [.ty "tuple", .ty "list"], .type "int", _, _, rfl, upd_same, .cons (.ty "tuple") (.cons (.ty "list") .nil), (.base (.int _)), kit2 (r1 := false) (r2 := false) (by decide +kernel) (by decide +kernel), ?_⟩
        refine ⟨_, rfl, ?_⟩
        refine iteF ?_
        have s1 : Same H (upd H p (.tup [.ty "tuple", .ty "list"])) := Same.new hp

        refine ⟨_, rfl, rfl, _, rfl, ?_⟩
        refine iteF ?_
        refine ⟨_, rfl, _, .ty "bool", _, _, false, rfl, .ty "bool", .base (.int _), kit_ty (by decide +kernel), _, rfl, ?_⟩
        refine iteF ?_
        refine ⟨_, rfl, by show 2 ≤ sizeLine; decide, fun q hq => ?_⟩
        refine ⟨_, _, [.ty "int", .ty "str"], .type "int", _, _, rfl, upd_same, .cons (.ty "int") (.cons (.ty "str") .nil), (.base (.int _)), kit2 (r1 := true) (r2 := false) (by decide +kernel) (by decide +kernel), ?_⟩
        refine ⟨_, rfl, ?_⟩
        refine iteT ?_
        have s2 := s1.then_new (o := .tup [.ty "int", .ty "str"]) hq
        refine ⟨_, rfl, _, .ty "str", _, _, false, rfl, .ty "str", .base (.int _), kit_ty (by decide +kernel), ?_⟩
        refine ⟨_, rfl, by show 2 ≤ sizeLine; decide, fun l hl => ?_⟩
        refine k _ _ (s2.then_new hl) ?_
        simp only [plainD]
        exact .lst (s2.free hl) upd_same (.cons (.bl _) (.cons (.int _) .nil))
      | str i =>
        cases hd
        refine ⟨_, (pss_cons (ps_if (pt_val (pe_callB call_isiT (by rfl) T.n_isinstance (by decide +kernel) (pa_cons (pv 0) (pa_cons (pe_tup (pa_cons (pe_bltn (v := .ty "tuple") (by rfl) T.n_tuple (by decide +kernel) rfl) (pa_cons (pe_bltn (v := .ty "list") (by rfl) T.n_list (by decide +kernel) rfl) pa_nil))) pa_nil)))) (pss_one ps_never) pss_nil)
    (pss_cons (ps_if (PW.pt (pw_or (pt_cmpR op_isN (pv 0) pe_non (nomark _)) (pw_or1 (pt_val (pe_callB call_isi (by rfl) T.n_isinstance (by decide +kernel) (pa_cons (pv 0) (pa_cons (pe_bltn (v := .ty "bool") (by rfl) T.n_bool (by decide +kernel) rfl) pa_nil))))))) (pss_one (ps_ret (pe_ix ix_list (pe_lst (pa_cons pe_str (pa_cons pe_str (pa_cons pe_str pa_nil)))) (pe_op op_add (pe_callTy call_int1 (by rfl) T.n_int (by decide +kernel) (pa_cons (pe_cmpR op_notN (pv 0) pe_non (nomark _)) pa_nil)) (pe_callTy call_int1 (by rfl) T.n_int (by decide +kernel) (pa_cons (pe_cmpR op_isT (pv 0) pe_bl (nomark _)) pa_nil))) (fun _ _ => rfl)))) pss_nil)
    (pss_cons (ps_if (pt_val (pe_callB call_isiT (by rfl) T.n_isinstance (by decide +kernel) (pa_cons (pv 0) (pa_cons (pe_tup (pa_cons (pe_bltn (v := .ty "int") (by rfl) T.n_int (by decide +kernel) rfl) (pa_cons (pe_bltn (v := .ty "str") (by rfl) T.n_str (by decide +kernel) rfl) pa_nil))) pa_nil)))) (pss_one (ps_ret (pe_lst (pa_cons (pe_callB call_isi (by rfl) T.n_isinstance (by decide +kernel) (pa_cons (pv 0) (pa_cons (pe_bltn (v := .ty "str") (by rfl) T.n_str (by decide +kernel) rfl) pa_nil))) (pa_cons (pv 0) pa_nil))))) pss_nil)
    (pss_one (ps_ret pe_str))))), ?_⟩

        refine ⟨_, rfl, by show 2 ≤ sizeLine; decide, fun p hp => ?_⟩
        refine ⟨_, _, [.ty "tuple", .ty "list"], .type "str", _, _, rfl, upd_same, .cons (.ty "tuple") (.cons (.ty "list") .nil), (.base (.str _)), kit2 (r1 := false) (r2 := false) (by decide +kernel) (by decide +kernel), ?_⟩
        refine ⟨_, rfl, ?_⟩
        refine iteF ?_
        have s1 : Same H (upd H p (.tup [.ty "tuple", .ty "list"])) := Same.new hp

        refine ⟨_, rfl, rfl, _, rfl, ?_⟩
        refine iteF ?_
        refine ⟨_, rfl, _, .ty "bool", _, _, false, rfl, .ty "bool", .base (.str _), kit_ty (by decide +kernel), _, rfl, ?_⟩
        refine iteF ?_
        refine ⟨_, rfl, by show 2 ≤ sizeLine; decide, fun q hq => ?_⟩
        refine ⟨_, _, [.ty "int", .ty "str"], .type "str", _, _, rfl, upd_same, .cons (.ty "int") (.cons (.ty "str") .nil), (.base (.str _)), kit2 (r1 := false) (r2 := true) (by decide +kernel) (by decide +kernel), ?_⟩
        refine ⟨_, rfl, ?_⟩
        refine iteT ?_
        have s2 := s1.then_new (o := .tup [.ty "int", .ty "str"]) hq
        refine ⟨_, rfl, _, .ty "str", _, _, true, rfl, .ty "str", .base (.str _), kit_ty (by decide +kernel), ?_⟩
        refine ⟨_, rfl, by show 2 ≤ sizeLine; decide, fun l hl => ?_⟩
        refine k _ _ (s2.then_new hl) ?_
        simp only [plainD]
        exact .lst (s2.free hl) upd_same (.cons (.bl _) (.cons (.str _) .nil))
  intro n
  induction n with
  | zero => exact step 0 fun m e => by omega
  | succ n ih => exact step (n + 1) fun m e => by have : m = n := by omega
                                                  subst this
                                                  exact ih
theorem ok_c_law_plain {P : Program} {w : World} {K : PySem.W.Frag} {mg : Str → Option Value} {base : Heap} {a : Ad} (T : Txt K mg a) : FnOk P w K mg base (L2.CX P w) 5 a.f_c_law_plain a.d_c_law_plain ["value"] (sp_c_law_plain K 4) := ok_c_law_plain_n T 4

theorem ok_c_InvalidTime_init {P : Program} {w : World} {K : PySem.W.Frag} {mg : Str → Option Value} {base : Heap} {a : Ad} (T : Txt K mg a) : FnOk P w K mg base (L2.CX P w) 1 a.f_c_InvalidTime_init a.d_c_InvalidTime_init ["self", "what"] (sp_exinit a.C_InvalidTime) := by
  refine T.F_c_InvalidTime_init.okX sc_c_InvalidTime_init (fun vs H Q E h => ?_) (fun cdv A outer s H vs Q E hr h => ?_)
  · walk_at "len"
  · obtain ⟨x, wd, rfl, hx, hl, k⟩ := h
    refine ⟨_, (pss_cons (ps_expr (pe_binit T.bc_SlotError (by rfl) T.m_SlotError (pa_cons (pv 0) (pa_cons (pe_op op_add_str pe_str (pv 1)) pa_nil))))
    (pss_one (ps_ost (pv 0) (pv 1)))), ?_⟩
    refine ⟨_, rfl, _, rfl, _, _, rfl, rfl, by have := small1000000 (n := 1000) (by decide); show _ + wd.length ≤ _; exact Nat.le_of_lt (Nat.lt_of_le_of_lt (Nat.add_le_add_left hl _) (small1000000 (by decide +kernel))), ?_⟩
    refine ⟨x, _, _, rfl, by show 1 ≤ 1000; decide, T.ox_InvalidTime, hx, ?_⟩
    refine ⟨_, rfl, _, rfl, x, _, rfl, T.ox_InvalidTime, T.no_InvalidTime_what, .inl ⟨hx, fun dx n ne => k dx n ne⟩⟩
theorem ok_c_check_year {P : Program} {w : World} {K : PySem.W.Frag} {mg : Str → Option Value} {base : Heap} {a : Ad} (T : Txt K mg a) : FnOk P w K mg base (L2.CX P w) 3 a.f_c_check_year a.d_c_check_year ["year"] (sp_c_check_year a.C_InvalidTime) := by
  have G_c_InvalidTime_init : FnOk P w K mg base (L2.CX P w) 1 a.f_c_InvalidTime_init a.d_c_InvalidTime_init ["self", "what"] (sp_exinit a.C_InvalidTime) := ok_c_InvalidTime_init T
  refine T.F_c_check_year.okX sc_c_check_year (fun vs H Q E h => ?_) (fun cdv A outer s H vs Q E hr h => ?_)
  · rw [sp_c_check_year_eq] at h
    walk_at "len"
  · rw [sp_c_check_year_eq] at h
    obtain ⟨y, rfl, k0, k1⟩ := h
    refine ⟨_, (pss_one (ps_if (pt_not (pt_chain op_le op_le (pe_glob (v := .int 1) (by rfl) T.m_FIRST_YEAR ⟨_, rfl⟩) (pv 0) (pe_glob (v := .int 9999) (by rfl) T.m_LAST_YEAR ⟨_, rfl⟩))) (pss_one (ps_raise rfl (takes_of rfl rfl rfl rfl) (pmk_oex T.ox_InvalidTime T.in_InvalidTime T.ti_InvalidTime G_c_InvalidTime_init (hr.mono (by decide)) T.b_c_InvalidTime_init .nil passL (by rfl) T.m_InvalidTime (pa_cons pe_str pa_nil)))) pss_nil)), ?_⟩
    have bad : ¬ (1 ≤ y ∧ y ≤ 9999) → (["date"] : List Str).length ≤ 1000 ∧ ∀ aa, H aa = none → sp_exinit a.C_InvalidTime (.ref aa :: ([.str "date"] ++ [])) (upd H aa (exo aa a.C_InvalidTime none))
        (fun v H2 => v = .non ∧ ∃ (d : Addr) (fs : List (Str × V)), H2 aa = some (exo aa a.C_InvalidTime (some d)) ∧ H2 d = some (exd d fs) ∧ H d = none ∧ E (.ref a.C_InvalidTime) (some d) (upd (del H2 aa) d (.xd fs))) (fun _ _ _ => False) :=
      fun z => ⟨by show 1 ≤ 1000; decide, raise_ok (k0 z) (by decide +kernel)⟩
    refine ⟨_, rfl, _, _, rfl, rfl, _, rfl, ?_⟩
    refine ite2 (fun c => ?_) (fun c => ?_)
    rotate_left
    · exact ⟨_, rfl, bad fun z => c (decide_eq_true z.1)⟩
    have c0 := of_decide_eq_true c
    refine ⟨_, _, rfl, rfl, _, rfl, ?_⟩
    refine ite2 (fun e => ?_) (fun e => ?_)
    · exact bad fun z => by
        have e' : (!decide (y ≤ 9999)) = true := e
        rw [decide_eq_true z.2] at e'
        cases e'
    have c1 : y ≤ 9999 := by
      have e' : ¬ (!decide (y ≤ 9999)) = true := e
      simpa using e'
    exact k1 c0 c1
theorem ok_c_days_before_year {P : Program} {w : World} {K : PySem.W.Frag} {mg : Str → Option Value} {base : Heap} {a : Ad} (T : Txt K mg a) : FnOk P w K mg base (L2.CX P w) 1 a.f_c_days_before_year a.d_c_days_before_year ["year"] (sp_c_days_before_year) := by
  refine T.F_c_days_before_year.okX sc_c_days_before_year (fun vs H Q E h => ?_) (fun cdv A outer s H vs Q E hr h => ?_)
  · rw [sp_c_days_before_year_eq] at h
    walk_at "len"
  · rw [sp_c_days_before_year_eq] at h
    obtain ⟨y, rfl, hy, k⟩ := h
    refine ⟨_, (pss_cons (ps_set (i := 1) sc_c_days_before_year.nd (by rfl) (Or.inl rfl) (pe_op op_sub (pv 0) pe_int))
    (pss_one (ps_ret (pe_op op_add (pe_op op_sub (pe_op op_add (pe_op op_mul pe_int (pv 1)) (pe_op op_fdiv (pv 1) pe_int)) (pe_op op_fdiv (pv 1) pe_int)) (pe_op op_fdiv (pv 1) pe_int))))), ?_⟩
    refine ⟨_, rfl, _, _, rfl, rfl, _, rfl, _, _, rfl, rfl, .inl ⟨by decide, by decide⟩, _, rfl, _, _, rfl, rfl, ⟨by decide, by decide⟩, _, _, rfl, rfl, _, rfl, _, _, rfl, rfl, ⟨by decide, by decide⟩, _, _, rfl, rfl, _, rfl, _, _, rfl, rfl, ⟨by decide, by decide⟩, _, _, rfl, rfl, k⟩
theorem ok_c_is_leap {P : Program} {w : World} {K : PySem.W.Frag} {mg : Str → Option Value} {base : Heap} {a : Ad} (T : Txt K mg a) : FnOk P w K mg base (L2.CX P w) 1 a.f_c_is_leap a.d_c_is_leap ["year"] (sp_c_is_leap) := by
  refine T.F_c_is_leap.okX sc_c_is_leap (fun vs H Q E h => ?_) (fun cdv A outer s H vs Q E hr h => ?_)
  · rw [sp_c_is_leap_eq] at h
    walk_at "len"
  · rw [sp_c_is_leap_eq] at h
    obtain ⟨y, rfl, k⟩ := h
    refine ⟨_, (pss_one (ps_ret (pe_and (pe_cmpR op_eq (pe_op op_mod (pv 0) pe_int) pe_int (nomark _)) (pe_one (pe_or (pe_cmpR op_ne (pe_op op_mod (pv 0) pe_int) pe_int (nomark _)) (pe_one (pe_cmpR op_eq (pe_op op_mod (pv 0) pe_int) pe_int (nomark _)))))))), ?_⟩
    refine ⟨_, rfl, _, _, rfl, rfl, (by show (0 : Int) < 4; decide), rfl, _, rfl, ?_⟩
    refine ite2 (fun c => ?_) (fun c => ?_)
    rotate_left
    · have c' : ¬ y % 4 = 0 := fun z => c (decide_eq_true (congrArg V.int z))
      have e : leap y = false := by simp [leap, c']
      rw [e] at k
      exact k
    have c4 : y % 4 = 0 := V.int.inj (of_decide_eq_true c)
    refine ⟨_, rfl, _, _, rfl, rfl, (by show (0 : Int) < 100; decide), rfl, _, rfl, ?_⟩
    refine ite2 (fun c => ?_) (fun c => ?_)
    · have c' : ¬ y % 100 = 0 := fun z => by
        have c2 : (!decide (V.int (y % 100) = V.int 0)) = true := c
        rw [z] at c2
        simp at c2
      have e : leap y = true := by simp [leap, c4, c']
      rw [e] at k
      exact k
    have c5 : y % 100 = 0 := by
      have c2 : ¬ (!decide (V.int (y % 100) = V.int 0)) = true := c
      simpa using c2
    refine ⟨_, rfl, _, _, rfl, rfl, (by show (0 : Int) < 400; decide), rfl, ?_⟩
    have e : leap y = decide (V.int (y % 400) = V.int 0) := by simp [leap, c4, c5]
    rw [e] at k
    exact k
theorem ok_c_month_length {P : Program} {w : World} {K : PySem.W.Frag} {mg : Str → Option Value} {base : Heap} {a : Ad} (T : Txt K mg a) : FnOk P w K mg base (L2.CX P w) 4 a.f_c_month_length a.d_c_month_length ["year", "month"] (sp_c_month_length a.C_InvalidTime) := by
  have G_c_InvalidTime_init : FnOk P w K mg base (L2.CX P w) 1 a.f_c_InvalidTime_init a.d_c_InvalidTime_init ["self", "what"] (sp_exinit a.C_InvalidTime) := ok_c_InvalidTime_init T
  have G_c_check_year : FnOk P w K mg base (L2.CX P w) 3 a.f_c_check_year a.d_c_check_year ["year"] (sp_c_check_year a.C_InvalidTime) := ok_c_check_year T
  have G_c_is_leap : FnOk P w K mg base (L2.CX P w) 1 a.f_c_is_leap a.d_c_is_leap ["year"] (sp_c_is_leap) := ok_c_is_leap T
  refine T.F_c_month_length.okX sc_c_month_length (fun vs H Q E h => ?_) (fun cdv A outer s H vs Q E hr h => ?_)
  · rw [sp_c_month_length_eq] at h
    walk_at "len"
  · rw [sp_c_month_length_eq] at h
    obtain ⟨y, m, rfl, k0, k1⟩ := h
    refine ⟨_, (pss_cons (ps_expr (pe_callS G_c_check_year (hr.mono (by decide)) (by rfl) T.m_c_check_year T.F_c_check_year.kp T.b_c_check_year (fun σ => passAt (takes_of rfl rfl rfl rfl) σ) (pa_cons (pv 0) pa_nil)))
    (pss_cons (ps_if (pt_not (pt_chain op_le op_le pe_int (pv 1) pe_int)) (pss_one (ps_raise rfl (takes_of rfl rfl rfl rfl) (pmk_oex T.ox_InvalidTime T.in_InvalidTime T.ti_InvalidTime G_c_InvalidTime_init (hr.mono (by decide)) T.b_c_InvalidTime_init .nil passL (by rfl) T.m_InvalidTime (pa_cons pe_str pa_nil)))) pss_nil)
    (pss_one (ps_ret (pe_op op_add (pe_ix ix_tup (pe_glob (v := .ref a.A_LENGTHS) (by rfl) T.m_LENGTHS rfl) (pe_op op_sub (pv 1) pe_int) (fun _ _ => rfl)) (pe_callTy call_int1 (by rfl) T.n_int (by decide +kernel) (pa_cons (pe_and (pe_cmpR op_eq (pv 1) pe_int (nomark _)) (pe_one (pe_call G_c_is_leap (hr.mono (by decide)) (by rfl) T.m_c_is_leap T.F_c_is_leap.kp T.b_c_is_leap .nil passL (pa_cons (pv 0) pa_nil)))) pa_nil))))))), ?_⟩
    refine ⟨_, rfl, sp_c_check_year_use ⟨y, rfl, fun z => k0 fun q => z ⟨q.1, q.2.1⟩, fun y0 y1 => ?_⟩⟩

    have bad : ¬ (1 ≤ m ∧ m ≤ 12) → (["date"] : List Str).length ≤ 1000 ∧ ∀ aa, H aa = none → sp_exinit a.C_InvalidTime (.ref aa :: ([.str "date"] ++ [])) (upd H aa (exo aa a.C_InvalidTime none))
        (fun v H2 => v = .non ∧ ∃ (d : Addr) (fs : List (Str × V)), H2 aa = some (exo aa a.C_InvalidTime (some d)) ∧ H2 d = some (exd d fs) ∧ H d = none ∧ E (.ref a.C_InvalidTime) (some d) (upd (del H2 aa) d (.xd fs))) (fun _ _ _ => False) :=
      fun z => ⟨by show 1 ≤ 1000; decide, raise_ok (k0 fun q => z ⟨q.2.2.1, q.2.2.2⟩) (by decide +kernel)⟩
    refine ⟨_, rfl, _, _, rfl, rfl, _, rfl, ?_⟩
    refine ite2 (fun c => ?_) (fun c => ?_)
    rotate_left
    · exact ⟨_, rfl, bad fun z => c (decide_eq_true z.1)⟩
    have c0 := of_decide_eq_true c
    refine ⟨_, _, rfl, rfl, _, rfl, ?_⟩
    refine ite2 (fun e => ?_) (fun e => ?_)
    · exact bad fun z => by
        have e' : (!decide (m ≤ 12)) = true := e
        rw [decide_eq_true z.2] at e'
        cases e'
    have c1 : m ≤ 12 := by
      have e' : ¬ (!decide (m ≤ 12)) = true := e
      simpa using e'

    have hL : SqT K H a.A_LENGTHS (lens.map V.int) := Same.tup same_none T.w_LENGTHS
    have hk := k1 ⟨y0, y1, c0, c1⟩
    refine ⟨_, rfl, _, _, rfl, rfl, a.A_LENGTHS, _, _, _, rfl, rfl, hL, atI_nat' (j := (m - 1).toNat) (by omega) (lens_at c0 c1), ?_⟩
    refine ⟨_, rfl, rfl, _, rfl, ?_⟩
    refine ite2 (fun c => ?_) (fun c => ?_)
    · have c' : m = 2 := V.int.inj (of_decide_eq_true c)
      refine ⟨_, rfl, sp_c_is_leap_use ⟨y, rfl, .inr ⟨_, rfl, _, _, rfl, rfl, ?_⟩⟩⟩
      have e : mlen y m = lens.getD (m - 1).toNat 0 + (if leap y = true then 1 else 0) := by
        unfold mlen
        simp [c']
      rw [e] at hk
      exact hk
    · have c' : ¬ m = 2 := fun z => c (decide_eq_true (congrArg V.int z))
      refine .inr ⟨_, rfl, _, _, rfl, rfl, ?_⟩
      have e : mlen y m = lens.getD (m - 1).toNat 0 + 0 := by
        unfold mlen
        simp [c']
      rw [e] at hk
      exact hk
theorem ok_c_day_of {P : Program} {w : World} {K : PySem.W.Frag} {mg : Str → Option Value} {base : Heap} {a : Ad} (T : Txt K mg a) : FnOk P w K mg base (L2.CX P w) 5 a.f_c_day_of a.d_c_day_of ["year", "month", "day"] (sp_c_day_of a.C_InvalidTime) := by
  have G_c_InvalidTime_init : FnOk P w K mg base (L2.CX P w) 1 a.f_c_InvalidTime_init a.d_c_InvalidTime_init ["self", "what"] (sp_exinit a.C_InvalidTime) := ok_c_InvalidTime_init T
  have G_c_days_before_year : FnOk P w K mg base (L2.CX P w) 1 a.f_c_days_before_year a.d_c_days_before_year ["year"] (sp_c_days_before_year) := ok_c_days_before_year T
  have G_c_month_length : FnOk P w K mg base (L2.CX P w) 4 a.f_c_month_length a.d_c_month_length ["year", "month"] (sp_c_month_length a.C_InvalidTime) := ok_c_month_length T
  refine T.F_c_day_of.okX sc_c_day_of (fun vs H Q E h => ?_) (fun cdv A outer s H vs Q E hr h => ?_)
  · rw [sp_c_day_of_eq] at h
    walk_at "len"
  · rw [sp_c_day_of_eq] at h
    obtain ⟨y, m, d, rfl, k0, k1⟩ := h
    refine ⟨_, (pss_cons (ps_if (pt_not (pt_chain op_le op_le pe_int (pv 2) (pe_callS G_c_month_length (hr.mono (by decide)) (by rfl) T.m_c_month_length T.F_c_month_length.kp T.b_c_month_length (fun σ => passAt (takes_of rfl rfl rfl rfl) σ) (pa_cons (pv 0) (pa_cons (pv 1) pa_nil))))) (pss_one (ps_raise rfl (takes_of rfl rfl rfl rfl) (pmk_oex T.ox_InvalidTime T.in_InvalidTime T.ti_InvalidTime G_c_InvalidTime_init (hr.mono (by decide)) T.b_c_InvalidTime_init .nil passL (by rfl) T.m_InvalidTime (pa_cons pe_str pa_nil)))) pss_nil)
    (pss_cons (ps_set (i := 3) sc_c_day_of.nd (by rfl) (Or.inl rfl) (pe_callB (cr_sum rfl) (by rfl) T.n_sum (by decide +kernel) (pa_cons (pe_lcK (own := [("other", 4)]) (by rfl) sc_c_day_of.nd (pi_range2 (by rfl) T.n_range (pa_cons pe_int (pa_cons (pv 1) pa_nil))) (blkOk_by (own := [("other", 4)]) (N := ["year", "month", "day", "months", "other"]) (sc := defScope st_c_day_of) (by decide +kernel)) (fun _ _ _ _ _ => (pg_name (i := 4) sc_c_day_of.nd (by rfl) (by first | exact Or.inl rfl | exact Or.inr rfl))) (fun _ _ _ _ _ => pts_nil) (fun _ _ _ _ _ => (pe_call G_c_month_length (hr.mono (by decide)) (by rfl) T.m_c_month_length T.F_c_month_length.kp T.b_c_month_length .nil passL (pa_cons (pv 0) (pa_cons (pv 4) pa_nil)))) (by walk_at "blk") (by walk_at "blk") (by walk_at "blk")) pa_nil)))
    (pss_one (ps_ret (pe_op op_sub (pe_op op_sub (pe_op op_add (pe_op op_add (pe_call G_c_days_before_year (hr.mono (by decide)) (by rfl) T.m_c_days_before_year T.F_c_days_before_year.kp T.b_c_days_before_year .nil passL (pa_cons (pv 0) pa_nil)) (pv 3)) (pv 2)) pe_int) (pe_glob (v := .int 738885) (by rfl) T.m_DAYS_BEFORE ⟨_, rfl⟩)))))), ?_⟩
    have bad : ¬ okD8 y m d → (["date"] : List Str).length ≤ 1000 ∧ ∀ aa, H aa = none → sp_exinit a.C_InvalidTime (.ref aa :: ([.str "date"] ++ [])) (upd H aa (exo aa a.C_InvalidTime none))
        (fun v H2 => v = .non ∧ ∃ (d : Addr) (fs : List (Str × V)), H2 aa = some (exo aa a.C_InvalidTime (some d)) ∧ H2 d = some (exd d fs) ∧ H d = none ∧ E (.ref a.C_InvalidTime) (some d) (upd (del H2 aa) d (.xd fs))) (fun _ _ _ => False) :=
      fun z => ⟨by show 1 ≤ 1000; decide, raise_ok (k0 z) (by decide +kernel)⟩
    refine ⟨_, rfl, _, _, rfl, rfl, _, rfl, ?_⟩
    refine ite2 (fun c => ?_) (fun c => ?_)
    rotate_left
    · exact ⟨_, rfl, bad fun z => c (decide_eq_true z.2.1)⟩
    have c0 := of_decide_eq_true c
    refine ⟨_, rfl, _, rfl, sp_c_month_length_use ⟨y, m, rfl, fun z => k0 fun q => z q.1, fun ok => ?_⟩⟩
    refine ⟨_, _, rfl, rfl, _, rfl, ?_⟩
    refine ite2 (fun e => ?_) (fun e => ?_)
    · exact bad fun z => by
        have e' : (!decide (d ≤ mlen y m)) = true := e
        rw [decide_eq_true z.2.2] at e'
        cases e'
    have c1 : d ≤ mlen y m := by
      have e' : ¬ (!decide (d ≤ mlen y m)) = true := e
      simpa using e'
    have k := k1 ⟨ok, c0, c1⟩
    obtain ⟨y0, y1, m0, m1⟩ := ok
    refine ⟨_, rfl, 1, m, rfl, ⟨by omega, by omega, by omega, by omega⟩, fun E1 hE1 => ?_⟩
    refine lc_fn (walk_range (lo := 1) (n := (m - 1).toNat)) (fun i => some (.int (mlen y (1 + (i : Nat))))) (by omega) hE1 (fun _ _ => trivial) ?_ ?_
    · rintro i x H1 H2 R N hi s1 ⟨rfl, rfl⟩ hR hN
      refine ⟨rfl, ?_⟩
      exact ⟨_, rfl, _, rfl, sp_c_month_length_use ⟨y, 1 + (i : Nat), rfl, fun z => absurd ⟨y0, y1, by omega, by omega⟩ z, fun _ => hR _ _ rfl (Same.refl _)⟩⟩
    intro H1 s1 hE
    rw [fm_some] at hE
    refine ⟨E1, (List.range (m - 1).toNat).map fun (i : Nat) => mlen y (1 + i), rfl, SqL.of (by rw [hE, List.map_map]; rfl), ?_⟩
    have ey : y.natAbs < 2 ^ 60 := by omega
    refine ⟨_, rfl, sp_c_days_before_year_use ⟨y, rfl, ey, _, rfl, _, _, rfl, rfl, _, rfl, _, _, rfl, rfl, _, _, rfl, rfl, _, _, rfl, rfl, ?_⟩⟩
    have em : mbef y m.toNat = ((List.range (m - 1).toNat).map fun (i : Nat) => mlen y (1 + i)).sum := by
      unfold mbef
      rw [show m.toNat - 1 = (m - 1).toNat by omega]
    have kq := k H1 s1
    unfold dayN at kq
    rw [em] at kq
    exact kq
theorem ok_c_easter {P : Program} {w : World} {K : PySem.W.Frag} {mg : Str → Option Value} {base : Heap} {a : Ad} (T : Txt K mg a) : FnOk P w K mg base (L2.CX P w) 6 a.f_c_easter a.d_c_easter ["year"] (sp_c_easter a.C_InvalidTime) := by
  have G_c_check_year : FnOk P w K mg base (L2.CX P w) 3 a.f_c_check_year a.d_c_check_year ["year"] (sp_c_check_year a.C_InvalidTime) := ok_c_check_year T
  have G_c_day_of : FnOk P w K mg base (L2.CX P w) 5 a.f_c_day_of a.d_c_day_of ["year", "month", "day"] (sp_c_day_of a.C_InvalidTime) := ok_c_day_of T
  refine T.F_c_easter.okX sc_c_easter (fun vs H Q E h => ?_) (fun cdv A outer s H vs Q E hr h => ?_)
  · rw [sp_c_easter_eq] at h
    walk_at "len"
  · rw [sp_c_easter_eq] at h
    obtain ⟨y, rfl, k0, k1⟩ := h
    refine ⟨_, (pss_cons (ps_expr (pe_callS G_c_check_year (hr.mono (by decide)) (by rfl) T.m_c_check_year T.F_c_check_year.kp T.b_c_check_year (fun σ => passAt (takes_of rfl rfl rfl rfl) σ) (pa_cons (pv 0) pa_nil)))
    (pss_cons (ps_set (i := 1) sc_c_easter.nd (by rfl) (Or.inl rfl) (pe_op op_mod (pv 0) pe_int))
    (pss_cons (ps_par (i := 2) (j := 3) (by rfl) sc_c_easter.nd (by rfl) (by rfl) (by decide) (by rfl) (by rfl) (pa_cons (pe_op op_fdiv (pv 0) pe_int) (pa_cons (pe_op op_mod (pv 0) pe_int) pa_nil)) (by rfl))
    (pss_cons (ps_set (i := 4) sc_c_easter.nd (by rfl) (Or.inl rfl) (pe_op op_fdiv (pe_op op_add (pe_op op_sub (pv 2) (pe_op op_fdiv (pe_op op_add (pv 2) pe_int) pe_int)) pe_int) pe_int))
    (pss_cons (ps_set (i := 5) sc_c_easter.nd (by rfl) (Or.inl rfl) (pe_op op_mod (pe_op op_add (pe_op op_sub (pe_op op_sub (pe_op op_add (pe_op op_mul pe_int (pv 1)) (pv 2)) (pe_op op_fdiv (pv 2) pe_int)) (pv 4)) pe_int) pe_int))
    (pss_cons (ps_set (i := 6) sc_c_easter.nd (by rfl) (Or.inl rfl) (pe_op op_mod (pe_op op_sub (pe_op op_sub (pe_op op_add (pe_op op_add pe_int (pe_op op_mul pe_int (pe_op op_mod (pv 2) pe_int))) (pe_op op_mul pe_int (pe_op op_fdiv (pv 3) pe_int))) (pv 5)) (pe_op op_mod (pv 3) pe_int)) pe_int))
    (pss_cons (ps_set (i := 7) sc_c_easter.nd (by rfl) (Or.inl rfl) (pe_op op_fdiv (pe_op op_add (pe_op op_add (pv 1) (pe_op op_mul pe_int (pv 5))) (pe_op op_mul pe_int (pv 6))) pe_int))
    (pss_cons (ps_set (i := 8) sc_c_easter.nd (by rfl) (Or.inl rfl) (pe_op op_add (pe_op op_sub (pe_op op_add (pv 5) (pv 6)) (pe_op op_mul pe_int (pv 7))) pe_int))
    (pss_one (ps_ret (pe_callS G_c_day_of (hr.mono (by decide)) (by rfl) T.m_c_day_of T.F_c_day_of.kp T.b_c_day_of (fun σ => passAt (takes_of rfl rfl rfl rfl) σ) (pa_cons (pv 0) (pa_cons (pe_op op_fdiv (pv 8) pe_int) (pa_cons (pe_op op_add (pe_op op_mod (pv 8) pe_int) pe_int) pa_nil)))))))))))))), ?_⟩
    have md : ∀ {i j : Int}, (0 : Int) < j → (0 : Int) < j := fun h => h
    refine ⟨_, rfl, sp_c_check_year_use ⟨y, rfl, fun z => k0 z, fun y0 y1 => ?_⟩⟩
    have k := k1 ⟨y0, y1⟩
    obtain ⟨e1, e2, _, _, _⟩ := easter_ok (y := y) ⟨y0, y1⟩
    refine ⟨_, rfl, _, _, rfl, rfl, (by show (0 : Int) < _; decide), ?_⟩
    refine ⟨_, rfl, _, _, rfl, rfl, ⟨by decide, by decide⟩, _, rfl, _, _, rfl, rfl, (by show (0 : Int) < _; decide), _, _, rfl, ?_⟩
    refine ⟨_, rfl, _, rfl, _, _, rfl, rfl, _, _, rfl, rfl, ⟨by decide, by decide⟩, _, _, rfl, rfl, _, _, rfl, rfl, _, _, rfl, rfl, ⟨by decide, by decide⟩, ?_⟩
    refine ⟨_, rfl, _, _, rfl, rfl, .inl ⟨by decide, by decide⟩, _, rfl, _, _, rfl, rfl, _, rfl, _, _, rfl, rfl, ⟨by decide, by decide⟩, _, _, rfl, rfl, _, rfl, _, _, rfl, rfl, _, _, rfl, rfl, _, _, rfl, rfl, (by show (0 : Int) < _; decide), ?_⟩
    refine ⟨_, rfl, _, _, rfl, rfl, (by show (0 : Int) < _; decide), _, _, rfl, rfl, .inl ⟨by decide, by decide⟩, _, _, rfl, rfl, ?_⟩
    refine ⟨_, rfl, _, _, rfl, rfl, ⟨by decide, by decide⟩, _, _, rfl, rfl, .inl ⟨by decide, by decide⟩, _, _, rfl, rfl, _, rfl, _, _, rfl, rfl, _, rfl, _, _, rfl, rfl, (by show (0 : Int) < _; decide), _, _, rfl, rfl, _, _, rfl, rfl, (by show (0 : Int) < _; decide), ?_⟩
    refine ⟨_, rfl, _, rfl, _, _, rfl, rfl, .inl ⟨by decide, by decide⟩, _, _, rfl, rfl, _, rfl, _, _, rfl, rfl, .inl ⟨by decide, by decide⟩, _, _, rfl, rfl, _, _, rfl, rfl, ⟨by decide, by decide⟩, ?_⟩
    refine ⟨_, rfl, _, rfl, _, _, rfl, rfl, _, rfl, _, _, rfl, rfl, .inl ⟨by decide, by decide⟩, _, _, rfl, rfl, _, _, rfl, rfl, ?_⟩
    refine ⟨_, rfl, _, rfl, _, _, rfl, rfl, ⟨by decide, by decide⟩, _, rfl, _, _, rfl, rfl, (by show (0 : Int) < _; decide), _, _, rfl, rfl, ?_⟩
    refine sp_c_day_of_use ⟨y, eC y / 31, eC y % 31 + 1, rfl, fun z => absurd e1 z, fun _ H' s' => ?_⟩
    rw [e2]
    exact k H' s'
theorem ok_c_check_day {P : Program} {w : World} {K : PySem.W.Frag} {mg : Str → Option Value} {base : Heap} {a : Ad} (T : Txt K mg a) : FnOk P w K mg base (L2.CX P w) 3 a.f_c_check_day a.d_c_check_day ["day"] (sp_c_check_day a.C_InvalidTime) := by
  have G_c_InvalidTime_init : FnOk P w K mg base (L2.CX P w) 1 a.f_c_InvalidTime_init a.d_c_InvalidTime_init ["self", "what"] (sp_exinit a.C_InvalidTime) := ok_c_InvalidTime_init T
  have G_c_days_before_year : FnOk P w K mg base (L2.CX P w) 1 a.f_c_days_before_year a.d_c_days_before_year ["year"] (sp_c_days_before_year) := ok_c_days_before_year T
  refine T.F_c_check_day.okX sc_c_check_day (fun vs H Q E h => ?_) (fun cdv A outer s H vs Q E hr h => ?_)
  · rw [sp_c_check_day_eq] at h
    walk_at "len"
  · rw [sp_c_check_day_eq] at h
    obtain ⟨n, rfl, k0, k1⟩ := h
    refine ⟨_, (pss_one (ps_if (pt_not (pt_chain op_le op_le (pe_un un_neg (pe_glob (v := .int 738885) (by rfl) T.m_DAYS_BEFORE ⟨_, rfl⟩)) (pv 0) (pe_op op_sub (pe_op op_sub (pe_call G_c_days_before_year (hr.mono (by decide)) (by rfl) T.m_c_days_before_year T.F_c_days_before_year.kp T.b_c_days_before_year .nil passL (pa_cons (pe_op op_add (pe_glob (v := .int 9999) (by rfl) T.m_LAST_YEAR ⟨_, rfl⟩) pe_int) pa_nil)) pe_int) (pe_glob (v := .int 738885) (by rfl) T.m_DAYS_BEFORE ⟨_, rfl⟩)))) (pss_one (ps_raise rfl (takes_of rfl rfl rfl rfl) (pmk_oex T.ox_InvalidTime T.in_InvalidTime T.ti_InvalidTime G_c_InvalidTime_init (hr.mono (by decide)) T.b_c_InvalidTime_init .nil passL (by rfl) T.m_InvalidTime (pa_cons pe_str pa_nil)))) pss_nil)), ?_⟩
    have bad : ¬ (-738885 ≤ n ∧ n ≤ dby 10000 - 1 - 738885) → (["day"] : List Str).length ≤ 1000 ∧ ∀ aa, H aa = none → sp_exinit a.C_InvalidTime (.ref aa :: ([.str "day"] ++ [])) (upd H aa (exo aa a.C_InvalidTime none))
        (fun v H2 => v = .non ∧ ∃ (d : Addr) (fs : List (Str × V)), H2 aa = some (exo aa a.C_InvalidTime (some d)) ∧ H2 d = some (exd d fs) ∧ H d = none ∧ E (.ref a.C_InvalidTime) (some d) (upd (del H2 aa) d (.xd fs))) (fun _ _ _ => False) :=
      fun z => ⟨by show 1 ≤ 1000; decide, raise_ok (k0 z) (by decide +kernel)⟩
    refine ⟨_, rfl, _, rfl, _, _, rfl, rfl, _, rfl, ?_⟩
    refine ite2 (fun c => ?_) (fun c => ?_)
    rotate_left
    · exact ⟨_, rfl, bad fun z => c (decide_eq_true z.1)⟩
    have c0 := of_decide_eq_true c
    refine ⟨_, _, rfl, rfl, sp_c_days_before_year_use ⟨9999 + 1, rfl, by decide, _, _, rfl, rfl, _, _, rfl, rfl, _, _, rfl, rfl, _, rfl, ?_⟩⟩
    refine ite2 (fun e => ?_) (fun e => ?_)
    · exact bad fun z => by
        have e' : (!decide (n ≤ dby 10000 - 1 - 738885)) = true := e
        rw [decide_eq_true z.2] at e'
        cases e'
    have c1 : n ≤ dby 10000 - 1 - 738885 := by
      have e' : ¬ (!decide (n ≤ dby 10000 - 1 - 738885)) = true := e
      simpa using e'
    exact k1 c0 c1
theorem ok_c_date_of {P : Program} {w : World} {K : PySem.W.Frag} {mg : Str → Option Value} {base : Heap} {a : Ad} (T : Txt K mg a) : FnOk P w K mg base (L2.CX P w) 5 a.f_c_date_of a.d_c_date_of ["day"] (sp_c_date_of a.C_InvalidTime) := by
  have G_c_check_day : FnOk P w K mg base (L2.CX P w) 3 a.f_c_check_day a.d_c_check_day ["day"] (sp_c_check_day a.C_InvalidTime) := ok_c_check_day T
  have G_c_days_before_year : FnOk P w K mg base (L2.CX P w) 1 a.f_c_days_before_year a.d_c_days_before_year ["year"] (sp_c_days_before_year) := ok_c_days_before_year T
  have G_c_month_length : FnOk P w K mg base (L2.CX P w) 4 a.f_c_month_length a.d_c_month_length ["year", "month"] (sp_c_month_length a.C_InvalidTime) := ok_c_month_length T
  refine T.F_c_date_of.okX sc_c_date_of (fun vs H Q E h => ?_) (fun cdv A outer s H vs Q E hr h => ?_)
  · rw [sp_c_date_of_eq] at h
    walk_at "len"
  · rw [sp_c_date_of_eq] at h
    obtain ⟨n, rfl, k0, k1⟩ := h
    refine ⟨_, (pss_cons (ps_expr (pe_callS G_c_check_day (hr.mono (by decide)) (by rfl) T.m_c_check_day T.F_c_check_day.kp T.b_c_check_day (fun σ => passAt (takes_of rfl rfl rfl rfl) σ) (pa_cons (pv 0) pa_nil)))
    (pss_cons (ps_set (i := 1) sc_c_date_of.nd (by rfl) (Or.inl rfl) (pe_op op_add (pv 0) (pe_glob (v := .int 738885) (by rfl) T.m_DAYS_BEFORE ⟨_, rfl⟩)))
    (pss_cons (ps_set (i := 2) sc_c_date_of.nd (by rfl) (Or.inl rfl) (pe_callB (call_max2 rfl) (by rfl) T.n_max (by decide +kernel) (pa_cons pe_int (pa_cons (pe_op op_fdiv (pe_op op_mul (pv 1) pe_int) pe_int) pa_nil))))
    (pss_cons (ps_while (passes_of rfl) (pt_cmpR op_le (pe_call G_c_days_before_year (hr.mono (by decide)) (by rfl) T.m_c_days_before_year T.F_c_days_before_year.kp T.b_c_days_before_year .nil passL (pa_cons (pe_op op_add (pv 2) pe_int) pa_nil)) (pv 1) (nomark _)) (pss_one (ps_aug (i := 2) sc_c_date_of.nd (by rfl) (Or.inl rfl) pe_int ip_add)))
    (pss_cons (ps_while (passes_of rfl) (pt_cmpR op_gt (pe_call G_c_days_before_year (hr.mono (by decide)) (by rfl) T.m_c_days_before_year T.F_c_days_before_year.kp T.b_c_days_before_year .nil passL (pa_cons (pv 2) pa_nil)) (pv 1) (nomark _)) (pss_one (ps_aug (i := 2) sc_c_date_of.nd (by rfl) (Or.inl rfl) pe_int ip_sub)))
    (pss_cons (ps_set (i := 3) sc_c_date_of.nd (by rfl) (Or.inl rfl) (pe_op op_sub (pv 1) (pe_call G_c_days_before_year (hr.mono (by decide)) (by rfl) T.m_c_days_before_year T.F_c_days_before_year.kp T.b_c_days_before_year .nil passL (pa_cons (pv 2) pa_nil))))
    (pss_cons (ps_set (i := 4) sc_c_date_of.nd (by rfl) (Or.inl rfl) pe_int)
    (pss_cons (ps_while (passes_of rfl) (pt_cmpR op_ge (pv 3) (pe_callS G_c_month_length (hr.mono (by decide)) (by rfl) T.m_c_month_length T.F_c_month_length.kp T.b_c_month_length (fun σ => passAt (takes_of rfl rfl rfl rfl) σ) (pa_cons (pv 2) (pa_cons (pv 4) pa_nil))) (nomark _)) (pss_cons (ps_aug (i := 3) sc_c_date_of.nd (by rfl) (Or.inl rfl) (pe_callS G_c_month_length (hr.mono (by decide)) (by rfl) T.m_c_month_length T.F_c_month_length.kp T.b_c_month_length (fun σ => passAt (takes_of rfl rfl rfl rfl) σ) (pa_cons (pv 2) (pa_cons (pv 4) pa_nil))) ip_sub)
    (pss_one (ps_aug (i := 4) sc_c_date_of.nd (by rfl) (Or.inl rfl) pe_int ip_add))))
    (pss_one (ps_ret (pe_tup (pa_cons (pv 2) (pa_cons (pv 4) (pa_cons (pe_op op_add (pv 3) pe_int) pa_nil)))))))))))))), ?_⟩
    refine ⟨_, rfl, sp_c_check_day_use ⟨n, rfl, k0, fun n0 n1 => ?_⟩⟩
    obtain ⟨Y, M, dd, ⟨⟨Y0, Y1, M0, M1⟩, D0, D1⟩, hn, k⟩ := k1 n0 n1
    have hb : ∀ a : Int, 1 ≤ a → a < M → mbef Y a.toNat + mlen Y a ≤ mbef Y M.toNat := fun a h1 h2 => by
      rw [← mbef_step h1]
      exact mbef_mono (by omega) (by omega) (by omega)
    have hM0 : 0 ≤ mbef Y M.toNat := by
      have := mbef_mono (y := Y) (a := 1) (b := M) (by decide) (by omega) (by omega)
      have e : mbef Y (1 : Int).toNat = 0 := rfl
      omega
    have hM1 : mbef Y M.toNat + mlen Y M ≤ mbef Y 13 := by
      rw [← mbef_step M0]
      exact mbef_mono (b := 13) (by omega) (by omega) (by decide)
    unfold dayN at hn
    have hys := year_step (y := Y)
    have hhi : n + 738885 < dby (Y + 1) := by omega
    have hlo : dby Y ≤ n + 738885 := by omega
    have h10 : dby 10000 < 4000000 := by decide
    refine ⟨_, rfl, _, _, rfl, rfl, ?_⟩
    refine ⟨_, rfl, _, _, rfl, rfl, .inr ⟨by decide, by decide⟩, _, _, rfl, rfl, ⟨by decide, by decide⟩, _, _, rfl, ?_⟩
    refine ⟨fun q σ H' => ∃ yr : Int, σ = [some (.int n), some (.int (n + 738885)), some (.int yr), none, none] ∧ H' = H ∧ 1 ≤ yr ∧ yr ≤ 20000 ∧ q = (Y - yr).toNat, ⟨_, _, rfl, rfl, ?_, ?_, rfl⟩, ?_⟩
    · split <;> omega
    · split <;> omega
    rintro q σ H' ⟨yr, rfl, rfl, y0, y1, rfl⟩
    refine ⟨_, rfl, _, _, rfl, rfl, sp_c_days_before_year_use ⟨yr + 1, rfl, by omega, _, rfl, _, _, rfl, rfl, _, rfl, ?_⟩⟩
    refine ite2 (fun c => ?_) (fun c => ?_)
    · have c' := of_decide_eq_true c
      have hlt : yr < Y := by
        refine Int.not_le.mp fun z => ?_
        have := dby_mono (a := Y + 1) (b := yr + 1) (by omega)
        omega
      refine ⟨_, fun _ _ h => h, ?_⟩
      refine ⟨_, rfl, _, _, rfl, rfl, ?_⟩
      exact ⟨_, by omega, yr + 1, rfl, rfl, by omega, by omega, rfl⟩
    have c' : ¬ dby (yr + 1) ≤ n + 738885 := fun z => c (decide_eq_true z)
    have hge : Y ≤ yr := by
      refine Int.not_lt.mp fun z => ?_
      have := dby_mono (a := yr + 1) (b := Y) (by omega)
      omega
    refine ⟨fun q σ H2 => ∃ yr : Int, σ = [some (.int n), some (.int (n + 738885)), some (.int yr), none, none] ∧ H2 = H' ∧ Y ≤ yr ∧ yr ≤ 20000 ∧ q = (yr - Y).toNat, ⟨_, _, rfl, rfl, hge, y1, rfl⟩, ?_⟩
    rintro q σ H2 ⟨yr2, rfl, rfl, z0, z1, rfl⟩
    refine ⟨_, rfl, sp_c_days_before_year_use ⟨yr2, rfl, by omega, _, rfl, _, _, rfl, rfl, _, rfl, ?_⟩⟩
    refine ite2 (fun d => ?_) (fun d => ?_)
    · have d' := of_decide_eq_true d
      have hlt : Y < yr2 := by
        refine Int.not_le.mp fun z => ?_
        have e : yr2 = Y := by omega
        subst e
        omega
      refine ⟨_, fun _ _ h => h, ?_⟩
      refine ⟨_, rfl, _, _, rfl, rfl, ?_⟩
      exact ⟨_, by omega, yr2 - 1, rfl, rfl, by omega, by omega, rfl⟩
    have d' : ¬ dby yr2 > n + 738885 := fun z => d (decide_eq_true z)
    have hY : yr2 = Y := by
      refine Int.le_antisymm (Int.not_lt.mp fun z => ?_) z0
      have := dby_mono (a := Y + 1) (b := yr2) (by omega)
      omega
    subst hY
    refine ⟨_, rfl, _, rfl, sp_c_days_before_year_use ⟨yr2, rfl, by omega, _, _, rfl, rfl, ?_⟩⟩
    have e1 : mbef yr2 (1 : Int).toNat = 0 := rfl
    refine ⟨fun q σ H3 => ∃ mo r : Int, σ = [some (.int n), some (.int (n + 738885)), some (.int yr2), some (.int r), some (.int mo)] ∧ H3 = H2 ∧ 1 ≤ mo ∧ mo ≤ M ∧ r = mbef yr2 M.toNat - mbef yr2 mo.toNat + dd - 1 ∧ q = (M - mo).toNat, ⟨_, 1, _, rfl, rfl, by decide, M0, by omega, rfl⟩, ?_⟩
    rintro q σ H3 ⟨mo, r, rfl, rfl, u0, u1, hr', rfl⟩
    have hst := mbef_step (y := yr2) (m := mo) u0
    refine ⟨_, rfl, _, rfl, _, rfl, sp_c_month_length_use ⟨yr2, mo, rfl, fun z => absurd ⟨Y0, Y1, u0, by omega⟩ z, fun _ => ⟨_, _, rfl, rfl, _, rfl, ?_⟩⟩⟩
    refine ite2 (fun f => ?_) (fun f => ?_)
    · have f' := of_decide_eq_true f
      have hlt : mo < M := by
        refine Int.not_le.mp fun z => ?_
        have e : mo = M := by omega
        subst e
        omega
      refine ⟨_, fun _ _ h => h, ?_⟩
      refine ⟨_, rfl, _, rfl, _, rfl, sp_c_month_length_use ⟨yr2, mo, rfl, fun z => absurd ⟨Y0, Y1, u0, by omega⟩ z, fun _ => ?_⟩⟩
      refine ⟨_, _, rfl, rfl, ?_⟩
      refine ⟨_, rfl, _, _, rfl, rfl, ?_⟩
      exact ⟨_, by omega, mo + 1, r - mlen yr2 mo, rfl, rfl, by omega, by omega, by rw [hst]; omega, rfl⟩
    have f' : ¬ mlen yr2 mo ≤ r := fun z => f (decide_eq_true z)
    have hM : mo = M := by
      refine Int.le_antisymm u1 (Int.not_lt.mp fun z => ?_)
      have := hb mo u0 z
      omega
    subst hM
    refine ⟨_, rfl, _, rfl, _, rfl, _, _, rfl, rfl, by show 3 ≤ sizeLine; decide, fun p hp => ?_⟩
    have kp := k p hp
    rw [show dd = r + 1 by omega] at kp
    exact kp
theorem ok_c_moved_months {P : Program} {w : World} {K : PySem.W.Frag} {mg : Str → Option Value} {base : Heap} {a : Ad} (T : Txt K mg a) : FnOk P w K mg base (L2.CX P w) 6 a.f_c_moved_months a.d_c_moved_months ["day", "months"] (sp_c_moved_months a.C_InvalidTime) := by
  have G_c_check_year : FnOk P w K mg base (L2.CX P w) 3 a.f_c_check_year a.d_c_check_year ["year"] (sp_c_check_year a.C_InvalidTime) := ok_c_check_year T
  have G_c_date_of : FnOk P w K mg base (L2.CX P w) 5 a.f_c_date_of a.d_c_date_of ["day"] (sp_c_date_of a.C_InvalidTime) := ok_c_date_of T
  have G_c_day_of : FnOk P w K mg base (L2.CX P w) 5 a.f_c_day_of a.d_c_day_of ["year", "month", "day"] (sp_c_day_of a.C_InvalidTime) := ok_c_day_of T
  have G_c_month_length : FnOk P w K mg base (L2.CX P w) 4 a.f_c_month_length a.d_c_month_length ["year", "month"] (sp_c_month_length a.C_InvalidTime) := ok_c_month_length T
  refine T.F_c_moved_months.okX sc_c_moved_months (fun vs H Q E h => ?_) (fun cdv A outer s H vs Q E hr h => ?_)
  · rw [sp_c_moved_months_eq] at h
    walk_at "len"
  · rw [sp_c_moved_months_eq] at h
    obtain ⟨n, k, y, m, d, rfl, k0, k1⟩ := h
    refine ⟨_, (pss_cons (ps_asg (pe_callS G_c_date_of (hr.mono (by decide)) (by rfl) T.m_c_date_of T.F_c_date_of.kp T.b_c_date_of (fun σ => passAt (takes_of rfl rfl rfl rfl) σ) (pa_cons (pv 0) pa_nil)) (pg_tup (n := 3) (by rfl) (pgs_cons (pg_name (i := 2) sc_c_moved_months.nd (by rfl) (Or.inl rfl)) (pgs_cons (pg_name (i := 3) sc_c_moved_months.nd (by rfl) (Or.inl rfl)) (pgs_cons (pg_name (i := 4) sc_c_moved_months.nd (by rfl) (Or.inl rfl)) pgs_nil)))))
    (pss_cons (ps_set (i := 5) sc_c_moved_months.nd (by rfl) (Or.inl rfl) (pe_op op_add (pe_op op_sub (pe_op op_add (pe_op op_mul pe_int (pv 2)) (pv 3)) pe_int) (pv 1)))
    (pss_cons (ps_expr (pe_callS G_c_check_year (hr.mono (by decide)) (by rfl) T.m_c_check_year T.F_c_check_year.kp T.b_c_check_year (fun σ => passAt (takes_of rfl rfl rfl rfl) σ) (pa_cons (pe_op op_fdiv (pv 5) pe_int) pa_nil)))
    (pss_cons (ps_par (i := 2) (j := 3) (by rfl) sc_c_moved_months.nd (by rfl) (by rfl) (by decide) (by rfl) (by rfl) (pa_cons (pe_op op_fdiv (pv 5) pe_int) (pa_cons (pe_op op_add (pe_op op_mod (pv 5) pe_int) pe_int) pa_nil)) (by rfl))
    (pss_one (ps_ret (pe_callS G_c_day_of (hr.mono (by decide)) (by rfl) T.m_c_day_of T.F_c_day_of.kp T.b_c_day_of (fun σ => passAt (takes_of rfl rfl rfl rfl) σ) (pa_cons (pv 2) (pa_cons (pv 3) (pa_cons (pe_callB (call_min2 rfl) (by rfl) T.n_min (by decide +kernel) (pa_cons (pv 4) (pa_cons (pe_callS G_c_month_length (hr.mono (by decide)) (by rfl) T.m_c_month_length T.F_c_month_length.kp T.b_c_month_length (fun σ => passAt (takes_of rfl rfl rfl rfl) σ) (pa_cons (pv 2) (pa_cons (pv 3) pa_nil))) pa_nil))) pa_nil)))))))))), ?_⟩
    refine ⟨_, rfl, sp_c_date_of_use ⟨n, rfl, fun z => k0 z, fun n0 n1 => ?_⟩⟩
    obtain ⟨ok, hn, kd, kk⟩ := k1 ⟨n0, n1⟩
    refine ⟨y, m, d, ok, hn, fun q hq => ?_⟩
    have s1 := Same.new (o := .tup [.int y, .int m, .int d]) hq
    refine ⟨q, _, rfl, SqT.of upd_same, rfl, _, _, rfl, _, _, rfl, _, _, rfl, rfl, ?_⟩
    refine ⟨_, rfl, _, _, rfl, rfl, .inl ⟨by decide, by decide⟩, _, rfl, _, _, rfl, rfl, _, _, rfl, rfl, _, rfl, _, _, rfl, rfl, ?_⟩
    refine ⟨_, rfl, _, _, rfl, rfl, ⟨by decide, by decide⟩, sp_c_check_year_use ⟨_, rfl, fun z => (kd z).mono s1, fun c1 c2 => ?_⟩⟩
    refine ⟨_, rfl, _, _, rfl, rfl, ⟨by decide, by decide⟩, _, rfl, _, _, rfl, rfl, (by show (0 : Int) < _; decide), _, _, rfl, rfl, _, _, rfl, ?_⟩
    have mok := mv_ok ok ⟨c1, c2⟩
    refine ⟨_, rfl, _, rfl, _, rfl, _, rfl, _, rfl, sp_c_month_length_use ⟨_, _, rfl, fun z => absurd mok.1 z, fun _ => ?_⟩⟩
    refine ⟨_, _, rfl, ?_⟩
    refine sp_c_day_of_use ⟨_, _, _, rfl, fun z => ?_, fun _ H' s' => ?_⟩
    · rw [ite_min] at z
      exact absurd mok z
    · have := kk ⟨c1, c2⟩ H' (s1.trans s')
      rw [ite_min]
      exact this
theorem ok_c_weekday {P : Program} {w : World} {K : PySem.W.Frag} {mg : Str → Option Value} {base : Heap} {a : Ad} (T : Txt K mg a) : FnOk P w K mg base (L2.CX P w) 1 a.f_c_weekday a.d_c_weekday ["day"] (sp_c_weekday) := by
  refine T.F_c_weekday.okX sc_c_weekday (fun vs H Q E h => ?_) (fun cdv A outer s H vs Q E hr h => ?_)
  · rw [sp_c_weekday_eq] at h
    walk_at "len"
  · rw [sp_c_weekday_eq] at h
    obtain ⟨n, rfl, k⟩ := h
    refine ⟨_, (pss_one (ps_ret (pe_op op_mod (pv 0) pe_int))), ?_⟩
    exact ⟨_, rfl, _, _, rfl, rfl, (by show (0 : Int) < 7; decide), k⟩
theorem ok_c_week_of {P : Program} {w : World} {K : PySem.W.Frag} {mg : Str → Option Value} {base : Heap} {a : Ad} (T : Txt K mg a) : FnOk P w K mg base (L2.CX P w) 6 a.f_c_week_of a.d_c_week_of ["day"] (sp_c_week_of a.C_InvalidTime) := by
  have G_c_check_day : FnOk P w K mg base (L2.CX P w) 3 a.f_c_check_day a.d_c_check_day ["day"] (sp_c_check_day a.C_InvalidTime) := ok_c_check_day T
  have G_c_date_of : FnOk P w K mg base (L2.CX P w) 5 a.f_c_date_of a.d_c_date_of ["day"] (sp_c_date_of a.C_InvalidTime) := ok_c_date_of T
  have G_c_day_of : FnOk P w K mg base (L2.CX P w) 5 a.f_c_day_of a.d_c_day_of ["year", "month", "day"] (sp_c_day_of a.C_InvalidTime) := ok_c_day_of T
  have G_c_weekday : FnOk P w K mg base (L2.CX P w) 1 a.f_c_weekday a.d_c_weekday ["day"] (sp_c_weekday) := ok_c_weekday T
  refine T.F_c_week_of.okX sc_c_week_of (fun vs H Q E h => ?_) (fun cdv A outer s H vs Q E hr h => ?_)
  · rw [sp_c_week_of_eq] at h
    walk_at "len"
  · rw [sp_c_week_of_eq] at h
    obtain ⟨n, Y, rfl, k0, k1⟩ := h
    refine ⟨_, (pss_cons (ps_expr (pe_callS G_c_check_day (hr.mono (by decide)) (by rfl) T.m_c_check_day T.F_c_check_day.kp T.b_c_check_day (fun σ => passAt (takes_of rfl rfl rfl rfl) σ) (pa_cons (pv 0) pa_nil)))
    (pss_cons (ps_set (i := 1) sc_c_week_of.nd (by rfl) (Or.inl rfl) (pe_op op_add (pe_op op_sub (pv 0) (pe_call G_c_weekday (hr.mono (by decide)) (by rfl) T.m_c_weekday T.F_c_weekday.kp T.b_c_weekday .nil passL (pa_cons (pv 0) pa_nil))) pe_int))
    (pss_cons (ps_set (i := 2) sc_c_week_of.nd (by rfl) (Or.inl rfl) (pe_ix ix_tup (pe_callS G_c_date_of (hr.mono (by decide)) (by rfl) T.m_c_date_of T.F_c_date_of.kp T.b_c_date_of (fun σ => passAt (takes_of rfl rfl rfl rfl) σ) (pa_cons (pv 1) pa_nil)) pe_int (fun _ _ => rfl)))
    (pss_one (ps_ret (pe_tup (pa_cons (pv 2) (pa_cons (pe_op op_add (pe_op op_fdiv (pe_op op_sub (pv 1) (pe_callS G_c_day_of (hr.mono (by decide)) (by rfl) T.m_c_day_of T.F_c_day_of.kp T.b_c_day_of (fun σ => passAt (takes_of rfl rfl rfl rfl) σ) (pa_cons (pv 2) (pa_cons pe_int (pa_cons pe_int pa_nil))))) pe_int) pe_int) pa_nil)))))))), ?_⟩
    refine ⟨_, rfl, sp_c_check_day_use ⟨n, rfl, fun z => k0 z, fun n0 n1 => ?_⟩⟩
    obtain ⟨hY, h1, h2, k⟩ := k1 ⟨n0, n1⟩
    have hlast : dby 10000 = 3652059 := by decide
    have r0 : -738885 ≤ n - n % 7 + 3 := by omega
    have r1 : n - n % 7 + 3 ≤ dby 10000 - 1 - 738885 := by omega
    obtain ⟨y3, m3, d3, ok3, hN3⟩ := date_ex r0 r1
    obtain ⟨i1, i2⟩ := in_year ok3
    have eY : y3 = Y := year_uniq (c := n - n % 7 + 3 + 738885) (by omega) (by omega) h1 h2
    subst eY
    have okF : okD8 y3 1 1 := ⟨⟨hY.1, hY.2, by decide, by decide⟩, by decide, by have := mlen_bounds (y := y3) (m := 1) (by decide) (by decide); omega⟩
    refine ⟨_, rfl, _, rfl, sp_c_weekday_use ⟨n, rfl, _, _, rfl, rfl, _, _, rfl, rfl, ?_⟩⟩
    refine ⟨_, rfl, sp_c_date_of_use ⟨_, rfl, fun z => absurd ⟨r0, r1⟩ z, fun _ _ => ⟨y3, m3, d3, ok3, hN3, fun q hq => ?_⟩⟩⟩
    refine ⟨q, _, _, _, rfl, rfl, SqT.of upd_same, rfl, ?_⟩
    refine ⟨_, rfl, _, rfl, _, rfl, sp_c_day_of_use ⟨y3, 1, 1, rfl, fun z => absurd okF z, fun _ H' s' => ?_⟩⟩
    refine ⟨_, _, rfl, rfl, _, _, rfl, rfl, ⟨by decide, by decide⟩, _, _, rfl, rfl, by show 2 ≤ sizeLine; decide, fun p hp => ?_⟩
    exact k _ p (((Same.new hq).trans s').trans (Same.new hp)) upd_same
theorem ok_c_weekday_in_month {P : Program} {w : World} {K : PySem.W.Frag} {mg : Str → Option Value} {base : Heap} {a : Ad} (T : Txt K mg a) : FnOk P w K mg base (L2.CX P w) 6 a.f_c_weekday_in_month a.d_c_weekday_in_month ["year", "month", "which", "number"] (sp_c_weekday_in_month a.C_InvalidTime) := by
  have G_c_InvalidTime_init : FnOk P w K mg base (L2.CX P w) 1 a.f_c_InvalidTime_init a.d_c_InvalidTime_init ["self", "what"] (sp_exinit a.C_InvalidTime) := ok_c_InvalidTime_init T
  have G_c_day_of : FnOk P w K mg base (L2.CX P w) 5 a.f_c_day_of a.d_c_day_of ["year", "month", "day"] (sp_c_day_of a.C_InvalidTime) := ok_c_day_of T
  have G_c_month_length : FnOk P w K mg base (L2.CX P w) 4 a.f_c_month_length a.d_c_month_length ["year", "month"] (sp_c_month_length a.C_InvalidTime) := ok_c_month_length T
  have G_c_weekday : FnOk P w K mg base (L2.CX P w) 1 a.f_c_weekday a.d_c_weekday ["day"] (sp_c_weekday) := ok_c_weekday T
  refine T.F_c_weekday_in_month.okX sc_c_weekday_in_month (fun vs H Q E h => ?_) (fun cdv A outer s H vs Q E hr h => ?_)
  · rw [sp_c_weekday_in_month_eq] at h
    walk_at "len"
  · rw [sp_c_weekday_in_month_eq] at h
    obtain ⟨y, m, w, k, rfl, k0, k1, k2⟩ := h
    refine ⟨_, (pss_cons (ps_set (i := 4) sc_c_weekday_in_month.nd (by rfl) (Or.inl rfl) (pe_callS G_c_month_length (hr.mono (by decide)) (by rfl) T.m_c_month_length T.F_c_month_length.kp T.b_c_month_length (fun σ => passAt (takes_of rfl rfl rfl rfl) σ) (pa_cons (pv 0) (pa_cons (pv 1) pa_nil))))
    (pss_cons (ps_if (PW.pt (pw_or (pt_not (pt_chain op_le op_le pe_int (pv 2) pe_int)) (pw_or1 (pt_cmpR op_eq (pv 3) pe_int (nomark _))))) (pss_one (ps_raise rfl (takes_of rfl rfl rfl rfl) (pmk_oex T.ox_InvalidTime T.in_InvalidTime T.ti_InvalidTime G_c_InvalidTime_init (hr.mono (by decide)) T.b_c_InvalidTime_init .nil passL (by rfl) T.m_InvalidTime (pa_cons pe_str pa_nil)))) pss_nil)
    (pss_cons (ps_set (i := 5) sc_c_weekday_in_month.nd (by rfl) (Or.inr rfl) (pe_callS G_c_day_of (hr.mono (by decide)) (by rfl) T.m_c_day_of T.F_c_day_of.kp T.b_c_day_of (fun σ => passAt (takes_of rfl rfl rfl rfl) σ) (pa_cons (pv 0) (pa_cons (pv 1) (pa_cons pe_int pa_nil)))))
    (pss_cons (ps_setLcK (i := 6) (own := [("at", 7)]) (by rfl) sc_c_weekday_in_month.nd (by rfl) (by rfl) (sw_true rfl rfl rfl (by decide +kernel)) (pi_range1 (by rfl) T.n_range (pa_cons (pv 4) pa_nil)) (blkOk_by (own := [("at", 7)]) (N := ["year", "month", "which", "number", "length", "first", "found", "at"]) (sc := defScope st_c_weekday_in_month) (by decide +kernel)) (fun _ _ _ _ _ => (pg_name (i := 7) sc_c_weekday_in_month.nd (by rfl) (by first | exact Or.inl rfl | exact Or.inr rfl))) (fun _ _ _ _ _ => (pts_one (pt_cmpR op_eq (pe_call G_c_weekday (hr.mono (by decide)) (by rfl) T.m_c_weekday T.F_c_weekday.kp T.b_c_weekday .nil passL (pa_cons (pe_op op_add (pv 5) (pv 7)) pa_nil)) (pv 2) (nomark _)))) (fun _ _ _ _ _ => (pe_op op_add (pv 5) (pv 7))) (by walk_at "blk") (by walk_at "blk") (by walk_at "blk"))
    (pss_cons (ps_if (pt_not (pt_chain op_le op_le (pe_un un_neg (pe_callB call_len_seq (by rfl) T.n_len (by decide +kernel) (pa_cons (pv 6) pa_nil))) (pv 3) (pe_callB call_len_seq (by rfl) T.n_len (by decide +kernel) (pa_cons (pv 6) pa_nil)))) (pss_one (ps_raise rfl (takes_of rfl rfl rfl rfl) (pmk_oex T.ox_InvalidTime T.in_InvalidTime T.ti_InvalidTime G_c_InvalidTime_init (hr.mono (by decide)) T.b_c_InvalidTime_init .nil passL (by rfl) T.m_InvalidTime (pa_cons pe_str pa_nil)))) pss_nil)
    (pss_cons (ps_if (pt_cmpR op_gt (pv 3) pe_int (nomark _)) (pss_one (ps_ret (pe_ix ix_list (pv 6) (pe_op op_sub (pv 3) pe_int) (fun _ _ => rfl)))) pss_nil)
    (pss_one (ps_ret (pe_ix ix_list (pv 6) (pv 3) (fun _ _ => rfl)))))))))), ?_⟩
    refine ⟨_, rfl, _, rfl, sp_c_month_length_use ⟨y, m, rfl, fun z => k0 z, fun ok => ?_⟩⟩
    have k1 := k1 ok
    have k2 := k2 ok
    obtain ⟨y0, y1, m0, m1⟩ := id ok
    have hb := mlen_bounds (y := y) m0 m1
    have okF : okD8 y m 1 := ⟨ok, by decide, by omega⟩
    have bad : ∀ H2, Same H H2 → ¬ okW y m w k → (["weekday"] : List Str).length ≤ 1000 ∧ ∀ aa, H2 aa = none → sp_exinit a.C_InvalidTime (.ref aa :: ([.str "weekday"] ++ [])) (upd H2 aa (exo aa a.C_InvalidTime none))
        (fun v H3 => v = .non ∧ ∃ (d : Addr) (fs : List (Str × V)), H3 aa = some (exo aa a.C_InvalidTime (some d)) ∧ H3 d = some (exd d fs) ∧ H2 d = none ∧ E (.ref a.C_InvalidTime) (some d) (upd (del H3 aa) d (.xd fs))) (fun _ _ _ => False) :=
      fun H2 s2 z => ⟨by show 1 ≤ 1000; decide, raise_ok ((k1 z).mono s2) (by decide +kernel)⟩
    refine ⟨_, rfl, _, _, rfl, rfl, _, rfl, ?_⟩
    refine ite2 (fun c => ?_) (fun c => ?_)
    rotate_left
    · refine ⟨_, rfl, ?_⟩
      refine iteT ?_
      exact bad H (Same.refl _) fun z => c (decide_eq_true z.1)
    have c0 : 0 ≤ w := of_decide_eq_true c
    refine ⟨_, _, rfl, rfl, _, rfl, ?_⟩
    refine ite2 (fun c => ?_) (fun c => ?_)
    · exact bad H (Same.refl _) fun z => by
        have z' : (!decide (w ≤ 6)) = true := c
        rw [decide_eq_true z.2.1] at z'
        cases z'
    have c1 : w ≤ 6 := by
      have z' : ¬ (!decide (w ≤ 6)) = true := c
      simpa using z'
    refine ⟨_, rfl, rfl, _, rfl, ?_⟩
    refine ite2 (fun c => ?_) (fun c => ?_)
    · have c' : k = 0 := V.int.inj (of_decide_eq_true c)
      exact bad H (Same.refl _) fun z => z.2.2.1 c'
    have ck : ¬ k = 0 := fun z => c (decide_eq_true (congrArg V.int z))
    refine ⟨_, rfl, _, rfl, sp_c_day_of_use ⟨y, m, 1, rfl, fun z => absurd okF z, fun _ H1 s1 => ?_⟩⟩
    generalize hF : dayN y m 1 = F at *
    refine ⟨_, rfl, _, rfl, by omega, by omega, fun E1 hE1 => ?_⟩
    refine lc_fn (walk_range (lo := 0) (n := (mlen y m).toNat)) (fun i => if (F + (i : Nat)) % 7 = w then some (.int (F + (i : Nat))) else none) (by omega) hE1 (fun _ _ => trivial) ?_ ?_
    · rintro i x H2 H3 R N hi s2 ⟨rfl, hx⟩ hR hN
      have hx2 : x = V.int (i : Nat) := by rw [hx]; show V.int (0 + (i : Int)) = _; rw [Int.zero_add]
      subst hx2
      refine ⟨rfl, ?_⟩
      refine ⟨_, rfl, _, rfl, _, _, rfl, rfl, sp_c_weekday_use ⟨F + i, rfl, ?_⟩⟩
      refine ⟨_, rfl, rfl, _, rfl, ?_⟩
      refine ite2 (fun c => ?_) (fun c => ?_)
      · have c' : (F + i) % 7 = w := V.int.inj (of_decide_eq_true c)
        exact ⟨_, rfl, _, rfl, _, _, rfl, rfl, hR _ _ (by rw [if_pos c']) (Same.refl _)⟩
      · have c' : ¬ (F + i) % 7 = w := fun z => c (decide_eq_true (congrArg V.int z))
        exact hN _ (by rw [if_neg c']) (Same.refl _)
    intro H2 s2 hE
    rw [FM_v] at hE
    have okd : okW y m w k ↔ 0 ≤ w ∧ w ≤ 6 ∧ k ≠ 0 ∧ -((FM F (mlen y m).toNat w).length : Int) ≤ k ∧ k ≤ ((FM F (mlen y m).toNat w).length : Int) := by unfold okW; rw [hF]
    generalize FM F (mlen y m).toNat w = fs at *
    have el : (fs.map V.int).length = fs.length := List.length_map _
    refine ⟨_, rfl, E1, _, rfl, .inl (SqL.of hE), _, rfl, _, rfl, _, _, rfl, rfl, _, rfl, ?_⟩
    rw [el]
    refine ite2 (fun c => ?_) (fun c => ?_)
    rotate_left
    · exact ⟨_, rfl, bad H2 (s1.trans s2) fun z => c (decide_eq_true (okd.mp z).2.2.2.1)⟩
    have c2 : -(fs.length : Int) ≤ k := of_decide_eq_true c
    refine ⟨_, rfl, E1, _, rfl, .inl (SqL.of hE), _, _, rfl, rfl, _, rfl, ?_⟩
    rw [el]
    refine ite2 (fun c => ?_) (fun c => ?_)
    · exact bad H2 (s1.trans s2) fun z => by
        have z' : (!decide (k ≤ (fs.length : Int))) = true := c
        rw [decide_eq_true (okd.mp z).2.2.2.2] at z'
        cases z'
    have c3 : k ≤ (fs.length : Int) := by
      have z' : ¬ (!decide (k ≤ (fs.length : Int))) = true := c
      simpa using z'
    have kq := k2 (okd.mpr ⟨c0, c1, ck, c2, c3⟩) H2 (s1.trans s2)
    unfold wIx at kq
    have at1 : ∀ i : Nat, i < fs.length → (fs.map V.int)[i]? = some (.int (fs.getD i 0)) := fun i hi => by
      rw [List.getElem?_map, List.getD_eq_getElem?_getD, List.getElem?_eq_getElem hi]
      rfl
    refine ⟨_, rfl, _, _, rfl, rfl, _, rfl, ?_⟩
    refine ite2 (fun c => ?_) (fun c => ?_)
    · have c' : k > 0 := of_decide_eq_true c
      rw [if_pos c'] at kq
      refine ⟨_, rfl, _, rfl, _, _, rfl, rfl, E1, _, _, _, rfl, rfl, SqL.of hE, atI_nat' (j := (k - 1).toNat) (by omega) (at1 _ (by omega)), kq⟩
    · have c' : ¬ k > 0 := fun z => c (decide_eq_true z)
      rw [if_neg c'] at kq
      refine ⟨_, rfl, _, rfl, E1, _, _, _, rfl, rfl, SqL.of hE, ?_, kq⟩
      unfold atI ixN
      rw [if_neg (by omega), el, if_pos (by omega)]
      show (fs.map V.int)[(k + (fs.length : Int)).toNat]? = _
      rw [show (k + (fs.length : Int)).toNat = ((fs.length : Int) + k).toNat by omega]
      exact at1 _ (by omega)
theorem ok_c_law_why {P : Program} {w : World} {K : PySem.W.Frag} {mg : Str → Option Value} {base : Heap} {a : Ad} (T : Txt K mg a) : FnOk P w K mg base (L2.CX P w) 7 a.f_c_law_why a.d_c_law_why ["ask", "one", "two", "three", "four"] (sp_c_law_why) := by
  have G_c_easter : FnOk P w K mg base (L2.CX P w) 6 a.f_c_easter a.d_c_easter ["year"] (sp_c_easter a.C_InvalidTime) := ok_c_easter T
  have G_c_moved_months : FnOk P w K mg base (L2.CX P w) 6 a.f_c_moved_months a.d_c_moved_months ["day", "months"] (sp_c_moved_months a.C_InvalidTime) := ok_c_moved_months T
  have G_c_week_of : FnOk P w K mg base (L2.CX P w) 6 a.f_c_week_of a.d_c_week_of ["day"] (sp_c_week_of a.C_InvalidTime) := ok_c_week_of T
  have G_c_weekday_in_month : FnOk P w K mg base (L2.CX P w) 6 a.f_c_weekday_in_month a.d_c_weekday_in_month ["year", "month", "which", "number"] (sp_c_weekday_in_month a.C_InvalidTime) := ok_c_weekday_in_month T
  refine T.F_c_law_why.okX sc_c_law_why (fun vs H Q E h => ?_) (fun cdv A outer s H vs Q E hr h => ?_)
  · rw [sp_c_law_why_eq] at h
    walk_at "len"
  · rw [sp_c_law_why_eq] at h
    obtain ⟨kk, x, y', z', zz, wd, rfl, hk, hc, k⟩ := h
    refine ⟨_, (pss_cons (ps_try_as (i := 5) (Wout := fun _ _ _ _ => False) rfl rfl sc_c_law_why.nd (by rfl) (by rfl) ⟨by rfl, by decide, .inl T.m_SlotError⟩ takes0
    (fun W pn xe tk po => (pss_one (ps_if (pt_cmpR op_eq (pv 0) pe_int (nomark _)) (pss_one (ps_expr (pe_callS G_c_moved_months (hr.mono (by decide)) (by rfl) T.m_c_moved_months T.F_c_moved_months.kp T.b_c_moved_months (fun σ => passAt tk σ) (pa_cons (pv 1) (pa_cons (pv 2) pa_nil))))) (pss_one (ps_if (pt_cmpR op_eq (pv 0) pe_int (nomark _)) (pss_one (ps_expr (pe_callS G_c_week_of (hr.mono (by decide)) (by rfl) T.m_c_week_of T.F_c_week_of.kp T.b_c_week_of (fun σ => passAt tk σ) (pa_cons (pv 1) pa_nil)))) (pss_one (ps_if (pt_cmpR op_eq (pv 0) pe_int (nomark _)) (pss_one (ps_expr (pe_callS G_c_weekday_in_month (hr.mono (by decide)) (by rfl) T.m_c_weekday_in_month T.F_c_weekday_in_month.kp T.b_c_weekday_in_month (fun σ => passAt tk σ) (pa_cons (pv 1) (pa_cons (pv 2) (pa_cons (pv 3) (pa_cons (pv 4) pa_nil))))))) (pss_one (ps_expr (pe_callS G_c_easter (hr.mono (by decide)) (by rfl) T.m_c_easter T.F_c_easter.kp T.b_c_easter (fun σ => passAt tk σ) (pa_cons (pv 1) pa_nil)))))))))))
    (fun ae oe cls dx pn hz hf => (pss_cons (ps_if (PW.pt (pw_and (pt_val (pe_callB (call_isX hz hf) (by rfl) T.n_isinstance (by decide +kernel) (pa_cons (pv 5) (pa_cons (pe_glob (v := .ref a.C_InvalidTime) (by rfl) T.m_InvalidTime rfl) pa_nil)))) (pw_and1 (pt_not (pt_val (pe_callB (call_isX hz hf) (by rfl) T.n_isinstance (by decide +kernel) (pa_cons (pv 5) (pa_cons (pe_glob (v := .ref a.C_InvalidSlot) (by rfl) T.m_InvalidSlot rfl) pa_nil)))))))) (pss_one (ps_ret (pe_xf T.xf_InvalidTime T.no_InvalidTime_what hz hf (pv 5)))) pss_nil)
    (pss_one (ps_ret pe_str)))))
    (pss_one (ps_ret pe_non))), ?_⟩
    refine ⟨_, rfl, rfl, _, rfl, ?_⟩
    refine ite2 (fun c => ?_) (fun c => ?_)
    · have c' : kk = 0 := V.int.inj (of_decide_eq_true c)
      have hc' : (¬ inD x ∧ wd = "day") ∨ (inD x ∧ wd = "date" ∧ ∃ y m dd, okD8 y m dd ∧ dayN y m dd = x ∧ ¬ inY ((12 * y + m - 1 + y') / 12)) := by
        rcases hc with hc | hc | hc | hc
        · exact hc.2
        · omega
        · omega
        · omega
      rcases hc' with ⟨q, e⟩ | ⟨q, e, y, m, dd, ok, hn, nq⟩
      · subst e
        refine ⟨_, rfl, _, rfl, sp_c_moved_months_use ⟨x, y', 1, 1, 1, rfl, fun _ => ?_, fun z => absurd z q⟩⟩
        intro d H' s1 hd
        refine ⟨true, T.em_InvalidTime_SlotError, fun _ ae _ => ?_, fun z => nomatch z⟩
        refine ⟨_, rfl, _, _, true, d, _, rfl, rfl, T.is_InvalidTime, rfl, hd, T.kt_InvalidTime_InvalidTime, true, rfl, ?_⟩
        refine ⟨_, rfl, _, _, false, d, _, rfl, rfl, T.is_InvalidTime, rfl, hd, T.kt_InvalidTime_InvalidSlot, _, rfl, ?_⟩
        exact ⟨_, rfl, rfl, rfl, d, _, _, rfl, hd, rfl, k H' s1⟩
      · subst e
        refine ⟨_, rfl, _, rfl, sp_c_moved_months_use ⟨x, y', y, m, dd, rfl, fun z => absurd q z, fun _ => ⟨ok, hn, fun _ => ?_, fun z => absurd z nq⟩⟩⟩
        intro d H' s1 hd
        refine ⟨true, T.em_InvalidTime_SlotError, fun _ ae _ => ?_, fun z => nomatch z⟩
        refine ⟨_, rfl, _, _, true, d, _, rfl, rfl, T.is_InvalidTime, rfl, hd, T.kt_InvalidTime_InvalidTime, true, rfl, ?_⟩
        refine ⟨_, rfl, _, _, false, d, _, rfl, rfl, T.is_InvalidTime, rfl, hd, T.kt_InvalidTime_InvalidSlot, _, rfl, ?_⟩
        exact ⟨_, rfl, rfl, rfl, d, _, _, rfl, hd, rfl, k H' s1⟩
    refine ⟨_, rfl, rfl, _, rfl, ?_⟩
    refine ite2 (fun c1 => ?_) (fun c1 => ?_)
    · have c' : kk = 1 := V.int.inj (of_decide_eq_true c1)
      have hc' : ¬ inD x ∧ wd = "day" := by
        rcases hc with hc | hc | hc | hc
        · omega
        · exact hc.2
        · omega
        · omega
      obtain ⟨q, e⟩ := hc'
      subst e
      refine ⟨_, rfl, sp_c_week_of_use ⟨x, 1, rfl, fun _ => ?_, fun z => absurd z q⟩⟩
      intro d H' s1 hd
      refine ⟨true, T.em_InvalidTime_SlotError, fun _ ae _ => ?_, fun z => nomatch z⟩
      refine ⟨_, rfl, _, _, true, d, _, rfl, rfl, T.is_InvalidTime, rfl, hd, T.kt_InvalidTime_InvalidTime, true, rfl, ?_⟩
      refine ⟨_, rfl, _, _, false, d, _, rfl, rfl, T.is_InvalidTime, rfl, hd, T.kt_InvalidTime_InvalidSlot, _, rfl, ?_⟩
      exact ⟨_, rfl, rfl, rfl, d, _, _, rfl, hd, rfl, k H' s1⟩
    refine ⟨_, rfl, rfl, _, rfl, ?_⟩
    refine ite2 (fun c2 => ?_) (fun c2 => ?_)
    · have c' : kk = 2 := V.int.inj (of_decide_eq_true c2)
      have hc' : (¬ okYM x y' ∧ wd = "date") ∨ (okYM x y' ∧ ¬ okW x y' z' zz ∧ wd = "weekday") := by
        rcases hc with hc | hc | hc | hc
        · omega
        · omega
        · exact hc.2
        · omega
      refine ⟨_, rfl, _, rfl, _, rfl, _, rfl, sp_c_weekday_in_month_use ⟨x, y', z', zz, rfl, fun z => ?_, fun z w => ?_, fun z w => ?_⟩⟩
      · have e : wd = "date" := by
          rcases hc' with q | q
          · exact q.2
          · exact absurd q.1 z
        subst e
        intro d H' s1 hd
        refine ⟨true, T.em_InvalidTime_SlotError, fun _ ae _ => ?_, fun z => nomatch z⟩
        refine ⟨_, rfl, _, _, true, d, _, rfl, rfl, T.is_InvalidTime, rfl, hd, T.kt_InvalidTime_InvalidTime, true, rfl, ?_⟩
        refine ⟨_, rfl, _, _, false, d, _, rfl, rfl, T.is_InvalidTime, rfl, hd, T.kt_InvalidTime_InvalidSlot, _, rfl, ?_⟩
        exact ⟨_, rfl, rfl, rfl, d, _, _, rfl, hd, rfl, k H' s1⟩
      · have e : wd = "weekday" := by
          rcases hc' with q | q
          · exact absurd z q.1
          · exact q.2.2
        subst e
        intro d H' s1 hd
        refine ⟨true, T.em_InvalidTime_SlotError, fun _ ae _ => ?_, fun z => nomatch z⟩
        refine ⟨_, rfl, _, _, true, d, _, rfl, rfl, T.is_InvalidTime, rfl, hd, T.kt_InvalidTime_InvalidTime, true, rfl, ?_⟩
        refine ⟨_, rfl, _, _, false, d, _, rfl, rfl, T.is_InvalidTime, rfl, hd, T.kt_InvalidTime_InvalidSlot, _, rfl, ?_⟩
        exact ⟨_, rfl, rfl, rfl, d, _, _, rfl, hd, rfl, k H' s1⟩
      · exfalso
        rcases hc' with q | q
        · exact q.1 z
        · exact q.2.1 w
    have c0' : ¬ kk = 0 := fun z => c (decide_eq_true (congrArg V.int z))
    have c1' : ¬ kk = 1 := fun z => c1 (decide_eq_true (congrArg V.int z))
    have c2' : ¬ kk = 2 := fun z => c2 (decide_eq_true (congrArg V.int z))
    have hc' : ¬ inY x ∧ wd = "date" := by
      rcases hc with hc | hc | hc | hc
      · omega
      · omega
      · omega
      · exact hc.2
    obtain ⟨q, e⟩ := hc'
    subst e
    refine ⟨_, rfl, sp_c_easter_use ⟨x, rfl, fun _ => ?_, fun z => absurd z q⟩⟩
    intro d H' s1 hd
    refine ⟨true, T.em_InvalidTime_SlotError, fun _ ae _ => ?_, fun z => nomatch z⟩
    refine ⟨_, rfl, _, _, true, d, _, rfl, rfl, T.is_InvalidTime, rfl, hd, T.kt_InvalidTime_InvalidTime, true, rfl, ?_⟩
    refine ⟨_, rfl, _, _, false, d, _, rfl, rfl, T.is_InvalidTime, rfl, hd, T.kt_InvalidTime_InvalidSlot, _, rfl, ?_⟩
    exact ⟨_, rfl, rfl, rfl, d, _, _, rfl, hd, rfl, k H' s1⟩
theorem ok_c_law {P : Program} {w : World} {K : PySem.W.Frag} {mg : Str → Option Value} {base : Heap} {a : Ad} (T : Txt K mg a) : FnOk P w K mg base (L2.CX P w) 8 a.f_c_law a.d_c_law ["script"] (sp_c_law K) := by
  have G_c_law_date : FnOk P w K mg base (L2.CX P w) 3 a.f_c_law_date a.d_c_law_date ["deck"] (sp_c_law_date) := ok_c_law_date T
  have G_c_law_day : FnOk P w K mg base (L2.CX P w) 1 a.f_c_law_day a.d_c_law_day ["year", "month", "day"] (sp_c_law_day) := ok_c_law_day T
  have G_c_law_deck : FnOk P w K mg base (L2.CX P w) 1 a.f_c_law_deck a.d_c_law_deck ["script", "cells", "each"] (sp_c_law_deck K) := ok_c_law_deck T
  have G_c_law_easter : FnOk P w K mg base (L2.CX P w) 2 a.f_c_law_easter a.d_c_law_easter ["year"] (sp_c_law_easter) := ok_c_law_easter T
  have G_c_law_length : FnOk P w K mg base (L2.CX P w) 2 a.f_c_law_length a.d_c_law_length ["year", "month"] (sp_c_law_length) := ok_c_law_length T
  have G_c_law_moved : FnOk P w K mg base (L2.CX P w) 3 a.f_c_law_moved a.d_c_law_moved ["date", "months"] (sp_c_law_moved K) := ok_c_law_moved T
  have G_c_law_plain : FnOk P w K mg base (L2.CX P w) 5 a.f_c_law_plain a.d_c_law_plain ["value"] (sp_c_law_plain K 4) := ok_c_law_plain T
  have G_c_law_take : FnOk P w K mg base (L2.CX P w) 1 a.f_c_law_take a.d_c_law_take ["deck", "many"] (sp_c_law_take) := ok_c_law_take T
  have G_c_law_why : FnOk P w K mg base (L2.CX P w) 7 a.f_c_law_why a.d_c_law_why ["ask", "one", "two", "three", "four"] (sp_c_law_why) := ok_c_law_why T
  have G_c_easter : FnOk P w K mg base (L2.CX P w) 6 a.f_c_easter a.d_c_easter ["year"] (sp_c_easter a.C_InvalidTime) := ok_c_easter T
  have G_c_moved_months : FnOk P w K mg base (L2.CX P w) 6 a.f_c_moved_months a.d_c_moved_months ["day", "months"] (sp_c_moved_months a.C_InvalidTime) := ok_c_moved_months T
  have G_c_week_of : FnOk P w K mg base (L2.CX P w) 6 a.f_c_week_of a.d_c_week_of ["day"] (sp_c_week_of a.C_InvalidTime) := ok_c_week_of T
  have G_c_weekday_in_month : FnOk P w K mg base (L2.CX P w) 6 a.f_c_weekday_in_month a.d_c_weekday_in_month ["year", "month", "which", "number"] (sp_c_weekday_in_month a.C_InvalidTime) := ok_c_weekday_in_month T
  refine T.F_c_law.okX sc_c_law (fun vs H Q E h => ?_) (fun cdv A outer s H vs Q E hr h => ?_)
  · walk_at "len"
  · obtain ⟨sa, ns, rfl, hS, hlen, k⟩ := h
    refine ⟨_, (pss_cons (ps_set (i := 1) sc_c_law.nd (by rfl) (Or.inl rfl) (pe_call G_c_law_deck (hr.mono (by decide)) (by rfl) T.m_c_law_deck T.F_c_law_deck.kp T.b_c_law_deck .nil passL (pa_cons (pv 0) (pa_cons pe_int (pa_cons pe_int pa_nil)))))
    (pss_cons (ps_asg (pe_call G_c_law_date (hr.mono (by decide)) (by rfl) T.m_c_law_date T.F_c_law_date.kp T.b_c_law_date .nil passL (pa_cons (pv 1) pa_nil)) (pg_tup (n := 3) (by rfl) (pgs_cons (pg_name (i := 2) sc_c_law.nd (by rfl) (Or.inl rfl)) (pgs_cons (pg_name (i := 3) sc_c_law.nd (by rfl) (Or.inl rfl)) (pgs_cons (pg_name (i := 4) sc_c_law.nd (by rfl) (Or.inl rfl)) pgs_nil)))))
    (pss_cons (ps_set (i := 5) sc_c_law.nd (by rfl) (Or.inl rfl) (pe_call G_c_law_day (hr.mono (by decide)) (by rfl) T.m_c_law_day T.F_c_law_day.kp T.b_c_law_day .nil passL (pa_cons (pv 2) (pa_cons (pv 3) (pa_cons (pv 4) pa_nil)))))
    (pss_cons (ps_set (i := 6) sc_c_law.nd (by rfl) (Or.inl rfl) (pe_op op_sub (pe_call G_c_law_take (hr.mono (by decide)) (by rfl) T.m_c_law_take T.F_c_law_take.kp T.b_c_law_take .nil passL (pa_cons (pv 1) (pa_cons pe_int pa_nil))) pe_int))
    (Evl.pss_cut (ps_set (i := 7) sc_c_law.nd (by rfl) (Or.inl rfl) (pe_call G_c_law_moved (hr.mono (by decide)) (by rfl) T.m_c_law_moved T.F_c_law_moved.kp T.b_c_law_moved .nil passL (pa_cons (pe_tup (pa_cons (pv 2) (pa_cons (pv 3) (pa_cons (pv 4) pa_nil)))) (pa_cons (pv 6) pa_nil))))
    (Evl.pss_cut (ps_if (pt_cmpR op_isN (pv 7) pe_non (nomark _)) (pss_one (ps_if (pt_cmpR op_ne (pe_call G_c_law_why (hr.mono (by decide)) (by rfl) T.m_c_law_why T.F_c_law_why.kp T.b_c_law_why .nil passL (pa_cons pe_int (pa_cons (pv 5) (pa_cons (pv 6) (pa_cons pe_int (pa_cons pe_int pa_nil)))))) pe_str (nomark _)) (pss_one (ps_ret pe_bl)) pss_nil)) (pss_cons (ps_if (pt_cmpR (op_neD hr.units) (pe_call G_c_law_plain (hr.mono (by decide)) (by rfl) T.m_c_law_plain T.F_c_law_plain.kp T.b_c_law_plain .nil passL (pa_cons (pe_call G_c_moved_months (hr.mono (by decide)) (by rfl) T.m_c_moved_months T.F_c_moved_months.kp T.b_c_moved_months .nil passL (pa_cons (pv 5) (pa_cons (pv 6) pa_nil))) pa_nil)) (pe_call G_c_law_plain (hr.mono (by decide)) (by rfl) T.m_c_law_plain T.F_c_law_plain.kp T.b_c_law_plain .nil passL (pa_cons (pv 7) pa_nil)) (nomark _)) (pss_one (ps_ret pe_bl)) pss_nil)
    (pss_one (ps_if (PW.pt (pw_and (pt_cmpR op_lt (pv 4) pe_int (nomark _)) (pw_and1 (pt_cmpR op_ne (pe_call G_c_moved_months (hr.mono (by decide)) (by rfl) T.m_c_moved_months T.F_c_moved_months.kp T.b_c_moved_months .nil passL (pa_cons (pv 7) (pa_cons (pe_un un_neg (pv 6)) pa_nil))) (pv 5) (nomark _))))) (pss_one (ps_ret pe_bl)) pss_nil))))
    (Evl.pss_cut (ps_if (PW.pt (pw_and (pt_chain op_lt op_lt pe_int (pv 2) pe_int) (pw_and1 (pt_cmpR op_lt (pv 4) pe_int (nomark _))))) (pss_cons (ps_set (i := 8) sc_c_law.nd (by rfl) (Or.inl rfl) (pe_call G_c_law_take (hr.mono (by decide)) (by rfl) T.m_c_law_take T.F_c_law_take.kp T.b_c_law_take .nil passL (pa_cons (pv 1) (pa_cons pe_int pa_nil))))
    (pss_one (ps_if (pt_cmpR op_ne (pe_call G_c_moved_months (hr.mono (by decide)) (by rfl) T.m_c_moved_months T.F_c_moved_months.kp T.b_c_moved_months .nil passL (pa_cons (pe_call G_c_moved_months (hr.mono (by decide)) (by rfl) T.m_c_moved_months T.F_c_moved_months.kp T.b_c_moved_months .nil passL (pa_cons (pv 5) (pa_cons (pv 8) pa_nil))) (pa_cons pe_int pa_nil))) (pe_call G_c_moved_months (hr.mono (by decide)) (by rfl) T.m_c_moved_months T.F_c_moved_months.kp T.b_c_moved_months .nil passL (pa_cons (pv 5) (pa_cons (pe_op op_add (pv 8) pe_int) pa_nil))) (nomark _)) (pss_one (ps_ret pe_bl)) pss_nil))) pss_nil)
    (pss_cons (ps_set (i := 9) sc_c_law.nd (by rfl) (Or.inr rfl) (pe_op op_add (pe_op op_sub (pv 5) (pe_op op_mod (pe_callTy call_int1 (by rfl) T.n_int (by decide +kernel) (pa_cons (pv 5) pa_nil)) pe_int)) pe_int))
    (Evl.pss_cut (ps_if (pt_chain op_lt op_lt pe_int (pv 2) pe_int) (pss_cons (ps_set (i := 11) sc_c_law.nd (by rfl) (Or.inl rfl) (pe_ix ix_list (pe_lcK (own := [("one", 10)]) (by rfl) sc_c_law.nd (pi_tup (pe_tup (pa_cons (pe_op op_sub (pv 2) pe_int) (pa_cons (pv 2) (pa_cons (pe_op op_add (pv 2) pe_int) pa_nil))))) (blkOk_by (own := [("one", 10)]) (N := ["script", "deck", "year", "month", "day", "number", "months", "due", "more", "thursday", "one", "near", "passed", "which", "listed", "place", "time", "told", "bad", "known", "low", "high", "answers"]) (sc := defScope st_c_law) (by decide +kernel)) (fun _ _ _ _ _ => (pg_name (i := 10) sc_c_law.nd (by rfl) (by first | exact Or.inl rfl | exact Or.inr rfl))) (fun _ _ _ _ _ => (pts_one (pt_chain op_le op_lt (pe_call G_c_law_day (hr.mono (by decide)) (by rfl) T.m_c_law_day T.F_c_law_day.kp T.b_c_law_day .nil passL (pa_cons (pv 10) (pa_cons pe_int (pa_cons pe_int pa_nil)))) (pv 9) (pe_call G_c_law_day (hr.mono (by decide)) (by rfl) T.m_c_law_day T.F_c_law_day.kp T.b_c_law_day .nil passL (pa_cons (pe_op op_add (pv 10) pe_int) (pa_cons pe_int (pa_cons pe_int pa_nil))))))) (fun _ _ _ _ _ => (pv 10)) (by walk_at "blk") (by walk_at "blk") (by walk_at "blk")) pe_int (fun _ _ => rfl)))
    (pss_cons (ps_set (i := 12) sc_c_law.nd (by rfl) (Or.inl rfl) (pe_callB call_len_seq (by rfl) T.n_len (by decide +kernel) (pa_cons (pe_lcK (own := [("one", 10)]) (by rfl) sc_c_law.nd (pi_range2 (by rfl) T.n_range (pa_cons (pe_call G_c_law_day (hr.mono (by decide)) (by rfl) T.m_c_law_day T.F_c_law_day.kp T.b_c_law_day .nil passL (pa_cons (pv 11) (pa_cons pe_int (pa_cons pe_int pa_nil)))) (pa_cons (pe_op op_add (pv 9) pe_int) pa_nil))) (blkOk_by (own := [("one", 10)]) (N := ["script", "deck", "year", "month", "day", "number", "months", "due", "more", "thursday", "one", "near", "passed", "which", "listed", "place", "time", "told", "bad", "known", "low", "high", "answers"]) (sc := defScope st_c_law) (by decide +kernel)) (fun _ _ _ _ _ => (pg_name (i := 10) sc_c_law.nd (by rfl) (by first | exact Or.inl rfl | exact Or.inr rfl))) (fun _ _ _ _ _ => (pts_one (pt_cmpR op_eq (pe_op op_mod (pe_callTy call_int1 (by rfl) T.n_int (by decide +kernel) (pa_cons (pv 10) pa_nil)) pe_int) pe_int (nomark _)))) (fun _ _ _ _ _ => (pv 10)) (by walk_at "blk") (by walk_at "blk") (by walk_at "blk")) pa_nil)))
    (pss_one (ps_if (pt_cmpR (op_neD hr.units) (pe_call G_c_law_plain (hr.mono (by decide)) (by rfl) T.m_c_law_plain T.F_c_law_plain.kp T.b_c_law_plain .nil passL (pa_cons (pe_call G_c_week_of (hr.mono (by decide)) (by rfl) T.m_c_week_of T.F_c_week_of.kp T.b_c_week_of .nil passL (pa_cons (pv 5) pa_nil)) pa_nil)) (pe_call G_c_law_plain (hr.mono (by decide)) (by rfl) T.m_c_law_plain T.F_c_law_plain.kp T.b_c_law_plain .nil passL (pa_cons (pe_tup (pa_cons (pv 11) (pa_cons (pv 12) pa_nil))) pa_nil)) (nomark _)) (pss_one (ps_ret pe_bl)) pss_nil)))) pss_nil)
    (pss_cons (ps_set (i := 13) sc_c_law.nd (by rfl) (Or.inl rfl) (pe_call G_c_law_take (hr.mono (by decide)) (by rfl) T.m_c_law_take T.F_c_law_take.kp T.b_c_law_take .nil passL (pa_cons (pv 1) (pa_cons pe_int pa_nil))))
    (pss_cons (ps_set (i := 14) sc_c_law.nd (by rfl) (Or.inl rfl) (pe_lst pa_nil))
    (pss_cons (ps_for (passes_of rfl) rfl (pi_range2 (by rfl) T.n_range (pa_cons pe_int (pa_cons (pe_op op_add (pe_call G_c_law_length (hr.mono (by decide)) (by rfl) T.m_c_law_length T.F_c_law_length.kp T.b_c_law_length .nil passL (pa_cons (pv 2) (pa_cons (pv 3) pa_nil))) pe_int) pa_nil))) (pg_name (i := 15) sc_c_law.nd (by rfl) (Or.inl rfl)) (pss_one (ps_if (pt_cmpR op_eq (pe_op op_mod (pe_callTy call_int1 (by rfl) T.n_int (by decide +kernel) (pa_cons (pe_call G_c_law_day (hr.mono (by decide)) (by rfl) T.m_c_law_day T.F_c_law_day.kp T.b_c_law_day .nil passL (pa_cons (pv 2) (pa_cons (pv 3) (pa_cons (pv 15) pa_nil)))) pa_nil)) pe_int) (pv 13) (nomark _)) (pss_one (ps_expr (pe_bm PySem.F.plainAttrs_list PySem.F.slot_list_append PySem.F.type_list_append mt_append (pv 14) (pa_cons (pe_call G_c_law_day (hr.mono (by decide)) (by rfl) T.m_c_law_day T.F_c_law_day.kp T.b_c_law_day .nil passL (pa_cons (pv 2) (pa_cons (pv 3) (pa_cons (pv 15) pa_nil)))) pa_nil)))) pss_nil)))
    (pss_cons (ps_for (passes_of rfl) rfl (pi_range2 (by rfl) T.n_range (pa_cons pe_int (pa_cons (pe_op op_add (pe_callB call_len_seq (by rfl) T.n_len (by decide +kernel) (pa_cons (pv 14) pa_nil)) pe_int) pa_nil))) (pg_name (i := 16) sc_c_law.nd (by rfl) (Or.inl rfl)) (pss_cons (ps_set (i := 17) sc_c_law.nd (by rfl) (Or.inl rfl) (pe_lst (pa_cons (pe_call G_c_weekday_in_month (hr.mono (by decide)) (by rfl) T.m_c_weekday_in_month T.F_c_weekday_in_month.kp T.b_c_weekday_in_month .nil passL (pa_cons (pv 2) (pa_cons (pv 3) (pa_cons (pv 13) (pa_cons (pv 16) pa_nil))))) (pa_cons (pe_call G_c_weekday_in_month (hr.mono (by decide)) (by rfl) T.m_c_weekday_in_month T.F_c_weekday_in_month.kp T.b_c_weekday_in_month .nil passL (pa_cons (pv 2) (pa_cons (pv 3) (pa_cons (pv 13) (pa_cons (pe_un un_neg (pv 16)) pa_nil))))) pa_nil))))
    (pss_one (ps_if (pt_cmpR (op_neD hr.units) (pe_call G_c_law_plain (hr.mono (by decide)) (by rfl) T.m_c_law_plain T.F_c_law_plain.kp T.b_c_law_plain .nil passL (pa_cons (pv 17) pa_nil)) (pe_call G_c_law_plain (hr.mono (by decide)) (by rfl) T.m_c_law_plain T.F_c_law_plain.kp T.b_c_law_plain .nil passL (pa_cons (pe_lst (pa_cons (pe_ix ix_list (pv 14) (pe_op op_sub (pv 16) pe_int) (fun _ _ => rfl)) (pa_cons (pe_ix ix_list (pv 14) (pe_un un_neg (pv 16)) (fun _ _ => rfl)) pa_nil))) pa_nil)) (nomark _)) (pss_one (ps_ret pe_bl)) pss_nil))))
    (pss_cons (ps_set (i := 18) sc_c_law.nd (by rfl) (Or.inl rfl) (pe_lst (pa_cons (pe_call G_c_law_why (hr.mono (by decide)) (by rfl) T.m_c_law_why T.F_c_law_why.kp T.b_c_law_why .nil passL (pa_cons pe_int (pa_cons (pv 2) (pa_cons (pv 3) (pa_cons (pv 13) (pa_cons (pe_op op_add (pe_callB call_len_seq (by rfl) T.n_len (by decide +kernel) (pa_cons (pv 14) pa_nil)) pe_int) pa_nil)))))) (pa_cons (pe_call G_c_law_why (hr.mono (by decide)) (by rfl) T.m_c_law_why T.F_c_law_why.kp T.b_c_law_why .nil passL (pa_cons pe_int (pa_cons (pv 2) (pa_cons (pv 3) (pa_cons (pv 13) (pa_cons pe_int pa_nil)))))) (pa_cons (pe_call G_c_law_why (hr.mono (by decide)) (by rfl) T.m_c_law_why T.F_c_law_why.kp T.b_c_law_why .nil passL (pa_cons pe_int (pa_cons (pv 2) (pa_cons (pv 3) (pa_cons pe_int (pa_cons pe_int pa_nil)))))) pa_nil)))))
    (pss_cons (ps_set (i := 18) sc_c_law.nd (by rfl) (Or.inl rfl) (pe_op op_cat (pv 18) (pe_lst (pa_cons (pe_call G_c_law_why (hr.mono (by decide)) (by rfl) T.m_c_law_why T.F_c_law_why.kp T.b_c_law_why .nil passL (pa_cons pe_int (pa_cons (pv 2) (pa_cons (pv 3) (pa_cons (pe_un un_neg pe_int) (pa_cons pe_int pa_nil)))))) (pa_cons (pe_call G_c_law_why (hr.mono (by decide)) (by rfl) T.m_c_law_why T.F_c_law_why.kp T.b_c_law_why .nil passL (pa_cons pe_int (pa_cons (pv 2) (pa_cons (pv 3) (pa_cons (pv 13) (pa_cons (pe_un un_neg pe_int) pa_nil)))))) (pa_cons (pe_call G_c_law_why (hr.mono (by decide)) (by rfl) T.m_c_law_why T.F_c_law_why.kp T.b_c_law_why .nil passL (pa_cons pe_int (pa_cons (pv 2) (pa_cons pe_int (pa_cons pe_int (pa_cons pe_int pa_nil)))))) pa_nil))))))
    (Evl.pss_cut (ps_if (pt_cmpR (op_neD hr.units) (pv 18) (pe_op op_cat (pe_op op_rep (pe_lst (pa_cons pe_str pa_nil)) pe_int) (pe_lst (pa_cons pe_str pa_nil))) (nomark _)) (pss_one (ps_ret pe_bl)) pss_nil)
    (Evl.pss_cut (ps_if (PW.pt (pw_or (pt_cmpR (op_neD hr.units) (pe_call G_c_law_plain (hr.mono (by decide)) (by rfl) T.m_c_law_plain T.F_c_law_plain.kp T.b_c_law_plain .nil passL (pa_cons (pe_call G_c_easter (hr.mono (by decide)) (by rfl) T.m_c_easter T.F_c_easter.kp T.b_c_easter .nil passL (pa_cons (pv 2) pa_nil)) pa_nil)) (pe_call G_c_law_plain (hr.mono (by decide)) (by rfl) T.m_c_law_plain T.F_c_law_plain.kp T.b_c_law_plain .nil passL (pa_cons (pe_call G_c_law_easter (hr.mono (by decide)) (by rfl) T.m_c_law_easter T.F_c_law_easter.kp T.b_c_law_easter .nil passL (pa_cons (pv 2) pa_nil)) pa_nil)) (nomark _)) (pw_or1 (pt_cmpR op_ne (pe_op op_mod (pe_callTy call_int1 (by rfl) T.n_int (by decide +kernel) (pa_cons (pe_call G_c_easter (hr.mono (by decide)) (by rfl) T.m_c_easter T.F_c_easter.kp T.b_c_easter .nil passL (pa_cons (pv 2) pa_nil)) pa_nil)) pe_int) pe_int (nomark _))))) (pss_one (ps_ret pe_bl)) pss_nil)
    (Evl.pss_cut (ps_if (pt_not (pt_chain op_le op_le (pe_call G_c_law_day (hr.mono (by decide)) (by rfl) T.m_c_law_day T.F_c_law_day.kp T.b_c_law_day .nil passL (pa_cons (pv 2) (pa_cons pe_int (pa_cons pe_int pa_nil)))) (pe_call G_c_easter (hr.mono (by decide)) (by rfl) T.m_c_easter T.F_c_easter.kp T.b_c_easter .nil passL (pa_cons (pv 2) pa_nil)) (pe_call G_c_law_day (hr.mono (by decide)) (by rfl) T.m_c_law_day T.F_c_law_day.kp T.b_c_law_day .nil passL (pa_cons (pv 2) (pa_cons pe_int (pa_cons pe_int pa_nil)))))) (pss_one (ps_ret pe_bl)) pss_nil)
    (pss_cons (ps_set (i := 19) sc_c_law.nd (by rfl) (Or.inl rfl) (pe_lst (pa_cons (pe_tup (pa_cons pe_int (pa_cons pe_int (pa_cons pe_int pa_nil)))) (pa_cons (pe_tup (pa_cons pe_int (pa_cons pe_int (pa_cons pe_int pa_nil)))) (pa_cons (pe_tup (pa_cons pe_int (pa_cons pe_int (pa_cons pe_int pa_nil)))) (pa_cons (pe_tup (pa_cons pe_int (pa_cons pe_int (pa_cons pe_int pa_nil)))) (pa_cons (pe_tup (pa_cons pe_int (pa_cons pe_int (pa_cons pe_int pa_nil)))) (pa_cons (pe_tup (pa_cons pe_int (pa_cons pe_int (pa_cons pe_int pa_nil)))) (pa_cons (pe_tup (pa_cons pe_int (pa_cons pe_int (pa_cons pe_int pa_nil)))) pa_nil)))))))))
    (pss_cons (ps_set (i := 10) sc_c_law.nd (by rfl) (Or.inl rfl) (pe_ix ix_list (pv 19) (pe_call G_c_law_take (hr.mono (by decide)) (by rfl) T.m_c_law_take T.F_c_law_take.kp T.b_c_law_take .nil passL (pa_cons (pv 1) (pa_cons pe_int pa_nil))) (fun _ _ => rfl)))
    (Evl.pss_cut (ps_if (pt_cmpR op_ne (pe_call G_c_easter (hr.mono (by decide)) (by rfl) T.m_c_easter T.F_c_easter.kp T.b_c_easter .nil passL (pa_cons (pe_ix ix_tup (pv 10) pe_int (fun _ _ => rfl)) pa_nil)) (pe_call G_c_law_day (hr.mono (by decide)) (by rfl) T.m_c_law_day T.F_c_law_day.kp T.b_c_law_day .nil passL (pa_cons (pe_ix ix_tup (pv 10) pe_int (fun _ _ => rfl)) (pa_cons (pe_ix ix_tup (pv 10) pe_int (fun _ _ => rfl)) (pa_cons (pe_ix ix_tup (pv 10) pe_int (fun _ _ => rfl)) pa_nil)))) (nomark _)) (pss_one (ps_ret pe_bl)) pss_nil)
    (pss_cons (ps_set (i := 20) sc_c_law.nd (by rfl) (Or.inl rfl) (pe_call G_c_law_day (hr.mono (by decide)) (by rfl) T.m_c_law_day T.F_c_law_day.kp T.b_c_law_day .nil passL (pa_cons pe_int (pa_cons pe_int (pa_cons pe_int pa_nil)))))
    (pss_cons (ps_set (i := 21) sc_c_law.nd (by rfl) (Or.inl rfl) (pe_call G_c_law_day (hr.mono (by decide)) (by rfl) T.m_c_law_day T.F_c_law_day.kp T.b_c_law_day .nil passL (pa_cons pe_int (pa_cons pe_int (pa_cons pe_int pa_nil)))))
    (pss_cons (ps_set (i := 22) sc_c_law.nd (by rfl) (Or.inl rfl) (pe_lst (pa_cons (pe_call G_c_law_why (hr.mono (by decide)) (by rfl) T.m_c_law_why T.F_c_law_why.kp T.b_c_law_why .nil passL (pa_cons pe_int (pa_cons (pe_op op_sub (pv 20) pe_int) (pa_cons pe_int (pa_cons pe_int (pa_cons pe_int pa_nil)))))) (pa_cons (pe_call G_c_law_why (hr.mono (by decide)) (by rfl) T.m_c_law_why T.F_c_law_why.kp T.b_c_law_why .nil passL (pa_cons pe_int (pa_cons (pv 21) (pa_cons pe_int (pa_cons pe_int (pa_cons pe_int pa_nil)))))) (pa_cons (pe_call G_c_law_why (hr.mono (by decide)) (by rfl) T.m_c_law_why T.F_c_law_why.kp T.b_c_law_why .nil passL (pa_cons pe_int (pa_cons (pe_op op_add (pv 21) pe_int) (pa_cons pe_int (pa_cons pe_int (pa_cons pe_int pa_nil)))))) (pa_cons (pe_call G_c_law_why (hr.mono (by decide)) (by rfl) T.m_c_law_why T.F_c_law_why.kp T.b_c_law_why .nil passL (pa_cons pe_int (pa_cons pe_int (pa_cons pe_int (pa_cons pe_int (pa_cons pe_int pa_nil)))))) pa_nil))))))
    (pss_one (ps_ret (pe_cmpR (op_eqD hr.units) (pv 22) (pe_lst (pa_cons pe_str (pa_cons pe_str (pa_cons pe_str (pa_cons pe_str pa_nil))))) (nomark _)))))))))))))))))))))))))))), ?_⟩
    refine ⟨_, rfl, sa, ns, 30, 14, rfl, hS, by omega, by decide, by decide, by decide, by decide, fun D0 p H0 hp s0 hd0 => ?_⟩
    have K0 : Dk (fun _ => none) H0 p D0 := ⟨rfl, same_none, hd0⟩
    refine ⟨_, rfl, sp_c_law_date_use ⟨p, D0, rfl, hd0, fun H1 D1 q1 y m d sb h1 f1 e1 ok => ?_⟩⟩
    have K1 := K0.but sb h1
    refine ⟨q1, _, rfl, SqT.of e1, rfl, _, _, rfl, _, _, rfl, _, _, rfl, rfl, ?_⟩
    obtain ⟨⟨oy0, oy1, om0, om1⟩, od0, od1⟩ := id ok
    obtain ⟨dr0, dr1⟩ := day_range ok
    have hld := law_day (y := y) (d := d) om0 om1
    refine ⟨_, rfl, _, rfl, _, rfl, sp_c_law_day_use ⟨y, m, d, rfl, by omega, by omega, ?_⟩⟩
    rw [hld]
    generalize hN : dayN y m d = N at *
    refine ⟨_, rfl, take_q K1 (by decide) fun a6 H2 a60 a61 K2 => ?_⟩
    refine ⟨_, _, rfl, rfl, ?_⟩
    obtain ⟨km, hkm⟩ : ∃ z : Int, z = a6 - 400 := ⟨_, rfl⟩
    have ekm : (fun i j : Int => V.int (i - j)) a6 400 = V.int km := by rw [hkm]
    rw [ekm]
    refine ⟨fun σ H' => ∃ v7 : V, σ = [some (.ref sa), some (.ref p), some (.int y), some (.int m), some (.int d), some (.int N), some (.int km), some v7, none, none, none, none, none, none, none, none, none, none, none, none, none, none, none] ∧ Dk (fun _ => none) H' p D1.tail ∧ ((inY ((12 * y + m - 1 + km) / 12) ∧ v7 = .int (mv y m d km)) ∨ (¬ inY ((12 * y + m - 1 + km) / 12) ∧ v7 = .non)), ?_, ?_⟩
    · refine ⟨_, rfl, _, rfl, _, rfl, by show 3 ≤ sizeLine; decide, fun q2 hq2 => ⟨_, rfl, ?_⟩⟩
      refine sp_c_law_moved_use ⟨q2, y, m, d, km, rfl, SqT.of upd_same, ok, by omega, by omega, fun H3 s3 => ⟨fun iy => ?_, fun iy => ?_⟩⟩
      · exact ⟨_, rfl, (K2.same (Same.new hq2)).same s3, .inl ⟨iy, rfl⟩⟩
      · exact ⟨_, rfl, (K2.same (Same.new hq2)).same s3, .inr ⟨iy, rfl⟩⟩
    rintro σ H3 ⟨v7, rfl, K3, hv7⟩
    refine ⟨fun σ H' => σ = [some (.ref sa), some (.ref p), some (.int y), some (.int m), some (.int d), some (.int N), some (.int km), some v7, none, none, none, none, none, none, none, none, none, none, none, none, none, none, none] ∧ Dk (fun _ => none) H' p D1.tail, ?_, ?_⟩
    · rcases hv7 with ⟨iy, rfl⟩ | ⟨iy, rfl⟩
      · refine ⟨_, rfl, rfl, _, rfl, ?_⟩
        refine ite2 (fun c => absurd (of_decide_eq_true c) (by simp)) (fun _ => ?_)
        have okI : okD 4 (.int (mv y m d km)) = true := by simp [okD]
        refine ⟨_, rfl, _, rfl, sp_c_moved_months_use ⟨N, km, y, m, d, rfl, fun z => absurd ⟨dr0, dr1⟩ z, fun _ => ⟨ok, hN, fun z => absurd iy z, fun _ H4 s4 => ?_⟩⟩⟩
        refine ⟨.int (mv y m d km), .int (mv y m d km), rfl, .int _, okI, fun v5 H5 s5 dn5 => ?_⟩
        refine ⟨_, rfl, .int (mv y m d km), .int (mv y m d km), rfl, .int _, okI, fun v6 H6 s6 dn6 => ?_⟩
        refine plain_test 4 dn5 s6 dn6 okI (by decide) ?_
        have K6 := ((K3.same s4).same s5).same s6
        refine ⟨_, rfl, _, _, rfl, rfl, _, rfl, ?_⟩
        refine ite2 (fun c => ?_) (fun c => ?_)
        rotate_left
        · exact ⟨rfl, K6⟩
        have c' : d < 29 := of_decide_eq_true c
        have mok := mv_ok ok iy
        rw [min_small c'] at mok
        have dr2 := day_range mok
        rw [← mv_small c'] at dr2
        have eB : mv ((12 * y + m - 1 + km) / 12) ((12 * y + m - 1 + km) % 12 + 1) d (-km) = N := by
          rw [mv_add c', show km + -km = 0 by omega, mv_zero ok, hN]
        have ey : (12 * ((12 * y + m - 1 + km) / 12) + ((12 * y + m - 1 + km) % 12 + 1) - 1 + -km) / 12 = y := by omega
        refine ⟨_, rfl, _, rfl, _, rfl, sp_c_moved_months_use ⟨mv y m d km, -km, _, _, d, rfl, fun z => absurd dr2 z, fun _ => ⟨mok, (mv_small c').symm, fun z => absurd (show inY y from ⟨oy0, oy1⟩) (by rw [ey] at z; exact z), fun _ H7 s7 => ?_⟩⟩⟩
        rw [eB]
        exact ⟨_, rfl, rfl, false, by simp, rfl, K6.same s7⟩
      · refine ⟨_, rfl, rfl, _, rfl, ?_⟩
        refine iteT ?_
        refine ⟨_, rfl, _, rfl, sp_c_law_why_use ⟨0, N, km, 0, 0, "date", rfl, by decide, .inl ⟨rfl, .inr ⟨⟨dr0, dr1⟩, rfl, y, m, d, ok, hN, iy⟩⟩, fun H4 s4 => ?_⟩⟩
        refine ⟨rfl, false, by simp, ?_⟩
        exact ⟨rfl, K3.same s4⟩
    rintro σ H9 ⟨rfl, K9⟩
    refine ⟨fun σ H' => ∃ (v8 : Option V) (D2 : List Int), σ = [some (.ref sa), some (.ref p), some (.int y), some (.int m), some (.int d), some (.int N), some (.int km), some v7, v8, none, none, none, none, none, none, none, none, none, none, none, none, none, none] ∧ Dk (fun _ => none) H' p D2, ?_, ?_⟩
    · refine ⟨_, rfl, _, _, rfl, rfl, _, rfl, ?_⟩
      refine ite2 (fun c => ?_) (fun c => ?_)
      rotate_left
      · refine ⟨_, rfl, ?_⟩
        refine ite2 (fun z => nomatch z) (fun _ => ?_)
        exact ⟨_, _, rfl, K9⟩
      have c0 : 30 < y := of_decide_eq_true c
      refine ⟨_, _, rfl, rfl, _, rfl, ?_⟩
      refine ite2 (fun c => ?_) (fun c => ?_)
      rotate_left
      · exact ⟨_, _, rfl, K9⟩
      have c1 : y < 9900 := of_decide_eq_true c
      refine ⟨_, rfl, _, _, rfl, rfl, _, rfl, ?_⟩
      refine ite2 (fun c => ?_) (fun c => ?_)
      rotate_left
      · exact ⟨_, _, rfl, K9⟩
      have c2 : d < 29 := of_decide_eq_true c
      refine ⟨_, rfl, take_q K9 (by decide) fun mo H10 mo0 mo1 K10 => ?_⟩
      have iy1 : inY ((12 * y + m - 1 + mo) / 12) := ⟨by omega, by omega⟩
      have iy2 : inY ((12 * y + m - 1 + (mo + 7)) / 12) := ⟨by omega, by omega⟩
      have mok := mv_ok ok iy1
      rw [min_small c2] at mok
      have dr2 := day_range mok
      rw [← mv_small c2] at dr2
      have ey : 12 * ((12 * y + m - 1 + mo) / 12) + ((12 * y + m - 1 + mo) % 12 + 1) - 1 + 7 = 12 * y + m - 1 + (mo + 7) := by omega
      refine ⟨_, rfl, _, rfl, sp_c_moved_months_use ⟨N, mo, y, m, d, rfl, fun z => absurd ⟨dr0, dr1⟩ z, fun _ => ⟨ok, hN, fun z => absurd iy1 z, fun _ H11 s11 => ?_⟩⟩⟩
      refine sp_c_moved_months_use ⟨mv y m d mo, 7, _, _, d, rfl, fun z => absurd dr2 z, fun _ => ⟨mok, (mv_small c2).symm, fun z => absurd iy2 (by rw [ey] at z; exact z), fun _ H12 s12 => ?_⟩⟩
      rw [mv_add c2]
      refine ⟨_, rfl, _, rfl, _, _, rfl, rfl, sp_c_moved_months_use ⟨N, mo + 7, y, m, d, rfl, fun z => absurd ⟨dr0, dr1⟩ z, fun _ => ⟨ok, hN, fun z => absurd iy2 z, fun _ H13 s13 => ?_⟩⟩⟩
      refine ⟨rfl, false, by simp, ?_⟩
      exact ⟨_, _, rfl, ((K10.same s11).same s12).same s13⟩
    rintro σ H14 ⟨v8, D2, rfl, K14⟩
    -- the week
    refine ⟨_, rfl, _, rfl, .inl ⟨_, rfl, _, _, rfl, rfl, (by show (0 : Int) < _; decide), _, _, rfl, rfl, _, _, rfl, rfl, ?_⟩⟩
    obtain ⟨th, hth⟩ : ∃ z : Int, z = N - N % 7 + 3 := ⟨_, rfl⟩
    have eth : (fun i j : Int => V.int (i + j)) (N - N % 7) 3 = V.int th := by rw [hth]
    rw [eth]
    refine ⟨fun σ H' => ∃ (v10 v11 v12 : Option V), σ = [some (.ref sa), some (.ref p), some (.int y), some (.int m), some (.int d), some (.int N), some (.int km), some v7, v8, some (.int th), v10, v11, v12, none, none, none, none, none, none, none, none, none, none] ∧ Dk (fun _ => none) H' p D2, ?_, ?_⟩
    · refine ⟨_, rfl, _, _, rfl, rfl, _, rfl, ?_⟩
      refine ite2 (fun c => ?_) (fun c => ?_)
      rotate_left
      · refine ⟨_, rfl, ?_⟩
        refine ite2 (fun z => nomatch z) (fun _ => ?_)
        exact ⟨_, _, _, rfl, K14⟩
      have c0 : 1 < y := of_decide_eq_true c
      refine ⟨_, _, rfl, rfl, _, rfl, ?_⟩
      refine ite2 (fun c => ?_) (fun c => ?_)
      rotate_left
      · exact ⟨_, _, _, rfl, K14⟩
      have c1 : y < 9999 := of_decide_eq_true c
      obtain ⟨Y, hYy, hY1, hY2⟩ := near_ex (t := th) ok (by rw [hN]; exact hth)
      have hYi : inY Y := ⟨by omega, by omega⟩
      refine ⟨_, rfl, _, _, rfl, rfl, _, rfl, _, rfl, _, _, rfl, rfl, by show 3 ≤ sizeLine; decide, fun q3 hq3 => ?_⟩
      have s15 := Same.new (o := .tup [.int (y - 1), .int y, .int (y + 1)]) hq3
      have hT3 : (upd H14 q3 (.tup [.int (y - 1), .int y, .int (y + 1)]) : Hp) q3 = _ := upd_same
      refine ⟨q3, rfl, ⟨_, SqT.of hT3⟩, fun E1 hE1 => ?_⟩
      refine lc_fn (walk_tup (K := K) (xs := [V.int (y - 1), V.int y, V.int (y + 1)])) (fun (i : Nat) => if dby (y - 1 + i) ≤ th + 738885 ∧ th + 738885 < dby (y - 1 + i + 1) then some (V.int (y - 1 + i)) else none) (by show 3 ≤ 1000000; decide) hE1 (fun H s => s.tup (SqT.of hT3)) ?_ ?_
      · rintro i x H15 H16 R Nx hi s16 ⟨rfl, hx⟩ hR hNx
        have hx2 : x = V.int (y - 1 + i) := by
          rcases i with _ | _ | _ | i
          · cases hx
            rw [show y - 1 + ((0 : Nat) : Int) = y - 1 by omega]
          · cases hx
            rw [show y - 1 + ((0 + 1 : Nat) : Int) = y by omega]
          · cases hx
            rw [show y - 1 + ((0 + 1 + 1 : Nat) : Int) = y + 1 by omega]
          · simp at hx
        subst hx2
        generalize hz : y - 1 + (i : Int) = z at *
        have hi3 : i < 3 := hi
        have l1 : lawDay z 1 1 = dby z - 738885 := by rw [law_day (by decide) (by decide), dayN_first]
        have l2 : lawDay (z + 1) 1 1 = dby (z + 1) - 738885 := by rw [law_day (by decide) (by decide), dayN_first]
        refine ⟨rfl, ?_⟩
        refine ⟨_, rfl, sp_c_law_day_use ⟨z, 1, 1, rfl, by omega, by decide, ?_⟩⟩
        rw [l1]
        refine ⟨_, rfl, _, _, rfl, rfl, _, rfl, ?_⟩
        refine ite2 (fun c => ?_) (fun c => ?_)
        rotate_left
        · have c' : ¬ dby z - 738885 ≤ th := fun q => c (decide_eq_true q)
          exact ⟨_, rfl, hNx _ (by rw [if_neg (by omega)]) (Same.refl _)⟩
        have c' : dby z - 738885 ≤ th := of_decide_eq_true c
        refine ⟨_, rfl, _, _, rfl, rfl, sp_c_law_day_use ⟨z + 1, 1, 1, rfl, by omega, by decide, ?_⟩⟩
        rw [l2]
        refine ⟨_, _, rfl, rfl, _, rfl, ?_⟩
        refine ite2 (fun e => ?_) (fun e => ?_)
        · have e' : th < dby (z + 1) - 738885 := of_decide_eq_true e
          exact ⟨_, rfl, hR _ _ (by rw [if_pos (by omega)]) (Same.refl _)⟩
        · have e' : ¬ th < dby (z + 1) - 738885 := fun q => e (decide_eq_true q)
          exact hNx _ (by rw [if_neg (by omega)]) (Same.refl _)
      intro H15 s16 hE
      have hE := hE.trans (congrArg (fun l => some (HO.lst l)) (near_list (c := th + 738885) hYy hY1 hY2))
      have K15 := (K14.same s15).same s16
      refine ⟨E1, _, _, _, rfl, rfl, SqL.of hE, rfl, ?_⟩
      -- passed
      have l1 : lawDay Y 1 1 = dby Y - 738885 := by rw [law_day (by decide) (by decide), dayN_first]
      refine ⟨_, rfl, sp_c_law_day_use ⟨Y, 1, 1, rfl, by have := hYi.1; have := hYi.2; omega, by decide, ?_⟩⟩
      rw [l1]
      have dY0 : 0 ≤ dby Y := by
        have := dby_mono (a := 1) (b := Y) hYi.1
        have e : dby 1 = 0 := by decide
        have := hYi.1
        omega
      have hlast : dby 10000 = 3652059 := by decide
      obtain ⟨aa, haa⟩ : ∃ z : Int, z = dby Y - 738885 := ⟨_, rfl⟩
      rw [← haa]
      have yu := year_up (y := Y)
      have th7 : th % 7 = 3 := by omega
      refine ⟨_, rfl, _, _, rfl, rfl, aa, th + 1, rfl, ⟨by omega, by omega, by omega, by omega⟩, fun E2 hE2 => ?_⟩
      refine lc_fn (walk_range (lo := aa) (n := (th + 1 - aa).toNat)) (fun (i : Nat) => if (aa + i) % 7 = 3 then some (V.int (aa + i)) else none) (by omega) hE2 (fun _ _ => trivial) ?_ ?_
      · rintro i x H17 H18 R Nx hi s17 ⟨rfl, hx⟩ hR hNx
        have hx2 : x = V.int (aa + i) := hx
        subst hx2
        refine ⟨rfl, ?_⟩
        refine ⟨_, rfl, .inl ⟨_, rfl, _, _, rfl, rfl, (by show (0 : Int) < _; decide), rfl, _, rfl, ?_⟩⟩
        refine ite2 (fun c => ?_) (fun c => ?_)
        · have c' : (aa + i) % 7 = 3 := V.int.inj (of_decide_eq_true c)
          exact ⟨_, rfl, hR _ _ (by rw [if_pos c']) (Same.refl _)⟩
        · have c' : ¬ (aa + i) % 7 = 3 := fun q => c (decide_eq_true (congrArg V.int q))
          exact hNx _ (by rw [if_neg c']) (Same.refl _)
      intro H17 s17 hE2
      rw [FM_v] at hE2
      have K17 := K15.same s17
      have wc := week_count (a := aa) (t := th) (by omega) th7
      refine ⟨E2, _, rfl, .inl (SqL.of hE2), ?_⟩
      rw [List.length_map, wc]
      have okW2 : okD 4 (.tuple [.int Y, .int ((th - aa) / 7 + 1)]) = true := by simp [okD, okDs]
      refine ⟨_, rfl, sp_c_week_of_use ⟨N, Y, rfl, fun z => absurd ⟨dr0, dr1⟩ z, fun _ => ⟨hYi, by rw [← hth]; exact hY1, by rw [← hth]; exact hY2, fun H18 pw s18 hpw => ?_⟩⟩⟩
      rw [← hth, dayN_first, ← haa] at hpw
      have K18 := K17.same s18
      refine ⟨.ref pw, .tuple [.int Y, .int ((th - aa) / 7 + 1)], rfl, .tup (SqT.of hpw) (.cons (.int _) (.cons (.int _) .nil)), okW2, fun v19 H19 s19 dn19 => ?_⟩
      refine ⟨_, rfl, _, rfl, by show 2 ≤ sizeLine; decide, fun q4 hq4 => ?_⟩
      have s20 := Same.new (o := .tup [.int Y, .int ((th - aa) / 7 + 1)]) hq4
      refine ⟨.ref q4, .tuple [.int Y, .int ((th - aa) / 7 + 1)], rfl, .tup (SqT.of upd_same) (.cons (.int _) (.cons (.int _) .nil)), okW2, fun v21 H21 s21 dn21 => ?_⟩
      exact plain_test 4 dn19 (s20.trans s21) dn21 okW2 (by decide) ⟨_, _, _, rfl, ((K18.same s19).same s20).same s21⟩
    rintro σ H20 ⟨v10, v11, v12, rfl, K20⟩
    refine ⟨_, rfl, take_q K20 (by decide) fun w H21 w0 w1 K21 => ?_⟩
    refine ⟨by show 0 ≤ sizeLine; decide, fun li hli => ?_⟩
    have s22 := Same.new (o := .lst []) hli
    have hpl : p ≠ li := ne_of_none K21.hd hli
    have mb := mlen_bounds (y := y) om0 om1
    refine ⟨_, rfl, _, rfl, sp_c_law_length_use ⟨y, m, rfl, om0, om1, fun H23 s23 => ?_⟩⟩
    refine ⟨_, _, rfl, rfl, 1, mlen y m + 1, rfl, ⟨by omega, by omega, by omega, by omega⟩, for_range (lo := 1) (n := (mlen y m + 1 - 1).toNat) (fun i σ H' => ∃ v15 : Option V, σ = [some (.ref sa), some (.ref p), some (.int y), some (.int m), some (.int d), some (.int N), some (.int km), some v7, v8, some (.int th), v10, v11, v12,  some (.int w), some (.ref li), v15, none, none, none, none, none, none, none] ∧ H' li = some (.lst ((FM (dayN y m 1) i w).map V.int)) ∧ Dk (fun _ => none) H' p D2.tail) ?_ ?_ ?_⟩
    · exact ⟨none, rfl, s23 _ _ upd_same, (K21.same s22).same s23⟩
    · rintro i σ H24 hi ⟨v15, rfl, hL, K24⟩
      have hp1 : lawDay y m (1 + i) = dayN y m 1 + i := by
        rw [law_day om0 om1, dayN_at]
        omega
      have fs := FM_succ (dayN y m 1) i w
      refine ⟨_, rfl, _, rfl, _, rfl, sp_c_law_day_use ⟨y, m, 1 + i, rfl, by omega, by omega, ?_⟩⟩
      rw [hp1]
      refine .inl ⟨_, rfl, _, _, rfl, rfl, (by show (0 : Int) < _; decide), _, rfl, rfl, _, rfl, ?_⟩
      refine ite2 (fun c => ?_) (fun c => ?_)
      · have c' : (dayN y m 1 + i) % 7 = w := V.int.inj (of_decide_eq_true c)
        rw [if_pos c'] at fs
        refine ⟨_, rfl, .inl ⟨rfl, _, SqL.of hL⟩, _, rfl, _, rfl, _, rfl, sp_c_law_day_use ⟨y, m, 1 + i, rfl, by omega, by omega, ?_⟩⟩
        rw [hp1]
        have fl : (FM (dayN y m 1) i w).length ≤ 100 := by
          have := List.length_filterMap_le (fun (j : Nat) => if (dayN y m 1 + j) % 7 = w then some (dayN y m 1 + j) else none) (List.range i)
          rw [List.length_range] at this
          unfold FM
          omega
        refine ⟨li, _, _, rfl, rfl, hL, by rw [List.length_map]; exact small1000000 (by omega), ?_⟩
        refine ⟨_, rfl, by rw [upd_same, fs, List.map_append]; rfl, ⟨rfl, same_none, by rw [upd_ne hpl]; exact K24.hd⟩⟩
      · have c' : ¬ (dayN y m 1 + i) % 7 = w := fun q => c (decide_eq_true (congrArg V.int q))
        rw [if_neg c', List.append_nil] at fs
        exact ⟨_, rfl, by rw [fs]; exact hL, K24⟩
    rintro σ H30 ⟨v15, rfl, hL, K30⟩
    rw [show (mlen y m + 1 - 1).toNat = (mlen y m).toNat by omega] at hL
    have f5 := FM_small (y := y) om0 om1 w0 (by omega : w ≤ 6)
    have ow : ∀ k : Int, okW y m w k ↔ 0 ≤ w ∧ w ≤ 6 ∧ k ≠ 0 ∧ -((FM (dayN y m 1) (mlen y m).toNat w).length : Int) ≤ k ∧ k ≤ ((FM (dayN y m 1) (mlen y m).toNat w).length : Int) := fun k => Iff.rfl
    have wx : ∀ (H : Hp) (Q : VK) (k : Int), 0 ≤ w → w ≤ 6 → k ≠ 0 → -((FM (dayN y m 1) (mlen y m).toNat w).length : Int) ≤ k → k ≤ ((FM (dayN y m 1) (mlen y m).toNat w).length : Int) → (∀ H', Same H H' → Q (.int (wIx (FM (dayN y m 1) (mlen y m).toNat w) k)) H') → sp_c_weekday_in_month a.C_InvalidTime [.int y, .int m, .int w, .int k] H Q E0 := fun H Q k a1 a2 a3 a4 a5 a6 =>
      sp_c_weekday_in_month_use ⟨y, m, w, k, rfl, fun z => absurd ok.1 z, fun _ z => absurd ⟨a1, a2, a3, a4, a5⟩ z, fun _ _ => a6⟩
    generalize FM (dayN y m 1) (mlen y m).toNat w = fs at *
    have el : (fs.map V.int).length = fs.length := List.length_map _
    have at1 : ∀ i : Nat, i < fs.length → (fs.map V.int)[i]? = some (.int (fs.getD i 0)) := fun i hi => by
      rw [List.getElem?_map, List.getD_eq_getElem?_getD, List.getElem?_eq_getElem hi]
      rfl
    have hnl : li ≠ p := hpl.symm
    have hL' := del_some hL hnl
    have K31 := K30.freeze
    generalize (del H30 p : Hp) = G3 at hL' K31
    refine ⟨_, rfl, li, _, rfl, .inl (SqL.of hL), _, _, rfl, rfl, ?_⟩
    rw [el]
    refine ⟨1, (fs.length : Int) + 1, rfl, ⟨by omega, by omega, by omega, by omega⟩, for_range (lo := 1) (n := ((fs.length : Int) + 1 - 1).toNat) (fun i σ H' => ∃ v16 v17 : Option V, σ = [some (.ref sa), some (.ref p), some (.int y), some (.int m), some (.int d), some (.int N), some (.int km), some v7, v8, some (.int th), v10, v11, v12, some (.int w), some (.ref li), v15,  v16, v17, none, none, none, none, none] ∧ Dk G3 H' p D2.tail) ?_ ?_ ?_⟩
    · exact ⟨none, none, rfl, K31⟩
    · rintro i σ H32 hi ⟨v16, v17, rfl, K32⟩
      have ht : (1 + (i : Int)) ≤ fs.length := by omega
      have x1 : wIx fs (1 + i) = fs.getD i 0 := by
        unfold wIx
        rw [if_pos (by omega), show (1 + (i : Int) - 1).toNat = i by omega]
      have x2 : wIx fs (-(1 + i)) = fs.getD (fs.length - 1 - i) 0 := by
        unfold wIx
        rw [if_neg (by omega), show ((fs.length : Int) + -(1 + (i : Int))).toNat = fs.length - 1 - i by omega]
      refine ⟨_, rfl, _, rfl, _, rfl, _, rfl, wx _ _ (1 + i) w0 (by omega) (by omega) (by omega) (by omega) fun H33 s33 => ?_⟩
      rw [x1]
      refine ⟨_, rfl, _, rfl, _, rfl, _, rfl, _, rfl, wx _ _ (-(1 + i)) w0 (by omega) (by omega) (by omega) (by omega) fun H34 s34 => ?_⟩
      rw [x2]
      refine ⟨by show 2 ≤ sizeLine; decide, fun l1 hl1 => ?_⟩
      have okL : okD 4 (.list [.int (fs.getD i 0), .int (fs.getD (fs.length - 1 - i) 0)]) = true := by simp [okD, okDs]
      have K35 := ((K32.same s33).same s34).same (Same.new (o := .lst [.int (fs.getD i 0), .int (fs.getD (fs.length - 1 - i) 0)]) hl1)
      refine ⟨_, rfl, .ref l1, .list [.int (fs.getD i 0), .int (fs.getD (fs.length - 1 - i) 0)], rfl, .lst (SqL.of upd_same) (.cons (.int _) (.cons (.int _) .nil)), okL, fun v36 H36 s36 dn36 => ?_⟩
      have K36 := K35.same s36
      refine ⟨_, rfl, _, rfl, _, _, rfl, rfl, li, _, _, _, rfl, rfl, SqL.of (K36.sm _ _ hL'), atI_nat' (j := i) (by omega) (at1 _ (by omega)), ?_⟩
      refine ⟨_, rfl, _, rfl, _, rfl, li, _, _, .int (fs.getD (fs.length - 1 - i) 0), rfl, rfl, SqL.of (K36.sm _ _ hL'), ?_, by show 2 ≤ sizeLine; decide, fun l2 hl2 => ?_⟩
      · unfold atI ixN
        rw [if_neg (by omega), el, if_pos (by omega)]
        show (fs.map V.int)[(-(1 + (i : Int)) + (fs.length : Int)).toNat]? = _
        rw [show (-(1 + (i : Int)) + (fs.length : Int)).toNat = fs.length - 1 - i by omega]
        exact at1 _ (by omega)
      have s37 := Same.new (o := .lst [.int (fs.getD i 0), .int (fs.getD (fs.length - 1 - i) 0)]) hl2
      refine ⟨.ref l2, .list [.int (fs.getD i 0), .int (fs.getD (fs.length - 1 - i) 0)], rfl, .lst (SqL.of upd_same) (.cons (.int _) (.cons (.int _) .nil)), okL, fun v38 H38 s38 dn38 => ?_⟩
      exact plain_test 4 dn36 (s37.trans s38) dn38 okL (by decide) ⟨_, _, rfl, (K36.same s37).same s38⟩
    rintro σ H40 ⟨v16, v17, rfl, K40⟩
    have iy : inY y := ⟨oy0, oy1⟩
    refine ⟨_, rfl, _, rfl, _, rfl, _, rfl, li, _, rfl, .inl (SqL.of (K40.sm _ _ hL')), _, _, rfl, rfl, ?_⟩
    rw [el]
    refine sp_c_law_why_use ⟨2, y, m, w, (fs.length : Int) + 1, "weekday", rfl, by decide, .inr (.inr (.inl ⟨rfl, .inr ⟨ok.1, fun z => by have := ((ow _).mp z).2.2.2.2; omega, rfl⟩⟩)), fun H41 s41 => ?_⟩
    refine ⟨_, rfl, _, rfl, _, rfl, ?_⟩
    refine sp_c_law_why_use ⟨2, y, m, w, 0, "weekday", rfl, by decide, .inr (.inr (.inl ⟨rfl, .inr ⟨ok.1, fun z => z.2.2.1 rfl, rfl⟩⟩)), fun H42 s42 => ?_⟩
    refine ⟨_, rfl, _, rfl, ?_⟩
    refine sp_c_law_why_use ⟨2, y, m, 7, 1, "weekday", rfl, by decide, .inr (.inr (.inl ⟨rfl, .inr ⟨ok.1, fun z => absurd z.2.1 (by decide), rfl⟩⟩)), fun H43 s43 => ?_⟩
    refine ⟨by show 3 ≤ sizeLine; decide, fun la hla => ?_⟩
    have hA : (upd H43 la (.lst [.str "weekday", .str "weekday", .str "weekday"]) : Hp) la = _ := upd_same
    have K43 := (((K40.same s41).same s42).same s43).same (Same.new (o := .lst [.str "weekday", .str "weekday", .str "weekday"]) hla)
    generalize (upd H43 la (.lst [.str "weekday", .str "weekday", .str "weekday"]) : Hp) = H44 at hA K43 ⊢
    refine ⟨_, rfl, _, rfl, _, rfl, _, rfl, ?_⟩
    refine sp_c_law_why_use ⟨2, y, m, -1, 1, "weekday", rfl, by decide, .inr (.inr (.inl ⟨rfl, .inr ⟨ok.1, fun z => absurd z.1 (by decide), rfl⟩⟩)), fun H45 s45 => ?_⟩
    refine ⟨_, rfl, _, rfl, _, rfl, _, rfl, ?_⟩
    refine sp_c_law_why_use ⟨2, y, m, w, -6, "weekday", rfl, by decide, .inr (.inr (.inl ⟨rfl, .inr ⟨ok.1, fun z => by have := ((ow _).mp z).2.2.2.1; omega, rfl⟩⟩)), fun H46 s46 => ?_⟩
    refine ⟨_, rfl, ?_⟩
    refine sp_c_law_why_use ⟨2, y, 13, 9, 0, "date", rfl, by decide, .inr (.inr (.inl ⟨rfl, .inl ⟨fun z => absurd z.2.2.2 (by decide), rfl⟩⟩)), fun H47 s47 => ?_⟩
    refine ⟨by show 3 ≤ sizeLine; decide, fun lb hlb => ?_⟩
    have s48 := Same.new (o := .lst [.str "weekday", .str "weekday", .str "date"]) hlb
    refine ⟨la, lb, _, _, rfl, rfl, s48 _ _ (s47 _ _ (s46 _ _ (s45 _ _ hA))), upd_same, by show 6 ≤ sizeLine; decide, fun lc hlc => ?_⟩
    have hC : (upd (upd H47 lb (.lst [.str "weekday", .str "weekday", .str "date"])) lc (.lst ([.str "weekday", .str "weekday", .str "weekday"] ++ [.str "weekday", .str "weekday", .str "date"])) : Hp) lc = some (.lst [.str "weekday", .str "weekday", .str "weekday", .str "weekday", .str "weekday", .str "date"]) := upd_same
    have K49 := ((((K43.same s45).same s46).same s47).same s48).same (Same.new (o := .lst ([.str "weekday", .str "weekday", .str "weekday"] ++ [.str "weekday", .str "weekday", .str "date"])) hlc)
    generalize (upd (upd H47 lb (.lst [.str "weekday", .str "weekday", .str "date"])) lc (.lst ([.str "weekday", .str "weekday", .str "weekday"] ++ [.str "weekday", .str "weekday", .str "date"])) : Hp) = H49 at hC K49 ⊢
    have dW : ∀ {H : Hp} {q : Addr}, H q = some (.lst [.str "weekday", .str "weekday", .str "weekday", .str "weekday", .str "weekday", .str "date"]) → Dp K H (.ref q) (.list [.str "weekday", .str "weekday", .str "weekday", .str "weekday", .str "weekday", .str "date"]) := fun h => .lst (SqL.of h) (.cons (.str _) (.cons (.str _) (.cons (.str _) (.cons (.str _) (.cons (.str _) (.cons (.str _) .nil))))))
    refine ⟨fun σ H' => σ = [some (.ref sa), some (.ref p), some (.int y), some (.int m), some (.int d), some (.int N), some (.int km), some v7, v8, some (.int th), v10, v11, v12, some (.int w), some (.ref li), v15, v16, v17,  some (.ref lc), none, none, none, none] ∧ Dk G3 H' p D2.tail, ?_, ?_⟩
    · refine ⟨_, rfl, by show 1 ≤ sizeLine; decide, fun ld hld => ?_⟩
      have s50 := Same.new (o := .lst [.str "weekday"]) hld
      refine ⟨ld, 5, _, rfl, rfl, upd_same, by decide, by decide, by show 5 ≤ sizeLine; decide, fun le hle => ?_⟩
      have s51 := Same.new (o := .lst [.str "weekday", .str "weekday", .str "weekday", .str "weekday", .str "weekday"]) hle
      refine ⟨by show 1 ≤ sizeLine; decide, fun lf hlf => ?_⟩
      have s52 := Same.new (o := .lst [.str "date"]) hlf
      refine ⟨le, lf, _, _, rfl, rfl, s52 _ _ upd_same, upd_same, by show 6 ≤ sizeLine; decide, fun lg hlg => ?_⟩
      have s53 := Same.new (o := .lst [.str "weekday", .str "weekday", .str "weekday", .str "weekday", .str "weekday", .str "date"]) hlg
      refine data_same (dW (s53 _ _ (s52 _ _ (s51 _ _ (s50 _ _ hC))))) (dW upd_same) (n := 1) (by decide +kernel) (by decide) ?_
      exact ⟨_, rfl, rfl, (((K49.same s50).same s51).same s52).same s53⟩
    rintro σ H60 ⟨rfl, K60⟩
    obtain ⟨_, _, e7, e22, e25⟩ := easter_ok iy
    have es : ∀ (H : Hp) (Q : VK), (∀ H', Same H H' → Q (.int (lawE y)) H') → sp_c_easter a.C_InvalidTime [.int y] H Q E0 := fun H Q h => sp_c_easter_use ⟨y, rfl, fun z => absurd iy z, fun _ => h⟩
    have okE : okD 4 (.int (lawE y)) = true := by simp [okD]
    refine ⟨fun σ H' => σ = [some (.ref sa), some (.ref p), some (.int y), some (.int m), some (.int d), some (.int N), some (.int km), some v7, v8, some (.int th), v10, v11, v12, some (.int w), some (.ref li), v15, v16, v17,  some (.ref lc), none, none, none, none] ∧ Dk G3 H' p D2.tail, ?_, ?_⟩
    · refine ⟨_, rfl, es _ _ fun H61 s61 => ?_⟩
      refine ⟨.int (lawE y), .int (lawE y), rfl, .int _, okE, fun v62 H62 s62 dn62 => ?_⟩
      refine ⟨_, rfl, sp_c_law_easter_use ⟨y, rfl, iy, ?_⟩⟩
      refine ⟨.int (lawE y), .int (lawE y), rfl, .int _, okE, fun v63 H63 s63 dn63 => ?_⟩
      refine plain_test 4 dn62 s63 dn63 okE (by decide) ?_
      refine ite2 (fun z => nomatch z) (fun _ => ?_)
      have K63 := ((K60.same s61).same s62).same s63
      refine ⟨_, rfl, es _ _ fun H64 s64 => ?_⟩
      refine .inl ⟨_, rfl, _, _, rfl, rfl, (by show (0 : Int) < _; decide), ?_⟩
      refine ⟨rfl, false, by show (V.bl !decide (V.int (lawE y % 7) = V.int 6)) = V.bl false; rw [e7]; simp, ?_⟩
      exact ⟨rfl, K63.same s64⟩
    rintro σ H70 ⟨rfl, K70⟩
    refine ⟨fun σ H' => σ = [some (.ref sa), some (.ref p), some (.int y), some (.int m), some (.int d), some (.int N), some (.int km), some v7, v8, some (.int th), v10, v11, v12, some (.int w), some (.ref li), v15, v16, v17,  some (.ref lc), none, none, none, none] ∧ Dk G3 H' p D2.tail, ?_, ?_⟩
    · refine ⟨_, rfl, sp_c_law_day_use ⟨y, 3, 22, rfl, by omega, by decide, ?_⟩⟩
      rw [law_day (by decide) (by decide)]
      refine ⟨_, rfl, es _ _ fun H71 s71 => ?_⟩
      refine ⟨_, _, rfl, rfl, _, rfl, ?_⟩
      refine ite2 (fun c => ?_) (fun c => absurd (decide_eq_true e22) c)
      refine ⟨_, rfl, sp_c_law_day_use ⟨y, 4, 25, rfl, by omega, by decide, ?_⟩⟩
      rw [law_day (by decide) (by decide)]
      refine ⟨_, _, rfl, rfl, _, rfl, ?_⟩
      refine ite2 (fun z => absurd z (by simp [e25])) (fun _ => ?_)
      exact ⟨rfl, K70.same s71⟩
    rintro σ H80 ⟨rfl, K80⟩
    refine ⟨by show 3 ≤ sizeLine; decide, fun b1 hb1 => ?_⟩
    have u1 := Same.new (o := .tup [.int 2024, .int 3, .int 31]) hb1
    have g1 : (upd H80 b1 (.tup [.int 2024, .int 3, .int 31]) : Hp) b1 = some (.tup [.int 2024, .int 3, .int 31]) := upd_same
    have KB1 := K80.same u1
    generalize (upd H80 b1 (.tup [.int 2024, .int 3, .int 31]) : Hp) = J1 at u1 g1 KB1 ⊢
    refine ⟨by show 3 ≤ sizeLine; decide, fun b2 hb2 => ?_⟩
    have u2 := Same.new (o := .tup [.int 2025, .int 4, .int 20]) hb2
    have g2 : (upd J1 b2 (.tup [.int 2025, .int 4, .int 20]) : Hp) b2 = some (.tup [.int 2025, .int 4, .int 20]) := upd_same
    have KB2 := KB1.same u2
    generalize (upd J1 b2 (.tup [.int 2025, .int 4, .int 20]) : Hp) = J2 at u2 g2 KB2 ⊢
    replace g1 := u2 _ _ g1
    refine ⟨by show 3 ≤ sizeLine; decide, fun b3 hb3 => ?_⟩
    have u3 := Same.new (o := .tup [.int 2000, .int 4, .int 23]) hb3
    have g3 : (upd J2 b3 (.tup [.int 2000, .int 4, .int 23]) : Hp) b3 = some (.tup [.int 2000, .int 4, .int 23]) := upd_same
    have KB3 := KB2.same u3
    generalize (upd J2 b3 (.tup [.int 2000, .int 4, .int 23]) : Hp) = J3 at u3 g3 KB3 ⊢
    replace g1 := u3 _ _ g1
    replace g2 := u3 _ _ g2
    refine ⟨by show 3 ≤ sizeLine; decide, fun b4 hb4 => ?_⟩
    have u4 := Same.new (o := .tup [.int 1981, .int 4, .int 19]) hb4
    have g4 : (upd J3 b4 (.tup [.int 1981, .int 4, .int 19]) : Hp) b4 = some (.tup [.int 1981, .int 4, .int 19]) := upd_same
    have KB4 := KB3.same u4
    generalize (upd J3 b4 (.tup [.int 1981, .int 4, .int 19]) : Hp) = J4 at u4 g4 KB4 ⊢
    replace g1 := u4 _ _ g1
    replace g2 := u4 _ _ g2
    replace g3 := u4 _ _ g3
    refine ⟨by show 3 ≤ sizeLine; decide, fun b5 hb5 => ?_⟩
    have u5 := Same.new (o := .tup [.int 1954, .int 4, .int 18]) hb5
    have g5 : (upd J4 b5 (.tup [.int 1954, .int 4, .int 18]) : Hp) b5 = some (.tup [.int 1954, .int 4, .int 18]) := upd_same
    have KB5 := KB4.same u5
    generalize (upd J4 b5 (.tup [.int 1954, .int 4, .int 18]) : Hp) = J5 at u5 g5 KB5 ⊢
    replace g1 := u5 _ _ g1
    replace g2 := u5 _ _ g2
    replace g3 := u5 _ _ g3
    replace g4 := u5 _ _ g4
    refine ⟨by show 3 ≤ sizeLine; decide, fun b6 hb6 => ?_⟩
    have u6 := Same.new (o := .tup [.int 1818, .int 3, .int 22]) hb6
    have g6 : (upd J5 b6 (.tup [.int 1818, .int 3, .int 22]) : Hp) b6 = some (.tup [.int 1818, .int 3, .int 22]) := upd_same
    have KB6 := KB5.same u6
    generalize (upd J5 b6 (.tup [.int 1818, .int 3, .int 22]) : Hp) = J6 at u6 g6 KB6 ⊢
    replace g1 := u6 _ _ g1
    replace g2 := u6 _ _ g2
    replace g3 := u6 _ _ g3
    replace g4 := u6 _ _ g4
    replace g5 := u6 _ _ g5
    refine ⟨by show 3 ≤ sizeLine; decide, fun b7 hb7 => ?_⟩
    have u7 := Same.new (o := .tup [.int 1943, .int 4, .int 25]) hb7
    have g7 : (upd J6 b7 (.tup [.int 1943, .int 4, .int 25]) : Hp) b7 = some (.tup [.int 1943, .int 4, .int 25]) := upd_same
    have KB7 := KB6.same u7
    generalize (upd J6 b7 (.tup [.int 1943, .int 4, .int 25]) : Hp) = J7 at u7 g7 KB7 ⊢
    replace g1 := u7 _ _ g1
    replace g2 := u7 _ _ g2
    replace g3 := u7 _ _ g3
    replace g4 := u7 _ _ g4
    replace g5 := u7 _ _ g5
    replace g6 := u7 _ _ g6
    refine ⟨by show 7 ≤ sizeLine; decide, fun lk hlk => ?_⟩
    have u0 := Same.new (o := .lst [.ref b1, .ref b2, .ref b3, .ref b4, .ref b5, .ref b6, .ref b7]) hlk
    have hK : (upd J7 lk (.lst [.ref b1, .ref b2, .ref b3, .ref b4, .ref b5, .ref b6, .ref b7]) : Hp) lk = some (.lst [.ref b1, .ref b2, .ref b3, .ref b4, .ref b5, .ref b6, .ref b7]) := upd_same
    have KBx := KB7.same u0
    generalize (upd J7 lk (.lst [.ref b1, .ref b2, .ref b3, .ref b4, .ref b5, .ref b6, .ref b7]) : Hp) = JX at u0 hK KBx ⊢
    replace g1 := u0 _ _ g1
    replace g2 := u0 _ _ g2
    replace g3 := u0 _ _ g3
    replace g4 := u0 _ _ g4
    replace g5 := u0 _ _ g5
    replace g6 := u0 _ _ g6
    replace g7 := u0 _ _ g7
    have KF := KBx.freeze
    refine ⟨_, rfl, _, rfl, take_q KF (by decide) fun bi H90 bi0 bi1 K90 => ?_⟩
    have pk : ∃ (j : Nat) (b : Addr) (x1 x2 x3 : Int), bi = j ∧ [.ref b1, .ref b2, .ref b3, .ref b4, .ref b5, .ref b6, .ref b7][j]? = some (V.ref b) ∧ JX b = some (.tup [.int x1, .int x2, .int x3]) ∧ inY x1 ∧ 1 ≤ x2 ∧ x2 ≤ 12 ∧ lawE x1 = lawDay x1 x2 x3 := by
      have : bi = 0 ∨ bi = 1 ∨ bi = 2 ∨ bi = 3 ∨ bi = 4 ∨ bi = 5 ∨ bi = 6 := by omega
      rcases this with rfl | rfl | rfl | rfl | rfl | rfl | rfl
      · exact ⟨0, _, _, _, _, rfl, rfl, g1, by unfold inY; decide, by decide, by decide, by decide⟩
      · exact ⟨1, _, _, _, _, rfl, rfl, g2, by unfold inY; decide, by decide, by decide, by decide⟩
      · exact ⟨2, _, _, _, _, rfl, rfl, g3, by unfold inY; decide, by decide, by decide, by decide⟩
      · exact ⟨3, _, _, _, _, rfl, rfl, g4, by unfold inY; decide, by decide, by decide, by decide⟩
      · exact ⟨4, _, _, _, _, rfl, rfl, g5, by unfold inY; decide, by decide, by decide, by decide⟩
      · exact ⟨5, _, _, _, _, rfl, rfl, g6, by unfold inY; decide, by decide, by decide, by decide⟩
      · exact ⟨6, _, _, _, _, rfl, rfl, g7, by unfold inY; decide, by decide, by decide, by decide⟩
    obtain ⟨bj, b, x1, x2, x3, rfl, hbj, hb, hy1, hx2, hx3, hE1⟩ := pk
    have nb : b ≠ p := fun z => by have := KBx.hd; rw [← z, hb] at this; simp [dk] at this
    have nl : lk ≠ p := fun z => by have h2 := KB7.hd; rw [← z, hlk] at h2; cases h2
    refine ⟨lk, _, _, .ref b, rfl, rfl, SqL.of (K90.get nl hK), atI_nat hbj, ?_⟩
    have hb' := K90.get nb hb
    refine ⟨fun σ H' => σ = [some (.ref sa), some (.ref p), some (.int y), some (.int m), some (.int d), some (.int N), some (.int km), some v7, v8, some (.int th), some (.ref b), v11, v12, some (.int w), some (.ref li), v15, v16, v17, some (.ref lc), some (.ref lk), none, none, none], ?_, ?_⟩
    · refine ⟨_, rfl, b, _, _, _, rfl, rfl, SqT.of hb', rfl, ?_⟩
      refine sp_c_easter_use ⟨x1, rfl, fun z => absurd hy1 z, fun _ H91 s91 => ?_⟩
      have hb2 := s91 _ _ hb'
      refine ⟨_, rfl, b, _, _, _, rfl, rfl, SqT.of hb2, rfl, ?_⟩
      refine ⟨_, rfl, b, _, _, _, rfl, rfl, SqT.of hb2, rfl, ?_⟩
      refine ⟨_, rfl, b, _, _, _, rfl, rfl, SqT.of hb2, rfl, ?_⟩
      refine sp_c_law_day_use ⟨x1, x2, x3, rfl, by have := hy1.1; have := hy1.2; omega, by omega, ?_⟩
      rw [← hE1]
      exact ⟨rfl, false, by simp, rfl⟩
    rintro σ H92 rfl
    have hf : lawDay 1 1 1 = -738885 := by decide
    have hl : lawDay 9999 12 31 = dby 10000 - 1 - 738885 := by decide
    have hl2 : dby 10000 - 1 - 738885 = 2913173 := by decide
    refine sp_c_law_day_use ⟨1, 1, 1, rfl, by decide, by decide, ?_⟩
    refine sp_c_law_day_use ⟨9999, 12, 31, rfl, by decide, by decide, ?_⟩
    rw [hf, hl, hl2]
    have nD1 : ¬ inD (-738885 - 1) := fun z => absurd z.1 (by decide)
    have nD2 : ¬ inD (2913173 + 1) := fun z => by have := z.2; omega
    have yD : inD 2913173 := ⟨by decide, by omega⟩
    have okL : okD8 9999 12 31 := by unfold okD8 okYM; decide
    have dL : dayN 9999 12 31 = 2913173 := by decide
    refine ⟨_, rfl, _, _, rfl, rfl, sp_c_law_why_use ⟨0, -738885 - 1, 5, 0, 0, "day", rfl, by decide, .inl ⟨rfl, .inl ⟨nD1, rfl⟩⟩, fun H93 s93 => ?_⟩⟩
    refine ⟨_, rfl, sp_c_law_why_use ⟨0, 2913173, 1, 0, 0, "date", rfl, by decide, .inl ⟨rfl, .inr ⟨yD, rfl, 9999, 12, 31, okL, dL, by unfold inY; decide⟩⟩, fun H94 s94 => ?_⟩⟩
    refine ⟨_, rfl, _, _, rfl, rfl, sp_c_law_why_use ⟨1, 2913173 + 1, 0, 0, 0, "day", rfl, by decide, .inr (.inl ⟨rfl, nD2, rfl⟩), fun H95 s95 => ?_⟩⟩
    refine sp_c_law_why_use ⟨3, 0, 0, 0, 0, "date", rfl, by decide, .inr (.inr (.inr ⟨by decide, by unfold inY; decide, rfl⟩)), fun H96 s96 => ?_⟩
    refine ⟨by show 4 ≤ sizeLine; decide, fun l4 hl4 => ?_⟩
    refine ⟨_, rfl, by show 4 ≤ sizeLine; decide, fun l5 hl5 => ?_⟩
    have s97 := Same.new (o := .lst [.str "day", .str "date", .str "day", .str "date"]) hl5
    exact data_eq (d := .list [.str "day", .str "date", .str "day", .str "date"]) (n := 1) (.lst (SqL.of (s97 _ _ upd_same)) (.cons (.str _) (.cons (.str _) (.cons (.str _) (.cons (.str _) .nil))))) (.lst (SqL.of upd_same) (.cons (.str _) (.cons (.str _) (.cons (.str _) (.cons (.str _) .nil))))) (by decide +kernel) (by decide) (k _)
theorem all_mk {l : PySem.W.OpenLaw} {w : World} {K : PySem.W.Frag} {h : Heap} {mg : Str → Option Value} {fa : Addr} (X : K.In h) (G : h.Ns mainGlobals mg) (hfa : mg "law" = some (.ref fa))
    {C_SlotError C_InvalidTime C_InvalidSlot : Addr} {A_LENGTHS : Addr} {dLENGTHS : Option Addr} {nLENGTHS : Nat} {slLENGTHS : Array (Option Value)} {tLENGTHS0 tLENGTHS1 tLENGTHS2 tLENGTHS3 tLENGTHS4 tLENGTHS5 tLENGTHS6 tLENGTHS7 tLENGTHS8 tLENGTHS9 tLENGTHS10 tLENGTHS11 : Tok} {t_FIRST_YEAR : Tok}  {t_LAST_YEAR : Tok}  {t_DAYS_BEFORE : Tok} 
    {f0 : Addr} {od0 an0 : Option Addr} {sl0 : Array (Option Value)} {oc0 kV0 dc0 pm0 cd0 ct0 : Value}
    {f1 : Addr} {od1 an1 : Option Addr} {sl1 : Array (Option Value)} {oc1 kV1 dc1 pm1 cd1 ct1 : Value}
    {f2 : Addr} {od2 an2 : Option Addr} {sl2 : Array (Option Value)} {oc2 kV2 dc2 pm2 cd2 ct2 : Value}
    {f3 : Addr} {od3 an3 : Option Addr} {sl3 : Array (Option Value)} {oc3 kV3 dc3 pm3 cd3 ct3 : Value}
    {f4 : Addr} {od4 an4 : Option Addr} {sl4 : Array (Option Value)} {oc4 kV4 dc4 pm4 cd4 ct4 : Value}
    {f5 : Addr} {od5 an5 : Option Addr} {sl5 : Array (Option Value)} {oc5 kV5 dc5 pm5 cd5 ct5 : Value}
    {f6 : Addr} {od6 an6 : Option Addr} {sl6 : Array (Option Value)} {oc6 kV6 dc6 pm6 cd6 ct6 : Value}
    {f7 : Addr} {od7 an7 : Option Addr} {sl7 : Array (Option Value)} {oc7 kV7 dc7 pm7 cd7 ct7 : Value}
    {f8 : Addr} {od8 an8 : Option Addr} {sl8 : Array (Option Value)} {oc8 kV8 dc8 pm8 cd8 ct8 : Value}
    {f9 : Addr} {od9 an9 : Option Addr} {sl9 : Array (Option Value)} {oc9 kV9 dc9 pm9 cd9 ct9 : Value}
    {f10 : Addr} {od10 an10 : Option Addr} {sl10 : Array (Option Value)} {oc10 kV10 dc10 pm10 cd10 ct10 : Value}
    {f11 : Addr} {od11 an11 : Option Addr} {sl11 : Array (Option Value)} {oc11 kV11 dc11 pm11 cd11 ct11 : Value}
    {f12 : Addr} {od12 an12 : Option Addr} {sl12 : Array (Option Value)} {oc12 kV12 dc12 pm12 cd12 ct12 : Value}
    {f13 : Addr} {od13 an13 : Option Addr} {sl13 : Array (Option Value)} {oc13 kV13 dc13 pm13 cd13 ct13 : Value}
    {f14 : Addr} {od14 an14 : Option Addr} {sl14 : Array (Option Value)} {oc14 kV14 dc14 pm14 cd14 ct14 : Value}
    {f15 : Addr} {od15 an15 : Option Addr} {sl15 : Array (Option Value)} {oc15 kV15 dc15 pm15 cd15 ct15 : Value}
    {f16 : Addr} {od16 an16 : Option Addr} {sl16 : Array (Option Value)} {oc16 kV16 dc16 pm16 cd16 ct16 : Value}
    {f17 : Addr} {od17 an17 : Option Addr} {sl17 : Array (Option Value)} {oc17 kV17 dc17 pm17 cd17 ct17 : Value}
    {f18 : Addr} {od18 an18 : Option Addr} {sl18 : Array (Option Value)} {oc18 kV18 dc18 pm18 cd18 ct18 : Value}
    {f19 : Addr} {od19 an19 : Option Addr} {sl19 : Array (Option Value)} {oc19 kV19 dc19 pm19 cd19 ct19 : Value}
    {f20 : Addr} {od20 an20 : Option Addr} {sl20 : Array (Option Value)} {oc20 kV20 dc20 pm20 cd20 ct20 : Value}
    {f21 : Addr} {od21 an21 : Option Addr} {sl21 : Array (Option Value)} {oc21 kV21 dc21 pm21 cd21 ct21 : Value}
    {f22 : Addr} {od22 an22 : Option Addr} {sl22 : Array (Option Value)} {oc22 kV22 dc22 pm22 cd22 ct22 : Value}
    {f23 : Addr} {od23 an23 : Option Addr} {sl23 : Array (Option Value)} {oc23 kV23 dc23 pm23 cd23 ct23 : Value}
    {f24 : Addr} {od24 an24 : Option Addr} {sl24 : Array (Option Value)} {oc24 kV24 dc24 pm24 cd24 ct24 : Value}
    {nm_InvalidTime q_InvalidTime : Str} {N_InvalidTime : Addr} {bs_InvalidTime bm_InvalidTime : List Value} {sn_InvalidTime : List Str} {sub_InvalidTime : List Value} {ab_InvalidTime : Bool} {col_InvalidTime : Option Bool} {dd_InvalidTime : Option Addr} {m0_InvalidTime m1_InvalidTime m2_InvalidTime m3_InvalidTime m5_InvalidTime : Option Value}
    {nm_InvalidSlot q_InvalidSlot : Str} {N_InvalidSlot : Addr} {bs_InvalidSlot bm_InvalidSlot : List Value} {sn_InvalidSlot : List Str} {sub_InvalidSlot : List Value} {ab_InvalidSlot : Bool} {col_InvalidSlot : Option Bool} {dd_InvalidSlot : Option Addr} {m0_InvalidSlot m1_InvalidSlot m2_InvalidSlot m3_InvalidSlot m5_InvalidSlot : Option Value}
    (g_SlotError : PySem.W.nsIn K mainGlobals "SlotError" = some (some (.ref C_SlotError)))
    (g_InvalidTime : PySem.W.nsIn K mainGlobals "InvalidTime" = some (some (.ref C_InvalidTime)))
    (g_InvalidSlot : PySem.W.nsIn K mainGlobals "InvalidSlot" = some (some (.ref C_InvalidSlot)))
    (a0 : PySem.W.findIn K (.ref C_InvalidTime) "__init__" = some (some (.ref f0)))
    (l0 : K.lookup f0 = some ⟨oc0, od0, .func (PySem.W.fnOf "__init__" "InvalidTime.__init__" (defArgs st_c_InvalidTime_init) (defBody st_c_InvalidTime_init) (defScope st_c_InvalidTime_init) .none kV0 dc0 pm0 an0 cd0 ct0), sl0⟩)
    (c0 : PySem.W.codeIn K cd0 "InvalidTime.__init__" = true)
    (k0 : PySem.W.keepIn K (.ref f0) = true)
    (a1 : PySem.W.findIn K (.ref C_InvalidSlot) "__init__" = some (some (.ref f1)))
    (l1 : K.lookup f1 = some ⟨oc1, od1, .func (PySem.W.fnOf "__init__" "InvalidSlot.__init__" (defArgs st_c_InvalidSlot_init) (defBody st_c_InvalidSlot_init) (defScope st_c_InvalidSlot_init) .none kV1 dc1 pm1 an1 cd1 ct1), sl1⟩)
    (c1 : PySem.W.codeIn K cd1 "InvalidSlot.__init__" = true)
    (k1 : PySem.W.keepIn K (.ref f1) = true)
    (a2 : PySem.W.nsIn K mainGlobals "is_leap" = some (some (.ref f2)))
    (l2 : K.lookup f2 = some ⟨oc2, od2, .func (PySem.W.fnOf "is_leap" "is_leap" (defArgs st_c_is_leap) (defBody st_c_is_leap) (defScope st_c_is_leap) .none kV2 dc2 pm2 an2 cd2 ct2), sl2⟩)
    (c2 : PySem.W.codeIn K cd2 "is_leap" = true)
    (k2 : PySem.W.keepIn K (.ref f2) = true)
    (a3 : PySem.W.nsIn K mainGlobals "check_year" = some (some (.ref f3)))
    (l3 : K.lookup f3 = some ⟨oc3, od3, .func (PySem.W.fnOf "check_year" "check_year" (defArgs st_c_check_year) (defBody st_c_check_year) (defScope st_c_check_year) .none kV3 dc3 pm3 an3 cd3 ct3), sl3⟩)
    (c3 : PySem.W.codeIn K cd3 "check_year" = true)
    (k3 : PySem.W.keepIn K (.ref f3) = true)
    (a4 : PySem.W.nsIn K mainGlobals "month_length" = some (some (.ref f4)))
    (l4 : K.lookup f4 = some ⟨oc4, od4, .func (PySem.W.fnOf "month_length" "month_length" (defArgs st_c_month_length) (defBody st_c_month_length) (defScope st_c_month_length) .none kV4 dc4 pm4 an4 cd4 ct4), sl4⟩)
    (c4 : PySem.W.codeIn K cd4 "month_length" = true)
    (k4 : PySem.W.keepIn K (.ref f4) = true)
    (a5 : PySem.W.nsIn K mainGlobals "days_before_year" = some (some (.ref f5)))
    (l5 : K.lookup f5 = some ⟨oc5, od5, .func (PySem.W.fnOf "days_before_year" "days_before_year" (defArgs st_c_days_before_year) (defBody st_c_days_before_year) (defScope st_c_days_before_year) .none kV5 dc5 pm5 an5 cd5 ct5), sl5⟩)
    (c5 : PySem.W.codeIn K cd5 "days_before_year" = true)
    (k5 : PySem.W.keepIn K (.ref f5) = true)
    (a6 : PySem.W.nsIn K mainGlobals "day_of" = some (some (.ref f6)))
    (l6 : K.lookup f6 = some ⟨oc6, od6, .func (PySem.W.fnOf "day_of" "day_of" (defArgs st_c_day_of) (defBody st_c_day_of) (defScope st_c_day_of) .none kV6 dc6 pm6 an6 cd6 ct6), sl6⟩)
    (c6 : PySem.W.codeIn K cd6 "day_of" = true)
    (k6 : PySem.W.keepIn K (.ref f6) = true)
    (a7 : PySem.W.nsIn K mainGlobals "check_day" = some (some (.ref f7)))
    (l7 : K.lookup f7 = some ⟨oc7, od7, .func (PySem.W.fnOf "check_day" "check_day" (defArgs st_c_check_day) (defBody st_c_check_day) (defScope st_c_check_day) .none kV7 dc7 pm7 an7 cd7 ct7), sl7⟩)
    (c7 : PySem.W.codeIn K cd7 "check_day" = true)
    (k7 : PySem.W.keepIn K (.ref f7) = true)
    (a8 : PySem.W.nsIn K mainGlobals "date_of" = some (some (.ref f8)))
    (l8 : K.lookup f8 = some ⟨oc8, od8, .func (PySem.W.fnOf "date_of" "date_of" (defArgs st_c_date_of) (defBody st_c_date_of) (defScope st_c_date_of) .none kV8 dc8 pm8 an8 cd8 ct8), sl8⟩)
    (c8 : PySem.W.codeIn K cd8 "date_of" = true)
    (k8 : PySem.W.keepIn K (.ref f8) = true)
    (a9 : PySem.W.nsIn K mainGlobals "weekday" = some (some (.ref f9)))
    (l9 : K.lookup f9 = some ⟨oc9, od9, .func (PySem.W.fnOf "weekday" "weekday" (defArgs st_c_weekday) (defBody st_c_weekday) (defScope st_c_weekday) .none kV9 dc9 pm9 an9 cd9 ct9), sl9⟩)
    (c9 : PySem.W.codeIn K cd9 "weekday" = true)
    (k9 : PySem.W.keepIn K (.ref f9) = true)
    (a10 : PySem.W.nsIn K mainGlobals "week_of" = some (some (.ref f10)))
    (l10 : K.lookup f10 = some ⟨oc10, od10, .func (PySem.W.fnOf "week_of" "week_of" (defArgs st_c_week_of) (defBody st_c_week_of) (defScope st_c_week_of) .none kV10 dc10 pm10 an10 cd10 ct10), sl10⟩)
    (c10 : PySem.W.codeIn K cd10 "week_of" = true)
    (k10 : PySem.W.keepIn K (.ref f10) = true)
    (a11 : PySem.W.nsIn K mainGlobals "moved_months" = some (some (.ref f11)))
    (l11 : K.lookup f11 = some ⟨oc11, od11, .func (PySem.W.fnOf "moved_months" "moved_months" (defArgs st_c_moved_months) (defBody st_c_moved_months) (defScope st_c_moved_months) .none kV11 dc11 pm11 an11 cd11 ct11), sl11⟩)
    (c11 : PySem.W.codeIn K cd11 "moved_months" = true)
    (k11 : PySem.W.keepIn K (.ref f11) = true)
    (a12 : PySem.W.nsIn K mainGlobals "weekday_in_month" = some (some (.ref f12)))
    (l12 : K.lookup f12 = some ⟨oc12, od12, .func (PySem.W.fnOf "weekday_in_month" "weekday_in_month" (defArgs st_c_weekday_in_month) (defBody st_c_weekday_in_month) (defScope st_c_weekday_in_month) .none kV12 dc12 pm12 an12 cd12 ct12), sl12⟩)
    (c12 : PySem.W.codeIn K cd12 "weekday_in_month" = true)
    (k12 : PySem.W.keepIn K (.ref f12) = true)
    (a13 : PySem.W.nsIn K mainGlobals "easter" = some (some (.ref f13)))
    (l13 : K.lookup f13 = some ⟨oc13, od13, .func (PySem.W.fnOf "easter" "easter" (defArgs st_c_easter) (defBody st_c_easter) (defScope st_c_easter) .none kV13 dc13 pm13 an13 cd13 ct13), sl13⟩)
    (c13 : PySem.W.codeIn K cd13 "easter" = true)
    (k13 : PySem.W.keepIn K (.ref f13) = true)
    (a14 : PySem.W.nsIn K mainGlobals "_law_deck" = some (some (.ref f14)))
    (l14 : K.lookup f14 = some ⟨oc14, od14, .func (PySem.W.fnOf "_law_deck" "_law_deck" (defArgs st_c_law_deck) (defBody st_c_law_deck) (defScope st_c_law_deck) .none kV14 dc14 pm14 an14 cd14 ct14), sl14⟩)
    (c14 : PySem.W.codeIn K cd14 "_law_deck" = true)
    (k14 : PySem.W.keepIn K (.ref f14) = true)
    (a15 : PySem.W.nsIn K mainGlobals "_law_take" = some (some (.ref f15)))
    (l15 : K.lookup f15 = some ⟨oc15, od15, .func (PySem.W.fnOf "_law_take" "_law_take" (defArgs st_c_law_take) (defBody st_c_law_take) (defScope st_c_law_take) .none kV15 dc15 pm15 an15 cd15 ct15), sl15⟩)
    (c15 : PySem.W.codeIn K cd15 "_law_take" = true)
    (k15 : PySem.W.keepIn K (.ref f15) = true)
    (a16 : PySem.W.nsIn K mainGlobals "_law_plain" = some (some (.ref f16)))
    (l16 : K.lookup f16 = some ⟨oc16, od16, .func (PySem.W.fnOf "_law_plain" "_law_plain" (defArgs st_c_law_plain) (defBody st_c_law_plain) (defScope st_c_law_plain) .none kV16 dc16 pm16 an16 cd16 ct16), sl16⟩)
    (c16 : PySem.W.codeIn K cd16 "_law_plain" = true)
    (k16 : PySem.W.keepIn K (.ref f16) = true)
    (a17 : PySem.W.nsIn K mainGlobals "_law_day" = some (some (.ref f17)))
    (l17 : K.lookup f17 = some ⟨oc17, od17, .func (PySem.W.fnOf "_law_day" "_law_day" (defArgs st_c_law_day) (defBody st_c_law_day) (defScope st_c_law_day) .none kV17 dc17 pm17 an17 cd17 ct17), sl17⟩)
    (c17 : PySem.W.codeIn K cd17 "_law_day" = true)
    (k17 : PySem.W.keepIn K (.ref f17) = true)
    (a18 : PySem.W.nsIn K mainGlobals "_law_leap" = some (some (.ref f18)))
    (l18 : K.lookup f18 = some ⟨oc18, od18, .func (PySem.W.fnOf "_law_leap" "_law_leap" (defArgs st_c_law_leap) (defBody st_c_law_leap) (defScope st_c_law_leap) .none kV18 dc18 pm18 an18 cd18 ct18), sl18⟩)
    (c18 : PySem.W.codeIn K cd18 "_law_leap" = true)
    (k18 : PySem.W.keepIn K (.ref f18) = true)
    (a19 : PySem.W.nsIn K mainGlobals "_law_length" = some (some (.ref f19)))
    (l19 : K.lookup f19 = some ⟨oc19, od19, .func (PySem.W.fnOf "_law_length" "_law_length" (defArgs st_c_law_length) (defBody st_c_law_length) (defScope st_c_law_length) .none kV19 dc19 pm19 an19 cd19 ct19), sl19⟩)
    (c19 : PySem.W.codeIn K cd19 "_law_length" = true)
    (k19 : PySem.W.keepIn K (.ref f19) = true)
    (a20 : PySem.W.nsIn K mainGlobals "_law_date" = some (some (.ref f20)))
    (l20 : K.lookup f20 = some ⟨oc20, od20, .func (PySem.W.fnOf "_law_date" "_law_date" (defArgs st_c_law_date) (defBody st_c_law_date) (defScope st_c_law_date) .none kV20 dc20 pm20 an20 cd20 ct20), sl20⟩)
    (c20 : PySem.W.codeIn K cd20 "_law_date" = true)
    (k20 : PySem.W.keepIn K (.ref f20) = true)
    (a21 : PySem.W.nsIn K mainGlobals "_law_why" = some (some (.ref f21)))
    (l21 : K.lookup f21 = some ⟨oc21, od21, .func (PySem.W.fnOf "_law_why" "_law_why" (defArgs st_c_law_why) (defBody st_c_law_why) (defScope st_c_law_why) .none kV21 dc21 pm21 an21 cd21 ct21), sl21⟩)
    (c21 : PySem.W.codeIn K cd21 "_law_why" = true)
    (k21 : PySem.W.keepIn K (.ref f21) = true)
    (a22 : PySem.W.nsIn K mainGlobals "_law_moved" = some (some (.ref f22)))
    (l22 : K.lookup f22 = some ⟨oc22, od22, .func (PySem.W.fnOf "_law_moved" "_law_moved" (defArgs st_c_law_moved) (defBody st_c_law_moved) (defScope st_c_law_moved) .none kV22 dc22 pm22 an22 cd22 ct22), sl22⟩)
    (c22 : PySem.W.codeIn K cd22 "_law_moved" = true)
    (k22 : PySem.W.keepIn K (.ref f22) = true)
    (a23 : PySem.W.nsIn K mainGlobals "_law_easter" = some (some (.ref f23)))
    (l23 : K.lookup f23 = some ⟨oc23, od23, .func (PySem.W.fnOf "_law_easter" "_law_easter" (defArgs st_c_law_easter) (defBody st_c_law_easter) (defScope st_c_law_easter) .none kV23 dc23 pm23 an23 cd23 ct23), sl23⟩)
    (c23 : PySem.W.codeIn K cd23 "_law_easter" = true)
    (k23 : PySem.W.keepIn K (.ref f23) = true)
    (a24 : PySem.W.nsIn K mainGlobals "law" = some (some (.ref f24)))
    (l24 : K.lookup f24 = some ⟨oc24, od24, .func (PySem.W.fnOf "law" "law" (defArgs st_c_law) (defBody st_c_law) (defScope st_c_law) .none kV24 dc24 pm24 an24 cd24 ct24), sl24⟩)
    (c24 : PySem.W.codeIn K cd24 "law" = true)
    (k24 : PySem.W.keepIn K (.ref f24) = true)
    (b1_SlotError : PySem.W.specialIn K (.ref C_SlotError) "__getattribute__" = some (some (.builtin "type.__getattribute__")))
    (b2_SlotError : PySem.W.readsIn K C_SlotError (.type "type") = true)
    (b3_SlotError : PySem.W.findCls K (.ref C_SlotError) (.type "type") "__init__" = some (.val (.builtin "ValueError.__init__")))
    (x_InvalidTime : K.lookup C_InvalidTime = some (excClassObj nm_InvalidTime q_InvalidTime C_InvalidTime N_InvalidTime bs_InvalidTime bm_InvalidTime true sn_InvalidTime sub_InvalidTime ab_InvalidTime col_InvalidTime dd_InvalidTime m0_InvalidTime m1_InvalidTime m2_InvalidTime m3_InvalidTime m5_InvalidTime "ValueError.__new__"))
    (rv_InvalidTime : PySem.HandSPX.refsVE bm_InvalidTime = true)
    (sa_InvalidTime : PySem.W.findIn K (.ref C_InvalidTime) "__setattr__" = some (some (.builtin "object.__setattr__")))
    (ga_InvalidTime : PySem.W.findIn K (.ref C_InvalidTime) "__getattribute__" = some (some (.builtin "BaseException.__getattribute__")))
    (gg_InvalidTime : PySem.W.findIn K (.ref C_InvalidTime) "__getattr__" = some none)
    (kC_InvalidTime : PySem.W.keepIn K (.ref C_InvalidTime) = true)
    (eC_InvalidTime : PySem.W.subIn K (.ref C_InvalidTime) (.type "BaseException") = some true)
    (tC_InvalidTime : PySem.W.typeIn K (.ref C_InvalidTime) = some (.type "type"))
    (hC_InvalidTime : PySem.W.hasDictIn K C_InvalidTime = true)
    (ic_InvalidTime : (PySem.W.clsIn K C_InvalidTime).isSome = true)
    (cc_InvalidTime : PySem.W.findIn K (.ref C_InvalidTime) "__class__" = some (some (.builtin "object.__class__")))
    (mo_InvalidTime : PySem.W.mroIn K C_InvalidTime (.type "object") = some true)
    (ti_InvalidTime : PySem.W.typeIn K (.ref f0) = some (.type "function"))
    (no_InvalidTime_what : PySem.W.findIn K (.ref C_InvalidTime) "what" = some none)
    (em_InvalidTime_SlotError : PySem.W.exmOne K (.ref C_InvalidTime) (.ref C_SlotError) = some true)
    (em_InvalidTime_InvalidTime : PySem.W.exmOne K (.ref C_InvalidTime) (.ref C_InvalidTime) = some true)
    (x_InvalidSlot : K.lookup C_InvalidSlot = some (excClassObj nm_InvalidSlot q_InvalidSlot C_InvalidSlot N_InvalidSlot bs_InvalidSlot bm_InvalidSlot true sn_InvalidSlot sub_InvalidSlot ab_InvalidSlot col_InvalidSlot dd_InvalidSlot m0_InvalidSlot m1_InvalidSlot m2_InvalidSlot m3_InvalidSlot m5_InvalidSlot "ValueError.__new__"))
    (rv_InvalidSlot : PySem.HandSPX.refsVE bm_InvalidSlot = true)
    (sa_InvalidSlot : PySem.W.findIn K (.ref C_InvalidSlot) "__setattr__" = some (some (.builtin "object.__setattr__")))
    (ga_InvalidSlot : PySem.W.findIn K (.ref C_InvalidSlot) "__getattribute__" = some (some (.builtin "BaseException.__getattribute__")))
    (gg_InvalidSlot : PySem.W.findIn K (.ref C_InvalidSlot) "__getattr__" = some none)
    (kC_InvalidSlot : PySem.W.keepIn K (.ref C_InvalidSlot) = true)
    (eC_InvalidSlot : PySem.W.subIn K (.ref C_InvalidSlot) (.type "BaseException") = some true)
    (tC_InvalidSlot : PySem.W.typeIn K (.ref C_InvalidSlot) = some (.type "type"))
    (hC_InvalidSlot : PySem.W.hasDictIn K C_InvalidSlot = true)
    (ic_InvalidSlot : (PySem.W.clsIn K C_InvalidSlot).isSome = true)
    (cc_InvalidSlot : PySem.W.findIn K (.ref C_InvalidSlot) "__class__" = some (some (.builtin "object.__class__")))
    (mo_InvalidSlot : PySem.W.mroIn K C_InvalidSlot (.type "object") = some true)
    (ti_InvalidSlot : PySem.W.typeIn K (.ref f1) = some (.type "function"))
    (no_InvalidSlot_what : PySem.W.findIn K (.ref C_InvalidSlot) "what" = some none)
    (em_InvalidSlot_SlotError : PySem.W.exmOne K (.ref C_InvalidSlot) (.ref C_SlotError) = some true)
    (em_InvalidSlot_InvalidSlot : PySem.W.exmOne K (.ref C_InvalidSlot) (.ref C_InvalidSlot) = some true)
    (z_hn : PySem.W.specialIn K (.builtin "object.__class__") "__get__" = some (some (.builtin "getset_descriptor.__get__")))
    (z_ht : PySem.W.takesIn K (.builtin "object.__class__") = some true)
    (kt_InvalidTime_InvalidTime : PySem.W.kitOne K (.ref C_InvalidTime) (.ref C_InvalidTime) = some true)
    (kt_InvalidTime_InvalidSlot : PySem.W.kitOne K (.ref C_InvalidTime) (.ref C_InvalidSlot) = some false)
    (n_abs : PySem.W.nsIn K mainGlobals "abs" = some none)
    (n_bool : PySem.W.nsIn K mainGlobals "bool" = some none)
    (n_int : PySem.W.nsIn K mainGlobals "int" = some none)
    (n_isinstance : PySem.W.nsIn K mainGlobals "isinstance" = some none)
    (n_len : PySem.W.nsIn K mainGlobals "len" = some none)
    (n_list : PySem.W.nsIn K mainGlobals "list" = some none)
    (n_max : PySem.W.nsIn K mainGlobals "max" = some none)
    (n_min : PySem.W.nsIn K mainGlobals "min" = some none)
    (n_range : PySem.W.nsIn K mainGlobals "range" = some none)
    (n_str : PySem.W.nsIn K mainGlobals "str" = some none)
    (n_sum : PySem.W.nsIn K mainGlobals "sum" = some none)
    (n_tuple : PySem.W.nsIn K mainGlobals "tuple" = some none)
    (m_LENGTHS : PySem.W.nsIn K mainGlobals "LENGTHS" = some (some (.ref A_LENGTHS)))
    (wl_LENGTHS : K.lookup A_LENGTHS = some ⟨.type "tuple", dLENGTHS, .seq #[.int 31 tLENGTHS0, .int 28 tLENGTHS1, .int 31 tLENGTHS2, .int 30 tLENGTHS3, .int 31 tLENGTHS4, .int 30 tLENGTHS5, .int 31 tLENGTHS6, .int 31 tLENGTHS7, .int 30 tLENGTHS8, .int 31 tLENGTHS9, .int 30 tLENGTHS10, .int 31 tLENGTHS11] nLENGTHS, slLENGTHS⟩)
    (m_FIRST_YEAR : PySem.W.nsIn K mainGlobals "FIRST_YEAR" = some (some (.int 1 t_FIRST_YEAR)))
    (m_LAST_YEAR : PySem.W.nsIn K mainGlobals "LAST_YEAR" = some (some (.int 9999 t_LAST_YEAR)))
    (m_DAYS_BEFORE : PySem.W.nsIn K mainGlobals "DAYS_BEFORE" = some (some (.int 738885 t_DAYS_BEFORE)))
    : ∃ fd : FuncData, (∀ (s : Shared) (v : Value), BindsTo s fd ⟨[v], []⟩ [("script", v)]) ∧ ∀ base : Heap, K.In base → base.Ns mainGlobals mg → FnOk l.prog w K mg base (L2.CX l.prog w) 8 fa fd ["script"] (sp_c_law K) := by
  have e := hfa.symm.trans (PySem.W.mg_of X G a24)
  cases e
  have T : Txt K mg { f_c_InvalidTime_init := f0, d_c_InvalidTime_init := (PySem.W.fnOf "__init__" "InvalidTime.__init__" (defArgs st_c_InvalidTime_init) (defBody st_c_InvalidTime_init) (defScope st_c_InvalidTime_init) .none kV0 dc0 pm0 an0 cd0 ct0), f_c_InvalidSlot_init := f1, d_c_InvalidSlot_init := (PySem.W.fnOf "__init__" "InvalidSlot.__init__" (defArgs st_c_InvalidSlot_init) (defBody st_c_InvalidSlot_init) (defScope st_c_InvalidSlot_init) .none kV1 dc1 pm1 an1 cd1 ct1), f_c_is_leap := f2, d_c_is_leap := (PySem.W.fnOf "is_leap" "is_leap" (defArgs st_c_is_leap) (defBody st_c_is_leap) (defScope st_c_is_leap) .none kV2 dc2 pm2 an2 cd2 ct2), f_c_check_year := f3, d_c_check_year := (PySem.W.fnOf "check_year" "check_year" (defArgs st_c_check_year) (defBody st_c_check_year) (defScope st_c_check_year) .none kV3 dc3 pm3 an3 cd3 ct3), f_c_month_length := f4, d_c_month_length := (PySem.W.fnOf "month_length" "month_length" (defArgs st_c_month_length) (defBody st_c_month_length) (defScope st_c_month_length) .none kV4 dc4 pm4 an4 cd4 ct4), f_c_days_before_year := f5, d_c_days_before_year := (PySem.W.fnOf "days_before_year" "days_before_year" (defArgs st_c_days_before_year) (defBody st_c_days_before_year) (defScope st_c_days_before_year) .none kV5 dc5 pm5 an5 cd5 ct5), f_c_day_of := f6, d_c_day_of := (PySem.W.fnOf "day_of" "day_of" (defArgs st_c_day_of) (defBody st_c_day_of) (defScope st_c_day_of) .none kV6 dc6 pm6 an6 cd6 ct6), f_c_check_day := f7, d_c_check_day := (PySem.W.fnOf "check_day" "check_day" (defArgs st_c_check_day) (defBody st_c_check_day) (defScope st_c_check_day) .none kV7 dc7 pm7 an7 cd7 ct7), f_c_date_of := f8, d_c_date_of := (PySem.W.fnOf "date_of" "date_of" (defArgs st_c_date_of) (defBody st_c_date_of) (defScope st_c_date_of) .none kV8 dc8 pm8 an8 cd8 ct8), f_c_weekday := f9, d_c_weekday := (PySem.W.fnOf "weekday" "weekday" (defArgs st_c_weekday) (defBody st_c_weekday) (defScope st_c_weekday) .none kV9 dc9 pm9 an9 cd9 ct9), f_c_week_of := f10, d_c_week_of := (PySem.W.fnOf "week_of" "week_of" (defArgs st_c_week_of) (defBody st_c_week_of) (defScope st_c_week_of) .none kV10 dc10 pm10 an10 cd10 ct10), f_c_moved_months := f11, d_c_moved_months := (PySem.W.fnOf "moved_months" "moved_months" (defArgs st_c_moved_months) (defBody st_c_moved_months) (defScope st_c_moved_months) .none kV11 dc11 pm11 an11 cd11 ct11), f_c_weekday_in_month := f12, d_c_weekday_in_month := (PySem.W.fnOf "weekday_in_month" "weekday_in_month" (defArgs st_c_weekday_in_month) (defBody st_c_weekday_in_month) (defScope st_c_weekday_in_month) .none kV12 dc12 pm12 an12 cd12 ct12), f_c_easter := f13, d_c_easter := (PySem.W.fnOf "easter" "easter" (defArgs st_c_easter) (defBody st_c_easter) (defScope st_c_easter) .none kV13 dc13 pm13 an13 cd13 ct13), f_c_law_deck := f14, d_c_law_deck := (PySem.W.fnOf "_law_deck" "_law_deck" (defArgs st_c_law_deck) (defBody st_c_law_deck) (defScope st_c_law_deck) .none kV14 dc14 pm14 an14 cd14 ct14), f_c_law_take := f15, d_c_law_take := (PySem.W.fnOf "_law_take" "_law_take" (defArgs st_c_law_take) (defBody st_c_law_take) (defScope st_c_law_take) .none kV15 dc15 pm15 an15 cd15 ct15), f_c_law_plain := f16, d_c_law_plain := (PySem.W.fnOf "_law_plain" "_law_plain" (defArgs st_c_law_plain) (defBody st_c_law_plain) (defScope st_c_law_plain) .none kV16 dc16 pm16 an16 cd16 ct16), f_c_law_day := f17, d_c_law_day := (PySem.W.fnOf "_law_day" "_law_day" (defArgs st_c_law_day) (defBody st_c_law_day) (defScope st_c_law_day) .none kV17 dc17 pm17 an17 cd17 ct17), f_c_law_leap := f18, d_c_law_leap := (PySem.W.fnOf "_law_leap" "_law_leap" (defArgs st_c_law_leap) (defBody st_c_law_leap) (defScope st_c_law_leap) .none kV18 dc18 pm18 an18 cd18 ct18), f_c_law_length := f19, d_c_law_length := (PySem.W.fnOf "_law_length" "_law_length" (defArgs st_c_law_length) (defBody st_c_law_length) (defScope st_c_law_length) .none kV19 dc19 pm19 an19 cd19 ct19), f_c_law_date := f20, d_c_law_date := (PySem.W.fnOf "_law_date" "_law_date" (defArgs st_c_law_date) (defBody st_c_law_date) (defScope st_c_law_date) .none kV20 dc20 pm20 an20 cd20 ct20), f_c_law_why := f21, d_c_law_why := (PySem.W.fnOf "_law_why" "_law_why" (defArgs st_c_law_why) (defBody st_c_law_why) (defScope st_c_law_why) .none kV21 dc21 pm21 an21 cd21 ct21), f_c_law_moved := f22, d_c_law_moved := (PySem.W.fnOf "_law_moved" "_law_moved" (defArgs st_c_law_moved) (defBody st_c_law_moved) (defScope st_c_law_moved) .none kV22 dc22 pm22 an22 cd22 ct22), f_c_law_easter := f23, d_c_law_easter := (PySem.W.fnOf "_law_easter" "_law_easter" (defArgs st_c_law_easter) (defBody st_c_law_easter) (defScope st_c_law_easter) .none kV23 dc23 pm23 an23 cd23 ct23), f_c_law := fa, d_c_law := (PySem.W.fnOf "law" "law" (defArgs st_c_law) (defBody st_c_law) (defScope st_c_law) .none kV24 dc24 pm24 an24 cd24 ct24), C_SlotError := C_SlotError, C_InvalidTime := C_InvalidTime, C_InvalidSlot := C_InvalidSlot, A_LENGTHS := A_LENGTHS, t_FIRST_YEAR := t_FIRST_YEAR, t_LAST_YEAR := t_LAST_YEAR, t_DAYS_BEFORE := t_DAYS_BEFORE } := {
    F_c_InvalidTime_init := fun_mk (st := st_c_InvalidTime_init) l0 c0 k0
    b_c_InvalidTime_init := (fun_mk (st := st_c_InvalidTime_init) l0 c0 k0).binds (ps := ["self", "what"]) fun _ _ _ _ _ _ us hl => match us, hl with | [_, _], _ => rfl
    F_c_InvalidSlot_init := fun_mk (st := st_c_InvalidSlot_init) l1 c1 k1
    b_c_InvalidSlot_init := (fun_mk (st := st_c_InvalidSlot_init) l1 c1 k1).binds (ps := ["self", "what"]) fun _ _ _ _ _ _ us hl => match us, hl with | [_, _], _ => rfl
    F_c_is_leap := fun_mk (st := st_c_is_leap) l2 c2 k2
    b_c_is_leap := (fun_mk (st := st_c_is_leap) l2 c2 k2).binds (ps := ["year"]) fun _ _ _ _ _ _ us hl => match us, hl with | [_], _ => rfl
    m_c_is_leap := PySem.W.mg_of X G a2
    F_c_check_year := fun_mk (st := st_c_check_year) l3 c3 k3
    b_c_check_year := (fun_mk (st := st_c_check_year) l3 c3 k3).binds (ps := ["year"]) fun _ _ _ _ _ _ us hl => match us, hl with | [_], _ => rfl
    m_c_check_year := PySem.W.mg_of X G a3
    F_c_month_length := fun_mk (st := st_c_month_length) l4 c4 k4
    b_c_month_length := (fun_mk (st := st_c_month_length) l4 c4 k4).binds (ps := ["year", "month"]) fun _ _ _ _ _ _ us hl => match us, hl with | [_, _], _ => rfl
    m_c_month_length := PySem.W.mg_of X G a4
    F_c_days_before_year := fun_mk (st := st_c_days_before_year) l5 c5 k5
    b_c_days_before_year := (fun_mk (st := st_c_days_before_year) l5 c5 k5).binds (ps := ["year"]) fun _ _ _ _ _ _ us hl => match us, hl with | [_], _ => rfl
    m_c_days_before_year := PySem.W.mg_of X G a5
    F_c_day_of := fun_mk (st := st_c_day_of) l6 c6 k6
    b_c_day_of := (fun_mk (st := st_c_day_of) l6 c6 k6).binds (ps := ["year", "month", "day"]) fun _ _ _ _ _ _ us hl => match us, hl with | [_, _, _], _ => rfl
    m_c_day_of := PySem.W.mg_of X G a6
    F_c_check_day := fun_mk (st := st_c_check_day) l7 c7 k7
    b_c_check_day := (fun_mk (st := st_c_check_day) l7 c7 k7).binds (ps := ["day"]) fun _ _ _ _ _ _ us hl => match us, hl with | [_], _ => rfl
    m_c_check_day := PySem.W.mg_of X G a7
    F_c_date_of := fun_mk (st := st_c_date_of) l8 c8 k8
    b_c_date_of := (fun_mk (st := st_c_date_of) l8 c8 k8).binds (ps := ["day"]) fun _ _ _ _ _ _ us hl => match us, hl with | [_], _ => rfl
    m_c_date_of := PySem.W.mg_of X G a8
    F_c_weekday := fun_mk (st := st_c_weekday) l9 c9 k9
    b_c_weekday := (fun_mk (st := st_c_weekday) l9 c9 k9).binds (ps := ["day"]) fun _ _ _ _ _ _ us hl => match us, hl with | [_], _ => rfl
    m_c_weekday := PySem.W.mg_of X G a9
    F_c_week_of := fun_mk (st := st_c_week_of) l10 c10 k10
    b_c_week_of := (fun_mk (st := st_c_week_of) l10 c10 k10).binds (ps := ["day"]) fun _ _ _ _ _ _ us hl => match us, hl with | [_], _ => rfl
    m_c_week_of := PySem.W.mg_of X G a10
    F_c_moved_months := fun_mk (st := st_c_moved_months) l11 c11 k11
    b_c_moved_months := (fun_mk (st := st_c_moved_months) l11 c11 k11).binds (ps := ["day", "months"]) fun _ _ _ _ _ _ us hl => match us, hl with | [_, _], _ => rfl
    m_c_moved_months := PySem.W.mg_of X G a11
    F_c_weekday_in_month := fun_mk (st := st_c_weekday_in_month) l12 c12 k12
    b_c_weekday_in_month := (fun_mk (st := st_c_weekday_in_month) l12 c12 k12).binds (ps := ["year", "month", "which", "number"]) fun _ _ _ _ _ _ us hl => match us, hl with | [_, _, _, _], _ => rfl
    m_c_weekday_in_month := PySem.W.mg_of X G a12
    F_c_easter := fun_mk (st := st_c_easter) l13 c13 k13
    b_c_easter := (fun_mk (st := st_c_easter) l13 c13 k13).binds (ps := ["year"]) fun _ _ _ _ _ _ us hl => match us, hl with | [_], _ => rfl
    m_c_easter := PySem.W.mg_of X G a13
    F_c_law_deck := fun_mk (st := st_c_law_deck) l14 c14 k14
    b_c_law_deck := (fun_mk (st := st_c_law_deck) l14 c14 k14).binds (ps := ["script", "cells", "each"]) fun _ _ _ _ _ _ us hl => match us, hl with | [_, _, _], _ => rfl
    m_c_law_deck := PySem.W.mg_of X G a14
    F_c_law_take := fun_mk (st := st_c_law_take) l15 c15 k15
    b_c_law_take := (fun_mk (st := st_c_law_take) l15 c15 k15).binds (ps := ["deck", "many"]) fun _ _ _ _ _ _ us hl => match us, hl with | [_, _], _ => rfl
    m_c_law_take := PySem.W.mg_of X G a15
    F_c_law_plain := fun_mk (st := st_c_law_plain) l16 c16 k16
    b_c_law_plain := (fun_mk (st := st_c_law_plain) l16 c16 k16).binds (ps := ["value"]) fun _ _ _ _ _ _ us hl => match us, hl with | [_], _ => rfl
    m_c_law_plain := PySem.W.mg_of X G a16
    F_c_law_day := fun_mk (st := st_c_law_day) l17 c17 k17
    b_c_law_day := (fun_mk (st := st_c_law_day) l17 c17 k17).binds (ps := ["year", "month", "day"]) fun _ _ _ _ _ _ us hl => match us, hl with | [_, _, _], _ => rfl
    m_c_law_day := PySem.W.mg_of X G a17
    F_c_law_leap := fun_mk (st := st_c_law_leap) l18 c18 k18
    b_c_law_leap := (fun_mk (st := st_c_law_leap) l18 c18 k18).binds (ps := ["year"]) fun _ _ _ _ _ _ us hl => match us, hl with | [_], _ => rfl
    m_c_law_leap := PySem.W.mg_of X G a18
    F_c_law_length := fun_mk (st := st_c_law_length) l19 c19 k19
    b_c_law_length := (fun_mk (st := st_c_law_length) l19 c19 k19).binds (ps := ["year", "month"]) fun _ _ _ _ _ _ us hl => match us, hl with | [_, _], _ => rfl
    m_c_law_length := PySem.W.mg_of X G a19
    F_c_law_date := fun_mk (st := st_c_law_date) l20 c20 k20
    b_c_law_date := (fun_mk (st := st_c_law_date) l20 c20 k20).binds (ps := ["deck"]) fun _ _ _ _ _ _ us hl => match us, hl with | [_], _ => rfl
    m_c_law_date := PySem.W.mg_of X G a20
    F_c_law_why := fun_mk (st := st_c_law_why) l21 c21 k21
    b_c_law_why := (fun_mk (st := st_c_law_why) l21 c21 k21).binds (ps := ["ask", "one", "two", "three", "four"]) fun _ _ _ _ _ _ us hl => match us, hl with | [_, _, _, _, _], _ => rfl
    m_c_law_why := PySem.W.mg_of X G a21
    F_c_law_moved := fun_mk (st := st_c_law_moved) l22 c22 k22
    b_c_law_moved := (fun_mk (st := st_c_law_moved) l22 c22 k22).binds (ps := ["date", "months"]) fun _ _ _ _ _ _ us hl => match us, hl with | [_, _], _ => rfl
    m_c_law_moved := PySem.W.mg_of X G a22
    F_c_law_easter := fun_mk (st := st_c_law_easter) l23 c23 k23
    b_c_law_easter := (fun_mk (st := st_c_law_easter) l23 c23 k23).binds (ps := ["year"]) fun _ _ _ _ _ _ us hl => match us, hl with | [_], _ => rfl
    m_c_law_easter := PySem.W.mg_of X G a23
    F_c_law := fun_mk (st := st_c_law) l24 c24 k24
    b_c_law := (fun_mk (st := st_c_law) l24 c24 k24).binds (ps := ["script"]) fun _ _ _ _ _ _ us hl => match us, hl with | [_], _ => rfl
    m_c_law := PySem.W.mg_of X G a24
    m_SlotError := PySem.W.mg_of X G g_SlotError
    bc_SlotError := ⟨b1_SlotError, b2_SlotError, b3_SlotError⟩
    m_InvalidTime := PySem.W.mg_of X G g_InvalidTime
    ox_InvalidTime := ⟨⟨_, _, _, _, _, _, _, _, _, _, _, _, _, _, _, x_InvalidTime, rv_InvalidTime⟩, sa_InvalidTime, eC_InvalidTime, tC_InvalidTime, kC_InvalidTime⟩
    in_InvalidTime := a0
    ti_InvalidTime := ti_InvalidTime
    no_InvalidTime_what := no_InvalidTime_what
    xf_InvalidTime := ⟨ga_InvalidTime, gg_InvalidTime, eC_InvalidTime, hC_InvalidTime⟩
    is_InvalidTime := ⟨ic_InvalidTime, ga_InvalidTime, gg_InvalidTime, eC_InvalidTime, cc_InvalidTime, z_hn, z_ht, mo_InvalidTime⟩
    em_InvalidTime_SlotError := em_InvalidTime_SlotError
    em_InvalidTime_InvalidTime := em_InvalidTime_InvalidTime
    m_InvalidSlot := PySem.W.mg_of X G g_InvalidSlot
    ox_InvalidSlot := ⟨⟨_, _, _, _, _, _, _, _, _, _, _, _, _, _, _, x_InvalidSlot, rv_InvalidSlot⟩, sa_InvalidSlot, eC_InvalidSlot, tC_InvalidSlot, kC_InvalidSlot⟩
    in_InvalidSlot := a1
    ti_InvalidSlot := ti_InvalidSlot
    no_InvalidSlot_what := no_InvalidSlot_what
    xf_InvalidSlot := ⟨ga_InvalidSlot, gg_InvalidSlot, eC_InvalidSlot, hC_InvalidSlot⟩
    is_InvalidSlot := ⟨ic_InvalidSlot, ga_InvalidSlot, gg_InvalidSlot, eC_InvalidSlot, cc_InvalidSlot, z_hn, z_ht, mo_InvalidSlot⟩
    em_InvalidSlot_SlotError := em_InvalidSlot_SlotError
    em_InvalidSlot_InvalidSlot := em_InvalidSlot_InvalidSlot
    kt_InvalidTime_InvalidTime := kt_InvalidTime_InvalidTime
    kt_InvalidTime_InvalidSlot := kt_InvalidTime_InvalidSlot
    n_abs := PySem.W.mg_none_of X G n_abs
    n_bool := PySem.W.mg_none_of X G n_bool
    n_int := PySem.W.mg_none_of X G n_int
    n_isinstance := PySem.W.mg_none_of X G n_isinstance
    n_len := PySem.W.mg_none_of X G n_len
    n_list := PySem.W.mg_none_of X G n_list
    n_max := PySem.W.mg_none_of X G n_max
    n_min := PySem.W.mg_none_of X G n_min
    n_range := PySem.W.mg_none_of X G n_range
    n_str := PySem.W.mg_none_of X G n_str
    n_sum := PySem.W.mg_none_of X G n_sum
    n_tuple := PySem.W.mg_none_of X G n_tuple
    m_LENGTHS := PySem.W.mg_of X G m_LENGTHS
    w_LENGTHS := .inr ⟨_, _, _, wl_LENGTHS, rfl, rfl, by show 12 ≤ sizeLine; decide, (.cons ⟨_, rfl⟩ (.cons ⟨_, rfl⟩ (.cons ⟨_, rfl⟩ (.cons ⟨_, rfl⟩ (.cons ⟨_, rfl⟩ (.cons ⟨_, rfl⟩ (.cons ⟨_, rfl⟩ (.cons ⟨_, rfl⟩ (.cons ⟨_, rfl⟩ (.cons ⟨_, rfl⟩ (.cons ⟨_, rfl⟩ (.cons ⟨_, rfl⟩ .nil))))))))))))⟩
    m_FIRST_YEAR := PySem.W.mg_of X G m_FIRST_YEAR
    m_LAST_YEAR := PySem.W.mg_of X G m_LAST_YEAR
    m_DAYS_BEFORE := PySem.W.mg_of X G m_DAYS_BEFORE
  }
  exact ⟨(PySem.W.fnOf "law" "law" (defArgs st_c_law) (defBody st_c_law) (defScope st_c_law) .none kV24 dc24 pm24 an24 cd24 ct24), fun s v => .of_eq rfl, fun base _ _ => ok_c_law T⟩
theorem walk {l : PySem.W.OpenLaw} {q : Program} {loose : List Str} {XP : (Str → Option Value) → Heap → Prop} {YP : World → Heap → Prop} {d : DefRec} {K : Params → PySem.W.Frag} (hn : l.most = some 63) (hdf : d.params.defaults = [])
    (hY : ∀ (w : World) (h : Heap), YP w h → (K w.params).In h)
    (F : ∀ (w : World) (mg : Str → Option Value) (fa : Addr) (h : Heap), (K w.params).In h → h.Ns mainGlobals mg → mg d.name = some (.ref fa) →
      ∃ fd : FuncData, (∀ (s : Shared) (u : Value), BindsTo s fd ⟨[u], []⟩ [("script", u)]) ∧ ∀ base : Heap, (K w.params).In base → base.Ns mainGlobals mg → FnOk l.prog w (K w.params) mg base (L2.CX l.prog w) 8 fa fd ["script"] (sp_c_law (K w.params))) :
    PySem.W.WalkO q loose XP YP l.row.toRowW d [] (fun f vs => PySem.call f vs) :=
  L2.walk_of (n := 63) (k := 8) (x := "script") (CX := fun w => L2.CX l.prog w) (sp := fun w => sp_c_law (K w.params)) hn (by decide) hdf ⟨rfl, by decide, by decide⟩ hY F (fun _ _ a ns hl _ hS => ⟨a, ns, rfl, hS, hl, fun _ => rfl⟩)
    fun _ _ _ _ _ z => by obtain ⟨_, _, _, _, _, _, _, _, _, _, _, _, z⟩ := z; exact z
end K34
open PySem PySem.W PyProof.Rows
set_option maxRecDepth 100000 in
set_option maxHeartbeats 0 in
theorem PySem.Challenge.cw_slotwork_k34_months_and_weeks_holds : PySem.Challenge.rw_slotwork_k34_months_and_weeks.Holds := by
  w_on; o_law; k_head; (case hw => w_witness2)
  k_fill
  refine K34.walk (l := PySem.Challenge.rw_slotwork_k34_months_and_weeks) rfl rfl (fun w h Y => PySem.W.kIn_of Y) ?F
  case F =>
    intro w mg fa h KX G hmg
    refine' K34.all_mk KX G hmg ?g_SlotError ?g_InvalidTime ?g_InvalidSlot ?a0 ?l0 ?c0 ?k0 ?a1 ?l1 ?c1 ?k1 ?a2 ?l2 ?c2 ?k2 ?a3 ?l3 ?c3 ?k3 ?a4 ?l4 ?c4 ?k4 ?a5 ?l5 ?c5 ?k5 ?a6 ?l6 ?c6 ?k6 ?a7 ?l7 ?c7 ?k7 ?a8 ?l8 ?c8 ?k8 ?a9 ?l9 ?c9 ?k9 ?a10 ?l10 ?c10 ?k10 ?a11 ?l11 ?c11 ?k11 ?a12 ?l12 ?c12 ?k12 ?a13 ?l13 ?c13 ?k13 ?a14 ?l14 ?c14 ?k14 ?a15 ?l15 ?c15 ?k15 ?a16 ?l16 ?c16 ?k16 ?a17 ?l17 ?c17 ?k17 ?a18 ?l18 ?c18 ?k18 ?a19 ?l19 ?c19 ?k19 ?a20 ?l20 ?c20 ?k20 ?a21 ?l21 ?c21 ?k21 ?a22 ?l22 ?c22 ?k22 ?a23 ?l23 ?c23 ?k23 ?a24 ?l24 ?c24 ?k24 ?b1_SlotError ?b2_SlotError ?b3_SlotError ?x_InvalidTime ?rv_InvalidTime ?sa_InvalidTime ?ga_InvalidTime ?gg_InvalidTime ?kC_InvalidTime ?eC_InvalidTime ?tC_InvalidTime ?hC_InvalidTime ?ic_InvalidTime ?cc_InvalidTime ?mo_InvalidTime ?ti_InvalidTime ?no_InvalidTime_what ?em_InvalidTime_SlotError ?em_InvalidTime_InvalidTime ?x_InvalidSlot ?rv_InvalidSlot ?sa_InvalidSlot ?ga_InvalidSlot ?gg_InvalidSlot ?kC_InvalidSlot ?eC_InvalidSlot ?tC_InvalidSlot ?hC_InvalidSlot ?ic_InvalidSlot ?cc_InvalidSlot ?mo_InvalidSlot ?ti_InvalidSlot ?no_InvalidSlot_what ?em_InvalidSlot_SlotError ?em_InvalidSlot_InvalidSlot ?z_hn ?z_ht ?kt_InvalidTime_InvalidTime ?kt_InvalidTime_InvalidSlot ?n_abs ?n_bool ?n_int ?n_isinstance ?n_len ?n_list ?n_max ?n_min ?n_range ?n_str ?n_sum ?n_tuple ?m_LENGTHS ?wl_LENGTHS ?m_FIRST_YEAR ?m_LAST_YEAR ?m_DAYS_BEFORE
    (case g_SlotError => first | k_is | rfl | decide +kernel)
    (case g_InvalidTime => first | k_is | rfl | decide +kernel)
    (case g_InvalidSlot => first | k_is | rfl | decide +kernel)
    (case a0 => first | k_is | rfl | decide +kernel)
    (case l0 => first | k_is | rfl | decide +kernel)
    (case c0 => first | k_is | rfl | decide +kernel)
    (case k0 => first | k_is | rfl | decide +kernel)
    (case a1 => first | k_is | rfl | decide +kernel)
    (case l1 => first | k_is | rfl | decide +kernel)
    (case c1 => first | k_is | rfl | decide +kernel)
    (case k1 => first | k_is | rfl | decide +kernel)
    (case a2 => first | k_is | rfl | decide +kernel)
    (case l2 => first | k_is | rfl | decide +kernel)
    (case c2 => first | k_is | rfl | decide +kernel)
    (case k2 => first | k_is | rfl | decide +kernel)
    (case a3 => first | k_is | rfl | decide +kernel)
    (case l3 => first | k_is | rfl | decide +kernel)
    (case c3 => first | k_is | rfl | decide +kernel)
    (case k3 => first | k_is | rfl | decide +kernel)
    (case a4 => first | k_is | rfl | decide +kernel)
    (case l4 => first | k_is | rfl | decide +kernel)
    (case c4 => first | k_is | rfl | decide +kernel)
    (case k4 => first | k_is | rfl | decide +kernel)
    (case a5 => first | k_is | rfl | decide +kernel)
    (case l5 => first | k_is | rfl | decide +kernel)
    (case c5 => first | k_is | rfl | decide +kernel)
    (case k5 => first | k_is | rfl | decide +kernel)
    (case a6 => first | k_is | rfl | decide +kernel)
    (case l6 => first | k_is | rfl | decide +kernel)
    (case c6 => first | k_is | rfl | decide +kernel)
    (case k6 => first | k_is | rfl | decide +kernel)
    (case a7 => first | k_is | rfl | decide +kernel)
    (case l7 => first | k_is | rfl | decide +kernel)
    (case c7 => first | k_is | rfl | decide +kernel)
    (case k7 => first | k_is | rfl | decide +kernel)
    (case a8 => first | k_is | rfl | decide +kernel)
    (case l8 => first | k_is | rfl | decide +kernel)
    (case c8 => first | k_is | rfl | decide +kernel)
    (case k8 => first | k_is | rfl | decide +kernel)
    (case a9 => first | k_is | rfl | decide +kernel)
    (case l9 => first | k_is | rfl | decide +kernel)
    (case c9 => first | k_is | rfl | decide +kernel)
    (case k9 => first | k_is | rfl | decide +kernel)
    (case a10 => first | k_is | rfl | decide +kernel)
    (case l10 => first | k_is | rfl | decide +kernel)
    (case c10 => first | k_is | rfl | decide +kernel)
    (case k10 => first | k_is | rfl | decide +kernel)
    (case a11 => first | k_is | rfl | decide +kernel)
    (case l11 => first | k_is | rfl | decide +kernel)
    (case c11 => first | k_is | rfl | decide +kernel)
    (case k11 => first | k_is | rfl | decide +kernel)
    (case a12 => first | k_is | rfl | decide +kernel)
    (case l12 => first | k_is | rfl | decide +kernel)
    (case c12 => first | k_is | rfl | decide +kernel)
    (case k12 => first | k_is | rfl | decide +kernel)
    (case a13 => first | k_is | rfl | decide +kernel)
    (case l13 => first | k_is | rfl | decide +kernel)
    (case c13 => first | k_is | rfl | decide +kernel)
    (case k13 => first | k_is | rfl | decide +kernel)
    (case a14 => first | k_is | rfl | decide +kernel)
    (case l14 => first | k_is | rfl | decide +kernel)
    (case c14 => first | k_is | rfl | decide +kernel)
    (case k14 => first | k_is | rfl | decide +kernel)
    (case a15 => first | k_is | rfl | decide +kernel)
    (case l15 => first | k_is | rfl | decide +kernel)
    (case c15 => first | k_is | rfl | decide +kernel)
    (case k15 => first | k_is | rfl | decide +kernel)
    (case a16 => first | k_is | rfl | decide +kernel)
    (case l16 => first | k_is | rfl | decide +kernel)
    (case c16 => first | k_is | rfl | decide +kernel)
    (case k16 => first | k_is | rfl | decide +kernel)
    (case a17 => first | k_is | rfl | decide +kernel)
    (case l17 => first | k_is | rfl | decide +kernel)
    (case c17 => first | k_is | rfl | decide +kernel)
    (case k17 => first | k_is | rfl | decide +kernel)
    (case a18 => first | k_is | rfl | decide +kernel)
    (case l18 => first | k_is | rfl | decide +kernel)
    (case c18 => first | k_is | rfl | decide +kernel)
    (case k18 => first | k_is | rfl | decide +kernel)
    (case a19 => first | k_is | rfl | decide +kernel)
    (case l19 => first | k_is | rfl | decide +kernel)
    (case c19 => first | k_is | rfl | decide +kernel)
    (case k19 => first | k_is | rfl | decide +kernel)
    (case a20 => first | k_is | rfl | decide +kernel)
    (case l20 => first | k_is | rfl | decide +kernel)
    (case c20 => first | k_is | rfl | decide +kernel)
    (case k20 => first | k_is | rfl | decide +kernel)
    (case a21 => first | k_is | rfl | decide +kernel)
    (case l21 => first | k_is | rfl | decide +kernel)
    (case c21 => first | k_is | rfl | decide +kernel)
    (case k21 => first | k_is | rfl | decide +kernel)
    (case a22 => first | k_is | rfl | decide +kernel)
    (case l22 => first | k_is | rfl | decide +kernel)
    (case c22 => first | k_is | rfl | decide +kernel)
    (case k22 => first | k_is | rfl | decide +kernel)
    (case a23 => first | k_is | rfl | decide +kernel)
    (case l23 => first | k_is | rfl | decide +kernel)
    (case c23 => first | k_is | rfl | decide +kernel)
    (case k23 => first | k_is | rfl | decide +kernel)
    (case a24 => first | k_is | rfl | decide +kernel)
    (case l24 => first | k_is | rfl | decide +kernel)
    (case c24 => first | k_is | rfl | decide +kernel)
    (case k24 => first | k_is | rfl | decide +kernel)
    (case b1_SlotError => first | k_is | rfl | decide +kernel)
    (case b2_SlotError => first | k_is | rfl | decide +kernel)
    (case b3_SlotError => first | k_is | rfl | decide +kernel)
    (case x_InvalidTime => first | k_is | rfl | decide +kernel)
    (case rv_InvalidTime => first | k_is | rfl | decide +kernel)
    (case sa_InvalidTime => first | k_is | rfl | decide +kernel)
    (case ga_InvalidTime => first | k_is | rfl | decide +kernel)
    (case gg_InvalidTime => first | k_is | rfl | decide +kernel)
    (case kC_InvalidTime => first | k_is | rfl | decide +kernel)
    (case eC_InvalidTime => first | k_is | rfl | decide +kernel)
    (case tC_InvalidTime => first | k_is | rfl | decide +kernel)
    (case hC_InvalidTime => first | k_is | rfl | decide +kernel)
    (case ic_InvalidTime => first | k_is | rfl | decide +kernel)
    (case cc_InvalidTime => first | k_is | rfl | decide +kernel)
    (case mo_InvalidTime => first | k_is | rfl | decide +kernel)
    (case ti_InvalidTime => first | k_is | rfl | decide +kernel)
    (case no_InvalidTime_what => first | k_is | rfl | decide +kernel)
    (case em_InvalidTime_SlotError => first | k_is | rfl | decide +kernel)
    (case em_InvalidTime_InvalidTime => first | k_is | rfl | decide +kernel)
    (case x_InvalidSlot => first | k_is | rfl | decide +kernel)
    (case rv_InvalidSlot => first | k_is | rfl | decide +kernel)
    (case sa_InvalidSlot => first | k_is | rfl | decide +kernel)
    (case ga_InvalidSlot => first | k_is | rfl | decide +kernel)
    (case gg_InvalidSlot => first | k_is | rfl | decide +kernel)
    (case kC_InvalidSlot => first | k_is | rfl | decide +kernel)
    (case eC_InvalidSlot => first | k_is | rfl | decide +kernel)
    (case tC_InvalidSlot => first | k_is | rfl | decide +kernel)
    (case hC_InvalidSlot => first | k_is | rfl | decide +kernel)
    (case ic_InvalidSlot => first | k_is | rfl | decide +kernel)
    (case cc_InvalidSlot => first | k_is | rfl | decide +kernel)
    (case mo_InvalidSlot => first | k_is | rfl | decide +kernel)
    (case ti_InvalidSlot => first | k_is | rfl | decide +kernel)
    (case no_InvalidSlot_what => first | k_is | rfl | decide +kernel)
    (case em_InvalidSlot_SlotError => first | k_is | rfl | decide +kernel)
    (case em_InvalidSlot_InvalidSlot => first | k_is | rfl | decide +kernel)
    (case z_hn => first | k_is | rfl | decide +kernel)
    (case z_ht => first | k_is | rfl | decide +kernel)
    (case kt_InvalidTime_InvalidTime => first | k_is | rfl | decide +kernel)
    (case kt_InvalidTime_InvalidSlot => first | k_is | rfl | decide +kernel)
    (case n_abs => first | k_is | rfl | decide +kernel)
    (case n_bool => first | k_is | rfl | decide +kernel)
    (case n_int => first | k_is | rfl | decide +kernel)
    (case n_isinstance => first | k_is | rfl | decide +kernel)
    (case n_len => first | k_is | rfl | decide +kernel)
    (case n_list => first | k_is | rfl | decide +kernel)
    (case n_max => first | k_is | rfl | decide +kernel)
    (case n_min => first | k_is | rfl | decide +kernel)
    (case n_range => first | k_is | rfl | decide +kernel)
    (case n_str => first | k_is | rfl | decide +kernel)
    (case n_sum => first | k_is | rfl | decide +kernel)
    (case n_tuple => first | k_is | rfl | decide +kernel)
    (case m_LENGTHS => first | k_is | rfl | decide +kernel)
    (case wl_LENGTHS => first | k_is | rfl | decide +kernel)
    (case m_FIRST_YEAR => first | k_is | rfl | decide +kernel)
    (case m_LAST_YEAR => first | k_is | rfl | decide +kernel)
    (case m_DAYS_BEFORE => first | k_is | rfl | decide +kernel)
