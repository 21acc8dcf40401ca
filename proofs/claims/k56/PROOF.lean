import PyProof.Rows.All
import Wide.All
import OpenK.AllK
import Wide.FinOn
import HandS.ForMost
import HandS.ForExc
import HandS.ExcInit
import HandS.ExcField
import HandS.IsInst
import HandS.Style
import HandS.Gcd
import HandS.Wide
import HandS.Deep
import HandS.Flow
import HandS.Zip
import HandS.Evl
import HandS.Walk
import HandS.SortInts
import HandS.Conv
import HandS.ExcValue
import KE.KExcIs
import PySem.Challenge.RW_slotwork_k56_lines_through_values
set_option Elab.async false
set_option linter.all false
set_option maxRecDepth 100000
set_option maxHeartbeats 4000000
namespace Sw
open PySem PySem.Spec PyProof.Rows L2
section
variable {X : Cx}
/-- what the written part says of the own class B over ValueError, so that B.__init__(self, ..) is ValueError's -/
structure BaseC (K : PySem.W.Frag) (B : Addr) : Prop where
  sp : PySem.W.specialIn K (.ref B) "__getattribute__" = some (some (.builtin "type.__getattribute__"))
  rd : PySem.W.readsIn K B (.type "type") = true
  iv : PySem.W.findCls K (.ref B) (.type "type") "__init__" = some (.val (.builtin "ValueError.__init__"))
theorem pe_binit {x : Str} {B : Addr} {p1 p2 pos : Pos} {e : Expr} {es : List Expr} {ta : TA} {pl : Sem Bool} (T : BaseC X.K B) (hg : Gl X x) (hm : X.mg x = some (.ref B)) (ha : PA X (e :: es) ta)
    (hdb : (x == ("__debug__" : Str)) = false := by decide)
    (hc : eval (.Call (.Attribute (.Name x p1) "__init__" p2) (e :: es) [] pos) X.env = (do
      let o ← eval (.Name x p1) X.env
      standAt p2.atName
      let (g, fst) ← holding [o] (getMethod o "__init__" pl)
      callWith pos g fst (backTo pos (starEach (e :: es) X.env)) (backToKw pos (keywordEach [] X.env))) := by rfl)
    (he : starEach (e :: es) X.env = (false, eval e X.env) :: starEach es X.env := by rfl) (hpl : (backTo pos (starEach es X.env)).any (·.1) = false := by rfl) :
    PE X (.Call (.Attribute (.Name x p1) "__init__" p2) (e :: es) [] pos) (tVeI X.K ta) := by
  refine ⟨fun pins s σ H Q I h => ?_⟩
  refine PySem.W.methodCall_KW (ld_glob I hg hm ?_ hdb) hc
  refine PySem.W.method_cls I.kIn T.sp ?_
  refine PySem.W.cls_value I.kIn T.rd T.iv (by decide +kernel) ?_
  refine PyProof.Rows.callWith_method1 (thn (ha.run pos pins _ σ H _ (I.tok _) h) fun us s1 ⟨vs, H1, I1, r1, a, C, ws, ev, hl, T', ea, q⟩ => ?_) he hpl
  subst ev
  cases r1 with
  | @cons _ u0 _ ur ra rw' =>
    obtain rfl : u0 = Value.ref a := ra
    refine oinit_ok T' I1 ea ?_ fun s' J => ⟨.non, H1, J, rfl, q⟩
    rw [← Paired.length rw', sizeLine_eq]
    omega

/-- isinstance(error, c), error the exception that the suite holds, at a, of the class at D -/
structure IsC (K : PySem.W.Frag) (D : Addr) : Prop where
  hc : (PySem.W.clsIn K D).isSome = true
  hg : PySem.W.findIn K (.ref D) "__getattribute__" = some (some (.builtin "BaseException.__getattribute__"))
  hk : PySem.W.findIn K (.ref D) "__getattr__" = some none
  hs : PySem.W.subIn K (.ref D) (.type "BaseException") = some true
  ha : PySem.W.findIn K (.ref D) "__class__" = some (some (.builtin "object.__class__"))
  hn : PySem.W.specialIn K (.builtin "object.__class__") "__get__" = some (some (.builtin "getset_descriptor.__get__"))
  ht : PySem.W.takesIn K (.builtin "object.__class__") = some true
  hm : PySem.W.mroIn K D (.type "object") = some true
def rIsX (K : PySem.W.Frag) (a : Addr) (cls : Value) (d : Option Addr) : List V → Hp → VK → Prop := fun xs H Q =>
  ∃ (D C : Addr) (b : Bool) (dd : Addr) (fs : List (Str × V)), xs = [.ref a, .ref C] ∧ cls = .ref D ∧ IsC K D ∧ d = some dd ∧ H dd = some (.xd fs) ∧ PySem.W.kitOne K (.ref D) (.ref C) = some b ∧ Q (.bl b) H
theorem call_isX {a : Addr} {cls : Value} {d : Option Addr} {oe : Obj} {pn : List (Addr × Obj)} (hz : Zc cls d oe) (hf : ∃ vs, oe.data = .fields vs) : CallR (X.suite a ((a, oe) :: pn)) (.builtin "isinstance") (rIsX X.K a cls d) := by
  intro pins s σ H xs us Q I r h
  obtain ⟨D, C, b, dd, fs, rfl, rfl, T, rfl, ea, e, q⟩ := h
  cases r with
  | cons rx rr =>
    cases rr with
    | cons rt rr =>
      cases rr
      cases rx
      cases rt
      have hget := (I.pin (a, oe) (List.mem_append_left _ List.mem_cons_self)).1
      obtain ⟨mA, hns, hr⟩ := (show ObjOk X.prog X.w H s.heap dd (.xd fs) from I.hok dd _ ea)
      obtain ⟨od, ho, hl⟩ := lookIn_ns hns
      obtain ⟨vs, hd⟩ := hf
      have J : PySem.W.InstAt s.heap a oe D (some od) := ⟨hget, hz.1, by unfold PySem.W.notCls; rw [hd] <;> rfl, by rw [hz.2]; exact ho⟩
      exact PySem.W.kia_one (PySem.W.kitx_exc T.hc T.hg T.hk T.hs T.ha T.hn T.ht T.hm) I.kIn J e (fun z => nomatch z) fun tk => ⟨.bl b, H, I.tok tk, rfl, q⟩
end

/-! ### // by a divisor of any sign, of many digits -/
def CDivZ (_ j : Int) : Prop := j ≠ 0 ∧ j.natAbs.log2 < 9000
theorem op_fdivZ {X : Cx} : OpR X (binaryOp .FloorDiv) (rI CDivZ fun i j => .int (i.fdiv j)) := opI fun i j _ _ _ _ _ hc k => floordiv_int hc.1 k (.inl (PyProof.noPylong_of_log2 hc.2))
theorem cdivZ_of {i j : Int} {b : Nat} (h : j ≠ 0) (hb : j.natAbs < 2 ^ b) (h0 : 0 < b) (h9 : b ≤ 9000) : CDivZ i j := ⟨h, Nat.lt_of_lt_of_le (PySem.Flt.log2_lt_of h0 hb) h9⟩

/-! ### heaps -/
theorem upd_self {H : Hp} {p : Addr} {o : HO} (h : H p = some o) : upd H p o = H := by
  funext b
  by_cases e : b = p
  · rw [e, upd_same, h]
  · rw [upd_ne e]
theorem _root_.L2.Same.new {H : Hp} {p : Addr} {o : HO} (h : H p = none) : Same H (upd H p o) := fun b u e => by
  rw [upd_ne (ne_of_none e h)]
  exact e
theorem _root_.L2.Same.then_new {H H' : Hp} {p : Addr} {o : HO} (e : Same H H') (h : H' p = none) : Same H (upd H' p o) := e.trans (Same.new h)
/-- what H does not know may change -/
theorem _root_.L2.Same.mut {H H' : Hp} {p : Addr} {o : HO} (e : Same H H') (h : H p = none) : Same H (upd H' p o) := fun b u ha => by
  rw [upd_ne (ne_of_none ha h)]
  exact e b u ha
theorem _root_.L2.Same.tup {K : PySem.W.Frag} {H H' : Hp} {a : Addr} {xs : List V} (e : Same H H') (h : SqT K H a xs) : SqT K H' a xs := by
  rcases h with (h | ⟨o, h⟩) | h
  · exact .inl (.inl (e _ _ h))
  · exact .inl (.inr ⟨o, e _ _ h⟩)
  · exact .inr h

theorem same_none {H : Hp} : Same (fun _ => none) H := fun _ _ e => by cases e

/-! ### raise C(w) -/
/-- C(w) is raised, w its what -/
def raisesW (C : Addr) (w : Str) (H : Hp) (E : XK) : Prop := ∀ d H', Same H H' → H' d = some (.xd [("what", .str w)]) → E (.ref C) (some d) H'
theorem raisesW.mono {C : Addr} {w : Str} {H H' : Hp} {E : XK} (h : raisesW C w H E) (s : Same H H') : raisesW C w H' E := fun d H2 s2 hd => h d H2 (s.trans s2) hd
def sp_exinit (C : Addr) : Sp := fun vs H Q _ => ∃ (x : Addr) (w : Str), vs = [.ref x, .str w] ∧ H x = some (exo x C none) ∧ w.length ≤ 1000 ∧ ∀ dx, H dx = none → dx ≠ x → Q .non (upd (upd H dx (exd dx [("what", .str w)])) x (exo x C (some dx)))
theorem raise_ok {C : Addr} {w : Str} {H : Hp} {E : XK} (h : raisesW C w H E) (hl : w.length ≤ 1000) : ∀ a, H a = none → sp_exinit C (.ref a :: ([.str w] ++ [])) (upd H a (exo a C none))
    (fun v H2 => v = .non ∧ ∃ (d : Addr) (fs : List (Str × V)), H2 a = some (exo a C (some d)) ∧ H2 d = some (exd d fs) ∧ H d = none ∧ E (.ref C) (some d) (upd (del H2 a) d (.xd fs))) (fun _ _ _ => False) := fun a ha =>
  ⟨a, w, rfl, upd_same, hl, fun dx hd hne => by
    have hd' : H dx = none := by rw [upd_ne hne] at hd; exact hd
    refine ⟨rfl, dx, _, upd_same, by rw [upd_ne hne, upd_same], hd', h dx _ (fun b o e => ?_) upd_same⟩
    have n1 : b ≠ dx := ne_of_none e hd'
    have n2 : b ≠ a := ne_of_none e ha
    rw [upd_ne n1, del_ne n2, upd_ne n2, upd_ne n1, upd_ne n2]
    exact e⟩

/-! ### the deck: its numbers in the order in which they are taken -/
def dk (D : List Int) : HO := .lst (D.reverse.map V.int)
def tk (D : List Int) (m : Int) : Int := D.headD 0 % m
theorem tk_nonneg (D : List Int) {m : Int} (h : 0 < m) : 0 ≤ tk D m := Int.emod_nonneg _ (by omega)
theorem tk_lt (D : List Int) {m : Int} (h : 0 < m) : tk D m < m := Int.emod_lt_of_pos _ h
def sp_take0 : Sp := fun vs H Q _ => ∃ (d : Addr) (D : List Int) (m : Int), vs = [.ref d, .int m] ∧ H d = some (dk D) ∧ 0 < m ∧ Q (.int (tk D m)) (upd H d (dk D.tail))
@[irreducible] def sp_take : Sp := sp_take0
theorem sp_take_eq : sp_take = sp_take0 := by unfold sp_take; rfl
theorem dk_last {x : Int} {D : List Int} : ((x :: D).reverse.map V.int)[((x :: D).reverse.map V.int).length - 1]? = some (V.int x) := by simp
theorem dk_drop {x : Int} {D : List Int} : ((x :: D).reverse.map V.int).dropLast = D.reverse.map V.int := by simp
def sp_deck (K : PySem.W.Frag) : Sp := fun vs H Q _ => ∃ (sa : Addr) (ns : List Int) (c e : Int), vs = [.ref sa, .int c, .int e] ∧ SqL K H sa (ns.map V.int) ∧ ns.length ≤ 1000 ∧ 0 ≤ c ∧ c ≤ 1000 ∧ 0 ≤ e ∧ e ≤ 100 ∧
  ∀ (D : List Int) (p : Addr) (H' : Hp), H p = none → Same H H' → H' p = some (dk D) → Q (.ref p) H'

/-! ### data: all that is known to a heap stays -/
mutual
theorem dp_same {K : PySem.W.Frag} {H H' : Hp} (s : Same H H') : ∀ (d : PyData) (v : V), Dp K H v d → Dp K H' v d
  | .none, _, h => by cases h; exact .non
  | .bool b, _, h => by cases h; exact .bl b
  | .int i, _, h => by cases h; exact .int i
  | .str x, _, h => by cases h; exact .str x
  | .list ds, _, h => by
    cases h with
    | lst h1 h2 => exact .lst (s.seq h1) (dpAll_same s ds _ h2)
  | .tuple ds, _, h => by
    cases h with
    | tup h1 h2 => exact .tup (s.tup h1) (dpAll_same s ds _ h2)
  | .dict _, _, h => nomatch h
theorem dpAll_same {K : PySem.W.Frag} {H H' : Hp} (s : Same H H') : ∀ (ds : List PyData) (vs : List V), DpAll K H vs ds → DpAll K H' vs ds
  | [], _, h => by cases h; exact .nil
  | d :: ds, _, h => by
    cases h with
    | cons h1 h2 => exact .cons (dp_same s d _ h1) (dpAll_same s ds _ h2)
end
/-! data all of whose cells lie in S -/
mutual
inductive DN (S : Addr → Prop) (H : Hp) : V → PyData → Prop
  | non : DN S H .non .none
  | bl (b : Bool) : DN S H (.bl b) (.bool b)
  | int (i : Int) : DN S H (.int i) (.int i)
  | str (x : Str) : DN S H (.str x) (.str x)
  | lst {a : Addr} {xs : List V} {ds : List PyData} : S a → H a = some (.lst xs) → DNs S H xs ds → DN S H (.ref a) (.list ds)
  | tup {a : Addr} {xs : List V} {ds : List PyData} : S a → H a = some (.tup xs) → DNs S H xs ds → DN S H (.ref a) (.tuple ds)
inductive DNs (S : Addr → Prop) (H : Hp) : List V → List PyData → Prop
  | nil : DNs S H [] []
  | cons {v : V} {vs : List V} {d : PyData} {ds : List PyData} : DN S H v d → DNs S H vs ds → DNs S H (v :: vs) (d :: ds)
end
mutual
theorem DN.dp {K : PySem.W.Frag} {S : Addr → Prop} {H : Hp} : ∀ (d : PyData) (v : V), DN S H v d → Dp K H v d
  | .none, _, h => by cases h; exact .non
  | .bool b, _, h => by cases h; exact .bl b
  | .int i, _, h => by cases h; exact .int i
  | .str x, _, h => by cases h; exact .str x
  | .list ds, _, h => by
    cases h with
    | lst _ h1 h2 => exact .lst (SqL.of h1) (DNs.dp ds _ h2)
  | .tuple ds, _, h => by
    cases h with
    | tup _ h1 h2 => exact .tup (SqT.of h1) (DNs.dp ds _ h2)
  | .dict _, _, h => nomatch h
theorem DNs.dp {K : PySem.W.Frag} {S : Addr → Prop} {H : Hp} : ∀ (ds : List PyData) (vs : List V), DNs S H vs ds → DpAll K H vs ds
  | [], _, h => by cases h; exact .nil
  | d :: ds, _, h => by
    cases h with
    | cons h1 h2 => exact .cons (DN.dp d _ h1) (DNs.dp ds _ h2)
end
mutual
theorem DN.mono {S S' : Addr → Prop} {H H' : Hp} (hs : ∀ a, S a → S' a) (hh : ∀ a o, S a → H a = some o → H' a = some o) : ∀ (d : PyData) (v : V), DN S H v d → DN S' H' v d
  | .none, _, h => by cases h; exact .non
  | .bool b, _, h => by cases h; exact .bl b
  | .int i, _, h => by cases h; exact .int i
  | .str x, _, h => by cases h; exact .str x
  | .list ds, _, h => by
    cases h with
    | lst h0 h1 h2 => exact .lst (hs _ h0) (hh _ _ h0 h1) (DNs.mono hs hh ds _ h2)
  | .tuple ds, _, h => by
    cases h with
    | tup h0 h1 h2 => exact .tup (hs _ h0) (hh _ _ h0 h1) (DNs.mono hs hh ds _ h2)
  | .dict _, _, h => nomatch h
theorem DNs.mono {S S' : Addr → Prop} {H H' : Hp} (hs : ∀ a, S a → S' a) (hh : ∀ a o, S a → H a = some o → H' a = some o) : ∀ (ds : List PyData) (vs : List V), DNs S H vs ds → DNs S' H' vs ds
  | [], _, h => by cases h; exact .nil
  | d :: ds, _, h => by
    cases h with
    | cons h1 h2 => exact .cons (DN.mono hs hh d _ h1) (DNs.mono hs hh ds _ h2)
end
theorem DNs.snoc {S : Addr → Prop} {H : Hp} {v : V} {d : PyData} (hv : DN S H v d) : ∀ {vs : List V} {ds : List PyData}, DNs S H vs ds → DNs S H (vs ++ [v]) (ds ++ [d])
  | _, _, .nil => .cons hv .nil
  | _, _, .cons h t => .cons h (DNs.snoc hv t)
theorem DNs.length {S : Addr → Prop} {H : Hp} : ∀ {vs : List V} {ds : List PyData}, DNs S H vs ds → vs.length = ds.length
  | _, _, .nil => rfl
  | _, _, .cons _ t => by rw [List.length_cons, List.length_cons, DNs.length t]
theorem dpAll_length {K : PySem.W.Frag} {H : Hp} : ∀ {vs : List V} {ds : List PyData}, DpAll K H vs ds → vs.length = ds.length
  | _, _, .nil => rfl
  | _, _, .cons _ t => by rw [List.length_cons, List.length_cons, dpAll_length t]
theorem dpAll_get {K : PySem.W.Frag} {H : Hp} : ∀ {vs : List V} {ds : List PyData} {i : Nat} {v : V}, DpAll K H vs ds → vs[i]? = some v → ∃ d, ds[i]? = some d ∧ Dp K H v d
  | _, _, i, _, .nil, e => by simp at e
  | _, _, 0, _, .cons h _, e => by
    have := Option.some.inj e
    subst this
    exact ⟨_, rfl, h⟩
  | _, _, i + 1, _, .cons _ t, e => by
    have e' := e
    rw [List.getElem?_cons_succ] at e'
    obtain ⟨d, h1, h2⟩ := dpAll_get t e'
    exact ⟨d, by rw [List.getElem?_cons_succ]; exact h1, h2⟩

/-! ### small data: nested at most n deep, rows of at most 1000 -/
mutual
def okD : Nat → PyData → Bool
  | _, .none => true
  | _, .bool _ => true
  | _, .int _ => true
  | _, .str x => PyData.strOk x
  | 0, .list _ => false
  | n + 1, .list xs => decide (xs.length ≤ 1000) && okDs n xs
  | 0, .tuple _ => false
  | n + 1, .tuple xs => decide (xs.length ≤ 1000) && okDs n xs
  | _, .dict _ => false
def okDs : Nat → List PyData → Bool
  | _, [] => true
  | n, x :: xs => okD n x && okDs n xs
end
/-! as okD, the rows of any length -/
mutual
def okDx : Nat → PyData → Bool
  | _, .none => true
  | _, .bool _ => true
  | _, .int _ => true
  | _, .str x => PyData.strOk x
  | 0, .list _ => false
  | n + 1, .list xs => okDxs n xs
  | 0, .tuple _ => false
  | n + 1, .tuple xs => okDxs n xs
  | _, .dict _ => false
def okDxs : Nat → List PyData → Bool
  | _, [] => true
  | n, x :: xs => okDx n x && okDxs n xs
end
theorem okDs_get {n : Nat} : ∀ {ds : List PyData} {i : Nat} {d : PyData}, okDs n ds = true → ds[i]? = some d → okD n d = true
  | [], i, d, _, e => by simp at e
  | x :: xs, 0, d, h, e => by
    have := Option.some.inj e
    subst this
    simp only [okDs, Bool.and_eq_true] at h
    exact h.1
  | x :: xs, i + 1, d, h, e => by
    simp only [okDs, Bool.and_eq_true] at h
    rw [List.getElem?_cons_succ] at e
    exact okDs_get h.2 e
mutual
theorem okDx_lay : ∀ (n : Nat) (d : PyData), okDx n d = true → d.canLay0 = true ∧ d.depth ≤ n
  | _, .none, _ => by simp [PyData.canLay0, PyData.depth]
  | _, .bool _, _ => by simp [PyData.canLay0, PyData.depth]
  | _, .int _, _ => by simp [PyData.canLay0, PyData.depth]
  | _, .str x, h => by
    simp only [okDx] at h
    simp [PyData.canLay0, PyData.depth, h]
  | 0, .list _, h => by simp [okDx] at h
  | n + 1, .list xs, h => by
    simp only [okDx] at h
    obtain ⟨h1, h2⟩ := okDxs_lay n xs h
    simp only [PyData.canLay0, PyData.depth]
    exact ⟨h1, by omega⟩
  | 0, .tuple _, h => by simp [okDx] at h
  | n + 1, .tuple xs, h => by
    simp only [okDx] at h
    obtain ⟨h1, h2⟩ := okDxs_lay n xs h
    simp only [PyData.canLay0, PyData.depth]
    exact ⟨h1, by omega⟩
  | _, .dict _, h => by simp [okDx] at h
theorem okDxs_lay : ∀ (n : Nat) (ds : List PyData), okDxs n ds = true → PyData.canLayAll0 ds = true ∧ PyData.depthAll ds ≤ n
  | _, [], _ => by simp [PyData.canLayAll0, PyData.depthAll]
  | n, x :: xs, h => by
    simp only [okDxs, Bool.and_eq_true] at h
    obtain ⟨a1, a2⟩ := okDx_lay n x h.1
    obtain ⟨b1, b2⟩ := okDxs_lay n xs h.2
    simp only [PyData.canLayAll0, PyData.depthAll, a1, b1]
    exact ⟨rfl, by omega⟩
end
theorem okDx_shaped {n : Nat} {d : PyData} (h : okDx n d = true) (hn : n ≤ 64) : SeqAt.shaped d = true := by
  obtain ⟨h1, h2⟩ := okDx_lay n d h
  show (d.canLay0 && decide (d.depth ≤ 64)) = true
  rw [h1, decide_eq_true (by omega)]
  rfl

/-! ### what _law_plain tells of data -/
mutual
def plainD : PyData → PyData
  | .list xs => .list (.bool true :: plainDs xs)
  | .tuple xs => .list (.bool false :: plainDs xs)
  | .none => .str "None"
  | .bool b => .str (if b then "True" else "False")
  | .int i => .list [.bool false, .int i]
  | .str x => .list [.bool true, .str x]
  | .dict _ => .str "another"
def plainDs : List PyData → List PyData
  | [] => []
  | x :: xs => plainD x :: plainDs xs
end
theorem plainDs_length : ∀ ds : List PyData, (plainDs ds).length = ds.length
  | [] => rfl
  | x :: xs => by simp only [plainDs, List.length_cons, plainDs_length xs]
theorem plainDs_take {d : PyData} : ∀ {ds : List PyData} {i : Nat}, ds[i]? = some d → plainDs (ds.take (i + 1)) = plainDs (ds.take i) ++ [plainD d]
  | [], i, e => by simp at e
  | x :: xs, 0, e => by
    have := Option.some.inj e
    subst this
    simp [plainDs]
  | x :: xs, i + 1, e => by
    rw [List.getElem?_cons_succ] at e
    have := plainDs_take e
    simp only [List.take_succ_cons, plainDs, this, List.cons_append]
mutual
theorem plainD_ok : ∀ (n : Nat) (d : PyData), okD n d = true → okDx (n + 1) (plainD d) = true
  | n, .none, _ => by simp only [plainD, okDx]; decide +kernel
  | n, .bool b, _ => by cases b <;> simp only [plainD, okDx] <;> decide +kernel
  | n, .int i, _ => by simp only [plainD, okDx, okDxs, Bool.and_self]
  | n, .str x, h => by
    simp only [okD] at h
    simp [plainD, okDx, okDxs, h]
  | 0, .list _, h => by simp [okD] at h
  | n + 1, .list xs, h => by
    simp only [okD, Bool.and_eq_true, decide_eq_true_eq] at h
    have := plainDs_ok n xs h.2
    simp [plainD, okDx, okDxs, this]
  | 0, .tuple _, h => by simp [okD] at h
  | n + 1, .tuple xs, h => by
    simp only [okD, Bool.and_eq_true, decide_eq_true_eq] at h
    have := plainDs_ok n xs h.2
    simp [plainD, okDx, okDxs, this]
  | _, .dict _, h => by simp [okD] at h
theorem plainDs_ok : ∀ (n : Nat) (ds : List PyData), okDs n ds = true → okDxs (n + 1) (plainDs ds) = true
  | _, [], _ => by simp [plainDs, okDxs]
  | n, x :: xs, h => by
    simp only [okDs, Bool.and_eq_true] at h
    have a := plainD_ok n x h.1
    have b := plainDs_ok n xs h.2
    simp [plainDs, okDxs, a, b]
end

/-! ### more of the deck -/
def SameBut (d : Addr) (H H' : Hp) : Prop := ∀ b o, b ≠ d → H b = some o → H' b = some o
def sp_number0 : Sp := fun vs H Q _ => ∃ (d : Addr) (D : List Int), vs = [.ref d] ∧ H d = some (dk D) ∧ ∀ (n : Int) (D' : List Int) (H' : Hp), SameBut d H H' → H' d = some (dk D') → n.natAbs < 2 ^ 130 → Q (.int n) H'
@[irreducible] def sp_number : Sp := sp_number0
theorem sp_number_eq : sp_number = sp_number0 := by unfold sp_number; rfl
/-- G: what stands still; the deck at d moves -/
structure Dk (G H : Hp) (d : Addr) (D : List Int) : Prop where
  nd : G d = none
  sm : Same G H
  hd : H d = some (dk D)
section
variable {G H H' : Hp} {d p : Addr} {D D' : List Int} {o : HO}
theorem Dk.take (k : Dk G H d D) : Dk G (upd H d (dk D')) d D' := ⟨k.nd, k.sm.mut k.nd, upd_same⟩
theorem Dk.new (k : Dk G H d D) (h : H p = none) : Dk (upd G p o) (upd H p o) d D := by
  have n : d ≠ p := ne_of_none k.hd h
  refine ⟨by rw [upd_ne n]; exact k.nd, fun b u e => ?_, by rw [upd_ne n]; exact k.hd⟩
  by_cases q : b = p
  · rw [q, upd_same] at e
    rw [q, upd_same]
    exact e
  · rw [upd_ne q] at e
    rw [upd_ne q]
    exact k.sm b u e
theorem Dk.same (k : Dk G H d D) (s : Same H H') : Dk G H' d D := ⟨k.nd, k.sm.trans s, s _ _ k.hd⟩
theorem Dk.but (k : Dk G H d D) (s : SameBut d H H') (h : H' d = some (dk D')) : Dk G H' d D' := ⟨k.nd, fun b u e => s b u (ne_of_none e k.nd) (k.sm b u e), h⟩
theorem Dk.ne (k : Dk G H d D) (h : G p = some o) : p ≠ d := ne_of_none h k.nd
theorem Dk.fresh (k : Dk G H d D) (h : H p = none) : G p = none := k.sm.free h
end
theorem atI_nat' {α : Type} {xs : List α} {i : Int} {j : Nat} {v : α} (e : i = (j : Int)) (h : xs[j]? = some v) : atI xs i = some v := by
  rw [e]
  exact atI_nat h
theorem atI_ints {ns : List Int} {i : Int} (h0 : 0 ≤ i) (h1 : i < (ns.length : Int)) : ∃ z, atI (ns.map V.int) i = some (.int z) ∧ z ∈ ns := by
  have hl : i.toNat < ns.length := by omega
  refine ⟨ns[i.toNat], atI_nat' (j := i.toNat) (by omega) ?_, List.getElem_mem hl⟩
  rw [List.getElem?_map, List.getElem?_eq_getElem hl]
  rfl
theorem small1000000 {n : Nat} (h : n ≤ 1000000) : n < sizeLine := by
  rw [sizeLine_eq]
  omega
theorem two_pow_mono {a b : Nat} (h : a ≤ b) : (2 : Int) ^ a ≤ 2 ^ b := by
  have := Nat.pow_le_pow_right (n := 2) (by decide) h
  have e : ∀ c : Nat, ((2 ^ c : Nat) : Int) = (2 : Int) ^ c := fun c => by rw [Int.natCast_pow]; rfl
  rw [← e, ← e]
  omega
/-- x is True -/
def rIsT : R2 := fun x y H Q => (∃ a b : Bool, x = .bl a ∧ y = .bl b ∧ Q (.bl (decide (a = b))) H) ∨ (x = .non ∧ ∃ b, y = .bl b ∧ Q (.bl false) H)
theorem op_isT {X : Cx} : OpR X (compareOp .Is) rIsT := by
  intro pins s σ H x y v u Q I rx ry h
  rcases h with h | ⟨rfl, b, rfl, k⟩
  · exact op_isBl pins s σ H x y v u Q I rx ry h
  · cases (show v = Value.none from rx)
    cases (show u = Value.bool b from ry)
    exact wpAny_is_other rfl (fun z => nomatch z) ⟨.bl false, H, I, rfl, k⟩
theorem kind_l {K : PySem.W.Frag} {H : Hp} {a : Addr} {xs : List V} (h : SqL K H a xs) : TyX K H (.ref a) (.type "list") := by
  rcases h with (h | ⟨o, h⟩) | ⟨o, _, _, h, c, _⟩
  · exact .base (.lst h)
  · exact .base (.frz h)
  · exact .kList h c
theorem kind_t {K : PySem.W.Frag} {H : Hp} {a : Addr} {xs : List V} (h : SqT K H a xs) : TyX K H (.ref a) (.type "tuple") := by
  rcases h with (h | ⟨o, h⟩) | ⟨o, _, _, h, c, _⟩
  · exact .base (.tup h)
  · exact .fTuple h
  · exact .kTuple h c
theorem kit2 {K : PySem.W.Frag} {a b c : String} {r1 r2 : Bool} (h1 : kitB a b = some r1) (h2 : kitB a c = some r2) : PySem.W.kitAny K (.type a) [.type b, .type c] = some (r1 || r2) := by
  cases r1 with
  | true => exact kitAny_cons (b := true) (kit_ty h1) (fun z => nomatch z) fun _ => rfl
  | false =>
    refine kitAny_cons (b := false) (kit_ty h1) (fun _ => ?_) (fun z => nomatch z)
    exact kitAny_cons (b := r2) (kit_ty h2) (fun z => by subst z; exact kitAny_nil) fun z => by subst z; rfl
def sp_plain (K : PySem.W.Frag) (n : Nat) : Sp := fun vs H Q _ => ∃ (v : V) (d : PyData), vs = [v] ∧ Dp K H v d ∧ okD n d = true ∧ ∀ (v' : V) (H' : Hp), Same H H' → DN (fun a => H a = none) H' v' (plainD d) → Q v' H'
/-- isinstance(x, (A, B)), the tuple just made at p -/
theorem isi_pair {K : PySem.W.Frag} {H : Hp} {p : Addr} {x : V} {t A B : String} {r1 r2 : Bool} {Q : VK} (h1 : kitB t A = some r1) (h2 : kitB t B = some r2) (hx : TyX K (upd H p (.tup [.ty A, .ty B])) x (.type t)) (k : Q (.bl (r1 || r2)) (upd H p (.tup [.ty A, .ty B]))) :
    rIsiT K [x, .ref p] (upd H p (.tup [.ty A, .ty B])) Q :=
  ⟨x, p, _, _, _, _, rfl, upd_same, .cons (.ty A) (.cons (.ty B) .nil), hx, kit2 h1 h2, k⟩
theorem _root_.L2.TyX.new {K : PySem.W.Frag} {H : Hp} {x : V} {T : String} {p : Addr} {o : HO} (h : TyX K H x (.type T)) (hp : H p = none) : TyX K (upd H p o) x (.type T) := by
  have s : Same H (upd H p o) := Same.new hp
  generalize e : Value.type T = t at h
  cases h with
  | base b =>
    cases b with
    | non => exact .base .non
    | bl y => exact .base (.bl y)
    | int i => exact .base (.int i)
    | str y => exact .base (.str y)
    | flt y => exact .base (.flt y)
    | lst q => exact .base (.lst (s _ _ q))
    | frz q => exact .base (.frz (s _ _ q))
    | tup q => exact .base (.tup (s _ _ q))
    | dK q => exact .base (.dK (s _ _ q))
    | dT q => exact .base (.dT (s _ _ q))
    | ins q => cases e
  | byt b => exact .byt b
  | set q => exact .set (s _ _ q)
  | kList q c => exact .kList q c
  | kTuple q c => exact .kTuple q c
  | kDict q c => exact .kDict q c
  | fTuple q => exact .fTuple (s _ _ q)
  | fDict q => exact .fDict (s _ _ q)

/-- two plain tellings of the same data are equal -/
theorem plain_same {K : PySem.W.Frag} {S S' : Addr → Prop} {H1 H3 : Hp} {v1 v2 : V} {d : PyData} {Q : VK} {n : Nat} (h1 : DN S H1 v1 (plainD d)) (hs : Same H1 H3) (h2 : DN S' H3 v2 (plainD d)) (ok : okD n d = true) (hn : n ≤ 60) (k : Q (.bl false) H3) : rNeD K v1 v2 H3 Q := by
  have sh := okDx_shaped (plainD_ok n d ok) (by omega)
  refine ⟨plainD d, plainD d, dp_same hs _ _ (DN.dp _ _ h1), DN.dp _ _ h2, sh, sh, ?_⟩
  rw [SeqAt.eqv_refl _ (SeqAt.canLay_of_shaped sh)]
  exact k
/-- .. as a test that then fails -/
theorem plain_test {K : PySem.W.Frag} {S S' : Addr → Prop} {H1 H3 : Hp} {v1 v2 : V} {d : PyData} {Q : Bool → Hp → Prop} (n : Nat) (h1 : DN S H1 v1 (plainD d)) (hs : Same H1 H3) (h2 : DN S' H3 v2 (plainD d)) (ok : okD n d = true) (hn : n ≤ 60) (k : Q false H3) : rNeD K v1 v2 H3 fun x H' => ∃ b, x = .bl b ∧ Q b H' :=
  plain_same h1 hs h2 ok hn ⟨false, rfl, k⟩
theorem gcd_cdiv {x y : Int} (i : Int) (h : y ≠ 0) (hy : y.natAbs < 2 ^ 8000) : CDivZ i ((Nat.gcd x.natAbs y.natAbs : Nat) : Int) ∧ CDivZ i (-((Nat.gcd x.natAbs y.natAbs : Nat) : Int)) := by
  have h1 : Nat.gcd x.natAbs y.natAbs ≤ y.natAbs := Nat.gcd_le_right _ (by omega)
  have h0 : 0 < Nat.gcd x.natAbs y.natAbs := Nat.gcd_pos_of_pos_right _ (by omega)
  generalize hg : Nat.gcd x.natAbs y.natAbs = g at h1 h0
  have hb : g < 2 ^ 8000 := Nat.lt_of_le_of_lt h1 hy
  exact ⟨cdivZ_of (b := 8000) (by omega) (by rw [Int.natAbs_natCast]; exact hb) (by decide) (by decide), cdivZ_of (b := 8000) (by omega) (by rw [Int.natAbs_neg, Int.natAbs_natCast]; exact hb) (by decide) (by decide)⟩
/-- what two ways have in common behind them, shown once -/
theorem cutP {X Y : Prop} (f : X → Y) (x : X) : Y := f x
theorem Dk.weak {G H : Hp} {d : Addr} {D : List Int} (k : Dk G H d D) : Dk (fun _ => none) H d D := ⟨rfl, same_none, k.hd⟩

/-! ### taking from the deck, the heap behind it not told -/
section
variable {Kf : PySem.W.Frag} {G H : Hp} {d l : Addr} {D : List Int} {Q : VK}
theorem take_q (K1 : Dk G H d D) {m : Int} (hm : 0 < m) (k : ∀ z H2, 0 ≤ z → z < m → Dk G H2 d D.tail → Q (.int z) H2) : sp_take [.ref d, .int m] H Q E0 := by
  rw [sp_take_eq]
  exact ⟨d, D, m, rfl, K1.hd, hm, k _ _ (tk_nonneg D hm) (tk_lt D hm) K1.take⟩
/-- .. the heap told -/
theorem take_u {H : Hp} {d : Addr} {D : List Int} {Q : VK} (hd : H d = some (dk D)) {m : Int} (hm : 0 < m) (k : Q (.int (tk D m)) (upd H d (dk D.tail))) : sp_take [.ref d, .int m] H Q E0 := by
  rw [sp_take_eq]
  exact ⟨d, D, m, rfl, hd, hm, k⟩
/-- [n, ..][_law_take(deck, how many)] -/
theorem pick (K1 : Dk G H d D) (hl : H l = none) (ns : List Int) (h : 0 < ns.length) (k : ∀ z H2, z ∈ ns → Dk G H2 d D.tail → Q (.int z) H2) : sp_take [.ref d, .int (ns.length : Int)] (upd H l (.lst (ns.map V.int))) (fun v H2 => rIxL Kf (.ref l) v H2 Q) E0 := by
  rw [sp_take_eq]
  have hm : (0 : Int) < (ns.length : Int) := by omega
  have K2 := K1.new (o := .lst (ns.map V.int)) hl
  have n : d ≠ l := ne_of_none K1.hd hl
  refine ⟨d, D, _, rfl, K2.hd, hm, ?_⟩
  have K3 := K2.take (D' := D.tail)
  obtain ⟨z, hz, hm⟩ := atI_ints (tk_nonneg D hm) (tk_lt D hm)
  refine ⟨l, _, _, _, rfl, rfl, SqL.of (K3.sm _ _ upd_same), hz, k _ _ hm ⟨K1.nd, ?_, K3.hd⟩⟩
  have g : G l = none := K1.sm.free hl
  exact (Same.new g).trans K3.sm
theorem number_q (K1 : Dk G H d D) (k : ∀ n D' H2, n.natAbs < 2 ^ 130 → Dk G H2 d D' → Q (.int n) H2) : sp_number [.ref d] H Q E0 := by
  rw [sp_number_eq]
  exact ⟨d, D, rfl, K1.hd, fun n D' H' s h hn => k n D' H' hn (K1.but s h)⟩
end
theorem abs_nat (x : Int) : (if x < 0 then -x else x) = (x.natAbs : Int) := by split <;> omega

/-! ### fractions in lowest terms -/
/-- the greatest common divisor, with the sign of what is below -/
def frC (x y : Int) : Int := if y < 0 then -((Nat.gcd x.natAbs y.natAbs : Nat) : Int) else ((Nat.gcd x.natAbs y.natAbs : Nat) : Int)
def frA (x y : Int) : Int := x.fdiv (frC x y)
def frB (x y : Int) : Int := y.fdiv (frC x y)
theorem fdiv_mul_self {c p : Int} (h : c ≠ 0) : (c * p).fdiv c = p := Int.mul_fdiv_cancel_left p h
/-- what a fraction in lowest terms is -/
theorem fr_spec {x y : Int} (h : y ≠ 0) : x = frC x y * frA x y ∧ y = frC x y * frB x y ∧ 0 < frB x y ∧ frC x y ≠ 0 ∧ (0 < frC x y ↔ 0 < y) ∧ frB x y ≤ y.natAbs ∧ Nat.gcd (frA x y).natAbs (frB x y).natAbs = 1 := by
  have h0 : 0 < Nat.gcd x.natAbs y.natAbs := Nat.gcd_pos_of_pos_right _ (by omega)
  have hx : frC x y ∣ x := by
    unfold frC
    split
    · exact Int.neg_dvd.mpr (Int.ofNat_dvd_left.mpr (Nat.gcd_dvd_left _ _))
    · exact Int.ofNat_dvd_left.mpr (Nat.gcd_dvd_left _ _)
  have hy : frC x y ∣ y := by
    unfold frC
    split
    · exact Int.neg_dvd.mpr (Int.ofNat_dvd_left.mpr (Nat.gcd_dvd_right _ _))
    · exact Int.ofNat_dvd_left.mpr (Nat.gcd_dvd_right _ _)
  have hn : (frC x y).natAbs = Nat.gcd x.natAbs y.natAbs := by
    unfold frC
    split <;> omega
  have hc0 : frC x y ≠ 0 := by omega
  have hs : (0 < frC x y ↔ 0 < y) := by
    unfold frC
    split <;> constructor <;> omega
  obtain ⟨p, hp⟩ := hx
  obtain ⟨q, hq⟩ := hy
  have e1 : frA x y = p := by
    unfold frA
    generalize frC x y = c at hp hc0
    rw [hp, fdiv_mul_self hc0]
  have e2 : frB x y = q := by
    unfold frB
    generalize frC x y = c at hq hc0
    rw [hq, fdiv_mul_self hc0]
  have na1 : x.natAbs = (frC x y).natAbs * p.natAbs := by
    rw [← Int.natAbs_mul, ← hp]
  have na2 : y.natAbs = (frC x y).natAbs * q.natAbs := by
    rw [← Int.natAbs_mul, ← hq]
  have q0 : q ≠ 0 := fun z => by
    rw [z, Int.mul_zero] at hq
    exact h hq
  refine ⟨by rw [e1]; exact hp, by rw [e2]; exact hq, ?_, hc0, hs, ?_, ?_⟩
  · rw [e2]
    rcases Int.lt_trichotomy q 0 with z | z | z
    · exfalso
      by_cases yp : 0 < y
      · have := Int.mul_neg_of_pos_of_neg (hs.mpr yp) z
        omega
      · have cn : frC x y < 0 := by
          have : ¬ 0 < frC x y := fun w => yp (hs.mp w)
          omega
        have := Int.mul_pos_of_neg_of_neg cn z
        omega
    · exact absurd z q0
    · exact z
  · rw [e2]
    have : q.natAbs ≤ y.natAbs := by
      rw [na2]
      exact Nat.le_mul_of_pos_left _ (by omega)
    omega
  · rw [e1, e2]
    have e3 : Nat.gcd x.natAbs y.natAbs = (frC x y).natAbs * Nat.gcd p.natAbs q.natAbs := by
      rw [na1, na2, Nat.gcd_mul_left]
    rw [hn] at e3
    have : Nat.gcd x.natAbs y.natAbs * Nat.gcd p.natAbs q.natAbs = Nat.gcd x.natAbs y.natAbs * 1 := by omega
    exact Nat.eq_of_mul_eq_mul_left h0 this
def sp_fraction (C : Addr) : Sp := fun vs H Q E => ∃ x y : Int, vs = [.int x, .int y] ∧ y.natAbs < 2 ^ 8000 ∧ (y = 0 → raisesW C "fraction" H E) ∧ (y ≠ 0 → ∀ p, H p = none → Q (.ref p) (upd H p (.tup [.int (frA x y), .int (frB x y)])))
def sp_lawgcd : Sp := fun vs H Q _ => ∃ x y : Int, vs = [.int x, .int y] ∧ Q (.int ((Nat.gcd x.natAbs y.natAbs : Nat) : Int)) H
def sp_lawfraction : Sp := fun vs H Q _ => ∃ x y : Int, vs = [.int x, .int y] ∧ y.natAbs < 2 ^ 8000 ∧ y ≠ 0 ∧ ∀ p, H p = none → Q (.ref p) (upd H p (.tup [.int (frA x y), .int (frB x y)]))

theorem dpAll_ints {K : PySem.W.Frag} {H : Hp} : ∀ ns : List Int, DpAll K H (ns.map V.int) (ns.map PyData.int)
  | [] => .nil
  | n :: ns => .cons (.int n) (dpAll_ints ns)
theorem dp_ints {K : PySem.W.Frag} {H : Hp} {p : Addr} {ns : List Int} (h : SqL K H p (ns.map V.int)) : Dp K H (.ref p) (.list (ns.map PyData.int)) := .lst h (dpAll_ints ns)
theorem okDs_ints {n : Nat} : ∀ ns : List Int, okDs n (ns.map PyData.int) = true
  | [] => by simp [okDs]
  | x :: ns => by simp only [List.map_cons, okDs, okD, Bool.true_and]; exact okDs_ints ns
theorem ok_ints {n : Nat} {ns : List Int} (h : ns.length ≤ 1000) : okD (n + 1) (.list (ns.map PyData.int)) = true := by
  simp only [okD, Bool.and_eq_true, decide_eq_true_eq, List.length_map]
  exact ⟨h, okDs_ints ns⟩
theorem okDx_ints {n : Nat} : ∀ ns : List Int, okDxs n (ns.map PyData.int) = true
  | [] => by simp [okDxs]
  | x :: ns => by simp only [List.map_cons, okDxs, okDx, Bool.true_and]; exact okDx_ints ns
theorem shaped_ints (ns : List Int) : SeqAt.shaped (.list (ns.map PyData.int)) = true := okDx_shaped (n := 1) (by simp only [okDx]; exact okDx_ints ns) (by decide)
/-- two int lists that are the same: != says no -/
theorem ints_same {K : PySem.W.Frag} {H : Hp} {p q : Addr} {ns : List Int} {Q : VK} (h1 : SqL K H p (ns.map V.int)) (h2 : SqL K H q (ns.map V.int)) (k : Q (.bl false) H) : rNeD K (.ref p) (.ref q) H Q := by
  refine ⟨_, _, dp_ints h1, dp_ints h2, shaped_ints ns, shaped_ints ns, ?_⟩
  rw [SeqAt.eqv_refl _ (SeqAt.canLay_of_shaped (shaped_ints ns))]
  exact k

theorem Dk.add {G H : Hp} {d q : Addr} {D : List Int} {o : HO} (k : Dk G H d D) (h : H q = some o) (n : q ≠ d) : Dk (upd G q o) H d D :=
  ⟨by rw [upd_ne (Ne.symm n)]; exact k.nd, fun b u e => by
    by_cases z : b = q
    · rw [z, upd_same] at e
      rw [z, h]
      exact e
    · rw [upd_ne z] at e
      exact k.sm b u e, k.hd⟩
theorem Dk.keep {G G' H : Hp} {d : Addr} {D : List Int} (k : Dk G H d D) (h : G' d = none) (s : Same G' H) : Dk G' H d D := ⟨h, s, k.hd⟩
/-! ### comprehensions whose element does nothing to the heap -/
theorem lc_pure {K : PySem.W.Frag} {a : Addr} {xs : List V} {te : TE} {vs : List Nat} {σ : L2.St} {H1 : Hp} {D : Addr} {Qd : Hp → Prop} {j : Nat} (f : Nat → V → V) (hx : SqL K H1 a xs) (hD : H1 D = none) (hz : xs.length ≤ 1000000) (hw : ∀ x, wipe ((wipe σ vs).set j (some x)) vs = wipe σ vs)
    (hs : ∀ i x H', xs[i]? = some x → Same H1 H' → ∀ Q : VK, Q (f i x) H' → te ((wipe σ vs).set j (some x)) H' Q) (hd : Qd (upd H1 D (.lst (xs.mapIdx f)))) :
    ∃ W : Nat → Nat → Hp → Prop, (∃ m, W 0 m (upd H1 D (.lst []))) ∧ ∀ i m H, W i m H →
      ((Itl K a).stop i H ∧ Qd H) ∨ ((Itl K a).go i H ∧ ∃ Nx : Hp → Prop, (∀ H', Nx H' → ∃ m', m' < m ∧ W (i + 1) m' H') ∧ ∀ x H', (Itl K a).yld i H x H' → gName j x (wipe σ vs) H' fun σ2 H2 => wipe σ2 vs = wipe σ vs ∧ tYes σ2 H2 fun b H3 =>
        if b = true then te σ2 H3 fun y H4 => ∃ acc, H4 D = some (.lst acc) ∧ acc.length < sizeLine ∧ Nx (upd H4 D (.lst (acc ++ [y]))) else Nx H3) := by
  have tk : ∀ (l : List V) (g : Nat → V → V) (i : Nat) (x : V), l[i]? = some x → (l.mapIdx g).take (i + 1) = (l.mapIdx g).take i ++ [g i x] := by
    intro l g i x e
    have h1 : (l.mapIdx g)[i]? = some (g i x) := by rw [List.getElem?_mapIdx, e]; rfl
    rw [List.take_add_one, h1]
    rfl
  refine lc_list (K := K) (a := a) (xs := xs) (fun i H' => H' = upd H1 D (.lst ((xs.mapIdx f).take i))) (by rw [List.take_zero]) (fun i H' _ q => by subst q; exact (Same.new hD).seq hx) ?_ ?_
  · rintro i x H' hi rfl
    have hi1 := (List.getElem?_eq_some_iff.mp hi).1
    refine ⟨hw x, ?_⟩
    show te _ _ _
    refine hs i x _ hi (Same.new hD) _ ?_
    refine ⟨_, upd_same, small1000000 (by rw [List.length_take]; omega), ?_⟩
    rw [upd_upd, tk xs f i x hi]
  · rintro H' rfl
    have e : (xs.mapIdx f).take xs.length = xs.mapIdx f := by
      have : (xs.mapIdx f).length = xs.length := List.length_mapIdx
      rw [← this, List.take_length]
    rw [e]
    exact hd
theorem pickV {Kf : PySem.W.Frag} {G H : Hp} {d l : Addr} {D : List Int} {Q : VK} (K1 : Dk G H d D) (hl : H l = none) (ns : List V) (h : 0 < ns.length) (k : ∀ z H2, z ∈ ns → Dk G H2 d D.tail → Q z H2) : sp_take [.ref d, .int (ns.length : Int)] (upd H l (.lst ns)) (fun v H2 => rIxL Kf (.ref l) v H2 Q) E0 := by
  rw [sp_take_eq]
  have hm : (0 : Int) < (ns.length : Int) := by omega
  have K2 := K1.new (o := .lst ns) hl
  refine ⟨d, D, _, rfl, K2.hd, hm, ?_⟩
  have K3 := K2.take (D' := D.tail)
  have b0 := tk_nonneg D hm
  have b1 := tk_lt D hm
  have hj : (tk D (ns.length : Int)).toNat < ns.length := by omega
  refine ⟨l, _, _, _, rfl, rfl, SqL.of (K3.sm _ _ upd_same), atI_nat' (j := (tk D (ns.length : Int)).toNat) (by omega) (List.getElem?_eq_getElem hj), k _ _ (List.getElem_mem hj) ⟨K1.nd, ?_, K3.hd⟩⟩
  exact (Same.new (K1.sm.free hl)).trans K3.sm
/-- an item of a list at a written place -/
theorem ix_at {Kf : PySem.W.Frag} {H : Hp} {p : Addr} {xs : List V} {v : V} {Q : VK} (j : Nat) (h : SqL Kf H p xs) (hv : xs[j]? = some v) (k : Q v H) : rIxL Kf (.ref p) (.int (j : Int)) H Q := ⟨p, xs, _, v, rfl, rfl, h, atI_nat hv, k⟩

/-! ### walks of what may be a list or a tuple -/
def SqX (K : PySem.W.Frag) (H : Hp) (a : Addr) (xs : List V) : Prop := SqL K H a xs ∨ SqT K H a xs
theorem SqX.mono {K : PySem.W.Frag} {H H' : Hp} {a : Addr} {xs : List V} (h : SqX K H a xs) (s : Same H H') : SqX K H' a xs := by
  rcases h with h | h
  · exact .inl (s.seq h)
  · exact .inr (s.tup h)
def iSeq (K : PySem.W.Frag) (tl : TE) : TI := fun σ H R => tl σ H fun x H1 => ∃ a, x = .ref a ∧ (((∃ xs, SqL K H1 a xs) ∧ R (Itl K a) H1) ∨ ((∃ xs, SqT K H1 a xs) ∧ R (Itt K a) H1))
theorem pi_seq {X : Cx} {tg l : Expr} {tl : TE} (hl : PE X l tl) : PI X tg l (iSeq X.K tl) := by
  refine ⟨fun pins s σ H R I h => thn (hl.run pins s σ H _ I h) fun v s1 ⟨x, H1, I1, r1, a, e, q⟩ => ?_⟩
  subst e
  cases r1
  have fresh : ∀ b ∈ [s1.heap.objs.size], FpOk X pins H1 b := by
    intro b hb
    rw [List.mem_singleton] at hb
    rw [hb]
    exact I1.fpOk (Nat.le_refl _) (I1.hok.fresh (Nat.le_refl _))
  rcases q with ⟨⟨xs, hq⟩, q⟩ | ⟨⟨xs, hq⟩, q⟩
  · obtain ⟨its, rv, pl, hz⟩ := I1.list hq
    exact wpAny_pyIter_list pl.isList ⟨_, _, _, _, H1, rfl, I1.kept (t' := s1.toks) (fun b o e => Heap.get?_push_of_some _ e), turn_list a _, ⟨_, Heap.get?_push_size _ rfl, rfl, rfl⟩, fresh, q⟩
  · obtain ⟨its, rv, pl, hz⟩ := I1.tuple hq
    exact wpAny_pyIter_tuple (show s1.heap.IsTuple a its.toArray from pl) ⟨_, _, _, _, H1, rfl, I1.kept (t' := s1.toks) (fun b o e => Heap.get?_push_of_some _ e), turn_tuple a _, ⟨_, Heap.get?_push_size _ rfl, rfl, rfl⟩, fresh, q⟩
/-- what a for loop asks of its walk J -/
def forR (g : TG) (tb : TS) (D : Ends) (σ : L2.St) (J : It) (H1 : Hp) : Prop := ∃ W : Nat → Nat → L2.St → Hp → Prop, (∃ m, W 0 m σ H1) ∧ ∀ i m σ H, W i m σ H →
  (J.stop i H ∧ D.nx σ H) ∨ (J.go i H ∧ ∃ N : L2.St → Hp → Prop, (∀ σ' H', N σ' H' → ∃ m', m' < m ∧ W (i + 1) m' σ' H') ∧ ∀ x H', J.yld i H x H' → g x σ H' fun σ2 H2 => tb { D with nx := N, ct := N, bk := D.nx } σ2 H2)
/-- .. a list or a tuple; G: where it stands -/
theorem for_seq {K : PySem.W.Frag} {a : Addr} {xs : List V} {g : TG} {tb : TS} {D : Ends} {σ : L2.St} {H G : Hp} (hq : SqX K G a xs) (Pv : Nat → L2.St → Hp → Prop) (h0 : Pv 0 σ H) (hl : ∀ i σ H, Pv i σ H → Same G H)
    (hs : ∀ i x σ H, xs[i]? = some x → Pv i σ H → g x σ H fun σ2 H2 => tb { D with nx := Pv (i + 1), ct := Pv (i + 1), bk := D.nx } σ2 H2) (hd : ∀ σ H, Pv xs.length σ H → D.nx σ H) :
    ((∃ xs, SqL K H a xs) ∧ forR g tb D σ (Itl K a) H) ∨ ((∃ xs, SqT K H a xs) ∧ forR g tb D σ (Itt K a) H) := by
  rcases hq with hq | hq
  · exact .inl ⟨⟨xs, (hl _ _ _ h0).seq hq⟩, for_list (K := K) (a := a) (xs := xs) Pv h0 (fun i σ H _ p => (hl i σ H p).seq hq) hs hd⟩
  · exact .inr ⟨⟨xs, (hl _ _ _ h0).tup hq⟩, for_tup (K := K) (a := a) (xs := xs) Pv h0 (fun i σ H _ p => (hl i σ H p).tup hq) hs hd⟩
/-- what a comprehension asks of its walk J -/
def lcR (g : TG) (tt : TT) (te : TE) (vs : List Nat) (σ : L2.St) (Q : VK) (J : It) (H1 : Hp) : Prop := ∀ D, H1 D = none → ∃ W : Nat → Nat → Hp → Prop, (∃ m, W 0 m (upd H1 D (.lst []))) ∧ ∀ i m H, W i m H →
  (J.stop i H ∧ Q (.ref D) H) ∨ (J.go i H ∧ ∃ Nx : Hp → Prop, (∀ H', Nx H' → ∃ m', m' < m ∧ W (i + 1) m' H') ∧ ∀ x H', J.yld i H x H' → g x (wipe σ vs) H' fun σ2 H2 => wipe σ2 vs = wipe σ vs ∧ tt σ2 H2 fun b H3 =>
    if b = true then te σ2 H3 fun y H4 => ∃ acc, H4 D = some (.lst acc) ∧ acc.length < sizeLine ∧ Nx (upd H4 D (.lst (acc ++ [y]))) else Nx H3)
theorem lc_seq {K : PySem.W.Frag} {a : Addr} {xs : List V} {g : TG} {tt : TT} {te : TE} {vs : List Nat} {σ : L2.St} {H1 G : Hp} {Q : VK} (hq : SqX K G a xs) (s : Same G H1) (Pv : Addr → Nat → Hp → Prop) (h0 : ∀ D, H1 D = none → Pv D 0 (upd H1 D (.lst []))) (hl : ∀ D i H, Pv D i H → Same G H)
    (hs : ∀ D, H1 D = none → ∀ i x H, xs[i]? = some x → Pv D i H → g x (wipe σ vs) H fun σ2 H2 => wipe σ2 vs = wipe σ vs ∧ tt σ2 H2 fun b H3 =>
      if b = true then te σ2 H3 fun y H4 => ∃ acc, H4 D = some (.lst acc) ∧ acc.length < sizeLine ∧ Pv D (i + 1) (upd H4 D (.lst (acc ++ [y]))) else Pv D (i + 1) H3) (hd : ∀ D, H1 D = none → ∀ H, Pv D xs.length H → Q (.ref D) H) :
    ((∃ xs, SqL K H1 a xs) ∧ lcR g tt te vs σ Q (Itl K a) H1) ∨ ((∃ xs, SqT K H1 a xs) ∧ lcR g tt te vs σ Q (Itt K a) H1) := by
  rcases hq with hq | hq
  · exact .inl ⟨⟨xs, s.seq hq⟩, fun D hD => lc_list (K := K) (a := a) (xs := xs) (Pv D) (h0 D hD) (fun i H _ p => (hl D i H p).seq hq) (hs D hD) (hd D hD)⟩
  · exact .inr ⟨⟨xs, s.tup hq⟩, fun D hD => lc_tup (K := K) (a := a) (xs := xs) (Pv D) (h0 D hD) (fun i H _ p => (hl D i H p).tup hq) (hs D hD) (hd D hD)⟩
/-- data that is a sequence -/
def seqD (isL : Bool) (ds : List PyData) : PyData := if isL then .list ds else .tuple ds
theorem dp_seq {K : PySem.W.Frag} {H : Hp} {v : V} {isL : Bool} {ds : List PyData} (h : Dp K H v (seqD isL ds)) : ∃ a xs, v = .ref a ∧ SqX K H a xs ∧ DpAll K H xs ds := by
  cases isL with
  | true =>
    cases (show Dp K H v (.list ds) from h) with
    | lst h1 h2 => exact ⟨_, _, rfl, .inl h1, h2⟩
  | false =>
    cases (show Dp K H v (.tuple ds) from h) with
    | tup h1 h2 => exact ⟨_, _, rfl, .inr h1, h2⟩
theorem dp_tup {K : PySem.W.Frag} {H : Hp} {v : V} {ds : List PyData} (h : Dp K H v (.tuple ds)) : ∃ a xs, v = .ref a ∧ SqT K H a xs ∧ DpAll K H xs ds := by
  cases h with
  | tup h1 h2 => exact ⟨_, _, rfl, h1, h2⟩
theorem dp_lst {K : PySem.W.Frag} {H : Hp} {v : V} {ds : List PyData} (h : Dp K H v (.list ds)) : ∃ a xs, v = .ref a ∧ SqL K H a xs ∧ DpAll K H xs ds := by
  cases h with
  | lst h1 h2 => exact ⟨_, _, rfl, h1, h2⟩
theorem dpAll_two {K : PySem.W.Frag} {H : Hp} {xs : List V} {d e : PyData} (h : DpAll K H xs [d, e]) : ∃ v w, xs = [v, w] ∧ Dp K H v d ∧ Dp K H w e := by
  cases h with
  | cons h1 h2 => cases h2 with
    | cons h2 h3 => cases h3; exact ⟨_, _, rfl, h1, h2⟩
theorem dpAll_three {K : PySem.W.Frag} {H : Hp} {xs : List V} {d e f : PyData} (h : DpAll K H xs [d, e, f]) : ∃ v w z, xs = [v, w, z] ∧ Dp K H v d ∧ Dp K H w e ∧ Dp K H z f := by
  cases h with
  | cons h1 h2 =>
    obtain ⟨v, w, rfl, h3, h4⟩ := dpAll_two h2
    exact ⟨_, _, _, rfl, h1, h3, h4⟩
theorem dp_int {K : PySem.W.Frag} {H : Hp} {v : V} {i : Int} (h : Dp K H v (.int i)) : v = .int i := by cases h; rfl
theorem dp_str {K : PySem.W.Frag} {H : Hp} {v : V} {i : Str} (h : Dp K H v (.str i)) : v = .str i := by cases h; rfl
theorem dpAll_app {K : PySem.W.Frag} {H : Hp} : ∀ {xs ys : List V} {ds es : List PyData}, DpAll K H xs ds → DpAll K H ys es → DpAll K H (xs ++ ys) (ds ++ es)
  | _, _, _, _, .nil, h => h
  | _, _, _, _, .cons h t, h2 => .cons h (dpAll_app t h2)
theorem dpAll_take {K : PySem.W.Frag} {H : Hp} : ∀ {xs : List V} {ds : List PyData} (n : Nat), DpAll K H xs ds → DpAll K H (xs.take n) (ds.take n)
  | _, _, 0, _ => by rw [List.take_zero, List.take_zero]; exact .nil
  | _, _, n + 1, .nil => .nil
  | _, _, n + 1, .cons h t => .cons h (dpAll_take n t)
theorem dpAll_drop {K : PySem.W.Frag} {H : Hp} : ∀ {xs : List V} {ds : List PyData} (n : Nat), DpAll K H xs ds → DpAll K H (xs.drop n) (ds.drop n)
  | _, _, 0, h => h
  | _, _, n + 1, .nil => .nil
  | _, _, n + 1, .cons h t => dpAll_drop n t
/-- xs[:k], xs[k:] -/
theorem cut_front {xs : List V} {k : Int} (h0 : 0 ≤ k) (h1 : k ≤ xs.length) : cutV xs none (some k) = xs.take k.toNat := by
  have e : k = ((k.toNat : Nat) : Int) := by omega
  unfold cutV
  rw [HT.sIx_none, List.drop_zero, e, HT.sIx_nat, Nat.sub_zero, Int.toNat_natCast]
  congr 1
  omega
theorem cut_back {xs : List V} {k : Int} (h0 : 0 ≤ k) (h1 : k ≤ xs.length) : cutV xs (some k) none = xs.drop k.toNat := by
  have e : k = ((k.toNat : Nat) : Int) := by omega
  unfold cutV
  rw [HT.sIx_none, e, HT.sIx_nat, Int.toNat_natCast, Nat.min_eq_left (by omega)]
  exact List.take_of_length_le (by rw [List.length_drop]; exact Nat.le_refl _)

/-! ### rounded half up -/
def hu (x y : Int) : Int := (2 * x + y) / (2 * y)
theorem half_up {x y : Int} (h : 0 < y) : 0 < frB x y ∧ frB x y ≤ y ∧ (2 * frA x y + frB x y).fdiv (2 * frB x y) = hu x y := by
  obtain ⟨e1, e2, q0, _, cs, hb, _⟩ := fr_spec (x := x) (y := y) (by omega)
  have hc := cs.mpr h
  refine ⟨q0, by omega, ?_⟩
  unfold hu
  generalize frC x y = c at *
  generalize frA x y = p at *
  generalize frB x y = q at *
  rw [Int.fdiv_eq_ediv_of_nonneg _ (by omega)]
  have a1 : 2 * x + y = c * (2 * p + q) := by rw [e1, e2, Int.mul_add, ← Int.mul_assoc c 2 p, Int.mul_comm c 2, Int.mul_assoc]
  have a2 : 2 * y = c * (2 * q) := by rw [e2, ← Int.mul_assoc c 2 q, Int.mul_comm c 2, Int.mul_assoc]
  rw [a1, a2, Int.mul_ediv_mul_of_pos _ _ hc]
/-- what half up means -/
theorem hu_near {x y : Int} (h : 0 < y) : -y ≤ 2 * (x - hu x y * y) ∧ 2 * (x - hu x y * y) < y := by
  have a := Int.emod_add_mul_ediv (2 * x + y) (2 * y)
  have b := Int.emod_nonneg (2 * x + y) (show 2 * y ≠ 0 by omega)
  have c := Int.emod_lt_of_pos (2 * x + y) (show 0 < 2 * y by omega)
  have e : 2 * y * ((2 * x + y) / (2 * y)) = 2 * (hu x y * y) := by
    unfold hu
    rw [Int.mul_comm ((2 * x + y) / (2 * y)) y, Int.mul_assoc]
  rw [e] at a
  omega
/-- and only the one nearest -/
theorem hu_uniq {x y t : Int} (h : 0 < y) (h1 : -y ≤ 2 * (x - t * y)) (h2 : 2 * (x - t * y) < y) : hu x y = t := by
  obtain ⟨a, b⟩ := hu_near (x := x) h
  have e : (hu x y - t) * y = hu x y * y - t * y := Int.sub_mul _ _ _
  generalize hu x y * y = u at a b e
  generalize t * y = v at h1 h2 e
  have l1 : (hu x y - t) * y < y := by omega
  have l2 : -y < (hu x y - t) * y := by omega
  generalize hd : hu x y - t = d at e l1 l2
  have d1 : d < 1 := by
    rcases Int.lt_or_le d 1 with z | z
    · exact z
    · have := Int.mul_le_mul_of_nonneg_right z (show 0 ≤ y by omega)
      omega
  have d2 : -1 < d := by
    rcases Int.lt_or_le (-1) d with z | z
    · exact z
    · have := Int.mul_le_mul_of_nonneg_right z (show 0 ≤ y by omega)
      omega
  omega
theorem hu_zero {y : Int} (h : 0 < y) : hu 0 y = 0 := hu_uniq h (by omega) (by omega)
theorem hu_all {n : Int} : hu (n * 100) 100 = n := hu_uniq (by decide) (by omega) (by omega)
def waysV : List V := [.str "down", .str "up", .str "toward zero", .str "half up", .str "half even"]
def sp_rounded_hu0 : Sp := fun vs H Q _ => ∃ x y : Int, vs = [.int x, .int y, .str "half up"] ∧ 0 < y ∧ y < 2 ^ 20 ∧ ∀ H', Same H H' → Q (.int (hu x y)) H'
@[irreducible] def sp_rounded_hu : Sp := sp_rounded_hu0
theorem sp_rounded_hu_eq : sp_rounded_hu = sp_rounded_hu0 := by unfold sp_rounded_hu; rfl
theorem rounded_hu {H : Hp} {Q : VK} {E : XK} (x : Int) {y : Int} (h0 : 0 < y) (h1 : y < 2 ^ 20) (k : ∀ H', Same H H' → Q (.int (hu x y)) H') : sp_rounded_hu [.int x, .int y, .str "half up"] H Q E := by
  rw [sp_rounded_hu_eq]
  exact ⟨x, y, rfl, h0, h1, k⟩
/-! ### all that stands but the deck -/
theorem del_some {H : Hp} {p b : Addr} {o : HO} (h : H b = some o) (n : b ≠ p) : del H p b = some o := by rw [del_ne n]; exact h
theorem del_of {H : Hp} {p b : Addr} {o : HO} (h : del H p b = some o) : H b = some o ∧ b ≠ p := by
  by_cases e : b = p
  · rw [e, del_same] at h
    cases h
  · rw [del_ne e] at h
    exact ⟨h, e⟩
theorem Dk.freeze {G H : Hp} {d : Addr} {D : List Int} (k : Dk G H d D) : Dk (del H d) H d D := ⟨del_same, fun _ _ e => (del_of e).1, k.hd⟩
theorem Dk.under {G H : Hp} {d : Addr} {D : List Int} (k : Dk G H d D) : Same G (del H d) := fun b o e => del_some (k.sm b o e) (k.ne e)
theorem DN.frozen {K : PySem.W.Frag} {S : Addr → Prop} {H : Hp} {p : Addr} {v : V} {d : PyData} (h : DN S H v d) (hs : ∀ b, S b → b ≠ p) : Dp K (del H p) v d :=
  DN.dp d v (DN.mono (S' := S) (fun _ z => z) (fun a o hS e => del_some e (hs a hS)) d v h)

theorem DNs.frozen {K : PySem.W.Frag} {S : Addr → Prop} {H : Hp} {p : Addr} {vs : List V} {ds : List PyData} (h : DNs S H vs ds) (hs : ∀ b, S b → b ≠ p) : DpAll K (del H p) vs ds :=
  DNs.dp ds vs (DNs.mono (S' := S) (fun _ z => z) (fun a o hS e => del_some e (hs a hS)) ds vs h)
theorem Dk.get {H H2 : Hp} {d b : Addr} {D : List Int} {o : HO} (k : Dk (del H d) H2 d D) (n : b ≠ d) (h : H b = some o) : H2 b = some o := k.sm b o (del_some h n)
theorem DNs.on {S : Addr → Prop} {H H2 : Hp} {d : Addr} {D : List Int} {vs : List V} {ds : List PyData} (h : DNs S H vs ds) (k : Dk (del H d) H2 d D) (hs : ∀ b, S b → b ≠ d) : DNs S H2 vs ds :=
  DNs.mono (fun _ z => z) (fun a o hS e => k.get (hs a hS) e) ds vs h
/-- a list and another with the same data: != says no -/
theorem data_same {K : PySem.W.Frag} {H : Hp} {v w : V} {d : PyData} {Q : VK} {n : Nat} (h1 : Dp K H v d) (h2 : Dp K H w d) (ok : okDx n d = true) (hn : n ≤ 64) (k : Q (.bl false) H) : rNeD K v w H Q := by
  have sh := okDx_shaped ok hn
  refine ⟨d, d, h1, h2, sh, sh, ?_⟩
  rw [SeqAt.eqv_refl _ (SeqAt.canLay_of_shaped sh)]
  exact k
theorem data_eq {K : PySem.W.Frag} {H : Hp} {v w : V} {d : PyData} {Q : VK} {n : Nat} (h1 : Dp K H v d) (h2 : Dp K H w d) (ok : okDx n d = true) (hn : n ≤ 64) (k : Q (.bl true) H) : rEqD K v w H Q := by
  have sh := okDx_shaped ok hn
  refine ⟨d, d, h1, h2, sh, sh, ?_⟩
  rw [SeqAt.eqv_refl _ (SeqAt.canLay_of_shaped sh)]
  exact k
mutual
theorem okD_x : ∀ (n : Nat) (d : PyData), okD n d = true → okDx n d = true
  | n, .none, _ => by cases n <;> simp only [okDx]
  | n, .bool b, _ => by cases n <;> simp only [okDx]
  | n, .int i, _ => by cases n <;> simp only [okDx]
  | n, .str x, h => by
    simp only [okD] at h
    cases n <;> simp [okDx, h]
  | 0, .list _, h => by simp [okD] at h
  | n + 1, .list xs, h => by
    simp only [okD, Bool.and_eq_true] at h
    simp only [okDx]
    exact okDs_x n xs h.2
  | 0, .tuple _, h => by simp [okD] at h
  | n + 1, .tuple xs, h => by
    simp only [okD, Bool.and_eq_true] at h
    simp only [okDx]
    exact okDs_x n xs h.2
  | n, .dict _, h => by cases n <;> simp [okD] at h
theorem okDs_x : ∀ (n : Nat) (ds : List PyData), okDs n ds = true → okDxs n ds = true
  | _, [], _ => by simp [okDxs]
  | n, x :: xs, h => by
    simp only [okDs, Bool.and_eq_true] at h
    simp only [okDxs, okD_x n x h.1, okDs_x n xs h.2, Bool.and_self]
end
/-! ### list comprehensions whose parts read K (walk_at "blk" closes the three equations) -/
section
variable {X : Cx}
theorem pe_lcK {elt tg iter : Expr} {ifs : List Expr} {scope : Scope} {own : List (Str × Nat)} {pos : Pos} {wi : TI} {g : TG} {tt : TT} {te : TE} {g' : Shared → Hp → Addr → List (Str × Addr) → List Addr → TG} {tt' : Shared → Hp → Addr → List (Str × Addr) → List Addr → TT} {te' : Shared → Hp → Addr → List (Str × Addr) → List Addr → TE}
    (hc : X.calm = true) (hN : X.N.Nodup) (hi : PI X tg iter wi) (ok : BlkOk X.N X.env.scope scope own)
    (hg : ∀ (s : Shared) (H : Hp) (C : Addr) (cl : List (Str × Addr)) (fp : List Addr), PG (X.blk s H scope (compEnvC scope cl C X.env) fp) tg (g' s H C cl fp)) (ht : ∀ (s : Shared) (H : Hp) (C : Addr) (cl : List (Str × Addr)) (fp : List Addr), PTs (X.blk s H scope (compEnvC scope cl C X.env) fp) ifs (tt' s H C cl fp))
    (he : ∀ (s : Shared) (H : Hp) (C : Addr) (cl : List (Str × Addr)) (fp : List Addr), PE (X.blk s H scope (compEnvC scope cl C X.env) fp) elt (te' s H C cl fp))
    (eg : ∀ s H C cl fp, g' s H C cl fp = g) (et : ∀ s H C cl fp, tt' s H C cl fp = tt) (ee : ∀ s H C cl fp, te' s H C cl fp = te) (hs : ∀ x, foldedSetIterable iter X.env x = pure x := by intro _; rfl) :
    PE X (.ListComp elt [⟨tg, iter, ifs, 0⟩] scope pos) (tLc wi g tt te (own.map (·.2))) :=
  pe_lc hc hN hi ok (fun s H C cl fp => by rw [← eg s H C cl fp]; exact hg s H C cl fp) (fun s H C cl fp => by rw [← et s H C cl fp]; exact ht s H C cl fp) (fun s H C cl fp => by rw [← ee s H C cl fp]; exact he s H C cl fp) hs
theorem ps_setLcK {i : Nat} {y : Str} {py : Pos} {elt tg iter : Expr} {ifs : List Expr} {scope : Scope} {own : List (Str × Nat)} {pos spos : Pos} {wi : TI} {g : TG} {tt : TT} {te : TE} {g' : Shared → Hp → Addr → List (Str × Addr) → List Addr → TG} {tt' : Shared → Hp → Addr → List (Str × Addr) → List Addr → TT} {te' : Shared → Hp → Addr → List (Str × Addr) → List Addr → TE}
    (hc : X.calm = true) (hN : X.N.Nodup) (hy : X.N[i]? = some y) (hyl : X.env.scope.names.lookup y = some .local)
    (hsw : swapsWith (.ListComp elt [⟨tg, iter, ifs, 0⟩] scope pos) (some (.Name y py)) spos.line X.env = pure true) (hi : PI X tg iter wi) (ok : BlkOk X.N X.env.scope scope own)
    (hg : ∀ (s : Shared) (H : Hp) (C : Addr) (cl : List (Str × Addr)) (fp : List Addr), PG (X.blk s H scope (compEnvC scope cl C X.env) fp) tg (g' s H C cl fp)) (ht : ∀ (s : Shared) (H : Hp) (C : Addr) (cl : List (Str × Addr)) (fp : List Addr), PTs (X.blk s H scope (compEnvC scope cl C X.env) fp) ifs (tt' s H C cl fp))
    (he : ∀ (s : Shared) (H : Hp) (C : Addr) (cl : List (Str × Addr)) (fp : List Addr), PE (X.blk s H scope (compEnvC scope cl C X.env) fp) elt (te' s H C cl fp))
    (eg : ∀ s H C cl fp, g' s H C cl fp = g) (et : ∀ s H C cl fp, tt' s H C cl fp = tt) (ee : ∀ s H C cl fp, te' s H C cl fp = te) (hs : ∀ x, foldedSetIterable iter X.env x = pure x := by intro _; rfl) :
    PS X (.Assign [.Name y py] (.ListComp elt [⟨tg, iter, ifs, 0⟩] scope pos) spos) (tAsg (tLc wi g tt te (own.map (·.2))) (gName i)) :=
  ps_setLc hc hN hy hyl hsw hi ok (fun s H C cl fp => by rw [← eg s H C cl fp]; exact hg s H C cl fp) (fun s H C cl fp => by rw [← et s H C cl fp]; exact ht s H C cl fp) (fun s H C cl fp => by rw [← ee s H C cl fp]; exact he s H C cl fp) hs
end
/-- a comprehension that changes nothing but new objects: f i is what turn i gives, none where the test fails -/
theorem lc_fn {J : It} {n : Nat} {G : Hp → Prop} {Y : Nat → Hp → V → Hp → Prop} (w : Walk J n G Y) (f : Nat → Option V) {g : TG} {tt : TT} {te : TE} {vs : List Nat} {σ : L2.St} {H1 : Hp} {D : Addr} {Qd : Hp → Prop} (hz : n ≤ 1000000) (hD : H1 D = none)
    (hG : ∀ H, Same H1 H → G H)
    (hs : ∀ i x H H' (R : VK) (N : Hp → Prop), i < n → Same H1 H → Y i H x H' → (∀ y H4, f i = some y → Same H H4 → R y H4) → (∀ H4, f i = none → Same H H4 → N H4) →
      g x (wipe σ vs) H' fun σ2 H2 => wipe σ2 vs = wipe σ vs ∧ tt σ2 H2 fun b H3 => if b = true then te σ2 H3 R else N H3)
    (hd : ∀ H', Same H1 H' → H' D = some (.lst ((List.range n).filterMap f)) → Qd H') :
    ∃ W : Nat → Nat → Hp → Prop, (∃ m, W 0 m (upd H1 D (.lst []))) ∧ ∀ i m H, W i m H →
      (J.stop i H ∧ Qd H) ∨ (J.go i H ∧ ∃ Nx : Hp → Prop, (∀ H', Nx H' → ∃ m', m' < m ∧ W (i + 1) m' H') ∧ ∀ x H', J.yld i H x H' → g x (wipe σ vs) H' fun σ2 H2 => wipe σ2 vs = wipe σ vs ∧ tt σ2 H2 fun b H3 =>
        if b = true then te σ2 H3 fun y H4 => ∃ acc, H4 D = some (.lst acc) ∧ acc.length < sizeLine ∧ Nx (upd H4 D (.lst (acc ++ [y]))) else Nx H3) := by
  refine lc_it w (fun i H' => Same H1 H' ∧ H' D = some (.lst ((List.range i).filterMap f))) ⟨Same.new hD, upd_same⟩ (fun i H _ q => hG H q.1) ?_ (fun H' q => hd H' q.1 q.2)
  rintro i x H H' hi ⟨s1, hl⟩ hy
  refine hs i x H H' _ _ hi s1 hy ?_ ?_
  · intro y H4 e s2
    refine ⟨_, s2 _ _ hl, small1000000 ?_, (s1.trans s2).mut hD, ?_⟩
    · have := List.length_filterMap_le f (List.range i)
      rw [List.length_range] at this
      omega
    · rw [upd_same, List.range_succ, List.filterMap_append]
      simp [e]
  · intro H4 e s2
    refine ⟨s1.trans s2, ?_⟩
    rw [s2 _ _ hl, List.range_succ, List.filterMap_append]
    simp [e]
theorem fm_some {α : Type} (f : Nat → α) (n : Nat) : (List.range n).filterMap (fun i => some (f i)) = (List.range n).map f := by
  rw [← List.filterMap_eq_map]
  rfl
theorem range_at {α β : Type} (xs : List α) (F : α → β) (f : Nat → β) (h : ∀ i x, xs[i]? = some x → f i = F x) : (List.range xs.length).map f = xs.map F := by
  refine List.ext_getElem? fun i => ?_
  rw [List.getElem?_map, List.getElem?_map]
  by_cases hi : i < xs.length
  · rw [List.getElem?_range hi, List.getElem?_eq_getElem hi]
    simp [h i _ (List.getElem?_eq_getElem hi)]
  · rw [List.getElem?_eq_none (by simp; omega), List.getElem?_eq_none (by omega)]
    rfl
theorem ints_get {ns : List Int} {i : Nat} {x : V} (h : (ns.map V.int)[i]? = some x) : ∃ z, ns[i]? = some z ∧ x = .int z := by
  rw [List.getElem?_map] at h
  obtain ⟨z, hz, rfl⟩ := Option.map_eq_some_iff.mp h
  exact ⟨z, hz, rfl⟩
theorem tk_sum {ns : List Int} {i : Nat} {z : Int} (f : Int → Int) (h : ns[i]? = some z) : ((ns.take (i + 1)).map f).sum = ((ns.take i).map f).sum + f z := by
  rw [List.take_add_one, h, List.map_append, List.sum_append]
  simp
section
variable {X : Cx}
/-- sorted(xs) of a tuple of ints -/
def rSortedT (K : PySem.W.Frag) : List V → Hp → VK → Prop := fun vs H Q => ∃ (a : Addr) (ns : List Int), vs = [V.ref a] ∧ SqT K H a (ns.map V.int) ∧
  ∀ (ns' : List Int) (p : Addr), ns'.Perm ns → ns'.Pairwise (· ≤ ·) → H p = none → Q (.ref p) (upd H p (.lst (ns'.map V.int)))
theorem cr_sortedT : CallR X (.builtin "sorted") (rSortedT X.K) := by
  intro pins s σ H vs us Q I r h
  obtain ⟨a, ns, rfl, hs, q⟩ := h
  obtain ⟨its, rv, ⟨o, ho, hc, n, hd⟩, hz⟩ := I.tuple hs
  rw [Vals.ref1 r]
  have hi := rv.ints
  have hz' : its.length ≤ sizeLine := by rw [← rv.length]; exact hz
  refine Calls.call_function_entry kind_sorted plain_sorted entry_sorted (args_sorted1 _) ?_
  unfold Builtin.«sorted»
  refine wpAny_bind (m := checkCount "sorted" 1 1 _) (wpAny_pure ?_)
  refine wpAny_bind (wpAny_collect_seq a (.inr rfl) ho hc hd (fun h1 hk => ?_) (by simpa using hz'))
  refine wpAny_bind (wpAny_newList ?_ (by simpa using hz'))
  have hoL : (h1.push (seqObj "list" its.toArray 0)).get? h1.objs.size = some (seqObj "list" its.toArray 0) := Heap.get?_push_size _ rfl
  have keep : ∀ b u, s.heap.get? b = some u → b ≠ h1.objs.size ∧ (h1.push (seqObj "list" its.toArray 0)).get? b = some u := fun b u e => ⟨Nat.ne_of_lt (Heap.lt_size (hk b u e)), Heap.get?_push_of_some _ (hk b u e)⟩
  have hn : H h1.objs.size = none := (I.hok.kept hk).fresh (Nat.le_refl _)
  have hp : s.heap.get? h1.objs.size = none := by
    cases e : s.heap.get? h1.objs.size with
    | none => rfl
    | some u => exact absurd (Heap.lt_size (hk _ _ e)) (Nat.lt_irrefl _)
  refine wpAny_bind (wpAny_holding (wpAny_call_entry slot_list_sort ⟨_, hoL, rfl⟩ entry_list_sort (SrtO.list_sort_ord SrtO.swo_int hoL hz' (fun h2 => SrtO.ints_sortable hi h2) fun out hs hb => ⟨_, rfl, ?_⟩) (args_list_sort _)))
  refine wpAny_pure ⟨_, rfl, ?_⟩
  obtain ⟨k1, k2, k3⟩ := SrtO.ints_out hi hs hb
  obtain ⟨ep, he'⟩ := sortedHeap_at (vs := its) (out := out.toArray) hoL
  have hlen : ((out.map SrtO.iv).map V.int).length ≤ sizeLine := by
    rw [List.length_map, k2.length_eq]
    rw [List.length_map] at hz
    exact hz
  refine ⟨.ref _, upd H h1.objs.size (.lst ((out.map SrtO.iv).map V.int)), I.laidN (t' := s.toks) (fun b u e => ?_) hp hn ⟨hlen, out, ep, vals_of_ints k1, he'⟩, rfl, q _ _ k2 k3 hn⟩
  rw [sortedHeap_old (keep b u e).1 (Heap.lt_size (keep b u e).2)]
  exact (keep b u e).2
/-- sorted(xs) of a list or a tuple of ints -/
def rSortedQ (K : PySem.W.Frag) : List V → Hp → VK → Prop := fun vs H Q => ∃ (a : Addr) (ns : List Int), vs = [V.ref a] ∧ SqX K H a (ns.map V.int) ∧
  ∀ (ns' : List Int) (p : Addr), ns'.Perm ns → ns'.Pairwise (· ≤ ·) → H p = none → Q (.ref p) (upd H p (.lst (ns'.map V.int)))
theorem cr_sortedQ : CallR X (.builtin "sorted") (rSortedQ X.K) := by
  intro pins s σ H vs us Q I r h
  obtain ⟨a, ns, e, hs | hs, q⟩ := h
  · exact cr_sortedI pins s σ H vs us Q I r ⟨a, ns, e, hs, q⟩
  · exact cr_sortedT pins s σ H vs us Q I r ⟨a, ns, e, hs, q⟩
end
/-- the blocks of a comprehension within a comprehension: sc is the scope of the def -/
def envAt (sc : Scope) : Env := { scope := sc, locals := 0, globals := 0, cells := [] }
theorem blkOk_in {N : List Str} {sc scope0 scope : Scope} {own : List (Str × Nat)} {env : Env} (he : env.scope = sc) (h : blkC N (relabel scope0 (envAt sc)) scope own = true) : BlkOk N (relabel scope0 env) scope own := by
  have e : relabel scope0 env = relabel scope0 (envAt sc) := by
    subst he
    rfl
  rw [e]
  exact blkOk_by h
theorem fm_ints {β : Type} (ns : List Int) (G : Int → Option β) : (List.range ns.length).filterMap (fun i => G (ns.getD i 0)) = ns.filterMap G := by
  have e : (List.range ns.length).map (fun i => ns.getD i 0) = ns := by
    rw [range_at ns id _ (fun i x e => by rw [List.getD_eq_getElem?_getD, e]; rfl), List.map_id]
  have h : (List.range ns.length).filterMap (fun i => G (ns.getD i 0)) = ((List.range ns.length).map (fun i => ns.getD i 0)).filterMap G := by
    rw [List.filterMap_map]
    rfl
  rw [h, e]
theorem fm_filter {α β : Type} (P : α → Bool) (f : α → β) : ∀ xs : List α, xs.filterMap (fun x => if P x = true then some (f x) else none) = (xs.filter P).map f
  | [] => rfl
  | x :: t => by
    by_cases h : P x = true
    · rw [List.filterMap_cons, if_pos h, List.filter_cons, if_pos h, List.map_cons, fm_filter P f t]
    · rw [List.filterMap_cons, if_neg h, List.filter_cons, if_neg h, fm_filter P f t]
theorem atI_last {α : Type} {xs : List α} {v : α} (h : xs[xs.length - 1]? = some v) : atI xs (-1) = some v := by
  have h0 : 0 < xs.length := by
    have := (List.getElem?_eq_some_iff.mp h).1
    omega
  unfold atI ixN
  rw [if_neg (by decide), if_pos (by omega)]
  show xs[(-1 + (xs.length : Int)).toNat]? = _
  rw [show (-1 + (xs.length : Int)).toNat = xs.length - 1 by omega]
  exact h
end Sw


set_option hygiene false in
local macro_rules | `(tactic| walk_at "len") => `(tactic| repeat (first | (obtain ⟨rfl, _⟩ := h; rfl) | (obtain ⟨_, h⟩ := h)))
local macro_rules | `(tactic| walk_at "st") => `(tactic| first
  | refine ⟨_, rfl, ?_⟩
  | refine ⟨_, _, rfl, rfl, (by show (0 : Int) < _; decide), ?_⟩
  | refine ⟨_, _, rfl, rfl, by decide, ?_⟩
  | refine ⟨_, _, rfl, rfl, ⟨by decide, by decide⟩, ?_⟩
  | refine ⟨_, _, rfl, rfl, .inl ⟨by decide, by decide⟩, ?_⟩
  | refine ⟨_, _, rfl, rfl, .inr ⟨by decide, by decide⟩, ?_⟩
  | refine ⟨_, _, rfl, rfl, ?_⟩
  | refine .inl ⟨_, rfl, ?_⟩
  | refine .inr ⟨_, rfl, ?_⟩
  | refine ⟨rfl, ?_⟩)
local macro_rules | `(tactic| walk_at "sts") => `(tactic| repeat walk_at "st")
local macro_rules | `(tactic| walk_at "blk") => `(tactic| (intros; first | (dsimp only [L2.Cx.blk, L2.cxOf]; done) | (dsimp only [L2.Cx.blk, L2.cxOf]; rfl) | rfl))

namespace K56
open PySem PySem.Spec PyProof.Rows L2 Sw
def topS (i : Nat) : Stmt := PySem.Challenge.pw_slotwork_k56_lines_through_values.main.body.getD i (.Pass ⟨0, 0, 0, 0⟩)
abbrev st_c_InvalidTime_init : Stmt := inClass (topS 3) 0
abbrev st_c_InvalidMoney_init : Stmt := inClass (topS 4) 0
abbrev st_c_InvalidTable_init : Stmt := inClass (topS 5) 0
abbrev st_c_fraction : Stmt := topS 7
abbrev st_c_line_through : Stmt := topS 9
abbrev st_c_law_deck : Stmt := topS 11
abbrev st_c_law_take : Stmt := topS 12
abbrev st_c_law_plain : Stmt := topS 13
abbrev st_c_law_number : Stmt := topS 14
abbrev st_c_law_gcd : Stmt := topS 15
abbrev st_c_law_fraction : Stmt := topS 16
abbrev st_c_law_why : Stmt := topS 17
abbrev st_c_law_plus : Stmt := topS 18
abbrev st_c_law_squares : Stmt := topS 19
abbrev st_c_law : Stmt := topS 20
theorem sc_c_InvalidTime_init : FnScope ["self", "what"] ["self", "what"] (defScope st_c_InvalidTime_init) := ⟨rfl, rfl, rfl, by decide +kernel, rfl, by decide +kernel, by decide +kernel⟩
theorem sc_c_InvalidMoney_init : FnScope ["self", "what"] ["self", "what"] (defScope st_c_InvalidMoney_init) := ⟨rfl, rfl, rfl, by decide +kernel, rfl, by decide +kernel, by decide +kernel⟩
theorem sc_c_InvalidTable_init : FnScope ["self", "what"] ["self", "what"] (defScope st_c_InvalidTable_init) := ⟨rfl, rfl, rfl, by decide +kernel, rfl, by decide +kernel, by decide +kernel⟩
theorem sc_c_fraction : FnScope ["above", "below", "common"] ["above", "below"] (defScope st_c_fraction) := ⟨rfl, rfl, rfl, by decide +kernel, rfl, by decide +kernel, by decide +kernel⟩
theorem sc_c_line_through : FnScope ["values", "many", "places", "squares", "both", "total", "below", "slope", "height", "at", "value"] ["values"] (defScope st_c_line_through) := ⟨rfl, rfl, rfl, by decide +kernel, rfl, by decide +kernel, by decide +kernel⟩
theorem sc_c_law_deck : FnScope ["script", "cells", "each", "deck", "seed", "k", "cell", "rest", "at"] ["script", "cells", "each"] (defScope st_c_law_deck) := ⟨rfl, rfl, rfl, by decide +kernel, rfl, by decide +kernel, by decide +kernel⟩
theorem sc_c_law_take : FnScope ["deck", "many"] ["deck", "many"] (defScope st_c_law_take) := ⟨rfl, rfl, rfl, by decide +kernel, rfl, by decide +kernel, by decide +kernel⟩
theorem sc_c_law_plain : FnScope ["value", "item"] ["value"] (defScope st_c_law_plain) := ⟨rfl, rfl, rfl, by decide +kernel, rfl, by decide +kernel, by decide +kernel⟩
theorem sc_c_law_number : FnScope ["deck", "kind", "number", "turn"] ["deck"] (defScope st_c_law_number) := ⟨rfl, rfl, rfl, by decide +kernel, rfl, by decide +kernel, by decide +kernel⟩
theorem sc_c_law_gcd : FnScope ["one", "two"] ["one", "two"] (defScope st_c_law_gcd) := ⟨rfl, rfl, rfl, by decide +kernel, rfl, by decide +kernel, by decide +kernel⟩
theorem sc_c_law_fraction : FnScope ["above", "below", "common"] ["above", "below"] (defScope st_c_law_fraction) := ⟨rfl, rfl, rfl, by decide +kernel, rfl, by decide +kernel, by decide +kernel⟩
theorem sc_c_law_why : FnScope ["values", "error"] ["values"] (defScope st_c_law_why) := ⟨rfl, rfl, rfl, by decide +kernel, rfl, by decide +kernel, by decide +kernel⟩
theorem sc_c_law_plus : FnScope ["first", "second"] ["first", "second"] (defScope st_c_law_plus) := ⟨rfl, rfl, rfl, by decide +kernel, rfl, by decide +kernel, by decide +kernel⟩
theorem sc_c_law_squares : FnScope ["values", "height", "slope", "total", "at", "gap"] ["values", "height", "slope"] (defScope st_c_law_squares) := ⟨rfl, rfl, rfl, by decide +kernel, rfl, by decide +kernel, by decide +kernel⟩
theorem sc_c_law : FnScope ["script", "deck", "many", "values", "handed", "told", "height", "slope", "plain", "placed", "at", "gap", "start", "step", "back", "moved", "least", "more", "other", "turn", "value"] ["script"] (defScope st_c_law) := ⟨rfl, rfl, rfl, by decide +kernel, rfl, by decide +kernel, by decide +kernel⟩
/-- where the defs, the classes and the constants of the text stand -/
structure Ad where
  f_c_InvalidTime_init : Addr
  d_c_InvalidTime_init : FuncData
  f_c_InvalidMoney_init : Addr
  d_c_InvalidMoney_init : FuncData
  f_c_InvalidTable_init : Addr
  d_c_InvalidTable_init : FuncData
  f_c_fraction : Addr
  d_c_fraction : FuncData
  f_c_line_through : Addr
  d_c_line_through : FuncData
  f_c_law_deck : Addr
  d_c_law_deck : FuncData
  f_c_law_take : Addr
  d_c_law_take : FuncData
  f_c_law_plain : Addr
  d_c_law_plain : FuncData
  f_c_law_number : Addr
  d_c_law_number : FuncData
  f_c_law_gcd : Addr
  d_c_law_gcd : FuncData
  f_c_law_fraction : Addr
  d_c_law_fraction : FuncData
  f_c_law_why : Addr
  d_c_law_why : FuncData
  f_c_law_plus : Addr
  d_c_law_plus : FuncData
  f_c_law_squares : Addr
  d_c_law_squares : FuncData
  f_c_law : Addr
  d_c_law : FuncData
  C_SlotError : Addr
  C_InvalidTime : Addr
  C_InvalidMoney : Addr
  C_InvalidTable : Addr
  z : Unit := ()
structure Txt (K : PySem.W.Frag) (mg : Str → Option Value) (a : Ad) : Prop where
  F_c_InvalidTime_init : Fun K "__init__" "InvalidTime.__init__" st_c_InvalidTime_init a.f_c_InvalidTime_init a.d_c_InvalidTime_init
  b_c_InvalidTime_init : Binds K a.d_c_InvalidTime_init ["self", "what"] []
  F_c_InvalidMoney_init : Fun K "__init__" "InvalidMoney.__init__" st_c_InvalidMoney_init a.f_c_InvalidMoney_init a.d_c_InvalidMoney_init
  b_c_InvalidMoney_init : Binds K a.d_c_InvalidMoney_init ["self", "what"] []
  F_c_InvalidTable_init : Fun K "__init__" "InvalidTable.__init__" st_c_InvalidTable_init a.f_c_InvalidTable_init a.d_c_InvalidTable_init
  b_c_InvalidTable_init : Binds K a.d_c_InvalidTable_init ["self", "what"] []
  F_c_fraction : Fun K "fraction" "fraction" st_c_fraction a.f_c_fraction a.d_c_fraction
  b_c_fraction : Binds K a.d_c_fraction ["above", "below"] []
  m_c_fraction : mg "fraction" = some (.ref a.f_c_fraction)
  F_c_line_through : Fun K "line_through" "line_through" st_c_line_through a.f_c_line_through a.d_c_line_through
  b_c_line_through : Binds K a.d_c_line_through ["values"] []
  m_c_line_through : mg "line_through" = some (.ref a.f_c_line_through)
  F_c_law_deck : Fun K "_law_deck" "_law_deck" st_c_law_deck a.f_c_law_deck a.d_c_law_deck
  b_c_law_deck : Binds K a.d_c_law_deck ["script", "cells", "each"] []
  m_c_law_deck : mg "_law_deck" = some (.ref a.f_c_law_deck)
  F_c_law_take : Fun K "_law_take" "_law_take" st_c_law_take a.f_c_law_take a.d_c_law_take
  b_c_law_take : Binds K a.d_c_law_take ["deck", "many"] []
  m_c_law_take : mg "_law_take" = some (.ref a.f_c_law_take)
  F_c_law_plain : Fun K "_law_plain" "_law_plain" st_c_law_plain a.f_c_law_plain a.d_c_law_plain
  b_c_law_plain : Binds K a.d_c_law_plain ["value"] []
  m_c_law_plain : mg "_law_plain" = some (.ref a.f_c_law_plain)
  F_c_law_number : Fun K "_law_number" "_law_number" st_c_law_number a.f_c_law_number a.d_c_law_number
  b_c_law_number : Binds K a.d_c_law_number ["deck"] []
  m_c_law_number : mg "_law_number" = some (.ref a.f_c_law_number)
  F_c_law_gcd : Fun K "_law_gcd" "_law_gcd" st_c_law_gcd a.f_c_law_gcd a.d_c_law_gcd
  b_c_law_gcd : Binds K a.d_c_law_gcd ["one", "two"] []
  m_c_law_gcd : mg "_law_gcd" = some (.ref a.f_c_law_gcd)
  F_c_law_fraction : Fun K "_law_fraction" "_law_fraction" st_c_law_fraction a.f_c_law_fraction a.d_c_law_fraction
  b_c_law_fraction : Binds K a.d_c_law_fraction ["above", "below"] []
  m_c_law_fraction : mg "_law_fraction" = some (.ref a.f_c_law_fraction)
  F_c_law_why : Fun K "_law_why" "_law_why" st_c_law_why a.f_c_law_why a.d_c_law_why
  b_c_law_why : Binds K a.d_c_law_why ["values"] []
  m_c_law_why : mg "_law_why" = some (.ref a.f_c_law_why)
  F_c_law_plus : Fun K "_law_plus" "_law_plus" st_c_law_plus a.f_c_law_plus a.d_c_law_plus
  b_c_law_plus : Binds K a.d_c_law_plus ["first", "second"] []
  m_c_law_plus : mg "_law_plus" = some (.ref a.f_c_law_plus)
  F_c_law_squares : Fun K "_law_squares" "_law_squares" st_c_law_squares a.f_c_law_squares a.d_c_law_squares
  b_c_law_squares : Binds K a.d_c_law_squares ["values", "height", "slope"] []
  m_c_law_squares : mg "_law_squares" = some (.ref a.f_c_law_squares)
  F_c_law : Fun K "law" "law" st_c_law a.f_c_law a.d_c_law
  b_c_law : Binds K a.d_c_law ["script"] []
  m_c_law : mg "law" = some (.ref a.f_c_law)
  m_SlotError : mg "SlotError" = some (.ref a.C_SlotError)
  bc_SlotError : BaseC K a.C_SlotError
  m_InvalidTime : mg "InvalidTime" = some (.ref a.C_InvalidTime)
  ox_InvalidTime : OexC K a.C_InvalidTime
  in_InvalidTime : PySem.W.findIn K (.ref a.C_InvalidTime) "__init__" = some (some (.ref a.f_c_InvalidTime_init))
  ti_InvalidTime : PySem.W.typeIn K (.ref a.f_c_InvalidTime_init) = some (.type "function")
  no_InvalidTime_what : PySem.W.findIn K (.ref a.C_InvalidTime) "what" = some none
  xf_InvalidTime : XfC K a.C_InvalidTime
  is_InvalidTime : IsC K a.C_InvalidTime
  em_InvalidTime_SlotError : PySem.W.exmOne K (.ref a.C_InvalidTime) (.ref a.C_SlotError) = some true
  em_InvalidTime_InvalidTime : PySem.W.exmOne K (.ref a.C_InvalidTime) (.ref a.C_InvalidTime) = some true
  m_InvalidMoney : mg "InvalidMoney" = some (.ref a.C_InvalidMoney)
  ox_InvalidMoney : OexC K a.C_InvalidMoney
  in_InvalidMoney : PySem.W.findIn K (.ref a.C_InvalidMoney) "__init__" = some (some (.ref a.f_c_InvalidMoney_init))
  ti_InvalidMoney : PySem.W.typeIn K (.ref a.f_c_InvalidMoney_init) = some (.type "function")
  no_InvalidMoney_what : PySem.W.findIn K (.ref a.C_InvalidMoney) "what" = some none
  xf_InvalidMoney : XfC K a.C_InvalidMoney
  is_InvalidMoney : IsC K a.C_InvalidMoney
  em_InvalidMoney_SlotError : PySem.W.exmOne K (.ref a.C_InvalidMoney) (.ref a.C_SlotError) = some true
  em_InvalidMoney_InvalidMoney : PySem.W.exmOne K (.ref a.C_InvalidMoney) (.ref a.C_InvalidMoney) = some true
  m_InvalidTable : mg "InvalidTable" = some (.ref a.C_InvalidTable)
  ox_InvalidTable : OexC K a.C_InvalidTable
  in_InvalidTable : PySem.W.findIn K (.ref a.C_InvalidTable) "__init__" = some (some (.ref a.f_c_InvalidTable_init))
  ti_InvalidTable : PySem.W.typeIn K (.ref a.f_c_InvalidTable_init) = some (.type "function")
  no_InvalidTable_what : PySem.W.findIn K (.ref a.C_InvalidTable) "what" = some none
  xf_InvalidTable : XfC K a.C_InvalidTable
  is_InvalidTable : IsC K a.C_InvalidTable
  em_InvalidTable_SlotError : PySem.W.exmOne K (.ref a.C_InvalidTable) (.ref a.C_SlotError) = some true
  em_InvalidTable_InvalidTable : PySem.W.exmOne K (.ref a.C_InvalidTable) (.ref a.C_InvalidTable) = some true
  kt_InvalidTable_InvalidTable : PySem.W.kitOne K (.ref a.C_InvalidTable) (.ref a.C_InvalidTable) = some true
  kt_InvalidTable_InvalidTime : PySem.W.kitOne K (.ref a.C_InvalidTable) (.ref a.C_InvalidTime) = some false
  n_abs : mg "abs" = none
  n_bool : mg "bool" = none
  n_enumerate : mg "enumerate" = none
  n_int : mg "int" = none
  n_isinstance : mg "isinstance" = none
  n_len : mg "len" = none
  n_list : mg "list" = none
  n_range : mg "range" = none
  n_str : mg "str" = none
  n_sum : mg "sum" = none
  n_tuple : mg "tuple" = none
  i_gcd : mg "gcd" = some (.builtin "math.gcd")
abbrev sp_c_law_take : Sp := sp_take
abbrev sp_c_law_deck (K : PySem.W.Frag) : Sp := sp_deck K
abbrev sp_c_law_plain (K : PySem.W.Frag) (n : Nat) : Sp := sp_plain K n
abbrev sp_c_law_number : Sp := sp_number
abbrev sp_c_fraction (C : Addr) : Sp := sp_fraction C
abbrev sp_c_law_gcd : Sp := sp_lawgcd
abbrev sp_c_law_fraction : Sp := sp_lawfraction

theorem fr_scale {k x y : Int} (hk : 0 < k) : frA (k * x) (k * y) = frA x y ∧ frB (k * x) (k * y) = frB x y := by
  have e : frC (k * x) (k * y) = k * frC x y := by
    have hg : ((Nat.gcd (k * x).natAbs (k * y).natAbs : Nat) : Int) = k * ((Nat.gcd x.natAbs y.natAbs : Nat) : Int) := by
      rw [Int.natAbs_mul, Int.natAbs_mul, Nat.gcd_mul_left, Int.natCast_mul, show ((k.natAbs : Nat) : Int) = k by omega]
    unfold frC
    rw [hg]
    by_cases h : y < 0
    · rw [if_pos h, if_pos (Int.mul_neg_of_pos_of_neg hk h), Int.mul_neg]
    · rw [if_neg h, if_neg (by have := Int.mul_nonneg (Int.le_of_lt hk) (show 0 ≤ y by omega); omega)]
  unfold frA frB
  rw [e]
  exact ⟨Int.mul_fdiv_mul_of_pos _ _ hk, Int.mul_fdiv_mul_of_pos _ _ hk⟩
theorem fr_zero {y : Int} (hy : 0 < y) : frA 0 y = 0 ∧ frB 0 y = 1 := by
  obtain ⟨e1, e2, e3, e4, e5, e6, e7⟩ := fr_spec (x := 0) (y := y) (by omega)
  have hA : frA 0 y = 0 := by
    rcases Int.mul_eq_zero.mp e1.symm with q | q
    · exact absurd q e4
    · exact q
  rw [hA] at e7
  simp at e7
  exact ⟨hA, by omega⟩
def sm (n : Nat) (f : Nat → Int) : Int := ((List.range n).map f).sum
theorem sm_zero (f : Nat → Int) : sm 0 f = 0 := rfl
theorem sm_succ (n : Nat) (f : Nat → Int) : sm (n + 1) f = sm n f + f n := by simp [sm, List.range_succ]
theorem sm_add (n : Nat) (f g : Nat → Int) : sm n (fun i => f i + g i) = sm n f + sm n g := by
  induction n with
  | zero => rfl
  | succ n ih => rw [sm_succ, sm_succ, sm_succ, ih]; grind
theorem sm_mul (n : Nat) (c : Int) (f : Nat → Int) : sm n (fun i => c * f i) = c * sm n f := by
  induction n with
  | zero => simp [sm]
  | succ n ih => rw [sm_succ, sm_succ, ih]; grind
theorem sm_congr {n : Nat} {f g : Nat → Int} (h : ∀ i, i < n → f i = g i) : sm n f = sm n g := by
  induction n with
  | zero => rfl
  | succ n ih => rw [sm_succ, sm_succ, ih (fun i hi => h i (by omega)), h n (by omega)]
theorem sm_nonneg {n : Nat} {f : Nat → Int} (h : ∀ i, 0 ≤ f i) : 0 ≤ sm n f := by
  induction n with
  | zero => exact Int.le_refl 0
  | succ n ih => rw [sm_succ]; have := h n; omega
theorem msq (x : Int) : 0 ≤ x * x := by
  rcases Int.le_total 0 x with h | h
  · exact Int.mul_nonneg h h
  · rw [← Int.neg_mul_neg]
    exact Int.mul_nonneg (by omega) (by omega)
def one (_ : Nat) : Int := 1
def idn (i : Nat) : Int := i
def sqn (i : Nat) : Int := (i : Int) * i
theorem s_all {n : Nat} (h : n ≤ 10) : sm n one = n ∧ sm n idn = ((n : Int) * (n - 1)) / 2 ∧ sm n sqn = (((n : Int) - 1) * n * (2 * n - 1)) / 6 := by
  have : ∀ k : Fin 11, sm k.val one = k.val ∧ sm k.val idn = ((k.val : Int) * (k.val - 1)) / 2 ∧ sm k.val sqn = (((k.val : Int) - 1) * k.val * (2 * k.val - 1)) / 6 := by decide +kernel
  exact this ⟨n, by omega⟩
def bb (n : Nat) : Int := n * sm n sqn - sm n idn * sm n idn
theorem bb_pos {n : Nat} (h : 2 ≤ n) (h2 : n ≤ 10) : 0 < bb n ∧ bb n < 1000 := by
  have : ∀ k : Fin 11, 2 ≤ k.val → 0 < bb k.val ∧ bb k.val < 1000 := by decide +kernel
  exact this ⟨n, by omega⟩ h
def tt (n : Nat) (x : Nat → Int) : Int := sm n x
def pp (n : Nat) (x : Nat → Int) : Int := sm n (fun i => idn i * x i)
def sl (n : Nat) (x : Nat → Int) : Int := n * pp n x - sm n idn * tt n x
def ht (n : Nat) (x : Nat → Int) : Int := tt n x * sm n sqn - sm n idn * pp n x
def gp (n : Nat) (x : Nat → Int) (i : Nat) : Int := ht n x + i * sl n x - x i * bb n
theorem sm_gp {n : Nat} (x : Nat → Int) (h : n ≤ 10) : sm n (gp n x) = 0 := by
  have e : sm n (gp n x) = sm n (fun i => ht n x * one i + (sl n x * idn i + (-bb n) * x i)) := sm_congr fun i _ => by unfold gp one idn; grind
  rw [e, sm_add, sm_add, sm_mul, sm_mul, sm_mul, (s_all h).1]
  unfold ht sl bb tt
  grind
theorem sm_igp {n : Nat} (x : Nat → Int) : sm n (fun i => idn i * gp n x i) = 0 := by
  have e : sm n (fun i => idn i * gp n x i) = sm n (fun i => ht n x * idn i + (sl n x * sqn i + (-bb n) * (idn i * x i))) := sm_congr fun i _ => by unfold gp idn sqn; grind
  rw [e, sm_add, sm_add, sm_mul, sm_mul, sm_mul]
  unfold ht sl bb tt pp
  grind
/-- line through start + step i -/
theorem line_lin {n : Nat} (a b : Int) (h : n ≤ 10) : sl n (fun i => a + b * i) = bb n * b ∧ ht n (fun i => a + b * i) = bb n * a := by
  have e1 : tt n (fun i => a + b * i) = a * n + b * sm n idn := by
    have : tt n (fun i => a + b * i) = sm n (fun i => a * one i + b * idn i) := sm_congr fun i _ => by unfold one idn; grind
    rw [this, sm_add, sm_mul, sm_mul, (s_all h).1]
  have e2 : pp n (fun i => a + b * i) = a * sm n idn + b * sm n sqn := by
    have : pp n (fun i => a + b * i) = sm n (fun i => a * idn i + b * sqn i) := sm_congr fun i _ => by unfold sqn idn; grind
    rw [this, sm_add, sm_mul, sm_mul]
  unfold sl ht bb
  rw [e1, e2]
  constructor <;> grind
theorem moved {n : Nat} (x : Nat → Int) (s : Int) (h : n ≤ 10) : sl n (fun i => x i + s) = sl n x ∧ ht n (fun i => x i + s) = ht n x + s * bb n := by
  have e1 : tt n (fun i => x i + s) = tt n x + s * n := by
    have : tt n (fun i => x i + s) = sm n (fun i => x i + s * one i) := sm_congr fun i _ => by unfold one; grind
    rw [this, sm_add, sm_mul, (s_all h).1]
    rfl
  have e2 : pp n (fun i => x i + s) = pp n x + s * sm n idn := by
    have : pp n (fun i => x i + s) = sm n (fun i => idn i * x i + s * idn i) := sm_congr fun i _ => by unfold idn; grind
    rw [this, sm_add, sm_mul]
    rfl
  unfold sl ht bb
  rw [e1, e2]
  constructor <;> grind
theorem sm_left (n : Nat) (f : Nat → Int) : sm (n + 1) f = f 0 + sm n (fun i => f (i + 1)) := by
  induction n with
  | zero => simp [sm]
  | succ n ih => rw [sm_succ, ih, sm_succ]; grind
theorem sm_rev (n : Nat) (f : Nat → Int) : sm n (fun i => f (n - 1 - i)) = sm n f := by
  induction n with
  | zero => rfl
  | succ n ih =>
    rw [sm_left, sm_succ, ← ih]
    rw [show n + 1 - 1 - 0 = n by omega]
    have : sm n (fun i => f (n + 1 - 1 - (i + 1))) = sm n (fun i => f (n - 1 - i)) := sm_congr fun i _ => by rw [show n + 1 - 1 - (i + 1) = n - 1 - i by omega]
    rw [this]
    grind
theorem tw {n : Nat} (h : n ≤ 10) : (n : Int) * (n - 1) = 2 * sm n idn := by
  have : ∀ k : Fin 11, (k.val : Int) * (k.val - 1) = 2 * sm k.val idn := by decide +kernel
  exact this ⟨n, by omega⟩
theorem back {n : Nat} (x : Nat → Int) (h : n ≤ 10) : sl n (fun i => x (n - 1 - i)) = -sl n x := by
  have e1 : tt n (fun i => x (n - 1 - i)) = tt n x := sm_rev n x
  have e2 : pp n (fun i => x (n - 1 - i)) = (n - 1) * tt n x - pp n x := by
    have a : pp n (fun i => x (n - 1 - i)) = sm n (fun i => (fun j => (n - 1) * x j + (-1) * (idn j * x j)) (n - 1 - i)) := sm_congr fun i hi => by
      have : ((n - 1 - i : Nat) : Int) = n - 1 - i := by omega
      show idn i * x (n - 1 - i) = (n - 1) * x (n - 1 - i) + (-1) * (idn (n - 1 - i) * x (n - 1 - i))
      unfold idn
      rw [this]
      grind
    rw [a, sm_rev n (fun j => (n - 1) * x j + (-1) * (idn j * x j)), sm_add, sm_mul, sm_mul]
    unfold tt pp
    grind
  have := tw h
  unfold sl
  rw [e1, e2]
  grind
theorem fr_uniq {x y x' y' : Int} (h : 0 < y) (h' : 0 < y') (e : x * y' = x' * y) : frA x y = frA x' y' ∧ frB x y = frB x' y' := by
  have a := fr_scale (x := x) (y := y) h'
  have b := fr_scale (x := x') (y := y') h
  rw [show y' * x = y * x' by grind, show y' * y = y * y' by grind] at a
  exact ⟨a.1.symm.trans b.1, a.2.symm.trans b.2⟩
theorem fr_val {x y : Int} (h : 0 < y) : frA x y * y = x * frB x y ∧ 0 < frB x y ∧ frB x y ≤ y := by
  obtain ⟨a, b, c, d, e, f, g⟩ := fr_spec (x := x) (y := y) (by omega)
  refine ⟨?_, c, by omega⟩
  generalize frA x y = p at *
  generalize frB x y = q at *
  generalize frC x y = r at *
  grind
/-- the sum of two fractions -/
theorem plus_fr {a b c d X Y Z : Int} (hb : 0 < b) (hd : 0 < d) (hZ : 0 < Z) (h1 : a * Z = X * b) (h2 : c * Z = Y * d) : frA (a * d + c * b) (b * d) = frA (X + Y) Z ∧ frB (a * d + c * b) (b * d) = frB (X + Y) Z :=
  fr_uniq (Int.mul_pos hb hd) hZ (by grind)
/-- least squares -/
theorem least {n : Nat} (x : Nat → Int) (c : Nat → Int) (u v : Int) (h : sm n (fun i => c i * gp n x i) = 0) : (sm n (fun i => gp n x i * gp n x i)) * (v * v) ≤ sm n (fun i => (gp n x i * v + c i * u) * (gp n x i * v + c i * u)) := by
  have e : sm n (fun i => (gp n x i * v + c i * u) * (gp n x i * v + c i * u)) = sm n (fun i => (v * v) * (gp n x i * gp n x i) + ((2 * u * v) * (c i * gp n x i) + (u * u) * (c i * c i))) := sm_congr fun i _ => by grind
  rw [e, sm_add, sm_add, sm_mul, sm_mul, sm_mul, h]
  have h1 : 0 ≤ sm n (fun i => c i * c i) := sm_nonneg fun i => by
    exact msq (c i)
  have h2 : 0 ≤ u * u := msq u
  have := Int.mul_nonneg h2 h1
  grind
theorem cmp {a b p q L O B m : Int} (hb : 0 < b) (hq : 0 < q) (hB : 0 < B) (hm : 0 < m) (h1 : p * (B * B) = L * q) (h2 : a * ((B * m) * (B * m)) = O * b) (h : L * (m * m) ≤ O) : p * b ≤ a * q := by
  have hBm : 0 < (B * m) * (B * m) := Int.mul_pos (Int.mul_pos hB hm) (Int.mul_pos hB hm)
  refine Int.le_of_mul_le_mul_right ?_ hBm
  have e1 : p * b * ((B * m) * (B * m)) = L * (m * m) * (q * b) := by grind
  have e2 : a * q * ((B * m) * (B * m)) = O * (q * b) := by grind
  rw [e1, e2]
  exact Int.mul_le_mul_of_nonneg_right h (Int.le_of_lt (Int.mul_pos hq hb))
def xf (ns : List Int) (i : Nat) : Int := ns.getD i 0
def fr (x y : Int) : Int × Int := (frA x y, frB x y)
def htF (ns : List Int) : Int × Int := fr (ht ns.length (xf ns)) (bb ns.length)
def slF (ns : List Int) : Int × Int := fr (sl ns.length (xf ns)) (bb ns.length)
def sm56 (ns : List Int) : Prop := ns.length ≤ 10 ∧ ∀ v ∈ ns, v.natAbs < 2 ^ 140
theorem sum_sm (ns : List Int) : ns.sum = sm ns.length (xf ns) := by
  unfold sm
  rw [range_at ns id _ (fun i x e => by unfold xf; rw [List.getD_eq_getElem?_getD, e]; rfl), List.map_id]
theorem sm_bound {n M : Nat} {f : Nat → Int} (h : ∀ i, i < n → (f i).natAbs ≤ M) : (sm n f).natAbs ≤ n * M := by
  induction n with
  | zero => simp [sm]
  | succ n ih =>
    rw [sm_succ, Nat.succ_mul]
    have h1 := ih fun i hi => h i (by omega)
    have h2 := h n (by omega)
    omega
theorem xf_b {ns : List Int} (h : sm56 ns) (i : Nat) : (xf ns i).natAbs < 2 ^ 140 := by
  unfold xf
  rw [List.getD_eq_getElem?_getD]
  cases e : ns[i]? with
  | none => decide
  | some v => exact h.2 v (List.mem_of_getElem? e)
theorem s_small {n : Nat} (h : n ≤ 10) : (sm n idn).natAbs < 2 ^ 6 ∧ (sm n sqn).natAbs < 2 ^ 9 := by
  have : ∀ k : Fin 11, (sm k.val idn).natAbs < 2 ^ 6 ∧ (sm k.val sqn).natAbs < 2 ^ 9 := by decide +kernel
  exact this ⟨n, by omega⟩
theorem tt_b {ns : List Int} (h : sm56 ns) : (tt ns.length (xf ns)).natAbs < 2 ^ 144 := by
  have := sm_bound (n := ns.length) (M := 2 ^ 140) (f := xf ns) fun i _ => Nat.le_of_lt (xf_b h i)
  have h1 := h.1
  unfold tt
  omega
theorem pp_b {ns : List Int} (h : sm56 ns) : (pp ns.length (xf ns)).natAbs < 2 ^ 148 := by
  have h1 := h.1
  have := sm_bound (n := ns.length) (M := 10 * 2 ^ 140) (f := fun i => idn i * xf ns i) fun i hi => by
    have a := xf_b h i
    show ((i : Int) * xf ns i).natAbs ≤ _
    rw [Int.natAbs_mul]
    exact Nat.mul_le_mul (by omega) (Nat.le_of_lt a)
  unfold pp
  omega
theorem sl_b {ns : List Int} (h : sm56 ns) : (sl ns.length (xf ns)).natAbs < 2 ^ 155 := by
  have a := wide_lt (a := 4) (b := 148) (i := (ns.length : Int)) (j := pp ns.length (xf ns)) (by have := h.1; omega) (pp_b h)
  have b := wide_lt (s_small h.1).1 (tt_b h)
  unfold sl
  omega
theorem ht_b {ns : List Int} (h : sm56 ns) : (ht ns.length (xf ns)).natAbs < 2 ^ 156 := by
  have a := wide_lt (tt_b h) (s_small h.1).2
  have b := wide_lt (s_small h.1).1 (pp_b h)
  unfold ht
  omega
/-- a fraction is not greater than what it is made of -/
theorem fr_le {x y : Int} (h : 0 < y) : (frA x y).natAbs ≤ x.natAbs := by
  obtain ⟨a, b, c, d, e, f, g⟩ := fr_spec (x := x) (y := y) (by omega)
  have h1 : x.natAbs = (frC x y).natAbs * (frA x y).natAbs := by
    conv => lhs; rw [a]
    rw [Int.natAbs_mul]
  rw [h1]
  exact Nat.le_mul_of_pos_left _ (by omega)
theorem fr_idem {x y : Int} (h : 0 < y) : fr (frA x y) (frB x y) = fr x y := by
  obtain ⟨a, b, c⟩ := fr_val (x := x) h
  obtain ⟨e1, e2⟩ := fr_uniq b h a
  unfold fr
  rw [e1, e2]
theorem fr_eq {x y x' y' : Int} (h : 0 < y) (h' : 0 < y') (e : x * y' = x' * y) : fr x y = fr x' y' := by
  obtain ⟨e1, e2⟩ := fr_uniq h h' e
  unfold fr
  rw [e1, e2]
theorem fr_plus {a b c d X Y Z : Int} (hb : 0 < b) (hd : 0 < d) (hZ : 0 < Z) (h1 : a * Z = X * b) (h2 : c * Z = Y * d) : fr (a * d + c * b) (b * d) = fr (X + Y) Z := by
  obtain ⟨e1, e2⟩ := plus_fr hb hd hZ h1 h2
  unfold fr
  rw [e1, e2]
theorem fr_one (x : Int) : frA x 1 = x ∧ frB x 1 = 1 := by
  have e : frC x 1 = 1 := by simp [frC]
  unfold frA frB
  rw [e]
  exact ⟨Int.fdiv_one x, rfl⟩
/-! the fractions -/
theorem htsl_congr {n : Nat} {x y : Nat → Int} (h : ∀ i, i < n → x i = y i) : ht n x = ht n y ∧ sl n x = sl n y := by
  have e1 : tt n x = tt n y := sm_congr h
  have e2 : pp n x = pp n y := sm_congr fun i hi => by rw [h i hi]
  unfold ht sl
  rw [e1, e2]
  exact ⟨rfl, rfl⟩
theorem fr_mul (x : Int) {y : Int} (h : 0 < y) : fr (y * x) y = (x, 1) := by
  rw [fr_eq (x' := x) (y' := 1) h (by decide) (by rw [Int.mul_one, Int.mul_comm])]
  obtain ⟨a, b⟩ := fr_one x
  unfold fr
  rw [a, b]
theorem line_fr {ys : List Int} {a b : Int} (h : ys.length ≤ 10) (h2 : 2 ≤ ys.length) (hy : ∀ i, i < ys.length → xf ys i = a + b * i) : htF ys = (a, 1) ∧ slF ys = (b, 1) := by
  obtain ⟨e1, e2⟩ := htsl_congr hy
  obtain ⟨e3, e4⟩ := line_lin (n := ys.length) a b h
  have b0 := (bb_pos h2 h).1
  unfold htF slF
  rw [e1, e2, e3, e4]
  exact ⟨fr_mul a b0, fr_mul b b0⟩
theorem xf_map {ns : List Int} (f : Int → Int) {i : Nat} (h : i < ns.length) : xf (ns.map f) i = f (xf ns i) := by
  unfold xf
  rw [List.getD_eq_getElem?_getD, List.getD_eq_getElem?_getD, List.getElem?_map, List.getElem?_eq_getElem h]
  rfl
theorem xf_rev {ns : List Int} {i : Nat} (h : i < ns.length) : xf ns.reverse i = xf ns (ns.length - 1 - i) := by
  unfold xf
  rw [List.getD_eq_getElem?_getD, List.getD_eq_getElem?_getD, List.getElem?_reverse h]
theorem rev_fr {ns : List Int} (h : ns.length ≤ 10) : slF ns.reverse = fr (-(sl ns.length (xf ns))) (bb ns.length) := by
  unfold slF
  rw [List.length_reverse, (htsl_congr (n := ns.length) (x := xf ns.reverse) (y := fun i => xf ns (ns.length - 1 - i)) fun i hi => xf_rev hi).2, back _ h]
theorem mov_fr {ns : List Int} (s : Int) (h : ns.length ≤ 10) : slF (ns.map fun v => v + s) = slF ns ∧ htF (ns.map fun v => v + s) = fr (ht ns.length (xf ns) + s * bb ns.length) (bb ns.length) := by
  obtain ⟨e1, e2⟩ := htsl_congr (n := ns.length) (x := xf (ns.map fun v => v + s)) (y := fun i => xf ns i + s) fun i hi => xf_map _ hi
  obtain ⟨e3, e4⟩ := moved (xf ns) s h
  unfold slF htF
  rw [List.length_map, e1, e2, e3, e4]
  exact ⟨rfl, rfl⟩
theorem least_h {ns : List Int} (u v : Int) (h : ns.length ≤ 10) : (sm ns.length fun i => (ht ns.length (xf ns) + i * sl ns.length (xf ns) - xf ns i * bb ns.length) * (ht ns.length (xf ns) + i * sl ns.length (xf ns) - xf ns i * bb ns.length)) * (v * v) ≤
    sm ns.length fun i => (ht ns.length (xf ns) * v + u * bb ns.length + i * (sl ns.length (xf ns) * v) - xf ns i * (bb ns.length * v)) * (ht ns.length (xf ns) * v + u * bb ns.length + i * (sl ns.length (xf ns) * v) - xf ns i * (bb ns.length * v)) := by
  have := least (xf ns) one (u * bb ns.length) v (by
    rw [sm_congr (g := gp ns.length (xf ns)) fun i _ => by unfold one; rw [Int.one_mul]]
    exact sm_gp _ h)
  refine Int.le_trans this (Int.le_of_eq (sm_congr fun i _ => ?_))
  have e : gp ns.length (xf ns) i * v + one i * (u * bb ns.length) = ht ns.length (xf ns) * v + u * bb ns.length + i * (sl ns.length (xf ns) * v) - xf ns i * (bb ns.length * v) := by unfold gp one; grind
  rw [e]
theorem least_s {ns : List Int} (u v : Int) : (sm ns.length fun i => (ht ns.length (xf ns) + i * sl ns.length (xf ns) - xf ns i * bb ns.length) * (ht ns.length (xf ns) + i * sl ns.length (xf ns) - xf ns i * bb ns.length)) * (v * v) ≤
    sm ns.length fun i => (ht ns.length (xf ns) * v + i * (sl ns.length (xf ns) * v + u * bb ns.length) - xf ns i * (bb ns.length * v)) * (ht ns.length (xf ns) * v + i * (sl ns.length (xf ns) * v + u * bb ns.length) - xf ns i * (bb ns.length * v)) := by
  have := least (n := ns.length) (xf ns) idn (u * bb ns.length) v (sm_igp _)
  refine Int.le_trans this (Int.le_of_eq (sm_congr fun i _ => ?_))
  have e : gp ns.length (xf ns) i * v + idn i * (u * bb ns.length) = ht ns.length (xf ns) * v + i * (sl ns.length (xf ns) * v + u * bb ns.length) - xf ns i * (bb ns.length * v) := by unfold gp idn; grind
  rw [e]
theorem mul_m {a b X B v : Int} (h : a * B = X * b) : a * (B * v) = X * v * b := by grind
theorem fr_negl {x y : Int} (h : 0 < y) : fr (-(frA x y)) (frB x y) = fr (-x) y := by
  obtain ⟨a, b, c⟩ := fr_val (x := x) h
  exact fr_eq b h (by rw [Int.neg_mul, Int.neg_mul, a])

def tupP (p : Int × Int) : HO := .tup [.int p.1, .int p.2]
def sp_c_line_through0 (K : PySem.W.Frag) (C : Addr) : Sp := fun vs H Q E => ∃ (q : Addr) (ns : List Int), vs = [.ref q] ∧ SqL K H q (ns.map V.int) ∧ sm56 ns ∧ (ns.length < 2 → raisesW C "values" H E) ∧ (2 ≤ ns.length → ∀ H' p x y, Same H H' → H' x = some (tupP (htF ns)) → H' y = some (tupP (slF ns)) → H' p = some (.tup [.ref x, .ref y]) → Q (.ref p) H')
@[irreducible] def sp_c_line_through (K : PySem.W.Frag) (C : Addr) : Sp := sp_c_line_through0 K C
theorem sp_c_line_through_eq (K : PySem.W.Frag) (C : Addr) : sp_c_line_through K C = sp_c_line_through0 K C := by unfold sp_c_line_through; rfl
theorem sp_c_line_through_use {K : PySem.W.Frag} {C : Addr} {vs : List V} {H : Hp} {Q : VK} {E : XK} (h : sp_c_line_through0 K C vs H Q E) : sp_c_line_through K C vs H Q E := by rw [sp_c_line_through_eq]; exact h
def sp_c_law_why0 (K : PySem.W.Frag) : Sp := fun vs H Q _ => ∃ (q : Addr) (ns : List Int), vs = [.ref q] ∧ SqL K H q (ns.map V.int) ∧ sm56 ns ∧ ns.length < 2 ∧ ∀ H', Same H H' → Q (.bl true) H'
@[irreducible] def sp_c_law_why (K : PySem.W.Frag) : Sp := sp_c_law_why0 K
theorem sp_c_law_why_eq (K : PySem.W.Frag) : sp_c_law_why K = sp_c_law_why0 K := by unfold sp_c_law_why; rfl
theorem sp_c_law_why_use {K : PySem.W.Frag} {vs : List V} {H : Hp} {Q : VK} {E : XK} (h : sp_c_law_why0 K vs H Q E) : sp_c_law_why K vs H Q E := by rw [sp_c_law_why_eq]; exact h
def sp_c_law_plus0 (K : PySem.W.Frag) : Sp := fun vs H Q _ => ∃ (x y : Addr) (a b c d : Int), vs = [.ref x, .ref y] ∧ SqT K H x [.int a, .int b] ∧ SqT K H y [.int c, .int d] ∧ a.natAbs < 2 ^ 1000 ∧ b.natAbs < 2 ^ 1000 ∧ c.natAbs < 2 ^ 1000 ∧ d.natAbs < 2 ^ 1000 ∧ 0 < b ∧ 0 < d ∧ ∀ p H', H p = none → Same H H' → H' p = some (tupP (fr (a * d + c * b) (b * d))) → Q (.ref p) H'
@[irreducible] def sp_c_law_plus (K : PySem.W.Frag) : Sp := sp_c_law_plus0 K
theorem sp_c_law_plus_eq (K : PySem.W.Frag) : sp_c_law_plus K = sp_c_law_plus0 K := by unfold sp_c_law_plus; rfl
theorem sp_c_law_plus_use {K : PySem.W.Frag} {vs : List V} {H : Hp} {Q : VK} {E : XK} (h : sp_c_law_plus0 K vs H Q E) : sp_c_law_plus K vs H Q E := by rw [sp_c_law_plus_eq]; exact h
theorem sqs_b {ns : List Int} {X Y Z : Int} (hs : sm56 ns) (hX : X.natAbs < 2 ^ 200) (hY : Y.natAbs < 2 ^ 200) (hZ : Z.natAbs < 2 ^ 30) : (sm ns.length fun i => (X + i * Y - xf ns i * Z) * (X + i * Y - xf ns i * Z)).natAbs < 2 ^ 420 := by
  have h10 := hs.1
  have gb : ∀ i : Nat, i < ns.length → (X + i * Y - xf ns i * Z).natAbs < 2 ^ 205 := fun i hi => by
    have a := wide_lt (a := 4) (b := 200) (i := (i : Int)) (j := Y) (by omega) hY
    have b := wide_lt (xf_b hs i) hZ
    omega
  have := sm_bound (n := ns.length) (M := 2 ^ 410) (f := fun i => (X + i * Y - xf ns i * Z) * (X + i * Y - xf ns i * Z)) fun j hj => Nat.le_of_lt (wide_lt (gb j hj) (gb j hj))
  have : ns.length * 2 ^ 410 ≤ 10 * 2 ^ 410 := Nat.mul_le_mul_right _ h10
  have e : (10 : Nat) * 2 ^ 410 < 2 ^ 420 := by decide
  omega
theorem mul_l {k a B g b : Int} (h : a * B = g * b) : k * a * B = k * g * b := by rw [Int.mul_assoc, h, Int.mul_assoc]
theorem neg_one {x B : Int} : (-x) * B = -(x * B) * 1 := by rw [Int.neg_mul, Int.mul_one]
def pd (p : Int × Int) : PyData := .tuple [.int p.1, .int p.2]
theorem dp_pd {K : PySem.W.Frag} {H : Hp} {q : Addr} {z : Int × Int} (h : H q = some (tupP z)) : Dp K H (.ref q) (pd z) := .tup (SqT.of h) (.cons (.int _) (.cons (.int _) .nil))
theorem dp_two {K : PySem.W.Frag} {H : Hp} {q x y : Addr} {z w : Int × Int} (h : H q = some (.tup [.ref x, .ref y])) (hx : H x = some (tupP z)) (hy : H y = some (tupP w)) : Dp K H (.ref q) (.tuple [pd z, pd w]) := .tup (SqT.of h) (.cons (dp_pd hx) (.cons (dp_pd hy) .nil))
theorem ok_two (z w : Int × Int) : okD 4 (.tuple [pd z, pd w]) = true := by simp [pd, okD, okDs]
theorem plus_use {K : PySem.W.Frag} {u v : Addr} {a b c d X Y Z : Int} {H : Hp} {Q : VK} (hu : SqT K H u [.int a, .int b]) (hv : SqT K H v [.int c, .int d]) (hb : 0 < b) (hd : 0 < d) (hZ : 0 < Z) (h1 : a * Z = X * b) (h2 : c * Z = Y * d)
    (ba : a.natAbs < 2 ^ 1000) (bb : b.natAbs < 2 ^ 1000) (bc : c.natAbs < 2 ^ 1000) (bd : d.natAbs < 2 ^ 1000) (k : ∀ p H', H p = none → Same H H' → H' p = some (tupP (fr (X + Y) Z)) → Q (.ref p) H') : sp_c_law_plus K [.ref u, .ref v] H Q E0 :=
  sp_c_law_plus_use ⟨u, v, a, b, c, d, rfl, hu, hv, ba, bb, bc, bd, hb, hd, fun p H' h1' h2' h3' => k p H' h1' h2' (by rw [← fr_plus hb hd hZ h1 h2]; exact h3')⟩
theorem up_b {x : Int} {a b : Nat} (h : x.natAbs < 2 ^ a) (hab : a ≤ b) : x.natAbs < 2 ^ b := Nat.lt_of_lt_of_le h (Nat.pow_le_pow_right (by decide) hab)
def sp_c_law_squares0 (K : PySem.W.Frag) : Sp := fun vs H Q _ => ∃ (q x y : Addr) (ns : List Int) (a b c d X Y Z : Int), vs = [.ref q, .ref x, .ref y] ∧ SqL K H q (ns.map V.int) ∧ sm56 ns ∧ SqT K H x [.int a, .int b] ∧ SqT K H y [.int c, .int d] ∧ 0 < b ∧ 0 < d ∧ 0 < Z ∧ a * Z = X * b ∧ c * Z = Y * d ∧ a.natAbs < 2 ^ 200 ∧ b.natAbs < 2 ^ 30 ∧ c.natAbs < 2 ^ 200 ∧ d.natAbs < 2 ^ 30 ∧ X.natAbs < 2 ^ 200 ∧ Y.natAbs < 2 ^ 200 ∧ Z.natAbs < 2 ^ 30 ∧ ∀ p H', H p = none → Same H H' → H' p = some (tupP (fr (sm ns.length fun i => (X + i * Y - xf ns i * Z) * (X + i * Y - xf ns i * Z)) (Z * Z))) → Q (.ref p) H'
@[irreducible] def sp_c_law_squares (K : PySem.W.Frag) : Sp := sp_c_law_squares0 K
theorem sp_c_law_squares_eq (K : PySem.W.Frag) : sp_c_law_squares K = sp_c_law_squares0 K := by unfold sp_c_law_squares; rfl
theorem sp_c_law_squares_use {K : PySem.W.Frag} {vs : List V} {H : Hp} {Q : VK} {E : XK} (h : sp_c_law_squares0 K vs H Q E) : sp_c_law_squares K vs H Q E := by rw [sp_c_law_squares_eq]; exact h
def sp_c_law (K : PySem.W.Frag) : Sp := fun vs H Q _ => ∃ (a : Addr) (ns : List Int), vs = [.ref a] ∧ SqL K H a (ns.map V.int) ∧ ns.length ≤ 63 ∧ ∀ H', Q (.bl true) H'

theorem ok_c_law_deck {P : Program} {w : World} {K : PySem.W.Frag} {mg : Str → Option Value} {base : Heap} {a : Ad} (T : Txt K mg a) : FnOk P w K mg base (L2.CX P w) 1 a.f_c_law_deck a.d_c_law_deck ["script", "cells", "each"] (sp_c_law_deck K) := by
  refine T.F_c_law_deck.okX sc_c_law_deck (fun vs H Q E h => ?_) (fun cdv A outer s H vs Q E hr h => ?_)
  · walk_at "len"
  · obtain ⟨sa, ns, c, e, rfl, hS, hns, hc0, hc1, he0, he1, k⟩ := h
    refine ⟨_, (pss_cons (ps_set (i := 3) sc_c_law_deck.nd (by rfl) (Or.inl rfl) (pe_lst pa_nil))
    (pss_cons (ps_set (i := 4) sc_c_law_deck.nd (by rfl) (Or.inl rfl) (pe_op op_add pe_int (pe_callB call_len_seq (by rfl) T.n_len (by decide +kernel) (pa_cons (pv 0) pa_nil))))
    (pss_cons (ps_for (passes_of rfl) rfl (pi_range1 (by rfl) T.n_range (pa_cons (pv 1) pa_nil)) (pg_name (i := 5) sc_c_law_deck.nd (by rfl) (Or.inl rfl)) (pss_cons (ps_set (i := 6) sc_c_law_deck.nd (by rfl) (Or.inl rfl) pe_int)
    (pss_cons (ps_if (pt_cmpR op_lt (pv 5) (pe_callB call_len_seq (by rfl) T.n_len (by decide +kernel) (pa_cons (pv 0) pa_nil)) (nomark _)) (pss_one (ps_set (i := 6) sc_c_law_deck.nd (by rfl) (Or.inl rfl) (pe_ix ix_list (pv 0) (pv 5) (fun _ _ => rfl)))) pss_nil)
    (pss_cons (ps_set (i := 7) sc_c_law_deck.nd (by rfl) (Or.inl rfl) (pe_callB call_abs (by rfl) T.n_abs (by decide +kernel) (pa_cons (pv 6) pa_nil)))
    (pss_one (ps_if (pt_cmpR op_ge (pv 7) (pe_op op_pow pe_int pe_int) (nomark _)) (pss_one (ps_for (passes_of rfl) rfl (pi_range1 (by rfl) T.n_range (pa_cons (pv 2) pa_nil)) (pg_name (i := 8) sc_c_law_deck.nd (by rfl) (Or.inl rfl)) (pss_cons (ps_expr (pe_bm PySem.F.plainAttrs_list PySem.F.slot_list_append PySem.F.type_list_append mt_append (pv 3) (pa_cons (pe_op op_mod (pe_callTy call_int1 (by rfl) T.n_int (by decide +kernel) (pa_cons (pv 7) pa_nil)) pe_int) pa_nil)))
    (pss_one (ps_set (i := 7) sc_c_law_deck.nd (by rfl) (Or.inl rfl) (pe_op op_fdiv (pv 7) pe_int)))))) (pss_cons (ps_set (i := 4) sc_c_law_deck.nd (by rfl) (Or.inl rfl) (pe_op op_mod (pe_callTy call_int1 (by rfl) T.n_int (by decide +kernel) (pa_cons (pe_op op_add (pe_op op_add (pe_op op_add (pe_op op_mul (pv 4) pe_int) (pe_op op_mul pe_int (pv 7))) (pe_callTy call_int1 (by rfl) T.n_int (by decide +kernel) (pa_cons (pe_cmpR op_lt (pv 6) pe_int (nomark _)) pa_nil))) (pv 5)) pa_nil)) pe_int))
    (pss_one (ps_for (passes_of rfl) rfl (pi_range1 (by rfl) T.n_range (pa_cons (pv 2) pa_nil)) (pg_name (i := 8) sc_c_law_deck.nd (by rfl) (Or.inl rfl)) (pss_cons (ps_set (i := 4) sc_c_law_deck.nd (by rfl) (Or.inl rfl) (pe_op op_mod (pe_callTy call_int1 (by rfl) T.n_int (by decide +kernel) (pa_cons (pe_op op_add (pe_op op_add (pe_op op_mul (pv 4) pe_int) (pv 8)) pe_int) pa_nil)) pe_int))
    (pss_one (ps_expr (pe_bm PySem.F.plainAttrs_list PySem.F.slot_list_append PySem.F.type_list_append mt_append (pv 3) (pa_cons (pe_op op_mod (pe_callTy call_int1 (by rfl) T.n_int (by decide +kernel) (pa_cons (pe_op op_fdiv (pv 4) pe_int) pa_nil)) pe_int) pa_nil))))))))))))))
    (pss_cons (ps_expr (pe_bm0 PySem.F.plainAttrs_list PySem.F.slot_list_reverse PySem.F.type_list_reverse mt_reverse (pv 3)))
    (pss_one (ps_ret (pv 3))))))), ?_⟩
    refine ⟨by show 0 ≤ sizeLine; decide, fun p hp => ?_⟩
    have s0 : Same H (upd H p (.lst [])) := Same.new hp
    refine ⟨_, rfl, sa, _, rfl, .inl (s0.seq hS), _, _, rfl, rfl, ?_⟩
    refine ⟨_, rfl, c, rfl, by omega, by omega, for_range (lo := 0) (n := c.toNat) (fun i σ H' => ∃ (sd : Int) (v5 v6 v7 v8 : Option V) (xs : List Int), σ = [some (.ref sa), some (.int c), some (.int e), some (.ref p), some (.int sd), v5, v6, v7, v8] ∧
      Same H H' ∧ H' p = some (.lst (xs.map V.int)) ∧ xs.length ≤ i * 100) ⟨_, none, none, none, none, [], rfl, s0, upd_same, by simp⟩ ?_ ?_⟩
    · rintro i σ H1 hi ⟨sd, v5, v6, v7, v8, xs, rfl, s1, h1, hx⟩
      have hi' : i < 1000 := by omega
      walk_at "st"
      refine ⟨_, rfl, sa, _, rfl, .inl (s1.seq hS), ?_⟩
      walk_at "sts"
      refine ite2 (fun hk => ?_) (fun _ => ?_)
      · have hk' : i < ns.length := by simpa using hk
        refine ⟨_, rfl, _, rfl, sa, _, _, _, rfl, rfl, s1.seq hS, atI_nat' (j := i) (by omega) (by rw [List.getElem?_map, List.getElem?_eq_getElem hk']; rfl), ?_⟩
        walk_at "sts"
        refine ite2 (fun _ => ?_) (fun _ => ?_)
        · refine ⟨_, rfl, e, rfl, by omega, by omega, for_range (lo := 0) (n := e.toNat) (fun j σ H' => ∃ (r : Int) (v6 v8 : Option V) (ys : List Int), σ = [some (.ref sa), some (.int c), some (.int e), some (.ref p), some (.int sd), some (.int (0 + (i : Int))), v6, some (.int r), v8] ∧
            Same H H' ∧ H' p = some (.lst (ys.map V.int)) ∧ ys.length ≤ i * 100 + j) ⟨_, _, v8, xs, rfl, s1, h1, by omega⟩ ?_ ?_⟩
          · rintro j σ H2 hj ⟨r, v6, v8, ys, rfl, s2, h2, hy⟩
            refine ⟨_, rfl, .inl ⟨rfl, _, SqL.of h2⟩, ?_⟩
            walk_at "sts"
            refine ⟨p, _, _, rfl, rfl, h2, by rw [List.length_map]; exact small1000000 (by omega), ?_⟩
            walk_at "sts"
            refine ⟨_, _, _, ys ++ [r % 1000003], rfl, s2.mut hp, ?_, by rw [List.length_append]; simp; omega⟩
            rw [upd_same, List.map_append]
            rfl
          · rintro σ H2 ⟨r, v6, v8, ys, rfl, s2, h2, hy⟩
            exact ⟨_, _, _, _, _, ys, rfl, s2, h2, by omega⟩
        · walk_at "sts"
          refine ⟨by omega, by omega, for_range (lo := 0) (n := e.toNat) (fun j σ H' => ∃ (sd : Int) (v6 v7 v8 : Option V) (ys : List Int), σ = [some (.ref sa), some (.int c), some (.int e), some (.ref p), some (.int sd), some (.int (0 + (i : Int))), v6, v7, v8] ∧
            Same H H' ∧ H' p = some (.lst (ys.map V.int)) ∧ ys.length ≤ i * 100 + j) ⟨_, _, _, v8, xs, rfl, s1, h1, by omega⟩ ?_ ?_⟩
          · rintro j σ H2 hj ⟨sd, v6, v7, v8, ys, rfl, s2, h2, hy⟩
            walk_at "sts"
            refine ⟨.inl ⟨rfl, _, SqL.of h2⟩, ?_⟩
            walk_at "sts"
            refine ⟨p, _, _, rfl, rfl, h2, by rw [List.length_map]; exact small1000000 (by omega), ?_⟩
            refine ⟨_, _, _, _, ys ++ [(sd * 69621 + (0 + (j : Int)) + 1) % 2147483629 / 5 % 1000003], rfl, s2.mut hp, ?_, by rw [List.length_append]; simp; omega⟩
            rw [upd_same, List.map_append]
            rfl
          · rintro σ H2 ⟨sd, v6, v7, v8, ys, rfl, s2, h2, hy⟩
            exact ⟨_, _, _, _, _, ys, rfl, s2, h2, by omega⟩
      · skip
        walk_at "sts"
        refine ⟨by omega, by omega, for_range (lo := 0) (n := e.toNat) (fun j σ H' => ∃ (sd : Int) (v6 v7 v8 : Option V) (ys : List Int), σ = [some (.ref sa), some (.int c), some (.int e), some (.ref p), some (.int sd), some (.int (0 + (i : Int))), v6, v7, v8] ∧
          Same H H' ∧ H' p = some (.lst (ys.map V.int)) ∧ ys.length ≤ i * 100 + j) ⟨_, _, _, v8, xs, rfl, s1, h1, by omega⟩ ?_ ?_⟩
        · rintro j σ H2 hj ⟨sd, v6, v7, v8, ys, rfl, s2, h2, hy⟩
          walk_at "sts"
          refine ⟨.inl ⟨rfl, _, SqL.of h2⟩, ?_⟩
          walk_at "sts"
          refine ⟨p, _, _, rfl, rfl, h2, by rw [List.length_map]; exact small1000000 (by omega), ?_⟩
          refine ⟨_, _, _, _, ys ++ [(sd * 69621 + (0 + (j : Int)) + 1) % 2147483629 / 5 % 1000003], rfl, s2.mut hp, ?_, by rw [List.length_append]; simp; omega⟩
          rw [upd_same, List.map_append]
          rfl
        · rintro σ H2 ⟨sd, v6, v7, v8, ys, rfl, s2, h2, hy⟩
          exact ⟨_, _, _, _, _, ys, rfl, s2, h2, by omega⟩
    · rintro σ H1 ⟨sd, v5, v6, v7, v8, xs, rfl, s1, h1, hx⟩
      refine ⟨_, rfl, .inl ⟨rfl, _, SqL.of h1⟩, p, _, rfl, rfl, h1, _, rfl, ?_⟩
      refine k xs p _ hp (s1.mut hp) ?_
      rw [upd_same]
      simp [dk]
theorem ok_c_law_gcd {P : Program} {w : World} {K : PySem.W.Frag} {mg : Str → Option Value} {base : Heap} {a : Ad} (T : Txt K mg a) : FnOk P w K mg base (L2.CX P w) 1 a.f_c_law_gcd a.d_c_law_gcd ["one", "two"] (sp_c_law_gcd) := by
  refine T.F_c_law_gcd.okX sc_c_law_gcd (fun vs H Q E h => ?_) (fun cdv A outer s H vs Q E hr h => ?_)
  · walk_at "len"
  · obtain ⟨x, y, rfl, k⟩ := h
    refine ⟨_, (pss_cons (ps_set (i := 0) sc_c_law_gcd.nd (by rfl) (Or.inl rfl) (pe_callB call_abs (by rfl) T.n_abs (by decide +kernel) (pa_cons (pv 0) pa_nil)))
    (pss_cons (ps_set (i := 1) sc_c_law_gcd.nd (by rfl) (Or.inl rfl) (pe_callB call_abs (by rfl) T.n_abs (by decide +kernel) (pa_cons (pv 1) pa_nil)))
    (pss_cons (ps_while (passes_of rfl) (pt_cmpR op_ne (pv 1) pe_int (nomark _)) (pss_one (ps_par (i := 0) (j := 1) (by rfl) sc_c_law_gcd.nd (by rfl) (by rfl) (by decide) (by rfl) (by rfl) (pa_cons (pv 1) (pa_cons (pe_op op_mod (pe_callTy call_int1 (by rfl) T.n_int (by decide +kernel) (pa_cons (pv 0) pa_nil)) (pv 1)) pa_nil)) (by rfl))))
    (pss_one (ps_ret (pv 0)))))), ?_⟩
    refine ⟨_, rfl, _, rfl, ?_⟩
    refine ⟨_, rfl, _, rfl, ?_⟩
    refine ⟨fun m σ H' => ∃ u v : Nat, σ = [some (.int (u : Int)), some (.int (v : Int))] ∧ H' = H ∧ v = m ∧ Nat.gcd u v = Nat.gcd x.natAbs y.natAbs, ⟨y.natAbs, x.natAbs, y.natAbs, ?_, rfl, rfl, rfl⟩, ?_⟩
    · show [some (V.int (if x < 0 then -x else x)), some (V.int (if y < 0 then -y else y))] = _
      rw [abs_nat, abs_nat]
    · rintro m σ H' ⟨u, v, rfl, rfl, rfl, hg⟩
      refine ⟨_, rfl, rfl, _, rfl, ?_⟩
      refine ite2 (fun c => ?_) (fun c => ?_)
      · have c' : v ≠ 0 := by
          intro z
          subst z
          simp at c
        refine ⟨_, fun _ _ h => h, ?_⟩
        refine ⟨_, rfl, _, rfl, .inl ⟨_, rfl, _, rfl, _, _, rfl, rfl, (by show (0 : Int) < _; omega), _, _, rfl, ?_⟩⟩
        refine ⟨u % v, Nat.mod_lt _ (by omega), v, u % v, rfl, rfl, rfl, ?_⟩
        rw [Nat.gcd_comm, ← Nat.gcd_rec, Nat.gcd_comm]
        exact hg
      · have c' : v = 0 := by
          have : ¬ ¬ (V.int (v : Int) = V.int 0) := by simpa using c
          have := Classical.not_not.mp this
          injection this with h
          omega
        subst c'
        rw [Nat.gcd_zero_right] at hg
        refine ⟨_, rfl, ?_⟩
        rw [hg]
        exact k
theorem ok_c_law_fraction {P : Program} {w : World} {K : PySem.W.Frag} {mg : Str → Option Value} {base : Heap} {a : Ad} (T : Txt K mg a) : FnOk P w K mg base (L2.CX P w) 2 a.f_c_law_fraction a.d_c_law_fraction ["above", "below"] (sp_c_law_fraction) := by
  have G_c_law_gcd : FnOk P w K mg base (L2.CX P w) 1 a.f_c_law_gcd a.d_c_law_gcd ["one", "two"] (sp_c_law_gcd) := ok_c_law_gcd T
  refine T.F_c_law_fraction.okX sc_c_law_fraction (fun vs H Q E h => ?_) (fun cdv A outer s H vs Q E hr h => ?_)
  · walk_at "len"
  · obtain ⟨x, y, rfl, hy, hy0, k⟩ := h
    refine ⟨_, (pss_cons (ps_set (i := 2) sc_c_law_fraction.nd (by rfl) (Or.inl rfl) (pe_call G_c_law_gcd (hr.mono (by decide)) (by rfl) T.m_c_law_gcd T.F_c_law_gcd.kp T.b_c_law_gcd .nil passL (pa_cons (pv 0) (pa_cons (pv 1) pa_nil))))
    (pss_cons (ps_if (pt_cmpR op_lt (pv 1) pe_int (nomark _)) (pss_one (ps_set (i := 2) sc_c_law_fraction.nd (by rfl) (Or.inl rfl) (pe_un un_neg (pv 2)))) pss_nil)
    (pss_one (ps_ret (pe_tup (pa_cons (pe_op op_fdivZ (pv 0) (pv 2)) (pa_cons (pe_op op_fdivZ (pv 1) (pv 2)) pa_nil))))))), ?_⟩
    refine ⟨_, rfl, _, rfl, x, y, rfl, ?_⟩
    refine ⟨_, rfl, _, _, rfl, rfl, _, rfl, ?_⟩
    unfold frA frB frC at k
    refine ite2 (fun n => ?_) (fun n => ?_)
    · have n' : y < 0 := by simpa using n
      rw [if_pos n'] at k
      refine ⟨_, rfl, _, rfl, ?_⟩
      exact ⟨_, rfl, _, rfl, _, _, rfl, rfl, (gcd_cdiv x hy0 hy).2, _, rfl, _, rfl, _, _, rfl, rfl, (gcd_cdiv y hy0 hy).2, by show 2 ≤ sizeLine; decide, k⟩
    · have n' : ¬ y < 0 := by simpa using n
      rw [if_neg n'] at k
      exact ⟨_, rfl, _, rfl, _, _, rfl, rfl, (gcd_cdiv x hy0 hy).1, _, rfl, _, rfl, _, _, rfl, rfl, (gcd_cdiv y hy0 hy).1, by show 2 ≤ sizeLine; decide, k⟩
theorem ok_c_law_take {P : Program} {w : World} {K : PySem.W.Frag} {mg : Str → Option Value} {base : Heap} {a : Ad} (T : Txt K mg a) : FnOk P w K mg base (L2.CX P w) 1 a.f_c_law_take a.d_c_law_take ["deck", "many"] (sp_c_law_take) := by
  refine T.F_c_law_take.okX sc_c_law_take (fun vs H Q E h => ?_) (fun cdv A outer s H vs Q E hr h => ?_)
  · rw [sp_c_law_take, sp_take_eq] at h
    walk_at "len"
  · rw [sp_c_law_take, sp_take_eq] at h
    obtain ⟨d, D, m, rfl, hd, hm, k⟩ := h
    refine ⟨_, (pss_cons (ps_if (pt_cmpR op_eq (pe_callB call_len_seq (by rfl) T.n_len (by decide +kernel) (pa_cons (pv 0) pa_nil)) pe_int (nomark _)) (pss_one (ps_ret pe_int)) pss_nil)
    (pss_one (ps_ret (pe_op op_mod (pe_callTy call_int1 (by rfl) T.n_int (by decide +kernel) (pa_cons (pe_bm0 PySem.F.plainAttrs_list PySem.F.slot_list_pop PySem.F.type_list_pop mt_pop (pv 0)) pa_nil)) (pv 1))))), ?_⟩
    refine ⟨_, rfl, d, _, rfl, .inl (SqL.of hd), rfl, _, rfl, ?_⟩
    cases D with
    | nil =>
      refine iteT ?_
      have e : upd H d (dk []) = H := upd_self hd
      have k' : Q (.int (0 % m)) H := by rw [← e]; exact k
      rw [Int.zero_emod] at k'
      exact k'
    | cons x D =>
      refine ite2 (fun c => ?_) (fun _ => ?_)
      · simp at c
        omega
      · refine ⟨_, rfl, .inl ⟨rfl, _, SqL.of hd⟩, d, _, _, rfl, rfl, hd, dk_last, .inl ⟨_, rfl, _, rfl, _, _, rfl, rfl, hm, ?_⟩⟩
        rw [dk_drop]
        exact k
theorem ok_c_law_number {P : Program} {w : World} {K : PySem.W.Frag} {mg : Str → Option Value} {base : Heap} {a : Ad} (T : Txt K mg a) : FnOk P w K mg base (L2.CX P w) 2 a.f_c_law_number a.d_c_law_number ["deck"] (sp_c_law_number) := by
  have G_c_law_take : FnOk P w K mg base (L2.CX P w) 1 a.f_c_law_take a.d_c_law_take ["deck", "many"] (sp_c_law_take) := ok_c_law_take T
  refine T.F_c_law_number.okX sc_c_law_number (fun vs H Q E h => ?_) (fun cdv A outer s H vs Q E hr h => ?_)
  · rw [sp_c_law_number, sp_number_eq] at h
    walk_at "len"
  · rw [sp_c_law_number, sp_number_eq] at h
    obtain ⟨d, D, rfl, hd, k⟩ := h
    refine ⟨_, (pss_cons (ps_set (i := 1) sc_c_law_number.nd (by rfl) (Or.inl rfl) (pe_call G_c_law_take (hr.mono (by decide)) (by rfl) T.m_c_law_take T.F_c_law_take.kp T.b_c_law_take .nil passL (pa_cons (pv 0) (pa_cons pe_int pa_nil))))
    (pss_cons (ps_if (pt_cmpR op_lt (pv 1) pe_int (nomark _)) (pss_one (ps_ret (pe_op op_sub (pe_call G_c_law_take (hr.mono (by decide)) (by rfl) T.m_c_law_take T.F_c_law_take.kp T.b_c_law_take .nil passL (pa_cons (pv 0) (pa_cons pe_int pa_nil))) pe_int))) pss_nil)
    (pss_cons (ps_set (i := 2) sc_c_law_number.nd (by rfl) (Or.inl rfl) (pe_call G_c_law_take (hr.mono (by decide)) (by rfl) T.m_c_law_take T.F_c_law_take.kp T.b_c_law_take .nil passL (pa_cons (pv 0) (pa_cons pe_int pa_nil))))
    (pss_cons (ps_for (passes_of rfl) rfl (pi_range1 (by rfl) T.n_range (pa_cons (pe_call G_c_law_take (hr.mono (by decide)) (by rfl) T.m_c_law_take T.F_c_law_take.kp T.b_c_law_take .nil passL (pa_cons (pv 0) (pa_cons pe_int pa_nil))) pa_nil)) (pg_name (i := 3) sc_c_law_number.nd (by rfl) (Or.inl rfl)) (pss_one (ps_set (i := 2) sc_c_law_number.nd (by rfl) (Or.inl rfl) (pe_op op_add (pe_op op_mul (pv 2) pe_int) (pe_call G_c_law_take (hr.mono (by decide)) (by rfl) T.m_c_law_take T.F_c_law_take.kp T.b_c_law_take .nil passL (pa_cons (pv 0) (pa_cons pe_int pa_nil)))))))
    (pss_one (ps_ret (pe_op op_mul (pv 2) (pe_ix ix_list (pe_lst (pa_cons pe_int (pa_cons (pe_un un_neg pe_int) pa_nil))) (pe_call G_c_law_take (hr.mono (by decide)) (by rfl) T.m_c_law_take T.F_c_law_take.kp T.b_c_law_take .nil passL (pa_cons (pv 0) (pa_cons pe_int pa_nil))) (fun _ _ => rfl))))))))), ?_⟩
    refine ⟨_, rfl, take_u hd (by decide) ?_⟩
    walk_at "sts"
    refine ite2 (fun _ => ?_) (fun _ => ?_)
    · refine ⟨_, rfl, take_u upd_same (by decide) ?_⟩
      walk_at "sts"
      rw [upd_upd]
      refine k _ _ _ (fun b o n e => by rw [upd_ne n]; exact e) upd_same ?_
      have a := tk_nonneg D.tail (m := 9) (by decide)
      have b := tk_lt D.tail (m := 9) (by decide)
      exact Nat.lt_of_lt_of_le (show _ < 2 ^ 10 by omega) (Nat.pow_le_pow_right (by decide) (by decide))
    · refine ⟨_, rfl, take_u upd_same (by decide) ?_⟩
      rw [upd_upd]
      refine ⟨_, rfl, take_u upd_same (by decide) ?_⟩
      rw [upd_upd]
      have t0 := tk_nonneg D.tail.tail (m := 5) (by decide)
      have t1 := tk_lt D.tail.tail (m := 5) (by decide)
      have n0 := tk_nonneg D.tail (m := 1000003) (by decide)
      have n1 := tk_lt D.tail (m := 1000003) (by decide)
      refine ⟨_, rfl, by omega, by omega, for_range (lo := 0) (n := (tk D.tail.tail 5).toNat) (fun i σ H' => ∃ (n : Int) (v3 : Option V) (D' : List Int), σ = [some (.ref d), some (.int (tk D 5)), some (.int n), v3] ∧ H' = upd H d (dk D') ∧ 0 ≤ n ∧ n < 2 ^ (20 * (i + 1)))
        ⟨_, none, _, rfl, rfl, n0, by omega⟩ ?_ ?_⟩
      · rintro i σ H' hi ⟨n, v3, D', rfl, rfl, m0, m1⟩
        walk_at "sts"
        refine take_u upd_same (by decide) ?_
        rw [upd_upd]
        walk_at "sts"
        have a := tk_nonneg D' (m := 1000003) (by decide)
        have b := tk_lt D' (m := 1000003) (by decide)
        refine ⟨_, _, _, rfl, rfl, by omega, ?_⟩
        have e : (2 : Int) ^ (20 * (i + 1 + 1)) = 1048576 * 2 ^ (20 * (i + 1)) := by
          rw [show 20 * (i + 1 + 1) = 20 + 20 * (i + 1) by omega, Int.pow_add]
          rfl
        rw [e]
        omega
      · rintro σ H' ⟨n, v3, D', rfl, rfl, m0, m1⟩
        have m2 : n < 2 ^ 120 := Int.lt_of_lt_of_le m1 (two_pow_mono (by omega))
        refine ⟨_, rfl, ?_⟩
        walk_at "sts"
        refine ⟨by show 2 ≤ sizeLine; decide, fun l hl => ?_⟩
        have nl : d ≠ l := by
          intro z
          rw [z, upd_same] at hl
          cases hl
        have hl0 : H l = none := by rw [upd_ne nl.symm] at hl; exact hl
        refine ⟨_, rfl, take_u (D := D') (by rw [upd_ne nl]; exact upd_same) (by decide) ?_⟩
        have a := tk_nonneg D' (m := 2) (by decide)
        have b := tk_lt D' (m := 2) (by decide)
        obtain ⟨z, hz, hz2⟩ := atI_ints (ns := [1, -1]) a (by simpa using b)
        refine ⟨l, _, _, .int z, rfl, rfl, SqL.of (by rw [upd_ne nl.symm]; exact upd_same), hz, ?_⟩
        have hz3 : z = 1 ∨ z = -1 := by simpa using hz2
        refine ⟨_, _, rfl, rfl, .inr ⟨by omega, by omega⟩, ?_⟩
        refine k _ _ _ (fun b o nb e => ?_) upd_same ?_
        · rw [upd_ne nb, upd_ne (ne_of_none e hl0), upd_ne nb]
          exact e
        · have e1 : (n * z).natAbs = n.natAbs := by rcases hz3 with rfl | rfl <;> omega
          have e2 : (2 : Int) ^ 120 = ((2 ^ 120 : Nat) : Int) := by rw [Int.natCast_pow]; rfl
          rw [e1]
          exact Nat.lt_of_lt_of_le (show n.natAbs < 2 ^ 120 by omega) (Nat.pow_le_pow_right (by decide) (by decide))

theorem ok_c_law_plain_n {P : Program} {w : World} {K : PySem.W.Frag} {mg : Str → Option Value} {base : Heap} {a : Ad} (T : Txt K mg a) : ∀ n, FnOk P w K mg base (L2.CX P w) (n + 1) a.f_c_law_plain a.d_c_law_plain ["value"] (sp_c_law_plain K n) := by
  have step : ∀ n, (∀ m, m + 1 = n → FnOk P w K mg base (L2.CX P w) (m + 1) a.f_c_law_plain a.d_c_law_plain ["value"] (sp_c_law_plain K m)) → FnOk P w K mg base (L2.CX P w) (n + 1) a.f_c_law_plain a.d_c_law_plain ["value"] (sp_c_law_plain K n) := by
    intro n ih
    refine T.F_c_law_plain.okX sc_c_law_plain (fun vs H Q E h => ?_) (fun cdv A outer s H vs Q E hr h => ?_)
    · walk_at "len"
    · obtain ⟨v, d, rfl, hd, hok, k⟩ := h
      cases d with
      | dict _ => simp [okD] at hok
      | list ds =>
        cases n with
        | zero => simp [okD] at hok
        | succ n =>
        have IH := ih n rfl
        simp only [okD, Bool.and_eq_true, decide_eq_true_eq] at hok
        have hds := hok.1
        cases hd with
        | @lst aa xs _ hsq hall =>
        refine ⟨_, (pss_cons (ps_if (pt_val (pe_callB call_isiT (by rfl) T.n_isinstance (by decide +kernel) (pa_cons (pv 0) (pa_cons (pe_tup (pa_cons (pe_bltn (v := .ty "tuple") (by rfl) T.n_tuple (by decide +kernel) rfl) (pa_cons (pe_bltn (v := .ty "list") (by rfl) T.n_list (by decide +kernel) rfl) pa_nil))) pa_nil)))) (pss_one (ps_ret (pe_op op_cat (pe_lst (pa_cons (pe_callB call_isi (by rfl) T.n_isinstance (by decide +kernel) (pa_cons (pv 0) (pa_cons (pe_bltn (v := .ty "list") (by rfl) T.n_list (by decide +kernel) rfl) pa_nil))) pa_nil)) (pe_lcK (own := [("item", 1)]) (by rfl) sc_c_law_plain.nd (pi_list (pv 0)) (blkOk_by (own := [("item", 1)]) (N := ["value", "item"]) (sc := defScope st_c_law_plain) (by decide +kernel)) (fun _ _ _ _ _ => (pg_name (i := 1) sc_c_law_plain.nd (by rfl) (by first | exact Or.inl rfl | exact Or.inr rfl))) (fun _ _ _ _ _ => pts_nil) (fun _ _ _ _ _ => (pe_call IH (hr.mono (by omega)) (by rfl) T.m_c_law_plain T.F_c_law_plain.kp T.b_c_law_plain .nil passL (pa_cons (pv 1) pa_nil))) (by walk_at "blk") (by walk_at "blk") (by walk_at "blk"))))) pss_nil)
    (pss_cons (ps_if (PW.pt (pw_or (pt_cmpR op_isN (pv 0) pe_non (nomark _)) (pw_or1 (pt_val (pe_callB call_isi (by rfl) T.n_isinstance (by decide +kernel) (pa_cons (pv 0) (pa_cons (pe_bltn (v := .ty "bool") (by rfl) T.n_bool (by decide +kernel) rfl) pa_nil))))))) (pss_one (ps_ret (pe_ix ix_list (pe_lst (pa_cons pe_str (pa_cons pe_str (pa_cons pe_str pa_nil)))) (pe_op op_add (pe_callTy call_int1 (by rfl) T.n_int (by decide +kernel) (pa_cons (pe_cmpR op_notN (pv 0) pe_non (nomark _)) pa_nil)) (pe_callTy call_int1 (by rfl) T.n_int (by decide +kernel) (pa_cons (pe_cmpR op_isT (pv 0) pe_bl (nomark _)) pa_nil))) (fun _ _ => rfl)))) pss_nil)
    (pss_cons (ps_if (pt_val (pe_callB call_isiT (by rfl) T.n_isinstance (by decide +kernel) (pa_cons (pv 0) (pa_cons (pe_tup (pa_cons (pe_bltn (v := .ty "int") (by rfl) T.n_int (by decide +kernel) rfl) (pa_cons (pe_bltn (v := .ty "str") (by rfl) T.n_str (by decide +kernel) rfl) pa_nil))) pa_nil)))) (pss_one (ps_ret (pe_lst (pa_cons (pe_callB call_isi (by rfl) T.n_isinstance (by decide +kernel) (pa_cons (pv 0) (pa_cons (pe_bltn (v := .ty "str") (by rfl) T.n_str (by decide +kernel) rfl) pa_nil))) (pa_cons (pv 0) pa_nil))))) pss_nil)
    (pss_one (ps_ret pe_str))))), ?_⟩

        refine ⟨_, rfl, by show 2 ≤ sizeLine; decide, fun p hp => ?_⟩
        refine ⟨_, _, [.ty "tuple", .ty "list"], .type "list", _, _, rfl, upd_same, .cons (.ty "tuple") (.cons (.ty "list") .nil), ((kind_l hsq).new hp), kit2 (r1 := false) (r2 := true) (by decide +kernel) (by decide +kernel), ?_⟩
        refine ⟨_, rfl, ?_⟩
        refine iteT ?_
        have s1 : Same H (upd H p (.tup [.ty "tuple", .ty "list"])) := Same.new hp
        refine ⟨_, rfl, .ref aa, .ty "list", _, _, true, rfl, .ty "list", (kind_l hsq).new hp, kit_ty (by decide +kernel), ?_⟩
        refine ⟨by show 1 ≤ sizeLine; decide, fun l hl => ?_⟩
        have s2 := s1.then_new (o := .lst [.bl true]) hl
        have hl0 : H l = none := s1.free hl
        refine ⟨_, rfl, aa, rfl, ⟨_, Same.seq s2 hsq⟩, fun E' hE => ?_⟩
        have hE0 : H E' = none := s2.free hE
        have nlE : l ≠ E' := by
          intro z
          rw [z, upd_same] at hE
          cases hE
        refine lc_list (K := K) (a := aa) (xs := xs) (fun i H' => Same H H' ∧ H' l = some (.lst [.bl true]) ∧ ∃ acc, H' E' = some (.lst acc) ∧ DNs (fun b => H b = none ∧ b ≠ E' ∧ b ≠ l) H' acc (plainDs (ds.take i)) ∧ acc.length ≤ i)
          ⟨s2.then_new hE, by rw [upd_ne nlE]; exact upd_same, [], upd_same, by simp only [List.take_zero, plainDs]; exact .nil, Nat.le_refl _⟩ (fun i H' _ q => Same.seq q.1 hsq) ?_ ?_
        · rintro i x H' hi ⟨s3, h3, acc, ha, hn, hz⟩
          obtain ⟨dx, hdx, hx⟩ := dpAll_get hall hi
          have hi1 : i < ds.length := (List.getElem?_eq_some_iff.mp hdx).1
          refine ⟨rfl, ?_⟩
          refine ⟨_, rfl, x, dx, rfl, dp_same s3 dx x hx, okDs_get hok.2 hdx, fun v' H'' s4 hv => ?_⟩
          have hE2 := s4 _ _ ha
          have nn : ∀ b, H' b = none → H b = none ∧ b ≠ E' ∧ b ≠ l := fun b hb => ⟨s3.free hb, (fun z => by rw [z, ha] at hb; cases hb), (fun z => by rw [z, h3] at hb; cases hb)⟩
          refine ⟨acc, hE2, small1000000 (by omega), (s3.trans s4).mut hE0, by rw [upd_ne nlE]; exact s4 _ _ h3, acc ++ [v'], upd_same, ?_, by rw [List.length_append]; show _ + 1 ≤ _; omega⟩
          rw [plainDs_take hdx]
          exact DNs.snoc (DN.mono nn (fun b o hb e => by rw [upd_ne (nn b hb).2.1]; exact e) _ _ hv) (DNs.mono (fun _ z => z) (fun b o hb e => by rw [upd_ne hb.2.1]; exact s4 _ _ e) _ _ hn)
        · rintro H' ⟨s3, h3, acc, ha, hn, hz⟩
          have el : ds.take xs.length = ds := by rw [dpAll_length hall, List.take_length]
          rw [el] at hn
          have hlen : acc.length ≤ 1000 := by have := dpAll_length hall; omega
          refine ⟨l, E', _, _, rfl, rfl, h3, ha, Nat.le_of_lt (small1000000 (by show 1 + _ ≤ _; omega)), fun r hr' => ?_⟩
          have hr0 : H r = none := s3.free hr'
          refine k _ _ (s3.then_new hr') ?_
          simp only [plainD]
          refine .lst hr0 upd_same (.cons (.bl _) (DNs.mono (fun b z => z.1) (fun b o hb e => ?_) _ _ hn))
          rw [upd_ne (ne_of_none e hr')]
          exact e

      | tuple ds =>
        cases n with
        | zero => simp [okD] at hok
        | succ n =>
        have IH := ih n rfl
        simp only [okD, Bool.and_eq_true, decide_eq_true_eq] at hok
        have hds := hok.1
        cases hd with
        | @tup aa xs _ hsq hall =>
        refine ⟨_, (pss_cons (ps_if (pt_val (pe_callB call_isiT (by rfl) T.n_isinstance (by decide +kernel) (pa_cons (pv 0) (pa_cons (pe_tup (pa_cons (pe_bltn (v := .ty "tuple") (by rfl) T.n_tuple (by decide +kernel) rfl) (pa_cons (pe_bltn (v := .ty "list") (by rfl) T.n_list (by decide +kernel) rfl) pa_nil))) pa_nil)))) (pss_one (ps_ret (pe_op op_cat (pe_lst (pa_cons (pe_callB call_isi (by rfl) T.n_isinstance (by decide +kernel) (pa_cons (pv 0) (pa_cons (pe_bltn (v := .ty "list") (by rfl) T.n_list (by decide +kernel) rfl) pa_nil))) pa_nil)) (pe_lcK (own := [("item", 1)]) (by rfl) sc_c_law_plain.nd (pi_tup (pv 0)) (blkOk_by (own := [("item", 1)]) (N := ["value", "item"]) (sc := defScope st_c_law_plain) (by decide +kernel)) (fun _ _ _ _ _ => (pg_name (i := 1) sc_c_law_plain.nd (by rfl) (by first | exact Or.inl rfl | exact Or.inr rfl))) (fun _ _ _ _ _ => pts_nil) (fun _ _ _ _ _ => (pe_call IH (hr.mono (by omega)) (by rfl) T.m_c_law_plain T.F_c_law_plain.kp T.b_c_law_plain .nil passL (pa_cons (pv 1) pa_nil))) (by walk_at "blk") (by walk_at "blk") (by walk_at "blk"))))) pss_nil)
    (pss_cons (ps_if (PW.pt (pw_or (pt_cmpR op_isN (pv 0) pe_non (nomark _)) (pw_or1 (pt_val (pe_callB call_isi (by rfl) T.n_isinstance (by decide +kernel) (pa_cons (pv 0) (pa_cons (pe_bltn (v := .ty "bool") (by rfl) T.n_bool (by decide +kernel) rfl) pa_nil))))))) (pss_one (ps_ret (pe_ix ix_list (pe_lst (pa_cons pe_str (pa_cons pe_str (pa_cons pe_str pa_nil)))) (pe_op op_add (pe_callTy call_int1 (by rfl) T.n_int (by decide +kernel) (pa_cons (pe_cmpR op_notN (pv 0) pe_non (nomark _)) pa_nil)) (pe_callTy call_int1 (by rfl) T.n_int (by decide +kernel) (pa_cons (pe_cmpR op_isT (pv 0) pe_bl (nomark _)) pa_nil))) (fun _ _ => rfl)))) pss_nil)
    (pss_cons (ps_if (pt_val (pe_callB call_isiT (by rfl) T.n_isinstance (by decide +kernel) (pa_cons (pv 0) (pa_cons (pe_tup (pa_cons (pe_bltn (v := .ty "int") (by rfl) T.n_int (by decide +kernel) rfl) (pa_cons (pe_bltn (v := .ty "str") (by rfl) T.n_str (by decide +kernel) rfl) pa_nil))) pa_nil)))) (pss_one (ps_ret (pe_lst (pa_cons (pe_callB call_isi (by rfl) T.n_isinstance (by decide +kernel) (pa_cons (pv 0) (pa_cons (pe_bltn (v := .ty "str") (by rfl) T.n_str (by decide +kernel) rfl) pa_nil))) (pa_cons (pv 0) pa_nil))))) pss_nil)
    (pss_one (ps_ret pe_str))))), ?_⟩

        refine ⟨_, rfl, by show 2 ≤ sizeLine; decide, fun p hp => ?_⟩
        refine ⟨_, _, [.ty "tuple", .ty "list"], .type "tuple", _, _, rfl, upd_same, .cons (.ty "tuple") (.cons (.ty "list") .nil), ((kind_t hsq).new hp), kit2 (r1 := true) (r2 := false) (by decide +kernel) (by decide +kernel), ?_⟩
        refine ⟨_, rfl, ?_⟩
        refine iteT ?_
        have s1 : Same H (upd H p (.tup [.ty "tuple", .ty "list"])) := Same.new hp
        refine ⟨_, rfl, .ref aa, .ty "list", _, _, false, rfl, .ty "list", (kind_t hsq).new hp, kit_ty (by decide +kernel), ?_⟩
        refine ⟨by show 1 ≤ sizeLine; decide, fun l hl => ?_⟩
        have s2 := s1.then_new (o := .lst [.bl false]) hl
        have hl0 : H l = none := s1.free hl
        refine ⟨_, rfl, aa, rfl, ⟨_, Same.tup s2 hsq⟩, fun E' hE => ?_⟩
        have hE0 : H E' = none := s2.free hE
        have nlE : l ≠ E' := by
          intro z
          rw [z, upd_same] at hE
          cases hE
        refine lc_tup (K := K) (a := aa) (xs := xs) (fun i H' => Same H H' ∧ H' l = some (.lst [.bl false]) ∧ ∃ acc, H' E' = some (.lst acc) ∧ DNs (fun b => H b = none ∧ b ≠ E' ∧ b ≠ l) H' acc (plainDs (ds.take i)) ∧ acc.length ≤ i)
          ⟨s2.then_new hE, by rw [upd_ne nlE]; exact upd_same, [], upd_same, by simp only [List.take_zero, plainDs]; exact .nil, Nat.le_refl _⟩ (fun i H' _ q => Same.tup q.1 hsq) ?_ ?_
        · rintro i x H' hi ⟨s3, h3, acc, ha, hn, hz⟩
          obtain ⟨dx, hdx, hx⟩ := dpAll_get hall hi
          have hi1 : i < ds.length := (List.getElem?_eq_some_iff.mp hdx).1
          refine ⟨rfl, ?_⟩
          refine ⟨_, rfl, x, dx, rfl, dp_same s3 dx x hx, okDs_get hok.2 hdx, fun v' H'' s4 hv => ?_⟩
          have hE2 := s4 _ _ ha
          have nn : ∀ b, H' b = none → H b = none ∧ b ≠ E' ∧ b ≠ l := fun b hb => ⟨s3.free hb, (fun z => by rw [z, ha] at hb; cases hb), (fun z => by rw [z, h3] at hb; cases hb)⟩
          refine ⟨acc, hE2, small1000000 (by omega), (s3.trans s4).mut hE0, by rw [upd_ne nlE]; exact s4 _ _ h3, acc ++ [v'], upd_same, ?_, by rw [List.length_append]; show _ + 1 ≤ _; omega⟩
          rw [plainDs_take hdx]
          exact DNs.snoc (DN.mono nn (fun b o hb e => by rw [upd_ne (nn b hb).2.1]; exact e) _ _ hv) (DNs.mono (fun _ z => z) (fun b o hb e => by rw [upd_ne hb.2.1]; exact s4 _ _ e) _ _ hn)
        · rintro H' ⟨s3, h3, acc, ha, hn, hz⟩
          have el : ds.take xs.length = ds := by rw [dpAll_length hall, List.take_length]
          rw [el] at hn
          have hlen : acc.length ≤ 1000 := by have := dpAll_length hall; omega
          refine ⟨l, E', _, _, rfl, rfl, h3, ha, Nat.le_of_lt (small1000000 (by show 1 + _ ≤ _; omega)), fun r hr' => ?_⟩
          have hr0 : H r = none := s3.free hr'
          refine k _ _ (s3.then_new hr') ?_
          simp only [plainD]
          refine .lst hr0 upd_same (.cons (.bl _) (DNs.mono (fun b z => z.1) (fun b o hb e => ?_) _ _ hn))
          rw [upd_ne (ne_of_none e hr')]
          exact e

      | none =>
        cases hd
        refine ⟨_, (pss_cons (ps_if (pt_val (pe_callB call_isiT (by rfl) T.n_isinstance (by decide +kernel) (pa_cons (pv 0) (pa_cons (pe_tup (pa_cons (pe_bltn (v := .ty "tuple") (by rfl) T.n_tuple (by decide +kernel) rfl) (pa_cons (pe_bltn (v := .ty "list") (by rfl) T.n_list (by decide +kernel) rfl) pa_nil))) pa_nil)))) (pss_one ps_never) pss_nil)
    (pss_cons (ps_if (PW.pt (pw_or (pt_cmpR op_isN (pv 0) pe_non (nomark _)) (pw_or1 (pt_val (pe_callB call_isi (by rfl) T.n_isinstance (by decide +kernel) (pa_cons (pv 0) (pa_cons (pe_bltn (v := .ty "bool") (by rfl) T.n_bool (by decide +kernel) rfl) pa_nil))))))) (pss_one (ps_ret (pe_ix ix_list (pe_lst (pa_cons pe_str (pa_cons pe_str (pa_cons pe_str pa_nil)))) (pe_op op_add (pe_callTy call_int1 (by rfl) T.n_int (by decide +kernel) (pa_cons (pe_cmpR op_notN (pv 0) pe_non (nomark _)) pa_nil)) (pe_callTy call_int1 (by rfl) T.n_int (by decide +kernel) (pa_cons (pe_cmpR op_isT (pv 0) pe_bl (nomark _)) pa_nil))) (fun _ _ => rfl)))) pss_nil)
    (pss_cons (ps_if (pt_val (pe_callB call_isiT (by rfl) T.n_isinstance (by decide +kernel) (pa_cons (pv 0) (pa_cons (pe_tup (pa_cons (pe_bltn (v := .ty "int") (by rfl) T.n_int (by decide +kernel) rfl) (pa_cons (pe_bltn (v := .ty "str") (by rfl) T.n_str (by decide +kernel) rfl) pa_nil))) pa_nil)))) (pss_one (ps_ret (pe_lst (pa_cons (pe_callB call_isi (by rfl) T.n_isinstance (by decide +kernel) (pa_cons (pv 0) (pa_cons (pe_bltn (v := .ty "str") (by rfl) T.n_str (by decide +kernel) rfl) pa_nil))) (pa_cons (pv 0) pa_nil))))) pss_nil)
    (pss_one (ps_ret pe_str))))), ?_⟩

        refine ⟨_, rfl, by show 2 ≤ sizeLine; decide, fun p hp => ?_⟩
        refine ⟨_, _, [.ty "tuple", .ty "list"], .type "NoneType", _, _, rfl, upd_same, .cons (.ty "tuple") (.cons (.ty "list") .nil), (.base .non), kit2 (r1 := false) (r2 := false) (by decide +kernel) (by decide +kernel), ?_⟩
        refine ⟨_, rfl, ?_⟩
        refine iteF ?_
        have s1 : Same H (upd H p (.tup [.ty "tuple", .ty "list"])) := Same.new hp

        refine ⟨_, rfl, rfl, _, rfl, ?_⟩
        refine iteT ?_
        refine iteT ?_
        refine ⟨by show 3 ≤ sizeLine; decide, fun l hl => ?_⟩
        refine ⟨_, rfl, rfl, .inr ⟨_, rfl, ?_⟩⟩
        refine ⟨_, rfl, .inr ⟨rfl, _, rfl, .inr ⟨_, rfl, ?_⟩⟩⟩
        refine ⟨_, _, rfl, rfl, ?_⟩
        refine ⟨l, _, _, _, rfl, rfl, SqL.of upd_same, atI_nat' (j := 0) (by decide) rfl, ?_⟩
        exact k _ _ (s1.then_new hl) (by simp only [plainD]; exact .str _)
      | bool b =>
        cases hd
        refine ⟨_, (pss_cons (ps_if (pt_val (pe_callB call_isiT (by rfl) T.n_isinstance (by decide +kernel) (pa_cons (pv 0) (pa_cons (pe_tup (pa_cons (pe_bltn (v := .ty "tuple") (by rfl) T.n_tuple (by decide +kernel) rfl) (pa_cons (pe_bltn (v := .ty "list") (by rfl) T.n_list (by decide +kernel) rfl) pa_nil))) pa_nil)))) (pss_one ps_never) pss_nil)
    (pss_cons (ps_if (PW.pt (pw_or (pt_cmpR op_isN (pv 0) pe_non (nomark _)) (pw_or1 (pt_val (pe_callB call_isi (by rfl) T.n_isinstance (by decide +kernel) (pa_cons (pv 0) (pa_cons (pe_bltn (v := .ty "bool") (by rfl) T.n_bool (by decide +kernel) rfl) pa_nil))))))) (pss_one (ps_ret (pe_ix ix_list (pe_lst (pa_cons pe_str (pa_cons pe_str (pa_cons pe_str pa_nil)))) (pe_op op_add (pe_callTy call_int1 (by rfl) T.n_int (by decide +kernel) (pa_cons (pe_cmpR op_notN (pv 0) pe_non (nomark _)) pa_nil)) (pe_callTy call_int1 (by rfl) T.n_int (by decide +kernel) (pa_cons (pe_cmpR op_isT (pv 0) pe_bl (nomark _)) pa_nil))) (fun _ _ => rfl)))) pss_nil)
    (pss_cons (ps_if (pt_val (pe_callB call_isiT (by rfl) T.n_isinstance (by decide +kernel) (pa_cons (pv 0) (pa_cons (pe_tup (pa_cons (pe_bltn (v := .ty "int") (by rfl) T.n_int (by decide +kernel) rfl) (pa_cons (pe_bltn (v := .ty "str") (by rfl) T.n_str (by decide +kernel) rfl) pa_nil))) pa_nil)))) (pss_one (ps_ret (pe_lst (pa_cons (pe_callB call_isi (by rfl) T.n_isinstance (by decide +kernel) (pa_cons (pv 0) (pa_cons (pe_bltn (v := .ty "str") (by rfl) T.n_str (by decide +kernel) rfl) pa_nil))) (pa_cons (pv 0) pa_nil))))) pss_nil)
    (pss_one (ps_ret pe_str))))), ?_⟩

        refine ⟨_, rfl, by show 2 ≤ sizeLine; decide, fun p hp => ?_⟩
        refine ⟨_, _, [.ty "tuple", .ty "list"], .type "bool", _, _, rfl, upd_same, .cons (.ty "tuple") (.cons (.ty "list") .nil), (.base (.bl _)), kit2 (r1 := false) (r2 := false) (by decide +kernel) (by decide +kernel), ?_⟩
        refine ⟨_, rfl, ?_⟩
        refine iteF ?_
        have s1 : Same H (upd H p (.tup [.ty "tuple", .ty "list"])) := Same.new hp

        refine ⟨_, rfl, rfl, _, rfl, ?_⟩
        refine iteF ?_
        refine ⟨_, rfl, _, .ty "bool", _, _, true, rfl, .ty "bool", .base (.bl _), kit_ty (by decide +kernel), _, rfl, ?_⟩
        refine iteT ?_
        refine ⟨by show 3 ≤ sizeLine; decide, fun l hl => ?_⟩
        refine ⟨_, rfl, rfl, .inr ⟨_, rfl, ?_⟩⟩
        refine ⟨_, rfl, .inl ⟨_, _, rfl, rfl, .inr ⟨_, rfl, ?_⟩⟩⟩
        refine ⟨_, _, rfl, rfl, ?_⟩
        cases b
        · refine ⟨l, _, _, _, rfl, rfl, SqL.of upd_same, atI_nat' (j := 1) (by decide) rfl, ?_⟩
          exact k _ _ (s1.then_new hl) (by simp only [plainD]; exact .str _)
        · refine ⟨l, _, _, _, rfl, rfl, SqL.of upd_same, atI_nat' (j := 2) (by decide) rfl, ?_⟩
          exact k _ _ (s1.then_new hl) (by simp only [plainD]; exact .str _)
      | int i =>
        cases hd
        refine ⟨_, (pss_cons (ps_if (pt_val (pe_callB call_isiT (by rfl) T.n_isinstance (by decide +kernel) (pa_cons (pv 0) (pa_cons (pe_tup (pa_cons (pe_bltn (v := .ty "tuple") (by rfl) T.n_tuple (by decide +kernel) rfl) (pa_cons (pe_bltn (v := .ty "list") (by rfl) T.n_list (by decide +kernel) rfl) pa_nil))) pa_nil)))) (pss_one ps_never) pss_nil)
    (pss_cons (ps_if (PW.pt (pw_or (pt_cmpR op_isN (pv 0) pe_non (nomark _)) (pw_or1 (pt_val (pe_callB call_isi (by rfl) T.n_isinstance (by decide +kernel) (pa_cons (pv 0) (pa_cons (pe_bltn (v := .ty "bool") (by rfl) T.n_bool (by decide +kernel) rfl) pa_nil))))))) (pss_one (ps_ret (pe_ix ix_list (pe_lst (pa_cons pe_str (pa_cons pe_str (pa_cons pe_str pa_nil)))) (pe_op op_add (pe_callTy call_int1 (by rfl) T.n_int (by decide +kernel) (pa_cons (pe_cmpR op_notN (pv 0) pe_non (nomark _)) pa_nil)) (pe_callTy call_int1 (by rfl) T.n_int (by decide +kernel) (pa_cons (pe_cmpR op_isT (pv 0) pe_bl (nomark _)) pa_nil))) (fun _ _ => rfl)))) pss_nil)
    (pss_cons (ps_if (pt_val (pe_callB call_isiT (by rfl) T.n_isinstance (by decide +kernel) (pa_cons (pv 0) (pa_cons (pe_tup (pa_cons (pe_bltn (v := .ty "int") (by rfl) T.n_int (by decide +kernel) rfl) (pa_cons (pe_bltn (v := .ty "str") (by rfl) T.n_str (by decide +kernel) rfl) pa_nil))) pa_nil)))) (pss_one (ps_ret (pe_lst (pa_cons (pe_callB call_isi (by rfl) T.n_isinstance (by decide +kernel) (pa_cons (pv 0) (pa_cons (pe_bltn (v := .ty "str") (by rfl) T.n_str (by decide +kernel) rfl) pa_nil))) (pa_cons (pv 0) pa_nil))))) pss_nil)
    (pss_one (ps_ret pe_str))))), ?_⟩

        refine ⟨_, rfl, by show 2 ≤ sizeLine; decide, fun p hp => ?_⟩
        refine ⟨_, _, [.ty "tuple", .ty "list"], .type "int", _, _, rfl, upd_same, .cons (.ty "tuple") (.cons (.ty "list") .nil), (.base (.int _)), kit2 (r1 := false) (r2 := false) (by decide +kernel) (by decide +kernel), ?_⟩
        refine ⟨_, rfl, ?_⟩
        refine iteF ?_
        have s1 : Same H (upd H p (.tup [.ty "tuple", .ty "list"])) := Same.new hp

        refine ⟨_, rfl, rfl, _, rfl, ?_⟩
        refine iteF ?_
        refine ⟨_, rfl, _, .ty "bool", _, _, false, rfl, .ty "bool", .base (.int _), kit_ty (by decide +kernel), _, rfl, ?_⟩
        refine iteF ?_
        refine ⟨_, rfl, by show 2 ≤ sizeLine; decide, fun q hq => ?_⟩
        refine ⟨_, _, [.ty "int", .ty "str"], .type "int", _, _, rfl, upd_same, .cons (.ty "int") (.cons (.ty "str") .nil), (.base (.int _)), kit2 (r1 := true) (r2 := false) (by decide +kernel) (by decide +kernel), ?_⟩
        refine ⟨_, rfl, ?_⟩
        refine iteT ?_
        have s2 := s1.then_new (o := .tup [.ty "int", .ty "str"]) hq
        refine ⟨_, rfl, _, .ty "str", _, _, false, rfl, .ty "str", .base (.int _), kit_ty (by decide +kernel), ?_⟩
        refine ⟨_, rfl, by show 2 ≤ sizeLine; decide, fun l hl => ?_⟩
        refine k _ _ (s2.then_new hl) ?_
        simp only [plainD]
        exact .lst (s2.free hl) upd_same (.cons (.bl _) (.cons (.int _) .nil))
      | str i =>
        cases hd
        refine ⟨_, (pss_cons (ps_if (pt_val (pe_callB call_isiT (by rfl) T.n_isinstance (by decide +kernel) (pa_cons (pv 0) (pa_cons (pe_tup (pa_cons (pe_bltn (v := .ty "tuple") (by rfl) T.n_tuple (by decide +kernel) rfl) (pa_cons (pe_bltn (v := .ty "list") (by rfl) T.n_list (by decide +kernel) rfl) pa_nil))) pa_nil)))) (pss_one ps_never) pss_nil)
    (pss_cons (ps_if (PW.pt (pw_or (pt_cmpR op_isN (pv 0) pe_non (nomark _)) (pw_or1 (pt_val (pe_callB call_isi (by rfl) T.n_isinstance (by decide +kernel) (pa_cons (pv 0) (pa_cons (pe_bltn (v := .ty "bool") (by rfl) T.n_bool (by decide +kernel) rfl) pa_nil))))))) (pss_one (ps_ret (pe_ix ix_list (pe_lst (pa_cons pe_str (pa_cons pe_str (pa_cons pe_str pa_nil)))) (pe_op op_add (pe_callTy call_int1 (by rfl) T.n_int (by decide +kernel) (pa_cons (pe_cmpR op_notN (pv 0) pe_non (nomark _)) pa_nil)) (pe_callTy call_int1 (by rfl) T.n_int (by decide +kernel) (pa_cons (pe_cmpR op_isT (pv 0) pe_bl (nomark _)) pa_nil))) (fun _ _ => rfl)))) pss_nil)
    (pss_cons (ps_if (pt_val (pe_callB call_isiT (by rfl) T.n_isinstance (by decide +kernel) (pa_cons (pv 0) (pa_cons (pe_tup (pa_cons (pe_bltn (v := .ty "int") (by rfl) T.n_int (by decide +kernel) rfl) (pa_cons (pe_bltn (v := .ty "str") (by rfl) T.n_str (by decide +kernel) rfl) pa_nil))) pa_nil)))) (pss_one (ps_ret (pe_lst (pa_cons (pe_callB call_isi (by rfl) T.n_isinstance (by decide +kernel) (pa_cons (pv 0) (pa_cons (pe_bltn (v := .ty "str") (by rfl) T.n_str (by decide +kernel) rfl) pa_nil))) (pa_cons (pv 0) pa_nil))))) pss_nil)
    (pss_one (ps_ret pe_str))))), ?_⟩

        refine ⟨_, rfl, by show 2 ≤ sizeLine; decide, fun p hp => ?_⟩
        refine ⟨_, _, [.ty "tuple", .ty "list"], .type "str", _, _, rfl, upd_same, .cons (.ty "tuple") (.cons (.ty "list") .nil), (.base (.str _)), kit2 (r1 := false) (r2 := false) (by decide +kernel) (by decide +kernel), ?_⟩
        refine ⟨_, rfl, ?_⟩
        refine iteF ?_
        have s1 : Same H (upd H p (.tup [.ty "tuple", .ty "list"])) := Same.new hp

        refine ⟨_, rfl, rfl, _, rfl, ?_⟩
        refine iteF ?_
        refine ⟨_, rfl, _, .ty "bool", _, _, false, rfl, .ty "bool", .base (.str _), kit_ty (by decide +kernel), _, rfl, ?_⟩
        refine iteF ?_
        refine ⟨_, rfl, by show 2 ≤ sizeLine; decide, fun q hq => ?_⟩
        refine ⟨_, _, [.ty "int", .ty "str"], .type "str", _, _, rfl, upd_same, .cons (.ty "int") (.cons (.ty "str") .nil), (.base (.str _)), kit2 (r1 := false) (r2 := true) (by decide +kernel) (by decide +kernel), ?_⟩
        refine ⟨_, rfl, ?_⟩
        refine iteT ?_
        have s2 := s1.then_new (o := .tup [.ty "int", .ty "str"]) hq
        refine ⟨_, rfl, _, .ty "str", _, _, true, rfl, .ty "str", .base (.str _), kit_ty (by decide +kernel), ?_⟩
        refine ⟨_, rfl, by show 2 ≤ sizeLine; decide, fun l hl => ?_⟩
        refine k _ _ (s2.then_new hl) ?_
        simp only [plainD]
        exact .lst (s2.free hl) upd_same (.cons (.bl _) (.cons (.str _) .nil))
  intro n
  induction n with
  | zero => exact step 0 fun m e => by omega
  | succ n ih => exact step (n + 1) fun m e => by have : m = n := by omega
                                                  subst this
                                                  exact ih
theorem ok_c_law_plain {P : Program} {w : World} {K : PySem.W.Frag} {mg : Str → Option Value} {base : Heap} {a : Ad} (T : Txt K mg a) : FnOk P w K mg base (L2.CX P w) 5 a.f_c_law_plain a.d_c_law_plain ["value"] (sp_c_law_plain K 4) := ok_c_law_plain_n T 4

theorem ok_c_law_plus {P : Program} {w : World} {K : PySem.W.Frag} {mg : Str → Option Value} {base : Heap} {a : Ad} (T : Txt K mg a) : FnOk P w K mg base (L2.CX P w) 3 a.f_c_law_plus a.d_c_law_plus ["first", "second"] (sp_c_law_plus K) := by
  have G_c_law_fraction : FnOk P w K mg base (L2.CX P w) 2 a.f_c_law_fraction a.d_c_law_fraction ["above", "below"] (sp_c_law_fraction) := ok_c_law_fraction T
  refine T.F_c_law_plus.okX sc_c_law_plus (fun vs H Q E h => ?_) (fun cdv A outer s H vs Q E hr h => ?_)
  · rw [sp_c_law_plus_eq] at h
    walk_at "len"
  · rw [sp_c_law_plus_eq] at h
    obtain ⟨x, y, a1, b1, c1, d1, rfl, hx, hy, ha, hb, hc, hd, b0, d0, k⟩ := h
    refine ⟨_, (pss_one (ps_ret (pe_call G_c_law_fraction (hr.mono (by decide)) (by rfl) T.m_c_law_fraction T.F_c_law_fraction.kp T.b_c_law_fraction .nil passL (pa_cons (pe_op op_add (pe_op op_mulW (pe_ix ix_tup (pv 0) pe_int (fun _ _ => rfl)) (pe_ix ix_tup (pv 1) pe_int (fun _ _ => rfl))) (pe_op op_mulW (pe_ix ix_tup (pv 1) pe_int (fun _ _ => rfl)) (pe_ix ix_tup (pv 0) pe_int (fun _ _ => rfl)))) (pa_cons (pe_op op_mulW (pe_ix ix_tup (pv 0) pe_int (fun _ _ => rfl)) (pe_ix ix_tup (pv 1) pe_int (fun _ _ => rfl))) pa_nil))))), ?_⟩
    have mx : ∀ {i j : Int}, i.natAbs < 2 ^ 1000 → j.natAbs < 2 ^ 1000 → CMulW i j := fun h1 h2 => wide_mul h1 h2 (by decide) (by decide) (by decide)
    refine ⟨_, rfl, x, _, _, _, rfl, rfl, hx, rfl, ?_⟩
    refine ⟨_, rfl, y, _, _, _, rfl, rfl, hy, rfl, _, _, rfl, rfl, mx ha hd, ?_⟩
    refine ⟨_, rfl, y, _, _, _, rfl, rfl, hy, rfl, ?_⟩
    refine ⟨_, rfl, x, _, _, _, rfl, rfl, hx, rfl, _, _, rfl, rfl, mx hc hb, _, _, rfl, rfl, ?_⟩
    refine ⟨_, rfl, x, _, _, _, rfl, rfl, hx, rfl, ?_⟩
    refine ⟨_, rfl, y, _, _, _, rfl, rfl, hy, rfl, _, _, rfl, rfl, mx hb hd, ?_⟩
    have hbd : 0 < b1 * d1 := Int.mul_pos b0 d0
    exact ⟨_, _, rfl, Nat.lt_of_lt_of_le (wide_lt hb hd) (Nat.pow_le_pow_right (by decide) (by decide)), fun z => absurd z (by omega), fun p hp => k p _ hp (Same.new hp) upd_same⟩
theorem ok_c_law_squares {P : Program} {w : World} {K : PySem.W.Frag} {mg : Str → Option Value} {base : Heap} {a : Ad} (T : Txt K mg a) : FnOk P w K mg base (L2.CX P w) 4 a.f_c_law_squares a.d_c_law_squares ["values", "height", "slope"] (sp_c_law_squares K) := by
  have G_c_law_plus : FnOk P w K mg base (L2.CX P w) 3 a.f_c_law_plus a.d_c_law_plus ["first", "second"] (sp_c_law_plus K) := ok_c_law_plus T
  refine T.F_c_law_squares.okX sc_c_law_squares (fun vs H Q E h => ?_) (fun cdv A outer s H vs Q E hr h => ?_)
  · rw [sp_c_law_squares_eq] at h
    walk_at "len"
  · rw [sp_c_law_squares_eq] at h
    obtain ⟨q, x, y, ns, a1, b1, c1, d1, X, Y, Z, rfl, hq, hs, hx, hy, b0, d0, Z0, e1, e2, ha, hb, hc, hd, hX, hY, hZ, k⟩ := h
    refine ⟨_, (pss_cons (ps_set (i := 3) sc_c_law_squares.nd (by rfl) (Or.inl rfl) (pe_tup (pa_cons pe_int (pa_cons pe_int pa_nil))))
    (pss_cons (ps_for (passes_of rfl) rfl (pi_range1 (by rfl) T.n_range (pa_cons (pe_callB call_len_seq (by rfl) T.n_len (by decide +kernel) (pa_cons (pv 0) pa_nil)) pa_nil)) (pg_name (i := 4) sc_c_law_squares.nd (by rfl) (Or.inl rfl)) (pss_cons (ps_set (i := 5) sc_c_law_squares.nd (by rfl) (Or.inl rfl) (pe_call G_c_law_plus (hr.mono (by decide)) (by rfl) T.m_c_law_plus T.F_c_law_plus.kp T.b_c_law_plus .nil passL (pa_cons (pe_call G_c_law_plus (hr.mono (by decide)) (by rfl) T.m_c_law_plus T.F_c_law_plus.kp T.b_c_law_plus .nil passL (pa_cons (pv 1) (pa_cons (pe_tup (pa_cons (pe_op op_mulW (pv 4) (pe_ix ix_tup (pv 2) pe_int (fun _ _ => rfl))) (pa_cons (pe_ix ix_tup (pv 2) pe_int (fun _ _ => rfl)) pa_nil))) pa_nil))) (pa_cons (pe_tup (pa_cons (pe_un un_neg (pe_ix ix_list (pv 0) (pv 4) (fun _ _ => rfl))) (pa_cons pe_int pa_nil))) pa_nil))))
    (pss_one (ps_set (i := 3) sc_c_law_squares.nd (by rfl) (Or.inl rfl) (pe_call G_c_law_plus (hr.mono (by decide)) (by rfl) T.m_c_law_plus T.F_c_law_plus.kp T.b_c_law_plus .nil passL (pa_cons (pv 3) (pa_cons (pe_tup (pa_cons (pe_op op_mulW (pe_ix ix_tup (pv 5) pe_int (fun _ _ => rfl)) (pe_ix ix_tup (pv 5) pe_int (fun _ _ => rfl))) (pa_cons (pe_op op_mulW (pe_ix ix_tup (pv 5) pe_int (fun _ _ => rfl)) (pe_ix ix_tup (pv 5) pe_int (fun _ _ => rfl))) pa_nil))) pa_nil)))))))
    (pss_one (ps_ret (pv 3))))), ?_⟩
    have el : (ns.map V.int).length = ns.length := List.length_map _
    obtain ⟨hl10, hsm⟩ := id hs
    have hZZ : 0 < Z * Z := Int.mul_pos Z0 Z0
    let gg : Nat → Int := fun i => X + i * Y - xf ns i * Z
    have gb : ∀ i : Nat, i < ns.length → (gg i).natAbs < 2 ^ 205 := fun i hi => by
      have a := wide_lt (a := 4) (b := 200) (i := (i : Int)) (j := Y) (by omega) hY
      have b := wide_lt (xf_b hs i) hZ
      show (X + i * Y - xf ns i * Z).natAbs < 2 ^ 205
      omega
    have sb : ∀ i : Nat, i ≤ ns.length → (sm i fun i => gg i * gg i).natAbs < 2 ^ 420 := fun i hi => by
      have := sm_bound (n := i) (M := 2 ^ 410) (f := fun i => gg i * gg i) fun j hj => by
        exact Nat.le_of_lt (wide_lt (gb j (by omega)) (gb j (by omega)))
      have : i * 2 ^ 410 ≤ 10 * 2 ^ 410 := Nat.mul_le_mul_right _ (by omega)
      have e : (10 : Nat) * 2 ^ 410 < 2 ^ 420 := by decide
      omega
    refine ⟨by show 2 ≤ sizeLine; decide, fun t0 ht0 => ?_⟩
    have f0 : fr 0 (Z * Z) = (0, 1) := by
      obtain ⟨a, b⟩ := fr_zero hZZ
      unfold fr
      rw [a, b]
    refine ⟨_, rfl, q, _, rfl, .inl ((Same.new ht0).seq hq), ?_⟩
    rw [el]
    refine ⟨_, rfl, by omega, by omega, for_range (lo := 0) (n := ns.length) (fun i σ H' => ∃ (t : Addr) (v4 v5 : Option V), σ = [some (.ref q), some (.ref x), some (.ref y), some (.ref t), v4, v5] ∧ Same H H' ∧ H t = none ∧ H' t = some (tupP (fr (sm i fun i => gg i * gg i) (Z * Z)))) ?_ ?_ ?_⟩
    · refine ⟨t0, none, none, rfl, Same.new ht0, ht0, ?_⟩
      rw [sm_zero, f0]
      exact upd_same
    · rintro i σ H1 hi ⟨t, v4, v5, rfl, s1, ht, hT⟩
      have ei : (0 + (i : Int)) = i := Int.zero_add _
      rw [ei]
      obtain ⟨v1, v2, v3⟩ := fr_val (x := X + i * Y) Z0
      have v4' := fr_le (x := X + i * Y) Z0
      have i4 : (i : Int).natAbs < 2 ^ 4 := by omega
      have wiY := wide_lt i4 hY
      have xi : (ns.map V.int)[i]? = some (.int (xf ns i)) := by
        unfold xf
        rw [List.getElem?_map, List.getD_eq_getElem?_getD, List.getElem?_eq_getElem hi]
        rfl
      have ey : (i : Int) * c1 * Z = i * Y * d1 := by rw [Int.mul_assoc, e2, Int.mul_assoc]
      refine ⟨_, rfl, ?_⟩
      refine ⟨_, rfl, _, rfl, y, _, _, _, rfl, rfl, s1.tup hy, rfl, _, _, rfl, rfl, wide_mul i4 hc (by decide) (by decide) (by decide), ?_⟩
      refine ⟨_, rfl, y, _, _, _, rfl, rfl, s1.tup hy, rfl, by show 2 ≤ sizeLine; decide, fun t1 ht1 => ?_⟩
      have s2 := Same.new (o := .tup [.int (i * c1), .int d1]) ht1
      refine plus_use (X := X) (Y := i * Y) (Z := Z) (s2.tup (s1.tup hx)) (SqT.of upd_same) b0 d0 Z0 e1 ey (up_b ha (by decide)) (up_b hb (by decide)) (up_b (wide_lt i4 hc) (by decide)) (up_b hd (by decide)) fun p1 H2 hp1 s3 h3 => ?_
      have sA := (s1.trans s2).trans s3
      refine ⟨_, rfl, _, rfl, q, _, _, _, rfl, rfl, sA.seq hq, atI_nat xi, _, rfl, by show 2 ≤ sizeLine; decide, fun t2 ht2 => ?_⟩
      have s4 := Same.new (o := .tup [.int (-xf ns i), .int 1]) ht2
      have xb := xf_b hs i
      have nB : (frB (X + i * Y) Z).natAbs < 2 ^ 30 := by omega
      have A200 : (X + i * Y).natAbs < 2 ^ 206 := by omega
      refine plus_use (X := X + i * Y) (Y := -(xf ns i * Z)) (Z := Z) (SqT.of (s4 _ _ h3)) (SqT.of upd_same) v2 (by decide) Z0 v1 (by grind) (up_b (Nat.lt_of_le_of_lt v4' A200) (by decide)) (up_b nB (by decide)) (up_b (a := 140) (by omega) (by decide)) (up_b (a := 1) (by decide) (by decide)) fun p2 H3 hp2 s5 h5 => ?_
      have eg : X + i * Y + -(xf ns i * Z) = gg i := by show _ = X + i * Y - xf ns i * Z; omega
      rw [eg] at h5
      have sB := (sA.trans s4).trans s5
      obtain ⟨g1, g2, g3⟩ := fr_val (x := gg i) Z0
      have g4 := fr_le (x := gg i) Z0
      have gbi := gb i hi
      obtain ⟨y1, y2, y3⟩ := fr_val (x := sm i fun i => gg i * gg i) hZZ
      have y4 := fr_le (x := sm i fun i => gg i * gg i) hZZ
      have sbi := sb i (by omega)
      have ZZb : (Z * Z).natAbs < 2 ^ 60 := wide_lt hZ hZ
      have nS : (frB (sm i fun i => gg i * gg i) (Z * Z)).natAbs < 2 ^ 60 := by omega
      have gA : (frA (gg i) Z).natAbs < 2 ^ 205 := by omega
      have gB : (frB (gg i) Z).natAbs < 2 ^ 30 := by omega
      refine ⟨_, rfl, ?_⟩
      refine ⟨_, rfl, p2, _, _, _, rfl, rfl, SqT.of h5, rfl, _, rfl, p2, _, _, _, rfl, rfl, SqT.of h5, rfl, _, _, rfl, rfl, wide_mul gA gA (by decide) (by decide) (by decide), ?_⟩
      refine ⟨_, rfl, p2, _, _, _, rfl, rfl, SqT.of h5, rfl, _, rfl, p2, _, _, _, rfl, rfl, SqT.of h5, rfl, _, _, rfl, rfl, wide_mul gB gB (by decide) (by decide) (by decide), ?_⟩
      refine ⟨by show 2 ≤ sizeLine; decide, fun t3 ht3 => ?_⟩
      have s6 := Same.new (o := .tup [.int (frA (gg i) Z * frA (gg i) Z), .int (frB (gg i) Z * frB (gg i) Z)]) ht3
      have hT3 := s6 _ _ (s5 _ _ (s4 _ _ (s3 _ _ (s2 _ _ hT))))
      have sq : frA (gg i) Z * frA (gg i) Z * (Z * Z) = gg i * gg i * (frB (gg i) Z * frB (gg i) Z) := by grind
      refine plus_use (X := sm i fun i => gg i * gg i) (Y := gg i * gg i) (Z := Z * Z) (SqT.of hT3) (SqT.of upd_same) y2 (Int.mul_pos g2 g2) hZZ y1 sq (up_b (Nat.lt_of_le_of_lt y4 sbi) (by decide)) (up_b nS (by decide)) (up_b (wide_lt gA gA) (by decide)) (up_b (wide_lt gB gB) (by decide)) fun p3 H4 hp3 s7 h7 => ?_
      have sC := (sB.trans s6).trans s7
      refine ⟨p3, _, _, rfl, sC, (sB.trans s6).free hp3, ?_⟩
      rw [sm_succ]
      exact h7
    · rintro σ H1 ⟨t, v4, v5, rfl, s1, ht, hT⟩
      exact ⟨_, rfl, k _ _ ht s1 hT⟩
theorem ok_c_InvalidTable_init {P : Program} {w : World} {K : PySem.W.Frag} {mg : Str → Option Value} {base : Heap} {a : Ad} (T : Txt K mg a) : FnOk P w K mg base (L2.CX P w) 1 a.f_c_InvalidTable_init a.d_c_InvalidTable_init ["self", "what"] (sp_exinit a.C_InvalidTable) := by
  refine T.F_c_InvalidTable_init.okX sc_c_InvalidTable_init (fun vs H Q E h => ?_) (fun cdv A outer s H vs Q E hr h => ?_)
  · walk_at "len"
  · obtain ⟨x, wd, rfl, hx, hl, k⟩ := h
    refine ⟨_, (pss_cons (ps_expr (pe_binit T.bc_SlotError (by rfl) T.m_SlotError (pa_cons (pv 0) (pa_cons (pe_op op_add_str pe_str (pv 1)) pa_nil))))
    (pss_one (ps_ost (pv 0) (pv 1)))), ?_⟩
    refine ⟨_, rfl, _, rfl, _, _, rfl, rfl, by have := small1000000 (n := 1000) (by decide); show _ + wd.length ≤ _; exact Nat.le_of_lt (Nat.lt_of_le_of_lt (Nat.add_le_add_left hl _) (small1000000 (by decide +kernel))), ?_⟩
    refine ⟨x, _, _, rfl, by show 1 ≤ 1000; decide, T.ox_InvalidTable, hx, ?_⟩
    refine ⟨_, rfl, _, rfl, x, _, rfl, T.ox_InvalidTable, T.no_InvalidTable_what, .inl ⟨hx, fun dx n ne => k dx n ne⟩⟩
theorem ok_c_InvalidMoney_init {P : Program} {w : World} {K : PySem.W.Frag} {mg : Str → Option Value} {base : Heap} {a : Ad} (T : Txt K mg a) : FnOk P w K mg base (L2.CX P w) 1 a.f_c_InvalidMoney_init a.d_c_InvalidMoney_init ["self", "what"] (sp_exinit a.C_InvalidMoney) := by
  refine T.F_c_InvalidMoney_init.okX sc_c_InvalidMoney_init (fun vs H Q E h => ?_) (fun cdv A outer s H vs Q E hr h => ?_)
  · walk_at "len"
  · obtain ⟨x, wd, rfl, hx, hl, k⟩ := h
    refine ⟨_, (pss_cons (ps_expr (pe_binit T.bc_SlotError (by rfl) T.m_SlotError (pa_cons (pv 0) (pa_cons (pe_op op_add_str pe_str (pv 1)) pa_nil))))
    (pss_one (ps_ost (pv 0) (pv 1)))), ?_⟩
    refine ⟨_, rfl, _, rfl, _, _, rfl, rfl, by have := small1000000 (n := 1000) (by decide); show _ + wd.length ≤ _; exact Nat.le_of_lt (Nat.lt_of_le_of_lt (Nat.add_le_add_left hl _) (small1000000 (by decide +kernel))), ?_⟩
    refine ⟨x, _, _, rfl, by show 1 ≤ 1000; decide, T.ox_InvalidMoney, hx, ?_⟩
    refine ⟨_, rfl, _, rfl, x, _, rfl, T.ox_InvalidMoney, T.no_InvalidMoney_what, .inl ⟨hx, fun dx n ne => k dx n ne⟩⟩
theorem ok_c_fraction {P : Program} {w : World} {K : PySem.W.Frag} {mg : Str → Option Value} {base : Heap} {a : Ad} (T : Txt K mg a) : FnOk P w K mg base (L2.CX P w) 3 a.f_c_fraction a.d_c_fraction ["above", "below"] (sp_c_fraction a.C_InvalidMoney) := by
  have G_c_InvalidMoney_init : FnOk P w K mg base (L2.CX P w) 1 a.f_c_InvalidMoney_init a.d_c_InvalidMoney_init ["self", "what"] (sp_exinit a.C_InvalidMoney) := ok_c_InvalidMoney_init T
  refine T.F_c_fraction.okX sc_c_fraction (fun vs H Q E h => ?_) (fun cdv A outer s H vs Q E hr h => ?_)
  · walk_at "len"
  · obtain ⟨x, y, rfl, hy, k0, k1⟩ := h
    refine ⟨_, (pss_cons (ps_if (pt_cmpR op_eq (pv 1) pe_int (nomark _)) (pss_one (ps_raise rfl (takes_of rfl rfl rfl rfl) (pmk_oex T.ox_InvalidMoney T.in_InvalidMoney T.ti_InvalidMoney G_c_InvalidMoney_init (hr.mono (by decide)) T.b_c_InvalidMoney_init .nil passL (by rfl) T.m_InvalidMoney (pa_cons pe_str pa_nil)))) pss_nil)
    (pss_cons (ps_set (i := 2) sc_c_fraction.nd (by rfl) (Or.inl rfl) (pe_callBfun cr_gcd (by rfl) T.i_gcd (pa_cons (pv 0) (pa_cons (pv 1) pa_nil))))
    (pss_cons (ps_if (pt_cmpR op_lt (pv 1) pe_int (nomark _)) (pss_one (ps_set (i := 2) sc_c_fraction.nd (by rfl) (Or.inl rfl) (pe_un un_neg (pv 2)))) pss_nil)
    (pss_one (ps_ret (pe_tup (pa_cons (pe_op op_fdivZ (pv 0) (pv 2)) (pa_cons (pe_op op_fdivZ (pv 1) (pv 2)) pa_nil)))))))), ?_⟩
    refine ⟨_, rfl, rfl, _, rfl, ?_⟩
    refine ite2 (fun c => ?_) (fun c => ?_)
    · have c' : y = 0 := by simpa using c
      exact ⟨by show 1 ≤ 1000; decide, raise_ok (k0 c') (by decide +kernel)⟩
    · have c' : y ≠ 0 := by simpa using c
      refine ⟨_, rfl, _, rfl, _, _, rfl, ?_⟩
      refine ⟨_, rfl, _, _, rfl, rfl, _, rfl, ?_⟩
      have kk := k1 c'
      unfold frA frB frC at kk
      refine ite2 (fun n => ?_) (fun n => ?_)
      · have n' : y < 0 := by simpa using n
        rw [if_pos n'] at kk
        refine ⟨_, rfl, _, rfl, ?_⟩
        exact ⟨_, rfl, _, rfl, _, _, rfl, rfl, (gcd_cdiv x c' hy).2, _, rfl, _, rfl, _, _, rfl, rfl, (gcd_cdiv y c' hy).2, by show 2 ≤ sizeLine; decide, kk⟩
      · have n' : ¬ y < 0 := by simpa using n
        rw [if_neg n'] at kk
        exact ⟨_, rfl, _, rfl, _, _, rfl, rfl, (gcd_cdiv x c' hy).1, _, rfl, _, rfl, _, _, rfl, rfl, (gcd_cdiv y c' hy).1, by show 2 ≤ sizeLine; decide, kk⟩
theorem ok_c_line_through {P : Program} {w : World} {K : PySem.W.Frag} {mg : Str → Option Value} {base : Heap} {a : Ad} (T : Txt K mg a) : FnOk P w K mg base (L2.CX P w) 4 a.f_c_line_through a.d_c_line_through ["values"] (sp_c_line_through K a.C_InvalidTable) := by
  have G_c_InvalidTable_init : FnOk P w K mg base (L2.CX P w) 1 a.f_c_InvalidTable_init a.d_c_InvalidTable_init ["self", "what"] (sp_exinit a.C_InvalidTable) := ok_c_InvalidTable_init T
  have G_c_fraction : FnOk P w K mg base (L2.CX P w) 3 a.f_c_fraction a.d_c_fraction ["above", "below"] (sp_c_fraction a.C_InvalidMoney) := ok_c_fraction T
  refine T.F_c_line_through.okX sc_c_line_through (fun vs H Q E h => ?_) (fun cdv A outer s H vs Q E hr h => ?_)
  · rw [sp_c_line_through_eq] at h
    walk_at "len"
  · rw [sp_c_line_through_eq] at h
    obtain ⟨q, ns, rfl, hq, hs, k0, k1⟩ := h
    refine ⟨_, (pss_cons (ps_set (i := 1) sc_c_line_through.nd (by rfl) (Or.inl rfl) (pe_callB call_len_seq (by rfl) T.n_len (by decide +kernel) (pa_cons (pv 0) pa_nil)))
    (pss_cons (ps_if (pt_cmpR op_lt (pv 1) pe_int (nomark _)) (pss_one (ps_raise rfl (takes_of rfl rfl rfl rfl) (pmk_oex T.ox_InvalidTable T.in_InvalidTable T.ti_InvalidTable G_c_InvalidTable_init (hr.mono (by decide)) T.b_c_InvalidTable_init .nil passL (by rfl) T.m_InvalidTable (pa_cons pe_str pa_nil)))) pss_nil)
    (pss_cons (ps_set (i := 2) sc_c_line_through.nd (by rfl) (Or.inl rfl) (pe_op op_fdiv (pe_op op_mulW (pv 1) (pe_op op_sub (pv 1) pe_int)) pe_int))
    (pss_cons (ps_set (i := 3) sc_c_line_through.nd (by rfl) (Or.inl rfl) (pe_op op_fdiv (pe_op op_mulW (pe_op op_mulW (pe_op op_sub (pv 1) pe_int) (pv 1)) (pe_op op_sub (pe_op op_mulW pe_int (pv 1)) pe_int)) pe_int))
    (pss_cons (ps_set (i := 4) sc_c_line_through.nd (by rfl) (Or.inl rfl) (pe_callB (cr_sum rfl) (by rfl) T.n_sum (by decide +kernel) (pa_cons (pe_lcK (own := [("at", 9), ("value", 10)]) (by rfl) sc_c_line_through.nd (pi_enum (by rfl) T.n_enumerate (pa_cons (pv 0) pa_nil)) (blkOk_by (own := [("at", 9), ("value", 10)]) (N := ["values", "many", "places", "squares", "both", "total", "below", "slope", "height", "at", "value"]) (sc := defScope st_c_line_through) (by decide +kernel)) (fun _ _ _ _ _ => (pg_tup (n := 2) (by rfl) (pgs_cons (pg_name (i := 9) sc_c_line_through.nd (by rfl) (by first | exact Or.inl rfl | exact Or.inr rfl)) (pgs_cons (pg_name (i := 10) sc_c_line_through.nd (by rfl) (by first | exact Or.inl rfl | exact Or.inr rfl)) pgs_nil)))) (fun _ _ _ _ _ => pts_nil) (fun _ _ _ _ _ => (pe_op op_mulW (pv 9) (pv 10))) (by walk_at "blk") (by walk_at "blk") (by walk_at "blk")) pa_nil)))
    (pss_cons (ps_set (i := 5) sc_c_line_through.nd (by rfl) (Or.inl rfl) (pe_callB (cr_sum rfl) (by rfl) T.n_sum (by decide +kernel) (pa_cons (pv 0) pa_nil)))
    (pss_cons (ps_set (i := 6) sc_c_line_through.nd (by rfl) (Or.inl rfl) (pe_op op_sub (pe_op op_mulW (pv 1) (pv 3)) (pe_op op_mulW (pv 2) (pv 2))))
    (pss_cons (ps_set (i := 7) sc_c_line_through.nd (by rfl) (Or.inl rfl) (pe_callS G_c_fraction (hr.mono (by decide)) (by rfl) T.m_c_fraction T.F_c_fraction.kp T.b_c_fraction (fun σ => passAt (takes_of rfl rfl rfl rfl) σ) (pa_cons (pe_op op_sub (pe_op op_mulW (pv 1) (pv 4)) (pe_op op_mulW (pv 2) (pv 5))) (pa_cons (pv 6) pa_nil))))
    (pss_cons (ps_set (i := 8) sc_c_line_through.nd (by rfl) (Or.inl rfl) (pe_callS G_c_fraction (hr.mono (by decide)) (by rfl) T.m_c_fraction T.F_c_fraction.kp T.b_c_fraction (fun σ => passAt (takes_of rfl rfl rfl rfl) σ) (pa_cons (pe_op op_sub (pe_op op_mulW (pv 5) (pv 3)) (pe_op op_mulW (pv 2) (pv 4))) (pa_cons (pv 6) pa_nil))))
    (pss_one (ps_ret (pe_tup (pa_cons (pv 8) (pa_cons (pv 7) pa_nil)))))))))))))), ?_⟩
    have el : (ns.map V.int).length = ns.length := List.length_map _
    obtain ⟨hl10, hsm⟩ := id hs
    refine ⟨_, rfl, q, _, rfl, .inl hq, ?_⟩
    rw [el]
    refine ⟨_, rfl, _, _, rfl, rfl, _, rfl, ?_⟩
    refine ite2 (fun c => ?_) (fun c => ?_)
    · have c' : (ns.length : Int) < 2 := of_decide_eq_true c
      exact ⟨by show 1 ≤ 1000; decide, raise_ok (k0 (by omega)) (by decide +kernel)⟩
    have c' : ¬ (ns.length : Int) < 2 := fun z => c (decide_eq_true z)
    have k1 := k1 (by omega)
    obtain ⟨t1, t2, t3⟩ := s_all hl10
    obtain ⟨u1, u2⟩ := s_small hl10
    have nb : (ns.length : Int).natAbs < 2 ^ 4 := by omega
    have nb1 : ((ns.length : Int) - 1).natAbs < 2 ^ 4 := by omega
    refine ⟨_, rfl, _, rfl, _, _, rfl, rfl, _, _, rfl, rfl, wide_mul nb nb1 (by decide) (by decide) (by decide), _, _, rfl, rfl, ⟨by decide, by decide⟩, ?_⟩
    have w1 : (((ns.length : Int) - 1) * ns.length).natAbs < 2 ^ 8 := wide_lt nb1 nb
    have w2 : ((2 : Int) * ns.length - 1).natAbs < 2 ^ 6 := by omega
    refine ⟨_, rfl, _, _, rfl, rfl, _, rfl, _, _, rfl, rfl, wide_mul nb1 nb (by decide) (by decide) (by decide), ?_⟩
    refine ⟨_, rfl, _, _, rfl, rfl, wide_mul (a := 2) (b := 4) (by decide) nb (by decide) (by decide) (by decide), _, _, rfl, rfl, _, _, rfl, rfl, wide_mul w1 w2 (by decide) (by decide) (by decide), _, _, rfl, rfl, ⟨by decide, by decide⟩, ?_⟩
    have e1 : (fun i j : Int => V.int (i / j)) ((ns.length : Int) * (ns.length - 1)) 2 = V.int (sm ns.length idn) := by rw [t2]
    have e2 : (fun i j : Int => V.int (i / j)) (((ns.length : Int) - 1) * ns.length * (2 * ns.length - 1)) 6 = V.int (sm ns.length sqn) := by rw [t3]
    rw [e1, e2]
    refine ⟨_, rfl, q, _, rfl, hq, fun E1 hE1 => ?_⟩
    refine lc_fn walk_enum (fun i => some (.int (idn i * xf ns i))) (by rw [List.length_map]; omega) hE1 (fun H s => s.seq hq) ?_ ?_
    · rintro i x H3 H4 R N hi s3 ⟨T, x1, x2, rfl, hT, rfl, hx1, hx2⟩ hR hN
      obtain ⟨z, hz, rfl⟩ := ints_get hx2
      cases hx1
      rw [el] at hi
      have hz1 := hsm z (List.mem_of_getElem? hz)
      refine ⟨T, _, rfl, SqT.of upd_same, rfl, _, _, rfl, _, _, rfl, rfl, rfl, ?_⟩
      refine ⟨_, rfl, _, rfl, _, _, rfl, rfl, wide_mul (a := 20) (b := 140) (by omega) hz1 (by decide) (by decide) (by decide), hR _ _ ?_ (Same.new hT)⟩
      unfold idn xf
      rw [List.getD_eq_getElem?_getD, hz]
      rfl
    intro H1 s1 hE
    rw [fm_some, el] at hE
    refine ⟨E1, (List.range ns.length).map fun i => idn i * xf ns i, rfl, SqL.of (by rw [hE, List.map_map]; rfl), ?_⟩
    have e3 : ((List.range ns.length).map fun i => idn i * xf ns i).sum = pp ns.length (xf ns) := rfl
    rw [e3]
    refine ⟨_, rfl, q, ns, rfl, s1.seq hq, ?_⟩
    rw [show ns.sum = tt ns.length (xf ns) from sum_sm ns]
    have u3 := pp_b hs
    have u4 := tt_b hs
    obtain ⟨b0, b1⟩ := bb_pos (n := ns.length) (by omega) hl10
    refine ⟨_, rfl, _, rfl, _, _, rfl, rfl, wide_mul nb u2 (by decide) (by decide) (by decide), _, rfl, _, rfl, _, _, rfl, rfl, wide_mul u1 u1 (by decide) (by decide) (by decide), _, _, rfl, rfl, ?_⟩
    have e5 : (fun i j : Int => V.int (i - j)) ((ns.length : Int) * sm ns.length sqn) (sm ns.length idn * sm ns.length idn) = V.int (bb ns.length) := rfl
    rw [e5]
    refine ⟨_, rfl, _, rfl, _, _, rfl, rfl, wide_mul nb u3 (by decide) (by decide) (by decide), _, rfl, _, rfl, _, _, rfl, rfl, wide_mul u1 u4 (by decide) (by decide) (by decide), _, _, rfl, rfl, _, rfl, ?_⟩
    have bB : (bb ns.length).natAbs < 2 ^ 8000 := Nat.lt_of_lt_of_le (show _ < 2 ^ 10 by omega) (Nat.pow_le_pow_right (by decide) (by decide))
    refine ⟨_, _, rfl, bB, fun z => absurd z (by omega), fun _ y hy => ?_⟩
    have s2 := Same.new (o := .tup [.int (frA (sl ns.length (xf ns)) (bb ns.length)), .int (frB (sl ns.length (xf ns)) (bb ns.length))]) hy
    refine ⟨_, rfl, _, rfl, _, _, rfl, rfl, wide_mul u4 u2 (by decide) (by decide) (by decide), _, rfl, _, rfl, _, _, rfl, rfl, wide_mul u1 u3 (by decide) (by decide) (by decide), _, _, rfl, rfl, _, rfl, ?_⟩
    refine ⟨_, _, rfl, bB, fun z => absurd z (by omega), fun _ x hx => ?_⟩
    have s3 := Same.new (o := .tup [.int (frA (ht ns.length (xf ns)) (bb ns.length)), .int (frB (ht ns.length (xf ns)) (bb ns.length))]) hx
    refine ⟨_, rfl, _, rfl, by show 2 ≤ sizeLine; decide, fun p hp => ?_⟩
    have s4 := Same.new (o := .tup [.ref x, .ref y]) hp
    exact k1 _ p x y (((s1.trans s2).trans s3).trans s4) (s4 _ _ upd_same) (s4 _ _ (s3 _ _ upd_same)) upd_same
theorem ok_c_law_why {P : Program} {w : World} {K : PySem.W.Frag} {mg : Str → Option Value} {base : Heap} {a : Ad} (T : Txt K mg a) : FnOk P w K mg base (L2.CX P w) 5 a.f_c_law_why a.d_c_law_why ["values"] (sp_c_law_why K) := by
  have G_c_line_through : FnOk P w K mg base (L2.CX P w) 4 a.f_c_line_through a.d_c_line_through ["values"] (sp_c_line_through K a.C_InvalidTable) := ok_c_line_through T
  refine T.F_c_law_why.okX sc_c_law_why (fun vs H Q E h => ?_) (fun cdv A outer s H vs Q E hr h => ?_)
  · rw [sp_c_law_why_eq] at h
    walk_at "len"
  · rw [sp_c_law_why_eq] at h
    obtain ⟨q, ns, rfl, hq, hs, hl, k⟩ := h
    refine ⟨_, (pss_cons (ps_try_as (i := 1) (Wout := fun _ _ _ _ => False) rfl rfl sc_c_law_why.nd (by rfl) (by rfl) ⟨by rfl, by decide, .inl T.m_SlotError⟩ takes0
    (fun W pn xe tk po => (pss_one (ps_expr (pe_callS G_c_line_through (hr.mono (by decide)) (by rfl) T.m_c_line_through T.F_c_line_through.kp T.b_c_line_through (fun σ => passAt tk σ) (pa_cons (pv 0) pa_nil)))))
    (fun ae oe cls dx pn hz hf => (pss_one (ps_ret (pe_and (pe_callB (call_isX hz hf) (by rfl) T.n_isinstance (by decide +kernel) (pa_cons (pv 1) (pa_cons (pe_glob (v := .ref a.C_InvalidTable) (by rfl) T.m_InvalidTable rfl) pa_nil))) (pe_and (pe_not (pe_callB (call_isX hz hf) (by rfl) T.n_isinstance (by decide +kernel) (pa_cons (pv 1) (pa_cons (pe_glob (v := .ref a.C_InvalidTime) (by rfl) T.m_InvalidTime rfl) pa_nil)))) (pe_one (pe_cmpR op_eq (pe_xf T.xf_InvalidTable T.no_InvalidTable_what hz hf (pv 1)) pe_str (nomark _)))))))))
    (pss_one (ps_ret pe_bl))), ?_⟩
    refine ⟨_, rfl, sp_c_line_through_use ⟨q, ns, rfl, hq, hs, fun z => ?_, fun z => absurd z (by omega)⟩⟩
    intro d H' s1 hd
    refine ⟨true, T.em_InvalidTable_SlotError, fun _ ae _ => ?_, fun z => nomatch z⟩
    refine ⟨_, rfl, _, _, true, d, _, rfl, rfl, T.is_InvalidTable, rfl, hd, T.kt_InvalidTable_InvalidTable, true, rfl, ?_⟩
    refine ⟨_, rfl, _, _, false, d, _, rfl, rfl, T.is_InvalidTable, rfl, hd, T.kt_InvalidTable_InvalidTime, false, rfl, true, rfl, ?_⟩
    refine ⟨_, rfl, rfl, rfl, d, _, _, rfl, hd, rfl, rfl, ?_⟩
    have e : decide (V.str "values" = V.str "values") = true := by decide +kernel
    rw [e]
    exact k H' s1
theorem ok_c_law {P : Program} {w : World} {K : PySem.W.Frag} {mg : Str → Option Value} {base : Heap} {a : Ad} (T : Txt K mg a) : FnOk P w K mg base (L2.CX P w) 6 a.f_c_law a.d_c_law ["script"] (sp_c_law K) := by
  have G_c_law_deck : FnOk P w K mg base (L2.CX P w) 1 a.f_c_law_deck a.d_c_law_deck ["script", "cells", "each"] (sp_c_law_deck K) := ok_c_law_deck T
  have G_c_law_fraction : FnOk P w K mg base (L2.CX P w) 2 a.f_c_law_fraction a.d_c_law_fraction ["above", "below"] (sp_c_law_fraction) := ok_c_law_fraction T
  have G_c_law_number : FnOk P w K mg base (L2.CX P w) 2 a.f_c_law_number a.d_c_law_number ["deck"] (sp_c_law_number) := ok_c_law_number T
  have G_c_law_plain : FnOk P w K mg base (L2.CX P w) 5 a.f_c_law_plain a.d_c_law_plain ["value"] (sp_c_law_plain K 4) := ok_c_law_plain T
  have G_c_law_plus : FnOk P w K mg base (L2.CX P w) 3 a.f_c_law_plus a.d_c_law_plus ["first", "second"] (sp_c_law_plus K) := ok_c_law_plus T
  have G_c_law_squares : FnOk P w K mg base (L2.CX P w) 4 a.f_c_law_squares a.d_c_law_squares ["values", "height", "slope"] (sp_c_law_squares K) := ok_c_law_squares T
  have G_c_law_take : FnOk P w K mg base (L2.CX P w) 1 a.f_c_law_take a.d_c_law_take ["deck", "many"] (sp_c_law_take) := ok_c_law_take T
  have G_c_law_why : FnOk P w K mg base (L2.CX P w) 5 a.f_c_law_why a.d_c_law_why ["values"] (sp_c_law_why K) := ok_c_law_why T
  have G_c_line_through : FnOk P w K mg base (L2.CX P w) 4 a.f_c_line_through a.d_c_line_through ["values"] (sp_c_line_through K a.C_InvalidTable) := ok_c_line_through T
  refine T.F_c_law.okX sc_c_law (fun vs H Q E h => ?_) (fun cdv A outer s H vs Q E hr h => ?_)
  · walk_at "len"
  · obtain ⟨sa, ns, rfl, hS, hlen, k⟩ := h
    refine ⟨_, (pss_cons (ps_set (i := 1) sc_c_law.nd (by rfl) (Or.inr rfl) (pe_call G_c_law_deck (hr.mono (by decide)) (by rfl) T.m_c_law_deck T.F_c_law_deck.kp T.b_c_law_deck .nil passL (pa_cons (pv 0) (pa_cons pe_int (pa_cons pe_int pa_nil)))))
    (pss_cons (ps_set (i := 2) sc_c_law.nd (by rfl) (Or.inl rfl) (pe_op op_add pe_int (pe_call G_c_law_take (hr.mono (by decide)) (by rfl) T.m_c_law_take T.F_c_law_take.kp T.b_c_law_take .nil passL (pa_cons (pv 1) (pa_cons pe_int pa_nil)))))
    (pss_cons (ps_setLcK (i := 3) (own := [("turn", 19)]) (by rfl) sc_c_law.nd (by rfl) (by rfl) (sw_true rfl rfl rfl (by decide +kernel)) (pi_range1 (by rfl) T.n_range (pa_cons (pv 2) pa_nil)) (blkOk_by (own := [("turn", 19)]) (N := ["script", "deck", "many", "values", "handed", "told", "height", "slope", "plain", "placed", "at", "gap", "start", "step", "back", "moved", "least", "more", "other", "turn", "value"]) (sc := defScope st_c_law) (by decide +kernel)) (fun _ _ _ _ _ => (pg_name (i := 19) sc_c_law.nd (by rfl) (by first | exact Or.inl rfl | exact Or.inr rfl))) (fun _ _ _ _ _ => pts_nil) (fun _ _ _ _ _ => (pe_ix ix_list (pe_lst (pa_cons (pe_op op_sub (pe_call G_c_law_take (hr.mono (by decide)) (by rfl) T.m_c_law_take T.F_c_law_take.kp T.b_c_law_take .nil passL (pa_cons (pv 1) (pa_cons pe_int pa_nil))) pe_int) (pa_cons (pe_call G_c_law_number (hr.mono (by decide)) (by rfl) T.m_c_law_number T.F_c_law_number.kp T.b_c_law_number .nil passL (pa_cons (pv 1) pa_nil)) pa_nil))) (pe_callTy call_int1 (by rfl) T.n_int (by decide +kernel) (pa_cons (pe_cmpR op_eq (pe_call G_c_law_take (hr.mono (by decide)) (by rfl) T.m_c_law_take T.F_c_law_take.kp T.b_c_law_take .nil passL (pa_cons (pv 1) (pa_cons pe_int pa_nil))) pe_int (nomark _)) pa_nil)) (fun _ _ => rfl))) (by walk_at "blk") (by walk_at "blk") (by walk_at "blk"))
    (pss_cons (ps_set (i := 4) sc_c_law.nd (by rfl) (Or.inl rfl) (pe_callTy call_list_of (by rfl) T.n_list (by decide +kernel) (pa_cons (pv 3) pa_nil)))
    (pss_cons (ps_set (i := 5) sc_c_law.nd (by rfl) (Or.inl rfl) (pe_call G_c_line_through (hr.mono (by decide)) (by rfl) T.m_c_line_through T.F_c_line_through.kp T.b_c_line_through .nil passL (pa_cons (pv 4) pa_nil)))
    (pss_cons (ps_asg (pv 5) (pg_tup (n := 2) (by rfl) (pgs_cons (pg_name (i := 6) sc_c_law.nd (by rfl) (Or.inl rfl)) (pgs_cons (pg_name (i := 7) sc_c_law.nd (by rfl) (Or.inl rfl)) pgs_nil))))
    (Evl.pss_cut (ps_if (PW.pt (pw_or (pt_cmpR (op_neD hr.units) (pe_call G_c_law_plain (hr.mono (by decide)) (by rfl) T.m_c_law_plain T.F_c_law_plain.kp T.b_c_law_plain .nil passL (pa_cons (pv 5) pa_nil)) (pe_call G_c_law_plain (hr.mono (by decide)) (by rfl) T.m_c_law_plain T.F_c_law_plain.kp T.b_c_law_plain .nil passL (pa_cons (pe_tup (pa_cons (pe_call G_c_law_fraction (hr.mono (by decide)) (by rfl) T.m_c_law_fraction T.F_c_law_fraction.kp T.b_c_law_fraction .nil passL (pa_cons (pe_ix ix_tup (pv 6) pe_int (fun _ _ => rfl)) (pa_cons (pe_ix ix_tup (pv 6) pe_int (fun _ _ => rfl)) pa_nil))) (pa_cons (pe_call G_c_law_fraction (hr.mono (by decide)) (by rfl) T.m_c_law_fraction T.F_c_law_fraction.kp T.b_c_law_fraction .nil passL (pa_cons (pe_ix ix_tup (pv 7) pe_int (fun _ _ => rfl)) (pa_cons (pe_ix ix_tup (pv 7) pe_int (fun _ _ => rfl)) pa_nil))) pa_nil))) pa_nil)) (nomark _)) (pw_or1 (pt_cmpR (op_neD hr.units) (pv 4) (pv 3) (nomark _))))) (pss_one (ps_ret pe_bl)) pss_nil)
    (pss_cons (ps_set (i := 8) sc_c_law.nd (by rfl) (Or.inl rfl) (pe_tup (pa_cons pe_int (pa_cons pe_int pa_nil))))
    (pss_cons (ps_set (i := 9) sc_c_law.nd (by rfl) (Or.inl rfl) (pe_tup (pa_cons pe_int (pa_cons pe_int pa_nil))))
    (pss_cons (ps_for (passes_of rfl) rfl (pi_range1 (by rfl) T.n_range (pa_cons (pv 2) pa_nil)) (pg_name (i := 10) sc_c_law.nd (by rfl) (Or.inl rfl)) (pss_cons (ps_set (i := 11) sc_c_law.nd (by rfl) (Or.inl rfl) (pe_call G_c_law_plus (hr.mono (by decide)) (by rfl) T.m_c_law_plus T.F_c_law_plus.kp T.b_c_law_plus .nil passL (pa_cons (pe_call G_c_law_plus (hr.mono (by decide)) (by rfl) T.m_c_law_plus T.F_c_law_plus.kp T.b_c_law_plus .nil passL (pa_cons (pv 6) (pa_cons (pe_tup (pa_cons (pe_op op_mulW (pv 10) (pe_ix ix_tup (pv 7) pe_int (fun _ _ => rfl))) (pa_cons (pe_ix ix_tup (pv 7) pe_int (fun _ _ => rfl)) pa_nil))) pa_nil))) (pa_cons (pe_tup (pa_cons (pe_un un_neg (pe_ix ix_list (pv 3) (pv 10) (fun _ _ => rfl))) (pa_cons pe_int pa_nil))) pa_nil))))
    (pss_cons (ps_set (i := 8) sc_c_law.nd (by rfl) (Or.inl rfl) (pe_call G_c_law_plus (hr.mono (by decide)) (by rfl) T.m_c_law_plus T.F_c_law_plus.kp T.b_c_law_plus .nil passL (pa_cons (pv 8) (pa_cons (pv 11) pa_nil))))
    (pss_one (ps_set (i := 9) sc_c_law.nd (by rfl) (Or.inl rfl) (pe_call G_c_law_plus (hr.mono (by decide)) (by rfl) T.m_c_law_plus T.F_c_law_plus.kp T.b_c_law_plus .nil passL (pa_cons (pv 9) (pa_cons (pe_tup (pa_cons (pe_op op_mulW (pv 10) (pe_ix ix_tup (pv 11) pe_int (fun _ _ => rfl))) (pa_cons (pe_ix ix_tup (pv 11) pe_int (fun _ _ => rfl)) pa_nil))) pa_nil))))))))
    (Evl.pss_cut (ps_if (PW.pt (pw_or (pt_cmpR op_ne (pe_ix ix_tup (pv 8) pe_int (fun _ _ => rfl)) pe_int (nomark _)) (pw_or1 (pt_cmpR op_ne (pe_ix ix_tup (pv 9) pe_int (fun _ _ => rfl)) pe_int (nomark _))))) (pss_one (ps_ret pe_bl)) pss_nil)
    (pss_cons (ps_set (i := 12) sc_c_law.nd (by rfl) (Or.inr rfl) (pe_call G_c_law_number (hr.mono (by decide)) (by rfl) T.m_c_law_number T.F_c_law_number.kp T.b_c_law_number .nil passL (pa_cons (pv 1) pa_nil)))
    (pss_cons (ps_set (i := 13) sc_c_law.nd (by rfl) (Or.inr rfl) (pe_op op_sub (pe_call G_c_law_take (hr.mono (by decide)) (by rfl) T.m_c_law_take T.F_c_law_take.kp T.b_c_law_take .nil passL (pa_cons (pv 1) (pa_cons pe_int pa_nil))) pe_int))
    (Evl.pss_cut (ps_if (pt_cmpR (op_neD hr.units) (pe_call G_c_law_plain (hr.mono (by decide)) (by rfl) T.m_c_law_plain T.F_c_law_plain.kp T.b_c_law_plain .nil passL (pa_cons (pe_call G_c_line_through (hr.mono (by decide)) (by rfl) T.m_c_line_through T.F_c_line_through.kp T.b_c_line_through .nil passL (pa_cons (pe_lcK (own := [("at", 10)]) (by rfl) sc_c_law.nd (pi_range1 (by rfl) T.n_range (pa_cons (pv 2) pa_nil)) (blkOk_by (own := [("at", 10)]) (N := ["script", "deck", "many", "values", "handed", "told", "height", "slope", "plain", "placed", "at", "gap", "start", "step", "back", "moved", "least", "more", "other", "turn", "value"]) (sc := defScope st_c_law) (by decide +kernel)) (fun _ _ _ _ _ => (pg_name (i := 10) sc_c_law.nd (by rfl) (by first | exact Or.inl rfl | exact Or.inr rfl))) (fun _ _ _ _ _ => pts_nil) (fun _ _ _ _ _ => (pe_op op_add (pv 12) (pe_op op_mulW (pv 13) (pv 10)))) (by walk_at "blk") (by walk_at "blk") (by walk_at "blk")) pa_nil)) pa_nil)) (pe_call G_c_law_plain (hr.mono (by decide)) (by rfl) T.m_c_law_plain T.F_c_law_plain.kp T.b_c_law_plain .nil passL (pa_cons (pe_tup (pa_cons (pe_tup (pa_cons (pv 12) (pa_cons pe_int pa_nil))) (pa_cons (pe_tup (pa_cons (pv 13) (pa_cons pe_int pa_nil))) pa_nil))) pa_nil)) (nomark _)) (pss_one (ps_ret pe_bl)) pss_nil)
    (pss_cons (ps_set (i := 14) sc_c_law.nd (by rfl) (Or.inl rfl) (pe_call G_c_line_through (hr.mono (by decide)) (by rfl) T.m_c_line_through T.F_c_line_through.kp T.b_c_line_through .nil passL (pa_cons (pe_revL (pv 3)) pa_nil)))
    (Evl.pss_cut (ps_if (pt_cmpR (op_neD hr.units) (pe_ix ix_tup (pv 14) pe_int (fun _ _ => rfl)) (pe_call G_c_law_fraction (hr.mono (by decide)) (by rfl) T.m_c_law_fraction T.F_c_law_fraction.kp T.b_c_law_fraction .nil passL (pa_cons (pe_un un_neg (pe_ix ix_tup (pv 7) pe_int (fun _ _ => rfl))) (pa_cons (pe_ix ix_tup (pv 7) pe_int (fun _ _ => rfl)) pa_nil))) (nomark _)) (pss_one (ps_ret pe_bl)) pss_nil)
    (pss_cons (ps_set (i := 15) sc_c_law.nd (by rfl) (Or.inl rfl) (pe_call G_c_line_through (hr.mono (by decide)) (by rfl) T.m_c_line_through T.F_c_line_through.kp T.b_c_line_through .nil passL (pa_cons (pe_lcK (own := [("value", 20)]) (by rfl) sc_c_law.nd (pi_list (pv 3)) (blkOk_by (own := [("value", 20)]) (N := ["script", "deck", "many", "values", "handed", "told", "height", "slope", "plain", "placed", "at", "gap", "start", "step", "back", "moved", "least", "more", "other", "turn", "value"]) (sc := defScope st_c_law) (by decide +kernel)) (fun _ _ _ _ _ => (pg_name (i := 20) sc_c_law.nd (by rfl) (by first | exact Or.inl rfl | exact Or.inr rfl))) (fun _ _ _ _ _ => pts_nil) (fun _ _ _ _ _ => (pe_op op_add (pv 20) (pv 12))) (by walk_at "blk") (by walk_at "blk") (by walk_at "blk")) pa_nil)))
    (Evl.pss_cut (ps_if (PW.pt (pw_or (pt_cmpR (op_neD hr.units) (pe_ix ix_tup (pv 15) pe_int (fun _ _ => rfl)) (pv 7) (nomark _)) (pw_or1 (pt_cmpR (op_neD hr.units) (pe_ix ix_tup (pv 15) pe_int (fun _ _ => rfl)) (pe_call G_c_law_plus (hr.mono (by decide)) (by rfl) T.m_c_law_plus T.F_c_law_plus.kp T.b_c_law_plus .nil passL (pa_cons (pv 6) (pa_cons (pe_tup (pa_cons (pv 12) (pa_cons pe_int pa_nil))) pa_nil))) (nomark _))))) (pss_one (ps_ret pe_bl)) pss_nil)
    (pss_cons (ps_set (i := 16) sc_c_law.nd (by rfl) (Or.inl rfl) (pe_call G_c_law_squares (hr.mono (by decide)) (by rfl) T.m_c_law_squares T.F_c_law_squares.kp T.b_c_law_squares .nil passL (pa_cons (pv 3) (pa_cons (pv 6) (pa_cons (pv 7) pa_nil)))))
    (pss_cons (ps_set (i := 17) sc_c_law.nd (by rfl) (Or.inl rfl) (pe_tup (pa_cons (pe_op op_sub (pe_call G_c_law_take (hr.mono (by decide)) (by rfl) T.m_c_law_take T.F_c_law_take.kp T.b_c_law_take .nil passL (pa_cons (pv 1) (pa_cons pe_int pa_nil))) pe_int) (pa_cons (pe_op op_add pe_int (pe_call G_c_law_take (hr.mono (by decide)) (by rfl) T.m_c_law_take T.F_c_law_take.kp T.b_c_law_take .nil passL (pa_cons (pv 1) (pa_cons pe_int pa_nil)))) pa_nil))))
    (pss_cons (ps_for (passes_of rfl) rfl (pi_tup (pe_tup (pa_cons (pe_call G_c_law_squares (hr.mono (by decide)) (by rfl) T.m_c_law_squares T.F_c_law_squares.kp T.b_c_law_squares .nil passL (pa_cons (pv 3) (pa_cons (pe_call G_c_law_plus (hr.mono (by decide)) (by rfl) T.m_c_law_plus T.F_c_law_plus.kp T.b_c_law_plus .nil passL (pa_cons (pv 6) (pa_cons (pv 17) pa_nil))) (pa_cons (pv 7) pa_nil)))) (pa_cons (pe_call G_c_law_squares (hr.mono (by decide)) (by rfl) T.m_c_law_squares T.F_c_law_squares.kp T.b_c_law_squares .nil passL (pa_cons (pv 3) (pa_cons (pv 6) (pa_cons (pe_call G_c_law_plus (hr.mono (by decide)) (by rfl) T.m_c_law_plus T.F_c_law_plus.kp T.b_c_law_plus .nil passL (pa_cons (pv 7) (pa_cons (pv 17) pa_nil))) pa_nil)))) pa_nil)))) (pg_name (i := 18) sc_c_law.nd (by rfl) (Or.inl rfl)) (pss_one (ps_if (pt_cmpR op_lt (pe_op op_mulW (pe_ix ix_tup (pv 18) pe_int (fun _ _ => rfl)) (pe_ix ix_tup (pv 16) pe_int (fun _ _ => rfl))) (pe_op op_mulW (pe_ix ix_tup (pv 16) pe_int (fun _ _ => rfl)) (pe_ix ix_tup (pv 18) pe_int (fun _ _ => rfl))) (nomark _)) (pss_one (ps_ret pe_bl)) pss_nil)))
    (pss_one (ps_ret (pe_and (pe_call G_c_law_why (hr.mono (by decide)) (by rfl) T.m_c_law_why T.F_c_law_why.kp T.b_c_law_why .nil passL (pa_cons (pe_lst pa_nil) pa_nil)) (pe_one (pe_call G_c_law_why (hr.mono (by decide)) (by rfl) T.m_c_law_why T.F_c_law_why.kp T.b_c_law_why .nil passL (pa_cons (pe_lst (pa_cons pe_int pa_nil)) pa_nil))))))))))))))))))))))))))), ?_⟩
    refine ⟨_, rfl, sa, ns, 40, 14, rfl, hS, by omega, by decide, by decide, by decide, by decide, fun D0 p H0 hp s0 hd0 => ?_⟩
    have K0 : Dk (fun _ => none) H0 p D0 := ⟨rfl, same_none, hd0⟩
    refine ⟨_, rfl, take_q K0 (by decide) fun n H1 n0 n1 K1 => ?_⟩
    refine ⟨_, _, rfl, rfl, _, rfl, _, rfl, by omega, by omega, fun E1 hE1 => ?_⟩
    have hp1 : p ≠ E1 := ne_of_none K1.hd hE1
    refine lc_range (lo := 0) (n := (2 + n).toNat) (fun i H' => ∃ (vs : List Int) (D : List Int), Dk (fun _ => none) H' p D ∧ H' E1 = some (.lst (vs.map V.int)) ∧ vs.length = i ∧ ∀ v ∈ vs, v.natAbs < 2 ^ 135) ?_ ?_ ?_
    · exact ⟨[], _, (K1.same (Same.new hE1)), upd_same, rfl, fun v hv => by cases hv⟩
    · rintro i H2 hi ⟨vs, D, K2, hE, hvl, hvv⟩
      refine ⟨rfl, ?_⟩
      have K2 := K2.add hE hp1.symm
      have hEG : (upd (fun _ => none) E1 (.lst (vs.map V.int)) : Hp) E1 = some (.lst (vs.map V.int)) := upd_same
      generalize (upd (fun _ => none) E1 (.lst (vs.map V.int)) : Hp) = G0 at K2 hEG
      refine ⟨_, rfl, take_q K2 (by decide) fun a1 H3 a10 a11 K3 => ?_⟩
      refine ⟨_, _, rfl, rfl, _, rfl, number_q K3 fun m D5 H5 hm K5 => ?_⟩
      refine ⟨by show 2 ≤ sizeLine; decide, fun l hl => ⟨_, rfl, ?_⟩⟩
      have K6 := K5.new (o := .lst [.int (a1 - 20), .int m]) hl
      refine take_q K6 (by decide) fun a2 H7 a20 a21 K7 => ?_
      refine ⟨rfl, .inr ⟨_, rfl, ?_⟩⟩
      have pk : ∃ z : Int, ([V.int (a1 - 20), V.int m] : List V)[if decide (V.int a2 = V.int 0) = true then 1 else 0]? = some (.int z) ∧ (z = a1 - 20 ∨ z = m) := by
        split
        · exact ⟨m, rfl, .inr rfl⟩
        · exact ⟨a1 - 20, rfl, .inl rfl⟩
      obtain ⟨z, hz1, hz2⟩ := pk
      refine ⟨l, _, _, .int z, rfl, rfl, SqL.of (K7.sm _ _ upd_same), atI_nat' (j := if decide (V.int a2 = V.int 0) = true then 1 else 0) (by split <;> rfl) hz1, ?_⟩
      have sG := Same.new (o := .lst [.int (a1 - 20), .int m]) (K5.fresh hl)
      refine ⟨_, K7.sm _ _ (sG _ _ hEG), small1000000 (by rw [List.length_map]; omega), vs ++ [z], _, ⟨rfl, same_none, by rw [upd_ne hp1]; exact K7.hd⟩, by rw [upd_same, List.map_append]; rfl, by rw [List.length_append, hvl]; rfl, fun v hv => ?_⟩
      rcases List.mem_append.mp hv with q | q
      · exact hvv v q
      · rw [List.mem_singleton] at q
        subst q
        have e135 : (2 : Nat) ^ 130 < 2 ^ 135 := by decide
        have e10 : (1000 : Nat) < 2 ^ 135 := by decide
        rcases hz2 with rfl | rfl <;> omega
    rintro H2 ⟨vs, D, K2, hE, hvl, hvv⟩
    have e140 : (2 : Nat) ^ 135 < 2 ^ 140 := by decide
    have hs : sm56 vs := ⟨by omega, fun v hv => by have := hvv v hv; omega⟩
    have hlen2 : 2 ≤ vs.length := by omega
    have hN : 2 + n = (vs.length : Int) := by omega
    have el : (vs.map V.int).length = vs.length := List.length_map _
    obtain ⟨b0, b1⟩ := bb_pos hlen2 hs.1
    have K3 := K2.add hE hp1.symm
    have hEG : (upd (fun _ => none) E1 (.lst (vs.map V.int)) : Hp) E1 = some (.lst (vs.map V.int)) := upd_same
    generalize (upd (fun _ => none) E1 (.lst (vs.map V.int)) : Hp) = G0 at K3 hEG
    -- handed
    refine ⟨_, rfl, E1, _, rfl, .inl (SqL.of (K3.sm _ _ hEG)), fun lh hlh => ?_⟩
    have K4 := K3.new (o := .lst (vs.map V.int)) hlh
    have sG := Same.new (o := .lst (vs.map V.int)) (K3.fresh hlh)
    have hEG := sG _ _ hEG
    have hHG : (upd G0 lh (.lst (vs.map V.int)) : Hp) lh = _ := upd_same
    generalize (upd G0 lh (.lst (vs.map V.int)) : Hp) = G1 at K4 hEG hHG
    refine ⟨_, rfl, sp_c_line_through_use ⟨lh, vs, rfl, SqL.of (K4.sm _ _ hHG), hs, fun z => absurd z (by omega), fun _ H5 pt x y s5 hx hy hpt => ?_⟩⟩
    have K5 := K4.same s5
    have nd : ∀ {q : Addr} {xs : List V}, H5 q = some (.tup xs) → q ≠ p := fun h z => by have := K5.hd; rw [← z, h] at this; simp [dk] at this
    have hx' := del_some hx (nd hx)
    have hy' := del_some hy (nd hy)
    have hpt' := del_some hpt (nd hpt)
    have hEG := K5.under _ _ hEG
    have hHG := K5.under _ _ hHG
    have K6 := K5.freeze
    generalize (del H5 p : Hp) = G2 at K6 hx' hy' hpt' hEG hHG
    refine ⟨_, rfl, pt, _, rfl, SqT.of hpt, rfl, _, _, rfl, _, _, rfl, rfl, ?_⟩
    have vht := fr_val (x := ht vs.length (xf vs)) b0
    have vsl := fr_val (x := sl vs.length (xf vs)) b0
    have ha : (frA (ht vs.length (xf vs)) (bb vs.length)).natAbs < 2 ^ 156 := Nat.lt_of_le_of_lt (fr_le b0) (ht_b hs)
    have hb : (frB (ht vs.length (xf vs)) (bb vs.length)).natAbs < 2 ^ 10 := by omega
    have hc : (frA (sl vs.length (xf vs)) (bb vs.length)).natAbs < 2 ^ 155 := Nat.lt_of_le_of_lt (fr_le b0) (sl_b hs)
    have hd : (frB (sl vs.length (xf vs)) (bb vs.length)).natAbs < 2 ^ 10 := by omega
    refine ⟨fun σ H' => σ = [some (.ref sa), some (.ref p), some (.int (2 + n)), some (.ref E1), some (.ref lh), some (.ref pt), some (.ref x), some (.ref y), none, none, none, none, none, none, none, none, none, none, none, none, none] ∧ Dk G2 H' p D, ?_, ?_⟩
    · refine ⟨_, rfl, .ref pt, .tuple [pd (htF vs), pd (slF vs)], rfl, dp_two hpt hx hy, ok_two _ _, fun v6 H6 s6 dn6 => ?_⟩
      have K7 := K6.same s6
      refine ⟨_, rfl, x, _, _, _, rfl, rfl, SqT.of (K7.sm _ _ hx'), rfl, _, rfl, x, _, _, _, rfl, rfl, SqT.of (K7.sm _ _ hx'), rfl, ?_⟩
      refine ⟨_, _, rfl, up_b hb (by decide), Int.ne_of_gt vht.2.1, fun q1 hq1 => ?_⟩
      have ih : HO.tup [.int (frA (htF vs).1 (htF vs).2), .int (frB (htF vs).1 (htF vs).2)] = tupP (htF vs) := congrArg tupP (fr_idem (x := ht vs.length (xf vs)) b0)
      have il : HO.tup [.int (frA (slF vs).1 (slF vs).2), .int (frB (slF vs).1 (slF vs).2)] = tupP (slF vs) := congrArg tupP (fr_idem (x := sl vs.length (xf vs)) b0)
      rw [ih]
      have s7 := Same.new (o := tupP (htF vs)) hq1
      have K8 := K7.same s7
      refine ⟨_, rfl, y, _, _, _, rfl, rfl, SqT.of (K8.sm _ _ hy'), rfl, _, rfl, y, _, _, _, rfl, rfl, SqT.of (K8.sm _ _ hy'), rfl, ?_⟩
      refine ⟨_, _, rfl, up_b hd (by decide), Int.ne_of_gt vsl.2.1, fun q2 hq2 => ?_⟩
      rw [il]
      have s8 := Same.new (o := tupP (slF vs)) hq2
      refine ⟨by show 2 ≤ sizeLine; decide, fun q3 hq3 => ?_⟩
      have s9 := Same.new (o := .tup [.ref q1, .ref q2]) hq3
      refine ⟨.ref q3, .tuple [pd (htF vs), pd (slF vs)], rfl, dp_two upd_same (s9 _ _ (s8 _ _ upd_same)) (s9 _ _ upd_same), ok_two _ _, fun v10 H10 s10 dn10 => ?_⟩
      have K10 := ((K8.same s8).same s9).same s10
      refine plain_test 4 dn6 (((s7.trans s8).trans s9).trans s10) dn10 (ok_two _ _) (by decide) ?_
      refine ite2 (fun z => nomatch z) (fun _ => ?_)
      refine ⟨_, rfl, _, rfl, data_same (dp_ints (SqL.of (K10.sm _ _ hHG))) (dp_ints (SqL.of (K10.sm _ _ hEG))) (n := 1) (by simp only [okDx]; exact okDx_ints vs) (by decide) ?_⟩
      exact ⟨_, rfl, rfl, K10⟩
    rintro σ H7 ⟨rfl, K7⟩
    -- the sums of the gaps
    have f0 : fr 0 (bb vs.length) = (0, 1) := by
      obtain ⟨a, b⟩ := fr_zero b0
      unfold fr
      rw [a, b]
    have gb : ∀ i : Nat, i ≤ vs.length → (gp vs.length (xf vs) i).natAbs < 2 ^ 165 := fun i hi => by
      have h10 := hs.1
      have a := wide_lt (a := 4) (b := 155) (i := (i : Int)) (j := sl vs.length (xf vs)) (by omega) (sl_b hs)
      have b := wide_lt (a := 140) (b := 10) (xf_b hs i) (show (bb vs.length).natAbs < _ by omega)
      have c := ht_b hs
      unfold gp
      omega
    have sb : ∀ (f : Nat → Int) (i : Nat), i ≤ vs.length → (∀ j, j < vs.length → (f j).natAbs < 2 ^ 170) → (sm i f).natAbs < 2 ^ 175 := fun f i hi hf => by
      have h10 := hs.1
      have := sm_bound (n := i) (M := 2 ^ 170) (f := f) fun j hj => Nat.le_of_lt (hf j (by omega))
      have : i * 2 ^ 170 ≤ 10 * 2 ^ 170 := Nat.mul_le_mul_right _ (by omega)
      have e : (10 : Nat) * 2 ^ 170 < 2 ^ 175 := by decide
      omega
    have igb : ∀ i : Nat, i < vs.length → (idn i * gp vs.length (xf vs) i).natAbs < 2 ^ 170 := fun i hi => by
      have h10 := hs.1
      exact wide_lt (a := 4) (b := 166) (by unfold idn; omega) (up_b (gb i (by omega)) (by decide))
    refine ⟨by show 2 ≤ sizeLine; decide, fun q8 hq8 => ?_⟩
    have s8 := Same.new (o := tupP (0, 1)) hq8
    refine ⟨by show 2 ≤ sizeLine; decide, fun q9 hq9 => ?_⟩
    have s9 := Same.new (o := tupP (0, 1)) hq9
    have K9 := (K7.same s8).same s9
    refine ⟨_, rfl, _, rfl, by omega, by omega, for_range (lo := 0) (n := (2 + n).toNat) (fun i σ H' => ∃ (q8 q9 : Addr) (v10 v11 : Option V), σ = [some (.ref sa), some (.ref p), some (.int (2 + n)), some (.ref E1), some (.ref lh), some (.ref pt), some (.ref x), some (.ref y), some (.ref q8), some (.ref q9), v10, v11, none, none, none, none, none, none, none, none, none] ∧ Dk G2 H' p D ∧
      H' q8 = some (tupP (fr (sm i (gp vs.length (xf vs))) (bb vs.length))) ∧ H' q9 = some (tupP (fr (sm i fun i => idn i * gp vs.length (xf vs) i) (bb vs.length)))) ?_ ?_ ?_⟩
    · refine ⟨q8, q9, none, none, rfl, K9, ?_, ?_⟩
      · rw [sm_zero, f0]
        exact s9 _ _ upd_same
      · rw [sm_zero, f0]
        exact upd_same
    · rintro i σ H10 hi ⟨q8, q9, v10, v11, rfl, K10, h8, h9⟩
      have ei : (0 + (i : Int)) = i := Int.zero_add _
      rw [ei]
      have hi : i < vs.length := by omega
      have h10 := hs.1
      obtain ⟨v1, v2, v3⟩ := fr_val (x := ht vs.length (xf vs) + i * sl vs.length (xf vs)) b0
      have v4' := fr_le (x := ht vs.length (xf vs) + i * sl vs.length (xf vs)) b0
      have i4 : (i : Int).natAbs < 2 ^ 4 := by omega
      have wiY := wide_lt i4 (sl_b hs)
      have htb := ht_b hs
      have xi : (vs.map V.int)[i]? = some (.int (xf vs i)) := by
        unfold xf
        rw [List.getElem?_map, List.getD_eq_getElem?_getD, List.getElem?_eq_getElem hi]
        rfl
      have ey : (i : Int) * frA (sl vs.length (xf vs)) (bb vs.length) * bb vs.length = i * sl vs.length (xf vs) * frB (sl vs.length (xf vs)) (bb vs.length) := by rw [Int.mul_assoc, vsl.1, Int.mul_assoc]
      refine ⟨_, rfl, _, rfl, _, rfl, y, _, _, _, rfl, rfl, SqT.of (K10.sm _ _ hy'), rfl, _, _, rfl, rfl, wide_mul i4 hc (by decide) (by decide) (by decide), ?_⟩
      refine ⟨_, rfl, y, _, _, _, rfl, rfl, SqT.of (K10.sm _ _ hy'), rfl, by show 2 ≤ sizeLine; decide, fun t1 ht1 => ?_⟩
      have s2 := Same.new (o := .tup [.int (i * frA (sl vs.length (xf vs)) (bb vs.length)), .int (frB (sl vs.length (xf vs)) (bb vs.length))]) ht1
      have K12 := K10.same s2
      refine plus_use (X := ht vs.length (xf vs)) (Y := i * sl vs.length (xf vs)) (Z := bb vs.length) (SqT.of (K12.sm _ _ hx')) (SqT.of upd_same) vht.2.1 vsl.2.1 b0 vht.1 ey (up_b ha (by decide)) (up_b hb (by decide)) (up_b (wide_lt i4 hc) (by decide)) (up_b hd (by decide)) fun p1 H2 hp1 s3 h3 => ?_
      have K13 := K12.same s3
      refine ⟨_, rfl, _, rfl, E1, _, _, _, rfl, rfl, SqL.of (K13.sm _ _ hEG), atI_nat xi, _, rfl, by show 2 ≤ sizeLine; decide, fun t2 ht2 => ?_⟩
      have s4 := Same.new (o := .tup [.int (-xf vs i), .int 1]) ht2
      have xb := xf_b hs i
      have nB : (frB (ht vs.length (xf vs) + i * sl vs.length (xf vs)) (bb vs.length)).natAbs < 2 ^ 10 := by omega
      have A200 : (ht vs.length (xf vs) + i * sl vs.length (xf vs)).natAbs < 2 ^ 161 := by omega
      refine plus_use (X := ht vs.length (xf vs) + i * sl vs.length (xf vs)) (Y := -(xf vs i * bb vs.length)) (Z := bb vs.length) (SqT.of (s4 _ _ h3)) (SqT.of upd_same) v2 (by decide) b0 v1 neg_one (up_b (Nat.lt_of_le_of_lt v4' A200) (by decide)) (up_b nB (by decide)) (up_b (a := 140) (by omega) (by decide)) (up_b (a := 1) (by decide) (by decide)) fun p2 H3 hp2 s5 h5 => ?_
      have eg : ht vs.length (xf vs) + i * sl vs.length (xf vs) + -(xf vs i * bb vs.length) = gp vs.length (xf vs) i := by unfold gp; omega
      rw [eg] at h5
      have K15 := (K13.same s4).same s5
      have sB := ((s2.trans s3).trans s4).trans s5
      obtain ⟨g1, g2, g3⟩ := fr_val (x := gp vs.length (xf vs) i) b0
      have g4 := fr_le (x := gp vs.length (xf vs) i) b0
      have gbi := gb i (by omega)
      have gA : (frA (gp vs.length (xf vs) i) (bb vs.length)).natAbs < 2 ^ 165 := by omega
      have gB : (frB (gp vs.length (xf vs) i) (bb vs.length)).natAbs < 2 ^ 10 := by omega
      have bx : ∀ f : Nat → Int, (∀ j, j < vs.length → (f j).natAbs < 2 ^ 170) → (frA (sm i f) (bb vs.length)).natAbs < 2 ^ 175 ∧ (frB (sm i f) (bb vs.length)).natAbs < 2 ^ 10 ∧ 0 < frB (sm i f) (bb vs.length) ∧ frA (sm i f) (bb vs.length) * bb vs.length = sm i f * frB (sm i f) (bb vs.length) := fun f hf => by
        obtain ⟨y1, y2, y3⟩ := fr_val (x := sm i f) b0
        have y4 := fr_le (x := sm i f) b0
        have := sb f i (by omega) hf
        exact ⟨by omega, by omega, y2, y1⟩
      obtain ⟨m1, m2, m3, m4⟩ := bx (gp vs.length (xf vs)) (fun j hj => up_b (gb j (by omega)) (by decide))
      obtain ⟨l1, l2, l3, l4⟩ := bx (fun i => idn i * gp vs.length (xf vs) i) igb
      refine ⟨_, rfl, _, rfl, plus_use (X := sm i (gp vs.length (xf vs))) (Y := gp vs.length (xf vs) i) (Z := bb vs.length) (SqT.of (sB _ _ h8)) (SqT.of h5) m3 g2 b0 m4 g1 (up_b m1 (by decide)) (up_b m2 (by decide)) (up_b gA (by decide)) (up_b gB (by decide)) fun p3 H4 hp3 s6 h6 => ?_⟩
      have K16 := K15.same s6
      refine ⟨_, rfl, _, rfl, _, rfl, p2, _, _, _, rfl, rfl, SqT.of (s6 _ _ h5), rfl, _, _, rfl, rfl, wide_mul i4 gA (by decide) (by decide) (by decide), ?_⟩
      refine ⟨_, rfl, p2, _, _, _, rfl, rfl, SqT.of (s6 _ _ h5), rfl, by show 2 ≤ sizeLine; decide, fun t3 ht3 => ?_⟩
      have s7 := Same.new (o := .tup [.int (i * frA (gp vs.length (xf vs) i) (bb vs.length)), .int (frB (gp vs.length (xf vs) i) (bb vs.length))]) ht3
      refine plus_use (X := sm i fun i => idn i * gp vs.length (xf vs) i) (Y := idn i * gp vs.length (xf vs) i) (Z := bb vs.length) (SqT.of (s7 _ _ (s6 _ _ (sB _ _ h9)))) (SqT.of upd_same) l3 g2 b0 l4 (by show (i : Int) * _ * _ = (i : Int) * _ * _; exact mul_l g1) (up_b l1 (by decide)) (up_b l2 (by decide)) (up_b (wide_lt i4 gA) (by decide)) (up_b gB (by decide)) fun p4 H5 hp4 s11 h11 => ?_
      refine ⟨p3, p4, _, _, rfl, (K16.same s7).same s11, ?_, ?_⟩
      · rw [sm_succ]
        exact s11 _ _ (s7 _ _ h6)
      · rw [sm_succ]
        exact h11
    rintro σ H11 ⟨q8, q9, v10, v11, rfl, K11, h8, h9⟩
    rw [show (2 + n).toNat = vs.length by omega, sm_gp _ hs.1, f0] at h8
    rw [show (2 + n).toNat = vs.length by omega, sm_igp, f0] at h9
    refine ⟨fun σ H' => σ = [some (.ref sa), some (.ref p), some (.int (2 + n)), some (.ref E1), some (.ref lh), some (.ref pt), some (.ref x), some (.ref y), some (.ref q8), some (.ref q9), v10, v11,  none, none, none, none, none, none, none, none, none] ∧ Dk G2 H' p D, ?_, ?_⟩
    · refine ⟨_, rfl, q8, _, _, _, rfl, rfl, SqT.of h8, rfl, rfl, false, by simp, ?_⟩
      refine ite2 (fun z => nomatch z) (fun _ => ?_)
      refine ⟨_, rfl, q9, _, _, _, rfl, rfl, SqT.of h9, rfl, rfl, false, by simp, ?_⟩
      exact ⟨rfl, K11⟩
    rintro σ H12 ⟨rfl, K12⟩
    refine ⟨_, rfl, number_q K12 fun st D6 H13 hst K13 => ?_⟩
    refine ⟨_, rfl, take_q K13 (by decide) fun sp H14 sp0 sp1 K14 => ?_⟩
    refine ⟨_, _, rfl, rfl, ?_⟩
    obtain ⟨sq, hsq⟩ : ∃ z : Int, z = sp - 10 := ⟨_, rfl⟩
    have esq : (fun i j : Int => V.int (i - j)) sp 10 = V.int sq := by rw [hsq]
    rw [esq]
    refine ⟨fun σ H' => σ = [some (.ref sa), some (.ref p), some (.int (2 + n)), some (.ref E1), some (.ref lh), some (.ref pt), some (.ref x), some (.ref y), some (.ref q8), some (.ref q9), v10, v11,  some (.int st), some (.int sq), none, none, none, none, none, none, none] ∧ Dk G2 H' p D6.tail, ?_, ?_⟩
    · refine ⟨_, rfl, _, rfl, by omega, by omega, fun E2 hE2 => ?_⟩
      have sqb : sq.natAbs < 2 ^ 5 := by omega
      refine lc_fn (walk_range (lo := 0) (n := (2 + n).toNat)) (fun i => some (.int (st + sq * (i : Nat)))) (by omega) hE2 (fun _ _ => trivial) ?_ ?_
      · rintro i x H1 H2 R N hi s1 ⟨rfl, rfl⟩ hR hN
        refine ⟨rfl, ?_⟩
        refine ⟨_, rfl, _, rfl, _, rfl, _, _, rfl, rfl, wide_mul sqb (b := 10) (by omega) (by decide) (by decide) (by decide), _, _, rfl, rfl, hR _ _ ?_ (Same.refl _)⟩
        rw [Int.zero_add]
      intro H15 s15 hE
      rw [fm_some, show (2 + n).toNat = vs.length by omega] at hE
      have ylen : ((List.range vs.length).map fun (i : Nat) => st + sq * i).length = vs.length := by rw [List.length_map, List.length_range]
      have yat : ∀ i, i < vs.length → xf ((List.range vs.length).map fun (i : Nat) => st + sq * i) i = st + sq * i := fun i hi => by
        unfold xf
        rw [List.getD_eq_getElem?_getD, List.getElem?_map, List.getElem?_range hi]
        rfl
      have yb : sm56 ((List.range vs.length).map fun (i : Nat) => st + sq * i) := by
        refine ⟨by rw [ylen]; exact hs.1, fun v hv => ?_⟩
        obtain ⟨i, hi, rfl⟩ := List.mem_map.mp hv
        have hi' := List.mem_range.mp hi
        have h10 := hs.1
        have := wide_lt (b := 4) (j := (i : Int)) sqb (by omega)
        have e1 : (2 : Nat) ^ 130 < 2 ^ 139 := by decide
        omega
      have hE3 : H15 E2 = some (.lst (((List.range vs.length).map fun (i : Nat) => st + sq * i).map V.int)) := by rw [hE, List.map_map]; rfl
      have K15 := K14.same s15
      generalize ((List.range vs.length).map fun (i : Nat) => st + sq * i) = ys at ylen yat yb hE3
      obtain ⟨l1, l2⟩ := line_fr (ys := ys) (a := st) (b := sq) yb.1 (by omega) (fun i hi => yat i (by omega))
      refine sp_c_line_through_use ⟨E2, ys, rfl, SqL.of hE3, yb, fun z => absurd z (by omega), fun _ H16 pt2 x2 y2 s16 hx2 hy2 hpt2 => ?_⟩
      rw [l1] at hx2
      rw [l2] at hy2
      refine ⟨.ref pt2, .tuple [pd (st, 1), pd (sq, 1)], rfl, dp_two hpt2 hx2 hy2, ok_two _ _, fun v17 H17 s17 dn17 => ?_⟩
      refine ⟨_, rfl, by show 2 ≤ sizeLine; decide, fun x3 hx3 => ?_⟩
      have s18 := Same.new (o := tupP (st, 1)) hx3
      refine ⟨_, rfl, by show 2 ≤ sizeLine; decide, fun y3 hy3 => ?_⟩
      have s19 := Same.new (o := tupP (sq, 1)) hy3
      refine ⟨by show 2 ≤ sizeLine; decide, fun z3 hz3 => ?_⟩
      have s20 := Same.new (o := .tup [.ref x3, .ref y3]) hz3
      refine ⟨.ref z3, .tuple [pd (st, 1), pd (sq, 1)], rfl, dp_two upd_same (s20 _ _ (s19 _ _ upd_same)) (s20 _ _ upd_same), ok_two _ _, fun v21 H21 s21 dn21 => ?_⟩
      exact plain_test 4 dn17 (((s18.trans s19).trans s20).trans s21) dn21 (ok_two _ _) (by decide) ⟨rfl, (((((K15.same s16).same s17).same s18).same s19).same s20).same s21⟩
    rintro σ H20 ⟨rfl, K20⟩
    refine ⟨_, rfl, E1, _, rfl, SqL.of (K20.sm _ _ hEG), fun lr hlr => ?_⟩
    have hR : (upd H20 lr (.lst (vs.map V.int).reverse) : Hp) lr = some (.lst (vs.reverse.map V.int)) := by rw [upd_same, List.map_reverse]
    have K21 := K20.same (Same.new (o := .lst (vs.map V.int).reverse) hlr)
    generalize (upd H20 lr (.lst (vs.map V.int).reverse) : Hp) = H21 at hR K21 ⊢
    have hsr : sm56 vs.reverse := ⟨by rw [List.length_reverse]; exact hs.1, fun v hv => hs.2 v (List.mem_reverse.mp hv)⟩
    refine sp_c_line_through_use ⟨lr, vs.reverse, rfl, SqL.of hR, hsr, fun z => absurd z (by rw [List.length_reverse]; omega), fun _ H22 pt3 x3 y3 s22 hx3 hy3 hpt3 => ?_⟩
    have K22 := K21.same s22
    rw [rev_fr hs.1] at hy3
    refine ⟨fun σ H' => σ = [some (.ref sa), some (.ref p), some (.int (2 + n)), some (.ref E1), some (.ref lh), some (.ref pt), some (.ref x), some (.ref y), some (.ref q8), some (.ref q9), v10, v11, some (.int st), some (.int sq),  some (.ref pt3), none, none, none, none, none, none] ∧ Dk G2 H' p D6.tail, ?_, ?_⟩
    · refine ⟨_, rfl, pt3, _, _, _, rfl, rfl, SqT.of hpt3, rfl, ?_⟩
      refine ⟨_, rfl, y, _, _, _, rfl, rfl, SqT.of (K22.sm _ _ hy'), rfl, _, rfl, _, rfl, y, _, _, _, rfl, rfl, SqT.of (K22.sm _ _ hy'), rfl, ?_⟩
      refine ⟨_, _, rfl, up_b hd (by decide), Int.ne_of_gt vsl.2.1, fun q1 hq1 => ?_⟩
      have s23 := Same.new (o := tupP (fr (-(frA (sl vs.length (xf vs)) (bb vs.length))) (frB (sl vs.length (xf vs)) (bb vs.length)))) hq1
      refine data_same (dp_pd (s23 _ _ hy3)) (dp_pd (z := fr (-(sl vs.length (xf vs))) (bb vs.length)) (by rw [← fr_negl b0]; exact upd_same)) (n := 2) (by simp [pd, okDx, okDxs]) (by decide) ?_
      exact ⟨_, rfl, rfl, K22.same s23⟩
    rintro σ H24 ⟨rfl, K24⟩
    refine ⟨_, rfl, ?_⟩
    refine ⟨E1, rfl, ⟨_, SqL.of (K24.sm _ _ hEG)⟩, fun E3 hE3 => ?_⟩
    refine lc_fn (walk_list (xs := vs.map V.int)) (fun i => some (.int (xf vs i + st))) (by rw [List.length_map]; have := hs.1; omega) hE3 (fun H s => s.seq (SqL.of (K24.sm _ _ hEG))) ?_ ?_
    · rintro i x H1 H2 R N hi s1 ⟨rfl, hx⟩ hR hN
      obtain ⟨z, hz, rfl⟩ := ints_get hx
      refine ⟨rfl, ?_⟩
      refine ⟨_, rfl, _, rfl, _, _, rfl, rfl, hR _ _ ?_ (Same.refl _)⟩
      unfold xf
      rw [List.getD_eq_getElem?_getD, hz]
      rfl
    intro H25 s25 hE
    rw [fm_some, el, range_at vs (fun v => V.int (v + st)) _ (fun i x e => by unfold xf; rw [List.getD_eq_getElem?_getD, e]; rfl)] at hE
    have hM : H25 E3 = some (.lst ((vs.map fun v => v + st).map V.int)) := by rw [hE, List.map_map]; rfl
    have K25 := K24.same s25
    have hsm : sm56 (vs.map fun v => v + st) := ⟨by rw [List.length_map]; exact hs.1, fun v hv => by
      obtain ⟨w, hw, rfl⟩ := List.mem_map.mp hv
      have := hvv w hw
      have e1 : (2 : Nat) ^ 130 + 2 ^ 135 < 2 ^ 140 := by decide
      omega⟩
    refine sp_c_line_through_use ⟨E3, _, rfl, SqL.of hM, hsm, fun z => absurd z (by rw [List.length_map]; omega), fun _ H26 pt4 x4 y4 s26 hx4 hy4 hpt4 => ?_⟩
    have K26 := K25.same s26
    obtain ⟨mv1, mv2⟩ := mov_fr (ns := vs) st hs.1
    rw [mv1] at hy4
    rw [mv2] at hx4
    refine ⟨fun σ H' => σ = [some (.ref sa), some (.ref p), some (.int (2 + n)), some (.ref E1), some (.ref lh), some (.ref pt), some (.ref x), some (.ref y), some (.ref q8), some (.ref q9), v10, v11, some (.int st), some (.int sq), some (.ref pt3), some (.ref pt4), none, none, none, none, none] ∧ Dk G2 H' p D6.tail, ?_, ?_⟩
    · refine ⟨_, rfl, pt4, _, _, _, rfl, rfl, SqT.of hpt4, rfl, _, rfl, ?_⟩
      refine data_same (dp_pd hy4) (dp_pd (K26.sm _ _ hy')) (n := 2) (by simp [pd, okDx, okDxs]) (by decide) ?_
      refine ⟨_, rfl, ?_⟩
      refine ite2 (fun z => nomatch z) (fun _ => ?_)
      refine ⟨_, rfl, pt4, _, _, _, rfl, rfl, SqT.of hpt4, rfl, ?_⟩
      refine ⟨_, rfl, _, rfl, by show 2 ≤ sizeLine; decide, fun t1 ht1 => ?_⟩
      have s27 := Same.new (o := tupP (st, 1)) ht1
      refine plus_use (X := ht vs.length (xf vs)) (Y := st * bb vs.length) (Z := bb vs.length) (SqT.of (s27 _ _ (K26.sm _ _ hx'))) (SqT.of upd_same) vht.2.1 (by decide) b0 vht.1 (by rw [Int.mul_one]) (up_b ha (by decide)) (up_b hb (by decide)) (up_b hst (by decide)) (up_b (a := 1) (by decide) (by decide)) fun p1 H28 hp1 s28 h28 => ?_
      refine data_same (dp_pd (s28 _ _ (s27 _ _ hx4))) (dp_pd h28) (n := 2) (by simp [pd, okDx, okDxs]) (by decide) ?_
      exact ⟨_, rfl, rfl, (K26.same s27).same s28⟩
    rintro σ H30 ⟨rfl, K30⟩
    have h10 := hs.1
    have slb := sl_b hs
    have htb := ht_b hs
    refine ⟨_, rfl, _, rfl, _, rfl, ?_⟩
    refine sp_c_law_squares_use ⟨E1, x, y, vs, _, _, _, _, ht vs.length (xf vs), sl vs.length (xf vs), bb vs.length, rfl, SqL.of (K30.sm _ _ hEG), hs, SqT.of (K30.sm _ _ hx'), SqT.of (K30.sm _ _ hy'), vht.2.1, vsl.2.1, b0, vht.1, vsl.1, up_b ha (by decide), up_b hb (by decide), up_b hc (by decide), up_b hd (by decide), up_b htb (by decide), up_b slb (by decide), up_b (a := 10) (by omega) (by decide), fun ls H31 hls s31 h31 => ?_⟩
    have K31 := K30.same s31
    have nd2 : ∀ {q : Addr} {xs : List V}, H31 q = some (.tup xs) → q ≠ p := fun h z => by have := K31.hd; rw [← z, h] at this; simp [dk] at this
    have hls' := del_some h31 (nd2 h31)
    have hx2 := K31.under _ _ hx'
    have hy2 := K31.under _ _ hy'
    have hE2 := K31.under _ _ hEG
    have K32 := K31.freeze
    generalize (del H31 p : Hp) = G3 at K32 hls' hx2 hy2 hE2
    refine ⟨_, rfl, take_q K32 (by decide) fun u9 H33 u90 u91 K33 => ?_⟩
    refine ⟨_, _, rfl, rfl, _, rfl, take_q K33 (by decide) fun v5 H34 v50 v51 K34 => ?_⟩
    refine ⟨_, _, rfl, rfl, by show 2 ≤ sizeLine; decide, fun mo hmo => ?_⟩
    obtain ⟨u, hu⟩ : ∃ z : Int, z = u9 - 4 := ⟨_, rfl⟩
    obtain ⟨v, hv⟩ : ∃ z : Int, z = 1 + v5 := ⟨_, rfl⟩
    have emo : (HO.tup [(fun i j : Int => V.int (i - j)) u9 4, (fun i j : Int => V.int (i + j)) 1 v5]) = tupP (u, v) := by rw [hu, hv]; rfl
    rw [emo]
    have v0 : 0 < v := by omega
    have vb : v.natAbs < 2 ^ 3 := by omega
    have ub : u.natAbs < 2 ^ 3 := by omega
    have Bb : (bb vs.length).natAbs < 2 ^ 10 := by omega
    have s35 := Same.new (o := tupP (u, v)) hmo
    have hmo2 : (upd H34 mo (tupP (u, v)) : Hp) mo = some (tupP (u, v)) := upd_same
    have K35 := K34.same s35
    generalize (upd H34 mo (tupP (u, v)) : Hp) = H35 at K35 hmo2 s35 ⊢
    have B0v : 0 < bb vs.length * v := Int.mul_pos b0 v0
    have uBv : u * (bb vs.length * v) = u * bb vs.length * v := by rw [Int.mul_assoc]
    have w1 := wide_lt htb vb
    have w2 := wide_lt ub Bb
    have w3 := wide_lt slb vb
    have w4 := wide_lt Bb vb
    obtain ⟨hA1, hA2, hA3⟩ := fr_val (x := ht vs.length (xf vs) * v + u * bb vs.length) B0v
    have hA4 := fr_le (x := ht vs.length (xf vs) * v + u * bb vs.length) B0v
    obtain ⟨sA1, sA2, sA3⟩ := fr_val (x := sl vs.length (xf vs) * v + u * bb vs.length) B0v
    have sA4 := fr_le (x := sl vs.length (xf vs) * v + u * bb vs.length) B0v
    have hA5 : (frB (ht vs.length (xf vs) * v + u * bb vs.length) (bb vs.length * v)).natAbs < 2 ^ 13 := by omega
    have sA5 : (frB (sl vs.length (xf vs) * v + u * bb vs.length) (bb vs.length * v)).natAbs < 2 ^ 13 := by omega
    have hX : (ht vs.length (xf vs) * v + u * bb vs.length).natAbs < 2 ^ 165 := by omega
    have sX : (sl vs.length (xf vs) * v + u * bb vs.length).natAbs < 2 ^ 165 := by omega
    refine ⟨_, rfl, _, rfl, _, rfl, ?_⟩
    refine plus_use (X := ht vs.length (xf vs) * v) (Y := u * bb vs.length) (Z := bb vs.length * v) (SqT.of (K35.sm _ _ hx2)) (SqT.of hmo2) vht.2.1 v0 B0v (mul_m vht.1) uBv (up_b ha (by decide)) (up_b hb (by decide)) (up_b ub (by decide)) (up_b vb (by decide)) fun p1 H36 hp1 s36 h36 => ?_
    have K36 := K35.same s36
    refine ⟨_, rfl, ?_⟩
    refine sp_c_law_squares_use ⟨E1, p1, y, vs, _, _, _, _, ht vs.length (xf vs) * v + u * bb vs.length, sl vs.length (xf vs) * v, bb vs.length * v, rfl, SqL.of (K36.sm _ _ hE2), hs, SqT.of h36, SqT.of (K36.sm _ _ hy2), hA2, vsl.2.1, B0v, hA1, mul_m vsl.1, up_b (Nat.lt_of_le_of_lt hA4 hX) (by decide), up_b hA5 (by decide), up_b hc (by decide), up_b hd (by decide), up_b hX (by decide), up_b w3 (by decide), up_b w4 (by decide), fun o1 H37 ho1 s37 h37 => ?_⟩
    have K37 := K36.same s37
    refine ⟨_, rfl, _, rfl, _, rfl, _, rfl, ?_⟩
    refine plus_use (X := sl vs.length (xf vs) * v) (Y := u * bb vs.length) (Z := bb vs.length * v) (SqT.of (K37.sm _ _ hy2)) (SqT.of (s37 _ _ (s36 _ _ hmo2))) vsl.2.1 v0 B0v (mul_m vsl.1) uBv (up_b hc (by decide)) (up_b hd (by decide)) (up_b ub (by decide)) (up_b vb (by decide)) fun p2 H38 hp2 s38 h38 => ?_
    have K38 := K37.same s38
    refine sp_c_law_squares_use ⟨E1, x, p2, vs, _, _, _, _, ht vs.length (xf vs) * v, sl vs.length (xf vs) * v + u * bb vs.length, bb vs.length * v, rfl, SqL.of (K38.sm _ _ hE2), hs, SqT.of (K38.sm _ _ hx2), SqT.of h38, vht.2.1, sA2, B0v, mul_m vht.1, sA1, up_b ha (by decide), up_b hb (by decide), up_b (Nat.lt_of_le_of_lt sA4 sX) (by decide), up_b sA5 (by decide), up_b w1 (by decide), up_b sX (by decide), up_b w4 (by decide), fun o2 H39 ho2 s39 h39 => ?_⟩
    have K39 := K38.same s39
    refine ⟨by show 2 ≤ sizeLine; decide, fun tt0 htt0 => ?_⟩
    have s40 := Same.new (o := .tup [.ref o1, .ref o2]) htt0
    have K40 := K39.same s40
    have hTT : (upd H39 tt0 (.tup [.ref o1, .ref o2]) : Hp) tt0 = some (.tup [.ref o1, .ref o2]) := upd_same
    have ho1' := s40 _ _ (s39 _ _ (s38 _ _ h37))
    have ho2' := s40 _ _ h39
    generalize (upd H39 tt0 (.tup [.ref o1, .ref o2]) : Hp) = H40 at K40 hTT ho1' ho2' ⊢
    have hls3 := K40.sm _ _ hls'
    have lb := sqs_b (X := ht vs.length (xf vs)) (Y := sl vs.length (xf vs)) (Z := bb vs.length) hs (up_b htb (by decide)) (up_b slb (by decide)) (up_b Bb (by decide))
    have ob1 := sqs_b (X := ht vs.length (xf vs) * v + u * bb vs.length) (Y := sl vs.length (xf vs) * v) (Z := bb vs.length * v) hs (up_b hX (by decide)) (up_b w3 (by decide)) (up_b w4 (by decide))
    have ob2 := sqs_b (X := ht vs.length (xf vs) * v) (Y := sl vs.length (xf vs) * v + u * bb vs.length) (Z := bb vs.length * v) hs (up_b w1 (by decide)) (up_b sX (by decide)) (up_b w4 (by decide))
    have le1 := least_h (ns := vs) u v h10
    have le2 := least_s (ns := vs) u v
    generalize (sm vs.length fun i => (ht vs.length (xf vs) + i * sl vs.length (xf vs) - xf vs i * bb vs.length) * (ht vs.length (xf vs) + i * sl vs.length (xf vs) - xf vs i * bb vs.length)) = LL at hls3 lb le1 le2
    have hall : ∀ (i : Nat) (z : V), ([V.ref o1, V.ref o2] : List V)[i]? = some z → ∃ (o : Addr) (O : Int), z = V.ref o ∧ H40 o = some (tupP (fr O (bb vs.length * v * (bb vs.length * v)))) ∧ LL * (v * v) ≤ O ∧ O.natAbs < 2 ^ 420 := by
      intro i z hz
      rcases i with _ | _ | i
      · cases hz
        exact ⟨o1, _, rfl, ho1', le1, ob1⟩
      · cases hz
        exact ⟨o2, _, rfl, ho2', le2, ob2⟩
      · simp at hz
    have BB0 : 0 < bb vs.length * bb vs.length := Int.mul_pos b0 b0
    have BV0 : 0 < bb vs.length * v * (bb vs.length * v) := Int.mul_pos B0v B0v
    obtain ⟨L1, L2', L3⟩ := fr_val (x := LL) BB0
    have L4 := fr_le (x := LL) BB0
    have L5 : (frB LL (bb vs.length * bb vs.length)).natAbs < 2 ^ 30 := by
      have := wide_lt Bb Bb
      omega
    refine ⟨tt0, rfl, ⟨_, SqT.of hTT⟩, for_it (walk_tup (K := K) (a := tt0) (xs := [V.ref o1, V.ref o2])) (fun i σ H' => ∃ v18 : Option V, σ = [some (.ref sa), some (.ref p), some (.int (2 + n)), some (.ref E1), some (.ref lh), some (.ref pt), some (.ref x), some (.ref y), some (.ref q8), some (.ref q9), v10, v11, some (.int st), some (.int sq), some (.ref pt3), some (.ref pt4), some (.ref ls), some (.ref mo), v18, none, none] ∧ H' = H40) ⟨none, rfl, rfl⟩ (fun i σ H' _ ⟨_, _, e⟩ => by rw [e]; exact SqT.of hTT) ?_ ?_⟩
    · rintro i z σ H41 H42 hi ⟨v18, rfl, rfl⟩ ⟨rfl, hz⟩
      obtain ⟨o, O, rfl, ho, hLO, hO⟩ := hall i z hz
      obtain ⟨O1, O2, O3⟩ := fr_val (x := O) BV0
      have O4 := fr_le (x := O) BV0
      have O5 : (frB O (bb vs.length * v * (bb vs.length * v))).natAbs < 2 ^ 30 := by
        have := wide_lt w4 w4
        omega
      have cc := cmp O2 L2' b0 v0 L1 O1 hLO
      refine ⟨_, rfl, o, _, _, _, rfl, rfl, SqT.of ho, rfl, _, rfl, ls, _, _, _, rfl, rfl, SqT.of hls3, rfl, _, _, rfl, rfl, wide_mul (Nat.lt_of_le_of_lt O4 hO) L5 (by decide) (by decide) (by decide), ?_⟩
      refine ⟨_, rfl, ls, _, _, _, rfl, rfl, SqT.of hls3, rfl, _, rfl, o, _, _, _, rfl, rfl, SqT.of ho, rfl, _, _, rfl, rfl, wide_mul (Nat.lt_of_le_of_lt L4 lb) O5 (by decide) (by decide) (by decide), ?_⟩
      refine ⟨_, _, rfl, rfl, _, rfl, ?_⟩
      refine ite2 (fun c => absurd (of_decide_eq_true c) (by exact Int.not_lt.mpr cc)) (fun _ => ?_)
      exact ⟨_, rfl, rfl⟩
    rintro σ H43 ⟨v18, rfl, rfl⟩
    refine ⟨by show 0 ≤ sizeLine; decide, fun le hle => ?_⟩
    refine sp_c_law_why_use ⟨le, [], rfl, SqL.of upd_same, ⟨by decide, fun v hv => by cases hv⟩, by decide, fun H44 s44 => ?_⟩
    refine ⟨true, rfl, ?_⟩
    refine iteT ?_
    refine ⟨by show 1 ≤ sizeLine; decide, fun lf hlf => ?_⟩
    exact sp_c_law_why_use ⟨lf, [5], rfl, SqL.of upd_same, ⟨by decide, fun v hv => by rw [List.mem_singleton] at hv; subst hv; decide⟩, by decide, fun H45 s45 => k _⟩
theorem all_mk {l : PySem.W.OpenLaw} {w : World} {K : PySem.W.Frag} {h : Heap} {mg : Str → Option Value} {fa : Addr} (X : K.In h) (G : h.Ns mainGlobals mg) (hfa : mg "law" = some (.ref fa))
    {C_SlotError C_InvalidTime C_InvalidMoney C_InvalidTable : Addr}
    {f0 : Addr} {od0 an0 : Option Addr} {sl0 : Array (Option Value)} {oc0 kV0 dc0 pm0 cd0 ct0 : Value}
    {f1 : Addr} {od1 an1 : Option Addr} {sl1 : Array (Option Value)} {oc1 kV1 dc1 pm1 cd1 ct1 : Value}
    {f2 : Addr} {od2 an2 : Option Addr} {sl2 : Array (Option Value)} {oc2 kV2 dc2 pm2 cd2 ct2 : Value}
    {f3 : Addr} {od3 an3 : Option Addr} {sl3 : Array (Option Value)} {oc3 kV3 dc3 pm3 cd3 ct3 : Value}
    {f4 : Addr} {od4 an4 : Option Addr} {sl4 : Array (Option Value)} {oc4 kV4 dc4 pm4 cd4 ct4 : Value}
    {f5 : Addr} {od5 an5 : Option Addr} {sl5 : Array (Option Value)} {oc5 kV5 dc5 pm5 cd5 ct5 : Value}
    {f6 : Addr} {od6 an6 : Option Addr} {sl6 : Array (Option Value)} {oc6 kV6 dc6 pm6 cd6 ct6 : Value}
    {f7 : Addr} {od7 an7 : Option Addr} {sl7 : Array (Option Value)} {oc7 kV7 dc7 pm7 cd7 ct7 : Value}
    {f8 : Addr} {od8 an8 : Option Addr} {sl8 : Array (Option Value)} {oc8 kV8 dc8 pm8 cd8 ct8 : Value}
    {f9 : Addr} {od9 an9 : Option Addr} {sl9 : Array (Option Value)} {oc9 kV9 dc9 pm9 cd9 ct9 : Value}
    {f10 : Addr} {od10 an10 : Option Addr} {sl10 : Array (Option Value)} {oc10 kV10 dc10 pm10 cd10 ct10 : Value}
    {f11 : Addr} {od11 an11 : Option Addr} {sl11 : Array (Option Value)} {oc11 kV11 dc11 pm11 cd11 ct11 : Value}
    {f12 : Addr} {od12 an12 : Option Addr} {sl12 : Array (Option Value)} {oc12 kV12 dc12 pm12 cd12 ct12 : Value}
    {f13 : Addr} {od13 an13 : Option Addr} {sl13 : Array (Option Value)} {oc13 kV13 dc13 pm13 cd13 ct13 : Value}
    {f14 : Addr} {od14 an14 : Option Addr} {sl14 : Array (Option Value)} {oc14 kV14 dc14 pm14 cd14 ct14 : Value}
    {nm_InvalidTime q_InvalidTime : Str} {N_InvalidTime : Addr} {bs_InvalidTime bm_InvalidTime : List Value} {sn_InvalidTime : List Str} {sub_InvalidTime : List Value} {ab_InvalidTime : Bool} {col_InvalidTime : Option Bool} {dd_InvalidTime : Option Addr} {m0_InvalidTime m1_InvalidTime m2_InvalidTime m3_InvalidTime m5_InvalidTime : Option Value}
    {nm_InvalidMoney q_InvalidMoney : Str} {N_InvalidMoney : Addr} {bs_InvalidMoney bm_InvalidMoney : List Value} {sn_InvalidMoney : List Str} {sub_InvalidMoney : List Value} {ab_InvalidMoney : Bool} {col_InvalidMoney : Option Bool} {dd_InvalidMoney : Option Addr} {m0_InvalidMoney m1_InvalidMoney m2_InvalidMoney m3_InvalidMoney m5_InvalidMoney : Option Value}
    {nm_InvalidTable q_InvalidTable : Str} {N_InvalidTable : Addr} {bs_InvalidTable bm_InvalidTable : List Value} {sn_InvalidTable : List Str} {sub_InvalidTable : List Value} {ab_InvalidTable : Bool} {col_InvalidTable : Option Bool} {dd_InvalidTable : Option Addr} {m0_InvalidTable m1_InvalidTable m2_InvalidTable m3_InvalidTable m5_InvalidTable : Option Value}
    (g_SlotError : PySem.W.nsIn K mainGlobals "SlotError" = some (some (.ref C_SlotError)))
    (g_InvalidTime : PySem.W.nsIn K mainGlobals "InvalidTime" = some (some (.ref C_InvalidTime)))
    (g_InvalidMoney : PySem.W.nsIn K mainGlobals "InvalidMoney" = some (some (.ref C_InvalidMoney)))
    (g_InvalidTable : PySem.W.nsIn K mainGlobals "InvalidTable" = some (some (.ref C_InvalidTable)))
    (a0 : PySem.W.findIn K (.ref C_InvalidTime) "__init__" = some (some (.ref f0)))
    (l0 : K.lookup f0 = some ⟨oc0, od0, .func (PySem.W.fnOf "__init__" "InvalidTime.__init__" (defArgs st_c_InvalidTime_init) (defBody st_c_InvalidTime_init) (defScope st_c_InvalidTime_init) .none kV0 dc0 pm0 an0 cd0 ct0), sl0⟩)
    (c0 : PySem.W.codeIn K cd0 "InvalidTime.__init__" = true)
    (k0 : PySem.W.keepIn K (.ref f0) = true)
    (a1 : PySem.W.findIn K (.ref C_InvalidMoney) "__init__" = some (some (.ref f1)))
    (l1 : K.lookup f1 = some ⟨oc1, od1, .func (PySem.W.fnOf "__init__" "InvalidMoney.__init__" (defArgs st_c_InvalidMoney_init) (defBody st_c_InvalidMoney_init) (defScope st_c_InvalidMoney_init) .none kV1 dc1 pm1 an1 cd1 ct1), sl1⟩)
    (c1 : PySem.W.codeIn K cd1 "InvalidMoney.__init__" = true)
    (k1 : PySem.W.keepIn K (.ref f1) = true)
    (a2 : PySem.W.findIn K (.ref C_InvalidTable) "__init__" = some (some (.ref f2)))
    (l2 : K.lookup f2 = some ⟨oc2, od2, .func (PySem.W.fnOf "__init__" "InvalidTable.__init__" (defArgs st_c_InvalidTable_init) (defBody st_c_InvalidTable_init) (defScope st_c_InvalidTable_init) .none kV2 dc2 pm2 an2 cd2 ct2), sl2⟩)
    (c2 : PySem.W.codeIn K cd2 "InvalidTable.__init__" = true)
    (k2 : PySem.W.keepIn K (.ref f2) = true)
    (a3 : PySem.W.nsIn K mainGlobals "fraction" = some (some (.ref f3)))
    (l3 : K.lookup f3 = some ⟨oc3, od3, .func (PySem.W.fnOf "fraction" "fraction" (defArgs st_c_fraction) (defBody st_c_fraction) (defScope st_c_fraction) .none kV3 dc3 pm3 an3 cd3 ct3), sl3⟩)
    (c3 : PySem.W.codeIn K cd3 "fraction" = true)
    (k3 : PySem.W.keepIn K (.ref f3) = true)
    (a4 : PySem.W.nsIn K mainGlobals "line_through" = some (some (.ref f4)))
    (l4 : K.lookup f4 = some ⟨oc4, od4, .func (PySem.W.fnOf "line_through" "line_through" (defArgs st_c_line_through) (defBody st_c_line_through) (defScope st_c_line_through) .none kV4 dc4 pm4 an4 cd4 ct4), sl4⟩)
    (c4 : PySem.W.codeIn K cd4 "line_through" = true)
    (k4 : PySem.W.keepIn K (.ref f4) = true)
    (a5 : PySem.W.nsIn K mainGlobals "_law_deck" = some (some (.ref f5)))
    (l5 : K.lookup f5 = some ⟨oc5, od5, .func (PySem.W.fnOf "_law_deck" "_law_deck" (defArgs st_c_law_deck) (defBody st_c_law_deck) (defScope st_c_law_deck) .none kV5 dc5 pm5 an5 cd5 ct5), sl5⟩)
    (c5 : PySem.W.codeIn K cd5 "_law_deck" = true)
    (k5 : PySem.W.keepIn K (.ref f5) = true)
    (a6 : PySem.W.nsIn K mainGlobals "_law_take" = some (some (.ref f6)))
    (l6 : K.lookup f6 = some ⟨oc6, od6, .func (PySem.W.fnOf "_law_take" "_law_take" (defArgs st_c_law_take) (defBody st_c_law_take) (defScope st_c_law_take) .none kV6 dc6 pm6 an6 cd6 ct6), sl6⟩)
    (c6 : PySem.W.codeIn K cd6 "_law_take" = true)
    (k6 : PySem.W.keepIn K (.ref f6) = true)
    (a7 : PySem.W.nsIn K mainGlobals "_law_plain" = some (some (.ref f7)))
    (l7 : K.lookup f7 = some ⟨oc7, od7, .func (PySem.W.fnOf "_law_plain" "_law_plain" (defArgs st_c_law_plain) (defBody st_c_law_plain) (defScope st_c_law_plain) .none kV7 dc7 pm7 an7 cd7 ct7), sl7⟩)
    (c7 : PySem.W.codeIn K cd7 "_law_plain" = true)
    (k7 : PySem.W.keepIn K (.ref f7) = true)
    (a8 : PySem.W.nsIn K mainGlobals "_law_number" = some (some (.ref f8)))
    (l8 : K.lookup f8 = some ⟨oc8, od8, .func (PySem.W.fnOf "_law_number" "_law_number" (defArgs st_c_law_number) (defBody st_c_law_number) (defScope st_c_law_number) .none kV8 dc8 pm8 an8 cd8 ct8), sl8⟩)
    (c8 : PySem.W.codeIn K cd8 "_law_number" = true)
    (k8 : PySem.W.keepIn K (.ref f8) = true)
    (a9 : PySem.W.nsIn K mainGlobals "_law_gcd" = some (some (.ref f9)))
    (l9 : K.lookup f9 = some ⟨oc9, od9, .func (PySem.W.fnOf "_law_gcd" "_law_gcd" (defArgs st_c_law_gcd) (defBody st_c_law_gcd) (defScope st_c_law_gcd) .none kV9 dc9 pm9 an9 cd9 ct9), sl9⟩)
    (c9 : PySem.W.codeIn K cd9 "_law_gcd" = true)
    (k9 : PySem.W.keepIn K (.ref f9) = true)
    (a10 : PySem.W.nsIn K mainGlobals "_law_fraction" = some (some (.ref f10)))
    (l10 : K.lookup f10 = some ⟨oc10, od10, .func (PySem.W.fnOf "_law_fraction" "_law_fraction" (defArgs st_c_law_fraction) (defBody st_c_law_fraction) (defScope st_c_law_fraction) .none kV10 dc10 pm10 an10 cd10 ct10), sl10⟩)
    (c10 : PySem.W.codeIn K cd10 "_law_fraction" = true)
    (k10 : PySem.W.keepIn K (.ref f10) = true)
    (a11 : PySem.W.nsIn K mainGlobals "_law_why" = some (some (.ref f11)))
    (l11 : K.lookup f11 = some ⟨oc11, od11, .func (PySem.W.fnOf "_law_why" "_law_why" (defArgs st_c_law_why) (defBody st_c_law_why) (defScope st_c_law_why) .none kV11 dc11 pm11 an11 cd11 ct11), sl11⟩)
    (c11 : PySem.W.codeIn K cd11 "_law_why" = true)
    (k11 : PySem.W.keepIn K (.ref f11) = true)
    (a12 : PySem.W.nsIn K mainGlobals "_law_plus" = some (some (.ref f12)))
    (l12 : K.lookup f12 = some ⟨oc12, od12, .func (PySem.W.fnOf "_law_plus" "_law_plus" (defArgs st_c_law_plus) (defBody st_c_law_plus) (defScope st_c_law_plus) .none kV12 dc12 pm12 an12 cd12 ct12), sl12⟩)
    (c12 : PySem.W.codeIn K cd12 "_law_plus" = true)
    (k12 : PySem.W.keepIn K (.ref f12) = true)
    (a13 : PySem.W.nsIn K mainGlobals "_law_squares" = some (some (.ref f13)))
    (l13 : K.lookup f13 = some ⟨oc13, od13, .func (PySem.W.fnOf "_law_squares" "_law_squares" (defArgs st_c_law_squares) (defBody st_c_law_squares) (defScope st_c_law_squares) .none kV13 dc13 pm13 an13 cd13 ct13), sl13⟩)
    (c13 : PySem.W.codeIn K cd13 "_law_squares" = true)
    (k13 : PySem.W.keepIn K (.ref f13) = true)
    (a14 : PySem.W.nsIn K mainGlobals "law" = some (some (.ref f14)))
    (l14 : K.lookup f14 = some ⟨oc14, od14, .func (PySem.W.fnOf "law" "law" (defArgs st_c_law) (defBody st_c_law) (defScope st_c_law) .none kV14 dc14 pm14 an14 cd14 ct14), sl14⟩)
    (c14 : PySem.W.codeIn K cd14 "law" = true)
    (k14 : PySem.W.keepIn K (.ref f14) = true)
    (b1_SlotError : PySem.W.specialIn K (.ref C_SlotError) "__getattribute__" = some (some (.builtin "type.__getattribute__")))
    (b2_SlotError : PySem.W.readsIn K C_SlotError (.type "type") = true)
    (b3_SlotError : PySem.W.findCls K (.ref C_SlotError) (.type "type") "__init__" = some (.val (.builtin "ValueError.__init__")))
    (x_InvalidTime : K.lookup C_InvalidTime = some (excClassObj nm_InvalidTime q_InvalidTime C_InvalidTime N_InvalidTime bs_InvalidTime bm_InvalidTime true sn_InvalidTime sub_InvalidTime ab_InvalidTime col_InvalidTime dd_InvalidTime m0_InvalidTime m1_InvalidTime m2_InvalidTime m3_InvalidTime m5_InvalidTime "ValueError.__new__"))
    (rv_InvalidTime : PySem.HandSPX.refsVE bm_InvalidTime = true)
    (sa_InvalidTime : PySem.W.findIn K (.ref C_InvalidTime) "__setattr__" = some (some (.builtin "object.__setattr__")))
    (ga_InvalidTime : PySem.W.findIn K (.ref C_InvalidTime) "__getattribute__" = some (some (.builtin "BaseException.__getattribute__")))
    (gg_InvalidTime : PySem.W.findIn K (.ref C_InvalidTime) "__getattr__" = some none)
    (kC_InvalidTime : PySem.W.keepIn K (.ref C_InvalidTime) = true)
    (eC_InvalidTime : PySem.W.subIn K (.ref C_InvalidTime) (.type "BaseException") = some true)
    (tC_InvalidTime : PySem.W.typeIn K (.ref C_InvalidTime) = some (.type "type"))
    (hC_InvalidTime : PySem.W.hasDictIn K C_InvalidTime = true)
    (ic_InvalidTime : (PySem.W.clsIn K C_InvalidTime).isSome = true)
    (cc_InvalidTime : PySem.W.findIn K (.ref C_InvalidTime) "__class__" = some (some (.builtin "object.__class__")))
    (mo_InvalidTime : PySem.W.mroIn K C_InvalidTime (.type "object") = some true)
    (ti_InvalidTime : PySem.W.typeIn K (.ref f0) = some (.type "function"))
    (no_InvalidTime_what : PySem.W.findIn K (.ref C_InvalidTime) "what" = some none)
    (em_InvalidTime_SlotError : PySem.W.exmOne K (.ref C_InvalidTime) (.ref C_SlotError) = some true)
    (em_InvalidTime_InvalidTime : PySem.W.exmOne K (.ref C_InvalidTime) (.ref C_InvalidTime) = some true)
    (x_InvalidMoney : K.lookup C_InvalidMoney = some (excClassObj nm_InvalidMoney q_InvalidMoney C_InvalidMoney N_InvalidMoney bs_InvalidMoney bm_InvalidMoney true sn_InvalidMoney sub_InvalidMoney ab_InvalidMoney col_InvalidMoney dd_InvalidMoney m0_InvalidMoney m1_InvalidMoney m2_InvalidMoney m3_InvalidMoney m5_InvalidMoney "ValueError.__new__"))
    (rv_InvalidMoney : PySem.HandSPX.refsVE bm_InvalidMoney = true)
    (sa_InvalidMoney : PySem.W.findIn K (.ref C_InvalidMoney) "__setattr__" = some (some (.builtin "object.__setattr__")))
    (ga_InvalidMoney : PySem.W.findIn K (.ref C_InvalidMoney) "__getattribute__" = some (some (.builtin "BaseException.__getattribute__")))
    (gg_InvalidMoney : PySem.W.findIn K (.ref C_InvalidMoney) "__getattr__" = some none)
    (kC_InvalidMoney : PySem.W.keepIn K (.ref C_InvalidMoney) = true)
    (eC_InvalidMoney : PySem.W.subIn K (.ref C_InvalidMoney) (.type "BaseException") = some true)
    (tC_InvalidMoney : PySem.W.typeIn K (.ref C_InvalidMoney) = some (.type "type"))
    (hC_InvalidMoney : PySem.W.hasDictIn K C_InvalidMoney = true)
    (ic_InvalidMoney : (PySem.W.clsIn K C_InvalidMoney).isSome = true)
    (cc_InvalidMoney : PySem.W.findIn K (.ref C_InvalidMoney) "__class__" = some (some (.builtin "object.__class__")))
    (mo_InvalidMoney : PySem.W.mroIn K C_InvalidMoney (.type "object") = some true)
    (ti_InvalidMoney : PySem.W.typeIn K (.ref f1) = some (.type "function"))
    (no_InvalidMoney_what : PySem.W.findIn K (.ref C_InvalidMoney) "what" = some none)
    (em_InvalidMoney_SlotError : PySem.W.exmOne K (.ref C_InvalidMoney) (.ref C_SlotError) = some true)
    (em_InvalidMoney_InvalidMoney : PySem.W.exmOne K (.ref C_InvalidMoney) (.ref C_InvalidMoney) = some true)
    (x_InvalidTable : K.lookup C_InvalidTable = some (excClassObj nm_InvalidTable q_InvalidTable C_InvalidTable N_InvalidTable bs_InvalidTable bm_InvalidTable true sn_InvalidTable sub_InvalidTable ab_InvalidTable col_InvalidTable dd_InvalidTable m0_InvalidTable m1_InvalidTable m2_InvalidTable m3_InvalidTable m5_InvalidTable "ValueError.__new__"))
    (rv_InvalidTable : PySem.HandSPX.refsVE bm_InvalidTable = true)
    (sa_InvalidTable : PySem.W.findIn K (.ref C_InvalidTable) "__setattr__" = some (some (.builtin "object.__setattr__")))
    (ga_InvalidTable : PySem.W.findIn K (.ref C_InvalidTable) "__getattribute__" = some (some (.builtin "BaseException.__getattribute__")))
    (gg_InvalidTable : PySem.W.findIn K (.ref C_InvalidTable) "__getattr__" = some none)
    (kC_InvalidTable : PySem.W.keepIn K (.ref C_InvalidTable) = true)
    (eC_InvalidTable : PySem.W.subIn K (.ref C_InvalidTable) (.type "BaseException") = some true)
    (tC_InvalidTable : PySem.W.typeIn K (.ref C_InvalidTable) = some (.type "type"))
    (hC_InvalidTable : PySem.W.hasDictIn K C_InvalidTable = true)
    (ic_InvalidTable : (PySem.W.clsIn K C_InvalidTable).isSome = true)
    (cc_InvalidTable : PySem.W.findIn K (.ref C_InvalidTable) "__class__" = some (some (.builtin "object.__class__")))
    (mo_InvalidTable : PySem.W.mroIn K C_InvalidTable (.type "object") = some true)
    (ti_InvalidTable : PySem.W.typeIn K (.ref f2) = some (.type "function"))
    (no_InvalidTable_what : PySem.W.findIn K (.ref C_InvalidTable) "what" = some none)
    (em_InvalidTable_SlotError : PySem.W.exmOne K (.ref C_InvalidTable) (.ref C_SlotError) = some true)
    (em_InvalidTable_InvalidTable : PySem.W.exmOne K (.ref C_InvalidTable) (.ref C_InvalidTable) = some true)
    (z_hn : PySem.W.specialIn K (.builtin "object.__class__") "__get__" = some (some (.builtin "getset_descriptor.__get__")))
    (z_ht : PySem.W.takesIn K (.builtin "object.__class__") = some true)
    (kt_InvalidTable_InvalidTable : PySem.W.kitOne K (.ref C_InvalidTable) (.ref C_InvalidTable) = some true)
    (kt_InvalidTable_InvalidTime : PySem.W.kitOne K (.ref C_InvalidTable) (.ref C_InvalidTime) = some false)
    (n_abs : PySem.W.nsIn K mainGlobals "abs" = some none)
    (n_bool : PySem.W.nsIn K mainGlobals "bool" = some none)
    (n_enumerate : PySem.W.nsIn K mainGlobals "enumerate" = some none)
    (n_int : PySem.W.nsIn K mainGlobals "int" = some none)
    (n_isinstance : PySem.W.nsIn K mainGlobals "isinstance" = some none)
    (n_len : PySem.W.nsIn K mainGlobals "len" = some none)
    (n_list : PySem.W.nsIn K mainGlobals "list" = some none)
    (n_range : PySem.W.nsIn K mainGlobals "range" = some none)
    (n_str : PySem.W.nsIn K mainGlobals "str" = some none)
    (n_sum : PySem.W.nsIn K mainGlobals "sum" = some none)
    (n_tuple : PySem.W.nsIn K mainGlobals "tuple" = some none)
    (i_gcd : PySem.W.nsIn K mainGlobals "gcd" = some (some (.builtin "math.gcd")))
    : ∃ fd : FuncData, (∀ (s : Shared) (v : Value), BindsTo s fd ⟨[v], []⟩ [("script", v)]) ∧ ∀ base : Heap, K.In base → base.Ns mainGlobals mg → FnOk l.prog w K mg base (L2.CX l.prog w) 6 fa fd ["script"] (sp_c_law K) := by
  have e := hfa.symm.trans (PySem.W.mg_of X G a14)
  cases e
  have T : Txt K mg { f_c_InvalidTime_init := f0, d_c_InvalidTime_init := (PySem.W.fnOf "__init__" "InvalidTime.__init__" (defArgs st_c_InvalidTime_init) (defBody st_c_InvalidTime_init) (defScope st_c_InvalidTime_init) .none kV0 dc0 pm0 an0 cd0 ct0), f_c_InvalidMoney_init := f1, d_c_InvalidMoney_init := (PySem.W.fnOf "__init__" "InvalidMoney.__init__" (defArgs st_c_InvalidMoney_init) (defBody st_c_InvalidMoney_init) (defScope st_c_InvalidMoney_init) .none kV1 dc1 pm1 an1 cd1 ct1), f_c_InvalidTable_init := f2, d_c_InvalidTable_init := (PySem.W.fnOf "__init__" "InvalidTable.__init__" (defArgs st_c_InvalidTable_init) (defBody st_c_InvalidTable_init) (defScope st_c_InvalidTable_init) .none kV2 dc2 pm2 an2 cd2 ct2), f_c_fraction := f3, d_c_fraction := (PySem.W.fnOf "fraction" "fraction" (defArgs st_c_fraction) (defBody st_c_fraction) (defScope st_c_fraction) .none kV3 dc3 pm3 an3 cd3 ct3), f_c_line_through := f4, d_c_line_through := (PySem.W.fnOf "line_through" "line_through" (defArgs st_c_line_through) (defBody st_c_line_through) (defScope st_c_line_through) .none kV4 dc4 pm4 an4 cd4 ct4), f_c_law_deck := f5, d_c_law_deck := (PySem.W.fnOf "_law_deck" "_law_deck" (defArgs st_c_law_deck) (defBody st_c_law_deck) (defScope st_c_law_deck) .none kV5 dc5 pm5 an5 cd5 ct5), f_c_law_take := f6, d_c_law_take := (PySem.W.fnOf "_law_take" "_law_take" (defArgs st_c_law_take) (defBody st_c_law_take) (defScope st_c_law_take) .none kV6 dc6 pm6 an6 cd6 ct6), f_c_law_plain := f7, d_c_law_plain := (PySem.W.fnOf "_law_plain" "_law_plain" (defArgs st_c_law_plain) (defBody st_c_law_plain) (defScope st_c_law_plain) .none kV7 dc7 pm7 an7 cd7 ct7), f_c_law_number := f8, d_c_law_number := (PySem.W.fnOf "_law_number" "_law_number" (defArgs st_c_law_number) (defBody st_c_law_number) (defScope st_c_law_number) .none kV8 dc8 pm8 an8 cd8 ct8), f_c_law_gcd := f9, d_c_law_gcd := (PySem.W.fnOf "_law_gcd" "_law_gcd" (defArgs st_c_law_gcd) (defBody st_c_law_gcd) (defScope st_c_law_gcd) .none kV9 dc9 pm9 an9 cd9 ct9), f_c_law_fraction := f10, d_c_law_fraction := (PySem.W.fnOf "_law_fraction" "_law_fraction" (defArgs st_c_law_fraction) (defBody st_c_law_fraction) (defScope st_c_law_fraction) .none kV10 dc10 pm10 an10 cd10 ct10), f_c_law_why := f11, d_c_law_why := (PySem.W.fnOf "_law_why" "_law_why" (defArgs st_c_law_why) (defBody st_c_law_why) (defScope st_c_law_why) .none kV11 dc11 pm11 an11 cd11 ct11), f_c_law_plus := f12, d_c_law_plus := (PySem.W.fnOf "_law_plus" "_law_plus" (defArgs st_c_law_plus) (defBody st_c_law_plus) (defScope st_c_law_plus) .none kV12 dc12 pm12 an12 cd12 ct12), f_c_law_squares := f13, d_c_law_squares := (PySem.W.fnOf "_law_squares" "_law_squares" (defArgs st_c_law_squares) (defBody st_c_law_squares) (defScope st_c_law_squares) .none kV13 dc13 pm13 an13 cd13 ct13), f_c_law := fa, d_c_law := (PySem.W.fnOf "law" "law" (defArgs st_c_law) (defBody st_c_law) (defScope st_c_law) .none kV14 dc14 pm14 an14 cd14 ct14), C_SlotError := C_SlotError, C_InvalidTime := C_InvalidTime, C_InvalidMoney := C_InvalidMoney, C_InvalidTable := C_InvalidTable } := {
    F_c_InvalidTime_init := fun_mk (st := st_c_InvalidTime_init) l0 c0 k0
    b_c_InvalidTime_init := (fun_mk (st := st_c_InvalidTime_init) l0 c0 k0).binds (ps := ["self", "what"]) fun _ _ _ _ _ _ us hl => match us, hl with | [_, _], _ => rfl
    F_c_InvalidMoney_init := fun_mk (st := st_c_InvalidMoney_init) l1 c1 k1
    b_c_InvalidMoney_init := (fun_mk (st := st_c_InvalidMoney_init) l1 c1 k1).binds (ps := ["self", "what"]) fun _ _ _ _ _ _ us hl => match us, hl with | [_, _], _ => rfl
    F_c_InvalidTable_init := fun_mk (st := st_c_InvalidTable_init) l2 c2 k2
    b_c_InvalidTable_init := (fun_mk (st := st_c_InvalidTable_init) l2 c2 k2).binds (ps := ["self", "what"]) fun _ _ _ _ _ _ us hl => match us, hl with | [_, _], _ => rfl
    F_c_fraction := fun_mk (st := st_c_fraction) l3 c3 k3
    b_c_fraction := (fun_mk (st := st_c_fraction) l3 c3 k3).binds (ps := ["above", "below"]) fun _ _ _ _ _ _ us hl => match us, hl with | [_, _], _ => rfl
    m_c_fraction := PySem.W.mg_of X G a3
    F_c_line_through := fun_mk (st := st_c_line_through) l4 c4 k4
    b_c_line_through := (fun_mk (st := st_c_line_through) l4 c4 k4).binds (ps := ["values"]) fun _ _ _ _ _ _ us hl => match us, hl with | [_], _ => rfl
    m_c_line_through := PySem.W.mg_of X G a4
    F_c_law_deck := fun_mk (st := st_c_law_deck) l5 c5 k5
    b_c_law_deck := (fun_mk (st := st_c_law_deck) l5 c5 k5).binds (ps := ["script", "cells", "each"]) fun _ _ _ _ _ _ us hl => match us, hl with | [_, _, _], _ => rfl
    m_c_law_deck := PySem.W.mg_of X G a5
    F_c_law_take := fun_mk (st := st_c_law_take) l6 c6 k6
    b_c_law_take := (fun_mk (st := st_c_law_take) l6 c6 k6).binds (ps := ["deck", "many"]) fun _ _ _ _ _ _ us hl => match us, hl with | [_, _], _ => rfl
    m_c_law_take := PySem.W.mg_of X G a6
    F_c_law_plain := fun_mk (st := st_c_law_plain) l7 c7 k7
    b_c_law_plain := (fun_mk (st := st_c_law_plain) l7 c7 k7).binds (ps := ["value"]) fun _ _ _ _ _ _ us hl => match us, hl with | [_], _ => rfl
    m_c_law_plain := PySem.W.mg_of X G a7
    F_c_law_number := fun_mk (st := st_c_law_number) l8 c8 k8
    b_c_law_number := (fun_mk (st := st_c_law_number) l8 c8 k8).binds (ps := ["deck"]) fun _ _ _ _ _ _ us hl => match us, hl with | [_], _ => rfl
    m_c_law_number := PySem.W.mg_of X G a8
    F_c_law_gcd := fun_mk (st := st_c_law_gcd) l9 c9 k9
    b_c_law_gcd := (fun_mk (st := st_c_law_gcd) l9 c9 k9).binds (ps := ["one", "two"]) fun _ _ _ _ _ _ us hl => match us, hl with | [_, _], _ => rfl
    m_c_law_gcd := PySem.W.mg_of X G a9
    F_c_law_fraction := fun_mk (st := st_c_law_fraction) l10 c10 k10
    b_c_law_fraction := (fun_mk (st := st_c_law_fraction) l10 c10 k10).binds (ps := ["above", "below"]) fun _ _ _ _ _ _ us hl => match us, hl with | [_, _], _ => rfl
    m_c_law_fraction := PySem.W.mg_of X G a10
    F_c_law_why := fun_mk (st := st_c_law_why) l11 c11 k11
    b_c_law_why := (fun_mk (st := st_c_law_why) l11 c11 k11).binds (ps := ["values"]) fun _ _ _ _ _ _ us hl => match us, hl with | [_], _ => rfl
    m_c_law_why := PySem.W.mg_of X G a11
    F_c_law_plus := fun_mk (st := st_c_law_plus) l12 c12 k12
    b_c_law_plus := (fun_mk (st := st_c_law_plus) l12 c12 k12).binds (ps := ["first", "second"]) fun _ _ _ _ _ _ us hl => match us, hl with | [_, _], _ => rfl
    m_c_law_plus := PySem.W.mg_of X G a12
    F_c_law_squares := fun_mk (st := st_c_law_squares) l13 c13 k13
    b_c_law_squares := (fun_mk (st := st_c_law_squares) l13 c13 k13).binds (ps := ["values", "height", "slope"]) fun _ _ _ _ _ _ us hl => match us, hl with | [_, _, _], _ => rfl
    m_c_law_squares := PySem.W.mg_of X G a13
    F_c_law := fun_mk (st := st_c_law) l14 c14 k14
    b_c_law := (fun_mk (st := st_c_law) l14 c14 k14).binds (ps := ["script"]) fun _ _ _ _ _ _ us hl => match us, hl with | [_], _ => rfl
    m_c_law := PySem.W.mg_of X G a14
    m_SlotError := PySem.W.mg_of X G g_SlotError
    bc_SlotError := ⟨b1_SlotError, b2_SlotError, b3_SlotError⟩
    m_InvalidTime := PySem.W.mg_of X G g_InvalidTime
    ox_InvalidTime := ⟨⟨_, _, _, _, _, _, _, _, _, _, _, _, _, _, _, x_InvalidTime, rv_InvalidTime⟩, sa_InvalidTime, eC_InvalidTime, tC_InvalidTime, kC_InvalidTime⟩
    in_InvalidTime := a0
    ti_InvalidTime := ti_InvalidTime
    no_InvalidTime_what := no_InvalidTime_what
    xf_InvalidTime := ⟨ga_InvalidTime, gg_InvalidTime, eC_InvalidTime, hC_InvalidTime⟩
    is_InvalidTime := ⟨ic_InvalidTime, ga_InvalidTime, gg_InvalidTime, eC_InvalidTime, cc_InvalidTime, z_hn, z_ht, mo_InvalidTime⟩
    em_InvalidTime_SlotError := em_InvalidTime_SlotError
    em_InvalidTime_InvalidTime := em_InvalidTime_InvalidTime
    m_InvalidMoney := PySem.W.mg_of X G g_InvalidMoney
    ox_InvalidMoney := ⟨⟨_, _, _, _, _, _, _, _, _, _, _, _, _, _, _, x_InvalidMoney, rv_InvalidMoney⟩, sa_InvalidMoney, eC_InvalidMoney, tC_InvalidMoney, kC_InvalidMoney⟩
    in_InvalidMoney := a1
    ti_InvalidMoney := ti_InvalidMoney
    no_InvalidMoney_what := no_InvalidMoney_what
    xf_InvalidMoney := ⟨ga_InvalidMoney, gg_InvalidMoney, eC_InvalidMoney, hC_InvalidMoney⟩
    is_InvalidMoney := ⟨ic_InvalidMoney, ga_InvalidMoney, gg_InvalidMoney, eC_InvalidMoney, cc_InvalidMoney, z_hn, z_ht, mo_InvalidMoney⟩
    em_InvalidMoney_SlotError := em_InvalidMoney_SlotError
    em_InvalidMoney_InvalidMoney := em_InvalidMoney_InvalidMoney
    m_InvalidTable := PySem.W.mg_of X G g_InvalidTable
    ox_InvalidTable := ⟨⟨_, _, _, _, _, _, _, _, _, _, _, _, _, _, _, x_InvalidTable, rv_InvalidTable⟩, sa_InvalidTable, eC_InvalidTable, tC_InvalidTable, kC_InvalidTable⟩
    in_InvalidTable := a2
    ti_InvalidTable := ti_InvalidTable
    no_InvalidTable_what := no_InvalidTable_what
    xf_InvalidTable := ⟨ga_InvalidTable, gg_InvalidTable, eC_InvalidTable, hC_InvalidTable⟩
    is_InvalidTable := ⟨ic_InvalidTable, ga_InvalidTable, gg_InvalidTable, eC_InvalidTable, cc_InvalidTable, z_hn, z_ht, mo_InvalidTable⟩
    em_InvalidTable_SlotError := em_InvalidTable_SlotError
    em_InvalidTable_InvalidTable := em_InvalidTable_InvalidTable
    kt_InvalidTable_InvalidTable := kt_InvalidTable_InvalidTable
    kt_InvalidTable_InvalidTime := kt_InvalidTable_InvalidTime
    n_abs := PySem.W.mg_none_of X G n_abs
    n_bool := PySem.W.mg_none_of X G n_bool
    n_enumerate := PySem.W.mg_none_of X G n_enumerate
    n_int := PySem.W.mg_none_of X G n_int
    n_isinstance := PySem.W.mg_none_of X G n_isinstance
    n_len := PySem.W.mg_none_of X G n_len
    n_list := PySem.W.mg_none_of X G n_list
    n_range := PySem.W.mg_none_of X G n_range
    n_str := PySem.W.mg_none_of X G n_str
    n_sum := PySem.W.mg_none_of X G n_sum
    n_tuple := PySem.W.mg_none_of X G n_tuple
    i_gcd := PySem.W.mg_of X G i_gcd
  }
  exact ⟨(PySem.W.fnOf "law" "law" (defArgs st_c_law) (defBody st_c_law) (defScope st_c_law) .none kV14 dc14 pm14 an14 cd14 ct14), fun s v => .of_eq rfl, fun base _ _ => ok_c_law T⟩
theorem walk {l : PySem.W.OpenLaw} {q : Program} {loose : List Str} {XP : (Str → Option Value) → Heap → Prop} {YP : World → Heap → Prop} {d : DefRec} {K : Params → PySem.W.Frag} (hn : l.most = some 63) (hdf : d.params.defaults = [])
    (hY : ∀ (w : World) (h : Heap), YP w h → (K w.params).In h)
    (F : ∀ (w : World) (mg : Str → Option Value) (fa : Addr) (h : Heap), (K w.params).In h → h.Ns mainGlobals mg → mg d.name = some (.ref fa) →
      ∃ fd : FuncData, (∀ (s : Shared) (u : Value), BindsTo s fd ⟨[u], []⟩ [("script", u)]) ∧ ∀ base : Heap, (K w.params).In base → base.Ns mainGlobals mg → FnOk l.prog w (K w.params) mg base (L2.CX l.prog w) 6 fa fd ["script"] (sp_c_law (K w.params))) :
    PySem.W.WalkO q loose XP YP l.row.toRowW d [] (fun f vs => PySem.call f vs) :=
  L2.walk_of (n := 63) (k := 6) (x := "script") (CX := fun w => L2.CX l.prog w) (sp := fun w => sp_c_law (K w.params)) hn (by decide) hdf ⟨rfl, by decide, by decide⟩ hY F (fun _ _ a ns hl _ hS => ⟨a, ns, rfl, hS, hl, fun _ => rfl⟩)
    fun _ _ _ _ _ z => by obtain ⟨_, _, _, _, _, _, _, _, _, _, _, _, z⟩ := z; exact z
end K56
open PySem PySem.W PyProof.Rows
set_option maxRecDepth 100000 in
set_option maxHeartbeats 0 in
theorem PySem.Challenge.cw_slotwork_k56_lines_through_values_holds : PySem.Challenge.rw_slotwork_k56_lines_through_values.Holds := by
  w_on; o_law; k_head; (case hw => w_witness2)
  k_fill
  refine K56.walk (l := PySem.Challenge.rw_slotwork_k56_lines_through_values) rfl rfl (fun w h Y => PySem.W.kIn_of Y) ?F
  case F =>
    intro w mg fa h KX G hmg
    refine' K56.all_mk KX G hmg ?g_SlotError ?g_InvalidTime ?g_InvalidMoney ?g_InvalidTable ?a0 ?l0 ?c0 ?k0 ?a1 ?l1 ?c1 ?k1 ?a2 ?l2 ?c2 ?k2 ?a3 ?l3 ?c3 ?k3 ?a4 ?l4 ?c4 ?k4 ?a5 ?l5 ?c5 ?k5 ?a6 ?l6 ?c6 ?k6 ?a7 ?l7 ?c7 ?k7 ?a8 ?l8 ?c8 ?k8 ?a9 ?l9 ?c9 ?k9 ?a10 ?l10 ?c10 ?k10 ?a11 ?l11 ?c11 ?k11 ?a12 ?l12 ?c12 ?k12 ?a13 ?l13 ?c13 ?k13 ?a14 ?l14 ?c14 ?k14 ?b1_SlotError ?b2_SlotError ?b3_SlotError ?x_InvalidTime ?rv_InvalidTime ?sa_InvalidTime ?ga_InvalidTime ?gg_InvalidTime ?kC_InvalidTime ?eC_InvalidTime ?tC_InvalidTime ?hC_InvalidTime ?ic_InvalidTime ?cc_InvalidTime ?mo_InvalidTime ?ti_InvalidTime ?no_InvalidTime_what ?em_InvalidTime_SlotError ?em_InvalidTime_InvalidTime ?x_InvalidMoney ?rv_InvalidMoney ?sa_InvalidMoney ?ga_InvalidMoney ?gg_InvalidMoney ?kC_InvalidMoney ?eC_InvalidMoney ?tC_InvalidMoney ?hC_InvalidMoney ?ic_InvalidMoney ?cc_InvalidMoney ?mo_InvalidMoney ?ti_InvalidMoney ?no_InvalidMoney_what ?em_InvalidMoney_SlotError ?em_InvalidMoney_InvalidMoney ?x_InvalidTable ?rv_InvalidTable ?sa_InvalidTable ?ga_InvalidTable ?gg_InvalidTable ?kC_InvalidTable ?eC_InvalidTable ?tC_InvalidTable ?hC_InvalidTable ?ic_InvalidTable ?cc_InvalidTable ?mo_InvalidTable ?ti_InvalidTable ?no_InvalidTable_what ?em_InvalidTable_SlotError ?em_InvalidTable_InvalidTable ?z_hn ?z_ht ?kt_InvalidTable_InvalidTable ?kt_InvalidTable_InvalidTime ?n_abs ?n_bool ?n_enumerate ?n_int ?n_isinstance ?n_len ?n_list ?n_range ?n_str ?n_sum ?n_tuple ?i_gcd
    (case g_SlotError => first | k_is | rfl | decide +kernel)
    (case g_InvalidTime => first | k_is | rfl | decide +kernel)
    (case g_InvalidMoney => first | k_is | rfl | decide +kernel)
    (case g_InvalidTable => first | k_is | rfl | decide +kernel)
    (case a0 => first | k_is | rfl | decide +kernel)
    (case l0 => first | k_is | rfl | decide +kernel)
    (case c0 => first | k_is | rfl | decide +kernel)
    (case k0 => first | k_is | rfl | decide +kernel)
    (case a1 => first | k_is | rfl | decide +kernel)
    (case l1 => first | k_is | rfl | decide +kernel)
    (case c1 => first | k_is | rfl | decide +kernel)
    (case k1 => first | k_is | rfl | decide +kernel)
    (case a2 => first | k_is | rfl | decide +kernel)
    (case l2 => first | k_is | rfl | decide +kernel)
    (case c2 => first | k_is | rfl | decide +kernel)
    (case k2 => first | k_is | rfl | decide +kernel)
    (case a3 => first | k_is | rfl | decide +kernel)
    (case l3 => first | k_is | rfl | decide +kernel)
    (case c3 => first | k_is | rfl | decide +kernel)
    (case k3 => first | k_is | rfl | decide +kernel)
    (case a4 => first | k_is | rfl | decide +kernel)
    (case l4 => first | k_is | rfl | decide +kernel)
    (case c4 => first | k_is | rfl | decide +kernel)
    (case k4 => first | k_is | rfl | decide +kernel)
    (case a5 => first | k_is | rfl | decide +kernel)
    (case l5 => first | k_is | rfl | decide +kernel)
    (case c5 => first | k_is | rfl | decide +kernel)
    (case k5 => first | k_is | rfl | decide +kernel)
    (case a6 => first | k_is | rfl | decide +kernel)
    (case l6 => first | k_is | rfl | decide +kernel)
    (case c6 => first | k_is | rfl | decide +kernel)
    (case k6 => first | k_is | rfl | decide +kernel)
    (case a7 => first | k_is | rfl | decide +kernel)
    (case l7 => first | k_is | rfl | decide +kernel)
    (case c7 => first | k_is | rfl | decide +kernel)
    (case k7 => first | k_is | rfl | decide +kernel)
    (case a8 => first | k_is | rfl | decide +kernel)
    (case l8 => first | k_is | rfl | decide +kernel)
    (case c8 => first | k_is | rfl | decide +kernel)
    (case k8 => first | k_is | rfl | decide +kernel)
    (case a9 => first | k_is | rfl | decide +kernel)
    (case l9 => first | k_is | rfl | decide +kernel)
    (case c9 => first | k_is | rfl | decide +kernel)
    (case k9 => first | k_is | rfl | decide +kernel)
    (case a10 => first | k_is | rfl | decide +kernel)
    (case l10 => first | k_is | rfl | decide +kernel)
    (case c10 => first | k_is | rfl | decide +kernel)
    (case k10 => first | k_is | rfl | decide +kernel)
    (case a11 => first | k_is | rfl | decide +kernel)
    (case l11 => first | k_is | rfl | decide +kernel)
    (case c11 => first | k_is | rfl | decide +kernel)
    (case k11 => first | k_is | rfl | decide +kernel)
    (case a12 => first | k_is | rfl | decide +kernel)
    (case l12 => first | k_is | rfl | decide +kernel)
    (case c12 => first | k_is | rfl | decide +kernel)
    (case k12 => first | k_is | rfl | decide +kernel)
    (case a13 => first | k_is | rfl | decide +kernel)
    (case l13 => first | k_is | rfl | decide +kernel)
    (case c13 => first | k_is | rfl | decide +kernel)
    (case k13 => first | k_is | rfl | decide +kernel)
    (case a14 => first | k_is | rfl | decide +kernel)
    (case l14 => first | k_is | rfl | decide +kernel)
    (case c14 => first | k_is | rfl | decide +kernel)
    (case k14 => first | k_is | rfl | decide +kernel)
    (case b1_SlotError => first | k_is | rfl | decide +kernel)
    (case b2_SlotError => first | k_is | rfl | decide +kernel)
    (case b3_SlotError => first | k_is | rfl | decide +kernel)
    (case x_InvalidTime => first | k_is | rfl | decide +kernel)
    (case rv_InvalidTime => first | k_is | rfl | decide +kernel)
    (case sa_InvalidTime => first | k_is | rfl | decide +kernel)
    (case ga_InvalidTime => first | k_is | rfl | decide +kernel)
    (case gg_InvalidTime => first | k_is | rfl | decide +kernel)
    (case kC_InvalidTime => first | k_is | rfl | decide +kernel)
    (case eC_InvalidTime => first | k_is | rfl | decide +kernel)
    (case tC_InvalidTime => first | k_is | rfl | decide +kernel)
    (case hC_InvalidTime => first | k_is | rfl | decide +kernel)
    (case ic_InvalidTime => first | k_is | rfl | decide +kernel)
    (case cc_InvalidTime => first | k_is | rfl | decide +kernel)
    (case mo_InvalidTime => first | k_is | rfl | decide +kernel)
    (case ti_InvalidTime => first | k_is | rfl | decide +kernel)
    (case no_InvalidTime_what => first | k_is | rfl | decide +kernel)
    (case em_InvalidTime_SlotError => first | k_is | rfl | decide +kernel)
    (case em_InvalidTime_InvalidTime => first | k_is | rfl | decide +kernel)
    (case x_InvalidMoney => first | k_is | rfl | decide +kernel)
    (case rv_InvalidMoney => first | k_is | rfl | decide +kernel)
    (case sa_InvalidMoney => first | k_is | rfl | decide +kernel)
    (case ga_InvalidMoney => first | k_is | rfl | decide +kernel)
    (case gg_InvalidMoney => first | k_is | rfl | decide +kernel)
    (case kC_InvalidMoney => first | k_is | rfl | decide +kernel)
    (case eC_InvalidMoney => first | k_is | rfl | decide +kernel)
    (case tC_InvalidMoney => first | k_is | rfl | decide +kernel)
    (case hC_InvalidMoney => first | k_is | rfl | decide +kernel)
    (case ic_InvalidMoney => first | k_is | rfl | decide +kernel)
    (case cc_InvalidMoney => first | k_is | rfl | decide +kernel)
    (case mo_InvalidMoney => first | k_is | rfl | decide +kernel)
    (case ti_InvalidMoney => first | k_is | rfl | decide +kernel)
    (case no_InvalidMoney_what => first | k_is | rfl | decide +kernel)
    (case em_InvalidMoney_SlotError => first | k_is | rfl | decide +kernel)
    (case em_InvalidMoney_InvalidMoney => first | k_is | rfl | decide +kernel)
    (case x_InvalidTable => first | k_is | rfl | decide +kernel)
    (case rv_InvalidTable => first | k_is | rfl | decide +kernel)
    (case sa_InvalidTable => first | k_is | rfl | decide +kernel)
    (case ga_InvalidTable => first | k_is | rfl | decide +kernel)
    (case gg_InvalidTable => first | k_is | rfl | decide +kernel)
    (case kC_InvalidTable => first | k_is | rfl | decide +kernel)
    (case eC_InvalidTable => first | k_is | rfl | decide +kernel)
    (case tC_InvalidTable => first | k_is | rfl | decide +kernel)
    (case hC_InvalidTable => first | k_is | rfl | decide +kernel)
    (case ic_InvalidTable => first | k_is | rfl | decide +kernel)
    (case cc_InvalidTable => first | k_is | rfl | decide +kernel)
    (case mo_InvalidTable => first | k_is | rfl | decide +kernel)
    (case ti_InvalidTable => first | k_is | rfl | decide +kernel)
    (case no_InvalidTable_what => first | k_is | rfl | decide +kernel)
    (case em_InvalidTable_SlotError => first | k_is | rfl | decide +kernel)
    (case em_InvalidTable_InvalidTable => first | k_is | rfl | decide +kernel)
    (case z_hn => first | k_is | rfl | decide +kernel)
    (case z_ht => first | k_is | rfl | decide +kernel)
    (case kt_InvalidTable_InvalidTable => first | k_is | rfl | decide +kernel)
    (case kt_InvalidTable_InvalidTime => first | k_is | rfl | decide +kernel)
    (case n_abs => first | k_is | rfl | decide +kernel)
    (case n_bool => first | k_is | rfl | decide +kernel)
    (case n_enumerate => first | k_is | rfl | decide +kernel)
    (case n_int => first | k_is | rfl | decide +kernel)
    (case n_isinstance => first | k_is | rfl | decide +kernel)
    (case n_len => first | k_is | rfl | decide +kernel)
    (case n_list => first | k_is | rfl | decide +kernel)
    (case n_range => first | k_is | rfl | decide +kernel)
    (case n_str => first | k_is | rfl | decide +kernel)
    (case n_sum => first | k_is | rfl | decide +kernel)
    (case n_tuple => first | k_is | rfl | decide +kernel)
    (case i_gcd => first | k_is | rfl | decide +kernel)
