import PyProof.Rows.All
import Wide.All
import OpenK.AllK
import Wide.FinOn
import HandS.ForMost
import HandS.ForExc
import HandS.ExcInit
import HandS.ExcField
import HandS.IsInst
import HandS.Style
import HandS.Gcd
import HandS.Wide
import HandS.Deep
import HandS.Flow
import HandS.Zip
import HandS.Evl
import HandS.Walk
import HandS.SortInts
import KE.KExcIs
import PySem.Challenge.RW_slotwork_k45_prices_changed
set_option Elab.async false
set_option linter.all false
set_option maxRecDepth 100000
set_option maxHeartbeats 4000000
namespace Sw
open PySem PySem.Spec PyProof.Rows L2
section
variable {X : Cx}
/-- what the written part says of the own class B over ValueError, so that B.__init__(self, ..) is ValueError's -/
structure BaseC (K : PySem.W.Frag) (B : Addr) : Prop where
  sp : PySem.W.specialIn K (.ref B) "__getattribute__" = some (some (.builtin "type.__getattribute__"))
  rd : PySem.W.readsIn K B (.type "type") = true
  iv : PySem.W.findCls K (.ref B) (.type "type") "__init__" = some (.val (.builtin "ValueError.__init__"))
theorem pe_binit {x : Str} {B : Addr} {p1 p2 pos : Pos} {e : Expr} {es : List Expr} {ta : TA} {pl : Sem Bool} (T : BaseC X.K B) (hg : Gl X x) (hm : X.mg x = some (.ref B)) (ha : PA X (e :: es) ta)
    (hdb : (x == ("__debug__" : Str)) = false := by decide)
    (hc : eval (.Call (.Attribute (.Name x p1) "__init__" p2) (e :: es) [] pos) X.env = (do
      let o ← eval (.Name x p1) X.env
      standAt p2.atName
      let (g, fst) ← holding [o] (getMethod o "__init__" pl)
      callWith pos g fst (backTo pos (starEach (e :: es) X.env)) (backToKw pos (keywordEach [] X.env))) := by rfl)
    (he : starEach (e :: es) X.env = (false, eval e X.env) :: starEach es X.env := by rfl) (hpl : (backTo pos (starEach es X.env)).any (·.1) = false := by rfl) :
    PE X (.Call (.Attribute (.Name x p1) "__init__" p2) (e :: es) [] pos) (tVeI X.K ta) := by
  refine ⟨fun pins s σ H Q I h => ?_⟩
  refine PySem.W.methodCall_KW (ld_glob I hg hm ?_ hdb) hc
  refine PySem.W.method_cls I.kIn T.sp ?_
  refine PySem.W.cls_value I.kIn T.rd T.iv (by decide +kernel) ?_
  refine PyProof.Rows.callWith_method1 (thn (ha.run pos pins _ σ H _ (I.tok _) h) fun us s1 ⟨vs, H1, I1, r1, a, C, ws, ev, hl, T', ea, q⟩ => ?_) he hpl
  subst ev
  cases r1 with
  | @cons _ u0 _ ur ra rw' =>
    obtain rfl : u0 = Value.ref a := ra
    refine oinit_ok T' I1 ea ?_ fun s' J => ⟨.non, H1, J, rfl, q⟩
    rw [← Paired.length rw', sizeLine_eq]
    omega

/-- isinstance(error, c), error the exception that the suite holds, at a, of the class at D -/
structure IsC (K : PySem.W.Frag) (D : Addr) : Prop where
  hc : (PySem.W.clsIn K D).isSome = true
  hg : PySem.W.findIn K (.ref D) "__getattribute__" = some (some (.builtin "BaseException.__getattribute__"))
  hk : PySem.W.findIn K (.ref D) "__getattr__" = some none
  hs : PySem.W.subIn K (.ref D) (.type "BaseException") = some true
  ha : PySem.W.findIn K (.ref D) "__class__" = some (some (.builtin "object.__class__"))
  hn : PySem.W.specialIn K (.builtin "object.__class__") "__get__" = some (some (.builtin "getset_descriptor.__get__"))
  ht : PySem.W.takesIn K (.builtin "object.__class__") = some true
  hm : PySem.W.mroIn K D (.type "object") = some true
def rIsX (K : PySem.W.Frag) (a : Addr) (cls : Value) (d : Option Addr) : List V → Hp → VK → Prop := fun xs H Q =>
  ∃ (D C : Addr) (b : Bool) (dd : Addr) (fs : List (Str × V)), xs = [.ref a, .ref C] ∧ cls = .ref D ∧ IsC K D ∧ d = some dd ∧ H dd = some (.xd fs) ∧ PySem.W.kitOne K (.ref D) (.ref C) = some b ∧ Q (.bl b) H
theorem call_isX {a : Addr} {cls : Value} {d : Option Addr} {oe : Obj} {pn : List (Addr × Obj)} (hz : Zc cls d oe) (hf : ∃ vs, oe.data = .fields vs) : CallR (X.suite a ((a, oe) :: pn)) (.builtin "isinstance") (rIsX X.K a cls d) := by
  intro pins s σ H xs us Q I r h
  obtain ⟨D, C, b, dd, fs, rfl, rfl, T, rfl, ea, e, q⟩ := h
  cases r with
  | cons rx rr =>
    cases rr with
    | cons rt rr =>
      cases rr
      cases rx
      cases rt
      have hget := (I.pin (a, oe) (List.mem_append_left _ List.mem_cons_self)).1
      obtain ⟨mA, hns, hr⟩ := (show ObjOk X.prog X.w H s.heap dd (.xd fs) from I.hok dd _ ea)
      obtain ⟨od, ho, hl⟩ := lookIn_ns hns
      obtain ⟨vs, hd⟩ := hf
      have J : PySem.W.InstAt s.heap a oe D (some od) := ⟨hget, hz.1, by unfold PySem.W.notCls; rw [hd] <;> rfl, by rw [hz.2]; exact ho⟩
      exact PySem.W.kia_one (PySem.W.kitx_exc T.hc T.hg T.hk T.hs T.ha T.hn T.ht T.hm) I.kIn J e (fun z => nomatch z) fun tk => ⟨.bl b, H, I.tok tk, rfl, q⟩
end

/-! ### // by a divisor of any sign, of many digits -/
def CDivZ (_ j : Int) : Prop := j ≠ 0 ∧ j.natAbs.log2 < 9000
theorem op_fdivZ {X : Cx} : OpR X (binaryOp .FloorDiv) (rI CDivZ fun i j => .int (i.fdiv j)) := opI fun i j _ _ _ _ _ hc k => floordiv_int hc.1 k (.inl (PyProof.noPylong_of_log2 hc.2))
theorem cdivZ_of {i j : Int} {b : Nat} (h : j ≠ 0) (hb : j.natAbs < 2 ^ b) (h0 : 0 < b) (h9 : b ≤ 9000) : CDivZ i j := ⟨h, Nat.lt_of_lt_of_le (PySem.Flt.log2_lt_of h0 hb) h9⟩

/-! ### heaps -/
theorem upd_self {H : Hp} {p : Addr} {o : HO} (h : H p = some o) : upd H p o = H := by
  funext b
  by_cases e : b = p
  · rw [e, upd_same, h]
  · rw [upd_ne e]
theorem _root_.L2.Same.new {H : Hp} {p : Addr} {o : HO} (h : H p = none) : Same H (upd H p o) := fun b u e => by
  rw [upd_ne (ne_of_none e h)]
  exact e
theorem _root_.L2.Same.then_new {H H' : Hp} {p : Addr} {o : HO} (e : Same H H') (h : H' p = none) : Same H (upd H' p o) := e.trans (Same.new h)
/-- what H does not know may change -/
theorem _root_.L2.Same.mut {H H' : Hp} {p : Addr} {o : HO} (e : Same H H') (h : H p = none) : Same H (upd H' p o) := fun b u ha => by
  rw [upd_ne (ne_of_none ha h)]
  exact e b u ha
theorem _root_.L2.Same.tup {K : PySem.W.Frag} {H H' : Hp} {a : Addr} {xs : List V} (e : Same H H') (h : SqT K H a xs) : SqT K H' a xs := by
  rcases h with (h | ⟨o, h⟩) | h
  · exact .inl (.inl (e _ _ h))
  · exact .inl (.inr ⟨o, e _ _ h⟩)
  · exact .inr h

theorem same_none {H : Hp} : Same (fun _ => none) H := fun _ _ e => by cases e

/-! ### raise C(w) -/
/-- C(w) is raised, w its what -/
def raisesW (C : Addr) (w : Str) (H : Hp) (E : XK) : Prop := ∀ d H', Same H H' → H' d = some (.xd [("what", .str w)]) → E (.ref C) (some d) H'
theorem raisesW.mono {C : Addr} {w : Str} {H H' : Hp} {E : XK} (h : raisesW C w H E) (s : Same H H') : raisesW C w H' E := fun d H2 s2 hd => h d H2 (s.trans s2) hd
def sp_exinit (C : Addr) : Sp := fun vs H Q _ => ∃ (x : Addr) (w : Str), vs = [.ref x, .str w] ∧ H x = some (exo x C none) ∧ w.length ≤ 1000 ∧ ∀ dx, H dx = none → dx ≠ x → Q .non (upd (upd H dx (exd dx [("what", .str w)])) x (exo x C (some dx)))
theorem raise_ok {C : Addr} {w : Str} {H : Hp} {E : XK} (h : raisesW C w H E) (hl : w.length ≤ 1000) : ∀ a, H a = none → sp_exinit C (.ref a :: ([.str w] ++ [])) (upd H a (exo a C none))
    (fun v H2 => v = .non ∧ ∃ (d : Addr) (fs : List (Str × V)), H2 a = some (exo a C (some d)) ∧ H2 d = some (exd d fs) ∧ H d = none ∧ E (.ref C) (some d) (upd (del H2 a) d (.xd fs))) (fun _ _ _ => False) := fun a ha =>
  ⟨a, w, rfl, upd_same, hl, fun dx hd hne => by
    have hd' : H dx = none := by rw [upd_ne hne] at hd; exact hd
    refine ⟨rfl, dx, _, upd_same, by rw [upd_ne hne, upd_same], hd', h dx _ (fun b o e => ?_) upd_same⟩
    have n1 : b ≠ dx := ne_of_none e hd'
    have n2 : b ≠ a := ne_of_none e ha
    rw [upd_ne n1, del_ne n2, upd_ne n2, upd_ne n1, upd_ne n2]
    exact e⟩

/-! ### the deck: its numbers in the order in which they are taken -/
def dk (D : List Int) : HO := .lst (D.reverse.map V.int)
def tk (D : List Int) (m : Int) : Int := D.headD 0 % m
theorem tk_nonneg (D : List Int) {m : Int} (h : 0 < m) : 0 ≤ tk D m := Int.emod_nonneg _ (by omega)
theorem tk_lt (D : List Int) {m : Int} (h : 0 < m) : tk D m < m := Int.emod_lt_of_pos _ h
def sp_take0 : Sp := fun vs H Q _ => ∃ (d : Addr) (D : List Int) (m : Int), vs = [.ref d, .int m] ∧ H d = some (dk D) ∧ 0 < m ∧ Q (.int (tk D m)) (upd H d (dk D.tail))
@[irreducible] def sp_take : Sp := sp_take0
theorem sp_take_eq : sp_take = sp_take0 := by unfold sp_take; rfl
theorem dk_last {x : Int} {D : List Int} : ((x :: D).reverse.map V.int)[((x :: D).reverse.map V.int).length - 1]? = some (V.int x) := by simp
theorem dk_drop {x : Int} {D : List Int} : ((x :: D).reverse.map V.int).dropLast = D.reverse.map V.int := by simp
def sp_deck (K : PySem.W.Frag) : Sp := fun vs H Q _ => ∃ (sa : Addr) (ns : List Int) (c e : Int), vs = [.ref sa, .int c, .int e] ∧ SqL K H sa (ns.map V.int) ∧ ns.length ≤ 1000 ∧ 0 ≤ c ∧ c ≤ 1000 ∧ 0 ≤ e ∧ e ≤ 100 ∧
  ∀ (D : List Int) (p : Addr) (H' : Hp), H p = none → Same H H' → H' p = some (dk D) → Q (.ref p) H'

/-! ### data: all that is known to a heap stays -/
mutual
theorem dp_same {K : PySem.W.Frag} {H H' : Hp} (s : Same H H') : ∀ (d : PyData) (v : V), Dp K H v d → Dp K H' v d
  | .none, _, h => by cases h; exact .non
  | .bool b, _, h => by cases h; exact .bl b
  | .int i, _, h => by cases h; exact .int i
  | .str x, _, h => by cases h; exact .str x
  | .list ds, _, h => by
    cases h with
    | lst h1 h2 => exact .lst (s.seq h1) (dpAll_same s ds _ h2)
  | .tuple ds, _, h => by
    cases h with
    | tup h1 h2 => exact .tup (s.tup h1) (dpAll_same s ds _ h2)
  | .dict _, _, h => nomatch h
theorem dpAll_same {K : PySem.W.Frag} {H H' : Hp} (s : Same H H') : ∀ (ds : List PyData) (vs : List V), DpAll K H vs ds → DpAll K H' vs ds
  | [], _, h => by cases h; exact .nil
  | d :: ds, _, h => by
    cases h with
    | cons h1 h2 => exact .cons (dp_same s d _ h1) (dpAll_same s ds _ h2)
end
/-! data all of whose cells lie in S -/
mutual
inductive DN (S : Addr → Prop) (H : Hp) : V → PyData → Prop
  | non : DN S H .non .none
  | bl (b : Bool) : DN S H (.bl b) (.bool b)
  | int (i : Int) : DN S H (.int i) (.int i)
  | str (x : Str) : DN S H (.str x) (.str x)
  | lst {a : Addr} {xs : List V} {ds : List PyData} : S a → H a = some (.lst xs) → DNs S H xs ds → DN S H (.ref a) (.list ds)
  | tup {a : Addr} {xs : List V} {ds : List PyData} : S a → H a = some (.tup xs) → DNs S H xs ds → DN S H (.ref a) (.tuple ds)
inductive DNs (S : Addr → Prop) (H : Hp) : List V → List PyData → Prop
  | nil : DNs S H [] []
  | cons {v : V} {vs : List V} {d : PyData} {ds : List PyData} : DN S H v d → DNs S H vs ds → DNs S H (v :: vs) (d :: ds)
end
mutual
theorem DN.dp {K : PySem.W.Frag} {S : Addr → Prop} {H : Hp} : ∀ (d : PyData) (v : V), DN S H v d → Dp K H v d
  | .none, _, h => by cases h; exact .non
  | .bool b, _, h => by cases h; exact .bl b
  | .int i, _, h => by cases h; exact .int i
  | .str x, _, h => by cases h; exact .str x
  | .list ds, _, h => by
    cases h with
    | lst _ h1 h2 => exact .lst (SqL.of h1) (DNs.dp ds _ h2)
  | .tuple ds, _, h => by
    cases h with
    | tup _ h1 h2 => exact .tup (SqT.of h1) (DNs.dp ds _ h2)
  | .dict _, _, h => nomatch h
theorem DNs.dp {K : PySem.W.Frag} {S : Addr → Prop} {H : Hp} : ∀ (ds : List PyData) (vs : List V), DNs S H vs ds → DpAll K H vs ds
  | [], _, h => by cases h; exact .nil
  | d :: ds, _, h => by
    cases h with
    | cons h1 h2 => exact .cons (DN.dp d _ h1) (DNs.dp ds _ h2)
end
mutual
theorem DN.mono {S S' : Addr → Prop} {H H' : Hp} (hs : ∀ a, S a → S' a) (hh : ∀ a o, S a → H a = some o → H' a = some o) : ∀ (d : PyData) (v : V), DN S H v d → DN S' H' v d
  | .none, _, h => by cases h; exact .non
  | .bool b, _, h => by cases h; exact .bl b
  | .int i, _, h => by cases h; exact .int i
  | .str x, _, h => by cases h; exact .str x
  | .list ds, _, h => by
    cases h with
    | lst h0 h1 h2 => exact .lst (hs _ h0) (hh _ _ h0 h1) (DNs.mono hs hh ds _ h2)
  | .tuple ds, _, h => by
    cases h with
    | tup h0 h1 h2 => exact .tup (hs _ h0) (hh _ _ h0 h1) (DNs.mono hs hh ds _ h2)
  | .dict _, _, h => nomatch h
theorem DNs.mono {S S' : Addr → Prop} {H H' : Hp} (hs : ∀ a, S a → S' a) (hh : ∀ a o, S a → H a = some o → H' a = some o) : ∀ (ds : List PyData) (vs : List V), DNs S H vs ds → DNs S' H' vs ds
  | [], _, h => by cases h; exact .nil
  | d :: ds, _, h => by
    cases h with
    | cons h1 h2 => exact .cons (DN.mono hs hh d _ h1) (DNs.mono hs hh ds _ h2)
end
theorem DNs.snoc {S : Addr → Prop} {H : Hp} {v : V} {d : PyData} (hv : DN S H v d) : ∀ {vs : List V} {ds : List PyData}, DNs S H vs ds → DNs S H (vs ++ [v]) (ds ++ [d])
  | _, _, .nil => .cons hv .nil
  | _, _, .cons h t => .cons h (DNs.snoc hv t)
theorem DNs.length {S : Addr → Prop} {H : Hp} : ∀ {vs : List V} {ds : List PyData}, DNs S H vs ds → vs.length = ds.length
  | _, _, .nil => rfl
  | _, _, .cons _ t => by rw [List.length_cons, List.length_cons, DNs.length t]
theorem dpAll_length {K : PySem.W.Frag} {H : Hp} : ∀ {vs : List V} {ds : List PyData}, DpAll K H vs ds → vs.length = ds.length
  | _, _, .nil => rfl
  | _, _, .cons _ t => by rw [List.length_cons, List.length_cons, dpAll_length t]
theorem dpAll_get {K : PySem.W.Frag} {H : Hp} : ∀ {vs : List V} {ds : List PyData} {i : Nat} {v : V}, DpAll K H vs ds → vs[i]? = some v → ∃ d, ds[i]? = some d ∧ Dp K H v d
  | _, _, i, _, .nil, e => by simp at e
  | _, _, 0, _, .cons h _, e => by
    have := Option.some.inj e
    subst this
    exact ⟨_, rfl, h⟩
  | _, _, i + 1, _, .cons _ t, e => by
    have e' := e
    rw [List.getElem?_cons_succ] at e'
    obtain ⟨d, h1, h2⟩ := dpAll_get t e'
    exact ⟨d, by rw [List.getElem?_cons_succ]; exact h1, h2⟩

/-! ### small data: nested at most n deep, rows of at most 1000 -/
mutual
def okD : Nat → PyData → Bool
  | _, .none => true
  | _, .bool _ => true
  | _, .int _ => true
  | _, .str x => PyData.strOk x
  | 0, .list _ => false
  | n + 1, .list xs => decide (xs.length ≤ 1000) && okDs n xs
  | 0, .tuple _ => false
  | n + 1, .tuple xs => decide (xs.length ≤ 1000) && okDs n xs
  | _, .dict _ => false
def okDs : Nat → List PyData → Bool
  | _, [] => true
  | n, x :: xs => okD n x && okDs n xs
end
/-! as okD, the rows of any length -/
mutual
def okDx : Nat → PyData → Bool
  | _, .none => true
  | _, .bool _ => true
  | _, .int _ => true
  | _, .str x => PyData.strOk x
  | 0, .list _ => false
  | n + 1, .list xs => okDxs n xs
  | 0, .tuple _ => false
  | n + 1, .tuple xs => okDxs n xs
  | _, .dict _ => false
def okDxs : Nat → List PyData → Bool
  | _, [] => true
  | n, x :: xs => okDx n x && okDxs n xs
end
theorem okDs_get {n : Nat} : ∀ {ds : List PyData} {i : Nat} {d : PyData}, okDs n ds = true → ds[i]? = some d → okD n d = true
  | [], i, d, _, e => by simp at e
  | x :: xs, 0, d, h, e => by
    have := Option.some.inj e
    subst this
    simp only [okDs, Bool.and_eq_true] at h
    exact h.1
  | x :: xs, i + 1, d, h, e => by
    simp only [okDs, Bool.and_eq_true] at h
    rw [List.getElem?_cons_succ] at e
    exact okDs_get h.2 e
mutual
theorem okDx_lay : ∀ (n : Nat) (d : PyData), okDx n d = true → d.canLay0 = true ∧ d.depth ≤ n
  | _, .none, _ => by simp [PyData.canLay0, PyData.depth]
  | _, .bool _, _ => by simp [PyData.canLay0, PyData.depth]
  | _, .int _, _ => by simp [PyData.canLay0, PyData.depth]
  | _, .str x, h => by
    simp only [okDx] at h
    simp [PyData.canLay0, PyData.depth, h]
  | 0, .list _, h => by simp [okDx] at h
  | n + 1, .list xs, h => by
    simp only [okDx] at h
    obtain ⟨h1, h2⟩ := okDxs_lay n xs h
    simp only [PyData.canLay0, PyData.depth]
    exact ⟨h1, by omega⟩
  | 0, .tuple _, h => by simp [okDx] at h
  | n + 1, .tuple xs, h => by
    simp only [okDx] at h
    obtain ⟨h1, h2⟩ := okDxs_lay n xs h
    simp only [PyData.canLay0, PyData.depth]
    exact ⟨h1, by omega⟩
  | _, .dict _, h => by simp [okDx] at h
theorem okDxs_lay : ∀ (n : Nat) (ds : List PyData), okDxs n ds = true → PyData.canLayAll0 ds = true ∧ PyData.depthAll ds ≤ n
  | _, [], _ => by simp [PyData.canLayAll0, PyData.depthAll]
  | n, x :: xs, h => by
    simp only [okDxs, Bool.and_eq_true] at h
    obtain ⟨a1, a2⟩ := okDx_lay n x h.1
    obtain ⟨b1, b2⟩ := okDxs_lay n xs h.2
    simp only [PyData.canLayAll0, PyData.depthAll, a1, b1]
    exact ⟨rfl, by omega⟩
end
theorem okDx_shaped {n : Nat} {d : PyData} (h : okDx n d = true) (hn : n ≤ 64) : SeqAt.shaped d = true := by
  obtain ⟨h1, h2⟩ := okDx_lay n d h
  show (d.canLay0 && decide (d.depth ≤ 64)) = true
  rw [h1, decide_eq_true (by omega)]
  rfl

/-! ### what _law_plain tells of data -/
mutual
def plainD : PyData → PyData
  | .list xs => .list (.bool true :: plainDs xs)
  | .tuple xs => .list (.bool false :: plainDs xs)
  | .none => .str "None"
  | .bool b => .str (if b then "True" else "False")
  | .int i => .list [.bool false, .int i]
  | .str x => .list [.bool true, .str x]
  | .dict _ => .str "another"
def plainDs : List PyData → List PyData
  | [] => []
  | x :: xs => plainD x :: plainDs xs
end
theorem plainDs_length : ∀ ds : List PyData, (plainDs ds).length = ds.length
  | [] => rfl
  | x :: xs => by simp only [plainDs, List.length_cons, plainDs_length xs]
theorem plainDs_take {d : PyData} : ∀ {ds : List PyData} {i : Nat}, ds[i]? = some d → plainDs (ds.take (i + 1)) = plainDs (ds.take i) ++ [plainD d]
  | [], i, e => by simp at e
  | x :: xs, 0, e => by
    have := Option.some.inj e
    subst this
    simp [plainDs]
  | x :: xs, i + 1, e => by
    rw [List.getElem?_cons_succ] at e
    have := plainDs_take e
    simp only [List.take_succ_cons, plainDs, this, List.cons_append]
mutual
theorem plainD_ok : ∀ (n : Nat) (d : PyData), okD n d = true → okDx (n + 1) (plainD d) = true
  | n, .none, _ => by simp only [plainD, okDx]; decide +kernel
  | n, .bool b, _ => by cases b <;> simp only [plainD, okDx] <;> decide +kernel
  | n, .int i, _ => by simp only [plainD, okDx, okDxs, Bool.and_self]
  | n, .str x, h => by
    simp only [okD] at h
    simp [plainD, okDx, okDxs, h]
  | 0, .list _, h => by simp [okD] at h
  | n + 1, .list xs, h => by
    simp only [okD, Bool.and_eq_true, decide_eq_true_eq] at h
    have := plainDs_ok n xs h.2
    simp [plainD, okDx, okDxs, this]
  | 0, .tuple _, h => by simp [okD] at h
  | n + 1, .tuple xs, h => by
    simp only [okD, Bool.and_eq_true, decide_eq_true_eq] at h
    have := plainDs_ok n xs h.2
    simp [plainD, okDx, okDxs, this]
  | _, .dict _, h => by simp [okD] at h
theorem plainDs_ok : ∀ (n : Nat) (ds : List PyData), okDs n ds = true → okDxs (n + 1) (plainDs ds) = true
  | _, [], _ => by simp [plainDs, okDxs]
  | n, x :: xs, h => by
    simp only [okDs, Bool.and_eq_true] at h
    have a := plainD_ok n x h.1
    have b := plainDs_ok n xs h.2
    simp [plainDs, okDxs, a, b]
end

/-! ### more of the deck -/
def SameBut (d : Addr) (H H' : Hp) : Prop := ∀ b o, b ≠ d → H b = some o → H' b = some o
def sp_number0 : Sp := fun vs H Q _ => ∃ (d : Addr) (D : List Int), vs = [.ref d] ∧ H d = some (dk D) ∧ ∀ (n : Int) (D' : List Int) (H' : Hp), SameBut d H H' → H' d = some (dk D') → n.natAbs < 2 ^ 130 → Q (.int n) H'
@[irreducible] def sp_number : Sp := sp_number0
theorem sp_number_eq : sp_number = sp_number0 := by unfold sp_number; rfl
/-- G: what stands still; the deck at d moves -/
structure Dk (G H : Hp) (d : Addr) (D : List Int) : Prop where
  nd : G d = none
  sm : Same G H
  hd : H d = some (dk D)
section
variable {G H H' : Hp} {d p : Addr} {D D' : List Int} {o : HO}
theorem Dk.take (k : Dk G H d D) : Dk G (upd H d (dk D')) d D' := ⟨k.nd, k.sm.mut k.nd, upd_same⟩
theorem Dk.new (k : Dk G H d D) (h : H p = none) : Dk (upd G p o) (upd H p o) d D := by
  have n : d ≠ p := ne_of_none k.hd h
  refine ⟨by rw [upd_ne n]; exact k.nd, fun b u e => ?_, by rw [upd_ne n]; exact k.hd⟩
  by_cases q : b = p
  · rw [q, upd_same] at e
    rw [q, upd_same]
    exact e
  · rw [upd_ne q] at e
    rw [upd_ne q]
    exact k.sm b u e
theorem Dk.same (k : Dk G H d D) (s : Same H H') : Dk G H' d D := ⟨k.nd, k.sm.trans s, s _ _ k.hd⟩
theorem Dk.but (k : Dk G H d D) (s : SameBut d H H') (h : H' d = some (dk D')) : Dk G H' d D' := ⟨k.nd, fun b u e => s b u (ne_of_none e k.nd) (k.sm b u e), h⟩
theorem Dk.ne (k : Dk G H d D) (h : G p = some o) : p ≠ d := ne_of_none h k.nd
theorem Dk.fresh (k : Dk G H d D) (h : H p = none) : G p = none := k.sm.free h
end
theorem atI_nat' {α : Type} {xs : List α} {i : Int} {j : Nat} {v : α} (e : i = (j : Int)) (h : xs[j]? = some v) : atI xs i = some v := by
  rw [e]
  exact atI_nat h
theorem atI_ints {ns : List Int} {i : Int} (h0 : 0 ≤ i) (h1 : i < (ns.length : Int)) : ∃ z, atI (ns.map V.int) i = some (.int z) ∧ z ∈ ns := by
  have hl : i.toNat < ns.length := by omega
  refine ⟨ns[i.toNat], atI_nat' (j := i.toNat) (by omega) ?_, List.getElem_mem hl⟩
  rw [List.getElem?_map, List.getElem?_eq_getElem hl]
  rfl
theorem small1000000 {n : Nat} (h : n ≤ 1000000) : n < sizeLine := by
  rw [sizeLine_eq]
  omega
theorem two_pow_mono {a b : Nat} (h : a ≤ b) : (2 : Int) ^ a ≤ 2 ^ b := by
  have := Nat.pow_le_pow_right (n := 2) (by decide) h
  have e : ∀ c : Nat, ((2 ^ c : Nat) : Int) = (2 : Int) ^ c := fun c => by rw [Int.natCast_pow]; rfl
  rw [← e, ← e]
  omega
/-- x is True -/
def rIsT : R2 := fun x y H Q => (∃ a b : Bool, x = .bl a ∧ y = .bl b ∧ Q (.bl (decide (a = b))) H) ∨ (x = .non ∧ ∃ b, y = .bl b ∧ Q (.bl false) H)
theorem op_isT {X : Cx} : OpR X (compareOp .Is) rIsT := by
  intro pins s σ H x y v u Q I rx ry h
  rcases h with h | ⟨rfl, b, rfl, k⟩
  · exact op_isBl pins s σ H x y v u Q I rx ry h
  · cases (show v = Value.none from rx)
    cases (show u = Value.bool b from ry)
    exact wpAny_is_other rfl (fun z => nomatch z) ⟨.bl false, H, I, rfl, k⟩
theorem kind_l {K : PySem.W.Frag} {H : Hp} {a : Addr} {xs : List V} (h : SqL K H a xs) : TyX K H (.ref a) (.type "list") := by
  rcases h with (h | ⟨o, h⟩) | ⟨o, _, _, h, c, _⟩
  · exact .base (.lst h)
  · exact .base (.frz h)
  · exact .kList h c
theorem kind_t {K : PySem.W.Frag} {H : Hp} {a : Addr} {xs : List V} (h : SqT K H a xs) : TyX K H (.ref a) (.type "tuple") := by
  rcases h with (h | ⟨o, h⟩) | ⟨o, _, _, h, c, _⟩
  · exact .base (.tup h)
  · exact .fTuple h
  · exact .kTuple h c
theorem kit2 {K : PySem.W.Frag} {a b c : String} {r1 r2 : Bool} (h1 : kitB a b = some r1) (h2 : kitB a c = some r2) : PySem.W.kitAny K (.type a) [.type b, .type c] = some (r1 || r2) := by
  cases r1 with
  | true => exact kitAny_cons (b := true) (kit_ty h1) (fun z => nomatch z) fun _ => rfl
  | false =>
    refine kitAny_cons (b := false) (kit_ty h1) (fun _ => ?_) (fun z => nomatch z)
    exact kitAny_cons (b := r2) (kit_ty h2) (fun z => by subst z; exact kitAny_nil) fun z => by subst z; rfl
def sp_plain (K : PySem.W.Frag) (n : Nat) : Sp := fun vs H Q _ => ∃ (v : V) (d : PyData), vs = [v] ∧ Dp K H v d ∧ okD n d = true ∧ ∀ (v' : V) (H' : Hp), Same H H' → DN (fun a => H a = none) H' v' (plainD d) → Q v' H'
/-- isinstance(x, (A, B)), the tuple just made at p -/
theorem isi_pair {K : PySem.W.Frag} {H : Hp} {p : Addr} {x : V} {t A B : String} {r1 r2 : Bool} {Q : VK} (h1 : kitB t A = some r1) (h2 : kitB t B = some r2) (hx : TyX K (upd H p (.tup [.ty A, .ty B])) x (.type t)) (k : Q (.bl (r1 || r2)) (upd H p (.tup [.ty A, .ty B]))) :
    rIsiT K [x, .ref p] (upd H p (.tup [.ty A, .ty B])) Q :=
  ⟨x, p, _, _, _, _, rfl, upd_same, .cons (.ty A) (.cons (.ty B) .nil), hx, kit2 h1 h2, k⟩
theorem _root_.L2.TyX.new {K : PySem.W.Frag} {H : Hp} {x : V} {T : String} {p : Addr} {o : HO} (h : TyX K H x (.type T)) (hp : H p = none) : TyX K (upd H p o) x (.type T) := by
  have s : Same H (upd H p o) := Same.new hp
  generalize e : Value.type T = t at h
  cases h with
  | base b =>
    cases b with
    | non => exact .base .non
    | bl y => exact .base (.bl y)
    | int i => exact .base (.int i)
    | str y => exact .base (.str y)
    | flt y => exact .base (.flt y)
    | lst q => exact .base (.lst (s _ _ q))
    | frz q => exact .base (.frz (s _ _ q))
    | tup q => exact .base (.tup (s _ _ q))
    | dK q => exact .base (.dK (s _ _ q))
    | dT q => exact .base (.dT (s _ _ q))
    | ins q => cases e
  | byt b => exact .byt b
  | set q => exact .set (s _ _ q)
  | kList q c => exact .kList q c
  | kTuple q c => exact .kTuple q c
  | kDict q c => exact .kDict q c
  | fTuple q => exact .fTuple (s _ _ q)
  | fDict q => exact .fDict (s _ _ q)

/-- two plain tellings of the same data are equal -/
theorem plain_same {K : PySem.W.Frag} {S S' : Addr → Prop} {H1 H3 : Hp} {v1 v2 : V} {d : PyData} {Q : VK} {n : Nat} (h1 : DN S H1 v1 (plainD d)) (hs : Same H1 H3) (h2 : DN S' H3 v2 (plainD d)) (ok : okD n d = true) (hn : n ≤ 60) (k : Q (.bl false) H3) : rNeD K v1 v2 H3 Q := by
  have sh := okDx_shaped (plainD_ok n d ok) (by omega)
  refine ⟨plainD d, plainD d, dp_same hs _ _ (DN.dp _ _ h1), DN.dp _ _ h2, sh, sh, ?_⟩
  rw [SeqAt.eqv_refl _ (SeqAt.canLay_of_shaped sh)]
  exact k
/-- .. as a test that then fails -/
theorem plain_test {K : PySem.W.Frag} {S S' : Addr → Prop} {H1 H3 : Hp} {v1 v2 : V} {d : PyData} {Q : Bool → Hp → Prop} (n : Nat) (h1 : DN S H1 v1 (plainD d)) (hs : Same H1 H3) (h2 : DN S' H3 v2 (plainD d)) (ok : okD n d = true) (hn : n ≤ 60) (k : Q false H3) : rNeD K v1 v2 H3 fun x H' => ∃ b, x = .bl b ∧ Q b H' :=
  plain_same h1 hs h2 ok hn ⟨false, rfl, k⟩
theorem gcd_cdiv {x y : Int} (i : Int) (h : y ≠ 0) (hy : y.natAbs < 2 ^ 8000) : CDivZ i ((Nat.gcd x.natAbs y.natAbs : Nat) : Int) ∧ CDivZ i (-((Nat.gcd x.natAbs y.natAbs : Nat) : Int)) := by
  have h1 : Nat.gcd x.natAbs y.natAbs ≤ y.natAbs := Nat.gcd_le_right _ (by omega)
  have h0 : 0 < Nat.gcd x.natAbs y.natAbs := Nat.gcd_pos_of_pos_right _ (by omega)
  generalize hg : Nat.gcd x.natAbs y.natAbs = g at h1 h0
  have hb : g < 2 ^ 8000 := Nat.lt_of_le_of_lt h1 hy
  exact ⟨cdivZ_of (b := 8000) (by omega) (by rw [Int.natAbs_natCast]; exact hb) (by decide) (by decide), cdivZ_of (b := 8000) (by omega) (by rw [Int.natAbs_neg, Int.natAbs_natCast]; exact hb) (by decide) (by decide)⟩
/-- what two ways have in common behind them, shown once -/
theorem cutP {X Y : Prop} (f : X → Y) (x : X) : Y := f x
theorem Dk.weak {G H : Hp} {d : Addr} {D : List Int} (k : Dk G H d D) : Dk (fun _ => none) H d D := ⟨rfl, same_none, k.hd⟩

/-! ### taking from the deck, the heap behind it not told -/
section
variable {Kf : PySem.W.Frag} {G H : Hp} {d l : Addr} {D : List Int} {Q : VK}
theorem take_q (K1 : Dk G H d D) {m : Int} (hm : 0 < m) (k : ∀ z H2, 0 ≤ z → z < m → Dk G H2 d D.tail → Q (.int z) H2) : sp_take [.ref d, .int m] H Q E0 := by
  rw [sp_take_eq]
  exact ⟨d, D, m, rfl, K1.hd, hm, k _ _ (tk_nonneg D hm) (tk_lt D hm) K1.take⟩
/-- .. the heap told -/
theorem take_u {H : Hp} {d : Addr} {D : List Int} {Q : VK} (hd : H d = some (dk D)) {m : Int} (hm : 0 < m) (k : Q (.int (tk D m)) (upd H d (dk D.tail))) : sp_take [.ref d, .int m] H Q E0 := by
  rw [sp_take_eq]
  exact ⟨d, D, m, rfl, hd, hm, k⟩
/-- [n, ..][_law_take(deck, how many)] -/
theorem pick (K1 : Dk G H d D) (hl : H l = none) (ns : List Int) (h : 0 < ns.length) (k : ∀ z H2, z ∈ ns → Dk G H2 d D.tail → Q (.int z) H2) : sp_take [.ref d, .int (ns.length : Int)] (upd H l (.lst (ns.map V.int))) (fun v H2 => rIxL Kf (.ref l) v H2 Q) E0 := by
  rw [sp_take_eq]
  have hm : (0 : Int) < (ns.length : Int) := by omega
  have K2 := K1.new (o := .lst (ns.map V.int)) hl
  have n : d ≠ l := ne_of_none K1.hd hl
  refine ⟨d, D, _, rfl, K2.hd, hm, ?_⟩
  have K3 := K2.take (D' := D.tail)
  obtain ⟨z, hz, hm⟩ := atI_ints (tk_nonneg D hm) (tk_lt D hm)
  refine ⟨l, _, _, _, rfl, rfl, SqL.of (K3.sm _ _ upd_same), hz, k _ _ hm ⟨K1.nd, ?_, K3.hd⟩⟩
  have g : G l = none := K1.sm.free hl
  exact (Same.new g).trans K3.sm
theorem number_q (K1 : Dk G H d D) (k : ∀ n D' H2, n.natAbs < 2 ^ 130 → Dk G H2 d D' → Q (.int n) H2) : sp_number [.ref d] H Q E0 := by
  rw [sp_number_eq]
  exact ⟨d, D, rfl, K1.hd, fun n D' H' s h hn => k n D' H' hn (K1.but s h)⟩
end
theorem abs_nat (x : Int) : (if x < 0 then -x else x) = (x.natAbs : Int) := by split <;> omega

/-! ### fractions in lowest terms -/
/-- the greatest common divisor, with the sign of what is below -/
def frC (x y : Int) : Int := if y < 0 then -((Nat.gcd x.natAbs y.natAbs : Nat) : Int) else ((Nat.gcd x.natAbs y.natAbs : Nat) : Int)
def frA (x y : Int) : Int := x.fdiv (frC x y)
def frB (x y : Int) : Int := y.fdiv (frC x y)
theorem fdiv_mul_self {c p : Int} (h : c ≠ 0) : (c * p).fdiv c = p := Int.mul_fdiv_cancel_left p h
/-- what a fraction in lowest terms is -/
theorem fr_spec {x y : Int} (h : y ≠ 0) : x = frC x y * frA x y ∧ y = frC x y * frB x y ∧ 0 < frB x y ∧ frC x y ≠ 0 ∧ (0 < frC x y ↔ 0 < y) ∧ frB x y ≤ y.natAbs ∧ Nat.gcd (frA x y).natAbs (frB x y).natAbs = 1 := by
  have h0 : 0 < Nat.gcd x.natAbs y.natAbs := Nat.gcd_pos_of_pos_right _ (by omega)
  have hx : frC x y ∣ x := by
    unfold frC
    split
    · exact Int.neg_dvd.mpr (Int.ofNat_dvd_left.mpr (Nat.gcd_dvd_left _ _))
    · exact Int.ofNat_dvd_left.mpr (Nat.gcd_dvd_left _ _)
  have hy : frC x y ∣ y := by
    unfold frC
    split
    · exact Int.neg_dvd.mpr (Int.ofNat_dvd_left.mpr (Nat.gcd_dvd_right _ _))
    · exact Int.ofNat_dvd_left.mpr (Nat.gcd_dvd_right _ _)
  have hn : (frC x y).natAbs = Nat.gcd x.natAbs y.natAbs := by
    unfold frC
    split <;> omega
  have hc0 : frC x y ≠ 0 := by omega
  have hs : (0 < frC x y ↔ 0 < y) := by
    unfold frC
    split <;> constructor <;> omega
  obtain ⟨p, hp⟩ := hx
  obtain ⟨q, hq⟩ := hy
  have e1 : frA x y = p := by
    unfold frA
    generalize frC x y = c at hp hc0
    rw [hp, fdiv_mul_self hc0]
  have e2 : frB x y = q := by
    unfold frB
    generalize frC x y = c at hq hc0
    rw [hq, fdiv_mul_self hc0]
  have na1 : x.natAbs = (frC x y).natAbs * p.natAbs := by
    rw [← Int.natAbs_mul, ← hp]
  have na2 : y.natAbs = (frC x y).natAbs * q.natAbs := by
    rw [← Int.natAbs_mul, ← hq]
  have q0 : q ≠ 0 := fun z => by
    rw [z, Int.mul_zero] at hq
    exact h hq
  refine ⟨by rw [e1]; exact hp, by rw [e2]; exact hq, ?_, hc0, hs, ?_, ?_⟩
  · rw [e2]
    rcases Int.lt_trichotomy q 0 with z | z | z
    · exfalso
      by_cases yp : 0 < y
      · have := Int.mul_neg_of_pos_of_neg (hs.mpr yp) z
        omega
      · have cn : frC x y < 0 := by
          have : ¬ 0 < frC x y := fun w => yp (hs.mp w)
          omega
        have := Int.mul_pos_of_neg_of_neg cn z
        omega
    · exact absurd z q0
    · exact z
  · rw [e2]
    have : q.natAbs ≤ y.natAbs := by
      rw [na2]
      exact Nat.le_mul_of_pos_left _ (by omega)
    omega
  · rw [e1, e2]
    have e3 : Nat.gcd x.natAbs y.natAbs = (frC x y).natAbs * Nat.gcd p.natAbs q.natAbs := by
      rw [na1, na2, Nat.gcd_mul_left]
    rw [hn] at e3
    have : Nat.gcd x.natAbs y.natAbs * Nat.gcd p.natAbs q.natAbs = Nat.gcd x.natAbs y.natAbs * 1 := by omega
    exact Nat.eq_of_mul_eq_mul_left h0 this
def sp_fraction (C : Addr) : Sp := fun vs H Q E => ∃ x y : Int, vs = [.int x, .int y] ∧ y.natAbs < 2 ^ 8000 ∧ (y = 0 → raisesW C "fraction" H E) ∧ (y ≠ 0 → ∀ p, H p = none → Q (.ref p) (upd H p (.tup [.int (frA x y), .int (frB x y)])))
def sp_lawgcd : Sp := fun vs H Q _ => ∃ x y : Int, vs = [.int x, .int y] ∧ Q (.int ((Nat.gcd x.natAbs y.natAbs : Nat) : Int)) H
def sp_lawfraction : Sp := fun vs H Q _ => ∃ x y : Int, vs = [.int x, .int y] ∧ y.natAbs < 2 ^ 8000 ∧ y ≠ 0 ∧ ∀ p, H p = none → Q (.ref p) (upd H p (.tup [.int (frA x y), .int (frB x y)]))

theorem dpAll_ints {K : PySem.W.Frag} {H : Hp} : ∀ ns : List Int, DpAll K H (ns.map V.int) (ns.map PyData.int)
  | [] => .nil
  | n :: ns => .cons (.int n) (dpAll_ints ns)
theorem dp_ints {K : PySem.W.Frag} {H : Hp} {p : Addr} {ns : List Int} (h : SqL K H p (ns.map V.int)) : Dp K H (.ref p) (.list (ns.map PyData.int)) := .lst h (dpAll_ints ns)
theorem okDs_ints {n : Nat} : ∀ ns : List Int, okDs n (ns.map PyData.int) = true
  | [] => by simp [okDs]
  | x :: ns => by simp only [List.map_cons, okDs, okD, Bool.true_and]; exact okDs_ints ns
theorem ok_ints {n : Nat} {ns : List Int} (h : ns.length ≤ 1000) : okD (n + 1) (.list (ns.map PyData.int)) = true := by
  simp only [okD, Bool.and_eq_true, decide_eq_true_eq, List.length_map]
  exact ⟨h, okDs_ints ns⟩
theorem okDx_ints {n : Nat} : ∀ ns : List Int, okDxs n (ns.map PyData.int) = true
  | [] => by simp [okDxs]
  | x :: ns => by simp only [List.map_cons, okDxs, okDx, Bool.true_and]; exact okDx_ints ns
theorem shaped_ints (ns : List Int) : SeqAt.shaped (.list (ns.map PyData.int)) = true := okDx_shaped (n := 1) (by simp only [okDx]; exact okDx_ints ns) (by decide)
/-- two int lists that are the same: != says no -/
theorem ints_same {K : PySem.W.Frag} {H : Hp} {p q : Addr} {ns : List Int} {Q : VK} (h1 : SqL K H p (ns.map V.int)) (h2 : SqL K H q (ns.map V.int)) (k : Q (.bl false) H) : rNeD K (.ref p) (.ref q) H Q := by
  refine ⟨_, _, dp_ints h1, dp_ints h2, shaped_ints ns, shaped_ints ns, ?_⟩
  rw [SeqAt.eqv_refl _ (SeqAt.canLay_of_shaped (shaped_ints ns))]
  exact k

theorem Dk.add {G H : Hp} {d q : Addr} {D : List Int} {o : HO} (k : Dk G H d D) (h : H q = some o) (n : q ≠ d) : Dk (upd G q o) H d D :=
  ⟨by rw [upd_ne (Ne.symm n)]; exact k.nd, fun b u e => by
    by_cases z : b = q
    · rw [z, upd_same] at e
      rw [z, h]
      exact e
    · rw [upd_ne z] at e
      exact k.sm b u e, k.hd⟩
theorem Dk.keep {G G' H : Hp} {d : Addr} {D : List Int} (k : Dk G H d D) (h : G' d = none) (s : Same G' H) : Dk G' H d D := ⟨h, s, k.hd⟩
/-! ### comprehensions whose element does nothing to the heap -/
theorem lc_pure {K : PySem.W.Frag} {a : Addr} {xs : List V} {te : TE} {vs : List Nat} {σ : L2.St} {H1 : Hp} {D : Addr} {Qd : Hp → Prop} {j : Nat} (f : Nat → V → V) (hx : SqL K H1 a xs) (hD : H1 D = none) (hz : xs.length ≤ 1000000) (hw : ∀ x, wipe ((wipe σ vs).set j (some x)) vs = wipe σ vs)
    (hs : ∀ i x H', xs[i]? = some x → Same H1 H' → ∀ Q : VK, Q (f i x) H' → te ((wipe σ vs).set j (some x)) H' Q) (hd : Qd (upd H1 D (.lst (xs.mapIdx f)))) :
    ∃ W : Nat → Nat → Hp → Prop, (∃ m, W 0 m (upd H1 D (.lst []))) ∧ ∀ i m H, W i m H →
      ((Itl K a).stop i H ∧ Qd H) ∨ ((Itl K a).go i H ∧ ∃ Nx : Hp → Prop, (∀ H', Nx H' → ∃ m', m' < m ∧ W (i + 1) m' H') ∧ ∀ x H', (Itl K a).yld i H x H' → gName j x (wipe σ vs) H' fun σ2 H2 => wipe σ2 vs = wipe σ vs ∧ tYes σ2 H2 fun b H3 =>
        if b = true then te σ2 H3 fun y H4 => ∃ acc, H4 D = some (.lst acc) ∧ acc.length < sizeLine ∧ Nx (upd H4 D (.lst (acc ++ [y]))) else Nx H3) := by
  have tk : ∀ (l : List V) (g : Nat → V → V) (i : Nat) (x : V), l[i]? = some x → (l.mapIdx g).take (i + 1) = (l.mapIdx g).take i ++ [g i x] := by
    intro l g i x e
    have h1 : (l.mapIdx g)[i]? = some (g i x) := by rw [List.getElem?_mapIdx, e]; rfl
    rw [List.take_add_one, h1]
    rfl
  refine lc_list (K := K) (a := a) (xs := xs) (fun i H' => H' = upd H1 D (.lst ((xs.mapIdx f).take i))) (by rw [List.take_zero]) (fun i H' _ q => by subst q; exact (Same.new hD).seq hx) ?_ ?_
  · rintro i x H' hi rfl
    have hi1 := (List.getElem?_eq_some_iff.mp hi).1
    refine ⟨hw x, ?_⟩
    show te _ _ _
    refine hs i x _ hi (Same.new hD) _ ?_
    refine ⟨_, upd_same, small1000000 (by rw [List.length_take]; omega), ?_⟩
    rw [upd_upd, tk xs f i x hi]
  · rintro H' rfl
    have e : (xs.mapIdx f).take xs.length = xs.mapIdx f := by
      have : (xs.mapIdx f).length = xs.length := List.length_mapIdx
      rw [← this, List.take_length]
    rw [e]
    exact hd
theorem pickV {Kf : PySem.W.Frag} {G H : Hp} {d l : Addr} {D : List Int} {Q : VK} (K1 : Dk G H d D) (hl : H l = none) (ns : List V) (h : 0 < ns.length) (k : ∀ z H2, z ∈ ns → Dk G H2 d D.tail → Q z H2) : sp_take [.ref d, .int (ns.length : Int)] (upd H l (.lst ns)) (fun v H2 => rIxL Kf (.ref l) v H2 Q) E0 := by
  rw [sp_take_eq]
  have hm : (0 : Int) < (ns.length : Int) := by omega
  have K2 := K1.new (o := .lst ns) hl
  refine ⟨d, D, _, rfl, K2.hd, hm, ?_⟩
  have K3 := K2.take (D' := D.tail)
  have b0 := tk_nonneg D hm
  have b1 := tk_lt D hm
  have hj : (tk D (ns.length : Int)).toNat < ns.length := by omega
  refine ⟨l, _, _, _, rfl, rfl, SqL.of (K3.sm _ _ upd_same), atI_nat' (j := (tk D (ns.length : Int)).toNat) (by omega) (List.getElem?_eq_getElem hj), k _ _ (List.getElem_mem hj) ⟨K1.nd, ?_, K3.hd⟩⟩
  exact (Same.new (K1.sm.free hl)).trans K3.sm
/-- an item of a list at a written place -/
theorem ix_at {Kf : PySem.W.Frag} {H : Hp} {p : Addr} {xs : List V} {v : V} {Q : VK} (j : Nat) (h : SqL Kf H p xs) (hv : xs[j]? = some v) (k : Q v H) : rIxL Kf (.ref p) (.int (j : Int)) H Q := ⟨p, xs, _, v, rfl, rfl, h, atI_nat hv, k⟩

/-! ### walks of what may be a list or a tuple -/
def SqX (K : PySem.W.Frag) (H : Hp) (a : Addr) (xs : List V) : Prop := SqL K H a xs ∨ SqT K H a xs
theorem SqX.mono {K : PySem.W.Frag} {H H' : Hp} {a : Addr} {xs : List V} (h : SqX K H a xs) (s : Same H H') : SqX K H' a xs := by
  rcases h with h | h
  · exact .inl (s.seq h)
  · exact .inr (s.tup h)
def iSeq (K : PySem.W.Frag) (tl : TE) : TI := fun σ H R => tl σ H fun x H1 => ∃ a, x = .ref a ∧ (((∃ xs, SqL K H1 a xs) ∧ R (Itl K a) H1) ∨ ((∃ xs, SqT K H1 a xs) ∧ R (Itt K a) H1))
theorem pi_seq {X : Cx} {tg l : Expr} {tl : TE} (hl : PE X l tl) : PI X tg l (iSeq X.K tl) := by
  refine ⟨fun pins s σ H R I h => thn (hl.run pins s σ H _ I h) fun v s1 ⟨x, H1, I1, r1, a, e, q⟩ => ?_⟩
  subst e
  cases r1
  have fresh : ∀ b ∈ [s1.heap.objs.size], FpOk X pins H1 b := by
    intro b hb
    rw [List.mem_singleton] at hb
    rw [hb]
    exact I1.fpOk (Nat.le_refl _) (I1.hok.fresh (Nat.le_refl _))
  rcases q with ⟨⟨xs, hq⟩, q⟩ | ⟨⟨xs, hq⟩, q⟩
  · obtain ⟨its, rv, pl, hz⟩ := I1.list hq
    exact wpAny_pyIter_list pl.isList ⟨_, _, _, _, H1, rfl, I1.kept (t' := s1.toks) (fun b o e => Heap.get?_push_of_some _ e), turn_list a _, ⟨_, Heap.get?_push_size _ rfl, rfl, rfl⟩, fresh, q⟩
  · obtain ⟨its, rv, pl, hz⟩ := I1.tuple hq
    exact wpAny_pyIter_tuple (show s1.heap.IsTuple a its.toArray from pl) ⟨_, _, _, _, H1, rfl, I1.kept (t' := s1.toks) (fun b o e => Heap.get?_push_of_some _ e), turn_tuple a _, ⟨_, Heap.get?_push_size _ rfl, rfl, rfl⟩, fresh, q⟩
/-- what a for loop asks of its walk J -/
def forR (g : TG) (tb : TS) (D : Ends) (σ : L2.St) (J : It) (H1 : Hp) : Prop := ∃ W : Nat → Nat → L2.St → Hp → Prop, (∃ m, W 0 m σ H1) ∧ ∀ i m σ H, W i m σ H →
  (J.stop i H ∧ D.nx σ H) ∨ (J.go i H ∧ ∃ N : L2.St → Hp → Prop, (∀ σ' H', N σ' H' → ∃ m', m' < m ∧ W (i + 1) m' σ' H') ∧ ∀ x H', J.yld i H x H' → g x σ H' fun σ2 H2 => tb { D with nx := N, ct := N, bk := D.nx } σ2 H2)
/-- .. a list or a tuple; G: where it stands -/
theorem for_seq {K : PySem.W.Frag} {a : Addr} {xs : List V} {g : TG} {tb : TS} {D : Ends} {σ : L2.St} {H G : Hp} (hq : SqX K G a xs) (Pv : Nat → L2.St → Hp → Prop) (h0 : Pv 0 σ H) (hl : ∀ i σ H, Pv i σ H → Same G H)
    (hs : ∀ i x σ H, xs[i]? = some x → Pv i σ H → g x σ H fun σ2 H2 => tb { D with nx := Pv (i + 1), ct := Pv (i + 1), bk := D.nx } σ2 H2) (hd : ∀ σ H, Pv xs.length σ H → D.nx σ H) :
    ((∃ xs, SqL K H a xs) ∧ forR g tb D σ (Itl K a) H) ∨ ((∃ xs, SqT K H a xs) ∧ forR g tb D σ (Itt K a) H) := by
  rcases hq with hq | hq
  · exact .inl ⟨⟨xs, (hl _ _ _ h0).seq hq⟩, for_list (K := K) (a := a) (xs := xs) Pv h0 (fun i σ H _ p => (hl i σ H p).seq hq) hs hd⟩
  · exact .inr ⟨⟨xs, (hl _ _ _ h0).tup hq⟩, for_tup (K := K) (a := a) (xs := xs) Pv h0 (fun i σ H _ p => (hl i σ H p).tup hq) hs hd⟩
/-- what a comprehension asks of its walk J -/
def lcR (g : TG) (tt : TT) (te : TE) (vs : List Nat) (σ : L2.St) (Q : VK) (J : It) (H1 : Hp) : Prop := ∀ D, H1 D = none → ∃ W : Nat → Nat → Hp → Prop, (∃ m, W 0 m (upd H1 D (.lst []))) ∧ ∀ i m H, W i m H →
  (J.stop i H ∧ Q (.ref D) H) ∨ (J.go i H ∧ ∃ Nx : Hp → Prop, (∀ H', Nx H' → ∃ m', m' < m ∧ W (i + 1) m' H') ∧ ∀ x H', J.yld i H x H' → g x (wipe σ vs) H' fun σ2 H2 => wipe σ2 vs = wipe σ vs ∧ tt σ2 H2 fun b H3 =>
    if b = true then te σ2 H3 fun y H4 => ∃ acc, H4 D = some (.lst acc) ∧ acc.length < sizeLine ∧ Nx (upd H4 D (.lst (acc ++ [y]))) else Nx H3)
theorem lc_seq {K : PySem.W.Frag} {a : Addr} {xs : List V} {g : TG} {tt : TT} {te : TE} {vs : List Nat} {σ : L2.St} {H1 G : Hp} {Q : VK} (hq : SqX K G a xs) (s : Same G H1) (Pv : Addr → Nat → Hp → Prop) (h0 : ∀ D, H1 D = none → Pv D 0 (upd H1 D (.lst []))) (hl : ∀ D i H, Pv D i H → Same G H)
    (hs : ∀ D, H1 D = none → ∀ i x H, xs[i]? = some x → Pv D i H → g x (wipe σ vs) H fun σ2 H2 => wipe σ2 vs = wipe σ vs ∧ tt σ2 H2 fun b H3 =>
      if b = true then te σ2 H3 fun y H4 => ∃ acc, H4 D = some (.lst acc) ∧ acc.length < sizeLine ∧ Pv D (i + 1) (upd H4 D (.lst (acc ++ [y]))) else Pv D (i + 1) H3) (hd : ∀ D, H1 D = none → ∀ H, Pv D xs.length H → Q (.ref D) H) :
    ((∃ xs, SqL K H1 a xs) ∧ lcR g tt te vs σ Q (Itl K a) H1) ∨ ((∃ xs, SqT K H1 a xs) ∧ lcR g tt te vs σ Q (Itt K a) H1) := by
  rcases hq with hq | hq
  · exact .inl ⟨⟨xs, s.seq hq⟩, fun D hD => lc_list (K := K) (a := a) (xs := xs) (Pv D) (h0 D hD) (fun i H _ p => (hl D i H p).seq hq) (hs D hD) (hd D hD)⟩
  · exact .inr ⟨⟨xs, s.tup hq⟩, fun D hD => lc_tup (K := K) (a := a) (xs := xs) (Pv D) (h0 D hD) (fun i H _ p => (hl D i H p).tup hq) (hs D hD) (hd D hD)⟩
/-- data that is a sequence -/
def seqD (isL : Bool) (ds : List PyData) : PyData := if isL then .list ds else .tuple ds
theorem dp_seq {K : PySem.W.Frag} {H : Hp} {v : V} {isL : Bool} {ds : List PyData} (h : Dp K H v (seqD isL ds)) : ∃ a xs, v = .ref a ∧ SqX K H a xs ∧ DpAll K H xs ds := by
  cases isL with
  | true =>
    cases (show Dp K H v (.list ds) from h) with
    | lst h1 h2 => exact ⟨_, _, rfl, .inl h1, h2⟩
  | false =>
    cases (show Dp K H v (.tuple ds) from h) with
    | tup h1 h2 => exact ⟨_, _, rfl, .inr h1, h2⟩
theorem dp_tup {K : PySem.W.Frag} {H : Hp} {v : V} {ds : List PyData} (h : Dp K H v (.tuple ds)) : ∃ a xs, v = .ref a ∧ SqT K H a xs ∧ DpAll K H xs ds := by
  cases h with
  | tup h1 h2 => exact ⟨_, _, rfl, h1, h2⟩
theorem dp_lst {K : PySem.W.Frag} {H : Hp} {v : V} {ds : List PyData} (h : Dp K H v (.list ds)) : ∃ a xs, v = .ref a ∧ SqL K H a xs ∧ DpAll K H xs ds := by
  cases h with
  | lst h1 h2 => exact ⟨_, _, rfl, h1, h2⟩
theorem dpAll_two {K : PySem.W.Frag} {H : Hp} {xs : List V} {d e : PyData} (h : DpAll K H xs [d, e]) : ∃ v w, xs = [v, w] ∧ Dp K H v d ∧ Dp K H w e := by
  cases h with
  | cons h1 h2 => cases h2 with
    | cons h2 h3 => cases h3; exact ⟨_, _, rfl, h1, h2⟩
theorem dpAll_three {K : PySem.W.Frag} {H : Hp} {xs : List V} {d e f : PyData} (h : DpAll K H xs [d, e, f]) : ∃ v w z, xs = [v, w, z] ∧ Dp K H v d ∧ Dp K H w e ∧ Dp K H z f := by
  cases h with
  | cons h1 h2 =>
    obtain ⟨v, w, rfl, h3, h4⟩ := dpAll_two h2
    exact ⟨_, _, _, rfl, h1, h3, h4⟩
theorem dp_int {K : PySem.W.Frag} {H : Hp} {v : V} {i : Int} (h : Dp K H v (.int i)) : v = .int i := by cases h; rfl
theorem dp_str {K : PySem.W.Frag} {H : Hp} {v : V} {i : Str} (h : Dp K H v (.str i)) : v = .str i := by cases h; rfl
theorem dpAll_app {K : PySem.W.Frag} {H : Hp} : ∀ {xs ys : List V} {ds es : List PyData}, DpAll K H xs ds → DpAll K H ys es → DpAll K H (xs ++ ys) (ds ++ es)
  | _, _, _, _, .nil, h => h
  | _, _, _, _, .cons h t, h2 => .cons h (dpAll_app t h2)
theorem dpAll_take {K : PySem.W.Frag} {H : Hp} : ∀ {xs : List V} {ds : List PyData} (n : Nat), DpAll K H xs ds → DpAll K H (xs.take n) (ds.take n)
  | _, _, 0, _ => by rw [List.take_zero, List.take_zero]; exact .nil
  | _, _, n + 1, .nil => .nil
  | _, _, n + 1, .cons h t => .cons h (dpAll_take n t)
theorem dpAll_drop {K : PySem.W.Frag} {H : Hp} : ∀ {xs : List V} {ds : List PyData} (n : Nat), DpAll K H xs ds → DpAll K H (xs.drop n) (ds.drop n)
  | _, _, 0, h => h
  | _, _, n + 1, .nil => .nil
  | _, _, n + 1, .cons h t => dpAll_drop n t
/-- xs[:k], xs[k:] -/
theorem cut_front {xs : List V} {k : Int} (h0 : 0 ≤ k) (h1 : k ≤ xs.length) : cutV xs none (some k) = xs.take k.toNat := by
  have e : k = ((k.toNat : Nat) : Int) := by omega
  unfold cutV
  rw [HT.sIx_none, List.drop_zero, e, HT.sIx_nat, Nat.sub_zero, Int.toNat_natCast]
  congr 1
  omega
theorem cut_back {xs : List V} {k : Int} (h0 : 0 ≤ k) (h1 : k ≤ xs.length) : cutV xs (some k) none = xs.drop k.toNat := by
  have e : k = ((k.toNat : Nat) : Int) := by omega
  unfold cutV
  rw [HT.sIx_none, e, HT.sIx_nat, Int.toNat_natCast, Nat.min_eq_left (by omega)]
  exact List.take_of_length_le (by rw [List.length_drop]; exact Nat.le_refl _)

/-! ### rounded half up -/
def hu (x y : Int) : Int := (2 * x + y) / (2 * y)
theorem half_up {x y : Int} (h : 0 < y) : 0 < frB x y ∧ frB x y ≤ y ∧ (2 * frA x y + frB x y).fdiv (2 * frB x y) = hu x y := by
  obtain ⟨e1, e2, q0, _, cs, hb, _⟩ := fr_spec (x := x) (y := y) (by omega)
  have hc := cs.mpr h
  refine ⟨q0, by omega, ?_⟩
  unfold hu
  generalize frC x y = c at *
  generalize frA x y = p at *
  generalize frB x y = q at *
  rw [Int.fdiv_eq_ediv_of_nonneg _ (by omega)]
  have a1 : 2 * x + y = c * (2 * p + q) := by rw [e1, e2, Int.mul_add, ← Int.mul_assoc c 2 p, Int.mul_comm c 2, Int.mul_assoc]
  have a2 : 2 * y = c * (2 * q) := by rw [e2, ← Int.mul_assoc c 2 q, Int.mul_comm c 2, Int.mul_assoc]
  rw [a1, a2, Int.mul_ediv_mul_of_pos _ _ hc]
/-- what half up means -/
theorem hu_near {x y : Int} (h : 0 < y) : -y ≤ 2 * (x - hu x y * y) ∧ 2 * (x - hu x y * y) < y := by
  have a := Int.emod_add_mul_ediv (2 * x + y) (2 * y)
  have b := Int.emod_nonneg (2 * x + y) (show 2 * y ≠ 0 by omega)
  have c := Int.emod_lt_of_pos (2 * x + y) (show 0 < 2 * y by omega)
  have e : 2 * y * ((2 * x + y) / (2 * y)) = 2 * (hu x y * y) := by
    unfold hu
    rw [Int.mul_comm ((2 * x + y) / (2 * y)) y, Int.mul_assoc]
  rw [e] at a
  omega
/-- and only the one nearest -/
theorem hu_uniq {x y t : Int} (h : 0 < y) (h1 : -y ≤ 2 * (x - t * y)) (h2 : 2 * (x - t * y) < y) : hu x y = t := by
  obtain ⟨a, b⟩ := hu_near (x := x) h
  have e : (hu x y - t) * y = hu x y * y - t * y := Int.sub_mul _ _ _
  generalize hu x y * y = u at a b e
  generalize t * y = v at h1 h2 e
  have l1 : (hu x y - t) * y < y := by omega
  have l2 : -y < (hu x y - t) * y := by omega
  generalize hd : hu x y - t = d at e l1 l2
  have d1 : d < 1 := by
    rcases Int.lt_or_le d 1 with z | z
    · exact z
    · have := Int.mul_le_mul_of_nonneg_right z (show 0 ≤ y by omega)
      omega
  have d2 : -1 < d := by
    rcases Int.lt_or_le (-1) d with z | z
    · exact z
    · have := Int.mul_le_mul_of_nonneg_right z (show 0 ≤ y by omega)
      omega
  omega
theorem hu_zero {y : Int} (h : 0 < y) : hu 0 y = 0 := hu_uniq h (by omega) (by omega)
theorem hu_all {n : Int} : hu (n * 100) 100 = n := hu_uniq (by decide) (by omega) (by omega)
def waysV : List V := [.str "down", .str "up", .str "toward zero", .str "half up", .str "half even"]
def sp_rounded_hu0 : Sp := fun vs H Q _ => ∃ x y : Int, vs = [.int x, .int y, .str "half up"] ∧ 0 < y ∧ y < 2 ^ 20 ∧ ∀ H', Same H H' → Q (.int (hu x y)) H'
@[irreducible] def sp_rounded_hu : Sp := sp_rounded_hu0
theorem sp_rounded_hu_eq : sp_rounded_hu = sp_rounded_hu0 := by unfold sp_rounded_hu; rfl
theorem rounded_hu {H : Hp} {Q : VK} {E : XK} (x : Int) {y : Int} (h0 : 0 < y) (h1 : y < 2 ^ 20) (k : ∀ H', Same H H' → Q (.int (hu x y)) H') : sp_rounded_hu [.int x, .int y, .str "half up"] H Q E := by
  rw [sp_rounded_hu_eq]
  exact ⟨x, y, rfl, h0, h1, k⟩
/-! ### all that stands but the deck -/
theorem del_some {H : Hp} {p b : Addr} {o : HO} (h : H b = some o) (n : b ≠ p) : del H p b = some o := by rw [del_ne n]; exact h
theorem del_of {H : Hp} {p b : Addr} {o : HO} (h : del H p b = some o) : H b = some o ∧ b ≠ p := by
  by_cases e : b = p
  · rw [e, del_same] at h
    cases h
  · rw [del_ne e] at h
    exact ⟨h, e⟩
theorem Dk.freeze {G H : Hp} {d : Addr} {D : List Int} (k : Dk G H d D) : Dk (del H d) H d D := ⟨del_same, fun _ _ e => (del_of e).1, k.hd⟩
theorem Dk.under {G H : Hp} {d : Addr} {D : List Int} (k : Dk G H d D) : Same G (del H d) := fun b o e => del_some (k.sm b o e) (k.ne e)
theorem DN.frozen {K : PySem.W.Frag} {S : Addr → Prop} {H : Hp} {p : Addr} {v : V} {d : PyData} (h : DN S H v d) (hs : ∀ b, S b → b ≠ p) : Dp K (del H p) v d :=
  DN.dp d v (DN.mono (S' := S) (fun _ z => z) (fun a o hS e => del_some e (hs a hS)) d v h)

theorem DNs.frozen {K : PySem.W.Frag} {S : Addr → Prop} {H : Hp} {p : Addr} {vs : List V} {ds : List PyData} (h : DNs S H vs ds) (hs : ∀ b, S b → b ≠ p) : DpAll K (del H p) vs ds :=
  DNs.dp ds vs (DNs.mono (S' := S) (fun _ z => z) (fun a o hS e => del_some e (hs a hS)) ds vs h)
theorem Dk.get {H H2 : Hp} {d b : Addr} {D : List Int} {o : HO} (k : Dk (del H d) H2 d D) (n : b ≠ d) (h : H b = some o) : H2 b = some o := k.sm b o (del_some h n)
theorem DNs.on {S : Addr → Prop} {H H2 : Hp} {d : Addr} {D : List Int} {vs : List V} {ds : List PyData} (h : DNs S H vs ds) (k : Dk (del H d) H2 d D) (hs : ∀ b, S b → b ≠ d) : DNs S H2 vs ds :=
  DNs.mono (fun _ z => z) (fun a o hS e => k.get (hs a hS) e) ds vs h
/-- a list and another with the same data: != says no -/
theorem data_same {K : PySem.W.Frag} {H : Hp} {v w : V} {d : PyData} {Q : VK} {n : Nat} (h1 : Dp K H v d) (h2 : Dp K H w d) (ok : okDx n d = true) (hn : n ≤ 64) (k : Q (.bl false) H) : rNeD K v w H Q := by
  have sh := okDx_shaped ok hn
  refine ⟨d, d, h1, h2, sh, sh, ?_⟩
  rw [SeqAt.eqv_refl _ (SeqAt.canLay_of_shaped sh)]
  exact k
theorem data_eq {K : PySem.W.Frag} {H : Hp} {v w : V} {d : PyData} {Q : VK} {n : Nat} (h1 : Dp K H v d) (h2 : Dp K H w d) (ok : okDx n d = true) (hn : n ≤ 64) (k : Q (.bl true) H) : rEqD K v w H Q := by
  have sh := okDx_shaped ok hn
  refine ⟨d, d, h1, h2, sh, sh, ?_⟩
  rw [SeqAt.eqv_refl _ (SeqAt.canLay_of_shaped sh)]
  exact k
mutual
theorem okD_x : ∀ (n : Nat) (d : PyData), okD n d = true → okDx n d = true
  | n, .none, _ => by cases n <;> simp only [okDx]
  | n, .bool b, _ => by cases n <;> simp only [okDx]
  | n, .int i, _ => by cases n <;> simp only [okDx]
  | n, .str x, h => by
    simp only [okD] at h
    cases n <;> simp [okDx, h]
  | 0, .list _, h => by simp [okD] at h
  | n + 1, .list xs, h => by
    simp only [okD, Bool.and_eq_true] at h
    simp only [okDx]
    exact okDs_x n xs h.2
  | 0, .tuple _, h => by simp [okD] at h
  | n + 1, .tuple xs, h => by
    simp only [okD, Bool.and_eq_true] at h
    simp only [okDx]
    exact okDs_x n xs h.2
  | n, .dict _, h => by cases n <;> simp [okD] at h
theorem okDs_x : ∀ (n : Nat) (ds : List PyData), okDs n ds = true → okDxs n ds = true
  | _, [], _ => by simp [okDxs]
  | n, x :: xs, h => by
    simp only [okDs, Bool.and_eq_true] at h
    simp only [okDxs, okD_x n x h.1, okDs_x n xs h.2, Bool.and_self]
end
end Sw


set_option hygiene false in
local macro_rules | `(tactic| walk_at "len") => `(tactic| repeat (first | (obtain ⟨rfl, _⟩ := h; rfl) | (obtain ⟨_, h⟩ := h)))
local macro_rules | `(tactic| walk_at "st") => `(tactic| first
  | refine ⟨_, rfl, ?_⟩
  | refine ⟨_, _, rfl, rfl, (by show (0 : Int) < _; decide), ?_⟩
  | refine ⟨_, _, rfl, rfl, by decide, ?_⟩
  | refine ⟨_, _, rfl, rfl, ⟨by decide, by decide⟩, ?_⟩
  | refine ⟨_, _, rfl, rfl, .inl ⟨by decide, by decide⟩, ?_⟩
  | refine ⟨_, _, rfl, rfl, .inr ⟨by decide, by decide⟩, ?_⟩
  | refine ⟨_, _, rfl, rfl, ?_⟩
  | refine .inl ⟨_, rfl, ?_⟩
  | refine .inr ⟨_, rfl, ?_⟩
  | refine ⟨rfl, ?_⟩)
local macro_rules | `(tactic| walk_at "sts") => `(tactic| repeat walk_at "st")

namespace K45
open PySem PySem.Spec PyProof.Rows L2 Sw
def topS (i : Nat) : Stmt := PySem.Challenge.pw_slotwork_k45_prices_changed.main.body.getD i (.Pass ⟨0, 0, 0, 0⟩)
abbrev st_c_InvalidTime_init : Stmt := inClass (topS 3) 0
abbrev st_c_InvalidMoney_init : Stmt := inClass (topS 4) 0
abbrev st_c_fraction : Stmt := topS 7
abbrev st_c_rounded : Stmt := topS 8
abbrev st_c_check_rules : Stmt := topS 11
abbrev st_c_changed_price : Stmt := topS 12
abbrev st_c_law_deck : Stmt := topS 14
abbrev st_c_law_take : Stmt := topS 15
abbrev st_c_law_plain : Stmt := topS 16
abbrev st_c_law_why : Stmt := topS 17
abbrev st_c_law_changed : Stmt := topS 18
abbrev st_c_law : Stmt := topS 19
theorem sc_c_InvalidTime_init : FnScope ["self", "what"] ["self", "what"] (defScope st_c_InvalidTime_init) := ⟨rfl, rfl, rfl, by decide +kernel, rfl, by decide +kernel, by decide +kernel⟩
theorem sc_c_InvalidMoney_init : FnScope ["self", "what"] ["self", "what"] (defScope st_c_InvalidMoney_init) := ⟨rfl, rfl, rfl, by decide +kernel, rfl, by decide +kernel, by decide +kernel⟩
theorem sc_c_fraction : FnScope ["above", "below", "common"] ["above", "below"] (defScope st_c_fraction) := ⟨rfl, rfl, rfl, by decide +kernel, rfl, by decide +kernel, by decide +kernel⟩
theorem sc_c_rounded : FnScope ["above", "below", "way", "low"] ["above", "below", "way"] (defScope st_c_rounded) := ⟨rfl, rfl, rfl, by decide +kernel, rfl, by decide +kernel, by decide +kernel⟩
theorem sc_c_check_rules : FnScope ["rules", "kind", "number"] ["rules"] (defScope st_c_check_rules) := ⟨rfl, rfl, rfl, by decide +kernel, rfl, by decide +kernel, by decide +kernel⟩
theorem sc_c_changed_price : FnScope ["price", "rules", "kind", "number"] ["price", "rules"] (defScope st_c_changed_price) := ⟨rfl, rfl, rfl, by decide +kernel, rfl, by decide +kernel, by decide +kernel⟩
theorem sc_c_law_deck : FnScope ["script", "cells", "each", "deck", "seed", "k", "cell", "rest", "at"] ["script", "cells", "each"] (defScope st_c_law_deck) := ⟨rfl, rfl, rfl, by decide +kernel, rfl, by decide +kernel, by decide +kernel⟩
theorem sc_c_law_take : FnScope ["deck", "many"] ["deck", "many"] (defScope st_c_law_take) := ⟨rfl, rfl, rfl, by decide +kernel, rfl, by decide +kernel, by decide +kernel⟩
theorem sc_c_law_plain : FnScope ["value", "item"] ["value"] (defScope st_c_law_plain) := ⟨rfl, rfl, rfl, by decide +kernel, rfl, by decide +kernel, by decide +kernel⟩
theorem sc_c_law_why : FnScope ["price", "rules", "error"] ["price", "rules"] (defScope st_c_law_why) := ⟨rfl, rfl, rfl, by decide +kernel, rfl, by decide +kernel, by decide +kernel⟩
theorem sc_c_law_changed : FnScope ["price", "rules", "kind", "number", "goal", "other"] ["price", "rules"] (defScope st_c_law_changed) := ⟨rfl, rfl, rfl, by decide +kernel, rfl, by decide +kernel, by decide +kernel⟩
theorem sc_c_law : FnScope ["script", "deck", "price", "rules", "turn", "kind", "number", "handed", "due", "cut", "low", "high", "told", "end", "once", "bad", "answers"] ["script"] (defScope st_c_law) := ⟨rfl, rfl, rfl, by decide +kernel, rfl, by decide +kernel, by decide +kernel⟩
/-- where the defs, the classes and the constants of the text stand -/
structure Ad where
  f_c_InvalidTime_init : Addr
  d_c_InvalidTime_init : FuncData
  f_c_InvalidMoney_init : Addr
  d_c_InvalidMoney_init : FuncData
  f_c_fraction : Addr
  d_c_fraction : FuncData
  f_c_rounded : Addr
  d_c_rounded : FuncData
  f_c_check_rules : Addr
  d_c_check_rules : FuncData
  f_c_changed_price : Addr
  d_c_changed_price : FuncData
  f_c_law_deck : Addr
  d_c_law_deck : FuncData
  f_c_law_take : Addr
  d_c_law_take : FuncData
  f_c_law_plain : Addr
  d_c_law_plain : FuncData
  f_c_law_why : Addr
  d_c_law_why : FuncData
  f_c_law_changed : Addr
  d_c_law_changed : FuncData
  f_c_law : Addr
  d_c_law : FuncData
  C_SlotError : Addr
  C_InvalidTime : Addr
  C_InvalidMoney : Addr
  A_WAYS : Addr
  A_KINDS : Addr
  z : Unit := ()
structure Txt (K : PySem.W.Frag) (mg : Str → Option Value) (a : Ad) : Prop where
  F_c_InvalidTime_init : Fun K "__init__" "InvalidTime.__init__" st_c_InvalidTime_init a.f_c_InvalidTime_init a.d_c_InvalidTime_init
  b_c_InvalidTime_init : Binds K a.d_c_InvalidTime_init ["self", "what"] []
  F_c_InvalidMoney_init : Fun K "__init__" "InvalidMoney.__init__" st_c_InvalidMoney_init a.f_c_InvalidMoney_init a.d_c_InvalidMoney_init
  b_c_InvalidMoney_init : Binds K a.d_c_InvalidMoney_init ["self", "what"] []
  F_c_fraction : Fun K "fraction" "fraction" st_c_fraction a.f_c_fraction a.d_c_fraction
  b_c_fraction : Binds K a.d_c_fraction ["above", "below"] []
  m_c_fraction : mg "fraction" = some (.ref a.f_c_fraction)
  F_c_rounded : Fun K "rounded" "rounded" st_c_rounded a.f_c_rounded a.d_c_rounded
  b_c_rounded : Binds K a.d_c_rounded ["above", "below", "way"] []
  m_c_rounded : mg "rounded" = some (.ref a.f_c_rounded)
  F_c_check_rules : Fun K "check_rules" "check_rules" st_c_check_rules a.f_c_check_rules a.d_c_check_rules
  b_c_check_rules : Binds K a.d_c_check_rules ["rules"] []
  m_c_check_rules : mg "check_rules" = some (.ref a.f_c_check_rules)
  F_c_changed_price : Fun K "changed_price" "changed_price" st_c_changed_price a.f_c_changed_price a.d_c_changed_price
  b_c_changed_price : Binds K a.d_c_changed_price ["price", "rules"] []
  m_c_changed_price : mg "changed_price" = some (.ref a.f_c_changed_price)
  F_c_law_deck : Fun K "_law_deck" "_law_deck" st_c_law_deck a.f_c_law_deck a.d_c_law_deck
  b_c_law_deck : Binds K a.d_c_law_deck ["script", "cells", "each"] []
  m_c_law_deck : mg "_law_deck" = some (.ref a.f_c_law_deck)
  F_c_law_take : Fun K "_law_take" "_law_take" st_c_law_take a.f_c_law_take a.d_c_law_take
  b_c_law_take : Binds K a.d_c_law_take ["deck", "many"] []
  m_c_law_take : mg "_law_take" = some (.ref a.f_c_law_take)
  F_c_law_plain : Fun K "_law_plain" "_law_plain" st_c_law_plain a.f_c_law_plain a.d_c_law_plain
  b_c_law_plain : Binds K a.d_c_law_plain ["value"] []
  m_c_law_plain : mg "_law_plain" = some (.ref a.f_c_law_plain)
  F_c_law_why : Fun K "_law_why" "_law_why" st_c_law_why a.f_c_law_why a.d_c_law_why
  b_c_law_why : Binds K a.d_c_law_why ["price", "rules"] []
  m_c_law_why : mg "_law_why" = some (.ref a.f_c_law_why)
  F_c_law_changed : Fun K "_law_changed" "_law_changed" st_c_law_changed a.f_c_law_changed a.d_c_law_changed
  b_c_law_changed : Binds K a.d_c_law_changed ["price", "rules"] []
  m_c_law_changed : mg "_law_changed" = some (.ref a.f_c_law_changed)
  F_c_law : Fun K "law" "law" st_c_law a.f_c_law a.d_c_law
  b_c_law : Binds K a.d_c_law ["script"] []
  m_c_law : mg "law" = some (.ref a.f_c_law)
  m_SlotError : mg "SlotError" = some (.ref a.C_SlotError)
  bc_SlotError : BaseC K a.C_SlotError
  m_InvalidTime : mg "InvalidTime" = some (.ref a.C_InvalidTime)
  ox_InvalidTime : OexC K a.C_InvalidTime
  in_InvalidTime : PySem.W.findIn K (.ref a.C_InvalidTime) "__init__" = some (some (.ref a.f_c_InvalidTime_init))
  ti_InvalidTime : PySem.W.typeIn K (.ref a.f_c_InvalidTime_init) = some (.type "function")
  no_InvalidTime_what : PySem.W.findIn K (.ref a.C_InvalidTime) "what" = some none
  xf_InvalidTime : XfC K a.C_InvalidTime
  is_InvalidTime : IsC K a.C_InvalidTime
  em_InvalidTime_SlotError : PySem.W.exmOne K (.ref a.C_InvalidTime) (.ref a.C_SlotError) = some true
  em_InvalidTime_InvalidTime : PySem.W.exmOne K (.ref a.C_InvalidTime) (.ref a.C_InvalidTime) = some true
  m_InvalidMoney : mg "InvalidMoney" = some (.ref a.C_InvalidMoney)
  ox_InvalidMoney : OexC K a.C_InvalidMoney
  in_InvalidMoney : PySem.W.findIn K (.ref a.C_InvalidMoney) "__init__" = some (some (.ref a.f_c_InvalidMoney_init))
  ti_InvalidMoney : PySem.W.typeIn K (.ref a.f_c_InvalidMoney_init) = some (.type "function")
  no_InvalidMoney_what : PySem.W.findIn K (.ref a.C_InvalidMoney) "what" = some none
  xf_InvalidMoney : XfC K a.C_InvalidMoney
  is_InvalidMoney : IsC K a.C_InvalidMoney
  em_InvalidMoney_SlotError : PySem.W.exmOne K (.ref a.C_InvalidMoney) (.ref a.C_SlotError) = some true
  em_InvalidMoney_InvalidMoney : PySem.W.exmOne K (.ref a.C_InvalidMoney) (.ref a.C_InvalidMoney) = some true
  kt_InvalidMoney_InvalidMoney : PySem.W.kitOne K (.ref a.C_InvalidMoney) (.ref a.C_InvalidMoney) = some true
  kt_InvalidMoney_InvalidTime : PySem.W.kitOne K (.ref a.C_InvalidMoney) (.ref a.C_InvalidTime) = some false
  n_abs : mg "abs" = none
  n_bool : mg "bool" = none
  n_int : mg "int" = none
  n_isinstance : mg "isinstance" = none
  n_len : mg "len" = none
  n_list : mg "list" = none
  n_max : mg "max" = none
  n_min : mg "min" = none
  n_range : mg "range" = none
  n_str : mg "str" = none
  n_tuple : mg "tuple" = none
  i_gcd : mg "gcd" = some (.builtin "math.gcd")
  m_WAYS : mg "WAYS" = some (.ref a.A_WAYS)
  w_WAYS : SqT K (fun _ => none) a.A_WAYS [.str "down", .str "up", .str "toward zero", .str "half up", .str "half even"]
  m_KINDS : mg "KINDS" = some (.ref a.A_KINDS)
  w_KINDS : SqT K (fun _ => none) a.A_KINDS [.str "percent", .str "minus", .str "plus", .str "least", .str "most", .str "ending"]
abbrev sp_c_law_take : Sp := sp_take
abbrev sp_c_law_deck (K : PySem.W.Frag) : Sp := sp_deck K
abbrev sp_c_law_plain (K : PySem.W.Frag) (n : Nat) : Sp := sp_plain K n
abbrev sp_c_fraction (C : Addr) : Sp := sp_fraction C
abbrev sp_c_rounded : Sp := sp_rounded_hu

def kindsV : List V := [.str "percent", .str "minus", .str "plus", .str "least", .str "most", .str "ending"]
def ruleD (r : Str × Int) : PyData := .tuple [.str r.1, .int r.2]
def ruleOk (r : Str × Int) : Bool := inV (.str r.1) kindsV && !(decide (r.1 = "percent") && !(decide (0 ≤ r.2) && decide (r.2 ≤ 100))) && decide (0 ≤ r.2) && !(decide (r.1 = "ending") && decide (99 < r.2))
def rulesOk (rs : List (Str × Int)) : Bool := rs.all ruleOk
def chg1 (p : Int) (r : Str × Int) : Int :=
  if r.1 = "percent" then p - hu (p * r.2) 100
  else if r.1 = "minus" then (if p - r.2 > 0 then p - r.2 else 0)
  else if r.1 = "plus" then p + r.2
  else if r.1 = "least" then (if r.2 > p then r.2 else p)
  else if r.1 = "most" then (if r.2 < p then r.2 else p)
  else if 0 ≤ p - (p - r.2) % 100 then p - (p - r.2) % 100 else r.2
def chg (p : Int) (rs : List (Str × Int)) : Int := rs.foldl chg1 p
def sp_c_check_rules0 (K : PySem.W.Frag) (C : Addr) : Sp := fun vs H Q E => ∃ (v : V) (isL : Bool) (rs : List (Str × Int)), vs = [v] ∧ Dp K H v (seqD isL (rs.map ruleD)) ∧ (rulesOk rs = false → raisesW C "rules" H E) ∧ (rulesOk rs = true → Q .non H)
@[irreducible] def sp_c_check_rules (K : PySem.W.Frag) (C : Addr) : Sp := sp_c_check_rules0 K C
theorem sp_c_check_rules_eq (K : PySem.W.Frag) (C : Addr) : sp_c_check_rules K C = sp_c_check_rules0 K C := by unfold sp_c_check_rules; rfl
theorem sp_c_check_rules_use {K : PySem.W.Frag} {C : Addr} {vs : List V} {H : Hp} {Q : VK} {E : XK} (h : sp_c_check_rules0 K C vs H Q E) : sp_c_check_rules K C vs H Q E := by rw [sp_c_check_rules_eq]; exact h
def sp_c_changed_price0 (K : PySem.W.Frag) (C : Addr) : Sp := fun vs H Q E => ∃ (p : Int) (v : V) (isL : Bool) (rs : List (Str × Int)), vs = [.int p, v] ∧ Dp K H v (seqD isL (rs.map ruleD)) ∧ (p < 0 → raisesW C "price" H E) ∧ (0 ≤ p → rulesOk rs = false → raisesW C "rules" H E) ∧ (0 ≤ p → rulesOk rs = true → ∀ H', Same H H' → Q (.int (chg p rs)) H')
@[irreducible] def sp_c_changed_price (K : PySem.W.Frag) (C : Addr) : Sp := sp_c_changed_price0 K C
theorem sp_c_changed_price_eq (K : PySem.W.Frag) (C : Addr) : sp_c_changed_price K C = sp_c_changed_price0 K C := by unfold sp_c_changed_price; rfl
theorem sp_c_changed_price_use {K : PySem.W.Frag} {C : Addr} {vs : List V} {H : Hp} {Q : VK} {E : XK} (h : sp_c_changed_price0 K C vs H Q E) : sp_c_changed_price K C vs H Q E := by rw [sp_c_changed_price_eq]; exact h
def sp_c_law_why0 (K : PySem.W.Frag) : Sp := fun vs H Q _ => ∃ (p : Int) (v : V) (isL : Bool) (rs : List (Str × Int)) (wd : Str), vs = [.int p, v] ∧ Dp K H v (seqD isL (rs.map ruleD)) ∧ ((p < 0 ∧ wd = "price") ∨ (0 ≤ p ∧ rulesOk rs = false ∧ wd = "rules")) ∧ ∀ H', Same H H' → Q (.str wd) H'
@[irreducible] def sp_c_law_why (K : PySem.W.Frag) : Sp := sp_c_law_why0 K
theorem sp_c_law_why_eq (K : PySem.W.Frag) : sp_c_law_why K = sp_c_law_why0 K := by unfold sp_c_law_why; rfl
theorem sp_c_law_why_use {K : PySem.W.Frag} {vs : List V} {H : Hp} {Q : VK} {E : XK} (h : sp_c_law_why0 K vs H Q E) : sp_c_law_why K vs H Q E := by rw [sp_c_law_why_eq]; exact h
def sp_c_law_changed0 (K : PySem.W.Frag) : Sp := fun vs H Q _ => ∃ (p : Int) (v : V) (rs : List (Str × Int)), vs = [.int p, v] ∧ Dp K H v (.list (rs.map ruleD)) ∧ 0 ≤ p ∧ p ≤ 1000000 ∧ rulesOk rs = true ∧ rs.length ≤ 1000 ∧ (∀ r ∈ rs, r.2 ≤ 1000000) ∧ ∀ H', Same H H' → Q (.int (chg p rs)) H'
@[irreducible] def sp_c_law_changed (K : PySem.W.Frag) : Sp := sp_c_law_changed0 K
theorem sp_c_law_changed_eq (K : PySem.W.Frag) : sp_c_law_changed K = sp_c_law_changed0 K := by unfold sp_c_law_changed; rfl
theorem sp_c_law_changed_use {K : PySem.W.Frag} {vs : List V} {H : Hp} {Q : VK} {E : XK} (h : sp_c_law_changed0 K vs H Q E) : sp_c_law_changed K vs H Q E := by rw [sp_c_law_changed_eq]; exact h
def sp_c_law (K : PySem.W.Frag) : Sp := fun vs H Q _ => ∃ (a : Addr) (ns : List Int), vs = [.ref a] ∧ SqL K H a (ns.map V.int) ∧ ns.length ≤ 63 ∧ ∀ H', Q (.bl true) H'
theorem ruleOk_iff {r : Str × Int} : ruleOk r = true ↔ inV (.str r.1) kindsV = true ∧ (r.1 = "percent" → 0 ≤ r.2 ∧ r.2 ≤ 100) ∧ 0 ≤ r.2 ∧ (r.1 = "ending" → r.2 ≤ 99) := by
  unfold ruleOk
  simp only [Bool.and_eq_true, Bool.not_eq_true', Bool.and_eq_false_iff, decide_eq_false_iff_not, decide_eq_true_eq]
  constructor
  · rintro ⟨⟨⟨h1, h2⟩, h3⟩, h4⟩
    refine ⟨h1, fun z => ?_, h3, fun z => ?_⟩
    · rcases h2 with h2 | h2
      · exact absurd z h2
      · simp at h2
        omega
    · rcases h4 with h4 | h4
      · exact absurd z h4
      · omega
  · rintro ⟨h1, h2, h3, h4⟩
    refine ⟨⟨⟨h1, ?_⟩, h3⟩, ?_⟩
    · by_cases z : r.1 = "percent"
      · right
        have := h2 z
        simp
        omega
      · exact .inl z
    · by_cases z : r.1 = "ending"
      · right
        have := h4 z
        omega
      · exact .inl z
theorem chg1_nonneg {p : Int} {r : Str × Int} (hp : 0 ≤ p) (hr : ruleOk r = true) : 0 ≤ chg1 p r := by
  obtain ⟨_, h1, h2, h3⟩ := ruleOk_iff.mp hr
  unfold chg1
  split
  · rename_i z
    obtain ⟨a, b⟩ := h1 z
    obtain ⟨c, d⟩ := hu_near (x := p * r.2) (y := 100) (by decide)
    have := Int.mul_le_mul_of_nonneg_left b hp
    omega
  · (repeat' split) <;> omega
theorem chg1_le {p M : Int} {r : Str × Int} (hp : 0 ≤ p) (hr : ruleOk r = true) (hM : 0 ≤ M) (h : r.2 ≤ M) : chg1 p r ≤ p + M := by
  obtain ⟨_, h1, h2, h3⟩ := ruleOk_iff.mp hr
  unfold chg1
  split
  · rename_i z
    obtain ⟨a, b⟩ := h1 z
    obtain ⟨c, d⟩ := hu_near (x := p * r.2) (y := 100) (by decide)
    have := Int.mul_nonneg hp a
    omega
  · have := Int.emod_nonneg (p - r.2) (show (100 : Int) ≠ 0 by decide)
    (repeat' split) <;> omega
theorem chg_nonneg : ∀ {rs : List (Str × Int)} {p : Int}, 0 ≤ p → rulesOk rs = true → 0 ≤ chg p rs
  | [], p, h, _ => h
  | r :: rs, p, h, ho => by
    simp only [rulesOk, List.all_cons, Bool.and_eq_true] at ho
    exact chg_nonneg (rs := rs) (chg1_nonneg h ho.1) ho.2
theorem chg_app (p : Int) (rs ss : List (Str × Int)) : chg p (rs ++ ss) = chg (chg p rs) ss := List.foldl_append
theorem chg_take {rs : List (Str × Int)} {p : Int} {i : Nat} {r : Str × Int} (h : rs[i]? = some r) : chg p (rs.take (i + 1)) = chg1 (chg p (rs.take i)) r := by
  rw [List.take_add_one, h]
  exact chg_app _ _ _
theorem ok_get {rs : List (Str × Int)} {i : Nat} {r : Str × Int} (ho : rulesOk rs = true) (h : rs[i]? = some r) : ruleOk r = true := List.all_eq_true.mp ho r (List.mem_of_getElem? h)
theorem get_ruleD {rs : List (Str × Int)} {i : Nat} {d : PyData} (h : (rs.map ruleD)[i]? = some d) : ∃ r, rs[i]? = some r ∧ d = ruleD r := by
  rw [List.getElem?_map] at h
  cases e : rs[i]? with
  | none => rw [e] at h; cases h
  | some r => rw [e] at h; exact ⟨r, rfl, (Option.some.inj h).symm⟩
/-- an item of rules -/
theorem rule_at {K : PySem.W.Frag} {H : Hp} {xs : List V} {rs : List (Str × Int)} {i : Nat} {x : V} (h : DpAll K H xs (rs.map ruleD)) (hx : xs[i]? = some x) : ∃ k n t, rs[i]? = some (k, n) ∧ x = .ref t ∧ SqT K H t [.str k, .int n] := by
  obtain ⟨d, h1, h2⟩ := dpAll_get h hx
  obtain ⟨⟨k, n⟩, h3, rfl⟩ := get_ruleD h1
  obtain ⟨t, ys, rfl, h4, h5⟩ := dp_tup h2
  obtain ⟨v, w, rfl, h6, h7⟩ := dpAll_two h5
  rw [dp_str h6, dp_int h7] at h4
  exact ⟨k, n, t, h3, rfl, h4⟩
theorem okDs_rules : ∀ {rs : List (Str × Int)}, (∀ r ∈ rs, PyData.strOk r.1 = true) → okDs 1 (rs.map ruleD) = true
  | [], _ => by simp [okDs]
  | r :: rs, h => by
    have h1 := okDs_rules (rs := rs) (fun q hq => h q (List.mem_cons_of_mem _ hq))
    have h2 := h r (List.mem_cons_self ..)
    simp [okDs, h1, ruleD, okD, h2]
theorem kind_of {s : Str} (h : inV (.str s) kindsV = true) : PyData.strOk s = true := by
  simp only [inV, kindsV, List.any_cons, List.any_nil, Bool.or_false, Bool.or_eq_true, eqV, beq_iff_eq] at h
  rcases h with h | h | h | h | h | h <;> rw [← h] <;> decide +kernel
theorem ok_rules {rs : List (Str × Int)} (h : rulesOk rs = true) (hl : rs.length ≤ 1000) : okD 2 (.list (rs.map ruleD)) = true := by
  simp only [okD, Bool.and_eq_true, decide_eq_true_eq, List.length_map]
  exact ⟨hl, okDs_rules fun r hr => kind_of (ruleOk_iff.mp (List.all_eq_true.mp h r hr)).1⟩
theorem lit1 {K : PySem.W.Frag} {H : Hp} {t l : Addr} {r : Str × Int} (h1 : H t = some (.tup [.str r.1, .int r.2])) (h2 : H l = some (.lst [.ref t])) : Dp K H (.ref l) (.list ([r].map ruleD)) :=
  .lst (SqL.of h2) (.cons (.tup (SqT.of h1) (.cons (.str _) (.cons (.int _) .nil))) .nil)
theorem ok_plain {k : Str} {n : Int} (hk : inV (.str k) kindsV = true) (h1 : k ≠ "percent") (h2 : k ≠ "ending") (h : 0 ≤ n) : ruleOk (k, n) = true := ruleOk_iff.mpr ⟨hk, fun z => absurd z h1, h, fun z => absurd z h2⟩
theorem chg_percent {p n : Int} : chg p [("percent", n)] = p - hu (p * n) 100 := by
  show chg1 p ("percent", n) = _
  unfold chg1
  dsimp only
  rw [if_pos rfl]
theorem chg_minus {p n : Int} : chg p [("minus", n)] = if p - n > 0 then p - n else 0 := by
  show chg1 p ("minus", n) = _
  unfold chg1
  dsimp only
  rw [if_neg (by decide +kernel), if_pos rfl]
theorem chg_ending {p n : Int} : chg p [("ending", n)] = if 0 ≤ p - (p - n) % 100 then p - (p - n) % 100 else n := by
  show chg1 p ("ending", n) = _
  unfold chg1
  dsimp only
  rw [if_neg (by decide +kernel), if_neg (by decide +kernel), if_neg (by decide +kernel), if_neg (by decide +kernel), if_neg (by decide +kernel)]
theorem chg_bounds {p lo hi : Int} (h : lo ≤ hi) : lo ≤ chg p [("least", lo), ("most", hi)] ∧ chg p [("least", lo), ("most", hi)] ≤ hi := by
  have e : chg p [("least", lo), ("most", hi)] = chg1 (chg1 p ("least", lo)) ("most", hi) := rfl
  have e1 : ∀ q n, chg1 q ("least", n) = if n > q then n else q := fun q n => by
    unfold chg1
    dsimp only
    rw [if_neg (by decide +kernel), if_neg (by decide +kernel), if_neg (by decide +kernel), if_pos rfl]
  have e2 : ∀ q n, chg1 q ("most", n) = if n < q then n else q := fun q n => by
    unfold chg1
    dsimp only
    rw [if_neg (by decide +kernel), if_neg (by decide +kernel), if_neg (by decide +kernel), if_neg (by decide +kernel), if_pos rfl]
  rw [e, e2, e1]
  constructor <;> ((repeat' split) <;> omega)
theorem end_facts {p n q : Int} (hp : 0 ≤ p) (h0 : 0 ≤ n) (h1 : n ≤ 99) (e : q = chg p [("ending", n)]) : 0 ≤ q ∧ q % 100 = n ∧ chg q [("ending", n)] = q ∧ (q > p → p < n) := by
  rw [chg_ending] at e
  rw [chg_ending]
  have m0 := Int.emod_nonneg (p - n) (show (100 : Int) ≠ 0 by decide)
  have m1 := Int.emod_lt_of_pos (p - n) (show (0 : Int) < 100 by decide)
  split at e
  · have : (q - n) % 100 = 0 := by omega
    rw [this]
    refine ⟨by omega, by omega, by split <;> omega, by omega⟩
  · have : (q - n) % 100 = 0 := by omega
    rw [this]
    refine ⟨by omega, by omega, by split <;> omega, by omega⟩
def badR : List (Str × Int) := [("percent", 101), ("percent", -1), ("minus", -1), ("ending", 100), ("least", -5), ("half", 3), ("Percent", 3), ("plus", -1)]
theorem badR_no : ∀ r ∈ badR, ruleOk r = false := by
  have : (badR.all fun r => !ruleOk r) = true := by decide +kernel
  intro r hr
  have := List.all_eq_true.mp this r hr
  simpa using this
theorem okD_ruleD {r : Str × Int} (h : ruleOk r = true) : okD 1 (ruleD r) = true := by
  have := okDs_rules (rs := [r]) fun q hq => by rw [List.mem_singleton] at hq; subst hq; exact kind_of (ruleOk_iff.mp h).1
  simpa [okDs] using this
theorem rs_bad {rs : List (Str × Int)} {r : Str × Int} (h : ruleOk r = false) : rulesOk (rs ++ [r]) = false := by
  simp [rulesOk, h]
theorem nok {r : Str × Int} (h : ruleOk r = true → False) : ruleOk r = false := by
  cases e : ruleOk r with
  | false => rfl
  | true => exact (h e).elim

theorem ok_c_law_changed {P : Program} {w : World} {K : PySem.W.Frag} {mg : Str → Option Value} {base : Heap} {a : Ad} (T : Txt K mg a) : FnOk P w K mg base (L2.CX P w) 1 a.f_c_law_changed a.d_c_law_changed ["price", "rules"] (sp_c_law_changed K) := by
  refine T.F_c_law_changed.okX sc_c_law_changed (fun vs H Q E h => ?_) (fun cdv A outer s H vs Q E hr h => ?_)
  · rw [sp_c_law_changed_eq] at h
    walk_at "len"
  · rw [sp_c_law_changed_eq] at h
    obtain ⟨p, v, rs, rfl, hd, hp0, hp1, ho, hl, hb, k⟩ := h
    refine ⟨_, (pss_cons (ps_for (passes_of rfl) rfl (pi_list (pv 1)) (pg_tup (by rfl) (pgs_cons (pg_name (i := 2) sc_c_law_changed.nd (by rfl) (Or.inl rfl)) (pgs_cons (pg_name (i := 3) sc_c_law_changed.nd (by rfl) (Or.inr rfl)) pgs_nil))) (pss_one (ps_if (pt_cmpR op_eq (pv 2) pe_str (nomark _)) (pss_one (ps_set (i := 0) sc_c_law_changed.nd (by rfl) (Or.inl rfl) (pe_op op_sub (pv 0) (pe_op op_fdiv (pe_op op_add (pe_op op_mul (pv 0) (pv 3)) pe_int) pe_int)))) (pss_one (ps_if (pt_cmpR op_eq (pv 2) pe_str (nomark _)) (pss_one (ps_set (i := 0) sc_c_law_changed.nd (by rfl) (Or.inl rfl) (pe_ifExp (pt_cmpR op_gt (pv 0) (pv 3) (nomark _)) (pe_op op_sub (pv 0) (pv 3)) pe_int))) (pss_one (ps_if (pt_cmpR op_eq (pv 2) pe_str (nomark _)) (pss_one (ps_set (i := 0) sc_c_law_changed.nd (by rfl) (Or.inl rfl) (pe_op op_add (pv 0) (pv 3)))) (pss_one (ps_if (pt_cmpR op_eq (pv 2) pe_str (nomark _)) (pss_one (ps_set (i := 0) sc_c_law_changed.nd (by rfl) (Or.inl rfl) (pe_ifExp (pt_cmpR op_gt (pv 0) (pv 3) (nomark _)) (pv 0) (pv 3)))) (pss_one (ps_if (pt_cmpR op_eq (pv 2) pe_str (nomark _)) (pss_one (ps_set (i := 0) sc_c_law_changed.nd (by rfl) (Or.inl rfl) (pe_ifExp (pt_cmpR op_lt (pv 0) (pv 3) (nomark _)) (pv 0) (pv 3)))) (pss_cons (ps_set (i := 4) sc_c_law_changed.nd (by rfl) (Or.inl rfl) (pe_ix ix_list (pe_lc (own := [("other", 5)]) (g := gName 5) (by rfl) sc_c_law_changed.nd (pi_range3 (by rfl) T.n_range (pa_cons (pv 0) (pa_cons (pe_op op_sub (pv 0) pe_int) (pa_cons (pe_un un_neg pe_int) pa_nil)))) (blkOk_by (own := [("other", 5)]) (N := ["price", "rules", "kind", "number", "goal", "other"]) (sc := defScope st_c_law_changed) (by decide +kernel)) (fun _ _ _ _ _ => (pg_name (i := 5) sc_c_law_changed.nd (by rfl) (Or.inl rfl))) (fun _ _ _ _ _ => (pts_one (pt_cmpR op_eq (pe_op op_mod (pe_callTy call_int1 (by rfl) T.n_int (by decide +kernel) (pa_cons (pe_op op_sub (pv 5) (pv 3)) pa_nil)) pe_int) pe_int (nomark _)))) (fun _ _ _ _ _ => (pv 5))) pe_int (fun _ _ => rfl)))
    (pss_one (ps_set (i := 0) sc_c_law_changed.nd (by rfl) (Or.inl rfl) (pe_ifExp (pt_cmpR op_ge (pv 4) pe_int (nomark _)) (pv 4) (pv 3))))))))))))))))
    (pss_one (ps_ret (pv 0)))), ?_⟩
    obtain ⟨aa, xs, rfl, hq, hall⟩ := dp_lst hd
    have hlen : xs.length = rs.length := by rw [dpAll_length hall, List.length_map]
    refine ⟨_, rfl, aa, rfl, ⟨xs, hq⟩, for_list (K := K) (a := aa) (xs := xs) (fun i σ H' => ∃ v2 v3 v4 : Option V, σ = [some (.int (chg p (rs.take i))), some (.ref aa), v2, v3, v4, none] ∧ Same H H' ∧ 0 ≤ chg p (rs.take i) ∧ chg p (rs.take i) ≤ 1000000 + i * 1000000)
      ⟨_, _, _, rfl, Same.refl H, hp0, by simpa [chg] using hp1⟩ (fun i σ H' _ ⟨_, _, _, _, e, _⟩ => e.seq hq) ?_ ?_⟩
    · rintro i x σ H' hi ⟨v2, v3, v4, rfl, s1, q0, q1⟩
      obtain ⟨kd, n, t, hr, rfl, ht2⟩ := rule_at hall hi
      have hi5 : i < 1000 := by have := (List.getElem?_eq_some_iff.mp hr).1; omega
      refine ⟨t, _, rfl, s1.tup ht2, rfl, _, _, rfl, _, _, rfl, rfl, ?_⟩
      have hok := ok_get ho hr
      have hn := hb _ (List.mem_of_getElem? hr)
      obtain ⟨o1, o2, o3, o4⟩ := ruleOk_iff.mp hok
      have e := chg_take (p := p) hr
      rw [e]
      have b0 := chg1_nonneg q0 hok
      have b1 := chg1_le q0 hok (by decide) hn
      generalize chg p (rs.take i) = q at *
      have fin : ∀ (z : Int) {H2 : Hp} (v2 v3 v4 : Option V), Same H H2 → z = chg1 q (kd, n) → ∃ w2 w3 w4 : Option V, [some (V.int z), some (V.ref aa), v2, v3, v4, none] = [some (V.int (chg1 q (kd, n))), some (V.ref aa), w2, w3, w4, none] ∧ Same H H2 ∧ 0 ≤ chg1 q (kd, n) ∧ chg1 q (kd, n) ≤ 1000000 + ((i + 1 : Nat) : Int) * 1000000 := fun z H2 v2 v3 v4 s e => ⟨v2, v3, v4, by rw [e], s, b0, by dsimp only at hn; omega⟩
      have u : chg1 q (kd, n) = (if kd = "percent" then q - hu (q * n) 100 else if kd = "minus" then (if q - n > 0 then q - n else 0) else if kd = "plus" then q + n else if kd = "least" then (if n > q then n else q) else if kd = "most" then (if n < q then n else q)
        else if 0 ≤ q - (q - n) % 100 then q - (q - n) % 100 else n) := rfl
      refine ⟨_, rfl, rfl, _, rfl, ?_⟩
      refine ite2 (fun c => ?_) (fun c => ?_)
      · have ce : kd = "percent" := V.str.inj (of_decide_eq_true c)
        obtain ⟨c1, c2⟩ := o2 ce
        refine ⟨_, rfl, _, rfl, _, rfl, _, _, rfl, rfl, .inr ⟨by omega, by omega⟩, _, _, rfl, rfl, _, _, rfl, rfl, ⟨by decide, by decide⟩, _, _, rfl, rfl, fin _ _ _ _ s1 ?_⟩
        rw [u, if_pos ce]
        unfold hu
        omega
      rw [if_neg (fun z => c (decide_eq_true (congrArg V.str z)))] at u
      refine ⟨_, rfl, rfl, _, rfl, ?_⟩
      refine ite2 (fun c => ?_) (fun c => ?_)
      · have ce : kd = "minus" := V.str.inj (of_decide_eq_true c)
        rw [if_pos ce] at u
        refine ⟨_, rfl, _, rfl, _, _, rfl, rfl, _, rfl, ?_⟩
        refine ite2 (fun c => ?_) (fun c => ?_)
        · have := of_decide_eq_true c
          exact ⟨_, rfl, _, rfl, _, _, rfl, rfl, fin _ _ _ _ s1 (by rw [u, if_pos (by omega)])⟩
        · have : ¬ n < q := fun z => c (decide_eq_true z)
          exact fin _ _ _ _ s1 (by rw [u, if_neg (by omega)])
      rw [if_neg (fun z => c (decide_eq_true (congrArg V.str z)))] at u
      refine ⟨_, rfl, rfl, _, rfl, ?_⟩
      refine ite2 (fun c => ?_) (fun c => ?_)
      · have ce : kd = "plus" := V.str.inj (of_decide_eq_true c)
        refine ⟨_, rfl, _, rfl, _, _, rfl, rfl, fin _ _ _ _ s1 ?_⟩
        rw [u, if_pos ce]
      rw [if_neg (fun z => c (decide_eq_true (congrArg V.str z)))] at u
      refine ⟨_, rfl, rfl, _, rfl, ?_⟩
      refine ite2 (fun c => ?_) (fun c => ?_)
      · have ce : kd = "least" := V.str.inj (of_decide_eq_true c)
        rw [if_pos ce] at u
        refine ⟨_, rfl, _, rfl, _, _, rfl, rfl, _, rfl, ?_⟩
        refine ite2 (fun c => ?_) (fun c => ?_)
        · have := of_decide_eq_true c
          exact ⟨_, rfl, fin _ _ _ _ s1 (by rw [u, if_neg (by omega)])⟩
        · have : ¬ n < q := fun z => c (decide_eq_true z)
          exact ⟨_, rfl, fin _ _ _ _ s1 (by rw [u]; split <;> omega)⟩
      rw [if_neg (fun z => c (decide_eq_true (congrArg V.str z)))] at u
      refine ⟨_, rfl, rfl, _, rfl, ?_⟩
      refine ite2 (fun c => ?_) (fun c => ?_)
      · have ce : kd = "most" := V.str.inj (of_decide_eq_true c)
        rw [if_pos ce] at u
        refine ⟨_, rfl, _, rfl, _, _, rfl, rfl, _, rfl, ?_⟩
        refine ite2 (fun c => ?_) (fun c => ?_)
        · have := of_decide_eq_true c
          exact ⟨_, rfl, fin _ _ _ _ s1 (by rw [u, if_neg (by omega)])⟩
        · have : ¬ q < n := fun z => c (decide_eq_true z)
          exact ⟨_, rfl, fin _ _ _ _ s1 (by rw [u]; split <;> omega)⟩
      rw [if_neg (fun z => c (decide_eq_true (congrArg V.str z)))] at u
      have m0 := Int.emod_nonneg (q - n) (show (100 : Int) ≠ 0 by decide)
      have m1 := Int.emod_lt_of_pos (q - n) (show (0 : Int) < 100 by decide)
      have rg : RgC q (q - 100) (-1) 100 := by
        have := RgC.neg (i := q) (j := q - 100) (by omega) (by omega) (by omega) (by omega)
        have e : (q - (q - 100)).toNat = 100 := by omega
        rw [e] at this
        exact this
      refine ⟨_, rfl, _, rfl, _, _, rfl, rfl, _, rfl, _, _, _, 100, rfl, rg, fun D hD => ?_⟩
      refine lc_it (walk_rangeC (lo := q) (c := -1) (n := 100)) (fun i H2 => H2 = upd H' D (.lst (if (q - n) % 100 < (i : Int) then [.int (q - (q - n) % 100)] else [])))
        (by rw [if_neg (by omega)]) (fun _ _ _ _ => trivial) ?_ ?_
      · rintro i' x H2 H3 hi' rfl ⟨rfl, rfl⟩
        refine ⟨rfl, ?_⟩
        refine ⟨_, rfl, _, rfl, _, _, rfl, rfl, .inl ⟨_, rfl, _, _, rfl, rfl, (by show (0 : Int) < 100; decide), rfl, _, rfl, ?_⟩⟩
        refine ite2 (fun c => ?_) (fun c => ?_)
        · have c' : (q + (i' : Nat) * -1 - n) % 100 = 0 := V.int.inj (of_decide_eq_true c)
          have e2 : (q - n) % 100 = (i' : Int) := by omega
          refine ⟨_, rfl, [], ?_, by decide, ?_⟩
          · rw [upd_same, if_neg (by omega)]
          · rw [upd_upd, if_pos (by omega), e2]
            show upd H' D (.lst [.int (q + (i' : Nat) * -1)]) = _
            rw [show q + (i' : Nat) * -1 = q - (i' : Int) by omega]
        · have c' : ¬ (q + (i' : Nat) * -1 - n) % 100 = 0 := fun z => c (decide_eq_true (congrArg V.int z))
          show upd H' D _ = upd H' D _
          congr 3
          have : (q - n) % 100 < (i' : Int) ↔ (q - n) % 100 < ((i' + 1 : Nat) : Int) := by omega
          exact propext this
      · rintro H2 rfl
        rw [if_pos (by omega)]
        refine ⟨D, _, _, _, rfl, rfl, SqL.of upd_same, atI_nat' (j := 0) rfl rfl, ?_⟩
        have s2 : Same H (upd H' D (.lst [.int (q - (q - n) % 100)])) := s1.then_new hD
        refine ⟨_, rfl, _, _, rfl, rfl, _, rfl, ?_⟩
        refine ite2 (fun c => ?_) (fun c => ?_)
        · exact ⟨_, rfl, fin _ _ _ _ s2 (by rw [u, if_pos (of_decide_eq_true c)])⟩
        · exact ⟨_, rfl, fin _ _ _ _ s2 (by rw [u, if_neg (fun z => c (decide_eq_true z))])⟩
    · rintro σ H' ⟨v2, v3, v4, rfl, s1, q0, q1⟩
      rw [hlen, List.take_length]
      exact ⟨_, rfl, k _ s1⟩
theorem ok_c_law_deck {P : Program} {w : World} {K : PySem.W.Frag} {mg : Str → Option Value} {base : Heap} {a : Ad} (T : Txt K mg a) : FnOk P w K mg base (L2.CX P w) 1 a.f_c_law_deck a.d_c_law_deck ["script", "cells", "each"] (sp_c_law_deck K) := by
  refine T.F_c_law_deck.okX sc_c_law_deck (fun vs H Q E h => ?_) (fun cdv A outer s H vs Q E hr h => ?_)
  · walk_at "len"
  · obtain ⟨sa, ns, c, e, rfl, hS, hns, hc0, hc1, he0, he1, k⟩ := h
    refine ⟨_, (pss_cons (ps_set (i := 3) sc_c_law_deck.nd (by rfl) (Or.inl rfl) (pe_lst pa_nil))
    (pss_cons (ps_set (i := 4) sc_c_law_deck.nd (by rfl) (Or.inl rfl) (pe_op op_add pe_int (pe_callB call_len_seq (by rfl) T.n_len (by decide +kernel) (pa_cons (pv 0) pa_nil))))
    (pss_cons (ps_for (passes_of rfl) rfl (pi_range1 (by rfl) T.n_range (pa_cons (pv 1) pa_nil)) (pg_name (i := 5) sc_c_law_deck.nd (by rfl) (Or.inl rfl)) (pss_cons (ps_set (i := 6) sc_c_law_deck.nd (by rfl) (Or.inl rfl) pe_int)
    (pss_cons (ps_if (pt_cmpR op_lt (pv 5) (pe_callB call_len_seq (by rfl) T.n_len (by decide +kernel) (pa_cons (pv 0) pa_nil)) (nomark _)) (pss_one (ps_set (i := 6) sc_c_law_deck.nd (by rfl) (Or.inl rfl) (pe_ix ix_list (pv 0) (pv 5) (fun _ _ => rfl)))) pss_nil)
    (pss_cons (ps_set (i := 7) sc_c_law_deck.nd (by rfl) (Or.inl rfl) (pe_callB call_abs (by rfl) T.n_abs (by decide +kernel) (pa_cons (pv 6) pa_nil)))
    (pss_one (ps_if (pt_cmpR op_ge (pv 7) (pe_op op_pow pe_int pe_int) (nomark _)) (pss_one (ps_for (passes_of rfl) rfl (pi_range1 (by rfl) T.n_range (pa_cons (pv 2) pa_nil)) (pg_name (i := 8) sc_c_law_deck.nd (by rfl) (Or.inl rfl)) (pss_cons (ps_expr (pe_bm PySem.F.plainAttrs_list PySem.F.slot_list_append PySem.F.type_list_append mt_append (pv 3) (pa_cons (pe_op op_mod (pe_callTy call_int1 (by rfl) T.n_int (by decide +kernel) (pa_cons (pv 7) pa_nil)) pe_int) pa_nil)))
    (pss_one (ps_set (i := 7) sc_c_law_deck.nd (by rfl) (Or.inl rfl) (pe_op op_fdiv (pv 7) pe_int)))))) (pss_cons (ps_set (i := 4) sc_c_law_deck.nd (by rfl) (Or.inl rfl) (pe_op op_mod (pe_callTy call_int1 (by rfl) T.n_int (by decide +kernel) (pa_cons (pe_op op_add (pe_op op_add (pe_op op_add (pe_op op_mul (pv 4) pe_int) (pe_op op_mul pe_int (pv 7))) (pe_callTy call_int1 (by rfl) T.n_int (by decide +kernel) (pa_cons (pe_cmpR op_lt (pv 6) pe_int (nomark _)) pa_nil))) (pv 5)) pa_nil)) pe_int))
    (pss_one (ps_for (passes_of rfl) rfl (pi_range1 (by rfl) T.n_range (pa_cons (pv 2) pa_nil)) (pg_name (i := 8) sc_c_law_deck.nd (by rfl) (Or.inl rfl)) (pss_cons (ps_set (i := 4) sc_c_law_deck.nd (by rfl) (Or.inl rfl) (pe_op op_mod (pe_callTy call_int1 (by rfl) T.n_int (by decide +kernel) (pa_cons (pe_op op_add (pe_op op_add (pe_op op_mul (pv 4) pe_int) (pv 8)) pe_int) pa_nil)) pe_int))
    (pss_one (ps_expr (pe_bm PySem.F.plainAttrs_list PySem.F.slot_list_append PySem.F.type_list_append mt_append (pv 3) (pa_cons (pe_op op_mod (pe_callTy call_int1 (by rfl) T.n_int (by decide +kernel) (pa_cons (pe_op op_fdiv (pv 4) pe_int) pa_nil)) pe_int) pa_nil))))))))))))))
    (pss_cons (ps_expr (pe_bm0 PySem.F.plainAttrs_list PySem.F.slot_list_reverse PySem.F.type_list_reverse mt_reverse (pv 3)))
    (pss_one (ps_ret (pv 3))))))), ?_⟩
    refine ⟨by show 0 ≤ sizeLine; decide, fun p hp => ?_⟩
    have s0 : Same H (upd H p (.lst [])) := Same.new hp
    refine ⟨_, rfl, sa, _, rfl, .inl (s0.seq hS), _, _, rfl, rfl, ?_⟩
    refine ⟨_, rfl, c, rfl, by omega, by omega, for_range (lo := 0) (n := c.toNat) (fun i σ H' => ∃ (sd : Int) (v5 v6 v7 v8 : Option V) (xs : List Int), σ = [some (.ref sa), some (.int c), some (.int e), some (.ref p), some (.int sd), v5, v6, v7, v8] ∧
      Same H H' ∧ H' p = some (.lst (xs.map V.int)) ∧ xs.length ≤ i * 100) ⟨_, none, none, none, none, [], rfl, s0, upd_same, by simp⟩ ?_ ?_⟩
    · rintro i σ H1 hi ⟨sd, v5, v6, v7, v8, xs, rfl, s1, h1, hx⟩
      have hi' : i < 1000 := by omega
      walk_at "st"
      refine ⟨_, rfl, sa, _, rfl, .inl (s1.seq hS), ?_⟩
      walk_at "sts"
      refine ite2 (fun hk => ?_) (fun _ => ?_)
      · have hk' : i < ns.length := by simpa using hk
        refine ⟨_, rfl, _, rfl, sa, _, _, _, rfl, rfl, s1.seq hS, atI_nat' (j := i) (by omega) (by rw [List.getElem?_map, List.getElem?_eq_getElem hk']; rfl), ?_⟩
        walk_at "sts"
        refine ite2 (fun _ => ?_) (fun _ => ?_)
        · refine ⟨_, rfl, e, rfl, by omega, by omega, for_range (lo := 0) (n := e.toNat) (fun j σ H' => ∃ (r : Int) (v6 v8 : Option V) (ys : List Int), σ = [some (.ref sa), some (.int c), some (.int e), some (.ref p), some (.int sd), some (.int (0 + (i : Int))), v6, some (.int r), v8] ∧
            Same H H' ∧ H' p = some (.lst (ys.map V.int)) ∧ ys.length ≤ i * 100 + j) ⟨_, _, v8, xs, rfl, s1, h1, by omega⟩ ?_ ?_⟩
          · rintro j σ H2 hj ⟨r, v6, v8, ys, rfl, s2, h2, hy⟩
            refine ⟨_, rfl, .inl ⟨rfl, _, SqL.of h2⟩, ?_⟩
            walk_at "sts"
            refine ⟨p, _, _, rfl, rfl, h2, by rw [List.length_map]; exact small1000000 (by omega), ?_⟩
            walk_at "sts"
            refine ⟨_, _, _, ys ++ [r % 1000003], rfl, s2.mut hp, ?_, by rw [List.length_append]; simp; omega⟩
            rw [upd_same, List.map_append]
            rfl
          · rintro σ H2 ⟨r, v6, v8, ys, rfl, s2, h2, hy⟩
            exact ⟨_, _, _, _, _, ys, rfl, s2, h2, by omega⟩
        · walk_at "sts"
          refine ⟨by omega, by omega, for_range (lo := 0) (n := e.toNat) (fun j σ H' => ∃ (sd : Int) (v6 v7 v8 : Option V) (ys : List Int), σ = [some (.ref sa), some (.int c), some (.int e), some (.ref p), some (.int sd), some (.int (0 + (i : Int))), v6, v7, v8] ∧
            Same H H' ∧ H' p = some (.lst (ys.map V.int)) ∧ ys.length ≤ i * 100 + j) ⟨_, _, _, v8, xs, rfl, s1, h1, by omega⟩ ?_ ?_⟩
          · rintro j σ H2 hj ⟨sd, v6, v7, v8, ys, rfl, s2, h2, hy⟩
            walk_at "sts"
            refine ⟨.inl ⟨rfl, _, SqL.of h2⟩, ?_⟩
            walk_at "sts"
            refine ⟨p, _, _, rfl, rfl, h2, by rw [List.length_map]; exact small1000000 (by omega), ?_⟩
            refine ⟨_, _, _, _, ys ++ [(sd * 69621 + (0 + (j : Int)) + 1) % 2147483629 / 5 % 1000003], rfl, s2.mut hp, ?_, by rw [List.length_append]; simp; omega⟩
            rw [upd_same, List.map_append]
            rfl
          · rintro σ H2 ⟨sd, v6, v7, v8, ys, rfl, s2, h2, hy⟩
            exact ⟨_, _, _, _, _, ys, rfl, s2, h2, by omega⟩
      · skip
        walk_at "sts"
        refine ⟨by omega, by omega, for_range (lo := 0) (n := e.toNat) (fun j σ H' => ∃ (sd : Int) (v6 v7 v8 : Option V) (ys : List Int), σ = [some (.ref sa), some (.int c), some (.int e), some (.ref p), some (.int sd), some (.int (0 + (i : Int))), v6, v7, v8] ∧
          Same H H' ∧ H' p = some (.lst (ys.map V.int)) ∧ ys.length ≤ i * 100 + j) ⟨_, _, _, v8, xs, rfl, s1, h1, by omega⟩ ?_ ?_⟩
        · rintro j σ H2 hj ⟨sd, v6, v7, v8, ys, rfl, s2, h2, hy⟩
          walk_at "sts"
          refine ⟨.inl ⟨rfl, _, SqL.of h2⟩, ?_⟩
          walk_at "sts"
          refine ⟨p, _, _, rfl, rfl, h2, by rw [List.length_map]; exact small1000000 (by omega), ?_⟩
          refine ⟨_, _, _, _, ys ++ [(sd * 69621 + (0 + (j : Int)) + 1) % 2147483629 / 5 % 1000003], rfl, s2.mut hp, ?_, by rw [List.length_append]; simp; omega⟩
          rw [upd_same, List.map_append]
          rfl
        · rintro σ H2 ⟨sd, v6, v7, v8, ys, rfl, s2, h2, hy⟩
          exact ⟨_, _, _, _, _, ys, rfl, s2, h2, by omega⟩
    · rintro σ H1 ⟨sd, v5, v6, v7, v8, xs, rfl, s1, h1, hx⟩
      refine ⟨_, rfl, .inl ⟨rfl, _, SqL.of h1⟩, p, _, rfl, rfl, h1, _, rfl, ?_⟩
      refine k xs p _ hp (s1.mut hp) ?_
      rw [upd_same]
      simp [dk]

theorem ok_c_law_plain_n {P : Program} {w : World} {K : PySem.W.Frag} {mg : Str → Option Value} {base : Heap} {a : Ad} (T : Txt K mg a) : ∀ n, FnOk P w K mg base (L2.CX P w) (n + 1) a.f_c_law_plain a.d_c_law_plain ["value"] (sp_c_law_plain K n) := by
  have step : ∀ n, (∀ m, m + 1 = n → FnOk P w K mg base (L2.CX P w) (m + 1) a.f_c_law_plain a.d_c_law_plain ["value"] (sp_c_law_plain K m)) → FnOk P w K mg base (L2.CX P w) (n + 1) a.f_c_law_plain a.d_c_law_plain ["value"] (sp_c_law_plain K n) := by
    intro n ih
    refine T.F_c_law_plain.okX sc_c_law_plain (fun vs H Q E h => ?_) (fun cdv A outer s H vs Q E hr h => ?_)
    · walk_at "len"
    · obtain ⟨v, d, rfl, hd, hok, k⟩ := h
      cases d with
      | dict _ => simp [okD] at hok
      | list ds =>
        cases n with
        | zero => simp [okD] at hok
        | succ n =>
        have IH := ih n rfl
        simp only [okD, Bool.and_eq_true, decide_eq_true_eq] at hok
        have hds := hok.1
        cases hd with
        | @lst aa xs _ hsq hall =>
        refine ⟨_, (pss_cons (ps_if (pt_val (pe_callB call_isiT (by rfl) T.n_isinstance (by decide +kernel) (pa_cons (pv 0) (pa_cons (pe_tup (pa_cons (pe_bltn (v := .ty "tuple") (by rfl) T.n_tuple (by decide +kernel) rfl) (pa_cons (pe_bltn (v := .ty "list") (by rfl) T.n_list (by decide +kernel) rfl) pa_nil))) pa_nil)))) (pss_one (ps_ret (pe_op op_cat (pe_lst (pa_cons (pe_callB call_isi (by rfl) T.n_isinstance (by decide +kernel) (pa_cons (pv 0) (pa_cons (pe_bltn (v := .ty "list") (by rfl) T.n_list (by decide +kernel) rfl) pa_nil))) pa_nil)) (pe_lc (own := [("item", 1)]) (g := gName 1) (tt := tYes) (by rfl) sc_c_law_plain.nd (pi_list (pv 0)) (blkOk_by (own := [("item", 1)]) (N := ["value", "item"]) (sc := defScope st_c_law_plain) (by decide +kernel)) (fun _ _ _ _ _ => (pg_name (i := 1) sc_c_law_plain.nd (by rfl) (Or.inl rfl))) (fun _ _ _ _ _ => pts_nil) (fun _ _ _ _ _ => (pe_call IH (hr.mono (by omega)) (by rfl) T.m_c_law_plain T.F_c_law_plain.kp T.b_c_law_plain .nil passL (pa_cons (pv 1) pa_nil))))))) pss_nil)
    (pss_cons (ps_if (PW.pt (pw_or (pt_cmpR op_isN (pv 0) pe_non (nomark _)) (pw_or1 (pt_val (pe_callB call_isi (by rfl) T.n_isinstance (by decide +kernel) (pa_cons (pv 0) (pa_cons (pe_bltn (v := .ty "bool") (by rfl) T.n_bool (by decide +kernel) rfl) pa_nil))))))) (pss_one (ps_ret (pe_ix ix_list (pe_lst (pa_cons pe_str (pa_cons pe_str (pa_cons pe_str pa_nil)))) (pe_op op_add (pe_callTy call_int1 (by rfl) T.n_int (by decide +kernel) (pa_cons (pe_cmpR op_notN (pv 0) pe_non (nomark _)) pa_nil)) (pe_callTy call_int1 (by rfl) T.n_int (by decide +kernel) (pa_cons (pe_cmpR op_isT (pv 0) pe_bl (nomark _)) pa_nil))) (fun _ _ => rfl)))) pss_nil)
    (pss_cons (ps_if (pt_val (pe_callB call_isiT (by rfl) T.n_isinstance (by decide +kernel) (pa_cons (pv 0) (pa_cons (pe_tup (pa_cons (pe_bltn (v := .ty "int") (by rfl) T.n_int (by decide +kernel) rfl) (pa_cons (pe_bltn (v := .ty "str") (by rfl) T.n_str (by decide +kernel) rfl) pa_nil))) pa_nil)))) (pss_one (ps_ret (pe_lst (pa_cons (pe_callB call_isi (by rfl) T.n_isinstance (by decide +kernel) (pa_cons (pv 0) (pa_cons (pe_bltn (v := .ty "str") (by rfl) T.n_str (by decide +kernel) rfl) pa_nil))) (pa_cons (pv 0) pa_nil))))) pss_nil)
    (pss_one (ps_ret pe_str))))), ?_⟩

        refine ⟨_, rfl, by show 2 ≤ sizeLine; decide, fun p hp => ?_⟩
        refine ⟨_, _, [.ty "tuple", .ty "list"], .type "list", _, _, rfl, upd_same, .cons (.ty "tuple") (.cons (.ty "list") .nil), ((kind_l hsq).new hp), kit2 (r1 := false) (r2 := true) (by decide +kernel) (by decide +kernel), ?_⟩
        refine ⟨_, rfl, ?_⟩
        refine iteT ?_
        have s1 : Same H (upd H p (.tup [.ty "tuple", .ty "list"])) := Same.new hp
        refine ⟨_, rfl, .ref aa, .ty "list", _, _, true, rfl, .ty "list", (kind_l hsq).new hp, kit_ty (by decide +kernel), ?_⟩
        refine ⟨by show 1 ≤ sizeLine; decide, fun l hl => ?_⟩
        have s2 := s1.then_new (o := .lst [.bl true]) hl
        have hl0 : H l = none := s1.free hl
        refine ⟨_, rfl, aa, rfl, ⟨_, Same.seq s2 hsq⟩, fun E' hE => ?_⟩
        have hE0 : H E' = none := s2.free hE
        have nlE : l ≠ E' := by
          intro z
          rw [z, upd_same] at hE
          cases hE
        refine lc_list (K := K) (a := aa) (xs := xs) (fun i H' => Same H H' ∧ H' l = some (.lst [.bl true]) ∧ ∃ acc, H' E' = some (.lst acc) ∧ DNs (fun b => H b = none ∧ b ≠ E' ∧ b ≠ l) H' acc (plainDs (ds.take i)) ∧ acc.length ≤ i)
          ⟨s2.then_new hE, by rw [upd_ne nlE]; exact upd_same, [], upd_same, by simp only [List.take_zero, plainDs]; exact .nil, Nat.le_refl _⟩ (fun i H' _ q => Same.seq q.1 hsq) ?_ ?_
        · rintro i x H' hi ⟨s3, h3, acc, ha, hn, hz⟩
          obtain ⟨dx, hdx, hx⟩ := dpAll_get hall hi
          have hi1 : i < ds.length := (List.getElem?_eq_some_iff.mp hdx).1
          refine ⟨rfl, ?_⟩
          refine ⟨_, rfl, x, dx, rfl, dp_same s3 dx x hx, okDs_get hok.2 hdx, fun v' H'' s4 hv => ?_⟩
          have hE2 := s4 _ _ ha
          have nn : ∀ b, H' b = none → H b = none ∧ b ≠ E' ∧ b ≠ l := fun b hb => ⟨s3.free hb, (fun z => by rw [z, ha] at hb; cases hb), (fun z => by rw [z, h3] at hb; cases hb)⟩
          refine ⟨acc, hE2, small1000000 (by omega), (s3.trans s4).mut hE0, by rw [upd_ne nlE]; exact s4 _ _ h3, acc ++ [v'], upd_same, ?_, by rw [List.length_append]; show _ + 1 ≤ _; omega⟩
          rw [plainDs_take hdx]
          exact DNs.snoc (DN.mono nn (fun b o hb e => by rw [upd_ne (nn b hb).2.1]; exact e) _ _ hv) (DNs.mono (fun _ z => z) (fun b o hb e => by rw [upd_ne hb.2.1]; exact s4 _ _ e) _ _ hn)
        · rintro H' ⟨s3, h3, acc, ha, hn, hz⟩
          have el : ds.take xs.length = ds := by rw [dpAll_length hall, List.take_length]
          rw [el] at hn
          have hlen : acc.length ≤ 1000 := by have := dpAll_length hall; omega
          refine ⟨l, E', _, _, rfl, rfl, h3, ha, Nat.le_of_lt (small1000000 (by show 1 + _ ≤ _; omega)), fun r hr' => ?_⟩
          have hr0 : H r = none := s3.free hr'
          refine k _ _ (s3.then_new hr') ?_
          simp only [plainD]
          refine .lst hr0 upd_same (.cons (.bl _) (DNs.mono (fun b z => z.1) (fun b o hb e => ?_) _ _ hn))
          rw [upd_ne (ne_of_none e hr')]
          exact e

      | tuple ds =>
        cases n with
        | zero => simp [okD] at hok
        | succ n =>
        have IH := ih n rfl
        simp only [okD, Bool.and_eq_true, decide_eq_true_eq] at hok
        have hds := hok.1
        cases hd with
        | @tup aa xs _ hsq hall =>
        refine ⟨_, (pss_cons (ps_if (pt_val (pe_callB call_isiT (by rfl) T.n_isinstance (by decide +kernel) (pa_cons (pv 0) (pa_cons (pe_tup (pa_cons (pe_bltn (v := .ty "tuple") (by rfl) T.n_tuple (by decide +kernel) rfl) (pa_cons (pe_bltn (v := .ty "list") (by rfl) T.n_list (by decide +kernel) rfl) pa_nil))) pa_nil)))) (pss_one (ps_ret (pe_op op_cat (pe_lst (pa_cons (pe_callB call_isi (by rfl) T.n_isinstance (by decide +kernel) (pa_cons (pv 0) (pa_cons (pe_bltn (v := .ty "list") (by rfl) T.n_list (by decide +kernel) rfl) pa_nil))) pa_nil)) (pe_lc (own := [("item", 1)]) (g := gName 1) (tt := tYes) (by rfl) sc_c_law_plain.nd (pi_tup (pv 0)) (blkOk_by (own := [("item", 1)]) (N := ["value", "item"]) (sc := defScope st_c_law_plain) (by decide +kernel)) (fun _ _ _ _ _ => (pg_name (i := 1) sc_c_law_plain.nd (by rfl) (Or.inl rfl))) (fun _ _ _ _ _ => pts_nil) (fun _ _ _ _ _ => (pe_call IH (hr.mono (by omega)) (by rfl) T.m_c_law_plain T.F_c_law_plain.kp T.b_c_law_plain .nil passL (pa_cons (pv 1) pa_nil))))))) pss_nil)
    (pss_cons (ps_if (PW.pt (pw_or (pt_cmpR op_isN (pv 0) pe_non (nomark _)) (pw_or1 (pt_val (pe_callB call_isi (by rfl) T.n_isinstance (by decide +kernel) (pa_cons (pv 0) (pa_cons (pe_bltn (v := .ty "bool") (by rfl) T.n_bool (by decide +kernel) rfl) pa_nil))))))) (pss_one (ps_ret (pe_ix ix_list (pe_lst (pa_cons pe_str (pa_cons pe_str (pa_cons pe_str pa_nil)))) (pe_op op_add (pe_callTy call_int1 (by rfl) T.n_int (by decide +kernel) (pa_cons (pe_cmpR op_notN (pv 0) pe_non (nomark _)) pa_nil)) (pe_callTy call_int1 (by rfl) T.n_int (by decide +kernel) (pa_cons (pe_cmpR op_isT (pv 0) pe_bl (nomark _)) pa_nil))) (fun _ _ => rfl)))) pss_nil)
    (pss_cons (ps_if (pt_val (pe_callB call_isiT (by rfl) T.n_isinstance (by decide +kernel) (pa_cons (pv 0) (pa_cons (pe_tup (pa_cons (pe_bltn (v := .ty "int") (by rfl) T.n_int (by decide +kernel) rfl) (pa_cons (pe_bltn (v := .ty "str") (by rfl) T.n_str (by decide +kernel) rfl) pa_nil))) pa_nil)))) (pss_one (ps_ret (pe_lst (pa_cons (pe_callB call_isi (by rfl) T.n_isinstance (by decide +kernel) (pa_cons (pv 0) (pa_cons (pe_bltn (v := .ty "str") (by rfl) T.n_str (by decide +kernel) rfl) pa_nil))) (pa_cons (pv 0) pa_nil))))) pss_nil)
    (pss_one (ps_ret pe_str))))), ?_⟩

        refine ⟨_, rfl, by show 2 ≤ sizeLine; decide, fun p hp => ?_⟩
        refine ⟨_, _, [.ty "tuple", .ty "list"], .type "tuple", _, _, rfl, upd_same, .cons (.ty "tuple") (.cons (.ty "list") .nil), ((kind_t hsq).new hp), kit2 (r1 := true) (r2 := false) (by decide +kernel) (by decide +kernel), ?_⟩
        refine ⟨_, rfl, ?_⟩
        refine iteT ?_
        have s1 : Same H (upd H p (.tup [.ty "tuple", .ty "list"])) := Same.new hp
        refine ⟨_, rfl, .ref aa, .ty "list", _, _, false, rfl, .ty "list", (kind_t hsq).new hp, kit_ty (by decide +kernel), ?_⟩
        refine ⟨by show 1 ≤ sizeLine; decide, fun l hl => ?_⟩
        have s2 := s1.then_new (o := .lst [.bl false]) hl
        have hl0 : H l = none := s1.free hl
        refine ⟨_, rfl, aa, rfl, ⟨_, Same.tup s2 hsq⟩, fun E' hE => ?_⟩
        have hE0 : H E' = none := s2.free hE
        have nlE : l ≠ E' := by
          intro z
          rw [z, upd_same] at hE
          cases hE
        refine lc_tup (K := K) (a := aa) (xs := xs) (fun i H' => Same H H' ∧ H' l = some (.lst [.bl false]) ∧ ∃ acc, H' E' = some (.lst acc) ∧ DNs (fun b => H b = none ∧ b ≠ E' ∧ b ≠ l) H' acc (plainDs (ds.take i)) ∧ acc.length ≤ i)
          ⟨s2.then_new hE, by rw [upd_ne nlE]; exact upd_same, [], upd_same, by simp only [List.take_zero, plainDs]; exact .nil, Nat.le_refl _⟩ (fun i H' _ q => Same.tup q.1 hsq) ?_ ?_
        · rintro i x H' hi ⟨s3, h3, acc, ha, hn, hz⟩
          obtain ⟨dx, hdx, hx⟩ := dpAll_get hall hi
          have hi1 : i < ds.length := (List.getElem?_eq_some_iff.mp hdx).1
          refine ⟨rfl, ?_⟩
          refine ⟨_, rfl, x, dx, rfl, dp_same s3 dx x hx, okDs_get hok.2 hdx, fun v' H'' s4 hv => ?_⟩
          have hE2 := s4 _ _ ha
          have nn : ∀ b, H' b = none → H b = none ∧ b ≠ E' ∧ b ≠ l := fun b hb => ⟨s3.free hb, (fun z => by rw [z, ha] at hb; cases hb), (fun z => by rw [z, h3] at hb; cases hb)⟩
          refine ⟨acc, hE2, small1000000 (by omega), (s3.trans s4).mut hE0, by rw [upd_ne nlE]; exact s4 _ _ h3, acc ++ [v'], upd_same, ?_, by rw [List.length_append]; show _ + 1 ≤ _; omega⟩
          rw [plainDs_take hdx]
          exact DNs.snoc (DN.mono nn (fun b o hb e => by rw [upd_ne (nn b hb).2.1]; exact e) _ _ hv) (DNs.mono (fun _ z => z) (fun b o hb e => by rw [upd_ne hb.2.1]; exact s4 _ _ e) _ _ hn)
        · rintro H' ⟨s3, h3, acc, ha, hn, hz⟩
          have el : ds.take xs.length = ds := by rw [dpAll_length hall, List.take_length]
          rw [el] at hn
          have hlen : acc.length ≤ 1000 := by have := dpAll_length hall; omega
          refine ⟨l, E', _, _, rfl, rfl, h3, ha, Nat.le_of_lt (small1000000 (by show 1 + _ ≤ _; omega)), fun r hr' => ?_⟩
          have hr0 : H r = none := s3.free hr'
          refine k _ _ (s3.then_new hr') ?_
          simp only [plainD]
          refine .lst hr0 upd_same (.cons (.bl _) (DNs.mono (fun b z => z.1) (fun b o hb e => ?_) _ _ hn))
          rw [upd_ne (ne_of_none e hr')]
          exact e

      | none =>
        cases hd
        refine ⟨_, (pss_cons (ps_if (pt_val (pe_callB call_isiT (by rfl) T.n_isinstance (by decide +kernel) (pa_cons (pv 0) (pa_cons (pe_tup (pa_cons (pe_bltn (v := .ty "tuple") (by rfl) T.n_tuple (by decide +kernel) rfl) (pa_cons (pe_bltn (v := .ty "list") (by rfl) T.n_list (by decide +kernel) rfl) pa_nil))) pa_nil)))) (pss_one ps_never) pss_nil)
    (pss_cons (ps_if (PW.pt (pw_or (pt_cmpR op_isN (pv 0) pe_non (nomark _)) (pw_or1 (pt_val (pe_callB call_isi (by rfl) T.n_isinstance (by decide +kernel) (pa_cons (pv 0) (pa_cons (pe_bltn (v := .ty "bool") (by rfl) T.n_bool (by decide +kernel) rfl) pa_nil))))))) (pss_one (ps_ret (pe_ix ix_list (pe_lst (pa_cons pe_str (pa_cons pe_str (pa_cons pe_str pa_nil)))) (pe_op op_add (pe_callTy call_int1 (by rfl) T.n_int (by decide +kernel) (pa_cons (pe_cmpR op_notN (pv 0) pe_non (nomark _)) pa_nil)) (pe_callTy call_int1 (by rfl) T.n_int (by decide +kernel) (pa_cons (pe_cmpR op_isT (pv 0) pe_bl (nomark _)) pa_nil))) (fun _ _ => rfl)))) pss_nil)
    (pss_cons (ps_if (pt_val (pe_callB call_isiT (by rfl) T.n_isinstance (by decide +kernel) (pa_cons (pv 0) (pa_cons (pe_tup (pa_cons (pe_bltn (v := .ty "int") (by rfl) T.n_int (by decide +kernel) rfl) (pa_cons (pe_bltn (v := .ty "str") (by rfl) T.n_str (by decide +kernel) rfl) pa_nil))) pa_nil)))) (pss_one (ps_ret (pe_lst (pa_cons (pe_callB call_isi (by rfl) T.n_isinstance (by decide +kernel) (pa_cons (pv 0) (pa_cons (pe_bltn (v := .ty "str") (by rfl) T.n_str (by decide +kernel) rfl) pa_nil))) (pa_cons (pv 0) pa_nil))))) pss_nil)
    (pss_one (ps_ret pe_str))))), ?_⟩

        refine ⟨_, rfl, by show 2 ≤ sizeLine; decide, fun p hp => ?_⟩
        refine ⟨_, _, [.ty "tuple", .ty "list"], .type "NoneType", _, _, rfl, upd_same, .cons (.ty "tuple") (.cons (.ty "list") .nil), (.base .non), kit2 (r1 := false) (r2 := false) (by decide +kernel) (by decide +kernel), ?_⟩
        refine ⟨_, rfl, ?_⟩
        refine iteF ?_
        have s1 : Same H (upd H p (.tup [.ty "tuple", .ty "list"])) := Same.new hp

        refine ⟨_, rfl, rfl, _, rfl, ?_⟩
        refine iteT ?_
        refine iteT ?_
        refine ⟨by show 3 ≤ sizeLine; decide, fun l hl => ?_⟩
        refine ⟨_, rfl, rfl, .inr ⟨_, rfl, ?_⟩⟩
        refine ⟨_, rfl, .inr ⟨rfl, _, rfl, .inr ⟨_, rfl, ?_⟩⟩⟩
        refine ⟨_, _, rfl, rfl, ?_⟩
        refine ⟨l, _, _, _, rfl, rfl, SqL.of upd_same, atI_nat' (j := 0) (by decide) rfl, ?_⟩
        exact k _ _ (s1.then_new hl) (by simp only [plainD]; exact .str _)
      | bool b =>
        cases hd
        refine ⟨_, (pss_cons (ps_if (pt_val (pe_callB call_isiT (by rfl) T.n_isinstance (by decide +kernel) (pa_cons (pv 0) (pa_cons (pe_tup (pa_cons (pe_bltn (v := .ty "tuple") (by rfl) T.n_tuple (by decide +kernel) rfl) (pa_cons (pe_bltn (v := .ty "list") (by rfl) T.n_list (by decide +kernel) rfl) pa_nil))) pa_nil)))) (pss_one ps_never) pss_nil)
    (pss_cons (ps_if (PW.pt (pw_or (pt_cmpR op_isN (pv 0) pe_non (nomark _)) (pw_or1 (pt_val (pe_callB call_isi (by rfl) T.n_isinstance (by decide +kernel) (pa_cons (pv 0) (pa_cons (pe_bltn (v := .ty "bool") (by rfl) T.n_bool (by decide +kernel) rfl) pa_nil))))))) (pss_one (ps_ret (pe_ix ix_list (pe_lst (pa_cons pe_str (pa_cons pe_str (pa_cons pe_str pa_nil)))) (pe_op op_add (pe_callTy call_int1 (by rfl) T.n_int (by decide +kernel) (pa_cons (pe_cmpR op_notN (pv 0) pe_non (nomark _)) pa_nil)) (pe_callTy call_int1 (by rfl) T.n_int (by decide +kernel) (pa_cons (pe_cmpR op_isT (pv 0) pe_bl (nomark _)) pa_nil))) (fun _ _ => rfl)))) pss_nil)
    (pss_cons (ps_if (pt_val (pe_callB call_isiT (by rfl) T.n_isinstance (by decide +kernel) (pa_cons (pv 0) (pa_cons (pe_tup (pa_cons (pe_bltn (v := .ty "int") (by rfl) T.n_int (by decide +kernel) rfl) (pa_cons (pe_bltn (v := .ty "str") (by rfl) T.n_str (by decide +kernel) rfl) pa_nil))) pa_nil)))) (pss_one (ps_ret (pe_lst (pa_cons (pe_callB call_isi (by rfl) T.n_isinstance (by decide +kernel) (pa_cons (pv 0) (pa_cons (pe_bltn (v := .ty "str") (by rfl) T.n_str (by decide +kernel) rfl) pa_nil))) (pa_cons (pv 0) pa_nil))))) pss_nil)
    (pss_one (ps_ret pe_str))))), ?_⟩

        refine ⟨_, rfl, by show 2 ≤ sizeLine; decide, fun p hp => ?_⟩
        refine ⟨_, _, [.ty "tuple", .ty "list"], .type "bool", _, _, rfl, upd_same, .cons (.ty "tuple") (.cons (.ty "list") .nil), (.base (.bl _)), kit2 (r1 := false) (r2 := false) (by decide +kernel) (by decide +kernel), ?_⟩
        refine ⟨_, rfl, ?_⟩
        refine iteF ?_
        have s1 : Same H (upd H p (.tup [.ty "tuple", .ty "list"])) := Same.new hp

        refine ⟨_, rfl, rfl, _, rfl, ?_⟩
        refine iteF ?_
        refine ⟨_, rfl, _, .ty "bool", _, _, true, rfl, .ty "bool", .base (.bl _), kit_ty (by decide +kernel), _, rfl, ?_⟩
        refine iteT ?_
        refine ⟨by show 3 ≤ sizeLine; decide, fun l hl => ?_⟩
        refine ⟨_, rfl, rfl, .inr ⟨_, rfl, ?_⟩⟩
        refine ⟨_, rfl, .inl ⟨_, _, rfl, rfl, .inr ⟨_, rfl, ?_⟩⟩⟩
        refine ⟨_, _, rfl, rfl, ?_⟩
        cases b
        · refine ⟨l, _, _, _, rfl, rfl, SqL.of upd_same, atI_nat' (j := 1) (by decide) rfl, ?_⟩
          exact k _ _ (s1.then_new hl) (by simp only [plainD]; exact .str _)
        · refine ⟨l, _, _, _, rfl, rfl, SqL.of upd_same, atI_nat' (j := 2) (by decide) rfl, ?_⟩
          exact k _ _ (s1.then_new hl) (by simp only [plainD]; exact .str _)
      | int i =>
        cases hd
        refine ⟨_, (pss_cons (ps_if (pt_val (pe_callB call_isiT (by rfl) T.n_isinstance (by decide +kernel) (pa_cons (pv 0) (pa_cons (pe_tup (pa_cons (pe_bltn (v := .ty "tuple") (by rfl) T.n_tuple (by decide +kernel) rfl) (pa_cons (pe_bltn (v := .ty "list") (by rfl) T.n_list (by decide +kernel) rfl) pa_nil))) pa_nil)))) (pss_one ps_never) pss_nil)
    (pss_cons (ps_if (PW.pt (pw_or (pt_cmpR op_isN (pv 0) pe_non (nomark _)) (pw_or1 (pt_val (pe_callB call_isi (by rfl) T.n_isinstance (by decide +kernel) (pa_cons (pv 0) (pa_cons (pe_bltn (v := .ty "bool") (by rfl) T.n_bool (by decide +kernel) rfl) pa_nil))))))) (pss_one (ps_ret (pe_ix ix_list (pe_lst (pa_cons pe_str (pa_cons pe_str (pa_cons pe_str pa_nil)))) (pe_op op_add (pe_callTy call_int1 (by rfl) T.n_int (by decide +kernel) (pa_cons (pe_cmpR op_notN (pv 0) pe_non (nomark _)) pa_nil)) (pe_callTy call_int1 (by rfl) T.n_int (by decide +kernel) (pa_cons (pe_cmpR op_isT (pv 0) pe_bl (nomark _)) pa_nil))) (fun _ _ => rfl)))) pss_nil)
    (pss_cons (ps_if (pt_val (pe_callB call_isiT (by rfl) T.n_isinstance (by decide +kernel) (pa_cons (pv 0) (pa_cons (pe_tup (pa_cons (pe_bltn (v := .ty "int") (by rfl) T.n_int (by decide +kernel) rfl) (pa_cons (pe_bltn (v := .ty "str") (by rfl) T.n_str (by decide +kernel) rfl) pa_nil))) pa_nil)))) (pss_one (ps_ret (pe_lst (pa_cons (pe_callB call_isi (by rfl) T.n_isinstance (by decide +kernel) (pa_cons (pv 0) (pa_cons (pe_bltn (v := .ty "str") (by rfl) T.n_str (by decide +kernel) rfl) pa_nil))) (pa_cons (pv 0) pa_nil))))) pss_nil)
    (pss_one (ps_ret pe_str))))), ?_⟩

        refine ⟨_, rfl, by show 2 ≤ sizeLine; decide, fun p hp => ?_⟩
        refine ⟨_, _, [.ty "tuple", .ty "list"], .type "int", _, _, rfl, upd_same, .cons (.ty "tuple") (.cons (.ty "list") .nil), (.base (.int _)), kit2 (r1 := false) (r2 := false) (by decide +kernel) (by decide +kernel), ?_⟩
        refine ⟨_, rfl, ?_⟩
        refine iteF ?_
        have s1 : Same H (upd H p (.tup [.ty "tuple", .ty "list"])) := Same.new hp

        refine ⟨_, rfl, rfl, _, rfl, ?_⟩
        refine iteF ?_
        refine ⟨_, rfl, _, .ty "bool", _, _, false, rfl, .ty "bool", .base (.int _), kit_ty (by decide +kernel), _, rfl, ?_⟩
        refine iteF ?_
        refine ⟨_, rfl, by show 2 ≤ sizeLine; decide, fun q hq => ?_⟩
        refine ⟨_, _, [.ty "int", .ty "str"], .type "int", _, _, rfl, upd_same, .cons (.ty "int") (.cons (.ty "str") .nil), (.base (.int _)), kit2 (r1 := true) (r2 := false) (by decide +kernel) (by decide +kernel), ?_⟩
        refine ⟨_, rfl, ?_⟩
        refine iteT ?_
        have s2 := s1.then_new (o := .tup [.ty "int", .ty "str"]) hq
        refine ⟨_, rfl, _, .ty "str", _, _, false, rfl, .ty "str", .base (.int _), kit_ty (by decide +kernel), ?_⟩
        refine ⟨_, rfl, by show 2 ≤ sizeLine; decide, fun l hl => ?_⟩
        refine k _ _ (s2.then_new hl) ?_
        simp only [plainD]
        exact .lst (s2.free hl) upd_same (.cons (.bl _) (.cons (.int _) .nil))
      | str i =>
        cases hd
        refine ⟨_, (pss_cons (ps_if (pt_val (pe_callB call_isiT (by rfl) T.n_isinstance (by decide +kernel) (pa_cons (pv 0) (pa_cons (pe_tup (pa_cons (pe_bltn (v := .ty "tuple") (by rfl) T.n_tuple (by decide +kernel) rfl) (pa_cons (pe_bltn (v := .ty "list") (by rfl) T.n_list (by decide +kernel) rfl) pa_nil))) pa_nil)))) (pss_one ps_never) pss_nil)
    (pss_cons (ps_if (PW.pt (pw_or (pt_cmpR op_isN (pv 0) pe_non (nomark _)) (pw_or1 (pt_val (pe_callB call_isi (by rfl) T.n_isinstance (by decide +kernel) (pa_cons (pv 0) (pa_cons (pe_bltn (v := .ty "bool") (by rfl) T.n_bool (by decide +kernel) rfl) pa_nil))))))) (pss_one (ps_ret (pe_ix ix_list (pe_lst (pa_cons pe_str (pa_cons pe_str (pa_cons pe_str pa_nil)))) (pe_op op_add (pe_callTy call_int1 (by rfl) T.n_int (by decide +kernel) (pa_cons (pe_cmpR op_notN (pv 0) pe_non (nomark _)) pa_nil)) (pe_callTy call_int1 (by rfl) T.n_int (by decide +kernel) (pa_cons (pe_cmpR op_isT (pv 0) pe_bl (nomark _)) pa_nil))) (fun _ _ => rfl)))) pss_nil)
    (pss_cons (ps_if (pt_val (pe_callB call_isiT (by rfl) T.n_isinstance (by decide +kernel) (pa_cons (pv 0) (pa_cons (pe_tup (pa_cons (pe_bltn (v := .ty "int") (by rfl) T.n_int (by decide +kernel) rfl) (pa_cons (pe_bltn (v := .ty "str") (by rfl) T.n_str (by decide +kernel) rfl) pa_nil))) pa_nil)))) (pss_one (ps_ret (pe_lst (pa_cons (pe_callB call_isi (by rfl) T.n_isinstance (by decide +kernel) (pa_cons (pv 0) (pa_cons (pe_bltn (v := .ty "str") (by rfl) T.n_str (by decide +kernel) rfl) pa_nil))) (pa_cons (pv 0) pa_nil))))) pss_nil)
    (pss_one (ps_ret pe_str))))), ?_⟩

        refine ⟨_, rfl, by show 2 ≤ sizeLine; decide, fun p hp => ?_⟩
        refine ⟨_, _, [.ty "tuple", .ty "list"], .type "str", _, _, rfl, upd_same, .cons (.ty "tuple") (.cons (.ty "list") .nil), (.base (.str _)), kit2 (r1 := false) (r2 := false) (by decide +kernel) (by decide +kernel), ?_⟩
        refine ⟨_, rfl, ?_⟩
        refine iteF ?_
        have s1 : Same H (upd H p (.tup [.ty "tuple", .ty "list"])) := Same.new hp

        refine ⟨_, rfl, rfl, _, rfl, ?_⟩
        refine iteF ?_
        refine ⟨_, rfl, _, .ty "bool", _, _, false, rfl, .ty "bool", .base (.str _), kit_ty (by decide +kernel), _, rfl, ?_⟩
        refine iteF ?_
        refine ⟨_, rfl, by show 2 ≤ sizeLine; decide, fun q hq => ?_⟩
        refine ⟨_, _, [.ty "int", .ty "str"], .type "str", _, _, rfl, upd_same, .cons (.ty "int") (.cons (.ty "str") .nil), (.base (.str _)), kit2 (r1 := false) (r2 := true) (by decide +kernel) (by decide +kernel), ?_⟩
        refine ⟨_, rfl, ?_⟩
        refine iteT ?_
        have s2 := s1.then_new (o := .tup [.ty "int", .ty "str"]) hq
        refine ⟨_, rfl, _, .ty "str", _, _, true, rfl, .ty "str", .base (.str _), kit_ty (by decide +kernel), ?_⟩
        refine ⟨_, rfl, by show 2 ≤ sizeLine; decide, fun l hl => ?_⟩
        refine k _ _ (s2.then_new hl) ?_
        simp only [plainD]
        exact .lst (s2.free hl) upd_same (.cons (.bl _) (.cons (.str _) .nil))
  intro n
  induction n with
  | zero => exact step 0 fun m e => by omega
  | succ n ih => exact step (n + 1) fun m e => by have : m = n := by omega
                                                  subst this
                                                  exact ih
theorem ok_c_law_plain {P : Program} {w : World} {K : PySem.W.Frag} {mg : Str → Option Value} {base : Heap} {a : Ad} (T : Txt K mg a) : FnOk P w K mg base (L2.CX P w) 5 a.f_c_law_plain a.d_c_law_plain ["value"] (sp_c_law_plain K 4) := ok_c_law_plain_n T 4

theorem ok_c_law_take {P : Program} {w : World} {K : PySem.W.Frag} {mg : Str → Option Value} {base : Heap} {a : Ad} (T : Txt K mg a) : FnOk P w K mg base (L2.CX P w) 1 a.f_c_law_take a.d_c_law_take ["deck", "many"] (sp_c_law_take) := by
  refine T.F_c_law_take.okX sc_c_law_take (fun vs H Q E h => ?_) (fun cdv A outer s H vs Q E hr h => ?_)
  · rw [sp_c_law_take, sp_take_eq] at h
    walk_at "len"
  · rw [sp_c_law_take, sp_take_eq] at h
    obtain ⟨d, D, m, rfl, hd, hm, k⟩ := h
    refine ⟨_, (pss_cons (ps_if (pt_cmpR op_eq (pe_callB call_len_seq (by rfl) T.n_len (by decide +kernel) (pa_cons (pv 0) pa_nil)) pe_int (nomark _)) (pss_one (ps_ret pe_int)) pss_nil)
    (pss_one (ps_ret (pe_op op_mod (pe_callTy call_int1 (by rfl) T.n_int (by decide +kernel) (pa_cons (pe_bm0 PySem.F.plainAttrs_list PySem.F.slot_list_pop PySem.F.type_list_pop mt_pop (pv 0)) pa_nil)) (pv 1))))), ?_⟩
    refine ⟨_, rfl, d, _, rfl, .inl (SqL.of hd), rfl, _, rfl, ?_⟩
    cases D with
    | nil =>
      refine iteT ?_
      have e : upd H d (dk []) = H := upd_self hd
      have k' : Q (.int (0 % m)) H := by rw [← e]; exact k
      rw [Int.zero_emod] at k'
      exact k'
    | cons x D =>
      refine ite2 (fun c => ?_) (fun _ => ?_)
      · simp at c
        omega
      · refine ⟨_, rfl, .inl ⟨rfl, _, SqL.of hd⟩, d, _, _, rfl, rfl, hd, dk_last, .inl ⟨_, rfl, _, rfl, _, _, rfl, rfl, hm, ?_⟩⟩
        rw [dk_drop]
        exact k
theorem ok_c_InvalidMoney_init {P : Program} {w : World} {K : PySem.W.Frag} {mg : Str → Option Value} {base : Heap} {a : Ad} (T : Txt K mg a) : FnOk P w K mg base (L2.CX P w) 1 a.f_c_InvalidMoney_init a.d_c_InvalidMoney_init ["self", "what"] (sp_exinit a.C_InvalidMoney) := by
  refine T.F_c_InvalidMoney_init.okX sc_c_InvalidMoney_init (fun vs H Q E h => ?_) (fun cdv A outer s H vs Q E hr h => ?_)
  · walk_at "len"
  · obtain ⟨x, wd, rfl, hx, hl, k⟩ := h
    refine ⟨_, (pss_cons (ps_expr (pe_binit T.bc_SlotError (by rfl) T.m_SlotError (pa_cons (pv 0) (pa_cons (pe_op op_add_str pe_str (pv 1)) pa_nil))))
    (pss_one (ps_ost (pv 0) (pv 1)))), ?_⟩
    refine ⟨_, rfl, _, rfl, _, _, rfl, rfl, by have := small1000000 (n := 1000) (by decide); show _ + wd.length ≤ _; exact Nat.le_of_lt (Nat.lt_of_le_of_lt (Nat.add_le_add_left hl _) (small1000000 (by decide +kernel))), ?_⟩
    refine ⟨x, _, _, rfl, by show 1 ≤ 1000; decide, T.ox_InvalidMoney, hx, ?_⟩
    refine ⟨_, rfl, _, rfl, x, _, rfl, T.ox_InvalidMoney, T.no_InvalidMoney_what, .inl ⟨hx, fun dx n ne => k dx n ne⟩⟩
theorem ok_c_check_rules {P : Program} {w : World} {K : PySem.W.Frag} {mg : Str → Option Value} {base : Heap} {a : Ad} (T : Txt K mg a) : FnOk P w K mg base (L2.CX P w) 3 a.f_c_check_rules a.d_c_check_rules ["rules"] (sp_c_check_rules K a.C_InvalidMoney) := by
  have G_c_InvalidMoney_init : FnOk P w K mg base (L2.CX P w) 1 a.f_c_InvalidMoney_init a.d_c_InvalidMoney_init ["self", "what"] (sp_exinit a.C_InvalidMoney) := ok_c_InvalidMoney_init T
  refine T.F_c_check_rules.okX sc_c_check_rules (fun vs H Q E h => ?_) (fun cdv A outer s H vs Q E hr h => ?_)
  · rw [sp_c_check_rules_eq] at h
    walk_at "len"
  · rw [sp_c_check_rules_eq] at h
    obtain ⟨v, isL, rs, rfl, hd, k0, k1⟩ := h
    refine ⟨_, (pss_one (ps_for (passes_of rfl) rfl (pi_seq (pv 0)) (pg_tup (by rfl) (pgs_cons (pg_name (i := 1) sc_c_check_rules.nd (by rfl) (Or.inl rfl)) (pgs_cons (pg_name (i := 2) sc_c_check_rules.nd (by rfl) (Or.inl rfl)) pgs_nil))) (Evl.pss_cut (ps_if (PW.pt (pw_or (pt_cmpR op_notIn_seq (pv 1) (pe_glob (v := .ref a.A_KINDS) (by rfl) T.m_KINDS rfl) (by rfl)) (pw_or (PW.pt (pw_and (pt_cmpR op_eq (pv 1) pe_str (nomark _)) (pw_and1 (pt_not (pt_chain op_le op_le pe_int (pv 2) pe_int))))) (pw_or1 (pt_cmpR op_lt (pv 2) pe_int (nomark _)))))) (pss_one (ps_raise rfl (takes_of rfl rfl rfl rfl) (pmk_oex T.ox_InvalidMoney T.in_InvalidMoney T.ti_InvalidMoney G_c_InvalidMoney_init (hr.mono (by decide)) T.b_c_InvalidMoney_init .nil passL (by rfl) T.m_InvalidMoney (pa_cons pe_str pa_nil)))) pss_nil)
    (pss_one (ps_if (PW.pt (pw_and (pt_cmpR op_eq (pv 1) pe_str (nomark _)) (pw_and1 (pt_cmpR op_gt (pv 2) pe_int (nomark _))))) (pss_one (ps_raise rfl (takes_of rfl rfl rfl rfl) (pmk_oex T.ox_InvalidMoney T.in_InvalidMoney T.ti_InvalidMoney G_c_InvalidMoney_init (hr.mono (by decide)) T.b_c_InvalidMoney_init .nil passL (by rfl) T.m_InvalidMoney (pa_cons pe_str pa_nil)))) pss_nil))))), ?_⟩
    obtain ⟨aa, xs, rfl, hq, hall⟩ := dp_seq hd
    have hlen : xs.length = rs.length := by rw [dpAll_length hall, List.length_map]
    have hK : ∀ H, SqT K H a.A_KINDS kindsV := fun H => Same.tup same_none T.w_KINDS
    have bad : ∀ {i : Nat} {r : Str × Int}, rs[i]? = some r → ruleOk r = false → raisesW a.C_InvalidMoney "rules" H E := fun h1 h2 => k0 (by
      cases e : rulesOk rs with
      | false => rfl
      | true => rw [ok_get e h1] at h2; cases h2)
    refine ⟨_, rfl, aa, rfl, for_seq (G := H) hq (fun i σ H' => ∃ v1 v2 : Option V, σ = [some (.ref aa), v1, v2] ∧ H' = H ∧ rulesOk (rs.take i) = true) ⟨_, _, rfl, rfl, rfl⟩ (fun i σ H' ⟨_, _, _, e, _⟩ => by rw [e]; exact Same.refl H) ?_ ?_⟩
    · rintro i x σ H' hi ⟨v1, v2, rfl, rfl, ht⟩
      obtain ⟨kd, n, t, hr, rfl, ht2⟩ := rule_at hall hi
      refine ⟨t, _, rfl, ht2, rfl, _, _, rfl, _, _, rfl, rfl, ?_⟩
      have nx : ruleOk (kd, n) = true → rulesOk (rs.take (i + 1)) = true := fun z => by
        rw [List.take_add_one, hr]
        simp only [rulesOk, List.all_append, Option.toList_some, List.all_cons, List.all_nil, Bool.and_true, Bool.and_eq_true]
        exact ⟨ht, z⟩
      have rz : (ruleOk (kd, n) = true → False) → (["rules"] : List Str).length ≤ 1000 ∧ ∀ aa, H' aa = none → sp_exinit a.C_InvalidMoney (.ref aa :: ([.str "rules"] ++ [])) (upd H' aa (exo aa a.C_InvalidMoney none))
        (fun v H2 => v = .non ∧ ∃ (d : Addr) (fs : List (Str × V)), H2 aa = some (exo aa a.C_InvalidMoney (some d)) ∧ H2 d = some (exd d fs) ∧ H' d = none ∧ E (.ref a.C_InvalidMoney) (some d) (upd (del H2 aa) d (.xd fs))) (fun _ _ _ => False) :=
        fun z => ⟨by show 1 ≤ 1000; decide, raise_ok (bad hr (nok z)) (by decide +kernel)⟩
      refine ⟨fun σ H2 => σ = [some (.ref aa), some (.str kd), some (.int n)] ∧ H2 = H' ∧ inV (.str kd) kindsV = true ∧ (kd = "percent" → 0 ≤ n ∧ n ≤ 100) ∧ 0 ≤ n, ?_, ?_⟩
      · refine ⟨_, rfl, _, _, rfl, .inr (hK _), rfl, by decide +kernel, _, rfl, ?_⟩
        refine ite2 (fun c => ?_) (fun c => ?_)
        · refine rz fun z => ?_
          have c' : (!inV (.str kd) kindsV) = true := c
          rw [(ruleOk_iff.mp z).1] at c'
          cases c'
        have c1 : inV (.str kd) kindsV = true := by
          revert c
          show ¬ (!inV (.str kd) kindsV) = true → _
          cases inV (.str kd) kindsV <;> simp
        refine ⟨_, rfl, rfl, _, rfl, ?_⟩
        refine ite2 (fun c => ?_) (fun c => ?_)
        · have cp : kd = "percent" := V.str.inj (of_decide_eq_true c)
          refine ⟨_, rfl, _, _, rfl, rfl, _, rfl, ?_⟩
          refine ite2 (fun c2 => ?_) (fun c2 => ?_)
          · refine ⟨_, _, rfl, rfl, _, rfl, ?_⟩
            refine ite2 (fun e => ?_) (fun e => ?_)
            · refine rz fun z => ?_
              have := (ruleOk_iff.mp z).2.1 cp
              simp at e
              omega
            · have hcond : kd = "percent" → 0 ≤ n ∧ n ≤ 100 := fun _ => ⟨by simpa using c2, by simpa using e⟩
              refine ⟨_, rfl, _, _, rfl, rfl, _, rfl, ?_⟩
              refine ite2 (fun c => ?_) (fun c => ?_)
              · refine rz fun z => ?_
                have := (ruleOk_iff.mp z).2.2.1
                have := of_decide_eq_true c
                have h0 : 0 ≤ n := (ruleOk_iff.mp z).2.2.1
                omega
              · exact ⟨rfl, rfl, c1, hcond, by simpa using c⟩
          · refine ⟨_, rfl, ?_⟩
            refine rz fun z => ?_
            have := (ruleOk_iff.mp z).2.1 cp
            simp at c2
            omega
        · have hcond : kd = "percent" → 0 ≤ n ∧ n ≤ 100 := fun z => absurd (decide_eq_true (congrArg V.str z)) c
          refine ⟨_, rfl, _, _, rfl, rfl, _, rfl, ?_⟩
          refine ite2 (fun c => ?_) (fun c => ?_)
          · refine rz fun z => ?_
            have := (ruleOk_iff.mp z).2.2.1
            have := of_decide_eq_true c
            have h0 : 0 ≤ n := (ruleOk_iff.mp z).2.2.1
            omega
          · exact ⟨rfl, rfl, c1, hcond, by simpa using c⟩
      · rintro σ H2 ⟨rfl, rfl, c1, hcond, c3⟩
        refine ⟨_, rfl, rfl, _, rfl, ?_⟩
        refine ite2 (fun c => ?_) (fun c => ?_)
        · have ce : kd = "ending" := V.str.inj (of_decide_eq_true c)
          refine ⟨_, rfl, _, _, rfl, rfl, _, rfl, ?_⟩
          refine ite2 (fun e => ?_) (fun e => ?_)
          · refine rz fun z => ?_
            have := (ruleOk_iff.mp z).2.2.2 ce
            simp at e
            omega
          · exact ⟨_, _, rfl, rfl, nx (ruleOk_iff.mpr ⟨c1, hcond, c3, fun _ => by simpa using e⟩)⟩
        · exact ⟨_, _, rfl, rfl, nx (ruleOk_iff.mpr ⟨c1, hcond, c3, fun z => absurd (decide_eq_true (congrArg V.str z)) c⟩)⟩
    · rintro σ H' ⟨v1, v2, rfl, rfl, ht⟩
      rw [hlen, List.take_length] at ht
      exact k1 ht
theorem ok_c_fraction {P : Program} {w : World} {K : PySem.W.Frag} {mg : Str → Option Value} {base : Heap} {a : Ad} (T : Txt K mg a) : FnOk P w K mg base (L2.CX P w) 3 a.f_c_fraction a.d_c_fraction ["above", "below"] (sp_c_fraction a.C_InvalidMoney) := by
  have G_c_InvalidMoney_init : FnOk P w K mg base (L2.CX P w) 1 a.f_c_InvalidMoney_init a.d_c_InvalidMoney_init ["self", "what"] (sp_exinit a.C_InvalidMoney) := ok_c_InvalidMoney_init T
  refine T.F_c_fraction.okX sc_c_fraction (fun vs H Q E h => ?_) (fun cdv A outer s H vs Q E hr h => ?_)
  · walk_at "len"
  · obtain ⟨x, y, rfl, hy, k0, k1⟩ := h
    refine ⟨_, (pss_cons (ps_if (pt_cmpR op_eq (pv 1) pe_int (nomark _)) (pss_one (ps_raise rfl (takes_of rfl rfl rfl rfl) (pmk_oex T.ox_InvalidMoney T.in_InvalidMoney T.ti_InvalidMoney G_c_InvalidMoney_init (hr.mono (by decide)) T.b_c_InvalidMoney_init .nil passL (by rfl) T.m_InvalidMoney (pa_cons pe_str pa_nil)))) pss_nil)
    (pss_cons (ps_set (i := 2) sc_c_fraction.nd (by rfl) (Or.inl rfl) (pe_callBfun cr_gcd (by rfl) T.i_gcd (pa_cons (pv 0) (pa_cons (pv 1) pa_nil))))
    (pss_cons (ps_if (pt_cmpR op_lt (pv 1) pe_int (nomark _)) (pss_one (ps_set (i := 2) sc_c_fraction.nd (by rfl) (Or.inl rfl) (pe_un un_neg (pv 2)))) pss_nil)
    (pss_one (ps_ret (pe_tup (pa_cons (pe_op op_fdivZ (pv 0) (pv 2)) (pa_cons (pe_op op_fdivZ (pv 1) (pv 2)) pa_nil)))))))), ?_⟩
    refine ⟨_, rfl, rfl, _, rfl, ?_⟩
    refine ite2 (fun c => ?_) (fun c => ?_)
    · have c' : y = 0 := by simpa using c
      exact ⟨by show 1 ≤ 1000; decide, raise_ok (k0 c') (by decide +kernel)⟩
    · have c' : y ≠ 0 := by simpa using c
      refine ⟨_, rfl, _, rfl, _, _, rfl, ?_⟩
      refine ⟨_, rfl, _, _, rfl, rfl, _, rfl, ?_⟩
      have kk := k1 c'
      unfold frA frB frC at kk
      refine ite2 (fun n => ?_) (fun n => ?_)
      · have n' : y < 0 := by simpa using n
        rw [if_pos n'] at kk
        refine ⟨_, rfl, _, rfl, ?_⟩
        exact ⟨_, rfl, _, rfl, _, _, rfl, rfl, (gcd_cdiv x c' hy).2, _, rfl, _, rfl, _, _, rfl, rfl, (gcd_cdiv y c' hy).2, by show 2 ≤ sizeLine; decide, kk⟩
      · have n' : ¬ y < 0 := by simpa using n
        rw [if_neg n'] at kk
        exact ⟨_, rfl, _, rfl, _, _, rfl, rfl, (gcd_cdiv x c' hy).1, _, rfl, _, rfl, _, _, rfl, rfl, (gcd_cdiv y c' hy).1, by show 2 ≤ sizeLine; decide, kk⟩
theorem ok_c_rounded {P : Program} {w : World} {K : PySem.W.Frag} {mg : Str → Option Value} {base : Heap} {a : Ad} (T : Txt K mg a) : FnOk P w K mg base (L2.CX P w) 4 a.f_c_rounded a.d_c_rounded ["above", "below", "way"] (sp_c_rounded) := by
  have G_c_InvalidMoney_init : FnOk P w K mg base (L2.CX P w) 1 a.f_c_InvalidMoney_init a.d_c_InvalidMoney_init ["self", "what"] (sp_exinit a.C_InvalidMoney) := ok_c_InvalidMoney_init T
  have G_c_fraction : FnOk P w K mg base (L2.CX P w) 3 a.f_c_fraction a.d_c_fraction ["above", "below"] (sp_c_fraction a.C_InvalidMoney) := ok_c_fraction T
  refine T.F_c_rounded.okX sc_c_rounded (fun vs H Q E h => ?_) (fun cdv A outer s H vs Q E hr h => ?_)
  · rw [sp_c_rounded, sp_rounded_hu_eq] at h
    walk_at "len"
  · rw [sp_c_rounded, sp_rounded_hu_eq] at h
    obtain ⟨x, y, rfl, hy0, hy1, k⟩ := h
    refine ⟨_, (pss_cons (ps_if (pt_cmpR op_eq (pv 1) pe_int (nomark _)) (pss_one (ps_raise rfl (takes_of rfl rfl rfl rfl) (pmk_oex T.ox_InvalidMoney T.in_InvalidMoney T.ti_InvalidMoney G_c_InvalidMoney_init (hr.mono (by decide)) T.b_c_InvalidMoney_init .nil passL (by rfl) T.m_InvalidMoney (pa_cons pe_str pa_nil)))) pss_nil)
    (pss_cons (ps_if (pt_cmpR op_notIn_seq (pv 2) (pe_glob (v := .ref a.A_WAYS) (by rfl) T.m_WAYS rfl) (by rfl)) (pss_one (ps_raise rfl (takes_of rfl rfl rfl rfl) (pmk_oex T.ox_InvalidMoney T.in_InvalidMoney T.ti_InvalidMoney G_c_InvalidMoney_init (hr.mono (by decide)) T.b_c_InvalidMoney_init .nil passL (by rfl) T.m_InvalidMoney (pa_cons pe_str pa_nil)))) pss_nil)
    (pss_cons (ps_asg (pe_callS G_c_fraction (hr.mono (by decide)) (by rfl) T.m_c_fraction T.F_c_fraction.kp T.b_c_fraction (fun σ => passAt (takes_of rfl rfl rfl rfl) σ) (pa_cons (pv 0) (pa_cons (pv 1) pa_nil))) (pg_tup (by rfl) (pgs_cons (pg_name (i := 0) sc_c_rounded.nd (by rfl) (Or.inl rfl)) (pgs_cons (pg_name (i := 1) sc_c_rounded.nd (by rfl) (Or.inl rfl)) pgs_nil))))
    (pss_cons (ps_set (i := 3) sc_c_rounded.nd (by rfl) (Or.inl rfl) (pe_op op_fdivZ (pv 0) (pv 1)))
    (pss_cons (ps_if (pt_cmpR op_eq (pv 2) pe_str (nomark _)) (pss_one (ps_ret (pe_un un_neg (pe_op op_fdivZ (pe_un un_neg (pv 0)) (pv 1))))) pss_nil)
    (pss_cons (ps_if (pt_cmpR op_eq (pv 2) pe_str (nomark _)) (pss_one (ps_ret (pe_op op_add (pv 3) (pe_callTy call_int1 (by rfl) T.n_int (by decide +kernel) (pa_cons (pe_and (pe_cmpR op_lt (pv 0) pe_int (nomark _)) (pe_one (pe_cmpR op_ne (pe_op op_mul (pv 3) (pv 1)) (pv 0) (nomark _)))) pa_nil))))) pss_nil)
    (pss_cons (ps_if (pt_cmpR op_eq (pv 2) pe_str (nomark _)) (pss_one (ps_ret (pe_op op_fdivZ (pe_op op_add (pe_op op_mul pe_int (pv 0)) (pv 1)) (pe_op op_mul pe_int (pv 1))))) pss_nil)
    (pss_cons (ps_if (PW.pt (pw_and (pt_cmpR op_eq (pv 2) pe_str (nomark _)) (pw_and1 (pt_cmpR op_ne (pe_op op_mul pe_int (pe_op op_sub (pv 0) (pe_op op_mul (pv 3) (pv 1)))) (pv 1) (nomark _))))) (pss_one (ps_ret (pe_op op_fdivZ (pe_op op_add (pe_op op_mul pe_int (pv 0)) (pv 1)) (pe_op op_mul pe_int (pv 1))))) pss_nil)
    (pss_cons (ps_if (pt_cmpR op_eq (pv 2) pe_str (nomark _)) (pss_one (ps_ret (pe_op op_add (pv 3) (pe_op op_mod (pv 3) pe_int)))) pss_nil)
    (pss_one (ps_ret (pv 3)))))))))))), ?_⟩
    obtain ⟨q0, q1, qe⟩ := half_up (x := x) hy0
    refine ⟨_, rfl, rfl, _, rfl, ?_⟩
    refine ite2 (fun c => absurd c (by simp; omega)) (fun _ => ?_)
    have hW : ∀ H, SqT K H a.A_WAYS waysV := fun H => Same.tup same_none T.w_WAYS
    refine ⟨_, rfl, _, _, rfl, .inr (hW H), rfl, by decide +kernel, _, rfl, ?_⟩
    refine ite2 (fun c => absurd c (by decide +kernel)) (fun _ => ?_)
    have yb : y.natAbs < 2 ^ 8000 := Nat.lt_of_lt_of_le (show y.natAbs < 2 ^ 20 by omega) (Nat.pow_le_pow_right (by decide) (by decide))
    refine ⟨_, rfl, _, rfl, x, y, rfl, yb, fun z => absurd z (by omega), fun _ p hp => ?_⟩
    refine ⟨p, _, rfl, SqT.of upd_same, rfl, _, _, rfl, _, _, rfl, rfl, ?_⟩
    have s1 := Same.new (o := .tup [.int (frA x y), .int (frB x y)]) hp
    have cd : ∀ i m : Int, 0 < m → m ≤ 2 * y → CDivZ i m := fun i m h1 h2 => cdivZ_of (b := 22) (by omega) (by omega) (by decide) (by decide)
    refine ⟨_, rfl, _, rfl, _, _, rfl, rfl, cd _ _ q0 (by omega), ?_⟩
    refine ⟨_, rfl, rfl, _, rfl, ?_⟩
    refine ite2 (fun c => absurd c (by decide +kernel)) (fun _ => ?_)
    refine ⟨_, rfl, rfl, _, rfl, ?_⟩
    refine ite2 (fun c => absurd c (by decide +kernel)) (fun _ => ?_)
    refine ⟨_, rfl, rfl, _, rfl, ?_⟩
    refine ite2 (fun _ => ?_) (fun c => absurd (by decide +kernel) c)
    refine ⟨_, rfl, _, _, rfl, rfl, .inl ⟨by decide, by decide⟩, _, rfl, _, _, rfl, rfl, _, rfl, _, _, rfl, rfl, .inl ⟨by decide, by decide⟩, _, _, rfl, rfl, cd _ _ (by omega) (by omega), ?_⟩
    show Q (.int ((2 * frA x y + frB x y).fdiv (2 * frB x y))) _
    rw [qe]
    exact k _ s1
theorem ok_c_changed_price {P : Program} {w : World} {K : PySem.W.Frag} {mg : Str → Option Value} {base : Heap} {a : Ad} (T : Txt K mg a) : FnOk P w K mg base (L2.CX P w) 5 a.f_c_changed_price a.d_c_changed_price ["price", "rules"] (sp_c_changed_price K a.C_InvalidMoney) := by
  have G_c_InvalidMoney_init : FnOk P w K mg base (L2.CX P w) 1 a.f_c_InvalidMoney_init a.d_c_InvalidMoney_init ["self", "what"] (sp_exinit a.C_InvalidMoney) := ok_c_InvalidMoney_init T
  have G_c_check_rules : FnOk P w K mg base (L2.CX P w) 3 a.f_c_check_rules a.d_c_check_rules ["rules"] (sp_c_check_rules K a.C_InvalidMoney) := ok_c_check_rules T
  have G_c_rounded : FnOk P w K mg base (L2.CX P w) 4 a.f_c_rounded a.d_c_rounded ["above", "below", "way"] (sp_c_rounded) := ok_c_rounded T
  refine T.F_c_changed_price.okX sc_c_changed_price (fun vs H Q E h => ?_) (fun cdv A outer s H vs Q E hr h => ?_)
  · rw [sp_c_changed_price_eq] at h
    walk_at "len"
  · rw [sp_c_changed_price_eq] at h
    obtain ⟨p, v, isL, rs, rfl, hd, k0, k1, k2⟩ := h
    refine ⟨_, (pss_cons (ps_if (pt_cmpR op_lt (pv 0) pe_int (nomark _)) (pss_one (ps_raise rfl (takes_of rfl rfl rfl rfl) (pmk_oex T.ox_InvalidMoney T.in_InvalidMoney T.ti_InvalidMoney G_c_InvalidMoney_init (hr.mono (by decide)) T.b_c_InvalidMoney_init .nil passL (by rfl) T.m_InvalidMoney (pa_cons pe_str pa_nil)))) pss_nil)
    (pss_cons (ps_expr (pe_callS G_c_check_rules (hr.mono (by decide)) (by rfl) T.m_c_check_rules T.F_c_check_rules.kp T.b_c_check_rules (fun σ => passAt (takes_of rfl rfl rfl rfl) σ) (pa_cons (pv 1) pa_nil)))
    (pss_cons (ps_for (passes_of rfl) rfl (pi_seq (pv 1)) (pg_tup (by rfl) (pgs_cons (pg_name (i := 2) sc_c_changed_price.nd (by rfl) (Or.inl rfl)) (pgs_cons (pg_name (i := 3) sc_c_changed_price.nd (by rfl) (Or.inl rfl)) pgs_nil))) (pss_one (ps_if (pt_cmpR op_eq (pv 2) pe_str (nomark _)) (pss_one (ps_set (i := 0) sc_c_changed_price.nd (by rfl) (Or.inl rfl) (pe_op op_sub (pv 0) (pe_callS G_c_rounded (hr.mono (by decide)) (by rfl) T.m_c_rounded T.F_c_rounded.kp T.b_c_rounded (fun σ => passAt (takes_of rfl rfl rfl rfl) σ) (pa_cons (pe_op op_mul (pv 0) (pv 3)) (pa_cons pe_int (pa_cons pe_str pa_nil))))))) (pss_one (ps_if (pt_cmpR op_eq (pv 2) pe_str (nomark _)) (pss_one (ps_set (i := 0) sc_c_changed_price.nd (by rfl) (Or.inl rfl) (pe_callB (call_max2 rfl) (by rfl) T.n_max (by decide +kernel) (pa_cons pe_int (pa_cons (pe_op op_sub (pv 0) (pv 3)) pa_nil))))) (pss_one (ps_if (pt_cmpR op_eq (pv 2) pe_str (nomark _)) (pss_one (ps_set (i := 0) sc_c_changed_price.nd (by rfl) (Or.inl rfl) (pe_op op_add (pv 0) (pv 3)))) (pss_one (ps_if (pt_cmpR op_eq (pv 2) pe_str (nomark _)) (pss_one (ps_set (i := 0) sc_c_changed_price.nd (by rfl) (Or.inl rfl) (pe_callB (call_max2 rfl) (by rfl) T.n_max (by decide +kernel) (pa_cons (pv 0) (pa_cons (pv 3) pa_nil))))) (pss_one (ps_if (pt_cmpR op_eq (pv 2) pe_str (nomark _)) (pss_one (ps_set (i := 0) sc_c_changed_price.nd (by rfl) (Or.inl rfl) (pe_callB (call_min2 rfl) (by rfl) T.n_min (by decide +kernel) (pa_cons (pv 0) (pa_cons (pv 3) pa_nil))))) (pss_cons (ps_set (i := 0) sc_c_changed_price.nd (by rfl) (Or.inl rfl) (pe_op op_sub (pv 0) (pe_op op_mod (pe_op op_sub (pv 0) (pv 3)) pe_int)))
    (pss_one (ps_set (i := 0) sc_c_changed_price.nd (by rfl) (Or.inl rfl) (pe_ifExp (pt_cmpR op_ge (pv 0) pe_int (nomark _)) (pv 0) (pv 3))))))))))))))))
    (pss_one (ps_ret (pv 0)))))), ?_⟩
    refine ⟨_, rfl, _, _, rfl, rfl, _, rfl, ?_⟩
    refine ite2 (fun c => ⟨by show 1 ≤ 1000; decide, raise_ok (k0 (of_decide_eq_true c)) (by decide +kernel)⟩) (fun c => ?_)
    have hp : 0 ≤ p := by simpa using c
    refine ⟨_, rfl, sp_c_check_rules_use ⟨v, isL, rs, rfl, hd, k1 hp, fun ho => ?_⟩⟩
    obtain ⟨aa, xs, rfl, hq, hall⟩ := dp_seq hd
    have hlen : xs.length = rs.length := by rw [dpAll_length hall, List.length_map]
    refine ⟨_, rfl, aa, rfl, for_seq (G := H) hq (fun i σ H' => ∃ v2 v3 : Option V, σ = [some (.int (chg p (rs.take i))), some (.ref aa), v2, v3] ∧ Same H H') ⟨_, _, rfl, Same.refl H⟩ (fun i σ H' ⟨_, _, _, e⟩ => e) ?_ ?_⟩
    · rintro i x σ H' hi ⟨v2, v3, rfl, s1⟩
      obtain ⟨kd, n, t, hr, rfl, ht2⟩ := rule_at hall hi
      refine ⟨t, _, rfl, s1.tup ht2, rfl, _, _, rfl, _, _, rfl, rfl, ?_⟩
      obtain ⟨o1, o2, o3, o4⟩ := ruleOk_iff.mp (ok_get ho hr)
      have e := chg_take (p := p) hr
      rw [e]
      generalize chg p (rs.take i) = q
      have fin : ∀ (z : Int) {H2 : Hp} (v2 v3 : Option V), Same H H2 → z = chg1 q (kd, n) → ∃ w2 w3 : Option V, [some (V.int z), some (V.ref aa), v2, v3] = [some (V.int (chg1 q (kd, n))), some (V.ref aa), w2, w3] ∧ Same H H2 := fun z H2 v2 v3 s e => ⟨v2, v3, by rw [e], s⟩
      have u : chg1 q (kd, n) = (if kd = "percent" then q - hu (q * n) 100 else if kd = "minus" then (if q - n > 0 then q - n else 0) else if kd = "plus" then q + n else if kd = "least" then (if n > q then n else q) else if kd = "most" then (if n < q then n else q)
        else if 0 ≤ q - (q - n) % 100 then q - (q - n) % 100 else n) := rfl
      refine ⟨_, rfl, rfl, _, rfl, ?_⟩
      refine ite2 (fun c => ?_) (fun c => ?_)
      · have ce : kd = "percent" := V.str.inj (of_decide_eq_true c)
        obtain ⟨b1, b2⟩ := o2 ce
        refine ⟨_, rfl, _, rfl, _, rfl, _, _, rfl, rfl, .inr ⟨by omega, by omega⟩, ?_⟩
        refine rounded_hu _ (by decide) (by decide) fun H2 s2 => ?_
        refine ⟨_, _, rfl, rfl, fin _ _ _ (s1.trans s2) ?_⟩
        rw [u, if_pos ce]
      rw [if_neg (fun z => c (decide_eq_true (congrArg V.str z)))] at u
      refine ⟨_, rfl, rfl, _, rfl, ?_⟩
      refine ite2 (fun c => ?_) (fun c => ?_)
      · have ce : kd = "minus" := V.str.inj (of_decide_eq_true c)
        refine ⟨_, rfl, _, rfl, _, _, rfl, rfl, _, _, rfl, fin _ _ _ s1 ?_⟩
        rw [u, if_pos ce]
      rw [if_neg (fun z => c (decide_eq_true (congrArg V.str z)))] at u
      refine ⟨_, rfl, rfl, _, rfl, ?_⟩
      refine ite2 (fun c => ?_) (fun c => ?_)
      · have ce : kd = "plus" := V.str.inj (of_decide_eq_true c)
        refine ⟨_, rfl, _, rfl, _, _, rfl, rfl, fin _ _ _ s1 ?_⟩
        rw [u, if_pos ce]
      rw [if_neg (fun z => c (decide_eq_true (congrArg V.str z)))] at u
      refine ⟨_, rfl, rfl, _, rfl, ?_⟩
      refine ite2 (fun c => ?_) (fun c => ?_)
      · have ce : kd = "least" := V.str.inj (of_decide_eq_true c)
        refine ⟨_, rfl, _, rfl, _, _, rfl, fin _ _ _ s1 ?_⟩
        rw [u, if_pos ce]
      rw [if_neg (fun z => c (decide_eq_true (congrArg V.str z)))] at u
      refine ⟨_, rfl, rfl, _, rfl, ?_⟩
      refine ite2 (fun c => ?_) (fun c => ?_)
      · have ce : kd = "most" := V.str.inj (of_decide_eq_true c)
        refine ⟨_, rfl, _, rfl, _, _, rfl, fin _ _ _ s1 ?_⟩
        rw [u, if_pos ce]
      rw [if_neg (fun z => c (decide_eq_true (congrArg V.str z)))] at u
      refine ⟨_, rfl, _, rfl, _, rfl, _, _, rfl, rfl, _, _, rfl, rfl, (by show (0 : Int) < 100; decide), _, _, rfl, rfl, ?_⟩
      refine ⟨_, rfl, _, _, rfl, rfl, _, rfl, ?_⟩
      refine ite2 (fun c => ?_) (fun c => ?_)
      · refine ⟨_, rfl, fin _ _ _ s1 ?_⟩
        rw [u, if_pos (of_decide_eq_true c)]
      · refine ⟨_, rfl, fin _ _ _ s1 ?_⟩
        rw [u, if_neg (fun z => c (decide_eq_true z))]
    · rintro σ H' ⟨v2, v3, rfl, s1⟩
      rw [hlen, List.take_length]
      exact ⟨_, rfl, k2 hp ho _ s1⟩
theorem ok_c_law_why {P : Program} {w : World} {K : PySem.W.Frag} {mg : Str → Option Value} {base : Heap} {a : Ad} (T : Txt K mg a) : FnOk P w K mg base (L2.CX P w) 6 a.f_c_law_why a.d_c_law_why ["price", "rules"] (sp_c_law_why K) := by
  have G_c_changed_price : FnOk P w K mg base (L2.CX P w) 5 a.f_c_changed_price a.d_c_changed_price ["price", "rules"] (sp_c_changed_price K a.C_InvalidMoney) := ok_c_changed_price T
  refine T.F_c_law_why.okX sc_c_law_why (fun vs H Q E h => ?_) (fun cdv A outer s H vs Q E hr h => ?_)
  · rw [sp_c_law_why_eq] at h
    walk_at "len"
  · rw [sp_c_law_why_eq] at h
    obtain ⟨p, v, isL, rs, wd, rfl, hd, hc, k⟩ := h
    refine ⟨_, (pss_cons (ps_try_as (i := 2) (Wout := fun _ _ _ _ => False) rfl rfl sc_c_law_why.nd (by rfl) (by rfl) ⟨by rfl, by decide, .inl T.m_SlotError⟩ takes0
    (fun W pn xe tk po => (pss_one (ps_expr (pe_callS G_c_changed_price (hr.mono (by decide)) (by rfl) T.m_c_changed_price T.F_c_changed_price.kp T.b_c_changed_price (fun σ => passAt tk σ) (pa_cons (pv 0) (pa_cons (pv 1) pa_nil))))))
    (fun ae oe cls dx pn hz hf => (pss_cons (ps_if (PW.pt (pw_and (pt_val (pe_callB (call_isX hz hf) (by rfl) T.n_isinstance (by decide +kernel) (pa_cons (pv 2) (pa_cons (pe_glob (v := .ref a.C_InvalidMoney) (by rfl) T.m_InvalidMoney rfl) pa_nil)))) (pw_and1 (pt_not (pt_val (pe_callB (call_isX hz hf) (by rfl) T.n_isinstance (by decide +kernel) (pa_cons (pv 2) (pa_cons (pe_glob (v := .ref a.C_InvalidTime) (by rfl) T.m_InvalidTime rfl) pa_nil)))))))) (pss_one (ps_ret (pe_xf T.xf_InvalidMoney T.no_InvalidMoney_what hz hf (pv 2)))) pss_nil)
    (pss_one (ps_ret pe_str)))))
    (pss_one (ps_ret pe_non))), ?_⟩
    refine ⟨_, rfl, _, rfl, sp_c_changed_price_use ⟨p, v, isL, rs, rfl, hd, fun z => ?_, fun z1 z2 => ?_, fun z1 z2 => ?_⟩⟩
    · have e : wd = "price" := by
        rcases hc with hc | hc
        · exact hc.2
        · omega
      subst e
      intro d H' s1 hd
      refine ⟨true, T.em_InvalidMoney_SlotError, fun _ ae _ => ?_, fun z => nomatch z⟩
      refine ⟨_, rfl, _, _, true, d, _, rfl, rfl, T.is_InvalidMoney, rfl, hd, T.kt_InvalidMoney_InvalidMoney, true, rfl, ?_⟩
      refine ⟨_, rfl, _, _, false, d, _, rfl, rfl, T.is_InvalidMoney, rfl, hd, T.kt_InvalidMoney_InvalidTime, _, rfl, ?_⟩
      exact ⟨_, rfl, rfl, rfl, d, _, _, rfl, hd, rfl, k H' s1⟩
    · have e : wd = "rules" := by
        rcases hc with hc | hc
        · omega
        · exact hc.2.2
      subst e
      intro d H' s1 hd
      refine ⟨true, T.em_InvalidMoney_SlotError, fun _ ae _ => ?_, fun z => nomatch z⟩
      refine ⟨_, rfl, _, _, true, d, _, rfl, rfl, T.is_InvalidMoney, rfl, hd, T.kt_InvalidMoney_InvalidMoney, true, rfl, ?_⟩
      refine ⟨_, rfl, _, _, false, d, _, rfl, rfl, T.is_InvalidMoney, rfl, hd, T.kt_InvalidMoney_InvalidTime, _, rfl, ?_⟩
      exact ⟨_, rfl, rfl, rfl, d, _, _, rfl, hd, rfl, k H' s1⟩
    · exfalso
      rcases hc with hc | hc
      · omega
      · rw [hc.2.1] at z2
        cases z2
theorem ok_c_law {P : Program} {w : World} {K : PySem.W.Frag} {mg : Str → Option Value} {base : Heap} {a : Ad} (T : Txt K mg a) : FnOk P w K mg base (L2.CX P w) 7 a.f_c_law a.d_c_law ["script"] (sp_c_law K) := by
  have G_c_law_changed : FnOk P w K mg base (L2.CX P w) 1 a.f_c_law_changed a.d_c_law_changed ["price", "rules"] (sp_c_law_changed K) := ok_c_law_changed T
  have G_c_law_deck : FnOk P w K mg base (L2.CX P w) 1 a.f_c_law_deck a.d_c_law_deck ["script", "cells", "each"] (sp_c_law_deck K) := ok_c_law_deck T
  have G_c_law_plain : FnOk P w K mg base (L2.CX P w) 5 a.f_c_law_plain a.d_c_law_plain ["value"] (sp_c_law_plain K 4) := ok_c_law_plain T
  have G_c_law_take : FnOk P w K mg base (L2.CX P w) 1 a.f_c_law_take a.d_c_law_take ["deck", "many"] (sp_c_law_take) := ok_c_law_take T
  have G_c_law_why : FnOk P w K mg base (L2.CX P w) 6 a.f_c_law_why a.d_c_law_why ["price", "rules"] (sp_c_law_why K) := ok_c_law_why T
  have G_c_changed_price : FnOk P w K mg base (L2.CX P w) 5 a.f_c_changed_price a.d_c_changed_price ["price", "rules"] (sp_c_changed_price K a.C_InvalidMoney) := ok_c_changed_price T
  refine T.F_c_law.okX sc_c_law (fun vs H Q E h => ?_) (fun cdv A outer s H vs Q E hr h => ?_)
  · walk_at "len"
  · obtain ⟨sa, ns, rfl, hS, hlen, k⟩ := h
    refine ⟨_, (pss_cons (ps_set (i := 1) sc_c_law.nd (by rfl) (Or.inl rfl) (pe_call G_c_law_deck (hr.mono (by decide)) (by rfl) T.m_c_law_deck T.F_c_law_deck.kp T.b_c_law_deck .nil passL (pa_cons (pv 0) (pa_cons pe_int (pa_cons pe_int pa_nil)))))
    (pss_cons (ps_set (i := 2) sc_c_law.nd (by rfl) (Or.inl rfl) (pe_call G_c_law_take (hr.mono (by decide)) (by rfl) T.m_c_law_take T.F_c_law_take.kp T.b_c_law_take .nil passL (pa_cons (pv 1) (pa_cons (pe_ix ix_list (pe_lst (pa_cons pe_int (pa_cons pe_int pa_nil))) (pe_call G_c_law_take (hr.mono (by decide)) (by rfl) T.m_c_law_take T.F_c_law_take.kp T.b_c_law_take .nil passL (pa_cons (pv 1) (pa_cons pe_int pa_nil))) (fun _ _ => rfl)) pa_nil))))
    (pss_cons (ps_set (i := 3) sc_c_law.nd (by rfl) (Or.inl rfl) (pe_lst pa_nil))
    (pss_cons (ps_for (passes_of rfl) rfl (pi_range1 (by rfl) T.n_range (pa_cons (pe_call G_c_law_take (hr.mono (by decide)) (by rfl) T.m_c_law_take T.F_c_law_take.kp T.b_c_law_take .nil passL (pa_cons (pv 1) (pa_cons pe_int pa_nil))) pa_nil)) (pg_name (i := 4) sc_c_law.nd (by rfl) (Or.inl rfl)) (pss_cons (ps_set (i := 5) sc_c_law.nd (by rfl) (Or.inl rfl) (pe_ix ix_list (pe_lst (pa_cons pe_str (pa_cons pe_str (pa_cons pe_str (pa_cons pe_str (pa_cons pe_str (pa_cons pe_str pa_nil))))))) (pe_call G_c_law_take (hr.mono (by decide)) (by rfl) T.m_c_law_take T.F_c_law_take.kp T.b_c_law_take .nil passL (pa_cons (pv 1) (pa_cons pe_int pa_nil))) (fun _ _ => rfl)))
    (Evl.pss_cut (ps_set (i := 6) sc_c_law.nd (by rfl) (Or.inl rfl) (pe_ifExp (pt_cmpR op_in_seq (pv 5) (pe_tup (pa_cons pe_str (pa_cons pe_str pa_nil))) (by rfl)) (pe_call G_c_law_take (hr.mono (by decide)) (by rfl) T.m_c_law_take T.F_c_law_take.kp T.b_c_law_take .nil passL (pa_cons (pv 1) (pa_cons pe_int pa_nil))) (pe_call G_c_law_take (hr.mono (by decide)) (by rfl) T.m_c_law_take T.F_c_law_take.kp T.b_c_law_take .nil passL (pa_cons (pv 1) (pa_cons pe_int pa_nil)))))
    (pss_one (ps_expr (pe_bm PySem.F.plainAttrs_list PySem.F.slot_list_append PySem.F.type_list_append mt_append (pv 3) (pa_cons (pe_tup (pa_cons (pv 5) (pa_cons (pe_ifExp (pt_cmpR op_eq (pv 5) pe_str (nomark _)) (pe_callB (call_min2 rfl) (by rfl) T.n_min (by decide +kernel) (pa_cons (pv 6) (pa_cons pe_int pa_nil))) (pv 6)) pa_nil))) pa_nil)))))))
    (pss_cons (ps_set (i := 7) sc_c_law.nd (by rfl) (Or.inl rfl) (pe_callTy call_list_of (by rfl) T.n_list (by decide +kernel) (pa_cons (pv 3) pa_nil)))
    (pss_cons (ps_set (i := 8) sc_c_law.nd (by rfl) (Or.inl rfl) (pe_call G_c_law_changed (hr.mono (by decide)) (by rfl) T.m_c_law_changed T.F_c_law_changed.kp T.b_c_law_changed .nil passL (pa_cons (pv 2) (pa_cons (pv 3) pa_nil))))
    (Evl.pss_cut (ps_if (PW.pt (pw_or (pt_cmpR (op_neD hr.units) (pe_call G_c_law_plain (hr.mono (by decide)) (by rfl) T.m_c_law_plain T.F_c_law_plain.kp T.b_c_law_plain .nil passL (pa_cons (pe_call G_c_changed_price (hr.mono (by decide)) (by rfl) T.m_c_changed_price T.F_c_changed_price.kp T.b_c_changed_price .nil passL (pa_cons (pv 2) (pa_cons (pv 7) pa_nil))) pa_nil)) (pe_call G_c_law_plain (hr.mono (by decide)) (by rfl) T.m_c_law_plain T.F_c_law_plain.kp T.b_c_law_plain .nil passL (pa_cons (pv 8) pa_nil)) (nomark _)) (pw_or (pt_cmpR (op_neD hr.units) (pv 7) (pv 3) (nomark _)) (pw_or1 (pt_cmpR op_lt (pv 8) pe_int (nomark _)))))) (pss_one (ps_ret pe_bl)) pss_nil)
    (pss_cons (ps_set (i := 9) sc_c_law.nd (by rfl) (Or.inl rfl) (pe_call G_c_law_take (hr.mono (by decide)) (by rfl) T.m_c_law_take T.F_c_law_take.kp T.b_c_law_take .nil passL (pa_cons (pv 1) (pa_cons (pe_op op_add (pe_callB call_len_seq (by rfl) T.n_len (by decide +kernel) (pa_cons (pv 3) pa_nil)) pe_int) pa_nil))))
    (Evl.pss_cut (ps_if (pt_cmpR op_ne (pe_call G_c_changed_price (hr.mono (by decide)) (by rfl) T.m_c_changed_price T.F_c_changed_price.kp T.b_c_changed_price .nil passL (pa_cons (pe_call G_c_changed_price (hr.mono (by decide)) (by rfl) T.m_c_changed_price T.F_c_changed_price.kp T.b_c_changed_price .nil passL (pa_cons (pv 2) (pa_cons (pe_slice sl_list (pv 3) po_none (po_some (pv 9))) pa_nil))) (pa_cons (pe_callTy call_tuple_of (by rfl) T.n_tuple (by decide +kernel) (pa_cons (pe_slice sl_list (pv 3) (po_some (pv 9)) po_none) pa_nil)) pa_nil))) (pv 8) (nomark _)) (pss_one (ps_ret pe_bl)) pss_nil)
    (pss_cons (ps_set (i := 10) sc_c_law.nd (by rfl) (Or.inl rfl) (pe_call G_c_law_take (hr.mono (by decide)) (by rfl) T.m_c_law_take T.F_c_law_take.kp T.b_c_law_take .nil passL (pa_cons (pv 1) (pa_cons pe_int pa_nil))))
    (pss_cons (ps_set (i := 11) sc_c_law.nd (by rfl) (Or.inl rfl) (pe_op op_add (pv 10) (pe_call G_c_law_take (hr.mono (by decide)) (by rfl) T.m_c_law_take T.F_c_law_take.kp T.b_c_law_take .nil passL (pa_cons (pv 1) (pa_cons pe_int pa_nil)))))
    (Evl.pss_cut (ps_if (pt_not (pt_chain op_le op_le (pv 10) (pe_call G_c_changed_price (hr.mono (by decide)) (by rfl) T.m_c_changed_price T.F_c_changed_price.kp T.b_c_changed_price .nil passL (pa_cons (pv 2) (pa_cons (pe_op op_cat (pv 3) (pe_lst (pa_cons (pe_tup (pa_cons pe_str (pa_cons (pv 10) pa_nil))) (pa_cons (pe_tup (pa_cons pe_str (pa_cons (pv 11) pa_nil))) pa_nil)))) pa_nil))) (pv 11))) (pss_one (ps_ret pe_bl)) pss_nil)
    (pss_cons (ps_set (i := 12) sc_c_law.nd (by rfl) (Or.inl rfl) (pe_lst (pa_cons (pe_call G_c_changed_price (hr.mono (by decide)) (by rfl) T.m_c_changed_price T.F_c_changed_price.kp T.b_c_changed_price .nil passL (pa_cons (pv 8) (pa_cons (pe_lst (pa_cons (pe_tup (pa_cons pe_str (pa_cons pe_int pa_nil))) pa_nil)) pa_nil))) (pa_cons (pe_call G_c_changed_price (hr.mono (by decide)) (by rfl) T.m_c_changed_price T.F_c_changed_price.kp T.b_c_changed_price .nil passL (pa_cons (pv 8) (pa_cons (pe_lst (pa_cons (pe_tup (pa_cons pe_str (pa_cons pe_int pa_nil))) pa_nil)) pa_nil))) (pa_cons (pe_call G_c_changed_price (hr.mono (by decide)) (by rfl) T.m_c_changed_price T.F_c_changed_price.kp T.b_c_changed_price .nil passL (pa_cons (pv 8) (pa_cons (pe_lst (pa_cons (pe_tup (pa_cons pe_str (pa_cons (pe_op op_add (pv 8) pe_int) pa_nil))) pa_nil)) pa_nil))) pa_nil)))))
    (Evl.pss_cut (ps_if (pt_cmpR (op_neD hr.units) (pe_call G_c_law_plain (hr.mono (by decide)) (by rfl) T.m_c_law_plain T.F_c_law_plain.kp T.b_c_law_plain .nil passL (pa_cons (pv 12) pa_nil)) (pe_call G_c_law_plain (hr.mono (by decide)) (by rfl) T.m_c_law_plain T.F_c_law_plain.kp T.b_c_law_plain .nil passL (pa_cons (pe_lst (pa_cons (pv 8) (pa_cons pe_int (pa_cons pe_int pa_nil)))) pa_nil)) (nomark _)) (pss_one (ps_ret pe_bl)) pss_nil)
    (pss_cons (ps_set (i := 13) sc_c_law.nd (by rfl) (Or.inl rfl) (pe_call G_c_law_take (hr.mono (by decide)) (by rfl) T.m_c_law_take T.F_c_law_take.kp T.b_c_law_take .nil passL (pa_cons (pv 1) (pa_cons pe_int pa_nil))))
    (pss_cons (ps_set (i := 14) sc_c_law.nd (by rfl) (Or.inl rfl) (pe_call G_c_changed_price (hr.mono (by decide)) (by rfl) T.m_c_changed_price T.F_c_changed_price.kp T.b_c_changed_price .nil passL (pa_cons (pv 8) (pa_cons (pe_lst (pa_cons (pe_tup (pa_cons pe_str (pa_cons (pv 13) pa_nil))) pa_nil)) pa_nil))))
    (Evl.pss_cut (ps_if (PW.pt (pw_or (pt_cmpR op_ne (pe_op op_mod (pe_callTy call_int1 (by rfl) T.n_int (by decide +kernel) (pa_cons (pv 14) pa_nil)) pe_int) (pv 13) (nomark _)) (pw_or (pt_cmpR op_ne (pe_call G_c_changed_price (hr.mono (by decide)) (by rfl) T.m_c_changed_price T.F_c_changed_price.kp T.b_c_changed_price .nil passL (pa_cons (pv 14) (pa_cons (pe_lst (pa_cons (pe_tup (pa_cons pe_str (pa_cons (pv 13) pa_nil))) pa_nil)) pa_nil))) (pv 14) (nomark _)) (pw_or1 (PW.pt (pw_and (pt_cmpR op_gt (pv 14) (pv 8) (nomark _)) (pw_and1 (pt_cmpR op_ge (pv 8) (pv 13) (nomark _))))))))) (pss_one (ps_ret pe_bl)) pss_nil)
    (pss_cons (ps_set (i := 15) sc_c_law.nd (by rfl) (Or.inl rfl) (pe_lst (pa_cons (pe_tup (pa_cons pe_str (pa_cons pe_int pa_nil))) (pa_cons (pe_tup (pa_cons pe_str (pa_cons (pe_un un_neg pe_int) pa_nil))) (pa_cons (pe_tup (pa_cons pe_str (pa_cons (pe_un un_neg pe_int) pa_nil))) (pa_cons (pe_tup (pa_cons pe_str (pa_cons pe_int pa_nil))) (pa_cons (pe_tup (pa_cons pe_str (pa_cons (pe_un un_neg pe_int) pa_nil))) (pa_cons (pe_tup (pa_cons pe_str (pa_cons pe_int pa_nil))) (pa_cons (pe_tup (pa_cons pe_str (pa_cons pe_int pa_nil))) (pa_cons (pe_tup (pa_cons pe_str (pa_cons (pe_un un_neg pe_int) pa_nil))) pa_nil))))))))))
    (pss_cons (ps_set (i := 16) sc_c_law.nd (by rfl) (Or.inl rfl) (pe_lst (pa_cons (pe_call G_c_law_why (hr.mono (by decide)) (by rfl) T.m_c_law_why T.F_c_law_why.kp T.b_c_law_why .nil passL (pa_cons (pe_un un_neg pe_int) (pa_cons (pe_lst (pa_cons (pe_tup (pa_cons pe_str (pa_cons pe_int pa_nil))) pa_nil)) pa_nil))) (pa_cons (pe_call G_c_law_why (hr.mono (by decide)) (by rfl) T.m_c_law_why T.F_c_law_why.kp T.b_c_law_why .nil passL (pa_cons pe_int (pa_cons (pe_op op_cat (pv 3) (pe_lst (pa_cons (pe_ix ix_list (pv 15) (pe_call G_c_law_take (hr.mono (by decide)) (by rfl) T.m_c_law_take T.F_c_law_take.kp T.b_c_law_take .nil passL (pa_cons (pv 1) (pa_cons pe_int pa_nil))) (fun _ _ => rfl)) pa_nil))) pa_nil))) (pa_cons (pe_call G_c_law_why (hr.mono (by decide)) (by rfl) T.m_c_law_why T.F_c_law_why.kp T.b_c_law_why .nil passL (pa_cons (pe_un un_neg pe_int) (pa_cons (pe_lst pa_nil) pa_nil))) pa_nil)))))
    (pss_one (ps_ret (pe_and (pe_cmpR (op_eqD hr.units) (pv 16) (pe_lst (pa_cons pe_str (pa_cons pe_str (pa_cons pe_str pa_nil)))) (nomark _)) (pe_one (pe_cmpR op_eq (pe_call G_c_changed_price (hr.mono (by decide)) (by rfl) T.m_c_changed_price T.F_c_changed_price.kp T.b_c_changed_price .nil passL (pa_cons (pv 2) (pa_cons (pe_lst pa_nil) pa_nil))) (pv 2) (nomark _))))))))))))))))))))))))), ?_⟩
    refine ⟨_, rfl, sa, ns, 30, 14, rfl, hS, by omega, by decide, by decide, by decide, by decide, fun D0 p H0 hp s0 hd0 => ?_⟩
    have K0 : Dk (fun _ => none) H0 p D0 := ⟨rfl, same_none, hd0⟩
    -- price
    refine ⟨_, rfl, by show 2 ≤ sizeLine; decide, fun l hl => ⟨_, rfl, ?_⟩⟩
    refine pick K0 hl [300, 20000] (by decide) fun m H1 hm K1 => ?_
    simp only [List.mem_cons, List.not_mem_nil, or_false] at hm
    refine take_q K1 (m := m) (by omega) fun pr H2 p0 p1 K2 => ?_
    -- rules
    refine ⟨by show 0 ≤ sizeLine; decide, fun lr hlr => ?_⟩
    have nlr : lr ≠ p := fun z => by rw [z, K2.hd] at hlr; cases hlr
    have K3 := K2.freeze.new (o := .lst []) hlr
    refine ⟨_, rfl, take_q K3 (by decide) fun tn H4 t0 t1 K4 => ?_⟩
    refine ⟨tn, rfl, by omega, by omega, for_range (lo := 0) (n := tn.toNat) (fun i σ H' => ∃ (v4 v5 v6 : Option V) (rs : List (Str × Int)) (acc : List V) (D : List Int), σ = [some (.ref sa), some (.ref p), some (.int pr), some (.ref lr), v4, v5, v6, none, none, none, none, none, none, none, none, none, none] ∧
      H' p = some (dk D) ∧ H' lr = some (.lst acc) ∧ DNs (fun b => b ≠ p ∧ b ≠ lr) H' acc (rs.map ruleD) ∧ rulesOk rs = true ∧ (∀ r ∈ rs, r.2 ≤ 2000) ∧ rs.length = i) ⟨_, _, _, [], [], _, rfl, K4.hd, K4.sm _ _ upd_same, .nil, rfl, (fun r hr => by cases hr), rfl⟩ ?_ ?_⟩
    · rintro i σ H5 hi ⟨v4, v5, v6, rs, acc, D, rfl, hdk, hac, hdn, hok, hle, hrl⟩
      have K5 : Dk (del H5 p) H5 p D := ⟨del_same, fun _ _ e => (del_of e).1, hdk⟩
      refine ⟨by show 6 ≤ sizeLine; decide, fun l hl => ⟨_, rfl, ?_⟩⟩
      refine pickV K5 hl kindsV (by decide) fun z H6 hz K6 => ?_
      have hkd : ∃ kd, z = .str kd ∧ inV (.str kd) kindsV = true := by
        simp only [kindsV, List.mem_cons, List.not_mem_nil, or_false] at hz
        rcases hz with rfl | rfl | rfl | rfl | rfl | rfl <;> exact ⟨_, rfl, by decide +kernel⟩
      obtain ⟨kd, rfl, hkd⟩ := hkd
      refine ⟨fun σ H' => ∃ (n : Int) (D' : List Int), σ = [some (.ref sa), some (.ref p), some (.int pr), some (.ref lr), some (.int (0 + (i : Int))), some (.str kd), some (.int n), none, none, none, none, none, none, none, none, none, none] ∧ Dk (del H5 p) H' p D' ∧ 0 ≤ n ∧ n ≤ 2000 ∧ (kd = "percent" → n ≤ 100), ?_, ?_⟩
      · refine ⟨_, rfl, by show 2 ≤ sizeLine; decide, fun q hq => ?_⟩
        have K7 := K6.same (Same.new (o := .tup [.str "percent", .str "ending"]) hq)
        refine ⟨q, _, rfl, .inr (SqT.of upd_same), rfl, rfl, _, rfl, ?_⟩
        refine ite2 (fun c => ?_) (fun c => ?_)
        · refine ⟨_, rfl, take_q K7 (by decide) fun n H8 n0 n1 K8 => ?_⟩
          exact ⟨n, _, rfl, K8, n0, by omega, fun _ => by omega⟩
        · refine ⟨_, rfl, take_q K7 (by decide) fun n H8 n0 n1 K8 => ?_⟩
          refine ⟨n, _, rfl, K8, n0, by omega, fun z => absurd ?_ c⟩
          rw [z]
          decide +kernel
      rintro σ H7 ⟨n, D', rfl, K7, n0, n1, n2⟩
      refine ⟨_, rfl, .inl ⟨rfl, _, SqL.of (K7.get nlr hac)⟩, ?_⟩
      have fin : ∀ (n' : Int) (q : Addr), H7 q = none → 0 ≤ n' → n' ≤ 2000 → ruleOk (kd, n') = true → ∃ l xs y, V.ref lr = .ref l ∧ [V.ref q] = [y] ∧ upd H7 q (.tup [.str kd, .int n']) l = some (.lst xs) ∧ xs.length < sizeLine ∧
          ∃ (v4 v5 v6 : Option V) (rs : List (Str × Int)) (acc : List V) (D : List Int), [some (V.ref sa), some (.ref p), some (.int pr), some (.ref lr), some (.int (0 + (i : Int))), some (.str kd), some (.int n), none, none, none, none, none, none, none, none, none, none] = [some (.ref sa), some (.ref p), some (.int pr), some (.ref lr), v4, v5, v6, none, none, none, none, none, none, none, none, none, none] ∧
            upd (upd H7 q (.tup [.str kd, .int n'])) l (.lst (xs ++ [y])) p = some (dk D) ∧ upd (upd H7 q (.tup [.str kd, .int n'])) l (.lst (xs ++ [y])) lr = some (.lst acc) ∧ DNs (fun b => b ≠ p ∧ b ≠ lr) (upd (upd H7 q (.tup [.str kd, .int n'])) l (.lst (xs ++ [y]))) acc (rs.map ruleD) ∧ rulesOk rs = true ∧ (∀ r ∈ rs, r.2 ≤ 2000) ∧ rs.length = i + 1 := by
        intro n' q hq m0 m1 mo
        have nq : q ≠ p := fun z => by rw [z, K7.hd] at hq; cases hq
        have nq2 : q ≠ lr := fun z => by rw [z, K7.get nlr hac] at hq; cases hq
        have hacl : acc.length = i := by rw [DNs.length hdn, List.length_map, hrl]
        refine ⟨lr, acc, .ref q, rfl, rfl, by rw [upd_ne nq2.symm]; exact K7.get nlr hac, small1000000 (by omega), _, _, _, rs ++ [(kd, n')], acc ++ [.ref q], D', rfl, ?_, upd_same, ?_, ?_, ?_, by simp [hrl]⟩
        · rw [upd_ne nlr.symm, upd_ne nq.symm]
          exact K7.hd
        · rw [List.map_append]
          refine DNs.snoc (.tup ⟨nq, nq2⟩ (by rw [upd_ne nq2, upd_same]) (.cons (.str _) (.cons (.int _) .nil))) (DNs.mono (fun _ z => z) (fun b o hb e => ?_) _ _ (hdn.on K7 (fun b hb => hb.1)))
          rw [upd_ne hb.2, upd_ne (ne_of_none e hq)]
          exact e
        · simp only [rulesOk, List.all_append, List.all_cons, List.all_nil, Bool.and_true, Bool.and_eq_true]
          exact ⟨hok, mo⟩
        · intro r hr
          rcases List.mem_append.mp hr with h | h
          · exact hle r h
          · rw [List.mem_singleton] at h
            rw [h]
            exact m1
      refine ⟨_, rfl, ?_⟩
      refine ⟨_, rfl, rfl, _, rfl, ?_⟩
      refine ite2 (fun c => ?_) (fun c => ?_)
      · have ce : kd = "ending" := V.str.inj (of_decide_eq_true c)
        refine ⟨_, rfl, _, _, rfl, by show 2 ≤ sizeLine; decide, fun q hq => ?_⟩
        refine fin _ q hq ?_ ?_ (ruleOk_iff.mpr ⟨hkd, fun z => absurd (ce.symm.trans z) (by decide +kernel), ?_, fun _ => ?_⟩)
        all_goals
          show _ ≤ _
          split <;> omega
      · refine ⟨_, rfl, by show 2 ≤ sizeLine; decide, fun q hq => ?_⟩
        exact fin n q hq n0 n1 (ruleOk_iff.mpr ⟨hkd, fun z => ⟨n0, n2 z⟩, n0, fun z => absurd (decide_eq_true (congrArg V.str z)) c⟩)
    · rintro σ H5 ⟨v4, v5, v6, rs, acc, D, rfl, hdk, hac, hdn, hok, hle, hrl⟩
      have hacl : acc.length = rs.length := by rw [DNs.length hdn, List.length_map]
      have hl5 : rs.length ≤ 5 := by omega
      have hR : DpAll K (del H5 p) acc (rs.map ruleD) := hdn.frozen (fun b hb => hb.1)
      have hL : (del H5 p) lr = some (.lst acc) := del_some hac nlr
      have K5 : Dk (del H5 p) H5 p D := ⟨del_same, fun _ _ e => (del_of e).1, hdk⟩
      have hok2 := ok_rules hok (by omega)
      have due0 := chg_nonneg p0 hok
      generalize del H5 p = G at hR hL K5
      refine ⟨_, rfl, lr, acc, rfl, .inl (SqL.of (K5.sm _ _ hL)), fun l1 hl1 => ?_⟩
      have K6 := K5.new (o := .lst acc) hl1
      have s6 : Same G (upd G l1 (.lst acc)) := Same.new (K5.fresh hl1)
      have hR6 := dpAll_same s6 _ _ hR
      have hRu : Dp K (upd G l1 (.lst acc)) (.ref lr) (.list (rs.map ruleD)) := .lst (SqL.of (s6 _ _ hL)) hR6
      have hHa : Dp K (upd G l1 (.lst acc)) (.ref l1) (.list (rs.map ruleD)) := .lst (SqL.of upd_same) hR6
      have hL6 := s6 _ _ hL
      generalize upd G l1 (.lst acc) = G1 at K6 hR6 hRu hHa hL6
      refine ⟨_, rfl, _, rfl, sp_c_law_changed_use ⟨pr, .ref lr, rs, rfl, dp_same K6.sm _ _ hRu, p0, by omega, hok, by omega, fun r hr => by have := hle r hr; omega, fun H7 s7 => ?_⟩⟩
      have K7 := K6.same s7
      have hcp : ∀ {q : Int} {v : V} {isL : Bool} {qs : List (Str × Int)} {H : Hp} {Q : VK}, 0 ≤ q → rulesOk qs = true → Dp K H v (seqD isL (qs.map ruleD)) → (∀ H', Same H H' → Q (.int (chg q qs)) H') → sp_c_changed_price K a.C_InvalidMoney [.int q, v] H Q E0 := fun h1 h2 h3 k => sp_c_changed_price_use ⟨_, _, _, _, rfl, h3, fun z => absurd z (by omega), fun _ z => absurd (h2.symm.trans z) (by decide), fun _ _ => k⟩
      generalize hdue : chg pr rs = due at *
      -- what is changed
      refine ⟨fun σ H' => σ = [some (.ref sa), some (.ref p), some (.int pr), some (.ref lr), v4, v5, v6, some (.ref l1), some (.int due), none, none, none, none, none, none, none, none] ∧ Dk G1 H' p D, ?_, ?_⟩
      · refine ⟨_, rfl, _, rfl, hcp (isL := true) p0 hok (dp_same K7.sm _ _ hHa) fun H8 s8 => ?_⟩
        rw [hdue]
        refine ⟨.int due, .int due, rfl, .int _, by simp [okD], fun v9 H9 s9 dn9 => ?_⟩
        refine ⟨_, rfl, .int due, .int due, rfl, .int _, by simp [okD], fun v10 H10 s10 dn10 => ?_⟩
        have K10 := ((K7.same s8).same s9).same s10
        refine plain_test 4 dn9 s10 dn10 (by simp [okD]) (by decide) ?_
        refine ⟨_, rfl, _, rfl, data_same (dp_same K10.sm _ _ hHa) (dp_same K10.sm _ _ hRu) (okD_x 2 _ hok2) (by decide) ⟨_, rfl, ?_⟩⟩
        refine ⟨_, rfl, _, _, rfl, rfl, _, rfl, ?_⟩
        refine ite2 (fun c => absurd (of_decide_eq_true c) (by omega)) (fun c => ?_)
        exact ⟨rfl, K10⟩
      rintro σ H8 ⟨rfl, K8⟩
      -- one part behind the other
      refine ⟨_, rfl, _, rfl, lr, acc, rfl, .inl (SqL.of (K8.sm _ _ hL6)), _, _, rfl, rfl, ?_⟩
      refine take_q K8 (by omega) fun ct H9 c0 c1 K9 => ?_
      obtain ⟨cut, rfl⟩ : ∃ n : Nat, ct = (n : Int) := ⟨ct.toNat, by omega⟩
      have hcut : chg (chg pr (rs.take cut)) (rs.drop cut) = due := by rw [← chg_app, List.take_append_drop]; exact hdue
      have hokT : rulesOk (rs.take cut) = true := List.all_eq_true.mpr fun r hr => List.all_eq_true.mp hok r (List.mem_of_mem_take hr)
      have hokU : rulesOk (rs.drop cut) = true := List.all_eq_true.mpr fun r hr => List.all_eq_true.mp hok r (List.mem_of_mem_drop hr)
      refine ⟨fun σ H' => σ = [some (.ref sa), some (.ref p), some (.int pr), some (.ref lr), v4, v5, v6, some (.ref l1), some (.int due), some (.int cut), none, none, none, none, none, none, none] ∧ Dk G1 H' p D.tail, ?_, ?_⟩
      · refine ⟨_, rfl, _, rfl, _, rfl, _, rfl, lr, acc, rfl, SqL.of (K9.sm _ _ hL6), fun q1 hq1 => ?_⟩
        rw [cut_front (by omega) (by omega), Int.toNat_natCast]
        have K10 := K9.new (o := .lst (acc.take cut)) hq1
        have sA : Same G1 (upd G1 q1 (.lst (acc.take cut))) := Same.new (K9.fresh hq1)
        have hT : Dp K (upd G1 q1 (.lst (acc.take cut))) (.ref q1) (.list ((rs.take cut).map ruleD)) := .lst (SqL.of upd_same) (by rw [List.map_take]; exact dpAll_take _ (dpAll_same sA _ _ hR6))
        have hR10 := dpAll_same sA _ _ hR6
        have hL10 := sA _ _ hL6
        generalize upd G1 q1 (.lst (acc.take cut)) = G2 at K10 sA hT hR10 hL10
        refine hcp (isL := true) p0 hokT (dp_same K10.sm _ _ hT) fun H11 s11 => ?_
        have K11 := K10.same s11
        refine ⟨_, rfl, _, rfl, _, rfl, lr, acc, rfl, SqL.of (K11.sm _ _ hL10), fun q2 hq2 => ?_⟩
        rw [cut_back (by omega) (by omega), Int.toNat_natCast]
        refine ⟨q2, _, rfl, .inl ⟨SqL.of upd_same, fun q3 hq3 => ?_⟩⟩
        have K12 := K11.same (Same.new (o := .lst (acc.drop cut)) hq2)
        have K13 := K12.same (Same.new (o := .tup (acc.drop cut)) hq3)
        refine hcp (isL := false) (chg_nonneg p0 hokT) hokU (.tup (SqT.of upd_same) (by rw [List.map_drop]; exact dpAll_drop _ (dpAll_same K13.sm _ _ hR10))) fun H14 s14 => ?_
        rw [hcut]
        exact ⟨_, rfl, rfl, false, by simp, rfl, (K13.same s14).keep K9.nd (sA.trans (K13.same s14).sm)⟩
      rintro σ H15 ⟨rfl, K15⟩
      -- the bounds
      refine ⟨_, rfl, take_q K15 (by decide) fun lo H16 lo0 lo1 K16 => ?_⟩
      refine ⟨_, rfl, _, rfl, take_q K16 (by decide) fun hi H17 hi0 hi1 K17 => ?_⟩
      refine ⟨_, _, rfl, rfl, ?_⟩
      refine ⟨fun σ H' => σ = [some (.ref sa), some (.ref p), some (.int pr), some (.ref lr), v4, v5, v6, some (.ref l1), some (.int due), some (.int cut), some (.int lo), some (.int (lo + hi)), none, none, none, none, none] ∧ Dk G1 H' p D.tail.tail.tail, ?_, ?_⟩
      · refine ⟨_, rfl, _, rfl, _, rfl, _, rfl, by show 2 ≤ sizeLine; decide, fun q1 hq1 => ⟨_, rfl, by show 2 ≤ sizeLine; decide, fun q2 hq2 => ⟨by show 2 ≤ sizeLine; decide, fun q3 hq3 => ?_⟩⟩⟩
        have M1 := Same.new (o := .tup [.str "least", .int lo]) hq1
        have M2 := Same.new (o := .tup [.str "most", .int (lo + hi)]) hq2
        have M3 := Same.new (o := .lst [.ref q1, .ref q2]) hq3
        have K20 := ((K17.same M1).same M2).same M3
        refine ⟨lr, q3, acc, [.ref q1, .ref q2], rfl, rfl, K20.sm _ _ hL6, upd_same, Nat.le_of_lt (small1000000 (by simp only [List.length_cons, List.length_nil]; omega)), fun q4 hq4 => ?_⟩
        have M4 := Same.new (o := .lst (acc ++ [.ref q1, .ref q2])) hq4
        have K21 := K20.same M4
        refine hcp (isL := true) (qs := rs ++ ([("least", lo), ("most", lo + hi)] : List (Str × Int))) p0 ?_ (.lst (SqL.of upd_same) ?_) fun H22 s22 => ?_
        · refine List.all_eq_true.mpr fun r hr => ?_
          rcases List.mem_append.mp hr with h | h
          · exact List.all_eq_true.mp hok r h
          · simp only [List.mem_cons, List.not_mem_nil, or_false] at h
            rcases h with rfl | rfl
            · exact ok_plain (by decide +kernel) (by decide +kernel) (by decide +kernel) lo0
            · exact ok_plain (by decide +kernel) (by decide +kernel) (by decide +kernel) (by omega)
        · rw [List.map_append]
          refine dpAll_app (dpAll_same K21.sm _ _ hR6) (.cons ?_ (.cons ?_ .nil))
          · exact dp_same ((M2.trans M3).trans M4) _ _ (.tup (SqT.of upd_same) (.cons (.str _) (.cons (.int _) .nil)))
          · exact dp_same (M3.trans M4) _ _ (.tup (SqT.of upd_same) (.cons (.str _) (.cons (.int _) .nil)))
        rw [chg_app, hdue]
        obtain ⟨b1, b2⟩ := chg_bounds (p := due) (lo := lo) (hi := lo + hi) (by omega)
        refine ⟨_, _, rfl, rfl, _, rfl, ?_⟩
        rw [if_pos (decide_eq_true b1)]
        refine ⟨_, rfl, _, _, rfl, rfl, _, rfl, ?_⟩
        rw [decide_eq_true b2]
        exact ⟨rfl, K21.same s22⟩
      rintro σ H18 ⟨rfl, K18⟩
      -- what is told
      have dd : Nat := 0
      refine ⟨_, rfl, by show 2 ≤ sizeLine; decide, fun t1 ht1 => ⟨by show 1 ≤ sizeLine; decide, fun la hla => ?_⟩⟩
      have K19 := (K18.same (Same.new (o := .tup [.str "percent", .int 0]) ht1)).same (Same.new (o := .lst [.ref t1]) hla)
      refine hcp (isL := true) (qs := [("percent", 0)]) due0 (by decide +kernel) (lit1 (Same.new hla _ _ upd_same) upd_same) fun H20 s20 => ?_
      have K20 := K19.same s20
      refine ⟨_, rfl, by show 2 ≤ sizeLine; decide, fun t2 ht2 => ⟨by show 1 ≤ sizeLine; decide, fun l2 hl2 => ?_⟩⟩
      have K21 := (K20.same (Same.new (o := .tup [.str "percent", .int 100]) ht2)).same (Same.new (o := .lst [.ref t2]) hl2)
      refine hcp (isL := true) (qs := [("percent", 100)]) due0 (by decide +kernel) (lit1 (Same.new hl2 _ _ upd_same) upd_same) fun H22 s22 => ?_
      have K22 := K21.same s22
      refine ⟨_, rfl, _, rfl, _, _, rfl, rfl, by show 2 ≤ sizeLine; decide, fun t3 ht3 => ⟨by show 1 ≤ sizeLine; decide, fun l3 hl3 => ?_⟩⟩
      have K23 := (K22.same (Same.new (o := .tup [.str "minus", .int (due + 5)]) ht3)).same (Same.new (o := .lst [.ref t3]) hl3)
      refine hcp (isL := true) (qs := [("minus", due + 5)]) due0 (by rw [rulesOk, List.all_cons, ok_plain (by decide +kernel) (by decide +kernel) (by decide +kernel) (by omega)]; rfl) (lit1 (Same.new hl3 _ _ upd_same) upd_same) fun H24 s24 => ?_
      have K24 := K23.same s24
      have e1 : chg due [("percent", 0)] = due := by rw [chg_percent, Int.mul_zero, hu_zero (by decide)]; omega
      have e2 : chg due [("percent", 100)] = 0 := by rw [chg_percent, hu_all]; omega
      have e3 : chg due [("minus", due + 5)] = 0 := by rw [chg_minus]; split <;> omega
      rw [e1, e2, e3]
      refine ⟨by show 3 ≤ sizeLine; decide, fun lt hlt => ?_⟩
      have K25 := K24.same (Same.new (o := .lst ([due, 0, 0].map V.int)) hlt)
      refine ⟨fun σ H' => σ = [some (.ref sa), some (.ref p), some (.int pr), some (.ref lr), v4, v5, v6, some (.ref l1), some (.int due), some (.int cut), some (.int lo), some (.int (lo + hi)), some (.ref lt), none, none, none, none] ∧ Dk G1 H' p D.tail.tail.tail, ?_, ?_⟩
      · refine ⟨_, rfl, .ref lt, _, rfl, dp_ints (ns := [due, 0, 0]) (SqL.of upd_same), ok_ints (by show 3 ≤ 1000; decide), fun v26 H26 s26 dn26 => ?_⟩
        have K26 := K25.same s26
        refine ⟨_, rfl, by show 3 ≤ sizeLine; decide, fun l27 hl27 => ?_⟩
        refine ⟨.ref l27, _, rfl, dp_ints (ns := [due, 0, 0]) (SqL.of upd_same), ok_ints (by show 3 ≤ 1000; decide), fun v28 H28 s28 dn28 => ?_⟩
        exact plain_test 4 dn26 ((Same.new hl27).trans s28) dn28 (ok_ints (by show 3 ≤ 1000; decide)) (by decide) ⟨rfl, (K26.same (Same.new hl27)).same s28⟩
      rintro σ H29 ⟨rfl, K29⟩
      -- the endings
      refine ⟨_, rfl, take_q K29 (by decide) fun en H30 en0 en1 K30 => ?_⟩
      refine ⟨_, rfl, _, rfl, by show 2 ≤ sizeLine; decide, fun t4 ht4 => ⟨by show 1 ≤ sizeLine; decide, fun l4 hl4 => ?_⟩⟩
      have K31 := (K30.same (Same.new (o := .tup [.str "ending", .int en]) ht4)).same (Same.new (o := .lst [.ref t4]) hl4)
      have hen : rulesOk [("ending", en)] = true := by
        rw [rulesOk, List.all_cons, ruleOk_iff.mpr ⟨show inV (.str "ending") kindsV = true from by decide +kernel, fun z => absurd z (by dsimp only; decide +kernel), en0, fun _ => by dsimp only; omega⟩]
        rfl
      refine hcp (isL := true) (qs := [("ending", en)]) due0 hen (lit1 (Same.new hl4 _ _ upd_same) upd_same) fun H32 s32 => ?_
      have K32 := K31.same s32
      obtain ⟨q, hq⟩ : ∃ q, q = chg due [("ending", en)] := ⟨_, rfl⟩
      obtain ⟨w1, w2, w3, w4⟩ := end_facts due0 en0 (by omega) hq
      rw [← hq]
      refine ⟨fun σ H' => σ = [some (.ref sa), some (.ref p), some (.int pr), some (.ref lr), v4, v5, v6, some (.ref l1), some (.int due), some (.int cut), some (.int lo), some (.int (lo + hi)), some (.ref lt), some (.int en), some (.int q), none, none] ∧ Dk G1 H' p D.tail.tail.tail.tail, ?_, ?_⟩
      · refine ⟨_, rfl, .inl ⟨q, rfl, _, _, rfl, rfl, (by show (0 : Int) < 100; decide), _, rfl, rfl, false, by simp [w2], ?_⟩⟩
        refine ⟨_, rfl, _, rfl, by show 2 ≤ sizeLine; decide, fun t5 ht5 => ⟨by show 1 ≤ sizeLine; decide, fun l5 hl5 => ?_⟩⟩
        have K33 := (K32.same (Same.new (o := .tup [.str "ending", .int en]) ht5)).same (Same.new (o := .lst [.ref t5]) hl5)
        refine hcp (isL := true) (qs := [("ending", en)]) w1 hen (lit1 (Same.new hl5 _ _ upd_same) upd_same) fun H34 s34 => ?_
        have K34 := K33.same s34
        rw [w3]
        refine ⟨_, rfl, rfl, false, by simp, ?_⟩
        refine ⟨_, rfl, _, rfl, _, _, rfl, rfl, _, rfl, ?_⟩
        refine ite2 (fun c => ?_) (fun _ => ⟨rfl, K34⟩)
        have := w4 (of_decide_eq_true c)
        exact ⟨_, rfl, _, rfl, _, _, rfl, rfl, false, congrArg V.bl (decide_eq_false (by omega)), rfl, K34⟩
      rintro σ H33 ⟨rfl, K33⟩
      -- what is refused
      refine ⟨by show 2 ≤ sizeLine; decide, fun b1 hb1 => ?_⟩
      have B1 := K33.new (o := .tup [.str "percent", .int 101]) hb1
      refine ⟨_, rfl, by show 2 ≤ sizeLine; decide, fun b2 hb2 => ?_⟩
      have B2 := B1.new (o := .tup [.str "percent", .int (-1)]) hb2
      refine ⟨_, rfl, by show 2 ≤ sizeLine; decide, fun b3 hb3 => ?_⟩
      have B3 := B2.new (o := .tup [.str "minus", .int (-1)]) hb3
      refine ⟨by show 2 ≤ sizeLine; decide, fun b4 hb4 => ?_⟩
      have B4 := B3.new (o := .tup [.str "ending", .int 100]) hb4
      refine ⟨_, rfl, by show 2 ≤ sizeLine; decide, fun b5 hb5 => ?_⟩
      have B5 := B4.new (o := .tup [.str "least", .int (-5)]) hb5
      refine ⟨by show 2 ≤ sizeLine; decide, fun b6 hb6 => ?_⟩
      have B6 := B5.new (o := .tup [.str "half", .int 3]) hb6
      refine ⟨by show 2 ≤ sizeLine; decide, fun b7 hb7 => ?_⟩
      have B7 := B6.new (o := .tup [.str "Percent", .int 3]) hb7
      refine ⟨_, rfl, by show 2 ≤ sizeLine; decide, fun b8 hb8 => ?_⟩
      have B8 := B7.new (o := .tup [.str "plus", .int (-1)]) hb8
      have S7 := Same.new (o := .tup [.str "plus", .int (-1)]) (B7.fresh hb8)
      have S6 := (Same.new (o := .tup [.str "Percent", .int 3]) (B6.fresh hb7)).trans S7
      have S5 := (Same.new (o := .tup [.str "half", .int 3]) (B5.fresh hb6)).trans S6
      have S4 := (Same.new (o := .tup [.str "least", .int (-5)]) (B4.fresh hb5)).trans S5
      have S3 := (Same.new (o := .tup [.str "ending", .int 100]) (B3.fresh hb4)).trans S4
      have S2 := (Same.new (o := .tup [.str "minus", .int (-1)]) (B2.fresh hb3)).trans S3
      have S1 := (Same.new (o := .tup [.str "percent", .int (-1)]) (B1.fresh hb2)).trans S2
      have f1 := S1 _ _ upd_same
      have f2 := S2 _ _ upd_same
      have f3 := S3 _ _ upd_same
      have f4 := S4 _ _ upd_same
      have f5 := S5 _ _ upd_same
      have f6 := S6 _ _ upd_same
      have f7 := S7 _ _ upd_same
      have f8 : (upd (upd (upd (upd (upd (upd (upd (upd (G1) b1 (.tup [.str "percent", .int 101])) b2 (.tup [.str "percent", .int (-1)])) b3 (.tup [.str "minus", .int (-1)])) b4 (.tup [.str "ending", .int 100])) b5 (.tup [.str "least", .int (-5)])) b6 (.tup [.str "half", .int 3])) b7 (.tup [.str "Percent", .int 3])) b8 (.tup [.str "plus", .int (-1)]) : Hp) b8 = some (.tup [.str "plus", .int (-1)]) := upd_same
      have S0 : Same G1 (upd (upd (upd (upd (upd (upd (upd (upd (G1) b1 (.tup [.str "percent", .int 101])) b2 (.tup [.str "percent", .int (-1)])) b3 (.tup [.str "minus", .int (-1)])) b4 (.tup [.str "ending", .int 100])) b5 (.tup [.str "least", .int (-5)])) b6 (.tup [.str "half", .int 3])) b7 (.tup [.str "Percent", .int 3])) b8 (.tup [.str "plus", .int (-1)])) := (Same.new (K33.fresh hb1)).trans S1
      generalize (upd (upd (upd (upd (upd (upd (upd (upd (G1) b1 (.tup [.str "percent", .int 101])) b2 (.tup [.str "percent", .int (-1)])) b3 (.tup [.str "minus", .int (-1)])) b4 (.tup [.str "ending", .int 100])) b5 (.tup [.str "least", .int (-5)])) b6 (.tup [.str "half", .int 3])) b7 (.tup [.str "Percent", .int 3])) b8 (.tup [.str "plus", .int (-1)]) : Hp) = G9 at B8 S0 f1 f2 f3 f4 f5 f6 f7 f8
      have hbad : DpAll K G9 [.ref b1, .ref b2, .ref b3, .ref b4, .ref b5, .ref b6, .ref b7, .ref b8] (badR.map ruleD) := .cons (.tup (SqT.of f1) (.cons (.str _) (.cons (.int _) .nil))) (.cons (.tup (SqT.of f2) (.cons (.str _) (.cons (.int _) .nil))) (.cons (.tup (SqT.of f3) (.cons (.str _) (.cons (.int _) .nil))) (.cons (.tup (SqT.of f4) (.cons (.str _) (.cons (.int _) .nil))) (.cons (.tup (SqT.of f5) (.cons (.str _) (.cons (.int _) .nil))) (.cons (.tup (SqT.of f6) (.cons (.str _) (.cons (.int _) .nil))) (.cons (.tup (SqT.of f7) (.cons (.str _) (.cons (.int _) .nil))) (.cons (.tup (SqT.of f8) (.cons (.str _) (.cons (.int _) .nil))) (.nil))))))))
      refine ⟨by show 8 ≤ sizeLine; decide, fun lb hlb => ?_⟩
      have K34 := B8.new (o := .lst [.ref b1, .ref b2, .ref b3, .ref b4, .ref b5, .ref b6, .ref b7, .ref b8]) hlb
      have SS := Same.new (o := .lst [.ref b1, .ref b2, .ref b3, .ref b4, .ref b5, .ref b6, .ref b7, .ref b8]) (B8.fresh hlb)
      have hLb : (upd G9 lb (.lst [.ref b1, .ref b2, .ref b3, .ref b4, .ref b5, .ref b6, .ref b7, .ref b8]) : Hp) lb = _ := upd_same
      have hbad := dpAll_same SS _ _ hbad
      have S0 := S0.trans SS
      generalize (upd G9 lb (.lst [.ref b1, .ref b2, .ref b3, .ref b4, .ref b5, .ref b6, .ref b7, .ref b8]) : Hp) = G10 at K34 hLb hbad S0
      have hwhy : ∀ {q : Int} {v : V} {qs : List (Str × Int)} {wd : Str} {H : Hp} {Q : VK}, ((q < 0 ∧ wd = "price") ∨ (0 ≤ q ∧ rulesOk qs = false ∧ wd = "rules")) → Dp K H v (.list (qs.map ruleD)) → (∀ H', Same H H' → Q (.str wd) H') → sp_c_law_why K [.int q, v] H Q E0 := fun h1 h2 k => sp_c_law_why_use ⟨_, _, true, _, _, rfl, h2, h1, k⟩
      refine ⟨_, rfl, by show 2 ≤ sizeLine; decide, fun t1 ht1 => ⟨by show 1 ≤ sizeLine; decide, fun la hla => ?_⟩⟩
      have K35 := (K34.same (Same.new (o := .tup [.str "half", .int 3]) ht1)).same (Same.new (o := .lst [.ref t1]) hla)
      refine hwhy (qs := [("half", 3)]) (.inl ⟨by decide, rfl⟩) (lit1 (Same.new hla _ _ upd_same) upd_same) fun H36 s36 => ?_
      have K36 := K35.same s36
      refine ⟨_, rfl, _, rfl, _, rfl, take_q K36 (by decide) fun bi H37 bi0 bi1 K37 => ?_⟩
      obtain ⟨bj, rfl⟩ : ∃ n : Nat, bi = (n : Int) := ⟨bi.toNat, by omega⟩
      have hbj : bj < badR.length := by show bj < 8; omega
      have hlen8 : ∀ {xs : List V}, DpAll K G10 xs (badR.map ruleD) → ∃ v r, xs[bj]? = some v ∧ Dp K G10 v (ruleD r) ∧ ruleOk r = false := by
        intro xs hx
        have hl : xs.length = badR.length := by rw [dpAll_length hx, List.length_map]
        have hv := List.getElem?_eq_getElem (l := xs) (i := bj) (by omega)
        obtain ⟨d, h1, h2⟩ := dpAll_get hx hv
        obtain ⟨r, h3, rfl⟩ := get_ruleD h1
        exact ⟨_, r, hv, h2, badR_no r (List.mem_of_getElem? h3)⟩
      obtain ⟨bv, br, hbv, hbd, hbo⟩ := hlen8 hbad
      refine ⟨lb, _, _, bv, rfl, rfl, SqL.of (K37.sm _ _ hLb), atI_nat hbv, by show 1 ≤ sizeLine; decide, fun lc hlc => ?_⟩
      have K38 := K37.same (Same.new (o := .lst [bv]) hlc)
      refine ⟨lr, lc, acc, [bv], rfl, rfl, K38.sm _ _ (S0 _ _ hL6), upd_same, Nat.le_of_lt (small1000000 (by simp only [List.length_cons, List.length_nil]; omega)), fun ld hld => ?_⟩
      have K39 := K38.same (Same.new (o := .lst (acc ++ [bv])) hld)
      refine hwhy (qs := rs ++ [br]) (.inr ⟨by decide, rs_bad hbo, rfl⟩) (.lst (SqL.of upd_same) ?_) fun H40 s40 => ?_
      · rw [List.map_append]
        exact dpAll_app (dpAll_same (S0.trans K39.sm) _ _ hR6) (.cons (dp_same K39.sm _ _ hbd) .nil)
      have K40 := K39.same s40
      refine ⟨_, rfl, by show 0 ≤ sizeLine; decide, fun le hle0 => ?_⟩
      have K41 := K40.same (Same.new (o := .lst []) hle0)
      refine hwhy (qs := []) (.inl ⟨by decide, rfl⟩) (.lst (SqL.of upd_same) .nil) fun H42 s42 => ?_
      have K42 := K41.same s42
      refine ⟨by show 3 ≤ sizeLine; decide, fun lans hlans => ?_⟩
      refine ⟨_, rfl, by show 3 ≤ sizeLine; decide, fun lan2 hlan2 => ?_⟩
      have nn : lans ≠ lan2 := fun z => by rw [z, upd_same] at hlan2; cases hlan2
      refine data_eq (d := .list [.str "price", .str "rules", .str "price"]) (.lst (SqL.of (by rw [upd_ne nn]; exact upd_same)) (.cons (.str _) (.cons (.str _) (.cons (.str _) .nil)))) (.lst (SqL.of upd_same) (.cons (.str _) (.cons (.str _) (.cons (.str _) .nil)))) (n := 2) (by decide +kernel) (by decide) ?_
      refine ⟨_, rfl, ?_⟩
      refine ⟨_, rfl, by show 0 ≤ sizeLine; decide, fun lz hlz => ?_⟩
      refine hcp (isL := true) (qs := []) p0 rfl (.lst (SqL.of upd_same) .nil) fun H43 s43 => ?_
      refine ⟨_, rfl, rfl, ?_⟩
      rw [show chg pr [] = pr from rfl, decide_eq_true rfl]
      exact k _
theorem all_mk {l : PySem.W.OpenLaw} {w : World} {K : PySem.W.Frag} {h : Heap} {mg : Str → Option Value} {fa : Addr} (X : K.In h) (G : h.Ns mainGlobals mg) (hfa : mg "law" = some (.ref fa))
    {C_SlotError C_InvalidTime C_InvalidMoney : Addr} {A_WAYS : Addr} {dWAYS : Option Addr} {nWAYS : Nat} {slWAYS : Array (Option Value)} {tWAYS0 tWAYS1 tWAYS2 tWAYS3 tWAYS4 : Tok} {A_KINDS : Addr} {dKINDS : Option Addr} {nKINDS : Nat} {slKINDS : Array (Option Value)} {tKINDS0 tKINDS1 tKINDS2 tKINDS3 tKINDS4 tKINDS5 : Tok}
    {f0 : Addr} {od0 an0 : Option Addr} {sl0 : Array (Option Value)} {oc0 kV0 dc0 pm0 cd0 ct0 : Value}
    {f1 : Addr} {od1 an1 : Option Addr} {sl1 : Array (Option Value)} {oc1 kV1 dc1 pm1 cd1 ct1 : Value}
    {f2 : Addr} {od2 an2 : Option Addr} {sl2 : Array (Option Value)} {oc2 kV2 dc2 pm2 cd2 ct2 : Value}
    {f3 : Addr} {od3 an3 : Option Addr} {sl3 : Array (Option Value)} {oc3 kV3 dc3 pm3 cd3 ct3 : Value}
    {f4 : Addr} {od4 an4 : Option Addr} {sl4 : Array (Option Value)} {oc4 kV4 dc4 pm4 cd4 ct4 : Value}
    {f5 : Addr} {od5 an5 : Option Addr} {sl5 : Array (Option Value)} {oc5 kV5 dc5 pm5 cd5 ct5 : Value}
    {f6 : Addr} {od6 an6 : Option Addr} {sl6 : Array (Option Value)} {oc6 kV6 dc6 pm6 cd6 ct6 : Value}
    {f7 : Addr} {od7 an7 : Option Addr} {sl7 : Array (Option Value)} {oc7 kV7 dc7 pm7 cd7 ct7 : Value}
    {f8 : Addr} {od8 an8 : Option Addr} {sl8 : Array (Option Value)} {oc8 kV8 dc8 pm8 cd8 ct8 : Value}
    {f9 : Addr} {od9 an9 : Option Addr} {sl9 : Array (Option Value)} {oc9 kV9 dc9 pm9 cd9 ct9 : Value}
    {f10 : Addr} {od10 an10 : Option Addr} {sl10 : Array (Option Value)} {oc10 kV10 dc10 pm10 cd10 ct10 : Value}
    {f11 : Addr} {od11 an11 : Option Addr} {sl11 : Array (Option Value)} {oc11 kV11 dc11 pm11 cd11 ct11 : Value}
    {nm_InvalidTime q_InvalidTime : Str} {N_InvalidTime : Addr} {bs_InvalidTime bm_InvalidTime : List Value} {sn_InvalidTime : List Str} {sub_InvalidTime : List Value} {ab_InvalidTime : Bool} {col_InvalidTime : Option Bool} {dd_InvalidTime : Option Addr} {m0_InvalidTime m1_InvalidTime m2_InvalidTime m3_InvalidTime m5_InvalidTime : Option Value}
    {nm_InvalidMoney q_InvalidMoney : Str} {N_InvalidMoney : Addr} {bs_InvalidMoney bm_InvalidMoney : List Value} {sn_InvalidMoney : List Str} {sub_InvalidMoney : List Value} {ab_InvalidMoney : Bool} {col_InvalidMoney : Option Bool} {dd_InvalidMoney : Option Addr} {m0_InvalidMoney m1_InvalidMoney m2_InvalidMoney m3_InvalidMoney m5_InvalidMoney : Option Value}
    (g_SlotError : PySem.W.nsIn K mainGlobals "SlotError" = some (some (.ref C_SlotError)))
    (g_InvalidTime : PySem.W.nsIn K mainGlobals "InvalidTime" = some (some (.ref C_InvalidTime)))
    (g_InvalidMoney : PySem.W.nsIn K mainGlobals "InvalidMoney" = some (some (.ref C_InvalidMoney)))
    (a0 : PySem.W.findIn K (.ref C_InvalidTime) "__init__" = some (some (.ref f0)))
    (l0 : K.lookup f0 = some ⟨oc0, od0, .func (PySem.W.fnOf "__init__" "InvalidTime.__init__" (defArgs st_c_InvalidTime_init) (defBody st_c_InvalidTime_init) (defScope st_c_InvalidTime_init) .none kV0 dc0 pm0 an0 cd0 ct0), sl0⟩)
    (c0 : PySem.W.codeIn K cd0 "InvalidTime.__init__" = true)
    (k0 : PySem.W.keepIn K (.ref f0) = true)
    (a1 : PySem.W.findIn K (.ref C_InvalidMoney) "__init__" = some (some (.ref f1)))
    (l1 : K.lookup f1 = some ⟨oc1, od1, .func (PySem.W.fnOf "__init__" "InvalidMoney.__init__" (defArgs st_c_InvalidMoney_init) (defBody st_c_InvalidMoney_init) (defScope st_c_InvalidMoney_init) .none kV1 dc1 pm1 an1 cd1 ct1), sl1⟩)
    (c1 : PySem.W.codeIn K cd1 "InvalidMoney.__init__" = true)
    (k1 : PySem.W.keepIn K (.ref f1) = true)
    (a2 : PySem.W.nsIn K mainGlobals "fraction" = some (some (.ref f2)))
    (l2 : K.lookup f2 = some ⟨oc2, od2, .func (PySem.W.fnOf "fraction" "fraction" (defArgs st_c_fraction) (defBody st_c_fraction) (defScope st_c_fraction) .none kV2 dc2 pm2 an2 cd2 ct2), sl2⟩)
    (c2 : PySem.W.codeIn K cd2 "fraction" = true)
    (k2 : PySem.W.keepIn K (.ref f2) = true)
    (a3 : PySem.W.nsIn K mainGlobals "rounded" = some (some (.ref f3)))
    (l3 : K.lookup f3 = some ⟨oc3, od3, .func (PySem.W.fnOf "rounded" "rounded" (defArgs st_c_rounded) (defBody st_c_rounded) (defScope st_c_rounded) .none kV3 dc3 pm3 an3 cd3 ct3), sl3⟩)
    (c3 : PySem.W.codeIn K cd3 "rounded" = true)
    (k3 : PySem.W.keepIn K (.ref f3) = true)
    (a4 : PySem.W.nsIn K mainGlobals "check_rules" = some (some (.ref f4)))
    (l4 : K.lookup f4 = some ⟨oc4, od4, .func (PySem.W.fnOf "check_rules" "check_rules" (defArgs st_c_check_rules) (defBody st_c_check_rules) (defScope st_c_check_rules) .none kV4 dc4 pm4 an4 cd4 ct4), sl4⟩)
    (c4 : PySem.W.codeIn K cd4 "check_rules" = true)
    (k4 : PySem.W.keepIn K (.ref f4) = true)
    (a5 : PySem.W.nsIn K mainGlobals "changed_price" = some (some (.ref f5)))
    (l5 : K.lookup f5 = some ⟨oc5, od5, .func (PySem.W.fnOf "changed_price" "changed_price" (defArgs st_c_changed_price) (defBody st_c_changed_price) (defScope st_c_changed_price) .none kV5 dc5 pm5 an5 cd5 ct5), sl5⟩)
    (c5 : PySem.W.codeIn K cd5 "changed_price" = true)
    (k5 : PySem.W.keepIn K (.ref f5) = true)
    (a6 : PySem.W.nsIn K mainGlobals "_law_deck" = some (some (.ref f6)))
    (l6 : K.lookup f6 = some ⟨oc6, od6, .func (PySem.W.fnOf "_law_deck" "_law_deck" (defArgs st_c_law_deck) (defBody st_c_law_deck) (defScope st_c_law_deck) .none kV6 dc6 pm6 an6 cd6 ct6), sl6⟩)
    (c6 : PySem.W.codeIn K cd6 "_law_deck" = true)
    (k6 : PySem.W.keepIn K (.ref f6) = true)
    (a7 : PySem.W.nsIn K mainGlobals "_law_take" = some (some (.ref f7)))
    (l7 : K.lookup f7 = some ⟨oc7, od7, .func (PySem.W.fnOf "_law_take" "_law_take" (defArgs st_c_law_take) (defBody st_c_law_take) (defScope st_c_law_take) .none kV7 dc7 pm7 an7 cd7 ct7), sl7⟩)
    (c7 : PySem.W.codeIn K cd7 "_law_take" = true)
    (k7 : PySem.W.keepIn K (.ref f7) = true)
    (a8 : PySem.W.nsIn K mainGlobals "_law_plain" = some (some (.ref f8)))
    (l8 : K.lookup f8 = some ⟨oc8, od8, .func (PySem.W.fnOf "_law_plain" "_law_plain" (defArgs st_c_law_plain) (defBody st_c_law_plain) (defScope st_c_law_plain) .none kV8 dc8 pm8 an8 cd8 ct8), sl8⟩)
    (c8 : PySem.W.codeIn K cd8 "_law_plain" = true)
    (k8 : PySem.W.keepIn K (.ref f8) = true)
    (a9 : PySem.W.nsIn K mainGlobals "_law_why" = some (some (.ref f9)))
    (l9 : K.lookup f9 = some ⟨oc9, od9, .func (PySem.W.fnOf "_law_why" "_law_why" (defArgs st_c_law_why) (defBody st_c_law_why) (defScope st_c_law_why) .none kV9 dc9 pm9 an9 cd9 ct9), sl9⟩)
    (c9 : PySem.W.codeIn K cd9 "_law_why" = true)
    (k9 : PySem.W.keepIn K (.ref f9) = true)
    (a10 : PySem.W.nsIn K mainGlobals "_law_changed" = some (some (.ref f10)))
    (l10 : K.lookup f10 = some ⟨oc10, od10, .func (PySem.W.fnOf "_law_changed" "_law_changed" (defArgs st_c_law_changed) (defBody st_c_law_changed) (defScope st_c_law_changed) .none kV10 dc10 pm10 an10 cd10 ct10), sl10⟩)
    (c10 : PySem.W.codeIn K cd10 "_law_changed" = true)
    (k10 : PySem.W.keepIn K (.ref f10) = true)
    (a11 : PySem.W.nsIn K mainGlobals "law" = some (some (.ref f11)))
    (l11 : K.lookup f11 = some ⟨oc11, od11, .func (PySem.W.fnOf "law" "law" (defArgs st_c_law) (defBody st_c_law) (defScope st_c_law) .none kV11 dc11 pm11 an11 cd11 ct11), sl11⟩)
    (c11 : PySem.W.codeIn K cd11 "law" = true)
    (k11 : PySem.W.keepIn K (.ref f11) = true)
    (b1_SlotError : PySem.W.specialIn K (.ref C_SlotError) "__getattribute__" = some (some (.builtin "type.__getattribute__")))
    (b2_SlotError : PySem.W.readsIn K C_SlotError (.type "type") = true)
    (b3_SlotError : PySem.W.findCls K (.ref C_SlotError) (.type "type") "__init__" = some (.val (.builtin "ValueError.__init__")))
    (x_InvalidTime : K.lookup C_InvalidTime = some (excClassObj nm_InvalidTime q_InvalidTime C_InvalidTime N_InvalidTime bs_InvalidTime bm_InvalidTime true sn_InvalidTime sub_InvalidTime ab_InvalidTime col_InvalidTime dd_InvalidTime m0_InvalidTime m1_InvalidTime m2_InvalidTime m3_InvalidTime m5_InvalidTime "ValueError.__new__"))
    (rv_InvalidTime : PySem.HandSPX.refsVE bm_InvalidTime = true)
    (sa_InvalidTime : PySem.W.findIn K (.ref C_InvalidTime) "__setattr__" = some (some (.builtin "object.__setattr__")))
    (ga_InvalidTime : PySem.W.findIn K (.ref C_InvalidTime) "__getattribute__" = some (some (.builtin "BaseException.__getattribute__")))
    (gg_InvalidTime : PySem.W.findIn K (.ref C_InvalidTime) "__getattr__" = some none)
    (kC_InvalidTime : PySem.W.keepIn K (.ref C_InvalidTime) = true)
    (eC_InvalidTime : PySem.W.subIn K (.ref C_InvalidTime) (.type "BaseException") = some true)
    (tC_InvalidTime : PySem.W.typeIn K (.ref C_InvalidTime) = some (.type "type"))
    (hC_InvalidTime : PySem.W.hasDictIn K C_InvalidTime = true)
    (ic_InvalidTime : (PySem.W.clsIn K C_InvalidTime).isSome = true)
    (cc_InvalidTime : PySem.W.findIn K (.ref C_InvalidTime) "__class__" = some (some (.builtin "object.__class__")))
    (mo_InvalidTime : PySem.W.mroIn K C_InvalidTime (.type "object") = some true)
    (ti_InvalidTime : PySem.W.typeIn K (.ref f0) = some (.type "function"))
    (no_InvalidTime_what : PySem.W.findIn K (.ref C_InvalidTime) "what" = some none)
    (em_InvalidTime_SlotError : PySem.W.exmOne K (.ref C_InvalidTime) (.ref C_SlotError) = some true)
    (em_InvalidTime_InvalidTime : PySem.W.exmOne K (.ref C_InvalidTime) (.ref C_InvalidTime) = some true)
    (x_InvalidMoney : K.lookup C_InvalidMoney = some (excClassObj nm_InvalidMoney q_InvalidMoney C_InvalidMoney N_InvalidMoney bs_InvalidMoney bm_InvalidMoney true sn_InvalidMoney sub_InvalidMoney ab_InvalidMoney col_InvalidMoney dd_InvalidMoney m0_InvalidMoney m1_InvalidMoney m2_InvalidMoney m3_InvalidMoney m5_InvalidMoney "ValueError.__new__"))
    (rv_InvalidMoney : PySem.HandSPX.refsVE bm_InvalidMoney = true)
    (sa_InvalidMoney : PySem.W.findIn K (.ref C_InvalidMoney) "__setattr__" = some (some (.builtin "object.__setattr__")))
    (ga_InvalidMoney : PySem.W.findIn K (.ref C_InvalidMoney) "__getattribute__" = some (some (.builtin "BaseException.__getattribute__")))
    (gg_InvalidMoney : PySem.W.findIn K (.ref C_InvalidMoney) "__getattr__" = some none)
    (kC_InvalidMoney : PySem.W.keepIn K (.ref C_InvalidMoney) = true)
    (eC_InvalidMoney : PySem.W.subIn K (.ref C_InvalidMoney) (.type "BaseException") = some true)
    (tC_InvalidMoney : PySem.W.typeIn K (.ref C_InvalidMoney) = some (.type "type"))
    (hC_InvalidMoney : PySem.W.hasDictIn K C_InvalidMoney = true)
    (ic_InvalidMoney : (PySem.W.clsIn K C_InvalidMoney).isSome = true)
    (cc_InvalidMoney : PySem.W.findIn K (.ref C_InvalidMoney) "__class__" = some (some (.builtin "object.__class__")))
    (mo_InvalidMoney : PySem.W.mroIn K C_InvalidMoney (.type "object") = some true)
    (ti_InvalidMoney : PySem.W.typeIn K (.ref f1) = some (.type "function"))
    (no_InvalidMoney_what : PySem.W.findIn K (.ref C_InvalidMoney) "what" = some none)
    (em_InvalidMoney_SlotError : PySem.W.exmOne K (.ref C_InvalidMoney) (.ref C_SlotError) = some true)
    (em_InvalidMoney_InvalidMoney : PySem.W.exmOne K (.ref C_InvalidMoney) (.ref C_InvalidMoney) = some true)
    (z_hn : PySem.W.specialIn K (.builtin "object.__class__") "__get__" = some (some (.builtin "getset_descriptor.__get__")))
    (z_ht : PySem.W.takesIn K (.builtin "object.__class__") = some true)
    (kt_InvalidMoney_InvalidMoney : PySem.W.kitOne K (.ref C_InvalidMoney) (.ref C_InvalidMoney) = some true)
    (kt_InvalidMoney_InvalidTime : PySem.W.kitOne K (.ref C_InvalidMoney) (.ref C_InvalidTime) = some false)
    (n_abs : PySem.W.nsIn K mainGlobals "abs" = some none)
    (n_bool : PySem.W.nsIn K mainGlobals "bool" = some none)
    (n_int : PySem.W.nsIn K mainGlobals "int" = some none)
    (n_isinstance : PySem.W.nsIn K mainGlobals "isinstance" = some none)
    (n_len : PySem.W.nsIn K mainGlobals "len" = some none)
    (n_list : PySem.W.nsIn K mainGlobals "list" = some none)
    (n_max : PySem.W.nsIn K mainGlobals "max" = some none)
    (n_min : PySem.W.nsIn K mainGlobals "min" = some none)
    (n_range : PySem.W.nsIn K mainGlobals "range" = some none)
    (n_str : PySem.W.nsIn K mainGlobals "str" = some none)
    (n_tuple : PySem.W.nsIn K mainGlobals "tuple" = some none)
    (i_gcd : PySem.W.nsIn K mainGlobals "gcd" = some (some (.builtin "math.gcd")))
    (m_WAYS : PySem.W.nsIn K mainGlobals "WAYS" = some (some (.ref A_WAYS)))
    (wl_WAYS : K.lookup A_WAYS = some ⟨.type "tuple", dWAYS, .seq #[.str "down" tWAYS0, .str "up" tWAYS1, .str "toward zero" tWAYS2, .str "half up" tWAYS3, .str "half even" tWAYS4] nWAYS, slWAYS⟩)
    (m_KINDS : PySem.W.nsIn K mainGlobals "KINDS" = some (some (.ref A_KINDS)))
    (wl_KINDS : K.lookup A_KINDS = some ⟨.type "tuple", dKINDS, .seq #[.str "percent" tKINDS0, .str "minus" tKINDS1, .str "plus" tKINDS2, .str "least" tKINDS3, .str "most" tKINDS4, .str "ending" tKINDS5] nKINDS, slKINDS⟩)
    : ∃ fd : FuncData, (∀ (s : Shared) (v : Value), BindsTo s fd ⟨[v], []⟩ [("script", v)]) ∧ ∀ base : Heap, K.In base → base.Ns mainGlobals mg → FnOk l.prog w K mg base (L2.CX l.prog w) 7 fa fd ["script"] (sp_c_law K) := by
  have e := hfa.symm.trans (PySem.W.mg_of X G a11)
  cases e
  have T : Txt K mg { f_c_InvalidTime_init := f0, d_c_InvalidTime_init := (PySem.W.fnOf "__init__" "InvalidTime.__init__" (defArgs st_c_InvalidTime_init) (defBody st_c_InvalidTime_init) (defScope st_c_InvalidTime_init) .none kV0 dc0 pm0 an0 cd0 ct0), f_c_InvalidMoney_init := f1, d_c_InvalidMoney_init := (PySem.W.fnOf "__init__" "InvalidMoney.__init__" (defArgs st_c_InvalidMoney_init) (defBody st_c_InvalidMoney_init) (defScope st_c_InvalidMoney_init) .none kV1 dc1 pm1 an1 cd1 ct1), f_c_fraction := f2, d_c_fraction := (PySem.W.fnOf "fraction" "fraction" (defArgs st_c_fraction) (defBody st_c_fraction) (defScope st_c_fraction) .none kV2 dc2 pm2 an2 cd2 ct2), f_c_rounded := f3, d_c_rounded := (PySem.W.fnOf "rounded" "rounded" (defArgs st_c_rounded) (defBody st_c_rounded) (defScope st_c_rounded) .none kV3 dc3 pm3 an3 cd3 ct3), f_c_check_rules := f4, d_c_check_rules := (PySem.W.fnOf "check_rules" "check_rules" (defArgs st_c_check_rules) (defBody st_c_check_rules) (defScope st_c_check_rules) .none kV4 dc4 pm4 an4 cd4 ct4), f_c_changed_price := f5, d_c_changed_price := (PySem.W.fnOf "changed_price" "changed_price" (defArgs st_c_changed_price) (defBody st_c_changed_price) (defScope st_c_changed_price) .none kV5 dc5 pm5 an5 cd5 ct5), f_c_law_deck := f6, d_c_law_deck := (PySem.W.fnOf "_law_deck" "_law_deck" (defArgs st_c_law_deck) (defBody st_c_law_deck) (defScope st_c_law_deck) .none kV6 dc6 pm6 an6 cd6 ct6), f_c_law_take := f7, d_c_law_take := (PySem.W.fnOf "_law_take" "_law_take" (defArgs st_c_law_take) (defBody st_c_law_take) (defScope st_c_law_take) .none kV7 dc7 pm7 an7 cd7 ct7), f_c_law_plain := f8, d_c_law_plain := (PySem.W.fnOf "_law_plain" "_law_plain" (defArgs st_c_law_plain) (defBody st_c_law_plain) (defScope st_c_law_plain) .none kV8 dc8 pm8 an8 cd8 ct8), f_c_law_why := f9, d_c_law_why := (PySem.W.fnOf "_law_why" "_law_why" (defArgs st_c_law_why) (defBody st_c_law_why) (defScope st_c_law_why) .none kV9 dc9 pm9 an9 cd9 ct9), f_c_law_changed := f10, d_c_law_changed := (PySem.W.fnOf "_law_changed" "_law_changed" (defArgs st_c_law_changed) (defBody st_c_law_changed) (defScope st_c_law_changed) .none kV10 dc10 pm10 an10 cd10 ct10), f_c_law := fa, d_c_law := (PySem.W.fnOf "law" "law" (defArgs st_c_law) (defBody st_c_law) (defScope st_c_law) .none kV11 dc11 pm11 an11 cd11 ct11), C_SlotError := C_SlotError, C_InvalidTime := C_InvalidTime, C_InvalidMoney := C_InvalidMoney, A_WAYS := A_WAYS, A_KINDS := A_KINDS } := {
    F_c_InvalidTime_init := fun_mk (st := st_c_InvalidTime_init) l0 c0 k0
    b_c_InvalidTime_init := (fun_mk (st := st_c_InvalidTime_init) l0 c0 k0).binds (ps := ["self", "what"]) fun _ _ _ _ _ _ us hl => match us, hl with | [_, _], _ => rfl
    F_c_InvalidMoney_init := fun_mk (st := st_c_InvalidMoney_init) l1 c1 k1
    b_c_InvalidMoney_init := (fun_mk (st := st_c_InvalidMoney_init) l1 c1 k1).binds (ps := ["self", "what"]) fun _ _ _ _ _ _ us hl => match us, hl with | [_, _], _ => rfl
    F_c_fraction := fun_mk (st := st_c_fraction) l2 c2 k2
    b_c_fraction := (fun_mk (st := st_c_fraction) l2 c2 k2).binds (ps := ["above", "below"]) fun _ _ _ _ _ _ us hl => match us, hl with | [_, _], _ => rfl
    m_c_fraction := PySem.W.mg_of X G a2
    F_c_rounded := fun_mk (st := st_c_rounded) l3 c3 k3
    b_c_rounded := (fun_mk (st := st_c_rounded) l3 c3 k3).binds (ps := ["above", "below", "way"]) fun _ _ _ _ _ _ us hl => match us, hl with | [_, _, _], _ => rfl
    m_c_rounded := PySem.W.mg_of X G a3
    F_c_check_rules := fun_mk (st := st_c_check_rules) l4 c4 k4
    b_c_check_rules := (fun_mk (st := st_c_check_rules) l4 c4 k4).binds (ps := ["rules"]) fun _ _ _ _ _ _ us hl => match us, hl with | [_], _ => rfl
    m_c_check_rules := PySem.W.mg_of X G a4
    F_c_changed_price := fun_mk (st := st_c_changed_price) l5 c5 k5
    b_c_changed_price := (fun_mk (st := st_c_changed_price) l5 c5 k5).binds (ps := ["price", "rules"]) fun _ _ _ _ _ _ us hl => match us, hl with | [_, _], _ => rfl
    m_c_changed_price := PySem.W.mg_of X G a5
    F_c_law_deck := fun_mk (st := st_c_law_deck) l6 c6 k6
    b_c_law_deck := (fun_mk (st := st_c_law_deck) l6 c6 k6).binds (ps := ["script", "cells", "each"]) fun _ _ _ _ _ _ us hl => match us, hl with | [_, _, _], _ => rfl
    m_c_law_deck := PySem.W.mg_of X G a6
    F_c_law_take := fun_mk (st := st_c_law_take) l7 c7 k7
    b_c_law_take := (fun_mk (st := st_c_law_take) l7 c7 k7).binds (ps := ["deck", "many"]) fun _ _ _ _ _ _ us hl => match us, hl with | [_, _], _ => rfl
    m_c_law_take := PySem.W.mg_of X G a7
    F_c_law_plain := fun_mk (st := st_c_law_plain) l8 c8 k8
    b_c_law_plain := (fun_mk (st := st_c_law_plain) l8 c8 k8).binds (ps := ["value"]) fun _ _ _ _ _ _ us hl => match us, hl with | [_], _ => rfl
    m_c_law_plain := PySem.W.mg_of X G a8
    F_c_law_why := fun_mk (st := st_c_law_why) l9 c9 k9
    b_c_law_why := (fun_mk (st := st_c_law_why) l9 c9 k9).binds (ps := ["price", "rules"]) fun _ _ _ _ _ _ us hl => match us, hl with | [_, _], _ => rfl
    m_c_law_why := PySem.W.mg_of X G a9
    F_c_law_changed := fun_mk (st := st_c_law_changed) l10 c10 k10
    b_c_law_changed := (fun_mk (st := st_c_law_changed) l10 c10 k10).binds (ps := ["price", "rules"]) fun _ _ _ _ _ _ us hl => match us, hl with | [_, _], _ => rfl
    m_c_law_changed := PySem.W.mg_of X G a10
    F_c_law := fun_mk (st := st_c_law) l11 c11 k11
    b_c_law := (fun_mk (st := st_c_law) l11 c11 k11).binds (ps := ["script"]) fun _ _ _ _ _ _ us hl => match us, hl with | [_], _ => rfl
    m_c_law := PySem.W.mg_of X G a11
    m_SlotError := PySem.W.mg_of X G g_SlotError
    bc_SlotError := ⟨b1_SlotError, b2_SlotError, b3_SlotError⟩
    m_InvalidTime := PySem.W.mg_of X G g_InvalidTime
    ox_InvalidTime := ⟨⟨_, _, _, _, _, _, _, _, _, _, _, _, _, _, _, x_InvalidTime, rv_InvalidTime⟩, sa_InvalidTime, eC_InvalidTime, tC_InvalidTime, kC_InvalidTime⟩
    in_InvalidTime := a0
    ti_InvalidTime := ti_InvalidTime
    no_InvalidTime_what := no_InvalidTime_what
    xf_InvalidTime := ⟨ga_InvalidTime, gg_InvalidTime, eC_InvalidTime, hC_InvalidTime⟩
    is_InvalidTime := ⟨ic_InvalidTime, ga_InvalidTime, gg_InvalidTime, eC_InvalidTime, cc_InvalidTime, z_hn, z_ht, mo_InvalidTime⟩
    em_InvalidTime_SlotError := em_InvalidTime_SlotError
    em_InvalidTime_InvalidTime := em_InvalidTime_InvalidTime
    m_InvalidMoney := PySem.W.mg_of X G g_InvalidMoney
    ox_InvalidMoney := ⟨⟨_, _, _, _, _, _, _, _, _, _, _, _, _, _, _, x_InvalidMoney, rv_InvalidMoney⟩, sa_InvalidMoney, eC_InvalidMoney, tC_InvalidMoney, kC_InvalidMoney⟩
    in_InvalidMoney := a1
    ti_InvalidMoney := ti_InvalidMoney
    no_InvalidMoney_what := no_InvalidMoney_what
    xf_InvalidMoney := ⟨ga_InvalidMoney, gg_InvalidMoney, eC_InvalidMoney, hC_InvalidMoney⟩
    is_InvalidMoney := ⟨ic_InvalidMoney, ga_InvalidMoney, gg_InvalidMoney, eC_InvalidMoney, cc_InvalidMoney, z_hn, z_ht, mo_InvalidMoney⟩
    em_InvalidMoney_SlotError := em_InvalidMoney_SlotError
    em_InvalidMoney_InvalidMoney := em_InvalidMoney_InvalidMoney
    kt_InvalidMoney_InvalidMoney := kt_InvalidMoney_InvalidMoney
    kt_InvalidMoney_InvalidTime := kt_InvalidMoney_InvalidTime
    n_abs := PySem.W.mg_none_of X G n_abs
    n_bool := PySem.W.mg_none_of X G n_bool
    n_int := PySem.W.mg_none_of X G n_int
    n_isinstance := PySem.W.mg_none_of X G n_isinstance
    n_len := PySem.W.mg_none_of X G n_len
    n_list := PySem.W.mg_none_of X G n_list
    n_max := PySem.W.mg_none_of X G n_max
    n_min := PySem.W.mg_none_of X G n_min
    n_range := PySem.W.mg_none_of X G n_range
    n_str := PySem.W.mg_none_of X G n_str
    n_tuple := PySem.W.mg_none_of X G n_tuple
    i_gcd := PySem.W.mg_of X G i_gcd
    m_WAYS := PySem.W.mg_of X G m_WAYS
    w_WAYS := .inr ⟨_, _, _, wl_WAYS, rfl, rfl, by show 5 ≤ sizeLine; decide, (.cons ⟨_, rfl⟩ (.cons ⟨_, rfl⟩ (.cons ⟨_, rfl⟩ (.cons ⟨_, rfl⟩ (.cons ⟨_, rfl⟩ .nil)))))⟩
    m_KINDS := PySem.W.mg_of X G m_KINDS
    w_KINDS := .inr ⟨_, _, _, wl_KINDS, rfl, rfl, by show 6 ≤ sizeLine; decide, (.cons ⟨_, rfl⟩ (.cons ⟨_, rfl⟩ (.cons ⟨_, rfl⟩ (.cons ⟨_, rfl⟩ (.cons ⟨_, rfl⟩ (.cons ⟨_, rfl⟩ .nil))))))⟩
  }
  exact ⟨(PySem.W.fnOf "law" "law" (defArgs st_c_law) (defBody st_c_law) (defScope st_c_law) .none kV11 dc11 pm11 an11 cd11 ct11), fun s v => .of_eq rfl, fun base _ _ => ok_c_law T⟩
theorem walk {l : PySem.W.OpenLaw} {q : Program} {loose : List Str} {XP : (Str → Option Value) → Heap → Prop} {YP : World → Heap → Prop} {d : DefRec} {K : Params → PySem.W.Frag} (hn : l.most = some 63) (hdf : d.params.defaults = [])
    (hY : ∀ (w : World) (h : Heap), YP w h → (K w.params).In h)
    (F : ∀ (w : World) (mg : Str → Option Value) (fa : Addr) (h : Heap), (K w.params).In h → h.Ns mainGlobals mg → mg d.name = some (.ref fa) →
      ∃ fd : FuncData, (∀ (s : Shared) (u : Value), BindsTo s fd ⟨[u], []⟩ [("script", u)]) ∧ ∀ base : Heap, (K w.params).In base → base.Ns mainGlobals mg → FnOk l.prog w (K w.params) mg base (L2.CX l.prog w) 7 fa fd ["script"] (sp_c_law (K w.params))) :
    PySem.W.WalkO q loose XP YP l.row.toRowW d [] (fun f vs => PySem.call f vs) :=
  L2.walk_of (n := 63) (k := 7) (x := "script") (CX := fun w => L2.CX l.prog w) (sp := fun w => sp_c_law (K w.params)) hn (by decide) hdf ⟨rfl, by decide, by decide⟩ hY F (fun _ _ a ns hl _ hS => ⟨a, ns, rfl, hS, hl, fun _ => rfl⟩)
    fun _ _ _ _ _ z => by obtain ⟨_, _, _, _, _, _, _, _, _, _, _, _, z⟩ := z; exact z
end K45
open PySem PySem.W PyProof.Rows
set_option maxRecDepth 100000 in
set_option maxHeartbeats 0 in
theorem PySem.Challenge.cw_slotwork_k45_prices_changed_holds : PySem.Challenge.rw_slotwork_k45_prices_changed.Holds := by
  w_on; o_law; k_head; (case hw => w_witness2)
  k_fill
  refine K45.walk (l := PySem.Challenge.rw_slotwork_k45_prices_changed) rfl rfl (fun w h Y => PySem.W.kIn_of Y) ?F
  case F =>
    intro w mg fa h KX G hmg
    refine' K45.all_mk KX G hmg ?g_SlotError ?g_InvalidTime ?g_InvalidMoney ?a0 ?l0 ?c0 ?k0 ?a1 ?l1 ?c1 ?k1 ?a2 ?l2 ?c2 ?k2 ?a3 ?l3 ?c3 ?k3 ?a4 ?l4 ?c4 ?k4 ?a5 ?l5 ?c5 ?k5 ?a6 ?l6 ?c6 ?k6 ?a7 ?l7 ?c7 ?k7 ?a8 ?l8 ?c8 ?k8 ?a9 ?l9 ?c9 ?k9 ?a10 ?l10 ?c10 ?k10 ?a11 ?l11 ?c11 ?k11 ?b1_SlotError ?b2_SlotError ?b3_SlotError ?x_InvalidTime ?rv_InvalidTime ?sa_InvalidTime ?ga_InvalidTime ?gg_InvalidTime ?kC_InvalidTime ?eC_InvalidTime ?tC_InvalidTime ?hC_InvalidTime ?ic_InvalidTime ?cc_InvalidTime ?mo_InvalidTime ?ti_InvalidTime ?no_InvalidTime_what ?em_InvalidTime_SlotError ?em_InvalidTime_InvalidTime ?x_InvalidMoney ?rv_InvalidMoney ?sa_InvalidMoney ?ga_InvalidMoney ?gg_InvalidMoney ?kC_InvalidMoney ?eC_InvalidMoney ?tC_InvalidMoney ?hC_InvalidMoney ?ic_InvalidMoney ?cc_InvalidMoney ?mo_InvalidMoney ?ti_InvalidMoney ?no_InvalidMoney_what ?em_InvalidMoney_SlotError ?em_InvalidMoney_InvalidMoney ?z_hn ?z_ht ?kt_InvalidMoney_InvalidMoney ?kt_InvalidMoney_InvalidTime ?n_abs ?n_bool ?n_int ?n_isinstance ?n_len ?n_list ?n_max ?n_min ?n_range ?n_str ?n_tuple ?i_gcd ?m_WAYS ?wl_WAYS ?m_KINDS ?wl_KINDS
    (case g_SlotError => first | k_is | rfl | decide +kernel)
    (case g_InvalidTime => first | k_is | rfl | decide +kernel)
    (case g_InvalidMoney => first | k_is | rfl | decide +kernel)
    (case a0 => first | k_is | rfl | decide +kernel)
    (case l0 => first | k_is | rfl | decide +kernel)
    (case c0 => first | k_is | rfl | decide +kernel)
    (case k0 => first | k_is | rfl | decide +kernel)
    (case a1 => first | k_is | rfl | decide +kernel)
    (case l1 => first | k_is | rfl | decide +kernel)
    (case c1 => first | k_is | rfl | decide +kernel)
    (case k1 => first | k_is | rfl | decide +kernel)
    (case a2 => first | k_is | rfl | decide +kernel)
    (case l2 => first | k_is | rfl | decide +kernel)
    (case c2 => first | k_is | rfl | decide +kernel)
    (case k2 => first | k_is | rfl | decide +kernel)
    (case a3 => first | k_is | rfl | decide +kernel)
    (case l3 => first | k_is | rfl | decide +kernel)
    (case c3 => first | k_is | rfl | decide +kernel)
    (case k3 => first | k_is | rfl | decide +kernel)
    (case a4 => first | k_is | rfl | decide +kernel)
    (case l4 => first | k_is | rfl | decide +kernel)
    (case c4 => first | k_is | rfl | decide +kernel)
    (case k4 => first | k_is | rfl | decide +kernel)
    (case a5 => first | k_is | rfl | decide +kernel)
    (case l5 => first | k_is | rfl | decide +kernel)
    (case c5 => first | k_is | rfl | decide +kernel)
    (case k5 => first | k_is | rfl | decide +kernel)
    (case a6 => first | k_is | rfl | decide +kernel)
    (case l6 => first | k_is | rfl | decide +kernel)
    (case c6 => first | k_is | rfl | decide +kernel)
    (case k6 => first | k_is | rfl | decide +kernel)
    (case a7 => first | k_is | rfl | decide +kernel)
    (case l7 => first | k_is | rfl | decide +kernel)
    (case c7 => first | k_is | rfl | decide +kernel)
    (case k7 => first | k_is | rfl | decide +kernel)
    (case a8 => first | k_is | rfl | decide +kernel)
    (case l8 => first | k_is | rfl | decide +kernel)
    (case c8 => first | k_is | rfl | decide +kernel)
    (case k8 => first | k_is | rfl | decide +kernel)
    (case a9 => first | k_is | rfl | decide +kernel)
    (case l9 => first | k_is | rfl | decide +kernel)
    (case c9 => first | k_is | rfl | decide +kernel)
    (case k9 => first | k_is | rfl | decide +kernel)
    (case a10 => first | k_is | rfl | decide +kernel)
    (case l10 => first | k_is | rfl | decide +kernel)
    (case c10 => first | k_is | rfl | decide +kernel)
    (case k10 => first | k_is | rfl | decide +kernel)
    (case a11 => first | k_is | rfl | decide +kernel)
    (case l11 => first | k_is | rfl | decide +kernel)
    (case c11 => first | k_is | rfl | decide +kernel)
    (case k11 => first | k_is | rfl | decide +kernel)
    (case b1_SlotError => first | k_is | rfl | decide +kernel)
    (case b2_SlotError => first | k_is | rfl | decide +kernel)
    (case b3_SlotError => first | k_is | rfl | decide +kernel)
    (case x_InvalidTime => first | k_is | rfl | decide +kernel)
    (case rv_InvalidTime => first | k_is | rfl | decide +kernel)
    (case sa_InvalidTime => first | k_is | rfl | decide +kernel)
    (case ga_InvalidTime => first | k_is | rfl | decide +kernel)
    (case gg_InvalidTime => first | k_is | rfl | decide +kernel)
    (case kC_InvalidTime => first | k_is | rfl | decide +kernel)
    (case eC_InvalidTime => first | k_is | rfl | decide +kernel)
    (case tC_InvalidTime => first | k_is | rfl | decide +kernel)
    (case hC_InvalidTime => first | k_is | rfl | decide +kernel)
    (case ic_InvalidTime => first | k_is | rfl | decide +kernel)
    (case cc_InvalidTime => first | k_is | rfl | decide +kernel)
    (case mo_InvalidTime => first | k_is | rfl | decide +kernel)
    (case ti_InvalidTime => first | k_is | rfl | decide +kernel)
    (case no_InvalidTime_what => first | k_is | rfl | decide +kernel)
    (case em_InvalidTime_SlotError => first | k_is | rfl | decide +kernel)
    (case em_InvalidTime_InvalidTime => first | k_is | rfl | decide +kernel)
    (case x_InvalidMoney => first | k_is | rfl | decide +kernel)
    (case rv_InvalidMoney => first | k_is | rfl | decide +kernel)
    (case sa_InvalidMoney => first | k_is | rfl | decide +kernel)
    (case ga_InvalidMoney => first | k_is | rfl | decide +kernel)
    (case gg_InvalidMoney => first | k_is | rfl | decide +kernel)
    (case kC_InvalidMoney => first | k_is | rfl | decide +kernel)
    (case eC_InvalidMoney => first | k_is | rfl | decide +kernel)
    (case tC_InvalidMoney => first | k_is | rfl | decide +kernel)
    (case hC_InvalidMoney => first | k_is | rfl | decide +kernel)
    (case ic_InvalidMoney => first | k_is | rfl | decide +kernel)
    (case cc_InvalidMoney => first | k_is | rfl | decide +kernel)
    (case mo_InvalidMoney => first | k_is | rfl | decide +kernel)
    (case ti_InvalidMoney => first | k_is | rfl | decide +kernel)
    (case no_InvalidMoney_what => first | k_is | rfl | decide +kernel)
    (case em_InvalidMoney_SlotError => first | k_is | rfl | decide +kernel)
    (case em_InvalidMoney_InvalidMoney => first | k_is | rfl | decide +kernel)
    (case z_hn => first | k_is | rfl | decide +kernel)
    (case z_ht => first | k_is | rfl | decide +kernel)
    (case kt_InvalidMoney_InvalidMoney => first | k_is | rfl | decide +kernel)
    (case kt_InvalidMoney_InvalidTime => first | k_is | rfl | decide +kernel)
    (case n_abs => first | k_is | rfl | decide +kernel)
    (case n_bool => first | k_is | rfl | decide +kernel)
    (case n_int => first | k_is | rfl | decide +kernel)
    (case n_isinstance => first | k_is | rfl | decide +kernel)
    (case n_len => first | k_is | rfl | decide +kernel)
    (case n_list => first | k_is | rfl | decide +kernel)
    (case n_max => first | k_is | rfl | decide +kernel)
    (case n_min => first | k_is | rfl | decide +kernel)
    (case n_range => first | k_is | rfl | decide +kernel)
    (case n_str => first | k_is | rfl | decide +kernel)
    (case n_tuple => first | k_is | rfl | decide +kernel)
    (case i_gcd => first | k_is | rfl | decide +kernel)
    (case m_WAYS => first | k_is | rfl | decide +kernel)
    (case wl_WAYS => first | k_is | rfl | decide +kernel)
    (case m_KINDS => first | k_is | rfl | decide +kernel)
    (case wl_KINDS => first | k_is | rfl | decide +kernel)
