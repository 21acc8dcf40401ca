import PyProof.Rows.All
import Wide.All
import OpenK.AllK
import Wide.FinOn
import HandS.ForMost
import HandS.ForExc
import HandS.ExcInit
import HandS.ExcField
import HandS.IsInst
import HandS.Style
import HandS.Gcd
import HandS.Wide
import HandS.Deep
import HandS.Flow
import HandS.Zip
import HandS.Evl
import HandS.Walk
import HandS.SortInts
import HandS.Conv
import HandS.ExcValue
import KE.KExcIs
import PySem.Challenge.RW_slotwork_k44_tariffs
set_option Elab.async false
set_option linter.all false
set_option maxRecDepth 100000
set_option maxHeartbeats 4000000
namespace Sw
open PySem PySem.Spec PyProof.Rows L2
section
variable {X : Cx}
/-- what the written part says of the own class B over ValueError, so that B.__init__(self, ..) is ValueError's -/
structure BaseC (K : PySem.W.Frag) (B : Addr) : Prop where
  sp : PySem.W.specialIn K (.ref B) "__getattribute__" = some (some (.builtin "type.__getattribute__"))
  rd : PySem.W.readsIn K B (.type "type") = true
  iv : PySem.W.findCls K (.ref B) (.type "type") "__init__" = some (.val (.builtin "ValueError.__init__"))
theorem pe_binit {x : Str} {B : Addr} {p1 p2 pos : Pos} {e : Expr} {es : List Expr} {ta : TA} {pl : Sem Bool} (T : BaseC X.K B) (hg : Gl X x) (hm : X.mg x = some (.ref B)) (ha : PA X (e :: es) ta)
    (hdb : (x == ("__debug__" : Str)) = false := by decide)
    (hc : eval (.Call (.Attribute (.Name x p1) "__init__" p2) (e :: es) [] pos) X.env = (do
      let o ← eval (.Name x p1) X.env
      standAt p2.atName
      let (g, fst) ← holding [o] (getMethod o "__init__" pl)
      callWith pos g fst (backTo pos (starEach (e :: es) X.env)) (backToKw pos (keywordEach [] X.env))) := by rfl)
    (he : starEach (e :: es) X.env = (false, eval e X.env) :: starEach es X.env := by rfl) (hpl : (backTo pos (starEach es X.env)).any (·.1) = false := by rfl) :
    PE X (.Call (.Attribute (.Name x p1) "__init__" p2) (e :: es) [] pos) (tVeI X.K ta) := by
  refine ⟨fun pins s σ H Q I h => ?_⟩
  refine PySem.W.methodCall_KW (ld_glob I hg hm ?_ hdb) hc
  refine PySem.W.method_cls I.kIn T.sp ?_
  refine PySem.W.cls_value I.kIn T.rd T.iv (by decide +kernel) ?_
  refine PyProof.Rows.callWith_method1 (thn (ha.run pos pins _ σ H _ (I.tok _) h) fun us s1 ⟨vs, H1, I1, r1, a, C, ws, ev, hl, T', ea, q⟩ => ?_) he hpl
  subst ev
  cases r1 with
  | @cons _ u0 _ ur ra rw' =>
    obtain rfl : u0 = Value.ref a := ra
    refine oinit_ok T' I1 ea ?_ fun s' J => ⟨.non, H1, J, rfl, q⟩
    rw [← Paired.length rw', sizeLine_eq]
    omega

/-- isinstance(error, c), error the exception that the suite holds, at a, of the class at D -/
structure IsC (K : PySem.W.Frag) (D : Addr) : Prop where
  hc : (PySem.W.clsIn K D).isSome = true
  hg : PySem.W.findIn K (.ref D) "__getattribute__" = some (some (.builtin "BaseException.__getattribute__"))
  hk : PySem.W.findIn K (.ref D) "__getattr__" = some none
  hs : PySem.W.subIn K (.ref D) (.type "BaseException") = some true
  ha : PySem.W.findIn K (.ref D) "__class__" = some (some (.builtin "object.__class__"))
  hn : PySem.W.specialIn K (.builtin "object.__class__") "__get__" = some (some (.builtin "getset_descriptor.__get__"))
  ht : PySem.W.takesIn K (.builtin "object.__class__") = some true
  hm : PySem.W.mroIn K D (.type "object") = some true
def rIsX (K : PySem.W.Frag) (a : Addr) (cls : Value) (d : Option Addr) : List V → Hp → VK → Prop := fun xs H Q =>
  ∃ (D C : Addr) (b : Bool) (dd : Addr) (fs : List (Str × V)), xs = [.ref a, .ref C] ∧ cls = .ref D ∧ IsC K D ∧ d = some dd ∧ H dd = some (.xd fs) ∧ PySem.W.kitOne K (.ref D) (.ref C) = some b ∧ Q (.bl b) H
theorem call_isX {a : Addr} {cls : Value} {d : Option Addr} {oe : Obj} {pn : List (Addr × Obj)} (hz : Zc cls d oe) (hf : ∃ vs, oe.data = .fields vs) : CallR (X.suite a ((a, oe) :: pn)) (.builtin "isinstance") (rIsX X.K a cls d) := by
  intro pins s σ H xs us Q I r h
  obtain ⟨D, C, b, dd, fs, rfl, rfl, T, rfl, ea, e, q⟩ := h
  cases r with
  | cons rx rr =>
    cases rr with
    | cons rt rr =>
      cases rr
      cases rx
      cases rt
      have hget := (I.pin (a, oe) (List.mem_append_left _ List.mem_cons_self)).1
      obtain ⟨mA, hns, hr⟩ := (show ObjOk X.prog X.w H s.heap dd (.xd fs) from I.hok dd _ ea)
      obtain ⟨od, ho, hl⟩ := lookIn_ns hns
      obtain ⟨vs, hd⟩ := hf
      have J : PySem.W.InstAt s.heap a oe D (some od) := ⟨hget, hz.1, by unfold PySem.W.notCls; rw [hd] <;> rfl, by rw [hz.2]; exact ho⟩
      exact PySem.W.kia_one (PySem.W.kitx_exc T.hc T.hg T.hk T.hs T.ha T.hn T.ht T.hm) I.kIn J e (fun z => nomatch z) fun tk => ⟨.bl b, H, I.tok tk, rfl, q⟩
end

/-! ### // by a divisor of any sign, of many digits -/
def CDivZ (_ j : Int) : Prop := j ≠ 0 ∧ j.natAbs.log2 < 9000
theorem op_fdivZ {X : Cx} : OpR X (binaryOp .FloorDiv) (rI CDivZ fun i j => .int (i.fdiv j)) := opI fun i j _ _ _ _ _ hc k => floordiv_int hc.1 k (.inl (PyProof.noPylong_of_log2 hc.2))
theorem cdivZ_of {i j : Int} {b : Nat} (h : j ≠ 0) (hb : j.natAbs < 2 ^ b) (h0 : 0 < b) (h9 : b ≤ 9000) : CDivZ i j := ⟨h, Nat.lt_of_lt_of_le (PySem.Flt.log2_lt_of h0 hb) h9⟩

/-! ### heaps -/
theorem upd_self {H : Hp} {p : Addr} {o : HO} (h : H p = some o) : upd H p o = H := by
  funext b
  by_cases e : b = p
  · rw [e, upd_same, h]
  · rw [upd_ne e]
theorem _root_.L2.Same.new {H : Hp} {p : Addr} {o : HO} (h : H p = none) : Same H (upd H p o) := fun b u e => by
  rw [upd_ne (ne_of_none e h)]
  exact e
theorem _root_.L2.Same.then_new {H H' : Hp} {p : Addr} {o : HO} (e : Same H H') (h : H' p = none) : Same H (upd H' p o) := e.trans (Same.new h)
/-- what H does not know may change -/
theorem _root_.L2.Same.mut {H H' : Hp} {p : Addr} {o : HO} (e : Same H H') (h : H p = none) : Same H (upd H' p o) := fun b u ha => by
  rw [upd_ne (ne_of_none ha h)]
  exact e b u ha
theorem _root_.L2.Same.tup {K : PySem.W.Frag} {H H' : Hp} {a : Addr} {xs : List V} (e : Same H H') (h : SqT K H a xs) : SqT K H' a xs := by
  rcases h with (h | ⟨o, h⟩) | h
  · exact .inl (.inl (e _ _ h))
  · exact .inl (.inr ⟨o, e _ _ h⟩)
  · exact .inr h

theorem same_none {H : Hp} : Same (fun _ => none) H := fun _ _ e => by cases e

/-! ### raise C(w) -/
/-- C(w) is raised, w its what -/
def raisesW (C : Addr) (w : Str) (H : Hp) (E : XK) : Prop := ∀ d H', Same H H' → H' d = some (.xd [("what", .str w)]) → E (.ref C) (some d) H'
theorem raisesW.mono {C : Addr} {w : Str} {H H' : Hp} {E : XK} (h : raisesW C w H E) (s : Same H H') : raisesW C w H' E := fun d H2 s2 hd => h d H2 (s.trans s2) hd
def sp_exinit (C : Addr) : Sp := fun vs H Q _ => ∃ (x : Addr) (w : Str), vs = [.ref x, .str w] ∧ H x = some (exo x C none) ∧ w.length ≤ 1000 ∧ ∀ dx, H dx = none → dx ≠ x → Q .non (upd (upd H dx (exd dx [("what", .str w)])) x (exo x C (some dx)))
theorem raise_ok {C : Addr} {w : Str} {H : Hp} {E : XK} (h : raisesW C w H E) (hl : w.length ≤ 1000) : ∀ a, H a = none → sp_exinit C (.ref a :: ([.str w] ++ [])) (upd H a (exo a C none))
    (fun v H2 => v = .non ∧ ∃ (d : Addr) (fs : List (Str × V)), H2 a = some (exo a C (some d)) ∧ H2 d = some (exd d fs) ∧ H d = none ∧ E (.ref C) (some d) (upd (del H2 a) d (.xd fs))) (fun _ _ _ => False) := fun a ha =>
  ⟨a, w, rfl, upd_same, hl, fun dx hd hne => by
    have hd' : H dx = none := by rw [upd_ne hne] at hd; exact hd
    refine ⟨rfl, dx, _, upd_same, by rw [upd_ne hne, upd_same], hd', h dx _ (fun b o e => ?_) upd_same⟩
    have n1 : b ≠ dx := ne_of_none e hd'
    have n2 : b ≠ a := ne_of_none e ha
    rw [upd_ne n1, del_ne n2, upd_ne n2, upd_ne n1, upd_ne n2]
    exact e⟩

/-! ### the deck: its numbers in the order in which they are taken -/
def dk (D : List Int) : HO := .lst (D.reverse.map V.int)
def tk (D : List Int) (m : Int) : Int := D.headD 0 % m
theorem tk_nonneg (D : List Int) {m : Int} (h : 0 < m) : 0 ≤ tk D m := Int.emod_nonneg _ (by omega)
theorem tk_lt (D : List Int) {m : Int} (h : 0 < m) : tk D m < m := Int.emod_lt_of_pos _ h
def sp_take0 : Sp := fun vs H Q _ => ∃ (d : Addr) (D : List Int) (m : Int), vs = [.ref d, .int m] ∧ H d = some (dk D) ∧ 0 < m ∧ Q (.int (tk D m)) (upd H d (dk D.tail))
@[irreducible] def sp_take : Sp := sp_take0
theorem sp_take_eq : sp_take = sp_take0 := by unfold sp_take; rfl
theorem dk_last {x : Int} {D : List Int} : ((x :: D).reverse.map V.int)[((x :: D).reverse.map V.int).length - 1]? = some (V.int x) := by simp
theorem dk_drop {x : Int} {D : List Int} : ((x :: D).reverse.map V.int).dropLast = D.reverse.map V.int := by simp
def sp_deck (K : PySem.W.Frag) : Sp := fun vs H Q _ => ∃ (sa : Addr) (ns : List Int) (c e : Int), vs = [.ref sa, .int c, .int e] ∧ SqL K H sa (ns.map V.int) ∧ ns.length ≤ 1000 ∧ 0 ≤ c ∧ c ≤ 1000 ∧ 0 ≤ e ∧ e ≤ 100 ∧
  ∀ (D : List Int) (p : Addr) (H' : Hp), H p = none → Same H H' → H' p = some (dk D) → Q (.ref p) H'

/-! ### data: all that is known to a heap stays -/
mutual
theorem dp_same {K : PySem.W.Frag} {H H' : Hp} (s : Same H H') : ∀ (d : PyData) (v : V), Dp K H v d → Dp K H' v d
  | .none, _, h => by cases h; exact .non
  | .bool b, _, h => by cases h; exact .bl b
  | .int i, _, h => by cases h; exact .int i
  | .str x, _, h => by cases h; exact .str x
  | .list ds, _, h => by
    cases h with
    | lst h1 h2 => exact .lst (s.seq h1) (dpAll_same s ds _ h2)
  | .tuple ds, _, h => by
    cases h with
    | tup h1 h2 => exact .tup (s.tup h1) (dpAll_same s ds _ h2)
  | .dict _, _, h => nomatch h
theorem dpAll_same {K : PySem.W.Frag} {H H' : Hp} (s : Same H H') : ∀ (ds : List PyData) (vs : List V), DpAll K H vs ds → DpAll K H' vs ds
  | [], _, h => by cases h; exact .nil
  | d :: ds, _, h => by
    cases h with
    | cons h1 h2 => exact .cons (dp_same s d _ h1) (dpAll_same s ds _ h2)
end
/-! data all of whose cells lie in S -/
mutual
inductive DN (S : Addr → Prop) (H : Hp) : V → PyData → Prop
  | non : DN S H .non .none
  | bl (b : Bool) : DN S H (.bl b) (.bool b)
  | int (i : Int) : DN S H (.int i) (.int i)
  | str (x : Str) : DN S H (.str x) (.str x)
  | lst {a : Addr} {xs : List V} {ds : List PyData} : S a → H a = some (.lst xs) → DNs S H xs ds → DN S H (.ref a) (.list ds)
  | tup {a : Addr} {xs : List V} {ds : List PyData} : S a → H a = some (.tup xs) → DNs S H xs ds → DN S H (.ref a) (.tuple ds)
inductive DNs (S : Addr → Prop) (H : Hp) : List V → List PyData → Prop
  | nil : DNs S H [] []
  | cons {v : V} {vs : List V} {d : PyData} {ds : List PyData} : DN S H v d → DNs S H vs ds → DNs S H (v :: vs) (d :: ds)
end
mutual
theorem DN.dp {K : PySem.W.Frag} {S : Addr → Prop} {H : Hp} : ∀ (d : PyData) (v : V), DN S H v d → Dp K H v d
  | .none, _, h => by cases h; exact .non
  | .bool b, _, h => by cases h; exact .bl b
  | .int i, _, h => by cases h; exact .int i
  | .str x, _, h => by cases h; exact .str x
  | .list ds, _, h => by
    cases h with
    | lst _ h1 h2 => exact .lst (SqL.of h1) (DNs.dp ds _ h2)
  | .tuple ds, _, h => by
    cases h with
    | tup _ h1 h2 => exact .tup (SqT.of h1) (DNs.dp ds _ h2)
  | .dict _, _, h => nomatch h
theorem DNs.dp {K : PySem.W.Frag} {S : Addr → Prop} {H : Hp} : ∀ (ds : List PyData) (vs : List V), DNs S H vs ds → DpAll K H vs ds
  | [], _, h => by cases h; exact .nil
  | d :: ds, _, h => by
    cases h with
    | cons h1 h2 => exact .cons (DN.dp d _ h1) (DNs.dp ds _ h2)
end
mutual
theorem DN.mono {S S' : Addr → Prop} {H H' : Hp} (hs : ∀ a, S a → S' a) (hh : ∀ a o, S a → H a = some o → H' a = some o) : ∀ (d : PyData) (v : V), DN S H v d → DN S' H' v d
  | .none, _, h => by cases h; exact .non
  | .bool b, _, h => by cases h; exact .bl b
  | .int i, _, h => by cases h; exact .int i
  | .str x, _, h => by cases h; exact .str x
  | .list ds, _, h => by
    cases h with
    | lst h0 h1 h2 => exact .lst (hs _ h0) (hh _ _ h0 h1) (DNs.mono hs hh ds _ h2)
  | .tuple ds, _, h => by
    cases h with
    | tup h0 h1 h2 => exact .tup (hs _ h0) (hh _ _ h0 h1) (DNs.mono hs hh ds _ h2)
  | .dict _, _, h => nomatch h
theorem DNs.mono {S S' : Addr → Prop} {H H' : Hp} (hs : ∀ a, S a → S' a) (hh : ∀ a o, S a → H a = some o → H' a = some o) : ∀ (ds : List PyData) (vs : List V), DNs S H vs ds → DNs S' H' vs ds
  | [], _, h => by cases h; exact .nil
  | d :: ds, _, h => by
    cases h with
    | cons h1 h2 => exact .cons (DN.mono hs hh d _ h1) (DNs.mono hs hh ds _ h2)
end
theorem DNs.snoc {S : Addr → Prop} {H : Hp} {v : V} {d : PyData} (hv : DN S H v d) : ∀ {vs : List V} {ds : List PyData}, DNs S H vs ds → DNs S H (vs ++ [v]) (ds ++ [d])
  | _, _, .nil => .cons hv .nil
  | _, _, .cons h t => .cons h (DNs.snoc hv t)
theorem DNs.length {S : Addr → Prop} {H : Hp} : ∀ {vs : List V} {ds : List PyData}, DNs S H vs ds → vs.length = ds.length
  | _, _, .nil => rfl
  | _, _, .cons _ t => by rw [List.length_cons, List.length_cons, DNs.length t]
theorem dpAll_length {K : PySem.W.Frag} {H : Hp} : ∀ {vs : List V} {ds : List PyData}, DpAll K H vs ds → vs.length = ds.length
  | _, _, .nil => rfl
  | _, _, .cons _ t => by rw [List.length_cons, List.length_cons, dpAll_length t]
theorem dpAll_get {K : PySem.W.Frag} {H : Hp} : ∀ {vs : List V} {ds : List PyData} {i : Nat} {v : V}, DpAll K H vs ds → vs[i]? = some v → ∃ d, ds[i]? = some d ∧ Dp K H v d
  | _, _, i, _, .nil, e => by simp at e
  | _, _, 0, _, .cons h _, e => by
    have := Option.some.inj e
    subst this
    exact ⟨_, rfl, h⟩
  | _, _, i + 1, _, .cons _ t, e => by
    have e' := e
    rw [List.getElem?_cons_succ] at e'
    obtain ⟨d, h1, h2⟩ := dpAll_get t e'
    exact ⟨d, by rw [List.getElem?_cons_succ]; exact h1, h2⟩

/-! ### small data: nested at most n deep, rows of at most 1000 -/
mutual
def okD : Nat → PyData → Bool
  | _, .none => true
  | _, .bool _ => true
  | _, .int _ => true
  | _, .str x => PyData.strOk x
  | 0, .list _ => false
  | n + 1, .list xs => decide (xs.length ≤ 1000) && okDs n xs
  | 0, .tuple _ => false
  | n + 1, .tuple xs => decide (xs.length ≤ 1000) && okDs n xs
  | _, .dict _ => false
def okDs : Nat → List PyData → Bool
  | _, [] => true
  | n, x :: xs => okD n x && okDs n xs
end
/-! as okD, the rows of any length -/
mutual
def okDx : Nat → PyData → Bool
  | _, .none => true
  | _, .bool _ => true
  | _, .int _ => true
  | _, .str x => PyData.strOk x
  | 0, .list _ => false
  | n + 1, .list xs => okDxs n xs
  | 0, .tuple _ => false
  | n + 1, .tuple xs => okDxs n xs
  | _, .dict _ => false
def okDxs : Nat → List PyData → Bool
  | _, [] => true
  | n, x :: xs => okDx n x && okDxs n xs
end
theorem okDs_get {n : Nat} : ∀ {ds : List PyData} {i : Nat} {d : PyData}, okDs n ds = true → ds[i]? = some d → okD n d = true
  | [], i, d, _, e => by simp at e
  | x :: xs, 0, d, h, e => by
    have := Option.some.inj e
    subst this
    simp only [okDs, Bool.and_eq_true] at h
    exact h.1
  | x :: xs, i + 1, d, h, e => by
    simp only [okDs, Bool.and_eq_true] at h
    rw [List.getElem?_cons_succ] at e
    exact okDs_get h.2 e
mutual
theorem okDx_lay : ∀ (n : Nat) (d : PyData), okDx n d = true → d.canLay0 = true ∧ d.depth ≤ n
  | _, .none, _ => by simp [PyData.canLay0, PyData.depth]
  | _, .bool _, _ => by simp [PyData.canLay0, PyData.depth]
  | _, .int _, _ => by simp [PyData.canLay0, PyData.depth]
  | _, .str x, h => by
    simp only [okDx] at h
    simp [PyData.canLay0, PyData.depth, h]
  | 0, .list _, h => by simp [okDx] at h
  | n + 1, .list xs, h => by
    simp only [okDx] at h
    obtain ⟨h1, h2⟩ := okDxs_lay n xs h
    simp only [PyData.canLay0, PyData.depth]
    exact ⟨h1, by omega⟩
  | 0, .tuple _, h => by simp [okDx] at h
  | n + 1, .tuple xs, h => by
    simp only [okDx] at h
    obtain ⟨h1, h2⟩ := okDxs_lay n xs h
    simp only [PyData.canLay0, PyData.depth]
    exact ⟨h1, by omega⟩
  | _, .dict _, h => by simp [okDx] at h
theorem okDxs_lay : ∀ (n : Nat) (ds : List PyData), okDxs n ds = true → PyData.canLayAll0 ds = true ∧ PyData.depthAll ds ≤ n
  | _, [], _ => by simp [PyData.canLayAll0, PyData.depthAll]
  | n, x :: xs, h => by
    simp only [okDxs, Bool.and_eq_true] at h
    obtain ⟨a1, a2⟩ := okDx_lay n x h.1
    obtain ⟨b1, b2⟩ := okDxs_lay n xs h.2
    simp only [PyData.canLayAll0, PyData.depthAll, a1, b1]
    exact ⟨rfl, by omega⟩
end
theorem okDx_shaped {n : Nat} {d : PyData} (h : okDx n d = true) (hn : n ≤ 64) : SeqAt.shaped d = true := by
  obtain ⟨h1, h2⟩ := okDx_lay n d h
  show (d.canLay0 && decide (d.depth ≤ 64)) = true
  rw [h1, decide_eq_true (by omega)]
  rfl

/-! ### what _law_plain tells of data -/
mutual
def plainD : PyData → PyData
  | .list xs => .list (.bool true :: plainDs xs)
  | .tuple xs => .list (.bool false :: plainDs xs)
  | .none => .str "None"
  | .bool b => .str (if b then "True" else "False")
  | .int i => .list [.bool false, .int i]
  | .str x => .list [.bool true, .str x]
  | .dict _ => .str "another"
def plainDs : List PyData → List PyData
  | [] => []
  | x :: xs => plainD x :: plainDs xs
end
theorem plainDs_length : ∀ ds : List PyData, (plainDs ds).length = ds.length
  | [] => rfl
  | x :: xs => by simp only [plainDs, List.length_cons, plainDs_length xs]
theorem plainDs_take {d : PyData} : ∀ {ds : List PyData} {i : Nat}, ds[i]? = some d → plainDs (ds.take (i + 1)) = plainDs (ds.take i) ++ [plainD d]
  | [], i, e => by simp at e
  | x :: xs, 0, e => by
    have := Option.some.inj e
    subst this
    simp [plainDs]
  | x :: xs, i + 1, e => by
    rw [List.getElem?_cons_succ] at e
    have := plainDs_take e
    simp only [List.take_succ_cons, plainDs, this, List.cons_append]
mutual
theorem plainD_ok : ∀ (n : Nat) (d : PyData), okD n d = true → okDx (n + 1) (plainD d) = true
  | n, .none, _ => by simp only [plainD, okDx]; decide +kernel
  | n, .bool b, _ => by cases b <;> simp only [plainD, okDx] <;> decide +kernel
  | n, .int i, _ => by simp only [plainD, okDx, okDxs, Bool.and_self]
  | n, .str x, h => by
    simp only [okD] at h
    simp [plainD, okDx, okDxs, h]
  | 0, .list _, h => by simp [okD] at h
  | n + 1, .list xs, h => by
    simp only [okD, Bool.and_eq_true, decide_eq_true_eq] at h
    have := plainDs_ok n xs h.2
    simp [plainD, okDx, okDxs, this]
  | 0, .tuple _, h => by simp [okD] at h
  | n + 1, .tuple xs, h => by
    simp only [okD, Bool.and_eq_true, decide_eq_true_eq] at h
    have := plainDs_ok n xs h.2
    simp [plainD, okDx, okDxs, this]
  | _, .dict _, h => by simp [okD] at h
theorem plainDs_ok : ∀ (n : Nat) (ds : List PyData), okDs n ds = true → okDxs (n + 1) (plainDs ds) = true
  | _, [], _ => by simp [plainDs, okDxs]
  | n, x :: xs, h => by
    simp only [okDs, Bool.and_eq_true] at h
    have a := plainD_ok n x h.1
    have b := plainDs_ok n xs h.2
    simp [plainDs, okDxs, a, b]
end

/-! ### more of the deck -/
def SameBut (d : Addr) (H H' : Hp) : Prop := ∀ b o, b ≠ d → H b = some o → H' b = some o
def sp_number0 : Sp := fun vs H Q _ => ∃ (d : Addr) (D : List Int), vs = [.ref d] ∧ H d = some (dk D) ∧ ∀ (n : Int) (D' : List Int) (H' : Hp), SameBut d H H' → H' d = some (dk D') → n.natAbs < 2 ^ 130 → Q (.int n) H'
@[irreducible] def sp_number : Sp := sp_number0
theorem sp_number_eq : sp_number = sp_number0 := by unfold sp_number; rfl
/-- G: what stands still; the deck at d moves -/
structure Dk (G H : Hp) (d : Addr) (D : List Int) : Prop where
  nd : G d = none
  sm : Same G H
  hd : H d = some (dk D)
section
variable {G H H' : Hp} {d p : Addr} {D D' : List Int} {o : HO}
theorem Dk.take (k : Dk G H d D) : Dk G (upd H d (dk D')) d D' := ⟨k.nd, k.sm.mut k.nd, upd_same⟩
theorem Dk.new (k : Dk G H d D) (h : H p = none) : Dk (upd G p o) (upd H p o) d D := by
  have n : d ≠ p := ne_of_none k.hd h
  refine ⟨by rw [upd_ne n]; exact k.nd, fun b u e => ?_, by rw [upd_ne n]; exact k.hd⟩
  by_cases q : b = p
  · rw [q, upd_same] at e
    rw [q, upd_same]
    exact e
  · rw [upd_ne q] at e
    rw [upd_ne q]
    exact k.sm b u e
theorem Dk.same (k : Dk G H d D) (s : Same H H') : Dk G H' d D := ⟨k.nd, k.sm.trans s, s _ _ k.hd⟩
theorem Dk.but (k : Dk G H d D) (s : SameBut d H H') (h : H' d = some (dk D')) : Dk G H' d D' := ⟨k.nd, fun b u e => s b u (ne_of_none e k.nd) (k.sm b u e), h⟩
theorem Dk.ne (k : Dk G H d D) (h : G p = some o) : p ≠ d := ne_of_none h k.nd
theorem Dk.fresh (k : Dk G H d D) (h : H p = none) : G p = none := k.sm.free h
end
theorem atI_nat' {α : Type} {xs : List α} {i : Int} {j : Nat} {v : α} (e : i = (j : Int)) (h : xs[j]? = some v) : atI xs i = some v := by
  rw [e]
  exact atI_nat h
theorem atI_ints {ns : List Int} {i : Int} (h0 : 0 ≤ i) (h1 : i < (ns.length : Int)) : ∃ z, atI (ns.map V.int) i = some (.int z) ∧ z ∈ ns := by
  have hl : i.toNat < ns.length := by omega
  refine ⟨ns[i.toNat], atI_nat' (j := i.toNat) (by omega) ?_, List.getElem_mem hl⟩
  rw [List.getElem?_map, List.getElem?_eq_getElem hl]
  rfl
theorem small1000000 {n : Nat} (h : n ≤ 1000000) : n < sizeLine := by
  rw [sizeLine_eq]
  omega
theorem two_pow_mono {a b : Nat} (h : a ≤ b) : (2 : Int) ^ a ≤ 2 ^ b := by
  have := Nat.pow_le_pow_right (n := 2) (by decide) h
  have e : ∀ c : Nat, ((2 ^ c : Nat) : Int) = (2 : Int) ^ c := fun c => by rw [Int.natCast_pow]; rfl
  rw [← e, ← e]
  omega
/-- x is True -/
def rIsT : R2 := fun x y H Q => (∃ a b : Bool, x = .bl a ∧ y = .bl b ∧ Q (.bl (decide (a = b))) H) ∨ (x = .non ∧ ∃ b, y = .bl b ∧ Q (.bl false) H)
theorem op_isT {X : Cx} : OpR X (compareOp .Is) rIsT := by
  intro pins s σ H x y v u Q I rx ry h
  rcases h with h | ⟨rfl, b, rfl, k⟩
  · exact op_isBl pins s σ H x y v u Q I rx ry h
  · cases (show v = Value.none from rx)
    cases (show u = Value.bool b from ry)
    exact wpAny_is_other rfl (fun z => nomatch z) ⟨.bl false, H, I, rfl, k⟩
theorem kind_l {K : PySem.W.Frag} {H : Hp} {a : Addr} {xs : List V} (h : SqL K H a xs) : TyX K H (.ref a) (.type "list") := by
  rcases h with (h | ⟨o, h⟩) | ⟨o, _, _, h, c, _⟩
  · exact .base (.lst h)
  · exact .base (.frz h)
  · exact .kList h c
theorem kind_t {K : PySem.W.Frag} {H : Hp} {a : Addr} {xs : List V} (h : SqT K H a xs) : TyX K H (.ref a) (.type "tuple") := by
  rcases h with (h | ⟨o, h⟩) | ⟨o, _, _, h, c, _⟩
  · exact .base (.tup h)
  · exact .fTuple h
  · exact .kTuple h c
theorem kit2 {K : PySem.W.Frag} {a b c : String} {r1 r2 : Bool} (h1 : kitB a b = some r1) (h2 : kitB a c = some r2) : PySem.W.kitAny K (.type a) [.type b, .type c] = some (r1 || r2) := by
  cases r1 with
  | true => exact kitAny_cons (b := true) (kit_ty h1) (fun z => nomatch z) fun _ => rfl
  | false =>
    refine kitAny_cons (b := false) (kit_ty h1) (fun _ => ?_) (fun z => nomatch z)
    exact kitAny_cons (b := r2) (kit_ty h2) (fun z => by subst z; exact kitAny_nil) fun z => by subst z; rfl
def sp_plain (K : PySem.W.Frag) (n : Nat) : Sp := fun vs H Q _ => ∃ (v : V) (d : PyData), vs = [v] ∧ Dp K H v d ∧ okD n d = true ∧ ∀ (v' : V) (H' : Hp), Same H H' → DN (fun a => H a = none) H' v' (plainD d) → Q v' H'
/-- isinstance(x, (A, B)), the tuple just made at p -/
theorem isi_pair {K : PySem.W.Frag} {H : Hp} {p : Addr} {x : V} {t A B : String} {r1 r2 : Bool} {Q : VK} (h1 : kitB t A = some r1) (h2 : kitB t B = some r2) (hx : TyX K (upd H p (.tup [.ty A, .ty B])) x (.type t)) (k : Q (.bl (r1 || r2)) (upd H p (.tup [.ty A, .ty B]))) :
    rIsiT K [x, .ref p] (upd H p (.tup [.ty A, .ty B])) Q :=
  ⟨x, p, _, _, _, _, rfl, upd_same, .cons (.ty A) (.cons (.ty B) .nil), hx, kit2 h1 h2, k⟩
theorem _root_.L2.TyX.new {K : PySem.W.Frag} {H : Hp} {x : V} {T : String} {p : Addr} {o : HO} (h : TyX K H x (.type T)) (hp : H p = none) : TyX K (upd H p o) x (.type T) := by
  have s : Same H (upd H p o) := Same.new hp
  generalize e : Value.type T = t at h
  cases h with
  | base b =>
    cases b with
    | non => exact .base .non
    | bl y => exact .base (.bl y)
    | int i => exact .base (.int i)
    | str y => exact .base (.str y)
    | flt y => exact .base (.flt y)
    | lst q => exact .base (.lst (s _ _ q))
    | frz q => exact .base (.frz (s _ _ q))
    | tup q => exact .base (.tup (s _ _ q))
    | dK q => exact .base (.dK (s _ _ q))
    | dT q => exact .base (.dT (s _ _ q))
    | ins q => cases e
  | byt b => exact .byt b
  | set q => exact .set (s _ _ q)
  | kList q c => exact .kList q c
  | kTuple q c => exact .kTuple q c
  | kDict q c => exact .kDict q c
  | fTuple q => exact .fTuple (s _ _ q)
  | fDict q => exact .fDict (s _ _ q)

/-- two plain tellings of the same data are equal -/
theorem plain_same {K : PySem.W.Frag} {S S' : Addr → Prop} {H1 H3 : Hp} {v1 v2 : V} {d : PyData} {Q : VK} {n : Nat} (h1 : DN S H1 v1 (plainD d)) (hs : Same H1 H3) (h2 : DN S' H3 v2 (plainD d)) (ok : okD n d = true) (hn : n ≤ 60) (k : Q (.bl false) H3) : rNeD K v1 v2 H3 Q := by
  have sh := okDx_shaped (plainD_ok n d ok) (by omega)
  refine ⟨plainD d, plainD d, dp_same hs _ _ (DN.dp _ _ h1), DN.dp _ _ h2, sh, sh, ?_⟩
  rw [SeqAt.eqv_refl _ (SeqAt.canLay_of_shaped sh)]
  exact k
/-- .. as a test that then fails -/
theorem plain_test {K : PySem.W.Frag} {S S' : Addr → Prop} {H1 H3 : Hp} {v1 v2 : V} {d : PyData} {Q : Bool → Hp → Prop} (n : Nat) (h1 : DN S H1 v1 (plainD d)) (hs : Same H1 H3) (h2 : DN S' H3 v2 (plainD d)) (ok : okD n d = true) (hn : n ≤ 60) (k : Q false H3) : rNeD K v1 v2 H3 fun x H' => ∃ b, x = .bl b ∧ Q b H' :=
  plain_same h1 hs h2 ok hn ⟨false, rfl, k⟩
theorem gcd_cdiv {x y : Int} (i : Int) (h : y ≠ 0) (hy : y.natAbs < 2 ^ 8000) : CDivZ i ((Nat.gcd x.natAbs y.natAbs : Nat) : Int) ∧ CDivZ i (-((Nat.gcd x.natAbs y.natAbs : Nat) : Int)) := by
  have h1 : Nat.gcd x.natAbs y.natAbs ≤ y.natAbs := Nat.gcd_le_right _ (by omega)
  have h0 : 0 < Nat.gcd x.natAbs y.natAbs := Nat.gcd_pos_of_pos_right _ (by omega)
  generalize hg : Nat.gcd x.natAbs y.natAbs = g at h1 h0
  have hb : g < 2 ^ 8000 := Nat.lt_of_le_of_lt h1 hy
  exact ⟨cdivZ_of (b := 8000) (by omega) (by rw [Int.natAbs_natCast]; exact hb) (by decide) (by decide), cdivZ_of (b := 8000) (by omega) (by rw [Int.natAbs_neg, Int.natAbs_natCast]; exact hb) (by decide) (by decide)⟩
/-- what two ways have in common behind them, shown once -/
theorem cutP {X Y : Prop} (f : X → Y) (x : X) : Y := f x
theorem Dk.weak {G H : Hp} {d : Addr} {D : List Int} (k : Dk G H d D) : Dk (fun _ => none) H d D := ⟨rfl, same_none, k.hd⟩

/-! ### taking from the deck, the heap behind it not told -/
section
variable {Kf : PySem.W.Frag} {G H : Hp} {d l : Addr} {D : List Int} {Q : VK}
theorem take_q (K1 : Dk G H d D) {m : Int} (hm : 0 < m) (k : ∀ z H2, 0 ≤ z → z < m → Dk G H2 d D.tail → Q (.int z) H2) : sp_take [.ref d, .int m] H Q E0 := by
  rw [sp_take_eq]
  exact ⟨d, D, m, rfl, K1.hd, hm, k _ _ (tk_nonneg D hm) (tk_lt D hm) K1.take⟩
/-- .. the heap told -/
theorem take_u {H : Hp} {d : Addr} {D : List Int} {Q : VK} (hd : H d = some (dk D)) {m : Int} (hm : 0 < m) (k : Q (.int (tk D m)) (upd H d (dk D.tail))) : sp_take [.ref d, .int m] H Q E0 := by
  rw [sp_take_eq]
  exact ⟨d, D, m, rfl, hd, hm, k⟩
/-- [n, ..][_law_take(deck, how many)] -/
theorem pick (K1 : Dk G H d D) (hl : H l = none) (ns : List Int) (h : 0 < ns.length) (k : ∀ z H2, z ∈ ns → Dk G H2 d D.tail → Q (.int z) H2) : sp_take [.ref d, .int (ns.length : Int)] (upd H l (.lst (ns.map V.int))) (fun v H2 => rIxL Kf (.ref l) v H2 Q) E0 := by
  rw [sp_take_eq]
  have hm : (0 : Int) < (ns.length : Int) := by omega
  have K2 := K1.new (o := .lst (ns.map V.int)) hl
  have n : d ≠ l := ne_of_none K1.hd hl
  refine ⟨d, D, _, rfl, K2.hd, hm, ?_⟩
  have K3 := K2.take (D' := D.tail)
  obtain ⟨z, hz, hm⟩ := atI_ints (tk_nonneg D hm) (tk_lt D hm)
  refine ⟨l, _, _, _, rfl, rfl, SqL.of (K3.sm _ _ upd_same), hz, k _ _ hm ⟨K1.nd, ?_, K3.hd⟩⟩
  have g : G l = none := K1.sm.free hl
  exact (Same.new g).trans K3.sm
theorem number_q (K1 : Dk G H d D) (k : ∀ n D' H2, n.natAbs < 2 ^ 130 → Dk G H2 d D' → Q (.int n) H2) : sp_number [.ref d] H Q E0 := by
  rw [sp_number_eq]
  exact ⟨d, D, rfl, K1.hd, fun n D' H' s h hn => k n D' H' hn (K1.but s h)⟩
end
theorem abs_nat (x : Int) : (if x < 0 then -x else x) = (x.natAbs : Int) := by split <;> omega

/-! ### fractions in lowest terms -/
/-- the greatest common divisor, with the sign of what is below -/
def frC (x y : Int) : Int := if y < 0 then -((Nat.gcd x.natAbs y.natAbs : Nat) : Int) else ((Nat.gcd x.natAbs y.natAbs : Nat) : Int)
def frA (x y : Int) : Int := x.fdiv (frC x y)
def frB (x y : Int) : Int := y.fdiv (frC x y)
theorem fdiv_mul_self {c p : Int} (h : c ≠ 0) : (c * p).fdiv c = p := Int.mul_fdiv_cancel_left p h
/-- what a fraction in lowest terms is -/
theorem fr_spec {x y : Int} (h : y ≠ 0) : x = frC x y * frA x y ∧ y = frC x y * frB x y ∧ 0 < frB x y ∧ frC x y ≠ 0 ∧ (0 < frC x y ↔ 0 < y) ∧ frB x y ≤ y.natAbs ∧ Nat.gcd (frA x y).natAbs (frB x y).natAbs = 1 := by
  have h0 : 0 < Nat.gcd x.natAbs y.natAbs := Nat.gcd_pos_of_pos_right _ (by omega)
  have hx : frC x y ∣ x := by
    unfold frC
    split
    · exact Int.neg_dvd.mpr (Int.ofNat_dvd_left.mpr (Nat.gcd_dvd_left _ _))
    · exact Int.ofNat_dvd_left.mpr (Nat.gcd_dvd_left _ _)
  have hy : frC x y ∣ y := by
    unfold frC
    split
    · exact Int.neg_dvd.mpr (Int.ofNat_dvd_left.mpr (Nat.gcd_dvd_right _ _))
    · exact Int.ofNat_dvd_left.mpr (Nat.gcd_dvd_right _ _)
  have hn : (frC x y).natAbs = Nat.gcd x.natAbs y.natAbs := by
    unfold frC
    split <;> omega
  have hc0 : frC x y ≠ 0 := by omega
  have hs : (0 < frC x y ↔ 0 < y) := by
    unfold frC
    split <;> constructor <;> omega
  obtain ⟨p, hp⟩ := hx
  obtain ⟨q, hq⟩ := hy
  have e1 : frA x y = p := by
    unfold frA
    generalize frC x y = c at hp hc0
    rw [hp, fdiv_mul_self hc0]
  have e2 : frB x y = q := by
    unfold frB
    generalize frC x y = c at hq hc0
    rw [hq, fdiv_mul_self hc0]
  have na1 : x.natAbs = (frC x y).natAbs * p.natAbs := by
    rw [← Int.natAbs_mul, ← hp]
  have na2 : y.natAbs = (frC x y).natAbs * q.natAbs := by
    rw [← Int.natAbs_mul, ← hq]
  have q0 : q ≠ 0 := fun z => by
    rw [z, Int.mul_zero] at hq
    exact h hq
  refine ⟨by rw [e1]; exact hp, by rw [e2]; exact hq, ?_, hc0, hs, ?_, ?_⟩
  · rw [e2]
    rcases Int.lt_trichotomy q 0 with z | z | z
    · exfalso
      by_cases yp : 0 < y
      · have := Int.mul_neg_of_pos_of_neg (hs.mpr yp) z
        omega
      · have cn : frC x y < 0 := by
          have : ¬ 0 < frC x y := fun w => yp (hs.mp w)
          omega
        have := Int.mul_pos_of_neg_of_neg cn z
        omega
    · exact absurd z q0
    · exact z
  · rw [e2]
    have : q.natAbs ≤ y.natAbs := by
      rw [na2]
      exact Nat.le_mul_of_pos_left _ (by omega)
    omega
  · rw [e1, e2]
    have e3 : Nat.gcd x.natAbs y.natAbs = (frC x y).natAbs * Nat.gcd p.natAbs q.natAbs := by
      rw [na1, na2, Nat.gcd_mul_left]
    rw [hn] at e3
    have : Nat.gcd x.natAbs y.natAbs * Nat.gcd p.natAbs q.natAbs = Nat.gcd x.natAbs y.natAbs * 1 := by omega
    exact Nat.eq_of_mul_eq_mul_left h0 this
def sp_fraction (C : Addr) : Sp := fun vs H Q E => ∃ x y : Int, vs = [.int x, .int y] ∧ y.natAbs < 2 ^ 8000 ∧ (y = 0 → raisesW C "fraction" H E) ∧ (y ≠ 0 → ∀ p, H p = none → Q (.ref p) (upd H p (.tup [.int (frA x y), .int (frB x y)])))
def sp_lawgcd : Sp := fun vs H Q _ => ∃ x y : Int, vs = [.int x, .int y] ∧ Q (.int ((Nat.gcd x.natAbs y.natAbs : Nat) : Int)) H
def sp_lawfraction : Sp := fun vs H Q _ => ∃ x y : Int, vs = [.int x, .int y] ∧ y.natAbs < 2 ^ 8000 ∧ y ≠ 0 ∧ ∀ p, H p = none → Q (.ref p) (upd H p (.tup [.int (frA x y), .int (frB x y)]))

theorem dpAll_ints {K : PySem.W.Frag} {H : Hp} : ∀ ns : List Int, DpAll K H (ns.map V.int) (ns.map PyData.int)
  | [] => .nil
  | n :: ns => .cons (.int n) (dpAll_ints ns)
theorem dp_ints {K : PySem.W.Frag} {H : Hp} {p : Addr} {ns : List Int} (h : SqL K H p (ns.map V.int)) : Dp K H (.ref p) (.list (ns.map PyData.int)) := .lst h (dpAll_ints ns)
theorem okDs_ints {n : Nat} : ∀ ns : List Int, okDs n (ns.map PyData.int) = true
  | [] => by simp [okDs]
  | x :: ns => by simp only [List.map_cons, okDs, okD, Bool.true_and]; exact okDs_ints ns
theorem ok_ints {n : Nat} {ns : List Int} (h : ns.length ≤ 1000) : okD (n + 1) (.list (ns.map PyData.int)) = true := by
  simp only [okD, Bool.and_eq_true, decide_eq_true_eq, List.length_map]
  exact ⟨h, okDs_ints ns⟩
theorem okDx_ints {n : Nat} : ∀ ns : List Int, okDxs n (ns.map PyData.int) = true
  | [] => by simp [okDxs]
  | x :: ns => by simp only [List.map_cons, okDxs, okDx, Bool.true_and]; exact okDx_ints ns
theorem shaped_ints (ns : List Int) : SeqAt.shaped (.list (ns.map PyData.int)) = true := okDx_shaped (n := 1) (by simp only [okDx]; exact okDx_ints ns) (by decide)
/-- two int lists that are the same: != says no -/
theorem ints_same {K : PySem.W.Frag} {H : Hp} {p q : Addr} {ns : List Int} {Q : VK} (h1 : SqL K H p (ns.map V.int)) (h2 : SqL K H q (ns.map V.int)) (k : Q (.bl false) H) : rNeD K (.ref p) (.ref q) H Q := by
  refine ⟨_, _, dp_ints h1, dp_ints h2, shaped_ints ns, shaped_ints ns, ?_⟩
  rw [SeqAt.eqv_refl _ (SeqAt.canLay_of_shaped (shaped_ints ns))]
  exact k

theorem Dk.add {G H : Hp} {d q : Addr} {D : List Int} {o : HO} (k : Dk G H d D) (h : H q = some o) (n : q ≠ d) : Dk (upd G q o) H d D :=
  ⟨by rw [upd_ne (Ne.symm n)]; exact k.nd, fun b u e => by
    by_cases z : b = q
    · rw [z, upd_same] at e
      rw [z, h]
      exact e
    · rw [upd_ne z] at e
      exact k.sm b u e, k.hd⟩
theorem Dk.keep {G G' H : Hp} {d : Addr} {D : List Int} (k : Dk G H d D) (h : G' d = none) (s : Same G' H) : Dk G' H d D := ⟨h, s, k.hd⟩
/-! ### comprehensions whose element does nothing to the heap -/
theorem lc_pure {K : PySem.W.Frag} {a : Addr} {xs : List V} {te : TE} {vs : List Nat} {σ : L2.St} {H1 : Hp} {D : Addr} {Qd : Hp → Prop} {j : Nat} (f : Nat → V → V) (hx : SqL K H1 a xs) (hD : H1 D = none) (hz : xs.length ≤ 1000000) (hw : ∀ x, wipe ((wipe σ vs).set j (some x)) vs = wipe σ vs)
    (hs : ∀ i x H', xs[i]? = some x → Same H1 H' → ∀ Q : VK, Q (f i x) H' → te ((wipe σ vs).set j (some x)) H' Q) (hd : Qd (upd H1 D (.lst (xs.mapIdx f)))) :
    ∃ W : Nat → Nat → Hp → Prop, (∃ m, W 0 m (upd H1 D (.lst []))) ∧ ∀ i m H, W i m H →
      ((Itl K a).stop i H ∧ Qd H) ∨ ((Itl K a).go i H ∧ ∃ Nx : Hp → Prop, (∀ H', Nx H' → ∃ m', m' < m ∧ W (i + 1) m' H') ∧ ∀ x H', (Itl K a).yld i H x H' → gName j x (wipe σ vs) H' fun σ2 H2 => wipe σ2 vs = wipe σ vs ∧ tYes σ2 H2 fun b H3 =>
        if b = true then te σ2 H3 fun y H4 => ∃ acc, H4 D = some (.lst acc) ∧ acc.length < sizeLine ∧ Nx (upd H4 D (.lst (acc ++ [y]))) else Nx H3) := by
  have tk : ∀ (l : List V) (g : Nat → V → V) (i : Nat) (x : V), l[i]? = some x → (l.mapIdx g).take (i + 1) = (l.mapIdx g).take i ++ [g i x] := by
    intro l g i x e
    have h1 : (l.mapIdx g)[i]? = some (g i x) := by rw [List.getElem?_mapIdx, e]; rfl
    rw [List.take_add_one, h1]
    rfl
  refine lc_list (K := K) (a := a) (xs := xs) (fun i H' => H' = upd H1 D (.lst ((xs.mapIdx f).take i))) (by rw [List.take_zero]) (fun i H' _ q => by subst q; exact (Same.new hD).seq hx) ?_ ?_
  · rintro i x H' hi rfl
    have hi1 := (List.getElem?_eq_some_iff.mp hi).1
    refine ⟨hw x, ?_⟩
    show te _ _ _
    refine hs i x _ hi (Same.new hD) _ ?_
    refine ⟨_, upd_same, small1000000 (by rw [List.length_take]; omega), ?_⟩
    rw [upd_upd, tk xs f i x hi]
  · rintro H' rfl
    have e : (xs.mapIdx f).take xs.length = xs.mapIdx f := by
      have : (xs.mapIdx f).length = xs.length := List.length_mapIdx
      rw [← this, List.take_length]
    rw [e]
    exact hd
theorem pickV {Kf : PySem.W.Frag} {G H : Hp} {d l : Addr} {D : List Int} {Q : VK} (K1 : Dk G H d D) (hl : H l = none) (ns : List V) (h : 0 < ns.length) (k : ∀ z H2, z ∈ ns → Dk G H2 d D.tail → Q z H2) : sp_take [.ref d, .int (ns.length : Int)] (upd H l (.lst ns)) (fun v H2 => rIxL Kf (.ref l) v H2 Q) E0 := by
  rw [sp_take_eq]
  have hm : (0 : Int) < (ns.length : Int) := by omega
  have K2 := K1.new (o := .lst ns) hl
  refine ⟨d, D, _, rfl, K2.hd, hm, ?_⟩
  have K3 := K2.take (D' := D.tail)
  have b0 := tk_nonneg D hm
  have b1 := tk_lt D hm
  have hj : (tk D (ns.length : Int)).toNat < ns.length := by omega
  refine ⟨l, _, _, _, rfl, rfl, SqL.of (K3.sm _ _ upd_same), atI_nat' (j := (tk D (ns.length : Int)).toNat) (by omega) (List.getElem?_eq_getElem hj), k _ _ (List.getElem_mem hj) ⟨K1.nd, ?_, K3.hd⟩⟩
  exact (Same.new (K1.sm.free hl)).trans K3.sm
/-- an item of a list at a written place -/
theorem ix_at {Kf : PySem.W.Frag} {H : Hp} {p : Addr} {xs : List V} {v : V} {Q : VK} (j : Nat) (h : SqL Kf H p xs) (hv : xs[j]? = some v) (k : Q v H) : rIxL Kf (.ref p) (.int (j : Int)) H Q := ⟨p, xs, _, v, rfl, rfl, h, atI_nat hv, k⟩

/-! ### walks of what may be a list or a tuple -/
def SqX (K : PySem.W.Frag) (H : Hp) (a : Addr) (xs : List V) : Prop := SqL K H a xs ∨ SqT K H a xs
theorem SqX.mono {K : PySem.W.Frag} {H H' : Hp} {a : Addr} {xs : List V} (h : SqX K H a xs) (s : Same H H') : SqX K H' a xs := by
  rcases h with h | h
  · exact .inl (s.seq h)
  · exact .inr (s.tup h)
def iSeq (K : PySem.W.Frag) (tl : TE) : TI := fun σ H R => tl σ H fun x H1 => ∃ a, x = .ref a ∧ (((∃ xs, SqL K H1 a xs) ∧ R (Itl K a) H1) ∨ ((∃ xs, SqT K H1 a xs) ∧ R (Itt K a) H1))
theorem pi_seq {X : Cx} {tg l : Expr} {tl : TE} (hl : PE X l tl) : PI X tg l (iSeq X.K tl) := by
  refine ⟨fun pins s σ H R I h => thn (hl.run pins s σ H _ I h) fun v s1 ⟨x, H1, I1, r1, a, e, q⟩ => ?_⟩
  subst e
  cases r1
  have fresh : ∀ b ∈ [s1.heap.objs.size], FpOk X pins H1 b := by
    intro b hb
    rw [List.mem_singleton] at hb
    rw [hb]
    exact I1.fpOk (Nat.le_refl _) (I1.hok.fresh (Nat.le_refl _))
  rcases q with ⟨⟨xs, hq⟩, q⟩ | ⟨⟨xs, hq⟩, q⟩
  · obtain ⟨its, rv, pl, hz⟩ := I1.list hq
    exact wpAny_pyIter_list pl.isList ⟨_, _, _, _, H1, rfl, I1.kept (t' := s1.toks) (fun b o e => Heap.get?_push_of_some _ e), turn_list a _, ⟨_, Heap.get?_push_size _ rfl, rfl, rfl⟩, fresh, q⟩
  · obtain ⟨its, rv, pl, hz⟩ := I1.tuple hq
    exact wpAny_pyIter_tuple (show s1.heap.IsTuple a its.toArray from pl) ⟨_, _, _, _, H1, rfl, I1.kept (t' := s1.toks) (fun b o e => Heap.get?_push_of_some _ e), turn_tuple a _, ⟨_, Heap.get?_push_size _ rfl, rfl, rfl⟩, fresh, q⟩
/-- what a for loop asks of its walk J -/
def forR (g : TG) (tb : TS) (D : Ends) (σ : L2.St) (J : It) (H1 : Hp) : Prop := ∃ W : Nat → Nat → L2.St → Hp → Prop, (∃ m, W 0 m σ H1) ∧ ∀ i m σ H, W i m σ H →
  (J.stop i H ∧ D.nx σ H) ∨ (J.go i H ∧ ∃ N : L2.St → Hp → Prop, (∀ σ' H', N σ' H' → ∃ m', m' < m ∧ W (i + 1) m' σ' H') ∧ ∀ x H', J.yld i H x H' → g x σ H' fun σ2 H2 => tb { D with nx := N, ct := N, bk := D.nx } σ2 H2)
/-- .. a list or a tuple; G: where it stands -/
theorem for_seq {K : PySem.W.Frag} {a : Addr} {xs : List V} {g : TG} {tb : TS} {D : Ends} {σ : L2.St} {H G : Hp} (hq : SqX K G a xs) (Pv : Nat → L2.St → Hp → Prop) (h0 : Pv 0 σ H) (hl : ∀ i σ H, Pv i σ H → Same G H)
    (hs : ∀ i x σ H, xs[i]? = some x → Pv i σ H → g x σ H fun σ2 H2 => tb { D with nx := Pv (i + 1), ct := Pv (i + 1), bk := D.nx } σ2 H2) (hd : ∀ σ H, Pv xs.length σ H → D.nx σ H) :
    ((∃ xs, SqL K H a xs) ∧ forR g tb D σ (Itl K a) H) ∨ ((∃ xs, SqT K H a xs) ∧ forR g tb D σ (Itt K a) H) := by
  rcases hq with hq | hq
  · exact .inl ⟨⟨xs, (hl _ _ _ h0).seq hq⟩, for_list (K := K) (a := a) (xs := xs) Pv h0 (fun i σ H _ p => (hl i σ H p).seq hq) hs hd⟩
  · exact .inr ⟨⟨xs, (hl _ _ _ h0).tup hq⟩, for_tup (K := K) (a := a) (xs := xs) Pv h0 (fun i σ H _ p => (hl i σ H p).tup hq) hs hd⟩
/-- what a comprehension asks of its walk J -/
def lcR (g : TG) (tt : TT) (te : TE) (vs : List Nat) (σ : L2.St) (Q : VK) (J : It) (H1 : Hp) : Prop := ∀ D, H1 D = none → ∃ W : Nat → Nat → Hp → Prop, (∃ m, W 0 m (upd H1 D (.lst []))) ∧ ∀ i m H, W i m H →
  (J.stop i H ∧ Q (.ref D) H) ∨ (J.go i H ∧ ∃ Nx : Hp → Prop, (∀ H', Nx H' → ∃ m', m' < m ∧ W (i + 1) m' H') ∧ ∀ x H', J.yld i H x H' → g x (wipe σ vs) H' fun σ2 H2 => wipe σ2 vs = wipe σ vs ∧ tt σ2 H2 fun b H3 =>
    if b = true then te σ2 H3 fun y H4 => ∃ acc, H4 D = some (.lst acc) ∧ acc.length < sizeLine ∧ Nx (upd H4 D (.lst (acc ++ [y]))) else Nx H3)
theorem lc_seq {K : PySem.W.Frag} {a : Addr} {xs : List V} {g : TG} {tt : TT} {te : TE} {vs : List Nat} {σ : L2.St} {H1 G : Hp} {Q : VK} (hq : SqX K G a xs) (s : Same G H1) (Pv : Addr → Nat → Hp → Prop) (h0 : ∀ D, H1 D = none → Pv D 0 (upd H1 D (.lst []))) (hl : ∀ D i H, Pv D i H → Same G H)
    (hs : ∀ D, H1 D = none → ∀ i x H, xs[i]? = some x → Pv D i H → g x (wipe σ vs) H fun σ2 H2 => wipe σ2 vs = wipe σ vs ∧ tt σ2 H2 fun b H3 =>
      if b = true then te σ2 H3 fun y H4 => ∃ acc, H4 D = some (.lst acc) ∧ acc.length < sizeLine ∧ Pv D (i + 1) (upd H4 D (.lst (acc ++ [y]))) else Pv D (i + 1) H3) (hd : ∀ D, H1 D = none → ∀ H, Pv D xs.length H → Q (.ref D) H) :
    ((∃ xs, SqL K H1 a xs) ∧ lcR g tt te vs σ Q (Itl K a) H1) ∨ ((∃ xs, SqT K H1 a xs) ∧ lcR g tt te vs σ Q (Itt K a) H1) := by
  rcases hq with hq | hq
  · exact .inl ⟨⟨xs, s.seq hq⟩, fun D hD => lc_list (K := K) (a := a) (xs := xs) (Pv D) (h0 D hD) (fun i H _ p => (hl D i H p).seq hq) (hs D hD) (hd D hD)⟩
  · exact .inr ⟨⟨xs, s.tup hq⟩, fun D hD => lc_tup (K := K) (a := a) (xs := xs) (Pv D) (h0 D hD) (fun i H _ p => (hl D i H p).tup hq) (hs D hD) (hd D hD)⟩
/-- data that is a sequence -/
def seqD (isL : Bool) (ds : List PyData) : PyData := if isL then .list ds else .tuple ds
theorem dp_seq {K : PySem.W.Frag} {H : Hp} {v : V} {isL : Bool} {ds : List PyData} (h : Dp K H v (seqD isL ds)) : ∃ a xs, v = .ref a ∧ SqX K H a xs ∧ DpAll K H xs ds := by
  cases isL with
  | true =>
    cases (show Dp K H v (.list ds) from h) with
    | lst h1 h2 => exact ⟨_, _, rfl, .inl h1, h2⟩
  | false =>
    cases (show Dp K H v (.tuple ds) from h) with
    | tup h1 h2 => exact ⟨_, _, rfl, .inr h1, h2⟩
theorem dp_tup {K : PySem.W.Frag} {H : Hp} {v : V} {ds : List PyData} (h : Dp K H v (.tuple ds)) : ∃ a xs, v = .ref a ∧ SqT K H a xs ∧ DpAll K H xs ds := by
  cases h with
  | tup h1 h2 => exact ⟨_, _, rfl, h1, h2⟩
theorem dp_lst {K : PySem.W.Frag} {H : Hp} {v : V} {ds : List PyData} (h : Dp K H v (.list ds)) : ∃ a xs, v = .ref a ∧ SqL K H a xs ∧ DpAll K H xs ds := by
  cases h with
  | lst h1 h2 => exact ⟨_, _, rfl, h1, h2⟩
theorem dpAll_two {K : PySem.W.Frag} {H : Hp} {xs : List V} {d e : PyData} (h : DpAll K H xs [d, e]) : ∃ v w, xs = [v, w] ∧ Dp K H v d ∧ Dp K H w e := by
  cases h with
  | cons h1 h2 => cases h2 with
    | cons h2 h3 => cases h3; exact ⟨_, _, rfl, h1, h2⟩
theorem dpAll_three {K : PySem.W.Frag} {H : Hp} {xs : List V} {d e f : PyData} (h : DpAll K H xs [d, e, f]) : ∃ v w z, xs = [v, w, z] ∧ Dp K H v d ∧ Dp K H w e ∧ Dp K H z f := by
  cases h with
  | cons h1 h2 =>
    obtain ⟨v, w, rfl, h3, h4⟩ := dpAll_two h2
    exact ⟨_, _, _, rfl, h1, h3, h4⟩
theorem dp_int {K : PySem.W.Frag} {H : Hp} {v : V} {i : Int} (h : Dp K H v (.int i)) : v = .int i := by cases h; rfl
theorem dp_str {K : PySem.W.Frag} {H : Hp} {v : V} {i : Str} (h : Dp K H v (.str i)) : v = .str i := by cases h; rfl
theorem dpAll_app {K : PySem.W.Frag} {H : Hp} : ∀ {xs ys : List V} {ds es : List PyData}, DpAll K H xs ds → DpAll K H ys es → DpAll K H (xs ++ ys) (ds ++ es)
  | _, _, _, _, .nil, h => h
  | _, _, _, _, .cons h t, h2 => .cons h (dpAll_app t h2)
theorem dpAll_take {K : PySem.W.Frag} {H : Hp} : ∀ {xs : List V} {ds : List PyData} (n : Nat), DpAll K H xs ds → DpAll K H (xs.take n) (ds.take n)
  | _, _, 0, _ => by rw [List.take_zero, List.take_zero]; exact .nil
  | _, _, n + 1, .nil => .nil
  | _, _, n + 1, .cons h t => .cons h (dpAll_take n t)
theorem dpAll_drop {K : PySem.W.Frag} {H : Hp} : ∀ {xs : List V} {ds : List PyData} (n : Nat), DpAll K H xs ds → DpAll K H (xs.drop n) (ds.drop n)
  | _, _, 0, h => h
  | _, _, n + 1, .nil => .nil
  | _, _, n + 1, .cons h t => dpAll_drop n t
/-- xs[:k], xs[k:] -/
theorem cut_front {xs : List V} {k : Int} (h0 : 0 ≤ k) (h1 : k ≤ xs.length) : cutV xs none (some k) = xs.take k.toNat := by
  have e : k = ((k.toNat : Nat) : Int) := by omega
  unfold cutV
  rw [HT.sIx_none, List.drop_zero, e, HT.sIx_nat, Nat.sub_zero, Int.toNat_natCast]
  congr 1
  omega
theorem cut_back {xs : List V} {k : Int} (h0 : 0 ≤ k) (h1 : k ≤ xs.length) : cutV xs (some k) none = xs.drop k.toNat := by
  have e : k = ((k.toNat : Nat) : Int) := by omega
  unfold cutV
  rw [HT.sIx_none, e, HT.sIx_nat, Int.toNat_natCast, Nat.min_eq_left (by omega)]
  exact List.take_of_length_le (by rw [List.length_drop]; exact Nat.le_refl _)

/-! ### rounded half up -/
def hu (x y : Int) : Int := (2 * x + y) / (2 * y)
theorem half_up {x y : Int} (h : 0 < y) : 0 < frB x y ∧ frB x y ≤ y ∧ (2 * frA x y + frB x y).fdiv (2 * frB x y) = hu x y := by
  obtain ⟨e1, e2, q0, _, cs, hb, _⟩ := fr_spec (x := x) (y := y) (by omega)
  have hc := cs.mpr h
  refine ⟨q0, by omega, ?_⟩
  unfold hu
  generalize frC x y = c at *
  generalize frA x y = p at *
  generalize frB x y = q at *
  rw [Int.fdiv_eq_ediv_of_nonneg _ (by omega)]
  have a1 : 2 * x + y = c * (2 * p + q) := by rw [e1, e2, Int.mul_add, ← Int.mul_assoc c 2 p, Int.mul_comm c 2, Int.mul_assoc]
  have a2 : 2 * y = c * (2 * q) := by rw [e2, ← Int.mul_assoc c 2 q, Int.mul_comm c 2, Int.mul_assoc]
  rw [a1, a2, Int.mul_ediv_mul_of_pos _ _ hc]
/-- what half up means -/
theorem hu_near {x y : Int} (h : 0 < y) : -y ≤ 2 * (x - hu x y * y) ∧ 2 * (x - hu x y * y) < y := by
  have a := Int.emod_add_mul_ediv (2 * x + y) (2 * y)
  have b := Int.emod_nonneg (2 * x + y) (show 2 * y ≠ 0 by omega)
  have c := Int.emod_lt_of_pos (2 * x + y) (show 0 < 2 * y by omega)
  have e : 2 * y * ((2 * x + y) / (2 * y)) = 2 * (hu x y * y) := by
    unfold hu
    rw [Int.mul_comm ((2 * x + y) / (2 * y)) y, Int.mul_assoc]
  rw [e] at a
  omega
/-- and only the one nearest -/
theorem hu_uniq {x y t : Int} (h : 0 < y) (h1 : -y ≤ 2 * (x - t * y)) (h2 : 2 * (x - t * y) < y) : hu x y = t := by
  obtain ⟨a, b⟩ := hu_near (x := x) h
  have e : (hu x y - t) * y = hu x y * y - t * y := Int.sub_mul _ _ _
  generalize hu x y * y = u at a b e
  generalize t * y = v at h1 h2 e
  have l1 : (hu x y - t) * y < y := by omega
  have l2 : -y < (hu x y - t) * y := by omega
  generalize hd : hu x y - t = d at e l1 l2
  have d1 : d < 1 := by
    rcases Int.lt_or_le d 1 with z | z
    · exact z
    · have := Int.mul_le_mul_of_nonneg_right z (show 0 ≤ y by omega)
      omega
  have d2 : -1 < d := by
    rcases Int.lt_or_le (-1) d with z | z
    · exact z
    · have := Int.mul_le_mul_of_nonneg_right z (show 0 ≤ y by omega)
      omega
  omega
theorem hu_zero {y : Int} (h : 0 < y) : hu 0 y = 0 := hu_uniq h (by omega) (by omega)
theorem hu_all {n : Int} : hu (n * 100) 100 = n := hu_uniq (by decide) (by omega) (by omega)
def waysV : List V := [.str "down", .str "up", .str "toward zero", .str "half up", .str "half even"]
def sp_rounded_hu0 : Sp := fun vs H Q _ => ∃ x y : Int, vs = [.int x, .int y, .str "half up"] ∧ 0 < y ∧ y < 2 ^ 20 ∧ ∀ H', Same H H' → Q (.int (hu x y)) H'
@[irreducible] def sp_rounded_hu : Sp := sp_rounded_hu0
theorem sp_rounded_hu_eq : sp_rounded_hu = sp_rounded_hu0 := by unfold sp_rounded_hu; rfl
theorem rounded_hu {H : Hp} {Q : VK} {E : XK} (x : Int) {y : Int} (h0 : 0 < y) (h1 : y < 2 ^ 20) (k : ∀ H', Same H H' → Q (.int (hu x y)) H') : sp_rounded_hu [.int x, .int y, .str "half up"] H Q E := by
  rw [sp_rounded_hu_eq]
  exact ⟨x, y, rfl, h0, h1, k⟩
/-! ### all that stands but the deck -/
theorem del_some {H : Hp} {p b : Addr} {o : HO} (h : H b = some o) (n : b ≠ p) : del H p b = some o := by rw [del_ne n]; exact h
theorem del_of {H : Hp} {p b : Addr} {o : HO} (h : del H p b = some o) : H b = some o ∧ b ≠ p := by
  by_cases e : b = p
  · rw [e, del_same] at h
    cases h
  · rw [del_ne e] at h
    exact ⟨h, e⟩
theorem Dk.freeze {G H : Hp} {d : Addr} {D : List Int} (k : Dk G H d D) : Dk (del H d) H d D := ⟨del_same, fun _ _ e => (del_of e).1, k.hd⟩
theorem Dk.under {G H : Hp} {d : Addr} {D : List Int} (k : Dk G H d D) : Same G (del H d) := fun b o e => del_some (k.sm b o e) (k.ne e)
theorem DN.frozen {K : PySem.W.Frag} {S : Addr → Prop} {H : Hp} {p : Addr} {v : V} {d : PyData} (h : DN S H v d) (hs : ∀ b, S b → b ≠ p) : Dp K (del H p) v d :=
  DN.dp d v (DN.mono (S' := S) (fun _ z => z) (fun a o hS e => del_some e (hs a hS)) d v h)

theorem DNs.frozen {K : PySem.W.Frag} {S : Addr → Prop} {H : Hp} {p : Addr} {vs : List V} {ds : List PyData} (h : DNs S H vs ds) (hs : ∀ b, S b → b ≠ p) : DpAll K (del H p) vs ds :=
  DNs.dp ds vs (DNs.mono (S' := S) (fun _ z => z) (fun a o hS e => del_some e (hs a hS)) ds vs h)
theorem Dk.get {H H2 : Hp} {d b : Addr} {D : List Int} {o : HO} (k : Dk (del H d) H2 d D) (n : b ≠ d) (h : H b = some o) : H2 b = some o := k.sm b o (del_some h n)
theorem DNs.on {S : Addr → Prop} {H H2 : Hp} {d : Addr} {D : List Int} {vs : List V} {ds : List PyData} (h : DNs S H vs ds) (k : Dk (del H d) H2 d D) (hs : ∀ b, S b → b ≠ d) : DNs S H2 vs ds :=
  DNs.mono (fun _ z => z) (fun a o hS e => k.get (hs a hS) e) ds vs h
/-- a list and another with the same data: != says no -/
theorem data_same {K : PySem.W.Frag} {H : Hp} {v w : V} {d : PyData} {Q : VK} {n : Nat} (h1 : Dp K H v d) (h2 : Dp K H w d) (ok : okDx n d = true) (hn : n ≤ 64) (k : Q (.bl false) H) : rNeD K v w H Q := by
  have sh := okDx_shaped ok hn
  refine ⟨d, d, h1, h2, sh, sh, ?_⟩
  rw [SeqAt.eqv_refl _ (SeqAt.canLay_of_shaped sh)]
  exact k
theorem data_eq {K : PySem.W.Frag} {H : Hp} {v w : V} {d : PyData} {Q : VK} {n : Nat} (h1 : Dp K H v d) (h2 : Dp K H w d) (ok : okDx n d = true) (hn : n ≤ 64) (k : Q (.bl true) H) : rEqD K v w H Q := by
  have sh := okDx_shaped ok hn
  refine ⟨d, d, h1, h2, sh, sh, ?_⟩
  rw [SeqAt.eqv_refl _ (SeqAt.canLay_of_shaped sh)]
  exact k
mutual
theorem okD_x : ∀ (n : Nat) (d : PyData), okD n d = true → okDx n d = true
  | n, .none, _ => by cases n <;> simp only [okDx]
  | n, .bool b, _ => by cases n <;> simp only [okDx]
  | n, .int i, _ => by cases n <;> simp only [okDx]
  | n, .str x, h => by
    simp only [okD] at h
    cases n <;> simp [okDx, h]
  | 0, .list _, h => by simp [okD] at h
  | n + 1, .list xs, h => by
    simp only [okD, Bool.and_eq_true] at h
    simp only [okDx]
    exact okDs_x n xs h.2
  | 0, .tuple _, h => by simp [okD] at h
  | n + 1, .tuple xs, h => by
    simp only [okD, Bool.and_eq_true] at h
    simp only [okDx]
    exact okDs_x n xs h.2
  | n, .dict _, h => by cases n <;> simp [okD] at h
theorem okDs_x : ∀ (n : Nat) (ds : List PyData), okDs n ds = true → okDxs n ds = true
  | _, [], _ => by simp [okDxs]
  | n, x :: xs, h => by
    simp only [okDs, Bool.and_eq_true] at h
    simp only [okDxs, okD_x n x h.1, okDs_x n xs h.2, Bool.and_self]
end
/-! ### list comprehensions whose parts read K (walk_at "blk" closes the three equations) -/
section
variable {X : Cx}
theorem pe_lcK {elt tg iter : Expr} {ifs : List Expr} {scope : Scope} {own : List (Str × Nat)} {pos : Pos} {wi : TI} {g : TG} {tt : TT} {te : TE} {g' : Shared → Hp → Addr → List (Str × Addr) → List Addr → TG} {tt' : Shared → Hp → Addr → List (Str × Addr) → List Addr → TT} {te' : Shared → Hp → Addr → List (Str × Addr) → List Addr → TE}
    (hc : X.calm = true) (hN : X.N.Nodup) (hi : PI X tg iter wi) (ok : BlkOk X.N X.env.scope scope own)
    (hg : ∀ (s : Shared) (H : Hp) (C : Addr) (cl : List (Str × Addr)) (fp : List Addr), PG (X.blk s H scope (compEnvC scope cl C X.env) fp) tg (g' s H C cl fp)) (ht : ∀ (s : Shared) (H : Hp) (C : Addr) (cl : List (Str × Addr)) (fp : List Addr), PTs (X.blk s H scope (compEnvC scope cl C X.env) fp) ifs (tt' s H C cl fp))
    (he : ∀ (s : Shared) (H : Hp) (C : Addr) (cl : List (Str × Addr)) (fp : List Addr), PE (X.blk s H scope (compEnvC scope cl C X.env) fp) elt (te' s H C cl fp))
    (eg : ∀ s H C cl fp, g' s H C cl fp = g) (et : ∀ s H C cl fp, tt' s H C cl fp = tt) (ee : ∀ s H C cl fp, te' s H C cl fp = te) (hs : ∀ x, foldedSetIterable iter X.env x = pure x := by intro _; rfl) :
    PE X (.ListComp elt [⟨tg, iter, ifs, 0⟩] scope pos) (tLc wi g tt te (own.map (·.2))) :=
  pe_lc hc hN hi ok (fun s H C cl fp => by rw [← eg s H C cl fp]; exact hg s H C cl fp) (fun s H C cl fp => by rw [← et s H C cl fp]; exact ht s H C cl fp) (fun s H C cl fp => by rw [← ee s H C cl fp]; exact he s H C cl fp) hs
theorem ps_setLcK {i : Nat} {y : Str} {py : Pos} {elt tg iter : Expr} {ifs : List Expr} {scope : Scope} {own : List (Str × Nat)} {pos spos : Pos} {wi : TI} {g : TG} {tt : TT} {te : TE} {g' : Shared → Hp → Addr → List (Str × Addr) → List Addr → TG} {tt' : Shared → Hp → Addr → List (Str × Addr) → List Addr → TT} {te' : Shared → Hp → Addr → List (Str × Addr) → List Addr → TE}
    (hc : X.calm = true) (hN : X.N.Nodup) (hy : X.N[i]? = some y) (hyl : X.env.scope.names.lookup y = some .local)
    (hsw : swapsWith (.ListComp elt [⟨tg, iter, ifs, 0⟩] scope pos) (some (.Name y py)) spos.line X.env = pure true) (hi : PI X tg iter wi) (ok : BlkOk X.N X.env.scope scope own)
    (hg : ∀ (s : Shared) (H : Hp) (C : Addr) (cl : List (Str × Addr)) (fp : List Addr), PG (X.blk s H scope (compEnvC scope cl C X.env) fp) tg (g' s H C cl fp)) (ht : ∀ (s : Shared) (H : Hp) (C : Addr) (cl : List (Str × Addr)) (fp : List Addr), PTs (X.blk s H scope (compEnvC scope cl C X.env) fp) ifs (tt' s H C cl fp))
    (he : ∀ (s : Shared) (H : Hp) (C : Addr) (cl : List (Str × Addr)) (fp : List Addr), PE (X.blk s H scope (compEnvC scope cl C X.env) fp) elt (te' s H C cl fp))
    (eg : ∀ s H C cl fp, g' s H C cl fp = g) (et : ∀ s H C cl fp, tt' s H C cl fp = tt) (ee : ∀ s H C cl fp, te' s H C cl fp = te) (hs : ∀ x, foldedSetIterable iter X.env x = pure x := by intro _; rfl) :
    PS X (.Assign [.Name y py] (.ListComp elt [⟨tg, iter, ifs, 0⟩] scope pos) spos) (tAsg (tLc wi g tt te (own.map (·.2))) (gName i)) :=
  ps_setLc hc hN hy hyl hsw hi ok (fun s H C cl fp => by rw [← eg s H C cl fp]; exact hg s H C cl fp) (fun s H C cl fp => by rw [← et s H C cl fp]; exact ht s H C cl fp) (fun s H C cl fp => by rw [← ee s H C cl fp]; exact he s H C cl fp) hs
end
/-- a comprehension that changes nothing but new objects: f i is what turn i gives, none where the test fails -/
theorem lc_fn {J : It} {n : Nat} {G : Hp → Prop} {Y : Nat → Hp → V → Hp → Prop} (w : Walk J n G Y) (f : Nat → Option V) {g : TG} {tt : TT} {te : TE} {vs : List Nat} {σ : L2.St} {H1 : Hp} {D : Addr} {Qd : Hp → Prop} (hz : n ≤ 1000000) (hD : H1 D = none)
    (hG : ∀ H, Same H1 H → G H)
    (hs : ∀ i x H H' (R : VK) (N : Hp → Prop), i < n → Same H1 H → Y i H x H' → (∀ y H4, f i = some y → Same H H4 → R y H4) → (∀ H4, f i = none → Same H H4 → N H4) →
      g x (wipe σ vs) H' fun σ2 H2 => wipe σ2 vs = wipe σ vs ∧ tt σ2 H2 fun b H3 => if b = true then te σ2 H3 R else N H3)
    (hd : ∀ H', Same H1 H' → H' D = some (.lst ((List.range n).filterMap f)) → Qd H') :
    ∃ W : Nat → Nat → Hp → Prop, (∃ m, W 0 m (upd H1 D (.lst []))) ∧ ∀ i m H, W i m H →
      (J.stop i H ∧ Qd H) ∨ (J.go i H ∧ ∃ Nx : Hp → Prop, (∀ H', Nx H' → ∃ m', m' < m ∧ W (i + 1) m' H') ∧ ∀ x H', J.yld i H x H' → g x (wipe σ vs) H' fun σ2 H2 => wipe σ2 vs = wipe σ vs ∧ tt σ2 H2 fun b H3 =>
        if b = true then te σ2 H3 fun y H4 => ∃ acc, H4 D = some (.lst acc) ∧ acc.length < sizeLine ∧ Nx (upd H4 D (.lst (acc ++ [y]))) else Nx H3) := by
  refine lc_it w (fun i H' => Same H1 H' ∧ H' D = some (.lst ((List.range i).filterMap f))) ⟨Same.new hD, upd_same⟩ (fun i H _ q => hG H q.1) ?_ (fun H' q => hd H' q.1 q.2)
  rintro i x H H' hi ⟨s1, hl⟩ hy
  refine hs i x H H' _ _ hi s1 hy ?_ ?_
  · intro y H4 e s2
    refine ⟨_, s2 _ _ hl, small1000000 ?_, (s1.trans s2).mut hD, ?_⟩
    · have := List.length_filterMap_le f (List.range i)
      rw [List.length_range] at this
      omega
    · rw [upd_same, List.range_succ, List.filterMap_append]
      simp [e]
  · intro H4 e s2
    refine ⟨s1.trans s2, ?_⟩
    rw [s2 _ _ hl, List.range_succ, List.filterMap_append]
    simp [e]
theorem fm_some {α : Type} (f : Nat → α) (n : Nat) : (List.range n).filterMap (fun i => some (f i)) = (List.range n).map f := by
  rw [← List.filterMap_eq_map]
  rfl
theorem range_at {α β : Type} (xs : List α) (F : α → β) (f : Nat → β) (h : ∀ i x, xs[i]? = some x → f i = F x) : (List.range xs.length).map f = xs.map F := by
  refine List.ext_getElem? fun i => ?_
  rw [List.getElem?_map, List.getElem?_map]
  by_cases hi : i < xs.length
  · rw [List.getElem?_range hi, List.getElem?_eq_getElem hi]
    simp [h i _ (List.getElem?_eq_getElem hi)]
  · rw [List.getElem?_eq_none (by simp; omega), List.getElem?_eq_none (by omega)]
    rfl
theorem ints_get {ns : List Int} {i : Nat} {x : V} (h : (ns.map V.int)[i]? = some x) : ∃ z, ns[i]? = some z ∧ x = .int z := by
  rw [List.getElem?_map] at h
  obtain ⟨z, hz, rfl⟩ := Option.map_eq_some_iff.mp h
  exact ⟨z, hz, rfl⟩
theorem tk_sum {ns : List Int} {i : Nat} {z : Int} (f : Int → Int) (h : ns[i]? = some z) : ((ns.take (i + 1)).map f).sum = ((ns.take i).map f).sum + f z := by
  rw [List.take_add_one, h, List.map_append, List.sum_append]
  simp
section
variable {X : Cx}
/-- sorted(xs) of a tuple of ints -/
def rSortedT (K : PySem.W.Frag) : List V → Hp → VK → Prop := fun vs H Q => ∃ (a : Addr) (ns : List Int), vs = [V.ref a] ∧ SqT K H a (ns.map V.int) ∧
  ∀ (ns' : List Int) (p : Addr), ns'.Perm ns → ns'.Pairwise (· ≤ ·) → H p = none → Q (.ref p) (upd H p (.lst (ns'.map V.int)))
theorem cr_sortedT : CallR X (.builtin "sorted") (rSortedT X.K) := by
  intro pins s σ H vs us Q I r h
  obtain ⟨a, ns, rfl, hs, q⟩ := h
  obtain ⟨its, rv, ⟨o, ho, hc, n, hd⟩, hz⟩ := I.tuple hs
  rw [Vals.ref1 r]
  have hi := rv.ints
  have hz' : its.length ≤ sizeLine := by rw [← rv.length]; exact hz
  refine Calls.call_function_entry kind_sorted plain_sorted entry_sorted (args_sorted1 _) ?_
  unfold Builtin.«sorted»
  refine wpAny_bind (m := checkCount "sorted" 1 1 _) (wpAny_pure ?_)
  refine wpAny_bind (wpAny_collect_seq a (.inr rfl) ho hc hd (fun h1 hk => ?_) (by simpa using hz'))
  refine wpAny_bind (wpAny_newList ?_ (by simpa using hz'))
  have hoL : (h1.push (seqObj "list" its.toArray 0)).get? h1.objs.size = some (seqObj "list" its.toArray 0) := Heap.get?_push_size _ rfl
  have keep : ∀ b u, s.heap.get? b = some u → b ≠ h1.objs.size ∧ (h1.push (seqObj "list" its.toArray 0)).get? b = some u := fun b u e => ⟨Nat.ne_of_lt (Heap.lt_size (hk b u e)), Heap.get?_push_of_some _ (hk b u e)⟩
  have hn : H h1.objs.size = none := (I.hok.kept hk).fresh (Nat.le_refl _)
  have hp : s.heap.get? h1.objs.size = none := by
    cases e : s.heap.get? h1.objs.size with
    | none => rfl
    | some u => exact absurd (Heap.lt_size (hk _ _ e)) (Nat.lt_irrefl _)
  refine wpAny_bind (wpAny_holding (wpAny_call_entry slot_list_sort ⟨_, hoL, rfl⟩ entry_list_sort (SrtO.list_sort_ord SrtO.swo_int hoL hz' (fun h2 => SrtO.ints_sortable hi h2) fun out hs hb => ⟨_, rfl, ?_⟩) (args_list_sort _)))
  refine wpAny_pure ⟨_, rfl, ?_⟩
  obtain ⟨k1, k2, k3⟩ := SrtO.ints_out hi hs hb
  obtain ⟨ep, he'⟩ := sortedHeap_at (vs := its) (out := out.toArray) hoL
  have hlen : ((out.map SrtO.iv).map V.int).length ≤ sizeLine := by
    rw [List.length_map, k2.length_eq]
    rw [List.length_map] at hz
    exact hz
  refine ⟨.ref _, upd H h1.objs.size (.lst ((out.map SrtO.iv).map V.int)), I.laidN (t' := s.toks) (fun b u e => ?_) hp hn ⟨hlen, out, ep, vals_of_ints k1, he'⟩, rfl, q _ _ k2 k3 hn⟩
  rw [sortedHeap_old (keep b u e).1 (Heap.lt_size (keep b u e).2)]
  exact (keep b u e).2
/-- sorted(xs) of a list or a tuple of ints -/
def rSortedQ (K : PySem.W.Frag) : List V → Hp → VK → Prop := fun vs H Q => ∃ (a : Addr) (ns : List Int), vs = [V.ref a] ∧ SqX K H a (ns.map V.int) ∧
  ∀ (ns' : List Int) (p : Addr), ns'.Perm ns → ns'.Pairwise (· ≤ ·) → H p = none → Q (.ref p) (upd H p (.lst (ns'.map V.int)))
theorem cr_sortedQ : CallR X (.builtin "sorted") (rSortedQ X.K) := by
  intro pins s σ H vs us Q I r h
  obtain ⟨a, ns, e, hs | hs, q⟩ := h
  · exact cr_sortedI pins s σ H vs us Q I r ⟨a, ns, e, hs, q⟩
  · exact cr_sortedT pins s σ H vs us Q I r ⟨a, ns, e, hs, q⟩
end
/-- the blocks of a comprehension within a comprehension: sc is the scope of the def -/
def envAt (sc : Scope) : Env := { scope := sc, locals := 0, globals := 0, cells := [] }
theorem blkOk_in {N : List Str} {sc scope0 scope : Scope} {own : List (Str × Nat)} {env : Env} (he : env.scope = sc) (h : blkC N (relabel scope0 (envAt sc)) scope own = true) : BlkOk N (relabel scope0 env) scope own := by
  have e : relabel scope0 env = relabel scope0 (envAt sc) := by
    subst he
    rfl
  rw [e]
  exact blkOk_by h
theorem fm_ints {β : Type} (ns : List Int) (G : Int → Option β) : (List.range ns.length).filterMap (fun i => G (ns.getD i 0)) = ns.filterMap G := by
  have e : (List.range ns.length).map (fun i => ns.getD i 0) = ns := by
    rw [range_at ns id _ (fun i x e => by rw [List.getD_eq_getElem?_getD, e]; rfl), List.map_id]
  have h : (List.range ns.length).filterMap (fun i => G (ns.getD i 0)) = ((List.range ns.length).map (fun i => ns.getD i 0)).filterMap G := by
    rw [List.filterMap_map]
    rfl
  rw [h, e]
theorem fm_filter {α β : Type} (P : α → Bool) (f : α → β) : ∀ xs : List α, xs.filterMap (fun x => if P x = true then some (f x) else none) = (xs.filter P).map f
  | [] => rfl
  | x :: t => by
    by_cases h : P x = true
    · rw [List.filterMap_cons, if_pos h, List.filter_cons, if_pos h, List.map_cons, fm_filter P f t]
    · rw [List.filterMap_cons, if_neg h, List.filter_cons, if_neg h, fm_filter P f t]
theorem atI_last {α : Type} {xs : List α} {v : α} (h : xs[xs.length - 1]? = some v) : atI xs (-1) = some v := by
  have h0 : 0 < xs.length := by
    have := (List.getElem?_eq_some_iff.mp h).1
    omega
  unfold atI ixN
  rw [if_neg (by decide), if_pos (by omega)]
  show xs[(-1 + (xs.length : Int)).toNat]? = _
  rw [show (-1 + (xs.length : Int)).toNat = xs.length - 1 by omega]
  exact h
/-! ### methods and makings that may raise, by what is wanted at the place -/
section
variable {X : Cx} {CX : CXT} {k : Nat} {f C : Addr} {fd : FuncData} {ps : List Str} {sp : Sp} {E : L2.St → XK} {x m : Str} {p pos apos : Pos} {e o : Expr} {es : List Expr} {ta : TE} {t : TA}
def tMethQ (C : Addr) (m : Str) (sp : Sp) (E : L2.St → XK) (ta : TE) (t : TA) : TE := fun σ H Q => ta σ H fun x H1 => ∃ a dx fs, x = .ref a ∧ H1 a = some (.ins C dx fs) ∧ fs.lookup m = none ∧ t σ H1 fun vs H2 => sp (x :: vs) H2 Q (E σ)
theorem pe_methQ {pl : Sem Bool} (he : PE X o ta) (c : Cls X.K C) (hm : Meth X.K C m f) (F : FnOk X.prog X.w X.K X.mg X.base CX k f fd ps sp) (hr : Room k X.A) (hb : Binds X.K fd ps []) (hx : ∀ σ, PassesAt CX X σ (E σ)) (ha : PA X (e :: es) t)
    (hst : starEach (e :: es) X.env = (false, eval e X.env) :: starEach es X.env := by rfl) (hpl : (backTo pos (starEach es X.env)).any (·.1) = false := by rfl)
    (ht : eval (.Call (.Attribute o m apos) (e :: es) [] pos) X.env = (do
      let ov ← eval o X.env
      standAt apos.atName
      let (f, first) ← holding [ov] (getMethod ov m pl)
      callWith pos f first (backTo pos (starEach (e :: es) X.env)) (backToKw pos (keywordEach [] X.env))) := by rfl) :
    PE X (.Call (.Attribute o m apos) (e :: es) [] pos) (tMethQ C m sp E ta t) := by
  refine ⟨fun pins s σ H Q I h => ?_⟩
  refine PySem.W.methodCall_KW (pl := pl) (thn (he.run pins s σ H _ I h) fun u s1 ⟨x, H1, I1, rx, a, dx, fs, ex, ea, l, q⟩ => ?_) ht
  subst ex
  obtain rfl : u = Value.ref a := rx
  refine getmeth_ok I1 ea c hm l ?_
  refine PySem.W.callWith_K (first := [.ref a]) (h₀ := X.base) I.ok.mod.kin hm.kp (thn (ha.run pos pins s1 σ H1 _ I1 q) fun us s2 ⟨vs, H2, I2, r, q2⟩ => ⟨I2.kIn, ?_⟩) hst hpl
  exact run_fnS (us := .ref a :: us) (vs := .ref a :: vs) F hr hb (hx σ) I2 (.cons rfl r) q2
theorem pe_meth0Q {pl : Sem Bool} (he : PE X o ta) (c : Cls X.K C) (hm : Meth X.K C m f) (F : FnOk X.prog X.w X.K X.mg X.base CX k f fd ps sp) (hr : Room k X.A) (hb : Binds X.K fd ps []) (hx : ∀ σ, PassesAt CX X σ (E σ))
    (ht : eval (.Call (.Attribute o m apos) [] [] pos) X.env = (do
      let ov ← eval o X.env
      standAt apos.atName
      let (f, first) ← holding [ov] (getMethod ov m pl)
      callWith pos f first (backTo pos (starEach [] X.env)) (backToKw pos (keywordEach [] X.env))) := by rfl) :
    PE X (.Call (.Attribute o m apos) [] [] pos) (tMethQ C m sp E ta tNil) := by
  refine ⟨fun pins s σ H Q I h => ?_⟩
  refine PySem.W.methodCall_KW (pl := pl) (thn (he.run pins s σ H _ I h) fun u s1 ⟨x, H1, I1, rx, a, dx, fs, ex, ea, l, q⟩ => ?_) ht
  subst ex
  obtain rfl : u = Value.ref a := rx
  refine getmeth_ok I1 ea c hm l ?_
  exact PySem.W.callWith_K0 (first := [.ref a]) I1.kIn hm.kp (run_fnS (us := [.ref a]) (vs := [.ref a]) F hr hb (hx σ) I1 (.cons rfl .nil) q)
def tMakeQ (C : Addr) (sp : Sp) (E : L2.St → XK) (t : TA) : TE := fun σ H Q => t σ H fun vs H1 => ∀ x dx, H1 x = none → H1 dx = none → dx ≠ x →
  sp (.ref x :: vs) (upd (upd H1 dx (.own x)) x (.ins C dx [])) (fun v H2 => v = .non ∧ Q (.ref x) H2) (E σ)
theorem run_makeQ {pins : List (Addr × Obj)} {σ : L2.St} {H : Hp} {s : Shared} {Q : VK} {E : XK} {us : List Value} {vs : List V} (M : Mk X.K C f) (F : FnOk X.prog X.w X.K X.mg X.base CX k f fd ps sp) (hr : Room (k + 1) X.A) (hb : Binds X.K fd ps [])
    (hx : PassesAt CX X σ E) (I : Inv X pins σ H s) (r : Vals vs us)
    (h : ∀ x dx, H x = none → H dx = none → dx ≠ x → sp (.ref x :: vs) (upd (upd H dx (.own x)) x (.ins C dx [])) (fun v H2 => v = .non ∧ Q (.ref x) H2) E) :
    wpAny (model X.prog X.w) X.A (call (.ref C) us) (EP X pins σ Q) X.xe s := by
  have hq := h (s.heap.objs.size + 1) s.heap.objs.size (I.hok.fresh (Nat.le_succ _)) (I.hok.fresh (Nat.le_refl _)) (Nat.ne_of_lt (Nat.lt_succ_self _))
  have I2 := Inv.made (C := C) I
  have r2 : Vals (V.ref (s.heap.objs.size + 1) :: vs) (Value.ref (s.heap.objs.size + 1) :: us) := .cons rfl r
  have hl : (Value.ref (s.heap.objs.size + 1) :: us).length = ps.length := by
    have e := r2.length
    rw [F.len _ _ _ _ hq] at e
    exact e.symm
  have b := hb _ (Value.ref (s.heap.objs.size + 1) :: us) I2.kIn (by rw [List.append_nil]; exact hl)
  rw [List.append_nil] at b
  refine wpAny_call (make_map (f := f) I.kIn M.makes M.init (beq_iff_eq.mp M.fn) (codeAny_mono (F.run _ X.stack _ _ ⟨Value.ref (s.heap.objs.size + 1) :: us, []⟩ (Value.ref (s.heap.objs.size + 1) :: us) _ _ E (hr.make C us [])
    (I2.env0.make C us []) b r2 hq) fun r s' hq' => ?_))
  cases r with
  | error e => exact hx pins _ _ e s' I2 hq'
  | ok fl =>
    cases fl with
    | ret u =>
      obtain ⟨v, H', I3, rv, ev, q3⟩ := I2.after hq'
      subst ev
      exact ⟨rv, ⟨V.ref (s.heap.objs.size + 1), H', I3, rfl, q3⟩⟩
    | next => exact False.elim hq'
    | brk => exact False.elim hq'
    | cont => exact False.elim hq'
theorem pe_makeQ (M : Mk X.K C f) (F : FnOk X.prog X.w X.K X.mg X.base CX k f fd ps sp) (hr : Room (k + 1) X.A) (hg : Gl X x) (hm : X.mg x = some (.ref C)) (hb : Binds X.K fd ps []) (hx : ∀ σ, PassesAt CX X σ (E σ))
    (ha : PA X (e :: es) t) (hdb : (x == ("__debug__" : Str)) = false := by decide) (he : starEach (e :: es) X.env = (false, eval e X.env) :: starEach es X.env := by rfl) (hpl : (backTo pos (starEach es X.env)).any (·.1) = false := by rfl) :
    PE X (.Call (.Name x p) (e :: es) [] pos) (tMakeQ C sp E t) := by
  refine ⟨fun pins s σ H Q I h => ?_⟩
  refine wpAny_Call_Name_kw (ld_glob I hg hm ?_ hdb)
  refine PySem.W.callWith_K (h₀ := X.base) I.ok.mod.kin M.kp (thn (ha.run pos pins s σ H _ I h) fun us s1 ⟨vs, H1, I1, r, q⟩ => ⟨I1.kIn, ?_⟩) he hpl
  exact run_makeQ M F hr hb (hx σ) I1 r q
end

/-! ### the lists in a value, at most n deep -/
mutual
inductive DC (K : PySem.W.Frag) (H : Hp) : Nat → V → List Addr → Prop
  | non (n : Nat) : DC K H n .non []
  | bl (n : Nat) (b : Bool) : DC K H n (.bl b) []
  | int (n : Nat) (i : Int) : DC K H n (.int i) []
  | str (n : Nat) (x : Str) : DC K H n (.str x) []
  | lst {n : Nat} {a : Addr} {xs : List V} {L : List Addr} : H a = some (.lst xs) → xs.length ≤ 1000 → DCs K H n xs L → a ∉ L → DC K H (n + 1) (.ref a) (a :: L)
  | tup {n : Nat} {a : Addr} {xs : List V} {L : List Addr} : SqT K H a xs → xs.length ≤ 1000 → DCs K H n xs L → DC K H (n + 1) (.ref a) L
inductive DCs (K : PySem.W.Frag) (H : Hp) : Nat → List V → List Addr → Prop
  | nil (n : Nat) : DCs K H n [] []
  | cons {n : Nat} {v : V} {vs : List V} {L M : List Addr} : DC K H n v L → DCs K H n vs M → (∀ b, b ∈ L → b ∉ M) → DCs K H n (v :: vs) (L ++ M)
end
mutual
theorem DC.lists {K : PySem.W.Frag} {H : Hp} : ∀ {n : Nat} {v : V} {L : List Addr}, DC K H n v L → ∀ b, b ∈ L → ∃ xs, H b = some (.lst xs)
  | _, _, _, .non _, b, h => by cases h
  | _, _, _, .bl _ _, b, h => by cases h
  | _, _, _, .int _ _, b, h => by cases h
  | _, _, _, .str _ _, b, h => by cases h
  | _, _, _, .lst h1 _ h2 _, b, h => by
    rcases List.mem_cons.mp h with rfl | h
    · exact ⟨_, h1⟩
    · exact DCs.lists h2 b h
  | _, _, _, .tup _ _ h2, b, h => DCs.lists h2 b h
theorem DCs.lists {K : PySem.W.Frag} {H : Hp} : ∀ {n : Nat} {vs : List V} {L : List Addr}, DCs K H n vs L → ∀ b, b ∈ L → ∃ xs, H b = some (.lst xs)
  | _, _, _, .nil _, b, h => by cases h
  | _, _, _, .cons h1 h2 _, b, h => by
    rcases List.mem_append.mp h with h | h
    · exact DC.lists h1 b h
    · exact DCs.lists h2 b h
end
/-- all but the lists of P is as it was -/
def ButP (P : List Addr) (H H' : Hp) : Prop := ∀ b o, b ∉ P → H b = some o → H' b = some o
theorem ButP.tup {K : PySem.W.Frag} {P : List Addr} {H H' : Hp} (h : ButP P H H') (hP : ∀ b, b ∈ P → ∃ xs, H b = some (.lst xs)) {a : Addr} {xs : List V} (s : SqT K H a xs) : SqT K H' a xs := by
  have n : ∀ {o : HO}, H a = some o → (∀ ys, o ≠ .lst ys) → a ∉ P := fun e ne q => by
    obtain ⟨ys, hy⟩ := hP a q
    rw [e] at hy
    exact ne ys (Option.some.inj hy)
  rcases s with (s | ⟨o, s⟩) | s
  · exact .inl (.inl (h _ _ (n s (fun _ z => nomatch z)) s))
  · exact .inl (.inr ⟨o, h _ _ (n s (fun _ z => nomatch z)) s⟩)
  · exact .inr s
mutual
theorem DC.mono {K : PySem.W.Frag} {P : List Addr} {H H' : Hp} (h : ButP P H H') (hP : ∀ b, b ∈ P → ∃ xs, H b = some (.lst xs)) : ∀ {n : Nat} {v : V} {L : List Addr}, DC K H n v L → (∀ b, b ∈ L → b ∉ P) → DC K H' n v L
  | _, _, _, .non n, _ => .non n
  | _, _, _, .bl n b, _ => .bl n b
  | _, _, _, .int n i, _ => .int n i
  | _, _, _, .str n x, _ => .str n x
  | _, _, _, .lst h1 hz h2 h3, d => .lst (h _ _ (d _ List.mem_cons_self) h1) hz (DCs.mono h hP h2 fun b hb => d b (List.mem_cons_of_mem _ hb)) h3
  | _, _, _, .tup h1 hz h2, d => .tup (h.tup hP h1) hz (DCs.mono h hP h2 d)
theorem DCs.mono {K : PySem.W.Frag} {P : List Addr} {H H' : Hp} (h : ButP P H H') (hP : ∀ b, b ∈ P → ∃ xs, H b = some (.lst xs)) : ∀ {n : Nat} {vs : List V} {L : List Addr}, DCs K H n vs L → (∀ b, b ∈ L → b ∉ P) → DCs K H' n vs L
  | _, _, _, .nil n, _ => .nil n
  | _, _, _, .cons h1 h2 h3, d => .cons (DC.mono h hP h1 fun b hb => d b (List.mem_append.mpr (.inl hb))) (DCs.mono h hP h2 fun b hb => d b (List.mem_append.mpr (.inr hb))) h3
end
def sp_spoil (K : PySem.W.Frag) (n : Nat) : Sp := fun vs H Q _ => ∃ (v : V) (L : List Addr), vs = [v] ∧ DC K H n v L ∧ ∀ H', ButP L H H' → Q .non H'
theorem DCs.same {K : PySem.W.Frag} {H H' : Hp} (s : Same H H') {n : Nat} {vs : List V} {L : List Addr} (h : DCs K H n vs L) : DCs K H' n vs L := h.mono (P := []) (fun b o _ e => s b o e) (fun b hb => by cases hb) (fun b _ hb => by cases hb)
theorem DCs.ints {K : PySem.W.Frag} {H : Hp} {n : Nat} : ∀ ns : List Int, DCs K H n (ns.map V.int) []
  | [] => .nil n
  | x :: ns => by
    have h : DCs K H n (V.int x :: ns.map V.int) ([] ++ []) := .cons (.int n x) (DCs.ints ns) fun b hb => by cases hb
    exact h
/-- the turn of a for over a value's items that spoils them -/
theorem spoil_turn {K : PySem.W.Frag} {n i : Nat} {H1 H2 : Hp} {xs : List V} {x : V} {LL R : List Addr} (hx : xs[i]? = some x) (hR : DCs K H2 n (xs.drop i) R) (hL : ∀ b, b ∈ R → b ∈ LL) (h2 : ButP LL H1 H2) :
    ∃ N, DC K H2 n x N ∧ ∀ H', ButP N H2 H' → ∃ R', DCs K H' n (xs.drop (i + 1)) R' ∧ (∀ b, b ∈ R' → b ∈ LL) ∧ ButP LL H1 H' := by
  obtain ⟨hi, rfl⟩ := List.getElem?_eq_some_iff.mp hx
  rw [List.drop_eq_getElem_cons hi] at hR
  cases hR with
  | @cons _ _ _ N M c1 c2 d =>
    refine ⟨N, c1, fun H' hb => ⟨M, c2.mono hb c1.lists fun b hb q => d b q hb, fun b hb => hL b (List.mem_append.mpr (.inr hb)), fun b o nb e => hb b o (fun q => nb (hL b (List.mem_append.mpr (.inl q)))) (h2 b o nb e)⟩⟩
end Sw


set_option hygiene false in
local macro_rules | `(tactic| walk_at "len") => `(tactic| repeat (first | (obtain ⟨rfl, _⟩ := h; rfl) | (obtain ⟨_, h⟩ := h)))
local macro_rules | `(tactic| walk_at "st") => `(tactic| first
  | refine ⟨_, rfl, ?_⟩
  | refine ⟨_, _, rfl, rfl, (by show (0 : Int) < _; decide), ?_⟩
  | refine ⟨_, _, rfl, rfl, by decide, ?_⟩
  | refine ⟨_, _, rfl, rfl, ⟨by decide, by decide⟩, ?_⟩
  | refine ⟨_, _, rfl, rfl, .inl ⟨by decide, by decide⟩, ?_⟩
  | refine ⟨_, _, rfl, rfl, .inr ⟨by decide, by decide⟩, ?_⟩
  | refine ⟨_, _, rfl, rfl, ?_⟩
  | refine .inl ⟨_, rfl, ?_⟩
  | refine .inr ⟨_, rfl, ?_⟩
  | refine ⟨rfl, ?_⟩)
local macro_rules | `(tactic| walk_at "sts") => `(tactic| repeat walk_at "st")
local macro_rules | `(tactic| walk_at "blk") => `(tactic| (intros; first | (dsimp only [L2.Cx.blk, L2.cxOf]; done) | (dsimp only [L2.Cx.blk, L2.cxOf]; rfl) | rfl))

namespace K44
open PySem PySem.Spec PyProof.Rows L2 Sw
def topS (i : Nat) : Stmt := PySem.Challenge.pw_slotwork_k44_tariffs.main.body.getD i (.Pass ⟨0, 0, 0, 0⟩)
abbrev st_c_InvalidTime_init : Stmt := inClass (topS 2) 0
abbrev st_c_InvalidMoney_init : Stmt := inClass (topS 3) 0
abbrev st_c_Tariff_init : Stmt := inClass (topS 5) 0
abbrev st_c_Tariff_steps : Stmt := inClass (topS 5) 1
abbrev st_c_Tariff_price_at : Stmt := inClass (topS 5) 2
abbrev st_c_Tariff_sum_of : Stmt := inClass (topS 5) 3
abbrev st_c_Tariff_is_rising : Stmt := inClass (topS 5) 4
abbrev st_c_law_deck : Stmt := topS 7
abbrev st_c_law_take : Stmt := topS 8
abbrev st_c_law_plain : Stmt := topS 9
abbrev st_c_law_spoil : Stmt := topS 10
abbrev st_c_law_steps : Stmt := topS 11
abbrev st_c_law_why : Stmt := topS 12
abbrev st_c_law_price : Stmt := topS 13
abbrev st_c_law : Stmt := topS 14
theorem sc_c_InvalidTime_init : FnScope ["self", "what"] ["self", "what"] (defScope st_c_InvalidTime_init) := ⟨rfl, rfl, rfl, by decide +kernel, rfl, by decide +kernel, by decide +kernel⟩
theorem sc_c_InvalidMoney_init : FnScope ["self", "what"] ["self", "what"] (defScope st_c_InvalidMoney_init) := ⟨rfl, rfl, rfl, by decide +kernel, rfl, by decide +kernel, by decide +kernel⟩
theorem sc_c_Tariff_init : FnScope ["self", "price", "steps", "rows", "step", "row", "one", "two"] ["self", "price", "steps"] (defScope st_c_Tariff_init) := ⟨rfl, rfl, rfl, by decide +kernel, rfl, by decide +kernel, by decide +kernel⟩
theorem sc_c_Tariff_steps : FnScope ["self"] ["self"] (defScope st_c_Tariff_steps) := ⟨rfl, rfl, rfl, by decide +kernel, rfl, by decide +kernel, by decide +kernel⟩
theorem sc_c_Tariff_price_at : FnScope ["self", "load", "found", "bound", "price"] ["self", "load"] (defScope st_c_Tariff_price_at) := ⟨rfl, rfl, rfl, by decide +kernel, rfl, by decide +kernel, by decide +kernel⟩
theorem sc_c_Tariff_sum_of : FnScope ["self", "first", "last", "edges", "one", "two", "bound", "price"] ["self", "first", "last"] (defScope st_c_Tariff_sum_of) := ⟨rfl, rfl, rfl, by decide +kernel, rfl, by decide +kernel, by decide +kernel⟩
theorem sc_c_Tariff_is_rising : FnScope ["self", "prices", "bound", "price", "one", "two"] ["self"] (defScope st_c_Tariff_is_rising) := ⟨rfl, rfl, rfl, by decide +kernel, rfl, by decide +kernel, by decide +kernel⟩
theorem sc_c_law_deck : FnScope ["script", "cells", "each", "deck", "seed", "k", "cell", "rest", "at"] ["script", "cells", "each"] (defScope st_c_law_deck) := ⟨rfl, rfl, rfl, by decide +kernel, rfl, by decide +kernel, by decide +kernel⟩
theorem sc_c_law_take : FnScope ["deck", "many"] ["deck", "many"] (defScope st_c_law_take) := ⟨rfl, rfl, rfl, by decide +kernel, rfl, by decide +kernel, by decide +kernel⟩
theorem sc_c_law_plain : FnScope ["value", "item"] ["value"] (defScope st_c_law_plain) := ⟨rfl, rfl, rfl, by decide +kernel, rfl, by decide +kernel, by decide +kernel⟩
theorem sc_c_law_spoil : FnScope ["value", "item"] ["value"] (defScope st_c_law_spoil) := ⟨rfl, rfl, rfl, by decide +kernel, rfl, by decide +kernel, by decide +kernel⟩
theorem sc_c_law_steps : FnScope ["deck", "found", "bound", "turn"] ["deck"] (defScope st_c_law_steps) := ⟨rfl, rfl, rfl, by decide +kernel, rfl, by decide +kernel, by decide +kernel⟩
theorem sc_c_law_why : FnScope ["ask", "one", "two", "error"] ["ask", "one", "two"] (defScope st_c_law_why) := ⟨rfl, rfl, rfl, by decide +kernel, rfl, by decide +kernel, by decide +kernel⟩
theorem sc_c_law_price : FnScope ["price", "steps", "load", "found", "bound", "other"] ["price", "steps", "load"] (defScope st_c_law_price) := ⟨rfl, rfl, rfl, by decide +kernel, rfl, by decide +kernel, by decide +kernel⟩
theorem sc_c_law : FnScope ["script", "deck", "price", "steps", "ordered", "handed", "tariff", "load", "first", "last", "middle", "due", "told", "prices", "rising", "bad", "at", "bound", "other"] ["script"] (defScope st_c_law) := ⟨rfl, rfl, rfl, by decide +kernel, rfl, by decide +kernel, by decide +kernel⟩
/-- where the defs, the classes and the constants of the text stand -/
structure Ad where
  f_c_InvalidTime_init : Addr
  d_c_InvalidTime_init : FuncData
  f_c_InvalidMoney_init : Addr
  d_c_InvalidMoney_init : FuncData
  f_c_Tariff_init : Addr
  d_c_Tariff_init : FuncData
  f_c_Tariff_steps : Addr
  d_c_Tariff_steps : FuncData
  f_c_Tariff_price_at : Addr
  d_c_Tariff_price_at : FuncData
  f_c_Tariff_sum_of : Addr
  d_c_Tariff_sum_of : FuncData
  f_c_Tariff_is_rising : Addr
  d_c_Tariff_is_rising : FuncData
  f_c_law_deck : Addr
  d_c_law_deck : FuncData
  f_c_law_take : Addr
  d_c_law_take : FuncData
  f_c_law_plain : Addr
  d_c_law_plain : FuncData
  f_c_law_spoil : Addr
  d_c_law_spoil : FuncData
  f_c_law_steps : Addr
  d_c_law_steps : FuncData
  f_c_law_why : Addr
  d_c_law_why : FuncData
  f_c_law_price : Addr
  d_c_law_price : FuncData
  f_c_law : Addr
  d_c_law : FuncData
  C_SlotError : Addr
  C_InvalidTime : Addr
  C_InvalidMoney : Addr
  C_Tariff : Addr
  z : Unit := ()
structure Txt (K : PySem.W.Frag) (mg : Str → Option Value) (a : Ad) : Prop where
  F_c_InvalidTime_init : Fun K "__init__" "InvalidTime.__init__" st_c_InvalidTime_init a.f_c_InvalidTime_init a.d_c_InvalidTime_init
  b_c_InvalidTime_init : Binds K a.d_c_InvalidTime_init ["self", "what"] []
  F_c_InvalidMoney_init : Fun K "__init__" "InvalidMoney.__init__" st_c_InvalidMoney_init a.f_c_InvalidMoney_init a.d_c_InvalidMoney_init
  b_c_InvalidMoney_init : Binds K a.d_c_InvalidMoney_init ["self", "what"] []
  F_c_Tariff_init : Fun K "__init__" "Tariff.__init__" st_c_Tariff_init a.f_c_Tariff_init a.d_c_Tariff_init
  b_c_Tariff_init : Binds K a.d_c_Tariff_init ["self", "price", "steps"] []
  F_c_Tariff_steps : Fun K "steps" "Tariff.steps" st_c_Tariff_steps a.f_c_Tariff_steps a.d_c_Tariff_steps
  b_c_Tariff_steps : Binds K a.d_c_Tariff_steps ["self"] []
  F_c_Tariff_price_at : Fun K "price_at" "Tariff.price_at" st_c_Tariff_price_at a.f_c_Tariff_price_at a.d_c_Tariff_price_at
  b_c_Tariff_price_at : Binds K a.d_c_Tariff_price_at ["self", "load"] []
  F_c_Tariff_sum_of : Fun K "sum_of" "Tariff.sum_of" st_c_Tariff_sum_of a.f_c_Tariff_sum_of a.d_c_Tariff_sum_of
  b_c_Tariff_sum_of : Binds K a.d_c_Tariff_sum_of ["self", "first", "last"] []
  F_c_Tariff_is_rising : Fun K "is_rising" "Tariff.is_rising" st_c_Tariff_is_rising a.f_c_Tariff_is_rising a.d_c_Tariff_is_rising
  b_c_Tariff_is_rising : Binds K a.d_c_Tariff_is_rising ["self"] []
  F_c_law_deck : Fun K "_law_deck" "_law_deck" st_c_law_deck a.f_c_law_deck a.d_c_law_deck
  b_c_law_deck : Binds K a.d_c_law_deck ["script", "cells", "each"] []
  m_c_law_deck : mg "_law_deck" = some (.ref a.f_c_law_deck)
  F_c_law_take : Fun K "_law_take" "_law_take" st_c_law_take a.f_c_law_take a.d_c_law_take
  b_c_law_take : Binds K a.d_c_law_take ["deck", "many"] []
  m_c_law_take : mg "_law_take" = some (.ref a.f_c_law_take)
  F_c_law_plain : Fun K "_law_plain" "_law_plain" st_c_law_plain a.f_c_law_plain a.d_c_law_plain
  b_c_law_plain : Binds K a.d_c_law_plain ["value"] []
  m_c_law_plain : mg "_law_plain" = some (.ref a.f_c_law_plain)
  F_c_law_spoil : Fun K "_law_spoil" "_law_spoil" st_c_law_spoil a.f_c_law_spoil a.d_c_law_spoil
  b_c_law_spoil : Binds K a.d_c_law_spoil ["value"] []
  m_c_law_spoil : mg "_law_spoil" = some (.ref a.f_c_law_spoil)
  F_c_law_steps : Fun K "_law_steps" "_law_steps" st_c_law_steps a.f_c_law_steps a.d_c_law_steps
  b_c_law_steps : Binds K a.d_c_law_steps ["deck"] []
  m_c_law_steps : mg "_law_steps" = some (.ref a.f_c_law_steps)
  F_c_law_why : Fun K "_law_why" "_law_why" st_c_law_why a.f_c_law_why a.d_c_law_why
  b_c_law_why : Binds K a.d_c_law_why ["ask", "one", "two"] []
  m_c_law_why : mg "_law_why" = some (.ref a.f_c_law_why)
  F_c_law_price : Fun K "_law_price" "_law_price" st_c_law_price a.f_c_law_price a.d_c_law_price
  b_c_law_price : Binds K a.d_c_law_price ["price", "steps", "load"] []
  m_c_law_price : mg "_law_price" = some (.ref a.f_c_law_price)
  F_c_law : Fun K "law" "law" st_c_law a.f_c_law a.d_c_law
  b_c_law : Binds K a.d_c_law ["script"] []
  m_c_law : mg "law" = some (.ref a.f_c_law)
  m_SlotError : mg "SlotError" = some (.ref a.C_SlotError)
  bc_SlotError : BaseC K a.C_SlotError
  m_InvalidTime : mg "InvalidTime" = some (.ref a.C_InvalidTime)
  ox_InvalidTime : OexC K a.C_InvalidTime
  in_InvalidTime : PySem.W.findIn K (.ref a.C_InvalidTime) "__init__" = some (some (.ref a.f_c_InvalidTime_init))
  ti_InvalidTime : PySem.W.typeIn K (.ref a.f_c_InvalidTime_init) = some (.type "function")
  no_InvalidTime_what : PySem.W.findIn K (.ref a.C_InvalidTime) "what" = some none
  xf_InvalidTime : XfC K a.C_InvalidTime
  is_InvalidTime : IsC K a.C_InvalidTime
  em_InvalidTime_SlotError : PySem.W.exmOne K (.ref a.C_InvalidTime) (.ref a.C_SlotError) = some true
  em_InvalidTime_InvalidTime : PySem.W.exmOne K (.ref a.C_InvalidTime) (.ref a.C_InvalidTime) = some true
  m_InvalidMoney : mg "InvalidMoney" = some (.ref a.C_InvalidMoney)
  ox_InvalidMoney : OexC K a.C_InvalidMoney
  in_InvalidMoney : PySem.W.findIn K (.ref a.C_InvalidMoney) "__init__" = some (some (.ref a.f_c_InvalidMoney_init))
  ti_InvalidMoney : PySem.W.typeIn K (.ref a.f_c_InvalidMoney_init) = some (.type "function")
  no_InvalidMoney_what : PySem.W.findIn K (.ref a.C_InvalidMoney) "what" = some none
  xf_InvalidMoney : XfC K a.C_InvalidMoney
  is_InvalidMoney : IsC K a.C_InvalidMoney
  em_InvalidMoney_SlotError : PySem.W.exmOne K (.ref a.C_InvalidMoney) (.ref a.C_SlotError) = some true
  em_InvalidMoney_InvalidMoney : PySem.W.exmOne K (.ref a.C_InvalidMoney) (.ref a.C_InvalidMoney) = some true
  m_Tariff : mg "Tariff" = some (.ref a.C_Tariff)
  cl_Tariff : Cls K a.C_Tariff
  na_Tariff_price : NoAttr K a.C_Tariff "price"
  na_Tariff__steps : NoAttr K a.C_Tariff "_steps"
  mk_Tariff : Mk K a.C_Tariff a.f_c_Tariff_init
  mt_c_Tariff_steps : Meth K a.C_Tariff "steps" a.f_c_Tariff_steps
  mt_c_Tariff_price_at : Meth K a.C_Tariff "price_at" a.f_c_Tariff_price_at
  mt_c_Tariff_sum_of : Meth K a.C_Tariff "sum_of" a.f_c_Tariff_sum_of
  mt_c_Tariff_is_rising : Meth K a.C_Tariff "is_rising" a.f_c_Tariff_is_rising
  kt_InvalidMoney_InvalidMoney : PySem.W.kitOne K (.ref a.C_InvalidMoney) (.ref a.C_InvalidMoney) = some true
  kt_InvalidMoney_InvalidTime : PySem.W.kitOne K (.ref a.C_InvalidMoney) (.ref a.C_InvalidTime) = some false
  n_abs : mg "abs" = none
  n_all : mg "all" = none
  n_any : mg "any" = none
  n_bool : mg "bool" = none
  n_int : mg "int" = none
  n_isinstance : mg "isinstance" = none
  n_len : mg "len" = none
  n_list : mg "list" = none
  n_range : mg "range" = none
  n_sorted : mg "sorted" = none
  n_str : mg "str" = none
  n_sum : mg "sum" = none
  n_tuple : mg "tuple" = none
  n_zip : mg "zip" = none
abbrev sp_c_law_take : Sp := sp_take
abbrev sp_c_law_deck (K : PySem.W.Frag) : Sp := sp_deck K
abbrev sp_c_law_plain (K : PySem.W.Frag) (n : Nat) : Sp := sp_plain K n
abbrev sp_c_law_spoil (K : PySem.W.Frag) (n : Nat) : Sp := sp_spoil K n
def prF (p : Int) (ps : List (Int × Int)) (x : Int) : Int := ps.foldl (fun f s => if s.1 ≤ x then s.2 else f) p
theorem pr_congr {x y : Int} : ∀ {ps : List (Int × Int)} {p : Int}, (∀ s ∈ ps, (s.1 ≤ x ↔ s.1 ≤ y)) → prF p ps x = prF p ps y
  | [], _, _ => rfl
  | s :: t, p, h => by
    have e : (if s.1 ≤ x then s.2 else p) = (if s.1 ≤ y then s.2 else p) := by
      by_cases z : s.1 ≤ x
      · rw [if_pos z, if_pos ((h s List.mem_cons_self).mp z)]
      · rw [if_neg z, if_neg fun w => z ((h s List.mem_cons_self).mpr w)]
    show prF (if s.1 ≤ x then s.2 else p) t x = prF (if s.1 ≤ y then s.2 else p) t y
    rw [e]
    exact pr_congr fun s' hs' => h s' (List.mem_cons_of_mem _ hs')
theorem pr_take {p : Int} {ps : List (Int × Int)} {x : Int} {i : Nat} {s : Int × Int} (h : ps[i]? = some s) : prF p (ps.take (i + 1)) x = if s.1 ≤ x then s.2 else prF p (ps.take i) x := by
  rw [List.take_add_one, h]
  unfold prF
  rw [List.foldl_append]
  rfl
def adjL {α β : Type} (G : α → α → β) : List α → List β
  | a :: b :: t => G a b :: adjL G (b :: t)
  | _ => []
theorem adj_range {α β : Type} (G : α → α → β) (d : α) : ∀ xs : List α, (List.range (xs.length - 1)).map (fun i => G (xs.getD i d) (xs.getD (i + 1) d)) = adjL G xs
  | [] => rfl
  | [_] => rfl
  | a :: b :: t => by
    have ih := adj_range G d (b :: t)
    have e : (a :: b :: t).length - 1 = ((b :: t).length - 1) + 1 := by simp
    rw [e, List.range_succ_eq_map, List.map_cons, List.map_map]
    show G a b :: _ = G a b :: adjL G (b :: t)
    rw [← ih]
    rfl
def ks (ps : List (Int × Int)) : List Int := ps.map Prod.fst
def asc (ps : List (Int × Int)) : Bool := !((adjL (fun a b => decide (a ≥ b)) (ks ps)).any id)
theorem asc_pw : ∀ xs : List Int, (adjL (fun a b => decide (a ≥ b)) xs).any id = false → xs.Pairwise (· < ·)
  | [], _ => .nil
  | [_], _ => List.pairwise_singleton _ _
  | a :: b :: t, h => by
    have h' : (decide (a ≥ b) || (adjL (fun a b => decide (a ≥ b)) (b :: t)).any id) = false := h
    rw [Bool.or_eq_false_iff] at h'
    have p := asc_pw (b :: t) h'.2
    have ab : a < b := by
      have := of_decide_eq_false h'.1
      omega
    refine List.pairwise_cons.mpr ⟨fun c hc => ?_, p⟩
    rcases List.mem_cons.mp hc with rfl | hc
    · exact ab
    · have := (List.pairwise_cons.mp p).1 c hc
      omega
theorem pw_asc : ∀ {xs : List Int}, xs.Pairwise (· < ·) → (adjL (fun a b => decide (a ≥ b)) xs).any id = false
  | [], _ => rfl
  | [_], _ => rfl
  | a :: b :: t, h => by
    have h1 := List.pairwise_cons.mp h
    have := h1.1 b List.mem_cons_self
    show (decide (a ≥ b) || (adjL (fun a b => decide (a ≥ b)) (b :: t)).any id) = false
    rw [pw_asc h1.2, decide_eq_false (by omega)]
    rfl
def S (f : Int → Int) (a b : Int) : Int := ((List.range (b - a).toNat).map fun (i : Nat) => f (a + i)).sum
theorem S_succ (f : Int → Int) {a b : Int} (h : a ≤ b) : S f a (b + 1) = S f a b + f b := by
  unfold S
  rw [show (b + 1 - a).toNat = (b - a).toNat + 1 by omega, List.range_succ, List.map_append, List.sum_append]
  simp
  rw [show max (b - a) 0 = b - a by omega, show a + (b - a) = b by omega]
theorem S_self (f : Int → Int) (a : Int) : S f a a = 0 := by
  unfold S
  rw [Int.sub_self]
  rfl
theorem S_add (f : Int → Int) {a b c : Int} (h1 : a ≤ b) (h2 : b ≤ c) : S f a c = S f a b + S f b c := by
  obtain ⟨k, rfl⟩ : ∃ k : Nat, c = b + k := ⟨(c - b).toNat, by omega⟩
  induction k with
  | zero => simp [S_self]
  | succ k ih =>
    have e : b + ((k + 1 : Nat) : Int) = b + k + 1 := by omega
    rw [e, S_succ f (by omega), S_succ f (by omega), ih (by omega)]
    omega
theorem S_const (f : Int → Int) {a b v : Int} (h : a ≤ b) (hc : ∀ x, a ≤ x → x < b → f x = v) : S f a b = (b - a) * v := by
  obtain ⟨k, rfl⟩ : ∃ k : Nat, b = a + k := ⟨(b - a).toNat, by omega⟩
  induction k with
  | zero => simp [S_self]
  | succ k ih =>
    have e : a + ((k + 1 : Nat) : Int) = a + k + 1 := by omega
    rw [e, S_succ f (by omega), ih (by omega) (fun x h1 h2 => hc x h1 (by omega)), hc _ (by omega) (by omega)]
    grind
theorem seg (f : Int → Int) (c : Int) : ∀ (l : List Int) (a : Int), a ≤ c → l.Pairwise (· < ·) → (∀ k ∈ l, a < k ∧ k < c) → (∀ x y, a ≤ x → x ≤ y → y < c → (∀ k ∈ l, ¬ (x < k ∧ k ≤ y)) → f x = f y) →
    (adjL (fun u v => (v - u) * f u) (a :: l ++ [c])).sum = S f a c
  | [], a, h, _, _, hf => by
    show (c - a) * f a + 0 = _
    rw [S_const f h (v := f a) fun x h1 h2 => (hf a x (Int.le_refl _) h1 h2 fun k hk => by cases hk).symm]
    omega
  | k :: t, a, h, hp, hk, hf => by
    have hk0 := hk k List.mem_cons_self
    have hp' := List.pairwise_cons.mp hp
    have ih := seg f c t k (by omega) hp'.2 (fun k' hk' => ⟨hp'.1 k' hk', (hk k' (List.mem_cons_of_mem _ hk')).2⟩) fun x y h1 h2 h3 h4 => hf x y (by omega) h2 h3 fun k' hk' => by
      rcases List.mem_cons.mp hk' with rfl | hk'
      · omega
      · exact h4 k' hk'
    show (k - a) * f a + (adjL (fun u v => (v - u) * f u) (k :: t ++ [c])).sum = _
    rw [ih, S_add f (a := a) (b := k) (c := c) (by omega) (by omega), S_const f (v := f a) (by omega) fun x h1 h2 => (hf a x (Int.le_refl _) h1 (by omega) fun k' hk' => by
      rcases List.mem_cons.mp hk' with rfl | hk'
      · omega
      · have := hp'.1 k' hk'
        omega).symm]
def edges (ps : List (Int × Int)) (a c : Int) : List Int := a :: (ks ps).filter (fun k => decide (a < k) && decide (k < c)) ++ [c]
theorem sum_edges {ps : List (Int × Int)} {p a c : Int} (h : a ≤ c) (hp : asc ps = true) : (adjL (fun u v => (v - u) * prF p ps u) (edges ps a c)).sum = S (prF p ps) a c := by
  have pw : (ks ps).Pairwise (· < ·) := asc_pw _ (by unfold asc at hp; simpa using hp)
  refine seg (prF p ps) c _ a h (pw.filter _) (fun k hk => ?_) fun x y h1 h2 h3 h4 => pr_congr fun s hs => ?_
  · have := (List.mem_filter.mp hk).2
    rw [Bool.and_eq_true, decide_eq_true_eq, decide_eq_true_eq] at this
    exact this
  · constructor
    · intro z; omega
    · intro z
      refine Int.not_lt.mp fun w => h4 s.1 (List.mem_filter.mpr ⟨List.mem_map.mpr ⟨s, hs, rfl⟩, ?_⟩) ⟨w, z⟩
      rw [Bool.and_eq_true, decide_eq_true_eq, decide_eq_true_eq]
      omega
def ris (xs : List Int) : Bool := (adjL (fun a b => decide (a ≤ b)) xs).all id
theorem ris_count (xs : List Int) : ((List.range (xs.length - 1)).filterMap (fun (i : Nat) => if xs.getD (1 + i) 0 < xs.getD i 0 then some (V.int 1) else none)).length = 0 ↔ ris xs = true := by
  unfold ris
  rw [← adj_range (fun a b => decide (a ≤ b)) 0 xs, List.length_eq_zero_iff, List.filterMap_eq_nil_iff, List.all_eq_true]
  constructor
  · intro h b hb
    obtain ⟨i, hi, rfl⟩ := List.mem_map.mp hb
    have := h i hi
    simp only [ite_eq_right_iff, reduceCtorEq, imp_false] at this
    rw [Nat.add_comm 1 i] at this
    show decide (xs.getD i 0 ≤ xs.getD (i + 1) 0) = true
    exact decide_eq_true (by omega)
  · intro h i hi
    have h' : decide (xs.getD i 0 ≤ xs.getD (i + 1) 0) = true := h _ (List.mem_map.mpr ⟨i, hi, rfl⟩)
    have := of_decide_eq_true h'
    rw [Nat.add_comm 1 i, if_neg (by omega)]

def pd (p : Int × Int) : PyData := .tuple [.int p.1, .int p.2]
theorem dp_pd {K : PySem.W.Frag} {H : Hp} {q : Addr} {z : Int × Int} (h : SqT K H q [.int z.1, .int z.2]) : Dp K H (.ref q) (pd z) := .tup h (.cons (.int _) (.cons (.int _) .nil))
theorem pd_inv {K : PySem.W.Frag} {H : Hp} {v : V} {z : Int × Int} (h : Dp K H v (pd z)) : ∃ q, v = .ref q ∧ SqT K H q [.int z.1, .int z.2] := by
  cases h with
  | tup h1 h2 =>
    cases h2 with
    | cons a b =>
      cases a
      cases b with
      | cons c d =>
        cases c
        cases d
        exact ⟨_, rfl, h1⟩
abbrev Rws (K : PySem.W.Frag) (H : Hp) (rs : List V) (ps : List (Int × Int)) : Prop := DpAll K H rs (ps.map pd)
theorem rws_at {K : PySem.W.Frag} {H : Hp} {rs : List V} {ps : List (Int × Int)} (h : Rws K H rs ps) {i : Nat} {v : V} (hv : rs[i]? = some v) : ∃ q z, v = .ref q ∧ ps[i]? = some z ∧ SqT K H q [.int z.1, .int z.2] := by
  obtain ⟨d, h1, h2⟩ := dpAll_get h hv
  rw [List.getElem?_map] at h1
  obtain ⟨z, hz, rfl⟩ := Option.map_eq_some_iff.mp h1
  obtain ⟨q, e, s⟩ := pd_inv h2
  exact ⟨q, z, e, hz, s⟩
theorem rws_len {K : PySem.W.Frag} {H : Hp} {rs : List V} {ps : List (Int × Int)} (h : Rws K H rs ps) : rs.length = ps.length := by rw [dpAll_length h, List.length_map]
theorem okD_rows {ps : List (Int × Int)} (h : ps.length ≤ 1000) : okD 3 (.list (ps.map pd)) = true := by
  simp only [okD, Bool.and_eq_true, decide_eq_true_eq, List.length_map]
  refine ⟨h, ?_⟩
  clear h
  induction ps with
  | nil => simp [okDs]
  | cons z t ih => simp only [List.map_cons, okDs, ih, Bool.and_true]; simp [pd, okD, okDs]

theorem rws_of {K : PySem.W.Frag} {H : Hp} : ∀ {rs : List V} {ps : List (Int × Int)}, rs.length = ps.length → (∀ (i : Nat) (v : V) (z : Int × Int), rs[i]? = some v → ps[i]? = some z → ∃ q, v = V.ref q ∧ SqT K H q [.int z.1, .int z.2]) → Rws K H rs ps
  | [], [], _, _ => .nil
  | [], _ :: _, h, _ => by simp at h
  | _ :: _, [], h, _ => by simp at h
  | v :: rs, z :: ps, h, k => by
    obtain ⟨q, rfl, s⟩ := k 0 v z rfl rfl
    exact .cons (dp_pd s) (rws_of (by simpa using h) fun i v z h1 h2 => k (i + 1) v z (by rw [List.getElem?_cons_succ]; exact h1) (by rw [List.getElem?_cons_succ]; exact h2))
theorem sqT_del {K : PySem.W.Frag} {H : Hp} {x C dx a : Addr} {fs : List (Str × V)} {xs : List V} (hx : H x = some (.ins C dx fs)) (s : SqT K H a xs) : SqT K (del H x) a xs := by
  have n : ∀ {o : HO}, H a = some o → (∀ C dx fs, o ≠ .ins C dx fs) → a ≠ x := fun e ne z => by
    rw [z, hx] at e
    exact ne _ _ _ (Option.some.inj e).symm
  rcases s with (s | ⟨o, s⟩) | s
  · exact .inl (.inl (del_some s (n s (fun _ _ _ z => nomatch z))))
  · exact .inl (.inr ⟨o, del_some s (n s (fun _ _ _ z => nomatch z))⟩)
  · exact .inr s
theorem rws_del {K : PySem.W.Frag} {H : Hp} {x C dx : Addr} {fs : List (Str × V)} {rs : List V} {ps : List (Int × Int)} (hx : H x = some (.ins C dx fs)) (h : Rws K H rs ps) : Rws K (del H x) rs ps :=
  rws_of (rws_len h) fun i v z h1 h2 => by
    obtain ⟨q, z', e, hz, s⟩ := rws_at h h1
    rw [h2] at hz
    cases hz
    exact ⟨q, e, sqT_del hx s⟩
def smP (p : Int) (ps : List (Int × Int)) : Prop := ps.length ≤ 1000 ∧ p.natAbs < 2 ^ 20 ∧ ∀ z ∈ ps, z.1.natAbs < 2 ^ 20 ∧ z.2.natAbs < 2 ^ 20
theorem prF_b {p x : Int} {ps : List (Int × Int)} (h : smP p ps) : (prF p ps x).natAbs < 2 ^ 20 := by
  obtain ⟨_, hp, hs⟩ := h
  have : ∀ (ps : List (Int × Int)) (p : Int), p.natAbs < 2 ^ 20 → (∀ z ∈ ps, z.2.natAbs < 2 ^ 20) → (prF p ps x).natAbs < 2 ^ 20 := by
    intro ps
    induction ps with
    | nil => intro p hp _; exact hp
    | cons z t ih =>
      intro p hp hs
      show (prF (if z.1 ≤ x then z.2 else p) t x).natAbs < _
      refine ih _ ?_ fun w hw => hs w (List.mem_cons_of_mem _ hw)
      split
      · exact hs z List.mem_cons_self
      · exact hp
  exact this ps p hp fun z hz => (hs z hz).2
theorem cut1 (xs : List V) : cutV xs (some 1) none = xs.drop 1 := by
  cases xs with
  | nil => rfl
  | cons x t => exact cut_back (by decide) (by simp only [List.length_cons]; omega)
theorem ks_at {ps : List (Int × Int)} {i : Nat} {z : Int × Int} (h : ps[i]? = some z) : (ks ps).getD i 0 = z.1 := by
  unfold ks
  rw [List.getD_eq_getElem?_getD, List.getElem?_map, h]
  rfl
theorem ks_len (ps : List (Int × Int)) : (ks ps).length = ps.length := by unfold ks; rw [List.length_map]
theorem fm_get {α : Type} (xs : List α) : (List.range xs.length).filterMap (fun i => xs[i]?) = xs := by
  induction xs with
  | nil => rfl
  | cons x t ih =>
    rw [List.length_cons, List.range_succ_eq_map, List.filterMap_cons, List.filterMap_map]
    show x :: _ = _
    congr 1
def neg (p : Int) (ps : List (Int × Int)) : Bool := decide (p < 0) || (ps.map fun z => decide (z.2 < 0)).any id
def badS (ps : List (Int × Int)) : Bool := !(asc ps) || (match ps with | [] => false | z :: _ => decide (z.1 < 1))
def TarR (K : PySem.W.Frag) (C : Addr) (H : Hp) (t r : Addr) (p : Int) (ps : List (Int × Int)) : Prop := ∃ (dx : Addr) (rs : List V), H t = some (.ins C dx [("price", .int p), ("_steps", .ref r)]) ∧ H r = some (.lst rs) ∧ Rws K H rs ps
def Tar (K : PySem.W.Frag) (C : Addr) (H : Hp) (t : Addr) (p : Int) (ps : List (Int × Int)) : Prop := ∃ (dx r : Addr) (rs : List V), H t = some (.ins C dx [("price", .int p), ("_steps", .ref r)]) ∧ H r = some (.lst rs) ∧ Rws K H rs ps
theorem sqT_delL {K : PySem.W.Frag} {H : Hp} {x a : Addr} {ys xs : List V} (hx : H x = some (.lst ys)) (s : SqT K H a xs) : SqT K (del H x) a xs := by
  have n : ∀ {o : HO}, H a = some o → (∀ ys, o ≠ .lst ys) → a ≠ x := fun e ne z => by
    rw [z, hx] at e
    exact ne _ (Option.some.inj e).symm
  rcases s with (s | ⟨o, s⟩) | s
  · exact .inl (.inl (del_some s (n s (fun _ z => nomatch z))))
  · exact .inl (.inr ⟨o, del_some s (n s (fun _ z => nomatch z))⟩)
  · exact .inr s
theorem rws_delL {K : PySem.W.Frag} {H : Hp} {x : Addr} {ys rs : List V} {ps : List (Int × Int)} (hx : H x = some (.lst ys)) (h : Rws K H rs ps) : Rws K (del H x) rs ps :=
  rws_of (rws_len h) fun i v z h1 h2 => by
    obtain ⟨q, z', e, hz, s⟩ := rws_at h h1
    rw [h2] at hz
    cases hz
    exact ⟨q, e, sqT_delL hx s⟩
theorem TarR.del {K : PySem.W.Frag} {C : Addr} {H : Hp} {t r x : Addr} {p : Int} {ps : List (Int × Int)} {ys : List V} (h : TarR K C H t r p ps) (hx : H x = some (.lst ys)) (hr : r ≠ x) : TarR K C (del H x) t r p ps := by
  obtain ⟨dx, rs, h1, h2, h3⟩ := h
  exact ⟨dx, rs, del_some h1 (fun z => by rw [z, hx] at h1; cases h1), del_some h2 hr, rws_delL hx h3⟩
theorem TarR.tar {K : PySem.W.Frag} {C : Addr} {H : Hp} {t r : Addr} {p : Int} {ps : List (Int × Int)} (h : TarR K C H t r p ps) : Tar K C H t p ps := by
  obtain ⟨dx, rs, h1, h2, h3⟩ := h
  exact ⟨dx, r, rs, h1, h2, h3⟩
theorem rws_dcs {K : PySem.W.Frag} {H : Hp} {n : Nat} : ∀ {rs : List V} {ps : List (Int × Int)}, Rws K H rs ps → DCs K H (n + 1) rs []
  | [], _, _ => .nil _
  | _ :: _, [], h => nomatch h
  | v :: rs, z :: ps, h => by
    cases h with
    | cons h1 h2 =>
      obtain ⟨q, rfl, s⟩ := pd_inv h1
      have d : DCs K H (n + 1) (V.ref q :: rs) ([] ++ []) := .cons (.tup s (by show 2 ≤ 1000; decide) (DCs.ints [z.1, z.2])) (rws_dcs h2) fun b hb => by cases hb
      exact d
theorem neg_no {p : Int} {ps : List (Int × Int)} (h : 0 ≤ p) (hs : ∀ z ∈ ps, 0 ≤ z.2) : neg p ps = false := by
  unfold neg
  rw [decide_eq_false (by omega), Bool.false_or]
  rw [Bool.eq_false_iff]
  intro c
  obtain ⟨b, hb, e⟩ := List.any_eq_true.mp c
  obtain ⟨z, hz, rfl⟩ := List.mem_map.mp hb
  have := of_decide_eq_true e
  have := hs z hz
  omega
theorem bad_no {ps : List (Int × Int)} (h : asc ps = true) (hs : ∀ z ∈ ps, 1 ≤ z.1) : badS ps = false := by
  unfold badS
  rw [h]
  cases ps with
  | nil => rfl
  | cons z t =>
    have := hs z List.mem_cons_self
    show (false || decide (z.1 < 1)) = false
    rw [decide_eq_false (by omega)]
    rfl
theorem Tar.same {K : PySem.W.Frag} {C : Addr} {H H' : Hp} {t : Addr} {p : Int} {ps : List (Int × Int)} (h : Tar K C H t p ps) (s : Same H H') : Tar K C H' t p ps := by
  obtain ⟨dx, r, rs, h1, h2, h3⟩ := h
  exact ⟨dx, r, rs, s _ _ h1, s _ _ h2, dpAll_same s _ _ h3⟩
def sp_c_Tariff_init0 (K : PySem.W.Frag) (C X : Addr) : Sp := fun vs H Q E => ∃ (x q dx : Addr) (p : Int) (rs : List V) (ps : List (Int × Int)), vs = [.ref x, .int p, .ref q] ∧ H x = some (.ins C dx []) ∧ SqL K H q rs ∧ Rws K H rs ps ∧ smP p ps ∧ (neg p ps = true → raisesW X "price" H E) ∧ (neg p ps = false → badS ps = true → raisesW X "steps" H E) ∧ (neg p ps = false → badS ps = false → ∀ H' r, SameBut x H H' → H r = none → TarR K C H' x r p ps → Q .non H')
@[irreducible] def sp_c_Tariff_init (K : PySem.W.Frag) (C X : Addr) : Sp := sp_c_Tariff_init0 K C X
theorem sp_c_Tariff_init_eq (K : PySem.W.Frag) (C X : Addr) : sp_c_Tariff_init K C X = sp_c_Tariff_init0 K C X := by unfold sp_c_Tariff_init; rfl
theorem sp_c_Tariff_init_use {K : PySem.W.Frag} {C X : Addr} {vs : List V} {H : Hp} {Q : VK} {E : XK} (h : sp_c_Tariff_init0 K C X vs H Q E) : sp_c_Tariff_init K C X vs H Q E := by rw [sp_c_Tariff_init_eq]; exact h
def sp_c_Tariff_steps0 (K : PySem.W.Frag) (C : Addr) : Sp := fun vs H Q _ => ∃ (t : Addr) (p : Int) (ps : List (Int × Int)), vs = [.ref t] ∧ Tar K C H t p ps ∧ ∀ l rs, H l = none → Rws K H rs ps → Q (.ref l) (upd H l (.lst rs))
@[irreducible] def sp_c_Tariff_steps (K : PySem.W.Frag) (C : Addr) : Sp := sp_c_Tariff_steps0 K C
theorem sp_c_Tariff_steps_eq (K : PySem.W.Frag) (C : Addr) : sp_c_Tariff_steps K C = sp_c_Tariff_steps0 K C := by unfold sp_c_Tariff_steps; rfl
theorem sp_c_Tariff_steps_use {K : PySem.W.Frag} {C : Addr} {vs : List V} {H : Hp} {Q : VK} {E : XK} (h : sp_c_Tariff_steps0 K C vs H Q E) : sp_c_Tariff_steps K C vs H Q E := by rw [sp_c_Tariff_steps_eq]; exact h
def sp_c_Tariff_price_at0 (K : PySem.W.Frag) (C X : Addr) : Sp := fun vs H Q E => ∃ (t : Addr) (p x : Int) (ps : List (Int × Int)), vs = [.ref t, .int x] ∧ Tar K C H t p ps ∧ (x < 0 → raisesW X "load" H E) ∧ (0 ≤ x → ∀ H', Same H H' → Q (.int (prF p ps x)) H')
@[irreducible] def sp_c_Tariff_price_at (K : PySem.W.Frag) (C X : Addr) : Sp := sp_c_Tariff_price_at0 K C X
theorem sp_c_Tariff_price_at_eq (K : PySem.W.Frag) (C X : Addr) : sp_c_Tariff_price_at K C X = sp_c_Tariff_price_at0 K C X := by unfold sp_c_Tariff_price_at; rfl
theorem sp_c_Tariff_price_at_use {K : PySem.W.Frag} {C X : Addr} {vs : List V} {H : Hp} {Q : VK} {E : XK} (h : sp_c_Tariff_price_at0 K C X vs H Q E) : sp_c_Tariff_price_at K C X vs H Q E := by rw [sp_c_Tariff_price_at_eq]; exact h
def sp_c_Tariff_sum_of0 (K : PySem.W.Frag) (C X : Addr) : Sp := fun vs H Q E => ∃ (t : Addr) (p x y : Int) (ps : List (Int × Int)), vs = [.ref t, .int x, .int y] ∧ Tar K C H t p ps ∧ smP p ps ∧ asc ps = true ∧ y.natAbs < 2 ^ 20 ∧ (¬ (0 ≤ x ∧ x ≤ y) → raisesW X "load" H E) ∧ (0 ≤ x → x ≤ y → ∀ H', Same H H' → Q (.int (S (prF p ps) x y)) H')
@[irreducible] def sp_c_Tariff_sum_of (K : PySem.W.Frag) (C X : Addr) : Sp := sp_c_Tariff_sum_of0 K C X
theorem sp_c_Tariff_sum_of_eq (K : PySem.W.Frag) (C X : Addr) : sp_c_Tariff_sum_of K C X = sp_c_Tariff_sum_of0 K C X := by unfold sp_c_Tariff_sum_of; rfl
theorem sp_c_Tariff_sum_of_use {K : PySem.W.Frag} {C X : Addr} {vs : List V} {H : Hp} {Q : VK} {E : XK} (h : sp_c_Tariff_sum_of0 K C X vs H Q E) : sp_c_Tariff_sum_of K C X vs H Q E := by rw [sp_c_Tariff_sum_of_eq]; exact h
def sp_c_Tariff_is_rising0 (K : PySem.W.Frag) (C : Addr) : Sp := fun vs H Q _ => ∃ (t : Addr) (p : Int) (ps : List (Int × Int)), vs = [.ref t] ∧ Tar K C H t p ps ∧ ps.length ≤ 1000 ∧ ∀ H', Same H H' → Q (.bl (ris (p :: ps.map Prod.snd))) H'
@[irreducible] def sp_c_Tariff_is_rising (K : PySem.W.Frag) (C : Addr) : Sp := sp_c_Tariff_is_rising0 K C
theorem sp_c_Tariff_is_rising_eq (K : PySem.W.Frag) (C : Addr) : sp_c_Tariff_is_rising K C = sp_c_Tariff_is_rising0 K C := by unfold sp_c_Tariff_is_rising; rfl
theorem sp_c_Tariff_is_rising_use {K : PySem.W.Frag} {C : Addr} {vs : List V} {H : Hp} {Q : VK} {E : XK} (h : sp_c_Tariff_is_rising0 K C vs H Q E) : sp_c_Tariff_is_rising K C vs H Q E := by rw [sp_c_Tariff_is_rising_eq]; exact h
def sp_c_law_steps0 (K : PySem.W.Frag) : Sp := fun vs H Q _ => ∃ (d : Addr) (D : List Int), vs = [.ref d] ∧ H d = some (dk D) ∧ ∀ (H' : Hp) (D' : List Int) (l : Addr) (rs : List V) (ps : List (Int × Int)), SameBut d H H' → H' d = some (dk D') → H l = none → H' l = some (.lst rs) → Rws K (del H' d) rs ps → ps.length ≤ 4 → asc ps = true → (∀ z ∈ ps, 1 ≤ z.1 ∧ z.1 ≤ 100 ∧ 0 ≤ z.2 ∧ z.2 < 2000) → Q (.ref l) H'
@[irreducible] def sp_c_law_steps (K : PySem.W.Frag) : Sp := sp_c_law_steps0 K
theorem sp_c_law_steps_eq (K : PySem.W.Frag) : sp_c_law_steps K = sp_c_law_steps0 K := by unfold sp_c_law_steps; rfl
theorem sp_c_law_steps_use {K : PySem.W.Frag} {vs : List V} {H : Hp} {Q : VK} {E : XK} (h : sp_c_law_steps0 K vs H Q E) : sp_c_law_steps K vs H Q E := by rw [sp_c_law_steps_eq]; exact h
def sp_c_law_price0 (K : PySem.W.Frag) : Sp := fun vs H Q _ => ∃ (q : Addr) (p x : Int) (rs : List V) (ps : List (Int × Int)), vs = [.int p, .ref q, .int x] ∧ SqL K H q rs ∧ Rws K H rs ps ∧ ∀ H', Same H H' → Q (.int (prF p ps x)) H'
@[irreducible] def sp_c_law_price (K : PySem.W.Frag) : Sp := sp_c_law_price0 K
theorem sp_c_law_price_eq (K : PySem.W.Frag) : sp_c_law_price K = sp_c_law_price0 K := by unfold sp_c_law_price; rfl
theorem sp_c_law_price_use {K : PySem.W.Frag} {vs : List V} {H : Hp} {Q : VK} {E : XK} (h : sp_c_law_price0 K vs H Q E) : sp_c_law_price K vs H Q E := by rw [sp_c_law_price_eq]; exact h
def sp_c_law_why0 (K : PySem.W.Frag) (C : Addr) : Sp := fun vs H Q _ => ∃ (k : Int) (v w : V) (wd : Str), vs = [.int k, v, w] ∧ 0 ≤ k ∧ ((k = 0 ∧ ∃ (p : Int) (q : Addr) (rs : List V) (ps : List (Int × Int)), v = .int p ∧ w = .ref q ∧ SqL K H q rs ∧ Rws K H rs ps ∧ smP p ps ∧ ((neg p ps = true ∧ wd = "price") ∨ (neg p ps = false ∧ badS ps = true ∧ wd = "steps"))) ∨ (k = 1 ∧ ∃ (t : Addr) (p x : Int) (ps : List (Int × Int)), v = .ref t ∧ w = .int x ∧ Tar K C H t p ps ∧ x < 0 ∧ wd = "load") ∨ (2 ≤ k ∧ ∃ (t q : Addr) (p x y : Int) (ps : List (Int × Int)), v = .ref t ∧ w = .ref q ∧ Tar K C H t p ps ∧ smP p ps ∧ asc ps = true ∧ y.natAbs < 2 ^ 20 ∧ SqT K H q [.int x, .int y] ∧ ¬ (0 ≤ x ∧ x ≤ y) ∧ wd = "load")) ∧ ∀ H', Same H H' → Q (.str wd) H'
@[irreducible] def sp_c_law_why (K : PySem.W.Frag) (C : Addr) : Sp := sp_c_law_why0 K C
theorem sp_c_law_why_eq (K : PySem.W.Frag) (C : Addr) : sp_c_law_why K C = sp_c_law_why0 K C := by unfold sp_c_law_why; rfl
theorem sp_c_law_why_use {K : PySem.W.Frag} {C : Addr} {vs : List V} {H : Hp} {Q : VK} {E : XK} (h : sp_c_law_why0 K C vs H Q E) : sp_c_law_why K C vs H Q E := by rw [sp_c_law_why_eq]; exact h
def sp_c_law (K : PySem.W.Frag) : Sp := fun vs H Q _ => ∃ (a : Addr) (ns : List Int), vs = [.ref a] ∧ SqL K H a (ns.map V.int) ∧ ns.length ≤ 63 ∧ ∀ H', Q (.bl true) H'

theorem ok_c_InvalidMoney_init {P : Program} {w : World} {K : PySem.W.Frag} {mg : Str → Option Value} {base : Heap} {a : Ad} (T : Txt K mg a) : FnOk P w K mg base (L2.CX P w) 1 a.f_c_InvalidMoney_init a.d_c_InvalidMoney_init ["self", "what"] (sp_exinit a.C_InvalidMoney) := by
  refine T.F_c_InvalidMoney_init.okX sc_c_InvalidMoney_init (fun vs H Q E h => ?_) (fun cdv A outer s H vs Q E hr h => ?_)
  · walk_at "len"
  · obtain ⟨x, wd, rfl, hx, hl, k⟩ := h
    refine ⟨_, (pss_cons (ps_expr (pe_binit T.bc_SlotError (by rfl) T.m_SlotError (pa_cons (pv 0) (pa_cons (pe_op op_add_str pe_str (pv 1)) pa_nil))))
    (pss_one (ps_ost (pv 0) (pv 1)))), ?_⟩
    refine ⟨_, rfl, _, rfl, _, _, rfl, rfl, by have := small1000000 (n := 1000) (by decide); show _ + wd.length ≤ _; exact Nat.le_of_lt (Nat.lt_of_le_of_lt (Nat.add_le_add_left hl _) (small1000000 (by decide +kernel))), ?_⟩
    refine ⟨x, _, _, rfl, by show 1 ≤ 1000; decide, T.ox_InvalidMoney, hx, ?_⟩
    refine ⟨_, rfl, _, rfl, x, _, rfl, T.ox_InvalidMoney, T.no_InvalidMoney_what, .inl ⟨hx, fun dx n ne => k dx n ne⟩⟩
theorem ok_c_Tariff_init {P : Program} {w : World} {K : PySem.W.Frag} {mg : Str → Option Value} {base : Heap} {a : Ad} (T : Txt K mg a) : FnOk P w K mg base (L2.CX P w) 3 a.f_c_Tariff_init a.d_c_Tariff_init ["self", "price", "steps"] (sp_c_Tariff_init K a.C_Tariff a.C_InvalidMoney) := by
  have G_c_InvalidMoney_init : FnOk P w K mg base (L2.CX P w) 1 a.f_c_InvalidMoney_init a.d_c_InvalidMoney_init ["self", "what"] (sp_exinit a.C_InvalidMoney) := ok_c_InvalidMoney_init T
  refine T.F_c_Tariff_init.okX sc_c_Tariff_init (fun vs H Q E h => ?_) (fun cdv A outer s H vs Q E hr h => ?_)
  · rw [sp_c_Tariff_init_eq] at h
    walk_at "len"
  · rw [sp_c_Tariff_init_eq] at h
    obtain ⟨x, q, dx, p, rs, ps, rfl, hx, hq, hr0, hsm, k0, k1, k2⟩ := h
    refine ⟨_, (pss_cons (ps_setLcK (i := 3) (own := [("step", 4)]) (by rfl) sc_c_Tariff_init.nd (by rfl) (by rfl) (sw_true rfl rfl rfl (by decide +kernel)) (pi_list (pv 2)) (blkOk_by (own := [("step", 4)]) (N := ["self", "price", "steps", "rows", "step", "row", "one", "two"]) (sc := defScope st_c_Tariff_init) (by decide +kernel)) (fun _ _ _ _ _ => (pg_name (i := 4) sc_c_Tariff_init.nd (by rfl) (by first | exact Or.inl rfl | exact Or.inr rfl))) (fun _ _ _ _ _ => pts_nil) (fun _ _ _ _ _ => (pe_callTy call_tuple_of (by rfl) T.n_tuple (by decide +kernel) (pa_cons (pv 4) pa_nil))) (by walk_at "blk") (by walk_at "blk") (by walk_at "blk"))
    (pss_cons (ps_if (PW.pt (pw_or (pt_cmpR op_lt (pv 1) pe_int (nomark _)) (pw_or1 (pt_val (pe_callB (cr_any rfl) (by rfl) T.n_any (by decide +kernel) (pa_cons (pe_lcK (own := [("row", 5)]) (by rfl) sc_c_Tariff_init.nd (pi_list (pv 3)) (blkOk_by (own := [("row", 5)]) (N := ["self", "price", "steps", "rows", "step", "row", "one", "two"]) (sc := defScope st_c_Tariff_init) (by decide +kernel)) (fun _ _ _ _ _ => (pg_name (i := 5) sc_c_Tariff_init.nd (by rfl) (by first | exact Or.inl rfl | exact Or.inr rfl))) (fun _ _ _ _ _ => pts_nil) (fun _ _ _ _ _ => (pe_cmpR op_lt (pe_ix ix_tup (pv 5) pe_int (fun _ _ => rfl)) pe_int (nomark _))) (by walk_at "blk") (by walk_at "blk") (by walk_at "blk")) pa_nil)))))) (pss_one (ps_raise rfl (takes_of rfl rfl rfl rfl) (pmk_oex T.ox_InvalidMoney T.in_InvalidMoney T.ti_InvalidMoney G_c_InvalidMoney_init (hr.mono (by decide)) T.b_c_InvalidMoney_init .nil passL (by rfl) T.m_InvalidMoney (pa_cons pe_str pa_nil)))) pss_nil)
    (pss_cons (ps_if (PW.pt (pw_or (pt_val (pe_callB (cr_any rfl) (by rfl) T.n_any (by decide +kernel) (pa_cons (pe_lcK (own := [("one", 6), ("two", 7)]) (by rfl) sc_c_Tariff_init.nd (pi_zip (by rfl) T.n_zip (pa_cons (pv 3) (pa_cons (pe_slice sl_list (pv 3) (po_some pe_int) po_none) pa_nil))) (blkOk_by (own := [("one", 6), ("two", 7)]) (N := ["self", "price", "steps", "rows", "step", "row", "one", "two"]) (sc := defScope st_c_Tariff_init) (by decide +kernel)) (fun _ _ _ _ _ => (pg_tup (n := 2) (by rfl) (pgs_cons (pg_name (i := 6) sc_c_Tariff_init.nd (by rfl) (by first | exact Or.inl rfl | exact Or.inr rfl)) (pgs_cons (pg_name (i := 7) sc_c_Tariff_init.nd (by rfl) (by first | exact Or.inl rfl | exact Or.inr rfl)) pgs_nil)))) (fun _ _ _ _ _ => pts_nil) (fun _ _ _ _ _ => (pe_cmpR op_ge (pe_ix ix_tup (pv 6) pe_int (fun _ _ => rfl)) (pe_ix ix_tup (pv 7) pe_int (fun _ _ => rfl)) (nomark _))) (by walk_at "blk") (by walk_at "blk") (by walk_at "blk")) pa_nil))) (pw_or1 (PW.pt (pw_and (pt_truth (pv 3) (by intro _; rfl)) (pw_and1 (pt_cmpR op_lt (pe_ix ix_tup (pe_ix ix_list (pv 3) pe_int (fun _ _ => rfl)) pe_int (fun _ _ => rfl)) pe_int (nomark _)))))))) (pss_one (ps_raise rfl (takes_of rfl rfl rfl rfl) (pmk_oex T.ox_InvalidMoney T.in_InvalidMoney T.ti_InvalidMoney G_c_InvalidMoney_init (hr.mono (by decide)) T.b_c_InvalidMoney_init .nil passL (by rfl) T.m_InvalidMoney (pa_cons pe_str pa_nil)))) pss_nil)
    (pss_cons (ps_fld (pv 0) (pv 1) (by rfl))
    (pss_one (ps_fld (pv 0) (pv 3) (by rfl))))))), ?_⟩
    obtain ⟨sl1, sp1, sz⟩ := id hsm
    have rl := rws_len hr0
    refine ⟨_, rfl, q, rfl, ⟨_, hq⟩, fun E1 hE1 => ?_⟩
    refine lc_fn (walk_list (xs := rs)) (fun i => rs[i]?) (by omega) hE1 (fun H s => s.seq hq) ?_ ?_
    · rintro i v H1 H2 R N hi s1 ⟨rfl, hv⟩ hR hN
      obtain ⟨q2, z, rfl, hz, hq2⟩ := rws_at hr0 hv
      refine ⟨rfl, ?_⟩
      exact ⟨_, rfl, q2, _, rfl, .inr ⟨s1.tup hq2, hR _ _ hv (Same.refl _)⟩⟩
    intro H1 s1 hE
    rw [fm_get] at hE
    have hr1 : Rws K H1 rs ps := dpAll_same s1 _ _ hr0
    have x1 := s1 _ _ hx
    have bad : ∀ (H2 : Hp) (wd : Str), wd.length ≤ 1000 → raisesW a.C_InvalidMoney wd H2 E → ([wd] : List Str).length ≤ 1000 ∧ ∀ aa, H2 aa = none → sp_exinit a.C_InvalidMoney (.ref aa :: ([.str wd] ++ [])) (upd H2 aa (exo aa a.C_InvalidMoney none))
        (fun v H3 => v = .non ∧ ∃ (d : Addr) (fs : List (Str × V)), H3 aa = some (exo aa a.C_InvalidMoney (some d)) ∧ H3 d = some (exd d fs) ∧ H2 d = none ∧ E (.ref a.C_InvalidMoney) (some d) (upd (del H3 aa) d (.xd fs))) (fun _ _ _ => False) :=
      fun H2 wd hw z => ⟨by show 1 ≤ 1000; decide, raise_ok z hw⟩
    have pget : ∀ i v, rs[i]? = some v → ∃ (q2 : Addr) (z : Int × Int), v = .ref q2 ∧ ps[i]? = some z ∧ ps.getD i (0, 0) = z ∧ SqT K H1 q2 [.int z.1, .int z.2] := fun i v hv => by
      obtain ⟨q2, z, e, hz, hq2⟩ := rws_at hr1 hv
      exact ⟨q2, z, e, hz, by rw [List.getD_eq_getElem?_getD, hz]; rfl, hq2⟩
    refine ⟨_, rfl, _, _, rfl, rfl, _, rfl, ?_⟩
    refine ite2 (fun c => ?_) (fun c => ?_)
    · exact bad H1 "price" (by decide +kernel) ((k0 (by unfold neg; rw [show decide (p < 0) = true from c]; rfl)).mono s1)
    have c0 : decide (p < 0) = false := by simpa using c
    refine ⟨_, rfl, E1, rfl, ⟨_, SqL.of hE⟩, fun E2 hE2 => ?_⟩
    refine lc_fn (walk_list (xs := rs)) (fun i => some (.bl (decide ((ps.getD i (0, 0)).2 < 0)))) (by omega) hE2 (fun H s => s.seq (SqL.of hE)) ?_ ?_
    · rintro i v H2 H3 R N hi s2 ⟨rfl, hv⟩ hR hN
      obtain ⟨q2, z, rfl, hz, ez, hq2⟩ := pget i v hv
      refine ⟨rfl, ?_⟩
      refine ⟨_, rfl, q2, _, _, _, rfl, rfl, s2.tup hq2, rfl, _, _, rfl, rfl, hR _ _ ?_ (Same.refl _)⟩
      rw [ez]
    intro H2 s2 hE2
    rw [fm_some, rl, range_at ps (fun z => V.bl (decide (z.2 < 0))) _ (fun i z e => by rw [List.getD_eq_getElem?_getD, e]; rfl)] at hE2
    refine ⟨E2, ps.map fun z => decide (z.2 < 0), rfl, SqL.of (by rw [hE2, List.map_map]; rfl), ?_⟩
    refine ⟨_, rfl, ?_⟩
    refine ite2 (fun c => ?_) (fun c => ?_)
    · exact bad H2 "price" (by decide +kernel) ((k0 (by unfold neg; rw [c0, c]; rfl)).mono (s1.trans s2))
    have ne : neg p ps = false := by
      unfold neg
      rw [c0]
      simpa using c
    have hE' := s2 _ _ hE
    refine ⟨_, rfl, _, rfl, 1, rfl, E1, _, rfl, SqL.of hE', fun l1 hl1 => ?_⟩
    rw [cut1]
    have s3 := Same.new (o := .lst (rs.drop 1)) hl1
    have hL1 : (upd H2 l1 (.lst (rs.drop 1)) : Hp) l1 = _ := upd_same
    generalize (upd H2 l1 (.lst (rs.drop 1)) : Hp) = H3 at s3 hL1 ⊢
    have hE3' := s3 _ _ hE'
    refine ⟨E1, l1, rs, rs.drop 1, rfl, SqL.of hE3', SqL.of hL1, fun E3 hE3 => ?_⟩
    refine lc_fn (walk_zip (xs := rs) (ys := rs.drop 1) (n := rs.length - 1) (by rw [List.length_drop]; omega)) (fun i => some (.bl (decide ((ks ps).getD i 0 ≥ (ks ps).getD (i + 1) 0)))) (by omega) hE3 (fun H s => ⟨s.seq (SqL.of hE3'), s.seq (SqL.of hL1)⟩) ?_ ?_
    · rintro i v H4 H5 R N hi s4 ⟨T1, x1, x2, rfl, hT1, rfl, hx1, hx2⟩ hR hN
      have hx2 : (rs.drop 1)[i]? = some x2 := hx2
      rw [List.getElem?_drop, Nat.add_comm] at hx2
      obtain ⟨q1, z1, rfl, hz1, ez1, hq1⟩ := pget i x1 hx1
      obtain ⟨q2, z2, rfl, hz2, ez2, hq2⟩ := pget (i + 1) x2 hx2
      have sx := ((s2.trans s3).trans s4).trans (Same.new (o := .tup [.ref q1, .ref q2]) hT1)
      refine ⟨T1, _, rfl, SqT.of upd_same, rfl, _, _, rfl, _, _, rfl, rfl, rfl, ?_⟩
      refine ⟨_, rfl, q1, _, _, _, rfl, rfl, sx.tup hq1, rfl, _, rfl, q2, _, _, _, rfl, rfl, sx.tup hq2, rfl, _, _, rfl, rfl, hR _ _ ?_ (Same.new hT1)⟩
      rw [ks_at hz1, ks_at hz2]
    intro H4 s4 hE4
    rw [fm_some, rl, ← ks_len] at hE4
    have eb : (List.range ((ks ps).length - 1)).map (fun i => V.bl (decide ((ks ps).getD i 0 ≥ (ks ps).getD (i + 1) 0))) = (adjL (fun a b => decide (a ≥ b)) (ks ps)).map V.bl := by
      rw [← adj_range (fun a b => decide (a ≥ b)) 0 (ks ps), List.map_map]
      rfl
    rw [eb] at hE4
    refine ⟨E3, adjL (fun a b => decide (a ≥ b)) (ks ps), rfl, SqL.of hE4, ?_⟩
    refine ⟨_, rfl, ?_⟩
    have sAll := ((s1.trans s2).trans s3).trans s4
    refine ite2 (fun c => ?_) (fun c => ?_)
    · refine bad H4 "steps" (by decide +kernel) ((k1 ne ?_).mono sAll)
      unfold badS asc
      rw [c]
      rfl
    have as : asc ps = true := by
      unfold asc
      simpa using c
    have hE5 := s4 _ _ hE3'
    refine ⟨_, rfl, ?_⟩
    have x5 : H4 x = some (.ins a.C_Tariff dx []) := sAll _ _ hx
    have nE : E1 ≠ x := fun z => by rw [z, hx] at hE1; cases hE1
    have fin : badS ps = false → tSeq (sFld K (tVar 0) (tVar 1) "price") (sFld K (tVar 0) (tVar 3) "_steps") { nx := fun _ H' => Q .non H', rt := Q } [some (.ref x), some (.int p), some (.ref q), some (.ref E1), none, none, none, none] H4 := fun bs => by
      refine ⟨_, rfl, _, rfl, x, a.C_Tariff, dx, _, rfl, x5, T.cl_Tariff, T.na_Tariff_price, by decide, ?_⟩
      refine ⟨_, rfl, _, rfl, x, a.C_Tariff, dx, _, rfl, upd_same, T.cl_Tariff, T.na_Tariff__steps, by show 1 < 1000; decide, ?_⟩
      rw [upd_upd]
      refine k2 ne bs _ E1 (fun b o nb e => by rw [upd_ne nb]; exact sAll _ _ e) hE1 ⟨dx, rs, upd_same, by rw [upd_ne nE]; exact hE5, ?_⟩
      refine dpAll_same (H := del H x) (fun b o e => ?_) _ _ (rws_del hx hr0)
      obtain ⟨e1, e2⟩ := del_of e
      rw [upd_ne e2]
      exact sAll _ _ e1
    refine ⟨!rs.isEmpty, .inl ⟨_, SqL.of hE5, by cases rs <;> rfl⟩, ?_⟩
    refine ite2 (fun c => ?_) (fun c => ?_)
    rotate_left
    · refine ite2 (fun z => nomatch z) (fun _ => fin ?_)
      have : rs = [] := by
        cases rs with
        | nil => rfl
        | cons v t => exact absurd rfl c
      rw [this] at rl
      have : ps = [] := List.length_eq_zero_iff.mp rl.symm
      unfold badS
      rw [as, this]
      rfl
    have hne : ∃ v0, rs[0]? = some v0 := by
      cases rs with
      | nil => exact absurd c (by simp)
      | cons v t => exact ⟨v, rfl⟩
    obtain ⟨v0, hv0⟩ := hne
    obtain ⟨q0, z0, rfl, hz0, _, hq0⟩ := pget 0 v0 hv0
    have sx := (s2.trans s3).trans s4
    have hps : badS ps = decide (z0.1 < 1) := by
      cases ps with
      | nil => simp at hz0
      | cons w t =>
        cases hz0
        unfold badS
        rw [as]
        rfl
    refine ⟨_, rfl, E1, _, _, _, rfl, rfl, SqL.of hE5, atI_nat' (j := 0) rfl hv0, q0, _, _, _, rfl, rfl, sx.tup hq0, rfl, _, _, rfl, rfl, _, rfl, ?_⟩
    refine ite2 (fun e => ?_) (fun e => ?_)
    · exact bad H4 "steps" (by decide +kernel) ((k1 ne (by rw [hps]; exact e)).mono sAll)
    · exact fin (by rw [hps]; simpa using e)
theorem ok_c_Tariff_is_rising {P : Program} {w : World} {K : PySem.W.Frag} {mg : Str → Option Value} {base : Heap} {a : Ad} (T : Txt K mg a) : FnOk P w K mg base (L2.CX P w) 1 a.f_c_Tariff_is_rising a.d_c_Tariff_is_rising ["self"] (sp_c_Tariff_is_rising K a.C_Tariff) := by
  refine T.F_c_Tariff_is_rising.okX sc_c_Tariff_is_rising (fun vs H Q E h => ?_) (fun cdv A outer s H vs Q E hr h => ?_)
  · rw [sp_c_Tariff_is_rising_eq] at h
    walk_at "len"
  · rw [sp_c_Tariff_is_rising_eq] at h
    obtain ⟨t, p, ps, rfl, hT, hl, k⟩ := h
    refine ⟨_, (pss_cons (ps_set (i := 1) sc_c_Tariff_is_rising.nd (by rfl) (Or.inl rfl) (pe_op op_cat (pe_lst (pa_cons (pe_fld (pv 0) (by rfl)) pa_nil)) (pe_lcK (own := [("bound", 2), ("price", 3)]) (by rfl) sc_c_Tariff_is_rising.nd (pi_list (pe_fld (pv 0) (by rfl))) (blkOk_by (own := [("bound", 2), ("price", 3)]) (N := ["self", "prices", "bound", "price", "one", "two"]) (sc := defScope st_c_Tariff_is_rising) (by decide +kernel)) (fun _ _ _ _ _ => (pg_tup (n := 2) (by rfl) (pgs_cons (pg_name (i := 2) sc_c_Tariff_is_rising.nd (by rfl) (by first | exact Or.inl rfl | exact Or.inr rfl)) (pgs_cons (pg_name (i := 3) sc_c_Tariff_is_rising.nd (by rfl) (by first | exact Or.inl rfl | exact Or.inr rfl)) pgs_nil)))) (fun _ _ _ _ _ => pts_nil) (fun _ _ _ _ _ => (pv 3)) (by walk_at "blk") (by walk_at "blk") (by walk_at "blk"))))
    (pss_one (ps_ret (pe_callB (cr_all rfl) (by rfl) T.n_all (by decide +kernel) (pa_cons (pe_lcK (own := [("one", 4), ("two", 5)]) (by rfl) sc_c_Tariff_is_rising.nd (pi_zip (by rfl) T.n_zip (pa_cons (pv 1) (pa_cons (pe_slice sl_list (pv 1) (po_some pe_int) po_none) pa_nil))) (blkOk_by (own := [("one", 4), ("two", 5)]) (N := ["self", "prices", "bound", "price", "one", "two"]) (sc := defScope st_c_Tariff_is_rising) (by decide +kernel)) (fun _ _ _ _ _ => (pg_tup (n := 2) (by rfl) (pgs_cons (pg_name (i := 4) sc_c_Tariff_is_rising.nd (by rfl) (by first | exact Or.inl rfl | exact Or.inr rfl)) (pgs_cons (pg_name (i := 5) sc_c_Tariff_is_rising.nd (by rfl) (by first | exact Or.inl rfl | exact Or.inr rfl)) pgs_nil)))) (fun _ _ _ _ _ => pts_nil) (fun _ _ _ _ _ => (pe_cmpR op_le (pv 4) (pv 5) (nomark _))) (by walk_at "blk") (by walk_at "blk") (by walk_at "blk")) pa_nil))))), ?_⟩
    obtain ⟨dx, r, rs, h1, h2, h3⟩ := id hT
    have rl := rws_len h3
    refine ⟨_, rfl, t, a.C_Tariff, dx, _, .int p, rfl, h1, T.cl_Tariff, T.na_Tariff_price, rfl, by show 1 ≤ sizeLine; decide, fun la hla => ?_⟩
    have s1 := Same.new (o := .lst [.int p]) hla
    have hA : (upd H la (.lst [.int p]) : Hp) la = some (.lst [.int p]) := upd_same
    generalize (upd H la (.lst [.int p]) : Hp) = H1 at s1 hA ⊢
    refine ⟨_, rfl, t, a.C_Tariff, dx, _, .ref r, rfl, s1 _ _ h1, T.cl_Tariff, T.na_Tariff__steps, rfl, ?_⟩
    refine ⟨r, rfl, ⟨_, SqL.of (s1 _ _ h2)⟩, fun E1 hE1 => ?_⟩
    refine lc_fn (walk_list (xs := rs)) (fun i => some (V.int (ps.getD i (0, 0)).2)) (by omega) hE1 (fun H s => SqL.of (s _ _ (s1 _ _ h2))) ?_ ?_
    · rintro i v H4 H5 R N hi s4 ⟨rfl, hv⟩ hR hN
      obtain ⟨q1, z1, rfl, hz1, hq1⟩ := rws_at h3 hv
      refine ⟨q1, _, rfl, s4.tup (s1.tup hq1), rfl, _, _, rfl, _, _, rfl, rfl, rfl, ?_⟩
      refine ⟨_, rfl, hR _ _ ?_ (Same.refl _)⟩
      rw [List.getD_eq_getElem?_getD, hz1]
      rfl
    intro H2 s2 hE
    rw [fm_some, rl, range_at ps (fun z => V.int z.2) _ (fun i z e => by rw [List.getD_eq_getElem?_getD, e]; rfl)] at hE
    refine ⟨la, E1, _, _, rfl, rfl, s2 _ _ hA, hE, by rw [List.length_map]; exact Nat.le_of_lt (small1000000 (by show 1 + _ ≤ _; omega)), fun lb hlb => ?_⟩
    have ee : [V.int p] ++ ps.map (fun z => V.int z.2) = (p :: ps.map Prod.snd).map V.int := by
      rw [List.map_cons, List.map_map]
      rfl
    have hB : (upd H2 lb (.lst ([.int p] ++ ps.map (fun z => V.int z.2))) : Hp) lb = some (.lst ((p :: ps.map Prod.snd).map V.int)) := by rw [upd_same, ee]
    have s3 := Same.new (o := .lst ([.int p] ++ ps.map (fun z => V.int z.2))) hlb
    generalize (upd H2 lb (.lst ([.int p] ++ ps.map (fun z => V.int z.2))) : Hp) = H3 at s3 hB ⊢
    have ez : (p :: ps.map Prod.snd).length ≤ 1001 := by simp only [List.length_cons, List.length_map]; omega
    generalize p :: ps.map Prod.snd = es at *
    have eml : (es.map V.int).length = es.length := List.length_map _
    refine ⟨_, rfl, _, rfl, 1, rfl, lb, _, rfl, SqL.of hB, fun le hle => ?_⟩
    rw [cut1]
    have s6 := Same.new (o := .lst ((es.map V.int).drop 1)) hle
    have hE6 : (upd H3 le (.lst ((es.map V.int).drop 1)) : Hp) le = _ := upd_same
    generalize (upd H3 le (.lst ((es.map V.int).drop 1)) : Hp) = H5 at s6 hE6 ⊢
    refine ⟨lb, le, _, _, rfl, SqL.of (s6 _ _ hB), SqL.of hE6, fun E2 hE2 => ?_⟩
    refine lc_fn (walk_zip (xs := es.map V.int) (ys := (es.map V.int).drop 1) (n := es.length - 1) (by rw [List.length_drop, eml]; omega)) (fun i => some (.bl (decide (es.getD i 0 ≤ es.getD (i + 1) 0)))) (by omega) hE2 (fun H s => ⟨SqL.of (s _ _ (s6 _ _ hB)), SqL.of (s _ _ hE6)⟩) ?_ ?_
    · rintro i v H6 H7 R N hi s7 ⟨T1, x1, x2, rfl, hT1, rfl, hx1, hx2⟩ hR hN
      have hx2 : ((es.map V.int).drop 1)[i]? = some x2 := hx2
      rw [List.getElem?_drop, Nat.add_comm] at hx2
      obtain ⟨z1, hz1, rfl⟩ := ints_get hx1
      obtain ⟨z2, hz2, rfl⟩ := ints_get hx2
      have g1 : es.getD i 0 = z1 := by rw [List.getD_eq_getElem?_getD, hz1]; rfl
      have g2 : es.getD (i + 1) 0 = z2 := by rw [List.getD_eq_getElem?_getD, hz2]; rfl
      refine ⟨T1, _, rfl, SqT.of upd_same, rfl, _, _, rfl, _, _, rfl, rfl, rfl, ?_⟩
      refine ⟨_, rfl, _, rfl, _, _, rfl, rfl, hR _ _ ?_ (Same.new hT1)⟩
      rw [g1, g2]
    intro H6 s7 hE7
    rw [fm_some] at hE7
    have eb : (List.range (es.length - 1)).map (fun i => V.bl (decide (es.getD i 0 ≤ es.getD (i + 1) 0))) = (adjL (fun a b => decide (a ≤ b)) es).map V.bl := by
      rw [← adj_range (fun a b => decide (a ≤ b)) 0 es, List.map_map]
      rfl
    rw [eb] at hE7
    refine ⟨E2, adjL (fun a b => decide (a ≤ b)) es, rfl, SqL.of hE7, ?_⟩
    exact k H6 ((((s1.trans s2).trans s3).trans s6).trans s7)
theorem ok_c_Tariff_price_at {P : Program} {w : World} {K : PySem.W.Frag} {mg : Str → Option Value} {base : Heap} {a : Ad} (T : Txt K mg a) : FnOk P w K mg base (L2.CX P w) 3 a.f_c_Tariff_price_at a.d_c_Tariff_price_at ["self", "load"] (sp_c_Tariff_price_at K a.C_Tariff a.C_InvalidMoney) := by
  have G_c_InvalidMoney_init : FnOk P w K mg base (L2.CX P w) 1 a.f_c_InvalidMoney_init a.d_c_InvalidMoney_init ["self", "what"] (sp_exinit a.C_InvalidMoney) := ok_c_InvalidMoney_init T
  refine T.F_c_Tariff_price_at.okX sc_c_Tariff_price_at (fun vs H Q E h => ?_) (fun cdv A outer s H vs Q E hr h => ?_)
  · rw [sp_c_Tariff_price_at_eq] at h
    walk_at "len"
  · rw [sp_c_Tariff_price_at_eq] at h
    obtain ⟨t, p, x, ps, rfl, hT, k0, k1⟩ := h
    refine ⟨_, (pss_cons (ps_if (pt_cmpR op_lt (pv 1) pe_int (nomark _)) (pss_one (ps_raise rfl (takes_of rfl rfl rfl rfl) (pmk_oex T.ox_InvalidMoney T.in_InvalidMoney T.ti_InvalidMoney G_c_InvalidMoney_init (hr.mono (by decide)) T.b_c_InvalidMoney_init .nil passL (by rfl) T.m_InvalidMoney (pa_cons pe_str pa_nil)))) pss_nil)
    (pss_cons (ps_set (i := 2) sc_c_Tariff_price_at.nd (by rfl) (Or.inl rfl) (pe_fld (pv 0) (by rfl)))
    (pss_cons (ps_for (passes_of rfl) rfl (pi_list (pe_fld (pv 0) (by rfl))) (pg_tup (n := 2) (by rfl) (pgs_cons (pg_name (i := 3) sc_c_Tariff_price_at.nd (by rfl) (Or.inl rfl)) (pgs_cons (pg_name (i := 4) sc_c_Tariff_price_at.nd (by rfl) (Or.inl rfl)) pgs_nil))) (pss_one (ps_if (pt_cmpR op_le (pv 3) (pv 1) (nomark _)) (pss_one (ps_set (i := 2) sc_c_Tariff_price_at.nd (by rfl) (Or.inl rfl) (pv 4))) pss_nil)))
    (pss_one (ps_ret (pv 2)))))), ?_⟩
    obtain ⟨dx, r, rs, h1, h2, h3⟩ := hT
    refine ⟨_, rfl, _, _, rfl, rfl, _, rfl, ?_⟩
    refine ite2 (fun c => ?_) (fun c => ?_)
    · exact ⟨by show 1 ≤ 1000; decide, raise_ok (k0 (of_decide_eq_true c)) (by decide +kernel)⟩
    have c' : ¬ x < 0 := fun z => c (decide_eq_true z)
    refine ⟨_, rfl, t, a.C_Tariff, dx, _, .int p, rfl, h1, T.cl_Tariff, T.na_Tariff_price, rfl, ?_⟩
    refine ⟨_, rfl, t, a.C_Tariff, dx, _, .ref r, rfl, h1, T.cl_Tariff, T.na_Tariff__steps, rfl, ?_⟩
    refine ⟨r, rfl, ⟨_, SqL.of h2⟩, for_it (walk_list (K := K) (a := r) (xs := rs)) (fun i σ H' => ∃ v3 v4 : Option V, σ = [some (.ref t), some (.int x), some (.int (prF p (ps.take i) x)), v3, v4] ∧ H' = H) ⟨none, none, rfl, rfl⟩ (fun i σ H' _ ⟨_, _, _, e⟩ => by rw [e]; exact SqL.of h2) ?_ ?_⟩
    · rintro i v σ H1 H2 hi ⟨v3, v4, rfl, rfl⟩ ⟨rfl, hv⟩
      obtain ⟨q, z, rfl, hz, hq⟩ := rws_at h3 hv
      have e := pr_take (p := p) (x := x) hz
      refine ⟨q, _, rfl, hq, rfl, _, _, rfl, _, _, rfl, rfl, ?_⟩
      refine ⟨_, rfl, _, rfl, _, _, rfl, rfl, _, rfl, ?_⟩
      refine ite2 (fun c => ?_) (fun c => ?_)
      · have c2 : z.1 ≤ x := of_decide_eq_true c
        rw [if_pos c2] at e
        exact ⟨_, rfl, _, _, by rw [e]; rfl, rfl⟩
      · have c2 : ¬ z.1 ≤ x := fun w => c (decide_eq_true w)
        rw [if_neg c2] at e
        exact ⟨_, _, by rw [e]; rfl, rfl⟩
    rintro σ H1 ⟨v3, v4, rfl, rfl⟩
    have := k1 (by omega) H1 (Same.refl _)
    rw [rws_len h3, List.take_length]
    exact ⟨_, rfl, this⟩
theorem ok_c_Tariff_steps {P : Program} {w : World} {K : PySem.W.Frag} {mg : Str → Option Value} {base : Heap} {a : Ad} (T : Txt K mg a) : FnOk P w K mg base (L2.CX P w) 1 a.f_c_Tariff_steps a.d_c_Tariff_steps ["self"] (sp_c_Tariff_steps K a.C_Tariff) := by
  refine T.F_c_Tariff_steps.okX sc_c_Tariff_steps (fun vs H Q E h => ?_) (fun cdv A outer s H vs Q E hr h => ?_)
  · rw [sp_c_Tariff_steps_eq] at h
    walk_at "len"
  · rw [sp_c_Tariff_steps_eq] at h
    obtain ⟨t, p, ps, rfl, hT, k⟩ := h
    refine ⟨_, (pss_one (ps_ret (pe_callTy call_list_of (by rfl) T.n_list (by decide +kernel) (pa_cons (pe_fld (pv 0) (by rfl)) pa_nil)))), ?_⟩
    obtain ⟨dx, r, rs, h1, h2, h3⟩ := hT
    refine ⟨_, rfl, t, a.C_Tariff, dx, _, .ref r, rfl, h1, T.cl_Tariff, T.na_Tariff__steps, rfl, ?_⟩
    exact ⟨r, rs, rfl, .inl (SqL.of h2), fun l hl => k l rs hl h3⟩
theorem ok_c_Tariff_sum_of {P : Program} {w : World} {K : PySem.W.Frag} {mg : Str → Option Value} {base : Heap} {a : Ad} (T : Txt K mg a) : FnOk P w K mg base (L2.CX P w) 4 a.f_c_Tariff_sum_of a.d_c_Tariff_sum_of ["self", "first", "last"] (sp_c_Tariff_sum_of K a.C_Tariff a.C_InvalidMoney) := by
  have G_c_InvalidMoney_init : FnOk P w K mg base (L2.CX P w) 1 a.f_c_InvalidMoney_init a.d_c_InvalidMoney_init ["self", "what"] (sp_exinit a.C_InvalidMoney) := ok_c_InvalidMoney_init T
  have G_c_Tariff_price_at : FnOk P w K mg base (L2.CX P w) 3 a.f_c_Tariff_price_at a.d_c_Tariff_price_at ["self", "load"] (sp_c_Tariff_price_at K a.C_Tariff a.C_InvalidMoney) := ok_c_Tariff_price_at T
  refine T.F_c_Tariff_sum_of.okX sc_c_Tariff_sum_of (fun vs H Q E h => ?_) (fun cdv A outer s H vs Q E hr h => ?_)
  · rw [sp_c_Tariff_sum_of_eq] at h
    walk_at "len"
  · rw [sp_c_Tariff_sum_of_eq] at h
    obtain ⟨t, p, x, y, ps, rfl, hT, hsm, hasc, hyb, k0, k1⟩ := h
    refine ⟨_, (pss_cons (ps_if (pt_not (pt_chain op_le op_le pe_int (pv 1) (pv 2))) (pss_one (ps_raise rfl (takes_of rfl rfl rfl rfl) (pmk_oex T.ox_InvalidMoney T.in_InvalidMoney T.ti_InvalidMoney G_c_InvalidMoney_init (hr.mono (by decide)) T.b_c_InvalidMoney_init .nil passL (by rfl) T.m_InvalidMoney (pa_cons pe_str pa_nil)))) pss_nil)
    (pss_cons (ps_set (i := 3) sc_c_Tariff_sum_of.nd (by rfl) (Or.inl rfl) (pe_op op_cat (pe_op op_cat (pe_lst (pa_cons (pv 1) pa_nil)) (pe_lcK (own := [("bound", 6), ("price", 7)]) (by rfl) sc_c_Tariff_sum_of.nd (pi_list (pe_fld (pv 0) (by rfl))) (blkOk_by (own := [("bound", 6), ("price", 7)]) (N := ["self", "first", "last", "edges", "one", "two", "bound", "price"]) (sc := defScope st_c_Tariff_sum_of) (by decide +kernel)) (fun _ _ _ _ _ => (pg_tup (n := 2) (by rfl) (pgs_cons (pg_name (i := 6) sc_c_Tariff_sum_of.nd (by rfl) (by first | exact Or.inl rfl | exact Or.inr rfl)) (pgs_cons (pg_name (i := 7) sc_c_Tariff_sum_of.nd (by rfl) (by first | exact Or.inl rfl | exact Or.inr rfl)) pgs_nil)))) (fun _ _ _ _ _ => (pts_one (pt_chain op_lt op_lt (pv 1) (pv 6) (pv 2)))) (fun _ _ _ _ _ => (pv 6)) (by walk_at "blk") (by walk_at "blk") (by walk_at "blk"))) (pe_lst (pa_cons (pv 2) pa_nil))))
    (pss_one (ps_ret (pe_callB (cr_sum rfl) (by rfl) T.n_sum (by decide +kernel) (pa_cons (pe_lcK (own := [("one", 4), ("two", 5)]) (by rfl) sc_c_Tariff_sum_of.nd (pi_zip (by rfl) T.n_zip (pa_cons (pv 3) (pa_cons (pe_slice sl_list (pv 3) (po_some pe_int) po_none) pa_nil))) (blkOk_by (own := [("one", 4), ("two", 5)]) (N := ["self", "first", "last", "edges", "one", "two", "bound", "price"]) (sc := defScope st_c_Tariff_sum_of) (by decide +kernel)) (fun _ _ _ _ _ => (pg_tup (n := 2) (by rfl) (pgs_cons (pg_name (i := 4) sc_c_Tariff_sum_of.nd (by rfl) (by first | exact Or.inl rfl | exact Or.inr rfl)) (pgs_cons (pg_name (i := 5) sc_c_Tariff_sum_of.nd (by rfl) (by first | exact Or.inl rfl | exact Or.inr rfl)) pgs_nil)))) (fun _ _ _ _ _ => pts_nil) (fun _ _ _ _ _ => (pe_op op_mulW (pe_op op_sub (pv 5) (pv 4)) (pe_meth (pv 0) T.cl_Tariff T.mt_c_Tariff_price_at G_c_Tariff_price_at (hr.mono (by decide)) T.b_c_Tariff_price_at .nil passL (pa_cons (pv 4) pa_nil)))) (by walk_at "blk") (by walk_at "blk") (by walk_at "blk")) pa_nil)))))), ?_⟩
    obtain ⟨sl1, sp1, sz⟩ := id hsm
    obtain ⟨dx, r, rs, h1, h2, h3⟩ := id hT
    have rl := rws_len h3
    have bad : ¬ (0 ≤ x ∧ x ≤ y) → (["load"] : List Str).length ≤ 1000 ∧ ∀ aa, H aa = none → sp_exinit a.C_InvalidMoney (.ref aa :: ([.str "load"] ++ [])) (upd H aa (exo aa a.C_InvalidMoney none))
        (fun v H3 => v = .non ∧ ∃ (d : Addr) (fs : List (Str × V)), H3 aa = some (exo aa a.C_InvalidMoney (some d)) ∧ H3 d = some (exd d fs) ∧ H d = none ∧ E (.ref a.C_InvalidMoney) (some d) (upd (del H3 aa) d (.xd fs))) (fun _ _ _ => False) :=
      fun z => ⟨by show 1 ≤ 1000; decide, raise_ok (k0 z) (by decide +kernel)⟩
    refine ⟨_, rfl, _, _, rfl, rfl, _, rfl, ?_⟩
    refine ite2 (fun c => ?_) (fun c => ?_)
    rotate_left
    · exact ⟨_, rfl, bad fun z => c (decide_eq_true z.1)⟩
    have c0 := of_decide_eq_true c
    refine ⟨_, rfl, _, _, rfl, rfl, _, rfl, ?_⟩
    refine ite2 (fun e => ?_) (fun e => ?_)
    · exact bad fun z => by
        have e' : (!decide (x ≤ y)) = true := e
        rw [decide_eq_true z.2] at e'
        cases e'
    have c1 : x ≤ y := by
      have e' : ¬ (!decide (x ≤ y)) = true := e
      simpa using e'
    have k1 := k1 c0 c1
    refine ⟨_, rfl, by show 1 ≤ sizeLine; decide, fun la hla => ?_⟩
    have s1 := Same.new (o := .lst [.int x]) hla
    have hA : (upd H la (.lst [.int x]) : Hp) la = some (.lst [.int x]) := upd_same
    generalize (upd H la (.lst [.int x]) : Hp) = H1 at s1 hA ⊢
    refine ⟨_, rfl, t, a.C_Tariff, dx, _, .ref r, rfl, s1 _ _ h1, T.cl_Tariff, T.na_Tariff__steps, rfl, ?_⟩
    refine ⟨r, rfl, ⟨_, SqL.of (s1 _ _ h2)⟩, fun E1 hE1 => ?_⟩
    refine lc_fn (walk_list (xs := rs)) (fun i => if (decide (x < (ks ps).getD i 0) && decide ((ks ps).getD i 0 < y)) = true then some (V.int ((ks ps).getD i 0)) else none) (by omega) hE1 (fun H s => SqL.of (s _ _ (s1 _ _ h2))) ?_ ?_
    · rintro i v H4 H5 R N hi s4 ⟨rfl, hv⟩ hR hN
      obtain ⟨q1, z1, rfl, hz1, hq1⟩ := rws_at h3 hv
      rw [ks_at hz1] at hR hN
      refine ⟨q1, _, rfl, s4.tup (s1.tup hq1), rfl, _, _, rfl, _, _, rfl, rfl, rfl, ?_⟩
      refine ⟨_, rfl, _, rfl, _, _, rfl, rfl, _, rfl, ?_⟩
      refine ite2 (fun c => ?_) (fun c => ?_)
      rotate_left
      · refine ⟨_, rfl, hN _ ?_ (Same.refl _)⟩
        have : decide (x < z1.1) = false := by simpa using c
        rw [this]
        rfl
      have d1 : decide (x < z1.1) = true := c
      rw [d1] at hR hN
      refine ⟨_, rfl, _, _, rfl, rfl, _, rfl, ?_⟩
      refine ite2 (fun c => ?_) (fun c => ?_)
      · have d2 : decide (z1.1 < y) = true := c
        exact ⟨_, rfl, hR _ _ (by rw [d2]; rfl) (Same.refl _)⟩
      · have d2 : decide (z1.1 < y) = false := by simpa using c
        exact hN _ (by rw [d2]; rfl) (Same.refl _)
    intro H2 s2 hE
    have el : (List.range rs.length).filterMap (fun i => if (decide (x < (ks ps).getD i 0) && decide ((ks ps).getD i 0 < y)) = true then some (V.int ((ks ps).getD i 0)) else none) = ((ks ps).filter (fun k => decide (x < k) && decide (k < y))).map V.int := by
      rw [rl, ← ks_len]
      exact (fm_ints (ks ps) fun k => if (decide (x < k) && decide (k < y)) = true then some (V.int k) else none).trans (fm_filter _ _ _)
    rw [el] at hE
    have ez : ((ks ps).filter (fun k => decide (x < k) && decide (k < y))).length ≤ 1000 := Nat.le_trans (List.length_filter_le _ _) (by rw [ks_len]; exact sl1)
    refine ⟨la, E1, _, _, rfl, rfl, s2 _ _ hA, hE, by rw [List.length_map]; exact Nat.le_of_lt (small1000000 (by show 1 + _ ≤ _; omega)), fun lb hlb => ?_⟩
    have hB : (upd H2 lb (.lst ([.int x] ++ ((ks ps).filter (fun k => decide (x < k) && decide (k < y))).map V.int)) : Hp) lb = _ := upd_same
    have s3 := Same.new (o := .lst ([.int x] ++ ((ks ps).filter (fun k => decide (x < k) && decide (k < y))).map V.int)) hlb
    generalize (upd H2 lb (.lst ([.int x] ++ ((ks ps).filter (fun k => decide (x < k) && decide (k < y))).map V.int)) : Hp) = H3 at s3 hB ⊢
    refine ⟨_, rfl, by show 1 ≤ sizeLine; decide, fun lc hlc => ?_⟩
    have s4 := Same.new (o := .lst [.int y]) hlc
    refine ⟨lb, lc, _, _, rfl, rfl, s4 _ _ hB, upd_same, by rw [List.length_append, List.length_map]; exact Nat.le_of_lt (small1000000 (by show 1 + _ + 1 ≤ _; omega)), fun ld hld => ?_⟩
    have ee : [V.int x] ++ ((ks ps).filter (fun k => decide (x < k) && decide (k < y))).map V.int ++ [.int y] = (edges ps x y).map V.int := by
      unfold edges
      simp
    have hD : (upd (upd H3 lc (.lst [.int y])) ld (.lst ([V.int x] ++ ((ks ps).filter (fun k => decide (x < k) && decide (k < y))).map V.int ++ [.int y])) : Hp) ld = some (.lst ((edges ps x y).map V.int)) := by rw [upd_same, ee]
    have s5 := s4.then_new (o := .lst ([V.int x] ++ ((ks ps).filter (fun k => decide (x < k) && decide (k < y))).map V.int ++ [.int y])) hld
    generalize (upd (upd H3 lc (.lst [.int y])) ld (.lst ([V.int x] ++ ((ks ps).filter (fun k => decide (x < k) && decide (k < y))).map V.int ++ [.int y])) : Hp) = H4 at s5 hD ⊢
    have exz : (edges ps x y).length ≤ 1002 ∧ ∀ e ∈ edges ps x y, 0 ≤ e ∧ e.natAbs < 2 ^ 20 := by
      unfold edges
      refine ⟨by rw [List.length_append, List.length_cons]; show _ + 1 + 1 ≤ _; omega, fun e he => ?_⟩
      simp only [List.cons_append, List.mem_cons, List.mem_append, List.mem_filter, Bool.and_eq_true, decide_eq_true_eq, List.not_mem_nil, or_false] at he
      rcases he with rfl | he | rfl
      · omega
      · omega
      · omega
    have hsum := sum_edges (p := p) c1 hasc
    have hTd : Tar K a.C_Tariff H4 t p ps := (((hT.same s1).same s2).same s3).same s5
    have sAll := ((s1.trans s2).trans s3).trans s5
    generalize edges ps x y = es at *
    have eml : (es.map V.int).length = es.length := List.length_map _
    refine ⟨_, rfl, _, rfl, 1, rfl, ld, _, rfl, SqL.of hD, fun le hle => ?_⟩
    rw [cut1]
    have s6 := Same.new (o := .lst ((es.map V.int).drop 1)) hle
    have hE6 : (upd H4 le (.lst ((es.map V.int).drop 1)) : Hp) le = _ := upd_same
    generalize (upd H4 le (.lst ((es.map V.int).drop 1)) : Hp) = H5 at s6 hE6 ⊢
    refine ⟨ld, le, _, _, rfl, SqL.of (s6 _ _ hD), SqL.of hE6, fun E2 hE2 => ?_⟩
    refine lc_fn (walk_zip (xs := es.map V.int) (ys := (es.map V.int).drop 1) (n := es.length - 1) (by rw [List.length_drop, eml]; omega)) (fun i => some (.int ((es.getD (i + 1) 0 - es.getD i 0) * prF p ps (es.getD i 0)))) (by omega) hE2 (fun H s => ⟨SqL.of (s _ _ (s6 _ _ hD)), SqL.of (s _ _ hE6)⟩) ?_ ?_
    · rintro i v H6 H7 R N hi s7 ⟨T1, x1, x2, rfl, hT1, rfl, hx1, hx2⟩ hR hN
      have hx2 : ((es.map V.int).drop 1)[i]? = some x2 := hx2
      rw [List.getElem?_drop, Nat.add_comm] at hx2
      obtain ⟨z1, hz1, rfl⟩ := ints_get hx1
      obtain ⟨z2, hz2, rfl⟩ := ints_get hx2
      have g1 : es.getD i 0 = z1 := by rw [List.getD_eq_getElem?_getD, hz1]; rfl
      have g2 : es.getD (i + 1) 0 = z2 := by rw [List.getD_eq_getElem?_getD, hz2]; rfl
      obtain ⟨b1, b2⟩ := exz.2 z1 (List.mem_of_getElem? hz1)
      obtain ⟨b3, b4⟩ := exz.2 z2 (List.mem_of_getElem? hz2)
      have hT7 := ((hTd.same s6).same s7).same (Same.new (o := .tup [.int z1, .int z2]) hT1)
      obtain ⟨dx7, r7, rs7, i1, i2, i3⟩ := id hT7
      refine ⟨T1, _, rfl, SqT.of upd_same, rfl, _, _, rfl, _, _, rfl, rfl, rfl, ?_⟩
      refine ⟨_, rfl, _, rfl, _, _, rfl, rfl, _, rfl, t, dx7, _, rfl, i1, rfl, _, rfl, ?_⟩
      refine sp_c_Tariff_price_at_use ⟨t, p, z1, ps, rfl, hT7, fun z => absurd z (by omega), fun _ H8 s8 => ?_⟩
      have pb := prF_b (x := z1) hsm
      refine ⟨_, _, rfl, rfl, wide_mul (a := 22) (b := 20) (by omega) pb (by decide) (by decide) (by decide), hR _ _ ?_ ((Same.new hT1).trans s8)⟩
      rw [g1, g2]
    intro H6 s7 hE7
    rw [fm_some] at hE7
    have eb : (List.range (es.length - 1)).map (fun i => V.int ((es.getD (i + 1) 0 - es.getD i 0) * prF p ps (es.getD i 0))) = (adjL (fun u v => (v - u) * prF p ps u) es).map V.int := by
      rw [← adj_range (fun u v => (v - u) * prF p ps u) 0 es, List.map_map]
      rfl
    rw [eb] at hE7
    refine ⟨E2, adjL (fun u v => (v - u) * prF p ps u) es, rfl, SqL.of hE7, ?_⟩
    rw [hsum]
    exact k1 H6 ((sAll.trans s6).trans s7)
theorem ok_c_law_deck {P : Program} {w : World} {K : PySem.W.Frag} {mg : Str → Option Value} {base : Heap} {a : Ad} (T : Txt K mg a) : FnOk P w K mg base (L2.CX P w) 1 a.f_c_law_deck a.d_c_law_deck ["script", "cells", "each"] (sp_c_law_deck K) := by
  refine T.F_c_law_deck.okX sc_c_law_deck (fun vs H Q E h => ?_) (fun cdv A outer s H vs Q E hr h => ?_)
  · walk_at "len"
  · obtain ⟨sa, ns, c, e, rfl, hS, hns, hc0, hc1, he0, he1, k⟩ := h
    refine ⟨_, (pss_cons (ps_set (i := 3) sc_c_law_deck.nd (by rfl) (Or.inl rfl) (pe_lst pa_nil))
    (pss_cons (ps_set (i := 4) sc_c_law_deck.nd (by rfl) (Or.inl rfl) (pe_op op_add pe_int (pe_callB call_len_seq (by rfl) T.n_len (by decide +kernel) (pa_cons (pv 0) pa_nil))))
    (pss_cons (ps_for (passes_of rfl) rfl (pi_range1 (by rfl) T.n_range (pa_cons (pv 1) pa_nil)) (pg_name (i := 5) sc_c_law_deck.nd (by rfl) (Or.inl rfl)) (pss_cons (ps_set (i := 6) sc_c_law_deck.nd (by rfl) (Or.inl rfl) pe_int)
    (pss_cons (ps_if (pt_cmpR op_lt (pv 5) (pe_callB call_len_seq (by rfl) T.n_len (by decide +kernel) (pa_cons (pv 0) pa_nil)) (nomark _)) (pss_one (ps_set (i := 6) sc_c_law_deck.nd (by rfl) (Or.inl rfl) (pe_ix ix_list (pv 0) (pv 5) (fun _ _ => rfl)))) pss_nil)
    (pss_cons (ps_set (i := 7) sc_c_law_deck.nd (by rfl) (Or.inl rfl) (pe_callB call_abs (by rfl) T.n_abs (by decide +kernel) (pa_cons (pv 6) pa_nil)))
    (pss_one (ps_if (pt_cmpR op_ge (pv 7) (pe_op op_pow pe_int pe_int) (nomark _)) (pss_one (ps_for (passes_of rfl) rfl (pi_range1 (by rfl) T.n_range (pa_cons (pv 2) pa_nil)) (pg_name (i := 8) sc_c_law_deck.nd (by rfl) (Or.inl rfl)) (pss_cons (ps_expr (pe_bm PySem.F.plainAttrs_list PySem.F.slot_list_append PySem.F.type_list_append mt_append (pv 3) (pa_cons (pe_op op_mod (pe_callTy call_int1 (by rfl) T.n_int (by decide +kernel) (pa_cons (pv 7) pa_nil)) pe_int) pa_nil)))
    (pss_one (ps_set (i := 7) sc_c_law_deck.nd (by rfl) (Or.inl rfl) (pe_op op_fdiv (pv 7) pe_int)))))) (pss_cons (ps_set (i := 4) sc_c_law_deck.nd (by rfl) (Or.inl rfl) (pe_op op_mod (pe_callTy call_int1 (by rfl) T.n_int (by decide +kernel) (pa_cons (pe_op op_add (pe_op op_add (pe_op op_add (pe_op op_mul (pv 4) pe_int) (pe_op op_mul pe_int (pv 7))) (pe_callTy call_int1 (by rfl) T.n_int (by decide +kernel) (pa_cons (pe_cmpR op_lt (pv 6) pe_int (nomark _)) pa_nil))) (pv 5)) pa_nil)) pe_int))
    (pss_one (ps_for (passes_of rfl) rfl (pi_range1 (by rfl) T.n_range (pa_cons (pv 2) pa_nil)) (pg_name (i := 8) sc_c_law_deck.nd (by rfl) (Or.inl rfl)) (pss_cons (ps_set (i := 4) sc_c_law_deck.nd (by rfl) (Or.inl rfl) (pe_op op_mod (pe_callTy call_int1 (by rfl) T.n_int (by decide +kernel) (pa_cons (pe_op op_add (pe_op op_add (pe_op op_mul (pv 4) pe_int) (pv 8)) pe_int) pa_nil)) pe_int))
    (pss_one (ps_expr (pe_bm PySem.F.plainAttrs_list PySem.F.slot_list_append PySem.F.type_list_append mt_append (pv 3) (pa_cons (pe_op op_mod (pe_callTy call_int1 (by rfl) T.n_int (by decide +kernel) (pa_cons (pe_op op_fdiv (pv 4) pe_int) pa_nil)) pe_int) pa_nil))))))))))))))
    (pss_cons (ps_expr (pe_bm0 PySem.F.plainAttrs_list PySem.F.slot_list_reverse PySem.F.type_list_reverse mt_reverse (pv 3)))
    (pss_one (ps_ret (pv 3))))))), ?_⟩
    refine ⟨by show 0 ≤ sizeLine; decide, fun p hp => ?_⟩
    have s0 : Same H (upd H p (.lst [])) := Same.new hp
    refine ⟨_, rfl, sa, _, rfl, .inl (s0.seq hS), _, _, rfl, rfl, ?_⟩
    refine ⟨_, rfl, c, rfl, by omega, by omega, for_range (lo := 0) (n := c.toNat) (fun i σ H' => ∃ (sd : Int) (v5 v6 v7 v8 : Option V) (xs : List Int), σ = [some (.ref sa), some (.int c), some (.int e), some (.ref p), some (.int sd), v5, v6, v7, v8] ∧
      Same H H' ∧ H' p = some (.lst (xs.map V.int)) ∧ xs.length ≤ i * 100) ⟨_, none, none, none, none, [], rfl, s0, upd_same, by simp⟩ ?_ ?_⟩
    · rintro i σ H1 hi ⟨sd, v5, v6, v7, v8, xs, rfl, s1, h1, hx⟩
      have hi' : i < 1000 := by omega
      walk_at "st"
      refine ⟨_, rfl, sa, _, rfl, .inl (s1.seq hS), ?_⟩
      walk_at "sts"
      refine ite2 (fun hk => ?_) (fun _ => ?_)
      · have hk' : i < ns.length := by simpa using hk
        refine ⟨_, rfl, _, rfl, sa, _, _, _, rfl, rfl, s1.seq hS, atI_nat' (j := i) (by omega) (by rw [List.getElem?_map, List.getElem?_eq_getElem hk']; rfl), ?_⟩
        walk_at "sts"
        refine ite2 (fun _ => ?_) (fun _ => ?_)
        · refine ⟨_, rfl, e, rfl, by omega, by omega, for_range (lo := 0) (n := e.toNat) (fun j σ H' => ∃ (r : Int) (v6 v8 : Option V) (ys : List Int), σ = [some (.ref sa), some (.int c), some (.int e), some (.ref p), some (.int sd), some (.int (0 + (i : Int))), v6, some (.int r), v8] ∧
            Same H H' ∧ H' p = some (.lst (ys.map V.int)) ∧ ys.length ≤ i * 100 + j) ⟨_, _, v8, xs, rfl, s1, h1, by omega⟩ ?_ ?_⟩
          · rintro j σ H2 hj ⟨r, v6, v8, ys, rfl, s2, h2, hy⟩
            refine ⟨_, rfl, .inl ⟨rfl, _, SqL.of h2⟩, ?_⟩
            walk_at "sts"
            refine ⟨p, _, _, rfl, rfl, h2, by rw [List.length_map]; exact small1000000 (by omega), ?_⟩
            walk_at "sts"
            refine ⟨_, _, _, ys ++ [r % 1000003], rfl, s2.mut hp, ?_, by rw [List.length_append]; simp; omega⟩
            rw [upd_same, List.map_append]
            rfl
          · rintro σ H2 ⟨r, v6, v8, ys, rfl, s2, h2, hy⟩
            exact ⟨_, _, _, _, _, ys, rfl, s2, h2, by omega⟩
        · walk_at "sts"
          refine ⟨by omega, by omega, for_range (lo := 0) (n := e.toNat) (fun j σ H' => ∃ (sd : Int) (v6 v7 v8 : Option V) (ys : List Int), σ = [some (.ref sa), some (.int c), some (.int e), some (.ref p), some (.int sd), some (.int (0 + (i : Int))), v6, v7, v8] ∧
            Same H H' ∧ H' p = some (.lst (ys.map V.int)) ∧ ys.length ≤ i * 100 + j) ⟨_, _, _, v8, xs, rfl, s1, h1, by omega⟩ ?_ ?_⟩
          · rintro j σ H2 hj ⟨sd, v6, v7, v8, ys, rfl, s2, h2, hy⟩
            walk_at "sts"
            refine ⟨.inl ⟨rfl, _, SqL.of h2⟩, ?_⟩
            walk_at "sts"
            refine ⟨p, _, _, rfl, rfl, h2, by rw [List.length_map]; exact small1000000 (by omega), ?_⟩
            refine ⟨_, _, _, _, ys ++ [(sd * 69621 + (0 + (j : Int)) + 1) % 2147483629 / 5 % 1000003], rfl, s2.mut hp, ?_, by rw [List.length_append]; simp; omega⟩
            rw [upd_same, List.map_append]
            rfl
          · rintro σ H2 ⟨sd, v6, v7, v8, ys, rfl, s2, h2, hy⟩
            exact ⟨_, _, _, _, _, ys, rfl, s2, h2, by omega⟩
      · skip
        walk_at "sts"
        refine ⟨by omega, by omega, for_range (lo := 0) (n := e.toNat) (fun j σ H' => ∃ (sd : Int) (v6 v7 v8 : Option V) (ys : List Int), σ = [some (.ref sa), some (.int c), some (.int e), some (.ref p), some (.int sd), some (.int (0 + (i : Int))), v6, v7, v8] ∧
          Same H H' ∧ H' p = some (.lst (ys.map V.int)) ∧ ys.length ≤ i * 100 + j) ⟨_, _, _, v8, xs, rfl, s1, h1, by omega⟩ ?_ ?_⟩
        · rintro j σ H2 hj ⟨sd, v6, v7, v8, ys, rfl, s2, h2, hy⟩
          walk_at "sts"
          refine ⟨.inl ⟨rfl, _, SqL.of h2⟩, ?_⟩
          walk_at "sts"
          refine ⟨p, _, _, rfl, rfl, h2, by rw [List.length_map]; exact small1000000 (by omega), ?_⟩
          refine ⟨_, _, _, _, ys ++ [(sd * 69621 + (0 + (j : Int)) + 1) % 2147483629 / 5 % 1000003], rfl, s2.mut hp, ?_, by rw [List.length_append]; simp; omega⟩
          rw [upd_same, List.map_append]
          rfl
        · rintro σ H2 ⟨sd, v6, v7, v8, ys, rfl, s2, h2, hy⟩
          exact ⟨_, _, _, _, _, ys, rfl, s2, h2, by omega⟩
    · rintro σ H1 ⟨sd, v5, v6, v7, v8, xs, rfl, s1, h1, hx⟩
      refine ⟨_, rfl, .inl ⟨rfl, _, SqL.of h1⟩, p, _, rfl, rfl, h1, _, rfl, ?_⟩
      refine k xs p _ hp (s1.mut hp) ?_
      rw [upd_same]
      simp [dk]

theorem ok_c_law_plain_n {P : Program} {w : World} {K : PySem.W.Frag} {mg : Str → Option Value} {base : Heap} {a : Ad} (T : Txt K mg a) : ∀ n, FnOk P w K mg base (L2.CX P w) (n + 1) a.f_c_law_plain a.d_c_law_plain ["value"] (sp_c_law_plain K n) := by
  have step : ∀ n, (∀ m, m + 1 = n → FnOk P w K mg base (L2.CX P w) (m + 1) a.f_c_law_plain a.d_c_law_plain ["value"] (sp_c_law_plain K m)) → FnOk P w K mg base (L2.CX P w) (n + 1) a.f_c_law_plain a.d_c_law_plain ["value"] (sp_c_law_plain K n) := by
    intro n ih
    refine T.F_c_law_plain.okX sc_c_law_plain (fun vs H Q E h => ?_) (fun cdv A outer s H vs Q E hr h => ?_)
    · walk_at "len"
    · obtain ⟨v, d, rfl, hd, hok, k⟩ := h
      cases d with
      | dict _ => simp [okD] at hok
      | list ds =>
        cases n with
        | zero => simp [okD] at hok
        | succ n =>
        have IH := ih n rfl
        simp only [okD, Bool.and_eq_true, decide_eq_true_eq] at hok
        have hds := hok.1
        cases hd with
        | @lst aa xs _ hsq hall =>
        refine ⟨_, (pss_cons (ps_if (pt_val (pe_callB call_isiT (by rfl) T.n_isinstance (by decide +kernel) (pa_cons (pv 0) (pa_cons (pe_tup (pa_cons (pe_bltn (v := .ty "tuple") (by rfl) T.n_tuple (by decide +kernel) rfl) (pa_cons (pe_bltn (v := .ty "list") (by rfl) T.n_list (by decide +kernel) rfl) pa_nil))) pa_nil)))) (pss_one (ps_ret (pe_op op_cat (pe_lst (pa_cons (pe_callB call_isi (by rfl) T.n_isinstance (by decide +kernel) (pa_cons (pv 0) (pa_cons (pe_bltn (v := .ty "list") (by rfl) T.n_list (by decide +kernel) rfl) pa_nil))) pa_nil)) (pe_lcK (own := [("item", 1)]) (by rfl) sc_c_law_plain.nd (pi_list (pv 0)) (blkOk_by (own := [("item", 1)]) (N := ["value", "item"]) (sc := defScope st_c_law_plain) (by decide +kernel)) (fun _ _ _ _ _ => (pg_name (i := 1) sc_c_law_plain.nd (by rfl) (by first | exact Or.inl rfl | exact Or.inr rfl))) (fun _ _ _ _ _ => pts_nil) (fun _ _ _ _ _ => (pe_call IH (hr.mono (by omega)) (by rfl) T.m_c_law_plain T.F_c_law_plain.kp T.b_c_law_plain .nil passL (pa_cons (pv 1) pa_nil))) (by walk_at "blk") (by walk_at "blk") (by walk_at "blk"))))) pss_nil)
    (pss_cons (ps_if (PW.pt (pw_or (pt_cmpR op_isN (pv 0) pe_non (nomark _)) (pw_or1 (pt_val (pe_callB call_isi (by rfl) T.n_isinstance (by decide +kernel) (pa_cons (pv 0) (pa_cons (pe_bltn (v := .ty "bool") (by rfl) T.n_bool (by decide +kernel) rfl) pa_nil))))))) (pss_one (ps_ret (pe_ix ix_list (pe_lst (pa_cons pe_str (pa_cons pe_str (pa_cons pe_str pa_nil)))) (pe_op op_add (pe_callTy call_int1 (by rfl) T.n_int (by decide +kernel) (pa_cons (pe_cmpR op_notN (pv 0) pe_non (nomark _)) pa_nil)) (pe_callTy call_int1 (by rfl) T.n_int (by decide +kernel) (pa_cons (pe_cmpR op_isT (pv 0) pe_bl (nomark _)) pa_nil))) (fun _ _ => rfl)))) pss_nil)
    (pss_cons (ps_if (pt_val (pe_callB call_isiT (by rfl) T.n_isinstance (by decide +kernel) (pa_cons (pv 0) (pa_cons (pe_tup (pa_cons (pe_bltn (v := .ty "int") (by rfl) T.n_int (by decide +kernel) rfl) (pa_cons (pe_bltn (v := .ty "str") (by rfl) T.n_str (by decide +kernel) rfl) pa_nil))) pa_nil)))) (pss_one (ps_ret (pe_lst (pa_cons (pe_callB call_isi (by rfl) T.n_isinstance (by decide +kernel) (pa_cons (pv 0) (pa_cons (pe_bltn (v := .ty "str") (by rfl) T.n_str (by decide +kernel) rfl) pa_nil))) (pa_cons (pv 0) pa_nil))))) pss_nil)
    (pss_one (ps_ret pe_str))))), ?_⟩

        refine ⟨_, rfl, by show 2 ≤ sizeLine; decide, fun p hp => ?_⟩
        refine ⟨_, _, [.ty "tuple", .ty "list"], .type "list", _, _, rfl, upd_same, .cons (.ty "tuple") (.cons (.ty "list") .nil), ((kind_l hsq).new hp), kit2 (r1 := false) (r2 := true) (by decide +kernel) (by decide +kernel), ?_⟩
        refine ⟨_, rfl, ?_⟩
        refine iteT ?_
        have s1 : Same H (upd H p (.tup [.ty "tuple", .ty "list"])) := Same.new hp
        refine ⟨_, rfl, .ref aa, .ty "list", _, _, true, rfl, .ty "list", (kind_l hsq).new hp, kit_ty (by decide +kernel), ?_⟩
        refine ⟨by show 1 ≤ sizeLine; decide, fun l hl => ?_⟩
        have s2 := s1.then_new (o := .lst [.bl true]) hl
        have hl0 : H l = none := s1.free hl
        refine ⟨_, rfl, aa, rfl, ⟨_, Same.seq s2 hsq⟩, fun E' hE => ?_⟩
        have hE0 : H E' = none := s2.free hE
        have nlE : l ≠ E' := by
          intro z
          rw [z, upd_same] at hE
          cases hE
        refine lc_list (K := K) (a := aa) (xs := xs) (fun i H' => Same H H' ∧ H' l = some (.lst [.bl true]) ∧ ∃ acc, H' E' = some (.lst acc) ∧ DNs (fun b => H b = none ∧ b ≠ E' ∧ b ≠ l) H' acc (plainDs (ds.take i)) ∧ acc.length ≤ i)
          ⟨s2.then_new hE, by rw [upd_ne nlE]; exact upd_same, [], upd_same, by simp only [List.take_zero, plainDs]; exact .nil, Nat.le_refl _⟩ (fun i H' _ q => Same.seq q.1 hsq) ?_ ?_
        · rintro i x H' hi ⟨s3, h3, acc, ha, hn, hz⟩
          obtain ⟨dx, hdx, hx⟩ := dpAll_get hall hi
          have hi1 : i < ds.length := (List.getElem?_eq_some_iff.mp hdx).1
          refine ⟨rfl, ?_⟩
          refine ⟨_, rfl, x, dx, rfl, dp_same s3 dx x hx, okDs_get hok.2 hdx, fun v' H'' s4 hv => ?_⟩
          have hE2 := s4 _ _ ha
          have nn : ∀ b, H' b = none → H b = none ∧ b ≠ E' ∧ b ≠ l := fun b hb => ⟨s3.free hb, (fun z => by rw [z, ha] at hb; cases hb), (fun z => by rw [z, h3] at hb; cases hb)⟩
          refine ⟨acc, hE2, small1000000 (by omega), (s3.trans s4).mut hE0, by rw [upd_ne nlE]; exact s4 _ _ h3, acc ++ [v'], upd_same, ?_, by rw [List.length_append]; show _ + 1 ≤ _; omega⟩
          rw [plainDs_take hdx]
          exact DNs.snoc (DN.mono nn (fun b o hb e => by rw [upd_ne (nn b hb).2.1]; exact e) _ _ hv) (DNs.mono (fun _ z => z) (fun b o hb e => by rw [upd_ne hb.2.1]; exact s4 _ _ e) _ _ hn)
        · rintro H' ⟨s3, h3, acc, ha, hn, hz⟩
          have el : ds.take xs.length = ds := by rw [dpAll_length hall, List.take_length]
          rw [el] at hn
          have hlen : acc.length ≤ 1000 := by have := dpAll_length hall; omega
          refine ⟨l, E', _, _, rfl, rfl, h3, ha, Nat.le_of_lt (small1000000 (by show 1 + _ ≤ _; omega)), fun r hr' => ?_⟩
          have hr0 : H r = none := s3.free hr'
          refine k _ _ (s3.then_new hr') ?_
          simp only [plainD]
          refine .lst hr0 upd_same (.cons (.bl _) (DNs.mono (fun b z => z.1) (fun b o hb e => ?_) _ _ hn))
          rw [upd_ne (ne_of_none e hr')]
          exact e

      | tuple ds =>
        cases n with
        | zero => simp [okD] at hok
        | succ n =>
        have IH := ih n rfl
        simp only [okD, Bool.and_eq_true, decide_eq_true_eq] at hok
        have hds := hok.1
        cases hd with
        | @tup aa xs _ hsq hall =>
        refine ⟨_, (pss_cons (ps_if (pt_val (pe_callB call_isiT (by rfl) T.n_isinstance (by decide +kernel) (pa_cons (pv 0) (pa_cons (pe_tup (pa_cons (pe_bltn (v := .ty "tuple") (by rfl) T.n_tuple (by decide +kernel) rfl) (pa_cons (pe_bltn (v := .ty "list") (by rfl) T.n_list (by decide +kernel) rfl) pa_nil))) pa_nil)))) (pss_one (ps_ret (pe_op op_cat (pe_lst (pa_cons (pe_callB call_isi (by rfl) T.n_isinstance (by decide +kernel) (pa_cons (pv 0) (pa_cons (pe_bltn (v := .ty "list") (by rfl) T.n_list (by decide +kernel) rfl) pa_nil))) pa_nil)) (pe_lcK (own := [("item", 1)]) (by rfl) sc_c_law_plain.nd (pi_tup (pv 0)) (blkOk_by (own := [("item", 1)]) (N := ["value", "item"]) (sc := defScope st_c_law_plain) (by decide +kernel)) (fun _ _ _ _ _ => (pg_name (i := 1) sc_c_law_plain.nd (by rfl) (by first | exact Or.inl rfl | exact Or.inr rfl))) (fun _ _ _ _ _ => pts_nil) (fun _ _ _ _ _ => (pe_call IH (hr.mono (by omega)) (by rfl) T.m_c_law_plain T.F_c_law_plain.kp T.b_c_law_plain .nil passL (pa_cons (pv 1) pa_nil))) (by walk_at "blk") (by walk_at "blk") (by walk_at "blk"))))) pss_nil)
    (pss_cons (ps_if (PW.pt (pw_or (pt_cmpR op_isN (pv 0) pe_non (nomark _)) (pw_or1 (pt_val (pe_callB call_isi (by rfl) T.n_isinstance (by decide +kernel) (pa_cons (pv 0) (pa_cons (pe_bltn (v := .ty "bool") (by rfl) T.n_bool (by decide +kernel) rfl) pa_nil))))))) (pss_one (ps_ret (pe_ix ix_list (pe_lst (pa_cons pe_str (pa_cons pe_str (pa_cons pe_str pa_nil)))) (pe_op op_add (pe_callTy call_int1 (by rfl) T.n_int (by decide +kernel) (pa_cons (pe_cmpR op_notN (pv 0) pe_non (nomark _)) pa_nil)) (pe_callTy call_int1 (by rfl) T.n_int (by decide +kernel) (pa_cons (pe_cmpR op_isT (pv 0) pe_bl (nomark _)) pa_nil))) (fun _ _ => rfl)))) pss_nil)
    (pss_cons (ps_if (pt_val (pe_callB call_isiT (by rfl) T.n_isinstance (by decide +kernel) (pa_cons (pv 0) (pa_cons (pe_tup (pa_cons (pe_bltn (v := .ty "int") (by rfl) T.n_int (by decide +kernel) rfl) (pa_cons (pe_bltn (v := .ty "str") (by rfl) T.n_str (by decide +kernel) rfl) pa_nil))) pa_nil)))) (pss_one (ps_ret (pe_lst (pa_cons (pe_callB call_isi (by rfl) T.n_isinstance (by decide +kernel) (pa_cons (pv 0) (pa_cons (pe_bltn (v := .ty "str") (by rfl) T.n_str (by decide +kernel) rfl) pa_nil))) (pa_cons (pv 0) pa_nil))))) pss_nil)
    (pss_one (ps_ret pe_str))))), ?_⟩

        refine ⟨_, rfl, by show 2 ≤ sizeLine; decide, fun p hp => ?_⟩
        refine ⟨_, _, [.ty "tuple", .ty "list"], .type "tuple", _, _, rfl, upd_same, .cons (.ty "tuple") (.cons (.ty "list") .nil), ((kind_t hsq).new hp), kit2 (r1 := true) (r2 := false) (by decide +kernel) (by decide +kernel), ?_⟩
        refine ⟨_, rfl, ?_⟩
        refine iteT ?_
        have s1 : Same H (upd H p (.tup [.ty "tuple", .ty "list"])) := Same.new hp
        refine ⟨_, rfl, .ref aa, .ty "list", _, _, false, rfl, .ty "list", (kind_t hsq).new hp, kit_ty (by decide +kernel), ?_⟩
        refine ⟨by show 1 ≤ sizeLine; decide, fun l hl => ?_⟩
        have s2 := s1.then_new (o := .lst [.bl false]) hl
        have hl0 : H l = none := s1.free hl
        refine ⟨_, rfl, aa, rfl, ⟨_, Same.tup s2 hsq⟩, fun E' hE => ?_⟩
        have hE0 : H E' = none := s2.free hE
        have nlE : l ≠ E' := by
          intro z
          rw [z, upd_same] at hE
          cases hE
        refine lc_tup (K := K) (a := aa) (xs := xs) (fun i H' => Same H H' ∧ H' l = some (.lst [.bl false]) ∧ ∃ acc, H' E' = some (.lst acc) ∧ DNs (fun b => H b = none ∧ b ≠ E' ∧ b ≠ l) H' acc (plainDs (ds.take i)) ∧ acc.length ≤ i)
          ⟨s2.then_new hE, by rw [upd_ne nlE]; exact upd_same, [], upd_same, by simp only [List.take_zero, plainDs]; exact .nil, Nat.le_refl _⟩ (fun i H' _ q => Same.tup q.1 hsq) ?_ ?_
        · rintro i x H' hi ⟨s3, h3, acc, ha, hn, hz⟩
          obtain ⟨dx, hdx, hx⟩ := dpAll_get hall hi
          have hi1 : i < ds.length := (List.getElem?_eq_some_iff.mp hdx).1
          refine ⟨rfl, ?_⟩
          refine ⟨_, rfl, x, dx, rfl, dp_same s3 dx x hx, okDs_get hok.2 hdx, fun v' H'' s4 hv => ?_⟩
          have hE2 := s4 _ _ ha
          have nn : ∀ b, H' b = none → H b = none ∧ b ≠ E' ∧ b ≠ l := fun b hb => ⟨s3.free hb, (fun z => by rw [z, ha] at hb; cases hb), (fun z => by rw [z, h3] at hb; cases hb)⟩
          refine ⟨acc, hE2, small1000000 (by omega), (s3.trans s4).mut hE0, by rw [upd_ne nlE]; exact s4 _ _ h3, acc ++ [v'], upd_same, ?_, by rw [List.length_append]; show _ + 1 ≤ _; omega⟩
          rw [plainDs_take hdx]
          exact DNs.snoc (DN.mono nn (fun b o hb e => by rw [upd_ne (nn b hb).2.1]; exact e) _ _ hv) (DNs.mono (fun _ z => z) (fun b o hb e => by rw [upd_ne hb.2.1]; exact s4 _ _ e) _ _ hn)
        · rintro H' ⟨s3, h3, acc, ha, hn, hz⟩
          have el : ds.take xs.length = ds := by rw [dpAll_length hall, List.take_length]
          rw [el] at hn
          have hlen : acc.length ≤ 1000 := by have := dpAll_length hall; omega
          refine ⟨l, E', _, _, rfl, rfl, h3, ha, Nat.le_of_lt (small1000000 (by show 1 + _ ≤ _; omega)), fun r hr' => ?_⟩
          have hr0 : H r = none := s3.free hr'
          refine k _ _ (s3.then_new hr') ?_
          simp only [plainD]
          refine .lst hr0 upd_same (.cons (.bl _) (DNs.mono (fun b z => z.1) (fun b o hb e => ?_) _ _ hn))
          rw [upd_ne (ne_of_none e hr')]
          exact e

      | none =>
        cases hd
        refine ⟨_, (pss_cons (ps_if (pt_val (pe_callB call_isiT (by rfl) T.n_isinstance (by decide +kernel) (pa_cons (pv 0) (pa_cons (pe_tup (pa_cons (pe_bltn (v := .ty "tuple") (by rfl) T.n_tuple (by decide +kernel) rfl) (pa_cons (pe_bltn (v := .ty "list") (by rfl) T.n_list (by decide +kernel) rfl) pa_nil))) pa_nil)))) (pss_one ps_never) pss_nil)
    (pss_cons (ps_if (PW.pt (pw_or (pt_cmpR op_isN (pv 0) pe_non (nomark _)) (pw_or1 (pt_val (pe_callB call_isi (by rfl) T.n_isinstance (by decide +kernel) (pa_cons (pv 0) (pa_cons (pe_bltn (v := .ty "bool") (by rfl) T.n_bool (by decide +kernel) rfl) pa_nil))))))) (pss_one (ps_ret (pe_ix ix_list (pe_lst (pa_cons pe_str (pa_cons pe_str (pa_cons pe_str pa_nil)))) (pe_op op_add (pe_callTy call_int1 (by rfl) T.n_int (by decide +kernel) (pa_cons (pe_cmpR op_notN (pv 0) pe_non (nomark _)) pa_nil)) (pe_callTy call_int1 (by rfl) T.n_int (by decide +kernel) (pa_cons (pe_cmpR op_isT (pv 0) pe_bl (nomark _)) pa_nil))) (fun _ _ => rfl)))) pss_nil)
    (pss_cons (ps_if (pt_val (pe_callB call_isiT (by rfl) T.n_isinstance (by decide +kernel) (pa_cons (pv 0) (pa_cons (pe_tup (pa_cons (pe_bltn (v := .ty "int") (by rfl) T.n_int (by decide +kernel) rfl) (pa_cons (pe_bltn (v := .ty "str") (by rfl) T.n_str (by decide +kernel) rfl) pa_nil))) pa_nil)))) (pss_one (ps_ret (pe_lst (pa_cons (pe_callB call_isi (by rfl) T.n_isinstance (by decide +kernel) (pa_cons (pv 0) (pa_cons (pe_bltn (v := .ty "str") (by rfl) T.n_str (by decide +kernel) rfl) pa_nil))) (pa_cons (pv 0) pa_nil))))) pss_nil)
    (pss_one (ps_ret pe_str))))), ?_⟩

        refine ⟨_, rfl, by show 2 ≤ sizeLine; decide, fun p hp => ?_⟩
        refine ⟨_, _, [.ty "tuple", .ty "list"], .type "NoneType", _, _, rfl, upd_same, .cons (.ty "tuple") (.cons (.ty "list") .nil), (.base .non), kit2 (r1 := false) (r2 := false) (by decide +kernel) (by decide +kernel), ?_⟩
        refine ⟨_, rfl, ?_⟩
        refine iteF ?_
        have s1 : Same H (upd H p (.tup [.ty "tuple", .ty "list"])) := Same.new hp

        refine ⟨_, rfl, rfl, _, rfl, ?_⟩
        refine iteT ?_
        refine iteT ?_
        refine ⟨by show 3 ≤ sizeLine; decide, fun l hl => ?_⟩
        refine ⟨_, rfl, rfl, .inr ⟨_, rfl, ?_⟩⟩
        refine ⟨_, rfl, .inr ⟨rfl, _, rfl, .inr ⟨_, rfl, ?_⟩⟩⟩
        refine ⟨_, _, rfl, rfl, ?_⟩
        refine ⟨l, _, _, _, rfl, rfl, SqL.of upd_same, atI_nat' (j := 0) (by decide) rfl, ?_⟩
        exact k _ _ (s1.then_new hl) (by simp only [plainD]; exact .str _)
      | bool b =>
        cases hd
        refine ⟨_, (pss_cons (ps_if (pt_val (pe_callB call_isiT (by rfl) T.n_isinstance (by decide +kernel) (pa_cons (pv 0) (pa_cons (pe_tup (pa_cons (pe_bltn (v := .ty "tuple") (by rfl) T.n_tuple (by decide +kernel) rfl) (pa_cons (pe_bltn (v := .ty "list") (by rfl) T.n_list (by decide +kernel) rfl) pa_nil))) pa_nil)))) (pss_one ps_never) pss_nil)
    (pss_cons (ps_if (PW.pt (pw_or (pt_cmpR op_isN (pv 0) pe_non (nomark _)) (pw_or1 (pt_val (pe_callB call_isi (by rfl) T.n_isinstance (by decide +kernel) (pa_cons (pv 0) (pa_cons (pe_bltn (v := .ty "bool") (by rfl) T.n_bool (by decide +kernel) rfl) pa_nil))))))) (pss_one (ps_ret (pe_ix ix_list (pe_lst (pa_cons pe_str (pa_cons pe_str (pa_cons pe_str pa_nil)))) (pe_op op_add (pe_callTy call_int1 (by rfl) T.n_int (by decide +kernel) (pa_cons (pe_cmpR op_notN (pv 0) pe_non (nomark _)) pa_nil)) (pe_callTy call_int1 (by rfl) T.n_int (by decide +kernel) (pa_cons (pe_cmpR op_isT (pv 0) pe_bl (nomark _)) pa_nil))) (fun _ _ => rfl)))) pss_nil)
    (pss_cons (ps_if (pt_val (pe_callB call_isiT (by rfl) T.n_isinstance (by decide +kernel) (pa_cons (pv 0) (pa_cons (pe_tup (pa_cons (pe_bltn (v := .ty "int") (by rfl) T.n_int (by decide +kernel) rfl) (pa_cons (pe_bltn (v := .ty "str") (by rfl) T.n_str (by decide +kernel) rfl) pa_nil))) pa_nil)))) (pss_one (ps_ret (pe_lst (pa_cons (pe_callB call_isi (by rfl) T.n_isinstance (by decide +kernel) (pa_cons (pv 0) (pa_cons (pe_bltn (v := .ty "str") (by rfl) T.n_str (by decide +kernel) rfl) pa_nil))) (pa_cons (pv 0) pa_nil))))) pss_nil)
    (pss_one (ps_ret pe_str))))), ?_⟩

        refine ⟨_, rfl, by show 2 ≤ sizeLine; decide, fun p hp => ?_⟩
        refine ⟨_, _, [.ty "tuple", .ty "list"], .type "bool", _, _, rfl, upd_same, .cons (.ty "tuple") (.cons (.ty "list") .nil), (.base (.bl _)), kit2 (r1 := false) (r2 := false) (by decide +kernel) (by decide +kernel), ?_⟩
        refine ⟨_, rfl, ?_⟩
        refine iteF ?_
        have s1 : Same H (upd H p (.tup [.ty "tuple", .ty "list"])) := Same.new hp

        refine ⟨_, rfl, rfl, _, rfl, ?_⟩
        refine iteF ?_
        refine ⟨_, rfl, _, .ty "bool", _, _, true, rfl, .ty "bool", .base (.bl _), kit_ty (by decide +kernel), _, rfl, ?_⟩
        refine iteT ?_
        refine ⟨by show 3 ≤ sizeLine; decide, fun l hl => ?_⟩
        refine ⟨_, rfl, rfl, .inr ⟨_, rfl, ?_⟩⟩
        refine ⟨_, rfl, .inl ⟨_, _, rfl, rfl, .inr ⟨_, rfl, ?_⟩⟩⟩
        refine ⟨_, _, rfl, rfl, ?_⟩
        cases b
        · refine ⟨l, _, _, _, rfl, rfl, SqL.of upd_same, atI_nat' (j := 1) (by decide) rfl, ?_⟩
          exact k _ _ (s1.then_new hl) (by simp only [plainD]; exact .str _)
        · refine ⟨l, _, _, _, rfl, rfl, SqL.of upd_same, atI_nat' (j := 2) (by decide) rfl, ?_⟩
          exact k _ _ (s1.then_new hl) (by simp only [plainD]; exact .str _)
      | int i =>
        cases hd
        refine ⟨_, (pss_cons (ps_if (pt_val (pe_callB call_isiT (by rfl) T.n_isinstance (by decide +kernel) (pa_cons (pv 0) (pa_cons (pe_tup (pa_cons (pe_bltn (v := .ty "tuple") (by rfl) T.n_tuple (by decide +kernel) rfl) (pa_cons (pe_bltn (v := .ty "list") (by rfl) T.n_list (by decide +kernel) rfl) pa_nil))) pa_nil)))) (pss_one ps_never) pss_nil)
    (pss_cons (ps_if (PW.pt (pw_or (pt_cmpR op_isN (pv 0) pe_non (nomark _)) (pw_or1 (pt_val (pe_callB call_isi (by rfl) T.n_isinstance (by decide +kernel) (pa_cons (pv 0) (pa_cons (pe_bltn (v := .ty "bool") (by rfl) T.n_bool (by decide +kernel) rfl) pa_nil))))))) (pss_one (ps_ret (pe_ix ix_list (pe_lst (pa_cons pe_str (pa_cons pe_str (pa_cons pe_str pa_nil)))) (pe_op op_add (pe_callTy call_int1 (by rfl) T.n_int (by decide +kernel) (pa_cons (pe_cmpR op_notN (pv 0) pe_non (nomark _)) pa_nil)) (pe_callTy call_int1 (by rfl) T.n_int (by decide +kernel) (pa_cons (pe_cmpR op_isT (pv 0) pe_bl (nomark _)) pa_nil))) (fun _ _ => rfl)))) pss_nil)
    (pss_cons (ps_if (pt_val (pe_callB call_isiT (by rfl) T.n_isinstance (by decide +kernel) (pa_cons (pv 0) (pa_cons (pe_tup (pa_cons (pe_bltn (v := .ty "int") (by rfl) T.n_int (by decide +kernel) rfl) (pa_cons (pe_bltn (v := .ty "str") (by rfl) T.n_str (by decide +kernel) rfl) pa_nil))) pa_nil)))) (pss_one (ps_ret (pe_lst (pa_cons (pe_callB call_isi (by rfl) T.n_isinstance (by decide +kernel) (pa_cons (pv 0) (pa_cons (pe_bltn (v := .ty "str") (by rfl) T.n_str (by decide +kernel) rfl) pa_nil))) (pa_cons (pv 0) pa_nil))))) pss_nil)
    (pss_one (ps_ret pe_str))))), ?_⟩

        refine ⟨_, rfl, by show 2 ≤ sizeLine; decide, fun p hp => ?_⟩
        refine ⟨_, _, [.ty "tuple", .ty "list"], .type "int", _, _, rfl, upd_same, .cons (.ty "tuple") (.cons (.ty "list") .nil), (.base (.int _)), kit2 (r1 := false) (r2 := false) (by decide +kernel) (by decide +kernel), ?_⟩
        refine ⟨_, rfl, ?_⟩
        refine iteF ?_
        have s1 : Same H (upd H p (.tup [.ty "tuple", .ty "list"])) := Same.new hp

        refine ⟨_, rfl, rfl, _, rfl, ?_⟩
        refine iteF ?_
        refine ⟨_, rfl, _, .ty "bool", _, _, false, rfl, .ty "bool", .base (.int _), kit_ty (by decide +kernel), _, rfl, ?_⟩
        refine iteF ?_
        refine ⟨_, rfl, by show 2 ≤ sizeLine; decide, fun q hq => ?_⟩
        refine ⟨_, _, [.ty "int", .ty "str"], .type "int", _, _, rfl, upd_same, .cons (.ty "int") (.cons (.ty "str") .nil), (.base (.int _)), kit2 (r1 := true) (r2 := false) (by decide +kernel) (by decide +kernel), ?_⟩
        refine ⟨_, rfl, ?_⟩
        refine iteT ?_
        have s2 := s1.then_new (o := .tup [.ty "int", .ty "str"]) hq
        refine ⟨_, rfl, _, .ty "str", _, _, false, rfl, .ty "str", .base (.int _), kit_ty (by decide +kernel), ?_⟩
        refine ⟨_, rfl, by show 2 ≤ sizeLine; decide, fun l hl => ?_⟩
        refine k _ _ (s2.then_new hl) ?_
        simp only [plainD]
        exact .lst (s2.free hl) upd_same (.cons (.bl _) (.cons (.int _) .nil))
      | str i =>
        cases hd
        refine ⟨_, (pss_cons (ps_if (pt_val (pe_callB call_isiT (by rfl) T.n_isinstance (by decide +kernel) (pa_cons (pv 0) (pa_cons (pe_tup (pa_cons (pe_bltn (v := .ty "tuple") (by rfl) T.n_tuple (by decide +kernel) rfl) (pa_cons (pe_bltn (v := .ty "list") (by rfl) T.n_list (by decide +kernel) rfl) pa_nil))) pa_nil)))) (pss_one ps_never) pss_nil)
    (pss_cons (ps_if (PW.pt (pw_or (pt_cmpR op_isN (pv 0) pe_non (nomark _)) (pw_or1 (pt_val (pe_callB call_isi (by rfl) T.n_isinstance (by decide +kernel) (pa_cons (pv 0) (pa_cons (pe_bltn (v := .ty "bool") (by rfl) T.n_bool (by decide +kernel) rfl) pa_nil))))))) (pss_one (ps_ret (pe_ix ix_list (pe_lst (pa_cons pe_str (pa_cons pe_str (pa_cons pe_str pa_nil)))) (pe_op op_add (pe_callTy call_int1 (by rfl) T.n_int (by decide +kernel) (pa_cons (pe_cmpR op_notN (pv 0) pe_non (nomark _)) pa_nil)) (pe_callTy call_int1 (by rfl) T.n_int (by decide +kernel) (pa_cons (pe_cmpR op_isT (pv 0) pe_bl (nomark _)) pa_nil))) (fun _ _ => rfl)))) pss_nil)
    (pss_cons (ps_if (pt_val (pe_callB call_isiT (by rfl) T.n_isinstance (by decide +kernel) (pa_cons (pv 0) (pa_cons (pe_tup (pa_cons (pe_bltn (v := .ty "int") (by rfl) T.n_int (by decide +kernel) rfl) (pa_cons (pe_bltn (v := .ty "str") (by rfl) T.n_str (by decide +kernel) rfl) pa_nil))) pa_nil)))) (pss_one (ps_ret (pe_lst (pa_cons (pe_callB call_isi (by rfl) T.n_isinstance (by decide +kernel) (pa_cons (pv 0) (pa_cons (pe_bltn (v := .ty "str") (by rfl) T.n_str (by decide +kernel) rfl) pa_nil))) (pa_cons (pv 0) pa_nil))))) pss_nil)
    (pss_one (ps_ret pe_str))))), ?_⟩

        refine ⟨_, rfl, by show 2 ≤ sizeLine; decide, fun p hp => ?_⟩
        refine ⟨_, _, [.ty "tuple", .ty "list"], .type "str", _, _, rfl, upd_same, .cons (.ty "tuple") (.cons (.ty "list") .nil), (.base (.str _)), kit2 (r1 := false) (r2 := false) (by decide +kernel) (by decide +kernel), ?_⟩
        refine ⟨_, rfl, ?_⟩
        refine iteF ?_
        have s1 : Same H (upd H p (.tup [.ty "tuple", .ty "list"])) := Same.new hp

        refine ⟨_, rfl, rfl, _, rfl, ?_⟩
        refine iteF ?_
        refine ⟨_, rfl, _, .ty "bool", _, _, false, rfl, .ty "bool", .base (.str _), kit_ty (by decide +kernel), _, rfl, ?_⟩
        refine iteF ?_
        refine ⟨_, rfl, by show 2 ≤ sizeLine; decide, fun q hq => ?_⟩
        refine ⟨_, _, [.ty "int", .ty "str"], .type "str", _, _, rfl, upd_same, .cons (.ty "int") (.cons (.ty "str") .nil), (.base (.str _)), kit2 (r1 := false) (r2 := true) (by decide +kernel) (by decide +kernel), ?_⟩
        refine ⟨_, rfl, ?_⟩
        refine iteT ?_
        have s2 := s1.then_new (o := .tup [.ty "int", .ty "str"]) hq
        refine ⟨_, rfl, _, .ty "str", _, _, true, rfl, .ty "str", .base (.str _), kit_ty (by decide +kernel), ?_⟩
        refine ⟨_, rfl, by show 2 ≤ sizeLine; decide, fun l hl => ?_⟩
        refine k _ _ (s2.then_new hl) ?_
        simp only [plainD]
        exact .lst (s2.free hl) upd_same (.cons (.bl _) (.cons (.str _) .nil))
  intro n
  induction n with
  | zero => exact step 0 fun m e => by omega
  | succ n ih => exact step (n + 1) fun m e => by have : m = n := by omega
                                                  subst this
                                                  exact ih
theorem ok_c_law_plain {P : Program} {w : World} {K : PySem.W.Frag} {mg : Str → Option Value} {base : Heap} {a : Ad} (T : Txt K mg a) : FnOk P w K mg base (L2.CX P w) 5 a.f_c_law_plain a.d_c_law_plain ["value"] (sp_c_law_plain K 4) := ok_c_law_plain_n T 4

theorem ok_c_law_price {P : Program} {w : World} {K : PySem.W.Frag} {mg : Str → Option Value} {base : Heap} {a : Ad} (T : Txt K mg a) : FnOk P w K mg base (L2.CX P w) 1 a.f_c_law_price a.d_c_law_price ["price", "steps", "load"] (sp_c_law_price K) := by
  refine T.F_c_law_price.okX sc_c_law_price (fun vs H Q E h => ?_) (fun cdv A outer s H vs Q E hr h => ?_)
  · rw [sp_c_law_price_eq] at h
    walk_at "len"
  · rw [sp_c_law_price_eq] at h
    obtain ⟨q, p, x, rs, ps, rfl, hq, hr0, k⟩ := h
    refine ⟨_, (pss_cons (ps_set (i := 3) sc_c_law_price.nd (by rfl) (Or.inl rfl) (pv 0))
    (pss_cons (ps_for (passes_of rfl) rfl (pi_list (pv 1)) (pg_tup (n := 2) (by rfl) (pgs_cons (pg_name (i := 4) sc_c_law_price.nd (by rfl) (Or.inl rfl)) (pgs_cons (pg_name (i := 5) sc_c_law_price.nd (by rfl) (Or.inl rfl)) pgs_nil))) (pss_one (ps_if (pt_cmpR op_ge (pv 2) (pv 4) (nomark _)) (pss_one (ps_set (i := 3) sc_c_law_price.nd (by rfl) (Or.inl rfl) (pv 5))) pss_nil)))
    (pss_one (ps_ret (pv 3))))), ?_⟩
    refine ⟨_, rfl, ?_⟩
    refine ⟨_, rfl, q, rfl, ⟨_, hq⟩, for_it (walk_list (K := K) (a := q) (xs := rs)) (fun i σ H' => ∃ v4 v5 : Option V, σ = [some (.int p), some (.ref q), some (.int x), some (.int (prF p (ps.take i) x)), v4, v5] ∧ H' = H) ⟨none, none, rfl, rfl⟩ (fun i σ H' _ ⟨_, _, _, e⟩ => by rw [e]; exact hq) ?_ ?_⟩
    · rintro i v σ H1 H2 hi ⟨v3, v4, rfl, rfl⟩ ⟨rfl, hv⟩
      obtain ⟨q2, z, rfl, hz, hq2⟩ := rws_at hr0 hv
      have e := pr_take (p := p) (x := x) hz
      refine ⟨q2, _, rfl, hq2, rfl, _, _, rfl, _, _, rfl, rfl, ?_⟩
      refine ⟨_, rfl, _, rfl, _, _, rfl, rfl, _, rfl, ?_⟩
      refine ite2 (fun c => ?_) (fun c => ?_)
      · have c2 : x ≥ z.1 := of_decide_eq_true c
        rw [if_pos c2] at e
        exact ⟨_, rfl, _, _, by rw [e]; rfl, rfl⟩
      · have c2 : ¬ x ≥ z.1 := fun w => c (decide_eq_true w)
        rw [if_neg c2] at e
        exact ⟨_, _, by rw [e]; rfl, rfl⟩
    rintro σ H1 ⟨v3, v4, rfl, rfl⟩
    have := k H1 (Same.refl _)
    rw [rws_len hr0, List.take_length]
    exact ⟨_, rfl, this⟩

theorem ok_c_law_spoil_n {P : Program} {w : World} {K : PySem.W.Frag} {mg : Str → Option Value} {base : Heap} {a : Ad} (T : Txt K mg a) : ∀ n, FnOk P w K mg base (L2.CX P w) (n + 1) a.f_c_law_spoil a.d_c_law_spoil ["value"] (sp_c_law_spoil K n) := by
  have step : ∀ n, (∀ m, m + 1 = n → FnOk P w K mg base (L2.CX P w) (m + 1) a.f_c_law_spoil a.d_c_law_spoil ["value"] (sp_c_law_spoil K m)) → FnOk P w K mg base (L2.CX P w) (n + 1) a.f_c_law_spoil a.d_c_law_spoil ["value"] (sp_c_law_spoil K n) := by
    intro n ih
    refine T.F_c_law_spoil.okX sc_c_law_spoil (fun vs H Q E h => ?_) (fun cdv A outer s H vs Q E hr h => ?_)
    · walk_at "len"
    · obtain ⟨v, L, rfl, hd, k⟩ := h
      cases hd with
      | @lst n aa xs LL h0 hz hcs hnL =>
        have IH := ih n rfl
        have hsq : SqL K H aa xs := SqL.of h0
        refine ⟨_, (pss_cons (ps_if (pt_val (pe_callB call_isiT (by rfl) T.n_isinstance (by decide +kernel) (pa_cons (pv 0) (pa_cons (pe_tup (pa_cons (pe_bltn (v := .ty "list") (by rfl) T.n_list (by decide +kernel) rfl) (pa_cons (pe_bltn (v := .ty "tuple") (by rfl) T.n_tuple (by decide +kernel) rfl) pa_nil))) pa_nil)))) (pss_one (ps_for (passes_of rfl) rfl (pi_list (pv 0)) (pg_name (i := 1) sc_c_law_spoil.nd (by rfl) (Or.inl rfl)) (pss_one (ps_expr (pe_call IH (hr.mono (by omega)) (by rfl) T.m_c_law_spoil T.F_c_law_spoil.kp T.b_c_law_spoil .nil passL (pa_cons (pv 1) pa_nil)))))) pss_nil)
    (pss_one (ps_if (pt_val (pe_callB call_isi (by rfl) T.n_isinstance (by decide +kernel) (pa_cons (pv 0) (pa_cons (pe_bltn (v := .ty "list") (by rfl) T.n_list (by decide +kernel) rfl) pa_nil)))) (pss_one (ps_expr (pe_bm PySem.F.plainAttrs_list PySem.F.slot_list_append PySem.F.type_list_append mt_append (pv 0) (pa_cons pe_int pa_nil)))) pss_nil))), ?_⟩

        refine ⟨_, rfl, by show 2 ≤ sizeLine; decide, fun p hp => ?_⟩
        have s1 : Same H (upd H p (.tup [.ty "list", .ty "tuple"])) := Same.new hp
        refine ⟨_, _, [.ty "list", .ty "tuple"], .type "list", _, _, rfl, upd_same, .cons (.ty "list") (.cons (.ty "tuple") .nil), (kind_l (s1.seq hsq)), kit2 (r1 := true) (r2 := false) (by decide +kernel) (by decide +kernel), ?_⟩
        refine ⟨_, rfl, ?_⟩

        refine iteT ?_
        have hsq1 := s1.seq hsq
        have h1 := s1 _ _ h0
        have hcs1 := hcs.same s1
        generalize (upd H p (.tup [.ty "list", .ty "tuple"]) : Hp) = H1 at s1 hsq1 hcs1 h1 ⊢
        refine ⟨_, rfl, aa, rfl, ⟨_, hsq1⟩, for_it (walk_list (K := K) (a := aa) (xs := xs)) (fun i σ H' => ∃ (v1 : Option V) (R : List Addr), σ = [some (.ref aa), v1] ∧ DCs K H' n (xs.drop i) R ∧ (∀ b, b ∈ R → b ∈ LL) ∧ ButP LL H1 H') ⟨none, LL, rfl, hcs1, fun b hb => hb, fun b o _ e => e⟩ (fun i σ H' _ ⟨_, _, _, _, _, m3⟩ => SqL.of (m3 _ _ hnL h1)) ?_ ?_⟩
        · rintro i x σ H2 H3 hi ⟨v1, R, rfl, m1, m2, m3⟩ ⟨rfl, hx⟩
          obtain ⟨N, c1, c2⟩ := spoil_turn hx m1 m2 m3
          refine ⟨_, rfl, x, N, rfl, c1, fun H4 hb4 => ?_⟩
          obtain ⟨R', q1, q2, q3⟩ := c2 H4 hb4
          exact ⟨_, R', rfl, q1, q2, q3⟩
        rintro σ H2 ⟨v1, R, rfl, m1, m2, m3⟩

        have ha2 : H2 aa = some (.lst xs) := m3 _ _ hnL h1
        refine ⟨_, rfl, .ref aa, .ty "list", _, _, true, rfl, .ty "list", kind_l (SqL.of ha2), kit_ty (by decide +kernel), _, rfl, ?_⟩
        refine iteT ?_
        refine ⟨_, rfl, .inl ⟨rfl, _, SqL.of ha2⟩, aa, _, _, rfl, rfl, ha2, small1000000 (by omega), ?_⟩
        refine k _ fun b o nb e => ?_
        rw [upd_ne (fun z => nb (by rw [z]; exact List.mem_cons_self))]
        exact m3 b o (fun q => nb (List.mem_cons_of_mem _ q)) (s1 b o e)

      | @tup n aa xs _ hsq hz hcs =>
        have IH := ih n rfl
        refine ⟨_, (pss_cons (ps_if (pt_val (pe_callB call_isiT (by rfl) T.n_isinstance (by decide +kernel) (pa_cons (pv 0) (pa_cons (pe_tup (pa_cons (pe_bltn (v := .ty "list") (by rfl) T.n_list (by decide +kernel) rfl) (pa_cons (pe_bltn (v := .ty "tuple") (by rfl) T.n_tuple (by decide +kernel) rfl) pa_nil))) pa_nil)))) (pss_one (ps_for (passes_of rfl) rfl (pi_tup (pv 0)) (pg_name (i := 1) sc_c_law_spoil.nd (by rfl) (Or.inl rfl)) (pss_one (ps_expr (pe_call IH (hr.mono (by omega)) (by rfl) T.m_c_law_spoil T.F_c_law_spoil.kp T.b_c_law_spoil .nil passL (pa_cons (pv 1) pa_nil)))))) pss_nil)
    (pss_one (ps_if (pt_val (pe_callB call_isi (by rfl) T.n_isinstance (by decide +kernel) (pa_cons (pv 0) (pa_cons (pe_bltn (v := .ty "list") (by rfl) T.n_list (by decide +kernel) rfl) pa_nil)))) (pss_one ps_never) pss_nil))), ?_⟩

        refine ⟨_, rfl, by show 2 ≤ sizeLine; decide, fun p hp => ?_⟩
        have s1 : Same H (upd H p (.tup [.ty "list", .ty "tuple"])) := Same.new hp
        refine ⟨_, _, [.ty "list", .ty "tuple"], .type "tuple", _, _, rfl, upd_same, .cons (.ty "list") (.cons (.ty "tuple") .nil), (kind_t (s1.tup hsq)), kit2 (r1 := false) (r2 := true) (by decide +kernel) (by decide +kernel), ?_⟩
        refine ⟨_, rfl, ?_⟩

        refine iteT ?_
        have hsq1 := s1.tup hsq
        have hcs1 := hcs.same s1
        generalize (upd H p (.tup [.ty "list", .ty "tuple"]) : Hp) = H1 at s1 hsq1 hcs1 ⊢
        refine ⟨_, rfl, aa, rfl, ⟨_, hsq1⟩, for_it (walk_tup (K := K) (a := aa) (xs := xs)) (fun i σ H' => ∃ (v1 : Option V) (R : List Addr), σ = [some (.ref aa), v1] ∧ DCs K H' n (xs.drop i) R ∧ (∀ b, b ∈ R → b ∈ L) ∧ ButP L H1 H') ⟨none, L, rfl, hcs1, fun b hb => hb, fun b o _ e => e⟩ (fun i σ H' _ ⟨_, _, _, _, _, m3⟩ => m3.tup hcs1.lists hsq1) ?_ ?_⟩
        · rintro i x σ H2 H3 hi ⟨v1, R, rfl, m1, m2, m3⟩ ⟨rfl, hx⟩
          obtain ⟨N, c1, c2⟩ := spoil_turn hx m1 m2 m3
          refine ⟨_, rfl, x, N, rfl, c1, fun H4 hb4 => ?_⟩
          obtain ⟨R', q1, q2, q3⟩ := c2 H4 hb4
          exact ⟨_, R', rfl, q1, q2, q3⟩
        rintro σ H2 ⟨v1, R, rfl, m1, m2, m3⟩

        have hsq2 := m3.tup hcs1.lists hsq1
        refine ⟨_, rfl, .ref aa, .ty "list", _, _, false, rfl, .ty "list", kind_t hsq2, kit_ty (by decide +kernel), _, rfl, ?_⟩
        refine iteF ?_
        exact k _ fun b o nb e => m3 b o nb (s1 b o e)

      | non =>
        refine ⟨_, (pss_cons (ps_if (pt_val (pe_callB call_isiT (by rfl) T.n_isinstance (by decide +kernel) (pa_cons (pv 0) (pa_cons (pe_tup (pa_cons (pe_bltn (v := .ty "list") (by rfl) T.n_list (by decide +kernel) rfl) (pa_cons (pe_bltn (v := .ty "tuple") (by rfl) T.n_tuple (by decide +kernel) rfl) pa_nil))) pa_nil)))) (pss_one ps_never) pss_nil)
    (pss_one (ps_if (pt_val (pe_callB call_isi (by rfl) T.n_isinstance (by decide +kernel) (pa_cons (pv 0) (pa_cons (pe_bltn (v := .ty "list") (by rfl) T.n_list (by decide +kernel) rfl) pa_nil)))) (pss_one ps_never) pss_nil))), ?_⟩

        refine ⟨_, rfl, by show 2 ≤ sizeLine; decide, fun p hp => ?_⟩
        have s1 : Same H (upd H p (.tup [.ty "list", .ty "tuple"])) := Same.new hp
        refine ⟨_, _, [.ty "list", .ty "tuple"], .type "NoneType", _, _, rfl, upd_same, .cons (.ty "list") (.cons (.ty "tuple") .nil), (.base .non), kit2 (r1 := false) (r2 := false) (by decide +kernel) (by decide +kernel), ?_⟩
        refine ⟨_, rfl, ?_⟩

        refine iteF ?_
        refine ⟨_, rfl, _, .ty "list", _, _, false, rfl, .ty "list", (.base .non), kit_ty (by decide +kernel), _, rfl, ?_⟩
        refine iteF ?_
        exact k _ fun b o _ e => s1 b o e
      | bl _ b =>
        refine ⟨_, (pss_cons (ps_if (pt_val (pe_callB call_isiT (by rfl) T.n_isinstance (by decide +kernel) (pa_cons (pv 0) (pa_cons (pe_tup (pa_cons (pe_bltn (v := .ty "list") (by rfl) T.n_list (by decide +kernel) rfl) (pa_cons (pe_bltn (v := .ty "tuple") (by rfl) T.n_tuple (by decide +kernel) rfl) pa_nil))) pa_nil)))) (pss_one ps_never) pss_nil)
    (pss_one (ps_if (pt_val (pe_callB call_isi (by rfl) T.n_isinstance (by decide +kernel) (pa_cons (pv 0) (pa_cons (pe_bltn (v := .ty "list") (by rfl) T.n_list (by decide +kernel) rfl) pa_nil)))) (pss_one ps_never) pss_nil))), ?_⟩

        refine ⟨_, rfl, by show 2 ≤ sizeLine; decide, fun p hp => ?_⟩
        have s1 : Same H (upd H p (.tup [.ty "list", .ty "tuple"])) := Same.new hp
        refine ⟨_, _, [.ty "list", .ty "tuple"], .type "bool", _, _, rfl, upd_same, .cons (.ty "list") (.cons (.ty "tuple") .nil), (.base (.bl _)), kit2 (r1 := false) (r2 := false) (by decide +kernel) (by decide +kernel), ?_⟩
        refine ⟨_, rfl, ?_⟩

        refine iteF ?_
        refine ⟨_, rfl, _, .ty "list", _, _, false, rfl, .ty "list", (.base (.bl _)), kit_ty (by decide +kernel), _, rfl, ?_⟩
        refine iteF ?_
        exact k _ fun b o _ e => s1 b o e
      | int _ i =>
        refine ⟨_, (pss_cons (ps_if (pt_val (pe_callB call_isiT (by rfl) T.n_isinstance (by decide +kernel) (pa_cons (pv 0) (pa_cons (pe_tup (pa_cons (pe_bltn (v := .ty "list") (by rfl) T.n_list (by decide +kernel) rfl) (pa_cons (pe_bltn (v := .ty "tuple") (by rfl) T.n_tuple (by decide +kernel) rfl) pa_nil))) pa_nil)))) (pss_one ps_never) pss_nil)
    (pss_one (ps_if (pt_val (pe_callB call_isi (by rfl) T.n_isinstance (by decide +kernel) (pa_cons (pv 0) (pa_cons (pe_bltn (v := .ty "list") (by rfl) T.n_list (by decide +kernel) rfl) pa_nil)))) (pss_one ps_never) pss_nil))), ?_⟩

        refine ⟨_, rfl, by show 2 ≤ sizeLine; decide, fun p hp => ?_⟩
        have s1 : Same H (upd H p (.tup [.ty "list", .ty "tuple"])) := Same.new hp
        refine ⟨_, _, [.ty "list", .ty "tuple"], .type "int", _, _, rfl, upd_same, .cons (.ty "list") (.cons (.ty "tuple") .nil), (.base (.int _)), kit2 (r1 := false) (r2 := false) (by decide +kernel) (by decide +kernel), ?_⟩
        refine ⟨_, rfl, ?_⟩

        refine iteF ?_
        refine ⟨_, rfl, _, .ty "list", _, _, false, rfl, .ty "list", (.base (.int _)), kit_ty (by decide +kernel), _, rfl, ?_⟩
        refine iteF ?_
        exact k _ fun b o _ e => s1 b o e
      | str _ x =>
        refine ⟨_, (pss_cons (ps_if (pt_val (pe_callB call_isiT (by rfl) T.n_isinstance (by decide +kernel) (pa_cons (pv 0) (pa_cons (pe_tup (pa_cons (pe_bltn (v := .ty "list") (by rfl) T.n_list (by decide +kernel) rfl) (pa_cons (pe_bltn (v := .ty "tuple") (by rfl) T.n_tuple (by decide +kernel) rfl) pa_nil))) pa_nil)))) (pss_one ps_never) pss_nil)
    (pss_one (ps_if (pt_val (pe_callB call_isi (by rfl) T.n_isinstance (by decide +kernel) (pa_cons (pv 0) (pa_cons (pe_bltn (v := .ty "list") (by rfl) T.n_list (by decide +kernel) rfl) pa_nil)))) (pss_one ps_never) pss_nil))), ?_⟩

        refine ⟨_, rfl, by show 2 ≤ sizeLine; decide, fun p hp => ?_⟩
        have s1 : Same H (upd H p (.tup [.ty "list", .ty "tuple"])) := Same.new hp
        refine ⟨_, _, [.ty "list", .ty "tuple"], .type "str", _, _, rfl, upd_same, .cons (.ty "list") (.cons (.ty "tuple") .nil), (.base (.str _)), kit2 (r1 := false) (r2 := false) (by decide +kernel) (by decide +kernel), ?_⟩
        refine ⟨_, rfl, ?_⟩

        refine iteF ?_
        refine ⟨_, rfl, _, .ty "list", _, _, false, rfl, .ty "list", (.base (.str _)), kit_ty (by decide +kernel), _, rfl, ?_⟩
        refine iteF ?_
        exact k _ fun b o _ e => s1 b o e
  intro n
  induction n with
  | zero => exact step 0 fun m e => by omega
  | succ n ih => exact step (n + 1) fun m e => by have : m = n := by omega
                                                  subst this
                                                  exact ih
theorem ok_c_law_spoil {P : Program} {w : World} {K : PySem.W.Frag} {mg : Str → Option Value} {base : Heap} {a : Ad} (T : Txt K mg a) : FnOk P w K mg base (L2.CX P w) 5 a.f_c_law_spoil a.d_c_law_spoil ["value"] (sp_c_law_spoil K 4) := ok_c_law_spoil_n T 4

theorem ok_c_law_take {P : Program} {w : World} {K : PySem.W.Frag} {mg : Str → Option Value} {base : Heap} {a : Ad} (T : Txt K mg a) : FnOk P w K mg base (L2.CX P w) 1 a.f_c_law_take a.d_c_law_take ["deck", "many"] (sp_c_law_take) := by
  refine T.F_c_law_take.okX sc_c_law_take (fun vs H Q E h => ?_) (fun cdv A outer s H vs Q E hr h => ?_)
  · rw [sp_c_law_take, sp_take_eq] at h
    walk_at "len"
  · rw [sp_c_law_take, sp_take_eq] at h
    obtain ⟨d, D, m, rfl, hd, hm, k⟩ := h
    refine ⟨_, (pss_cons (ps_if (pt_cmpR op_eq (pe_callB call_len_seq (by rfl) T.n_len (by decide +kernel) (pa_cons (pv 0) pa_nil)) pe_int (nomark _)) (pss_one (ps_ret pe_int)) pss_nil)
    (pss_one (ps_ret (pe_op op_mod (pe_callTy call_int1 (by rfl) T.n_int (by decide +kernel) (pa_cons (pe_bm0 PySem.F.plainAttrs_list PySem.F.slot_list_pop PySem.F.type_list_pop mt_pop (pv 0)) pa_nil)) (pv 1))))), ?_⟩
    refine ⟨_, rfl, d, _, rfl, .inl (SqL.of hd), rfl, _, rfl, ?_⟩
    cases D with
    | nil =>
      refine iteT ?_
      have e : upd H d (dk []) = H := upd_self hd
      have k' : Q (.int (0 % m)) H := by rw [← e]; exact k
      rw [Int.zero_emod] at k'
      exact k'
    | cons x D =>
      refine ite2 (fun c => ?_) (fun _ => ?_)
      · simp at c
        omega
      · refine ⟨_, rfl, .inl ⟨rfl, _, SqL.of hd⟩, d, _, _, rfl, rfl, hd, dk_last, .inl ⟨_, rfl, _, rfl, _, _, rfl, rfl, hm, ?_⟩⟩
        rw [dk_drop]
        exact k
theorem ok_c_law_steps {P : Program} {w : World} {K : PySem.W.Frag} {mg : Str → Option Value} {base : Heap} {a : Ad} (T : Txt K mg a) : FnOk P w K mg base (L2.CX P w) 2 a.f_c_law_steps a.d_c_law_steps ["deck"] (sp_c_law_steps K) := by
  have G_c_law_take : FnOk P w K mg base (L2.CX P w) 1 a.f_c_law_take a.d_c_law_take ["deck", "many"] (sp_c_law_take) := ok_c_law_take T
  refine T.F_c_law_steps.okX sc_c_law_steps (fun vs H Q E h => ?_) (fun cdv A outer s H vs Q E hr h => ?_)
  · rw [sp_c_law_steps_eq] at h
    walk_at "len"
  · rw [sp_c_law_steps_eq] at h
    obtain ⟨d, D, rfl, hd, k⟩ := h
    refine ⟨_, (pss_cons (ps_set (i := 1) sc_c_law_steps.nd (by rfl) (Or.inl rfl) (pe_lst pa_nil))
    (pss_cons (ps_set (i := 2) sc_c_law_steps.nd (by rfl) (Or.inl rfl) (pe_op op_add pe_int (pe_call G_c_law_take (hr.mono (by decide)) (by rfl) T.m_c_law_take T.F_c_law_take.kp T.b_c_law_take .nil passL (pa_cons (pv 0) (pa_cons pe_int pa_nil)))))
    (pss_cons (ps_for (passes_of rfl) rfl (pi_range1 (by rfl) T.n_range (pa_cons (pe_call G_c_law_take (hr.mono (by decide)) (by rfl) T.m_c_law_take T.F_c_law_take.kp T.b_c_law_take .nil passL (pa_cons (pv 0) (pa_cons pe_int pa_nil))) pa_nil)) (pg_name (i := 3) sc_c_law_steps.nd (by rfl) (Or.inl rfl)) (pss_cons (ps_expr (pe_bm PySem.F.plainAttrs_list PySem.F.slot_list_append PySem.F.type_list_append mt_append (pv 1) (pa_cons (pe_tup (pa_cons (pv 2) (pa_cons (pe_call G_c_law_take (hr.mono (by decide)) (by rfl) T.m_c_law_take T.F_c_law_take.kp T.b_c_law_take .nil passL (pa_cons (pv 0) (pa_cons pe_int pa_nil))) pa_nil))) pa_nil)))
    (pss_one (ps_set (i := 2) sc_c_law_steps.nd (by rfl) (Or.inl rfl) (pe_op op_add (pe_op op_add (pv 2) pe_int) (pe_call G_c_law_take (hr.mono (by decide)) (by rfl) T.m_c_law_take T.F_c_law_take.kp T.b_c_law_take .nil passL (pa_cons (pv 0) (pa_cons pe_int pa_nil))))))))
    (pss_one (ps_ret (pv 1)))))), ?_⟩
    have K0 : Dk (del H d) H d D := ⟨del_same, fun _ _ e => (del_of e).1, hd⟩
    refine ⟨by show 0 ≤ sizeLine; decide, fun l hl => ?_⟩
    have ndl : d ≠ l := ne_of_none hd hl
    have hl0 : del H d l = none := by rw [del_ne ndl.symm]; exact hl
    have K1 : Dk (del H d) (upd H l (.lst [])) d D := ⟨K0.nd, K0.sm.mut hl0, by rw [upd_ne ndl]; exact hd⟩
    refine ⟨_, rfl, take_q K1.freeze (by decide) fun a1 H1 a10 a11 K2 => ?_⟩
    have hL1 := K2.get ndl.symm upd_same
    have K2 : Dk (del H d) H1 d D.tail := K2.keep K1.nd (fun b o e => K2.sm b o (K1.under b o e))
    refine ⟨_, _, rfl, rfl, ?_⟩
    refine ⟨_, rfl, take_q K2.freeze (by decide) fun n H2 n0 n1 K3 => ?_⟩
    have hL2 := K3.get ndl.symm hL1
    have K3 : Dk (del H d) H2 d D.tail.tail := K3.keep K2.nd (fun b o e => K3.sm b o (K2.under b o e))
    refine ⟨n, rfl, by omega, by omega, for_range (lo := 0) (n := n.toNat) (fun i σ H' => ∃ (b : Int) (v3 : Option V) (D' : List Int) (rs : List V) (ps : List (Int × Int)), σ = [some (.ref d), some (.ref l), some (.int b), v3] ∧ Dk (del H d) H' d D' ∧ H' l = some (.lst rs) ∧ Rws K (del (del H' d) l) rs ps ∧ ps.length = i ∧ (ks ps).Pairwise (· < ·) ∧ (∀ k ∈ ks ps, k < b) ∧ 1 ≤ b ∧ b ≤ 4 + 6 * i ∧ ∀ z ∈ ps, 1 ≤ z.1 ∧ z.1 ≤ 100 ∧ 0 ≤ z.2 ∧ z.2 < 2000) ?_ ?_ ?_⟩
    · exact ⟨_, none, _, [], [], rfl, K3, hL2, .nil, rfl, .nil, (fun k hk => by cases hk), by omega, by omega, (fun z hz => by cases hz)⟩
    · rintro i σ H3 hi ⟨b, v3, D', rs, ps, rfl, K4, hL, hR, hln, hpw, hkb, b1, b2, hz⟩
      refine ⟨_, rfl, .inl ⟨rfl, _, SqL.of hL⟩, _, rfl, _, rfl, take_q K4.freeze (by decide) fun z H4 z0 z1 K5 => ?_⟩
      have hL4 := K5.get ndl.symm hL
      have sH : Same (del H3 d) H4 := K5.sm
      have K6 : Dk (del H d) H4 d D'.tail := K5.keep K4.nd (fun b o e => K5.sm b o (K4.under b o e))
      refine ⟨by show 2 ≤ sizeLine; decide, fun tq htq => ?_⟩
      have ntl : tq ≠ l := fun w => by rw [w, hL4] at htq; cases htq
      have ntd : tq ≠ d := fun w => by rw [w, K6.hd] at htq; cases htq
      have rl := rws_len hR
      refine ⟨l, _, _, rfl, rfl, by rw [upd_ne ntl.symm]; exact hL4, small1000000 (by omega), ?_⟩
      have K7 : Dk (del H d) (upd (upd H4 tq (.tup [.int b, .int z])) l (.lst (rs ++ [.ref tq]))) d D'.tail := by
        have k := K6.same (Same.new (o := .tup [.int b, .int z]) htq)
        exact ⟨k.nd, k.sm.mut hl0, by rw [upd_ne ndl]; exact k.hd⟩
      refine ⟨_, rfl, _, _, rfl, rfl, _, rfl, take_q K7.freeze (by decide) fun y H6 y0 y1 K8 => ?_⟩
      have hL6 := K8.get ndl.symm upd_same
      have hT6 := K8.get ntd (show (upd (upd H4 tq (.tup [.int b, .int z])) l (.lst (rs ++ [.ref tq])) : Hp) tq = some (.tup [.int b, .int z]) by rw [upd_ne ntl]; exact upd_same)
      have sI : Same (del (del H3 d) l) (del (del H6 d) l) := fun c o e => by
        obtain ⟨e1, e2⟩ := del_of e
        obtain ⟨e3, e4⟩ := del_of e1
        refine del_some (del_some (K8.get e4 ?_) e4) e2
        rw [upd_ne e2, upd_ne (ne_of_none (sH c o e1) htq)]
        exact sH c o e1
      have K8' : Dk (del H d) H6 d D'.tail.tail := K8.keep K7.nd (fun b o e => K8.sm b o (K7.under b o e))
      refine ⟨_, _, rfl, rfl, ?_⟩
      refine ⟨_, _, _, rs ++ [.ref tq], ps ++ [(b, z)], rfl, K8', hL6, ?_, by rw [List.length_append, hln]; rfl, ?_, ?_, by omega, by omega, ?_⟩
      · show DpAll K _ (rs ++ [.ref tq]) ((ps ++ [(b, z)]).map pd)
        rw [List.map_append]
        exact dpAll_app (dpAll_same sI _ _ hR) (.cons (dp_pd (z := (b, z)) (SqT.of (del_some (del_some hT6 ntd) ntl))) .nil)
      · unfold ks
        rw [List.map_append]
        refine List.pairwise_append.mpr ⟨hpw, List.pairwise_singleton _ _, fun k hk k' hk' => ?_⟩
        simp only [List.map_cons, List.map_nil, List.mem_singleton] at hk'
        rw [hk']
        exact hkb k hk
      · intro k hk
        unfold ks at hk
        rw [List.map_append, List.mem_append] at hk
        rcases hk with hk | hk
        · have := hkb k hk
          omega
        · simp only [List.map_cons, List.map_nil, List.mem_singleton] at hk
          omega
      · intro w hw
        rcases List.mem_append.mp hw with hw | hw
        · exact hz w hw
        · rw [List.mem_singleton] at hw
          subst hw
          exact ⟨b1, by omega, z0, z1⟩
    rintro σ H3 ⟨b, v3, D', rs, ps, rfl, K4, hL, hR, hln, hpw, hkb, b1, b2, hz⟩
    refine ⟨_, rfl, k H3 D' l rs ps (fun c o nc e => K4.sm c o (del_some e nc)) K4.hd hl hL (dpAll_same (fun c o e => (del_of e).1) _ _ hR) (by omega) (by unfold asc; rw [pw_asc hpw]; rfl) hz⟩
theorem ok_c_law_why {P : Program} {w : World} {K : PySem.W.Frag} {mg : Str → Option Value} {base : Heap} {a : Ad} (T : Txt K mg a) : FnOk P w K mg base (L2.CX P w) 5 a.f_c_law_why a.d_c_law_why ["ask", "one", "two"] (sp_c_law_why K a.C_Tariff) := by
  have G_c_Tariff_init : FnOk P w K mg base (L2.CX P w) 3 a.f_c_Tariff_init a.d_c_Tariff_init ["self", "price", "steps"] (sp_c_Tariff_init K a.C_Tariff a.C_InvalidMoney) := ok_c_Tariff_init T
  have G_c_Tariff_price_at : FnOk P w K mg base (L2.CX P w) 3 a.f_c_Tariff_price_at a.d_c_Tariff_price_at ["self", "load"] (sp_c_Tariff_price_at K a.C_Tariff a.C_InvalidMoney) := ok_c_Tariff_price_at T
  have G_c_Tariff_sum_of : FnOk P w K mg base (L2.CX P w) 4 a.f_c_Tariff_sum_of a.d_c_Tariff_sum_of ["self", "first", "last"] (sp_c_Tariff_sum_of K a.C_Tariff a.C_InvalidMoney) := ok_c_Tariff_sum_of T
  refine T.F_c_law_why.okX sc_c_law_why (fun vs H Q E h => ?_) (fun cdv A outer s H vs Q E hr h => ?_)
  · rw [sp_c_law_why_eq] at h
    walk_at "len"
  · rw [sp_c_law_why_eq] at h
    obtain ⟨kk, v, w, wd, rfl, hk, hc, k⟩ := h
    refine ⟨_, (pss_cons (ps_try_as (i := 3) (Wout := fun _ _ _ _ => False) rfl rfl sc_c_law_why.nd (by rfl) (by rfl) ⟨by rfl, by decide, .inl T.m_SlotError⟩ takes0
    (fun W pn xe tk po => (pss_one (ps_if (pt_cmpR op_eq (pv 0) pe_int (nomark _)) (pss_one (ps_expr (pe_makeQ T.mk_Tariff G_c_Tariff_init (hr.mono (by decide)) (by rfl) T.m_Tariff T.b_c_Tariff_init (fun σ => passAt tk σ) (pa_cons (pv 1) (pa_cons (pv 2) pa_nil))))) (pss_one (ps_if (pt_cmpR op_eq (pv 0) pe_int (nomark _)) (pss_one (ps_expr (pe_methQ (pv 1) T.cl_Tariff T.mt_c_Tariff_price_at G_c_Tariff_price_at (hr.mono (by decide)) T.b_c_Tariff_price_at (fun σ => passAt tk σ) (pa_cons (pv 2) pa_nil)))) (pss_one (ps_expr (pe_methQ (pv 1) T.cl_Tariff T.mt_c_Tariff_sum_of G_c_Tariff_sum_of (hr.mono (by decide)) T.b_c_Tariff_sum_of (fun σ => passAt tk σ) (pa_cons (pe_ix (show IxR _ (rIxT K) from ix_tup) (pv 2) pe_int (fun _ _ => rfl)) (pa_cons (pe_ix (show IxR _ (rIxT K) from ix_tup) (pv 2) pe_int (fun _ _ => rfl)) pa_nil))))))))))
    (fun ae oe cls dx pn hz hf => (pss_cons (ps_if (PW.pt (pw_and (pt_val (pe_callB (call_isX hz hf) (by rfl) T.n_isinstance (by decide +kernel) (pa_cons (pv 3) (pa_cons (pe_glob (v := .ref a.C_InvalidMoney) (by rfl) T.m_InvalidMoney rfl) pa_nil)))) (pw_and1 (pt_not (pt_val (pe_callB (call_isX hz hf) (by rfl) T.n_isinstance (by decide +kernel) (pa_cons (pv 3) (pa_cons (pe_glob (v := .ref a.C_InvalidTime) (by rfl) T.m_InvalidTime rfl) pa_nil)))))))) (pss_one (ps_ret (pe_xf T.xf_InvalidMoney T.no_InvalidMoney_what hz hf (pv 3)))) pss_nil)
    (pss_one (ps_ret pe_str)))))
    (pss_one (ps_ret pe_non))), ?_⟩
    refine ⟨_, rfl, rfl, _, rfl, ?_⟩
    refine ite2 (fun c => ?_) (fun c => ?_)
    · have c' : kk = 0 := V.int.inj (of_decide_eq_true c)
      rcases hc with ⟨_, p, q, rs, ps, rfl, rfl, hq, hr0, hsm, hb⟩ | ⟨e, _⟩ | ⟨e, _⟩
      · refine ⟨_, rfl, _, rfl, fun x dx hx hdx hne => ?_⟩
        have hxs : Same H (upd (upd H dx (.own x)) x (.ins a.C_Tariff dx [])) := (Same.new hdx).then_new (by rw [upd_ne (Ne.symm hne)]; exact hx)
        refine sp_c_Tariff_init_use ⟨x, q, dx, p, rs, ps, rfl, upd_same, hxs.seq hq, dpAll_same hxs _ _ hr0, hsm, fun z => ?_, fun z1 z2 => ?_, fun z1 z2 => ?_⟩
        · have e : wd = "price" := by
            rcases hb with hb | hb
            · exact hb.2
            · rw [z] at hb
              exact absurd hb.1 (by decide)
          subst e
          intro d H' s1 hd
          refine ⟨true, T.em_InvalidMoney_SlotError, fun _ ae _ => ?_, fun z => nomatch z⟩
          refine ⟨_, rfl, _, _, true, d, _, rfl, rfl, T.is_InvalidMoney, rfl, hd, T.kt_InvalidMoney_InvalidMoney, true, rfl, ?_⟩
          refine ⟨_, rfl, _, _, false, d, _, rfl, rfl, T.is_InvalidMoney, rfl, hd, T.kt_InvalidMoney_InvalidTime, _, rfl, ?_⟩
          exact ⟨_, rfl, rfl, rfl, d, _, _, rfl, hd, rfl, k H' (hxs.trans s1)⟩
        · have e : wd = "steps" := by
            rcases hb with hb | hb
            · rw [z1] at hb
              exact absurd hb.1 (by decide)
            · exact hb.2.2
          subst e
          intro d H' s1 hd
          refine ⟨true, T.em_InvalidMoney_SlotError, fun _ ae _ => ?_, fun z => nomatch z⟩
          refine ⟨_, rfl, _, _, true, d, _, rfl, rfl, T.is_InvalidMoney, rfl, hd, T.kt_InvalidMoney_InvalidMoney, true, rfl, ?_⟩
          refine ⟨_, rfl, _, _, false, d, _, rfl, rfl, T.is_InvalidMoney, rfl, hd, T.kt_InvalidMoney_InvalidTime, _, rfl, ?_⟩
          exact ⟨_, rfl, rfl, rfl, d, _, _, rfl, hd, rfl, k H' (hxs.trans s1)⟩
        · exfalso
          rcases hb with hb | hb
          · rw [z1] at hb
            exact absurd hb.1 (by decide)
          · rw [z2] at hb
            exact absurd hb.2.1 (by decide)
      · omega
      · omega
    refine ⟨_, rfl, rfl, _, rfl, ?_⟩
    have c0 : ¬ kk = 0 := fun z => c (decide_eq_true (congrArg V.int z))
    refine ite2 (fun c => ?_) (fun c => ?_)
    · have c' : kk = 1 := V.int.inj (of_decide_eq_true c)
      rcases hc with ⟨e, _⟩ | ⟨_, t, p, x, ps, rfl, rfl, hT, hx, rfl⟩ | ⟨e, _⟩
      · omega
      · obtain ⟨dx, r, rs, h1, h2, h3⟩ := id hT
        refine ⟨_, rfl, t, dx, _, rfl, h1, rfl, _, rfl, ?_⟩
        refine sp_c_Tariff_price_at_use ⟨t, p, x, ps, rfl, hT, fun _ => ?_, fun z => absurd hx (by omega)⟩
        intro d H' s1 hd
        refine ⟨true, T.em_InvalidMoney_SlotError, fun _ ae _ => ?_, fun z => nomatch z⟩
        refine ⟨_, rfl, _, _, true, d, _, rfl, rfl, T.is_InvalidMoney, rfl, hd, T.kt_InvalidMoney_InvalidMoney, true, rfl, ?_⟩
        refine ⟨_, rfl, _, _, false, d, _, rfl, rfl, T.is_InvalidMoney, rfl, hd, T.kt_InvalidMoney_InvalidTime, _, rfl, ?_⟩
        exact ⟨_, rfl, rfl, rfl, d, _, _, rfl, hd, rfl, k H' s1⟩
      · omega
    have c1 : ¬ kk = 1 := fun z => c (decide_eq_true (congrArg V.int z))
    rcases hc with ⟨e, _⟩ | ⟨e, _⟩ | ⟨_, t, q, p, x, y, ps, rfl, rfl, hT, hsm, ha, hy, hq, hxy, rfl⟩
    · omega
    · omega
    obtain ⟨dx, r, rs, h1, h2, h3⟩ := id hT
    refine ⟨_, rfl, t, dx, _, rfl, h1, rfl, _, rfl, q, _, _, _, rfl, rfl, hq, rfl, _, rfl, q, _, _, _, rfl, rfl, hq, rfl, ?_⟩
    refine sp_c_Tariff_sum_of_use ⟨t, p, x, y, ps, rfl, hT, hsm, ha, hy, fun _ => ?_, fun z1 z2 => absurd ⟨z1, z2⟩ hxy⟩
    intro d H' s1 hd
    refine ⟨true, T.em_InvalidMoney_SlotError, fun _ ae _ => ?_, fun z => nomatch z⟩
    refine ⟨_, rfl, _, _, true, d, _, rfl, rfl, T.is_InvalidMoney, rfl, hd, T.kt_InvalidMoney_InvalidMoney, true, rfl, ?_⟩
    refine ⟨_, rfl, _, _, false, d, _, rfl, rfl, T.is_InvalidMoney, rfl, hd, T.kt_InvalidMoney_InvalidTime, _, rfl, ?_⟩
    exact ⟨_, rfl, rfl, rfl, d, _, _, rfl, hd, rfl, k H' s1⟩
theorem ok_c_law {P : Program} {w : World} {K : PySem.W.Frag} {mg : Str → Option Value} {base : Heap} {a : Ad} (T : Txt K mg a) : FnOk P w K mg base (L2.CX P w) 6 a.f_c_law a.d_c_law ["script"] (sp_c_law K) := by
  have G_c_Tariff_init : FnOk P w K mg base (L2.CX P w) 3 a.f_c_Tariff_init a.d_c_Tariff_init ["self", "price", "steps"] (sp_c_Tariff_init K a.C_Tariff a.C_InvalidMoney) := ok_c_Tariff_init T
  have G_c_Tariff_is_rising : FnOk P w K mg base (L2.CX P w) 1 a.f_c_Tariff_is_rising a.d_c_Tariff_is_rising ["self"] (sp_c_Tariff_is_rising K a.C_Tariff) := ok_c_Tariff_is_rising T
  have G_c_Tariff_price_at : FnOk P w K mg base (L2.CX P w) 3 a.f_c_Tariff_price_at a.d_c_Tariff_price_at ["self", "load"] (sp_c_Tariff_price_at K a.C_Tariff a.C_InvalidMoney) := ok_c_Tariff_price_at T
  have G_c_Tariff_steps : FnOk P w K mg base (L2.CX P w) 1 a.f_c_Tariff_steps a.d_c_Tariff_steps ["self"] (sp_c_Tariff_steps K a.C_Tariff) := ok_c_Tariff_steps T
  have G_c_Tariff_sum_of : FnOk P w K mg base (L2.CX P w) 4 a.f_c_Tariff_sum_of a.d_c_Tariff_sum_of ["self", "first", "last"] (sp_c_Tariff_sum_of K a.C_Tariff a.C_InvalidMoney) := ok_c_Tariff_sum_of T
  have G_c_law_deck : FnOk P w K mg base (L2.CX P w) 1 a.f_c_law_deck a.d_c_law_deck ["script", "cells", "each"] (sp_c_law_deck K) := ok_c_law_deck T
  have G_c_law_plain : FnOk P w K mg base (L2.CX P w) 5 a.f_c_law_plain a.d_c_law_plain ["value"] (sp_c_law_plain K 4) := ok_c_law_plain T
  have G_c_law_price : FnOk P w K mg base (L2.CX P w) 1 a.f_c_law_price a.d_c_law_price ["price", "steps", "load"] (sp_c_law_price K) := ok_c_law_price T
  have G_c_law_spoil : FnOk P w K mg base (L2.CX P w) 5 a.f_c_law_spoil a.d_c_law_spoil ["value"] (sp_c_law_spoil K 4) := ok_c_law_spoil T
  have G_c_law_steps : FnOk P w K mg base (L2.CX P w) 2 a.f_c_law_steps a.d_c_law_steps ["deck"] (sp_c_law_steps K) := ok_c_law_steps T
  have G_c_law_take : FnOk P w K mg base (L2.CX P w) 1 a.f_c_law_take a.d_c_law_take ["deck", "many"] (sp_c_law_take) := ok_c_law_take T
  have G_c_law_why : FnOk P w K mg base (L2.CX P w) 5 a.f_c_law_why a.d_c_law_why ["ask", "one", "two"] (sp_c_law_why K a.C_Tariff) := ok_c_law_why T
  refine T.F_c_law.okX sc_c_law (fun vs H Q E h => ?_) (fun cdv A outer s H vs Q E hr h => ?_)
  · walk_at "len"
  · obtain ⟨sa, ns, rfl, hS, hlen, k⟩ := h
    refine ⟨_, (pss_cons (ps_set (i := 1) sc_c_law.nd (by rfl) (Or.inl rfl) (pe_call G_c_law_deck (hr.mono (by decide)) (by rfl) T.m_c_law_deck T.F_c_law_deck.kp T.b_c_law_deck .nil passL (pa_cons (pv 0) (pa_cons pe_int (pa_cons pe_int pa_nil)))))
    (pss_cons (ps_set (i := 2) sc_c_law.nd (by rfl) (Or.inr rfl) (pe_call G_c_law_take (hr.mono (by decide)) (by rfl) T.m_c_law_take T.F_c_law_take.kp T.b_c_law_take .nil passL (pa_cons (pv 1) (pa_cons pe_int pa_nil))))
    (pss_cons (ps_set (i := 3) sc_c_law.nd (by rfl) (Or.inr rfl) (pe_call G_c_law_steps (hr.mono (by decide)) (by rfl) T.m_c_law_steps T.F_c_law_steps.kp T.b_c_law_steps .nil passL (pa_cons (pv 1) pa_nil)))
    (Evl.pss_cut (ps_if (pt_cmpR op_eq (pe_call G_c_law_take (hr.mono (by decide)) (by rfl) T.m_c_law_take T.F_c_law_take.kp T.b_c_law_take .nil passL (pa_cons (pv 1) (pa_cons pe_int pa_nil))) pe_int (nomark _)) (pss_cons (ps_set (i := 4) sc_c_law.nd (by rfl) (Or.inr rfl) (pe_callB cr_sortedI (by rfl) T.n_sorted (by decide +kernel) (pa_cons (pe_lcK (own := [("bound", 17), ("other", 18)]) (by rfl) sc_c_law.nd (pi_list (pv 3)) (blkOk_by (own := [("bound", 17), ("other", 18)]) (N := ["script", "deck", "price", "steps", "ordered", "handed", "tariff", "load", "first", "last", "middle", "due", "told", "prices", "rising", "bad", "at", "bound", "other"]) (sc := defScope st_c_law) (by decide +kernel)) (fun _ _ _ _ _ => (pg_tup (n := 2) (by rfl) (pgs_cons (pg_name (i := 17) sc_c_law.nd (by rfl) (by first | exact Or.inl rfl | exact Or.inr rfl)) (pgs_cons (pg_name (i := 18) sc_c_law.nd (by rfl) (by first | exact Or.inl rfl | exact Or.inr rfl)) pgs_nil)))) (fun _ _ _ _ _ => pts_nil) (fun _ _ _ _ _ => (pv 18)) (by walk_at "blk") (by walk_at "blk") (by walk_at "blk")) pa_nil)))
    (pss_one (ps_set (i := 3) sc_c_law.nd (by rfl) (Or.inr rfl) (pe_lcK (own := [("at", 16)]) (by rfl) sc_c_law.nd (pi_range1 (by rfl) T.n_range (pa_cons (pe_callB call_len_seq (by rfl) T.n_len (by decide +kernel) (pa_cons (pv 3) pa_nil)) pa_nil)) (blkOk_by (own := [("at", 16)]) (N := ["script", "deck", "price", "steps", "ordered", "handed", "tariff", "load", "first", "last", "middle", "due", "told", "prices", "rising", "bad", "at", "bound", "other"]) (sc := defScope st_c_law) (by decide +kernel)) (fun _ _ _ _ _ => (pg_name (i := 16) sc_c_law.nd (by rfl) (by first | exact Or.inl rfl | exact Or.inr rfl))) (fun _ _ _ _ _ => pts_nil) (fun _ _ _ _ _ => (pe_tup (pa_cons (pe_ix ix_tup (pe_ix ix_list (pv 3) (pv 16) (fun _ _ => rfl)) pe_int (fun _ _ => rfl)) (pa_cons (pe_op op_add (pv 2) (pe_ix ix_list (pv 4) (pv 16) (fun _ _ => rfl))) pa_nil)))) (by walk_at "blk") (by walk_at "blk") (by walk_at "blk"))))) pss_nil)
    (pss_cons (ps_set (i := 5) sc_c_law.nd (by rfl) (Or.inl rfl) (pe_callTy call_list_of (by rfl) T.n_list (by decide +kernel) (pa_cons (pv 3) pa_nil)))
    (pss_cons (ps_set (i := 6) sc_c_law.nd (by rfl) (Or.inl rfl) (pe_make T.mk_Tariff G_c_Tariff_init (hr.mono (by decide)) (by rfl) T.m_Tariff T.b_c_Tariff_init .nil passL (pa_cons (pv 2) (pa_cons (pv 5) pa_nil))))
    (pss_cons (ps_expr (pe_bm PySem.F.plainAttrs_list PySem.F.slot_list_append PySem.F.type_list_append mt_append (pv 5) (pa_cons (pe_tup (pa_cons pe_int (pa_cons pe_int pa_nil))) pa_nil)))
    (pss_cons (ps_expr (pe_call G_c_law_spoil (hr.mono (by decide)) (by rfl) T.m_c_law_spoil T.F_c_law_spoil.kp T.b_c_law_spoil .nil passL (pa_cons (pe_lst (pa_cons (pe_meth0 (pv 6) T.cl_Tariff T.mt_c_Tariff_steps G_c_Tariff_steps (hr.mono (by decide)) T.b_c_Tariff_steps .nil passL) pa_nil)) pa_nil)))
    (Evl.pss_cut (ps_if (pt_cmpR (op_neD hr.units) (pe_call G_c_law_plain (hr.mono (by decide)) (by rfl) T.m_c_law_plain T.F_c_law_plain.kp T.b_c_law_plain .nil passL (pa_cons (pe_lst (pa_cons (pe_fld (pv 6) (by rfl)) (pa_cons (pe_meth0 (pv 6) T.cl_Tariff T.mt_c_Tariff_steps G_c_Tariff_steps (hr.mono (by decide)) T.b_c_Tariff_steps .nil passL) pa_nil))) pa_nil)) (pe_call G_c_law_plain (hr.mono (by decide)) (by rfl) T.m_c_law_plain T.F_c_law_plain.kp T.b_c_law_plain .nil passL (pa_cons (pe_lst (pa_cons (pv 2) (pa_cons (pv 3) pa_nil))) pa_nil)) (nomark _)) (pss_one (ps_ret pe_bl)) pss_nil)
    (pss_cons (ps_for (passes_of rfl) rfl (pi_list (pe_op op_cat (pe_listRg rfl (by rfl) T.n_list (prg_1 (by rfl) T.n_range pe_int)) (pe_lst (pa_cons (pe_call G_c_law_take (hr.mono (by decide)) (by rfl) T.m_c_law_take T.F_c_law_take.kp T.b_c_law_take .nil passL (pa_cons (pv 1) (pa_cons pe_int pa_nil))) pa_nil)))) (pg_name (i := 7) sc_c_law.nd (by rfl) (Or.inl rfl)) (pss_one (ps_if (pt_cmpR (op_neD hr.units) (pe_call G_c_law_plain (hr.mono (by decide)) (by rfl) T.m_c_law_plain T.F_c_law_plain.kp T.b_c_law_plain .nil passL (pa_cons (pe_meth (pv 6) T.cl_Tariff T.mt_c_Tariff_price_at G_c_Tariff_price_at (hr.mono (by decide)) T.b_c_Tariff_price_at .nil passL (pa_cons (pv 7) pa_nil)) pa_nil)) (pe_call G_c_law_plain (hr.mono (by decide)) (by rfl) T.m_c_law_plain T.F_c_law_plain.kp T.b_c_law_plain .nil passL (pa_cons (pe_call G_c_law_price (hr.mono (by decide)) (by rfl) T.m_c_law_price T.F_c_law_price.kp T.b_c_law_price .nil passL (pa_cons (pv 2) (pa_cons (pv 3) (pa_cons (pv 7) pa_nil)))) pa_nil)) (nomark _)) (pss_one (ps_ret pe_bl)) pss_nil)))
    (pss_cons (ps_set (i := 8) sc_c_law.nd (by rfl) (Or.inl rfl) (pe_call G_c_law_take (hr.mono (by decide)) (by rfl) T.m_c_law_take T.F_c_law_take.kp T.b_c_law_take .nil passL (pa_cons (pv 1) (pa_cons pe_int pa_nil))))
    (pss_cons (ps_set (i := 9) sc_c_law.nd (by rfl) (Or.inl rfl) (pe_op op_add (pv 8) (pe_call G_c_law_take (hr.mono (by decide)) (by rfl) T.m_c_law_take T.F_c_law_take.kp T.b_c_law_take .nil passL (pa_cons (pv 1) (pa_cons pe_int pa_nil)))))
    (pss_cons (ps_set (i := 10) sc_c_law.nd (by rfl) (Or.inl rfl) (pe_op op_add (pv 8) (pe_call G_c_law_take (hr.mono (by decide)) (by rfl) T.m_c_law_take T.F_c_law_take.kp T.b_c_law_take .nil passL (pa_cons (pv 1) (pa_cons (pe_op op_add (pe_op op_sub (pv 9) (pv 8)) pe_int) pa_nil)))))
    (pss_cons (ps_set (i := 11) sc_c_law.nd (by rfl) (Or.inl rfl) (pe_callB (cr_sum rfl) (by rfl) T.n_sum (by decide +kernel) (pa_cons (pe_lcK (own := [("load", 7)]) (by rfl) sc_c_law.nd (pi_range2 (by rfl) T.n_range (pa_cons (pv 8) (pa_cons (pv 9) pa_nil))) (blkOk_by (own := [("load", 7)]) (N := ["script", "deck", "price", "steps", "ordered", "handed", "tariff", "load", "first", "last", "middle", "due", "told", "prices", "rising", "bad", "at", "bound", "other"]) (sc := defScope st_c_law) (by decide +kernel)) (fun _ _ _ _ _ => (pg_name (i := 7) sc_c_law.nd (by rfl) (by first | exact Or.inl rfl | exact Or.inr rfl))) (fun _ _ _ _ _ => pts_nil) (fun _ _ _ _ _ => (pe_call G_c_law_price (hr.mono (by decide)) (by rfl) T.m_c_law_price T.F_c_law_price.kp T.b_c_law_price .nil passL (pa_cons (pv 2) (pa_cons (pv 3) (pa_cons (pv 7) pa_nil))))) (by walk_at "blk") (by walk_at "blk") (by walk_at "blk")) pa_nil)))
    (pss_cons (ps_set (i := 12) sc_c_law.nd (by rfl) (Or.inl rfl) (pe_lst (pa_cons (pe_meth (pv 6) T.cl_Tariff T.mt_c_Tariff_sum_of G_c_Tariff_sum_of (hr.mono (by decide)) T.b_c_Tariff_sum_of .nil passL (pa_cons (pv 8) (pa_cons (pv 9) pa_nil))) (pa_cons (pe_op op_add (pe_meth (pv 6) T.cl_Tariff T.mt_c_Tariff_sum_of G_c_Tariff_sum_of (hr.mono (by decide)) T.b_c_Tariff_sum_of .nil passL (pa_cons (pv 8) (pa_cons (pv 10) pa_nil))) (pe_meth (pv 6) T.cl_Tariff T.mt_c_Tariff_sum_of G_c_Tariff_sum_of (hr.mono (by decide)) T.b_c_Tariff_sum_of .nil passL (pa_cons (pv 10) (pa_cons (pv 9) pa_nil)))) (pa_cons (pe_meth (pv 6) T.cl_Tariff T.mt_c_Tariff_sum_of G_c_Tariff_sum_of (hr.mono (by decide)) T.b_c_Tariff_sum_of .nil passL (pa_cons (pv 8) (pa_cons (pv 8) pa_nil))) pa_nil)))))
    (Evl.pss_cut (ps_if (pt_cmpR (op_neD hr.units) (pe_call G_c_law_plain (hr.mono (by decide)) (by rfl) T.m_c_law_plain T.F_c_law_plain.kp T.b_c_law_plain .nil passL (pa_cons (pv 12) pa_nil)) (pe_call G_c_law_plain (hr.mono (by decide)) (by rfl) T.m_c_law_plain T.F_c_law_plain.kp T.b_c_law_plain .nil passL (pa_cons (pe_lst (pa_cons (pv 11) (pa_cons (pv 11) (pa_cons pe_int pa_nil)))) pa_nil)) (nomark _)) (pss_one (ps_ret pe_bl)) pss_nil)
    (pss_cons (ps_set (i := 13) sc_c_law.nd (by rfl) (Or.inr rfl) (pe_op op_cat (pe_lst (pa_cons (pv 2) pa_nil)) (pe_lcK (own := [("bound", 17), ("other", 18)]) (by rfl) sc_c_law.nd (pi_list (pv 3)) (blkOk_by (own := [("bound", 17), ("other", 18)]) (N := ["script", "deck", "price", "steps", "ordered", "handed", "tariff", "load", "first", "last", "middle", "due", "told", "prices", "rising", "bad", "at", "bound", "other"]) (sc := defScope st_c_law) (by decide +kernel)) (fun _ _ _ _ _ => (pg_tup (n := 2) (by rfl) (pgs_cons (pg_name (i := 17) sc_c_law.nd (by rfl) (by first | exact Or.inl rfl | exact Or.inr rfl)) (pgs_cons (pg_name (i := 18) sc_c_law.nd (by rfl) (by first | exact Or.inl rfl | exact Or.inr rfl)) pgs_nil)))) (fun _ _ _ _ _ => pts_nil) (fun _ _ _ _ _ => (pv 18)) (by walk_at "blk") (by walk_at "blk") (by walk_at "blk"))))
    (pss_cons (ps_set (i := 14) sc_c_law.nd (by rfl) (Or.inl rfl) (pe_cmpR op_eq (pe_callB call_len_seq (by rfl) T.n_len (by decide +kernel) (pa_cons (pe_lcK (own := [("at", 16)]) (by rfl) sc_c_law.nd (pi_range2 (by rfl) T.n_range (pa_cons pe_int (pa_cons (pe_callB call_len_seq (by rfl) T.n_len (by decide +kernel) (pa_cons (pv 13) pa_nil)) pa_nil))) (blkOk_by (own := [("at", 16)]) (N := ["script", "deck", "price", "steps", "ordered", "handed", "tariff", "load", "first", "last", "middle", "due", "told", "prices", "rising", "bad", "at", "bound", "other"]) (sc := defScope st_c_law) (by decide +kernel)) (fun _ _ _ _ _ => (pg_name (i := 16) sc_c_law.nd (by rfl) (by first | exact Or.inl rfl | exact Or.inr rfl))) (fun _ _ _ _ _ => (pts_one (pt_cmpR op_lt (pe_ix ix_list (pv 13) (pv 16) (fun _ _ => rfl)) (pe_ix ix_list (pv 13) (pe_op op_sub (pv 16) pe_int) (fun _ _ => rfl)) (nomark _)))) (fun _ _ _ _ _ => pe_int) (by walk_at "blk") (by walk_at "blk") (by walk_at "blk")) pa_nil)) pe_int (nomark _)))
    (Evl.pss_cut (ps_if (pt_cmpR (op_neD hr.units) (pe_call G_c_law_plain (hr.mono (by decide)) (by rfl) T.m_c_law_plain T.F_c_law_plain.kp T.b_c_law_plain .nil passL (pa_cons (pe_meth0 (pv 6) T.cl_Tariff T.mt_c_Tariff_is_rising G_c_Tariff_is_rising (hr.mono (by decide)) T.b_c_Tariff_is_rising .nil passL) pa_nil)) (pe_call G_c_law_plain (hr.mono (by decide)) (by rfl) T.m_c_law_plain T.F_c_law_plain.kp T.b_c_law_plain .nil passL (pa_cons (pv 14) pa_nil)) (nomark _)) (pss_one (ps_ret pe_bl)) pss_nil)
    (pss_cons (ps_set (i := 15) sc_c_law.nd (by rfl) (Or.inl rfl) (pe_lst (pa_cons (pe_call G_c_law_why (hr.mono (by decide)) (by rfl) T.m_c_law_why T.F_c_law_why.kp T.b_c_law_why .nil passL (pa_cons pe_int (pa_cons (pe_un un_neg pe_int) (pa_cons (pe_lst (pa_cons (pe_tup (pa_cons pe_int (pa_cons pe_int pa_nil))) pa_nil)) pa_nil)))) (pa_cons (pe_call G_c_law_why (hr.mono (by decide)) (by rfl) T.m_c_law_why T.F_c_law_why.kp T.b_c_law_why .nil passL (pa_cons pe_int (pa_cons pe_int (pa_cons (pe_lst (pa_cons (pe_tup (pa_cons pe_int (pa_cons (pe_un un_neg pe_int) pa_nil))) (pa_cons (pe_tup (pa_cons pe_int (pa_cons pe_int pa_nil))) pa_nil))) pa_nil)))) (pa_cons (pe_call G_c_law_why (hr.mono (by decide)) (by rfl) T.m_c_law_why T.F_c_law_why.kp T.b_c_law_why .nil passL (pa_cons pe_int (pa_cons pe_int (pa_cons (pe_lst (pa_cons (pe_tup (pa_cons pe_int (pa_cons pe_int pa_nil))) (pa_cons (pe_tup (pa_cons pe_int (pa_cons pe_int pa_nil))) pa_nil))) pa_nil)))) (pa_cons (pe_call G_c_law_why (hr.mono (by decide)) (by rfl) T.m_c_law_why T.F_c_law_why.kp T.b_c_law_why .nil passL (pa_cons pe_int (pa_cons pe_int (pa_cons (pe_lst (pa_cons (pe_tup (pa_cons pe_int (pa_cons pe_int pa_nil))) pa_nil)) pa_nil)))) pa_nil))))))
    (pss_cons (ps_set (i := 15) sc_c_law.nd (by rfl) (Or.inl rfl) (pe_op op_cat (pv 15) (pe_lst (pa_cons (pe_call G_c_law_why (hr.mono (by decide)) (by rfl) T.m_c_law_why T.F_c_law_why.kp T.b_c_law_why .nil passL (pa_cons pe_int (pa_cons pe_int (pa_cons (pe_lst (pa_cons (pe_tup (pa_cons pe_int (pa_cons pe_int pa_nil))) (pa_cons (pe_tup (pa_cons pe_int (pa_cons pe_int pa_nil))) pa_nil))) pa_nil)))) (pa_cons (pe_call G_c_law_why (hr.mono (by decide)) (by rfl) T.m_c_law_why T.F_c_law_why.kp T.b_c_law_why .nil passL (pa_cons pe_int (pa_cons (pv 6) (pa_cons (pe_un un_neg pe_int) pa_nil)))) (pa_cons (pe_call G_c_law_why (hr.mono (by decide)) (by rfl) T.m_c_law_why T.F_c_law_why.kp T.b_c_law_why .nil passL (pa_cons pe_int (pa_cons (pv 6) (pa_cons (pe_tup (pa_cons pe_int (pa_cons pe_int pa_nil))) pa_nil)))) (pa_cons (pe_call G_c_law_why (hr.mono (by decide)) (by rfl) T.m_c_law_why T.F_c_law_why.kp T.b_c_law_why .nil passL (pa_cons pe_int (pa_cons (pv 6) (pa_cons (pe_tup (pa_cons (pe_un un_neg pe_int) (pa_cons pe_int pa_nil))) pa_nil)))) pa_nil)))))))
    (pss_one (ps_ret (pe_cmpR (op_eqD hr.units) (pv 15) (pe_lst (pa_cons pe_str (pa_cons pe_str (pa_cons pe_str (pa_cons pe_str (pa_cons pe_str (pa_cons pe_str (pa_cons pe_str (pa_cons pe_str pa_nil))))))))) (nomark _))))))))))))))))))))))))), ?_⟩
    refine ⟨_, rfl, sa, ns, 30, 14, rfl, hS, by omega, by decide, by decide, by decide, by decide, fun D0 p H0 hp s0 hd0 => ?_⟩
    have K0 : Dk (fun _ => none) H0 p D0 := ⟨rfl, same_none, hd0⟩
    refine ⟨_, rfl, take_q K0 (by decide) fun pr H1 pr0 pr1 K1 => ?_⟩
    refine ⟨_, rfl, sp_c_law_steps_use ⟨p, D0.tail, rfl, K1.hd, fun H2 D2 l rs ps sb h2 hl0 hl hR hn ha hz => ?_⟩⟩
    have K2 : Dk (fun _ => none) H2 p D2 := ⟨rfl, same_none, h2⟩
    have nlp : l ≠ p := fun w => by rw [w, K1.hd] at hl0; cases hl0
    refine ⟨fun σ H' => ∃ (l : Addr) (v4 : Option V) (D' : List Int) (rs : List V) (ps : List (Int × Int)), σ = [some (.ref sa), some (.ref p), some (.int pr), some (.ref l), v4, none, none, none, none, none, none, none, none, none, none, none, none, none, none] ∧ H' p = some (dk D') ∧ l ≠ p ∧ H' l = some (.lst rs) ∧ Rws K (del H' p) rs ps ∧ ps.length ≤ 4 ∧ asc ps = true ∧ (∀ z ∈ ps, 1 ≤ z.1 ∧ z.1 ≤ 100 ∧ 0 ≤ z.2 ∧ z.2 < 4000), ?_, ?_⟩
    · refine ⟨_, rfl, take_q K2.freeze (by decide) fun a3 H3 a30 a31 K3 => ?_⟩
      have hl3 := K3.get nlp hl
      have sD : Same (del H2 p) (del H3 p) := fun c o e => del_some (K3.sm c o e) (del_of e).2
      have hR3 := dpAll_same sD _ _ hR
      refine ⟨rfl, _, rfl, ?_⟩
      refine ite2 (fun c => ?_) (fun c => ?_)
      rotate_left
      · exact ⟨l, none, _, rs, ps, rfl, K3.hd, nlp, hl3, hR3, hn, ha, fun z hz' => by obtain ⟨b1, b2, b3, b4⟩ := hz z hz'; exact ⟨b1, b2, b3, by omega⟩⟩
      have rl := rws_len hR3
      have hR3' : Rws K H3 rs ps := dpAll_same (fun c o e => (del_of e).1) _ _ hR3
      refine ⟨_, rfl, l, rfl, ⟨_, SqL.of hl3⟩, fun E1 hE1 => ?_⟩
      refine lc_fn (walk_list (xs := rs)) (fun i => some (V.int (ps.getD i (0, 0)).2)) (by omega) hE1 (fun H s => SqL.of (s _ _ hl3)) ?_ ?_
      · rintro i v H4 H5 R N hi s4 ⟨rfl, hv⟩ hRR hN
        obtain ⟨q1, z1, rfl, hz1, hq1⟩ := rws_at hR3' hv
        refine ⟨q1, _, rfl, s4.tup hq1, rfl, _, _, rfl, _, _, rfl, rfl, rfl, ?_⟩
        refine ⟨_, rfl, hRR _ _ ?_ (Same.refl _)⟩
        rw [List.getD_eq_getElem?_getD, hz1]
        rfl
      intro H4 s4 hE
      rw [fm_some, rl, range_at ps (fun z => V.int z.2) _ (fun i z e => by rw [List.getD_eq_getElem?_getD, e]; rfl)] at hE
      refine ⟨E1, ps.map Prod.snd, rfl, SqL.of (by rw [hE, List.map_map]; rfl), fun os lo hperm _ hlo => ?_⟩
      have s5 := s4.then_new (o := .lst (os.map V.int)) hlo
      have hO : (upd H4 lo (.lst (os.map V.int)) : Hp) lo = some (.lst (os.map V.int)) := upd_same
      generalize (upd H4 lo (.lst (os.map V.int)) : Hp) = H5 at s5 hO ⊢
      have ol : os.length = ps.length := by rw [hperm.length_eq, List.length_map]
      have hl5 := s5 _ _ hl3
      refine ⟨_, rfl, l, _, rfl, .inl (SqL.of hl5), _, rfl, by omega, by omega, fun E2 hE2 => ?_⟩
      have npE : p ≠ E2 := ne_of_none (s5 _ _ K3.hd) hE2
      have hn5 : Same H3 H5 := s5
      have hpE : del H5 p E2 = none := by rw [del_ne npE.symm]; exact hE2
      have oat : ∀ i, i < ps.length → (os.map V.int)[i]? = some (.int (os.getD i 0)) := fun i hi => by
        rw [List.getElem?_map, List.getD_eq_getElem?_getD, List.getElem?_eq_getElem (by omega)]
        rfl
      refine lc_range (lo := 0) (n := ((rs.length : Int)).toNat) (fun i H' => ∃ qs : List V, Same H5 H' ∧ H' E2 = some (.lst qs) ∧ Rws K (del (del H' p) E2) qs ((List.range i).map fun j => ((ps.getD j (0, 0)).1, pr + os.getD j 0))) ?_ ?_ ?_
      · exact ⟨[], Same.new hE2, upd_same, .nil⟩
      · rintro i H6 hi ⟨qs, s6, hq6, hR6⟩
        have hi' : i < rs.length := by omega
        have hv := List.getElem?_eq_getElem (l := rs) (i := i) hi'
        obtain ⟨q1, z1, ev, hz1, hq1⟩ := rws_at hR3' hv
        rw [ev] at hv
        have g1 : ps.getD i (0, 0) = z1 := by rw [List.getD_eq_getElem?_getD, hz1]; rfl
        have sx := s5.trans s6
        have ql := rws_len hR6
        rw [List.length_map, List.length_range] at ql
        have ei : (0 + (i : Int)) = i := Int.zero_add _
        refine ⟨rfl, ?_⟩
        refine ⟨_, rfl, _, rfl, l, _, _, .ref q1, rfl, rfl, SqL.of (sx _ _ hl3), atI_nat' ei hv, q1, _, _, _, rfl, rfl, sx.tup hq1, rfl, ?_⟩
        refine ⟨_, rfl, _, rfl, _, rfl, lo, _, _, _, rfl, rfl, SqL.of (s6 _ _ hO), atI_nat' ei (oat i (by omega)), _, _, rfl, rfl, by show 2 ≤ sizeLine; decide, fun tq htq => ?_⟩
        have s7 := s6.then_new (o := .tup [.int z1.1, .int (pr + os.getD i 0)]) htq
        have ntE : tq ≠ E2 := fun w => by rw [w, hq6] at htq; cases htq
        have ntp : tq ≠ p := fun w => by rw [w, s6 _ _ (s5 _ _ K3.hd)] at htq; cases htq
        refine ⟨qs, by rw [upd_ne ntE.symm]; exact hq6, small1000000 (by omega), qs ++ [.ref tq], s7.mut hE2, upd_same, ?_⟩
        show DpAll K _ (qs ++ [.ref tq]) (((List.range (i + 1)).map fun j => ((ps.getD j (0, 0)).1, pr + os.getD j 0)).map pd)
        rw [List.range_succ, List.map_append, List.map_append]
        refine dpAll_app (dpAll_same (fun c o e => ?_) _ _ hR6) (.cons (dp_pd (z := ((ps.getD i (0, 0)).1, pr + os.getD i 0)) (SqT.of (del_some (del_some ?_ ntp) ntE))) .nil)
        · obtain ⟨e1, e2⟩ := del_of e
          obtain ⟨e3, e4⟩ := del_of e1
          refine del_some (del_some ?_ e4) e2
          rw [upd_ne e2, upd_ne (ne_of_none e3 htq)]
          exact e3
        · rw [upd_ne ntE, upd_same, g1]
      rintro H6 ⟨qs, s6, hq6, hR6⟩
      have er : ((rs.length : Int)).toNat = ps.length := by omega
      rw [er] at hR6
      have ek : ks ((List.range ps.length).map fun j => ((ps.getD j (0, 0)).1, pr + os.getD j 0)) = ks ps := by
        unfold ks
        rw [List.map_map]
        exact range_at ps Prod.fst _ fun i x e => by show (ps.getD i (0, 0)).1 = _; rw [List.getD_eq_getElem?_getD, e]; rfl
      refine ⟨E2, some (.ref lo), _, qs, _, rfl, s6 _ _ (s5 _ _ K3.hd), npE.symm, hq6, dpAll_same (fun c o e => (del_of e).1) _ _ hR6, by rw [List.length_map, List.length_range]; exact hn, by unfold asc; rw [ek]; exact ha, fun z hz' => ?_⟩
      obtain ⟨j, hj, rfl⟩ := List.mem_map.mp hz'
      have hj' := List.mem_range.mp hj
      have hpj := List.getElem?_eq_getElem (l := ps) (i := j) hj'
      obtain ⟨b1, b2, b3, b4⟩ := hz _ (List.mem_of_getElem? hpj)
      have g1 : ps.getD j (0, 0) = ps[j] := by rw [List.getD_eq_getElem?_getD, hpj]; rfl
      have om : os.getD j 0 ∈ os := by
        rw [List.getD_eq_getElem?_getD, List.getElem?_eq_getElem (by omega)]
        exact List.getElem_mem _
      obtain ⟨w, hw, e⟩ := List.mem_map.mp (hperm.mem_iff.mp om)
      obtain ⟨c1, c2, c3, c4⟩ := hz w hw
      rw [g1, ← e]
      exact ⟨b1, b2, by show 0 ≤ pr + w.2; omega, by show pr + w.2 < 4000; omega⟩
    rintro σ H6 ⟨l2, v4, D3, rs2, ps2, rfl, h6, nlp2, hl6, hR6, hn6, ha6, hz6⟩
    have hR6' : Rws K H6 rs2 ps2 := dpAll_same (fun c o e => (del_of e).1) _ _ hR6
    have hsm : smP pr ps2 := ⟨by omega, by omega, fun z hz => by obtain ⟨b1, b2, b3, b4⟩ := hz6 z hz; omega⟩
    refine ⟨_, rfl, l2, _, rfl, .inl (SqL.of hl6), fun lh hlh => ?_⟩
    have s7 := Same.new (o := .lst rs2) hlh
    have hH7 : (upd H6 lh (.lst rs2) : Hp) lh = some (.lst rs2) := upd_same
    generalize (upd H6 lh (.lst rs2) : Hp) = H7 at s7 hH7 ⊢
    refine ⟨_, rfl, _, rfl, fun x dx hx hdx hne => ?_⟩
    have s8 : Same H7 (upd (upd H7 dx (.own x)) x (.ins a.C_Tariff dx [])) := (Same.new hdx).then_new (by rw [upd_ne (Ne.symm hne)]; exact hx)
    refine sp_c_Tariff_init_use ⟨x, lh, dx, pr, rs2, ps2, rfl, upd_same, SqL.of (s8 _ _ hH7), dpAll_same (s7.trans s8) _ _ hR6', hsm, fun z => ?_, fun _ z => ?_, fun _ _ H9 r sb hr0 hT => ⟨rfl, ?_⟩⟩
    · rw [neg_no pr0 fun z hz => (hz6 z hz).2.2.1] at z
      cases z
    · rw [bad_no ha6 fun z hz => (hz6 z hz).1] at z
      cases z
    have s9 : Same H7 H9 := fun b o e => sb b o (ne_of_none e hx) (s8 b o e)
    have nr : r ≠ lh := fun w => by rw [w, s8 _ _ hH7] at hr0; cases hr0
    have hT9 := hT.del (s9 _ _ hH7) nr
    have nlh : p ≠ lh := ne_of_none h6 hlh
    have nl2 : l2 ≠ lh := ne_of_none hl6 hlh
    -- what stays from here on: all but the list handed and the deck
    have hG : Same H6 (del H9 lh) := fun b o e => del_some (s9 b o (s7 b o e)) (ne_of_none e hlh)
    refine ⟨_, rfl, .inl ⟨rfl, _, SqL.of (s9 _ _ hH7)⟩, by show 2 ≤ sizeLine; decide, fun tq htq => ?_⟩
    have rl2 := rws_len hR6
    refine ⟨lh, _, _, rfl, rfl, by rw [upd_ne (ne_of_none (s9 _ _ hH7) htq)]; exact s9 _ _ hH7, small1000000 (by omega), ?_⟩
    have s10 : Same (del H9 lh) (upd (upd H9 tq (.tup [.int 99, .int 1])) lh (.lst (rs2 ++ [.ref tq]))) := fun b o e => by
      obtain ⟨e1, e2⟩ := del_of e
      rw [upd_ne e2, upd_ne (ne_of_none e1 htq)]
      exact e1
    generalize (upd (upd H9 tq (.tup [.int 99, .int 1])) lh (.lst (rs2 ++ [.ref tq])) : Hp) = H10 at s10 ⊢
    have h9p := s9 _ _ (s7 _ _ h6)
    have nrp : r ≠ p := fun w => by rw [w, s8 _ _ (s7 _ _ h6)] at hr0; cases hr0
    have hpl : del H9 lh p = some (dk D3) := del_some h9p nlh
    have hTG : Tar K a.C_Tariff (del (del H9 lh) p) x pr ps2 := (hT9.del hpl nrp).tar
    have hlG : del (del H9 lh) p l2 = some (.lst rs2) := del_some (del_some (s9 _ _ (s7 _ _ hl6)) nl2) nlp2
    have hRG : Rws K (del (del H9 lh) p) rs2 ps2 := dpAll_same (fun b o e => by
      obtain ⟨e1, e2⟩ := del_of e
      exact del_some (hG _ _ e1) e2) _ _ hR6
    have K10 : Dk (del (del H9 lh) p) H10 p D3 := ⟨del_same, fun b o e => s10 _ _ (del_of e).1, s10 _ _ hpl⟩
    generalize (del (del H9 lh) p : Hp) = G at hTG hlG hRG K10
    have hT10 := hTG.same K10.sm
    obtain ⟨dx1, r1, rs1, i1, i2, i3⟩ := id hT10
    refine ⟨_, rfl, x, dx1, _, rfl, i1, rfl, ?_⟩
    refine sp_c_Tariff_steps_use ⟨x, pr, ps2, rfl, hT10, fun ls rs3 hls hR3 => ?_⟩
    refine ⟨by show 1 ≤ sizeLine; decide, fun la hla => ?_⟩
    have s11 := Same.new (o := .lst rs3) hls
    have s12 := s11.then_new (o := .lst [.ref ls]) hla
    have nal : la ≠ ls := fun w => by rw [w, upd_same] at hla; cases hla
    have hLs : (upd (upd H10 ls (.lst rs3)) la (.lst [.ref ls]) : Hp) ls = some (.lst rs3) := by rw [upd_ne (Ne.symm nal)]; exact upd_same
    have hla0 : H10 la = none := s11.free hla
    refine ⟨.ref la, la :: ([ls] ++ []), rfl, .lst upd_same (by show 1 ≤ 1000; decide) (.cons (.lst hLs (by rw [rws_len hR3]; omega) (rws_dcs (dpAll_same s12 _ _ hR3)) (by simp)) (.nil _) (fun b _ hb => by cases hb)) (by simp [nal]), fun H13 hb => ?_⟩
    have s13 : Same H10 H13 := fun b o e => by
      have n1 : b ≠ la := ne_of_none e hla0
      have n2 : b ≠ ls := ne_of_none e hls
      exact hb b o (by simp [n1, n2]) (s12 b o e)
    have K13 := K10.same s13
    have okA : okD 4 (.list [.int pr, .list (ps2.map pd)]) = true := by
      have := okD_rows (ps := ps2) (by omega)
      simp [okD, okDs, this] at this ⊢
      exact this
    refine ⟨fun σ H' => σ = [some (.ref sa), some (.ref p), some (.int pr), some (.ref l2), v4, some (.ref lh), some (.ref x), none, none, none, none, none, none, none, none, none, none, none, none] ∧ Dk G H' p D3, ?_, ?_⟩
    · obtain ⟨dx2, r2, rs4, j1, j2, j3⟩ := hTG.same K13.sm
      refine ⟨_, rfl, x, a.C_Tariff, dx2, _, .int pr, rfl, j1, T.cl_Tariff, T.na_Tariff_price, rfl, ?_⟩
      refine ⟨_, rfl, x, dx2, _, rfl, j1, rfl, ?_⟩
      refine sp_c_Tariff_steps_use ⟨x, pr, ps2, rfl, hTG.same K13.sm, fun ls2 rs5 hls2 hR5 => ?_⟩
      have s14 := Same.new (o := .lst rs5) hls2
      refine ⟨by show 2 ≤ sizeLine; decide, fun lb hlb => ?_⟩
      have s15 := Same.new (o := .lst [.int pr, .ref ls2]) hlb
      refine ⟨.ref lb, .list [.int pr, .list (ps2.map pd)], rfl, .lst (SqL.of upd_same) (.cons (.int _) (.cons (.lst (SqL.of (s15 _ _ upd_same)) (dpAll_same (s14.trans s15) _ _ hR5)) .nil)), okA, fun v16 H16 s16 dn16 => ?_⟩
      have K16 := ((K13.same s14).same s15).same s16
      refine ⟨_, rfl, _, rfl, by show 2 ≤ sizeLine; decide, fun lc hlc => ?_⟩
      have s17 := Same.new (o := .lst [.int pr, .ref l2]) hlc
      refine ⟨.ref lc, .list [.int pr, .list (ps2.map pd)], rfl, .lst (SqL.of upd_same) (.cons (.int _) (.cons (.lst (SqL.of (s17 _ _ (K16.sm _ _ hlG))) (dpAll_same (K16.sm.trans s17) _ _ hRG)) .nil)), okA, fun v18 H18 s18 dn18 => ?_⟩
      exact plain_test 4 dn16 (s17.trans s18) dn18 okA (by decide) ⟨rfl, (K16.same s17).same s18⟩
    rintro σ H20 ⟨rfl, K20⟩
    have okI : ∀ z : Int, okD 4 (.int z) = true := fun z => by simp [okD]
    refine ⟨12, rfl, RgOk.of_le (by decide) (by decide) (by decide) (by decide), fun lq hlq => ?_⟩
    have e12 : rgV 0 12 = [V.int 0, .int 1, .int 2, .int 3, .int 4, .int 5, .int 6, .int 7, .int 8, .int 9, .int 10, .int 11] := by decide +kernel
    rw [e12]
    have hQ : (upd H20 lq (.lst [V.int 0, .int 1, .int 2, .int 3, .int 4, .int 5, .int 6, .int 7, .int 8, .int 9, .int 10, .int 11]) : Hp) lq = _ := upd_same
    have K21 := K20.same (Same.new (o := .lst [V.int 0, .int 1, .int 2, .int 3, .int 4, .int 5, .int 6, .int 7, .int 8, .int 9, .int 10, .int 11]) hlq)
    have nqp : lq ≠ p := fun w => by rw [w, K20.hd] at hlq; cases hlq
    generalize (upd H20 lq (.lst [V.int 0, .int 1, .int 2, .int 3, .int 4, .int 5, .int 6, .int 7, .int 8, .int 9, .int 10, .int 11]) : Hp) = H21 at hQ K21 ⊢
    refine ⟨_, rfl, take_q K21.freeze (by decide) fun z H22 z0 z1 K22 => ?_⟩
    have hQ2 := K22.get nqp hQ
    have K22 : Dk G H22 p D3.tail := K22.keep K21.nd (fun b o e => K22.sm b o (K21.under b o e))
    refine ⟨by show 1 ≤ sizeLine; decide, fun lr hlr => ?_⟩
    have s23 := Same.new (o := .lst [.int z]) hlr
    refine ⟨lq, lr, _, _, rfl, rfl, s23 _ _ hQ2, upd_same, by show 13 ≤ sizeLine; decide, fun lt hlt => ?_⟩
    have K24 := (K22.same s23).new (o := .lst ([V.int 0, .int 1, .int 2, .int 3, .int 4, .int 5, .int 6, .int 7, .int 8, .int 9, .int 10, .int 11] ++ [.int z])) hlt
    have sG := Same.new (o := .lst ([V.int 0, .int 1, .int 2, .int 3, .int 4, .int 5, .int 6, .int 7, .int 8, .int 9, .int 10, .int 11] ++ [.int z])) ((K22.same s23).fresh hlt)
    have hLt : (upd G lt (.lst ([V.int 0, .int 1, .int 2, .int 3, .int 4, .int 5, .int 6, .int 7, .int 8, .int 9, .int 10, .int 11] ++ [.int z])) : Hp) lt = _ := upd_same
    have hall : ∀ v ∈ ([V.int 0, .int 1, .int 2, .int 3, .int 4, .int 5, .int 6, .int 7, .int 8, .int 9, .int 10, .int 11] ++ [.int z]), ∃ n : Int, v = .int n ∧ 0 ≤ n := by
      intro v hv
      simp only [List.cons_append, List.nil_append, List.mem_cons, List.not_mem_nil, or_false] at hv
      rcases hv with rfl | rfl | rfl | rfl | rfl | rfl | rfl | rfl | rfl | rfl | rfl | rfl | rfl
      all_goals exact ⟨_, rfl, by omega⟩
    generalize ([V.int 0, .int 1, .int 2, .int 3, .int 4, .int 5, .int 6, .int 7, .int 8, .int 9, .int 10, .int 11] ++ [.int z]) = lv at K24 sG hLt hall
    have hTG2 := hTG.same sG
    have hlG2 := sG _ _ hlG
    have hRG2 : Rws K (upd G lt (.lst lv)) rs2 ps2 := dpAll_same sG _ _ hRG
    generalize (upd G lt (.lst lv) : Hp) = G2 at K24 hLt hTG2 hlG2 hRG2
    refine ⟨lt, rfl, ⟨_, SqL.of (K24.sm _ _ hLt)⟩, for_it (walk_list (K := K) (a := lt) (xs := lv)) (fun i σ H' => ∃ v7 : Option V, σ = [some (.ref sa), some (.ref p), some (.int pr), some (.ref l2), v4, some (.ref lh), some (.ref x), v7, none, none, none, none, none, none, none, none, none, none, none] ∧ Dk G2 H' p D3.tail) ⟨none, rfl, K24⟩ (fun i σ H' _ ⟨_, _, e⟩ => SqL.of (e.sm _ _ hLt)) ?_ ?_⟩
    · rintro i v σ H25 H26 hi ⟨v7, rfl, K25⟩ ⟨rfl, hv⟩
      obtain ⟨n, rfl, hn0⟩ := hall v (List.mem_of_getElem? hv)
      have hT25 := hTG2.same K25.sm
      obtain ⟨dx2, r2, rs4, j1, j2, j3⟩ := id hT25
      refine ⟨_, rfl, x, dx2, _, rfl, j1, rfl, _, rfl, ?_⟩
      refine sp_c_Tariff_price_at_use ⟨x, pr, n, ps2, rfl, hT25, fun w => absurd hn0 (by omega), fun _ H27 s27 => ?_⟩
      refine ⟨.int _, .int _, rfl, .int _, okI _, fun v28 H28 s28 dn28 => ?_⟩
      have K28 := (K25.same s27).same s28
      refine ⟨_, rfl, _, rfl, _, rfl, ?_⟩
      refine sp_c_law_price_use ⟨l2, pr, n, rs2, ps2, rfl, SqL.of (K28.sm _ _ hlG2), dpAll_same K28.sm _ _ hRG2, fun H29 s29 => ?_⟩
      refine ⟨.int _, .int _, rfl, .int _, okI _, fun v30 H30 s30 dn30 => ?_⟩
      exact plain_test 4 dn28 (s29.trans s30) dn30 (okI _) (by decide) ⟨_, rfl, (K28.same s29).same s30⟩
    rintro σ H31 ⟨v7, rfl, K31⟩
    refine ⟨_, rfl, take_q K31 (by decide) fun fi H32 fi0 fi1 K32 => ?_⟩
    refine ⟨_, rfl, _, rfl, take_q K32 (by decide) fun a9 H33 a90 a91 K33 => ?_⟩
    refine ⟨_, _, rfl, rfl, ?_⟩
    obtain ⟨la2, hla2⟩ : ∃ w : Int, w = fi + a9 := ⟨_, rfl⟩
    have ela : (fun i j : Int => V.int (i + j)) fi a9 = V.int la2 := by rw [hla2]
    rw [ela]
    refine ⟨_, rfl, _, rfl, _, rfl, _, rfl, _, _, rfl, rfl, _, _, rfl, rfl, take_q K33 (by omega) fun a10 H34 a100 a101 K34 => ?_⟩
    refine ⟨_, _, rfl, rfl, ?_⟩
    obtain ⟨mi, hmi⟩ : ∃ w : Int, w = fi + a10 := ⟨_, rfl⟩
    have emi : (fun i j : Int => V.int (i + j)) fi a10 = V.int mi := by rw [hmi]
    rw [emi]
    generalize D3.tail.tail.tail.tail = D4 at K34
    refine ⟨_, rfl, _, rfl, _, _, rfl, ⟨by omega, by omega, by omega, by omega⟩, fun E4 hE4 => ?_⟩
    refine lc_fn (walk_range (lo := fi) (n := (la2 - fi).toNat)) (fun (i : Nat) => some (V.int (prF pr ps2 (fi + i)))) (by omega) hE4 (fun _ _ => trivial) ?_ ?_
    · rintro i v H35 H36 R N hi s35 ⟨rfl, hv⟩ hRR hN
      have hv2 : v = V.int (fi + i) := hv
      subst hv2
      refine ⟨rfl, ?_⟩
      refine ⟨_, rfl, _, rfl, _, rfl, ?_⟩
      have K35 := K34.same s35
      exact sp_c_law_price_use ⟨l2, pr, fi + i, rs2, ps2, rfl, SqL.of (K35.sm _ _ hlG2), dpAll_same K35.sm _ _ hRG2, fun H37 s37 => hRR _ _ rfl s37⟩
    intro H38 s38 hE
    rw [fm_some] at hE
    have K38 := K34.same s38
    refine ⟨E4, (List.range (la2 - fi).toNat).map fun (i : Nat) => prF pr ps2 (fi + i), rfl, SqL.of (by rw [hE, List.map_map]; rfl), ?_⟩
    have eS : ((List.range (la2 - fi).toNat).map fun (i : Nat) => prF pr ps2 (fi + i)).sum = S (prF pr ps2) fi la2 := rfl
    rw [eS]
    have su : ∀ (H : Hp) (Q : VK) (u v : Int), Tar K a.C_Tariff H x pr ps2 → 0 ≤ u → u ≤ v → v < 100 → (∀ H', Same H H' → Q (.int (S (prF pr ps2) u v)) H') → sp_c_Tariff_sum_of K a.C_Tariff a.C_InvalidMoney [.ref x, .int u, .int v] H Q E0 := fun H Q u v hT h1 h2 h3 h4 =>
      sp_c_Tariff_sum_of_use ⟨x, pr, u, v, ps2, rfl, hT, hsm, ha6, by omega, fun z => absurd ⟨h1, h2⟩ z, fun _ _ => h4⟩
    have tq : ∀ (H : Hp), Tar K a.C_Tariff H x pr ps2 → ∃ dx r rs, H x = some (.ins a.C_Tariff dx [("price", .int pr), ("_steps", .ref r)]) ∧ H r = some (.lst rs) ∧ Rws K H rs ps2 := fun H h => h
    obtain ⟨dx2, r2, rs4, j1, j2, j3⟩ := hTG2
    have hTG2 : Tar K a.C_Tariff G2 x pr ps2 := ⟨dx2, r2, rs4, j1, j2, j3⟩
    refine ⟨_, rfl, x, dx2, _, rfl, K38.sm _ _ j1, rfl, _, rfl, _, rfl, su _ _ fi la2 (hTG2.same K38.sm) fi0 (by omega) (by omega) fun H39 s39 => ?_⟩
    have K39 := K38.same s39
    refine ⟨_, rfl, x, dx2, _, rfl, K39.sm _ _ j1, rfl, _, rfl, _, rfl, su _ _ fi mi (hTG2.same K39.sm) fi0 (by omega) (by omega) fun H40 s40 => ?_⟩
    have K40 := K39.same s40
    refine ⟨_, rfl, x, dx2, _, rfl, K40.sm _ _ j1, rfl, _, rfl, _, rfl, su _ _ mi la2 (hTG2.same K40.sm) (by omega) (by omega) (by omega) fun H41 s41 => ?_⟩
    have K41 := K40.same s41
    refine ⟨_, _, rfl, rfl, ?_⟩
    refine ⟨_, rfl, x, dx2, _, rfl, K41.sm _ _ j1, rfl, _, rfl, _, rfl, su _ _ fi fi (hTG2.same K41.sm) fi0 (Int.le_refl _) (by omega) fun H42 s42 => ?_⟩
    have K42 := K41.same s42
    refine ⟨by show 3 ≤ sizeLine; decide, fun ltd hltd => ?_⟩
    have eadd : (fun i j : Int => V.int (i + j)) (S (prF pr ps2) fi mi) (S (prF pr ps2) mi la2) = V.int (S (prF pr ps2) fi la2) := by rw [S_add (prF pr ps2) (a := fi) (b := mi) (c := la2) (by omega) (by omega)]
    rw [eadd, S_self]
    generalize S (prF pr ps2) fi la2 = SS
    have hLtd : (upd H42 ltd (.lst [.int SS, .int SS, .int 0]) : Hp) ltd = some (.lst [.int SS, .int SS, .int 0]) := upd_same
    have K43 := K42.same (Same.new (o := .lst [.int SS, .int SS, .int 0]) hltd)
    generalize (upd H42 ltd (.lst [.int SS, .int SS, .int 0]) : Hp) = H43 at hLtd K43 ⊢
    have okT : okD 4 (.list [.int SS, .int SS, .int 0]) = true := by simp [okD, okDs]
    refine ⟨fun σ H' => σ = [some (.ref sa), some (.ref p), some (.int pr), some (.ref l2), v4, some (.ref lh), some (.ref x), v7, some (.int fi), some (.int la2), some (.int mi), some (.int SS), some (.ref ltd), none, none, none, none, none, none] ∧ Dk G2 H' p D4, ?_, ?_⟩
    · refine ⟨_, rfl, .ref ltd, .list [.int SS, .int SS, .int 0], rfl, .lst (SqL.of hLtd) (.cons (.int _) (.cons (.int _) (.cons (.int _) .nil))), okT, fun v44 H44 s44 dn44 => ?_⟩
      refine ⟨_, rfl, _, rfl, by show 3 ≤ sizeLine; decide, fun lx hlx => ?_⟩
      have s45 := Same.new (o := .lst [.int SS, .int SS, .int 0]) hlx
      refine ⟨.ref lx, .list [.int SS, .int SS, .int 0], rfl, .lst (SqL.of upd_same) (.cons (.int _) (.cons (.int _) (.cons (.int _) .nil))), okT, fun v46 H46 s46 dn46 => ?_⟩
      exact plain_test 4 dn44 (s45.trans s46) dn46 okT (by decide) ⟨rfl, ((K43.same s44).same s45).same s46⟩
    rintro σ H50 ⟨rfl, K50⟩
    refine ⟨_, rfl, by show 1 ≤ sizeLine; decide, fun la4 hla4 => ?_⟩
    have s51 := Same.new (o := .lst [.int pr]) hla4
    have hA : (upd H50 la4 (.lst [.int pr]) : Hp) la4 = some (.lst [.int pr]) := upd_same
    have K51 := K50.same s51
    generalize (upd H50 la4 (.lst [.int pr]) : Hp) = H51 at s51 hA K51 ⊢
    refine ⟨_, rfl, l2, rfl, ⟨_, SqL.of (K51.sm _ _ hlG2)⟩, fun E5 hE5 => ?_⟩
    refine lc_fn (walk_list (xs := rs2)) (fun i => some (V.int (ps2.getD i (0, 0)).2)) (by omega) hE5 (fun H s => SqL.of (s _ _ (K51.sm _ _ hlG2))) ?_ ?_
    · rintro i v H52 H53 R N hi s52 ⟨rfl, hv⟩ hRR hN
      obtain ⟨q1, z1, rfl, hz1, hq1⟩ := rws_at hRG2 hv
      refine ⟨q1, _, rfl, s52.tup (K51.sm.tup hq1), rfl, _, _, rfl, _, _, rfl, rfl, rfl, ?_⟩
      refine ⟨_, rfl, hRR _ _ ?_ (Same.refl _)⟩
      rw [List.getD_eq_getElem?_getD, hz1]
      rfl
    intro H54 s54 hE
    rw [fm_some, rl2, range_at ps2 (fun z => V.int z.2) _ (fun i z e => by rw [List.getD_eq_getElem?_getD, e]; rfl)] at hE
    refine ⟨la4, E5, _, _, rfl, rfl, s54 _ _ hA, hE, by rw [List.length_map]; exact Nat.le_of_lt (small1000000 (by show 1 + _ ≤ _; omega)), fun lp hlp => ?_⟩
    have ee : [V.int pr] ++ ps2.map (fun z => V.int z.2) = (pr :: ps2.map Prod.snd).map V.int := by
      rw [List.map_cons, List.map_map]
      rfl
    have hP : (upd H54 lp (.lst ([.int pr] ++ ps2.map (fun z => V.int z.2))) : Hp) lp = some (.lst ((pr :: ps2.map Prod.snd).map V.int)) := by rw [upd_same, ee]
    have K55 := (K51.same s54).same (Same.new (o := .lst ([.int pr] ++ ps2.map (fun z => V.int z.2))) hlp)
    generalize (upd H54 lp (.lst ([.int pr] ++ ps2.map (fun z => V.int z.2))) : Hp) = H55 at hP K55 ⊢
    have esl : (pr :: ps2.map Prod.snd).length = ps2.length + 1 := by simp only [List.length_cons, List.length_map]
    have isr : ∀ (H : Hp) (Q : VK), Tar K a.C_Tariff H x pr ps2 → (∀ H', Same H H' → Q (.bl (ris (pr :: ps2.map Prod.snd))) H') → sp_c_Tariff_is_rising K a.C_Tariff [.ref x] H Q E0 := fun H Q h1 h2 => sp_c_Tariff_is_rising_use ⟨x, pr, ps2, rfl, h1, by omega, h2⟩
    have rc := ris_count (pr :: ps2.map Prod.snd)
    generalize pr :: ps2.map Prod.snd = es at *
    have eml : (es.map V.int).length = es.length := List.length_map _
    have at1 : ∀ i : Nat, i < es.length → (es.map V.int)[i]? = some (.int (es.getD i 0)) := fun i hi => by
      rw [List.getElem?_map, List.getD_eq_getElem?_getD, List.getElem?_eq_getElem hi]
      rfl
    refine ⟨_, rfl, lp, _, rfl, .inl (SqL.of hP), ?_⟩
    rw [eml]
    refine ⟨1, (es.length : Int), rfl, ⟨by omega, by omega, by omega, by omega⟩, fun E6 hE6 => ?_⟩
    refine lc_fn (walk_range (lo := 1) (n := ((es.length : Int) - 1).toNat)) (fun (i : Nat) => if es.getD (1 + i) 0 < es.getD i 0 then some (V.int 1) else none) (by omega) hE6 (fun _ _ => trivial) ?_ ?_
    · rintro i v H56 H57 R N hi s56 ⟨rfl, hv⟩ hRR hN
      have hv2 : v = V.int (1 + (i : Nat)) := hv
      subst hv2
      refine ⟨rfl, ?_⟩
      refine ⟨_, rfl, _, rfl, lp, _, _, _, rfl, rfl, SqL.of (s56 _ _ hP), atI_nat' (j := 1 + i) (by omega) (at1 _ (by omega)), ?_⟩
      refine ⟨_, rfl, _, rfl, _, _, rfl, rfl, lp, _, _, _, rfl, rfl, SqL.of (s56 _ _ hP), atI_nat' (j := i) (by omega) (at1 _ (by omega)), _, _, rfl, rfl, _, rfl, ?_⟩
      refine ite2 (fun c => ?_) (fun c => ?_)
      · have c' : es.getD (1 + i) 0 < es.getD i 0 := of_decide_eq_true c
        exact hRR _ _ (by rw [if_pos c']) (Same.refl _)
      · have c' : ¬ es.getD (1 + i) 0 < es.getD i 0 := fun w => c (decide_eq_true w)
        exact hN _ (by rw [if_neg c']) (Same.refl _)
    intro H58 s58 hE6
    have K58 := K55.same s58
    refine ⟨E6, _, rfl, .inl (SqL.of hE6), rfl, ?_⟩
    rw [show ((es.length : Int) - 1).toNat = es.length - 1 by omega]
    generalize ((List.range (es.length - 1)).filterMap fun (i : Nat) => if es.getD (1 + i) 0 < es.getD i 0 then some (V.int 1) else none).length = cn at rc ⊢
    have ebr : decide (V.int (cn : Nat) = V.int 0) = ris es := by
      rw [Bool.eq_iff_iff, decide_eq_true_iff, ← rc]
      exact ⟨fun w => by have := V.int.inj w; omega, fun w => by rw [w]; rfl⟩
    rw [ebr]
    have okB : okD 4 (.bool (ris es)) = true := by simp [okD]
    refine ⟨fun σ H' => σ = [some (.ref sa), some (.ref p), some (.int pr), some (.ref l2), v4, some (.ref lh), some (.ref x), v7, some (.int fi), some (.int la2), some (.int mi), some (.int SS), some (.ref ltd), some (.ref lp), some (.bl (ris es)), none, none, none, none] ∧ Dk G2 H' p D4, ?_, ?_⟩
    · refine ⟨_, rfl, x, dx2, _, rfl, K58.sm _ _ j1, rfl, isr _ _ (hTG2.same K58.sm) fun H59 s59 => ?_⟩
      refine ⟨.bl _, .bool _, rfl, .bl _, okB, fun v60 H60 s60 dn60 => ?_⟩
      refine ⟨_, rfl, .bl _, .bool _, rfl, .bl _, okB, fun v61 H61 s61 dn61 => ?_⟩
      exact plain_test 4 dn60 s61 dn61 okB (by decide) ⟨rfl, ((K58.same s59).same s60).same s61⟩
    rintro σ N0 ⟨rfl, M0⟩
    refine ⟨_, rfl, ?_⟩
    refine ⟨by show 2 ≤ sizeLine; decide, fun t0_0 h0_0 => ?_⟩
    have u0_0 := Same.new (o := .tup [.int 0, .int 1]) h0_0
    have w0_0 : (upd N0 t0_0 (.tup [.int 0, .int 1]) : Hp) t0_0 = some (.tup [.int 0, .int 1]) := upd_same
    generalize (upd N0 t0_0 (.tup [.int 0, .int 1]) : Hp) = N0_0 at u0_0 w0_0 ⊢
    refine ⟨by show 1 ≤ sizeLine; decide, fun q0 hq0 => ?_⟩
    have u0 := Same.new (o := .lst [.ref t0_0]) hq0
    refine sp_c_law_why_use ⟨0, .int (-1), .ref q0, "price", rfl, by decide, .inl ⟨rfl, -1, q0, [.ref t0_0], [(0, 1)], rfl, rfl, SqL.of upd_same, (.cons (dp_pd (z := (0, 1)) (SqT.of (u0 _ _ w0_0))) .nil), by unfold smP; decide, .inl ⟨by decide, rfl⟩⟩, fun N1 x0 => ?_⟩
    have M1 := (((M0.same u0_0).same u0).same x0)
    skip
    refine ⟨_, rfl, by show 2 ≤ sizeLine; decide, fun t1_0 h1_0 => ?_⟩
    have u1_0 := Same.new (o := .tup [.int 2, .int (-1)]) h1_0
    have w1_0 : (upd N1 t1_0 (.tup [.int 2, .int (-1)]) : Hp) t1_0 = some (.tup [.int 2, .int (-1)]) := upd_same
    generalize (upd N1 t1_0 (.tup [.int 2, .int (-1)]) : Hp) = N1_0 at u1_0 w1_0 ⊢
    refine ⟨by show 2 ≤ sizeLine; decide, fun t1_1 h1_1 => ?_⟩
    have u1_1 := Same.new (o := .tup [.int 1, .int 1]) h1_1
    have w1_1 : (upd N1_0 t1_1 (.tup [.int 1, .int 1]) : Hp) t1_1 = some (.tup [.int 1, .int 1]) := upd_same
    generalize (upd N1_0 t1_1 (.tup [.int 1, .int 1]) : Hp) = N1_1 at u1_1 w1_1 ⊢
    refine ⟨by show 2 ≤ sizeLine; decide, fun q1 hq1 => ?_⟩
    have u1 := Same.new (o := .lst [.ref t1_0, .ref t1_1]) hq1
    refine sp_c_law_why_use ⟨0, .int (5), .ref q1, "price", rfl, by decide, .inl ⟨rfl, 5, q1, [.ref t1_0, .ref t1_1], [(2, -1), (1, 1)], rfl, rfl, SqL.of upd_same, (.cons (dp_pd (z := (2, -1)) (SqT.of (u1 _ _ (u1_1 _ _ w1_0)))) (.cons (dp_pd (z := (1, 1)) (SqT.of (u1 _ _ w1_1))) .nil)), by unfold smP; decide, .inl ⟨by decide, rfl⟩⟩, fun N2 x1 => ?_⟩
    have M2 := ((((M1.same u1_0).same u1_1).same u1).same x1)
    skip
    refine ⟨by show 2 ≤ sizeLine; decide, fun t2_0 h2_0 => ?_⟩
    have u2_0 := Same.new (o := .tup [.int 2, .int 1]) h2_0
    have w2_0 : (upd N2 t2_0 (.tup [.int 2, .int 1]) : Hp) t2_0 = some (.tup [.int 2, .int 1]) := upd_same
    generalize (upd N2 t2_0 (.tup [.int 2, .int 1]) : Hp) = N2_0 at u2_0 w2_0 ⊢
    refine ⟨by show 2 ≤ sizeLine; decide, fun t2_1 h2_1 => ?_⟩
    have u2_1 := Same.new (o := .tup [.int 2, .int 3]) h2_1
    have w2_1 : (upd N2_0 t2_1 (.tup [.int 2, .int 3]) : Hp) t2_1 = some (.tup [.int 2, .int 3]) := upd_same
    generalize (upd N2_0 t2_1 (.tup [.int 2, .int 3]) : Hp) = N2_1 at u2_1 w2_1 ⊢
    refine ⟨by show 2 ≤ sizeLine; decide, fun q2 hq2 => ?_⟩
    have u2 := Same.new (o := .lst [.ref t2_0, .ref t2_1]) hq2
    refine sp_c_law_why_use ⟨0, .int (5), .ref q2, "steps", rfl, by decide, .inl ⟨rfl, 5, q2, [.ref t2_0, .ref t2_1], [(2, 1), (2, 3)], rfl, rfl, SqL.of upd_same, (.cons (dp_pd (z := (2, 1)) (SqT.of (u2 _ _ (u2_1 _ _ w2_0)))) (.cons (dp_pd (z := (2, 3)) (SqT.of (u2 _ _ w2_1))) .nil)), by unfold smP; decide, .inr ⟨by decide, by decide, rfl⟩⟩, fun N3 x2 => ?_⟩
    have M3 := ((((M2.same u2_0).same u2_1).same u2).same x2)
    skip
    refine ⟨by show 2 ≤ sizeLine; decide, fun t3_0 h3_0 => ?_⟩
    have u3_0 := Same.new (o := .tup [.int 0, .int 1]) h3_0
    have w3_0 : (upd N3 t3_0 (.tup [.int 0, .int 1]) : Hp) t3_0 = some (.tup [.int 0, .int 1]) := upd_same
    generalize (upd N3 t3_0 (.tup [.int 0, .int 1]) : Hp) = N3_0 at u3_0 w3_0 ⊢
    refine ⟨by show 1 ≤ sizeLine; decide, fun q3 hq3 => ?_⟩
    have u3 := Same.new (o := .lst [.ref t3_0]) hq3
    refine sp_c_law_why_use ⟨0, .int (5), .ref q3, "steps", rfl, by decide, .inl ⟨rfl, 5, q3, [.ref t3_0], [(0, 1)], rfl, rfl, SqL.of upd_same, (.cons (dp_pd (z := (0, 1)) (SqT.of (u3 _ _ w3_0))) .nil), by unfold smP; decide, .inr ⟨by decide, by decide, rfl⟩⟩, fun N4 x3 => ?_⟩
    have M4 := (((M3.same u3_0).same u3).same x3)
    refine ⟨by show 4 ≤ sizeLine; decide, fun lb1 hlb1 => ?_⟩
    have y1 := Same.new (o := .lst [.str "price", .str "price", .str "steps", .str "steps"]) hlb1
    have hB1 : (upd N4 lb1 (.lst [.str "price", .str "price", .str "steps", .str "steps"]) : Hp) lb1 = some (.lst [.str "price", .str "price", .str "steps", .str "steps"]) := upd_same
    replace M4 := M4.same y1
    generalize (upd N4 lb1 (.lst [.str "price", .str "price", .str "steps", .str "steps"]) : Hp) = N4b at y1 hB1 M4 ⊢
    refine ⟨_, rfl, ?_⟩
    obtain ⟨N4, eN4⟩ : ∃ h : Hp, h = N4b := ⟨_, rfl⟩
    rw [← eN4] at hB1 M4 ⊢
    skip
    refine ⟨by show 2 ≤ sizeLine; decide, fun t4_0 h4_0 => ?_⟩
    have u4_0 := Same.new (o := .tup [.int 3, .int 1]) h4_0
    have w4_0 : (upd N4 t4_0 (.tup [.int 3, .int 1]) : Hp) t4_0 = some (.tup [.int 3, .int 1]) := upd_same
    generalize (upd N4 t4_0 (.tup [.int 3, .int 1]) : Hp) = N4_0 at u4_0 w4_0 ⊢
    refine ⟨by show 2 ≤ sizeLine; decide, fun t4_1 h4_1 => ?_⟩
    have u4_1 := Same.new (o := .tup [.int 2, .int 3]) h4_1
    have w4_1 : (upd N4_0 t4_1 (.tup [.int 2, .int 3]) : Hp) t4_1 = some (.tup [.int 2, .int 3]) := upd_same
    generalize (upd N4_0 t4_1 (.tup [.int 2, .int 3]) : Hp) = N4_1 at u4_1 w4_1 ⊢
    refine ⟨by show 2 ≤ sizeLine; decide, fun q4 hq4 => ?_⟩
    have u4 := Same.new (o := .lst [.ref t4_0, .ref t4_1]) hq4
    refine sp_c_law_why_use ⟨0, .int (5), .ref q4, "steps", rfl, by decide, .inl ⟨rfl, 5, q4, [.ref t4_0, .ref t4_1], [(3, 1), (2, 3)], rfl, rfl, SqL.of upd_same, (.cons (dp_pd (z := (3, 1)) (SqT.of (u4 _ _ (u4_1 _ _ w4_0)))) (.cons (dp_pd (z := (2, 3)) (SqT.of (u4 _ _ w4_1))) .nil)), by unfold smP; decide, .inr ⟨by decide, by decide, rfl⟩⟩, fun N5 x4 => ?_⟩
    have M5 := ((((M4.same u4_0).same u4_1).same u4).same x4)
    refine ⟨_, rfl, _, rfl, ?_⟩
    refine sp_c_law_why_use ⟨1, .ref x, .int (-1), "load", rfl, by decide, .inr (.inl ⟨rfl, x, pr, -1, ps2, rfl, rfl, hTG2.same M5.sm, by decide, rfl⟩), fun N6 x6 => ?_⟩
    have M6 := M5.same x6
    refine ⟨_, rfl, by show 2 ≤ sizeLine; decide, fun t6 h6' => ?_⟩
    have u6 := Same.new (o := .tup [.int 3, .int 2]) h6'
    refine sp_c_law_why_use ⟨2, .ref x, .ref t6, "load", rfl, by decide, .inr (.inr ⟨by decide, x, t6, pr, 3, 2, ps2, rfl, rfl, hTG2.same (M6.same u6).sm, hsm, ha6, by decide, SqT.of upd_same, by decide, rfl⟩), fun N7 x7 => ?_⟩
    have M7 := (M6.same u6).same x7
    refine ⟨_, rfl, _, rfl, by show 2 ≤ sizeLine; decide, fun t7 h7' => ?_⟩
    have u7 := Same.new (o := .tup [.int (-1), .int 2]) h7'
    refine sp_c_law_why_use ⟨2, .ref x, .ref t7, "load", rfl, by decide, .inr (.inr ⟨by decide, x, t7, pr, -1, 2, ps2, rfl, rfl, hTG2.same (M7.same u7).sm, hsm, ha6, by decide, SqT.of upd_same, by decide, rfl⟩), fun N8 x8 => ?_⟩
    refine ⟨by show 4 ≤ sizeLine; decide, fun lb2 hlb2 => ?_⟩
    have y2 := Same.new (o := .lst [.str "steps", .str "load", .str "load", .str "load"]) hlb2
    have hB2 := y2 _ _ (x8 _ _ (u7 _ _ (x7 _ _ (u6 _ _ (x6 _ _ (x4 _ _ (u4 _ _ (u4_1 _ _ (u4_0 _ _ hB1)))))))))
    refine ⟨lb1, lb2, _, _, rfl, rfl, hB2, upd_same, by show 8 ≤ sizeLine; decide, fun lf hlf => ?_⟩
    refine ⟨_, rfl, by show 8 ≤ sizeLine; decide, fun lg hlg => ?_⟩
    have y3 := Same.new (o := .lst [.str "price", .str "price", .str "steps", .str "steps", .str "steps", .str "load", .str "load", .str "load"]) hlg
    exact data_eq (d := .list [.str "price", .str "price", .str "steps", .str "steps", .str "steps", .str "load", .str "load", .str "load"]) (n := 1) (.lst (SqL.of (y3 _ _ upd_same)) (.cons (.str _) (.cons (.str _) (.cons (.str _) (.cons (.str _) (.cons (.str _) (.cons (.str _) (.cons (.str _) (.cons (.str _) .nil))))))))) (.lst (SqL.of upd_same) (.cons (.str _) (.cons (.str _) (.cons (.str _) (.cons (.str _) (.cons (.str _) (.cons (.str _) (.cons (.str _) (.cons (.str _) .nil))))))))) (by decide +kernel) (by decide) (k _)
theorem all_mk {l : PySem.W.OpenLaw} {w : World} {K : PySem.W.Frag} {h : Heap} {mg : Str → Option Value} {fa : Addr} (X : K.In h) (G : h.Ns mainGlobals mg) (hfa : mg "law" = some (.ref fa))
    {C_SlotError C_InvalidTime C_InvalidMoney C_Tariff : Addr}
    {f0 : Addr} {od0 an0 : Option Addr} {sl0 : Array (Option Value)} {oc0 kV0 dc0 pm0 cd0 ct0 : Value}
    {f1 : Addr} {od1 an1 : Option Addr} {sl1 : Array (Option Value)} {oc1 kV1 dc1 pm1 cd1 ct1 : Value}
    {f2 : Addr} {od2 an2 : Option Addr} {sl2 : Array (Option Value)} {oc2 kV2 dc2 pm2 cd2 ct2 : Value}
    {f3 : Addr} {od3 an3 : Option Addr} {sl3 : Array (Option Value)} {oc3 kV3 dc3 pm3 cd3 ct3 : Value}
    {f4 : Addr} {od4 an4 : Option Addr} {sl4 : Array (Option Value)} {oc4 kV4 dc4 pm4 cd4 ct4 : Value}
    {f5 : Addr} {od5 an5 : Option Addr} {sl5 : Array (Option Value)} {oc5 kV5 dc5 pm5 cd5 ct5 : Value}
    {f6 : Addr} {od6 an6 : Option Addr} {sl6 : Array (Option Value)} {oc6 kV6 dc6 pm6 cd6 ct6 : Value}
    {f7 : Addr} {od7 an7 : Option Addr} {sl7 : Array (Option Value)} {oc7 kV7 dc7 pm7 cd7 ct7 : Value}
    {f8 : Addr} {od8 an8 : Option Addr} {sl8 : Array (Option Value)} {oc8 kV8 dc8 pm8 cd8 ct8 : Value}
    {f9 : Addr} {od9 an9 : Option Addr} {sl9 : Array (Option Value)} {oc9 kV9 dc9 pm9 cd9 ct9 : Value}
    {f10 : Addr} {od10 an10 : Option Addr} {sl10 : Array (Option Value)} {oc10 kV10 dc10 pm10 cd10 ct10 : Value}
    {f11 : Addr} {od11 an11 : Option Addr} {sl11 : Array (Option Value)} {oc11 kV11 dc11 pm11 cd11 ct11 : Value}
    {f12 : Addr} {od12 an12 : Option Addr} {sl12 : Array (Option Value)} {oc12 kV12 dc12 pm12 cd12 ct12 : Value}
    {f13 : Addr} {od13 an13 : Option Addr} {sl13 : Array (Option Value)} {oc13 kV13 dc13 pm13 cd13 ct13 : Value}
    {f14 : Addr} {od14 an14 : Option Addr} {sl14 : Array (Option Value)} {oc14 kV14 dc14 pm14 cd14 ct14 : Value}
    {nm_InvalidTime q_InvalidTime : Str} {N_InvalidTime : Addr} {bs_InvalidTime bm_InvalidTime : List Value} {sn_InvalidTime : List Str} {sub_InvalidTime : List Value} {ab_InvalidTime : Bool} {col_InvalidTime : Option Bool} {dd_InvalidTime : Option Addr} {m0_InvalidTime m1_InvalidTime m2_InvalidTime m3_InvalidTime m5_InvalidTime : Option Value}
    {nm_InvalidMoney q_InvalidMoney : Str} {N_InvalidMoney : Addr} {bs_InvalidMoney bm_InvalidMoney : List Value} {sn_InvalidMoney : List Str} {sub_InvalidMoney : List Value} {ab_InvalidMoney : Bool} {col_InvalidMoney : Option Bool} {dd_InvalidMoney : Option Addr} {m0_InvalidMoney m1_InvalidMoney m2_InvalidMoney m3_InvalidMoney m5_InvalidMoney : Option Value}
    (g_SlotError : PySem.W.nsIn K mainGlobals "SlotError" = some (some (.ref C_SlotError)))
    (g_InvalidTime : PySem.W.nsIn K mainGlobals "InvalidTime" = some (some (.ref C_InvalidTime)))
    (g_InvalidMoney : PySem.W.nsIn K mainGlobals "InvalidMoney" = some (some (.ref C_InvalidMoney)))
    (g_Tariff : PySem.W.nsIn K mainGlobals "Tariff" = some (some (.ref C_Tariff)))
    (a0 : PySem.W.findIn K (.ref C_InvalidTime) "__init__" = some (some (.ref f0)))
    (l0 : K.lookup f0 = some ⟨oc0, od0, .func (PySem.W.fnOf "__init__" "InvalidTime.__init__" (defArgs st_c_InvalidTime_init) (defBody st_c_InvalidTime_init) (defScope st_c_InvalidTime_init) .none kV0 dc0 pm0 an0 cd0 ct0), sl0⟩)
    (c0 : PySem.W.codeIn K cd0 "InvalidTime.__init__" = true)
    (k0 : PySem.W.keepIn K (.ref f0) = true)
    (a1 : PySem.W.findIn K (.ref C_InvalidMoney) "__init__" = some (some (.ref f1)))
    (l1 : K.lookup f1 = some ⟨oc1, od1, .func (PySem.W.fnOf "__init__" "InvalidMoney.__init__" (defArgs st_c_InvalidMoney_init) (defBody st_c_InvalidMoney_init) (defScope st_c_InvalidMoney_init) .none kV1 dc1 pm1 an1 cd1 ct1), sl1⟩)
    (c1 : PySem.W.codeIn K cd1 "InvalidMoney.__init__" = true)
    (k1 : PySem.W.keepIn K (.ref f1) = true)
    (a2 : PySem.W.findIn K (.ref C_Tariff) "__init__" = some (some (.ref f2)))
    (l2 : K.lookup f2 = some ⟨oc2, od2, .func (PySem.W.fnOf "__init__" "Tariff.__init__" (defArgs st_c_Tariff_init) (defBody st_c_Tariff_init) (defScope st_c_Tariff_init) .none kV2 dc2 pm2 an2 cd2 ct2), sl2⟩)
    (c2 : PySem.W.codeIn K cd2 "Tariff.__init__" = true)
    (k2 : PySem.W.keepIn K (.ref f2) = true)
    (a3 : PySem.W.findIn K (.ref C_Tariff) "steps" = some (some (.ref f3)))
    (l3 : K.lookup f3 = some ⟨oc3, od3, .func (PySem.W.fnOf "steps" "Tariff.steps" (defArgs st_c_Tariff_steps) (defBody st_c_Tariff_steps) (defScope st_c_Tariff_steps) .none kV3 dc3 pm3 an3 cd3 ct3), sl3⟩)
    (c3 : PySem.W.codeIn K cd3 "Tariff.steps" = true)
    (k3 : PySem.W.keepIn K (.ref f3) = true)
    (a4 : PySem.W.findIn K (.ref C_Tariff) "price_at" = some (some (.ref f4)))
    (l4 : K.lookup f4 = some ⟨oc4, od4, .func (PySem.W.fnOf "price_at" "Tariff.price_at" (defArgs st_c_Tariff_price_at) (defBody st_c_Tariff_price_at) (defScope st_c_Tariff_price_at) .none kV4 dc4 pm4 an4 cd4 ct4), sl4⟩)
    (c4 : PySem.W.codeIn K cd4 "Tariff.price_at" = true)
    (k4 : PySem.W.keepIn K (.ref f4) = true)
    (a5 : PySem.W.findIn K (.ref C_Tariff) "sum_of" = some (some (.ref f5)))
    (l5 : K.lookup f5 = some ⟨oc5, od5, .func (PySem.W.fnOf "sum_of" "Tariff.sum_of" (defArgs st_c_Tariff_sum_of) (defBody st_c_Tariff_sum_of) (defScope st_c_Tariff_sum_of) .none kV5 dc5 pm5 an5 cd5 ct5), sl5⟩)
    (c5 : PySem.W.codeIn K cd5 "Tariff.sum_of" = true)
    (k5 : PySem.W.keepIn K (.ref f5) = true)
    (a6 : PySem.W.findIn K (.ref C_Tariff) "is_rising" = some (some (.ref f6)))
    (l6 : K.lookup f6 = some ⟨oc6, od6, .func (PySem.W.fnOf "is_rising" "Tariff.is_rising" (defArgs st_c_Tariff_is_rising) (defBody st_c_Tariff_is_rising) (defScope st_c_Tariff_is_rising) .none kV6 dc6 pm6 an6 cd6 ct6), sl6⟩)
    (c6 : PySem.W.codeIn K cd6 "Tariff.is_rising" = true)
    (k6 : PySem.W.keepIn K (.ref f6) = true)
    (a7 : PySem.W.nsIn K mainGlobals "_law_deck" = some (some (.ref f7)))
    (l7 : K.lookup f7 = some ⟨oc7, od7, .func (PySem.W.fnOf "_law_deck" "_law_deck" (defArgs st_c_law_deck) (defBody st_c_law_deck) (defScope st_c_law_deck) .none kV7 dc7 pm7 an7 cd7 ct7), sl7⟩)
    (c7 : PySem.W.codeIn K cd7 "_law_deck" = true)
    (k7 : PySem.W.keepIn K (.ref f7) = true)
    (a8 : PySem.W.nsIn K mainGlobals "_law_take" = some (some (.ref f8)))
    (l8 : K.lookup f8 = some ⟨oc8, od8, .func (PySem.W.fnOf "_law_take" "_law_take" (defArgs st_c_law_take) (defBody st_c_law_take) (defScope st_c_law_take) .none kV8 dc8 pm8 an8 cd8 ct8), sl8⟩)
    (c8 : PySem.W.codeIn K cd8 "_law_take" = true)
    (k8 : PySem.W.keepIn K (.ref f8) = true)
    (a9 : PySem.W.nsIn K mainGlobals "_law_plain" = some (some (.ref f9)))
    (l9 : K.lookup f9 = some ⟨oc9, od9, .func (PySem.W.fnOf "_law_plain" "_law_plain" (defArgs st_c_law_plain) (defBody st_c_law_plain) (defScope st_c_law_plain) .none kV9 dc9 pm9 an9 cd9 ct9), sl9⟩)
    (c9 : PySem.W.codeIn K cd9 "_law_plain" = true)
    (k9 : PySem.W.keepIn K (.ref f9) = true)
    (a10 : PySem.W.nsIn K mainGlobals "_law_spoil" = some (some (.ref f10)))
    (l10 : K.lookup f10 = some ⟨oc10, od10, .func (PySem.W.fnOf "_law_spoil" "_law_spoil" (defArgs st_c_law_spoil) (defBody st_c_law_spoil) (defScope st_c_law_spoil) .none kV10 dc10 pm10 an10 cd10 ct10), sl10⟩)
    (c10 : PySem.W.codeIn K cd10 "_law_spoil" = true)
    (k10 : PySem.W.keepIn K (.ref f10) = true)
    (a11 : PySem.W.nsIn K mainGlobals "_law_steps" = some (some (.ref f11)))
    (l11 : K.lookup f11 = some ⟨oc11, od11, .func (PySem.W.fnOf "_law_steps" "_law_steps" (defArgs st_c_law_steps) (defBody st_c_law_steps) (defScope st_c_law_steps) .none kV11 dc11 pm11 an11 cd11 ct11), sl11⟩)
    (c11 : PySem.W.codeIn K cd11 "_law_steps" = true)
    (k11 : PySem.W.keepIn K (.ref f11) = true)
    (a12 : PySem.W.nsIn K mainGlobals "_law_why" = some (some (.ref f12)))
    (l12 : K.lookup f12 = some ⟨oc12, od12, .func (PySem.W.fnOf "_law_why" "_law_why" (defArgs st_c_law_why) (defBody st_c_law_why) (defScope st_c_law_why) .none kV12 dc12 pm12 an12 cd12 ct12), sl12⟩)
    (c12 : PySem.W.codeIn K cd12 "_law_why" = true)
    (k12 : PySem.W.keepIn K (.ref f12) = true)
    (a13 : PySem.W.nsIn K mainGlobals "_law_price" = some (some (.ref f13)))
    (l13 : K.lookup f13 = some ⟨oc13, od13, .func (PySem.W.fnOf "_law_price" "_law_price" (defArgs st_c_law_price) (defBody st_c_law_price) (defScope st_c_law_price) .none kV13 dc13 pm13 an13 cd13 ct13), sl13⟩)
    (c13 : PySem.W.codeIn K cd13 "_law_price" = true)
    (k13 : PySem.W.keepIn K (.ref f13) = true)
    (a14 : PySem.W.nsIn K mainGlobals "law" = some (some (.ref f14)))
    (l14 : K.lookup f14 = some ⟨oc14, od14, .func (PySem.W.fnOf "law" "law" (defArgs st_c_law) (defBody st_c_law) (defScope st_c_law) .none kV14 dc14 pm14 an14 cd14 ct14), sl14⟩)
    (c14 : PySem.W.codeIn K cd14 "law" = true)
    (k14 : PySem.W.keepIn K (.ref f14) = true)
    (b1_SlotError : PySem.W.specialIn K (.ref C_SlotError) "__getattribute__" = some (some (.builtin "type.__getattribute__")))
    (b2_SlotError : PySem.W.readsIn K C_SlotError (.type "type") = true)
    (b3_SlotError : PySem.W.findCls K (.ref C_SlotError) (.type "type") "__init__" = some (.val (.builtin "ValueError.__init__")))
    (x_InvalidTime : K.lookup C_InvalidTime = some (excClassObj nm_InvalidTime q_InvalidTime C_InvalidTime N_InvalidTime bs_InvalidTime bm_InvalidTime true sn_InvalidTime sub_InvalidTime ab_InvalidTime col_InvalidTime dd_InvalidTime m0_InvalidTime m1_InvalidTime m2_InvalidTime m3_InvalidTime m5_InvalidTime "ValueError.__new__"))
    (rv_InvalidTime : PySem.HandSPX.refsVE bm_InvalidTime = true)
    (sa_InvalidTime : PySem.W.findIn K (.ref C_InvalidTime) "__setattr__" = some (some (.builtin "object.__setattr__")))
    (ga_InvalidTime : PySem.W.findIn K (.ref C_InvalidTime) "__getattribute__" = some (some (.builtin "BaseException.__getattribute__")))
    (gg_InvalidTime : PySem.W.findIn K (.ref C_InvalidTime) "__getattr__" = some none)
    (kC_InvalidTime : PySem.W.keepIn K (.ref C_InvalidTime) = true)
    (eC_InvalidTime : PySem.W.subIn K (.ref C_InvalidTime) (.type "BaseException") = some true)
    (tC_InvalidTime : PySem.W.typeIn K (.ref C_InvalidTime) = some (.type "type"))
    (hC_InvalidTime : PySem.W.hasDictIn K C_InvalidTime = true)
    (ic_InvalidTime : (PySem.W.clsIn K C_InvalidTime).isSome = true)
    (cc_InvalidTime : PySem.W.findIn K (.ref C_InvalidTime) "__class__" = some (some (.builtin "object.__class__")))
    (mo_InvalidTime : PySem.W.mroIn K C_InvalidTime (.type "object") = some true)
    (ti_InvalidTime : PySem.W.typeIn K (.ref f0) = some (.type "function"))
    (no_InvalidTime_what : PySem.W.findIn K (.ref C_InvalidTime) "what" = some none)
    (em_InvalidTime_SlotError : PySem.W.exmOne K (.ref C_InvalidTime) (.ref C_SlotError) = some true)
    (em_InvalidTime_InvalidTime : PySem.W.exmOne K (.ref C_InvalidTime) (.ref C_InvalidTime) = some true)
    (x_InvalidMoney : K.lookup C_InvalidMoney = some (excClassObj nm_InvalidMoney q_InvalidMoney C_InvalidMoney N_InvalidMoney bs_InvalidMoney bm_InvalidMoney true sn_InvalidMoney sub_InvalidMoney ab_InvalidMoney col_InvalidMoney dd_InvalidMoney m0_InvalidMoney m1_InvalidMoney m2_InvalidMoney m3_InvalidMoney m5_InvalidMoney "ValueError.__new__"))
    (rv_InvalidMoney : PySem.HandSPX.refsVE bm_InvalidMoney = true)
    (sa_InvalidMoney : PySem.W.findIn K (.ref C_InvalidMoney) "__setattr__" = some (some (.builtin "object.__setattr__")))
    (ga_InvalidMoney : PySem.W.findIn K (.ref C_InvalidMoney) "__getattribute__" = some (some (.builtin "BaseException.__getattribute__")))
    (gg_InvalidMoney : PySem.W.findIn K (.ref C_InvalidMoney) "__getattr__" = some none)
    (kC_InvalidMoney : PySem.W.keepIn K (.ref C_InvalidMoney) = true)
    (eC_InvalidMoney : PySem.W.subIn K (.ref C_InvalidMoney) (.type "BaseException") = some true)
    (tC_InvalidMoney : PySem.W.typeIn K (.ref C_InvalidMoney) = some (.type "type"))
    (hC_InvalidMoney : PySem.W.hasDictIn K C_InvalidMoney = true)
    (ic_InvalidMoney : (PySem.W.clsIn K C_InvalidMoney).isSome = true)
    (cc_InvalidMoney : PySem.W.findIn K (.ref C_InvalidMoney) "__class__" = some (some (.builtin "object.__class__")))
    (mo_InvalidMoney : PySem.W.mroIn K C_InvalidMoney (.type "object") = some true)
    (ti_InvalidMoney : PySem.W.typeIn K (.ref f1) = some (.type "function"))
    (no_InvalidMoney_what : PySem.W.findIn K (.ref C_InvalidMoney) "what" = some none)
    (em_InvalidMoney_SlotError : PySem.W.exmOne K (.ref C_InvalidMoney) (.ref C_SlotError) = some true)
    (em_InvalidMoney_InvalidMoney : PySem.W.exmOne K (.ref C_InvalidMoney) (.ref C_InvalidMoney) = some true)
    (pg_Tariff : PySem.W.plainGet K C_Tariff Str.empty = true)
    (hd_Tariff : PySem.W.hasDictIn K C_Tariff = true)
    (po_Tariff : PySem.W.plainOver K C_Tariff = true)
    (sa_Tariff : PySem.W.findIn K (.ref C_Tariff) "__setattr__" = some (some (.builtin "object.__setattr__")))
    (mk_Tariff : PySem.W.makesIn K C_Tariff = true)
    (kc_Tariff : PySem.W.keepIn K (.ref C_Tariff) = true)
    (na_Tariff_price : PySem.W.findIn K (.ref C_Tariff) "price" = some none)
    (na_Tariff__steps : PySem.W.findIn K (.ref C_Tariff) "_steps" = some none)
    (i2 : PySem.W.isFn K (.ref f2) = true)
    (i3 : PySem.W.isFn K (.ref f3) = true)
    (i4 : PySem.W.isFn K (.ref f4) = true)
    (i5 : PySem.W.isFn K (.ref f5) = true)
    (i6 : PySem.W.isFn K (.ref f6) = true)
    (z_hn : PySem.W.specialIn K (.builtin "object.__class__") "__get__" = some (some (.builtin "getset_descriptor.__get__")))
    (z_ht : PySem.W.takesIn K (.builtin "object.__class__") = some true)
    (kt_InvalidMoney_InvalidMoney : PySem.W.kitOne K (.ref C_InvalidMoney) (.ref C_InvalidMoney) = some true)
    (kt_InvalidMoney_InvalidTime : PySem.W.kitOne K (.ref C_InvalidMoney) (.ref C_InvalidTime) = some false)
    (n_abs : PySem.W.nsIn K mainGlobals "abs" = some none)
    (n_all : PySem.W.nsIn K mainGlobals "all" = some none)
    (n_any : PySem.W.nsIn K mainGlobals "any" = some none)
    (n_bool : PySem.W.nsIn K mainGlobals "bool" = some none)
    (n_int : PySem.W.nsIn K mainGlobals "int" = some none)
    (n_isinstance : PySem.W.nsIn K mainGlobals "isinstance" = some none)
    (n_len : PySem.W.nsIn K mainGlobals "len" = some none)
    (n_list : PySem.W.nsIn K mainGlobals "list" = some none)
    (n_range : PySem.W.nsIn K mainGlobals "range" = some none)
    (n_sorted : PySem.W.nsIn K mainGlobals "sorted" = some none)
    (n_str : PySem.W.nsIn K mainGlobals "str" = some none)
    (n_sum : PySem.W.nsIn K mainGlobals "sum" = some none)
    (n_tuple : PySem.W.nsIn K mainGlobals "tuple" = some none)
    (n_zip : PySem.W.nsIn K mainGlobals "zip" = some none)
    : ∃ fd : FuncData, (∀ (s : Shared) (v : Value), BindsTo s fd ⟨[v], []⟩ [("script", v)]) ∧ ∀ base : Heap, K.In base → base.Ns mainGlobals mg → FnOk l.prog w K mg base (L2.CX l.prog w) 6 fa fd ["script"] (sp_c_law K) := by
  have e := hfa.symm.trans (PySem.W.mg_of X G a14)
  cases e
  have T : Txt K mg { f_c_InvalidTime_init := f0, d_c_InvalidTime_init := (PySem.W.fnOf "__init__" "InvalidTime.__init__" (defArgs st_c_InvalidTime_init) (defBody st_c_InvalidTime_init) (defScope st_c_InvalidTime_init) .none kV0 dc0 pm0 an0 cd0 ct0), f_c_InvalidMoney_init := f1, d_c_InvalidMoney_init := (PySem.W.fnOf "__init__" "InvalidMoney.__init__" (defArgs st_c_InvalidMoney_init) (defBody st_c_InvalidMoney_init) (defScope st_c_InvalidMoney_init) .none kV1 dc1 pm1 an1 cd1 ct1), f_c_Tariff_init := f2, d_c_Tariff_init := (PySem.W.fnOf "__init__" "Tariff.__init__" (defArgs st_c_Tariff_init) (defBody st_c_Tariff_init) (defScope st_c_Tariff_init) .none kV2 dc2 pm2 an2 cd2 ct2), f_c_Tariff_steps := f3, d_c_Tariff_steps := (PySem.W.fnOf "steps" "Tariff.steps" (defArgs st_c_Tariff_steps) (defBody st_c_Tariff_steps) (defScope st_c_Tariff_steps) .none kV3 dc3 pm3 an3 cd3 ct3), f_c_Tariff_price_at := f4, d_c_Tariff_price_at := (PySem.W.fnOf "price_at" "Tariff.price_at" (defArgs st_c_Tariff_price_at) (defBody st_c_Tariff_price_at) (defScope st_c_Tariff_price_at) .none kV4 dc4 pm4 an4 cd4 ct4), f_c_Tariff_sum_of := f5, d_c_Tariff_sum_of := (PySem.W.fnOf "sum_of" "Tariff.sum_of" (defArgs st_c_Tariff_sum_of) (defBody st_c_Tariff_sum_of) (defScope st_c_Tariff_sum_of) .none kV5 dc5 pm5 an5 cd5 ct5), f_c_Tariff_is_rising := f6, d_c_Tariff_is_rising := (PySem.W.fnOf "is_rising" "Tariff.is_rising" (defArgs st_c_Tariff_is_rising) (defBody st_c_Tariff_is_rising) (defScope st_c_Tariff_is_rising) .none kV6 dc6 pm6 an6 cd6 ct6), f_c_law_deck := f7, d_c_law_deck := (PySem.W.fnOf "_law_deck" "_law_deck" (defArgs st_c_law_deck) (defBody st_c_law_deck) (defScope st_c_law_deck) .none kV7 dc7 pm7 an7 cd7 ct7), f_c_law_take := f8, d_c_law_take := (PySem.W.fnOf "_law_take" "_law_take" (defArgs st_c_law_take) (defBody st_c_law_take) (defScope st_c_law_take) .none kV8 dc8 pm8 an8 cd8 ct8), f_c_law_plain := f9, d_c_law_plain := (PySem.W.fnOf "_law_plain" "_law_plain" (defArgs st_c_law_plain) (defBody st_c_law_plain) (defScope st_c_law_plain) .none kV9 dc9 pm9 an9 cd9 ct9), f_c_law_spoil := f10, d_c_law_spoil := (PySem.W.fnOf "_law_spoil" "_law_spoil" (defArgs st_c_law_spoil) (defBody st_c_law_spoil) (defScope st_c_law_spoil) .none kV10 dc10 pm10 an10 cd10 ct10), f_c_law_steps := f11, d_c_law_steps := (PySem.W.fnOf "_law_steps" "_law_steps" (defArgs st_c_law_steps) (defBody st_c_law_steps) (defScope st_c_law_steps) .none kV11 dc11 pm11 an11 cd11 ct11), f_c_law_why := f12, d_c_law_why := (PySem.W.fnOf "_law_why" "_law_why" (defArgs st_c_law_why) (defBody st_c_law_why) (defScope st_c_law_why) .none kV12 dc12 pm12 an12 cd12 ct12), f_c_law_price := f13, d_c_law_price := (PySem.W.fnOf "_law_price" "_law_price" (defArgs st_c_law_price) (defBody st_c_law_price) (defScope st_c_law_price) .none kV13 dc13 pm13 an13 cd13 ct13), f_c_law := fa, d_c_law := (PySem.W.fnOf "law" "law" (defArgs st_c_law) (defBody st_c_law) (defScope st_c_law) .none kV14 dc14 pm14 an14 cd14 ct14), C_SlotError := C_SlotError, C_InvalidTime := C_InvalidTime, C_InvalidMoney := C_InvalidMoney, C_Tariff := C_Tariff } := {
    F_c_InvalidTime_init := fun_mk (st := st_c_InvalidTime_init) l0 c0 k0
    b_c_InvalidTime_init := (fun_mk (st := st_c_InvalidTime_init) l0 c0 k0).binds (ps := ["self", "what"]) fun _ _ _ _ _ _ us hl => match us, hl with | [_, _], _ => rfl
    F_c_InvalidMoney_init := fun_mk (st := st_c_InvalidMoney_init) l1 c1 k1
    b_c_InvalidMoney_init := (fun_mk (st := st_c_InvalidMoney_init) l1 c1 k1).binds (ps := ["self", "what"]) fun _ _ _ _ _ _ us hl => match us, hl with | [_, _], _ => rfl
    F_c_Tariff_init := fun_mk (st := st_c_Tariff_init) l2 c2 k2
    b_c_Tariff_init := (fun_mk (st := st_c_Tariff_init) l2 c2 k2).binds (ps := ["self", "price", "steps"]) fun _ _ _ _ _ _ us hl => match us, hl with | [_, _, _], _ => rfl
    F_c_Tariff_steps := fun_mk (st := st_c_Tariff_steps) l3 c3 k3
    b_c_Tariff_steps := (fun_mk (st := st_c_Tariff_steps) l3 c3 k3).binds (ps := ["self"]) fun _ _ _ _ _ _ us hl => match us, hl with | [_], _ => rfl
    F_c_Tariff_price_at := fun_mk (st := st_c_Tariff_price_at) l4 c4 k4
    b_c_Tariff_price_at := (fun_mk (st := st_c_Tariff_price_at) l4 c4 k4).binds (ps := ["self", "load"]) fun _ _ _ _ _ _ us hl => match us, hl with | [_, _], _ => rfl
    F_c_Tariff_sum_of := fun_mk (st := st_c_Tariff_sum_of) l5 c5 k5
    b_c_Tariff_sum_of := (fun_mk (st := st_c_Tariff_sum_of) l5 c5 k5).binds (ps := ["self", "first", "last"]) fun _ _ _ _ _ _ us hl => match us, hl with | [_, _, _], _ => rfl
    F_c_Tariff_is_rising := fun_mk (st := st_c_Tariff_is_rising) l6 c6 k6
    b_c_Tariff_is_rising := (fun_mk (st := st_c_Tariff_is_rising) l6 c6 k6).binds (ps := ["self"]) fun _ _ _ _ _ _ us hl => match us, hl with | [_], _ => rfl
    F_c_law_deck := fun_mk (st := st_c_law_deck) l7 c7 k7
    b_c_law_deck := (fun_mk (st := st_c_law_deck) l7 c7 k7).binds (ps := ["script", "cells", "each"]) fun _ _ _ _ _ _ us hl => match us, hl with | [_, _, _], _ => rfl
    m_c_law_deck := PySem.W.mg_of X G a7
    F_c_law_take := fun_mk (st := st_c_law_take) l8 c8 k8
    b_c_law_take := (fun_mk (st := st_c_law_take) l8 c8 k8).binds (ps := ["deck", "many"]) fun _ _ _ _ _ _ us hl => match us, hl with | [_, _], _ => rfl
    m_c_law_take := PySem.W.mg_of X G a8
    F_c_law_plain := fun_mk (st := st_c_law_plain) l9 c9 k9
    b_c_law_plain := (fun_mk (st := st_c_law_plain) l9 c9 k9).binds (ps := ["value"]) fun _ _ _ _ _ _ us hl => match us, hl with | [_], _ => rfl
    m_c_law_plain := PySem.W.mg_of X G a9
    F_c_law_spoil := fun_mk (st := st_c_law_spoil) l10 c10 k10
    b_c_law_spoil := (fun_mk (st := st_c_law_spoil) l10 c10 k10).binds (ps := ["value"]) fun _ _ _ _ _ _ us hl => match us, hl with | [_], _ => rfl
    m_c_law_spoil := PySem.W.mg_of X G a10
    F_c_law_steps := fun_mk (st := st_c_law_steps) l11 c11 k11
    b_c_law_steps := (fun_mk (st := st_c_law_steps) l11 c11 k11).binds (ps := ["deck"]) fun _ _ _ _ _ _ us hl => match us, hl with | [_], _ => rfl
    m_c_law_steps := PySem.W.mg_of X G a11
    F_c_law_why := fun_mk (st := st_c_law_why) l12 c12 k12
    b_c_law_why := (fun_mk (st := st_c_law_why) l12 c12 k12).binds (ps := ["ask", "one", "two"]) fun _ _ _ _ _ _ us hl => match us, hl with | [_, _, _], _ => rfl
    m_c_law_why := PySem.W.mg_of X G a12
    F_c_law_price := fun_mk (st := st_c_law_price) l13 c13 k13
    b_c_law_price := (fun_mk (st := st_c_law_price) l13 c13 k13).binds (ps := ["price", "steps", "load"]) fun _ _ _ _ _ _ us hl => match us, hl with | [_, _, _], _ => rfl
    m_c_law_price := PySem.W.mg_of X G a13
    F_c_law := fun_mk (st := st_c_law) l14 c14 k14
    b_c_law := (fun_mk (st := st_c_law) l14 c14 k14).binds (ps := ["script"]) fun _ _ _ _ _ _ us hl => match us, hl with | [_], _ => rfl
    m_c_law := PySem.W.mg_of X G a14
    m_SlotError := PySem.W.mg_of X G g_SlotError
    bc_SlotError := ⟨b1_SlotError, b2_SlotError, b3_SlotError⟩
    m_InvalidTime := PySem.W.mg_of X G g_InvalidTime
    ox_InvalidTime := ⟨⟨_, _, _, _, _, _, _, _, _, _, _, _, _, _, _, x_InvalidTime, rv_InvalidTime⟩, sa_InvalidTime, eC_InvalidTime, tC_InvalidTime, kC_InvalidTime⟩
    in_InvalidTime := a0
    ti_InvalidTime := ti_InvalidTime
    no_InvalidTime_what := no_InvalidTime_what
    xf_InvalidTime := ⟨ga_InvalidTime, gg_InvalidTime, eC_InvalidTime, hC_InvalidTime⟩
    is_InvalidTime := ⟨ic_InvalidTime, ga_InvalidTime, gg_InvalidTime, eC_InvalidTime, cc_InvalidTime, z_hn, z_ht, mo_InvalidTime⟩
    em_InvalidTime_SlotError := em_InvalidTime_SlotError
    em_InvalidTime_InvalidTime := em_InvalidTime_InvalidTime
    m_InvalidMoney := PySem.W.mg_of X G g_InvalidMoney
    ox_InvalidMoney := ⟨⟨_, _, _, _, _, _, _, _, _, _, _, _, _, _, _, x_InvalidMoney, rv_InvalidMoney⟩, sa_InvalidMoney, eC_InvalidMoney, tC_InvalidMoney, kC_InvalidMoney⟩
    in_InvalidMoney := a1
    ti_InvalidMoney := ti_InvalidMoney
    no_InvalidMoney_what := no_InvalidMoney_what
    xf_InvalidMoney := ⟨ga_InvalidMoney, gg_InvalidMoney, eC_InvalidMoney, hC_InvalidMoney⟩
    is_InvalidMoney := ⟨ic_InvalidMoney, ga_InvalidMoney, gg_InvalidMoney, eC_InvalidMoney, cc_InvalidMoney, z_hn, z_ht, mo_InvalidMoney⟩
    em_InvalidMoney_SlotError := em_InvalidMoney_SlotError
    em_InvalidMoney_InvalidMoney := em_InvalidMoney_InvalidMoney
    m_Tariff := PySem.W.mg_of X G g_Tariff
    cl_Tariff := ⟨pg_Tariff, hd_Tariff, po_Tariff, sa_Tariff⟩
    na_Tariff_price := na_Tariff_price
    na_Tariff__steps := na_Tariff__steps
    mk_Tariff := ⟨mk_Tariff, a2, (by have := i2; exact this), kc_Tariff⟩
    mt_c_Tariff_steps := ⟨a3, i3, k3⟩
    mt_c_Tariff_price_at := ⟨a4, i4, k4⟩
    mt_c_Tariff_sum_of := ⟨a5, i5, k5⟩
    mt_c_Tariff_is_rising := ⟨a6, i6, k6⟩
    kt_InvalidMoney_InvalidMoney := kt_InvalidMoney_InvalidMoney
    kt_InvalidMoney_InvalidTime := kt_InvalidMoney_InvalidTime
    n_abs := PySem.W.mg_none_of X G n_abs
    n_all := PySem.W.mg_none_of X G n_all
    n_any := PySem.W.mg_none_of X G n_any
    n_bool := PySem.W.mg_none_of X G n_bool
    n_int := PySem.W.mg_none_of X G n_int
    n_isinstance := PySem.W.mg_none_of X G n_isinstance
    n_len := PySem.W.mg_none_of X G n_len
    n_list := PySem.W.mg_none_of X G n_list
    n_range := PySem.W.mg_none_of X G n_range
    n_sorted := PySem.W.mg_none_of X G n_sorted
    n_str := PySem.W.mg_none_of X G n_str
    n_sum := PySem.W.mg_none_of X G n_sum
    n_tuple := PySem.W.mg_none_of X G n_tuple
    n_zip := PySem.W.mg_none_of X G n_zip
  }
  exact ⟨(PySem.W.fnOf "law" "law" (defArgs st_c_law) (defBody st_c_law) (defScope st_c_law) .none kV14 dc14 pm14 an14 cd14 ct14), fun s v => .of_eq rfl, fun base _ _ => ok_c_law T⟩
theorem walk {l : PySem.W.OpenLaw} {q : Program} {loose : List Str} {XP : (Str → Option Value) → Heap → Prop} {YP : World → Heap → Prop} {d : DefRec} {K : Params → PySem.W.Frag} (hn : l.most = some 63) (hdf : d.params.defaults = [])
    (hY : ∀ (w : World) (h : Heap), YP w h → (K w.params).In h)
    (F : ∀ (w : World) (mg : Str → Option Value) (fa : Addr) (h : Heap), (K w.params).In h → h.Ns mainGlobals mg → mg d.name = some (.ref fa) →
      ∃ fd : FuncData, (∀ (s : Shared) (u : Value), BindsTo s fd ⟨[u], []⟩ [("script", u)]) ∧ ∀ base : Heap, (K w.params).In base → base.Ns mainGlobals mg → FnOk l.prog w (K w.params) mg base (L2.CX l.prog w) 6 fa fd ["script"] (sp_c_law (K w.params))) :
    PySem.W.WalkO q loose XP YP l.row.toRowW d [] (fun f vs => PySem.call f vs) :=
  L2.walk_of (n := 63) (k := 6) (x := "script") (CX := fun w => L2.CX l.prog w) (sp := fun w => sp_c_law (K w.params)) hn (by decide) hdf ⟨rfl, by decide, by decide⟩ hY F (fun _ _ a ns hl _ hS => ⟨a, ns, rfl, hS, hl, fun _ => rfl⟩)
    fun _ _ _ _ _ z => by obtain ⟨_, _, _, _, _, _, _, _, _, _, _, _, z⟩ := z; exact z
end K44
open PySem PySem.W PyProof.Rows
set_option maxRecDepth 100000 in
set_option maxHeartbeats 0 in
theorem PySem.Challenge.cw_slotwork_k44_tariffs_holds : PySem.Challenge.rw_slotwork_k44_tariffs.Holds := by
  w_on; o_law; k_head; (case hw => w_witness2)
  k_fill
  refine K44.walk (l := PySem.Challenge.rw_slotwork_k44_tariffs) rfl rfl (fun w h Y => PySem.W.kIn_of Y) ?F
  case F =>
    intro w mg fa h KX G hmg
    refine' K44.all_mk KX G hmg ?g_SlotError ?g_InvalidTime ?g_InvalidMoney ?g_Tariff ?a0 ?l0 ?c0 ?k0 ?a1 ?l1 ?c1 ?k1 ?a2 ?l2 ?c2 ?k2 ?a3 ?l3 ?c3 ?k3 ?a4 ?l4 ?c4 ?k4 ?a5 ?l5 ?c5 ?k5 ?a6 ?l6 ?c6 ?k6 ?a7 ?l7 ?c7 ?k7 ?a8 ?l8 ?c8 ?k8 ?a9 ?l9 ?c9 ?k9 ?a10 ?l10 ?c10 ?k10 ?a11 ?l11 ?c11 ?k11 ?a12 ?l12 ?c12 ?k12 ?a13 ?l13 ?c13 ?k13 ?a14 ?l14 ?c14 ?k14 ?b1_SlotError ?b2_SlotError ?b3_SlotError ?x_InvalidTime ?rv_InvalidTime ?sa_InvalidTime ?ga_InvalidTime ?gg_InvalidTime ?kC_InvalidTime ?eC_InvalidTime ?tC_InvalidTime ?hC_InvalidTime ?ic_InvalidTime ?cc_InvalidTime ?mo_InvalidTime ?ti_InvalidTime ?no_InvalidTime_what ?em_InvalidTime_SlotError ?em_InvalidTime_InvalidTime ?x_InvalidMoney ?rv_InvalidMoney ?sa_InvalidMoney ?ga_InvalidMoney ?gg_InvalidMoney ?kC_InvalidMoney ?eC_InvalidMoney ?tC_InvalidMoney ?hC_InvalidMoney ?ic_InvalidMoney ?cc_InvalidMoney ?mo_InvalidMoney ?ti_InvalidMoney ?no_InvalidMoney_what ?em_InvalidMoney_SlotError ?em_InvalidMoney_InvalidMoney ?pg_Tariff ?hd_Tariff ?po_Tariff ?sa_Tariff ?mk_Tariff ?kc_Tariff ?na_Tariff_price ?na_Tariff__steps ?i2 ?i3 ?i4 ?i5 ?i6 ?z_hn ?z_ht ?kt_InvalidMoney_InvalidMoney ?kt_InvalidMoney_InvalidTime ?n_abs ?n_all ?n_any ?n_bool ?n_int ?n_isinstance ?n_len ?n_list ?n_range ?n_sorted ?n_str ?n_sum ?n_tuple ?n_zip
    (case g_SlotError => first | k_is | rfl | decide +kernel)
    (case g_InvalidTime => first | k_is | rfl | decide +kernel)
    (case g_InvalidMoney => first | k_is | rfl | decide +kernel)
    (case g_Tariff => first | k_is | rfl | decide +kernel)
    (case a0 => first | k_is | rfl | decide +kernel)
    (case l0 => first | k_is | rfl | decide +kernel)
    (case c0 => first | k_is | rfl | decide +kernel)
    (case k0 => first | k_is | rfl | decide +kernel)
    (case a1 => first | k_is | rfl | decide +kernel)
    (case l1 => first | k_is | rfl | decide +kernel)
    (case c1 => first | k_is | rfl | decide +kernel)
    (case k1 => first | k_is | rfl | decide +kernel)
    (case a2 => first | k_is | rfl | decide +kernel)
    (case l2 => first | k_is | rfl | decide +kernel)
    (case c2 => first | k_is | rfl | decide +kernel)
    (case k2 => first | k_is | rfl | decide +kernel)
    (case a3 => first | k_is | rfl | decide +kernel)
    (case l3 => first | k_is | rfl | decide +kernel)
    (case c3 => first | k_is | rfl | decide +kernel)
    (case k3 => first | k_is | rfl | decide +kernel)
    (case a4 => first | k_is | rfl | decide +kernel)
    (case l4 => first | k_is | rfl | decide +kernel)
    (case c4 => first | k_is | rfl | decide +kernel)
    (case k4 => first | k_is | rfl | decide +kernel)
    (case a5 => first | k_is | rfl | decide +kernel)
    (case l5 => first | k_is | rfl | decide +kernel)
    (case c5 => first | k_is | rfl | decide +kernel)
    (case k5 => first | k_is | rfl | decide +kernel)
    (case a6 => first | k_is | rfl | decide +kernel)
    (case l6 => first | k_is | rfl | decide +kernel)
    (case c6 => first | k_is | rfl | decide +kernel)
    (case k6 => first | k_is | rfl | decide +kernel)
    (case a7 => first | k_is | rfl | decide +kernel)
    (case l7 => first | k_is | rfl | decide +kernel)
    (case c7 => first | k_is | rfl | decide +kernel)
    (case k7 => first | k_is | rfl | decide +kernel)
    (case a8 => first | k_is | rfl | decide +kernel)
    (case l8 => first | k_is | rfl | decide +kernel)
    (case c8 => first | k_is | rfl | decide +kernel)
    (case k8 => first | k_is | rfl | decide +kernel)
    (case a9 => first | k_is | rfl | decide +kernel)
    (case l9 => first | k_is | rfl | decide +kernel)
    (case c9 => first | k_is | rfl | decide +kernel)
    (case k9 => first | k_is | rfl | decide +kernel)
    (case a10 => first | k_is | rfl | decide +kernel)
    (case l10 => first | k_is | rfl | decide +kernel)
    (case c10 => first | k_is | rfl | decide +kernel)
    (case k10 => first | k_is | rfl | decide +kernel)
    (case a11 => first | k_is | rfl | decide +kernel)
    (case l11 => first | k_is | rfl | decide +kernel)
    (case c11 => first | k_is | rfl | decide +kernel)
    (case k11 => first | k_is | rfl | decide +kernel)
    (case a12 => first | k_is | rfl | decide +kernel)
    (case l12 => first | k_is | rfl | decide +kernel)
    (case c12 => first | k_is | rfl | decide +kernel)
    (case k12 => first | k_is | rfl | decide +kernel)
    (case a13 => first | k_is | rfl | decide +kernel)
    (case l13 => first | k_is | rfl | decide +kernel)
    (case c13 => first | k_is | rfl | decide +kernel)
    (case k13 => first | k_is | rfl | decide +kernel)
    (case a14 => first | k_is | rfl | decide +kernel)
    (case l14 => first | k_is | rfl | decide +kernel)
    (case c14 => first | k_is | rfl | decide +kernel)
    (case k14 => first | k_is | rfl | decide +kernel)
    (case b1_SlotError => first | k_is | rfl | decide +kernel)
    (case b2_SlotError => first | k_is | rfl | decide +kernel)
    (case b3_SlotError => first | k_is | rfl | decide +kernel)
    (case x_InvalidTime => first | k_is | rfl | decide +kernel)
    (case rv_InvalidTime => first | k_is | rfl | decide +kernel)
    (case sa_InvalidTime => first | k_is | rfl | decide +kernel)
    (case ga_InvalidTime => first | k_is | rfl | decide +kernel)
    (case gg_InvalidTime => first | k_is | rfl | decide +kernel)
    (case kC_InvalidTime => first | k_is | rfl | decide +kernel)
    (case eC_InvalidTime => first | k_is | rfl | decide +kernel)
    (case tC_InvalidTime => first | k_is | rfl | decide +kernel)
    (case hC_InvalidTime => first | k_is | rfl | decide +kernel)
    (case ic_InvalidTime => first | k_is | rfl | decide +kernel)
    (case cc_InvalidTime => first | k_is | rfl | decide +kernel)
    (case mo_InvalidTime => first | k_is | rfl | decide +kernel)
    (case ti_InvalidTime => first | k_is | rfl | decide +kernel)
    (case no_InvalidTime_what => first | k_is | rfl | decide +kernel)
    (case em_InvalidTime_SlotError => first | k_is | rfl | decide +kernel)
    (case em_InvalidTime_InvalidTime => first | k_is | rfl | decide +kernel)
    (case x_InvalidMoney => first | k_is | rfl | decide +kernel)
    (case rv_InvalidMoney => first | k_is | rfl | decide +kernel)
    (case sa_InvalidMoney => first | k_is | rfl | decide +kernel)
    (case ga_InvalidMoney => first | k_is | rfl | decide +kernel)
    (case gg_InvalidMoney => first | k_is | rfl | decide +kernel)
    (case kC_InvalidMoney => first | k_is | rfl | decide +kernel)
    (case eC_InvalidMoney => first | k_is | rfl | decide +kernel)
    (case tC_InvalidMoney => first | k_is | rfl | decide +kernel)
    (case hC_InvalidMoney => first | k_is | rfl | decide +kernel)
    (case ic_InvalidMoney => first | k_is | rfl | decide +kernel)
    (case cc_InvalidMoney => first | k_is | rfl | decide +kernel)
    (case mo_InvalidMoney => first | k_is | rfl | decide +kernel)
    (case ti_InvalidMoney => first | k_is | rfl | decide +kernel)
    (case no_InvalidMoney_what => first | k_is | rfl | decide +kernel)
    (case em_InvalidMoney_SlotError => first | k_is | rfl | decide +kernel)
    (case em_InvalidMoney_InvalidMoney => first | k_is | rfl | decide +kernel)
    (case pg_Tariff => first | k_is | rfl | decide +kernel)
    (case hd_Tariff => first | k_is | rfl | decide +kernel)
    (case po_Tariff => first | k_is | rfl | decide +kernel)
    (case sa_Tariff => first | k_is | rfl | decide +kernel)
    (case mk_Tariff => first | k_is | rfl | decide +kernel)
    (case kc_Tariff => first | k_is | rfl | decide +kernel)
    (case na_Tariff_price => first | k_is | rfl | decide +kernel)
    (case na_Tariff__steps => first | k_is | rfl | decide +kernel)
    (case i2 => first | k_is | rfl | decide +kernel)
    (case i3 => first | k_is | rfl | decide +kernel)
    (case i4 => first | k_is | rfl | decide +kernel)
    (case i5 => first | k_is | rfl | decide +kernel)
    (case i6 => first | k_is | rfl | decide +kernel)
    (case z_hn => first | k_is | rfl | decide +kernel)
    (case z_ht => first | k_is | rfl | decide +kernel)
    (case kt_InvalidMoney_InvalidMoney => first | k_is | rfl | decide +kernel)
    (case kt_InvalidMoney_InvalidTime => first | k_is | rfl | decide +kernel)
    (case n_abs => first | k_is | rfl | decide +kernel)
    (case n_all => first | k_is | rfl | decide +kernel)
    (case n_any => first | k_is | rfl | decide +kernel)
    (case n_bool => first | k_is | rfl | decide +kernel)
    (case n_int => first | k_is | rfl | decide +kernel)
    (case n_isinstance => first | k_is | rfl | decide +kernel)
    (case n_len => first | k_is | rfl | decide +kernel)
    (case n_list => first | k_is | rfl | decide +kernel)
    (case n_range => first | k_is | rfl | decide +kernel)
    (case n_sorted => first | k_is | rfl | decide +kernel)
    (case n_str => first | k_is | rfl | decide +kernel)
    (case n_sum => first | k_is | rfl | decide +kernel)
    (case n_tuple => first | k_is | rfl | decide +kernel)
    (case n_zip => first | k_is | rfl | decide +kernel)
