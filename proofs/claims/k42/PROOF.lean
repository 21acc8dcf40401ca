import PyProof.Rows.All
import Wide.All
import OpenK.AllK
import Wide.FinOn
import HandS.ForMost
import HandS.ForExc
import HandS.ExcInit
import HandS.ExcField
import HandS.IsInst
import HandS.Style
import HandS.Gcd
import HandS.Wide
import HandS.Deep
import HandS.Flow
import HandS.Zip
import HandS.Evl
import KE.KExcIs
import PySem.Challenge.RW_slotwork_k42_whole_rounding
set_option Elab.async false
set_option linter.all false
set_option maxRecDepth 100000
set_option maxHeartbeats 4000000
namespace Sw
open PySem PySem.Spec PyProof.Rows L2
section
variable {X : Cx}
/-- what the written part says of the own class B over ValueError, so that B.__init__(self, ..) is ValueError's -/
structure BaseC (K : PySem.W.Frag) (B : Addr) : Prop where
  sp : PySem.W.specialIn K (.ref B) "__getattribute__" = some (some (.builtin "type.__getattribute__"))
  rd : PySem.W.readsIn K B (.type "type") = true
  iv : PySem.W.findCls K (.ref B) (.type "type") "__init__" = some (.val (.builtin "ValueError.__init__"))
theorem pe_binit {x : Str} {B : Addr} {p1 p2 pos : Pos} {e : Expr} {es : List Expr} {ta : TA} {pl : Sem Bool} (T : BaseC X.K B) (hg : Gl X x) (hm : X.mg x = some (.ref B)) (ha : PA X (e :: es) ta)
    (hdb : (x == ("__debug__" : Str)) = false := by decide)
    (hc : eval (.Call (.Attribute (.Name x p1) "__init__" p2) (e :: es) [] pos) X.env = (do
      let o ← eval (.Name x p1) X.env
      standAt p2.atName
      let (g, fst) ← holding [o] (getMethod o "__init__" pl)
      callWith pos g fst (backTo pos (starEach (e :: es) X.env)) (backToKw pos (keywordEach [] X.env))) := by rfl)
    (he : starEach (e :: es) X.env = (false, eval e X.env) :: starEach es X.env := by rfl) (hpl : (backTo pos (starEach es X.env)).any (·.1) = false := by rfl) :
    PE X (.Call (.Attribute (.Name x p1) "__init__" p2) (e :: es) [] pos) (tVeI X.K ta) := by
  refine ⟨fun pins s σ H Q I h => ?_⟩
  refine PySem.W.methodCall_KW (ld_glob I hg hm ?_ hdb) hc
  refine PySem.W.method_cls I.kIn T.sp ?_
  refine PySem.W.cls_value I.kIn T.rd T.iv (by decide +kernel) ?_
  refine PyProof.Rows.callWith_method1 (thn (ha.run pos pins _ σ H _ (I.tok _) h) fun us s1 ⟨vs, H1, I1, r1, a, C, ws, ev, hl, T', ea, q⟩ => ?_) he hpl
  subst ev
  cases r1 with
  | @cons _ u0 _ ur ra rw' =>
    obtain rfl : u0 = Value.ref a := ra
    refine oinit_ok T' I1 ea ?_ fun s' J => ⟨.non, H1, J, rfl, q⟩
    rw [← Paired.length rw', sizeLine_eq]
    omega

/-- isinstance(error, c), error the exception that the suite holds, at a, of the class at D -/
structure IsC (K : PySem.W.Frag) (D : Addr) : Prop where
  hc : (PySem.W.clsIn K D).isSome = true
  hg : PySem.W.findIn K (.ref D) "__getattribute__" = some (some (.builtin "BaseException.__getattribute__"))
  hk : PySem.W.findIn K (.ref D) "__getattr__" = some none
  hs : PySem.W.subIn K (.ref D) (.type "BaseException") = some true
  ha : PySem.W.findIn K (.ref D) "__class__" = some (some (.builtin "object.__class__"))
  hn : PySem.W.specialIn K (.builtin "object.__class__") "__get__" = some (some (.builtin "getset_descriptor.__get__"))
  ht : PySem.W.takesIn K (.builtin "object.__class__") = some true
  hm : PySem.W.mroIn K D (.type "object") = some true
def rIsX (K : PySem.W.Frag) (a : Addr) (cls : Value) (d : Option Addr) : List V → Hp → VK → Prop := fun xs H Q =>
  ∃ (D C : Addr) (b : Bool) (dd : Addr) (fs : List (Str × V)), xs = [.ref a, .ref C] ∧ cls = .ref D ∧ IsC K D ∧ d = some dd ∧ H dd = some (.xd fs) ∧ PySem.W.kitOne K (.ref D) (.ref C) = some b ∧ Q (.bl b) H
theorem call_isX {a : Addr} {cls : Value} {d : Option Addr} {oe : Obj} {pn : List (Addr × Obj)} (hz : Zc cls d oe) (hf : ∃ vs, oe.data = .fields vs) : CallR (X.suite a ((a, oe) :: pn)) (.builtin "isinstance") (rIsX X.K a cls d) := by
  intro pins s σ H xs us Q I r h
  obtain ⟨D, C, b, dd, fs, rfl, rfl, T, rfl, ea, e, q⟩ := h
  cases r with
  | cons rx rr =>
    cases rr with
    | cons rt rr =>
      cases rr
      cases rx
      cases rt
      have hget := (I.pin (a, oe) (List.mem_append_left _ List.mem_cons_self)).1
      obtain ⟨mA, hns, hr⟩ := (show ObjOk X.prog X.w H s.heap dd (.xd fs) from I.hok dd _ ea)
      obtain ⟨od, ho, hl⟩ := lookIn_ns hns
      obtain ⟨vs, hd⟩ := hf
      have J : PySem.W.InstAt s.heap a oe D (some od) := ⟨hget, hz.1, by unfold PySem.W.notCls; rw [hd] <;> rfl, by rw [hz.2]; exact ho⟩
      exact PySem.W.kia_one (PySem.W.kitx_exc T.hc T.hg T.hk T.hs T.ha T.hn T.ht T.hm) I.kIn J e (fun z => nomatch z) fun tk => ⟨.bl b, H, I.tok tk, rfl, q⟩
end

/-! ### // by a divisor of any sign, of many digits -/
def CDivZ (_ j : Int) : Prop := j ≠ 0 ∧ j.natAbs.log2 < 9000
theorem op_fdivZ {X : Cx} : OpR X (binaryOp .FloorDiv) (rI CDivZ fun i j => .int (i.fdiv j)) := opI fun i j _ _ _ _ _ hc k => floordiv_int hc.1 k (.inl (PyProof.noPylong_of_log2 hc.2))
theorem cdivZ_of {i j : Int} {b : Nat} (h : j ≠ 0) (hb : j.natAbs < 2 ^ b) (h0 : 0 < b) (h9 : b ≤ 9000) : CDivZ i j := ⟨h, Nat.lt_of_lt_of_le (PySem.Flt.log2_lt_of h0 hb) h9⟩

/-! ### heaps -/
theorem upd_self {H : Hp} {p : Addr} {o : HO} (h : H p = some o) : upd H p o = H := by
  funext b
  by_cases e : b = p
  · rw [e, upd_same, h]
  · rw [upd_ne e]
theorem _root_.L2.Same.new {H : Hp} {p : Addr} {o : HO} (h : H p = none) : Same H (upd H p o) := fun b u e => by
  rw [upd_ne (ne_of_none e h)]
  exact e
theorem _root_.L2.Same.then_new {H H' : Hp} {p : Addr} {o : HO} (e : Same H H') (h : H' p = none) : Same H (upd H' p o) := e.trans (Same.new h)
/-- what H does not know may change -/
theorem _root_.L2.Same.mut {H H' : Hp} {p : Addr} {o : HO} (e : Same H H') (h : H p = none) : Same H (upd H' p o) := fun b u ha => by
  rw [upd_ne (ne_of_none ha h)]
  exact e b u ha
theorem _root_.L2.Same.tup {K : PySem.W.Frag} {H H' : Hp} {a : Addr} {xs : List V} (e : Same H H') (h : SqT K H a xs) : SqT K H' a xs := by
  rcases h with (h | ⟨o, h⟩) | h
  · exact .inl (.inl (e _ _ h))
  · exact .inl (.inr ⟨o, e _ _ h⟩)
  · exact .inr h

theorem same_none {H : Hp} : Same (fun _ => none) H := fun _ _ e => by cases e

/-! ### raise C(w) -/
/-- C(w) is raised, w its what -/
def raisesW (C : Addr) (w : Str) (H : Hp) (E : XK) : Prop := ∀ d H', Same H H' → H' d = some (.xd [("what", .str w)]) → E (.ref C) (some d) H'
theorem raisesW.mono {C : Addr} {w : Str} {H H' : Hp} {E : XK} (h : raisesW C w H E) (s : Same H H') : raisesW C w H' E := fun d H2 s2 hd => h d H2 (s.trans s2) hd
def sp_exinit (C : Addr) : Sp := fun vs H Q _ => ∃ (x : Addr) (w : Str), vs = [.ref x, .str w] ∧ H x = some (exo x C none) ∧ w.length ≤ 1000 ∧ ∀ dx, H dx = none → dx ≠ x → Q .non (upd (upd H dx (exd dx [("what", .str w)])) x (exo x C (some dx)))
theorem raise_ok {C : Addr} {w : Str} {H : Hp} {E : XK} (h : raisesW C w H E) (hl : w.length ≤ 1000) : ∀ a, H a = none → sp_exinit C (.ref a :: ([.str w] ++ [])) (upd H a (exo a C none))
    (fun v H2 => v = .non ∧ ∃ (d : Addr) (fs : List (Str × V)), H2 a = some (exo a C (some d)) ∧ H2 d = some (exd d fs) ∧ H d = none ∧ E (.ref C) (some d) (upd (del H2 a) d (.xd fs))) (fun _ _ _ => False) := fun a ha =>
  ⟨a, w, rfl, upd_same, hl, fun dx hd hne => by
    have hd' : H dx = none := by rw [upd_ne hne] at hd; exact hd
    refine ⟨rfl, dx, _, upd_same, by rw [upd_ne hne, upd_same], hd', h dx _ (fun b o e => ?_) upd_same⟩
    have n1 : b ≠ dx := ne_of_none e hd'
    have n2 : b ≠ a := ne_of_none e ha
    rw [upd_ne n1, del_ne n2, upd_ne n2, upd_ne n1, upd_ne n2]
    exact e⟩

/-! ### the deck: its numbers in the order in which they are taken -/
def dk (D : List Int) : HO := .lst (D.reverse.map V.int)
def tk (D : List Int) (m : Int) : Int := D.headD 0 % m
theorem tk_nonneg (D : List Int) {m : Int} (h : 0 < m) : 0 ≤ tk D m := Int.emod_nonneg _ (by omega)
theorem tk_lt (D : List Int) {m : Int} (h : 0 < m) : tk D m < m := Int.emod_lt_of_pos _ h
def sp_take0 : Sp := fun vs H Q _ => ∃ (d : Addr) (D : List Int) (m : Int), vs = [.ref d, .int m] ∧ H d = some (dk D) ∧ 0 < m ∧ Q (.int (tk D m)) (upd H d (dk D.tail))
@[irreducible] def sp_take : Sp := sp_take0
theorem sp_take_eq : sp_take = sp_take0 := by unfold sp_take; rfl
theorem dk_last {x : Int} {D : List Int} : ((x :: D).reverse.map V.int)[((x :: D).reverse.map V.int).length - 1]? = some (V.int x) := by simp
theorem dk_drop {x : Int} {D : List Int} : ((x :: D).reverse.map V.int).dropLast = D.reverse.map V.int := by simp
def sp_deck (K : PySem.W.Frag) : Sp := fun vs H Q _ => ∃ (sa : Addr) (ns : List Int) (c e : Int), vs = [.ref sa, .int c, .int e] ∧ SqL K H sa (ns.map V.int) ∧ ns.length ≤ 1000 ∧ 0 ≤ c ∧ c ≤ 1000 ∧ 0 ≤ e ∧ e ≤ 100 ∧
  ∀ (D : List Int) (p : Addr) (H' : Hp), H p = none → Same H H' → H' p = some (dk D) → Q (.ref p) H'

/-! ### data: all that is known to a heap stays -/
mutual
theorem dp_same {K : PySem.W.Frag} {H H' : Hp} (s : Same H H') : ∀ (d : PyData) (v : V), Dp K H v d → Dp K H' v d
  | .none, _, h => by cases h; exact .non
  | .bool b, _, h => by cases h; exact .bl b
  | .int i, _, h => by cases h; exact .int i
  | .str x, _, h => by cases h; exact .str x
  | .list ds, _, h => by
    cases h with
    | lst h1 h2 => exact .lst (s.seq h1) (dpAll_same s ds _ h2)
  | .tuple ds, _, h => by
    cases h with
    | tup h1 h2 => exact .tup (s.tup h1) (dpAll_same s ds _ h2)
  | .dict _, _, h => nomatch h
theorem dpAll_same {K : PySem.W.Frag} {H H' : Hp} (s : Same H H') : ∀ (ds : List PyData) (vs : List V), DpAll K H vs ds → DpAll K H' vs ds
  | [], _, h => by cases h; exact .nil
  | d :: ds, _, h => by
    cases h with
    | cons h1 h2 => exact .cons (dp_same s d _ h1) (dpAll_same s ds _ h2)
end
/-! data all of whose cells lie in S -/
mutual
inductive DN (S : Addr → Prop) (H : Hp) : V → PyData → Prop
  | non : DN S H .non .none
  | bl (b : Bool) : DN S H (.bl b) (.bool b)
  | int (i : Int) : DN S H (.int i) (.int i)
  | str (x : Str) : DN S H (.str x) (.str x)
  | lst {a : Addr} {xs : List V} {ds : List PyData} : S a → H a = some (.lst xs) → DNs S H xs ds → DN S H (.ref a) (.list ds)
  | tup {a : Addr} {xs : List V} {ds : List PyData} : S a → H a = some (.tup xs) → DNs S H xs ds → DN S H (.ref a) (.tuple ds)
inductive DNs (S : Addr → Prop) (H : Hp) : List V → List PyData → Prop
  | nil : DNs S H [] []
  | cons {v : V} {vs : List V} {d : PyData} {ds : List PyData} : DN S H v d → DNs S H vs ds → DNs S H (v :: vs) (d :: ds)
end
mutual
theorem DN.dp {K : PySem.W.Frag} {S : Addr → Prop} {H : Hp} : ∀ (d : PyData) (v : V), DN S H v d → Dp K H v d
  | .none, _, h => by cases h; exact .non
  | .bool b, _, h => by cases h; exact .bl b
  | .int i, _, h => by cases h; exact .int i
  | .str x, _, h => by cases h; exact .str x
  | .list ds, _, h => by
    cases h with
    | lst _ h1 h2 => exact .lst (SqL.of h1) (DNs.dp ds _ h2)
  | .tuple ds, _, h => by
    cases h with
    | tup _ h1 h2 => exact .tup (SqT.of h1) (DNs.dp ds _ h2)
  | .dict _, _, h => nomatch h
theorem DNs.dp {K : PySem.W.Frag} {S : Addr → Prop} {H : Hp} : ∀ (ds : List PyData) (vs : List V), DNs S H vs ds → DpAll K H vs ds
  | [], _, h => by cases h; exact .nil
  | d :: ds, _, h => by
    cases h with
    | cons h1 h2 => exact .cons (DN.dp d _ h1) (DNs.dp ds _ h2)
end
mutual
theorem DN.mono {S S' : Addr → Prop} {H H' : Hp} (hs : ∀ a, S a → S' a) (hh : ∀ a o, S a → H a = some o → H' a = some o) : ∀ (d : PyData) (v : V), DN S H v d → DN S' H' v d
  | .none, _, h => by cases h; exact .non
  | .bool b, _, h => by cases h; exact .bl b
  | .int i, _, h => by cases h; exact .int i
  | .str x, _, h => by cases h; exact .str x
  | .list ds, _, h => by
    cases h with
    | lst h0 h1 h2 => exact .lst (hs _ h0) (hh _ _ h0 h1) (DNs.mono hs hh ds _ h2)
  | .tuple ds, _, h => by
    cases h with
    | tup h0 h1 h2 => exact .tup (hs _ h0) (hh _ _ h0 h1) (DNs.mono hs hh ds _ h2)
  | .dict _, _, h => nomatch h
theorem DNs.mono {S S' : Addr → Prop} {H H' : Hp} (hs : ∀ a, S a → S' a) (hh : ∀ a o, S a → H a = some o → H' a = some o) : ∀ (ds : List PyData) (vs : List V), DNs S H vs ds → DNs S' H' vs ds
  | [], _, h => by cases h; exact .nil
  | d :: ds, _, h => by
    cases h with
    | cons h1 h2 => exact .cons (DN.mono hs hh d _ h1) (DNs.mono hs hh ds _ h2)
end
theorem DNs.snoc {S : Addr → Prop} {H : Hp} {v : V} {d : PyData} (hv : DN S H v d) : ∀ {vs : List V} {ds : List PyData}, DNs S H vs ds → DNs S H (vs ++ [v]) (ds ++ [d])
  | _, _, .nil => .cons hv .nil
  | _, _, .cons h t => .cons h (DNs.snoc hv t)
theorem DNs.length {S : Addr → Prop} {H : Hp} : ∀ {vs : List V} {ds : List PyData}, DNs S H vs ds → vs.length = ds.length
  | _, _, .nil => rfl
  | _, _, .cons _ t => by rw [List.length_cons, List.length_cons, DNs.length t]
theorem dpAll_length {K : PySem.W.Frag} {H : Hp} : ∀ {vs : List V} {ds : List PyData}, DpAll K H vs ds → vs.length = ds.length
  | _, _, .nil => rfl
  | _, _, .cons _ t => by rw [List.length_cons, List.length_cons, dpAll_length t]
theorem dpAll_get {K : PySem.W.Frag} {H : Hp} : ∀ {vs : List V} {ds : List PyData} {i : Nat} {v : V}, DpAll K H vs ds → vs[i]? = some v → ∃ d, ds[i]? = some d ∧ Dp K H v d
  | _, _, i, _, .nil, e => by simp at e
  | _, _, 0, _, .cons h _, e => by
    have := Option.some.inj e
    subst this
    exact ⟨_, rfl, h⟩
  | _, _, i + 1, _, .cons _ t, e => by
    have e' := e
    rw [List.getElem?_cons_succ] at e'
    obtain ⟨d, h1, h2⟩ := dpAll_get t e'
    exact ⟨d, by rw [List.getElem?_cons_succ]; exact h1, h2⟩

/-! ### small data: nested at most n deep, rows of at most 1000 -/
mutual
def okD : Nat → PyData → Bool
  | _, .none => true
  | _, .bool _ => true
  | _, .int _ => true
  | _, .str x => PyData.strOk x
  | 0, .list _ => false
  | n + 1, .list xs => decide (xs.length ≤ 1000) && okDs n xs
  | 0, .tuple _ => false
  | n + 1, .tuple xs => decide (xs.length ≤ 1000) && okDs n xs
  | _, .dict _ => false
def okDs : Nat → List PyData → Bool
  | _, [] => true
  | n, x :: xs => okD n x && okDs n xs
end
/-! as okD, the rows of any length -/
mutual
def okDx : Nat → PyData → Bool
  | _, .none => true
  | _, .bool _ => true
  | _, .int _ => true
  | _, .str x => PyData.strOk x
  | 0, .list _ => false
  | n + 1, .list xs => okDxs n xs
  | 0, .tuple _ => false
  | n + 1, .tuple xs => okDxs n xs
  | _, .dict _ => false
def okDxs : Nat → List PyData → Bool
  | _, [] => true
  | n, x :: xs => okDx n x && okDxs n xs
end
theorem okDs_get {n : Nat} : ∀ {ds : List PyData} {i : Nat} {d : PyData}, okDs n ds = true → ds[i]? = some d → okD n d = true
  | [], i, d, _, e => by simp at e
  | x :: xs, 0, d, h, e => by
    have := Option.some.inj e
    subst this
    simp only [okDs, Bool.and_eq_true] at h
    exact h.1
  | x :: xs, i + 1, d, h, e => by
    simp only [okDs, Bool.and_eq_true] at h
    rw [List.getElem?_cons_succ] at e
    exact okDs_get h.2 e
mutual
theorem okDx_lay : ∀ (n : Nat) (d : PyData), okDx n d = true → d.canLay0 = true ∧ d.depth ≤ n
  | _, .none, _ => by simp [PyData.canLay0, PyData.depth]
  | _, .bool _, _ => by simp [PyData.canLay0, PyData.depth]
  | _, .int _, _ => by simp [PyData.canLay0, PyData.depth]
  | _, .str x, h => by
    simp only [okDx] at h
    simp [PyData.canLay0, PyData.depth, h]
  | 0, .list _, h => by simp [okDx] at h
  | n + 1, .list xs, h => by
    simp only [okDx] at h
    obtain ⟨h1, h2⟩ := okDxs_lay n xs h
    simp only [PyData.canLay0, PyData.depth]
    exact ⟨h1, by omega⟩
  | 0, .tuple _, h => by simp [okDx] at h
  | n + 1, .tuple xs, h => by
    simp only [okDx] at h
    obtain ⟨h1, h2⟩ := okDxs_lay n xs h
    simp only [PyData.canLay0, PyData.depth]
    exact ⟨h1, by omega⟩
  | _, .dict _, h => by simp [okDx] at h
theorem okDxs_lay : ∀ (n : Nat) (ds : List PyData), okDxs n ds = true → PyData.canLayAll0 ds = true ∧ PyData.depthAll ds ≤ n
  | _, [], _ => by simp [PyData.canLayAll0, PyData.depthAll]
  | n, x :: xs, h => by
    simp only [okDxs, Bool.and_eq_true] at h
    obtain ⟨a1, a2⟩ := okDx_lay n x h.1
    obtain ⟨b1, b2⟩ := okDxs_lay n xs h.2
    simp only [PyData.canLayAll0, PyData.depthAll, a1, b1]
    exact ⟨rfl, by omega⟩
end
theorem okDx_shaped {n : Nat} {d : PyData} (h : okDx n d = true) (hn : n ≤ 64) : SeqAt.shaped d = true := by
  obtain ⟨h1, h2⟩ := okDx_lay n d h
  show (d.canLay0 && decide (d.depth ≤ 64)) = true
  rw [h1, decide_eq_true (by omega)]
  rfl

/-! ### what _law_plain tells of data -/
mutual
def plainD : PyData → PyData
  | .list xs => .list (.bool true :: plainDs xs)
  | .tuple xs => .list (.bool false :: plainDs xs)
  | .none => .str "None"
  | .bool b => .str (if b then "True" else "False")
  | .int i => .list [.bool false, .int i]
  | .str x => .list [.bool true, .str x]
  | .dict _ => .str "another"
def plainDs : List PyData → List PyData
  | [] => []
  | x :: xs => plainD x :: plainDs xs
end
theorem plainDs_length : ∀ ds : List PyData, (plainDs ds).length = ds.length
  | [] => rfl
  | x :: xs => by simp only [plainDs, List.length_cons, plainDs_length xs]
theorem plainDs_take {d : PyData} : ∀ {ds : List PyData} {i : Nat}, ds[i]? = some d → plainDs (ds.take (i + 1)) = plainDs (ds.take i) ++ [plainD d]
  | [], i, e => by simp at e
  | x :: xs, 0, e => by
    have := Option.some.inj e
    subst this
    simp [plainDs]
  | x :: xs, i + 1, e => by
    rw [List.getElem?_cons_succ] at e
    have := plainDs_take e
    simp only [List.take_succ_cons, plainDs, this, List.cons_append]
mutual
theorem plainD_ok : ∀ (n : Nat) (d : PyData), okD n d = true → okDx (n + 1) (plainD d) = true
  | n, .none, _ => by simp only [plainD, okDx]; decide +kernel
  | n, .bool b, _ => by cases b <;> simp only [plainD, okDx] <;> decide +kernel
  | n, .int i, _ => by simp only [plainD, okDx, okDxs, Bool.and_self]
  | n, .str x, h => by
    simp only [okD] at h
    simp [plainD, okDx, okDxs, h]
  | 0, .list _, h => by simp [okD] at h
  | n + 1, .list xs, h => by
    simp only [okD, Bool.and_eq_true, decide_eq_true_eq] at h
    have := plainDs_ok n xs h.2
    simp [plainD, okDx, okDxs, this]
  | 0, .tuple _, h => by simp [okD] at h
  | n + 1, .tuple xs, h => by
    simp only [okD, Bool.and_eq_true, decide_eq_true_eq] at h
    have := plainDs_ok n xs h.2
    simp [plainD, okDx, okDxs, this]
  | _, .dict _, h => by simp [okD] at h
theorem plainDs_ok : ∀ (n : Nat) (ds : List PyData), okDs n ds = true → okDxs (n + 1) (plainDs ds) = true
  | _, [], _ => by simp [plainDs, okDxs]
  | n, x :: xs, h => by
    simp only [okDs, Bool.and_eq_true] at h
    have a := plainD_ok n x h.1
    have b := plainDs_ok n xs h.2
    simp [plainDs, okDxs, a, b]
end

/-! ### more of the deck -/
def SameBut (d : Addr) (H H' : Hp) : Prop := ∀ b o, b ≠ d → H b = some o → H' b = some o
def sp_number0 : Sp := fun vs H Q _ => ∃ (d : Addr) (D : List Int), vs = [.ref d] ∧ H d = some (dk D) ∧ ∀ (n : Int) (D' : List Int) (H' : Hp), SameBut d H H' → H' d = some (dk D') → n.natAbs < 2 ^ 130 → Q (.int n) H'
@[irreducible] def sp_number : Sp := sp_number0
theorem sp_number_eq : sp_number = sp_number0 := by unfold sp_number; rfl
/-- G: what stands still; the deck at d moves -/
structure Dk (G H : Hp) (d : Addr) (D : List Int) : Prop where
  nd : G d = none
  sm : Same G H
  hd : H d = some (dk D)
section
variable {G H H' : Hp} {d p : Addr} {D D' : List Int} {o : HO}
theorem Dk.take (k : Dk G H d D) : Dk G (upd H d (dk D')) d D' := ⟨k.nd, k.sm.mut k.nd, upd_same⟩
theorem Dk.new (k : Dk G H d D) (h : H p = none) : Dk (upd G p o) (upd H p o) d D := by
  have n : d ≠ p := ne_of_none k.hd h
  refine ⟨by rw [upd_ne n]; exact k.nd, fun b u e => ?_, by rw [upd_ne n]; exact k.hd⟩
  by_cases q : b = p
  · rw [q, upd_same] at e
    rw [q, upd_same]
    exact e
  · rw [upd_ne q] at e
    rw [upd_ne q]
    exact k.sm b u e
theorem Dk.same (k : Dk G H d D) (s : Same H H') : Dk G H' d D := ⟨k.nd, k.sm.trans s, s _ _ k.hd⟩
theorem Dk.but (k : Dk G H d D) (s : SameBut d H H') (h : H' d = some (dk D')) : Dk G H' d D' := ⟨k.nd, fun b u e => s b u (ne_of_none e k.nd) (k.sm b u e), h⟩
theorem Dk.ne (k : Dk G H d D) (h : G p = some o) : p ≠ d := ne_of_none h k.nd
theorem Dk.fresh (k : Dk G H d D) (h : H p = none) : G p = none := k.sm.free h
end
theorem atI_nat' {α : Type} {xs : List α} {i : Int} {j : Nat} {v : α} (e : i = (j : Int)) (h : xs[j]? = some v) : atI xs i = some v := by
  rw [e]
  exact atI_nat h
theorem atI_ints {ns : List Int} {i : Int} (h0 : 0 ≤ i) (h1 : i < (ns.length : Int)) : ∃ z, atI (ns.map V.int) i = some (.int z) ∧ z ∈ ns := by
  have hl : i.toNat < ns.length := by omega
  refine ⟨ns[i.toNat], atI_nat' (j := i.toNat) (by omega) ?_, List.getElem_mem hl⟩
  rw [List.getElem?_map, List.getElem?_eq_getElem hl]
  rfl
theorem small1000000 {n : Nat} (h : n ≤ 1000000) : n < sizeLine := by
  rw [sizeLine_eq]
  omega
theorem two_pow_mono {a b : Nat} (h : a ≤ b) : (2 : Int) ^ a ≤ 2 ^ b := by
  have := Nat.pow_le_pow_right (n := 2) (by decide) h
  have e : ∀ c : Nat, ((2 ^ c : Nat) : Int) = (2 : Int) ^ c := fun c => by rw [Int.natCast_pow]; rfl
  rw [← e, ← e]
  omega
/-- x is True -/
def rIsT : R2 := fun x y H Q => (∃ a b : Bool, x = .bl a ∧ y = .bl b ∧ Q (.bl (decide (a = b))) H) ∨ (x = .non ∧ ∃ b, y = .bl b ∧ Q (.bl false) H)
theorem op_isT {X : Cx} : OpR X (compareOp .Is) rIsT := by
  intro pins s σ H x y v u Q I rx ry h
  rcases h with h | ⟨rfl, b, rfl, k⟩
  · exact op_isBl pins s σ H x y v u Q I rx ry h
  · cases (show v = Value.none from rx)
    cases (show u = Value.bool b from ry)
    exact wpAny_is_other rfl (fun z => nomatch z) ⟨.bl false, H, I, rfl, k⟩
theorem kind_l {K : PySem.W.Frag} {H : Hp} {a : Addr} {xs : List V} (h : SqL K H a xs) : TyX K H (.ref a) (.type "list") := by
  rcases h with (h | ⟨o, h⟩) | ⟨o, _, _, h, c, _⟩
  · exact .base (.lst h)
  · exact .base (.frz h)
  · exact .kList h c
theorem kind_t {K : PySem.W.Frag} {H : Hp} {a : Addr} {xs : List V} (h : SqT K H a xs) : TyX K H (.ref a) (.type "tuple") := by
  rcases h with (h | ⟨o, h⟩) | ⟨o, _, _, h, c, _⟩
  · exact .base (.tup h)
  · exact .fTuple h
  · exact .kTuple h c
theorem kit2 {K : PySem.W.Frag} {a b c : String} {r1 r2 : Bool} (h1 : kitB a b = some r1) (h2 : kitB a c = some r2) : PySem.W.kitAny K (.type a) [.type b, .type c] = some (r1 || r2) := by
  cases r1 with
  | true => exact kitAny_cons (b := true) (kit_ty h1) (fun z => nomatch z) fun _ => rfl
  | false =>
    refine kitAny_cons (b := false) (kit_ty h1) (fun _ => ?_) (fun z => nomatch z)
    exact kitAny_cons (b := r2) (kit_ty h2) (fun z => by subst z; exact kitAny_nil) fun z => by subst z; rfl
def sp_plain (K : PySem.W.Frag) (n : Nat) : Sp := fun vs H Q _ => ∃ (v : V) (d : PyData), vs = [v] ∧ Dp K H v d ∧ okD n d = true ∧ ∀ (v' : V) (H' : Hp), Same H H' → DN (fun a => H a = none) H' v' (plainD d) → Q v' H'
/-- isinstance(x, (A, B)), the tuple just made at p -/
theorem isi_pair {K : PySem.W.Frag} {H : Hp} {p : Addr} {x : V} {t A B : String} {r1 r2 : Bool} {Q : VK} (h1 : kitB t A = some r1) (h2 : kitB t B = some r2) (hx : TyX K (upd H p (.tup [.ty A, .ty B])) x (.type t)) (k : Q (.bl (r1 || r2)) (upd H p (.tup [.ty A, .ty B]))) :
    rIsiT K [x, .ref p] (upd H p (.tup [.ty A, .ty B])) Q :=
  ⟨x, p, _, _, _, _, rfl, upd_same, .cons (.ty A) (.cons (.ty B) .nil), hx, kit2 h1 h2, k⟩
theorem _root_.L2.TyX.new {K : PySem.W.Frag} {H : Hp} {x : V} {T : String} {p : Addr} {o : HO} (h : TyX K H x (.type T)) (hp : H p = none) : TyX K (upd H p o) x (.type T) := by
  have s : Same H (upd H p o) := Same.new hp
  generalize e : Value.type T = t at h
  cases h with
  | base b =>
    cases b with
    | non => exact .base .non
    | bl y => exact .base (.bl y)
    | int i => exact .base (.int i)
    | str y => exact .base (.str y)
    | flt y => exact .base (.flt y)
    | lst q => exact .base (.lst (s _ _ q))
    | frz q => exact .base (.frz (s _ _ q))
    | tup q => exact .base (.tup (s _ _ q))
    | dK q => exact .base (.dK (s _ _ q))
    | dT q => exact .base (.dT (s _ _ q))
    | ins q => cases e
  | byt b => exact .byt b
  | set q => exact .set (s _ _ q)
  | kList q c => exact .kList q c
  | kTuple q c => exact .kTuple q c
  | kDict q c => exact .kDict q c
  | fTuple q => exact .fTuple (s _ _ q)
  | fDict q => exact .fDict (s _ _ q)

/-- two plain tellings of the same data are equal -/
theorem plain_same {K : PySem.W.Frag} {S S' : Addr → Prop} {H1 H3 : Hp} {v1 v2 : V} {d : PyData} {Q : VK} {n : Nat} (h1 : DN S H1 v1 (plainD d)) (hs : Same H1 H3) (h2 : DN S' H3 v2 (plainD d)) (ok : okD n d = true) (hn : n ≤ 60) (k : Q (.bl false) H3) : rNeD K v1 v2 H3 Q := by
  have sh := okDx_shaped (plainD_ok n d ok) (by omega)
  refine ⟨plainD d, plainD d, dp_same hs _ _ (DN.dp _ _ h1), DN.dp _ _ h2, sh, sh, ?_⟩
  rw [SeqAt.eqv_refl _ (SeqAt.canLay_of_shaped sh)]
  exact k
/-- .. as a test that then fails -/
theorem plain_test {K : PySem.W.Frag} {S S' : Addr → Prop} {H1 H3 : Hp} {v1 v2 : V} {d : PyData} {Q : Bool → Hp → Prop} (n : Nat) (h1 : DN S H1 v1 (plainD d)) (hs : Same H1 H3) (h2 : DN S' H3 v2 (plainD d)) (ok : okD n d = true) (hn : n ≤ 60) (k : Q false H3) : rNeD K v1 v2 H3 fun x H' => ∃ b, x = .bl b ∧ Q b H' :=
  plain_same h1 hs h2 ok hn ⟨false, rfl, k⟩
theorem gcd_cdiv {x y : Int} (i : Int) (h : y ≠ 0) (hy : y.natAbs < 2 ^ 8000) : CDivZ i ((Nat.gcd x.natAbs y.natAbs : Nat) : Int) ∧ CDivZ i (-((Nat.gcd x.natAbs y.natAbs : Nat) : Int)) := by
  have h1 : Nat.gcd x.natAbs y.natAbs ≤ y.natAbs := Nat.gcd_le_right _ (by omega)
  have h0 : 0 < Nat.gcd x.natAbs y.natAbs := Nat.gcd_pos_of_pos_right _ (by omega)
  generalize hg : Nat.gcd x.natAbs y.natAbs = g at h1 h0
  have hb : g < 2 ^ 8000 := Nat.lt_of_le_of_lt h1 hy
  exact ⟨cdivZ_of (b := 8000) (by omega) (by rw [Int.natAbs_natCast]; exact hb) (by decide) (by decide), cdivZ_of (b := 8000) (by omega) (by rw [Int.natAbs_neg, Int.natAbs_natCast]; exact hb) (by decide) (by decide)⟩
/-- what two ways have in common behind them, shown once -/
theorem cutP {X Y : Prop} (f : X → Y) (x : X) : Y := f x
theorem Dk.weak {G H : Hp} {d : Addr} {D : List Int} (k : Dk G H d D) : Dk (fun _ => none) H d D := ⟨rfl, same_none, k.hd⟩

/-! ### taking from the deck, the heap behind it not told -/
section
variable {Kf : PySem.W.Frag} {G H : Hp} {d l : Addr} {D : List Int} {Q : VK}
theorem take_q (K1 : Dk G H d D) {m : Int} (hm : 0 < m) (k : ∀ z H2, 0 ≤ z → z < m → Dk G H2 d D.tail → Q (.int z) H2) : sp_take [.ref d, .int m] H Q E0 := by
  rw [sp_take_eq]
  exact ⟨d, D, m, rfl, K1.hd, hm, k _ _ (tk_nonneg D hm) (tk_lt D hm) K1.take⟩
/-- .. the heap told -/
theorem take_u {H : Hp} {d : Addr} {D : List Int} {Q : VK} (hd : H d = some (dk D)) {m : Int} (hm : 0 < m) (k : Q (.int (tk D m)) (upd H d (dk D.tail))) : sp_take [.ref d, .int m] H Q E0 := by
  rw [sp_take_eq]
  exact ⟨d, D, m, rfl, hd, hm, k⟩
/-- [n, ..][_law_take(deck, how many)] -/
theorem pick (K1 : Dk G H d D) (hl : H l = none) (ns : List Int) (h : 0 < ns.length) (k : ∀ z H2, z ∈ ns → Dk G H2 d D.tail → Q (.int z) H2) : sp_take [.ref d, .int (ns.length : Int)] (upd H l (.lst (ns.map V.int))) (fun v H2 => rIxL Kf (.ref l) v H2 Q) E0 := by
  rw [sp_take_eq]
  have hm : (0 : Int) < (ns.length : Int) := by omega
  have K2 := K1.new (o := .lst (ns.map V.int)) hl
  have n : d ≠ l := ne_of_none K1.hd hl
  refine ⟨d, D, _, rfl, K2.hd, hm, ?_⟩
  have K3 := K2.take (D' := D.tail)
  obtain ⟨z, hz, hm⟩ := atI_ints (tk_nonneg D hm) (tk_lt D hm)
  refine ⟨l, _, _, _, rfl, rfl, SqL.of (K3.sm _ _ upd_same), hz, k _ _ hm ⟨K1.nd, ?_, K3.hd⟩⟩
  have g : G l = none := K1.sm.free hl
  exact (Same.new g).trans K3.sm
theorem number_q (K1 : Dk G H d D) (k : ∀ n D' H2, n.natAbs < 2 ^ 130 → Dk G H2 d D' → Q (.int n) H2) : sp_number [.ref d] H Q E0 := by
  rw [sp_number_eq]
  exact ⟨d, D, rfl, K1.hd, fun n D' H' s h hn => k n D' H' hn (K1.but s h)⟩
end
theorem abs_nat (x : Int) : (if x < 0 then -x else x) = (x.natAbs : Int) := by split <;> omega

/-! ### fractions in lowest terms -/
/-- the greatest common divisor, with the sign of what is below -/
def frC (x y : Int) : Int := if y < 0 then -((Nat.gcd x.natAbs y.natAbs : Nat) : Int) else ((Nat.gcd x.natAbs y.natAbs : Nat) : Int)
def frA (x y : Int) : Int := x.fdiv (frC x y)
def frB (x y : Int) : Int := y.fdiv (frC x y)
theorem fdiv_mul_self {c p : Int} (h : c ≠ 0) : (c * p).fdiv c = p := Int.mul_fdiv_cancel_left p h
/-- what a fraction in lowest terms is -/
theorem fr_spec {x y : Int} (h : y ≠ 0) : x = frC x y * frA x y ∧ y = frC x y * frB x y ∧ 0 < frB x y ∧ frC x y ≠ 0 ∧ (0 < frC x y ↔ 0 < y) ∧ frB x y ≤ y.natAbs ∧ Nat.gcd (frA x y).natAbs (frB x y).natAbs = 1 := by
  have h0 : 0 < Nat.gcd x.natAbs y.natAbs := Nat.gcd_pos_of_pos_right _ (by omega)
  have hx : frC x y ∣ x := by
    unfold frC
    split
    · exact Int.neg_dvd.mpr (Int.ofNat_dvd_left.mpr (Nat.gcd_dvd_left _ _))
    · exact Int.ofNat_dvd_left.mpr (Nat.gcd_dvd_left _ _)
  have hy : frC x y ∣ y := by
    unfold frC
    split
    · exact Int.neg_dvd.mpr (Int.ofNat_dvd_left.mpr (Nat.gcd_dvd_right _ _))
    · exact Int.ofNat_dvd_left.mpr (Nat.gcd_dvd_right _ _)
  have hn : (frC x y).natAbs = Nat.gcd x.natAbs y.natAbs := by
    unfold frC
    split <;> omega
  have hc0 : frC x y ≠ 0 := by omega
  have hs : (0 < frC x y ↔ 0 < y) := by
    unfold frC
    split <;> constructor <;> omega
  obtain ⟨p, hp⟩ := hx
  obtain ⟨q, hq⟩ := hy
  have e1 : frA x y = p := by
    unfold frA
    generalize frC x y = c at hp hc0
    rw [hp, fdiv_mul_self hc0]
  have e2 : frB x y = q := by
    unfold frB
    generalize frC x y = c at hq hc0
    rw [hq, fdiv_mul_self hc0]
  have na1 : x.natAbs = (frC x y).natAbs * p.natAbs := by
    rw [← Int.natAbs_mul, ← hp]
  have na2 : y.natAbs = (frC x y).natAbs * q.natAbs := by
    rw [← Int.natAbs_mul, ← hq]
  have q0 : q ≠ 0 := fun z => by
    rw [z, Int.mul_zero] at hq
    exact h hq
  refine ⟨by rw [e1]; exact hp, by rw [e2]; exact hq, ?_, hc0, hs, ?_, ?_⟩
  · rw [e2]
    rcases Int.lt_trichotomy q 0 with z | z | z
    · exfalso
      by_cases yp : 0 < y
      · have := Int.mul_neg_of_pos_of_neg (hs.mpr yp) z
        omega
      · have cn : frC x y < 0 := by
          have : ¬ 0 < frC x y := fun w => yp (hs.mp w)
          omega
        have := Int.mul_pos_of_neg_of_neg cn z
        omega
    · exact absurd z q0
    · exact z
  · rw [e2]
    have : q.natAbs ≤ y.natAbs := by
      rw [na2]
      exact Nat.le_mul_of_pos_left _ (by omega)
    omega
  · rw [e1, e2]
    have e3 : Nat.gcd x.natAbs y.natAbs = (frC x y).natAbs * Nat.gcd p.natAbs q.natAbs := by
      rw [na1, na2, Nat.gcd_mul_left]
    rw [hn] at e3
    have : Nat.gcd x.natAbs y.natAbs * Nat.gcd p.natAbs q.natAbs = Nat.gcd x.natAbs y.natAbs * 1 := by omega
    exact Nat.eq_of_mul_eq_mul_left h0 this
def sp_fraction (C : Addr) : Sp := fun vs H Q E => ∃ x y : Int, vs = [.int x, .int y] ∧ y.natAbs < 2 ^ 8000 ∧ (y = 0 → raisesW C "fraction" H E) ∧ (y ≠ 0 → ∀ p, H p = none → Q (.ref p) (upd H p (.tup [.int (frA x y), .int (frB x y)])))
def sp_lawgcd : Sp := fun vs H Q _ => ∃ x y : Int, vs = [.int x, .int y] ∧ Q (.int ((Nat.gcd x.natAbs y.natAbs : Nat) : Int)) H
def sp_lawfraction : Sp := fun vs H Q _ => ∃ x y : Int, vs = [.int x, .int y] ∧ y.natAbs < 2 ^ 8000 ∧ y ≠ 0 ∧ ∀ p, H p = none → Q (.ref p) (upd H p (.tup [.int (frA x y), .int (frB x y)]))

theorem dpAll_ints {K : PySem.W.Frag} {H : Hp} : ∀ ns : List Int, DpAll K H (ns.map V.int) (ns.map PyData.int)
  | [] => .nil
  | n :: ns => .cons (.int n) (dpAll_ints ns)
theorem dp_ints {K : PySem.W.Frag} {H : Hp} {p : Addr} {ns : List Int} (h : SqL K H p (ns.map V.int)) : Dp K H (.ref p) (.list (ns.map PyData.int)) := .lst h (dpAll_ints ns)
theorem okDs_ints {n : Nat} : ∀ ns : List Int, okDs n (ns.map PyData.int) = true
  | [] => by simp [okDs]
  | x :: ns => by simp only [List.map_cons, okDs, okD, Bool.true_and]; exact okDs_ints ns
theorem ok_ints {n : Nat} {ns : List Int} (h : ns.length ≤ 1000) : okD (n + 1) (.list (ns.map PyData.int)) = true := by
  simp only [okD, Bool.and_eq_true, decide_eq_true_eq, List.length_map]
  exact ⟨h, okDs_ints ns⟩
theorem okDx_ints {n : Nat} : ∀ ns : List Int, okDxs n (ns.map PyData.int) = true
  | [] => by simp [okDxs]
  | x :: ns => by simp only [List.map_cons, okDxs, okDx, Bool.true_and]; exact okDx_ints ns
theorem shaped_ints (ns : List Int) : SeqAt.shaped (.list (ns.map PyData.int)) = true := okDx_shaped (n := 1) (by simp only [okDx]; exact okDx_ints ns) (by decide)
/-- two int lists that are the same: != says no -/
theorem ints_same {K : PySem.W.Frag} {H : Hp} {p q : Addr} {ns : List Int} {Q : VK} (h1 : SqL K H p (ns.map V.int)) (h2 : SqL K H q (ns.map V.int)) (k : Q (.bl false) H) : rNeD K (.ref p) (.ref q) H Q := by
  refine ⟨_, _, dp_ints h1, dp_ints h2, shaped_ints ns, shaped_ints ns, ?_⟩
  rw [SeqAt.eqv_refl _ (SeqAt.canLay_of_shaped (shaped_ints ns))]
  exact k

theorem Dk.add {G H : Hp} {d q : Addr} {D : List Int} {o : HO} (k : Dk G H d D) (h : H q = some o) (n : q ≠ d) : Dk (upd G q o) H d D :=
  ⟨by rw [upd_ne (Ne.symm n)]; exact k.nd, fun b u e => by
    by_cases z : b = q
    · rw [z, upd_same] at e
      rw [z, h]
      exact e
    · rw [upd_ne z] at e
      exact k.sm b u e, k.hd⟩
theorem Dk.keep {G G' H : Hp} {d : Addr} {D : List Int} (k : Dk G H d D) (h : G' d = none) (s : Same G' H) : Dk G' H d D := ⟨h, s, k.hd⟩
/-! ### comprehensions whose element does nothing to the heap -/
theorem lc_pure {K : PySem.W.Frag} {a : Addr} {xs : List V} {te : TE} {vs : List Nat} {σ : L2.St} {H1 : Hp} {D : Addr} {Qd : Hp → Prop} {j : Nat} (f : Nat → V → V) (hx : SqL K H1 a xs) (hD : H1 D = none) (hz : xs.length ≤ 1000000) (hw : ∀ x, wipe ((wipe σ vs).set j (some x)) vs = wipe σ vs)
    (hs : ∀ i x H', xs[i]? = some x → Same H1 H' → ∀ Q : VK, Q (f i x) H' → te ((wipe σ vs).set j (some x)) H' Q) (hd : Qd (upd H1 D (.lst (xs.mapIdx f)))) :
    ∃ W : Nat → Nat → Hp → Prop, (∃ m, W 0 m (upd H1 D (.lst []))) ∧ ∀ i m H, W i m H →
      ((Itl K a).stop i H ∧ Qd H) ∨ ((Itl K a).go i H ∧ ∃ Nx : Hp → Prop, (∀ H', Nx H' → ∃ m', m' < m ∧ W (i + 1) m' H') ∧ ∀ x H', (Itl K a).yld i H x H' → gName j x (wipe σ vs) H' fun σ2 H2 => wipe σ2 vs = wipe σ vs ∧ tYes σ2 H2 fun b H3 =>
        if b = true then te σ2 H3 fun y H4 => ∃ acc, H4 D = some (.lst acc) ∧ acc.length < sizeLine ∧ Nx (upd H4 D (.lst (acc ++ [y]))) else Nx H3) := by
  have tk : ∀ (l : List V) (g : Nat → V → V) (i : Nat) (x : V), l[i]? = some x → (l.mapIdx g).take (i + 1) = (l.mapIdx g).take i ++ [g i x] := by
    intro l g i x e
    have h1 : (l.mapIdx g)[i]? = some (g i x) := by rw [List.getElem?_mapIdx, e]; rfl
    rw [List.take_add_one, h1]
    rfl
  refine lc_list (K := K) (a := a) (xs := xs) (fun i H' => H' = upd H1 D (.lst ((xs.mapIdx f).take i))) (by rw [List.take_zero]) (fun i H' _ q => by subst q; exact (Same.new hD).seq hx) ?_ ?_
  · rintro i x H' hi rfl
    have hi1 := (List.getElem?_eq_some_iff.mp hi).1
    refine ⟨hw x, ?_⟩
    show te _ _ _
    refine hs i x _ hi (Same.new hD) _ ?_
    refine ⟨_, upd_same, small1000000 (by rw [List.length_take]; omega), ?_⟩
    rw [upd_upd, tk xs f i x hi]
  · rintro H' rfl
    have e : (xs.mapIdx f).take xs.length = xs.mapIdx f := by
      have : (xs.mapIdx f).length = xs.length := List.length_mapIdx
      rw [← this, List.take_length]
    rw [e]
    exact hd
theorem pickV {Kf : PySem.W.Frag} {G H : Hp} {d l : Addr} {D : List Int} {Q : VK} (K1 : Dk G H d D) (hl : H l = none) (ns : List V) (h : 0 < ns.length) (k : ∀ z H2, z ∈ ns → Dk G H2 d D.tail → Q z H2) : sp_take [.ref d, .int (ns.length : Int)] (upd H l (.lst ns)) (fun v H2 => rIxL Kf (.ref l) v H2 Q) E0 := by
  rw [sp_take_eq]
  have hm : (0 : Int) < (ns.length : Int) := by omega
  have K2 := K1.new (o := .lst ns) hl
  refine ⟨d, D, _, rfl, K2.hd, hm, ?_⟩
  have K3 := K2.take (D' := D.tail)
  have b0 := tk_nonneg D hm
  have b1 := tk_lt D hm
  have hj : (tk D (ns.length : Int)).toNat < ns.length := by omega
  refine ⟨l, _, _, _, rfl, rfl, SqL.of (K3.sm _ _ upd_same), atI_nat' (j := (tk D (ns.length : Int)).toNat) (by omega) (List.getElem?_eq_getElem hj), k _ _ (List.getElem_mem hj) ⟨K1.nd, ?_, K3.hd⟩⟩
  exact (Same.new (K1.sm.free hl)).trans K3.sm
/-- an item of a list at a written place -/
theorem ix_at {Kf : PySem.W.Frag} {H : Hp} {p : Addr} {xs : List V} {v : V} {Q : VK} (j : Nat) (h : SqL Kf H p xs) (hv : xs[j]? = some v) (k : Q v H) : rIxL Kf (.ref p) (.int (j : Int)) H Q := ⟨p, xs, _, v, rfl, rfl, h, atI_nat hv, k⟩
end Sw


set_option hygiene false in
local macro_rules | `(tactic| walk_at "len") => `(tactic| repeat (first | (obtain ⟨rfl, _⟩ := h; rfl) | (obtain ⟨_, h⟩ := h)))
local macro_rules | `(tactic| walk_at "st") => `(tactic| first
  | refine ⟨_, rfl, ?_⟩
  | refine ⟨_, _, rfl, rfl, (by show (0 : Int) < _; decide), ?_⟩
  | refine ⟨_, _, rfl, rfl, by decide, ?_⟩
  | refine ⟨_, _, rfl, rfl, ⟨by decide, by decide⟩, ?_⟩
  | refine ⟨_, _, rfl, rfl, .inl ⟨by decide, by decide⟩, ?_⟩
  | refine ⟨_, _, rfl, rfl, .inr ⟨by decide, by decide⟩, ?_⟩
  | refine ⟨_, _, rfl, rfl, ?_⟩
  | refine .inl ⟨_, rfl, ?_⟩
  | refine .inr ⟨_, rfl, ?_⟩
  | refine ⟨rfl, ?_⟩)
local macro_rules | `(tactic| walk_at "sts") => `(tactic| repeat walk_at "st")

namespace K42
open PySem PySem.Spec PyProof.Rows L2 Sw
def topS (i : Nat) : Stmt := PySem.Challenge.pw_slotwork_k42_whole_rounding.main.body.getD i (.Pass ⟨0, 0, 0, 0⟩)
abbrev st_c_InvalidTime_init : Stmt := inClass (topS 3) 0
abbrev st_c_InvalidMoney_init : Stmt := inClass (topS 4) 0
abbrev st_c_fraction : Stmt := topS 7
abbrev st_c_rounded : Stmt := topS 8
abbrev st_c_law_deck : Stmt := topS 10
abbrev st_c_law_take : Stmt := topS 11
abbrev st_c_law_plain : Stmt := topS 12
abbrev st_c_law_number : Stmt := topS 13
abbrev st_c_law_gcd : Stmt := topS 14
abbrev st_c_law_fraction : Stmt := topS 15
abbrev st_c_law_why : Stmt := topS 16
abbrev st_c_law_right : Stmt := topS 17
abbrev st_c_law : Stmt := topS 18
theorem sc_c_InvalidTime_init : FnScope ["self", "what"] ["self", "what"] (defScope st_c_InvalidTime_init) := ⟨rfl, rfl, rfl, by decide +kernel, rfl, by decide +kernel, by decide +kernel⟩
theorem sc_c_InvalidMoney_init : FnScope ["self", "what"] ["self", "what"] (defScope st_c_InvalidMoney_init) := ⟨rfl, rfl, rfl, by decide +kernel, rfl, by decide +kernel, by decide +kernel⟩
theorem sc_c_fraction : FnScope ["above", "below", "common"] ["above", "below"] (defScope st_c_fraction) := ⟨rfl, rfl, rfl, by decide +kernel, rfl, by decide +kernel, by decide +kernel⟩
theorem sc_c_rounded : FnScope ["above", "below", "way", "low"] ["above", "below", "way"] (defScope st_c_rounded) := ⟨rfl, rfl, rfl, by decide +kernel, rfl, by decide +kernel, by decide +kernel⟩
theorem sc_c_law_deck : FnScope ["script", "cells", "each", "deck", "seed", "k", "cell", "rest", "at"] ["script", "cells", "each"] (defScope st_c_law_deck) := ⟨rfl, rfl, rfl, by decide +kernel, rfl, by decide +kernel, by decide +kernel⟩
theorem sc_c_law_take : FnScope ["deck", "many"] ["deck", "many"] (defScope st_c_law_take) := ⟨rfl, rfl, rfl, by decide +kernel, rfl, by decide +kernel, by decide +kernel⟩
theorem sc_c_law_plain : FnScope ["value", "item"] ["value"] (defScope st_c_law_plain) := ⟨rfl, rfl, rfl, by decide +kernel, rfl, by decide +kernel, by decide +kernel⟩
theorem sc_c_law_number : FnScope ["deck", "kind", "number", "turn"] ["deck"] (defScope st_c_law_number) := ⟨rfl, rfl, rfl, by decide +kernel, rfl, by decide +kernel, by decide +kernel⟩
theorem sc_c_law_gcd : FnScope ["one", "two"] ["one", "two"] (defScope st_c_law_gcd) := ⟨rfl, rfl, rfl, by decide +kernel, rfl, by decide +kernel, by decide +kernel⟩
theorem sc_c_law_fraction : FnScope ["above", "below", "common"] ["above", "below"] (defScope st_c_law_fraction) := ⟨rfl, rfl, rfl, by decide +kernel, rfl, by decide +kernel, by decide +kernel⟩
theorem sc_c_law_why : FnScope ["ask", "above", "below", "way", "error"] ["ask", "above", "below", "way"] (defScope st_c_law_why) := ⟨rfl, rfl, rfl, by decide +kernel, rfl, by decide +kernel, by decide +kernel⟩
theorem sc_c_law_right : FnScope ["above", "below", "way", "told", "gap"] ["above", "below", "way", "told"] (defScope st_c_law_right) := ⟨rfl, rfl, rfl, by decide +kernel, rfl, by decide +kernel, by decide +kernel⟩
theorem sc_c_law : FnScope ["script", "deck", "below", "above", "ways", "results", "at", "turned", "bad", "answers", "way", "one"] ["script"] (defScope st_c_law) := ⟨rfl, rfl, rfl, by decide +kernel, rfl, by decide +kernel, by decide +kernel⟩
/-- where the defs, the classes and the constants of the text stand -/
structure Ad where
  f_c_InvalidTime_init : Addr
  d_c_InvalidTime_init : FuncData
  f_c_InvalidMoney_init : Addr
  d_c_InvalidMoney_init : FuncData
  f_c_fraction : Addr
  d_c_fraction : FuncData
  f_c_rounded : Addr
  d_c_rounded : FuncData
  f_c_law_deck : Addr
  d_c_law_deck : FuncData
  f_c_law_take : Addr
  d_c_law_take : FuncData
  f_c_law_plain : Addr
  d_c_law_plain : FuncData
  f_c_law_number : Addr
  d_c_law_number : FuncData
  f_c_law_gcd : Addr
  d_c_law_gcd : FuncData
  f_c_law_fraction : Addr
  d_c_law_fraction : FuncData
  f_c_law_why : Addr
  d_c_law_why : FuncData
  f_c_law_right : Addr
  d_c_law_right : FuncData
  f_c_law : Addr
  d_c_law : FuncData
  C_SlotError : Addr
  C_InvalidTime : Addr
  C_InvalidMoney : Addr
  A_WAYS : Addr
  z : Unit := ()
structure Txt (K : PySem.W.Frag) (mg : Str → Option Value) (a : Ad) : Prop where
  F_c_InvalidTime_init : Fun K "__init__" "InvalidTime.__init__" st_c_InvalidTime_init a.f_c_InvalidTime_init a.d_c_InvalidTime_init
  b_c_InvalidTime_init : Binds K a.d_c_InvalidTime_init ["self", "what"] []
  F_c_InvalidMoney_init : Fun K "__init__" "InvalidMoney.__init__" st_c_InvalidMoney_init a.f_c_InvalidMoney_init a.d_c_InvalidMoney_init
  b_c_InvalidMoney_init : Binds K a.d_c_InvalidMoney_init ["self", "what"] []
  F_c_fraction : Fun K "fraction" "fraction" st_c_fraction a.f_c_fraction a.d_c_fraction
  b_c_fraction : Binds K a.d_c_fraction ["above", "below"] []
  m_c_fraction : mg "fraction" = some (.ref a.f_c_fraction)
  F_c_rounded : Fun K "rounded" "rounded" st_c_rounded a.f_c_rounded a.d_c_rounded
  b_c_rounded : Binds K a.d_c_rounded ["above", "below", "way"] []
  m_c_rounded : mg "rounded" = some (.ref a.f_c_rounded)
  F_c_law_deck : Fun K "_law_deck" "_law_deck" st_c_law_deck a.f_c_law_deck a.d_c_law_deck
  b_c_law_deck : Binds K a.d_c_law_deck ["script", "cells", "each"] []
  m_c_law_deck : mg "_law_deck" = some (.ref a.f_c_law_deck)
  F_c_law_take : Fun K "_law_take" "_law_take" st_c_law_take a.f_c_law_take a.d_c_law_take
  b_c_law_take : Binds K a.d_c_law_take ["deck", "many"] []
  m_c_law_take : mg "_law_take" = some (.ref a.f_c_law_take)
  F_c_law_plain : Fun K "_law_plain" "_law_plain" st_c_law_plain a.f_c_law_plain a.d_c_law_plain
  b_c_law_plain : Binds K a.d_c_law_plain ["value"] []
  m_c_law_plain : mg "_law_plain" = some (.ref a.f_c_law_plain)
  F_c_law_number : Fun K "_law_number" "_law_number" st_c_law_number a.f_c_law_number a.d_c_law_number
  b_c_law_number : Binds K a.d_c_law_number ["deck"] []
  m_c_law_number : mg "_law_number" = some (.ref a.f_c_law_number)
  F_c_law_gcd : Fun K "_law_gcd" "_law_gcd" st_c_law_gcd a.f_c_law_gcd a.d_c_law_gcd
  b_c_law_gcd : Binds K a.d_c_law_gcd ["one", "two"] []
  m_c_law_gcd : mg "_law_gcd" = some (.ref a.f_c_law_gcd)
  F_c_law_fraction : Fun K "_law_fraction" "_law_fraction" st_c_law_fraction a.f_c_law_fraction a.d_c_law_fraction
  b_c_law_fraction : Binds K a.d_c_law_fraction ["above", "below"] []
  m_c_law_fraction : mg "_law_fraction" = some (.ref a.f_c_law_fraction)
  F_c_law_why : Fun K "_law_why" "_law_why" st_c_law_why a.f_c_law_why a.d_c_law_why
  b_c_law_why : Binds K a.d_c_law_why ["ask", "above", "below", "way"] []
  m_c_law_why : mg "_law_why" = some (.ref a.f_c_law_why)
  F_c_law_right : Fun K "_law_right" "_law_right" st_c_law_right a.f_c_law_right a.d_c_law_right
  b_c_law_right : Binds K a.d_c_law_right ["above", "below", "way", "told"] []
  m_c_law_right : mg "_law_right" = some (.ref a.f_c_law_right)
  F_c_law : Fun K "law" "law" st_c_law a.f_c_law a.d_c_law
  b_c_law : Binds K a.d_c_law ["script"] []
  m_c_law : mg "law" = some (.ref a.f_c_law)
  m_SlotError : mg "SlotError" = some (.ref a.C_SlotError)
  bc_SlotError : BaseC K a.C_SlotError
  m_InvalidTime : mg "InvalidTime" = some (.ref a.C_InvalidTime)
  ox_InvalidTime : OexC K a.C_InvalidTime
  in_InvalidTime : PySem.W.findIn K (.ref a.C_InvalidTime) "__init__" = some (some (.ref a.f_c_InvalidTime_init))
  ti_InvalidTime : PySem.W.typeIn K (.ref a.f_c_InvalidTime_init) = some (.type "function")
  no_InvalidTime_what : PySem.W.findIn K (.ref a.C_InvalidTime) "what" = some none
  xf_InvalidTime : XfC K a.C_InvalidTime
  is_InvalidTime : IsC K a.C_InvalidTime
  em_InvalidTime_SlotError : PySem.W.exmOne K (.ref a.C_InvalidTime) (.ref a.C_SlotError) = some true
  em_InvalidTime_InvalidTime : PySem.W.exmOne K (.ref a.C_InvalidTime) (.ref a.C_InvalidTime) = some true
  m_InvalidMoney : mg "InvalidMoney" = some (.ref a.C_InvalidMoney)
  ox_InvalidMoney : OexC K a.C_InvalidMoney
  in_InvalidMoney : PySem.W.findIn K (.ref a.C_InvalidMoney) "__init__" = some (some (.ref a.f_c_InvalidMoney_init))
  ti_InvalidMoney : PySem.W.typeIn K (.ref a.f_c_InvalidMoney_init) = some (.type "function")
  no_InvalidMoney_what : PySem.W.findIn K (.ref a.C_InvalidMoney) "what" = some none
  xf_InvalidMoney : XfC K a.C_InvalidMoney
  is_InvalidMoney : IsC K a.C_InvalidMoney
  em_InvalidMoney_SlotError : PySem.W.exmOne K (.ref a.C_InvalidMoney) (.ref a.C_SlotError) = some true
  em_InvalidMoney_InvalidMoney : PySem.W.exmOne K (.ref a.C_InvalidMoney) (.ref a.C_InvalidMoney) = some true
  kt_InvalidMoney_InvalidMoney : PySem.W.kitOne K (.ref a.C_InvalidMoney) (.ref a.C_InvalidMoney) = some true
  kt_InvalidMoney_InvalidTime : PySem.W.kitOne K (.ref a.C_InvalidMoney) (.ref a.C_InvalidTime) = some false
  n_abs : mg "abs" = none
  n_bool : mg "bool" = none
  n_int : mg "int" = none
  n_isinstance : mg "isinstance" = none
  n_len : mg "len" = none
  n_list : mg "list" = none
  n_range : mg "range" = none
  n_str : mg "str" = none
  n_tuple : mg "tuple" = none
  i_gcd : mg "gcd" = some (.builtin "math.gcd")
  m_WAYS : mg "WAYS" = some (.ref a.A_WAYS)
  w_WAYS : SqT K (fun _ => none) a.A_WAYS [.str "down", .str "up", .str "toward zero", .str "half up", .str "half even"]
abbrev sp_c_law_take : Sp := sp_take
abbrev sp_c_law_deck (K : PySem.W.Frag) : Sp := sp_deck K
abbrev sp_c_law_plain (K : PySem.W.Frag) (n : Nat) : Sp := sp_plain K n
abbrev sp_c_law_number : Sp := sp_number
abbrev sp_c_fraction (C : Addr) : Sp := sp_fraction C
abbrev sp_c_law_gcd : Sp := sp_lawgcd
abbrev sp_c_law_fraction : Sp := sp_lawfraction

def wayS : Nat → Str
  | 0 => "down"
  | 1 => "up"
  | 2 => "toward zero"
  | 3 => "half up"
  | _ => "half even"
def waysV : List V := [.str "down", .str "up", .str "toward zero", .str "half up", .str "half even"]
/-- A / B, rounded in the i-th way -/
def rnd (A B : Int) : Nat → Int
  | 0 => A.fdiv B
  | 1 => -((-A).fdiv B)
  | 2 => A.fdiv B + (if A < 0 ∧ A.fdiv B * B ≠ A then 1 else 0)
  | 3 => (2 * A + B).fdiv (2 * B)
  | _ => if 2 * (A - A.fdiv B * B) ≠ B then (2 * A + B).fdiv (2 * B) else A.fdiv B + A.fdiv B % 2
/-- what the law asks of a rounded number, what is below above 0 -/
def RT (x y : Int) (i : Nat) (t : Int) : Prop := -y < x - t * y ∧ x - t * y < y ∧ match i with
  | 0 => 0 ≤ x - t * y
  | 1 => x - t * y ≤ 0
  | 2 => if 0 ≤ x then 0 ≤ x - t * y else x - t * y ≤ 0
  | 3 => if 2 * ((x - t * y).natAbs : Int) = y then x - t * y < 0 else 2 * ((x - t * y).natAbs : Int) < y
  | _ => if 2 * ((x - t * y).natAbs : Int) = y then t % 2 = 0 else 2 * ((x - t * y).natAbs : Int) < y
def sp_c_rounded0 (C : Addr) : Sp := fun vs H Q E => ∃ (x y : Int) (s : Str), vs = [.int x, .int y, .str s] ∧ y.natAbs < 2 ^ 60 ∧ (y = 0 → raisesW C "fraction" H E) ∧ (y ≠ 0 → inV (.str s) waysV = false → raisesW C "way" H E) ∧ (y ≠ 0 → inV (.str s) waysV = true → ∃ i, i < 5 ∧ s = wayS i ∧ ∀ H', Same H H' → Q (.int (rnd (frA x y) (frB x y) i)) H')
@[irreducible] def sp_c_rounded (C : Addr) : Sp := sp_c_rounded0 C
theorem sp_c_rounded_eq (C : Addr) : sp_c_rounded C = sp_c_rounded0 C := by unfold sp_c_rounded; rfl
theorem sp_c_rounded_use {C : Addr} {vs : List V} {H : Hp} {Q : VK} {E : XK} (h : sp_c_rounded0 C vs H Q E) : sp_c_rounded C vs H Q E := by rw [sp_c_rounded_eq]; exact h
def sp_c_law_why : Sp := fun vs H Q _ => ∃ (n x y : Int) (s w : Str), vs = [.int n, .int x, .int y, .str s] ∧ y.natAbs < 2 ^ 60 ∧ ((y = 0 ∧ w = "fraction") ∨ (n = 0 ∧ y ≠ 0 ∧ inV (.str s) waysV = false ∧ w = "way")) ∧ ∀ H', Same H H' → Q (.str w) H'
def sp_c_law_right : Sp := fun vs H Q _ => ∃ (x y t : Int) (i : Nat), vs = [.int x, .int y, .str (wayS i), .int t] ∧ i < 5 ∧ y.natAbs < 2 ^ 60 ∧ RT (if y < 0 then -x else x) (y.natAbs : Int) i t ∧ Q (.bl true) H
def sp_c_law (K : PySem.W.Frag) : Sp := fun vs H Q _ => ∃ (a : Addr) (ns : List Int), vs = [.ref a] ∧ SqL K H a (ns.map V.int) ∧ ns.length ≤ 63 ∧ ∀ H', Q (.bl true) H'
/-! the mathematics -/
theorem div_uniq {a b q : Int} (hb : 0 < b) (h1 : q * b ≤ a) (h2 : a < q * b + b) : a.fdiv b = q := by
  rw [Int.fdiv_eq_ediv_of_nonneg _ (by omega)]
  have a1 : q ≤ a / b := Int.le_ediv_of_mul_le hb h1
  have a2 : a / b < q + 1 := Int.ediv_lt_of_lt_mul hb (by rw [Int.add_mul, Int.one_mul]; exact h2)
  omega
/-- the ways by quotient and rest -/
def rq (A B q r : Int) : Nat → Int
  | 0 => q
  | 1 => if r = 0 then q else q + 1
  | 2 => if A < 0 ∧ r ≠ 0 then q + 1 else q
  | 3 => if 2 * r < B then q else q + 1
  | _ => if 2 * r < B then q else if B < 2 * r then q + 1 else q + q % 2
theorem rnd_eq {A B q r : Int} (hB : 0 < B) (e : A = q * B + r) (h0 : 0 ≤ r) (h1 : r < B) (i : Nat) : rnd A B i = rq A B q r i := by
  have d0 : A.fdiv B = q := div_uniq hB (by omega) (by omega)
  have d3 : (2 * A + B).fdiv (2 * B) = if 2 * r < B then q else q + 1 := by
    split
    · refine div_uniq (by omega) ?_ ?_ <;> rw [Int.mul_left_comm] <;> omega
    · refine div_uniq (by omega) ?_ ?_ <;> rw [Int.add_mul, Int.mul_left_comm] <;> omega
  match i with
  | 0 => exact d0
  | 1 =>
    show -((-A).fdiv B) = if r = 0 then q else q + 1
    split
    · rename_i z
      rw [div_uniq (q := -q) hB (by rw [Int.neg_mul]; omega) (by rw [Int.neg_mul]; omega)]
      omega
    · rw [div_uniq (q := -q - 1) hB (by rw [Int.sub_mul, Int.neg_mul]; omega) (by rw [Int.sub_mul, Int.neg_mul]; omega)]
      omega
  | 2 =>
    show A.fdiv B + (if A < 0 ∧ A.fdiv B * B ≠ A then 1 else 0) = if A < 0 ∧ r ≠ 0 then q + 1 else q
    rw [d0]
    by_cases c : A < 0 ∧ r ≠ 0
    · rw [if_pos c, if_pos ⟨c.1, by omega⟩]
    · rw [if_neg c, if_neg (fun z => c ⟨z.1, by have := z.2; omega⟩)]
      omega
  | 3 => exact d3
  | i + 4 =>
    show (if 2 * (A - A.fdiv B * B) ≠ B then (2 * A + B).fdiv (2 * B) else A.fdiv B + A.fdiv B % 2) = if 2 * r < B then q else if B < 2 * r then q + 1 else q + q % 2
    rw [d0, d3]
    by_cases c : 2 * r < B
    · rw [if_pos (by omega), if_pos c, if_pos c]
    · rw [if_neg c]
      by_cases c2 : B < 2 * r
      · rw [if_pos (by omega), if_pos c2]
        rw [if_neg c]
      · rw [if_neg (by omega), if_neg c, if_neg c2]
theorem qr (A : Int) {B : Int} (hB : 0 < B) : ∃ q r, A = q * B + r ∧ 0 ≤ r ∧ r < B :=
  ⟨A / B, A % B, by rw [Int.mul_comm]; exact (Int.mul_ediv_add_emod A B).symm, Int.emod_nonneg _ (by omega), Int.emod_lt_of_pos _ hB⟩
theorem rq_right {A B q r : Int} (hB : 0 < B) (e : A = q * B + r) (h0 : 0 ≤ r) (h1 : r < B) (i : Nat) : RT A B i (rq A B q r i) := by
  have g0 : A - q * B = r := by omega
  have g1 : A - (q + 1) * B = r - B := by rw [Int.add_mul, Int.one_mul]; omega
  match i with
  | 0 =>
    show -B < A - q * B ∧ A - q * B < B ∧ 0 ≤ A - q * B
    omega
  | 1 =>
    show -B < A - (if r = 0 then q else q + 1) * B ∧ A - (if r = 0 then q else q + 1) * B < B ∧ A - (if r = 0 then q else q + 1) * B ≤ 0
    split
    · omega
    · rw [g1]; omega
  | 2 =>
    show -B < A - (if A < 0 ∧ r ≠ 0 then q + 1 else q) * B ∧ A - (if A < 0 ∧ r ≠ 0 then q + 1 else q) * B < B ∧ if 0 ≤ A then 0 ≤ A - (if A < 0 ∧ r ≠ 0 then q + 1 else q) * B else A - (if A < 0 ∧ r ≠ 0 then q + 1 else q) * B ≤ 0
    by_cases c : A < 0 ∧ r ≠ 0
    · rw [if_pos c, g1, if_neg (by omega)]
      omega
    · rw [if_neg c, g0]
      by_cases c2 : 0 ≤ A
      · rw [if_pos c2]
        omega
      · rw [if_neg c2]
        omega
  | 3 =>
    show -B < A - (if 2 * r < B then q else q + 1) * B ∧ A - (if 2 * r < B then q else q + 1) * B < B ∧ if 2 * ((A - (if 2 * r < B then q else q + 1) * B).natAbs : Int) = B then A - (if 2 * r < B then q else q + 1) * B < 0 else 2 * ((A - (if 2 * r < B then q else q + 1) * B).natAbs : Int) < B
    by_cases c : 2 * r < B
    · rw [if_pos c, g0, if_neg (by omega)]
      omega
    · rw [if_neg c, g1]
      by_cases c2 : 2 * r = B
      · rw [if_pos (by omega)]
        omega
      · rw [if_neg (by omega)]
        omega
  | i + 4 =>
    show -B < A - (if 2 * r < B then q else if B < 2 * r then q + 1 else q + q % 2) * B ∧ A - (if 2 * r < B then q else if B < 2 * r then q + 1 else q + q % 2) * B < B ∧
      if 2 * ((A - (if 2 * r < B then q else if B < 2 * r then q + 1 else q + q % 2) * B).natAbs : Int) = B then (if 2 * r < B then q else if B < 2 * r then q + 1 else q + q % 2) % 2 = 0 else 2 * ((A - (if 2 * r < B then q else if B < 2 * r then q + 1 else q + q % 2) * B).natAbs : Int) < B
    by_cases c : 2 * r < B
    · rw [if_pos c, g0, if_neg (by omega)]
      omega
    · rw [if_neg c]
      by_cases c2 : B < 2 * r
      · rw [if_pos c2, g1, if_neg (by omega)]
        omega
      · rw [if_neg c2]
        rcases Int.emod_two_eq q with m | m
        · rw [m, Int.add_zero, g0, if_pos (by omega)]
          omega
        · rw [m, g1, if_pos (by omega)]
          omega
theorem RT_scale {A B t g : Int} (hg : 0 < g) {i : Nat} (h : RT A B i t) : RT (g * A) (g * B) i t := by
  have e : g * A - t * (g * B) = g * (A - t * B) := by rw [Int.mul_sub, Int.mul_left_comm]
  have na : (((g * (A - t * B)).natAbs : Nat) : Int) = g * ((A - t * B).natAbs : Int) := by
    rw [Int.natAbs_mul, Int.natCast_mul, Int.natAbs_of_nonneg (by omega)]
  obtain ⟨h1, h2, h3⟩ := h
  unfold RT
  rw [e, na]
  generalize A - t * B = G at *
  have m1 : ∀ {a b : Int}, a < b → g * a < g * b := fun z => Int.mul_lt_mul_of_pos_left z hg
  have m2 : ∀ {a b : Int}, a ≤ b → g * a ≤ g * b := fun z => Int.mul_le_mul_of_nonneg_left z (by omega)
  have n2 : 2 * (g * (G.natAbs : Int)) = g * (2 * (G.natAbs : Int)) := by rw [Int.mul_left_comm]
  have z0 : g * 0 = 0 := Int.mul_zero g
  refine ⟨by rw [← Int.mul_neg]; exact m1 h1, m1 h2, ?_⟩
  rw [n2]
  match i with
  | 0 =>
    show 0 ≤ g * G
    have := m2 (show 0 ≤ G from h3)
    omega
  | 1 =>
    show g * G ≤ 0
    have := m2 (show G ≤ 0 from h3)
    omega
  | 2 =>
    show if 0 ≤ g * A then 0 ≤ g * G else g * G ≤ 0
    have h3' : if 0 ≤ A then 0 ≤ G else G ≤ 0 := h3
    by_cases c : 0 ≤ A
    · rw [if_pos c] at h3'
      have := m2 c
      have := m2 h3'
      rw [if_pos (by omega)]
      omega
    · rw [if_neg c] at h3'
      have := m1 (show A < 0 by omega)
      have := m2 h3'
      rw [if_neg (by omega)]
      omega
  | 3 =>
    show if g * (2 * (G.natAbs : Int)) = g * B then g * G < 0 else g * (2 * (G.natAbs : Int)) < g * B
    have h3' : if 2 * (G.natAbs : Int) = B then G < 0 else 2 * (G.natAbs : Int) < B := h3
    by_cases c : 2 * (G.natAbs : Int) = B
    · rw [if_pos c] at h3'
      have := m1 h3'
      rw [c, if_pos rfl]
      omega
    · rw [if_neg c] at h3'
      have := m1 h3'
      rw [if_neg (by omega)]
      exact this
  | i + 4 =>
    show if g * (2 * (G.natAbs : Int)) = g * B then t % 2 = 0 else g * (2 * (G.natAbs : Int)) < g * B
    have h3' : if 2 * (G.natAbs : Int) = B then t % 2 = 0 else 2 * (G.natAbs : Int) < B := h3
    by_cases c : 2 * (G.natAbs : Int) = B
    · rw [if_pos c] at h3'
      rw [c, if_pos rfl]
      exact h3'
    · rw [if_neg c] at h3'
      have := m1 h3'
      rw [if_neg (by omega)]
      exact this
theorem rnd_right (x : Int) {y : Int} (hy : y ≠ 0) (i : Nat) : RT (if y < 0 then -x else x) (y.natAbs : Int) i (rnd (frA x y) (frB x y) i) := by
  obtain ⟨e1, e2, hB, c0, cs, _, _⟩ := fr_spec (x := x) hy
  generalize hA : frA x y = A at *
  generalize hBB : frB x y = B at *
  generalize frC x y = c at *
  obtain ⟨q, r, e, h0, h1⟩ := qr A hB
  rw [rnd_eq hB e h0 h1]
  have base := rq_right hB e h0 h1 i
  by_cases yn : y < 0
  · have cn : 0 < -c := by
      have : ¬ 0 < c := fun z => by have := cs.mp z; omega
      omega
    have s := RT_scale cn base
    rw [if_pos yn]
    have f1 : -x = -c * A := by rw [e1, Int.neg_mul]
    have f2 : (y.natAbs : Int) = -c * B := by rw [Int.neg_mul, ← e2]; omega
    rw [f1, f2]
    exact s
  · have cn : 0 < c := cs.mpr (by omega)
    have s := RT_scale cn base
    rw [if_neg yn]
    have f2 : (y.natAbs : Int) = c * B := by rw [← e2]; omega
    rw [f2, e1]
    exact s
theorem fr_neg {x y : Int} (hy : y ≠ 0) : frA (-x) y = -frA x y ∧ frB (-x) y = frB x y := by
  have ec : frC (-x) y = frC x y := by unfold frC; rw [Int.natAbs_neg]
  obtain ⟨e1, _, _, c0, _⟩ := fr_spec (x := x) hy
  refine ⟨?_, by unfold frB; rw [ec]⟩
  unfold frA
  rw [ec]
  have : -x = frC x y * -(frA x y) := by rw [Int.mul_neg, ← e1]
  rw [this, fdiv_mul_self c0]
  rfl
/-- what the law asks of the five together -/
theorem rnd_all (A : Int) {B : Int} (hB : 0 < B) : -1 ≤ rnd A B 3 - rnd A B 4 ∧ rnd A B 3 - rnd A B 4 ≤ 1 ∧ rnd A B 0 ≤ rnd A B 1 ∧ (rnd A B 2 = rnd A B 0 ∨ rnd A B 2 = rnd A B 1) ∧
    rnd (-A) B 1 = -rnd A B 0 ∧ rnd (-A) B 0 = -rnd A B 1 ∧ rnd (-A) B 2 = -rnd A B 2 ∧ rnd (-A) B 4 = -rnd A B 4 := by
  obtain ⟨q, r, e, h0, h1⟩ := qr A hB
  have E := fun i => rnd_eq hB e h0 h1 i
  rw [E 0, E 1, E 2, E 3, E 4]
  by_cases c : r = 0
  · have e' : -A = (-q) * B + 0 := by rw [Int.neg_mul]; omega
    have E' := fun i => rnd_eq hB e' (by omega) hB i
    rw [E' 0, E' 1, E' 2, E' 4]
    subst c
    simp only [rq]
    have := Int.emod_two_eq q
    refine ⟨?_, ?_, ?_, ?_, ?_, ?_, ?_, ?_⟩
    all_goals (repeat' split) <;> first | omega | (rename_i z; exact absurd trivial z)
  · have e' : -A = (-q - 1) * B + (B - r) := by rw [Int.sub_mul, Int.neg_mul]; omega
    have E' := fun i => rnd_eq hB e' (by omega) (by omega) i
    rw [E' 0, E' 1, E' 2, E' 4]
    have qs : q < 0 ↔ A < 0 := by
      constructor
      · intro z
        have := Int.mul_le_mul_of_nonneg_right (show q ≤ -1 by omega) (show 0 ≤ B by omega)
        omega
      · intro z
        rcases Int.lt_or_le q 0 with w | w
        · exact w
        · have := Int.mul_nonneg w (show 0 ≤ B by omega)
          omega
    simp only [rq]
    have qb : 0 ≤ q → 0 ≤ q * B := fun z => Int.mul_nonneg z (by omega)
    have := Int.emod_two_eq q
    have := Int.emod_two_eq (-q - 1)
    refine ⟨?_, ?_, ?_, ?_, ?_, ?_, ?_, ?_⟩
    all_goals (repeat' split) <;> first | omega | (rename_i z; exact absurd trivial z) | trace_state; omega
theorem rnd_whole {x y : Int} (hy : y ≠ 0) (h : x.fmod y = 0) : ∀ i, rnd (frA x y) (frB x y) i = rnd (frA x y) (frB x y) 0 := by
  obtain ⟨e1, e2, hB, c0, _, _, hg⟩ := fr_spec (x := x) hy
  have hd : y ∣ x := Int.dvd_of_fmod_eq_zero h
  obtain ⟨m, hm⟩ := hd
  generalize frA x y = A at *
  generalize frB x y = B at *
  generalize frC x y = c at *
  have e3 : A = B * m := by
    have : c * A = c * (B * m) := by rw [← Int.mul_assoc, ← e2, ← e1, hm]
    exact Int.eq_of_mul_eq_mul_left c0 this
  have hb : B.natAbs = 1 := by
    rw [e3, Int.natAbs_mul, Nat.gcd_mul_right_left] at hg
    exact hg
  have hB1 : B = 1 := by omega
  subst hB1
  intro i
  have e : A = A * 1 + 0 := by omega
  rw [rnd_eq (by decide) e (by decide) (by decide), rnd_eq (by decide) e (by decide) (by decide)]
  match i with
  | 0 => rfl
  | 1 => rfl
  | 2 => exact if_neg (fun z => z.2 rfl)
  | 3 => rfl
  | i + 4 => rfl
theorem way_of {s : Str} (h : inV (.str s) waysV = true) : ∃ i, i < 5 ∧ s = wayS i := by
  simp only [inV, waysV, List.any_cons, List.any_nil, Bool.or_false, Bool.or_eq_true, eqV, beq_iff_eq] at h
  rcases h with h | h | h | h | h
  · exact ⟨0, by decide, h.symm⟩
  · exact ⟨1, by decide, h.symm⟩
  · exact ⟨2, by decide, h.symm⟩
  · exact ⟨3, by decide, h.symm⟩
  · exact ⟨4, by decide, h.symm⟩

theorem ok_c_law_deck {P : Program} {w : World} {K : PySem.W.Frag} {mg : Str → Option Value} {base : Heap} {a : Ad} (T : Txt K mg a) : FnOk P w K mg base (L2.CX P w) 1 a.f_c_law_deck a.d_c_law_deck ["script", "cells", "each"] (sp_c_law_deck K) := by
  refine T.F_c_law_deck.okX sc_c_law_deck (fun vs H Q E h => ?_) (fun cdv A outer s H vs Q E hr h => ?_)
  · walk_at "len"
  · obtain ⟨sa, ns, c, e, rfl, hS, hns, hc0, hc1, he0, he1, k⟩ := h
    refine ⟨_, (pss_cons (ps_set (i := 3) sc_c_law_deck.nd (by rfl) (Or.inl rfl) (pe_lst pa_nil))
    (pss_cons (ps_set (i := 4) sc_c_law_deck.nd (by rfl) (Or.inl rfl) (pe_op op_add pe_int (pe_callB call_len_seq (by rfl) T.n_len (by decide +kernel) (pa_cons (pv 0) pa_nil))))
    (pss_cons (ps_for (passes_of rfl) rfl (pi_range1 (by rfl) T.n_range (pa_cons (pv 1) pa_nil)) (pg_name (i := 5) sc_c_law_deck.nd (by rfl) (Or.inl rfl)) (pss_cons (ps_set (i := 6) sc_c_law_deck.nd (by rfl) (Or.inl rfl) pe_int)
    (pss_cons (ps_if (pt_cmpR op_lt (pv 5) (pe_callB call_len_seq (by rfl) T.n_len (by decide +kernel) (pa_cons (pv 0) pa_nil)) (nomark _)) (pss_one (ps_set (i := 6) sc_c_law_deck.nd (by rfl) (Or.inl rfl) (pe_ix ix_list (pv 0) (pv 5) (fun _ _ => rfl)))) pss_nil)
    (pss_cons (ps_set (i := 7) sc_c_law_deck.nd (by rfl) (Or.inl rfl) (pe_callB call_abs (by rfl) T.n_abs (by decide +kernel) (pa_cons (pv 6) pa_nil)))
    (pss_one (ps_if (pt_cmpR op_ge (pv 7) (pe_op op_pow pe_int pe_int) (nomark _)) (pss_one (ps_for (passes_of rfl) rfl (pi_range1 (by rfl) T.n_range (pa_cons (pv 2) pa_nil)) (pg_name (i := 8) sc_c_law_deck.nd (by rfl) (Or.inl rfl)) (pss_cons (ps_expr (pe_bm PySem.F.plainAttrs_list PySem.F.slot_list_append PySem.F.type_list_append mt_append (pv 3) (pa_cons (pe_op op_mod (pe_callTy call_int1 (by rfl) T.n_int (by decide +kernel) (pa_cons (pv 7) pa_nil)) pe_int) pa_nil)))
    (pss_one (ps_set (i := 7) sc_c_law_deck.nd (by rfl) (Or.inl rfl) (pe_op op_fdiv (pv 7) pe_int)))))) (pss_cons (ps_set (i := 4) sc_c_law_deck.nd (by rfl) (Or.inl rfl) (pe_op op_mod (pe_callTy call_int1 (by rfl) T.n_int (by decide +kernel) (pa_cons (pe_op op_add (pe_op op_add (pe_op op_add (pe_op op_mul (pv 4) pe_int) (pe_op op_mul pe_int (pv 7))) (pe_callTy call_int1 (by rfl) T.n_int (by decide +kernel) (pa_cons (pe_cmpR op_lt (pv 6) pe_int (nomark _)) pa_nil))) (pv 5)) pa_nil)) pe_int))
    (pss_one (ps_for (passes_of rfl) rfl (pi_range1 (by rfl) T.n_range (pa_cons (pv 2) pa_nil)) (pg_name (i := 8) sc_c_law_deck.nd (by rfl) (Or.inl rfl)) (pss_cons (ps_set (i := 4) sc_c_law_deck.nd (by rfl) (Or.inl rfl) (pe_op op_mod (pe_callTy call_int1 (by rfl) T.n_int (by decide +kernel) (pa_cons (pe_op op_add (pe_op op_add (pe_op op_mul (pv 4) pe_int) (pv 8)) pe_int) pa_nil)) pe_int))
    (pss_one (ps_expr (pe_bm PySem.F.plainAttrs_list PySem.F.slot_list_append PySem.F.type_list_append mt_append (pv 3) (pa_cons (pe_op op_mod (pe_callTy call_int1 (by rfl) T.n_int (by decide +kernel) (pa_cons (pe_op op_fdiv (pv 4) pe_int) pa_nil)) pe_int) pa_nil))))))))))))))
    (pss_cons (ps_expr (pe_bm0 PySem.F.plainAttrs_list PySem.F.slot_list_reverse PySem.F.type_list_reverse mt_reverse (pv 3)))
    (pss_one (ps_ret (pv 3))))))), ?_⟩
    refine ⟨by show 0 ≤ sizeLine; decide, fun p hp => ?_⟩
    have s0 : Same H (upd H p (.lst [])) := Same.new hp
    refine ⟨_, rfl, sa, _, rfl, .inl (s0.seq hS), _, _, rfl, rfl, ?_⟩
    refine ⟨_, rfl, c, rfl, by omega, by omega, for_range (lo := 0) (n := c.toNat) (fun i σ H' => ∃ (sd : Int) (v5 v6 v7 v8 : Option V) (xs : List Int), σ = [some (.ref sa), some (.int c), some (.int e), some (.ref p), some (.int sd), v5, v6, v7, v8] ∧
      Same H H' ∧ H' p = some (.lst (xs.map V.int)) ∧ xs.length ≤ i * 100) ⟨_, none, none, none, none, [], rfl, s0, upd_same, by simp⟩ ?_ ?_⟩
    · rintro i σ H1 hi ⟨sd, v5, v6, v7, v8, xs, rfl, s1, h1, hx⟩
      have hi' : i < 1000 := by omega
      walk_at "st"
      refine ⟨_, rfl, sa, _, rfl, .inl (s1.seq hS), ?_⟩
      walk_at "sts"
      refine ite2 (fun hk => ?_) (fun _ => ?_)
      · have hk' : i < ns.length := by simpa using hk
        refine ⟨_, rfl, _, rfl, sa, _, _, _, rfl, rfl, s1.seq hS, atI_nat' (j := i) (by omega) (by rw [List.getElem?_map, List.getElem?_eq_getElem hk']; rfl), ?_⟩
        walk_at "sts"
        refine ite2 (fun _ => ?_) (fun _ => ?_)
        · refine ⟨_, rfl, e, rfl, by omega, by omega, for_range (lo := 0) (n := e.toNat) (fun j σ H' => ∃ (r : Int) (v6 v8 : Option V) (ys : List Int), σ = [some (.ref sa), some (.int c), some (.int e), some (.ref p), some (.int sd), some (.int (0 + (i : Int))), v6, some (.int r), v8] ∧
            Same H H' ∧ H' p = some (.lst (ys.map V.int)) ∧ ys.length ≤ i * 100 + j) ⟨_, _, v8, xs, rfl, s1, h1, by omega⟩ ?_ ?_⟩
          · rintro j σ H2 hj ⟨r, v6, v8, ys, rfl, s2, h2, hy⟩
            refine ⟨_, rfl, .inl ⟨rfl, _, SqL.of h2⟩, ?_⟩
            walk_at "sts"
            refine ⟨p, _, _, rfl, rfl, h2, by rw [List.length_map]; exact small1000000 (by omega), ?_⟩
            walk_at "sts"
            refine ⟨_, _, _, ys ++ [r % 1000003], rfl, s2.mut hp, ?_, by rw [List.length_append]; simp; omega⟩
            rw [upd_same, List.map_append]
            rfl
          · rintro σ H2 ⟨r, v6, v8, ys, rfl, s2, h2, hy⟩
            exact ⟨_, _, _, _, _, ys, rfl, s2, h2, by omega⟩
        · walk_at "sts"
          refine ⟨by omega, by omega, for_range (lo := 0) (n := e.toNat) (fun j σ H' => ∃ (sd : Int) (v6 v7 v8 : Option V) (ys : List Int), σ = [some (.ref sa), some (.int c), some (.int e), some (.ref p), some (.int sd), some (.int (0 + (i : Int))), v6, v7, v8] ∧
            Same H H' ∧ H' p = some (.lst (ys.map V.int)) ∧ ys.length ≤ i * 100 + j) ⟨_, _, _, v8, xs, rfl, s1, h1, by omega⟩ ?_ ?_⟩
          · rintro j σ H2 hj ⟨sd, v6, v7, v8, ys, rfl, s2, h2, hy⟩
            walk_at "sts"
            refine ⟨.inl ⟨rfl, _, SqL.of h2⟩, ?_⟩
            walk_at "sts"
            refine ⟨p, _, _, rfl, rfl, h2, by rw [List.length_map]; exact small1000000 (by omega), ?_⟩
            refine ⟨_, _, _, _, ys ++ [(sd * 69621 + (0 + (j : Int)) + 1) % 2147483629 / 5 % 1000003], rfl, s2.mut hp, ?_, by rw [List.length_append]; simp; omega⟩
            rw [upd_same, List.map_append]
            rfl
          · rintro σ H2 ⟨sd, v6, v7, v8, ys, rfl, s2, h2, hy⟩
            exact ⟨_, _, _, _, _, ys, rfl, s2, h2, by omega⟩
      · skip
        walk_at "sts"
        refine ⟨by omega, by omega, for_range (lo := 0) (n := e.toNat) (fun j σ H' => ∃ (sd : Int) (v6 v7 v8 : Option V) (ys : List Int), σ = [some (.ref sa), some (.int c), some (.int e), some (.ref p), some (.int sd), some (.int (0 + (i : Int))), v6, v7, v8] ∧
          Same H H' ∧ H' p = some (.lst (ys.map V.int)) ∧ ys.length ≤ i * 100 + j) ⟨_, _, _, v8, xs, rfl, s1, h1, by omega⟩ ?_ ?_⟩
        · rintro j σ H2 hj ⟨sd, v6, v7, v8, ys, rfl, s2, h2, hy⟩
          walk_at "sts"
          refine ⟨.inl ⟨rfl, _, SqL.of h2⟩, ?_⟩
          walk_at "sts"
          refine ⟨p, _, _, rfl, rfl, h2, by rw [List.length_map]; exact small1000000 (by omega), ?_⟩
          refine ⟨_, _, _, _, ys ++ [(sd * 69621 + (0 + (j : Int)) + 1) % 2147483629 / 5 % 1000003], rfl, s2.mut hp, ?_, by rw [List.length_append]; simp; omega⟩
          rw [upd_same, List.map_append]
          rfl
        · rintro σ H2 ⟨sd, v6, v7, v8, ys, rfl, s2, h2, hy⟩
          exact ⟨_, _, _, _, _, ys, rfl, s2, h2, by omega⟩
    · rintro σ H1 ⟨sd, v5, v6, v7, v8, xs, rfl, s1, h1, hx⟩
      refine ⟨_, rfl, .inl ⟨rfl, _, SqL.of h1⟩, p, _, rfl, rfl, h1, _, rfl, ?_⟩
      refine k xs p _ hp (s1.mut hp) ?_
      rw [upd_same]
      simp [dk]
theorem ok_c_law_gcd {P : Program} {w : World} {K : PySem.W.Frag} {mg : Str → Option Value} {base : Heap} {a : Ad} (T : Txt K mg a) : FnOk P w K mg base (L2.CX P w) 1 a.f_c_law_gcd a.d_c_law_gcd ["one", "two"] (sp_c_law_gcd) := by
  refine T.F_c_law_gcd.okX sc_c_law_gcd (fun vs H Q E h => ?_) (fun cdv A outer s H vs Q E hr h => ?_)
  · walk_at "len"
  · obtain ⟨x, y, rfl, k⟩ := h
    refine ⟨_, (pss_cons (ps_set (i := 0) sc_c_law_gcd.nd (by rfl) (Or.inl rfl) (pe_callB call_abs (by rfl) T.n_abs (by decide +kernel) (pa_cons (pv 0) pa_nil)))
    (pss_cons (ps_set (i := 1) sc_c_law_gcd.nd (by rfl) (Or.inl rfl) (pe_callB call_abs (by rfl) T.n_abs (by decide +kernel) (pa_cons (pv 1) pa_nil)))
    (pss_cons (ps_while (passes_of rfl) (pt_cmpR op_ne (pv 1) pe_int (nomark _)) (pss_one (ps_par (i := 0) (j := 1) (by rfl) sc_c_law_gcd.nd (by rfl) (by rfl) (by decide) (by rfl) (by rfl) (pa_cons (pv 1) (pa_cons (pe_op op_mod (pe_callTy call_int1 (by rfl) T.n_int (by decide +kernel) (pa_cons (pv 0) pa_nil)) (pv 1)) pa_nil)) (by rfl))))
    (pss_one (ps_ret (pv 0)))))), ?_⟩
    refine ⟨_, rfl, _, rfl, ?_⟩
    refine ⟨_, rfl, _, rfl, ?_⟩
    refine ⟨fun m σ H' => ∃ u v : Nat, σ = [some (.int (u : Int)), some (.int (v : Int))] ∧ H' = H ∧ v = m ∧ Nat.gcd u v = Nat.gcd x.natAbs y.natAbs, ⟨y.natAbs, x.natAbs, y.natAbs, ?_, rfl, rfl, rfl⟩, ?_⟩
    · show [some (V.int (if x < 0 then -x else x)), some (V.int (if y < 0 then -y else y))] = _
      rw [abs_nat, abs_nat]
    · rintro m σ H' ⟨u, v, rfl, rfl, rfl, hg⟩
      refine ⟨_, rfl, rfl, _, rfl, ?_⟩
      refine ite2 (fun c => ?_) (fun c => ?_)
      · have c' : v ≠ 0 := by
          intro z
          subst z
          simp at c
        refine ⟨_, fun _ _ h => h, ?_⟩
        refine ⟨_, rfl, _, rfl, .inl ⟨_, rfl, _, rfl, _, _, rfl, rfl, (by show (0 : Int) < _; omega), _, _, rfl, ?_⟩⟩
        refine ⟨u % v, Nat.mod_lt _ (by omega), v, u % v, rfl, rfl, rfl, ?_⟩
        rw [Nat.gcd_comm, ← Nat.gcd_rec, Nat.gcd_comm]
        exact hg
      · have c' : v = 0 := by
          have : ¬ ¬ (V.int (v : Int) = V.int 0) := by simpa using c
          have := Classical.not_not.mp this
          injection this with h
          omega
        subst c'
        rw [Nat.gcd_zero_right] at hg
        refine ⟨_, rfl, ?_⟩
        rw [hg]
        exact k
theorem ok_c_law_fraction {P : Program} {w : World} {K : PySem.W.Frag} {mg : Str → Option Value} {base : Heap} {a : Ad} (T : Txt K mg a) : FnOk P w K mg base (L2.CX P w) 2 a.f_c_law_fraction a.d_c_law_fraction ["above", "below"] (sp_c_law_fraction) := by
  have G_c_law_gcd : FnOk P w K mg base (L2.CX P w) 1 a.f_c_law_gcd a.d_c_law_gcd ["one", "two"] (sp_c_law_gcd) := ok_c_law_gcd T
  refine T.F_c_law_fraction.okX sc_c_law_fraction (fun vs H Q E h => ?_) (fun cdv A outer s H vs Q E hr h => ?_)
  · walk_at "len"
  · obtain ⟨x, y, rfl, hy, hy0, k⟩ := h
    refine ⟨_, (pss_cons (ps_set (i := 2) sc_c_law_fraction.nd (by rfl) (Or.inl rfl) (pe_call G_c_law_gcd (hr.mono (by decide)) (by rfl) T.m_c_law_gcd T.F_c_law_gcd.kp T.b_c_law_gcd .nil passL (pa_cons (pv 0) (pa_cons (pv 1) pa_nil))))
    (pss_cons (ps_if (pt_cmpR op_lt (pv 1) pe_int (nomark _)) (pss_one (ps_set (i := 2) sc_c_law_fraction.nd (by rfl) (Or.inl rfl) (pe_un un_neg (pv 2)))) pss_nil)
    (pss_one (ps_ret (pe_tup (pa_cons (pe_op op_fdivZ (pv 0) (pv 2)) (pa_cons (pe_op op_fdivZ (pv 1) (pv 2)) pa_nil))))))), ?_⟩
    refine ⟨_, rfl, _, rfl, x, y, rfl, ?_⟩
    refine ⟨_, rfl, _, _, rfl, rfl, _, rfl, ?_⟩
    unfold frA frB frC at k
    refine ite2 (fun n => ?_) (fun n => ?_)
    · have n' : y < 0 := by simpa using n
      rw [if_pos n'] at k
      refine ⟨_, rfl, _, rfl, ?_⟩
      exact ⟨_, rfl, _, rfl, _, _, rfl, rfl, (gcd_cdiv x hy0 hy).2, _, rfl, _, rfl, _, _, rfl, rfl, (gcd_cdiv y hy0 hy).2, by show 2 ≤ sizeLine; decide, k⟩
    · have n' : ¬ y < 0 := by simpa using n
      rw [if_neg n'] at k
      exact ⟨_, rfl, _, rfl, _, _, rfl, rfl, (gcd_cdiv x hy0 hy).1, _, rfl, _, rfl, _, _, rfl, rfl, (gcd_cdiv y hy0 hy).1, by show 2 ≤ sizeLine; decide, k⟩
theorem ok_c_law_take {P : Program} {w : World} {K : PySem.W.Frag} {mg : Str → Option Value} {base : Heap} {a : Ad} (T : Txt K mg a) : FnOk P w K mg base (L2.CX P w) 1 a.f_c_law_take a.d_c_law_take ["deck", "many"] (sp_c_law_take) := by
  refine T.F_c_law_take.okX sc_c_law_take (fun vs H Q E h => ?_) (fun cdv A outer s H vs Q E hr h => ?_)
  · rw [sp_c_law_take, sp_take_eq] at h
    walk_at "len"
  · rw [sp_c_law_take, sp_take_eq] at h
    obtain ⟨d, D, m, rfl, hd, hm, k⟩ := h
    refine ⟨_, (pss_cons (ps_if (pt_cmpR op_eq (pe_callB call_len_seq (by rfl) T.n_len (by decide +kernel) (pa_cons (pv 0) pa_nil)) pe_int (nomark _)) (pss_one (ps_ret pe_int)) pss_nil)
    (pss_one (ps_ret (pe_op op_mod (pe_callTy call_int1 (by rfl) T.n_int (by decide +kernel) (pa_cons (pe_bm0 PySem.F.plainAttrs_list PySem.F.slot_list_pop PySem.F.type_list_pop mt_pop (pv 0)) pa_nil)) (pv 1))))), ?_⟩
    refine ⟨_, rfl, d, _, rfl, .inl (SqL.of hd), rfl, _, rfl, ?_⟩
    cases D with
    | nil =>
      refine iteT ?_
      have e : upd H d (dk []) = H := upd_self hd
      have k' : Q (.int (0 % m)) H := by rw [← e]; exact k
      rw [Int.zero_emod] at k'
      exact k'
    | cons x D =>
      refine ite2 (fun c => ?_) (fun _ => ?_)
      · simp at c
        omega
      · refine ⟨_, rfl, .inl ⟨rfl, _, SqL.of hd⟩, d, _, _, rfl, rfl, hd, dk_last, .inl ⟨_, rfl, _, rfl, _, _, rfl, rfl, hm, ?_⟩⟩
        rw [dk_drop]
        exact k
theorem ok_c_law_number {P : Program} {w : World} {K : PySem.W.Frag} {mg : Str → Option Value} {base : Heap} {a : Ad} (T : Txt K mg a) : FnOk P w K mg base (L2.CX P w) 2 a.f_c_law_number a.d_c_law_number ["deck"] (sp_c_law_number) := by
  have G_c_law_take : FnOk P w K mg base (L2.CX P w) 1 a.f_c_law_take a.d_c_law_take ["deck", "many"] (sp_c_law_take) := ok_c_law_take T
  refine T.F_c_law_number.okX sc_c_law_number (fun vs H Q E h => ?_) (fun cdv A outer s H vs Q E hr h => ?_)
  · rw [sp_c_law_number, sp_number_eq] at h
    walk_at "len"
  · rw [sp_c_law_number, sp_number_eq] at h
    obtain ⟨d, D, rfl, hd, k⟩ := h
    refine ⟨_, (pss_cons (ps_set (i := 1) sc_c_law_number.nd (by rfl) (Or.inl rfl) (pe_call G_c_law_take (hr.mono (by decide)) (by rfl) T.m_c_law_take T.F_c_law_take.kp T.b_c_law_take .nil passL (pa_cons (pv 0) (pa_cons pe_int pa_nil))))
    (pss_cons (ps_if (pt_cmpR op_lt (pv 1) pe_int (nomark _)) (pss_one (ps_ret (pe_op op_sub (pe_call G_c_law_take (hr.mono (by decide)) (by rfl) T.m_c_law_take T.F_c_law_take.kp T.b_c_law_take .nil passL (pa_cons (pv 0) (pa_cons pe_int pa_nil))) pe_int))) pss_nil)
    (pss_cons (ps_set (i := 2) sc_c_law_number.nd (by rfl) (Or.inl rfl) (pe_call G_c_law_take (hr.mono (by decide)) (by rfl) T.m_c_law_take T.F_c_law_take.kp T.b_c_law_take .nil passL (pa_cons (pv 0) (pa_cons pe_int pa_nil))))
    (pss_cons (ps_for (passes_of rfl) rfl (pi_range1 (by rfl) T.n_range (pa_cons (pe_call G_c_law_take (hr.mono (by decide)) (by rfl) T.m_c_law_take T.F_c_law_take.kp T.b_c_law_take .nil passL (pa_cons (pv 0) (pa_cons pe_int pa_nil))) pa_nil)) (pg_name (i := 3) sc_c_law_number.nd (by rfl) (Or.inl rfl)) (pss_one (ps_set (i := 2) sc_c_law_number.nd (by rfl) (Or.inl rfl) (pe_op op_add (pe_op op_mul (pv 2) pe_int) (pe_call G_c_law_take (hr.mono (by decide)) (by rfl) T.m_c_law_take T.F_c_law_take.kp T.b_c_law_take .nil passL (pa_cons (pv 0) (pa_cons pe_int pa_nil)))))))
    (pss_one (ps_ret (pe_op op_mul (pv 2) (pe_ix ix_list (pe_lst (pa_cons pe_int (pa_cons (pe_un un_neg pe_int) pa_nil))) (pe_call G_c_law_take (hr.mono (by decide)) (by rfl) T.m_c_law_take T.F_c_law_take.kp T.b_c_law_take .nil passL (pa_cons (pv 0) (pa_cons pe_int pa_nil))) (fun _ _ => rfl))))))))), ?_⟩
    refine ⟨_, rfl, take_u hd (by decide) ?_⟩
    walk_at "sts"
    refine ite2 (fun _ => ?_) (fun _ => ?_)
    · refine ⟨_, rfl, take_u upd_same (by decide) ?_⟩
      walk_at "sts"
      rw [upd_upd]
      refine k _ _ _ (fun b o n e => by rw [upd_ne n]; exact e) upd_same ?_
      have a := tk_nonneg D.tail (m := 9) (by decide)
      have b := tk_lt D.tail (m := 9) (by decide)
      exact Nat.lt_of_lt_of_le (show _ < 2 ^ 10 by omega) (Nat.pow_le_pow_right (by decide) (by decide))
    · refine ⟨_, rfl, take_u upd_same (by decide) ?_⟩
      rw [upd_upd]
      refine ⟨_, rfl, take_u upd_same (by decide) ?_⟩
      rw [upd_upd]
      have t0 := tk_nonneg D.tail.tail (m := 5) (by decide)
      have t1 := tk_lt D.tail.tail (m := 5) (by decide)
      have n0 := tk_nonneg D.tail (m := 1000003) (by decide)
      have n1 := tk_lt D.tail (m := 1000003) (by decide)
      refine ⟨_, rfl, by omega, by omega, for_range (lo := 0) (n := (tk D.tail.tail 5).toNat) (fun i σ H' => ∃ (n : Int) (v3 : Option V) (D' : List Int), σ = [some (.ref d), some (.int (tk D 5)), some (.int n), v3] ∧ H' = upd H d (dk D') ∧ 0 ≤ n ∧ n < 2 ^ (20 * (i + 1)))
        ⟨_, none, _, rfl, rfl, n0, by omega⟩ ?_ ?_⟩
      · rintro i σ H' hi ⟨n, v3, D', rfl, rfl, m0, m1⟩
        walk_at "sts"
        refine take_u upd_same (by decide) ?_
        rw [upd_upd]
        walk_at "sts"
        have a := tk_nonneg D' (m := 1000003) (by decide)
        have b := tk_lt D' (m := 1000003) (by decide)
        refine ⟨_, _, _, rfl, rfl, by omega, ?_⟩
        have e : (2 : Int) ^ (20 * (i + 1 + 1)) = 1048576 * 2 ^ (20 * (i + 1)) := by
          rw [show 20 * (i + 1 + 1) = 20 + 20 * (i + 1) by omega, Int.pow_add]
          rfl
        rw [e]
        omega
      · rintro σ H' ⟨n, v3, D', rfl, rfl, m0, m1⟩
        have m2 : n < 2 ^ 120 := Int.lt_of_lt_of_le m1 (two_pow_mono (by omega))
        refine ⟨_, rfl, ?_⟩
        walk_at "sts"
        refine ⟨by show 2 ≤ sizeLine; decide, fun l hl => ?_⟩
        have nl : d ≠ l := by
          intro z
          rw [z, upd_same] at hl
          cases hl
        have hl0 : H l = none := by rw [upd_ne nl.symm] at hl; exact hl
        refine ⟨_, rfl, take_u (D := D') (by rw [upd_ne nl]; exact upd_same) (by decide) ?_⟩
        have a := tk_nonneg D' (m := 2) (by decide)
        have b := tk_lt D' (m := 2) (by decide)
        obtain ⟨z, hz, hz2⟩ := atI_ints (ns := [1, -1]) a (by simpa using b)
        refine ⟨l, _, _, .int z, rfl, rfl, SqL.of (by rw [upd_ne nl.symm]; exact upd_same), hz, ?_⟩
        have hz3 : z = 1 ∨ z = -1 := by simpa using hz2
        refine ⟨_, _, rfl, rfl, .inr ⟨by omega, by omega⟩, ?_⟩
        refine k _ _ _ (fun b o nb e => ?_) upd_same ?_
        · rw [upd_ne nb, upd_ne (ne_of_none e hl0), upd_ne nb]
          exact e
        · have e1 : (n * z).natAbs = n.natAbs := by rcases hz3 with rfl | rfl <;> omega
          have e2 : (2 : Int) ^ 120 = ((2 ^ 120 : Nat) : Int) := by rw [Int.natCast_pow]; rfl
          rw [e1]
          exact Nat.lt_of_lt_of_le (show n.natAbs < 2 ^ 120 by omega) (Nat.pow_le_pow_right (by decide) (by decide))

theorem ok_c_law_plain_n {P : Program} {w : World} {K : PySem.W.Frag} {mg : Str → Option Value} {base : Heap} {a : Ad} (T : Txt K mg a) : ∀ n, FnOk P w K mg base (L2.CX P w) (n + 1) a.f_c_law_plain a.d_c_law_plain ["value"] (sp_c_law_plain K n) := by
  have step : ∀ n, (∀ m, m + 1 = n → FnOk P w K mg base (L2.CX P w) (m + 1) a.f_c_law_plain a.d_c_law_plain ["value"] (sp_c_law_plain K m)) → FnOk P w K mg base (L2.CX P w) (n + 1) a.f_c_law_plain a.d_c_law_plain ["value"] (sp_c_law_plain K n) := by
    intro n ih
    refine T.F_c_law_plain.okX sc_c_law_plain (fun vs H Q E h => ?_) (fun cdv A outer s H vs Q E hr h => ?_)
    · walk_at "len"
    · obtain ⟨v, d, rfl, hd, hok, k⟩ := h
      cases d with
      | dict _ => simp [okD] at hok
      | list ds =>
        cases n with
        | zero => simp [okD] at hok
        | succ n =>
        have IH := ih n rfl
        simp only [okD, Bool.and_eq_true, decide_eq_true_eq] at hok
        have hds := hok.1
        cases hd with
        | @lst aa xs _ hsq hall =>
        refine ⟨_, (pss_cons (ps_if (pt_val (pe_callB call_isiT (by rfl) T.n_isinstance (by decide +kernel) (pa_cons (pv 0) (pa_cons (pe_tup (pa_cons (pe_bltn (v := .ty "tuple") (by rfl) T.n_tuple (by decide +kernel) rfl) (pa_cons (pe_bltn (v := .ty "list") (by rfl) T.n_list (by decide +kernel) rfl) pa_nil))) pa_nil)))) (pss_one (ps_ret (pe_op op_cat (pe_lst (pa_cons (pe_callB call_isi (by rfl) T.n_isinstance (by decide +kernel) (pa_cons (pv 0) (pa_cons (pe_bltn (v := .ty "list") (by rfl) T.n_list (by decide +kernel) rfl) pa_nil))) pa_nil)) (pe_lc (own := [("item", 1)]) (g := gName 1) (tt := tYes) (by rfl) sc_c_law_plain.nd (pi_list (pv 0)) (blkOk_by (own := [("item", 1)]) (N := ["value", "item"]) (sc := defScope st_c_law_plain) (by decide +kernel)) (fun _ _ _ _ _ => (pg_name (i := 1) sc_c_law_plain.nd (by rfl) (Or.inl rfl))) (fun _ _ _ _ _ => pts_nil) (fun _ _ _ _ _ => (pe_call IH (hr.mono (by omega)) (by rfl) T.m_c_law_plain T.F_c_law_plain.kp T.b_c_law_plain .nil passL (pa_cons (pv 1) pa_nil))))))) pss_nil)
    (pss_cons (ps_if (PW.pt (pw_or (pt_cmpR op_isN (pv 0) pe_non (nomark _)) (pw_or1 (pt_val (pe_callB call_isi (by rfl) T.n_isinstance (by decide +kernel) (pa_cons (pv 0) (pa_cons (pe_bltn (v := .ty "bool") (by rfl) T.n_bool (by decide +kernel) rfl) pa_nil))))))) (pss_one (ps_ret (pe_ix ix_list (pe_lst (pa_cons pe_str (pa_cons pe_str (pa_cons pe_str pa_nil)))) (pe_op op_add (pe_callTy call_int1 (by rfl) T.n_int (by decide +kernel) (pa_cons (pe_cmpR op_notN (pv 0) pe_non (nomark _)) pa_nil)) (pe_callTy call_int1 (by rfl) T.n_int (by decide +kernel) (pa_cons (pe_cmpR op_isT (pv 0) pe_bl (nomark _)) pa_nil))) (fun _ _ => rfl)))) pss_nil)
    (pss_cons (ps_if (pt_val (pe_callB call_isiT (by rfl) T.n_isinstance (by decide +kernel) (pa_cons (pv 0) (pa_cons (pe_tup (pa_cons (pe_bltn (v := .ty "int") (by rfl) T.n_int (by decide +kernel) rfl) (pa_cons (pe_bltn (v := .ty "str") (by rfl) T.n_str (by decide +kernel) rfl) pa_nil))) pa_nil)))) (pss_one (ps_ret (pe_lst (pa_cons (pe_callB call_isi (by rfl) T.n_isinstance (by decide +kernel) (pa_cons (pv 0) (pa_cons (pe_bltn (v := .ty "str") (by rfl) T.n_str (by decide +kernel) rfl) pa_nil))) (pa_cons (pv 0) pa_nil))))) pss_nil)
    (pss_one (ps_ret pe_str))))), ?_⟩

        refine ⟨_, rfl, by show 2 ≤ sizeLine; decide, fun p hp => ?_⟩
        refine ⟨_, _, [.ty "tuple", .ty "list"], .type "list", _, _, rfl, upd_same, .cons (.ty "tuple") (.cons (.ty "list") .nil), ((kind_l hsq).new hp), kit2 (r1 := false) (r2 := true) (by decide +kernel) (by decide +kernel), ?_⟩
        refine ⟨_, rfl, ?_⟩
        refine iteT ?_
        have s1 : Same H (upd H p (.tup [.ty "tuple", .ty "list"])) := Same.new hp
        refine ⟨_, rfl, .ref aa, .ty "list", _, _, true, rfl, .ty "list", (kind_l hsq).new hp, kit_ty (by decide +kernel), ?_⟩
        refine ⟨by show 1 ≤ sizeLine; decide, fun l hl => ?_⟩
        have s2 := s1.then_new (o := .lst [.bl true]) hl
        have hl0 : H l = none := s1.free hl
        refine ⟨_, rfl, aa, rfl, ⟨_, Same.seq s2 hsq⟩, fun E' hE => ?_⟩
        have hE0 : H E' = none := s2.free hE
        have nlE : l ≠ E' := by
          intro z
          rw [z, upd_same] at hE
          cases hE
        refine lc_list (K := K) (a := aa) (xs := xs) (fun i H' => Same H H' ∧ H' l = some (.lst [.bl true]) ∧ ∃ acc, H' E' = some (.lst acc) ∧ DNs (fun b => H b = none ∧ b ≠ E' ∧ b ≠ l) H' acc (plainDs (ds.take i)) ∧ acc.length ≤ i)
          ⟨s2.then_new hE, by rw [upd_ne nlE]; exact upd_same, [], upd_same, by simp only [List.take_zero, plainDs]; exact .nil, Nat.le_refl _⟩ (fun i H' _ q => Same.seq q.1 hsq) ?_ ?_
        · rintro i x H' hi ⟨s3, h3, acc, ha, hn, hz⟩
          obtain ⟨dx, hdx, hx⟩ := dpAll_get hall hi
          have hi1 : i < ds.length := (List.getElem?_eq_some_iff.mp hdx).1
          refine ⟨rfl, ?_⟩
          refine ⟨_, rfl, x, dx, rfl, dp_same s3 dx x hx, okDs_get hok.2 hdx, fun v' H'' s4 hv => ?_⟩
          have hE2 := s4 _ _ ha
          have nn : ∀ b, H' b = none → H b = none ∧ b ≠ E' ∧ b ≠ l := fun b hb => ⟨s3.free hb, (fun z => by rw [z, ha] at hb; cases hb), (fun z => by rw [z, h3] at hb; cases hb)⟩
          refine ⟨acc, hE2, small1000000 (by omega), (s3.trans s4).mut hE0, by rw [upd_ne nlE]; exact s4 _ _ h3, acc ++ [v'], upd_same, ?_, by rw [List.length_append]; show _ + 1 ≤ _; omega⟩
          rw [plainDs_take hdx]
          exact DNs.snoc (DN.mono nn (fun b o hb e => by rw [upd_ne (nn b hb).2.1]; exact e) _ _ hv) (DNs.mono (fun _ z => z) (fun b o hb e => by rw [upd_ne hb.2.1]; exact s4 _ _ e) _ _ hn)
        · rintro H' ⟨s3, h3, acc, ha, hn, hz⟩
          have el : ds.take xs.length = ds := by rw [dpAll_length hall, List.take_length]
          rw [el] at hn
          have hlen : acc.length ≤ 1000 := by have := dpAll_length hall; omega
          refine ⟨l, E', _, _, rfl, rfl, h3, ha, Nat.le_of_lt (small1000000 (by show 1 + _ ≤ _; omega)), fun r hr' => ?_⟩
          have hr0 : H r = none := s3.free hr'
          refine k _ _ (s3.then_new hr') ?_
          simp only [plainD]
          refine .lst hr0 upd_same (.cons (.bl _) (DNs.mono (fun b z => z.1) (fun b o hb e => ?_) _ _ hn))
          rw [upd_ne (ne_of_none e hr')]
          exact e

      | tuple ds =>
        cases n with
        | zero => simp [okD] at hok
        | succ n =>
        have IH := ih n rfl
        simp only [okD, Bool.and_eq_true, decide_eq_true_eq] at hok
        have hds := hok.1
        cases hd with
        | @tup aa xs _ hsq hall =>
        refine ⟨_, (pss_cons (ps_if (pt_val (pe_callB call_isiT (by rfl) T.n_isinstance (by decide +kernel) (pa_cons (pv 0) (pa_cons (pe_tup (pa_cons (pe_bltn (v := .ty "tuple") (by rfl) T.n_tuple (by decide +kernel) rfl) (pa_cons (pe_bltn (v := .ty "list") (by rfl) T.n_list (by decide +kernel) rfl) pa_nil))) pa_nil)))) (pss_one (ps_ret (pe_op op_cat (pe_lst (pa_cons (pe_callB call_isi (by rfl) T.n_isinstance (by decide +kernel) (pa_cons (pv 0) (pa_cons (pe_bltn (v := .ty "list") (by rfl) T.n_list (by decide +kernel) rfl) pa_nil))) pa_nil)) (pe_lc (own := [("item", 1)]) (g := gName 1) (tt := tYes) (by rfl) sc_c_law_plain.nd (pi_tup (pv 0)) (blkOk_by (own := [("item", 1)]) (N := ["value", "item"]) (sc := defScope st_c_law_plain) (by decide +kernel)) (fun _ _ _ _ _ => (pg_name (i := 1) sc_c_law_plain.nd (by rfl) (Or.inl rfl))) (fun _ _ _ _ _ => pts_nil) (fun _ _ _ _ _ => (pe_call IH (hr.mono (by omega)) (by rfl) T.m_c_law_plain T.F_c_law_plain.kp T.b_c_law_plain .nil passL (pa_cons (pv 1) pa_nil))))))) pss_nil)
    (pss_cons (ps_if (PW.pt (pw_or (pt_cmpR op_isN (pv 0) pe_non (nomark _)) (pw_or1 (pt_val (pe_callB call_isi (by rfl) T.n_isinstance (by decide +kernel) (pa_cons (pv 0) (pa_cons (pe_bltn (v := .ty "bool") (by rfl) T.n_bool (by decide +kernel) rfl) pa_nil))))))) (pss_one (ps_ret (pe_ix ix_list (pe_lst (pa_cons pe_str (pa_cons pe_str (pa_cons pe_str pa_nil)))) (pe_op op_add (pe_callTy call_int1 (by rfl) T.n_int (by decide +kernel) (pa_cons (pe_cmpR op_notN (pv 0) pe_non (nomark _)) pa_nil)) (pe_callTy call_int1 (by rfl) T.n_int (by decide +kernel) (pa_cons (pe_cmpR op_isT (pv 0) pe_bl (nomark _)) pa_nil))) (fun _ _ => rfl)))) pss_nil)
    (pss_cons (ps_if (pt_val (pe_callB call_isiT (by rfl) T.n_isinstance (by decide +kernel) (pa_cons (pv 0) (pa_cons (pe_tup (pa_cons (pe_bltn (v := .ty "int") (by rfl) T.n_int (by decide +kernel) rfl) (pa_cons (pe_bltn (v := .ty "str") (by rfl) T.n_str (by decide +kernel) rfl) pa_nil))) pa_nil)))) (pss_one (ps_ret (pe_lst (pa_cons (pe_callB call_isi (by rfl) T.n_isinstance (by decide +kernel) (pa_cons (pv 0) (pa_cons (pe_bltn (v := .ty "str") (by rfl) T.n_str (by decide +kernel) rfl) pa_nil))) (pa_cons (pv 0) pa_nil))))) pss_nil)
    (pss_one (ps_ret pe_str))))), ?_⟩

        refine ⟨_, rfl, by show 2 ≤ sizeLine; decide, fun p hp => ?_⟩
        refine ⟨_, _, [.ty "tuple", .ty "list"], .type "tuple", _, _, rfl, upd_same, .cons (.ty "tuple") (.cons (.ty "list") .nil), ((kind_t hsq).new hp), kit2 (r1 := true) (r2 := false) (by decide +kernel) (by decide +kernel), ?_⟩
        refine ⟨_, rfl, ?_⟩
        refine iteT ?_
        have s1 : Same H (upd H p (.tup [.ty "tuple", .ty "list"])) := Same.new hp
        refine ⟨_, rfl, .ref aa, .ty "list", _, _, false, rfl, .ty "list", (kind_t hsq).new hp, kit_ty (by decide +kernel), ?_⟩
        refine ⟨by show 1 ≤ sizeLine; decide, fun l hl => ?_⟩
        have s2 := s1.then_new (o := .lst [.bl false]) hl
        have hl0 : H l = none := s1.free hl
        refine ⟨_, rfl, aa, rfl, ⟨_, Same.tup s2 hsq⟩, fun E' hE => ?_⟩
        have hE0 : H E' = none := s2.free hE
        have nlE : l ≠ E' := by
          intro z
          rw [z, upd_same] at hE
          cases hE
        refine lc_tup (K := K) (a := aa) (xs := xs) (fun i H' => Same H H' ∧ H' l = some (.lst [.bl false]) ∧ ∃ acc, H' E' = some (.lst acc) ∧ DNs (fun b => H b = none ∧ b ≠ E' ∧ b ≠ l) H' acc (plainDs (ds.take i)) ∧ acc.length ≤ i)
          ⟨s2.then_new hE, by rw [upd_ne nlE]; exact upd_same, [], upd_same, by simp only [List.take_zero, plainDs]; exact .nil, Nat.le_refl _⟩ (fun i H' _ q => Same.tup q.1 hsq) ?_ ?_
        · rintro i x H' hi ⟨s3, h3, acc, ha, hn, hz⟩
          obtain ⟨dx, hdx, hx⟩ := dpAll_get hall hi
          have hi1 : i < ds.length := (List.getElem?_eq_some_iff.mp hdx).1
          refine ⟨rfl, ?_⟩
          refine ⟨_, rfl, x, dx, rfl, dp_same s3 dx x hx, okDs_get hok.2 hdx, fun v' H'' s4 hv => ?_⟩
          have hE2 := s4 _ _ ha
          have nn : ∀ b, H' b = none → H b = none ∧ b ≠ E' ∧ b ≠ l := fun b hb => ⟨s3.free hb, (fun z => by rw [z, ha] at hb; cases hb), (fun z => by rw [z, h3] at hb; cases hb)⟩
          refine ⟨acc, hE2, small1000000 (by omega), (s3.trans s4).mut hE0, by rw [upd_ne nlE]; exact s4 _ _ h3, acc ++ [v'], upd_same, ?_, by rw [List.length_append]; show _ + 1 ≤ _; omega⟩
          rw [plainDs_take hdx]
          exact DNs.snoc (DN.mono nn (fun b o hb e => by rw [upd_ne (nn b hb).2.1]; exact e) _ _ hv) (DNs.mono (fun _ z => z) (fun b o hb e => by rw [upd_ne hb.2.1]; exact s4 _ _ e) _ _ hn)
        · rintro H' ⟨s3, h3, acc, ha, hn, hz⟩
          have el : ds.take xs.length = ds := by rw [dpAll_length hall, List.take_length]
          rw [el] at hn
          have hlen : acc.length ≤ 1000 := by have := dpAll_length hall; omega
          refine ⟨l, E', _, _, rfl, rfl, h3, ha, Nat.le_of_lt (small1000000 (by show 1 + _ ≤ _; omega)), fun r hr' => ?_⟩
          have hr0 : H r = none := s3.free hr'
          refine k _ _ (s3.then_new hr') ?_
          simp only [plainD]
          refine .lst hr0 upd_same (.cons (.bl _) (DNs.mono (fun b z => z.1) (fun b o hb e => ?_) _ _ hn))
          rw [upd_ne (ne_of_none e hr')]
          exact e

      | none =>
        cases hd
        refine ⟨_, (pss_cons (ps_if (pt_val (pe_callB call_isiT (by rfl) T.n_isinstance (by decide +kernel) (pa_cons (pv 0) (pa_cons (pe_tup (pa_cons (pe_bltn (v := .ty "tuple") (by rfl) T.n_tuple (by decide +kernel) rfl) (pa_cons (pe_bltn (v := .ty "list") (by rfl) T.n_list (by decide +kernel) rfl) pa_nil))) pa_nil)))) (pss_one ps_never) pss_nil)
    (pss_cons (ps_if (PW.pt (pw_or (pt_cmpR op_isN (pv 0) pe_non (nomark _)) (pw_or1 (pt_val (pe_callB call_isi (by rfl) T.n_isinstance (by decide +kernel) (pa_cons (pv 0) (pa_cons (pe_bltn (v := .ty "bool") (by rfl) T.n_bool (by decide +kernel) rfl) pa_nil))))))) (pss_one (ps_ret (pe_ix ix_list (pe_lst (pa_cons pe_str (pa_cons pe_str (pa_cons pe_str pa_nil)))) (pe_op op_add (pe_callTy call_int1 (by rfl) T.n_int (by decide +kernel) (pa_cons (pe_cmpR op_notN (pv 0) pe_non (nomark _)) pa_nil)) (pe_callTy call_int1 (by rfl) T.n_int (by decide +kernel) (pa_cons (pe_cmpR op_isT (pv 0) pe_bl (nomark _)) pa_nil))) (fun _ _ => rfl)))) pss_nil)
    (pss_cons (ps_if (pt_val (pe_callB call_isiT (by rfl) T.n_isinstance (by decide +kernel) (pa_cons (pv 0) (pa_cons (pe_tup (pa_cons (pe_bltn (v := .ty "int") (by rfl) T.n_int (by decide +kernel) rfl) (pa_cons (pe_bltn (v := .ty "str") (by rfl) T.n_str (by decide +kernel) rfl) pa_nil))) pa_nil)))) (pss_one (ps_ret (pe_lst (pa_cons (pe_callB call_isi (by rfl) T.n_isinstance (by decide +kernel) (pa_cons (pv 0) (pa_cons (pe_bltn (v := .ty "str") (by rfl) T.n_str (by decide +kernel) rfl) pa_nil))) (pa_cons (pv 0) pa_nil))))) pss_nil)
    (pss_one (ps_ret pe_str))))), ?_⟩

        refine ⟨_, rfl, by show 2 ≤ sizeLine; decide, fun p hp => ?_⟩
        refine ⟨_, _, [.ty "tuple", .ty "list"], .type "NoneType", _, _, rfl, upd_same, .cons (.ty "tuple") (.cons (.ty "list") .nil), (.base .non), kit2 (r1 := false) (r2 := false) (by decide +kernel) (by decide +kernel), ?_⟩
        refine ⟨_, rfl, ?_⟩
        refine iteF ?_
        have s1 : Same H (upd H p (.tup [.ty "tuple", .ty "list"])) := Same.new hp

        refine ⟨_, rfl, rfl, _, rfl, ?_⟩
        refine iteT ?_
        refine iteT ?_
        refine ⟨by show 3 ≤ sizeLine; decide, fun l hl => ?_⟩
        refine ⟨_, rfl, rfl, .inr ⟨_, rfl, ?_⟩⟩
        refine ⟨_, rfl, .inr ⟨rfl, _, rfl, .inr ⟨_, rfl, ?_⟩⟩⟩
        refine ⟨_, _, rfl, rfl, ?_⟩
        refine ⟨l, _, _, _, rfl, rfl, SqL.of upd_same, atI_nat' (j := 0) (by decide) rfl, ?_⟩
        exact k _ _ (s1.then_new hl) (by simp only [plainD]; exact .str _)
      | bool b =>
        cases hd
        refine ⟨_, (pss_cons (ps_if (pt_val (pe_callB call_isiT (by rfl) T.n_isinstance (by decide +kernel) (pa_cons (pv 0) (pa_cons (pe_tup (pa_cons (pe_bltn (v := .ty "tuple") (by rfl) T.n_tuple (by decide +kernel) rfl) (pa_cons (pe_bltn (v := .ty "list") (by rfl) T.n_list (by decide +kernel) rfl) pa_nil))) pa_nil)))) (pss_one ps_never) pss_nil)
    (pss_cons (ps_if (PW.pt (pw_or (pt_cmpR op_isN (pv 0) pe_non (nomark _)) (pw_or1 (pt_val (pe_callB call_isi (by rfl) T.n_isinstance (by decide +kernel) (pa_cons (pv 0) (pa_cons (pe_bltn (v := .ty "bool") (by rfl) T.n_bool (by decide +kernel) rfl) pa_nil))))))) (pss_one (ps_ret (pe_ix ix_list (pe_lst (pa_cons pe_str (pa_cons pe_str (pa_cons pe_str pa_nil)))) (pe_op op_add (pe_callTy call_int1 (by rfl) T.n_int (by decide +kernel) (pa_cons (pe_cmpR op_notN (pv 0) pe_non (nomark _)) pa_nil)) (pe_callTy call_int1 (by rfl) T.n_int (by decide +kernel) (pa_cons (pe_cmpR op_isT (pv 0) pe_bl (nomark _)) pa_nil))) (fun _ _ => rfl)))) pss_nil)
    (pss_cons (ps_if (pt_val (pe_callB call_isiT (by rfl) T.n_isinstance (by decide +kernel) (pa_cons (pv 0) (pa_cons (pe_tup (pa_cons (pe_bltn (v := .ty "int") (by rfl) T.n_int (by decide +kernel) rfl) (pa_cons (pe_bltn (v := .ty "str") (by rfl) T.n_str (by decide +kernel) rfl) pa_nil))) pa_nil)))) (pss_one (ps_ret (pe_lst (pa_cons (pe_callB call_isi (by rfl) T.n_isinstance (by decide +kernel) (pa_cons (pv 0) (pa_cons (pe_bltn (v := .ty "str") (by rfl) T.n_str (by decide +kernel) rfl) pa_nil))) (pa_cons (pv 0) pa_nil))))) pss_nil)
    (pss_one (ps_ret pe_str))))), ?_⟩

        refine ⟨_, rfl, by show 2 ≤ sizeLine; decide, fun p hp => ?_⟩
        refine ⟨_, _, [.ty "tuple", .ty "list"], .type "bool", _, _, rfl, upd_same, .cons (.ty "tuple") (.cons (.ty "list") .nil), (.base (.bl _)), kit2 (r1 := false) (r2 := false) (by decide +kernel) (by decide +kernel), ?_⟩
        refine ⟨_, rfl, ?_⟩
        refine iteF ?_
        have s1 : Same H (upd H p (.tup [.ty "tuple", .ty "list"])) := Same.new hp

        refine ⟨_, rfl, rfl, _, rfl, ?_⟩
        refine iteF ?_
        refine ⟨_, rfl, _, .ty "bool", _, _, true, rfl, .ty "bool", .base (.bl _), kit_ty (by decide +kernel), _, rfl, ?_⟩
        refine iteT ?_
        refine ⟨by show 3 ≤ sizeLine; decide, fun l hl => ?_⟩
        refine ⟨_, rfl, rfl, .inr ⟨_, rfl, ?_⟩⟩
        refine ⟨_, rfl, .inl ⟨_, _, rfl, rfl, .inr ⟨_, rfl, ?_⟩⟩⟩
        refine ⟨_, _, rfl, rfl, ?_⟩
        cases b
        · refine ⟨l, _, _, _, rfl, rfl, SqL.of upd_same, atI_nat' (j := 1) (by decide) rfl, ?_⟩
          exact k _ _ (s1.then_new hl) (by simp only [plainD]; exact .str _)
        · refine ⟨l, _, _, _, rfl, rfl, SqL.of upd_same, atI_nat' (j := 2) (by decide) rfl, ?_⟩
          exact k _ _ (s1.then_new hl) (by simp only [plainD]; exact .str _)
      | int i =>
        cases hd
        refine ⟨_, (pss_cons (ps_if (pt_val (pe_callB call_isiT (by rfl) T.n_isinstance (by decide +kernel) (pa_cons (pv 0) (pa_cons (pe_tup (pa_cons (pe_bltn (v := .ty "tuple") (by rfl) T.n_tuple (by decide +kernel) rfl) (pa_cons (pe_bltn (v := .ty "list") (by rfl) T.n_list (by decide +kernel) rfl) pa_nil))) pa_nil)))) (pss_one ps_never) pss_nil)
    (pss_cons (ps_if (PW.pt (pw_or (pt_cmpR op_isN (pv 0) pe_non (nomark _)) (pw_or1 (pt_val (pe_callB call_isi (by rfl) T.n_isinstance (by decide +kernel) (pa_cons (pv 0) (pa_cons (pe_bltn (v := .ty "bool") (by rfl) T.n_bool (by decide +kernel) rfl) pa_nil))))))) (pss_one (ps_ret (pe_ix ix_list (pe_lst (pa_cons pe_str (pa_cons pe_str (pa_cons pe_str pa_nil)))) (pe_op op_add (pe_callTy call_int1 (by rfl) T.n_int (by decide +kernel) (pa_cons (pe_cmpR op_notN (pv 0) pe_non (nomark _)) pa_nil)) (pe_callTy call_int1 (by rfl) T.n_int (by decide +kernel) (pa_cons (pe_cmpR op_isT (pv 0) pe_bl (nomark _)) pa_nil))) (fun _ _ => rfl)))) pss_nil)
    (pss_cons (ps_if (pt_val (pe_callB call_isiT (by rfl) T.n_isinstance (by decide +kernel) (pa_cons (pv 0) (pa_cons (pe_tup (pa_cons (pe_bltn (v := .ty "int") (by rfl) T.n_int (by decide +kernel) rfl) (pa_cons (pe_bltn (v := .ty "str") (by rfl) T.n_str (by decide +kernel) rfl) pa_nil))) pa_nil)))) (pss_one (ps_ret (pe_lst (pa_cons (pe_callB call_isi (by rfl) T.n_isinstance (by decide +kernel) (pa_cons (pv 0) (pa_cons (pe_bltn (v := .ty "str") (by rfl) T.n_str (by decide +kernel) rfl) pa_nil))) (pa_cons (pv 0) pa_nil))))) pss_nil)
    (pss_one (ps_ret pe_str))))), ?_⟩

        refine ⟨_, rfl, by show 2 ≤ sizeLine; decide, fun p hp => ?_⟩
        refine ⟨_, _, [.ty "tuple", .ty "list"], .type "int", _, _, rfl, upd_same, .cons (.ty "tuple") (.cons (.ty "list") .nil), (.base (.int _)), kit2 (r1 := false) (r2 := false) (by decide +kernel) (by decide +kernel), ?_⟩
        refine ⟨_, rfl, ?_⟩
        refine iteF ?_
        have s1 : Same H (upd H p (.tup [.ty "tuple", .ty "list"])) := Same.new hp

        refine ⟨_, rfl, rfl, _, rfl, ?_⟩
        refine iteF ?_
        refine ⟨_, rfl, _, .ty "bool", _, _, false, rfl, .ty "bool", .base (.int _), kit_ty (by decide +kernel), _, rfl, ?_⟩
        refine iteF ?_
        refine ⟨_, rfl, by show 2 ≤ sizeLine; decide, fun q hq => ?_⟩
        refine ⟨_, _, [.ty "int", .ty "str"], .type "int", _, _, rfl, upd_same, .cons (.ty "int") (.cons (.ty "str") .nil), (.base (.int _)), kit2 (r1 := true) (r2 := false) (by decide +kernel) (by decide +kernel), ?_⟩
        refine ⟨_, rfl, ?_⟩
        refine iteT ?_
        have s2 := s1.then_new (o := .tup [.ty "int", .ty "str"]) hq
        refine ⟨_, rfl, _, .ty "str", _, _, false, rfl, .ty "str", .base (.int _), kit_ty (by decide +kernel), ?_⟩
        refine ⟨_, rfl, by show 2 ≤ sizeLine; decide, fun l hl => ?_⟩
        refine k _ _ (s2.then_new hl) ?_
        simp only [plainD]
        exact .lst (s2.free hl) upd_same (.cons (.bl _) (.cons (.int _) .nil))
      | str i =>
        cases hd
        refine ⟨_, (pss_cons (ps_if (pt_val (pe_callB call_isiT (by rfl) T.n_isinstance (by decide +kernel) (pa_cons (pv 0) (pa_cons (pe_tup (pa_cons (pe_bltn (v := .ty "tuple") (by rfl) T.n_tuple (by decide +kernel) rfl) (pa_cons (pe_bltn (v := .ty "list") (by rfl) T.n_list (by decide +kernel) rfl) pa_nil))) pa_nil)))) (pss_one ps_never) pss_nil)
    (pss_cons (ps_if (PW.pt (pw_or (pt_cmpR op_isN (pv 0) pe_non (nomark _)) (pw_or1 (pt_val (pe_callB call_isi (by rfl) T.n_isinstance (by decide +kernel) (pa_cons (pv 0) (pa_cons (pe_bltn (v := .ty "bool") (by rfl) T.n_bool (by decide +kernel) rfl) pa_nil))))))) (pss_one (ps_ret (pe_ix ix_list (pe_lst (pa_cons pe_str (pa_cons pe_str (pa_cons pe_str pa_nil)))) (pe_op op_add (pe_callTy call_int1 (by rfl) T.n_int (by decide +kernel) (pa_cons (pe_cmpR op_notN (pv 0) pe_non (nomark _)) pa_nil)) (pe_callTy call_int1 (by rfl) T.n_int (by decide +kernel) (pa_cons (pe_cmpR op_isT (pv 0) pe_bl (nomark _)) pa_nil))) (fun _ _ => rfl)))) pss_nil)
    (pss_cons (ps_if (pt_val (pe_callB call_isiT (by rfl) T.n_isinstance (by decide +kernel) (pa_cons (pv 0) (pa_cons (pe_tup (pa_cons (pe_bltn (v := .ty "int") (by rfl) T.n_int (by decide +kernel) rfl) (pa_cons (pe_bltn (v := .ty "str") (by rfl) T.n_str (by decide +kernel) rfl) pa_nil))) pa_nil)))) (pss_one (ps_ret (pe_lst (pa_cons (pe_callB call_isi (by rfl) T.n_isinstance (by decide +kernel) (pa_cons (pv 0) (pa_cons (pe_bltn (v := .ty "str") (by rfl) T.n_str (by decide +kernel) rfl) pa_nil))) (pa_cons (pv 0) pa_nil))))) pss_nil)
    (pss_one (ps_ret pe_str))))), ?_⟩

        refine ⟨_, rfl, by show 2 ≤ sizeLine; decide, fun p hp => ?_⟩
        refine ⟨_, _, [.ty "tuple", .ty "list"], .type "str", _, _, rfl, upd_same, .cons (.ty "tuple") (.cons (.ty "list") .nil), (.base (.str _)), kit2 (r1 := false) (r2 := false) (by decide +kernel) (by decide +kernel), ?_⟩
        refine ⟨_, rfl, ?_⟩
        refine iteF ?_
        have s1 : Same H (upd H p (.tup [.ty "tuple", .ty "list"])) := Same.new hp

        refine ⟨_, rfl, rfl, _, rfl, ?_⟩
        refine iteF ?_
        refine ⟨_, rfl, _, .ty "bool", _, _, false, rfl, .ty "bool", .base (.str _), kit_ty (by decide +kernel), _, rfl, ?_⟩
        refine iteF ?_
        refine ⟨_, rfl, by show 2 ≤ sizeLine; decide, fun q hq => ?_⟩
        refine ⟨_, _, [.ty "int", .ty "str"], .type "str", _, _, rfl, upd_same, .cons (.ty "int") (.cons (.ty "str") .nil), (.base (.str _)), kit2 (r1 := false) (r2 := true) (by decide +kernel) (by decide +kernel), ?_⟩
        refine ⟨_, rfl, ?_⟩
        refine iteT ?_
        have s2 := s1.then_new (o := .tup [.ty "int", .ty "str"]) hq
        refine ⟨_, rfl, _, .ty "str", _, _, true, rfl, .ty "str", .base (.str _), kit_ty (by decide +kernel), ?_⟩
        refine ⟨_, rfl, by show 2 ≤ sizeLine; decide, fun l hl => ?_⟩
        refine k _ _ (s2.then_new hl) ?_
        simp only [plainD]
        exact .lst (s2.free hl) upd_same (.cons (.bl _) (.cons (.str _) .nil))
  intro n
  induction n with
  | zero => exact step 0 fun m e => by omega
  | succ n ih => exact step (n + 1) fun m e => by have : m = n := by omega
                                                  subst this
                                                  exact ih
theorem ok_c_law_plain {P : Program} {w : World} {K : PySem.W.Frag} {mg : Str → Option Value} {base : Heap} {a : Ad} (T : Txt K mg a) : FnOk P w K mg base (L2.CX P w) 5 a.f_c_law_plain a.d_c_law_plain ["value"] (sp_c_law_plain K 4) := ok_c_law_plain_n T 4

theorem ok_c_law_right {P : Program} {w : World} {K : PySem.W.Frag} {mg : Str → Option Value} {base : Heap} {a : Ad} (T : Txt K mg a) : FnOk P w K mg base (L2.CX P w) 1 a.f_c_law_right a.d_c_law_right ["above", "below", "way", "told"] (sp_c_law_right) := by
  refine T.F_c_law_right.okX sc_c_law_right (fun vs H Q E h => ?_) (fun cdv A outer s H vs Q E hr h => ?_)
  · walk_at "len"
  · obtain ⟨x, y, t, i, rfl, hi, hy, hR, k⟩ := h
    refine ⟨_, (Evl.pss_cut (ps_if (pt_cmpR op_lt (pv 1) pe_int (nomark _)) (pss_one (ps_par (i := 0) (j := 1) (by rfl) sc_c_law_right.nd (by rfl) (by rfl) (by decide) (by rfl) (by rfl) (pa_cons (pe_un un_neg (pv 0)) (pa_cons (pe_un un_neg (pv 1)) pa_nil)) (by rfl))) pss_nil)
    (pss_cons (ps_set (i := 4) sc_c_law_right.nd (by rfl) (Or.inl rfl) (pe_op op_sub (pv 0) (pe_op op_mul (pv 3) (pv 1))))
    (pss_cons (ps_if (pt_not (pt_chain op_lt op_lt (pe_un un_neg (pv 1)) (pv 4) (pv 1))) (pss_one (ps_ret pe_bl)) pss_nil)
    (pss_cons (ps_if (pt_cmpR op_eq (pv 2) pe_str (nomark _)) (pss_one (ps_ret (pe_cmpR op_ge (pv 4) pe_int (nomark _)))) pss_nil)
    (pss_cons (ps_if (pt_cmpR op_eq (pv 2) pe_str (nomark _)) (pss_one (ps_ret (pe_cmpR op_le (pv 4) pe_int (nomark _)))) pss_nil)
    (pss_cons (ps_if (pt_cmpR op_eq (pv 2) pe_str (nomark _)) (pss_one (ps_ret (pe_ifExp (pt_cmpR op_ge (pv 0) pe_int (nomark _)) (pe_cmpR op_ge (pv 4) pe_int (nomark _)) (pe_cmpR op_le (pv 4) pe_int (nomark _))))) pss_nil)
    (pss_cons (ps_if (pt_cmpR op_eq (pe_op op_mul pe_int (pe_callB call_abs (by rfl) T.n_abs (by decide +kernel) (pa_cons (pv 4) pa_nil))) (pv 1) (nomark _)) (pss_one (ps_ret (pe_ifExp (pt_cmpR op_eq (pv 2) pe_str (nomark _)) (pe_cmpR op_lt (pv 4) pe_int (nomark _)) (pe_cmpR op_eq (pe_op op_mod (pe_callTy call_int1 (by rfl) T.n_int (by decide +kernel) (pa_cons (pv 3) pa_nil)) pe_int) pe_int (nomark _))))) pss_nil)
    (pss_one (ps_ret (pe_cmpR op_lt (pe_op op_mul pe_int (pe_callB call_abs (by rfl) T.n_abs (by decide +kernel) (pa_cons (pv 4) pa_nil))) (pv 1) (nomark _))))))))))), ?_⟩
    refine ⟨fun σ H' => ∃ X Y : Int, 0 < Y ∧ Y < 2 ^ 60 ∧ RT X Y i t ∧ σ = [some (.int X), some (.int Y), some (.str (wayS i)), some (.int t), none] ∧ H' = H, ?_, ?_⟩
    · refine ⟨_, rfl, _, _, rfl, rfl, _, rfl, ?_⟩
      refine ite2 (fun c => ?_) (fun c => ?_)
      · have c' := of_decide_eq_true c
        rw [if_pos c'] at hR
        have e : (y.natAbs : Int) = -y := by omega
        rw [e] at hR
        exact ⟨_, rfl, _, rfl, _, rfl, _, rfl, _, _, rfl, -x, -y, by omega, by omega, hR, rfl, rfl⟩
      · have c' : ¬ y < 0 := fun z => c (decide_eq_true z)
        rw [if_neg c'] at hR
        have hy0 : y ≠ 0 := by
          intro z
          subst z
          obtain ⟨r1, r2, _⟩ := hR
          simp at r1 r2
          omega
        have e : (y.natAbs : Int) = y := by omega
        rw [e] at hR
        exact ⟨x, y, by omega, by omega, hR, rfl, rfl⟩
    · rintro σ H' ⟨X, Y, hY, hY2, hR, rfl, rfl⟩
      obtain ⟨r1, r2, r3⟩ := hR
      refine ⟨_, rfl, _, rfl, _, rfl, _, _, rfl, rfl, .inr ⟨by omega, by omega⟩, _, _, rfl, rfl, ?_⟩
      refine ⟨_, rfl, _, rfl, _, rfl, _, _, rfl, rfl, _, rfl, ?_⟩
      refine ite2 (fun c => ?_) (fun c => absurd (decide_eq_true r1) c)
      refine ⟨_, rfl, _, _, rfl, rfl, _, rfl, ?_⟩
      refine ite2 (fun c => absurd c (by simp [r2])) (fun _ => ?_)
      refine ⟨_, rfl, rfl, _, rfl, ?_⟩
      have hi' : i = 0 ∨ i = 1 ∨ i = 2 ∨ i = 3 ∨ i = 4 := by omega
      have near : ∀ b : Bool, b = true → Q (.bl b) H' := fun b hb => by rw [hb]; exact k
      rcases hi' with rfl | rfl | rfl | rfl | rfl
      · refine ite2 (fun _ => ?_) (fun c => absurd (by decide +kernel) c)
        exact ⟨_, rfl, _, _, rfl, rfl, near _ (decide_eq_true (show 0 ≤ X - t * Y from r3))⟩
      · refine ite2 (fun c => absurd c (by decide +kernel)) (fun _ => ?_)
        refine ⟨_, rfl, rfl, _, rfl, ?_⟩
        refine ite2 (fun _ => ?_) (fun c => absurd (by decide +kernel) c)
        exact ⟨_, rfl, _, _, rfl, rfl, near _ (decide_eq_true (show X - t * Y ≤ 0 from r3))⟩
      · refine ite2 (fun c => absurd c (by decide +kernel)) (fun _ => ?_)
        refine ⟨_, rfl, rfl, _, rfl, ?_⟩
        refine ite2 (fun c => absurd c (by decide +kernel)) (fun _ => ?_)
        refine ⟨_, rfl, rfl, _, rfl, ?_⟩
        refine ite2 (fun _ => ?_) (fun c => absurd (by decide +kernel) c)
        have r4 : if 0 ≤ X then 0 ≤ X - t * Y else X - t * Y ≤ 0 := r3
        refine ⟨_, rfl, _, _, rfl, rfl, _, rfl, ?_⟩
        refine ite2 (fun c => ?_) (fun c => ?_)
        · rw [if_pos (of_decide_eq_true c)] at r4
          exact ⟨_, rfl, _, _, rfl, rfl, near _ (decide_eq_true r4)⟩
        · rw [if_neg (fun z => c (decide_eq_true z))] at r4
          exact ⟨_, rfl, _, _, rfl, rfl, near _ (decide_eq_true r4)⟩
      · refine ite2 (fun c => absurd c (by decide +kernel)) (fun _ => ?_)
        refine ⟨_, rfl, rfl, _, rfl, ?_⟩
        refine ite2 (fun c => absurd c (by decide +kernel)) (fun _ => ?_)
        refine ⟨_, rfl, rfl, _, rfl, ?_⟩
        refine ite2 (fun c => absurd c (by decide +kernel)) (fun _ => ?_)
        have r4 : if 2 * ((X - t * Y).natAbs : Int) = Y then X - t * Y < 0 else 2 * ((X - t * Y).natAbs : Int) < Y := r3
        rw [← abs_nat] at r4
        refine ⟨_, rfl, _, rfl, _, _, rfl, rfl, .inl ⟨by decide, by decide⟩, _, rfl, rfl, _, rfl, ?_⟩
        refine ite2 (fun c => ?_) (fun c => ?_)
        · rw [if_pos (V.int.inj (of_decide_eq_true c))] at r4
          refine ⟨_, rfl, rfl, _, rfl, ?_⟩
          refine ite2 (fun _ => ?_) (fun c => absurd (by decide +kernel) c)
          exact ⟨_, rfl, _, _, rfl, rfl, near _ (decide_eq_true r4)⟩
        · rw [if_neg (fun z => c (decide_eq_true (congrArg V.int z)))] at r4
          exact ⟨_, rfl, _, rfl, _, _, rfl, rfl, .inl ⟨by decide, by decide⟩, _, rfl, _, _, rfl, rfl, near _ (decide_eq_true r4)⟩
      · refine ite2 (fun c => absurd c (by decide +kernel)) (fun _ => ?_)
        refine ⟨_, rfl, rfl, _, rfl, ?_⟩
        refine ite2 (fun c => absurd c (by decide +kernel)) (fun _ => ?_)
        refine ⟨_, rfl, rfl, _, rfl, ?_⟩
        refine ite2 (fun c => absurd c (by decide +kernel)) (fun _ => ?_)
        have r4 : if 2 * ((X - t * Y).natAbs : Int) = Y then t % 2 = 0 else 2 * ((X - t * Y).natAbs : Int) < Y := r3
        rw [← abs_nat] at r4
        refine ⟨_, rfl, _, rfl, _, _, rfl, rfl, .inl ⟨by decide, by decide⟩, _, rfl, rfl, _, rfl, ?_⟩
        refine ite2 (fun c => ?_) (fun c => ?_)
        · rw [if_pos (V.int.inj (of_decide_eq_true c))] at r4
          refine ⟨_, rfl, rfl, _, rfl, ?_⟩
          refine ite2 (fun c => absurd c (by decide +kernel)) (fun _ => ?_)
          exact ⟨_, rfl, .inl ⟨_, rfl, _, _, rfl, rfl, (by show (0 : Int) < 2; decide), rfl, near _ (decide_eq_true (congrArg V.int r4))⟩⟩
        · rw [if_neg (fun z => c (decide_eq_true (congrArg V.int z)))] at r4
          exact ⟨_, rfl, _, rfl, _, _, rfl, rfl, .inl ⟨by decide, by decide⟩, _, rfl, _, _, rfl, rfl, near _ (decide_eq_true r4)⟩
theorem ok_c_InvalidMoney_init {P : Program} {w : World} {K : PySem.W.Frag} {mg : Str → Option Value} {base : Heap} {a : Ad} (T : Txt K mg a) : FnOk P w K mg base (L2.CX P w) 1 a.f_c_InvalidMoney_init a.d_c_InvalidMoney_init ["self", "what"] (sp_exinit a.C_InvalidMoney) := by
  refine T.F_c_InvalidMoney_init.okX sc_c_InvalidMoney_init (fun vs H Q E h => ?_) (fun cdv A outer s H vs Q E hr h => ?_)
  · walk_at "len"
  · obtain ⟨x, wd, rfl, hx, hl, k⟩ := h
    refine ⟨_, (pss_cons (ps_expr (pe_binit T.bc_SlotError (by rfl) T.m_SlotError (pa_cons (pv 0) (pa_cons (pe_op op_add_str pe_str (pv 1)) pa_nil))))
    (pss_one (ps_ost (pv 0) (pv 1)))), ?_⟩
    refine ⟨_, rfl, _, rfl, _, _, rfl, rfl, by have := small1000000 (n := 1000) (by decide); show _ + wd.length ≤ _; exact Nat.le_of_lt (Nat.lt_of_le_of_lt (Nat.add_le_add_left hl _) (small1000000 (by decide +kernel))), ?_⟩
    refine ⟨x, _, _, rfl, by show 1 ≤ 1000; decide, T.ox_InvalidMoney, hx, ?_⟩
    refine ⟨_, rfl, _, rfl, x, _, rfl, T.ox_InvalidMoney, T.no_InvalidMoney_what, .inl ⟨hx, fun dx n ne => k dx n ne⟩⟩
theorem ok_c_fraction {P : Program} {w : World} {K : PySem.W.Frag} {mg : Str → Option Value} {base : Heap} {a : Ad} (T : Txt K mg a) : FnOk P w K mg base (L2.CX P w) 3 a.f_c_fraction a.d_c_fraction ["above", "below"] (sp_c_fraction a.C_InvalidMoney) := by
  have G_c_InvalidMoney_init : FnOk P w K mg base (L2.CX P w) 1 a.f_c_InvalidMoney_init a.d_c_InvalidMoney_init ["self", "what"] (sp_exinit a.C_InvalidMoney) := ok_c_InvalidMoney_init T
  refine T.F_c_fraction.okX sc_c_fraction (fun vs H Q E h => ?_) (fun cdv A outer s H vs Q E hr h => ?_)
  · walk_at "len"
  · obtain ⟨x, y, rfl, hy, k0, k1⟩ := h
    refine ⟨_, (pss_cons (ps_if (pt_cmpR op_eq (pv 1) pe_int (nomark _)) (pss_one (ps_raise rfl (takes_of rfl rfl rfl rfl) (pmk_oex T.ox_InvalidMoney T.in_InvalidMoney T.ti_InvalidMoney G_c_InvalidMoney_init (hr.mono (by decide)) T.b_c_InvalidMoney_init .nil passL (by rfl) T.m_InvalidMoney (pa_cons pe_str pa_nil)))) pss_nil)
    (pss_cons (ps_set (i := 2) sc_c_fraction.nd (by rfl) (Or.inl rfl) (pe_callBfun cr_gcd (by rfl) T.i_gcd (pa_cons (pv 0) (pa_cons (pv 1) pa_nil))))
    (pss_cons (ps_if (pt_cmpR op_lt (pv 1) pe_int (nomark _)) (pss_one (ps_set (i := 2) sc_c_fraction.nd (by rfl) (Or.inl rfl) (pe_un un_neg (pv 2)))) pss_nil)
    (pss_one (ps_ret (pe_tup (pa_cons (pe_op op_fdivZ (pv 0) (pv 2)) (pa_cons (pe_op op_fdivZ (pv 1) (pv 2)) pa_nil)))))))), ?_⟩
    refine ⟨_, rfl, rfl, _, rfl, ?_⟩
    refine ite2 (fun c => ?_) (fun c => ?_)
    · have c' : y = 0 := by simpa using c
      exact ⟨by show 1 ≤ 1000; decide, raise_ok (k0 c') (by decide +kernel)⟩
    · have c' : y ≠ 0 := by simpa using c
      refine ⟨_, rfl, _, rfl, _, _, rfl, ?_⟩
      refine ⟨_, rfl, _, _, rfl, rfl, _, rfl, ?_⟩
      have kk := k1 c'
      unfold frA frB frC at kk
      refine ite2 (fun n => ?_) (fun n => ?_)
      · have n' : y < 0 := by simpa using n
        rw [if_pos n'] at kk
        refine ⟨_, rfl, _, rfl, ?_⟩
        exact ⟨_, rfl, _, rfl, _, _, rfl, rfl, (gcd_cdiv x c' hy).2, _, rfl, _, rfl, _, _, rfl, rfl, (gcd_cdiv y c' hy).2, by show 2 ≤ sizeLine; decide, kk⟩
      · have n' : ¬ y < 0 := by simpa using n
        rw [if_neg n'] at kk
        exact ⟨_, rfl, _, rfl, _, _, rfl, rfl, (gcd_cdiv x c' hy).1, _, rfl, _, rfl, _, _, rfl, rfl, (gcd_cdiv y c' hy).1, by show 2 ≤ sizeLine; decide, kk⟩
theorem ok_c_rounded {P : Program} {w : World} {K : PySem.W.Frag} {mg : Str → Option Value} {base : Heap} {a : Ad} (T : Txt K mg a) : FnOk P w K mg base (L2.CX P w) 4 a.f_c_rounded a.d_c_rounded ["above", "below", "way"] (sp_c_rounded a.C_InvalidMoney) := by
  have G_c_InvalidMoney_init : FnOk P w K mg base (L2.CX P w) 1 a.f_c_InvalidMoney_init a.d_c_InvalidMoney_init ["self", "what"] (sp_exinit a.C_InvalidMoney) := ok_c_InvalidMoney_init T
  have G_c_fraction : FnOk P w K mg base (L2.CX P w) 3 a.f_c_fraction a.d_c_fraction ["above", "below"] (sp_c_fraction a.C_InvalidMoney) := ok_c_fraction T
  refine T.F_c_rounded.okX sc_c_rounded (fun vs H Q E h => ?_) (fun cdv A outer s H vs Q E hr h => ?_)
  · rw [sp_c_rounded_eq] at h
    walk_at "len"
  · rw [sp_c_rounded_eq] at h
    obtain ⟨x, y, ws, rfl, hy, k0, k1, k2⟩ := h
    refine ⟨_, (pss_cons (ps_if (pt_cmpR op_eq (pv 1) pe_int (nomark _)) (pss_one (ps_raise rfl (takes_of rfl rfl rfl rfl) (pmk_oex T.ox_InvalidMoney T.in_InvalidMoney T.ti_InvalidMoney G_c_InvalidMoney_init (hr.mono (by decide)) T.b_c_InvalidMoney_init .nil passL (by rfl) T.m_InvalidMoney (pa_cons pe_str pa_nil)))) pss_nil)
    (pss_cons (ps_if (pt_cmpR op_notIn_seq (pv 2) (pe_glob (v := .ref a.A_WAYS) (by rfl) T.m_WAYS rfl) (by rfl)) (pss_one (ps_raise rfl (takes_of rfl rfl rfl rfl) (pmk_oex T.ox_InvalidMoney T.in_InvalidMoney T.ti_InvalidMoney G_c_InvalidMoney_init (hr.mono (by decide)) T.b_c_InvalidMoney_init .nil passL (by rfl) T.m_InvalidMoney (pa_cons pe_str pa_nil)))) pss_nil)
    (pss_cons (ps_asg (pe_callS G_c_fraction (hr.mono (by decide)) (by rfl) T.m_c_fraction T.F_c_fraction.kp T.b_c_fraction (fun σ => passAt (takes_of rfl rfl rfl rfl) σ) (pa_cons (pv 0) (pa_cons (pv 1) pa_nil))) (pg_tup (by rfl) (pgs_cons (pg_name (i := 0) sc_c_rounded.nd (by rfl) (Or.inl rfl)) (pgs_cons (pg_name (i := 1) sc_c_rounded.nd (by rfl) (Or.inl rfl)) pgs_nil))))
    (pss_cons (ps_set (i := 3) sc_c_rounded.nd (by rfl) (Or.inl rfl) (pe_op op_fdivZ (pv 0) (pv 1)))
    (pss_cons (ps_if (pt_cmpR op_eq (pv 2) pe_str (nomark _)) (pss_one (ps_ret (pe_un un_neg (pe_op op_fdivZ (pe_un un_neg (pv 0)) (pv 1))))) pss_nil)
    (pss_cons (ps_if (pt_cmpR op_eq (pv 2) pe_str (nomark _)) (pss_one (ps_ret (pe_op op_add (pv 3) (pe_callTy call_int1 (by rfl) T.n_int (by decide +kernel) (pa_cons (pe_and (pe_cmpR op_lt (pv 0) pe_int (nomark _)) (pe_one (pe_cmpR op_ne (pe_op op_mul (pv 3) (pv 1)) (pv 0) (nomark _)))) pa_nil))))) pss_nil)
    (pss_cons (ps_if (pt_cmpR op_eq (pv 2) pe_str (nomark _)) (pss_one (ps_ret (pe_op op_fdivZ (pe_op op_add (pe_op op_mul pe_int (pv 0)) (pv 1)) (pe_op op_mul pe_int (pv 1))))) pss_nil)
    (pss_cons (ps_if (PW.pt (pw_and (pt_cmpR op_eq (pv 2) pe_str (nomark _)) (pw_and1 (pt_cmpR op_ne (pe_op op_mul pe_int (pe_op op_sub (pv 0) (pe_op op_mul (pv 3) (pv 1)))) (pv 1) (nomark _))))) (pss_one (ps_ret (pe_op op_fdivZ (pe_op op_add (pe_op op_mul pe_int (pv 0)) (pv 1)) (pe_op op_mul pe_int (pv 1))))) pss_nil)
    (pss_cons (ps_if (pt_cmpR op_eq (pv 2) pe_str (nomark _)) (pss_one (ps_ret (pe_op op_add (pv 3) (pe_op op_mod (pv 3) pe_int)))) pss_nil)
    (pss_one (ps_ret (pv 3)))))))))))), ?_⟩
    refine ⟨_, rfl, rfl, _, rfl, ?_⟩
    refine ite2 (fun c => ?_) (fun c => ?_)
    · have c' : y = 0 := by simpa using c
      exact ⟨by show 1 ≤ 1000; decide, raise_ok (k0 c') (by decide +kernel)⟩
    have c' : y ≠ 0 := by simpa using c
    have hW : ∀ H, SqT K H a.A_WAYS waysV := fun H => Same.tup same_none T.w_WAYS
    refine ⟨_, rfl, _, _, rfl, .inr (hW H), rfl, by decide +kernel, _, rfl, ?_⟩
    refine ite2 (fun c => ?_) (fun c => ?_)
    · have c2 : inV (.str ws) waysV = false := by
        revert c
        show (!inV (.str ws) waysV) = true → _
        cases inV (.str ws) waysV <;> simp
      exact ⟨by show 1 ≤ 1000; decide, raise_ok (k1 c' c2) (by decide +kernel)⟩
    have c2 : inV (.str ws) waysV = true := by
      revert c
      show ¬ (!inV (.str ws) waysV) = true → _
      cases inV (.str ws) waysV <;> simp
    obtain ⟨i, hi, rfl, k⟩ := k2 c' c2
    obtain ⟨_, _, hB, _, _, hBy, _⟩ := fr_spec (x := x) c'
    have yb : y.natAbs < 2 ^ 8000 := Nat.lt_of_lt_of_le hy (Nat.pow_le_pow_right (by decide) (by decide))
    refine ⟨_, rfl, _, rfl, x, y, rfl, yb, fun z => absurd z c', fun _ p hp => ?_⟩
    refine ⟨p, _, rfl, SqT.of upd_same, rfl, _, _, rfl, _, _, rfl, rfl, ?_⟩
    have s1 := Same.new (o := .tup [.int (frA x y), .int (frB x y)]) hp
    have k' := k _ s1
    generalize frA x y = aa at *
    generalize frB x y = bb at *
    have cd : ∀ i m : Int, 0 < m → m ≤ 2 * bb → CDivZ i m := fun i m h1 h2 => cdivZ_of (b := 62) (by omega) (by omega) (by decide) (by decide)
    refine ⟨_, rfl, _, rfl, _, _, rfl, rfl, cd _ _ hB (by omega), ?_⟩
    refine ⟨_, rfl, rfl, _, rfl, ?_⟩
    have hi' : i = 0 ∨ i = 1 ∨ i = 2 ∨ i = 3 ∨ i = 4 := by omega
    rcases hi' with rfl | rfl | rfl | rfl | rfl
    · refine ite2 (fun c => absurd c (by decide +kernel)) (fun _ => ?_)
      refine ⟨_, rfl, rfl, _, rfl, ?_⟩
      refine ite2 (fun c => absurd c (by decide +kernel)) (fun _ => ?_)
      refine ⟨_, rfl, rfl, _, rfl, ?_⟩
      refine ite2 (fun c => absurd c (by decide +kernel)) (fun _ => ?_)
      refine ⟨_, rfl, rfl, _, rfl, ?_⟩
      refine ite2 (fun c => absurd c (by decide +kernel)) (fun c => ?_)
      refine ⟨_, rfl, rfl, _, rfl, ?_⟩
      refine ite2 (fun c => absurd c (by decide +kernel)) (fun c => ?_)
      exact ⟨_, rfl, k'⟩
    · refine ite2 (fun _ => ?_) (fun c => absurd (by decide +kernel) c)
      exact ⟨_, rfl, _, rfl, _, rfl, _, _, rfl, rfl, cd _ _ hB (by omega), _, rfl, k'⟩
    · refine ite2 (fun c => absurd c (by decide +kernel)) (fun _ => ?_)
      refine ⟨_, rfl, rfl, _, rfl, ?_⟩
      refine ite2 (fun _ => ?_) (fun c => absurd (by decide +kernel) c)
      have k2 : Q (.int (aa.fdiv bb + (if aa < 0 ∧ aa.fdiv bb * bb ≠ aa then 1 else 0))) _ := k'
      refine ⟨_, rfl, _, rfl, _, _, rfl, rfl, _, rfl, ?_⟩
      refine ite2 (fun c => ?_) (fun c => ?_)
      · have c1 := of_decide_eq_true c
        refine ⟨_, rfl, _, rfl, _, _, rfl, rfl, .inr ⟨by omega, by omega⟩, _, rfl, rfl, .inr ⟨_, rfl, _, _, rfl, rfl, ?_⟩⟩
        by_cases c2 : aa.fdiv bb * bb = aa
        · rw [if_neg (fun z => z.2 c2)] at k2
          rw [decide_eq_true (congrArg V.int c2)]
          exact k2
        · rw [if_pos ⟨c1, c2⟩] at k2
          rw [decide_eq_false (fun z => c2 (V.int.inj z))]
          exact k2
      · have c1 : ¬ aa < 0 := fun z => c (decide_eq_true z)
        rw [if_neg (fun z => c1 z.1)] at k2
        exact .inr ⟨_, rfl, _, _, rfl, rfl, k2⟩
    · refine ite2 (fun c => absurd c (by decide +kernel)) (fun _ => ?_)
      refine ⟨_, rfl, rfl, _, rfl, ?_⟩
      refine ite2 (fun c => absurd c (by decide +kernel)) (fun _ => ?_)
      refine ⟨_, rfl, rfl, _, rfl, ?_⟩
      refine ite2 (fun _ => ?_) (fun c => absurd (by decide +kernel) c)
      exact ⟨_, rfl, _, _, rfl, rfl, .inl ⟨by decide, by decide⟩, _, rfl, _, _, rfl, rfl, _, rfl, _, _, rfl, rfl, .inl ⟨by decide, by decide⟩, _, _, rfl, rfl, cd _ _ (by omega) (by omega), k'⟩
    · refine ite2 (fun c => absurd c (by decide +kernel)) (fun _ => ?_)
      refine ⟨_, rfl, rfl, _, rfl, ?_⟩
      refine ite2 (fun c => absurd c (by decide +kernel)) (fun _ => ?_)
      refine ⟨_, rfl, rfl, _, rfl, ?_⟩
      refine ite2 (fun c => absurd c (by decide +kernel)) (fun _ => ?_)
      refine ⟨_, rfl, rfl, _, rfl, ?_⟩
      refine ite2 (fun _ => ?_) (fun c => absurd (by decide +kernel) c)
      have k2 : Q (.int (if 2 * (aa - aa.fdiv bb * bb) ≠ bb then (2 * aa + bb).fdiv (2 * bb) else aa.fdiv bb + aa.fdiv bb % 2)) _ := k'
      refine ⟨_, rfl, _, rfl, _, rfl, _, _, rfl, rfl, .inr ⟨by omega, by omega⟩, _, _, rfl, rfl, _, _, rfl, rfl, .inl ⟨by decide, by decide⟩, _, rfl, rfl, _, rfl, ?_⟩
      refine ite2 (fun c => ?_) (fun c => ?_)
      · have c1 : 2 * (aa - aa.fdiv bb * bb) ≠ bb := fun z => by simp [z] at c
        rw [if_pos c1] at k2
        exact ⟨_, rfl, _, _, rfl, rfl, .inl ⟨by decide, by decide⟩, _, rfl, _, _, rfl, rfl, _, rfl, _, _, rfl, rfl, .inl ⟨by decide, by decide⟩, _, _, rfl, rfl, cd _ _ (by omega) (by omega), k2⟩
      · have c1 : 2 * (aa - aa.fdiv bb * bb) = bb := Classical.byContradiction fun z => c (by simpa using z)
        rw [if_neg (fun z => z c1)] at k2
        refine ⟨_, rfl, rfl, _, rfl, ?_⟩
        refine ite2 (fun _ => ?_) (fun c => absurd (by decide +kernel) c)
        exact ⟨_, rfl, _, rfl, _, _, rfl, rfl, (by show (0 : Int) < 2; decide), _, _, rfl, rfl, k2⟩
theorem ok_c_law_why {P : Program} {w : World} {K : PySem.W.Frag} {mg : Str → Option Value} {base : Heap} {a : Ad} (T : Txt K mg a) : FnOk P w K mg base (L2.CX P w) 5 a.f_c_law_why a.d_c_law_why ["ask", "above", "below", "way"] (sp_c_law_why) := by
  have G_c_fraction : FnOk P w K mg base (L2.CX P w) 3 a.f_c_fraction a.d_c_fraction ["above", "below"] (sp_c_fraction a.C_InvalidMoney) := ok_c_fraction T
  have G_c_rounded : FnOk P w K mg base (L2.CX P w) 4 a.f_c_rounded a.d_c_rounded ["above", "below", "way"] (sp_c_rounded a.C_InvalidMoney) := ok_c_rounded T
  refine T.F_c_law_why.okX sc_c_law_why (fun vs H Q E h => ?_) (fun cdv A outer s H vs Q E hr h => ?_)
  · walk_at "len"
  · obtain ⟨n, x, y, ws, wd, rfl, hy, hc, k⟩ := h
    refine ⟨_, (pss_cons (ps_try_as (i := 4) (Wout := fun _ _ _ _ => False) rfl rfl sc_c_law_why.nd (by rfl) (by rfl) ⟨by rfl, by decide, .inl T.m_SlotError⟩ takes0
    (fun W pn xe tk po => (pss_one (ps_if (pt_cmpR op_eq (pv 0) pe_int (nomark _)) (pss_one (ps_expr (pe_callS G_c_rounded (hr.mono (by decide)) (by rfl) T.m_c_rounded T.F_c_rounded.kp T.b_c_rounded (fun σ => passAt tk σ) (pa_cons (pv 1) (pa_cons (pv 2) (pa_cons (pv 3) pa_nil)))))) (pss_one (ps_expr (pe_callS G_c_fraction (hr.mono (by decide)) (by rfl) T.m_c_fraction T.F_c_fraction.kp T.b_c_fraction (fun σ => passAt tk σ) (pa_cons (pv 1) (pa_cons (pv 2) pa_nil))))))))
    (fun ae oe cls dx pn hz hf => (pss_cons (ps_if (PW.pt (pw_and (pt_val (pe_callB (call_isX hz hf) (by rfl) T.n_isinstance (by decide +kernel) (pa_cons (pv 4) (pa_cons (pe_glob (v := .ref a.C_InvalidMoney) (by rfl) T.m_InvalidMoney rfl) pa_nil)))) (pw_and1 (pt_not (pt_val (pe_callB (call_isX hz hf) (by rfl) T.n_isinstance (by decide +kernel) (pa_cons (pv 4) (pa_cons (pe_glob (v := .ref a.C_InvalidTime) (by rfl) T.m_InvalidTime rfl) pa_nil)))))))) (pss_one (ps_ret (pe_xf T.xf_InvalidMoney T.no_InvalidMoney_what hz hf (pv 4)))) pss_nil)
    (pss_one (ps_ret pe_str)))))
    (pss_one (ps_ret pe_non))), ?_⟩
    have suite : ∀ d H', Same H H' → H' d = some (.xd [("what", .str wd)]) → True := fun _ _ _ _ => trivial
    refine ⟨_, rfl, rfl, _, rfl, ?_⟩
    refine ite2 (fun c => ?_) (fun c => ?_)
    · refine ⟨_, rfl, _, rfl, _, rfl, sp_c_rounded_use ⟨x, y, ws, rfl, hy, fun z => ?_, fun z1 z2 => ?_, fun z1 z2 => ?_⟩⟩
      · have e : wd = "fraction" := by
          rcases hc with hc | hc
          · exact hc.2
          · exact absurd z hc.2.1
        subst e
        intro d H' s1 hd
        refine ⟨true, T.em_InvalidMoney_SlotError, fun _ ae _ => ?_, fun z => nomatch z⟩
        refine ⟨_, rfl, _, _, true, d, _, rfl, rfl, T.is_InvalidMoney, rfl, hd, T.kt_InvalidMoney_InvalidMoney, true, rfl, ?_⟩
        refine ⟨_, rfl, _, _, false, d, _, rfl, rfl, T.is_InvalidMoney, rfl, hd, T.kt_InvalidMoney_InvalidTime, _, rfl, ?_⟩
        exact ⟨_, rfl, rfl, rfl, d, _, _, rfl, hd, rfl, k H' s1⟩
      · have e : wd = "way" := by
          rcases hc with hc | hc
          · exact absurd hc.1 z1
          · exact hc.2.2.2
        subst e
        intro d H' s1 hd
        refine ⟨true, T.em_InvalidMoney_SlotError, fun _ ae _ => ?_, fun z => nomatch z⟩
        refine ⟨_, rfl, _, _, true, d, _, rfl, rfl, T.is_InvalidMoney, rfl, hd, T.kt_InvalidMoney_InvalidMoney, true, rfl, ?_⟩
        refine ⟨_, rfl, _, _, false, d, _, rfl, rfl, T.is_InvalidMoney, rfl, hd, T.kt_InvalidMoney_InvalidTime, _, rfl, ?_⟩
        exact ⟨_, rfl, rfl, rfl, d, _, _, rfl, hd, rfl, k H' s1⟩
      · exfalso
        rcases hc with hc | hc
        · exact z1 hc.1
        · rw [hc.2.2.1] at z2
          cases z2
    · have c' : ¬ n = 0 := fun z => by simp [z] at c
      have hc' : y = 0 ∧ wd = "fraction" := by
        rcases hc with hc | hc
        · exact hc
        · exact absurd hc.1 c'
      obtain ⟨rfl, rfl⟩ := hc'
      refine ⟨_, rfl, _, rfl, x, 0, rfl, Nat.pow_pos (by decide), fun _ => ?_, fun z => absurd rfl z⟩
      · intro d H' s1 hd
        refine ⟨true, T.em_InvalidMoney_SlotError, fun _ ae _ => ?_, fun z => nomatch z⟩
        refine ⟨_, rfl, _, _, true, d, _, rfl, rfl, T.is_InvalidMoney, rfl, hd, T.kt_InvalidMoney_InvalidMoney, true, rfl, ?_⟩
        refine ⟨_, rfl, _, _, false, d, _, rfl, rfl, T.is_InvalidMoney, rfl, hd, T.kt_InvalidMoney_InvalidTime, _, rfl, ?_⟩
        exact ⟨_, rfl, rfl, rfl, d, _, _, rfl, hd, rfl, k H' s1⟩
theorem ok_c_law {P : Program} {w : World} {K : PySem.W.Frag} {mg : Str → Option Value} {base : Heap} {a : Ad} (T : Txt K mg a) : FnOk P w K mg base (L2.CX P w) 6 a.f_c_law a.d_c_law ["script"] (sp_c_law K) := by
  have G_c_law_deck : FnOk P w K mg base (L2.CX P w) 1 a.f_c_law_deck a.d_c_law_deck ["script", "cells", "each"] (sp_c_law_deck K) := ok_c_law_deck T
  have G_c_law_fraction : FnOk P w K mg base (L2.CX P w) 2 a.f_c_law_fraction a.d_c_law_fraction ["above", "below"] (sp_c_law_fraction) := ok_c_law_fraction T
  have G_c_law_number : FnOk P w K mg base (L2.CX P w) 2 a.f_c_law_number a.d_c_law_number ["deck"] (sp_c_law_number) := ok_c_law_number T
  have G_c_law_plain : FnOk P w K mg base (L2.CX P w) 5 a.f_c_law_plain a.d_c_law_plain ["value"] (sp_c_law_plain K 4) := ok_c_law_plain T
  have G_c_law_right : FnOk P w K mg base (L2.CX P w) 1 a.f_c_law_right a.d_c_law_right ["above", "below", "way", "told"] (sp_c_law_right) := ok_c_law_right T
  have G_c_law_take : FnOk P w K mg base (L2.CX P w) 1 a.f_c_law_take a.d_c_law_take ["deck", "many"] (sp_c_law_take) := ok_c_law_take T
  have G_c_law_why : FnOk P w K mg base (L2.CX P w) 5 a.f_c_law_why a.d_c_law_why ["ask", "above", "below", "way"] (sp_c_law_why) := ok_c_law_why T
  have G_c_fraction : FnOk P w K mg base (L2.CX P w) 3 a.f_c_fraction a.d_c_fraction ["above", "below"] (sp_c_fraction a.C_InvalidMoney) := ok_c_fraction T
  have G_c_rounded : FnOk P w K mg base (L2.CX P w) 4 a.f_c_rounded a.d_c_rounded ["above", "below", "way"] (sp_c_rounded a.C_InvalidMoney) := ok_c_rounded T
  refine T.F_c_law.okX sc_c_law (fun vs H Q E h => ?_) (fun cdv A outer s H vs Q E hr h => ?_)
  · walk_at "len"
  · obtain ⟨sa, ns, rfl, hS, hlen, k⟩ := h
    refine ⟨_, (pss_cons (ps_set (i := 1) sc_c_law.nd (by rfl) (Or.inl rfl) (pe_call G_c_law_deck (hr.mono (by decide)) (by rfl) T.m_c_law_deck T.F_c_law_deck.kp T.b_c_law_deck .nil passL (pa_cons (pv 0) (pa_cons pe_int (pa_cons pe_int pa_nil)))))
    (pss_cons (ps_set (i := 2) sc_c_law.nd (by rfl) (Or.inr rfl) (pe_op op_mul (pe_op op_add pe_int (pe_call G_c_law_take (hr.mono (by decide)) (by rfl) T.m_c_law_take T.F_c_law_take.kp T.b_c_law_take .nil passL (pa_cons (pv 1) (pa_cons (pe_ix ix_list (pe_lst (pa_cons pe_int (pa_cons pe_int (pa_cons pe_int pa_nil)))) (pe_call G_c_law_take (hr.mono (by decide)) (by rfl) T.m_c_law_take T.F_c_law_take.kp T.b_c_law_take .nil passL (pa_cons (pv 1) (pa_cons pe_int pa_nil))) (fun _ _ => rfl)) pa_nil)))) (pe_ix ix_list (pe_lst (pa_cons pe_int (pa_cons (pe_un un_neg pe_int) pa_nil))) (pe_call G_c_law_take (hr.mono (by decide)) (by rfl) T.m_c_law_take T.F_c_law_take.kp T.b_c_law_take .nil passL (pa_cons (pv 1) (pa_cons pe_int pa_nil))) (fun _ _ => rfl))))
    (pss_cons (ps_set (i := 3) sc_c_law.nd (by rfl) (Or.inr rfl) (pe_ix ix_list (pe_lst (pa_cons (pe_op op_sub (pe_call G_c_law_take (hr.mono (by decide)) (by rfl) T.m_c_law_take T.F_c_law_take.kp T.b_c_law_take .nil passL (pa_cons (pv 1) (pa_cons pe_int pa_nil))) pe_int) (pa_cons (pe_call G_c_law_number (hr.mono (by decide)) (by rfl) T.m_c_law_number T.F_c_law_number.kp T.b_c_law_number .nil passL (pa_cons (pv 1) pa_nil)) (pa_cons (pe_op op_mul (pv 2) (pe_op op_sub (pe_call G_c_law_take (hr.mono (by decide)) (by rfl) T.m_c_law_take T.F_c_law_take.kp T.b_c_law_take .nil passL (pa_cons (pv 1) (pa_cons pe_int pa_nil))) pe_int)) pa_nil)))) (pe_call G_c_law_take (hr.mono (by decide)) (by rfl) T.m_c_law_take T.F_c_law_take.kp T.b_c_law_take .nil passL (pa_cons (pv 1) (pa_cons pe_int pa_nil))) (fun _ _ => rfl)))
    (Evl.pss_cut (ps_if (pt_cmpR op_eq (pe_call G_c_law_take (hr.mono (by decide)) (by rfl) T.m_c_law_take T.F_c_law_take.kp T.b_c_law_take .nil passL (pa_cons (pv 1) (pa_cons pe_int pa_nil))) pe_int (nomark _)) (pss_one (ps_asg (pe_tup (pa_cons (pe_op op_mul (pv 2) (pe_op op_sub (pe_op op_mul pe_int (pe_call G_c_law_take (hr.mono (by decide)) (by rfl) T.m_c_law_take T.F_c_law_take.kp T.b_c_law_take .nil passL (pa_cons (pv 1) (pa_cons pe_int pa_nil)))) pe_int)) (pa_cons (pe_op op_mul pe_int (pv 2)) pa_nil))) (pg_tup (by rfl) (pgs_cons (pg_name (i := 3) sc_c_law.nd (by rfl) (Or.inr rfl)) (pgs_cons (pg_name (i := 2) sc_c_law.nd (by rfl) (Or.inr rfl)) pgs_nil))))) pss_nil)
    (pss_cons (ps_set (i := 4) sc_c_law.nd (by rfl) (Or.inl rfl) (pe_lst (pa_cons pe_str (pa_cons pe_str (pa_cons pe_str (pa_cons pe_str (pa_cons pe_str pa_nil)))))))
    (pss_cons (ps_setLc (i := 5) (own := [("way", 10)]) (g := gName 10) (tt := tYes) (by rfl) sc_c_law.nd (by rfl) (by rfl) (sw_true rfl rfl rfl (by decide +kernel)) (pi_list (pv 4)) (blkOk_by (own := [("way", 10)]) (N := ["script", "deck", "below", "above", "ways", "results", "at", "turned", "bad", "answers", "way", "one"]) (sc := defScope st_c_law) (by decide +kernel)) (fun _ _ _ _ _ => (pg_name (i := 10) sc_c_law.nd (by rfl) (Or.inl rfl))) (fun _ _ _ _ _ => pts_nil) (fun _ _ _ _ _ => (pe_call G_c_rounded (hr.mono (by decide)) (by rfl) T.m_c_rounded T.F_c_rounded.kp T.b_c_rounded .nil passL (pa_cons (pv 3) (pa_cons (pv 2) (pa_cons (pv 10) pa_nil))))))
    (pss_cons (ps_if (pt_cmpR (op_neD hr.units) (pe_call G_c_law_plain (hr.mono (by decide)) (by rfl) T.m_c_law_plain T.F_c_law_plain.kp T.b_c_law_plain .nil passL (pa_cons (pv 5) pa_nil)) (pe_call G_c_law_plain (hr.mono (by decide)) (by rfl) T.m_c_law_plain T.F_c_law_plain.kp T.b_c_law_plain .nil passL (pa_cons (pe_lc (own := [("one", 11)]) (g := gName 11) (tt := tYes) (by rfl) sc_c_law.nd (pi_list (pv 5)) (blkOk_by (own := [("one", 11)]) (N := ["script", "deck", "below", "above", "ways", "results", "at", "turned", "bad", "answers", "way", "one"]) (sc := defScope st_c_law) (by decide +kernel)) (fun _ _ _ _ _ => (pg_name (i := 11) sc_c_law.nd (by rfl) (Or.inl rfl))) (fun _ _ _ _ _ => pts_nil) (fun _ _ _ _ _ => (pe_callTy call_int1 (by rfl) T.n_int (by decide +kernel) (pa_cons (pv 11) pa_nil)))) pa_nil)) (nomark _)) (pss_one (ps_ret pe_bl)) pss_nil)
    (pss_cons (ps_for (passes_of rfl) rfl (pi_range1 (by rfl) T.n_range (pa_cons pe_int pa_nil)) (pg_name (i := 6) sc_c_law.nd (by rfl) (Or.inl rfl)) (pss_one (ps_if (pt_not (pt_val (pe_call G_c_law_right (hr.mono (by decide)) (by rfl) T.m_c_law_right T.F_c_law_right.kp T.b_c_law_right .nil passL (pa_cons (pv 3) (pa_cons (pv 2) (pa_cons (pe_ix ix_list (pv 4) (pv 6) (fun _ _ => rfl)) (pa_cons (pe_ix ix_list (pv 5) (pv 6) (fun _ _ => rfl)) pa_nil))))))) (pss_one (ps_ret pe_bl)) pss_nil)))
    (Evl.pss_cut (ps_if (PW.pt (pw_and (pt_cmpR op_eq (pe_op op_modN (pe_callTy call_int1 (by rfl) T.n_int (by decide +kernel) (pa_cons (pv 3) pa_nil)) (pv 2)) pe_int (nomark _)) (pw_and1 (pt_cmpR (op_neD hr.units) (pv 5) (pe_op op_rep (pe_lst (pa_cons (pe_ix ix_list (pv 5) pe_int (fun _ _ => rfl)) pa_nil)) pe_int) (nomark _))))) (pss_one (ps_ret pe_bl)) pss_nil)
    (Evl.pss_cut (ps_if (PW.pt (pw_or (pt_cmpR op_gt (pe_callB call_abs (by rfl) T.n_abs (by decide +kernel) (pa_cons (pe_op op_sub (pe_ix ix_list (pv 5) pe_int (fun _ _ => rfl)) (pe_ix ix_list (pv 5) pe_int (fun _ _ => rfl))) pa_nil)) pe_int (nomark _)) (pw_or (pt_cmpR op_gt (pe_ix ix_list (pv 5) pe_int (fun _ _ => rfl)) (pe_ix ix_list (pv 5) pe_int (fun _ _ => rfl)) (nomark _)) (pw_or1 (pt_cmpR op_notIn_seq (pe_ix ix_list (pv 5) pe_int (fun _ _ => rfl)) (pe_slice sl_list (pv 5) po_none (po_some pe_int)) (by rfl)))))) (pss_one (ps_ret pe_bl)) pss_nil)
    (pss_cons (ps_set (i := 7) sc_c_law.nd (by rfl) (Or.inl rfl) (pe_lst (pa_cons (pe_call G_c_rounded (hr.mono (by decide)) (by rfl) T.m_c_rounded T.F_c_rounded.kp T.b_c_rounded .nil passL (pa_cons (pe_un un_neg (pv 3)) (pa_cons (pv 2) (pa_cons pe_str pa_nil)))) (pa_cons (pe_call G_c_rounded (hr.mono (by decide)) (by rfl) T.m_c_rounded T.F_c_rounded.kp T.b_c_rounded .nil passL (pa_cons (pe_un un_neg (pv 3)) (pa_cons (pv 2) (pa_cons pe_str pa_nil)))) (pa_cons (pe_call G_c_rounded (hr.mono (by decide)) (by rfl) T.m_c_rounded T.F_c_rounded.kp T.b_c_rounded .nil passL (pa_cons (pe_un un_neg (pv 3)) (pa_cons (pv 2) (pa_cons pe_str pa_nil)))) pa_nil)))))
    (Evl.pss_cut (ps_if (pt_cmpR (op_neD hr.units) (pe_call G_c_law_plain (hr.mono (by decide)) (by rfl) T.m_c_law_plain T.F_c_law_plain.kp T.b_c_law_plain .nil passL (pa_cons (pe_op op_cat (pv 7) (pe_lst (pa_cons (pe_call G_c_rounded (hr.mono (by decide)) (by rfl) T.m_c_rounded T.F_c_rounded.kp T.b_c_rounded .nil passL (pa_cons (pe_un un_neg (pv 3)) (pa_cons (pv 2) (pa_cons pe_str pa_nil)))) pa_nil))) pa_nil)) (pe_call G_c_law_plain (hr.mono (by decide)) (by rfl) T.m_c_law_plain T.F_c_law_plain.kp T.b_c_law_plain .nil passL (pa_cons (pe_lst (pa_cons (pe_un un_neg (pe_ix ix_list (pv 5) pe_int (fun _ _ => rfl))) (pa_cons (pe_un un_neg (pe_ix ix_list (pv 5) pe_int (fun _ _ => rfl))) (pa_cons (pe_un un_neg (pe_ix ix_list (pv 5) pe_int (fun _ _ => rfl))) (pa_cons (pe_un un_neg (pe_ix ix_list (pv 5) pe_int (fun _ _ => rfl))) pa_nil))))) pa_nil)) (nomark _)) (pss_one (ps_ret pe_bl)) pss_nil)
    (Evl.pss_cut (ps_if (pt_cmpR (op_neD hr.units) (pe_call G_c_law_plain (hr.mono (by decide)) (by rfl) T.m_c_law_plain T.F_c_law_plain.kp T.b_c_law_plain .nil passL (pa_cons (pe_call G_c_fraction (hr.mono (by decide)) (by rfl) T.m_c_fraction T.F_c_fraction.kp T.b_c_fraction .nil passL (pa_cons (pv 3) (pa_cons (pv 2) pa_nil))) pa_nil)) (pe_call G_c_law_plain (hr.mono (by decide)) (by rfl) T.m_c_law_plain T.F_c_law_plain.kp T.b_c_law_plain .nil passL (pa_cons (pe_call G_c_law_fraction (hr.mono (by decide)) (by rfl) T.m_c_law_fraction T.F_c_law_fraction.kp T.b_c_law_fraction .nil passL (pa_cons (pv 3) (pa_cons (pv 2) pa_nil))) pa_nil)) (nomark _)) (pss_one (ps_ret pe_bl)) pss_nil)
    (pss_cons (ps_set (i := 8) sc_c_law.nd (by rfl) (Or.inl rfl) (pe_ix ix_list (pe_lst (pa_cons pe_str (pa_cons pe_str (pa_cons pe_str (pa_cons pe_str (pa_cons pe_str (pa_cons pe_str pa_nil))))))) (pe_call G_c_law_take (hr.mono (by decide)) (by rfl) T.m_c_law_take T.F_c_law_take.kp T.b_c_law_take .nil passL (pa_cons (pv 1) (pa_cons pe_int pa_nil))) (fun _ _ => rfl)))
    (pss_cons (ps_set (i := 9) sc_c_law.nd (by rfl) (Or.inl rfl) (pe_lst (pa_cons (pe_call G_c_law_why (hr.mono (by decide)) (by rfl) T.m_c_law_why T.F_c_law_why.kp T.b_c_law_why .nil passL (pa_cons pe_int (pa_cons (pv 3) (pa_cons pe_int (pa_cons (pv 8) pa_nil))))) (pa_cons (pe_call G_c_law_why (hr.mono (by decide)) (by rfl) T.m_c_law_why T.F_c_law_why.kp T.b_c_law_why .nil passL (pa_cons pe_int (pa_cons (pv 3) (pa_cons (pv 2) (pa_cons (pv 8) pa_nil))))) (pa_cons (pe_call G_c_law_why (hr.mono (by decide)) (by rfl) T.m_c_law_why T.F_c_law_why.kp T.b_c_law_why .nil passL (pa_cons pe_int (pa_cons (pv 3) (pa_cons pe_int (pa_cons pe_str pa_nil))))) pa_nil)))))
    (pss_one (ps_ret (pe_cmpR (op_eqD hr.units) (pv 9) (pe_lst (pa_cons pe_str (pa_cons pe_str (pa_cons pe_str pa_nil)))) (nomark _))))))))))))))))))), ?_⟩
    refine ⟨_, rfl, sa, ns, 30, 14, rfl, hS, by omega, by decide, by decide, by decide, by decide, fun D0 p H0 hp s0 hd0 => ?_⟩
    have K0 : Dk (fun _ => none) H0 p D0 := ⟨rfl, same_none, hd0⟩

    -- below
    refine ⟨_, rfl, by show 3 ≤ sizeLine; decide, fun l hl => ⟨_, rfl, ?_⟩⟩
    refine pick K0 hl [3, 9, 1000] (by decide) fun m H1 hm K1 => ?_
    simp only [List.mem_cons, List.not_mem_nil, or_false] at hm
    refine take_q K1 (m := m) (by omega) fun t H2 t0 t1 K2 => ?_
    refine ⟨_, _, rfl, rfl, ?_⟩
    refine ⟨_, rfl, by show 2 ≤ sizeLine; decide, fun l hl => ⟨_, rfl, ?_⟩⟩
    refine pick K2 hl [1, -1] (by decide) fun g H3 hg K3 => ?_
    simp only [List.mem_cons, List.not_mem_nil, or_false] at hg
    refine ⟨_, _, rfl, rfl, .inr ⟨by omega, by omega⟩, ?_⟩
    have hy : (1 + t) * g ≠ 0 ∧ ((1 + t) * g).natAbs ≤ 1000 := by rcases hg with rfl | rfl <;> omega
    -- above
    refine ⟨_, rfl, ?_⟩
    refine take_q K3 (by decide) fun t4 H4 t40 t41 K4 => ?_
    refine ⟨_, _, rfl, rfl, ?_⟩
    refine ⟨_, rfl, ?_⟩
    refine number_q K4 fun n D5 H5 hn K5 => ?_
    refine ⟨_, rfl, _, rfl, ?_⟩
    refine take_q K5 (by decide) fun t6 H6 t60 t61 K6 => ?_
    refine ⟨_, _, rfl, rfl, _, _, rfl, rfl, .inl ⟨by omega, by omega⟩, ?_⟩
    refine ⟨by show 3 ≤ sizeLine; decide, fun l hl => ⟨_, rfl, ?_⟩⟩
    refine pick K6 hl [t4 - 20, n, (1 + t) * g * (t6 - 4)] (Nat.succ_pos _) fun x H7 hx K7 => ?_
    have e130 : (2 : Nat) ^ 30 ≤ 2 ^ 130 := Nat.pow_le_pow_right (by decide) (by decide)
    have hxb : x.natAbs < 2 ^ 130 := by
      simp only [List.mem_cons, List.not_mem_nil, or_false] at hx
      rcases hx with rfl | rfl | rfl
      · omega
      · exact hn
      · rcases hg with rfl | rfl
        · have := Int.natAbs_mul ((1 + t) * 1) (t6 - 4)
          have : ((1 + t) * 1).natAbs * (t6 - 4).natAbs ≤ 1000 * 10 := Nat.mul_le_mul (by omega) (by omega)
          omega
        · have := Int.natAbs_mul ((1 + t) * -1) (t6 - 4)
          have : ((1 + t) * -1).natAbs * (t6 - 4).natAbs ≤ 1000 * 10 := Nat.mul_le_mul (by omega) (by omega)
          omega
    -- doubled, or not
    refine ⟨fun σ H' => ∃ (x y : Int) (D : List Int), y ≠ 0 ∧ y.natAbs ≤ 2000 ∧ x.natAbs < 2 ^ 130 ∧ Dk (fun _ => none) H' p D ∧ σ = [some (.ref sa), some (.ref p), some (.int y), some (.int x), none, none, none, none, none, none, none, none], ?_, ?_⟩
    · refine ⟨_, rfl, ?_⟩
      refine take_q K7 (by decide) fun t8 H8 t80 t81 K8 => ?_
      refine ⟨rfl, _, rfl, ?_⟩
      refine ite2 (fun _ => ?_) (fun _ => ?_)
      · refine ⟨_, rfl, _, rfl, ?_⟩
        refine take_q K8 (by decide) fun t9 H9 t90 t91 K9 => ?_
        refine ⟨_, _, rfl, rfl, .inl ⟨by decide, by decide⟩, _, _, rfl, rfl, _, _, rfl, rfl, .inr ⟨by omega, by omega⟩, ?_⟩
        refine ⟨_, rfl, _, _, rfl, rfl, .inl ⟨by decide, by decide⟩, by show 2 ≤ sizeLine; decide, fun q hq => ?_⟩
        refine ⟨q, _, rfl, SqT.of upd_same, rfl, _, _, rfl, _, _, rfl, rfl, ?_⟩
        refine ⟨(1 + t) * g * (2 * t9 - 9), 2 * ((1 + t) * g), _, by omega, by omega, ?_, (K9.new hq).weak, rfl⟩
        have e1 := Int.natAbs_mul ((1 + t) * g) (2 * t9 - 9)
        have : ((1 + t) * g).natAbs * (2 * t9 - 9).natAbs ≤ 1000 * 10 := Nat.mul_le_mul (by omega) (by omega)
        omega
      · exact ⟨x, (1 + t) * g, _, hy.1, by omega, hxb, K8, rfl⟩
    rintro σ H8 ⟨x, y, D, hy0, hy1, hx, K8, rfl⟩
    have hy60 : y.natAbs < 2 ^ 60 := Nat.lt_of_le_of_lt hy1 (by decide)
    have hmem : ∀ i, i < 5 → inV (.str (wayS i)) waysV = true := by
      intro i hi
      have : i = 0 ∨ i = 1 ∨ i = 2 ∨ i = 3 ∨ i = 4 := by omega
      rcases this with rfl | rfl | rfl | rfl | rfl <;> decide +kernel
    have way_uniq : ∀ i j, i < 5 → j < 5 → wayS i = wayS j → i = j := by
      intro i j hi hj h
      have h1 : i = 0 ∨ i = 1 ∨ i = 2 ∨ i = 3 ∨ i = 4 := by omega
      have h2 : j = 0 ∨ j = 1 ∨ j = 2 ∨ j = 3 ∨ j = 4 := by omega
      rcases h1 with rfl | rfl | rfl | rfl | rfl <;> rcases h2 with rfl | rfl | rfl | rfl | rfl <;> first | rfl | exact absurd h (by decide +kernel)
    have rd : ∀ (X : Int) (i : Nat) (H : Hp) (Q : VK), i < 5 → (∀ H', Same H H' → Q (.int (rnd (frA X y) (frB X y) i)) H') → sp_c_rounded a.C_InvalidMoney [.int X, .int y, .str (wayS i)] H Q E0 := fun X i H Q hi k => by
      rw [sp_c_rounded_eq]
      exact ⟨X, y, _, rfl, hy60, fun z => absurd z hy0, fun _ z => absurd ((hmem i hi).symm.trans z) (by decide), fun _ _ => ⟨i, hi, rfl, k⟩⟩
    obtain ⟨_, _, hB, _, _, _, _⟩ := fr_spec (x := x) hy0
    obtain ⟨n1, n2⟩ := fr_neg (x := x) hy0
    obtain ⟨a1, a2, a3, a4, a5, a6, a7, a8⟩ := rnd_all (frA x y) hB
    -- ways
    refine ⟨by show 5 ≤ sizeLine; decide, fun l9 hl9 => ?_⟩
    have K9 := K8.new (o := .lst waysV) hl9
    -- results
    refine ⟨_, rfl, l9, rfl, ⟨waysV, SqL.of upd_same⟩, fun E' hE => ?_⟩
    have nE : l9 ≠ E' := by
      intro z
      rw [z, upd_same] at hE
      cases hE
    have npE : p ≠ E' := ne_of_none K9.hd hE
    have hE0 : (upd (fun _ => none) l9 (.lst waysV) : Hp) E' = none := by rw [upd_ne nE.symm]
    refine lc_list (K := K) (a := l9) (xs := waysV) (fun i H' => Dk (upd (fun _ => none) l9 (.lst waysV)) H' p D ∧ H' E' = some (.lst (((List.range i).map (rnd (frA x y) (frB x y))).map V.int)))
      ⟨⟨K9.nd, K9.sm.mut hE0, by rw [upd_ne (ne_of_none K9.hd hE)]; exact K9.hd⟩, upd_same⟩ (fun i H' _ q => SqL.of (q.1.sm _ _ upd_same)) ?_ ?_
    · rintro i v H' hi ⟨K, hE'⟩
      have hi5 : i < 5 := (List.getElem?_eq_some_iff.mp hi).1
      have hv : v = .str (wayS i) := by
        have : i = 0 ∨ i = 1 ∨ i = 2 ∨ i = 3 ∨ i = 4 := by omega
        rcases this with rfl | rfl | rfl | rfl | rfl <;> exact (Option.some.inj hi).symm
      subst hv
      refine ⟨rfl, ?_⟩
      refine ⟨_, rfl, _, rfl, _, rfl, ?_⟩
      refine rd x i _ _ hi5 fun H2 s2 => ?_
      refine ⟨_, s2 _ _ hE', small1000000 (by simp; omega), ⟨K.nd, (K.sm.trans s2).mut hE0, ?_⟩, ?_⟩
      · rw [upd_ne npE]
        exact s2 _ _ K.hd
      · rw [upd_same, List.range_succ, List.map_append, List.map_append]
        rfl
    rintro H10 ⟨K10, hE10⟩
    obtain ⟨R, hR⟩ : ∃ R : Nat → Int, R = rnd (frA x y) (frB x y) := ⟨_, rfl⟩
    have hres : H10 E' = some (.lst ([R 0, R 1, R 2, R 3, R 4].map V.int)) := by rw [hR]; exact hE10
    have K11 := K10.add hres npE.symm
    clear K10 hE10 hres
    have hGE : (upd (upd (fun _ => none) l9 (.lst waysV)) E' (.lst ([R 0, R 1, R 2, R 3, R 4].map V.int)) : Hp) E' = some (.lst ([R 0, R 1, R 2, R 3, R 4].map V.int)) := upd_same
    have hGW : (upd (upd (fun _ => none) l9 (.lst waysV)) E' (.lst ([R 0, R 1, R 2, R 3, R 4].map V.int)) : Hp) l9 = some (.lst waysV) := by rw [upd_ne nE, upd_same]
    generalize (upd (upd (fun _ => none) l9 (.lst waysV)) E' (.lst ([R 0, R 1, R 2, R 3, R 4].map V.int)) : Hp) = G at K11 hGE hGW
    rw [← hR] at a1 a2 a3 a4 a5 a6 a7 a8
    -- plain
    refine ⟨_, rfl, .ref E', _, rfl, dp_ints (SqL.of (K11.sm _ _ hGE)), ok_ints (by show 5 ≤ 1000; decide), fun v12 H12 s12 dn12 => ?_⟩
    have K12 := K11.same s12
    refine ⟨_, rfl, E', rfl, ⟨_, SqL.of (K12.sm _ _ hGE)⟩, fun E2 hE2 => ?_⟩
    refine lc_pure (f := fun _ v => v) (SqL.of (K12.sm _ _ hGE)) hE2 (by show 5 ≤ 1000000; decide) (fun _ => rfl) ?_ ?_
    · rintro i v H' hi s' Q' q'
      have hv : ∃ z, v = .int z := by
        have hi5 : i < 5 := (List.getElem?_eq_some_iff.mp hi).1
        have : i = 0 ∨ i = 1 ∨ i = 2 ∨ i = 3 ∨ i = 4 := by omega
        rcases this with rfl | rfl | rfl | rfl | rfl <;> exact ⟨_, (Option.some.inj hi).symm⟩
      obtain ⟨z, rfl⟩ := hv
      exact ⟨_, rfl, .inl ⟨_, rfl, q'⟩⟩
    refine ⟨.ref E2, _, rfl, dp_ints (ns := [R 0, R 1, R 2, R 3, R 4]) (SqL.of upd_same), ok_ints (by show 5 ≤ 1000; decide), fun v13 H13 s13 dn13 => ?_⟩
    have K13 := (K12.same (Same.new hE2)).same s13
    refine plain_test 4 dn12 ((Same.new hE2).trans s13) dn13 (ok_ints (by show 5 ≤ 1000; decide)) (by decide) ?_
    -- each by the law
    refine ⟨5, rfl, by decide, by decide, for_range (lo := 0) (n := 5) (fun i σ H' => ∃ v6, σ = [some (.ref sa), some (.ref p), some (.int y), some (.int x), some (.ref l9), some (.ref E'), v6, none, none, none, none, none] ∧ H' = H13) ⟨_, rfl, rfl⟩ ?_ ?_⟩
    · rintro i σ H' hi ⟨v6, rfl, rfl⟩
      refine ⟨_, rfl, _, rfl, _, rfl, _, rfl, ?_⟩
      refine ⟨l9, waysV, _, .str (wayS i), rfl, rfl, SqL.of (K13.sm _ _ hGW), atI_nat' (j := i) (by omega) ?_, ?_⟩
      · have : i = 0 ∨ i = 1 ∨ i = 2 ∨ i = 3 ∨ i = 4 := by omega
        rcases this with rfl | rfl | rfl | rfl | rfl <;> rfl
      refine ⟨_, rfl, _, rfl, ?_⟩
      refine ⟨E', _, _, .int (R i), rfl, rfl, SqL.of (K13.sm _ _ hGE), atI_nat' (j := i) (by omega) ?_, ?_⟩
      · have : i = 0 ∨ i = 1 ∨ i = 2 ∨ i = 3 ∨ i = 4 := by omega
        rcases this with rfl | rfl | rfl | rfl | rfl <;> rfl
      exact ⟨x, y, R i, i, rfl, hi, hy60, by rw [hR]; exact rnd_right x hy0 i, true, rfl, _, rfl, rfl⟩
    rintro σ H' ⟨v6, rfl, rfl⟩
    -- whole quotients
    refine ⟨fun σ H' => σ = [some (.ref sa), some (.ref p), some (.int y), some (.int x), some (.ref l9), some (.ref E'), v6, none, none, none, none, none] ∧ Dk G H' p D, ?_, ?_⟩
    · refine ⟨_, rfl, .inl ⟨_, rfl, _, rfl, _, _, rfl, rfl, hy0, rfl, _, rfl, ?_⟩⟩
      refine ite2 (fun c => ?_) (fun _ => ⟨rfl, K13⟩)
      have c' : x.fmod y = 0 := V.int.inj (of_decide_eq_true c)
      have same := rnd_whole hy0 c'
      refine ⟨_, rfl, _, rfl, ?_⟩
      refine ⟨E', _, _, _, rfl, rfl, SqL.of (K13.sm _ _ hGE), atI_nat' (j := 0) rfl rfl, ?_⟩
      refine ⟨by show 1 ≤ sizeLine; decide, fun l hl => ?_⟩
      refine ⟨l, 5, _, rfl, rfl, upd_same, by decide, by decide, by show 1 * 5 ≤ sizeLine; decide, fun l2 hl2 => ?_⟩
      refine ints_same (ns := [R 0, R 1, R 2, R 3, R 4]) (SqL.of ?_) (SqL.of ?_) ⟨false, rfl, rfl, (K13.same (Same.new hl)).same (Same.new hl2)⟩
      · rw [upd_ne (ne_of_none (Same.new hl _ _ (K13.sm _ _ hGE)) hl2)]
        exact Same.new hl _ _ (K13.sm _ _ hGE)
      · rw [upd_same, hR, same 1, same 2, same 3, same 4]
        rfl
    rintro σ H14 ⟨rfl, K14⟩
    have S := fun {H' : Hp} (K' : Dk G H' p D) => (SqL.of (K'.sm _ _ hGE) : SqL K H' E' ([R 0, R 1, R 2, R 3, R 4].map V.int))
    refine ⟨fun σ H' => σ = [some (.ref sa), some (.ref p), some (.int y), some (.int x), some (.ref l9), some (.ref E'), v6, none, none, none, none, none] ∧ Dk G H' p D, ?_, ?_⟩
    · refine ⟨_, rfl, ?_⟩
      refine ⟨E', _, _, _, rfl, rfl, S K14, atI_nat' (j := 3) rfl rfl, ?_⟩
      refine ⟨_, rfl, ?_⟩
      refine ⟨E', _, _, _, rfl, rfl, S K14, atI_nat' (j := 4) rfl rfl, ?_⟩
      refine ⟨_, _, rfl, rfl, _, rfl, _, _, rfl, rfl, _, rfl, ?_⟩
      refine ite2 (fun c => ?_) (fun _ => ?_)
      · have c' := of_decide_eq_true c
        rw [abs_nat] at c'
        omega
      refine ⟨_, rfl, ?_⟩
      refine ⟨E', _, _, _, rfl, rfl, S K14, atI_nat' (j := 0) rfl rfl, ?_⟩
      refine ⟨_, rfl, ?_⟩
      refine ⟨E', _, _, _, rfl, rfl, S K14, atI_nat' (j := 1) rfl rfl, ?_⟩
      refine ⟨_, _, rfl, rfl, _, rfl, ?_⟩
      refine ite2 (fun c => ?_) (fun _ => ?_)
      · have c' := of_decide_eq_true c
        omega
      refine ⟨_, rfl, ?_⟩
      refine ⟨E', _, _, _, rfl, rfl, S K14, atI_nat' (j := 2) rfl rfl, ?_⟩
      refine ⟨_, rfl, _, rfl, E', _, rfl, S K14, fun l hl => ?_⟩
      have hin : inV (.int (R 2)) [.int (R 0), .int (R 1)] = true := by
        simp only [inV, List.any_cons, List.any_nil, eqV, Bool.or_false, Bool.or_eq_true, beq_iff_eq]
        omega
      refine ⟨l, [.int (R 0), .int (R 1)], rfl, .inl (SqL.of upd_same), rfl, rfl, _, rfl, ?_⟩
      refine ite2 (fun c => ?_) (fun _ => ⟨rfl, K14.same (Same.new hl)⟩)
      have c' : (!inV (.int (R 2)) [.int (R 0), .int (R 1)]) = true := c
      rw [hin] at c'
      cases c'
    rintro σ H15 ⟨rfl, K15⟩
    -- turned
    refine ⟨_, rfl, _, rfl, _, rfl, ?_⟩
    refine rd (-x) 1 _ _ (by decide) fun H16 s16 => ?_
    refine ⟨_, rfl, _, rfl, _, rfl, ?_⟩
    refine rd (-x) 0 _ _ (by decide) fun H17 s17 => ?_
    refine ⟨_, rfl, _, rfl, _, rfl, ?_⟩
    refine rd (-x) 2 _ _ (by decide) fun H18 s18 => ?_
    rw [n1, n2, a5, a6, a7]
    have K18 := ((K15.same s16).same s17).same s18
    refine ⟨by show 3 ≤ sizeLine; decide, fun l19 hl19 => ?_⟩
    have K19 := K18.same (Same.new (o := .lst ([-R 0, -R 1, -R 2].map V.int)) hl19)
    have n19 : l19 ≠ p := fun z => by rw [z, K18.hd] at hl19; cases hl19
    have hG19 : (upd G l19 (.lst ([-R 0, -R 1, -R 2].map V.int)) : Hp) l19 = _ := upd_same
    have hGE2 : (upd G l19 (.lst ([-R 0, -R 1, -R 2].map V.int)) : Hp) E' = some (.lst ([R 0, R 1, R 2, R 3, R 4].map V.int)) := by
      rw [upd_ne (ne_of_none hGE (K18.fresh hl19))]
      exact hGE
    have K20 : Dk (upd G l19 (.lst ([-R 0, -R 1, -R 2].map V.int))) _ p D := K19.add upd_same n19
    generalize upd G l19 (.lst ([-R 0, -R 1, -R 2].map V.int)) = G2 at K20 hG19 hGE2
    refine ⟨fun σ H' => σ = [some (.ref sa), some (.ref p), some (.int y), some (.int x), some (.ref l9), some (.ref E'), v6, some (.ref l19), none, none, none, none] ∧ Dk G2 H' p D, ?_, ?_⟩
    · refine ⟨_, rfl, _, rfl, _, rfl, _, rfl, ?_⟩
      refine rd (-x) 4 _ _ (by decide) fun H21 s21 => ?_
      rw [n1, n2, a8]
      have K21 := K20.same s21
      refine ⟨by show 1 ≤ sizeLine; decide, fun l hl => ?_⟩
      have K22 := K21.same (Same.new (o := .lst ([-R 4].map V.int)) hl)
      refine ⟨l19, l, _, _, rfl, rfl, K22.sm _ _ hG19, upd_same, by show 3 + 1 ≤ sizeLine; decide, fun l2 hl2 => ?_⟩
      have K23 := K22.same (Same.new (o := .lst ([-R 0, -R 1, -R 2, -R 4].map V.int)) hl2)
      refine ⟨.ref l2, _, rfl, dp_ints (ns := [-R 0, -R 1, -R 2, -R 4]) (SqL.of upd_same), ok_ints (by show 4 ≤ 1000; decide), fun v24 H24 s24 dn24 => ?_⟩
      have K24 := K23.same s24
      refine ⟨_, rfl, E', _, _, _, rfl, rfl, SqL.of (K24.sm _ _ hGE2), atI_nat' (j := 0) rfl rfl, _, rfl, ?_⟩
      refine ⟨_, rfl, E', _, _, _, rfl, rfl, SqL.of (K24.sm _ _ hGE2), atI_nat' (j := 1) rfl rfl, _, rfl, ?_⟩
      refine ⟨_, rfl, E', _, _, _, rfl, rfl, SqL.of (K24.sm _ _ hGE2), atI_nat' (j := 2) rfl rfl, _, rfl, ?_⟩
      refine ⟨_, rfl, E', _, _, _, rfl, rfl, SqL.of (K24.sm _ _ hGE2), atI_nat' (j := 4) rfl rfl, _, rfl, ?_⟩
      refine ⟨by show 4 ≤ sizeLine; decide, fun l3 hl3 => ?_⟩
      refine ⟨.ref l3, _, rfl, dp_ints (ns := [-R 0, -R 1, -R 2, -R 4]) (SqL.of upd_same), ok_ints (by show 4 ≤ 1000; decide), fun v25 H25 s25 dn25 => ?_⟩
      exact plain_test 4 dn24 ((Same.new hl3).trans s25) dn25 (ok_ints (by show 4 ≤ 1000; decide)) (by decide) ⟨rfl, (K24.same (Same.new hl3)).same s25⟩
    rintro σ H26 ⟨rfl, K26⟩
    -- fractions
    refine ⟨fun σ H' => σ = [some (.ref sa), some (.ref p), some (.int y), some (.int x), some (.ref l9), some (.ref E'), v6, some (.ref l19), none, none, none, none] ∧ Dk G2 H' p D, ?_, ?_⟩
    · have y8000 : y.natAbs < 2 ^ 8000 := Nat.lt_of_lt_of_le hy60 (Nat.pow_le_pow_right (by decide) (by decide))
      refine ⟨_, rfl, _, rfl, x, y, rfl, y8000, fun z => absurd z hy0, fun _ q hq => ?_⟩
      have K27 := K26.same (Same.new (o := .tup [.int (frA x y), .int (frB x y)]) hq)
      refine ⟨.ref q, .tuple [.int (frA x y), .int (frB x y)], rfl, .tup (SqT.of upd_same) (.cons (.int _) (.cons (.int _) .nil)), by simp [okD, okDs], fun v28 H28 s28 dn28 => ?_⟩
      have K28 := K27.same s28
      refine ⟨_, rfl, _, rfl, x, y, rfl, y8000, hy0, fun q2 hq2 => ?_⟩
      have K29 := K28.same (Same.new (o := .tup [.int (frA x y), .int (frB x y)]) hq2)
      refine ⟨.ref q2, .tuple [.int (frA x y), .int (frB x y)], rfl, .tup (SqT.of upd_same) (.cons (.int _) (.cons (.int _) .nil)), by simp [okD, okDs], fun v30 H30 s30 dn30 => ?_⟩
      exact plain_test 4 dn28 ((Same.new hq2).trans s30) dn30 (by simp [okD, okDs]) (by decide) ⟨rfl, K29.same s30⟩
    rintro σ H31 ⟨rfl, K31⟩
    -- what is refused
    refine ⟨by show 6 ≤ sizeLine; decide, fun l hl => ⟨_, rfl, ?_⟩⟩
    refine pickV K31 hl [.str "", .str "Down", .str "half", .str "half down", .str "nearest", .str "half  up"] (by decide) fun z H32 hz K32 => ?_
    have hbad : ∃ s, z = .str s ∧ inV (.str s) waysV = false := by
      simp only [List.mem_cons, List.not_mem_nil, or_false] at hz
      rcases hz with rfl | rfl | rfl | rfl | rfl | rfl <;> exact ⟨_, rfl, by decide +kernel⟩
    obtain ⟨bs, rfl, hbs⟩ := hbad
    refine ⟨_, rfl, _, rfl, 0, x, 0, bs, "fraction", rfl, Nat.pow_pos (by decide), .inl ⟨rfl, rfl⟩, fun H33 s33 => ?_⟩
    refine ⟨_, rfl, _, rfl, _, rfl, 0, x, y, bs, "way", rfl, hy60, .inr ⟨rfl, hy0, hbs, rfl⟩, fun H34 s34 => ?_⟩
    refine ⟨_, rfl, 1, x, 0, "", "fraction", rfl, Nat.pow_pos (by decide), .inl ⟨rfl, rfl⟩, fun H35 s35 => ?_⟩
    refine ⟨by show 3 ≤ sizeLine; decide, fun l36 hl36 => ?_⟩
    refine ⟨_, rfl, by show 3 ≤ sizeLine; decide, fun l37 hl37 => ?_⟩
    have n67 : l36 ≠ l37 := fun z => by rw [z, upd_same] at hl37; cases hl37
    refine ⟨.list [.str "fraction", .str "way", .str "fraction"], .list [.str "fraction", .str "way", .str "fraction"], .lst (SqL.of (by rw [upd_ne n67]; exact upd_same)) (.cons (.str _) (.cons (.str _) (.cons (.str _) .nil))), .lst (SqL.of upd_same) (.cons (.str _) (.cons (.str _) (.cons (.str _) .nil))), by decide +kernel, by decide +kernel, ?_⟩
    rw [SeqAt.eqv_refl _ (by decide +kernel)]
    exact k _
theorem all_mk {l : PySem.W.OpenLaw} {w : World} {K : PySem.W.Frag} {h : Heap} {mg : Str → Option Value} {fa : Addr} (X : K.In h) (G : h.Ns mainGlobals mg) (hfa : mg "law" = some (.ref fa))
    {C_SlotError C_InvalidTime C_InvalidMoney : Addr} {A_WAYS : Addr} {dW : Option Addr} {nW : Nat} {slW : Array (Option Value)} {tW1 tW2 tW3 tW4 tW5 : Tok}
    {f0 : Addr} {od0 an0 : Option Addr} {sl0 : Array (Option Value)} {oc0 kV0 dc0 pm0 cd0 ct0 : Value}
    {f1 : Addr} {od1 an1 : Option Addr} {sl1 : Array (Option Value)} {oc1 kV1 dc1 pm1 cd1 ct1 : Value}
    {f2 : Addr} {od2 an2 : Option Addr} {sl2 : Array (Option Value)} {oc2 kV2 dc2 pm2 cd2 ct2 : Value}
    {f3 : Addr} {od3 an3 : Option Addr} {sl3 : Array (Option Value)} {oc3 kV3 dc3 pm3 cd3 ct3 : Value}
    {f4 : Addr} {od4 an4 : Option Addr} {sl4 : Array (Option Value)} {oc4 kV4 dc4 pm4 cd4 ct4 : Value}
    {f5 : Addr} {od5 an5 : Option Addr} {sl5 : Array (Option Value)} {oc5 kV5 dc5 pm5 cd5 ct5 : Value}
    {f6 : Addr} {od6 an6 : Option Addr} {sl6 : Array (Option Value)} {oc6 kV6 dc6 pm6 cd6 ct6 : Value}
    {f7 : Addr} {od7 an7 : Option Addr} {sl7 : Array (Option Value)} {oc7 kV7 dc7 pm7 cd7 ct7 : Value}
    {f8 : Addr} {od8 an8 : Option Addr} {sl8 : Array (Option Value)} {oc8 kV8 dc8 pm8 cd8 ct8 : Value}
    {f9 : Addr} {od9 an9 : Option Addr} {sl9 : Array (Option Value)} {oc9 kV9 dc9 pm9 cd9 ct9 : Value}
    {f10 : Addr} {od10 an10 : Option Addr} {sl10 : Array (Option Value)} {oc10 kV10 dc10 pm10 cd10 ct10 : Value}
    {f11 : Addr} {od11 an11 : Option Addr} {sl11 : Array (Option Value)} {oc11 kV11 dc11 pm11 cd11 ct11 : Value}
    {f12 : Addr} {od12 an12 : Option Addr} {sl12 : Array (Option Value)} {oc12 kV12 dc12 pm12 cd12 ct12 : Value}
    {nm_InvalidTime q_InvalidTime : Str} {N_InvalidTime : Addr} {bs_InvalidTime bm_InvalidTime : List Value} {sn_InvalidTime : List Str} {sub_InvalidTime : List Value} {ab_InvalidTime : Bool} {col_InvalidTime : Option Bool} {dd_InvalidTime : Option Addr} {m0_InvalidTime m1_InvalidTime m2_InvalidTime m3_InvalidTime m5_InvalidTime : Option Value}
    {nm_InvalidMoney q_InvalidMoney : Str} {N_InvalidMoney : Addr} {bs_InvalidMoney bm_InvalidMoney : List Value} {sn_InvalidMoney : List Str} {sub_InvalidMoney : List Value} {ab_InvalidMoney : Bool} {col_InvalidMoney : Option Bool} {dd_InvalidMoney : Option Addr} {m0_InvalidMoney m1_InvalidMoney m2_InvalidMoney m3_InvalidMoney m5_InvalidMoney : Option Value}
    (g_SlotError : PySem.W.nsIn K mainGlobals "SlotError" = some (some (.ref C_SlotError)))
    (g_InvalidTime : PySem.W.nsIn K mainGlobals "InvalidTime" = some (some (.ref C_InvalidTime)))
    (g_InvalidMoney : PySem.W.nsIn K mainGlobals "InvalidMoney" = some (some (.ref C_InvalidMoney)))
    (a0 : PySem.W.findIn K (.ref C_InvalidTime) "__init__" = some (some (.ref f0)))
    (l0 : K.lookup f0 = some ⟨oc0, od0, .func (PySem.W.fnOf "__init__" "InvalidTime.__init__" (defArgs st_c_InvalidTime_init) (defBody st_c_InvalidTime_init) (defScope st_c_InvalidTime_init) .none kV0 dc0 pm0 an0 cd0 ct0), sl0⟩)
    (c0 : PySem.W.codeIn K cd0 "InvalidTime.__init__" = true)
    (k0 : PySem.W.keepIn K (.ref f0) = true)
    (a1 : PySem.W.findIn K (.ref C_InvalidMoney) "__init__" = some (some (.ref f1)))
    (l1 : K.lookup f1 = some ⟨oc1, od1, .func (PySem.W.fnOf "__init__" "InvalidMoney.__init__" (defArgs st_c_InvalidMoney_init) (defBody st_c_InvalidMoney_init) (defScope st_c_InvalidMoney_init) .none kV1 dc1 pm1 an1 cd1 ct1), sl1⟩)
    (c1 : PySem.W.codeIn K cd1 "InvalidMoney.__init__" = true)
    (k1 : PySem.W.keepIn K (.ref f1) = true)
    (a2 : PySem.W.nsIn K mainGlobals "fraction" = some (some (.ref f2)))
    (l2 : K.lookup f2 = some ⟨oc2, od2, .func (PySem.W.fnOf "fraction" "fraction" (defArgs st_c_fraction) (defBody st_c_fraction) (defScope st_c_fraction) .none kV2 dc2 pm2 an2 cd2 ct2), sl2⟩)
    (c2 : PySem.W.codeIn K cd2 "fraction" = true)
    (k2 : PySem.W.keepIn K (.ref f2) = true)
    (a3 : PySem.W.nsIn K mainGlobals "rounded" = some (some (.ref f3)))
    (l3 : K.lookup f3 = some ⟨oc3, od3, .func (PySem.W.fnOf "rounded" "rounded" (defArgs st_c_rounded) (defBody st_c_rounded) (defScope st_c_rounded) .none kV3 dc3 pm3 an3 cd3 ct3), sl3⟩)
    (c3 : PySem.W.codeIn K cd3 "rounded" = true)
    (k3 : PySem.W.keepIn K (.ref f3) = true)
    (a4 : PySem.W.nsIn K mainGlobals "_law_deck" = some (some (.ref f4)))
    (l4 : K.lookup f4 = some ⟨oc4, od4, .func (PySem.W.fnOf "_law_deck" "_law_deck" (defArgs st_c_law_deck) (defBody st_c_law_deck) (defScope st_c_law_deck) .none kV4 dc4 pm4 an4 cd4 ct4), sl4⟩)
    (c4 : PySem.W.codeIn K cd4 "_law_deck" = true)
    (k4 : PySem.W.keepIn K (.ref f4) = true)
    (a5 : PySem.W.nsIn K mainGlobals "_law_take" = some (some (.ref f5)))
    (l5 : K.lookup f5 = some ⟨oc5, od5, .func (PySem.W.fnOf "_law_take" "_law_take" (defArgs st_c_law_take) (defBody st_c_law_take) (defScope st_c_law_take) .none kV5 dc5 pm5 an5 cd5 ct5), sl5⟩)
    (c5 : PySem.W.codeIn K cd5 "_law_take" = true)
    (k5 : PySem.W.keepIn K (.ref f5) = true)
    (a6 : PySem.W.nsIn K mainGlobals "_law_plain" = some (some (.ref f6)))
    (l6 : K.lookup f6 = some ⟨oc6, od6, .func (PySem.W.fnOf "_law_plain" "_law_plain" (defArgs st_c_law_plain) (defBody st_c_law_plain) (defScope st_c_law_plain) .none kV6 dc6 pm6 an6 cd6 ct6), sl6⟩)
    (c6 : PySem.W.codeIn K cd6 "_law_plain" = true)
    (k6 : PySem.W.keepIn K (.ref f6) = true)
    (a7 : PySem.W.nsIn K mainGlobals "_law_number" = some (some (.ref f7)))
    (l7 : K.lookup f7 = some ⟨oc7, od7, .func (PySem.W.fnOf "_law_number" "_law_number" (defArgs st_c_law_number) (defBody st_c_law_number) (defScope st_c_law_number) .none kV7 dc7 pm7 an7 cd7 ct7), sl7⟩)
    (c7 : PySem.W.codeIn K cd7 "_law_number" = true)
    (k7 : PySem.W.keepIn K (.ref f7) = true)
    (a8 : PySem.W.nsIn K mainGlobals "_law_gcd" = some (some (.ref f8)))
    (l8 : K.lookup f8 = some ⟨oc8, od8, .func (PySem.W.fnOf "_law_gcd" "_law_gcd" (defArgs st_c_law_gcd) (defBody st_c_law_gcd) (defScope st_c_law_gcd) .none kV8 dc8 pm8 an8 cd8 ct8), sl8⟩)
    (c8 : PySem.W.codeIn K cd8 "_law_gcd" = true)
    (k8 : PySem.W.keepIn K (.ref f8) = true)
    (a9 : PySem.W.nsIn K mainGlobals "_law_fraction" = some (some (.ref f9)))
    (l9 : K.lookup f9 = some ⟨oc9, od9, .func (PySem.W.fnOf "_law_fraction" "_law_fraction" (defArgs st_c_law_fraction) (defBody st_c_law_fraction) (defScope st_c_law_fraction) .none kV9 dc9 pm9 an9 cd9 ct9), sl9⟩)
    (c9 : PySem.W.codeIn K cd9 "_law_fraction" = true)
    (k9 : PySem.W.keepIn K (.ref f9) = true)
    (a10 : PySem.W.nsIn K mainGlobals "_law_why" = some (some (.ref f10)))
    (l10 : K.lookup f10 = some ⟨oc10, od10, .func (PySem.W.fnOf "_law_why" "_law_why" (defArgs st_c_law_why) (defBody st_c_law_why) (defScope st_c_law_why) .none kV10 dc10 pm10 an10 cd10 ct10), sl10⟩)
    (c10 : PySem.W.codeIn K cd10 "_law_why" = true)
    (k10 : PySem.W.keepIn K (.ref f10) = true)
    (a11 : PySem.W.nsIn K mainGlobals "_law_right" = some (some (.ref f11)))
    (l11 : K.lookup f11 = some ⟨oc11, od11, .func (PySem.W.fnOf "_law_right" "_law_right" (defArgs st_c_law_right) (defBody st_c_law_right) (defScope st_c_law_right) .none kV11 dc11 pm11 an11 cd11 ct11), sl11⟩)
    (c11 : PySem.W.codeIn K cd11 "_law_right" = true)
    (k11 : PySem.W.keepIn K (.ref f11) = true)
    (a12 : PySem.W.nsIn K mainGlobals "law" = some (some (.ref f12)))
    (l12 : K.lookup f12 = some ⟨oc12, od12, .func (PySem.W.fnOf "law" "law" (defArgs st_c_law) (defBody st_c_law) (defScope st_c_law) .none kV12 dc12 pm12 an12 cd12 ct12), sl12⟩)
    (c12 : PySem.W.codeIn K cd12 "law" = true)
    (k12 : PySem.W.keepIn K (.ref f12) = true)
    (b1_SlotError : PySem.W.specialIn K (.ref C_SlotError) "__getattribute__" = some (some (.builtin "type.__getattribute__")))
    (b2_SlotError : PySem.W.readsIn K C_SlotError (.type "type") = true)
    (b3_SlotError : PySem.W.findCls K (.ref C_SlotError) (.type "type") "__init__" = some (.val (.builtin "ValueError.__init__")))
    (x_InvalidTime : K.lookup C_InvalidTime = some (excClassObj nm_InvalidTime q_InvalidTime C_InvalidTime N_InvalidTime bs_InvalidTime bm_InvalidTime true sn_InvalidTime sub_InvalidTime ab_InvalidTime col_InvalidTime dd_InvalidTime m0_InvalidTime m1_InvalidTime m2_InvalidTime m3_InvalidTime m5_InvalidTime "ValueError.__new__"))
    (rv_InvalidTime : PySem.HandSPX.refsVE bm_InvalidTime = true)
    (sa_InvalidTime : PySem.W.findIn K (.ref C_InvalidTime) "__setattr__" = some (some (.builtin "object.__setattr__")))
    (ga_InvalidTime : PySem.W.findIn K (.ref C_InvalidTime) "__getattribute__" = some (some (.builtin "BaseException.__getattribute__")))
    (gg_InvalidTime : PySem.W.findIn K (.ref C_InvalidTime) "__getattr__" = some none)
    (kC_InvalidTime : PySem.W.keepIn K (.ref C_InvalidTime) = true)
    (eC_InvalidTime : PySem.W.subIn K (.ref C_InvalidTime) (.type "BaseException") = some true)
    (tC_InvalidTime : PySem.W.typeIn K (.ref C_InvalidTime) = some (.type "type"))
    (hC_InvalidTime : PySem.W.hasDictIn K C_InvalidTime = true)
    (ic_InvalidTime : (PySem.W.clsIn K C_InvalidTime).isSome = true)
    (cc_InvalidTime : PySem.W.findIn K (.ref C_InvalidTime) "__class__" = some (some (.builtin "object.__class__")))
    (mo_InvalidTime : PySem.W.mroIn K C_InvalidTime (.type "object") = some true)
    (ti_InvalidTime : PySem.W.typeIn K (.ref f0) = some (.type "function"))
    (no_InvalidTime_what : PySem.W.findIn K (.ref C_InvalidTime) "what" = some none)
    (em_InvalidTime_SlotError : PySem.W.exmOne K (.ref C_InvalidTime) (.ref C_SlotError) = some true)
    (em_InvalidTime_InvalidTime : PySem.W.exmOne K (.ref C_InvalidTime) (.ref C_InvalidTime) = some true)
    (x_InvalidMoney : K.lookup C_InvalidMoney = some (excClassObj nm_InvalidMoney q_InvalidMoney C_InvalidMoney N_InvalidMoney bs_InvalidMoney bm_InvalidMoney true sn_InvalidMoney sub_InvalidMoney ab_InvalidMoney col_InvalidMoney dd_InvalidMoney m0_InvalidMoney m1_InvalidMoney m2_InvalidMoney m3_InvalidMoney m5_InvalidMoney "ValueError.__new__"))
    (rv_InvalidMoney : PySem.HandSPX.refsVE bm_InvalidMoney = true)
    (sa_InvalidMoney : PySem.W.findIn K (.ref C_InvalidMoney) "__setattr__" = some (some (.builtin "object.__setattr__")))
    (ga_InvalidMoney : PySem.W.findIn K (.ref C_InvalidMoney) "__getattribute__" = some (some (.builtin "BaseException.__getattribute__")))
    (gg_InvalidMoney : PySem.W.findIn K (.ref C_InvalidMoney) "__getattr__" = some none)
    (kC_InvalidMoney : PySem.W.keepIn K (.ref C_InvalidMoney) = true)
    (eC_InvalidMoney : PySem.W.subIn K (.ref C_InvalidMoney) (.type "BaseException") = some true)
    (tC_InvalidMoney : PySem.W.typeIn K (.ref C_InvalidMoney) = some (.type "type"))
    (hC_InvalidMoney : PySem.W.hasDictIn K C_InvalidMoney = true)
    (ic_InvalidMoney : (PySem.W.clsIn K C_InvalidMoney).isSome = true)
    (cc_InvalidMoney : PySem.W.findIn K (.ref C_InvalidMoney) "__class__" = some (some (.builtin "object.__class__")))
    (mo_InvalidMoney : PySem.W.mroIn K C_InvalidMoney (.type "object") = some true)
    (ti_InvalidMoney : PySem.W.typeIn K (.ref f1) = some (.type "function"))
    (no_InvalidMoney_what : PySem.W.findIn K (.ref C_InvalidMoney) "what" = some none)
    (em_InvalidMoney_SlotError : PySem.W.exmOne K (.ref C_InvalidMoney) (.ref C_SlotError) = some true)
    (em_InvalidMoney_InvalidMoney : PySem.W.exmOne K (.ref C_InvalidMoney) (.ref C_InvalidMoney) = some true)
    (z_hn : PySem.W.specialIn K (.builtin "object.__class__") "__get__" = some (some (.builtin "getset_descriptor.__get__")))
    (z_ht : PySem.W.takesIn K (.builtin "object.__class__") = some true)
    (kt_InvalidMoney_InvalidMoney : PySem.W.kitOne K (.ref C_InvalidMoney) (.ref C_InvalidMoney) = some true)
    (kt_InvalidMoney_InvalidTime : PySem.W.kitOne K (.ref C_InvalidMoney) (.ref C_InvalidTime) = some false)
    (n_abs : PySem.W.nsIn K mainGlobals "abs" = some none)
    (n_bool : PySem.W.nsIn K mainGlobals "bool" = some none)
    (n_int : PySem.W.nsIn K mainGlobals "int" = some none)
    (n_isinstance : PySem.W.nsIn K mainGlobals "isinstance" = some none)
    (n_len : PySem.W.nsIn K mainGlobals "len" = some none)
    (n_list : PySem.W.nsIn K mainGlobals "list" = some none)
    (n_range : PySem.W.nsIn K mainGlobals "range" = some none)
    (n_str : PySem.W.nsIn K mainGlobals "str" = some none)
    (n_tuple : PySem.W.nsIn K mainGlobals "tuple" = some none)
    (i_gcd : PySem.W.nsIn K mainGlobals "gcd" = some (some (.builtin "math.gcd")))
    (m_WAYS : PySem.W.nsIn K mainGlobals "WAYS" = some (some (.ref A_WAYS)))
    (wl_WAYS : K.lookup A_WAYS = some ⟨.type "tuple", dW, .seq #[.str "down" tW1, .str "up" tW2, .str "toward zero" tW3, .str "half up" tW4, .str "half even" tW5] nW, slW⟩)
    : ∃ fd : FuncData, (∀ (s : Shared) (v : Value), BindsTo s fd ⟨[v], []⟩ [("script", v)]) ∧ ∀ base : Heap, K.In base → base.Ns mainGlobals mg → FnOk l.prog w K mg base (L2.CX l.prog w) 6 fa fd ["script"] (sp_c_law K) := by
  have e := hfa.symm.trans (PySem.W.mg_of X G a12)
  cases e
  have T : Txt K mg { f_c_InvalidTime_init := f0, d_c_InvalidTime_init := (PySem.W.fnOf "__init__" "InvalidTime.__init__" (defArgs st_c_InvalidTime_init) (defBody st_c_InvalidTime_init) (defScope st_c_InvalidTime_init) .none kV0 dc0 pm0 an0 cd0 ct0), f_c_InvalidMoney_init := f1, d_c_InvalidMoney_init := (PySem.W.fnOf "__init__" "InvalidMoney.__init__" (defArgs st_c_InvalidMoney_init) (defBody st_c_InvalidMoney_init) (defScope st_c_InvalidMoney_init) .none kV1 dc1 pm1 an1 cd1 ct1), f_c_fraction := f2, d_c_fraction := (PySem.W.fnOf "fraction" "fraction" (defArgs st_c_fraction) (defBody st_c_fraction) (defScope st_c_fraction) .none kV2 dc2 pm2 an2 cd2 ct2), f_c_rounded := f3, d_c_rounded := (PySem.W.fnOf "rounded" "rounded" (defArgs st_c_rounded) (defBody st_c_rounded) (defScope st_c_rounded) .none kV3 dc3 pm3 an3 cd3 ct3), f_c_law_deck := f4, d_c_law_deck := (PySem.W.fnOf "_law_deck" "_law_deck" (defArgs st_c_law_deck) (defBody st_c_law_deck) (defScope st_c_law_deck) .none kV4 dc4 pm4 an4 cd4 ct4), f_c_law_take := f5, d_c_law_take := (PySem.W.fnOf "_law_take" "_law_take" (defArgs st_c_law_take) (defBody st_c_law_take) (defScope st_c_law_take) .none kV5 dc5 pm5 an5 cd5 ct5), f_c_law_plain := f6, d_c_law_plain := (PySem.W.fnOf "_law_plain" "_law_plain" (defArgs st_c_law_plain) (defBody st_c_law_plain) (defScope st_c_law_plain) .none kV6 dc6 pm6 an6 cd6 ct6), f_c_law_number := f7, d_c_law_number := (PySem.W.fnOf "_law_number" "_law_number" (defArgs st_c_law_number) (defBody st_c_law_number) (defScope st_c_law_number) .none kV7 dc7 pm7 an7 cd7 ct7), f_c_law_gcd := f8, d_c_law_gcd := (PySem.W.fnOf "_law_gcd" "_law_gcd" (defArgs st_c_law_gcd) (defBody st_c_law_gcd) (defScope st_c_law_gcd) .none kV8 dc8 pm8 an8 cd8 ct8), f_c_law_fraction := f9, d_c_law_fraction := (PySem.W.fnOf "_law_fraction" "_law_fraction" (defArgs st_c_law_fraction) (defBody st_c_law_fraction) (defScope st_c_law_fraction) .none kV9 dc9 pm9 an9 cd9 ct9), f_c_law_why := f10, d_c_law_why := (PySem.W.fnOf "_law_why" "_law_why" (defArgs st_c_law_why) (defBody st_c_law_why) (defScope st_c_law_why) .none kV10 dc10 pm10 an10 cd10 ct10), f_c_law_right := f11, d_c_law_right := (PySem.W.fnOf "_law_right" "_law_right" (defArgs st_c_law_right) (defBody st_c_law_right) (defScope st_c_law_right) .none kV11 dc11 pm11 an11 cd11 ct11), f_c_law := fa, d_c_law := (PySem.W.fnOf "law" "law" (defArgs st_c_law) (defBody st_c_law) (defScope st_c_law) .none kV12 dc12 pm12 an12 cd12 ct12), C_SlotError := C_SlotError, C_InvalidTime := C_InvalidTime, C_InvalidMoney := C_InvalidMoney, A_WAYS := A_WAYS } := {
    F_c_InvalidTime_init := fun_mk (st := st_c_InvalidTime_init) l0 c0 k0
    b_c_InvalidTime_init := (fun_mk (st := st_c_InvalidTime_init) l0 c0 k0).binds (ps := ["self", "what"]) fun _ _ _ _ _ _ us hl => match us, hl with | [_, _], _ => rfl
    F_c_InvalidMoney_init := fun_mk (st := st_c_InvalidMoney_init) l1 c1 k1
    b_c_InvalidMoney_init := (fun_mk (st := st_c_InvalidMoney_init) l1 c1 k1).binds (ps := ["self", "what"]) fun _ _ _ _ _ _ us hl => match us, hl with | [_, _], _ => rfl
    F_c_fraction := fun_mk (st := st_c_fraction) l2 c2 k2
    b_c_fraction := (fun_mk (st := st_c_fraction) l2 c2 k2).binds (ps := ["above", "below"]) fun _ _ _ _ _ _ us hl => match us, hl with | [_, _], _ => rfl
    m_c_fraction := PySem.W.mg_of X G a2
    F_c_rounded := fun_mk (st := st_c_rounded) l3 c3 k3
    b_c_rounded := (fun_mk (st := st_c_rounded) l3 c3 k3).binds (ps := ["above", "below", "way"]) fun _ _ _ _ _ _ us hl => match us, hl with | [_, _, _], _ => rfl
    m_c_rounded := PySem.W.mg_of X G a3
    F_c_law_deck := fun_mk (st := st_c_law_deck) l4 c4 k4
    b_c_law_deck := (fun_mk (st := st_c_law_deck) l4 c4 k4).binds (ps := ["script", "cells", "each"]) fun _ _ _ _ _ _ us hl => match us, hl with | [_, _, _], _ => rfl
    m_c_law_deck := PySem.W.mg_of X G a4
    F_c_law_take := fun_mk (st := st_c_law_take) l5 c5 k5
    b_c_law_take := (fun_mk (st := st_c_law_take) l5 c5 k5).binds (ps := ["deck", "many"]) fun _ _ _ _ _ _ us hl => match us, hl with | [_, _], _ => rfl
    m_c_law_take := PySem.W.mg_of X G a5
    F_c_law_plain := fun_mk (st := st_c_law_plain) l6 c6 k6
    b_c_law_plain := (fun_mk (st := st_c_law_plain) l6 c6 k6).binds (ps := ["value"]) fun _ _ _ _ _ _ us hl => match us, hl with | [_], _ => rfl
    m_c_law_plain := PySem.W.mg_of X G a6
    F_c_law_number := fun_mk (st := st_c_law_number) l7 c7 k7
    b_c_law_number := (fun_mk (st := st_c_law_number) l7 c7 k7).binds (ps := ["deck"]) fun _ _ _ _ _ _ us hl => match us, hl with | [_], _ => rfl
    m_c_law_number := PySem.W.mg_of X G a7
    F_c_law_gcd := fun_mk (st := st_c_law_gcd) l8 c8 k8
    b_c_law_gcd := (fun_mk (st := st_c_law_gcd) l8 c8 k8).binds (ps := ["one", "two"]) fun _ _ _ _ _ _ us hl => match us, hl with | [_, _], _ => rfl
    m_c_law_gcd := PySem.W.mg_of X G a8
    F_c_law_fraction := fun_mk (st := st_c_law_fraction) l9 c9 k9
    b_c_law_fraction := (fun_mk (st := st_c_law_fraction) l9 c9 k9).binds (ps := ["above", "below"]) fun _ _ _ _ _ _ us hl => match us, hl with | [_, _], _ => rfl
    m_c_law_fraction := PySem.W.mg_of X G a9
    F_c_law_why := fun_mk (st := st_c_law_why) l10 c10 k10
    b_c_law_why := (fun_mk (st := st_c_law_why) l10 c10 k10).binds (ps := ["ask", "above", "below", "way"]) fun _ _ _ _ _ _ us hl => match us, hl with | [_, _, _, _], _ => rfl
    m_c_law_why := PySem.W.mg_of X G a10
    F_c_law_right := fun_mk (st := st_c_law_right) l11 c11 k11
    b_c_law_right := (fun_mk (st := st_c_law_right) l11 c11 k11).binds (ps := ["above", "below", "way", "told"]) fun _ _ _ _ _ _ us hl => match us, hl with | [_, _, _, _], _ => rfl
    m_c_law_right := PySem.W.mg_of X G a11
    F_c_law := fun_mk (st := st_c_law) l12 c12 k12
    b_c_law := (fun_mk (st := st_c_law) l12 c12 k12).binds (ps := ["script"]) fun _ _ _ _ _ _ us hl => match us, hl with | [_], _ => rfl
    m_c_law := PySem.W.mg_of X G a12
    m_SlotError := PySem.W.mg_of X G g_SlotError
    bc_SlotError := ⟨b1_SlotError, b2_SlotError, b3_SlotError⟩
    m_InvalidTime := PySem.W.mg_of X G g_InvalidTime
    ox_InvalidTime := ⟨⟨_, _, _, _, _, _, _, _, _, _, _, _, _, _, _, x_InvalidTime, rv_InvalidTime⟩, sa_InvalidTime, eC_InvalidTime, tC_InvalidTime, kC_InvalidTime⟩
    in_InvalidTime := a0
    ti_InvalidTime := ti_InvalidTime
    no_InvalidTime_what := no_InvalidTime_what
    xf_InvalidTime := ⟨ga_InvalidTime, gg_InvalidTime, eC_InvalidTime, hC_InvalidTime⟩
    is_InvalidTime := ⟨ic_InvalidTime, ga_InvalidTime, gg_InvalidTime, eC_InvalidTime, cc_InvalidTime, z_hn, z_ht, mo_InvalidTime⟩
    em_InvalidTime_SlotError := em_InvalidTime_SlotError
    em_InvalidTime_InvalidTime := em_InvalidTime_InvalidTime
    m_InvalidMoney := PySem.W.mg_of X G g_InvalidMoney
    ox_InvalidMoney := ⟨⟨_, _, _, _, _, _, _, _, _, _, _, _, _, _, _, x_InvalidMoney, rv_InvalidMoney⟩, sa_InvalidMoney, eC_InvalidMoney, tC_InvalidMoney, kC_InvalidMoney⟩
    in_InvalidMoney := a1
    ti_InvalidMoney := ti_InvalidMoney
    no_InvalidMoney_what := no_InvalidMoney_what
    xf_InvalidMoney := ⟨ga_InvalidMoney, gg_InvalidMoney, eC_InvalidMoney, hC_InvalidMoney⟩
    is_InvalidMoney := ⟨ic_InvalidMoney, ga_InvalidMoney, gg_InvalidMoney, eC_InvalidMoney, cc_InvalidMoney, z_hn, z_ht, mo_InvalidMoney⟩
    em_InvalidMoney_SlotError := em_InvalidMoney_SlotError
    em_InvalidMoney_InvalidMoney := em_InvalidMoney_InvalidMoney
    kt_InvalidMoney_InvalidMoney := kt_InvalidMoney_InvalidMoney
    kt_InvalidMoney_InvalidTime := kt_InvalidMoney_InvalidTime
    n_abs := PySem.W.mg_none_of X G n_abs
    n_bool := PySem.W.mg_none_of X G n_bool
    n_int := PySem.W.mg_none_of X G n_int
    n_isinstance := PySem.W.mg_none_of X G n_isinstance
    n_len := PySem.W.mg_none_of X G n_len
    n_list := PySem.W.mg_none_of X G n_list
    n_range := PySem.W.mg_none_of X G n_range
    n_str := PySem.W.mg_none_of X G n_str
    n_tuple := PySem.W.mg_none_of X G n_tuple
    i_gcd := PySem.W.mg_of X G i_gcd
    m_WAYS := PySem.W.mg_of X G m_WAYS
    w_WAYS := .inr ⟨_, _, _, wl_WAYS, rfl, rfl, by show 5 ≤ sizeLine; decide, .cons ⟨_, rfl⟩ (.cons ⟨_, rfl⟩ (.cons ⟨_, rfl⟩ (.cons ⟨_, rfl⟩ (.cons ⟨_, rfl⟩ .nil))))⟩
  }
  exact ⟨(PySem.W.fnOf "law" "law" (defArgs st_c_law) (defBody st_c_law) (defScope st_c_law) .none kV12 dc12 pm12 an12 cd12 ct12), fun s v => .of_eq rfl, fun base _ _ => ok_c_law T⟩
theorem walk {l : PySem.W.OpenLaw} {q : Program} {loose : List Str} {XP : (Str → Option Value) → Heap → Prop} {YP : World → Heap → Prop} {d : DefRec} {K : Params → PySem.W.Frag} (hn : l.most = some 63) (hdf : d.params.defaults = [])
    (hY : ∀ (w : World) (h : Heap), YP w h → (K w.params).In h)
    (F : ∀ (w : World) (mg : Str → Option Value) (fa : Addr) (h : Heap), (K w.params).In h → h.Ns mainGlobals mg → mg d.name = some (.ref fa) →
      ∃ fd : FuncData, (∀ (s : Shared) (u : Value), BindsTo s fd ⟨[u], []⟩ [("script", u)]) ∧ ∀ base : Heap, (K w.params).In base → base.Ns mainGlobals mg → FnOk l.prog w (K w.params) mg base (L2.CX l.prog w) 6 fa fd ["script"] (sp_c_law (K w.params))) :
    PySem.W.WalkO q loose XP YP l.row.toRowW d [] (fun f vs => PySem.call f vs) :=
  L2.walk_of (n := 63) (k := 6) (x := "script") (CX := fun w => L2.CX l.prog w) (sp := fun w => sp_c_law (K w.params)) hn (by decide) hdf ⟨rfl, by decide, by decide⟩ hY F (fun _ _ a ns hl _ hS => ⟨a, ns, rfl, hS, hl, fun _ => rfl⟩)
    fun _ _ _ _ _ z => by obtain ⟨_, _, _, _, _, _, _, _, _, _, _, _, z⟩ := z; exact z
end K42
open PySem PySem.W PyProof.Rows
set_option maxRecDepth 100000 in
set_option maxHeartbeats 0 in
theorem PySem.Challenge.cw_slotwork_k42_whole_rounding_holds : PySem.Challenge.rw_slotwork_k42_whole_rounding.Holds := by
  w_on; o_law; k_head; (case hw => w_witness2)
  k_fill
  refine K42.walk (l := PySem.Challenge.rw_slotwork_k42_whole_rounding) rfl rfl (fun w h Y => PySem.W.kIn_of Y) ?F
  case F =>
    intro w mg fa h KX G hmg
    refine' K42.all_mk KX G hmg ?g_SlotError ?g_InvalidTime ?g_InvalidMoney ?a0 ?l0 ?c0 ?k0 ?a1 ?l1 ?c1 ?k1 ?a2 ?l2 ?c2 ?k2 ?a3 ?l3 ?c3 ?k3 ?a4 ?l4 ?c4 ?k4 ?a5 ?l5 ?c5 ?k5 ?a6 ?l6 ?c6 ?k6 ?a7 ?l7 ?c7 ?k7 ?a8 ?l8 ?c8 ?k8 ?a9 ?l9 ?c9 ?k9 ?a10 ?l10 ?c10 ?k10 ?a11 ?l11 ?c11 ?k11 ?a12 ?l12 ?c12 ?k12 ?b1_SlotError ?b2_SlotError ?b3_SlotError ?x_InvalidTime ?rv_InvalidTime ?sa_InvalidTime ?ga_InvalidTime ?gg_InvalidTime ?kC_InvalidTime ?eC_InvalidTime ?tC_InvalidTime ?hC_InvalidTime ?ic_InvalidTime ?cc_InvalidTime ?mo_InvalidTime ?ti_InvalidTime ?no_InvalidTime_what ?em_InvalidTime_SlotError ?em_InvalidTime_InvalidTime ?x_InvalidMoney ?rv_InvalidMoney ?sa_InvalidMoney ?ga_InvalidMoney ?gg_InvalidMoney ?kC_InvalidMoney ?eC_InvalidMoney ?tC_InvalidMoney ?hC_InvalidMoney ?ic_InvalidMoney ?cc_InvalidMoney ?mo_InvalidMoney ?ti_InvalidMoney ?no_InvalidMoney_what ?em_InvalidMoney_SlotError ?em_InvalidMoney_InvalidMoney ?z_hn ?z_ht ?kt_InvalidMoney_InvalidMoney ?kt_InvalidMoney_InvalidTime ?n_abs ?n_bool ?n_int ?n_isinstance ?n_len ?n_list ?n_range ?n_str ?n_tuple ?i_gcd ?m_WAYS ?wl_WAYS
    (case g_SlotError => first | k_is | rfl | decide +kernel)
    (case g_InvalidTime => first | k_is | rfl | decide +kernel)
    (case g_InvalidMoney => first | k_is | rfl | decide +kernel)
    (case a0 => first | k_is | rfl | decide +kernel)
    (case l0 => first | k_is | rfl | decide +kernel)
    (case c0 => first | k_is | rfl | decide +kernel)
    (case k0 => first | k_is | rfl | decide +kernel)
    (case a1 => first | k_is | rfl | decide +kernel)
    (case l1 => first | k_is | rfl | decide +kernel)
    (case c1 => first | k_is | rfl | decide +kernel)
    (case k1 => first | k_is | rfl | decide +kernel)
    (case a2 => first | k_is | rfl | decide +kernel)
    (case l2 => first | k_is | rfl | decide +kernel)
    (case c2 => first | k_is | rfl | decide +kernel)
    (case k2 => first | k_is | rfl | decide +kernel)
    (case a3 => first | k_is | rfl | decide +kernel)
    (case l3 => first | k_is | rfl | decide +kernel)
    (case c3 => first | k_is | rfl | decide +kernel)
    (case k3 => first | k_is | rfl | decide +kernel)
    (case a4 => first | k_is | rfl | decide +kernel)
    (case l4 => first | k_is | rfl | decide +kernel)
    (case c4 => first | k_is | rfl | decide +kernel)
    (case k4 => first | k_is | rfl | decide +kernel)
    (case a5 => first | k_is | rfl | decide +kernel)
    (case l5 => first | k_is | rfl | decide +kernel)
    (case c5 => first | k_is | rfl | decide +kernel)
    (case k5 => first | k_is | rfl | decide +kernel)
    (case a6 => first | k_is | rfl | decide +kernel)
    (case l6 => first | k_is | rfl | decide +kernel)
    (case c6 => first | k_is | rfl | decide +kernel)
    (case k6 => first | k_is | rfl | decide +kernel)
    (case a7 => first | k_is | rfl | decide +kernel)
    (case l7 => first | k_is | rfl | decide +kernel)
    (case c7 => first | k_is | rfl | decide +kernel)
    (case k7 => first | k_is | rfl | decide +kernel)
    (case a8 => first | k_is | rfl | decide +kernel)
    (case l8 => first | k_is | rfl | decide +kernel)
    (case c8 => first | k_is | rfl | decide +kernel)
    (case k8 => first | k_is | rfl | decide +kernel)
    (case a9 => first | k_is | rfl | decide +kernel)
    (case l9 => first | k_is | rfl | decide +kernel)
    (case c9 => first | k_is | rfl | decide +kernel)
    (case k9 => first | k_is | rfl | decide +kernel)
    (case a10 => first | k_is | rfl | decide +kernel)
    (case l10 => first | k_is | rfl | decide +kernel)
    (case c10 => first | k_is | rfl | decide +kernel)
    (case k10 => first | k_is | rfl | decide +kernel)
    (case a11 => first | k_is | rfl | decide +kernel)
    (case l11 => first | k_is | rfl | decide +kernel)
    (case c11 => first | k_is | rfl | decide +kernel)
    (case k11 => first | k_is | rfl | decide +kernel)
    (case a12 => first | k_is | rfl | decide +kernel)
    (case l12 => first | k_is | rfl | decide +kernel)
    (case c12 => first | k_is | rfl | decide +kernel)
    (case k12 => first | k_is | rfl | decide +kernel)
    (case b1_SlotError => first | k_is | rfl | decide +kernel)
    (case b2_SlotError => first | k_is | rfl | decide +kernel)
    (case b3_SlotError => first | k_is | rfl | decide +kernel)
    (case x_InvalidTime => first | k_is | rfl | decide +kernel)
    (case rv_InvalidTime => first | k_is | rfl | decide +kernel)
    (case sa_InvalidTime => first | k_is | rfl | decide +kernel)
    (case ga_InvalidTime => first | k_is | rfl | decide +kernel)
    (case gg_InvalidTime => first | k_is | rfl | decide +kernel)
    (case kC_InvalidTime => first | k_is | rfl | decide +kernel)
    (case eC_InvalidTime => first | k_is | rfl | decide +kernel)
    (case tC_InvalidTime => first | k_is | rfl | decide +kernel)
    (case hC_InvalidTime => first | k_is | rfl | decide +kernel)
    (case ic_InvalidTime => first | k_is | rfl | decide +kernel)
    (case cc_InvalidTime => first | k_is | rfl | decide +kernel)
    (case mo_InvalidTime => first | k_is | rfl | decide +kernel)
    (case ti_InvalidTime => first | k_is | rfl | decide +kernel)
    (case no_InvalidTime_what => first | k_is | rfl | decide +kernel)
    (case em_InvalidTime_SlotError => first | k_is | rfl | decide +kernel)
    (case em_InvalidTime_InvalidTime => first | k_is | rfl | decide +kernel)
    (case x_InvalidMoney => first | k_is | rfl | decide +kernel)
    (case rv_InvalidMoney => first | k_is | rfl | decide +kernel)
    (case sa_InvalidMoney => first | k_is | rfl | decide +kernel)
    (case ga_InvalidMoney => first | k_is | rfl | decide +kernel)
    (case gg_InvalidMoney => first | k_is | rfl | decide +kernel)
    (case kC_InvalidMoney => first | k_is | rfl | decide +kernel)
    (case eC_InvalidMoney => first | k_is | rfl | decide +kernel)
    (case tC_InvalidMoney => first | k_is | rfl | decide +kernel)
    (case hC_InvalidMoney => first | k_is | rfl | decide +kernel)
    (case ic_InvalidMoney => first | k_is | rfl | decide +kernel)
    (case cc_InvalidMoney => first | k_is | rfl | decide +kernel)
    (case mo_InvalidMoney => first | k_is | rfl | decide +kernel)
    (case ti_InvalidMoney => first | k_is | rfl | decide +kernel)
    (case no_InvalidMoney_what => first | k_is | rfl | decide +kernel)
    (case em_InvalidMoney_SlotError => first | k_is | rfl | decide +kernel)
    (case em_InvalidMoney_InvalidMoney => first | k_is | rfl | decide +kernel)
    (case z_hn => first | k_is | rfl | decide +kernel)
    (case z_ht => first | k_is | rfl | decide +kernel)
    (case kt_InvalidMoney_InvalidMoney => first | k_is | rfl | decide +kernel)
    (case kt_InvalidMoney_InvalidTime => first | k_is | rfl | decide +kernel)
    (case n_abs => first | k_is | rfl | decide +kernel)
    (case n_bool => first | k_is | rfl | decide +kernel)
    (case n_int => first | k_is | rfl | decide +kernel)
    (case n_isinstance => first | k_is | rfl | decide +kernel)
    (case n_len => first | k_is | rfl | decide +kernel)
    (case n_list => first | k_is | rfl | decide +kernel)
    (case n_range => first | k_is | rfl | decide +kernel)
    (case n_str => first | k_is | rfl | decide +kernel)
    (case n_tuple => first | k_is | rfl | decide +kernel)
    (case i_gcd => first | k_is | rfl | decide +kernel)
    (case m_WAYS => first | k_is | rfl | decide +kernel)
    (case wl_WAYS => first | k_is | rfl | decide +kernel)
