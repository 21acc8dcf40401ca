import PyProof.Rows.All
import Wide.All
import OpenK.AllK
import Wide.FinOn
import HandS.ForMost
import HandS.ForExc
import HandS.ExcInit
import HandS.ExcField
import HandS.IsInst
import HandS.Style
import HandS.Gcd
import HandS.Wide
import HandS.Deep
import HandS.Flow
import HandS.Zip
import HandS.Evl
import HandS.Walk
import HandS.SortInts
import HandS.Conv
import KE.KExcIs
import PySem.Challenge.RW_slotwork_k52_evenness
set_option Elab.async false
set_option linter.all false
set_option maxRecDepth 100000
set_option maxHeartbeats 4000000
namespace Sw
open PySem PySem.Spec PyProof.Rows L2
section
variable {X : Cx}
/-- what the written part says of the own class B over ValueError, so that B.__init__(self, ..) is ValueError's -/
structure BaseC (K : PySem.W.Frag) (B : Addr) : Prop where
  sp : PySem.W.specialIn K (.ref B) "__getattribute__" = some (some (.builtin "type.__getattribute__"))
  rd : PySem.W.readsIn K B (.type "type") = true
  iv : PySem.W.findCls K (.ref B) (.type "type") "__init__" = some (.val (.builtin "ValueError.__init__"))
theorem pe_binit {x : Str} {B : Addr} {p1 p2 pos : Pos} {e : Expr} {es : List Expr} {ta : TA} {pl : Sem Bool} (T : BaseC X.K B) (hg : Gl X x) (hm : X.mg x = some (.ref B)) (ha : PA X (e :: es) ta)
    (hdb : (x == ("__debug__" : Str)) = false := by decide)
    (hc : eval (.Call (.Attribute (.Name x p1) "__init__" p2) (e :: es) [] pos) X.env = (do
      let o ← eval (.Name x p1) X.env
      standAt p2.atName
      let (g, fst) ← holding [o] (getMethod o "__init__" pl)
      callWith pos g fst (backTo pos (starEach (e :: es) X.env)) (backToKw pos (keywordEach [] X.env))) := by rfl)
    (he : starEach (e :: es) X.env = (false, eval e X.env) :: starEach es X.env := by rfl) (hpl : (backTo pos (starEach es X.env)).any (·.1) = false := by rfl) :
    PE X (.Call (.Attribute (.Name x p1) "__init__" p2) (e :: es) [] pos) (tVeI X.K ta) := by
  refine ⟨fun pins s σ H Q I h => ?_⟩
  refine PySem.W.methodCall_KW (ld_glob I hg hm ?_ hdb) hc
  refine PySem.W.method_cls I.kIn T.sp ?_
  refine PySem.W.cls_value I.kIn T.rd T.iv (by decide +kernel) ?_
  refine PyProof.Rows.callWith_method1 (thn (ha.run pos pins _ σ H _ (I.tok _) h) fun us s1 ⟨vs, H1, I1, r1, a, C, ws, ev, hl, T', ea, q⟩ => ?_) he hpl
  subst ev
  cases r1 with
  | @cons _ u0 _ ur ra rw' =>
    obtain rfl : u0 = Value.ref a := ra
    refine oinit_ok T' I1 ea ?_ fun s' J => ⟨.non, H1, J, rfl, q⟩
    rw [← Paired.length rw', sizeLine_eq]
    omega

/-- isinstance(error, c), error the exception that the suite holds, at a, of the class at D -/
structure IsC (K : PySem.W.Frag) (D : Addr) : Prop where
  hc : (PySem.W.clsIn K D).isSome = true
  hg : PySem.W.findIn K (.ref D) "__getattribute__" = some (some (.builtin "BaseException.__getattribute__"))
  hk : PySem.W.findIn K (.ref D) "__getattr__" = some none
  hs : PySem.W.subIn K (.ref D) (.type "BaseException") = some true
  ha : PySem.W.findIn K (.ref D) "__class__" = some (some (.builtin "object.__class__"))
  hn : PySem.W.specialIn K (.builtin "object.__class__") "__get__" = some (some (.builtin "getset_descriptor.__get__"))
  ht : PySem.W.takesIn K (.builtin "object.__class__") = some true
  hm : PySem.W.mroIn K D (.type "object") = some true
def rIsX (K : PySem.W.Frag) (a : Addr) (cls : Value) (d : Option Addr) : List V → Hp → VK → Prop := fun xs H Q =>
  ∃ (D C : Addr) (b : Bool) (dd : Addr) (fs : List (Str × V)), xs = [.ref a, .ref C] ∧ cls = .ref D ∧ IsC K D ∧ d = some dd ∧ H dd = some (.xd fs) ∧ PySem.W.kitOne K (.ref D) (.ref C) = some b ∧ Q (.bl b) H
theorem call_isX {a : Addr} {cls : Value} {d : Option Addr} {oe : Obj} {pn : List (Addr × Obj)} (hz : Zc cls d oe) (hf : ∃ vs, oe.data = .fields vs) : CallR (X.suite a ((a, oe) :: pn)) (.builtin "isinstance") (rIsX X.K a cls d) := by
  intro pins s σ H xs us Q I r h
  obtain ⟨D, C, b, dd, fs, rfl, rfl, T, rfl, ea, e, q⟩ := h
  cases r with
  | cons rx rr =>
    cases rr with
    | cons rt rr =>
      cases rr
      cases rx
      cases rt
      have hget := (I.pin (a, oe) (List.mem_append_left _ List.mem_cons_self)).1
      obtain ⟨mA, hns, hr⟩ := (show ObjOk X.prog X.w H s.heap dd (.xd fs) from I.hok dd _ ea)
      obtain ⟨od, ho, hl⟩ := lookIn_ns hns
      obtain ⟨vs, hd⟩ := hf
      have J : PySem.W.InstAt s.heap a oe D (some od) := ⟨hget, hz.1, by unfold PySem.W.notCls; rw [hd] <;> rfl, by rw [hz.2]; exact ho⟩
      exact PySem.W.kia_one (PySem.W.kitx_exc T.hc T.hg T.hk T.hs T.ha T.hn T.ht T.hm) I.kIn J e (fun z => nomatch z) fun tk => ⟨.bl b, H, I.tok tk, rfl, q⟩
end

/-! ### // by a divisor of any sign, of many digits -/
def CDivZ (_ j : Int) : Prop := j ≠ 0 ∧ j.natAbs.log2 < 9000
theorem op_fdivZ {X : Cx} : OpR X (binaryOp .FloorDiv) (rI CDivZ fun i j => .int (i.fdiv j)) := opI fun i j _ _ _ _ _ hc k => floordiv_int hc.1 k (.inl (PyProof.noPylong_of_log2 hc.2))
theorem cdivZ_of {i j : Int} {b : Nat} (h : j ≠ 0) (hb : j.natAbs < 2 ^ b) (h0 : 0 < b) (h9 : b ≤ 9000) : CDivZ i j := ⟨h, Nat.lt_of_lt_of_le (PySem.Flt.log2_lt_of h0 hb) h9⟩

/-! ### heaps -/
theorem upd_self {H : Hp} {p : Addr} {o : HO} (h : H p = some o) : upd H p o = H := by
  funext b
  by_cases e : b = p
  · rw [e, upd_same, h]
  · rw [upd_ne e]
theorem _root_.L2.Same.new {H : Hp} {p : Addr} {o : HO} (h : H p = none) : Same H (upd H p o) := fun b u e => by
  rw [upd_ne (ne_of_none e h)]
  exact e
theorem _root_.L2.Same.then_new {H H' : Hp} {p : Addr} {o : HO} (e : Same H H') (h : H' p = none) : Same H (upd H' p o) := e.trans (Same.new h)
/-- what H does not know may change -/
theorem _root_.L2.Same.mut {H H' : Hp} {p : Addr} {o : HO} (e : Same H H') (h : H p = none) : Same H (upd H' p o) := fun b u ha => by
  rw [upd_ne (ne_of_none ha h)]
  exact e b u ha
theorem _root_.L2.Same.tup {K : PySem.W.Frag} {H H' : Hp} {a : Addr} {xs : List V} (e : Same H H') (h : SqT K H a xs) : SqT K H' a xs := by
  rcases h with (h | ⟨o, h⟩) | h
  · exact .inl (.inl (e _ _ h))
  · exact .inl (.inr ⟨o, e _ _ h⟩)
  · exact .inr h

theorem same_none {H : Hp} : Same (fun _ => none) H := fun _ _ e => by cases e

/-! ### raise C(w) -/
/-- C(w) is raised, w its what -/
def raisesW (C : Addr) (w : Str) (H : Hp) (E : XK) : Prop := ∀ d H', Same H H' → H' d = some (.xd [("what", .str w)]) → E (.ref C) (some d) H'
theorem raisesW.mono {C : Addr} {w : Str} {H H' : Hp} {E : XK} (h : raisesW C w H E) (s : Same H H') : raisesW C w H' E := fun d H2 s2 hd => h d H2 (s.trans s2) hd
def sp_exinit (C : Addr) : Sp := fun vs H Q _ => ∃ (x : Addr) (w : Str), vs = [.ref x, .str w] ∧ H x = some (exo x C none) ∧ w.length ≤ 1000 ∧ ∀ dx, H dx = none → dx ≠ x → Q .non (upd (upd H dx (exd dx [("what", .str w)])) x (exo x C (some dx)))
theorem raise_ok {C : Addr} {w : Str} {H : Hp} {E : XK} (h : raisesW C w H E) (hl : w.length ≤ 1000) : ∀ a, H a = none → sp_exinit C (.ref a :: ([.str w] ++ [])) (upd H a (exo a C none))
    (fun v H2 => v = .non ∧ ∃ (d : Addr) (fs : List (Str × V)), H2 a = some (exo a C (some d)) ∧ H2 d = some (exd d fs) ∧ H d = none ∧ E (.ref C) (some d) (upd (del H2 a) d (.xd fs))) (fun _ _ _ => False) := fun a ha =>
  ⟨a, w, rfl, upd_same, hl, fun dx hd hne => by
    have hd' : H dx = none := by rw [upd_ne hne] at hd; exact hd
    refine ⟨rfl, dx, _, upd_same, by rw [upd_ne hne, upd_same], hd', h dx _ (fun b o e => ?_) upd_same⟩
    have n1 : b ≠ dx := ne_of_none e hd'
    have n2 : b ≠ a := ne_of_none e ha
    rw [upd_ne n1, del_ne n2, upd_ne n2, upd_ne n1, upd_ne n2]
    exact e⟩

/-! ### the deck: its numbers in the order in which they are taken -/
def dk (D : List Int) : HO := .lst (D.reverse.map V.int)
def tk (D : List Int) (m : Int) : Int := D.headD 0 % m
theorem tk_nonneg (D : List Int) {m : Int} (h : 0 < m) : 0 ≤ tk D m := Int.emod_nonneg _ (by omega)
theorem tk_lt (D : List Int) {m : Int} (h : 0 < m) : tk D m < m := Int.emod_lt_of_pos _ h
def sp_take0 : Sp := fun vs H Q _ => ∃ (d : Addr) (D : List Int) (m : Int), vs = [.ref d, .int m] ∧ H d = some (dk D) ∧ 0 < m ∧ Q (.int (tk D m)) (upd H d (dk D.tail))
@[irreducible] def sp_take : Sp := sp_take0
theorem sp_take_eq : sp_take = sp_take0 := by unfold sp_take; rfl
theorem dk_last {x : Int} {D : List Int} : ((x :: D).reverse.map V.int)[((x :: D).reverse.map V.int).length - 1]? = some (V.int x) := by simp
theorem dk_drop {x : Int} {D : List Int} : ((x :: D).reverse.map V.int).dropLast = D.reverse.map V.int := by simp
def sp_deck (K : PySem.W.Frag) : Sp := fun vs H Q _ => ∃ (sa : Addr) (ns : List Int) (c e : Int), vs = [.ref sa, .int c, .int e] ∧ SqL K H sa (ns.map V.int) ∧ ns.length ≤ 1000 ∧ 0 ≤ c ∧ c ≤ 1000 ∧ 0 ≤ e ∧ e ≤ 100 ∧
  ∀ (D : List Int) (p : Addr) (H' : Hp), H p = none → Same H H' → H' p = some (dk D) → Q (.ref p) H'

/-! ### data: all that is known to a heap stays -/
mutual
theorem dp_same {K : PySem.W.Frag} {H H' : Hp} (s : Same H H') : ∀ (d : PyData) (v : V), Dp K H v d → Dp K H' v d
  | .none, _, h => by cases h; exact .non
  | .bool b, _, h => by cases h; exact .bl b
  | .int i, _, h => by cases h; exact .int i
  | .str x, _, h => by cases h; exact .str x
  | .list ds, _, h => by
    cases h with
    | lst h1 h2 => exact .lst (s.seq h1) (dpAll_same s ds _ h2)
  | .tuple ds, _, h => by
    cases h with
    | tup h1 h2 => exact .tup (s.tup h1) (dpAll_same s ds _ h2)
  | .dict _, _, h => nomatch h
theorem dpAll_same {K : PySem.W.Frag} {H H' : Hp} (s : Same H H') : ∀ (ds : List PyData) (vs : List V), DpAll K H vs ds → DpAll K H' vs ds
  | [], _, h => by cases h; exact .nil
  | d :: ds, _, h => by
    cases h with
    | cons h1 h2 => exact .cons (dp_same s d _ h1) (dpAll_same s ds _ h2)
end
/-! data all of whose cells lie in S -/
mutual
inductive DN (S : Addr → Prop) (H : Hp) : V → PyData → Prop
  | non : DN S H .non .none
  | bl (b : Bool) : DN S H (.bl b) (.bool b)
  | int (i : Int) : DN S H (.int i) (.int i)
  | str (x : Str) : DN S H (.str x) (.str x)
  | lst {a : Addr} {xs : List V} {ds : List PyData} : S a → H a = some (.lst xs) → DNs S H xs ds → DN S H (.ref a) (.list ds)
  | tup {a : Addr} {xs : List V} {ds : List PyData} : S a → H a = some (.tup xs) → DNs S H xs ds → DN S H (.ref a) (.tuple ds)
inductive DNs (S : Addr → Prop) (H : Hp) : List V → List PyData → Prop
  | nil : DNs S H [] []
  | cons {v : V} {vs : List V} {d : PyData} {ds : List PyData} : DN S H v d → DNs S H vs ds → DNs S H (v :: vs) (d :: ds)
end
mutual
theorem DN.dp {K : PySem.W.Frag} {S : Addr → Prop} {H : Hp} : ∀ (d : PyData) (v : V), DN S H v d → Dp K H v d
  | .none, _, h => by cases h; exact .non
  | .bool b, _, h => by cases h; exact .bl b
  | .int i, _, h => by cases h; exact .int i
  | .str x, _, h => by cases h; exact .str x
  | .list ds, _, h => by
    cases h with
    | lst _ h1 h2 => exact .lst (SqL.of h1) (DNs.dp ds _ h2)
  | .tuple ds, _, h => by
    cases h with
    | tup _ h1 h2 => exact .tup (SqT.of h1) (DNs.dp ds _ h2)
  | .dict _, _, h => nomatch h
theorem DNs.dp {K : PySem.W.Frag} {S : Addr → Prop} {H : Hp} : ∀ (ds : List PyData) (vs : List V), DNs S H vs ds → DpAll K H vs ds
  | [], _, h => by cases h; exact .nil
  | d :: ds, _, h => by
    cases h with
    | cons h1 h2 => exact .cons (DN.dp d _ h1) (DNs.dp ds _ h2)
end
mutual
theorem DN.mono {S S' : Addr → Prop} {H H' : Hp} (hs : ∀ a, S a → S' a) (hh : ∀ a o, S a → H a = some o → H' a = some o) : ∀ (d : PyData) (v : V), DN S H v d → DN S' H' v d
  | .none, _, h => by cases h; exact .non
  | .bool b, _, h => by cases h; exact .bl b
  | .int i, _, h => by cases h; exact .int i
  | .str x, _, h => by cases h; exact .str x
  | .list ds, _, h => by
    cases h with
    | lst h0 h1 h2 => exact .lst (hs _ h0) (hh _ _ h0 h1) (DNs.mono hs hh ds _ h2)
  | .tuple ds, _, h => by
    cases h with
    | tup h0 h1 h2 => exact .tup (hs _ h0) (hh _ _ h0 h1) (DNs.mono hs hh ds _ h2)
  | .dict _, _, h => nomatch h
theorem DNs.mono {S S' : Addr → Prop} {H H' : Hp} (hs : ∀ a, S a → S' a) (hh : ∀ a o, S a → H a = some o → H' a = some o) : ∀ (ds : List PyData) (vs : List V), DNs S H vs ds → DNs S' H' vs ds
  | [], _, h => by cases h; exact .nil
  | d :: ds, _, h => by
    cases h with
    | cons h1 h2 => exact .cons (DN.mono hs hh d _ h1) (DNs.mono hs hh ds _ h2)
end
theorem DNs.snoc {S : Addr → Prop} {H : Hp} {v : V} {d : PyData} (hv : DN S H v d) : ∀ {vs : List V} {ds : List PyData}, DNs S H vs ds → DNs S H (vs ++ [v]) (ds ++ [d])
  | _, _, .nil => .cons hv .nil
  | _, _, .cons h t => .cons h (DNs.snoc hv t)
theorem DNs.length {S : Addr → Prop} {H : Hp} : ∀ {vs : List V} {ds : List PyData}, DNs S H vs ds → vs.length = ds.length
  | _, _, .nil => rfl
  | _, _, .cons _ t => by rw [List.length_cons, List.length_cons, DNs.length t]
theorem dpAll_length {K : PySem.W.Frag} {H : Hp} : ∀ {vs : List V} {ds : List PyData}, DpAll K H vs ds → vs.length = ds.length
  | _, _, .nil => rfl
  | _, _, .cons _ t => by rw [List.length_cons, List.length_cons, dpAll_length t]
theorem dpAll_get {K : PySem.W.Frag} {H : Hp} : ∀ {vs : List V} {ds : List PyData} {i : Nat} {v : V}, DpAll K H vs ds → vs[i]? = some v → ∃ d, ds[i]? = some d ∧ Dp K H v d
  | _, _, i, _, .nil, e => by simp at e
  | _, _, 0, _, .cons h _, e => by
    have := Option.some.inj e
    subst this
    exact ⟨_, rfl, h⟩
  | _, _, i + 1, _, .cons _ t, e => by
    have e' := e
    rw [List.getElem?_cons_succ] at e'
    obtain ⟨d, h1, h2⟩ := dpAll_get t e'
    exact ⟨d, by rw [List.getElem?_cons_succ]; exact h1, h2⟩

/-! ### small data: nested at most n deep, rows of at most 1000 -/
mutual
def okD : Nat → PyData → Bool
  | _, .none => true
  | _, .bool _ => true
  | _, .int _ => true
  | _, .str x => PyData.strOk x
  | 0, .list _ => false
  | n + 1, .list xs => decide (xs.length ≤ 1000) && okDs n xs
  | 0, .tuple _ => false
  | n + 1, .tuple xs => decide (xs.length ≤ 1000) && okDs n xs
  | _, .dict _ => false
def okDs : Nat → List PyData → Bool
  | _, [] => true
  | n, x :: xs => okD n x && okDs n xs
end
/-! as okD, the rows of any length -/
mutual
def okDx : Nat → PyData → Bool
  | _, .none => true
  | _, .bool _ => true
  | _, .int _ => true
  | _, .str x => PyData.strOk x
  | 0, .list _ => false
  | n + 1, .list xs => okDxs n xs
  | 0, .tuple _ => false
  | n + 1, .tuple xs => okDxs n xs
  | _, .dict _ => false
def okDxs : Nat → List PyData → Bool
  | _, [] => true
  | n, x :: xs => okDx n x && okDxs n xs
end
theorem okDs_get {n : Nat} : ∀ {ds : List PyData} {i : Nat} {d : PyData}, okDs n ds = true → ds[i]? = some d → okD n d = true
  | [], i, d, _, e => by simp at e
  | x :: xs, 0, d, h, e => by
    have := Option.some.inj e
    subst this
    simp only [okDs, Bool.and_eq_true] at h
    exact h.1
  | x :: xs, i + 1, d, h, e => by
    simp only [okDs, Bool.and_eq_true] at h
    rw [List.getElem?_cons_succ] at e
    exact okDs_get h.2 e
mutual
theorem okDx_lay : ∀ (n : Nat) (d : PyData), okDx n d = true → d.canLay0 = true ∧ d.depth ≤ n
  | _, .none, _ => by simp [PyData.canLay0, PyData.depth]
  | _, .bool _, _ => by simp [PyData.canLay0, PyData.depth]
  | _, .int _, _ => by simp [PyData.canLay0, PyData.depth]
  | _, .str x, h => by
    simp only [okDx] at h
    simp [PyData.canLay0, PyData.depth, h]
  | 0, .list _, h => by simp [okDx] at h
  | n + 1, .list xs, h => by
    simp only [okDx] at h
    obtain ⟨h1, h2⟩ := okDxs_lay n xs h
    simp only [PyData.canLay0, PyData.depth]
    exact ⟨h1, by omega⟩
  | 0, .tuple _, h => by simp [okDx] at h
  | n + 1, .tuple xs, h => by
    simp only [okDx] at h
    obtain ⟨h1, h2⟩ := okDxs_lay n xs h
    simp only [PyData.canLay0, PyData.depth]
    exact ⟨h1, by omega⟩
  | _, .dict _, h => by simp [okDx] at h
theorem okDxs_lay : ∀ (n : Nat) (ds : List PyData), okDxs n ds = true → PyData.canLayAll0 ds = true ∧ PyData.depthAll ds ≤ n
  | _, [], _ => by simp [PyData.canLayAll0, PyData.depthAll]
  | n, x :: xs, h => by
    simp only [okDxs, Bool.and_eq_true] at h
    obtain ⟨a1, a2⟩ := okDx_lay n x h.1
    obtain ⟨b1, b2⟩ := okDxs_lay n xs h.2
    simp only [PyData.canLayAll0, PyData.depthAll, a1, b1]
    exact ⟨rfl, by omega⟩
end
theorem okDx_shaped {n : Nat} {d : PyData} (h : okDx n d = true) (hn : n ≤ 64) : SeqAt.shaped d = true := by
  obtain ⟨h1, h2⟩ := okDx_lay n d h
  show (d.canLay0 && decide (d.depth ≤ 64)) = true
  rw [h1, decide_eq_true (by omega)]
  rfl

/-! ### what _law_plain tells of data -/
mutual
def plainD : PyData → PyData
  | .list xs => .list (.bool true :: plainDs xs)
  | .tuple xs => .list (.bool false :: plainDs xs)
  | .none => .str "None"
  | .bool b => .str (if b then "True" else "False")
  | .int i => .list [.bool false, .int i]
  | .str x => .list [.bool true, .str x]
  | .dict _ => .str "another"
def plainDs : List PyData → List PyData
  | [] => []
  | x :: xs => plainD x :: plainDs xs
end
theorem plainDs_length : ∀ ds : List PyData, (plainDs ds).length = ds.length
  | [] => rfl
  | x :: xs => by simp only [plainDs, List.length_cons, plainDs_length xs]
theorem plainDs_take {d : PyData} : ∀ {ds : List PyData} {i : Nat}, ds[i]? = some d → plainDs (ds.take (i + 1)) = plainDs (ds.take i) ++ [plainD d]
  | [], i, e => by simp at e
  | x :: xs, 0, e => by
    have := Option.some.inj e
    subst this
    simp [plainDs]
  | x :: xs, i + 1, e => by
    rw [List.getElem?_cons_succ] at e
    have := plainDs_take e
    simp only [List.take_succ_cons, plainDs, this, List.cons_append]
mutual
theorem plainD_ok : ∀ (n : Nat) (d : PyData), okD n d = true → okDx (n + 1) (plainD d) = true
  | n, .none, _ => by simp only [plainD, okDx]; decide +kernel
  | n, .bool b, _ => by cases b <;> simp only [plainD, okDx] <;> decide +kernel
  | n, .int i, _ => by simp only [plainD, okDx, okDxs, Bool.and_self]
  | n, .str x, h => by
    simp only [okD] at h
    simp [plainD, okDx, okDxs, h]
  | 0, .list _, h => by simp [okD] at h
  | n + 1, .list xs, h => by
    simp only [okD, Bool.and_eq_true, decide_eq_true_eq] at h
    have := plainDs_ok n xs h.2
    simp [plainD, okDx, okDxs, this]
  | 0, .tuple _, h => by simp [okD] at h
  | n + 1, .tuple xs, h => by
    simp only [okD, Bool.and_eq_true, decide_eq_true_eq] at h
    have := plainDs_ok n xs h.2
    simp [plainD, okDx, okDxs, this]
  | _, .dict _, h => by simp [okD] at h
theorem plainDs_ok : ∀ (n : Nat) (ds : List PyData), okDs n ds = true → okDxs (n + 1) (plainDs ds) = true
  | _, [], _ => by simp [plainDs, okDxs]
  | n, x :: xs, h => by
    simp only [okDs, Bool.and_eq_true] at h
    have a := plainD_ok n x h.1
    have b := plainDs_ok n xs h.2
    simp [plainDs, okDxs, a, b]
end

/-! ### more of the deck -/
def SameBut (d : Addr) (H H' : Hp) : Prop := ∀ b o, b ≠ d → H b = some o → H' b = some o
def sp_number0 : Sp := fun vs H Q _ => ∃ (d : Addr) (D : List Int), vs = [.ref d] ∧ H d = some (dk D) ∧ ∀ (n : Int) (D' : List Int) (H' : Hp), SameBut d H H' → H' d = some (dk D') → n.natAbs < 2 ^ 130 → Q (.int n) H'
@[irreducible] def sp_number : Sp := sp_number0
theorem sp_number_eq : sp_number = sp_number0 := by unfold sp_number; rfl
/-- G: what stands still; the deck at d moves -/
structure Dk (G H : Hp) (d : Addr) (D : List Int) : Prop where
  nd : G d = none
  sm : Same G H
  hd : H d = some (dk D)
section
variable {G H H' : Hp} {d p : Addr} {D D' : List Int} {o : HO}
theorem Dk.take (k : Dk G H d D) : Dk G (upd H d (dk D')) d D' := ⟨k.nd, k.sm.mut k.nd, upd_same⟩
theorem Dk.new (k : Dk G H d D) (h : H p = none) : Dk (upd G p o) (upd H p o) d D := by
  have n : d ≠ p := ne_of_none k.hd h
  refine ⟨by rw [upd_ne n]; exact k.nd, fun b u e => ?_, by rw [upd_ne n]; exact k.hd⟩
  by_cases q : b = p
  · rw [q, upd_same] at e
    rw [q, upd_same]
    exact e
  · rw [upd_ne q] at e
    rw [upd_ne q]
    exact k.sm b u e
theorem Dk.same (k : Dk G H d D) (s : Same H H') : Dk G H' d D := ⟨k.nd, k.sm.trans s, s _ _ k.hd⟩
theorem Dk.but (k : Dk G H d D) (s : SameBut d H H') (h : H' d = some (dk D')) : Dk G H' d D' := ⟨k.nd, fun b u e => s b u (ne_of_none e k.nd) (k.sm b u e), h⟩
theorem Dk.ne (k : Dk G H d D) (h : G p = some o) : p ≠ d := ne_of_none h k.nd
theorem Dk.fresh (k : Dk G H d D) (h : H p = none) : G p = none := k.sm.free h
end
theorem atI_nat' {α : Type} {xs : List α} {i : Int} {j : Nat} {v : α} (e : i = (j : Int)) (h : xs[j]? = some v) : atI xs i = some v := by
  rw [e]
  exact atI_nat h
theorem atI_ints {ns : List Int} {i : Int} (h0 : 0 ≤ i) (h1 : i < (ns.length : Int)) : ∃ z, atI (ns.map V.int) i = some (.int z) ∧ z ∈ ns := by
  have hl : i.toNat < ns.length := by omega
  refine ⟨ns[i.toNat], atI_nat' (j := i.toNat) (by omega) ?_, List.getElem_mem hl⟩
  rw [List.getElem?_map, List.getElem?_eq_getElem hl]
  rfl
theorem small1000000 {n : Nat} (h : n ≤ 1000000) : n < sizeLine := by
  rw [sizeLine_eq]
  omega
theorem two_pow_mono {a b : Nat} (h : a ≤ b) : (2 : Int) ^ a ≤ 2 ^ b := by
  have := Nat.pow_le_pow_right (n := 2) (by decide) h
  have e : ∀ c : Nat, ((2 ^ c : Nat) : Int) = (2 : Int) ^ c := fun c => by rw [Int.natCast_pow]; rfl
  rw [← e, ← e]
  omega
/-- x is True -/
def rIsT : R2 := fun x y H Q => (∃ a b : Bool, x = .bl a ∧ y = .bl b ∧ Q (.bl (decide (a = b))) H) ∨ (x = .non ∧ ∃ b, y = .bl b ∧ Q (.bl false) H)
theorem op_isT {X : Cx} : OpR X (compareOp .Is) rIsT := by
  intro pins s σ H x y v u Q I rx ry h
  rcases h with h | ⟨rfl, b, rfl, k⟩
  · exact op_isBl pins s σ H x y v u Q I rx ry h
  · cases (show v = Value.none from rx)
    cases (show u = Value.bool b from ry)
    exact wpAny_is_other rfl (fun z => nomatch z) ⟨.bl false, H, I, rfl, k⟩
theorem kind_l {K : PySem.W.Frag} {H : Hp} {a : Addr} {xs : List V} (h : SqL K H a xs) : TyX K H (.ref a) (.type "list") := by
  rcases h with (h | ⟨o, h⟩) | ⟨o, _, _, h, c, _⟩
  · exact .base (.lst h)
  · exact .base (.frz h)
  · exact .kList h c
theorem kind_t {K : PySem.W.Frag} {H : Hp} {a : Addr} {xs : List V} (h : SqT K H a xs) : TyX K H (.ref a) (.type "tuple") := by
  rcases h with (h | ⟨o, h⟩) | ⟨o, _, _, h, c, _⟩
  · exact .base (.tup h)
  · exact .fTuple h
  · exact .kTuple h c
theorem kit2 {K : PySem.W.Frag} {a b c : String} {r1 r2 : Bool} (h1 : kitB a b = some r1) (h2 : kitB a c = some r2) : PySem.W.kitAny K (.type a) [.type b, .type c] = some (r1 || r2) := by
  cases r1 with
  | true => exact kitAny_cons (b := true) (kit_ty h1) (fun z => nomatch z) fun _ => rfl
  | false =>
    refine kitAny_cons (b := false) (kit_ty h1) (fun _ => ?_) (fun z => nomatch z)
    exact kitAny_cons (b := r2) (kit_ty h2) (fun z => by subst z; exact kitAny_nil) fun z => by subst z; rfl
def sp_plain (K : PySem.W.Frag) (n : Nat) : Sp := fun vs H Q _ => ∃ (v : V) (d : PyData), vs = [v] ∧ Dp K H v d ∧ okD n d = true ∧ ∀ (v' : V) (H' : Hp), Same H H' → DN (fun a => H a = none) H' v' (plainD d) → Q v' H'
/-- isinstance(x, (A, B)), the tuple just made at p -/
theorem isi_pair {K : PySem.W.Frag} {H : Hp} {p : Addr} {x : V} {t A B : String} {r1 r2 : Bool} {Q : VK} (h1 : kitB t A = some r1) (h2 : kitB t B = some r2) (hx : TyX K (upd H p (.tup [.ty A, .ty B])) x (.type t)) (k : Q (.bl (r1 || r2)) (upd H p (.tup [.ty A, .ty B]))) :
    rIsiT K [x, .ref p] (upd H p (.tup [.ty A, .ty B])) Q :=
  ⟨x, p, _, _, _, _, rfl, upd_same, .cons (.ty A) (.cons (.ty B) .nil), hx, kit2 h1 h2, k⟩
theorem _root_.L2.TyX.new {K : PySem.W.Frag} {H : Hp} {x : V} {T : String} {p : Addr} {o : HO} (h : TyX K H x (.type T)) (hp : H p = none) : TyX K (upd H p o) x (.type T) := by
  have s : Same H (upd H p o) := Same.new hp
  generalize e : Value.type T = t at h
  cases h with
  | base b =>
    cases b with
    | non => exact .base .non
    | bl y => exact .base (.bl y)
    | int i => exact .base (.int i)
    | str y => exact .base (.str y)
    | flt y => exact .base (.flt y)
    | lst q => exact .base (.lst (s _ _ q))
    | frz q => exact .base (.frz (s _ _ q))
    | tup q => exact .base (.tup (s _ _ q))
    | dK q => exact .base (.dK (s _ _ q))
    | dT q => exact .base (.dT (s _ _ q))
    | ins q => cases e
  | byt b => exact .byt b
  | set q => exact .set (s _ _ q)
  | kList q c => exact .kList q c
  | kTuple q c => exact .kTuple q c
  | kDict q c => exact .kDict q c
  | fTuple q => exact .fTuple (s _ _ q)
  | fDict q => exact .fDict (s _ _ q)

/-- two plain tellings of the same data are equal -/
theorem plain_same {K : PySem.W.Frag} {S S' : Addr → Prop} {H1 H3 : Hp} {v1 v2 : V} {d : PyData} {Q : VK} {n : Nat} (h1 : DN S H1 v1 (plainD d)) (hs : Same H1 H3) (h2 : DN S' H3 v2 (plainD d)) (ok : okD n d = true) (hn : n ≤ 60) (k : Q (.bl false) H3) : rNeD K v1 v2 H3 Q := by
  have sh := okDx_shaped (plainD_ok n d ok) (by omega)
  refine ⟨plainD d, plainD d, dp_same hs _ _ (DN.dp _ _ h1), DN.dp _ _ h2, sh, sh, ?_⟩
  rw [SeqAt.eqv_refl _ (SeqAt.canLay_of_shaped sh)]
  exact k
/-- .. as a test that then fails -/
theorem plain_test {K : PySem.W.Frag} {S S' : Addr → Prop} {H1 H3 : Hp} {v1 v2 : V} {d : PyData} {Q : Bool → Hp → Prop} (n : Nat) (h1 : DN S H1 v1 (plainD d)) (hs : Same H1 H3) (h2 : DN S' H3 v2 (plainD d)) (ok : okD n d = true) (hn : n ≤ 60) (k : Q false H3) : rNeD K v1 v2 H3 fun x H' => ∃ b, x = .bl b ∧ Q b H' :=
  plain_same h1 hs h2 ok hn ⟨false, rfl, k⟩
theorem gcd_cdiv {x y : Int} (i : Int) (h : y ≠ 0) (hy : y.natAbs < 2 ^ 8000) : CDivZ i ((Nat.gcd x.natAbs y.natAbs : Nat) : Int) ∧ CDivZ i (-((Nat.gcd x.natAbs y.natAbs : Nat) : Int)) := by
  have h1 : Nat.gcd x.natAbs y.natAbs ≤ y.natAbs := Nat.gcd_le_right _ (by omega)
  have h0 : 0 < Nat.gcd x.natAbs y.natAbs := Nat.gcd_pos_of_pos_right _ (by omega)
  generalize hg : Nat.gcd x.natAbs y.natAbs = g at h1 h0
  have hb : g < 2 ^ 8000 := Nat.lt_of_le_of_lt h1 hy
  exact ⟨cdivZ_of (b := 8000) (by omega) (by rw [Int.natAbs_natCast]; exact hb) (by decide) (by decide), cdivZ_of (b := 8000) (by omega) (by rw [Int.natAbs_neg, Int.natAbs_natCast]; exact hb) (by decide) (by decide)⟩
/-- what two ways have in common behind them, shown once -/
theorem cutP {X Y : Prop} (f : X → Y) (x : X) : Y := f x
theorem Dk.weak {G H : Hp} {d : Addr} {D : List Int} (k : Dk G H d D) : Dk (fun _ => none) H d D := ⟨rfl, same_none, k.hd⟩

/-! ### taking from the deck, the heap behind it not told -/
section
variable {Kf : PySem.W.Frag} {G H : Hp} {d l : Addr} {D : List Int} {Q : VK}
theorem take_q (K1 : Dk G H d D) {m : Int} (hm : 0 < m) (k : ∀ z H2, 0 ≤ z → z < m → Dk G H2 d D.tail → Q (.int z) H2) : sp_take [.ref d, .int m] H Q E0 := by
  rw [sp_take_eq]
  exact ⟨d, D, m, rfl, K1.hd, hm, k _ _ (tk_nonneg D hm) (tk_lt D hm) K1.take⟩
/-- .. the heap told -/
theorem take_u {H : Hp} {d : Addr} {D : List Int} {Q : VK} (hd : H d = some (dk D)) {m : Int} (hm : 0 < m) (k : Q (.int (tk D m)) (upd H d (dk D.tail))) : sp_take [.ref d, .int m] H Q E0 := by
  rw [sp_take_eq]
  exact ⟨d, D, m, rfl, hd, hm, k⟩
/-- [n, ..][_law_take(deck, how many)] -/
theorem pick (K1 : Dk G H d D) (hl : H l = none) (ns : List Int) (h : 0 < ns.length) (k : ∀ z H2, z ∈ ns → Dk G H2 d D.tail → Q (.int z) H2) : sp_take [.ref d, .int (ns.length : Int)] (upd H l (.lst (ns.map V.int))) (fun v H2 => rIxL Kf (.ref l) v H2 Q) E0 := by
  rw [sp_take_eq]
  have hm : (0 : Int) < (ns.length : Int) := by omega
  have K2 := K1.new (o := .lst (ns.map V.int)) hl
  have n : d ≠ l := ne_of_none K1.hd hl
  refine ⟨d, D, _, rfl, K2.hd, hm, ?_⟩
  have K3 := K2.take (D' := D.tail)
  obtain ⟨z, hz, hm⟩ := atI_ints (tk_nonneg D hm) (tk_lt D hm)
  refine ⟨l, _, _, _, rfl, rfl, SqL.of (K3.sm _ _ upd_same), hz, k _ _ hm ⟨K1.nd, ?_, K3.hd⟩⟩
  have g : G l = none := K1.sm.free hl
  exact (Same.new g).trans K3.sm
theorem number_q (K1 : Dk G H d D) (k : ∀ n D' H2, n.natAbs < 2 ^ 130 → Dk G H2 d D' → Q (.int n) H2) : sp_number [.ref d] H Q E0 := by
  rw [sp_number_eq]
  exact ⟨d, D, rfl, K1.hd, fun n D' H' s h hn => k n D' H' hn (K1.but s h)⟩
end
theorem abs_nat (x : Int) : (if x < 0 then -x else x) = (x.natAbs : Int) := by split <;> omega

/-! ### fractions in lowest terms -/
/-- the greatest common divisor, with the sign of what is below -/
def frC (x y : Int) : Int := if y < 0 then -((Nat.gcd x.natAbs y.natAbs : Nat) : Int) else ((Nat.gcd x.natAbs y.natAbs : Nat) : Int)
def frA (x y : Int) : Int := x.fdiv (frC x y)
def frB (x y : Int) : Int := y.fdiv (frC x y)
theorem fdiv_mul_self {c p : Int} (h : c ≠ 0) : (c * p).fdiv c = p := Int.mul_fdiv_cancel_left p h
/-- what a fraction in lowest terms is -/
theorem fr_spec {x y : Int} (h : y ≠ 0) : x = frC x y * frA x y ∧ y = frC x y * frB x y ∧ 0 < frB x y ∧ frC x y ≠ 0 ∧ (0 < frC x y ↔ 0 < y) ∧ frB x y ≤ y.natAbs ∧ Nat.gcd (frA x y).natAbs (frB x y).natAbs = 1 := by
  have h0 : 0 < Nat.gcd x.natAbs y.natAbs := Nat.gcd_pos_of_pos_right _ (by omega)
  have hx : frC x y ∣ x := by
    unfold frC
    split
    · exact Int.neg_dvd.mpr (Int.ofNat_dvd_left.mpr (Nat.gcd_dvd_left _ _))
    · exact Int.ofNat_dvd_left.mpr (Nat.gcd_dvd_left _ _)
  have hy : frC x y ∣ y := by
    unfold frC
    split
    · exact Int.neg_dvd.mpr (Int.ofNat_dvd_left.mpr (Nat.gcd_dvd_right _ _))
    · exact Int.ofNat_dvd_left.mpr (Nat.gcd_dvd_right _ _)
  have hn : (frC x y).natAbs = Nat.gcd x.natAbs y.natAbs := by
    unfold frC
    split <;> omega
  have hc0 : frC x y ≠ 0 := by omega
  have hs : (0 < frC x y ↔ 0 < y) := by
    unfold frC
    split <;> constructor <;> omega
  obtain ⟨p, hp⟩ := hx
  obtain ⟨q, hq⟩ := hy
  have e1 : frA x y = p := by
    unfold frA
    generalize frC x y = c at hp hc0
    rw [hp, fdiv_mul_self hc0]
  have e2 : frB x y = q := by
    unfold frB
    generalize frC x y = c at hq hc0
    rw [hq, fdiv_mul_self hc0]
  have na1 : x.natAbs = (frC x y).natAbs * p.natAbs := by
    rw [← Int.natAbs_mul, ← hp]
  have na2 : y.natAbs = (frC x y).natAbs * q.natAbs := by
    rw [← Int.natAbs_mul, ← hq]
  have q0 : q ≠ 0 := fun z => by
    rw [z, Int.mul_zero] at hq
    exact h hq
  refine ⟨by rw [e1]; exact hp, by rw [e2]; exact hq, ?_, hc0, hs, ?_, ?_⟩
  · rw [e2]
    rcases Int.lt_trichotomy q 0 with z | z | z
    · exfalso
      by_cases yp : 0 < y
      · have := Int.mul_neg_of_pos_of_neg (hs.mpr yp) z
        omega
      · have cn : frC x y < 0 := by
          have : ¬ 0 < frC x y := fun w => yp (hs.mp w)
          omega
        have := Int.mul_pos_of_neg_of_neg cn z
        omega
    · exact absurd z q0
    · exact z
  · rw [e2]
    have : q.natAbs ≤ y.natAbs := by
      rw [na2]
      exact Nat.le_mul_of_pos_left _ (by omega)
    omega
  · rw [e1, e2]
    have e3 : Nat.gcd x.natAbs y.natAbs = (frC x y).natAbs * Nat.gcd p.natAbs q.natAbs := by
      rw [na1, na2, Nat.gcd_mul_left]
    rw [hn] at e3
    have : Nat.gcd x.natAbs y.natAbs * Nat.gcd p.natAbs q.natAbs = Nat.gcd x.natAbs y.natAbs * 1 := by omega
    exact Nat.eq_of_mul_eq_mul_left h0 this
def sp_fraction (C : Addr) : Sp := fun vs H Q E => ∃ x y : Int, vs = [.int x, .int y] ∧ y.natAbs < 2 ^ 8000 ∧ (y = 0 → raisesW C "fraction" H E) ∧ (y ≠ 0 → ∀ p, H p = none → Q (.ref p) (upd H p (.tup [.int (frA x y), .int (frB x y)])))
def sp_lawgcd : Sp := fun vs H Q _ => ∃ x y : Int, vs = [.int x, .int y] ∧ Q (.int ((Nat.gcd x.natAbs y.natAbs : Nat) : Int)) H
def sp_lawfraction : Sp := fun vs H Q _ => ∃ x y : Int, vs = [.int x, .int y] ∧ y.natAbs < 2 ^ 8000 ∧ y ≠ 0 ∧ ∀ p, H p = none → Q (.ref p) (upd H p (.tup [.int (frA x y), .int (frB x y)]))

theorem dpAll_ints {K : PySem.W.Frag} {H : Hp} : ∀ ns : List Int, DpAll K H (ns.map V.int) (ns.map PyData.int)
  | [] => .nil
  | n :: ns => .cons (.int n) (dpAll_ints ns)
theorem dp_ints {K : PySem.W.Frag} {H : Hp} {p : Addr} {ns : List Int} (h : SqL K H p (ns.map V.int)) : Dp K H (.ref p) (.list (ns.map PyData.int)) := .lst h (dpAll_ints ns)
theorem okDs_ints {n : Nat} : ∀ ns : List Int, okDs n (ns.map PyData.int) = true
  | [] => by simp [okDs]
  | x :: ns => by simp only [List.map_cons, okDs, okD, Bool.true_and]; exact okDs_ints ns
theorem ok_ints {n : Nat} {ns : List Int} (h : ns.length ≤ 1000) : okD (n + 1) (.list (ns.map PyData.int)) = true := by
  simp only [okD, Bool.and_eq_true, decide_eq_true_eq, List.length_map]
  exact ⟨h, okDs_ints ns⟩
theorem okDx_ints {n : Nat} : ∀ ns : List Int, okDxs n (ns.map PyData.int) = true
  | [] => by simp [okDxs]
  | x :: ns => by simp only [List.map_cons, okDxs, okDx, Bool.true_and]; exact okDx_ints ns
theorem shaped_ints (ns : List Int) : SeqAt.shaped (.list (ns.map PyData.int)) = true := okDx_shaped (n := 1) (by simp only [okDx]; exact okDx_ints ns) (by decide)
/-- two int lists that are the same: != says no -/
theorem ints_same {K : PySem.W.Frag} {H : Hp} {p q : Addr} {ns : List Int} {Q : VK} (h1 : SqL K H p (ns.map V.int)) (h2 : SqL K H q (ns.map V.int)) (k : Q (.bl false) H) : rNeD K (.ref p) (.ref q) H Q := by
  refine ⟨_, _, dp_ints h1, dp_ints h2, shaped_ints ns, shaped_ints ns, ?_⟩
  rw [SeqAt.eqv_refl _ (SeqAt.canLay_of_shaped (shaped_ints ns))]
  exact k

theorem Dk.add {G H : Hp} {d q : Addr} {D : List Int} {o : HO} (k : Dk G H d D) (h : H q = some o) (n : q ≠ d) : Dk (upd G q o) H d D :=
  ⟨by rw [upd_ne (Ne.symm n)]; exact k.nd, fun b u e => by
    by_cases z : b = q
    · rw [z, upd_same] at e
      rw [z, h]
      exact e
    · rw [upd_ne z] at e
      exact k.sm b u e, k.hd⟩
theorem Dk.keep {G G' H : Hp} {d : Addr} {D : List Int} (k : Dk G H d D) (h : G' d = none) (s : Same G' H) : Dk G' H d D := ⟨h, s, k.hd⟩
/-! ### comprehensions whose element does nothing to the heap -/
theorem lc_pure {K : PySem.W.Frag} {a : Addr} {xs : List V} {te : TE} {vs : List Nat} {σ : L2.St} {H1 : Hp} {D : Addr} {Qd : Hp → Prop} {j : Nat} (f : Nat → V → V) (hx : SqL K H1 a xs) (hD : H1 D = none) (hz : xs.length ≤ 1000000) (hw : ∀ x, wipe ((wipe σ vs).set j (some x)) vs = wipe σ vs)
    (hs : ∀ i x H', xs[i]? = some x → Same H1 H' → ∀ Q : VK, Q (f i x) H' → te ((wipe σ vs).set j (some x)) H' Q) (hd : Qd (upd H1 D (.lst (xs.mapIdx f)))) :
    ∃ W : Nat → Nat → Hp → Prop, (∃ m, W 0 m (upd H1 D (.lst []))) ∧ ∀ i m H, W i m H →
      ((Itl K a).stop i H ∧ Qd H) ∨ ((Itl K a).go i H ∧ ∃ Nx : Hp → Prop, (∀ H', Nx H' → ∃ m', m' < m ∧ W (i + 1) m' H') ∧ ∀ x H', (Itl K a).yld i H x H' → gName j x (wipe σ vs) H' fun σ2 H2 => wipe σ2 vs = wipe σ vs ∧ tYes σ2 H2 fun b H3 =>
        if b = true then te σ2 H3 fun y H4 => ∃ acc, H4 D = some (.lst acc) ∧ acc.length < sizeLine ∧ Nx (upd H4 D (.lst (acc ++ [y]))) else Nx H3) := by
  have tk : ∀ (l : List V) (g : Nat → V → V) (i : Nat) (x : V), l[i]? = some x → (l.mapIdx g).take (i + 1) = (l.mapIdx g).take i ++ [g i x] := by
    intro l g i x e
    have h1 : (l.mapIdx g)[i]? = some (g i x) := by rw [List.getElem?_mapIdx, e]; rfl
    rw [List.take_add_one, h1]
    rfl
  refine lc_list (K := K) (a := a) (xs := xs) (fun i H' => H' = upd H1 D (.lst ((xs.mapIdx f).take i))) (by rw [List.take_zero]) (fun i H' _ q => by subst q; exact (Same.new hD).seq hx) ?_ ?_
  · rintro i x H' hi rfl
    have hi1 := (List.getElem?_eq_some_iff.mp hi).1
    refine ⟨hw x, ?_⟩
    show te _ _ _
    refine hs i x _ hi (Same.new hD) _ ?_
    refine ⟨_, upd_same, small1000000 (by rw [List.length_take]; omega), ?_⟩
    rw [upd_upd, tk xs f i x hi]
  · rintro H' rfl
    have e : (xs.mapIdx f).take xs.length = xs.mapIdx f := by
      have : (xs.mapIdx f).length = xs.length := List.length_mapIdx
      rw [← this, List.take_length]
    rw [e]
    exact hd
theorem pickV {Kf : PySem.W.Frag} {G H : Hp} {d l : Addr} {D : List Int} {Q : VK} (K1 : Dk G H d D) (hl : H l = none) (ns : List V) (h : 0 < ns.length) (k : ∀ z H2, z ∈ ns → Dk G H2 d D.tail → Q z H2) : sp_take [.ref d, .int (ns.length : Int)] (upd H l (.lst ns)) (fun v H2 => rIxL Kf (.ref l) v H2 Q) E0 := by
  rw [sp_take_eq]
  have hm : (0 : Int) < (ns.length : Int) := by omega
  have K2 := K1.new (o := .lst ns) hl
  refine ⟨d, D, _, rfl, K2.hd, hm, ?_⟩
  have K3 := K2.take (D' := D.tail)
  have b0 := tk_nonneg D hm
  have b1 := tk_lt D hm
  have hj : (tk D (ns.length : Int)).toNat < ns.length := by omega
  refine ⟨l, _, _, _, rfl, rfl, SqL.of (K3.sm _ _ upd_same), atI_nat' (j := (tk D (ns.length : Int)).toNat) (by omega) (List.getElem?_eq_getElem hj), k _ _ (List.getElem_mem hj) ⟨K1.nd, ?_, K3.hd⟩⟩
  exact (Same.new (K1.sm.free hl)).trans K3.sm
/-- an item of a list at a written place -/
theorem ix_at {Kf : PySem.W.Frag} {H : Hp} {p : Addr} {xs : List V} {v : V} {Q : VK} (j : Nat) (h : SqL Kf H p xs) (hv : xs[j]? = some v) (k : Q v H) : rIxL Kf (.ref p) (.int (j : Int)) H Q := ⟨p, xs, _, v, rfl, rfl, h, atI_nat hv, k⟩

/-! ### walks of what may be a list or a tuple -/
def SqX (K : PySem.W.Frag) (H : Hp) (a : Addr) (xs : List V) : Prop := SqL K H a xs ∨ SqT K H a xs
theorem SqX.mono {K : PySem.W.Frag} {H H' : Hp} {a : Addr} {xs : List V} (h : SqX K H a xs) (s : Same H H') : SqX K H' a xs := by
  rcases h with h | h
  · exact .inl (s.seq h)
  · exact .inr (s.tup h)
def iSeq (K : PySem.W.Frag) (tl : TE) : TI := fun σ H R => tl σ H fun x H1 => ∃ a, x = .ref a ∧ (((∃ xs, SqL K H1 a xs) ∧ R (Itl K a) H1) ∨ ((∃ xs, SqT K H1 a xs) ∧ R (Itt K a) H1))
theorem pi_seq {X : Cx} {tg l : Expr} {tl : TE} (hl : PE X l tl) : PI X tg l (iSeq X.K tl) := by
  refine ⟨fun pins s σ H R I h => thn (hl.run pins s σ H _ I h) fun v s1 ⟨x, H1, I1, r1, a, e, q⟩ => ?_⟩
  subst e
  cases r1
  have fresh : ∀ b ∈ [s1.heap.objs.size], FpOk X pins H1 b := by
    intro b hb
    rw [List.mem_singleton] at hb
    rw [hb]
    exact I1.fpOk (Nat.le_refl _) (I1.hok.fresh (Nat.le_refl _))
  rcases q with ⟨⟨xs, hq⟩, q⟩ | ⟨⟨xs, hq⟩, q⟩
  · obtain ⟨its, rv, pl, hz⟩ := I1.list hq
    exact wpAny_pyIter_list pl.isList ⟨_, _, _, _, H1, rfl, I1.kept (t' := s1.toks) (fun b o e => Heap.get?_push_of_some _ e), turn_list a _, ⟨_, Heap.get?_push_size _ rfl, rfl, rfl⟩, fresh, q⟩
  · obtain ⟨its, rv, pl, hz⟩ := I1.tuple hq
    exact wpAny_pyIter_tuple (show s1.heap.IsTuple a its.toArray from pl) ⟨_, _, _, _, H1, rfl, I1.kept (t' := s1.toks) (fun b o e => Heap.get?_push_of_some _ e), turn_tuple a _, ⟨_, Heap.get?_push_size _ rfl, rfl, rfl⟩, fresh, q⟩
/-- what a for loop asks of its walk J -/
def forR (g : TG) (tb : TS) (D : Ends) (σ : L2.St) (J : It) (H1 : Hp) : Prop := ∃ W : Nat → Nat → L2.St → Hp → Prop, (∃ m, W 0 m σ H1) ∧ ∀ i m σ H, W i m σ H →
  (J.stop i H ∧ D.nx σ H) ∨ (J.go i H ∧ ∃ N : L2.St → Hp → Prop, (∀ σ' H', N σ' H' → ∃ m', m' < m ∧ W (i + 1) m' σ' H') ∧ ∀ x H', J.yld i H x H' → g x σ H' fun σ2 H2 => tb { D with nx := N, ct := N, bk := D.nx } σ2 H2)
/-- .. a list or a tuple; G: where it stands -/
theorem for_seq {K : PySem.W.Frag} {a : Addr} {xs : List V} {g : TG} {tb : TS} {D : Ends} {σ : L2.St} {H G : Hp} (hq : SqX K G a xs) (Pv : Nat → L2.St → Hp → Prop) (h0 : Pv 0 σ H) (hl : ∀ i σ H, Pv i σ H → Same G H)
    (hs : ∀ i x σ H, xs[i]? = some x → Pv i σ H → g x σ H fun σ2 H2 => tb { D with nx := Pv (i + 1), ct := Pv (i + 1), bk := D.nx } σ2 H2) (hd : ∀ σ H, Pv xs.length σ H → D.nx σ H) :
    ((∃ xs, SqL K H a xs) ∧ forR g tb D σ (Itl K a) H) ∨ ((∃ xs, SqT K H a xs) ∧ forR g tb D σ (Itt K a) H) := by
  rcases hq with hq | hq
  · exact .inl ⟨⟨xs, (hl _ _ _ h0).seq hq⟩, for_list (K := K) (a := a) (xs := xs) Pv h0 (fun i σ H _ p => (hl i σ H p).seq hq) hs hd⟩
  · exact .inr ⟨⟨xs, (hl _ _ _ h0).tup hq⟩, for_tup (K := K) (a := a) (xs := xs) Pv h0 (fun i σ H _ p => (hl i σ H p).tup hq) hs hd⟩
/-- what a comprehension asks of its walk J -/
def lcR (g : TG) (tt : TT) (te : TE) (vs : List Nat) (σ : L2.St) (Q : VK) (J : It) (H1 : Hp) : Prop := ∀ D, H1 D = none → ∃ W : Nat → Nat → Hp → Prop, (∃ m, W 0 m (upd H1 D (.lst []))) ∧ ∀ i m H, W i m H →
  (J.stop i H ∧ Q (.ref D) H) ∨ (J.go i H ∧ ∃ Nx : Hp → Prop, (∀ H', Nx H' → ∃ m', m' < m ∧ W (i + 1) m' H') ∧ ∀ x H', J.yld i H x H' → g x (wipe σ vs) H' fun σ2 H2 => wipe σ2 vs = wipe σ vs ∧ tt σ2 H2 fun b H3 =>
    if b = true then te σ2 H3 fun y H4 => ∃ acc, H4 D = some (.lst acc) ∧ acc.length < sizeLine ∧ Nx (upd H4 D (.lst (acc ++ [y]))) else Nx H3)
theorem lc_seq {K : PySem.W.Frag} {a : Addr} {xs : List V} {g : TG} {tt : TT} {te : TE} {vs : List Nat} {σ : L2.St} {H1 G : Hp} {Q : VK} (hq : SqX K G a xs) (s : Same G H1) (Pv : Addr → Nat → Hp → Prop) (h0 : ∀ D, H1 D = none → Pv D 0 (upd H1 D (.lst []))) (hl : ∀ D i H, Pv D i H → Same G H)
    (hs : ∀ D, H1 D = none → ∀ i x H, xs[i]? = some x → Pv D i H → g x (wipe σ vs) H fun σ2 H2 => wipe σ2 vs = wipe σ vs ∧ tt σ2 H2 fun b H3 =>
      if b = true then te σ2 H3 fun y H4 => ∃ acc, H4 D = some (.lst acc) ∧ acc.length < sizeLine ∧ Pv D (i + 1) (upd H4 D (.lst (acc ++ [y]))) else Pv D (i + 1) H3) (hd : ∀ D, H1 D = none → ∀ H, Pv D xs.length H → Q (.ref D) H) :
    ((∃ xs, SqL K H1 a xs) ∧ lcR g tt te vs σ Q (Itl K a) H1) ∨ ((∃ xs, SqT K H1 a xs) ∧ lcR g tt te vs σ Q (Itt K a) H1) := by
  rcases hq with hq | hq
  · exact .inl ⟨⟨xs, s.seq hq⟩, fun D hD => lc_list (K := K) (a := a) (xs := xs) (Pv D) (h0 D hD) (fun i H _ p => (hl D i H p).seq hq) (hs D hD) (hd D hD)⟩
  · exact .inr ⟨⟨xs, s.tup hq⟩, fun D hD => lc_tup (K := K) (a := a) (xs := xs) (Pv D) (h0 D hD) (fun i H _ p => (hl D i H p).tup hq) (hs D hD) (hd D hD)⟩
/-- data that is a sequence -/
def seqD (isL : Bool) (ds : List PyData) : PyData := if isL then .list ds else .tuple ds
theorem dp_seq {K : PySem.W.Frag} {H : Hp} {v : V} {isL : Bool} {ds : List PyData} (h : Dp K H v (seqD isL ds)) : ∃ a xs, v = .ref a ∧ SqX K H a xs ∧ DpAll K H xs ds := by
  cases isL with
  | true =>
    cases (show Dp K H v (.list ds) from h) with
    | lst h1 h2 => exact ⟨_, _, rfl, .inl h1, h2⟩
  | false =>
    cases (show Dp K H v (.tuple ds) from h) with
    | tup h1 h2 => exact ⟨_, _, rfl, .inr h1, h2⟩
theorem dp_tup {K : PySem.W.Frag} {H : Hp} {v : V} {ds : List PyData} (h : Dp K H v (.tuple ds)) : ∃ a xs, v = .ref a ∧ SqT K H a xs ∧ DpAll K H xs ds := by
  cases h with
  | tup h1 h2 => exact ⟨_, _, rfl, h1, h2⟩
theorem dp_lst {K : PySem.W.Frag} {H : Hp} {v : V} {ds : List PyData} (h : Dp K H v (.list ds)) : ∃ a xs, v = .ref a ∧ SqL K H a xs ∧ DpAll K H xs ds := by
  cases h with
  | lst h1 h2 => exact ⟨_, _, rfl, h1, h2⟩
theorem dpAll_two {K : PySem.W.Frag} {H : Hp} {xs : List V} {d e : PyData} (h : DpAll K H xs [d, e]) : ∃ v w, xs = [v, w] ∧ Dp K H v d ∧ Dp K H w e := by
  cases h with
  | cons h1 h2 => cases h2 with
    | cons h2 h3 => cases h3; exact ⟨_, _, rfl, h1, h2⟩
theorem dpAll_three {K : PySem.W.Frag} {H : Hp} {xs : List V} {d e f : PyData} (h : DpAll K H xs [d, e, f]) : ∃ v w z, xs = [v, w, z] ∧ Dp K H v d ∧ Dp K H w e ∧ Dp K H z f := by
  cases h with
  | cons h1 h2 =>
    obtain ⟨v, w, rfl, h3, h4⟩ := dpAll_two h2
    exact ⟨_, _, _, rfl, h1, h3, h4⟩
theorem dp_int {K : PySem.W.Frag} {H : Hp} {v : V} {i : Int} (h : Dp K H v (.int i)) : v = .int i := by cases h; rfl
theorem dp_str {K : PySem.W.Frag} {H : Hp} {v : V} {i : Str} (h : Dp K H v (.str i)) : v = .str i := by cases h; rfl
theorem dpAll_app {K : PySem.W.Frag} {H : Hp} : ∀ {xs ys : List V} {ds es : List PyData}, DpAll K H xs ds → DpAll K H ys es → DpAll K H (xs ++ ys) (ds ++ es)
  | _, _, _, _, .nil, h => h
  | _, _, _, _, .cons h t, h2 => .cons h (dpAll_app t h2)
theorem dpAll_take {K : PySem.W.Frag} {H : Hp} : ∀ {xs : List V} {ds : List PyData} (n : Nat), DpAll K H xs ds → DpAll K H (xs.take n) (ds.take n)
  | _, _, 0, _ => by rw [List.take_zero, List.take_zero]; exact .nil
  | _, _, n + 1, .nil => .nil
  | _, _, n + 1, .cons h t => .cons h (dpAll_take n t)
theorem dpAll_drop {K : PySem.W.Frag} {H : Hp} : ∀ {xs : List V} {ds : List PyData} (n : Nat), DpAll K H xs ds → DpAll K H (xs.drop n) (ds.drop n)
  | _, _, 0, h => h
  | _, _, n + 1, .nil => .nil
  | _, _, n + 1, .cons h t => dpAll_drop n t
/-- xs[:k], xs[k:] -/
theorem cut_front {xs : List V} {k : Int} (h0 : 0 ≤ k) (h1 : k ≤ xs.length) : cutV xs none (some k) = xs.take k.toNat := by
  have e : k = ((k.toNat : Nat) : Int) := by omega
  unfold cutV
  rw [HT.sIx_none, List.drop_zero, e, HT.sIx_nat, Nat.sub_zero, Int.toNat_natCast]
  congr 1
  omega
theorem cut_back {xs : List V} {k : Int} (h0 : 0 ≤ k) (h1 : k ≤ xs.length) : cutV xs (some k) none = xs.drop k.toNat := by
  have e : k = ((k.toNat : Nat) : Int) := by omega
  unfold cutV
  rw [HT.sIx_none, e, HT.sIx_nat, Int.toNat_natCast, Nat.min_eq_left (by omega)]
  exact List.take_of_length_le (by rw [List.length_drop]; exact Nat.le_refl _)

/-! ### rounded half up -/
def hu (x y : Int) : Int := (2 * x + y) / (2 * y)
theorem half_up {x y : Int} (h : 0 < y) : 0 < frB x y ∧ frB x y ≤ y ∧ (2 * frA x y + frB x y).fdiv (2 * frB x y) = hu x y := by
  obtain ⟨e1, e2, q0, _, cs, hb, _⟩ := fr_spec (x := x) (y := y) (by omega)
  have hc := cs.mpr h
  refine ⟨q0, by omega, ?_⟩
  unfold hu
  generalize frC x y = c at *
  generalize frA x y = p at *
  generalize frB x y = q at *
  rw [Int.fdiv_eq_ediv_of_nonneg _ (by omega)]
  have a1 : 2 * x + y = c * (2 * p + q) := by rw [e1, e2, Int.mul_add, ← Int.mul_assoc c 2 p, Int.mul_comm c 2, Int.mul_assoc]
  have a2 : 2 * y = c * (2 * q) := by rw [e2, ← Int.mul_assoc c 2 q, Int.mul_comm c 2, Int.mul_assoc]
  rw [a1, a2, Int.mul_ediv_mul_of_pos _ _ hc]
/-- what half up means -/
theorem hu_near {x y : Int} (h : 0 < y) : -y ≤ 2 * (x - hu x y * y) ∧ 2 * (x - hu x y * y) < y := by
  have a := Int.emod_add_mul_ediv (2 * x + y) (2 * y)
  have b := Int.emod_nonneg (2 * x + y) (show 2 * y ≠ 0 by omega)
  have c := Int.emod_lt_of_pos (2 * x + y) (show 0 < 2 * y by omega)
  have e : 2 * y * ((2 * x + y) / (2 * y)) = 2 * (hu x y * y) := by
    unfold hu
    rw [Int.mul_comm ((2 * x + y) / (2 * y)) y, Int.mul_assoc]
  rw [e] at a
  omega
/-- and only the one nearest -/
theorem hu_uniq {x y t : Int} (h : 0 < y) (h1 : -y ≤ 2 * (x - t * y)) (h2 : 2 * (x - t * y) < y) : hu x y = t := by
  obtain ⟨a, b⟩ := hu_near (x := x) h
  have e : (hu x y - t) * y = hu x y * y - t * y := Int.sub_mul _ _ _
  generalize hu x y * y = u at a b e
  generalize t * y = v at h1 h2 e
  have l1 : (hu x y - t) * y < y := by omega
  have l2 : -y < (hu x y - t) * y := by omega
  generalize hd : hu x y - t = d at e l1 l2
  have d1 : d < 1 := by
    rcases Int.lt_or_le d 1 with z | z
    · exact z
    · have := Int.mul_le_mul_of_nonneg_right z (show 0 ≤ y by omega)
      omega
  have d2 : -1 < d := by
    rcases Int.lt_or_le (-1) d with z | z
    · exact z
    · have := Int.mul_le_mul_of_nonneg_right z (show 0 ≤ y by omega)
      omega
  omega
theorem hu_zero {y : Int} (h : 0 < y) : hu 0 y = 0 := hu_uniq h (by omega) (by omega)
theorem hu_all {n : Int} : hu (n * 100) 100 = n := hu_uniq (by decide) (by omega) (by omega)
def waysV : List V := [.str "down", .str "up", .str "toward zero", .str "half up", .str "half even"]
def sp_rounded_hu0 : Sp := fun vs H Q _ => ∃ x y : Int, vs = [.int x, .int y, .str "half up"] ∧ 0 < y ∧ y < 2 ^ 20 ∧ ∀ H', Same H H' → Q (.int (hu x y)) H'
@[irreducible] def sp_rounded_hu : Sp := sp_rounded_hu0
theorem sp_rounded_hu_eq : sp_rounded_hu = sp_rounded_hu0 := by unfold sp_rounded_hu; rfl
theorem rounded_hu {H : Hp} {Q : VK} {E : XK} (x : Int) {y : Int} (h0 : 0 < y) (h1 : y < 2 ^ 20) (k : ∀ H', Same H H' → Q (.int (hu x y)) H') : sp_rounded_hu [.int x, .int y, .str "half up"] H Q E := by
  rw [sp_rounded_hu_eq]
  exact ⟨x, y, rfl, h0, h1, k⟩
/-! ### all that stands but the deck -/
theorem del_some {H : Hp} {p b : Addr} {o : HO} (h : H b = some o) (n : b ≠ p) : del H p b = some o := by rw [del_ne n]; exact h
theorem del_of {H : Hp} {p b : Addr} {o : HO} (h : del H p b = some o) : H b = some o ∧ b ≠ p := by
  by_cases e : b = p
  · rw [e, del_same] at h
    cases h
  · rw [del_ne e] at h
    exact ⟨h, e⟩
theorem Dk.freeze {G H : Hp} {d : Addr} {D : List Int} (k : Dk G H d D) : Dk (del H d) H d D := ⟨del_same, fun _ _ e => (del_of e).1, k.hd⟩
theorem Dk.under {G H : Hp} {d : Addr} {D : List Int} (k : Dk G H d D) : Same G (del H d) := fun b o e => del_some (k.sm b o e) (k.ne e)
theorem DN.frozen {K : PySem.W.Frag} {S : Addr → Prop} {H : Hp} {p : Addr} {v : V} {d : PyData} (h : DN S H v d) (hs : ∀ b, S b → b ≠ p) : Dp K (del H p) v d :=
  DN.dp d v (DN.mono (S' := S) (fun _ z => z) (fun a o hS e => del_some e (hs a hS)) d v h)

theorem DNs.frozen {K : PySem.W.Frag} {S : Addr → Prop} {H : Hp} {p : Addr} {vs : List V} {ds : List PyData} (h : DNs S H vs ds) (hs : ∀ b, S b → b ≠ p) : DpAll K (del H p) vs ds :=
  DNs.dp ds vs (DNs.mono (S' := S) (fun _ z => z) (fun a o hS e => del_some e (hs a hS)) ds vs h)
theorem Dk.get {H H2 : Hp} {d b : Addr} {D : List Int} {o : HO} (k : Dk (del H d) H2 d D) (n : b ≠ d) (h : H b = some o) : H2 b = some o := k.sm b o (del_some h n)
theorem DNs.on {S : Addr → Prop} {H H2 : Hp} {d : Addr} {D : List Int} {vs : List V} {ds : List PyData} (h : DNs S H vs ds) (k : Dk (del H d) H2 d D) (hs : ∀ b, S b → b ≠ d) : DNs S H2 vs ds :=
  DNs.mono (fun _ z => z) (fun a o hS e => k.get (hs a hS) e) ds vs h
/-- a list and another with the same data: != says no -/
theorem data_same {K : PySem.W.Frag} {H : Hp} {v w : V} {d : PyData} {Q : VK} {n : Nat} (h1 : Dp K H v d) (h2 : Dp K H w d) (ok : okDx n d = true) (hn : n ≤ 64) (k : Q (.bl false) H) : rNeD K v w H Q := by
  have sh := okDx_shaped ok hn
  refine ⟨d, d, h1, h2, sh, sh, ?_⟩
  rw [SeqAt.eqv_refl _ (SeqAt.canLay_of_shaped sh)]
  exact k
theorem data_eq {K : PySem.W.Frag} {H : Hp} {v w : V} {d : PyData} {Q : VK} {n : Nat} (h1 : Dp K H v d) (h2 : Dp K H w d) (ok : okDx n d = true) (hn : n ≤ 64) (k : Q (.bl true) H) : rEqD K v w H Q := by
  have sh := okDx_shaped ok hn
  refine ⟨d, d, h1, h2, sh, sh, ?_⟩
  rw [SeqAt.eqv_refl _ (SeqAt.canLay_of_shaped sh)]
  exact k
mutual
theorem okD_x : ∀ (n : Nat) (d : PyData), okD n d = true → okDx n d = true
  | n, .none, _ => by cases n <;> simp only [okDx]
  | n, .bool b, _ => by cases n <;> simp only [okDx]
  | n, .int i, _ => by cases n <;> simp only [okDx]
  | n, .str x, h => by
    simp only [okD] at h
    cases n <;> simp [okDx, h]
  | 0, .list _, h => by simp [okD] at h
  | n + 1, .list xs, h => by
    simp only [okD, Bool.and_eq_true] at h
    simp only [okDx]
    exact okDs_x n xs h.2
  | 0, .tuple _, h => by simp [okD] at h
  | n + 1, .tuple xs, h => by
    simp only [okD, Bool.and_eq_true] at h
    simp only [okDx]
    exact okDs_x n xs h.2
  | n, .dict _, h => by cases n <;> simp [okD] at h
theorem okDs_x : ∀ (n : Nat) (ds : List PyData), okDs n ds = true → okDxs n ds = true
  | _, [], _ => by simp [okDxs]
  | n, x :: xs, h => by
    simp only [okDs, Bool.and_eq_true] at h
    simp only [okDxs, okD_x n x h.1, okDs_x n xs h.2, Bool.and_self]
end
/-! ### list comprehensions whose parts read K (walk_at "blk" closes the three equations) -/
section
variable {X : Cx}
theorem pe_lcK {elt tg iter : Expr} {ifs : List Expr} {scope : Scope} {own : List (Str × Nat)} {pos : Pos} {wi : TI} {g : TG} {tt : TT} {te : TE} {g' : Shared → Hp → Addr → List (Str × Addr) → List Addr → TG} {tt' : Shared → Hp → Addr → List (Str × Addr) → List Addr → TT} {te' : Shared → Hp → Addr → List (Str × Addr) → List Addr → TE}
    (hc : X.calm = true) (hN : X.N.Nodup) (hi : PI X tg iter wi) (ok : BlkOk X.N X.env.scope scope own)
    (hg : ∀ (s : Shared) (H : Hp) (C : Addr) (cl : List (Str × Addr)) (fp : List Addr), PG (X.blk s H scope (compEnvC scope cl C X.env) fp) tg (g' s H C cl fp)) (ht : ∀ (s : Shared) (H : Hp) (C : Addr) (cl : List (Str × Addr)) (fp : List Addr), PTs (X.blk s H scope (compEnvC scope cl C X.env) fp) ifs (tt' s H C cl fp))
    (he : ∀ (s : Shared) (H : Hp) (C : Addr) (cl : List (Str × Addr)) (fp : List Addr), PE (X.blk s H scope (compEnvC scope cl C X.env) fp) elt (te' s H C cl fp))
    (eg : ∀ s H C cl fp, g' s H C cl fp = g) (et : ∀ s H C cl fp, tt' s H C cl fp = tt) (ee : ∀ s H C cl fp, te' s H C cl fp = te) (hs : ∀ x, foldedSetIterable iter X.env x = pure x := by intro _; rfl) :
    PE X (.ListComp elt [⟨tg, iter, ifs, 0⟩] scope pos) (tLc wi g tt te (own.map (·.2))) :=
  pe_lc hc hN hi ok (fun s H C cl fp => by rw [← eg s H C cl fp]; exact hg s H C cl fp) (fun s H C cl fp => by rw [← et s H C cl fp]; exact ht s H C cl fp) (fun s H C cl fp => by rw [← ee s H C cl fp]; exact he s H C cl fp) hs
theorem ps_setLcK {i : Nat} {y : Str} {py : Pos} {elt tg iter : Expr} {ifs : List Expr} {scope : Scope} {own : List (Str × Nat)} {pos spos : Pos} {wi : TI} {g : TG} {tt : TT} {te : TE} {g' : Shared → Hp → Addr → List (Str × Addr) → List Addr → TG} {tt' : Shared → Hp → Addr → List (Str × Addr) → List Addr → TT} {te' : Shared → Hp → Addr → List (Str × Addr) → List Addr → TE}
    (hc : X.calm = true) (hN : X.N.Nodup) (hy : X.N[i]? = some y) (hyl : X.env.scope.names.lookup y = some .local)
    (hsw : swapsWith (.ListComp elt [⟨tg, iter, ifs, 0⟩] scope pos) (some (.Name y py)) spos.line X.env = pure true) (hi : PI X tg iter wi) (ok : BlkOk X.N X.env.scope scope own)
    (hg : ∀ (s : Shared) (H : Hp) (C : Addr) (cl : List (Str × Addr)) (fp : List Addr), PG (X.blk s H scope (compEnvC scope cl C X.env) fp) tg (g' s H C cl fp)) (ht : ∀ (s : Shared) (H : Hp) (C : Addr) (cl : List (Str × Addr)) (fp : List Addr), PTs (X.blk s H scope (compEnvC scope cl C X.env) fp) ifs (tt' s H C cl fp))
    (he : ∀ (s : Shared) (H : Hp) (C : Addr) (cl : List (Str × Addr)) (fp : List Addr), PE (X.blk s H scope (compEnvC scope cl C X.env) fp) elt (te' s H C cl fp))
    (eg : ∀ s H C cl fp, g' s H C cl fp = g) (et : ∀ s H C cl fp, tt' s H C cl fp = tt) (ee : ∀ s H C cl fp, te' s H C cl fp = te) (hs : ∀ x, foldedSetIterable iter X.env x = pure x := by intro _; rfl) :
    PS X (.Assign [.Name y py] (.ListComp elt [⟨tg, iter, ifs, 0⟩] scope pos) spos) (tAsg (tLc wi g tt te (own.map (·.2))) (gName i)) :=
  ps_setLc hc hN hy hyl hsw hi ok (fun s H C cl fp => by rw [← eg s H C cl fp]; exact hg s H C cl fp) (fun s H C cl fp => by rw [← et s H C cl fp]; exact ht s H C cl fp) (fun s H C cl fp => by rw [← ee s H C cl fp]; exact he s H C cl fp) hs
end
/-- a comprehension that changes nothing but new objects: f i is what turn i gives, none where the test fails -/
theorem lc_fn {J : It} {n : Nat} {G : Hp → Prop} {Y : Nat → Hp → V → Hp → Prop} (w : Walk J n G Y) (f : Nat → Option V) {g : TG} {tt : TT} {te : TE} {vs : List Nat} {σ : L2.St} {H1 : Hp} {D : Addr} {Qd : Hp → Prop} (hz : n ≤ 1000000) (hD : H1 D = none)
    (hG : ∀ H, Same H1 H → G H)
    (hs : ∀ i x H H' (R : VK) (N : Hp → Prop), i < n → Same H1 H → Y i H x H' → (∀ y H4, f i = some y → Same H H4 → R y H4) → (∀ H4, f i = none → Same H H4 → N H4) →
      g x (wipe σ vs) H' fun σ2 H2 => wipe σ2 vs = wipe σ vs ∧ tt σ2 H2 fun b H3 => if b = true then te σ2 H3 R else N H3)
    (hd : ∀ H', Same H1 H' → H' D = some (.lst ((List.range n).filterMap f)) → Qd H') :
    ∃ W : Nat → Nat → Hp → Prop, (∃ m, W 0 m (upd H1 D (.lst []))) ∧ ∀ i m H, W i m H →
      (J.stop i H ∧ Qd H) ∨ (J.go i H ∧ ∃ Nx : Hp → Prop, (∀ H', Nx H' → ∃ m', m' < m ∧ W (i + 1) m' H') ∧ ∀ x H', J.yld i H x H' → g x (wipe σ vs) H' fun σ2 H2 => wipe σ2 vs = wipe σ vs ∧ tt σ2 H2 fun b H3 =>
        if b = true then te σ2 H3 fun y H4 => ∃ acc, H4 D = some (.lst acc) ∧ acc.length < sizeLine ∧ Nx (upd H4 D (.lst (acc ++ [y]))) else Nx H3) := by
  refine lc_it w (fun i H' => Same H1 H' ∧ H' D = some (.lst ((List.range i).filterMap f))) ⟨Same.new hD, upd_same⟩ (fun i H _ q => hG H q.1) ?_ (fun H' q => hd H' q.1 q.2)
  rintro i x H H' hi ⟨s1, hl⟩ hy
  refine hs i x H H' _ _ hi s1 hy ?_ ?_
  · intro y H4 e s2
    refine ⟨_, s2 _ _ hl, small1000000 ?_, (s1.trans s2).mut hD, ?_⟩
    · have := List.length_filterMap_le f (List.range i)
      rw [List.length_range] at this
      omega
    · rw [upd_same, List.range_succ, List.filterMap_append]
      simp [e]
  · intro H4 e s2
    refine ⟨s1.trans s2, ?_⟩
    rw [s2 _ _ hl, List.range_succ, List.filterMap_append]
    simp [e]
theorem fm_some {α : Type} (f : Nat → α) (n : Nat) : (List.range n).filterMap (fun i => some (f i)) = (List.range n).map f := by
  rw [← List.filterMap_eq_map]
  rfl
theorem range_at {α β : Type} (xs : List α) (F : α → β) (f : Nat → β) (h : ∀ i x, xs[i]? = some x → f i = F x) : (List.range xs.length).map f = xs.map F := by
  refine List.ext_getElem? fun i => ?_
  rw [List.getElem?_map, List.getElem?_map]
  by_cases hi : i < xs.length
  · rw [List.getElem?_range hi, List.getElem?_eq_getElem hi]
    simp [h i _ (List.getElem?_eq_getElem hi)]
  · rw [List.getElem?_eq_none (by simp; omega), List.getElem?_eq_none (by omega)]
    rfl
theorem ints_get {ns : List Int} {i : Nat} {x : V} (h : (ns.map V.int)[i]? = some x) : ∃ z, ns[i]? = some z ∧ x = .int z := by
  rw [List.getElem?_map] at h
  obtain ⟨z, hz, rfl⟩ := Option.map_eq_some_iff.mp h
  exact ⟨z, hz, rfl⟩
theorem tk_sum {ns : List Int} {i : Nat} {z : Int} (f : Int → Int) (h : ns[i]? = some z) : ((ns.take (i + 1)).map f).sum = ((ns.take i).map f).sum + f z := by
  rw [List.take_add_one, h, List.map_append, List.sum_append]
  simp
end Sw


set_option hygiene false in
local macro_rules | `(tactic| walk_at "len") => `(tactic| repeat (first | (obtain ⟨rfl, _⟩ := h; rfl) | (obtain ⟨_, h⟩ := h)))
local macro_rules | `(tactic| walk_at "st") => `(tactic| first
  | refine ⟨_, rfl, ?_⟩
  | refine ⟨_, _, rfl, rfl, (by show (0 : Int) < _; decide), ?_⟩
  | refine ⟨_, _, rfl, rfl, by decide, ?_⟩
  | refine ⟨_, _, rfl, rfl, ⟨by decide, by decide⟩, ?_⟩
  | refine ⟨_, _, rfl, rfl, .inl ⟨by decide, by decide⟩, ?_⟩
  | refine ⟨_, _, rfl, rfl, .inr ⟨by decide, by decide⟩, ?_⟩
  | refine ⟨_, _, rfl, rfl, ?_⟩
  | refine .inl ⟨_, rfl, ?_⟩
  | refine .inr ⟨_, rfl, ?_⟩
  | refine ⟨rfl, ?_⟩)
local macro_rules | `(tactic| walk_at "sts") => `(tactic| repeat walk_at "st")
local macro_rules | `(tactic| walk_at "blk") => `(tactic| (intros; first | (dsimp only [L2.Cx.blk, L2.cxOf]; done) | (dsimp only [L2.Cx.blk, L2.cxOf]; rfl) | rfl))

namespace K52
open PySem PySem.Spec PyProof.Rows L2 Sw
def topS (i : Nat) : Stmt := PySem.Challenge.pw_slotwork_k52_evenness.main.body.getD i (.Pass ⟨0, 0, 0, 0⟩)
abbrev st_c_InvalidTime_init : Stmt := inClass (topS 3) 0
abbrev st_c_InvalidMoney_init : Stmt := inClass (topS 4) 0
abbrev st_c_InvalidTable_init : Stmt := inClass (topS 5) 0
abbrev st_c_fraction : Stmt := topS 7
abbrev st_c_check_values : Stmt := topS 9
abbrev st_c_evenness : Stmt := topS 10
abbrev st_c_law_deck : Stmt := topS 12
abbrev st_c_law_take : Stmt := topS 13
abbrev st_c_law_plain : Stmt := topS 14
abbrev st_c_law_number : Stmt := topS 15
abbrev st_c_law_gcd : Stmt := topS 16
abbrev st_c_law_fraction : Stmt := topS 17
abbrev st_c_law_order : Stmt := topS 18
abbrev st_c_law_why : Stmt := topS 19
abbrev st_c_law_even : Stmt := topS 20
abbrev st_c_law : Stmt := topS 21
theorem sc_c_InvalidTime_init : FnScope ["self", "what"] ["self", "what"] (defScope st_c_InvalidTime_init) := ⟨rfl, rfl, rfl, by decide +kernel, rfl, by decide +kernel, by decide +kernel⟩
theorem sc_c_InvalidMoney_init : FnScope ["self", "what"] ["self", "what"] (defScope st_c_InvalidMoney_init) := ⟨rfl, rfl, rfl, by decide +kernel, rfl, by decide +kernel, by decide +kernel⟩
theorem sc_c_InvalidTable_init : FnScope ["self", "what"] ["self", "what"] (defScope st_c_InvalidTable_init) := ⟨rfl, rfl, rfl, by decide +kernel, rfl, by decide +kernel, by decide +kernel⟩
theorem sc_c_fraction : FnScope ["above", "below", "common"] ["above", "below"] (defScope st_c_fraction) := ⟨rfl, rfl, rfl, by decide +kernel, rfl, by decide +kernel, by decide +kernel⟩
theorem sc_c_check_values : FnScope ["values"] ["values"] (defScope st_c_check_values) := ⟨rfl, rfl, rfl, by decide +kernel, rfl, by decide +kernel, by decide +kernel⟩
theorem sc_c_evenness : FnScope ["values", "total", "rows", "above", "value", "at"] ["values"] (defScope st_c_evenness) := ⟨rfl, rfl, rfl, by decide +kernel, rfl, by decide +kernel, by decide +kernel⟩
theorem sc_c_law_deck : FnScope ["script", "cells", "each", "deck", "seed", "k", "cell", "rest", "at"] ["script", "cells", "each"] (defScope st_c_law_deck) := ⟨rfl, rfl, rfl, by decide +kernel, rfl, by decide +kernel, by decide +kernel⟩
theorem sc_c_law_take : FnScope ["deck", "many"] ["deck", "many"] (defScope st_c_law_take) := ⟨rfl, rfl, rfl, by decide +kernel, rfl, by decide +kernel, by decide +kernel⟩
theorem sc_c_law_plain : FnScope ["value", "item"] ["value"] (defScope st_c_law_plain) := ⟨rfl, rfl, rfl, by decide +kernel, rfl, by decide +kernel, by decide +kernel⟩
theorem sc_c_law_number : FnScope ["deck", "kind", "number", "turn"] ["deck"] (defScope st_c_law_number) := ⟨rfl, rfl, rfl, by decide +kernel, rfl, by decide +kernel, by decide +kernel⟩
theorem sc_c_law_gcd : FnScope ["one", "two"] ["one", "two"] (defScope st_c_law_gcd) := ⟨rfl, rfl, rfl, by decide +kernel, rfl, by decide +kernel, by decide +kernel⟩
theorem sc_c_law_fraction : FnScope ["above", "below", "common"] ["above", "below"] (defScope st_c_law_fraction) := ⟨rfl, rfl, rfl, by decide +kernel, rfl, by decide +kernel, by decide +kernel⟩
theorem sc_c_law_order : FnScope ["deck", "size", "left", "found", "at"] ["deck", "size"] (defScope st_c_law_order) := ⟨rfl, rfl, rfl, by decide +kernel, rfl, by decide +kernel, by decide +kernel⟩
theorem sc_c_law_why : FnScope ["values", "error"] ["values"] (defScope st_c_law_why) := ⟨rfl, rfl, rfl, by decide +kernel, rfl, by decide +kernel, by decide +kernel⟩
theorem sc_c_law_even : FnScope ["values", "gaps", "one", "two"] ["values"] (defScope st_c_law_even) := ⟨rfl, rfl, rfl, by decide +kernel, rfl, by decide +kernel, by decide +kernel⟩
theorem sc_c_law : FnScope ["script", "deck", "values", "due", "handed", "factor", "order", "high", "low", "gift", "given", "above", "below", "turn", "at"] ["script"] (defScope st_c_law) := ⟨rfl, rfl, rfl, by decide +kernel, rfl, by decide +kernel, by decide +kernel⟩
/-- where the defs, the classes and the constants of the text stand -/
structure Ad where
  f_c_InvalidTime_init : Addr
  d_c_InvalidTime_init : FuncData
  f_c_InvalidMoney_init : Addr
  d_c_InvalidMoney_init : FuncData
  f_c_InvalidTable_init : Addr
  d_c_InvalidTable_init : FuncData
  f_c_fraction : Addr
  d_c_fraction : FuncData
  f_c_check_values : Addr
  d_c_check_values : FuncData
  f_c_evenness : Addr
  d_c_evenness : FuncData
  f_c_law_deck : Addr
  d_c_law_deck : FuncData
  f_c_law_take : Addr
  d_c_law_take : FuncData
  f_c_law_plain : Addr
  d_c_law_plain : FuncData
  f_c_law_number : Addr
  d_c_law_number : FuncData
  f_c_law_gcd : Addr
  d_c_law_gcd : FuncData
  f_c_law_fraction : Addr
  d_c_law_fraction : FuncData
  f_c_law_order : Addr
  d_c_law_order : FuncData
  f_c_law_why : Addr
  d_c_law_why : FuncData
  f_c_law_even : Addr
  d_c_law_even : FuncData
  f_c_law : Addr
  d_c_law : FuncData
  C_SlotError : Addr
  C_InvalidTime : Addr
  C_InvalidMoney : Addr
  C_InvalidTable : Addr
  z : Unit := ()
structure Txt (K : PySem.W.Frag) (mg : Str → Option Value) (a : Ad) : Prop where
  F_c_InvalidTime_init : Fun K "__init__" "InvalidTime.__init__" st_c_InvalidTime_init a.f_c_InvalidTime_init a.d_c_InvalidTime_init
  b_c_InvalidTime_init : Binds K a.d_c_InvalidTime_init ["self", "what"] []
  F_c_InvalidMoney_init : Fun K "__init__" "InvalidMoney.__init__" st_c_InvalidMoney_init a.f_c_InvalidMoney_init a.d_c_InvalidMoney_init
  b_c_InvalidMoney_init : Binds K a.d_c_InvalidMoney_init ["self", "what"] []
  F_c_InvalidTable_init : Fun K "__init__" "InvalidTable.__init__" st_c_InvalidTable_init a.f_c_InvalidTable_init a.d_c_InvalidTable_init
  b_c_InvalidTable_init : Binds K a.d_c_InvalidTable_init ["self", "what"] []
  F_c_fraction : Fun K "fraction" "fraction" st_c_fraction a.f_c_fraction a.d_c_fraction
  b_c_fraction : Binds K a.d_c_fraction ["above", "below"] []
  m_c_fraction : mg "fraction" = some (.ref a.f_c_fraction)
  F_c_check_values : Fun K "check_values" "check_values" st_c_check_values a.f_c_check_values a.d_c_check_values
  b_c_check_values : Binds K a.d_c_check_values ["values"] []
  m_c_check_values : mg "check_values" = some (.ref a.f_c_check_values)
  F_c_evenness : Fun K "evenness" "evenness" st_c_evenness a.f_c_evenness a.d_c_evenness
  b_c_evenness : Binds K a.d_c_evenness ["values"] []
  m_c_evenness : mg "evenness" = some (.ref a.f_c_evenness)
  F_c_law_deck : Fun K "_law_deck" "_law_deck" st_c_law_deck a.f_c_law_deck a.d_c_law_deck
  b_c_law_deck : Binds K a.d_c_law_deck ["script", "cells", "each"] []
  m_c_law_deck : mg "_law_deck" = some (.ref a.f_c_law_deck)
  F_c_law_take : Fun K "_law_take" "_law_take" st_c_law_take a.f_c_law_take a.d_c_law_take
  b_c_law_take : Binds K a.d_c_law_take ["deck", "many"] []
  m_c_law_take : mg "_law_take" = some (.ref a.f_c_law_take)
  F_c_law_plain : Fun K "_law_plain" "_law_plain" st_c_law_plain a.f_c_law_plain a.d_c_law_plain
  b_c_law_plain : Binds K a.d_c_law_plain ["value"] []
  m_c_law_plain : mg "_law_plain" = some (.ref a.f_c_law_plain)
  F_c_law_number : Fun K "_law_number" "_law_number" st_c_law_number a.f_c_law_number a.d_c_law_number
  b_c_law_number : Binds K a.d_c_law_number ["deck"] []
  m_c_law_number : mg "_law_number" = some (.ref a.f_c_law_number)
  F_c_law_gcd : Fun K "_law_gcd" "_law_gcd" st_c_law_gcd a.f_c_law_gcd a.d_c_law_gcd
  b_c_law_gcd : Binds K a.d_c_law_gcd ["one", "two"] []
  m_c_law_gcd : mg "_law_gcd" = some (.ref a.f_c_law_gcd)
  F_c_law_fraction : Fun K "_law_fraction" "_law_fraction" st_c_law_fraction a.f_c_law_fraction a.d_c_law_fraction
  b_c_law_fraction : Binds K a.d_c_law_fraction ["above", "below"] []
  m_c_law_fraction : mg "_law_fraction" = some (.ref a.f_c_law_fraction)
  F_c_law_order : Fun K "_law_order" "_law_order" st_c_law_order a.f_c_law_order a.d_c_law_order
  b_c_law_order : Binds K a.d_c_law_order ["deck", "size"] []
  m_c_law_order : mg "_law_order" = some (.ref a.f_c_law_order)
  F_c_law_why : Fun K "_law_why" "_law_why" st_c_law_why a.f_c_law_why a.d_c_law_why
  b_c_law_why : Binds K a.d_c_law_why ["values"] []
  m_c_law_why : mg "_law_why" = some (.ref a.f_c_law_why)
  F_c_law_even : Fun K "_law_even" "_law_even" st_c_law_even a.f_c_law_even a.d_c_law_even
  b_c_law_even : Binds K a.d_c_law_even ["values"] []
  m_c_law_even : mg "_law_even" = some (.ref a.f_c_law_even)
  F_c_law : Fun K "law" "law" st_c_law a.f_c_law a.d_c_law
  b_c_law : Binds K a.d_c_law ["script"] []
  m_c_law : mg "law" = some (.ref a.f_c_law)
  m_SlotError : mg "SlotError" = some (.ref a.C_SlotError)
  bc_SlotError : BaseC K a.C_SlotError
  m_InvalidTime : mg "InvalidTime" = some (.ref a.C_InvalidTime)
  ox_InvalidTime : OexC K a.C_InvalidTime
  in_InvalidTime : PySem.W.findIn K (.ref a.C_InvalidTime) "__init__" = some (some (.ref a.f_c_InvalidTime_init))
  ti_InvalidTime : PySem.W.typeIn K (.ref a.f_c_InvalidTime_init) = some (.type "function")
  no_InvalidTime_what : PySem.W.findIn K (.ref a.C_InvalidTime) "what" = some none
  xf_InvalidTime : XfC K a.C_InvalidTime
  is_InvalidTime : IsC K a.C_InvalidTime
  em_InvalidTime_SlotError : PySem.W.exmOne K (.ref a.C_InvalidTime) (.ref a.C_SlotError) = some true
  em_InvalidTime_InvalidTime : PySem.W.exmOne K (.ref a.C_InvalidTime) (.ref a.C_InvalidTime) = some true
  m_InvalidMoney : mg "InvalidMoney" = some (.ref a.C_InvalidMoney)
  ox_InvalidMoney : OexC K a.C_InvalidMoney
  in_InvalidMoney : PySem.W.findIn K (.ref a.C_InvalidMoney) "__init__" = some (some (.ref a.f_c_InvalidMoney_init))
  ti_InvalidMoney : PySem.W.typeIn K (.ref a.f_c_InvalidMoney_init) = some (.type "function")
  no_InvalidMoney_what : PySem.W.findIn K (.ref a.C_InvalidMoney) "what" = some none
  xf_InvalidMoney : XfC K a.C_InvalidMoney
  is_InvalidMoney : IsC K a.C_InvalidMoney
  em_InvalidMoney_SlotError : PySem.W.exmOne K (.ref a.C_InvalidMoney) (.ref a.C_SlotError) = some true
  em_InvalidMoney_InvalidMoney : PySem.W.exmOne K (.ref a.C_InvalidMoney) (.ref a.C_InvalidMoney) = some true
  m_InvalidTable : mg "InvalidTable" = some (.ref a.C_InvalidTable)
  ox_InvalidTable : OexC K a.C_InvalidTable
  in_InvalidTable : PySem.W.findIn K (.ref a.C_InvalidTable) "__init__" = some (some (.ref a.f_c_InvalidTable_init))
  ti_InvalidTable : PySem.W.typeIn K (.ref a.f_c_InvalidTable_init) = some (.type "function")
  no_InvalidTable_what : PySem.W.findIn K (.ref a.C_InvalidTable) "what" = some none
  xf_InvalidTable : XfC K a.C_InvalidTable
  is_InvalidTable : IsC K a.C_InvalidTable
  em_InvalidTable_SlotError : PySem.W.exmOne K (.ref a.C_InvalidTable) (.ref a.C_SlotError) = some true
  em_InvalidTable_InvalidTable : PySem.W.exmOne K (.ref a.C_InvalidTable) (.ref a.C_InvalidTable) = some true
  kt_InvalidTable_InvalidTable : PySem.W.kitOne K (.ref a.C_InvalidTable) (.ref a.C_InvalidTable) = some true
  kt_InvalidTable_InvalidTime : PySem.W.kitOne K (.ref a.C_InvalidTable) (.ref a.C_InvalidTime) = some false
  n_abs : mg "abs" = none
  n_any : mg "any" = none
  n_bool : mg "bool" = none
  n_enumerate : mg "enumerate" = none
  n_int : mg "int" = none
  n_isinstance : mg "isinstance" = none
  n_len : mg "len" = none
  n_list : mg "list" = none
  n_max : mg "max" = none
  n_min : mg "min" = none
  n_range : mg "range" = none
  n_sorted : mg "sorted" = none
  n_str : mg "str" = none
  n_sum : mg "sum" = none
  n_tuple : mg "tuple" = none
  i_gcd : mg "gcd" = some (.builtin "math.gcd")
abbrev sp_c_law_take : Sp := sp_take
abbrev sp_c_law_deck (K : PySem.W.Frag) : Sp := sp_deck K
abbrev sp_c_law_plain (K : PySem.W.Frag) (n : Nat) : Sp := sp_plain K n
abbrev sp_c_law_number : Sp := sp_number
abbrev sp_c_fraction (C : Addr) : Sp := sp_fraction C
abbrev sp_c_law_gcd : Sp := sp_lawgcd
abbrev sp_c_law_fraction : Sp := sp_lawfraction

def dsum (x : Int) (ns : List Int) : Int := (ns.map fun b => ((x - b).natAbs : Int)).sum
def gaps (ns : List Int) : Int := (ns.map fun a => dsum a ns).sum
theorem sum_perm {a b : List Int} (h : a.Perm b) : a.sum = b.sum := by
  induction h with
  | nil => rfl
  | cons x _ ih => simp [ih]
  | swap x y l => simp only [List.sum_cons]; omega
  | trans _ _ h1 h2 => exact h1.trans h2
theorem dsum_cons (x a : Int) (t : List Int) : dsum x (a :: t) = ((x - a).natAbs : Int) + dsum x t := by simp [dsum]
theorem dsum_perm {x : Int} {a b : List Int} (h : a.Perm b) : dsum x a = dsum x b := sum_perm (h.map _)
theorem sum_split (f g : Int → Int) : ∀ ns : List Int, (ns.map fun a => f a + g a).sum = (ns.map f).sum + (ns.map g).sum
  | [] => rfl
  | a :: t => by
    simp only [List.map_cons, List.sum_cons, sum_split f g t]
    omega
theorem gaps_cons (a : Int) (t : List Int) : gaps (a :: t) = gaps t + 2 * dsum a t := by
  have e : (t.map fun x => dsum x (a :: t)) = t.map fun x => ((x - a).natAbs : Int) + dsum x t := List.map_congr_left fun x _ => dsum_cons x a t
  have e2 : (t.map fun x => ((x - a).natAbs : Int)).sum = dsum a t := by
    unfold dsum
    congr 1
    exact List.map_congr_left fun x _ => by omega
  have := sum_split (fun x => ((x - a).natAbs : Int)) (fun x => dsum x t) t
  show (dsum a (a :: t) :: t.map fun x => dsum x (a :: t)).sum = _
  rw [List.sum_cons, e, this, e2, dsum_cons]
  show _ = (t.map fun x => dsum x t).sum + _
  have : ((a - a).natAbs : Int) = 0 := by omega
  omega
theorem gaps_perm {a b : List Int} (h : a.Perm b) : gaps a = gaps b := by
  induction h with
  | nil => rfl
  | cons x p ih => rw [gaps_cons, gaps_cons, ih, dsum_perm p]
  | swap x y l => rw [gaps_cons, gaps_cons, gaps_cons, gaps_cons, dsum_cons, dsum_cons]; omega
  | trans _ _ h1 h2 => exact h1.trans h2
theorem dsum_nonneg (x : Int) : ∀ ns : List Int, 0 ≤ dsum x ns
  | [] => Int.le_refl 0
  | a :: t => by rw [dsum_cons]; have := dsum_nonneg x t; omega
theorem gaps_nonneg : ∀ ns : List Int, 0 ≤ gaps ns
  | [] => Int.le_refl 0
  | a :: t => by rw [gaps_cons]; have := gaps_nonneg t; have := dsum_nonneg a t; omega
def wsum (k : Int) : List Int → Int
  | [] => 0
  | a :: t => k * a + wsum (k + 2) t
theorem wsum_step : ∀ (k : Int) (t : List Int), wsum (k + 1) t = wsum k t + t.sum
  | _, [] => rfl
  | k, a :: t => by
    have := wsum_step (k + 2) t
    simp only [wsum, List.sum_cons]
    rw [show k + 1 + 2 = k + 2 + 1 by omega, this, Int.add_mul, Int.one_mul]
    omega
theorem dsum_low {a : Int} : ∀ {t : List Int}, (∀ b ∈ t, a ≤ b) → dsum a t = t.sum - t.length * a
  | [], _ => by simp [dsum]
  | b :: t, h => by
    have h1 := dsum_low (t := t) fun c hc => h c (List.mem_cons_of_mem _ hc)
    have h2 := h b (List.mem_cons_self ..)
    rw [dsum_cons, h1, List.sum_cons, List.length_cons, Int.natCast_succ, Int.add_mul, Int.one_mul]
    omega
theorem gini : ∀ {rows : List Int}, rows.Pairwise (· ≤ ·) → gaps rows = 2 * wsum (1 - rows.length) rows
  | [], _ => rfl
  | a :: t, h => by
    have ⟨h1, h2⟩ := List.pairwise_cons.mp h
    rw [gaps_cons, gini h2, dsum_low h1, wsum, List.length_cons, Int.natCast_succ, show (1 : Int) - (t.length + 1) + 2 = 1 - t.length + 1 by omega, wsum_step, show (1 : Int) - (t.length + 1) = -t.length by omega, Int.neg_mul]
    omega
theorem dsum_up {a : Int} (ha : 0 ≤ a) : ∀ {t : List Int}, (∀ b ∈ t, 0 ≤ b) → dsum a t ≤ t.sum + t.length * a
  | [], _ => by simp [dsum]
  | b :: t, h => by
    have h1 := dsum_up ha (t := t) fun c hc => h c (List.mem_cons_of_mem _ hc)
    have h2 := h b (List.mem_cons_self ..)
    rw [dsum_cons, List.sum_cons, List.length_cons, Int.natCast_succ, Int.add_mul, Int.one_mul]
    omega
theorem sum_nonneg : ∀ {t : List Int}, (∀ b ∈ t, 0 ≤ b) → 0 ≤ t.sum
  | [], _ => Int.le_refl 0
  | b :: t, h => by
    have h1 := sum_nonneg (t := t) fun c hc => h c (List.mem_cons_of_mem _ hc)
    have h2 := h b (List.mem_cons_self ..)
    rw [List.sum_cons]
    omega
theorem gaps_up : ∀ {t : List Int}, (∀ b ∈ t, 0 ≤ b) → gaps t + 2 * t.sum ≤ 2 * (t.length * t.sum)
  | [], _ => by simp [gaps]
  | a :: t, h => by
    have h0 := fun c hc => h c (List.mem_cons_of_mem _ hc)
    have h1 := gaps_up (t := t) h0
    have h2 := h a (List.mem_cons_self ..)
    have h3 := dsum_up h2 h0
    rw [gaps_cons, List.sum_cons, List.length_cons, Int.natCast_succ, Int.add_mul, Int.mul_add (t.length : Int), Int.one_mul]
    omega
theorem sum_scale (k : Int) : ∀ ns : List Int, (ns.map fun x => k * x).sum = k * ns.sum
  | [] => by simp
  | a :: t => by rw [List.map_cons, List.sum_cons, sum_scale k t, List.sum_cons, Int.mul_add]
theorem dsum_scale {k : Int} (hk : 0 < k) (x : Int) : ∀ ns : List Int, dsum (k * x) (ns.map fun x => k * x) = k * dsum x ns
  | [] => by simp [dsum]
  | a :: t => by
    rw [List.map_cons, dsum_cons, dsum_scale hk x t, dsum_cons, Int.mul_add, ← Int.mul_sub, Int.natAbs_mul, Int.natCast_mul, show ((k.natAbs : Nat) : Int) = k by omega]
theorem gaps_scale {k : Int} (hk : 0 < k) : ∀ ns : List Int, gaps (ns.map fun x => k * x) = k * gaps ns
  | [] => by simp [gaps]
  | a :: t => by
    rw [List.map_cons, gaps_cons, gaps_scale hk t, dsum_scale hk, gaps_cons, Int.mul_add, Int.mul_left_comm]
theorem fr_scale {k x y : Int} (hk : 0 < k) : frA (k * x) (k * y) = frA x y ∧ frB (k * x) (k * y) = frB x y := by
  have e : frC (k * x) (k * y) = k * frC x y := by
    have hg : ((Nat.gcd (k * x).natAbs (k * y).natAbs : Nat) : Int) = k * ((Nat.gcd x.natAbs y.natAbs : Nat) : Int) := by
      rw [Int.natAbs_mul, Int.natAbs_mul, Nat.gcd_mul_left, Int.natCast_mul, show ((k.natAbs : Nat) : Int) = k by omega]
    unfold frC
    rw [hg]
    by_cases h : y < 0
    · rw [if_pos h, if_pos (Int.mul_neg_of_pos_of_neg hk h), Int.mul_neg]
    · rw [if_neg h, if_neg (by have := Int.mul_nonneg (Int.le_of_lt hk) (show 0 ≤ y by omega); omega)]
  unfold frA frB
  rw [e]
  exact ⟨Int.mul_fdiv_mul_of_pos _ _ hk, Int.mul_fdiv_mul_of_pos _ _ hk⟩
theorem mem_dsum {x b : Int} : ∀ {t : List Int}, b ∈ t → ((x - b).natAbs : Int) ≤ dsum x t
  | a :: t, h => by
    rw [dsum_cons]
    rcases List.mem_cons.mp h with rfl | h
    · have := dsum_nonneg x t
      omega
    · have := mem_dsum (x := x) h
      omega
theorem mem_gaps {b c : Int} : ∀ {t : List Int}, b ∈ t → c ∈ t → ((b - c).natAbs : Int) ≤ gaps t
  | a :: t, hb, hc => by
    rw [gaps_cons]
    have g0 := gaps_nonneg t
    have d0 := dsum_nonneg a t
    rcases List.mem_cons.mp hb with e | hb' <;> rcases List.mem_cons.mp hc with e' | hc'
    · omega
    · have := mem_dsum (x := b) hc'
      subst e
      omega
    · have := mem_dsum (x := c) hb'
      subst e'
      omega
    · have := mem_gaps hb' hc'
      omega
theorem dsum_same {a : Int} : ∀ {t : List Int}, (∀ b ∈ t, b = a) → dsum a t = 0
  | [], _ => rfl
  | b :: t, h => by
    have h1 := dsum_same (t := t) fun c hc => h c (List.mem_cons_of_mem _ hc)
    have h2 := h b (List.mem_cons_self ..)
    rw [dsum_cons, h1]
    omega
theorem gaps_same {a : Int} : ∀ {t : List Int}, (∀ b ∈ t, b = a) → gaps t = 0
  | [], _ => rfl
  | b :: t, h => by
    have h0 : ∀ c ∈ t, c = a := fun c hc => h c (List.mem_cons_of_mem _ hc)
    have h2 := h b (List.mem_cons_self ..)
    subst h2
    rw [gaps_cons, gaps_same h0, dsum_same h0]
    rfl
theorem gaps_zero {ns : List Int} {m M : Int} (hm : m ∈ ns) (hM : M ∈ ns) (h1 : ∀ y ∈ ns, m ≤ y) (h2 : ∀ y ∈ ns, y ≤ M) : gaps ns = 0 ↔ m = M := by
  constructor
  · intro h
    have := mem_gaps hm hM
    omega
  · intro h
    exact gaps_same (a := m) fun b hb => by have := h1 b hb; have := h2 b hb; omega
theorem perm_get {ns : List Int} {i : Nat} {x : Int} (h : ns[i]? = some x) : ns.Perm (x :: ns.eraseIdx i) := by
  induction ns generalizing i with
  | nil => simp at h
  | cons a t ih =>
    cases i with
    | zero => simp at h; subst h; exact List.Perm.refl _
    | succ i => exact ((ih (by simpa using h)).cons a).trans (List.Perm.swap ..)
theorem set_erase {ns : List Int} {i : Nat} {y : Int} : (ns.set i y).eraseIdx i = ns.eraseIdx i := by
  induction ns generalizing i with
  | nil => rfl
  | cons a t ih => cases i with
    | zero => rfl
    | succ i => simp [ih]
theorem perm_set {ns : List Int} {i : Nat} {y : Int} (h : i < ns.length) : (ns.set i y).Perm (y :: ns.eraseIdx i) := by
  have := perm_get (ns := ns.set i y) (i := i) (x := y) (by simp [h])
  rwa [set_erase] at this
theorem dsum_shift {m M g : Int} (hg : 0 ≤ g) (h : 2 * g ≤ M - m) : ∀ {t : List Int}, (∀ b ∈ t, m ≤ b ∧ b ≤ M) → dsum (m + g) t + dsum (M - g) t ≤ dsum m t + dsum M t
  | [], _ => Int.le_refl _
  | b :: t, ht => by
    have h1 := dsum_shift hg h (t := t) fun c hc => ht c (List.mem_cons_of_mem _ hc)
    have h2 := ht b (List.mem_cons_self ..)
    rw [dsum_cons, dsum_cons, dsum_cons, dsum_cons]
    omega
theorem gift {ns : List Int} {m M g : Int} {i j : Nat} (hi : ns[i]? = some M) (hj : ns[j]? = some m) (hb : ∀ b ∈ ns, m ≤ b ∧ b ≤ M) (hg : 0 ≤ g) (h : 2 * g ≤ M - m) (hne : i ≠ j) :
    gaps ((ns.set i (M - g)).set j (m + g)) ≤ gaps ns ∧ ((ns.set i (M - g)).set j (m + g)).sum = ns.sum := by
  have li := (List.getElem?_eq_some_iff.mp hi).1
  have lj := (List.getElem?_eq_some_iff.mp hj).1
  have p1 := perm_get hi
  have p2 := perm_set (y := M - g) li
  have hj' : (ns.set i (M - g))[j]? = some m := by rw [List.getElem?_set_ne hne]; exact hj
  have p3 := perm_get hj'
  have p4 := perm_set (ns := ns.set i (M - g)) (i := j) (y := m + g) (by simpa using lj)
  generalize ns.set i (M - g) = ns' at *
  generalize ns'.set j (m + g) = ns2 at *
  generalize ns.eraseIdx i = e at *
  generalize ns'.eraseIdx j = t at *
  have he : ∀ b ∈ e, m ≤ b ∧ b ≤ M := fun b hb' => hb b (p1.symm.subset (List.mem_cons_of_mem _ hb'))
  have q := dsum_shift hg h he
  have a1 := gaps_perm p1
  have a2 := gaps_perm p2
  have a3 := gaps_perm p3
  have a4 := gaps_perm p4
  rw [gaps_cons] at a1 a2 a3 a4
  have d1 := (dsum_perm (x := m) p2).symm.trans (dsum_perm p3)
  have d2 := (dsum_perm (x := m + g) p2).symm.trans (dsum_perm p3)
  rw [dsum_cons, dsum_cons] at d1 d2
  have s1 := sum_perm p1
  have s2 := sum_perm p2
  have s3 := sum_perm p3
  have s4 := sum_perm p4
  rw [List.sum_cons] at s1 s2 s3 s4
  constructor <;> omega
/-- what evenness tells -/
def evA (ns : List Int) : Int := if ns.sum = 0 then 0 else frA (gaps ns) (2 * (ns.length * ns.sum))
def evB (ns : List Int) : Int := if ns.sum = 0 then 1 else frB (gaps ns) (2 * (ns.length * ns.sum))
theorem ev_facts {ns : List Int} (h : ∀ b ∈ ns, 0 ≤ b) {m M : Int} (hm : m ∈ ns) (hM : M ∈ ns) (h1 : ∀ y ∈ ns, m ≤ y) (h2 : ∀ y ∈ ns, y ≤ M) : 0 ≤ evA ns ∧ evA ns < evB ns ∧ (evA ns = 0 ↔ m = M) := by
  have g0 := gaps_nonneg ns
  have gu := gaps_up h
  have gz := gaps_zero hm hM h1 h2
  have s0 := sum_nonneg h
  have l0 : 0 < ns.length := List.length_pos_of_mem hm
  unfold evA evB
  by_cases z : ns.sum = 0
  · rw [if_pos z, if_pos z]
    rw [z] at gu
    refine ⟨by omega, by omega, ?_⟩
    rw [← gz]
    constructor <;> intro _ <;> omega
  · rw [if_neg z, if_neg z]
    have hp : 0 < (ns.length : Int) * ns.sum := Int.mul_pos (by omega) (by omega)
    obtain ⟨e1, e2, e3, e4, e5, _⟩ := fr_spec (x := gaps ns) (y := 2 * (ns.length * ns.sum)) (by omega)
    have c0 : 0 < frC (gaps ns) (2 * (ns.length * ns.sum)) := e5.mpr (by omega)
    rw [← gz]
    generalize frC (gaps ns) (2 * (ns.length * ns.sum)) = c at *
    generalize frA (gaps ns) (2 * (ns.length * ns.sum)) = A at *
    generalize frB (gaps ns) (2 * (ns.length * ns.sum)) = B at *
    refine ⟨?_, ?_, ?_⟩
    · refine Int.not_lt.mp fun n => ?_
      have := Int.mul_neg_of_pos_of_neg c0 n
      omega
    · refine Int.lt_of_mul_lt_mul_left (a := c) ?_ (Int.le_of_lt c0)
      omega
    · constructor
      · intro n
        rw [e1, n, Int.mul_zero]
      · intro n
        rw [n] at e1
        rcases Int.mul_eq_zero.mp e1.symm with q | q <;> omega
theorem ev_perm {a b : List Int} (h : a.Perm b) : evA a = evA b ∧ evB a = evB b := by
  unfold evA evB
  rw [sum_perm h, gaps_perm h, h.length_eq]
  exact ⟨rfl, rfl⟩
theorem ev_scale {k : Int} (hk : 0 < k) (ns : List Int) (hn : 0 < ns.length) : evA (ns.map fun x => k * x) = evA ns ∧ evB (ns.map fun x => k * x) = evB ns := by
  unfold evA evB
  rw [sum_scale, gaps_scale hk, List.length_map]
  by_cases z : ns.sum = 0
  · rw [z, Int.mul_zero, if_pos rfl, if_pos rfl, if_pos rfl, if_pos rfl]
    exact ⟨rfl, rfl⟩
  · have : k * ns.sum ≠ 0 := fun q => by rcases Int.mul_eq_zero.mp q with q | q <;> omega
    rw [if_neg z, if_neg z, if_neg this, if_neg this]
    have e : 2 * ((ns.length : Int) * (k * ns.sum)) = k * (2 * (ns.length * ns.sum)) := by
      rw [Int.mul_left_comm (ns.length : Int), Int.mul_left_comm 2]
    rw [e]
    exact fr_scale hk
theorem ev_less {a b : List Int} (hs : a.sum = b.sum) (hl : a.length = b.length) (h0 : ∀ x ∈ b, 0 ≤ x) (hn : 0 < b.length) (hg : gaps a ≤ gaps b) : evA a * evB b ≤ evA b * evB a := by
  unfold evA evB
  rw [hs, hl]
  by_cases z : b.sum = 0
  · simp only [if_pos z]
    omega
  · simp only [if_neg z]
    have s0 := sum_nonneg h0
    have hp : 0 < (b.length : Int) * b.sum := Int.mul_pos (by omega) (by omega)
    obtain ⟨e1, e2, e3, e4, e5, _⟩ := fr_spec (x := gaps a) (y := 2 * (b.length * b.sum)) (by omega)
    obtain ⟨f1, f2, f3, f4, f5, _⟩ := fr_spec (x := gaps b) (y := 2 * (b.length * b.sum)) (by omega)
    have c0 := e5.mpr (by omega)
    have d0 := f5.mpr (by omega)
    generalize 2 * ((b.length : Int) * b.sum) = y at *
    generalize frC (gaps a) y = c at *
    generalize frC (gaps b) y = d at *
    generalize frA (gaps a) y = A at *
    generalize frB (gaps a) y = B at *
    generalize frA (gaps b) y = A' at *
    generalize frB (gaps b) y = B' at *
    refine Int.le_of_mul_le_mul_left (a := c * d) ?_ (Int.mul_pos c0 d0)
    have r1 : c * d * (A * B') = gaps a * y := by rw [e1, f2]; ac_rfl
    have r2 : c * d * (A' * B) = gaps b * y := by rw [f1, e2]; ac_rfl
    rw [r1, r2]
    exact Int.mul_le_mul_of_nonneg_right hg (by omega)

def valOk (ns : List Int) : Bool := ns.all fun v => decide (0 ≤ v)
theorem valOk_iff {ns : List Int} : valOk ns = true ↔ ∀ v ∈ ns, 0 ≤ v := by simp [valOk]
theorem valOk_no {ns : List Int} : valOk ns = false ↔ ∃ v ∈ ns, v < 0 := by simp [valOk]
def small (ns : List Int) : Prop := ns.length ≤ 1000 ∧ ∀ v ∈ ns, v < 2 ^ 140
theorem small_sum : ∀ {ns : List Int}, (∀ v ∈ ns, v < 2 ^ 140) → ns.sum ≤ ns.length * 2 ^ 140
  | [], _ => by simp
  | a :: t, h => by
    have h1 := small_sum (ns := t) fun v hv => h v (List.mem_cons_of_mem _ hv)
    have h2 := h a (List.mem_cons_self ..)
    rw [List.sum_cons, List.length_cons, Int.natCast_succ, Int.add_mul, Int.one_mul]
    omega
theorem small_nat {ns : List Int} (h : small ns) (h0 : valOk ns = true) : ns.sum.natAbs < 2 ^ 151 ∧ 0 ≤ ns.sum := by
  have h1 := small_sum h.2
  have h2 := sum_nonneg (valOk_iff.mp h0)
  have h3 := h.1
  have h4 : (ns.length : Int) * 2 ^ 140 ≤ 1024 * 2 ^ 140 := Int.mul_le_mul_of_nonneg_right (by omega) (by decide)
  refine ⟨?_, h2⟩
  have h5 : (1024 : Int) * 2 ^ 140 < 2 ^ 151 := by decide
  omega
theorem wsum_range (k : Int) : ∀ (ns : List Int), ((List.range ns.length).map fun (i : Nat) => (2 * (i : Int) + k) * ns.getD i 0).sum = wsum k ns
  | [] => rfl
  | a :: t => by
    have h := wsum_range (k + 2) t
    rw [List.length_cons, List.range_succ_eq_map, List.map_cons, List.sum_cons, List.map_map, wsum, ← h]
    congr 1
    · simp
    · congr 1
      refine List.map_congr_left fun i _ => ?_
      simp only [Function.comp, List.getD_cons_succ]
      congr 1
      simp only [Nat.succ_eq_add_one, Int.natCast_succ]
      omega
theorem min_ex : ∀ {ns : List Int}, ns ≠ [] → ∃ m, m ∈ ns ∧ ∀ y ∈ ns, m ≤ y
  | [a], _ => ⟨a, List.mem_cons_self .., fun y hy => by simp at hy; omega⟩
  | a :: b :: t, _ => by
    obtain ⟨m, h1, h2⟩ := min_ex (ns := b :: t) (by simp)
    by_cases e : a ≤ m
    · refine ⟨a, List.mem_cons_self .., fun y hy => ?_⟩
      rcases List.mem_cons.mp hy with q | q
      · omega
      · exact Int.le_trans e (h2 y q)
    · refine ⟨m, List.mem_cons_of_mem _ h1, fun y hy => ?_⟩
      rcases List.mem_cons.mp hy with q | q
      · omega
      · exact h2 y q
theorem max_ex : ∀ {ns : List Int}, ns ≠ [] → ∃ m, m ∈ ns ∧ ∀ y ∈ ns, y ≤ m
  | [a], _ => ⟨a, List.mem_cons_self .., fun y hy => by simp at hy; omega⟩
  | a :: b :: t, _ => by
    obtain ⟨m, h1, h2⟩ := max_ex (ns := b :: t) (by simp)
    by_cases e : m ≤ a
    · refine ⟨a, List.mem_cons_self .., fun y hy => ?_⟩
      rcases List.mem_cons.mp hy with q | q
      · omega
      · exact Int.le_trans (h2 y q) e
    · refine ⟨m, List.mem_cons_of_mem _ h1, fun y hy => ?_⟩
      rcases List.mem_cons.mp hy with q | q
      · omega
      · exact h2 y q
theorem ixN_nat {n j : Nat} (h : j < n) : ixN n (j : Int) = some j := by
  unfold ixN
  rw [if_pos (by omega), if_pos (by omega), Int.toNat_natCast]
theorem first_idx : ∀ {ns : List Int} {m : Int}, m ∈ ns → ∃ j : Nat, ns[j]? = some m ∧ ∀ (k : Nat) (z : Int), k < j → ns[k]? = some z → z ≠ m
  | a :: t, m, h => by
    by_cases e : a = m
    · exact ⟨0, by rw [e]; rfl, fun k z hk => absurd hk (by omega)⟩
    · rcases List.mem_cons.mp h with q | q
      · exact absurd q.symm e
      · obtain ⟨j, h1, h2⟩ := first_idx q
        refine ⟨j + 1, by simpa using h1, fun k z hk hz => ?_⟩
        cases k with
        | zero =>
          simp at hz
          rw [← hz]
          exact e
        | succ k => exact h2 k z (by omega) (by simpa using hz)
theorem set_self {ns : List Int} {i : Nat} {x : Int} (h : ns[i]? = some x) : ns.set i x = ns := by
  obtain ⟨h1, h2⟩ := List.getElem?_eq_some_iff.mp h
  rw [← h2]
  exact List.set_getElem_self h1
theorem gift_all {vs : List Int} {M m g : Int} {i j : Nat} (hi : vs[i]? = some M) (hj : vs[j]? = some m) (hb : ∀ b ∈ vs, m ≤ b ∧ b ≤ M) (hg : 0 ≤ g) (h2 : 2 * g ≤ M - m) :
    (vs.set i (M - g))[j]? = some m ∧ gaps ((vs.set i (M - g)).set j (m + g)) ≤ gaps vs ∧ ((vs.set i (M - g)).set j (m + g)).sum = vs.sum ∧ ((vs.set i (M - g)).set j (m + g)).length = vs.length ∧ ∀ x ∈ (vs.set i (M - g)).set j (m + g), x ∈ vs ∨ x = M - g ∨ x = m + g := by
  have hm : ∀ x ∈ (vs.set i (M - g)).set j (m + g), x ∈ vs ∨ x = M - g ∨ x = m + g := fun x hx => by
    rcases List.mem_or_eq_of_mem_set hx with q | q
    · rcases List.mem_or_eq_of_mem_set q with r | r
      · exact .inl r
      · exact .inr (.inl r)
    · exact .inr (.inr q)
  by_cases e : i = j
  · subst e
    rw [hi] at hj
    obtain rfl := Option.some.inj hj
    obtain rfl : g = 0 := by omega
    have e1 : vs.set i (M - 0) = vs := set_self (by rw [Int.sub_zero]; exact hi)
    have e2 : vs.set i (M + 0) = vs := set_self (by rw [Int.add_zero]; exact hi)
    rw [e1, e2] at hm ⊢
    exact ⟨hi, Int.le_refl _, rfl, rfl, hm⟩
  · obtain ⟨q1, q2⟩ := gift hi hj hb hg h2 e
    exact ⟨by rw [List.getElem?_set_ne e]; exact hj, q1, q2, by rw [List.length_set, List.length_set], hm⟩
theorem ev_bound {ns : List Int} (h : small ns) (h0 : valOk ns = true) (hne : ns ≠ []) : 0 ≤ evA ns ∧ (evA ns).natAbs < 2 ^ 175 ∧ (evB ns).natAbs < 2 ^ 175 := by
  obtain ⟨s1, s2⟩ := small_nat h h0
  have g0 := gaps_nonneg ns
  have gu := gaps_up (valOk_iff.mp h0)
  have l0 : 0 < ns.length := List.length_pos_iff.mpr hne
  unfold evA evB
  by_cases z : ns.sum = 0
  · rw [if_pos z, if_pos z]
    decide
  · rw [if_neg z, if_neg z]
    have hp : 0 < (ns.length : Int) * ns.sum := Int.mul_pos (by omega) (by omega)
    obtain ⟨e1, e2, e3, e4, e5, e6, _⟩ := fr_spec (x := gaps ns) (y := 2 * (ns.length * ns.sum)) (by omega)
    have c0 := e5.mpr (by omega)
    have hy : (ns.length : Int) * ns.sum < 1001 * 2 ^ 151 := by
      have a1 : (ns.length : Int) * ns.sum ≤ 1001 * ns.sum := Int.mul_le_mul_of_nonneg_right (by have := h.1; omega) s2
      have a2 : (1001 : Int) * ns.sum < 1001 * 2 ^ 151 := by
        have : (2 : Nat) ^ 151 = (2 ^ 151 : Int).natAbs := by decide
        omega
      omega
    have hA : 0 ≤ frA (gaps ns) (2 * (ns.length * ns.sum)) := by
      refine Int.not_lt.mp fun n => ?_
      have := Int.mul_neg_of_pos_of_neg c0 n
      omega
    have hAB : frA (gaps ns) (2 * (ns.length * ns.sum)) ≤ frB (gaps ns) (2 * (ns.length * ns.sum)) := by
      refine Int.le_of_mul_le_mul_left ?_ c0
      rw [← e1, ← e2]
      omega
    have hN : (2 : Nat) ^ 175 = (2 ^ 175 : Int).natAbs := by decide
    have hM : 2 * (1001 * 2 ^ 151) < (2 : Int) ^ 175 := by decide
    generalize frA (gaps ns) (2 * (ns.length * ns.sum)) = A at *
    generalize frB (gaps ns) (2 * (ns.length * ns.sum)) = B at *
    generalize (ns.length : Int) * ns.sum = Y at *
    refine ⟨hA, ?_, ?_⟩ <;> omega
def sp_c_check_values0 (K : PySem.W.Frag) (C : Addr) : Sp := fun vs H Q E => ∃ (q : Addr) (ns : List Int), vs = [.ref q] ∧ SqL K H q (ns.map V.int) ∧ (ns = [] → raisesW C "values" H E) ∧ (ns ≠ [] → Q .non H)
@[irreducible] def sp_c_check_values (K : PySem.W.Frag) (C : Addr) : Sp := sp_c_check_values0 K C
theorem sp_c_check_values_eq (K : PySem.W.Frag) (C : Addr) : sp_c_check_values K C = sp_c_check_values0 K C := by unfold sp_c_check_values; rfl
theorem sp_c_check_values_use {K : PySem.W.Frag} {C : Addr} {vs : List V} {H : Hp} {Q : VK} {E : XK} (h : sp_c_check_values0 K C vs H Q E) : sp_c_check_values K C vs H Q E := by rw [sp_c_check_values_eq]; exact h
def sp_c_evenness0 (K : PySem.W.Frag) (C : Addr) : Sp := fun vs H Q E => ∃ (q : Addr) (ns : List Int), vs = [.ref q] ∧ SqL K H q (ns.map V.int) ∧ ns.length ≤ 1000 ∧ (ns = [] → raisesW C "values" H E) ∧ (ns ≠ [] → valOk ns = false → raisesW C "negative" H E) ∧ (ns ≠ [] → valOk ns = true → small ns ∧ ∀ H' p, Same H H' → H p = none → H' p = some (.tup [.int (evA ns), .int (evB ns)]) → Q (.ref p) H')
@[irreducible] def sp_c_evenness (K : PySem.W.Frag) (C : Addr) : Sp := sp_c_evenness0 K C
theorem sp_c_evenness_eq (K : PySem.W.Frag) (C : Addr) : sp_c_evenness K C = sp_c_evenness0 K C := by unfold sp_c_evenness; rfl
theorem sp_c_evenness_use {K : PySem.W.Frag} {C : Addr} {vs : List V} {H : Hp} {Q : VK} {E : XK} (h : sp_c_evenness0 K C vs H Q E) : sp_c_evenness K C vs H Q E := by rw [sp_c_evenness_eq]; exact h
def sp_c_law_order0 : Sp := fun vs H Q _ => ∃ (d : Addr) (D : List Int) (n : Nat), vs = [.ref d, .int n] ∧ H d = some (dk D) ∧ n ≤ 1000 ∧ ∀ (H' : Hp) (D' : List Int) (p : Addr) (os : List Nat), SameBut d H H' → H' d = some (dk D') → H p = none → H' p = some (.lst (os.map fun (i : Nat) => V.int i)) → os.Perm (List.range n) → Q (.ref p) H'
@[irreducible] def sp_c_law_order : Sp := sp_c_law_order0
theorem sp_c_law_order_eq : sp_c_law_order  = sp_c_law_order0  := by unfold sp_c_law_order; rfl
theorem sp_c_law_order_use {vs : List V} {H : Hp} {Q : VK} {E : XK} (h : sp_c_law_order0  vs H Q E) : sp_c_law_order  vs H Q E := by rw [sp_c_law_order_eq]; exact h
def sp_c_law_why0 (K : PySem.W.Frag) : Sp := fun vs H Q _ => ∃ (q : Addr) (ns : List Int) (wd : Str), vs = [.ref q] ∧ SqL K H q (ns.map V.int) ∧ ns.length ≤ 1000 ∧ ((ns = [] ∧ wd = "values") ∨ (ns ≠ [] ∧ valOk ns = false ∧ wd = "negative")) ∧ ∀ H', Same H H' → Q (.str wd) H'
@[irreducible] def sp_c_law_why (K : PySem.W.Frag) : Sp := sp_c_law_why0 K
theorem sp_c_law_why_eq (K : PySem.W.Frag) : sp_c_law_why K = sp_c_law_why0 K := by unfold sp_c_law_why; rfl
theorem sp_c_law_why_use {K : PySem.W.Frag} {vs : List V} {H : Hp} {Q : VK} {E : XK} (h : sp_c_law_why0 K vs H Q E) : sp_c_law_why K vs H Q E := by rw [sp_c_law_why_eq]; exact h
def sp_c_law_even0 (K : PySem.W.Frag) : Sp := fun vs H Q _ => ∃ (q : Addr) (ns : List Int), vs = [.ref q] ∧ SqL K H q (ns.map V.int) ∧ ns ≠ [] ∧ valOk ns = true ∧ small ns ∧ ∀ H' p, Same H H' → H p = none → H' p = some (.tup [.int (evA ns), .int (evB ns)]) → Q (.ref p) H'
@[irreducible] def sp_c_law_even (K : PySem.W.Frag) : Sp := sp_c_law_even0 K
theorem sp_c_law_even_eq (K : PySem.W.Frag) : sp_c_law_even K = sp_c_law_even0 K := by unfold sp_c_law_even; rfl
theorem sp_c_law_even_use {K : PySem.W.Frag} {vs : List V} {H : Hp} {Q : VK} {E : XK} (h : sp_c_law_even0 K vs H Q E) : sp_c_law_even K vs H Q E := by rw [sp_c_law_even_eq]; exact h
def sp_c_law (K : PySem.W.Frag) : Sp := fun vs H Q _ => ∃ (a : Addr) (ns : List Int), vs = [.ref a] ∧ SqL K H a (ns.map V.int) ∧ ns.length ≤ 63 ∧ ∀ H', Q (.bl true) H'

theorem ok_c_law_deck {P : Program} {w : World} {K : PySem.W.Frag} {mg : Str → Option Value} {base : Heap} {a : Ad} (T : Txt K mg a) : FnOk P w K mg base (L2.CX P w) 1 a.f_c_law_deck a.d_c_law_deck ["script", "cells", "each"] (sp_c_law_deck K) := by
  refine T.F_c_law_deck.okX sc_c_law_deck (fun vs H Q E h => ?_) (fun cdv A outer s H vs Q E hr h => ?_)
  · walk_at "len"
  · obtain ⟨sa, ns, c, e, rfl, hS, hns, hc0, hc1, he0, he1, k⟩ := h
    refine ⟨_, (pss_cons (ps_set (i := 3) sc_c_law_deck.nd (by rfl) (Or.inl rfl) (pe_lst pa_nil))
    (pss_cons (ps_set (i := 4) sc_c_law_deck.nd (by rfl) (Or.inl rfl) (pe_op op_add pe_int (pe_callB call_len_seq (by rfl) T.n_len (by decide +kernel) (pa_cons (pv 0) pa_nil))))
    (pss_cons (ps_for (passes_of rfl) rfl (pi_range1 (by rfl) T.n_range (pa_cons (pv 1) pa_nil)) (pg_name (i := 5) sc_c_law_deck.nd (by rfl) (Or.inl rfl)) (pss_cons (ps_set (i := 6) sc_c_law_deck.nd (by rfl) (Or.inl rfl) pe_int)
    (pss_cons (ps_if (pt_cmpR op_lt (pv 5) (pe_callB call_len_seq (by rfl) T.n_len (by decide +kernel) (pa_cons (pv 0) pa_nil)) (nomark _)) (pss_one (ps_set (i := 6) sc_c_law_deck.nd (by rfl) (Or.inl rfl) (pe_ix ix_list (pv 0) (pv 5) (fun _ _ => rfl)))) pss_nil)
    (pss_cons (ps_set (i := 7) sc_c_law_deck.nd (by rfl) (Or.inl rfl) (pe_callB call_abs (by rfl) T.n_abs (by decide +kernel) (pa_cons (pv 6) pa_nil)))
    (pss_one (ps_if (pt_cmpR op_ge (pv 7) (pe_op op_pow pe_int pe_int) (nomark _)) (pss_one (ps_for (passes_of rfl) rfl (pi_range1 (by rfl) T.n_range (pa_cons (pv 2) pa_nil)) (pg_name (i := 8) sc_c_law_deck.nd (by rfl) (Or.inl rfl)) (pss_cons (ps_expr (pe_bm PySem.F.plainAttrs_list PySem.F.slot_list_append PySem.F.type_list_append mt_append (pv 3) (pa_cons (pe_op op_mod (pe_callTy call_int1 (by rfl) T.n_int (by decide +kernel) (pa_cons (pv 7) pa_nil)) pe_int) pa_nil)))
    (pss_one (ps_set (i := 7) sc_c_law_deck.nd (by rfl) (Or.inl rfl) (pe_op op_fdiv (pv 7) pe_int)))))) (pss_cons (ps_set (i := 4) sc_c_law_deck.nd (by rfl) (Or.inl rfl) (pe_op op_mod (pe_callTy call_int1 (by rfl) T.n_int (by decide +kernel) (pa_cons (pe_op op_add (pe_op op_add (pe_op op_add (pe_op op_mul (pv 4) pe_int) (pe_op op_mul pe_int (pv 7))) (pe_callTy call_int1 (by rfl) T.n_int (by decide +kernel) (pa_cons (pe_cmpR op_lt (pv 6) pe_int (nomark _)) pa_nil))) (pv 5)) pa_nil)) pe_int))
    (pss_one (ps_for (passes_of rfl) rfl (pi_range1 (by rfl) T.n_range (pa_cons (pv 2) pa_nil)) (pg_name (i := 8) sc_c_law_deck.nd (by rfl) (Or.inl rfl)) (pss_cons (ps_set (i := 4) sc_c_law_deck.nd (by rfl) (Or.inl rfl) (pe_op op_mod (pe_callTy call_int1 (by rfl) T.n_int (by decide +kernel) (pa_cons (pe_op op_add (pe_op op_add (pe_op op_mul (pv 4) pe_int) (pv 8)) pe_int) pa_nil)) pe_int))
    (pss_one (ps_expr (pe_bm PySem.F.plainAttrs_list PySem.F.slot_list_append PySem.F.type_list_append mt_append (pv 3) (pa_cons (pe_op op_mod (pe_callTy call_int1 (by rfl) T.n_int (by decide +kernel) (pa_cons (pe_op op_fdiv (pv 4) pe_int) pa_nil)) pe_int) pa_nil))))))))))))))
    (pss_cons (ps_expr (pe_bm0 PySem.F.plainAttrs_list PySem.F.slot_list_reverse PySem.F.type_list_reverse mt_reverse (pv 3)))
    (pss_one (ps_ret (pv 3))))))), ?_⟩
    refine ⟨by show 0 ≤ sizeLine; decide, fun p hp => ?_⟩
    have s0 : Same H (upd H p (.lst [])) := Same.new hp
    refine ⟨_, rfl, sa, _, rfl, .inl (s0.seq hS), _, _, rfl, rfl, ?_⟩
    refine ⟨_, rfl, c, rfl, by omega, by omega, for_range (lo := 0) (n := c.toNat) (fun i σ H' => ∃ (sd : Int) (v5 v6 v7 v8 : Option V) (xs : List Int), σ = [some (.ref sa), some (.int c), some (.int e), some (.ref p), some (.int sd), v5, v6, v7, v8] ∧
      Same H H' ∧ H' p = some (.lst (xs.map V.int)) ∧ xs.length ≤ i * 100) ⟨_, none, none, none, none, [], rfl, s0, upd_same, by simp⟩ ?_ ?_⟩
    · rintro i σ H1 hi ⟨sd, v5, v6, v7, v8, xs, rfl, s1, h1, hx⟩
      have hi' : i < 1000 := by omega
      walk_at "st"
      refine ⟨_, rfl, sa, _, rfl, .inl (s1.seq hS), ?_⟩
      walk_at "sts"
      refine ite2 (fun hk => ?_) (fun _ => ?_)
      · have hk' : i < ns.length := by simpa using hk
        refine ⟨_, rfl, _, rfl, sa, _, _, _, rfl, rfl, s1.seq hS, atI_nat' (j := i) (by omega) (by rw [List.getElem?_map, List.getElem?_eq_getElem hk']; rfl), ?_⟩
        walk_at "sts"
        refine ite2 (fun _ => ?_) (fun _ => ?_)
        · refine ⟨_, rfl, e, rfl, by omega, by omega, for_range (lo := 0) (n := e.toNat) (fun j σ H' => ∃ (r : Int) (v6 v8 : Option V) (ys : List Int), σ = [some (.ref sa), some (.int c), some (.int e), some (.ref p), some (.int sd), some (.int (0 + (i : Int))), v6, some (.int r), v8] ∧
            Same H H' ∧ H' p = some (.lst (ys.map V.int)) ∧ ys.length ≤ i * 100 + j) ⟨_, _, v8, xs, rfl, s1, h1, by omega⟩ ?_ ?_⟩
          · rintro j σ H2 hj ⟨r, v6, v8, ys, rfl, s2, h2, hy⟩
            refine ⟨_, rfl, .inl ⟨rfl, _, SqL.of h2⟩, ?_⟩
            walk_at "sts"
            refine ⟨p, _, _, rfl, rfl, h2, by rw [List.length_map]; exact small1000000 (by omega), ?_⟩
            walk_at "sts"
            refine ⟨_, _, _, ys ++ [r % 1000003], rfl, s2.mut hp, ?_, by rw [List.length_append]; simp; omega⟩
            rw [upd_same, List.map_append]
            rfl
          · rintro σ H2 ⟨r, v6, v8, ys, rfl, s2, h2, hy⟩
            exact ⟨_, _, _, _, _, ys, rfl, s2, h2, by omega⟩
        · walk_at "sts"
          refine ⟨by omega, by omega, for_range (lo := 0) (n := e.toNat) (fun j σ H' => ∃ (sd : Int) (v6 v7 v8 : Option V) (ys : List Int), σ = [some (.ref sa), some (.int c), some (.int e), some (.ref p), some (.int sd), some (.int (0 + (i : Int))), v6, v7, v8] ∧
            Same H H' ∧ H' p = some (.lst (ys.map V.int)) ∧ ys.length ≤ i * 100 + j) ⟨_, _, _, v8, xs, rfl, s1, h1, by omega⟩ ?_ ?_⟩
          · rintro j σ H2 hj ⟨sd, v6, v7, v8, ys, rfl, s2, h2, hy⟩
            walk_at "sts"
            refine ⟨.inl ⟨rfl, _, SqL.of h2⟩, ?_⟩
            walk_at "sts"
            refine ⟨p, _, _, rfl, rfl, h2, by rw [List.length_map]; exact small1000000 (by omega), ?_⟩
            refine ⟨_, _, _, _, ys ++ [(sd * 69621 + (0 + (j : Int)) + 1) % 2147483629 / 5 % 1000003], rfl, s2.mut hp, ?_, by rw [List.length_append]; simp; omega⟩
            rw [upd_same, List.map_append]
            rfl
          · rintro σ H2 ⟨sd, v6, v7, v8, ys, rfl, s2, h2, hy⟩
            exact ⟨_, _, _, _, _, ys, rfl, s2, h2, by omega⟩
      · skip
        walk_at "sts"
        refine ⟨by omega, by omega, for_range (lo := 0) (n := e.toNat) (fun j σ H' => ∃ (sd : Int) (v6 v7 v8 : Option V) (ys : List Int), σ = [some (.ref sa), some (.int c), some (.int e), some (.ref p), some (.int sd), some (.int (0 + (i : Int))), v6, v7, v8] ∧
          Same H H' ∧ H' p = some (.lst (ys.map V.int)) ∧ ys.length ≤ i * 100 + j) ⟨_, _, _, v8, xs, rfl, s1, h1, by omega⟩ ?_ ?_⟩
        · rintro j σ H2 hj ⟨sd, v6, v7, v8, ys, rfl, s2, h2, hy⟩
          walk_at "sts"
          refine ⟨.inl ⟨rfl, _, SqL.of h2⟩, ?_⟩
          walk_at "sts"
          refine ⟨p, _, _, rfl, rfl, h2, by rw [List.length_map]; exact small1000000 (by omega), ?_⟩
          refine ⟨_, _, _, _, ys ++ [(sd * 69621 + (0 + (j : Int)) + 1) % 2147483629 / 5 % 1000003], rfl, s2.mut hp, ?_, by rw [List.length_append]; simp; omega⟩
          rw [upd_same, List.map_append]
          rfl
        · rintro σ H2 ⟨sd, v6, v7, v8, ys, rfl, s2, h2, hy⟩
          exact ⟨_, _, _, _, _, ys, rfl, s2, h2, by omega⟩
    · rintro σ H1 ⟨sd, v5, v6, v7, v8, xs, rfl, s1, h1, hx⟩
      refine ⟨_, rfl, .inl ⟨rfl, _, SqL.of h1⟩, p, _, rfl, rfl, h1, _, rfl, ?_⟩
      refine k xs p _ hp (s1.mut hp) ?_
      rw [upd_same]
      simp [dk]
theorem ok_c_law_gcd {P : Program} {w : World} {K : PySem.W.Frag} {mg : Str → Option Value} {base : Heap} {a : Ad} (T : Txt K mg a) : FnOk P w K mg base (L2.CX P w) 1 a.f_c_law_gcd a.d_c_law_gcd ["one", "two"] (sp_c_law_gcd) := by
  refine T.F_c_law_gcd.okX sc_c_law_gcd (fun vs H Q E h => ?_) (fun cdv A outer s H vs Q E hr h => ?_)
  · walk_at "len"
  · obtain ⟨x, y, rfl, k⟩ := h
    refine ⟨_, (pss_cons (ps_set (i := 0) sc_c_law_gcd.nd (by rfl) (Or.inl rfl) (pe_callB call_abs (by rfl) T.n_abs (by decide +kernel) (pa_cons (pv 0) pa_nil)))
    (pss_cons (ps_set (i := 1) sc_c_law_gcd.nd (by rfl) (Or.inl rfl) (pe_callB call_abs (by rfl) T.n_abs (by decide +kernel) (pa_cons (pv 1) pa_nil)))
    (pss_cons (ps_while (passes_of rfl) (pt_cmpR op_ne (pv 1) pe_int (nomark _)) (pss_one (ps_par (i := 0) (j := 1) (by rfl) sc_c_law_gcd.nd (by rfl) (by rfl) (by decide) (by rfl) (by rfl) (pa_cons (pv 1) (pa_cons (pe_op op_mod (pe_callTy call_int1 (by rfl) T.n_int (by decide +kernel) (pa_cons (pv 0) pa_nil)) (pv 1)) pa_nil)) (by rfl))))
    (pss_one (ps_ret (pv 0)))))), ?_⟩
    refine ⟨_, rfl, _, rfl, ?_⟩
    refine ⟨_, rfl, _, rfl, ?_⟩
    refine ⟨fun m σ H' => ∃ u v : Nat, σ = [some (.int (u : Int)), some (.int (v : Int))] ∧ H' = H ∧ v = m ∧ Nat.gcd u v = Nat.gcd x.natAbs y.natAbs, ⟨y.natAbs, x.natAbs, y.natAbs, ?_, rfl, rfl, rfl⟩, ?_⟩
    · show [some (V.int (if x < 0 then -x else x)), some (V.int (if y < 0 then -y else y))] = _
      rw [abs_nat, abs_nat]
    · rintro m σ H' ⟨u, v, rfl, rfl, rfl, hg⟩
      refine ⟨_, rfl, rfl, _, rfl, ?_⟩
      refine ite2 (fun c => ?_) (fun c => ?_)
      · have c' : v ≠ 0 := by
          intro z
          subst z
          simp at c
        refine ⟨_, fun _ _ h => h, ?_⟩
        refine ⟨_, rfl, _, rfl, .inl ⟨_, rfl, _, rfl, _, _, rfl, rfl, (by show (0 : Int) < _; omega), _, _, rfl, ?_⟩⟩
        refine ⟨u % v, Nat.mod_lt _ (by omega), v, u % v, rfl, rfl, rfl, ?_⟩
        rw [Nat.gcd_comm, ← Nat.gcd_rec, Nat.gcd_comm]
        exact hg
      · have c' : v = 0 := by
          have : ¬ ¬ (V.int (v : Int) = V.int 0) := by simpa using c
          have := Classical.not_not.mp this
          injection this with h
          omega
        subst c'
        rw [Nat.gcd_zero_right] at hg
        refine ⟨_, rfl, ?_⟩
        rw [hg]
        exact k
theorem ok_c_law_fraction {P : Program} {w : World} {K : PySem.W.Frag} {mg : Str → Option Value} {base : Heap} {a : Ad} (T : Txt K mg a) : FnOk P w K mg base (L2.CX P w) 2 a.f_c_law_fraction a.d_c_law_fraction ["above", "below"] (sp_c_law_fraction) := by
  have G_c_law_gcd : FnOk P w K mg base (L2.CX P w) 1 a.f_c_law_gcd a.d_c_law_gcd ["one", "two"] (sp_c_law_gcd) := ok_c_law_gcd T
  refine T.F_c_law_fraction.okX sc_c_law_fraction (fun vs H Q E h => ?_) (fun cdv A outer s H vs Q E hr h => ?_)
  · walk_at "len"
  · obtain ⟨x, y, rfl, hy, hy0, k⟩ := h
    refine ⟨_, (pss_cons (ps_set (i := 2) sc_c_law_fraction.nd (by rfl) (Or.inl rfl) (pe_call G_c_law_gcd (hr.mono (by decide)) (by rfl) T.m_c_law_gcd T.F_c_law_gcd.kp T.b_c_law_gcd .nil passL (pa_cons (pv 0) (pa_cons (pv 1) pa_nil))))
    (pss_cons (ps_if (pt_cmpR op_lt (pv 1) pe_int (nomark _)) (pss_one (ps_set (i := 2) sc_c_law_fraction.nd (by rfl) (Or.inl rfl) (pe_un un_neg (pv 2)))) pss_nil)
    (pss_one (ps_ret (pe_tup (pa_cons (pe_op op_fdivZ (pv 0) (pv 2)) (pa_cons (pe_op op_fdivZ (pv 1) (pv 2)) pa_nil))))))), ?_⟩
    refine ⟨_, rfl, _, rfl, x, y, rfl, ?_⟩
    refine ⟨_, rfl, _, _, rfl, rfl, _, rfl, ?_⟩
    unfold frA frB frC at k
    refine ite2 (fun n => ?_) (fun n => ?_)
    · have n' : y < 0 := by simpa using n
      rw [if_pos n'] at k
      refine ⟨_, rfl, _, rfl, ?_⟩
      exact ⟨_, rfl, _, rfl, _, _, rfl, rfl, (gcd_cdiv x hy0 hy).2, _, rfl, _, rfl, _, _, rfl, rfl, (gcd_cdiv y hy0 hy).2, by show 2 ≤ sizeLine; decide, k⟩
    · have n' : ¬ y < 0 := by simpa using n
      rw [if_neg n'] at k
      exact ⟨_, rfl, _, rfl, _, _, rfl, rfl, (gcd_cdiv x hy0 hy).1, _, rfl, _, rfl, _, _, rfl, rfl, (gcd_cdiv y hy0 hy).1, by show 2 ≤ sizeLine; decide, k⟩
theorem ok_c_law_even {P : Program} {w : World} {K : PySem.W.Frag} {mg : Str → Option Value} {base : Heap} {a : Ad} (T : Txt K mg a) : FnOk P w K mg base (L2.CX P w) 3 a.f_c_law_even a.d_c_law_even ["values"] (sp_c_law_even K) := by
  have G_c_law_fraction : FnOk P w K mg base (L2.CX P w) 2 a.f_c_law_fraction a.d_c_law_fraction ["above", "below"] (sp_c_law_fraction) := ok_c_law_fraction T
  refine T.F_c_law_even.okX sc_c_law_even (fun vs H Q E h => ?_) (fun cdv A outer s H vs Q E hr h => ?_)
  · rw [sp_c_law_even_eq] at h
    walk_at "len"
  · rw [sp_c_law_even_eq] at h
    obtain ⟨q, ns, rfl, hq, hne, hv, hs, k⟩ := h
    refine ⟨_, (pss_cons (ps_set (i := 1) sc_c_law_even.nd (by rfl) (Or.inl rfl) pe_int)
    (pss_cons (ps_for (passes_of rfl) rfl (pi_list (pv 0)) (pg_name (i := 2) sc_c_law_even.nd (by rfl) (Or.inl rfl)) (pss_one (ps_for (passes_of rfl) rfl (pi_list (pv 0)) (pg_name (i := 3) sc_c_law_even.nd (by rfl) (Or.inl rfl)) (pss_one (ps_set (i := 1) sc_c_law_even.nd (by rfl) (Or.inl rfl) (pe_op op_add (pv 1) (pe_callB call_abs (by rfl) T.n_abs (by decide +kernel) (pa_cons (pe_op op_sub (pv 2) (pv 3)) pa_nil))))))))
    (pss_cons (ps_if (pt_cmpR op_eq (pe_callB (cr_sum rfl) (by rfl) T.n_sum (by decide +kernel) (pa_cons (pv 0) pa_nil)) pe_int (nomark _)) (pss_one (ps_ret (pe_tup (pa_cons pe_int (pa_cons pe_int pa_nil))))) pss_nil)
    (pss_one (ps_ret (pe_call G_c_law_fraction (hr.mono (by decide)) (by rfl) T.m_c_law_fraction T.F_c_law_fraction.kp T.b_c_law_fraction .nil passL (pa_cons (pv 1) (pa_cons (pe_op op_mulW (pe_op op_mulW pe_int (pe_callB call_len_seq (by rfl) T.n_len (by decide +kernel) (pa_cons (pv 0) pa_nil))) (pe_callB (cr_sum rfl) (by rfl) T.n_sum (by decide +kernel) (pa_cons (pv 0) pa_nil))) pa_nil)))))))), ?_⟩
    have hv' := valOk_iff.mp hv
    obtain ⟨b1, b2⟩ := small_nat hs hv
    have hlen0 : 0 < ns.length := List.length_pos_iff.mpr hne
    refine ⟨_, rfl, q, rfl, ⟨_, hq⟩, for_list (K := K) (a := q) (xs := ns.map V.int) (fun i σ H' => ∃ v2 v3 : Option V, σ = [some (.ref q), some (.int (((ns.take i).map fun x => dsum x ns).sum)), v2, v3] ∧ H' = H) ⟨_, _, rfl, rfl⟩ (fun i σ H' _ ⟨_, _, _, e⟩ => by rw [e]; exact hq) ?_ ?_⟩
    · rintro i x σ H' hi ⟨v2, v3, rfl, rfl⟩
      obtain ⟨z, hz, rfl⟩ := ints_get hi
      refine ⟨_, rfl, q, rfl, ⟨_, hq⟩, for_list (K := K) (a := q) (xs := ns.map V.int) (fun j σ H2 => ∃ v3 : Option V, σ = [some (.ref q), some (.int (((ns.take i).map fun x => dsum x ns).sum + ((ns.take j).map fun b => ((z - b).natAbs : Int)).sum)), some (.int z), v3] ∧ H2 = H') ⟨_, by rw [List.take_zero, List.map_nil, List.sum_nil, Int.add_zero]; rfl, rfl⟩ (fun i σ H2 _ ⟨_, _, e⟩ => by rw [e]; exact hq) ?_ ?_⟩
      · rintro j y σ H2 hj ⟨v3, rfl, rfl⟩
        obtain ⟨b, hb, rfl⟩ := ints_get hj
        refine ⟨_, rfl, _, rfl, _, rfl, _, _, rfl, rfl, _, rfl, _, _, rfl, rfl, some (.int b), ?_, rfl⟩
        rw [tk_sum (fun b => ((z - b).natAbs : Int)) hb, ← Int.add_assoc, ← abs_nat]
        rfl
      · rintro σ H2 ⟨v3, rfl, rfl⟩
        rw [List.length_map, List.take_length]
        refine ⟨some (.int z), v3, ?_, rfl⟩
        rw [tk_sum (fun x => dsum x ns) hz]
        rfl
    · rintro σ H' ⟨v2, v3, rfl, rfl⟩
      rw [List.length_map, List.take_length]
      refine ⟨_, rfl, q, ns, rfl, hq, rfl, _, rfl, ?_⟩
      refine ite2 (fun c => ?_) (fun c => ?_)
      · have c' : ns.sum = 0 := V.int.inj (of_decide_eq_true c)
        refine ⟨by show 2 ≤ sizeLine; decide, fun p hp => k _ p (Same.new hp) hp ?_⟩
        rw [upd_same, evA, evB, if_pos c', if_pos c']
      · have c' : ns.sum ≠ 0 := fun z => c (decide_eq_true (congrArg V.int z))
        have e : (2 : Int) * ((ns.map V.int).length : Nat) * ns.sum = 2 * (ns.length * ns.sum) := by rw [List.length_map, Int.mul_assoc]
        have n20 : (2 * ((ns.map V.int).length : Nat) : Int).natAbs < 2 ^ 20 := by rw [List.length_map]; have := hs.1; omega
        refine ⟨_, rfl, _, rfl, q, _, rfl, .inl hq, _, _, rfl, rfl, wide_mul (a := 2) (b := 20) (by decide) (by rw [List.length_map]; have := hs.1; omega) (by decide) (by decide) (by decide), ?_⟩
        refine ⟨_, rfl, q, ns, rfl, hq, _, _, rfl, rfl, wide_mul (a := 20) (b := 151) n20 b1 (by decide) (by decide) (by decide), ?_⟩
        have hp : 0 < (ns.length : Int) * ns.sum := Int.mul_pos (by omega) (by omega)
        refine ⟨_, _, rfl, Nat.lt_of_lt_of_le (wide_lt n20 b1) (Nat.pow_le_pow_right (by decide) (by decide)), by rw [e]; omega, fun p hp => k _ p (Same.new hp) hp ?_⟩
        rw [upd_same, evA, evB, if_neg c', if_neg c', e]
        rfl
theorem ok_c_law_take {P : Program} {w : World} {K : PySem.W.Frag} {mg : Str → Option Value} {base : Heap} {a : Ad} (T : Txt K mg a) : FnOk P w K mg base (L2.CX P w) 1 a.f_c_law_take a.d_c_law_take ["deck", "many"] (sp_c_law_take) := by
  refine T.F_c_law_take.okX sc_c_law_take (fun vs H Q E h => ?_) (fun cdv A outer s H vs Q E hr h => ?_)
  · rw [sp_c_law_take, sp_take_eq] at h
    walk_at "len"
  · rw [sp_c_law_take, sp_take_eq] at h
    obtain ⟨d, D, m, rfl, hd, hm, k⟩ := h
    refine ⟨_, (pss_cons (ps_if (pt_cmpR op_eq (pe_callB call_len_seq (by rfl) T.n_len (by decide +kernel) (pa_cons (pv 0) pa_nil)) pe_int (nomark _)) (pss_one (ps_ret pe_int)) pss_nil)
    (pss_one (ps_ret (pe_op op_mod (pe_callTy call_int1 (by rfl) T.n_int (by decide +kernel) (pa_cons (pe_bm0 PySem.F.plainAttrs_list PySem.F.slot_list_pop PySem.F.type_list_pop mt_pop (pv 0)) pa_nil)) (pv 1))))), ?_⟩
    refine ⟨_, rfl, d, _, rfl, .inl (SqL.of hd), rfl, _, rfl, ?_⟩
    cases D with
    | nil =>
      refine iteT ?_
      have e : upd H d (dk []) = H := upd_self hd
      have k' : Q (.int (0 % m)) H := by rw [← e]; exact k
      rw [Int.zero_emod] at k'
      exact k'
    | cons x D =>
      refine ite2 (fun c => ?_) (fun _ => ?_)
      · simp at c
        omega
      · refine ⟨_, rfl, .inl ⟨rfl, _, SqL.of hd⟩, d, _, _, rfl, rfl, hd, dk_last, .inl ⟨_, rfl, _, rfl, _, _, rfl, rfl, hm, ?_⟩⟩
        rw [dk_drop]
        exact k
theorem ok_c_law_number {P : Program} {w : World} {K : PySem.W.Frag} {mg : Str → Option Value} {base : Heap} {a : Ad} (T : Txt K mg a) : FnOk P w K mg base (L2.CX P w) 2 a.f_c_law_number a.d_c_law_number ["deck"] (sp_c_law_number) := by
  have G_c_law_take : FnOk P w K mg base (L2.CX P w) 1 a.f_c_law_take a.d_c_law_take ["deck", "many"] (sp_c_law_take) := ok_c_law_take T
  refine T.F_c_law_number.okX sc_c_law_number (fun vs H Q E h => ?_) (fun cdv A outer s H vs Q E hr h => ?_)
  · rw [sp_c_law_number, sp_number_eq] at h
    walk_at "len"
  · rw [sp_c_law_number, sp_number_eq] at h
    obtain ⟨d, D, rfl, hd, k⟩ := h
    refine ⟨_, (pss_cons (ps_set (i := 1) sc_c_law_number.nd (by rfl) (Or.inl rfl) (pe_call G_c_law_take (hr.mono (by decide)) (by rfl) T.m_c_law_take T.F_c_law_take.kp T.b_c_law_take .nil passL (pa_cons (pv 0) (pa_cons pe_int pa_nil))))
    (pss_cons (ps_if (pt_cmpR op_lt (pv 1) pe_int (nomark _)) (pss_one (ps_ret (pe_op op_sub (pe_call G_c_law_take (hr.mono (by decide)) (by rfl) T.m_c_law_take T.F_c_law_take.kp T.b_c_law_take .nil passL (pa_cons (pv 0) (pa_cons pe_int pa_nil))) pe_int))) pss_nil)
    (pss_cons (ps_set (i := 2) sc_c_law_number.nd (by rfl) (Or.inl rfl) (pe_call G_c_law_take (hr.mono (by decide)) (by rfl) T.m_c_law_take T.F_c_law_take.kp T.b_c_law_take .nil passL (pa_cons (pv 0) (pa_cons pe_int pa_nil))))
    (pss_cons (ps_for (passes_of rfl) rfl (pi_range1 (by rfl) T.n_range (pa_cons (pe_call G_c_law_take (hr.mono (by decide)) (by rfl) T.m_c_law_take T.F_c_law_take.kp T.b_c_law_take .nil passL (pa_cons (pv 0) (pa_cons pe_int pa_nil))) pa_nil)) (pg_name (i := 3) sc_c_law_number.nd (by rfl) (Or.inl rfl)) (pss_one (ps_set (i := 2) sc_c_law_number.nd (by rfl) (Or.inl rfl) (pe_op op_add (pe_op op_mul (pv 2) pe_int) (pe_call G_c_law_take (hr.mono (by decide)) (by rfl) T.m_c_law_take T.F_c_law_take.kp T.b_c_law_take .nil passL (pa_cons (pv 0) (pa_cons pe_int pa_nil)))))))
    (pss_one (ps_ret (pe_op op_mul (pv 2) (pe_ix ix_list (pe_lst (pa_cons pe_int (pa_cons (pe_un un_neg pe_int) pa_nil))) (pe_call G_c_law_take (hr.mono (by decide)) (by rfl) T.m_c_law_take T.F_c_law_take.kp T.b_c_law_take .nil passL (pa_cons (pv 0) (pa_cons pe_int pa_nil))) (fun _ _ => rfl))))))))), ?_⟩
    refine ⟨_, rfl, take_u hd (by decide) ?_⟩
    walk_at "sts"
    refine ite2 (fun _ => ?_) (fun _ => ?_)
    · refine ⟨_, rfl, take_u upd_same (by decide) ?_⟩
      walk_at "sts"
      rw [upd_upd]
      refine k _ _ _ (fun b o n e => by rw [upd_ne n]; exact e) upd_same ?_
      have a := tk_nonneg D.tail (m := 9) (by decide)
      have b := tk_lt D.tail (m := 9) (by decide)
      exact Nat.lt_of_lt_of_le (show _ < 2 ^ 10 by omega) (Nat.pow_le_pow_right (by decide) (by decide))
    · refine ⟨_, rfl, take_u upd_same (by decide) ?_⟩
      rw [upd_upd]
      refine ⟨_, rfl, take_u upd_same (by decide) ?_⟩
      rw [upd_upd]
      have t0 := tk_nonneg D.tail.tail (m := 5) (by decide)
      have t1 := tk_lt D.tail.tail (m := 5) (by decide)
      have n0 := tk_nonneg D.tail (m := 1000003) (by decide)
      have n1 := tk_lt D.tail (m := 1000003) (by decide)
      refine ⟨_, rfl, by omega, by omega, for_range (lo := 0) (n := (tk D.tail.tail 5).toNat) (fun i σ H' => ∃ (n : Int) (v3 : Option V) (D' : List Int), σ = [some (.ref d), some (.int (tk D 5)), some (.int n), v3] ∧ H' = upd H d (dk D') ∧ 0 ≤ n ∧ n < 2 ^ (20 * (i + 1)))
        ⟨_, none, _, rfl, rfl, n0, by omega⟩ ?_ ?_⟩
      · rintro i σ H' hi ⟨n, v3, D', rfl, rfl, m0, m1⟩
        walk_at "sts"
        refine take_u upd_same (by decide) ?_
        rw [upd_upd]
        walk_at "sts"
        have a := tk_nonneg D' (m := 1000003) (by decide)
        have b := tk_lt D' (m := 1000003) (by decide)
        refine ⟨_, _, _, rfl, rfl, by omega, ?_⟩
        have e : (2 : Int) ^ (20 * (i + 1 + 1)) = 1048576 * 2 ^ (20 * (i + 1)) := by
          rw [show 20 * (i + 1 + 1) = 20 + 20 * (i + 1) by omega, Int.pow_add]
          rfl
        rw [e]
        omega
      · rintro σ H' ⟨n, v3, D', rfl, rfl, m0, m1⟩
        have m2 : n < 2 ^ 120 := Int.lt_of_lt_of_le m1 (two_pow_mono (by omega))
        refine ⟨_, rfl, ?_⟩
        walk_at "sts"
        refine ⟨by show 2 ≤ sizeLine; decide, fun l hl => ?_⟩
        have nl : d ≠ l := by
          intro z
          rw [z, upd_same] at hl
          cases hl
        have hl0 : H l = none := by rw [upd_ne nl.symm] at hl; exact hl
        refine ⟨_, rfl, take_u (D := D') (by rw [upd_ne nl]; exact upd_same) (by decide) ?_⟩
        have a := tk_nonneg D' (m := 2) (by decide)
        have b := tk_lt D' (m := 2) (by decide)
        obtain ⟨z, hz, hz2⟩ := atI_ints (ns := [1, -1]) a (by simpa using b)
        refine ⟨l, _, _, .int z, rfl, rfl, SqL.of (by rw [upd_ne nl.symm]; exact upd_same), hz, ?_⟩
        have hz3 : z = 1 ∨ z = -1 := by simpa using hz2
        refine ⟨_, _, rfl, rfl, .inr ⟨by omega, by omega⟩, ?_⟩
        refine k _ _ _ (fun b o nb e => ?_) upd_same ?_
        · rw [upd_ne nb, upd_ne (ne_of_none e hl0), upd_ne nb]
          exact e
        · have e1 : (n * z).natAbs = n.natAbs := by rcases hz3 with rfl | rfl <;> omega
          have e2 : (2 : Int) ^ 120 = ((2 ^ 120 : Nat) : Int) := by rw [Int.natCast_pow]; rfl
          rw [e1]
          exact Nat.lt_of_lt_of_le (show n.natAbs < 2 ^ 120 by omega) (Nat.pow_le_pow_right (by decide) (by decide))
theorem ok_c_law_order {P : Program} {w : World} {K : PySem.W.Frag} {mg : Str → Option Value} {base : Heap} {a : Ad} (T : Txt K mg a) : FnOk P w K mg base (L2.CX P w) 2 a.f_c_law_order a.d_c_law_order ["deck", "size"] (sp_c_law_order) := by
  have G_c_law_take : FnOk P w K mg base (L2.CX P w) 1 a.f_c_law_take a.d_c_law_take ["deck", "many"] (sp_c_law_take) := ok_c_law_take T
  refine T.F_c_law_order.okX sc_c_law_order (fun vs H Q E h => ?_) (fun cdv A outer s H vs Q E hr h => ?_)
  · rw [sp_c_law_order_eq] at h
    walk_at "len"
  · rw [sp_c_law_order_eq] at h
    obtain ⟨d, D, n, rfl, hd, hn, k⟩ := h
    refine ⟨_, (pss_cons (ps_set (i := 2) sc_c_law_order.nd (by rfl) (Or.inl rfl) (pe_listRg rfl (by rfl) T.n_list (prg_1 (by rfl) T.n_range (pv 1))))
    (pss_cons (ps_set (i := 3) sc_c_law_order.nd (by rfl) (Or.inl rfl) (pe_lst pa_nil))
    (pss_cons (ps_for (passes_of rfl) rfl (pi_range1 (by rfl) T.n_range (pa_cons (pv 1) pa_nil)) (pg_name (i := 4) sc_c_law_order.nd (by rfl) (Or.inl rfl)) (pss_one (ps_expr (pe_bm PySem.F.plainAttrs_list PySem.F.slot_list_append PySem.F.type_list_append mt_append (pv 3) (pa_cons (pe_bm PySem.F.plainAttrs_list PySem.F.slot_list_pop PySem.F.type_list_pop mt_popAt (pv 2) (pa_cons (pe_call G_c_law_take (hr.mono (by decide)) (by rfl) T.m_c_law_take T.F_c_law_take.kp T.b_c_law_take .nil passL (pa_cons (pv 0) (pa_cons (pe_callB call_len_seq (by rfl) T.n_len (by decide +kernel) (pa_cons (pv 2) pa_nil)) pa_nil))) pa_nil)) pa_nil)))))
    (pss_one (ps_ret (pv 3)))))), ?_⟩
    refine ⟨_, rfl, _, rfl, RgOk.of_le (by omega) (by omega) (by omega) (by omega), fun l hl => ?_⟩
    have e0 : rgV 0 (n : Int) = (List.range n).map fun (i : Nat) => V.int i := by
      unfold rgV
      rw [show ((n : Int) - 0).toNat = n by omega]
      exact List.map_congr_left fun i _ => by rw [Int.zero_add]
    rw [e0]
    have ndl : d ≠ l := ne_of_none hd hl
    refine ⟨by show 0 ≤ sizeLine; decide, fun f hf => ?_⟩
    have nfl : l ≠ f := by
      intro z
      rw [z, upd_same] at hf
      cases hf
    have ndf : d ≠ f := ne_of_none (by rw [upd_ne ndl]; exact hd) hf
    have hf0 : H f = none := by rw [upd_ne nfl.symm] at hf; exact hf
    refine ⟨_, rfl, n, rfl, by omega, by omega, for_range (lo := 0) (n := (n : Int).toNat) (fun i σ H' => ∃ (v4 : Option V) (D' : List Int) (left found : List Nat), σ = [some (.ref d), some (.int n), some (.ref l), some (.ref f), v4] ∧
      SameBut d H H' ∧ H' d = some (dk D') ∧ H' l = some (.lst (left.map fun (i : Nat) => V.int i)) ∧ H' f = some (.lst (found.map fun (i : Nat) => V.int i)) ∧ left.length + i = n ∧ (found ++ left).Perm (List.range n) ∧ found.length = i)
      ⟨_, D, List.range n, [], rfl, ?_, ?_, ?_, upd_same, by simp, by simp, rfl⟩ ?_ ?_⟩
    · intro b o nb hb
      rw [upd_ne (ne_of_none (by rw [upd_ne (ne_of_none hb hl)]; exact hb) hf), upd_ne (ne_of_none hb hl)]
      exact hb
    · rw [upd_ne ndf, upd_ne ndl]
      exact hd
    · rw [upd_ne nfl]
      exact upd_same
    · rintro i σ H' hi ⟨v4, D', left, found, rfl, sb, h1, h2, h3, h4, h5, h6⟩
      refine ⟨_, rfl, .inl ⟨rfl, _, SqL.of h3⟩, _, rfl, .inl ⟨rfl, _, SqL.of h2⟩, _, rfl, _, rfl, l, _, rfl, .inl (SqL.of h2), ?_⟩
      refine take_u h1 (by rw [List.length_map]; omega) ?_
      rw [List.length_map]
      have t0 := tk_nonneg D' (m := (left.length : Int)) (by omega)
      have t1 := tk_lt D' (m := (left.length : Int)) (by omega)
      obtain ⟨t, ht⟩ : ∃ t : Nat, tk D' (left.length : Int) = (t : Int) := ⟨(tk D' left.length).toNat, by omega⟩
      rw [ht] at t1 ⊢
      have hx := List.getElem?_eq_getElem (l := left) (i := t) (by omega)
      generalize left[t] = x at hx
      refine ⟨l, _, _, t, .int x, rfl, rfl, by rw [upd_ne ndl.symm]; exact h2, by omega, by omega, ?_, by rw [List.getElem?_map, hx]; rfl, ?_⟩
      · rw [List.length_map]
        exact (seqIndex_of (by omega) (by omega)).trans (by rw [Int.toNat_natCast])
      refine ⟨f, _, _, rfl, rfl, by rw [upd_ne nfl.symm, upd_ne ndf.symm]; exact h3, small1000000 (by rw [List.length_map]; omega), ?_⟩
      refine ⟨_, D'.tail, left.eraseIdx t, found ++ [x], rfl, ?_, ?_, ?_, ?_, ?_, ?_, by simp [h6]⟩
      · intro b o nb hb
        rw [upd_ne (ne_of_none hb hf0), upd_ne (ne_of_none hb hl), upd_ne nb]
        exact sb b o nb hb
      · rw [upd_ne ndf, upd_ne ndl, upd_same]
      · rw [upd_ne nfl, upd_same]
        simp [List.eraseIdx_eq_take_drop_succ, List.map_take, List.map_drop]
      · rw [upd_same, List.map_append]
        rfl
      · rw [List.length_eraseIdx, if_pos (by omega)]
        omega
      · refine List.Perm.trans ?_ h5
        rw [List.append_assoc]
        refine List.Perm.append_left _ ?_
        have hp : ∀ {ns : List Nat} {i : Nat} {x : Nat}, ns[i]? = some x → ns.Perm (x :: ns.eraseIdx i) := by
          intro ns
          induction ns with
          | nil => intro i x h; simp at h
          | cons a t ih =>
            intro i x h
            cases i with
            | zero => simp at h; subst h; exact List.Perm.refl _
            | succ i => exact ((ih (by simpa using h)).cons a).trans (List.Perm.swap ..)
        exact (hp hx).symm
    · rintro σ H' ⟨v4, D', left, found, rfl, sb, h1, h2, h3, h4, h5, h6⟩
      have hl0 : left = [] := List.length_eq_zero_iff.mp (by omega)
      rw [hl0, List.append_nil] at h5
      exact ⟨_, rfl, k H' D' f found sb h1 hf0 h3 h5⟩

theorem ok_c_law_plain_n {P : Program} {w : World} {K : PySem.W.Frag} {mg : Str → Option Value} {base : Heap} {a : Ad} (T : Txt K mg a) : ∀ n, FnOk P w K mg base (L2.CX P w) (n + 1) a.f_c_law_plain a.d_c_law_plain ["value"] (sp_c_law_plain K n) := by
  have step : ∀ n, (∀ m, m + 1 = n → FnOk P w K mg base (L2.CX P w) (m + 1) a.f_c_law_plain a.d_c_law_plain ["value"] (sp_c_law_plain K m)) → FnOk P w K mg base (L2.CX P w) (n + 1) a.f_c_law_plain a.d_c_law_plain ["value"] (sp_c_law_plain K n) := by
    intro n ih
    refine T.F_c_law_plain.okX sc_c_law_plain (fun vs H Q E h => ?_) (fun cdv A outer s H vs Q E hr h => ?_)
    · walk_at "len"
    · obtain ⟨v, d, rfl, hd, hok, k⟩ := h
      cases d with
      | dict _ => simp [okD] at hok
      | list ds =>
        cases n with
        | zero => simp [okD] at hok
        | succ n =>
        have IH := ih n rfl
        simp only [okD, Bool.and_eq_true, decide_eq_true_eq] at hok
        have hds := hok.1
        cases hd with
        | @lst aa xs _ hsq hall =>
        refine ⟨_, (pss_cons (ps_if (pt_val (pe_callB call_isiT (by rfl) T.n_isinstance (by decide +kernel) (pa_cons (pv 0) (pa_cons (pe_tup (pa_cons (pe_bltn (v := .ty "tuple") (by rfl) T.n_tuple (by decide +kernel) rfl) (pa_cons (pe_bltn (v := .ty "list") (by rfl) T.n_list (by decide +kernel) rfl) pa_nil))) pa_nil)))) (pss_one (ps_ret (pe_op op_cat (pe_lst (pa_cons (pe_callB call_isi (by rfl) T.n_isinstance (by decide +kernel) (pa_cons (pv 0) (pa_cons (pe_bltn (v := .ty "list") (by rfl) T.n_list (by decide +kernel) rfl) pa_nil))) pa_nil)) (pe_lcK (own := [("item", 1)]) (by rfl) sc_c_law_plain.nd (pi_list (pv 0)) (blkOk_by (own := [("item", 1)]) (N := ["value", "item"]) (sc := defScope st_c_law_plain) (by decide +kernel)) (fun _ _ _ _ _ => (pg_name (i := 1) sc_c_law_plain.nd (by rfl) (Or.inl rfl))) (fun _ _ _ _ _ => pts_nil) (fun _ _ _ _ _ => (pe_call IH (hr.mono (by omega)) (by rfl) T.m_c_law_plain T.F_c_law_plain.kp T.b_c_law_plain .nil passL (pa_cons (pv 1) pa_nil))) (by walk_at "blk") (by walk_at "blk") (by walk_at "blk"))))) pss_nil)
    (pss_cons (ps_if (PW.pt (pw_or (pt_cmpR op_isN (pv 0) pe_non (nomark _)) (pw_or1 (pt_val (pe_callB call_isi (by rfl) T.n_isinstance (by decide +kernel) (pa_cons (pv 0) (pa_cons (pe_bltn (v := .ty "bool") (by rfl) T.n_bool (by decide +kernel) rfl) pa_nil))))))) (pss_one (ps_ret (pe_ix ix_list (pe_lst (pa_cons pe_str (pa_cons pe_str (pa_cons pe_str pa_nil)))) (pe_op op_add (pe_callTy call_int1 (by rfl) T.n_int (by decide +kernel) (pa_cons (pe_cmpR op_notN (pv 0) pe_non (nomark _)) pa_nil)) (pe_callTy call_int1 (by rfl) T.n_int (by decide +kernel) (pa_cons (pe_cmpR op_isT (pv 0) pe_bl (nomark _)) pa_nil))) (fun _ _ => rfl)))) pss_nil)
    (pss_cons (ps_if (pt_val (pe_callB call_isiT (by rfl) T.n_isinstance (by decide +kernel) (pa_cons (pv 0) (pa_cons (pe_tup (pa_cons (pe_bltn (v := .ty "int") (by rfl) T.n_int (by decide +kernel) rfl) (pa_cons (pe_bltn (v := .ty "str") (by rfl) T.n_str (by decide +kernel) rfl) pa_nil))) pa_nil)))) (pss_one (ps_ret (pe_lst (pa_cons (pe_callB call_isi (by rfl) T.n_isinstance (by decide +kernel) (pa_cons (pv 0) (pa_cons (pe_bltn (v := .ty "str") (by rfl) T.n_str (by decide +kernel) rfl) pa_nil))) (pa_cons (pv 0) pa_nil))))) pss_nil)
    (pss_one (ps_ret pe_str))))), ?_⟩

        refine ⟨_, rfl, by show 2 ≤ sizeLine; decide, fun p hp => ?_⟩
        refine ⟨_, _, [.ty "tuple", .ty "list"], .type "list", _, _, rfl, upd_same, .cons (.ty "tuple") (.cons (.ty "list") .nil), ((kind_l hsq).new hp), kit2 (r1 := false) (r2 := true) (by decide +kernel) (by decide +kernel), ?_⟩
        refine ⟨_, rfl, ?_⟩
        refine iteT ?_
        have s1 : Same H (upd H p (.tup [.ty "tuple", .ty "list"])) := Same.new hp
        refine ⟨_, rfl, .ref aa, .ty "list", _, _, true, rfl, .ty "list", (kind_l hsq).new hp, kit_ty (by decide +kernel), ?_⟩
        refine ⟨by show 1 ≤ sizeLine; decide, fun l hl => ?_⟩
        have s2 := s1.then_new (o := .lst [.bl true]) hl
        have hl0 : H l = none := s1.free hl
        refine ⟨_, rfl, aa, rfl, ⟨_, Same.seq s2 hsq⟩, fun E' hE => ?_⟩
        have hE0 : H E' = none := s2.free hE
        have nlE : l ≠ E' := by
          intro z
          rw [z, upd_same] at hE
          cases hE
        refine lc_list (K := K) (a := aa) (xs := xs) (fun i H' => Same H H' ∧ H' l = some (.lst [.bl true]) ∧ ∃ acc, H' E' = some (.lst acc) ∧ DNs (fun b => H b = none ∧ b ≠ E' ∧ b ≠ l) H' acc (plainDs (ds.take i)) ∧ acc.length ≤ i)
          ⟨s2.then_new hE, by rw [upd_ne nlE]; exact upd_same, [], upd_same, by simp only [List.take_zero, plainDs]; exact .nil, Nat.le_refl _⟩ (fun i H' _ q => Same.seq q.1 hsq) ?_ ?_
        · rintro i x H' hi ⟨s3, h3, acc, ha, hn, hz⟩
          obtain ⟨dx, hdx, hx⟩ := dpAll_get hall hi
          have hi1 : i < ds.length := (List.getElem?_eq_some_iff.mp hdx).1
          refine ⟨rfl, ?_⟩
          refine ⟨_, rfl, x, dx, rfl, dp_same s3 dx x hx, okDs_get hok.2 hdx, fun v' H'' s4 hv => ?_⟩
          have hE2 := s4 _ _ ha
          have nn : ∀ b, H' b = none → H b = none ∧ b ≠ E' ∧ b ≠ l := fun b hb => ⟨s3.free hb, (fun z => by rw [z, ha] at hb; cases hb), (fun z => by rw [z, h3] at hb; cases hb)⟩
          refine ⟨acc, hE2, small1000000 (by omega), (s3.trans s4).mut hE0, by rw [upd_ne nlE]; exact s4 _ _ h3, acc ++ [v'], upd_same, ?_, by rw [List.length_append]; show _ + 1 ≤ _; omega⟩
          rw [plainDs_take hdx]
          exact DNs.snoc (DN.mono nn (fun b o hb e => by rw [upd_ne (nn b hb).2.1]; exact e) _ _ hv) (DNs.mono (fun _ z => z) (fun b o hb e => by rw [upd_ne hb.2.1]; exact s4 _ _ e) _ _ hn)
        · rintro H' ⟨s3, h3, acc, ha, hn, hz⟩
          have el : ds.take xs.length = ds := by rw [dpAll_length hall, List.take_length]
          rw [el] at hn
          have hlen : acc.length ≤ 1000 := by have := dpAll_length hall; omega
          refine ⟨l, E', _, _, rfl, rfl, h3, ha, Nat.le_of_lt (small1000000 (by show 1 + _ ≤ _; omega)), fun r hr' => ?_⟩
          have hr0 : H r = none := s3.free hr'
          refine k _ _ (s3.then_new hr') ?_
          simp only [plainD]
          refine .lst hr0 upd_same (.cons (.bl _) (DNs.mono (fun b z => z.1) (fun b o hb e => ?_) _ _ hn))
          rw [upd_ne (ne_of_none e hr')]
          exact e

      | tuple ds =>
        cases n with
        | zero => simp [okD] at hok
        | succ n =>
        have IH := ih n rfl
        simp only [okD, Bool.and_eq_true, decide_eq_true_eq] at hok
        have hds := hok.1
        cases hd with
        | @tup aa xs _ hsq hall =>
        refine ⟨_, (pss_cons (ps_if (pt_val (pe_callB call_isiT (by rfl) T.n_isinstance (by decide +kernel) (pa_cons (pv 0) (pa_cons (pe_tup (pa_cons (pe_bltn (v := .ty "tuple") (by rfl) T.n_tuple (by decide +kernel) rfl) (pa_cons (pe_bltn (v := .ty "list") (by rfl) T.n_list (by decide +kernel) rfl) pa_nil))) pa_nil)))) (pss_one (ps_ret (pe_op op_cat (pe_lst (pa_cons (pe_callB call_isi (by rfl) T.n_isinstance (by decide +kernel) (pa_cons (pv 0) (pa_cons (pe_bltn (v := .ty "list") (by rfl) T.n_list (by decide +kernel) rfl) pa_nil))) pa_nil)) (pe_lcK (own := [("item", 1)]) (by rfl) sc_c_law_plain.nd (pi_tup (pv 0)) (blkOk_by (own := [("item", 1)]) (N := ["value", "item"]) (sc := defScope st_c_law_plain) (by decide +kernel)) (fun _ _ _ _ _ => (pg_name (i := 1) sc_c_law_plain.nd (by rfl) (Or.inl rfl))) (fun _ _ _ _ _ => pts_nil) (fun _ _ _ _ _ => (pe_call IH (hr.mono (by omega)) (by rfl) T.m_c_law_plain T.F_c_law_plain.kp T.b_c_law_plain .nil passL (pa_cons (pv 1) pa_nil))) (by walk_at "blk") (by walk_at "blk") (by walk_at "blk"))))) pss_nil)
    (pss_cons (ps_if (PW.pt (pw_or (pt_cmpR op_isN (pv 0) pe_non (nomark _)) (pw_or1 (pt_val (pe_callB call_isi (by rfl) T.n_isinstance (by decide +kernel) (pa_cons (pv 0) (pa_cons (pe_bltn (v := .ty "bool") (by rfl) T.n_bool (by decide +kernel) rfl) pa_nil))))))) (pss_one (ps_ret (pe_ix ix_list (pe_lst (pa_cons pe_str (pa_cons pe_str (pa_cons pe_str pa_nil)))) (pe_op op_add (pe_callTy call_int1 (by rfl) T.n_int (by decide +kernel) (pa_cons (pe_cmpR op_notN (pv 0) pe_non (nomark _)) pa_nil)) (pe_callTy call_int1 (by rfl) T.n_int (by decide +kernel) (pa_cons (pe_cmpR op_isT (pv 0) pe_bl (nomark _)) pa_nil))) (fun _ _ => rfl)))) pss_nil)
    (pss_cons (ps_if (pt_val (pe_callB call_isiT (by rfl) T.n_isinstance (by decide +kernel) (pa_cons (pv 0) (pa_cons (pe_tup (pa_cons (pe_bltn (v := .ty "int") (by rfl) T.n_int (by decide +kernel) rfl) (pa_cons (pe_bltn (v := .ty "str") (by rfl) T.n_str (by decide +kernel) rfl) pa_nil))) pa_nil)))) (pss_one (ps_ret (pe_lst (pa_cons (pe_callB call_isi (by rfl) T.n_isinstance (by decide +kernel) (pa_cons (pv 0) (pa_cons (pe_bltn (v := .ty "str") (by rfl) T.n_str (by decide +kernel) rfl) pa_nil))) (pa_cons (pv 0) pa_nil))))) pss_nil)
    (pss_one (ps_ret pe_str))))), ?_⟩

        refine ⟨_, rfl, by show 2 ≤ sizeLine; decide, fun p hp => ?_⟩
        refine ⟨_, _, [.ty "tuple", .ty "list"], .type "tuple", _, _, rfl, upd_same, .cons (.ty "tuple") (.cons (.ty "list") .nil), ((kind_t hsq).new hp), kit2 (r1 := true) (r2 := false) (by decide +kernel) (by decide +kernel), ?_⟩
        refine ⟨_, rfl, ?_⟩
        refine iteT ?_
        have s1 : Same H (upd H p (.tup [.ty "tuple", .ty "list"])) := Same.new hp
        refine ⟨_, rfl, .ref aa, .ty "list", _, _, false, rfl, .ty "list", (kind_t hsq).new hp, kit_ty (by decide +kernel), ?_⟩
        refine ⟨by show 1 ≤ sizeLine; decide, fun l hl => ?_⟩
        have s2 := s1.then_new (o := .lst [.bl false]) hl
        have hl0 : H l = none := s1.free hl
        refine ⟨_, rfl, aa, rfl, ⟨_, Same.tup s2 hsq⟩, fun E' hE => ?_⟩
        have hE0 : H E' = none := s2.free hE
        have nlE : l ≠ E' := by
          intro z
          rw [z, upd_same] at hE
          cases hE
        refine lc_tup (K := K) (a := aa) (xs := xs) (fun i H' => Same H H' ∧ H' l = some (.lst [.bl false]) ∧ ∃ acc, H' E' = some (.lst acc) ∧ DNs (fun b => H b = none ∧ b ≠ E' ∧ b ≠ l) H' acc (plainDs (ds.take i)) ∧ acc.length ≤ i)
          ⟨s2.then_new hE, by rw [upd_ne nlE]; exact upd_same, [], upd_same, by simp only [List.take_zero, plainDs]; exact .nil, Nat.le_refl _⟩ (fun i H' _ q => Same.tup q.1 hsq) ?_ ?_
        · rintro i x H' hi ⟨s3, h3, acc, ha, hn, hz⟩
          obtain ⟨dx, hdx, hx⟩ := dpAll_get hall hi
          have hi1 : i < ds.length := (List.getElem?_eq_some_iff.mp hdx).1
          refine ⟨rfl, ?_⟩
          refine ⟨_, rfl, x, dx, rfl, dp_same s3 dx x hx, okDs_get hok.2 hdx, fun v' H'' s4 hv => ?_⟩
          have hE2 := s4 _ _ ha
          have nn : ∀ b, H' b = none → H b = none ∧ b ≠ E' ∧ b ≠ l := fun b hb => ⟨s3.free hb, (fun z => by rw [z, ha] at hb; cases hb), (fun z => by rw [z, h3] at hb; cases hb)⟩
          refine ⟨acc, hE2, small1000000 (by omega), (s3.trans s4).mut hE0, by rw [upd_ne nlE]; exact s4 _ _ h3, acc ++ [v'], upd_same, ?_, by rw [List.length_append]; show _ + 1 ≤ _; omega⟩
          rw [plainDs_take hdx]
          exact DNs.snoc (DN.mono nn (fun b o hb e => by rw [upd_ne (nn b hb).2.1]; exact e) _ _ hv) (DNs.mono (fun _ z => z) (fun b o hb e => by rw [upd_ne hb.2.1]; exact s4 _ _ e) _ _ hn)
        · rintro H' ⟨s3, h3, acc, ha, hn, hz⟩
          have el : ds.take xs.length = ds := by rw [dpAll_length hall, List.take_length]
          rw [el] at hn
          have hlen : acc.length ≤ 1000 := by have := dpAll_length hall; omega
          refine ⟨l, E', _, _, rfl, rfl, h3, ha, Nat.le_of_lt (small1000000 (by show 1 + _ ≤ _; omega)), fun r hr' => ?_⟩
          have hr0 : H r = none := s3.free hr'
          refine k _ _ (s3.then_new hr') ?_
          simp only [plainD]
          refine .lst hr0 upd_same (.cons (.bl _) (DNs.mono (fun b z => z.1) (fun b o hb e => ?_) _ _ hn))
          rw [upd_ne (ne_of_none e hr')]
          exact e

      | none =>
        cases hd
        refine ⟨_, (pss_cons (ps_if (pt_val (pe_callB call_isiT (by rfl) T.n_isinstance (by decide +kernel) (pa_cons (pv 0) (pa_cons (pe_tup (pa_cons (pe_bltn (v := .ty "tuple") (by rfl) T.n_tuple (by decide +kernel) rfl) (pa_cons (pe_bltn (v := .ty "list") (by rfl) T.n_list (by decide +kernel) rfl) pa_nil))) pa_nil)))) (pss_one ps_never) pss_nil)
    (pss_cons (ps_if (PW.pt (pw_or (pt_cmpR op_isN (pv 0) pe_non (nomark _)) (pw_or1 (pt_val (pe_callB call_isi (by rfl) T.n_isinstance (by decide +kernel) (pa_cons (pv 0) (pa_cons (pe_bltn (v := .ty "bool") (by rfl) T.n_bool (by decide +kernel) rfl) pa_nil))))))) (pss_one (ps_ret (pe_ix ix_list (pe_lst (pa_cons pe_str (pa_cons pe_str (pa_cons pe_str pa_nil)))) (pe_op op_add (pe_callTy call_int1 (by rfl) T.n_int (by decide +kernel) (pa_cons (pe_cmpR op_notN (pv 0) pe_non (nomark _)) pa_nil)) (pe_callTy call_int1 (by rfl) T.n_int (by decide +kernel) (pa_cons (pe_cmpR op_isT (pv 0) pe_bl (nomark _)) pa_nil))) (fun _ _ => rfl)))) pss_nil)
    (pss_cons (ps_if (pt_val (pe_callB call_isiT (by rfl) T.n_isinstance (by decide +kernel) (pa_cons (pv 0) (pa_cons (pe_tup (pa_cons (pe_bltn (v := .ty "int") (by rfl) T.n_int (by decide +kernel) rfl) (pa_cons (pe_bltn (v := .ty "str") (by rfl) T.n_str (by decide +kernel) rfl) pa_nil))) pa_nil)))) (pss_one (ps_ret (pe_lst (pa_cons (pe_callB call_isi (by rfl) T.n_isinstance (by decide +kernel) (pa_cons (pv 0) (pa_cons (pe_bltn (v := .ty "str") (by rfl) T.n_str (by decide +kernel) rfl) pa_nil))) (pa_cons (pv 0) pa_nil))))) pss_nil)
    (pss_one (ps_ret pe_str))))), ?_⟩

        refine ⟨_, rfl, by show 2 ≤ sizeLine; decide, fun p hp => ?_⟩
        refine ⟨_, _, [.ty "tuple", .ty "list"], .type "NoneType", _, _, rfl, upd_same, .cons (.ty "tuple") (.cons (.ty "list") .nil), (.base .non), kit2 (r1 := false) (r2 := false) (by decide +kernel) (by decide +kernel), ?_⟩
        refine ⟨_, rfl, ?_⟩
        refine iteF ?_
        have s1 : Same H (upd H p (.tup [.ty "tuple", .ty "list"])) := Same.new hp

        refine ⟨_, rfl, rfl, _, rfl, ?_⟩
        refine iteT ?_
        refine iteT ?_
        refine ⟨by show 3 ≤ sizeLine; decide, fun l hl => ?_⟩
        refine ⟨_, rfl, rfl, .inr ⟨_, rfl, ?_⟩⟩
        refine ⟨_, rfl, .inr ⟨rfl, _, rfl, .inr ⟨_, rfl, ?_⟩⟩⟩
        refine ⟨_, _, rfl, rfl, ?_⟩
        refine ⟨l, _, _, _, rfl, rfl, SqL.of upd_same, atI_nat' (j := 0) (by decide) rfl, ?_⟩
        exact k _ _ (s1.then_new hl) (by simp only [plainD]; exact .str _)
      | bool b =>
        cases hd
        refine ⟨_, (pss_cons (ps_if (pt_val (pe_callB call_isiT (by rfl) T.n_isinstance (by decide +kernel) (pa_cons (pv 0) (pa_cons (pe_tup (pa_cons (pe_bltn (v := .ty "tuple") (by rfl) T.n_tuple (by decide +kernel) rfl) (pa_cons (pe_bltn (v := .ty "list") (by rfl) T.n_list (by decide +kernel) rfl) pa_nil))) pa_nil)))) (pss_one ps_never) pss_nil)
    (pss_cons (ps_if (PW.pt (pw_or (pt_cmpR op_isN (pv 0) pe_non (nomark _)) (pw_or1 (pt_val (pe_callB call_isi (by rfl) T.n_isinstance (by decide +kernel) (pa_cons (pv 0) (pa_cons (pe_bltn (v := .ty "bool") (by rfl) T.n_bool (by decide +kernel) rfl) pa_nil))))))) (pss_one (ps_ret (pe_ix ix_list (pe_lst (pa_cons pe_str (pa_cons pe_str (pa_cons pe_str pa_nil)))) (pe_op op_add (pe_callTy call_int1 (by rfl) T.n_int (by decide +kernel) (pa_cons (pe_cmpR op_notN (pv 0) pe_non (nomark _)) pa_nil)) (pe_callTy call_int1 (by rfl) T.n_int (by decide +kernel) (pa_cons (pe_cmpR op_isT (pv 0) pe_bl (nomark _)) pa_nil))) (fun _ _ => rfl)))) pss_nil)
    (pss_cons (ps_if (pt_val (pe_callB call_isiT (by rfl) T.n_isinstance (by decide +kernel) (pa_cons (pv 0) (pa_cons (pe_tup (pa_cons (pe_bltn (v := .ty "int") (by rfl) T.n_int (by decide +kernel) rfl) (pa_cons (pe_bltn (v := .ty "str") (by rfl) T.n_str (by decide +kernel) rfl) pa_nil))) pa_nil)))) (pss_one (ps_ret (pe_lst (pa_cons (pe_callB call_isi (by rfl) T.n_isinstance (by decide +kernel) (pa_cons (pv 0) (pa_cons (pe_bltn (v := .ty "str") (by rfl) T.n_str (by decide +kernel) rfl) pa_nil))) (pa_cons (pv 0) pa_nil))))) pss_nil)
    (pss_one (ps_ret pe_str))))), ?_⟩

        refine ⟨_, rfl, by show 2 ≤ sizeLine; decide, fun p hp => ?_⟩
        refine ⟨_, _, [.ty "tuple", .ty "list"], .type "bool", _, _, rfl, upd_same, .cons (.ty "tuple") (.cons (.ty "list") .nil), (.base (.bl _)), kit2 (r1 := false) (r2 := false) (by decide +kernel) (by decide +kernel), ?_⟩
        refine ⟨_, rfl, ?_⟩
        refine iteF ?_
        have s1 : Same H (upd H p (.tup [.ty "tuple", .ty "list"])) := Same.new hp

        refine ⟨_, rfl, rfl, _, rfl, ?_⟩
        refine iteF ?_
        refine ⟨_, rfl, _, .ty "bool", _, _, true, rfl, .ty "bool", .base (.bl _), kit_ty (by decide +kernel), _, rfl, ?_⟩
        refine iteT ?_
        refine ⟨by show 3 ≤ sizeLine; decide, fun l hl => ?_⟩
        refine ⟨_, rfl, rfl, .inr ⟨_, rfl, ?_⟩⟩
        refine ⟨_, rfl, .inl ⟨_, _, rfl, rfl, .inr ⟨_, rfl, ?_⟩⟩⟩
        refine ⟨_, _, rfl, rfl, ?_⟩
        cases b
        · refine ⟨l, _, _, _, rfl, rfl, SqL.of upd_same, atI_nat' (j := 1) (by decide) rfl, ?_⟩
          exact k _ _ (s1.then_new hl) (by simp only [plainD]; exact .str _)
        · refine ⟨l, _, _, _, rfl, rfl, SqL.of upd_same, atI_nat' (j := 2) (by decide) rfl, ?_⟩
          exact k _ _ (s1.then_new hl) (by simp only [plainD]; exact .str _)
      | int i =>
        cases hd
        refine ⟨_, (pss_cons (ps_if (pt_val (pe_callB call_isiT (by rfl) T.n_isinstance (by decide +kernel) (pa_cons (pv 0) (pa_cons (pe_tup (pa_cons (pe_bltn (v := .ty "tuple") (by rfl) T.n_tuple (by decide +kernel) rfl) (pa_cons (pe_bltn (v := .ty "list") (by rfl) T.n_list (by decide +kernel) rfl) pa_nil))) pa_nil)))) (pss_one ps_never) pss_nil)
    (pss_cons (ps_if (PW.pt (pw_or (pt_cmpR op_isN (pv 0) pe_non (nomark _)) (pw_or1 (pt_val (pe_callB call_isi (by rfl) T.n_isinstance (by decide +kernel) (pa_cons (pv 0) (pa_cons (pe_bltn (v := .ty "bool") (by rfl) T.n_bool (by decide +kernel) rfl) pa_nil))))))) (pss_one (ps_ret (pe_ix ix_list (pe_lst (pa_cons pe_str (pa_cons pe_str (pa_cons pe_str pa_nil)))) (pe_op op_add (pe_callTy call_int1 (by rfl) T.n_int (by decide +kernel) (pa_cons (pe_cmpR op_notN (pv 0) pe_non (nomark _)) pa_nil)) (pe_callTy call_int1 (by rfl) T.n_int (by decide +kernel) (pa_cons (pe_cmpR op_isT (pv 0) pe_bl (nomark _)) pa_nil))) (fun _ _ => rfl)))) pss_nil)
    (pss_cons (ps_if (pt_val (pe_callB call_isiT (by rfl) T.n_isinstance (by decide +kernel) (pa_cons (pv 0) (pa_cons (pe_tup (pa_cons (pe_bltn (v := .ty "int") (by rfl) T.n_int (by decide +kernel) rfl) (pa_cons (pe_bltn (v := .ty "str") (by rfl) T.n_str (by decide +kernel) rfl) pa_nil))) pa_nil)))) (pss_one (ps_ret (pe_lst (pa_cons (pe_callB call_isi (by rfl) T.n_isinstance (by decide +kernel) (pa_cons (pv 0) (pa_cons (pe_bltn (v := .ty "str") (by rfl) T.n_str (by decide +kernel) rfl) pa_nil))) (pa_cons (pv 0) pa_nil))))) pss_nil)
    (pss_one (ps_ret pe_str))))), ?_⟩

        refine ⟨_, rfl, by show 2 ≤ sizeLine; decide, fun p hp => ?_⟩
        refine ⟨_, _, [.ty "tuple", .ty "list"], .type "int", _, _, rfl, upd_same, .cons (.ty "tuple") (.cons (.ty "list") .nil), (.base (.int _)), kit2 (r1 := false) (r2 := false) (by decide +kernel) (by decide +kernel), ?_⟩
        refine ⟨_, rfl, ?_⟩
        refine iteF ?_
        have s1 : Same H (upd H p (.tup [.ty "tuple", .ty "list"])) := Same.new hp

        refine ⟨_, rfl, rfl, _, rfl, ?_⟩
        refine iteF ?_
        refine ⟨_, rfl, _, .ty "bool", _, _, false, rfl, .ty "bool", .base (.int _), kit_ty (by decide +kernel), _, rfl, ?_⟩
        refine iteF ?_
        refine ⟨_, rfl, by show 2 ≤ sizeLine; decide, fun q hq => ?_⟩
        refine ⟨_, _, [.ty "int", .ty "str"], .type "int", _, _, rfl, upd_same, .cons (.ty "int") (.cons (.ty "str") .nil), (.base (.int _)), kit2 (r1 := true) (r2 := false) (by decide +kernel) (by decide +kernel), ?_⟩
        refine ⟨_, rfl, ?_⟩
        refine iteT ?_
        have s2 := s1.then_new (o := .tup [.ty "int", .ty "str"]) hq
        refine ⟨_, rfl, _, .ty "str", _, _, false, rfl, .ty "str", .base (.int _), kit_ty (by decide +kernel), ?_⟩
        refine ⟨_, rfl, by show 2 ≤ sizeLine; decide, fun l hl => ?_⟩
        refine k _ _ (s2.then_new hl) ?_
        simp only [plainD]
        exact .lst (s2.free hl) upd_same (.cons (.bl _) (.cons (.int _) .nil))
      | str i =>
        cases hd
        refine ⟨_, (pss_cons (ps_if (pt_val (pe_callB call_isiT (by rfl) T.n_isinstance (by decide +kernel) (pa_cons (pv 0) (pa_cons (pe_tup (pa_cons (pe_bltn (v := .ty "tuple") (by rfl) T.n_tuple (by decide +kernel) rfl) (pa_cons (pe_bltn (v := .ty "list") (by rfl) T.n_list (by decide +kernel) rfl) pa_nil))) pa_nil)))) (pss_one ps_never) pss_nil)
    (pss_cons (ps_if (PW.pt (pw_or (pt_cmpR op_isN (pv 0) pe_non (nomark _)) (pw_or1 (pt_val (pe_callB call_isi (by rfl) T.n_isinstance (by decide +kernel) (pa_cons (pv 0) (pa_cons (pe_bltn (v := .ty "bool") (by rfl) T.n_bool (by decide +kernel) rfl) pa_nil))))))) (pss_one (ps_ret (pe_ix ix_list (pe_lst (pa_cons pe_str (pa_cons pe_str (pa_cons pe_str pa_nil)))) (pe_op op_add (pe_callTy call_int1 (by rfl) T.n_int (by decide +kernel) (pa_cons (pe_cmpR op_notN (pv 0) pe_non (nomark _)) pa_nil)) (pe_callTy call_int1 (by rfl) T.n_int (by decide +kernel) (pa_cons (pe_cmpR op_isT (pv 0) pe_bl (nomark _)) pa_nil))) (fun _ _ => rfl)))) pss_nil)
    (pss_cons (ps_if (pt_val (pe_callB call_isiT (by rfl) T.n_isinstance (by decide +kernel) (pa_cons (pv 0) (pa_cons (pe_tup (pa_cons (pe_bltn (v := .ty "int") (by rfl) T.n_int (by decide +kernel) rfl) (pa_cons (pe_bltn (v := .ty "str") (by rfl) T.n_str (by decide +kernel) rfl) pa_nil))) pa_nil)))) (pss_one (ps_ret (pe_lst (pa_cons (pe_callB call_isi (by rfl) T.n_isinstance (by decide +kernel) (pa_cons (pv 0) (pa_cons (pe_bltn (v := .ty "str") (by rfl) T.n_str (by decide +kernel) rfl) pa_nil))) (pa_cons (pv 0) pa_nil))))) pss_nil)
    (pss_one (ps_ret pe_str))))), ?_⟩

        refine ⟨_, rfl, by show 2 ≤ sizeLine; decide, fun p hp => ?_⟩
        refine ⟨_, _, [.ty "tuple", .ty "list"], .type "str", _, _, rfl, upd_same, .cons (.ty "tuple") (.cons (.ty "list") .nil), (.base (.str _)), kit2 (r1 := false) (r2 := false) (by decide +kernel) (by decide +kernel), ?_⟩
        refine ⟨_, rfl, ?_⟩
        refine iteF ?_
        have s1 : Same H (upd H p (.tup [.ty "tuple", .ty "list"])) := Same.new hp

        refine ⟨_, rfl, rfl, _, rfl, ?_⟩
        refine iteF ?_
        refine ⟨_, rfl, _, .ty "bool", _, _, false, rfl, .ty "bool", .base (.str _), kit_ty (by decide +kernel), _, rfl, ?_⟩
        refine iteF ?_
        refine ⟨_, rfl, by show 2 ≤ sizeLine; decide, fun q hq => ?_⟩
        refine ⟨_, _, [.ty "int", .ty "str"], .type "str", _, _, rfl, upd_same, .cons (.ty "int") (.cons (.ty "str") .nil), (.base (.str _)), kit2 (r1 := false) (r2 := true) (by decide +kernel) (by decide +kernel), ?_⟩
        refine ⟨_, rfl, ?_⟩
        refine iteT ?_
        have s2 := s1.then_new (o := .tup [.ty "int", .ty "str"]) hq
        refine ⟨_, rfl, _, .ty "str", _, _, true, rfl, .ty "str", .base (.str _), kit_ty (by decide +kernel), ?_⟩
        refine ⟨_, rfl, by show 2 ≤ sizeLine; decide, fun l hl => ?_⟩
        refine k _ _ (s2.then_new hl) ?_
        simp only [plainD]
        exact .lst (s2.free hl) upd_same (.cons (.bl _) (.cons (.str _) .nil))
  intro n
  induction n with
  | zero => exact step 0 fun m e => by omega
  | succ n ih => exact step (n + 1) fun m e => by have : m = n := by omega
                                                  subst this
                                                  exact ih
theorem ok_c_law_plain {P : Program} {w : World} {K : PySem.W.Frag} {mg : Str → Option Value} {base : Heap} {a : Ad} (T : Txt K mg a) : FnOk P w K mg base (L2.CX P w) 5 a.f_c_law_plain a.d_c_law_plain ["value"] (sp_c_law_plain K 4) := ok_c_law_plain_n T 4

theorem ok_c_InvalidTable_init {P : Program} {w : World} {K : PySem.W.Frag} {mg : Str → Option Value} {base : Heap} {a : Ad} (T : Txt K mg a) : FnOk P w K mg base (L2.CX P w) 1 a.f_c_InvalidTable_init a.d_c_InvalidTable_init ["self", "what"] (sp_exinit a.C_InvalidTable) := by
  refine T.F_c_InvalidTable_init.okX sc_c_InvalidTable_init (fun vs H Q E h => ?_) (fun cdv A outer s H vs Q E hr h => ?_)
  · walk_at "len"
  · obtain ⟨x, wd, rfl, hx, hl, k⟩ := h
    refine ⟨_, (pss_cons (ps_expr (pe_binit T.bc_SlotError (by rfl) T.m_SlotError (pa_cons (pv 0) (pa_cons (pe_op op_add_str pe_str (pv 1)) pa_nil))))
    (pss_one (ps_ost (pv 0) (pv 1)))), ?_⟩
    refine ⟨_, rfl, _, rfl, _, _, rfl, rfl, by have := small1000000 (n := 1000) (by decide); show _ + wd.length ≤ _; exact Nat.le_of_lt (Nat.lt_of_le_of_lt (Nat.add_le_add_left hl _) (small1000000 (by decide +kernel))), ?_⟩
    refine ⟨x, _, _, rfl, by show 1 ≤ 1000; decide, T.ox_InvalidTable, hx, ?_⟩
    refine ⟨_, rfl, _, rfl, x, _, rfl, T.ox_InvalidTable, T.no_InvalidTable_what, .inl ⟨hx, fun dx n ne => k dx n ne⟩⟩
theorem ok_c_check_values {P : Program} {w : World} {K : PySem.W.Frag} {mg : Str → Option Value} {base : Heap} {a : Ad} (T : Txt K mg a) : FnOk P w K mg base (L2.CX P w) 3 a.f_c_check_values a.d_c_check_values ["values"] (sp_c_check_values K a.C_InvalidTable) := by
  have G_c_InvalidTable_init : FnOk P w K mg base (L2.CX P w) 1 a.f_c_InvalidTable_init a.d_c_InvalidTable_init ["self", "what"] (sp_exinit a.C_InvalidTable) := ok_c_InvalidTable_init T
  refine T.F_c_check_values.okX sc_c_check_values (fun vs H Q E h => ?_) (fun cdv A outer s H vs Q E hr h => ?_)
  · rw [sp_c_check_values_eq] at h
    walk_at "len"
  · rw [sp_c_check_values_eq] at h
    obtain ⟨q, ns, rfl, hq, k0, k1⟩ := h
    refine ⟨_, (pss_one (ps_if (pt_not (pt_truth (pv 0) (by intro _; rfl))) (pss_one (ps_raise rfl (takes_of rfl rfl rfl rfl) (pmk_oex T.ox_InvalidTable T.in_InvalidTable T.ti_InvalidTable G_c_InvalidTable_init (hr.mono (by decide)) T.b_c_InvalidTable_init .nil passL (by rfl) T.m_InvalidTable (pa_cons pe_str pa_nil)))) pss_nil)), ?_⟩
    refine ⟨_, rfl, !ns.isEmpty, .inl ⟨_, hq, by cases ns <;> rfl⟩, ?_⟩
    cases ns with
    | nil => exact ⟨by show 1 ≤ 1000; decide, raise_ok (k0 rfl) (by decide +kernel)⟩
    | cons x t => exact k1 (by simp)
theorem ok_c_InvalidMoney_init {P : Program} {w : World} {K : PySem.W.Frag} {mg : Str → Option Value} {base : Heap} {a : Ad} (T : Txt K mg a) : FnOk P w K mg base (L2.CX P w) 1 a.f_c_InvalidMoney_init a.d_c_InvalidMoney_init ["self", "what"] (sp_exinit a.C_InvalidMoney) := by
  refine T.F_c_InvalidMoney_init.okX sc_c_InvalidMoney_init (fun vs H Q E h => ?_) (fun cdv A outer s H vs Q E hr h => ?_)
  · walk_at "len"
  · obtain ⟨x, wd, rfl, hx, hl, k⟩ := h
    refine ⟨_, (pss_cons (ps_expr (pe_binit T.bc_SlotError (by rfl) T.m_SlotError (pa_cons (pv 0) (pa_cons (pe_op op_add_str pe_str (pv 1)) pa_nil))))
    (pss_one (ps_ost (pv 0) (pv 1)))), ?_⟩
    refine ⟨_, rfl, _, rfl, _, _, rfl, rfl, by have := small1000000 (n := 1000) (by decide); show _ + wd.length ≤ _; exact Nat.le_of_lt (Nat.lt_of_le_of_lt (Nat.add_le_add_left hl _) (small1000000 (by decide +kernel))), ?_⟩
    refine ⟨x, _, _, rfl, by show 1 ≤ 1000; decide, T.ox_InvalidMoney, hx, ?_⟩
    refine ⟨_, rfl, _, rfl, x, _, rfl, T.ox_InvalidMoney, T.no_InvalidMoney_what, .inl ⟨hx, fun dx n ne => k dx n ne⟩⟩
theorem ok_c_fraction {P : Program} {w : World} {K : PySem.W.Frag} {mg : Str → Option Value} {base : Heap} {a : Ad} (T : Txt K mg a) : FnOk P w K mg base (L2.CX P w) 3 a.f_c_fraction a.d_c_fraction ["above", "below"] (sp_c_fraction a.C_InvalidMoney) := by
  have G_c_InvalidMoney_init : FnOk P w K mg base (L2.CX P w) 1 a.f_c_InvalidMoney_init a.d_c_InvalidMoney_init ["self", "what"] (sp_exinit a.C_InvalidMoney) := ok_c_InvalidMoney_init T
  refine T.F_c_fraction.okX sc_c_fraction (fun vs H Q E h => ?_) (fun cdv A outer s H vs Q E hr h => ?_)
  · walk_at "len"
  · obtain ⟨x, y, rfl, hy, k0, k1⟩ := h
    refine ⟨_, (pss_cons (ps_if (pt_cmpR op_eq (pv 1) pe_int (nomark _)) (pss_one (ps_raise rfl (takes_of rfl rfl rfl rfl) (pmk_oex T.ox_InvalidMoney T.in_InvalidMoney T.ti_InvalidMoney G_c_InvalidMoney_init (hr.mono (by decide)) T.b_c_InvalidMoney_init .nil passL (by rfl) T.m_InvalidMoney (pa_cons pe_str pa_nil)))) pss_nil)
    (pss_cons (ps_set (i := 2) sc_c_fraction.nd (by rfl) (Or.inl rfl) (pe_callBfun cr_gcd (by rfl) T.i_gcd (pa_cons (pv 0) (pa_cons (pv 1) pa_nil))))
    (pss_cons (ps_if (pt_cmpR op_lt (pv 1) pe_int (nomark _)) (pss_one (ps_set (i := 2) sc_c_fraction.nd (by rfl) (Or.inl rfl) (pe_un un_neg (pv 2)))) pss_nil)
    (pss_one (ps_ret (pe_tup (pa_cons (pe_op op_fdivZ (pv 0) (pv 2)) (pa_cons (pe_op op_fdivZ (pv 1) (pv 2)) pa_nil)))))))), ?_⟩
    refine ⟨_, rfl, rfl, _, rfl, ?_⟩
    refine ite2 (fun c => ?_) (fun c => ?_)
    · have c' : y = 0 := by simpa using c
      exact ⟨by show 1 ≤ 1000; decide, raise_ok (k0 c') (by decide +kernel)⟩
    · have c' : y ≠ 0 := by simpa using c
      refine ⟨_, rfl, _, rfl, _, _, rfl, ?_⟩
      refine ⟨_, rfl, _, _, rfl, rfl, _, rfl, ?_⟩
      have kk := k1 c'
      unfold frA frB frC at kk
      refine ite2 (fun n => ?_) (fun n => ?_)
      · have n' : y < 0 := by simpa using n
        rw [if_pos n'] at kk
        refine ⟨_, rfl, _, rfl, ?_⟩
        exact ⟨_, rfl, _, rfl, _, _, rfl, rfl, (gcd_cdiv x c' hy).2, _, rfl, _, rfl, _, _, rfl, rfl, (gcd_cdiv y c' hy).2, by show 2 ≤ sizeLine; decide, kk⟩
      · have n' : ¬ y < 0 := by simpa using n
        rw [if_neg n'] at kk
        exact ⟨_, rfl, _, rfl, _, _, rfl, rfl, (gcd_cdiv x c' hy).1, _, rfl, _, rfl, _, _, rfl, rfl, (gcd_cdiv y c' hy).1, by show 2 ≤ sizeLine; decide, kk⟩
theorem ok_c_evenness {P : Program} {w : World} {K : PySem.W.Frag} {mg : Str → Option Value} {base : Heap} {a : Ad} (T : Txt K mg a) : FnOk P w K mg base (L2.CX P w) 4 a.f_c_evenness a.d_c_evenness ["values"] (sp_c_evenness K a.C_InvalidTable) := by
  have G_c_InvalidTable_init : FnOk P w K mg base (L2.CX P w) 1 a.f_c_InvalidTable_init a.d_c_InvalidTable_init ["self", "what"] (sp_exinit a.C_InvalidTable) := ok_c_InvalidTable_init T
  have G_c_check_values : FnOk P w K mg base (L2.CX P w) 3 a.f_c_check_values a.d_c_check_values ["values"] (sp_c_check_values K a.C_InvalidTable) := ok_c_check_values T
  have G_c_fraction : FnOk P w K mg base (L2.CX P w) 3 a.f_c_fraction a.d_c_fraction ["above", "below"] (sp_c_fraction a.C_InvalidMoney) := ok_c_fraction T
  refine T.F_c_evenness.okX sc_c_evenness (fun vs H Q E h => ?_) (fun cdv A outer s H vs Q E hr h => ?_)
  · rw [sp_c_evenness_eq] at h
    walk_at "len"
  · rw [sp_c_evenness_eq] at h
    obtain ⟨q, ns, rfl, hq, hl1000, k0, k1, k2⟩ := h
    refine ⟨_, (pss_cons (ps_expr (pe_callS G_c_check_values (hr.mono (by decide)) (by rfl) T.m_c_check_values T.F_c_check_values.kp T.b_c_check_values (fun σ => passAt (takes_of rfl rfl rfl rfl) σ) (pa_cons (pv 0) pa_nil)))
    (pss_cons (ps_if (pt_val (pe_callB (cr_any rfl) (by rfl) T.n_any (by decide +kernel) (pa_cons (pe_lcK (own := [("value", 4)]) (by rfl) sc_c_evenness.nd (pi_list (pv 0)) (blkOk_by (own := [("value", 4)]) (N := ["values", "total", "rows", "above", "value", "at"]) (sc := defScope st_c_evenness) (by decide +kernel)) (fun _ _ _ _ _ => (pg_name (i := 4) sc_c_evenness.nd (by rfl) (Or.inl rfl))) (fun _ _ _ _ _ => pts_nil) (fun _ _ _ _ _ => (pe_cmpR op_lt (pv 4) pe_int (nomark _))) (by walk_at "blk") (by walk_at "blk") (by walk_at "blk")) pa_nil))) (pss_one (ps_raise rfl (takes_of rfl rfl rfl rfl) (pmk_oex T.ox_InvalidTable T.in_InvalidTable T.ti_InvalidTable G_c_InvalidTable_init (hr.mono (by decide)) T.b_c_InvalidTable_init .nil passL (by rfl) T.m_InvalidTable (pa_cons pe_str pa_nil)))) pss_nil)
    (pss_cons (ps_set (i := 1) sc_c_evenness.nd (by rfl) (Or.inl rfl) (pe_callB (cr_sum rfl) (by rfl) T.n_sum (by decide +kernel) (pa_cons (pv 0) pa_nil)))
    (pss_cons (ps_if (pt_cmpR op_eq (pv 1) pe_int (nomark _)) (pss_one (ps_ret (pe_tup (pa_cons pe_int (pa_cons pe_int pa_nil))))) pss_nil)
    (pss_cons (ps_set (i := 2) sc_c_evenness.nd (by rfl) (Or.inr rfl) (pe_callB cr_sortedI (by rfl) T.n_sorted (by decide +kernel) (pa_cons (pv 0) pa_nil)))
    (pss_cons (ps_set (i := 3) sc_c_evenness.nd (by rfl) (Or.inl rfl) (pe_callB (cr_sum rfl) (by rfl) T.n_sum (by decide +kernel) (pa_cons (pe_lcK (own := [("at", 5), ("value", 4)]) (by rfl) sc_c_evenness.nd (pi_enum (by rfl) T.n_enumerate (pa_cons (pv 2) pa_nil)) (blkOk_by (own := [("at", 5), ("value", 4)]) (N := ["values", "total", "rows", "above", "value", "at"]) (sc := defScope st_c_evenness) (by decide +kernel)) (fun _ _ _ _ _ => (pg_tup (n := 2) (by rfl) (pgs_cons (pg_name (i := 5) sc_c_evenness.nd (by rfl) (Or.inl rfl)) (pgs_cons (pg_name (i := 4) sc_c_evenness.nd (by rfl) (Or.inl rfl)) pgs_nil)))) (fun _ _ _ _ _ => pts_nil) (fun _ _ _ _ _ => (pe_op op_mulW (pe_op op_sub (pe_op op_add (pe_op op_mulW pe_int (pv 5)) pe_int) (pe_callB call_len_seq (by rfl) T.n_len (by decide +kernel) (pa_cons (pv 2) pa_nil))) (pv 4))) (by walk_at "blk") (by walk_at "blk") (by walk_at "blk")) pa_nil)))
    (pss_one (ps_ret (pe_callS G_c_fraction (hr.mono (by decide)) (by rfl) T.m_c_fraction T.F_c_fraction.kp T.b_c_fraction (fun σ => passAt (takes_of rfl rfl rfl rfl) σ) (pa_cons (pv 3) (pa_cons (pe_op op_mulW (pe_callB call_len_seq (by rfl) T.n_len (by decide +kernel) (pa_cons (pv 2) pa_nil)) (pv 1)) pa_nil))))))))))), ?_⟩
    refine ⟨_, rfl, sp_c_check_values_use ⟨q, ns, rfl, hq, k0, fun hne => ?_⟩⟩
    have hlen0 : 0 < ns.length := List.length_pos_iff.mpr hne
    refine ⟨_, rfl, q, rfl, ⟨_, hq⟩, fun E1 hE1 => ?_⟩
    refine lc_fn walk_list (fun i => some (.bl (decide (ns.getD i 0 < 0)))) (by rw [List.length_map]; omega) hE1 (fun H s => s.seq hq) ?_ ?_
    · rintro i x H1 H2 R N hi s1 ⟨rfl, hx⟩ hR hN
      obtain ⟨z, hz, rfl⟩ := ints_get hx
      refine ⟨rfl, ?_⟩
      refine ⟨_, rfl, _, _, rfl, rfl, hR _ _ ?_ (Same.refl _)⟩
      rw [List.getD_eq_getElem?_getD, hz]
      rfl
    intro H1 s1 hE
    rw [fm_some, List.length_map, range_at ns (fun v => V.bl (decide (v < 0))) _ (fun i x e => by rw [List.getD_eq_getElem?_getD, e]; rfl)] at hE
    refine ⟨E1, ns.map fun v => decide (v < 0), rfl, SqL.of (by rw [hE, List.map_map]; rfl), _, rfl, ?_⟩
    have hany : (ns.map fun v => decide (v < 0)).any id = !valOk ns := by
      rw [valOk, List.any_map, List.all_eq_not_any_not, Bool.not_not]
      congr 1
      funext v
      show decide (v < 0) = !decide (0 ≤ v)
      by_cases z : v < 0
      · rw [decide_eq_true z, decide_eq_false (by omega)]
        rfl
      · rw [decide_eq_false z, decide_eq_true (show 0 ≤ v by omega)]
        rfl
    rw [hany]
    refine ite2 (fun c => ⟨by show 1 ≤ 1000; decide, raise_ok ((k1 hne (by simpa using c)).mono s1) (by decide +kernel)⟩) (fun c => ?_)
    have hv : valOk ns = true := by simpa using c
    obtain ⟨hs, k⟩ := k2 hne hv
    obtain ⟨b1, b2⟩ := small_nat hs hv
    refine ⟨_, rfl, q, ns, rfl, s1.seq hq, ?_⟩
    refine ⟨_, rfl, rfl, _, rfl, ?_⟩
    refine ite2 (fun c => ?_) (fun c => ?_)
    · have c' : ns.sum = 0 := V.int.inj (of_decide_eq_true c)
      refine ⟨by show 2 ≤ sizeLine; decide, fun p hp => k _ p (s1.then_new hp) (s1.free hp) ?_⟩
      rw [upd_same, evA, evB, if_pos c', if_pos c']
    have c' : ns.sum ≠ 0 := fun z => c (decide_eq_true (congrArg V.int z))
    refine ⟨_, rfl, q, ns, rfl, s1.seq hq, fun rows p hperm hsort hp => ?_⟩
    have s2 := s1.then_new (o := .lst (rows.map V.int)) hp
    have hlr : rows.length = ns.length := hperm.length_eq
    have hP : (upd H1 p (.lst (rows.map V.int))) p = some (.lst (rows.map V.int)) := upd_same
    generalize upd H1 p (.lst (rows.map V.int)) = H2 at s2 hP
    have l0 := hs.1
    refine ⟨_, rfl, p, rows.map V.int, rfl, SqL.of hP, fun E2 hE2 => ?_⟩
    refine lc_fn walk_enum (fun i => some (.int ((2 * (i : Int) + 1 - rows.length) * rows.getD i 0))) (by rw [List.length_map]; omega) hE2 (fun H s => s.seq (SqL.of hP)) ?_ ?_
    · rintro i x H3 H4 R N hi s3 ⟨T, x1, x2, rfl, hT, rfl, hx1, hx2⟩ hR hN
      obtain ⟨z, hz, rfl⟩ := ints_get hx2
      cases hx1
      have hi' : i < 1000 := by rw [List.length_map] at hi; omega
      have hzm : z ∈ ns := hperm.mem_iff.mp (List.mem_of_getElem? hz)
      have z0 := valOk_iff.mp hv z hzm
      have z1 := hs.2 z hzm
      refine ⟨T, _, rfl, SqT.of upd_same, rfl, _, _, rfl, _, _, rfl, rfl, rfl, ?_⟩
      refine ⟨_, rfl, _, _, rfl, rfl, wide_mul (a := 2) (b := 20) (by decide) (by omega) (by decide) (by decide) (by decide), _, _, rfl, rfl, ?_⟩
      refine ⟨_, rfl, p, _, rfl, .inl (SqL.of (Same.new hT _ _ (s3 _ _ hP))), _, _, rfl, rfl, _, rfl, _, _, rfl, rfl, wide_mul (a := 20) (b := 141) (by rw [List.length_map]; omega) ?_ (by decide) (by decide) (by decide), hR _ _ ?_ (Same.new hT)⟩
      · have : (2 : Int) ^ 140 < 2 ^ 141 := by decide
        omega
      · rw [List.length_map, List.getD_eq_getElem?_getD, hz]
        rfl
    intro H3 s3 hE
    rw [fm_some, List.length_map] at hE
    have hsum : ((List.range rows.length).map fun (i : Nat) => (2 * (i : Int) + 1 - rows.length) * rows.getD i 0).sum = wsum (1 - rows.length) rows := by
      rw [← wsum_range]
      congr 1
      exact List.map_congr_left fun i _ => by rw [show 2 * (i : Int) + (1 - rows.length) = 2 * i + 1 - rows.length by omega]
    refine ⟨E2, (List.range rows.length).map fun (i : Nat) => (2 * (i : Int) + 1 - rows.length) * rows.getD i 0, rfl, SqL.of (by rw [hE, List.map_map]; rfl), ?_⟩
    rw [hsum]
    have n20 : (((rows.map V.int).length : Nat) : Int).natAbs < 2 ^ 20 := by rw [List.length_map]; omega
    refine ⟨_, rfl, _, rfl, p, _, rfl, .inl (SqL.of (s3 _ _ hP)), _, rfl, _, _, rfl, rfl, wide_mul (a := 20) (b := 151) n20 b1 (by decide) (by decide) (by decide), ?_⟩
    have hpos : 0 < (ns.length : Int) * ns.sum := Int.mul_pos (by omega) (by omega)
    have e : (((rows.map V.int).length : Nat) : Int) * ns.sum = ns.length * ns.sum := by rw [List.length_map, hlr]
    refine ⟨_, _, rfl, Nat.lt_of_lt_of_le (wide_lt n20 b1) (Nat.pow_le_pow_right (by decide) (by decide)), fun z => absurd z (by rw [e]; omega), fun _ r hr => k _ r ((s2.trans s3).then_new hr) ((s2.trans s3).free hr) ?_⟩
    have g : gaps ns = 2 * wsum (1 - rows.length) rows := by rw [← gaps_perm hperm, gini hsort]
    obtain ⟨f1, f2⟩ := fr_scale (k := 2) (x := wsum (1 - rows.length) rows) (y := ns.length * ns.sum) (by decide)
    rw [upd_same, evA, evB, if_neg c', if_neg c', g, f1, f2, e]
theorem ok_c_law_why {P : Program} {w : World} {K : PySem.W.Frag} {mg : Str → Option Value} {base : Heap} {a : Ad} (T : Txt K mg a) : FnOk P w K mg base (L2.CX P w) 5 a.f_c_law_why a.d_c_law_why ["values"] (sp_c_law_why K) := by
  have G_c_evenness : FnOk P w K mg base (L2.CX P w) 4 a.f_c_evenness a.d_c_evenness ["values"] (sp_c_evenness K a.C_InvalidTable) := ok_c_evenness T
  refine T.F_c_law_why.okX sc_c_law_why (fun vs H Q E h => ?_) (fun cdv A outer s H vs Q E hr h => ?_)
  · rw [sp_c_law_why_eq] at h
    walk_at "len"
  · rw [sp_c_law_why_eq] at h
    obtain ⟨q, ns, wd, rfl, hq, hl1000, hc, k⟩ := h
    refine ⟨_, (pss_cons (ps_try_as (i := 1) (Wout := fun _ _ _ _ => False) rfl rfl sc_c_law_why.nd (by rfl) (by rfl) ⟨by rfl, by decide, .inl T.m_SlotError⟩ takes0
    (fun W pn xe tk po => (pss_one (ps_expr (pe_callS G_c_evenness (hr.mono (by decide)) (by rfl) T.m_c_evenness T.F_c_evenness.kp T.b_c_evenness (fun σ => passAt tk σ) (pa_cons (pv 0) pa_nil)))))
    (fun ae oe cls dx pn hz hf => (pss_cons (ps_if (PW.pt (pw_and (pt_val (pe_callB (call_isX hz hf) (by rfl) T.n_isinstance (by decide +kernel) (pa_cons (pv 1) (pa_cons (pe_glob (v := .ref a.C_InvalidTable) (by rfl) T.m_InvalidTable rfl) pa_nil)))) (pw_and1 (pt_not (pt_val (pe_callB (call_isX hz hf) (by rfl) T.n_isinstance (by decide +kernel) (pa_cons (pv 1) (pa_cons (pe_glob (v := .ref a.C_InvalidTime) (by rfl) T.m_InvalidTime rfl) pa_nil)))))))) (pss_one (ps_ret (pe_xf T.xf_InvalidTable T.no_InvalidTable_what hz hf (pv 1)))) pss_nil)
    (pss_one (ps_ret pe_str)))))
    (pss_one (ps_ret pe_non))), ?_⟩
    refine ⟨_, rfl, sp_c_evenness_use ⟨q, ns, rfl, hq, hl1000, fun z => ?_, fun z1 z2 => ?_, fun z1 z2 => ?_⟩⟩
    · have e : wd = "values" := by
        rcases hc with hc | hc
        · exact hc.2
        · exact absurd z hc.1
      subst e
      intro d H' s1 hd
      refine ⟨true, T.em_InvalidTable_SlotError, fun _ ae _ => ?_, fun z => nomatch z⟩
      refine ⟨_, rfl, _, _, true, d, _, rfl, rfl, T.is_InvalidTable, rfl, hd, T.kt_InvalidTable_InvalidTable, true, rfl, ?_⟩
      refine ⟨_, rfl, _, _, false, d, _, rfl, rfl, T.is_InvalidTable, rfl, hd, T.kt_InvalidTable_InvalidTime, _, rfl, ?_⟩
      exact ⟨_, rfl, rfl, rfl, d, _, _, rfl, hd, rfl, k H' s1⟩
    · have e : wd = "negative" := by
        rcases hc with hc | hc
        · exact absurd hc.1 z1
        · exact hc.2.2
      subst e
      intro d H' s1 hd
      refine ⟨true, T.em_InvalidTable_SlotError, fun _ ae _ => ?_, fun z => nomatch z⟩
      refine ⟨_, rfl, _, _, true, d, _, rfl, rfl, T.is_InvalidTable, rfl, hd, T.kt_InvalidTable_InvalidTable, true, rfl, ?_⟩
      refine ⟨_, rfl, _, _, false, d, _, rfl, rfl, T.is_InvalidTable, rfl, hd, T.kt_InvalidTable_InvalidTime, _, rfl, ?_⟩
      exact ⟨_, rfl, rfl, rfl, d, _, _, rfl, hd, rfl, k H' s1⟩
    · exfalso
      rcases hc with hc | hc
      · exact z1 hc.1
      · rw [hc.2.1] at z2
        cases z2
theorem ok_c_law {P : Program} {w : World} {K : PySem.W.Frag} {mg : Str → Option Value} {base : Heap} {a : Ad} (T : Txt K mg a) : FnOk P w K mg base (L2.CX P w) 6 a.f_c_law a.d_c_law ["script"] (sp_c_law K) := by
  have G_c_law_deck : FnOk P w K mg base (L2.CX P w) 1 a.f_c_law_deck a.d_c_law_deck ["script", "cells", "each"] (sp_c_law_deck K) := ok_c_law_deck T
  have G_c_law_even : FnOk P w K mg base (L2.CX P w) 3 a.f_c_law_even a.d_c_law_even ["values"] (sp_c_law_even K) := ok_c_law_even T
  have G_c_law_number : FnOk P w K mg base (L2.CX P w) 2 a.f_c_law_number a.d_c_law_number ["deck"] (sp_c_law_number) := ok_c_law_number T
  have G_c_law_order : FnOk P w K mg base (L2.CX P w) 2 a.f_c_law_order a.d_c_law_order ["deck", "size"] (sp_c_law_order) := ok_c_law_order T
  have G_c_law_plain : FnOk P w K mg base (L2.CX P w) 5 a.f_c_law_plain a.d_c_law_plain ["value"] (sp_c_law_plain K 4) := ok_c_law_plain T
  have G_c_law_take : FnOk P w K mg base (L2.CX P w) 1 a.f_c_law_take a.d_c_law_take ["deck", "many"] (sp_c_law_take) := ok_c_law_take T
  have G_c_law_why : FnOk P w K mg base (L2.CX P w) 5 a.f_c_law_why a.d_c_law_why ["values"] (sp_c_law_why K) := ok_c_law_why T
  have G_c_evenness : FnOk P w K mg base (L2.CX P w) 4 a.f_c_evenness a.d_c_evenness ["values"] (sp_c_evenness K a.C_InvalidTable) := ok_c_evenness T
  refine T.F_c_law.okX sc_c_law (fun vs H Q E h => ?_) (fun cdv A outer s H vs Q E hr h => ?_)
  · walk_at "len"
  · obtain ⟨sa, ns, rfl, hS, hlen, k⟩ := h
    refine ⟨_, (pss_cons (ps_set (i := 1) sc_c_law.nd (by rfl) (Or.inr rfl) (pe_call G_c_law_deck (hr.mono (by decide)) (by rfl) T.m_c_law_deck T.F_c_law_deck.kp T.b_c_law_deck .nil passL (pa_cons (pv 0) (pa_cons pe_int (pa_cons pe_int pa_nil)))))
    (pss_cons (ps_set (i := 2) sc_c_law.nd (by rfl) (Or.inr rfl) (pe_lcK (own := [("turn", 13)]) (by rfl) sc_c_law.nd (pi_range1 (by rfl) T.n_range (pa_cons (pe_op op_add pe_int (pe_call G_c_law_take (hr.mono (by decide)) (by rfl) T.m_c_law_take T.F_c_law_take.kp T.b_c_law_take .nil passL (pa_cons (pv 1) (pa_cons pe_int pa_nil)))) pa_nil)) (blkOk_by (own := [("turn", 13)]) (N := ["script", "deck", "values", "due", "handed", "factor", "order", "high", "low", "gift", "given", "above", "below", "turn", "at"]) (sc := defScope st_c_law) (by decide +kernel)) (fun _ _ _ _ _ => (pg_name (i := 13) sc_c_law.nd (by rfl) (Or.inl rfl))) (fun _ _ _ _ _ => pts_nil) (fun _ _ _ _ _ => (pe_ix ix_list (pe_lst (pa_cons pe_int (pa_cons (pe_call G_c_law_take (hr.mono (by decide)) (by rfl) T.m_c_law_take T.F_c_law_take.kp T.b_c_law_take .nil passL (pa_cons (pv 1) (pa_cons pe_int pa_nil))) (pa_cons (pe_call G_c_law_take (hr.mono (by decide)) (by rfl) T.m_c_law_take T.F_c_law_take.kp T.b_c_law_take .nil passL (pa_cons (pv 1) (pa_cons pe_int pa_nil))) (pa_cons (pe_callB call_abs (by rfl) T.n_abs (by decide +kernel) (pa_cons (pe_call G_c_law_number (hr.mono (by decide)) (by rfl) T.m_c_law_number T.F_c_law_number.kp T.b_c_law_number .nil passL (pa_cons (pv 1) pa_nil)) pa_nil)) pa_nil))))) (pe_call G_c_law_take (hr.mono (by decide)) (by rfl) T.m_c_law_take T.F_c_law_take.kp T.b_c_law_take .nil passL (pa_cons (pv 1) (pa_cons pe_int pa_nil))) (fun _ _ => rfl))) (by walk_at "blk") (by walk_at "blk") (by walk_at "blk")))
    (pss_cons (ps_set (i := 3) sc_c_law.nd (by rfl) (Or.inl rfl) (pe_call G_c_law_even (hr.mono (by decide)) (by rfl) T.m_c_law_even T.F_c_law_even.kp T.b_c_law_even .nil passL (pa_cons (pv 2) pa_nil)))
    (pss_cons (ps_set (i := 4) sc_c_law.nd (by rfl) (Or.inl rfl) (pe_callTy call_list_of (by rfl) T.n_list (by decide +kernel) (pa_cons (pv 2) pa_nil)))
    (Evl.pss_cut (ps_if (PW.pt (pw_or (pt_cmpR (op_neD hr.units) (pe_call G_c_law_plain (hr.mono (by decide)) (by rfl) T.m_c_law_plain T.F_c_law_plain.kp T.b_c_law_plain .nil passL (pa_cons (pe_call G_c_evenness (hr.mono (by decide)) (by rfl) T.m_c_evenness T.F_c_evenness.kp T.b_c_evenness .nil passL (pa_cons (pv 4) pa_nil)) pa_nil)) (pe_call G_c_law_plain (hr.mono (by decide)) (by rfl) T.m_c_law_plain T.F_c_law_plain.kp T.b_c_law_plain .nil passL (pa_cons (pv 3) pa_nil)) (nomark _)) (pw_or1 (pt_cmpR (op_neD hr.units) (pv 4) (pv 2) (nomark _))))) (pss_one (ps_ret pe_bl)) pss_nil)
    (Evl.pss_cut (ps_if (PW.pt (pw_or (pt_cmpR op_lt (pe_ix ix_tup (pv 3) pe_int (fun _ _ => rfl)) pe_int (nomark _)) (pw_or (pt_cmpR op_ge (pe_ix ix_tup (pv 3) pe_int (fun _ _ => rfl)) (pe_ix ix_tup (pv 3) pe_int (fun _ _ => rfl)) (nomark _)) (pw_or1 (pt_cmpR op_ne (pe_cmpR op_eq (pe_ix ix_tup (pv 3) pe_int (fun _ _ => rfl)) pe_int (nomark _)) (pe_cmpR op_eq (pe_callB (cr_min rfl) (by rfl) T.n_min (by decide +kernel) (pa_cons (pv 2) pa_nil)) (pe_callB (cr_max rfl) (by rfl) T.n_max (by decide +kernel) (pa_cons (pv 2) pa_nil)) (nomark _)) (nomark _)))))) (pss_one (ps_ret pe_bl)) pss_nil)
    (pss_cons (ps_set (i := 5) sc_c_law.nd (by rfl) (Or.inr rfl) (pe_op op_add pe_int (pe_call G_c_law_take (hr.mono (by decide)) (by rfl) T.m_c_law_take T.F_c_law_take.kp T.b_c_law_take .nil passL (pa_cons (pv 1) (pa_cons pe_int pa_nil)))))
    (pss_cons (ps_set (i := 6) sc_c_law.nd (by rfl) (Or.inl rfl) (pe_call G_c_law_order (hr.mono (by decide)) (by rfl) T.m_c_law_order T.F_c_law_order.kp T.b_c_law_order .nil passL (pa_cons (pv 1) (pa_cons (pe_callB call_len_seq (by rfl) T.n_len (by decide +kernel) (pa_cons (pv 2) pa_nil)) pa_nil))))
    (Evl.pss_cut (ps_if (pt_cmpR (op_neD hr.units) (pe_call G_c_law_plain (hr.mono (by decide)) (by rfl) T.m_c_law_plain T.F_c_law_plain.kp T.b_c_law_plain .nil passL (pa_cons (pe_call G_c_evenness (hr.mono (by decide)) (by rfl) T.m_c_evenness T.F_c_evenness.kp T.b_c_evenness .nil passL (pa_cons (pe_lcK (own := [("at", 14)]) (by rfl) sc_c_law.nd (pi_list (pv 6)) (blkOk_by (own := [("at", 14)]) (N := ["script", "deck", "values", "due", "handed", "factor", "order", "high", "low", "gift", "given", "above", "below", "turn", "at"]) (sc := defScope st_c_law) (by decide +kernel)) (fun _ _ _ _ _ => (pg_name (i := 14) sc_c_law.nd (by rfl) (Or.inl rfl))) (fun _ _ _ _ _ => pts_nil) (fun _ _ _ _ _ => (pe_op op_mulW (pv 5) (pe_ix ix_list (pv 2) (pv 14) (fun _ _ => rfl)))) (by walk_at "blk") (by walk_at "blk") (by walk_at "blk")) pa_nil)) pa_nil)) (pe_call G_c_law_plain (hr.mono (by decide)) (by rfl) T.m_c_law_plain T.F_c_law_plain.kp T.b_c_law_plain .nil passL (pa_cons (pv 3) pa_nil)) (nomark _)) (pss_one (ps_ret pe_bl)) pss_nil)
    (pss_cons (ps_set (i := 7) sc_c_law.nd (by rfl) (Or.inl rfl) (pe_bm PySem.F.plainAttrs_list PySem.F.slot_list_index PySem.F.type_list_index mt_index (pv 2) (pa_cons (pe_callB (cr_max rfl) (by rfl) T.n_max (by decide +kernel) (pa_cons (pv 2) pa_nil)) pa_nil)))
    (pss_cons (ps_set (i := 8) sc_c_law.nd (by rfl) (Or.inl rfl) (pe_bm PySem.F.plainAttrs_list PySem.F.slot_list_index PySem.F.type_list_index mt_index (pv 2) (pa_cons (pe_callB (cr_min rfl) (by rfl) T.n_min (by decide +kernel) (pa_cons (pv 2) pa_nil)) pa_nil)))
    (Evl.pss_cut (ps_set (i := 9) sc_c_law.nd (by rfl) (Or.inl rfl) (pe_ifExp (pt_cmpR op_lt (pe_op op_sub (pe_ix ix_list (pv 2) (pv 7) (fun _ _ => rfl)) (pe_ix ix_list (pv 2) (pv 8) (fun _ _ => rfl))) pe_int (nomark _)) (pe_call G_c_law_take (hr.mono (by decide)) (by rfl) T.m_c_law_take T.F_c_law_take.kp T.b_c_law_take .nil passL (pa_cons (pv 1) (pa_cons (pe_op op_add (pe_op op_fdiv (pe_op op_sub (pe_ix ix_list (pv 2) (pv 7) (fun _ _ => rfl)) (pe_ix ix_list (pv 2) (pv 8) (fun _ _ => rfl))) pe_int) pe_int) pa_nil))) pe_int))
    (pss_cons (ps_set (i := 10) sc_c_law.nd (by rfl) (Or.inl rfl) (pe_callTy call_list_of (by rfl) T.n_list (by decide +kernel) (pa_cons (pv 2) pa_nil)))
    (pss_cons (ps_asg (pe_op op_sub (pe_ix ix_list (pv 10) (pv 7) (fun _ _ => rfl)) (pv 9)) (pg_sub (pv 10) (pv 7) set_list))
    (pss_cons (ps_asg (pe_op op_add (pe_ix ix_list (pv 10) (pv 8) (fun _ _ => rfl)) (pv 9)) (pg_sub (pv 10) (pv 8) set_list))
    (pss_cons (ps_asg (pe_call G_c_evenness (hr.mono (by decide)) (by rfl) T.m_c_evenness T.F_c_evenness.kp T.b_c_evenness .nil passL (pa_cons (pv 10) pa_nil)) (pg_tup (n := 2) (by rfl) (pgs_cons (pg_name (i := 11) sc_c_law.nd (by rfl) (Or.inl rfl)) (pgs_cons (pg_name (i := 12) sc_c_law.nd (by rfl) (Or.inl rfl)) pgs_nil))))
    (pss_cons (ps_if (pt_cmpR op_gt (pe_op op_mulW (pv 11) (pe_ix ix_tup (pv 3) pe_int (fun _ _ => rfl))) (pe_op op_mulW (pe_ix ix_tup (pv 3) pe_int (fun _ _ => rfl)) (pv 12)) (nomark _)) (pss_one (ps_ret pe_bl)) pss_nil)
    (pss_one (ps_ret (pe_cmpR (op_eqD hr.units) (pe_lst (pa_cons (pe_call G_c_law_why (hr.mono (by decide)) (by rfl) T.m_c_law_why T.F_c_law_why.kp T.b_c_law_why .nil passL (pa_cons (pe_lst pa_nil) pa_nil)) (pa_cons (pe_call G_c_law_why (hr.mono (by decide)) (by rfl) T.m_c_law_why T.F_c_law_why.kp T.b_c_law_why .nil passL (pa_cons (pe_op op_cat (pv 2) (pe_lst (pa_cons (pe_un un_neg pe_int) pa_nil))) pa_nil)) (pa_cons (pe_call G_c_law_why (hr.mono (by decide)) (by rfl) T.m_c_law_why T.F_c_law_why.kp T.b_c_law_why .nil passL (pa_cons (pe_lst (pa_cons (pe_un un_neg pe_int) pa_nil)) pa_nil)) pa_nil)))) (pe_lst (pa_cons pe_str (pa_cons pe_str (pa_cons pe_str pa_nil)))) (nomark _))))))))))))))))))))), ?_⟩
    refine ⟨_, rfl, sa, ns, 30, 14, rfl, hS, by omega, by decide, by decide, by decide, by decide, fun D0 p H0 hp s0 hd0 => ?_⟩
    have K0 : Dk (fun _ => none) H0 p D0 := ⟨rfl, same_none, hd0⟩
    -- values
    refine ⟨_, rfl, take_q K0 (by decide) fun n H1 n0 n1 K1 => ?_⟩
    refine ⟨_, _, rfl, rfl, _, rfl, by omega, by omega, fun E1 hE1 => ?_⟩
    have hp1 : p ≠ E1 := ne_of_none K1.hd hE1
    refine lc_range (lo := 0) (n := (1 + n).toNat) (fun i H' => ∃ (vs : List Int) (D : List Int), Dk (fun _ => none) H' p D ∧ H' E1 = some (.lst (vs.map V.int)) ∧ vs.length = i ∧ ∀ v ∈ vs, 0 ≤ v ∧ v < 2 ^ 135) ?_ ?_ ?_
    · exact ⟨[], _, (K1.same (Same.new hE1)), upd_same, rfl, fun v hv => by cases hv⟩
    · rintro i H2 hi ⟨vs, D, K2, hE, hvl, hvv⟩
      refine ⟨rfl, ?_⟩
      have K2 := K2.add hE hp1.symm
      have hEG : (upd (fun _ => none) E1 (.lst (vs.map V.int)) : Hp) E1 = some (.lst (vs.map V.int)) := upd_same
      generalize (upd (fun _ => none) E1 (.lst (vs.map V.int)) : Hp) = G0 at K2 hEG
      refine ⟨_, rfl, take_q K2 (by decide) fun a1 H3 a10 a11 K3 => ?_⟩
      refine ⟨_, rfl, take_q K3 (by decide) fun a2 H4 a20 a21 K4 => ?_⟩
      refine ⟨_, rfl, number_q K4 fun m D5 H5 hm K5 => ?_⟩
      refine ⟨_, rfl, by show 4 ≤ sizeLine; decide, fun l hl => ⟨_, rfl, ?_⟩⟩
      refine pick K5 hl [0, a1, a2, if m < 0 then -m else m] (Nat.succ_pos _) fun z H6 hz K6 => ?_
      refine ⟨_, K6.sm _ _ hEG, small1000000 (by rw [List.length_map]; omega), vs ++ [z], _, ⟨rfl, same_none, by rw [upd_ne hp1]; exact K6.hd⟩, by rw [upd_same, List.map_append]; rfl, by rw [List.length_append, hvl]; rfl, fun v hv => ?_⟩
      rcases List.mem_append.mp hv with q | q
      · exact hvv v q
      · rw [List.mem_singleton] at q
        subst q
        have e130 : (2 : Nat) ^ 130 = (2 ^ 130 : Int).natAbs := by decide
        have e135 : (2 : Int) ^ 130 < 2 ^ 135 := by decide
        have e10 : (1000 : Int) < 2 ^ 135 := by decide
        simp only [List.mem_cons, List.not_mem_nil, or_false] at hz
        rcases hz with rfl | rfl | rfl | rfl
        · omega
        · omega
        · omega
        · split <;> omega
    rintro H2 ⟨vs, D, K2, hE, hvl, hvv⟩
    have hl0 : 0 < vs.length := by omega
    have hl8 : vs.length ≤ 8 := by omega
    have hne : vs ≠ [] := List.length_pos_iff.mp hl0
    have hv : valOk vs = true := valOk_iff.mpr fun v hv => (hvv v hv).1
    have e140 : (2 : Int) ^ 135 < 2 ^ 140 := by decide
    have hs : small vs := ⟨by omega, fun v hv => by have := (hvv v hv).2; omega⟩
    have K3 := K2.add hE hp1.symm
    have hEG : (upd (fun _ => none) E1 (.lst (vs.map V.int)) : Hp) E1 = some (.lst (vs.map V.int)) := upd_same
    generalize (upd (fun _ => none) E1 (.lst (vs.map V.int)) : Hp) = G0 at K3 hEG
    have hev : ∀ {q : Addr} {ws : List Int} {H : Hp} {Q : VK}, SqL K H q (ws.map V.int) → ws ≠ [] → valOk ws = true → small ws → (∀ H' r, Same H H' → H r = none → H' r = some (.tup [.int (evA ws), .int (evB ws)]) → Q (.ref r) H') → sp_c_evenness K a.C_InvalidTable [.ref q] H Q E0 :=
      fun h1 h2 h3 h4 k => sp_c_evenness_use ⟨_, _, rfl, h1, h4.1, fun z => absurd z h2, fun _ z => absurd (h3.symm.trans z) (by decide), fun _ _ => ⟨h4, k⟩⟩
    -- due
    refine ⟨_, rfl, sp_c_law_even_use ⟨E1, vs, rfl, SqL.of (K3.sm _ _ hEG), hne, hv, hs, fun H4 du s4 f4 e4 => ?_⟩⟩
    have K4 := K3.same s4
    have ndu : du ≠ p := (ne_of_none K3.hd f4).symm
    have K5 := K4.add e4 ndu
    have sG1 : Same G0 (upd G0 du (.tup [.int (evA vs), .int (evB vs)])) := Same.new (K3.fresh f4)
    have hEG := sG1 _ _ hEG
    have hdu : (upd G0 du (.tup [.int (evA vs), .int (evB vs)]) : Hp) du = _ := upd_same
    generalize upd G0 du (.tup [.int (evA vs), .int (evB vs)]) = G1 at K5 hEG hdu
    -- handed
    refine ⟨_, rfl, E1, _, rfl, .inl (SqL.of (K5.sm _ _ hEG)), fun lh hlh => ?_⟩
    have K6 := K5.new (o := .lst (vs.map V.int)) hlh
    have sG2 : Same G1 (upd G1 lh (.lst (vs.map V.int))) := Same.new (K5.fresh hlh)
    have hEG := sG2 _ _ hEG
    have hdu := sG2 _ _ hdu
    have hlG : (upd G1 lh (.lst (vs.map V.int)) : Hp) lh = _ := upd_same
    generalize (upd G1 lh (.lst (vs.map V.int)) : Hp) = G2 at K6 hEG hdu hlG
    have okP : okD 4 (.tuple [.int (evA vs), .int (evB vs)]) = true := by simp [okD, okDs]
    refine ⟨fun σ H' => σ = [some (.ref sa), some (.ref p), some (.ref E1), some (.ref du), some (.ref lh), none, none, none, none, none, none, none, none, none, none] ∧ Dk G2 H' p D, ?_, ?_⟩
    · refine ⟨_, rfl, hev (SqL.of (K6.sm _ _ hlG)) hne hv hs fun H7 r7 s7 f7 e7 => ?_⟩
      refine ⟨.ref r7, .tuple [.int (evA vs), .int (evB vs)], rfl, .tup (SqT.of e7) (.cons (.int _) (.cons (.int _) .nil)), okP, fun v8 H8 s8 dn8 => ?_⟩
      have K8 := (K6.same s7).same s8
      refine ⟨_, rfl, .ref du, .tuple [.int (evA vs), .int (evB vs)], rfl, .tup (SqT.of (K8.sm _ _ hdu)) (.cons (.int _) (.cons (.int _) .nil)), okP, fun v9 H9 s9 dn9 => ?_⟩
      have K9 := K8.same s9
      refine plain_test 4 dn8 s9 dn9 okP (by decide) ?_
      exact ⟨_, rfl, _, rfl, ints_same (SqL.of (K9.sm _ _ hlG)) (SqL.of (K9.sm _ _ hEG)) ⟨_, rfl, rfl, K9⟩⟩
    rintro σ H7 ⟨rfl, K7⟩
    -- what is due
    obtain ⟨mn, hmn, hmn2⟩ := min_ex hne
    obtain ⟨mx, hmx, hmx2⟩ := max_ex hne
    have hv' := valOk_iff.mp hv
    obtain ⟨w1, w2, w3⟩ := ev_facts hv' hmn hmx hmn2 hmx2
    refine ⟨fun σ H' => σ = [some (.ref sa), some (.ref p), some (.ref E1), some (.ref du), some (.ref lh), none, none, none, none, none, none, none, none, none, none] ∧ Dk G2 H' p D, ?_, ?_⟩
    · have T7 : SqT K H7 du [.int (evA vs), .int (evB vs)] := SqT.of (K7.sm _ _ hdu)
      refine ⟨_, rfl, du, _, _, _, rfl, rfl, T7, atI_nat' (j := 0) rfl rfl, _, _, rfl, rfl, false, congrArg V.bl (decide_eq_false (by omega)), ?_⟩
      refine ⟨_, rfl, du, _, _, _, rfl, rfl, T7, atI_nat' (j := 0) rfl rfl, _, rfl, du, _, _, _, rfl, rfl, T7, atI_nat' (j := 1) rfl rfl, _, _, rfl, rfl, false, congrArg V.bl (decide_eq_false (by omega)), ?_⟩
      refine ⟨_, rfl, du, _, _, _, rfl, rfl, T7, atI_nat' (j := 0) rfl rfl, rfl, ?_⟩
      refine ⟨_, rfl, E1, vs, rfl, SqL.of (K7.sm _ _ hEG), hl0, fun m1 q1 q2 => ?_⟩
      refine ⟨_, rfl, E1, vs, rfl, SqL.of (K7.sm _ _ hEG), hl0, fun m2 q3 q4 => ?_⟩
      have em1 : m1 = mn := Int.le_antisymm (q2 _ hmn) (hmn2 _ q1)
      have em2 : m2 = mx := Int.le_antisymm (hmx2 _ q3) (q4 _ hmx)
      subst em1 em2
      have e : decide (V.int (evA vs) = V.int 0) = decide (V.int m1 = V.int m2) := decide_eq_decide.mpr ⟨fun z => congrArg V.int (w3.mp (V.int.inj z)), fun z => congrArg V.int (w3.mpr (V.int.inj z))⟩
      refine ⟨rfl, rfl, false, ?_, rfl, K7⟩
      rw [e]
      simp
    rintro σ H8 ⟨rfl, K8⟩
    -- scaled, in another order
    refine ⟨_, rfl, take_q K8 (by decide) fun fa H9 fa0 fa1 K9 => ?_⟩
    refine ⟨_, _, rfl, rfl, ?_⟩
    refine ⟨_, rfl, _, rfl, E1, _, rfl, .inl (SqL.of (K9.sm _ _ hEG)), sp_c_law_order_use ⟨p, _, (vs.map V.int).length, rfl, K9.hd, by rw [List.length_map]; omega, fun H10 D10 oq os sb h1 fo h2 hperm => ?_⟩⟩
    rw [List.length_map] at hperm
    have noq : oq ≠ p := (ne_of_none K9.hd fo).symm
    have K10 := (K9.but sb h1).add h2 noq
    have sG3 : Same G2 (upd G2 oq (.lst (os.map fun (i : Nat) => V.int i))) := Same.new (K9.fresh fo)
    have hEG := sG3 _ _ hEG
    have hdu := sG3 _ _ hdu
    have hoq : (upd G2 oq (.lst (os.map fun (i : Nat) => V.int i)) : Hp) oq = _ := upd_same
    generalize (upd G2 oq (.lst (os.map fun (i : Nat) => V.int i)) : Hp) = G3 at K10 hEG hdu hoq
    have hol : os.length = vs.length := by rw [hperm.length_eq, List.length_range]
    have hpv : (os.map fun o => vs.getD o 0).Perm vs := by
      have := hperm.map fun o => vs.getD o 0
      rw [range_at vs id _ (fun i x e => by rw [List.getD_eq_getElem?_getD, e]; rfl), List.map_id] at this
      exact this
    have hws : ∀ w ∈ (os.map fun o => vs.getD o 0).map (fun x => (1 + fa) * x), 0 ≤ w ∧ w < 2 ^ 140 := by
      intro w hw
      obtain ⟨v, hv1, rfl⟩ := List.mem_map.mp hw
      obtain ⟨c1, c2⟩ := hvv v (hpv.mem_iff.mp hv1)
      refine ⟨Int.mul_nonneg (by omega) c1, ?_⟩
      have := Int.mul_le_mul_of_nonneg_right (show 1 + fa ≤ 9 by omega) c1
      have : (9 : Int) * 2 ^ 135 < 2 ^ 140 := by decide
      omega
    refine ⟨fun σ H' => σ = [some (.ref sa), some (.ref p), some (.ref E1), some (.ref du), some (.ref lh), some (.int (1 + fa)), some (.ref oq), none, none, none, none, none, none, none, none] ∧ Dk G3 H' p D10, ?_, ?_⟩
    · refine ⟨_, rfl, oq, rfl, ⟨_, SqL.of (K10.sm _ _ hoq)⟩, fun E2 hE2 => ?_⟩
      refine lc_fn walk_list (fun i => some (.int ((1 + fa) * vs.getD (os.getD i 0) 0))) (by rw [List.length_map]; omega) hE2 (fun H s => s.seq (SqL.of (K10.sm _ _ hoq))) ?_ ?_
      · rintro i x H3 H4 R N hi s3 ⟨rfl, hx⟩ hR hN
        rw [List.getElem?_map] at hx
        obtain ⟨o, ho, rfl⟩ := Option.map_eq_some_iff.mp hx
        have hov : o < vs.length := List.mem_range.mp (hperm.mem_iff.mp (List.mem_of_getElem? ho))
        have hvo := List.getElem?_eq_getElem hov
        obtain ⟨c1, c2⟩ := hvv _ (List.getElem_mem hov)
        generalize vs[o] = z at hvo c1 c2
        refine ⟨rfl, ?_⟩
        refine ⟨_, rfl, _, rfl, _, rfl, E1, _, _, .int z, rfl, rfl, SqL.of (s3 _ _ (K10.sm _ _ hEG)), atI_nat' (j := o) rfl (by rw [List.getElem?_map, hvo]; rfl), _, _, rfl, rfl, wide_mul (a := 20) (b := 136) (by omega) ?_ (by decide) (by decide) (by decide), hR _ _ ?_ (Same.refl _)⟩
        · have : (2 : Int) ^ 135 < 2 ^ 136 := by decide
          have : (2 : Nat) ^ 136 = (2 ^ 136 : Int).natAbs := by decide
          omega
        · rw [List.getD_eq_getElem?_getD (l := os), ho]
          show some (V.int ((1 + fa) * vs.getD o 0)) = _
          rw [List.getD_eq_getElem?_getD, hvo]
          rfl
      intro H11 s11 hE2'
      rw [fm_some, List.length_map, range_at os (fun o => V.int ((1 + fa) * vs.getD o 0)) _ (fun i x e => by rw [List.getD_eq_getElem?_getD (l := os), e]; rfl)] at hE2'
      have K11 := K10.same s11
      have hlw : SqL K H11 E2 (((os.map fun o => vs.getD o 0).map (fun x => (1 + fa) * x)).map V.int) := SqL.of (by rw [hE2', List.map_map, List.map_map]; rfl)
      refine hev hlw (List.length_pos_iff.mp (by rw [List.length_map, List.length_map]; omega)) (valOk_iff.mpr fun w hw => (hws w hw).1) ⟨by rw [List.length_map, List.length_map]; omega, fun w hw => (hws w hw).2⟩ fun H12 r12 s12 f12 e12 => ?_
      obtain ⟨p1, p2⟩ := ev_perm hpv
      obtain ⟨p3, p4⟩ := ev_scale (k := 1 + fa) (by omega) (os.map fun o => vs.getD o 0) (by rw [List.length_map]; omega)
      rw [p3, p4, p1, p2] at e12
      refine ⟨.ref r12, .tuple [.int (evA vs), .int (evB vs)], rfl, .tup (SqT.of e12) (.cons (.int _) (.cons (.int _) .nil)), okP, fun v13 H13 s13 dn13 => ?_⟩
      have K13 := (K11.same s12).same s13
      refine ⟨_, rfl, .ref du, .tuple [.int (evA vs), .int (evB vs)], rfl, .tup (SqT.of (K13.sm _ _ hdu)) (.cons (.int _) (.cons (.int _) .nil)), okP, fun v14 H14 s14 dn14 => ?_⟩
      exact plain_test 4 dn13 s14 dn14 okP (by decide) ⟨rfl, K13.same s14⟩
    rintro σ H14 ⟨rfl, K14⟩
    -- the highest, the lowest
    have hflat : (vs.map V.int).all flatV = true := by simp [flatV]
    have eqi : ∀ {x y : Int}, eqV (.int x) (.int y) = (x == y) := fun {x y} => rfl
    have S14 : SqL K H14 E1 (vs.map V.int) := SqL.of (K14.sm _ _ hEG)
    obtain ⟨hi, hhi, hhi2⟩ := first_idx hmx
    obtain ⟨lo, hlo, hlo2⟩ := first_idx hmn
    refine ⟨_, rfl, .inl ⟨rfl, _, S14⟩, _, rfl, E1, vs, rfl, S14, hl0, fun m2 q3 q4 => ?_⟩
    have em2 : m2 = mx := Int.le_antisymm (hmx2 _ q3) (q4 _ hmx)
    subst em2
    refine ⟨E1, _, _, hi, .int m2, rfl, rfl, S14, rfl, hflat, by rw [List.getElem?_map, hhi]; rfl, by rw [eqi]; simp, fun k z' hk hz' => ?_, ?_⟩
    · obtain ⟨z, hz, rfl⟩ := ints_get hz'
      rw [eqi]
      exact beq_false_of_ne (hhi2 k z hk hz)
    refine ⟨_, rfl, .inl ⟨rfl, _, S14⟩, _, rfl, E1, vs, rfl, S14, hl0, fun m1 q1 q2 => ?_⟩
    have em1 : m1 = mn := Int.le_antisymm (q2 _ hmn) (hmn2 _ q1)
    subst em1
    refine ⟨E1, _, _, lo, .int m1, rfl, rfl, S14, rfl, hflat, by rw [List.getElem?_map, hlo]; rfl, by rw [eqi]; simp, fun k z' hk hz' => ?_, ?_⟩
    · obtain ⟨z, hz, rfl⟩ := ints_get hz'
      rw [eqi]
      exact beq_false_of_ne (hlo2 k z hk hz)
    -- the gift
    refine ⟨fun σ H' => ∃ (g : Int) (D' : List Int), σ = [some (.ref sa), some (.ref p), some (.ref E1), some (.ref du), some (.ref lh), some (.int (1 + fa)), some (.ref oq), some (.int hi), some (.int lo), some (.int g), none, none, none, none, none] ∧ Dk G3 H' p D' ∧ 0 ≤ g ∧ 2 * g ≤ m2 - m1, ?_, ?_⟩
    · have at1 : ∀ {x : Int} {i : Nat}, vs[i]? = some x → (vs.map V.int)[i]? = some (.int x) := fun h => by rw [List.getElem?_map, h]; rfl
      refine ⟨_, rfl, _, rfl, E1, _, _, .int m2, rfl, rfl, S14, atI_nat' (j := hi) rfl (at1 hhi), _, rfl, _, rfl, E1, _, _, .int m1, rfl, rfl, S14, atI_nat' (j := lo) rfl (at1 hlo), _, _, rfl, rfl, _, _, rfl, rfl, _, rfl, ?_⟩
      refine ite2 (fun c => ?_) (fun c => ?_)
      · refine ⟨_, rfl, _, rfl, _, rfl, E1, _, _, .int m2, rfl, rfl, S14, atI_nat' (j := hi) rfl (at1 hhi), _, rfl, _, rfl, E1, _, _, .int m1, rfl, rfl, S14, atI_nat' (j := lo) rfl (at1 hlo), _, _, rfl, rfl, _, _, rfl, rfl, ⟨by decide, by decide⟩, _, _, rfl, rfl, ?_⟩
        have mm := hmx2 _ hmn
        refine take_q K14 (by omega) fun g H15 g0 g1 K15 => ?_
        exact ⟨g, _, rfl, K15, g0, by omega⟩
      · have c' : ¬ (m2 - m1 < 900000) := fun z => c (decide_eq_true z)
        exact ⟨1, _, rfl, K14, by decide, by omega⟩
    rintro σ H15 ⟨g, D15, rfl, K15, g0, g1⟩
    obtain ⟨x1, x2, x3, x4, x5⟩ := gift_all hhi hlo (fun b hb => ⟨hmn2 b hb, hmx2 b hb⟩) g0 g1
    have lhi : hi < vs.length := (List.getElem?_eq_some_iff.mp hhi).1
    have llo : lo < vs.length := (List.getElem?_eq_some_iff.mp hlo).1
    -- given
    refine ⟨_, rfl, E1, _, rfl, .inl (SqL.of (K15.sm _ _ hEG)), fun lg hlg => ?_⟩
    have npl : p ≠ lg := ne_of_none K15.hd hlg
    have KX : ∀ xs : List V, Dk G3 (upd H15 lg (.lst xs)) p D15 := fun xs => ⟨K15.nd, K15.sm.mut (K15.fresh hlg), by rw [upd_ne npl]; exact K15.hd⟩
    refine ⟨_, rfl, _, rfl, lg, _, _, .int m2, rfl, rfl, SqL.of upd_same, atI_nat' (j := hi) rfl (by rw [List.getElem?_map, hhi]; rfl), _, rfl, _, _, rfl, rfl, _, rfl, _, rfl, lg, _, _, hi, rfl, rfl, upd_same, ixN_nat (by rw [List.length_map]; exact lhi), ?_⟩
    have q1 : upd (upd H15 lg (.lst (vs.map V.int))) lg (.lst ((vs.map V.int).set hi (.int (m2 - g)))) = upd H15 lg (.lst ((vs.set hi (m2 - g)).map V.int)) := by rw [upd_upd, List.map_set]
    rw [q1]
    refine ⟨_, rfl, _, rfl, lg, _, _, .int m1, rfl, rfl, SqL.of upd_same, atI_nat' (j := lo) rfl (by rw [List.getElem?_map, x1]; rfl), _, rfl, _, _, rfl, rfl, _, rfl, _, rfl, lg, _, _, lo, rfl, rfl, upd_same, ixN_nat (by rw [List.length_map, List.length_set]; exact llo), ?_⟩
    have q2 : upd (upd H15 lg (.lst ((vs.set hi (m2 - g)).map V.int))) lg (.lst (((vs.set hi (m2 - g)).map V.int).set lo (.int (m1 + g)))) = upd H15 lg (.lst (((vs.set hi (m2 - g)).set lo (m1 + g)).map V.int)) := by simp only [upd_upd, List.map_set]
    rw [q2]
    have K16 := KX (((vs.set hi (m2 - g)).set lo (m1 + g)).map V.int)
    have c1 := hvv m1 hmn
    have c2 := hvv m2 hmx
    have hgv : ∀ x ∈ (vs.set hi (m2 - g)).set lo (m1 + g), 0 ≤ x ∧ x < 2 ^ 135 := fun x hx => by
      rcases x5 x hx with q | q | q
      · exact hvv x q
      · omega
      · omega
    have gne : (vs.set hi (m2 - g)).set lo (m1 + g) ≠ [] := List.length_pos_iff.mp (by omega)
    have gv : valOk ((vs.set hi (m2 - g)).set lo (m1 + g)) = true := valOk_iff.mpr fun x hx => (hgv x hx).1
    have gs : small ((vs.set hi (m2 - g)).set lo (m1 + g)) := ⟨by omega, fun v hv => by have := (hgv v hv).2; omega⟩
    have less := ev_less x3 x4 hv' hl0 x2
    refine ⟨_, rfl, hev (SqL.of upd_same) gne gv gs fun H17 r17 s17 f17 e17 => ?_⟩
    have K17 := K16.same s17
    refine ⟨r17, _, rfl, SqT.of e17, rfl, _, _, rfl, _, _, rfl, rfl, ?_⟩
    obtain ⟨_, b1, b2⟩ := ev_bound hs hv hne
    obtain ⟨_, b3, b4⟩ := ev_bound gs gv gne
    have T17 : SqT K H17 du [.int (evA vs), .int (evB vs)] := SqT.of (K17.sm _ _ hdu)
    refine ⟨_, rfl, _, rfl, du, _, _, _, rfl, rfl, T17, atI_nat' (j := 1) rfl rfl, _, _, rfl, rfl, wide_mul (a := 175) (b := 175) b3 b2 (by decide) (by decide) (by decide), ?_⟩
    refine ⟨_, rfl, du, _, _, _, rfl, rfl, T17, atI_nat' (j := 0) rfl rfl, _, rfl, _, _, rfl, rfl, wide_mul (a := 175) (b := 175) b1 b4 (by decide) (by decide) (by decide), _, _, rfl, rfl, _, rfl, ?_⟩
    refine ite2 (fun c => absurd (of_decide_eq_true c) (by omega)) (fun c => ?_)
    -- what is refused
    have hwhy : ∀ {q : Addr} {ws : List Int} {wd : Str} {H : Hp} {Q : VK}, SqL K H q (ws.map V.int) → ws.length ≤ 1000 → ((ws = [] ∧ wd = "values") ∨ (ws ≠ [] ∧ valOk ws = false ∧ wd = "negative")) → (∀ H', Same H H' → Q (.str wd) H') → sp_c_law_why K [.ref q] H Q E0 :=
      fun h1 h2 h3 k => sp_c_law_why_use ⟨_, _, _, rfl, h1, h2, h3, k⟩
    refine ⟨by show 0 ≤ sizeLine; decide, fun la hla => ?_⟩
    refine hwhy (ws := []) (SqL.of upd_same) (by decide) (.inl ⟨rfl, rfl⟩) fun H18 s18 => ?_
    have K18 := (K17.same (Same.new hla)).same s18
    refine ⟨_, rfl, _, rfl, by show 1 ≤ sizeLine; decide, fun lb hlb => ?_⟩
    have K19 := K18.same (Same.new (o := .lst [.int (-1)]) hlb)
    refine ⟨E1, lb, vs.map V.int, [.int (-1)], rfl, rfl, K19.sm _ _ hEG, upd_same, Nat.le_of_lt (small1000000 (by simp only [List.length_cons, List.length_nil, List.length_map]; omega)), fun lc hlc => ?_⟩
    have K20 := K19.same (Same.new (o := .lst (vs.map V.int ++ [.int (-1)])) hlc)
    refine hwhy (ws := vs ++ [-1]) (SqL.of (by rw [upd_same, List.map_append]; rfl)) (by rw [List.length_append]; show vs.length + 1 ≤ 1000; omega) (.inr ⟨by simp, valOk_no.mpr ⟨-1, by simp, by decide⟩, rfl⟩) fun H21 s21 => ?_
    have K21 := K20.same s21
    refine ⟨_, rfl, by show 1 ≤ sizeLine; decide, fun ld hld => ?_⟩
    refine hwhy (ws := [-1]) (SqL.of upd_same) (by decide) (.inr ⟨by simp, by decide, rfl⟩) fun H22 s22 => ?_
    refine ⟨by show 3 ≤ sizeLine; decide, fun lans hlans => ?_⟩
    refine ⟨by show 3 ≤ sizeLine; decide, fun lan2 hlan2 => ?_⟩
    have nn : lans ≠ lan2 := fun z => by rw [z, upd_same] at hlan2; cases hlan2
    refine data_eq (d := .list [.str "values", .str "negative", .str "negative"]) (.lst (SqL.of (by rw [upd_ne nn]; exact upd_same)) (.cons (.str _) (.cons (.str _) (.cons (.str _) .nil)))) (.lst (SqL.of upd_same) (.cons (.str _) (.cons (.str _) (.cons (.str _) .nil)))) (n := 2) (by decide +kernel) (by decide) ?_
    exact k _
theorem all_mk {l : PySem.W.OpenLaw} {w : World} {K : PySem.W.Frag} {h : Heap} {mg : Str → Option Value} {fa : Addr} (X : K.In h) (G : h.Ns mainGlobals mg) (hfa : mg "law" = some (.ref fa))
    {C_SlotError C_InvalidTime C_InvalidMoney C_InvalidTable : Addr}
    {f0 : Addr} {od0 an0 : Option Addr} {sl0 : Array (Option Value)} {oc0 kV0 dc0 pm0 cd0 ct0 : Value}
    {f1 : Addr} {od1 an1 : Option Addr} {sl1 : Array (Option Value)} {oc1 kV1 dc1 pm1 cd1 ct1 : Value}
    {f2 : Addr} {od2 an2 : Option Addr} {sl2 : Array (Option Value)} {oc2 kV2 dc2 pm2 cd2 ct2 : Value}
    {f3 : Addr} {od3 an3 : Option Addr} {sl3 : Array (Option Value)} {oc3 kV3 dc3 pm3 cd3 ct3 : Value}
    {f4 : Addr} {od4 an4 : Option Addr} {sl4 : Array (Option Value)} {oc4 kV4 dc4 pm4 cd4 ct4 : Value}
    {f5 : Addr} {od5 an5 : Option Addr} {sl5 : Array (Option Value)} {oc5 kV5 dc5 pm5 cd5 ct5 : Value}
    {f6 : Addr} {od6 an6 : Option Addr} {sl6 : Array (Option Value)} {oc6 kV6 dc6 pm6 cd6 ct6 : Value}
    {f7 : Addr} {od7 an7 : Option Addr} {sl7 : Array (Option Value)} {oc7 kV7 dc7 pm7 cd7 ct7 : Value}
    {f8 : Addr} {od8 an8 : Option Addr} {sl8 : Array (Option Value)} {oc8 kV8 dc8 pm8 cd8 ct8 : Value}
    {f9 : Addr} {od9 an9 : Option Addr} {sl9 : Array (Option Value)} {oc9 kV9 dc9 pm9 cd9 ct9 : Value}
    {f10 : Addr} {od10 an10 : Option Addr} {sl10 : Array (Option Value)} {oc10 kV10 dc10 pm10 cd10 ct10 : Value}
    {f11 : Addr} {od11 an11 : Option Addr} {sl11 : Array (Option Value)} {oc11 kV11 dc11 pm11 cd11 ct11 : Value}
    {f12 : Addr} {od12 an12 : Option Addr} {sl12 : Array (Option Value)} {oc12 kV12 dc12 pm12 cd12 ct12 : Value}
    {f13 : Addr} {od13 an13 : Option Addr} {sl13 : Array (Option Value)} {oc13 kV13 dc13 pm13 cd13 ct13 : Value}
    {f14 : Addr} {od14 an14 : Option Addr} {sl14 : Array (Option Value)} {oc14 kV14 dc14 pm14 cd14 ct14 : Value}
    {f15 : Addr} {od15 an15 : Option Addr} {sl15 : Array (Option Value)} {oc15 kV15 dc15 pm15 cd15 ct15 : Value}
    {nm_InvalidTime q_InvalidTime : Str} {N_InvalidTime : Addr} {bs_InvalidTime bm_InvalidTime : List Value} {sn_InvalidTime : List Str} {sub_InvalidTime : List Value} {ab_InvalidTime : Bool} {col_InvalidTime : Option Bool} {dd_InvalidTime : Option Addr} {m0_InvalidTime m1_InvalidTime m2_InvalidTime m3_InvalidTime m5_InvalidTime : Option Value}
    {nm_InvalidMoney q_InvalidMoney : Str} {N_InvalidMoney : Addr} {bs_InvalidMoney bm_InvalidMoney : List Value} {sn_InvalidMoney : List Str} {sub_InvalidMoney : List Value} {ab_InvalidMoney : Bool} {col_InvalidMoney : Option Bool} {dd_InvalidMoney : Option Addr} {m0_InvalidMoney m1_InvalidMoney m2_InvalidMoney m3_InvalidMoney m5_InvalidMoney : Option Value}
    {nm_InvalidTable q_InvalidTable : Str} {N_InvalidTable : Addr} {bs_InvalidTable bm_InvalidTable : List Value} {sn_InvalidTable : List Str} {sub_InvalidTable : List Value} {ab_InvalidTable : Bool} {col_InvalidTable : Option Bool} {dd_InvalidTable : Option Addr} {m0_InvalidTable m1_InvalidTable m2_InvalidTable m3_InvalidTable m5_InvalidTable : Option Value}
    (g_SlotError : PySem.W.nsIn K mainGlobals "SlotError" = some (some (.ref C_SlotError)))
    (g_InvalidTime : PySem.W.nsIn K mainGlobals "InvalidTime" = some (some (.ref C_InvalidTime)))
    (g_InvalidMoney : PySem.W.nsIn K mainGlobals "InvalidMoney" = some (some (.ref C_InvalidMoney)))
    (g_InvalidTable : PySem.W.nsIn K mainGlobals "InvalidTable" = some (some (.ref C_InvalidTable)))
    (a0 : PySem.W.findIn K (.ref C_InvalidTime) "__init__" = some (some (.ref f0)))
    (l0 : K.lookup f0 = some ⟨oc0, od0, .func (PySem.W.fnOf "__init__" "InvalidTime.__init__" (defArgs st_c_InvalidTime_init) (defBody st_c_InvalidTime_init) (defScope st_c_InvalidTime_init) .none kV0 dc0 pm0 an0 cd0 ct0), sl0⟩)
    (c0 : PySem.W.codeIn K cd0 "InvalidTime.__init__" = true)
    (k0 : PySem.W.keepIn K (.ref f0) = true)
    (a1 : PySem.W.findIn K (.ref C_InvalidMoney) "__init__" = some (some (.ref f1)))
    (l1 : K.lookup f1 = some ⟨oc1, od1, .func (PySem.W.fnOf "__init__" "InvalidMoney.__init__" (defArgs st_c_InvalidMoney_init) (defBody st_c_InvalidMoney_init) (defScope st_c_InvalidMoney_init) .none kV1 dc1 pm1 an1 cd1 ct1), sl1⟩)
    (c1 : PySem.W.codeIn K cd1 "InvalidMoney.__init__" = true)
    (k1 : PySem.W.keepIn K (.ref f1) = true)
    (a2 : PySem.W.findIn K (.ref C_InvalidTable) "__init__" = some (some (.ref f2)))
    (l2 : K.lookup f2 = some ⟨oc2, od2, .func (PySem.W.fnOf "__init__" "InvalidTable.__init__" (defArgs st_c_InvalidTable_init) (defBody st_c_InvalidTable_init) (defScope st_c_InvalidTable_init) .none kV2 dc2 pm2 an2 cd2 ct2), sl2⟩)
    (c2 : PySem.W.codeIn K cd2 "InvalidTable.__init__" = true)
    (k2 : PySem.W.keepIn K (.ref f2) = true)
    (a3 : PySem.W.nsIn K mainGlobals "fraction" = some (some (.ref f3)))
    (l3 : K.lookup f3 = some ⟨oc3, od3, .func (PySem.W.fnOf "fraction" "fraction" (defArgs st_c_fraction) (defBody st_c_fraction) (defScope st_c_fraction) .none kV3 dc3 pm3 an3 cd3 ct3), sl3⟩)
    (c3 : PySem.W.codeIn K cd3 "fraction" = true)
    (k3 : PySem.W.keepIn K (.ref f3) = true)
    (a4 : PySem.W.nsIn K mainGlobals "check_values" = some (some (.ref f4)))
    (l4 : K.lookup f4 = some ⟨oc4, od4, .func (PySem.W.fnOf "check_values" "check_values" (defArgs st_c_check_values) (defBody st_c_check_values) (defScope st_c_check_values) .none kV4 dc4 pm4 an4 cd4 ct4), sl4⟩)
    (c4 : PySem.W.codeIn K cd4 "check_values" = true)
    (k4 : PySem.W.keepIn K (.ref f4) = true)
    (a5 : PySem.W.nsIn K mainGlobals "evenness" = some (some (.ref f5)))
    (l5 : K.lookup f5 = some ⟨oc5, od5, .func (PySem.W.fnOf "evenness" "evenness" (defArgs st_c_evenness) (defBody st_c_evenness) (defScope st_c_evenness) .none kV5 dc5 pm5 an5 cd5 ct5), sl5⟩)
    (c5 : PySem.W.codeIn K cd5 "evenness" = true)
    (k5 : PySem.W.keepIn K (.ref f5) = true)
    (a6 : PySem.W.nsIn K mainGlobals "_law_deck" = some (some (.ref f6)))
    (l6 : K.lookup f6 = some ⟨oc6, od6, .func (PySem.W.fnOf "_law_deck" "_law_deck" (defArgs st_c_law_deck) (defBody st_c_law_deck) (defScope st_c_law_deck) .none kV6 dc6 pm6 an6 cd6 ct6), sl6⟩)
    (c6 : PySem.W.codeIn K cd6 "_law_deck" = true)
    (k6 : PySem.W.keepIn K (.ref f6) = true)
    (a7 : PySem.W.nsIn K mainGlobals "_law_take" = some (some (.ref f7)))
    (l7 : K.lookup f7 = some ⟨oc7, od7, .func (PySem.W.fnOf "_law_take" "_law_take" (defArgs st_c_law_take) (defBody st_c_law_take) (defScope st_c_law_take) .none kV7 dc7 pm7 an7 cd7 ct7), sl7⟩)
    (c7 : PySem.W.codeIn K cd7 "_law_take" = true)
    (k7 : PySem.W.keepIn K (.ref f7) = true)
    (a8 : PySem.W.nsIn K mainGlobals "_law_plain" = some (some (.ref f8)))
    (l8 : K.lookup f8 = some ⟨oc8, od8, .func (PySem.W.fnOf "_law_plain" "_law_plain" (defArgs st_c_law_plain) (defBody st_c_law_plain) (defScope st_c_law_plain) .none kV8 dc8 pm8 an8 cd8 ct8), sl8⟩)
    (c8 : PySem.W.codeIn K cd8 "_law_plain" = true)
    (k8 : PySem.W.keepIn K (.ref f8) = true)
    (a9 : PySem.W.nsIn K mainGlobals "_law_number" = some (some (.ref f9)))
    (l9 : K.lookup f9 = some ⟨oc9, od9, .func (PySem.W.fnOf "_law_number" "_law_number" (defArgs st_c_law_number) (defBody st_c_law_number) (defScope st_c_law_number) .none kV9 dc9 pm9 an9 cd9 ct9), sl9⟩)
    (c9 : PySem.W.codeIn K cd9 "_law_number" = true)
    (k9 : PySem.W.keepIn K (.ref f9) = true)
    (a10 : PySem.W.nsIn K mainGlobals "_law_gcd" = some (some (.ref f10)))
    (l10 : K.lookup f10 = some ⟨oc10, od10, .func (PySem.W.fnOf "_law_gcd" "_law_gcd" (defArgs st_c_law_gcd) (defBody st_c_law_gcd) (defScope st_c_law_gcd) .none kV10 dc10 pm10 an10 cd10 ct10), sl10⟩)
    (c10 : PySem.W.codeIn K cd10 "_law_gcd" = true)
    (k10 : PySem.W.keepIn K (.ref f10) = true)
    (a11 : PySem.W.nsIn K mainGlobals "_law_fraction" = some (some (.ref f11)))
    (l11 : K.lookup f11 = some ⟨oc11, od11, .func (PySem.W.fnOf "_law_fraction" "_law_fraction" (defArgs st_c_law_fraction) (defBody st_c_law_fraction) (defScope st_c_law_fraction) .none kV11 dc11 pm11 an11 cd11 ct11), sl11⟩)
    (c11 : PySem.W.codeIn K cd11 "_law_fraction" = true)
    (k11 : PySem.W.keepIn K (.ref f11) = true)
    (a12 : PySem.W.nsIn K mainGlobals "_law_order" = some (some (.ref f12)))
    (l12 : K.lookup f12 = some ⟨oc12, od12, .func (PySem.W.fnOf "_law_order" "_law_order" (defArgs st_c_law_order) (defBody st_c_law_order) (defScope st_c_law_order) .none kV12 dc12 pm12 an12 cd12 ct12), sl12⟩)
    (c12 : PySem.W.codeIn K cd12 "_law_order" = true)
    (k12 : PySem.W.keepIn K (.ref f12) = true)
    (a13 : PySem.W.nsIn K mainGlobals "_law_why" = some (some (.ref f13)))
    (l13 : K.lookup f13 = some ⟨oc13, od13, .func (PySem.W.fnOf "_law_why" "_law_why" (defArgs st_c_law_why) (defBody st_c_law_why) (defScope st_c_law_why) .none kV13 dc13 pm13 an13 cd13 ct13), sl13⟩)
    (c13 : PySem.W.codeIn K cd13 "_law_why" = true)
    (k13 : PySem.W.keepIn K (.ref f13) = true)
    (a14 : PySem.W.nsIn K mainGlobals "_law_even" = some (some (.ref f14)))
    (l14 : K.lookup f14 = some ⟨oc14, od14, .func (PySem.W.fnOf "_law_even" "_law_even" (defArgs st_c_law_even) (defBody st_c_law_even) (defScope st_c_law_even) .none kV14 dc14 pm14 an14 cd14 ct14), sl14⟩)
    (c14 : PySem.W.codeIn K cd14 "_law_even" = true)
    (k14 : PySem.W.keepIn K (.ref f14) = true)
    (a15 : PySem.W.nsIn K mainGlobals "law" = some (some (.ref f15)))
    (l15 : K.lookup f15 = some ⟨oc15, od15, .func (PySem.W.fnOf "law" "law" (defArgs st_c_law) (defBody st_c_law) (defScope st_c_law) .none kV15 dc15 pm15 an15 cd15 ct15), sl15⟩)
    (c15 : PySem.W.codeIn K cd15 "law" = true)
    (k15 : PySem.W.keepIn K (.ref f15) = true)
    (b1_SlotError : PySem.W.specialIn K (.ref C_SlotError) "__getattribute__" = some (some (.builtin "type.__getattribute__")))
    (b2_SlotError : PySem.W.readsIn K C_SlotError (.type "type") = true)
    (b3_SlotError : PySem.W.findCls K (.ref C_SlotError) (.type "type") "__init__" = some (.val (.builtin "ValueError.__init__")))
    (x_InvalidTime : K.lookup C_InvalidTime = some (excClassObj nm_InvalidTime q_InvalidTime C_InvalidTime N_InvalidTime bs_InvalidTime bm_InvalidTime true sn_InvalidTime sub_InvalidTime ab_InvalidTime col_InvalidTime dd_InvalidTime m0_InvalidTime m1_InvalidTime m2_InvalidTime m3_InvalidTime m5_InvalidTime "ValueError.__new__"))
    (rv_InvalidTime : PySem.HandSPX.refsVE bm_InvalidTime = true)
    (sa_InvalidTime : PySem.W.findIn K (.ref C_InvalidTime) "__setattr__" = some (some (.builtin "object.__setattr__")))
    (ga_InvalidTime : PySem.W.findIn K (.ref C_InvalidTime) "__getattribute__" = some (some (.builtin "BaseException.__getattribute__")))
    (gg_InvalidTime : PySem.W.findIn K (.ref C_InvalidTime) "__getattr__" = some none)
    (kC_InvalidTime : PySem.W.keepIn K (.ref C_InvalidTime) = true)
    (eC_InvalidTime : PySem.W.subIn K (.ref C_InvalidTime) (.type "BaseException") = some true)
    (tC_InvalidTime : PySem.W.typeIn K (.ref C_InvalidTime) = some (.type "type"))
    (hC_InvalidTime : PySem.W.hasDictIn K C_InvalidTime = true)
    (ic_InvalidTime : (PySem.W.clsIn K C_InvalidTime).isSome = true)
    (cc_InvalidTime : PySem.W.findIn K (.ref C_InvalidTime) "__class__" = some (some (.builtin "object.__class__")))
    (mo_InvalidTime : PySem.W.mroIn K C_InvalidTime (.type "object") = some true)
    (ti_InvalidTime : PySem.W.typeIn K (.ref f0) = some (.type "function"))
    (no_InvalidTime_what : PySem.W.findIn K (.ref C_InvalidTime) "what" = some none)
    (em_InvalidTime_SlotError : PySem.W.exmOne K (.ref C_InvalidTime) (.ref C_SlotError) = some true)
    (em_InvalidTime_InvalidTime : PySem.W.exmOne K (.ref C_InvalidTime) (.ref C_InvalidTime) = some true)
    (x_InvalidMoney : K.lookup C_InvalidMoney = some (excClassObj nm_InvalidMoney q_InvalidMoney C_InvalidMoney N_InvalidMoney bs_InvalidMoney bm_InvalidMoney true sn_InvalidMoney sub_InvalidMoney ab_InvalidMoney col_InvalidMoney dd_InvalidMoney m0_InvalidMoney m1_InvalidMoney m2_InvalidMoney m3_InvalidMoney m5_InvalidMoney "ValueError.__new__"))
    (rv_InvalidMoney : PySem.HandSPX.refsVE bm_InvalidMoney = true)
    (sa_InvalidMoney : PySem.W.findIn K (.ref C_InvalidMoney) "__setattr__" = some (some (.builtin "object.__setattr__")))
    (ga_InvalidMoney : PySem.W.findIn K (.ref C_InvalidMoney) "__getattribute__" = some (some (.builtin "BaseException.__getattribute__")))
    (gg_InvalidMoney : PySem.W.findIn K (.ref C_InvalidMoney) "__getattr__" = some none)
    (kC_InvalidMoney : PySem.W.keepIn K (.ref C_InvalidMoney) = true)
    (eC_InvalidMoney : PySem.W.subIn K (.ref C_InvalidMoney) (.type "BaseException") = some true)
    (tC_InvalidMoney : PySem.W.typeIn K (.ref C_InvalidMoney) = some (.type "type"))
    (hC_InvalidMoney : PySem.W.hasDictIn K C_InvalidMoney = true)
    (ic_InvalidMoney : (PySem.W.clsIn K C_InvalidMoney).isSome = true)
    (cc_InvalidMoney : PySem.W.findIn K (.ref C_InvalidMoney) "__class__" = some (some (.builtin "object.__class__")))
    (mo_InvalidMoney : PySem.W.mroIn K C_InvalidMoney (.type "object") = some true)
    (ti_InvalidMoney : PySem.W.typeIn K (.ref f1) = some (.type "function"))
    (no_InvalidMoney_what : PySem.W.findIn K (.ref C_InvalidMoney) "what" = some none)
    (em_InvalidMoney_SlotError : PySem.W.exmOne K (.ref C_InvalidMoney) (.ref C_SlotError) = some true)
    (em_InvalidMoney_InvalidMoney : PySem.W.exmOne K (.ref C_InvalidMoney) (.ref C_InvalidMoney) = some true)
    (x_InvalidTable : K.lookup C_InvalidTable = some (excClassObj nm_InvalidTable q_InvalidTable C_InvalidTable N_InvalidTable bs_InvalidTable bm_InvalidTable true sn_InvalidTable sub_InvalidTable ab_InvalidTable col_InvalidTable dd_InvalidTable m0_InvalidTable m1_InvalidTable m2_InvalidTable m3_InvalidTable m5_InvalidTable "ValueError.__new__"))
    (rv_InvalidTable : PySem.HandSPX.refsVE bm_InvalidTable = true)
    (sa_InvalidTable : PySem.W.findIn K (.ref C_InvalidTable) "__setattr__" = some (some (.builtin "object.__setattr__")))
    (ga_InvalidTable : PySem.W.findIn K (.ref C_InvalidTable) "__getattribute__" = some (some (.builtin "BaseException.__getattribute__")))
    (gg_InvalidTable : PySem.W.findIn K (.ref C_InvalidTable) "__getattr__" = some none)
    (kC_InvalidTable : PySem.W.keepIn K (.ref C_InvalidTable) = true)
    (eC_InvalidTable : PySem.W.subIn K (.ref C_InvalidTable) (.type "BaseException") = some true)
    (tC_InvalidTable : PySem.W.typeIn K (.ref C_InvalidTable) = some (.type "type"))
    (hC_InvalidTable : PySem.W.hasDictIn K C_InvalidTable = true)
    (ic_InvalidTable : (PySem.W.clsIn K C_InvalidTable).isSome = true)
    (cc_InvalidTable : PySem.W.findIn K (.ref C_InvalidTable) "__class__" = some (some (.builtin "object.__class__")))
    (mo_InvalidTable : PySem.W.mroIn K C_InvalidTable (.type "object") = some true)
    (ti_InvalidTable : PySem.W.typeIn K (.ref f2) = some (.type "function"))
    (no_InvalidTable_what : PySem.W.findIn K (.ref C_InvalidTable) "what" = some none)
    (em_InvalidTable_SlotError : PySem.W.exmOne K (.ref C_InvalidTable) (.ref C_SlotError) = some true)
    (em_InvalidTable_InvalidTable : PySem.W.exmOne K (.ref C_InvalidTable) (.ref C_InvalidTable) = some true)
    (z_hn : PySem.W.specialIn K (.builtin "object.__class__") "__get__" = some (some (.builtin "getset_descriptor.__get__")))
    (z_ht : PySem.W.takesIn K (.builtin "object.__class__") = some true)
    (kt_InvalidTable_InvalidTable : PySem.W.kitOne K (.ref C_InvalidTable) (.ref C_InvalidTable) = some true)
    (kt_InvalidTable_InvalidTime : PySem.W.kitOne K (.ref C_InvalidTable) (.ref C_InvalidTime) = some false)
    (n_abs : PySem.W.nsIn K mainGlobals "abs" = some none)
    (n_any : PySem.W.nsIn K mainGlobals "any" = some none)
    (n_bool : PySem.W.nsIn K mainGlobals "bool" = some none)
    (n_enumerate : PySem.W.nsIn K mainGlobals "enumerate" = some none)
    (n_int : PySem.W.nsIn K mainGlobals "int" = some none)
    (n_isinstance : PySem.W.nsIn K mainGlobals "isinstance" = some none)
    (n_len : PySem.W.nsIn K mainGlobals "len" = some none)
    (n_list : PySem.W.nsIn K mainGlobals "list" = some none)
    (n_max : PySem.W.nsIn K mainGlobals "max" = some none)
    (n_min : PySem.W.nsIn K mainGlobals "min" = some none)
    (n_range : PySem.W.nsIn K mainGlobals "range" = some none)
    (n_sorted : PySem.W.nsIn K mainGlobals "sorted" = some none)
    (n_str : PySem.W.nsIn K mainGlobals "str" = some none)
    (n_sum : PySem.W.nsIn K mainGlobals "sum" = some none)
    (n_tuple : PySem.W.nsIn K mainGlobals "tuple" = some none)
    (i_gcd : PySem.W.nsIn K mainGlobals "gcd" = some (some (.builtin "math.gcd")))
    : ∃ fd : FuncData, (∀ (s : Shared) (v : Value), BindsTo s fd ⟨[v], []⟩ [("script", v)]) ∧ ∀ base : Heap, K.In base → base.Ns mainGlobals mg → FnOk l.prog w K mg base (L2.CX l.prog w) 6 fa fd ["script"] (sp_c_law K) := by
  have e := hfa.symm.trans (PySem.W.mg_of X G a15)
  cases e
  have T : Txt K mg { f_c_InvalidTime_init := f0, d_c_InvalidTime_init := (PySem.W.fnOf "__init__" "InvalidTime.__init__" (defArgs st_c_InvalidTime_init) (defBody st_c_InvalidTime_init) (defScope st_c_InvalidTime_init) .none kV0 dc0 pm0 an0 cd0 ct0), f_c_InvalidMoney_init := f1, d_c_InvalidMoney_init := (PySem.W.fnOf "__init__" "InvalidMoney.__init__" (defArgs st_c_InvalidMoney_init) (defBody st_c_InvalidMoney_init) (defScope st_c_InvalidMoney_init) .none kV1 dc1 pm1 an1 cd1 ct1), f_c_InvalidTable_init := f2, d_c_InvalidTable_init := (PySem.W.fnOf "__init__" "InvalidTable.__init__" (defArgs st_c_InvalidTable_init) (defBody st_c_InvalidTable_init) (defScope st_c_InvalidTable_init) .none kV2 dc2 pm2 an2 cd2 ct2), f_c_fraction := f3, d_c_fraction := (PySem.W.fnOf "fraction" "fraction" (defArgs st_c_fraction) (defBody st_c_fraction) (defScope st_c_fraction) .none kV3 dc3 pm3 an3 cd3 ct3), f_c_check_values := f4, d_c_check_values := (PySem.W.fnOf "check_values" "check_values" (defArgs st_c_check_values) (defBody st_c_check_values) (defScope st_c_check_values) .none kV4 dc4 pm4 an4 cd4 ct4), f_c_evenness := f5, d_c_evenness := (PySem.W.fnOf "evenness" "evenness" (defArgs st_c_evenness) (defBody st_c_evenness) (defScope st_c_evenness) .none kV5 dc5 pm5 an5 cd5 ct5), f_c_law_deck := f6, d_c_law_deck := (PySem.W.fnOf "_law_deck" "_law_deck" (defArgs st_c_law_deck) (defBody st_c_law_deck) (defScope st_c_law_deck) .none kV6 dc6 pm6 an6 cd6 ct6), f_c_law_take := f7, d_c_law_take := (PySem.W.fnOf "_law_take" "_law_take" (defArgs st_c_law_take) (defBody st_c_law_take) (defScope st_c_law_take) .none kV7 dc7 pm7 an7 cd7 ct7), f_c_law_plain := f8, d_c_law_plain := (PySem.W.fnOf "_law_plain" "_law_plain" (defArgs st_c_law_plain) (defBody st_c_law_plain) (defScope st_c_law_plain) .none kV8 dc8 pm8 an8 cd8 ct8), f_c_law_number := f9, d_c_law_number := (PySem.W.fnOf "_law_number" "_law_number" (defArgs st_c_law_number) (defBody st_c_law_number) (defScope st_c_law_number) .none kV9 dc9 pm9 an9 cd9 ct9), f_c_law_gcd := f10, d_c_law_gcd := (PySem.W.fnOf "_law_gcd" "_law_gcd" (defArgs st_c_law_gcd) (defBody st_c_law_gcd) (defScope st_c_law_gcd) .none kV10 dc10 pm10 an10 cd10 ct10), f_c_law_fraction := f11, d_c_law_fraction := (PySem.W.fnOf "_law_fraction" "_law_fraction" (defArgs st_c_law_fraction) (defBody st_c_law_fraction) (defScope st_c_law_fraction) .none kV11 dc11 pm11 an11 cd11 ct11), f_c_law_order := f12, d_c_law_order := (PySem.W.fnOf "_law_order" "_law_order" (defArgs st_c_law_order) (defBody st_c_law_order) (defScope st_c_law_order) .none kV12 dc12 pm12 an12 cd12 ct12), f_c_law_why := f13, d_c_law_why := (PySem.W.fnOf "_law_why" "_law_why" (defArgs st_c_law_why) (defBody st_c_law_why) (defScope st_c_law_why) .none kV13 dc13 pm13 an13 cd13 ct13), f_c_law_even := f14, d_c_law_even := (PySem.W.fnOf "_law_even" "_law_even" (defArgs st_c_law_even) (defBody st_c_law_even) (defScope st_c_law_even) .none kV14 dc14 pm14 an14 cd14 ct14), f_c_law := fa, d_c_law := (PySem.W.fnOf "law" "law" (defArgs st_c_law) (defBody st_c_law) (defScope st_c_law) .none kV15 dc15 pm15 an15 cd15 ct15), C_SlotError := C_SlotError, C_InvalidTime := C_InvalidTime, C_InvalidMoney := C_InvalidMoney, C_InvalidTable := C_InvalidTable } := {
    F_c_InvalidTime_init := fun_mk (st := st_c_InvalidTime_init) l0 c0 k0
    b_c_InvalidTime_init := (fun_mk (st := st_c_InvalidTime_init) l0 c0 k0).binds (ps := ["self", "what"]) fun _ _ _ _ _ _ us hl => match us, hl with | [_, _], _ => rfl
    F_c_InvalidMoney_init := fun_mk (st := st_c_InvalidMoney_init) l1 c1 k1
    b_c_InvalidMoney_init := (fun_mk (st := st_c_InvalidMoney_init) l1 c1 k1).binds (ps := ["self", "what"]) fun _ _ _ _ _ _ us hl => match us, hl with | [_, _], _ => rfl
    F_c_InvalidTable_init := fun_mk (st := st_c_InvalidTable_init) l2 c2 k2
    b_c_InvalidTable_init := (fun_mk (st := st_c_InvalidTable_init) l2 c2 k2).binds (ps := ["self", "what"]) fun _ _ _ _ _ _ us hl => match us, hl with | [_, _], _ => rfl
    F_c_fraction := fun_mk (st := st_c_fraction) l3 c3 k3
    b_c_fraction := (fun_mk (st := st_c_fraction) l3 c3 k3).binds (ps := ["above", "below"]) fun _ _ _ _ _ _ us hl => match us, hl with | [_, _], _ => rfl
    m_c_fraction := PySem.W.mg_of X G a3
    F_c_check_values := fun_mk (st := st_c_check_values) l4 c4 k4
    b_c_check_values := (fun_mk (st := st_c_check_values) l4 c4 k4).binds (ps := ["values"]) fun _ _ _ _ _ _ us hl => match us, hl with | [_], _ => rfl
    m_c_check_values := PySem.W.mg_of X G a4
    F_c_evenness := fun_mk (st := st_c_evenness) l5 c5 k5
    b_c_evenness := (fun_mk (st := st_c_evenness) l5 c5 k5).binds (ps := ["values"]) fun _ _ _ _ _ _ us hl => match us, hl with | [_], _ => rfl
    m_c_evenness := PySem.W.mg_of X G a5
    F_c_law_deck := fun_mk (st := st_c_law_deck) l6 c6 k6
    b_c_law_deck := (fun_mk (st := st_c_law_deck) l6 c6 k6).binds (ps := ["script", "cells", "each"]) fun _ _ _ _ _ _ us hl => match us, hl with | [_, _, _], _ => rfl
    m_c_law_deck := PySem.W.mg_of X G a6
    F_c_law_take := fun_mk (st := st_c_law_take) l7 c7 k7
    b_c_law_take := (fun_mk (st := st_c_law_take) l7 c7 k7).binds (ps := ["deck", "many"]) fun _ _ _ _ _ _ us hl => match us, hl with | [_, _], _ => rfl
    m_c_law_take := PySem.W.mg_of X G a7
    F_c_law_plain := fun_mk (st := st_c_law_plain) l8 c8 k8
    b_c_law_plain := (fun_mk (st := st_c_law_plain) l8 c8 k8).binds (ps := ["value"]) fun _ _ _ _ _ _ us hl => match us, hl with | [_], _ => rfl
    m_c_law_plain := PySem.W.mg_of X G a8
    F_c_law_number := fun_mk (st := st_c_law_number) l9 c9 k9
    b_c_law_number := (fun_mk (st := st_c_law_number) l9 c9 k9).binds (ps := ["deck"]) fun _ _ _ _ _ _ us hl => match us, hl with | [_], _ => rfl
    m_c_law_number := PySem.W.mg_of X G a9
    F_c_law_gcd := fun_mk (st := st_c_law_gcd) l10 c10 k10
    b_c_law_gcd := (fun_mk (st := st_c_law_gcd) l10 c10 k10).binds (ps := ["one", "two"]) fun _ _ _ _ _ _ us hl => match us, hl with | [_, _], _ => rfl
    m_c_law_gcd := PySem.W.mg_of X G a10
    F_c_law_fraction := fun_mk (st := st_c_law_fraction) l11 c11 k11
    b_c_law_fraction := (fun_mk (st := st_c_law_fraction) l11 c11 k11).binds (ps := ["above", "below"]) fun _ _ _ _ _ _ us hl => match us, hl with | [_, _], _ => rfl
    m_c_law_fraction := PySem.W.mg_of X G a11
    F_c_law_order := fun_mk (st := st_c_law_order) l12 c12 k12
    b_c_law_order := (fun_mk (st := st_c_law_order) l12 c12 k12).binds (ps := ["deck", "size"]) fun _ _ _ _ _ _ us hl => match us, hl with | [_, _], _ => rfl
    m_c_law_order := PySem.W.mg_of X G a12
    F_c_law_why := fun_mk (st := st_c_law_why) l13 c13 k13
    b_c_law_why := (fun_mk (st := st_c_law_why) l13 c13 k13).binds (ps := ["values"]) fun _ _ _ _ _ _ us hl => match us, hl with | [_], _ => rfl
    m_c_law_why := PySem.W.mg_of X G a13
    F_c_law_even := fun_mk (st := st_c_law_even) l14 c14 k14
    b_c_law_even := (fun_mk (st := st_c_law_even) l14 c14 k14).binds (ps := ["values"]) fun _ _ _ _ _ _ us hl => match us, hl with | [_], _ => rfl
    m_c_law_even := PySem.W.mg_of X G a14
    F_c_law := fun_mk (st := st_c_law) l15 c15 k15
    b_c_law := (fun_mk (st := st_c_law) l15 c15 k15).binds (ps := ["script"]) fun _ _ _ _ _ _ us hl => match us, hl with | [_], _ => rfl
    m_c_law := PySem.W.mg_of X G a15
    m_SlotError := PySem.W.mg_of X G g_SlotError
    bc_SlotError := ⟨b1_SlotError, b2_SlotError, b3_SlotError⟩
    m_InvalidTime := PySem.W.mg_of X G g_InvalidTime
    ox_InvalidTime := ⟨⟨_, _, _, _, _, _, _, _, _, _, _, _, _, _, _, x_InvalidTime, rv_InvalidTime⟩, sa_InvalidTime, eC_InvalidTime, tC_InvalidTime, kC_InvalidTime⟩
    in_InvalidTime := a0
    ti_InvalidTime := ti_InvalidTime
    no_InvalidTime_what := no_InvalidTime_what
    xf_InvalidTime := ⟨ga_InvalidTime, gg_InvalidTime, eC_InvalidTime, hC_InvalidTime⟩
    is_InvalidTime := ⟨ic_InvalidTime, ga_InvalidTime, gg_InvalidTime, eC_InvalidTime, cc_InvalidTime, z_hn, z_ht, mo_InvalidTime⟩
    em_InvalidTime_SlotError := em_InvalidTime_SlotError
    em_InvalidTime_InvalidTime := em_InvalidTime_InvalidTime
    m_InvalidMoney := PySem.W.mg_of X G g_InvalidMoney
    ox_InvalidMoney := ⟨⟨_, _, _, _, _, _, _, _, _, _, _, _, _, _, _, x_InvalidMoney, rv_InvalidMoney⟩, sa_InvalidMoney, eC_InvalidMoney, tC_InvalidMoney, kC_InvalidMoney⟩
    in_InvalidMoney := a1
    ti_InvalidMoney := ti_InvalidMoney
    no_InvalidMoney_what := no_InvalidMoney_what
    xf_InvalidMoney := ⟨ga_InvalidMoney, gg_InvalidMoney, eC_InvalidMoney, hC_InvalidMoney⟩
    is_InvalidMoney := ⟨ic_InvalidMoney, ga_InvalidMoney, gg_InvalidMoney, eC_InvalidMoney, cc_InvalidMoney, z_hn, z_ht, mo_InvalidMoney⟩
    em_InvalidMoney_SlotError := em_InvalidMoney_SlotError
    em_InvalidMoney_InvalidMoney := em_InvalidMoney_InvalidMoney
    m_InvalidTable := PySem.W.mg_of X G g_InvalidTable
    ox_InvalidTable := ⟨⟨_, _, _, _, _, _, _, _, _, _, _, _, _, _, _, x_InvalidTable, rv_InvalidTable⟩, sa_InvalidTable, eC_InvalidTable, tC_InvalidTable, kC_InvalidTable⟩
    in_InvalidTable := a2
    ti_InvalidTable := ti_InvalidTable
    no_InvalidTable_what := no_InvalidTable_what
    xf_InvalidTable := ⟨ga_InvalidTable, gg_InvalidTable, eC_InvalidTable, hC_InvalidTable⟩
    is_InvalidTable := ⟨ic_InvalidTable, ga_InvalidTable, gg_InvalidTable, eC_InvalidTable, cc_InvalidTable, z_hn, z_ht, mo_InvalidTable⟩
    em_InvalidTable_SlotError := em_InvalidTable_SlotError
    em_InvalidTable_InvalidTable := em_InvalidTable_InvalidTable
    kt_InvalidTable_InvalidTable := kt_InvalidTable_InvalidTable
    kt_InvalidTable_InvalidTime := kt_InvalidTable_InvalidTime
    n_abs := PySem.W.mg_none_of X G n_abs
    n_any := PySem.W.mg_none_of X G n_any
    n_bool := PySem.W.mg_none_of X G n_bool
    n_enumerate := PySem.W.mg_none_of X G n_enumerate
    n_int := PySem.W.mg_none_of X G n_int
    n_isinstance := PySem.W.mg_none_of X G n_isinstance
    n_len := PySem.W.mg_none_of X G n_len
    n_list := PySem.W.mg_none_of X G n_list
    n_max := PySem.W.mg_none_of X G n_max
    n_min := PySem.W.mg_none_of X G n_min
    n_range := PySem.W.mg_none_of X G n_range
    n_sorted := PySem.W.mg_none_of X G n_sorted
    n_str := PySem.W.mg_none_of X G n_str
    n_sum := PySem.W.mg_none_of X G n_sum
    n_tuple := PySem.W.mg_none_of X G n_tuple
    i_gcd := PySem.W.mg_of X G i_gcd
  }
  exact ⟨(PySem.W.fnOf "law" "law" (defArgs st_c_law) (defBody st_c_law) (defScope st_c_law) .none kV15 dc15 pm15 an15 cd15 ct15), fun s v => .of_eq rfl, fun base _ _ => ok_c_law T⟩
theorem walk {l : PySem.W.OpenLaw} {q : Program} {loose : List Str} {XP : (Str → Option Value) → Heap → Prop} {YP : World → Heap → Prop} {d : DefRec} {K : Params → PySem.W.Frag} (hn : l.most = some 63) (hdf : d.params.defaults = [])
    (hY : ∀ (w : World) (h : Heap), YP w h → (K w.params).In h)
    (F : ∀ (w : World) (mg : Str → Option Value) (fa : Addr) (h : Heap), (K w.params).In h → h.Ns mainGlobals mg → mg d.name = some (.ref fa) →
      ∃ fd : FuncData, (∀ (s : Shared) (u : Value), BindsTo s fd ⟨[u], []⟩ [("script", u)]) ∧ ∀ base : Heap, (K w.params).In base → base.Ns mainGlobals mg → FnOk l.prog w (K w.params) mg base (L2.CX l.prog w) 6 fa fd ["script"] (sp_c_law (K w.params))) :
    PySem.W.WalkO q loose XP YP l.row.toRowW d [] (fun f vs => PySem.call f vs) :=
  L2.walk_of (n := 63) (k := 6) (x := "script") (CX := fun w => L2.CX l.prog w) (sp := fun w => sp_c_law (K w.params)) hn (by decide) hdf ⟨rfl, by decide, by decide⟩ hY F (fun _ _ a ns hl _ hS => ⟨a, ns, rfl, hS, hl, fun _ => rfl⟩)
    fun _ _ _ _ _ z => by obtain ⟨_, _, _, _, _, _, _, _, _, _, _, _, z⟩ := z; exact z
end K52
open PySem PySem.W PyProof.Rows
set_option maxRecDepth 100000 in
set_option maxHeartbeats 0 in
theorem PySem.Challenge.cw_slotwork_k52_evenness_holds : PySem.Challenge.rw_slotwork_k52_evenness.Holds := by
  w_on; o_law; k_head; (case hw => w_witness2)
  k_fill
  refine K52.walk (l := PySem.Challenge.rw_slotwork_k52_evenness) rfl rfl (fun w h Y => PySem.W.kIn_of Y) ?F
  case F =>
    intro w mg fa h KX G hmg
    refine' K52.all_mk KX G hmg ?g_SlotError ?g_InvalidTime ?g_InvalidMoney ?g_InvalidTable ?a0 ?l0 ?c0 ?k0 ?a1 ?l1 ?c1 ?k1 ?a2 ?l2 ?c2 ?k2 ?a3 ?l3 ?c3 ?k3 ?a4 ?l4 ?c4 ?k4 ?a5 ?l5 ?c5 ?k5 ?a6 ?l6 ?c6 ?k6 ?a7 ?l7 ?c7 ?k7 ?a8 ?l8 ?c8 ?k8 ?a9 ?l9 ?c9 ?k9 ?a10 ?l10 ?c10 ?k10 ?a11 ?l11 ?c11 ?k11 ?a12 ?l12 ?c12 ?k12 ?a13 ?l13 ?c13 ?k13 ?a14 ?l14 ?c14 ?k14 ?a15 ?l15 ?c15 ?k15 ?b1_SlotError ?b2_SlotError ?b3_SlotError ?x_InvalidTime ?rv_InvalidTime ?sa_InvalidTime ?ga_InvalidTime ?gg_InvalidTime ?kC_InvalidTime ?eC_InvalidTime ?tC_InvalidTime ?hC_InvalidTime ?ic_InvalidTime ?cc_InvalidTime ?mo_InvalidTime ?ti_InvalidTime ?no_InvalidTime_what ?em_InvalidTime_SlotError ?em_InvalidTime_InvalidTime ?x_InvalidMoney ?rv_InvalidMoney ?sa_InvalidMoney ?ga_InvalidMoney ?gg_InvalidMoney ?kC_InvalidMoney ?eC_InvalidMoney ?tC_InvalidMoney ?hC_InvalidMoney ?ic_InvalidMoney ?cc_InvalidMoney ?mo_InvalidMoney ?ti_InvalidMoney ?no_InvalidMoney_what ?em_InvalidMoney_SlotError ?em_InvalidMoney_InvalidMoney ?x_InvalidTable ?rv_InvalidTable ?sa_InvalidTable ?ga_InvalidTable ?gg_InvalidTable ?kC_InvalidTable ?eC_InvalidTable ?tC_InvalidTable ?hC_InvalidTable ?ic_InvalidTable ?cc_InvalidTable ?mo_InvalidTable ?ti_InvalidTable ?no_InvalidTable_what ?em_InvalidTable_SlotError ?em_InvalidTable_InvalidTable ?z_hn ?z_ht ?kt_InvalidTable_InvalidTable ?kt_InvalidTable_InvalidTime ?n_abs ?n_any ?n_bool ?n_enumerate ?n_int ?n_isinstance ?n_len ?n_list ?n_max ?n_min ?n_range ?n_sorted ?n_str ?n_sum ?n_tuple ?i_gcd
    (case g_SlotError => first | k_is | rfl | decide +kernel)
    (case g_InvalidTime => first | k_is | rfl | decide +kernel)
    (case g_InvalidMoney => first | k_is | rfl | decide +kernel)
    (case g_InvalidTable => first | k_is | rfl | decide +kernel)
    (case a0 => first | k_is | rfl | decide +kernel)
    (case l0 => first | k_is | rfl | decide +kernel)
    (case c0 => first | k_is | rfl | decide +kernel)
    (case k0 => first | k_is | rfl | decide +kernel)
    (case a1 => first | k_is | rfl | decide +kernel)
    (case l1 => first | k_is | rfl | decide +kernel)
    (case c1 => first | k_is | rfl | decide +kernel)
    (case k1 => first | k_is | rfl | decide +kernel)
    (case a2 => first | k_is | rfl | decide +kernel)
    (case l2 => first | k_is | rfl | decide +kernel)
    (case c2 => first | k_is | rfl | decide +kernel)
    (case k2 => first | k_is | rfl | decide +kernel)
    (case a3 => first | k_is | rfl | decide +kernel)
    (case l3 => first | k_is | rfl | decide +kernel)
    (case c3 => first | k_is | rfl | decide +kernel)
    (case k3 => first | k_is | rfl | decide +kernel)
    (case a4 => first | k_is | rfl | decide +kernel)
    (case l4 => first | k_is | rfl | decide +kernel)
    (case c4 => first | k_is | rfl | decide +kernel)
    (case k4 => first | k_is | rfl | decide +kernel)
    (case a5 => first | k_is | rfl | decide +kernel)
    (case l5 => first | k_is | rfl | decide +kernel)
    (case c5 => first | k_is | rfl | decide +kernel)
    (case k5 => first | k_is | rfl | decide +kernel)
    (case a6 => first | k_is | rfl | decide +kernel)
    (case l6 => first | k_is | rfl | decide +kernel)
    (case c6 => first | k_is | rfl | decide +kernel)
    (case k6 => first | k_is | rfl | decide +kernel)
    (case a7 => first | k_is | rfl | decide +kernel)
    (case l7 => first | k_is | rfl | decide +kernel)
    (case c7 => first | k_is | rfl | decide +kernel)
    (case k7 => first | k_is | rfl | decide +kernel)
    (case a8 => first | k_is | rfl | decide +kernel)
    (case l8 => first | k_is | rfl | decide +kernel)
    (case c8 => first | k_is | rfl | decide +kernel)
    (case k8 => first | k_is | rfl | decide +kernel)
    (case a9 => first | k_is | rfl | decide +kernel)
    (case l9 => first | k_is | rfl | decide +kernel)
    (case c9 => first | k_is | rfl | decide +kernel)
    (case k9 => first | k_is | rfl | decide +kernel)
    (case a10 => first | k_is | rfl | decide +kernel)
    (case l10 => first | k_is | rfl | decide +kernel)
    (case c10 => first | k_is | rfl | decide +kernel)
    (case k10 => first | k_is | rfl | decide +kernel)
    (case a11 => first | k_is | rfl | decide +kernel)
    (case l11 => first | k_is | rfl | decide +kernel)
    (case c11 => first | k_is | rfl | decide +kernel)
    (case k11 => first | k_is | rfl | decide +kernel)
    (case a12 => first | k_is | rfl | decide +kernel)
    (case l12 => first | k_is | rfl | decide +kernel)
    (case c12 => first | k_is | rfl | decide +kernel)
    (case k12 => first | k_is | rfl | decide +kernel)
    (case a13 => first | k_is | rfl | decide +kernel)
    (case l13 => first | k_is | rfl | decide +kernel)
    (case c13 => first | k_is | rfl | decide +kernel)
    (case k13 => first | k_is | rfl | decide +kernel)
    (case a14 => first | k_is | rfl | decide +kernel)
    (case l14 => first | k_is | rfl | decide +kernel)
    (case c14 => first | k_is | rfl | decide +kernel)
    (case k14 => first | k_is | rfl | decide +kernel)
    (case a15 => first | k_is | rfl | decide +kernel)
    (case l15 => first | k_is | rfl | decide +kernel)
    (case c15 => first | k_is | rfl | decide +kernel)
    (case k15 => first | k_is | rfl | decide +kernel)
    (case b1_SlotError => first | k_is | rfl | decide +kernel)
    (case b2_SlotError => first | k_is | rfl | decide +kernel)
    (case b3_SlotError => first | k_is | rfl | decide +kernel)
    (case x_InvalidTime => first | k_is | rfl | decide +kernel)
    (case rv_InvalidTime => first | k_is | rfl | decide +kernel)
    (case sa_InvalidTime => first | k_is | rfl | decide +kernel)
    (case ga_InvalidTime => first | k_is | rfl | decide +kernel)
    (case gg_InvalidTime => first | k_is | rfl | decide +kernel)
    (case kC_InvalidTime => first | k_is | rfl | decide +kernel)
    (case eC_InvalidTime => first | k_is | rfl | decide +kernel)
    (case tC_InvalidTime => first | k_is | rfl | decide +kernel)
    (case hC_InvalidTime => first | k_is | rfl | decide +kernel)
    (case ic_InvalidTime => first | k_is | rfl | decide +kernel)
    (case cc_InvalidTime => first | k_is | rfl | decide +kernel)
    (case mo_InvalidTime => first | k_is | rfl | decide +kernel)
    (case ti_InvalidTime => first | k_is | rfl | decide +kernel)
    (case no_InvalidTime_what => first | k_is | rfl | decide +kernel)
    (case em_InvalidTime_SlotError => first | k_is | rfl | decide +kernel)
    (case em_InvalidTime_InvalidTime => first | k_is | rfl | decide +kernel)
    (case x_InvalidMoney => first | k_is | rfl | decide +kernel)
    (case rv_InvalidMoney => first | k_is | rfl | decide +kernel)
    (case sa_InvalidMoney => first | k_is | rfl | decide +kernel)
    (case ga_InvalidMoney => first | k_is | rfl | decide +kernel)
    (case gg_InvalidMoney => first | k_is | rfl | decide +kernel)
    (case kC_InvalidMoney => first | k_is | rfl | decide +kernel)
    (case eC_InvalidMoney => first | k_is | rfl | decide +kernel)
    (case tC_InvalidMoney => first | k_is | rfl | decide +kernel)
    (case hC_InvalidMoney => first | k_is | rfl | decide +kernel)
    (case ic_InvalidMoney => first | k_is | rfl | decide +kernel)
    (case cc_InvalidMoney => first | k_is | rfl | decide +kernel)
    (case mo_InvalidMoney => first | k_is | rfl | decide +kernel)
    (case ti_InvalidMoney => first | k_is | rfl | decide +kernel)
    (case no_InvalidMoney_what => first | k_is | rfl | decide +kernel)
    (case em_InvalidMoney_SlotError => first | k_is | rfl | decide +kernel)
    (case em_InvalidMoney_InvalidMoney => first | k_is | rfl | decide +kernel)
    (case x_InvalidTable => first | k_is | rfl | decide +kernel)
    (case rv_InvalidTable => first | k_is | rfl | decide +kernel)
    (case sa_InvalidTable => first | k_is | rfl | decide +kernel)
    (case ga_InvalidTable => first | k_is | rfl | decide +kernel)
    (case gg_InvalidTable => first | k_is | rfl | decide +kernel)
    (case kC_InvalidTable => first | k_is | rfl | decide +kernel)
    (case eC_InvalidTable => first | k_is | rfl | decide +kernel)
    (case tC_InvalidTable => first | k_is | rfl | decide +kernel)
    (case hC_InvalidTable => first | k_is | rfl | decide +kernel)
    (case ic_InvalidTable => first | k_is | rfl | decide +kernel)
    (case cc_InvalidTable => first | k_is | rfl | decide +kernel)
    (case mo_InvalidTable => first | k_is | rfl | decide +kernel)
    (case ti_InvalidTable => first | k_is | rfl | decide +kernel)
    (case no_InvalidTable_what => first | k_is | rfl | decide +kernel)
    (case em_InvalidTable_SlotError => first | k_is | rfl | decide +kernel)
    (case em_InvalidTable_InvalidTable => first | k_is | rfl | decide +kernel)
    (case z_hn => first | k_is | rfl | decide +kernel)
    (case z_ht => first | k_is | rfl | decide +kernel)
    (case kt_InvalidTable_InvalidTable => first | k_is | rfl | decide +kernel)
    (case kt_InvalidTable_InvalidTime => first | k_is | rfl | decide +kernel)
    (case n_abs => first | k_is | rfl | decide +kernel)
    (case n_any => first | k_is | rfl | decide +kernel)
    (case n_bool => first | k_is | rfl | decide +kernel)
    (case n_enumerate => first | k_is | rfl | decide +kernel)
    (case n_int => first | k_is | rfl | decide +kernel)
    (case n_isinstance => first | k_is | rfl | decide +kernel)
    (case n_len => first | k_is | rfl | decide +kernel)
    (case n_list => first | k_is | rfl | decide +kernel)
    (case n_max => first | k_is | rfl | decide +kernel)
    (case n_min => first | k_is | rfl | decide +kernel)
    (case n_range => first | k_is | rfl | decide +kernel)
    (case n_sorted => first | k_is | rfl | decide +kernel)
    (case n_str => first | k_is | rfl | decide +kernel)
    (case n_sum => first | k_is | rfl | decide +kernel)
    (case n_tuple => first | k_is | rfl | decide +kernel)
    (case i_gcd => first | k_is | rfl | decide +kernel)
