import PyProof.Rows.All
import Wide.All
import OpenK.AllK
import Wide.FinOn
import HandS.ForMost
import HandS.ForExc
import HandS.ExcInit
import HandS.ExcField
import HandS.IsInst
import HandS.Style
import HandS.Gcd
import HandS.Wide
import HandS.Deep
import HandS.Flow
import HandS.Zip
import HandS.Evl
import HandS.Walk
import HandS.SortInts
import HandS.SortKw
import HandS.Conv
import HandS.ExcValue
import KE.KExcIs
import PySem.Challenge.RW_slotwork_k53_whole_queues
set_option Elab.async false
set_option linter.all false
set_option maxRecDepth 100000
set_option maxHeartbeats 4000000
namespace Sw
open PySem PySem.Spec PyProof.Rows L2
section
variable {X : Cx}
/-- what the written part says of the own class B over ValueError, so that B.__init__(self, ..) is ValueError's -/
structure BaseC (K : PySem.W.Frag) (B : Addr) : Prop where
  sp : PySem.W.specialIn K (.ref B) "__getattribute__" = some (some (.builtin "type.__getattribute__"))
  rd : PySem.W.readsIn K B (.type "type") = true
  iv : PySem.W.findCls K (.ref B) (.type "type") "__init__" = some (.val (.builtin "ValueError.__init__"))
theorem pe_binit {x : Str} {B : Addr} {p1 p2 pos : Pos} {e : Expr} {es : List Expr} {ta : TA} {pl : Sem Bool} (T : BaseC X.K B) (hg : Gl X x) (hm : X.mg x = some (.ref B)) (ha : PA X (e :: es) ta)
    (hdb : (x == ("__debug__" : Str)) = false := by decide)
    (hc : eval (.Call (.Attribute (.Name x p1) "__init__" p2) (e :: es) [] pos) X.env = (do
      let o ← eval (.Name x p1) X.env
      standAt p2.atName
      let (g, fst) ← holding [o] (getMethod o "__init__" pl)
      callWith pos g fst (backTo pos (starEach (e :: es) X.env)) (backToKw pos (keywordEach [] X.env))) := by rfl)
    (he : starEach (e :: es) X.env = (false, eval e X.env) :: starEach es X.env := by rfl) (hpl : (backTo pos (starEach es X.env)).any (·.1) = false := by rfl) :
    PE X (.Call (.Attribute (.Name x p1) "__init__" p2) (e :: es) [] pos) (tVeI X.K ta) := by
  refine ⟨fun pins s σ H Q I h => ?_⟩
  refine PySem.W.methodCall_KW (ld_glob I hg hm ?_ hdb) hc
  refine PySem.W.method_cls I.kIn T.sp ?_
  refine PySem.W.cls_value I.kIn T.rd T.iv (by decide +kernel) ?_
  refine PyProof.Rows.callWith_method1 (thn (ha.run pos pins _ σ H _ (I.tok _) h) fun us s1 ⟨vs, H1, I1, r1, a, C, ws, ev, hl, T', ea, q⟩ => ?_) he hpl
  subst ev
  cases r1 with
  | @cons _ u0 _ ur ra rw' =>
    obtain rfl : u0 = Value.ref a := ra
    refine oinit_ok T' I1 ea ?_ fun s' J => ⟨.non, H1, J, rfl, q⟩
    rw [← Paired.length rw', sizeLine_eq]
    omega

/-- isinstance(error, c), error the exception that the suite holds, at a, of the class at D -/
structure IsC (K : PySem.W.Frag) (D : Addr) : Prop where
  hc : (PySem.W.clsIn K D).isSome = true
  hg : PySem.W.findIn K (.ref D) "__getattribute__" = some (some (.builtin "BaseException.__getattribute__"))
  hk : PySem.W.findIn K (.ref D) "__getattr__" = some none
  hs : PySem.W.subIn K (.ref D) (.type "BaseException") = some true
  ha : PySem.W.findIn K (.ref D) "__class__" = some (some (.builtin "object.__class__"))
  hn : PySem.W.specialIn K (.builtin "object.__class__") "__get__" = some (some (.builtin "getset_descriptor.__get__"))
  ht : PySem.W.takesIn K (.builtin "object.__class__") = some true
  hm : PySem.W.mroIn K D (.type "object") = some true
def rIsX (K : PySem.W.Frag) (a : Addr) (cls : Value) (d : Option Addr) : List V → Hp → VK → Prop := fun xs H Q =>
  ∃ (D C : Addr) (b : Bool) (dd : Addr) (fs : List (Str × V)), xs = [.ref a, .ref C] ∧ cls = .ref D ∧ IsC K D ∧ d = some dd ∧ H dd = some (.xd fs) ∧ PySem.W.kitOne K (.ref D) (.ref C) = some b ∧ Q (.bl b) H
theorem call_isX {a : Addr} {cls : Value} {d : Option Addr} {oe : Obj} {pn : List (Addr × Obj)} (hz : Zc cls d oe) (hf : ∃ vs, oe.data = .fields vs) : CallR (X.suite a ((a, oe) :: pn)) (.builtin "isinstance") (rIsX X.K a cls d) := by
  intro pins s σ H xs us Q I r h
  obtain ⟨D, C, b, dd, fs, rfl, rfl, T, rfl, ea, e, q⟩ := h
  cases r with
  | cons rx rr =>
    cases rr with
    | cons rt rr =>
      cases rr
      cases rx
      cases rt
      have hget := (I.pin (a, oe) (List.mem_append_left _ List.mem_cons_self)).1
      obtain ⟨mA, hns, hr⟩ := (show ObjOk X.prog X.w H s.heap dd (.xd fs) from I.hok dd _ ea)
      obtain ⟨od, ho, hl⟩ := lookIn_ns hns
      obtain ⟨vs, hd⟩ := hf
      have J : PySem.W.InstAt s.heap a oe D (some od) := ⟨hget, hz.1, by unfold PySem.W.notCls; rw [hd] <;> rfl, by rw [hz.2]; exact ho⟩
      exact PySem.W.kia_one (PySem.W.kitx_exc T.hc T.hg T.hk T.hs T.ha T.hn T.ht T.hm) I.kIn J e (fun z => nomatch z) fun tk => ⟨.bl b, H, I.tok tk, rfl, q⟩
end

/-! ### // by a divisor of any sign, of many digits -/
def CDivZ (_ j : Int) : Prop := j ≠ 0 ∧ j.natAbs.log2 < 9000
theorem op_fdivZ {X : Cx} : OpR X (binaryOp .FloorDiv) (rI CDivZ fun i j => .int (i.fdiv j)) := opI fun i j _ _ _ _ _ hc k => floordiv_int hc.1 k (.inl (PyProof.noPylong_of_log2 hc.2))
theorem cdivZ_of {i j : Int} {b : Nat} (h : j ≠ 0) (hb : j.natAbs < 2 ^ b) (h0 : 0 < b) (h9 : b ≤ 9000) : CDivZ i j := ⟨h, Nat.lt_of_lt_of_le (PySem.Flt.log2_lt_of h0 hb) h9⟩

/-! ### heaps -/
theorem upd_self {H : Hp} {p : Addr} {o : HO} (h : H p = some o) : upd H p o = H := by
  funext b
  by_cases e : b = p
  · rw [e, upd_same, h]
  · rw [upd_ne e]
theorem _root_.L2.Same.new {H : Hp} {p : Addr} {o : HO} (h : H p = none) : Same H (upd H p o) := fun b u e => by
  rw [upd_ne (ne_of_none e h)]
  exact e
theorem _root_.L2.Same.then_new {H H' : Hp} {p : Addr} {o : HO} (e : Same H H') (h : H' p = none) : Same H (upd H' p o) := e.trans (Same.new h)
/-- what H does not know may change -/
theorem _root_.L2.Same.mut {H H' : Hp} {p : Addr} {o : HO} (e : Same H H') (h : H p = none) : Same H (upd H' p o) := fun b u ha => by
  rw [upd_ne (ne_of_none ha h)]
  exact e b u ha
theorem _root_.L2.Same.tup {K : PySem.W.Frag} {H H' : Hp} {a : Addr} {xs : List V} (e : Same H H') (h : SqT K H a xs) : SqT K H' a xs := by
  rcases h with (h | ⟨o, h⟩) | h
  · exact .inl (.inl (e _ _ h))
  · exact .inl (.inr ⟨o, e _ _ h⟩)
  · exact .inr h

theorem same_none {H : Hp} : Same (fun _ => none) H := fun _ _ e => by cases e

/-! ### raise C(w) -/
/-- C(w) is raised, w its what -/
def raisesW (C : Addr) (w : Str) (H : Hp) (E : XK) : Prop := ∀ d H', Same H H' → H' d = some (.xd [("what", .str w)]) → E (.ref C) (some d) H'
theorem raisesW.mono {C : Addr} {w : Str} {H H' : Hp} {E : XK} (h : raisesW C w H E) (s : Same H H') : raisesW C w H' E := fun d H2 s2 hd => h d H2 (s.trans s2) hd
def sp_exinit (C : Addr) : Sp := fun vs H Q _ => ∃ (x : Addr) (w : Str), vs = [.ref x, .str w] ∧ H x = some (exo x C none) ∧ w.length ≤ 1000 ∧ ∀ dx, H dx = none → dx ≠ x → Q .non (upd (upd H dx (exd dx [("what", .str w)])) x (exo x C (some dx)))
theorem raise_ok {C : Addr} {w : Str} {H : Hp} {E : XK} (h : raisesW C w H E) (hl : w.length ≤ 1000) : ∀ a, H a = none → sp_exinit C (.ref a :: ([.str w] ++ [])) (upd H a (exo a C none))
    (fun v H2 => v = .non ∧ ∃ (d : Addr) (fs : List (Str × V)), H2 a = some (exo a C (some d)) ∧ H2 d = some (exd d fs) ∧ H d = none ∧ E (.ref C) (some d) (upd (del H2 a) d (.xd fs))) (fun _ _ _ => False) := fun a ha =>
  ⟨a, w, rfl, upd_same, hl, fun dx hd hne => by
    have hd' : H dx = none := by rw [upd_ne hne] at hd; exact hd
    refine ⟨rfl, dx, _, upd_same, by rw [upd_ne hne, upd_same], hd', h dx _ (fun b o e => ?_) upd_same⟩
    have n1 : b ≠ dx := ne_of_none e hd'
    have n2 : b ≠ a := ne_of_none e ha
    rw [upd_ne n1, del_ne n2, upd_ne n2, upd_ne n1, upd_ne n2]
    exact e⟩

/-! ### the deck: its numbers in the order in which they are taken -/
def dk (D : List Int) : HO := .lst (D.reverse.map V.int)
def tk (D : List Int) (m : Int) : Int := D.headD 0 % m
theorem tk_nonneg (D : List Int) {m : Int} (h : 0 < m) : 0 ≤ tk D m := Int.emod_nonneg _ (by omega)
theorem tk_lt (D : List Int) {m : Int} (h : 0 < m) : tk D m < m := Int.emod_lt_of_pos _ h
def sp_take0 : Sp := fun vs H Q _ => ∃ (d : Addr) (D : List Int) (m : Int), vs = [.ref d, .int m] ∧ H d = some (dk D) ∧ 0 < m ∧ Q (.int (tk D m)) (upd H d (dk D.tail))
@[irreducible] def sp_take : Sp := sp_take0
theorem sp_take_eq : sp_take = sp_take0 := by unfold sp_take; rfl
theorem dk_last {x : Int} {D : List Int} : ((x :: D).reverse.map V.int)[((x :: D).reverse.map V.int).length - 1]? = some (V.int x) := by simp
theorem dk_drop {x : Int} {D : List Int} : ((x :: D).reverse.map V.int).dropLast = D.reverse.map V.int := by simp
def sp_deck (K : PySem.W.Frag) : Sp := fun vs H Q _ => ∃ (sa : Addr) (ns : List Int) (c e : Int), vs = [.ref sa, .int c, .int e] ∧ SqL K H sa (ns.map V.int) ∧ ns.length ≤ 1000 ∧ 0 ≤ c ∧ c ≤ 1000 ∧ 0 ≤ e ∧ e ≤ 100 ∧
  ∀ (D : List Int) (p : Addr) (H' : Hp), H p = none → Same H H' → H' p = some (dk D) → Q (.ref p) H'

/-! ### data: all that is known to a heap stays -/
mutual
theorem dp_same {K : PySem.W.Frag} {H H' : Hp} (s : Same H H') : ∀ (d : PyData) (v : V), Dp K H v d → Dp K H' v d
  | .none, _, h => by cases h; exact .non
  | .bool b, _, h => by cases h; exact .bl b
  | .int i, _, h => by cases h; exact .int i
  | .str x, _, h => by cases h; exact .str x
  | .list ds, _, h => by
    cases h with
    | lst h1 h2 => exact .lst (s.seq h1) (dpAll_same s ds _ h2)
  | .tuple ds, _, h => by
    cases h with
    | tup h1 h2 => exact .tup (s.tup h1) (dpAll_same s ds _ h2)
  | .dict _, _, h => nomatch h
theorem dpAll_same {K : PySem.W.Frag} {H H' : Hp} (s : Same H H') : ∀ (ds : List PyData) (vs : List V), DpAll K H vs ds → DpAll K H' vs ds
  | [], _, h => by cases h; exact .nil
  | d :: ds, _, h => by
    cases h with
    | cons h1 h2 => exact .cons (dp_same s d _ h1) (dpAll_same s ds _ h2)
end
/-! data all of whose cells lie in S -/
mutual
inductive DN (S : Addr → Prop) (H : Hp) : V → PyData → Prop
  | non : DN S H .non .none
  | bl (b : Bool) : DN S H (.bl b) (.bool b)
  | int (i : Int) : DN S H (.int i) (.int i)
  | str (x : Str) : DN S H (.str x) (.str x)
  | lst {a : Addr} {xs : List V} {ds : List PyData} : S a → H a = some (.lst xs) → DNs S H xs ds → DN S H (.ref a) (.list ds)
  | tup {a : Addr} {xs : List V} {ds : List PyData} : S a → H a = some (.tup xs) → DNs S H xs ds → DN S H (.ref a) (.tuple ds)
inductive DNs (S : Addr → Prop) (H : Hp) : List V → List PyData → Prop
  | nil : DNs S H [] []
  | cons {v : V} {vs : List V} {d : PyData} {ds : List PyData} : DN S H v d → DNs S H vs ds → DNs S H (v :: vs) (d :: ds)
end
mutual
theorem DN.dp {K : PySem.W.Frag} {S : Addr → Prop} {H : Hp} : ∀ (d : PyData) (v : V), DN S H v d → Dp K H v d
  | .none, _, h => by cases h; exact .non
  | .bool b, _, h => by cases h; exact .bl b
  | .int i, _, h => by cases h; exact .int i
  | .str x, _, h => by cases h; exact .str x
  | .list ds, _, h => by
    cases h with
    | lst _ h1 h2 => exact .lst (SqL.of h1) (DNs.dp ds _ h2)
  | .tuple ds, _, h => by
    cases h with
    | tup _ h1 h2 => exact .tup (SqT.of h1) (DNs.dp ds _ h2)
  | .dict _, _, h => nomatch h
theorem DNs.dp {K : PySem.W.Frag} {S : Addr → Prop} {H : Hp} : ∀ (ds : List PyData) (vs : List V), DNs S H vs ds → DpAll K H vs ds
  | [], _, h => by cases h; exact .nil
  | d :: ds, _, h => by
    cases h with
    | cons h1 h2 => exact .cons (DN.dp d _ h1) (DNs.dp ds _ h2)
end
mutual
theorem DN.mono {S S' : Addr → Prop} {H H' : Hp} (hs : ∀ a, S a → S' a) (hh : ∀ a o, S a → H a = some o → H' a = some o) : ∀ (d : PyData) (v : V), DN S H v d → DN S' H' v d
  | .none, _, h => by cases h; exact .non
  | .bool b, _, h => by cases h; exact .bl b
  | .int i, _, h => by cases h; exact .int i
  | .str x, _, h => by cases h; exact .str x
  | .list ds, _, h => by
    cases h with
    | lst h0 h1 h2 => exact .lst (hs _ h0) (hh _ _ h0 h1) (DNs.mono hs hh ds _ h2)
  | .tuple ds, _, h => by
    cases h with
    | tup h0 h1 h2 => exact .tup (hs _ h0) (hh _ _ h0 h1) (DNs.mono hs hh ds _ h2)
  | .dict _, _, h => nomatch h
theorem DNs.mono {S S' : Addr → Prop} {H H' : Hp} (hs : ∀ a, S a → S' a) (hh : ∀ a o, S a → H a = some o → H' a = some o) : ∀ (ds : List PyData) (vs : List V), DNs S H vs ds → DNs S' H' vs ds
  | [], _, h => by cases h; exact .nil
  | d :: ds, _, h => by
    cases h with
    | cons h1 h2 => exact .cons (DN.mono hs hh d _ h1) (DNs.mono hs hh ds _ h2)
end
theorem DNs.snoc {S : Addr → Prop} {H : Hp} {v : V} {d : PyData} (hv : DN S H v d) : ∀ {vs : List V} {ds : List PyData}, DNs S H vs ds → DNs S H (vs ++ [v]) (ds ++ [d])
  | _, _, .nil => .cons hv .nil
  | _, _, .cons h t => .cons h (DNs.snoc hv t)
theorem DNs.length {S : Addr → Prop} {H : Hp} : ∀ {vs : List V} {ds : List PyData}, DNs S H vs ds → vs.length = ds.length
  | _, _, .nil => rfl
  | _, _, .cons _ t => by rw [List.length_cons, List.length_cons, DNs.length t]
theorem dpAll_length {K : PySem.W.Frag} {H : Hp} : ∀ {vs : List V} {ds : List PyData}, DpAll K H vs ds → vs.length = ds.length
  | _, _, .nil => rfl
  | _, _, .cons _ t => by rw [List.length_cons, List.length_cons, dpAll_length t]
theorem dpAll_get {K : PySem.W.Frag} {H : Hp} : ∀ {vs : List V} {ds : List PyData} {i : Nat} {v : V}, DpAll K H vs ds → vs[i]? = some v → ∃ d, ds[i]? = some d ∧ Dp K H v d
  | _, _, i, _, .nil, e => by simp at e
  | _, _, 0, _, .cons h _, e => by
    have := Option.some.inj e
    subst this
    exact ⟨_, rfl, h⟩
  | _, _, i + 1, _, .cons _ t, e => by
    have e' := e
    rw [List.getElem?_cons_succ] at e'
    obtain ⟨d, h1, h2⟩ := dpAll_get t e'
    exact ⟨d, by rw [List.getElem?_cons_succ]; exact h1, h2⟩

/-! ### small data: nested at most n deep, rows of at most 1000 -/
mutual
def okD : Nat → PyData → Bool
  | _, .none => true
  | _, .bool _ => true
  | _, .int _ => true
  | _, .str x => PyData.strOk x
  | 0, .list _ => false
  | n + 1, .list xs => decide (xs.length ≤ 1000) && okDs n xs
  | 0, .tuple _ => false
  | n + 1, .tuple xs => decide (xs.length ≤ 1000) && okDs n xs
  | _, .dict _ => false
def okDs : Nat → List PyData → Bool
  | _, [] => true
  | n, x :: xs => okD n x && okDs n xs
end
/-! as okD, the rows of any length -/
mutual
def okDx : Nat → PyData → Bool
  | _, .none => true
  | _, .bool _ => true
  | _, .int _ => true
  | _, .str x => PyData.strOk x
  | 0, .list _ => false
  | n + 1, .list xs => okDxs n xs
  | 0, .tuple _ => false
  | n + 1, .tuple xs => okDxs n xs
  | _, .dict _ => false
def okDxs : Nat → List PyData → Bool
  | _, [] => true
  | n, x :: xs => okDx n x && okDxs n xs
end
theorem okDs_get {n : Nat} : ∀ {ds : List PyData} {i : Nat} {d : PyData}, okDs n ds = true → ds[i]? = some d → okD n d = true
  | [], i, d, _, e => by simp at e
  | x :: xs, 0, d, h, e => by
    have := Option.some.inj e
    subst this
    simp only [okDs, Bool.and_eq_true] at h
    exact h.1
  | x :: xs, i + 1, d, h, e => by
    simp only [okDs, Bool.and_eq_true] at h
    rw [List.getElem?_cons_succ] at e
    exact okDs_get h.2 e
mutual
theorem okDx_lay : ∀ (n : Nat) (d : PyData), okDx n d = true → d.canLay0 = true ∧ d.depth ≤ n
  | _, .none, _ => by simp [PyData.canLay0, PyData.depth]
  | _, .bool _, _ => by simp [PyData.canLay0, PyData.depth]
  | _, .int _, _ => by simp [PyData.canLay0, PyData.depth]
  | _, .str x, h => by
    simp only [okDx] at h
    simp [PyData.canLay0, PyData.depth, h]
  | 0, .list _, h => by simp [okDx] at h
  | n + 1, .list xs, h => by
    simp only [okDx] at h
    obtain ⟨h1, h2⟩ := okDxs_lay n xs h
    simp only [PyData.canLay0, PyData.depth]
    exact ⟨h1, by omega⟩
  | 0, .tuple _, h => by simp [okDx] at h
  | n + 1, .tuple xs, h => by
    simp only [okDx] at h
    obtain ⟨h1, h2⟩ := okDxs_lay n xs h
    simp only [PyData.canLay0, PyData.depth]
    exact ⟨h1, by omega⟩
  | _, .dict _, h => by simp [okDx] at h
theorem okDxs_lay : ∀ (n : Nat) (ds : List PyData), okDxs n ds = true → PyData.canLayAll0 ds = true ∧ PyData.depthAll ds ≤ n
  | _, [], _ => by simp [PyData.canLayAll0, PyData.depthAll]
  | n, x :: xs, h => by
    simp only [okDxs, Bool.and_eq_true] at h
    obtain ⟨a1, a2⟩ := okDx_lay n x h.1
    obtain ⟨b1, b2⟩ := okDxs_lay n xs h.2
    simp only [PyData.canLayAll0, PyData.depthAll, a1, b1]
    exact ⟨rfl, by omega⟩
end
theorem okDx_shaped {n : Nat} {d : PyData} (h : okDx n d = true) (hn : n ≤ 64) : SeqAt.shaped d = true := by
  obtain ⟨h1, h2⟩ := okDx_lay n d h
  show (d.canLay0 && decide (d.depth ≤ 64)) = true
  rw [h1, decide_eq_true (by omega)]
  rfl

/-! ### what _law_plain tells of data -/
mutual
def plainD : PyData → PyData
  | .list xs => .list (.bool true :: plainDs xs)
  | .tuple xs => .list (.bool false :: plainDs xs)
  | .none => .str "None"
  | .bool b => .str (if b then "True" else "False")
  | .int i => .list [.bool false, .int i]
  | .str x => .list [.bool true, .str x]
  | .dict _ => .str "another"
def plainDs : List PyData → List PyData
  | [] => []
  | x :: xs => plainD x :: plainDs xs
end
theorem plainDs_length : ∀ ds : List PyData, (plainDs ds).length = ds.length
  | [] => rfl
  | x :: xs => by simp only [plainDs, List.length_cons, plainDs_length xs]
theorem plainDs_take {d : PyData} : ∀ {ds : List PyData} {i : Nat}, ds[i]? = some d → plainDs (ds.take (i + 1)) = plainDs (ds.take i) ++ [plainD d]
  | [], i, e => by simp at e
  | x :: xs, 0, e => by
    have := Option.some.inj e
    subst this
    simp [plainDs]
  | x :: xs, i + 1, e => by
    rw [List.getElem?_cons_succ] at e
    have := plainDs_take e
    simp only [List.take_succ_cons, plainDs, this, List.cons_append]
mutual
theorem plainD_ok : ∀ (n : Nat) (d : PyData), okD n d = true → okDx (n + 1) (plainD d) = true
  | n, .none, _ => by simp only [plainD, okDx]; decide +kernel
  | n, .bool b, _ => by cases b <;> simp only [plainD, okDx] <;> decide +kernel
  | n, .int i, _ => by simp only [plainD, okDx, okDxs, Bool.and_self]
  | n, .str x, h => by
    simp only [okD] at h
    simp [plainD, okDx, okDxs, h]
  | 0, .list _, h => by simp [okD] at h
  | n + 1, .list xs, h => by
    simp only [okD, Bool.and_eq_true, decide_eq_true_eq] at h
    have := plainDs_ok n xs h.2
    simp [plainD, okDx, okDxs, this]
  | 0, .tuple _, h => by simp [okD] at h
  | n + 1, .tuple xs, h => by
    simp only [okD, Bool.and_eq_true, decide_eq_true_eq] at h
    have := plainDs_ok n xs h.2
    simp [plainD, okDx, okDxs, this]
  | _, .dict _, h => by simp [okD] at h
theorem plainDs_ok : ∀ (n : Nat) (ds : List PyData), okDs n ds = true → okDxs (n + 1) (plainDs ds) = true
  | _, [], _ => by simp [plainDs, okDxs]
  | n, x :: xs, h => by
    simp only [okDs, Bool.and_eq_true] at h
    have a := plainD_ok n x h.1
    have b := plainDs_ok n xs h.2
    simp [plainDs, okDxs, a, b]
end

/-! ### more of the deck -/
def SameBut (d : Addr) (H H' : Hp) : Prop := ∀ b o, b ≠ d → H b = some o → H' b = some o
def sp_number0 : Sp := fun vs H Q _ => ∃ (d : Addr) (D : List Int), vs = [.ref d] ∧ H d = some (dk D) ∧ ∀ (n : Int) (D' : List Int) (H' : Hp), SameBut d H H' → H' d = some (dk D') → n.natAbs < 2 ^ 130 → Q (.int n) H'
@[irreducible] def sp_number : Sp := sp_number0
theorem sp_number_eq : sp_number = sp_number0 := by unfold sp_number; rfl
/-- G: what stands still; the deck at d moves -/
structure Dk (G H : Hp) (d : Addr) (D : List Int) : Prop where
  nd : G d = none
  sm : Same G H
  hd : H d = some (dk D)
section
variable {G H H' : Hp} {d p : Addr} {D D' : List Int} {o : HO}
theorem Dk.take (k : Dk G H d D) : Dk G (upd H d (dk D')) d D' := ⟨k.nd, k.sm.mut k.nd, upd_same⟩
theorem Dk.new (k : Dk G H d D) (h : H p = none) : Dk (upd G p o) (upd H p o) d D := by
  have n : d ≠ p := ne_of_none k.hd h
  refine ⟨by rw [upd_ne n]; exact k.nd, fun b u e => ?_, by rw [upd_ne n]; exact k.hd⟩
  by_cases q : b = p
  · rw [q, upd_same] at e
    rw [q, upd_same]
    exact e
  · rw [upd_ne q] at e
    rw [upd_ne q]
    exact k.sm b u e
theorem Dk.same (k : Dk G H d D) (s : Same H H') : Dk G H' d D := ⟨k.nd, k.sm.trans s, s _ _ k.hd⟩
theorem Dk.but (k : Dk G H d D) (s : SameBut d H H') (h : H' d = some (dk D')) : Dk G H' d D' := ⟨k.nd, fun b u e => s b u (ne_of_none e k.nd) (k.sm b u e), h⟩
theorem Dk.ne (k : Dk G H d D) (h : G p = some o) : p ≠ d := ne_of_none h k.nd
theorem Dk.fresh (k : Dk G H d D) (h : H p = none) : G p = none := k.sm.free h
end
theorem atI_nat' {α : Type} {xs : List α} {i : Int} {j : Nat} {v : α} (e : i = (j : Int)) (h : xs[j]? = some v) : atI xs i = some v := by
  rw [e]
  exact atI_nat h
theorem atI_ints {ns : List Int} {i : Int} (h0 : 0 ≤ i) (h1 : i < (ns.length : Int)) : ∃ z, atI (ns.map V.int) i = some (.int z) ∧ z ∈ ns := by
  have hl : i.toNat < ns.length := by omega
  refine ⟨ns[i.toNat], atI_nat' (j := i.toNat) (by omega) ?_, List.getElem_mem hl⟩
  rw [List.getElem?_map, List.getElem?_eq_getElem hl]
  rfl
theorem small1000000 {n : Nat} (h : n ≤ 1000000) : n < sizeLine := by
  rw [sizeLine_eq]
  omega
theorem two_pow_mono {a b : Nat} (h : a ≤ b) : (2 : Int) ^ a ≤ 2 ^ b := by
  have := Nat.pow_le_pow_right (n := 2) (by decide) h
  have e : ∀ c : Nat, ((2 ^ c : Nat) : Int) = (2 : Int) ^ c := fun c => by rw [Int.natCast_pow]; rfl
  rw [← e, ← e]
  omega
/-- x is True -/
def rIsT : R2 := fun x y H Q => (∃ a b : Bool, x = .bl a ∧ y = .bl b ∧ Q (.bl (decide (a = b))) H) ∨ (x = .non ∧ ∃ b, y = .bl b ∧ Q (.bl false) H)
theorem op_isT {X : Cx} : OpR X (compareOp .Is) rIsT := by
  intro pins s σ H x y v u Q I rx ry h
  rcases h with h | ⟨rfl, b, rfl, k⟩
  · exact op_isBl pins s σ H x y v u Q I rx ry h
  · cases (show v = Value.none from rx)
    cases (show u = Value.bool b from ry)
    exact wpAny_is_other rfl (fun z => nomatch z) ⟨.bl false, H, I, rfl, k⟩
theorem kind_l {K : PySem.W.Frag} {H : Hp} {a : Addr} {xs : List V} (h : SqL K H a xs) : TyX K H (.ref a) (.type "list") := by
  rcases h with (h | ⟨o, h⟩) | ⟨o, _, _, h, c, _⟩
  · exact .base (.lst h)
  · exact .base (.frz h)
  · exact .kList h c
theorem kind_t {K : PySem.W.Frag} {H : Hp} {a : Addr} {xs : List V} (h : SqT K H a xs) : TyX K H (.ref a) (.type "tuple") := by
  rcases h with (h | ⟨o, h⟩) | ⟨o, _, _, h, c, _⟩
  · exact .base (.tup h)
  · exact .fTuple h
  · exact .kTuple h c
theorem kit2 {K : PySem.W.Frag} {a b c : String} {r1 r2 : Bool} (h1 : kitB a b = some r1) (h2 : kitB a c = some r2) : PySem.W.kitAny K (.type a) [.type b, .type c] = some (r1 || r2) := by
  cases r1 with
  | true => exact kitAny_cons (b := true) (kit_ty h1) (fun z => nomatch z) fun _ => rfl
  | false =>
    refine kitAny_cons (b := false) (kit_ty h1) (fun _ => ?_) (fun z => nomatch z)
    exact kitAny_cons (b := r2) (kit_ty h2) (fun z => by subst z; exact kitAny_nil) fun z => by subst z; rfl
def sp_plain (K : PySem.W.Frag) (n : Nat) : Sp := fun vs H Q _ => ∃ (v : V) (d : PyData), vs = [v] ∧ Dp K H v d ∧ okD n d = true ∧ ∀ (v' : V) (H' : Hp), Same H H' → DN (fun a => H a = none) H' v' (plainD d) → Q v' H'
/-- isinstance(x, (A, B)), the tuple just made at p -/
theorem isi_pair {K : PySem.W.Frag} {H : Hp} {p : Addr} {x : V} {t A B : String} {r1 r2 : Bool} {Q : VK} (h1 : kitB t A = some r1) (h2 : kitB t B = some r2) (hx : TyX K (upd H p (.tup [.ty A, .ty B])) x (.type t)) (k : Q (.bl (r1 || r2)) (upd H p (.tup [.ty A, .ty B]))) :
    rIsiT K [x, .ref p] (upd H p (.tup [.ty A, .ty B])) Q :=
  ⟨x, p, _, _, _, _, rfl, upd_same, .cons (.ty A) (.cons (.ty B) .nil), hx, kit2 h1 h2, k⟩
theorem _root_.L2.TyX.new {K : PySem.W.Frag} {H : Hp} {x : V} {T : String} {p : Addr} {o : HO} (h : TyX K H x (.type T)) (hp : H p = none) : TyX K (upd H p o) x (.type T) := by
  have s : Same H (upd H p o) := Same.new hp
  generalize e : Value.type T = t at h
  cases h with
  | base b =>
    cases b with
    | non => exact .base .non
    | bl y => exact .base (.bl y)
    | int i => exact .base (.int i)
    | str y => exact .base (.str y)
    | flt y => exact .base (.flt y)
    | lst q => exact .base (.lst (s _ _ q))
    | frz q => exact .base (.frz (s _ _ q))
    | tup q => exact .base (.tup (s _ _ q))
    | dK q => exact .base (.dK (s _ _ q))
    | dT q => exact .base (.dT (s _ _ q))
    | ins q => cases e
  | byt b => exact .byt b
  | set q => exact .set (s _ _ q)
  | kList q c => exact .kList q c
  | kTuple q c => exact .kTuple q c
  | kDict q c => exact .kDict q c
  | fTuple q => exact .fTuple (s _ _ q)
  | fDict q => exact .fDict (s _ _ q)

/-- two plain tellings of the same data are equal -/
theorem plain_same {K : PySem.W.Frag} {S S' : Addr → Prop} {H1 H3 : Hp} {v1 v2 : V} {d : PyData} {Q : VK} {n : Nat} (h1 : DN S H1 v1 (plainD d)) (hs : Same H1 H3) (h2 : DN S' H3 v2 (plainD d)) (ok : okD n d = true) (hn : n ≤ 60) (k : Q (.bl false) H3) : rNeD K v1 v2 H3 Q := by
  have sh := okDx_shaped (plainD_ok n d ok) (by omega)
  refine ⟨plainD d, plainD d, dp_same hs _ _ (DN.dp _ _ h1), DN.dp _ _ h2, sh, sh, ?_⟩
  rw [SeqAt.eqv_refl _ (SeqAt.canLay_of_shaped sh)]
  exact k
/-- .. as a test that then fails -/
theorem plain_test {K : PySem.W.Frag} {S S' : Addr → Prop} {H1 H3 : Hp} {v1 v2 : V} {d : PyData} {Q : Bool → Hp → Prop} (n : Nat) (h1 : DN S H1 v1 (plainD d)) (hs : Same H1 H3) (h2 : DN S' H3 v2 (plainD d)) (ok : okD n d = true) (hn : n ≤ 60) (k : Q false H3) : rNeD K v1 v2 H3 fun x H' => ∃ b, x = .bl b ∧ Q b H' :=
  plain_same h1 hs h2 ok hn ⟨false, rfl, k⟩
theorem gcd_cdiv {x y : Int} (i : Int) (h : y ≠ 0) (hy : y.natAbs < 2 ^ 8000) : CDivZ i ((Nat.gcd x.natAbs y.natAbs : Nat) : Int) ∧ CDivZ i (-((Nat.gcd x.natAbs y.natAbs : Nat) : Int)) := by
  have h1 : Nat.gcd x.natAbs y.natAbs ≤ y.natAbs := Nat.gcd_le_right _ (by omega)
  have h0 : 0 < Nat.gcd x.natAbs y.natAbs := Nat.gcd_pos_of_pos_right _ (by omega)
  generalize hg : Nat.gcd x.natAbs y.natAbs = g at h1 h0
  have hb : g < 2 ^ 8000 := Nat.lt_of_le_of_lt h1 hy
  exact ⟨cdivZ_of (b := 8000) (by omega) (by rw [Int.natAbs_natCast]; exact hb) (by decide) (by decide), cdivZ_of (b := 8000) (by omega) (by rw [Int.natAbs_neg, Int.natAbs_natCast]; exact hb) (by decide) (by decide)⟩
/-- what two ways have in common behind them, shown once -/
theorem cutP {X Y : Prop} (f : X → Y) (x : X) : Y := f x
theorem Dk.weak {G H : Hp} {d : Addr} {D : List Int} (k : Dk G H d D) : Dk (fun _ => none) H d D := ⟨rfl, same_none, k.hd⟩

/-! ### taking from the deck, the heap behind it not told -/
section
variable {Kf : PySem.W.Frag} {G H : Hp} {d l : Addr} {D : List Int} {Q : VK}
theorem take_q (K1 : Dk G H d D) {m : Int} (hm : 0 < m) (k : ∀ z H2, 0 ≤ z → z < m → Dk G H2 d D.tail → Q (.int z) H2) : sp_take [.ref d, .int m] H Q E0 := by
  rw [sp_take_eq]
  exact ⟨d, D, m, rfl, K1.hd, hm, k _ _ (tk_nonneg D hm) (tk_lt D hm) K1.take⟩
/-- .. the heap told -/
theorem take_u {H : Hp} {d : Addr} {D : List Int} {Q : VK} (hd : H d = some (dk D)) {m : Int} (hm : 0 < m) (k : Q (.int (tk D m)) (upd H d (dk D.tail))) : sp_take [.ref d, .int m] H Q E0 := by
  rw [sp_take_eq]
  exact ⟨d, D, m, rfl, hd, hm, k⟩
/-- [n, ..][_law_take(deck, how many)] -/
theorem pick (K1 : Dk G H d D) (hl : H l = none) (ns : List Int) (h : 0 < ns.length) (k : ∀ z H2, z ∈ ns → Dk G H2 d D.tail → Q (.int z) H2) : sp_take [.ref d, .int (ns.length : Int)] (upd H l (.lst (ns.map V.int))) (fun v H2 => rIxL Kf (.ref l) v H2 Q) E0 := by
  rw [sp_take_eq]
  have hm : (0 : Int) < (ns.length : Int) := by omega
  have K2 := K1.new (o := .lst (ns.map V.int)) hl
  have n : d ≠ l := ne_of_none K1.hd hl
  refine ⟨d, D, _, rfl, K2.hd, hm, ?_⟩
  have K3 := K2.take (D' := D.tail)
  obtain ⟨z, hz, hm⟩ := atI_ints (tk_nonneg D hm) (tk_lt D hm)
  refine ⟨l, _, _, _, rfl, rfl, SqL.of (K3.sm _ _ upd_same), hz, k _ _ hm ⟨K1.nd, ?_, K3.hd⟩⟩
  have g : G l = none := K1.sm.free hl
  exact (Same.new g).trans K3.sm
theorem number_q (K1 : Dk G H d D) (k : ∀ n D' H2, n.natAbs < 2 ^ 130 → Dk G H2 d D' → Q (.int n) H2) : sp_number [.ref d] H Q E0 := by
  rw [sp_number_eq]
  exact ⟨d, D, rfl, K1.hd, fun n D' H' s h hn => k n D' H' hn (K1.but s h)⟩
end
theorem abs_nat (x : Int) : (if x < 0 then -x else x) = (x.natAbs : Int) := by split <;> omega

/-! ### fractions in lowest terms -/
/-- the greatest common divisor, with the sign of what is below -/
def frC (x y : Int) : Int := if y < 0 then -((Nat.gcd x.natAbs y.natAbs : Nat) : Int) else ((Nat.gcd x.natAbs y.natAbs : Nat) : Int)
def frA (x y : Int) : Int := x.fdiv (frC x y)
def frB (x y : Int) : Int := y.fdiv (frC x y)
theorem fdiv_mul_self {c p : Int} (h : c ≠ 0) : (c * p).fdiv c = p := Int.mul_fdiv_cancel_left p h
/-- what a fraction in lowest terms is -/
theorem fr_spec {x y : Int} (h : y ≠ 0) : x = frC x y * frA x y ∧ y = frC x y * frB x y ∧ 0 < frB x y ∧ frC x y ≠ 0 ∧ (0 < frC x y ↔ 0 < y) ∧ frB x y ≤ y.natAbs ∧ Nat.gcd (frA x y).natAbs (frB x y).natAbs = 1 := by
  have h0 : 0 < Nat.gcd x.natAbs y.natAbs := Nat.gcd_pos_of_pos_right _ (by omega)
  have hx : frC x y ∣ x := by
    unfold frC
    split
    · exact Int.neg_dvd.mpr (Int.ofNat_dvd_left.mpr (Nat.gcd_dvd_left _ _))
    · exact Int.ofNat_dvd_left.mpr (Nat.gcd_dvd_left _ _)
  have hy : frC x y ∣ y := by
    unfold frC
    split
    · exact Int.neg_dvd.mpr (Int.ofNat_dvd_left.mpr (Nat.gcd_dvd_right _ _))
    · exact Int.ofNat_dvd_left.mpr (Nat.gcd_dvd_right _ _)
  have hn : (frC x y).natAbs = Nat.gcd x.natAbs y.natAbs := by
    unfold frC
    split <;> omega
  have hc0 : frC x y ≠ 0 := by omega
  have hs : (0 < frC x y ↔ 0 < y) := by
    unfold frC
    split <;> constructor <;> omega
  obtain ⟨p, hp⟩ := hx
  obtain ⟨q, hq⟩ := hy
  have e1 : frA x y = p := by
    unfold frA
    generalize frC x y = c at hp hc0
    rw [hp, fdiv_mul_self hc0]
  have e2 : frB x y = q := by
    unfold frB
    generalize frC x y = c at hq hc0
    rw [hq, fdiv_mul_self hc0]
  have na1 : x.natAbs = (frC x y).natAbs * p.natAbs := by
    rw [← Int.natAbs_mul, ← hp]
  have na2 : y.natAbs = (frC x y).natAbs * q.natAbs := by
    rw [← Int.natAbs_mul, ← hq]
  have q0 : q ≠ 0 := fun z => by
    rw [z, Int.mul_zero] at hq
    exact h hq
  refine ⟨by rw [e1]; exact hp, by rw [e2]; exact hq, ?_, hc0, hs, ?_, ?_⟩
  · rw [e2]
    rcases Int.lt_trichotomy q 0 with z | z | z
    · exfalso
      by_cases yp : 0 < y
      · have := Int.mul_neg_of_pos_of_neg (hs.mpr yp) z
        omega
      · have cn : frC x y < 0 := by
          have : ¬ 0 < frC x y := fun w => yp (hs.mp w)
          omega
        have := Int.mul_pos_of_neg_of_neg cn z
        omega
    · exact absurd z q0
    · exact z
  · rw [e2]
    have : q.natAbs ≤ y.natAbs := by
      rw [na2]
      exact Nat.le_mul_of_pos_left _ (by omega)
    omega
  · rw [e1, e2]
    have e3 : Nat.gcd x.natAbs y.natAbs = (frC x y).natAbs * Nat.gcd p.natAbs q.natAbs := by
      rw [na1, na2, Nat.gcd_mul_left]
    rw [hn] at e3
    have : Nat.gcd x.natAbs y.natAbs * Nat.gcd p.natAbs q.natAbs = Nat.gcd x.natAbs y.natAbs * 1 := by omega
    exact Nat.eq_of_mul_eq_mul_left h0 this
def sp_fraction (C : Addr) : Sp := fun vs H Q E => ∃ x y : Int, vs = [.int x, .int y] ∧ y.natAbs < 2 ^ 8000 ∧ (y = 0 → raisesW C "fraction" H E) ∧ (y ≠ 0 → ∀ p, H p = none → Q (.ref p) (upd H p (.tup [.int (frA x y), .int (frB x y)])))
def sp_lawgcd : Sp := fun vs H Q _ => ∃ x y : Int, vs = [.int x, .int y] ∧ Q (.int ((Nat.gcd x.natAbs y.natAbs : Nat) : Int)) H
def sp_lawfraction : Sp := fun vs H Q _ => ∃ x y : Int, vs = [.int x, .int y] ∧ y.natAbs < 2 ^ 8000 ∧ y ≠ 0 ∧ ∀ p, H p = none → Q (.ref p) (upd H p (.tup [.int (frA x y), .int (frB x y)]))

theorem dpAll_ints {K : PySem.W.Frag} {H : Hp} : ∀ ns : List Int, DpAll K H (ns.map V.int) (ns.map PyData.int)
  | [] => .nil
  | n :: ns => .cons (.int n) (dpAll_ints ns)
theorem dp_ints {K : PySem.W.Frag} {H : Hp} {p : Addr} {ns : List Int} (h : SqL K H p (ns.map V.int)) : Dp K H (.ref p) (.list (ns.map PyData.int)) := .lst h (dpAll_ints ns)
theorem okDs_ints {n : Nat} : ∀ ns : List Int, okDs n (ns.map PyData.int) = true
  | [] => by simp [okDs]
  | x :: ns => by simp only [List.map_cons, okDs, okD, Bool.true_and]; exact okDs_ints ns
theorem ok_ints {n : Nat} {ns : List Int} (h : ns.length ≤ 1000) : okD (n + 1) (.list (ns.map PyData.int)) = true := by
  simp only [okD, Bool.and_eq_true, decide_eq_true_eq, List.length_map]
  exact ⟨h, okDs_ints ns⟩
theorem okDx_ints {n : Nat} : ∀ ns : List Int, okDxs n (ns.map PyData.int) = true
  | [] => by simp [okDxs]
  | x :: ns => by simp only [List.map_cons, okDxs, okDx, Bool.true_and]; exact okDx_ints ns
theorem shaped_ints (ns : List Int) : SeqAt.shaped (.list (ns.map PyData.int)) = true := okDx_shaped (n := 1) (by simp only [okDx]; exact okDx_ints ns) (by decide)
/-- two int lists that are the same: != says no -/
theorem ints_same {K : PySem.W.Frag} {H : Hp} {p q : Addr} {ns : List Int} {Q : VK} (h1 : SqL K H p (ns.map V.int)) (h2 : SqL K H q (ns.map V.int)) (k : Q (.bl false) H) : rNeD K (.ref p) (.ref q) H Q := by
  refine ⟨_, _, dp_ints h1, dp_ints h2, shaped_ints ns, shaped_ints ns, ?_⟩
  rw [SeqAt.eqv_refl _ (SeqAt.canLay_of_shaped (shaped_ints ns))]
  exact k

theorem Dk.add {G H : Hp} {d q : Addr} {D : List Int} {o : HO} (k : Dk G H d D) (h : H q = some o) (n : q ≠ d) : Dk (upd G q o) H d D :=
  ⟨by rw [upd_ne (Ne.symm n)]; exact k.nd, fun b u e => by
    by_cases z : b = q
    · rw [z, upd_same] at e
      rw [z, h]
      exact e
    · rw [upd_ne z] at e
      exact k.sm b u e, k.hd⟩
theorem Dk.keep {G G' H : Hp} {d : Addr} {D : List Int} (k : Dk G H d D) (h : G' d = none) (s : Same G' H) : Dk G' H d D := ⟨h, s, k.hd⟩
/-! ### comprehensions whose element does nothing to the heap -/
theorem lc_pure {K : PySem.W.Frag} {a : Addr} {xs : List V} {te : TE} {vs : List Nat} {σ : L2.St} {H1 : Hp} {D : Addr} {Qd : Hp → Prop} {j : Nat} (f : Nat → V → V) (hx : SqL K H1 a xs) (hD : H1 D = none) (hz : xs.length ≤ 1000000) (hw : ∀ x, wipe ((wipe σ vs).set j (some x)) vs = wipe σ vs)
    (hs : ∀ i x H', xs[i]? = some x → Same H1 H' → ∀ Q : VK, Q (f i x) H' → te ((wipe σ vs).set j (some x)) H' Q) (hd : Qd (upd H1 D (.lst (xs.mapIdx f)))) :
    ∃ W : Nat → Nat → Hp → Prop, (∃ m, W 0 m (upd H1 D (.lst []))) ∧ ∀ i m H, W i m H →
      ((Itl K a).stop i H ∧ Qd H) ∨ ((Itl K a).go i H ∧ ∃ Nx : Hp → Prop, (∀ H', Nx H' → ∃ m', m' < m ∧ W (i + 1) m' H') ∧ ∀ x H', (Itl K a).yld i H x H' → gName j x (wipe σ vs) H' fun σ2 H2 => wipe σ2 vs = wipe σ vs ∧ tYes σ2 H2 fun b H3 =>
        if b = true then te σ2 H3 fun y H4 => ∃ acc, H4 D = some (.lst acc) ∧ acc.length < sizeLine ∧ Nx (upd H4 D (.lst (acc ++ [y]))) else Nx H3) := by
  have tk : ∀ (l : List V) (g : Nat → V → V) (i : Nat) (x : V), l[i]? = some x → (l.mapIdx g).take (i + 1) = (l.mapIdx g).take i ++ [g i x] := by
    intro l g i x e
    have h1 : (l.mapIdx g)[i]? = some (g i x) := by rw [List.getElem?_mapIdx, e]; rfl
    rw [List.take_add_one, h1]
    rfl
  refine lc_list (K := K) (a := a) (xs := xs) (fun i H' => H' = upd H1 D (.lst ((xs.mapIdx f).take i))) (by rw [List.take_zero]) (fun i H' _ q => by subst q; exact (Same.new hD).seq hx) ?_ ?_
  · rintro i x H' hi rfl
    have hi1 := (List.getElem?_eq_some_iff.mp hi).1
    refine ⟨hw x, ?_⟩
    show te _ _ _
    refine hs i x _ hi (Same.new hD) _ ?_
    refine ⟨_, upd_same, small1000000 (by rw [List.length_take]; omega), ?_⟩
    rw [upd_upd, tk xs f i x hi]
  · rintro H' rfl
    have e : (xs.mapIdx f).take xs.length = xs.mapIdx f := by
      have : (xs.mapIdx f).length = xs.length := List.length_mapIdx
      rw [← this, List.take_length]
    rw [e]
    exact hd
theorem pickV {Kf : PySem.W.Frag} {G H : Hp} {d l : Addr} {D : List Int} {Q : VK} (K1 : Dk G H d D) (hl : H l = none) (ns : List V) (h : 0 < ns.length) (k : ∀ z H2, z ∈ ns → Dk G H2 d D.tail → Q z H2) : sp_take [.ref d, .int (ns.length : Int)] (upd H l (.lst ns)) (fun v H2 => rIxL Kf (.ref l) v H2 Q) E0 := by
  rw [sp_take_eq]
  have hm : (0 : Int) < (ns.length : Int) := by omega
  have K2 := K1.new (o := .lst ns) hl
  refine ⟨d, D, _, rfl, K2.hd, hm, ?_⟩
  have K3 := K2.take (D' := D.tail)
  have b0 := tk_nonneg D hm
  have b1 := tk_lt D hm
  have hj : (tk D (ns.length : Int)).toNat < ns.length := by omega
  refine ⟨l, _, _, _, rfl, rfl, SqL.of (K3.sm _ _ upd_same), atI_nat' (j := (tk D (ns.length : Int)).toNat) (by omega) (List.getElem?_eq_getElem hj), k _ _ (List.getElem_mem hj) ⟨K1.nd, ?_, K3.hd⟩⟩
  exact (Same.new (K1.sm.free hl)).trans K3.sm
/-- an item of a list at a written place -/
theorem ix_at {Kf : PySem.W.Frag} {H : Hp} {p : Addr} {xs : List V} {v : V} {Q : VK} (j : Nat) (h : SqL Kf H p xs) (hv : xs[j]? = some v) (k : Q v H) : rIxL Kf (.ref p) (.int (j : Int)) H Q := ⟨p, xs, _, v, rfl, rfl, h, atI_nat hv, k⟩

/-! ### walks of what may be a list or a tuple -/
def SqX (K : PySem.W.Frag) (H : Hp) (a : Addr) (xs : List V) : Prop := SqL K H a xs ∨ SqT K H a xs
theorem SqX.mono {K : PySem.W.Frag} {H H' : Hp} {a : Addr} {xs : List V} (h : SqX K H a xs) (s : Same H H') : SqX K H' a xs := by
  rcases h with h | h
  · exact .inl (s.seq h)
  · exact .inr (s.tup h)
def iSeq (K : PySem.W.Frag) (tl : TE) : TI := fun σ H R => tl σ H fun x H1 => ∃ a, x = .ref a ∧ (((∃ xs, SqL K H1 a xs) ∧ R (Itl K a) H1) ∨ ((∃ xs, SqT K H1 a xs) ∧ R (Itt K a) H1))
theorem pi_seq {X : Cx} {tg l : Expr} {tl : TE} (hl : PE X l tl) : PI X tg l (iSeq X.K tl) := by
  refine ⟨fun pins s σ H R I h => thn (hl.run pins s σ H _ I h) fun v s1 ⟨x, H1, I1, r1, a, e, q⟩ => ?_⟩
  subst e
  cases r1
  have fresh : ∀ b ∈ [s1.heap.objs.size], FpOk X pins H1 b := by
    intro b hb
    rw [List.mem_singleton] at hb
    rw [hb]
    exact I1.fpOk (Nat.le_refl _) (I1.hok.fresh (Nat.le_refl _))
  rcases q with ⟨⟨xs, hq⟩, q⟩ | ⟨⟨xs, hq⟩, q⟩
  · obtain ⟨its, rv, pl, hz⟩ := I1.list hq
    exact wpAny_pyIter_list pl.isList ⟨_, _, _, _, H1, rfl, I1.kept (t' := s1.toks) (fun b o e => Heap.get?_push_of_some _ e), turn_list a _, ⟨_, Heap.get?_push_size _ rfl, rfl, rfl⟩, fresh, q⟩
  · obtain ⟨its, rv, pl, hz⟩ := I1.tuple hq
    exact wpAny_pyIter_tuple (show s1.heap.IsTuple a its.toArray from pl) ⟨_, _, _, _, H1, rfl, I1.kept (t' := s1.toks) (fun b o e => Heap.get?_push_of_some _ e), turn_tuple a _, ⟨_, Heap.get?_push_size _ rfl, rfl, rfl⟩, fresh, q⟩
/-- what a for loop asks of its walk J -/
def forR (g : TG) (tb : TS) (D : Ends) (σ : L2.St) (J : It) (H1 : Hp) : Prop := ∃ W : Nat → Nat → L2.St → Hp → Prop, (∃ m, W 0 m σ H1) ∧ ∀ i m σ H, W i m σ H →
  (J.stop i H ∧ D.nx σ H) ∨ (J.go i H ∧ ∃ N : L2.St → Hp → Prop, (∀ σ' H', N σ' H' → ∃ m', m' < m ∧ W (i + 1) m' σ' H') ∧ ∀ x H', J.yld i H x H' → g x σ H' fun σ2 H2 => tb { D with nx := N, ct := N, bk := D.nx } σ2 H2)
/-- .. a list or a tuple; G: where it stands -/
theorem for_seq {K : PySem.W.Frag} {a : Addr} {xs : List V} {g : TG} {tb : TS} {D : Ends} {σ : L2.St} {H G : Hp} (hq : SqX K G a xs) (Pv : Nat → L2.St → Hp → Prop) (h0 : Pv 0 σ H) (hl : ∀ i σ H, Pv i σ H → Same G H)
    (hs : ∀ i x σ H, xs[i]? = some x → Pv i σ H → g x σ H fun σ2 H2 => tb { D with nx := Pv (i + 1), ct := Pv (i + 1), bk := D.nx } σ2 H2) (hd : ∀ σ H, Pv xs.length σ H → D.nx σ H) :
    ((∃ xs, SqL K H a xs) ∧ forR g tb D σ (Itl K a) H) ∨ ((∃ xs, SqT K H a xs) ∧ forR g tb D σ (Itt K a) H) := by
  rcases hq with hq | hq
  · exact .inl ⟨⟨xs, (hl _ _ _ h0).seq hq⟩, for_list (K := K) (a := a) (xs := xs) Pv h0 (fun i σ H _ p => (hl i σ H p).seq hq) hs hd⟩
  · exact .inr ⟨⟨xs, (hl _ _ _ h0).tup hq⟩, for_tup (K := K) (a := a) (xs := xs) Pv h0 (fun i σ H _ p => (hl i σ H p).tup hq) hs hd⟩
/-- what a comprehension asks of its walk J -/
def lcR (g : TG) (tt : TT) (te : TE) (vs : List Nat) (σ : L2.St) (Q : VK) (J : It) (H1 : Hp) : Prop := ∀ D, H1 D = none → ∃ W : Nat → Nat → Hp → Prop, (∃ m, W 0 m (upd H1 D (.lst []))) ∧ ∀ i m H, W i m H →
  (J.stop i H ∧ Q (.ref D) H) ∨ (J.go i H ∧ ∃ Nx : Hp → Prop, (∀ H', Nx H' → ∃ m', m' < m ∧ W (i + 1) m' H') ∧ ∀ x H', J.yld i H x H' → g x (wipe σ vs) H' fun σ2 H2 => wipe σ2 vs = wipe σ vs ∧ tt σ2 H2 fun b H3 =>
    if b = true then te σ2 H3 fun y H4 => ∃ acc, H4 D = some (.lst acc) ∧ acc.length < sizeLine ∧ Nx (upd H4 D (.lst (acc ++ [y]))) else Nx H3)
theorem lc_seq {K : PySem.W.Frag} {a : Addr} {xs : List V} {g : TG} {tt : TT} {te : TE} {vs : List Nat} {σ : L2.St} {H1 G : Hp} {Q : VK} (hq : SqX K G a xs) (s : Same G H1) (Pv : Addr → Nat → Hp → Prop) (h0 : ∀ D, H1 D = none → Pv D 0 (upd H1 D (.lst []))) (hl : ∀ D i H, Pv D i H → Same G H)
    (hs : ∀ D, H1 D = none → ∀ i x H, xs[i]? = some x → Pv D i H → g x (wipe σ vs) H fun σ2 H2 => wipe σ2 vs = wipe σ vs ∧ tt σ2 H2 fun b H3 =>
      if b = true then te σ2 H3 fun y H4 => ∃ acc, H4 D = some (.lst acc) ∧ acc.length < sizeLine ∧ Pv D (i + 1) (upd H4 D (.lst (acc ++ [y]))) else Pv D (i + 1) H3) (hd : ∀ D, H1 D = none → ∀ H, Pv D xs.length H → Q (.ref D) H) :
    ((∃ xs, SqL K H1 a xs) ∧ lcR g tt te vs σ Q (Itl K a) H1) ∨ ((∃ xs, SqT K H1 a xs) ∧ lcR g tt te vs σ Q (Itt K a) H1) := by
  rcases hq with hq | hq
  · exact .inl ⟨⟨xs, s.seq hq⟩, fun D hD => lc_list (K := K) (a := a) (xs := xs) (Pv D) (h0 D hD) (fun i H _ p => (hl D i H p).seq hq) (hs D hD) (hd D hD)⟩
  · exact .inr ⟨⟨xs, s.tup hq⟩, fun D hD => lc_tup (K := K) (a := a) (xs := xs) (Pv D) (h0 D hD) (fun i H _ p => (hl D i H p).tup hq) (hs D hD) (hd D hD)⟩
/-- data that is a sequence -/
def seqD (isL : Bool) (ds : List PyData) : PyData := if isL then .list ds else .tuple ds
theorem dp_seq {K : PySem.W.Frag} {H : Hp} {v : V} {isL : Bool} {ds : List PyData} (h : Dp K H v (seqD isL ds)) : ∃ a xs, v = .ref a ∧ SqX K H a xs ∧ DpAll K H xs ds := by
  cases isL with
  | true =>
    cases (show Dp K H v (.list ds) from h) with
    | lst h1 h2 => exact ⟨_, _, rfl, .inl h1, h2⟩
  | false =>
    cases (show Dp K H v (.tuple ds) from h) with
    | tup h1 h2 => exact ⟨_, _, rfl, .inr h1, h2⟩
theorem dp_tup {K : PySem.W.Frag} {H : Hp} {v : V} {ds : List PyData} (h : Dp K H v (.tuple ds)) : ∃ a xs, v = .ref a ∧ SqT K H a xs ∧ DpAll K H xs ds := by
  cases h with
  | tup h1 h2 => exact ⟨_, _, rfl, h1, h2⟩
theorem dp_lst {K : PySem.W.Frag} {H : Hp} {v : V} {ds : List PyData} (h : Dp K H v (.list ds)) : ∃ a xs, v = .ref a ∧ SqL K H a xs ∧ DpAll K H xs ds := by
  cases h with
  | lst h1 h2 => exact ⟨_, _, rfl, h1, h2⟩
theorem dpAll_two {K : PySem.W.Frag} {H : Hp} {xs : List V} {d e : PyData} (h : DpAll K H xs [d, e]) : ∃ v w, xs = [v, w] ∧ Dp K H v d ∧ Dp K H w e := by
  cases h with
  | cons h1 h2 => cases h2 with
    | cons h2 h3 => cases h3; exact ⟨_, _, rfl, h1, h2⟩
theorem dpAll_three {K : PySem.W.Frag} {H : Hp} {xs : List V} {d e f : PyData} (h : DpAll K H xs [d, e, f]) : ∃ v w z, xs = [v, w, z] ∧ Dp K H v d ∧ Dp K H w e ∧ Dp K H z f := by
  cases h with
  | cons h1 h2 =>
    obtain ⟨v, w, rfl, h3, h4⟩ := dpAll_two h2
    exact ⟨_, _, _, rfl, h1, h3, h4⟩
theorem dp_int {K : PySem.W.Frag} {H : Hp} {v : V} {i : Int} (h : Dp K H v (.int i)) : v = .int i := by cases h; rfl
theorem dp_str {K : PySem.W.Frag} {H : Hp} {v : V} {i : Str} (h : Dp K H v (.str i)) : v = .str i := by cases h; rfl
theorem dpAll_app {K : PySem.W.Frag} {H : Hp} : ∀ {xs ys : List V} {ds es : List PyData}, DpAll K H xs ds → DpAll K H ys es → DpAll K H (xs ++ ys) (ds ++ es)
  | _, _, _, _, .nil, h => h
  | _, _, _, _, .cons h t, h2 => .cons h (dpAll_app t h2)
theorem dpAll_take {K : PySem.W.Frag} {H : Hp} : ∀ {xs : List V} {ds : List PyData} (n : Nat), DpAll K H xs ds → DpAll K H (xs.take n) (ds.take n)
  | _, _, 0, _ => by rw [List.take_zero, List.take_zero]; exact .nil
  | _, _, n + 1, .nil => .nil
  | _, _, n + 1, .cons h t => .cons h (dpAll_take n t)
theorem dpAll_drop {K : PySem.W.Frag} {H : Hp} : ∀ {xs : List V} {ds : List PyData} (n : Nat), DpAll K H xs ds → DpAll K H (xs.drop n) (ds.drop n)
  | _, _, 0, h => h
  | _, _, n + 1, .nil => .nil
  | _, _, n + 1, .cons h t => dpAll_drop n t
/-- xs[:k], xs[k:] -/
theorem cut_front {xs : List V} {k : Int} (h0 : 0 ≤ k) (h1 : k ≤ xs.length) : cutV xs none (some k) = xs.take k.toNat := by
  have e : k = ((k.toNat : Nat) : Int) := by omega
  unfold cutV
  rw [HT.sIx_none, List.drop_zero, e, HT.sIx_nat, Nat.sub_zero, Int.toNat_natCast]
  congr 1
  omega
theorem cut_back {xs : List V} {k : Int} (h0 : 0 ≤ k) (h1 : k ≤ xs.length) : cutV xs (some k) none = xs.drop k.toNat := by
  have e : k = ((k.toNat : Nat) : Int) := by omega
  unfold cutV
  rw [HT.sIx_none, e, HT.sIx_nat, Int.toNat_natCast, Nat.min_eq_left (by omega)]
  exact List.take_of_length_le (by rw [List.length_drop]; exact Nat.le_refl _)

/-! ### rounded half up -/
def hu (x y : Int) : Int := (2 * x + y) / (2 * y)
theorem half_up {x y : Int} (h : 0 < y) : 0 < frB x y ∧ frB x y ≤ y ∧ (2 * frA x y + frB x y).fdiv (2 * frB x y) = hu x y := by
  obtain ⟨e1, e2, q0, _, cs, hb, _⟩ := fr_spec (x := x) (y := y) (by omega)
  have hc := cs.mpr h
  refine ⟨q0, by omega, ?_⟩
  unfold hu
  generalize frC x y = c at *
  generalize frA x y = p at *
  generalize frB x y = q at *
  rw [Int.fdiv_eq_ediv_of_nonneg _ (by omega)]
  have a1 : 2 * x + y = c * (2 * p + q) := by rw [e1, e2, Int.mul_add, ← Int.mul_assoc c 2 p, Int.mul_comm c 2, Int.mul_assoc]
  have a2 : 2 * y = c * (2 * q) := by rw [e2, ← Int.mul_assoc c 2 q, Int.mul_comm c 2, Int.mul_assoc]
  rw [a1, a2, Int.mul_ediv_mul_of_pos _ _ hc]
/-- what half up means -/
theorem hu_near {x y : Int} (h : 0 < y) : -y ≤ 2 * (x - hu x y * y) ∧ 2 * (x - hu x y * y) < y := by
  have a := Int.emod_add_mul_ediv (2 * x + y) (2 * y)
  have b := Int.emod_nonneg (2 * x + y) (show 2 * y ≠ 0 by omega)
  have c := Int.emod_lt_of_pos (2 * x + y) (show 0 < 2 * y by omega)
  have e : 2 * y * ((2 * x + y) / (2 * y)) = 2 * (hu x y * y) := by
    unfold hu
    rw [Int.mul_comm ((2 * x + y) / (2 * y)) y, Int.mul_assoc]
  rw [e] at a
  omega
/-- and only the one nearest -/
theorem hu_uniq {x y t : Int} (h : 0 < y) (h1 : -y ≤ 2 * (x - t * y)) (h2 : 2 * (x - t * y) < y) : hu x y = t := by
  obtain ⟨a, b⟩ := hu_near (x := x) h
  have e : (hu x y - t) * y = hu x y * y - t * y := Int.sub_mul _ _ _
  generalize hu x y * y = u at a b e
  generalize t * y = v at h1 h2 e
  have l1 : (hu x y - t) * y < y := by omega
  have l2 : -y < (hu x y - t) * y := by omega
  generalize hd : hu x y - t = d at e l1 l2
  have d1 : d < 1 := by
    rcases Int.lt_or_le d 1 with z | z
    · exact z
    · have := Int.mul_le_mul_of_nonneg_right z (show 0 ≤ y by omega)
      omega
  have d2 : -1 < d := by
    rcases Int.lt_or_le (-1) d with z | z
    · exact z
    · have := Int.mul_le_mul_of_nonneg_right z (show 0 ≤ y by omega)
      omega
  omega
theorem hu_zero {y : Int} (h : 0 < y) : hu 0 y = 0 := hu_uniq h (by omega) (by omega)
theorem hu_all {n : Int} : hu (n * 100) 100 = n := hu_uniq (by decide) (by omega) (by omega)
def waysV : List V := [.str "down", .str "up", .str "toward zero", .str "half up", .str "half even"]
def sp_rounded_hu0 : Sp := fun vs H Q _ => ∃ x y : Int, vs = [.int x, .int y, .str "half up"] ∧ 0 < y ∧ y < 2 ^ 20 ∧ ∀ H', Same H H' → Q (.int (hu x y)) H'
@[irreducible] def sp_rounded_hu : Sp := sp_rounded_hu0
theorem sp_rounded_hu_eq : sp_rounded_hu = sp_rounded_hu0 := by unfold sp_rounded_hu; rfl
theorem rounded_hu {H : Hp} {Q : VK} {E : XK} (x : Int) {y : Int} (h0 : 0 < y) (h1 : y < 2 ^ 20) (k : ∀ H', Same H H' → Q (.int (hu x y)) H') : sp_rounded_hu [.int x, .int y, .str "half up"] H Q E := by
  rw [sp_rounded_hu_eq]
  exact ⟨x, y, rfl, h0, h1, k⟩
/-! ### all that stands but the deck -/
theorem del_some {H : Hp} {p b : Addr} {o : HO} (h : H b = some o) (n : b ≠ p) : del H p b = some o := by rw [del_ne n]; exact h
theorem del_of {H : Hp} {p b : Addr} {o : HO} (h : del H p b = some o) : H b = some o ∧ b ≠ p := by
  by_cases e : b = p
  · rw [e, del_same] at h
    cases h
  · rw [del_ne e] at h
    exact ⟨h, e⟩
theorem Dk.freeze {G H : Hp} {d : Addr} {D : List Int} (k : Dk G H d D) : Dk (del H d) H d D := ⟨del_same, fun _ _ e => (del_of e).1, k.hd⟩
theorem Dk.under {G H : Hp} {d : Addr} {D : List Int} (k : Dk G H d D) : Same G (del H d) := fun b o e => del_some (k.sm b o e) (k.ne e)
theorem DN.frozen {K : PySem.W.Frag} {S : Addr → Prop} {H : Hp} {p : Addr} {v : V} {d : PyData} (h : DN S H v d) (hs : ∀ b, S b → b ≠ p) : Dp K (del H p) v d :=
  DN.dp d v (DN.mono (S' := S) (fun _ z => z) (fun a o hS e => del_some e (hs a hS)) d v h)

theorem DNs.frozen {K : PySem.W.Frag} {S : Addr → Prop} {H : Hp} {p : Addr} {vs : List V} {ds : List PyData} (h : DNs S H vs ds) (hs : ∀ b, S b → b ≠ p) : DpAll K (del H p) vs ds :=
  DNs.dp ds vs (DNs.mono (S' := S) (fun _ z => z) (fun a o hS e => del_some e (hs a hS)) ds vs h)
theorem Dk.get {H H2 : Hp} {d b : Addr} {D : List Int} {o : HO} (k : Dk (del H d) H2 d D) (n : b ≠ d) (h : H b = some o) : H2 b = some o := k.sm b o (del_some h n)
theorem DNs.on {S : Addr → Prop} {H H2 : Hp} {d : Addr} {D : List Int} {vs : List V} {ds : List PyData} (h : DNs S H vs ds) (k : Dk (del H d) H2 d D) (hs : ∀ b, S b → b ≠ d) : DNs S H2 vs ds :=
  DNs.mono (fun _ z => z) (fun a o hS e => k.get (hs a hS) e) ds vs h
/-- a list and another with the same data: != says no -/
theorem data_same {K : PySem.W.Frag} {H : Hp} {v w : V} {d : PyData} {Q : VK} {n : Nat} (h1 : Dp K H v d) (h2 : Dp K H w d) (ok : okDx n d = true) (hn : n ≤ 64) (k : Q (.bl false) H) : rNeD K v w H Q := by
  have sh := okDx_shaped ok hn
  refine ⟨d, d, h1, h2, sh, sh, ?_⟩
  rw [SeqAt.eqv_refl _ (SeqAt.canLay_of_shaped sh)]
  exact k
theorem data_eq {K : PySem.W.Frag} {H : Hp} {v w : V} {d : PyData} {Q : VK} {n : Nat} (h1 : Dp K H v d) (h2 : Dp K H w d) (ok : okDx n d = true) (hn : n ≤ 64) (k : Q (.bl true) H) : rEqD K v w H Q := by
  have sh := okDx_shaped ok hn
  refine ⟨d, d, h1, h2, sh, sh, ?_⟩
  rw [SeqAt.eqv_refl _ (SeqAt.canLay_of_shaped sh)]
  exact k
mutual
theorem okD_x : ∀ (n : Nat) (d : PyData), okD n d = true → okDx n d = true
  | n, .none, _ => by cases n <;> simp only [okDx]
  | n, .bool b, _ => by cases n <;> simp only [okDx]
  | n, .int i, _ => by cases n <;> simp only [okDx]
  | n, .str x, h => by
    simp only [okD] at h
    cases n <;> simp [okDx, h]
  | 0, .list _, h => by simp [okD] at h
  | n + 1, .list xs, h => by
    simp only [okD, Bool.and_eq_true] at h
    simp only [okDx]
    exact okDs_x n xs h.2
  | 0, .tuple _, h => by simp [okD] at h
  | n + 1, .tuple xs, h => by
    simp only [okD, Bool.and_eq_true] at h
    simp only [okDx]
    exact okDs_x n xs h.2
  | n, .dict _, h => by cases n <;> simp [okD] at h
theorem okDs_x : ∀ (n : Nat) (ds : List PyData), okDs n ds = true → okDxs n ds = true
  | _, [], _ => by simp [okDxs]
  | n, x :: xs, h => by
    simp only [okDs, Bool.and_eq_true] at h
    simp only [okDxs, okD_x n x h.1, okDs_x n xs h.2, Bool.and_self]
end
/-! ### list comprehensions whose parts read K (walk_at "blk" closes the three equations) -/
section
variable {X : Cx}
theorem pe_lcK {elt tg iter : Expr} {ifs : List Expr} {scope : Scope} {own : List (Str × Nat)} {pos : Pos} {wi : TI} {g : TG} {tt : TT} {te : TE} {g' : Shared → Hp → Addr → List (Str × Addr) → List Addr → TG} {tt' : Shared → Hp → Addr → List (Str × Addr) → List Addr → TT} {te' : Shared → Hp → Addr → List (Str × Addr) → List Addr → TE}
    (hc : X.calm = true) (hN : X.N.Nodup) (hi : PI X tg iter wi) (ok : BlkOk X.N X.env.scope scope own)
    (hg : ∀ (s : Shared) (H : Hp) (C : Addr) (cl : List (Str × Addr)) (fp : List Addr), PG (X.blk s H scope (compEnvC scope cl C X.env) fp) tg (g' s H C cl fp)) (ht : ∀ (s : Shared) (H : Hp) (C : Addr) (cl : List (Str × Addr)) (fp : List Addr), PTs (X.blk s H scope (compEnvC scope cl C X.env) fp) ifs (tt' s H C cl fp))
    (he : ∀ (s : Shared) (H : Hp) (C : Addr) (cl : List (Str × Addr)) (fp : List Addr), PE (X.blk s H scope (compEnvC scope cl C X.env) fp) elt (te' s H C cl fp))
    (eg : ∀ s H C cl fp, g' s H C cl fp = g) (et : ∀ s H C cl fp, tt' s H C cl fp = tt) (ee : ∀ s H C cl fp, te' s H C cl fp = te) (hs : ∀ x, foldedSetIterable iter X.env x = pure x := by intro _; rfl) :
    PE X (.ListComp elt [⟨tg, iter, ifs, 0⟩] scope pos) (tLc wi g tt te (own.map (·.2))) :=
  pe_lc hc hN hi ok (fun s H C cl fp => by rw [← eg s H C cl fp]; exact hg s H C cl fp) (fun s H C cl fp => by rw [← et s H C cl fp]; exact ht s H C cl fp) (fun s H C cl fp => by rw [← ee s H C cl fp]; exact he s H C cl fp) hs
theorem ps_setLcK {i : Nat} {y : Str} {py : Pos} {elt tg iter : Expr} {ifs : List Expr} {scope : Scope} {own : List (Str × Nat)} {pos spos : Pos} {wi : TI} {g : TG} {tt : TT} {te : TE} {g' : Shared → Hp → Addr → List (Str × Addr) → List Addr → TG} {tt' : Shared → Hp → Addr → List (Str × Addr) → List Addr → TT} {te' : Shared → Hp → Addr → List (Str × Addr) → List Addr → TE}
    (hc : X.calm = true) (hN : X.N.Nodup) (hy : X.N[i]? = some y) (hyl : X.env.scope.names.lookup y = some .local)
    (hsw : swapsWith (.ListComp elt [⟨tg, iter, ifs, 0⟩] scope pos) (some (.Name y py)) spos.line X.env = pure true) (hi : PI X tg iter wi) (ok : BlkOk X.N X.env.scope scope own)
    (hg : ∀ (s : Shared) (H : Hp) (C : Addr) (cl : List (Str × Addr)) (fp : List Addr), PG (X.blk s H scope (compEnvC scope cl C X.env) fp) tg (g' s H C cl fp)) (ht : ∀ (s : Shared) (H : Hp) (C : Addr) (cl : List (Str × Addr)) (fp : List Addr), PTs (X.blk s H scope (compEnvC scope cl C X.env) fp) ifs (tt' s H C cl fp))
    (he : ∀ (s : Shared) (H : Hp) (C : Addr) (cl : List (Str × Addr)) (fp : List Addr), PE (X.blk s H scope (compEnvC scope cl C X.env) fp) elt (te' s H C cl fp))
    (eg : ∀ s H C cl fp, g' s H C cl fp = g) (et : ∀ s H C cl fp, tt' s H C cl fp = tt) (ee : ∀ s H C cl fp, te' s H C cl fp = te) (hs : ∀ x, foldedSetIterable iter X.env x = pure x := by intro _; rfl) :
    PS X (.Assign [.Name y py] (.ListComp elt [⟨tg, iter, ifs, 0⟩] scope pos) spos) (tAsg (tLc wi g tt te (own.map (·.2))) (gName i)) :=
  ps_setLc hc hN hy hyl hsw hi ok (fun s H C cl fp => by rw [← eg s H C cl fp]; exact hg s H C cl fp) (fun s H C cl fp => by rw [← et s H C cl fp]; exact ht s H C cl fp) (fun s H C cl fp => by rw [← ee s H C cl fp]; exact he s H C cl fp) hs
end
/-- a comprehension that changes nothing but new objects: f i is what turn i gives, none where the test fails -/
theorem lc_fn {J : It} {n : Nat} {G : Hp → Prop} {Y : Nat → Hp → V → Hp → Prop} (w : Walk J n G Y) (f : Nat → Option V) {g : TG} {tt : TT} {te : TE} {vs : List Nat} {σ : L2.St} {H1 : Hp} {D : Addr} {Qd : Hp → Prop} (hz : n ≤ 1000000) (hD : H1 D = none)
    (hG : ∀ H, Same H1 H → G H)
    (hs : ∀ i x H H' (R : VK) (N : Hp → Prop), i < n → Same H1 H → Y i H x H' → (∀ y H4, f i = some y → Same H H4 → R y H4) → (∀ H4, f i = none → Same H H4 → N H4) →
      g x (wipe σ vs) H' fun σ2 H2 => wipe σ2 vs = wipe σ vs ∧ tt σ2 H2 fun b H3 => if b = true then te σ2 H3 R else N H3)
    (hd : ∀ H', Same H1 H' → H' D = some (.lst ((List.range n).filterMap f)) → Qd H') :
    ∃ W : Nat → Nat → Hp → Prop, (∃ m, W 0 m (upd H1 D (.lst []))) ∧ ∀ i m H, W i m H →
      (J.stop i H ∧ Qd H) ∨ (J.go i H ∧ ∃ Nx : Hp → Prop, (∀ H', Nx H' → ∃ m', m' < m ∧ W (i + 1) m' H') ∧ ∀ x H', J.yld i H x H' → g x (wipe σ vs) H' fun σ2 H2 => wipe σ2 vs = wipe σ vs ∧ tt σ2 H2 fun b H3 =>
        if b = true then te σ2 H3 fun y H4 => ∃ acc, H4 D = some (.lst acc) ∧ acc.length < sizeLine ∧ Nx (upd H4 D (.lst (acc ++ [y]))) else Nx H3) := by
  refine lc_it w (fun i H' => Same H1 H' ∧ H' D = some (.lst ((List.range i).filterMap f))) ⟨Same.new hD, upd_same⟩ (fun i H _ q => hG H q.1) ?_ (fun H' q => hd H' q.1 q.2)
  rintro i x H H' hi ⟨s1, hl⟩ hy
  refine hs i x H H' _ _ hi s1 hy ?_ ?_
  · intro y H4 e s2
    refine ⟨_, s2 _ _ hl, small1000000 ?_, (s1.trans s2).mut hD, ?_⟩
    · have := List.length_filterMap_le f (List.range i)
      rw [List.length_range] at this
      omega
    · rw [upd_same, List.range_succ, List.filterMap_append]
      simp [e]
  · intro H4 e s2
    refine ⟨s1.trans s2, ?_⟩
    rw [s2 _ _ hl, List.range_succ, List.filterMap_append]
    simp [e]
theorem fm_some {α : Type} (f : Nat → α) (n : Nat) : (List.range n).filterMap (fun i => some (f i)) = (List.range n).map f := by
  rw [← List.filterMap_eq_map]
  rfl
theorem range_at {α β : Type} (xs : List α) (F : α → β) (f : Nat → β) (h : ∀ i x, xs[i]? = some x → f i = F x) : (List.range xs.length).map f = xs.map F := by
  refine List.ext_getElem? fun i => ?_
  rw [List.getElem?_map, List.getElem?_map]
  by_cases hi : i < xs.length
  · rw [List.getElem?_range hi, List.getElem?_eq_getElem hi]
    simp [h i _ (List.getElem?_eq_getElem hi)]
  · rw [List.getElem?_eq_none (by simp; omega), List.getElem?_eq_none (by omega)]
    rfl
theorem ints_get {ns : List Int} {i : Nat} {x : V} (h : (ns.map V.int)[i]? = some x) : ∃ z, ns[i]? = some z ∧ x = .int z := by
  rw [List.getElem?_map] at h
  obtain ⟨z, hz, rfl⟩ := Option.map_eq_some_iff.mp h
  exact ⟨z, hz, rfl⟩
theorem tk_sum {ns : List Int} {i : Nat} {z : Int} (f : Int → Int) (h : ns[i]? = some z) : ((ns.take (i + 1)).map f).sum = ((ns.take i).map f).sum + f z := by
  rw [List.take_add_one, h, List.map_append, List.sum_append]
  simp
section
variable {X : Cx}
/-- sorted(xs) of a tuple of ints -/
def rSortedT (K : PySem.W.Frag) : List V → Hp → VK → Prop := fun vs H Q => ∃ (a : Addr) (ns : List Int), vs = [V.ref a] ∧ SqT K H a (ns.map V.int) ∧
  ∀ (ns' : List Int) (p : Addr), ns'.Perm ns → ns'.Pairwise (· ≤ ·) → H p = none → Q (.ref p) (upd H p (.lst (ns'.map V.int)))
theorem cr_sortedT : CallR X (.builtin "sorted") (rSortedT X.K) := by
  intro pins s σ H vs us Q I r h
  obtain ⟨a, ns, rfl, hs, q⟩ := h
  obtain ⟨its, rv, ⟨o, ho, hc, n, hd⟩, hz⟩ := I.tuple hs
  rw [Vals.ref1 r]
  have hi := rv.ints
  have hz' : its.length ≤ sizeLine := by rw [← rv.length]; exact hz
  refine Calls.call_function_entry kind_sorted plain_sorted entry_sorted (args_sorted1 _) ?_
  unfold Builtin.«sorted»
  refine wpAny_bind (m := checkCount "sorted" 1 1 _) (wpAny_pure ?_)
  refine wpAny_bind (wpAny_collect_seq a (.inr rfl) ho hc hd (fun h1 hk => ?_) (by simpa using hz'))
  refine wpAny_bind (wpAny_newList ?_ (by simpa using hz'))
  have hoL : (h1.push (seqObj "list" its.toArray 0)).get? h1.objs.size = some (seqObj "list" its.toArray 0) := Heap.get?_push_size _ rfl
  have keep : ∀ b u, s.heap.get? b = some u → b ≠ h1.objs.size ∧ (h1.push (seqObj "list" its.toArray 0)).get? b = some u := fun b u e => ⟨Nat.ne_of_lt (Heap.lt_size (hk b u e)), Heap.get?_push_of_some _ (hk b u e)⟩
  have hn : H h1.objs.size = none := (I.hok.kept hk).fresh (Nat.le_refl _)
  have hp : s.heap.get? h1.objs.size = none := by
    cases e : s.heap.get? h1.objs.size with
    | none => rfl
    | some u => exact absurd (Heap.lt_size (hk _ _ e)) (Nat.lt_irrefl _)
  refine wpAny_bind (wpAny_holding (wpAny_call_entry slot_list_sort ⟨_, hoL, rfl⟩ entry_list_sort (SrtO.list_sort_ord SrtO.swo_int hoL hz' (fun h2 => SrtO.ints_sortable hi h2) fun out hs hb => ⟨_, rfl, ?_⟩) (args_list_sort _)))
  refine wpAny_pure ⟨_, rfl, ?_⟩
  obtain ⟨k1, k2, k3⟩ := SrtO.ints_out hi hs hb
  obtain ⟨ep, he'⟩ := sortedHeap_at (vs := its) (out := out.toArray) hoL
  have hlen : ((out.map SrtO.iv).map V.int).length ≤ sizeLine := by
    rw [List.length_map, k2.length_eq]
    rw [List.length_map] at hz
    exact hz
  refine ⟨.ref _, upd H h1.objs.size (.lst ((out.map SrtO.iv).map V.int)), I.laidN (t' := s.toks) (fun b u e => ?_) hp hn ⟨hlen, out, ep, vals_of_ints k1, he'⟩, rfl, q _ _ k2 k3 hn⟩
  rw [sortedHeap_old (keep b u e).1 (Heap.lt_size (keep b u e).2)]
  exact (keep b u e).2
/-- sorted(xs) of a list or a tuple of ints -/
def rSortedQ (K : PySem.W.Frag) : List V → Hp → VK → Prop := fun vs H Q => ∃ (a : Addr) (ns : List Int), vs = [V.ref a] ∧ SqX K H a (ns.map V.int) ∧
  ∀ (ns' : List Int) (p : Addr), ns'.Perm ns → ns'.Pairwise (· ≤ ·) → H p = none → Q (.ref p) (upd H p (.lst (ns'.map V.int)))
theorem cr_sortedQ : CallR X (.builtin "sorted") (rSortedQ X.K) := by
  intro pins s σ H vs us Q I r h
  obtain ⟨a, ns, e, hs | hs, q⟩ := h
  · exact cr_sortedI pins s σ H vs us Q I r ⟨a, ns, e, hs, q⟩
  · exact cr_sortedT pins s σ H vs us Q I r ⟨a, ns, e, hs, q⟩
end
/-- the blocks of a comprehension within a comprehension: sc is the scope of the def -/
def envAt (sc : Scope) : Env := { scope := sc, locals := 0, globals := 0, cells := [] }
theorem blkOk_in {N : List Str} {sc scope0 scope : Scope} {own : List (Str × Nat)} {env : Env} (he : env.scope = sc) (h : blkC N (relabel scope0 (envAt sc)) scope own = true) : BlkOk N (relabel scope0 env) scope own := by
  have e : relabel scope0 env = relabel scope0 (envAt sc) := by
    subst he
    rfl
  rw [e]
  exact blkOk_by h
theorem fm_ints {β : Type} (ns : List Int) (G : Int → Option β) : (List.range ns.length).filterMap (fun i => G (ns.getD i 0)) = ns.filterMap G := by
  have e : (List.range ns.length).map (fun i => ns.getD i 0) = ns := by
    rw [range_at ns id _ (fun i x e => by rw [List.getD_eq_getElem?_getD, e]; rfl), List.map_id]
  have h : (List.range ns.length).filterMap (fun i => G (ns.getD i 0)) = ((List.range ns.length).map (fun i => ns.getD i 0)).filterMap G := by
    rw [List.filterMap_map]
    rfl
  rw [h, e]
theorem fm_filter {α β : Type} (P : α → Bool) (f : α → β) : ∀ xs : List α, xs.filterMap (fun x => if P x = true then some (f x) else none) = (xs.filter P).map f
  | [] => rfl
  | x :: t => by
    by_cases h : P x = true
    · rw [List.filterMap_cons, if_pos h, List.filter_cons, if_pos h, List.map_cons, fm_filter P f t]
    · rw [List.filterMap_cons, if_neg h, List.filter_cons, if_neg h, fm_filter P f t]
theorem atI_last {α : Type} {xs : List α} {v : α} (h : xs[xs.length - 1]? = some v) : atI xs (-1) = some v := by
  have h0 : 0 < xs.length := by
    have := (List.getElem?_eq_some_iff.mp h).1
    omega
  unfold atI ixN
  rw [if_neg (by decide), if_pos (by omega)]
  show xs[(-1 + (xs.length : Int)).toNat]? = _
  rw [show (-1 + (xs.length : Int)).toNat = xs.length - 1 by omega]
  exact h
/-! ### methods and makings that may raise, by what is wanted at the place -/
section
variable {X : Cx} {CX : CXT} {k : Nat} {f C : Addr} {fd : FuncData} {ps : List Str} {sp : Sp} {E : L2.St → XK} {x m : Str} {p pos apos : Pos} {e o : Expr} {es : List Expr} {ta : TE} {t : TA}
def tMethQ (C : Addr) (m : Str) (sp : Sp) (E : L2.St → XK) (ta : TE) (t : TA) : TE := fun σ H Q => ta σ H fun x H1 => ∃ a dx fs, x = .ref a ∧ H1 a = some (.ins C dx fs) ∧ fs.lookup m = none ∧ t σ H1 fun vs H2 => sp (x :: vs) H2 Q (E σ)
theorem pe_methQ {pl : Sem Bool} (he : PE X o ta) (c : Cls X.K C) (hm : Meth X.K C m f) (F : FnOk X.prog X.w X.K X.mg X.base CX k f fd ps sp) (hr : Room k X.A) (hb : Binds X.K fd ps []) (hx : ∀ σ, PassesAt CX X σ (E σ)) (ha : PA X (e :: es) t)
    (hst : starEach (e :: es) X.env = (false, eval e X.env) :: starEach es X.env := by rfl) (hpl : (backTo pos (starEach es X.env)).any (·.1) = false := by rfl)
    (ht : eval (.Call (.Attribute o m apos) (e :: es) [] pos) X.env = (do
      let ov ← eval o X.env
      standAt apos.atName
      let (f, first) ← holding [ov] (getMethod ov m pl)
      callWith pos f first (backTo pos (starEach (e :: es) X.env)) (backToKw pos (keywordEach [] X.env))) := by rfl) :
    PE X (.Call (.Attribute o m apos) (e :: es) [] pos) (tMethQ C m sp E ta t) := by
  refine ⟨fun pins s σ H Q I h => ?_⟩
  refine PySem.W.methodCall_KW (pl := pl) (thn (he.run pins s σ H _ I h) fun u s1 ⟨x, H1, I1, rx, a, dx, fs, ex, ea, l, q⟩ => ?_) ht
  subst ex
  obtain rfl : u = Value.ref a := rx
  refine getmeth_ok I1 ea c hm l ?_
  refine PySem.W.callWith_K (first := [.ref a]) (h₀ := X.base) I.ok.mod.kin hm.kp (thn (ha.run pos pins s1 σ H1 _ I1 q) fun us s2 ⟨vs, H2, I2, r, q2⟩ => ⟨I2.kIn, ?_⟩) hst hpl
  exact run_fnS (us := .ref a :: us) (vs := .ref a :: vs) F hr hb (hx σ) I2 (.cons rfl r) q2
theorem pe_meth0Q {pl : Sem Bool} (he : PE X o ta) (c : Cls X.K C) (hm : Meth X.K C m f) (F : FnOk X.prog X.w X.K X.mg X.base CX k f fd ps sp) (hr : Room k X.A) (hb : Binds X.K fd ps []) (hx : ∀ σ, PassesAt CX X σ (E σ))
    (ht : eval (.Call (.Attribute o m apos) [] [] pos) X.env = (do
      let ov ← eval o X.env
      standAt apos.atName
      let (f, first) ← holding [ov] (getMethod ov m pl)
      callWith pos f first (backTo pos (starEach [] X.env)) (backToKw pos (keywordEach [] X.env))) := by rfl) :
    PE X (.Call (.Attribute o m apos) [] [] pos) (tMethQ C m sp E ta tNil) := by
  refine ⟨fun pins s σ H Q I h => ?_⟩
  refine PySem.W.methodCall_KW (pl := pl) (thn (he.run pins s σ H _ I h) fun u s1 ⟨x, H1, I1, rx, a, dx, fs, ex, ea, l, q⟩ => ?_) ht
  subst ex
  obtain rfl : u = Value.ref a := rx
  refine getmeth_ok I1 ea c hm l ?_
  exact PySem.W.callWith_K0 (first := [.ref a]) I1.kIn hm.kp (run_fnS (us := [.ref a]) (vs := [.ref a]) F hr hb (hx σ) I1 (.cons rfl .nil) q)
def tMakeQ (C : Addr) (sp : Sp) (E : L2.St → XK) (t : TA) : TE := fun σ H Q => t σ H fun vs H1 => ∀ x dx, H1 x = none → H1 dx = none → dx ≠ x →
  sp (.ref x :: vs) (upd (upd H1 dx (.own x)) x (.ins C dx [])) (fun v H2 => v = .non ∧ Q (.ref x) H2) (E σ)
theorem run_makeQ {pins : List (Addr × Obj)} {σ : L2.St} {H : Hp} {s : Shared} {Q : VK} {E : XK} {us : List Value} {vs : List V} (M : Mk X.K C f) (F : FnOk X.prog X.w X.K X.mg X.base CX k f fd ps sp) (hr : Room (k + 1) X.A) (hb : Binds X.K fd ps [])
    (hx : PassesAt CX X σ E) (I : Inv X pins σ H s) (r : Vals vs us)
    (h : ∀ x dx, H x = none → H dx = none → dx ≠ x → sp (.ref x :: vs) (upd (upd H dx (.own x)) x (.ins C dx [])) (fun v H2 => v = .non ∧ Q (.ref x) H2) E) :
    wpAny (model X.prog X.w) X.A (call (.ref C) us) (EP X pins σ Q) X.xe s := by
  have hq := h (s.heap.objs.size + 1) s.heap.objs.size (I.hok.fresh (Nat.le_succ _)) (I.hok.fresh (Nat.le_refl _)) (Nat.ne_of_lt (Nat.lt_succ_self _))
  have I2 := Inv.made (C := C) I
  have r2 : Vals (V.ref (s.heap.objs.size + 1) :: vs) (Value.ref (s.heap.objs.size + 1) :: us) := .cons rfl r
  have hl : (Value.ref (s.heap.objs.size + 1) :: us).length = ps.length := by
    have e := r2.length
    rw [F.len _ _ _ _ hq] at e
    exact e.symm
  have b := hb _ (Value.ref (s.heap.objs.size + 1) :: us) I2.kIn (by rw [List.append_nil]; exact hl)
  rw [List.append_nil] at b
  refine wpAny_call (make_map (f := f) I.kIn M.makes M.init (beq_iff_eq.mp M.fn) (codeAny_mono (F.run _ X.stack _ _ ⟨Value.ref (s.heap.objs.size + 1) :: us, []⟩ (Value.ref (s.heap.objs.size + 1) :: us) _ _ E (hr.make C us [])
    (I2.env0.make C us []) b r2 hq) fun r s' hq' => ?_))
  cases r with
  | error e => exact hx pins _ _ e s' I2 hq'
  | ok fl =>
    cases fl with
    | ret u =>
      obtain ⟨v, H', I3, rv, ev, q3⟩ := I2.after hq'
      subst ev
      exact ⟨rv, ⟨V.ref (s.heap.objs.size + 1), H', I3, rfl, q3⟩⟩
    | next => exact False.elim hq'
    | brk => exact False.elim hq'
    | cont => exact False.elim hq'
theorem pe_makeQ (M : Mk X.K C f) (F : FnOk X.prog X.w X.K X.mg X.base CX k f fd ps sp) (hr : Room (k + 1) X.A) (hg : Gl X x) (hm : X.mg x = some (.ref C)) (hb : Binds X.K fd ps []) (hx : ∀ σ, PassesAt CX X σ (E σ))
    (ha : PA X (e :: es) t) (hdb : (x == ("__debug__" : Str)) = false := by decide) (he : starEach (e :: es) X.env = (false, eval e X.env) :: starEach es X.env := by rfl) (hpl : (backTo pos (starEach es X.env)).any (·.1) = false := by rfl) :
    PE X (.Call (.Name x p) (e :: es) [] pos) (tMakeQ C sp E t) := by
  refine ⟨fun pins s σ H Q I h => ?_⟩
  refine wpAny_Call_Name_kw (ld_glob I hg hm ?_ hdb)
  refine PySem.W.callWith_K (h₀ := X.base) I.ok.mod.kin M.kp (thn (ha.run pos pins s σ H _ I h) fun us s1 ⟨vs, H1, I1, r, q⟩ => ⟨I1.kIn, ?_⟩) he hpl
  exact run_makeQ M F hr hb (hx σ) I1 r q
end

/-! ### the lists in a value, at most n deep -/
mutual
inductive DC (K : PySem.W.Frag) (H : Hp) : Nat → V → List Addr → Prop
  | non (n : Nat) : DC K H n .non []
  | bl (n : Nat) (b : Bool) : DC K H n (.bl b) []
  | int (n : Nat) (i : Int) : DC K H n (.int i) []
  | str (n : Nat) (x : Str) : DC K H n (.str x) []
  | lst {n : Nat} {a : Addr} {xs : List V} {L : List Addr} : H a = some (.lst xs) → xs.length ≤ 1000 → DCs K H n xs L → a ∉ L → DC K H (n + 1) (.ref a) (a :: L)
  | tup {n : Nat} {a : Addr} {xs : List V} {L : List Addr} : SqT K H a xs → xs.length ≤ 1000 → DCs K H n xs L → DC K H (n + 1) (.ref a) L
inductive DCs (K : PySem.W.Frag) (H : Hp) : Nat → List V → List Addr → Prop
  | nil (n : Nat) : DCs K H n [] []
  | cons {n : Nat} {v : V} {vs : List V} {L M : List Addr} : DC K H n v L → DCs K H n vs M → (∀ b, b ∈ L → b ∉ M) → DCs K H n (v :: vs) (L ++ M)
end
mutual
theorem DC.lists {K : PySem.W.Frag} {H : Hp} : ∀ {n : Nat} {v : V} {L : List Addr}, DC K H n v L → ∀ b, b ∈ L → ∃ xs, H b = some (.lst xs)
  | _, _, _, .non _, b, h => by cases h
  | _, _, _, .bl _ _, b, h => by cases h
  | _, _, _, .int _ _, b, h => by cases h
  | _, _, _, .str _ _, b, h => by cases h
  | _, _, _, .lst h1 _ h2 _, b, h => by
    rcases List.mem_cons.mp h with rfl | h
    · exact ⟨_, h1⟩
    · exact DCs.lists h2 b h
  | _, _, _, .tup _ _ h2, b, h => DCs.lists h2 b h
theorem DCs.lists {K : PySem.W.Frag} {H : Hp} : ∀ {n : Nat} {vs : List V} {L : List Addr}, DCs K H n vs L → ∀ b, b ∈ L → ∃ xs, H b = some (.lst xs)
  | _, _, _, .nil _, b, h => by cases h
  | _, _, _, .cons h1 h2 _, b, h => by
    rcases List.mem_append.mp h with h | h
    · exact DC.lists h1 b h
    · exact DCs.lists h2 b h
end
/-- all but the lists of P is as it was -/
def ButP (P : List Addr) (H H' : Hp) : Prop := ∀ b o, b ∉ P → H b = some o → H' b = some o
theorem ButP.tup {K : PySem.W.Frag} {P : List Addr} {H H' : Hp} (h : ButP P H H') (hP : ∀ b, b ∈ P → ∃ xs, H b = some (.lst xs)) {a : Addr} {xs : List V} (s : SqT K H a xs) : SqT K H' a xs := by
  have n : ∀ {o : HO}, H a = some o → (∀ ys, o ≠ .lst ys) → a ∉ P := fun e ne q => by
    obtain ⟨ys, hy⟩ := hP a q
    rw [e] at hy
    exact ne ys (Option.some.inj hy)
  rcases s with (s | ⟨o, s⟩) | s
  · exact .inl (.inl (h _ _ (n s (fun _ z => nomatch z)) s))
  · exact .inl (.inr ⟨o, h _ _ (n s (fun _ z => nomatch z)) s⟩)
  · exact .inr s
mutual
theorem DC.mono {K : PySem.W.Frag} {P : List Addr} {H H' : Hp} (h : ButP P H H') (hP : ∀ b, b ∈ P → ∃ xs, H b = some (.lst xs)) : ∀ {n : Nat} {v : V} {L : List Addr}, DC K H n v L → (∀ b, b ∈ L → b ∉ P) → DC K H' n v L
  | _, _, _, .non n, _ => .non n
  | _, _, _, .bl n b, _ => .bl n b
  | _, _, _, .int n i, _ => .int n i
  | _, _, _, .str n x, _ => .str n x
  | _, _, _, .lst h1 hz h2 h3, d => .lst (h _ _ (d _ List.mem_cons_self) h1) hz (DCs.mono h hP h2 fun b hb => d b (List.mem_cons_of_mem _ hb)) h3
  | _, _, _, .tup h1 hz h2, d => .tup (h.tup hP h1) hz (DCs.mono h hP h2 d)
theorem DCs.mono {K : PySem.W.Frag} {P : List Addr} {H H' : Hp} (h : ButP P H H') (hP : ∀ b, b ∈ P → ∃ xs, H b = some (.lst xs)) : ∀ {n : Nat} {vs : List V} {L : List Addr}, DCs K H n vs L → (∀ b, b ∈ L → b ∉ P) → DCs K H' n vs L
  | _, _, _, .nil n, _ => .nil n
  | _, _, _, .cons h1 h2 h3, d => .cons (DC.mono h hP h1 fun b hb => d b (List.mem_append.mpr (.inl hb))) (DCs.mono h hP h2 fun b hb => d b (List.mem_append.mpr (.inr hb))) h3
end
def sp_spoil (K : PySem.W.Frag) (n : Nat) : Sp := fun vs H Q _ => ∃ (v : V) (L : List Addr), vs = [v] ∧ DC K H n v L ∧ ∀ H', ButP L H H' → Q .non H'
theorem DCs.same {K : PySem.W.Frag} {H H' : Hp} (s : Same H H') {n : Nat} {vs : List V} {L : List Addr} (h : DCs K H n vs L) : DCs K H' n vs L := h.mono (P := []) (fun b o _ e => s b o e) (fun b hb => by cases hb) (fun b _ hb => by cases hb)
theorem DCs.ints {K : PySem.W.Frag} {H : Hp} {n : Nat} : ∀ ns : List Int, DCs K H n (ns.map V.int) []
  | [] => .nil n
  | x :: ns => by
    have h : DCs K H n (V.int x :: ns.map V.int) ([] ++ []) := .cons (.int n x) (DCs.ints ns) fun b hb => by cases hb
    exact h
/-- the turn of a for over a value's items that spoils them -/
theorem spoil_turn {K : PySem.W.Frag} {n i : Nat} {H1 H2 : Hp} {xs : List V} {x : V} {LL R : List Addr} (hx : xs[i]? = some x) (hR : DCs K H2 n (xs.drop i) R) (hL : ∀ b, b ∈ R → b ∈ LL) (h2 : ButP LL H1 H2) :
    ∃ N, DC K H2 n x N ∧ ∀ H', ButP N H2 H' → ∃ R', DCs K H' n (xs.drop (i + 1)) R' ∧ (∀ b, b ∈ R' → b ∈ LL) ∧ ButP LL H1 H' := by
  obtain ⟨hi, rfl⟩ := List.getElem?_eq_some_iff.mp hx
  rw [List.drop_eq_getElem_cons hi] at hR
  cases hR with
  | @cons _ _ _ N M c1 c2 d =>
    refine ⟨N, c1, fun H' hb => ⟨M, c2.mono hb c1.lists fun b hb q => d b q hb, fun b hb => hL b (List.mem_append.mpr (.inr hb)), fun b o nb e => hb b o (fun q => nb (hL b (List.mem_append.mpr (.inl q)))) (h2 b o nb e)⟩⟩
/-! max(xs, default=d) of a list of ints -/
section
variable {prog : Program} {w : World} {A : Around} {R : Result → Shared → Prop} {I : Addr} {fp wr : List Addr} {n : Nat} {P : Nat → Value → Prop} {St : Nat → Heap → Prop} {d : Value}
theorem md_loop (W : Walks prog w A.in1 I fp wr n P St) (bt : Nat → Nat → Bool) (hcmp : CmpOf prog w A.in1 .Gt P bt) (S : Addr) (hSf : S ∉ fp) :
    ∀ (k j : Nat) (s : Shared) (vb : Value) (c : Nat), n - (j + 1) = k → j + 1 ≤ n → St (j + 1) s.heap → P (argBest bt j) vb →
    s.heap.get? S = some { cls := .type "list", dict := none, data := .seq #[vb, vb] c, slots := #[] } →
    (∀ v h' tk, P (argBest bt (n - 1)) v → (∀ b o, b ∉ wr → b ≠ S → s.heap.get? b = some o → h'.get? b = some o) → R (.ok (.ret v)) { s with heap := h', toks := tk }) →
    codeAny (model prog w) A (.builtin "max.loop" ⟨[.ref I, .none, .ref S], [(Str.ofString "default", d)]⟩) R s := by
  have hSw : S ∉ wr := fun h => hSf (W.sub _ h)
  have hname : (toString "max" ++ toString ".loop" : String) = "max.loop" := by decide
  intro k
  induction k with
  | zero =>
    intro j s vb c hk hj hst hPb hS hR
    have hin : j + 1 = n := by omega
    refine codeAny_builtin F.entry_max_loop ?_
    rw [Around.under_plainId F.plain_max_loop _]
    show wpAny _ A.in1 (seqItems? (.ref S) >>= _) _ _ s
    refine wpAny_bind (wpAny_seqItems hS rfl ?_)
    show wpAny _ A.in1 (tryCatch (pyNext (.ref I)) _ >>= _) _ _ s
    refine wpAny_bind (wpAny_tryCatch (W.done s _ _ (hin ▸ hst) fun h' tk hk' => ?_))
    have hS' := hk' S _ hSw hS
    show wpAny _ A.in1 (updateSeq S (fun _ => #[]) >>= _) _ _ _
    refine wpAny_bind ?_
    refine wpAny_updateSeq hS' rfl (wpAny_bind (wpAny_letGo (wpAny_pure ?_)))
    refine hR vb _ tk (by rw [← hin]; exact hPb) fun b o hbw hbS e => (Heap.get?_update_other _ _ (Ne.symm hbS)).trans (hk' b o hbw e)
  | succ k ih =>
    intro j s vb c hk hj hst hPb hS hR
    have hlt : j + 1 < n := by omega
    refine codeAny_builtin F.entry_max_loop ?_
    rw [Around.under_plainId F.plain_max_loop _]
    show wpAny _ A.in1 (seqItems? (.ref S) >>= _) _ _ s
    refine wpAny_bind (wpAny_seqItems hS rfl ?_)
    show wpAny _ A.in1 (tryCatch (pyNext (.ref I)) _ >>= _) _ _ s
    refine wpAny_bind (wpAny_tryCatch (W.item (j + 1) s _ _ hlt hst fun v h' tk hP hst' hk' => ?_))
    have hS' := hk' S _ hSw hS
    show wpAny _ A.in1 (tryCatch (holding [v, v] (richCompare .Gt v vb >>= _)) _ >>= _) _ _ _
    refine wpAny_bind (wpAny_tryCatch (wpAny_holding (wpAny_bind (hcmp (j + 1) (argBest bt j) v vb _ _ _ hP hPb ?_))))
    refine wpAny_bind (wpAny_holding (wpAny_truthy_bool ?_))
    refine wpAny_bind (wpAny_letGo (wpAny_pure ?_))
    cases hb : bt (j + 1) (argBest bt j) with
    | true =>
      simp only [if_true]
      refine wpAny_bind ?_
      refine wpAny_updateSeq hS' rfl (wpAny_bind (wpAny_letGo ?_))
      rw [hname]
      refine wpAny_pure ⟨plainId_quiet F.plain_max_loop _, ih (j + 1) _ v _ (by omega) hlt (W.frame _ _ _ hst' fun b hbf o e => ?_) (by simp only [argBest, hb, if_true]; exact hP) (Heap.get?_update_self _ hS' rfl)
        fun v' h'' tk'' hP' hk'' => ?_⟩
      · exact (Heap.get?_update_other _ _ (fun h : S = b => hSf (by rw [h]; exact hbf))).trans e
      · exact hR v' h'' tk'' hP' fun b o hbw hbS e => hk'' b o hbw hbS ((Heap.get?_update_other _ _ (Ne.symm hbS)).trans (hk' b o hbw e))
    | false =>
      simp only [Bool.false_eq_true, if_false]
      refine wpAny_bind (wpAny_letGo ?_)
      rw [hname]
      refine wpAny_pure ⟨plainId_quiet F.plain_max_loop _, ih (j + 1) _ vb c (by omega) hlt hst' (by simp only [argBest, hb, Bool.false_eq_true, if_false]; exact hPb) hS' fun v' h'' tk'' hP' hk'' => ?_⟩
      exact hR v' h'' tk'' hP' fun b o hbw hbS e => hk'' b o hbw hbS (hk' b o hbw e)
theorem md_first (W : Walks prog w A.in1 I fp wr n P St) (bt : Nat → Nat → Bool) (hcmp : CmpOf prog w A.in1 .Gt P bt) (S : Addr) (hSf : S ∉ fp) {s : Shared} {c : Nat} (hst : St 0 s.heap)
    (hS : s.heap.get? S = some { cls := .type "list", dict := none, data := .seq #[] c, slots := #[] })
    (h0 : n = 0 → ∀ h' tk, (∀ b o, b ∉ wr → b ≠ S → s.heap.get? b = some o → h'.get? b = some o) → R (.ok (.ret d)) { s with heap := h', toks := tk })
    (hR : 0 < n → ∀ v h' tk, P (argBest bt (n - 1)) v → (∀ b o, b ∉ wr → b ≠ S → s.heap.get? b = some o → h'.get? b = some o) → R (.ok (.ret v)) { s with heap := h', toks := tk }) :
    codeAny (model prog w) A (.builtin "max.loop" ⟨[.ref I, .none, .ref S], [(Str.ofString "default", d)]⟩) R s := by
  have hSw : S ∉ wr := fun h => hSf (W.sub _ h)
  have hname : (toString "max" ++ toString ".loop" : String) = "max.loop" := by decide
  refine codeAny_builtin F.entry_max_loop ?_
  rw [Around.under_plainId F.plain_max_loop _]
  show wpAny _ A.in1 (seqItems? (.ref S) >>= _) _ _ s
  refine wpAny_bind (wpAny_seqItems hS rfl ?_)
  show wpAny _ A.in1 (tryCatch (pyNext (.ref I)) _ >>= _) _ _ s
  rcases Nat.eq_zero_or_pos n with hn | hn
  · refine wpAny_bind (wpAny_tryCatch (W.done s _ _ (hn ▸ hst) fun h' tk hk' => ?_))
    refine wpAny_bind (wpAny_rule ?_)
    exact wpAny_pure (h0 hn h' tk fun b o hb _ e => hk' b o hb e)
  refine wpAny_bind (wpAny_tryCatch (W.item 0 s _ _ hn hst fun v h' tk hP hst' hk' => ?_))
  have hS' := hk' S _ hSw hS
  show wpAny _ A.in1 (updateSeq S (fun _ => #[v, v]) >>= _) _ _ _
  refine wpAny_bind ?_
  refine wpAny_updateSeq hS' rfl ?_
  rw [hname]
  refine wpAny_pure ⟨plainId_quiet F.plain_max_loop _, md_loop W bt hcmp S hSf _ 0 _ v _ rfl hn (W.frame _ _ _ hst' fun b hbf o e => ?_) hP (Heap.get?_update_self _ hS' rfl) fun v' h'' tk'' hP' hk'' => ?_⟩
  · exact (Heap.get?_update_other _ _ (fun h : S = b => hSf (by rw [h]; exact hbf))).trans e
  · exact hR hn v' h'' tk'' hP' fun b o hbw hbS e => hk'' b o hbw hbS ((Heap.get?_update_other _ _ (Ne.symm hbS)).trans (hk' b o hbw e))
end
section
variable {prog : Program} {w : World} {A : Around} {E : Value → Shared → Prop} {s : Shared}
theorem md_args (a d : Value) : argsOk "max" ⟨[a], [(Str.ofString "default", d)]⟩ := by unfold argsOk; kernel_rfl
theorem md_call {l : Addr} {xs : Array (Int × Tok)} {d : Value} {Q : Value → Shared → Prop} (hh : A.handled = none) (hl : s.heap.IsList l (intItems xs))
    (h0 : xs.size = 0 → ∀ h' tk, (∀ b o, s.heap.get? b = some o → h'.get? b = some o) → Q d { s with heap := h', toks := tk })
    (h : 0 < xs.size → ∀ v h' tk, (intItems xs)[argBest (fun i j => decide (numAt xs i > numAt xs j)) (xs.size - 1)]? = some v → (∀ b o, s.heap.get? b = some o → h'.get? b = some o) → Q v { s with heap := h', toks := tk }) :
    wpAny (model prog w) A (call (.builtin "max") [.ref l] [(Str.ofString "default", d)]) Q E s := by
  have hname : (toString "max" ++ toString ".loop" : String) = "max.loop" := by decide
  have tree : wpAny (model prog w) A.in1 (Builtin.«max» ⟨[.ref l], [(Str.ofString "default", d)]⟩) (fun fin s' => match fin with
      | .done f => (match (Except.ok f : Result) with | .ok (.ret v) => Q v s' | .ok _ => False | .error e => E e s')
      | .again c' => c'.quiet = true ∧ codeAny (model prog w) A c' (fun r s' => match r with | .ok (.ret v) => Q v s' | .ok _ => False | .error e => E e s') s') E s := by
    show wpAny _ A.in1 (Builtin.Builtins.bindParams "max" ["key", "default"] 0 ⟨[], [(Str.ofString "default", d)]⟩ >>= _) _ _ s
    refine wpAny_bind (wpAny_of_eq (show Builtin.Builtins.bindParams "max" ["key", "default"] 0 ⟨[], [(Str.ofString "default", d)]⟩ = pure [none, some d] from by kernel_rfl) ?_)
    refine wpAny_bind (wpAny_pure ?_)
    refine wpAny_bind (iter_intList hl fun s₂ e st hfp hlI => ?_)
    subst e
    refine wpAny_bind (wpAny_newObj_type ?_)
    have hSf : (s.heap.push { cls := .type "list_iterator", data := .fields #[.ref l, .int 0 0] }).objs.size ∉ [s.heap.objs.size, l] := fun hm => Nat.lt_irrefl _ (hfp _ hm)
    rw [hname]
    have W : Walks prog w A.in1 s.heap.objs.size [s.heap.objs.size, l] [s.heap.objs.size] (intItems xs).size (fun i v => (intItems xs)[i]? = some v) (fun i h => h.IsListIter s.heap.objs.size l i ∧ h.IsList l (intItems xs)) := Walks.list (A := A.in1) hh _ l hlI (intItems xs)
    have hsz : (intItems xs).size = xs.size := by simp [intItems]
    refine wpAny_pure ⟨plainId_quiet F.plain_max_loop _, md_first W (fun i j => decide (numAt xs i > numAt xs j)) (CmpOf.ints_gt (numAt xs) (fun _ _ => intItems_at)) _ hSf (W.frame _ _ _ st fun b _ o e => Heap.get?_push_of_some _ e) (Heap.get?_push_size _ rfl) (fun hn h' tk hk => ?_) (fun hn v h' tk hP hk => ?_)⟩
    · exact h0 (by rw [← hsz]; exact hn) h' tk (old_kept fun b o hbw e => hk b o hbw (Nat.ne_of_lt (Heap.lt_size e)) (Heap.get?_push_of_some _ e))
    · exact h (by rw [← hsz]; exact hn) v h' tk (by rw [← hsz]; exact hP) (old_kept fun b o hbw e => hk b o hbw (Nat.ne_of_lt (Heap.lt_size e)) (Heap.get?_push_of_some _ e))
  refine wpAny_call (codeAny_call_builtin F.plain_max F.entry_max ?_)
  simp only [checkBuiltinCall, F.kind_max]
  have ha := md_args (.ref l) d
  cases hsig : Manifest.signature? "max" with
  | none => exact wpAny_pure tree
  | some sig =>
    have ha' : Bind.checkArgs "max" sig ⟨[.ref l], [(Str.ofString "default", d)]⟩ = pure () := by simpa only [argsOk, hsig] using ha
    simp only [ha']
    exact wpAny_pure tree
end
section
variable {X : Cx}
def rMaxDef (K : PySem.W.Frag) : List V → List V → Hp → VK → Prop := fun vs zs H Q => ∃ (a : Addr) (ns : List Int) (z : Int), vs = [V.ref a] ∧ zs = [.int z] ∧ SqL K H a (ns.map V.int) ∧ (ns = [] → Q (.int z) H) ∧ ∀ m, m ∈ ns → (∀ y, y ∈ ns → y ≤ m) → Q (.int m) H
theorem cr_maxDef (hc : X.calm = true) : CallRK X (.builtin "max") [Str.ofString "default"] (rMaxDef X.K) := by
  intro pins s σ H vs zs us ws Q I r rz h
  obtain ⟨a, ns, z, rfl, rfl, hs, q0, q1⟩ := h
  obtain ⟨its, rv, hl, _⟩ := I.list hs
  rw [Vals.ref1 r]
  obtain ⟨w1, rfl, e1⟩ := vals1 rz
  obtain ⟨t, rfl⟩ : ∃ t, w1 = Value.int z t := e1
  have hi := rv.ints
  obtain ⟨xs, e⟩ := hi.allInts.items
  have hn : numsOf (intItems xs).toList = ns := by rw [← e]; exact hi.numsOf
  rw [nums_intItems] at hn
  subst hn
  have hl := hl.isList
  rw [e] at hl
  refine md_call (I.ok.hd hc) hl (fun h0 h' tk hk => ?_) fun hsz v h' tk hv hk => ?_
  · exact ⟨.int z, H, I.kept hk, ⟨_, rfl⟩, q0 (by apply List.eq_nil_of_length_eq_zero; rw [List.length_map, Array.length_toList]; exact h0)⟩
  · obtain ⟨t, rfl⟩ := intItems_at hv
    obtain ⟨h1, h2⟩ := argBest_gt (numAt xs) (xs.size - 1)
    refine ⟨.int _, H, I.kept hk, ⟨_, rfl⟩, q1 _ ?_ fun y hy => ?_⟩
    · rw [numAt_eq]; exact PySem.getD_mem (by rw [List.length_map, Array.length_toList]; omega)
    · obtain ⟨j, hj, rfl⟩ := mem_getD hy
      rw [List.length_map, Array.length_toList] at hj
      rw [← numAt_eq]; exact h2 j (by omega)
end
end Sw


set_option hygiene false in
local macro_rules | `(tactic| walk_at "len") => `(tactic| repeat (first | (obtain ⟨rfl, _⟩ := h; rfl) | (obtain ⟨_, h⟩ := h)))
local macro_rules | `(tactic| walk_at "st") => `(tactic| first
  | refine ⟨_, rfl, ?_⟩
  | refine ⟨_, _, rfl, rfl, (by show (0 : Int) < _; decide), ?_⟩
  | refine ⟨_, _, rfl, rfl, by decide, ?_⟩
  | refine ⟨_, _, rfl, rfl, ⟨by decide, by decide⟩, ?_⟩
  | refine ⟨_, _, rfl, rfl, .inl ⟨by decide, by decide⟩, ?_⟩
  | refine ⟨_, _, rfl, rfl, .inr ⟨by decide, by decide⟩, ?_⟩
  | refine ⟨_, _, rfl, rfl, ?_⟩
  | refine .inl ⟨_, rfl, ?_⟩
  | refine .inr ⟨_, rfl, ?_⟩
  | refine ⟨rfl, ?_⟩)
local macro_rules | `(tactic| walk_at "sts") => `(tactic| repeat walk_at "st")
local macro_rules | `(tactic| walk_at "blk") => `(tactic| (intros; first | (dsimp only [L2.Cx.blk, L2.cxOf]; done) | (dsimp only [L2.Cx.blk, L2.cxOf]; rfl) | rfl))

namespace K53
open PySem PySem.Spec PyProof.Rows L2 Sw
def topS (i : Nat) : Stmt := PySem.Challenge.pw_slotwork_k53_whole_queues.main.body.getD i (.Pass ⟨0, 0, 0, 0⟩)
abbrev st_c_InvalidTime_init : Stmt := inClass (topS 2) 0
abbrev st_c_InvalidTable_init : Stmt := inClass (topS 3) 0
abbrev st_c_check_queue : Stmt := topS 5
abbrev st_c_served : Stmt := topS 6
abbrev st_c_waits : Stmt := topS 7
abbrev st_c_greatest_queue : Stmt := topS 8
abbrev st_c_least_couriers : Stmt := topS 9
abbrev st_c_law_deck : Stmt := topS 11
abbrev st_c_law_take : Stmt := topS 12
abbrev st_c_law_plain : Stmt := topS 13
abbrev st_c_law_spoil : Stmt := topS 14
abbrev st_c_law_jobs : Stmt := topS 15
abbrev st_c_law_served : Stmt := topS 16
abbrev st_c_law_why : Stmt := topS 17
abbrev st_c_law : Stmt := topS 18
theorem sc_c_InvalidTime_init : FnScope ["self", "what"] ["self", "what"] (defScope st_c_InvalidTime_init) := ⟨rfl, rfl, rfl, by decide +kernel, rfl, by decide +kernel, by decide +kernel⟩
theorem sc_c_InvalidTable_init : FnScope ["self", "what"] ["self", "what"] (defScope st_c_InvalidTable_init) := ⟨rfl, rfl, rfl, by decide +kernel, rfl, by decide +kernel, by decide +kernel⟩
theorem sc_c_check_queue : FnScope ["jobs", "couriers", "one", "two", "come", "work"] ["jobs", "couriers"] (defScope st_c_check_queue) := ⟨rfl, rfl, rfl, by decide +kernel, rfl, by decide +kernel, by decide +kernel⟩
theorem sc_c_served : FnScope ["jobs", "couriers", "free", "found", "come", "work", "begin"] ["jobs", "couriers"] (defScope st_c_served) := ⟨rfl, rfl, rfl, by decide +kernel, rfl, by decide +kernel, by decide +kernel⟩
theorem sc_c_waits : FnScope ["jobs", "couriers", "job", "begin", "end"] ["jobs", "couriers"] (defScope st_c_waits) := ⟨rfl, rfl, rfl, by decide +kernel, rfl, by decide +kernel, by decide +kernel⟩
theorem sc_c_greatest_queue : FnScope ["jobs", "couriers", "rows", "top", "come", "work", "job", "begin", "end"] ["jobs", "couriers"] (defScope st_c_greatest_queue) := ⟨rfl, rfl, rfl, by decide +kernel, rfl, by decide +kernel, by decide +kernel⟩
theorem sc_c_least_couriers : FnScope ["jobs", "most_wait", "couriers"] ["jobs", "most_wait"] (defScope st_c_least_couriers) := ⟨rfl, rfl, rfl, by decide +kernel, rfl, by decide +kernel, by decide +kernel⟩
theorem sc_c_law_deck : FnScope ["script", "cells", "each", "deck", "seed", "k", "cell", "rest", "at"] ["script", "cells", "each"] (defScope st_c_law_deck) := ⟨rfl, rfl, rfl, by decide +kernel, rfl, by decide +kernel, by decide +kernel⟩
theorem sc_c_law_take : FnScope ["deck", "many"] ["deck", "many"] (defScope st_c_law_take) := ⟨rfl, rfl, rfl, by decide +kernel, rfl, by decide +kernel, by decide +kernel⟩
theorem sc_c_law_plain : FnScope ["value", "item"] ["value"] (defScope st_c_law_plain) := ⟨rfl, rfl, rfl, by decide +kernel, rfl, by decide +kernel, by decide +kernel⟩
theorem sc_c_law_spoil : FnScope ["value", "item"] ["value"] (defScope st_c_law_spoil) := ⟨rfl, rfl, rfl, by decide +kernel, rfl, by decide +kernel, by decide +kernel⟩
theorem sc_c_law_jobs : FnScope ["deck", "found", "here", "turn"] ["deck"] (defScope st_c_law_jobs) := ⟨rfl, rfl, rfl, by decide +kernel, rfl, by decide +kernel, by decide +kernel⟩
theorem sc_c_law_served : FnScope ["jobs", "couriers", "free", "found", "come", "work", "at", "begin", "place"] ["jobs", "couriers"] (defScope st_c_law_served) := ⟨rfl, rfl, rfl, by decide +kernel, rfl, by decide +kernel, by decide +kernel⟩
theorem sc_c_law_why : FnScope ["ask", "jobs", "couriers", "error"] ["ask", "jobs", "couriers"] (defScope st_c_law_why) := ⟨rfl, rfl, rfl, by decide +kernel, rfl, by decide +kernel, by decide +kernel⟩
theorem sc_c_law : FnScope ["script", "deck", "jobs", "couriers", "due", "handed", "told", "at", "gaps", "begin", "end", "busy", "before", "more", "top", "come", "work", "most", "least", "ask", "answers", "other", "gap"] ["script"] (defScope st_c_law) := ⟨rfl, rfl, rfl, by decide +kernel, rfl, by decide +kernel, by decide +kernel⟩
/-- where the defs, the classes and the constants of the text stand -/
structure Ad where
  f_c_InvalidTime_init : Addr
  d_c_InvalidTime_init : FuncData
  f_c_InvalidTable_init : Addr
  d_c_InvalidTable_init : FuncData
  f_c_check_queue : Addr
  d_c_check_queue : FuncData
  f_c_served : Addr
  d_c_served : FuncData
  f_c_waits : Addr
  d_c_waits : FuncData
  f_c_greatest_queue : Addr
  d_c_greatest_queue : FuncData
  f_c_least_couriers : Addr
  d_c_least_couriers : FuncData
  f_c_law_deck : Addr
  d_c_law_deck : FuncData
  f_c_law_take : Addr
  d_c_law_take : FuncData
  f_c_law_plain : Addr
  d_c_law_plain : FuncData
  f_c_law_spoil : Addr
  d_c_law_spoil : FuncData
  f_c_law_jobs : Addr
  d_c_law_jobs : FuncData
  f_c_law_served : Addr
  d_c_law_served : FuncData
  f_c_law_why : Addr
  d_c_law_why : FuncData
  f_c_law : Addr
  d_c_law : FuncData
  C_SlotError : Addr
  C_InvalidTime : Addr
  C_InvalidTable : Addr
  z : Unit := ()
structure Txt (K : PySem.W.Frag) (mg : Str → Option Value) (a : Ad) : Prop where
  F_c_InvalidTime_init : Fun K "__init__" "InvalidTime.__init__" st_c_InvalidTime_init a.f_c_InvalidTime_init a.d_c_InvalidTime_init
  b_c_InvalidTime_init : Binds K a.d_c_InvalidTime_init ["self", "what"] []
  F_c_InvalidTable_init : Fun K "__init__" "InvalidTable.__init__" st_c_InvalidTable_init a.f_c_InvalidTable_init a.d_c_InvalidTable_init
  b_c_InvalidTable_init : Binds K a.d_c_InvalidTable_init ["self", "what"] []
  F_c_check_queue : Fun K "check_queue" "check_queue" st_c_check_queue a.f_c_check_queue a.d_c_check_queue
  b_c_check_queue : Binds K a.d_c_check_queue ["jobs", "couriers"] []
  m_c_check_queue : mg "check_queue" = some (.ref a.f_c_check_queue)
  F_c_served : Fun K "served" "served" st_c_served a.f_c_served a.d_c_served
  b_c_served : Binds K a.d_c_served ["jobs", "couriers"] []
  m_c_served : mg "served" = some (.ref a.f_c_served)
  F_c_waits : Fun K "waits" "waits" st_c_waits a.f_c_waits a.d_c_waits
  b_c_waits : Binds K a.d_c_waits ["jobs", "couriers"] []
  m_c_waits : mg "waits" = some (.ref a.f_c_waits)
  F_c_greatest_queue : Fun K "greatest_queue" "greatest_queue" st_c_greatest_queue a.f_c_greatest_queue a.d_c_greatest_queue
  b_c_greatest_queue : Binds K a.d_c_greatest_queue ["jobs", "couriers"] []
  m_c_greatest_queue : mg "greatest_queue" = some (.ref a.f_c_greatest_queue)
  F_c_least_couriers : Fun K "least_couriers" "least_couriers" st_c_least_couriers a.f_c_least_couriers a.d_c_least_couriers
  b_c_least_couriers : Binds K a.d_c_least_couriers ["jobs", "most_wait"] []
  m_c_least_couriers : mg "least_couriers" = some (.ref a.f_c_least_couriers)
  F_c_law_deck : Fun K "_law_deck" "_law_deck" st_c_law_deck a.f_c_law_deck a.d_c_law_deck
  b_c_law_deck : Binds K a.d_c_law_deck ["script", "cells", "each"] []
  m_c_law_deck : mg "_law_deck" = some (.ref a.f_c_law_deck)
  F_c_law_take : Fun K "_law_take" "_law_take" st_c_law_take a.f_c_law_take a.d_c_law_take
  b_c_law_take : Binds K a.d_c_law_take ["deck", "many"] []
  m_c_law_take : mg "_law_take" = some (.ref a.f_c_law_take)
  F_c_law_plain : Fun K "_law_plain" "_law_plain" st_c_law_plain a.f_c_law_plain a.d_c_law_plain
  b_c_law_plain : Binds K a.d_c_law_plain ["value"] []
  m_c_law_plain : mg "_law_plain" = some (.ref a.f_c_law_plain)
  F_c_law_spoil : Fun K "_law_spoil" "_law_spoil" st_c_law_spoil a.f_c_law_spoil a.d_c_law_spoil
  b_c_law_spoil : Binds K a.d_c_law_spoil ["value"] []
  m_c_law_spoil : mg "_law_spoil" = some (.ref a.f_c_law_spoil)
  F_c_law_jobs : Fun K "_law_jobs" "_law_jobs" st_c_law_jobs a.f_c_law_jobs a.d_c_law_jobs
  b_c_law_jobs : Binds K a.d_c_law_jobs ["deck"] []
  m_c_law_jobs : mg "_law_jobs" = some (.ref a.f_c_law_jobs)
  F_c_law_served : Fun K "_law_served" "_law_served" st_c_law_served a.f_c_law_served a.d_c_law_served
  b_c_law_served : Binds K a.d_c_law_served ["jobs", "couriers"] []
  m_c_law_served : mg "_law_served" = some (.ref a.f_c_law_served)
  F_c_law_why : Fun K "_law_why" "_law_why" st_c_law_why a.f_c_law_why a.d_c_law_why
  b_c_law_why : Binds K a.d_c_law_why ["ask", "jobs", "couriers"] []
  m_c_law_why : mg "_law_why" = some (.ref a.f_c_law_why)
  F_c_law : Fun K "law" "law" st_c_law a.f_c_law a.d_c_law
  b_c_law : Binds K a.d_c_law ["script"] []
  m_c_law : mg "law" = some (.ref a.f_c_law)
  m_SlotError : mg "SlotError" = some (.ref a.C_SlotError)
  bc_SlotError : BaseC K a.C_SlotError
  m_InvalidTime : mg "InvalidTime" = some (.ref a.C_InvalidTime)
  ox_InvalidTime : OexC K a.C_InvalidTime
  in_InvalidTime : PySem.W.findIn K (.ref a.C_InvalidTime) "__init__" = some (some (.ref a.f_c_InvalidTime_init))
  ti_InvalidTime : PySem.W.typeIn K (.ref a.f_c_InvalidTime_init) = some (.type "function")
  no_InvalidTime_what : PySem.W.findIn K (.ref a.C_InvalidTime) "what" = some none
  xf_InvalidTime : XfC K a.C_InvalidTime
  is_InvalidTime : IsC K a.C_InvalidTime
  em_InvalidTime_SlotError : PySem.W.exmOne K (.ref a.C_InvalidTime) (.ref a.C_SlotError) = some true
  em_InvalidTime_InvalidTime : PySem.W.exmOne K (.ref a.C_InvalidTime) (.ref a.C_InvalidTime) = some true
  m_InvalidTable : mg "InvalidTable" = some (.ref a.C_InvalidTable)
  ox_InvalidTable : OexC K a.C_InvalidTable
  in_InvalidTable : PySem.W.findIn K (.ref a.C_InvalidTable) "__init__" = some (some (.ref a.f_c_InvalidTable_init))
  ti_InvalidTable : PySem.W.typeIn K (.ref a.f_c_InvalidTable_init) = some (.type "function")
  no_InvalidTable_what : PySem.W.findIn K (.ref a.C_InvalidTable) "what" = some none
  xf_InvalidTable : XfC K a.C_InvalidTable
  is_InvalidTable : IsC K a.C_InvalidTable
  em_InvalidTable_SlotError : PySem.W.exmOne K (.ref a.C_InvalidTable) (.ref a.C_SlotError) = some true
  em_InvalidTable_InvalidTable : PySem.W.exmOne K (.ref a.C_InvalidTable) (.ref a.C_InvalidTable) = some true
  kt_InvalidTable_InvalidTable : PySem.W.kitOne K (.ref a.C_InvalidTable) (.ref a.C_InvalidTable) = some true
  kt_InvalidTable_InvalidTime : PySem.W.kitOne K (.ref a.C_InvalidTable) (.ref a.C_InvalidTime) = some false
  n_abs : mg "abs" = none
  n_any : mg "any" = none
  n_bool : mg "bool" = none
  n_int : mg "int" = none
  n_isinstance : mg "isinstance" = none
  n_len : mg "len" = none
  n_list : mg "list" = none
  n_max : mg "max" = none
  n_min : mg "min" = none
  n_range : mg "range" = none
  n_sorted : mg "sorted" = none
  n_str : mg "str" = none
  n_tuple : mg "tuple" = none
  n_zip : mg "zip" = none
abbrev sp_c_law_take : Sp := sp_take
abbrev sp_c_law_deck (K : PySem.W.Frag) : Sp := sp_deck K
abbrev sp_c_law_plain (K : PySem.W.Frag) (n : Nat) : Sp := sp_plain K n
abbrev sp_c_law_spoil (K : PySem.W.Frag) (n : Nat) : Sp := sp_spoil K n
def adjL {α β : Type} (G : α → α → β) : List α → List β
  | a :: b :: t => G a b :: adjL G (b :: t)
  | _ => []
theorem adj_range {α β : Type} (G : α → α → β) (d : α) : ∀ xs : List α, (List.range (xs.length - 1)).map (fun i => G (xs.getD i d) (xs.getD (i + 1) d)) = adjL G xs
  | [] => rfl
  | [_] => rfl
  | a :: b :: t => by
    have ih := adj_range G d (b :: t)
    have e : (a :: b :: t).length - 1 = ((b :: t).length - 1) + 1 := by simp
    rw [e, List.range_succ_eq_map, List.map_cons, List.map_map]
    show G a b :: _ = G a b :: adjL G (b :: t)
    rw [← ih]
    rfl
def pd (p : Int × Int) : PyData := .tuple [.int p.1, .int p.2]
theorem dp_pd {K : PySem.W.Frag} {H : Hp} {q : Addr} {z : Int × Int} (h : SqT K H q [.int z.1, .int z.2]) : Dp K H (.ref q) (pd z) := .tup h (.cons (.int _) (.cons (.int _) .nil))
theorem pd_inv {K : PySem.W.Frag} {H : Hp} {v : V} {z : Int × Int} (h : Dp K H v (pd z)) : ∃ q, v = .ref q ∧ SqT K H q [.int z.1, .int z.2] := by
  cases h with
  | tup h1 h2 =>
    cases h2 with
    | cons a b =>
      cases a
      cases b with
      | cons c d =>
        cases c
        cases d
        exact ⟨_, rfl, h1⟩
abbrev Rws (K : PySem.W.Frag) (H : Hp) (rs : List V) (ps : List (Int × Int)) : Prop := DpAll K H rs (ps.map pd)
theorem rws_at {K : PySem.W.Frag} {H : Hp} {rs : List V} {ps : List (Int × Int)} (h : Rws K H rs ps) {i : Nat} {v : V} (hv : rs[i]? = some v) : ∃ q z, v = .ref q ∧ ps[i]? = some z ∧ SqT K H q [.int z.1, .int z.2] := by
  obtain ⟨d, h1, h2⟩ := dpAll_get h hv
  rw [List.getElem?_map] at h1
  obtain ⟨z, hz, rfl⟩ := Option.map_eq_some_iff.mp h1
  obtain ⟨q, e, s⟩ := pd_inv h2
  exact ⟨q, z, e, hz, s⟩
theorem rws_len {K : PySem.W.Frag} {H : Hp} {rs : List V} {ps : List (Int × Int)} (h : Rws K H rs ps) : rs.length = ps.length := by rw [dpAll_length h, List.length_map]
theorem okD_rows {ps : List (Int × Int)} (h : ps.length ≤ 1000) : okD 3 (.list (ps.map pd)) = true := by
  simp only [okD, Bool.and_eq_true, decide_eq_true_eq, List.length_map]
  refine ⟨h, ?_⟩
  clear h
  induction ps with
  | nil => simp [okDs]
  | cons z t ih => simp only [List.map_cons, okDs, ih, Bool.and_true]; simp [pd, okD, okDs]

def mn : List Int → Int
  | [] => 0
  | [a] => a
  | a :: b :: t => if a ≤ mn (b :: t) then a else mn (b :: t)
theorem mn_spec : ∀ {F : List Int}, F ≠ [] → mn F ∈ F ∧ ∀ f ∈ F, mn F ≤ f
  | [], h => absurd rfl h
  | [a], _ => ⟨List.mem_cons_self, fun f hf => by simp at hf; rw [hf]; exact Int.le_refl _⟩
  | a :: b :: t, _ => by
    obtain ⟨h1, h2⟩ := mn_spec (F := b :: t) (by simp)
    show (if a ≤ mn (b :: t) then a else mn (b :: t)) ∈ _ ∧ ∀ f ∈ _, (if a ≤ mn (b :: t) then a else mn (b :: t)) ≤ f
    split
    · refine ⟨List.mem_cons_self, fun f hf => ?_⟩
      rcases List.mem_cons.mp hf with e | e
      · omega
      · have := h2 f e; omega
    · refine ⟨List.mem_cons_of_mem _ h1, fun f hf => ?_⟩
      rcases List.mem_cons.mp hf with e | e
      · omega
      · exact h2 f e
theorem mn_eq {F : List Int} {m : Int} (h : m ∈ F) (k : ∀ f ∈ F, m ≤ f) : mn F = m := by
  obtain ⟨h1, h2⟩ := mn_spec (F := F) (fun e => by rw [e] at h; cases h)
  have := h2 m h
  have := k _ h1
  omega
theorem mn_perm {F G : List Int} (h : F.Perm G) : mn F = mn G := by
  cases F with
  | nil => rw [List.Perm.eq_nil h.symm]
  | cons a t =>
    have hg : G ≠ [] := fun e => by rw [e] at h; exact absurd (List.Perm.eq_nil h) (by simp)
    obtain ⟨h1, h2⟩ := mn_spec hg
    exact mn_eq (h.mem_iff.mpr h1) fun f hf => h2 f (h.mem_iff.mp hf)
def bg (c : Nat) (F : List Int) (come : Int) : Int := if F.length = c then max come (mn F) else come
def nx (c : Nat) (F : List Int) (z : Int × Int) : List Int := (bg c F z.1 + z.2) :: (if F.length = c then F.erase (mn F) else F)
def srv (c : Nat) : List Int → List (Int × Int) → List (Int × Int)
  | _, [] => []
  | F, z :: t => (bg c F z.1, bg c F z.1 + z.2) :: srv c (nx c F z) t
theorem bg_perm {c : Nat} {F G : List Int} (h : F.Perm G) (x : Int) : bg c F x = bg c G x := by
  unfold bg
  rw [h.length_eq, mn_perm h]
theorem nx_perm {c : Nat} {F G : List Int} (h : F.Perm G) (z : Int × Int) : (nx c F z).Perm (nx c G z) := by
  unfold nx
  rw [bg_perm h, h.length_eq, mn_perm h]
  refine List.Perm.cons _ ?_
  split
  · exact h.erase _
  · exact h
theorem srv_perm {c : Nat} : ∀ {ps : List (Int × Int)} {F G : List Int}, F.Perm G → srv c F ps = srv c G ps
  | [], _, _, _ => rfl
  | z :: t, F, G, h => by
    show _ :: _ = _ :: _
    rw [bg_perm h, srv_perm (nx_perm h z)]
theorem srv_len {c : Nat} : ∀ {ps : List (Int × Int)} {F : List Int}, (srv c F ps).length = ps.length
  | [], _ => rfl
  | z :: t, F => by
    show (_ :: _).length = _
    rw [List.length_cons, List.length_cons, srv_len]
/-- a full list that is sorted: the first one goes -/
theorem srv_full {c : Nat} {F t : List Int} {m : Int} {z : Int × Int} {ps : List (Int × Int)} (hp : (m :: t).Perm F) (hs : (m :: t).Pairwise (· ≤ ·)) (hl : F.length = c) : srv c F (z :: ps) = ((if z.1 < m then m else z.1), (if z.1 < m then m else z.1) + z.2) :: srv c (t ++ [(if z.1 < m then m else z.1) + z.2]) ps := by
  have hm : mn F = m := by
    rw [← mn_perm hp]
    refine mn_eq List.mem_cons_self fun f hf => ?_
    rcases List.mem_cons.mp hf with e | e
    · omega
    · exact (List.pairwise_cons.mp hs).1 f e
  have hb : bg c F z.1 = if z.1 < m then m else z.1 := by
    unfold bg
    rw [if_pos hl, hm]
    split <;> omega
  show _ :: _ = _
  rw [hb]
  congr 1
  refine srv_perm ?_
  unfold nx
  rw [hb, if_pos hl, hm]
  have h2 : (F.erase m).Perm t := by
    have := (hp.erase m).symm
    rw [List.erase_cons_head] at this
    exact this
  exact (h2.cons _).trans (List.perm_append_singleton _ _).symm
theorem srv_room {c : Nat} {F : List Int} {z : Int × Int} {ps : List (Int × Int)} (hl : F.length ≠ c) : srv c F (z :: ps) = (z.1, z.1 + z.2) :: srv c (F ++ [z.1 + z.2]) ps := by
  have hb : bg c F z.1 = z.1 := by unfold bg; rw [if_neg hl]
  show _ :: _ = _
  rw [hb]
  congr 1
  refine srv_perm ?_
  unfold nx
  rw [hb, if_neg hl]
  exact (List.perm_append_singleton _ _).symm
def gt (x : Int) (F : List Int) : Nat := F.countP fun f => decide (x < f)
theorem gt_erase {F : List Int} {m : Int} (h : m ∈ F) (x : Int) : gt x F = gt x (F.erase m) + (if x < m then 1 else 0) := by
  unfold gt
  rw [(List.perm_cons_erase h).countP_eq, List.countP_cons]
  simp
theorem gt_nx {c : Nat} {F : List Int} {z : Int × Int} (hc : 1 ≤ c) (x : Int) : gt x (nx c F z) + (if F.length = c ∧ x < mn F then 1 else 0) = gt x F + (if x < bg c F z.1 + z.2 then 1 else 0) := by
  have e : ∀ G : List Int, gt x ((bg c F z.1 + z.2) :: G) = gt x G + (if x < bg c F z.1 + z.2 then 1 else 0) := fun G => by
    unfold gt
    rw [List.countP_cons]
    simp
  unfold nx
  rw [e]
  by_cases h : F.length = c
  · rw [if_pos h]
    have := gt_erase (mn_spec (F := F) (fun w => by rw [w] at h; simp at h; omega)).1 x
    by_cases h2 : x < mn F
    · have h3 : F.length = c ∧ x < mn F := ⟨h, h2⟩
      rw [if_pos h3]
      rw [if_pos h2] at this
      omega
    · have h3 : ¬ (F.length = c ∧ x < mn F) := fun w => h2 w.2
      rw [if_neg h3]
      rw [if_neg h2] at this
      omega
  · have h3 : ¬ (F.length = c ∧ x < mn F) := fun w => h w.1
    rw [if_neg h, if_neg h3]
    omega
theorem nx_len {c : Nat} {F : List Int} {z : Int × Int} (hc : 1 ≤ c) (h : F.length ≤ c) : (nx c F z).length = if F.length = c then c else F.length + 1 := by
  unfold nx
  rw [List.length_cons]
  split
  · rename_i e
    rw [List.length_erase_of_mem (mn_spec (F := F) (fun w => by rw [w] at e; simp at e; omega)).1]
    omega
  · rfl
theorem gt_le (x : Int) (F : List Int) : gt x F ≤ F.length := List.countP_le_length
theorem gt_all {x : Int} {F : List Int} (h : ∀ f ∈ F, x < f) : gt x F = F.length := List.countP_eq_length.mpr fun f hf => decide_eq_true (h f hf)
theorem gt_some {x : Int} {F : List Int} {m : Int} (h : m ∈ F) (hm : m ≤ x) : gt x F < F.length := by
  have h1 := gt_erase h x
  rw [if_neg (by omega)] at h1
  have h2 := gt_le x (F.erase m)
  rw [List.length_erase_of_mem h] at h2
  have := List.length_pos_of_mem h
  omega
/-- the count of rows that are at work at a time -/
def busy (D : List (Int × Int)) (t : Int) : Nat := D.countP fun r => decide (r.1 ≤ t) && decide (t < r.2)
structure Inv (c : Nat) (D : List (Int × Int)) (F : List Int) (lb lc : Int) : Prop where
  le : ∀ r ∈ D, r.1 ≤ lb
  ct : ∀ x, lb ≤ x → (D.countP fun r => decide (x < r.2)) = gt x F
  ln : F.length ≤ c
  fu : F.length = c → ∀ y, lc < y → (∀ f ∈ F, y ≤ f) → c ≤ busy D (y - 1)
  lb1 : lb ≤ lc ∨ (F.length = c ∧ ∀ f ∈ F, lb ≤ f)
theorem busy_late {D : List (Int × Int)} {F : List Int} {lb x : Int} (h1 : ∀ r ∈ D, r.1 ≤ lb) (h : lb ≤ x) : busy D x = D.countP fun r => decide (x < r.2) := by
  unfold busy
  refine List.countP_congr fun r hr => ?_
  have := h1 r hr
  simp
  omega
structure Good (c : Nat) (D : List (Int × Int)) (z r : Int × Int) : Prop where
  en : r.2 = r.1 + z.2
  co : z.1 ≤ r.1
  mo : ∀ q ∈ D, q.1 ≤ r.1
  bu : busy D r.1 < c
  be : z.1 < r.1 → c ≤ busy D (r.1 - 1)
theorem Inv.step {c : Nat} {D : List (Int × Int)} {F : List Int} {lb lc : Int} {z : Int × Int} (hc : 1 ≤ c) (h : Inv c D F lb lc) (hz : lc ≤ z.1) (hw : 0 ≤ z.2) :
    Good c D z (bg c F z.1, bg c F z.1 + z.2) ∧ Inv c (D ++ [(bg c F z.1, bg c F z.1 + z.2)]) (nx c F z) (bg c F z.1) z.1 := by
  have ne : F.length = c → F ≠ [] := fun e w => by rw [w] at e; simp at e; omega
  have hb : bg c F z.1 = z.1 ∨ (F.length = c ∧ bg c F z.1 = mn F ∧ z.1 < mn F) := by
    unfold bg
    split
    · rename_i e
      by_cases q : z.1 < mn F
      · exact .inr ⟨e, by omega, q⟩
      · exact .inl (by omega)
    · exact .inl rfl
  have hbc : z.1 ≤ bg c F z.1 := by omega
  have hbm : F.length = c → mn F ≤ bg c F z.1 := fun e => by unfold bg; rw [if_pos e]; omega
  have hlb : lb ≤ bg c F z.1 := by
    rcases h.lb1 with q | ⟨q1, q2⟩
    · omega
    · have := q2 _ (mn_spec (ne q1)).1
      have := hbm q1
      omega
  have hmo : ∀ q ∈ D, q.1 ≤ bg c F z.1 := fun q hq => by have := h.le q hq; omega
  have hct : ∀ x, bg c F z.1 ≤ x → ((D ++ [(bg c F z.1, bg c F z.1 + z.2)]).countP fun r => decide (x < r.2)) = gt x (nx c F z) := fun x hx => by
    have h1 := gt_nx (F := F) (z := z) hc x
    have h3 : ¬ (F.length = c ∧ x < mn F) := fun w => by have := hbm w.1; omega
    rw [if_neg h3] at h1
    rw [Nat.add_zero] at h1
    rw [List.countP_append, h.ct x (by omega), List.countP_cons, List.countP_nil, h1]
    simp
  have hle : ∀ r ∈ D ++ [(bg c F z.1, bg c F z.1 + z.2)], r.1 ≤ bg c F z.1 := fun r hr => by
    rcases List.mem_append.mp hr with q | q
    · exact hmo r q
    · simp at q
      rw [q]
      exact Int.le_refl _
  refine ⟨⟨rfl, hbc, hmo, ?_, fun hq => ?_⟩, ⟨hle, hct, ?_, fun hf y hy hall => ?_, ?_⟩⟩
  · show busy D (bg c F z.1) < c
    rw [busy_late (F := F) h.le hlb, h.ct _ hlb]
    by_cases e : F.length = c
    · have := gt_some (mn_spec (ne e)).1 (hbm e)
      omega
    · have := gt_le (bg c F z.1) F
      have := h.ln
      omega
  · show c ≤ busy D (bg c F z.1 - 1)
    rcases hb with q | ⟨q1, q2, q3⟩
    · exact absurd hq (by show ¬ z.1 < bg c F z.1; omega)
    · rw [q2]
      exact h.fu q1 (mn F) (by omega) (mn_spec (ne q1)).2
  · rw [nx_len hc h.ln]
    have := h.ln
    split <;> omega
  · by_cases q : bg c F z.1 < y
    · rw [busy_late (F := F) hle (show bg c F z.1 ≤ y - 1 by omega), hct _ (by omega), gt_all (fun f hf => by have := hall f hf; omega), hf]
      exact Nat.le_refl _
    · rcases hb with w | ⟨w1, w2, w3⟩
      · omega
      · have := h.fu w1 y (by omega) (fun f hf => by have := (mn_spec (ne w1)).2 f hf; omega)
        refine Nat.le_trans this ?_
        unfold busy
        rw [List.countP_append]
        omega
  · rcases hb with w | ⟨w1, w2, w3⟩
    · exact .inl (by omega)
    · refine .inr ⟨by rw [nx_len hc h.ln, if_pos w1], fun f hf => ?_⟩
      unfold nx at hf
      rw [if_pos w1] at hf
      rcases List.mem_cons.mp hf with e | e
      · omega
      · have := (mn_spec (ne w1)).2 f (List.mem_of_mem_erase e)
        omega
def okQ (ps : List (Int × Int)) : Prop := ps.Pairwise (fun a b => a.1 ≤ b.1) ∧ ∀ z ∈ ps, 0 ≤ z.2
theorem srv_good {c : Nat} (hc : 1 ≤ c) : ∀ {ps : List (Int × Int)} {D : List (Int × Int)} {F : List Int} {lb lc : Int}, Inv c D F lb lc → okQ ps → (∀ z ∈ ps, lc ≤ z.1) →
    ∀ (k : Nat) (z r : Int × Int), ps[k]? = some z → (srv c F ps)[k]? = some r → Good c (D ++ (srv c F ps).take k) z r
  | [], _, _, _, _, _, _, _, k, z, r, h, _ => by simp at h
  | z0 :: t, D, F, lb, lc, hI, hok, hl, k, z, r, h1, h2 => by
    obtain ⟨g, I⟩ := Inv.step hc hI (hl z0 List.mem_cons_self) (hok.2 z0 List.mem_cons_self)
    have e : srv c F (z0 :: t) = (bg c F z0.1, bg c F z0.1 + z0.2) :: srv c (nx c F z0) t := rfl
    rw [e] at h2 ⊢
    cases k with
    | zero =>
      simp at h1 h2
      subst h1
      subst h2
      simpa using g
    | succ k =>
      simp only [List.getElem?_cons_succ] at h1 h2
      have := srv_good hc I ⟨(List.pairwise_cons.mp hok.1).2, fun w hw => hok.2 w (List.mem_cons_of_mem _ hw)⟩ (fun w hw => (List.pairwise_cons.mp hok.1).1 w hw) k z r h1 h2
      rw [List.take_succ_cons]
      simpa using this
theorem inv0 {c : Nat} {lc : Int} (hc : 1 ≤ c) : Inv c [] [] lc lc :=
  ⟨(fun r hr => by cases hr), (fun x _ => rfl), Nat.zero_le _, (fun h => by simp at h; omega), .inl (Int.le_refl _)⟩
theorem law_good {c : Nat} (hc : 1 ≤ c) {ps : List (Int × Int)} (ok : okQ ps) {k : Nat} {z r : Int × Int} (h1 : ps[k]? = some z) (h2 : (srv c [] ps)[k]? = some r) : Good c ((srv c [] ps).take k) z r := by
  cases ps with
  | nil => simp at h1
  | cons w t =>
    have := srv_good hc (inv0 (lc := w.1) hc) ok (fun y hy => by
      rcases List.mem_cons.mp hy with e | e
      · rw [e]; exact Int.le_refl _
      · exact (List.pairwise_cons.mp ok.1).1 y e) k z r h1 h2
    simpa using this
/-- one courier more -/
theorem srv_more {c : Nat} (hc : 1 ≤ c) : ∀ {ps : List (Int × Int)} {F G : List Int}, F.length ≤ c → (F.length = c ∧ G.length = c + 1 ∨ G.length = F.length) → (∀ x, gt x F < c → gt x G ≤ gt x F) → (∀ z ∈ ps, 0 ≤ z.2) →
    ∀ (k : Nat) (r q : Int × Int), (srv c F ps)[k]? = some r → (srv (c + 1) G ps)[k]? = some q → q.1 ≤ r.1
  | [], _, _, _, _, _, _, k, r, q, h, _ => by simp [srv] at h
  | z :: t, F, G, hF, hG, hI, hw, k, r, q, h1, h2 => by
    have e1 : srv c F (z :: t) = (bg c F z.1, bg c F z.1 + z.2) :: srv c (nx c F z) t := rfl
    have e2 : srv (c + 1) G (z :: t) = (bg (c + 1) G z.1, bg (c + 1) G z.1 + z.2) :: srv (c + 1) (nx (c + 1) G z) t := rfl
    rw [e1] at h1
    rw [e2] at h2
    have neF : F.length = c → F ≠ [] := fun e w => by rw [w] at e; simp at e; omega
    have neG : G.length = c + 1 → G ≠ [] := fun e w => by rw [w] at e; simp at e
    have hb : bg (c + 1) G z.1 ≤ bg c F z.1 := by
      unfold bg
      by_cases g : G.length = c + 1
      · have f : F.length = c := by omega
        rw [if_pos g, if_pos f]
        have : mn G ≤ mn F := by
          refine Int.not_lt.mp fun w => ?_
          have a1 := gt_some (mn_spec (neF f)).1 (Int.le_refl _)
          have a2 := hI (mn F) (by omega)
          have a3 := gt_all (x := mn F) (F := G) (fun y hy => by have := (mn_spec (neG g)).2 y hy; omega)
          omega
        omega
      · rw [if_neg g]
        split <;> omega
    cases k with
    | zero =>
      simp at h1 h2
      subst h1
      subst h2
      exact hb
    | succ k =>
      simp only [List.getElem?_cons_succ] at h1 h2
      have lF := nx_len (z := z) hc hF
      have lG := nx_len (z := z) (c := c + 1) (F := G) (by omega) (by omega)
      refine srv_more hc ?_ ?_ (fun x hx => ?_) (fun w hw' => hw w (List.mem_cons_of_mem _ hw')) k r q h1 h2
      · rw [lF]; split <;> omega
      · rw [lF, lG]
        rcases hG with ⟨g1, g2⟩ | g
        · rw [if_pos g1, if_pos g2]
          exact .inl ⟨rfl, rfl⟩
        · by_cases w : F.length = c
          · rw [if_pos w, if_neg (by omega)]
            exact .inl ⟨rfl, by omega⟩
          · rw [if_neg w, if_neg (by omega)]
            exact .inr (by omega)
      · have a1 := gt_nx (F := F) (z := z) hc x
        have a2 := gt_nx (F := G) (z := z) (c := c + 1) (by omega) x
        have a3 : F.length = c ∧ x < mn F → gt x F = c := fun w => by
          rw [gt_all (fun y hy => by have := (mn_spec (neF w.1)).2 y hy; omega)]
          exact w.1
        by_cases b1 : F.length = c ∧ x < mn F
        · rw [if_pos b1] at a1
          have := a3 b1
          have : mn F ≤ bg c F z.1 := by unfold bg; rw [if_pos b1.1]; omega
          have := hw z List.mem_cons_self
          rw [if_pos (by omega)] at a1
          omega
        · rw [if_neg b1] at a1
          have : gt x F < c := by omega
          have := hI x this
          by_cases b2 : x < bg (c + 1) G z.1 + z.2
          · rw [if_pos b2] at a2
            rw [if_pos (by omega)] at a1
            omega
          · rw [if_neg b2] at a2
            omega
theorem law_more {c : Nat} (hc : 1 ≤ c) {ps : List (Int × Int)} (ok : okQ ps) {k : Nat} {r q : Int × Int} (h1 : (srv c [] ps)[k]? = some r) (h2 : (srv (c + 1) [] ps)[k]? = some q) : q.1 ≤ r.1 :=
  srv_more hc (Nat.zero_le _) (.inr rfl) (fun _ _ => Nat.le_refl _) ok.2 k r q h1 h2
theorem srv_many {c : Nat} : ∀ {ps : List (Int × Int)} {F : List Int}, F.length + ps.length ≤ c → srv c F ps = ps.map fun z => (z.1, z.1 + z.2)
  | [], _, _ => rfl
  | z :: t, F, h => by
    rw [List.length_cons] at h
    have e : F.length ≠ c := by omega
    rw [srv_room e, List.map_cons, srv_many]
    rw [List.length_append, List.length_singleton]
    omega
theorem set_perm {e m : Int} : ∀ {xs : List Int} {i : Nat} {Y : List Int}, xs[i]? = some m → xs.Perm (m :: Y) → (xs.set i e).Perm (e :: Y) := by
  have a : ∀ {xs : List Int} {i : Nat} (e m : Int), xs[i]? = some m → xs.Perm (m :: xs.eraseIdx i) ∧ (xs.set i e).Perm (e :: xs.eraseIdx i) := by
    intro xs
    induction xs with
    | nil => intro i e m h; simp at h
    | cons x t ih =>
      intro i e m h
      cases i with
      | zero =>
        simp at h
        subst h
        simp
      | succ i =>
        simp at h
        obtain ⟨h1, h2⟩ := ih (i := i) e m (by simpa using h)
        simp
        exact ⟨(h1.cons x).trans (List.Perm.swap _ _ _), (h2.cons x).trans (List.Perm.swap _ _ _)⟩
  intro xs i Y h hp
  obtain ⟨h1, h2⟩ := a e m h
  exact h2.trans ((List.Perm.cons_inv (h1.symm.trans hp)).cons e)
/-- the law's own list of times -/
theorem law_step {c : Nat} {F G : List Int} {z : Int × Int} {ps : List (Int × Int)} {m : Int} {i : Nat} (hc : 1 ≤ c) (hF : F.length ≤ c) (hG : G.Perm (F ++ List.replicate (c - F.length) (-1000))) (hf : ∀ f ∈ F, -1000 < f) (hz : -1000 < z.1) (hw : 0 ≤ z.2)
    (hm : m ∈ G) (hmin : ∀ g ∈ G, m ≤ g) (hi : G[i]? = some m) : ∃ F' : List Int, F'.length ≤ c ∧ (G.set i ((if m > z.1 then m else z.1) + z.2)).Perm (F' ++ List.replicate (c - F'.length) (-1000)) ∧ (∀ f ∈ F', -1000 < f) ∧
      srv c F (z :: ps) = ((if m > z.1 then m else z.1), (if m > z.1 then m else z.1) + z.2) :: srv c F' ps := by
  have e0 : srv c F (z :: ps) = (bg c F z.1, bg c F z.1 + z.2) :: srv c (nx c F z) ps := rfl
  have ln := nx_len (z := z) hc hF
  by_cases h : F.length = c
  · have ne : F ≠ [] := fun w => by rw [w] at h; simp at h; omega
    rw [h, Nat.sub_self, List.replicate_zero, List.append_nil] at hG
    have em : mn F = m := mn_eq (hG.mem_iff.mp hm) fun f hf => hmin f (hG.mem_iff.mpr hf)
    have eb : bg c F z.1 = if m > z.1 then m else z.1 := by
      unfold bg
      rw [if_pos h, em]
      split <;> omega
    refine ⟨nx c F z, by rw [ln, if_pos h]; exact Nat.le_refl _, ?_, fun f hf' => ?_, by rw [e0, eb]⟩
    · rw [ln, if_pos h, Nat.sub_self, List.replicate_zero, List.append_nil]
      unfold nx
      rw [if_pos h, em, ← eb]
      exact set_perm hi (hG.trans (List.perm_cons_erase (hG.mem_iff.mp hm)))
    · unfold nx at hf'
      rw [if_pos h] at hf'
      rcases List.mem_cons.mp hf' with e | e
      · rw [eb] at e
        split at e <;> omega
      · exact hf f (List.mem_of_mem_erase e)
  · have em : m = -1000 := by
      have h1 : (-1000 : Int) ∈ G := hG.mem_iff.mpr (List.mem_append.mpr (.inr (List.mem_replicate.mpr ⟨by omega, rfl⟩)))
      have := hmin _ h1
      rcases List.mem_append.mp (hG.mem_iff.mp hm) with q | q
      · have := hf m q; omega
      · exact (List.mem_replicate.mp q).2
    have eb : bg c F z.1 = if m > z.1 then m else z.1 := by
      unfold bg
      rw [if_neg h, if_neg (by omega)]
    refine ⟨nx c F z, by rw [ln, if_neg h]; omega, ?_, fun f hf' => ?_, by rw [e0, eb]⟩
    · rw [ln, if_neg h]
      unfold nx
      rw [if_neg h, ← eb]
      refine set_perm hi (hG.trans ?_)
      rw [em, show c - F.length = (c - (F.length + 1)) + 1 by omega, List.replicate_succ]
      exact List.perm_middle
    · unfold nx at hf'
      rw [if_neg h] at hf'
      rcases List.mem_cons.mp hf' with e | e
      · rw [eb] at e
        split at e <;> omega
      · exact hf f e
theorem rws_of {K : PySem.W.Frag} {H : Hp} : ∀ {rs : List V} {ps : List (Int × Int)}, rs.length = ps.length → (∀ (i : Nat) (v : V) (z : Int × Int), rs[i]? = some v → ps[i]? = some z → ∃ q, v = V.ref q ∧ SqT K H q [.int z.1, .int z.2]) → Rws K H rs ps
  | [], [], _, _ => .nil
  | [], _ :: _, h, _ => by simp at h
  | _ :: _, [], h, _ => by simp at h
  | v :: rs, z :: ps, h, k => by
    obtain ⟨q, rfl, s⟩ := k 0 v z rfl rfl
    exact .cons (dp_pd s) (rws_of (by simpa using h) fun i v z h1 h2 => k (i + 1) v z (by rw [List.getElem?_cons_succ]; exact h1) (by rw [List.getElem?_cons_succ]; exact h2))
theorem cut1 (xs : List V) : cutV xs (some 1) none = xs.drop 1 := by
  cases xs with
  | nil => rfl
  | cons x t => exact cut_back (by decide) (by simp only [List.length_cons]; omega)
theorem fm_get {α : Type} (xs : List α) : (List.range xs.length).filterMap (fun i => xs[i]?) = xs := by
  induction xs with
  | nil => rfl
  | cons x t ih =>
    rw [List.length_cons, List.range_succ_eq_map, List.filterMap_cons, List.filterMap_map]
    show x :: _ = _
    congr 1

theorem rws_dcs {K : PySem.W.Frag} {H : Hp} {n : Nat} : ∀ {rs : List V} {ps : List (Int × Int)}, Rws K H rs ps → DCs K H (n + 1) rs []
  | [], _, _ => .nil _
  | _ :: _, [], h => nomatch h
  | v :: rs, z :: ps, h => by
    cases h with
    | cons h1 h2 =>
      obtain ⟨q, rfl, s⟩ := pd_inv h1
      have d : DCs K H (n + 1) (V.ref q :: rs) ([] ++ []) := .cons (.tup s (by show 2 ≤ 1000; decide) (DCs.ints [z.1, z.2])) (rws_dcs h2) fun b hb => by cases hb
      exact d
theorem sqT_delL {K : PySem.W.Frag} {H : Hp} {x a : Addr} {ys xs : List V} (hx : H x = some (.lst ys)) (s : SqT K H a xs) : SqT K (del H x) a xs := by
  have n : ∀ {o : HO}, H a = some o → (∀ ys, o ≠ .lst ys) → a ≠ x := fun e ne z => by
    rw [z, hx] at e
    exact ne _ (Option.some.inj e).symm
  rcases s with (s | ⟨o, s⟩) | s
  · exact .inl (.inl (del_some s (n s (fun _ z => nomatch z))))
  · exact .inl (.inr ⟨o, del_some s (n s (fun _ z => nomatch z))⟩)
  · exact .inr s
theorem rws_delL {K : PySem.W.Frag} {H : Hp} {x : Addr} {ys rs : List V} {ps : List (Int × Int)} (hx : H x = some (.lst ys)) (h : Rws K H rs ps) : Rws K (del H x) rs ps :=
  rws_of (rws_len h) fun i v z h1 h2 => by
    obtain ⟨q, z', e, hz, s⟩ := rws_at h h1
    rw [h2] at hz
    cases hz
    exact ⟨q, e, sqT_delL hx s⟩

theorem okD_rows4 {ps : List (Int × Int)} (h : ps.length ≤ 1000) : okD 4 (.list (ps.map pd)) = true := by
  simp only [okD, Bool.and_eq_true, decide_eq_true_eq, List.length_map]
  refine ⟨h, ?_⟩
  clear h
  induction ps with
  | nil => simp [okDs]
  | cons z t ih => simp only [List.map_cons, okDs, ih, Bool.and_true]; simp [pd, okD, okDs]

def badQ (ps : List (Int × Int)) : Bool := (adjL (fun a b : Int × Int => decide (a.1 > b.1)) ps).any id || (ps.map fun z => decide (z.2 < 0)).any id
theorem okQ_of : ∀ {ps : List (Int × Int)}, badQ ps = false → okQ ps
  | [], _ => ⟨.nil, fun z hz => by cases hz⟩
  | [z], h => ⟨List.pairwise_singleton _ _, fun w hw => by
      simp [badQ, adjL] at h
      simp at hw
      rw [hw]
      exact h⟩
  | z :: y :: t, h => by
    have h1 : badQ (y :: t) = false ∧ z.1 ≤ y.1 ∧ 0 ≤ z.2 := by
      unfold badQ at h ⊢
      rw [adjL, List.map_cons, List.any_cons, List.any_cons] at h
      simp only [Bool.or_eq_false_iff, id, decide_eq_false_iff_not] at h ⊢
      exact ⟨⟨h.1.2, h.2.2⟩, by omega, by omega⟩
    obtain ⟨k1, k2⟩ := okQ_of h1.1
    refine ⟨List.pairwise_cons.mpr ⟨fun w hw => ?_, k1⟩, fun w hw => ?_⟩
    · rcases List.mem_cons.mp hw with e | e
      · rw [e]; exact h1.2.1
      · have := (List.pairwise_cons.mp k1).1 w e
        omega
    · rcases List.mem_cons.mp hw with e | e
      · rw [e]; exact h1.2.2
      · exact k2 w e
theorem ok_badQ : ∀ {ps : List (Int × Int)}, okQ ps → badQ ps = false
  | [], _ => rfl
  | [z], h => by
    have := h.2 z List.mem_cons_self
    simp [badQ, adjL]
    omega
  | z :: y :: t, h => by
    have ih := ok_badQ (ps := y :: t) ⟨(List.pairwise_cons.mp h.1).2, fun w hw => h.2 w (List.mem_cons_of_mem _ hw)⟩
    have h1 := (List.pairwise_cons.mp h.1).1 y List.mem_cons_self
    have h2 := h.2 z List.mem_cons_self
    unfold badQ at ih ⊢
    rw [adjL, List.map_cons, List.any_cons, List.any_cons]
    simp only [Bool.or_eq_false_iff, id, decide_eq_false_iff_not] at ih ⊢
    exact ⟨⟨by omega, ih.1⟩, by omega, ih.2⟩
def gapL (c : Nat) (ps : List (Int × Int)) : List Int := (List.range ps.length).map fun i => ((srv c [] ps).getD i (0, 0)).1 - (ps.getD i (0, 0)).1
def late (ps : List (Int × Int)) (most : Int) (c : Nat) : Bool := (gapL c ps).any fun g => decide (g > most)
def topQ (c : Nat) (ps : List (Int × Int)) (n : Nat) : Nat := (List.range n).foldl (fun t i => max t ((List.range ps.length).countP fun j => decide ((ps.getD j (0, 0)).1 ≤ (ps.getD i (0, 0)).1) && decide ((ps.getD i (0, 0)).1 < ((srv c [] ps).getD j (0, 0)).1))) 0
theorem topQ_succ (c : Nat) (ps : List (Int × Int)) (n : Nat) : topQ c ps (n + 1) = max (topQ c ps n) ((List.range ps.length).countP fun j => decide ((ps.getD j (0, 0)).1 ≤ (ps.getD n (0, 0)).1) && decide ((ps.getD n (0, 0)).1 < ((srv c [] ps).getD j (0, 0)).1)) := by
  unfold topQ
  rw [List.range_succ, List.foldl_append]
  rfl
theorem gap_get {c : Nat} {ps : List (Int × Int)} {j : Nat} (h : j < ps.length) : (gapL c ps)[j]? = some (((srv c [] ps).getD j (0, 0)).1 - (ps.getD j (0, 0)).1) := by
  unfold gapL
  rw [List.getElem?_map, List.getElem?_range h]
  rfl
theorem row_good {c : Nat} {ps : List (Int × Int)} (hc : 1 ≤ c) (ok : okQ ps) {j : Nat} (h : j < ps.length) : Good c ((srv c [] ps).take j) (ps.getD j (0, 0)) ((srv c [] ps).getD j (0, 0)) := by
  have h2 : j < (srv c [] ps).length := by rw [srv_len]; exact h
  rw [List.getD_eq_getElem?_getD, List.getD_eq_getElem?_getD, List.getElem?_eq_getElem h, List.getElem?_eq_getElem h2]
  exact law_good hc ok (List.getElem?_eq_getElem h) (List.getElem?_eq_getElem h2)
theorem gap_nn {c : Nat} {ps : List (Int × Int)} (hc : 1 ≤ c) (ok : okQ ps) {g : Int} (h : g ∈ gapL c ps) : 0 ≤ g := by
  unfold gapL at h
  obtain ⟨j, hj, rfl⟩ := List.mem_map.mp h
  have := (row_good hc ok (List.mem_range.mp hj)).co
  omega
theorem gap_len (c : Nat) (ps : List (Int × Int)) : (gapL c ps).length = ps.length := by unfold gapL; rw [List.length_map, List.length_range]
theorem fm_no {α : Type} (n : Nat) : (List.range n).filterMap (fun _ => (none : Option α)) = [] := by
  rw [List.filterMap_eq_nil_iff]
  intros
  rfl
theorem busy_take {R : List (Int × Int)} (t : Int) : ∀ {i : Nat}, i ≤ R.length → busy (R.take i) t = (List.range i).countP fun j => decide ((R.getD j (0, 0)).1 ≤ t) && decide (t < (R.getD j (0, 0)).2)
  | 0, _ => rfl
  | i + 1, h => by
    have ih := busy_take (R := R) t (i := i) (by omega)
    unfold busy at ih ⊢
    rw [List.take_add_one, List.getElem?_eq_getElem (by omega : i < R.length), List.countP_append, ih, List.range_succ, List.countP_append]
    have e : R.getD i (0, 0) = R[i] := by rw [List.getD_eq_getElem?_getD, List.getElem?_eq_getElem (by omega : i < R.length)]; rfl
    have e2 : (some R[i]).toList = [R[i]] := rfl
    rw [e2, ← e]
    rfl
theorem gap_more {c : Nat} {ps : List (Int × Int)} (hc : 1 ≤ c) (ok : okQ ps) {j : Nat} (h : j < ps.length) : ((srv (c + 1) [] ps).getD j (0, 0)).1 ≤ ((srv c [] ps).getD j (0, 0)).1 := by
  have h1 : j < (srv c [] ps).length := by rw [srv_len]; exact h
  have h2 : j < (srv (c + 1) [] ps).length := by rw [srv_len]; exact h
  rw [List.getD_eq_getElem?_getD, List.getD_eq_getElem?_getD, List.getElem?_eq_getElem h1, List.getElem?_eq_getElem h2]
  exact law_more hc ok (List.getElem?_eq_getElem h1) (List.getElem?_eq_getElem h2)
theorem gap_many {c : Nat} {ps : List (Int × Int)} (h : ps.length ≤ c) : gapL c ps = List.replicate ps.length 0 := by
  have e := srv_many (c := c) (ps := ps) (F := []) (by rw [List.length_nil]; omega)
  rw [List.eq_replicate_iff]
  refine ⟨gap_len _ _, fun g hg => ?_⟩
  unfold gapL at hg
  obtain ⟨j, hj, rfl⟩ := List.mem_map.mp hg
  have hj := List.mem_range.mp hj
  rw [e, List.getD_eq_getElem?_getD, List.getD_eq_getElem?_getD, List.getElem?_map, List.getElem?_eq_getElem hj]
  simp
theorem cnt_fm (p : Nat → Bool) (n : Nat) : ((List.range n).filterMap fun j => if p j = true then some (V.int 1) else none).length = (List.range n).countP p := by
  induction n with
  | zero => rfl
  | succ n ih =>
    rw [List.range_succ, List.filterMap_append, List.length_append, List.countP_append, ih]
    by_cases h : p n = true <;> simp [h]
theorem nat_max (a b : Nat) : (if ((b : Nat) : Int) > ((a : Nat) : Int) then ((b : Nat) : Int) else ((a : Nat) : Int)) = ((max a b : Nat) : Int) := by
  split <;> omega
theorem late_none {ps : List (Int × Int)} {most : Int} {c : Nat} (hm : 0 ≤ most) (h : gapL c ps = []) : decide (0 > most) = late ps most c := by
  unfold late
  rw [h]
  simp
  exact hm
theorem late_max {ps : List (Int × Int)} {most m : Int} {c : Nat} (h1 : m ∈ gapL c ps) (h2 : ∀ y ∈ gapL c ps, y ≤ m) : decide (m > most) = late ps most c := by
  unfold late
  by_cases h : m > most
  · rw [decide_eq_true h]
    exact (List.any_eq_true.mpr ⟨m, h1, decide_eq_true h⟩).symm
  · rw [decide_eq_false h]
    refine (Bool.eq_false_iff.mpr fun w => ?_).symm
    obtain ⟨y, hy, e⟩ := List.any_eq_true.mp w
    have := h2 y hy
    have := of_decide_eq_true e
    omega
theorem rep_ints (n : Nat) (z : Int) : (List.replicate ((n : Int)).toNat [V.int z]).flatten = (List.replicate n z).map V.int := by
  rw [Int.toNat_natCast]
  induction n with
  | zero => rfl
  | succ n ih =>
    rw [List.replicate_succ, List.replicate_succ, List.flatten_cons, ih]
    rfl
theorem ixN53 {n j : Nat} (h : j < n) : ixN n (j : Int) = some j := by
  unfold ixN
  rw [if_pos (by omega), if_pos (by omega), Int.toNat_natCast]
theorem first_min {G : List Int} (h : G ≠ []) : ∃ i : Nat, ((List.range G.length).filterMap (fun (j : Nat) => if G.getD j 0 = mn G then some (V.int j) else none))[0]? = some (.int i) ∧ G[i]? = some (mn G) := by
  obtain ⟨j, hj, e⟩ := List.getElem_of_mem (mn_spec h).1
  have hm : V.int j ∈ (List.range G.length).filterMap (fun (j : Nat) => if G.getD j 0 = mn G then some (V.int j) else none) :=
    List.mem_filterMap.mpr ⟨j, List.mem_range.mpr hj, by rw [List.getD_eq_getElem?_getD, List.getElem?_eq_getElem hj, e]; simp⟩
  cases hx : (List.range G.length).filterMap (fun (j : Nat) => if G.getD j 0 = mn G then some (V.int j) else none) with
  | nil => rw [hx] at hm; cases hm
  | cons x t =>
    have : x ∈ (List.range G.length).filterMap (fun (j : Nat) => if G.getD j 0 = mn G then some (V.int j) else none) := by rw [hx]; exact List.mem_cons_self
    obtain ⟨i, hi, e2⟩ := List.mem_filterMap.mp this
    have hi := List.mem_range.mp hi
    split at e2
    · rename_i e3
      refine ⟨i, ?_, ?_⟩
      · rw [← Option.some.inj e2]; rfl
      · rw [List.getElem?_eq_getElem hi]
        rw [List.getD_eq_getElem?_getD, List.getElem?_eq_getElem hi] at e3
        exact congrArg some e3
    · cases e2
theorem least_ex (f : Nat → Bool) : ∀ N : Nat, 1 ≤ N → f N = false → ∃ L, 1 ≤ L ∧ L ≤ N ∧ f L = false ∧ ∀ j, 1 ≤ j → j < L → f j = true := by
  intro N
  induction N using Nat.strongRecOn with
  | ind N ih =>
    intro h1 h2
    by_cases h : ∃ j, 1 ≤ j ∧ j < N ∧ f j = false
    · obtain ⟨j, a, b, c⟩ := h
      obtain ⟨L, l1, l2, l3, l4⟩ := ih j b a c
      exact ⟨L, l1, by omega, l3, l4⟩
    · refine ⟨N, h1, Nat.le_refl _, h2, fun j a b => ?_⟩
      cases q : f j with
      | true => rfl
      | false => exact absurd ⟨j, a, b, q⟩ h
theorem late_cnt (ps : List (Int × Int)) (most : Int) (c : Nat) : decide ((0 : Int) < (((List.range ps.length).countP fun j => decide (((srv c [] ps).getD j (0, 0)).1 - (ps.getD j (0, 0)).1 > most) : Nat) : Int)) = late ps most c := by
  unfold late gapL
  rw [List.any_map]
  cases h : (List.range ps.length).any ((fun g => decide (g > most)) ∘ fun i => ((srv c [] ps).getD i (0, 0)).1 - (ps.getD i (0, 0)).1) with
  | true =>
    obtain ⟨j, hj, e⟩ := List.any_eq_true.mp h
    have : 0 < (List.range ps.length).countP fun j => decide (((srv c [] ps).getD j (0, 0)).1 - (ps.getD j (0, 0)).1 > most) := List.countP_pos_iff.mpr ⟨j, hj, e⟩
    exact decide_eq_true (by omega)
  | false =>
    have : (List.range ps.length).countP (fun j => decide (((srv c [] ps).getD j (0, 0)).1 - (ps.getD j (0, 0)).1 > most)) = 0 := List.countP_eq_zero.mpr fun j hj e => by
      have := (List.any_eq_false.mp h) j hj
      exact this e
    rw [this]
    rfl
theorem late_many {ps : List (Int × Int)} {most : Int} {c : Nat} (hm : 0 ≤ most) (h : ps.length ≤ c) : late ps most c = false := by
  unfold late
  rw [gap_many h, Bool.eq_false_iff]
  intro w
  obtain ⟨g, hg, e⟩ := List.any_eq_true.mp w
  have := (List.mem_replicate.mp hg).2
  have := of_decide_eq_true e
  omega
def sp_c_check_queue0 (K : PySem.W.Frag) (C : Addr) : Sp := fun vs H Q E => ∃ (q : Addr) (rs : List V) (ps : List (Int × Int)) (c : Int), vs = [.ref q, .int c] ∧ SqL K H q rs ∧ Rws K H rs ps ∧ ps.length ≤ 60 ∧ (c < 1 → raisesW C "couriers" H E) ∧ (1 ≤ c → badQ ps = true → raisesW C "jobs" H E) ∧ (1 ≤ c → badQ ps = false → ∀ H', Same H H' → Q .non H')
@[irreducible] def sp_c_check_queue (K : PySem.W.Frag) (C : Addr) : Sp := sp_c_check_queue0 K C
theorem sp_c_check_queue_eq (K : PySem.W.Frag) (C : Addr) : sp_c_check_queue K C = sp_c_check_queue0 K C := by unfold sp_c_check_queue; rfl
theorem sp_c_check_queue_use {K : PySem.W.Frag} {C : Addr} {vs : List V} {H : Hp} {Q : VK} {E : XK} (h : sp_c_check_queue0 K C vs H Q E) : sp_c_check_queue K C vs H Q E := by rw [sp_c_check_queue_eq]; exact h
def sp_c_served0 (K : PySem.W.Frag) (C : Addr) : Sp := fun vs H Q E => ∃ (q : Addr) (rs : List V) (ps : List (Int × Int)) (c : Int), vs = [.ref q, .int c] ∧ SqL K H q rs ∧ Rws K H rs ps ∧ ps.length ≤ 60 ∧ (c < 1 → raisesW C "couriers" H E) ∧ (1 ≤ c → badQ ps = true → raisesW C "jobs" H E) ∧ (1 ≤ c → badQ ps = false → ∀ H' l xs, Same H H' → H l = none → H' l = some (.lst xs) → Rws K (del H' l) xs (srv c.toNat [] ps) → Q (.ref l) H')
@[irreducible] def sp_c_served (K : PySem.W.Frag) (C : Addr) : Sp := sp_c_served0 K C
theorem sp_c_served_eq (K : PySem.W.Frag) (C : Addr) : sp_c_served K C = sp_c_served0 K C := by unfold sp_c_served; rfl
theorem sp_c_served_use {K : PySem.W.Frag} {C : Addr} {vs : List V} {H : Hp} {Q : VK} {E : XK} (h : sp_c_served0 K C vs H Q E) : sp_c_served K C vs H Q E := by rw [sp_c_served_eq]; exact h
def sp_c_waits0 (K : PySem.W.Frag) (C : Addr) : Sp := fun vs H Q E => ∃ (q : Addr) (rs : List V) (ps : List (Int × Int)) (c : Int), vs = [.ref q, .int c] ∧ SqL K H q rs ∧ Rws K H rs ps ∧ ps.length ≤ 60 ∧ (c < 1 → raisesW C "couriers" H E) ∧ (1 ≤ c → badQ ps = true → raisesW C "jobs" H E) ∧ (1 ≤ c → badQ ps = false → ∀ H' l, Same H H' → H l = none → H' l = some (.lst ((gapL c.toNat ps).map V.int)) → Q (.ref l) H')
@[irreducible] def sp_c_waits (K : PySem.W.Frag) (C : Addr) : Sp := sp_c_waits0 K C
theorem sp_c_waits_eq (K : PySem.W.Frag) (C : Addr) : sp_c_waits K C = sp_c_waits0 K C := by unfold sp_c_waits; rfl
theorem sp_c_waits_use {K : PySem.W.Frag} {C : Addr} {vs : List V} {H : Hp} {Q : VK} {E : XK} (h : sp_c_waits0 K C vs H Q E) : sp_c_waits K C vs H Q E := by rw [sp_c_waits_eq]; exact h
def sp_c_greatest_queue0 (K : PySem.W.Frag) (C : Addr) : Sp := fun vs H Q E => ∃ (q : Addr) (rs : List V) (ps : List (Int × Int)) (c : Int), vs = [.ref q, .int c] ∧ SqL K H q rs ∧ Rws K H rs ps ∧ ps.length ≤ 60 ∧ (c < 1 → raisesW C "couriers" H E) ∧ (1 ≤ c → badQ ps = true → raisesW C "jobs" H E) ∧ (1 ≤ c → badQ ps = false → ∀ H', Same H H' → Q (.int (topQ c.toNat ps ps.length)) H')
@[irreducible] def sp_c_greatest_queue (K : PySem.W.Frag) (C : Addr) : Sp := sp_c_greatest_queue0 K C
theorem sp_c_greatest_queue_eq (K : PySem.W.Frag) (C : Addr) : sp_c_greatest_queue K C = sp_c_greatest_queue0 K C := by unfold sp_c_greatest_queue; rfl
theorem sp_c_greatest_queue_use {K : PySem.W.Frag} {C : Addr} {vs : List V} {H : Hp} {Q : VK} {E : XK} (h : sp_c_greatest_queue0 K C vs H Q E) : sp_c_greatest_queue K C vs H Q E := by rw [sp_c_greatest_queue_eq]; exact h
def sp_c_least_couriers0 (K : PySem.W.Frag) (C : Addr) : Sp := fun vs H Q E => ∃ (q : Addr) (rs : List V) (ps : List (Int × Int)) (most : Int), vs = [.ref q, .int most] ∧ SqL K H q rs ∧ Rws K H rs ps ∧ ps.length ≤ 60 ∧ (most < 0 → raisesW C "wait" H E) ∧ (0 ≤ most → badQ ps = true → raisesW C "jobs" H E) ∧ (0 ≤ most → badQ ps = false → ∃ Lc : Nat, 1 ≤ Lc ∧ late ps most Lc = false ∧ (∀ j, 1 ≤ j → j < Lc → late ps most j = true) ∧ ∀ H', Same H H' → Q (.int Lc) H')
@[irreducible] def sp_c_least_couriers (K : PySem.W.Frag) (C : Addr) : Sp := sp_c_least_couriers0 K C
theorem sp_c_least_couriers_eq (K : PySem.W.Frag) (C : Addr) : sp_c_least_couriers K C = sp_c_least_couriers0 K C := by unfold sp_c_least_couriers; rfl
theorem sp_c_least_couriers_use {K : PySem.W.Frag} {C : Addr} {vs : List V} {H : Hp} {Q : VK} {E : XK} (h : sp_c_least_couriers0 K C vs H Q E) : sp_c_least_couriers K C vs H Q E := by rw [sp_c_least_couriers_eq]; exact h
def sp_c_law_jobs0 (K : PySem.W.Frag) : Sp := fun vs H Q _ => ∃ (d : Addr) (D : List Int), vs = [.ref d] ∧ H d = some (dk D) ∧ ∀ (H' : Hp) (D' : List Int) (l : Addr) (rs : List V) (ps : List (Int × Int)), SameBut d H H' → H' d = some (dk D') → H l = none → H' l = some (.lst rs) → Rws K (del H' d) rs ps → ps.length ≤ 8 → okQ ps → (∀ z ∈ ps, -5 ≤ z.1) → Q (.ref l) H'
@[irreducible] def sp_c_law_jobs (K : PySem.W.Frag) : Sp := sp_c_law_jobs0 K
theorem sp_c_law_jobs_eq (K : PySem.W.Frag) : sp_c_law_jobs K = sp_c_law_jobs0 K := by unfold sp_c_law_jobs; rfl
theorem sp_c_law_jobs_use {K : PySem.W.Frag} {vs : List V} {H : Hp} {Q : VK} {E : XK} (h : sp_c_law_jobs0 K vs H Q E) : sp_c_law_jobs K vs H Q E := by rw [sp_c_law_jobs_eq]; exact h
def sp_c_law_served0 (K : PySem.W.Frag) : Sp := fun vs H Q _ => ∃ (q : Addr) (rs : List V) (ps : List (Int × Int)) (c : Int), vs = [.ref q, .int c] ∧ SqL K H q rs ∧ Rws K H rs ps ∧ ps.length ≤ 8 ∧ 1 ≤ c ∧ c ≤ 100 ∧ okQ ps ∧ (∀ z ∈ ps, -5 ≤ z.1) ∧ ∀ H' l xs, Same H H' → H l = none → H' l = some (.lst xs) → Rws K (del H' l) xs (srv c.toNat [] ps) → Q (.ref l) H'
@[irreducible] def sp_c_law_served (K : PySem.W.Frag) : Sp := sp_c_law_served0 K
theorem sp_c_law_served_eq (K : PySem.W.Frag) : sp_c_law_served K = sp_c_law_served0 K := by unfold sp_c_law_served; rfl
theorem sp_c_law_served_use {K : PySem.W.Frag} {vs : List V} {H : Hp} {Q : VK} {E : XK} (h : sp_c_law_served0 K vs H Q E) : sp_c_law_served K vs H Q E := by rw [sp_c_law_served_eq]; exact h
def sp_c_law_why0 (K : PySem.W.Frag) : Sp := fun vs H Q _ => ∃ (k c : Int) (q : Addr) (rs : List V) (ps : List (Int × Int)) (wd : Str), vs = [.int k, .ref q, .int c] ∧ 0 ≤ k ∧ SqL K H q rs ∧ Rws K H rs ps ∧ ps.length ≤ 60 ∧ ((k ≤ 2 ∧ c < 1 ∧ wd = "couriers") ∨ (k ≤ 2 ∧ 1 ≤ c ∧ badQ ps = true ∧ wd = "jobs") ∨ (3 ≤ k ∧ c < 0 ∧ wd = "wait") ∨ (3 ≤ k ∧ 0 ≤ c ∧ badQ ps = true ∧ wd = "jobs")) ∧ ∀ H', Same H H' → Q (.str wd) H'
@[irreducible] def sp_c_law_why (K : PySem.W.Frag) : Sp := sp_c_law_why0 K
theorem sp_c_law_why_eq (K : PySem.W.Frag) : sp_c_law_why K = sp_c_law_why0 K := by unfold sp_c_law_why; rfl
theorem sp_c_law_why_use {K : PySem.W.Frag} {vs : List V} {H : Hp} {Q : VK} {E : XK} (h : sp_c_law_why0 K vs H Q E) : sp_c_law_why K vs H Q E := by rw [sp_c_law_why_eq]; exact h
def sp_c_law (K : PySem.W.Frag) : Sp := fun vs H Q _ => ∃ (a : Addr) (ns : List Int), vs = [.ref a] ∧ SqL K H a (ns.map V.int) ∧ ns.length ≤ 63 ∧ ∀ H', Q (.bl true) H'

theorem ok_c_law_deck {P : Program} {w : World} {K : PySem.W.Frag} {mg : Str → Option Value} {base : Heap} {a : Ad} (T : Txt K mg a) : FnOk P w K mg base (L2.CX P w) 1 a.f_c_law_deck a.d_c_law_deck ["script", "cells", "each"] (sp_c_law_deck K) := by
  refine T.F_c_law_deck.okX sc_c_law_deck (fun vs H Q E h => ?_) (fun cdv A outer s H vs Q E hr h => ?_)
  · walk_at "len"
  · obtain ⟨sa, ns, c, e, rfl, hS, hns, hc0, hc1, he0, he1, k⟩ := h
    refine ⟨_, (pss_cons (ps_set (i := 3) sc_c_law_deck.nd (by rfl) (Or.inl rfl) (pe_lst pa_nil))
    (pss_cons (ps_set (i := 4) sc_c_law_deck.nd (by rfl) (Or.inl rfl) (pe_op op_add pe_int (pe_callB call_len_seq (by rfl) T.n_len (by decide +kernel) (pa_cons (pv 0) pa_nil))))
    (pss_cons (ps_for (passes_of rfl) rfl (pi_range1 (by rfl) T.n_range (pa_cons (pv 1) pa_nil)) (pg_name (i := 5) sc_c_law_deck.nd (by rfl) (Or.inl rfl)) (pss_cons (ps_set (i := 6) sc_c_law_deck.nd (by rfl) (Or.inl rfl) pe_int)
    (pss_cons (ps_if (pt_cmpR op_lt (pv 5) (pe_callB call_len_seq (by rfl) T.n_len (by decide +kernel) (pa_cons (pv 0) pa_nil)) (nomark _)) (pss_one (ps_set (i := 6) sc_c_law_deck.nd (by rfl) (Or.inl rfl) (pe_ix ix_list (pv 0) (pv 5) (fun _ _ => rfl)))) pss_nil)
    (pss_cons (ps_set (i := 7) sc_c_law_deck.nd (by rfl) (Or.inl rfl) (pe_callB call_abs (by rfl) T.n_abs (by decide +kernel) (pa_cons (pv 6) pa_nil)))
    (pss_one (ps_if (pt_cmpR op_ge (pv 7) (pe_op op_pow pe_int pe_int) (nomark _)) (pss_one (ps_for (passes_of rfl) rfl (pi_range1 (by rfl) T.n_range (pa_cons (pv 2) pa_nil)) (pg_name (i := 8) sc_c_law_deck.nd (by rfl) (Or.inl rfl)) (pss_cons (ps_expr (pe_bm PySem.F.plainAttrs_list PySem.F.slot_list_append PySem.F.type_list_append mt_append (pv 3) (pa_cons (pe_op op_mod (pe_callTy call_int1 (by rfl) T.n_int (by decide +kernel) (pa_cons (pv 7) pa_nil)) pe_int) pa_nil)))
    (pss_one (ps_set (i := 7) sc_c_law_deck.nd (by rfl) (Or.inl rfl) (pe_op op_fdiv (pv 7) pe_int)))))) (pss_cons (ps_set (i := 4) sc_c_law_deck.nd (by rfl) (Or.inl rfl) (pe_op op_mod (pe_callTy call_int1 (by rfl) T.n_int (by decide +kernel) (pa_cons (pe_op op_add (pe_op op_add (pe_op op_add (pe_op op_mul (pv 4) pe_int) (pe_op op_mul pe_int (pv 7))) (pe_callTy call_int1 (by rfl) T.n_int (by decide +kernel) (pa_cons (pe_cmpR op_lt (pv 6) pe_int (nomark _)) pa_nil))) (pv 5)) pa_nil)) pe_int))
    (pss_one (ps_for (passes_of rfl) rfl (pi_range1 (by rfl) T.n_range (pa_cons (pv 2) pa_nil)) (pg_name (i := 8) sc_c_law_deck.nd (by rfl) (Or.inl rfl)) (pss_cons (ps_set (i := 4) sc_c_law_deck.nd (by rfl) (Or.inl rfl) (pe_op op_mod (pe_callTy call_int1 (by rfl) T.n_int (by decide +kernel) (pa_cons (pe_op op_add (pe_op op_add (pe_op op_mul (pv 4) pe_int) (pv 8)) pe_int) pa_nil)) pe_int))
    (pss_one (ps_expr (pe_bm PySem.F.plainAttrs_list PySem.F.slot_list_append PySem.F.type_list_append mt_append (pv 3) (pa_cons (pe_op op_mod (pe_callTy call_int1 (by rfl) T.n_int (by decide +kernel) (pa_cons (pe_op op_fdiv (pv 4) pe_int) pa_nil)) pe_int) pa_nil))))))))))))))
    (pss_cons (ps_expr (pe_bm0 PySem.F.plainAttrs_list PySem.F.slot_list_reverse PySem.F.type_list_reverse mt_reverse (pv 3)))
    (pss_one (ps_ret (pv 3))))))), ?_⟩
    refine ⟨by show 0 ≤ sizeLine; decide, fun p hp => ?_⟩
    have s0 : Same H (upd H p (.lst [])) := Same.new hp
    refine ⟨_, rfl, sa, _, rfl, .inl (s0.seq hS), _, _, rfl, rfl, ?_⟩
    refine ⟨_, rfl, c, rfl, by omega, by omega, for_range (lo := 0) (n := c.toNat) (fun i σ H' => ∃ (sd : Int) (v5 v6 v7 v8 : Option V) (xs : List Int), σ = [some (.ref sa), some (.int c), some (.int e), some (.ref p), some (.int sd), v5, v6, v7, v8] ∧
      Same H H' ∧ H' p = some (.lst (xs.map V.int)) ∧ xs.length ≤ i * 100) ⟨_, none, none, none, none, [], rfl, s0, upd_same, by simp⟩ ?_ ?_⟩
    · rintro i σ H1 hi ⟨sd, v5, v6, v7, v8, xs, rfl, s1, h1, hx⟩
      have hi' : i < 1000 := by omega
      walk_at "st"
      refine ⟨_, rfl, sa, _, rfl, .inl (s1.seq hS), ?_⟩
      walk_at "sts"
      refine ite2 (fun hk => ?_) (fun _ => ?_)
      · have hk' : i < ns.length := by simpa using hk
        refine ⟨_, rfl, _, rfl, sa, _, _, _, rfl, rfl, s1.seq hS, atI_nat' (j := i) (by omega) (by rw [List.getElem?_map, List.getElem?_eq_getElem hk']; rfl), ?_⟩
        walk_at "sts"
        refine ite2 (fun _ => ?_) (fun _ => ?_)
        · refine ⟨_, rfl, e, rfl, by omega, by omega, for_range (lo := 0) (n := e.toNat) (fun j σ H' => ∃ (r : Int) (v6 v8 : Option V) (ys : List Int), σ = [some (.ref sa), some (.int c), some (.int e), some (.ref p), some (.int sd), some (.int (0 + (i : Int))), v6, some (.int r), v8] ∧
            Same H H' ∧ H' p = some (.lst (ys.map V.int)) ∧ ys.length ≤ i * 100 + j) ⟨_, _, v8, xs, rfl, s1, h1, by omega⟩ ?_ ?_⟩
          · rintro j σ H2 hj ⟨r, v6, v8, ys, rfl, s2, h2, hy⟩
            refine ⟨_, rfl, .inl ⟨rfl, _, SqL.of h2⟩, ?_⟩
            walk_at "sts"
            refine ⟨p, _, _, rfl, rfl, h2, by rw [List.length_map]; exact small1000000 (by omega), ?_⟩
            walk_at "sts"
            refine ⟨_, _, _, ys ++ [r % 1000003], rfl, s2.mut hp, ?_, by rw [List.length_append]; simp; omega⟩
            rw [upd_same, List.map_append]
            rfl
          · rintro σ H2 ⟨r, v6, v8, ys, rfl, s2, h2, hy⟩
            exact ⟨_, _, _, _, _, ys, rfl, s2, h2, by omega⟩
        · walk_at "sts"
          refine ⟨by omega, by omega, for_range (lo := 0) (n := e.toNat) (fun j σ H' => ∃ (sd : Int) (v6 v7 v8 : Option V) (ys : List Int), σ = [some (.ref sa), some (.int c), some (.int e), some (.ref p), some (.int sd), some (.int (0 + (i : Int))), v6, v7, v8] ∧
            Same H H' ∧ H' p = some (.lst (ys.map V.int)) ∧ ys.length ≤ i * 100 + j) ⟨_, _, _, v8, xs, rfl, s1, h1, by omega⟩ ?_ ?_⟩
          · rintro j σ H2 hj ⟨sd, v6, v7, v8, ys, rfl, s2, h2, hy⟩
            walk_at "sts"
            refine ⟨.inl ⟨rfl, _, SqL.of h2⟩, ?_⟩
            walk_at "sts"
            refine ⟨p, _, _, rfl, rfl, h2, by rw [List.length_map]; exact small1000000 (by omega), ?_⟩
            refine ⟨_, _, _, _, ys ++ [(sd * 69621 + (0 + (j : Int)) + 1) % 2147483629 / 5 % 1000003], rfl, s2.mut hp, ?_, by rw [List.length_append]; simp; omega⟩
            rw [upd_same, List.map_append]
            rfl
          · rintro σ H2 ⟨sd, v6, v7, v8, ys, rfl, s2, h2, hy⟩
            exact ⟨_, _, _, _, _, ys, rfl, s2, h2, by omega⟩
      · skip
        walk_at "sts"
        refine ⟨by omega, by omega, for_range (lo := 0) (n := e.toNat) (fun j σ H' => ∃ (sd : Int) (v6 v7 v8 : Option V) (ys : List Int), σ = [some (.ref sa), some (.int c), some (.int e), some (.ref p), some (.int sd), some (.int (0 + (i : Int))), v6, v7, v8] ∧
          Same H H' ∧ H' p = some (.lst (ys.map V.int)) ∧ ys.length ≤ i * 100 + j) ⟨_, _, _, v8, xs, rfl, s1, h1, by omega⟩ ?_ ?_⟩
        · rintro j σ H2 hj ⟨sd, v6, v7, v8, ys, rfl, s2, h2, hy⟩
          walk_at "sts"
          refine ⟨.inl ⟨rfl, _, SqL.of h2⟩, ?_⟩
          walk_at "sts"
          refine ⟨p, _, _, rfl, rfl, h2, by rw [List.length_map]; exact small1000000 (by omega), ?_⟩
          refine ⟨_, _, _, _, ys ++ [(sd * 69621 + (0 + (j : Int)) + 1) % 2147483629 / 5 % 1000003], rfl, s2.mut hp, ?_, by rw [List.length_append]; simp; omega⟩
          rw [upd_same, List.map_append]
          rfl
        · rintro σ H2 ⟨sd, v6, v7, v8, ys, rfl, s2, h2, hy⟩
          exact ⟨_, _, _, _, _, ys, rfl, s2, h2, by omega⟩
    · rintro σ H1 ⟨sd, v5, v6, v7, v8, xs, rfl, s1, h1, hx⟩
      refine ⟨_, rfl, .inl ⟨rfl, _, SqL.of h1⟩, p, _, rfl, rfl, h1, _, rfl, ?_⟩
      refine k xs p _ hp (s1.mut hp) ?_
      rw [upd_same]
      simp [dk]
theorem ok_c_law_take {P : Program} {w : World} {K : PySem.W.Frag} {mg : Str → Option Value} {base : Heap} {a : Ad} (T : Txt K mg a) : FnOk P w K mg base (L2.CX P w) 1 a.f_c_law_take a.d_c_law_take ["deck", "many"] (sp_c_law_take) := by
  refine T.F_c_law_take.okX sc_c_law_take (fun vs H Q E h => ?_) (fun cdv A outer s H vs Q E hr h => ?_)
  · rw [sp_c_law_take, sp_take_eq] at h
    walk_at "len"
  · rw [sp_c_law_take, sp_take_eq] at h
    obtain ⟨d, D, m, rfl, hd, hm, k⟩ := h
    refine ⟨_, (pss_cons (ps_if (pt_cmpR op_eq (pe_callB call_len_seq (by rfl) T.n_len (by decide +kernel) (pa_cons (pv 0) pa_nil)) pe_int (nomark _)) (pss_one (ps_ret pe_int)) pss_nil)
    (pss_one (ps_ret (pe_op op_mod (pe_callTy call_int1 (by rfl) T.n_int (by decide +kernel) (pa_cons (pe_bm0 PySem.F.plainAttrs_list PySem.F.slot_list_pop PySem.F.type_list_pop mt_pop (pv 0)) pa_nil)) (pv 1))))), ?_⟩
    refine ⟨_, rfl, d, _, rfl, .inl (SqL.of hd), rfl, _, rfl, ?_⟩
    cases D with
    | nil =>
      refine iteT ?_
      have e : upd H d (dk []) = H := upd_self hd
      have k' : Q (.int (0 % m)) H := by rw [← e]; exact k
      rw [Int.zero_emod] at k'
      exact k'
    | cons x D =>
      refine ite2 (fun c => ?_) (fun _ => ?_)
      · simp at c
        omega
      · refine ⟨_, rfl, .inl ⟨rfl, _, SqL.of hd⟩, d, _, _, rfl, rfl, hd, dk_last, .inl ⟨_, rfl, _, rfl, _, _, rfl, rfl, hm, ?_⟩⟩
        rw [dk_drop]
        exact k
theorem ok_c_law_jobs {P : Program} {w : World} {K : PySem.W.Frag} {mg : Str → Option Value} {base : Heap} {a : Ad} (T : Txt K mg a) : FnOk P w K mg base (L2.CX P w) 2 a.f_c_law_jobs a.d_c_law_jobs ["deck"] (sp_c_law_jobs K) := by
  have G_c_law_take : FnOk P w K mg base (L2.CX P w) 1 a.f_c_law_take a.d_c_law_take ["deck", "many"] (sp_c_law_take) := ok_c_law_take T
  refine T.F_c_law_jobs.okX sc_c_law_jobs (fun vs H Q E h => ?_) (fun cdv A outer s H vs Q E hr h => ?_)
  · rw [sp_c_law_jobs_eq] at h
    walk_at "len"
  · rw [sp_c_law_jobs_eq] at h
    obtain ⟨d, D, rfl, hd, k⟩ := h
    refine ⟨_, (pss_cons (ps_set (i := 1) sc_c_law_jobs.nd (by rfl) (Or.inl rfl) (pe_lst pa_nil))
    (pss_cons (ps_set (i := 2) sc_c_law_jobs.nd (by rfl) (Or.inl rfl) (pe_op op_sub (pe_call G_c_law_take (hr.mono (by decide)) (by rfl) T.m_c_law_take T.F_c_law_take.kp T.b_c_law_take .nil passL (pa_cons (pv 0) (pa_cons pe_int pa_nil))) pe_int))
    (pss_cons (ps_for (passes_of rfl) rfl (pi_range1 (by rfl) T.n_range (pa_cons (pe_call G_c_law_take (hr.mono (by decide)) (by rfl) T.m_c_law_take T.F_c_law_take.kp T.b_c_law_take .nil passL (pa_cons (pv 0) (pa_cons pe_int pa_nil))) pa_nil)) (pg_name (i := 3) sc_c_law_jobs.nd (by rfl) (Or.inl rfl)) (pss_cons (ps_set (i := 2) sc_c_law_jobs.nd (by rfl) (Or.inl rfl) (pe_op op_add (pv 2) (pe_ix ix_list (pe_lst (pa_cons pe_int (pa_cons (pe_call G_c_law_take (hr.mono (by decide)) (by rfl) T.m_c_law_take T.F_c_law_take.kp T.b_c_law_take .nil passL (pa_cons (pv 0) (pa_cons pe_int pa_nil))) (pa_cons (pe_call G_c_law_take (hr.mono (by decide)) (by rfl) T.m_c_law_take T.F_c_law_take.kp T.b_c_law_take .nil passL (pa_cons (pv 0) (pa_cons pe_int pa_nil))) pa_nil)))) (pe_call G_c_law_take (hr.mono (by decide)) (by rfl) T.m_c_law_take T.F_c_law_take.kp T.b_c_law_take .nil passL (pa_cons (pv 0) (pa_cons pe_int pa_nil))) (fun _ _ => rfl))))
    (pss_one (ps_expr (pe_bm PySem.F.plainAttrs_list PySem.F.slot_list_append PySem.F.type_list_append mt_append (pv 1) (pa_cons (pe_tup (pa_cons (pv 2) (pa_cons (pe_call G_c_law_take (hr.mono (by decide)) (by rfl) T.m_c_law_take T.F_c_law_take.kp T.b_c_law_take .nil passL (pa_cons (pv 0) (pa_cons pe_int pa_nil))) pa_nil))) pa_nil))))))
    (pss_one (ps_ret (pv 1)))))), ?_⟩
    have K0 : Dk (del H d) H d D := ⟨del_same, fun _ _ e => (del_of e).1, hd⟩
    refine ⟨by show 0 ≤ sizeLine; decide, fun l hl => ?_⟩
    have ndl : d ≠ l := ne_of_none hd hl
    have hl0 : del H d l = none := by rw [del_ne ndl.symm]; exact hl
    have K1 : Dk (del H d) (upd H l (.lst [])) d D := ⟨K0.nd, K0.sm.mut hl0, by rw [upd_ne ndl]; exact hd⟩
    refine ⟨_, rfl, take_q K1.freeze (by decide) fun a1 H1 a10 a11 K2 => ?_⟩
    have hL1 := K2.get ndl.symm upd_same
    have K2 : Dk (del H d) H1 d D.tail := K2.keep K1.nd (fun b o e => K2.sm b o (K1.under b o e))
    refine ⟨_, _, rfl, rfl, ?_⟩
    refine ⟨_, rfl, take_q K2.freeze (by decide) fun n H2 n0 n1 K3 => ?_⟩
    have hL2 := K3.get ndl.symm hL1
    have K3 : Dk (del H d) H2 d D.tail.tail := K3.keep K2.nd (fun b o e => K3.sm b o (K2.under b o e))
    refine ⟨n, rfl, by omega, by omega, for_range (lo := 0) (n := n.toNat) (fun i σ H' => ∃ (b : Int) (v3 : Option V) (D' : List Int) (rs : List V) (ps : List (Int × Int)), σ = [some (.ref d), some (.ref l), some (.int b), v3] ∧ Dk (del H d) H' d D' ∧ H' l = some (.lst rs) ∧ Rws K (del (del H' d) l) rs ps ∧ ps.length = i ∧ okQ ps ∧ (∀ z ∈ ps, z.1 ≤ b) ∧ -5 ≤ b ∧ ∀ z ∈ ps, -5 ≤ z.1) ?_ ?_ ?_⟩
    · exact ⟨a1 - 5, none, _, [], [], rfl, K3, hL2, .nil, rfl, ⟨.nil, (fun z hz => by cases hz)⟩, (fun z hz => by cases hz), by omega, (fun z hz => by cases hz)⟩
    · rintro i σ H3 hi ⟨b, v3, D', rs, ps, rfl, K4, hL, hR, hln, hok, hkb, b1, hz⟩
      refine ⟨_, rfl, _, rfl, take_q K4.freeze (by decide) fun x H4 x0 x1 K5 => ?_⟩
      refine ⟨_, rfl, take_q K5 (by decide) fun y H5 y0 y1 K6 => ?_⟩
      refine ⟨by show 3 ≤ sizeLine; decide, fun lt hlt => ?_⟩
      have K7 := K6.same (Same.new (o := .lst [.int 0, .int x, .int y]) hlt)
      have ntd : lt ≠ d := fun w => by rw [w, K6.hd] at hlt; cases hlt
      refine ⟨_, rfl, take_q K7.freeze (by decide) fun w H6 w0 w1 K8 => ?_⟩
      have hT := K8.get ntd upd_same
      have K8 : Dk (del H3 d) H6 d _ := K8.keep K7.nd (fun b o e => K8.sm b o (K7.under b o e))
      obtain ⟨h, hh, hm⟩ := atI_ints (ns := [0, x, y]) w0 w1
      have hhb : 0 ≤ h := by simp at hm; omega
      refine ⟨lt, _, _, _, rfl, rfl, SqL.of hT, hh, _, _, rfl, rfl, ?_⟩
      obtain ⟨b', hb'⟩ : ∃ z : Int, z = b + h := ⟨_, rfl⟩
      have eb : (fun i j : Int => V.int (i + j)) b h = V.int b' := by rw [hb']
      rw [eb]
      have hL6 : H6 l = some (.lst rs) := K8.sm _ _ (del_some hL ndl.symm)
      refine ⟨_, rfl, .inl ⟨rfl, _, SqL.of hL6⟩, _, rfl, ?_⟩
      refine ⟨_, rfl, take_q K8.freeze (by decide) fun wk H7 k0 k1 K9 => ?_⟩
      have hL7 := K9.get ndl.symm hL6
      have K9 : Dk (del H3 d) H7 d _ := K9.keep K8.nd (fun b o e => K9.sm b o (K8.under b o e))
      refine ⟨by show 2 ≤ sizeLine; decide, fun tq htq => ?_⟩
      have ntl : tq ≠ l := fun w => by rw [w, hL7] at htq; cases htq
      have ntd' : tq ≠ d := fun w => by rw [w, K9.hd] at htq; cases htq
      have rl := rws_len hR
      refine ⟨l, _, _, rfl, rfl, by rw [upd_ne ntl.symm]; exact hL7, small1000000 (by omega), ?_⟩
      have k9 : ∀ c o, c ≠ d → c ≠ l → H3 c = some o → (upd (upd H7 tq (.tup [.int b', .int wk])) l (.lst (rs ++ [.ref tq])) : Hp) c = some o := fun c o e1 e2 e3 => by
        have := K9.sm c o (del_some e3 e1)
        rw [upd_ne e2, upd_ne (ne_of_none this htq)]
        exact this
      have KN := Dk.mk (G := del H d) (H := (upd (upd H7 tq (.tup [.int b', .int wk])) l (.lst (rs ++ [.ref tq])) : Hp)) (d := d) K0.nd (fun c o e => k9 c o (ne_of_none e K0.nd) (ne_of_none e hl0) (K4.sm c o e)) ((upd_ne ndl).trans ((upd_ne ntd'.symm).trans K9.hd))
      refine ⟨_, _, _, rs ++ [.ref tq], ps ++ [(b', wk)], rfl, KN, upd_same, ?_, by rw [List.length_append, hln]; rfl, ⟨?_, ?_⟩, ?_, by omega, ?_⟩
      · show DpAll K _ (rs ++ [.ref tq]) ((ps ++ [(b', wk)]).map pd)
        rw [List.map_append]
        refine dpAll_app (dpAll_same (fun c o e => ?_) _ _ hR) (.cons (dp_pd (z := (b', wk)) (SqT.of (del_some (del_some ?_ ntd') ntl))) .nil)
        · obtain ⟨e1, e2⟩ := del_of e
          obtain ⟨e3, e4⟩ := del_of e1
          exact del_some (del_some (k9 c o e4 e2 e3) e4) e2
        · rw [upd_ne ntl, upd_same]
      · refine List.pairwise_append.mpr ⟨hok.1, List.pairwise_singleton _ _, fun w hw w' hw' => ?_⟩
        rw [List.mem_singleton] at hw'
        rw [hw']
        have := hkb w hw
        show w.1 ≤ b'
        omega
      · intro w hw
        rcases List.mem_append.mp hw with hw | hw
        · exact hok.2 w hw
        · rw [List.mem_singleton] at hw
          subst hw
          exact k0
      · intro w hw
        rcases List.mem_append.mp hw with hw | hw
        · have := hkb w hw
          omega
        · rw [List.mem_singleton] at hw
          subst hw
          exact Int.le_refl _
      · intro w hw
        rcases List.mem_append.mp hw with hw | hw
        · exact hz w hw
        · rw [List.mem_singleton] at hw
          subst hw
          show -5 ≤ b'
          omega
    rintro σ H3 ⟨b, v3, D', rs, ps, rfl, K4, hL, hR, hln, hok, hkb, b1, hz⟩
    refine ⟨_, rfl, k H3 D' l rs ps (fun c o nc e => K4.sm c o (del_some e nc)) K4.hd hl hL (dpAll_same (fun c o e => (del_of e).1) _ _ hR) (by omega) hok hz⟩

theorem ok_c_law_plain_n {P : Program} {w : World} {K : PySem.W.Frag} {mg : Str → Option Value} {base : Heap} {a : Ad} (T : Txt K mg a) : ∀ n, FnOk P w K mg base (L2.CX P w) (n + 1) a.f_c_law_plain a.d_c_law_plain ["value"] (sp_c_law_plain K n) := by
  have step : ∀ n, (∀ m, m + 1 = n → FnOk P w K mg base (L2.CX P w) (m + 1) a.f_c_law_plain a.d_c_law_plain ["value"] (sp_c_law_plain K m)) → FnOk P w K mg base (L2.CX P w) (n + 1) a.f_c_law_plain a.d_c_law_plain ["value"] (sp_c_law_plain K n) := by
    intro n ih
    refine T.F_c_law_plain.okX sc_c_law_plain (fun vs H Q E h => ?_) (fun cdv A outer s H vs Q E hr h => ?_)
    · walk_at "len"
    · obtain ⟨v, d, rfl, hd, hok, k⟩ := h
      cases d with
      | dict _ => simp [okD] at hok
      | list ds =>
        cases n with
        | zero => simp [okD] at hok
        | succ n =>
        have IH := ih n rfl
        simp only [okD, Bool.and_eq_true, decide_eq_true_eq] at hok
        have hds := hok.1
        cases hd with
        | @lst aa xs _ hsq hall =>
        refine ⟨_, (pss_cons (ps_if (pt_val (pe_callB call_isiT (by rfl) T.n_isinstance (by decide +kernel) (pa_cons (pv 0) (pa_cons (pe_tup (pa_cons (pe_bltn (v := .ty "tuple") (by rfl) T.n_tuple (by decide +kernel) rfl) (pa_cons (pe_bltn (v := .ty "list") (by rfl) T.n_list (by decide +kernel) rfl) pa_nil))) pa_nil)))) (pss_one (ps_ret (pe_op op_cat (pe_lst (pa_cons (pe_callB call_isi (by rfl) T.n_isinstance (by decide +kernel) (pa_cons (pv 0) (pa_cons (pe_bltn (v := .ty "list") (by rfl) T.n_list (by decide +kernel) rfl) pa_nil))) pa_nil)) (pe_lcK (own := [("item", 1)]) (by rfl) sc_c_law_plain.nd (pi_list (pv 0)) (blkOk_by (own := [("item", 1)]) (N := ["value", "item"]) (sc := defScope st_c_law_plain) (by decide +kernel)) (fun _ _ _ _ _ => (pg_name (i := 1) sc_c_law_plain.nd (by rfl) (by first | exact Or.inl rfl | exact Or.inr rfl))) (fun _ _ _ _ _ => pts_nil) (fun _ _ _ _ _ => (pe_call IH (hr.mono (by omega)) (by rfl) T.m_c_law_plain T.F_c_law_plain.kp T.b_c_law_plain .nil passL (pa_cons (pv 1) pa_nil))) (by walk_at "blk") (by walk_at "blk") (by walk_at "blk"))))) pss_nil)
    (pss_cons (ps_if (PW.pt (pw_or (pt_cmpR op_isN (pv 0) pe_non (nomark _)) (pw_or1 (pt_val (pe_callB call_isi (by rfl) T.n_isinstance (by decide +kernel) (pa_cons (pv 0) (pa_cons (pe_bltn (v := .ty "bool") (by rfl) T.n_bool (by decide +kernel) rfl) pa_nil))))))) (pss_one (ps_ret (pe_ix ix_list (pe_lst (pa_cons pe_str (pa_cons pe_str (pa_cons pe_str pa_nil)))) (pe_op op_add (pe_callTy call_int1 (by rfl) T.n_int (by decide +kernel) (pa_cons (pe_cmpR op_notN (pv 0) pe_non (nomark _)) pa_nil)) (pe_callTy call_int1 (by rfl) T.n_int (by decide +kernel) (pa_cons (pe_cmpR op_isT (pv 0) pe_bl (nomark _)) pa_nil))) (fun _ _ => rfl)))) pss_nil)
    (pss_cons (ps_if (pt_val (pe_callB call_isiT (by rfl) T.n_isinstance (by decide +kernel) (pa_cons (pv 0) (pa_cons (pe_tup (pa_cons (pe_bltn (v := .ty "int") (by rfl) T.n_int (by decide +kernel) rfl) (pa_cons (pe_bltn (v := .ty "str") (by rfl) T.n_str (by decide +kernel) rfl) pa_nil))) pa_nil)))) (pss_one (ps_ret (pe_lst (pa_cons (pe_callB call_isi (by rfl) T.n_isinstance (by decide +kernel) (pa_cons (pv 0) (pa_cons (pe_bltn (v := .ty "str") (by rfl) T.n_str (by decide +kernel) rfl) pa_nil))) (pa_cons (pv 0) pa_nil))))) pss_nil)
    (pss_one (ps_ret pe_str))))), ?_⟩

        refine ⟨_, rfl, by show 2 ≤ sizeLine; decide, fun p hp => ?_⟩
        refine ⟨_, _, [.ty "tuple", .ty "list"], .type "list", _, _, rfl, upd_same, .cons (.ty "tuple") (.cons (.ty "list") .nil), ((kind_l hsq).new hp), kit2 (r1 := false) (r2 := true) (by decide +kernel) (by decide +kernel), ?_⟩
        refine ⟨_, rfl, ?_⟩
        refine iteT ?_
        have s1 : Same H (upd H p (.tup [.ty "tuple", .ty "list"])) := Same.new hp
        refine ⟨_, rfl, .ref aa, .ty "list", _, _, true, rfl, .ty "list", (kind_l hsq).new hp, kit_ty (by decide +kernel), ?_⟩
        refine ⟨by show 1 ≤ sizeLine; decide, fun l hl => ?_⟩
        have s2 := s1.then_new (o := .lst [.bl true]) hl
        have hl0 : H l = none := s1.free hl
        refine ⟨_, rfl, aa, rfl, ⟨_, Same.seq s2 hsq⟩, fun E' hE => ?_⟩
        have hE0 : H E' = none := s2.free hE
        have nlE : l ≠ E' := by
          intro z
          rw [z, upd_same] at hE
          cases hE
        refine lc_list (K := K) (a := aa) (xs := xs) (fun i H' => Same H H' ∧ H' l = some (.lst [.bl true]) ∧ ∃ acc, H' E' = some (.lst acc) ∧ DNs (fun b => H b = none ∧ b ≠ E' ∧ b ≠ l) H' acc (plainDs (ds.take i)) ∧ acc.length ≤ i)
          ⟨s2.then_new hE, by rw [upd_ne nlE]; exact upd_same, [], upd_same, by simp only [List.take_zero, plainDs]; exact .nil, Nat.le_refl _⟩ (fun i H' _ q => Same.seq q.1 hsq) ?_ ?_
        · rintro i x H' hi ⟨s3, h3, acc, ha, hn, hz⟩
          obtain ⟨dx, hdx, hx⟩ := dpAll_get hall hi
          have hi1 : i < ds.length := (List.getElem?_eq_some_iff.mp hdx).1
          refine ⟨rfl, ?_⟩
          refine ⟨_, rfl, x, dx, rfl, dp_same s3 dx x hx, okDs_get hok.2 hdx, fun v' H'' s4 hv => ?_⟩
          have hE2 := s4 _ _ ha
          have nn : ∀ b, H' b = none → H b = none ∧ b ≠ E' ∧ b ≠ l := fun b hb => ⟨s3.free hb, (fun z => by rw [z, ha] at hb; cases hb), (fun z => by rw [z, h3] at hb; cases hb)⟩
          refine ⟨acc, hE2, small1000000 (by omega), (s3.trans s4).mut hE0, by rw [upd_ne nlE]; exact s4 _ _ h3, acc ++ [v'], upd_same, ?_, by rw [List.length_append]; show _ + 1 ≤ _; omega⟩
          rw [plainDs_take hdx]
          exact DNs.snoc (DN.mono nn (fun b o hb e => by rw [upd_ne (nn b hb).2.1]; exact e) _ _ hv) (DNs.mono (fun _ z => z) (fun b o hb e => by rw [upd_ne hb.2.1]; exact s4 _ _ e) _ _ hn)
        · rintro H' ⟨s3, h3, acc, ha, hn, hz⟩
          have el : ds.take xs.length = ds := by rw [dpAll_length hall, List.take_length]
          rw [el] at hn
          have hlen : acc.length ≤ 1000 := by have := dpAll_length hall; omega
          refine ⟨l, E', _, _, rfl, rfl, h3, ha, Nat.le_of_lt (small1000000 (by show 1 + _ ≤ _; omega)), fun r hr' => ?_⟩
          have hr0 : H r = none := s3.free hr'
          refine k _ _ (s3.then_new hr') ?_
          simp only [plainD]
          refine .lst hr0 upd_same (.cons (.bl _) (DNs.mono (fun b z => z.1) (fun b o hb e => ?_) _ _ hn))
          rw [upd_ne (ne_of_none e hr')]
          exact e

      | tuple ds =>
        cases n with
        | zero => simp [okD] at hok
        | succ n =>
        have IH := ih n rfl
        simp only [okD, Bool.and_eq_true, decide_eq_true_eq] at hok
        have hds := hok.1
        cases hd with
        | @tup aa xs _ hsq hall =>
        refine ⟨_, (pss_cons (ps_if (pt_val (pe_callB call_isiT (by rfl) T.n_isinstance (by decide +kernel) (pa_cons (pv 0) (pa_cons (pe_tup (pa_cons (pe_bltn (v := .ty "tuple") (by rfl) T.n_tuple (by decide +kernel) rfl) (pa_cons (pe_bltn (v := .ty "list") (by rfl) T.n_list (by decide +kernel) rfl) pa_nil))) pa_nil)))) (pss_one (ps_ret (pe_op op_cat (pe_lst (pa_cons (pe_callB call_isi (by rfl) T.n_isinstance (by decide +kernel) (pa_cons (pv 0) (pa_cons (pe_bltn (v := .ty "list") (by rfl) T.n_list (by decide +kernel) rfl) pa_nil))) pa_nil)) (pe_lcK (own := [("item", 1)]) (by rfl) sc_c_law_plain.nd (pi_tup (pv 0)) (blkOk_by (own := [("item", 1)]) (N := ["value", "item"]) (sc := defScope st_c_law_plain) (by decide +kernel)) (fun _ _ _ _ _ => (pg_name (i := 1) sc_c_law_plain.nd (by rfl) (by first | exact Or.inl rfl | exact Or.inr rfl))) (fun _ _ _ _ _ => pts_nil) (fun _ _ _ _ _ => (pe_call IH (hr.mono (by omega)) (by rfl) T.m_c_law_plain T.F_c_law_plain.kp T.b_c_law_plain .nil passL (pa_cons (pv 1) pa_nil))) (by walk_at "blk") (by walk_at "blk") (by walk_at "blk"))))) pss_nil)
    (pss_cons (ps_if (PW.pt (pw_or (pt_cmpR op_isN (pv 0) pe_non (nomark _)) (pw_or1 (pt_val (pe_callB call_isi (by rfl) T.n_isinstance (by decide +kernel) (pa_cons (pv 0) (pa_cons (pe_bltn (v := .ty "bool") (by rfl) T.n_bool (by decide +kernel) rfl) pa_nil))))))) (pss_one (ps_ret (pe_ix ix_list (pe_lst (pa_cons pe_str (pa_cons pe_str (pa_cons pe_str pa_nil)))) (pe_op op_add (pe_callTy call_int1 (by rfl) T.n_int (by decide +kernel) (pa_cons (pe_cmpR op_notN (pv 0) pe_non (nomark _)) pa_nil)) (pe_callTy call_int1 (by rfl) T.n_int (by decide +kernel) (pa_cons (pe_cmpR op_isT (pv 0) pe_bl (nomark _)) pa_nil))) (fun _ _ => rfl)))) pss_nil)
    (pss_cons (ps_if (pt_val (pe_callB call_isiT (by rfl) T.n_isinstance (by decide +kernel) (pa_cons (pv 0) (pa_cons (pe_tup (pa_cons (pe_bltn (v := .ty "int") (by rfl) T.n_int (by decide +kernel) rfl) (pa_cons (pe_bltn (v := .ty "str") (by rfl) T.n_str (by decide +kernel) rfl) pa_nil))) pa_nil)))) (pss_one (ps_ret (pe_lst (pa_cons (pe_callB call_isi (by rfl) T.n_isinstance (by decide +kernel) (pa_cons (pv 0) (pa_cons (pe_bltn (v := .ty "str") (by rfl) T.n_str (by decide +kernel) rfl) pa_nil))) (pa_cons (pv 0) pa_nil))))) pss_nil)
    (pss_one (ps_ret pe_str))))), ?_⟩

        refine ⟨_, rfl, by show 2 ≤ sizeLine; decide, fun p hp => ?_⟩
        refine ⟨_, _, [.ty "tuple", .ty "list"], .type "tuple", _, _, rfl, upd_same, .cons (.ty "tuple") (.cons (.ty "list") .nil), ((kind_t hsq).new hp), kit2 (r1 := true) (r2 := false) (by decide +kernel) (by decide +kernel), ?_⟩
        refine ⟨_, rfl, ?_⟩
        refine iteT ?_
        have s1 : Same H (upd H p (.tup [.ty "tuple", .ty "list"])) := Same.new hp
        refine ⟨_, rfl, .ref aa, .ty "list", _, _, false, rfl, .ty "list", (kind_t hsq).new hp, kit_ty (by decide +kernel), ?_⟩
        refine ⟨by show 1 ≤ sizeLine; decide, fun l hl => ?_⟩
        have s2 := s1.then_new (o := .lst [.bl false]) hl
        have hl0 : H l = none := s1.free hl
        refine ⟨_, rfl, aa, rfl, ⟨_, Same.tup s2 hsq⟩, fun E' hE => ?_⟩
        have hE0 : H E' = none := s2.free hE
        have nlE : l ≠ E' := by
          intro z
          rw [z, upd_same] at hE
          cases hE
        refine lc_tup (K := K) (a := aa) (xs := xs) (fun i H' => Same H H' ∧ H' l = some (.lst [.bl false]) ∧ ∃ acc, H' E' = some (.lst acc) ∧ DNs (fun b => H b = none ∧ b ≠ E' ∧ b ≠ l) H' acc (plainDs (ds.take i)) ∧ acc.length ≤ i)
          ⟨s2.then_new hE, by rw [upd_ne nlE]; exact upd_same, [], upd_same, by simp only [List.take_zero, plainDs]; exact .nil, Nat.le_refl _⟩ (fun i H' _ q => Same.tup q.1 hsq) ?_ ?_
        · rintro i x H' hi ⟨s3, h3, acc, ha, hn, hz⟩
          obtain ⟨dx, hdx, hx⟩ := dpAll_get hall hi
          have hi1 : i < ds.length := (List.getElem?_eq_some_iff.mp hdx).1
          refine ⟨rfl, ?_⟩
          refine ⟨_, rfl, x, dx, rfl, dp_same s3 dx x hx, okDs_get hok.2 hdx, fun v' H'' s4 hv => ?_⟩
          have hE2 := s4 _ _ ha
          have nn : ∀ b, H' b = none → H b = none ∧ b ≠ E' ∧ b ≠ l := fun b hb => ⟨s3.free hb, (fun z => by rw [z, ha] at hb; cases hb), (fun z => by rw [z, h3] at hb; cases hb)⟩
          refine ⟨acc, hE2, small1000000 (by omega), (s3.trans s4).mut hE0, by rw [upd_ne nlE]; exact s4 _ _ h3, acc ++ [v'], upd_same, ?_, by rw [List.length_append]; show _ + 1 ≤ _; omega⟩
          rw [plainDs_take hdx]
          exact DNs.snoc (DN.mono nn (fun b o hb e => by rw [upd_ne (nn b hb).2.1]; exact e) _ _ hv) (DNs.mono (fun _ z => z) (fun b o hb e => by rw [upd_ne hb.2.1]; exact s4 _ _ e) _ _ hn)
        · rintro H' ⟨s3, h3, acc, ha, hn, hz⟩
          have el : ds.take xs.length = ds := by rw [dpAll_length hall, List.take_length]
          rw [el] at hn
          have hlen : acc.length ≤ 1000 := by have := dpAll_length hall; omega
          refine ⟨l, E', _, _, rfl, rfl, h3, ha, Nat.le_of_lt (small1000000 (by show 1 + _ ≤ _; omega)), fun r hr' => ?_⟩
          have hr0 : H r = none := s3.free hr'
          refine k _ _ (s3.then_new hr') ?_
          simp only [plainD]
          refine .lst hr0 upd_same (.cons (.bl _) (DNs.mono (fun b z => z.1) (fun b o hb e => ?_) _ _ hn))
          rw [upd_ne (ne_of_none e hr')]
          exact e

      | none =>
        cases hd
        refine ⟨_, (pss_cons (ps_if (pt_val (pe_callB call_isiT (by rfl) T.n_isinstance (by decide +kernel) (pa_cons (pv 0) (pa_cons (pe_tup (pa_cons (pe_bltn (v := .ty "tuple") (by rfl) T.n_tuple (by decide +kernel) rfl) (pa_cons (pe_bltn (v := .ty "list") (by rfl) T.n_list (by decide +kernel) rfl) pa_nil))) pa_nil)))) (pss_one ps_never) pss_nil)
    (pss_cons (ps_if (PW.pt (pw_or (pt_cmpR op_isN (pv 0) pe_non (nomark _)) (pw_or1 (pt_val (pe_callB call_isi (by rfl) T.n_isinstance (by decide +kernel) (pa_cons (pv 0) (pa_cons (pe_bltn (v := .ty "bool") (by rfl) T.n_bool (by decide +kernel) rfl) pa_nil))))))) (pss_one (ps_ret (pe_ix ix_list (pe_lst (pa_cons pe_str (pa_cons pe_str (pa_cons pe_str pa_nil)))) (pe_op op_add (pe_callTy call_int1 (by rfl) T.n_int (by decide +kernel) (pa_cons (pe_cmpR op_notN (pv 0) pe_non (nomark _)) pa_nil)) (pe_callTy call_int1 (by rfl) T.n_int (by decide +kernel) (pa_cons (pe_cmpR op_isT (pv 0) pe_bl (nomark _)) pa_nil))) (fun _ _ => rfl)))) pss_nil)
    (pss_cons (ps_if (pt_val (pe_callB call_isiT (by rfl) T.n_isinstance (by decide +kernel) (pa_cons (pv 0) (pa_cons (pe_tup (pa_cons (pe_bltn (v := .ty "int") (by rfl) T.n_int (by decide +kernel) rfl) (pa_cons (pe_bltn (v := .ty "str") (by rfl) T.n_str (by decide +kernel) rfl) pa_nil))) pa_nil)))) (pss_one (ps_ret (pe_lst (pa_cons (pe_callB call_isi (by rfl) T.n_isinstance (by decide +kernel) (pa_cons (pv 0) (pa_cons (pe_bltn (v := .ty "str") (by rfl) T.n_str (by decide +kernel) rfl) pa_nil))) (pa_cons (pv 0) pa_nil))))) pss_nil)
    (pss_one (ps_ret pe_str))))), ?_⟩

        refine ⟨_, rfl, by show 2 ≤ sizeLine; decide, fun p hp => ?_⟩
        refine ⟨_, _, [.ty "tuple", .ty "list"], .type "NoneType", _, _, rfl, upd_same, .cons (.ty "tuple") (.cons (.ty "list") .nil), (.base .non), kit2 (r1 := false) (r2 := false) (by decide +kernel) (by decide +kernel), ?_⟩
        refine ⟨_, rfl, ?_⟩
        refine iteF ?_
        have s1 : Same H (upd H p (.tup [.ty "tuple", .ty "list"])) := Same.new hp

        refine ⟨_, rfl, rfl, _, rfl, ?_⟩
        refine iteT ?_
        refine iteT ?_
        refine ⟨by show 3 ≤ sizeLine; decide, fun l hl => ?_⟩
        refine ⟨_, rfl, rfl, .inr ⟨_, rfl, ?_⟩⟩
        refine ⟨_, rfl, .inr ⟨rfl, _, rfl, .inr ⟨_, rfl, ?_⟩⟩⟩
        refine ⟨_, _, rfl, rfl, ?_⟩
        refine ⟨l, _, _, _, rfl, rfl, SqL.of upd_same, atI_nat' (j := 0) (by decide) rfl, ?_⟩
        exact k _ _ (s1.then_new hl) (by simp only [plainD]; exact .str _)
      | bool b =>
        cases hd
        refine ⟨_, (pss_cons (ps_if (pt_val (pe_callB call_isiT (by rfl) T.n_isinstance (by decide +kernel) (pa_cons (pv 0) (pa_cons (pe_tup (pa_cons (pe_bltn (v := .ty "tuple") (by rfl) T.n_tuple (by decide +kernel) rfl) (pa_cons (pe_bltn (v := .ty "list") (by rfl) T.n_list (by decide +kernel) rfl) pa_nil))) pa_nil)))) (pss_one ps_never) pss_nil)
    (pss_cons (ps_if (PW.pt (pw_or (pt_cmpR op_isN (pv 0) pe_non (nomark _)) (pw_or1 (pt_val (pe_callB call_isi (by rfl) T.n_isinstance (by decide +kernel) (pa_cons (pv 0) (pa_cons (pe_bltn (v := .ty "bool") (by rfl) T.n_bool (by decide +kernel) rfl) pa_nil))))))) (pss_one (ps_ret (pe_ix ix_list (pe_lst (pa_cons pe_str (pa_cons pe_str (pa_cons pe_str pa_nil)))) (pe_op op_add (pe_callTy call_int1 (by rfl) T.n_int (by decide +kernel) (pa_cons (pe_cmpR op_notN (pv 0) pe_non (nomark _)) pa_nil)) (pe_callTy call_int1 (by rfl) T.n_int (by decide +kernel) (pa_cons (pe_cmpR op_isT (pv 0) pe_bl (nomark _)) pa_nil))) (fun _ _ => rfl)))) pss_nil)
    (pss_cons (ps_if (pt_val (pe_callB call_isiT (by rfl) T.n_isinstance (by decide +kernel) (pa_cons (pv 0) (pa_cons (pe_tup (pa_cons (pe_bltn (v := .ty "int") (by rfl) T.n_int (by decide +kernel) rfl) (pa_cons (pe_bltn (v := .ty "str") (by rfl) T.n_str (by decide +kernel) rfl) pa_nil))) pa_nil)))) (pss_one (ps_ret (pe_lst (pa_cons (pe_callB call_isi (by rfl) T.n_isinstance (by decide +kernel) (pa_cons (pv 0) (pa_cons (pe_bltn (v := .ty "str") (by rfl) T.n_str (by decide +kernel) rfl) pa_nil))) (pa_cons (pv 0) pa_nil))))) pss_nil)
    (pss_one (ps_ret pe_str))))), ?_⟩

        refine ⟨_, rfl, by show 2 ≤ sizeLine; decide, fun p hp => ?_⟩
        refine ⟨_, _, [.ty "tuple", .ty "list"], .type "bool", _, _, rfl, upd_same, .cons (.ty "tuple") (.cons (.ty "list") .nil), (.base (.bl _)), kit2 (r1 := false) (r2 := false) (by decide +kernel) (by decide +kernel), ?_⟩
        refine ⟨_, rfl, ?_⟩
        refine iteF ?_
        have s1 : Same H (upd H p (.tup [.ty "tuple", .ty "list"])) := Same.new hp

        refine ⟨_, rfl, rfl, _, rfl, ?_⟩
        refine iteF ?_
        refine ⟨_, rfl, _, .ty "bool", _, _, true, rfl, .ty "bool", .base (.bl _), kit_ty (by decide +kernel), _, rfl, ?_⟩
        refine iteT ?_
        refine ⟨by show 3 ≤ sizeLine; decide, fun l hl => ?_⟩
        refine ⟨_, rfl, rfl, .inr ⟨_, rfl, ?_⟩⟩
        refine ⟨_, rfl, .inl ⟨_, _, rfl, rfl, .inr ⟨_, rfl, ?_⟩⟩⟩
        refine ⟨_, _, rfl, rfl, ?_⟩
        cases b
        · refine ⟨l, _, _, _, rfl, rfl, SqL.of upd_same, atI_nat' (j := 1) (by decide) rfl, ?_⟩
          exact k _ _ (s1.then_new hl) (by simp only [plainD]; exact .str _)
        · refine ⟨l, _, _, _, rfl, rfl, SqL.of upd_same, atI_nat' (j := 2) (by decide) rfl, ?_⟩
          exact k _ _ (s1.then_new hl) (by simp only [plainD]; exact .str _)
      | int i =>
        cases hd
        refine ⟨_, (pss_cons (ps_if (pt_val (pe_callB call_isiT (by rfl) T.n_isinstance (by decide +kernel) (pa_cons (pv 0) (pa_cons (pe_tup (pa_cons (pe_bltn (v := .ty "tuple") (by rfl) T.n_tuple (by decide +kernel) rfl) (pa_cons (pe_bltn (v := .ty "list") (by rfl) T.n_list (by decide +kernel) rfl) pa_nil))) pa_nil)))) (pss_one ps_never) pss_nil)
    (pss_cons (ps_if (PW.pt (pw_or (pt_cmpR op_isN (pv 0) pe_non (nomark _)) (pw_or1 (pt_val (pe_callB call_isi (by rfl) T.n_isinstance (by decide +kernel) (pa_cons (pv 0) (pa_cons (pe_bltn (v := .ty "bool") (by rfl) T.n_bool (by decide +kernel) rfl) pa_nil))))))) (pss_one (ps_ret (pe_ix ix_list (pe_lst (pa_cons pe_str (pa_cons pe_str (pa_cons pe_str pa_nil)))) (pe_op op_add (pe_callTy call_int1 (by rfl) T.n_int (by decide +kernel) (pa_cons (pe_cmpR op_notN (pv 0) pe_non (nomark _)) pa_nil)) (pe_callTy call_int1 (by rfl) T.n_int (by decide +kernel) (pa_cons (pe_cmpR op_isT (pv 0) pe_bl (nomark _)) pa_nil))) (fun _ _ => rfl)))) pss_nil)
    (pss_cons (ps_if (pt_val (pe_callB call_isiT (by rfl) T.n_isinstance (by decide +kernel) (pa_cons (pv 0) (pa_cons (pe_tup (pa_cons (pe_bltn (v := .ty "int") (by rfl) T.n_int (by decide +kernel) rfl) (pa_cons (pe_bltn (v := .ty "str") (by rfl) T.n_str (by decide +kernel) rfl) pa_nil))) pa_nil)))) (pss_one (ps_ret (pe_lst (pa_cons (pe_callB call_isi (by rfl) T.n_isinstance (by decide +kernel) (pa_cons (pv 0) (pa_cons (pe_bltn (v := .ty "str") (by rfl) T.n_str (by decide +kernel) rfl) pa_nil))) (pa_cons (pv 0) pa_nil))))) pss_nil)
    (pss_one (ps_ret pe_str))))), ?_⟩

        refine ⟨_, rfl, by show 2 ≤ sizeLine; decide, fun p hp => ?_⟩
        refine ⟨_, _, [.ty "tuple", .ty "list"], .type "int", _, _, rfl, upd_same, .cons (.ty "tuple") (.cons (.ty "list") .nil), (.base (.int _)), kit2 (r1 := false) (r2 := false) (by decide +kernel) (by decide +kernel), ?_⟩
        refine ⟨_, rfl, ?_⟩
        refine iteF ?_
        have s1 : Same H (upd H p (.tup [.ty "tuple", .ty "list"])) := Same.new hp

        refine ⟨_, rfl, rfl, _, rfl, ?_⟩
        refine iteF ?_
        refine ⟨_, rfl, _, .ty "bool", _, _, false, rfl, .ty "bool", .base (.int _), kit_ty (by decide +kernel), _, rfl, ?_⟩
        refine iteF ?_
        refine ⟨_, rfl, by show 2 ≤ sizeLine; decide, fun q hq => ?_⟩
        refine ⟨_, _, [.ty "int", .ty "str"], .type "int", _, _, rfl, upd_same, .cons (.ty "int") (.cons (.ty "str") .nil), (.base (.int _)), kit2 (r1 := true) (r2 := false) (by decide +kernel) (by decide +kernel), ?_⟩
        refine ⟨_, rfl, ?_⟩
        refine iteT ?_
        have s2 := s1.then_new (o := .tup [.ty "int", .ty "str"]) hq
        refine ⟨_, rfl, _, .ty "str", _, _, false, rfl, .ty "str", .base (.int _), kit_ty (by decide +kernel), ?_⟩
        refine ⟨_, rfl, by show 2 ≤ sizeLine; decide, fun l hl => ?_⟩
        refine k _ _ (s2.then_new hl) ?_
        simp only [plainD]
        exact .lst (s2.free hl) upd_same (.cons (.bl _) (.cons (.int _) .nil))
      | str i =>
        cases hd
        refine ⟨_, (pss_cons (ps_if (pt_val (pe_callB call_isiT (by rfl) T.n_isinstance (by decide +kernel) (pa_cons (pv 0) (pa_cons (pe_tup (pa_cons (pe_bltn (v := .ty "tuple") (by rfl) T.n_tuple (by decide +kernel) rfl) (pa_cons (pe_bltn (v := .ty "list") (by rfl) T.n_list (by decide +kernel) rfl) pa_nil))) pa_nil)))) (pss_one ps_never) pss_nil)
    (pss_cons (ps_if (PW.pt (pw_or (pt_cmpR op_isN (pv 0) pe_non (nomark _)) (pw_or1 (pt_val (pe_callB call_isi (by rfl) T.n_isinstance (by decide +kernel) (pa_cons (pv 0) (pa_cons (pe_bltn (v := .ty "bool") (by rfl) T.n_bool (by decide +kernel) rfl) pa_nil))))))) (pss_one (ps_ret (pe_ix ix_list (pe_lst (pa_cons pe_str (pa_cons pe_str (pa_cons pe_str pa_nil)))) (pe_op op_add (pe_callTy call_int1 (by rfl) T.n_int (by decide +kernel) (pa_cons (pe_cmpR op_notN (pv 0) pe_non (nomark _)) pa_nil)) (pe_callTy call_int1 (by rfl) T.n_int (by decide +kernel) (pa_cons (pe_cmpR op_isT (pv 0) pe_bl (nomark _)) pa_nil))) (fun _ _ => rfl)))) pss_nil)
    (pss_cons (ps_if (pt_val (pe_callB call_isiT (by rfl) T.n_isinstance (by decide +kernel) (pa_cons (pv 0) (pa_cons (pe_tup (pa_cons (pe_bltn (v := .ty "int") (by rfl) T.n_int (by decide +kernel) rfl) (pa_cons (pe_bltn (v := .ty "str") (by rfl) T.n_str (by decide +kernel) rfl) pa_nil))) pa_nil)))) (pss_one (ps_ret (pe_lst (pa_cons (pe_callB call_isi (by rfl) T.n_isinstance (by decide +kernel) (pa_cons (pv 0) (pa_cons (pe_bltn (v := .ty "str") (by rfl) T.n_str (by decide +kernel) rfl) pa_nil))) (pa_cons (pv 0) pa_nil))))) pss_nil)
    (pss_one (ps_ret pe_str))))), ?_⟩

        refine ⟨_, rfl, by show 2 ≤ sizeLine; decide, fun p hp => ?_⟩
        refine ⟨_, _, [.ty "tuple", .ty "list"], .type "str", _, _, rfl, upd_same, .cons (.ty "tuple") (.cons (.ty "list") .nil), (.base (.str _)), kit2 (r1 := false) (r2 := false) (by decide +kernel) (by decide +kernel), ?_⟩
        refine ⟨_, rfl, ?_⟩
        refine iteF ?_
        have s1 : Same H (upd H p (.tup [.ty "tuple", .ty "list"])) := Same.new hp

        refine ⟨_, rfl, rfl, _, rfl, ?_⟩
        refine iteF ?_
        refine ⟨_, rfl, _, .ty "bool", _, _, false, rfl, .ty "bool", .base (.str _), kit_ty (by decide +kernel), _, rfl, ?_⟩
        refine iteF ?_
        refine ⟨_, rfl, by show 2 ≤ sizeLine; decide, fun q hq => ?_⟩
        refine ⟨_, _, [.ty "int", .ty "str"], .type "str", _, _, rfl, upd_same, .cons (.ty "int") (.cons (.ty "str") .nil), (.base (.str _)), kit2 (r1 := false) (r2 := true) (by decide +kernel) (by decide +kernel), ?_⟩
        refine ⟨_, rfl, ?_⟩
        refine iteT ?_
        have s2 := s1.then_new (o := .tup [.ty "int", .ty "str"]) hq
        refine ⟨_, rfl, _, .ty "str", _, _, true, rfl, .ty "str", .base (.str _), kit_ty (by decide +kernel), ?_⟩
        refine ⟨_, rfl, by show 2 ≤ sizeLine; decide, fun l hl => ?_⟩
        refine k _ _ (s2.then_new hl) ?_
        simp only [plainD]
        exact .lst (s2.free hl) upd_same (.cons (.bl _) (.cons (.str _) .nil))
  intro n
  induction n with
  | zero => exact step 0 fun m e => by omega
  | succ n ih => exact step (n + 1) fun m e => by have : m = n := by omega
                                                  subst this
                                                  exact ih
theorem ok_c_law_plain {P : Program} {w : World} {K : PySem.W.Frag} {mg : Str → Option Value} {base : Heap} {a : Ad} (T : Txt K mg a) : FnOk P w K mg base (L2.CX P w) 5 a.f_c_law_plain a.d_c_law_plain ["value"] (sp_c_law_plain K 4) := ok_c_law_plain_n T 4

theorem ok_c_law_served {P : Program} {w : World} {K : PySem.W.Frag} {mg : Str → Option Value} {base : Heap} {a : Ad} (T : Txt K mg a) : FnOk P w K mg base (L2.CX P w) 1 a.f_c_law_served a.d_c_law_served ["jobs", "couriers"] (sp_c_law_served K) := by
  refine T.F_c_law_served.okX sc_c_law_served (fun vs H Q E h => ?_) (fun cdv A outer s H vs Q E hr h => ?_)
  · rw [sp_c_law_served_eq] at h
    walk_at "len"
  · rw [sp_c_law_served_eq] at h
    obtain ⟨q, rs, ps, c, rfl, hq, hr0, hl, c1, c2, ok, hz, k⟩ := h
    refine ⟨_, (pss_cons (ps_set (i := 2) sc_c_law_served.nd (by rfl) (Or.inr rfl) (pe_op op_rep (pe_lst (pa_cons (pe_un un_neg pe_int) pa_nil)) (pv 1)))
    (pss_cons (ps_set (i := 3) sc_c_law_served.nd (by rfl) (Or.inl rfl) (pe_lst pa_nil))
    (pss_cons (ps_for (passes_of rfl) rfl (pi_list (pv 0)) (pg_tup (n := 2) (by rfl) (pgs_cons (pg_name (i := 4) sc_c_law_served.nd (by rfl) (Or.inl rfl)) (pgs_cons (pg_name (i := 5) sc_c_law_served.nd (by rfl) (Or.inl rfl)) pgs_nil))) (pss_cons (ps_set (i := 6) sc_c_law_served.nd (by rfl) (Or.inl rfl) (pe_ix ix_list (pe_lcK (own := [("place", 8)]) (by rfl) sc_c_law_served.nd (pi_range1 (by rfl) T.n_range (pa_cons (pv 1) pa_nil)) (blkOk_by (own := [("place", 8)]) (N := ["jobs", "couriers", "free", "found", "come", "work", "at", "begin", "place"]) (sc := defScope st_c_law_served) (by decide +kernel)) (fun _ _ _ _ _ => (pg_name (i := 8) sc_c_law_served.nd (by rfl) (by first | exact Or.inl rfl | exact Or.inr rfl))) (fun _ _ _ _ _ => (pts_one (pt_cmpR op_eq (pe_ix ix_list (pv 2) (pv 8) (fun _ _ => rfl)) (pe_callB (cr_min rfl) (by rfl) T.n_min (by decide +kernel) (pa_cons (pv 2) pa_nil)) (nomark _)))) (fun _ _ _ _ _ => (pv 8)) (by walk_at "blk") (by walk_at "blk") (by walk_at "blk")) pe_int (fun _ _ => rfl)))
    (pss_cons (ps_set (i := 7) sc_c_law_served.nd (by rfl) (Or.inl rfl) (pe_callB (call_max2 rfl) (by rfl) T.n_max (by decide +kernel) (pa_cons (pv 4) (pa_cons (pe_ix ix_list (pv 2) (pv 6) (fun _ _ => rfl)) pa_nil))))
    (pss_cons (ps_asg (pe_op op_add (pv 7) (pv 5)) (pg_sub (pv 2) (pv 6) set_list))
    (pss_one (ps_expr (pe_bm PySem.F.plainAttrs_list PySem.F.slot_list_append PySem.F.type_list_append mt_append (pv 3) (pa_cons (pe_tup (pa_cons (pv 7) (pa_cons (pe_op op_add (pv 7) (pv 5)) pa_nil))) pa_nil))))))))
    (pss_one (ps_ret (pv 3)))))), ?_⟩
    have rl := rws_len hr0
    obtain ⟨n, rfl⟩ : ∃ n : Nat, c = (n : Int) := ⟨c.toNat, by omega⟩
    rw [Int.toNat_natCast] at k
    have hn1 : 1 ≤ n := by omega
    refine ⟨_, rfl, by show 1 ≤ sizeLine; decide, fun l0 hl0 => ?_⟩
    refine ⟨_, rfl, l0, n, _, rfl, rfl, upd_same, by omega, by omega, Nat.le_of_lt (small1000000 (n := 1 * ((n : Int)).toNat) (by omega)), fun lf hlf => ?_⟩
    rw [rep_ints]
    refine ⟨by show 0 ≤ sizeLine; decide, fun lo hlo => ?_⟩
    have s1 := Same.new (o := .lst [.int (-1000)]) hl0
    have s2 := s1.then_new (o := .lst ((List.replicate n (-1000)).map V.int)) hlf
    have s3 := s2.then_new (o := .lst []) hlo
    have hF0 : (upd (upd H l0 (.lst [.int (-1000)])) lf (.lst ((List.replicate n (-1000)).map V.int)) : Hp) lf = some (.lst ((List.replicate n (-1000)).map V.int)) := upd_same
    have hlf0 : H lf = none := s1.free hlf
    have hlo0 : H lo = none := s2.free hlo
    have nfo : lf ≠ lo := fun w => by rw [← w, hF0] at hlo; cases hlo
    have hF1 : (upd (upd (upd H l0 (.lst [.int (-1000)])) lf (.lst ((List.replicate n (-1000)).map V.int))) lo (.lst []) : Hp) lf = some (.lst ((List.replicate n (-1000)).map V.int)) := by rw [upd_ne nfo]; exact hF0
    have hO0 : (upd (upd (upd H l0 (.lst [.int (-1000)])) lf (.lst ((List.replicate n (-1000)).map V.int))) lo (.lst []) : Hp) lo = some (.lst []) := upd_same
    generalize (upd (upd (upd H l0 (.lst [.int (-1000)])) lf (.lst ((List.replicate n (-1000)).map V.int))) lo (.lst []) : Hp) = H3 at s3 hF1 hO0 ⊢
    refine ⟨_, rfl, q, rfl, ⟨_, s3.seq hq⟩, for_it (walk_list (K := K) (a := q) (xs := rs)) (fun i σ H' => ∃ (F G : List Int) (xs : List V) (D : List (Int × Int)) (v4 v5 v6 v7 : Option V), σ = [some (.ref q), some (.int n), some (.ref lf), some (.ref lo), v4, v5, v6, v7, none] ∧ Same H H' ∧ H' lf = some (.lst (G.map V.int)) ∧ H' lo = some (.lst xs) ∧ Rws K (del (del H' lo) lf) xs D ∧ F.length ≤ n ∧ G.Perm (F ++ List.replicate (n - F.length) (-1000)) ∧ (∀ f ∈ F, -1000 < f) ∧ D.length = i ∧ D ++ srv n F (ps.drop i) = srv n [] ps) ⟨[], _, [], [], none, none, none, none, rfl, s3, hF1, hO0, .nil, Nat.zero_le _, List.Perm.refl _, (fun f hf => by cases hf), rfl, rfl⟩ (fun i σ H' _ ⟨_, _, _, _, _, _, _, _, _, s, _⟩ => s.seq hq) ?_ ?_⟩
    · rintro i v σ H4 H5 hi ⟨F, G, xs, D, v4, v5, v6, v7, rfl, s4, hF, hO, hR, hFl, hG, hFm, hDl, hD⟩ ⟨rfl, hv⟩
      obtain ⟨q1, z, rfl, hzz, hq1⟩ := rws_at hr0 hv
      obtain ⟨hi2, ez⟩ := List.getElem?_eq_some_iff.mp hzz
      rw [List.drop_eq_getElem_cons hi2, ez] at hD
      have xl := rws_len hR
      have zm : z ∈ ps := List.mem_of_getElem? hzz
      have Gl : G.length = n := by rw [hG.length_eq, List.length_append, List.length_replicate]; omega
      have Gn : G ≠ [] := fun w => by rw [w] at Gl; simp at Gl; omega
      obtain ⟨hm1, hm2⟩ := mn_spec Gn
      obtain ⟨at0, hat, hat2⟩ := first_min Gn
      refine ⟨q1, _, rfl, s4.tup hq1, rfl, _, _, rfl, _, _, rfl, rfl, ?_⟩
      refine ⟨_, rfl, n, rfl, by omega, by omega, fun E1 hE1 => ?_⟩
      refine lc_fn (walk_range (lo := 0) (n := ((n : Int)).toNat)) (fun (j : Nat) => if G.getD j 0 = mn G then some (V.int j) else none) (by omega) hE1 (fun _ _ => trivial) ?_ ?_
      · rintro j x H6 H7 R Nx hj s6 ⟨rfl, hx⟩ hRR hNx
        have hx2 : x = V.int (0 + j) := hx
        rw [Int.zero_add] at hx2
        subst hx2
        have hjn : j < G.length := by omega
        have hF7 := s6 _ _ hF
        refine ⟨rfl, ?_⟩
        refine ⟨_, rfl, _, rfl, lf, _, _, _, rfl, rfl, SqL.of hF7, atI_nat' (j := j) rfl (by rw [List.getElem?_map, List.getElem?_eq_getElem hjn]; rfl), _, rfl, lf, G, rfl, SqL.of hF7, by omega, fun m hmG hmin => ?_⟩
        have em : mn G = m := mn_eq hmG hmin
        have eg : G.getD j 0 = G[j] := by rw [List.getD_eq_getElem?_getD, List.getElem?_eq_getElem hjn]; rfl
        rw [eg, em] at hRR hNx
        refine ⟨rfl, _, rfl, ?_⟩
        refine ite2 (fun c => ?_) (fun c => ?_)
        · exact ⟨_, rfl, hRR _ _ (by rw [if_pos (V.int.inj (of_decide_eq_true c))]) (Same.refl _)⟩
        · exact hNx _ (by rw [if_neg (fun w => c (decide_eq_true (congrArg V.int w)))]) (Same.refl _)
      intro H6 s6 hE6
      rw [show ((n : Int)).toNat = G.length by omega] at hE6
      have hl3 := hat
      have hF6 := s6 _ _ hF
      refine ⟨E1, _, _, _, rfl, rfl, SqL.of hE6, atI_nat' (j := 0) rfl hat, ?_⟩
      refine ⟨_, rfl, _, rfl, _, rfl, lf, _, _, _, rfl, rfl, SqL.of hF6, atI_nat' (j := at0) rfl (by rw [List.getElem?_map, hat2]; rfl), _, _, rfl, ?_⟩
      obtain ⟨F', f1, f2, f3, f4⟩ := law_step (F := F) (G := G) (z := z) (ps := ps.drop (i + 1)) (m := mn G) (i := at0) hn1 hFl hG hFm (by have := hz z zm; omega) (ok.2 z zm) hm1 hm2 hat2
      obtain ⟨b, hb⟩ : ∃ b : Int, b = if mn G > z.1 then mn G else z.1 := ⟨_, rfl⟩
      rw [← hb] at f2 f4 ⊢
      have ha0 : at0 < G.length := (List.getElem?_eq_some_iff.mp hat2).1
      refine ⟨_, rfl, _, rfl, _, _, rfl, rfl, _, rfl, _, rfl, lf, _, at0, at0, rfl, rfl, hF6, ?_, ?_⟩
      · exact ixN53 (by rw [List.length_map]; exact ha0)
      have hO6 := s6 _ _ hO
      have hF7 : (upd H6 lf (.lst ((G.map V.int).set at0 (.int (b + z.2)))) : Hp) lf = some (.lst ((G.set at0 (b + z.2)).map V.int)) := by rw [upd_same, List.map_set]
      have hO7 : (upd H6 lf (.lst ((G.map V.int).set at0 (.int (b + z.2)))) : Hp) lo = some (.lst xs) := by rw [upd_ne nfo.symm]; exact hO6
      have k7 : ∀ c o, c ≠ lf → H5 c = some o → (upd H6 lf (.lst ((G.map V.int).set at0 (.int (b + z.2)))) : Hp) c = some o := fun c o e1 e2 => by rw [upd_ne e1]; exact s6 _ _ e2
      generalize (upd H6 lf (.lst ((G.map V.int).set at0 (.int (b + z.2)))) : Hp) = H7 at hF7 hO7 k7 ⊢
      refine ⟨_, rfl, .inl ⟨rfl, _, SqL.of hO7⟩, _, rfl, _, rfl, _, rfl, _, _, rfl, rfl, by show 2 ≤ sizeLine; decide, fun tq htq => ?_⟩
      have ntl : tq ≠ lo := fun w => by rw [w, hO7] at htq; cases htq
      have ntf : tq ≠ lf := fun w => by rw [w, hF7] at htq; cases htq
      refine ⟨lo, _, _, rfl, rfl, by rw [upd_ne ntl.symm]; exact hO7, small1000000 (by omega), ?_⟩
      have k8 : ∀ c o, c ≠ lf → c ≠ lo → H5 c = some o → (upd (upd H7 tq (.tup [.int b, .int (b + z.2)])) lo (.lst (xs ++ [.ref tq])) : Hp) c = some o := fun c o e1 e2 e3 => by
        have := k7 c o e1 e3
        rw [upd_ne e2, upd_ne (ne_of_none this htq)]
        exact this
      refine ⟨F', G.set at0 (b + z.2), xs ++ [.ref tq], D ++ [(b, b + z.2)], _, _, _, _, rfl, fun c o e => ?_, ?_, upd_same, ?_, f1, f2, f3, ?_, ?_⟩
      · exact k8 c o (ne_of_none e hlf0) (ne_of_none e hlo0) (s4 _ _ e)
      · rw [upd_ne nfo, upd_ne ntf.symm]; exact hF7
      · show DpAll K _ (xs ++ [.ref tq]) ((D ++ [(b, b + z.2)]).map pd)
        rw [List.map_append]
        refine dpAll_app (dpAll_same (fun c o e => ?_) _ _ hR) (.cons (dp_pd (z := (b, b + z.2)) (SqT.of (del_some (del_some ?_ ntl) ntf))) .nil)
        · obtain ⟨e1, e2⟩ := del_of e
          obtain ⟨e3, e4⟩ := del_of e1
          exact del_some (del_some (k8 c o e2 e4 e3) e4) e2
        · rw [upd_ne ntl, upd_same]
      · rw [List.length_append, List.length_singleton]; omega
      · rw [← hD, f4, List.append_assoc]; rfl
    rintro σ H4 ⟨F, G, xs, D, v4, v5, v6, v7, rfl, s4, hF, hO, hR, hFl, hG, hFm, hDl, hD⟩
    rw [rl, List.drop_length] at hD
    have e : D = srv n [] ps := by rw [← hD]; exact (List.append_nil _).symm
    subst e
    refine ⟨_, rfl, k H4 lo xs s4 hlo0 hO (dpAll_same (fun c o e => (del_of e).1) _ _ hR)⟩

theorem ok_c_law_spoil_n {P : Program} {w : World} {K : PySem.W.Frag} {mg : Str → Option Value} {base : Heap} {a : Ad} (T : Txt K mg a) : ∀ n, FnOk P w K mg base (L2.CX P w) (n + 1) a.f_c_law_spoil a.d_c_law_spoil ["value"] (sp_c_law_spoil K n) := by
  have step : ∀ n, (∀ m, m + 1 = n → FnOk P w K mg base (L2.CX P w) (m + 1) a.f_c_law_spoil a.d_c_law_spoil ["value"] (sp_c_law_spoil K m)) → FnOk P w K mg base (L2.CX P w) (n + 1) a.f_c_law_spoil a.d_c_law_spoil ["value"] (sp_c_law_spoil K n) := by
    intro n ih
    refine T.F_c_law_spoil.okX sc_c_law_spoil (fun vs H Q E h => ?_) (fun cdv A outer s H vs Q E hr h => ?_)
    · walk_at "len"
    · obtain ⟨v, L, rfl, hd, k⟩ := h
      cases hd with
      | @lst n aa xs LL h0 hz hcs hnL =>
        have IH := ih n rfl
        have hsq : SqL K H aa xs := SqL.of h0
        refine ⟨_, (pss_cons (ps_if (pt_val (pe_callB call_isiT (by rfl) T.n_isinstance (by decide +kernel) (pa_cons (pv 0) (pa_cons (pe_tup (pa_cons (pe_bltn (v := .ty "list") (by rfl) T.n_list (by decide +kernel) rfl) (pa_cons (pe_bltn (v := .ty "tuple") (by rfl) T.n_tuple (by decide +kernel) rfl) pa_nil))) pa_nil)))) (pss_one (ps_for (passes_of rfl) rfl (pi_list (pv 0)) (pg_name (i := 1) sc_c_law_spoil.nd (by rfl) (Or.inl rfl)) (pss_one (ps_expr (pe_call IH (hr.mono (by omega)) (by rfl) T.m_c_law_spoil T.F_c_law_spoil.kp T.b_c_law_spoil .nil passL (pa_cons (pv 1) pa_nil)))))) pss_nil)
    (pss_one (ps_if (pt_val (pe_callB call_isi (by rfl) T.n_isinstance (by decide +kernel) (pa_cons (pv 0) (pa_cons (pe_bltn (v := .ty "list") (by rfl) T.n_list (by decide +kernel) rfl) pa_nil)))) (pss_one (ps_expr (pe_bm PySem.F.plainAttrs_list PySem.F.slot_list_append PySem.F.type_list_append mt_append (pv 0) (pa_cons pe_int pa_nil)))) pss_nil))), ?_⟩

        refine ⟨_, rfl, by show 2 ≤ sizeLine; decide, fun p hp => ?_⟩
        have s1 : Same H (upd H p (.tup [.ty "list", .ty "tuple"])) := Same.new hp
        refine ⟨_, _, [.ty "list", .ty "tuple"], .type "list", _, _, rfl, upd_same, .cons (.ty "list") (.cons (.ty "tuple") .nil), (kind_l (s1.seq hsq)), kit2 (r1 := true) (r2 := false) (by decide +kernel) (by decide +kernel), ?_⟩
        refine ⟨_, rfl, ?_⟩

        refine iteT ?_
        have hsq1 := s1.seq hsq
        have h1 := s1 _ _ h0
        have hcs1 := hcs.same s1
        generalize (upd H p (.tup [.ty "list", .ty "tuple"]) : Hp) = H1 at s1 hsq1 hcs1 h1 ⊢
        refine ⟨_, rfl, aa, rfl, ⟨_, hsq1⟩, for_it (walk_list (K := K) (a := aa) (xs := xs)) (fun i σ H' => ∃ (v1 : Option V) (R : List Addr), σ = [some (.ref aa), v1] ∧ DCs K H' n (xs.drop i) R ∧ (∀ b, b ∈ R → b ∈ LL) ∧ ButP LL H1 H') ⟨none, LL, rfl, hcs1, fun b hb => hb, fun b o _ e => e⟩ (fun i σ H' _ ⟨_, _, _, _, _, m3⟩ => SqL.of (m3 _ _ hnL h1)) ?_ ?_⟩
        · rintro i x σ H2 H3 hi ⟨v1, R, rfl, m1, m2, m3⟩ ⟨rfl, hx⟩
          obtain ⟨N, c1, c2⟩ := spoil_turn hx m1 m2 m3
          refine ⟨_, rfl, x, N, rfl, c1, fun H4 hb4 => ?_⟩
          obtain ⟨R', q1, q2, q3⟩ := c2 H4 hb4
          exact ⟨_, R', rfl, q1, q2, q3⟩
        rintro σ H2 ⟨v1, R, rfl, m1, m2, m3⟩

        have ha2 : H2 aa = some (.lst xs) := m3 _ _ hnL h1
        refine ⟨_, rfl, .ref aa, .ty "list", _, _, true, rfl, .ty "list", kind_l (SqL.of ha2), kit_ty (by decide +kernel), _, rfl, ?_⟩
        refine iteT ?_
        refine ⟨_, rfl, .inl ⟨rfl, _, SqL.of ha2⟩, aa, _, _, rfl, rfl, ha2, small1000000 (by omega), ?_⟩
        refine k _ fun b o nb e => ?_
        rw [upd_ne (fun z => nb (by rw [z]; exact List.mem_cons_self))]
        exact m3 b o (fun q => nb (List.mem_cons_of_mem _ q)) (s1 b o e)

      | @tup n aa xs _ hsq hz hcs =>
        have IH := ih n rfl
        refine ⟨_, (pss_cons (ps_if (pt_val (pe_callB call_isiT (by rfl) T.n_isinstance (by decide +kernel) (pa_cons (pv 0) (pa_cons (pe_tup (pa_cons (pe_bltn (v := .ty "list") (by rfl) T.n_list (by decide +kernel) rfl) (pa_cons (pe_bltn (v := .ty "tuple") (by rfl) T.n_tuple (by decide +kernel) rfl) pa_nil))) pa_nil)))) (pss_one (ps_for (passes_of rfl) rfl (pi_tup (pv 0)) (pg_name (i := 1) sc_c_law_spoil.nd (by rfl) (Or.inl rfl)) (pss_one (ps_expr (pe_call IH (hr.mono (by omega)) (by rfl) T.m_c_law_spoil T.F_c_law_spoil.kp T.b_c_law_spoil .nil passL (pa_cons (pv 1) pa_nil)))))) pss_nil)
    (pss_one (ps_if (pt_val (pe_callB call_isi (by rfl) T.n_isinstance (by decide +kernel) (pa_cons (pv 0) (pa_cons (pe_bltn (v := .ty "list") (by rfl) T.n_list (by decide +kernel) rfl) pa_nil)))) (pss_one ps_never) pss_nil))), ?_⟩

        refine ⟨_, rfl, by show 2 ≤ sizeLine; decide, fun p hp => ?_⟩
        have s1 : Same H (upd H p (.tup [.ty "list", .ty "tuple"])) := Same.new hp
        refine ⟨_, _, [.ty "list", .ty "tuple"], .type "tuple", _, _, rfl, upd_same, .cons (.ty "list") (.cons (.ty "tuple") .nil), (kind_t (s1.tup hsq)), kit2 (r1 := false) (r2 := true) (by decide +kernel) (by decide +kernel), ?_⟩
        refine ⟨_, rfl, ?_⟩

        refine iteT ?_
        have hsq1 := s1.tup hsq
        have hcs1 := hcs.same s1
        generalize (upd H p (.tup [.ty "list", .ty "tuple"]) : Hp) = H1 at s1 hsq1 hcs1 ⊢
        refine ⟨_, rfl, aa, rfl, ⟨_, hsq1⟩, for_it (walk_tup (K := K) (a := aa) (xs := xs)) (fun i σ H' => ∃ (v1 : Option V) (R : List Addr), σ = [some (.ref aa), v1] ∧ DCs K H' n (xs.drop i) R ∧ (∀ b, b ∈ R → b ∈ L) ∧ ButP L H1 H') ⟨none, L, rfl, hcs1, fun b hb => hb, fun b o _ e => e⟩ (fun i σ H' _ ⟨_, _, _, _, _, m3⟩ => m3.tup hcs1.lists hsq1) ?_ ?_⟩
        · rintro i x σ H2 H3 hi ⟨v1, R, rfl, m1, m2, m3⟩ ⟨rfl, hx⟩
          obtain ⟨N, c1, c2⟩ := spoil_turn hx m1 m2 m3
          refine ⟨_, rfl, x, N, rfl, c1, fun H4 hb4 => ?_⟩
          obtain ⟨R', q1, q2, q3⟩ := c2 H4 hb4
          exact ⟨_, R', rfl, q1, q2, q3⟩
        rintro σ H2 ⟨v1, R, rfl, m1, m2, m3⟩

        have hsq2 := m3.tup hcs1.lists hsq1
        refine ⟨_, rfl, .ref aa, .ty "list", _, _, false, rfl, .ty "list", kind_t hsq2, kit_ty (by decide +kernel), _, rfl, ?_⟩
        refine iteF ?_
        exact k _ fun b o nb e => m3 b o nb (s1 b o e)

      | non =>
        refine ⟨_, (pss_cons (ps_if (pt_val (pe_callB call_isiT (by rfl) T.n_isinstance (by decide +kernel) (pa_cons (pv 0) (pa_cons (pe_tup (pa_cons (pe_bltn (v := .ty "list") (by rfl) T.n_list (by decide +kernel) rfl) (pa_cons (pe_bltn (v := .ty "tuple") (by rfl) T.n_tuple (by decide +kernel) rfl) pa_nil))) pa_nil)))) (pss_one ps_never) pss_nil)
    (pss_one (ps_if (pt_val (pe_callB call_isi (by rfl) T.n_isinstance (by decide +kernel) (pa_cons (pv 0) (pa_cons (pe_bltn (v := .ty "list") (by rfl) T.n_list (by decide +kernel) rfl) pa_nil)))) (pss_one ps_never) pss_nil))), ?_⟩

        refine ⟨_, rfl, by show 2 ≤ sizeLine; decide, fun p hp => ?_⟩
        have s1 : Same H (upd H p (.tup [.ty "list", .ty "tuple"])) := Same.new hp
        refine ⟨_, _, [.ty "list", .ty "tuple"], .type "NoneType", _, _, rfl, upd_same, .cons (.ty "list") (.cons (.ty "tuple") .nil), (.base .non), kit2 (r1 := false) (r2 := false) (by decide +kernel) (by decide +kernel), ?_⟩
        refine ⟨_, rfl, ?_⟩

        refine iteF ?_
        refine ⟨_, rfl, _, .ty "list", _, _, false, rfl, .ty "list", (.base .non), kit_ty (by decide +kernel), _, rfl, ?_⟩
        refine iteF ?_
        exact k _ fun b o _ e => s1 b o e
      | bl _ b =>
        refine ⟨_, (pss_cons (ps_if (pt_val (pe_callB call_isiT (by rfl) T.n_isinstance (by decide +kernel) (pa_cons (pv 0) (pa_cons (pe_tup (pa_cons (pe_bltn (v := .ty "list") (by rfl) T.n_list (by decide +kernel) rfl) (pa_cons (pe_bltn (v := .ty "tuple") (by rfl) T.n_tuple (by decide +kernel) rfl) pa_nil))) pa_nil)))) (pss_one ps_never) pss_nil)
    (pss_one (ps_if (pt_val (pe_callB call_isi (by rfl) T.n_isinstance (by decide +kernel) (pa_cons (pv 0) (pa_cons (pe_bltn (v := .ty "list") (by rfl) T.n_list (by decide +kernel) rfl) pa_nil)))) (pss_one ps_never) pss_nil))), ?_⟩

        refine ⟨_, rfl, by show 2 ≤ sizeLine; decide, fun p hp => ?_⟩
        have s1 : Same H (upd H p (.tup [.ty "list", .ty "tuple"])) := Same.new hp
        refine ⟨_, _, [.ty "list", .ty "tuple"], .type "bool", _, _, rfl, upd_same, .cons (.ty "list") (.cons (.ty "tuple") .nil), (.base (.bl _)), kit2 (r1 := false) (r2 := false) (by decide +kernel) (by decide +kernel), ?_⟩
        refine ⟨_, rfl, ?_⟩

        refine iteF ?_
        refine ⟨_, rfl, _, .ty "list", _, _, false, rfl, .ty "list", (.base (.bl _)), kit_ty (by decide +kernel), _, rfl, ?_⟩
        refine iteF ?_
        exact k _ fun b o _ e => s1 b o e
      | int _ i =>
        refine ⟨_, (pss_cons (ps_if (pt_val (pe_callB call_isiT (by rfl) T.n_isinstance (by decide +kernel) (pa_cons (pv 0) (pa_cons (pe_tup (pa_cons (pe_bltn (v := .ty "list") (by rfl) T.n_list (by decide +kernel) rfl) (pa_cons (pe_bltn (v := .ty "tuple") (by rfl) T.n_tuple (by decide +kernel) rfl) pa_nil))) pa_nil)))) (pss_one ps_never) pss_nil)
    (pss_one (ps_if (pt_val (pe_callB call_isi (by rfl) T.n_isinstance (by decide +kernel) (pa_cons (pv 0) (pa_cons (pe_bltn (v := .ty "list") (by rfl) T.n_list (by decide +kernel) rfl) pa_nil)))) (pss_one ps_never) pss_nil))), ?_⟩

        refine ⟨_, rfl, by show 2 ≤ sizeLine; decide, fun p hp => ?_⟩
        have s1 : Same H (upd H p (.tup [.ty "list", .ty "tuple"])) := Same.new hp
        refine ⟨_, _, [.ty "list", .ty "tuple"], .type "int", _, _, rfl, upd_same, .cons (.ty "list") (.cons (.ty "tuple") .nil), (.base (.int _)), kit2 (r1 := false) (r2 := false) (by decide +kernel) (by decide +kernel), ?_⟩
        refine ⟨_, rfl, ?_⟩

        refine iteF ?_
        refine ⟨_, rfl, _, .ty "list", _, _, false, rfl, .ty "list", (.base (.int _)), kit_ty (by decide +kernel), _, rfl, ?_⟩
        refine iteF ?_
        exact k _ fun b o _ e => s1 b o e
      | str _ x =>
        refine ⟨_, (pss_cons (ps_if (pt_val (pe_callB call_isiT (by rfl) T.n_isinstance (by decide +kernel) (pa_cons (pv 0) (pa_cons (pe_tup (pa_cons (pe_bltn (v := .ty "list") (by rfl) T.n_list (by decide +kernel) rfl) (pa_cons (pe_bltn (v := .ty "tuple") (by rfl) T.n_tuple (by decide +kernel) rfl) pa_nil))) pa_nil)))) (pss_one ps_never) pss_nil)
    (pss_one (ps_if (pt_val (pe_callB call_isi (by rfl) T.n_isinstance (by decide +kernel) (pa_cons (pv 0) (pa_cons (pe_bltn (v := .ty "list") (by rfl) T.n_list (by decide +kernel) rfl) pa_nil)))) (pss_one ps_never) pss_nil))), ?_⟩

        refine ⟨_, rfl, by show 2 ≤ sizeLine; decide, fun p hp => ?_⟩
        have s1 : Same H (upd H p (.tup [.ty "list", .ty "tuple"])) := Same.new hp
        refine ⟨_, _, [.ty "list", .ty "tuple"], .type "str", _, _, rfl, upd_same, .cons (.ty "list") (.cons (.ty "tuple") .nil), (.base (.str _)), kit2 (r1 := false) (r2 := false) (by decide +kernel) (by decide +kernel), ?_⟩
        refine ⟨_, rfl, ?_⟩

        refine iteF ?_
        refine ⟨_, rfl, _, .ty "list", _, _, false, rfl, .ty "list", (.base (.str _)), kit_ty (by decide +kernel), _, rfl, ?_⟩
        refine iteF ?_
        exact k _ fun b o _ e => s1 b o e
  intro n
  induction n with
  | zero => exact step 0 fun m e => by omega
  | succ n ih => exact step (n + 1) fun m e => by have : m = n := by omega
                                                  subst this
                                                  exact ih
theorem ok_c_law_spoil {P : Program} {w : World} {K : PySem.W.Frag} {mg : Str → Option Value} {base : Heap} {a : Ad} (T : Txt K mg a) : FnOk P w K mg base (L2.CX P w) 5 a.f_c_law_spoil a.d_c_law_spoil ["value"] (sp_c_law_spoil K 4) := ok_c_law_spoil_n T 4

theorem ok_c_InvalidTable_init {P : Program} {w : World} {K : PySem.W.Frag} {mg : Str → Option Value} {base : Heap} {a : Ad} (T : Txt K mg a) : FnOk P w K mg base (L2.CX P w) 1 a.f_c_InvalidTable_init a.d_c_InvalidTable_init ["self", "what"] (sp_exinit a.C_InvalidTable) := by
  refine T.F_c_InvalidTable_init.okX sc_c_InvalidTable_init (fun vs H Q E h => ?_) (fun cdv A outer s H vs Q E hr h => ?_)
  · walk_at "len"
  · obtain ⟨x, wd, rfl, hx, hl, k⟩ := h
    refine ⟨_, (pss_cons (ps_expr (pe_binit T.bc_SlotError (by rfl) T.m_SlotError (pa_cons (pv 0) (pa_cons (pe_op op_add_str pe_str (pv 1)) pa_nil))))
    (pss_one (ps_ost (pv 0) (pv 1)))), ?_⟩
    refine ⟨_, rfl, _, rfl, _, _, rfl, rfl, by have := small1000000 (n := 1000) (by decide); show _ + wd.length ≤ _; exact Nat.le_of_lt (Nat.lt_of_le_of_lt (Nat.add_le_add_left hl _) (small1000000 (by decide +kernel))), ?_⟩
    refine ⟨x, _, _, rfl, by show 1 ≤ 1000; decide, T.ox_InvalidTable, hx, ?_⟩
    refine ⟨_, rfl, _, rfl, x, _, rfl, T.ox_InvalidTable, T.no_InvalidTable_what, .inl ⟨hx, fun dx n ne => k dx n ne⟩⟩
theorem ok_c_check_queue {P : Program} {w : World} {K : PySem.W.Frag} {mg : Str → Option Value} {base : Heap} {a : Ad} (T : Txt K mg a) : FnOk P w K mg base (L2.CX P w) 3 a.f_c_check_queue a.d_c_check_queue ["jobs", "couriers"] (sp_c_check_queue K a.C_InvalidTable) := by
  have G_c_InvalidTable_init : FnOk P w K mg base (L2.CX P w) 1 a.f_c_InvalidTable_init a.d_c_InvalidTable_init ["self", "what"] (sp_exinit a.C_InvalidTable) := ok_c_InvalidTable_init T
  refine T.F_c_check_queue.okX sc_c_check_queue (fun vs H Q E h => ?_) (fun cdv A outer s H vs Q E hr h => ?_)
  · rw [sp_c_check_queue_eq] at h
    walk_at "len"
  · rw [sp_c_check_queue_eq] at h
    obtain ⟨q, rs, ps, c, rfl, hq, hr0, hl, k0, k1, k2⟩ := h
    refine ⟨_, (pss_cons (ps_if (pt_cmpR op_lt (pv 1) pe_int (nomark _)) (pss_one (ps_raise rfl (takes_of rfl rfl rfl rfl) (pmk_oex T.ox_InvalidTable T.in_InvalidTable T.ti_InvalidTable G_c_InvalidTable_init (hr.mono (by decide)) T.b_c_InvalidTable_init .nil passL (by rfl) T.m_InvalidTable (pa_cons pe_str pa_nil)))) pss_nil)
    (pss_one (ps_if (PW.pt (pw_or (pt_val (pe_callB (cr_any rfl) (by rfl) T.n_any (by decide +kernel) (pa_cons (pe_lcK (own := [("one", 2), ("two", 3)]) (by rfl) sc_c_check_queue.nd (pi_zip (by rfl) T.n_zip (pa_cons (pv 0) (pa_cons (pe_slice sl_list (pv 0) (po_some pe_int) po_none) pa_nil))) (blkOk_by (own := [("one", 2), ("two", 3)]) (N := ["jobs", "couriers", "one", "two", "come", "work"]) (sc := defScope st_c_check_queue) (by decide +kernel)) (fun _ _ _ _ _ => (pg_tup (n := 2) (by rfl) (pgs_cons (pg_name (i := 2) sc_c_check_queue.nd (by rfl) (by first | exact Or.inl rfl | exact Or.inr rfl)) (pgs_cons (pg_name (i := 3) sc_c_check_queue.nd (by rfl) (by first | exact Or.inl rfl | exact Or.inr rfl)) pgs_nil)))) (fun _ _ _ _ _ => pts_nil) (fun _ _ _ _ _ => (pe_cmpR op_gt (pe_ix ix_tup (pv 2) pe_int (fun _ _ => rfl)) (pe_ix ix_tup (pv 3) pe_int (fun _ _ => rfl)) (nomark _))) (by walk_at "blk") (by walk_at "blk") (by walk_at "blk")) pa_nil))) (pw_or1 (pt_val (pe_callB (cr_any rfl) (by rfl) T.n_any (by decide +kernel) (pa_cons (pe_lcK (own := [("come", 4), ("work", 5)]) (by rfl) sc_c_check_queue.nd (pi_list (pv 0)) (blkOk_by (own := [("come", 4), ("work", 5)]) (N := ["jobs", "couriers", "one", "two", "come", "work"]) (sc := defScope st_c_check_queue) (by decide +kernel)) (fun _ _ _ _ _ => (pg_tup (n := 2) (by rfl) (pgs_cons (pg_name (i := 4) sc_c_check_queue.nd (by rfl) (by first | exact Or.inl rfl | exact Or.inr rfl)) (pgs_cons (pg_name (i := 5) sc_c_check_queue.nd (by rfl) (by first | exact Or.inl rfl | exact Or.inr rfl)) pgs_nil)))) (fun _ _ _ _ _ => pts_nil) (fun _ _ _ _ _ => (pe_cmpR op_lt (pv 5) pe_int (nomark _))) (by walk_at "blk") (by walk_at "blk") (by walk_at "blk")) pa_nil)))))) (pss_one (ps_raise rfl (takes_of rfl rfl rfl rfl) (pmk_oex T.ox_InvalidTable T.in_InvalidTable T.ti_InvalidTable G_c_InvalidTable_init (hr.mono (by decide)) T.b_c_InvalidTable_init .nil passL (by rfl) T.m_InvalidTable (pa_cons pe_str pa_nil)))) pss_nil))), ?_⟩
    have bad : ∀ (wd : Str) (H2 : Hp), Same H H2 → wd.length ≤ 1000 → raisesW a.C_InvalidTable wd H E → ([wd] : List Str).length ≤ 1000 ∧ ∀ aa, H2 aa = none → sp_exinit a.C_InvalidTable (.ref aa :: ([.str wd] ++ [])) (upd H2 aa (exo aa a.C_InvalidTable none))
        (fun v H3 => v = .non ∧ ∃ (d : Addr) (fs : List (Str × V)), H3 aa = some (exo aa a.C_InvalidTable (some d)) ∧ H3 d = some (exd d fs) ∧ H2 d = none ∧ E (.ref a.C_InvalidTable) (some d) (upd (del H3 aa) d (.xd fs))) (fun _ _ _ => False) :=
      fun wd H2 s2 hw z => ⟨by show 1 ≤ 1000; decide, raise_ok (z.mono s2) hw⟩

    have rl := rws_len hr0
    refine ⟨_, rfl, _, _, rfl, rfl, _, rfl, ?_⟩
    refine ite2 (fun c1 => ?_) (fun c1 => ?_)
    · exact bad "couriers" H (Same.refl _) (by decide +kernel) (k0 (of_decide_eq_true c1))
    have c1' : 1 ≤ c := by
      have : ¬ c < 1 := fun z => c1 (decide_eq_true z)
      omega
    refine ⟨_, rfl, _, rfl, 1, rfl, q, _, rfl, hq, fun l1 hl1 => ?_⟩
    rw [cut1]
    have s3 := Same.new (o := .lst (rs.drop 1)) hl1
    have hL1 : (upd H l1 (.lst (rs.drop 1)) : Hp) l1 = _ := upd_same
    generalize (upd H l1 (.lst (rs.drop 1)) : Hp) = H3 at s3 hL1 ⊢
    refine ⟨q, l1, rs, rs.drop 1, rfl, s3.seq hq, SqL.of hL1, fun E3 hE3 => ?_⟩
    refine lc_fn (walk_zip (xs := rs) (ys := rs.drop 1) (n := rs.length - 1) (by rw [List.length_drop]; omega)) (fun i => some (.bl (decide ((ps.getD i (0, 0)).1 > (ps.getD (i + 1) (0, 0)).1)))) (by omega) hE3 (fun H s => ⟨s.seq (s3.seq hq), s.seq (SqL.of hL1)⟩) ?_ ?_
    · rintro i v H4 H5 R N hi s4 ⟨T1, x1, x2, rfl, hT1, rfl, hx1, hx2⟩ hR hN
      have hx2 : (rs.drop 1)[i]? = some x2 := hx2
      rw [List.getElem?_drop, Nat.add_comm] at hx2
      obtain ⟨q1, z1, rfl, hz1, hq1⟩ := rws_at hr0 hx1
      obtain ⟨q2, z2, rfl, hz2, hq2⟩ := rws_at hr0 hx2
      have sx := (s3.trans s4).trans (Same.new (o := .tup [.ref q1, .ref q2]) hT1)
      refine ⟨T1, _, rfl, SqT.of upd_same, rfl, _, _, rfl, _, _, rfl, rfl, rfl, ?_⟩
      refine ⟨_, rfl, q1, _, _, _, rfl, rfl, sx.tup hq1, rfl, _, rfl, q2, _, _, _, rfl, rfl, sx.tup hq2, rfl, _, _, rfl, rfl, hR _ _ ?_ (Same.new hT1)⟩
      rw [List.getD_eq_getElem?_getD, List.getD_eq_getElem?_getD, hz1, hz2]
      rfl
    intro H4 s4 hE4
    rw [fm_some, rl] at hE4
    have eb : (List.range (ps.length - 1)).map (fun i => V.bl (decide ((ps.getD i (0, 0)).1 > (ps.getD (i + 1) (0, 0)).1))) = (adjL (fun a b : Int × Int => decide (a.1 > b.1)) ps).map V.bl := by
      rw [← adj_range (fun a b : Int × Int => decide (a.1 > b.1)) (0, 0) ps, List.map_map]
      rfl
    rw [eb] at hE4
    have s5 := s3.trans s4
    refine ⟨E3, adjL (fun a b : Int × Int => decide (a.1 > b.1)) ps, rfl, SqL.of hE4, ?_⟩
    refine ⟨_, rfl, ?_⟩
    refine ite2 (fun c2 => ?_) (fun c2 => ?_)
    · exact bad "jobs" H4 s5 (by decide +kernel) (k1 c1' (by unfold badQ; rw [c2]; rfl))
    have c2' : (adjL (fun a b : Int × Int => decide (a.1 > b.1)) ps).any id = false := by simpa using c2
    refine ⟨_, rfl, q, rfl, ⟨_, s5.seq hq⟩, fun E5 hE5 => ?_⟩
    refine lc_fn (walk_list (xs := rs)) (fun i => some (.bl (decide ((ps.getD i (0, 0)).2 < 0)))) (by omega) hE5 (fun H s => s.seq (s5.seq hq)) ?_ ?_
    · rintro i v H6 H7 R N hi s6 ⟨rfl, hv⟩ hR hN
      obtain ⟨q1, z1, rfl, hz1, hq1⟩ := rws_at hr0 hv
      refine ⟨q1, _, rfl, (s5.trans s6).tup hq1, rfl, _, _, rfl, _, _, rfl, rfl, rfl, ?_⟩
      refine ⟨_, rfl, _, _, rfl, rfl, hR _ _ ?_ (Same.refl _)⟩
      rw [List.getD_eq_getElem?_getD, hz1]
      rfl
    intro H6 s6 hE6
    rw [fm_some, rl, range_at ps (fun z => V.bl (decide (z.2 < 0))) _ (fun i z e => by rw [List.getD_eq_getElem?_getD, e]; rfl)] at hE6
    refine ⟨E5, ps.map fun z => decide (z.2 < 0), rfl, SqL.of (by rw [hE6, List.map_map]; rfl), ?_⟩
    have s7 := s5.trans s6
    refine ⟨_, rfl, ?_⟩
    refine ite2 (fun c3 => ?_) (fun c3 => ?_)
    · exact bad "jobs" H6 s7 (by decide +kernel) (k1 c1' (by unfold badQ; rw [c3, Bool.or_true]))
    have c3' : (ps.map fun z => decide (z.2 < 0)).any id = false := by simpa using c3
    exact k2 c1' (by unfold badQ; rw [c2', c3']; rfl) H6 s7
theorem ok_c_served {P : Program} {w : World} {K : PySem.W.Frag} {mg : Str → Option Value} {base : Heap} {a : Ad} (T : Txt K mg a) : FnOk P w K mg base (L2.CX P w) 4 a.f_c_served a.d_c_served ["jobs", "couriers"] (sp_c_served K a.C_InvalidTable) := by
  have G_c_check_queue : FnOk P w K mg base (L2.CX P w) 3 a.f_c_check_queue a.d_c_check_queue ["jobs", "couriers"] (sp_c_check_queue K a.C_InvalidTable) := ok_c_check_queue T
  refine T.F_c_served.okX sc_c_served (fun vs H Q E h => ?_) (fun cdv A outer s H vs Q E hr h => ?_)
  · rw [sp_c_served_eq] at h
    walk_at "len"
  · rw [sp_c_served_eq] at h
    obtain ⟨q, rs, ps, c, rfl, hq, hr0, hl, k0, k1, k2⟩ := h
    refine ⟨_, (pss_cons (ps_expr (pe_callS G_c_check_queue (hr.mono (by decide)) (by rfl) T.m_c_check_queue T.F_c_check_queue.kp T.b_c_check_queue (fun σ => passAt (takes_of rfl rfl rfl rfl) σ) (pa_cons (pv 0) (pa_cons (pv 1) pa_nil))))
    (pss_cons (ps_set (i := 2) sc_c_served.nd (by rfl) (Or.inl rfl) (pe_lst pa_nil))
    (pss_cons (ps_set (i := 3) sc_c_served.nd (by rfl) (Or.inl rfl) (pe_lst pa_nil))
    (pss_cons (ps_for (passes_of rfl) rfl (pi_list (pv 0)) (pg_tup (n := 2) (by rfl) (pgs_cons (pg_name (i := 4) sc_c_served.nd (by rfl) (Or.inl rfl)) (pgs_cons (pg_name (i := 5) sc_c_served.nd (by rfl) (Or.inl rfl)) pgs_nil))) (pss_cons (ps_set (i := 6) sc_c_served.nd (by rfl) (Or.inl rfl) (pv 4))
    (Evl.pss_cut (ps_if (pt_cmpR op_eq (pe_callB call_len_seq (by rfl) T.n_len (by decide +kernel) (pa_cons (pv 2) pa_nil)) (pv 1) (nomark _)) (pss_cons (ps_set (i := 2) sc_c_served.nd (by rfl) (Or.inl rfl) (pe_callB cr_sortedI (by rfl) T.n_sorted (by decide +kernel) (pa_cons (pv 2) pa_nil)))
    (pss_one (ps_set (i := 6) sc_c_served.nd (by rfl) (Or.inl rfl) (pe_callB (call_max2 rfl) (by rfl) T.n_max (by decide +kernel) (pa_cons (pv 4) (pa_cons (pe_bm PySem.F.plainAttrs_list PySem.F.slot_list_pop PySem.F.type_list_pop mt_popAt (pv 2) (pa_cons pe_int pa_nil)) pa_nil)))))) pss_nil)
    (pss_cons (ps_expr (pe_bm PySem.F.plainAttrs_list PySem.F.slot_list_append PySem.F.type_list_append mt_append (pv 2) (pa_cons (pe_op op_add (pv 6) (pv 5)) pa_nil)))
    (pss_one (ps_expr (pe_bm PySem.F.plainAttrs_list PySem.F.slot_list_append PySem.F.type_list_append mt_append (pv 3) (pa_cons (pe_tup (pa_cons (pv 6) (pa_cons (pe_op op_add (pv 6) (pv 5)) pa_nil))) pa_nil))))))))
    (pss_one (ps_ret (pv 3))))))), ?_⟩
    have rl := rws_len hr0
    refine ⟨_, rfl, _, rfl, sp_c_check_queue_use ⟨q, rs, ps, c, rfl, hq, hr0, hl, k0, k1, fun c1 okb H1 s1 => ?_⟩⟩
    have k2 := k2 c1 okb
    obtain ⟨n, rfl⟩ : ∃ n : Nat, c = (n : Int) := ⟨c.toNat, by omega⟩
    rw [Int.toNat_natCast] at k2
    have hn1 : 1 ≤ n := by omega
    have okq := okQ_of okb
    refine ⟨by show 0 ≤ sizeLine; decide, fun lf hlf => ?_⟩
    refine ⟨by show 0 ≤ sizeLine; decide, fun lo hlo => ?_⟩
    have s2 := s1.then_new (o := .lst []) hlf
    have s3 := s2.then_new (o := .lst []) hlo
    have nfo : lf ≠ lo := fun w => by rw [← w, upd_same] at hlo; cases hlo
    have hF0 : (upd (upd H1 lf (.lst [])) lo (.lst []) : Hp) lf = some (.lst []) := by rw [upd_ne nfo]; exact upd_same
    have hO0 : (upd (upd H1 lf (.lst [])) lo (.lst []) : Hp) lo = some (.lst []) := upd_same
    have hlf0 : H lf = none := s1.free hlf
    have hlo0 : H lo = none := s2.free hlo
    generalize (upd (upd H1 lf (.lst [])) lo (.lst []) : Hp) = H3 at s3 hF0 hO0 ⊢
    refine ⟨_, rfl, q, rfl, ⟨_, s3.seq hq⟩, for_it (walk_list (K := K) (a := q) (xs := rs)) (fun i σ H' => ∃ (l1 : Addr) (F : List Int) (xs : List V) (D : List (Int × Int)) (v4 v5 v6 : Option V), σ = [some (.ref q), some (.int n), some (.ref l1), some (.ref lo), v4, v5, v6] ∧ Same H H' ∧ H l1 = none ∧ l1 ≠ lo ∧ H' l1 = some (.lst (F.map V.int)) ∧ H' lo = some (.lst xs) ∧ Rws K (del (del H' lo) l1) xs D ∧ F.length ≤ i ∧ D.length = i ∧ D ++ srv n F (ps.drop i) = srv n [] ps) ⟨lf, [], [], [], none, none, none, rfl, s3, hlf0, nfo, hF0, hO0, .nil, Nat.zero_le _, rfl, rfl⟩ (fun i σ H' _ ⟨_, _, _, _, _, _, _, _, s, _⟩ => s.seq hq) ?_ ?_⟩
    · rintro i v σ H4 H5 hi ⟨l1, F, xs, D, v4, v5, v6, rfl, s4, hl1, nlo, hF, hO, hR, hFl, hDl, hD⟩ ⟨rfl, hv⟩
      obtain ⟨q1, z, rfl, hz, hq1⟩ := rws_at hr0 hv
      obtain ⟨hi2, ez⟩ := List.getElem?_eq_some_iff.mp hz
      rw [List.drop_eq_getElem_cons hi2, ez] at hD
      have xl := rws_len hR
      refine ⟨q1, _, rfl, s4.tup hq1, rfl, _, _, rfl, _, _, rfl, rfl, ?_⟩
      refine ⟨_, rfl, ?_⟩
      refine ⟨fun σ H' => ∃ (l2 : Addr) (F2 : List Int) (b : Int), σ = [some (.ref q), some (.int n), some (.ref l2), some (.ref lo), some (.int z.1), some (.int z.2), some (.int b)] ∧ Same (del H5 l1) H' ∧ (l2 = l1 ∨ H5 l2 = none) ∧ H' l2 = some (.lst (F2.map V.int)) ∧ F2.length ≤ i ∧ srv n F (z :: ps.drop (i + 1)) = (b, b + z.2) :: srv n (F2 ++ [b + z.2]) (ps.drop (i + 1)), ?_, ?_⟩
      · refine ⟨_, rfl, l1, _, rfl, .inl (SqL.of hF), _, rfl, rfl, _, rfl, ?_⟩
        refine ite2 (fun c2 => ?_) (fun c2 => ?_)
        · have hFn : F.length = n := by
            have := V.int.inj (of_decide_eq_true c2)
            rw [List.length_map] at this
            omega
          refine ⟨_, rfl, l1, F, rfl, SqL.of hF, fun F' p1 hp hs hp1 => ?_⟩
          have hP1 : (upd H5 p1 (.lst (F'.map V.int)) : Hp) p1 = some (.lst (F'.map V.int)) := upd_same
          cases F' with
          | nil => have := hp.length_eq; rw [hFn] at this; simp at this; omega
          | cons m t =>
            refine ⟨_, rfl, _, rfl, .inl ⟨rfl, _, SqL.of hP1⟩, p1, _, 0, 0, .int m, rfl, rfl, hP1, by decide, by decide, by simp [seqIndex?]; try omega, rfl, _, _, rfl, ?_⟩
            refine ⟨p1, t, (if m > z.1 then m else z.1), rfl, ?_, .inr hp1, upd_same, ?_, ?_⟩
            · intro b o e
              obtain ⟨e1, e2⟩ := del_of e
              have nb := ne_of_none e1 hp1
              rw [upd_ne nb, upd_ne nb]
              exact e1
            · have := hp.length_eq; simp at this; omega
            · exact srv_full (F := F) (m := m) hp hs hFn
        · have hFn : F.length ≠ n := fun w => c2 (decide_eq_true (by rw [List.length_map, w]))
          exact ⟨l1, F, z.1, rfl, fun _ _ e => (del_of e).1, .inl rfl, hF, hFl, srv_room hFn⟩
      rintro σ H6 ⟨l2, F2, b, rfl, s6, hl2, hF2, hF2l, hD2⟩
      have n2o : l2 ≠ lo := by
        rcases hl2 with e | e
        · rw [e]; exact nlo
        · exact fun w => by rw [w, hO] at e; cases e
      have hl20 : H l2 = none := by
        rcases hl2 with e | e
        · rw [e]; exact hl1
        · exact s4.free e
      have hO6 : H6 lo = some (.lst xs) := s6 _ _ (del_some hO nlo.symm)
      refine ⟨_, rfl, .inl ⟨rfl, _, SqL.of hF2⟩, _, rfl, _, rfl, _, _, rfl, rfl, l2, _, _, rfl, rfl, hF2, small1000000 (by rw [List.length_map]; omega), ?_⟩
      have hF7 : (upd H6 l2 (.lst (F2.map V.int ++ [V.int (b + z.2)])) : Hp) l2 = some (.lst ((F2 ++ [b + z.2]).map V.int)) := by rw [upd_same, List.map_append]; rfl
      have hO7 : (upd H6 l2 (.lst (F2.map V.int ++ [V.int (b + z.2)])) : Hp) lo = some (.lst xs) := by rw [upd_ne n2o.symm]; exact hO6
      have k7 : ∀ b' o, b' ≠ l1 → b' ≠ l2 → H5 b' = some o → (upd H6 l2 (.lst (F2.map V.int ++ [V.int (b + z.2)])) : Hp) b' = some o := fun b' o e1 e2 e3 => by rw [upd_ne e2]; exact s6 _ _ (del_some e3 e1)
      generalize (upd H6 l2 (.lst (F2.map V.int ++ [V.int (b + z.2)])) : Hp) = H7 at hF7 hO7 k7 ⊢
      refine ⟨_, rfl, .inl ⟨rfl, _, SqL.of hO7⟩, _, rfl, _, rfl, _, rfl, _, _, rfl, rfl, by show 2 ≤ sizeLine; decide, fun tq htq => ?_⟩
      have ntl : tq ≠ lo := fun w => by rw [w, hO7] at htq; cases htq
      have nt2 : tq ≠ l2 := fun w => by rw [w, hF7] at htq; cases htq
      refine ⟨lo, _, _, rfl, rfl, by rw [upd_ne ntl.symm]; exact hO7, small1000000 (by omega), ?_⟩
      have k8 : ∀ b' o, b' ≠ l1 → b' ≠ l2 → b' ≠ lo → H5 b' = some o → (upd (upd H7 tq (.tup [.int b, .int (b + z.2)])) lo (.lst (xs ++ [.ref tq])) : Hp) b' = some o := fun b' o e1 e2 e3 e4 => by
        have := k7 b' o e1 e2 e4
        rw [upd_ne e3, upd_ne (ne_of_none this htq)]
        exact this
      refine ⟨l2, F2 ++ [b + z.2], xs ++ [.ref tq], D ++ [(b, b + z.2)], _, _, _, rfl, fun b' o e => ?_, hl20, n2o, ?_, upd_same, ?_, ?_, ?_, ?_⟩
      · exact k8 b' o (ne_of_none e hl1) (ne_of_none e hl20) (ne_of_none e hlo0) (s4 _ _ e)
      · rw [upd_ne n2o, upd_ne nt2.symm]; exact hF7
      · show DpAll K _ (xs ++ [.ref tq]) ((D ++ [(b, b + z.2)]).map pd)
        rw [List.map_append]
        refine dpAll_app (dpAll_same (fun c o e => ?_) _ _ hR) (.cons (dp_pd (z := (b, b + z.2)) (SqT.of (del_some (del_some ?_ ntl) nt2))) .nil)
        · obtain ⟨e1, e2⟩ := del_of e
          obtain ⟨e3, e4⟩ := del_of e1
          have n2 : c ≠ l2 := by
            rcases hl2 with w | w
            · rw [w]; exact e2
            · exact ne_of_none e3 w
          exact del_some (del_some (k8 c o e2 n2 e4 e3) e4) n2
        · rw [upd_ne ntl, upd_same]
      · rw [List.length_append, List.length_singleton]; omega
      · rw [List.length_append, List.length_singleton]; omega
      · rw [← hD, hD2, List.append_assoc]; rfl
    rintro σ H4 ⟨l1, F, xs, D, v4, v5, v6, rfl, s4, hl1, nlo, hF, hO, hR, hFl, hDl, hD⟩
    rw [rl, List.drop_length] at hD
    have e : D = srv n [] ps := by rw [← hD]; exact (List.append_nil _).symm
    subst e
    refine ⟨_, rfl, k2 H4 lo xs s4 hlo0 hO (dpAll_same (fun c o e => (del_of e).1) _ _ hR)⟩
theorem ok_c_greatest_queue {P : Program} {w : World} {K : PySem.W.Frag} {mg : Str → Option Value} {base : Heap} {a : Ad} (T : Txt K mg a) : FnOk P w K mg base (L2.CX P w) 5 a.f_c_greatest_queue a.d_c_greatest_queue ["jobs", "couriers"] (sp_c_greatest_queue K a.C_InvalidTable) := by
  have G_c_served : FnOk P w K mg base (L2.CX P w) 4 a.f_c_served a.d_c_served ["jobs", "couriers"] (sp_c_served K a.C_InvalidTable) := ok_c_served T
  refine T.F_c_greatest_queue.okX sc_c_greatest_queue (fun vs H Q E h => ?_) (fun cdv A outer s H vs Q E hr h => ?_)
  · rw [sp_c_greatest_queue_eq] at h
    walk_at "len"
  · rw [sp_c_greatest_queue_eq] at h
    obtain ⟨q, rs, ps, c, rfl, hq, hr0, hl, k0, k1, k2⟩ := h
    refine ⟨_, (pss_cons (ps_set (i := 2) sc_c_greatest_queue.nd (by rfl) (Or.inl rfl) (pe_callS G_c_served (hr.mono (by decide)) (by rfl) T.m_c_served T.F_c_served.kp T.b_c_served (fun σ => passAt (takes_of rfl rfl rfl rfl) σ) (pa_cons (pv 0) (pa_cons (pv 1) pa_nil))))
    (pss_cons (ps_set (i := 3) sc_c_greatest_queue.nd (by rfl) (Or.inl rfl) pe_int)
    (pss_cons (ps_for (passes_of rfl) rfl (pi_list (pv 0)) (pg_tup (n := 2) (by rfl) (pgs_cons (pg_name (i := 4) sc_c_greatest_queue.nd (by rfl) (Or.inr rfl)) (pgs_cons (pg_name (i := 5) sc_c_greatest_queue.nd (by rfl) (Or.inl rfl)) pgs_nil))) (pss_one (ps_set (i := 3) sc_c_greatest_queue.nd (by rfl) (Or.inl rfl) (pe_callB (call_max2 rfl) (by rfl) T.n_max (by decide +kernel) (pa_cons (pv 3) (pa_cons (pe_callB call_len_seq (by rfl) T.n_len (by decide +kernel) (pa_cons (pe_lcK (own := [("job", 6), ("begin", 7), ("end", 8)]) (by rfl) sc_c_greatest_queue.nd (pi_zip (by rfl) T.n_zip (pa_cons (pv 0) (pa_cons (pv 2) pa_nil))) (blkOk_by (own := [("job", 6), ("begin", 7), ("end", 8)]) (N := ["jobs", "couriers", "rows", "top", "come", "work", "job", "begin", "end"]) (sc := defScope st_c_greatest_queue) (by decide +kernel)) (fun _ _ _ _ _ => (pg_tup (n := 2) (by rfl) (pgs_cons (pg_name (i := 6) sc_c_greatest_queue.nd (by rfl) (by first | exact Or.inl rfl | exact Or.inr rfl)) (pgs_cons (pg_tup (n := 2) (by rfl) (pgs_cons (pg_name (i := 7) sc_c_greatest_queue.nd (by rfl) (by first | exact Or.inl rfl | exact Or.inr rfl)) (pgs_cons (pg_name (i := 8) sc_c_greatest_queue.nd (by rfl) (by first | exact Or.inl rfl | exact Or.inr rfl)) pgs_nil))) pgs_nil)))) (fun _ _ _ _ _ => (pts_one (pt_chain op_le op_lt (pe_ix ix_tup (pv 6) pe_int (fun _ _ => rfl)) (pv 4) (pv 7)))) (fun _ _ _ _ _ => pe_int) (by walk_at "blk") (by walk_at "blk") (by walk_at "blk")) pa_nil)) pa_nil))))))
    (pss_one (ps_ret (pv 3)))))), ?_⟩
    have rl := rws_len hr0
    refine ⟨_, rfl, _, rfl, sp_c_served_use ⟨q, rs, ps, c, rfl, hq, hr0, hl, k0, k1, fun c1 okb H1 lo xs s1 hlo0 hO hR => ?_⟩⟩
    have k2 := k2 c1 okb
    have hR1 : Rws K H1 xs _ := dpAll_same (fun c o e => (del_of e).1) _ _ hR
    have xl := rws_len hR1
    rw [srv_len] at xl
    refine ⟨_, rfl, q, rfl, ⟨_, s1.seq hq⟩, for_it (walk_list (K := K) (a := q) (xs := rs)) (fun i σ H' => ∃ (v4 v5 : Option V), σ = [some (.ref q), some (.int c), some (.ref lo), some (.int (topQ c.toNat ps i)), v4, v5] ++ List.replicate 3 none ∧ Same H1 H') ⟨none, none, rfl, Same.refl _⟩ (fun i σ H' _ ⟨_, _, _, s⟩ => s.seq (s1.seq hq)) ?_ ?_⟩
    · rintro i v σ H2 H3 hi ⟨v4, v5, rfl, s2⟩ ⟨rfl, hv⟩
      obtain ⟨q0, z0, rfl, hz0, hq0⟩ := rws_at hr0 hv
      have sx := s1.trans s2
      refine ⟨q0, _, rfl, sx.tup hq0, rfl, _, _, rfl, _, _, rfl, rfl, ?_⟩
      refine ⟨_, rfl, _, rfl, _, rfl, q, lo, rs, xs, rfl, sx.seq hq, SqL.of (s2 _ _ hO), fun E3 hE3 => ?_⟩
      refine lc_fn (walk_zip (xs := rs) (ys := xs) (n := rs.length) (by omega)) (fun j => if (decide ((ps.getD j (0, 0)).1 ≤ (ps.getD i (0, 0)).1) && decide ((ps.getD i (0, 0)).1 < ((srv c.toNat [] ps).getD j (0, 0)).1)) = true then some (V.int 1) else none) (by omega) hE3 (fun H s => ⟨s.seq (sx.seq hq), s.seq (SqL.of (s2 _ _ hO))⟩) ?_ ?_
      · rintro j v H4 H5 R N hj s4 ⟨T1, x1, x2, rfl, hT1, rfl, hx1, hx2⟩ hR hN
        obtain ⟨q1, z1, rfl, hz1, hq1⟩ := rws_at hr0 hx1
        obtain ⟨q2, z2, rfl, hz2, hq2⟩ := rws_at hR1 hx2
        have sT := Same.new (o := .tup [.ref q1, .ref q2]) hT1
        have sy := (sx.trans s4).trans sT
        refine ⟨T1, _, rfl, SqT.of upd_same, rfl, _, _, rfl, _, _, rfl, q2, _, rfl, ((s2.trans s4).trans sT).tup hq2, rfl, _, _, rfl, _, _, rfl, rfl, rfl, rfl, ?_⟩
        have e1 : (ps.getD j (0, 0)) = z1 := by rw [List.getD_eq_getElem?_getD, hz1]; rfl
        have e2 : ((srv c.toNat [] ps).getD j (0, 0)) = z2 := by rw [List.getD_eq_getElem?_getD, hz2]; rfl
        have e3 : (ps.getD i (0, 0)) = z0 := by rw [List.getD_eq_getElem?_getD, hz0]; rfl
        rw [e1, e2, e3] at hR hN
        refine ⟨_, rfl, q1, _, _, _, rfl, rfl, sy.tup hq1, rfl, _, rfl, _, _, rfl, rfl, _, rfl, ?_⟩
        refine ite2 (fun d1 => ?_) (fun d1 => ?_)
        · refine ⟨_, rfl, _, _, rfl, rfl, _, rfl, ?_⟩
          refine ite2 (fun d2 => ?_) (fun d2 => ?_)
          · exact hR _ _ (by rw [d1, d2]; rfl) sT
          · exact hN _ (by rw [d1, Bool.true_and, if_neg d2]) sT
        · refine ⟨_, rfl, ?_⟩
          exact hN _ (by rw [Bool.eq_false_iff.mpr d1]; rfl) sT
      intro H4 s4 hE4
      have s5 := s2.trans s4
      refine ⟨E3, _, rfl, .inl (SqL.of hE4), _, _, rfl, ?_⟩
      rw [cnt_fm, rl, nat_max, ← topQ_succ]
      exact ⟨_, _, rfl, s5⟩
    rintro σ H2 ⟨v4, v5, rfl, s2⟩
    rw [rl]
    exact ⟨_, rfl, k2 H2 (s1.trans s2)⟩
theorem ok_c_waits {P : Program} {w : World} {K : PySem.W.Frag} {mg : Str → Option Value} {base : Heap} {a : Ad} (T : Txt K mg a) : FnOk P w K mg base (L2.CX P w) 5 a.f_c_waits a.d_c_waits ["jobs", "couriers"] (sp_c_waits K a.C_InvalidTable) := by
  have G_c_served : FnOk P w K mg base (L2.CX P w) 4 a.f_c_served a.d_c_served ["jobs", "couriers"] (sp_c_served K a.C_InvalidTable) := ok_c_served T
  refine T.F_c_waits.okX sc_c_waits (fun vs H Q E h => ?_) (fun cdv A outer s H vs Q E hr h => ?_)
  · rw [sp_c_waits_eq] at h
    walk_at "len"
  · rw [sp_c_waits_eq] at h
    obtain ⟨q, rs, ps, c, rfl, hq, hr0, hl, k0, k1, k2⟩ := h
    refine ⟨_, (pss_one (ps_ret (pe_lcK (own := [("job", 2), ("begin", 3), ("end", 4)]) (by rfl) sc_c_waits.nd (pi_zip (by rfl) T.n_zip (pa_cons (pv 0) (pa_cons (pe_callS G_c_served (hr.mono (by decide)) (by rfl) T.m_c_served T.F_c_served.kp T.b_c_served (fun σ => passAt (takes_of rfl rfl rfl rfl) σ) (pa_cons (pv 0) (pa_cons (pv 1) pa_nil))) pa_nil))) (blkOk_by (own := [("job", 2), ("begin", 3), ("end", 4)]) (N := ["jobs", "couriers", "job", "begin", "end"]) (sc := defScope st_c_waits) (by decide +kernel)) (fun _ _ _ _ _ => (pg_tup (n := 2) (by rfl) (pgs_cons (pg_name (i := 2) sc_c_waits.nd (by rfl) (by first | exact Or.inl rfl | exact Or.inr rfl)) (pgs_cons (pg_tup (n := 2) (by rfl) (pgs_cons (pg_name (i := 3) sc_c_waits.nd (by rfl) (by first | exact Or.inl rfl | exact Or.inr rfl)) (pgs_cons (pg_name (i := 4) sc_c_waits.nd (by rfl) (by first | exact Or.inl rfl | exact Or.inr rfl)) pgs_nil))) pgs_nil)))) (fun _ _ _ _ _ => pts_nil) (fun _ _ _ _ _ => (pe_op op_sub (pv 3) (pe_ix ix_tup (pv 2) pe_int (fun _ _ => rfl)))) (by walk_at "blk") (by walk_at "blk") (by walk_at "blk")))), ?_⟩
    have rl := rws_len hr0
    refine ⟨_, rfl, _, rfl, _, rfl, sp_c_served_use ⟨q, rs, ps, c, rfl, hq, hr0, hl, k0, k1, fun c1 okb H1 lo xs s1 hlo0 hO hR => ?_⟩⟩
    have k2 := k2 c1 okb
    have hR1 : Rws K H1 xs _ := dpAll_same (fun c o e => (del_of e).1) _ _ hR
    have xl := rws_len hR1
    rw [srv_len] at xl
    refine ⟨q, lo, rs, xs, rfl, s1.seq hq, SqL.of hO, fun E3 hE3 => ?_⟩
    refine lc_fn (walk_zip (xs := rs) (ys := xs) (n := rs.length) (by omega)) (fun i => some (.int (((srv c.toNat [] ps).getD i (0, 0)).1 - (ps.getD i (0, 0)).1))) (by omega) hE3 (fun H s => ⟨s.seq (s1.seq hq), s.seq (SqL.of hO)⟩) ?_ ?_
    · rintro i v H4 H5 R N hi s4 ⟨T1, x1, x2, rfl, hT1, rfl, hx1, hx2⟩ hR hN
      obtain ⟨q1, z1, rfl, hz1, hq1⟩ := rws_at hr0 hx1
      obtain ⟨q2, z2, rfl, hz2, hq2⟩ := rws_at hR1 hx2
      have sT := Same.new (o := .tup [.ref q1, .ref q2]) hT1
      have sx := (s1.trans s4).trans sT
      refine ⟨T1, _, rfl, SqT.of upd_same, rfl, _, _, rfl, _, _, rfl, q2, _, rfl, (s4.trans sT).tup hq2, rfl, _, _, rfl, _, _, rfl, rfl, rfl, rfl, ?_⟩
      refine ⟨_, rfl, _, rfl, q1, _, _, _, rfl, rfl, sx.tup hq1, rfl, _, _, rfl, rfl, hR _ _ ?_ sT⟩
      rw [List.getD_eq_getElem?_getD, List.getD_eq_getElem?_getD, hz1, hz2]
      rfl
    intro H4 s4 hE4
    rw [fm_some, rl] at hE4
    have e : (List.range ps.length).map (fun i => V.int (((srv c.toNat [] ps).getD i (0, 0)).1 - (ps.getD i (0, 0)).1)) = (gapL c.toNat ps).map V.int := by unfold gapL; rw [List.map_map]; rfl
    rw [e] at hE4
    exact k2 H4 E3 (s1.trans s4) (s1.free hE3) hE4
theorem ok_c_least_couriers {P : Program} {w : World} {K : PySem.W.Frag} {mg : Str → Option Value} {base : Heap} {a : Ad} (T : Txt K mg a) : FnOk P w K mg base (L2.CX P w) 6 a.f_c_least_couriers a.d_c_least_couriers ["jobs", "most_wait"] (sp_c_least_couriers K a.C_InvalidTable) := by
  have G_c_InvalidTable_init : FnOk P w K mg base (L2.CX P w) 1 a.f_c_InvalidTable_init a.d_c_InvalidTable_init ["self", "what"] (sp_exinit a.C_InvalidTable) := ok_c_InvalidTable_init T
  have G_c_waits : FnOk P w K mg base (L2.CX P w) 5 a.f_c_waits a.d_c_waits ["jobs", "couriers"] (sp_c_waits K a.C_InvalidTable) := ok_c_waits T
  refine T.F_c_least_couriers.okX sc_c_least_couriers (fun vs H Q E h => ?_) (fun cdv A outer s H vs Q E hr h => ?_)
  · rw [sp_c_least_couriers_eq] at h
    walk_at "len"
  · rw [sp_c_least_couriers_eq] at h
    obtain ⟨q, rs, ps, most, rfl, hq, hr0, hl, k0, k1, k2⟩ := h
    refine ⟨_, (pss_cons (ps_if (pt_cmpR op_lt (pv 1) pe_int (nomark _)) (pss_one (ps_raise rfl (takes_of rfl rfl rfl rfl) (pmk_oex T.ox_InvalidTable T.in_InvalidTable T.ti_InvalidTable G_c_InvalidTable_init (hr.mono (by decide)) T.b_c_InvalidTable_init .nil passL (by rfl) T.m_InvalidTable (pa_cons pe_str pa_nil)))) pss_nil)
    (pss_cons (ps_set (i := 2) sc_c_least_couriers.nd (by rfl) (Or.inl rfl) pe_int)
    (pss_cons (ps_while (passes_of rfl) (pt_cmpR op_gt (pe_callBK (cr_maxDef rfl) (by rfl) T.n_max (by decide +kernel) (pa_cons (pe_callS G_c_waits (hr.mono (by decide)) (by rfl) T.m_c_waits T.F_c_waits.kp T.b_c_waits (fun σ => passAt (takes_of rfl rfl rfl rfl) σ) (pa_cons (pv 0) (pa_cons (pv 2) pa_nil))) pa_nil) (pk_cons pe_int pk_nil)) (pv 1) (nomark _)) (pss_one (ps_aug (i := 2) sc_c_least_couriers.nd (by rfl) (Or.inl rfl) pe_int ip_add)))
    (pss_one (ps_ret (pv 2)))))), ?_⟩
    have bad : ∀ (wd : Str) (H2 : Hp), Same H H2 → wd.length ≤ 1000 → raisesW a.C_InvalidTable wd H E → ([wd] : List Str).length ≤ 1000 ∧ ∀ aa, H2 aa = none → sp_exinit a.C_InvalidTable (.ref aa :: ([.str wd] ++ [])) (upd H2 aa (exo aa a.C_InvalidTable none))
        (fun v H3 => v = .non ∧ ∃ (d : Addr) (fs : List (Str × V)), H3 aa = some (exo aa a.C_InvalidTable (some d)) ∧ H3 d = some (exd d fs) ∧ H2 d = none ∧ E (.ref a.C_InvalidTable) (some d) (upd (del H3 aa) d (.xd fs))) (fun _ _ _ => False) :=
      fun wd H2 s2 hw z => ⟨by show 1 ≤ 1000; decide, raise_ok (z.mono s2) hw⟩

    have rl := rws_len hr0
    refine ⟨_, rfl, _, _, rfl, rfl, _, rfl, ?_⟩
    refine ite2 (fun c1 => ?_) (fun c1 => ?_)
    · exact bad "wait" H (Same.refl _) (by decide +kernel) (k0 (of_decide_eq_true c1))
    have c1' : 0 ≤ most := by
      have : ¬ most < 0 := fun z => c1 (decide_eq_true z)
      omega
    by_cases hbq : badQ ps = true
    · refine ⟨fun m σ H' => m = 0 ∧ σ = [some (.ref q), some (.int most), some (.int 1)] ∧ H' = H, ⟨0, rfl, rfl, rfl⟩, ?_⟩
      rintro m σ H1 ⟨rfl, rfl, rfl⟩
      refine ⟨_, rfl, _, rfl, sp_c_waits_use ⟨q, rs, ps, 1, rfl, hq, hr0, hl, fun z => absurd z (by decide), fun _ z => k1 c1' z, fun _ z => absurd hbq (by rw [z]; decide)⟩⟩
    have hbq' : badQ ps = false := by simpa using hbq
    obtain ⟨Lc, l1, l2, l3, k⟩ := k2 c1' hbq'
    refine ⟨fun m σ H' => ∃ j : Nat, j + m = Lc ∧ 1 ≤ j ∧ σ = [some (.ref q), some (.int most), some (.int j)] ∧ Same H H', ⟨Lc - 1, 1, by omega, by omega, rfl, Same.refl _⟩, ?_⟩
    rintro m σ H1 ⟨j, ej, j1, rfl, s1⟩
    refine ⟨_, rfl, _, rfl, sp_c_waits_use ⟨q, rs, ps, j, rfl, s1.seq hq, dpAll_same s1 _ _ hr0, hl, fun z => absurd z (by omega), fun _ z => absurd z (by rw [hbq']; decide), fun _ _ H2 lw s2 hlw hW => ?_⟩⟩
    rw [Int.toNat_natCast] at hW
    have fin : ∀ b : Bool, b = late ps most j → (if b = true then ∃ N : L2.St → Hp → Prop, (∀ σ' H', N σ' H' → ∃ m', m' < m ∧ ∃ j' : Nat, j' + m' = Lc ∧ 1 ≤ j' ∧ σ' = [some (.ref q), some (.int most), some (.int j')] ∧ Same H H') ∧ N [some (.ref q), some (.int most), some (.int ((j : Int) + 1))] H2 else Q (.int j) H2) := fun b hb => by
      cases b with
      | true =>
        rw [if_pos rfl]
        have : j < Lc := by
          refine Nat.lt_of_not_le fun w => ?_
          rw [show j = Lc by omega, l2] at hb
          cases hb
        refine ⟨fun σ' H' => σ' = [some (.ref q), some (.int most), some (.int ((j : Int) + 1))] ∧ Same H H', fun σ' H' hN => ⟨m - 1, by omega, j + 1, by omega, by omega, hN.1, hN.2⟩, rfl, s1.trans s2⟩
      | false =>
        rw [if_neg (by decide)]
        have : j = Lc := by
          refine Nat.le_antisymm (by omega) (Nat.le_of_not_lt fun w => ?_)
          rw [l3 j j1 w] at hb
          cases hb
        rw [this]
        exact k H2 (s1.trans s2)
    refine ⟨lw, gapL j ps, 0, rfl, rfl, SqL.of hW, fun e => ?_, fun g hg hmax => ?_⟩
    · refine ⟨_, rfl, _, _, rfl, rfl, _, rfl, ?_⟩
      have e0 : decide (most < 0) = late ps most j := late_none c1' e
      have fn := fin _ e0
      refine ite2 (fun c => ?_) (fun c => ?_)
      · rw [if_pos c] at fn
        obtain ⟨N, hN, hx⟩ := fn
        exact ⟨N, hN, _, rfl, _, _, rfl, rfl, hx⟩
      · rw [if_neg c] at fn
        exact ⟨_, rfl, fn⟩
    · refine ⟨_, rfl, _, _, rfl, rfl, _, rfl, ?_⟩
      have e0 : decide (most < g) = late ps most j := late_max hg hmax
      have fn := fin _ e0
      refine ite2 (fun c => ?_) (fun c => ?_)
      · rw [if_pos c] at fn
        obtain ⟨N, hN, hx⟩ := fn
        exact ⟨N, hN, _, rfl, _, _, rfl, rfl, hx⟩
      · rw [if_neg c] at fn
        exact ⟨_, rfl, fn⟩
theorem ok_c_law_why {P : Program} {w : World} {K : PySem.W.Frag} {mg : Str → Option Value} {base : Heap} {a : Ad} (T : Txt K mg a) : FnOk P w K mg base (L2.CX P w) 7 a.f_c_law_why a.d_c_law_why ["ask", "jobs", "couriers"] (sp_c_law_why K) := by
  have G_c_greatest_queue : FnOk P w K mg base (L2.CX P w) 5 a.f_c_greatest_queue a.d_c_greatest_queue ["jobs", "couriers"] (sp_c_greatest_queue K a.C_InvalidTable) := ok_c_greatest_queue T
  have G_c_least_couriers : FnOk P w K mg base (L2.CX P w) 6 a.f_c_least_couriers a.d_c_least_couriers ["jobs", "most_wait"] (sp_c_least_couriers K a.C_InvalidTable) := ok_c_least_couriers T
  have G_c_served : FnOk P w K mg base (L2.CX P w) 4 a.f_c_served a.d_c_served ["jobs", "couriers"] (sp_c_served K a.C_InvalidTable) := ok_c_served T
  have G_c_waits : FnOk P w K mg base (L2.CX P w) 5 a.f_c_waits a.d_c_waits ["jobs", "couriers"] (sp_c_waits K a.C_InvalidTable) := ok_c_waits T
  refine T.F_c_law_why.okX sc_c_law_why (fun vs H Q E h => ?_) (fun cdv A outer s H vs Q E hr h => ?_)
  · rw [sp_c_law_why_eq] at h
    walk_at "len"
  · rw [sp_c_law_why_eq] at h
    obtain ⟨kk, c, q, rs, ps, wd, rfl, hk, hq, hr0, hl, hc, k⟩ := h
    refine ⟨_, (pss_cons (ps_try_as (i := 3) (Wout := fun _ _ _ _ => False) rfl rfl sc_c_law_why.nd (by rfl) (by rfl) ⟨by rfl, by decide, .inl T.m_SlotError⟩ takes0
    (fun W pn xe tk po => (pss_one (ps_if (pt_cmpR op_eq (pv 0) pe_int (nomark _)) (pss_one (ps_expr (pe_callS G_c_served (hr.mono (by decide)) (by rfl) T.m_c_served T.F_c_served.kp T.b_c_served (fun σ => passAt tk σ) (pa_cons (pv 1) (pa_cons (pv 2) pa_nil))))) (pss_one (ps_if (pt_cmpR op_eq (pv 0) pe_int (nomark _)) (pss_one (ps_expr (pe_callS G_c_waits (hr.mono (by decide)) (by rfl) T.m_c_waits T.F_c_waits.kp T.b_c_waits (fun σ => passAt tk σ) (pa_cons (pv 1) (pa_cons (pv 2) pa_nil))))) (pss_one (ps_if (pt_cmpR op_eq (pv 0) pe_int (nomark _)) (pss_one (ps_expr (pe_callS G_c_greatest_queue (hr.mono (by decide)) (by rfl) T.m_c_greatest_queue T.F_c_greatest_queue.kp T.b_c_greatest_queue (fun σ => passAt tk σ) (pa_cons (pv 1) (pa_cons (pv 2) pa_nil))))) (pss_one (ps_expr (pe_callS G_c_least_couriers (hr.mono (by decide)) (by rfl) T.m_c_least_couriers T.F_c_least_couriers.kp T.b_c_least_couriers (fun σ => passAt tk σ) (pa_cons (pv 1) (pa_cons (pv 2) pa_nil))))))))))))
    (fun ae oe cls dx pn hz hf => (pss_cons (ps_if (PW.pt (pw_and (pt_val (pe_callB (call_isX hz hf) (by rfl) T.n_isinstance (by decide +kernel) (pa_cons (pv 3) (pa_cons (pe_glob (v := .ref a.C_InvalidTable) (by rfl) T.m_InvalidTable rfl) pa_nil)))) (pw_and1 (pt_not (pt_val (pe_callB (call_isX hz hf) (by rfl) T.n_isinstance (by decide +kernel) (pa_cons (pv 3) (pa_cons (pe_glob (v := .ref a.C_InvalidTime) (by rfl) T.m_InvalidTime rfl) pa_nil)))))))) (pss_one (ps_ret (pe_xf T.xf_InvalidTable T.no_InvalidTable_what hz hf (pv 3)))) pss_nil)
    (pss_one (ps_ret pe_str)))))
    (pss_one (ps_ret pe_non))), ?_⟩
    refine ⟨_, rfl, rfl, _, rfl, ?_⟩
    refine ite2 (fun c0 => ?_) (fun c0 => ?_)
    · have c' : kk = 0 := V.int.inj (of_decide_eq_true c0)
      refine ⟨_, rfl, _, rfl, sp_c_served_use ⟨q, rs, ps, c, rfl, hq, hr0, hl, fun z => ?_, fun z1 z2 => ?_, fun z1 z2 => ?_⟩⟩
      · have e : wd = "couriers" := by
          rcases hc with h | h | h | h
          · exact h.2.2
          · omega
          · omega
          · omega
        subst e
        intro d H' s1 hd
        refine ⟨true, T.em_InvalidTable_SlotError, fun _ ae _ => ?_, fun z => nomatch z⟩
        refine ⟨_, rfl, _, _, true, d, _, rfl, rfl, T.is_InvalidTable, rfl, hd, T.kt_InvalidTable_InvalidTable, true, rfl, ?_⟩
        refine ⟨_, rfl, _, _, false, d, _, rfl, rfl, T.is_InvalidTable, rfl, hd, T.kt_InvalidTable_InvalidTime, _, rfl, ?_⟩
        exact ⟨_, rfl, rfl, rfl, d, _, _, rfl, hd, rfl, k H' s1⟩
      · have e : wd = "jobs" := by
          rcases hc with h | h | h | h
          · omega
          · exact h.2.2.2
          · omega
          · omega
        subst e
        intro d H' s1 hd
        refine ⟨true, T.em_InvalidTable_SlotError, fun _ ae _ => ?_, fun z => nomatch z⟩
        refine ⟨_, rfl, _, _, true, d, _, rfl, rfl, T.is_InvalidTable, rfl, hd, T.kt_InvalidTable_InvalidTable, true, rfl, ?_⟩
        refine ⟨_, rfl, _, _, false, d, _, rfl, rfl, T.is_InvalidTable, rfl, hd, T.kt_InvalidTable_InvalidTime, _, rfl, ?_⟩
        exact ⟨_, rfl, rfl, rfl, d, _, _, rfl, hd, rfl, k H' s1⟩
      · exfalso
        rcases hc with h | h | h | h
        · omega
        · rw [z2] at h
          exact absurd h.2.2.1 (by decide)
        · omega
        · omega
    refine ⟨_, rfl, rfl, _, rfl, ?_⟩
    have n0 : ¬ kk = 0 := fun z => c0 (decide_eq_true (congrArg V.int z))
    refine ite2 (fun c0 => ?_) (fun c0 => ?_)
    · have c' : kk = 1 := V.int.inj (of_decide_eq_true c0)
      refine ⟨_, rfl, _, rfl, sp_c_waits_use ⟨q, rs, ps, c, rfl, hq, hr0, hl, fun z => ?_, fun z1 z2 => ?_, fun z1 z2 => ?_⟩⟩
      · have e : wd = "couriers" := by
          rcases hc with h | h | h | h
          · exact h.2.2
          · omega
          · omega
          · omega
        subst e
        intro d H' s1 hd
        refine ⟨true, T.em_InvalidTable_SlotError, fun _ ae _ => ?_, fun z => nomatch z⟩
        refine ⟨_, rfl, _, _, true, d, _, rfl, rfl, T.is_InvalidTable, rfl, hd, T.kt_InvalidTable_InvalidTable, true, rfl, ?_⟩
        refine ⟨_, rfl, _, _, false, d, _, rfl, rfl, T.is_InvalidTable, rfl, hd, T.kt_InvalidTable_InvalidTime, _, rfl, ?_⟩
        exact ⟨_, rfl, rfl, rfl, d, _, _, rfl, hd, rfl, k H' s1⟩
      · have e : wd = "jobs" := by
          rcases hc with h | h | h | h
          · omega
          · exact h.2.2.2
          · omega
          · omega
        subst e
        intro d H' s1 hd
        refine ⟨true, T.em_InvalidTable_SlotError, fun _ ae _ => ?_, fun z => nomatch z⟩
        refine ⟨_, rfl, _, _, true, d, _, rfl, rfl, T.is_InvalidTable, rfl, hd, T.kt_InvalidTable_InvalidTable, true, rfl, ?_⟩
        refine ⟨_, rfl, _, _, false, d, _, rfl, rfl, T.is_InvalidTable, rfl, hd, T.kt_InvalidTable_InvalidTime, _, rfl, ?_⟩
        exact ⟨_, rfl, rfl, rfl, d, _, _, rfl, hd, rfl, k H' s1⟩
      · exfalso
        rcases hc with h | h | h | h
        · omega
        · rw [z2] at h
          exact absurd h.2.2.1 (by decide)
        · omega
        · omega
    refine ⟨_, rfl, rfl, _, rfl, ?_⟩
    have n1 : ¬ kk = 1 := fun z => c0 (decide_eq_true (congrArg V.int z))
    refine ite2 (fun c0 => ?_) (fun c0 => ?_)
    · have c' : kk = 2 := V.int.inj (of_decide_eq_true c0)
      refine ⟨_, rfl, _, rfl, sp_c_greatest_queue_use ⟨q, rs, ps, c, rfl, hq, hr0, hl, fun z => ?_, fun z1 z2 => ?_, fun z1 z2 => ?_⟩⟩
      · have e : wd = "couriers" := by
          rcases hc with h | h | h | h
          · exact h.2.2
          · omega
          · omega
          · omega
        subst e
        intro d H' s1 hd
        refine ⟨true, T.em_InvalidTable_SlotError, fun _ ae _ => ?_, fun z => nomatch z⟩
        refine ⟨_, rfl, _, _, true, d, _, rfl, rfl, T.is_InvalidTable, rfl, hd, T.kt_InvalidTable_InvalidTable, true, rfl, ?_⟩
        refine ⟨_, rfl, _, _, false, d, _, rfl, rfl, T.is_InvalidTable, rfl, hd, T.kt_InvalidTable_InvalidTime, _, rfl, ?_⟩
        exact ⟨_, rfl, rfl, rfl, d, _, _, rfl, hd, rfl, k H' s1⟩
      · have e : wd = "jobs" := by
          rcases hc with h | h | h | h
          · omega
          · exact h.2.2.2
          · omega
          · omega
        subst e
        intro d H' s1 hd
        refine ⟨true, T.em_InvalidTable_SlotError, fun _ ae _ => ?_, fun z => nomatch z⟩
        refine ⟨_, rfl, _, _, true, d, _, rfl, rfl, T.is_InvalidTable, rfl, hd, T.kt_InvalidTable_InvalidTable, true, rfl, ?_⟩
        refine ⟨_, rfl, _, _, false, d, _, rfl, rfl, T.is_InvalidTable, rfl, hd, T.kt_InvalidTable_InvalidTime, _, rfl, ?_⟩
        exact ⟨_, rfl, rfl, rfl, d, _, _, rfl, hd, rfl, k H' s1⟩
      · exfalso
        rcases hc with h | h | h | h
        · omega
        · rw [z2] at h
          exact absurd h.2.2.1 (by decide)
        · omega
        · omega
    have n2 : ¬ kk = 2 := fun z => c0 (decide_eq_true (congrArg V.int z))
    refine ⟨_, rfl, _, rfl, sp_c_least_couriers_use ⟨q, rs, ps, c, rfl, hq, hr0, hl, fun z => ?_, fun z1 z2 => ?_, fun z1 z2 => ?_⟩⟩
    · have e : wd = "wait" := by
        rcases hc with h | h | h | h
        · omega
        · omega
        · exact h.2.2
        · omega
      subst e
      intro d H' s1 hd
      refine ⟨true, T.em_InvalidTable_SlotError, fun _ ae _ => ?_, fun z => nomatch z⟩
      refine ⟨_, rfl, _, _, true, d, _, rfl, rfl, T.is_InvalidTable, rfl, hd, T.kt_InvalidTable_InvalidTable, true, rfl, ?_⟩
      refine ⟨_, rfl, _, _, false, d, _, rfl, rfl, T.is_InvalidTable, rfl, hd, T.kt_InvalidTable_InvalidTime, _, rfl, ?_⟩
      exact ⟨_, rfl, rfl, rfl, d, _, _, rfl, hd, rfl, k H' s1⟩
    · have e : wd = "jobs" := by
        rcases hc with h | h | h | h
        · omega
        · omega
        · omega
        · exact h.2.2.2
      subst e
      intro d H' s1 hd
      refine ⟨true, T.em_InvalidTable_SlotError, fun _ ae _ => ?_, fun z => nomatch z⟩
      refine ⟨_, rfl, _, _, true, d, _, rfl, rfl, T.is_InvalidTable, rfl, hd, T.kt_InvalidTable_InvalidTable, true, rfl, ?_⟩
      refine ⟨_, rfl, _, _, false, d, _, rfl, rfl, T.is_InvalidTable, rfl, hd, T.kt_InvalidTable_InvalidTime, _, rfl, ?_⟩
      exact ⟨_, rfl, rfl, rfl, d, _, _, rfl, hd, rfl, k H' s1⟩
    · exfalso
      rcases hc with h | h | h | h
      · omega
      · omega
      · omega
      · rw [z2] at h
        exact absurd h.2.2.1 (by decide)
theorem ok_c_law {P : Program} {w : World} {K : PySem.W.Frag} {mg : Str → Option Value} {base : Heap} {a : Ad} (T : Txt K mg a) : FnOk P w K mg base (L2.CX P w) 8 a.f_c_law a.d_c_law ["script"] (sp_c_law K) := by
  have G_c_law_deck : FnOk P w K mg base (L2.CX P w) 1 a.f_c_law_deck a.d_c_law_deck ["script", "cells", "each"] (sp_c_law_deck K) := ok_c_law_deck T
  have G_c_law_jobs : FnOk P w K mg base (L2.CX P w) 2 a.f_c_law_jobs a.d_c_law_jobs ["deck"] (sp_c_law_jobs K) := ok_c_law_jobs T
  have G_c_law_plain : FnOk P w K mg base (L2.CX P w) 5 a.f_c_law_plain a.d_c_law_plain ["value"] (sp_c_law_plain K 4) := ok_c_law_plain T
  have G_c_law_served : FnOk P w K mg base (L2.CX P w) 1 a.f_c_law_served a.d_c_law_served ["jobs", "couriers"] (sp_c_law_served K) := ok_c_law_served T
  have G_c_law_spoil : FnOk P w K mg base (L2.CX P w) 5 a.f_c_law_spoil a.d_c_law_spoil ["value"] (sp_c_law_spoil K 4) := ok_c_law_spoil T
  have G_c_law_take : FnOk P w K mg base (L2.CX P w) 1 a.f_c_law_take a.d_c_law_take ["deck", "many"] (sp_c_law_take) := ok_c_law_take T
  have G_c_law_why : FnOk P w K mg base (L2.CX P w) 7 a.f_c_law_why a.d_c_law_why ["ask", "jobs", "couriers"] (sp_c_law_why K) := ok_c_law_why T
  have G_c_greatest_queue : FnOk P w K mg base (L2.CX P w) 5 a.f_c_greatest_queue a.d_c_greatest_queue ["jobs", "couriers"] (sp_c_greatest_queue K a.C_InvalidTable) := ok_c_greatest_queue T
  have G_c_least_couriers : FnOk P w K mg base (L2.CX P w) 6 a.f_c_least_couriers a.d_c_least_couriers ["jobs", "most_wait"] (sp_c_least_couriers K a.C_InvalidTable) := ok_c_least_couriers T
  have G_c_served : FnOk P w K mg base (L2.CX P w) 4 a.f_c_served a.d_c_served ["jobs", "couriers"] (sp_c_served K a.C_InvalidTable) := ok_c_served T
  have G_c_waits : FnOk P w K mg base (L2.CX P w) 5 a.f_c_waits a.d_c_waits ["jobs", "couriers"] (sp_c_waits K a.C_InvalidTable) := ok_c_waits T
  refine T.F_c_law.okX sc_c_law (fun vs H Q E h => ?_) (fun cdv A outer s H vs Q E hr h => ?_)
  · walk_at "len"
  · obtain ⟨sa, ns, rfl, hS, hlen, k⟩ := h
    refine ⟨_, (pss_cons (ps_set (i := 1) sc_c_law.nd (by rfl) (Or.inl rfl) (pe_call G_c_law_deck (hr.mono (by decide)) (by rfl) T.m_c_law_deck T.F_c_law_deck.kp T.b_c_law_deck .nil passL (pa_cons (pv 0) (pa_cons pe_int (pa_cons pe_int pa_nil)))))
    (pss_cons (ps_set (i := 2) sc_c_law.nd (by rfl) (Or.inr rfl) (pe_call G_c_law_jobs (hr.mono (by decide)) (by rfl) T.m_c_law_jobs T.F_c_law_jobs.kp T.b_c_law_jobs .nil passL (pa_cons (pv 1) pa_nil)))
    (pss_cons (ps_set (i := 3) sc_c_law.nd (by rfl) (Or.inl rfl) (pe_op op_add pe_int (pe_call G_c_law_take (hr.mono (by decide)) (by rfl) T.m_c_law_take T.F_c_law_take.kp T.b_c_law_take .nil passL (pa_cons (pv 1) (pa_cons pe_int pa_nil)))))
    (pss_cons (ps_set (i := 4) sc_c_law.nd (by rfl) (Or.inr rfl) (pe_call G_c_law_served (hr.mono (by decide)) (by rfl) T.m_c_law_served T.F_c_law_served.kp T.b_c_law_served .nil passL (pa_cons (pv 2) (pa_cons (pv 3) pa_nil))))
    (pss_cons (ps_set (i := 5) sc_c_law.nd (by rfl) (Or.inl rfl) (pe_callTy call_list_of (by rfl) T.n_list (by decide +kernel) (pa_cons (pv 2) pa_nil)))
    (pss_cons (ps_expr (pe_call G_c_law_spoil (hr.mono (by decide)) (by rfl) T.m_c_law_spoil T.F_c_law_spoil.kp T.b_c_law_spoil .nil passL (pa_cons (pe_lst (pa_cons (pe_call G_c_served (hr.mono (by decide)) (by rfl) T.m_c_served T.F_c_served.kp T.b_c_served .nil passL (pa_cons (pv 5) (pa_cons (pv 3) pa_nil))) (pa_cons (pe_call G_c_waits (hr.mono (by decide)) (by rfl) T.m_c_waits T.F_c_waits.kp T.b_c_waits .nil passL (pa_cons (pv 5) (pa_cons (pv 3) pa_nil))) pa_nil))) pa_nil)))
    (pss_cons (ps_set (i := 6) sc_c_law.nd (by rfl) (Or.inl rfl) (pe_call G_c_served (hr.mono (by decide)) (by rfl) T.m_c_served T.F_c_served.kp T.b_c_served .nil passL (pa_cons (pv 5) (pa_cons (pv 3) pa_nil))))
    (Evl.pss_cut (ps_if (PW.pt (pw_or (pt_cmpR (op_neD hr.units) (pe_call G_c_law_plain (hr.mono (by decide)) (by rfl) T.m_c_law_plain T.F_c_law_plain.kp T.b_c_law_plain .nil passL (pa_cons (pv 6) pa_nil)) (pe_call G_c_law_plain (hr.mono (by decide)) (by rfl) T.m_c_law_plain T.F_c_law_plain.kp T.b_c_law_plain .nil passL (pa_cons (pv 4) pa_nil)) (nomark _)) (pw_or1 (pt_cmpR (op_neD hr.units) (pv 5) (pv 2) (nomark _))))) (pss_one (ps_ret pe_bl)) pss_nil)
    (pss_cons (ps_set (i := 8) sc_c_law.nd (by rfl) (Or.inr rfl) (pe_lcK (own := [("at", 7)]) (by rfl) sc_c_law.nd (pi_range1 (by rfl) T.n_range (pa_cons (pe_callB call_len_seq (by rfl) T.n_len (by decide +kernel) (pa_cons (pv 2) pa_nil)) pa_nil)) (blkOk_by (own := [("at", 7)]) (N := ["script", "deck", "jobs", "couriers", "due", "handed", "told", "at", "gaps", "begin", "end", "busy", "before", "more", "top", "come", "work", "most", "least", "ask", "answers", "other", "gap"]) (sc := defScope st_c_law) (by decide +kernel)) (fun _ _ _ _ _ => (pg_name (i := 7) sc_c_law.nd (by rfl) (by first | exact Or.inl rfl | exact Or.inr rfl))) (fun _ _ _ _ _ => pts_nil) (fun _ _ _ _ _ => (pe_op op_sub (pe_ix ix_tup (pe_ix ix_list (pv 4) (pv 7) (fun _ _ => rfl)) pe_int (fun _ _ => rfl)) (pe_ix ix_tup (pe_ix ix_list (pv 2) (pv 7) (fun _ _ => rfl)) pe_int (fun _ _ => rfl)))) (by walk_at "blk") (by walk_at "blk") (by walk_at "blk")))
    (Evl.pss_cut (ps_if (PW.pt (pw_or (pt_cmpR (op_neD hr.units) (pe_call G_c_law_plain (hr.mono (by decide)) (by rfl) T.m_c_law_plain T.F_c_law_plain.kp T.b_c_law_plain .nil passL (pa_cons (pe_call G_c_waits (hr.mono (by decide)) (by rfl) T.m_c_waits T.F_c_waits.kp T.b_c_waits .nil passL (pa_cons (pv 2) (pa_cons (pv 3) pa_nil))) pa_nil)) (pe_call G_c_law_plain (hr.mono (by decide)) (by rfl) T.m_c_law_plain T.F_c_law_plain.kp T.b_c_law_plain .nil passL (pa_cons (pv 8) pa_nil)) (nomark _)) (pw_or1 (pt_cmpR op_gt (pe_callB call_len_seq (by rfl) T.n_len (by decide +kernel) (pa_cons (pe_lcK (own := [("gap", 22)]) (by rfl) sc_c_law.nd (pi_list (pv 8)) (blkOk_by (own := [("gap", 22)]) (N := ["script", "deck", "jobs", "couriers", "due", "handed", "told", "at", "gaps", "begin", "end", "busy", "before", "more", "top", "come", "work", "most", "least", "ask", "answers", "other", "gap"]) (sc := defScope st_c_law) (by decide +kernel)) (fun _ _ _ _ _ => (pg_name (i := 22) sc_c_law.nd (by rfl) (by first | exact Or.inl rfl | exact Or.inr rfl))) (fun _ _ _ _ _ => (pts_one (pt_cmpR op_lt (pv 22) pe_int (nomark _)))) (fun _ _ _ _ _ => (pv 22)) (by walk_at "blk") (by walk_at "blk") (by walk_at "blk")) pa_nil)) pe_int (nomark _))))) (pss_one (ps_ret pe_bl)) pss_nil)
    (pss_cons (ps_for (passes_of rfl) rfl (pi_range1 (by rfl) T.n_range (pa_cons (pe_callB call_len_seq (by rfl) T.n_len (by decide +kernel) (pa_cons (pv 2) pa_nil)) pa_nil)) (pg_name (i := 7) sc_c_law.nd (by rfl) (Or.inl rfl)) (pss_cons (ps_asg (pe_ix ix_list (pv 4) (pv 7) (fun _ _ => rfl)) (pg_tup (n := 2) (by rfl) (pgs_cons (pg_name (i := 9) sc_c_law.nd (by rfl) (Or.inr rfl)) (pgs_cons (pg_name (i := 10) sc_c_law.nd (by rfl) (Or.inl rfl)) pgs_nil))))
    (Evl.pss_cut (ps_if (PW.pt (pw_or (pt_cmpR op_ne (pe_op op_sub (pv 10) (pv 9)) (pe_ix ix_tup (pe_ix ix_list (pv 2) (pv 7) (fun _ _ => rfl)) pe_int (fun _ _ => rfl)) (nomark _)) (pw_or1 (PW.pt (pw_and (pt_cmpR op_gt (pv 7) pe_int (nomark _)) (pw_and1 (pt_cmpR op_lt (pv 9) (pe_ix ix_tup (pe_ix ix_list (pv 4) (pe_op op_sub (pv 7) pe_int) (fun _ _ => rfl)) pe_int (fun _ _ => rfl)) (nomark _)))))))) (pss_one (ps_ret pe_bl)) pss_nil)
    (pss_cons (ps_set (i := 11) sc_c_law.nd (by rfl) (Or.inl rfl) (pe_callB call_len_seq (by rfl) T.n_len (by decide +kernel) (pa_cons (pe_lcK (own := [("other", 21)]) (by rfl) sc_c_law.nd (pi_range1 (by rfl) T.n_range (pa_cons (pv 7) pa_nil)) (blkOk_by (own := [("other", 21)]) (N := ["script", "deck", "jobs", "couriers", "due", "handed", "told", "at", "gaps", "begin", "end", "busy", "before", "more", "top", "come", "work", "most", "least", "ask", "answers", "other", "gap"]) (sc := defScope st_c_law) (by decide +kernel)) (fun _ _ _ _ _ => (pg_name (i := 21) sc_c_law.nd (by rfl) (by first | exact Or.inl rfl | exact Or.inr rfl))) (fun _ _ _ _ _ => (pts_one (pt_chain op_le op_lt (pe_ix ix_tup (pe_ix ix_list (pv 4) (pv 21) (fun _ _ => rfl)) pe_int (fun _ _ => rfl)) (pv 9) (pe_ix ix_tup (pe_ix ix_list (pv 4) (pv 21) (fun _ _ => rfl)) pe_int (fun _ _ => rfl))))) (fun _ _ _ _ _ => pe_int) (by walk_at "blk") (by walk_at "blk") (by walk_at "blk")) pa_nil)))
    (pss_cons (ps_if (pt_cmpR op_ge (pv 11) (pv 3) (nomark _)) (pss_one (ps_ret pe_bl)) pss_nil)
    (pss_one (ps_if (pt_cmpR op_gt (pv 9) (pe_ix ix_tup (pe_ix ix_list (pv 2) (pv 7) (fun _ _ => rfl)) pe_int (fun _ _ => rfl)) (nomark _)) (pss_cons (ps_set (i := 12) sc_c_law.nd (by rfl) (Or.inl rfl) (pe_callB call_len_seq (by rfl) T.n_len (by decide +kernel) (pa_cons (pe_lcK (own := [("other", 21)]) (by rfl) sc_c_law.nd (pi_range1 (by rfl) T.n_range (pa_cons (pv 7) pa_nil)) (blkOk_by (own := [("other", 21)]) (N := ["script", "deck", "jobs", "couriers", "due", "handed", "told", "at", "gaps", "begin", "end", "busy", "before", "more", "top", "come", "work", "most", "least", "ask", "answers", "other", "gap"]) (sc := defScope st_c_law) (by decide +kernel)) (fun _ _ _ _ _ => (pg_name (i := 21) sc_c_law.nd (by rfl) (by first | exact Or.inl rfl | exact Or.inr rfl))) (fun _ _ _ _ _ => (pts_one (pt_chain op_le op_lt (pe_ix ix_tup (pe_ix ix_list (pv 4) (pv 21) (fun _ _ => rfl)) pe_int (fun _ _ => rfl)) (pe_op op_sub (pv 9) pe_int) (pe_ix ix_tup (pe_ix ix_list (pv 4) (pv 21) (fun _ _ => rfl)) pe_int (fun _ _ => rfl))))) (fun _ _ _ _ _ => pe_int) (by walk_at "blk") (by walk_at "blk") (by walk_at "blk")) pa_nil)))
    (pss_one (ps_if (pt_cmpR op_lt (pv 12) (pv 3) (nomark _)) (pss_one (ps_ret pe_bl)) pss_nil))) pss_nil)))))))
    (pss_cons (ps_set (i := 13) sc_c_law.nd (by rfl) (Or.inr rfl) (pe_call G_c_waits (hr.mono (by decide)) (by rfl) T.m_c_waits T.F_c_waits.kp T.b_c_waits .nil passL (pa_cons (pv 2) (pa_cons (pe_op op_add (pv 3) pe_int) pa_nil))))
    (Evl.pss_cut (ps_if (pt_cmpR op_gt (pe_callB call_len_seq (by rfl) T.n_len (by decide +kernel) (pa_cons (pe_lcK (own := [("at", 7)]) (by rfl) sc_c_law.nd (pi_range1 (by rfl) T.n_range (pa_cons (pe_callB call_len_seq (by rfl) T.n_len (by decide +kernel) (pa_cons (pv 2) pa_nil)) pa_nil)) (blkOk_by (own := [("at", 7)]) (N := ["script", "deck", "jobs", "couriers", "due", "handed", "told", "at", "gaps", "begin", "end", "busy", "before", "more", "top", "come", "work", "most", "least", "ask", "answers", "other", "gap"]) (sc := defScope st_c_law) (by decide +kernel)) (fun _ _ _ _ _ => (pg_name (i := 7) sc_c_law.nd (by rfl) (by first | exact Or.inl rfl | exact Or.inr rfl))) (fun _ _ _ _ _ => (pts_one (pt_cmpR op_gt (pe_ix ix_list (pv 13) (pv 7) (fun _ _ => rfl)) (pe_ix ix_list (pv 8) (pv 7) (fun _ _ => rfl)) (nomark _)))) (fun _ _ _ _ _ => pe_int) (by walk_at "blk") (by walk_at "blk") (by walk_at "blk")) pa_nil)) pe_int (nomark _)) (pss_one (ps_ret pe_bl)) pss_nil)
    (Evl.pss_cut (ps_if (pt_cmpR (op_neD hr.units) (pe_call G_c_waits (hr.mono (by decide)) (by rfl) T.m_c_waits T.F_c_waits.kp T.b_c_waits .nil passL (pa_cons (pv 2) (pa_cons (pe_callB (call_max2 rfl) (by rfl) T.n_max (by decide +kernel) (pa_cons pe_int (pa_cons (pe_callB call_len_seq (by rfl) T.n_len (by decide +kernel) (pa_cons (pv 2) pa_nil)) pa_nil))) pa_nil))) (pe_op op_rep (pe_lst (pa_cons pe_int pa_nil)) (pe_callB call_len_seq (by rfl) T.n_len (by decide +kernel) (pa_cons (pv 2) pa_nil))) (nomark _)) (pss_one (ps_ret pe_bl)) pss_nil)
    (Evl.pss_cut (ps_set (i := 14) sc_c_law.nd (by rfl) (Or.inl rfl) pe_int)
    (pss_cons (ps_for (passes_of rfl) rfl (pi_list (pv 2)) (pg_tup (n := 2) (by rfl) (pgs_cons (pg_name (i := 15) sc_c_law.nd (by rfl) (Or.inr rfl)) (pgs_cons (pg_name (i := 16) sc_c_law.nd (by rfl) (Or.inl rfl)) pgs_nil))) (pss_one (ps_set (i := 14) sc_c_law.nd (by rfl) (Or.inl rfl) (pe_callB (call_max2 rfl) (by rfl) T.n_max (by decide +kernel) (pa_cons (pv 14) (pa_cons (pe_callB call_len_seq (by rfl) T.n_len (by decide +kernel) (pa_cons (pe_lcK (own := [("at", 7)]) (by rfl) sc_c_law.nd (pi_range1 (by rfl) T.n_range (pa_cons (pe_callB call_len_seq (by rfl) T.n_len (by decide +kernel) (pa_cons (pv 2) pa_nil)) pa_nil)) (blkOk_by (own := [("at", 7)]) (N := ["script", "deck", "jobs", "couriers", "due", "handed", "told", "at", "gaps", "begin", "end", "busy", "before", "more", "top", "come", "work", "most", "least", "ask", "answers", "other", "gap"]) (sc := defScope st_c_law) (by decide +kernel)) (fun _ _ _ _ _ => (pg_name (i := 7) sc_c_law.nd (by rfl) (by first | exact Or.inl rfl | exact Or.inr rfl))) (fun _ _ _ _ _ => (pts_one (pt_chain op_le op_lt (pe_ix ix_tup (pe_ix ix_list (pv 2) (pv 7) (fun _ _ => rfl)) pe_int (fun _ _ => rfl)) (pv 15) (pe_ix ix_tup (pe_ix ix_list (pv 4) (pv 7) (fun _ _ => rfl)) pe_int (fun _ _ => rfl))))) (fun _ _ _ _ _ => pe_int) (by walk_at "blk") (by walk_at "blk") (by walk_at "blk")) pa_nil)) pa_nil))))))
    (Evl.pss_cut (ps_if (pt_cmpR (op_neD hr.units) (pe_call G_c_law_plain (hr.mono (by decide)) (by rfl) T.m_c_law_plain T.F_c_law_plain.kp T.b_c_law_plain .nil passL (pa_cons (pe_call G_c_greatest_queue (hr.mono (by decide)) (by rfl) T.m_c_greatest_queue T.F_c_greatest_queue.kp T.b_c_greatest_queue .nil passL (pa_cons (pv 2) (pa_cons (pv 3) pa_nil))) pa_nil)) (pe_call G_c_law_plain (hr.mono (by decide)) (by rfl) T.m_c_law_plain T.F_c_law_plain.kp T.b_c_law_plain .nil passL (pa_cons (pv 14) pa_nil)) (nomark _)) (pss_one (ps_ret pe_bl)) pss_nil)
    (pss_cons (ps_set (i := 17) sc_c_law.nd (by rfl) (Or.inr rfl) (pe_call G_c_law_take (hr.mono (by decide)) (by rfl) T.m_c_law_take T.F_c_law_take.kp T.b_c_law_take .nil passL (pa_cons (pv 1) (pa_cons pe_int pa_nil))))
    (pss_cons (ps_set (i := 18) sc_c_law.nd (by rfl) (Or.inr rfl) pe_int)
    (Evl.pss_cut (ps_while (passes_of rfl) (pt_cmpR op_gt (pe_callB call_len_seq (by rfl) T.n_len (by decide +kernel) (pa_cons (pe_lcK (own := [("at", 7)]) (by rfl) sc_c_law.nd (pi_range1 (by rfl) T.n_range (pa_cons (pe_callB call_len_seq (by rfl) T.n_len (by decide +kernel) (pa_cons (pv 2) pa_nil)) pa_nil)) (blkOk_by (own := [("at", 7)]) (N := ["script", "deck", "jobs", "couriers", "due", "handed", "told", "at", "gaps", "begin", "end", "busy", "before", "more", "top", "come", "work", "most", "least", "ask", "answers", "other", "gap"]) (sc := defScope st_c_law) (by decide +kernel)) (fun _ _ _ _ _ => (pg_name (i := 7) sc_c_law.nd (by rfl) (by first | exact Or.inl rfl | exact Or.inr rfl))) (fun _ _ _ _ _ => (pts_one (pt_cmpR op_gt (pe_op op_sub (pe_ix ix_tup (pe_ix ix_list (pe_call G_c_law_served (hr.mono (by decide)) (by rfl) T.m_c_law_served T.F_c_law_served.kp T.b_c_law_served .nil passL (pa_cons (pv 2) (pa_cons (pv 18) pa_nil))) (pv 7) (fun _ _ => rfl)) pe_int (fun _ _ => rfl)) (pe_ix ix_tup (pe_ix ix_list (pv 2) (pv 7) (fun _ _ => rfl)) pe_int (fun _ _ => rfl))) (pv 17) (nomark _)))) (fun _ _ _ _ _ => pe_int) (by walk_at "blk") (by walk_at "blk") (by walk_at "blk")) pa_nil)) pe_int (nomark _)) (pss_one (ps_set (i := 18) sc_c_law.nd (by rfl) (Or.inr rfl) (pe_op op_add (pv 18) pe_int))))
    (Evl.pss_cut (ps_if (pt_cmpR (op_neD hr.units) (pe_call G_c_law_plain (hr.mono (by decide)) (by rfl) T.m_c_law_plain T.F_c_law_plain.kp T.b_c_law_plain .nil passL (pa_cons (pe_call G_c_least_couriers (hr.mono (by decide)) (by rfl) T.m_c_least_couriers T.F_c_least_couriers.kp T.b_c_least_couriers .nil passL (pa_cons (pv 2) (pa_cons (pv 17) pa_nil))) pa_nil)) (pe_call G_c_law_plain (hr.mono (by decide)) (by rfl) T.m_c_law_plain T.F_c_law_plain.kp T.b_c_law_plain .nil passL (pa_cons (pv 18) pa_nil)) (nomark _)) (pss_one (ps_ret pe_bl)) pss_nil)
    (pss_cons (ps_set (i := 19) sc_c_law.nd (by rfl) (Or.inl rfl) (pe_call G_c_law_take (hr.mono (by decide)) (by rfl) T.m_c_law_take T.F_c_law_take.kp T.b_c_law_take .nil passL (pa_cons (pv 1) (pa_cons pe_int pa_nil))))
    (pss_cons (ps_set (i := 20) sc_c_law.nd (by rfl) (Or.inl rfl) (pe_lst (pa_cons (pe_call G_c_law_why (hr.mono (by decide)) (by rfl) T.m_c_law_why T.F_c_law_why.kp T.b_c_law_why .nil passL (pa_cons (pv 19) (pa_cons (pe_lst (pa_cons (pe_tup (pa_cons pe_int (pa_cons pe_int pa_nil))) (pa_cons (pe_tup (pa_cons pe_int (pa_cons pe_int pa_nil))) pa_nil))) (pa_cons pe_int pa_nil)))) (pa_cons (pe_call G_c_law_why (hr.mono (by decide)) (by rfl) T.m_c_law_why T.F_c_law_why.kp T.b_c_law_why .nil passL (pa_cons (pv 19) (pa_cons (pe_lst (pa_cons (pe_tup (pa_cons pe_int (pa_cons pe_int pa_nil))) (pa_cons (pe_tup (pa_cons pe_int (pa_cons pe_int pa_nil))) pa_nil))) (pa_cons pe_int pa_nil)))) (pa_cons (pe_call G_c_law_why (hr.mono (by decide)) (by rfl) T.m_c_law_why T.F_c_law_why.kp T.b_c_law_why .nil passL (pa_cons (pv 19) (pa_cons (pe_lst (pa_cons (pe_tup (pa_cons pe_int (pa_cons (pe_un un_neg pe_int) pa_nil))) pa_nil)) (pa_cons pe_int pa_nil)))) pa_nil)))))
    (pss_one (ps_ret (pe_cmpR (op_eqD hr.units) (pe_op op_cat (pv 20) (pe_lst (pa_cons (pe_call G_c_law_why (hr.mono (by decide)) (by rfl) T.m_c_law_why T.F_c_law_why.kp T.b_c_law_why .nil passL (pa_cons pe_int (pa_cons (pe_lst (pa_cons (pe_tup (pa_cons pe_int (pa_cons pe_int pa_nil))) (pa_cons (pe_tup (pa_cons pe_int (pa_cons pe_int pa_nil))) pa_nil))) (pa_cons (pe_un un_neg pe_int) pa_nil)))) (pa_cons (pe_call G_c_law_why (hr.mono (by decide)) (by rfl) T.m_c_law_why T.F_c_law_why.kp T.b_c_law_why .nil passL (pa_cons pe_int (pa_cons (pe_lst (pa_cons (pe_tup (pa_cons pe_int (pa_cons (pe_un un_neg pe_int) pa_nil))) pa_nil)) (pa_cons pe_int pa_nil)))) pa_nil)))) (pe_lst (pa_cons pe_str (pa_cons pe_str (pa_cons pe_str (pa_cons pe_str (pa_cons pe_str pa_nil)))))) (nomark _))))))))))))))))))))))))))), ?_⟩
    refine ⟨_, rfl, sa, ns, 40, 14, rfl, hS, by omega, by decide, by decide, by decide, by decide, fun D0 p H0 hp s0 hd0 => ?_⟩
    have K0 : Dk (fun _ => none) H0 p D0 := ⟨rfl, same_none, hd0⟩
    refine ⟨_, rfl, sp_c_law_jobs_use ⟨p, D0, rfl, hd0, fun H2 D2 l rs ps sb h2 hl0 hl hR hn hok hz => ?_⟩⟩
    have nlp : l ≠ p := fun w => by rw [w, hd0] at hl0; cases hl0
    have rl := rws_len hR
    have okb := ok_badQ hok
    have K2 : Dk (del H2 p) H2 p D2 := ⟨del_same, fun _ _ e => (del_of e).1, h2⟩
    have hlG : del H2 p l = some (.lst rs) := del_some hl nlp
    have hRG : Rws K (del H2 p) rs ps := hR
    generalize (del H2 p : Hp) = G at hlG hRG K2
    refine ⟨_, rfl, take_q K2 (by decide) fun c' H3 c0 c1' K3 => ?_⟩
    refine ⟨_, _, rfl, rfl, ?_⟩
    obtain ⟨n, en⟩ : ∃ n : Nat, (n : Int) = 1 + c' := ⟨(1 + c').toNat, by omega⟩
    have ec : (fun i j : Int => V.int (i + j)) 1 c' = V.int n := by rw [en]
    rw [ec]
    have n1 : 1 ≤ n := by omega
    have n4 : n ≤ 4 := by omega
    have tn : ((n : Nat) : Int).toNat = n := Int.toNat_natCast n
    -- due
    refine ⟨_, rfl, _, rfl, sp_c_law_served_use ⟨l, rs, ps, n, rfl, SqL.of (K3.sm _ _ hlG), dpAll_same K3.sm _ _ hRG, hn, by omega, by omega, hok, hz, fun H4 ld xd s4 hld hD hRD => ?_⟩⟩
    rw [tn] at hRD
    have ndp : ld ≠ p := fun w => by rw [w, K3.hd] at hld; cases hld
    have xl := rws_len hRD
    rw [srv_len] at xl
    have K4 := K3.same s4
    have sG := K4.under
    have hlG := sG _ _ hlG
    have hRG := dpAll_same sG _ _ hRG
    have hDG : del H4 p ld = some (.lst xd) := del_some hD ndp
    have hRD : Rws K (del H4 p) xd (srv n [] ps) := rws_delL (show H4 p = some (.lst _) from K4.hd) (dpAll_same (fun c o e => (del_of e).1) _ _ hRD)
    have K4 := K4.freeze
    generalize (del H4 p : Hp) = G1 at hlG hRG hDG hRD K4
    -- handed
    refine ⟨_, rfl, l, _, rfl, .inl (SqL.of (K4.sm _ _ hlG)), fun lh hlh => ?_⟩
    have K5 := K4.new (o := .lst rs) hlh
    have sG := Same.new (o := .lst rs) (K4.fresh hlh)
    have hHG : (upd G1 lh (.lst rs) : Hp) lh = some (.lst rs) := upd_same
    have hlG := sG _ _ hlG
    have hRG := dpAll_same sG _ _ hRG
    have hDG := sG _ _ hDG
    have hRD := dpAll_same sG _ _ hRD
    generalize (upd H4 lh (.lst rs) : Hp) = H5 at K5 ⊢
    generalize (upd G1 lh (.lst rs) : Hp) = G2 at K5 hlG hRG hDG hRD hHG
    -- spoil
    refine ⟨_, rfl, _, rfl, sp_c_served_use ⟨lh, rs, ps, n, rfl, SqL.of (K5.sm _ _ hHG), dpAll_same K5.sm _ _ hRG, by omega, fun z => absurd z (by omega), fun _ z => absurd z (by rw [okb]; decide), fun _ _ H6 la xa s6 hla hLa hRa => ?_⟩⟩
    have K6 := K5.same s6
    refine ⟨_, rfl, _, rfl, sp_c_waits_use ⟨lh, rs, ps, n, rfl, SqL.of (K6.sm _ _ hHG), dpAll_same K6.sm _ _ hRG, by omega, fun z => absurd z (by omega), fun _ z => absurd z (by rw [okb]; decide), fun _ _ H7 lb s7 hlb hLb => ?_⟩⟩
    have K7 := K6.same s7
    refine ⟨by show 2 ≤ sizeLine; decide, fun lc hlc => ?_⟩
    rw [tn] at hRa hLb
    have xal := rws_len hRa
    rw [srv_len] at xal
    have K8 := K7.same (Same.new (o := .lst [.ref la, .ref lb]) hlc)
    have hla7 : H7 la = some (.lst xa) := s7 _ _ hLa
    have nac : la ≠ lc := ne_of_none hla7 hlc
    have nbc : lb ≠ lc := ne_of_none hLb hlc
    have nab : la ≠ lb := ne_of_none hLa hlb
    have cA : DC K (upd H7 lc (.lst [.ref la, .ref lb])) 3 (.ref la) [la] := .lst (xs := xa) (L := []) (by rw [upd_ne nac]; exact hla7) (by omega) (rws_dcs (n := 1) (dpAll_same (fun c o e => by
      have e1 := s7 _ _ (del_of e).1
      rw [upd_ne (ne_of_none e1 hlc)]
      exact e1) _ _ hRa)) (by simp)
    have cB : DC K (upd H7 lc (.lst [.ref la, .ref lb])) 3 (.ref lb) [lb] := .lst (xs := (gapL n ps).map V.int) (L := []) (by rw [upd_ne nbc]; exact hLb) (by rw [List.length_map]; unfold gapL; rw [List.length_map, List.length_range]; omega) (DCs.ints _) (by simp)
    have cD : DCs K (upd H7 lc (.lst [.ref la, .ref lb])) 3 [.ref la, .ref lb] ([la] ++ ([lb] ++ [])) := .cons cA (.cons cB (.nil _) (fun b _ h => by cases h)) (fun b h1 h2 => by simp at h1 h2; exact nab (h1.symm.trans h2))
    refine ⟨.ref lc, lc :: ([la] ++ ([lb] ++ [])), rfl, .lst upd_same (by show 2 ≤ 1000; decide) cD (by simp; exact ⟨nac.symm, nbc.symm⟩), fun H9 bp => ?_⟩
    have out : ∀ b o, H5 b = some o → H9 b = some o := fun b o e => by
      have e6 := s6 _ _ e
      have e7 := s7 _ _ e6
      refine bp b o ?_ (by rw [upd_ne (ne_of_none e7 hlc)]; exact e7)
      have := ne_of_none e hla
      have := ne_of_none e6 hlb
      have := ne_of_none e7 hlc
      simp
      exact ⟨by assumption, by assumption, by assumption⟩
    have K9 := K5.same (show Same H5 H9 from out)
    clear cA cB cD bp out K6 K7 K8 s6 s7 hla7 hLa hLb hRa hlc hla hlb nac nbc nab
    refine ⟨_, rfl, _, rfl, sp_c_served_use ⟨lh, rs, ps, n, rfl, SqL.of (K9.sm _ _ hHG), dpAll_same K9.sm _ _ hRG, by omega, fun z => absurd z (by omega), fun _ z => absurd z (by rw [okb]; decide), fun _ _ H10 lt xt s10 hlt hLt hRt => ?_⟩⟩
    have K10 := K9.same s10
    rw [tn] at hRt
    have ntp : lt ≠ p := fun w => by rw [w, K9.hd] at hlt; cases hlt
    have hLt' := hLt
    have hRt' : Rws K H10 xt (srv n [] ps) := dpAll_same (fun c o e => (del_of e).1) _ _ hRt
    have xtl := rws_len hRt
    rw [srv_len] at xtl
    refine ⟨fun σ H' => σ = [some (.ref sa), some (.ref p), some (.ref l), some (.int n), some (.ref ld), some (.ref lh), some (.ref lt)] ++ List.replicate 16 none ∧ Dk G2 H' p D2.tail, ?_, ?_⟩
    · have okR : okD 4 (.list ((srv n [] ps).map pd)) = true := okD_rows4 (by rw [srv_len]; omega)
      refine ⟨_, rfl, .ref lt, .list ((srv n [] ps).map pd), rfl, .lst (SqL.of hLt) hRt', okR, fun v11 H11 s11 dn11 => ?_⟩
      refine ⟨_, rfl, .ref ld, .list ((srv n [] ps).map pd), rfl, .lst (SqL.of ((K10.same s11).sm _ _ hDG)) (dpAll_same (K10.same s11).sm _ _ hRD), okR, fun v12 H12 s12 dn12 => ?_⟩
      refine plain_test 4 dn11 s12 dn12 okR (by decide) ?_
      have K12 := (K10.same s11).same s12
      refine ite2 (fun z => nomatch z) (fun _ => ?_)
      refine ⟨_, rfl, _, rfl, ?_⟩
      have okx : okDx 3 (.list (ps.map pd)) = true := okD_x 3 _ (okD_rows (by omega))
      refine data_same (d := .list (ps.map pd)) (n := 3) (.lst (SqL.of (K12.sm _ _ hHG)) (dpAll_same K12.sm _ _ hRG)) (.lst (SqL.of (K12.sm _ _ hlG)) (dpAll_same K12.sm _ _ hRG)) okx (by decide) ?_
      exact ⟨_, rfl, rfl, K12⟩
    clear hLt hRt hRt' xtl ntp K10 s10 K9 hLt'
    rintro σ H20 ⟨rfl, K20⟩
    -- gaps
    have row : ∀ (H' : Hp) (j : Nat), Same G2 H' → j < ps.length → ∃ q, rs[j]? = some (.ref q) ∧ SqT K H' q [.int (ps.getD j (0, 0)).1, .int (ps.getD j (0, 0)).2] := fun H' j s hj => by
      have hj2 : j < rs.length := by omega
      obtain ⟨q, z, e, hz, hq⟩ := rws_at (dpAll_same s _ _ hRG) (List.getElem?_eq_getElem hj2)
      refine ⟨q, by rw [List.getElem?_eq_getElem hj2, e], ?_⟩
      rw [List.getD_eq_getElem?_getD, hz]
      exact hq
    have rowD : ∀ (H' : Hp) (j : Nat), Same G2 H' → j < ps.length → ∃ q, xd[j]? = some (.ref q) ∧ SqT K H' q [.int ((srv n [] ps).getD j (0, 0)).1, .int ((srv n [] ps).getD j (0, 0)).2] := fun H' j s hj => by
      have hj2 : j < xd.length := by omega
      obtain ⟨q, z, e, hz, hq⟩ := rws_at (dpAll_same s _ _ hRD) (List.getElem?_eq_getElem hj2)
      refine ⟨q, by rw [List.getElem?_eq_getElem hj2, e], ?_⟩
      rw [List.getD_eq_getElem?_getD, hz]
      exact hq
    refine ⟨_, rfl, l, _, rfl, .inl (SqL.of (K20.sm _ _ hlG)), _, rfl, by omega, by omega, fun E1 hE1 => ?_⟩
    refine lc_fn (walk_range (lo := 0) (n := rs.length)) (fun (j : Nat) => some (V.int (((srv n [] ps).getD j (0, 0)).1 - (ps.getD j (0, 0)).1))) (by omega) hE1 (fun _ _ => trivial) ?_ ?_
    · rintro j x H21 H22 R Nx hj s21 ⟨rfl, hx⟩ hRR hNx
      have hx2 : x = V.int (0 + j) := hx
      rw [Int.zero_add] at hx2
      subst hx2
      have sy := K20.sm.trans s21
      obtain ⟨qd, d1, d2⟩ := rowD _ j sy (by omega)
      obtain ⟨qj, j1, j2⟩ := row _ j sy (by omega)
      refine ⟨rfl, ?_⟩
      refine ⟨_, rfl, _, rfl, ld, _, _, _, rfl, rfl, SqL.of (sy _ _ hDG), atI_nat' rfl d1, qd, _, _, _, rfl, rfl, d2, rfl, ?_⟩
      refine ⟨_, rfl, _, rfl, l, _, _, _, rfl, rfl, SqL.of (sy _ _ hlG), atI_nat' rfl j1, qj, _, _, _, rfl, rfl, j2, rfl, _, _, rfl, rfl, hRR _ _ rfl (Same.refl _)⟩
    intro H21 s21 hE21
    have eg : (List.range rs.length).filterMap (fun (j : Nat) => some (V.int (((srv n [] ps).getD j (0, 0)).1 - (ps.getD j (0, 0)).1))) = (gapL n ps).map V.int := by
      rw [fm_some, rl]
      unfold gapL
      rw [List.map_map]
      rfl
    rw [eg] at hE21
    have K21 := K20.same s21
    have nEp : E1 ≠ p := fun w => by rw [w, K20.hd] at hE1; cases hE1
    have sG3 := K21.under
    have hEG : del H21 p E1 = some (.lst ((gapL n ps).map V.int)) := del_some hE21 nEp
    have K21 := K21.freeze
    generalize (del H21 p : Hp) = G3 at sG3 hEG K21
    have hlG := sG3 _ _ hlG
    have hDG := sG3 _ _ hDG
    have hRG := dpAll_same sG3 _ _ hRG
    have row := fun H' j (s : Same G3 H') => row H' j (sG3.trans s)
    have rowD := fun H' j (s : Same G3 H') => rowD H' j (sG3.trans s)
    clear hHG K20 s21 hE21 hE1 hRD
    have okI : ∀ ns : List Int, ns.length ≤ 1000 → okD 4 (.list (ns.map PyData.int)) = true := fun ns h => ok_ints (n := 3) h
    have gle : (gapL n ps).length ≤ 1000 := by rw [gap_len]; omega
    refine ⟨fun σ H' => σ = [some (.ref sa), some (.ref p), some (.ref l), some (.int n), some (.ref ld), some (.ref lh), some (.ref lt), none, some (.ref E1)] ++ List.replicate 14 none ∧ Dk G3 H' p D2.tail, ?_, ?_⟩
    · refine ⟨_, rfl, _, rfl, sp_c_waits_use ⟨l, rs, ps, n, rfl, SqL.of (K21.sm _ _ hlG), dpAll_same K21.sm _ _ hRG, by omega, fun z => absurd z (by omega), fun _ z => absurd z (by rw [okb]; decide), fun _ _ H22 lw s22 hlw hLw => ?_⟩⟩
      rw [tn] at hLw
      have K22 := K21.same s22
      refine ⟨.ref lw, .list ((gapL n ps).map PyData.int), rfl, dp_ints (SqL.of hLw), okI _ gle, fun v23 H23 s23 dn23 => ?_⟩
      refine ⟨_, rfl, .ref E1, .list ((gapL n ps).map PyData.int), rfl, dp_ints (SqL.of ((K22.same s23).sm _ _ hEG)), okI _ gle, fun v24 H24 s24 dn24 => ?_⟩
      refine plain_test 4 dn23 s24 dn24 (okI _ gle) (by decide) ?_
      have K24 := (K22.same s23).same s24
      refine ite2 (fun z => nomatch z) (fun _ => ?_)
      refine ⟨_, rfl, E1, rfl, ⟨_, SqL.of (K24.sm _ _ hEG)⟩, fun E2 hE2 => ?_⟩
      refine lc_fn (walk_list (xs := (gapL n ps).map V.int)) (fun _ => none) (by rw [List.length_map]; omega) hE2 (fun H s => s.seq (SqL.of (K24.sm _ _ hEG))) ?_ ?_
      · rintro j v H25 H26 R Nx hj s25 ⟨rfl, hv⟩ hRR hNx
        rw [List.getElem?_map] at hv
        obtain ⟨g, hg, rfl⟩ := Option.map_eq_some_iff.mp hv
        have := gap_nn n1 hok (List.mem_of_getElem? hg)
        refine ⟨rfl, ?_⟩
        refine ⟨_, rfl, _, _, rfl, rfl, _, rfl, ?_⟩
        refine ite2 (fun c => absurd (of_decide_eq_true c) (by omega)) (fun _ => ?_)
        exact hNx _ rfl (Same.refl _)
      intro H25 s25 hE25
      rw [fm_no] at hE25
      refine ⟨E2, _, rfl, .inl (SqL.of hE25), _, _, rfl, rfl, _, rfl, ?_⟩
      refine ite2 (fun c => absurd (of_decide_eq_true c) (by decide)) (fun _ => ?_)
      exact ⟨rfl, K24.same s25⟩
    rintro σ H30 ⟨rfl, K30⟩
    refine ⟨_, rfl, l, _, rfl, .inl (SqL.of (K30.sm _ _ hlG)), _, rfl, by omega, by omega, for_range (lo := 0) (n := rs.length) (fun i σ H' => ∃ v7 v9 v10 v11 v12 : Option V, σ = [some (.ref sa), some (.ref p), some (.ref l), some (.int n), some (.ref ld), some (.ref lh), some (.ref lt), v7, some (.ref E1), v9, v10, v11, v12] ++ List.replicate 10 none ∧ Dk G3 H' p D2.tail) ⟨none, none, none, none, none, rfl, K30⟩ ?_ ?_⟩
    · rintro i σ H31 hi ⟨v7, v9, v10, v11, v12, rfl, K31⟩
      have g := row_good n1 hok (show i < ps.length by omega)
      obtain ⟨qd, d1, d2⟩ := rowD _ i K31.sm (by omega)
      obtain ⟨qj, j1, j2⟩ := row _ i K31.sm (by omega)
      obtain ⟨bI, hbI⟩ : ∃ z, z = ((srv n [] ps).getD i (0, 0)).1 := ⟨_, rfl⟩
      obtain ⟨eI, heI⟩ : ∃ z, z = ((srv n [] ps).getD i (0, 0)).2 := ⟨_, rfl⟩
      rw [← hbI, ← heI] at d2
      have ge : eI = bI + (ps.getD i (0, 0)).2 := by rw [hbI, heI]; exact g.en
      rw [Int.zero_add]
      refine ⟨_, rfl, _, rfl, ld, _, _, _, rfl, rfl, SqL.of (K31.sm _ _ hDG), atI_nat' rfl d1, qd, _, rfl, d2, rfl, _, _, rfl, _, _, rfl, rfl, ?_⟩
      refine ⟨fun σ H' => σ = [some (.ref sa), some (.ref p), some (.ref l), some (.int n), some (.ref ld), some (.ref lh), some (.ref lt), some (.int i), some (.ref E1), some (.int bI), some (.int eI), v11, v12] ++ List.replicate 10 none ∧ H' = H31, ?_, ?_⟩
      · refine ⟨_, rfl, _, rfl, _, _, rfl, rfl, _, rfl, _, rfl, l, _, _, _, rfl, rfl, SqL.of (K31.sm _ _ hlG), atI_nat' rfl j1, qj, _, _, _, rfl, rfl, j2, rfl, rfl, _, rfl, ?_⟩
        refine ite2 (fun c => ?_) (fun _ => ?_)
        · exfalso
          have hh : eI - bI = (ps.getD i (0, 0)).2 := by omega
          generalize (ps.getD i (0, 0)).2 = ww at c hh
          simp [hh] at c
        refine ⟨_, rfl, _, _, rfl, rfl, _, rfl, ?_⟩
        refine ite2 (fun c => ?_) (fun _ => ?_)
        rotate_left
        · exact ⟨rfl, rfl⟩
        have i0 : 0 < i := by have := of_decide_eq_true c; omega
        obtain ⟨qe, e1, e2⟩ := rowD _ (i - 1) K31.sm (by omega)
        refine ⟨_, rfl, _, rfl, _, rfl, _, _, rfl, rfl, ld, _, _, _, rfl, rfl, SqL.of (K31.sm _ _ hDG), atI_nat' (j := i - 1) (by show (i : Int) - 1 = _; omega) e1, qe, _, _, _, rfl, rfl, e2, rfl, _, _, rfl, rfl, _, rfl, ?_⟩
        refine ite2 (fun c2 => ?_) (fun _ => ⟨rfl, rfl⟩)
        exfalso
        have hm : (srv n [] ps).getD (i - 1) (0, 0) ∈ (srv n [] ps).take i := by
          have h1 : i - 1 < (srv n [] ps).length := by rw [srv_len]; omega
          rw [List.getD_eq_getElem?_getD, List.getElem?_eq_getElem h1]
          exact List.mem_of_getElem? (i := i - 1) (by rw [List.getElem?_take, if_pos (by omega), List.getElem?_eq_getElem h1]; rfl)
        have := g.mo _ hm
        have := of_decide_eq_true c2
        rw [← hbI] at *
        omega
      rintro σ H32 ⟨rfl, rfl⟩
      refine ⟨_, rfl, _, rfl, by omega, by omega, fun E2 hE2 => ?_⟩
      refine lc_fn (walk_range (lo := 0) (n := ((i : Nat) : Int).toNat)) (fun (j : Nat) => if (decide (((srv n [] ps).getD j (0, 0)).1 ≤ bI) && decide (bI < ((srv n [] ps).getD j (0, 0)).2)) = true then some (V.int 1) else none) (by omega) hE2 (fun _ _ => trivial) ?_ ?_
      · rintro j x H33 H34 R Nx hj s33 ⟨rfl, hx⟩ hRR hNx
        have hx2 : x = V.int (0 + j) := hx
        rw [Int.zero_add] at hx2
        subst hx2
        have sy := K31.sm.trans s33
        obtain ⟨qo, o1, o2⟩ := rowD _ j sy (by omega)
        refine ⟨rfl, ?_⟩
        refine ⟨_, rfl, _, rfl, ld, _, _, _, rfl, rfl, SqL.of (sy _ _ hDG), atI_nat' rfl o1, qo, _, _, _, rfl, rfl, o2, rfl, _, rfl, _, _, rfl, rfl, _, rfl, ?_⟩
        refine ite2 (fun c1 => ?_) (fun c1 => ?_)
        · refine ⟨_, rfl, _, rfl, ld, _, _, _, rfl, rfl, SqL.of (sy _ _ hDG), atI_nat' rfl o1, qo, _, _, _, rfl, rfl, o2, rfl, _, _, rfl, rfl, _, rfl, ?_⟩
          refine ite2 (fun c2 => ?_) (fun c2 => ?_)
          · exact hRR _ _ (by rw [c1, c2]; rfl) (Same.refl _)
          · exact hNx _ (by rw [Bool.eq_false_iff.mpr c2, Bool.and_false]; rfl) (Same.refl _)
        · refine ⟨_, rfl, ?_⟩
          exact hNx _ (by rw [Bool.eq_false_iff.mpr c1]; rfl) (Same.refl _)
      intro H35 sH35 hE2'
      rw [Int.toNat_natCast] at hE2'
      refine ⟨E2, _, rfl, .inl (SqL.of hE2'), ?_⟩
      rw [cnt_fm, ← busy_take bI (by rw [srv_len]; omega)]
      have gb := g.bu
      rw [← hbI] at gb
      refine ⟨_, rfl, _, rfl, _, _, rfl, rfl, _, rfl, ?_⟩
      refine ite2 (fun c => absurd (of_decide_eq_true c) (by omega)) (fun _ => ?_)
      have K31 := K31.same sH35
      obtain ⟨qj, j1, j2⟩ := row _ i K31.sm (by omega)
      refine ⟨_, rfl, _, rfl, _, rfl, l, _, _, _, rfl, rfl, SqL.of (K31.sm _ _ hlG), atI_nat' rfl j1, qj, _, _, _, rfl, rfl, j2, rfl, _, _, rfl, rfl, _, rfl, ?_⟩
      refine ite2 (fun c => ?_) (fun _ => ?_)
      rotate_left
      · exact ⟨_, _, _, _, _, rfl, K31⟩
      have gbe := g.be (by rw [← hbI]; exact of_decide_eq_true c)
      rw [← hbI] at gbe
      refine ⟨_, rfl, _, rfl, by omega, by omega, fun E3 hE3 => ?_⟩
      refine lc_fn (walk_range (lo := 0) (n := ((i : Nat) : Int).toNat)) (fun (j : Nat) => if (decide (((srv n [] ps).getD j (0, 0)).1 ≤ bI - 1) && decide (bI - 1 < ((srv n [] ps).getD j (0, 0)).2)) = true then some (V.int 1) else none) (by omega) hE3 (fun _ _ => trivial) ?_ ?_
      · rintro j x H33 H34 R Nx hj s33 ⟨rfl, hx⟩ hRR hNx
        have hx2 : x = V.int (0 + j) := hx
        rw [Int.zero_add] at hx2
        subst hx2
        have sy := K31.sm.trans s33
        obtain ⟨qo, o1, o2⟩ := rowD _ j sy (by omega)
        refine ⟨rfl, ?_⟩
        refine ⟨_, rfl, _, rfl, ld, _, _, _, rfl, rfl, SqL.of (sy _ _ hDG), atI_nat' rfl o1, qo, _, _, _, rfl, rfl, o2, rfl, _, rfl, _, _, rfl, rfl, _, _, rfl, rfl, _, rfl, ?_⟩
        refine ite2 (fun c1 => ?_) (fun c1 => ?_)
        · refine ⟨_, rfl, _, rfl, ld, _, _, _, rfl, rfl, SqL.of (sy _ _ hDG), atI_nat' rfl o1, qo, _, _, _, rfl, rfl, o2, rfl, _, _, rfl, rfl, _, rfl, ?_⟩
          refine ite2 (fun c2 => ?_) (fun c2 => ?_)
          · exact hRR _ _ (by rw [c1, c2]; rfl) (Same.refl _)
          · exact hNx _ (by rw [Bool.eq_false_iff.mpr c2, Bool.and_false]; rfl) (Same.refl _)
        · refine ⟨_, rfl, ?_⟩
          exact hNx _ (by rw [Bool.eq_false_iff.mpr c1]; rfl) (Same.refl _)
      intro H36 sH36 hE3'
      rw [Int.toNat_natCast] at hE3'
      refine ⟨E3, _, rfl, .inl (SqL.of hE3'), ?_⟩
      rw [cnt_fm, ← busy_take (bI - 1) (by rw [srv_len]; omega)]
      refine ⟨_, rfl, _, rfl, _, _, rfl, rfl, _, rfl, ?_⟩
      refine ite2 (fun c => absurd (of_decide_eq_true c) (by omega)) (fun _ => ?_)
      exact ⟨_, _, _, _, _, rfl, K31.same sH36⟩
    rintro σ H40 ⟨v7, v9, v10, v11, v12, rfl, K40⟩
    refine ⟨_, rfl, _, rfl, _, _, rfl, rfl, sp_c_waits_use ⟨l, rs, ps, (n : Int) + 1, rfl, SqL.of (K40.sm _ _ hlG), dpAll_same K40.sm _ _ hRG, by omega, fun z => absurd z (by omega), fun _ z => absurd z (by rw [okb]; decide), fun _ _ H41 lm s41 hlm hLm => ?_⟩⟩
    rw [show ((n : Int) + 1).toNat = n + 1 by omega] at hLm
    have K41 := K40.same s41
    refine ⟨fun σ H' => ∃ v7 v9 v10 v11 v12 v13 : Option V, σ = [some (.ref sa), some (.ref p), some (.ref l), some (.int n), some (.ref ld), some (.ref lh), some (.ref lt), v7, some (.ref E1), v9, v10, v11, v12, v13] ++ List.replicate 9 none ∧ Dk G3 H' p D2.tail, ?_, ?_⟩
    · refine ⟨_, rfl, l, _, rfl, .inl (SqL.of (K41.sm _ _ hlG)), _, rfl, by omega, by omega, fun E4 hE4 => ?_⟩
      refine lc_fn (walk_range (lo := 0) (n := rs.length)) (fun _ => none) (by omega) hE4 (fun _ _ => trivial) ?_ ?_
      · rintro j x H42 H43 R Nx hj s42 ⟨rfl, hx⟩ hRR hNx
        have hx2 : x = V.int (0 + j) := hx
        rw [Int.zero_add] at hx2
        subst hx2
        have hj2 : j < ps.length := by omega
        refine ⟨rfl, ?_⟩
        refine ⟨_, rfl, _, rfl, lm, _, _, _, rfl, rfl, SqL.of (s42 _ _ hLm), atI_nat' (j := j) rfl (by rw [List.getElem?_map, gap_get hj2]; rfl), ?_⟩
        refine ⟨_, rfl, _, rfl, E1, _, _, _, rfl, rfl, SqL.of (s42 _ _ (K41.sm _ _ hEG)), atI_nat' (j := j) rfl (by rw [List.getElem?_map, gap_get hj2]; rfl), _, _, rfl, rfl, _, rfl, ?_⟩
        have := gap_more n1 hok hj2
        refine ite2 (fun c => absurd (of_decide_eq_true c) (by omega)) (fun _ => ?_)
        exact hNx _ rfl (Same.refl _)
      intro H44 s44 hE4'
      rw [fm_no] at hE4'
      refine ⟨E4, _, rfl, .inl (SqL.of hE4'), _, _, rfl, rfl, _, rfl, ?_⟩
      refine ite2 (fun c => absurd (of_decide_eq_true c) (by decide)) (fun _ => ?_)
      exact ⟨_, _, _, _, _, _, rfl, K41.same s44⟩
    clear hLm hlm s41 K40 K41
    rintro σ H45 ⟨v7, v9, v10, v11, v12, v13, rfl, K45⟩
    refine ⟨fun σ H' => σ = [some (.ref sa), some (.ref p), some (.ref l), some (.int n), some (.ref ld), some (.ref lh), some (.ref lt), v7, some (.ref E1), v9, v10, v11, v12, v13] ++ List.replicate 9 none ∧ Dk G3 H' p D2.tail, ?_, ?_⟩
    · refine ⟨_, rfl, _, rfl, l, _, rfl, .inl (SqL.of (K45.sm _ _ hlG)), _, _, rfl, ?_⟩
      obtain ⟨mx, hmx⟩ : ∃ z : Int, z = if (rs.length : Int) > 1 then (rs.length : Int) else 1 := ⟨_, rfl⟩
      rw [← hmx]
      have hm1 : 1 ≤ mx ∧ (ps.length : Int) ≤ mx := by split at hmx <;> omega
      refine sp_c_waits_use ⟨l, rs, ps, mx, rfl, SqL.of (K45.sm _ _ hlG), dpAll_same K45.sm _ _ hRG, by omega, fun z => absurd z (by omega), fun _ z => absurd z (by rw [okb]; decide), fun _ _ H46 lz s46 hlz hLz => ?_⟩
      rw [gap_many (by omega)] at hLz
      have K46 := K45.same s46
      refine ⟨by show 1 ≤ sizeLine; decide, fun l0 hl0' => ?_⟩
      have s47 := Same.new (o := .lst [.int 0]) hl0'
      refine ⟨_, rfl, l, _, rfl, .inl (SqL.of ((K46.same s47).sm _ _ hlG)), l0, (rs.length : Int), _, rfl, rfl, upd_same, by omega, by omega, Nat.le_of_lt (small1000000 (n := 1 * ((rs.length : Int)).toNat) (by omega)), fun lr hlr => ?_⟩
      rw [rep_ints]
      have s48 := Same.new (o := .lst ((List.replicate rs.length 0).map V.int)) hlr
      have okz : okDx 5 (.list ((List.replicate ps.length (0 : Int)).map PyData.int)) = true := okD_x 5 _ (ok_ints (n := 4) (by rw [List.length_replicate]; omega))
      refine data_same (d := .list ((List.replicate ps.length (0 : Int)).map PyData.int)) (n := 5) (dp_ints (SqL.of (s48 _ _ (s47 _ _ hLz)))) (dp_ints (SqL.of (by rw [← rl]; exact upd_same))) okz (by decide) ?_
      exact ⟨_, rfl, rfl, (K46.same s47).same s48⟩
    rintro σ H50 ⟨rfl, K50⟩
    refine ⟨fun σ H' => σ = [some (.ref sa), some (.ref p), some (.ref l), some (.int n), some (.ref ld), some (.ref lh), some (.ref lt), v7, some (.ref E1), v9, v10, v11, v12, v13, some (.int 0)] ++ List.replicate 8 none ∧ Dk G3 H' p D2.tail, ?_, ?_⟩
    · exact ⟨rfl, K50⟩
    rintro σ H51 ⟨rfl, K51⟩
    refine ⟨_, rfl, l, rfl, ⟨_, SqL.of (K51.sm _ _ hlG)⟩, for_it (walk_list (K := K) (a := l) (xs := rs)) (fun i σ H' => ∃ (v15 v16 : Option V), σ = [some (.ref sa), some (.ref p), some (.ref l), some (.int n), some (.ref ld), some (.ref lh), some (.ref lt), v7, some (.ref E1), v9, v10, v11, v12, v13, some (.int (topQ n ps i)), v15, v16] ++ List.replicate 6 none ∧ Dk G3 H' p D2.tail) ⟨none, none, rfl, K51⟩ (fun i σ H' _ ⟨_, _, _, k⟩ => SqL.of (k.sm _ _ hlG)) ?_ ?_⟩
    · rintro i v σ H52 H53 hi ⟨v15, v16, rfl, K52⟩ ⟨rfl, hv⟩
      obtain ⟨q0, z0, rfl, hz0, hq0⟩ := rws_at (dpAll_same K52.sm _ _ hRG) hv
      have e3 : (ps.getD i (0, 0)) = z0 := by rw [List.getD_eq_getElem?_getD, hz0]; rfl
      refine ⟨q0, _, rfl, hq0, rfl, _, _, rfl, _, _, rfl, rfl, ?_⟩
      refine ⟨_, rfl, _, rfl, l, _, rfl, .inl (SqL.of (K52.sm _ _ hlG)), _, rfl, by omega, by omega, fun E5 hE5 => ?_⟩
      refine lc_fn (walk_range (lo := 0) (n := rs.length)) (fun (j : Nat) => if (decide ((ps.getD j (0, 0)).1 ≤ (ps.getD i (0, 0)).1) && decide ((ps.getD i (0, 0)).1 < ((srv n [] ps).getD j (0, 0)).1)) = true then some (V.int 1) else none) (by omega) hE5 (fun _ _ => trivial) ?_ ?_
      · rintro j x H54 H55 R Nx hj s54 ⟨rfl, hx⟩ hRR hNx
        have hx2 : x = V.int (0 + j) := hx
        rw [Int.zero_add] at hx2
        subst hx2
        have sy := K52.sm.trans s54
        obtain ⟨qo, o1, o2⟩ := rowD _ j sy (by omega)
        obtain ⟨qj, j1, j2⟩ := row _ j sy (by omega)
        rw [e3] at hRR hNx
        refine ⟨rfl, ?_⟩
        refine ⟨_, rfl, _, rfl, l, _, _, _, rfl, rfl, SqL.of (sy _ _ hlG), atI_nat' rfl j1, qj, _, _, _, rfl, rfl, j2, rfl, _, rfl, _, _, rfl, rfl, _, rfl, ?_⟩
        refine ite2 (fun c1 => ?_) (fun c1 => ?_)
        · refine ⟨_, rfl, _, rfl, ld, _, _, _, rfl, rfl, SqL.of (sy _ _ hDG), atI_nat' rfl o1, qo, _, _, _, rfl, rfl, o2, rfl, _, _, rfl, rfl, _, rfl, ?_⟩
          refine ite2 (fun c2 => ?_) (fun c2 => ?_)
          · exact hRR _ _ (by rw [c1, c2]; rfl) (Same.refl _)
          · exact hNx _ (by rw [Bool.eq_false_iff.mpr c2, Bool.and_false]; rfl) (Same.refl _)
        · refine ⟨_, rfl, ?_⟩
          exact hNx _ (by rw [Bool.eq_false_iff.mpr c1]; rfl) (Same.refl _)
      intro H56 s56 hE5'
      refine ⟨E5, _, rfl, .inl (SqL.of hE5'), _, _, rfl, ?_⟩
      rw [cnt_fm, rl, nat_max, ← topQ_succ]
      exact ⟨_, _, rfl, K52.same s56⟩
    rintro σ H57 ⟨v15, v16, rfl, K57⟩
    rw [rl]
    refine ⟨fun σ H' => σ = [some (.ref sa), some (.ref p), some (.ref l), some (.int n), some (.ref ld), some (.ref lh), some (.ref lt), v7, some (.ref E1), v9, v10, v11, v12, v13, some (.int (topQ n ps ps.length)), v15, v16] ++ List.replicate 6 none ∧ Dk G3 H' p D2.tail, ?_, ?_⟩
    · refine ⟨_, rfl, _, rfl, sp_c_greatest_queue_use ⟨l, rs, ps, n, rfl, SqL.of (K57.sm _ _ hlG), dpAll_same K57.sm _ _ hRG, by omega, fun z => absurd z (by omega), fun _ z => absurd z (by rw [okb]; decide), fun _ _ H58 s58 => ?_⟩⟩
      rw [tn]
      have okz : ∀ z : Int, okD 4 (.int z) = true := fun z => by simp [okD]
      refine ⟨_, .int _, rfl, .int _, okz _, fun v59 H59 s59 dn59 => ?_⟩
      refine ⟨_, rfl, _, .int _, rfl, .int _, okz _, fun v60 H60 s60 dn60 => ?_⟩
      refine plain_test 4 dn59 s60 dn60 (okz _) (by decide) ?_
      exact ⟨rfl, ((K57.same s58).same s59).same s60⟩
    rintro σ H61 ⟨rfl, K61⟩
    refine ⟨_, rfl, take_q K61 (by decide) fun most H62 m0 m1 K62 => ?_⟩
    obtain ⟨Lc, l1, l2, l3, l4⟩ := least_ex (late ps most) (max 1 ps.length) (by omega) (late_many m0 (by omega))
    refine ⟨fun σ H' => ∃ v7 : Option V, σ = [some (.ref sa), some (.ref p), some (.ref l), some (.int n), some (.ref ld), some (.ref lh), some (.ref lt), v7, some (.ref E1), v9, v10, v11, v12, v13, some (.int (topQ n ps ps.length)), v15, v16, some (.int most), some (.int Lc)] ++ List.replicate 4 none ∧ Dk G3 H' p D2.tail.tail, ?_, ?_⟩
    · refine ⟨fun m σ H' => ∃ (j : Nat) (v7 : Option V), j + m = Lc ∧ 1 ≤ j ∧ σ = [some (.ref sa), some (.ref p), some (.ref l), some (.int n), some (.ref ld), some (.ref lh), some (.ref lt), v7, some (.ref E1), v9, v10, v11, v12, v13, some (.int (topQ n ps ps.length)), v15, v16, some (.int most), some (.int j)] ++ List.replicate 4 none ∧ Dk G3 H' p D2.tail.tail, ⟨Lc - 1, 1, v7, by omega, by omega, rfl, K62⟩, ?_⟩
      rintro m σ H63 ⟨j, v7, ej, j1', rfl, K63⟩
      refine ⟨_, rfl, l, _, rfl, .inl (SqL.of (K63.sm _ _ hlG)), _, rfl, by omega, by omega, fun E6 hE6 => ?_⟩
      refine lc_fn (walk_range (lo := 0) (n := rs.length)) (fun (k : Nat) => if decide (((srv j [] ps).getD k (0, 0)).1 - (ps.getD k (0, 0)).1 > most) = true then some (V.int 1) else none) (by omega) hE6 (fun _ _ => trivial) ?_ ?_
      · rintro k x H64 H65 R Nx hk s64 ⟨rfl, hx⟩ hRR hNx
        have hx2 : x = V.int (0 + k) := hx
        rw [Int.zero_add] at hx2
        subst hx2
        have sy := K63.sm.trans s64
        refine ⟨rfl, ?_⟩
        refine ⟨_, rfl, _, rfl, sp_c_law_served_use ⟨l, rs, ps, j, rfl, SqL.of (sy _ _ hlG), dpAll_same sy _ _ hRG, hn, by omega, by omega, hok, hz, fun H66 lz xz s66 hlz hLz hRz => ?_⟩⟩
        rw [Int.toNat_natCast] at hRz
        have hRz' : Rws K H66 xz (srv j [] ps) := dpAll_same (fun c o e => (del_of e).1) _ _ hRz
        have xzl := rws_len hRz'
        rw [srv_len] at xzl
        have hk2 : k < xz.length := by omega
        obtain ⟨qo, z, eo, hzo, o2⟩ := rws_at hRz' (List.getElem?_eq_getElem hk2)
        have o1 : xz[k]? = some (.ref qo) := by rw [List.getElem?_eq_getElem hk2, eo]
        have ez : (srv j [] ps).getD k (0, 0) = z := by rw [List.getD_eq_getElem?_getD, hzo]; rfl
        rw [ez] at hRR hNx
        obtain ⟨qj, j1, j2⟩ := row _ k (sy.trans s66) (by omega)
        refine ⟨_, rfl, lz, _, _, _, rfl, rfl, SqL.of hLz, atI_nat' rfl o1, qo, _, _, _, rfl, rfl, o2, rfl, ?_⟩
        refine ⟨_, rfl, _, rfl, l, _, _, _, rfl, rfl, SqL.of (s66 _ _ (sy _ _ hlG)), atI_nat' rfl j1, qj, _, _, _, rfl, rfl, j2, rfl, _, _, rfl, rfl, _, rfl, _, _, rfl, rfl, _, rfl, ?_⟩
        refine ite2 (fun c1 => ?_) (fun c1 => ?_)
        · exact hRR _ _ (by rw [if_pos c1]) s66
        · exact hNx _ (by rw [if_neg c1]) s66
      intro H67 s67 hE6'
      have K67 := K63.same s67
      refine ⟨E6, _, rfl, .inl (SqL.of hE6'), _, _, rfl, rfl, _, rfl, ?_⟩
      have ltf := late_cnt ps most j
      rw [cnt_fm, rl]
      refine ite2 (fun c => ?_) (fun c => ?_)
      · rw [c] at ltf
        have : j < Lc := by
          refine Nat.lt_of_not_le fun w => ?_
          rw [show j = Lc by omega, l3] at ltf
          cases ltf
        refine ⟨fun σ' H' => σ' = [some (.ref sa), some (.ref p), some (.ref l), some (.int n), some (.ref ld), some (.ref lh), some (.ref lt), v7, some (.ref E1), v9, v10, v11, v12, v13, some (.int (topQ n ps ps.length)), v15, v16, some (.int most), some (.int ((j : Int) + 1))] ++ List.replicate 4 none ∧ Dk G3 H' p D2.tail.tail, fun σ' H' hN => ⟨m - 1, by omega, j + 1, v7, by omega, by omega, hN.1, hN.2⟩, ?_⟩
        exact ⟨_, rfl, _, _, rfl, rfl, rfl, K67⟩
      · rw [Bool.eq_false_iff.mpr c] at ltf
        have : j = Lc := by
          refine Nat.le_antisymm (by omega) (Nat.le_of_not_lt fun w => ?_)
          rw [l4 j j1' w] at ltf
          cases ltf
        rw [this]
        exact ⟨_, rfl, K67⟩
    rintro σ H70 ⟨v7', rfl, K70⟩
    refine ⟨fun σ H' => σ = [some (.ref sa), some (.ref p), some (.ref l), some (.int n), some (.ref ld), some (.ref lh), some (.ref lt), v7', some (.ref E1), v9, v10, v11, v12, v13, some (.int (topQ n ps ps.length)), v15, v16, some (.int most), some (.int Lc)] ++ List.replicate 4 none ∧ Dk G3 H' p D2.tail.tail, ?_, ?_⟩
    · refine ⟨_, rfl, _, rfl, sp_c_least_couriers_use ⟨l, rs, ps, most, rfl, SqL.of (K70.sm _ _ hlG), dpAll_same K70.sm _ _ hRG, by omega, fun z => absurd z (by omega), fun _ z => absurd z (by rw [okb]; decide), fun _ _ => ⟨Lc, l1, l3, l4, fun H71 s71 => ?_⟩⟩⟩
      have okz : ∀ z : Int, okD 4 (.int z) = true := fun z => by simp [okD]
      refine ⟨_, .int _, rfl, .int _, okz _, fun v72 H72 s72 dn72 => ?_⟩
      refine ⟨_, rfl, _, .int _, rfl, .int _, okz _, fun v73 H73 s73 dn73 => ?_⟩
      refine plain_test 4 dn72 s73 dn73 (okz _) (by decide) ?_
      exact ⟨rfl, ((K70.same s71).same s72).same s73⟩
    rintro σ H75 ⟨rfl, K75⟩
    refine ⟨_, rfl, take_q K75 (by decide) fun ask H71 k0x k1x K71 => ?_⟩
    refine ⟨_, rfl, ?_⟩
    refine ⟨by show 2 ≤ sizeLine; decide, fun q10 hq10 => ?_⟩
    have sq10 := Same.new (o := .tup [.int (3), .int (1)]) hq10
    have fq10 : (upd H71 q10 (.tup [.int (3), .int (1)]) : Hp) q10 = some (.tup [.int (3), .int (1)]) := upd_same
    clear sq10
    generalize (upd H71 q10 (.tup [.int (3), .int (1)]) : Hp) = J1_q10 at fq10 ⊢
    refine ⟨by show 2 ≤ sizeLine; decide, fun q11 hq11 => ?_⟩
    have sq11 := Same.new (o := .tup [.int (2), .int (1)]) hq11
    have fq10 := sq11 _ _ fq10
    have fq11 : (upd J1_q10 q11 (.tup [.int (2), .int (1)]) : Hp) q11 = some (.tup [.int (2), .int (1)]) := upd_same
    clear sq11
    generalize (upd J1_q10 q11 (.tup [.int (2), .int (1)]) : Hp) = J1_q11 at fq10 fq11 ⊢
    refine ⟨by show 2 ≤ sizeLine; decide, fun b1 hb1 => ?_⟩
    have sb1 := Same.new (o := .lst [.ref q10, .ref q11]) hb1
    have fq10 := sb1 _ _ fq10
    have fq11 := sb1 _ _ fq11
    have fb1 : (upd J1_q11 b1 (.lst [.ref q10, .ref q11]) : Hp) b1 = some (.lst [.ref q10, .ref q11]) := upd_same
    clear sb1
    generalize (upd J1_q11 b1 (.lst [.ref q10, .ref q11]) : Hp) = J1_b1 at fq10 fq11 fb1 ⊢
    refine sp_c_law_why_use ⟨ask, 0, b1, _, [(3, 1), (2, 1)], "couriers", rfl, k0x, SqL.of fb1, .cons (dp_pd (z := (3, 1)) (SqT.of fq10)) (.cons (dp_pd (z := (2, 1)) (SqT.of fq11)) (.nil)), by decide, .inl ⟨by omega, by decide, rfl⟩, fun J1 z1 => ?_⟩
    refine ⟨_, rfl, ?_⟩
    refine ⟨by show 2 ≤ sizeLine; decide, fun q20 hq20 => ?_⟩
    have sq20 := Same.new (o := .tup [.int (3), .int (1)]) hq20
    have fq20 : (upd J1 q20 (.tup [.int (3), .int (1)]) : Hp) q20 = some (.tup [.int (3), .int (1)]) := upd_same
    clear sq20
    generalize (upd J1 q20 (.tup [.int (3), .int (1)]) : Hp) = J2_q20 at fq20 ⊢
    refine ⟨by show 2 ≤ sizeLine; decide, fun q21 hq21 => ?_⟩
    have sq21 := Same.new (o := .tup [.int (2), .int (1)]) hq21
    have fq20 := sq21 _ _ fq20
    have fq21 : (upd J2_q20 q21 (.tup [.int (2), .int (1)]) : Hp) q21 = some (.tup [.int (2), .int (1)]) := upd_same
    clear sq21
    generalize (upd J2_q20 q21 (.tup [.int (2), .int (1)]) : Hp) = J2_q21 at fq20 fq21 ⊢
    refine ⟨by show 2 ≤ sizeLine; decide, fun b2 hb2 => ?_⟩
    have sb2 := Same.new (o := .lst [.ref q20, .ref q21]) hb2
    have fq20 := sb2 _ _ fq20
    have fq21 := sb2 _ _ fq21
    have fb2 : (upd J2_q21 b2 (.lst [.ref q20, .ref q21]) : Hp) b2 = some (.lst [.ref q20, .ref q21]) := upd_same
    clear sb2
    generalize (upd J2_q21 b2 (.lst [.ref q20, .ref q21]) : Hp) = J2_b2 at fq20 fq21 fb2 ⊢
    refine sp_c_law_why_use ⟨ask, 1, b2, _, [(3, 1), (2, 1)], "jobs", rfl, k0x, SqL.of fb2, .cons (dp_pd (z := (3, 1)) (SqT.of fq20)) (.cons (dp_pd (z := (2, 1)) (SqT.of fq21)) (.nil)), by decide, .inr (.inl ⟨by omega, by decide, by decide, rfl⟩), fun J2 z2 => ?_⟩
    refine ⟨_, rfl, ?_⟩
    refine ⟨_, rfl, by show 2 ≤ sizeLine; decide, fun q30 hq30 => ?_⟩
    have sq30 := Same.new (o := .tup [.int (3), .int (-1)]) hq30
    have fq30 : (upd J2 q30 (.tup [.int (3), .int (-1)]) : Hp) q30 = some (.tup [.int (3), .int (-1)]) := upd_same
    clear sq30
    generalize (upd J2 q30 (.tup [.int (3), .int (-1)]) : Hp) = J3_q30 at fq30 ⊢
    refine ⟨by show 1 ≤ sizeLine; decide, fun b3 hb3 => ?_⟩
    have sb3 := Same.new (o := .lst [.ref q30]) hb3
    have fq30 := sb3 _ _ fq30
    have fb3 : (upd J3_q30 b3 (.lst [.ref q30]) : Hp) b3 = some (.lst [.ref q30]) := upd_same
    clear sb3
    generalize (upd J3_q30 b3 (.lst [.ref q30]) : Hp) = J3_b3 at fq30 fb3 ⊢
    refine sp_c_law_why_use ⟨ask, 2, b3, _, [(3, -1)], "jobs", rfl, k0x, SqL.of fb3, .cons (dp_pd (z := (3, -1)) (SqT.of fq30)) (.nil), by decide, .inr (.inl ⟨by omega, by decide, by decide, rfl⟩), fun J3 z3 => ?_⟩
    refine ⟨by show 3 ≤ sizeLine; decide, fun la hla => ?_⟩
    have fla : (upd J3 la (.lst [.str "couriers", .str "jobs", .str "jobs"]) : Hp) la = some (.lst [.str "couriers", .str "jobs", .str "jobs"]) := upd_same
    generalize (upd J3 la (.lst [.str "couriers", .str "jobs", .str "jobs"]) : Hp) = J3a at fla ⊢
    refine ⟨_, rfl, ?_⟩
    refine ⟨by show 2 ≤ sizeLine; decide, fun q40 hq40 => ?_⟩
    have sq40 := Same.new (o := .tup [.int (3), .int (1)]) hq40
    have fla := sq40 _ _ fla
    have fq40 : (upd J3a q40 (.tup [.int (3), .int (1)]) : Hp) q40 = some (.tup [.int (3), .int (1)]) := upd_same
    clear sq40
    generalize (upd J3a q40 (.tup [.int (3), .int (1)]) : Hp) = J4_q40 at fla fq40 ⊢
    refine ⟨by show 2 ≤ sizeLine; decide, fun q41 hq41 => ?_⟩
    have sq41 := Same.new (o := .tup [.int (2), .int (1)]) hq41
    have fla := sq41 _ _ fla
    have fq40 := sq41 _ _ fq40
    have fq41 : (upd J4_q40 q41 (.tup [.int (2), .int (1)]) : Hp) q41 = some (.tup [.int (2), .int (1)]) := upd_same
    clear sq41
    generalize (upd J4_q40 q41 (.tup [.int (2), .int (1)]) : Hp) = J4_q41 at fla fq40 fq41 ⊢
    refine ⟨by show 2 ≤ sizeLine; decide, fun b4 hb4 => ?_⟩
    have sb4 := Same.new (o := .lst [.ref q40, .ref q41]) hb4
    have fla := sb4 _ _ fla
    have fq40 := sb4 _ _ fq40
    have fq41 := sb4 _ _ fq41
    have fb4 : (upd J4_q41 b4 (.lst [.ref q40, .ref q41]) : Hp) b4 = some (.lst [.ref q40, .ref q41]) := upd_same
    clear sb4
    generalize (upd J4_q41 b4 (.lst [.ref q40, .ref q41]) : Hp) = J4_b4 at fla fq40 fq41 fb4 ⊢
    refine ⟨_, rfl, sp_c_law_why_use ⟨3, (-1), b4, _, [(3, 1), (2, 1)], "wait", rfl, by decide, SqL.of fb4, .cons (dp_pd (z := (3, 1)) (SqT.of fq40)) (.cons (dp_pd (z := (2, 1)) (SqT.of fq41)) (.nil)), by decide, .inr (.inr (.inl ⟨by decide, by decide, rfl⟩)), fun J4 z4 => ?_⟩⟩
    have fla := z4 _ _ fla
    refine ⟨_, rfl, by show 2 ≤ sizeLine; decide, fun q50 hq50 => ?_⟩
    have sq50 := Same.new (o := .tup [.int (3), .int (-1)]) hq50
    have fla := sq50 _ _ fla
    have fq50 : (upd J4 q50 (.tup [.int (3), .int (-1)]) : Hp) q50 = some (.tup [.int (3), .int (-1)]) := upd_same
    clear sq50
    generalize (upd J4 q50 (.tup [.int (3), .int (-1)]) : Hp) = J5_q50 at fla fq50 ⊢
    refine ⟨by show 1 ≤ sizeLine; decide, fun b5 hb5 => ?_⟩
    have sb5 := Same.new (o := .lst [.ref q50]) hb5
    have fla := sb5 _ _ fla
    have fq50 := sb5 _ _ fq50
    have fb5 : (upd J5_q50 b5 (.lst [.ref q50]) : Hp) b5 = some (.lst [.ref q50]) := upd_same
    clear sb5
    generalize (upd J5_q50 b5 (.lst [.ref q50]) : Hp) = J5_b5 at fla fq50 fb5 ⊢
    refine sp_c_law_why_use ⟨3, 0, b5, _, [(3, -1)], "jobs", rfl, by decide, SqL.of fb5, .cons (dp_pd (z := (3, -1)) (SqT.of fq50)) (.nil), by decide, .inr (.inr (.inr ⟨by decide, by decide, by decide, rfl⟩)), fun J5 z5 => ?_⟩
    have fla := z5 _ _ fla
    refine ⟨by show 2 ≤ sizeLine; decide, fun lc hlc => ?_⟩
    have u1 := Same.new (o := .lst [.str "wait", .str "jobs"]) hlc
    refine ⟨la, lc, _, _, rfl, rfl, u1 _ _ fla, upd_same, by show 5 ≤ sizeLine; decide, fun le hle => ?_⟩
    refine ⟨by show 5 ≤ sizeLine; decide, fun lg hlg => ?_⟩
    have u2 := Same.new (o := .lst [.str "couriers", .str "jobs", .str "jobs", .str "wait", .str "jobs"]) hlg
    refine data_eq (d := .list [.str "couriers", .str "jobs", .str "jobs", .str "wait", .str "jobs"]) (n := 1) (.lst (SqL.of (u2 _ _ upd_same)) (.cons (.str _) (.cons (.str _) (.cons (.str _) (.cons (.str _) (.cons (.str _) .nil)))))) (.lst (SqL.of upd_same) (.cons (.str _) (.cons (.str _) (.cons (.str _) (.cons (.str _) (.cons (.str _) .nil)))))) (by decide +kernel) (by decide) ?_
    exact k _
theorem all_mk {l : PySem.W.OpenLaw} {w : World} {K : PySem.W.Frag} {h : Heap} {mg : Str → Option Value} {fa : Addr} (X : K.In h) (G : h.Ns mainGlobals mg) (hfa : mg "law" = some (.ref fa))
    {C_SlotError C_InvalidTime C_InvalidTable : Addr}
    {f0 : Addr} {od0 an0 : Option Addr} {sl0 : Array (Option Value)} {oc0 kV0 dc0 pm0 cd0 ct0 : Value}
    {f1 : Addr} {od1 an1 : Option Addr} {sl1 : Array (Option Value)} {oc1 kV1 dc1 pm1 cd1 ct1 : Value}
    {f2 : Addr} {od2 an2 : Option Addr} {sl2 : Array (Option Value)} {oc2 kV2 dc2 pm2 cd2 ct2 : Value}
    {f3 : Addr} {od3 an3 : Option Addr} {sl3 : Array (Option Value)} {oc3 kV3 dc3 pm3 cd3 ct3 : Value}
    {f4 : Addr} {od4 an4 : Option Addr} {sl4 : Array (Option Value)} {oc4 kV4 dc4 pm4 cd4 ct4 : Value}
    {f5 : Addr} {od5 an5 : Option Addr} {sl5 : Array (Option Value)} {oc5 kV5 dc5 pm5 cd5 ct5 : Value}
    {f6 : Addr} {od6 an6 : Option Addr} {sl6 : Array (Option Value)} {oc6 kV6 dc6 pm6 cd6 ct6 : Value}
    {f7 : Addr} {od7 an7 : Option Addr} {sl7 : Array (Option Value)} {oc7 kV7 dc7 pm7 cd7 ct7 : Value}
    {f8 : Addr} {od8 an8 : Option Addr} {sl8 : Array (Option Value)} {oc8 kV8 dc8 pm8 cd8 ct8 : Value}
    {f9 : Addr} {od9 an9 : Option Addr} {sl9 : Array (Option Value)} {oc9 kV9 dc9 pm9 cd9 ct9 : Value}
    {f10 : Addr} {od10 an10 : Option Addr} {sl10 : Array (Option Value)} {oc10 kV10 dc10 pm10 cd10 ct10 : Value}
    {f11 : Addr} {od11 an11 : Option Addr} {sl11 : Array (Option Value)} {oc11 kV11 dc11 pm11 cd11 ct11 : Value}
    {f12 : Addr} {od12 an12 : Option Addr} {sl12 : Array (Option Value)} {oc12 kV12 dc12 pm12 cd12 ct12 : Value}
    {f13 : Addr} {od13 an13 : Option Addr} {sl13 : Array (Option Value)} {oc13 kV13 dc13 pm13 cd13 ct13 : Value}
    {f14 : Addr} {od14 an14 : Option Addr} {sl14 : Array (Option Value)} {oc14 kV14 dc14 pm14 cd14 ct14 : Value}
    {nm_InvalidTime q_InvalidTime : Str} {N_InvalidTime : Addr} {bs_InvalidTime bm_InvalidTime : List Value} {sn_InvalidTime : List Str} {sub_InvalidTime : List Value} {ab_InvalidTime : Bool} {col_InvalidTime : Option Bool} {dd_InvalidTime : Option Addr} {m0_InvalidTime m1_InvalidTime m2_InvalidTime m3_InvalidTime m5_InvalidTime : Option Value}
    {nm_InvalidTable q_InvalidTable : Str} {N_InvalidTable : Addr} {bs_InvalidTable bm_InvalidTable : List Value} {sn_InvalidTable : List Str} {sub_InvalidTable : List Value} {ab_InvalidTable : Bool} {col_InvalidTable : Option Bool} {dd_InvalidTable : Option Addr} {m0_InvalidTable m1_InvalidTable m2_InvalidTable m3_InvalidTable m5_InvalidTable : Option Value}
    (g_SlotError : PySem.W.nsIn K mainGlobals "SlotError" = some (some (.ref C_SlotError)))
    (g_InvalidTime : PySem.W.nsIn K mainGlobals "InvalidTime" = some (some (.ref C_InvalidTime)))
    (g_InvalidTable : PySem.W.nsIn K mainGlobals "InvalidTable" = some (some (.ref C_InvalidTable)))
    (a0 : PySem.W.findIn K (.ref C_InvalidTime) "__init__" = some (some (.ref f0)))
    (l0 : K.lookup f0 = some ⟨oc0, od0, .func (PySem.W.fnOf "__init__" "InvalidTime.__init__" (defArgs st_c_InvalidTime_init) (defBody st_c_InvalidTime_init) (defScope st_c_InvalidTime_init) .none kV0 dc0 pm0 an0 cd0 ct0), sl0⟩)
    (c0 : PySem.W.codeIn K cd0 "InvalidTime.__init__" = true)
    (k0 : PySem.W.keepIn K (.ref f0) = true)
    (a1 : PySem.W.findIn K (.ref C_InvalidTable) "__init__" = some (some (.ref f1)))
    (l1 : K.lookup f1 = some ⟨oc1, od1, .func (PySem.W.fnOf "__init__" "InvalidTable.__init__" (defArgs st_c_InvalidTable_init) (defBody st_c_InvalidTable_init) (defScope st_c_InvalidTable_init) .none kV1 dc1 pm1 an1 cd1 ct1), sl1⟩)
    (c1 : PySem.W.codeIn K cd1 "InvalidTable.__init__" = true)
    (k1 : PySem.W.keepIn K (.ref f1) = true)
    (a2 : PySem.W.nsIn K mainGlobals "check_queue" = some (some (.ref f2)))
    (l2 : K.lookup f2 = some ⟨oc2, od2, .func (PySem.W.fnOf "check_queue" "check_queue" (defArgs st_c_check_queue) (defBody st_c_check_queue) (defScope st_c_check_queue) .none kV2 dc2 pm2 an2 cd2 ct2), sl2⟩)
    (c2 : PySem.W.codeIn K cd2 "check_queue" = true)
    (k2 : PySem.W.keepIn K (.ref f2) = true)
    (a3 : PySem.W.nsIn K mainGlobals "served" = some (some (.ref f3)))
    (l3 : K.lookup f3 = some ⟨oc3, od3, .func (PySem.W.fnOf "served" "served" (defArgs st_c_served) (defBody st_c_served) (defScope st_c_served) .none kV3 dc3 pm3 an3 cd3 ct3), sl3⟩)
    (c3 : PySem.W.codeIn K cd3 "served" = true)
    (k3 : PySem.W.keepIn K (.ref f3) = true)
    (a4 : PySem.W.nsIn K mainGlobals "waits" = some (some (.ref f4)))
    (l4 : K.lookup f4 = some ⟨oc4, od4, .func (PySem.W.fnOf "waits" "waits" (defArgs st_c_waits) (defBody st_c_waits) (defScope st_c_waits) .none kV4 dc4 pm4 an4 cd4 ct4), sl4⟩)
    (c4 : PySem.W.codeIn K cd4 "waits" = true)
    (k4 : PySem.W.keepIn K (.ref f4) = true)
    (a5 : PySem.W.nsIn K mainGlobals "greatest_queue" = some (some (.ref f5)))
    (l5 : K.lookup f5 = some ⟨oc5, od5, .func (PySem.W.fnOf "greatest_queue" "greatest_queue" (defArgs st_c_greatest_queue) (defBody st_c_greatest_queue) (defScope st_c_greatest_queue) .none kV5 dc5 pm5 an5 cd5 ct5), sl5⟩)
    (c5 : PySem.W.codeIn K cd5 "greatest_queue" = true)
    (k5 : PySem.W.keepIn K (.ref f5) = true)
    (a6 : PySem.W.nsIn K mainGlobals "least_couriers" = some (some (.ref f6)))
    (l6 : K.lookup f6 = some ⟨oc6, od6, .func (PySem.W.fnOf "least_couriers" "least_couriers" (defArgs st_c_least_couriers) (defBody st_c_least_couriers) (defScope st_c_least_couriers) .none kV6 dc6 pm6 an6 cd6 ct6), sl6⟩)
    (c6 : PySem.W.codeIn K cd6 "least_couriers" = true)
    (k6 : PySem.W.keepIn K (.ref f6) = true)
    (a7 : PySem.W.nsIn K mainGlobals "_law_deck" = some (some (.ref f7)))
    (l7 : K.lookup f7 = some ⟨oc7, od7, .func (PySem.W.fnOf "_law_deck" "_law_deck" (defArgs st_c_law_deck) (defBody st_c_law_deck) (defScope st_c_law_deck) .none kV7 dc7 pm7 an7 cd7 ct7), sl7⟩)
    (c7 : PySem.W.codeIn K cd7 "_law_deck" = true)
    (k7 : PySem.W.keepIn K (.ref f7) = true)
    (a8 : PySem.W.nsIn K mainGlobals "_law_take" = some (some (.ref f8)))
    (l8 : K.lookup f8 = some ⟨oc8, od8, .func (PySem.W.fnOf "_law_take" "_law_take" (defArgs st_c_law_take) (defBody st_c_law_take) (defScope st_c_law_take) .none kV8 dc8 pm8 an8 cd8 ct8), sl8⟩)
    (c8 : PySem.W.codeIn K cd8 "_law_take" = true)
    (k8 : PySem.W.keepIn K (.ref f8) = true)
    (a9 : PySem.W.nsIn K mainGlobals "_law_plain" = some (some (.ref f9)))
    (l9 : K.lookup f9 = some ⟨oc9, od9, .func (PySem.W.fnOf "_law_plain" "_law_plain" (defArgs st_c_law_plain) (defBody st_c_law_plain) (defScope st_c_law_plain) .none kV9 dc9 pm9 an9 cd9 ct9), sl9⟩)
    (c9 : PySem.W.codeIn K cd9 "_law_plain" = true)
    (k9 : PySem.W.keepIn K (.ref f9) = true)
    (a10 : PySem.W.nsIn K mainGlobals "_law_spoil" = some (some (.ref f10)))
    (l10 : K.lookup f10 = some ⟨oc10, od10, .func (PySem.W.fnOf "_law_spoil" "_law_spoil" (defArgs st_c_law_spoil) (defBody st_c_law_spoil) (defScope st_c_law_spoil) .none kV10 dc10 pm10 an10 cd10 ct10), sl10⟩)
    (c10 : PySem.W.codeIn K cd10 "_law_spoil" = true)
    (k10 : PySem.W.keepIn K (.ref f10) = true)
    (a11 : PySem.W.nsIn K mainGlobals "_law_jobs" = some (some (.ref f11)))
    (l11 : K.lookup f11 = some ⟨oc11, od11, .func (PySem.W.fnOf "_law_jobs" "_law_jobs" (defArgs st_c_law_jobs) (defBody st_c_law_jobs) (defScope st_c_law_jobs) .none kV11 dc11 pm11 an11 cd11 ct11), sl11⟩)
    (c11 : PySem.W.codeIn K cd11 "_law_jobs" = true)
    (k11 : PySem.W.keepIn K (.ref f11) = true)
    (a12 : PySem.W.nsIn K mainGlobals "_law_served" = some (some (.ref f12)))
    (l12 : K.lookup f12 = some ⟨oc12, od12, .func (PySem.W.fnOf "_law_served" "_law_served" (defArgs st_c_law_served) (defBody st_c_law_served) (defScope st_c_law_served) .none kV12 dc12 pm12 an12 cd12 ct12), sl12⟩)
    (c12 : PySem.W.codeIn K cd12 "_law_served" = true)
    (k12 : PySem.W.keepIn K (.ref f12) = true)
    (a13 : PySem.W.nsIn K mainGlobals "_law_why" = some (some (.ref f13)))
    (l13 : K.lookup f13 = some ⟨oc13, od13, .func (PySem.W.fnOf "_law_why" "_law_why" (defArgs st_c_law_why) (defBody st_c_law_why) (defScope st_c_law_why) .none kV13 dc13 pm13 an13 cd13 ct13), sl13⟩)
    (c13 : PySem.W.codeIn K cd13 "_law_why" = true)
    (k13 : PySem.W.keepIn K (.ref f13) = true)
    (a14 : PySem.W.nsIn K mainGlobals "law" = some (some (.ref f14)))
    (l14 : K.lookup f14 = some ⟨oc14, od14, .func (PySem.W.fnOf "law" "law" (defArgs st_c_law) (defBody st_c_law) (defScope st_c_law) .none kV14 dc14 pm14 an14 cd14 ct14), sl14⟩)
    (c14 : PySem.W.codeIn K cd14 "law" = true)
    (k14 : PySem.W.keepIn K (.ref f14) = true)
    (b1_SlotError : PySem.W.specialIn K (.ref C_SlotError) "__getattribute__" = some (some (.builtin "type.__getattribute__")))
    (b2_SlotError : PySem.W.readsIn K C_SlotError (.type "type") = true)
    (b3_SlotError : PySem.W.findCls K (.ref C_SlotError) (.type "type") "__init__" = some (.val (.builtin "ValueError.__init__")))
    (x_InvalidTime : K.lookup C_InvalidTime = some (excClassObj nm_InvalidTime q_InvalidTime C_InvalidTime N_InvalidTime bs_InvalidTime bm_InvalidTime true sn_InvalidTime sub_InvalidTime ab_InvalidTime col_InvalidTime dd_InvalidTime m0_InvalidTime m1_InvalidTime m2_InvalidTime m3_InvalidTime m5_InvalidTime "ValueError.__new__"))
    (rv_InvalidTime : PySem.HandSPX.refsVE bm_InvalidTime = true)
    (sa_InvalidTime : PySem.W.findIn K (.ref C_InvalidTime) "__setattr__" = some (some (.builtin "object.__setattr__")))
    (ga_InvalidTime : PySem.W.findIn K (.ref C_InvalidTime) "__getattribute__" = some (some (.builtin "BaseException.__getattribute__")))
    (gg_InvalidTime : PySem.W.findIn K (.ref C_InvalidTime) "__getattr__" = some none)
    (kC_InvalidTime : PySem.W.keepIn K (.ref C_InvalidTime) = true)
    (eC_InvalidTime : PySem.W.subIn K (.ref C_InvalidTime) (.type "BaseException") = some true)
    (tC_InvalidTime : PySem.W.typeIn K (.ref C_InvalidTime) = some (.type "type"))
    (hC_InvalidTime : PySem.W.hasDictIn K C_InvalidTime = true)
    (ic_InvalidTime : (PySem.W.clsIn K C_InvalidTime).isSome = true)
    (cc_InvalidTime : PySem.W.findIn K (.ref C_InvalidTime) "__class__" = some (some (.builtin "object.__class__")))
    (mo_InvalidTime : PySem.W.mroIn K C_InvalidTime (.type "object") = some true)
    (ti_InvalidTime : PySem.W.typeIn K (.ref f0) = some (.type "function"))
    (no_InvalidTime_what : PySem.W.findIn K (.ref C_InvalidTime) "what" = some none)
    (em_InvalidTime_SlotError : PySem.W.exmOne K (.ref C_InvalidTime) (.ref C_SlotError) = some true)
    (em_InvalidTime_InvalidTime : PySem.W.exmOne K (.ref C_InvalidTime) (.ref C_InvalidTime) = some true)
    (x_InvalidTable : K.lookup C_InvalidTable = some (excClassObj nm_InvalidTable q_InvalidTable C_InvalidTable N_InvalidTable bs_InvalidTable bm_InvalidTable true sn_InvalidTable sub_InvalidTable ab_InvalidTable col_InvalidTable dd_InvalidTable m0_InvalidTable m1_InvalidTable m2_InvalidTable m3_InvalidTable m5_InvalidTable "ValueError.__new__"))
    (rv_InvalidTable : PySem.HandSPX.refsVE bm_InvalidTable = true)
    (sa_InvalidTable : PySem.W.findIn K (.ref C_InvalidTable) "__setattr__" = some (some (.builtin "object.__setattr__")))
    (ga_InvalidTable : PySem.W.findIn K (.ref C_InvalidTable) "__getattribute__" = some (some (.builtin "BaseException.__getattribute__")))
    (gg_InvalidTable : PySem.W.findIn K (.ref C_InvalidTable) "__getattr__" = some none)
    (kC_InvalidTable : PySem.W.keepIn K (.ref C_InvalidTable) = true)
    (eC_InvalidTable : PySem.W.subIn K (.ref C_InvalidTable) (.type "BaseException") = some true)
    (tC_InvalidTable : PySem.W.typeIn K (.ref C_InvalidTable) = some (.type "type"))
    (hC_InvalidTable : PySem.W.hasDictIn K C_InvalidTable = true)
    (ic_InvalidTable : (PySem.W.clsIn K C_InvalidTable).isSome = true)
    (cc_InvalidTable : PySem.W.findIn K (.ref C_InvalidTable) "__class__" = some (some (.builtin "object.__class__")))
    (mo_InvalidTable : PySem.W.mroIn K C_InvalidTable (.type "object") = some true)
    (ti_InvalidTable : PySem.W.typeIn K (.ref f1) = some (.type "function"))
    (no_InvalidTable_what : PySem.W.findIn K (.ref C_InvalidTable) "what" = some none)
    (em_InvalidTable_SlotError : PySem.W.exmOne K (.ref C_InvalidTable) (.ref C_SlotError) = some true)
    (em_InvalidTable_InvalidTable : PySem.W.exmOne K (.ref C_InvalidTable) (.ref C_InvalidTable) = some true)
    (z_hn : PySem.W.specialIn K (.builtin "object.__class__") "__get__" = some (some (.builtin "getset_descriptor.__get__")))
    (z_ht : PySem.W.takesIn K (.builtin "object.__class__") = some true)
    (kt_InvalidTable_InvalidTable : PySem.W.kitOne K (.ref C_InvalidTable) (.ref C_InvalidTable) = some true)
    (kt_InvalidTable_InvalidTime : PySem.W.kitOne K (.ref C_InvalidTable) (.ref C_InvalidTime) = some false)
    (n_abs : PySem.W.nsIn K mainGlobals "abs" = some none)
    (n_any : PySem.W.nsIn K mainGlobals "any" = some none)
    (n_bool : PySem.W.nsIn K mainGlobals "bool" = some none)
    (n_int : PySem.W.nsIn K mainGlobals "int" = some none)
    (n_isinstance : PySem.W.nsIn K mainGlobals "isinstance" = some none)
    (n_len : PySem.W.nsIn K mainGlobals "len" = some none)
    (n_list : PySem.W.nsIn K mainGlobals "list" = some none)
    (n_max : PySem.W.nsIn K mainGlobals "max" = some none)
    (n_min : PySem.W.nsIn K mainGlobals "min" = some none)
    (n_range : PySem.W.nsIn K mainGlobals "range" = some none)
    (n_sorted : PySem.W.nsIn K mainGlobals "sorted" = some none)
    (n_str : PySem.W.nsIn K mainGlobals "str" = some none)
    (n_tuple : PySem.W.nsIn K mainGlobals "tuple" = some none)
    (n_zip : PySem.W.nsIn K mainGlobals "zip" = some none)
    : ∃ fd : FuncData, (∀ (s : Shared) (v : Value), BindsTo s fd ⟨[v], []⟩ [("script", v)]) ∧ ∀ base : Heap, K.In base → base.Ns mainGlobals mg → FnOk l.prog w K mg base (L2.CX l.prog w) 8 fa fd ["script"] (sp_c_law K) := by
  have e := hfa.symm.trans (PySem.W.mg_of X G a14)
  cases e
  have T : Txt K mg { f_c_InvalidTime_init := f0, d_c_InvalidTime_init := (PySem.W.fnOf "__init__" "InvalidTime.__init__" (defArgs st_c_InvalidTime_init) (defBody st_c_InvalidTime_init) (defScope st_c_InvalidTime_init) .none kV0 dc0 pm0 an0 cd0 ct0), f_c_InvalidTable_init := f1, d_c_InvalidTable_init := (PySem.W.fnOf "__init__" "InvalidTable.__init__" (defArgs st_c_InvalidTable_init) (defBody st_c_InvalidTable_init) (defScope st_c_InvalidTable_init) .none kV1 dc1 pm1 an1 cd1 ct1), f_c_check_queue := f2, d_c_check_queue := (PySem.W.fnOf "check_queue" "check_queue" (defArgs st_c_check_queue) (defBody st_c_check_queue) (defScope st_c_check_queue) .none kV2 dc2 pm2 an2 cd2 ct2), f_c_served := f3, d_c_served := (PySem.W.fnOf "served" "served" (defArgs st_c_served) (defBody st_c_served) (defScope st_c_served) .none kV3 dc3 pm3 an3 cd3 ct3), f_c_waits := f4, d_c_waits := (PySem.W.fnOf "waits" "waits" (defArgs st_c_waits) (defBody st_c_waits) (defScope st_c_waits) .none kV4 dc4 pm4 an4 cd4 ct4), f_c_greatest_queue := f5, d_c_greatest_queue := (PySem.W.fnOf "greatest_queue" "greatest_queue" (defArgs st_c_greatest_queue) (defBody st_c_greatest_queue) (defScope st_c_greatest_queue) .none kV5 dc5 pm5 an5 cd5 ct5), f_c_least_couriers := f6, d_c_least_couriers := (PySem.W.fnOf "least_couriers" "least_couriers" (defArgs st_c_least_couriers) (defBody st_c_least_couriers) (defScope st_c_least_couriers) .none kV6 dc6 pm6 an6 cd6 ct6), f_c_law_deck := f7, d_c_law_deck := (PySem.W.fnOf "_law_deck" "_law_deck" (defArgs st_c_law_deck) (defBody st_c_law_deck) (defScope st_c_law_deck) .none kV7 dc7 pm7 an7 cd7 ct7), f_c_law_take := f8, d_c_law_take := (PySem.W.fnOf "_law_take" "_law_take" (defArgs st_c_law_take) (defBody st_c_law_take) (defScope st_c_law_take) .none kV8 dc8 pm8 an8 cd8 ct8), f_c_law_plain := f9, d_c_law_plain := (PySem.W.fnOf "_law_plain" "_law_plain" (defArgs st_c_law_plain) (defBody st_c_law_plain) (defScope st_c_law_plain) .none kV9 dc9 pm9 an9 cd9 ct9), f_c_law_spoil := f10, d_c_law_spoil := (PySem.W.fnOf "_law_spoil" "_law_spoil" (defArgs st_c_law_spoil) (defBody st_c_law_spoil) (defScope st_c_law_spoil) .none kV10 dc10 pm10 an10 cd10 ct10), f_c_law_jobs := f11, d_c_law_jobs := (PySem.W.fnOf "_law_jobs" "_law_jobs" (defArgs st_c_law_jobs) (defBody st_c_law_jobs) (defScope st_c_law_jobs) .none kV11 dc11 pm11 an11 cd11 ct11), f_c_law_served := f12, d_c_law_served := (PySem.W.fnOf "_law_served" "_law_served" (defArgs st_c_law_served) (defBody st_c_law_served) (defScope st_c_law_served) .none kV12 dc12 pm12 an12 cd12 ct12), f_c_law_why := f13, d_c_law_why := (PySem.W.fnOf "_law_why" "_law_why" (defArgs st_c_law_why) (defBody st_c_law_why) (defScope st_c_law_why) .none kV13 dc13 pm13 an13 cd13 ct13), f_c_law := fa, d_c_law := (PySem.W.fnOf "law" "law" (defArgs st_c_law) (defBody st_c_law) (defScope st_c_law) .none kV14 dc14 pm14 an14 cd14 ct14), C_SlotError := C_SlotError, C_InvalidTime := C_InvalidTime, C_InvalidTable := C_InvalidTable } := {
    F_c_InvalidTime_init := fun_mk (st := st_c_InvalidTime_init) l0 c0 k0
    b_c_InvalidTime_init := (fun_mk (st := st_c_InvalidTime_init) l0 c0 k0).binds (ps := ["self", "what"]) fun _ _ _ _ _ _ us hl => match us, hl with | [_, _], _ => rfl
    F_c_InvalidTable_init := fun_mk (st := st_c_InvalidTable_init) l1 c1 k1
    b_c_InvalidTable_init := (fun_mk (st := st_c_InvalidTable_init) l1 c1 k1).binds (ps := ["self", "what"]) fun _ _ _ _ _ _ us hl => match us, hl with | [_, _], _ => rfl
    F_c_check_queue := fun_mk (st := st_c_check_queue) l2 c2 k2
    b_c_check_queue := (fun_mk (st := st_c_check_queue) l2 c2 k2).binds (ps := ["jobs", "couriers"]) fun _ _ _ _ _ _ us hl => match us, hl with | [_, _], _ => rfl
    m_c_check_queue := PySem.W.mg_of X G a2
    F_c_served := fun_mk (st := st_c_served) l3 c3 k3
    b_c_served := (fun_mk (st := st_c_served) l3 c3 k3).binds (ps := ["jobs", "couriers"]) fun _ _ _ _ _ _ us hl => match us, hl with | [_, _], _ => rfl
    m_c_served := PySem.W.mg_of X G a3
    F_c_waits := fun_mk (st := st_c_waits) l4 c4 k4
    b_c_waits := (fun_mk (st := st_c_waits) l4 c4 k4).binds (ps := ["jobs", "couriers"]) fun _ _ _ _ _ _ us hl => match us, hl with | [_, _], _ => rfl
    m_c_waits := PySem.W.mg_of X G a4
    F_c_greatest_queue := fun_mk (st := st_c_greatest_queue) l5 c5 k5
    b_c_greatest_queue := (fun_mk (st := st_c_greatest_queue) l5 c5 k5).binds (ps := ["jobs", "couriers"]) fun _ _ _ _ _ _ us hl => match us, hl with | [_, _], _ => rfl
    m_c_greatest_queue := PySem.W.mg_of X G a5
    F_c_least_couriers := fun_mk (st := st_c_least_couriers) l6 c6 k6
    b_c_least_couriers := (fun_mk (st := st_c_least_couriers) l6 c6 k6).binds (ps := ["jobs", "most_wait"]) fun _ _ _ _ _ _ us hl => match us, hl with | [_, _], _ => rfl
    m_c_least_couriers := PySem.W.mg_of X G a6
    F_c_law_deck := fun_mk (st := st_c_law_deck) l7 c7 k7
    b_c_law_deck := (fun_mk (st := st_c_law_deck) l7 c7 k7).binds (ps := ["script", "cells", "each"]) fun _ _ _ _ _ _ us hl => match us, hl with | [_, _, _], _ => rfl
    m_c_law_deck := PySem.W.mg_of X G a7
    F_c_law_take := fun_mk (st := st_c_law_take) l8 c8 k8
    b_c_law_take := (fun_mk (st := st_c_law_take) l8 c8 k8).binds (ps := ["deck", "many"]) fun _ _ _ _ _ _ us hl => match us, hl with | [_, _], _ => rfl
    m_c_law_take := PySem.W.mg_of X G a8
    F_c_law_plain := fun_mk (st := st_c_law_plain) l9 c9 k9
    b_c_law_plain := (fun_mk (st := st_c_law_plain) l9 c9 k9).binds (ps := ["value"]) fun _ _ _ _ _ _ us hl => match us, hl with | [_], _ => rfl
    m_c_law_plain := PySem.W.mg_of X G a9
    F_c_law_spoil := fun_mk (st := st_c_law_spoil) l10 c10 k10
    b_c_law_spoil := (fun_mk (st := st_c_law_spoil) l10 c10 k10).binds (ps := ["value"]) fun _ _ _ _ _ _ us hl => match us, hl with | [_], _ => rfl
    m_c_law_spoil := PySem.W.mg_of X G a10
    F_c_law_jobs := fun_mk (st := st_c_law_jobs) l11 c11 k11
    b_c_law_jobs := (fun_mk (st := st_c_law_jobs) l11 c11 k11).binds (ps := ["deck"]) fun _ _ _ _ _ _ us hl => match us, hl with | [_], _ => rfl
    m_c_law_jobs := PySem.W.mg_of X G a11
    F_c_law_served := fun_mk (st := st_c_law_served) l12 c12 k12
    b_c_law_served := (fun_mk (st := st_c_law_served) l12 c12 k12).binds (ps := ["jobs", "couriers"]) fun _ _ _ _ _ _ us hl => match us, hl with | [_, _], _ => rfl
    m_c_law_served := PySem.W.mg_of X G a12
    F_c_law_why := fun_mk (st := st_c_law_why) l13 c13 k13
    b_c_law_why := (fun_mk (st := st_c_law_why) l13 c13 k13).binds (ps := ["ask", "jobs", "couriers"]) fun _ _ _ _ _ _ us hl => match us, hl with | [_, _, _], _ => rfl
    m_c_law_why := PySem.W.mg_of X G a13
    F_c_law := fun_mk (st := st_c_law) l14 c14 k14
    b_c_law := (fun_mk (st := st_c_law) l14 c14 k14).binds (ps := ["script"]) fun _ _ _ _ _ _ us hl => match us, hl with | [_], _ => rfl
    m_c_law := PySem.W.mg_of X G a14
    m_SlotError := PySem.W.mg_of X G g_SlotError
    bc_SlotError := ⟨b1_SlotError, b2_SlotError, b3_SlotError⟩
    m_InvalidTime := PySem.W.mg_of X G g_InvalidTime
    ox_InvalidTime := ⟨⟨_, _, _, _, _, _, _, _, _, _, _, _, _, _, _, x_InvalidTime, rv_InvalidTime⟩, sa_InvalidTime, eC_InvalidTime, tC_InvalidTime, kC_InvalidTime⟩
    in_InvalidTime := a0
    ti_InvalidTime := ti_InvalidTime
    no_InvalidTime_what := no_InvalidTime_what
    xf_InvalidTime := ⟨ga_InvalidTime, gg_InvalidTime, eC_InvalidTime, hC_InvalidTime⟩
    is_InvalidTime := ⟨ic_InvalidTime, ga_InvalidTime, gg_InvalidTime, eC_InvalidTime, cc_InvalidTime, z_hn, z_ht, mo_InvalidTime⟩
    em_InvalidTime_SlotError := em_InvalidTime_SlotError
    em_InvalidTime_InvalidTime := em_InvalidTime_InvalidTime
    m_InvalidTable := PySem.W.mg_of X G g_InvalidTable
    ox_InvalidTable := ⟨⟨_, _, _, _, _, _, _, _, _, _, _, _, _, _, _, x_InvalidTable, rv_InvalidTable⟩, sa_InvalidTable, eC_InvalidTable, tC_InvalidTable, kC_InvalidTable⟩
    in_InvalidTable := a1
    ti_InvalidTable := ti_InvalidTable
    no_InvalidTable_what := no_InvalidTable_what
    xf_InvalidTable := ⟨ga_InvalidTable, gg_InvalidTable, eC_InvalidTable, hC_InvalidTable⟩
    is_InvalidTable := ⟨ic_InvalidTable, ga_InvalidTable, gg_InvalidTable, eC_InvalidTable, cc_InvalidTable, z_hn, z_ht, mo_InvalidTable⟩
    em_InvalidTable_SlotError := em_InvalidTable_SlotError
    em_InvalidTable_InvalidTable := em_InvalidTable_InvalidTable
    kt_InvalidTable_InvalidTable := kt_InvalidTable_InvalidTable
    kt_InvalidTable_InvalidTime := kt_InvalidTable_InvalidTime
    n_abs := PySem.W.mg_none_of X G n_abs
    n_any := PySem.W.mg_none_of X G n_any
    n_bool := PySem.W.mg_none_of X G n_bool
    n_int := PySem.W.mg_none_of X G n_int
    n_isinstance := PySem.W.mg_none_of X G n_isinstance
    n_len := PySem.W.mg_none_of X G n_len
    n_list := PySem.W.mg_none_of X G n_list
    n_max := PySem.W.mg_none_of X G n_max
    n_min := PySem.W.mg_none_of X G n_min
    n_range := PySem.W.mg_none_of X G n_range
    n_sorted := PySem.W.mg_none_of X G n_sorted
    n_str := PySem.W.mg_none_of X G n_str
    n_tuple := PySem.W.mg_none_of X G n_tuple
    n_zip := PySem.W.mg_none_of X G n_zip
  }
  exact ⟨(PySem.W.fnOf "law" "law" (defArgs st_c_law) (defBody st_c_law) (defScope st_c_law) .none kV14 dc14 pm14 an14 cd14 ct14), fun s v => .of_eq rfl, fun base _ _ => ok_c_law T⟩
theorem walk {l : PySem.W.OpenLaw} {q : Program} {loose : List Str} {XP : (Str → Option Value) → Heap → Prop} {YP : World → Heap → Prop} {d : DefRec} {K : Params → PySem.W.Frag} (hn : l.most = some 63) (hdf : d.params.defaults = [])
    (hY : ∀ (w : World) (h : Heap), YP w h → (K w.params).In h)
    (F : ∀ (w : World) (mg : Str → Option Value) (fa : Addr) (h : Heap), (K w.params).In h → h.Ns mainGlobals mg → mg d.name = some (.ref fa) →
      ∃ fd : FuncData, (∀ (s : Shared) (u : Value), BindsTo s fd ⟨[u], []⟩ [("script", u)]) ∧ ∀ base : Heap, (K w.params).In base → base.Ns mainGlobals mg → FnOk l.prog w (K w.params) mg base (L2.CX l.prog w) 8 fa fd ["script"] (sp_c_law (K w.params))) :
    PySem.W.WalkO q loose XP YP l.row.toRowW d [] (fun f vs => PySem.call f vs) :=
  L2.walk_of (n := 63) (k := 8) (x := "script") (CX := fun w => L2.CX l.prog w) (sp := fun w => sp_c_law (K w.params)) hn (by decide) hdf ⟨rfl, by decide, by decide⟩ hY F (fun _ _ a ns hl _ hS => ⟨a, ns, rfl, hS, hl, fun _ => rfl⟩)
    fun _ _ _ _ _ z => by obtain ⟨_, _, _, _, _, _, _, _, _, _, _, _, z⟩ := z; exact z
end K53
open PySem PySem.W PyProof.Rows
set_option maxRecDepth 100000 in
set_option maxHeartbeats 0 in
theorem PySem.Challenge.cw_slotwork_k53_whole_queues_holds : PySem.Challenge.rw_slotwork_k53_whole_queues.Holds := by
  w_on; o_law; k_head; (case hw => w_witness2)
  k_fill
  refine K53.walk (l := PySem.Challenge.rw_slotwork_k53_whole_queues) rfl rfl (fun w h Y => PySem.W.kIn_of Y) ?F
  case F =>
    intro w mg fa h KX G hmg
    refine' K53.all_mk KX G hmg ?g_SlotError ?g_InvalidTime ?g_InvalidTable ?a0 ?l0 ?c0 ?k0 ?a1 ?l1 ?c1 ?k1 ?a2 ?l2 ?c2 ?k2 ?a3 ?l3 ?c3 ?k3 ?a4 ?l4 ?c4 ?k4 ?a5 ?l5 ?c5 ?k5 ?a6 ?l6 ?c6 ?k6 ?a7 ?l7 ?c7 ?k7 ?a8 ?l8 ?c8 ?k8 ?a9 ?l9 ?c9 ?k9 ?a10 ?l10 ?c10 ?k10 ?a11 ?l11 ?c11 ?k11 ?a12 ?l12 ?c12 ?k12 ?a13 ?l13 ?c13 ?k13 ?a14 ?l14 ?c14 ?k14 ?b1_SlotError ?b2_SlotError ?b3_SlotError ?x_InvalidTime ?rv_InvalidTime ?sa_InvalidTime ?ga_InvalidTime ?gg_InvalidTime ?kC_InvalidTime ?eC_InvalidTime ?tC_InvalidTime ?hC_InvalidTime ?ic_InvalidTime ?cc_InvalidTime ?mo_InvalidTime ?ti_InvalidTime ?no_InvalidTime_what ?em_InvalidTime_SlotError ?em_InvalidTime_InvalidTime ?x_InvalidTable ?rv_InvalidTable ?sa_InvalidTable ?ga_InvalidTable ?gg_InvalidTable ?kC_InvalidTable ?eC_InvalidTable ?tC_InvalidTable ?hC_InvalidTable ?ic_InvalidTable ?cc_InvalidTable ?mo_InvalidTable ?ti_InvalidTable ?no_InvalidTable_what ?em_InvalidTable_SlotError ?em_InvalidTable_InvalidTable ?z_hn ?z_ht ?kt_InvalidTable_InvalidTable ?kt_InvalidTable_InvalidTime ?n_abs ?n_any ?n_bool ?n_int ?n_isinstance ?n_len ?n_list ?n_max ?n_min ?n_range ?n_sorted ?n_str ?n_tuple ?n_zip
    (case g_SlotError => first | k_is | rfl | decide +kernel)
    (case g_InvalidTime => first | k_is | rfl | decide +kernel)
    (case g_InvalidTable => first | k_is | rfl | decide +kernel)
    (case a0 => first | k_is | rfl | decide +kernel)
    (case l0 => first | k_is | rfl | decide +kernel)
    (case c0 => first | k_is | rfl | decide +kernel)
    (case k0 => first | k_is | rfl | decide +kernel)
    (case a1 => first | k_is | rfl | decide +kernel)
    (case l1 => first | k_is | rfl | decide +kernel)
    (case c1 => first | k_is | rfl | decide +kernel)
    (case k1 => first | k_is | rfl | decide +kernel)
    (case a2 => first | k_is | rfl | decide +kernel)
    (case l2 => first | k_is | rfl | decide +kernel)
    (case c2 => first | k_is | rfl | decide +kernel)
    (case k2 => first | k_is | rfl | decide +kernel)
    (case a3 => first | k_is | rfl | decide +kernel)
    (case l3 => first | k_is | rfl | decide +kernel)
    (case c3 => first | k_is | rfl | decide +kernel)
    (case k3 => first | k_is | rfl | decide +kernel)
    (case a4 => first | k_is | rfl | decide +kernel)
    (case l4 => first | k_is | rfl | decide +kernel)
    (case c4 => first | k_is | rfl | decide +kernel)
    (case k4 => first | k_is | rfl | decide +kernel)
    (case a5 => first | k_is | rfl | decide +kernel)
    (case l5 => first | k_is | rfl | decide +kernel)
    (case c5 => first | k_is | rfl | decide +kernel)
    (case k5 => first | k_is | rfl | decide +kernel)
    (case a6 => first | k_is | rfl | decide +kernel)
    (case l6 => first | k_is | rfl | decide +kernel)
    (case c6 => first | k_is | rfl | decide +kernel)
    (case k6 => first | k_is | rfl | decide +kernel)
    (case a7 => first | k_is | rfl | decide +kernel)
    (case l7 => first | k_is | rfl | decide +kernel)
    (case c7 => first | k_is | rfl | decide +kernel)
    (case k7 => first | k_is | rfl | decide +kernel)
    (case a8 => first | k_is | rfl | decide +kernel)
    (case l8 => first | k_is | rfl | decide +kernel)
    (case c8 => first | k_is | rfl | decide +kernel)
    (case k8 => first | k_is | rfl | decide +kernel)
    (case a9 => first | k_is | rfl | decide +kernel)
    (case l9 => first | k_is | rfl | decide +kernel)
    (case c9 => first | k_is | rfl | decide +kernel)
    (case k9 => first | k_is | rfl | decide +kernel)
    (case a10 => first | k_is | rfl | decide +kernel)
    (case l10 => first | k_is | rfl | decide +kernel)
    (case c10 => first | k_is | rfl | decide +kernel)
    (case k10 => first | k_is | rfl | decide +kernel)
    (case a11 => first | k_is | rfl | decide +kernel)
    (case l11 => first | k_is | rfl | decide +kernel)
    (case c11 => first | k_is | rfl | decide +kernel)
    (case k11 => first | k_is | rfl | decide +kernel)
    (case a12 => first | k_is | rfl | decide +kernel)
    (case l12 => first | k_is | rfl | decide +kernel)
    (case c12 => first | k_is | rfl | decide +kernel)
    (case k12 => first | k_is | rfl | decide +kernel)
    (case a13 => first | k_is | rfl | decide +kernel)
    (case l13 => first | k_is | rfl | decide +kernel)
    (case c13 => first | k_is | rfl | decide +kernel)
    (case k13 => first | k_is | rfl | decide +kernel)
    (case a14 => first | k_is | rfl | decide +kernel)
    (case l14 => first | k_is | rfl | decide +kernel)
    (case c14 => first | k_is | rfl | decide +kernel)
    (case k14 => first | k_is | rfl | decide +kernel)
    (case b1_SlotError => first | k_is | rfl | decide +kernel)
    (case b2_SlotError => first | k_is | rfl | decide +kernel)
    (case b3_SlotError => first | k_is | rfl | decide +kernel)
    (case x_InvalidTime => first | k_is | rfl | decide +kernel)
    (case rv_InvalidTime => first | k_is | rfl | decide +kernel)
    (case sa_InvalidTime => first | k_is | rfl | decide +kernel)
    (case ga_InvalidTime => first | k_is | rfl | decide +kernel)
    (case gg_InvalidTime => first | k_is | rfl | decide +kernel)
    (case kC_InvalidTime => first | k_is | rfl | decide +kernel)
    (case eC_InvalidTime => first | k_is | rfl | decide +kernel)
    (case tC_InvalidTime => first | k_is | rfl | decide +kernel)
    (case hC_InvalidTime => first | k_is | rfl | decide +kernel)
    (case ic_InvalidTime => first | k_is | rfl | decide +kernel)
    (case cc_InvalidTime => first | k_is | rfl | decide +kernel)
    (case mo_InvalidTime => first | k_is | rfl | decide +kernel)
    (case ti_InvalidTime => first | k_is | rfl | decide +kernel)
    (case no_InvalidTime_what => first | k_is | rfl | decide +kernel)
    (case em_InvalidTime_SlotError => first | k_is | rfl | decide +kernel)
    (case em_InvalidTime_InvalidTime => first | k_is | rfl | decide +kernel)
    (case x_InvalidTable => first | k_is | rfl | decide +kernel)
    (case rv_InvalidTable => first | k_is | rfl | decide +kernel)
    (case sa_InvalidTable => first | k_is | rfl | decide +kernel)
    (case ga_InvalidTable => first | k_is | rfl | decide +kernel)
    (case gg_InvalidTable => first | k_is | rfl | decide +kernel)
    (case kC_InvalidTable => first | k_is | rfl | decide +kernel)
    (case eC_InvalidTable => first | k_is | rfl | decide +kernel)
    (case tC_InvalidTable => first | k_is | rfl | decide +kernel)
    (case hC_InvalidTable => first | k_is | rfl | decide +kernel)
    (case ic_InvalidTable => first | k_is | rfl | decide +kernel)
    (case cc_InvalidTable => first | k_is | rfl | decide +kernel)
    (case mo_InvalidTable => first | k_is | rfl | decide +kernel)
    (case ti_InvalidTable => first | k_is | rfl | decide +kernel)
    (case no_InvalidTable_what => first | k_is | rfl | decide +kernel)
    (case em_InvalidTable_SlotError => first | k_is | rfl | decide +kernel)
    (case em_InvalidTable_InvalidTable => first | k_is | rfl | decide +kernel)
    (case z_hn => first | k_is | rfl | decide +kernel)
    (case z_ht => first | k_is | rfl | decide +kernel)
    (case kt_InvalidTable_InvalidTable => first | k_is | rfl | decide +kernel)
    (case kt_InvalidTable_InvalidTime => first | k_is | rfl | decide +kernel)
    (case n_abs => first | k_is | rfl | decide +kernel)
    (case n_any => first | k_is | rfl | decide +kernel)
    (case n_bool => first | k_is | rfl | decide +kernel)
    (case n_int => first | k_is | rfl | decide +kernel)
    (case n_isinstance => first | k_is | rfl | decide +kernel)
    (case n_len => first | k_is | rfl | decide +kernel)
    (case n_list => first | k_is | rfl | decide +kernel)
    (case n_max => first | k_is | rfl | decide +kernel)
    (case n_min => first | k_is | rfl | decide +kernel)
    (case n_range => first | k_is | rfl | decide +kernel)
    (case n_sorted => first | k_is | rfl | decide +kernel)
    (case n_str => first | k_is | rfl | decide +kernel)
    (case n_tuple => first | k_is | rfl | decide +kernel)
    (case n_zip => first | k_is | rfl | decide +kernel)
