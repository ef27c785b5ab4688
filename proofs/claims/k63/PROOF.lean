import PyProof.Rows.All
import Wide.All
import OpenK.AllK
import Wide.FinOn
import HandS.ForMost
import HandS.Wide
import HandS.IsInst
import HandS.EndBits
import HandS.TupAny
import HandS.SetFor
import HandS.Strs
import HandS.OwnEq
import HandS.OwnIter
import HandS.IterVal
import HandS.ExcValue
import HandS.ClsMeth
import HandS.Star
import HandS.RevTup
import HandS.Rev
import HandS.SortInts
import PySem.Challenge.RW_codefromcode_k63_marks_are_sets
set_option Elab.async false
set_option linter.all false
set_option maxRecDepth 100000
set_option maxHeartbeats 4000000
namespace Kt
open PySem PySem.Spec PyProof.Rows L2

/-! ### what a piece of a run changes: the tracked objects at ls -/
structure Ch (ls : List Addr) (H H' : Hp) : Prop where
  keep : ∀ b o, H b = some o → b ∉ ls → H' b = some o
  tup : ∀ b xs, H b = some (.tup xs) → H' b = some (.tup xs)
  frz : ∀ b o u, H b = some (.frz o u) → H' b = some (.frz o u)
  stay : ∀ b o, H b = some o → ∃ o', H' b = some o'
theorem Ch.refl {ls : List Addr} {H : Hp} : Ch ls H H := ⟨fun _ _ e _ => e, fun _ _ e => e, fun _ _ _ e => e, fun _ o e => ⟨o, e⟩⟩
theorem Ch.trans {ls : List Addr} {H H1 H2 : Hp} (a : Ch ls H H1) (b : Ch ls H1 H2) : Ch ls H H2 :=
  ⟨fun c o e n => b.keep c o (a.keep c o e n) n, fun c xs e => b.tup c xs (a.tup c xs e), fun c o u e => b.frz c o u (a.frz c o u e), fun c o e => let ⟨o', e'⟩ := a.stay c o e; b.stay c o' e'⟩
theorem Ch.sub {ls ls' : List Addr} {H H1 : Hp} (a : Ch ls H H1) (h : ∀ b ∈ ls, b ∈ ls') : Ch ls' H H1 :=
  ⟨fun c o e n => a.keep c o e fun m => n (h c m), a.tup, a.frz, a.stay⟩
theorem Ch.of0 {ls : List Addr} {H H1 : Hp} (a : Ch [] H H1) : Ch ls H H1 := a.sub fun _ h => nomatch h
theorem Ch.app {ls ls' : List Addr} {H H1 H2 : Hp} (a : Ch ls H H1) (b : Ch ls' H1 H2) : Ch (ls ++ ls') H H2 :=
  (a.sub fun _ h => List.mem_append_left _ h).trans (b.sub fun _ h => List.mem_append_right _ h)
/-- an address that was not tracked ahead need not be named -/
theorem Ch.drop {l : Addr} {ls : List Addr} {H H1 : Hp} (a : Ch (l :: ls) H H1) (n : H l = none) : Ch ls H H1 :=
  ⟨fun c o e m => a.keep c o e fun z => by
    rcases List.mem_cons.mp z with z | z
    · subst z; rw [n] at e; cases e
    · exact m z, a.tup, a.frz, a.stay⟩
theorem Ch.no {ls : List Addr} {H H1 : Hp} {p : Addr} (a : Ch ls H H1) (n : H1 p = none) : H p = none := by
  cases q : H p with
  | none => rfl
  | some o => obtain ⟨o', e⟩ := a.stay p o q; rw [n] at e; cases e
theorem Ch.new {H : Hp} {p : Addr} {o : HO} (n : H p = none) : Ch [] H (upd H p o) := by
  have k : ∀ b u, H b = some u → (upd H p o) b = some u := fun b u e => by rw [upd_ne (ne_of_none e n)]; exact e
  exact ⟨fun b u e _ => k b u e, fun b xs e => k b _ e, fun b u v e => k b _ e, fun b u e => ⟨u, k b u e⟩⟩
/-- what is written: no tuple, nothing frozen -/
def Wr : HO → Bool
  | .tup _ => false
  | .frz _ _ => false
  | _ => true
theorem Ch.wr {H : Hp} {l : Addr} {u o : HO} (e : H l = some u) (w : Wr u = true) : Ch [l] H (upd H l o) := by
  have k : ∀ b v, H b = some v → b ≠ l → (upd H l o) b = some v := fun b v e h => by rw [upd_ne h]; exact e
  refine ⟨fun b v e' n => k b v e' fun z => n (z ▸ List.mem_singleton.mpr rfl), fun b xs e' => k b _ e' ?_, fun b v z e' => k b _ e' ?_, fun b v e' => ?_⟩
  · rintro rfl; rw [e] at e'; cases e'; cases w
  · rintro rfl; rw [e] at e'; cases e'; cases w
  · by_cases h : b = l
    · subst h; exact ⟨o, upd_same⟩
    · exact ⟨v, k b v e' h⟩
theorem Ch.get0 {H H' : Hp} {b : Addr} {o : HO} (c : Ch [] H H') (e : H b = some o) : H' b = some o := c.keep b o e fun h => nomatch h
theorem Ch.get1 {H H' : Hp} {b l : Addr} {o : HO} (c : Ch [l] H H') (e : H b = some o) (n : b ≠ l) : H' b = some o := c.keep b o e fun h => n (List.mem_singleton.mp h)
theorem Ch.get2 {H H' : Hp} {b l l2 : Addr} {o : HO} (c : Ch [l, l2] H H') (e : H b = some o) (n : b ≠ l) (n2 : b ≠ l2) : H' b = some o := c.keep b o e fun h => by
  rcases List.mem_cons.mp h with h | h
  · exact n h
  · exact n2 (List.mem_singleton.mp h)
theorem Ch.get3 {H H' : Hp} {b l l2 l3 : Addr} {o : HO} (c : Ch [l, l2, l3] H H') (e : H b = some o) (n : b ≠ l) (n2 : b ≠ l2) (n3 : b ≠ l3) : H' b = some o := c.keep b o e fun h => by
  rcases List.mem_cons.mp h with h | h
  · exact n h
  · rcases List.mem_cons.mp h with h | h
    · exact n2 h
    · exact n3 (List.mem_singleton.mp h)
theorem Ch.get4 {H H' : Hp} {b l l2 l3 l4 : Addr} {o : HO} (c : Ch [l, l2, l3, l4] H H') (e : H b = some o) (n : b ≠ l) (n2 : b ≠ l2) (n3 : b ≠ l3) (n4 : b ≠ l4) : H' b = some o := c.keep b o e fun h => by
  rcases List.mem_cons.mp h with h | h
  · exact n h
  · rcases List.mem_cons.mp h with h | h
    · exact n2 h
    · rcases List.mem_cons.mp h with h | h
      · exact n3 h
      · exact n4 (List.mem_singleton.mp h)
/-- tracked: an address with some object -/
def Tk (H : Hp) (a : Addr) : Prop := ∃ o, H a = some o
theorem Tk.of {H : Hp} {a : Addr} {o : HO} (e : H a = some o) : Tk H a := ⟨o, e⟩
theorem Ch.tk {ls : List Addr} {H H' : Hp} {a : Addr} (c : Ch ls H H') (t : Tk H a) : Tk H' a := let ⟨o, e⟩ := t; c.stay a o e
theorem ne_tk {H : Hp} {a b : Addr} (n : H b = none) (t : Tk H a) : a ≠ b := let ⟨_, e⟩ := t; ne_of_none e n
theorem ne_tk' {H : Hp} {a b : Addr} (n : H a = none) (t : Tk H b) : a ≠ b := let ⟨_, e⟩ := t; (ne_of_none e n).symm
theorem ne_n {H : Hp} {a b : Addr} {o : HO} (n : H b = none) (e : H a = some o) : a ≠ b := ne_of_none e n
theorem ne_n' {H : Hp} {a b : Addr} {o : HO} (n : H a = none) (e : H b = some o) : a ≠ b := (ne_of_none e n).symm
section
variable {K : PySem.W.Frag} {ls : List Addr} {H H' : Hp} {a : Addr} {xs : List V}
theorem Ch.sqT (c : Ch ls H H') (h : SqT K H a xs) : SqT K H' a xs := by
  rcases h with (h | ⟨o, h⟩) | h
  · exact .inl (.inl (c.tup _ _ h))
  · exact .inl (.inr ⟨o, c.frz _ _ _ h⟩)
  · exact .inr h
theorem Ch.sqL0 (c : Ch [] H H') (h : SqL K H a xs) : SqL K H' a xs := by
  rcases h with (h | ⟨o, h⟩) | h
  · exact .inl (.inl (c.get0 h))
  · exact .inl (.inr ⟨o, c.frz _ _ _ h⟩)
  · exact .inr h
theorem Ch.sqL (c : Ch ls H H') (h : SqL K H a xs) (n : a ∉ ls) : SqL K H' a xs := by
  rcases h with (h | ⟨o, h⟩) | h
  · exact .inl (.inl (c.keep _ _ h n))
  · exact .inl (.inr ⟨o, c.frz _ _ _ h⟩)
  · exact .inr h
end
mutual
def tupD : PyData → Bool
  | .none => true
  | .bool _ => true
  | .int _ => true
  | .str _ => true
  | .tuple ds => tupDs ds
  | _ => false
def tupDs : List PyData → Bool
  | [] => true
  | d :: ds => tupD d && tupDs ds
end
mutual
theorem Ch.dp {K : PySem.W.Frag} {ls : List Addr} {H H' : Hp} (c : Ch ls H H') : ∀ {d : PyData} {v : V}, tupD d = true → Dp K H v d → Dp K H' v d
  | .none, _, _, h => by cases h; exact .non
  | .bool b, _, _, h => by cases h; exact .bl b
  | .int i, _, _, h => by cases h; exact .int i
  | .str x, _, _, h => by cases h; exact .str x
  | .tuple ds, _, t, h => by
    cases h with
    | tup hs ha => exact .tup (c.sqT hs) (Ch.dpAll c (by unfold tupD at t; exact t) ha)
  | .list ds, _, t, _ => by unfold tupD at t; cases t
  | .dict ds, _, t, _ => by unfold tupD at t; cases t
theorem Ch.dpAll {K : PySem.W.Frag} {ls : List Addr} {H H' : Hp} (c : Ch ls H H') : ∀ {ds : List PyData} {vs : List V}, tupDs ds = true → DpAll K H vs ds → DpAll K H' vs ds
  | [], _, _, h => by cases h; exact .nil
  | d :: ds, _, t, h => by
    unfold tupDs at t
    obtain ⟨t1, t2⟩ := Bool.and_eq_true_iff.mp t
    cases h with
    | cons h1 h2 => exact .cons (Ch.dp c t1 h1) (Ch.dpAll c t2 h2)
end

/-! ### a new object, a written one, with the heap as a letter -/
def kNew (o : HO) (H : Hp) (Q : VK) : Prop := ∀ p H', H p = none → H' p = some o → Ch [] H H' → Q (.ref p) H'
theorem w_new {o : HO} {H : Hp} {Q : VK} (h : kNew o H Q) : ∀ p, H p = none → Q (.ref p) (upd H p o) := fun p n => h p _ n upd_same (Ch.new n)
def kSet (l : Addr) (o : HO) (H : Hp) (k : Hp → Prop) : Prop := ∀ H', H' l = some o → Ch [l] H H' → k H'
theorem w_set {l : Addr} {u o : HO} {H : Hp} {k : Hp → Prop} (e : H l = some u) (w : Wr u = true) (h : kSet l o H k) : k (upd H l o) := h _ upd_same (Ch.wr e w)

/-! ### readings closed upwards -/
section
variable {X : Cx}
theorem paImp {es : List Expr} {t t' : TA} (h : PA X es t) (i : ∀ σ H Q, t' σ H Q → ∃ Q0, t σ H Q0 ∧ ∀ vs H1, Q0 vs H1 → Q vs H1) : PA X es t' := ⟨fun pos pins s σ H Q I q => by
  obtain ⟨Q0, h0, im⟩ := i σ H Q q
  exact thn (h.run pos pins s σ H Q0 I h0) fun us s1 ⟨vs, H1, I1, r, q⟩ => ⟨vs, H1, I1, r, im vs H1 q⟩⟩
def upA (t : TA) : TA := fun σ H Q => ∃ Q0, t σ H Q0 ∧ ∀ vs H1, Q0 vs H1 → Q vs H1
theorem paUp {es : List Expr} {t : TA} (h : PA X es t) : PA X es (upA t) := paImp h fun _ _ _ q => q
theorem peImp {e : Expr} {t t' : TE} (h : PE X e t) (i : ∀ σ H Q, t' σ H Q → t σ H Q) : PE X e t' := ⟨fun pins s σ H Q I q => h.run pins s σ H Q I (i σ H Q q)⟩
theorem OpR.imp {f : Value → Value → Sem Value} {r r' : R2} (h : OpR X f r) (i : ∀ x y H Q, r' x y H Q → r x y H Q) : OpR X f r' := fun pins s σ H x y v u Q I rx ry q => h pins s σ H x y v u Q I rx ry (i _ _ _ _ q)
theorem CallR.imp {f : Value} {r r' : List V → Hp → VK → Prop} (h : CallR X f r) (i : ∀ xs H Q, r' xs H Q → r xs H Q) : CallR X f r' := fun pins s σ H xs us Q I rx q => h pins s σ H xs us Q I rx (i _ _ _ q)
theorem MtR.imp {id : String} {r r' : V → List V → Hp → VK → Prop} (h : MtR X id r) (i : ∀ x xs H Q, r' x xs H Q → r x xs H Q) : MtR X id r' := fun pins s σ H x xs v us Q I rx rxs q => h pins s σ H x xs v us Q I rx rxs (i _ _ _ _ q)
theorem IxR.imp {r r' : R2} (h : IxR X r) (i : ∀ x y H Q, r' x y H Q → r x y H Q) : IxR X r' := fun a b pins s σ H x y v u Q I rx ry q e => h a b pins s σ H x y v u Q I rx ry (i _ _ _ _ q) e
theorem PSet.imp {t t' : TSet} (h : PSet X t) (i : ∀ o j v H Q, t' o j v H Q → t o j v H Q) : PSet X t' := fun pins s σ H o j v ov iv u Q I ro ri rv q => h pins s σ H o j v ov iv u Q I ro ri rv (i _ _ _ _ _ q)

/-! ### displays -/
def kTup (t : TA) : TE := fun σ H Q => t σ H fun xs H1 => xs.length ≤ sizeLine ∧ kNew (.tup xs) H1 Q
def kLst (t : TA) : TE := fun σ H Q => t σ H fun xs H1 => xs.length ≤ sizeLine ∧ kNew (.lst xs) H1 Q
theorem pe_kTup {es : List Expr} {t : TA} {pos : Pos} {x1} (h : PA X es t) : PE X (.Tuple es x1 pos) (kTup t) :=
  peImp (pe_tup (paUp h)) fun _ _ _ q => ⟨_, q, fun _ _ q => ⟨q.1, w_new q.2⟩⟩
theorem pe_kLst {es : List Expr} {t : TA} {pos : Pos} (h : PA X es t) : PE X (.List es pos) (kLst t) :=
  peImp (pe_lst (paUp h)) fun _ _ _ q => ⟨_, q, fun _ _ q => ⟨q.1, w_new q.2⟩⟩
def kDnew : TE := fun _ H Q => kNew (.dK []) H Q
theorem pe_kDnew {pos : Pos} : PE X (.Dict [] [] pos) kDnew := peImp pe_dnewK fun _ _ _ q => w_new q

/-! ### a def of the text, as its callers know it -/
structure Df (P : Program) (w : World) (K : PySem.W.Frag) (mg : Str → Option Value) (base : Heap) (x : Str) (k : Nat) (ps : List Str) (sp : Sp) : Prop where
  ex : ∃ f fd, mg x = some (.ref f) ∧ PySem.W.keepIn K (.ref f) = true ∧ Binds K fd ps [] ∧ FnOk P w K mg base CX0 k f fd ps sp
theorem Df.no {P : Program} {w : World} {K : PySem.W.Frag} {mg : Str → Option Value} {base : Heap} {x q : Str} {st : Stmt} {k : Nat} {ps : List Str} (h : ∃ f fd, mg x = some (.ref f) ∧ Fun K x q st f fd ∧ Binds K fd ps []) : Df P w K mg base x k ps (fun _ _ _ _ => False) :=
  let ⟨f, fd, a, F, b⟩ := h
  ⟨f, fd, a, F.kp, b, fun _ _ _ _ z => z.elim, fun _ _ _ _ _ _ _ _ _ _ _ _ _ z => z.elim⟩
theorem Df.mono {P : Program} {w : World} {K : PySem.W.Frag} {mg : Str → Option Value} {base : Heap} {x : Str} {k j : Nat} {ps : List Str} {sp : Sp} (D : Df P w K mg base x k ps sp) (h : k ≤ j) : Df P w K mg base x j ps sp :=
  let ⟨f, fd, a, b, c, d⟩ := D.ex
  ⟨f, fd, a, b, c, d.mono h⟩
theorem Df.imp {P : Program} {w : World} {K : PySem.W.Frag} {mg : Str → Option Value} {base : Heap} {x : Str} {k : Nat} {ps : List Str} {sp sp' : Sp} (D : Df P w K mg base x k ps sp) (h : ∀ vs H Q E, sp' vs H Q E → sp vs H Q E) : Df P w K mg base x k ps sp' :=
  let ⟨f, fd, a, b, c, d⟩ := D.ex
  ⟨f, fd, a, b, c, d.imp h⟩
/-- f(..) -/
def tFn (sp : Sp) (t : TA) : TE := fun σ H Q => t σ H fun vs H1 => sp vs H1 Q E0
theorem pe_fn {x : Str} {k : Nat} {ps : List Str} {sp : Sp} {e : Expr} {es : List Expr} {p pos : Pos} {t : TA} (D : Df X.prog X.w X.K X.mg X.base x k ps sp) (hr : Room k X.A) (hg : Gl X x) (ha : PA X (e :: es) t)
    (hdb : (x == ("__debug__" : Str)) = false := by decide) (he : starEach (e :: es) X.env = (false, eval e X.env) :: starEach es X.env := by rfl) (hpl : (backTo pos (starEach es X.env)).any (·.1) = false := by rfl) :
    PE X (.Call (.Name x p) (e :: es) [] pos) (tFn sp t) := by
  obtain ⟨f, fd, hm, hk, hb, F⟩ := D.ex
  refine peImp (pe_call (E := E0) F hr hg hm hk hb .nil pass0 (paUp ha) hdb he hpl) fun σ H Q q => ?_
  exact ⟨_, q, fun vs H1 q => by show sp (vs ++ []) H1 Q E0; rw [List.append_nil]; exact q⟩
theorem pe_fn0 {x : Str} {k : Nat} {ps : List Str} {sp : Sp} {p pos : Pos} (D : Df X.prog X.w X.K X.mg X.base x k ps sp) (hr : Room k X.A) (hg : Gl X x)
    (hdb : (x == ("__debug__" : Str)) = false := by decide) : PE X (.Call (.Name x p) [] [] pos) (tFn sp tNil) := by
  obtain ⟨f, fd, hm, hk, hb, F⟩ := D.ex
  exact peImp (pe_call0 (E := E0) F hr hg hm hk hb .nil pass0 hdb) fun σ H Q q => q

/-! ### the rules with named readings -/
def qInt1 : List V → Hp → VK → Prop := fun xs H Q => ∃ i, xs = [.int i] ∧ Q (.int i) H
theorem c_int : CallR X (.type "int") qInt1 := CallR.imp call_int1 fun _ _ _ q => .inl q
def qAbs : List V → Hp → VK → Prop := fun xs H Q => ∃ i, xs = [.int i] ∧ Q (.int (if i < 0 then -i else i)) H
theorem c_abs : CallR X (.builtin "abs") qAbs := call_abs
def qMin2 : List V → Hp → VK → Prop := fun xs H Q => ∃ i j, xs = [.int i, .int j] ∧ Q (.int (if j < i then j else i)) H
theorem c_min2 (hc : X.calm = true) : CallR X (.builtin "min") qMin2 := call_min2 hc
def qMax2 : List V → Hp → VK → Prop := fun xs H Q => ∃ i j, xs = [.int i, .int j] ∧ Q (.int (if j > i then j else i)) H
theorem c_max2 (hc : X.calm = true) : CallR X (.builtin "max") qMax2 := call_max2 hc
def qLenL (K : PySem.W.Frag) : List V → Hp → VK → Prop := fun xs H Q => ∃ p ys, xs = [.ref p] ∧ SqL K H p ys ∧ Q (.int ys.length) H
theorem c_lenL : CallR X (.builtin "len") (qLenL X.K) := CallR.imp call_len_seq fun _ _ _ ⟨p, ys, e, h, q⟩ => ⟨p, ys, e, .inl h, q⟩
def qLenT (K : PySem.W.Frag) : List V → Hp → VK → Prop := fun xs H Q => ∃ p ys, xs = [.ref p] ∧ SqT K H p ys ∧ Q (.int ys.length) H
theorem c_lenT : CallR X (.builtin "len") (qLenT X.K) := CallR.imp call_len_seq fun _ _ _ ⟨p, ys, e, h, q⟩ => ⟨p, ys, e, .inr h, q⟩
def qListL (K : PySem.W.Frag) : List V → Hp → VK → Prop := fun xs H Q => ∃ p ys, xs = [.ref p] ∧ SqL K H p ys ∧ kNew (.lst ys) H Q
theorem c_listL : CallR X (.type "list") (qListL X.K) := CallR.imp call_list_of fun _ _ _ ⟨p, ys, e, h, q⟩ => ⟨p, ys, e, .inl h, w_new q⟩
def qListT (K : PySem.W.Frag) : List V → Hp → VK → Prop := fun xs H Q => ∃ p ys, xs = [.ref p] ∧ SqT K H p ys ∧ kNew (.lst ys) H Q
theorem c_listT : CallR X (.type "list") (qListT X.K) := CallR.imp call_list_of fun _ _ _ ⟨p, ys, e, h, q⟩ => ⟨p, ys, e, .inr h, w_new q⟩
def qTupL (K : PySem.W.Frag) : List V → Hp → VK → Prop := fun xs H Q => ∃ p ys, xs = [.ref p] ∧ SqL K H p ys ∧ kNew (.tup ys) H Q
theorem c_tupL : CallR X (.type "tuple") (qTupL X.K) := CallR.imp call_tuple_of fun _ _ _ ⟨p, ys, e, h, q⟩ => ⟨p, ys, e, .inl ⟨h, w_new q⟩⟩
def qTupT (K : PySem.W.Frag) : List V → Hp → VK → Prop := fun xs H Q => ∃ p ys, xs = [.ref p] ∧ SqT K H p ys ∧ Q (.ref p) H
theorem c_tupT : CallR X (.type "tuple") (qTupT X.K) := call_tupleT
def qSum (K : PySem.W.Frag) : List V → Hp → VK → Prop := rSum K
theorem c_sum (hc : X.calm = true) : CallR X (.builtin "sum") (qSum X.K) := cr_sum hc

def qApp : V → List V → Hp → VK → Prop := fun x vs H Q => ∃ l xs y, x = .ref l ∧ vs = [y] ∧ H l = some (.lst xs) ∧ xs.length < sizeLine ∧ kSet l (.lst (xs ++ [y])) H (Q .non)
theorem m_app : MtR X "list.append" qApp := MtR.imp mt_append fun _ _ _ _ ⟨l, xs, y, e, f, h, z, q⟩ => ⟨l, xs, y, e, f, h, z, w_set (k := fun H' => _) h rfl q⟩
def qExt : V → List V → Hp → VK → Prop := fun x vs H Q => ∃ l b xs zs, x = .ref l ∧ vs = [.ref b] ∧ H l = some (.lst xs) ∧ H b = some (.lst zs) ∧ xs.length + zs.length ≤ sizeLine ∧ kSet l (.lst (xs ++ zs)) H (Q .non)
theorem m_ext : MtR X "list.extend" qExt := MtR.imp mt_extend fun _ _ _ _ ⟨l, b, xs, zs, e, f, h, h2, z, q⟩ => ⟨l, b, xs, zs, e, f, h, h2, z, w_set (k := fun H' => _) h rfl q⟩
def qPop : V → List V → Hp → VK → Prop := fun x vs H Q => ∃ l xs y, x = .ref l ∧ vs = [] ∧ H l = some (.lst xs) ∧ xs[xs.length - 1]? = some y ∧ kSet l (.lst xs.dropLast) H (Q y)
theorem m_pop : MtR X "list.pop" qPop := MtR.imp mt_pop fun _ _ _ _ ⟨l, xs, y, e, f, h, z, q⟩ => ⟨l, xs, y, e, f, h, z, w_set (k := fun H' => _) h rfl q⟩

def qSetL : V → V → V → Hp → (Hp → Prop) → Prop := fun o i v H Q => ∃ p xs k j, o = .ref p ∧ i = .int k ∧ H p = some (.lst xs) ∧ ixN xs.length k = some j ∧ kSet p (.lst (xs.set j v)) H Q
theorem s_lst : PSet X qSetL := PSet.imp set_list fun _ _ _ _ _ ⟨p, xs, k, j, e, f, h, z, q⟩ => ⟨p, xs, k, j, e, f, h, z, w_set (k := fun H' => _) h rfl q⟩
def qRep : R2 := fun x y H Q => ∃ l k xs, x = .ref l ∧ y = .int k ∧ H l = some (.lst xs) ∧ -(2 ^ 63) ≤ k ∧ k < 2 ^ 63 ∧ xs.length * k.toNat ≤ sizeLine ∧ kNew (.lst (List.replicate k.toNat xs).flatten) H Q
theorem o_rep : OpR X (binaryOp .Mult) qRep := OpR.imp op_rep fun _ _ _ _ ⟨l, k, xs, e, f, h, z1, z2, z3, q⟩ => ⟨l, k, xs, e, f, h, z1, z2, z3, w_new q⟩
def qCatL : R2 := fun x y H Q => ∃ l b xs zs, x = .ref l ∧ y = .ref b ∧ H l = some (.lst xs) ∧ H b = some (.lst zs) ∧ xs.length + zs.length ≤ sizeLine ∧ kNew (.lst (xs ++ zs)) H Q
theorem o_catL : OpR X (binaryOp .Add) qCatL := OpR.imp op_cat fun _ _ _ _ ⟨l, b, xs, zs, e, f, h, h2, z, q⟩ => ⟨l, b, xs, zs, e, f, h, h2, z, w_new q⟩
/-- tuple + tuple: the result stands at some address as a tuple -/
def qCatT (K : PySem.W.Frag) : R2 := fun x y H Q => ∃ a b xs ys, x = .ref a ∧ y = .ref b ∧ SqT K H a xs ∧ SqT K H b ys ∧ xs.length + ys.length ≤ sizeLine ∧ ∀ p H', SqT K H' p (xs ++ ys) → Ch [] H H' → Q (.ref p) H'
theorem o_catT : OpR X (binaryOp .Add) (qCatT X.K) := OpR.imp op_catA fun _ _ H Q ⟨a, b, xs, ys, e, f, h, h2, z, q⟩ =>
  ⟨a, b, xs, ys, e, f, h, h2, z, fun e => q b H (by rw [e]; exact h2) Ch.refl, fun _ e => q a H (by rw [e, List.append_nil]; exact h) Ch.refl, fun _ _ p n => q p _ (SqT.of upd_same) (Ch.new n)⟩
def qCut (K : PySem.W.Frag) : V → Option Int → Option Int → Hp → VK → Prop := fun x lo hi H Q => ∃ a xs, x = .ref a ∧ SqT K H a xs ∧ ∀ p H', SqT K H' p (cutV xs lo hi) → Ch [] H H' → Q (.ref p) H'
theorem sl_T : SlR X (qCut X.K) := fun pins s σ H x v vl vu lo hi sl Q I rx hs hl hu ⟨a, xs, e, h, q⟩ =>
  sl_tupA pins s σ H x v vl vu lo hi sl Q I rx hs hl hu ⟨a, xs, e, h, fun z => q a H (by
    unfold cutV
    rw [z.1, z.2, List.drop_zero, Nat.sub_zero, List.take_length]
    exact h) Ch.refl, fun _ p n => q p _ (SqT.of upd_same) (Ch.new n)⟩
def qCutL (K : PySem.W.Frag) : V → Option Int → Option Int → Hp → VK → Prop := fun x lo hi H Q => ∃ a xs, x = .ref a ∧ SqL K H a xs ∧ kNew (.lst (cutV xs lo hi)) H Q
theorem sl_L : SlR X (qCutL X.K) := fun pins s σ H x v vl vu lo hi sl Q I rx hs hl hu ⟨a, xs, e, h, q⟩ =>
  sl_list pins s σ H x v vl vu lo hi sl Q I rx hs hl hu ⟨a, xs, e, h, w_new q⟩
def qInL (K : PySem.W.Frag) (neg : Bool) : R2 := fun x y H Q => ∃ p xs, y = .ref p ∧ SqL K H p xs ∧ flatV x = true ∧ xs.all flatV = true ∧ Q (.bl (if neg then !inV x xs else inV x xs)) H
theorem o_inL : OpR X (compareOp .In) (qInL X.K false) := OpR.imp op_in_seq fun _ _ _ _ ⟨p, xs, e, h, f, g, q⟩ => ⟨p, xs, e, .inl h, f, g, q⟩
theorem o_ninL : OpR X (compareOp .NotIn) (qInL X.K true) := OpR.imp op_notIn_seq fun _ _ _ _ ⟨p, xs, e, h, f, g, q⟩ => ⟨p, xs, e, .inl h, f, g, q⟩
def qInT (K : PySem.W.Frag) (neg : Bool) : R2 := fun x y H Q => ∃ p xs, y = .ref p ∧ SqT K H p xs ∧ flatV x = true ∧ xs.all flatV = true ∧ Q (.bl (if neg then !inV x xs else inV x xs)) H
theorem o_inT : OpR X (compareOp .In) (qInT X.K false) := OpR.imp op_in_seq fun _ _ _ _ ⟨p, xs, e, h, f, g, q⟩ => ⟨p, xs, e, .inr h, f, g, q⟩
theorem o_ninT : OpR X (compareOp .NotIn) (qInT X.K true) := OpR.imp op_notIn_seq fun _ _ _ _ ⟨p, xs, e, h, f, g, q⟩ => ⟨p, xs, e, .inr h, f, g, q⟩
end
end Kt

/-! ### readings step by step -/
namespace Kt
open PySem PySem.Spec PyProof.Rows L2
section
variable {K : PySem.W.Frag} {σ : L2.St} {H : Hp} {i j : Nat} {v x y z : V} {ta tb te tv : TE} {t u : TS} {tt uu : TT} {as : TA} {b : Bool} {a C dx : Addr} {fs : List (Str × V)} {f : Str} {Q : VK} {D : Ends} {xs ys : List V} {n m : Int}
theorem w_seq (h : t { D with nx := u D } σ H) : tSeq t u D σ H := h
theorem w_nx (h : D.nx σ H) : tNext D σ H := h
theorem w_asg {g : TG} (h : te σ H fun x H1 => g x σ H1 D.nx) : tAsg te g D σ H := h
theorem w_gn {R : L2.St → Hp → Prop} (h : R (σ.set i (some v)) H) : gName i v σ H R := h
theorem w_drop (h : te σ H fun _ H1 => D.nx σ H1) : tDrop te D σ H := h
theorem w_ret (h : te σ H D.rt) : tRet te D σ H := h
theorem w_retN (h : D.rt .non H) : tRetN D σ H := h
theorem w_brk (h : D.bk σ H) : tBreak D σ H := h
theorem w_cnt (h : D.ct σ H) : tCont D σ H := h
theorem w_if (h : tt σ H fun b H1 => if b = true then t D σ H1 else u D σ H1) : tIfS tt t u D σ H := h
theorem w_var (e : σ[i]? = some (some v)) (q : Q v H) : tVar i σ H Q := ⟨v, e, q⟩
theorem w_c (q : Q v H) : tC v σ H Q := q
theorem w_op {r : R2} (h : ta σ H fun x H1 => tb σ H1 fun y H2 => r x y H2 Q) : tOp r ta tb σ H Q := h
theorem w_un {r : V → Hp → VK → Prop} (h : ta σ H fun x H1 => r x H1 Q) : tUn r ta σ H Q := h
theorem w_rI {Cc : Int → Int → Prop} {g : Int → Int → V} (c : Cc n m) (q : Q (g n m) H) : rI Cc g (.int n) (.int m) H Q := ⟨n, m, rfl, rfl, c, q⟩
theorem w_rI0 {g : Int → Int → V} (q : Q (g n m) H) : rI0 g (.int n) (.int m) H Q := ⟨n, m, rfl, rfl, q⟩
theorem w_rU {g : Int → V} (q : Q (g n) H) : rU g (.int n) H Q := ⟨n, rfl, q⟩
theorem w_test {P : Bool → Hp → Prop} (h : te σ H fun x H' => ∃ k, x = .bl k ∧ P k H') : tTest te σ H P := h
theorem w_tB {P : Bool → Hp → Prop} (h : te σ H fun x H' => ∃ k, x = .bl k ∧ P k H') : tB te σ H P := h
theorem w_bl {P : Bool → Prop} (h : P b) : ∃ k, V.bl b = .bl k ∧ P k := ⟨b, rfl, h⟩
theorem w_not {P : Bool → Hp → Prop} (h : tt σ H fun c H1 => P (!c) H1) : tNot tt σ H P := h
theorem w_and {P : Bool → Hp → Prop} (h : tt σ H fun c H1 => if c = true then uu σ H1 P else P false H1) : tAnd tt uu σ H P := h
theorem w_or {P : Bool → Hp → Prop} (h : tt σ H fun c H1 => if c = true then P true H1 else uu σ H1 P) : tOr tt uu σ H P := h
theorem w_ifx (h : tt σ H fun c H1 => if c = true then ta σ H1 Q else tb σ H1 Q) : tIf tt ta tb σ H Q := h
theorem w_andV (h : ta σ H fun x H1 => ∃ c, x = .bl c ∧ if c = true then tb σ H1 Q else Q (.bl false) H1) : tAndV ta tb σ H Q := h
theorem w_orV (h : ta σ H fun x H1 => ∃ c, x = .bl c ∧ if c = true then Q (.bl true) H1 else tb σ H1 Q) : tOrV ta tb σ H Q := h
theorem w_notV (h : ta σ H fun x H1 => ∃ c, x = .bl c ∧ Q (.bl (!c)) H1) : tNotV ta σ H Q := h
theorem w_eqI (q : Q (.bl (decide (n = m))) H) : rEq (.int n) (.int m) H Q := ⟨rfl, by
  have e : decide (V.int n = V.int m) = decide (n = m) := by
    by_cases h : n = m
    · rw [decide_eq_true h, h]; exact decide_eq_true rfl
    · rw [decide_eq_false h]; exact decide_eq_false fun z => h (V.int.inj z)
  rw [e]; exact q⟩
theorem w_neI (q : Q (.bl (!decide (n = m))) H) : rNe (.int n) (.int m) H Q := ⟨rfl, by
  have e : decide (V.int n = V.int m) = decide (n = m) := by
    by_cases h : n = m
    · rw [decide_eq_true h, h]; exact decide_eq_true rfl
    · rw [decide_eq_false h]; exact decide_eq_false fun z => h (V.int.inj z)
  rw [e]; exact q⟩
theorem w_eqS {s s' : Str} (q : Q (.bl (decide (s = s'))) H) : rEq (.str s) (.str s') H Q := ⟨rfl, by
  have e : decide (V.str s = V.str s') = decide (s = s') := by
    by_cases h : s = s'
    · rw [decide_eq_true h, h]; exact decide_eq_true rfl
    · rw [decide_eq_false h]; exact decide_eq_false fun z => h (V.str.inj z)
  rw [e]; exact q⟩
theorem w_neS {s s' : Str} (q : Q (.bl (!decide (s = s'))) H) : rNe (.str s) (.str s') H Q := ⟨rfl, by
  have e : decide (V.str s = V.str s') = decide (s = s') := by
    by_cases h : s = s'
    · rw [decide_eq_true h, h]; exact decide_eq_true rfl
    · rw [decide_eq_false h]; exact decide_eq_false fun z => h (V.str.inj z)
  rw [e]; exact q⟩
theorem w_eqB {k k' : Bool} (q : Q (.bl (k == k')) H) : rEq (.bl k) (.bl k') H Q := ⟨rfl, by
  have e : decide (V.bl k = V.bl k') = (k == k') := by cases k <;> cases k' <;> rfl
  rw [e]; exact q⟩
theorem w_nil {R : List V → Hp → Prop} (q : R [] H) : tNil σ H R := q
theorem w_cons {R : List V → Hp → Prop} (h : ta σ H fun x H1 => as σ H1 fun xs H2 => R (x :: xs) H2) : tCons ta as σ H R := h
theorem w_fn {sp : Sp} (h : as σ H fun vs H1 => sp vs H1 Q E0) : tFn sp as σ H Q := h
theorem w_cb {r : List V → Hp → VK → Prop} (h : as σ H fun vs H1 => r vs H1 Q) : tCB r as σ H Q := h
theorem w_tup (h : as σ H fun xs H1 => xs.length ≤ sizeLine ∧ kNew (.tup xs) H1 Q) : kTup as σ H Q := h
theorem w_lst (h : as σ H fun xs H1 => xs.length ≤ sizeLine ∧ kNew (.lst xs) H1 Q) : kLst as σ H Q := h
theorem w_kNew {o : HO} (h : ∀ p H', H p = none → H' p = some o → Ch [] H H' → Q (.ref p) H') : kNew o H Q := h
theorem w_kNewS {o : HO} (l : xs.length ≤ sizeLine) (h : ∀ p H', H p = none → H' p = some o → Ch [] H H' → Q (.ref p) H') : xs.length ≤ sizeLine ∧ kNew o H Q := ⟨l, h⟩
theorem w_kSet {o : HO} {k : Hp → Prop} (h : ∀ H', H' a = some o → Ch [a] H H' → k H') : kSet a o H k := h
theorem w_int (q : Q (.int n) H) : qInt1 [.int n] H Q := ⟨n, rfl, q⟩
theorem w_abs (q : Q (.int (if n < 0 then -n else n)) H) : qAbs [.int n] H Q := ⟨n, rfl, q⟩
theorem w_min2 (q : Q (.int (if m < n then m else n)) H) : qMin2 [.int n, .int m] H Q := ⟨n, m, rfl, q⟩
theorem w_max2 (q : Q (.int (if m > n then m else n)) H) : qMax2 [.int n, .int m] H Q := ⟨n, m, rfl, q⟩
theorem w_lenL (h : SqL K H a ys) (q : Q (.int ys.length) H) : qLenL K [.ref a] H Q := ⟨a, ys, rfl, h, q⟩
theorem w_lenT (h : SqT K H a ys) (q : Q (.int ys.length) H) : qLenT K [.ref a] H Q := ⟨a, ys, rfl, h, q⟩
theorem w_listL (h : SqL K H a ys) (q : kNew (.lst ys) H Q) : qListL K [.ref a] H Q := ⟨a, ys, rfl, h, q⟩
theorem w_listT (h : SqT K H a ys) (q : kNew (.lst ys) H Q) : qListT K [.ref a] H Q := ⟨a, ys, rfl, h, q⟩
theorem w_tupL (h : SqL K H a ys) (q : kNew (.tup ys) H Q) : qTupL K [.ref a] H Q := ⟨a, ys, rfl, h, q⟩
theorem w_tupT (h : SqT K H a ys) (q : Q (.ref a) H) : qTupT K [.ref a] H Q := ⟨a, ys, rfl, h, q⟩
theorem w_bm {T : String} {r : V → List V → Hp → VK → Prop} (h : te σ H fun x H1 => tyV K T x H1 ∧ as σ H1 fun xs H2 => r x xs H2 Q) : tBM K T r te as σ H Q := h
theorem w_bm0 {T : String} {r : V → List V → Hp → VK → Prop} (h : te σ H fun x H1 => tyV K T x H1 ∧ r x [] H1 Q) : tBM0 K T r te σ H Q := h
theorem w_tyL {A : Prop} (h : H a = some (.lst xs)) (q : A) : tyV K "list" (.ref a) H ∧ A := ⟨.inl ⟨rfl, _, .inl (.inl h)⟩, q⟩
theorem w_app (h : H a = some (.lst xs)) (l : xs.length < sizeLine) (q : ∀ H', H' a = some (.lst (xs ++ [y])) → Ch [a] H H' → Q .non H') : qApp (.ref a) [y] H Q := ⟨a, xs, y, rfl, rfl, h, l, q⟩
theorem w_pop (h : H a = some (.lst (xs ++ [y]))) (q : ∀ H', H' a = some (.lst xs) → Ch [a] H H' → Q y H') : qPop (.ref a) [] H Q :=
  ⟨a, xs ++ [y], y, rfl, rfl, h, by simp, by rw [List.dropLast_concat]; exact q⟩
theorem w_setL {R : Hp → Prop} (h : H a = some (.lst xs)) (g : ixN xs.length n = some j) (q : ∀ H', H' a = some (.lst (xs.set j v)) → Ch [a] H H' → R H') : qSetL (.ref a) (.int n) v H R := ⟨a, xs, n, j, rfl, rfl, h, g, q⟩
theorem w_gsub {to ti : TE} {ts : TSet} {R : L2.St → Hp → Prop} (h : to σ H fun o H1 => ti σ H1 fun i H2 => ts o i v H2 fun H3 => R σ H3) : gSub to ti ts v σ H R := h
theorem w_ixL (h : SqL K H a xs) (g : atI xs n = some v) (q : Q v H) : rIxL K (.ref a) (.int n) H Q := ⟨a, xs, n, v, rfl, rfl, h, g, q⟩
theorem w_ixT (h : SqT K H a xs) (g : atI xs n = some v) (q : Q v H) : rIxT K (.ref a) (.int n) H Q := ⟨a, xs, n, v, rfl, rfl, h, g, q⟩
theorem w_fld0 {P : V → Hp → Prop} (ho : H a = some (.ins C dx fs)) (hc : Cls K C) (hn : NoAttr K C f) (hl : fs.lookup f = some v) (q : P v H) : ∃ a' C dx fs v', V.ref a = .ref a' ∧ H a' = some (.ins C dx fs) ∧ Cls K C ∧ NoAttr K C f ∧ fs.lookup f = some v' ∧ P v' H :=
  ⟨a, C, dx, fs, v, rfl, ho, hc, hn, hl, q⟩
theorem w_tFld0 (h : te σ H fun x H1 => ∃ a C dx fs v, x = .ref a ∧ H1 a = some (.ins C dx fs) ∧ Cls K C ∧ NoAttr K C f ∧ fs.lookup f = some v ∧ Q v H1) : tFld K te f σ H Q := h
theorem w_for {wi : TI} {g : TG} (h : wi σ H fun J H1 => ∃ W : Nat → Nat → L2.St → Hp → Prop, (∃ m, W 0 m σ H1) ∧ ∀ i m σ H, W i m σ H →
  (J.stop i H ∧ D.nx σ H) ∨ (J.go i H ∧ ∃ N : L2.St → Hp → Prop, (∀ σ' H', N σ' H' → ∃ m', m' < m ∧ W (i + 1) m' σ' H') ∧ ∀ x H', J.yld i H x H' → g x σ H' fun σ2 H2 => t { D with nx := N, ct := N, bk := D.nx } σ2 H2)) : tFor wi g t D σ H := h
theorem w_iList {R : It → Hp → Prop} (h : te σ H fun x H1 => ∃ a, x = .ref a ∧ (∃ xs, SqL K H1 a xs) ∧ R (Itl K a) H1) : iList K te σ H R := h
theorem w_iTup {R : It → Hp → Prop} (h : te σ H fun x H1 => ∃ a, x = .ref a ∧ (∃ xs, SqT K H1 a xs) ∧ R (Itt K a) H1) : iTup K te σ H R := h
theorem w_iRng1 {R : It → Hp → Prop} (h : as σ H fun vs H1 => ∃ j : Int, vs = [.int j] ∧ -(2 ^ 62) ≤ j ∧ j < 2 ^ 62 ∧ R (Itr 0 j.toNat) H1) : iRng1 as σ H R := h
/-- the loops, behind their head -/
theorem k_list {g : TG} (hT : SqL K H a xs) (Pv : Nat → L2.St → Hp → Prop) (h0 : Pv 0 σ H) (hl : ∀ i σ H, i ≤ xs.length → Pv i σ H → SqL K H a xs)
    (hs : ∀ i x σ H, xs[i]? = some x → Pv i σ H → g x σ H fun σ2 H2 => t { D with nx := Pv (i + 1), ct := Pv (i + 1), bk := D.nx } σ2 H2) (hd : ∀ σ H, Pv xs.length σ H → D.nx σ H) :
    ∃ a', V.ref a = .ref a' ∧ (∃ xs, SqL K H a' xs) ∧ ∃ W : Nat → Nat → L2.St → Hp → Prop, (∃ m, W 0 m σ H) ∧ ∀ i m σ H, W i m σ H →
  ((Itl K a').stop i H ∧ D.nx σ H) ∨ ((Itl K a').go i H ∧ ∃ N : L2.St → Hp → Prop, (∀ σ' H', N σ' H' → ∃ m', m' < m ∧ W (i + 1) m' σ' H') ∧ ∀ x H', (Itl K a').yld i H x H' → g x σ H' fun σ2 H2 => t { D with nx := N, ct := N, bk := D.nx } σ2 H2) :=
  ⟨a, rfl, ⟨xs, hT⟩, for_list Pv h0 hl hs hd⟩
theorem k_tup {g : TG} (hT : SqT K H a xs) (Pv : Nat → L2.St → Hp → Prop) (h0 : Pv 0 σ H) (hl : ∀ i σ H, i ≤ xs.length → Pv i σ H → SqT K H a xs)
    (hs : ∀ i x σ H, xs[i]? = some x → Pv i σ H → g x σ H fun σ2 H2 => t { D with nx := Pv (i + 1), ct := Pv (i + 1), bk := D.nx } σ2 H2) (hd : ∀ σ H, Pv xs.length σ H → D.nx σ H) :
    ∃ a', V.ref a = .ref a' ∧ (∃ xs, SqT K H a' xs) ∧ ∃ W : Nat → Nat → L2.St → Hp → Prop, (∃ m, W 0 m σ H) ∧ ∀ i m σ H, W i m σ H →
  ((Itt K a').stop i H ∧ D.nx σ H) ∨ ((Itt K a').go i H ∧ ∃ N : L2.St → Hp → Prop, (∀ σ' H', N σ' H' → ∃ m', m' < m ∧ W (i + 1) m' σ' H') ∧ ∀ x H', (Itt K a').yld i H x H' → g x σ H' fun σ2 H2 => t { D with nx := N, ct := N, bk := D.nx } σ2 H2) :=
  ⟨a, rfl, ⟨xs, hT⟩, for_tup Pv h0 hl hs hd⟩
theorem k_rng {g : TG} {n : Int} (k : Nat) (hn : n.toNat = k) (h1 : -(2 ^ 62) ≤ n) (h2 : n < 2 ^ 62) (Pv : Nat → L2.St → Hp → Prop) (h0 : Pv 0 σ H)
    (hs : ∀ (i : Nat) σ H, i < k → Pv i σ H → g (.int (i : Int)) σ H fun σ2 H2 => t { D with nx := Pv (i + 1), ct := Pv (i + 1), bk := D.nx } σ2 H2) (hd : ∀ σ H, Pv k σ H → D.nx σ H) :
    ∃ j : Int, [V.int n] = [.int j] ∧ -(2 ^ 62) ≤ j ∧ j < 2 ^ 62 ∧ ∃ W : Nat → Nat → L2.St → Hp → Prop, (∃ m, W 0 m σ H) ∧ ∀ i m σ H, W i m σ H →
  ((Itr 0 j.toNat).stop i H ∧ D.nx σ H) ∨ ((Itr 0 j.toNat).go i H ∧ ∃ N : L2.St → Hp → Prop, (∀ σ' H', N σ' H' → ∃ m', m' < m ∧ W (i + 1) m' σ' H') ∧ ∀ x H', (Itr 0 j.toNat).yld i H x H' → g x σ H' fun σ2 H2 => t { D with nx := N, ct := N, bk := D.nx } σ2 H2) := by
  subst hn
  refine ⟨n, rfl, h1, h2, for_range Pv h0 (fun i σ H hi p => ?_) hd⟩
  have e : (0 : Int) + (i : Int) = (i : Int) := Int.zero_add _
  rw [e]
  exact hs i σ H hi p
/-- a test that is decided -/
theorem w_T {A B : Prop} (c : b = true) (h : A) : if b = true then A else B := by rw [if_pos c]; exact h
theorem w_F {A B : Prop} (c : b = false) (h : B) : if b = true then A else B := by rw [if_neg (by rw [c]; exact Bool.false_ne_true)]; exact h
theorem w_D {c A B : Prop} [Decidable c] (h1 : c → A) (h2 : ¬ c → B) : if decide c = true then A else B := by
  by_cases h : c
  · rw [if_pos (decide_eq_true h)]; exact h1 h
  · rw [if_neg (by rw [decide_eq_false h]; exact Bool.false_ne_true)]; exact h2 h
theorem w_ND {c A B : Prop} [Decidable c] (h1 : ¬ c → A) (h2 : c → B) : if (!decide c) = true then A else B := by
  by_cases h : c
  · rw [decide_eq_true h]; exact h2 h
  · rw [decide_eq_false h]; exact h1 h
theorem w_B {A B : Prop} (h1 : b = true → A) (h2 : b = false → B) : if b = true then A else B := by
  cases b
  · exact h2 rfl
  · exact h1 rfl
end
end Kt
/-! ### growth, freshness, changes put together -/
namespace Kt
open PySem PySem.Spec PyProof.Rows L2
def Gr (H H' : Hp) : Prop := ∀ b o, H b = some o → ∃ o', H' b = some o'
theorem Gr.refl {H : Hp} : Gr H H := fun _ o e => ⟨o, e⟩
theorem Gr.step {ls : List Addr} {H H1 H2 : Hp} (c : Ch ls H1 H2) (g : Gr H H1) : Gr H H2 := fun b o e => let ⟨o', e'⟩ := g b o e; c.stay b o' e'
theorem Gr.no {H H1 : Hp} {p : Addr} (n : H1 p = none) (g : Gr H H1) : H p = none := by
  cases q : H p with
  | none => rfl
  | some o => obtain ⟨o', e⟩ := g p o q; rw [n] at e; cases e
theorem Ch.stepN {ls ls' : List Addr} {H H1 H2 : Hp} (b : Ch ls' H1 H2) (a : Ch ls H H1) (s : ∀ x ∈ ls', x ∈ ls ∨ H x = none) : Ch ls H H2 :=
  ⟨fun c o e n => b.keep c o (a.keep c o e n) fun m => (s c m).elim n fun z => (by rw [z] at e; cases e), fun c xs e => b.tup c xs (a.tup c xs e), fun c o u e => b.frz c o u (a.frz c o u e), fun c o e => let ⟨o', e'⟩ := a.stay c o e; b.stay c o' e'⟩
theorem sub0 {P : Addr → Prop} : ∀ x ∈ ([] : List Addr), P x := fun _ h => nomatch h
theorem sub1 {P : Addr → Prop} {a : Addr} (h : P a) : ∀ x ∈ [a], P x := fun x m => by rw [List.mem_singleton.mp m]; exact h
theorem sub2 {P : Addr → Prop} {a b : Addr} (h : P a) (h2 : P b) : ∀ x ∈ [a, b], P x := fun x m => by
  rcases List.mem_cons.mp m with e | m
  · rw [e]; exact h
  · rw [List.mem_singleton.mp m]; exact h2
theorem sub3 {P : Addr → Prop} {a b c : Addr} (h : P a) (h2 : P b) (h3 : P c) : ∀ x ∈ [a, b, c], P x := fun x m => by
  rcases List.mem_cons.mp m with e | m
  · rw [e]; exact h
  · exact sub2 h2 h3 x m
theorem sub4 {P : Addr → Prop} {a b c d : Addr} (h : P a) (h2 : P b) (h3 : P c) (h4 : P d) : ∀ x ∈ [a, b, c, d], P x := fun x m => by
  rcases List.mem_cons.mp m with e | m
  · rw [e]; exact h
  · exact sub3 h2 h3 h4 x m
theorem atI_map {α : Type} (g : α → V) (f : List α) {a : Int} (h0 : 0 ≤ a) (h1 : a < f.length) : ∃ x, f[a.toNat]? = some x ∧ x ∈ f ∧ atI (f.map g) a = some (g x) := by
  obtain ⟨k, rfl⟩ := Int.eq_ofNat_of_zero_le h0
  have h2 : k < f.length := by omega
  refine ⟨f[k], List.getElem?_eq_getElem h2, List.getElem_mem h2, atI_nat ?_⟩
  rw [List.getElem?_map, List.getElem?_eq_getElem h2]
  rfl

/-! ### the laws' draws -/
/-- the drawing list at l, its feed at fl -/
structure Dr (H : Hp) (l fl : Addr) : Prop where
  ex : ∃ (at_ seed : Int) (feed : List Int), H l = some (.lst [.int at_, .ref fl, .int seed]) ∧ H fl = some (.lst (feed.map V.int)) ∧ 0 ≤ at_ ∧ 0 ≤ seed ∧ seed ≤ 2147483648
theorem Dr.ne {H : Hp} {l fl : Addr} (d : Dr H l fl) : l ≠ fl := by
  obtain ⟨a, s, f, h1, h2, _⟩ := d.ex
  rintro rfl
  rw [h1] at h2
  cases f with
  | nil => cases h2
  | cons x r => cases r with
    | nil => cases h2
    | cons y r => cases h2
theorem Dr.tl {H : Hp} {l fl : Addr} (d : Dr H l fl) : Tk H l := let ⟨_, _, _, h, _⟩ := d.ex; ⟨_, h⟩
theorem Dr.tf {H : Hp} {l fl : Addr} (d : Dr H l fl) : Tk H fl := let ⟨_, _, _, _, h, _⟩ := d.ex; ⟨_, h⟩
theorem Dr.ch {H H' : Hp} {l fl : Addr} {ls : List Addr} (c : Ch ls H H') (d : Dr H l fl) (n : l ∉ ls) (n2 : fl ∉ ls) : Dr H' l fl := by
  obtain ⟨a, s, f, h1, h2, h3⟩ := d.ex
  exact ⟨a, s, f, c.keep _ _ h1 n, c.keep _ _ h2 n2, h3⟩
theorem Dr.ch0 {H H' : Hp} {l fl : Addr} (c : Ch [] H H') (d : Dr H l fl) : Dr H' l fl := d.ch c (fun h => nomatch h) (fun h => nomatch h)
def spPick : Sp := fun vs H Q _ => ∃ (l fl : Addr) (m : Int), vs = [.ref l, .int m] ∧ Dr H l fl ∧ 0 < m ∧ ∀ (n : Int) H', 0 ≤ n → n < m → Dr H' l fl → Ch [l] H H' → Q (.int n) H'
theorem use_pick {l fl : Addr} {m : Int} {H : Hp} {Q : VK} (d : Dr H l fl) (h : 0 < m) (q : ∀ (n : Int) H', 0 ≤ n → n < m → Dr H' l fl → Ch [l] H H' → Q (.int n) H') : spPick [.ref l, .int m] H Q E0 := ⟨l, fl, m, rfl, d, h, q⟩
/-- a list that stands for ever: the script -/
def FzL (K : PySem.W.Frag) (H : Hp) (a : Addr) (xs : List V) : Prop := (∃ o, H a = some (.frz o (.lst xs))) ∨
    ∃ (o : Obj) (its : Array Value) (n : Nat), K.lookup a = some o ∧ o.cls = .type "list" ∧ o.dict = none ∧ o.data = .seq its n ∧ its.size ≤ sizeLine ∧ Vals xs its.toList
theorem FzL.sqL {K : PySem.W.Frag} {H : Hp} {a : Addr} {xs : List V} (h : FzL K H a xs) : SqL K H a xs := h.elim (fun h => .inl (.inr h)) .inr
theorem Ch.fz {K : PySem.W.Frag} {H H' : Hp} {a : Addr} {xs : List V} {ls : List Addr} (c : Ch ls H H') (h : FzL K H a xs) : FzL K H' a xs := h.elim (fun ⟨o, h⟩ => .inl ⟨o, c.frz _ _ _ h⟩) .inr
theorem fz_of {K : PySem.W.Frag} {H : Hp} {a : Addr} {xs : List V} (O : Only H) (h : SqL K H a xs) : FzL K H a xs := by
  rcases h with (h | h) | h
  · rcases O a with q | ⟨o, ys, q⟩
    · rw [q] at h; cases h
    · rw [q] at h; cases h
  · exact .inl h
  · exact .inr h
theorem lt_size {n : Nat} (h : n < 1000000) : n < sizeLine := Nat.lt_trans h (by decide)
theorem le_size {n : Nat} (h : n ≤ 1000000) : n ≤ sizeLine := Nat.le_trans h (by decide)
def spDraws (K : PySem.W.Frag) : Sp := fun vs H Q _ => ∃ (a : Addr) (ns : List Int), vs = [.ref a] ∧ FzL K H a (ns.map V.int) ∧ ns.length ≤ 63 ∧ ∀ (l fl : Addr) H', H l = none → H fl = none → Dr H' l fl → Ch [] H H' → Q (.ref l) H'
end Kt
/-! ### objects, methods, dicts, isinstance, while -/
namespace Kt
open PySem PySem.Spec PyProof.Rows L2
def upE (t : TE) : TE := fun σ H Q => ∃ Q0, t σ H Q0 ∧ ∀ v H1, Q0 v H1 → Q v H1
theorem peUp {X : Cx} {e : Expr} {t : TE} (h : PE X e t) : PE X e (upE t) := ⟨fun pins s σ H Q I ⟨Q0, h0, im⟩ =>
  thn (h.run pins s σ H Q0 I h0) fun u s1 ⟨v, H1, I1, r, q⟩ => ⟨v, H1, I1, r, im v H1 q⟩⟩
theorem psImp {X : Cx} {st : Stmt} {t t' : TS} (h : PS X st t) (i : ∀ D σ H, t' D σ H → t D σ H) : PS X st t' := ⟨fun pins s σ H D I q => h.run pins s σ H D I (i D σ H q)⟩
/-- a method, as its callers know it -/
structure Dm (P : Program) (w : World) (K : PySem.W.Frag) (mg : Str → Option Value) (base : Heap) (C : Addr) (m : Str) (k : Nat) (ps : List Str) (sp : Sp) : Prop where
  ex : ∃ f fd, PySem.W.findIn K (.ref C) m = some (some (.ref f)) ∧ PySem.W.isFn K (.ref f) = true ∧ PySem.W.keepIn K (.ref f) = true ∧ Binds K fd ps [] ∧ FnOk P w K mg base CX0 k f fd ps sp
structure MkC (K : PySem.W.Frag) (C : Addr) : Prop where
  makes : PySem.W.makesIn K C = true
  kp : PySem.W.keepIn K (.ref C) = true
def qSelf (C : Addr) (m : Str) (x : V) (H : Hp) (P : Prop) : Prop := ∃ a dx fs, x = .ref a ∧ H a = some (.ins C dx fs) ∧ fs.lookup m = none ∧ P
def kMt (C : Addr) (m : Str) (sp : Sp) (ta : TE) (t : TA) : TE := fun σ H Q => ta σ H fun x H1 => qSelf C m x H1 (t σ H1 fun vs H2 => sp (x :: vs) H2 Q E0)
def kMk (C : Addr) (sp : Sp) (t : TA) : TE := fun σ H Q => t σ H fun vs H1 => ∀ x dx H', H1 x = none → H' x = some (.ins C dx []) → Ch [] H1 H' → sp (.ref x :: vs) H' (fun v H2 => v = .non ∧ Q (.ref x) H2) E0
section
variable {X : Cx}
theorem pe_mt {C : Addr} {m : Str} {k : Nat} {ps : List Str} {sp : Sp} {o e : Expr} {es : List Expr} {ta : TE} {t : TA} {apos pos : Pos} {pl : Sem Bool} (he : PE X o ta) (c : Cls X.K C) (D : Dm X.prog X.w X.K X.mg X.base C m k ps sp) (hr : Room k X.A) (ha : PA X (e :: es) t)
    (hst : starEach (e :: es) X.env = (false, eval e X.env) :: starEach es X.env := by rfl) (hpl : (backTo pos (starEach es X.env)).any (·.1) = false := by rfl)
    (ht : eval (.Call (.Attribute o m apos) (e :: es) [] pos) X.env = (do
      let ov ← eval o X.env
      standAt apos.atName
      let (f, first) ← holding [ov] (getMethod ov m pl)
      callWith pos f first (backTo pos (starEach (e :: es) X.env)) (backToKw pos (keywordEach [] X.env))) := by rfl) :
    PE X (.Call (.Attribute o m apos) (e :: es) [] pos) (kMt C m sp ta t) := by
  obtain ⟨f, fd, h1, h2, h3, hb, F⟩ := D.ex
  refine peImp (pe_meth (E := E0) (pl := pl) (peUp he) c ⟨h1, h2, h3⟩ F hr hb .nil pass0 (paUp ha) hst hpl ht) fun σ H Q q => ?_
  refine ⟨_, q, fun v H1 ⟨a, dx, fs, e, h, l, z⟩ => ⟨a, dx, fs, e, h, l, _, z, fun vs H2 z => ?_⟩⟩
  show sp (v :: (vs ++ [])) H2 Q E0
  rw [List.append_nil]
  exact z
theorem pe_mk {C : Addr} {x : Str} {k : Nat} {ps : List Str} {sp : Sp} {e : Expr} {es : List Expr} {t : TA} {p pos : Pos} (M : MkC X.K C) (D : Dm X.prog X.w X.K X.mg X.base C "__init__" k ps sp) (hr : Room (k + 1) X.A) (hg : Gl X x) (hm : X.mg x = some (.ref C)) (ha : PA X (e :: es) t)
    (hdb : (x == ("__debug__" : Str)) = false := by decide) (he : starEach (e :: es) X.env = (false, eval e X.env) :: starEach es X.env := by rfl) (hpl : (backTo pos (starEach es X.env)).any (·.1) = false := by rfl) :
    PE X (.Call (.Name x p) (e :: es) [] pos) (kMk C sp t) := by
  obtain ⟨f, fd, h1, h2, h3, hb, F⟩ := D.ex
  refine peImp (pe_make (E := E0) ⟨M.makes, h1, h2, M.kp⟩ F hr hg hm hb .nil pass0 (paUp ha) hdb he hpl) fun σ H Q q => ?_
  refine ⟨_, q, fun vs H1 z a dx n nd ne => ?_⟩
  have c1 : Ch [] H1 (upd H1 dx (.own a)) := Ch.new nd
  have n2 : (upd H1 dx (.own a)) a = none := by rw [upd_ne ne.symm]; exact n
  have c2 := Ch.new (o := .ins C dx []) n2
  rw [List.append_nil]
  exact z a dx _ n upd_same (c1.trans c2)
theorem pe_mk0 {C : Addr} {x : Str} {k : Nat} {ps : List Str} {sp : Sp} {p pos : Pos} (M : MkC X.K C) (D : Dm X.prog X.w X.K X.mg X.base C "__init__" k ps sp) (hr : Room (k + 1) X.A) (hg : Gl X x) (hm : X.mg x = some (.ref C))
    (hdb : (x == ("__debug__" : Str)) = false := by decide) : PE X (.Call (.Name x p) [] [] pos) (kMk C sp tNil) := by
  obtain ⟨f, fd, h1, h2, h3, hb, F⟩ := D.ex
  refine peImp (pe_make0 (E := E0) ⟨M.makes, h1, h2, M.kp⟩ F hr hg hm hb .nil pass0 hdb) fun σ H Q q => ?_
  intro a dx n nd ne
  have c1 : Ch [] H (upd H dx (.own a)) := Ch.new nd
  have n2 : (upd H dx (.own a)) a = none := by rw [upd_ne ne.symm]; exact n
  have c2 := Ch.new (o := .ins C dx []) n2
  exact q a dx _ n upd_same (c1.trans c2)
def qFld (K : PySem.W.Frag) (f : Str) (x : V) (H : Hp) (Q : VK) : Prop := ∃ a C dx fs v, x = .ref a ∧ H a = some (.ins C dx fs) ∧ Cls K C ∧ NoAttr K C f ∧ fs.lookup f = some v ∧ Q v H
def kGet (K : PySem.W.Frag) (te : TE) (f : Str) : TE := fun σ H Q => te σ H fun x H1 => qFld K f x H1 Q
theorem pe_kGet {e : Expr} {f : Str} {ta : TE} {pos : Pos} (he : PE X e ta) (hb : attributeBase e f X.env (eval e X.env) = eval e X.env) : PE X (.Attribute e f pos) (kGet X.K ta f) := pe_fld he hb
def qFset (K : PySem.W.Frag) (f : Str) (y x : V) (H : Hp) (k : Hp → Prop) : Prop := ∃ a C dx fs, x = .ref a ∧ H a = some (.ins C dx fs) ∧ Cls K C ∧ NoAttr K C f ∧ fs.length < 1000 ∧ kSet a (.ins C dx (putF f y fs)) H k
def kFld (K : PySem.W.Frag) (ta tv : TE) (f : Str) : TS := fun D σ H => tv σ H fun y H1 => ta σ H1 fun x H2 => qFset K f y x H2 (D.nx σ)
theorem ps_kFld {o value : Expr} {f : Str} {ta tv : TE} {pos' pos : Pos} (ha : PE X o ta) (hv : PE X value tv) (hs : swapsWith value (some (.Attribute o f pos')) pos.line X.env = pure false) : PS X (.Assign [.Attribute o f pos'] value pos) (kFld X.K ta tv f) :=
  psImp (ps_fld (peUp ha) (peUp hv) hs) fun D σ H q => ⟨_, q, fun y H1 q => ⟨_, q, fun x H2 ⟨a, C, dx, fs, e, h, c, n, l, z⟩ => ⟨a, C, dx, fs, e, h, c, n, l, w_set (k := D.nx σ) h rfl z⟩⟩⟩
/-! dicts -/
def qDg (x y : V) (H : Hp) (Q : VK) : Prop := ∃ a v, x = .ref a ∧ DGet H a y (some v) ∧ Q v H
def kDg (td ty : TE) : TE := fun σ H Q => td σ H fun x H1 => ty σ H1 fun y H2 => qDg x y H2 Q
theorem pe_kDget {o i : Expr} {pos : Pos} {td ty : TE} (hu : X.A.units + 1 < cLine) (ho : PE X o td) (hi : PE X i ty) (hs : NoSl i) : PE X (.Subscript o i pos) (kDg td ty) := pe_dget hu ho hi hs
def qDg2' (x y z : V) (H : Hp) (Q : VK) : Prop := ∃ a o, x = .ref a ∧ DGet H a y o ∧ Q (o.getD z) H
def qIsD (x : V) (H : Hp) (P : Prop) : Prop := (∃ a, x = .ref a ∧ IsD H a) ∧ P
def kDg2 (td ty tz : TE) : TE := fun σ H Q => td σ H fun x H1 => qIsD x H1 (ty σ H1 fun y H2 => tz σ H2 fun z H3 => qDg2' x y z H3 Q)
theorem pe_kDget2 {o e f : Expr} {apos cpos : Pos} {td ty tx : TE} (hu : X.A.units + 1 < cLine) (ho : PE X o td) (he : PE X e ty) (hf : PE X f tx) (m : M2 X o "get" apos e f cpos) : PE X (.Call (.Attribute o "get" apos) [e, f] [] cpos) (kDg2 td ty tx) :=
  peImp (pe_dget2 hu (peUp ho) (peUp he) (peUp hf) m) fun σ H Q q => ⟨_, q, fun x H1 ⟨⟨a, ea, ia⟩, q⟩ => ⟨a, ea, ia, _, q, fun y H2 q => ⟨_, q, fun z H3 ⟨a', o', ea', g, q⟩ => by
    rw [ea] at ea'
    cases ea'
    exact ⟨o', g, q⟩⟩⟩⟩
def qDp (x y v : V) (H : Hp) (r : Hp → Prop) : Prop := ∃ a kvs k, x = .ref a ∧ y = kV k ∧ H a = some (.dK kvs) ∧ kvs.length < sizeLine ∧ kSet a (.dK (putK kvs k v)) H r
def kDp (td ty tv : TE) : TS := fun D σ H => tv σ H fun v H1 => td σ H1 fun x H2 => ty σ H2 fun y H3 => qDp x y v H3 (D.nx σ)
theorem ps_kDput {o i value : Expr} {pos pos' : Pos} {td ty tv : TE} (hu : X.A.units + 1 < cLine) (ho : PE X o td) (hi : PE X i ty) (hv : PE X value tv) (hs : swapsWith value (some (.Subscript o i pos')) pos.line X.env = pure false) : PS X (.Assign [.Subscript o i pos'] value pos) (kDp td ty tv) :=
  psImp (ps_dput hu (peUp ho) (peUp hi) (peUp hv) hs) fun D σ H q => ⟨_, q, fun v H1 q => ⟨_, q, fun x H2 q => ⟨_, q, fun y H3 ⟨a, kvs, k, ea, ey, h, l, z⟩ => by
    subst ey
    exact ⟨a, _, ea, DPut.k h l, z _ upd_same (Ch.wr h rfl)⟩⟩⟩⟩
def ups (trs : List (TE × TE)) : List (TE × TE) := trs.map fun p => (upE p.1, upE p.2)
theorem kp_nil {pos : Pos} : PPs X pos [] [] (ups []) := pps_nil
theorem kp_cons {pos : Pos} {k v : Expr} {ks : List (Option Expr)} {vs : List Expr} {tk tv : TE} {trs : List (TE × TE)} (hk : PE X k tk) (hv : PE X v tv) (hr : PPs X pos ks vs (ups trs)) : PPs X pos (some k :: ks) (v :: vs) (ups ((tk, tv) :: trs)) := pps_cons (peUp hk) (peUp hv) hr
theorem tPairs_up : ∀ (trs : List (TE × TE)) (σ : L2.St) (H : Hp) (Q Q' : List (V × V) → Hp → Prop), tPairs trs σ H Q → (∀ ps H1, Q ps H1 → Q' ps H1) → tPairs (ups trs) σ H Q'
  | [], _, _, _, _, q, i => i _ _ q
  | (tk, tv) :: r, σ, H, Q, Q', q, i => ⟨_, q, fun _ _ q => ⟨_, q, fun _ _ q => tPairs_up r σ _ _ _ q fun _ _ q => i _ _ q⟩⟩
def kDisp (trs : List (TE × TE)) : TE := fun σ H Q => ∀ p H', H p = none → H' p = some (.dK []) → Ch [] H H' → tPairs trs σ H' fun ps H2 => H2 p = some (.dK []) ∧ ∃ kvs : List (Key × V), ps = kvs.map (fun kv => (kV kv.1, kv.2)) ∧ kvs.length ≤ 15 ∧ kSet p (.dK (mergeK [] kvs)) H2 (Q (.ref p))
theorem pe_kDisp {pos : Pos} {keys : List (Option Expr)} {values : List Expr} {trs : List (TE × TE)} (h : PPs X pos keys values (ups trs)) (hall : keys.all (·.isSome) = true) (hl : keys.length = values.length) (h0 : keys ≠ [])
    (h15 : keys.length ≤ 15) : PE X (.Dict keys values pos) (kDisp trs) :=
  peImp (pe_disp h hall hl h0 h15) fun σ H Q q p n => tPairs_up trs _ _ _ _ (q p _ n upd_same (Ch.new n)) fun ps H2 ⟨e, kvs, ek, l, z⟩ => ⟨e, kvs, ek, l, z _ upd_same (Ch.wr e rfl)⟩
/-! a list or a tuple -/
def qLenS (K : PySem.W.Frag) : List V → Hp → VK → Prop := fun xs H Q => ∃ p ys, xs = [.ref p] ∧ (SqL K H p ys ∨ SqT K H p ys) ∧ (ys.length ≤ 1099511627776 → Q (.int ys.length) H)
theorem c_lenS : CallR X (.builtin "len") (qLenS X.K) := fun pins s σ H xs us Q I r ⟨p, ys, e, h, q⟩ => call_len_seq pins s σ H xs us Q I r ⟨p, ys, e, h, q (by
  rcases h with h | h
  · obtain ⟨_, _, _, z⟩ := I.list h; exact Nat.le_trans z (by decide)
  · obtain ⟨_, _, _, z⟩ := I.tuple h; exact Nat.le_trans z (by decide))⟩
def qIxS (K : PySem.W.Frag) : R2 := fun x y H Q => ∃ p xs i v, x = .ref p ∧ y = .int i ∧ (SqL K H p xs ∨ SqT K H p xs) ∧ atI xs i = some v ∧ Q v H
theorem ix_S : IxR X (qIxS X.K) := IxR.imp ix_seq fun x y H Q ⟨p, xs, i, v, e, f, h, g, q⟩ => h.elim (fun h => .inl ⟨p, xs, i, v, e, f, h, g, q⟩) fun h => .inr (.inl ⟨p, xs, i, v, e, f, h, g, q⟩)
/-! isinstance -/
def qIsi (K : PySem.W.Frag) : List V → Hp → VK → Prop := rIsi K
theorem c_isi : CallR X (.builtin "isinstance") (qIsi X.K) := call_isi
end
section
variable {K : PySem.W.Frag} {σ : L2.St} {H : Hp} {i j : Nat} {v x y z : V} {ta tb te tv td ty : TE} {t u : TS} {tt uu : TT} {as : TA} {b : Bool} {a C dx : Addr} {fs : List (Str × V)} {f : Str} {Q : VK} {D : Ends} {xs ys : List V} {n m : Int}
theorem w_isi {A B : String} (h : TyX K H x (.type A)) (hk : kitB A B = some b) (q : Q (.bl b) H) : qIsi K [x, .ty B] H Q := ⟨x, .ty B, .type A, .type B, b, rfl, .ty B, h, kit_ty hk, q⟩
theorem w_lenSL (h : SqL K H a ys) (q : ys.length ≤ 1099511627776 → Q (.int ys.length) H) : qLenS K [.ref a] H Q := ⟨a, ys, rfl, .inl h, q⟩
theorem w_lenST (h : SqT K H a ys) (q : ys.length ≤ 1099511627776 → Q (.int ys.length) H) : qLenS K [.ref a] H Q := ⟨a, ys, rfl, .inr h, q⟩
theorem w_ixSL (h : SqL K H a xs) (g : atI xs n = some v) (q : Q v H) : qIxS K (.ref a) (.int n) H Q := ⟨a, xs, n, v, rfl, rfl, .inl h, g, q⟩
theorem w_ixST (h : SqT K H a xs) (g : atI xs n = some v) (q : Q v H) : qIxS K (.ref a) (.int n) H Q := ⟨a, xs, n, v, rfl, rfl, .inr h, g, q⟩
theorem w_isiI {B : String} (hk : kitB "int" B = some b) (q : Q (.bl b) H) : qIsi K [.int n, .ty B] H Q := w_isi (.base (.int n)) hk q
theorem w_isiS {s : Str} {B : String} (hk : kitB "str" B = some b) (q : Q (.bl b) H) : qIsi K [.str s, .ty B] H Q := w_isi (.base (.str s)) hk q
theorem w_isiB {s : Bool} {B : String} (hk : kitB "bool" B = some b) (q : Q (.bl b) H) : qIsi K [.bl s, .ty B] H Q := w_isi (.base (.bl s)) hk q
theorem tyL_of (h : SqL K H a xs) : TyX K H (.ref a) (.type "list") := by
  rcases h with (h | ⟨o, h⟩) | ⟨o, its, k, h, c, _⟩
  · exact .base (.lst h)
  · exact .base (.frz h)
  · exact .kList h c
theorem tyT_of (h : SqT K H a xs) : TyX K H (.ref a) (.type "tuple") := by
  rcases h with (h | ⟨o, h⟩) | ⟨o, its, k, h, c, _⟩
  · exact .base (.tup h)
  · exact .fTuple h
  · exact .kTuple h c
theorem w_isiL {B : String} (h : SqL K H a xs) (hk : kitB "list" B = some b) (q : Q (.bl b) H) : qIsi K [.ref a, .ty B] H Q := w_isi (tyL_of h) hk q
theorem w_isiT {B : String} (h : SqT K H a xs) (hk : kitB "tuple" B = some b) (q : Q (.bl b) H) : qIsi K [.ref a, .ty B] H Q := w_isi (tyT_of h) hk q
theorem w_kMt {sp : Sp} (h : te σ H fun x H1 => qSelf C f x H1 (as σ H1 fun vs H2 => sp (x :: vs) H2 Q E0)) : kMt C f sp te as σ H Q := h
theorem w_self {P : Prop} (ho : H a = some (.ins C dx fs)) (hl : fs.lookup f = none) (q : P) : qSelf C f (.ref a) H P := ⟨a, dx, fs, rfl, ho, hl, q⟩
theorem w_kMk {sp : Sp} (h : as σ H fun vs H1 => ∀ x dx H', H1 x = none → H' x = some (.ins C dx []) → Ch [] H1 H' → sp (.ref x :: vs) H' (fun v H2 => v = .non ∧ Q (.ref x) H2) E0) : kMk C sp as σ H Q := h
theorem w_kFld (h : tv σ H fun y H1 => ta σ H1 fun x H2 => qFset K f y x H2 (D.nx σ)) : kFld K ta tv f D σ H := h
theorem w_fget (ho : H a = some (.ins C dx fs)) (hc : Cls K C) (hn : NoAttr K C f) (hl : fs.lookup f = some v) (q : Q v H) : qFld K f (.ref a) H Q := ⟨a, C, dx, fs, v, rfl, ho, hc, hn, hl, q⟩
theorem w_kGet (h : te σ H fun x H1 => qFld K f x H1 Q) : kGet K te f σ H Q := h
theorem w_fset {k : Hp → Prop} (ho : H a = some (.ins C dx fs)) (hc : Cls K C) (hn : NoAttr K C f) (hl : fs.length < 1000) (q : ∀ H', H' a = some (.ins C dx (putF f y fs)) → Ch [a] H H' → k H') :
    qFset K f y (.ref a) H k := ⟨a, C, dx, fs, rfl, ho, hc, hn, hl, q⟩
theorem w_kDg (h : td σ H fun x H1 => ty σ H1 fun y H2 => qDg x y H2 Q) : kDg td ty σ H Q := h
theorem w_dgS {kvs : List (Key × V)} {s : Str} (h : H a = some (.dK kvs)) (g : valV kvs (Sum.inr s) = some v) (q : Q v H) : qDg (.ref a) (.str s) H Q := ⟨a, v, rfl, .inl ⟨kvs, .inr s, .inl h, rfl, g.symm⟩, q⟩
theorem w_dgI {kvs : List (Key × V)} (h : H a = some (.dK kvs)) (g : valV kvs (Sum.inl n) = some v) (q : Q v H) : qDg (.ref a) (.int n) H Q := ⟨a, v, rfl, .inl ⟨kvs, .inl n, .inl h, rfl, g.symm⟩, q⟩
theorem w_kDg2 {tz : TE} (h : td σ H fun x H1 => qIsD x H1 (ty σ H1 fun y H2 => tz σ H2 fun z H3 => qDg2' x y z H3 Q)) : kDg2 td ty tz σ H Q := h
theorem w_isD {P : Prop} {kvs : List (Key × V)} (h : H a = some (.dK kvs)) (q : P) : qIsD (.ref a) H P := ⟨⟨a, rfl, .inl ⟨kvs, .inl h⟩⟩, q⟩
theorem w_dg2I {kvs : List (Key × V)} (h : H a = some (.dK kvs)) (q : Q ((valV kvs (Sum.inl n)).getD z) H) : qDg2' (.ref a) (.int n) z H Q := ⟨a, _, rfl, .inl ⟨kvs, .inl n, .inl h, rfl, rfl⟩, q⟩
theorem w_kDp (h : tv σ H fun v H1 => td σ H1 fun x H2 => ty σ H2 fun y H3 => qDp x y v H3 (D.nx σ)) : kDp td ty tv D σ H := h
theorem w_dpI {k : Hp → Prop} {kvs : List (Key × V)} (h : H a = some (.dK kvs)) (l : kvs.length < sizeLine) (q : ∀ H', H' a = some (.dK (putK kvs (Sum.inl n) v)) → Ch [a] H H' → k H') : qDp (.ref a) (.int n) v H k := ⟨a, kvs, .inl n, rfl, rfl, h, l, q⟩
theorem w_kDisp {trs : List (TE × TE)} (h : ∀ p H', H p = none → H' p = some (.dK []) → Ch [] H H' → tPairs trs σ H' fun ps H2 => H2 p = some (.dK []) ∧ ∃ kvs : List (Key × V), ps = kvs.map (fun kv => (kV kv.1, kv.2)) ∧ kvs.length ≤ 15 ∧ kSet p (.dK (mergeK [] kvs)) H2 (Q (.ref p))) : kDisp trs σ H Q := h
theorem w_prn {R : List (V × V) → Hp → Prop} (q : R [] H) : tPairs [] σ H R := q
theorem w_prc {trs : List (TE × TE)} {R : List (V × V) → Hp → Prop} (h : ta σ H fun x H1 => tb σ H1 fun y H2 => tPairs trs σ H2 fun ps H3 => R ((x, y) :: ps) H3) : tPairs ((ta, tb) :: trs) σ H R := h
/-! while -/
theorem k_while {c : TT} {tb : TS} (W : Nat → L2.St → Hp → Prop) (m0 : Nat) (h0 : W m0 σ H)
    (hs : ∀ m σ H, W m σ H → c σ H fun b H1 => if b = true then ∃ N : L2.St → Hp → Prop, (∀ σ' H', N σ' H' → ∃ m', m' < m ∧ W m' σ' H') ∧ tb { D with nx := N, ct := N, bk := D.nx } σ H1 else D.nx σ H1) : tWhile c tb D σ H := ⟨W, ⟨m0, h0⟩, hs⟩
theorem w_wh {tb : TS} {m : Nat} {W : Nat → L2.St → Hp → Prop} (h : tb { D with nx := fun σ' H' => ∃ m', m' < m ∧ W m' σ' H', ct := fun σ' H' => ∃ m', m' < m ∧ W m' σ' H', bk := D.nx } σ H) :
    ∃ N : L2.St → Hp → Prop, (∀ σ' H', N σ' H' → ∃ m', m' < m ∧ W m' σ' H') ∧ tb { D with nx := N, ct := N, bk := D.nx } σ H := ⟨_, fun _ _ h => h, h⟩
end
end Kt
/-! ### what stands for ever -/
namespace Kt
open PySem PySem.Spec PyProof.Rows L2
structure Ps (H H' : Hp) : Prop where
  tup : ∀ b xs, H b = some (.tup xs) → H' b = some (.tup xs)
  frz : ∀ b o u, H b = some (.frz o u) → H' b = some (.frz o u)
theorem Ps.refl {H : Hp} : Ps H H := ⟨fun _ _ e => e, fun _ _ _ e => e⟩
theorem Ps.step {ls : List Addr} {H H1 H2 : Hp} (c : Ch ls H1 H2) (p : Ps H H1) : Ps H H2 := ⟨fun b xs e => c.tup b xs (p.tup b xs e), fun b o u e => c.frz b o u (p.frz b o u e)⟩
theorem Ch.ps {ls : List Addr} {H H1 : Hp} (c : Ch ls H H1) : Ps H H1 := ⟨c.tup, c.frz⟩
section
variable {K : PySem.W.Frag} {H H' : Hp}
theorem Ps.sqT {a : Addr} {xs : List V} (c : Ps H H') (h : SqT K H a xs) : SqT K H' a xs := by
  rcases h with (h | ⟨o, h⟩) | h
  · exact .inl (.inl (c.tup _ _ h))
  · exact .inl (.inr ⟨o, c.frz _ _ _ h⟩)
  · exact .inr h
theorem Ps.fz {a : Addr} {xs : List V} (c : Ps H H') (h : FzL K H a xs) : FzL K H' a xs := h.elim (fun ⟨o, h⟩ => .inl ⟨o, c.frz _ _ _ h⟩) .inr
mutual
theorem Ps.dp (c : Ps H H') : ∀ {d : PyData} {v : V}, tupD d = true → Dp K H v d → Dp K H' v d
  | .none, _, _, h => by cases h; exact .non
  | .bool b, _, _, h => by cases h; exact .bl b
  | .int i, _, _, h => by cases h; exact .int i
  | .str x, _, _, h => by cases h; exact .str x
  | .tuple ds, _, t, h => by
    cases h with
    | tup hs ha => exact .tup (c.sqT hs) (Ps.dpAll c (by unfold tupD at t; exact t) ha)
  | .list ds, _, t, _ => by unfold tupD at t; cases t
  | .dict ds, _, t, _ => by unfold tupD at t; cases t
theorem Ps.dpAll (c : Ps H H') : ∀ {ds : List PyData} {vs : List V}, tupDs ds = true → DpAll K H vs ds → DpAll K H' vs ds
  | [], _, _, h => by cases h; exact .nil
  | d :: ds, _, t, h => by
    unfold tupDs at t
    obtain ⟨t1, t2⟩ := Bool.and_eq_true_iff.mp t
    cases h with
    | cons h1 h2 => exact .cons (Ps.dp c t1 h1) (Ps.dpAll c t2 h2)
end
theorem dpAll_len : ∀ {vs : List V} {ds : List PyData}, DpAll K H vs ds → vs.length = ds.length
  | _, _, .nil => rfl
  | _, _, .cons _ t => congrArg Nat.succ (dpAll_len t)
theorem dpAll_app : ∀ {vs : List V} {ds : List PyData} {ws : List V} {es : List PyData}, DpAll K H vs ds → DpAll K H ws es → DpAll K H (vs ++ ws) (ds ++ es)
  | _, _, _, _, .nil, h => h
  | _, _, _, _, .cons a t, h => .cons a (dpAll_app t h)
theorem dpAll_snoc {vs : List V} {ds : List PyData} {v : V} {d : PyData} (h : DpAll K H vs ds) (q : Dp K H v d) : DpAll K H (vs ++ [v]) (ds ++ [d]) := dpAll_app h (.cons q .nil)
theorem dpAll_set {v : V} {d : PyData} (q : Dp K H v d) : ∀ {vs : List V} {ds : List PyData} (i : Nat), DpAll K H vs ds → DpAll K H (vs.set i v) (ds.set i d)
  | _, _, _, .nil => .nil
  | _, _, 0, .cons _ t => .cons q t
  | _, _, i + 1, .cons a t => .cons a (dpAll_set q i t)
theorem dpAll_get : ∀ {vs : List V} {ds : List PyData} {i : Nat} {d : PyData}, DpAll K H vs ds → ds[i]? = some d → ∃ v, vs[i]? = some v ∧ Dp K H v d
  | _, _, _, _, .nil, e => by simp at e
  | _, _, 0, _, .cons a _, e => ⟨_, rfl, by simp at e; subst e; exact a⟩
  | _, _, i + 1, _, .cons _ t, e => by
    obtain ⟨v, h1, h2⟩ := dpAll_get (i := i) t (by simpa using e)
    exact ⟨v, by simpa using h1, h2⟩
theorem dpAll_get' : ∀ {vs : List V} {ds : List PyData} {i : Nat} {v : V}, DpAll K H vs ds → vs[i]? = some v → ∃ d, ds[i]? = some d ∧ Dp K H v d
  | _, _, _, _, .nil, e => by simp at e
  | _, _, 0, _, .cons a _, e => ⟨_, rfl, by simp at e; subst e; exact a⟩
  | _, _, i + 1, _, .cons _ t, e => by
    obtain ⟨v, h1, h2⟩ := dpAll_get' (i := i) t (by simpa using e)
    exact ⟨v, by simpa using h1, h2⟩
end
end Kt
namespace Kt
open PySem PySem.Spec PyProof.Rows L2
theorem inV_int (k : Int) : ∀ ns : List Int, inV (.int k) (ns.map V.int) = decide (k ∈ ns)
  | [] => rfl
  | n :: r => by
    have ih := inV_int k r
    unfold inV at ih ⊢
    rw [List.map_cons, List.any_cons, ih]
    by_cases h : n = k
    · subst h
      have e : eqV (V.int n) (V.int n) = true := by show (n == n) = true; exact beq_self_eq_true n
      rw [e, decide_eq_true (show n ∈ n :: r from List.mem_cons_self)]
      rfl
    · have e : eqV (V.int n) (V.int k) = false := by show (n == k) = false; exact beq_eq_false_iff_ne.mpr h
      rw [e, Bool.false_or]
      by_cases q : k ∈ r
      · rw [decide_eq_true q, decide_eq_true (List.mem_cons_of_mem _ q)]
      · rw [decide_eq_false q, decide_eq_false fun z => (List.mem_cons.mp z).elim (fun z => h z.symm) q]
theorem flat_ints : ∀ ns : List Int, (ns.map V.int).all flatV = true
  | [] => rfl
  | n :: r => by rw [List.map_cons, List.all_cons, flat_ints r]; rfl
theorem w_inLI {K : PySem.W.Frag} {H : Hp} {a : Addr} {k : Int} {Q : VK} (ns : List Int) (h : SqL K H a (ns.map V.int)) (q : Q (.bl (decide (k ∈ ns))) H) : qInL K false (.int k) (.ref a) H Q :=
  ⟨a, _, rfl, h, rfl, flat_ints ns, by show Q (.bl (inV (.int k) (ns.map V.int))) H; rw [inV_int]; exact q⟩
theorem w_ninLI {K : PySem.W.Frag} {H : Hp} {a : Addr} {k : Int} {Q : VK} (ns : List Int) (h : SqL K H a (ns.map V.int)) (q : Q (.bl (!decide (k ∈ ns))) H) : qInL K true (.int k) (.ref a) H Q :=
  ⟨a, _, rfl, h, rfl, flat_ints ns, by show Q (.bl (!inV (.int k) (ns.map V.int))) H; rw [inV_int]; exact q⟩
theorem w_inTI {K : PySem.W.Frag} {H : Hp} {a : Addr} {k : Int} {Q : VK} (ns : List Int) (h : SqT K H a (ns.map V.int)) (q : Q (.bl (decide (k ∈ ns))) H) : qInT K false (.int k) (.ref a) H Q :=
  ⟨a, _, rfl, h, rfl, flat_ints ns, by show Q (.bl (inV (.int k) (ns.map V.int))) H; rw [inV_int]; exact q⟩
theorem w_ninTI {K : PySem.W.Frag} {H : Hp} {a : Addr} {k : Int} {Q : VK} (ns : List Int) (h : SqT K H a (ns.map V.int)) (q : Q (.bl (!decide (k ∈ ns))) H) : qInT K true (.int k) (.ref a) H Q :=
  ⟨a, _, rfl, h, rfl, flat_ints ns, by show Q (.bl (!inV (.int k) (ns.map V.int))) H; rw [inV_int]; exact q⟩
end Kt
theorem Kt.w_cut {A B : Prop} (k : B → A) (b : B) : A := k b
theorem Kt.w_cutP {A B : Prop} (C : Prop) (k : (C → B) → A) (b : C → B) : A := k b
theorem Kt.w_kDnew {σ : L2.St} {H : L2.Hp} {Q : L2.VK} (h : ∀ p H', H p = none → H' p = some (.dK []) → Kt.Ch [] H H' → Q (.ref p) H') : Kt.kDnew σ H Q := h
namespace Kt
open PySem PySem.Spec PyProof.Rows L2
theorem w_cutH {A : Prop} {B : Hp → Prop} (C : Hp → Prop) (k : (∀ H, C H → B H) → A) (b : ∀ H, C H → B H) : A := k b
theorem w_cutN {A : Prop} {B : Nat → Hp → Prop} (C : Nat → Hp → Prop) (k : (∀ n H, C n H → B n H) → A) (b : ∀ n H, C n H → B n H) : A := k b
theorem w_seqS {t u : TS} {D : Ends} {σ σ' : L2.St} {H : Hp} (e : σ = σ') (h : tSeq t u D σ' H) : tSeq t u D σ H := e ▸ h
theorem w_lc {wi : TI} {g : TG} {tt : TT} {te : TE} {vs : List Nat} {σ : L2.St} {H : Hp} {Q : VK} (h : wi σ H fun J H1 => ∀ D, H1 D = none → ∃ W : Nat → Nat → Hp → Prop, (∃ m, W 0 m (upd H1 D (.lst []))) ∧ ∀ i m H, W i m H →
  (J.stop i H ∧ Q (.ref D) H) ∨ (J.go i H ∧ ∃ Nx : Hp → Prop, (∀ H', Nx H' → ∃ m', m' < m ∧ W (i + 1) m' H') ∧ ∀ x H', J.yld i H x H' → g x (wipe σ vs) H' fun σ2 H2 => wipe σ2 vs = wipe σ vs ∧ tt σ2 H2 fun b H3 =>
    if b = true then te σ2 H3 fun y H4 => ∃ acc, H4 D = some (.lst acc) ∧ acc.length < sizeLine ∧ Nx (upd H4 D (.lst (acc ++ [y]))) else Nx H3)) : tLc wi g tt te vs σ H Q := h
theorem w_yes {σ : L2.St} {H : Hp} {R : Bool → Hp → Prop} (h : R true H) : tYes σ H R := h
theorem w_wipe {σ σ2 : L2.St} {vs : List Nat} {A : Prop} (e : wipe σ2 vs = wipe σ vs) (h : A) : wipe σ2 vs = wipe σ vs ∧ A := ⟨e, h⟩
/-- the list of a comprehension, one more -/
theorem acc_new {H : Hp} {D : Addr} {acc : List V} {y : V} (e : H D = some (.lst acc)) : ∃ H', upd H D (.lst (acc ++ [y])) = H' ∧ H' D = some (.lst (acc ++ [y])) ∧ Ch [D] H H' := ⟨_, rfl, upd_same, Ch.wr e rfl⟩
theorem lc_new {H : Hp} {D : Addr} (n : H D = none) : ∃ H', upd H D (.lst []) = H' ∧ H' D = some (.lst []) ∧ Ch [] H H' := ⟨_, rfl, upd_same, Ch.new n⟩
theorem dpAll_ints {K : PySem.W.Frag} {H : Hp} : ∀ ns : List Int, DpAll K H (ns.map V.int) (ns.map PyData.int)
  | [] => .nil
  | n :: r => .cons (.int n) (dpAll_ints r)
end Kt
namespace Kt
open PySem PySem.Spec PyProof.Rows L2
theorem kb_int_int : kitB "int" "int" = some true := by decide +kernel
theorem kb_int_bool : kitB "int" "bool" = some false := by decide +kernel
theorem kb_int_str : kitB "int" "str" = some false := by decide +kernel
theorem kb_int_list : kitB "int" "list" = some false := by decide +kernel
theorem kb_int_tuple : kitB "int" "tuple" = some false := by decide +kernel
theorem kb_int_dict : kitB "int" "dict" = some false := by decide +kernel
theorem kb_bool_int : kitB "bool" "int" = some true := by decide +kernel
theorem kb_bool_bool : kitB "bool" "bool" = some true := by decide +kernel
theorem kb_bool_str : kitB "bool" "str" = some false := by decide +kernel
theorem kb_bool_list : kitB "bool" "list" = some false := by decide +kernel
theorem kb_bool_tuple : kitB "bool" "tuple" = some false := by decide +kernel
theorem kb_bool_dict : kitB "bool" "dict" = some false := by decide +kernel
theorem kb_str_int : kitB "str" "int" = some false := by decide +kernel
theorem kb_str_bool : kitB "str" "bool" = some false := by decide +kernel
theorem kb_str_str : kitB "str" "str" = some true := by decide +kernel
theorem kb_str_list : kitB "str" "list" = some false := by decide +kernel
theorem kb_str_tuple : kitB "str" "tuple" = some false := by decide +kernel
theorem kb_str_dict : kitB "str" "dict" = some false := by decide +kernel
theorem kb_list_int : kitB "list" "int" = some false := by decide +kernel
theorem kb_list_bool : kitB "list" "bool" = some false := by decide +kernel
theorem kb_list_str : kitB "list" "str" = some false := by decide +kernel
theorem kb_list_list : kitB "list" "list" = some true := by decide +kernel
theorem kb_list_tuple : kitB "list" "tuple" = some false := by decide +kernel
theorem kb_list_dict : kitB "list" "dict" = some false := by decide +kernel
theorem kb_tuple_int : kitB "tuple" "int" = some false := by decide +kernel
theorem kb_tuple_bool : kitB "tuple" "bool" = some false := by decide +kernel
theorem kb_tuple_str : kitB "tuple" "str" = some false := by decide +kernel
theorem kb_tuple_list : kitB "tuple" "list" = some false := by decide +kernel
theorem kb_tuple_tuple : kitB "tuple" "tuple" = some true := by decide +kernel
theorem kb_tuple_dict : kitB "tuple" "dict" = some false := by decide +kernel
theorem kb_dict_int : kitB "dict" "int" = some false := by decide +kernel
theorem kb_dict_bool : kitB "dict" "bool" = some false := by decide +kernel
theorem kb_dict_str : kitB "dict" "str" = some false := by decide +kernel
theorem kb_dict_list : kitB "dict" "list" = some false := by decide +kernel
theorem kb_dict_tuple : kitB "dict" "tuple" = some false := by decide +kernel
theorem kb_dict_dict : kitB "dict" "dict" = some true := by decide +kernel
theorem kb_NoneType_int : kitB "NoneType" "int" = some false := by decide +kernel
theorem kb_NoneType_bool : kitB "NoneType" "bool" = some false := by decide +kernel
theorem kb_NoneType_str : kitB "NoneType" "str" = some false := by decide +kernel
theorem kb_NoneType_list : kitB "NoneType" "list" = some false := by decide +kernel
theorem kb_NoneType_tuple : kitB "NoneType" "tuple" = some false := by decide +kernel
theorem kb_NoneType_dict : kitB "NoneType" "dict" = some false := by decide +kernel
end Kt

set_option Elab.async false
set_option linter.all false
set_option maxRecDepth 100000
set_option maxHeartbeats 8000000
namespace Kt
open PySem PySem.Spec PyProof.Rows L2
section
variable {prog : Program} {w : World} {A : Around} {E : Value → Shared → Prop} {s : Shared}
/-- the bare set that set(..) lays first -/
def bareS (w : World) : Obj := { cls := .type "set", dict := none, data := .set #[] 0 (.fresh 0 0 (!w.params.followText "set-order")) }
theorem bare_get {w : World} {h : Heap} : (h.push (bareS w)).get? h.objs.size = some (bareS w) := Heap.get?_push_size _ rfl
/-- what the filled set is -/
def FilledS (w : World) (ns : List Int) (s s2 : Shared) : Prop :=
  ∃ (h2 : Heap) (tk c : Nat), s2 = { s with heap := h2, toks := tk } ∧ SetR w h2 s.heap.objs.size (fun j => decide (j ∈ ns)) c ∧ c ≤ ns.length ∧ ∀ b o, s.heap.get? b = some o → h2.get? b = some o
/-- the bare set filled from a list of ints -/
theorem fill_list {l : Addr} {its : Array Value} (ns : List Int) (hh : A.handled = none) (hl : s.heap.IsList l its) (hi : IntsAre its.toList ns) (hb : ns.length + 1 < scanBound) {R : Value → Shared → Prop} (hR : ∀ s2, FilledS w ns s s2 → R .none s2) :
    codeAny (model prog w) A (.call (.builtin "set.__init__") ⟨[.ref s.heap.objs.size, .ref l], []⟩) (wants R E) { s with heap := s.heap.push (bareS w) } := by
  have len : its.size = ns.length := (Array.length_toList (xs := its)).symm.trans (IntsAre.length hi)
  have top : s.heap.objs.size < (s.heap.push (bareS w)).objs.size := by rw [Heap.size_push]; exact Nat.lt_succ_self _
  have ty : Shared.TypeIs { s with heap := s.heap.push (bareS w) } (.ref s.heap.objs.size) "set" := ⟨_, bare_get, rfl⟩
  have vals : ∀ (i : Nat) (v : Value), its[i]? = some v → ∃ k t, ns[i]? = some k ∧ v = .int k t := by
    intro i v e
    have lt : i < ns.length := by rw [← len]; exact (Array.getElem?_eq_some_iff.mp e).1
    obtain ⟨t, g⟩ := IntsAre.int_at hi i v ((Array.getElem?_toList).trans e)
    rw [List.getD_eq_getElem?_getD, List.getElem?_eq_getElem lt] at g
    exact ⟨_, t, List.getElem?_eq_getElem lt, g⟩
  have L1 : (s.heap.push (bareS w)).IsList l its := hl.push _
  refine codeAny_call_builtin F.called_set.init.plain F.entry_set_init (check_set_init_1 ty ?_)
  obtain ⟨⟨oc, od, ox, os⟩, ho, rfl, n, rfl⟩ := hl
  have low : l < s.heap.objs.size := Heap.lt_size ho
  have at1 := Heap.get?_push_of_some (bareS w) ho
  have b1 := F.sub_list_set
  have b2 := F.sub_list_frozenset
  have b3 : (Value.type "list" == Value.type "dict") = false := by decide
  unfold Builtin.«set.__init__» noKeywords Builtin.Frozenset.updateFrom
  generalize hPI : pyIter = PI
  wp_walk
  subst hPI
  apply wpAny_pyIter_list L1
  apply wpAny_bind
  apply wpAny_runValue
  have away : l ≠ (s.heap.push (bareS w)).objs.size := Nat.ne_of_lt (Nat.lt_trans low top)
  have hn3 : A.in1.in1.handled = none := by rw [Around.in1_handled, Around.in1_handled]; exact hh
  have out : s.heap.objs.size ∉ [(s.heap.push (bareS w)).objs.size, l] := fun m => by
    rcases List.mem_cons.mp m with e | m
    · exact Nat.ne_of_lt top e
    · exact Nat.ne_of_gt low (List.mem_singleton.mp m)
  have b0 : ((s.heap.push (bareS w)).push { cls := .type "list_iterator", data := .fields #[.ref l, .int 0 0] }).get? s.heap.objs.size = some (bareS w) := Heap.get?_push_of_some _ bare_get
  have z0 : SetR w ((s.heap.push (bareS w)).push { cls := .type "list_iterator", data := .fields #[.ref l, .int 0 0] }) s.heap.objs.size (fun j => decide (j ∈ ns.take 0)) 0 := setR_new_at b0
  refine set_update_ints (Walks.list hn3 _ l away its).toS s.heap.objs.size out ns len hb vals its.size 0 _ rfl (Nat.zero_le _) ?it ?st fun s2 c mv hc hS => ?_
  case it => exact ⟨⟨_, Heap.get?_push_size _ rfl, rfl, rfl⟩, L1.push _⟩
  case st => exact ⟨0, Nat.le_refl 0, z0⟩
  have kept : ∀ b o, s.heap.get? b = some o → s2.heap.get? b = some o := fun b o e => by
    have lb := Heap.lt_size e
    refine mv.heap b o (fun m => ?_) (Heap.get?_push_of_some _ (Heap.get?_push_of_some _ e))
    rcases List.mem_cons.mp m with z | m
    · exact Nat.ne_of_lt lb z
    · exact Nat.ne_of_lt (Nat.lt_trans lb top) (List.mem_singleton.mp m)
  have e2 : s2 = { s with heap := s2.heap, toks := s2.toks } := by
    have q1 := mv.gens
    have q2 := mv.drawn
    have q3 := mv.os
    obtain ⟨h2, g2, d2, t2, o2⟩ := s2
    dsimp only at q1 q2 q3
    subst q1 q2 q3
    rfl
  show wpAny _ _ _ _ _ _
  apply wpAny_pure
  show wpAny _ _ (ret Value.none) _ _ _
  apply wpAny_pure
  exact hR s2 ⟨_, _, c, e2, hS, len ▸ hc, kept⟩
theorem call_set_ints {l : Addr} {its : Array Value} (ns : List Int) (hh : A.handled = none) (hl : s.heap.IsList l its) (hi : IntsAre its.toList ns) (hb : ns.length + 1 < scanBound) {Q : Value → Shared → Prop} (hQ : ∀ s2, FilledS w ns s s2 → Q (.ref s.heap.objs.size) s2) :
    wpAny (model prog w) A (call (.type "set") [.ref l]) Q E s := by
  obtain ⟨c0, tl, mro⟩ := F.called_set.mro
  have a1 := F.called_set.made
  have a2 := F.called_set.sub
  have a3 := F.called_set.notType
  have a4 := F.called_set.canCreate
  have a5 := F.typeCall_set_1 (.ref l)
  have a6 := F.called_set.init.lookup
  have a7 := F.called_set.init.bind (.ref s.heap.objs.size)
  apply wpAny_call
  apply codeAny_of_tree
  show wpAny _ _ (callAny (.type "set") _) _ _ _
  refine wpAny_pure ⟨Code.quiet_builtin _ (by decide +kernel), codeAny_builtin F.entry_type_call ?_⟩
  rw [Around.under_plain (weight_type_call_type "set" [.ref l] []) rfl]
  repeat any_goals first | assumption | wp_step
  refine codeAny_mono (code_set_led1 (.ref l) (E := E) (Q₁ := fun v s1 => v = .ref s.heap.objs.size ∧ s1 = { s with heap := s.heap.push (bareS w) }) ⟨rfl, rfl⟩) ?_
  rintro (e | f) s1 hr
  · exact hr
  · cases f
    case ret v =>
      obtain ⟨rfl, rfl⟩ := hr
      have ty : Shared.TypeIs { s with heap := s.heap.push (bareS w) } (.ref s.heap.objs.size) "set" := ⟨_, bare_get, rfl⟩
      repeat any_goals first | assumption | wp_step
      refine codeAny_mono (fill_list (E := E) (R := fun v s2 => v = .none ∧ FilledS w ns s s2) ns ?_ hl hi hb fun s2 f => ⟨rfl, f⟩) ?_
      · exact hh
      · rintro (e | f) s2 hr
        · exact hr
        · cases f
          case ret v =>
            obtain ⟨rfl, f⟩ := hr
            repeat any_goals first | assumption | wp_step
            exact hQ _ f
          all_goals exact hr.elim
    all_goals exact hr.elim
end
section
variable {X : Cx}
def qStL (K : PySem.W.Frag) (w : World) : List V → Hp → VK → Prop := fun vs H Q => ∃ (p : Addr) (ns : List Int), vs = [.ref p] ∧ SqL K H p (ns.map V.int) ∧ ns.length + 1 < scanBound ∧ ∀ a c, H a = none → c ≤ ns.length → Q (.ref a) (upd H a (SetO w a (fun j => decide (j ∈ ns)) c))
theorem c_setL (hc : X.calm = true) : CallR X (.type "set") (qStL X.K X.w) := by
  intro pins s σ H xs us Q I r h
  obtain ⟨p, ns, rfl, hs, hb, q⟩ := h
  rw [Vals.ref1 r]
  obtain ⟨its, rv, pl, hz⟩ := I.list hs
  refine call_set_ints ns (I.ok.hd hc) pl.isList (ints_of_vals rv) hb ?_
  rintro s2 ⟨h2, tk, c, rfl, R, hcn, k⟩
  exact ⟨.ref _, _, I.laid k (Nat.le_refl _) (setO_new R), rfl, q _ c (I.hok.fresh (Nat.le_refl _)) hcn⟩
def qStT (K : PySem.W.Frag) (w : World) : List V → Hp → VK → Prop := fun vs H Q => ∃ (p : Addr) (ns : List Int), vs = [.ref p] ∧ SqT K H p (ns.map V.int) ∧ ns.length + 1 < scanBound ∧ ∀ a c, H a = none → c ≤ ns.length → Q (.ref a) (upd H a (SetO w a (fun j => decide (j ∈ ns)) c))
theorem c_setT (hc : X.calm = true) : CallR X (.type "set") (qStT X.K X.w) := by
  intro pins s σ H xs us Q I r h
  obtain ⟨p, ns, rfl, hs, hb, q⟩ := h
  rw [Vals.ref1 r]
  obtain ⟨its, rv, pl, hz⟩ := I.tuple hs
  refine call_set_tupI ns (I.ok.hd hc) pl (ints_of_vals rv) hb fun h2 tk c R hcn k => ?_
  exact ⟨.ref _, _, I.laid k (Nat.le_refl _) (setO_new R), rfl, q _ c (I.hok.fresh (Nat.le_refl _)) hcn⟩
end
end Kt

set_option Elab.async false
set_option linter.all false
set_option maxRecDepth 100000
set_option maxHeartbeats 8000000
namespace Kt
open PySem PySem.Spec PyProof.Rows L2
section
variable {X : Cx} {pins : List (Addr × Obj)} {σ : L2.St} {H : Hp} {s : Shared} {Q : VK} {A : Around} {C : Addr} {m : Str} {k : Nat} {ps : List Str} {sp : Sp}
theorem Vals.rf (a : Addr) : RelV (.ref a) (.ref a) := rfl
theorem Vals.two (a b : Addr) : Vals [.ref a, .ref b] [.ref a, .ref b] := .cons (Vals.rf a) (.cons (Vals.rf b) .nil)
/-- an own method run from inside a built-in -/
theorem own_run {Ex : Value → Shared → Prop} {f : Addr} {fd : FuncData} {us : List Value} {vs : List V} (sb : Sub X k A) (F : FnOk X.prog X.w X.K X.mg X.base CX0 k f fd ps sp) (hb : Binds X.K fd ps []) (I : Inv X pins σ H s) (r : Vals vs us) (h : sp vs H Q E0) :
    wpAny (model X.prog X.w) A (call (.ref f) us) (EP X pins σ Q) Ex s := by
  have e0 : Env0 X.prog X.w X.K X.mg X.base A X.stack s H := { I.env0 with frames := sb.fr.trans I.env0.frames }
  have hl : us.length = ps.length := r.length.symm.trans (F.len _ _ _ _ h)
  have bt := hb s us I.kIn (by rw [List.append_nil]; exact hl)
  rw [List.append_nil] at bt
  apply wpAny_call
  refine codeAny_mono (F.run A X.stack s H ⟨us, []⟩ us vs Q E0 sb.room e0 bt r h) ?_
  rintro (e | fl) s2 q
  · exact q.elim
  · cases fl
    case ret u => exact I.after q
    all_goals exact q.elim
/-- an instance, seen from the built-ins -/
theorem own_at {a dx : Addr} {fs : List (Str × V)} (I : Inv X pins σ H s) (ha : H a = some (.ins C dx fs)) : ∃ od, PySem.W.InstAt s.heap a (PySem.W.instObj C dx) C (some od) := by
  obtain ⟨mA, J, _⟩ := ins_get I.hok ha
  obtain ⟨od, J, _⟩ := J.look
  exact ⟨od, J⟩
theorem back_of {u : Value} {s2 : Shared} (q : EP X pins σ Q u s2) : PySem.W.CmpBack (EP X pins σ Q) u s2 := by
  have n : u ≠ .notImplemented := by
    obtain ⟨v, H2, _, r, _⟩ := q
    rintro rfl
    cases v <;> first | (obtain ⟨t, z⟩ := r; cases z; done) | (cases r; done)
  cases u
  case notImplemented => exact (n rfl).elim
  all_goals exact q
/-- one of two instances of one class with an operator of their own -/
def qOwn2 (C : Addr) (sp : Sp) : R2 := fun x y H Q => ∃ a b dx dy fs gs, x = .ref a ∧ y = .ref b ∧ H a = some (.ins C dx fs) ∧ H b = some (.ins C dy gs) ∧ sp [.ref a, .ref b] H Q E0
theorem o_own {op : Operator} (D : Dm X.prog X.w X.K X.mg X.base C (PySem.dunder op.info.2) k ps sp) (hc : PySem.W.selfFirst X.K C = true) (hr : Room k X.A) : OpR X (binaryOp op) (qOwn2 C sp) := by
  intro pins s σ H x y v u Q I rx ry h
  obtain ⟨a, b, dx, dy, fs, gs, rfl, rfl, ha, hb, q⟩ := h
  obtain ⟨f, fd, h1, h2, h3, bd, F⟩ := D.ex
  obtain ⟨od, J⟩ := own_at I ha
  obtain ⟨od2, J2⟩ := own_at I hb
  obtain ⟨fr, hF⟩ := I.fr
  cases rx
  cases ry
  refine PySem.W.binop_K hF I.ok.mod.kin J J2.type hc h1 h2 (thn (own_run ⟨hr, rfl⟩ F bd I (Vals.two a b) q) fun u s2 z => back_of z)
theorem o_ownEq (D : Dm X.prog X.w X.K X.mg X.base C "__eq__" k ps sp) (hr : Room k X.A) : OpR X (compareOp .Eq) (qOwn2 C sp) := by
  intro pins s σ H x y v u Q I rx ry h
  obtain ⟨a, b, dx, dy, fs, gs, rfl, rfl, ha, hb, q⟩ := h
  obtain ⟨f, fd, h1, h2, h3, bd, F⟩ := D.ex
  obtain ⟨od, J⟩ := own_at I ha
  obtain ⟨od2, J2⟩ := own_at I hb
  obtain ⟨fr, hF⟩ := I.fr
  cases rx
  cases ry
  have nf : PySem.W.notFirst X.K C (.ref C) = true := by unfold PySem.W.notFirst; rw [beq_self_eq_true, Bool.true_or]
  exact PySem.W.cmp_K (op := .Eq) (Room.units0 hr) hF I.ok.mod.kin J J2.type nf h1 h2 (thn (own_run ⟨hr, rfl⟩ F bd I (Vals.two a b) q) fun u s2 z => back_of z)
/-- v in o, by an own __contains__ that answers a bool -/
def qOwnIn (C : Addr) (sp : Sp) : R2 := fun x y H Q => ∃ a dx fs, y = .ref a ∧ H a = some (.ins C dx fs) ∧ sp [.ref a, x] H (fun v H2 => ∃ b, v = .bl b ∧ Q (.bl b) H2) E0
theorem o_ownIn (D : Dm X.prog X.w X.K X.mg X.base C "__contains__" k ps sp) (hr : Room k X.A) : OpR X (compareOp .In) (qOwnIn C sp) := by
  intro pins s σ H x y v u Q I rx ry h
  obtain ⟨a, dx, fs, rfl, ha, q⟩ := h
  obtain ⟨f, fd, h1, h2, h3, bd, F⟩ := D.ex
  obtain ⟨od, J⟩ := own_at I ha
  obtain ⟨fr, hF⟩ := I.fr
  cases ry
  refine PySem.W.in_K hF I.ok.mod.kin J h1 h2 (thn (own_run ⟨hr, rfl⟩ F bd I (Paired.cons (Vals.rf a) (.cons rx .nil)) q) ?_)
  rintro u s2 ⟨w, H2, I2, rw2, b, rfl, q2⟩
  cases rw2
  exact wpAny_truthy_bool ⟨.bl b, H2, I2, rfl, q2⟩
/-- len(o), by an own __len__ -/
def qOwnLen (C : Addr) (sp : Sp) : List V → Hp → VK → Prop := fun vs H Q => ∃ a dx fs, vs = [.ref a] ∧ H a = some (.ins C dx fs) ∧ sp [.ref a] H (fun v H2 => ∃ n : Nat, v = .int n ∧ n < 2 ^ 62 ∧ Q (.int n) H2) E0
theorem c_ownLen (D : Dm X.prog X.w X.K X.mg X.base C "__len__" k ps sp) (hr : Room (k + 1) X.A) : CallR X (.builtin "len") (qOwnLen C sp) := by
  intro pins s σ H xs us Q I r h
  obtain ⟨a, dx, fs, rfl, ha, q⟩ := h
  obtain ⟨f, fd, h1, h2, h3, bd, F⟩ := D.ex
  obtain ⟨od, J⟩ := own_at I ha
  obtain ⟨fr, hF⟩ := I.fr
  rw [Vals.ref1 r]
  have sb : Sub X k X.A.in1 := Sub.in1 ⟨hr, rfl⟩
  refine PySem.W.len_K hF I.ok.mod.kin J h1 h2 (thn (own_run sb F bd I (Paired.cons (Vals.rf a) .nil) q) ?_)
  rintro u s2 ⟨w, H2, I2, rw2, n, rfl, hn, q2⟩
  obtain ⟨t, rfl⟩ := rw2
  exact ⟨⟨Int.natCast_nonneg n, by omega⟩, .int n, H2, I2.tok _, ⟨_, rfl⟩, q2⟩
end
end Kt

set_option Elab.async false
set_option linter.all false
set_option maxRecDepth 100000
set_option maxHeartbeats 8000000
namespace Kt
open PySem PySem.Spec PyProof.Rows L2
/-- an iterator over the tuple at l, as it is laid -/
def tiO (l : Addr) : Obj := { cls := .type "tuple_iterator", data := .fields #[.ref l, .int 0 0] }
def TiH (l it : Addr) : HO := .ext fun h => h.get? it = some (tiO l)
section
variable {X : Cx} {pins : List (Addr × Obj)} {σ : L2.St} {H : Hp} {s : Shared} {A : Around}
theorem ti_ok {P : Program} {w : World} {l it : Addr} {h : Heap} (e : h.get? it = some (tiO l)) : ObjOk P w H h it (TiH l it) := ⟨e, ⟨_, e⟩, fun _ _ q k => k _ q⟩
def qIterT (K : PySem.W.Frag) : List V → Hp → VK → Prop := fun xs H Q => ∃ l zs, xs = [.ref l] ∧ SqT K H l zs ∧ ∀ it, H it = none → Q (.ref it) (upd H it (TiH l it))
theorem iter_tup {prog : Program} {w : World} {E : Value → Shared → Prop} {l : Addr} {its : Array Value} {Q : Value → Shared → Prop} (hl : s.heap.IsTuple l its) (q : Q (.ref s.heap.objs.size) { s with heap := s.heap.push (tiO l) }) :
    wpAny (model prog w) A (call (.builtin "iter") [.ref l]) Q E s := by
  refine Calls.call_function_entry (by decide +kernel) (by decide +kernel) PySem.W.kdk_entry_iter (PySem.W.kdk_args_iter _) ?_
  delta Builtin.«iter»
  refine wpAny_bind (wpAny_of_eq (a := [Value.ref l]) (by first | rfl | kernel_rfl!) ?_)
  show wpAny _ _ (pyIter (.ref l) >>= _) _ _ _
  apply wpAny_bind
  apply wpAny_pyIter_tuple hl
  exact wpAny_pure ⟨_, rfl, q⟩
theorem c_iterT : CallR X (.builtin "iter") (qIterT X.K) := by
  intro pins s σ H xs us Q I r h
  obtain ⟨l, zs, rfl, hs, q⟩ := h
  rw [Vals.ref1 r]
  obtain ⟨its, rv, pl, hz⟩ := I.tuple hs
  exact iter_tup pl ⟨.ref s.heap.objs.size, _, I.laid (t' := s.toks) (fun b u e => Heap.get?_push_of_some _ e) (Nat.le_refl _) (ti_ok (Heap.get?_push_size _ rfl)), rfl, q _ (I.hok.fresh (Nat.le_refl _))⟩
/-- the size that list(..) asks of an own __len__ -/
theorem hint_own {C a dx f : Addr} {fs : List (Str × V)} {fd : FuncData} {ps : List Str} {k : Nat} {sp : Sp} {Q : Bool → Shared → Prop} (I : Inv X pins σ H s) (ha : H a = some (.ins C dx fs)) (h1 : PySem.W.findIn X.K (.ref C) "__len__" = some (some (.ref f))) (h2 : PySem.W.isFn X.K (.ref f) = true) (bd : Binds X.K fd ps [])
    (F : FnOk X.prog X.w X.K X.mg X.base CX0 k f fd ps sp) (sb : Sub X (k + 1) A) {R : Hp → Prop} (q : sp [.ref a] H (fun v H2 => ∃ n : Nat, v = .int n ∧ n < 1000 ∧ R H2) E0) (hQ : ∀ b s2 H2, Inv X pins σ H2 s2 → R H2 → Q b s2) :
    wpAny (model X.prog X.w) A (Builtin.List.listLengthHint (.ref a)) Q X.xe s := by
  obtain ⟨od, J⟩ := own_at I ha
  obtain ⟨fr, hF⟩ := I.fr
  delta Builtin.List.listLengthHint
  dsimp only
  refine wpAny_bind (wpAny_bind (J.type.here ((PySem.W.looks_findIn I.kIn h1).here ?_)))
  dsimp only
  apply PySem.W.KFB.if_not rfl
  apply PySem.W.KFB.if_so rfl
  refine wpAny_bind (wpAny_rule ?_)
  refine wpAny_bind (wpAny_attempt ?_)
  refine PySem.W.len_K hF I.ok.mod.kin J h1 h2 (thn (own_run sb.in1 F bd I (Paired.cons (Vals.rf a) .nil) q) ?_)
  rintro u s2 ⟨w, H2, I2, rw2, n, rfl, hn, r⟩
  obtain ⟨t, rfl⟩ := rw2
  refine ⟨⟨Int.natCast_nonneg n, by omega⟩, ?_⟩
  dsimp only
  refine wpAny_bind (wpAny_of_eq (a := some (n : Int)) (by first | rfl | kernel_rfl!) ?_)
  dsimp only
  have z : Builtin.List.listTooLong (Int.toNat (n : Int)) = false := by
    unfold Builtin.List.listTooLong
    rw [Int.toNat_natCast, sizeLine_eq]
    exact decide_eq_false (by omega)
  apply PySem.W.KFB.if_not z
  exact wpAny_pure (hQ _ _ H2 (I2.tok _) r)
/-- what an own __iter__ gives back is an iterator -/
theorem it_is {l it : Addr} {Ex : Value → Shared → Prop} {Q : Value → Shared → Prop} (e : s.heap.get? it = some (tiO l)) (q : Q (.ref it) s) : PySem.W.OwitIt (model X.prog X.w) A Q Ex (.ref it) s := by
  delta PySem.W.OwitIt
  have ty : s.TypeIs (.ref it) "tuple_iterator" := ⟨_, e, rfl⟩
  refine wpAny_specialOf ty F.slot_tuple_iterator_next.lookup ?_
  exact q
/-- the list at q filled from the iterator at it, which is forgotten -/
theorem fill_own {q it l : Addr} {zs : List V} {Rs : Result → Shared → Prop} (I : Inv X pins σ H s) (hx : X.ex = []) (hq : H q = some (.lst [])) (hi : H it = some (TiH l it)) (h0 : Fr0 X.H_0 it) (hs : SqT X.K H l zs) (hh : A.in1.handled = none)
    (hQ : ∀ s2, Inv X pins σ (upd (delH H it) q (.lst zs)) s2 → Rs (.ok (.ret .none)) s2) : codeAny (model X.prog X.w) A (.builtin "list.extend.loop" ⟨[.ref q, .ref it, .none], []⟩) Rs s := by
  obtain ⟨its, rv, pl, hz⟩ := I.tuple hs
  obtain ⟨z0, its0, n, r0, hl0, e⟩ := I.lstM hq
  cases r0
  have ei : s.heap.get? it = some (tiO l) := (I.hok it _ hi).1
  obtain ⟨ol, hol, hcl, nl, hdl⟩ := id pl
  have n1 : l ≠ it := by rintro rfl; rw [hol] at ei; have z := congrArg Obj.cls (Option.some.inj ei); rw [hcl] at z; exact absurd (Value.type.inj z) (by decide)
  have n2 : q ≠ it := by rintro rfl; rw [hq] at hi; cases hi
  have n3 : q ≠ l := by rintro rfl; rw [e] at hol; have z := congrArg Obj.cls (Option.some.inj hol); rw [hcl] at z; exact absurd (Value.type.inj z) (by decide)
  have out : q ∉ [it, l] := fun m => by
    rcases List.mem_cons.mp m with z | m
    · exact n2 z
    · exact n3 (List.mem_singleton.mp m)
  obtain ⟨G, g1, g2, IG⟩ := I.untrack hi h0 hx
  have sz : its.toArray.size ≤ sizeLine := by rw [List.size_toArray]; exact (rv.length ▸ hz)
  refine codeAny_extend_loopS (Walks.tuple hh it l n1 its.toArray).toS sz q out .none its.toArray.size 0 s #[] n rfl (Nat.zero_le _) ⟨⟨_, ei, rfl, rfl⟩, pl⟩ e (ItemsOf.nil _) fun s3 acc c mv hS items => ?_
  have ea : acc = its.toArray := by
    refine Array.ext items.1 fun j h1 h2 => ?_
    have := items.2 j acc[j] (Array.getElem?_eq_getElem h1)
    exact (Option.some.inj ((Array.getElem?_eq_getElem h2).symm.trans this)).symm
  subst ea
  have k : ∀ b u, b ≠ q → G.get? b = some u → s3.heap.get? b = some u := fun b u nb eb => by
    refine mv.heap b u (fun m => ?_) (g1 b u eb)
    rcases List.mem_cons.mp m with z | m
    · exact nb z
    · rw [List.mem_singleton.mp m, g2] at eb; cases eb
  have hq2 : delH H it q = some (.lst []) := by unfold delH; rw [if_neg n2]; exact hq
  have J := IG.write (x := q) (e := q) (o := .lst zs) (h' := s3.heap) (t' := s3.toks) (by rw [hq2]; trivial) (.inl rfl) k ⟨_, hS⟩ ⟨rv.length ▸ (by rw [← List.size_toArray]; exact sz), its, c, rv, hS⟩
  have es : s3 = { s with heap := s3.heap, toks := s3.toks } := by
    have q1 := mv.gens
    have q2 := mv.drawn
    have q3 := mv.os
    obtain ⟨h3, g3, d3, t3, o3⟩ := s3
    dsimp only at q1 q2 q3
    subst q1 q2 q3
    rfl
  rw [es]
  exact hQ _ J
theorem ch_back {H H3 : Hp} {q it : Addr} {o : HO} (c : Ch [] H H3) (nq : H q = none) (ni : H it = none) : Ch [] H (upd (delH H3 it) q o) := by
  have k : ∀ b u, H b = some u → upd (delH H3 it) q o b = some u := fun b u e => by
    rw [upd_ne (ne_of_none e nq)]
    unfold delH
    rw [if_neg (ne_of_none e ni)]
    exact c.get0 e
  exact ⟨fun b u e _ => k b u e, fun b xs e => k b _ e, fun b u v e => k b _ e, fun b u e => ⟨u, k b u e⟩⟩
theorem ext_own {H0 : Hp} {C a q dx fi fl : Addr} {fs : List (Str × V)} {fdI fdL : FuncData} {psI psL : List Str} {k : Nat} {spI spL : Sp} {Q : VK} {Rs : Result → Shared → Prop} (I : Inv X pins σ H s) (hx : X.ex = []) (ha : H a = some (.ins C dx fs)) (nq : H0 q = none) (hq : H q = some (.lst [])) (c0 : Ch [] H0 H)
    (i1 : PySem.W.findIn X.K (.ref C) "__iter__" = some (some (.ref fi))) (i2 : PySem.W.isFn X.K (.ref fi) = true) (bI : Binds X.K fdI psI []) (FI : FnOk X.prog X.w X.K X.mg X.base CX0 k fi fdI psI spI)
    (l1 : PySem.W.findIn X.K (.ref C) "__len__" = some (some (.ref fl))) (l2 : PySem.W.isFn X.K (.ref fl) = true) (bL : Binds X.K fdL psL []) (FL : FnOk X.prog X.w X.K X.mg X.base CX0 k fl fdL psL spL) (sb : Sub X (k + 1) A.in1) (hh : A.handled = none)
    (h : spI [.ref a] H (fun v H2 => ∃ it l zs, v = .ref it ∧ H it = none ∧ Ch [] H H2 ∧ H2 it = some (TiH l it) ∧ Fr0 X.H_0 it ∧ SqT X.K H2 l zs ∧
      spL [.ref a] H2 (fun v H3 => ∃ n : Nat, v = .int n ∧ n < 1000 ∧ Ch [] H2 H3 ∧ ∀ H4, H4 q = some (.lst zs) → Ch [] H0 H4 → Q (.ref q) H4) E0) E0)
    (fin : ∀ s2, EP X pins σ Q (.ref q) s2 → Rs (.ok (.ret .none)) s2) :
    wpAny (model X.prog X.w) A.in1 (Builtin.List.listExtendWith (.ref q) (.ref a) .none) (fun g s2 => match g with | .done v => Rs (.ok v) s2 | .again c => c.quiet = true ∧ codeAny (model X.prog X.w) A c Rs s2) X.xe s := by
  have nqa : q ≠ a := ne_of hq ha (fun z => nomatch z)
  obtain ⟨od, J⟩ := own_at I ha
  obtain ⟨fr, hF⟩ := I.fr
  delta Builtin.List.listExtendWith
  refine wpAny_bind (J.type.here ?_)
  have z1 : Builtin.List.listSameRef (.ref q) (.ref a) = false := by simp [Builtin.List.listSameRef, nqa]
  have z2 : (Value.ref C == Value.type "list") = false := rfl
  have z3 : (Value.ref C == Value.type "tuple") = false := rfl
  simp only [z1, z2, z3, Bool.or_false, Bool.false_eq_true, if_false]
  refine wpAny_bind (PySem.W.owit_iter hF I.ok.mod.kin J i1 i2 (thn (own_run (sb.mono (Nat.le_succ k)) FI bI I (Paired.cons (Vals.rf a) .nil) h) ?_))
  rintro u s3 ⟨v, H2, I3, r3, it, l, zs, rfl, ni, c2, hi, h0, ht, hL⟩
  cases r3
  refine it_is (I3.hok it _ hi).1 ?_
  refine wpAny_bind (wpAny_holding (hint_own I3 (c2.get0 ha) l1 l2 bL FL sb (R := fun H3 => Ch [] H2 H3 ∧ ∀ H4, H4 q = some (.lst zs) → Ch [] H0 H4 → Q (.ref q) H4) hL ?_))
  rintro b s4 H3 I4 ⟨c3, done⟩
  have hq3 : H3 q = some (.lst []) := c3.get0 (c2.get0 hq)
  have c03 : Ch [] H0 H3 := (c0.trans c2).trans c3
  have loop : ∀ s5, Inv X pins σ H3 s5 → codeAny (model X.prog X.w) A (.builtin "list.extend.loop" ⟨[.ref q, .ref it, .none], []⟩) Rs s5 := fun s5 I5 =>
    fill_own I5 hx hq3 (c3.get0 hi) h0 (c3.sqT ht) hh fun s6 I6 => fin s6 ⟨.ref q, _, I6, rfl, done _ upd_same (ch_back c03 nq (c0.no ni))⟩
  refine wpAny_ite_split (fun _ => ?_) fun _ => wpAny_pure ⟨plainId_quiet F.plain_extend_loop _, loop s4 I4⟩
  refine wpAny_bind (wpAny_rule ?_)
  apply wpAny_bind
  obtain ⟨y1, w1, m1, r1, b1, e1⟩ := I4.lstM hq3
  cases r1
  have I5 := I4.lset (f := fun xs => xs.push Value.none) (its' := [Value.none]) (ys := [.non]) (t' := s4.toks) hq3 e1 (by simp) (Paired.cons (show RelV .non Value.none from rfl) .nil) (by rw [List.length_singleton, sizeLine_eq]; decide)
  show wpAny _ _ (updateSeq q (fun xs => xs.push Value.none) >>= fun _ => updateSeq q (fun xs => xs.pop)) _ _ _
  refine wpAny_bind (wpAny_updateSeq e1 rfl ?_)
  obtain ⟨y2, w2, m2, r2, b2, e2⟩ := I5.lstM upd_same
  obtain ⟨u2, rfl, _⟩ := r2.one
  have I6 := I5.lset (f := fun xs => xs.pop) (its := [u2]) (its' := []) (ys := []) (t' := s4.toks) upd_same e2 (by rfl) .nil (Nat.zero_le _)
  rw [upd_upd, (show upd H3 q (.lst []) = H3 from funext fun c => by
    by_cases e : c = q
    · rw [e, upd_same, hq3]
    · exact upd_ne e)] at I6
  refine wpAny_updateSeq e2 rfl (wpAny_pure ⟨plainId_quiet F.plain_extend_loop _, loop _ I6⟩) ?_ ?_
  · show 1 ≤ sizeLine
    rw [sizeLine_eq]
    decide
  · exact Nat.zero_le _
/-- list(o): an own __iter__ that gives an iterator over a tuple, an own __len__ -/
def qLstOwn (K : PySem.W.Frag) (H0 : Hp) (C : Addr) (spI spL : Sp) : List V → Hp → VK → Prop := fun xs H Q => ∃ a dx fs, xs = [.ref a] ∧ H a = some (.ins C dx fs) ∧ ∀ q H1, H q = none → H1 q = some (.lst []) → Ch [] H H1 →
  spI [.ref a] H1 (fun v H2 => ∃ it l zs, v = .ref it ∧ H1 it = none ∧ Ch [] H1 H2 ∧ H2 it = some (TiH l it) ∧ Fr0 H0 it ∧ SqT K H2 l zs ∧
    spL [.ref a] H2 (fun v H3 => ∃ n : Nat, v = .int n ∧ n < 1000 ∧ Ch [] H2 H3 ∧ ∀ H4, H4 q = some (.lst zs) → Ch [] H H4 → Q (.ref q) H4) E0) E0
abbrev eL : Obj := { cls := .type "list", data := .seq #[] }
theorem c_listOwn {C : Addr} {k : Nat} {psI psL : List Str} {spI spL : Sp} (hx : X.ex = []) (hc : X.calm = true) (DI : Dm X.prog X.w X.K X.mg X.base C "__iter__" k psI spI) (DL : Dm X.prog X.w X.K X.mg X.base C "__len__" k psL spL) (hr : Room (k + 3) X.A) :
    CallR X (.type "list") (qLstOwn X.K X.H_0 C spI spL) := by
  intro pins s σ H xs us Q I rv h
  obtain ⟨a, dx, fs, rfl, ha, hq⟩ := h
  rw [Vals.ref1 rv]
  obtain ⟨fi, fdI, i1, i2, i3, bI, FI⟩ := DI.ex
  obtain ⟨fl, fdL, l1, l2, l3, bL, FL⟩ := DL.ex
  have sb : Sub X (k + 1) X.A.in1.in1 := Sub.in1 (Sub.in1 ⟨hr, rfl⟩)
  refine callType_codes (Q₁ := fun v s1 => v = .ref s.heap.objs.size ∧ s1 = { s with heap := s.heap.push eL }) F.called_list (F.typeCall_list_1 _) F.entry_list_init (code_list_new _ ⟨rfl, rfl⟩) ?_
  rintro _ _ ⟨rfl, rfl⟩
  have hS : (s.heap.push eL).get? s.heap.objs.size = some eL := Heap.get?_push_size _ rfl
  have fr : H s.heap.objs.size = none := I.hok.fresh (Nat.le_refl _)
  have I1 : Inv X pins σ (upd H s.heap.objs.size (.lst [])) { s with heap := s.heap.push eL } := I.lnew (its := []) (t' := s.toks) .nil (Nat.zero_le _)
  refine ⟨⟨_, hS, rfl⟩, F.args_list_init_2 _ _, ?_⟩
  show wpAny _ _ (Builtin.List.listItems (.ref s.heap.objs.size) >>= fun old => Builtin.List.listUpdate (.ref s.heap.objs.size) (fun _ => #[]) >>= fun _ => letGo old.toList.reverse >>= fun _ => Builtin.List.listExtendWith (.ref s.heap.objs.size) (.ref a) .none) _ _ _
  apply wpAny_bind
  delta Builtin.List.listItems
  refine wpAny_bind (wpAny_seqItems hS rfl (wpAny_pure ?_))
  apply wpAny_bind
  refine wpAny_updateSeq hS rfl ?_
  have I2 := I1.lset (f := fun _ => #[]) (its := []) (its' := []) (ys := []) (t' := s.toks) upd_same hS rfl .nil (Nat.zero_le _)
  rw [upd_upd] at I2
  refine wpAny_bind (wpAny_letGo ?_)
  have nq := fr
  refine ext_own (A := X.A.in1) I2 hx (by rw [upd_ne (ne_of_none ha fr)]; exact ha) nq upd_same (Ch.new fr) i1 i2 bI FI l1 l2 bL FL sb (I.ok.hd hc) (hq _ _ nq upd_same (Ch.new fr)) fun s2 z => ⟨rfl, z⟩
end
end Kt

set_option Elab.async false
set_option linter.all false
set_option maxRecDepth 100000
set_option maxHeartbeats 8000000
namespace Kt
open PySem PySem.Spec PyProof.Rows L2
/-- C.m is a staticmethod: its record at p, its def at g -/
structure SmC (K : PySem.W.Frag) (C : Addr) (mc : Value) (m : Str) (p g : Addr) : Prop where
  rd : ClX.CRead K C mc
  found : PySem.W.findCls K (.ref C) mc m = some (.get (.builtin "staticmethod.__get__") (.ref p) .none (.ref C))
  rcd : ∃ rest, PySem.W.recIn K p "staticmethod" = some (.ref g :: rest)
  keep : PySem.W.keepIn K (.ref g) = true
def tSm (C : Addr) (sp : Sp) (ta : TE) (t : TA) : TE := fun σ H Q => ta σ H fun x H1 => x = .ref C ∧ t σ H1 fun vs H2 => sp vs H2 Q E0
section
variable {X : Cx} {pins : List (Addr × Obj)} {σ : L2.St} {H : Hp} {s : Shared} {C p g : Addr} {mc : Value} {m : Str} {k : Nat} {sp : Sp} {o e : Expr} {es : List Expr} {apos pos : Pos} {ta : TE} {t : TA} {pl : Sem Bool}
theorem get_sm {A : Around} {Ex : Value → Shared → Prop} {Q : Value × List Value → Shared → Prop} (I : Inv X pins σ H s) (c : SmC X.K C mc m p g) (h : ∀ s2, Inv X pins σ H s2 → Q (.ref g, []) s2) : wpAny (model X.prog X.w) A (getMethod (.ref C) m pl) Q Ex s := by
  obtain ⟨rest, hp⟩ := c.rcd
  apply PySem.W.method_cls I.kIn c.rd.ga
  apply PySem.W.cls_bind I.kIn c.rd.rd c.found
  apply wpAny_call
  exact PySem.W.sm_get (s := { s with toks := s.toks + 1 }) I.kIn hp (PySem.W.handed_on rfl (h _ (I.tok _)))
theorem pe_sm (he : PE X o ta) (c : SmC X.K C mc m p g) (F : FnR X.prog X.w X.K X.mg X.base CX0 k g sp) (hr : Room k X.A) (ha : PA X (e :: es) t)
    (h1 : starEach (e :: es) X.env = (false, eval e X.env) :: starEach es X.env := by rfl) (h2 : (backTo pos (starEach es X.env)).any (·.1) = false := by rfl)
    (h3 : eval (.Call (.Attribute o m apos) (e :: es) [] pos) X.env = (eval o X.env >>= fun ov => standAt apos.atName >>= fun _ => holding [ov] (getMethod ov m pl) >>= fun z =>
      callWith pos z.1 z.2 (backTo pos (starEach (e :: es) X.env)) (backToKw pos (keywordEach [] X.env))) := by rfl) : PE X (.Call (.Attribute o m apos) (e :: es) [] pos) (tSm C sp ta t) := by
  constructor
  intro pins s σ H Q I h
  refine PySem.W.methodCall_KW (pl := pl) (thn (he.run pins s σ H _ I h) ?_) h3
  rintro u s1 ⟨x, H1, I1, rx, rfl, q⟩
  cases rx
  refine get_sm I1 c fun s2 I2 => ?_
  refine PySem.W.callWith_K (first := []) (h₀ := X.base) I.ok.mod.kin c.keep (thn (ha.run pos pins s2 σ H1 _ I2 q) ?_) h1 h2
  rintro us s3 ⟨vs, H2, I3, r, q⟩
  exact ⟨I3.kIn, wpAny_call (run_fnR F hr pass0 I3 r q)⟩
theorem pe_sm0 (he : PE X o ta) (c : SmC X.K C mc m p g) (F : FnR X.prog X.w X.K X.mg X.base CX0 k g sp) (hr : Room k X.A)
    (h3 : eval (.Call (.Attribute o m apos) [] [] pos) X.env = (eval o X.env >>= fun ov => standAt apos.atName >>= fun _ => holding [ov] (getMethod ov m pl) >>= fun z =>
      callWith pos z.1 z.2 (backTo pos (starEach [] X.env)) (backToKw pos (keywordEach [] X.env))) := by rfl) : PE X (.Call (.Attribute o m apos) [] [] pos) (tSm C sp ta tNil) := by
  constructor
  intro pins s σ H Q I h
  refine PySem.W.methodCall_KW (pl := pl) (thn (he.run pins s σ H _ I h) ?_) h3
  rintro u s1 ⟨x, H1, I1, rx, rfl, q⟩
  cases rx
  refine get_sm I1 c fun s2 I2 => ?_
  exact PySem.W.callWith_K0 (first := []) I2.kIn c.keep (wpAny_call (run_fnR F hr pass0 I2 .nil q))
end
end Kt

set_option Elab.async false
set_option linter.all false
set_option maxRecDepth 100000
set_option maxHeartbeats 8000000
namespace Kt
open PySem PySem.Spec PyProof.Rows L2
section
variable {prog : Program} {w : World} {A : Around} {E : Value → Shared → Prop} {s : Shared}
theorem list_rev {it l : Addr} {xs : Array Value} {Q : Value → Shared → Prop} (hh : A.handled = none) (hi : s.heap.IsRevIter it l ((xs.size : Int) - 1)) (hl : s.heap.IsList l xs) (ne : l ≠ it) (hn : xs.size ≤ sizeLine)
    (hQ : ∀ (h2 : Heap) (tk c : Nat) (acc : Array Value), (∀ b o, b ≠ it → s.heap.get? b = some o → h2.get? b = some o) → h2.get? s.heap.objs.size = some { cls := .type "list", dict := none, data := .seq acc c, slots := #[] } → ItemsOf (fun i v => xs[xs.size - 1 - i]? = some v) acc xs.size →
      Q (.ref s.heap.objs.size) { s with heap := h2, toks := tk }) : wpAny (model prog w) A (call (.type "list") [.ref it]) Q E s := by
  obtain ⟨oi, ei, _⟩ := id hi
  obtain ⟨ol, el, _⟩ := id hl
  refine callType_codes (Q₁ := fun v s1 => v = .ref s.heap.objs.size ∧ s1 = { s with heap := s.heap.push eL }) F.called_list (F.typeCall_list_1 _) F.entry_list_init (code_list_new _ ⟨rfl, rfl⟩) ?_
  rintro _ _ ⟨rfl, rfl⟩
  have hS : (s.heap.push eL).get? s.heap.objs.size = some eL := Heap.get?_push_size _ rfl
  refine ⟨⟨_, hS, rfl⟩, F.args_list_init_2 _ _, ?_⟩
  show wpAny _ _ (Builtin.List.listItems (.ref s.heap.objs.size) >>= fun old => Builtin.List.listUpdate (.ref s.heap.objs.size) (fun _ => #[]) >>= fun _ => letGo old.toList.reverse >>= fun _ => Builtin.List.listExtendWith (.ref s.heap.objs.size) (.ref it) .none) _ _ _
  apply wpAny_bind
  delta Builtin.List.listItems
  refine wpAny_bind (wpAny_seqItems hS rfl (wpAny_pure ?_))
  apply wpAny_bind
  refine wpAny_updateSeq hS rfl ?_
  refine wpAny_bind (wpAny_letGo ?_)
  have same : (s.heap.push eL).update s.heap.objs.size (Obj.mapSeq fun _ => #[]) = (s.heap.push eL).update s.heap.objs.size (Obj.mapSeq fun _ => #[]) := rfl
  have up : ∀ b o, b ≠ s.heap.objs.size → s.heap.get? b = some o → ((s.heap.push eL).update s.heap.objs.size (Obj.mapSeq fun _ => #[])).get? b = some o := fun b o nb e =>
    (Heap.get?_update_other _ _ (fun z : s.heap.objs.size = b => nb z.symm)).trans (Heap.get?_push_of_some _ e)
  have nS1 : it ≠ s.heap.objs.size := Nat.ne_of_lt (Heap.lt_size ei)
  have nS2 : l ≠ s.heap.objs.size := Nat.ne_of_lt (Heap.lt_size el)
  have hS2 := Heap.get?_update_self (Obj.mapSeq fun _ => #[]) hS rfl
  have hi2 : ((s.heap.push eL).update s.heap.objs.size (Obj.mapSeq fun _ => #[])).IsRevIter it l ((xs.size : Int) - 1) := hi.at fun o e => up _ o nS1 e
  have hl2 : ((s.heap.push eL).update s.heap.objs.size (Obj.mapSeq fun _ => #[])).IsList l xs := hl.at fun o e => up _ o nS2 e
  generalize ((s.heap.push eL).update s.heap.objs.size (Obj.mapSeq fun _ => #[])) = h1 at hS2 hi2 hl2 up ⊢
  have ty : ({ s with heap := h1 } : Shared).TypeIs (.ref it) "list_reverseiterator" := Heap.IsRevIter.typeIs (s := { s with heap := h1 }) hi2
  delta Builtin.List.listExtendWith
  refine wpAny_bind (wpAny_typeOf ty ?_)
  have z1 : Builtin.List.listSameRef (.ref s.heap.objs.size) (.ref it) = false := by simp [Builtin.List.listSameRef, nS1.symm]
  rw [if_neg (by rw [z1]; decide)]
  refine wpAny_bind (wpAny_pyIter_revIter (s := { s with heap := h1 }) hi2 ?_)
  apply wpAny_bind
  apply wpAny_holding
  delta Builtin.List.listLengthHint
  dsimp only
  apply wpAny_bind
  apply wpAny_specialOf ty RT.nolen_lri
  show wpAny _ _ (specialOf (Value.ref it) (Str.ofString "__length_hint__") >>= _) _ _ _
  apply wpAny_bind
  apply wpAny_specialOf ty RT.hint_lri
  generalize hid : ("list_reverseiterator.__length_hint__" : String) = nm
  wp_delta
  have sp : splitId nm = some ("list_reverseiterator", "__length_hint__") := by subst hid; decide +kernel
  rw [sp]
  subst hid
  refine wpAny_bind (wpAny_isInstance (b := true) ty (by rw [isSubtype_type]; kernel_rfl) ?_)
  apply wpAny_pure
  rw [if_neg (by decide)]
  have out : s.heap.objs.size ∉ [it, l] := fun m => by
    rcases List.mem_cons.mp m with z | m
    · exact nS1 z.symm
    · exact nS2 (List.mem_singleton.mp m).symm
  have e0 : ((xs.size : Nat) : Int) - 1 - ((0 : Nat) : Int) = (xs.size : Int) - 1 := by omega
  refine wpAny_pure ⟨plainId_quiet F.plain_extend_loop _, codeAny_extend_loopS (Walks.listRev (prog := prog) (w := w) (A := A.in1.in1) hh it l ne xs).toS hn _ out .none xs.size 0 _ _ _ rfl (Nat.zero_le _) ⟨Nat.zero_le _, by rw [e0]; exact hi2, hl2⟩ hS2 (ItemsOf.nil _) fun s3 acc c mv g items => ?_⟩
  rw [Moved.eq_with mv]
  refine ⟨rfl, hQ s3.heap s3.toks c acc (fun b o nb e => ?_) g items⟩
  have nb2 : b ≠ s.heap.objs.size := Nat.ne_of_lt (Heap.lt_size e)
  refine mv.heap b o (fun m => ?_) (up b o nb2 e)
  rcases List.mem_cons.mp m with z | m
  · exact nb2 z
  · exact nb (List.mem_singleton.mp m)
end
section
variable {X : Cx}
/-- list(reversed(x)), x a list -/
def kLstRev (K : PySem.W.Frag) (te : TE) : TE := fun σ H Q => te σ H fun v H1 => ∃ (a : Addr) (xs : List V), v = .ref a ∧ SqL K H1 a xs ∧ kNew (.lst xs.reverse) H1 Q
theorem pe_lstRev {e : Expr} {te : TE} {p p2 pos pos2 : Pos} (hc : X.calm = true) (g1 : Gl X "list") (m1 : X.mg "list" = none) (g2 : Gl X "reversed") (m2 : X.mg "reversed" = none) (he : PE X e te)
    (s1 : starEach [e] X.env = (false, eval e X.env) :: starEach [] X.env := by rfl)
    (s2 : starEach [.Call (.Name "reversed" p2) [e] [] pos2] X.env = (false, eval (.Call (.Name "reversed" p2) [e] [] pos2) X.env) :: starEach [] X.env := by rfl) :
    PE X (.Call (.Name "list" p) [.Call (.Name "reversed" p2) [e] [] pos2] [] pos) (kLstRev X.K te) := by
  constructor
  intro pins s σ H Q I h
  refine Call_ (ld_blt I g1 m1 boot_list (PyProof.Rows.callWith_type1 (args_cons (Call_ (ld_blt I g2 m2 PyProof.Rows.boot_reversed (PyProof.Rows.callWith_type1 (args_cons (thn (he.run pins s σ H _ I h) ?_) s1) s1 rfl))) s2) s2 rfl))
  rintro u t1 ⟨v, H1, I1, r1, a, xs, rfl, hq, q⟩
  apply args_nil
  cases r1
  obtain ⟨its, rv, pl, hz⟩ := I1.list hq
  refine call_reversed_list pl.isList (args_nil ?_)
  have low : a < t1.heap.objs.size := by obtain ⟨o, ho, _⟩ := pl.isList; exact Heap.lt_size ho
  have I2 : Inv X pins σ H1 { t1 with heap := t1.heap.push (revObj a ((its.toArray.size : Int) - 1)) } := I1.kept (t' := t1.toks) fun b o z => Heap.get?_push_of_some _ z
  have fp : FpOk X pins H1 t1.heap.objs.size := I1.fpOk (Nat.le_refl _) (I1.hok.fresh (Nat.le_refl _))
  have sz : its.toArray.size ≤ sizeLine := by rw [List.size_toArray, ← rv.length]; exact hz
  refine list_rev (s := { t1 with heap := t1.heap.push (revObj a ((its.toArray.size : Int) - 1)) }) (I1.ok.hd hc) ⟨_, Heap.get?_push_size _ rfl, rfl, rfl⟩ (pl.isList.push _) (Nat.ne_of_lt low) sz fun h2 tk c acc k g items => ?_
  have J := I2.turnedNew (h' := h2) (t' := tk) (ch := [t1.heap.objs.size]) (ob := .lst xs.reverse) (T := (t1.heap.push (revObj a ((its.toArray.size : Int) - 1))).objs.size) (fun b o nb z => k b o (fun y => nb (y ▸ List.mem_singleton.mpr rfl)) z) (fun b m => by rw [List.mem_singleton.mp m]; exact fp) (Nat.le_refl _)
    ⟨by rw [List.length_reverse]; exact hz, acc.toList, c, RT.vals_rev rv items, by rw [Array.toArray_toList]; exact g⟩
  exact ⟨.ref _, _, J, rfl, w_new q _ (I2.hok.fresh (Nat.le_refl _))⟩
end
end Kt

set_option Elab.async false
set_option linter.all false
set_option maxRecDepth 100000
set_option maxHeartbeats 8000000
namespace Kt
open PySem PySem.Spec PyProof.Rows L2 RT
theorem nolen_rt : typeLookup (.type "reversed") "__len__" = pure none := by rw [typeLookup_type, builtinLookup_eq_fast]; kernel_rfl
theorem hint_rt : typeLookup (.type "reversed") "__length_hint__" = pure (some (.builtin "reversed.__length_hint__")) := by rw [typeLookup_type, builtinLookup_eq_fast]; kernel_rfl
theorem slot_rt_hint : Slot "reversed" "__length_hint__" "reversed.__length_hint__" :=
  .of (owner := "reversed") (n := "__length_hint__") (by rw [typeLookup_type, builtinLookup_eq_fast]; kernel_rfl) (by decide +kernel) (by decide +kernel) (by decide +kernel)
    (by first | exact .inl (by decide +kernel) | exact .inr (by decide +kernel)) (by rw [isSubtype_type]; kernel_rfl)
theorem entry_rt_hint : entryFor table "reversed.__length_hint__" = some Builtin.«reversed.__length_hint__» := entryFor_of_tree (by kernel_rfl)
theorem args_rt_hint (a : Value) : argsOk "reversed.__length_hint__" ⟨[a], []⟩ := by
  unfold argsOk; rw [signature?_of (id := "reversed.__length_hint__") (n := ("__length_hint__" : String).toList.reverse) (o := ['d', 'e', 's', 'r', 'e', 'v', 'e', 'r']) (by kernel_rfl) owner_rt]; kernel_rfl
end Kt
namespace Kt
open PySem PySem.Spec PyProof.Rows L2 RT
section
variable {prog : Program} {w : World} {A : Around} {E : Value → Shared → Prop} {s : Shared}
theorem hint_rev {it t : Addr} {items : Array Value} {Q : Bool → Shared → Prop} (hi : IsRt s.heap it t ((items.size : Int) - 1)) (ht : IsTup s.heap t items) (hn : items.size ≤ sizeLine) (hQ : ∀ b tk, Q b { s with toks := tk }) :
    wpAny (model prog w) A (Builtin.List.listLengthHint (.ref it)) Q E s := by
  have hn2 := hn
  rw [sizeLine_eq] at hn2
  obtain ⟨o, ho, hc, hd⟩ := id hi
  have ty : s.TypeIs (.ref it) "reversed" := hi.typeIs
  delta Builtin.List.listLengthHint
  dsimp only
  apply wpAny_bind
  apply wpAny_specialOf ty nolen_rt
  show wpAny _ _ (specialOf (Value.ref it) (Str.ofString "__length_hint__") >>= _) _ _ _
  apply wpAny_bind
  apply wpAny_specialOf ty hint_rt
  generalize hid : ("reversed.__length_hint__" : String) = nm
  wp_delta
  have sp : splitId nm = some ("reversed", "__length_hint__") := by subst hid; decide +kernel
  rw [sp]
  subst hid
  refine wpAny_bind (wpAny_isInstance (b := true) ty (by rw [isSubtype_type]; kernel_rfl) ?_)
  apply PySem.W.KFB.if_not rfl
  apply PySem.W.KFB.if_not (by decide +kernel)
  refine wpAny_bind (wpAny_rule ?_)
  refine wpAny_bind (wpAny_of_eq (slot_rt_hint.bind (.ref it)) ?_)
  dsimp only
  refine wpAny_bind (wpAny_attempt ?_)
  refine wpAny_call_entry slot_rt_hint ty entry_rt_hint ?_ (args_rt_hint _)
  unfold Builtin.«reversed.__length_hint__»
  refine wpAny_bind (wpAny_of_eq (a := Value.ref it) rfl ?_)
  refine wpAny_bind (wpAny_field ho hd (x := .ref t) rfl ?_)
  show wpAny _ _ (call (.builtin "len") [.ref t] >>= _) _ _ _
  refine wpAny_bind (len_tuple ht (by omega) ?_)
  refine wpAny_bind (wpAny_of_eq (a := some ((items.size : Nat) : Int)) rfl ?_)
  dsimp only
  refine wpAny_bind (wpAny_field (s := { s with toks := s.toks + 1 + 1 }) ho hd (x := rawInt ((items.size : Int) - 1)) rfl ?_)
  show wpAny _ _ (if (items.size : Int) < ((items.size : Int) - 1) + 1 then _ else _) _ _ _
  rw [if_neg (by omega)]
  have e1 : (items.size : Int) - 1 + 1 = ((items.size : Nat) : Int) := by omega
  rw [e1]
  refine wpAny_bind (wpAny_mkInt ?_)
  refine wpAny_pure ⟨_, rfl, ?_⟩
  dsimp only
  generalize e3 : ((items.size : Nat) : Int) = n3
  apply wpAny_bind
  refine wpAny_of_eq (a := some n3) rfl ?_
  subst e3
  dsimp only
  have z1 : Builtin.List.listFitsIndex ((items.size : Nat) : Int) = true := by
    unfold Builtin.List.listFitsIndex
    exact Bool.and_eq_true_iff.mpr ⟨decide_eq_true (by omega), decide_eq_true (by omega)⟩
  have z2 : Builtin.List.listTooLong (Int.toNat ((items.size : Nat) : Int)) = false := by
    unfold Builtin.List.listTooLong
    rw [Int.toNat_natCast]
    exact decide_eq_false (by omega)
  have z3 : ¬ ((items.size : Nat) : Int) < 0 := by omega
  generalize ((items.size : Nat) : Int) = n3 at z1 z2 z3 ⊢
  generalize Builtin.List.listFitsIndex n3 = b1 at z1 ⊢
  generalize Builtin.List.listTooLong (Int.toNat n3) = b2 at z2 ⊢
  subst z1 z2
  apply PySem.W.KFB.if_not rfl
  rw [if_neg z3]
  apply PySem.W.KFB.if_not rfl
  exact wpAny_pure (hQ _ _)
theorem walks_rt (hh : A.handled = none) (I l : Addr) (ne : l ≠ I) (items : Array Value) (hn : items.size ≤ sizeLine) :
    Walks prog w A I [I, l] [I] items.size (fun i v => items[items.size - 1 - i]? = some v) (fun i h => i ≤ items.size ∧ IsRt h I l ((items.size : Int) - 1 - (i : Int)) ∧ IsTup h l items) where
  sub := fun b hb => by rw [List.mem_singleton.mp hb]; exact List.mem_cons_self
  frame := fun _ _ _ x hk => ⟨x.1, x.2.1.at fun o e => hk I List.mem_cons_self o e, let ⟨o, e, c⟩ := x.2.2; ⟨o, hk l (List.mem_cons_of_mem _ List.mem_cons_self) o e, c⟩⟩
  item := fun i s Q E hi x hQ => by
    obtain ⟨x0, x1, x2⟩ := x
    have e : (items.size : Int) - 1 - (i : Int) = ((items.size - 1 - i : Nat) : Int) := by omega
    rw [e] at x1
    have hx : items[items.size - 1 - i]? = some (items[items.size - 1 - i]'(by omega)) := Array.getElem?_eq_getElem (by omega)
    refine next_rt_item x1 x2 hx hn fun h' h1 sb => ?_
    have e2 : ((items.size - 1 - i : Nat) : Int) - 1 = (items.size : Int) - 1 - ((i + 1 : Nat) : Int) := by omega
    rw [e2] at h1
    obtain ⟨o, eo, c⟩ := x2
    exact hQ _ h' (s.toks + 1) hx ⟨hi, h1, ⟨o, (sb.2 l ne).trans eo, c⟩⟩ fun b u hb eu => (sb.2 b fun z => hb (z ▸ List.mem_singleton.mpr rfl)).trans eu
  done := fun s Q E x hQ => by
    obtain ⟨x0, x1, x2⟩ := x
    have e : (items.size : Int) - 1 - (items.size : Int) = -1 := by omega
    rw [e] at x1
    exact next_rt_end hh x1 fun h' eb => hQ h' s.toks fun b u hb eu => eb b u (fun z => hb (z ▸ List.mem_singleton.mpr rfl)) eu
  self := fun _ _ _ _ x hQ => iter_rt x.2.1 hQ
theorem list_revT {it l : Addr} {xs : Array Value} {Q : Value → Shared → Prop} (hh : A.handled = none) (hi : IsRt s.heap it l ((xs.size : Int) - 1)) (hl : IsTup s.heap l xs) (ne : l ≠ it) (hn : xs.size ≤ sizeLine)
    (hQ : ∀ (h2 : Heap) (tk c : Nat) (acc : Array Value), (∀ b o, b ≠ it → s.heap.get? b = some o → h2.get? b = some o) → h2.get? s.heap.objs.size = some { cls := .type "list", dict := none, data := .seq acc c, slots := #[] } → ItemsOf (fun i v => xs[xs.size - 1 - i]? = some v) acc xs.size →
      Q (.ref s.heap.objs.size) { s with heap := h2, toks := tk }) : wpAny (model prog w) A (call (.type "list") [.ref it]) Q E s := by
  obtain ⟨oi, ei, _⟩ := id hi
  obtain ⟨ol, el, _⟩ := id hl
  refine callType_codes (Q₁ := fun v s1 => v = .ref s.heap.objs.size ∧ s1 = { s with heap := s.heap.push eL }) F.called_list (F.typeCall_list_1 _) F.entry_list_init (code_list_new _ ⟨rfl, rfl⟩) ?_
  rintro _ _ ⟨rfl, rfl⟩
  have hS : (s.heap.push eL).get? s.heap.objs.size = some eL := Heap.get?_push_size _ rfl
  refine ⟨⟨_, hS, rfl⟩, F.args_list_init_2 _ _, ?_⟩
  show wpAny _ _ (Builtin.List.listItems (.ref s.heap.objs.size) >>= fun old => Builtin.List.listUpdate (.ref s.heap.objs.size) (fun _ => #[]) >>= fun _ => letGo old.toList.reverse >>= fun _ => Builtin.List.listExtendWith (.ref s.heap.objs.size) (.ref it) .none) _ _ _
  apply wpAny_bind
  delta Builtin.List.listItems
  refine wpAny_bind (wpAny_seqItems hS rfl (wpAny_pure ?_))
  apply wpAny_bind
  refine wpAny_updateSeq hS rfl ?_
  refine wpAny_bind (wpAny_letGo ?_)
  have same : (s.heap.push eL).update s.heap.objs.size (Obj.mapSeq fun _ => #[]) = (s.heap.push eL).update s.heap.objs.size (Obj.mapSeq fun _ => #[]) := rfl
  have up : ∀ b o, b ≠ s.heap.objs.size → s.heap.get? b = some o → ((s.heap.push eL).update s.heap.objs.size (Obj.mapSeq fun _ => #[])).get? b = some o := fun b o nb e =>
    (Heap.get?_update_other _ _ (fun z : s.heap.objs.size = b => nb z.symm)).trans (Heap.get?_push_of_some _ e)
  have nS1 : it ≠ s.heap.objs.size := Nat.ne_of_lt (Heap.lt_size ei)
  have nS2 : l ≠ s.heap.objs.size := Nat.ne_of_lt (Heap.lt_size el)
  have hS2 := Heap.get?_update_self (Obj.mapSeq fun _ => #[]) hS rfl
  have hi2 : IsRt ((s.heap.push eL).update s.heap.objs.size (Obj.mapSeq fun _ => #[])) it l ((xs.size : Int) - 1) := hi.at fun o e => up _ o nS1 e
  have hl2 : IsTup ((s.heap.push eL).update s.heap.objs.size (Obj.mapSeq fun _ => #[])) l xs := let ⟨o, e, c⟩ := hl; ⟨o, up _ o nS2 e, c⟩
  generalize ((s.heap.push eL).update s.heap.objs.size (Obj.mapSeq fun _ => #[])) = h1 at hS2 hi2 hl2 up ⊢
  have ty : ({ s with heap := h1 } : Shared).TypeIs (.ref it) "reversed" := IsRt.typeIs (s := { s with heap := h1 }) hi2
  delta Builtin.List.listExtendWith
  refine wpAny_bind (wpAny_typeOf ty ?_)
  have z1 : Builtin.List.listSameRef (.ref s.heap.objs.size) (.ref it) = false := by simp [Builtin.List.listSameRef, nS1.symm]
  rw [if_neg (by rw [z1]; decide)]
  refine wpAny_bind (iter_rt (s := { s with heap := h1 }) hi2 ?_)
  apply wpAny_bind
  apply wpAny_holding
  refine hint_rev (s := { s with heap := h1 }) hi2 hl2 hn fun b tk0 => ?_
  have out : s.heap.objs.size ∉ [it, l] := fun m => by
    rcases List.mem_cons.mp m with z | m
    · exact nS1 z.symm
    · exact nS2 (List.mem_singleton.mp m).symm
  have e0 : ((xs.size : Nat) : Int) - 1 - ((0 : Nat) : Int) = (xs.size : Int) - 1 := by omega
  have loop : ∀ (h3 : Heap) (c0 tk : Nat), h3.get? s.heap.objs.size = some { cls := .type "list", dict := none, data := .seq #[] c0, slots := #[] } → IsRt h3 it l ((xs.size : Int) - 1) → IsTup h3 l xs → (∀ b o, b ≠ s.heap.objs.size → s.heap.get? b = some o → h3.get? b = some o) →
      codeAny (model prog w) A.in1 (.builtin "list.extend.loop" ⟨[.ref s.heap.objs.size, .ref it, .none], []⟩) (wants (fun v s2 => v = .none ∧ Q (.ref s.heap.objs.size) s2) E) { s with heap := h3, toks := tk } := by
    intro h3 c0 tk g0 g1 g2 g3
    refine codeAny_extend_loopS (walks_rt (prog := prog) (w := w) (A := A.in1.in1) hh it l ne xs hn).toS hn _ out .none xs.size 0 _ #[] c0 rfl (Nat.zero_le _) ⟨Nat.zero_le _, by rw [e0]; exact g1, g2⟩ g0 (ItemsOf.nil _) fun s3 acc c mv g items => ?_
    rw [Moved.eq_with mv]
    refine ⟨rfl, hQ s3.heap s3.toks c acc (fun b o nb e => ?_) g items⟩
    have nb2 : b ≠ s.heap.objs.size := Nat.ne_of_lt (Heap.lt_size e)
    refine mv.heap b o (fun m => ?_) (g3 b o nb2 e)
    rcases List.mem_cons.mp m with z | m
    · exact nb2 z
    · exact nb (List.mem_singleton.mp m)
  refine wpAny_ite_split (fun _ => ?_) fun _ => wpAny_pure ⟨plainId_quiet F.plain_extend_loop _, loop h1 _ _ hS2 hi2 hl2 up⟩
  refine wpAny_bind (wpAny_rule ?_)
  apply wpAny_bind
  show wpAny _ _ (updateSeq s.heap.objs.size (fun xs => xs.push Value.none) >>= fun _ => updateSeq s.heap.objs.size (fun xs => xs.pop)) _ _ _
  refine wpAny_bind (wpAny_updateSeq hS2 rfl ?_)
  have hS3 := Heap.get?_update_self (Obj.mapSeq fun xs => xs.push Value.none) hS2 rfl
  have hS4 := Heap.get?_update_self (Obj.mapSeq fun xs => xs.pop) hS3 rfl
  have o2 : ∀ b o, b ≠ s.heap.objs.size → h1.get? b = some o → ((h1.update s.heap.objs.size (Obj.mapSeq fun xs => xs.push Value.none)).update s.heap.objs.size (Obj.mapSeq fun xs => xs.pop)).get? b = some o := fun b o nb e =>
    (Heap.get?_update_other _ _ (fun z : s.heap.objs.size = b => nb z.symm)).trans ((Heap.get?_update_other _ _ (fun z : s.heap.objs.size = b => nb z.symm)).trans e)
  refine wpAny_updateSeq hS3 rfl (wpAny_pure ⟨plainId_quiet F.plain_extend_loop _, loop _ _ _ hS4 (hi2.at fun o e => o2 _ o nS1 e) (let ⟨o, e, c⟩ := hl2; ⟨o, o2 _ o nS2 e, c⟩) fun b o nb e => o2 b o nb (up b o nb e)⟩) ?_ ?_
  · show 1 ≤ sizeLine
    rw [sizeLine_eq]
    decide
  · exact Nat.zero_le _
end
section
variable {X : Cx}
/-- list(reversed(x)), x a tuple -/
def kLstRevT (K : PySem.W.Frag) (te : TE) : TE := fun σ H Q => te σ H fun v H1 => ∃ (a : Addr) (xs : List V), v = .ref a ∧ SqT K H1 a xs ∧ kNew (.lst xs.reverse) H1 Q
theorem pe_lstRevT {e : Expr} {te : TE} {p p2 pos pos2 : Pos} (hc : X.calm = true) (g1 : Gl X "list") (m1 : X.mg "list" = none) (g2 : Gl X "reversed") (m2 : X.mg "reversed" = none) (he : PE X e te)
    (s1 : starEach [e] X.env = (false, eval e X.env) :: starEach [] X.env := by rfl)
    (s2 : starEach [.Call (.Name "reversed" p2) [e] [] pos2] X.env = (false, eval (.Call (.Name "reversed" p2) [e] [] pos2) X.env) :: starEach [] X.env := by rfl) :
    PE X (.Call (.Name "list" p) [.Call (.Name "reversed" p2) [e] [] pos2] [] pos) (kLstRevT X.K te) := by
  constructor
  intro pins s σ H Q I h
  refine Call_ (ld_blt I g1 m1 boot_list (PyProof.Rows.callWith_type1 (args_cons (Call_ (ld_blt I g2 m2 PyProof.Rows.boot_reversed (PyProof.Rows.callWith_type1 (args_cons (thn (he.run pins s σ H _ I h) ?_) s1) s1 rfl))) s2) s2 rfl))
  rintro u t1 ⟨v, H1, I1, r1, a, xs, rfl, hq, q⟩
  apply args_nil
  cases r1
  obtain ⟨its, rv, pl, hz⟩ := I1.tuple hq
  have sz : its.toArray.size ≤ sizeLine := by rw [List.size_toArray, ← rv.length]; exact hz
  have sz2 := sz
  rw [sizeLine_eq] at sz2
  refine call_reversed_tup pl (fun A E Q k => len_tuple pl (by omega) k) (args_nil ?_)
  have low : a < t1.heap.objs.size := by obtain ⟨o, ho, _⟩ := id pl; exact Heap.lt_size ho
  have I2 : Inv X pins σ H1 { t1 with heap := t1.heap.push (rtObj a ((its.toArray.size : Int) - 1)), toks := t1.toks + 1 + 1 } := I1.kept (t' := t1.toks + 1 + 1) fun b o z => Heap.get?_push_of_some _ z
  have fp : FpOk X pins H1 t1.heap.objs.size := I1.fpOk (Nat.le_refl _) (I1.hok.fresh (Nat.le_refl _))
  have pl2 : IsTup (t1.heap.push (rtObj a ((its.toArray.size : Int) - 1))) a its.toArray := let ⟨o, e, c⟩ := pl; ⟨o, Heap.get?_push_of_some _ e, c⟩
  refine list_revT (s := { t1 with heap := t1.heap.push (rtObj a ((its.toArray.size : Int) - 1)), toks := t1.toks + 1 + 1 }) (I1.ok.hd hc) ⟨_, Heap.get?_push_size _ rfl, rfl, rfl⟩ pl2 (Nat.ne_of_lt low) sz fun h2 tk c acc k g items => ?_
  have J := I2.turnedNew (h' := h2) (t' := tk) (ch := [t1.heap.objs.size]) (ob := .lst xs.reverse) (T := (t1.heap.push (rtObj a ((its.toArray.size : Int) - 1))).objs.size) (fun b o nb z => k b o (fun y => nb (y ▸ List.mem_singleton.mpr rfl)) z) (fun b m => by rw [List.mem_singleton.mp m]; exact fp) (Nat.le_refl _)
    ⟨by rw [List.length_reverse]; exact hz, acc.toList, c, RT.vals_rev rv items, by rw [Array.toArray_toList]; exact g⟩
  exact ⟨.ref _, _, J, rfl, w_new q _ (I2.hok.fresh (Nat.le_refl _))⟩
end
end Kt

set_option Elab.async false
set_option linter.all false
set_option maxRecDepth 100000
set_option maxHeartbeats 8000000
namespace Kt
open PySem PySem.Spec PyProof.Rows L2
section
variable {X : Cx}
/-! set, sorted -/
def qStS (K : PySem.W.Frag) (w : World) : List V → Hp → VK → Prop := fun vs H Q => ∃ (p : Addr) (ns : List Int), vs = [.ref p] ∧ (SqL K H p (ns.map V.int) ∨ SqT K H p (ns.map V.int)) ∧ ns.length + 1 < scanBound ∧
  ∀ a c H', H a = none → c ≤ ns.length → H' a = some (SetO w a (fun j => decide (j ∈ ns)) c) → Ch [] H H' → Q (.ref a) H'
theorem c_setS (hc : X.calm = true) : CallR X (.type "set") (qStS X.K X.w) := by
  intro pins s σ H xs us Q I r h
  obtain ⟨p, ns, e, hs, hb, q⟩ := h
  rcases hs with hs | hs
  · exact c_setL hc pins s σ H xs us Q I r ⟨p, ns, e, hs, hb, fun a c n hcn => q a c _ n hcn upd_same (Ch.new n)⟩
  · exact c_setT hc pins s σ H xs us Q I r ⟨p, ns, e, hs, hb, fun a c n hcn => q a c _ n hcn upd_same (Ch.new n)⟩
def qSrtSet (w : World) : List V → Hp → VK → Prop := fun vs H Q => ∃ (a : Addr) (S : Int → Bool) (n : Nat), vs = [V.ref a] ∧ H a = some (SetO w a S n) ∧ n < 64 ∧
  ∀ (ns : List Int) (p : Addr) (H' : Hp), ns.Pairwise (· < ·) → (∀ k : Int, k ∈ ns ↔ S k = true) → ns.length = n → H p = none → H' p = some (.lst (ns.map V.int)) → Ch [] H H' → Q (.ref p) H'
theorem c_srtSet (hc : X.calm = true) : CallR X (.builtin "sorted") (qSrtSet X.w) := CallR.imp (cr_sortedSet hc) fun _ _ _ ⟨a, S, n, e, h, l, q⟩ => ⟨a, S, n, e, h, l, fun ns p a1 a2 a3 a4 => q ns p _ a1 a2 a3 a4 upd_same (Ch.new a4)⟩
def qSrtI (K : PySem.W.Frag) : List V → Hp → VK → Prop := fun vs H Q => ∃ (a : Addr) (ns : List Int), vs = [V.ref a] ∧ SqL K H a (ns.map V.int) ∧
  ∀ (ns' : List Int) (p : Addr) (H' : Hp), ns'.Perm ns → ns'.Pairwise (· ≤ ·) → H p = none → H' p = some (.lst (ns'.map V.int)) → Ch [] H H' → Q (.ref p) H'
theorem c_srtI : CallR X (.builtin "sorted") (qSrtI X.K) := CallR.imp cr_sortedI fun _ _ _ ⟨a, ns, e, h, q⟩ => ⟨a, ns, e, h, fun ns' p a1 a2 a3 => q ns' p _ a1 a2 a3 upd_same (Ch.new a3)⟩
/-! iter(a tuple) -/
def kIterT (K : PySem.W.Frag) : List V → Hp → VK → Prop := fun xs H Q => ∃ l zs, xs = [.ref l] ∧ SqT K H l zs ∧ ∀ it H', H it = none → H' it = some (TiH l it) → Ch [] H H' → Q (.ref it) H'
theorem c_kIterT : CallR X (.builtin "iter") (kIterT X.K) := CallR.imp c_iterT fun _ _ _ ⟨l, zs, e, h, q⟩ => ⟨l, zs, e, h, fun it n => q it _ n upd_same (Ch.new n)⟩
/-! truth -/
def tTru (K : PySem.W.Frag) (ta : TE) : TT := fun σ H Q => ta σ H fun x H' => ∃ k, TruV K x H' k ∧ Q k H'
theorem pt_tru {a : Expr} {ta : TE} (ha : PE X a ta) (he : ∀ whole, isTrue a X.env whole = (do let v ← whole; standAt a.pos; holding [v] (truthy v))) : PT X a (tTru X.K ta) := pt_truth ha he
/-! inside a comprehension: K by name -/
theorem pe_kGetC {K : PySem.W.Frag} (hK : X.K = K) {e : Expr} {f : Str} {ta : TE} {pos : Pos} (he : PE X e ta) (hb : attributeBase e f X.env (eval e X.env) = eval e X.env) : PE X (.Attribute e f pos) (kGet K ta f) := by subst hK; exact pe_kGet he hb
theorem o_ninTC {K : PySem.W.Frag} (hK : X.K = K) : OpR X (compareOp .NotIn) (qInT K true) := by subst hK; exact o_ninT
/-! own operators -/
theorem o_ownOr {C : Addr} {k : Nat} {ps : List Str} {sp : Sp} (D : Dm X.prog X.w X.K X.mg X.base C "__or__" k ps sp) (hc : PySem.W.selfFirst X.K C = true) (hr : Room k X.A) : OpR X (binaryOp .BitOr) (qOwn2 C sp) :=
  o_own (op := .BitOr) (by have e : PySem.dunder Operator.BitOr.info.2 = ("__or__" : Str) := by decide +kernel
                           rw [e]; exact D) hc hr
theorem o_ownSub {C : Addr} {k : Nat} {ps : List Str} {sp : Sp} (D : Dm X.prog X.w X.K X.mg X.base C "__sub__" k ps sp) (hc : PySem.W.selfFirst X.K C = true) (hr : Room k X.A) : OpR X (binaryOp .Sub) (qOwn2 C sp) :=
  o_own (op := .Sub) (by have e : PySem.dunder Operator.Sub.info.2 = ("__sub__" : Str) := by decide +kernel
                         rw [e]; exact D) hc hr
end
/-! isinstance of an own class -/
structure OwnK (K : PySem.W.Frag) (C : Addr) : Prop where
  cls : PySem.W.findIn K (.ref C) "__class__" = some (some (.builtin "object.__class__"))
  gt : PySem.W.specialIn K (.builtin "object.__class__") "__get__" = some (some (.builtin "getset_descriptor.__get__"))
  tk : PySem.W.takesIn K (.builtin "object.__class__") = some true
  mro : PySem.W.mroIn K C (.type "object") = some true
/-! a def f(*v) -/
section
variable {P : Program} {w : World} {K : PySem.W.Frag} {mg : Str → Option Value} {base : Heap} {CX : CXT} {k : Nat} {f : Addr} {sp sp' : Sp}
theorem fnr_imp (F : FnR P w K mg base CX k f sp) (h : ∀ vs H Q E, sp' vs H Q E → sp vs H Q E) : FnR P w K mg base CX k f sp' := fun A outer s H us vs Q E hr e r q => F A outer s H us vs Q E hr e r (h _ _ _ _ q)
theorem fnr_mono {j : Nat} (F : FnR P w K mg base CX k f sp) (h : k ≤ j) : FnR P w K mg base CX j f sp := fun A outer s H us vs Q E hr e r q => F A outer s H us vs Q E (hr.mono h) e r q
theorem star_ok {x qual pv : Str} {st : Stmt} {fd : FuncData} {N : List Str} (F : Fun K x qual st f fd) (S : FnScope N [pv] (defScope st))
    (h0 : ∀ (kV doc pm : Value) (an : Option Addr) (cdv ct : Value), bindArgs (PySem.W.fnOf x qual (defArgs st) (defBody st) (defScope st) .none kV doc pm an cdv ct) ⟨[], []⟩ = (newTuple [] >>= fun t => pure [(pv, t)]))
    (h1 : ∀ (kV doc pm : Value) (an : Option Addr) (cdv ct r : Value) (rs : List Value), bindArgs (PySem.W.fnOf x qual (defArgs st) (defBody st) (defScope st) .none kV doc pm an cdv ct) ⟨r :: rs, []⟩ = (newTuple (r :: rs) >>= fun t => pure [(pv, t)]))
    (hbody : ∀ (cdv : Value) (A : Around) (outer : List Env) (s : Shared) (H : Hp) (vs : List V) (Q : VK) (E : XK), Room k (A.deeper (envOfC qual (defScope st) s.heap.objs.size f cdv)) → sp vs H Q E →
      ∃ t, PSs (cxOf CX0 P w K mg base N qual (defScope st) f cdv A outer s H E).nox (defBody st) t ∧ t { nx := fun _ H' => Q .non H', rt := Q } (start N vs) H) :
    FnR P w K mg base CX0 (k + 1) f (fun vs H Q E => vs.length ≤ sizeLine ∧ ∀ p H', H p = none → H' p = some (.tup vs) → Ch [] H H' → sp [V.ref p] H' Q E) := by
  obtain ⟨oc, od, kV, doc, pm, an, cdv, ct, osl, rfl, lk, hcd⟩ := F.ex
  refine fnr_imp (StX.fn_star (ps := []) (pv := pv) (sp := sp) lk hcd S StX.cxUp_none (fun us rest hl => ?_) fun A outer s H vs Q E hr hsp => ?_) ?_
  · cases us with
    | cons _ _ => cases hl
    | nil =>
      cases rest with
      | nil => exact h0 _ _ _ _ _ _
      | cons r rs => exact h1 _ _ _ _ _ _ _ _
  · obtain ⟨t, h, q⟩ := hbody cdv A outer s H vs Q E hr hsp
    exact ⟨t, h.nox, q⟩
  · rintro vs H Q E ⟨l, q⟩
    exact ⟨[], vs, rfl, rfl, l, fun p n => q p _ n upd_same (Ch.new n)⟩
end
/-! readings, step by step -/
section
variable {K : PySem.W.Frag} {σ : L2.St} {H : Hp} {a C dx : Addr} {fs : List (Str × V)} {Q : VK} {xs ys : List V} {n m : Int} {te : TE} {as : TA}
theorem w_isiO (h : H a = some (.ins C dx fs)) (c : Cls K C) (o : OwnK K C) (q : Q (.bl true) H) : qIsi K [.ref a, .ref C] H Q :=
  ⟨.ref a, .ref C, .ref C, .ref C, true, rfl, .own C, .base (.ins h c o.cls o.gt o.tk o.mro), by unfold PySem.W.kitOne; rw [if_pos (beq_self_eq_true _)], q⟩
theorem w_tTru {P : Bool → Hp → Prop} (h : te σ H fun x H' => ∃ k, TruV K x H' k ∧ P k H') : tTru K te σ H P := h
theorem w_truL {P : Bool → Prop} (h : SqL K H a xs) (q : P (!xs.isEmpty)) : ∃ k, TruV K (.ref a) H k ∧ P k := ⟨_, .inl ⟨xs, h, rfl⟩, q⟩
theorem w_truT {P : Bool → Prop} (h : SqT K H a xs) (q : P (!xs.isEmpty)) : ∃ k, TruV K (.ref a) H k ∧ P k := ⟨_, .inr (.inl ⟨xs, h, rfl⟩), q⟩
theorem w_neB {k k' : Bool} (q : Q (.bl (k != k')) H) : rNe (.bl k) (.bl k') H Q := ⟨rfl, by
  have e : (!decide (V.bl k = V.bl k')) = (k != k') := by cases k <;> cases k' <;> rfl
  rw [e]; exact q⟩
theorem w_catL {b : Addr} (h : H a = some (.lst xs)) (h2 : H b = some (.lst ys)) (l : xs.length + ys.length ≤ sizeLine) (q : kNew (.lst (xs ++ ys)) H Q) : qCatL (.ref a) (.ref b) H Q := ⟨a, b, xs, ys, rfl, rfl, h, h2, l, q⟩
theorem w_catT {b : Addr} (h : SqT K H a xs) (h2 : SqT K H b ys) (l : xs.length + ys.length ≤ sizeLine) (q : ∀ p H', SqT K H' p (xs ++ ys) → Ch [] H H' → Q (.ref p) H') : qCatT K (.ref a) (.ref b) H Q := ⟨a, b, xs, ys, rfl, rfl, h, h2, l, q⟩
theorem w_kIterT (h : SqT K H a xs) (q : ∀ it H', H it = none → H' it = some (TiH a it) → Ch [] H H' → Q (.ref it) H') : kIterT K [.ref a] H Q := ⟨a, xs, rfl, h, q⟩
theorem w_lstRev (h : te σ H fun v H1 => ∃ (a : Addr) (xs : List V), v = .ref a ∧ SqL K H1 a xs ∧ kNew (.lst xs.reverse) H1 Q) : kLstRev K te σ H Q := h
theorem w_lstRevT (h : te σ H fun v H1 => ∃ (a : Addr) (xs : List V), v = .ref a ∧ SqT K H1 a xs ∧ kNew (.lst xs.reverse) H1 Q) : kLstRevT K te σ H Q := h
theorem w_lstRev1 (h : SqL K H a xs) (q : kNew (.lst xs.reverse) H Q) : ∃ (a' : Addr) (xs : List V), V.ref a = .ref a' ∧ SqL K H a' xs ∧ kNew (.lst xs.reverse) H Q := ⟨a, xs, rfl, h, q⟩
theorem w_lstRev2 (h : SqT K H a xs) (q : kNew (.lst xs.reverse) H Q) : ∃ (a' : Addr) (xs : List V), V.ref a = .ref a' ∧ SqT K H a' xs ∧ kNew (.lst xs.reverse) H Q := ⟨a, xs, rfl, h, q⟩
theorem w_tSm {sp : Sp} (h : te σ H fun x H1 => x = .ref C ∧ as σ H1 fun vs H2 => sp vs H2 Q E0) : tSm C sp te as σ H Q := h
theorem w_cutL {lo hi : Option Int} (h : SqL K H a xs) (q : kNew (.lst (cutV xs lo hi)) H Q) : qCutL K (.ref a) lo hi H Q := ⟨a, xs, rfl, h, q⟩
/-- [x for x in t if ..] over a tuple of ints -/
theorem lc_filtT {Qd : Addr → Hp → Prop} {g : TG} {tt : TT} {te : TE} {vs : List Nat} {ns : List Int} (p : Int → Bool) (hT : SqT K H a (ns.map V.int)) (hl : ns.length < 1000000)
    (hs : ∀ (x : Int) (H' : Hp) (G : V → Hp → Prop) (Nx : Hp → Prop), Ch [] H H' → (p x = true → G (.int x) H') → (p x = false → Nx H') → g (.int x) (wipe σ vs) H' fun σ2 H2 => wipe σ2 vs = wipe σ vs ∧ tt σ2 H2 fun b H3 => if b = true then te σ2 H3 G else Nx H3)
    (q : ∀ D H', H D = none → H' D = some (.lst ((ns.filter p).map V.int)) → Ch [] H H' → Qd D H') :
    ∃ a', V.ref a = .ref a' ∧ (∃ xs, SqT K H a' xs) ∧ ∀ D, H D = none → ∃ W : Nat → Nat → Hp → Prop, (∃ m, W 0 m (upd H D (.lst []))) ∧ ∀ i m H, W i m H →
      ((Itt K a').stop i H ∧ Qd D H) ∨ ((Itt K a').go i H ∧ ∃ Nx : Hp → Prop, (∀ H', Nx H' → ∃ m', m' < m ∧ W (i + 1) m' H') ∧ ∀ x H', (Itt K a').yld i H x H' → g x (wipe σ vs) H' fun σ2 H2 => wipe σ2 vs = wipe σ vs ∧ tt σ2 H2 fun b H3 =>
        if b = true then te σ2 H3 fun y H4 => ∃ acc, H4 D = some (.lst acc) ∧ acc.length < sizeLine ∧ Nx (upd H4 D (.lst (acc ++ [y]))) else Nx H3) := by
  refine ⟨a, rfl, ⟨_, hT⟩, fun D nD => ?_⟩
  refine ⟨fun i m H' => m = ns.length - i ∧ i ≤ ns.length ∧ H' D = some (.lst (((ns.take i).filter p).map V.int)) ∧ Ch [] H H', ⟨_, rfl, Nat.zero_le _, by rw [upd_same]; rfl, Ch.new nD⟩, ?_⟩
  rintro i m H1 ⟨rfl, hi, e, c⟩
  have hT1 := c.sqT hT
  by_cases lt : i < ns.length
  · have ei : ns[i]? = some ns[i] := List.getElem?_eq_getElem lt
    have ev : (ns.map V.int)[i]? = some (.int ns[i]) := by rw [List.getElem?_map, ei]; rfl
    have tk : ns.take (i + 1) = ns.take i ++ [ns[i]] := by rw [List.take_add_one, ei]; rfl
    refine .inr ⟨⟨_, _, hT1, ev⟩, fun H' => H' D = some (.lst (((ns.take (i + 1)).filter p).map V.int)) ∧ Ch [] H H', fun H' z => ⟨ns.length - (i + 1), by omega, rfl, lt, z⟩, ?_⟩
    rintro x H2 ⟨rfl, y⟩
    have ex := y _ hT1
    rw [ev] at ex
    cases ex
    refine hs _ _ _ _ c (fun hp => ⟨_, e, ?_, ?_⟩) fun hp => ⟨?_, c⟩
    · rw [List.length_map]
      have := List.length_filter_le p (ns.take i)
      rw [List.length_take] at this
      exact lt_size (by omega)
    · have cw : Ch [D] _ (upd H2 D (.lst (((ns.take i).filter p).map V.int ++ [.int ns[i]]))) := Ch.wr e rfl
      refine ⟨?_, (cw.stepN c (sub1 (.inr nD)))⟩
      rw [upd_same, tk, List.filter_append, List.map_append]
      simp only [List.filter_cons, hp, if_true, List.filter_nil, List.map_cons, List.map_nil]
    · rw [e, tk, List.filter_append]
      simp only [List.filter_cons, hp, Bool.false_eq_true, if_false, List.filter_nil, List.append_nil]
  · have ei : i = ns.length := by omega
    subst ei
    rw [List.take_length] at e
    exact .inl ⟨⟨_, hT1, by rw [List.length_map]; exact Nat.le_refl _⟩, q D H1 nD e c⟩
end
theorem cut_take (ns : List Int) (k : Nat) : cutV (ns.map V.int) none (some (k : Int)) = (ns.take k).map V.int := by
  unfold cutV
  rw [HT.sIx_nat, HT.sIx_none, List.drop_zero, Nat.sub_zero, List.length_map, ← List.map_take]
  congr 1
  by_cases h : k ≤ ns.length
  · rw [Nat.min_eq_left h]
  · rw [Nat.min_eq_right (by omega), List.take_of_length_le (Nat.le_refl _), List.take_of_length_le (by omega)]
end Kt

set_option Elab.async false
set_option linter.all false
namespace M63
/-- x put into a rising list -/
def ins (x : Int) : List Int → List Int
  | [] => [x]
  | y :: r => if x < y then x :: y :: r else if x = y then y :: r else y :: ins x r
def nrm : List Int → List Int
  | [] => []
  | x :: r => ins x (nrm r)
abbrev Up (l : List Int) : Prop := l.Pairwise (· < ·)
theorem mem_ins {x z : Int} : ∀ {l : List Int}, z ∈ ins x l ↔ z = x ∨ z ∈ l
  | [] => by simp [ins]
  | y :: r => by
    unfold ins
    by_cases h : x < y
    · rw [if_pos h]; exact List.mem_cons
    · rw [if_neg h]
      by_cases h2 : x = y
      · subst h2
        rw [if_pos rfl]
        exact ⟨.inr, fun q => q.elim (fun e => e ▸ List.mem_cons_self) id⟩
      · rw [if_neg h2, List.mem_cons, List.mem_cons, mem_ins]
        exact ⟨fun q => q.elim (fun e => .inr (.inl e)) fun q => q.elim .inl fun e => .inr (.inr e), fun q => q.elim (fun e => .inr (.inl e)) fun q => q.elim .inl fun e => .inr (.inr e)⟩
theorem up_ins {x : Int} : ∀ {l : List Int}, Up l → Up (ins x l)
  | [], _ => List.pairwise_singleton _ _
  | y :: r, h => by
    obtain ⟨h1, h2⟩ := List.pairwise_cons.mp h
    unfold ins
    by_cases q : x < y
    · rw [if_pos q]
      exact List.pairwise_cons.mpr ⟨fun z m => (List.mem_cons.mp m).elim (fun e => e ▸ q) fun m => Int.lt_trans q (h1 z m), h⟩
    · rw [if_neg q]
      by_cases q2 : x = y
      · rw [if_pos q2]; exact h
      · rw [if_neg q2]
        refine List.pairwise_cons.mpr ⟨fun z m => ?_, up_ins h2⟩
        rcases mem_ins.mp m with e | m
        · subst e; omega
        · exact h1 z m
theorem mem_nrm {z : Int} : ∀ {l : List Int}, z ∈ nrm l ↔ z ∈ l
  | [] => Iff.rfl
  | x :: r => by
    show z ∈ ins x (nrm r) ↔ _
    rw [mem_ins, mem_nrm, List.mem_cons]
theorem up_nrm : ∀ l : List Int, Up (nrm l)
  | [] => List.Pairwise.nil
  | x :: r => up_ins (up_nrm r)
theorem up_ext : ∀ {a b : List Int}, Up a → Up b → (∀ z, z ∈ a ↔ z ∈ b) → a = b
  | [], [], _, _, _ => rfl
  | [], y :: r, _, _, h => absurd ((h y).mpr List.mem_cons_self) (fun z => nomatch z)
  | x :: r, [], _, _, h => absurd ((h x).mp List.mem_cons_self) (fun z => nomatch z)
  | x :: r, y :: t, ha, hb, h => by
    obtain ⟨a1, a2⟩ := List.pairwise_cons.mp ha
    obtain ⟨b1, b2⟩ := List.pairwise_cons.mp hb
    have e : x = y := by
      rcases List.mem_cons.mp ((h x).mp List.mem_cons_self) with e | m
      · exact e
      · rcases List.mem_cons.mp ((h y).mpr List.mem_cons_self) with e | m2
        · exact e.symm
        · have := b1 x m; have := a1 y m2; omega
    subst e
    rw [up_ext a2 b2 fun z => ⟨fun m => ?_, fun m => ?_⟩]
    · rcases List.mem_cons.mp ((h z).mp (List.mem_cons_of_mem _ m)) with e | m2
      · have := a1 z m; omega
      · exact m2
    · rcases List.mem_cons.mp ((h z).mpr (List.mem_cons_of_mem _ m)) with e | m2
      · have := b1 z m; omega
      · exact m2
theorem nrm_of {l m : List Int} (u : Up m) (h : ∀ z, z ∈ m ↔ z ∈ l) : m = nrm l := up_ext u (up_nrm l) fun z => (h z).trans mem_nrm.symm
theorem nrm_up {l : List Int} (u : Up l) : nrm l = l := (nrm_of u fun _ => Iff.rfl).symm
theorem len_ins {x : Int} : ∀ l : List Int, (ins x l).length ≤ l.length + 1
  | [] => Nat.le_refl _
  | y :: r => by
    unfold ins
    by_cases h : x < y
    · rw [if_pos h]; exact Nat.le_refl _
    · rw [if_neg h]
      by_cases h2 : x = y
      · rw [if_pos h2]; exact Nat.le_succ _
      · rw [if_neg h2]; have := len_ins (x := x) r; simp only [List.length_cons]; omega
theorem len_nrm : ∀ l : List Int, (nrm l).length ≤ l.length
  | [] => Nat.le_refl _
  | x :: r => by have := len_ins (x := x) (nrm r); have := len_nrm r; show (ins x (nrm r)).length ≤ r.length + 1; omega
def less (a b : List Int) : List Int := a.filter fun x => !decide (x ∈ b)
theorem mem_less {a b : List Int} {z : Int} : z ∈ less a b ↔ z ∈ a ∧ z ∉ b := by simp [less]
theorem up_less {a b : List Int} (u : Up a) : Up (less a b) := u.filter _
theorem len_less (a b : List Int) : (less a b).length ≤ a.length := List.length_filter_le _ _
theorem less_nil {a b : List Int} (ua : Up a) (ub : Up b) : nrm (a ++ b) = b ↔ less a b = [] := by
  constructor
  · intro e
    refine List.eq_nil_iff_forall_not_mem.mpr fun z m => ?_
    obtain ⟨m1, m2⟩ := mem_less.mp m
    rw [← e] at m2
    exact m2 (mem_nrm.mpr (List.mem_append_left _ m1))
  · intro e
    refine (nrm_of ub fun z => ⟨fun m => List.mem_append_right _ m, fun m => ?_⟩).symm
    rcases List.mem_append.mp m with m | m
    · by_cases h : z ∈ b
      · exact h
      · have := mem_less.mpr ⟨m, h⟩
        rw [e] at this
        cases this
    · exact m
theorem nrm_cat (a b : List Int) : nrm (nrm a ++ nrm b) = nrm (a ++ b) := nrm_of (up_nrm _) fun z => by simp only [mem_nrm, List.mem_append]
theorem nrm_rev (a : List Int) : nrm a.reverse = nrm a := nrm_of (up_nrm _) fun z => by simp only [mem_nrm, List.mem_reverse]
theorem nrm_again (a b : List Int) : nrm (a.reverse ++ b) = nrm (a ++ b) := nrm_of (up_nrm _) fun z => by simp only [mem_nrm, List.mem_append, List.mem_reverse]
theorem less_join (a b : List Int) : less (nrm (a ++ b)) b = nrm (less a b) := nrm_of (up_less (up_nrm _)) fun z => by
  simp only [mem_less, mem_nrm, List.mem_append]
  exact ⟨fun ⟨h, n⟩ => ⟨h.resolve_right n, n⟩, fun ⟨h, n⟩ => ⟨.inl h, n⟩⟩
/-- one more of a sorted list taken over -/
theorem take_mem {l : List Int} {i : Nat} {x z : Int} (e : l[i]? = some x) : z ∈ l.take (i + 1) ↔ z ∈ l.take i ∨ z = x := by
  rw [List.take_add_one, e, List.mem_append]
  simp
theorem take_le {l : List Int} {i : Nat} {x z : Int} (h : l.Pairwise (· ≤ ·)) (e : l[i]? = some x) (m : z ∈ l.take i) : z ≤ x := by
  have hi : i < l.length := (List.getElem?_eq_some_iff.mp e).1
  have hx : l[i] = x := (List.getElem?_eq_some_iff.mp e).2
  obtain ⟨j, hj, rfl⟩ := List.mem_iff_getElem.mp m
  rw [List.length_take] at hj
  rw [List.getElem_take, ← hx]
  exact List.pairwise_iff_getElem.mp h j i (by omega) hi (by omega)
/-- the loop of _law_set: what is made of the first i -/
structure Mdp (l : List Int) (i : Nat) (made : List Int) : Prop where
  up : Up made
  mem : ∀ z, z ∈ made ↔ z ∈ l.take i
theorem Mdp.nil {l : List Int} : Mdp l 0 [] := ⟨.nil, fun z => by simp⟩
theorem Mdp.add {l made : List Int} {i : Nat} {x : Int} (h : l.Pairwise (· ≤ ·)) (e : l[i]? = some x) (m : Mdp l i made) (n : x ∉ made) : Mdp l (i + 1) (made ++ [x]) := by
  refine ⟨List.pairwise_append.mpr ⟨m.up, List.pairwise_singleton _ _, fun z hz y hy => ?_⟩, fun z => ?_⟩
  · rw [List.mem_singleton.mp hy]
    have := take_le h e ((m.mem z).mp hz)
    rcases Int.lt_or_eq_of_le this with q | q
    · exact q
    · exact absurd (q ▸ hz) n
  · rw [List.mem_append, m.mem, List.mem_singleton, take_mem e]
theorem Mdp.same {l made : List Int} {i : Nat} {x : Int} (e : l[i]? = some x) (m : Mdp l i made) (n : x ∈ made) : Mdp l (i + 1) made :=
  ⟨m.up, fun z => by rw [take_mem e, m.mem]; exact ⟨.inl, fun q => q.elim id fun q => q ▸ (m.mem x).mp n⟩⟩
theorem Mdp.last {l made : List Int} {i : Nat} {x y : Int} (h : l.Pairwise (· ≤ ·)) (e : l[i]? = some x) (m : Mdp l i (made ++ [y])) (n : y ≠ x) : x ∉ made ++ [y] := by
  intro q
  rcases List.mem_append.mp q with q | q
  · have a := (List.pairwise_append.mp m.up).2.2 x q y List.mem_cons_self
    have b := take_le h e ((m.mem y).mp (List.mem_append_right _ List.mem_cons_self))
    omega
  · exact n (List.mem_singleton.mp q).symm
theorem Mdp.fin {l made : List Int} (m : Mdp l l.length made) : made = nrm l := nrm_of m.up fun z => by rw [m.mem, List.take_length]
theorem nrm_perm {a b : List Int} (h : a.Perm b) : nrm a = nrm b := nrm_of (up_nrm _) fun z => by rw [mem_nrm, h.mem_iff]
end M63

set_option Elab.async false
set_option linter.all false
set_option maxRecDepth 100000
set_option maxHeartbeats 4000000
open PySem PySem.Spec PyProof.Rows L2 Kt
local macro_rules | `(tactic| walk_at "lk") => `(tactic| first
  | assumption
  | exact Ch.get0 (by assumption) (by walk_at "lk")
  | exact Ch.get1 (by assumption) (by walk_at "lk") (by walk_at "ne")
  | exact Ch.get2 (by assumption) (by walk_at "lk") (by walk_at "ne") (by walk_at "ne")
  | exact Ch.get3 (by assumption) (by walk_at "lk") (by walk_at "ne") (by walk_at "ne") (by walk_at "ne")
  | exact Ch.get4 (by assumption) (by walk_at "lk") (by walk_at "ne") (by walk_at "ne") (by walk_at "ne") (by walk_at "ne"))
local macro_rules | `(tactic| walk_at "tk") => `(tactic| first
  | assumption
  | exact Tk.of (by assumption)
  | exact Dr.tl (by assumption)
  | exact Dr.tf (by assumption)
  | exact Ch.tk (by assumption) (by walk_at "tk"))
local macro_rules | `(tactic| walk_at "ne") => `(tactic| first
  | assumption
  | exact Ne.symm (by assumption)
  | exact ne_tk (by assumption) (by walk_at "tk")
  | exact ne_tk' (by assumption) (by walk_at "tk")
  | exact ne_of (by assumption) (by assumption) (fun z => nomatch z))
local macro_rules | `(tactic| walk_at "lkT") => `(tactic| first
  | assumption
  | exact SqT.of (by walk_at "lk")
  | exact Ch.sqT (by assumption) (by walk_at "lkT"))
local macro_rules | `(tactic| walk_at "nin") => `(tactic| (simp only [List.mem_cons, List.mem_singleton, List.not_mem_nil, or_false, not_or]; first | (walk_at "ne") | (refine ⟨?_, ?_⟩ <;> walk_at "ne") | (refine ⟨?_, ?_, ?_⟩ <;> walk_at "ne")))
local macro_rules | `(tactic| walk_at "lkL") => `(tactic| first
  | assumption
  | exact SqL.of (by walk_at "lk")
  | exact FzL.sqL (by walk_at "fz")
  | exact Ch.sqL0 (by assumption) (by walk_at "lkL")
  | exact Ch.sqL (by assumption) (by walk_at "lkL") (by walk_at "nin"))
local macro_rules | `(tactic| walk_at "ps") => `(tactic| first
  | exact Ps.refl
  | exact Ps.step (by assumption) (by walk_at "ps"))
local macro_rules | `(tactic| walk_at "gr") => `(tactic| first
  | exact Gr.refl
  | exact Gr.step (by assumption) (by walk_at "gr"))
local macro_rules | `(tactic| walk_at "no") => `(tactic| first
  | assumption
  | exact Gr.no (by assumption) (by walk_at "gr"))
local macro_rules | `(tactic| walk_at "mem") => `(tactic| first
  | exact Or.inl List.mem_cons_self
  | exact Or.inl (List.mem_cons_of_mem _ List.mem_cons_self)
  | exact Or.inl (List.mem_cons_of_mem _ (List.mem_cons_of_mem _ List.mem_cons_self))
  | exact Or.inl (List.mem_cons_of_mem _ (List.mem_cons_of_mem _ (List.mem_cons_of_mem _ List.mem_cons_self)))
  | exact Or.inr (by walk_at "no"))
local macro_rules | `(tactic| walk_at "sub") => `(tactic| first
  | exact sub0
  | exact sub1 (by walk_at "mem")
  | exact sub2 (by walk_at "mem") (by walk_at "mem")
  | exact sub3 (by walk_at "mem") (by walk_at "mem") (by walk_at "mem")
  | exact sub4 (by walk_at "mem") (by walk_at "mem") (by walk_at "mem") (by walk_at "mem"))
local macro_rules | `(tactic| walk_at "ch") => `(tactic| first
  | assumption
  | exact Ch.refl
  | exact Ch.stepN (by assumption) (by walk_at "ch") (by walk_at "sub"))
local macro_rules | `(tactic| walk_at "dr") => `(tactic| first
  | assumption
  | exact Dr.ch0 (by assumption) (by walk_at "dr")
  | exact Dr.ch (by assumption) (by walk_at "dr") (by walk_at "nin") (by walk_at "nin"))
local macro_rules | `(tactic| walk_at "size") => `(tactic| first
  | exact Nat.le_of_ble_eq_true rfl
  | exact lt_size (by (try simp only [List.length_map, List.length_append, List.length_cons, List.length_nil, List.length_set, List.length_replicate, List.length_reverse, List.length_range]); omega)
  | exact le_size (by (try simp only [List.length_map, List.length_append, List.length_cons, List.length_nil, List.length_set, List.length_replicate, List.length_reverse, List.length_range]); omega))
local macro_rules | `(tactic| walk_at "fz") => `(tactic| first
  | assumption
  | exact Ch.fz (by assumption) (by walk_at "fz"))
local macro_rules | `(tactic| walk_at "kb") => `(tactic| first
  | exact kb_int_int
  | exact kb_int_bool
  | exact kb_int_str
  | exact kb_int_list
  | exact kb_int_tuple
  | exact kb_int_dict
  | exact kb_bool_int
  | exact kb_bool_bool
  | exact kb_bool_str
  | exact kb_bool_list
  | exact kb_bool_tuple
  | exact kb_bool_dict
  | exact kb_str_int
  | exact kb_str_bool
  | exact kb_str_str
  | exact kb_str_list
  | exact kb_str_tuple
  | exact kb_str_dict
  | exact kb_list_int
  | exact kb_list_bool
  | exact kb_list_str
  | exact kb_list_list
  | exact kb_list_tuple
  | exact kb_list_dict
  | exact kb_tuple_int
  | exact kb_tuple_bool
  | exact kb_tuple_str
  | exact kb_tuple_list
  | exact kb_tuple_tuple
  | exact kb_tuple_dict
  | exact kb_dict_int
  | exact kb_dict_bool
  | exact kb_dict_str
  | exact kb_dict_list
  | exact kb_dict_tuple
  | exact kb_dict_dict
  | exact kb_NoneType_int
  | exact kb_NoneType_bool
  | exact kb_NoneType_str
  | exact kb_NoneType_list
  | exact kb_NoneType_tuple
  | exact kb_NoneType_dict)
local macro_rules | `(tactic| walk_at "vv") => `(tactic| first
  | exact rfl
  | exact Nat.le_of_ble_eq_true rfl
  | decide +kernel)
local macro_rules | `(tactic| walk_at "cls") => `(tactic| assumption)
local macro_rules | `(tactic| walk_at "ix") => `(tactic| first
  | exact rfl
  | assumption
  | exact atI_last _ _)
local macro_rules | `(tactic| walk_at "c") => `(tactic| first
  | decide
  | omega
  | (show (0 : Int) < _; omega)
  | (unfold CDiv; omega)
  | (unfold CMul; omega)
  | (unfold CPow; decide)
  | (unfold CDivN; omega)
  | (unfold CDivW; decide))
local macro_rules | `(tactic| walk_at "w1") => `(tactic| first
  | (with_reducible refine w_seq ?_)
  | (with_reducible refine w_asg ?_)
  | (with_reducible refine w_gn ?_)
  | ((with_reducible show tVar _ _ _ _); refine w_var (by exact rfl) ?_)
  | (with_reducible refine w_c ?_)
  | (with_reducible refine w_op ?_)
  | (with_reducible refine w_rI0 ?_)
  | ((with_reducible show rI _ _ (V.int _) (V.int _) _ _); refine w_rI (by walk_at "c") ?_)
  | (with_reducible refine w_cons ?_)
  | (with_reducible refine w_nil ?_)
  | (with_reducible refine w_fn ?_)
  | (with_reducible refine w_cb ?_)
  | (with_reducible refine w_if ?_)
  | (with_reducible refine w_test ?_)
  | (with_reducible refine w_tB ?_)
  | (with_reducible refine w_bl ?_)
  | (with_reducible refine w_eqI ?_)
  | (with_reducible refine w_neI ?_)
  | (with_reducible refine w_eqS ?_)
  | (with_reducible refine w_neS ?_)
  | (with_reducible refine w_eqB ?_)
  | (with_reducible refine w_not ?_)
  | (with_reducible refine w_and ?_)
  | (with_reducible refine w_or ?_)
  | (with_reducible refine w_ifx ?_)
  | (with_reducible refine w_andV ?_)
  | (with_reducible refine w_orV ?_)
  | (with_reducible refine w_notV ?_)
  | (with_reducible refine w_ret ?_)
  | (with_reducible refine w_retN ?_)
  | (with_reducible refine w_nx ?_)
  | (with_reducible refine w_drop ?_)
  | (with_reducible refine w_brk ?_)
  | (with_reducible refine w_cnt ?_)
  | (with_reducible refine w_un ?_)
  | (with_reducible refine w_rU ?_)
  | (with_reducible refine w_int ?_)
  | (with_reducible refine w_abs ?_)
  | (with_reducible refine w_min2 ?_)
  | (with_reducible refine w_max2 ?_)
  | ((with_reducible show qLenL _ _ _ _); refine w_lenL (by walk_at "lkL") ?_)
  | ((with_reducible show qLenT _ _ _ _); refine w_lenT (by walk_at "lkT") ?_)
  | ((with_reducible show rIxL _ _ _ _ _); refine w_ixL (by walk_at "lkL") (by walk_at "ix") ?_)
  | ((with_reducible show rIxT _ _ _ _ _); refine w_ixT (by walk_at "lkT") (by walk_at "ix") ?_)
  | ((with_reducible show qLenS _ _ _ _); refine w_lenSL (by walk_at "lkL") ?_; intro _)
  | ((with_reducible show qLenS _ _ _ _); refine w_lenST (by walk_at "lkT") ?_; intro _)
  | ((with_reducible show qIxS _ _ _ _ _); refine w_ixSL (by walk_at "lkL") (by walk_at "ix") ?_)
  | ((with_reducible show qIxS _ _ _ _ _); refine w_ixST (by walk_at "lkT") (by walk_at "ix") ?_)
  | (with_reducible refine w_gsub ?_)
  | (with_reducible refine w_bm ?_)
  | (with_reducible refine w_bm0 ?_)
  | ((with_reducible show tyV _ "list" _ _ ∧ _); refine w_tyL (by walk_at "lk") ?_)
  | ((with_reducible show qApp _ _ _ _); refine w_app (by walk_at "lk") (by walk_at "size") ?_; intro _ _ _)
  | ((with_reducible show qSetL _ _ _ _ _); refine w_setL (by walk_at "lk") (by walk_at "ix") ?_; intro _ _ _)
  | ((with_reducible show qPop _ _ _ _); refine w_pop (by walk_at "lk") ?_; intro _ _ _)
  | ((with_reducible show qListL _ _ _ _); refine w_listL (by walk_at "lkL") ?_)
  | ((with_reducible show qListT _ _ _ _); refine w_listT (by walk_at "lkT") ?_)
  | ((with_reducible show qTupL _ _ _ _); refine w_tupL (by walk_at "lkL") ?_)
  | ((with_reducible show qTupT _ _ _ _); refine w_tupT (by walk_at "lkT") ?_)
  | (with_reducible refine w_tup ?_)
  | (with_reducible refine w_lst ?_)
  | ((with_reducible show _ ∧ kNew _ _ _); refine w_kNewS (by walk_at "size") ?_; intro _ _ _ _ _)
  | ((with_reducible show kNew _ _ _); refine w_kNew  ?_; intro _ _ _ _ _)
  | ((with_reducible show kSet _ _ _ _); refine w_kSet  ?_; intro _ _ _)
  | (with_reducible refine w_for ?_)
  | (with_reducible refine w_iList ?_)
  | (with_reducible refine w_iTup ?_)
  | (with_reducible refine w_iRng1 ?_)
  | ((with_reducible show qIsi _ [V.int _, V.ty _] _ _); refine w_isiI (by walk_at "kb") ?_)
  | ((with_reducible show qIsi _ [V.str _, V.ty _] _ _); refine w_isiS (by walk_at "kb") ?_)
  | ((with_reducible show qIsi _ [V.bl _, V.ty _] _ _); refine w_isiB (by walk_at "kb") ?_)
  | ((with_reducible show qIsi _ [V.ref _, V.ty _] _ _); refine w_isiL (by walk_at "lkL") (by walk_at "kb") ?_)
  | ((with_reducible show qIsi _ [V.ref _, V.ty _] _ _); refine w_isiT (by walk_at "lkT") (by walk_at "kb") ?_)
  | ((with_reducible show qFld _ _ (V.ref _) _ _); refine w_fget (by walk_at "lk") (by walk_at "cls") (by walk_at "cls") (by walk_at "vv") ?_)
  | ((with_reducible show qFset _ _ _ (V.ref _) _ _); refine w_fset (by walk_at "lk") (by walk_at "cls") (by walk_at "cls") (by walk_at "vv") ?_; intro _ _ _)
  | ((with_reducible show qSelf _ _ (V.ref _) _ _); refine w_self (by walk_at "lk") (by walk_at "vv") ?_)
  | ((with_reducible show qIsD (V.ref _) _ _); refine w_isD (by walk_at "lk") ?_)
  | ((with_reducible show qDg2' (V.ref _) (V.int _) _ _ _); refine w_dg2I (by walk_at "lk") ?_)
  | ((with_reducible show qDp (V.ref _) (V.int _) _ _ _); refine w_dpI (by walk_at "lk") (by walk_at "size") ?_; intro _ _ _)
  | ((with_reducible show qIsi _ [V.ref _, V.ref _] _ _); refine w_isiO (by walk_at "lk") (by walk_at "cls") (by walk_at "cls") ?_)
  | (with_reducible refine w_tTru ?_)
  | (with_reducible refine w_neB ?_)
  | (with_reducible refine w_lstRev ?_)
  | (with_reducible refine w_lstRevT ?_)
  | (with_reducible refine w_tSm ?_)
  | ((with_reducible show ∃ _, TruV _ (V.ref _) _ _ ∧ _); refine w_truL (by walk_at "lkL") ?_)
  | ((with_reducible show ∃ _, TruV _ (V.ref _) _ _ ∧ _); refine w_truT (by walk_at "lkT") ?_)
  | ((with_reducible show qCatL (V.ref _) (V.ref _) _ _); refine w_catL (by walk_at "lk") (by walk_at "lk") (by walk_at "size") ?_)
  | ((with_reducible show qCatT _ (V.ref _) (V.ref _) _ _); refine w_catT (by walk_at "lkT") (by walk_at "lkT") (by walk_at "size") ?_; intro _ _ _ _)
  | ((with_reducible show kIterT _ _ _ _); refine w_kIterT (by walk_at "lkT") ?_; intro _ _ _ _ _)
  | ((with_reducible show qCutL _ _ _ _ _ _); refine w_cutL (by walk_at "lkL") ?_)
  | (with_reducible refine w_lc ?_)
  | (with_reducible refine w_yes ?_)
  | ((with_reducible show wipe _ _ = wipe _ _ ∧ _); refine w_wipe (by exact rfl) ?_)
  | (with_reducible refine w_kGet ?_)
  | (with_reducible refine w_kMt ?_)
  | (with_reducible refine w_kMk ?_)
  | (with_reducible refine w_kFld ?_)
  | (with_reducible refine w_kDg ?_)
  | (with_reducible refine w_kDg2 ?_)
  | (with_reducible refine w_kDp ?_)
  | ((with_reducible show qDg _ (V.str _) _ _); refine w_dgS (by walk_at "lk") (by walk_at "vv") ?_)
  | ((with_reducible show kDisp _ _ _ _); refine w_kDisp  ?_; intro _ _ _ _ _)
  | ((with_reducible show kDnew _ _ _); refine w_kDnew  ?_; intro _ _ _ _ _)
  | ((with_reducible show tPairs _ _ _ _); refine w_prc  ?_)
  | ((with_reducible show tPairs _ _ _ _); refine w_prn  ?_)
  | ((with_reducible show if _ = true then _ else _); refine w_F (by exact rfl) ?_)
  | ((with_reducible show if _ = true then _ else _); refine w_T (by exact rfl) ?_))
local macro_rules | `(tactic| walk_at "w") => `(tactic| repeat (walk_at "w1"))
namespace M63
def topS (i : Nat) : Stmt := PySem.Challenge.pw_codefromcode_k63_marks_are_sets.main.body.getD i (.Pass ⟨0, 0, 0, 0⟩)

abbrev s_Marks___init : Stmt := inClass (topS 1) 0
theorem sc_Marks___init : FnScope [("self" : Str), ("lines" : Str)] [("self" : Str), ("lines" : Str)] (defScope s_Marks___init) := ⟨rfl, rfl, rfl, by decide +kernel, rfl, by decide +kernel, by decide +kernel⟩

abbrev s_Marks_of : Stmt := inClass (topS 1) 1
theorem sc_Marks_of : FnScope [("lines" : Str)] [("lines" : Str)] (defScope s_Marks_of) := ⟨rfl, rfl, rfl, by decide +kernel, rfl, by decide +kernel, by decide +kernel⟩

abbrev s_Marks___or : Stmt := inClass (topS 1) 2
theorem sc_Marks___or : FnScope [("self" : Str), ("other" : Str)] [("self" : Str), ("other" : Str)] (defScope s_Marks___or) := ⟨rfl, rfl, rfl, by decide +kernel, rfl, by decide +kernel, by decide +kernel⟩

abbrev s_Marks___sub : Stmt := inClass (topS 1) 3
theorem sc_Marks___sub : FnScope [("self" : Str), ("other" : Str), ("line" : Str)] [("self" : Str), ("other" : Str)] (defScope s_Marks___sub) := ⟨rfl, rfl, rfl, by decide +kernel, rfl, by decide +kernel, by decide +kernel⟩

abbrev s_Marks___eq : Stmt := inClass (topS 1) 4
theorem sc_Marks___eq : FnScope [("self" : Str), ("other" : Str)] [("self" : Str), ("other" : Str)] (defScope s_Marks___eq) := ⟨rfl, rfl, rfl, by decide +kernel, rfl, by decide +kernel, by decide +kernel⟩

abbrev s_Marks___len : Stmt := inClass (topS 1) 5
theorem sc_Marks___len : FnScope [("self" : Str)] [("self" : Str)] (defScope s_Marks___len) := ⟨rfl, rfl, rfl, by decide +kernel, rfl, by decide +kernel, by decide +kernel⟩

abbrev s_Marks___contains : Stmt := inClass (topS 1) 6
theorem sc_Marks___contains : FnScope [("self" : Str), ("line" : Str)] [("self" : Str), ("line" : Str)] (defScope s_Marks___contains) := ⟨rfl, rfl, rfl, by decide +kernel, rfl, by decide +kernel, by decide +kernel⟩

abbrev s_Marks___iter : Stmt := inClass (topS 1) 7
theorem sc_Marks___iter : FnScope [("self" : Str)] [("self" : Str)] (defScope s_Marks___iter) := ⟨rfl, rfl, rfl, by decide +kernel, rfl, by decide +kernel, by decide +kernel⟩

abbrev s_Marks_within : Stmt := inClass (topS 1) 8
theorem sc_Marks_within : FnScope [("self" : Str), ("other" : Str), ("line" : Str)] [("self" : Str), ("other" : Str)] (defScope s_Marks_within) := ⟨rfl, rfl, rfl, by decide +kernel, rfl, by decide +kernel, by decide +kernel⟩

abbrev s_law_draws : Stmt := topS 3
theorem sc_law_draws : FnScope [("script" : Str), ("feed" : Str), ("seed" : Str), ("at" : Str), ("cell" : Str), ("k" : Str)] [("script" : Str)] (defScope s_law_draws) := ⟨rfl, rfl, rfl, by decide +kernel, rfl, by decide +kernel, by decide +kernel⟩

abbrev s_law_pick : Stmt := topS 4
theorem sc_law_pick : FnScope [("draws" : Str), ("many" : Str), ("at" : Str)] [("draws" : Str), ("many" : Str)] (defScope s_law_pick) := ⟨rfl, rfl, rfl, by decide +kernel, rfl, by decide +kernel, by decide +kernel⟩

abbrev s_law_lot : Stmt := topS 5
theorem sc_law_lot : FnScope [("draws" : Str), ("many" : Str), ("wide" : Str), ("made" : Str), ("k" : Str), ("one" : Str)] [("draws" : Str)] (defScope s_law_lot) := ⟨rfl, rfl, rfl, by decide +kernel, rfl, by decide +kernel, by decide +kernel⟩

abbrev s_law_near : Stmt := topS 6
theorem sc_law_near : FnScope [("draws" : Str), ("lot" : Str), ("made" : Str), ("at" : Str)] [("draws" : Str), ("lot" : Str)] (defScope s_law_near) := ⟨rfl, rfl, rfl, by decide +kernel, rfl, by decide +kernel, by decide +kernel⟩

abbrev s_law_set : Stmt := topS 7
theorem sc_law_set : FnScope [("lot" : Str), ("made" : Str), ("one" : Str)] [("lot" : Str)] (defScope s_law_set) := ⟨rfl, rfl, rfl, by decide +kernel, rfl, by decide +kernel, by decide +kernel⟩

abbrev s_law_less : Stmt := topS 8
theorem sc_law_less : FnScope [("one" : Str), ("two" : Str), ("item" : Str)] [("one" : Str), ("two" : Str)] (defScope s_law_less) := ⟨rfl, rfl, rfl, by decide +kernel, rfl, by decide +kernel, by decide +kernel⟩

abbrev s_law_flag : Stmt := topS 9
theorem sc_law_flag : FnScope [("actual" : Str), ("due" : Str)] [("actual" : Str), ("due" : Str)] (defScope s_law_flag) := ⟨rfl, rfl, rfl, by decide +kernel, rfl, by decide +kernel, by decide +kernel⟩

abbrev s_law_is : Stmt := topS 10
theorem sc_law_is : FnScope [("marks" : Str), ("due" : Str), ("told" : Str), ("walked" : Str), ("at" : Str), ("item" : Str)] [("marks" : Str), ("due" : Str)] (defScope s_law_is) := ⟨rfl, rfl, rfl, by decide +kernel, rfl, by decide +kernel, by decide +kernel⟩

abbrev s_law_pair : Stmt := topS 11
theorem sc_law_pair : FnScope [("first" : Str), ("second" : Str), ("one" : Str), ("two" : Str)] [("first" : Str), ("second" : Str), ("one" : Str), ("two" : Str)] (defScope s_law_pair) := ⟨rfl, rfl, rfl, by decide +kernel, rfl, by decide +kernel, by decide +kernel⟩

abbrev s_law_of : Stmt := topS 12
theorem sc_law_of : FnScope [("lot" : Str)] [("lot" : Str)] (defScope s_law_of) := ⟨rfl, rfl, rfl, by decide +kernel, rfl, by decide +kernel, by decide +kernel⟩

abbrev s_law_walked : Stmt := topS 13
theorem sc_law_walked : FnScope [("marks" : Str), ("lot" : Str), ("item" : Str), ("near" : Str)] [("marks" : Str), ("lot" : Str)] (defScope s_law_walked) := ⟨rfl, rfl, rfl, by decide +kernel, rfl, by decide +kernel, by decide +kernel⟩

abbrev s_law : Stmt := topS 14
theorem sc_law : FnScope [("script" : Str), ("draws" : Str), ("lot" : Str), ("other" : Str), ("one" : Str), ("two" : Str), ("given" : Str), ("first" : Str), ("second" : Str), ("again" : Str), ("joined" : Str), ("apart" : Str), ("empty" : Str)] [("script" : Str)] (defScope s_law) := ⟨rfl, rfl, rfl, by decide +kernel, rfl, by decide +kernel, by decide +kernel⟩

structure Tp (P : Program) (w : World) (K : PySem.W.Frag) (mg : Str → Option Value) : Type where
  C_Marks : Addr
  g_Marks : mg ("Marks" : Str) = some (.ref C_Marks)
  cl_Marks : Cls K C_Marks
  ow_Marks : OwnK K C_Marks
  sf_Marks : PySem.W.selfFirst K C_Marks = true
  mk_Marks : MkC K C_Marks
  na_Marks_lines : NoAttr K C_Marks ("lines" : Str)
  d_Marks___init : ∃ f fd, PySem.W.findIn K (.ref C_Marks) ("__init__" : Str) = some (some (.ref f)) ∧ PySem.W.isFn K (.ref f) = true ∧ Fun K ("__init__" : Str) ("Marks.__init__" : Str) s_Marks___init f fd ∧ Binds K fd [("self" : Str), ("lines" : Str)] []
  p_Marks_of : Addr
  f_Marks_of : Addr
  sm_Marks_of : SmC K C_Marks (.type "type") ("of" : Str) p_Marks_of f_Marks_of
  d_Marks_of : ∃ fd, Fun K ("of" : Str) ("Marks.of" : Str) s_Marks_of f_Marks_of fd
  d_Marks___or : ∃ f fd, PySem.W.findIn K (.ref C_Marks) ("__or__" : Str) = some (some (.ref f)) ∧ PySem.W.isFn K (.ref f) = true ∧ Fun K ("__or__" : Str) ("Marks.__or__" : Str) s_Marks___or f fd ∧ Binds K fd [("self" : Str), ("other" : Str)] []
  d_Marks___sub : ∃ f fd, PySem.W.findIn K (.ref C_Marks) ("__sub__" : Str) = some (some (.ref f)) ∧ PySem.W.isFn K (.ref f) = true ∧ Fun K ("__sub__" : Str) ("Marks.__sub__" : Str) s_Marks___sub f fd ∧ Binds K fd [("self" : Str), ("other" : Str)] []
  d_Marks___eq : ∃ f fd, PySem.W.findIn K (.ref C_Marks) ("__eq__" : Str) = some (some (.ref f)) ∧ PySem.W.isFn K (.ref f) = true ∧ Fun K ("__eq__" : Str) ("Marks.__eq__" : Str) s_Marks___eq f fd ∧ Binds K fd [("self" : Str), ("other" : Str)] []
  d_Marks___len : ∃ f fd, PySem.W.findIn K (.ref C_Marks) ("__len__" : Str) = some (some (.ref f)) ∧ PySem.W.isFn K (.ref f) = true ∧ Fun K ("__len__" : Str) ("Marks.__len__" : Str) s_Marks___len f fd ∧ Binds K fd [("self" : Str)] []
  d_Marks___contains : ∃ f fd, PySem.W.findIn K (.ref C_Marks) ("__contains__" : Str) = some (some (.ref f)) ∧ PySem.W.isFn K (.ref f) = true ∧ Fun K ("__contains__" : Str) ("Marks.__contains__" : Str) s_Marks___contains f fd ∧ Binds K fd [("self" : Str), ("line" : Str)] []
  d_Marks___iter : ∃ f fd, PySem.W.findIn K (.ref C_Marks) ("__iter__" : Str) = some (some (.ref f)) ∧ PySem.W.isFn K (.ref f) = true ∧ Fun K ("__iter__" : Str) ("Marks.__iter__" : Str) s_Marks___iter f fd ∧ Binds K fd [("self" : Str)] []
  d_Marks_within : ∃ f fd, PySem.W.findIn K (.ref C_Marks) ("within" : Str) = some (some (.ref f)) ∧ PySem.W.isFn K (.ref f) = true ∧ Fun K ("within" : Str) ("Marks.within" : Str) s_Marks_within f fd ∧ Binds K fd [("self" : Str), ("other" : Str)] []
  d_law_draws : ∃ f fd, mg ("_law_draws" : Str) = some (.ref f) ∧ Fun K ("_law_draws" : Str) ("_law_draws" : Str) s_law_draws f fd ∧ Binds K fd [("script" : Str)] []
  d_law_pick : ∃ f fd, mg ("_law_pick" : Str) = some (.ref f) ∧ Fun K ("_law_pick" : Str) ("_law_pick" : Str) s_law_pick f fd ∧ Binds K fd [("draws" : Str), ("many" : Str)] []
  d_law_lot : ∃ f fd, mg ("_law_lot" : Str) = some (.ref f) ∧ Fun K ("_law_lot" : Str) ("_law_lot" : Str) s_law_lot f fd ∧ Binds K fd [("draws" : Str)] []
  d_law_near : ∃ f fd, mg ("_law_near" : Str) = some (.ref f) ∧ Fun K ("_law_near" : Str) ("_law_near" : Str) s_law_near f fd ∧ Binds K fd [("draws" : Str), ("lot" : Str)] []
  d_law_set : ∃ f fd, mg ("_law_set" : Str) = some (.ref f) ∧ Fun K ("_law_set" : Str) ("_law_set" : Str) s_law_set f fd ∧ Binds K fd [("lot" : Str)] []
  d_law_less : ∃ f fd, mg ("_law_less" : Str) = some (.ref f) ∧ Fun K ("_law_less" : Str) ("_law_less" : Str) s_law_less f fd ∧ Binds K fd [("one" : Str), ("two" : Str)] []
  d_law_flag : ∃ f fd, mg ("_law_flag" : Str) = some (.ref f) ∧ Fun K ("_law_flag" : Str) ("_law_flag" : Str) s_law_flag f fd ∧ Binds K fd [("actual" : Str), ("due" : Str)] []
  d_law_is : ∃ f fd, mg ("_law_is" : Str) = some (.ref f) ∧ Fun K ("_law_is" : Str) ("_law_is" : Str) s_law_is f fd ∧ Binds K fd [("marks" : Str), ("due" : Str)] []
  d_law_pair : ∃ f fd, mg ("_law_pair" : Str) = some (.ref f) ∧ Fun K ("_law_pair" : Str) ("_law_pair" : Str) s_law_pair f fd ∧ Binds K fd [("first" : Str), ("second" : Str), ("one" : Str), ("two" : Str)] []
  d_law_of : ∃ f fd, mg ("_law_of" : Str) = some (.ref f) ∧ Fun K ("_law_of" : Str) ("_law_of" : Str) s_law_of f fd ∧ Binds K fd [("lot" : Str)] []
  d_law_walked : ∃ f fd, mg ("_law_walked" : Str) = some (.ref f) ∧ Fun K ("_law_walked" : Str) ("_law_walked" : Str) s_law_walked f fd ∧ Binds K fd [("marks" : Str), ("lot" : Str)] []
  d_law : ∃ f fd, mg ("law" : Str) = some (.ref f) ∧ Fun K ("law" : Str) ("law" : Str) s_law f fd ∧ Binds K fd [("script" : Str)] []
  n_abs : mg ("abs" : Str) = none
  n_bool : mg ("bool" : Str) = none
  n_int : mg ("int" : Str) = none
  n_isinstance : mg ("isinstance" : Str) = none
  n_iter : mg ("iter" : Str) = none
  n_len : mg ("len" : Str) = none
  n_list : mg ("list" : Str) = none
  n_min : mg ("min" : Str) = none
  n_range : mg ("range" : Str) = none
  n_reversed : mg ("reversed" : Str) = none
  n_set : mg ("set" : Str) = none
  n_sorted : mg ("sorted" : Str) = none
  n_tuple : mg ("tuple" : Str) = none

/-- the instance at a, of the class at C, holds the lines ns -/
def Mk (K : PySem.W.Frag) (C : Addr) (H : Hp) (a : Addr) (ns : List Int) : Prop := ∃ dx p, H a = some (.ins C dx [(("lines" : Str), V.ref p)]) ∧ SqT K H p (ns.map V.int)
theorem Mk.ch {K : PySem.W.Frag} {C a : Addr} {H H' : Hp} {ns : List Int} (c : Ch [] H H') (h : Mk K C H a ns) : Mk K C H' a ns := let ⟨dx, p, e, t⟩ := h; ⟨dx, p, c.get0 e, c.sqT t⟩
theorem Mk.ch' {K : PySem.W.Frag} {C a : Addr} {H H' : Hp} {ls : List Addr} {ns : List Int} (c : Ch ls H H') (h : Mk K C H a ns) (n : a ∉ ls) : Mk K C H' a ns := let ⟨dx, p, e, t⟩ := h; ⟨dx, p, c.keep _ _ e n, c.sqT t⟩
theorem Mk.tk {K : PySem.W.Frag} {C a : Addr} {H : Hp} {ns : List Int} (h : Mk K C H a ns) : Tk H a := let ⟨_, _, e, _⟩ := h; ⟨_, e⟩
def spInit (K : PySem.W.Frag) (C : Addr) : Sp := fun vs H Q _ => ∃ (a dx p : Addr) (ns : List Int), vs = [.ref a, .ref p] ∧ H a = some (.ins C dx []) ∧ (SqL K H p (ns.map V.int) ∨ SqT K H p (ns.map V.int)) ∧ ns.length < 64 ∧
  ∀ H', Mk K C H' a (nrm ns) → Ch [a] H H' → Q .non H'
theorem use_make {K : PySem.W.Frag} {C p : Addr} {H : Hp} {Qd : Addr → Hp → Prop} (ns : List Int) (hs : SqL K H p (ns.map V.int) ∨ SqT K H p (ns.map V.int)) (hl : ns.length < 64) (q : ∀ a H', H a = none → Mk K C H' a (nrm ns) → Ch [] H H' → Qd a H') :
    ∀ x dx H', H x = none → H' x = some (.ins C dx []) → Ch [] H H' → spInit K C (.ref x :: [.ref p]) H' (fun v H2 => v = .non ∧ Qd x H2) E0 := fun x dx H' n e c =>
  ⟨x, dx, p, ns, rfl, e, hs.elim (fun h => .inl (c.sqL0 h)) (fun h => .inr (c.sqT h)), hl, fun H2 m c2 => ⟨rfl, q x H2 n m (c2.stepN c (sub1 (.inr n)))⟩⟩
def spOfB (K : PySem.W.Frag) (C : Addr) : Sp := fun vs H Q _ => ∃ (p : Addr) (ns : List Int), vs = [.ref p] ∧ SqT K H p (ns.map V.int) ∧ ns.length < 64 ∧ ∀ a H', H a = none → Mk K C H' a (nrm ns) → Ch [] H H' → Q (.ref a) H'
def spOf (K : PySem.W.Frag) (C : Addr) : Sp := fun vs H Q _ => ∃ (ns : List Int), vs = ns.map V.int ∧ ns.length < 64 ∧ ∀ a H', H a = none → Mk K C H' a (nrm ns) → Ch [] H H' → Q (.ref a) H'
theorem of_weak {K : PySem.W.Frag} {C : Addr} : ∀ vs H Q E, spOf K C vs H Q E → vs.length ≤ sizeLine ∧ ∀ p H', H p = none → H' p = some (.tup vs) → Ch [] H H' → spOfB K C [V.ref p] H' Q E := by
  rintro vs H Q E ⟨ns, rfl, l, q⟩
  refine ⟨by rw [List.length_map]; exact le_size (by omega), fun p H' n e c => ⟨p, ns, rfl, SqT.of e, l, fun a H2 na m c2 => q a H2 ?_ m (c.trans c2)⟩⟩
  cases z : H a with
  | none => rfl
  | some o => rw [c.get0 z] at na; cases na
def spOr (K : PySem.W.Frag) (C : Addr) : Sp := fun vs H Q _ => ∃ (a b : Addr) (ns ms : List Int), vs = [.ref a, .ref b] ∧ Mk K C H a ns ∧ Mk K C H b ms ∧ ns.length + ms.length < 64 ∧ ∀ c H', H c = none → Mk K C H' c (nrm (ns ++ ms)) → Ch [] H H' → Q (.ref c) H'
def spSub (K : PySem.W.Frag) (C : Addr) : Sp := fun vs H Q _ => ∃ (a b : Addr) (ns ms : List Int), vs = [.ref a, .ref b] ∧ Mk K C H a ns ∧ Mk K C H b ms ∧ ns.length < 64 ∧ ∀ c H', H c = none → Mk K C H' c (nrm (less ns ms)) → Ch [] H H' → Q (.ref c) H'
def spEq (K : PySem.W.Frag) (C : Addr) : Sp := fun vs H Q _ => ∃ (a b : Addr) (ns ms : List Int), vs = [.ref a, .ref b] ∧ Mk K C H a ns ∧ Mk K C H b ms ∧ Q (.bl (decide (ns = ms))) H
def spLen (K : PySem.W.Frag) (C : Addr) : Sp := fun vs H Q _ => ∃ (a : Addr) (ns : List Int), vs = [.ref a] ∧ Mk K C H a ns ∧ Q (.int (ns.length : Nat)) H
def spHas (K : PySem.W.Frag) (C : Addr) : Sp := fun vs H Q _ => ∃ (a : Addr) (ns : List Int) (x : Int), vs = [.ref a, .int x] ∧ Mk K C H a ns ∧ Q (.bl (decide (x ∈ ns))) H
def spIter (K : PySem.W.Frag) (C : Addr) : Sp := fun vs H Q _ => ∃ (a : Addr) (ns : List Int), vs = [.ref a] ∧ Mk K C H a ns ∧ ∀ it l H', H it = none → H' it = some (TiH l it) → SqT K H' l (ns.map V.int) → Ch [] H H' → Q (.ref it) H'
def spWithin (K : PySem.W.Frag) (C : Addr) : Sp := fun vs H Q _ => ∃ (a b : Addr) (ns ms : List Int), vs = [.ref a, .ref b] ∧ Mk K C H a ns ∧ Mk K C H b ms ∧ Q (.bl (decide (less ns ms = []))) H
theorem eqv_ints : ∀ ns ms : List Int, PyData.eqvAll (ns.map .int) (ms.map .int) = decide (ns = ms)
  | [], [] => rfl
  | [], _ :: _ => rfl
  | _ :: _, [] => rfl
  | n :: r, m :: t => by
    show (PyData.eqv (.int n) (.int m) && PyData.eqvAll (r.map .int) (t.map .int)) = _
    rw [eqv_ints r t]
    have e : PyData.eqv (.int n) (.int m) = (n == m) := by simp only [PyData.eqv]
    rw [e]
    by_cases h : n = m
    · subst h
      rw [beq_self_eq_true, Bool.true_and]
      by_cases h2 : r = t
      · rw [decide_eq_true h2, decide_eq_true (by rw [h2])]
      · rw [decide_eq_false h2, decide_eq_false fun z => h2 (List.cons.inj z).2]
    · rw [beq_eq_false_iff_ne.mpr h, Bool.false_and, decide_eq_false fun z => h (List.cons.inj z).1]
theorem eqvT (ns ms : List Int) : PyData.eqv (.tuple (ns.map .int)) (.tuple (ms.map .int)) = decide (ns = ms) := by
  rw [← eqv_ints]
  simp only [PyData.eqv]
theorem eqvL (ns ms : List Int) : PyData.eqv (.list (ns.map .int)) (.list (ms.map .int)) = decide (ns = ms) := by
  rw [← eqv_ints]
  simp only [PyData.eqv]
theorem shL (ns : List Int) : SeqAt.shaped (.list (ns.map .int)) = true := PySem.W.ke_shaped_ints ns
theorem shT (ns : List Int) : SeqAt.shaped (.tuple (ns.map .int)) = true := by
  have h := shL ns
  unfold SeqAt.shaped at h ⊢
  obtain ⟨h1, h2⟩ := Bool.and_eq_true_iff.mp h
  have h3 := of_decide_eq_true h2
  refine Bool.and_eq_true_iff.mpr ⟨by simpa only [PyData.canLay0] using h1, decide_eq_true ?_⟩
  simpa only [PyData.depth] using h3
theorem w_eqT {K : PySem.W.Frag} {H : Hp} {a b : Addr} {ns ms : List Int} {Q : VK} (h : SqT K H a (ns.map V.int)) (h2 : SqT K H b (ms.map V.int)) (q : Q (.bl (decide (ns = ms))) H) : rEqD K (.ref a) (.ref b) H Q :=
  ⟨_, _, .tup h (dpAll_ints ns), .tup h2 (dpAll_ints ms), shT ns, shT ms, by rw [eqvT]; exact q⟩
theorem w_neL {K : PySem.W.Frag} {H : Hp} {a b : Addr} {ns ms : List Int} {Q : VK} (h : SqL K H a (ns.map V.int)) (h2 : SqL K H b (ms.map V.int)) (q : Q (.bl (!decide (ns = ms))) H) : rNeD K (.ref a) (.ref b) H Q :=
  ⟨_, _, .lst h (dpAll_ints ns), .lst h2 (dpAll_ints ms), shL ns, shL ms, by rw [eqvL]; exact q⟩
section
variable {P : Program} {w : World} {K : PySem.W.Frag} {mg : Str → Option Value} {base : Heap}

theorem ok_law_pick  (T : Tp P w K mg) : Df P w K mg base ("_law_pick" : Str) (1) [("draws" : Str), ("many" : Str)] (spPick) := by
  obtain ⟨f, fd, hm, F, b⟩ := T.d_law_pick
  refine ⟨f, fd, hm, F.kp, b, F.ok sc_law_pick (fun vs H Q E h => ?_) (fun cdv A outer s H vs Q E hr h => ?_)⟩
  · obtain ⟨l, fl, m, rfl, hd, hm, q⟩ := h
    rfl
  · obtain ⟨l, fl, m, rfl, hd, hm, q⟩ := h
    have hu := hu_of hr
    refine ⟨_, (pss_cons (ps_set (i := 2) sc_law_pick.nd rfl (Or.inl rfl) (pe_ix ix_list (pv 0) pe_int (fun _ _ => rfl)))
      (pss_cons (ps_asg (pe_op op_add (pv 2) pe_int) (pg_sub (pv 0) pe_int s_lst))
      (pss_cons (ps_if (pt_cmpR op_lt (pv 2) (pe_callB c_lenL (by rfl) T.n_len PySem.boot_len (pa_cons (pe_ix ix_list (pv 0) pe_int (fun _ _ => rfl)) pa_nil)) (nomark _)) (pss_one (ps_ret (pe_op op_mod (pe_callTy c_int (by rfl) T.n_int (by decide +kernel) (pa_cons (pe_ix ix_list (pe_ix ix_list (pv 0) pe_int (fun _ _ => rfl)) (pv 2) (fun _ _ => rfl)) pa_nil)) (pv 1)))) pss_nil)
      (pss_cons (ps_asg (pe_op op_mod (pe_callTy c_int (by rfl) T.n_int (by decide +kernel) (pa_cons (pe_op op_add (pe_op op_mul (pe_ix ix_list (pv 0) pe_int (fun _ _ => rfl)) pe_int) pe_int) pa_nil)) pe_int) (pg_sub (pv 0) pe_int s_lst))
      (pss_one (ps_ret (pe_op op_mod (pe_callTy c_int (by rfl) T.n_int (by decide +kernel) (pa_cons (pe_op op_fdiv (pe_ix ix_list (pv 0) pe_int (fun _ _ => rfl)) pe_int) pa_nil)) (pv 1)))))))), ?_⟩
    have hne := hd.ne
    obtain ⟨a, s, f, h1, h2, h3, h4, h5⟩ := hd.ex
    walk_at "w"
    refine w_D (fun hc => ?_) (fun hc => ?_)
    · walk_at "w"
      have hc' : a < (f.length : Int) := by simpa using hc
      obtain ⟨x, _, _, hx⟩ := atI_map V.int f h3 hc'
      refine w_ixL (by walk_at "lkL") hx ?_
      walk_at "w"
      exact q _ _ (Int.emod_nonneg _ (by omega)) (Int.emod_lt_of_pos _ hm) ⟨_, s, f, by walk_at "lk", by walk_at "lk", by omega, h4, h5⟩ (by walk_at "ch")
    · walk_at "w"
      have e := Int.emod_nonneg (s * 48271 + 11) (by decide : (2147483647 : Int) ≠ 0)
      have e2 := Int.emod_lt_of_pos (s * 48271 + 11) (by decide : (0 : Int) < 2147483647)
      exact q _ _ (Int.emod_nonneg _ (by omega)) (Int.emod_lt_of_pos _ hm) ⟨_, _, f, by walk_at "lk", by walk_at "lk", by omega, e, by omega⟩ (by walk_at "ch")

theorem ok_law_draws  (T : Tp P w K mg) : Df P w K mg base ("_law_draws" : Str) (1) [("script" : Str)] (spDraws K) := by
  obtain ⟨f, fd, hm, F, b⟩ := T.d_law_draws
  refine ⟨f, fd, hm, F.kp, b, F.ok sc_law_draws (fun vs H Q E h => ?_) (fun cdv A outer s H vs Q E hr h => ?_)⟩
  · obtain ⟨a, ns, rfl, hS, hlen, q⟩ := h
    rfl
  · obtain ⟨a, ns, rfl, hS, hlen, q⟩ := h
    have hu := hu_of hr
    refine ⟨_, (pss_cons (ps_set (i := 1) sc_law_draws.nd rfl (Or.inl rfl) (pe_kLst pa_nil))
      (pss_cons (ps_set (i := 2) sc_law_draws.nd rfl (Or.inl rfl) pe_int)
      (pss_cons (ps_for PassesOwn.never rfl (pi_range1 rfl T.n_range (pa_cons (pe_callB (c_min2 rfl) (by rfl) T.n_min (by decide +kernel) (pa_cons (pe_callB c_lenL (by rfl) T.n_len PySem.boot_len (pa_cons (pv 0) pa_nil)) (pa_cons pe_int pa_nil))) pa_nil)) (pg_name (i := 3) sc_law_draws.nd rfl (Or.inl rfl)) (pss_cons (ps_set (i := 4) sc_law_draws.nd rfl (Or.inl rfl) (pe_callB c_abs (by rfl) T.n_abs (by decide +kernel) (pa_cons (pe_ix ix_list (pv 0) (pv 3) (fun _ _ => rfl)) pa_nil)))
      (pss_cons (ps_set (i := 2) sc_law_draws.nd rfl (Or.inl rfl) (pe_op op_mod (pe_callTy c_int (by rfl) T.n_int (by decide +kernel) (pa_cons (pe_op op_add (pe_op op_add (pe_op op_mul (pv 2) pe_int) (pv 4)) (pv 3)) pa_nil)) pe_int))
      (pss_one (ps_if (pt_cmpR op_ge (pv 4) (pe_op op_pow pe_int pe_int) (nomark _)) (pss_one (ps_for PassesOwn.never rfl (pi_range1 rfl T.n_range (pa_cons pe_int pa_nil)) (pg_name (i := 5) sc_law_draws.nd rfl (Or.inl rfl)) (pss_one (ps_if (pt_cmpR op_gt (pv 4) pe_int (nomark _)) (pss_cons (ps_expr (pe_bm PySem.F.plainAttrs_list PySem.F.slot_list_append PySem.F.type_list_append m_app (pv 1) (pa_cons (pe_op op_mod (pe_callTy c_int (by rfl) T.n_int (by decide +kernel) (pa_cons (pv 4) pa_nil)) pe_int) pa_nil)))
      (pss_one (ps_set (i := 4) sc_law_draws.nd rfl (Or.inl rfl) (pe_op op_fdivW (pv 4) pe_int)))) pss_nil)))) (pss_cons (ps_expr (pe_bm PySem.F.plainAttrs_list PySem.F.slot_list_append PySem.F.type_list_append m_app (pv 1) (pa_cons (pe_op op_mod (pe_op op_mod (pe_callTy c_int (by rfl) T.n_int (by decide +kernel) (pa_cons (pe_op op_add (pe_op op_mul (pv 4) pe_int) (pe_op op_mul (pv 3) pe_int)) pa_nil)) pe_int) pe_int) pa_nil)))
      (pss_one (ps_expr (pe_bm PySem.F.plainAttrs_list PySem.F.slot_list_append PySem.F.type_list_append m_app (pv 1) (pa_cons (pe_op op_mod (pe_op op_fdiv (pe_op op_mod (pe_callTy c_int (by rfl) T.n_int (by decide +kernel) (pa_cons (pe_op op_add (pe_op op_mul (pv 4) pe_int) (pe_op op_mul (pv 3) pe_int)) pa_nil)) pe_int) pe_int) pe_int) pa_nil))))))))))
      (pss_one (ps_ret (pe_kLst (pa_cons pe_int (pa_cons (pv 1) (pa_cons (pe_op op_add (pv 2) pe_int) pa_nil))))))))), ?_⟩
    walk_at "w"
    rename_i fl H1 n1 e1 c1
    refine k_rng ns.length (by rw [List.length_map]; split <;> omega) (by rw [List.length_map]; split <;> omega) (by rw [List.length_map]; split <;> omega)
      (fun i σ H' => ∃ feed seed v3 v4 v5, σ = [some (.ref a), some (.ref fl), some (.int seed), v3, v4, v5] ∧ H' fl = some (.lst (feed.map V.int)) ∧ feed.length ≤ 60 * i ∧ 0 ≤ seed ∧ seed < 2147483648 ∧ Ch [fl] H1 H')
      ⟨[], 7, none, none, none, rfl, e1, by simp, by decide, by decide, Ch.refl⟩ ?_ ?_
    · rintro i σ H2 hi ⟨feed, seed, v3, v4, v5, rfl, ef, hf, s0, s1, c2⟩
      obtain ⟨x, _, _, hx⟩ := atI_map V.int ns (a := (i : Int)) (by omega) (by omega)
      walk_at "w"
      have m0 := Int.emod_nonneg (seed * 31 + (if x < 0 then -x else x) + (i : Int)) (by decide : (2147483647 : Int) ≠ 0)
      have m1 := Int.emod_lt_of_pos (seed * 31 + (if x < 0 then -x else x) + (i : Int)) (by decide : (0 : Int) < 2147483647)
      generalize (seed * 31 + (if x < 0 then -x else x) + (i : Int)) % 2147483647 = seed' at m0 m1 ⊢
      generalize (if x < 0 then -x else x) = cell
      refine w_D (fun hc => ?_) (fun hc => ?_)
      · walk_at "w"
        refine k_rng 60 rfl (by decide) (by decide)
          (fun k σ H' => ∃ feed' cell' v5, σ = [some (.ref a), some (.ref fl), some (.int seed'), some (.int i), some (.int cell'), v5] ∧ H' fl = some (.lst (feed'.map V.int)) ∧ feed'.length ≤ 60 * i + k ∧ Ch [fl] H1 H')
          ⟨feed, cell, v5, rfl, ef, by omega, c2⟩ ?_ ?_
        · rintro k σ H3 hk ⟨feed', cell', v5', rfl, ef', hf', c3⟩
          walk_at "w"
          refine w_D (fun hp => ?_) (fun hp => ?_)
          · walk_at "w"
            exact ⟨feed' ++ [_], _, _, rfl, by rw [List.map_append]; walk_at "lk", by simp only [List.length_append, List.length_cons, List.length_nil]; omega, by walk_at "ch"⟩
          · walk_at "w"
            exact ⟨feed', cell', _, rfl, ef', by omega, c3⟩
        · rintro σ H3 ⟨feed', cell', v5', rfl, ef', hf', c3⟩
          walk_at "w"
          exact ⟨feed', seed', _, _, _, rfl, ef', by omega, m0, by omega, c3⟩
      · walk_at "w"
        exact ⟨(feed ++ [_]) ++ [_], seed', _, _, _, rfl, by rw [List.map_append, List.map_append]; walk_at "lk", by simp only [List.length_append, List.length_cons, List.length_nil]; omega, m0, by omega, by walk_at "ch"⟩
    · rintro σ H2 ⟨feed, seed, v3, v4, v5, rfl, ef, hf, s0, s1, c2⟩
      walk_at "w"
      rename_i p H3 n3 e3 c3
      exact q p fl H3 (by walk_at "no") n1 ⟨0, _, feed, e3, by walk_at "lk", by decide, by omega, by omega⟩ (by walk_at "ch")

theorem ok_Marks___init  (T : Tp P w K mg) : Dm P w K mg base T.C_Marks ("__init__" : Str) (1) [("self" : Str), ("lines" : Str)] (spInit K T.C_Marks) := by
  obtain ⟨f, fd, hf, hF, F, b⟩ := T.d_Marks___init
  refine ⟨f, fd, hf, hF, F.kp, b, F.ok sc_Marks___init (fun vs H Q E h => ?_) (fun cdv A outer s H vs Q E hr h => ?_)⟩
  · obtain ⟨a, dx, p, ns, rfl, ha, hs, hl, q⟩ := h
    rfl
  · obtain ⟨a, dx, p, ns, rfl, ha, hs, hl, q⟩ := h
    have hu := hu_of hr
    refine ⟨_, (pss_one (ps_kFld (pv 0) (pe_callTy c_tupL (by rfl) T.n_tuple (by decide +kernel) (pa_cons (pe_callB (c_srtSet rfl) (by rfl) T.n_sorted (by decide +kernel) (pa_cons (pe_callTy (c_setS rfl) (by rfl) T.n_set (by decide +kernel) (pa_cons (pv 1) pa_nil)) pa_nil)) pa_nil)) rfl)), ?_⟩
    have hcl := T.cl_Marks; have hna := T.na_Marks_lines; have how := T.ow_Marks
    walk_at "w"
    refine ⟨p, ns, rfl, hs, by have : scanBound = 4096 := by decide +kernel
                               omega, fun st c H1 ns1 hc es c1 => ?_⟩
    walk_at "w"
    refine ⟨st, _, c, rfl, es, by omega, fun ms l H2 up mem len nl el c2 => ?_⟩
    walk_at "w"
    rename_i tp H3 nt et c3 H4 e4 c4
    have em : ms = nrm ns := nrm_of up fun z => (mem z).trans decide_eq_true_iff
    subst em
    exact q H4 ⟨dx, tp, e4, SqT.of (c4.tup _ _ et)⟩ (by walk_at "ch")

theorem ok_Marks_of  (T : Tp P w K mg) (D_Marks___init : Dm P w K mg base T.C_Marks ("__init__" : Str) (1) [("self" : Str), ("lines" : Str)] (spInit K T.C_Marks)) : FnR P w K mg base CX0 (3) T.f_Marks_of (spOf K T.C_Marks) := by
  obtain ⟨fd, F⟩ := T.d_Marks_of
  refine fnr_imp (star_ok (sp := spOfB K T.C_Marks) F sc_Marks_of (fun _ _ _ _ _ _ => rfl) (fun _ _ _ _ _ _ _ _ => rfl) (fun cdv A outer s H vs Q E hr h => ?_)) of_weak
  · obtain ⟨p, ns, rfl, hs, hl, q⟩ := h
    have hu := hu_of hr
    refine ⟨_, (pss_one (ps_ret (pe_mk T.mk_Marks D_Marks___init (hr.mono (by omega)) (by rfl) T.g_Marks (pa_cons (pv 0) pa_nil)))), ?_⟩
    have hcl := T.cl_Marks; have hna := T.na_Marks_lines; have how := T.ow_Marks
    walk_at "w"
    exact use_make ns (.inr (by walk_at "lkT")) hl q

theorem ok_Marks___or  (T : Tp P w K mg) (D_Marks___init : Dm P w K mg base T.C_Marks ("__init__" : Str) (1) [("self" : Str), ("lines" : Str)] (spInit K T.C_Marks)) : Dm P w K mg base T.C_Marks ("__or__" : Str) (3) [("self" : Str), ("other" : Str)] (spOr K T.C_Marks) := by
  obtain ⟨f, fd, hf, hF, F, b⟩ := T.d_Marks___or
  refine ⟨f, fd, hf, hF, F.kp, b, F.ok sc_Marks___or (fun vs H Q E h => ?_) (fun cdv A outer s H vs Q E hr h => ?_)⟩
  · obtain ⟨a, b, ns, ms, rfl, ⟨dx, p, ha, ta⟩, ⟨dy, p2, hb, tb⟩, hl, q⟩ := h
    rfl
  · obtain ⟨a, b, ns, ms, rfl, ⟨dx, p, ha, ta⟩, ⟨dy, p2, hb, tb⟩, hl, q⟩ := h
    have hu := hu_of hr
    refine ⟨_, (pss_cons (ps_if (pt_not (pt_val (pe_callB c_isi (by rfl) T.n_isinstance (by decide +kernel) (pa_cons (pv 1) (pa_cons (pe_glob (v := .ref T.C_Marks) rfl T.g_Marks (Vals.rf _)) pa_nil))))) pss_never pss_nil)
      (pss_one (ps_ret (pe_mk T.mk_Marks D_Marks___init (hr.mono (by omega)) (by rfl) T.g_Marks (pa_cons (pe_op o_catT (pe_kGet (pv 0) rfl) (pe_kGet (pv 1) rfl)) pa_nil))))), ?_⟩
    have hcl := T.cl_Marks; have hna := T.na_Marks_lines; have how := T.ow_Marks
    walk_at "w"
    rename_i p3 H1 t3 c1
    rw [← List.map_append] at t3
    exact use_make (ns ++ ms) (.inr t3) (by rw [List.length_append]; exact hl) fun c H2 n m c2 => q c H2 (c1.no n) m (c1.trans c2)

theorem ok_Marks___sub  (T : Tp P w K mg) (D_Marks___init : Dm P w K mg base T.C_Marks ("__init__" : Str) (1) [("self" : Str), ("lines" : Str)] (spInit K T.C_Marks)) : Dm P w K mg base T.C_Marks ("__sub__" : Str) (3) [("self" : Str), ("other" : Str)] (spSub K T.C_Marks) := by
  obtain ⟨f, fd, hf, hF, F, b⟩ := T.d_Marks___sub
  refine ⟨f, fd, hf, hF, F.kp, b, F.ok sc_Marks___sub (fun vs H Q E h => ?_) (fun cdv A outer s H vs Q E hr h => ?_)⟩
  · obtain ⟨a, b, ns, ms, rfl, ⟨dx, p, ha, ta⟩, ⟨dy, p2, hb, tb⟩, hl, q⟩ := h
    rfl
  · obtain ⟨a, b, ns, ms, rfl, ⟨dx, p, ha, ta⟩, ⟨dy, p2, hb, tb⟩, hl, q⟩ := h
    have hu := hu_of hr
    refine ⟨_, (pss_cons (ps_if (pt_not (pt_val (pe_callB c_isi (by rfl) T.n_isinstance (by decide +kernel) (pa_cons (pv 1) (pa_cons (pe_glob (v := .ref T.C_Marks) rfl T.g_Marks (Vals.rf _)) pa_nil))))) pss_never pss_nil)
      (pss_one (ps_ret (pe_mk T.mk_Marks D_Marks___init (hr.mono (by omega)) (by rfl) T.g_Marks (pa_cons (pe_lc (own := [(("line" : Str), 2)]) (g := gName 2) rfl sc_Marks___sub.nd (pi_tup (pe_kGet (pv 0) rfl)) (blkOk_by (N := [("self" : Str), ("other" : Str), ("line" : Str)]) (sc := defScope s_Marks___sub) (own := [(("line" : Str), 2)]) (by decide +kernel)) (fun _ _ _ _ _ => pg_name (i := 2) sc_Marks___sub.nd rfl (Or.inl rfl)) (fun _ _ _ _ _ => (pts_one (pt_cmpR (o_ninTC (K := K) rfl) (pv 2) (pe_kGetC (K := K) rfl (pv 1) rfl) (by rfl)))) (fun _ _ _ _ _ => (pv 2))) pa_nil))))), ?_⟩
    have hcl := T.cl_Marks; have hna := T.na_Marks_lines; have how := T.ow_Marks
    walk_at "w"
    refine lc_filtT (ns := ns) (fun x => !decide (x ∈ ms)) ta (by omega) (fun x H1 G Nx c1 h1 h2 => ?_) fun D H1 nD eD c1 => ?_
    · walk_at "w"
      refine w_ninTI ms (by walk_at "lkT") ?_
      walk_at "w"
      refine w_ND (fun hn => ?_) (fun hn => ?_)
      · walk_at "w"
        exact h1 (by rw [decide_eq_false hn]; rfl)
      · exact h2 (by rw [decide_eq_true hn]; rfl)
    · walk_at "w"
      exact use_make (less ns ms) (.inl (SqL.of eD)) (Nat.lt_of_le_of_lt (len_less ns ms) hl) fun c H2 n m c2 => q c H2 (c1.no n) m (c1.trans c2)

theorem ok_Marks___eq  (T : Tp P w K mg) : Dm P w K mg base T.C_Marks ("__eq__" : Str) (1) [("self" : Str), ("other" : Str)] (spEq K T.C_Marks) := by
  obtain ⟨f, fd, hf, hF, F, b⟩ := T.d_Marks___eq
  refine ⟨f, fd, hf, hF, F.kp, b, F.ok sc_Marks___eq (fun vs H Q E h => ?_) (fun cdv A outer s H vs Q E hr h => ?_)⟩
  · obtain ⟨a, b, ns, ms, rfl, ⟨dx, p, ha, ta⟩, ⟨dy, p2, hb, tb⟩, q⟩ := h
    rfl
  · obtain ⟨a, b, ns, ms, rfl, ⟨dx, p, ha, ta⟩, ⟨dy, p2, hb, tb⟩, q⟩ := h
    have hu := hu_of hr
    refine ⟨_, (pss_cons (ps_if (pt_not (pt_val (pe_callB c_isi (by rfl) T.n_isinstance (by decide +kernel) (pa_cons (pv 1) (pa_cons (pe_glob (v := .ref T.C_Marks) rfl T.g_Marks (Vals.rf _)) pa_nil))))) (pss_one (ps_ret pe_bl)) pss_nil)
      (pss_one (ps_ret (pe_cmpR (op_eqD hr.units) (pe_kGet (pv 0) rfl) (pe_kGet (pv 1) rfl) (nomark _))))), ?_⟩
    have hcl := T.cl_Marks; have hna := T.na_Marks_lines; have how := T.ow_Marks
    walk_at "w"
    exact w_eqT (by walk_at "lkT") (by walk_at "lkT") q

theorem ok_Marks___len  (T : Tp P w K mg) : Dm P w K mg base T.C_Marks ("__len__" : Str) (1) [("self" : Str)] (spLen K T.C_Marks) := by
  obtain ⟨f, fd, hf, hF, F, b⟩ := T.d_Marks___len
  refine ⟨f, fd, hf, hF, F.kp, b, F.ok sc_Marks___len (fun vs H Q E h => ?_) (fun cdv A outer s H vs Q E hr h => ?_)⟩
  · obtain ⟨a, ns, rfl, ⟨dx, p, ha, ta⟩, q⟩ := h
    rfl
  · obtain ⟨a, ns, rfl, ⟨dx, p, ha, ta⟩, q⟩ := h
    have hu := hu_of hr
    refine ⟨_, (pss_one (ps_ret (pe_callB c_lenT (by rfl) T.n_len PySem.boot_len (pa_cons (pe_kGet (pv 0) rfl) pa_nil)))), ?_⟩
    have hcl := T.cl_Marks; have hna := T.na_Marks_lines; have how := T.ow_Marks
    walk_at "w"
    rw [List.length_map]
    exact q

theorem ok_Marks___contains  (T : Tp P w K mg) : Dm P w K mg base T.C_Marks ("__contains__" : Str) (1) [("self" : Str), ("line" : Str)] (spHas K T.C_Marks) := by
  obtain ⟨f, fd, hf, hF, F, b⟩ := T.d_Marks___contains
  refine ⟨f, fd, hf, hF, F.kp, b, F.ok sc_Marks___contains (fun vs H Q E h => ?_) (fun cdv A outer s H vs Q E hr h => ?_)⟩
  · obtain ⟨a, ns, x, rfl, ⟨dx, p, ha, ta⟩, q⟩ := h
    rfl
  · obtain ⟨a, ns, x, rfl, ⟨dx, p, ha, ta⟩, q⟩ := h
    have hu := hu_of hr
    refine ⟨_, (pss_one (ps_ret (pe_cmpR o_inT (pv 1) (pe_kGet (pv 0) rfl) (by rfl)))), ?_⟩
    have hcl := T.cl_Marks; have hna := T.na_Marks_lines; have how := T.ow_Marks
    walk_at "w"
    exact w_inTI ns ta q

theorem ok_Marks___iter  (T : Tp P w K mg) : Dm P w K mg base T.C_Marks ("__iter__" : Str) (1) [("self" : Str)] (spIter K T.C_Marks) := by
  obtain ⟨f, fd, hf, hF, F, b⟩ := T.d_Marks___iter
  refine ⟨f, fd, hf, hF, F.kp, b, F.ok sc_Marks___iter (fun vs H Q E h => ?_) (fun cdv A outer s H vs Q E hr h => ?_)⟩
  · obtain ⟨a, ns, rfl, ⟨dx, p, ha, ta⟩, q⟩ := h
    rfl
  · obtain ⟨a, ns, rfl, ⟨dx, p, ha, ta⟩, q⟩ := h
    have hu := hu_of hr
    refine ⟨_, (pss_one (ps_ret (pe_callB c_kIterT (by rfl) T.n_iter (by decide +kernel) (pa_cons (pe_kGet (pv 0) rfl) pa_nil)))), ?_⟩
    have hcl := T.cl_Marks; have hna := T.na_Marks_lines; have how := T.ow_Marks
    walk_at "w"
    rename_i it H1 n1 e1 c1
    exact q it p H1 n1 e1 (by walk_at "lkT") c1

theorem ok_Marks_within  (T : Tp P w K mg) : Dm P w K mg base T.C_Marks ("within" : Str) (1) [("self" : Str), ("other" : Str)] (spWithin K T.C_Marks) := by
  obtain ⟨f, fd, hf, hF, F, b⟩ := T.d_Marks_within
  refine ⟨f, fd, hf, hF, F.kp, b, F.ok sc_Marks_within (fun vs H Q E h => ?_) (fun cdv A outer s H vs Q E hr h => ?_)⟩
  · obtain ⟨a, b, ns, ms, rfl, ⟨dx, p, ha, ta⟩, ⟨dy, p2, hb, tb⟩, q⟩ := h
    rfl
  · obtain ⟨a, b, ns, ms, rfl, ⟨dx, p, ha, ta⟩, ⟨dy, p2, hb, tb⟩, q⟩ := h
    have hu := hu_of hr
    refine ⟨_, (pss_cons (ps_for PassesOwn.never rfl (pi_tup (pe_kGet (pv 0) rfl)) (pg_name (i := 2) sc_Marks_within.nd rfl (Or.inl rfl)) (pss_one (ps_if (pt_cmpR o_ninT (pv 2) (pe_kGet (pv 1) rfl) (by rfl)) (pss_one (ps_ret pe_bl)) pss_nil)))
      (pss_one (ps_ret pe_bl))), ?_⟩
    have hcl := T.cl_Marks; have hna := T.na_Marks_lines; have how := T.ow_Marks
    walk_at "w"
    refine k_tup ta (fun i σ H' => ∃ v, σ = [some (.ref a), some (.ref b), v] ∧ H' = H ∧ ∀ z ∈ ns.take i, z ∈ ms) ⟨none, rfl, rfl, fun z hz => by simp at hz⟩ (fun i σ H' _ h => by obtain ⟨_, _, rfl, _⟩ := h; exact ta) ?_ ?_
    · rintro i x σ H' ex ⟨v, rfl, rfl, hz⟩
      rw [List.getElem?_map] at ex
      obtain ⟨n, en, rfl⟩ := Option.map_eq_some_iff.mp ex
      walk_at "w"
      refine w_ninTI ms (by walk_at "lkT") ?_
      walk_at "w"
      refine w_ND (fun hn => ?_) (fun hn => ?_)
      · walk_at "w"
        rw [decide_eq_false fun z => by have := mem_less.mpr ⟨List.mem_of_getElem? en, hn⟩; rw [z] at this; cases this] at q
        exact q
      · walk_at "w"
        exact ⟨_, rfl, rfl, fun z m => ((take_mem en).mp m).elim (hz z) fun e => e ▸ hn⟩
    · rintro σ H' ⟨v, rfl, rfl, hz⟩
      rw [List.length_map, List.take_length] at hz
      rw [decide_eq_true (List.eq_nil_iff_forall_not_mem.mpr fun z m => (mem_less.mp m).2 (hz z (mem_less.mp m).1))] at q
      walk_at "w"
      exact q

end
end M63


namespace M63
theorem w_cutI {A : Prop} {B : Int → Hp → Prop} (C : Int → Hp → Prop) (k : (∀ n H, C n H → B n H) → A) (b : ∀ n H, C n H → B n H) : A := k b
theorem snoc_or (l : List Int) : l = [] ∨ ∃ a b, l = a ++ [b] := by
  rcases List.eq_nil_or_concat l with h | ⟨a, b, h⟩
  · exact .inl h
  · exact .inr ⟨a, b, by rw [h, List.concat_eq_append]⟩
theorem pos_of {ms : List Int} (h : (!(ms.map V.int).isEmpty) = true) : 0 < ms.length := by
  cases ms with
  | nil => cases h
  | cons _ _ => exact Nat.succ_pos _
theorem use_lstOwn {K : PySem.W.Frag} {H0 H : Hp} {C a : Addr} {ns : List Int} {Q : VK} (m : Mk K C H a ns) (hl : ns.length < 1000) (g : Gr H0 H) (q : ∀ q H', H q = none → H' q = some (.lst (ns.map V.int)) → Ch [] H H' → Q (.ref q) H') :
    qLstOwn K H0 C (spIter K C) (spLen K C) [.ref a] H Q := by
  obtain ⟨dx, p, e, t⟩ := id m
  exact ⟨a, dx, _, rfl, e, fun q' H1 n1 e1 c1 => ⟨a, ns, rfl, m.ch c1, fun it l H2 n2 e2 t2 c2 => ⟨it, l, _, rfl, n2, c2, e2, fr0_none (Gr.no (c1.no n2) g), t2, a, ns, rfl, (m.ch c1).ch c2, ns.length, rfl, hl, Ch.refl, fun H4 e4 c4 => q q' H4 n1 e4 c4⟩⟩⟩
theorem use_ownLen {K : PySem.W.Frag} {H : Hp} {C a : Addr} {ns : List Int} {Q : VK} (m : Mk K C H a ns) (hl : ns.length < 1000) (q : Q (.int (ns.length : Nat)) H) : qOwnLen C (spLen K C) [.ref a] H Q := by
  obtain ⟨dx, p, e, t⟩ := id m
  exact ⟨a, dx, _, rfl, e, a, ns, rfl, m, ns.length, rfl, by omega, q⟩
def spLot : Sp := fun vs H Q _ => ∃ (l fl : Addr), vs = [.ref l] ∧ Dr H l fl ∧ ∀ (p : Addr) (ns : List Int) H', H p = none → H' p = some (.lst (ns.map V.int)) → (ns.length : Int) ∈ ([0, 1, 2, 3, 5, 8, 12, 30] : List Int) → Dr H' l fl → Ch [l] H H' → Q (.ref p) H'
def spNear : Sp := fun vs H Q _ => ∃ (l fl p : Addr) (ns : List Int), vs = [.ref l, .ref p] ∧ Dr H l fl ∧ H p = some (.lst (ns.map V.int)) ∧ ns.length ≤ 100 ∧ ∀ (r : Addr) (ms : List Int) H', H r = none → H' r = some (.lst (ms.map V.int)) → ms.length = ns.length → Dr H' l fl → Ch [l] H H' → Q (.ref r) H'
def spSet (K : PySem.W.Frag) : Sp := fun vs H Q _ => ∃ (p : Addr) (ns : List Int), vs = [.ref p] ∧ SqL K H p (ns.map V.int) ∧ ns.length ≤ 1000 ∧ ∀ (t : Addr) H', SqT K H' t ((nrm ns).map V.int) → Ch [] H H' → Q (.ref t) H'
def spLess (K : PySem.W.Frag) : Sp := fun vs H Q _ => ∃ (a b : Addr) (ns ms : List Int), vs = [.ref a, .ref b] ∧ SqT K H a (ns.map V.int) ∧ SqT K H b (ms.map V.int) ∧ ns.length ≤ 1000 ∧ ∀ (t : Addr) H', SqT K H' t ((less ns ms).map V.int) → Ch [] H H' → Q (.ref t) H'
def spFlag : Sp := fun vs H Q _ => ∃ x y : Bool, vs = [.bl x, .bl y] ∧ Q (.bl (x == y)) H
def spIs (K : PySem.W.Frag) (C : Addr) : Sp := fun vs H Q _ => ∃ (a d : Addr) (ns : List Int), vs = [.ref a, .ref d] ∧ Mk K C H a ns ∧ SqT K H d (ns.map V.int) ∧ ns.length < 1000 ∧ ∀ H', Ch [] H H' → Q (.bl true) H'
section
variable {P : Program} {w : World} {K : PySem.W.Frag} {mg : Str → Option Value} {base : Heap}

theorem ok_law_flag  (T : Tp P w K mg) : Df P w K mg base ("_law_flag" : Str) (1) [("actual" : Str), ("due" : Str)] (spFlag) := by
  obtain ⟨f, fd, hm, F, b⟩ := T.d_law_flag
  refine ⟨f, fd, hm, F.kp, b, F.ok sc_law_flag (fun vs H Q E h => ?_) (fun cdv A outer s H vs Q E hr h => ?_)⟩
  · obtain ⟨x, y, rfl, q⟩ := h
    rfl
  · obtain ⟨x, y, rfl, q⟩ := h
    have hu := hu_of hr
    refine ⟨_, (pss_one (ps_ret (pe_and (pe_callB c_isi (by rfl) T.n_isinstance (by decide +kernel) (pa_cons (pv 0) (pa_cons (pe_bltn (v := .ty "bool") (by rfl) T.n_bool (by decide +kernel) rfl) pa_nil))) (pe_one (pe_cmpR op_eq (pv 0) (pv 1) (nomark _)))))), ?_⟩
    walk_at "w"
    exact q

theorem ok_law_less  (T : Tp P w K mg) : Df P w K mg base ("_law_less" : Str) (1) [("one" : Str), ("two" : Str)] (spLess K) := by
  obtain ⟨f, fd, hm, F, b⟩ := T.d_law_less
  refine ⟨f, fd, hm, F.kp, b, F.ok sc_law_less (fun vs H Q E h => ?_) (fun cdv A outer s H vs Q E hr h => ?_)⟩
  · obtain ⟨a, b, ns, ms, rfl, ha, hb, hl, q⟩ := h
    rfl
  · obtain ⟨a, b, ns, ms, rfl, ha, hb, hl, q⟩ := h
    have hu := hu_of hr
    refine ⟨_, (pss_one (ps_ret (pe_callTy c_tupL (by rfl) T.n_tuple (by decide +kernel) (pa_cons (pe_lc (own := [(("item" : Str), 2)]) (g := gName 2) rfl sc_law_less.nd (pi_tup (pv 0)) (blkOk_by (N := [("one" : Str), ("two" : Str), ("item" : Str)]) (sc := defScope s_law_less) (own := [(("item" : Str), 2)]) (by decide +kernel)) (fun _ _ _ _ _ => pg_name (i := 2) sc_law_less.nd rfl (Or.inl rfl)) (fun _ _ _ _ _ => (pts_one (pt_cmpR (o_ninTC (K := K) rfl) (pv 2) (pv 1) (by rfl)))) (fun _ _ _ _ _ => (pv 2))) pa_nil)))), ?_⟩
    walk_at "w"
    refine lc_filtT (ns := ns) (fun x => !decide (x ∈ ms)) ha (by omega) (fun x H1 G Nx c1 h1 h2 => ?_) fun D H1 nD eD c1 => ?_
    · walk_at "w"
      refine w_ninTI ms (by walk_at "lkT") ?_
      walk_at "w"
      refine w_ND (fun hn => ?_) (fun hn => ?_)
      · walk_at "w"
        exact h1 (by rw [decide_eq_false hn]; rfl)
      · exact h2 (by rw [decide_eq_true hn]; rfl)
    · walk_at "w"
      rename_i t H2 n2 e2 c2
      exact q t H2 (SqT.of e2) (by walk_at "ch")

theorem ok_law_set  (T : Tp P w K mg) : Df P w K mg base ("_law_set" : Str) (1) [("lot" : Str)] (spSet K) := by
  obtain ⟨f, fd, hm, F, b⟩ := T.d_law_set
  refine ⟨f, fd, hm, F.kp, b, F.ok sc_law_set (fun vs H Q E h => ?_) (fun cdv A outer s H vs Q E hr h => ?_)⟩
  · obtain ⟨p, ns, rfl, hS, hl, q⟩ := h
    rfl
  · obtain ⟨p, ns, rfl, hS, hl, q⟩ := h
    have hu := hu_of hr
    refine ⟨_, (pss_cons (ps_set (i := 1) sc_law_set.nd rfl (Or.inl rfl) (pe_kLst pa_nil))
      (pss_cons (ps_for PassesOwn.never rfl (pi_list (pe_callB c_srtI (by rfl) T.n_sorted (by decide +kernel) (pa_cons (pv 0) pa_nil))) (pg_name (i := 2) sc_law_set.nd rfl (Or.inl rfl)) (pss_one (ps_if (PW.pt (pw_or (pt_not (pt_tru (pv 1) (by intro _; rfl))) (pw_or1 (pt_cmpR op_ne (pe_ix ix_list (pv 1) (pe_un un_neg pe_int) (fun _ _ => rfl)) (pv 2) (nomark _))))) (pss_one (ps_expr (pe_bm PySem.F.plainAttrs_list PySem.F.slot_list_append PySem.F.type_list_append m_app (pv 1) (pa_cons (pv 2) pa_nil)))) pss_nil)))
      (pss_one (ps_ret (pe_callTy c_tupL (by rfl) T.n_tuple (by decide +kernel) (pa_cons (pv 1) pa_nil)))))), ?_⟩
    walk_at "w"
    rename_i m H1 n1 e1 c1
    refine ⟨p, ns, rfl, by walk_at "lkL", fun ns' s H2 hp hs n2 e2 c2 => ?_⟩
    walk_at "w"
    refine k_list (SqL.of e2) (fun i σ H' => ∃ made v, σ = [some (.ref p), some (.ref m), v] ∧ H' m = some (.lst (made.map V.int)) ∧ Mdp ns' i made ∧ Ch [m] H2 H') ⟨[], none, rfl, by walk_at "lk", Mdp.nil, Ch.refl⟩ (fun i σ H' _ h => by obtain ⟨_, _, _, _, _, c⟩ := h; exact Ch.sqL c (SqL.of e2) (by walk_at "nin")) ?_ ?_
    · rintro i x σ H3 ex ⟨made, v, rfl, em, hm, c3⟩
      have hi : i < ns'.length := by have := (List.getElem?_eq_some_iff.mp ex).1; rwa [List.length_map] at this
      have hlen : made.length ≤ 1000 := by
        have e : made = nrm (ns'.take i) := nrm_of hm.up hm.mem
        have l1 := len_nrm (ns'.take i)
        have l2 := hp.length_eq
        rw [← e, List.length_take] at l1
        omega
      rw [List.getElem?_map] at ex
      obtain ⟨n, en, rfl⟩ := Option.map_eq_some_iff.mp ex
      obtain rfl | ⟨made', y, rfl⟩ := snoc_or made
      · walk_at "w"
        rename_i H4 e4 c4
        exact ⟨[n], _, rfl, e4, hm.add hs en (fun z => nomatch z), by walk_at "ch"⟩
      · have em' : H3 m = some (.lst (made'.map V.int ++ [V.int y])) := by rw [em, List.map_append]; rfl
        clear em
        simp only [List.length_append, List.length_cons, List.length_nil] at hlen
        walk_at "w"
        refine w_F (by simp) ?_
        walk_at "w"
        refine w_ND (fun hy => ?_) (fun hy => ?_)
        · walk_at "w"
          rename_i H4 e4 c4
          exact ⟨_, _, rfl, by rw [List.map_append, List.map_append]; exact e4, hm.add hs en (hm.last hs en hy), by walk_at "ch"⟩
        · walk_at "w"
          subst hy
          exact ⟨_, _, rfl, by rw [List.map_append]; exact em', hm.same en (List.mem_append_right _ List.mem_cons_self), c3⟩
    · rintro σ H3 ⟨made, v, rfl, em, hm, c3⟩
      rw [List.length_map] at hm
      have e := hm.fin
      rw [nrm_perm hp] at e
      subst e
      walk_at "w"
      rename_i t H4 n4 e4 c4
      exact q t H4 (SqT.of e4) (by walk_at "ch")

end
end M63


namespace M63
theorem ixN_of {n j : Nat} (h : j < n) : ixN n (j : Int) = some j := by
  unfold ixN
  rw [if_pos (Int.natCast_nonneg j), if_pos (by omega)]
  rfl
section
variable {P : Program} {w : World} {K : PySem.W.Frag} {mg : Str → Option Value} {base : Heap}

theorem ok_law_near  (T : Tp P w K mg) (D_law_pick : Df P w K mg base ("_law_pick" : Str) (1) [("draws" : Str), ("many" : Str)] (spPick)) : Df P w K mg base ("_law_near" : Str) (2) [("draws" : Str), ("lot" : Str)] (spNear) := by
  obtain ⟨f, fd, hm, F, b⟩ := T.d_law_near
  refine ⟨f, fd, hm, F.kp, b, F.ok sc_law_near (fun vs H Q E h => ?_) (fun cdv A outer s H vs Q E hr h => ?_)⟩
  · obtain ⟨l, fl, p, ns, rfl, hd, hp, hl, q⟩ := h
    rfl
  · obtain ⟨l, fl, p, ns, rfl, hd, hp, hl, q⟩ := h
    have hu := hu_of hr
    refine ⟨_, (pss_cons (ps_set (i := 2) sc_law_near.nd rfl (Or.inl rfl) (pe_callTy c_listL (by rfl) T.n_list (by decide +kernel) (pa_cons (pv 1) pa_nil)))
      (pss_cons (ps_if (pt_tru (pv 2) (by intro _; rfl)) (pss_cons (ps_set (i := 3) sc_law_near.nd rfl (Or.inl rfl) (pe_fn D_law_pick (hr.mono (by omega)) (by rfl) (pa_cons (pv 0) (pa_cons (pe_callB c_lenL (by rfl) T.n_len PySem.boot_len (pa_cons (pv 2) pa_nil)) pa_nil))))
      (pss_one (ps_asg (pe_op op_sub (pe_op op_add (pe_ix ix_list (pv 2) (pv 3) (fun _ _ => rfl)) pe_int) (pe_op op_mul pe_int (pe_fn D_law_pick (hr.mono (by omega)) (by rfl) (pa_cons (pv 0) (pa_cons pe_int pa_nil))))) (pg_sub (pv 2) (pv 3) s_lst)))) pss_nil)
      (pss_one (ps_ret (pv 2))))), ?_⟩
    have hne := hd.ne
    walk_at "w"
    rename_i m H1 n1 e1 c1
    refine w_B (fun hb => ?_) (fun hb => ?_)
    · have hb' := pos_of hb
      walk_at "w"
      refine use_pick (by walk_at "dr") (by rw [List.length_map]; omega) fun at_ H2 a0 a1 d2 c2 => ?_
      rw [List.length_map] at a1
      obtain ⟨at_, rfl⟩ := Int.eq_ofNat_of_zero_le a0
      obtain ⟨x, _, _, hx⟩ := atI_map V.int ns (a := (at_ : Int)) (by omega) (by omega)
      walk_at "w"
      refine use_pick (by walk_at "dr") (by decide) fun b H3 b0 b1 d3 c3 => ?_
      have hix : ixN (ns.map V.int).length (at_ : Int) = some at_ := ixN_of (by rw [List.length_map]; omega)
      walk_at "w"
      rename_i H4 e4 c4
      exact q m (ns.set at_ (x + 1 - 2 * b)) H4 (by walk_at "no") (by rw [List.map_set]; exact e4) (List.length_set) (by walk_at "dr") (by walk_at "ch")
    · obtain rfl : ns = [] := by
        cases ns with
        | nil => rfl
        | cons _ _ => cases hb
      walk_at "w"
      exact q m [] H1 n1 e1 rfl (by walk_at "dr") (by walk_at "ch")

end
end M63


namespace M63
section
variable {P : Program} {w : World} {K : PySem.W.Frag} {mg : Str → Option Value} {base : Heap}

theorem ok_law_lot  (T : Tp P w K mg) (D_law_pick : Df P w K mg base ("_law_pick" : Str) (1) [("draws" : Str), ("many" : Str)] (spPick)) : Df P w K mg base ("_law_lot" : Str) (2) [("draws" : Str)] (spLot) := by
  obtain ⟨f, fd, hm, F, b⟩ := T.d_law_lot
  refine ⟨f, fd, hm, F.kp, b, F.ok sc_law_lot (fun vs H Q E h => ?_) (fun cdv A outer s H vs Q E hr h => ?_)⟩
  · obtain ⟨l, fl, rfl, hd, q⟩ := h
    rfl
  · obtain ⟨l, fl, rfl, hd, q⟩ := h
    have hu := hu_of hr
    refine ⟨_, (pss_cons (ps_set (i := 1) sc_law_lot.nd rfl (Or.inl rfl) (pe_ix ix_list (pe_kLst (pa_cons pe_int (pa_cons pe_int (pa_cons pe_int (pa_cons pe_int (pa_cons pe_int (pa_cons pe_int (pa_cons pe_int (pa_cons pe_int pa_nil))))))))) (pe_fn D_law_pick (hr.mono (by omega)) (by rfl) (pa_cons (pv 0) (pa_cons pe_int pa_nil))) (fun _ _ => rfl)))
      (pss_cons (ps_set (i := 2) sc_law_lot.nd rfl (Or.inl rfl) (pe_fn D_law_pick (hr.mono (by omega)) (by rfl) (pa_cons (pv 0) (pa_cons pe_int pa_nil))))
      (pss_cons (ps_set (i := 3) sc_law_lot.nd rfl (Or.inl rfl) (pe_kLst pa_nil))
      (pss_cons (ps_for PassesOwn.never rfl (pi_range1 rfl T.n_range (pa_cons (pv 1) pa_nil)) (pg_name (i := 4) sc_law_lot.nd rfl (Or.inl rfl)) (pss_cons (ps_set (i := 5) sc_law_lot.nd rfl (Or.inl rfl) (pe_fn D_law_pick (hr.mono (by omega)) (by rfl) (pa_cons (pv 0) (pa_cons pe_int pa_nil))))
      (pss_cons (ps_if (pt_cmpR op_eq (pv 2) pe_int (nomark _)) (pss_one (ps_set (i := 5) sc_law_lot.nd rfl (Or.inl rfl) (pe_op op_mod (pe_callTy c_int (by rfl) T.n_int (by decide +kernel) (pa_cons (pv 5) pa_nil)) pe_int))) pss_nil)
      (pss_cons (ps_if (pt_cmpR op_eq (pv 2) pe_int (nomark _)) (pss_one (ps_set (i := 5) sc_law_lot.nd rfl (Or.inl rfl) (pe_op op_add (pe_op op_mul (pv 5) pe_int) (pe_fn D_law_pick (hr.mono (by omega)) (by rfl) (pa_cons (pv 0) (pa_cons pe_int pa_nil)))))) pss_nil)
      (pss_cons (ps_if (pt_cmpR op_eq (pv 2) pe_int (nomark _)) (pss_one (ps_set (i := 5) sc_law_lot.nd rfl (Or.inl rfl) (pe_op op_add (pe_op op_mul (pe_op op_sub (pv 5) pe_int) (pe_op op_pow pe_int pe_int)) (pe_fn D_law_pick (hr.mono (by omega)) (by rfl) (pa_cons (pv 0) (pa_cons pe_int pa_nil)))))) pss_nil)
      (pss_cons (ps_if (PW.pt (pw_and (pt_tru (pv 3) (by intro _; rfl)) (pw_and1 (pt_cmpR op_eq (pe_fn D_law_pick (hr.mono (by omega)) (by rfl) (pa_cons (pv 0) (pa_cons pe_int pa_nil))) pe_int (nomark _))))) (pss_one (ps_set (i := 5) sc_law_lot.nd rfl (Or.inl rfl) (pe_ix ix_list (pv 3) (pe_fn D_law_pick (hr.mono (by omega)) (by rfl) (pa_cons (pv 0) (pa_cons (pe_callB c_lenL (by rfl) T.n_len PySem.boot_len (pa_cons (pv 3) pa_nil)) pa_nil))) (fun _ _ => rfl)))) pss_nil)
      (pss_one (ps_expr (pe_bm PySem.F.plainAttrs_list PySem.F.slot_list_append PySem.F.type_list_append m_app (pv 3) (pa_cons (pv 5) pa_nil))))))))))
      (pss_one (ps_ret (pv 3))))))), ?_⟩
    have hne := hd.ne
    walk_at "w"
    rename_i tb H1 n1 e1 c1
    refine use_pick (by walk_at "dr") (by decide) fun k0 H2 k00 k01 d2 c2 => ?_
    obtain ⟨many, _, hmem, hx⟩ := atI_map V.int [0, 1, 2, 3, 5, 8, 12, 30] k00 (by exact k01)
    have hm : 0 ≤ many ∧ many ≤ 30 := by
      simp only [List.mem_cons, List.not_mem_nil, or_false] at hmem
      omega
    refine w_ixL (xs := [0, 1, 2, 3, 5, 8, 12, 30].map V.int) (by walk_at "lkL") hx ?_
    walk_at "w"
    refine use_pick (by walk_at "dr") (by decide) fun wide H3 w0 w1 d3 c3 => ?_
    walk_at "w"
    rename_i mp H4 n4 e4 c4
    refine k_rng many.toNat rfl (by omega) (by omega) (fun i σ H' => ∃ (ms : List Int) (v4 v5 : Option V), σ = [some (.ref l), some (.int many), some (.int wide), some (.ref mp), v4, v5] ∧ H' mp = some (.lst (ms.map V.int)) ∧ ms.length = i ∧ Dr H' l fl ∧ Ch [l, mp] H4 H') ⟨[], none, none, rfl, e4, rfl, by walk_at "dr", Ch.refl⟩ ?_ ?_
    · rintro i σ H5 hi ⟨ms, v4, v5, rfl, em, hlen, d5, c5⟩
      have hl30 : ms.length ≤ 30 := by omega
      walk_at "w"
      refine use_pick d5 (by decide) fun one H6 o0 o1 d6 c6 => ?_
      walk_at "w"
      have em6 : H6 mp = some (.lst (ms.map V.int)) := by walk_at "lk"
      have c46 : Ch [l, mp] H4 H6 := by walk_at "ch"
      have hw : wide = 3 ∨ wide = 0 ∨ wide = 1 ∨ wide = 2 := by omega
      rcases hw with rfl | rfl | rfl | rfl
      · walk_at "w"
        have em7 := em6; have d7 := d6; have c47 := c46
        refine w_B (fun hb => ?_) (fun hb => ?_)
        · have hb' := pos_of hb
          walk_at "w"
          refine use_pick d7 (by decide) fun o3 H8 _ _ d8 c8 => ?_
          have em8 : H8 mp = some (.lst (ms.map V.int)) := by walk_at "lk"
          have c48 : Ch [l, mp] H4 H8 := by walk_at "ch"
          walk_at "w"
          refine w_D (fun h3 => ?_) (fun h3 => ?_)
          · walk_at "w"
            refine use_pick d8 (by rw [List.length_map]; omega) fun o4 H9 p0 p1 d9 c9 => ?_
            rw [List.length_map] at p1
            obtain ⟨x, _, _, hx9⟩ := atI_map V.int ms (a := o4) p0 p1
            have em9 : H9 mp = some (.lst (ms.map V.int)) := by walk_at "lk"
            walk_at "w"
            rename_i H10 e10 c10
            exact ⟨ms ++ [_], _, _, rfl, by rw [List.map_append]; exact e10, by rw [List.length_append, hlen]; rfl, by walk_at "dr", by walk_at "ch"⟩
          · walk_at "w"
            rename_i H10 e10 c10
            exact ⟨ms ++ [_], _, _, rfl, by rw [List.map_append]; exact e10, by rw [List.length_append, hlen]; rfl, by walk_at "dr", by walk_at "ch"⟩
        · refine w_F rfl ?_
          walk_at "w"
          rename_i H10 e10 c10
          exact ⟨ms ++ [_], _, _, rfl, by rw [List.map_append]; exact e10, by rw [List.length_append, hlen]; rfl, by walk_at "dr", by walk_at "ch"⟩
      · walk_at "w"
        have em7 := em6; have d7 := d6; have c47 := c46
        refine w_B (fun hb => ?_) (fun hb => ?_)
        · have hb' := pos_of hb
          walk_at "w"
          refine use_pick d7 (by decide) fun o3 H8 _ _ d8 c8 => ?_
          have em8 : H8 mp = some (.lst (ms.map V.int)) := by walk_at "lk"
          have c48 : Ch [l, mp] H4 H8 := by walk_at "ch"
          walk_at "w"
          refine w_D (fun h3 => ?_) (fun h3 => ?_)
          · walk_at "w"
            refine use_pick d8 (by rw [List.length_map]; omega) fun o4 H9 p0 p1 d9 c9 => ?_
            rw [List.length_map] at p1
            obtain ⟨x, _, _, hx9⟩ := atI_map V.int ms (a := o4) p0 p1
            have em9 : H9 mp = some (.lst (ms.map V.int)) := by walk_at "lk"
            walk_at "w"
            rename_i H10 e10 c10
            exact ⟨ms ++ [_], _, _, rfl, by rw [List.map_append]; exact e10, by rw [List.length_append, hlen]; rfl, by walk_at "dr", by walk_at "ch"⟩
          · walk_at "w"
            rename_i H10 e10 c10
            exact ⟨ms ++ [_], _, _, rfl, by rw [List.map_append]; exact e10, by rw [List.length_append, hlen]; rfl, by walk_at "dr", by walk_at "ch"⟩
        · refine w_F rfl ?_
          walk_at "w"
          rename_i H10 e10 c10
          exact ⟨ms ++ [_], _, _, rfl, by rw [List.map_append]; exact e10, by rw [List.length_append, hlen]; rfl, by walk_at "dr", by walk_at "ch"⟩
      · walk_at "w"
        refine use_pick d6 (by decide) fun o2 H7 _ _ d7 c7 => ?_
        have em7 : H7 mp = some (.lst (ms.map V.int)) := by walk_at "lk"
        have c47 : Ch [l, mp] H4 H7 := by walk_at "ch"
        walk_at "w"
        refine w_B (fun hb => ?_) (fun hb => ?_)
        · have hb' := pos_of hb
          walk_at "w"
          refine use_pick d7 (by decide) fun o3 H8 _ _ d8 c8 => ?_
          have em8 : H8 mp = some (.lst (ms.map V.int)) := by walk_at "lk"
          have c48 : Ch [l, mp] H4 H8 := by walk_at "ch"
          walk_at "w"
          refine w_D (fun h3 => ?_) (fun h3 => ?_)
          · walk_at "w"
            refine use_pick d8 (by rw [List.length_map]; omega) fun o4 H9 p0 p1 d9 c9 => ?_
            rw [List.length_map] at p1
            obtain ⟨x, _, _, hx9⟩ := atI_map V.int ms (a := o4) p0 p1
            have em9 : H9 mp = some (.lst (ms.map V.int)) := by walk_at "lk"
            walk_at "w"
            rename_i H10 e10 c10
            exact ⟨ms ++ [_], _, _, rfl, by rw [List.map_append]; exact e10, by rw [List.length_append, hlen]; rfl, by walk_at "dr", by walk_at "ch"⟩
          · walk_at "w"
            rename_i H10 e10 c10
            exact ⟨ms ++ [_], _, _, rfl, by rw [List.map_append]; exact e10, by rw [List.length_append, hlen]; rfl, by walk_at "dr", by walk_at "ch"⟩
        · refine w_F rfl ?_
          walk_at "w"
          rename_i H10 e10 c10
          exact ⟨ms ++ [_], _, _, rfl, by rw [List.map_append]; exact e10, by rw [List.length_append, hlen]; rfl, by walk_at "dr", by walk_at "ch"⟩
      · walk_at "w"
        refine use_pick d6 (by decide) fun o2 H7 _ _ d7 c7 => ?_
        have em7 : H7 mp = some (.lst (ms.map V.int)) := by walk_at "lk"
        have c47 : Ch [l, mp] H4 H7 := by walk_at "ch"
        walk_at "w"
        refine w_B (fun hb => ?_) (fun hb => ?_)
        · have hb' := pos_of hb
          walk_at "w"
          refine use_pick d7 (by decide) fun o3 H8 _ _ d8 c8 => ?_
          have em8 : H8 mp = some (.lst (ms.map V.int)) := by walk_at "lk"
          have c48 : Ch [l, mp] H4 H8 := by walk_at "ch"
          walk_at "w"
          refine w_D (fun h3 => ?_) (fun h3 => ?_)
          · walk_at "w"
            refine use_pick d8 (by rw [List.length_map]; omega) fun o4 H9 p0 p1 d9 c9 => ?_
            rw [List.length_map] at p1
            obtain ⟨x, _, _, hx9⟩ := atI_map V.int ms (a := o4) p0 p1
            have em9 : H9 mp = some (.lst (ms.map V.int)) := by walk_at "lk"
            walk_at "w"
            rename_i H10 e10 c10
            exact ⟨ms ++ [_], _, _, rfl, by rw [List.map_append]; exact e10, by rw [List.length_append, hlen]; rfl, by walk_at "dr", by walk_at "ch"⟩
          · walk_at "w"
            rename_i H10 e10 c10
            exact ⟨ms ++ [_], _, _, rfl, by rw [List.map_append]; exact e10, by rw [List.length_append, hlen]; rfl, by walk_at "dr", by walk_at "ch"⟩
        · refine w_F rfl ?_
          walk_at "w"
          rename_i H10 e10 c10
          exact ⟨ms ++ [_], _, _, rfl, by rw [List.map_append]; exact e10, by rw [List.length_append, hlen]; rfl, by walk_at "dr", by walk_at "ch"⟩
    · rintro σ H5 ⟨ms, v4, v5, rfl, em, hlen, d5, c5⟩
      walk_at "w"
      have : (ms.length : Int) = many := by omega
      exact q mp ms H5 (by walk_at "no") em (by rw [this]; exact hmem) d5 (by walk_at "ch")

end
end M63


namespace M63
section
variable {P : Program} {w : World} {K : PySem.W.Frag} {mg : Str → Option Value} {base : Heap}

theorem ok_law_is  (T : Tp P w K mg) (D_Marks___len : Dm P w K mg base T.C_Marks ("__len__" : Str) (1) [("self" : Str)] (spLen K T.C_Marks)) (D_Marks___iter : Dm P w K mg base T.C_Marks ("__iter__" : Str) (1) [("self" : Str)] (spIter K T.C_Marks)) : Df P w K mg base ("_law_is" : Str) (5) [("marks" : Str), ("due" : Str)] (spIs K T.C_Marks) := by
  obtain ⟨f, fd, hm, F, b⟩ := T.d_law_is
  refine ⟨f, fd, hm, F.kp, b, F.ok sc_law_is (fun vs H Q E h => ?_) (fun cdv A outer s H vs Q E hr h => ?_)⟩
  · obtain ⟨a, d, ns, rfl, hm, hdue, hl, q⟩ := h
    rfl
  · obtain ⟨a, d, ns, rfl, hm, hdue, hl, q⟩ := h
    have hu := hu_of hr
    refine ⟨_, (pss_cons (ps_if (PW.pt (pw_or (pt_not (pt_val (pe_callB c_isi (by rfl) T.n_isinstance (by decide +kernel) (pa_cons (pv 0) (pa_cons (pe_glob (v := .ref T.C_Marks) rfl T.g_Marks (Vals.rf _)) pa_nil))))) (pw_or1 (pt_not (pt_val (pe_callB c_isi (by rfl) T.n_isinstance (by decide +kernel) (pa_cons (pe_kGet (pv 0) rfl) (pa_cons (pe_bltn (v := .ty "tuple") (by rfl) T.n_tuple (by decide +kernel) rfl) pa_nil)))))))) (pss_one (ps_ret pe_bl)) pss_nil)
      (pss_cons (ps_set (i := 2) sc_law_is.nd rfl (Or.inl rfl) (pe_kGet (pv 0) rfl))
      (pss_cons (ps_set (i := 3) sc_law_is.nd rfl (Or.inl rfl) (pe_callTy (c_listOwn rfl rfl D_Marks___iter D_Marks___len (hr.mono (by omega))) (by rfl) T.n_list (by decide +kernel) (pa_cons (pv 0) pa_nil)))
      (pss_cons (ps_if (PW.pt (pw_or (pt_cmpR op_ne (pe_callB c_lenT (by rfl) T.n_len PySem.boot_len (pa_cons (pv 2) pa_nil)) (pe_callB c_lenT (by rfl) T.n_len PySem.boot_len (pa_cons (pv 1) pa_nil)) (nomark _)) (pw_or (pt_cmpR op_ne (pe_callB c_lenL (by rfl) T.n_len PySem.boot_len (pa_cons (pv 3) pa_nil)) (pe_callB c_lenT (by rfl) T.n_len PySem.boot_len (pa_cons (pv 1) pa_nil)) (nomark _)) (pw_or1 (pt_cmpR op_ne (pe_callB (c_ownLen D_Marks___len (hr.mono (by omega))) (by rfl) T.n_len PySem.boot_len (pa_cons (pv 0) pa_nil)) (pe_callB c_lenT (by rfl) T.n_len PySem.boot_len (pa_cons (pv 1) pa_nil)) (nomark _)))))) (pss_one (ps_ret pe_bl)) pss_nil)
      (pss_cons (ps_for PassesOwn.never rfl (pi_range1 rfl T.n_range (pa_cons (pe_callB c_lenT (by rfl) T.n_len PySem.boot_len (pa_cons (pv 1) pa_nil)) pa_nil)) (pg_name (i := 4) sc_law_is.nd rfl (Or.inl rfl)) (pss_one (ps_for PassesOwn.never rfl (pi_list (pe_kLst (pa_cons (pe_ix ix_tup (pv 2) (pv 4) (fun _ _ => rfl)) (pa_cons (pe_ix ix_list (pv 3) (pv 4) (fun _ _ => rfl)) pa_nil)))) (pg_name (i := 5) sc_law_is.nd rfl (Or.inl rfl)) (pss_one (ps_if (PW.pt (pw_or (pt_not (pt_val (pe_callB c_isi (by rfl) T.n_isinstance (by decide +kernel) (pa_cons (pv 5) (pa_cons (pe_bltn (v := .ty "int") (by rfl) T.n_int (by decide +kernel) rfl) pa_nil))))) (pw_or (pt_val (pe_callB c_isi (by rfl) T.n_isinstance (by decide +kernel) (pa_cons (pv 5) (pa_cons (pe_bltn (v := .ty "bool") (by rfl) T.n_bool (by decide +kernel) rfl) pa_nil)))) (pw_or1 (pt_cmpR op_ne (pv 5) (pe_ix ix_tup (pv 1) (pv 4) (fun _ _ => rfl)) (nomark _)))))) (pss_one (ps_ret pe_bl)) pss_nil)))))
      (pss_one (ps_ret pe_bl))))))), ?_⟩
    have hcl := T.cl_Marks; have hna := T.na_Marks_lines; have how := T.ow_Marks
    obtain ⟨dx, p, ha, ta⟩ := id hm
    walk_at "w"
    refine use_lstOwn hm hl Gr.refl fun lw H1 n1 e1 c1 => ?_
    have hm1 := hm.ch c1
    walk_at "w"
    refine w_F (by simp) ?_
    walk_at "w"
    refine w_F (by simp) ?_
    walk_at "w"
    refine use_ownLen hm1 hl ?_
    walk_at "w"
    refine w_F (by simp) ?_
    walk_at "w"
    refine k_rng ns.length (by rw [List.length_map]; exact Int.toNat_natCast _) (by rw [List.length_map]; omega) (by rw [List.length_map]; omega)
      (fun i σ H' => ∃ v4 v5, σ = [some (.ref a), some (.ref d), some (.ref p), some (.ref lw), v4, v5] ∧ Ch [] H1 H') ⟨none, none, rfl, Ch.refl⟩ ?_ ?_
    · rintro i σ H2 hi ⟨v4, v5, rfl, c2⟩
      obtain ⟨n, _, _, hx⟩ := atI_map V.int ns (a := (i : Int)) (by omega) (by omega)
      walk_at "w"
      rename_i r H3 n3 e3 c3
      refine k_list (SqL.of e3) (fun j σ H' => ∃ v5, σ = [some (.ref a), some (.ref d), some (.ref p), some (.ref lw), some (.int i), v5] ∧ H' = H3) ⟨_, rfl, rfl⟩ (fun j σ H' _ h => by obtain ⟨_, _, rfl⟩ := h; exact SqL.of e3) ?_ ?_
      · rintro j x σ H4 ex ⟨v5, rfl, rfl⟩
        obtain rfl : x = .int n := by
          match j, ex with
          | 0, ex => exact (Option.some.inj ex).symm
          | 1, ex => exact (Option.some.inj ex).symm
        walk_at "w"
        refine w_F (by simp) ?_
        walk_at "w"
        exact ⟨_, rfl, rfl⟩
      · rintro σ H4 ⟨v5, rfl, rfl⟩
        walk_at "w"
        exact ⟨_, _, rfl, by walk_at "ch"⟩
    · rintro σ H2 ⟨v4, v5, rfl, c2⟩
      walk_at "w"
      exact q H2 (by walk_at "ch")

end
end M63


namespace M63
local macro_rules | `(tactic| walk_at "mk") => `(tactic| first
  | assumption
  | exact Mk.ch (by assumption) (by walk_at "mk"))
theorem use_own2 {K : PySem.W.Frag} {H : Hp} {C a b : Addr} {ns ms : List Int} {sp : Sp} {Q : VK} (ma : Mk K C H a ns) (mb : Mk K C H b ms) (q : sp [.ref a, .ref b] H Q E0) : qOwn2 C sp (.ref a) (.ref b) H Q := by
  obtain ⟨dx, p, e, t⟩ := ma
  obtain ⟨dy, p2, e2, t2⟩ := mb
  exact ⟨a, b, dx, dy, _, _, rfl, rfl, e, e2, q⟩
theorem use_has {K : PySem.W.Frag} {H : Hp} {C a : Addr} {ns : List Int} {x : Int} {Q : VK} (ma : Mk K C H a ns) (q : Q (.bl (decide (x ∈ ns))) H) : qOwnIn C (spHas K C) (.int x) (.ref a) H Q := by
  obtain ⟨dx, p, e, t⟩ := id ma
  exact ⟨a, dx, _, rfl, e, a, ns, x, rfl, ma, _, rfl, q⟩
theorem shape : ∀ (ns : List Int), (ns.length : Int) ∈ ([0, 1, 2, 3, 5, 8, 12, 30] : List Int) → ns = [] ∨ (∃ a, ns = [a]) ∨ (∃ a b, ns = [a, b]) ∨ (∃ a b c, ns = [a, b, c]) ∨ (∃ a b c d e, ns = [a, b, c, d, e]) ∨ ∃ a b c d e f g h r, ns = a :: b :: c :: d :: e :: f :: g :: h :: r
  | [], _ => .inl rfl
  | [a], _ => .inr (.inl ⟨_, rfl⟩)
  | [a, b], _ => .inr (.inr (.inl ⟨_, _, rfl⟩))
  | [a, b, c], _ => .inr (.inr (.inr (.inl ⟨_, _, _, rfl⟩)))
  | [a, b, c, d], h => absurd h (by simp)
  | [a, b, c, d, e], _ => .inr (.inr (.inr (.inr (.inl ⟨_, _, _, _, _, rfl⟩))))
  | [a, b, c, d, e, f], h => absurd h (by simp)
  | [a, b, c, d, e, f, g], h => absurd h (by simp)
  | a :: b :: c :: d :: e :: f :: g :: h :: r, _ => .inr (.inr (.inr (.inr (.inr ⟨_, _, _, _, _, _, _, _, _, rfl⟩))))
def spPair (K : PySem.W.Frag) (C : Addr) : Sp := fun vs H Q _ => ∃ (a b c d : Addr) (ns ms : List Int), vs = [.ref a, .ref b, .ref c, .ref d] ∧ Mk K C H a ns ∧ Mk K C H b ms ∧ SqT K H c (ns.map V.int) ∧ SqT K H d (ms.map V.int) ∧ (Up ns ∧ Up ms) ∧ ns.length + ms.length < 64 ∧ ∀ H', Ch [] H H' → Q (.bl true) H'
def spLof (K : PySem.W.Frag) (C : Addr) : Sp := fun vs H Q _ => ∃ (p : Addr) (ns : List Int), vs = [.ref p] ∧ SqL K H p (ns.map V.int) ∧ (ns.length : Int) ∈ ([0, 1, 2, 3, 5, 8, 12, 30] : List Int) ∧ ∀ a H', Mk K C H' a (nrm (ns.take 8)) → Ch [] H H' → Q (.ref a) H'
def spWalked (K : PySem.W.Frag) (C : Addr) : Sp := fun vs H Q _ => ∃ (a d : Addr) (ns : List Int), vs = [.ref a, .ref d] ∧ Mk K C H a ns ∧ SqT K H d (ns.map V.int) ∧ ∀ H', Ch [] H H' → Q (.bl true) H'
section
variable {P : Program} {w : World} {K : PySem.W.Frag} {mg : Str → Option Value} {base : Heap}

theorem ok_law_walked  (T : Tp P w K mg) (D_Marks___contains : Dm P w K mg base T.C_Marks ("__contains__" : Str) (1) [("self" : Str), ("line" : Str)] (spHas K T.C_Marks)) : Df P w K mg base ("_law_walked" : Str) (2) [("marks" : Str), ("lot" : Str)] (spWalked K T.C_Marks) := by
  obtain ⟨f, fd, hm, F, b⟩ := T.d_law_walked
  refine ⟨f, fd, hm, F.kp, b, F.ok sc_law_walked (fun vs H Q E h => ?_) (fun cdv A outer s H vs Q E hr h => ?_)⟩
  · obtain ⟨a, d, ns, rfl, hm, hd, q⟩ := h
    rfl
  · obtain ⟨a, d, ns, rfl, hm, hd, q⟩ := h
    have hu := hu_of hr
    refine ⟨_, (pss_cons (ps_for PassesOwn.never rfl (pi_tup (pv 1)) (pg_name (i := 2) sc_law_walked.nd rfl (Or.inl rfl)) (pss_one (ps_for PassesOwn.never rfl (pi_list (pe_kLst (pa_cons (pe_op op_sub (pv 2) pe_int) (pa_cons (pv 2) (pa_cons (pe_op op_add (pv 2) pe_int) pa_nil))))) (pg_name (i := 3) sc_law_walked.nd rfl (Or.inl rfl)) (pss_one (ps_if (pt_cmpR op_ne (pe_cmpR (o_ownIn D_Marks___contains (hr.mono (by omega))) (pv 3) (pv 0) (by rfl)) (pe_cmpR o_inT (pv 3) (pv 1) (by rfl)) (nomark _)) (pss_one (ps_ret pe_bl)) pss_nil)))))
      (pss_one (ps_ret (pe_cmpR op_eq (pe_cmpR (o_ownIn D_Marks___contains (hr.mono (by omega))) pe_int (pv 0) (by rfl)) (pe_cmpR o_inT pe_int (pv 1) (by rfl)) (nomark _))))), ?_⟩
    walk_at "w"
    refine k_tup hd (fun i σ H' => ∃ v2 v3, σ = [some (.ref a), some (.ref d), v2, v3] ∧ Ch [] H H') ⟨none, none, rfl, Ch.refl⟩ (fun i σ H' _ h => by obtain ⟨_, _, _, c⟩ := h; exact c.sqT hd) ?_ ?_
    · rintro i x σ H1 ex ⟨v2, v3, rfl, c1⟩
      rw [List.getElem?_map] at ex
      obtain ⟨n, en, rfl⟩ := Option.map_eq_some_iff.mp ex
      walk_at "w"
      rename_i r H2 n2 e2 c2
      refine k_list (SqL.of e2) (fun j σ H' => ∃ v3, σ = [some (.ref a), some (.ref d), some (.int n), v3] ∧ H' = H2) ⟨_, rfl, rfl⟩ (fun j σ H' _ h => by obtain ⟨_, _, rfl⟩ := h; exact SqL.of e2) ?_ ?_
      · rintro j x σ H4 ex ⟨v3, rfl, rfl⟩
        obtain ⟨y, rfl⟩ : ∃ y, x = .int y := by
          match j, ex with
          | 0, ex => exact ⟨_, (Option.some.inj ex).symm⟩
          | 1, ex => exact ⟨_, (Option.some.inj ex).symm⟩
          | 2, ex => exact ⟨_, (Option.some.inj ex).symm⟩
        walk_at "w"
        refine use_has (by walk_at "mk") ?_
        walk_at "w"
        refine w_inTI ns (by walk_at "lkT") ?_
        walk_at "w"
        refine w_F (bne_self_eq_false _) ?_
        walk_at "w"
        exact ⟨_, rfl, rfl⟩
      · rintro σ H4 ⟨v3, rfl, rfl⟩
        walk_at "w"
        exact ⟨_, _, rfl, by walk_at "ch"⟩
    · rintro σ H1 ⟨v2, v3, rfl, c1⟩
      walk_at "w"
      refine use_has (by walk_at "mk") ?_
      walk_at "w"
      refine w_inTI ns (by walk_at "lkT") ?_
      walk_at "w"
      rw [beq_self_eq_true]
      exact q H1 c1

theorem ok_law_of  (T : Tp P w K mg) (D_Marks_of : FnR P w K mg base CX0 (3) T.f_Marks_of (spOf K T.C_Marks)) : Df P w K mg base ("_law_of" : Str) (4) [("lot" : Str)] (spLof K T.C_Marks) := by
  obtain ⟨f, fd, hm, F, b⟩ := T.d_law_of
  refine ⟨f, fd, hm, F.kp, b, F.ok sc_law_of (fun vs H Q E h => ?_) (fun cdv A outer s H vs Q E hr h => ?_)⟩
  · obtain ⟨p, ns, rfl, hs, hl, q⟩ := h
    rfl
  · obtain ⟨p, ns, rfl, hs, hl, q⟩ := h
    have hu := hu_of hr
    refine ⟨_, (pss_cons (ps_if (pt_cmpR op_eq (pe_callB c_lenL (by rfl) T.n_len PySem.boot_len (pa_cons (pv 0) pa_nil)) pe_int (nomark _)) (pss_one (ps_ret (pe_sm0 (pe_glob (v := .ref T.C_Marks) rfl T.g_Marks (Vals.rf _)) T.sm_Marks_of D_Marks_of (hr.mono (by omega))))) pss_nil)
      (pss_cons (ps_if (pt_cmpR op_eq (pe_callB c_lenL (by rfl) T.n_len PySem.boot_len (pa_cons (pv 0) pa_nil)) pe_int (nomark _)) (pss_one (ps_ret (pe_sm (pe_glob (v := .ref T.C_Marks) rfl T.g_Marks (Vals.rf _)) T.sm_Marks_of D_Marks_of (hr.mono (by omega)) (pa_cons (pe_ix ix_list (pv 0) pe_int (fun _ _ => rfl)) pa_nil)))) pss_nil)
      (pss_cons (ps_if (pt_cmpR op_eq (pe_callB c_lenL (by rfl) T.n_len PySem.boot_len (pa_cons (pv 0) pa_nil)) pe_int (nomark _)) (pss_one (ps_ret (pe_sm (pe_glob (v := .ref T.C_Marks) rfl T.g_Marks (Vals.rf _)) T.sm_Marks_of D_Marks_of (hr.mono (by omega)) (pa_cons (pe_ix ix_list (pv 0) pe_int (fun _ _ => rfl)) (pa_cons (pe_ix ix_list (pv 0) pe_int (fun _ _ => rfl)) pa_nil))))) pss_nil)
      (pss_cons (ps_if (pt_cmpR op_eq (pe_callB c_lenL (by rfl) T.n_len PySem.boot_len (pa_cons (pv 0) pa_nil)) pe_int (nomark _)) (pss_one (ps_ret (pe_sm (pe_glob (v := .ref T.C_Marks) rfl T.g_Marks (Vals.rf _)) T.sm_Marks_of D_Marks_of (hr.mono (by omega)) (pa_cons (pe_ix ix_list (pv 0) pe_int (fun _ _ => rfl)) (pa_cons (pe_ix ix_list (pv 0) pe_int (fun _ _ => rfl)) (pa_cons (pe_ix ix_list (pv 0) pe_int (fun _ _ => rfl)) pa_nil)))))) pss_nil)
      (pss_cons (ps_if (pt_cmpR op_eq (pe_callB c_lenL (by rfl) T.n_len PySem.boot_len (pa_cons (pv 0) pa_nil)) pe_int (nomark _)) (pss_one (ps_ret (pe_sm (pe_glob (v := .ref T.C_Marks) rfl T.g_Marks (Vals.rf _)) T.sm_Marks_of D_Marks_of (hr.mono (by omega)) (pa_cons (pe_ix ix_list (pv 0) pe_int (fun _ _ => rfl)) (pa_cons (pe_ix ix_list (pv 0) pe_int (fun _ _ => rfl)) (pa_cons (pe_ix ix_list (pv 0) pe_int (fun _ _ => rfl)) (pa_cons (pe_ix ix_list (pv 0) pe_int (fun _ _ => rfl)) (pa_cons (pe_ix ix_list (pv 0) pe_int (fun _ _ => rfl)) pa_nil)))))))) pss_nil)
      (pss_one (ps_ret (pe_sm (pe_glob (v := .ref T.C_Marks) rfl T.g_Marks (Vals.rf _)) T.sm_Marks_of D_Marks_of (hr.mono (by omega)) (pa_cons (pe_ix ix_list (pv 0) pe_int (fun _ _ => rfl)) (pa_cons (pe_ix ix_list (pv 0) pe_int (fun _ _ => rfl)) (pa_cons (pe_ix ix_list (pv 0) pe_int (fun _ _ => rfl)) (pa_cons (pe_ix ix_list (pv 0) pe_int (fun _ _ => rfl)) (pa_cons (pe_ix ix_list (pv 0) pe_int (fun _ _ => rfl)) (pa_cons (pe_ix ix_list (pv 0) pe_int (fun _ _ => rfl)) (pa_cons (pe_ix ix_list (pv 0) pe_int (fun _ _ => rfl)) (pa_cons (pe_ix ix_list (pv 0) pe_int (fun _ _ => rfl)) pa_nil)))))))))))))))), ?_⟩
    have hcl := T.cl_Marks; have hna := T.na_Marks_lines; have how := T.ow_Marks
    walk_at "w"
    obtain rfl | ⟨x1, rfl⟩ | ⟨x1, x2, rfl⟩ | ⟨x1, x2, x3, rfl⟩ | ⟨x1, x2, x3, x4, x5, rfl⟩ | ⟨x1, x2, x3, x4, x5, x6, x7, x8, r, rfl⟩ := shape ns hl
    · walk_at "w"
      refine ⟨rfl, ?_⟩
      walk_at "w"
      exact ⟨[], rfl, Nat.le_of_ble_eq_true rfl, fun a' H' _ m c => q a' H' m c⟩
    · walk_at "w"
      refine ⟨rfl, ?_⟩
      walk_at "w"
      exact ⟨[x1], rfl, Nat.le_of_ble_eq_true rfl, fun a' H' _ m c => q a' H' m c⟩
    · walk_at "w"
      refine ⟨rfl, ?_⟩
      walk_at "w"
      exact ⟨[x1, x2], rfl, Nat.le_of_ble_eq_true rfl, fun a' H' _ m c => q a' H' m c⟩
    · walk_at "w"
      refine ⟨rfl, ?_⟩
      walk_at "w"
      exact ⟨[x1, x2, x3], rfl, Nat.le_of_ble_eq_true rfl, fun a' H' _ m c => q a' H' m c⟩
    · walk_at "w"
      refine ⟨rfl, ?_⟩
      walk_at "w"
      exact ⟨[x1, x2, x3, x4, x5], rfl, Nat.le_of_ble_eq_true rfl, fun a' H' _ m c => q a' H' m c⟩
    · walk_at "w"
      have h0 : atI (List.map V.int (x1 :: x2 :: x3 :: x4 :: x5 :: x6 :: x7 :: x8 :: r)) 0 = some (.int x1) := atI_nat (j := 0) rfl
      have h1 : atI (List.map V.int (x1 :: x2 :: x3 :: x4 :: x5 :: x6 :: x7 :: x8 :: r)) 1 = some (.int x2) := atI_nat (j := 1) rfl
      have h2 : atI (List.map V.int (x1 :: x2 :: x3 :: x4 :: x5 :: x6 :: x7 :: x8 :: r)) 2 = some (.int x3) := atI_nat (j := 2) rfl
      have h3 : atI (List.map V.int (x1 :: x2 :: x3 :: x4 :: x5 :: x6 :: x7 :: x8 :: r)) 3 = some (.int x4) := atI_nat (j := 3) rfl
      have h4 : atI (List.map V.int (x1 :: x2 :: x3 :: x4 :: x5 :: x6 :: x7 :: x8 :: r)) 4 = some (.int x5) := atI_nat (j := 4) rfl
      have h5 : atI (List.map V.int (x1 :: x2 :: x3 :: x4 :: x5 :: x6 :: x7 :: x8 :: r)) 5 = some (.int x6) := atI_nat (j := 5) rfl
      have h6 : atI (List.map V.int (x1 :: x2 :: x3 :: x4 :: x5 :: x6 :: x7 :: x8 :: r)) 6 = some (.int x7) := atI_nat (j := 6) rfl
      have h7 : atI (List.map V.int (x1 :: x2 :: x3 :: x4 :: x5 :: x6 :: x7 :: x8 :: r)) 7 = some (.int x8) := atI_nat (j := 7) rfl
      refine ⟨rfl, ?_⟩
      walk_at "w"
      exact ⟨[x1, x2, x3, x4, x5, x6, x7, x8], rfl, Nat.le_of_ble_eq_true rfl, fun a' H' _ m c => q a' H' m c⟩

theorem ok_law_pair  (T : Tp P w K mg) (D_law_is : Df P w K mg base ("_law_is" : Str) (5) [("marks" : Str), ("due" : Str)] (spIs K T.C_Marks)) (D_law_flag : Df P w K mg base ("_law_flag" : Str) (1) [("actual" : Str), ("due" : Str)] (spFlag)) (D_law_less : Df P w K mg base ("_law_less" : Str) (1) [("one" : Str), ("two" : Str)] (spLess K)) (D_Marks_within : Dm P w K mg base T.C_Marks ("within" : Str) (1) [("self" : Str), ("other" : Str)] (spWithin K T.C_Marks)) (D_Marks___eq : Dm P w K mg base T.C_Marks ("__eq__" : Str) (1) [("self" : Str), ("other" : Str)] (spEq K T.C_Marks)) (D_Marks___sub : Dm P w K mg base T.C_Marks ("__sub__" : Str) (3) [("self" : Str), ("other" : Str)] (spSub K T.C_Marks)) (D_law_set : Df P w K mg base ("_law_set" : Str) (1) [("lot" : Str)] (spSet K)) (D_Marks___or : Dm P w K mg base T.C_Marks ("__or__" : Str) (3) [("self" : Str), ("other" : Str)] (spOr K T.C_Marks)) : Df P w K mg base ("_law_pair" : Str) (6) [("first" : Str), ("second" : Str), ("one" : Str), ("two" : Str)] (spPair K T.C_Marks) := by
  obtain ⟨f, fd, hm, F, b⟩ := T.d_law_pair
  refine ⟨f, fd, hm, F.kp, b, F.ok sc_law_pair (fun vs H Q E h => ?_) (fun cdv A outer s H vs Q E hr h => ?_)⟩
  · obtain ⟨a, b, c, d, ns, ms, rfl, ha, hb, hc, hd, ⟨ua, ub⟩, hl, q⟩ := h
    rfl
  · obtain ⟨a, b, c, d, ns, ms, rfl, ha, hb, hc, hd, ⟨ua, ub⟩, hl, q⟩ := h
    have hu := hu_of hr
    refine ⟨_, (pss_cons (ps_if (PW.pt (pw_or (pt_not (pt_val (pe_fn D_law_is (hr.mono (by omega)) (by rfl) (pa_cons (pe_op (o_ownOr D_Marks___or T.sf_Marks (hr.mono (by omega))) (pv 0) (pv 1)) (pa_cons (pe_fn D_law_set (hr.mono (by omega)) (by rfl) (pa_cons (pe_op o_catL (pe_callTy c_listT (by rfl) T.n_list (by decide +kernel) (pa_cons (pv 2) pa_nil)) (pe_callTy c_listT (by rfl) T.n_list (by decide +kernel) (pa_cons (pv 3) pa_nil))) pa_nil)) pa_nil))))) (pw_or1 (pt_not (pt_val (pe_fn D_law_is (hr.mono (by omega)) (by rfl) (pa_cons (pe_op (o_ownSub D_Marks___sub T.sf_Marks (hr.mono (by omega))) (pv 0) (pv 1)) (pa_cons (pe_fn D_law_less (hr.mono (by omega)) (by rfl) (pa_cons (pv 2) (pa_cons (pv 3) pa_nil))) pa_nil)))))))) (pss_one (ps_ret pe_bl)) pss_nil)
      (pss_cons (ps_if (PW.pt (pw_or (pt_not (pt_val (pe_fn D_law_flag (hr.mono (by omega)) (by rfl) (pa_cons (pe_cmpR (o_ownEq D_Marks___eq (hr.mono (by omega))) (pv 0) (pv 1) (nomark _)) (pa_cons (pe_cmpR (op_eqD hr.units) (pv 2) (pv 3) (nomark _)) pa_nil))))) (pw_or1 (pt_not (pt_val (pe_fn D_law_flag (hr.mono (by omega)) (by rfl) (pa_cons (pe_mt (pv 0) T.cl_Marks D_Marks_within (hr.mono (by omega)) (pa_cons (pv 1) pa_nil)) (pa_cons (pe_cmpR (op_eqD hr.units) (pe_fn D_law_less (hr.mono (by omega)) (by rfl) (pa_cons (pv 2) (pa_cons (pv 3) pa_nil))) (pe_kTup pa_nil) (nomark _)) pa_nil)))))))) (pss_one (ps_ret pe_bl)) pss_nil)
      (pss_one (ps_ret (pe_and (pe_fn D_law_is (hr.mono (by omega)) (by rfl) (pa_cons (pv 0) (pa_cons (pv 2) pa_nil))) (pe_one (pe_fn D_law_is (hr.mono (by omega)) (by rfl) (pa_cons (pv 1) (pa_cons (pv 3) pa_nil))))))))), ?_⟩
    have hcl := T.cl_Marks; have hna := T.na_Marks_lines; have how := T.ow_Marks
    walk_at "w"
    refine use_own2 ha hb ⟨a, b, ns, ms, rfl, ha, hb, hl, fun jo H1 n1 m1 c1 => ?_⟩
    walk_at "w"
    rename_i l1 H2 n2 e2 c2 l2 H3 n3 e3 c3 l3 H4 n4 e4 c4
    rw [← List.map_append] at e4
    refine ⟨l3, ns ++ ms, rfl, SqL.of e4, by rw [List.length_append]; omega, fun t1 H5 st1 c5 => ?_⟩
    walk_at "w"
    refine ⟨jo, t1, nrm (ns ++ ms), rfl, by walk_at "mk", st1, by have := len_nrm (ns ++ ms); rw [List.length_append] at this; omega, fun H6 c6 => ?_⟩
    walk_at "w"
    have ha6 : Mk K T.C_Marks H6 a ns := by walk_at "mk"
    have hb6 : Mk K T.C_Marks H6 b ms := by walk_at "mk"
    refine use_own2 ha6 hb6 ⟨a, b, ns, ms, rfl, ha6, hb6, by omega, fun di H7 n7 m7 c7 => ?_⟩
    rw [nrm_up (up_less ua)] at m7
    walk_at "w"
    refine ⟨c, d, ns, ms, rfl, by walk_at "lkT", by walk_at "lkT", by omega, fun t2 H8 st2 c8 => ?_⟩
    walk_at "w"
    refine ⟨di, t2, less ns ms, rfl, by walk_at "mk", st2, by have := len_less ns ms; omega, fun H9 c9 => ?_⟩
    walk_at "w"
    have ha9 : Mk K T.C_Marks H9 a ns := by walk_at "mk"
    have hb9 : Mk K T.C_Marks H9 b ms := by walk_at "mk"
    refine use_own2 ha9 hb9 ⟨a, b, ns, ms, rfl, ha9, hb9, ?_⟩
    walk_at "w"
    refine w_eqT (ns := ns) (ms := ms) (by walk_at "lkT") (by walk_at "lkT") ?_
    walk_at "w"
    refine ⟨_, _, rfl, ?_⟩
    rw [beq_self_eq_true]
    obtain ⟨dx, p, ea, ta⟩ := id ha9
    walk_at "w"
    refine ⟨a, b, ns, ms, rfl, ha9, hb9, ?_⟩
    walk_at "w"
    refine ⟨c, d, ns, ms, rfl, by walk_at "lkT", by walk_at "lkT", by omega, fun t3 H10 st3 c10 => ?_⟩
    walk_at "w"
    rename_i em H11 n11 e11 c11
    refine w_eqT (ns := less ns ms) (ms := []) (by walk_at "lkT") (SqT.of e11) ?_
    walk_at "w"
    refine ⟨_, _, rfl, ?_⟩
    rw [beq_self_eq_true]
    walk_at "w"
    refine ⟨a, c, ns, rfl, by walk_at "mk", by walk_at "lkT", by omega, fun H12 c12 => ?_⟩
    walk_at "w"
    refine ⟨b, d, ms, rfl, by walk_at "mk", by walk_at "lkT", by omega, fun H13 c13 => ?_⟩
    exact q H13 (by walk_at "ch")

end
end M63


namespace M63
local macro_rules | `(tactic| walk_at "mk") => `(tactic| first
  | assumption
  | exact Mk.ch (by assumption) (by walk_at "mk")
  | exact Mk.ch' (by assumption) (by walk_at "mk") (by walk_at "nin"))
theorem w_cutS {A : Prop} {B : L2.St → Hp → Prop} (C : L2.St → Hp → Prop) (k : (∀ σ H, C σ H → B σ H) → A) (b : ∀ σ H, C σ H → B σ H) : A := k b
theorem w_noPart {σ : L2.St} {H : Hp} {R : Option Int → Hp → Prop} (h : R none H) : tNoPart σ H R := h
theorem w_part {te : TE} {σ : L2.St} {H : Hp} {R : Option Int → Hp → Prop} (h : te σ H fun x H1 => ∃ i, x = .int i ∧ R (some i) H1) : tPart te σ H R := h
theorem w_tSl {r : V → Option Int → Option Int → Hp → VK → Prop} {te : TE} {tl th : TO} {σ : L2.St} {H : Hp} {Q : VK} (h : te σ H fun x H1 => tl σ H1 fun l H2 => th σ H2 fun u H3 => r x l u H3 Q) : tSl r te tl th σ H Q := h
def spLaw (K : PySem.W.Frag) : Sp := fun vs H Q _ => ∃ (a : Addr) (ns : List Int), vs = [.ref a] ∧ FzL K H a (ns.map V.int) ∧ ns.length ≤ 63 ∧ ∀ H', Q (.bl true) H'
section
variable {P : Program} {w : World} {K : PySem.W.Frag} {mg : Str → Option Value} {base : Heap}

theorem ok_law  (T : Tp P w K mg) (D_law_is : Df P w K mg base ("_law_is" : Str) (5) [("marks" : Str), ("due" : Str)] (spIs K T.C_Marks)) (D_law_set : Df P w K mg base ("_law_set" : Str) (1) [("lot" : Str)] (spSet K)) (D_law_pair : Df P w K mg base ("_law_pair" : Str) (6) [("first" : Str), ("second" : Str), ("one" : Str), ("two" : Str)] (spPair K T.C_Marks)) (D_Marks___init : Dm P w K mg base T.C_Marks ("__init__" : Str) (1) [("self" : Str), ("lines" : Str)] (spInit K T.C_Marks)) (D_law_flag : Df P w K mg base ("_law_flag" : Str) (1) [("actual" : Str), ("due" : Str)] (spFlag)) (D_law_less : Df P w K mg base ("_law_less" : Str) (1) [("one" : Str), ("two" : Str)] (spLess K)) (D_Marks___eq : Dm P w K mg base T.C_Marks ("__eq__" : Str) (1) [("self" : Str), ("other" : Str)] (spEq K T.C_Marks)) (D_Marks___sub : Dm P w K mg base T.C_Marks ("__sub__" : Str) (3) [("self" : Str), ("other" : Str)] (spSub K T.C_Marks)) (D_Marks___or : Dm P w K mg base T.C_Marks ("__or__" : Str) (3) [("self" : Str), ("other" : Str)] (spOr K T.C_Marks)) (D_law_of : Df P w K mg base ("_law_of" : Str) (4) [("lot" : Str)] (spLof K T.C_Marks)) (D_law_walked : Df P w K mg base ("_law_walked" : Str) (2) [("marks" : Str), ("lot" : Str)] (spWalked K T.C_Marks)) (D_law_pick : Df P w K mg base ("_law_pick" : Str) (1) [("draws" : Str), ("many" : Str)] (spPick)) (D_law_near : Df P w K mg base ("_law_near" : Str) (2) [("draws" : Str), ("lot" : Str)] (spNear)) (D_law_lot : Df P w K mg base ("_law_lot" : Str) (2) [("draws" : Str)] (spLot)) (D_law_draws : Df P w K mg base ("_law_draws" : Str) (1) [("script" : Str)] (spDraws K)) {f : Addr} {fd : FuncData} (F : Fun K ("law" : Str) ("law" : Str) s_law f fd) : FnOk P w K mg base CX0 (7) f fd [("script" : Str)] (spLaw K) := by
  refine F.ok sc_law (fun vs H Q E h => ?_) (fun cdv A outer s H vs Q E hr h => ?_)
  · obtain ⟨a, ns0, rfl, hS, hlen, q⟩ := h
    rfl
  · obtain ⟨a, ns0, rfl, hS, hlen, q⟩ := h
    have hu := hu_of hr
    refine ⟨_, (pss_cons (ps_set (i := 1) sc_law.nd rfl (Or.inl rfl) (pe_fn D_law_draws (hr.mono (by omega)) (by rfl) (pa_cons (pv 0) pa_nil)))
      (pss_cons (ps_set (i := 2) sc_law.nd rfl (Or.inl rfl) (pe_fn D_law_lot (hr.mono (by omega)) (by rfl) (pa_cons (pv 1) pa_nil)))
      (pss_cons (ps_set (i := 3) sc_law.nd rfl (Or.inl rfl) (pe_fn D_law_lot (hr.mono (by omega)) (by rfl) (pa_cons (pv 1) pa_nil)))
      (pss_cons (ps_if (pt_cmpR op_eq (pe_fn D_law_pick (hr.mono (by omega)) (by rfl) (pa_cons (pv 1) (pa_cons pe_int pa_nil))) pe_int (nomark _)) (pss_one (ps_set (i := 3) sc_law.nd rfl (Or.inl rfl) (pe_fn D_law_near (hr.mono (by omega)) (by rfl) (pa_cons (pv 1) (pa_cons (pv 2) pa_nil))))) pss_nil)
      (pss_cons (ps_set (i := 4) sc_law.nd rfl (Or.inl rfl) (pe_fn D_law_set (hr.mono (by omega)) (by rfl) (pa_cons (pv 2) pa_nil)))
      (pss_cons (ps_set (i := 5) sc_law.nd rfl (Or.inl rfl) (pe_fn D_law_set (hr.mono (by omega)) (by rfl) (pa_cons (pv 3) pa_nil)))
      (pss_cons (ps_set (i := 6) sc_law.nd rfl (Or.inl rfl) (pe_callTy c_listL (by rfl) T.n_list (by decide +kernel) (pa_cons (pv 2) pa_nil)))
      (pss_cons (ps_if (pt_cmpR op_eq (pe_fn D_law_pick (hr.mono (by omega)) (by rfl) (pa_cons (pv 1) (pa_cons pe_int pa_nil))) pe_int (nomark _)) (pss_one (ps_set (i := 7) sc_law.nd rfl (Or.inl rfl) (pe_mk T.mk_Marks D_Marks___init (hr.mono (by omega)) (by rfl) T.g_Marks (pa_cons (pv 6) pa_nil)))) (pss_one (ps_set (i := 7) sc_law.nd rfl (Or.inl rfl) (pe_mk T.mk_Marks D_Marks___init (hr.mono (by omega)) (by rfl) T.g_Marks (pa_cons (pe_callTy c_tupL (by rfl) T.n_tuple (by decide +kernel) (pa_cons (pv 6) pa_nil)) pa_nil)))))
      (pss_cons (ps_set (i := 8) sc_law.nd rfl (Or.inl rfl) (pe_mk T.mk_Marks D_Marks___init (hr.mono (by omega)) (by rfl) T.g_Marks (pa_cons (pe_callTy c_listL (by rfl) T.n_list (by decide +kernel) (pa_cons (pv 3) pa_nil)) pa_nil)))
      (pss_cons (ps_if (pt_cmpR (op_neD hr.units) (pv 6) (pv 2) (nomark _)) (pss_one (ps_ret pe_bl)) pss_nil)
      (pss_cons (ps_expr (pe_bm PySem.F.plainAttrs_list PySem.F.slot_list_append PySem.F.type_list_append m_app (pv 6) (pa_cons pe_int pa_nil)))
      (pss_cons (ps_if (PW.pt (pw_or (pt_not (pt_val (pe_fn D_law_pair (hr.mono (by omega)) (by rfl) (pa_cons (pv 7) (pa_cons (pv 8) (pa_cons (pv 4) (pa_cons (pv 5) pa_nil))))))) (pw_or (pt_not (pt_val (pe_fn D_law_pair (hr.mono (by omega)) (by rfl) (pa_cons (pv 8) (pa_cons (pv 7) (pa_cons (pv 5) (pa_cons (pv 4) pa_nil))))))) (pw_or1 (pt_not (pt_val (pe_fn D_law_pair (hr.mono (by omega)) (by rfl) (pa_cons (pv 7) (pa_cons (pv 7) (pa_cons (pv 4) (pa_cons (pv 4) pa_nil))))))))))) (pss_one (ps_ret pe_bl)) pss_nil)
      (pss_cons (ps_if (PW.pt (pw_or (pt_not (pt_val (pe_fn D_law_walked (hr.mono (by omega)) (by rfl) (pa_cons (pv 7) (pa_cons (pv 4) pa_nil))))) (pw_or (pt_not (pt_val (pe_fn D_law_walked (hr.mono (by omega)) (by rfl) (pa_cons (pv 8) (pa_cons (pv 5) pa_nil))))) (pw_or1 (pt_not (pt_val (pe_fn D_law_is (hr.mono (by omega)) (by rfl) (pa_cons (pe_fn D_law_of (hr.mono (by omega)) (by rfl) (pa_cons (pv 2) pa_nil)) (pa_cons (pe_fn D_law_set (hr.mono (by omega)) (by rfl) (pa_cons (pe_slice sl_L (pv 2) po_none (po_some pe_int)) pa_nil)) pa_nil))))))))) (pss_one (ps_ret pe_bl)) pss_nil)
      (pss_cons (ps_set (i := 9) sc_law.nd rfl (Or.inl rfl) (pe_mk T.mk_Marks D_Marks___init (hr.mono (by omega)) (by rfl) T.g_Marks (pa_cons (pe_op o_catL (pe_lstRev rfl (by rfl) T.n_list (by rfl) T.n_reversed (pv 2)) (pe_callTy c_listL (by rfl) T.n_list (by decide +kernel) (pa_cons (pv 3) pa_nil))) pa_nil)))
      (pss_cons (ps_set (i := 10) sc_law.nd rfl (Or.inl rfl) (pe_op (o_ownOr D_Marks___or T.sf_Marks (hr.mono (by omega))) (pv 7) (pv 8)))
      (pss_cons (ps_if (PW.pt (pw_or (pt_not (pt_val (pe_fn D_law_flag (hr.mono (by omega)) (by rfl) (pa_cons (pe_cmpR (o_ownEq D_Marks___eq (hr.mono (by omega))) (pv 10) (pv 9) (nomark _)) (pa_cons pe_bl pa_nil))))) (pw_or1 (pt_not (pt_val (pe_fn D_law_flag (hr.mono (by omega)) (by rfl) (pa_cons (pe_cmpR (o_ownEq D_Marks___eq (hr.mono (by omega))) (pe_mk T.mk_Marks D_Marks___init (hr.mono (by omega)) (by rfl) T.g_Marks (pa_cons (pe_lstRevT rfl (by rfl) T.n_list (by rfl) T.n_reversed (pv 4)) pa_nil)) (pv 7) (nomark _)) (pa_cons pe_bl pa_nil)))))))) (pss_one (ps_ret pe_bl)) pss_nil)
      (pss_cons (ps_set (i := 11) sc_law.nd rfl (Or.inl rfl) (pe_op (o_ownSub D_Marks___sub T.sf_Marks (hr.mono (by omega))) (pv 10) (pv 8)))
      (pss_cons (ps_if (PW.pt (pw_or (pt_not (pt_val (pe_fn D_law_is (hr.mono (by omega)) (by rfl) (pa_cons (pv 11) (pa_cons (pe_fn D_law_less (hr.mono (by omega)) (by rfl) (pa_cons (pv 4) (pa_cons (pv 5) pa_nil))) pa_nil))))) (pw_or1 (pt_not (pt_val (pe_fn D_law_flag (hr.mono (by omega)) (by rfl) (pa_cons (pe_cmpR (o_ownEq D_Marks___eq (hr.mono (by omega))) (pv 10) (pv 8) (nomark _)) (pa_cons (pe_cmpR (op_eqD hr.units) (pe_fn D_law_less (hr.mono (by omega)) (by rfl) (pa_cons (pv 4) (pa_cons (pv 5) pa_nil))) (pe_kTup pa_nil) (nomark _)) pa_nil)))))))) (pss_one (ps_ret pe_bl)) pss_nil)
      (pss_cons (ps_set (i := 12) sc_law.nd rfl (Or.inl rfl) (pe_mk T.mk_Marks D_Marks___init (hr.mono (by omega)) (by rfl) T.g_Marks (pa_cons (pe_kTup pa_nil) pa_nil)))
      (pss_one (ps_ret (pe_and (pe_fn D_law_pair (hr.mono (by omega)) (by rfl) (pa_cons (pv 12) (pa_cons (pv 7) (pa_cons (pe_kTup pa_nil) (pa_cons (pv 4) pa_nil))))) (pe_and (pe_fn D_law_pair (hr.mono (by omega)) (by rfl) (pa_cons (pv 7) (pa_cons (pv 12) (pa_cons (pv 4) (pa_cons (pe_kTup pa_nil) pa_nil))))) (pe_one (pe_fn D_law_is (hr.mono (by omega)) (by rfl) (pa_cons (pv 10) (pa_cons (pe_fn D_law_set (hr.mono (by omega)) (by rfl) (pa_cons (pe_op o_catL (pv 2) (pv 3)) pa_nil)) pa_nil))))))))))))))))))))))))))), ?_⟩
    have hcl := T.cl_Marks; have hna := T.na_Marks_lines; have how := T.ow_Marks
    walk_at "w"
    refine ⟨a, ns0, rfl, hS, hlen, fun l fl H1 n1 n2 d1 c1 => ?_⟩
    walk_at "w"
    refine ⟨l, fl, rfl, d1, fun pl ns H2 nl e2 hm2 d2 c2 => ?_⟩
    walk_at "w"
    refine ⟨l, fl, rfl, d2, fun po ms0 H3 no e3 hm3 d3 c3 => ?_⟩
    walk_at "w"
    have hns : ns.length ≤ 30 := by simp only [List.mem_cons, List.not_mem_nil, or_false] at hm2; omega
    have hms0 : ms0.length ≤ 30 := by simp only [List.mem_cons, List.not_mem_nil, or_false] at hm3; omega
    refine use_pick d3 (by decide) fun y1 H4 y10 y11 d4 c4 => ?_
    walk_at "w"
    refine' w_cutS (fun σ H => ∃ (po : Addr) (ms : List Int), σ = [some (.ref a), some (.ref l), some (.ref pl), some (.ref po), none, none, none, none, none, none, none, none, none] ∧ H po = some (.lst (ms.map V.int)) ∧ ms.length ≤ 30 ∧ H pl = some (.lst (ns.map V.int)) ∧ Dr H l fl ∧ po ≠ l) (fun rest => ?main) ?rest
    case main =>
      refine w_D (fun h => ?_) (fun h => ?_)
      rotate_left
      · refine w_nx ?_
        exact rest _ H4 ⟨po, ms0, rfl, by walk_at "lk", hms0, by walk_at "lk", d4, by walk_at "ne"⟩
      · walk_at "w"
        refine ⟨l, fl, pl, ns, rfl, d4, by walk_at "lk", by omega, fun r ms H5 n5 e5 l5 d5 c5 => ?_⟩
        refine w_gn ?_
        exact rest _ H5 ⟨r, ms, rfl, e5, by omega, by walk_at "lk", d5, by walk_at "ne"⟩
    case rest =>
    clear d4 c4 d3 e3 c3 hms0 hm3
    rintro σ H5 ⟨po, ms, rfl, em, hms, en, d5, npo⟩
    have npl : pl ≠ l := by walk_at "ne"
    have kl1 := len_nrm ns
    have kl2 := len_nrm ms
    walk_at "w"
    refine ⟨pl, ns, rfl, SqL.of en, by omega, fun t1 H6 s1 c6 => ?_⟩
    walk_at "w"
    refine ⟨po, ms, rfl, SqL.of (by walk_at "lk"), by omega, fun t2 H7 s2 c7 => ?_⟩
    walk_at "w"
    rename_i pg H8 n8 e8 c8
    refine use_pick (by walk_at "dr") (by decide) fun y2 H9 _ _ d9 c9 => ?_
    walk_at "w"
    have eg9 : H9 pg = some (.lst (ns.map V.int)) := by walk_at "lk"
    have el9 : H9 pl = some (.lst (ns.map V.int)) := by walk_at "lk"
    have eo9 : H9 po = some (.lst (ms.map V.int)) := by walk_at "lk"
    have s19 : SqT K H9 t1 ((nrm ns).map V.int) := by walk_at "lkT"
    have s29 : SqT K H9 t2 ((nrm ms).map V.int) := by walk_at "lkT"
    have npg1 : pg ≠ pl := by walk_at "ne"
    have npg2 : pg ≠ po := by walk_at "ne"
    refine' w_cutS (fun σ H => ∃ f : Addr, σ = [some (.ref a), some (.ref l), some (.ref pl), some (.ref po), some (.ref t1), some (.ref t2), some (.ref pg), some (.ref f), none, none, none, none, none] ∧ Mk K T.C_Marks H f (nrm ns) ∧ Ch [] H9 H ∧ f ≠ pg) (fun rest => ?main2) ?rest2
    case main2 =>
      refine w_D (fun h => ?_) (fun h => ?_)
      · refine w_asg (w_kMk (w_cons (w_var rfl (w_nil ?_))))
        refine use_make ns (.inl (SqL.of eg9)) (by omega) fun f H10 n10 m10 c10 => ?_
        refine w_gn ?_
        exact rest _ H10 ⟨f, rfl, m10, c10, by walk_at "ne"⟩
      · walk_at "w"
        rename_i tg H10 n10 e10 c10
        refine use_make ns (.inr (SqT.of e10)) (by omega) fun f H11 n11 m11 c11 => ?_
        refine w_gn ?_
        exact rest _ H11 ⟨f, rfl, m11, by walk_at "ch", by walk_at "ne"⟩
    case rest2 =>
    clear d9 c9 d5 en em c6 c7 c8 s1 s2 d2 c2 d1 c1 e2 e8
    rintro σ H10 ⟨f, rfl, mf, c10, nf⟩
    walk_at "w"
    rename_i lo H11 n11 e11 c11
    refine use_make ms (.inl (SqL.of e11)) (by omega) fun sc H12 n12 m12 c12 => ?_
    walk_at "w"
    refine w_neL (ns := ns) (ms := ns) (by walk_at "lkL") (by walk_at "lkL") ?_
    walk_at "w"
    refine w_F (by simp) ?_
    walk_at "w"
    rename_i H13 e13 c13
    have npg3 : sc ≠ pg := by walk_at "ne"
    have mf13 : Mk K T.C_Marks H13 f (nrm ns) := by walk_at "mk"
    have ms13 : Mk K T.C_Marks H13 sc (nrm ms) := by walk_at "mk"
    have el13 : H13 pl = some (.lst (ns.map V.int)) := by walk_at "lk"
    have eo13 : H13 po = some (.lst (ms.map V.int)) := by walk_at "lk"
    have s113 : SqT K H13 t1 ((nrm ns).map V.int) := by walk_at "lkT"
    have s213 : SqT K H13 t2 ((nrm ms).map V.int) := by walk_at "lkT"
    clear mf m12 el9 eo9 eg9 s19 s29 c10 c11 c12 c13 e11 e13
    refine ⟨f, sc, t1, t2, nrm ns, nrm ms, rfl, by walk_at "mk", by walk_at "mk", by walk_at "lkT", by walk_at "lkT", ⟨up_nrm _, up_nrm _⟩, by omega, fun H14 c14 => ?_⟩
    walk_at "w"
    refine ⟨sc, f, t2, t1, nrm ms, nrm ns, rfl, by walk_at "mk", by walk_at "mk", by walk_at "lkT", by walk_at "lkT", ⟨up_nrm _, up_nrm _⟩, by omega, fun H15 c15 => ?_⟩
    walk_at "w"
    refine ⟨f, f, t1, t1, nrm ns, nrm ns, rfl, by walk_at "mk", by walk_at "mk", by walk_at "lkT", by walk_at "lkT", ⟨up_nrm _, up_nrm _⟩, by omega, fun H16 c16 => ?_⟩
    walk_at "w"
    refine ⟨f, t1, nrm ns, rfl, by walk_at "mk", by walk_at "lkT", fun H17 c17 => ?_⟩
    walk_at "w"
    refine ⟨sc, t2, nrm ms, rfl, by walk_at "mk", by walk_at "lkT", fun H18 c18 => ?_⟩
    walk_at "w"
    have el18 : H18 pl = some (.lst (ns.map V.int)) := by walk_at "lk"
    have eo18 : H18 po = some (.lst (ms.map V.int)) := by walk_at "lk"
    have mf18 : Mk K T.C_Marks H18 f (nrm ns) := by walk_at "mk"
    have ms18 : Mk K T.C_Marks H18 sc (nrm ms) := by walk_at "mk"
    have s118 : SqT K H18 t1 ((nrm ns).map V.int) := by walk_at "lkT"
    have s218 : SqT K H18 t2 ((nrm ms).map V.int) := by walk_at "lkT"
    clear el13 eo13 mf13 ms13 s113 s213 c14 c15 c16 c17 c18
    refine ⟨pl, ns, rfl, SqL.of el18, hm2, fun o8 H19 m19 c19 => ?_⟩
    walk_at "w"
    refine w_tSl (w_var rfl ?_)
    refine w_noPart (w_part ?_)
    walk_at "w"
    refine ⟨8, rfl, ?_⟩
    walk_at "w"
    rename_i cu H20 n20 e20 c20
    rw [show cutV (ns.map V.int) none (some 8) = _ from cut_take ns 8] at e20
    refine ⟨cu, ns.take 8, rfl, SqL.of e20, by rw [List.length_take]; omega, fun t8 H21 s21 c21 => ?_⟩
    walk_at "w"
    refine ⟨o8, t8, nrm (ns.take 8), rfl, by walk_at "mk", s21, by have := len_nrm (ns.take 8); rw [List.length_take] at this; omega, fun H22 c22 => ?_⟩
    walk_at "w"
    refine w_lstRev1 (xs := ns.map V.int) (by walk_at "lkL") ?_
    walk_at "w"
    rename_i r1 H23 n23 e23 c23 r2 H24 n24 e24 c24 r3 H25 n25 e25 c25
    have x25 : H25 r3 = some (.lst ((ns.reverse ++ ms).map V.int)) := by rw [e25, List.map_append, List.map_reverse]
    refine use_make (ns.reverse ++ ms) (.inl (SqL.of x25)) (by rw [List.length_append, List.length_reverse]; omega) fun ag H26 n26 m26 c26 => ?_
    walk_at "w"
    have el26 : H26 pl = some (.lst (ns.map V.int)) := by walk_at "lk"
    have eo26 : H26 po = some (.lst (ms.map V.int)) := by walk_at "lk"
    have mf26 : Mk K T.C_Marks H26 f (nrm ns) := by walk_at "mk"
    have ms26 : Mk K T.C_Marks H26 sc (nrm ms) := by walk_at "mk"
    have s126 : SqT K H26 t1 ((nrm ns).map V.int) := by walk_at "lkT"
    have s226 : SqT K H26 t2 ((nrm ms).map V.int) := by walk_at "lkT"
    clear el18 eo18 mf18 ms18 s118 s218 c19 m19 e20 c20 s21 c21 c22 e23 c23 e24 c24 e25 x25 c25 c26
    refine use_own2 mf26 ms26 ⟨f, sc, nrm ns, nrm ms, rfl, mf26, ms26, by omega, fun jo H27 n27 m27 c27 => ?_⟩
    walk_at "w"
    have ag27 : Mk K T.C_Marks H27 ag (nrm (ns.reverse ++ ms)) := by walk_at "mk"
    refine use_own2 m27 ag27 ⟨jo, ag, _, _, rfl, m27, ag27, ?_⟩
    rw [decide_eq_true (by rw [nrm_cat, nrm_again])]
    walk_at "w"
    refine ⟨true, true, rfl, ?_⟩
    walk_at "w"
    refine w_lstRev2 (xs := (nrm ns).map V.int) (by walk_at "lkT") ?_
    walk_at "w"
    rename_i r4 H28 n28 e28 c28
    have x28 : H28 r4 = some (.lst ((nrm ns).reverse.map V.int)) := by rw [e28, List.map_reverse]
    refine use_make (nrm ns).reverse (.inl (SqL.of x28)) (by rw [List.length_reverse]; omega) fun ar H29 n29 m29 c29 => ?_
    walk_at "w"
    have mf29 : Mk K T.C_Marks H29 f (nrm ns) := by walk_at "mk"
    have ms29 : Mk K T.C_Marks H29 sc (nrm ms) := by walk_at "mk"
    have jo29 : Mk K T.C_Marks H29 jo (nrm (nrm ns ++ nrm ms)) := by walk_at "mk"
    refine use_own2 m29 mf29 ⟨ar, f, _, _, rfl, m29, mf29, ?_⟩
    rw [decide_eq_true (by rw [nrm_rev, nrm_up (up_nrm ns)])]
    walk_at "w"
    refine ⟨true, true, rfl, ?_⟩
    walk_at "w"
    have lj : (nrm (nrm ns ++ nrm ms)).length < 64 := by have := len_nrm (nrm ns ++ nrm ms); rw [List.length_append] at this; omega
    refine use_own2 jo29 ms29 ⟨jo, sc, _, _, rfl, jo29, ms29, lj, fun ap H30 n30 m30 c30 => ?_⟩
    walk_at "w"
    refine ⟨t1, t2, nrm ns, nrm ms, rfl, by walk_at "lkT", by walk_at "lkT", by omega, fun t5 H31 s31 c31 => ?_⟩
    walk_at "w"
    have m31 : Mk K T.C_Marks H31 ap (less (nrm ns) (nrm ms)) := by
      have e : nrm (less (nrm (nrm ns ++ nrm ms)) (nrm ms)) = less (nrm ns) (nrm ms) := by rw [less_join, nrm_up (up_nrm _), nrm_up (up_less (up_nrm _))]
      rw [e] at m30
      exact Mk.ch c31 m30
    have ll := len_less (nrm ns) (nrm ms)
    refine ⟨ap, t5, less (nrm ns) (nrm ms), rfl, m31, s31, by omega, fun H32 c32 => ?_⟩
    walk_at "w"
    have ms32 : Mk K T.C_Marks H32 sc (nrm ms) := by walk_at "mk"
    have jo32 : Mk K T.C_Marks H32 jo (nrm (nrm ns ++ nrm ms)) := by walk_at "mk"
    refine use_own2 jo32 ms32 ⟨jo, sc, _, _, rfl, jo32, ms32, ?_⟩
    walk_at "w"
    refine ⟨t1, t2, nrm ns, nrm ms, rfl, by walk_at "lkT", by walk_at "lkT", by omega, fun t6 H33 s33 c33 => ?_⟩
    walk_at "w"
    rename_i em1 H34 n34 e34 c34
    refine w_eqT (ns := less (nrm ns) (nrm ms)) (ms := []) (by walk_at "lkT") (SqT.of e34) ?_
    walk_at "w"
    refine ⟨_, _, rfl, ?_⟩
    rw [show decide (nrm (nrm ns ++ nrm ms) = nrm ms) = decide (less (nrm ns) (nrm ms) = []) from decide_eq_decide.mpr (less_nil (up_nrm _) (up_nrm _)), beq_self_eq_true]
    walk_at "w"
    rename_i em2 H35 n35 e35 c35
    refine use_make [] (.inr (SqT.of e35)) (by decide) fun mt H36 n36 m36 c36 => ?_
    have x36 : Mk K T.C_Marks H36 mt [] := m36
    clear m36
    walk_at "w"
    rename_i em3 H37 n37 e37 c37
    refine ⟨mt, f, em3, t1, [], nrm ns, rfl, by walk_at "mk", by walk_at "mk", SqT.of e37, by walk_at "lkT", ⟨.nil, up_nrm _⟩, by simp only [List.length_nil]; omega, fun H38 c38 => ?_⟩
    walk_at "w"
    rename_i em4 H39 n39 e39 c39
    refine ⟨f, mt, t1, em4, nrm ns, [], rfl, by walk_at "mk", by walk_at "mk", by walk_at "lkT", SqT.of e39, ⟨up_nrm _, .nil⟩, by simp only [List.length_nil]; omega, fun H40 c40 => ?_⟩
    walk_at "w"
    rename_i ca H41 n41 e41 c41
    rw [← List.map_append] at e41
    refine ⟨ca, ns ++ ms, rfl, SqL.of e41, by rw [List.length_append]; omega, fun t7 H42 s42 c42 => ?_⟩
    walk_at "w"
    have jo42 : Mk K T.C_Marks H42 jo (nrm (nrm ns ++ nrm ms)) := by walk_at "mk"
    rw [nrm_cat] at jo42 lj
    exact ⟨jo, t7, nrm (ns ++ ms), rfl, jo42, s42, by omega, fun H43 _ => q H43⟩

end
end M63


namespace M63

theorem tp_mk {P : Program} {w : World} {K : PySem.W.Frag} {h : Heap} {mg : Str → Option Value} (X : K.In h) (G : h.Ns mainGlobals mg)
    {C_Marks : Addr}
    (aC_Marks : PySem.W.nsIn K mainGlobals ("Marks" : Str) = some (some (.ref C_Marks)))
    (pg_Marks : PySem.W.plainGet K C_Marks Str.empty = true)
    (hd_Marks : PySem.W.hasDictIn K C_Marks = true)
    (po_Marks : PySem.W.plainOver K C_Marks = true)
    (sa_Marks : PySem.W.findIn K (.ref C_Marks) "__setattr__" = some (some (.builtin "object.__setattr__")))
    (o1_Marks : PySem.W.findIn K (.ref C_Marks) "__class__" = some (some (.builtin "object.__class__")))
    (o2_Marks : PySem.W.specialIn K (.builtin "object.__class__") "__get__" = some (some (.builtin "getset_descriptor.__get__")))
    (o3_Marks : PySem.W.takesIn K (.builtin "object.__class__") = some true)
    (o4_Marks : PySem.W.mroIn K C_Marks (.type "object") = some true)
    (o5_Marks : PySem.W.selfFirst K C_Marks = true)
    (mk_Marks : PySem.W.makesIn K C_Marks = true)
    (kc_Marks : PySem.W.keepIn K (.ref C_Marks) = true)
    (na_Marks_lines : PySem.W.findIn K (.ref C_Marks) ("lines" : Str) = some none)
    {f_Marks___init : Addr} {od_Marks___init an_Marks___init : Option Addr} {sl_Marks___init : Array (Option Value)} {oc_Marks___init kV_Marks___init dc_Marks___init pm_Marks___init cd_Marks___init ct_Marks___init : Value}
    (a_Marks___init : PySem.W.findIn K (.ref C_Marks) ("__init__" : Str) = some (some (.ref f_Marks___init)))
    (i_Marks___init : PySem.W.isFn K (.ref f_Marks___init) = true)
    (l_Marks___init : K.lookup f_Marks___init = some ⟨oc_Marks___init, od_Marks___init, .func (PySem.W.fnOf ("__init__" : Str) ("Marks.__init__" : Str) (defArgs s_Marks___init) (defBody s_Marks___init) (defScope s_Marks___init) .none kV_Marks___init dc_Marks___init pm_Marks___init an_Marks___init cd_Marks___init ct_Marks___init), sl_Marks___init⟩)
    (c_Marks___init : PySem.W.codeIn K cd_Marks___init ("Marks.__init__" : Str) = true)
    (k_Marks___init : PySem.W.keepIn K (.ref f_Marks___init) = true)
    {f_Marks_of : Addr} {od_Marks_of an_Marks_of : Option Addr} {sl_Marks_of : Array (Option Value)} {oc_Marks_of kV_Marks_of dc_Marks_of pm_Marks_of cd_Marks_of ct_Marks_of : Value}
    {p_Marks_of : Addr} {r_Marks_of : List Value}
    (s1_Marks_of : PySem.W.readsIn K C_Marks (.type "type") = true)
    (s2_Marks_of : PySem.W.specialIn K (.ref C_Marks) "__getattribute__" = some (some (.builtin "type.__getattribute__")))
    (s3_Marks_of : PySem.W.findCls K (.ref C_Marks) (.type "type") ("of" : Str) = some (.get (.builtin "staticmethod.__get__") (.ref p_Marks_of) .none (.ref C_Marks)))
    (s4_Marks_of : PySem.W.recIn K p_Marks_of "staticmethod" = some (.ref f_Marks_of :: r_Marks_of))
    (l_Marks_of : K.lookup f_Marks_of = some ⟨oc_Marks_of, od_Marks_of, .func (PySem.W.fnOf ("of" : Str) ("Marks.of" : Str) (defArgs s_Marks_of) (defBody s_Marks_of) (defScope s_Marks_of) .none kV_Marks_of dc_Marks_of pm_Marks_of an_Marks_of cd_Marks_of ct_Marks_of), sl_Marks_of⟩)
    (c_Marks_of : PySem.W.codeIn K cd_Marks_of ("Marks.of" : Str) = true)
    (k_Marks_of : PySem.W.keepIn K (.ref f_Marks_of) = true)
    {f_Marks___or : Addr} {od_Marks___or an_Marks___or : Option Addr} {sl_Marks___or : Array (Option Value)} {oc_Marks___or kV_Marks___or dc_Marks___or pm_Marks___or cd_Marks___or ct_Marks___or : Value}
    (a_Marks___or : PySem.W.findIn K (.ref C_Marks) ("__or__" : Str) = some (some (.ref f_Marks___or)))
    (i_Marks___or : PySem.W.isFn K (.ref f_Marks___or) = true)
    (l_Marks___or : K.lookup f_Marks___or = some ⟨oc_Marks___or, od_Marks___or, .func (PySem.W.fnOf ("__or__" : Str) ("Marks.__or__" : Str) (defArgs s_Marks___or) (defBody s_Marks___or) (defScope s_Marks___or) .none kV_Marks___or dc_Marks___or pm_Marks___or an_Marks___or cd_Marks___or ct_Marks___or), sl_Marks___or⟩)
    (c_Marks___or : PySem.W.codeIn K cd_Marks___or ("Marks.__or__" : Str) = true)
    (k_Marks___or : PySem.W.keepIn K (.ref f_Marks___or) = true)
    {f_Marks___sub : Addr} {od_Marks___sub an_Marks___sub : Option Addr} {sl_Marks___sub : Array (Option Value)} {oc_Marks___sub kV_Marks___sub dc_Marks___sub pm_Marks___sub cd_Marks___sub ct_Marks___sub : Value}
    (a_Marks___sub : PySem.W.findIn K (.ref C_Marks) ("__sub__" : Str) = some (some (.ref f_Marks___sub)))
    (i_Marks___sub : PySem.W.isFn K (.ref f_Marks___sub) = true)
    (l_Marks___sub : K.lookup f_Marks___sub = some ⟨oc_Marks___sub, od_Marks___sub, .func (PySem.W.fnOf ("__sub__" : Str) ("Marks.__sub__" : Str) (defArgs s_Marks___sub) (defBody s_Marks___sub) (defScope s_Marks___sub) .none kV_Marks___sub dc_Marks___sub pm_Marks___sub an_Marks___sub cd_Marks___sub ct_Marks___sub), sl_Marks___sub⟩)
    (c_Marks___sub : PySem.W.codeIn K cd_Marks___sub ("Marks.__sub__" : Str) = true)
    (k_Marks___sub : PySem.W.keepIn K (.ref f_Marks___sub) = true)
    {f_Marks___eq : Addr} {od_Marks___eq an_Marks___eq : Option Addr} {sl_Marks___eq : Array (Option Value)} {oc_Marks___eq kV_Marks___eq dc_Marks___eq pm_Marks___eq cd_Marks___eq ct_Marks___eq : Value}
    (a_Marks___eq : PySem.W.findIn K (.ref C_Marks) ("__eq__" : Str) = some (some (.ref f_Marks___eq)))
    (i_Marks___eq : PySem.W.isFn K (.ref f_Marks___eq) = true)
    (l_Marks___eq : K.lookup f_Marks___eq = some ⟨oc_Marks___eq, od_Marks___eq, .func (PySem.W.fnOf ("__eq__" : Str) ("Marks.__eq__" : Str) (defArgs s_Marks___eq) (defBody s_Marks___eq) (defScope s_Marks___eq) .none kV_Marks___eq dc_Marks___eq pm_Marks___eq an_Marks___eq cd_Marks___eq ct_Marks___eq), sl_Marks___eq⟩)
    (c_Marks___eq : PySem.W.codeIn K cd_Marks___eq ("Marks.__eq__" : Str) = true)
    (k_Marks___eq : PySem.W.keepIn K (.ref f_Marks___eq) = true)
    {f_Marks___len : Addr} {od_Marks___len an_Marks___len : Option Addr} {sl_Marks___len : Array (Option Value)} {oc_Marks___len kV_Marks___len dc_Marks___len pm_Marks___len cd_Marks___len ct_Marks___len : Value}
    (a_Marks___len : PySem.W.findIn K (.ref C_Marks) ("__len__" : Str) = some (some (.ref f_Marks___len)))
    (i_Marks___len : PySem.W.isFn K (.ref f_Marks___len) = true)
    (l_Marks___len : K.lookup f_Marks___len = some ⟨oc_Marks___len, od_Marks___len, .func (PySem.W.fnOf ("__len__" : Str) ("Marks.__len__" : Str) (defArgs s_Marks___len) (defBody s_Marks___len) (defScope s_Marks___len) .none kV_Marks___len dc_Marks___len pm_Marks___len an_Marks___len cd_Marks___len ct_Marks___len), sl_Marks___len⟩)
    (c_Marks___len : PySem.W.codeIn K cd_Marks___len ("Marks.__len__" : Str) = true)
    (k_Marks___len : PySem.W.keepIn K (.ref f_Marks___len) = true)
    {f_Marks___contains : Addr} {od_Marks___contains an_Marks___contains : Option Addr} {sl_Marks___contains : Array (Option Value)} {oc_Marks___contains kV_Marks___contains dc_Marks___contains pm_Marks___contains cd_Marks___contains ct_Marks___contains : Value}
    (a_Marks___contains : PySem.W.findIn K (.ref C_Marks) ("__contains__" : Str) = some (some (.ref f_Marks___contains)))
    (i_Marks___contains : PySem.W.isFn K (.ref f_Marks___contains) = true)
    (l_Marks___contains : K.lookup f_Marks___contains = some ⟨oc_Marks___contains, od_Marks___contains, .func (PySem.W.fnOf ("__contains__" : Str) ("Marks.__contains__" : Str) (defArgs s_Marks___contains) (defBody s_Marks___contains) (defScope s_Marks___contains) .none kV_Marks___contains dc_Marks___contains pm_Marks___contains an_Marks___contains cd_Marks___contains ct_Marks___contains), sl_Marks___contains⟩)
    (c_Marks___contains : PySem.W.codeIn K cd_Marks___contains ("Marks.__contains__" : Str) = true)
    (k_Marks___contains : PySem.W.keepIn K (.ref f_Marks___contains) = true)
    {f_Marks___iter : Addr} {od_Marks___iter an_Marks___iter : Option Addr} {sl_Marks___iter : Array (Option Value)} {oc_Marks___iter kV_Marks___iter dc_Marks___iter pm_Marks___iter cd_Marks___iter ct_Marks___iter : Value}
    (a_Marks___iter : PySem.W.findIn K (.ref C_Marks) ("__iter__" : Str) = some (some (.ref f_Marks___iter)))
    (i_Marks___iter : PySem.W.isFn K (.ref f_Marks___iter) = true)
    (l_Marks___iter : K.lookup f_Marks___iter = some ⟨oc_Marks___iter, od_Marks___iter, .func (PySem.W.fnOf ("__iter__" : Str) ("Marks.__iter__" : Str) (defArgs s_Marks___iter) (defBody s_Marks___iter) (defScope s_Marks___iter) .none kV_Marks___iter dc_Marks___iter pm_Marks___iter an_Marks___iter cd_Marks___iter ct_Marks___iter), sl_Marks___iter⟩)
    (c_Marks___iter : PySem.W.codeIn K cd_Marks___iter ("Marks.__iter__" : Str) = true)
    (k_Marks___iter : PySem.W.keepIn K (.ref f_Marks___iter) = true)
    {f_Marks_within : Addr} {od_Marks_within an_Marks_within : Option Addr} {sl_Marks_within : Array (Option Value)} {oc_Marks_within kV_Marks_within dc_Marks_within pm_Marks_within cd_Marks_within ct_Marks_within : Value}
    (a_Marks_within : PySem.W.findIn K (.ref C_Marks) ("within" : Str) = some (some (.ref f_Marks_within)))
    (i_Marks_within : PySem.W.isFn K (.ref f_Marks_within) = true)
    (l_Marks_within : K.lookup f_Marks_within = some ⟨oc_Marks_within, od_Marks_within, .func (PySem.W.fnOf ("within" : Str) ("Marks.within" : Str) (defArgs s_Marks_within) (defBody s_Marks_within) (defScope s_Marks_within) .none kV_Marks_within dc_Marks_within pm_Marks_within an_Marks_within cd_Marks_within ct_Marks_within), sl_Marks_within⟩)
    (c_Marks_within : PySem.W.codeIn K cd_Marks_within ("Marks.within" : Str) = true)
    (k_Marks_within : PySem.W.keepIn K (.ref f_Marks_within) = true)
    {f_law_draws : Addr} {od_law_draws an_law_draws : Option Addr} {sl_law_draws : Array (Option Value)} {oc_law_draws kV_law_draws dc_law_draws pm_law_draws cd_law_draws ct_law_draws : Value}
    (a_law_draws : PySem.W.nsIn K mainGlobals ("_law_draws" : Str) = some (some (.ref f_law_draws)))
    (l_law_draws : K.lookup f_law_draws = some ⟨oc_law_draws, od_law_draws, .func (PySem.W.fnOf ("_law_draws" : Str) ("_law_draws" : Str) (defArgs s_law_draws) (defBody s_law_draws) (defScope s_law_draws) .none kV_law_draws dc_law_draws pm_law_draws an_law_draws cd_law_draws ct_law_draws), sl_law_draws⟩)
    (c_law_draws : PySem.W.codeIn K cd_law_draws ("_law_draws" : Str) = true)
    (k_law_draws : PySem.W.keepIn K (.ref f_law_draws) = true)
    {f_law_pick : Addr} {od_law_pick an_law_pick : Option Addr} {sl_law_pick : Array (Option Value)} {oc_law_pick kV_law_pick dc_law_pick pm_law_pick cd_law_pick ct_law_pick : Value}
    (a_law_pick : PySem.W.nsIn K mainGlobals ("_law_pick" : Str) = some (some (.ref f_law_pick)))
    (l_law_pick : K.lookup f_law_pick = some ⟨oc_law_pick, od_law_pick, .func (PySem.W.fnOf ("_law_pick" : Str) ("_law_pick" : Str) (defArgs s_law_pick) (defBody s_law_pick) (defScope s_law_pick) .none kV_law_pick dc_law_pick pm_law_pick an_law_pick cd_law_pick ct_law_pick), sl_law_pick⟩)
    (c_law_pick : PySem.W.codeIn K cd_law_pick ("_law_pick" : Str) = true)
    (k_law_pick : PySem.W.keepIn K (.ref f_law_pick) = true)
    {f_law_lot : Addr} {od_law_lot an_law_lot : Option Addr} {sl_law_lot : Array (Option Value)} {oc_law_lot kV_law_lot dc_law_lot pm_law_lot cd_law_lot ct_law_lot : Value}
    (a_law_lot : PySem.W.nsIn K mainGlobals ("_law_lot" : Str) = some (some (.ref f_law_lot)))
    (l_law_lot : K.lookup f_law_lot = some ⟨oc_law_lot, od_law_lot, .func (PySem.W.fnOf ("_law_lot" : Str) ("_law_lot" : Str) (defArgs s_law_lot) (defBody s_law_lot) (defScope s_law_lot) .none kV_law_lot dc_law_lot pm_law_lot an_law_lot cd_law_lot ct_law_lot), sl_law_lot⟩)
    (c_law_lot : PySem.W.codeIn K cd_law_lot ("_law_lot" : Str) = true)
    (k_law_lot : PySem.W.keepIn K (.ref f_law_lot) = true)
    {f_law_near : Addr} {od_law_near an_law_near : Option Addr} {sl_law_near : Array (Option Value)} {oc_law_near kV_law_near dc_law_near pm_law_near cd_law_near ct_law_near : Value}
    (a_law_near : PySem.W.nsIn K mainGlobals ("_law_near" : Str) = some (some (.ref f_law_near)))
    (l_law_near : K.lookup f_law_near = some ⟨oc_law_near, od_law_near, .func (PySem.W.fnOf ("_law_near" : Str) ("_law_near" : Str) (defArgs s_law_near) (defBody s_law_near) (defScope s_law_near) .none kV_law_near dc_law_near pm_law_near an_law_near cd_law_near ct_law_near), sl_law_near⟩)
    (c_law_near : PySem.W.codeIn K cd_law_near ("_law_near" : Str) = true)
    (k_law_near : PySem.W.keepIn K (.ref f_law_near) = true)
    {f_law_set : Addr} {od_law_set an_law_set : Option Addr} {sl_law_set : Array (Option Value)} {oc_law_set kV_law_set dc_law_set pm_law_set cd_law_set ct_law_set : Value}
    (a_law_set : PySem.W.nsIn K mainGlobals ("_law_set" : Str) = some (some (.ref f_law_set)))
    (l_law_set : K.lookup f_law_set = some ⟨oc_law_set, od_law_set, .func (PySem.W.fnOf ("_law_set" : Str) ("_law_set" : Str) (defArgs s_law_set) (defBody s_law_set) (defScope s_law_set) .none kV_law_set dc_law_set pm_law_set an_law_set cd_law_set ct_law_set), sl_law_set⟩)
    (c_law_set : PySem.W.codeIn K cd_law_set ("_law_set" : Str) = true)
    (k_law_set : PySem.W.keepIn K (.ref f_law_set) = true)
    {f_law_less : Addr} {od_law_less an_law_less : Option Addr} {sl_law_less : Array (Option Value)} {oc_law_less kV_law_less dc_law_less pm_law_less cd_law_less ct_law_less : Value}
    (a_law_less : PySem.W.nsIn K mainGlobals ("_law_less" : Str) = some (some (.ref f_law_less)))
    (l_law_less : K.lookup f_law_less = some ⟨oc_law_less, od_law_less, .func (PySem.W.fnOf ("_law_less" : Str) ("_law_less" : Str) (defArgs s_law_less) (defBody s_law_less) (defScope s_law_less) .none kV_law_less dc_law_less pm_law_less an_law_less cd_law_less ct_law_less), sl_law_less⟩)
    (c_law_less : PySem.W.codeIn K cd_law_less ("_law_less" : Str) = true)
    (k_law_less : PySem.W.keepIn K (.ref f_law_less) = true)
    {f_law_flag : Addr} {od_law_flag an_law_flag : Option Addr} {sl_law_flag : Array (Option Value)} {oc_law_flag kV_law_flag dc_law_flag pm_law_flag cd_law_flag ct_law_flag : Value}
    (a_law_flag : PySem.W.nsIn K mainGlobals ("_law_flag" : Str) = some (some (.ref f_law_flag)))
    (l_law_flag : K.lookup f_law_flag = some ⟨oc_law_flag, od_law_flag, .func (PySem.W.fnOf ("_law_flag" : Str) ("_law_flag" : Str) (defArgs s_law_flag) (defBody s_law_flag) (defScope s_law_flag) .none kV_law_flag dc_law_flag pm_law_flag an_law_flag cd_law_flag ct_law_flag), sl_law_flag⟩)
    (c_law_flag : PySem.W.codeIn K cd_law_flag ("_law_flag" : Str) = true)
    (k_law_flag : PySem.W.keepIn K (.ref f_law_flag) = true)
    {f_law_is : Addr} {od_law_is an_law_is : Option Addr} {sl_law_is : Array (Option Value)} {oc_law_is kV_law_is dc_law_is pm_law_is cd_law_is ct_law_is : Value}
    (a_law_is : PySem.W.nsIn K mainGlobals ("_law_is" : Str) = some (some (.ref f_law_is)))
    (l_law_is : K.lookup f_law_is = some ⟨oc_law_is, od_law_is, .func (PySem.W.fnOf ("_law_is" : Str) ("_law_is" : Str) (defArgs s_law_is) (defBody s_law_is) (defScope s_law_is) .none kV_law_is dc_law_is pm_law_is an_law_is cd_law_is ct_law_is), sl_law_is⟩)
    (c_law_is : PySem.W.codeIn K cd_law_is ("_law_is" : Str) = true)
    (k_law_is : PySem.W.keepIn K (.ref f_law_is) = true)
    {f_law_pair : Addr} {od_law_pair an_law_pair : Option Addr} {sl_law_pair : Array (Option Value)} {oc_law_pair kV_law_pair dc_law_pair pm_law_pair cd_law_pair ct_law_pair : Value}
    (a_law_pair : PySem.W.nsIn K mainGlobals ("_law_pair" : Str) = some (some (.ref f_law_pair)))
    (l_law_pair : K.lookup f_law_pair = some ⟨oc_law_pair, od_law_pair, .func (PySem.W.fnOf ("_law_pair" : Str) ("_law_pair" : Str) (defArgs s_law_pair) (defBody s_law_pair) (defScope s_law_pair) .none kV_law_pair dc_law_pair pm_law_pair an_law_pair cd_law_pair ct_law_pair), sl_law_pair⟩)
    (c_law_pair : PySem.W.codeIn K cd_law_pair ("_law_pair" : Str) = true)
    (k_law_pair : PySem.W.keepIn K (.ref f_law_pair) = true)
    {f_law_of : Addr} {od_law_of an_law_of : Option Addr} {sl_law_of : Array (Option Value)} {oc_law_of kV_law_of dc_law_of pm_law_of cd_law_of ct_law_of : Value}
    (a_law_of : PySem.W.nsIn K mainGlobals ("_law_of" : Str) = some (some (.ref f_law_of)))
    (l_law_of : K.lookup f_law_of = some ⟨oc_law_of, od_law_of, .func (PySem.W.fnOf ("_law_of" : Str) ("_law_of" : Str) (defArgs s_law_of) (defBody s_law_of) (defScope s_law_of) .none kV_law_of dc_law_of pm_law_of an_law_of cd_law_of ct_law_of), sl_law_of⟩)
    (c_law_of : PySem.W.codeIn K cd_law_of ("_law_of" : Str) = true)
    (k_law_of : PySem.W.keepIn K (.ref f_law_of) = true)
    {f_law_walked : Addr} {od_law_walked an_law_walked : Option Addr} {sl_law_walked : Array (Option Value)} {oc_law_walked kV_law_walked dc_law_walked pm_law_walked cd_law_walked ct_law_walked : Value}
    (a_law_walked : PySem.W.nsIn K mainGlobals ("_law_walked" : Str) = some (some (.ref f_law_walked)))
    (l_law_walked : K.lookup f_law_walked = some ⟨oc_law_walked, od_law_walked, .func (PySem.W.fnOf ("_law_walked" : Str) ("_law_walked" : Str) (defArgs s_law_walked) (defBody s_law_walked) (defScope s_law_walked) .none kV_law_walked dc_law_walked pm_law_walked an_law_walked cd_law_walked ct_law_walked), sl_law_walked⟩)
    (c_law_walked : PySem.W.codeIn K cd_law_walked ("_law_walked" : Str) = true)
    (k_law_walked : PySem.W.keepIn K (.ref f_law_walked) = true)
    {f_law : Addr} {od_law an_law : Option Addr} {sl_law : Array (Option Value)} {oc_law kV_law dc_law pm_law cd_law ct_law : Value}
    (a_law : PySem.W.nsIn K mainGlobals ("law" : Str) = some (some (.ref f_law)))
    (l_law : K.lookup f_law = some ⟨oc_law, od_law, .func (PySem.W.fnOf ("law" : Str) ("law" : Str) (defArgs s_law) (defBody s_law) (defScope s_law) .none kV_law dc_law pm_law an_law cd_law ct_law), sl_law⟩)
    (c_law : PySem.W.codeIn K cd_law ("law" : Str) = true)
    (k_law : PySem.W.keepIn K (.ref f_law) = true)
    (n_abs : PySem.W.nsIn K mainGlobals ("abs" : Str) = some none)
    (n_bool : PySem.W.nsIn K mainGlobals ("bool" : Str) = some none)
    (n_int : PySem.W.nsIn K mainGlobals ("int" : Str) = some none)
    (n_isinstance : PySem.W.nsIn K mainGlobals ("isinstance" : Str) = some none)
    (n_iter : PySem.W.nsIn K mainGlobals ("iter" : Str) = some none)
    (n_len : PySem.W.nsIn K mainGlobals ("len" : Str) = some none)
    (n_list : PySem.W.nsIn K mainGlobals ("list" : Str) = some none)
    (n_min : PySem.W.nsIn K mainGlobals ("min" : Str) = some none)
    (n_range : PySem.W.nsIn K mainGlobals ("range" : Str) = some none)
    (n_reversed : PySem.W.nsIn K mainGlobals ("reversed" : Str) = some none)
    (n_set : PySem.W.nsIn K mainGlobals ("set" : Str) = some none)
    (n_sorted : PySem.W.nsIn K mainGlobals ("sorted" : Str) = some none)
    (n_tuple : PySem.W.nsIn K mainGlobals ("tuple" : Str) = some none)
    : Nonempty (Tp P w K mg) := by
  have F_Marks___init := fun_mk (st := s_Marks___init) l_Marks___init c_Marks___init k_Marks___init
  have b_Marks___init := F_Marks___init.binds (ps := [("self" : Str), ("lines" : Str)]) fun _ _ _ _ _ _ us hl => match us, hl with | [_, _], _ => rfl
  have F_Marks_of := fun_mk (st := s_Marks_of) l_Marks_of c_Marks_of k_Marks_of
  have F_Marks___or := fun_mk (st := s_Marks___or) l_Marks___or c_Marks___or k_Marks___or
  have b_Marks___or := F_Marks___or.binds (ps := [("self" : Str), ("other" : Str)]) fun _ _ _ _ _ _ us hl => match us, hl with | [_, _], _ => rfl
  have F_Marks___sub := fun_mk (st := s_Marks___sub) l_Marks___sub c_Marks___sub k_Marks___sub
  have b_Marks___sub := F_Marks___sub.binds (ps := [("self" : Str), ("other" : Str)]) fun _ _ _ _ _ _ us hl => match us, hl with | [_, _], _ => rfl
  have F_Marks___eq := fun_mk (st := s_Marks___eq) l_Marks___eq c_Marks___eq k_Marks___eq
  have b_Marks___eq := F_Marks___eq.binds (ps := [("self" : Str), ("other" : Str)]) fun _ _ _ _ _ _ us hl => match us, hl with | [_, _], _ => rfl
  have F_Marks___len := fun_mk (st := s_Marks___len) l_Marks___len c_Marks___len k_Marks___len
  have b_Marks___len := F_Marks___len.binds (ps := [("self" : Str)]) fun _ _ _ _ _ _ us hl => match us, hl with | [_], _ => rfl
  have F_Marks___contains := fun_mk (st := s_Marks___contains) l_Marks___contains c_Marks___contains k_Marks___contains
  have b_Marks___contains := F_Marks___contains.binds (ps := [("self" : Str), ("line" : Str)]) fun _ _ _ _ _ _ us hl => match us, hl with | [_, _], _ => rfl
  have F_Marks___iter := fun_mk (st := s_Marks___iter) l_Marks___iter c_Marks___iter k_Marks___iter
  have b_Marks___iter := F_Marks___iter.binds (ps := [("self" : Str)]) fun _ _ _ _ _ _ us hl => match us, hl with | [_], _ => rfl
  have F_Marks_within := fun_mk (st := s_Marks_within) l_Marks_within c_Marks_within k_Marks_within
  have b_Marks_within := F_Marks_within.binds (ps := [("self" : Str), ("other" : Str)]) fun _ _ _ _ _ _ us hl => match us, hl with | [_, _], _ => rfl
  have F_law_draws := fun_mk (st := s_law_draws) l_law_draws c_law_draws k_law_draws
  have b_law_draws := F_law_draws.binds (ps := [("script" : Str)]) fun _ _ _ _ _ _ us hl => match us, hl with | [_], _ => rfl
  have F_law_pick := fun_mk (st := s_law_pick) l_law_pick c_law_pick k_law_pick
  have b_law_pick := F_law_pick.binds (ps := [("draws" : Str), ("many" : Str)]) fun _ _ _ _ _ _ us hl => match us, hl with | [_, _], _ => rfl
  have F_law_lot := fun_mk (st := s_law_lot) l_law_lot c_law_lot k_law_lot
  have b_law_lot := F_law_lot.binds (ps := [("draws" : Str)]) fun _ _ _ _ _ _ us hl => match us, hl with | [_], _ => rfl
  have F_law_near := fun_mk (st := s_law_near) l_law_near c_law_near k_law_near
  have b_law_near := F_law_near.binds (ps := [("draws" : Str), ("lot" : Str)]) fun _ _ _ _ _ _ us hl => match us, hl with | [_, _], _ => rfl
  have F_law_set := fun_mk (st := s_law_set) l_law_set c_law_set k_law_set
  have b_law_set := F_law_set.binds (ps := [("lot" : Str)]) fun _ _ _ _ _ _ us hl => match us, hl with | [_], _ => rfl
  have F_law_less := fun_mk (st := s_law_less) l_law_less c_law_less k_law_less
  have b_law_less := F_law_less.binds (ps := [("one" : Str), ("two" : Str)]) fun _ _ _ _ _ _ us hl => match us, hl with | [_, _], _ => rfl
  have F_law_flag := fun_mk (st := s_law_flag) l_law_flag c_law_flag k_law_flag
  have b_law_flag := F_law_flag.binds (ps := [("actual" : Str), ("due" : Str)]) fun _ _ _ _ _ _ us hl => match us, hl with | [_, _], _ => rfl
  have F_law_is := fun_mk (st := s_law_is) l_law_is c_law_is k_law_is
  have b_law_is := F_law_is.binds (ps := [("marks" : Str), ("due" : Str)]) fun _ _ _ _ _ _ us hl => match us, hl with | [_, _], _ => rfl
  have F_law_pair := fun_mk (st := s_law_pair) l_law_pair c_law_pair k_law_pair
  have b_law_pair := F_law_pair.binds (ps := [("first" : Str), ("second" : Str), ("one" : Str), ("two" : Str)]) fun _ _ _ _ _ _ us hl => match us, hl with | [_, _, _, _], _ => rfl
  have F_law_of := fun_mk (st := s_law_of) l_law_of c_law_of k_law_of
  have b_law_of := F_law_of.binds (ps := [("lot" : Str)]) fun _ _ _ _ _ _ us hl => match us, hl with | [_], _ => rfl
  have F_law_walked := fun_mk (st := s_law_walked) l_law_walked c_law_walked k_law_walked
  have b_law_walked := F_law_walked.binds (ps := [("marks" : Str), ("lot" : Str)]) fun _ _ _ _ _ _ us hl => match us, hl with | [_, _], _ => rfl
  have F_law := fun_mk (st := s_law) l_law c_law k_law
  have b_law := F_law.binds (ps := [("script" : Str)]) fun _ _ _ _ _ _ us hl => match us, hl with | [_], _ => rfl
  exact ⟨{ C_Marks := C_Marks,
           g_Marks := PySem.W.mg_of X G aC_Marks,
           cl_Marks := ⟨pg_Marks, hd_Marks, po_Marks, sa_Marks⟩,
           ow_Marks := ⟨o1_Marks, o2_Marks, o3_Marks, o4_Marks⟩,
           sf_Marks := o5_Marks,
           mk_Marks := ⟨mk_Marks, kc_Marks⟩,
           na_Marks_lines := na_Marks_lines,
           d_Marks___init := ⟨_, _, a_Marks___init, i_Marks___init, F_Marks___init, b_Marks___init⟩,
           p_Marks_of := p_Marks_of,
           f_Marks_of := f_Marks_of,
           sm_Marks_of := ⟨⟨s1_Marks_of, s2_Marks_of⟩, s3_Marks_of, ⟨_, s4_Marks_of⟩, k_Marks_of⟩,
           d_Marks_of := ⟨_, F_Marks_of⟩,
           d_Marks___or := ⟨_, _, a_Marks___or, i_Marks___or, F_Marks___or, b_Marks___or⟩,
           d_Marks___sub := ⟨_, _, a_Marks___sub, i_Marks___sub, F_Marks___sub, b_Marks___sub⟩,
           d_Marks___eq := ⟨_, _, a_Marks___eq, i_Marks___eq, F_Marks___eq, b_Marks___eq⟩,
           d_Marks___len := ⟨_, _, a_Marks___len, i_Marks___len, F_Marks___len, b_Marks___len⟩,
           d_Marks___contains := ⟨_, _, a_Marks___contains, i_Marks___contains, F_Marks___contains, b_Marks___contains⟩,
           d_Marks___iter := ⟨_, _, a_Marks___iter, i_Marks___iter, F_Marks___iter, b_Marks___iter⟩,
           d_Marks_within := ⟨_, _, a_Marks_within, i_Marks_within, F_Marks_within, b_Marks_within⟩,
           d_law_draws := ⟨_, _, PySem.W.mg_of X G a_law_draws, F_law_draws, b_law_draws⟩,
           d_law_pick := ⟨_, _, PySem.W.mg_of X G a_law_pick, F_law_pick, b_law_pick⟩,
           d_law_lot := ⟨_, _, PySem.W.mg_of X G a_law_lot, F_law_lot, b_law_lot⟩,
           d_law_near := ⟨_, _, PySem.W.mg_of X G a_law_near, F_law_near, b_law_near⟩,
           d_law_set := ⟨_, _, PySem.W.mg_of X G a_law_set, F_law_set, b_law_set⟩,
           d_law_less := ⟨_, _, PySem.W.mg_of X G a_law_less, F_law_less, b_law_less⟩,
           d_law_flag := ⟨_, _, PySem.W.mg_of X G a_law_flag, F_law_flag, b_law_flag⟩,
           d_law_is := ⟨_, _, PySem.W.mg_of X G a_law_is, F_law_is, b_law_is⟩,
           d_law_pair := ⟨_, _, PySem.W.mg_of X G a_law_pair, F_law_pair, b_law_pair⟩,
           d_law_of := ⟨_, _, PySem.W.mg_of X G a_law_of, F_law_of, b_law_of⟩,
           d_law_walked := ⟨_, _, PySem.W.mg_of X G a_law_walked, F_law_walked, b_law_walked⟩,
           d_law := ⟨_, _, PySem.W.mg_of X G a_law, F_law, b_law⟩,
           n_abs := PySem.W.mg_none_of X G n_abs,
           n_bool := PySem.W.mg_none_of X G n_bool,
           n_int := PySem.W.mg_none_of X G n_int,
           n_isinstance := PySem.W.mg_none_of X G n_isinstance,
           n_iter := PySem.W.mg_none_of X G n_iter,
           n_len := PySem.W.mg_none_of X G n_len,
           n_list := PySem.W.mg_none_of X G n_list,
           n_min := PySem.W.mg_none_of X G n_min,
           n_range := PySem.W.mg_none_of X G n_range,
           n_reversed := PySem.W.mg_none_of X G n_reversed,
           n_set := PySem.W.mg_none_of X G n_set,
           n_sorted := PySem.W.mg_none_of X G n_sorted,
           n_tuple := PySem.W.mg_none_of X G n_tuple }⟩
section
variable {P : Program} {w : World} {K : PySem.W.Frag} {mg : Str → Option Value} {base : Heap}
theorem law_all (T : Tp P w K mg) {f : Addr} {fd : FuncData} (F : Fun K ("law" : Str) ("law" : Str) s_law f fd) : FnOk P w K mg base CX0 7 f fd [("script" : Str)] (spLaw K) :=
  ok_law T (ok_law_is T (ok_Marks___len T) (ok_Marks___iter T)) (ok_law_set T)
    (ok_law_pair T (ok_law_is T (ok_Marks___len T) (ok_Marks___iter T)) (ok_law_flag T) (ok_law_less T) (ok_Marks_within T) (ok_Marks___eq T) (ok_Marks___sub T (ok_Marks___init T)) (ok_law_set T) (ok_Marks___or T (ok_Marks___init T)))
    (ok_Marks___init T) (ok_law_flag T) (ok_law_less T) (ok_Marks___eq T) (ok_Marks___sub T (ok_Marks___init T)) (ok_Marks___or T (ok_Marks___init T))
    (ok_law_of T (ok_Marks_of T (ok_Marks___init T))) (ok_law_walked T (ok_Marks___contains T)) (ok_law_pick T) (ok_law_near T (ok_law_pick T)) (ok_law_lot T (ok_law_pick T)) (ok_law_draws T) F
end

theorem fd_law {K : PySem.W.Frag} {f : Addr} {fd : FuncData} (F : Fun K ("law" : Str) ("law" : Str) s_law f fd) (s : Shared) (v : Value) : BindsTo s fd ⟨[v], []⟩ [(("script" : Str), v)] := by
  obtain ⟨_, _, _, _, _, _, _, _, _, rfl, _⟩ := F.ex
  exact .of_eq rfl
theorem walk {l : PySem.W.OpenLaw} {q : Program} {loose : List Str} {XP : (Str → Option Value) → Heap → Prop} {YP : World → Heap → Prop} {d : DefRec} {K : Params → PySem.W.Frag} (hn : l.most = some 63) (hdf : d.params.defaults = [])
    (hY : ∀ (w : World) (h : Heap), YP w h → (K w.params).In h) (hnm : d.name = ("law" : Str))
    (F : ∀ (w : World) (mg : Str → Option Value) (h : Heap), (K w.params).In h → h.Ns mainGlobals mg → Nonempty (Tp l.prog w (K w.params) mg)) :
    PySem.W.WalkO q loose XP YP l.row.toRowW d [] (fun f vs => PySem.call f vs) :=
  L2.walk_of (n := 63) (k := 7) (x := "script") (CX := fun _ => CX0) (sp := fun w => spLaw (K w.params)) hn (by decide) hdf ⟨rfl, by decide, by decide⟩ hY (fun w mg fa h KX G hmg => by
    obtain ⟨T⟩ := F w mg h KX G
    obtain ⟨f, fd, hm, Fl, b⟩ := T.d_law
    rw [hnm] at hmg
    have e := hmg.symm.trans hm
    cases e
    exact ⟨fd, fd_law Fl, fun base _ _ => law_all T Fl⟩) (fun _ H a ns hl hO hS => ⟨a, ns, rfl, fz_of hO hS, hl, fun _ => rfl⟩) fun _ _ _ _ _ z => z
end M63
open PySem PySem.W PyProof.Rows
set_option maxRecDepth 100000 in
set_option maxHeartbeats 0 in
theorem PySem.Challenge.cw_codefromcode_k63_marks_are_sets_holds : PySem.Challenge.rw_codefromcode_k63_marks_are_sets.Holds := by
  w_on; o_law; k_head; (case hw => w_witness2)
  k_fill
  refine M63.walk (l := PySem.Challenge.rw_codefromcode_k63_marks_are_sets) rfl rfl (fun w h Y => PySem.W.kIn_of Y) rfl ?F
  case F =>
    intro w mg h KX G
    refine' M63.tp_mk KX G ?aC_Marks ?pg_Marks ?hd_Marks ?po_Marks ?sa_Marks ?o1_Marks ?o2_Marks ?o3_Marks ?o4_Marks ?o5_Marks ?mk_Marks ?kc_Marks ?na_Marks_lines ?a_Marks___init ?i_Marks___init ?l_Marks___init ?c_Marks___init ?k_Marks___init ?s1_Marks_of ?s2_Marks_of ?s3_Marks_of ?s4_Marks_of ?l_Marks_of ?c_Marks_of ?k_Marks_of ?a_Marks___or ?i_Marks___or ?l_Marks___or ?c_Marks___or ?k_Marks___or ?a_Marks___sub ?i_Marks___sub ?l_Marks___sub ?c_Marks___sub ?k_Marks___sub ?a_Marks___eq ?i_Marks___eq ?l_Marks___eq ?c_Marks___eq ?k_Marks___eq ?a_Marks___len ?i_Marks___len ?l_Marks___len ?c_Marks___len ?k_Marks___len ?a_Marks___contains ?i_Marks___contains ?l_Marks___contains ?c_Marks___contains ?k_Marks___contains ?a_Marks___iter ?i_Marks___iter ?l_Marks___iter ?c_Marks___iter ?k_Marks___iter ?a_Marks_within ?i_Marks_within ?l_Marks_within ?c_Marks_within ?k_Marks_within ?a_law_draws ?l_law_draws ?c_law_draws ?k_law_draws ?a_law_pick ?l_law_pick ?c_law_pick ?k_law_pick ?a_law_lot ?l_law_lot ?c_law_lot ?k_law_lot ?a_law_near ?l_law_near ?c_law_near ?k_law_near ?a_law_set ?l_law_set ?c_law_set ?k_law_set ?a_law_less ?l_law_less ?c_law_less ?k_law_less ?a_law_flag ?l_law_flag ?c_law_flag ?k_law_flag ?a_law_is ?l_law_is ?c_law_is ?k_law_is ?a_law_pair ?l_law_pair ?c_law_pair ?k_law_pair ?a_law_of ?l_law_of ?c_law_of ?k_law_of ?a_law_walked ?l_law_walked ?c_law_walked ?k_law_walked ?a_law ?l_law ?c_law ?k_law ?n_abs ?n_bool ?n_int ?n_isinstance ?n_iter ?n_len ?n_list ?n_min ?n_range ?n_reversed ?n_set ?n_sorted ?n_tuple
    (case aC_Marks => k_is)
    (case pg_Marks => k_is)
    (case hd_Marks => k_is)
    (case po_Marks => k_is)
    (case sa_Marks => k_is)
    (case o1_Marks => k_is)
    (case o2_Marks => k_is)
    (case o3_Marks => k_is)
    (case o4_Marks => k_is)
    (case o5_Marks => k_is)
    (case mk_Marks => k_is)
    (case kc_Marks => k_is)
    (case na_Marks_lines => k_is)
    (case a_Marks___init => k_is)
    (case i_Marks___init => k_is)
    (case l_Marks___init => k_is)
    (case c_Marks___init => k_is)
    (case k_Marks___init => k_is)
    (case s1_Marks_of => k_is)
    (case s2_Marks_of => k_is)
    (case s3_Marks_of => k_is)
    (case s4_Marks_of => k_is)
    (case l_Marks_of => k_is)
    (case c_Marks_of => k_is)
    (case k_Marks_of => k_is)
    (case a_Marks___or => k_is)
    (case i_Marks___or => k_is)
    (case l_Marks___or => k_is)
    (case c_Marks___or => k_is)
    (case k_Marks___or => k_is)
    (case a_Marks___sub => k_is)
    (case i_Marks___sub => k_is)
    (case l_Marks___sub => k_is)
    (case c_Marks___sub => k_is)
    (case k_Marks___sub => k_is)
    (case a_Marks___eq => k_is)
    (case i_Marks___eq => k_is)
    (case l_Marks___eq => k_is)
    (case c_Marks___eq => k_is)
    (case k_Marks___eq => k_is)
    (case a_Marks___len => k_is)
    (case i_Marks___len => k_is)
    (case l_Marks___len => k_is)
    (case c_Marks___len => k_is)
    (case k_Marks___len => k_is)
    (case a_Marks___contains => k_is)
    (case i_Marks___contains => k_is)
    (case l_Marks___contains => k_is)
    (case c_Marks___contains => k_is)
    (case k_Marks___contains => k_is)
    (case a_Marks___iter => k_is)
    (case i_Marks___iter => k_is)
    (case l_Marks___iter => k_is)
    (case c_Marks___iter => k_is)
    (case k_Marks___iter => k_is)
    (case a_Marks_within => k_is)
    (case i_Marks_within => k_is)
    (case l_Marks_within => k_is)
    (case c_Marks_within => k_is)
    (case k_Marks_within => k_is)
    (case a_law_draws => k_is)
    (case l_law_draws => k_is)
    (case c_law_draws => k_is)
    (case k_law_draws => k_is)
    (case a_law_pick => k_is)
    (case l_law_pick => k_is)
    (case c_law_pick => k_is)
    (case k_law_pick => k_is)
    (case a_law_lot => k_is)
    (case l_law_lot => k_is)
    (case c_law_lot => k_is)
    (case k_law_lot => k_is)
    (case a_law_near => k_is)
    (case l_law_near => k_is)
    (case c_law_near => k_is)
    (case k_law_near => k_is)
    (case a_law_set => k_is)
    (case l_law_set => k_is)
    (case c_law_set => k_is)
    (case k_law_set => k_is)
    (case a_law_less => k_is)
    (case l_law_less => k_is)
    (case c_law_less => k_is)
    (case k_law_less => k_is)
    (case a_law_flag => k_is)
    (case l_law_flag => k_is)
    (case c_law_flag => k_is)
    (case k_law_flag => k_is)
    (case a_law_is => k_is)
    (case l_law_is => k_is)
    (case c_law_is => k_is)
    (case k_law_is => k_is)
    (case a_law_pair => k_is)
    (case l_law_pair => k_is)
    (case c_law_pair => k_is)
    (case k_law_pair => k_is)
    (case a_law_of => k_is)
    (case l_law_of => k_is)
    (case c_law_of => k_is)
    (case k_law_of => k_is)
    (case a_law_walked => k_is)
    (case l_law_walked => k_is)
    (case c_law_walked => k_is)
    (case k_law_walked => k_is)
    (case a_law => k_is)
    (case l_law => k_is)
    (case c_law => k_is)
    (case k_law => k_is)
    (case n_abs => k_is)
    (case n_bool => k_is)
    (case n_int => k_is)
    (case n_isinstance => k_is)
    (case n_iter => k_is)
    (case n_len => k_is)
    (case n_list => k_is)
    (case n_min => k_is)
    (case n_range => k_is)
    (case n_reversed => k_is)
    (case n_set => k_is)
    (case n_sorted => k_is)
    (case n_tuple => k_is)
