import PyProof.Rows.All
import Wide.All
import OpenK.AllK
import Wide.FinOn
import HandS.ForMost
import HandS.Wide
import HandS.IsInst
import HandS.EndBits
import HandS.TupAny
import PySem.Challenge.RW_codefromcode_k28_text_machine_steps
set_option Elab.async false
set_option linter.all false
set_option maxRecDepth 100000
set_option maxHeartbeats 4000000
namespace Kt
open PySem PySem.Spec PyProof.Rows L2

/-! ### what a piece of a run changes: the tracked objects at ls -/
structure Ch (ls : List Addr) (H H' : Hp) : Prop where
  keep : ∀ b o, H b = some o → b ∉ ls → H' b = some o
  tup : ∀ b xs, H b = some (.tup xs) → H' b = some (.tup xs)
  frz : ∀ b o u, H b = some (.frz o u) → H' b = some (.frz o u)
  stay : ∀ b o, H b = some o → ∃ o', H' b = some o'
theorem Ch.refl {ls : List Addr} {H : Hp} : Ch ls H H := ⟨fun _ _ e _ => e, fun _ _ e => e, fun _ _ _ e => e, fun _ o e => ⟨o, e⟩⟩
theorem Ch.trans {ls : List Addr} {H H1 H2 : Hp} (a : Ch ls H H1) (b : Ch ls H1 H2) : Ch ls H H2 :=
  ⟨fun c o e n => b.keep c o (a.keep c o e n) n, fun c xs e => b.tup c xs (a.tup c xs e), fun c o u e => b.frz c o u (a.frz c o u e), fun c o e => let ⟨o', e'⟩ := a.stay c o e; b.stay c o' e'⟩
theorem Ch.sub {ls ls' : List Addr} {H H1 : Hp} (a : Ch ls H H1) (h : ∀ b ∈ ls, b ∈ ls') : Ch ls' H H1 :=
  ⟨fun c o e n => a.keep c o e fun m => n (h c m), a.tup, a.frz, a.stay⟩
theorem Ch.of0 {ls : List Addr} {H H1 : Hp} (a : Ch [] H H1) : Ch ls H H1 := a.sub fun _ h => nomatch h
theorem Ch.app {ls ls' : List Addr} {H H1 H2 : Hp} (a : Ch ls H H1) (b : Ch ls' H1 H2) : Ch (ls ++ ls') H H2 :=
  (a.sub fun _ h => List.mem_append_left _ h).trans (b.sub fun _ h => List.mem_append_right _ h)
/-- an address that was not tracked ahead need not be named -/
theorem Ch.drop {l : Addr} {ls : List Addr} {H H1 : Hp} (a : Ch (l :: ls) H H1) (n : H l = none) : Ch ls H H1 :=
  ⟨fun c o e m => a.keep c o e fun z => by
    rcases List.mem_cons.mp z with z | z
    · subst z; rw [n] at e; cases e
    · exact m z, a.tup, a.frz, a.stay⟩
theorem Ch.no {ls : List Addr} {H H1 : Hp} {p : Addr} (a : Ch ls H H1) (n : H1 p = none) : H p = none := by
  cases q : H p with
  | none => rfl
  | some o => obtain ⟨o', e⟩ := a.stay p o q; rw [n] at e; cases e
theorem Ch.new {H : Hp} {p : Addr} {o : HO} (n : H p = none) : Ch [] H (upd H p o) := by
  have k : ∀ b u, H b = some u → (upd H p o) b = some u := fun b u e => by rw [upd_ne (ne_of_none e n)]; exact e
  exact ⟨fun b u e _ => k b u e, fun b xs e => k b _ e, fun b u v e => k b _ e, fun b u e => ⟨u, k b u e⟩⟩
/-- what is written: no tuple, nothing frozen -/
def Wr : HO → Bool
  | .tup _ => false
  | .frz _ _ => false
  | _ => true
theorem Ch.wr {H : Hp} {l : Addr} {u o : HO} (e : H l = some u) (w : Wr u = true) : Ch [l] H (upd H l o) := by
  have k : ∀ b v, H b = some v → b ≠ l → (upd H l o) b = some v := fun b v e h => by rw [upd_ne h]; exact e
  refine ⟨fun b v e' n => k b v e' fun z => n (z ▸ List.mem_singleton.mpr rfl), fun b xs e' => k b _ e' ?_, fun b v z e' => k b _ e' ?_, fun b v e' => ?_⟩
  · rintro rfl; rw [e] at e'; cases e'; cases w
  · rintro rfl; rw [e] at e'; cases e'; cases w
  · by_cases h : b = l
    · subst h; exact ⟨o, upd_same⟩
    · exact ⟨v, k b v e' h⟩
theorem Ch.get0 {H H' : Hp} {b : Addr} {o : HO} (c : Ch [] H H') (e : H b = some o) : H' b = some o := c.keep b o e fun h => nomatch h
theorem Ch.get1 {H H' : Hp} {b l : Addr} {o : HO} (c : Ch [l] H H') (e : H b = some o) (n : b ≠ l) : H' b = some o := c.keep b o e fun h => n (List.mem_singleton.mp h)
theorem Ch.get2 {H H' : Hp} {b l l2 : Addr} {o : HO} (c : Ch [l, l2] H H') (e : H b = some o) (n : b ≠ l) (n2 : b ≠ l2) : H' b = some o := c.keep b o e fun h => by
  rcases List.mem_cons.mp h with h | h
  · exact n h
  · exact n2 (List.mem_singleton.mp h)
theorem Ch.get3 {H H' : Hp} {b l l2 l3 : Addr} {o : HO} (c : Ch [l, l2, l3] H H') (e : H b = some o) (n : b ≠ l) (n2 : b ≠ l2) (n3 : b ≠ l3) : H' b = some o := c.keep b o e fun h => by
  rcases List.mem_cons.mp h with h | h
  · exact n h
  · rcases List.mem_cons.mp h with h | h
    · exact n2 h
    · exact n3 (List.mem_singleton.mp h)
theorem Ch.get4 {H H' : Hp} {b l l2 l3 l4 : Addr} {o : HO} (c : Ch [l, l2, l3, l4] H H') (e : H b = some o) (n : b ≠ l) (n2 : b ≠ l2) (n3 : b ≠ l3) (n4 : b ≠ l4) : H' b = some o := c.keep b o e fun h => by
  rcases List.mem_cons.mp h with h | h
  · exact n h
  · rcases List.mem_cons.mp h with h | h
    · exact n2 h
    · rcases List.mem_cons.mp h with h | h
      · exact n3 h
      · exact n4 (List.mem_singleton.mp h)
/-- tracked: an address with some object -/
def Tk (H : Hp) (a : Addr) : Prop := ∃ o, H a = some o
theorem Tk.of {H : Hp} {a : Addr} {o : HO} (e : H a = some o) : Tk H a := ⟨o, e⟩
theorem Ch.tk {ls : List Addr} {H H' : Hp} {a : Addr} (c : Ch ls H H') (t : Tk H a) : Tk H' a := let ⟨o, e⟩ := t; c.stay a o e
theorem ne_tk {H : Hp} {a b : Addr} (n : H b = none) (t : Tk H a) : a ≠ b := let ⟨_, e⟩ := t; ne_of_none e n
theorem ne_tk' {H : Hp} {a b : Addr} (n : H a = none) (t : Tk H b) : a ≠ b := let ⟨_, e⟩ := t; (ne_of_none e n).symm
theorem ne_n {H : Hp} {a b : Addr} {o : HO} (n : H b = none) (e : H a = some o) : a ≠ b := ne_of_none e n
theorem ne_n' {H : Hp} {a b : Addr} {o : HO} (n : H a = none) (e : H b = some o) : a ≠ b := (ne_of_none e n).symm
section
variable {K : PySem.W.Frag} {ls : List Addr} {H H' : Hp} {a : Addr} {xs : List V}
theorem Ch.sqT (c : Ch ls H H') (h : SqT K H a xs) : SqT K H' a xs := by
  rcases h with (h | ⟨o, h⟩) | h
  · exact .inl (.inl (c.tup _ _ h))
  · exact .inl (.inr ⟨o, c.frz _ _ _ h⟩)
  · exact .inr h
theorem Ch.sqL0 (c : Ch [] H H') (h : SqL K H a xs) : SqL K H' a xs := by
  rcases h with (h | ⟨o, h⟩) | h
  · exact .inl (.inl (c.get0 h))
  · exact .inl (.inr ⟨o, c.frz _ _ _ h⟩)
  · exact .inr h
theorem Ch.sqL (c : Ch ls H H') (h : SqL K H a xs) (n : a ∉ ls) : SqL K H' a xs := by
  rcases h with (h | ⟨o, h⟩) | h
  · exact .inl (.inl (c.keep _ _ h n))
  · exact .inl (.inr ⟨o, c.frz _ _ _ h⟩)
  · exact .inr h
end
mutual
def tupD : PyData → Bool
  | .none => true
  | .bool _ => true
  | .int _ => true
  | .str _ => true
  | .tuple ds => tupDs ds
  | _ => false
def tupDs : List PyData → Bool
  | [] => true
  | d :: ds => tupD d && tupDs ds
end
mutual
theorem Ch.dp {K : PySem.W.Frag} {ls : List Addr} {H H' : Hp} (c : Ch ls H H') : ∀ {d : PyData} {v : V}, tupD d = true → Dp K H v d → Dp K H' v d
  | .none, _, _, h => by cases h; exact .non
  | .bool b, _, _, h => by cases h; exact .bl b
  | .int i, _, _, h => by cases h; exact .int i
  | .str x, _, _, h => by cases h; exact .str x
  | .tuple ds, _, t, h => by
    cases h with
    | tup hs ha => exact .tup (c.sqT hs) (Ch.dpAll c (by unfold tupD at t; exact t) ha)
  | .list ds, _, t, _ => by unfold tupD at t; cases t
  | .dict ds, _, t, _ => by unfold tupD at t; cases t
theorem Ch.dpAll {K : PySem.W.Frag} {ls : List Addr} {H H' : Hp} (c : Ch ls H H') : ∀ {ds : List PyData} {vs : List V}, tupDs ds = true → DpAll K H vs ds → DpAll K H' vs ds
  | [], _, _, h => by cases h; exact .nil
  | d :: ds, _, t, h => by
    unfold tupDs at t
    obtain ⟨t1, t2⟩ := Bool.and_eq_true_iff.mp t
    cases h with
    | cons h1 h2 => exact .cons (Ch.dp c t1 h1) (Ch.dpAll c t2 h2)
end

/-! ### a new object, a written one, with the heap as a letter -/
def kNew (o : HO) (H : Hp) (Q : VK) : Prop := ∀ p H', H p = none → H' p = some o → Ch [] H H' → Q (.ref p) H'
theorem w_new {o : HO} {H : Hp} {Q : VK} (h : kNew o H Q) : ∀ p, H p = none → Q (.ref p) (upd H p o) := fun p n => h p _ n upd_same (Ch.new n)
def kSet (l : Addr) (o : HO) (H : Hp) (k : Hp → Prop) : Prop := ∀ H', H' l = some o → Ch [l] H H' → k H'
theorem w_set {l : Addr} {u o : HO} {H : Hp} {k : Hp → Prop} (e : H l = some u) (w : Wr u = true) (h : kSet l o H k) : k (upd H l o) := h _ upd_same (Ch.wr e w)

/-! ### readings closed upwards -/
section
variable {X : Cx}
theorem paImp {es : List Expr} {t t' : TA} (h : PA X es t) (i : ∀ σ H Q, t' σ H Q → ∃ Q0, t σ H Q0 ∧ ∀ vs H1, Q0 vs H1 → Q vs H1) : PA X es t' := ⟨fun pos pins s σ H Q I q => by
  obtain ⟨Q0, h0, im⟩ := i σ H Q q
  exact thn (h.run pos pins s σ H Q0 I h0) fun us s1 ⟨vs, H1, I1, r, q⟩ => ⟨vs, H1, I1, r, im vs H1 q⟩⟩
def upA (t : TA) : TA := fun σ H Q => ∃ Q0, t σ H Q0 ∧ ∀ vs H1, Q0 vs H1 → Q vs H1
theorem paUp {es : List Expr} {t : TA} (h : PA X es t) : PA X es (upA t) := paImp h fun _ _ _ q => q
theorem peImp {e : Expr} {t t' : TE} (h : PE X e t) (i : ∀ σ H Q, t' σ H Q → t σ H Q) : PE X e t' := ⟨fun pins s σ H Q I q => h.run pins s σ H Q I (i σ H Q q)⟩
theorem OpR.imp {f : Value → Value → Sem Value} {r r' : R2} (h : OpR X f r) (i : ∀ x y H Q, r' x y H Q → r x y H Q) : OpR X f r' := fun pins s σ H x y v u Q I rx ry q => h pins s σ H x y v u Q I rx ry (i _ _ _ _ q)
theorem CallR.imp {f : Value} {r r' : List V → Hp → VK → Prop} (h : CallR X f r) (i : ∀ xs H Q, r' xs H Q → r xs H Q) : CallR X f r' := fun pins s σ H xs us Q I rx q => h pins s σ H xs us Q I rx (i _ _ _ q)
theorem MtR.imp {id : String} {r r' : V → List V → Hp → VK → Prop} (h : MtR X id r) (i : ∀ x xs H Q, r' x xs H Q → r x xs H Q) : MtR X id r' := fun pins s σ H x xs v us Q I rx rxs q => h pins s σ H x xs v us Q I rx rxs (i _ _ _ _ q)
theorem IxR.imp {r r' : R2} (h : IxR X r) (i : ∀ x y H Q, r' x y H Q → r x y H Q) : IxR X r' := fun a b pins s σ H x y v u Q I rx ry q e => h a b pins s σ H x y v u Q I rx ry (i _ _ _ _ q) e
theorem PSet.imp {t t' : TSet} (h : PSet X t) (i : ∀ o j v H Q, t' o j v H Q → t o j v H Q) : PSet X t' := fun pins s σ H o j v ov iv u Q I ro ri rv q => h pins s σ H o j v ov iv u Q I ro ri rv (i _ _ _ _ _ q)

/-! ### displays -/
def kTup (t : TA) : TE := fun σ H Q => t σ H fun xs H1 => xs.length ≤ sizeLine ∧ kNew (.tup xs) H1 Q
def kLst (t : TA) : TE := fun σ H Q => t σ H fun xs H1 => xs.length ≤ sizeLine ∧ kNew (.lst xs) H1 Q
theorem pe_kTup {es : List Expr} {t : TA} {pos : Pos} {x1} (h : PA X es t) : PE X (.Tuple es x1 pos) (kTup t) :=
  peImp (pe_tup (paUp h)) fun _ _ _ q => ⟨_, q, fun _ _ q => ⟨q.1, w_new q.2⟩⟩
theorem pe_kLst {es : List Expr} {t : TA} {pos : Pos} (h : PA X es t) : PE X (.List es pos) (kLst t) :=
  peImp (pe_lst (paUp h)) fun _ _ _ q => ⟨_, q, fun _ _ q => ⟨q.1, w_new q.2⟩⟩
def kDnew : TE := fun _ H Q => kNew (.dK []) H Q
theorem pe_kDnew {pos : Pos} : PE X (.Dict [] [] pos) kDnew := peImp pe_dnewK fun _ _ _ q => w_new q

/-! ### a def of the text, as its callers know it -/
structure Df (P : Program) (w : World) (K : PySem.W.Frag) (mg : Str → Option Value) (base : Heap) (x : Str) (k : Nat) (ps : List Str) (sp : Sp) : Prop where
  ex : ∃ f fd, mg x = some (.ref f) ∧ PySem.W.keepIn K (.ref f) = true ∧ Binds K fd ps [] ∧ FnOk P w K mg base CX0 k f fd ps sp
theorem Df.no {P : Program} {w : World} {K : PySem.W.Frag} {mg : Str → Option Value} {base : Heap} {x q : Str} {st : Stmt} {k : Nat} {ps : List Str} (h : ∃ f fd, mg x = some (.ref f) ∧ Fun K x q st f fd ∧ Binds K fd ps []) : Df P w K mg base x k ps (fun _ _ _ _ => False) :=
  let ⟨f, fd, a, F, b⟩ := h
  ⟨f, fd, a, F.kp, b, fun _ _ _ _ z => z.elim, fun _ _ _ _ _ _ _ _ _ _ _ _ _ z => z.elim⟩
theorem Df.mono {P : Program} {w : World} {K : PySem.W.Frag} {mg : Str → Option Value} {base : Heap} {x : Str} {k j : Nat} {ps : List Str} {sp : Sp} (D : Df P w K mg base x k ps sp) (h : k ≤ j) : Df P w K mg base x j ps sp :=
  let ⟨f, fd, a, b, c, d⟩ := D.ex
  ⟨f, fd, a, b, c, d.mono h⟩
theorem Df.imp {P : Program} {w : World} {K : PySem.W.Frag} {mg : Str → Option Value} {base : Heap} {x : Str} {k : Nat} {ps : List Str} {sp sp' : Sp} (D : Df P w K mg base x k ps sp) (h : ∀ vs H Q E, sp' vs H Q E → sp vs H Q E) : Df P w K mg base x k ps sp' :=
  let ⟨f, fd, a, b, c, d⟩ := D.ex
  ⟨f, fd, a, b, c, d.imp h⟩
/-- f(..) -/
def tFn (sp : Sp) (t : TA) : TE := fun σ H Q => t σ H fun vs H1 => sp vs H1 Q E0
theorem pe_fn {x : Str} {k : Nat} {ps : List Str} {sp : Sp} {e : Expr} {es : List Expr} {p pos : Pos} {t : TA} (D : Df X.prog X.w X.K X.mg X.base x k ps sp) (hr : Room k X.A) (hg : Gl X x) (ha : PA X (e :: es) t)
    (hdb : (x == ("__debug__" : Str)) = false := by decide) (he : starEach (e :: es) X.env = (false, eval e X.env) :: starEach es X.env := by rfl) (hpl : (backTo pos (starEach es X.env)).any (·.1) = false := by rfl) :
    PE X (.Call (.Name x p) (e :: es) [] pos) (tFn sp t) := by
  obtain ⟨f, fd, hm, hk, hb, F⟩ := D.ex
  refine peImp (pe_call (E := E0) F hr hg hm hk hb .nil pass0 (paUp ha) hdb he hpl) fun σ H Q q => ?_
  exact ⟨_, q, fun vs H1 q => by show sp (vs ++ []) H1 Q E0; rw [List.append_nil]; exact q⟩
theorem pe_fn0 {x : Str} {k : Nat} {ps : List Str} {sp : Sp} {p pos : Pos} (D : Df X.prog X.w X.K X.mg X.base x k ps sp) (hr : Room k X.A) (hg : Gl X x)
    (hdb : (x == ("__debug__" : Str)) = false := by decide) : PE X (.Call (.Name x p) [] [] pos) (tFn sp tNil) := by
  obtain ⟨f, fd, hm, hk, hb, F⟩ := D.ex
  exact peImp (pe_call0 (E := E0) F hr hg hm hk hb .nil pass0 hdb) fun σ H Q q => q

/-! ### the rules with named readings -/
def qInt1 : List V → Hp → VK → Prop := fun xs H Q => ∃ i, xs = [.int i] ∧ Q (.int i) H
theorem c_int : CallR X (.type "int") qInt1 := CallR.imp call_int1 fun _ _ _ q => .inl q
def qAbs : List V → Hp → VK → Prop := fun xs H Q => ∃ i, xs = [.int i] ∧ Q (.int (if i < 0 then -i else i)) H
theorem c_abs : CallR X (.builtin "abs") qAbs := call_abs
def qMin2 : List V → Hp → VK → Prop := fun xs H Q => ∃ i j, xs = [.int i, .int j] ∧ Q (.int (if j < i then j else i)) H
theorem c_min2 (hc : X.calm = true) : CallR X (.builtin "min") qMin2 := call_min2 hc
def qMax2 : List V → Hp → VK → Prop := fun xs H Q => ∃ i j, xs = [.int i, .int j] ∧ Q (.int (if j > i then j else i)) H
theorem c_max2 (hc : X.calm = true) : CallR X (.builtin "max") qMax2 := call_max2 hc
def qLenL (K : PySem.W.Frag) : List V → Hp → VK → Prop := fun xs H Q => ∃ p ys, xs = [.ref p] ∧ SqL K H p ys ∧ Q (.int ys.length) H
theorem c_lenL : CallR X (.builtin "len") (qLenL X.K) := CallR.imp call_len_seq fun _ _ _ ⟨p, ys, e, h, q⟩ => ⟨p, ys, e, .inl h, q⟩
def qLenT (K : PySem.W.Frag) : List V → Hp → VK → Prop := fun xs H Q => ∃ p ys, xs = [.ref p] ∧ SqT K H p ys ∧ Q (.int ys.length) H
theorem c_lenT : CallR X (.builtin "len") (qLenT X.K) := CallR.imp call_len_seq fun _ _ _ ⟨p, ys, e, h, q⟩ => ⟨p, ys, e, .inr h, q⟩
def qListL (K : PySem.W.Frag) : List V → Hp → VK → Prop := fun xs H Q => ∃ p ys, xs = [.ref p] ∧ SqL K H p ys ∧ kNew (.lst ys) H Q
theorem c_listL : CallR X (.type "list") (qListL X.K) := CallR.imp call_list_of fun _ _ _ ⟨p, ys, e, h, q⟩ => ⟨p, ys, e, .inl h, w_new q⟩
def qListT (K : PySem.W.Frag) : List V → Hp → VK → Prop := fun xs H Q => ∃ p ys, xs = [.ref p] ∧ SqT K H p ys ∧ kNew (.lst ys) H Q
theorem c_listT : CallR X (.type "list") (qListT X.K) := CallR.imp call_list_of fun _ _ _ ⟨p, ys, e, h, q⟩ => ⟨p, ys, e, .inr h, w_new q⟩
def qTupL (K : PySem.W.Frag) : List V → Hp → VK → Prop := fun xs H Q => ∃ p ys, xs = [.ref p] ∧ SqL K H p ys ∧ kNew (.tup ys) H Q
theorem c_tupL : CallR X (.type "tuple") (qTupL X.K) := CallR.imp call_tuple_of fun _ _ _ ⟨p, ys, e, h, q⟩ => ⟨p, ys, e, .inl ⟨h, w_new q⟩⟩
def qTupT (K : PySem.W.Frag) : List V → Hp → VK → Prop := fun xs H Q => ∃ p ys, xs = [.ref p] ∧ SqT K H p ys ∧ Q (.ref p) H
theorem c_tupT : CallR X (.type "tuple") (qTupT X.K) := call_tupleT
def qSum (K : PySem.W.Frag) : List V → Hp → VK → Prop := rSum K
theorem c_sum (hc : X.calm = true) : CallR X (.builtin "sum") (qSum X.K) := cr_sum hc

def qApp : V → List V → Hp → VK → Prop := fun x vs H Q => ∃ l xs y, x = .ref l ∧ vs = [y] ∧ H l = some (.lst xs) ∧ xs.length < sizeLine ∧ kSet l (.lst (xs ++ [y])) H (Q .non)
theorem m_app : MtR X "list.append" qApp := MtR.imp mt_append fun _ _ _ _ ⟨l, xs, y, e, f, h, z, q⟩ => ⟨l, xs, y, e, f, h, z, w_set (k := fun H' => _) h rfl q⟩
def qExt : V → List V → Hp → VK → Prop := fun x vs H Q => ∃ l b xs zs, x = .ref l ∧ vs = [.ref b] ∧ H l = some (.lst xs) ∧ H b = some (.lst zs) ∧ xs.length + zs.length ≤ sizeLine ∧ kSet l (.lst (xs ++ zs)) H (Q .non)
theorem m_ext : MtR X "list.extend" qExt := MtR.imp mt_extend fun _ _ _ _ ⟨l, b, xs, zs, e, f, h, h2, z, q⟩ => ⟨l, b, xs, zs, e, f, h, h2, z, w_set (k := fun H' => _) h rfl q⟩
def qPop : V → List V → Hp → VK → Prop := fun x vs H Q => ∃ l xs y, x = .ref l ∧ vs = [] ∧ H l = some (.lst xs) ∧ xs[xs.length - 1]? = some y ∧ kSet l (.lst xs.dropLast) H (Q y)
theorem m_pop : MtR X "list.pop" qPop := MtR.imp mt_pop fun _ _ _ _ ⟨l, xs, y, e, f, h, z, q⟩ => ⟨l, xs, y, e, f, h, z, w_set (k := fun H' => _) h rfl q⟩

def qSetL : V → V → V → Hp → (Hp → Prop) → Prop := fun o i v H Q => ∃ p xs k j, o = .ref p ∧ i = .int k ∧ H p = some (.lst xs) ∧ ixN xs.length k = some j ∧ kSet p (.lst (xs.set j v)) H Q
theorem s_lst : PSet X qSetL := PSet.imp set_list fun _ _ _ _ _ ⟨p, xs, k, j, e, f, h, z, q⟩ => ⟨p, xs, k, j, e, f, h, z, w_set (k := fun H' => _) h rfl q⟩
def qRep : R2 := fun x y H Q => ∃ l k xs, x = .ref l ∧ y = .int k ∧ H l = some (.lst xs) ∧ -(2 ^ 63) ≤ k ∧ k < 2 ^ 63 ∧ xs.length * k.toNat ≤ sizeLine ∧ kNew (.lst (List.replicate k.toNat xs).flatten) H Q
theorem o_rep : OpR X (binaryOp .Mult) qRep := OpR.imp op_rep fun _ _ _ _ ⟨l, k, xs, e, f, h, z1, z2, z3, q⟩ => ⟨l, k, xs, e, f, h, z1, z2, z3, w_new q⟩
def qCatL : R2 := fun x y H Q => ∃ l b xs zs, x = .ref l ∧ y = .ref b ∧ H l = some (.lst xs) ∧ H b = some (.lst zs) ∧ xs.length + zs.length ≤ sizeLine ∧ kNew (.lst (xs ++ zs)) H Q
theorem o_catL : OpR X (binaryOp .Add) qCatL := OpR.imp op_cat fun _ _ _ _ ⟨l, b, xs, zs, e, f, h, h2, z, q⟩ => ⟨l, b, xs, zs, e, f, h, h2, z, w_new q⟩
/-- tuple + tuple: the result stands at some address as a tuple -/
def qCatT (K : PySem.W.Frag) : R2 := fun x y H Q => ∃ a b xs ys, x = .ref a ∧ y = .ref b ∧ SqT K H a xs ∧ SqT K H b ys ∧ xs.length + ys.length ≤ sizeLine ∧ ∀ p H', SqT K H' p (xs ++ ys) → Ch [] H H' → Q (.ref p) H'
theorem o_catT : OpR X (binaryOp .Add) (qCatT X.K) := OpR.imp op_catA fun _ _ H Q ⟨a, b, xs, ys, e, f, h, h2, z, q⟩ =>
  ⟨a, b, xs, ys, e, f, h, h2, z, fun e => q b H (by rw [e]; exact h2) Ch.refl, fun _ e => q a H (by rw [e, List.append_nil]; exact h) Ch.refl, fun _ _ p n => q p _ (SqT.of upd_same) (Ch.new n)⟩
def qCut (K : PySem.W.Frag) : V → Option Int → Option Int → Hp → VK → Prop := fun x lo hi H Q => ∃ a xs, x = .ref a ∧ SqT K H a xs ∧ ∀ p H', SqT K H' p (cutV xs lo hi) → Ch [] H H' → Q (.ref p) H'
theorem sl_T : SlR X (qCut X.K) := fun pins s σ H x v vl vu lo hi sl Q I rx hs hl hu ⟨a, xs, e, h, q⟩ =>
  sl_tupA pins s σ H x v vl vu lo hi sl Q I rx hs hl hu ⟨a, xs, e, h, fun z => q a H (by
    unfold cutV
    rw [z.1, z.2, List.drop_zero, Nat.sub_zero, List.take_length]
    exact h) Ch.refl, fun _ p n => q p _ (SqT.of upd_same) (Ch.new n)⟩
def qCutL (K : PySem.W.Frag) : V → Option Int → Option Int → Hp → VK → Prop := fun x lo hi H Q => ∃ a xs, x = .ref a ∧ SqL K H a xs ∧ kNew (.lst (cutV xs lo hi)) H Q
theorem sl_L : SlR X (qCutL X.K) := fun pins s σ H x v vl vu lo hi sl Q I rx hs hl hu ⟨a, xs, e, h, q⟩ =>
  sl_list pins s σ H x v vl vu lo hi sl Q I rx hs hl hu ⟨a, xs, e, h, w_new q⟩
def qInL (K : PySem.W.Frag) (neg : Bool) : R2 := fun x y H Q => ∃ p xs, y = .ref p ∧ SqL K H p xs ∧ flatV x = true ∧ xs.all flatV = true ∧ Q (.bl (if neg then !inV x xs else inV x xs)) H
theorem o_inL : OpR X (compareOp .In) (qInL X.K false) := OpR.imp op_in_seq fun _ _ _ _ ⟨p, xs, e, h, f, g, q⟩ => ⟨p, xs, e, .inl h, f, g, q⟩
theorem o_ninL : OpR X (compareOp .NotIn) (qInL X.K true) := OpR.imp op_notIn_seq fun _ _ _ _ ⟨p, xs, e, h, f, g, q⟩ => ⟨p, xs, e, .inl h, f, g, q⟩
def qInT (K : PySem.W.Frag) (neg : Bool) : R2 := fun x y H Q => ∃ p xs, y = .ref p ∧ SqT K H p xs ∧ flatV x = true ∧ xs.all flatV = true ∧ Q (.bl (if neg then !inV x xs else inV x xs)) H
theorem o_inT : OpR X (compareOp .In) (qInT X.K false) := OpR.imp op_in_seq fun _ _ _ _ ⟨p, xs, e, h, f, g, q⟩ => ⟨p, xs, e, .inr h, f, g, q⟩
theorem o_ninT : OpR X (compareOp .NotIn) (qInT X.K true) := OpR.imp op_notIn_seq fun _ _ _ _ ⟨p, xs, e, h, f, g, q⟩ => ⟨p, xs, e, .inr h, f, g, q⟩
end
end Kt

/-! ### readings step by step -/
namespace Kt
open PySem PySem.Spec PyProof.Rows L2
section
variable {K : PySem.W.Frag} {σ : L2.St} {H : Hp} {i j : Nat} {v x y z : V} {ta tb te tv : TE} {t u : TS} {tt uu : TT} {as : TA} {b : Bool} {a C dx : Addr} {fs : List (Str × V)} {f : Str} {Q : VK} {D : Ends} {xs ys : List V} {n m : Int}
theorem w_seq (h : t { D with nx := u D } σ H) : tSeq t u D σ H := h
theorem w_nx (h : D.nx σ H) : tNext D σ H := h
theorem w_asg {g : TG} (h : te σ H fun x H1 => g x σ H1 D.nx) : tAsg te g D σ H := h
theorem w_gn {R : L2.St → Hp → Prop} (h : R (σ.set i (some v)) H) : gName i v σ H R := h
theorem w_drop (h : te σ H fun _ H1 => D.nx σ H1) : tDrop te D σ H := h
theorem w_ret (h : te σ H D.rt) : tRet te D σ H := h
theorem w_retN (h : D.rt .non H) : tRetN D σ H := h
theorem w_brk (h : D.bk σ H) : tBreak D σ H := h
theorem w_cnt (h : D.ct σ H) : tCont D σ H := h
theorem w_if (h : tt σ H fun b H1 => if b = true then t D σ H1 else u D σ H1) : tIfS tt t u D σ H := h
theorem w_var (e : σ[i]? = some (some v)) (q : Q v H) : tVar i σ H Q := ⟨v, e, q⟩
theorem w_c (q : Q v H) : tC v σ H Q := q
theorem w_op {r : R2} (h : ta σ H fun x H1 => tb σ H1 fun y H2 => r x y H2 Q) : tOp r ta tb σ H Q := h
theorem w_un {r : V → Hp → VK → Prop} (h : ta σ H fun x H1 => r x H1 Q) : tUn r ta σ H Q := h
theorem w_rI {Cc : Int → Int → Prop} {g : Int → Int → V} (c : Cc n m) (q : Q (g n m) H) : rI Cc g (.int n) (.int m) H Q := ⟨n, m, rfl, rfl, c, q⟩
theorem w_rI0 {g : Int → Int → V} (q : Q (g n m) H) : rI0 g (.int n) (.int m) H Q := ⟨n, m, rfl, rfl, q⟩
theorem w_rU {g : Int → V} (q : Q (g n) H) : rU g (.int n) H Q := ⟨n, rfl, q⟩
theorem w_test {P : Bool → Hp → Prop} (h : te σ H fun x H' => ∃ k, x = .bl k ∧ P k H') : tTest te σ H P := h
theorem w_tB {P : Bool → Hp → Prop} (h : te σ H fun x H' => ∃ k, x = .bl k ∧ P k H') : tB te σ H P := h
theorem w_bl {P : Bool → Prop} (h : P b) : ∃ k, V.bl b = .bl k ∧ P k := ⟨b, rfl, h⟩
theorem w_not {P : Bool → Hp → Prop} (h : tt σ H fun c H1 => P (!c) H1) : tNot tt σ H P := h
theorem w_and {P : Bool → Hp → Prop} (h : tt σ H fun c H1 => if c = true then uu σ H1 P else P false H1) : tAnd tt uu σ H P := h
theorem w_or {P : Bool → Hp → Prop} (h : tt σ H fun c H1 => if c = true then P true H1 else uu σ H1 P) : tOr tt uu σ H P := h
theorem w_ifx (h : tt σ H fun c H1 => if c = true then ta σ H1 Q else tb σ H1 Q) : tIf tt ta tb σ H Q := h
theorem w_andV (h : ta σ H fun x H1 => ∃ c, x = .bl c ∧ if c = true then tb σ H1 Q else Q (.bl false) H1) : tAndV ta tb σ H Q := h
theorem w_orV (h : ta σ H fun x H1 => ∃ c, x = .bl c ∧ if c = true then Q (.bl true) H1 else tb σ H1 Q) : tOrV ta tb σ H Q := h
theorem w_notV (h : ta σ H fun x H1 => ∃ c, x = .bl c ∧ Q (.bl (!c)) H1) : tNotV ta σ H Q := h
theorem w_eqI (q : Q (.bl (decide (n = m))) H) : rEq (.int n) (.int m) H Q := ⟨rfl, by
  have e : decide (V.int n = V.int m) = decide (n = m) := by
    by_cases h : n = m
    · rw [decide_eq_true h, h]; exact decide_eq_true rfl
    · rw [decide_eq_false h]; exact decide_eq_false fun z => h (V.int.inj z)
  rw [e]; exact q⟩
theorem w_neI (q : Q (.bl (!decide (n = m))) H) : rNe (.int n) (.int m) H Q := ⟨rfl, by
  have e : decide (V.int n = V.int m) = decide (n = m) := by
    by_cases h : n = m
    · rw [decide_eq_true h, h]; exact decide_eq_true rfl
    · rw [decide_eq_false h]; exact decide_eq_false fun z => h (V.int.inj z)
  rw [e]; exact q⟩
theorem w_eqS {s s' : Str} (q : Q (.bl (decide (s = s'))) H) : rEq (.str s) (.str s') H Q := ⟨rfl, by
  have e : decide (V.str s = V.str s') = decide (s = s') := by
    by_cases h : s = s'
    · rw [decide_eq_true h, h]; exact decide_eq_true rfl
    · rw [decide_eq_false h]; exact decide_eq_false fun z => h (V.str.inj z)
  rw [e]; exact q⟩
theorem w_neS {s s' : Str} (q : Q (.bl (!decide (s = s'))) H) : rNe (.str s) (.str s') H Q := ⟨rfl, by
  have e : decide (V.str s = V.str s') = decide (s = s') := by
    by_cases h : s = s'
    · rw [decide_eq_true h, h]; exact decide_eq_true rfl
    · rw [decide_eq_false h]; exact decide_eq_false fun z => h (V.str.inj z)
  rw [e]; exact q⟩
theorem w_eqB {k k' : Bool} (q : Q (.bl (k == k')) H) : rEq (.bl k) (.bl k') H Q := ⟨rfl, by
  have e : decide (V.bl k = V.bl k') = (k == k') := by cases k <;> cases k' <;> rfl
  rw [e]; exact q⟩
theorem w_nil {R : List V → Hp → Prop} (q : R [] H) : tNil σ H R := q
theorem w_cons {R : List V → Hp → Prop} (h : ta σ H fun x H1 => as σ H1 fun xs H2 => R (x :: xs) H2) : tCons ta as σ H R := h
theorem w_fn {sp : Sp} (h : as σ H fun vs H1 => sp vs H1 Q E0) : tFn sp as σ H Q := h
theorem w_cb {r : List V → Hp → VK → Prop} (h : as σ H fun vs H1 => r vs H1 Q) : tCB r as σ H Q := h
theorem w_tup (h : as σ H fun xs H1 => xs.length ≤ sizeLine ∧ kNew (.tup xs) H1 Q) : kTup as σ H Q := h
theorem w_lst (h : as σ H fun xs H1 => xs.length ≤ sizeLine ∧ kNew (.lst xs) H1 Q) : kLst as σ H Q := h
theorem w_kNew {o : HO} (h : ∀ p H', H p = none → H' p = some o → Ch [] H H' → Q (.ref p) H') : kNew o H Q := h
theorem w_kNewS {o : HO} (l : xs.length ≤ sizeLine) (h : ∀ p H', H p = none → H' p = some o → Ch [] H H' → Q (.ref p) H') : xs.length ≤ sizeLine ∧ kNew o H Q := ⟨l, h⟩
theorem w_kSet {o : HO} {k : Hp → Prop} (h : ∀ H', H' a = some o → Ch [a] H H' → k H') : kSet a o H k := h
theorem w_int (q : Q (.int n) H) : qInt1 [.int n] H Q := ⟨n, rfl, q⟩
theorem w_abs (q : Q (.int (if n < 0 then -n else n)) H) : qAbs [.int n] H Q := ⟨n, rfl, q⟩
theorem w_min2 (q : Q (.int (if m < n then m else n)) H) : qMin2 [.int n, .int m] H Q := ⟨n, m, rfl, q⟩
theorem w_max2 (q : Q (.int (if m > n then m else n)) H) : qMax2 [.int n, .int m] H Q := ⟨n, m, rfl, q⟩
theorem w_lenL (h : SqL K H a ys) (q : Q (.int ys.length) H) : qLenL K [.ref a] H Q := ⟨a, ys, rfl, h, q⟩
theorem w_lenT (h : SqT K H a ys) (q : Q (.int ys.length) H) : qLenT K [.ref a] H Q := ⟨a, ys, rfl, h, q⟩
theorem w_listL (h : SqL K H a ys) (q : kNew (.lst ys) H Q) : qListL K [.ref a] H Q := ⟨a, ys, rfl, h, q⟩
theorem w_listT (h : SqT K H a ys) (q : kNew (.lst ys) H Q) : qListT K [.ref a] H Q := ⟨a, ys, rfl, h, q⟩
theorem w_tupL (h : SqL K H a ys) (q : kNew (.tup ys) H Q) : qTupL K [.ref a] H Q := ⟨a, ys, rfl, h, q⟩
theorem w_tupT (h : SqT K H a ys) (q : Q (.ref a) H) : qTupT K [.ref a] H Q := ⟨a, ys, rfl, h, q⟩
theorem w_bm {T : String} {r : V → List V → Hp → VK → Prop} (h : te σ H fun x H1 => tyV K T x H1 ∧ as σ H1 fun xs H2 => r x xs H2 Q) : tBM K T r te as σ H Q := h
theorem w_bm0 {T : String} {r : V → List V → Hp → VK → Prop} (h : te σ H fun x H1 => tyV K T x H1 ∧ r x [] H1 Q) : tBM0 K T r te σ H Q := h
theorem w_tyL {A : Prop} (h : H a = some (.lst xs)) (q : A) : tyV K "list" (.ref a) H ∧ A := ⟨.inl ⟨rfl, _, .inl (.inl h)⟩, q⟩
theorem w_app (h : H a = some (.lst xs)) (l : xs.length < sizeLine) (q : ∀ H', H' a = some (.lst (xs ++ [y])) → Ch [a] H H' → Q .non H') : qApp (.ref a) [y] H Q := ⟨a, xs, y, rfl, rfl, h, l, q⟩
theorem w_pop (h : H a = some (.lst (xs ++ [y]))) (q : ∀ H', H' a = some (.lst xs) → Ch [a] H H' → Q y H') : qPop (.ref a) [] H Q :=
  ⟨a, xs ++ [y], y, rfl, rfl, h, by simp, by rw [List.dropLast_concat]; exact q⟩
theorem w_setL {R : Hp → Prop} (h : H a = some (.lst xs)) (g : ixN xs.length n = some j) (q : ∀ H', H' a = some (.lst (xs.set j v)) → Ch [a] H H' → R H') : qSetL (.ref a) (.int n) v H R := ⟨a, xs, n, j, rfl, rfl, h, g, q⟩
theorem w_gsub {to ti : TE} {ts : TSet} {R : L2.St → Hp → Prop} (h : to σ H fun o H1 => ti σ H1 fun i H2 => ts o i v H2 fun H3 => R σ H3) : gSub to ti ts v σ H R := h
theorem w_ixL (h : SqL K H a xs) (g : atI xs n = some v) (q : Q v H) : rIxL K (.ref a) (.int n) H Q := ⟨a, xs, n, v, rfl, rfl, h, g, q⟩
theorem w_ixT (h : SqT K H a xs) (g : atI xs n = some v) (q : Q v H) : rIxT K (.ref a) (.int n) H Q := ⟨a, xs, n, v, rfl, rfl, h, g, q⟩
theorem w_fld0 {P : V → Hp → Prop} (ho : H a = some (.ins C dx fs)) (hc : Cls K C) (hn : NoAttr K C f) (hl : fs.lookup f = some v) (q : P v H) : ∃ a' C dx fs v', V.ref a = .ref a' ∧ H a' = some (.ins C dx fs) ∧ Cls K C ∧ NoAttr K C f ∧ fs.lookup f = some v' ∧ P v' H :=
  ⟨a, C, dx, fs, v, rfl, ho, hc, hn, hl, q⟩
theorem w_tFld0 (h : te σ H fun x H1 => ∃ a C dx fs v, x = .ref a ∧ H1 a = some (.ins C dx fs) ∧ Cls K C ∧ NoAttr K C f ∧ fs.lookup f = some v ∧ Q v H1) : tFld K te f σ H Q := h
theorem w_for {wi : TI} {g : TG} (h : wi σ H fun J H1 => ∃ W : Nat → Nat → L2.St → Hp → Prop, (∃ m, W 0 m σ H1) ∧ ∀ i m σ H, W i m σ H →
  (J.stop i H ∧ D.nx σ H) ∨ (J.go i H ∧ ∃ N : L2.St → Hp → Prop, (∀ σ' H', N σ' H' → ∃ m', m' < m ∧ W (i + 1) m' σ' H') ∧ ∀ x H', J.yld i H x H' → g x σ H' fun σ2 H2 => t { D with nx := N, ct := N, bk := D.nx } σ2 H2)) : tFor wi g t D σ H := h
theorem w_iList {R : It → Hp → Prop} (h : te σ H fun x H1 => ∃ a, x = .ref a ∧ (∃ xs, SqL K H1 a xs) ∧ R (Itl K a) H1) : iList K te σ H R := h
theorem w_iTup {R : It → Hp → Prop} (h : te σ H fun x H1 => ∃ a, x = .ref a ∧ (∃ xs, SqT K H1 a xs) ∧ R (Itt K a) H1) : iTup K te σ H R := h
theorem w_iRng1 {R : It → Hp → Prop} (h : as σ H fun vs H1 => ∃ j : Int, vs = [.int j] ∧ -(2 ^ 62) ≤ j ∧ j < 2 ^ 62 ∧ R (Itr 0 j.toNat) H1) : iRng1 as σ H R := h
/-- the loops, behind their head -/
theorem k_list {g : TG} (hT : SqL K H a xs) (Pv : Nat → L2.St → Hp → Prop) (h0 : Pv 0 σ H) (hl : ∀ i σ H, i ≤ xs.length → Pv i σ H → SqL K H a xs)
    (hs : ∀ i x σ H, xs[i]? = some x → Pv i σ H → g x σ H fun σ2 H2 => t { D with nx := Pv (i + 1), ct := Pv (i + 1), bk := D.nx } σ2 H2) (hd : ∀ σ H, Pv xs.length σ H → D.nx σ H) :
    ∃ a', V.ref a = .ref a' ∧ (∃ xs, SqL K H a' xs) ∧ ∃ W : Nat → Nat → L2.St → Hp → Prop, (∃ m, W 0 m σ H) ∧ ∀ i m σ H, W i m σ H →
  ((Itl K a').stop i H ∧ D.nx σ H) ∨ ((Itl K a').go i H ∧ ∃ N : L2.St → Hp → Prop, (∀ σ' H', N σ' H' → ∃ m', m' < m ∧ W (i + 1) m' σ' H') ∧ ∀ x H', (Itl K a').yld i H x H' → g x σ H' fun σ2 H2 => t { D with nx := N, ct := N, bk := D.nx } σ2 H2) :=
  ⟨a, rfl, ⟨xs, hT⟩, for_list Pv h0 hl hs hd⟩
theorem k_tup {g : TG} (hT : SqT K H a xs) (Pv : Nat → L2.St → Hp → Prop) (h0 : Pv 0 σ H) (hl : ∀ i σ H, i ≤ xs.length → Pv i σ H → SqT K H a xs)
    (hs : ∀ i x σ H, xs[i]? = some x → Pv i σ H → g x σ H fun σ2 H2 => t { D with nx := Pv (i + 1), ct := Pv (i + 1), bk := D.nx } σ2 H2) (hd : ∀ σ H, Pv xs.length σ H → D.nx σ H) :
    ∃ a', V.ref a = .ref a' ∧ (∃ xs, SqT K H a' xs) ∧ ∃ W : Nat → Nat → L2.St → Hp → Prop, (∃ m, W 0 m σ H) ∧ ∀ i m σ H, W i m σ H →
  ((Itt K a').stop i H ∧ D.nx σ H) ∨ ((Itt K a').go i H ∧ ∃ N : L2.St → Hp → Prop, (∀ σ' H', N σ' H' → ∃ m', m' < m ∧ W (i + 1) m' σ' H') ∧ ∀ x H', (Itt K a').yld i H x H' → g x σ H' fun σ2 H2 => t { D with nx := N, ct := N, bk := D.nx } σ2 H2) :=
  ⟨a, rfl, ⟨xs, hT⟩, for_tup Pv h0 hl hs hd⟩
theorem k_rng {g : TG} {n : Int} (k : Nat) (hn : n.toNat = k) (h1 : -(2 ^ 62) ≤ n) (h2 : n < 2 ^ 62) (Pv : Nat → L2.St → Hp → Prop) (h0 : Pv 0 σ H)
    (hs : ∀ (i : Nat) σ H, i < k → Pv i σ H → g (.int (i : Int)) σ H fun σ2 H2 => t { D with nx := Pv (i + 1), ct := Pv (i + 1), bk := D.nx } σ2 H2) (hd : ∀ σ H, Pv k σ H → D.nx σ H) :
    ∃ j : Int, [V.int n] = [.int j] ∧ -(2 ^ 62) ≤ j ∧ j < 2 ^ 62 ∧ ∃ W : Nat → Nat → L2.St → Hp → Prop, (∃ m, W 0 m σ H) ∧ ∀ i m σ H, W i m σ H →
  ((Itr 0 j.toNat).stop i H ∧ D.nx σ H) ∨ ((Itr 0 j.toNat).go i H ∧ ∃ N : L2.St → Hp → Prop, (∀ σ' H', N σ' H' → ∃ m', m' < m ∧ W (i + 1) m' σ' H') ∧ ∀ x H', (Itr 0 j.toNat).yld i H x H' → g x σ H' fun σ2 H2 => t { D with nx := N, ct := N, bk := D.nx } σ2 H2) := by
  subst hn
  refine ⟨n, rfl, h1, h2, for_range Pv h0 (fun i σ H hi p => ?_) hd⟩
  have e : (0 : Int) + (i : Int) = (i : Int) := Int.zero_add _
  rw [e]
  exact hs i σ H hi p
/-- a test that is decided -/
theorem w_T {A B : Prop} (c : b = true) (h : A) : if b = true then A else B := by rw [if_pos c]; exact h
theorem w_F {A B : Prop} (c : b = false) (h : B) : if b = true then A else B := by rw [if_neg (by rw [c]; exact Bool.false_ne_true)]; exact h
theorem w_D {c A B : Prop} [Decidable c] (h1 : c → A) (h2 : ¬ c → B) : if decide c = true then A else B := by
  by_cases h : c
  · rw [if_pos (decide_eq_true h)]; exact h1 h
  · rw [if_neg (by rw [decide_eq_false h]; exact Bool.false_ne_true)]; exact h2 h
theorem w_ND {c A B : Prop} [Decidable c] (h1 : ¬ c → A) (h2 : c → B) : if (!decide c) = true then A else B := by
  by_cases h : c
  · rw [decide_eq_true h]; exact h2 h
  · rw [decide_eq_false h]; exact h1 h
theorem w_B {A B : Prop} (h1 : b = true → A) (h2 : b = false → B) : if b = true then A else B := by
  cases b
  · exact h2 rfl
  · exact h1 rfl
end
end Kt
/-! ### growth, freshness, changes put together -/
namespace Kt
open PySem PySem.Spec PyProof.Rows L2
def Gr (H H' : Hp) : Prop := ∀ b o, H b = some o → ∃ o', H' b = some o'
theorem Gr.refl {H : Hp} : Gr H H := fun _ o e => ⟨o, e⟩
theorem Gr.step {ls : List Addr} {H H1 H2 : Hp} (c : Ch ls H1 H2) (g : Gr H H1) : Gr H H2 := fun b o e => let ⟨o', e'⟩ := g b o e; c.stay b o' e'
theorem Gr.no {H H1 : Hp} {p : Addr} (n : H1 p = none) (g : Gr H H1) : H p = none := by
  cases q : H p with
  | none => rfl
  | some o => obtain ⟨o', e⟩ := g p o q; rw [n] at e; cases e
theorem Ch.stepN {ls ls' : List Addr} {H H1 H2 : Hp} (b : Ch ls' H1 H2) (a : Ch ls H H1) (s : ∀ x ∈ ls', x ∈ ls ∨ H x = none) : Ch ls H H2 :=
  ⟨fun c o e n => b.keep c o (a.keep c o e n) fun m => (s c m).elim n fun z => (by rw [z] at e; cases e), fun c xs e => b.tup c xs (a.tup c xs e), fun c o u e => b.frz c o u (a.frz c o u e), fun c o e => let ⟨o', e'⟩ := a.stay c o e; b.stay c o' e'⟩
theorem sub0 {P : Addr → Prop} : ∀ x ∈ ([] : List Addr), P x := fun _ h => nomatch h
theorem sub1 {P : Addr → Prop} {a : Addr} (h : P a) : ∀ x ∈ [a], P x := fun x m => by rw [List.mem_singleton.mp m]; exact h
theorem sub2 {P : Addr → Prop} {a b : Addr} (h : P a) (h2 : P b) : ∀ x ∈ [a, b], P x := fun x m => by
  rcases List.mem_cons.mp m with e | m
  · rw [e]; exact h
  · rw [List.mem_singleton.mp m]; exact h2
theorem sub3 {P : Addr → Prop} {a b c : Addr} (h : P a) (h2 : P b) (h3 : P c) : ∀ x ∈ [a, b, c], P x := fun x m => by
  rcases List.mem_cons.mp m with e | m
  · rw [e]; exact h
  · exact sub2 h2 h3 x m
theorem sub4 {P : Addr → Prop} {a b c d : Addr} (h : P a) (h2 : P b) (h3 : P c) (h4 : P d) : ∀ x ∈ [a, b, c, d], P x := fun x m => by
  rcases List.mem_cons.mp m with e | m
  · rw [e]; exact h
  · exact sub3 h2 h3 h4 x m
theorem atI_map {α : Type} (g : α → V) (f : List α) {a : Int} (h0 : 0 ≤ a) (h1 : a < f.length) : ∃ x, f[a.toNat]? = some x ∧ x ∈ f ∧ atI (f.map g) a = some (g x) := by
  obtain ⟨k, rfl⟩ := Int.eq_ofNat_of_zero_le h0
  have h2 : k < f.length := by omega
  refine ⟨f[k], List.getElem?_eq_getElem h2, List.getElem_mem h2, atI_nat ?_⟩
  rw [List.getElem?_map, List.getElem?_eq_getElem h2]
  rfl

/-! ### the laws' draws -/
/-- the drawing list at l, its feed at fl -/
structure Dr (H : Hp) (l fl : Addr) : Prop where
  ex : ∃ (at_ seed : Int) (feed : List Int), H l = some (.lst [.int at_, .ref fl, .int seed]) ∧ H fl = some (.lst (feed.map V.int)) ∧ 0 ≤ at_ ∧ 0 ≤ seed ∧ seed ≤ 2147483648
theorem Dr.ne {H : Hp} {l fl : Addr} (d : Dr H l fl) : l ≠ fl := by
  obtain ⟨a, s, f, h1, h2, _⟩ := d.ex
  rintro rfl
  rw [h1] at h2
  cases f with
  | nil => cases h2
  | cons x r => cases r with
    | nil => cases h2
    | cons y r => cases h2
theorem Dr.tl {H : Hp} {l fl : Addr} (d : Dr H l fl) : Tk H l := let ⟨_, _, _, h, _⟩ := d.ex; ⟨_, h⟩
theorem Dr.tf {H : Hp} {l fl : Addr} (d : Dr H l fl) : Tk H fl := let ⟨_, _, _, _, h, _⟩ := d.ex; ⟨_, h⟩
theorem Dr.ch {H H' : Hp} {l fl : Addr} {ls : List Addr} (c : Ch ls H H') (d : Dr H l fl) (n : l ∉ ls) (n2 : fl ∉ ls) : Dr H' l fl := by
  obtain ⟨a, s, f, h1, h2, h3⟩ := d.ex
  exact ⟨a, s, f, c.keep _ _ h1 n, c.keep _ _ h2 n2, h3⟩
theorem Dr.ch0 {H H' : Hp} {l fl : Addr} (c : Ch [] H H') (d : Dr H l fl) : Dr H' l fl := d.ch c (fun h => nomatch h) (fun h => nomatch h)
def spPick : Sp := fun vs H Q _ => ∃ (l fl : Addr) (m : Int), vs = [.ref l, .int m] ∧ Dr H l fl ∧ 0 < m ∧ ∀ (n : Int) H', 0 ≤ n → n < m → Dr H' l fl → Ch [l] H H' → Q (.int n) H'
theorem use_pick {l fl : Addr} {m : Int} {H : Hp} {Q : VK} (d : Dr H l fl) (h : 0 < m) (q : ∀ (n : Int) H', 0 ≤ n → n < m → Dr H' l fl → Ch [l] H H' → Q (.int n) H') : spPick [.ref l, .int m] H Q E0 := ⟨l, fl, m, rfl, d, h, q⟩
/-- a list that stands for ever: the script -/
def FzL (K : PySem.W.Frag) (H : Hp) (a : Addr) (xs : List V) : Prop := (∃ o, H a = some (.frz o (.lst xs))) ∨
    ∃ (o : Obj) (its : Array Value) (n : Nat), K.lookup a = some o ∧ o.cls = .type "list" ∧ o.dict = none ∧ o.data = .seq its n ∧ its.size ≤ sizeLine ∧ Vals xs its.toList
theorem FzL.sqL {K : PySem.W.Frag} {H : Hp} {a : Addr} {xs : List V} (h : FzL K H a xs) : SqL K H a xs := h.elim (fun h => .inl (.inr h)) .inr
theorem Ch.fz {K : PySem.W.Frag} {H H' : Hp} {a : Addr} {xs : List V} {ls : List Addr} (c : Ch ls H H') (h : FzL K H a xs) : FzL K H' a xs := h.elim (fun ⟨o, h⟩ => .inl ⟨o, c.frz _ _ _ h⟩) .inr
theorem fz_of {K : PySem.W.Frag} {H : Hp} {a : Addr} {xs : List V} (O : Only H) (h : SqL K H a xs) : FzL K H a xs := by
  rcases h with (h | h) | h
  · rcases O a with q | ⟨o, ys, q⟩
    · rw [q] at h; cases h
    · rw [q] at h; cases h
  · exact .inl h
  · exact .inr h
theorem lt_size {n : Nat} (h : n < 1000000) : n < sizeLine := Nat.lt_trans h (by decide)
theorem le_size {n : Nat} (h : n ≤ 1000000) : n ≤ sizeLine := Nat.le_trans h (by decide)
def spDraws (K : PySem.W.Frag) : Sp := fun vs H Q _ => ∃ (a : Addr) (ns : List Int), vs = [.ref a] ∧ FzL K H a (ns.map V.int) ∧ ns.length ≤ 63 ∧ ∀ (l fl : Addr) H', H l = none → H fl = none → Dr H' l fl → Ch [] H H' → Q (.ref l) H'
end Kt
/-! ### objects, methods, dicts, isinstance, while -/
namespace Kt
open PySem PySem.Spec PyProof.Rows L2
def upE (t : TE) : TE := fun σ H Q => ∃ Q0, t σ H Q0 ∧ ∀ v H1, Q0 v H1 → Q v H1
theorem peUp {X : Cx} {e : Expr} {t : TE} (h : PE X e t) : PE X e (upE t) := ⟨fun pins s σ H Q I ⟨Q0, h0, im⟩ =>
  thn (h.run pins s σ H Q0 I h0) fun u s1 ⟨v, H1, I1, r, q⟩ => ⟨v, H1, I1, r, im v H1 q⟩⟩
theorem psImp {X : Cx} {st : Stmt} {t t' : TS} (h : PS X st t) (i : ∀ D σ H, t' D σ H → t D σ H) : PS X st t' := ⟨fun pins s σ H D I q => h.run pins s σ H D I (i D σ H q)⟩
/-- a method, as its callers know it -/
structure Dm (P : Program) (w : World) (K : PySem.W.Frag) (mg : Str → Option Value) (base : Heap) (C : Addr) (m : Str) (k : Nat) (ps : List Str) (sp : Sp) : Prop where
  ex : ∃ f fd, PySem.W.findIn K (.ref C) m = some (some (.ref f)) ∧ PySem.W.isFn K (.ref f) = true ∧ PySem.W.keepIn K (.ref f) = true ∧ Binds K fd ps [] ∧ FnOk P w K mg base CX0 k f fd ps sp
structure MkC (K : PySem.W.Frag) (C : Addr) : Prop where
  makes : PySem.W.makesIn K C = true
  kp : PySem.W.keepIn K (.ref C) = true
def qSelf (C : Addr) (m : Str) (x : V) (H : Hp) (P : Prop) : Prop := ∃ a dx fs, x = .ref a ∧ H a = some (.ins C dx fs) ∧ fs.lookup m = none ∧ P
def kMt (C : Addr) (m : Str) (sp : Sp) (ta : TE) (t : TA) : TE := fun σ H Q => ta σ H fun x H1 => qSelf C m x H1 (t σ H1 fun vs H2 => sp (x :: vs) H2 Q E0)
def kMk (C : Addr) (sp : Sp) (t : TA) : TE := fun σ H Q => t σ H fun vs H1 => ∀ x dx H', H1 x = none → H' x = some (.ins C dx []) → Ch [] H1 H' → sp (.ref x :: vs) H' (fun v H2 => v = .non ∧ Q (.ref x) H2) E0
section
variable {X : Cx}
theorem pe_mt {C : Addr} {m : Str} {k : Nat} {ps : List Str} {sp : Sp} {o e : Expr} {es : List Expr} {ta : TE} {t : TA} {apos pos : Pos} {pl : Sem Bool} (he : PE X o ta) (c : Cls X.K C) (D : Dm X.prog X.w X.K X.mg X.base C m k ps sp) (hr : Room k X.A) (ha : PA X (e :: es) t)
    (hst : starEach (e :: es) X.env = (false, eval e X.env) :: starEach es X.env := by rfl) (hpl : (backTo pos (starEach es X.env)).any (·.1) = false := by rfl)
    (ht : eval (.Call (.Attribute o m apos) (e :: es) [] pos) X.env = (do
      let ov ← eval o X.env
      standAt apos.atName
      let (f, first) ← holding [ov] (getMethod ov m pl)
      callWith pos f first (backTo pos (starEach (e :: es) X.env)) (backToKw pos (keywordEach [] X.env))) := by rfl) :
    PE X (.Call (.Attribute o m apos) (e :: es) [] pos) (kMt C m sp ta t) := by
  obtain ⟨f, fd, h1, h2, h3, hb, F⟩ := D.ex
  refine peImp (pe_meth (E := E0) (pl := pl) (peUp he) c ⟨h1, h2, h3⟩ F hr hb .nil pass0 (paUp ha) hst hpl ht) fun σ H Q q => ?_
  refine ⟨_, q, fun v H1 ⟨a, dx, fs, e, h, l, z⟩ => ⟨a, dx, fs, e, h, l, _, z, fun vs H2 z => ?_⟩⟩
  show sp (v :: (vs ++ [])) H2 Q E0
  rw [List.append_nil]
  exact z
theorem pe_mk {C : Addr} {x : Str} {k : Nat} {ps : List Str} {sp : Sp} {e : Expr} {es : List Expr} {t : TA} {p pos : Pos} (M : MkC X.K C) (D : Dm X.prog X.w X.K X.mg X.base C "__init__" k ps sp) (hr : Room (k + 1) X.A) (hg : Gl X x) (hm : X.mg x = some (.ref C)) (ha : PA X (e :: es) t)
    (hdb : (x == ("__debug__" : Str)) = false := by decide) (he : starEach (e :: es) X.env = (false, eval e X.env) :: starEach es X.env := by rfl) (hpl : (backTo pos (starEach es X.env)).any (·.1) = false := by rfl) :
    PE X (.Call (.Name x p) (e :: es) [] pos) (kMk C sp t) := by
  obtain ⟨f, fd, h1, h2, h3, hb, F⟩ := D.ex
  refine peImp (pe_make (E := E0) ⟨M.makes, h1, h2, M.kp⟩ F hr hg hm hb .nil pass0 (paUp ha) hdb he hpl) fun σ H Q q => ?_
  refine ⟨_, q, fun vs H1 z a dx n nd ne => ?_⟩
  have c1 : Ch [] H1 (upd H1 dx (.own a)) := Ch.new nd
  have n2 : (upd H1 dx (.own a)) a = none := by rw [upd_ne ne.symm]; exact n
  have c2 := Ch.new (o := .ins C dx []) n2
  rw [List.append_nil]
  exact z a dx _ n upd_same (c1.trans c2)
theorem pe_mk0 {C : Addr} {x : Str} {k : Nat} {ps : List Str} {sp : Sp} {p pos : Pos} (M : MkC X.K C) (D : Dm X.prog X.w X.K X.mg X.base C "__init__" k ps sp) (hr : Room (k + 1) X.A) (hg : Gl X x) (hm : X.mg x = some (.ref C))
    (hdb : (x == ("__debug__" : Str)) = false := by decide) : PE X (.Call (.Name x p) [] [] pos) (kMk C sp tNil) := by
  obtain ⟨f, fd, h1, h2, h3, hb, F⟩ := D.ex
  refine peImp (pe_make0 (E := E0) ⟨M.makes, h1, h2, M.kp⟩ F hr hg hm hb .nil pass0 hdb) fun σ H Q q => ?_
  intro a dx n nd ne
  have c1 : Ch [] H (upd H dx (.own a)) := Ch.new nd
  have n2 : (upd H dx (.own a)) a = none := by rw [upd_ne ne.symm]; exact n
  have c2 := Ch.new (o := .ins C dx []) n2
  exact q a dx _ n upd_same (c1.trans c2)
def qFld (K : PySem.W.Frag) (f : Str) (x : V) (H : Hp) (Q : VK) : Prop := ∃ a C dx fs v, x = .ref a ∧ H a = some (.ins C dx fs) ∧ Cls K C ∧ NoAttr K C f ∧ fs.lookup f = some v ∧ Q v H
def kGet (K : PySem.W.Frag) (te : TE) (f : Str) : TE := fun σ H Q => te σ H fun x H1 => qFld K f x H1 Q
theorem pe_kGet {e : Expr} {f : Str} {ta : TE} {pos : Pos} (he : PE X e ta) (hb : attributeBase e f X.env (eval e X.env) = eval e X.env) : PE X (.Attribute e f pos) (kGet X.K ta f) := pe_fld he hb
def qFset (K : PySem.W.Frag) (f : Str) (y x : V) (H : Hp) (k : Hp → Prop) : Prop := ∃ a C dx fs, x = .ref a ∧ H a = some (.ins C dx fs) ∧ Cls K C ∧ NoAttr K C f ∧ fs.length < 1000 ∧ kSet a (.ins C dx (putF f y fs)) H k
def kFld (K : PySem.W.Frag) (ta tv : TE) (f : Str) : TS := fun D σ H => tv σ H fun y H1 => ta σ H1 fun x H2 => qFset K f y x H2 (D.nx σ)
theorem ps_kFld {o value : Expr} {f : Str} {ta tv : TE} {pos' pos : Pos} (ha : PE X o ta) (hv : PE X value tv) (hs : swapsWith value (some (.Attribute o f pos')) pos.line X.env = pure false) : PS X (.Assign [.Attribute o f pos'] value pos) (kFld X.K ta tv f) :=
  psImp (ps_fld (peUp ha) (peUp hv) hs) fun D σ H q => ⟨_, q, fun y H1 q => ⟨_, q, fun x H2 ⟨a, C, dx, fs, e, h, c, n, l, z⟩ => ⟨a, C, dx, fs, e, h, c, n, l, w_set (k := D.nx σ) h rfl z⟩⟩⟩
/-! dicts -/
def qDg (x y : V) (H : Hp) (Q : VK) : Prop := ∃ a v, x = .ref a ∧ DGet H a y (some v) ∧ Q v H
def kDg (td ty : TE) : TE := fun σ H Q => td σ H fun x H1 => ty σ H1 fun y H2 => qDg x y H2 Q
theorem pe_kDget {o i : Expr} {pos : Pos} {td ty : TE} (hu : X.A.units + 1 < cLine) (ho : PE X o td) (hi : PE X i ty) (hs : NoSl i) : PE X (.Subscript o i pos) (kDg td ty) := pe_dget hu ho hi hs
def qDg2' (x y z : V) (H : Hp) (Q : VK) : Prop := ∃ a o, x = .ref a ∧ DGet H a y o ∧ Q (o.getD z) H
def qIsD (x : V) (H : Hp) (P : Prop) : Prop := (∃ a, x = .ref a ∧ IsD H a) ∧ P
def kDg2 (td ty tz : TE) : TE := fun σ H Q => td σ H fun x H1 => qIsD x H1 (ty σ H1 fun y H2 => tz σ H2 fun z H3 => qDg2' x y z H3 Q)
theorem pe_kDget2 {o e f : Expr} {apos cpos : Pos} {td ty tx : TE} (hu : X.A.units + 1 < cLine) (ho : PE X o td) (he : PE X e ty) (hf : PE X f tx) (m : M2 X o "get" apos e f cpos) : PE X (.Call (.Attribute o "get" apos) [e, f] [] cpos) (kDg2 td ty tx) :=
  peImp (pe_dget2 hu (peUp ho) (peUp he) (peUp hf) m) fun σ H Q q => ⟨_, q, fun x H1 ⟨⟨a, ea, ia⟩, q⟩ => ⟨a, ea, ia, _, q, fun y H2 q => ⟨_, q, fun z H3 ⟨a', o', ea', g, q⟩ => by
    rw [ea] at ea'
    cases ea'
    exact ⟨o', g, q⟩⟩⟩⟩
def qDp (x y v : V) (H : Hp) (r : Hp → Prop) : Prop := ∃ a kvs k, x = .ref a ∧ y = kV k ∧ H a = some (.dK kvs) ∧ kvs.length < sizeLine ∧ kSet a (.dK (putK kvs k v)) H r
def kDp (td ty tv : TE) : TS := fun D σ H => tv σ H fun v H1 => td σ H1 fun x H2 => ty σ H2 fun y H3 => qDp x y v H3 (D.nx σ)
theorem ps_kDput {o i value : Expr} {pos pos' : Pos} {td ty tv : TE} (hu : X.A.units + 1 < cLine) (ho : PE X o td) (hi : PE X i ty) (hv : PE X value tv) (hs : swapsWith value (some (.Subscript o i pos')) pos.line X.env = pure false) : PS X (.Assign [.Subscript o i pos'] value pos) (kDp td ty tv) :=
  psImp (ps_dput hu (peUp ho) (peUp hi) (peUp hv) hs) fun D σ H q => ⟨_, q, fun v H1 q => ⟨_, q, fun x H2 q => ⟨_, q, fun y H3 ⟨a, kvs, k, ea, ey, h, l, z⟩ => by
    subst ey
    exact ⟨a, _, ea, DPut.k h l, z _ upd_same (Ch.wr h rfl)⟩⟩⟩⟩
def ups (trs : List (TE × TE)) : List (TE × TE) := trs.map fun p => (upE p.1, upE p.2)
theorem kp_nil {pos : Pos} : PPs X pos [] [] (ups []) := pps_nil
theorem kp_cons {pos : Pos} {k v : Expr} {ks : List (Option Expr)} {vs : List Expr} {tk tv : TE} {trs : List (TE × TE)} (hk : PE X k tk) (hv : PE X v tv) (hr : PPs X pos ks vs (ups trs)) : PPs X pos (some k :: ks) (v :: vs) (ups ((tk, tv) :: trs)) := pps_cons (peUp hk) (peUp hv) hr
theorem tPairs_up : ∀ (trs : List (TE × TE)) (σ : L2.St) (H : Hp) (Q Q' : List (V × V) → Hp → Prop), tPairs trs σ H Q → (∀ ps H1, Q ps H1 → Q' ps H1) → tPairs (ups trs) σ H Q'
  | [], _, _, _, _, q, i => i _ _ q
  | (tk, tv) :: r, σ, H, Q, Q', q, i => ⟨_, q, fun _ _ q => ⟨_, q, fun _ _ q => tPairs_up r σ _ _ _ q fun _ _ q => i _ _ q⟩⟩
def kDisp (trs : List (TE × TE)) : TE := fun σ H Q => ∀ p H', H p = none → H' p = some (.dK []) → Ch [] H H' → tPairs trs σ H' fun ps H2 => H2 p = some (.dK []) ∧ ∃ kvs : List (Key × V), ps = kvs.map (fun kv => (kV kv.1, kv.2)) ∧ kvs.length ≤ 15 ∧ kSet p (.dK (mergeK [] kvs)) H2 (Q (.ref p))
theorem pe_kDisp {pos : Pos} {keys : List (Option Expr)} {values : List Expr} {trs : List (TE × TE)} (h : PPs X pos keys values (ups trs)) (hall : keys.all (·.isSome) = true) (hl : keys.length = values.length) (h0 : keys ≠ [])
    (h15 : keys.length ≤ 15) : PE X (.Dict keys values pos) (kDisp trs) :=
  peImp (pe_disp h hall hl h0 h15) fun σ H Q q p n => tPairs_up trs _ _ _ _ (q p _ n upd_same (Ch.new n)) fun ps H2 ⟨e, kvs, ek, l, z⟩ => ⟨e, kvs, ek, l, z _ upd_same (Ch.wr e rfl)⟩
/-! a list or a tuple -/
def qLenS (K : PySem.W.Frag) : List V → Hp → VK → Prop := fun xs H Q => ∃ p ys, xs = [.ref p] ∧ (SqL K H p ys ∨ SqT K H p ys) ∧ (ys.length ≤ 1099511627776 → Q (.int ys.length) H)
theorem c_lenS : CallR X (.builtin "len") (qLenS X.K) := fun pins s σ H xs us Q I r ⟨p, ys, e, h, q⟩ => call_len_seq pins s σ H xs us Q I r ⟨p, ys, e, h, q (by
  rcases h with h | h
  · obtain ⟨_, _, _, z⟩ := I.list h; exact Nat.le_trans z (by decide)
  · obtain ⟨_, _, _, z⟩ := I.tuple h; exact Nat.le_trans z (by decide))⟩
def qIxS (K : PySem.W.Frag) : R2 := fun x y H Q => ∃ p xs i v, x = .ref p ∧ y = .int i ∧ (SqL K H p xs ∨ SqT K H p xs) ∧ atI xs i = some v ∧ Q v H
theorem ix_S : IxR X (qIxS X.K) := IxR.imp ix_seq fun x y H Q ⟨p, xs, i, v, e, f, h, g, q⟩ => h.elim (fun h => .inl ⟨p, xs, i, v, e, f, h, g, q⟩) fun h => .inr (.inl ⟨p, xs, i, v, e, f, h, g, q⟩)
/-! isinstance -/
def qIsi (K : PySem.W.Frag) : List V → Hp → VK → Prop := rIsi K
theorem c_isi : CallR X (.builtin "isinstance") (qIsi X.K) := call_isi
end
section
variable {K : PySem.W.Frag} {σ : L2.St} {H : Hp} {i j : Nat} {v x y z : V} {ta tb te tv td ty : TE} {t u : TS} {tt uu : TT} {as : TA} {b : Bool} {a C dx : Addr} {fs : List (Str × V)} {f : Str} {Q : VK} {D : Ends} {xs ys : List V} {n m : Int}
theorem w_isi {A B : String} (h : TyX K H x (.type A)) (hk : kitB A B = some b) (q : Q (.bl b) H) : qIsi K [x, .ty B] H Q := ⟨x, .ty B, .type A, .type B, b, rfl, .ty B, h, kit_ty hk, q⟩
theorem w_lenSL (h : SqL K H a ys) (q : ys.length ≤ 1099511627776 → Q (.int ys.length) H) : qLenS K [.ref a] H Q := ⟨a, ys, rfl, .inl h, q⟩
theorem w_lenST (h : SqT K H a ys) (q : ys.length ≤ 1099511627776 → Q (.int ys.length) H) : qLenS K [.ref a] H Q := ⟨a, ys, rfl, .inr h, q⟩
theorem w_ixSL (h : SqL K H a xs) (g : atI xs n = some v) (q : Q v H) : qIxS K (.ref a) (.int n) H Q := ⟨a, xs, n, v, rfl, rfl, .inl h, g, q⟩
theorem w_ixST (h : SqT K H a xs) (g : atI xs n = some v) (q : Q v H) : qIxS K (.ref a) (.int n) H Q := ⟨a, xs, n, v, rfl, rfl, .inr h, g, q⟩
theorem w_isiI {B : String} (hk : kitB "int" B = some b) (q : Q (.bl b) H) : qIsi K [.int n, .ty B] H Q := w_isi (.base (.int n)) hk q
theorem w_isiS {s : Str} {B : String} (hk : kitB "str" B = some b) (q : Q (.bl b) H) : qIsi K [.str s, .ty B] H Q := w_isi (.base (.str s)) hk q
theorem w_isiB {s : Bool} {B : String} (hk : kitB "bool" B = some b) (q : Q (.bl b) H) : qIsi K [.bl s, .ty B] H Q := w_isi (.base (.bl s)) hk q
theorem tyL_of (h : SqL K H a xs) : TyX K H (.ref a) (.type "list") := by
  rcases h with (h | ⟨o, h⟩) | ⟨o, its, k, h, c, _⟩
  · exact .base (.lst h)
  · exact .base (.frz h)
  · exact .kList h c
theorem tyT_of (h : SqT K H a xs) : TyX K H (.ref a) (.type "tuple") := by
  rcases h with (h | ⟨o, h⟩) | ⟨o, its, k, h, c, _⟩
  · exact .base (.tup h)
  · exact .fTuple h
  · exact .kTuple h c
theorem w_isiL {B : String} (h : SqL K H a xs) (hk : kitB "list" B = some b) (q : Q (.bl b) H) : qIsi K [.ref a, .ty B] H Q := w_isi (tyL_of h) hk q
theorem w_isiT {B : String} (h : SqT K H a xs) (hk : kitB "tuple" B = some b) (q : Q (.bl b) H) : qIsi K [.ref a, .ty B] H Q := w_isi (tyT_of h) hk q
theorem w_kMt {sp : Sp} (h : te σ H fun x H1 => qSelf C f x H1 (as σ H1 fun vs H2 => sp (x :: vs) H2 Q E0)) : kMt C f sp te as σ H Q := h
theorem w_self {P : Prop} (ho : H a = some (.ins C dx fs)) (hl : fs.lookup f = none) (q : P) : qSelf C f (.ref a) H P := ⟨a, dx, fs, rfl, ho, hl, q⟩
theorem w_kMk {sp : Sp} (h : as σ H fun vs H1 => ∀ x dx H', H1 x = none → H' x = some (.ins C dx []) → Ch [] H1 H' → sp (.ref x :: vs) H' (fun v H2 => v = .non ∧ Q (.ref x) H2) E0) : kMk C sp as σ H Q := h
theorem w_kFld (h : tv σ H fun y H1 => ta σ H1 fun x H2 => qFset K f y x H2 (D.nx σ)) : kFld K ta tv f D σ H := h
theorem w_fget (ho : H a = some (.ins C dx fs)) (hc : Cls K C) (hn : NoAttr K C f) (hl : fs.lookup f = some v) (q : Q v H) : qFld K f (.ref a) H Q := ⟨a, C, dx, fs, v, rfl, ho, hc, hn, hl, q⟩
theorem w_kGet (h : te σ H fun x H1 => qFld K f x H1 Q) : kGet K te f σ H Q := h
theorem w_fset {k : Hp → Prop} (ho : H a = some (.ins C dx fs)) (hc : Cls K C) (hn : NoAttr K C f) (hl : fs.length < 1000) (q : ∀ H', H' a = some (.ins C dx (putF f y fs)) → Ch [a] H H' → k H') :
    qFset K f y (.ref a) H k := ⟨a, C, dx, fs, rfl, ho, hc, hn, hl, q⟩
theorem w_kDg (h : td σ H fun x H1 => ty σ H1 fun y H2 => qDg x y H2 Q) : kDg td ty σ H Q := h
theorem w_dgS {kvs : List (Key × V)} {s : Str} (h : H a = some (.dK kvs)) (g : valV kvs (Sum.inr s) = some v) (q : Q v H) : qDg (.ref a) (.str s) H Q := ⟨a, v, rfl, .inl ⟨kvs, .inr s, .inl h, rfl, g.symm⟩, q⟩
theorem w_dgI {kvs : List (Key × V)} (h : H a = some (.dK kvs)) (g : valV kvs (Sum.inl n) = some v) (q : Q v H) : qDg (.ref a) (.int n) H Q := ⟨a, v, rfl, .inl ⟨kvs, .inl n, .inl h, rfl, g.symm⟩, q⟩
theorem w_kDg2 {tz : TE} (h : td σ H fun x H1 => qIsD x H1 (ty σ H1 fun y H2 => tz σ H2 fun z H3 => qDg2' x y z H3 Q)) : kDg2 td ty tz σ H Q := h
theorem w_isD {P : Prop} {kvs : List (Key × V)} (h : H a = some (.dK kvs)) (q : P) : qIsD (.ref a) H P := ⟨⟨a, rfl, .inl ⟨kvs, .inl h⟩⟩, q⟩
theorem w_dg2I {kvs : List (Key × V)} (h : H a = some (.dK kvs)) (q : Q ((valV kvs (Sum.inl n)).getD z) H) : qDg2' (.ref a) (.int n) z H Q := ⟨a, _, rfl, .inl ⟨kvs, .inl n, .inl h, rfl, rfl⟩, q⟩
theorem w_kDp (h : tv σ H fun v H1 => td σ H1 fun x H2 => ty σ H2 fun y H3 => qDp x y v H3 (D.nx σ)) : kDp td ty tv D σ H := h
theorem w_dpI {k : Hp → Prop} {kvs : List (Key × V)} (h : H a = some (.dK kvs)) (l : kvs.length < sizeLine) (q : ∀ H', H' a = some (.dK (putK kvs (Sum.inl n) v)) → Ch [a] H H' → k H') : qDp (.ref a) (.int n) v H k := ⟨a, kvs, .inl n, rfl, rfl, h, l, q⟩
theorem w_kDisp {trs : List (TE × TE)} (h : ∀ p H', H p = none → H' p = some (.dK []) → Ch [] H H' → tPairs trs σ H' fun ps H2 => H2 p = some (.dK []) ∧ ∃ kvs : List (Key × V), ps = kvs.map (fun kv => (kV kv.1, kv.2)) ∧ kvs.length ≤ 15 ∧ kSet p (.dK (mergeK [] kvs)) H2 (Q (.ref p))) : kDisp trs σ H Q := h
theorem w_prn {R : List (V × V) → Hp → Prop} (q : R [] H) : tPairs [] σ H R := q
theorem w_prc {trs : List (TE × TE)} {R : List (V × V) → Hp → Prop} (h : ta σ H fun x H1 => tb σ H1 fun y H2 => tPairs trs σ H2 fun ps H3 => R ((x, y) :: ps) H3) : tPairs ((ta, tb) :: trs) σ H R := h
/-! while -/
theorem k_while {c : TT} {tb : TS} (W : Nat → L2.St → Hp → Prop) (m0 : Nat) (h0 : W m0 σ H)
    (hs : ∀ m σ H, W m σ H → c σ H fun b H1 => if b = true then ∃ N : L2.St → Hp → Prop, (∀ σ' H', N σ' H' → ∃ m', m' < m ∧ W m' σ' H') ∧ tb { D with nx := N, ct := N, bk := D.nx } σ H1 else D.nx σ H1) : tWhile c tb D σ H := ⟨W, ⟨m0, h0⟩, hs⟩
theorem w_wh {tb : TS} {m : Nat} {W : Nat → L2.St → Hp → Prop} (h : tb { D with nx := fun σ' H' => ∃ m', m' < m ∧ W m' σ' H', ct := fun σ' H' => ∃ m', m' < m ∧ W m' σ' H', bk := D.nx } σ H) :
    ∃ N : L2.St → Hp → Prop, (∀ σ' H', N σ' H' → ∃ m', m' < m ∧ W m' σ' H') ∧ tb { D with nx := N, ct := N, bk := D.nx } σ H := ⟨_, fun _ _ h => h, h⟩
end
end Kt
/-! ### what stands for ever -/
namespace Kt
open PySem PySem.Spec PyProof.Rows L2
structure Ps (H H' : Hp) : Prop where
  tup : ∀ b xs, H b = some (.tup xs) → H' b = some (.tup xs)
  frz : ∀ b o u, H b = some (.frz o u) → H' b = some (.frz o u)
theorem Ps.refl {H : Hp} : Ps H H := ⟨fun _ _ e => e, fun _ _ _ e => e⟩
theorem Ps.step {ls : List Addr} {H H1 H2 : Hp} (c : Ch ls H1 H2) (p : Ps H H1) : Ps H H2 := ⟨fun b xs e => c.tup b xs (p.tup b xs e), fun b o u e => c.frz b o u (p.frz b o u e)⟩
theorem Ch.ps {ls : List Addr} {H H1 : Hp} (c : Ch ls H H1) : Ps H H1 := ⟨c.tup, c.frz⟩
section
variable {K : PySem.W.Frag} {H H' : Hp}
theorem Ps.sqT {a : Addr} {xs : List V} (c : Ps H H') (h : SqT K H a xs) : SqT K H' a xs := by
  rcases h with (h | ⟨o, h⟩) | h
  · exact .inl (.inl (c.tup _ _ h))
  · exact .inl (.inr ⟨o, c.frz _ _ _ h⟩)
  · exact .inr h
theorem Ps.fz {a : Addr} {xs : List V} (c : Ps H H') (h : FzL K H a xs) : FzL K H' a xs := h.elim (fun ⟨o, h⟩ => .inl ⟨o, c.frz _ _ _ h⟩) .inr
mutual
theorem Ps.dp (c : Ps H H') : ∀ {d : PyData} {v : V}, tupD d = true → Dp K H v d → Dp K H' v d
  | .none, _, _, h => by cases h; exact .non
  | .bool b, _, _, h => by cases h; exact .bl b
  | .int i, _, _, h => by cases h; exact .int i
  | .str x, _, _, h => by cases h; exact .str x
  | .tuple ds, _, t, h => by
    cases h with
    | tup hs ha => exact .tup (c.sqT hs) (Ps.dpAll c (by unfold tupD at t; exact t) ha)
  | .list ds, _, t, _ => by unfold tupD at t; cases t
  | .dict ds, _, t, _ => by unfold tupD at t; cases t
theorem Ps.dpAll (c : Ps H H') : ∀ {ds : List PyData} {vs : List V}, tupDs ds = true → DpAll K H vs ds → DpAll K H' vs ds
  | [], _, _, h => by cases h; exact .nil
  | d :: ds, _, t, h => by
    unfold tupDs at t
    obtain ⟨t1, t2⟩ := Bool.and_eq_true_iff.mp t
    cases h with
    | cons h1 h2 => exact .cons (Ps.dp c t1 h1) (Ps.dpAll c t2 h2)
end
theorem dpAll_len : ∀ {vs : List V} {ds : List PyData}, DpAll K H vs ds → vs.length = ds.length
  | _, _, .nil => rfl
  | _, _, .cons _ t => congrArg Nat.succ (dpAll_len t)
theorem dpAll_app : ∀ {vs : List V} {ds : List PyData} {ws : List V} {es : List PyData}, DpAll K H vs ds → DpAll K H ws es → DpAll K H (vs ++ ws) (ds ++ es)
  | _, _, _, _, .nil, h => h
  | _, _, _, _, .cons a t, h => .cons a (dpAll_app t h)
theorem dpAll_snoc {vs : List V} {ds : List PyData} {v : V} {d : PyData} (h : DpAll K H vs ds) (q : Dp K H v d) : DpAll K H (vs ++ [v]) (ds ++ [d]) := dpAll_app h (.cons q .nil)
theorem dpAll_set {v : V} {d : PyData} (q : Dp K H v d) : ∀ {vs : List V} {ds : List PyData} (i : Nat), DpAll K H vs ds → DpAll K H (vs.set i v) (ds.set i d)
  | _, _, _, .nil => .nil
  | _, _, 0, .cons _ t => .cons q t
  | _, _, i + 1, .cons a t => .cons a (dpAll_set q i t)
theorem dpAll_get : ∀ {vs : List V} {ds : List PyData} {i : Nat} {d : PyData}, DpAll K H vs ds → ds[i]? = some d → ∃ v, vs[i]? = some v ∧ Dp K H v d
  | _, _, _, _, .nil, e => by simp at e
  | _, _, 0, _, .cons a _, e => ⟨_, rfl, by simp at e; subst e; exact a⟩
  | _, _, i + 1, _, .cons _ t, e => by
    obtain ⟨v, h1, h2⟩ := dpAll_get (i := i) t (by simpa using e)
    exact ⟨v, by simpa using h1, h2⟩
theorem dpAll_get' : ∀ {vs : List V} {ds : List PyData} {i : Nat} {v : V}, DpAll K H vs ds → vs[i]? = some v → ∃ d, ds[i]? = some d ∧ Dp K H v d
  | _, _, _, _, .nil, e => by simp at e
  | _, _, 0, _, .cons a _, e => ⟨_, rfl, by simp at e; subst e; exact a⟩
  | _, _, i + 1, _, .cons _ t, e => by
    obtain ⟨v, h1, h2⟩ := dpAll_get' (i := i) t (by simpa using e)
    exact ⟨v, by simpa using h1, h2⟩
end
end Kt
namespace Kt
open PySem PySem.Spec PyProof.Rows L2
theorem inV_int (k : Int) : ∀ ns : List Int, inV (.int k) (ns.map V.int) = decide (k ∈ ns)
  | [] => rfl
  | n :: r => by
    have ih := inV_int k r
    unfold inV at ih ⊢
    rw [List.map_cons, List.any_cons, ih]
    by_cases h : n = k
    · subst h
      have e : eqV (V.int n) (V.int n) = true := by show (n == n) = true; exact beq_self_eq_true n
      rw [e, decide_eq_true (show n ∈ n :: r from List.mem_cons_self)]
      rfl
    · have e : eqV (V.int n) (V.int k) = false := by show (n == k) = false; exact beq_eq_false_iff_ne.mpr h
      rw [e, Bool.false_or]
      by_cases q : k ∈ r
      · rw [decide_eq_true q, decide_eq_true (List.mem_cons_of_mem _ q)]
      · rw [decide_eq_false q, decide_eq_false fun z => (List.mem_cons.mp z).elim (fun z => h z.symm) q]
theorem flat_ints : ∀ ns : List Int, (ns.map V.int).all flatV = true
  | [] => rfl
  | n :: r => by rw [List.map_cons, List.all_cons, flat_ints r]; rfl
theorem w_inLI {K : PySem.W.Frag} {H : Hp} {a : Addr} {k : Int} {Q : VK} (ns : List Int) (h : SqL K H a (ns.map V.int)) (q : Q (.bl (decide (k ∈ ns))) H) : qInL K false (.int k) (.ref a) H Q :=
  ⟨a, _, rfl, h, rfl, flat_ints ns, by show Q (.bl (inV (.int k) (ns.map V.int))) H; rw [inV_int]; exact q⟩
theorem w_ninLI {K : PySem.W.Frag} {H : Hp} {a : Addr} {k : Int} {Q : VK} (ns : List Int) (h : SqL K H a (ns.map V.int)) (q : Q (.bl (!decide (k ∈ ns))) H) : qInL K true (.int k) (.ref a) H Q :=
  ⟨a, _, rfl, h, rfl, flat_ints ns, by show Q (.bl (!inV (.int k) (ns.map V.int))) H; rw [inV_int]; exact q⟩
theorem w_inTI {K : PySem.W.Frag} {H : Hp} {a : Addr} {k : Int} {Q : VK} (ns : List Int) (h : SqT K H a (ns.map V.int)) (q : Q (.bl (decide (k ∈ ns))) H) : qInT K false (.int k) (.ref a) H Q :=
  ⟨a, _, rfl, h, rfl, flat_ints ns, by show Q (.bl (inV (.int k) (ns.map V.int))) H; rw [inV_int]; exact q⟩
theorem w_ninTI {K : PySem.W.Frag} {H : Hp} {a : Addr} {k : Int} {Q : VK} (ns : List Int) (h : SqT K H a (ns.map V.int)) (q : Q (.bl (!decide (k ∈ ns))) H) : qInT K true (.int k) (.ref a) H Q :=
  ⟨a, _, rfl, h, rfl, flat_ints ns, by show Q (.bl (!inV (.int k) (ns.map V.int))) H; rw [inV_int]; exact q⟩
end Kt
theorem Kt.w_cut {A B : Prop} (k : B → A) (b : B) : A := k b
theorem Kt.w_cutP {A B : Prop} (C : Prop) (k : (C → B) → A) (b : C → B) : A := k b
theorem Kt.w_kDnew {σ : L2.St} {H : L2.Hp} {Q : L2.VK} (h : ∀ p H', H p = none → H' p = some (.dK []) → Kt.Ch [] H H' → Q (.ref p) H') : Kt.kDnew σ H Q := h
namespace Kt
open PySem PySem.Spec PyProof.Rows L2
theorem w_cutH {A : Prop} {B : Hp → Prop} (C : Hp → Prop) (k : (∀ H, C H → B H) → A) (b : ∀ H, C H → B H) : A := k b
theorem w_cutN {A : Prop} {B : Nat → Hp → Prop} (C : Nat → Hp → Prop) (k : (∀ n H, C n H → B n H) → A) (b : ∀ n H, C n H → B n H) : A := k b
theorem w_seqS {t u : TS} {D : Ends} {σ σ' : L2.St} {H : Hp} (e : σ = σ') (h : tSeq t u D σ' H) : tSeq t u D σ H := e ▸ h
theorem w_lc {wi : TI} {g : TG} {tt : TT} {te : TE} {vs : List Nat} {σ : L2.St} {H : Hp} {Q : VK} (h : wi σ H fun J H1 => ∀ D, H1 D = none → ∃ W : Nat → Nat → Hp → Prop, (∃ m, W 0 m (upd H1 D (.lst []))) ∧ ∀ i m H, W i m H →
  (J.stop i H ∧ Q (.ref D) H) ∨ (J.go i H ∧ ∃ Nx : Hp → Prop, (∀ H', Nx H' → ∃ m', m' < m ∧ W (i + 1) m' H') ∧ ∀ x H', J.yld i H x H' → g x (wipe σ vs) H' fun σ2 H2 => wipe σ2 vs = wipe σ vs ∧ tt σ2 H2 fun b H3 =>
    if b = true then te σ2 H3 fun y H4 => ∃ acc, H4 D = some (.lst acc) ∧ acc.length < sizeLine ∧ Nx (upd H4 D (.lst (acc ++ [y]))) else Nx H3)) : tLc wi g tt te vs σ H Q := h
theorem w_yes {σ : L2.St} {H : Hp} {R : Bool → Hp → Prop} (h : R true H) : tYes σ H R := h
theorem w_wipe {σ σ2 : L2.St} {vs : List Nat} {A : Prop} (e : wipe σ2 vs = wipe σ vs) (h : A) : wipe σ2 vs = wipe σ vs ∧ A := ⟨e, h⟩
/-- the list of a comprehension, one more -/
theorem acc_new {H : Hp} {D : Addr} {acc : List V} {y : V} (e : H D = some (.lst acc)) : ∃ H', upd H D (.lst (acc ++ [y])) = H' ∧ H' D = some (.lst (acc ++ [y])) ∧ Ch [D] H H' := ⟨_, rfl, upd_same, Ch.wr e rfl⟩
theorem lc_new {H : Hp} {D : Addr} (n : H D = none) : ∃ H', upd H D (.lst []) = H' ∧ H' D = some (.lst []) ∧ Ch [] H H' := ⟨_, rfl, upd_same, Ch.new n⟩
theorem dpAll_ints {K : PySem.W.Frag} {H : Hp} : ∀ ns : List Int, DpAll K H (ns.map V.int) (ns.map PyData.int)
  | [] => .nil
  | n :: r => .cons (.int n) (dpAll_ints r)
end Kt
namespace Kt
open PySem PySem.Spec PyProof.Rows L2
theorem kb_int_int : kitB "int" "int" = some true := by decide +kernel
theorem kb_int_bool : kitB "int" "bool" = some false := by decide +kernel
theorem kb_int_str : kitB "int" "str" = some false := by decide +kernel
theorem kb_int_list : kitB "int" "list" = some false := by decide +kernel
theorem kb_int_tuple : kitB "int" "tuple" = some false := by decide +kernel
theorem kb_int_dict : kitB "int" "dict" = some false := by decide +kernel
theorem kb_bool_int : kitB "bool" "int" = some true := by decide +kernel
theorem kb_bool_bool : kitB "bool" "bool" = some true := by decide +kernel
theorem kb_bool_str : kitB "bool" "str" = some false := by decide +kernel
theorem kb_bool_list : kitB "bool" "list" = some false := by decide +kernel
theorem kb_bool_tuple : kitB "bool" "tuple" = some false := by decide +kernel
theorem kb_bool_dict : kitB "bool" "dict" = some false := by decide +kernel
theorem kb_str_int : kitB "str" "int" = some false := by decide +kernel
theorem kb_str_bool : kitB "str" "bool" = some false := by decide +kernel
theorem kb_str_str : kitB "str" "str" = some true := by decide +kernel
theorem kb_str_list : kitB "str" "list" = some false := by decide +kernel
theorem kb_str_tuple : kitB "str" "tuple" = some false := by decide +kernel
theorem kb_str_dict : kitB "str" "dict" = some false := by decide +kernel
theorem kb_list_int : kitB "list" "int" = some false := by decide +kernel
theorem kb_list_bool : kitB "list" "bool" = some false := by decide +kernel
theorem kb_list_str : kitB "list" "str" = some false := by decide +kernel
theorem kb_list_list : kitB "list" "list" = some true := by decide +kernel
theorem kb_list_tuple : kitB "list" "tuple" = some false := by decide +kernel
theorem kb_list_dict : kitB "list" "dict" = some false := by decide +kernel
theorem kb_tuple_int : kitB "tuple" "int" = some false := by decide +kernel
theorem kb_tuple_bool : kitB "tuple" "bool" = some false := by decide +kernel
theorem kb_tuple_str : kitB "tuple" "str" = some false := by decide +kernel
theorem kb_tuple_list : kitB "tuple" "list" = some false := by decide +kernel
theorem kb_tuple_tuple : kitB "tuple" "tuple" = some true := by decide +kernel
theorem kb_tuple_dict : kitB "tuple" "dict" = some false := by decide +kernel
theorem kb_dict_int : kitB "dict" "int" = some false := by decide +kernel
theorem kb_dict_bool : kitB "dict" "bool" = some false := by decide +kernel
theorem kb_dict_str : kitB "dict" "str" = some false := by decide +kernel
theorem kb_dict_list : kitB "dict" "list" = some false := by decide +kernel
theorem kb_dict_tuple : kitB "dict" "tuple" = some false := by decide +kernel
theorem kb_dict_dict : kitB "dict" "dict" = some true := by decide +kernel
theorem kb_NoneType_int : kitB "NoneType" "int" = some false := by decide +kernel
theorem kb_NoneType_bool : kitB "NoneType" "bool" = some false := by decide +kernel
theorem kb_NoneType_str : kitB "NoneType" "str" = some false := by decide +kernel
theorem kb_NoneType_list : kitB "NoneType" "list" = some false := by decide +kernel
theorem kb_NoneType_tuple : kitB "NoneType" "tuple" = some false := by decide +kernel
theorem kb_NoneType_dict : kitB "NoneType" "dict" = some false := by decide +kernel
end Kt

set_option Elab.async false
set_option maxHeartbeats 4000000
namespace M28
open PySem L2 Kt
inductive Ins where
  | push (n : Int) | input (k : Nat) | load (s : Nat) | say | store (s : Nat) | restore (s : Nat) | jump (t : Nat) | test (t : Nat) | add | mul | div (p : Nat)
def insD : Ins → PyData
  | .push n => .tuple [.str "push", .int n]
  | .input k => .tuple [.str "input", .int k]
  | .load k => .tuple [.str "load", .int k]
  | .say => .tuple [.str "say"]
  | .store k => .tuple [.str "store", .int k]
  | .restore k => .tuple [.str "restore", .int k]
  | .jump k => .tuple [.str "jump", .int k]
  | .test k => .tuple [.str "test", .int k]
  | .add => .tuple [.str "add"]
  | .mul => .tuple [.str "mul"]
  | .div k => .tuple [.str "div", .int k]
theorem tup_ins (x : Ins) : tupD (insD x) = true := by cases x <;> rfl
theorem tup_all : ∀ c : List Ins, tupDs (c.map insD) = true
  | [] => rfl
  | x :: c => by show (tupD (insD x) && tupDs (c.map insD)) = true; rw [tup_ins, tup_all c]; rfl

/-! ### texts that fit -/
/-- the heights f fit the instruction at at_; no jump leads behind hi -/
def Ok (many hi : Nat) (f : Nat → Nat × Nat) (a : Nat) : Ins → Prop
  | .push n => (0 ≤ n ∧ n < 10000) ∧ f (a + 1) = ((f a).1 + 1, (f a).2)
  | .input _ => f (a + 1) = ((f a).1 + 1, (f a).2)
  | .load s => s < many ∧ f (a + 1) = ((f a).1 + 1, (f a).2)
  | .say => 1 ≤ (f a).1 ∧ f (a + 1) = f a
  | .store s => s < many ∧ 1 ≤ (f a).1 ∧ f (a + 1) = ((f a).1 - 1, (f a).2 + 1)
  | .restore s => s < many ∧ 1 ≤ (f a).2 ∧ f (a + 1) = ((f a).1, (f a).2 - 1)
  | .jump t => a < t ∧ t ≤ hi ∧ f t = f a
  | .test t => 1 ≤ (f a).1 ∧ f (a + 1) = ((f a).1 - 1, (f a).2) ∧ a < t ∧ t ≤ hi ∧ f t = ((f a).1 - 1, (f a).2)
  | .add => 2 ≤ (f a).1 ∧ f (a + 1) = ((f a).1 - 1, (f a).2)
  | .mul => 2 ≤ (f a).1 ∧ f (a + 1) = ((f a).1 - 1, (f a).2)
  | .div _ => 2 ≤ (f a).1 ∧ f (a + 1) = ((f a).1 - 1, (f a).2)
theorem Ok.congr {many hi hi' : Nat} {f g : Nat → Nat × Nat} {a : Nat} {x : Ins} (h : Ok many hi f a x) (e : ∀ y, a ≤ y → y ≤ hi → f y = g y) (l : a + 1 ≤ hi) (hh : hi ≤ hi') : Ok many hi' g a x := by
  have e0 : f a = g a := e a (Nat.le_refl _) (by omega)
  have e1 : f (a + 1) = g (a + 1) := e (a + 1) (by omega) l
  cases x <;> simp only [Ok] at h ⊢ <;> rw [← e0] <;> first | (rw [← e1]; exact h) | skip
  · obtain ⟨h1, h2, h3⟩ := h
    exact ⟨h1, by omega, by rw [← e _ (by omega) h2]; exact h3⟩
  · obtain ⟨h0, h1, h2, h3, h4⟩ := h
    exact ⟨h0, by rw [← e1]; exact h1, h2, by omega, by rw [← e _ (by omega) h3]; exact h4⟩
structure Fits (many lo : Nat) (c : List Ins) (h0 h1 : Nat × Nat) : Prop where
  ex : ∃ f : Nat → Nat × Nat, f lo = h0 ∧ f (lo + c.length) = h1 ∧ ∀ i x, c[i]? = some x → Ok many (lo + c.length) f (lo + i) x
theorem Fits.nil {many lo : Nat} {h : Nat × Nat} : Fits many lo [] h h := ⟨fun _ => h, rfl, rfl, fun i x e => by simp at e⟩
theorem Fits.one {many lo : Nat} {x : Ins} {h h' : Nat × Nat} (ok : Ok many (lo + 1) (fun y => if y = lo then h else h') lo x) : Fits many lo [x] h h' := by
  refine ⟨fun y => if y = lo then h else h', by simp, by simp, fun i y e => ?_⟩
  cases i with
  | zero => simp at e; subst e; exact ok
  | succ i => simp at e
theorem Fits.append {many lo : Nat} {c d : List Ins} {h0 h1 h2 : Nat × Nat} (a : Fits many lo c h0 h1) (b : Fits many (lo + c.length) d h1 h2) : Fits many lo (c ++ d) h0 h2 := by
  obtain ⟨f, f0, f1, fk⟩ := a.ex
  obtain ⟨g, g0, g1, gk⟩ := b.ex
  have hl : (c ++ d).length = c.length + d.length := List.length_append
  refine ⟨fun y => if y < lo + c.length then f y else g y, ?_, ?_, fun i x e => ?_⟩
  · by_cases h : lo < lo + c.length
    · simp only [h, if_true]; exact f0
    · simp only [h, if_false]
      have : c.length = 0 := by omega
      rw [this, Nat.add_zero] at f1 g0
      rw [← f0, f1, ← g0]
  · rw [hl]
    have : ¬ (lo + (c.length + d.length) < lo + c.length) := by omega
    simp only [this, if_false]
    rw [← Nat.add_assoc]; exact g1
  · rw [hl]
    by_cases hi : i < c.length
    · rw [List.getElem?_append_left hi] at e
      refine (fk i x e).congr (fun y hy hy2 => ?_) (by omega) (by omega)
      by_cases h : y < lo + c.length
      · simp only [h, if_true]
      · have : y = lo + c.length := by omega
        subst this
        simp only [Nat.lt_irrefl, if_false]
        rw [f1, g0]
    · rw [List.getElem?_append_right (by omega)] at e
      have q := gk _ x e
      have e2 : lo + c.length + (i - c.length) = lo + i := by omega
      rw [e2] at q
      have hj : i - c.length < d.length := (List.getElem?_eq_some_iff.mp e).1
      refine q.congr (fun y hy hy2 => ?_) (by omega) (by omega)
      have : ¬ y < lo + c.length := by omega
      simp only [this, if_false]
theorem Fits.cons {many lo : Nat} {x : Ins} {c : List Ins} {h0 h1 : Nat × Nat} (f : Nat → Nat × Nat) (f0 : f lo = h0) (f1 : f (lo + (c.length + 1)) = h1) (ok : Ok many (lo + (c.length + 1)) f lo x)
    (fk : ∀ i x, c[i]? = some x → Ok many (lo + (c.length + 1)) f (lo + 1 + i) x) : Fits many lo (x :: c) h0 h1 := by
  refine ⟨f, f0, f1, fun i y e => ?_⟩
  cases i with
  | zero => simp at e; subst e; exact ok
  | succ i =>
    have q := fk i y (by simpa using e)
    have e2 : lo + 1 + i = lo + (i + 1) := by omega
    rw [e2] at q
    exact q
theorem Fits.jump {many lo : Nat} {c : List Ins} {h : Nat × Nat} (a : Fits many (lo + 1) c h h) : Fits many lo (.jump (lo + (c.length + 1)) :: c) h h := by
  obtain ⟨f, f0, f1, fk⟩ := a.ex
  have el : lo + 1 + c.length = lo + (c.length + 1) := by omega
  rw [el] at f1 fk
  have ne : ∀ i, i < c.length → ¬ (lo + 1 + i = lo) := fun i _ => by omega
  refine Fits.cons (fun y => if y = lo then h else f y) (by simp) ?_ ?_ fun i x e => ?_
  · have : ¬ lo + (c.length + 1) = lo := by omega
    simp only [this, if_false]; exact f1
  · have : ¬ lo + (c.length + 1) = lo := by omega
    simp only [Ok, this, if_false, if_true]
    exact ⟨by omega, Nat.le_refl _, f1⟩
  · have hj : i < c.length := (List.getElem?_eq_some_iff.mp e).1
    refine (fk i x e).congr (fun y hy _ => ?_) (by omega) (Nat.le_refl _)
    have : ¬ y = lo := by omega
    simp only [this, if_false]
theorem Fits.test {many lo a p : Nat} {c : List Ins} (h : Fits many (lo + 1) c (a, p) (a, p)) : Fits many lo (.test (lo + (c.length + 1)) :: c) (a + 1, p) (a, p) := by
  obtain ⟨f, f0, f1, fk⟩ := h.ex
  have el : lo + 1 + c.length = lo + (c.length + 1) := by omega
  rw [el] at f1 fk
  refine Fits.cons (fun y => if y = lo then (a + 1, p) else f y) (by simp) ?_ ?_ fun i x e => ?_
  · have : ¬ lo + (c.length + 1) = lo := by omega
    simp only [this, if_false]; exact f1
  · have n1 : ¬ lo + (c.length + 1) = lo := by omega
    have n2 : ¬ lo + 1 = lo := by omega
    simp only [Ok, n1, n2, if_false, if_true]
    exact ⟨by omega, f0, by omega, Nat.le_refl _, f1⟩
  · have hj : i < c.length := (List.getElem?_eq_some_iff.mp e).1
    refine (fk i x e).congr (fun y hy _ => ?_) (by omega) (Nat.le_refl _)
    have : ¬ y = lo := by omega
    simp only [this, if_false]
theorem Fits.both {many lo a p : Nat} {g : Nat × Nat} {c d : List Ins} (h : Fits many (lo + 1) c (a, p) g) (k : Fits many (lo + (c.length + 2)) d (a, p) g) :
    Fits many lo (.test (lo + (c.length + 2)) :: (c ++ .jump (lo + (c.length + 2 + d.length)) :: d)) (a + 1, p) g := by
  obtain ⟨f, f0, f1, fk⟩ := h.ex
  obtain ⟨g', g0, g1, gk⟩ := k.ex
  have hl : (c ++ Ins.jump (lo + (c.length + 2 + d.length)) :: d).length = c.length + (d.length + 1) := by simp
  have el : lo + 1 + c.length = lo + (c.length + 1) := by omega
  rw [el] at f1 fk
  have F1 : ∀ y, lo < y → y ≤ lo + (c.length + 1) → (fun y => if y = lo then (a + 1, p) else if y ≤ lo + (c.length + 1) then f y else g' y) y = f y := fun y h1 h2 => by
    have n1 : ¬ y = lo := by omega
    simp only [n1, h2, if_false, if_true]
  have F2 : ∀ y, lo + (c.length + 2) ≤ y → (fun y => if y = lo then (a + 1, p) else if y ≤ lo + (c.length + 1) then f y else g' y) y = g' y := fun y h1 => by
    have n1 : ¬ y = lo := by omega
    have n2 : ¬ y ≤ lo + (c.length + 1) := by omega
    simp only [n1, n2, if_false]
  generalize hF : (fun y => if y = lo then (a + 1, p) else if y ≤ lo + (c.length + 1) then f y else g' y) = F at F1 F2
  have F0 : F lo = (a + 1, p) := by rw [← hF]; simp
  refine Fits.cons F F0 ?_ ?_ fun i x e => ?_
  · rw [hl, F2 _ (by omega)]
    have : lo + (c.length + (d.length + 1) + 1) = lo + (c.length + 2) + d.length := by omega
    rw [this]; exact g1
  · rw [hl]
    simp only [Ok, F0]
    rw [F1 (lo + 1) (by omega) (by omega), F2 (lo + (c.length + 2)) (Nat.le_refl _)]
    exact ⟨by omega, f0, by omega, by omega, g0⟩
  · rw [hl]
    by_cases hi : i < c.length
    · rw [List.getElem?_append_left hi] at e
      exact (fk i x e).congr (fun y hy hy2 => (F1 y (by omega) hy2).symm) (by omega) (by omega)
    · rw [List.getElem?_append_right (by omega)] at e
      by_cases h0 : i = c.length
      · subst h0
        simp at e
        subst e
        simp only [Ok]
        have e1 : lo + 1 + c.length = lo + (c.length + 1) := el
        rw [e1, F1 (lo + (c.length + 1)) (by omega) (Nat.le_refl _), F2 _ (by omega), f1]
        have : lo + (c.length + 2 + d.length) = lo + (c.length + 2) + d.length := by omega
        rw [this, g1]
        exact ⟨by omega, by omega, rfl⟩
      · obtain ⟨j, rfl⟩ : ∃ j, i = c.length + 1 + j := ⟨i - (c.length + 1), by omega⟩
        have e3 : c.length + 1 + j - c.length = j + 1 := by omega
        rw [e3] at e
        have e' : d[j]? = some x := by simpa using e
        have hj : j < d.length := (List.getElem?_eq_some_iff.mp e').1
        have q := gk j x e'
        have e4 : lo + (c.length + 2) + j = lo + 1 + (c.length + 1 + j) := by omega
        rw [e4] at q
        exact q.congr (fun y hy _ => (F2 y (by omega)).symm) (by omega) (by omega)

/-! ### the machine -/
structure Mach where
  stk : List Int
  pile : List Int
  sl : Nat → Int
  said : List Int
def put (f : Nat → Int) (s : Nat) (v : Int) : Nat → Int := fun k => if k = s then v else f k
/-- one instruction; none at a fault -/
def exec (given : List Int) (x : Ins) (a : Nat) (M : Mach) : Option (Mach × Nat) :=
  match x with
  | .push n => some ({ M with stk := n :: M.stk }, a + 1)
  | .input k => some ({ M with stk := given.getD k 0 :: M.stk }, a + 1)
  | .load s => some ({ M with stk := M.sl s :: M.stk }, a + 1)
  | .say => some ({ M with said := M.said ++ [M.stk.headD 0] }, a + 1)
  | .store s => some ({ M with stk := M.stk.tail, pile := M.sl s :: M.pile, sl := put M.sl s (M.stk.headD 0) }, a + 1)
  | .restore s => some ({ M with pile := M.pile.tail, sl := put M.sl s (M.pile.headD 0) }, a + 1)
  | .jump t => some (M, t)
  | .test t => some ({ M with stk := M.stk.tail }, if M.stk.headD 0 = 0 then t else a + 1)
  | .add => some ({ M with stk := (M.stk.tail.headD 0 + M.stk.headD 0) % 10000 :: M.stk.tail.tail }, a + 1)
  | .mul => some ({ M with stk := (M.stk.tail.headD 0 * M.stk.headD 0) % 10000 :: M.stk.tail.tail }, a + 1)
  | .div _ => if M.stk.headD 0 = 0 then none else some ({ M with stk := M.stk.tail.headD 0 / M.stk.headD 0 :: M.stk.tail.tail }, a + 1)
def Val (n : Int) : Prop := 0 ≤ n ∧ n < 10000
/-- a state of the machine ahead of the instruction at a -/
structure MOk (h : Nat × Nat) (a : Nat) (M : Mach) : Prop where
  l1 : M.stk.length = h.1
  l2 : M.pile.length = h.2
  b1 : M.stk.length ≤ a
  b2 : M.pile.length ≤ a
  b3 : M.said.length ≤ a
  v1 : ∀ n ∈ M.stk, Val n
  v2 : ∀ n ∈ M.pile, Val n
  v3 : ∀ k, Val (M.sl k)
inductive Res where
  | value (n : Int) | fault (p : Nat)
inductive Runs (code : List Ins) (given : List Int) : Nat → Mach → List Int × Res → Prop
  | done {a : Nat} {M : Mach} (h : code[a]? = none) : Runs code given a M (M.said, .value (M.stk.headD 0))
  | fault {a p : Nat} {M : Mach} (h : code[a]? = some (.div p)) (e : M.stk.headD 0 = 0) : Runs code given a M (M.said, .fault p)
  | step {a a' : Nat} {M M' : Mach} {x : Ins} {r : List Int × Res} (h : code[a]? = some x) (e : exec given x a M = some (M', a')) (t : Runs code given a' M' r) : Runs code given a M r
theorem Runs.det {code : List Ins} {given : List Int} {a : Nat} {M : Mach} {r r' : List Int × Res} (x : Runs code given a M r) : Runs code given a M r' → r = r' := by
  induction x with
  | done h => intro y; cases y with
    | done _ => rfl
    | fault h' _ => rw [h] at h'; cases h'
    | step h' _ _ => rw [h] at h'; cases h'
  | fault h e => intro y; cases y with
    | done h' => rw [h] at h'; cases h'
    | fault h' _ => rw [h] at h'; cases h'; rfl
    | step h' e' _ => rw [h] at h'; cases h'; simp only [exec, e, if_true] at e'; cases e'
  | step h e t ih => intro y; cases y with
    | done h' => rw [h] at h'; cases h'
    | fault h' e' => rw [h] at h'; cases h'; simp only [exec, e', if_true] at e; cases e
    | step h' e' t' => rw [h] at h'; cases h'; rw [e] at e'; cases e'; exact ih t'

theorem val_put {f : Nat → Int} {s : Nat} {v : Int} (h : ∀ k, Val (f k)) (hv : Val v) : ∀ k, Val (put f s v k) := fun k => by
  unfold put
  by_cases e : k = s
  · rw [if_pos e]; exact hv
  · rw [if_neg e]; exact h k
theorem val_mod (n : Int) : Val (n % 10000) := ⟨Int.emod_nonneg _ (by decide), Int.emod_lt_of_pos _ (by decide)⟩
theorem val_getD {given : List Int} (h : ∀ n ∈ given, Val n) (k : Nat) : Val (given.getD k 0) := by
  rw [List.getD_eq_getElem?_getD]
  cases e : given[k]? with
  | none => exact ⟨by decide, by decide⟩
  | some n => exact h n (List.mem_of_getElem? e)
theorem val_div {a b : Int} (ha : Val a) (hb : Val b) (h : b ≠ 0) : Val (a / b) := by
  obtain ⟨a0, a1⟩ := ha
  obtain ⟨b0, b1⟩ := hb
  have hb' : 0 < b := by omega
  exact ⟨Int.ediv_nonneg a0 b0, Int.lt_of_le_of_lt (Int.ediv_le_self b a0) a1⟩
theorem exec_ok {given : List Int} {many hi a a' : Nat} {f : Nat → Nat × Nat} {x : Ins} {M M' : Mach} (ok : Ok many hi f a x) (h : MOk (f a) a M) (hg : ∀ n ∈ given, Val n) (ha : a < hi)
    (e : exec given x a M = some (M', a')) : MOk (f a') a' M' ∧ a < a' ∧ a' ≤ hi := by
  obtain ⟨stk, pile, sl, said⟩ := M
  obtain ⟨l1, l2, b1, b2, b3, v1, v2, v3⟩ := h
  simp only at l1 l2 b1 b2 b3 v1 v2 v3
  cases x <;> simp only [Ok] at ok <;> simp only [exec] at e
  case push n =>
    cases e
    obtain ⟨hv, ef⟩ := ok
    exact ⟨⟨by rw [ef]; simp [l1], by rw [ef]; exact l2, by simp; omega, by simp; omega, by simp; omega, fun k hk => (List.mem_cons.mp hk).elim (fun z => z ▸ hv) (v1 k), v2, v3⟩, by omega, ha⟩
  case input k =>
    cases e
    exact ⟨⟨by rw [ok]; simp [l1], by rw [ok]; exact l2, by simp; omega, by simp; omega, by simp; omega, fun n hn => (List.mem_cons.mp hn).elim (fun z => z ▸ val_getD hg k) (v1 n), v2, v3⟩, by omega, ha⟩
  case load k =>
    cases e
    obtain ⟨_, ef⟩ := ok
    exact ⟨⟨by rw [ef]; simp [l1], by rw [ef]; exact l2, by simp; omega, by simp; omega, by simp; omega, fun n hn => (List.mem_cons.mp hn).elim (fun z => z ▸ v3 k) (v1 n), v2, v3⟩, by omega, ha⟩
  case say =>
    cases e
    obtain ⟨_, ef⟩ := ok
    exact ⟨⟨by rw [ef]; exact l1, by rw [ef]; exact l2, by simp; omega, by simp; omega, by simp; omega, v1, v2, v3⟩, by omega, ha⟩
  case store k =>
    cases e
    obtain ⟨_, h1, ef⟩ := ok
    cases stk with
    | nil => simp at l1; omega
    | cons y r =>
      simp only [List.length_cons] at l1 b1
      refine ⟨⟨by rw [ef]; simp only [List.tail_cons]; omega, by rw [ef]; simp only [List.length_cons]; omega, by simp only [List.tail_cons]; omega, by simp only [List.length_cons]; omega, by simp only; omega, fun n hn => v1 n (List.mem_cons_of_mem _ hn), fun n hn => (List.mem_cons.mp hn).elim (fun z => z ▸ v3 k) (v2 n), val_put v3 (v1 y List.mem_cons_self)⟩, by omega, ha⟩
  case restore k =>
    cases e
    obtain ⟨_, h1, ef⟩ := ok
    cases pile with
    | nil => simp at l2; omega
    | cons y r =>
      simp only [List.length_cons] at l2 b2
      refine ⟨⟨by rw [ef]; exact l1, by rw [ef]; simp only [List.tail_cons]; omega, by simp only; omega, by simp only [List.tail_cons]; omega, by simp only; omega, v1, fun n hn => v2 n (List.mem_cons_of_mem _ hn), val_put v3 (v2 y List.mem_cons_self)⟩, by omega, ha⟩
  case jump t =>
    cases e
    obtain ⟨h1, h2, ef⟩ := ok
    exact ⟨⟨by rw [ef]; exact l1, by rw [ef]; exact l2, by show stk.length ≤ _; omega, by show pile.length ≤ _; omega, by show said.length ≤ _; omega, v1, v2, v3⟩, h1, h2⟩
  case test t =>
    cases e
    obtain ⟨h0, ef, h1, h2, ef2⟩ := ok
    cases stk with
    | nil => simp at l1; omega
    | cons y r =>
      simp only [List.length_cons] at l1 b1
      simp only [List.headD_cons, List.tail_cons]
      by_cases hy : y = 0
      · simp only [hy, if_true]
        exact ⟨⟨by rw [ef2]; simp only; omega, by rw [ef2]; exact l2, by simp only; omega, by simp only; omega, by simp only; omega, fun n hn => v1 n (List.mem_cons_of_mem _ hn), v2, v3⟩, h1, h2⟩
      · simp only [hy, if_false]
        exact ⟨⟨by rw [ef]; simp only; omega, by rw [ef]; exact l2, by simp only; omega, by simp only; omega, by simp only; omega, fun n hn => v1 n (List.mem_cons_of_mem _ hn), v2, v3⟩, by omega, ha⟩
  case add =>
    cases e
    obtain ⟨h1, ef⟩ := ok
    match stk, l1, b1, v1 with
    | b :: c :: r, l1, b1, v1 =>
      simp only [List.length_cons] at l1 b1
      exact ⟨⟨by rw [ef]; simp; omega, by rw [ef]; exact l2, by simp; omega, by simp; omega, by simp; omega, fun n hn => (List.mem_cons.mp hn).elim (fun z => z ▸ val_mod _) fun z => v1 n (List.mem_cons_of_mem _ (List.mem_cons_of_mem _ z)), v2, v3⟩, by omega, ha⟩
    | [b], l1, _, _ => simp at l1; omega
    | [], l1, _, _ => simp at l1; omega
  case mul =>
    cases e
    obtain ⟨h1, ef⟩ := ok
    match stk, l1, b1, v1 with
    | b :: c :: r, l1, b1, v1 =>
      simp only [List.length_cons] at l1 b1
      exact ⟨⟨by rw [ef]; simp; omega, by rw [ef]; exact l2, by simp; omega, by simp; omega, by simp; omega, fun n hn => (List.mem_cons.mp hn).elim (fun z => z ▸ val_mod _) fun z => v1 n (List.mem_cons_of_mem _ (List.mem_cons_of_mem _ z)), v2, v3⟩, by omega, ha⟩
    | [b], l1, _, _ => simp at l1; omega
    | [], l1, _, _ => simp at l1; omega
  case div p =>
    obtain ⟨h1, ef⟩ := ok
    match stk, l1, b1, v1 with
    | b :: c :: r, l1, b1, v1 =>
      by_cases hb : (b :: c :: r).headD 0 = 0
      · rw [if_pos hb] at e; cases e
      · rw [if_neg hb] at e
        cases e
        simp only [List.length_cons] at l1 b1
        exact ⟨⟨by rw [ef]; simp; omega, by rw [ef]; exact l2, by simp; omega, by simp; omega, by simp; omega, fun n hn => (List.mem_cons.mp hn).elim (fun z => z ▸ val_div (v1 c (by simp)) (v1 b (by simp)) hb) fun z => v1 n (List.mem_cons_of_mem _ (List.mem_cons_of_mem _ z)), v2, v3⟩, by omega, ha⟩
    | [b], l1, _, _ => simp at l1; omega
    | [], l1, _, _ => simp at l1; omega
end M28

set_option Elab.async false
set_option linter.all false
set_option maxRecDepth 100000
set_option maxHeartbeats 4000000
open PySem PySem.Spec PyProof.Rows L2 Kt
local macro_rules | `(tactic| walk_at "lk") => `(tactic| first
  | assumption
  | exact Ch.get0 (by assumption) (by walk_at "lk")
  | exact Ch.get1 (by assumption) (by walk_at "lk") (by walk_at "ne")
  | exact Ch.get2 (by assumption) (by walk_at "lk") (by walk_at "ne") (by walk_at "ne")
  | exact Ch.get3 (by assumption) (by walk_at "lk") (by walk_at "ne") (by walk_at "ne") (by walk_at "ne")
  | exact Ch.get4 (by assumption) (by walk_at "lk") (by walk_at "ne") (by walk_at "ne") (by walk_at "ne") (by walk_at "ne"))
local macro_rules | `(tactic| walk_at "tk") => `(tactic| first
  | assumption
  | exact Tk.of (by assumption)
  | exact Dr.tl (by assumption)
  | exact Dr.tf (by assumption)
  | exact Ch.tk (by assumption) (by walk_at "tk"))
local macro_rules | `(tactic| walk_at "ne") => `(tactic| first
  | assumption
  | exact Ne.symm (by assumption)
  | exact ne_tk (by assumption) (by walk_at "tk")
  | exact ne_tk' (by assumption) (by walk_at "tk")
  | exact ne_of (by assumption) (by assumption) (fun z => nomatch z))
local macro_rules | `(tactic| walk_at "lkT") => `(tactic| first
  | assumption
  | exact SqT.of (by walk_at "lk")
  | exact Ch.sqT (by assumption) (by walk_at "lkT"))
local macro_rules | `(tactic| walk_at "nin") => `(tactic| (simp only [List.mem_cons, List.mem_singleton, List.not_mem_nil, or_false, not_or]; first | (walk_at "ne") | (refine ⟨?_, ?_⟩ <;> walk_at "ne") | (refine ⟨?_, ?_, ?_⟩ <;> walk_at "ne")))
local macro_rules | `(tactic| walk_at "lkL") => `(tactic| first
  | assumption
  | exact SqL.of (by walk_at "lk")
  | exact FzL.sqL (by walk_at "fz")
  | exact Ch.sqL0 (by assumption) (by walk_at "lkL")
  | exact Ch.sqL (by assumption) (by walk_at "lkL") (by walk_at "nin"))
local macro_rules | `(tactic| walk_at "ps") => `(tactic| first
  | exact Ps.refl
  | exact Ps.step (by assumption) (by walk_at "ps"))
local macro_rules | `(tactic| walk_at "gr") => `(tactic| first
  | exact Gr.refl
  | exact Gr.step (by assumption) (by walk_at "gr"))
local macro_rules | `(tactic| walk_at "no") => `(tactic| first
  | assumption
  | exact Gr.no (by assumption) (by walk_at "gr"))
local macro_rules | `(tactic| walk_at "mem") => `(tactic| first
  | exact Or.inl List.mem_cons_self
  | exact Or.inl (List.mem_cons_of_mem _ List.mem_cons_self)
  | exact Or.inl (List.mem_cons_of_mem _ (List.mem_cons_of_mem _ List.mem_cons_self))
  | exact Or.inl (List.mem_cons_of_mem _ (List.mem_cons_of_mem _ (List.mem_cons_of_mem _ List.mem_cons_self)))
  | exact Or.inr (by walk_at "no"))
local macro_rules | `(tactic| walk_at "sub") => `(tactic| first
  | exact sub0
  | exact sub1 (by walk_at "mem")
  | exact sub2 (by walk_at "mem") (by walk_at "mem")
  | exact sub3 (by walk_at "mem") (by walk_at "mem") (by walk_at "mem")
  | exact sub4 (by walk_at "mem") (by walk_at "mem") (by walk_at "mem") (by walk_at "mem"))
local macro_rules | `(tactic| walk_at "ch") => `(tactic| first
  | assumption
  | exact Ch.refl
  | exact Ch.stepN (by assumption) (by walk_at "ch") (by walk_at "sub"))
local macro_rules | `(tactic| walk_at "dr") => `(tactic| first
  | assumption
  | exact Dr.ch0 (by assumption) (by walk_at "dr")
  | exact Dr.ch (by assumption) (by walk_at "dr") (by walk_at "nin") (by walk_at "nin"))
local macro_rules | `(tactic| walk_at "size") => `(tactic| first
  | exact Nat.le_of_ble_eq_true rfl
  | exact lt_size (by (try simp only [List.length_map, List.length_append, List.length_cons, List.length_nil, List.length_set, List.length_replicate, List.length_reverse, List.length_range]); omega)
  | exact le_size (by (try simp only [List.length_map, List.length_append, List.length_cons, List.length_nil, List.length_set, List.length_replicate, List.length_reverse, List.length_range]); omega))
local macro_rules | `(tactic| walk_at "fz") => `(tactic| first
  | assumption
  | exact Ch.fz (by assumption) (by walk_at "fz"))
local macro_rules | `(tactic| walk_at "kb") => `(tactic| first
  | exact kb_int_int
  | exact kb_int_bool
  | exact kb_int_str
  | exact kb_int_list
  | exact kb_int_tuple
  | exact kb_int_dict
  | exact kb_bool_int
  | exact kb_bool_bool
  | exact kb_bool_str
  | exact kb_bool_list
  | exact kb_bool_tuple
  | exact kb_bool_dict
  | exact kb_str_int
  | exact kb_str_bool
  | exact kb_str_str
  | exact kb_str_list
  | exact kb_str_tuple
  | exact kb_str_dict
  | exact kb_list_int
  | exact kb_list_bool
  | exact kb_list_str
  | exact kb_list_list
  | exact kb_list_tuple
  | exact kb_list_dict
  | exact kb_tuple_int
  | exact kb_tuple_bool
  | exact kb_tuple_str
  | exact kb_tuple_list
  | exact kb_tuple_tuple
  | exact kb_tuple_dict
  | exact kb_dict_int
  | exact kb_dict_bool
  | exact kb_dict_str
  | exact kb_dict_list
  | exact kb_dict_tuple
  | exact kb_dict_dict
  | exact kb_NoneType_int
  | exact kb_NoneType_bool
  | exact kb_NoneType_str
  | exact kb_NoneType_list
  | exact kb_NoneType_tuple
  | exact kb_NoneType_dict)
local macro_rules | `(tactic| walk_at "vv") => `(tactic| first
  | exact rfl
  | exact Nat.le_of_ble_eq_true rfl
  | decide +kernel)
local macro_rules | `(tactic| walk_at "cls") => `(tactic| assumption)
local macro_rules | `(tactic| walk_at "ix") => `(tactic| first
  | exact rfl
  | assumption
  | exact atI_last _ _)
local macro_rules | `(tactic| walk_at "c") => `(tactic| first
  | decide
  | omega
  | (show (0 : Int) < _; omega)
  | (unfold CDiv; omega)
  | (unfold CMul; omega)
  | (unfold CPow; decide)
  | (unfold CDivN; omega)
  | (unfold CDivW; decide))
local macro_rules | `(tactic| walk_at "w1") => `(tactic| first
  | (with_reducible refine w_seq ?_)
  | (with_reducible refine w_asg ?_)
  | (with_reducible refine w_gn ?_)
  | ((with_reducible show tVar _ _ _ _); refine w_var (by exact rfl) ?_)
  | (with_reducible refine w_c ?_)
  | (with_reducible refine w_op ?_)
  | (with_reducible refine w_rI0 ?_)
  | ((with_reducible show rI _ _ (V.int _) (V.int _) _ _); refine w_rI (by walk_at "c") ?_)
  | (with_reducible refine w_cons ?_)
  | (with_reducible refine w_nil ?_)
  | (with_reducible refine w_fn ?_)
  | (with_reducible refine w_cb ?_)
  | (with_reducible refine w_if ?_)
  | (with_reducible refine w_test ?_)
  | (with_reducible refine w_tB ?_)
  | (with_reducible refine w_bl ?_)
  | (with_reducible refine w_eqI ?_)
  | (with_reducible refine w_neI ?_)
  | (with_reducible refine w_eqS ?_)
  | (with_reducible refine w_neS ?_)
  | (with_reducible refine w_eqB ?_)
  | (with_reducible refine w_not ?_)
  | (with_reducible refine w_and ?_)
  | (with_reducible refine w_or ?_)
  | (with_reducible refine w_ifx ?_)
  | (with_reducible refine w_andV ?_)
  | (with_reducible refine w_orV ?_)
  | (with_reducible refine w_notV ?_)
  | (with_reducible refine w_ret ?_)
  | (with_reducible refine w_retN ?_)
  | (with_reducible refine w_nx ?_)
  | (with_reducible refine w_drop ?_)
  | (with_reducible refine w_brk ?_)
  | (with_reducible refine w_cnt ?_)
  | (with_reducible refine w_un ?_)
  | (with_reducible refine w_rU ?_)
  | (with_reducible refine w_int ?_)
  | (with_reducible refine w_abs ?_)
  | (with_reducible refine w_min2 ?_)
  | (with_reducible refine w_max2 ?_)
  | ((with_reducible show qLenL _ _ _ _); refine w_lenL (by walk_at "lkL") ?_)
  | ((with_reducible show qLenT _ _ _ _); refine w_lenT (by walk_at "lkT") ?_)
  | ((with_reducible show rIxL _ _ _ _ _); refine w_ixL (by walk_at "lkL") (by walk_at "ix") ?_)
  | ((with_reducible show rIxT _ _ _ _ _); refine w_ixT (by walk_at "lkT") (by walk_at "ix") ?_)
  | ((with_reducible show qLenS _ _ _ _); refine w_lenSL (by walk_at "lkL") ?_; intro _)
  | ((with_reducible show qLenS _ _ _ _); refine w_lenST (by walk_at "lkT") ?_; intro _)
  | ((with_reducible show qIxS _ _ _ _ _); refine w_ixSL (by walk_at "lkL") (by walk_at "ix") ?_)
  | ((with_reducible show qIxS _ _ _ _ _); refine w_ixST (by walk_at "lkT") (by walk_at "ix") ?_)
  | (with_reducible refine w_gsub ?_)
  | (with_reducible refine w_bm ?_)
  | (with_reducible refine w_bm0 ?_)
  | ((with_reducible show tyV _ "list" _ _ ∧ _); refine w_tyL (by walk_at "lk") ?_)
  | ((with_reducible show qApp _ _ _ _); refine w_app (by walk_at "lk") (by walk_at "size") ?_; intro _ _ _)
  | ((with_reducible show qSetL _ _ _ _ _); refine w_setL (by walk_at "lk") (by walk_at "ix") ?_; intro _ _ _)
  | ((with_reducible show qPop _ _ _ _); refine w_pop (by walk_at "lk") ?_; intro _ _ _)
  | ((with_reducible show qListL _ _ _ _); refine w_listL (by walk_at "lkL") ?_)
  | ((with_reducible show qListT _ _ _ _); refine w_listT (by walk_at "lkT") ?_)
  | ((with_reducible show qTupL _ _ _ _); refine w_tupL (by walk_at "lkL") ?_)
  | ((with_reducible show qTupT _ _ _ _); refine w_tupT (by walk_at "lkT") ?_)
  | (with_reducible refine w_tup ?_)
  | (with_reducible refine w_lst ?_)
  | ((with_reducible show _ ∧ kNew _ _ _); refine w_kNewS (by walk_at "size") ?_; intro _ _ _ _ _)
  | ((with_reducible show kNew _ _ _); refine w_kNew  ?_; intro _ _ _ _ _)
  | ((with_reducible show kSet _ _ _ _); refine w_kSet  ?_; intro _ _ _)
  | (with_reducible refine w_for ?_)
  | (with_reducible refine w_iList ?_)
  | (with_reducible refine w_iTup ?_)
  | (with_reducible refine w_iRng1 ?_)
  | ((with_reducible show qIsi _ [V.int _, V.ty _] _ _); refine w_isiI (by walk_at "kb") ?_)
  | ((with_reducible show qIsi _ [V.str _, V.ty _] _ _); refine w_isiS (by walk_at "kb") ?_)
  | ((with_reducible show qIsi _ [V.bl _, V.ty _] _ _); refine w_isiB (by walk_at "kb") ?_)
  | ((with_reducible show qIsi _ [V.ref _, V.ty _] _ _); refine w_isiL (by walk_at "lkL") (by walk_at "kb") ?_)
  | ((with_reducible show qIsi _ [V.ref _, V.ty _] _ _); refine w_isiT (by walk_at "lkT") (by walk_at "kb") ?_)
  | ((with_reducible show qFld _ _ (V.ref _) _ _); refine w_fget (by walk_at "lk") (by walk_at "cls") (by walk_at "cls") (by walk_at "vv") ?_)
  | ((with_reducible show qFset _ _ _ (V.ref _) _ _); refine w_fset (by walk_at "lk") (by walk_at "cls") (by walk_at "cls") (by walk_at "vv") ?_; intro _ _ _)
  | ((with_reducible show qSelf _ _ (V.ref _) _ _); refine w_self (by walk_at "lk") (by walk_at "vv") ?_)
  | ((with_reducible show qIsD (V.ref _) _ _); refine w_isD (by walk_at "lk") ?_)
  | ((with_reducible show qDg2' (V.ref _) (V.int _) _ _ _); refine w_dg2I (by walk_at "lk") ?_)
  | ((with_reducible show qDp (V.ref _) (V.int _) _ _ _); refine w_dpI (by walk_at "lk") (by walk_at "size") ?_; intro _ _ _)
  | (with_reducible refine w_lc ?_)
  | (with_reducible refine w_yes ?_)
  | ((with_reducible show wipe _ _ = wipe _ _ ∧ _); refine w_wipe (by exact rfl) ?_)
  | (with_reducible refine w_kGet ?_)
  | (with_reducible refine w_kMt ?_)
  | (with_reducible refine w_kMk ?_)
  | (with_reducible refine w_kFld ?_)
  | (with_reducible refine w_kDg ?_)
  | (with_reducible refine w_kDg2 ?_)
  | (with_reducible refine w_kDp ?_)
  | ((with_reducible show qDg _ (V.str _) _ _); refine w_dgS (by walk_at "lk") (by walk_at "vv") ?_)
  | ((with_reducible show kDisp _ _ _ _); refine w_kDisp  ?_; intro _ _ _ _ _)
  | ((with_reducible show kDnew _ _ _); refine w_kDnew  ?_; intro _ _ _ _ _)
  | ((with_reducible show tPairs _ _ _ _); refine w_prc  ?_)
  | ((with_reducible show tPairs _ _ _ _); refine w_prn  ?_)
  | ((with_reducible show if _ = true then _ else _); refine w_F (by exact rfl) ?_)
  | ((with_reducible show if _ = true then _ else _); refine w_T (by exact rfl) ?_))
local macro_rules | `(tactic| walk_at "w") => `(tactic| repeat (walk_at "w1"))
namespace M28
def topS (i : Nat) : Stmt := PySem.Challenge.pw_codefromcode_k28_text_machine_steps.main.body.getD i (.Pass ⟨0, 0, 0, 0⟩)

abbrev s_pair_value : Stmt := topS 2
theorem sc_pair_value : FnScope [("kind" : Str), ("left" : Str), ("right" : Str)] [("kind" : Str), ("left" : Str), ("right" : Str)] (defScope s_pair_value) := ⟨rfl, rfl, rfl, by decide +kernel, rfl, by decide +kernel, by decide +kernel⟩

abbrev s_TextMachine___init : Stmt := inClass (topS 4) 0
theorem sc_TextMachine___init : FnScope [("self" : Str), ("slots" : Str), ("inputs" : Str)] [("self" : Str), ("slots" : Str), ("inputs" : Str)] (defScope s_TextMachine___init) := ⟨rfl, rfl, rfl, by decide +kernel, rfl, by decide +kernel, by decide +kernel⟩

abbrev s_TextMachine_perform : Stmt := inClass (topS 4) 1
theorem sc_TextMachine_perform : FnScope [("self" : Str), ("instruction" : Str), ("at" : Str), ("kind" : Str), ("k" : Str), ("right" : Str)] [("self" : Str), ("instruction" : Str), ("at" : Str)] (defScope s_TextMachine_perform) := ⟨rfl, rfl, rfl, by decide +kernel, rfl, by decide +kernel, by decide +kernel⟩

abbrev s_run_program : Stmt := topS 5
theorem sc_run_program : FnScope [("code" : Str), ("slots" : Str), ("inputs" : Str), ("machine" : Str), ("at" : Str), ("instruction" : Str)] [("code" : Str), ("slots" : Str), ("inputs" : Str)] (defScope s_run_program) := ⟨rfl, rfl, rfl, by decide +kernel, rfl, by decide +kernel, by decide +kernel⟩

abbrev s_law_draws : Stmt := topS 7
theorem sc_law_draws : FnScope [("script" : Str), ("feed" : Str), ("seed" : Str), ("at" : Str), ("cell" : Str), ("k" : Str)] [("script" : Str)] (defScope s_law_draws) := ⟨rfl, rfl, rfl, by decide +kernel, rfl, by decide +kernel, by decide +kernel⟩

abbrev s_law_pick : Stmt := topS 8
theorem sc_law_pick : FnScope [("draws" : Str), ("many" : Str), ("at" : Str)] [("draws" : Str), ("many" : Str)] (defScope s_law_pick) := ⟨rfl, rfl, rfl, by decide +kernel, rfl, by decide +kernel, by decide +kernel⟩

abbrev s_law_same : Stmt := topS 9
theorem sc_law_same : FnScope [("actual" : Str), ("due" : Str), ("at" : Str)] [("actual" : Str), ("due" : Str)] (defScope s_law_same) := ⟨rfl, rfl, rfl, by decide +kernel, rfl, by decide +kernel, by decide +kernel⟩

abbrev s_law_number : Stmt := topS 10
theorem sc_law_number : FnScope [("draws" : Str)] [("draws" : Str)] (defScope s_law_number) := ⟨rfl, rfl, rfl, by decide +kernel, rfl, by decide +kernel, by decide +kernel⟩

abbrev s_law_wide : Stmt := topS 11
theorem sc_law_wide : FnScope [("draws" : Str), ("many" : Str)] [("draws" : Str), ("many" : Str)] (defScope s_law_wide) := ⟨rfl, rfl, rfl, by decide +kernel, rfl, by decide +kernel, by decide +kernel⟩

abbrev s_law_item : Stmt := topS 12
theorem sc_law_item : FnScope [("draws" : Str), ("made" : Str), ("state" : Str), ("many" : Str), ("deep" : Str), ("kind" : Str), ("spot" : Str)] [("draws" : Str), ("made" : Str), ("state" : Str), ("many" : Str), ("deep" : Str)] (defScope s_law_item) := ⟨rfl, rfl, rfl, by decide +kernel, rfl, by decide +kernel, by decide +kernel⟩

abbrev s_law_items : Stmt := topS 13
theorem sc_law_items : FnScope [("draws" : Str), ("made" : Str), ("state" : Str), ("many" : Str), ("deep" : Str), ("k" : Str)] [("draws" : Str), ("made" : Str), ("state" : Str), ("many" : Str), ("deep" : Str)] (defScope s_law_items) := ⟨rfl, rfl, rfl, by decide +kernel, rfl, by decide +kernel, by decide +kernel⟩

abbrev s_law_level : Stmt := topS 14
theorem sc_law_level : FnScope [("draws" : Str), ("made" : Str), ("state" : Str), ("goal" : Str), ("many" : Str), ("k" : Str)] [("draws" : Str), ("made" : Str), ("state" : Str), ("goal" : Str), ("many" : Str)] (defScope s_law_level) := ⟨rfl, rfl, rfl, by decide +kernel, rfl, by decide +kernel, by decide +kernel⟩

abbrev s_law_over : Stmt := topS 15
theorem sc_law_over : FnScope [("draws" : Str), ("made" : Str), ("state" : Str), ("many" : Str), ("deep" : Str), ("kind" : Str), ("at" : Str), ("goal" : Str), ("begun" : Str), ("back" : Str)] [("draws" : Str), ("made" : Str), ("state" : Str), ("many" : Str), ("deep" : Str), ("kind" : Str)] (defScope s_law_over) := ⟨rfl, rfl, rfl, by decide +kernel, rfl, by decide +kernel, by decide +kernel⟩

abbrev s_law_step : Stmt := topS 16
theorem sc_law_step : FnScope [("world" : Str), ("one" : Str), ("at" : Str), ("kind" : Str), ("stack" : Str), ("two" : Str), ("low" : Str)] [("world" : Str), ("one" : Str), ("at" : Str)] (defScope s_law_step) := ⟨rfl, rfl, rfl, by decide +kernel, rfl, by decide +kernel, by decide +kernel⟩

abbrev s_law_due : Stmt := topS 17
theorem sc_law_due : FnScope [("orders" : Str), ("given" : Str), ("world" : Str), ("at" : Str), ("turn" : Str), ("then" : Str)] [("orders" : Str), ("given" : Str)] (defScope s_law_due) := ⟨rfl, rfl, rfl, by decide +kernel, rfl, by decide +kernel, by decide +kernel⟩

abbrev s_law : Stmt := topS 18
theorem sc_law : FnScope [("script" : Str), ("draws" : Str), ("many" : Str), ("made" : Str), ("state" : Str), ("k" : Str), ("orders" : Str), ("given" : Str), ("other" : Str), ("due" : Str), ("second" : Str), ("handed" : Str), ("first" : Str)] [("script" : Str)] (defScope s_law) := ⟨rfl, rfl, rfl, by decide +kernel, rfl, by decide +kernel, by decide +kernel⟩

structure Tp (P : Program) (w : World) (K : PySem.W.Frag) (mg : Str → Option Value) : Type where
  C_TextMachine : Addr
  g_TextMachine : mg ("TextMachine" : Str) = some (.ref C_TextMachine)
  cl_TextMachine : Cls K C_TextMachine
  mk_TextMachine : MkC K C_TextMachine
  na_TextMachine_inputs : NoAttr K C_TextMachine ("inputs" : Str)
  na_TextMachine_slots : NoAttr K C_TextMachine ("slots" : Str)
  na_TextMachine_stack : NoAttr K C_TextMachine ("stack" : Str)
  na_TextMachine_pile : NoAttr K C_TextMachine ("pile" : Str)
  na_TextMachine_said : NoAttr K C_TextMachine ("said" : Str)
  d_pair_value : ∃ f fd, mg ("pair_value" : Str) = some (.ref f) ∧ Fun K ("pair_value" : Str) ("pair_value" : Str) s_pair_value f fd ∧ Binds K fd [("kind" : Str), ("left" : Str), ("right" : Str)] []
  d_TextMachine___init : ∃ f fd, PySem.W.findIn K (.ref C_TextMachine) ("__init__" : Str) = some (some (.ref f)) ∧ PySem.W.isFn K (.ref f) = true ∧ Fun K ("__init__" : Str) ("TextMachine.__init__" : Str) s_TextMachine___init f fd ∧ Binds K fd [("self" : Str), ("slots" : Str), ("inputs" : Str)] []
  d_TextMachine_perform : ∃ f fd, PySem.W.findIn K (.ref C_TextMachine) ("perform" : Str) = some (some (.ref f)) ∧ PySem.W.isFn K (.ref f) = true ∧ Fun K ("perform" : Str) ("TextMachine.perform" : Str) s_TextMachine_perform f fd ∧ Binds K fd [("self" : Str), ("instruction" : Str), ("at" : Str)] []
  d_run_program : ∃ f fd, mg ("run_program" : Str) = some (.ref f) ∧ Fun K ("run_program" : Str) ("run_program" : Str) s_run_program f fd ∧ Binds K fd [("code" : Str), ("slots" : Str), ("inputs" : Str)] []
  d_law_draws : ∃ f fd, mg ("_law_draws" : Str) = some (.ref f) ∧ Fun K ("_law_draws" : Str) ("_law_draws" : Str) s_law_draws f fd ∧ Binds K fd [("script" : Str)] []
  d_law_pick : ∃ f fd, mg ("_law_pick" : Str) = some (.ref f) ∧ Fun K ("_law_pick" : Str) ("_law_pick" : Str) s_law_pick f fd ∧ Binds K fd [("draws" : Str), ("many" : Str)] []
  d_law_same : ∃ f fd, mg ("_law_same" : Str) = some (.ref f) ∧ Fun K ("_law_same" : Str) ("_law_same" : Str) s_law_same f fd ∧ Binds K fd [("actual" : Str), ("due" : Str)] []
  d_law_number : ∃ f fd, mg ("_law_number" : Str) = some (.ref f) ∧ Fun K ("_law_number" : Str) ("_law_number" : Str) s_law_number f fd ∧ Binds K fd [("draws" : Str)] []
  d_law_wide : ∃ f fd, mg ("_law_wide" : Str) = some (.ref f) ∧ Fun K ("_law_wide" : Str) ("_law_wide" : Str) s_law_wide f fd ∧ Binds K fd [("draws" : Str), ("many" : Str)] []
  d_law_item : ∃ f fd, mg ("_law_item" : Str) = some (.ref f) ∧ Fun K ("_law_item" : Str) ("_law_item" : Str) s_law_item f fd ∧ Binds K fd [("draws" : Str), ("made" : Str), ("state" : Str), ("many" : Str), ("deep" : Str)] []
  d_law_items : ∃ f fd, mg ("_law_items" : Str) = some (.ref f) ∧ Fun K ("_law_items" : Str) ("_law_items" : Str) s_law_items f fd ∧ Binds K fd [("draws" : Str), ("made" : Str), ("state" : Str), ("many" : Str), ("deep" : Str)] []
  d_law_level : ∃ f fd, mg ("_law_level" : Str) = some (.ref f) ∧ Fun K ("_law_level" : Str) ("_law_level" : Str) s_law_level f fd ∧ Binds K fd [("draws" : Str), ("made" : Str), ("state" : Str), ("goal" : Str), ("many" : Str)] []
  d_law_over : ∃ f fd, mg ("_law_over" : Str) = some (.ref f) ∧ Fun K ("_law_over" : Str) ("_law_over" : Str) s_law_over f fd ∧ Binds K fd [("draws" : Str), ("made" : Str), ("state" : Str), ("many" : Str), ("deep" : Str), ("kind" : Str)] []
  d_law_step : ∃ f fd, mg ("_law_step" : Str) = some (.ref f) ∧ Fun K ("_law_step" : Str) ("_law_step" : Str) s_law_step f fd ∧ Binds K fd [("world" : Str), ("one" : Str), ("at" : Str)] []
  d_law_due : ∃ f fd, mg ("_law_due" : Str) = some (.ref f) ∧ Fun K ("_law_due" : Str) ("_law_due" : Str) s_law_due f fd ∧ Binds K fd [("orders" : Str), ("given" : Str)] []
  d_law : ∃ f fd, mg ("law" : Str) = some (.ref f) ∧ Fun K ("law" : Str) ("law" : Str) s_law f fd ∧ Binds K fd [("script" : Str)] []
  n_abs : mg ("abs" : Str) = none
  n_bool : mg ("bool" : Str) = none
  n_int : mg ("int" : Str) = none
  n_isinstance : mg ("isinstance" : Str) = none
  n_len : mg ("len" : Str) = none
  n_list : mg ("list" : Str) = none
  n_min : mg ("min" : Str) = none
  n_range : mg ("range" : Str) = none
  n_str : mg ("str" : Str) = none
  n_tuple : mg ("tuple" : Str) = none
  t_MODULUS : Nat
  c_MODULUS : mg ("MODULUS" : Str) = some (.int 10000 t_MODULUS)

/-! ### what the defs promise -/
def spNumber : Sp := fun vs H Q _ => ∃ (l fl : Addr), vs = [.ref l] ∧ Dr H l fl ∧ ∀ (n : Int) H', Val n → Dr H' l fl → Ch [l] H H' → Q (.int n) H'
def spWide : Sp := fun vs H Q _ => ∃ (l fl : Addr) (m : Int), vs = [.ref l, .int m] ∧ Dr H l fl ∧ 0 < m ∧ ∀ (n : Int) H', 0 ≤ n → n < m → Dr H' l fl → Ch [l] H H' → Q (.int n) H'
def spPair : Sp := fun vs H Q _ => ∃ (k : Str) (a b : Int), vs = [.str k, .int a, .int b] ∧ Val a ∧ Val b ∧
  ((k = "add" ∧ Q (.int ((a + b) % 10000)) H) ∨ (k = "mul" ∧ Q (.int (a * b % 10000)) H) ∨ (k = "div" ∧ b ≠ 0 ∧ Q (.int (a / b)) H))
section
variable {P : Program} {w : World} {K : PySem.W.Frag} {mg : Str → Option Value} {base : Heap}

theorem ok_law_pick  (T : Tp P w K mg) : Df P w K mg base ("_law_pick" : Str) (1) [("draws" : Str), ("many" : Str)] (spPick) := by
  obtain ⟨f, fd, hm, F, b⟩ := T.d_law_pick
  refine ⟨f, fd, hm, F.kp, b, F.ok sc_law_pick (fun vs H Q E h => ?_) (fun cdv A outer s H vs Q E hr h => ?_)⟩
  · obtain ⟨l, fl, m, rfl, hd, hm, q⟩ := h
    rfl
  · obtain ⟨l, fl, m, rfl, hd, hm, q⟩ := h
    have hu := hu_of hr
    refine ⟨_, (pss_cons (ps_set (i := 2) sc_law_pick.nd rfl (Or.inl rfl) (pe_ix ix_list (pv 0) pe_int (fun _ _ => rfl)))
      (pss_cons (ps_asg (pe_op op_add (pv 2) pe_int) (pg_sub (pv 0) pe_int s_lst))
      (pss_cons (ps_if (pt_cmpR op_lt (pv 2) (pe_callB c_lenL (by rfl) T.n_len PySem.boot_len (pa_cons (pe_ix ix_list (pv 0) pe_int (fun _ _ => rfl)) pa_nil)) (nomark _)) (pss_one (ps_ret (pe_op op_mod (pe_callTy c_int (by rfl) T.n_int (by decide +kernel) (pa_cons (pe_ix ix_list (pe_ix ix_list (pv 0) pe_int (fun _ _ => rfl)) (pv 2) (fun _ _ => rfl)) pa_nil)) (pv 1)))) pss_nil)
      (pss_cons (ps_asg (pe_op op_mod (pe_callTy c_int (by rfl) T.n_int (by decide +kernel) (pa_cons (pe_op op_add (pe_op op_mul (pe_ix ix_list (pv 0) pe_int (fun _ _ => rfl)) pe_int) pe_int) pa_nil)) pe_int) (pg_sub (pv 0) pe_int s_lst))
      (pss_one (ps_ret (pe_op op_mod (pe_callTy c_int (by rfl) T.n_int (by decide +kernel) (pa_cons (pe_op op_fdiv (pe_ix ix_list (pv 0) pe_int (fun _ _ => rfl)) pe_int) pa_nil)) (pv 1)))))))), ?_⟩
    have hne := hd.ne
    obtain ⟨a, s, f, h1, h2, h3, h4, h5⟩ := hd.ex
    walk_at "w"
    refine w_D (fun hc => ?_) (fun hc => ?_)
    · walk_at "w"
      have hc' : a < (f.length : Int) := by simpa using hc
      obtain ⟨x, _, _, hx⟩ := atI_map V.int f h3 hc'
      refine w_ixL (by walk_at "lkL") hx ?_
      walk_at "w"
      exact q _ _ (Int.emod_nonneg _ (by omega)) (Int.emod_lt_of_pos _ hm) ⟨_, s, f, by walk_at "lk", by walk_at "lk", by omega, h4, h5⟩ (by walk_at "ch")
    · walk_at "w"
      have e := Int.emod_nonneg (s * 48271 + 11) (by decide : (2147483647 : Int) ≠ 0)
      have e2 := Int.emod_lt_of_pos (s * 48271 + 11) (by decide : (0 : Int) < 2147483647)
      exact q _ _ (Int.emod_nonneg _ (by omega)) (Int.emod_lt_of_pos _ hm) ⟨_, _, f, by walk_at "lk", by walk_at "lk", by omega, e, by omega⟩ (by walk_at "ch")

theorem ok_law_draws  (T : Tp P w K mg) : Df P w K mg base ("_law_draws" : Str) (1) [("script" : Str)] (spDraws K) := by
  obtain ⟨f, fd, hm, F, b⟩ := T.d_law_draws
  refine ⟨f, fd, hm, F.kp, b, F.ok sc_law_draws (fun vs H Q E h => ?_) (fun cdv A outer s H vs Q E hr h => ?_)⟩
  · obtain ⟨a, ns, rfl, hS, hlen, q⟩ := h
    rfl
  · obtain ⟨a, ns, rfl, hS, hlen, q⟩ := h
    have hu := hu_of hr
    refine ⟨_, (pss_cons (ps_set (i := 1) sc_law_draws.nd rfl (Or.inl rfl) (pe_kLst pa_nil))
      (pss_cons (ps_set (i := 2) sc_law_draws.nd rfl (Or.inl rfl) pe_int)
      (pss_cons (ps_for PassesOwn.never rfl (pi_range1 rfl T.n_range (pa_cons (pe_callB (c_min2 rfl) (by rfl) T.n_min (by decide +kernel) (pa_cons (pe_callB c_lenL (by rfl) T.n_len PySem.boot_len (pa_cons (pv 0) pa_nil)) (pa_cons pe_int pa_nil))) pa_nil)) (pg_name (i := 3) sc_law_draws.nd rfl (Or.inl rfl)) (pss_cons (ps_set (i := 4) sc_law_draws.nd rfl (Or.inl rfl) (pe_callB c_abs (by rfl) T.n_abs (by decide +kernel) (pa_cons (pe_ix ix_list (pv 0) (pv 3) (fun _ _ => rfl)) pa_nil)))
      (pss_cons (ps_set (i := 2) sc_law_draws.nd rfl (Or.inl rfl) (pe_op op_mod (pe_callTy c_int (by rfl) T.n_int (by decide +kernel) (pa_cons (pe_op op_add (pe_op op_add (pe_op op_mul (pv 2) pe_int) (pv 4)) (pv 3)) pa_nil)) pe_int))
      (pss_one (ps_if (pt_cmpR op_ge (pv 4) (pe_op op_pow pe_int pe_int) (nomark _)) (pss_one (ps_for PassesOwn.never rfl (pi_range1 rfl T.n_range (pa_cons pe_int pa_nil)) (pg_name (i := 5) sc_law_draws.nd rfl (Or.inl rfl)) (pss_one (ps_if (pt_cmpR op_gt (pv 4) pe_int (nomark _)) (pss_cons (ps_expr (pe_bm PySem.F.plainAttrs_list PySem.F.slot_list_append PySem.F.type_list_append m_app (pv 1) (pa_cons (pe_op op_mod (pe_callTy c_int (by rfl) T.n_int (by decide +kernel) (pa_cons (pv 4) pa_nil)) pe_int) pa_nil)))
      (pss_one (ps_set (i := 4) sc_law_draws.nd rfl (Or.inl rfl) (pe_op op_fdivW (pv 4) pe_int)))) pss_nil)))) (pss_cons (ps_expr (pe_bm PySem.F.plainAttrs_list PySem.F.slot_list_append PySem.F.type_list_append m_app (pv 1) (pa_cons (pe_op op_mod (pe_op op_mod (pe_callTy c_int (by rfl) T.n_int (by decide +kernel) (pa_cons (pe_op op_add (pe_op op_mul (pv 4) pe_int) (pe_op op_mul (pv 3) pe_int)) pa_nil)) pe_int) pe_int) pa_nil)))
      (pss_one (ps_expr (pe_bm PySem.F.plainAttrs_list PySem.F.slot_list_append PySem.F.type_list_append m_app (pv 1) (pa_cons (pe_op op_mod (pe_op op_fdiv (pe_op op_mod (pe_callTy c_int (by rfl) T.n_int (by decide +kernel) (pa_cons (pe_op op_add (pe_op op_mul (pv 4) pe_int) (pe_op op_mul (pv 3) pe_int)) pa_nil)) pe_int) pe_int) pe_int) pa_nil))))))))))
      (pss_one (ps_ret (pe_kLst (pa_cons pe_int (pa_cons (pv 1) (pa_cons (pe_op op_add (pv 2) pe_int) pa_nil))))))))), ?_⟩
    walk_at "w"
    rename_i fl H1 n1 e1 c1
    refine k_rng ns.length (by rw [List.length_map]; split <;> omega) (by rw [List.length_map]; split <;> omega) (by rw [List.length_map]; split <;> omega)
      (fun i σ H' => ∃ feed seed v3 v4 v5, σ = [some (.ref a), some (.ref fl), some (.int seed), v3, v4, v5] ∧ H' fl = some (.lst (feed.map V.int)) ∧ feed.length ≤ 60 * i ∧ 0 ≤ seed ∧ seed < 2147483648 ∧ Ch [fl] H1 H')
      ⟨[], 7, none, none, none, rfl, e1, by simp, by decide, by decide, Ch.refl⟩ ?_ ?_
    · rintro i σ H2 hi ⟨feed, seed, v3, v4, v5, rfl, ef, hf, s0, s1, c2⟩
      obtain ⟨x, _, _, hx⟩ := atI_map V.int ns (a := (i : Int)) (by omega) (by omega)
      walk_at "w"
      have m0 := Int.emod_nonneg (seed * 31 + (if x < 0 then -x else x) + (i : Int)) (by decide : (2147483647 : Int) ≠ 0)
      have m1 := Int.emod_lt_of_pos (seed * 31 + (if x < 0 then -x else x) + (i : Int)) (by decide : (0 : Int) < 2147483647)
      generalize (seed * 31 + (if x < 0 then -x else x) + (i : Int)) % 2147483647 = seed' at m0 m1 ⊢
      generalize (if x < 0 then -x else x) = cell
      refine w_D (fun hc => ?_) (fun hc => ?_)
      · walk_at "w"
        refine k_rng 60 rfl (by decide) (by decide)
          (fun k σ H' => ∃ feed' cell' v5, σ = [some (.ref a), some (.ref fl), some (.int seed'), some (.int i), some (.int cell'), v5] ∧ H' fl = some (.lst (feed'.map V.int)) ∧ feed'.length ≤ 60 * i + k ∧ Ch [fl] H1 H')
          ⟨feed, cell, v5, rfl, ef, by omega, c2⟩ ?_ ?_
        · rintro k σ H3 hk ⟨feed', cell', v5', rfl, ef', hf', c3⟩
          walk_at "w"
          refine w_D (fun hp => ?_) (fun hp => ?_)
          · walk_at "w"
            exact ⟨feed' ++ [_], _, _, rfl, by rw [List.map_append]; walk_at "lk", by simp only [List.length_append, List.length_cons, List.length_nil]; omega, by walk_at "ch"⟩
          · walk_at "w"
            exact ⟨feed', cell', _, rfl, ef', by omega, c3⟩
        · rintro σ H3 ⟨feed', cell', v5', rfl, ef', hf', c3⟩
          walk_at "w"
          exact ⟨feed', seed', _, _, _, rfl, ef', by omega, m0, by omega, c3⟩
      · walk_at "w"
        exact ⟨(feed ++ [_]) ++ [_], seed', _, _, _, rfl, by rw [List.map_append, List.map_append]; walk_at "lk", by simp only [List.length_append, List.length_cons, List.length_nil]; omega, m0, by omega, by walk_at "ch"⟩
    · rintro σ H2 ⟨feed, seed, v3, v4, v5, rfl, ef, hf, s0, s1, c2⟩
      walk_at "w"
      rename_i p H3 n3 e3 c3
      exact q p fl H3 (by walk_at "no") n1 ⟨0, _, feed, e3, by walk_at "lk", by decide, by omega, by omega⟩ (by walk_at "ch")

theorem ok_law_number  (T : Tp P w K mg) (D_law_pick : Df P w K mg base ("_law_pick" : Str) (1) [("draws" : Str), ("many" : Str)] (spPick)) : Df P w K mg base ("_law_number" : Str) (2) [("draws" : Str)] (spNumber) := by
  obtain ⟨f, fd, hm, F, b⟩ := T.d_law_number
  refine ⟨f, fd, hm, F.kp, b, F.ok sc_law_number (fun vs H Q E h => ?_) (fun cdv A outer s H vs Q E hr h => ?_)⟩
  · obtain ⟨l, fl, rfl, hd, q⟩ := h
    rfl
  · obtain ⟨l, fl, rfl, hd, q⟩ := h
    have hu := hu_of hr
    refine ⟨_, (pss_cons (ps_if (pt_cmpR op_eq (pe_fn D_law_pick (hr.mono (by omega)) (by rfl) (pa_cons (pv 0) (pa_cons pe_int pa_nil))) pe_int (nomark _)) (pss_one (ps_ret (pe_fn D_law_pick (hr.mono (by omega)) (by rfl) (pa_cons (pv 0) (pa_cons pe_int pa_nil))))) pss_nil)
      (pss_one (ps_ret (pe_op op_mod (pe_callTy c_int (by rfl) T.n_int (by decide +kernel) (pa_cons (pe_op op_add (pe_op op_add (pe_op op_mul (pe_fn D_law_pick (hr.mono (by omega)) (by rfl) (pa_cons (pv 0) (pa_cons pe_int pa_nil))) pe_int) (pe_op op_mul (pe_fn D_law_pick (hr.mono (by omega)) (by rfl) (pa_cons (pv 0) (pa_cons pe_int pa_nil))) pe_int)) (pe_fn D_law_pick (hr.mono (by omega)) (by rfl) (pa_cons (pv 0) (pa_cons pe_int pa_nil)))) pa_nil)) pe_int)))), ?_⟩
    walk_at "w"
    refine use_pick hd (by decide) fun n H1 n0 n1 d1 c1 => ?_
    walk_at "w"
    refine w_D (fun hc => ?_) (fun hc => ?_)
    · walk_at "w"
      refine use_pick d1 (by decide) fun m H2 m0 m1 d2 c2 => ?_
      exact q _ _ ⟨m0, by omega⟩ d2 (by walk_at "ch")
    · walk_at "w"
      refine use_pick d1 (by decide) fun m1 H2 _ _ d2 c2 => ?_
      walk_at "w"
      refine use_pick d2 (by decide) fun m2 H3 _ _ d3 c3 => ?_
      walk_at "w"
      refine use_pick d3 (by decide) fun m3 H4 _ _ d4 c4 => ?_
      walk_at "w"
      exact q _ _ (val_mod _) d4 (by walk_at "ch")

theorem ok_law_wide  (T : Tp P w K mg) (D_law_pick : Df P w K mg base ("_law_pick" : Str) (1) [("draws" : Str), ("many" : Str)] (spPick)) : Df P w K mg base ("_law_wide" : Str) (2) [("draws" : Str), ("many" : Str)] (spWide) := by
  obtain ⟨f, fd, hm, F, b⟩ := T.d_law_wide
  refine ⟨f, fd, hm, F.kp, b, F.ok sc_law_wide (fun vs H Q E h => ?_) (fun cdv A outer s H vs Q E hr h => ?_)⟩
  · obtain ⟨l, fl, m, rfl, hd, hm, q⟩ := h
    rfl
  · obtain ⟨l, fl, m, rfl, hd, hm, q⟩ := h
    have hu := hu_of hr
    refine ⟨_, (pss_one (ps_ret (pe_op op_mod (pe_callTy c_int (by rfl) T.n_int (by decide +kernel) (pa_cons (pe_op op_add (pe_op op_mul (pe_fn D_law_pick (hr.mono (by omega)) (by rfl) (pa_cons (pv 0) (pa_cons pe_int pa_nil))) pe_int) (pe_fn D_law_pick (hr.mono (by omega)) (by rfl) (pa_cons (pv 0) (pa_cons pe_int pa_nil)))) pa_nil)) (pv 1)))), ?_⟩
    walk_at "w"
    refine use_pick hd (by decide) fun m1 H2 _ _ d2 c2 => ?_
    walk_at "w"
    refine use_pick d2 (by decide) fun m2 H3 _ _ d3 c3 => ?_
    walk_at "w"
    exact q _ _ (Int.emod_nonneg _ (by omega)) (Int.emod_lt_of_pos _ hm) d3 (by walk_at "ch")

theorem ok_pair_value  (T : Tp P w K mg) : Df P w K mg base ("pair_value" : Str) (1) [("kind" : Str), ("left" : Str), ("right" : Str)] (spPair) := by
  obtain ⟨f, fd, hm, F, b⟩ := T.d_pair_value
  refine ⟨f, fd, hm, F.kp, b, F.ok sc_pair_value (fun vs H Q E h => ?_) (fun cdv A outer s H vs Q E hr h => ?_)⟩
  · obtain ⟨k, a, b, rfl, ha, hb, q⟩ := h
    rfl
  · obtain ⟨k, a, b, rfl, ha, hb, q⟩ := h
    have hu := hu_of hr
    refine ⟨_, (pss_cons (ps_if (pt_cmpR op_eq (pv 0) pe_str (nomark _)) (pss_one (ps_ret (pe_op op_mod (pe_op op_add (pv 1) (pv 2)) (pe_glob (v := .int 10000) rfl T.c_MODULUS ⟨_, rfl⟩)))) pss_nil)
      (pss_cons (ps_if (pt_cmpR op_eq (pv 0) pe_str (nomark _)) (pss_one (ps_ret (pe_op op_mod (pe_op op_mul (pv 1) (pv 2)) (pe_glob (v := .int 10000) rfl T.c_MODULUS ⟨_, rfl⟩)))) pss_nil)
      (pss_one (ps_ret (pe_op op_fdiv (pv 1) (pv 2)))))), ?_⟩
    obtain ⟨a0, a1⟩ := id ha
    obtain ⟨b0, b1⟩ := id hb
    rcases q with ⟨rfl, q⟩ | ⟨rfl, q⟩ | ⟨rfl, hn, q⟩
    · walk_at "w"
      exact q
    · walk_at "w"
      exact q
    · walk_at "w"
      exact q

end
end M28


namespace M28
def Made (K : PySem.W.Frag) (H : Hp) (m : Addr) (code : List Ins) : Prop := ∃ vs, H m = some (.lst vs) ∧ DpAll K H vs (code.map insD)
def spLevel (K : PySem.W.Frag) : Sp := fun vs H Q _ => ∃ (l fl m s g : Addr) (many : Nat) (code : List Ins) (a p a' p' : Nat), vs = [.ref l, .ref m, .ref s, .ref g, .int many] ∧ Dr H l fl ∧ Made K H m code ∧
  H s = some (.lst [.int a, .int p]) ∧ H g = some (.lst [.int a', .int p']) ∧ (m ≠ l ∧ m ≠ fl ∧ s ≠ l ∧ s ≠ fl ∧ s ≠ m ∧ g ≠ l ∧ g ≠ fl ∧ g ≠ m ∧ g ≠ s) ∧ 1 ≤ many ∧ (a ≤ a' + 5 ∧ a' ≤ a + 5 ∧ p ≤ p' + 5 ∧ p' ≤ p + 5) ∧ code.length ≤ 900000 ∧
  ∀ frag H', frag.length ≤ 20 → Fits many code.length frag (a, p) (a', p') → Dr H' l fl → Made K H' m (code ++ frag) → H' s = some (.lst [.int a', .int p']) → Ch [l, m, s] H H' → Q .non H'
structure Lv (K : PySem.W.Frag) (H0 : Hp) (l fl m s g : Addr) (many : Nat) (code : List Ins) (a p a' p' : Nat) (cur : Nat × Nat) (n : Nat) (H : Hp) : Prop where
  dr : Dr H l fl
  md : ∃ frag vs, H m = some (.lst vs) ∧ DpAll K H vs ((code ++ frag).map insD) ∧ frag.length ≤ n ∧ Fits many code.length frag (a, p) cur
  hs : H s = some (.lst [.int a, .int p])
  hg : H g = some (.lst [.int a', .int p'])
  ch : Ch [l, m] H0 H
theorem Lv.snoc {K : PySem.W.Frag} {H0 H H' : Hp} {l fl m s g t : Addr} {many : Nat} {code frag : List Ins} {a p a' p' n : Nat} {cur cur' : Nat × Nat} {vs : List V} {x : Ins}
    (hv : DpAll K H vs ((code ++ frag).map insD)) (hl : frag.length ≤ n) (hf : Fits many code.length frag (a, p) cur) (ps : Ps H H')
    (hm : H' m = some (.lst (vs ++ [.ref t]))) (hx : Dp K H' (.ref t) (insD x)) (fx : Fits many (code.length + frag.length) [x] cur cur')
    (hd : Dr H' l fl) (hs : H' s = some (.lst [.int a, .int p])) (hg : H' g = some (.lst [.int a', .int p'])) (hc : Ch [l, m] H0 H') : Lv K H0 l fl m s g many code a p a' p' cur' (n + 1) H' := by
  refine ⟨hd, ⟨frag ++ [x], vs ++ [.ref t], hm, ?_, by simp; omega, hf.append fx⟩, hs, hg, hc⟩
  rw [← List.append_assoc, List.map_append]
  exact dpAll_snoc (ps.dpAll (tup_all _) hv) hx
theorem fits_push {many lo a p : Nat} {n : Int} (h : Val n) : Fits many lo [.push n] (a, p) (a + 1, p) := Fits.one (by simp [Ok, Val] at h ⊢; exact h)
theorem fits_input {many lo a p : Nat} {n : Nat} : Fits many lo [.input n] (a, p) (a + 1, p) := Fits.one (by simp [Ok])
theorem fits_load {many lo a p : Nat} {n : Nat} (h : n < many) : Fits many lo [.load n] (a, p) (a + 1, p) := Fits.one (by simp [Ok]; exact h)
theorem fits_say {many lo a p : Nat} (h : 1 ≤ a) : Fits many lo [.say] (a, p) (a, p) := Fits.one (by simp [Ok]; exact h)
theorem fits_store {many lo a p : Nat} {n : Nat} (h : n < many) : Fits many lo [.store n] (a + 1, p) (a, p + 1) := Fits.one (by simp [Ok]; exact h)
theorem fits_restore {many lo a p : Nat} {n : Nat} (h : n < many) : Fits many lo [.restore n] (a, p + 1) (a, p) := Fits.one (by simp [Ok]; exact h)
theorem fits_add {many lo a p : Nat} (h : 1 ≤ a) : Fits many lo [.add] (a + 1, p) (a, p) := Fits.one (by simp [Ok]; omega)
theorem fits_mul {many lo a p : Nat} (h : 1 ≤ a) : Fits many lo [.mul] (a + 1, p) (a, p) := Fits.one (by simp [Ok]; omega)
theorem fits_div {many lo a p n : Nat} (h : 1 ≤ a) : Fits many lo [.div n] (a + 1, p) (a, p) := Fits.one (by simp [Ok]; omega)
theorem fits_skip {many lo a p : Nat} : Fits many lo [.test (lo + 1)] (a + 1, p) (a, p) := Fits.one (by simp [Ok])
section
variable {P : Program} {w : World} {K : PySem.W.Frag} {mg : Str → Option Value} {base : Heap}

theorem ok_law_level  (T : Tp P w K mg) (D_law_number : Df P w K mg base ("_law_number" : Str) (2) [("draws" : Str)] (spNumber)) (D_law_pick : Df P w K mg base ("_law_pick" : Str) (1) [("draws" : Str), ("many" : Str)] (spPick)) (D_law_wide : Df P w K mg base ("_law_wide" : Str) (2) [("draws" : Str), ("many" : Str)] (spWide)) : Df P w K mg base ("_law_level" : Str) (3) [("draws" : Str), ("made" : Str), ("state" : Str), ("goal" : Str), ("many" : Str)] (spLevel K) := by
  obtain ⟨f, fd, hm, F, b⟩ := T.d_law_level
  refine ⟨f, fd, hm, F.kp, b, F.ok sc_law_level (fun vs H Q E h => ?_) (fun cdv A outer s H vs Q E hr h => ?_)⟩
  · obtain ⟨l, fl, m, s, g, many, code, a, p, a', p', rfl, hd, ⟨vs0, hm0, hv0⟩, hs0, hg0, ⟨n1, n2, n3, n4, n5, n6, n7, n8, n9⟩, hmany, ⟨b1, b2, b3, b4⟩, hlen, q⟩ := h
    rfl
  · obtain ⟨l, fl, m, s, g, many, code, a, p, a', p', rfl, hd, ⟨vs0, hm0, hv0⟩, hs0, hg0, ⟨n1, n2, n3, n4, n5, n6, n7, n8, n9⟩, hmany, ⟨b1, b2, b3, b4⟩, hlen, q⟩ := h
    have hu := hu_of hr
    refine ⟨_, (pss_cons (ps_for PassesOwn.never rfl (pi_range1 rfl T.n_range (pa_cons (pe_op op_sub (pe_ix ix_list (pv 2) pe_int (fun _ _ => rfl)) (pe_ix ix_list (pv 3) pe_int (fun _ _ => rfl))) pa_nil)) (pg_name (i := 5) sc_law_level.nd rfl (Or.inl rfl)) (pss_one (ps_expr (pe_bm PySem.F.plainAttrs_list PySem.F.slot_list_append PySem.F.type_list_append m_app (pv 1) (pa_cons (pe_kTup (pa_cons pe_str (pa_cons (pe_fn D_law_wide (hr.mono (by omega)) (by rfl) (pa_cons (pv 0) (pa_cons (pv 4) pa_nil))) pa_nil))) pa_nil)))))
      (pss_cons (ps_for PassesOwn.never rfl (pi_range1 rfl T.n_range (pa_cons (pe_op op_sub (pe_ix ix_list (pv 3) pe_int (fun _ _ => rfl)) (pe_ix ix_list (pv 2) pe_int (fun _ _ => rfl))) pa_nil)) (pg_name (i := 5) sc_law_level.nd rfl (Or.inl rfl)) (pss_cons (ps_expr (pe_bm PySem.F.plainAttrs_list PySem.F.slot_list_append PySem.F.type_list_append m_app (pv 1) (pa_cons (pe_kTup (pa_cons pe_str (pa_cons (pe_fn D_law_number (hr.mono (by omega)) (by rfl) (pa_cons (pv 0) pa_nil)) pa_nil))) pa_nil)))
      (pss_one (ps_expr (pe_bm PySem.F.plainAttrs_list PySem.F.slot_list_append PySem.F.type_list_append m_app (pv 1) (pa_cons (pe_kTup (pa_cons pe_str (pa_cons (pe_fn D_law_wide (hr.mono (by omega)) (by rfl) (pa_cons (pv 0) (pa_cons (pv 4) pa_nil))) pa_nil))) pa_nil))))))
      (pss_cons (ps_for PassesOwn.never rfl (pi_range1 rfl T.n_range (pa_cons (pe_op op_sub (pe_ix ix_list (pv 2) pe_int (fun _ _ => rfl)) (pe_ix ix_list (pv 3) pe_int (fun _ _ => rfl))) pa_nil)) (pg_name (i := 5) sc_law_level.nd rfl (Or.inl rfl)) (pss_one (ps_if (PW.pt (pw_and (pt_cmpR op_gt (pe_ix ix_list (pv 3) pe_int (fun _ _ => rfl)) pe_int (nomark _)) (pw_and1 (pt_cmpR op_eq (pe_fn D_law_pick (hr.mono (by omega)) (by rfl) (pa_cons (pv 0) (pa_cons pe_int pa_nil))) pe_int (nomark _))))) (pss_one (ps_expr (pe_bm PySem.F.plainAttrs_list PySem.F.slot_list_append PySem.F.type_list_append m_app (pv 1) (pa_cons (pe_ix ix_list (pe_kLst (pa_cons (pe_kTup (pa_cons pe_str pa_nil)) (pa_cons (pe_kTup (pa_cons pe_str pa_nil)) pa_nil))) (pe_fn D_law_pick (hr.mono (by omega)) (by rfl) (pa_cons (pv 0) (pa_cons pe_int pa_nil))) (fun _ _ => rfl)) pa_nil)))) (pss_one (ps_expr (pe_bm PySem.F.plainAttrs_list PySem.F.slot_list_append PySem.F.type_list_append m_app (pv 1) (pa_cons (pe_kTup (pa_cons pe_str (pa_cons (pe_op op_add (pe_callB c_lenL (by rfl) T.n_len PySem.boot_len (pa_cons (pv 1) pa_nil)) pe_int) pa_nil))) pa_nil)))))))
      (pss_cons (ps_for PassesOwn.never rfl (pi_range1 rfl T.n_range (pa_cons (pe_op op_sub (pe_ix ix_list (pv 3) pe_int (fun _ _ => rfl)) (pe_ix ix_list (pv 2) pe_int (fun _ _ => rfl))) pa_nil)) (pg_name (i := 5) sc_law_level.nd rfl (Or.inl rfl)) (pss_one (ps_expr (pe_bm PySem.F.plainAttrs_list PySem.F.slot_list_append PySem.F.type_list_append m_app (pv 1) (pa_cons (pe_kTup (pa_cons pe_str (pa_cons (pe_fn D_law_number (hr.mono (by omega)) (by rfl) (pa_cons (pv 0) pa_nil)) pa_nil))) pa_nil)))))
      (pss_cons (ps_asg (pe_ix ix_list (pv 3) pe_int (fun _ _ => rfl)) (pg_sub (pv 2) pe_int s_lst))
      (pss_one (ps_asg (pe_ix ix_list (pv 3) pe_int (fun _ _ => rfl)) (pg_sub (pv 2) pe_int s_lst)))))))), ?_⟩
    walk_at "w"
    have L0 : Lv K H l fl m s g many code a p a' p' (a, p) 0 H := ⟨hd, ⟨[], vs0, hm0, by rw [List.append_nil]; exact hv0, Nat.le_refl _, Fits.nil⟩, hs0, hg0, Ch.refl⟩
    refine k_rng (p - p') (by omega) (by omega) (by omega) (fun i σ H' => ∃ v, σ = [some (.ref l), some (.ref m), some (.ref s), some (.ref g), some (.int many), v] ∧ Lv K H l fl m s g many code a p a' p' (a, p - i) i H') ⟨none, rfl, L0⟩ ?_ ?_
    · rintro i σ H1 hi ⟨v, rfl, hd1, ⟨frag, vs, hm, hv, hl, hf⟩, hs, hg, hc⟩
      have hvl := dpAll_len hv
      simp only [List.length_map, List.length_append] at hvl
      walk_at "w"
      refine ⟨l, fl, many, rfl, hd1, by omega, fun n H2 m0 m1 d2 c2 => ?_⟩
      obtain ⟨n, rfl⟩ := Int.eq_ofNat_of_zero_le m0
      walk_at "w"
      rename_i t H3 t0 t1 c3 H4 e4 c4
      rw [show p - i = (p - i - 1) + 1 by omega] at hf
      refine ⟨_, rfl, Lv.snoc hv hl hf (by walk_at "ps") e4 (.tup (SqT.of (by walk_at "lk")) (.cons (.str "restore") (.cons (.int n) .nil))) (x := .restore n) ?_ (by walk_at "dr") (by walk_at "lk") (by walk_at "lk") (by walk_at "ch")⟩
      exact fits_restore (by omega)
    rintro σ H1 ⟨v, rfl, L1⟩
    have hg1 := L1.hg
    have hs1 := L1.hs
    walk_at "w"
    refine k_rng (p' - p) (by omega) (by omega) (by omega) (fun i σ H' => ∃ v, σ = [some (.ref l), some (.ref m), some (.ref s), some (.ref g), some (.int many), v] ∧ Lv K H l fl m s g many code a p a' p' (a, p - (p - p') + i) (p - p' + 2 * i) H') ⟨v, rfl, L1⟩ ?_ ?_
    · rintro i σ H1 hi ⟨v, rfl, hd1, ⟨frag, vs, hm, hv, hl, hf⟩, hs, hg, hc⟩
      have hvl := dpAll_len hv
      simp only [List.length_map, List.length_append] at hvl
      walk_at "w"
      refine ⟨l, fl, rfl, hd1, fun k H2 hk d2 c2 => ?_⟩
      walk_at "w"
      rename_i t H3 t0 t1 c3 H4 e4 c4
      have L4 : Lv K H l fl m s g many code a p a' p' (a + 1, p - (p - p') + i) (p - p' + 2 * i + 1) H4 := Lv.snoc hv hl hf (by walk_at "ps") e4 (.tup (SqT.of (by walk_at "lk")) (.cons (.str "push") (.cons (.int k) .nil))) (x := .push k) (fits_push hk) (by walk_at "dr") (by walk_at "lk") (by walk_at "lk") (by walk_at "ch")
      obtain ⟨d4, ⟨frag4, vs4, hm4, hv4, hl4, hf4⟩, hs4, hg4, hc4⟩ := L4
      have hvl4 := dpAll_len hv4
      simp only [List.length_map, List.length_append] at hvl4
      rw [e4] at hm4
      cases hm4
      walk_at "w"
      refine ⟨l, fl, many, rfl, d4, by omega, fun n H5 m0 m1 d5 c5 => ?_⟩
      obtain ⟨n, rfl⟩ := Int.eq_ofNat_of_zero_le m0
      walk_at "w"
      rename_i t2 H6 t3 t4 c6 H7 e7 c7
      refine ⟨_, rfl, Lv.snoc hv4 hl4 hf4 (by walk_at "ps") e7 (.tup (SqT.of (by walk_at "lk")) (.cons (.str "store") (.cons (.int n) .nil))) (x := .store n) (fits_store (by omega)) (by walk_at "dr") (by walk_at "lk") (by walk_at "lk") (by walk_at "ch")⟩
    rintro σ H1 ⟨v, rfl, L1⟩
    have hg1 := L1.hg
    have hs1 := L1.hs
    walk_at "w"
    have ep : p - (p - p') + (p' - p) = p' := by omega
    rw [ep] at L1
    refine k_rng (a - a') (by omega) (by omega) (by omega) (fun i σ H' => ∃ v, σ = [some (.ref l), some (.ref m), some (.ref s), some (.ref g), some (.int many), v] ∧ Lv K H l fl m s g many code a p a' p' (a - i, p') (p - p' + 2 * (p' - p) + i) H') ⟨v, rfl, L1⟩ ?_ ?_
    · rintro i σ H1 hi ⟨v, rfl, hd1, ⟨frag, vs, hm, hv, hl, hf⟩, hs, hg, hc⟩
      have hvl := dpAll_len hv
      simp only [List.length_map, List.length_append] at hvl
      rw [show a - i = (a - i - 1) + 1 by omega] at hf
      walk_at "w"
      have hvi : ((vs.length : Nat) : Int) + 1 = ((code.length + frag.length + 1 : Nat) : Int) := by omega
      refine w_D (fun h1 => ?_) (fun h1 => ?_)
      · walk_at "w"
        refine use_pick hd1 (by decide) fun k H2 _ _ d2 c2 => ?_
        walk_at "w"
        refine w_D (fun h2 => ?_) (fun h2 => ?_)
        · walk_at "w"
          rename_i t1 H3 n3 e3 c3 t2 H4 n4 e4 c4 tl H5 n5 e5 c5
          refine use_pick (by walk_at "dr") (by decide) fun k2 H6 g0 g1 d6 c6 => ?_
          obtain rfl | rfl : k2 = 0 ∨ k2 = 1 := by omega
          · walk_at "w"
            rename_i H7 e7 c7
            exact ⟨_, rfl, Lv.snoc hv hl hf (by walk_at "ps") e7 (.tup (SqT.of (by walk_at "lk")) (.cons (.str "add") .nil)) (x := .add) (fits_add (by omega)) (by walk_at "dr") (by walk_at "lk") (by walk_at "lk") (by walk_at "ch")⟩
          · walk_at "w"
            rename_i H7 e7 c7
            exact ⟨_, rfl, Lv.snoc hv hl hf (by walk_at "ps") e7 (.tup (SqT.of (by walk_at "lk")) (.cons (.str "mul") .nil)) (x := .mul) (fits_mul (by omega)) (by walk_at "dr") (by walk_at "lk") (by walk_at "lk") (by walk_at "ch")⟩
        · walk_at "w"
          rename_i t H3 t0 t1 c3 H4 e4 c4
          rw [hvi] at t1
          exact ⟨_, rfl, Lv.snoc hv hl hf (by walk_at "ps") e4 (.tup (SqT.of (by walk_at "lk")) (.cons (.str "test") (.cons (.int _) .nil))) (x := .test (code.length + frag.length + 1)) fits_skip (by walk_at "dr") (by walk_at "lk") (by walk_at "lk") (by walk_at "ch")⟩
      · walk_at "w"
        rename_i t H3 t0 t1 c3 H4 e4 c4
        rw [hvi] at t1
        exact ⟨_, rfl, Lv.snoc hv hl hf (by walk_at "ps") e4 (.tup (SqT.of (by walk_at "lk")) (.cons (.str "test") (.cons (.int _) .nil))) (x := .test (code.length + frag.length + 1)) fits_skip (by walk_at "dr") (by walk_at "lk") (by walk_at "lk") (by walk_at "ch")⟩
    rintro σ H1 ⟨v, rfl, L1⟩
    have hg1 := L1.hg
    have hs1 := L1.hs
    walk_at "w"
    refine k_rng (a' - a) (by omega) (by omega) (by omega) (fun i σ H' => ∃ v, σ = [some (.ref l), some (.ref m), some (.ref s), some (.ref g), some (.int many), v] ∧ Lv K H l fl m s g many code a p a' p' (a - (a - a') + i, p') (p - p' + 2 * (p' - p) + (a - a') + i) H') ⟨v, rfl, L1⟩ ?_ ?_
    · rintro i σ H1 hi ⟨v, rfl, hd1, ⟨frag, vs, hm, hv, hl, hf⟩, hs, hg, hc⟩
      have hvl := dpAll_len hv
      simp only [List.length_map, List.length_append] at hvl
      walk_at "w"
      refine ⟨l, fl, rfl, hd1, fun k H2 hk d2 c2 => ?_⟩
      walk_at "w"
      rename_i t H3 t0 t1 c3 H4 e4 c4
      exact ⟨_, rfl, Lv.snoc hv hl hf (by walk_at "ps") e4 (.tup (SqT.of (by walk_at "lk")) (.cons (.str "push") (.cons (.int k) .nil))) (x := .push k) (fits_push hk) (by walk_at "dr") (by walk_at "lk") (by walk_at "lk") (by walk_at "ch")⟩
    rintro σ H1 ⟨v, rfl, hd1, ⟨frag, vs, hm, hv, hl, hf⟩, hs, hg, hc⟩
    have ea : a - (a - a') + (a' - a) = a' := by omega
    rw [ea] at hf
    walk_at "w"
    rename_i H2 e2 c2 H3 e3 c3
    exact q frag H3 (by omega) hf (by walk_at "dr") ⟨vs, by walk_at "lk", Ps.dpAll (by walk_at "ps") (tup_all _) hv⟩ e3 (by walk_at "ch")

end
end M28


namespace M28
def Ad : Nat → Nat
  | 0 => 1
  | d + 1 => 6 * Ad d + 42
theorem Ad_pos : ∀ d, 1 ≤ Ad d
  | 0 => Nat.le_refl _
  | d + 1 => by show 1 ≤ 6 * Ad d + 42; omega
def Near (n a a' : Nat) : Prop := a' ≤ a + n ∧ a ≤ a' + n
/-- the promise of item, items and over: at most n more instructions, heights at most k off -/
def spGrow (K : PySem.W.Frag) (args : List V) (n k : Nat) : Sp := fun vs H Q _ => ∃ (l fl m s : Addr) (many : Nat) (code : List Ins) (a p : Nat), vs = [.ref l, .ref m, .ref s, .int many] ++ args ∧ Dr H l fl ∧ Made K H m code ∧
  H s = some (.lst [.int a, .int p]) ∧ (m ≠ l ∧ m ≠ fl ∧ s ≠ l ∧ s ≠ fl ∧ s ≠ m) ∧ 1 ≤ many ∧ code.length + n ≤ 900000 ∧
  ∀ frag a' p' H', frag.length ≤ n → Fits many code.length frag (a, p) (a', p') → Near k a a' → Near k p p' → Dr H' l fl → Made K H' m (code ++ frag) → H' s = some (.lst [.int a', .int p']) → Ch [l, m, s] H H' → Q .non H'
def spItem (K : PySem.W.Frag) (d : Nat) : Sp := spGrow K [.int d] (Ad d) 1
def spItems (K : PySem.W.Frag) (d : Nat) : Sp := spGrow K [.int d] (3 * Ad d) 3
def spOver (K : PySem.W.Frag) (d : Nat) : Sp := fun vs H Q _ => ∃ (kind : Int) (l fl m s : Addr) (many : Nat) (code : List Ins) (a p : Nat), (0 ≤ kind ∧ kind < 3) ∧ vs = [.ref l, .ref m, .ref s, .int many, .int d, .int kind] ∧ Dr H l fl ∧ Made K H m code ∧
  H s = some (.lst [.int ((a + 1 : Nat) : Int), .int p]) ∧ (m ≠ l ∧ m ≠ fl ∧ s ≠ l ∧ s ≠ fl ∧ s ≠ m) ∧ 1 ≤ many ∧ code.length + (6 * Ad d + 42) ≤ 900000 ∧
  ∀ frag a' p' H', frag.length ≤ 6 * Ad d + 42 → Fits many code.length frag (a + 1, p) (a', p') → Near 1 (a + 1) a' → Near 1 p p' → Dr H' l fl → Made K H' m (code ++ frag) → H' s = some (.lst [.int a', .int p']) → Ch [l, m, s] H H' → Q .non H'
def spOverP (K : PySem.W.Frag) : Nat → Sp
  | 0 => fun _ _ _ _ => False
  | d + 1 => spOver K d
theorem made_snoc {K : PySem.W.Frag} {H0 H : Hp} {m t : Addr} {vs : List V} {code : List Ins} {x : Ins} (hv : DpAll K H0 vs (code.map insD)) (ps : Ps H0 H) (hm : H m = some (.lst (vs ++ [.ref t]))) (hx : Dp K H (.ref t) (insD x)) : Made K H m (code ++ [x]) :=
  ⟨_, hm, by rw [List.map_append]; exact dpAll_snoc (ps.dpAll (tup_all _) hv) hx⟩
theorem dp1 {K : PySem.W.Frag} {H : Hp} {t : Addr} {s : Str} (h : H t = some (.tup [.str s])) : Dp K H (.ref t) (.tuple [.str s]) := .tup (SqT.of h) (.cons (.str s) .nil)
theorem dp2 {K : PySem.W.Frag} {H : Hp} {t : Addr} {s : Str} {n : Int} (h : H t = some (.tup [.str s, .int n])) : Dp K H (.ref t) (.tuple [.str s, .int n]) := .tup (SqT.of h) (.cons (.str s) (.cons (.int n) .nil))
theorem near_up {a : Nat} : Near 1 a (a + 1) := ⟨by omega, by omega⟩
theorem near_dn {a : Nat} : Near 1 (a + 1) a := ⟨by omega, by omega⟩
theorem near_eq {a : Nat} : Near 1 a a := ⟨by omega, by omega⟩
section
variable {P : Program} {w : World} {K : PySem.W.Frag} {mg : Str → Option Value} {base : Heap}

theorem ok_law_item {d ko : Nat} (hko : ko ≤ 3 * d + 3) (T : Tp P w K mg) (D_law_over : Df P w K mg base ("_law_over" : Str) (ko) [("draws" : Str), ("made" : Str), ("state" : Str), ("many" : Str), ("deep" : Str), ("kind" : Str)] (spOverP K d)) (D_law_wide : Df P w K mg base ("_law_wide" : Str) (2) [("draws" : Str), ("many" : Str)] (spWide)) (D_law_number : Df P w K mg base ("_law_number" : Str) (2) [("draws" : Str)] (spNumber)) (D_law_pick : Df P w K mg base ("_law_pick" : Str) (1) [("draws" : Str), ("many" : Str)] (spPick)) : Df P w K mg base ("_law_item" : Str) (3 * d + 4) [("draws" : Str), ("made" : Str), ("state" : Str), ("many" : Str), ("deep" : Str)] (spItem K d) := by
  obtain ⟨f, fd, hm, F, b⟩ := T.d_law_item
  refine ⟨f, fd, hm, F.kp, b, F.ok sc_law_item (fun vs H Q E h => ?_) (fun cdv A outer s H vs Q E hr h => ?_)⟩
  · obtain ⟨l, fl, m, s, many, code, a, p, rfl, hd, ⟨vs, hm, hv⟩, hs, ⟨n1, n2, n3, n4, n5⟩, hmany, hlen, q⟩ := h
    rfl
  · obtain ⟨l, fl, m, s, many, code, a, p, rfl, hd, ⟨vs, hm, hv⟩, hs, ⟨n1, n2, n3, n4, n5⟩, hmany, hlen, q⟩ := h
    have hu := hu_of hr
    refine ⟨_, (pss_cons (ps_set (i := 5) sc_law_item.nd rfl (Or.inl rfl) (pe_fn D_law_pick (hr.mono (by omega)) (by rfl) (pa_cons (pv 0) (pa_cons pe_int pa_nil))))
      (pss_cons (ps_set (i := 6) sc_law_item.nd rfl (Or.inl rfl) (pe_fn D_law_wide (hr.mono (by omega)) (by rfl) (pa_cons (pv 0) (pa_cons (pv 3) pa_nil))))
      (pss_one (ps_if (PW.pt (pw_and (pt_cmpR op_lt (pv 5) pe_int (nomark _)) (pw_and (pt_cmpR op_gt (pv 4) pe_int (nomark _)) (pw_and1 (pt_cmpR op_gt (pe_ix ix_list (pv 2) pe_int (fun _ _ => rfl)) pe_int (nomark _)))))) (pss_one (ps_expr (pe_fn D_law_over (hr.mono (by omega)) (by rfl) (pa_cons (pv 0) (pa_cons (pv 1) (pa_cons (pv 2) (pa_cons (pv 3) (pa_cons (pe_op op_sub (pv 4) pe_int) (pa_cons (pv 5) pa_nil))))))))) (pss_one (ps_if (PW.pt (pw_and (pt_cmpR o_inL (pv 5) (pe_kLst (pa_cons pe_int (pa_cons pe_int (pa_cons pe_int (pa_cons pe_int pa_nil))))) (by rfl)) (pw_and1 (pt_cmpR op_gt (pe_ix ix_list (pv 2) pe_int (fun _ _ => rfl)) pe_int (nomark _))))) (pss_cons (ps_expr (pe_bm PySem.F.plainAttrs_list PySem.F.slot_list_append PySem.F.type_list_append m_app (pv 1) (pa_cons (pe_ix ix_list (pe_kLst (pa_cons (pe_kTup (pa_cons pe_str pa_nil)) (pa_cons (pe_kTup (pa_cons pe_str pa_nil)) (pa_cons (pe_kTup (pa_cons pe_str (pa_cons (pe_fn D_law_wide (hr.mono (by omega)) (by rfl) (pa_cons (pv 0) (pa_cons pe_int pa_nil))) pa_nil))) (pa_cons (pe_kTup (pa_cons pe_str (pa_cons (pe_fn D_law_wide (hr.mono (by omega)) (by rfl) (pa_cons (pv 0) (pa_cons pe_int pa_nil))) pa_nil))) pa_nil))))) (pe_op op_sub (pv 5) pe_int) (fun _ _ => rfl)) pa_nil)))
      (pss_one (ps_asg (pe_op op_sub (pe_ix ix_list (pv 2) pe_int (fun _ _ => rfl)) pe_int) (pg_sub (pv 2) pe_int s_lst)))) (pss_one (ps_if (PW.pt (pw_and (pt_cmpR op_eq (pv 5) pe_int (nomark _)) (pw_and1 (pt_cmpR op_gt (pe_ix ix_list (pv 2) pe_int (fun _ _ => rfl)) pe_int (nomark _))))) (pss_one (ps_expr (pe_bm PySem.F.plainAttrs_list PySem.F.slot_list_append PySem.F.type_list_append m_app (pv 1) (pa_cons (pe_kTup (pa_cons pe_str pa_nil)) pa_nil)))) (pss_one (ps_if (PW.pt (pw_and (pt_cmpR o_inL (pv 5) (pe_kLst (pa_cons pe_int (pa_cons pe_int pa_nil))) (by rfl)) (pw_and1 (pt_cmpR op_gt (pe_ix ix_list (pv 2) pe_int (fun _ _ => rfl)) pe_int (nomark _))))) (pss_cons (ps_expr (pe_bm PySem.F.plainAttrs_list PySem.F.slot_list_append PySem.F.type_list_append m_app (pv 1) (pa_cons (pe_kTup (pa_cons pe_str (pa_cons (pv 6) pa_nil))) pa_nil)))
      (pss_cons (ps_asg (pe_op op_sub (pe_ix ix_list (pv 2) pe_int (fun _ _ => rfl)) pe_int) (pg_sub (pv 2) pe_int s_lst))
      (pss_one (ps_asg (pe_op op_add (pe_ix ix_list (pv 2) pe_int (fun _ _ => rfl)) pe_int) (pg_sub (pv 2) pe_int s_lst))))) (pss_one (ps_if (PW.pt (pw_and (pt_cmpR o_inL (pv 5) (pe_kLst (pa_cons pe_int (pa_cons pe_int pa_nil))) (by rfl)) (pw_and1 (pt_cmpR op_gt (pe_ix ix_list (pv 2) pe_int (fun _ _ => rfl)) pe_int (nomark _))))) (pss_cons (ps_expr (pe_bm PySem.F.plainAttrs_list PySem.F.slot_list_append PySem.F.type_list_append m_app (pv 1) (pa_cons (pe_kTup (pa_cons pe_str (pa_cons (pv 6) pa_nil))) pa_nil)))
      (pss_one (ps_asg (pe_op op_sub (pe_ix ix_list (pv 2) pe_int (fun _ _ => rfl)) pe_int) (pg_sub (pv 2) pe_int s_lst)))) (pss_cons (ps_expr (pe_bm PySem.F.plainAttrs_list PySem.F.slot_list_append PySem.F.type_list_append m_app (pv 1) (pa_cons (pe_ix ix_list (pe_kLst (pa_cons (pe_kTup (pa_cons pe_str (pa_cons (pv 6) pa_nil))) (pa_cons (pe_kTup (pa_cons pe_str (pa_cons (pv 6) pa_nil))) (pa_cons (pe_kTup (pa_cons pe_str (pa_cons (pe_fn D_law_pick (hr.mono (by omega)) (by rfl) (pa_cons (pv 0) (pa_cons pe_int pa_nil))) pa_nil))) (pa_cons (pe_kTup (pa_cons pe_str (pa_cons (pe_fn D_law_number (hr.mono (by omega)) (by rfl) (pa_cons (pv 0) pa_nil)) pa_nil))) pa_nil))))) (pe_op op_mod (pe_callTy c_int (by rfl) T.n_int (by decide +kernel) (pa_cons (pv 5) pa_nil)) pe_int) (fun _ _ => rfl)) pa_nil)))
      (pss_one (ps_asg (pe_op op_add (pe_ix ix_list (pv 2) pe_int (fun _ _ => rfl)) pe_int) (pg_sub (pv 2) pe_int s_lst)))))))))))))))), ?_⟩
    have hvl := dpAll_len hv
    simp only [List.length_map] at hvl
    have hA := Ad_pos d
    walk_at "w"
    refine use_pick hd (by decide) fun kind H1 k0 k1 d1 c1 => ?_
    walk_at "w"
    refine ⟨l, fl, many, rfl, d1, by omega, fun n H2 g0 g1 d2 c2 => ?_⟩
    obtain ⟨spot, rfl⟩ := Int.eq_ofNat_of_zero_le g0
    walk_at "w"
    refine' w_cut (fun rest => ?main) ?rest
    case main =>
      refine w_D (fun hk => ?_) (fun hk => ?_)
      rotate_left
      · exact rest
      · walk_at "w"
        refine w_D (fun hd0 => ?_) (fun hd0 => ?_)
        · walk_at "w"
          refine w_D (fun ha => ?_) (fun ha => ?_)
          · walk_at "w"
            obtain ⟨d, rfl⟩ : ∃ e, d = e + 1 := ⟨d - 1, by omega⟩
            obtain ⟨a, rfl⟩ : ∃ e, a = e + 1 := ⟨a - 1, by omega⟩
            have hs2 : H2 s = some (.lst [.int ((a + 1 : Nat) : Int), .int p]) := by walk_at "lk"
            rw [show ((d + 1 : Nat) : Int) - 1 = (d : Int) by omega]
            have hA1 : Ad (d + 1) = 6 * Ad d + 42 := rfl
            refine ⟨kind, l, fl, m, s, many, code, a, p, ⟨k0, by omega⟩, rfl, d2, ⟨vs, by walk_at "lk", Ps.dpAll (by walk_at "ps") (tup_all _) hv⟩, hs2, ⟨n1, n2, n3, n4, n5⟩, hmany, by omega, fun frag a' p' H3 hl hf na np d3 md st c3 => ?_⟩
            walk_at "w"
            exact q frag a' p' H3 (by omega) hf na np d3 md st (by walk_at "ch")
          · exact rest
        · exact rest
    case rest =>
      walk_at "w"
      rename_i q3 H3 n3' e3 c3
      refine w_inLI [3, 4, 5, 6] (by walk_at "lkL") ?_
      walk_at "w"
      refine' w_cut (fun rest => ?main) ?rest
      case main =>
        refine w_D (fun hk => ?_) (fun hk => ?_)
        rotate_left
        · exact rest
        · walk_at "w"
          refine w_D (fun ha => ?_) (fun ha => ?_)
          rotate_left
          · exact rest
          · obtain ⟨a, rfl⟩ : ∃ e, a = e + 2 := ⟨a - 2, by omega⟩
            clear rest
            walk_at "w"
            rename_i t1 H4 u1 w1 c4 t2 H5 u2 w2 c5
            refine ⟨l, fl, 4096, rfl, by walk_at "dr", by decide, fun x1 H6 x10 x11 d6 c6 => ?_⟩
            obtain ⟨x1, rfl⟩ := Int.eq_ofNat_of_zero_le x10
            walk_at "w"
            rename_i t3 H7 u3 w3 c7
            refine ⟨l, fl, 4096, rfl, by walk_at "dr", by decide, fun x2 H8 x20 x21 d8 c8 => ?_⟩
            obtain ⟨x2, rfl⟩ := Int.eq_ofNat_of_zero_le x20
            walk_at "w"
            rename_i t4 H9 u4 w4 c9 tl H10 u5 w5 c10
            have hk' : kind = 3 ∨ kind = 4 ∨ kind = 5 ∨ kind = 6 := by simpa using hk
            rcases hk' with rfl | rfl | rfl | rfl
            · walk_at "w"
              rename_i H11 e11 c11 H12 e12 c12
              rw [show ((a + 2 : Nat) : Int) - 1 = ((a + 1 : Nat) : Int) by omega] at e12
              exact q [.add] (a + 1) p H12 (by exact hA) (fits_add (by omega)) near_dn near_eq (by walk_at "dr") (made_snoc hv (by walk_at "ps") (by walk_at "lk") (dp1 (by walk_at "lk"))) e12 (by walk_at "ch")
            · walk_at "w"
              rename_i H11 e11 c11 H12 e12 c12
              rw [show ((a + 2 : Nat) : Int) - 1 = ((a + 1 : Nat) : Int) by omega] at e12
              exact q [.mul] (a + 1) p H12 (by exact hA) (fits_mul (by omega)) near_dn near_eq (by walk_at "dr") (made_snoc hv (by walk_at "ps") (by walk_at "lk") (dp1 (by walk_at "lk"))) e12 (by walk_at "ch")
            · walk_at "w"
              rename_i H11 e11 c11 H12 e12 c12
              rw [show ((a + 2 : Nat) : Int) - 1 = ((a + 1 : Nat) : Int) by omega] at e12
              exact q [.div x1] (a + 1) p H12 (by exact hA) (fits_div (by omega)) near_dn near_eq (by walk_at "dr") (made_snoc hv (by walk_at "ps") (by walk_at "lk") (dp2 (by walk_at "lk"))) e12 (by walk_at "ch")
            · walk_at "w"
              rename_i H11 e11 c11 H12 e12 c12
              rw [show ((a + 2 : Nat) : Int) - 1 = ((a + 1 : Nat) : Int) by omega] at e12
              exact q [.div x2] (a + 1) p H12 (by exact hA) (fits_div (by omega)) near_dn near_eq (by walk_at "dr") (made_snoc hv (by walk_at "ps") (by walk_at "lk") (dp2 (by walk_at "lk"))) e12 (by walk_at "ch")
      case rest =>
      walk_at "w"
      refine' w_cut (fun rest => ?main) ?rest
      case main =>
        refine w_D (fun hk => ?_) (fun hk => ?_)
        rotate_left
        · exact rest
        · walk_at "w"
          refine w_D (fun ha => ?_) (fun ha => ?_)
          rotate_left
          · exact rest
          · clear rest
            walk_at "w"
            rename_i t1 H4 u1 w1 c4 H5 e5 c5
            exact q [.say] a p H5 (by exact hA) (fits_say (by omega)) near_eq near_eq (by walk_at "dr") (made_snoc hv (by walk_at "ps") (by walk_at "lk") (dp1 (by walk_at "lk"))) (by walk_at "lk") (by walk_at "ch")
      case rest =>
      walk_at "w"
      rename_i q4 H4 n4' e4 c4
      refine w_inLI [8, 9] (by walk_at "lkL") ?_
      walk_at "w"
      refine' w_cut (fun rest => ?main) ?rest
      case main =>
        refine w_D (fun hk => ?_) (fun hk => ?_)
        rotate_left
        · exact rest
        · walk_at "w"
          refine w_D (fun ha => ?_) (fun ha => ?_)
          rotate_left
          · exact rest
          · clear rest
            obtain ⟨a, rfl⟩ : ∃ e, a = e + 1 := ⟨a - 1, by omega⟩
            walk_at "w"
            rename_i t1 H5 u1 w1 c5 H6 e6 c6 H7 e7 c7 H8 e8 c8
            rw [show ((a + 1 : Nat) : Int) - 1 = (a : Int) by omega] at e8
            exact q [.store spot] a (p + 1) H8 (by exact hA) (fits_store (by omega)) near_dn near_up (by walk_at "dr") (made_snoc hv (by walk_at "ps") (by walk_at "lk") (dp2 (by walk_at "lk"))) e8 (by walk_at "ch")
      case rest =>
      walk_at "w"
      rename_i q5 H5 n5' e5 c5
      refine w_inLI [2, 10] (by walk_at "lkL") ?_
      walk_at "w"
      refine' w_cut (fun rest => ?main) ?rest
      case main =>
        refine w_D (fun hk => ?_) (fun hk => ?_)
        rotate_left
        · exact rest
        · walk_at "w"
          refine w_D (fun ha => ?_) (fun ha => ?_)
          rotate_left
          · exact rest
          · clear rest
            obtain ⟨p, rfl⟩ : ∃ e, p = e + 1 := ⟨p - 1, by omega⟩
            walk_at "w"
            rename_i t1 H6 u1 w1 c6 H7 e7 c7 H8 e8 c8
            rw [show ((p + 1 : Nat) : Int) - 1 = (p : Int) by omega] at e8
            exact q [.restore spot] a p H8 (by exact hA) (fits_restore (by omega)) near_eq near_dn (by walk_at "dr") (made_snoc hv (by walk_at "ps") (by walk_at "lk") (dp2 (by walk_at "lk"))) e8 (by walk_at "ch")
      case rest =>
      walk_at "w"
      rename_i t1 H6 u1 w1 c6 t2 H7 u2 w2 c7
      refine use_pick (by walk_at "dr") (by decide) fun x1 H8 x10 x11 d8 c8 => ?_
      obtain ⟨x1, rfl⟩ := Int.eq_ofNat_of_zero_le x10
      walk_at "w"
      rename_i t3 H9 u3 w3 c9
      refine ⟨l, fl, rfl, by walk_at "dr", fun x2 H10 hx2 d10 c10 => ?_⟩
      walk_at "w"
      rename_i t4 H11 u4 w4 c11 tl H12 u5 w5 c12
      have hm4 : kind % 4 = 0 ∨ kind % 4 = 1 ∨ kind % 4 = 2 ∨ kind % 4 = 3 := by omega
      generalize kind % 4 = k4 at hm4 ⊢
      rcases hm4 with rfl | rfl | rfl | rfl
      all_goals walk_at "w"
      all_goals rename_i H13 e13 c13 H14 e14 c14
      · exact q [.load spot] (a + 1) p H14 (by exact hA) (fits_load (by omega)) near_up near_eq (by walk_at "dr") (made_snoc hv (by walk_at "ps") (by walk_at "lk") (dp2 (by walk_at "lk"))) e14 (by walk_at "ch")
      · exact q [.load spot] (a + 1) p H14 (by exact hA) (fits_load (by omega)) near_up near_eq (by walk_at "dr") (made_snoc hv (by walk_at "ps") (by walk_at "lk") (dp2 (by walk_at "lk"))) e14 (by walk_at "ch")
      · exact q [.input x1] (a + 1) p H14 (by exact hA) fits_input near_up near_eq (by walk_at "dr") (made_snoc hv (by walk_at "ps") (by walk_at "lk") (dp2 (by walk_at "lk"))) e14 (by walk_at "ch")
      · exact q [.push x2] (a + 1) p H14 (by exact hA) (fits_push hx2) near_up near_eq (by walk_at "dr") (made_snoc hv (by walk_at "ps") (by walk_at "lk") (dp2 (by walk_at "lk"))) e14 (by walk_at "ch")

end
end M28


namespace M28
theorem ixN_of {n j : Nat} (h : j < n) : ixN n (j : Int) = some j := by
  unfold ixN
  rw [if_pos (Int.natCast_nonneg j), if_pos (by omega)]
  rfl
theorem Near.trans {n k a b c : Nat} (x : Near n a b) (y : Near k b c) : Near (n + k) a c := ⟨by have := x.1; have := y.1; omega, by have := x.2; have := y.2; omega⟩
theorem set_mid {α : Type} (xs zs : List α) (y x : α) : (xs ++ y :: zs).set xs.length x = xs ++ x :: zs := by simp
/-- one instruction of a list is laid anew -/
theorem made_set {K : PySem.W.Frag} {H0 H : Hp} {m t : Addr} {vs : List V} {code c : List Ins} {x y : Ins} (hv : DpAll K H0 vs ((code ++ y :: c).map insD)) (ps : Ps H0 H) (hm : H m = some (.lst (vs.set code.length (.ref t)))) (hx : Dp K H (.ref t) (insD x)) : Made K H m (code ++ x :: c) := by
  refine ⟨_, hm, ?_⟩
  have q := dpAll_set hx code.length (ps.dpAll (tup_all _) hv)
  rw [← List.map_set, set_mid] at q
  exact q
section
variable {P : Program} {w : World} {K : PySem.W.Frag} {mg : Str → Option Value} {base : Heap}

theorem ok_law_items {d : Nat} (T : Tp P w K mg) (D_law_pick : Df P w K mg base ("_law_pick" : Str) (1) [("draws" : Str), ("many" : Str)] (spPick)) (D_law_item : Df P w K mg base ("_law_item" : Str) (3 * d + 4) [("draws" : Str), ("made" : Str), ("state" : Str), ("many" : Str), ("deep" : Str)] (spItem K d)) : Df P w K mg base ("_law_items" : Str) (3 * d + 5) [("draws" : Str), ("made" : Str), ("state" : Str), ("many" : Str), ("deep" : Str)] (spItems K d) := by
  obtain ⟨f, fd, hm, F, b⟩ := T.d_law_items
  refine ⟨f, fd, hm, F.kp, b, F.ok sc_law_items (fun vs H Q E h => ?_) (fun cdv A outer s H vs Q E hr h => ?_)⟩
  · obtain ⟨l, fl, m, s, many, code, a, p, rfl, hd, hmd, hs, ⟨n1, n2, n3, n4, n5⟩, hmany, hlen, q⟩ := h
    rfl
  · obtain ⟨l, fl, m, s, many, code, a, p, rfl, hd, hmd, hs, ⟨n1, n2, n3, n4, n5⟩, hmany, hlen, q⟩ := h
    have hu := hu_of hr
    refine ⟨_, (pss_one (ps_for PassesOwn.never rfl (pi_range1 rfl T.n_range (pa_cons (pe_fn D_law_pick (hr.mono (by omega)) (by rfl) (pa_cons (pv 0) (pa_cons pe_int pa_nil))) pa_nil)) (pg_name (i := 5) sc_law_items.nd rfl (Or.inl rfl)) (pss_one (ps_expr (pe_fn D_law_item (hr.mono (by omega)) (by rfl) (pa_cons (pv 0) (pa_cons (pv 1) (pa_cons (pv 2) (pa_cons (pv 3) (pa_cons (pv 4) pa_nil)))))))))), ?_⟩
    walk_at "w"
    refine use_pick hd (by decide) fun n H1 k0 k1 d1 c1 => ?_
    have hmd1 : Made K H1 m code := let ⟨vs, h1, h2⟩ := hmd; ⟨vs, by walk_at "lk", c1.ps.dpAll (tup_all _) h2⟩
    refine k_rng n.toNat rfl (by omega) (by omega) (fun i σ H' => ∃ v frag a' p', σ = [some (.ref l), some (.ref m), some (.ref s), some (.int many), some (.int d), v] ∧ frag.length ≤ i * Ad d ∧ Fits many code.length frag (a, p) (a', p') ∧ Near i a a' ∧ Near i p p' ∧ Dr H' l fl ∧ Made K H' m (code ++ frag) ∧ H' s = some (.lst [.int a', .int p']) ∧ Ch [l, m, s] H H')
      ⟨none, [], a, p, rfl, by simp, Fits.nil, ⟨by omega, by omega⟩, ⟨by omega, by omega⟩, d1, by rw [List.append_nil]; exact hmd1, by walk_at "lk", by walk_at "ch"⟩ ?_ ?_
    · rintro i σ H2 hi ⟨v, frag, a', p', rfl, hl, hf, na, np, d2, md2, st2, c2⟩
      walk_at "w"
      have hb : i * Ad d ≤ 2 * Ad d := Nat.mul_le_mul_right _ (by omega)
      refine ⟨l, fl, m, s, many, code ++ frag, a', p', rfl, d2, md2, st2, ⟨n1, n2, n3, n4, n5⟩, hmany, by rw [List.length_append]; omega, fun frag2 a2 p2 H3 hl2 hf2 na2 np2 d3 md3 st3 c3 => ?_⟩
      walk_at "w"
      rw [List.length_append] at hf2
      rw [List.append_assoc] at md3
      exact ⟨_, frag ++ frag2, a2, p2, rfl, by rw [List.length_append, Nat.succ_mul]; omega, hf.append hf2, na.trans na2, np.trans np2, d3, md3, st3, by walk_at "ch"⟩
    · rintro σ H2 ⟨v, frag, a', p', rfl, hl, hf, na, np, d2, md2, st2, c2⟩
      walk_at "w"
      have hb : n.toNat * Ad d ≤ 3 * Ad d := Nat.mul_le_mul_right _ (by omega)
      exact q frag a' p' H2 (by omega) hf ⟨by have := na.1; omega, by have := na.2; omega⟩ ⟨by have := np.1; omega, by have := np.2; omega⟩ d2 md2 st2 c2

theorem ok_law_over {d : Nat} (T : Tp P w K mg) (D_law_level : Df P w K mg base ("_law_level" : Str) (3) [("draws" : Str), ("made" : Str), ("state" : Str), ("goal" : Str), ("many" : Str)] (spLevel K)) (D_law_items : Df P w K mg base ("_law_items" : Str) (3 * d + 5) [("draws" : Str), ("made" : Str), ("state" : Str), ("many" : Str), ("deep" : Str)] (spItems K d)) (D_law_pick : Df P w K mg base ("_law_pick" : Str) (1) [("draws" : Str), ("many" : Str)] (spPick)) : Df P w K mg base ("_law_over" : Str) (3 * d + 6) [("draws" : Str), ("made" : Str), ("state" : Str), ("many" : Str), ("deep" : Str), ("kind" : Str)] (spOver K d) := by
  obtain ⟨f, fd, hm, F, b⟩ := T.d_law_over
  refine ⟨f, fd, hm, F.kp, b, F.ok sc_law_over (fun vs H Q E h => ?_) (fun cdv A outer s H vs Q E hr h => ?_)⟩
  · obtain ⟨kind, l, fl, m, s, many, code, a, p, ⟨k0, k1⟩, rfl, hd, ⟨vs, hm, hv⟩, hs, ⟨n1, n2, n3, n4, n5⟩, hmany, hlen, q⟩ := h
    rfl
  · obtain ⟨kind, l, fl, m, s, many, code, a, p, ⟨k0, k1⟩, rfl, hd, ⟨vs, hm, hv⟩, hs, ⟨n1, n2, n3, n4, n5⟩, hmany, hlen, q⟩ := h
    have hu := hu_of hr
    refine ⟨_, (pss_cons (ps_set (i := 6) sc_law_over.nd rfl (Or.inl rfl) (pe_callB c_lenL (by rfl) T.n_len PySem.boot_len (pa_cons (pv 1) pa_nil)))
      (pss_cons (ps_if (pt_cmpR op_eq (pv 5) pe_int (nomark _)) (pss_cons (ps_expr (pe_bm PySem.F.plainAttrs_list PySem.F.slot_list_append PySem.F.type_list_append m_app (pv 1) (pa_cons (pe_kTup (pa_cons pe_str (pa_cons pe_int pa_nil))) pa_nil)))
      (pss_cons (ps_set (i := 7) sc_law_over.nd rfl (Or.inl rfl) (pe_kLst (pa_cons (pe_ix ix_list (pv 2) pe_int (fun _ _ => rfl)) (pa_cons (pe_ix ix_list (pv 2) pe_int (fun _ _ => rfl)) pa_nil))))
      (pss_cons (ps_expr (pe_fn D_law_items (hr.mono (by omega)) (by rfl) (pa_cons (pv 0) (pa_cons (pv 1) (pa_cons (pv 2) (pa_cons (pv 3) (pa_cons (pv 4) pa_nil)))))))
      (pss_cons (ps_expr (pe_fn D_law_level (hr.mono (by omega)) (by rfl) (pa_cons (pv 0) (pa_cons (pv 1) (pa_cons (pv 2) (pa_cons (pv 7) (pa_cons (pv 3) pa_nil)))))))
      (pss_cons (ps_asg (pe_kTup (pa_cons pe_str (pa_cons (pe_callB c_lenL (by rfl) T.n_len PySem.boot_len (pa_cons (pv 1) pa_nil)) pa_nil))) (pg_sub (pv 1) (pv 6) s_lst))
      (pss_one ps_retN)))))) pss_nil)
      (pss_cons (ps_expr (pe_bm PySem.F.plainAttrs_list PySem.F.slot_list_append PySem.F.type_list_append m_app (pv 1) (pa_cons (pe_kTup (pa_cons pe_str (pa_cons pe_int pa_nil))) pa_nil)))
      (pss_cons (ps_asg (pe_op op_sub (pe_ix ix_list (pv 2) pe_int (fun _ _ => rfl)) pe_int) (pg_sub (pv 2) pe_int s_lst))
      (pss_cons (ps_set (i := 8) sc_law_over.nd rfl (Or.inl rfl) (pe_kLst (pa_cons (pe_ix ix_list (pv 2) pe_int (fun _ _ => rfl)) (pa_cons (pe_ix ix_list (pv 2) pe_int (fun _ _ => rfl)) pa_nil))))
      (pss_cons (ps_set (i := 7) sc_law_over.nd rfl (Or.inl rfl) (pe_kLst (pa_cons (pe_ix ix_list (pv 2) pe_int (fun _ _ => rfl)) (pa_cons (pe_ix ix_list (pv 2) pe_int (fun _ _ => rfl)) pa_nil))))
      (pss_cons (ps_if (pt_cmpR op_eq (pv 5) pe_int (nomark _)) (pss_one (ps_set (i := 7) sc_law_over.nd rfl (Or.inl rfl) (pe_kLst (pa_cons (pe_op op_add (pe_ix ix_list (pv 2) pe_int (fun _ _ => rfl)) (pe_fn D_law_pick (hr.mono (by omega)) (by rfl) (pa_cons (pv 0) (pa_cons pe_int pa_nil)))) (pa_cons (pe_op op_add (pe_ix ix_list (pv 2) pe_int (fun _ _ => rfl)) (pe_fn D_law_pick (hr.mono (by omega)) (by rfl) (pa_cons (pv 0) (pa_cons pe_int pa_nil)))) pa_nil))))) pss_nil)
      (pss_cons (ps_expr (pe_fn D_law_items (hr.mono (by omega)) (by rfl) (pa_cons (pv 0) (pa_cons (pv 1) (pa_cons (pv 2) (pa_cons (pv 3) (pa_cons (pv 4) pa_nil)))))))
      (pss_cons (ps_expr (pe_fn D_law_level (hr.mono (by omega)) (by rfl) (pa_cons (pv 0) (pa_cons (pv 1) (pa_cons (pv 2) (pa_cons (pv 7) (pa_cons (pv 3) pa_nil)))))))
      (pss_one (ps_if (pt_cmpR op_eq (pv 5) pe_int (nomark _)) (pss_cons (ps_set (i := 9) sc_law_over.nd rfl (Or.inl rfl) (pe_callB c_lenL (by rfl) T.n_len PySem.boot_len (pa_cons (pv 1) pa_nil)))
      (pss_cons (ps_expr (pe_bm PySem.F.plainAttrs_list PySem.F.slot_list_append PySem.F.type_list_append m_app (pv 1) (pa_cons (pe_kTup (pa_cons pe_str (pa_cons pe_int pa_nil))) pa_nil)))
      (pss_cons (ps_asg (pe_kTup (pa_cons pe_str (pa_cons (pe_callB c_lenL (by rfl) T.n_len PySem.boot_len (pa_cons (pv 1) pa_nil)) pa_nil))) (pg_sub (pv 1) (pv 6) s_lst))
      (pss_cons (ps_asg (pe_ix ix_list (pv 8) pe_int (fun _ _ => rfl)) (pg_sub (pv 2) pe_int s_lst))
      (pss_cons (ps_asg (pe_ix ix_list (pv 8) pe_int (fun _ _ => rfl)) (pg_sub (pv 2) pe_int s_lst))
      (pss_cons (ps_expr (pe_fn D_law_items (hr.mono (by omega)) (by rfl) (pa_cons (pv 0) (pa_cons (pv 1) (pa_cons (pv 2) (pa_cons (pv 3) (pa_cons (pv 4) pa_nil)))))))
      (pss_cons (ps_expr (pe_fn D_law_level (hr.mono (by omega)) (by rfl) (pa_cons (pv 0) (pa_cons (pv 1) (pa_cons (pv 2) (pa_cons (pv 7) (pa_cons (pv 3) pa_nil)))))))
      (pss_one (ps_asg (pe_kTup (pa_cons pe_str (pa_cons (pe_callB c_lenL (by rfl) T.n_len PySem.boot_len (pa_cons (pv 1) pa_nil)) pa_nil))) (pg_sub (pv 1) (pv 9) s_lst)))))))))) (pss_one (ps_asg (pe_kTup (pa_cons pe_str (pa_cons (pe_callB c_lenL (by rfl) T.n_len PySem.boot_len (pa_cons (pv 1) pa_nil)) pa_nil))) (pg_sub (pv 1) (pv 6) s_lst)))))))))))))), ?_⟩
    have hvl := dpAll_len hv
    simp only [List.length_map] at hvl
    walk_at "w"
    refine w_D (fun hk => ?_) (fun hk => ?_)
    · -- a jump over a block
      walk_at "w"
      rename_i t1 H1 u1 w1 c1 H2 e2 c2 g H3 u3 w3 c3
      refine ⟨l, fl, m, s, many, code ++ [.jump 0], a + 1, p, rfl, by walk_at "dr", made_snoc hv (by walk_at "ps") (by walk_at "lk") (dp2 (n := ((0 : Nat) : Int)) (by walk_at "lk")), by walk_at "lk", ⟨n1, n2, n3, n4, n5⟩, hmany, by simp only [List.length_append, List.length_cons, List.length_nil]; omega, fun f1 a1 p1 H4 l1 ft1 na1 np1 d4 md4 st4 c4 => ?_⟩
      walk_at "w"
      have ng : g ≠ l ∧ g ≠ fl ∧ g ≠ m ∧ g ≠ s := ⟨by walk_at "ne", by walk_at "ne", by walk_at "ne", by walk_at "ne"⟩
      obtain ⟨g1, g2, g3, g4⟩ := ng
      simp only [List.length_append, List.length_cons, List.length_nil] at ft1
      have b1 := na1.1; have b2 := na1.2; have b3 := np1.1; have b4 := np1.2
      refine ⟨l, fl, m, s, g, many, (code ++ [.jump 0]) ++ f1, a1, p1, a + 1, p, rfl, d4, md4, st4, by walk_at "lk", ⟨n1, n2, n3, n4, n5, g1, g2, g3, g4⟩, hmany, ⟨by omega, by omega, by omega, by omega⟩, by simp only [List.length_append, List.length_cons, List.length_nil]; omega, fun f2 H5 l2 ft2 d5 md5 st5 c5 => ?_⟩
      obtain ⟨vs5, hm5, hv5⟩ := md5
      have hvl5 := dpAll_len hv5
      simp only [List.length_map, List.length_append, List.length_cons, List.length_nil] at hvl5 ft2
      walk_at "w"
      rename_i t6 H6 u6 w6 c6
      rw [hvl]
      refine w_setL (by walk_at "lk") (ixN_of (by omega)) fun H7 e7 c7 => ?_
      walk_at "w"
      have ft : Fits many code.length (.jump (code.length + ((f1 ++ f2).length + 1)) :: (f1 ++ f2)) (a + 1, p) (a + 1, p) := Fits.jump (ft1.append ft2)
      have e1 : code ++ [Ins.jump 0] ++ f1 ++ f2 = code ++ Ins.jump 0 :: (f1 ++ f2) := by simp
      rw [e1] at hv5
      have e2' : (vs5.length : Int) = ((code.length + ((f1 ++ f2).length + 1) : Nat) : Int) := by simp only [List.length_append]; omega
      rw [e2'] at w6
      exact q _ (a + 1) p H7 (by simp only [List.length_append, List.length_cons]; omega) ft near_eq near_eq (by walk_at "dr") (made_set hv5 (by walk_at "ps") e7 (dp2 (by walk_at "lk"))) (by walk_at "lk") (by walk_at "ch")
    · walk_at "w"
      rename_i t1 H1 u1 w1 c1 H2 e2 c2 H3 e3 c3 bg H4 u4 w4 c4 g H5 u5 w5 c5
      rw [show ((a + 1 : Nat) : Int) - 1 = (a : Int) by omega] at e3 w4 w5
      have s5 : H5 s = some (.lst [.int a, .int p]) := by walk_at "lk"
      have m5 : Made K H5 m (code ++ [.test 0]) := made_snoc hv (by walk_at "ps") (by walk_at "lk") (dp2 (n := ((0 : Nat) : Int)) (by walk_at "lk"))
      have d5 : Dr H5 l fl := by walk_at "dr"
      have ch5 : Ch [l, m, s] H H5 := by walk_at "ch"
      have nb : bg ≠ l ∧ bg ≠ fl ∧ bg ≠ m ∧ bg ≠ s := ⟨by walk_at "ne", by walk_at "ne", by walk_at "ne", by walk_at "ne"⟩
      obtain ⟨nb1, nb2, nb3, nb4⟩ := nb
      refine w_D (fun hk1 => ?_) (fun hk1 => ?_)
      · -- a test over two blocks
        subst hk1
        walk_at "w"
        refine use_pick d5 (by decide) fun x H6 x0 x1 d6 c6 => ?_
        obtain ⟨x, rfl⟩ := Int.eq_ofNat_of_zero_le x0
        walk_at "w"
        refine use_pick d6 (by decide) fun y H7 y0 y1 d7 c7 => ?_
        obtain ⟨y, rfl⟩ := Int.eq_ofNat_of_zero_le y0
        walk_at "w"
        rename_i g2 H8 u8 w8 c8
        rw [← Int.natCast_add, ← Int.natCast_add] at w8
        obtain ⟨vs5, hm5, hv5⟩ := m5
        refine ⟨l, fl, m, s, many, code ++ [.test 0], a, p, rfl, by walk_at "dr", ⟨vs5, by walk_at "lk", Ps.dpAll (by walk_at "ps") (tup_all _) hv5⟩, by walk_at "lk", ⟨n1, n2, n3, n4, n5⟩, hmany, by simp only [List.length_append, List.length_cons, List.length_nil]; omega, fun f1 a1 p1 H9 l1 ft1 na1 np1 d9 md9 st9 c9 => ?_⟩
        walk_at "w"
        have ng : g2 ≠ l ∧ g2 ≠ fl ∧ g2 ≠ m ∧ g2 ≠ s := ⟨by walk_at "ne", by walk_at "ne", by walk_at "ne", by walk_at "ne"⟩
        obtain ⟨g1, g2', g3, g4⟩ := ng
        simp only [List.length_append, List.length_cons, List.length_nil] at ft1
        have b1 := na1.1; have b2 := na1.2; have b3 := np1.1; have b4 := np1.2
        refine ⟨l, fl, m, s, g2, many, (code ++ [.test 0]) ++ f1, a1, p1, a + x, p + y, rfl, d9, md9, st9, by walk_at "lk", ⟨n1, n2, n3, n4, n5, g1, g2', g3, g4⟩, hmany, ⟨by omega, by omega, by omega, by omega⟩, by simp only [List.length_append, List.length_cons, List.length_nil]; omega, fun f2 H10 l2 ft2 d10 md10 st10 c10 => ?_⟩
        obtain ⟨vs10, hm10, hv10⟩ := md10
        have hvl10 := dpAll_len hv10
        simp only [List.length_map, List.length_append, List.length_cons, List.length_nil] at hvl10 ft2
        walk_at "w"
        rename_i t11 H11 u11 w11 c11 H12 e12 c12 t13 H13 u13 w13 c13
        rw [hvl]
        refine w_setL (by walk_at "lk") (ixN_of (by simp only [List.length_append, List.length_cons, List.length_nil]; omega)) fun H14 e14 c14 => ?_
        walk_at "w"
        rename_i H15 e15 c15 H16 e16 c16
        have q1 : Made K H12 m (code ++ [.test 0] ++ f1 ++ f2 ++ [.jump 0]) := made_snoc hv10 (by walk_at "ps") (by walk_at "lk") (dp2 (n := ((0 : Nat) : Int)) (by walk_at "lk"))
        have e1 : code ++ [Ins.test 0] ++ f1 ++ f2 ++ [Ins.jump 0] = code ++ Ins.test 0 :: (f1 ++ f2 ++ [Ins.jump 0]) := by simp
        rw [e1] at q1
        obtain ⟨vs12, hm12, hv12⟩ := q1
        have e2' : ((vs10 ++ [V.ref t11]).length : Int) = ((code.length + ((f1 ++ f2).length + 2) : Nat) : Int) := by simp only [List.length_append, List.length_cons, List.length_nil]; omega
        rw [e2'] at w13
        rw [hm12] at e12
        cases e12
        have q2 : Made K H16 m (code ++ Ins.test (code.length + ((f1 ++ f2).length + 2)) :: (f1 ++ f2 ++ [Ins.jump 0])) := made_set hv12 (by walk_at "ps") (by walk_at "lk") (dp2 (by walk_at "lk"))
        have e3' : code ++ Ins.test (code.length + ((f1 ++ f2).length + 2)) :: (f1 ++ f2 ++ [Ins.jump 0]) = code ++ Ins.test (code.length + ((f1 ++ f2).length + 2)) :: (f1 ++ f2) ++ [Ins.jump 0] := by simp
        rw [e3'] at q2
        refine ⟨l, fl, m, s, many, _, a, p, rfl, by walk_at "dr", q2, e16, ⟨n1, n2, n3, n4, n5⟩, hmany, by simp only [List.length_append, List.length_cons, List.length_nil]; omega, fun f3 a3 p3 H17 l3 ft3 na3 np3 d17 md17 st17 c17 => ?_⟩
        walk_at "w"
        simp only [List.length_append, List.length_cons, List.length_nil] at ft3
        have b5 := na3.1; have b6 := na3.2; have b7 := np3.1; have b8 := np3.2
        refine ⟨l, fl, m, s, g2, many, _, a3, p3, a + x, p + y, rfl, d17, md17, st17, by walk_at "lk", ⟨n1, n2, n3, n4, n5, g1, g2', g3, g4⟩, hmany, ⟨by omega, by omega, by omega, by omega⟩, by simp only [List.length_append, List.length_cons, List.length_nil]; omega, fun f4 H18 l4 ft4 d18 md18 st18 c18 => ?_⟩
        obtain ⟨vs18, hm18, hv18⟩ := md18
        have hvl18 := dpAll_len hv18
        simp only [List.length_map, List.length_append, List.length_cons, List.length_nil] at hvl18 ft4
        walk_at "w"
        rename_i t19 H19 u19 w19 c19
        have e4 : (vs10.length : Int) = (((code ++ Ins.test (code.length + ((f1 ++ f2).length + 2)) :: (f1 ++ f2)).length : Nat) : Int) := by simp only [List.length_append, List.length_cons]; omega
        rw [e4]
        refine w_setL (by walk_at "lk") (ixN_of (by simp only [List.length_append, List.length_cons]; omega)) fun H20 e20 c20 => ?_
        walk_at "w"
        have e5 : code ++ Ins.test (code.length + ((f1 ++ f2).length + 2)) :: (f1 ++ f2) ++ [Ins.jump 0] ++ f3 ++ f4 = (code ++ Ins.test (code.length + ((f1 ++ f2).length + 2)) :: (f1 ++ f2)) ++ Ins.jump 0 :: (f3 ++ f4) := by simp
        rw [e5] at hv18
        have e6 : (vs18.length : Int) = ((code.length + ((f1 ++ f2).length + 2 + (f3 ++ f4).length) : Nat) : Int) := by simp only [List.length_append]; omega
        rw [e6] at w19
        have q3 := made_set (x := .jump (code.length + ((f1 ++ f2).length + 2 + (f3 ++ f4).length))) hv18 (by walk_at "ps") e20 (dp2 (by walk_at "lk"))
        rw [List.append_assoc, List.cons_append] at q3
        have ft34 : Fits many (code.length + ((f1 ++ f2).length + 2)) (f3 ++ f4) (a, p) (a + x, p + y) := by
          have z1 : code.length + (f1.length + f2.length + 1) + (0 + 1) = code.length + ((f1 ++ f2).length + 2) := by simp only [List.length_append]; omega
          have z2 : code.length + (f1.length + f2.length + 1) + (0 + 1) + f3.length = code.length + ((f1 ++ f2).length + 2) + f3.length := by simp only [List.length_append]; omega
          rw [z1] at ft3
          rw [z2] at ft4
          exact ft3.append ft4
        have ft := Fits.both (ft1.append ft2) ft34
        exact q _ (a + x) (p + y) H20 (by simp only [List.length_append, List.length_cons]; omega) ft ⟨by omega, by omega⟩ ⟨by omega, by omega⟩ (by walk_at "dr") q3 (by walk_at "lk") (by walk_at "ch")
      · -- a test over one block
        walk_at "w"
        obtain ⟨vs5, hm5, hv5⟩ := m5
        refine ⟨l, fl, m, s, many, code ++ [.test 0], a, p, rfl, d5, ⟨vs5, hm5, hv5⟩, by walk_at "lk", ⟨n1, n2, n3, n4, n5⟩, hmany, by simp only [List.length_append, List.length_cons, List.length_nil]; omega, fun f1 a1 p1 H9 l1 ft1 na1 np1 d9 md9 st9 c9 => ?_⟩
        walk_at "w"
        have ng : g ≠ l ∧ g ≠ fl ∧ g ≠ m ∧ g ≠ s := ⟨by walk_at "ne", by walk_at "ne", by walk_at "ne", by walk_at "ne"⟩
        obtain ⟨g1, g2', g3, g4⟩ := ng
        simp only [List.length_append, List.length_cons, List.length_nil] at ft1
        have b1 := na1.1; have b2 := na1.2; have b3 := np1.1; have b4 := np1.2
        refine ⟨l, fl, m, s, g, many, (code ++ [.test 0]) ++ f1, a1, p1, a, p, rfl, d9, md9, st9, by walk_at "lk", ⟨n1, n2, n3, n4, n5, g1, g2', g3, g4⟩, hmany, ⟨by omega, by omega, by omega, by omega⟩, by simp only [List.length_append, List.length_cons, List.length_nil]; omega, fun f2 H10 l2 ft2 d10 md10 st10 c10 => ?_⟩
        obtain ⟨vs10, hm10, hv10⟩ := md10
        have hvl10 := dpAll_len hv10
        simp only [List.length_map, List.length_append, List.length_cons, List.length_nil] at hvl10 ft2
        walk_at "w"
        refine w_F (decide_eq_false hk1) ?_
        walk_at "w"
        rename_i t11 H11 u11 w11 c11
        rw [hvl]
        refine w_setL (by walk_at "lk") (ixN_of (by omega)) fun H14 e14 c14 => ?_
        walk_at "w"
        have ft : Fits many code.length (.test (code.length + ((f1 ++ f2).length + 1)) :: (f1 ++ f2)) (a + 1, p) (a, p) := Fits.test (ft1.append ft2)
        have e1 : code ++ [Ins.test 0] ++ f1 ++ f2 = code ++ Ins.test 0 :: (f1 ++ f2) := by simp
        rw [e1] at hv10
        have e2' : (vs10.length : Int) = ((code.length + ((f1 ++ f2).length + 1) : Nat) : Int) := by simp only [List.length_append]; omega
        rw [e2'] at w11
        exact q _ a p H14 (by simp only [List.length_append, List.length_cons]; omega) ft near_dn near_eq (by walk_at "dr") (made_set hv10 (by walk_at "ps") e14 (dp2 (by walk_at "lk"))) (by walk_at "lk") (by walk_at "ch")

end
end M28


namespace M28
def fsM (inp : V) (sl st pl sd : Addr) : List (Str × V) := [("inputs", inp), ("slots", .ref sl), ("stack", .ref st), ("pile", .ref pl), ("said", .ref sd)]
structure MachAt (C : Addr) (H : Hp) (self : Addr) (inp : V) (sl st pl sd : Addr) (many : Nat) (M : Mach) : Prop where
  ob : ∃ dx, H self = some (.ins C dx (fsM inp sl st pl sd))
  sl : H sl = some (.lst ((List.range many).map fun k => V.int (M.sl k)))
  st : H st = some (.lst (M.stk.reverse.map V.int))
  pl : H pl = some (.lst (M.pile.reverse.map V.int))
  sd : H sd = some (.lst (M.said.map V.int))
/-- the inputs: a tuple, or a list that the machine does not change -/
def Inp (K : PySem.W.Frag) (H : Hp) (a : Addr) (given : List Int) (ls : List Addr) : Prop := SqT K H a (given.map V.int) ∨ (H a = some (.lst (given.map V.int)) ∧ a ∉ ls)
theorem Inp.ch {K : PySem.W.Frag} {H H' : Hp} {a : Addr} {given : List Int} {ls ls' : List Addr} (c : Ch ls' H H') (h : Inp K H a given ls) (s : ∀ x ∈ ls', x ∈ ls ∨ H x = none ∧ x ≠ a) : Inp K H' a given ls := by
  rcases h with h | ⟨h, n⟩
  · exact .inl (c.sqT h)
  · exact .inr ⟨c.keep _ _ h fun m => (s a m).elim n fun z => z.2 rfl, n⟩
theorem rev_cons (n : Int) (s : List Int) : (n :: s).reverse.map V.int = s.reverse.map V.int ++ [V.int n] := by simp
theorem slot_at {many s : Nat} (f : Nat → Int) (h : s < many) : atI ((List.range many).map fun k => V.int (f k)) (s : Int) = some (V.int (f s)) := by
  refine atI_nat ?_
  rw [List.getElem?_map, List.getElem?_range h]
  rfl
theorem slots_set {many s : Nat} (f : Nat → Int) (v : Int) : ((List.range many).map fun k => V.int (f k)).set s (V.int v) = (List.range many).map fun k => V.int (put f s v k) := by
  refine List.ext_getElem? fun i => ?_
  rw [List.getElem?_set, List.getElem?_map, List.getElem?_map, List.length_map, List.length_range]
  by_cases hi : i < many
  · rw [List.getElem?_range hi]
    simp only [Option.map_some, put]
    by_cases e : s = i
    · subst e; simp [hi]
    · have e2 : ¬ i = s := fun z => e z.symm
      simp [e, e2]
  · have e : (List.range many)[i]? = none := List.getElem?_eq_none_iff.mpr (by rw [List.length_range]; omega)
    rw [e]
    by_cases e2 : s = i
    · subst e2; simp [hi]
    · simp [e2]
theorem ixN_of' {n j : Nat} (h : j < n) : ixN n (j : Int) = some j := by
  unfold ixN
  rw [if_pos (Int.natCast_nonneg j), if_pos (by omega)]
  rfl
theorem rep_zero (n : Nat) : (List.replicate n [V.int 0]).flatten = (List.range n).map fun _ => V.int 0 := by
  induction n with
  | zero => rfl
  | succ n ih =>
    rw [List.replicate_succ', List.flatten_append, ih, List.range_succ, List.map_append]
    rfl
def spInit (K : PySem.W.Frag) (C : Addr) : Sp := fun vs H Q _ => ∃ (self dx : Addr) (many : Nat) (inp : V), vs = [.ref self, .int many, inp] ∧ H self = some (.ins C dx []) ∧ many ≤ 1000 ∧
  ∀ sl st pl sd H', H sl = none → H st = none → H pl = none → H sd = none → (st ≠ sl ∧ pl ≠ sl ∧ sd ≠ sl ∧ pl ≠ st ∧ sd ≠ st ∧ sd ≠ pl) → MachAt C H' self inp sl st pl sd many ⟨[], [], fun _ => 0, []⟩ → Ch [self] H H' → Q .non H'
def spPerf (K : PySem.W.Frag) (C : Addr) : Sp := fun vs H Q _ => ∃ (self sl st pl sd ia : Addr) (v : V) (many hi a : Nat) (given : List Int) (f : Nat → Nat × Nat) (x : Ins) (M : Mach), vs = [.ref self, v, .int a] ∧ MachAt C H self (.ref ia) sl st pl sd many M ∧ Inp K H ia given [sl, st, pl, sd] ∧
  (st ≠ sl ∧ pl ≠ sl ∧ sd ≠ sl ∧ pl ≠ st ∧ sd ≠ st ∧ sd ≠ pl) ∧ Dp K H v (insD x) ∧ Ok many hi f a x ∧ MOk (f a) a M ∧ a ≤ 900000 ∧ (∀ p, x = .div p → M.stk.headD 0 ≠ 0) ∧
  ∀ M' a' H', exec given x a M = some (M', a') → MachAt C H' self (.ref ia) sl st pl sd many M' → Ch [sl, st, pl, sd] H H' → Q (.int (a' : Nat)) H'
theorem inv2 {K : PySem.W.Frag} {H : Hp} {v : V} {s : Str} {n : Int} (h : Dp K H v (.tuple [.str s, .int n])) : ∃ t, v = .ref t ∧ SqT K H t [.str s, .int n] := by
  cases h with
  | tup hS hA => cases hA with
    | cons h1 h2 => cases h1; cases h2 with
      | cons h3 h4 => cases h3; cases h4; exact ⟨_, rfl, hS⟩
theorem inv1 {K : PySem.W.Frag} {H : Hp} {v : V} {s : Str} (h : Dp K H v (.tuple [.str s])) : ∃ t, v = .ref t ∧ SqT K H t [.str s] := by
  cases h with
  | tup hS hA => cases hA with
    | cons h1 h2 => cases h1; cases h2; exact ⟨_, rfl, hS⟩
theorem Inp.any {K : PySem.W.Frag} {H : Hp} {a : Addr} {given : List Int} {ls : List Addr} (h : Inp K H a given ls) : SqL K H a (given.map V.int) ∨ SqT K H a (given.map V.int) := h.elim .inr fun z => .inl (SqL.of z.1)
theorem w_lenA {K : PySem.W.Frag} {H : Hp} {a : Addr} {ys : List V} {Q : VK} (h : SqL K H a ys ∨ SqT K H a ys) (q : Q (.int ys.length) H) : qLenS K [.ref a] H Q := ⟨a, ys, rfl, h, fun _ => q⟩
theorem w_ixA {K : PySem.W.Frag} {H : Hp} {a : Addr} {xs : List V} {n : Int} {v : V} {Q : VK} (h : SqL K H a xs ∨ SqT K H a xs) (g : atI xs n = some v) (q : Q v H) : qIxS K (.ref a) (.int n) H Q := ⟨a, xs, n, v, rfl, rfl, h, g, q⟩
section
variable {P : Program} {w : World} {K : PySem.W.Frag} {mg : Str → Option Value} {base : Heap}

theorem ok_TextMachine___init  (T : Tp P w K mg) : Dm P w K mg base T.C_TextMachine ("__init__" : Str) (1) [("self" : Str), ("slots" : Str), ("inputs" : Str)] (spInit K T.C_TextMachine) := by
  obtain ⟨f, fd, hf, hF, F, b⟩ := T.d_TextMachine___init
  refine ⟨f, fd, hf, hF, F.kp, b, F.ok sc_TextMachine___init (fun vs H Q E h => ?_) (fun cdv A outer s H vs Q E hr h => ?_)⟩
  · obtain ⟨self, dx, many, inp, rfl, ho, hmany, q⟩ := h
    rfl
  · obtain ⟨self, dx, many, inp, rfl, ho, hmany, q⟩ := h
    have hu := hu_of hr
    refine ⟨_, (pss_cons (ps_kFld (pv 0) (pv 2) rfl)
      (pss_cons (ps_kFld (pv 0) (pe_op o_rep (pe_kLst (pa_cons pe_int pa_nil)) (pv 1)) rfl)
      (pss_cons (ps_kFld (pv 0) (pe_kLst pa_nil) rfl)
      (pss_cons (ps_kFld (pv 0) (pe_kLst pa_nil) rfl)
      (pss_one (ps_kFld (pv 0) (pe_kLst pa_nil) rfl)))))), ?_⟩
    have hcl := T.cl_TextMachine
    have na1 := T.na_TextMachine_inputs
    have na2 := T.na_TextMachine_slots
    have na3 := T.na_TextMachine_stack
    have na4 := T.na_TextMachine_pile
    have na5 := T.na_TextMachine_said
    walk_at "w"
    rename_i H1 e1 c1 z H2 nz ez c2
    refine ⟨z, many, _, rfl, rfl, by walk_at "lk", by omega, by omega, le_size (by simp; omega), fun sl H3 nsl esl c3 => ?_⟩
    rw [Int.toNat_natCast, rep_zero] at esl
    walk_at "w"
    rename_i H4 e4 c4 st H5 nst est c5 H6 e6 c6 pl H7 npl epl c7 H8 e8 c8 sd H9 nsd esd c9 H10 e10 c10
    have f1 : st ≠ sl := by walk_at "ne"
    have f2 : pl ≠ sl := by walk_at "ne"
    have f3 : sd ≠ sl := by walk_at "ne"
    have f4 : pl ≠ st := by walk_at "ne"
    have f5 : sd ≠ st := by walk_at "ne"
    have f6 : sd ≠ pl := by walk_at "ne"
    have g1 : sl ≠ self := by walk_at "ne"
    have g2 : st ≠ self := by walk_at "ne"
    have g3 : pl ≠ self := by walk_at "ne"
    have g4 : sd ≠ self := by walk_at "ne"
    exact q sl st pl sd H10 (by walk_at "no") (by walk_at "no") (by walk_at "no") (by walk_at "no") ⟨f1, f2, f3, f4, f5, f6⟩ ⟨⟨dx, e10⟩, by walk_at "lk", by walk_at "lk", by walk_at "lk", by walk_at "lk"⟩ (by walk_at "ch")

theorem ok_TextMachine_perform  (T : Tp P w K mg) (D_pair_value : Df P w K mg base ("pair_value" : Str) (1) [("kind" : Str), ("left" : Str), ("right" : Str)] (spPair)) : Dm P w K mg base T.C_TextMachine ("perform" : Str) (2) [("self" : Str), ("instruction" : Str), ("at" : Str)] (spPerf K T.C_TextMachine) := by
  obtain ⟨f, fd, hf, hF, F, b⟩ := T.d_TextMachine_perform
  refine ⟨f, fd, hf, hF, F.kp, b, F.ok sc_TextMachine_perform (fun vs H Q E h => ?_) (fun cdv A outer s H vs Q E hr h => ?_)⟩
  · obtain ⟨self, sl, st, pl, sd, ia, v, many, hi, a, given, f, x, M, rfl, ⟨⟨dx, eo⟩, esl, est, epl, esd⟩, hin, ⟨n1, n2, n3, n4, n5, n6⟩, hv, ok, mo, ha, hdiv, q⟩ := h
    rfl
  · obtain ⟨self, sl, st, pl, sd, ia, v, many, hi, a, given, f, x, M, rfl, ⟨⟨dx, eo⟩, esl, est, epl, esd⟩, hin, ⟨n1, n2, n3, n4, n5, n6⟩, hv, ok, mo, ha, hdiv, q⟩ := h
    have hu := hu_of hr
    refine ⟨_, (pss_cons (ps_set (i := 3) sc_TextMachine_perform.nd rfl (Or.inl rfl) (pe_ix ix_tup (pv 1) pe_int (fun _ _ => rfl)))
      (pss_cons (ps_if (pt_cmpR op_eq (pv 3) pe_str (nomark _)) (pss_one (ps_ret (pe_ix ix_tup (pv 1) pe_int (fun _ _ => rfl)))) pss_nil)
      (pss_cons (ps_if (pt_cmpR op_eq (pv 3) pe_str (nomark _)) (pss_one (ps_ret (pe_ifExp (pt_cmpR op_eq (pe_bm0 PySem.F.plainAttrs_list PySem.F.slot_list_pop PySem.F.type_list_pop m_pop (pe_kGet (pv 0) rfl)) pe_int (nomark _)) (pe_ix ix_tup (pv 1) pe_int (fun _ _ => rfl)) (pe_op op_add (pv 2) pe_int)))) pss_nil)
      (pss_cons (ps_if (pt_cmpR op_eq (pv 3) pe_str (nomark _)) (pss_one (ps_expr (pe_bm PySem.F.plainAttrs_list PySem.F.slot_list_append PySem.F.type_list_append m_app (pe_kGet (pv 0) rfl) (pa_cons (pe_ix ix_tup (pv 1) pe_int (fun _ _ => rfl)) pa_nil)))) (pss_one (ps_if (pt_cmpR op_eq (pv 3) pe_str (nomark _)) (pss_cons (ps_set (i := 4) sc_TextMachine_perform.nd rfl (Or.inl rfl) (pe_ix ix_tup (pv 1) pe_int (fun _ _ => rfl)))
      (pss_one (ps_expr (pe_bm PySem.F.plainAttrs_list PySem.F.slot_list_append PySem.F.type_list_append m_app (pe_kGet (pv 0) rfl) (pa_cons (pe_ifExp (pt_cmpR op_lt (pv 4) (pe_callB c_lenS (by rfl) T.n_len PySem.boot_len (pa_cons (pe_kGet (pv 0) rfl) pa_nil)) (nomark _)) (pe_ix ix_S (pe_kGet (pv 0) rfl) (pv 4) (fun _ _ => rfl)) pe_int) pa_nil))))) (pss_one (ps_if (pt_cmpR op_eq (pv 3) pe_str (nomark _)) (pss_one (ps_expr (pe_bm PySem.F.plainAttrs_list PySem.F.slot_list_append PySem.F.type_list_append m_app (pe_kGet (pv 0) rfl) (pa_cons (pe_ix ix_list (pe_kGet (pv 0) rfl) (pe_ix ix_tup (pv 1) pe_int (fun _ _ => rfl)) (fun _ _ => rfl)) pa_nil)))) (pss_one (ps_if (pt_cmpR op_eq (pv 3) pe_str (nomark _)) (pss_one (ps_expr (pe_bm PySem.F.plainAttrs_list PySem.F.slot_list_append PySem.F.type_list_append m_app (pe_kGet (pv 0) rfl) (pa_cons (pe_ix ix_list (pe_kGet (pv 0) rfl) (pe_un un_neg pe_int) (fun _ _ => rfl)) pa_nil)))) (pss_one (ps_if (pt_cmpR op_eq (pv 3) pe_str (nomark _)) (pss_cons (ps_expr (pe_bm PySem.F.plainAttrs_list PySem.F.slot_list_append PySem.F.type_list_append m_app (pe_kGet (pv 0) rfl) (pa_cons (pe_ix ix_list (pe_kGet (pv 0) rfl) (pe_ix ix_tup (pv 1) pe_int (fun _ _ => rfl)) (fun _ _ => rfl)) pa_nil)))
      (pss_one (ps_asg (pe_bm0 PySem.F.plainAttrs_list PySem.F.slot_list_pop PySem.F.type_list_pop m_pop (pe_kGet (pv 0) rfl)) (pg_sub (pe_kGet (pv 0) rfl) (pe_ix ix_tup (pv 1) pe_int (fun _ _ => rfl)) s_lst)))) (pss_one (ps_if (pt_cmpR op_eq (pv 3) pe_str (nomark _)) (pss_one (ps_asg (pe_bm0 PySem.F.plainAttrs_list PySem.F.slot_list_pop PySem.F.type_list_pop m_pop (pe_kGet (pv 0) rfl)) (pg_sub (pe_kGet (pv 0) rfl) (pe_ix ix_tup (pv 1) pe_int (fun _ _ => rfl)) s_lst))) (pss_cons (ps_set (i := 5) sc_TextMachine_perform.nd rfl (Or.inl rfl) (pe_bm0 PySem.F.plainAttrs_list PySem.F.slot_list_pop PySem.F.type_list_pop m_pop (pe_kGet (pv 0) rfl)))
      (pss_one (ps_expr (pe_bm PySem.F.plainAttrs_list PySem.F.slot_list_append PySem.F.type_list_append m_app (pe_kGet (pv 0) rfl) (pa_cons (pe_fn D_pair_value (hr.mono (by omega)) (by rfl) (pa_cons (pv 3) (pa_cons (pe_bm0 PySem.F.plainAttrs_list PySem.F.slot_list_pop PySem.F.type_list_pop m_pop (pe_kGet (pv 0) rfl)) (pa_cons (pv 5) pa_nil)))) pa_nil))))))))))))))))
      (pss_one (ps_ret (pe_op op_add (pv 2) pe_int))))))), ?_⟩
    have hcl := T.cl_TextMachine
    have na1 := T.na_TextMachine_inputs
    have na2 := T.na_TextMachine_slots
    have na3 := T.na_TextMachine_stack
    have na4 := T.na_TextMachine_pile
    have na5 := T.na_TextMachine_said
    obtain ⟨l1, l2, b1, b2, b3, v1, v2, v3⟩ := mo
    obtain ⟨stk, pile, slf, said⟩ := M
    simp only at l1 l2 b1 b2 b3 v1 v2 v3 esl est epl esd
    have o1 : self ≠ sl := ne_of eo esl (by intro z; cases z)
    have o2 : self ≠ st := ne_of eo est (by intro z; cases z)
    have o3 : self ≠ pl := ne_of eo epl (by intro z; cases z)
    have o4 : self ≠ sd := ne_of eo esd (by intro z; cases z)
    cases x <;> simp only [Ok] at ok
    case push n =>
      obtain ⟨t, rfl, hS⟩ := inv2 hv
      walk_at "w"
      rename_i H1 e1 c1
      exact q _ _ H1 rfl ⟨⟨dx, by walk_at "lk"⟩, by walk_at "lk", by rw [rev_cons]; walk_at "lk", by walk_at "lk", by walk_at "lk"⟩ (by walk_at "ch")
    case input k =>
      obtain ⟨t, rfl, hS⟩ := inv2 hv
      walk_at "w"
      refine w_lenA hin.any ?_
      walk_at "w"
      refine w_D (fun hk => ?_) (fun hk => ?_)
      · walk_at "w"
        obtain ⟨y, hy, _, hx⟩ := atI_map V.int given (a := (k : Int)) (by omega) (by simpa using hk)
        refine w_ixA hin.any hx ?_
        walk_at "w"
        rename_i H1 e1 c1
        have ey : given.getD k 0 = y := by rw [List.getD_eq_getElem?_getD, show given[k]? = some y from hy]; rfl
        exact q _ _ H1 rfl ⟨⟨dx, by walk_at "lk"⟩, by walk_at "lk", by simp only [ey]; rw [rev_cons]; walk_at "lk", by walk_at "lk", by walk_at "lk"⟩ (by walk_at "ch")
      · walk_at "w"
        rename_i H1 e1 c1
        have ey : given.getD k 0 = 0 := by
          have : given[k]? = none := List.getElem?_eq_none_iff.mpr (by simp at hk; omega)
          rw [List.getD_eq_getElem?_getD, this]; rfl
        exact q _ _ H1 rfl ⟨⟨dx, by walk_at "lk"⟩, by walk_at "lk", by simp only [ey]; rw [rev_cons]; walk_at "lk", by walk_at "lk", by walk_at "lk"⟩ (by walk_at "ch")
    case load s =>
      obtain ⟨t, rfl, hS⟩ := inv2 hv
      have hix := slot_at slf ok.1
      walk_at "w"
      rename_i H1 e1 c1
      exact q _ _ H1 rfl ⟨⟨dx, by walk_at "lk"⟩, by walk_at "lk", by rw [rev_cons]; walk_at "lk", by walk_at "lk", by walk_at "lk"⟩ (by walk_at "ch")
    case say =>
      obtain ⟨t, rfl, hS⟩ := inv1 hv
      cases stk with
      | nil => simp at l1; omega
      | cons y r =>
        rw [rev_cons] at est
        walk_at "w"
        rename_i H1 e1 c1
        exact q _ _ H1 rfl ⟨⟨dx, by walk_at "lk"⟩, by walk_at "lk", by rw [rev_cons]; walk_at "lk", by walk_at "lk", by simp only [List.headD_cons, List.map_append]; walk_at "lk"⟩ (by walk_at "ch")
    case store s =>
      obtain ⟨t, rfl, hS⟩ := inv2 hv
      cases stk with
      | nil => simp at l1; omega
      | cons y r =>
        rw [rev_cons] at est
        have hix := slot_at slf ok.1
        have hsx : ixN ((List.range many).map fun k => V.int (slf k)).length (s : Int) = some s := ixN_of' (by simpa using ok.1)
        walk_at "w"
        rename_i H1 e1 c1 H2 e2 c2 H3 e3 c3
        rw [slots_set] at e3
        exact q _ _ H3 rfl ⟨⟨dx, by walk_at "lk"⟩, by walk_at "lk", by walk_at "lk", by rw [rev_cons]; walk_at "lk", by walk_at "lk"⟩ (by walk_at "ch")
    case restore s =>
      obtain ⟨t, rfl, hS⟩ := inv2 hv
      cases pile with
      | nil => simp at l2; omega
      | cons y r =>
        rw [rev_cons] at epl
        have hsx : ixN ((List.range many).map fun k => V.int (slf k)).length (s : Int) = some s := ixN_of' (by simpa using ok.1)
        walk_at "w"
        rename_i H1 e1 c1 H2 e2 c2
        rw [slots_set] at e2
        exact q _ _ H2 rfl ⟨⟨dx, by walk_at "lk"⟩, by walk_at "lk", by walk_at "lk", by walk_at "lk", by walk_at "lk"⟩ (by walk_at "ch")
    case jump t =>
      obtain ⟨tt, rfl, hS⟩ := inv2 hv
      walk_at "w"
      exact q _ _ H rfl ⟨⟨dx, eo⟩, esl, est, epl, esd⟩ Ch.refl
    case test t =>
      obtain ⟨tt, rfl, hS⟩ := inv2 hv
      cases stk with
      | nil => simp at l1; omega
      | cons y r =>
        rw [rev_cons] at est
        walk_at "w"
        rename_i H1 e1 c1
        refine w_D (fun hy => ?_) (fun hy => ?_)
        · walk_at "w"
          exact q _ t H1 (by simp only [exec, List.headD_cons, hy, if_true]; rfl) ⟨⟨dx, by walk_at "lk"⟩, by walk_at "lk", by walk_at "lk", by walk_at "lk", by walk_at "lk"⟩ (by walk_at "ch")
        · walk_at "w"
          exact q _ (a + 1) H1 (by simp only [exec, List.headD_cons, hy, if_false]; rfl) ⟨⟨dx, by walk_at "lk"⟩, by walk_at "lk", by walk_at "lk", by walk_at "lk", by walk_at "lk"⟩ (by walk_at "ch")
    case add =>
      obtain ⟨t, rfl, hS⟩ := inv1 hv
      match stk, l1, b1, v1, est, q with
      | b :: c :: r, l1, b1, v1, est, q =>
        rw [rev_cons, rev_cons] at est
        simp only [List.length_cons] at b1
        walk_at "w"
        rename_i H1 e1 c1 H2 e2 c2
        refine ⟨"add", c, b, rfl, v1 c (by simp), v1 b (by simp), .inl ⟨rfl, ?_⟩⟩
        walk_at "w"
        rename_i H3 e3 c3
        exact q _ _ H3 rfl ⟨⟨dx, by walk_at "lk"⟩, by walk_at "lk", by rw [rev_cons]; walk_at "lk", by walk_at "lk", by walk_at "lk"⟩ (by walk_at "ch")
      | [b], l1, _, _, _, _ => simp at l1; omega
      | [], l1, _, _, _, _ => simp at l1; omega
    case mul =>
      obtain ⟨t, rfl, hS⟩ := inv1 hv
      match stk, l1, b1, v1, est, q with
      | b :: c :: r, l1, b1, v1, est, q =>
        rw [rev_cons, rev_cons] at est
        simp only [List.length_cons] at b1
        walk_at "w"
        rename_i H1 e1 c1 H2 e2 c2
        refine ⟨"mul", c, b, rfl, v1 c (by simp), v1 b (by simp), .inr (.inl ⟨rfl, ?_⟩)⟩
        walk_at "w"
        rename_i H3 e3 c3
        exact q _ _ H3 rfl ⟨⟨dx, by walk_at "lk"⟩, by walk_at "lk", by rw [rev_cons]; walk_at "lk", by walk_at "lk", by walk_at "lk"⟩ (by walk_at "ch")
      | [b], l1, _, _, _, _ => simp at l1; omega
      | [], l1, _, _, _, _ => simp at l1; omega
    case div p =>
      obtain ⟨t, rfl, hS⟩ := inv2 hv
      match stk, l1, b1, v1, est, q, hdiv with
      | b :: c :: r, l1, b1, v1, est, q, hdiv =>
        have hb : b ≠ 0 := hdiv p rfl
        rw [rev_cons, rev_cons] at est
        simp only [List.length_cons] at b1
        walk_at "w"
        rename_i H1 e1 c1 H2 e2 c2
        refine ⟨"div", c, b, rfl, v1 c (by simp), v1 b (by simp), .inr (.inr ⟨rfl, hb, ?_⟩)⟩
        walk_at "w"
        rename_i H3 e3 c3
        exact q _ _ H3 (by simp only [exec, List.headD_cons, hb, if_false]; rfl) ⟨⟨dx, by walk_at "lk"⟩, by walk_at "lk", by rw [rev_cons]; walk_at "lk", by walk_at "lk", by walk_at "lk"⟩ (by walk_at "ch")
      | [b], l1, _, _, _, _, _ => simp at l1; omega
      | [], l1, _, _, _, _, _ => simp at l1; omega

end
end M28


namespace M28
def resV : Res → List V
  | .value n => [.str "value", .int n]
  | .fault p => [.str "fault", .int p]
def M0 : Mach := ⟨[], [], fun _ => 0, []⟩
theorem M0_ok : MOk (0, 0) 0 M0 := ⟨rfl, rfl, Nat.le_refl _, Nat.le_refl _, Nat.le_refl _, (fun _ h => nomatch h), (fun _ h => nomatch h), fun _ => ⟨Int.le_refl 0, (by decide : (0 : Int) < 10000)⟩⟩
def spRun (K : PySem.W.Frag) : Sp := fun vs H Q _ => ∃ (c ia : Addr) (many a p : Nat) (code : List Ins) (cs : List V) (given : List Int), vs = [.ref c, .int many, .ref ia] ∧ SqT K H c cs ∧ DpAll K H cs (code.map insD) ∧ many ≤ 1000 ∧ Fits many 0 code (0, 0) (a + 1, p) ∧
  Inp K H ia given [] ∧ (∀ n ∈ given, Val n) ∧ code.length ≤ 900000 ∧
  ∀ res sd e r H', res.1.length ≤ 900000 → Runs code given 0 M0 res → H sd = none → H' sd = some (.lst (res.1.map V.int)) → H' e = some (.tup (resV res.2)) → H' r = some (.tup [.ref sd, .ref e]) → Ch [] H H' → Q (.ref r) H'
theorem insHead {K : PySem.W.Frag} {H : Hp} {v : V} {x : Ins} (h : Dp K H v (insD x)) : ∃ t s tl, v = .ref t ∧ SqT K H t (.str s :: tl) ∧ atI (V.str s :: tl) 0 = some (.str s) ∧ ((s = "div" ∧ ∃ p : Nat, x = .div p ∧ tl = [.int p]) ∨ (s ≠ "div" ∧ ∀ p, x ≠ .div p)) := by
  have h0 : ∀ (s : Str) (tl : List V), atI (V.str s :: tl) 0 = some (.str s) := fun s tl => atI_nat (j := 0) rfl
  cases x with
  | div p => obtain ⟨t, e, hS⟩ := inv2 h; exact ⟨t, _, _, e, hS, h0 _ _, .inl ⟨rfl, p, rfl, rfl⟩⟩
  | push _ => obtain ⟨t, e, hS⟩ := inv2 h; exact ⟨t, _, _, e, hS, h0 _ _, .inr ⟨by decide +kernel, fun _ z => nomatch z⟩⟩
  | input _ => obtain ⟨t, e, hS⟩ := inv2 h; exact ⟨t, _, _, e, hS, h0 _ _, .inr ⟨by decide +kernel, fun _ z => nomatch z⟩⟩
  | load _ => obtain ⟨t, e, hS⟩ := inv2 h; exact ⟨t, _, _, e, hS, h0 _ _, .inr ⟨by decide +kernel, fun _ z => nomatch z⟩⟩
  | store _ => obtain ⟨t, e, hS⟩ := inv2 h; exact ⟨t, _, _, e, hS, h0 _ _, .inr ⟨by decide +kernel, fun _ z => nomatch z⟩⟩
  | restore _ => obtain ⟨t, e, hS⟩ := inv2 h; exact ⟨t, _, _, e, hS, h0 _ _, .inr ⟨by decide +kernel, fun _ z => nomatch z⟩⟩
  | jump _ => obtain ⟨t, e, hS⟩ := inv2 h; exact ⟨t, _, _, e, hS, h0 _ _, .inr ⟨by decide +kernel, fun _ z => nomatch z⟩⟩
  | test _ => obtain ⟨t, e, hS⟩ := inv2 h; exact ⟨t, _, _, e, hS, h0 _ _, .inr ⟨by decide +kernel, fun _ z => nomatch z⟩⟩
  | say => obtain ⟨t, e, hS⟩ := inv1 h; exact ⟨t, _, _, e, hS, h0 _ _, .inr ⟨by decide +kernel, fun _ z => nomatch z⟩⟩
  | add => obtain ⟨t, e, hS⟩ := inv1 h; exact ⟨t, _, _, e, hS, h0 _ _, .inr ⟨by decide +kernel, fun _ z => nomatch z⟩⟩
  | mul => obtain ⟨t, e, hS⟩ := inv1 h; exact ⟨t, _, _, e, hS, h0 _ _, .inr ⟨by decide +kernel, fun _ z => nomatch z⟩⟩
section
variable {P : Program} {w : World} {K : PySem.W.Frag} {mg : Str → Option Value} {base : Heap}

theorem ok_run_program  (T : Tp P w K mg) (D_TextMachine_perform : Dm P w K mg base T.C_TextMachine ("perform" : Str) (2) [("self" : Str), ("instruction" : Str), ("at" : Str)] (spPerf K T.C_TextMachine)) (D_TextMachine___init : Dm P w K mg base T.C_TextMachine ("__init__" : Str) (1) [("self" : Str), ("slots" : Str), ("inputs" : Str)] (spInit K T.C_TextMachine)) : Df P w K mg base ("run_program" : Str) (3) [("code" : Str), ("slots" : Str), ("inputs" : Str)] (spRun K) := by
  obtain ⟨f, fd, hm, F, b⟩ := T.d_run_program
  refine ⟨f, fd, hm, F.kp, b, F.ok sc_run_program (fun vs H Q E h => ?_) (fun cdv A outer s H vs Q E hr h => ?_)⟩
  · obtain ⟨c, ia, many, a0, p0, code, cs, given, rfl, hc, hcs, hmany, hfit, hin, hg, hlen, q⟩ := h
    rfl
  · obtain ⟨c, ia, many, a0, p0, code, cs, given, rfl, hc, hcs, hmany, hfit, hin, hg, hlen, q⟩ := h
    have hu := hu_of hr
    refine ⟨_, (pss_cons (ps_set (i := 3) sc_run_program.nd rfl (Or.inl rfl) (pe_mk T.mk_TextMachine D_TextMachine___init (hr.mono (by omega)) (by rfl) T.g_TextMachine (pa_cons (pv 1) (pa_cons (pv 2) pa_nil))))
      (pss_cons (ps_set (i := 4) sc_run_program.nd rfl (Or.inl rfl) pe_int)
      (pss_cons (ps_while PassesOwn.never (pt_cmpR op_lt (pv 4) (pe_callB c_lenT (by rfl) T.n_len PySem.boot_len (pa_cons (pv 0) pa_nil)) (nomark _)) (pss_cons (ps_set (i := 5) sc_run_program.nd rfl (Or.inl rfl) (pe_ix ix_tup (pv 0) (pv 4) (fun _ _ => rfl)))
      (pss_cons (ps_if (PW.pt (pw_and (pt_cmpR op_eq (pe_ix ix_tup (pv 5) pe_int (fun _ _ => rfl)) pe_str (nomark _)) (pw_and1 (pt_cmpR op_eq (pe_ix ix_list (pe_kGet (pv 3) rfl) (pe_un un_neg pe_int) (fun _ _ => rfl)) pe_int (nomark _))))) (pss_one (ps_ret (pe_kTup (pa_cons (pe_kGet (pv 3) rfl) (pa_cons (pe_kTup (pa_cons pe_str (pa_cons (pe_ix ix_tup (pv 5) pe_int (fun _ _ => rfl)) pa_nil))) pa_nil))))) pss_nil)
      (pss_one (ps_set (i := 4) sc_run_program.nd rfl (Or.inl rfl) (pe_mt (pv 3) T.cl_TextMachine D_TextMachine_perform (hr.mono (by omega)) (pa_cons (pv 5) (pa_cons (pv 4) pa_nil))))))))
      (pss_one (ps_ret (pe_kTup (pa_cons (pe_kGet (pv 3) rfl) (pa_cons (pe_kTup (pa_cons pe_str (pa_cons (pe_ix ix_list (pe_kGet (pv 3) rfl) (pe_un un_neg pe_int) (fun _ _ => rfl)) pa_nil))) pa_nil)))))))), ?_⟩
    have hcl := T.cl_TextMachine
    have na1 := T.na_TextMachine_inputs
    have na2 := T.na_TextMachine_slots
    have na3 := T.na_TextMachine_stack
    have na4 := T.na_TextMachine_pile
    have na5 := T.na_TextMachine_said
    obtain ⟨f, f0, f1, fk⟩ := hfit.ex
    rw [Nat.zero_add] at f1 fk
    have hcl2 := dpAll_len hcs
    rw [List.length_map] at hcl2
    walk_at "w"
    intro self dx H1 ns es c1
    refine ⟨self, dx, many, .ref ia, rfl, es, hmany, fun sl st pl sd H2 nsl nst npl nsd hne hM c2 => ⟨rfl, ?_⟩⟩
    walk_at "w"
    have hch : Ch [] H H2 := by walk_at "ch"
    have nsl' : H sl = none := by walk_at "no"
    have nst' : H st = none := by walk_at "no"
    have npl' : H pl = none := by walk_at "no"
    have nsd' : H sd = none := by walk_at "no"
    have hin2 : Inp K H2 ia given [sl, st, pl, sd] := by
      rcases hin with h | ⟨h, _⟩
      · exact .inl (hch.sqT h)
      · have t1 : ia ≠ sl := ne_of_none h nsl'
        have t2 : ia ≠ st := ne_of_none h nst'
        have t3 : ia ≠ pl := ne_of_none h npl'
        have t4 : ia ≠ sd := ne_of_none h nsd'
        exact .inr ⟨by walk_at "lk", by simp only [List.mem_cons, List.not_mem_nil, or_false, not_or]; exact ⟨t1, t2, t3, t4⟩⟩
    obtain ⟨n1, n2, n3, n4, n5, n6⟩ := hne
    refine k_while (fun m σ H' => ∃ a M v, m = code.length - a ∧ σ = [some (.ref c), some (.int many), some (.ref ia), some (.ref self), some (.int (a : Nat)), v] ∧ MachAt T.C_TextMachine H' self (.ref ia) sl st pl sd many M ∧ MOk (f a) a M ∧ a ≤ code.length ∧ Ch [sl, st, pl, sd] H2 H' ∧ (∀ res, Runs code given a M res → Runs code given 0 M0 res))
      code.length ⟨0, M0, none, rfl, rfl, hM, by rw [f0]; exact M0_ok, Nat.zero_le _, Ch.refl, fun _ h => h⟩ ?_
    rintro m σ H3 ⟨a, M, v, rfl, rfl, hM3, mo, ha, c3, hr3⟩
    obtain ⟨⟨dx3, eo3⟩, esl3, est3, epl3, esd3⟩ := id hM3
    walk_at "w"
    refine w_D (fun hlt => ?_) (fun hlt => ?_)
    · -- one instruction
      have hlt' : a < code.length := by omega
      obtain ⟨u, hu, hx⟩ := dpAll_get hcs (i := a) (d := insD code[a]) (by rw [List.getElem?_map, List.getElem?_eq_getElem hlt']; rfl)
      have hcode : code[a]? = some code[a] := List.getElem?_eq_getElem hlt'
      generalize code[a] = x at hx hcode
      have ok := fk a x hcode
      rw [Nat.zero_add] at ok
      have hui : atI cs (a : Int) = some u := atI_nat hu
      have hps : Ps H H3 := by walk_at "ps"
      have hx3 := hps.dp (tup_ins x) hx
      refine w_wh ?_
      walk_at "w"
      obtain ⟨t, s, tl, rfl, hS, h0, hd⟩ := insHead hx3
      have hin3 : Inp K H3 ia given [sl, st, pl, sd] := hin2.ch c3 fun x m => .inl m
      walk_at "w"
      refine' w_cutP (∀ p, x = .div p → M.stk.headD 0 ≠ 0) (fun rest => ?main) ?rest
      case main =>
        refine w_D (fun hs => ?_) (fun hs => ?_)
        rotate_left
        · exact rest (fun p e => by
            rcases hd with ⟨e2, _⟩ | ⟨_, e2⟩
            · exact absurd e2 hs
            · exact absurd e (e2 p))
        · rcases hd with ⟨_, p, rfl, rfl⟩ | ⟨e2, _⟩
          rotate_left
          · exact absurd hs e2
          · subst hs
            cases hst : M.stk with
            | nil => have := mo.l1; rw [hst] at this; simp only [Ok] at ok; simp at this; omega
            | cons y r =>
              rw [hst, rev_cons] at est3
              walk_at "w"
              refine w_D (fun hy => ?_) (fun hy => ?_)
              rotate_left
              · exact rest (fun p' e => by rw [hst]; exact hy)
              · clear rest
                walk_at "w"
                rename_i e1 H4 ne1 ee1 c4 e2 H5 ne2 ee2 c5
                exact q (M.said, .fault p) sd e1 e2 H5 (by have := mo.b3; simp only; omega) (hr3 _ (.fault hcode (by rw [hst]; exact hy))) nsd' (by walk_at "lk") (by walk_at "lk") ee2 (by walk_at "ch")
      case rest =>
        intro hdiv
        walk_at "w"
        refine ⟨self, sl, st, pl, sd, ia, .ref t, many, code.length, a, given, f, x, M, rfl, hM3, hin3, ⟨n1, n2, n3, n4, n5, n6⟩, hx3, ok, mo, by omega, hdiv, fun M' a' H4 he hM4 c4 => ?_⟩
        obtain ⟨k1, k2, k3⟩ := exec_ok ok mo hg hlt' he
        walk_at "w"
        exact ⟨code.length - a', by omega, a', M', _, rfl, rfl, hM4, k1, k3, by walk_at "ch", fun res h => hr3 res (.step hcode he h)⟩
    · -- the end
      have ea : a = code.length := by omega
      subst ea
      cases hst : M.stk with
      | nil => have := mo.l1; rw [hst, f1] at this; simp at this
      | cons y r =>
        rw [hst, rev_cons] at est3
        walk_at "w"
        rename_i e1 H4 ne1 ee1 c4 e2 H5 ne2 ee2 c5
        exact q (M.said, .value y) sd e1 e2 H5 (by have := mo.b3; simp only; omega) (hr3 _ (by have := Runs.done (code := code) (given := given) (a := code.length) (M := M) (by simp); rw [hst] at this; exact this)) nsd' (by walk_at "lk") (by walk_at "lk") ee2 (by walk_at "ch")

end
end M28


namespace M28
def Wd (st pl sl sd gv : Addr) : List (Key × V) := [(Sum.inr "stack", .ref st), (Sum.inr "pile", .ref pl), (Sum.inr "slots", .ref sl), (Sum.inr "said", .ref sd), (Sum.inr "given", .ref gv)]
structure WdAt (H : Hp) (wd st pl sl sd gv : Addr) (given : List Int) (a : Nat) (M : Mach) : Prop where
  ob : H wd = some (.dK (Wd st pl sl sd gv))
  st : H st = some (.lst (M.stk.reverse.map V.int))
  pl : H pl = some (.lst (M.pile.reverse.map V.int))
  sd : H sd = some (.lst (M.said.map V.int))
  gv : H gv = some (.lst (given.map V.int))
  sl : ∃ kvs : List (Key × V), H sl = some (.dK kvs) ∧ (∀ k : Nat, (valV kvs (Sum.inl (k : Int))).getD (.int 0) = .int (M.sl k)) ∧ kvs.length ≤ a
def spStep (K : PySem.W.Frag) : Sp := fun vs H Q _ => ∃ (wd st pl sl sd gv : Addr) (v : V) (many hi a : Nat) (given : List Int) (f : Nat → Nat × Nat) (x : Ins) (M : Mach), vs = [.ref wd, v, .int a] ∧ WdAt H wd st pl sl sd gv given a M ∧
  (st ≠ pl ∧ st ≠ sd ∧ st ≠ gv ∧ pl ≠ sd ∧ pl ≠ gv ∧ sd ≠ gv ∧ wd ≠ sl) ∧ Dp K H v (insD x) ∧ Ok many hi f a x ∧ MOk (f a) a M ∧ a ≤ 900000 ∧
  (∀ M' a' H', a < a' → exec given x a M = some (M', a') → WdAt H' wd st pl sl sd gv given a' M' → Ch [st, pl, sl, sd] H H' → Q (.int (a' : Nat)) H') ∧
  ((∃ p, x = .div p) → M.stk.headD 0 = 0 → ∀ H', H' wd = some (.dK (Wd st pl sl sd gv)) → H' sd = some (.lst (M.said.map V.int)) → Ch [st, pl, sl, sd] H H' → Q (.int (-1)) H')
section
variable {P : Program} {w : World} {K : PySem.W.Frag} {mg : Str → Option Value} {base : Heap}

theorem ok_law_step  (T : Tp P w K mg) : Df P w K mg base ("_law_step" : Str) (1) [("world" : Str), ("one" : Str), ("at" : Str)] (spStep K) := by
  obtain ⟨f, fd, hm, F, b⟩ := T.d_law_step
  refine ⟨f, fd, hm, F.kp, b, F.ok sc_law_step (fun vs H Q E h => ?_) (fun cdv A outer s H vs Q E hr h => ?_)⟩
  · obtain ⟨wd, st, pl, sl, sd, gv, v, many, hi, a, given, f, x, M, rfl, ⟨eo, est, epl, esd, egv, kvs, esl, hsl, hkl⟩, ⟨n1, n2, n3, n4, n5, n6, n7⟩, hv, ok, mo, ha, q, qf⟩ := h
    rfl
  · obtain ⟨wd, st, pl, sl, sd, gv, v, many, hi, a, given, f, x, M, rfl, ⟨eo, est, epl, esd, egv, kvs, esl, hsl, hkl⟩, ⟨n1, n2, n3, n4, n5, n6, n7⟩, hv, ok, mo, ha, q, qf⟩ := h
    have hu := hu_of hr
    refine ⟨_, (pss_cons (ps_set (i := 3) sc_law_step.nd rfl (Or.inl rfl) (pe_ix ix_tup (pv 1) pe_int (fun _ _ => rfl)))
      (pss_cons (ps_set (i := 4) sc_law_step.nd rfl (Or.inl rfl) (pe_kDget hu (pv 0) pe_str (fun _ _ => rfl)))
      (pss_cons (ps_if (pt_cmpR op_eq (pv 3) pe_str (nomark _)) (pss_one (ps_expr (pe_bm PySem.F.plainAttrs_list PySem.F.slot_list_append PySem.F.type_list_append m_app (pv 4) (pa_cons (pe_ix ix_tup (pv 1) pe_int (fun _ _ => rfl)) pa_nil)))) (pss_one (ps_if (pt_cmpR op_eq (pv 3) pe_str (nomark _)) (pss_one (ps_if (pt_cmpR op_lt (pe_ix ix_tup (pv 1) pe_int (fun _ _ => rfl)) (pe_callB c_lenL (by rfl) T.n_len PySem.boot_len (pa_cons (pe_kDget hu (pv 0) pe_str (fun _ _ => rfl)) pa_nil)) (nomark _)) (pss_one (ps_expr (pe_bm PySem.F.plainAttrs_list PySem.F.slot_list_append PySem.F.type_list_append m_app (pv 4) (pa_cons (pe_ix ix_list (pe_kDget hu (pv 0) pe_str (fun _ _ => rfl)) (pe_ix ix_tup (pv 1) pe_int (fun _ _ => rfl)) (fun _ _ => rfl)) pa_nil)))) (pss_one (ps_expr (pe_bm PySem.F.plainAttrs_list PySem.F.slot_list_append PySem.F.type_list_append m_app (pv 4) (pa_cons pe_int pa_nil)))))) (pss_one (ps_if (pt_cmpR op_eq (pv 3) pe_str (nomark _)) (pss_one (ps_expr (pe_bm PySem.F.plainAttrs_list PySem.F.slot_list_append PySem.F.type_list_append m_app (pv 4) (pa_cons (pe_kDget2 hu (pe_kDget hu (pv 0) pe_str (fun _ _ => rfl)) (pe_ix ix_tup (pv 1) pe_int (fun _ _ => rfl)) pe_int ⟨by rfl, by rfl, by rfl, by rfl⟩) pa_nil)))) (pss_one (ps_if (pt_cmpR op_eq (pv 3) pe_str (nomark _)) (pss_one (ps_expr (pe_bm PySem.F.plainAttrs_list PySem.F.slot_list_append PySem.F.type_list_append m_app (pe_kDget hu (pv 0) pe_str (fun _ _ => rfl)) (pa_cons (pe_ix ix_list (pv 4) (pe_un un_neg pe_int) (fun _ _ => rfl)) pa_nil)))) (pss_one (ps_if (pt_cmpR op_eq (pv 3) pe_str (nomark _)) (pss_cons (ps_expr (pe_bm PySem.F.plainAttrs_list PySem.F.slot_list_append PySem.F.type_list_append m_app (pe_kDget hu (pv 0) pe_str (fun _ _ => rfl)) (pa_cons (pe_kDget2 hu (pe_kDget hu (pv 0) pe_str (fun _ _ => rfl)) (pe_ix ix_tup (pv 1) pe_int (fun _ _ => rfl)) pe_int ⟨by rfl, by rfl, by rfl, by rfl⟩) pa_nil)))
      (pss_one (ps_kDput hu (pe_kDget hu (pv 0) pe_str (fun _ _ => rfl)) (pe_ix ix_tup (pv 1) pe_int (fun _ _ => rfl)) (pe_bm0 PySem.F.plainAttrs_list PySem.F.slot_list_pop PySem.F.type_list_pop m_pop (pv 4)) rfl))) (pss_one (ps_if (pt_cmpR op_eq (pv 3) pe_str (nomark _)) (pss_one (ps_kDput hu (pe_kDget hu (pv 0) pe_str (fun _ _ => rfl)) (pe_ix ix_tup (pv 1) pe_int (fun _ _ => rfl)) (pe_bm0 PySem.F.plainAttrs_list PySem.F.slot_list_pop PySem.F.type_list_pop m_pop (pe_kDget hu (pv 0) pe_str (fun _ _ => rfl))) rfl)) (pss_one (ps_if (pt_cmpR op_eq (pv 3) pe_str (nomark _)) (pss_one (ps_ret (pe_ix ix_tup (pv 1) pe_int (fun _ _ => rfl)))) (pss_one (ps_if (pt_cmpR op_eq (pv 3) pe_str (nomark _)) (pss_one (ps_if (pt_cmpR op_eq (pe_bm0 PySem.F.plainAttrs_list PySem.F.slot_list_pop PySem.F.type_list_pop m_pop (pv 4)) pe_int (nomark _)) (pss_one (ps_ret (pe_ix ix_tup (pv 1) pe_int (fun _ _ => rfl)))) pss_nil)) (pss_cons (ps_set (i := 5) sc_law_step.nd rfl (Or.inl rfl) (pe_bm0 PySem.F.plainAttrs_list PySem.F.slot_list_pop PySem.F.type_list_pop m_pop (pv 4)))
      (pss_cons (ps_set (i := 6) sc_law_step.nd rfl (Or.inl rfl) (pe_bm0 PySem.F.plainAttrs_list PySem.F.slot_list_pop PySem.F.type_list_pop m_pop (pv 4)))
      (pss_one (ps_if (pt_cmpR op_eq (pv 3) pe_str (nomark _)) (pss_one (ps_expr (pe_bm PySem.F.plainAttrs_list PySem.F.slot_list_append PySem.F.type_list_append m_app (pv 4) (pa_cons (pe_op op_mod (pe_callTy c_int (by rfl) T.n_int (by decide +kernel) (pa_cons (pe_op op_add (pv 6) (pv 5)) pa_nil)) pe_int) pa_nil)))) (pss_one (ps_if (pt_cmpR op_eq (pv 3) pe_str (nomark _)) (pss_one (ps_expr (pe_bm PySem.F.plainAttrs_list PySem.F.slot_list_append PySem.F.type_list_append m_app (pv 4) (pa_cons (pe_op op_mod (pe_callTy c_int (by rfl) T.n_int (by decide +kernel) (pa_cons (pe_op op_mul (pv 6) (pv 5)) pa_nil)) pe_int) pa_nil)))) (pss_one (ps_if (pt_cmpR op_eq (pv 5) pe_int (nomark _)) (pss_one (ps_ret (pe_un un_neg pe_int))) (pss_one (ps_expr (pe_bm PySem.F.plainAttrs_list PySem.F.slot_list_append PySem.F.type_list_append m_app (pv 4) (pa_cons (pe_op op_fdiv (pv 6) (pv 5)) pa_nil)))))))))))))))))))))))))))
      (pss_one (ps_ret (pe_op op_add (pv 2) pe_int)))))), ?_⟩
    obtain ⟨l1, l2, b1, b2, b3, v1, v2, v3⟩ := mo
    obtain ⟨stk, pile, slf, said⟩ := M
    simp only at l1 l2 b1 b2 b3 v1 v2 v3 est epl esd hsl
    have o1 : wd ≠ st := ne_of eo est (by intro z; cases z)
    have o2 : wd ≠ pl := ne_of eo epl (by intro z; cases z)
    have o3 : wd ≠ sd := ne_of eo esd (by intro z; cases z)
    have o4 : sl ≠ st := ne_of esl est (by intro z; cases z)
    have o5 : sl ≠ pl := ne_of esl epl (by intro z; cases z)
    have o6 : sl ≠ sd := ne_of esl esd (by intro z; cases z)
    have o7 : sl ≠ gv := ne_of esl egv (by intro z; cases z)
    cases x <;> simp only [Ok] at ok
    case push n =>
      obtain ⟨t, rfl, hS⟩ := inv2 hv
      walk_at "w"
      rename_i H1 e1 c1
      exact q _ (a + 1) H1 (by omega) rfl ⟨by walk_at "lk", by rw [rev_cons]; walk_at "lk", by walk_at "lk", by walk_at "lk", by walk_at "lk", kvs, by walk_at "lk", hsl, by omega⟩ (by walk_at "ch")
    case input k =>
      obtain ⟨t, rfl, hS⟩ := inv2 hv
      walk_at "w"
      refine w_D (fun hk => ?_) (fun hk => ?_)
      · obtain ⟨y, hy, _, hx⟩ := atI_map V.int given (a := (k : Int)) (by omega) (by simpa using hk)
        walk_at "w"
        rename_i H1 e1 c1
        have ey : given.getD k 0 = y := by rw [List.getD_eq_getElem?_getD, show given[k]? = some y from hy]; rfl
        exact q _ (a + 1) H1 (by omega) rfl ⟨by walk_at "lk", by simp only [ey]; rw [rev_cons]; walk_at "lk", by walk_at "lk", by walk_at "lk", by walk_at "lk", kvs, by walk_at "lk", hsl, by omega⟩ (by walk_at "ch")
      · walk_at "w"
        rename_i H1 e1 c1
        have ey : given.getD k 0 = 0 := by
          have : given[k]? = none := List.getElem?_eq_none_iff.mpr (by simp at hk; omega)
          rw [List.getD_eq_getElem?_getD, this]; rfl
        exact q _ (a + 1) H1 (by omega) rfl ⟨by walk_at "lk", by simp only [ey]; rw [rev_cons]; walk_at "lk", by walk_at "lk", by walk_at "lk", by walk_at "lk", kvs, by walk_at "lk", hsl, by omega⟩ (by walk_at "ch")
    case load s =>
      obtain ⟨t, rfl, hS⟩ := inv2 hv
      have hs := hsl s
      walk_at "w"
      rename_i H1 e1 c1
      rw [hs] at e1
      exact q _ (a + 1) H1 (by omega) rfl ⟨by walk_at "lk", by rw [rev_cons]; walk_at "lk", by walk_at "lk", by walk_at "lk", by walk_at "lk", kvs, by walk_at "lk", hsl, by omega⟩ (by walk_at "ch")
    case say =>
      obtain ⟨t, rfl, hS⟩ := inv1 hv
      cases stk with
      | nil => simp at l1; omega
      | cons y r =>
        rw [rev_cons] at est
        walk_at "w"
        rename_i H1 e1 c1
        exact q _ (a + 1) H1 (by omega) rfl ⟨by walk_at "lk", by rw [rev_cons]; walk_at "lk", by walk_at "lk", by simp only [List.headD_cons, List.map_append]; walk_at "lk", by walk_at "lk", kvs, by walk_at "lk", hsl, by omega⟩ (by walk_at "ch")
    case store s =>
      obtain ⟨t, rfl, hS⟩ := inv2 hv
      have hs := hsl s
      cases stk with
      | nil => simp at l1; omega
      | cons y r =>
        rw [rev_cons] at est
        walk_at "w"
        rename_i H1 e1 c1 H2 e2 c2 H3 e3 c3
        rw [hs] at e1
        refine q _ (a + 1) H3 (by omega) rfl ⟨by walk_at "lk", by walk_at "lk", by rw [rev_cons]; walk_at "lk", by walk_at "lk", by walk_at "lk", _, e3, fun k => ?_, ?_⟩ (by walk_at "ch")
        · rw [valV_put]
          simp only [put, List.headD_cons]
          by_cases e : k = s
          · subst e; simp
          · have e' : ¬ (Sum.inl (k : Int) : Key) = Sum.inl (s : Int) := fun z => e (by injection z with z; omega)
            rw [if_neg e', if_neg e]; exact hsl k
        · have := length_putK kvs (Sum.inl (s : Int)) (V.int y)
          omega
    case restore s =>
      obtain ⟨t, rfl, hS⟩ := inv2 hv
      cases pile with
      | nil => simp at l2; omega
      | cons y r =>
        rw [rev_cons] at epl
        walk_at "w"
        rename_i H1 e1 c1 H2 e2 c2
        refine q _ (a + 1) H2 (by omega) rfl ⟨by walk_at "lk", by walk_at "lk", by walk_at "lk", by walk_at "lk", by walk_at "lk", _, e2, fun k => ?_, ?_⟩ (by walk_at "ch")
        · rw [valV_put]
          simp only [put, List.headD_cons]
          by_cases e : k = s
          · subst e; simp
          · have e' : ¬ (Sum.inl (k : Int) : Key) = Sum.inl (s : Int) := fun z => e (by injection z with z; omega)
            rw [if_neg e', if_neg e]; exact hsl k
        · have := length_putK kvs (Sum.inl (s : Int)) (V.int y)
          omega
    case jump t =>
      obtain ⟨tt, rfl, hS⟩ := inv2 hv
      walk_at "w"
      exact q _ t H ok.1 rfl ⟨eo, est, epl, esd, egv, kvs, esl, hsl, by omega⟩ Ch.refl
    case test t =>
      obtain ⟨tt, rfl, hS⟩ := inv2 hv
      cases stk with
      | nil => simp at l1; omega
      | cons y r =>
        rw [rev_cons] at est
        walk_at "w"
        rename_i H1 e1 c1
        refine w_D (fun hy => ?_) (fun hy => ?_)
        · walk_at "w"
          exact q _ t H1 ok.2.2.1 (by simp only [exec, List.headD_cons, hy, if_true]; rfl) ⟨by walk_at "lk", by walk_at "lk", by walk_at "lk", by walk_at "lk", by walk_at "lk", kvs, by walk_at "lk", hsl, by omega⟩ (by walk_at "ch")
        · walk_at "w"
          exact q _ (a + 1) H1 (by omega) (by simp only [exec, List.headD_cons, hy, if_false]; rfl) ⟨by walk_at "lk", by walk_at "lk", by walk_at "lk", by walk_at "lk", by walk_at "lk", kvs, by walk_at "lk", hsl, by omega⟩ (by walk_at "ch")
    case add =>
      obtain ⟨t, rfl, hS⟩ := inv1 hv
      match stk, l1, b1, v1, est, q with
      | b :: c :: r, l1, b1, v1, est, q =>
        rw [rev_cons, rev_cons] at est
        simp only [List.length_cons] at b1
        walk_at "w"
        rename_i H1 e1 c1 H2 e2 c2 H3 e3 c3
        exact q _ (a + 1) H3 (by omega) rfl ⟨by walk_at "lk", by rw [rev_cons]; walk_at "lk", by walk_at "lk", by walk_at "lk", by walk_at "lk", kvs, by walk_at "lk", hsl, by omega⟩ (by walk_at "ch")
      | [b], l1, _, _, _, _ => simp at l1; omega
      | [], l1, _, _, _, _ => simp at l1; omega
    case mul =>
      obtain ⟨t, rfl, hS⟩ := inv1 hv
      match stk, l1, b1, v1, est, q with
      | b :: c :: r, l1, b1, v1, est, q =>
        rw [rev_cons, rev_cons] at est
        simp only [List.length_cons] at b1
        obtain ⟨y0, y1⟩ := v1 b (by simp)
        obtain ⟨z0, z1⟩ := v1 c (by simp)
        walk_at "w"
        rename_i H1 e1 c1 H2 e2 c2 H3 e3 c3
        exact q _ (a + 1) H3 (by omega) rfl ⟨by walk_at "lk", by rw [rev_cons]; walk_at "lk", by walk_at "lk", by walk_at "lk", by walk_at "lk", kvs, by walk_at "lk", hsl, by omega⟩ (by walk_at "ch")
      | [b], l1, _, _, _, _ => simp at l1; omega
      | [], l1, _, _, _, _ => simp at l1; omega
    case div p =>
      obtain ⟨t, rfl, hS⟩ := inv2 hv
      match stk, l1, b1, v1, est, q, qf with
      | b :: c :: r, l1, b1, v1, est, q, qf =>
        rw [rev_cons, rev_cons] at est
        simp only [List.length_cons] at b1
        obtain ⟨y0, y1⟩ := v1 b (by simp)
        obtain ⟨z0, z1⟩ := v1 c (by simp)
        walk_at "w"
        rename_i H1 e1 c1 H2 e2 c2
        refine w_D (fun hb => ?_) (fun hb => ?_)
        · walk_at "w"
          exact qf ⟨p, rfl⟩ hb H2 (by walk_at "lk") (by walk_at "lk") (by walk_at "ch")
        · walk_at "w"
          rename_i H3 e3 c3
          exact q _ (a + 1) H3 (by omega) (by simp only [exec, List.headD_cons, hb, if_false]; rfl) ⟨by walk_at "lk", by rw [rev_cons]; walk_at "lk", by walk_at "lk", by walk_at "lk", by walk_at "lk", kvs, by walk_at "lk", hsl, by omega⟩ (by walk_at "ch")
      | [b], l1, _, _, _, _, _ => simp at l1; omega
      | [], l1, _, _, _, _, _ => simp at l1; omega

end
end M28


namespace M28
def spDue (K : PySem.W.Frag) : Sp := fun vs H Q _ => ∃ (c gv : Addr) (many a p : Nat) (code : List Ins) (cs : List V) (given : List Int), vs = [.ref c, .ref gv] ∧ SqT K H c cs ∧ DpAll K H cs (code.map insD) ∧ Fits many 0 code (0, 0) (a + 1, p) ∧
  H gv = some (.lst (given.map V.int)) ∧ (∀ n ∈ given, Val n) ∧ code.length ≤ 900000 ∧
  ∀ res sd e r H', Runs code given 0 M0 res → H sd = none → H' sd = some (.lst (res.1.map V.int)) → H' e = some (.tup (resV res.2)) → H' r = some (.tup [.ref sd, .ref e]) → Ch [] H H' → Q (.ref r) H'
section
variable {P : Program} {w : World} {K : PySem.W.Frag} {mg : Str → Option Value} {base : Heap}

theorem ok_law_due  (T : Tp P w K mg) (D_law_step : Df P w K mg base ("_law_step" : Str) (1) [("world" : Str), ("one" : Str), ("at" : Str)] (spStep K)) : Df P w K mg base ("_law_due" : Str) (2) [("orders" : Str), ("given" : Str)] (spDue K) := by
  obtain ⟨f, fd, hm, F, b⟩ := T.d_law_due
  refine ⟨f, fd, hm, F.kp, b, F.ok sc_law_due (fun vs H Q E h => ?_) (fun cdv A outer s H vs Q E hr h => ?_)⟩
  · obtain ⟨c, gv, many, a0, p0, code, cs, given, rfl, hc, hcs, hfit, hgv, hg, hlen, q⟩ := h
    rfl
  · obtain ⟨c, gv, many, a0, p0, code, cs, given, rfl, hc, hcs, hfit, hgv, hg, hlen, q⟩ := h
    have hu := hu_of hr
    refine ⟨_, (pss_cons (ps_set (i := 2) sc_law_due.nd rfl (Or.inl rfl) (pe_kDisp (kp_cons pe_str (pe_kLst pa_nil) (kp_cons pe_str (pe_kLst pa_nil) (kp_cons pe_str pe_kDnew (kp_cons pe_str (pe_kLst pa_nil) (kp_cons pe_str (pv 1) kp_nil))))) (by rfl) (by rfl) (fun z => by cases z) (by decide)))
      (pss_cons (ps_set (i := 3) sc_law_due.nd rfl (Or.inl rfl) pe_int)
      (pss_cons (ps_for PassesOwn.never rfl (pi_range1 rfl T.n_range (pa_cons (pe_callB c_lenT (by rfl) T.n_len PySem.boot_len (pa_cons (pv 0) pa_nil)) pa_nil)) (pg_name (i := 4) sc_law_due.nd rfl (Or.inl rfl)) (pss_one (ps_if (pt_cmpR op_lt (pv 3) (pe_callB c_lenT (by rfl) T.n_len PySem.boot_len (pa_cons (pv 0) pa_nil)) (nomark _)) (pss_cons (ps_set (i := 5) sc_law_due.nd rfl (Or.inl rfl) (pe_fn D_law_step (hr.mono (by omega)) (by rfl) (pa_cons (pv 2) (pa_cons (pe_ix ix_tup (pv 0) (pv 3) (fun _ _ => rfl)) (pa_cons (pv 3) pa_nil)))))
      (pss_cons (ps_if (pt_cmpR op_lt (pv 5) pe_int (nomark _)) (pss_one (ps_ret (pe_kTup (pa_cons (pe_kDget hu (pv 2) pe_str (fun _ _ => rfl)) (pa_cons (pe_kTup (pa_cons pe_str (pa_cons (pe_ix ix_tup (pe_ix ix_tup (pv 0) (pv 3) (fun _ _ => rfl)) pe_int (fun _ _ => rfl)) pa_nil))) pa_nil))))) pss_nil)
      (pss_one (ps_set (i := 3) sc_law_due.nd rfl (Or.inl rfl) (pv 5))))) pss_nil)))
      (pss_one (ps_ret (pe_kTup (pa_cons (pe_kDget hu (pv 2) pe_str (fun _ _ => rfl)) (pa_cons (pe_kTup (pa_cons pe_str (pa_cons (pe_ix ix_list (pe_kDget hu (pv 2) pe_str (fun _ _ => rfl)) (pe_un un_neg pe_int) (fun _ _ => rfl)) pa_nil))) pa_nil)))))))), ?_⟩
    obtain ⟨f, f0, f1, fk⟩ := hfit.ex
    rw [Nat.zero_add] at f1 fk
    have hcl2 := dpAll_len hcs
    rw [List.length_map] at hcl2
    walk_at "w"
    rename_i wd H1 nwd ewd c1 st H2 nst est c2 pl H3 npl epl c3 sl H4 nsl esl c4 sd H5 nsd esd c5
    refine ⟨by walk_at "lk", Wd st pl sl sd gv, rfl, (by show 5 ≤ 15; decide), ?_⟩
    walk_at "w"
    rename_i H6 ewd6 c6
    have em : mergeK [] (Wd st pl sl sd gv) = Wd st pl sl sd gv := rfl
    rw [em] at ewd6
    have n1 : st ≠ pl := by walk_at "ne"
    have n2 : st ≠ sd := by walk_at "ne"
    have n3 : st ≠ gv := by walk_at "ne"
    have n4 : pl ≠ sd := by walk_at "ne"
    have n5 : pl ≠ gv := by walk_at "ne"
    have n6 : sd ≠ gv := by walk_at "ne"
    have n7 : wd ≠ sl := by walk_at "ne"
    have g1 : wd ≠ st := by walk_at "ne"
    have g2 : wd ≠ pl := by walk_at "ne"
    have g3 : wd ≠ sd := by walk_at "ne"
    have g4 : wd ≠ gv := by walk_at "ne"
    have g5 : sl ≠ st := by walk_at "ne"
    have g6 : sl ≠ pl := by walk_at "ne"
    have g7 : sl ≠ sd := by walk_at "ne"
    have g8 : sl ≠ gv := by walk_at "ne"
    have hch : Ch [] H H6 := by walk_at "ch"
    have nst' : H st = none := by walk_at "no"
    have npl' : H pl = none := by walk_at "no"
    have nsl' : H sl = none := by walk_at "no"
    have nsd' : H sd = none := by walk_at "no"
    have hW : WdAt H6 wd st pl sl sd gv given 0 M0 := ⟨ewd6, by walk_at "lk", by walk_at "lk", by walk_at "lk", by walk_at "lk", [], by walk_at "lk", fun k => rfl, Nat.le_refl _⟩
    refine k_rng code.length (by omega) (by omega) (by omega) (fun i σ H' => ∃ a M v5 v6, σ = [some (.ref c), some (.ref gv), some (.ref wd), some (.int (a : Nat)), v5, v6] ∧ WdAt H' wd st pl sl sd gv given a M ∧ MOk (f a) a M ∧ i ≤ a ∧ a ≤ code.length ∧ Ch [st, pl, sl, sd] H6 H' ∧ (∀ res, Runs code given a M res → Runs code given 0 M0 res))
      ⟨0, M0, none, none, rfl, hW, by rw [f0]; exact M0_ok, Nat.le_refl _, Nat.zero_le _, Ch.refl, fun _ h => h⟩ ?_ ?_
    · rintro i σ H7 hi ⟨a, M, v5, v6, rfl, hW7, mo, hia, ha, c7, hr7⟩
      walk_at "w"
      refine w_D (fun hlt => ?_) (fun hlt => ?_)
      · have hlt' : a < code.length := by omega
        obtain ⟨u, hu, hx⟩ := dpAll_get hcs (i := a) (d := insD code[a]) (by rw [List.getElem?_map, List.getElem?_eq_getElem hlt']; rfl)
        have hcode : code[a]? = some code[a] := List.getElem?_eq_getElem hlt'
        generalize code[a] = x at hx hcode
        have ok := fk a x hcode
        rw [Nat.zero_add] at ok
        have hui : atI cs (a : Int) = some u := atI_nat hu
        have hps : Ps H H7 := by walk_at "ps"
        have hx3 := hps.dp (tup_ins x) hx
        walk_at "w"
        refine ⟨wd, st, pl, sl, sd, gv, u, many, code.length, a, given, f, x, M, rfl, hW7, ⟨n1, n2, n3, n4, n5, n6, n7⟩, hx3, ok, mo, by omega, fun M' a' H8 hl he hW8 c8 => ?_, fun ⟨p, ep⟩ h0 H8 hwd8 hsd8 c8 => ?_⟩
        · walk_at "w"
          obtain ⟨k1, k2, k3⟩ := exec_ok ok mo hg hlt' he
          exact ⟨a', M', _, _, rfl, hW8, k1, by omega, k3, by walk_at "ch", fun res h => hr7 res (.step hcode he h)⟩
        · subst ep
          obtain ⟨t, rfl, hS⟩ := inv2 hx3
          walk_at "w"
          rename_i e1 H9 ne1 ee1 c9 e2 H10 ne2 ee2 c10
          exact q (M.said, .fault p) sd e1 e2 H10 (hr7 _ (.fault hcode h0)) nsd' (by walk_at "lk") (by walk_at "lk") ee2 (by walk_at "ch")
      · walk_at "w"
        exact ⟨a, M, _, _, rfl, hW7, mo, by omega, ha, c7, hr7⟩
    · rintro σ H7 ⟨a, M, v5, v6, rfl, hW7, mo, hia, ha, c7, hr7⟩
      obtain rfl : a = code.length := by omega
      obtain ⟨eo7, est7, epl7, esd7, egv7, hsl7⟩ := hW7
      cases hst : M.stk with
      | nil => have := mo.l1; rw [hst, f1] at this; simp at this
      | cons y r =>
        rw [hst, rev_cons] at est7
        walk_at "w"
        rename_i e1 H9 ne1 ee1 c9 e2 H10 ne2 ee2 c10
        exact q (M.said, .value y) sd e1 e2 H10 (hr7 _ (by have := Runs.done (code := code) (given := given) (a := code.length) (M := M) (by simp); rw [hst] at this; exact this)) nsd' (by walk_at "lk") (by walk_at "lk") ee2 (by walk_at "ch")

end
end M28


namespace M28
def SameD : Nat → PyData → Prop
  | 0, _ => False
  | _ + 1, .int _ => True
  | _ + 1, .str _ => True
  | n + 1, .list ds => ∀ d ∈ ds, SameD n d
  | n + 1, .tuple ds => ∀ d ∈ ds, SameD n d
  | _ + 1, _ => False
def spSame (K : PySem.W.Frag) (n : Nat) : Sp := fun vs H Q _ => ∃ (x y : V) (d : PyData), vs = [x, y] ∧ SameD n d ∧ Dp K H x d ∧ Dp K H y d ∧ Q (.bl true) H
section
variable {P : Program} {w : World} {K : PySem.W.Frag} {mg : Str → Option Value} {base : Heap}

theorem ok_law_same {n : Nat} (T : Tp P w K mg) (D_law_same : Df P w K mg base ("_law_same" : Str) (n) [("actual" : Str), ("due" : Str)] (spSame K n)) : Df P w K mg base ("_law_same" : Str) (n + 1) [("actual" : Str), ("due" : Str)] (spSame K (n + 1)) := by
  obtain ⟨f, fd, hm, F, b⟩ := T.d_law_same
  refine ⟨f, fd, hm, F.kp, b, F.ok sc_law_same (fun vs H Q E h => ?_) (fun cdv A outer s H vs Q E hr h => ?_)⟩
  · obtain ⟨x, y, d, rfl, hs, hx, hy, q⟩ := h
    rfl
  · obtain ⟨x, y, d, rfl, hs, hx, hy, q⟩ := h
    have hu := hu_of hr
    refine ⟨_, (pss_cons (ps_if (pt_val (pe_callB c_isi (by rfl) T.n_isinstance (by decide +kernel) (pa_cons (pv 1) (pa_cons (pe_bltn (v := .ty "str") (by rfl) T.n_str (by decide +kernel) rfl) pa_nil)))) (pss_one (ps_ret (pe_and (pe_callB c_isi (by rfl) T.n_isinstance (by decide +kernel) (pa_cons (pv 0) (pa_cons (pe_bltn (v := .ty "str") (by rfl) T.n_str (by decide +kernel) rfl) pa_nil))) (pe_one (pe_cmpR op_eq (pv 0) (pv 1) (nomark _)))))) pss_nil)
      (pss_cons (ps_if (PW.pt (pw_and (pt_not (pt_val (pe_callB c_isi (by rfl) T.n_isinstance (by decide +kernel) (pa_cons (pv 1) (pa_cons (pe_bltn (v := .ty "tuple") (by rfl) T.n_tuple (by decide +kernel) rfl) pa_nil))))) (pw_and1 (pt_not (pt_val (pe_callB c_isi (by rfl) T.n_isinstance (by decide +kernel) (pa_cons (pv 1) (pa_cons (pe_bltn (v := .ty "list") (by rfl) T.n_list (by decide +kernel) rfl) pa_nil)))))))) (pss_one (ps_ret (pe_and (pe_callB c_isi (by rfl) T.n_isinstance (by decide +kernel) (pa_cons (pv 0) (pa_cons (pe_bltn (v := .ty "int") (by rfl) T.n_int (by decide +kernel) rfl) pa_nil))) (pe_and (pe_not (pe_callB c_isi (by rfl) T.n_isinstance (by decide +kernel) (pa_cons (pv 0) (pa_cons (pe_bltn (v := .ty "bool") (by rfl) T.n_bool (by decide +kernel) rfl) pa_nil)))) (pe_one (pe_cmpR op_eq (pv 0) (pv 1) (nomark _))))))) pss_nil)
      (pss_cons (ps_if (PW.pt (pw_or (PW.pt (pw_and (pt_val (pe_callB c_isi (by rfl) T.n_isinstance (by decide +kernel) (pa_cons (pv 1) (pa_cons (pe_bltn (v := .ty "tuple") (by rfl) T.n_tuple (by decide +kernel) rfl) pa_nil)))) (pw_and1 (pt_not (pt_val (pe_callB c_isi (by rfl) T.n_isinstance (by decide +kernel) (pa_cons (pv 0) (pa_cons (pe_bltn (v := .ty "tuple") (by rfl) T.n_tuple (by decide +kernel) rfl) pa_nil)))))))) (pw_or1 (PW.pt (pw_and (pt_val (pe_callB c_isi (by rfl) T.n_isinstance (by decide +kernel) (pa_cons (pv 1) (pa_cons (pe_bltn (v := .ty "list") (by rfl) T.n_list (by decide +kernel) rfl) pa_nil)))) (pw_and1 (pt_not (pt_val (pe_callB c_isi (by rfl) T.n_isinstance (by decide +kernel) (pa_cons (pv 0) (pa_cons (pe_bltn (v := .ty "list") (by rfl) T.n_list (by decide +kernel) rfl) pa_nil))))))))))) (pss_one (ps_ret pe_bl)) pss_nil)
      (pss_cons (ps_if (pt_cmpR op_ne (pe_callB c_lenS (by rfl) T.n_len PySem.boot_len (pa_cons (pv 0) pa_nil)) (pe_callB c_lenS (by rfl) T.n_len PySem.boot_len (pa_cons (pv 1) pa_nil)) (nomark _)) (pss_one (ps_ret pe_bl)) pss_nil)
      (pss_cons (ps_for PassesOwn.never rfl (pi_range1 rfl T.n_range (pa_cons (pe_callB c_lenS (by rfl) T.n_len PySem.boot_len (pa_cons (pv 1) pa_nil)) pa_nil)) (pg_name (i := 2) sc_law_same.nd rfl (Or.inl rfl)) (pss_one (ps_if (pt_not (pt_val (pe_fn D_law_same (hr.mono (by omega)) (by rfl) (pa_cons (pe_ix ix_S (pv 0) (pv 2) (fun _ _ => rfl)) (pa_cons (pe_ix ix_S (pv 1) (pv 2) (fun _ _ => rfl)) pa_nil))))) (pss_one (ps_ret pe_bl)) pss_nil)))
      (pss_one (ps_ret pe_bl))))))), ?_⟩
    cases hx with
    | non => exact hs.elim
    | bl _ => exact hs.elim
    | int i =>
      cases hy
      walk_at "w"
      rw [decide_eq_true rfl]
      exact q
    | str z =>
      cases hy
      walk_at "w"
      rw [decide_eq_true rfl]
      exact q
    | lst hS hA =>
      cases hy with
      | lst hS2 hA2 =>
        rename_i a xs ds b ys
        have e1 := dpAll_len hA
        have e2 := dpAll_len hA2
        walk_at "w"
        refine w_ND (fun hne => absurd (by omega) hne) (fun _ => ?_)
        walk_at "w"
        rename_i hz1 hz2 hz3
        refine k_rng ds.length (by omega) (by omega) (by omega) (fun i σ H' => ∃ v, σ = [some (.ref a), some (.ref b), v] ∧ H' = H) ⟨none, rfl, rfl⟩ ?_ ?_
        · rintro i σ H' hi ⟨v, rfl, rfl⟩
          obtain ⟨x, hx, dx⟩ := dpAll_get hA (List.getElem?_eq_getElem hi)
          obtain ⟨y, hy, dy⟩ := dpAll_get hA2 (List.getElem?_eq_getElem hi)
          have ix := atI_nat hx
          have iy := atI_nat hy
          walk_at "w"
          refine ⟨x, y, ds[i], rfl, hs _ (List.getElem_mem hi), dx, dy, ?_⟩
          walk_at "w"
          exact ⟨_, rfl, rfl⟩
        · rintro σ H' ⟨v, rfl, rfl⟩
          walk_at "w"
          exact q
    | tup hS hA =>
      cases hy with
      | tup hS2 hA2 =>
        rename_i a xs ds b ys
        have e1 := dpAll_len hA
        have e2 := dpAll_len hA2
        walk_at "w"
        refine w_ND (fun hne => absurd (by omega) hne) (fun _ => ?_)
        walk_at "w"
        rename_i hz1 hz2 hz3
        refine k_rng ds.length (by omega) (by omega) (by omega) (fun i σ H' => ∃ v, σ = [some (.ref a), some (.ref b), v] ∧ H' = H) ⟨none, rfl, rfl⟩ ?_ ?_
        · rintro i σ H' hi ⟨v, rfl, rfl⟩
          obtain ⟨x, hx, dx⟩ := dpAll_get hA (List.getElem?_eq_getElem hi)
          obtain ⟨y, hy, dy⟩ := dpAll_get hA2 (List.getElem?_eq_getElem hi)
          have ix := atI_nat hx
          have iy := atI_nat hy
          walk_at "w"
          refine ⟨x, y, ds[i], rfl, hs _ (List.getElem_mem hi), dx, dy, ?_⟩
          walk_at "w"
          exact ⟨_, rfl, rfl⟩
        · rintro σ H' ⟨v, rfl, rfl⟩
          walk_at "w"
          exact q

end
end M28


namespace M28
def resD : Res → PyData
  | .value n => .tuple [.str "value", .int n]
  | .fault p => .tuple [.str "fault", .int p]
def outD (res : List Int × Res) : PyData := .tuple [.list (res.1.map .int), resD res.2]
theorem same_ints (n : Nat) (ns : List Int) : SameD (n + 2) (.list (ns.map .int)) := fun d hd => by
  obtain ⟨k, _, rfl⟩ := List.mem_map.mp hd
  exact trivial
theorem same_out (res : List Int × Res) : SameD 3 (outD res) := fun d hd => by
  rcases List.mem_cons.mp hd with rfl | hd
  · exact same_ints 0 res.1
  · rw [List.mem_singleton.mp hd]
    cases res.2 with
    | value n => intro d hd; rcases List.mem_cons.mp hd with rfl | hd; exact trivial; rw [List.mem_singleton.mp hd]; exact trivial
    | fault n => intro d hd; rcases List.mem_cons.mp hd with rfl | hd; exact trivial; rw [List.mem_singleton.mp hd]; exact trivial
theorem dp_out {K : PySem.W.Frag} {H : Hp} {sd e r : Addr} {res : List Int × Res} (h1 : H sd = some (.lst (res.1.map V.int))) (h2 : H e = some (.tup (resV res.2))) (h3 : H r = some (.tup [.ref sd, .ref e])) : Dp K H (.ref r) (outD res) := by
  refine .tup (SqT.of h3) (.cons (.lst (SqL.of h1) (dpAll_ints _)) (.cons ?_ .nil))
  cases hr : res.2 with
  | value n => rw [hr] at h2; exact .tup (SqT.of h2) (.cons (.str _) (.cons (.int _) .nil))
  | fault n => rw [hr] at h2; exact .tup (SqT.of h2) (.cons (.str _) (.cons (.int _) .nil))
def spLaw (K : PySem.W.Frag) : Sp := fun vs H Q _ => ∃ (a : Addr) (ns : List Int), vs = [.ref a] ∧ FzL K H a (ns.map V.int) ∧ ns.length ≤ 63 ∧ ∀ H', Q (.bl true) H'
section
variable {P : Program} {w : World} {K : PySem.W.Frag} {mg : Str → Option Value} {base : Heap}

theorem ok_law  (T : Tp P w K mg) (D_law_same : Df P w K mg base ("_law_same" : Str) (3) [("actual" : Str), ("due" : Str)] (spSame K 3)) (D_run_program : Df P w K mg base ("run_program" : Str) (3) [("code" : Str), ("slots" : Str), ("inputs" : Str)] (spRun K)) (D_law_due : Df P w K mg base ("_law_due" : Str) (2) [("orders" : Str), ("given" : Str)] (spDue K)) (D_law_pick : Df P w K mg base ("_law_pick" : Str) (1) [("draws" : Str), ("many" : Str)] (spPick)) (D_law_number : Df P w K mg base ("_law_number" : Str) (2) [("draws" : Str)] (spNumber)) (D_law_item : Df P w K mg base ("_law_item" : Str) (10) [("draws" : Str), ("made" : Str), ("state" : Str), ("many" : Str), ("deep" : Str)] (spItem K 2)) (D_law_draws : Df P w K mg base ("_law_draws" : Str) (1) [("script" : Str)] (spDraws K)) {f : Addr} {fd : FuncData} (F : Fun K ("law" : Str) ("law" : Str) s_law f fd) : FnOk P w K mg base CX0 (12) f fd [("script" : Str)] (spLaw K) := by
  refine F.ok sc_law (fun vs H Q E h => ?_) (fun cdv A outer s H vs Q E hr h => ?_)
  · obtain ⟨sc, ns, rfl, hsc, hns, q⟩ := h
    rfl
  · obtain ⟨sc, ns, rfl, hsc, hns, q⟩ := h
    have hu := hu_of hr
    refine ⟨_, (pss_cons (ps_set (i := 1) sc_law.nd rfl (Or.inr rfl) (pe_fn D_law_draws (hr.mono (by omega)) (by rfl) (pa_cons (pv 0) pa_nil)))
      (pss_cons (ps_set (i := 2) sc_law.nd rfl (Or.inl rfl) (pe_op op_add pe_int (pe_fn D_law_pick (hr.mono (by omega)) (by rfl) (pa_cons (pv 1) (pa_cons pe_int pa_nil)))))
      (pss_cons (ps_if (pt_cmpR op_eq (pe_fn D_law_pick (hr.mono (by omega)) (by rfl) (pa_cons (pv 1) (pa_cons pe_int pa_nil))) pe_int (nomark _)) (pss_one (ps_set (i := 2) sc_law.nd rfl (Or.inl rfl) (pe_op op_add pe_int (pe_fn D_law_pick (hr.mono (by omega)) (by rfl) (pa_cons (pv 1) (pa_cons pe_int pa_nil)))))) pss_nil)
      (pss_cons (ps_set (i := 3) sc_law.nd rfl (Or.inl rfl) (pe_kLst pa_nil))
      (pss_cons (ps_set (i := 4) sc_law.nd rfl (Or.inl rfl) (pe_kLst (pa_cons pe_int (pa_cons pe_int pa_nil))))
      (pss_cons (ps_for PassesOwn.never rfl (pi_range1 rfl T.n_range (pa_cons (pe_op op_add pe_int (pe_fn D_law_pick (hr.mono (by omega)) (by rfl) (pa_cons (pv 1) (pa_cons pe_int pa_nil)))) pa_nil)) (pg_name (i := 5) sc_law.nd rfl (Or.inl rfl)) (pss_one (ps_expr (pe_fn D_law_item (hr.mono (by omega)) (by rfl) (pa_cons (pv 1) (pa_cons (pv 3) (pa_cons (pv 4) (pa_cons (pv 2) (pa_cons pe_int pa_nil)))))))))
      (pss_cons (ps_if (pt_cmpR op_eq (pe_ix ix_list (pv 4) pe_int (fun _ _ => rfl)) pe_int (nomark _)) (pss_one (ps_expr (pe_bm PySem.F.plainAttrs_list PySem.F.slot_list_append PySem.F.type_list_append m_app (pv 3) (pa_cons (pe_kTup (pa_cons pe_str (pa_cons (pe_fn D_law_number (hr.mono (by omega)) (by rfl) (pa_cons (pv 1) pa_nil)) pa_nil))) pa_nil)))) pss_nil)
      (pss_cons (ps_set (i := 6) sc_law.nd rfl (Or.inl rfl) (pe_callTy c_tupL (by rfl) T.n_tuple (by decide +kernel) (pa_cons (pv 3) pa_nil)))
      (pss_cons (ps_setLc (i := 7) (own := [(("k" : Str), 5)]) (g := gName 5) rfl sc_law.nd rfl rfl (sw_true rfl rfl rfl (by decide +kernel)) (pi_range1 rfl T.n_range (pa_cons (pe_fn D_law_pick (hr.mono (by omega)) (by rfl) (pa_cons (pv 1) (pa_cons pe_int pa_nil))) pa_nil)) (blkOk_by (N := [("script" : Str), ("draws" : Str), ("many" : Str), ("made" : Str), ("state" : Str), ("k" : Str), ("orders" : Str), ("given" : Str), ("other" : Str), ("due" : Str), ("second" : Str), ("handed" : Str), ("first" : Str)]) (sc := defScope s_law) (own := [(("k" : Str), 5)]) (by decide +kernel)) (fun _ _ _ _ _ => pg_name (i := 5) sc_law.nd rfl (Or.inl rfl)) (fun _ _ _ _ _ => pts_nil) (fun _ _ _ _ _ => (pe_fn D_law_number (hr.mono (by omega)) (by rfl) (pa_cons (pv 1) pa_nil))))
      (pss_cons (ps_setLc (i := 8) (own := [(("k" : Str), 5)]) (g := gName 5) rfl sc_law.nd rfl rfl (sw_true rfl rfl rfl (by decide +kernel)) (pi_range1 rfl T.n_range (pa_cons (pe_fn D_law_pick (hr.mono (by omega)) (by rfl) (pa_cons (pv 1) (pa_cons pe_int pa_nil))) pa_nil)) (blkOk_by (N := [("script" : Str), ("draws" : Str), ("many" : Str), ("made" : Str), ("state" : Str), ("k" : Str), ("orders" : Str), ("given" : Str), ("other" : Str), ("due" : Str), ("second" : Str), ("handed" : Str), ("first" : Str)]) (sc := defScope s_law) (own := [(("k" : Str), 5)]) (by decide +kernel)) (fun _ _ _ _ _ => pg_name (i := 5) sc_law.nd rfl (Or.inl rfl)) (fun _ _ _ _ _ => pts_nil) (fun _ _ _ _ _ => (pe_fn D_law_number (hr.mono (by omega)) (by rfl) (pa_cons (pv 1) pa_nil))))
      (pss_cons (ps_set (i := 9) sc_law.nd rfl (Or.inl rfl) (pe_fn D_law_due (hr.mono (by omega)) (by rfl) (pa_cons (pv 6) (pa_cons (pv 7) pa_nil))))
      (pss_cons (ps_set (i := 10) sc_law.nd rfl (Or.inl rfl) (pe_fn D_law_due (hr.mono (by omega)) (by rfl) (pa_cons (pv 6) (pa_cons (pv 8) pa_nil))))
      (pss_cons (ps_set (i := 11) sc_law.nd rfl (Or.inl rfl) (pe_callTy c_listL (by rfl) T.n_list (by decide +kernel) (pa_cons (pv 7) pa_nil)))
      (pss_cons (ps_set (i := 12) sc_law.nd rfl (Or.inl rfl) (pe_fn D_run_program (hr.mono (by omega)) (by rfl) (pa_cons (pv 6) (pa_cons (pv 2) (pa_cons (pv 11) pa_nil)))))
      (pss_cons (ps_if (PW.pt (pw_or (pt_not (pt_val (pe_fn D_law_same (hr.mono (by omega)) (by rfl) (pa_cons (pv 11) (pa_cons (pv 7) pa_nil))))) (pw_or1 (pt_not (pt_val (pe_fn D_law_same (hr.mono (by omega)) (by rfl) (pa_cons (pv 12) (pa_cons (pv 9) pa_nil)))))))) (pss_one (ps_ret pe_bl)) pss_nil)
      (pss_cons (ps_expr (pe_bm PySem.F.plainAttrs_list PySem.F.slot_list_append PySem.F.type_list_append m_app (pe_ix ix_tup (pv 12) pe_int (fun _ _ => rfl)) (pa_cons pe_int pa_nil)))
      (pss_cons (ps_if (pt_not (pt_val (pe_fn D_law_same (hr.mono (by omega)) (by rfl) (pa_cons (pe_fn D_run_program (hr.mono (by omega)) (by rfl) (pa_cons (pv 6) (pa_cons (pv 2) (pa_cons (pe_callTy c_tupL (by rfl) T.n_tuple (by decide +kernel) (pa_cons (pv 8) pa_nil)) pa_nil)))) (pa_cons (pv 10) pa_nil))))) (pss_one (ps_ret pe_bl)) pss_nil)
      (pss_one (ps_ret (pe_fn D_law_same (hr.mono (by omega)) (by rfl) (pa_cons (pe_fn D_run_program (hr.mono (by omega)) (by rfl) (pa_cons (pv 6) (pa_cons (pv 2) (pa_cons (pe_callTy c_tupL (by rfl) T.n_tuple (by decide +kernel) (pa_cons (pv 7) pa_nil)) pa_nil)))) (pa_cons (pv 9) pa_nil)))))))))))))))))))))), ?_⟩
    walk_at "w"
    refine ⟨sc, ns, rfl, hsc, hns, fun l fl H1 nl nfl d1 c1 => ?_⟩
    walk_at "w"
    refine use_pick d1 (by decide) fun x0 H2 x00 x01 d2 c2 => ?_
    walk_at "w"
    refine use_pick d2 (by decide) fun x1 H3 x10 x11 d3 c3 => ?_
    walk_at "w"
    refine' w_cutN (fun many H => 1 ≤ many ∧ many ≤ 363 ∧ Dr H l fl) (fun rest => ?main) ?rest
    case main =>
      obtain ⟨m0, em0⟩ : ∃ m : Nat, 1 + x0 = (m : Int) := ⟨(1 + x0).toNat, by omega⟩
      refine w_D (fun hc => ?_) (fun hc => ?_)
      rotate_left
      · refine w_nx ?_
        refine w_seqS (σ' := [some (.ref sc), some (.ref l), some (.int (m0 : Int)), none, none, none, none, none, none, none, none, none, none]) (by rw [← em0]; rfl) ?_
        exact rest m0 H3 ⟨by omega, by omega, d3⟩
      · walk_at "w"
        refine use_pick d3 (by decide) fun x2 H4 x20 x21 d4 c4 => ?_
        obtain ⟨m1, em1⟩ : ∃ m : Nat, 300 + x2 = (m : Int) := ⟨(300 + x2).toNat, by omega⟩
        refine w_rI0 ?_
        refine w_gn ?_
        refine w_seqS (σ' := [some (.ref sc), some (.ref l), some (.int (m1 : Int)), none, none, none, none, none, none, none, none, none, none]) (by rw [← em1]; rfl) ?_
        exact rest m1 H4 ⟨by omega, by omega, d4⟩
    case rest =>
    rintro many H4 ⟨hm1, hm2, d4⟩
    walk_at "w"
    rename_i md H5 nmd emd c5 st H6 nst est c6
    have n1 : md ≠ l := by walk_at "ne"
    have n2 : md ≠ fl := by walk_at "ne"
    have n3 : st ≠ l := by walk_at "ne"
    have n4 : st ≠ fl := by walk_at "ne"
    have n5 : st ≠ md := by walk_at "ne"
    refine use_pick (by walk_at "dr") (by decide) fun x3 H7 x30 x31 d7 c7 => ?_
    walk_at "w"
    have hA : Ad 2 = 330 := rfl
    refine k_rng (1 + x3).toNat rfl (by omega) (by omega) (fun i σ H => ∃ v code a p, σ = [some (.ref sc), some (.ref l), some (.int (many : Int)), some (.ref md), some (.ref st), v, none, none, none, none, none, none, none] ∧ code.length ≤ i * 330 ∧ Fits many 0 code (0, 0) (a, p) ∧ Dr H l fl ∧ Made K H md code ∧ H st = some (.lst [.int (a : Nat), .int (p : Nat)]))
      ⟨none, [], 0, 0, rfl, by simp, Fits.nil, d7, ⟨[], by walk_at "lk", .nil⟩, by walk_at "lk"⟩ ?_ ?_
    · rintro i σ H8 hi ⟨v, code, a, p, rfl, hl, hf, d8, md8, st8⟩
      walk_at "w"
      have hb : i * 330 ≤ 24 * 330 := Nat.mul_le_mul_right _ (by omega)
      refine ⟨l, fl, md, st, many, code, a, p, rfl, d8, md8, st8, ⟨n1, n2, n3, n4, n5⟩, hm1, by omega, fun frag a' p' H9 hl9 hf9 _ _ d9 md9 st9 c9 => ?_⟩
      walk_at "w"
      exact ⟨_, code ++ frag, a', p', rfl, by rw [List.length_append, Nat.succ_mul]; omega, hf.append (by rw [Nat.zero_add]; exact hf9), d9, md9, st9⟩
    rintro σ H8 ⟨v, code, a, p, rfl, hl, hf, d8, ⟨vs8, md8, hv8⟩, st8⟩
    have hb : (1 + x3).toNat * 330 ≤ 24 * 330 := Nat.mul_le_mul_right _ (by omega)
    have hvl8 := dpAll_len hv8
    simp only [List.length_map] at hvl8
    walk_at "w"
    refine' w_cutH (fun H => ∃ code a p, code.length ≤ 10000 ∧ Fits many 0 code (0, 0) (a + 1, p) ∧ Dr H l fl ∧ Made K H md code) (fun rest => ?main2) ?rest2
    case main2 =>
      refine w_D (fun hc => ?_) (fun hc => ?_)
      rotate_left
      · refine w_nx ?_
        exact rest H8 ⟨code, a - 1, p, by omega, by rw [show a - 1 + 1 = a by omega]; exact hf, d8, vs8, md8, hv8⟩
      · walk_at "w"
        refine ⟨l, fl, rfl, d8, fun n H9 hn d9 c9 => ?_⟩
        iterate 4 (walk_at "w1")
        rename_i t H10 u1 w1 c10 H11 e11 c11
        obtain rfl : a = 0 := by omega
        exact rest H11 ⟨code ++ [.push n], 0, p, by simp only [List.length_append, List.length_cons, List.length_nil]; omega, hf.append (fits_push hn), by walk_at "dr", made_snoc hv8 (by walk_at "ps") e11 (dp2 (by walk_at "lk"))⟩
    case rest2 =>
    clear hf hvl8 hv8 md8 st8 hl hb vs8 code a p
    rintro H9 ⟨code, a, p, hl, hf, d9, vs9, md9, hv9⟩
    have tmd : Tk H9 md := ⟨_, md9⟩
    walk_at "w"
    rename_i o H10 no eo c10
    have hO : SqT K H10 o vs9 := SqT.of eo
    refine use_pick (by walk_at "dr") (by decide) fun y1 H11 y10 y11 d11 c11 => ?_
    refine ⟨_, rfl, by omega, by omega, fun gv ngv => lc_range (fun i H => ∃ gs : List Int, H gv = some (.lst (gs.map V.int)) ∧ gs.length = i ∧ (∀ n ∈ gs, Val n) ∧ Dr H l fl ∧ Ch [l] H11 H) ?_ ?_ ?_⟩
    · obtain ⟨H', eH, e', c'⟩ := lc_new ngv
      rw [eH]
      exact ⟨[], e', rfl, (fun _ h => nomatch h), by walk_at "dr", by walk_at "ch"⟩
    · rintro i H hi ⟨gs, e, lg, vg, dg, cg⟩
      walk_at "w"
      refine ⟨l, fl, rfl, dg, fun n H12 hn d12 c12 => ?_⟩
      have e12 : H12 gv = some (.lst (gs.map V.int)) := by walk_at "lk"
      obtain ⟨H13, eH, e13, c13⟩ := acc_new (y := .int n) e12
      refine ⟨gs.map V.int, e12, by walk_at "size", ?_⟩
      rw [eH]
      exact ⟨gs ++ [n], by rw [List.map_append]; exact e13, by simp only [List.length_append, List.length_cons, List.length_nil]; omega, fun k hk => (List.mem_append.mp hk).elim (vg k) fun z => by rw [List.mem_singleton.mp z]; exact hn, by walk_at "dr", by walk_at "ch"⟩
    rintro H12 ⟨gs, egv, _, vgs, d12, c12⟩
    walk_at "w"
    refine use_pick d12 (by decide) fun y2 H13 y20 y21 d13 c13 => ?_
    refine ⟨_, rfl, by omega, by omega, fun ov nov => lc_range (fun i H => ∃ gs : List Int, H ov = some (.lst (gs.map V.int)) ∧ gs.length = i ∧ (∀ n ∈ gs, Val n) ∧ Dr H l fl ∧ Ch [l] H13 H) ?_ ?_ ?_⟩
    · obtain ⟨H', eH, e', c'⟩ := lc_new nov
      rw [eH]
      exact ⟨[], e', rfl, (fun _ h => nomatch h), by walk_at "dr", by walk_at "ch"⟩
    · rintro i H hi ⟨gs, e, lg, vg, dg, cg⟩
      walk_at "w"
      refine ⟨l, fl, rfl, dg, fun n H14 hn d14 c14 => ?_⟩
      have e14 : H14 ov = some (.lst (gs.map V.int)) := by walk_at "lk"
      obtain ⟨H15, eH, e15, c15⟩ := acc_new (y := .int n) e14
      refine ⟨gs.map V.int, e14, by walk_at "size", ?_⟩
      rw [eH]
      exact ⟨gs ++ [n], by rw [List.map_append]; exact e15, by simp only [List.length_append, List.length_cons, List.length_nil]; omega, fun k hk => (List.mem_append.mp hk).elim (vg k) fun z => by rw [List.mem_singleton.mp z]; exact hn, by walk_at "dr", by walk_at "ch"⟩
    rintro H14 ⟨os, eov, _, vos, d14, c14⟩
    have egv14 : H14 gv = some (.lst (gs.map V.int)) := by walk_at "lk"
    have hO14 : SqT K H14 o vs9 := by walk_at "lkT"
    have hV14 : DpAll K H14 vs9 (code.map insD) := Ps.dpAll (by walk_at "ps") (tup_all _) hv9
    walk_at "w"
    refine ⟨o, gv, many, a, p, code, vs9, gs, rfl, hO14, hV14, hf, egv14, vgs, by omega, fun rs1 sd1 en1 r1 H15 hr1 ns1 es1 ee1 er1 c15 => ?_⟩
    walk_at "w"
    refine ⟨o, ov, many, a, p, code, vs9, os, rfl, by walk_at "lkT", Ps.dpAll (by walk_at "ps") (tup_all _) hV14, hf, by walk_at "lk", vos, by omega, fun rs2 sd2 en2 r2 H16 hr2 ns2 es2 ee2 er2 c16 => ?_⟩
    walk_at "w"
    rename_i hd H17 nhd ehd c17
    refine ⟨o, hd, many, a, p, code, vs9, gs, rfl, by walk_at "lkT", Ps.dpAll (by walk_at "ps") (tup_all _) hV14, by omega, hf, .inr ⟨by walk_at "lk", fun h => nomatch h⟩, vgs, by omega, fun rs3 sd3 en3 r3 H18 hz3 hr3 ns3 es3 ee3 er3 c18 => ?_⟩
    obtain rfl := hr1.det hr3
    walk_at "w"
    refine ⟨.ref hd, .ref gv, .list (gs.map .int), rfl, same_ints 1 gs, .lst (SqL.of (by walk_at "lk")) (dpAll_ints _), .lst (SqL.of (by walk_at "lk")) (dpAll_ints _), ?_⟩
    walk_at "w"
    refine ⟨.ref r3, .ref r1, outD rs1, rfl, same_out rs1, dp_out es3 ee3 er3, dp_out (sd := sd1) (e := en1) (by walk_at "lk") (by walk_at "lk") (by walk_at "lk"), ?_⟩
    walk_at "w"
    rename_i H19 e19 c19 ot H20 not eot c20
    refine ⟨o, ot, many, a, p, code, vs9, os, rfl, by walk_at "lkT", Ps.dpAll (by walk_at "ps") (tup_all _) hV14, by omega, hf, .inl (SqT.of (by walk_at "lk")), vos, by omega, fun rs4 sd4 en4 r4 H21 hz4 hr4 ns4 es4 ee4 er4 c21 => ?_⟩
    obtain rfl := hr2.det hr4
    walk_at "w"
    refine ⟨.ref r4, .ref r2, outD rs2, rfl, same_out rs2, dp_out es4 ee4 er4, dp_out (sd := sd2) (e := en2) (by walk_at "lk") (by walk_at "lk") (by walk_at "lk"), ?_⟩
    walk_at "w"
    rename_i gt H22 ngt egt c22
    refine ⟨o, gt, many, a, p, code, vs9, gs, rfl, by walk_at "lkT", Ps.dpAll (by walk_at "ps") (tup_all _) hV14, by omega, hf, .inl (SqT.of (by walk_at "lk")), vgs, by omega, fun rs5 sd5 en5 r5 H23 hz5 hr5 ns5 es5 ee5 er5 c23 => ?_⟩
    obtain rfl := hr1.det hr5
    walk_at "w"
    refine ⟨.ref r5, .ref r1, outD rs1, rfl, same_out rs1, dp_out es5 ee5 er5, dp_out (sd := sd1) (e := en1) (by walk_at "lk") (by walk_at "lk") (by walk_at "lk"), ?_⟩
    walk_at "w"
    exact q _

end
end M28


namespace M28

theorem tp_mk {P : Program} {w : World} {K : PySem.W.Frag} {h : Heap} {mg : Str → Option Value} (X : K.In h) (G : h.Ns mainGlobals mg)
    {C_TextMachine : Addr}
    (aC_TextMachine : PySem.W.nsIn K mainGlobals ("TextMachine" : Str) = some (some (.ref C_TextMachine)))
    (pg_TextMachine : PySem.W.plainGet K C_TextMachine Str.empty = true)
    (hd_TextMachine : PySem.W.hasDictIn K C_TextMachine = true)
    (po_TextMachine : PySem.W.plainOver K C_TextMachine = true)
    (sa_TextMachine : PySem.W.findIn K (.ref C_TextMachine) "__setattr__" = some (some (.builtin "object.__setattr__")))
    (mk_TextMachine : PySem.W.makesIn K C_TextMachine = true)
    (kc_TextMachine : PySem.W.keepIn K (.ref C_TextMachine) = true)
    (na_TextMachine_inputs : PySem.W.findIn K (.ref C_TextMachine) ("inputs" : Str) = some none)
    (na_TextMachine_slots : PySem.W.findIn K (.ref C_TextMachine) ("slots" : Str) = some none)
    (na_TextMachine_stack : PySem.W.findIn K (.ref C_TextMachine) ("stack" : Str) = some none)
    (na_TextMachine_pile : PySem.W.findIn K (.ref C_TextMachine) ("pile" : Str) = some none)
    (na_TextMachine_said : PySem.W.findIn K (.ref C_TextMachine) ("said" : Str) = some none)
    {f_pair_value : Addr} {od_pair_value an_pair_value : Option Addr} {sl_pair_value : Array (Option Value)} {oc_pair_value kV_pair_value dc_pair_value pm_pair_value cd_pair_value ct_pair_value : Value}
    (a_pair_value : PySem.W.nsIn K mainGlobals ("pair_value" : Str) = some (some (.ref f_pair_value)))
    (l_pair_value : K.lookup f_pair_value = some ⟨oc_pair_value, od_pair_value, .func (PySem.W.fnOf ("pair_value" : Str) ("pair_value" : Str) (defArgs s_pair_value) (defBody s_pair_value) (defScope s_pair_value) .none kV_pair_value dc_pair_value pm_pair_value an_pair_value cd_pair_value ct_pair_value), sl_pair_value⟩)
    (c_pair_value : PySem.W.codeIn K cd_pair_value ("pair_value" : Str) = true)
    (k_pair_value : PySem.W.keepIn K (.ref f_pair_value) = true)
    {f_TextMachine___init : Addr} {od_TextMachine___init an_TextMachine___init : Option Addr} {sl_TextMachine___init : Array (Option Value)} {oc_TextMachine___init kV_TextMachine___init dc_TextMachine___init pm_TextMachine___init cd_TextMachine___init ct_TextMachine___init : Value}
    (a_TextMachine___init : PySem.W.findIn K (.ref C_TextMachine) ("__init__" : Str) = some (some (.ref f_TextMachine___init)))
    (i_TextMachine___init : PySem.W.isFn K (.ref f_TextMachine___init) = true)
    (l_TextMachine___init : K.lookup f_TextMachine___init = some ⟨oc_TextMachine___init, od_TextMachine___init, .func (PySem.W.fnOf ("__init__" : Str) ("TextMachine.__init__" : Str) (defArgs s_TextMachine___init) (defBody s_TextMachine___init) (defScope s_TextMachine___init) .none kV_TextMachine___init dc_TextMachine___init pm_TextMachine___init an_TextMachine___init cd_TextMachine___init ct_TextMachine___init), sl_TextMachine___init⟩)
    (c_TextMachine___init : PySem.W.codeIn K cd_TextMachine___init ("TextMachine.__init__" : Str) = true)
    (k_TextMachine___init : PySem.W.keepIn K (.ref f_TextMachine___init) = true)
    {f_TextMachine_perform : Addr} {od_TextMachine_perform an_TextMachine_perform : Option Addr} {sl_TextMachine_perform : Array (Option Value)} {oc_TextMachine_perform kV_TextMachine_perform dc_TextMachine_perform pm_TextMachine_perform cd_TextMachine_perform ct_TextMachine_perform : Value}
    (a_TextMachine_perform : PySem.W.findIn K (.ref C_TextMachine) ("perform" : Str) = some (some (.ref f_TextMachine_perform)))
    (i_TextMachine_perform : PySem.W.isFn K (.ref f_TextMachine_perform) = true)
    (l_TextMachine_perform : K.lookup f_TextMachine_perform = some ⟨oc_TextMachine_perform, od_TextMachine_perform, .func (PySem.W.fnOf ("perform" : Str) ("TextMachine.perform" : Str) (defArgs s_TextMachine_perform) (defBody s_TextMachine_perform) (defScope s_TextMachine_perform) .none kV_TextMachine_perform dc_TextMachine_perform pm_TextMachine_perform an_TextMachine_perform cd_TextMachine_perform ct_TextMachine_perform), sl_TextMachine_perform⟩)
    (c_TextMachine_perform : PySem.W.codeIn K cd_TextMachine_perform ("TextMachine.perform" : Str) = true)
    (k_TextMachine_perform : PySem.W.keepIn K (.ref f_TextMachine_perform) = true)
    {f_run_program : Addr} {od_run_program an_run_program : Option Addr} {sl_run_program : Array (Option Value)} {oc_run_program kV_run_program dc_run_program pm_run_program cd_run_program ct_run_program : Value}
    (a_run_program : PySem.W.nsIn K mainGlobals ("run_program" : Str) = some (some (.ref f_run_program)))
    (l_run_program : K.lookup f_run_program = some ⟨oc_run_program, od_run_program, .func (PySem.W.fnOf ("run_program" : Str) ("run_program" : Str) (defArgs s_run_program) (defBody s_run_program) (defScope s_run_program) .none kV_run_program dc_run_program pm_run_program an_run_program cd_run_program ct_run_program), sl_run_program⟩)
    (c_run_program : PySem.W.codeIn K cd_run_program ("run_program" : Str) = true)
    (k_run_program : PySem.W.keepIn K (.ref f_run_program) = true)
    {f_law_draws : Addr} {od_law_draws an_law_draws : Option Addr} {sl_law_draws : Array (Option Value)} {oc_law_draws kV_law_draws dc_law_draws pm_law_draws cd_law_draws ct_law_draws : Value}
    (a_law_draws : PySem.W.nsIn K mainGlobals ("_law_draws" : Str) = some (some (.ref f_law_draws)))
    (l_law_draws : K.lookup f_law_draws = some ⟨oc_law_draws, od_law_draws, .func (PySem.W.fnOf ("_law_draws" : Str) ("_law_draws" : Str) (defArgs s_law_draws) (defBody s_law_draws) (defScope s_law_draws) .none kV_law_draws dc_law_draws pm_law_draws an_law_draws cd_law_draws ct_law_draws), sl_law_draws⟩)
    (c_law_draws : PySem.W.codeIn K cd_law_draws ("_law_draws" : Str) = true)
    (k_law_draws : PySem.W.keepIn K (.ref f_law_draws) = true)
    {f_law_pick : Addr} {od_law_pick an_law_pick : Option Addr} {sl_law_pick : Array (Option Value)} {oc_law_pick kV_law_pick dc_law_pick pm_law_pick cd_law_pick ct_law_pick : Value}
    (a_law_pick : PySem.W.nsIn K mainGlobals ("_law_pick" : Str) = some (some (.ref f_law_pick)))
    (l_law_pick : K.lookup f_law_pick = some ⟨oc_law_pick, od_law_pick, .func (PySem.W.fnOf ("_law_pick" : Str) ("_law_pick" : Str) (defArgs s_law_pick) (defBody s_law_pick) (defScope s_law_pick) .none kV_law_pick dc_law_pick pm_law_pick an_law_pick cd_law_pick ct_law_pick), sl_law_pick⟩)
    (c_law_pick : PySem.W.codeIn K cd_law_pick ("_law_pick" : Str) = true)
    (k_law_pick : PySem.W.keepIn K (.ref f_law_pick) = true)
    {f_law_same : Addr} {od_law_same an_law_same : Option Addr} {sl_law_same : Array (Option Value)} {oc_law_same kV_law_same dc_law_same pm_law_same cd_law_same ct_law_same : Value}
    (a_law_same : PySem.W.nsIn K mainGlobals ("_law_same" : Str) = some (some (.ref f_law_same)))
    (l_law_same : K.lookup f_law_same = some ⟨oc_law_same, od_law_same, .func (PySem.W.fnOf ("_law_same" : Str) ("_law_same" : Str) (defArgs s_law_same) (defBody s_law_same) (defScope s_law_same) .none kV_law_same dc_law_same pm_law_same an_law_same cd_law_same ct_law_same), sl_law_same⟩)
    (c_law_same : PySem.W.codeIn K cd_law_same ("_law_same" : Str) = true)
    (k_law_same : PySem.W.keepIn K (.ref f_law_same) = true)
    {f_law_number : Addr} {od_law_number an_law_number : Option Addr} {sl_law_number : Array (Option Value)} {oc_law_number kV_law_number dc_law_number pm_law_number cd_law_number ct_law_number : Value}
    (a_law_number : PySem.W.nsIn K mainGlobals ("_law_number" : Str) = some (some (.ref f_law_number)))
    (l_law_number : K.lookup f_law_number = some ⟨oc_law_number, od_law_number, .func (PySem.W.fnOf ("_law_number" : Str) ("_law_number" : Str) (defArgs s_law_number) (defBody s_law_number) (defScope s_law_number) .none kV_law_number dc_law_number pm_law_number an_law_number cd_law_number ct_law_number), sl_law_number⟩)
    (c_law_number : PySem.W.codeIn K cd_law_number ("_law_number" : Str) = true)
    (k_law_number : PySem.W.keepIn K (.ref f_law_number) = true)
    {f_law_wide : Addr} {od_law_wide an_law_wide : Option Addr} {sl_law_wide : Array (Option Value)} {oc_law_wide kV_law_wide dc_law_wide pm_law_wide cd_law_wide ct_law_wide : Value}
    (a_law_wide : PySem.W.nsIn K mainGlobals ("_law_wide" : Str) = some (some (.ref f_law_wide)))
    (l_law_wide : K.lookup f_law_wide = some ⟨oc_law_wide, od_law_wide, .func (PySem.W.fnOf ("_law_wide" : Str) ("_law_wide" : Str) (defArgs s_law_wide) (defBody s_law_wide) (defScope s_law_wide) .none kV_law_wide dc_law_wide pm_law_wide an_law_wide cd_law_wide ct_law_wide), sl_law_wide⟩)
    (c_law_wide : PySem.W.codeIn K cd_law_wide ("_law_wide" : Str) = true)
    (k_law_wide : PySem.W.keepIn K (.ref f_law_wide) = true)
    {f_law_item : Addr} {od_law_item an_law_item : Option Addr} {sl_law_item : Array (Option Value)} {oc_law_item kV_law_item dc_law_item pm_law_item cd_law_item ct_law_item : Value}
    (a_law_item : PySem.W.nsIn K mainGlobals ("_law_item" : Str) = some (some (.ref f_law_item)))
    (l_law_item : K.lookup f_law_item = some ⟨oc_law_item, od_law_item, .func (PySem.W.fnOf ("_law_item" : Str) ("_law_item" : Str) (defArgs s_law_item) (defBody s_law_item) (defScope s_law_item) .none kV_law_item dc_law_item pm_law_item an_law_item cd_law_item ct_law_item), sl_law_item⟩)
    (c_law_item : PySem.W.codeIn K cd_law_item ("_law_item" : Str) = true)
    (k_law_item : PySem.W.keepIn K (.ref f_law_item) = true)
    {f_law_items : Addr} {od_law_items an_law_items : Option Addr} {sl_law_items : Array (Option Value)} {oc_law_items kV_law_items dc_law_items pm_law_items cd_law_items ct_law_items : Value}
    (a_law_items : PySem.W.nsIn K mainGlobals ("_law_items" : Str) = some (some (.ref f_law_items)))
    (l_law_items : K.lookup f_law_items = some ⟨oc_law_items, od_law_items, .func (PySem.W.fnOf ("_law_items" : Str) ("_law_items" : Str) (defArgs s_law_items) (defBody s_law_items) (defScope s_law_items) .none kV_law_items dc_law_items pm_law_items an_law_items cd_law_items ct_law_items), sl_law_items⟩)
    (c_law_items : PySem.W.codeIn K cd_law_items ("_law_items" : Str) = true)
    (k_law_items : PySem.W.keepIn K (.ref f_law_items) = true)
    {f_law_level : Addr} {od_law_level an_law_level : Option Addr} {sl_law_level : Array (Option Value)} {oc_law_level kV_law_level dc_law_level pm_law_level cd_law_level ct_law_level : Value}
    (a_law_level : PySem.W.nsIn K mainGlobals ("_law_level" : Str) = some (some (.ref f_law_level)))
    (l_law_level : K.lookup f_law_level = some ⟨oc_law_level, od_law_level, .func (PySem.W.fnOf ("_law_level" : Str) ("_law_level" : Str) (defArgs s_law_level) (defBody s_law_level) (defScope s_law_level) .none kV_law_level dc_law_level pm_law_level an_law_level cd_law_level ct_law_level), sl_law_level⟩)
    (c_law_level : PySem.W.codeIn K cd_law_level ("_law_level" : Str) = true)
    (k_law_level : PySem.W.keepIn K (.ref f_law_level) = true)
    {f_law_over : Addr} {od_law_over an_law_over : Option Addr} {sl_law_over : Array (Option Value)} {oc_law_over kV_law_over dc_law_over pm_law_over cd_law_over ct_law_over : Value}
    (a_law_over : PySem.W.nsIn K mainGlobals ("_law_over" : Str) = some (some (.ref f_law_over)))
    (l_law_over : K.lookup f_law_over = some ⟨oc_law_over, od_law_over, .func (PySem.W.fnOf ("_law_over" : Str) ("_law_over" : Str) (defArgs s_law_over) (defBody s_law_over) (defScope s_law_over) .none kV_law_over dc_law_over pm_law_over an_law_over cd_law_over ct_law_over), sl_law_over⟩)
    (c_law_over : PySem.W.codeIn K cd_law_over ("_law_over" : Str) = true)
    (k_law_over : PySem.W.keepIn K (.ref f_law_over) = true)
    {f_law_step : Addr} {od_law_step an_law_step : Option Addr} {sl_law_step : Array (Option Value)} {oc_law_step kV_law_step dc_law_step pm_law_step cd_law_step ct_law_step : Value}
    (a_law_step : PySem.W.nsIn K mainGlobals ("_law_step" : Str) = some (some (.ref f_law_step)))
    (l_law_step : K.lookup f_law_step = some ⟨oc_law_step, od_law_step, .func (PySem.W.fnOf ("_law_step" : Str) ("_law_step" : Str) (defArgs s_law_step) (defBody s_law_step) (defScope s_law_step) .none kV_law_step dc_law_step pm_law_step an_law_step cd_law_step ct_law_step), sl_law_step⟩)
    (c_law_step : PySem.W.codeIn K cd_law_step ("_law_step" : Str) = true)
    (k_law_step : PySem.W.keepIn K (.ref f_law_step) = true)
    {f_law_due : Addr} {od_law_due an_law_due : Option Addr} {sl_law_due : Array (Option Value)} {oc_law_due kV_law_due dc_law_due pm_law_due cd_law_due ct_law_due : Value}
    (a_law_due : PySem.W.nsIn K mainGlobals ("_law_due" : Str) = some (some (.ref f_law_due)))
    (l_law_due : K.lookup f_law_due = some ⟨oc_law_due, od_law_due, .func (PySem.W.fnOf ("_law_due" : Str) ("_law_due" : Str) (defArgs s_law_due) (defBody s_law_due) (defScope s_law_due) .none kV_law_due dc_law_due pm_law_due an_law_due cd_law_due ct_law_due), sl_law_due⟩)
    (c_law_due : PySem.W.codeIn K cd_law_due ("_law_due" : Str) = true)
    (k_law_due : PySem.W.keepIn K (.ref f_law_due) = true)
    {f_law : Addr} {od_law an_law : Option Addr} {sl_law : Array (Option Value)} {oc_law kV_law dc_law pm_law cd_law ct_law : Value}
    (a_law : PySem.W.nsIn K mainGlobals ("law" : Str) = some (some (.ref f_law)))
    (l_law : K.lookup f_law = some ⟨oc_law, od_law, .func (PySem.W.fnOf ("law" : Str) ("law" : Str) (defArgs s_law) (defBody s_law) (defScope s_law) .none kV_law dc_law pm_law an_law cd_law ct_law), sl_law⟩)
    (c_law : PySem.W.codeIn K cd_law ("law" : Str) = true)
    (k_law : PySem.W.keepIn K (.ref f_law) = true)
    (n_abs : PySem.W.nsIn K mainGlobals ("abs" : Str) = some none)
    (n_bool : PySem.W.nsIn K mainGlobals ("bool" : Str) = some none)
    (n_int : PySem.W.nsIn K mainGlobals ("int" : Str) = some none)
    (n_isinstance : PySem.W.nsIn K mainGlobals ("isinstance" : Str) = some none)
    (n_len : PySem.W.nsIn K mainGlobals ("len" : Str) = some none)
    (n_list : PySem.W.nsIn K mainGlobals ("list" : Str) = some none)
    (n_min : PySem.W.nsIn K mainGlobals ("min" : Str) = some none)
    (n_range : PySem.W.nsIn K mainGlobals ("range" : Str) = some none)
    (n_str : PySem.W.nsIn K mainGlobals ("str" : Str) = some none)
    (n_tuple : PySem.W.nsIn K mainGlobals ("tuple" : Str) = some none)
    {t_MODULUS : Nat}
    (x_MODULUS : PySem.W.nsIn K mainGlobals ("MODULUS" : Str) = some (some (.int 10000 t_MODULUS)))
    : Nonempty (Tp P w K mg) := by
  have F_pair_value := fun_mk (st := s_pair_value) l_pair_value c_pair_value k_pair_value
  have b_pair_value := F_pair_value.binds (ps := [("kind" : Str), ("left" : Str), ("right" : Str)]) fun _ _ _ _ _ _ us hl => match us, hl with | [_, _, _], _ => rfl
  have F_TextMachine___init := fun_mk (st := s_TextMachine___init) l_TextMachine___init c_TextMachine___init k_TextMachine___init
  have b_TextMachine___init := F_TextMachine___init.binds (ps := [("self" : Str), ("slots" : Str), ("inputs" : Str)]) fun _ _ _ _ _ _ us hl => match us, hl with | [_, _, _], _ => rfl
  have F_TextMachine_perform := fun_mk (st := s_TextMachine_perform) l_TextMachine_perform c_TextMachine_perform k_TextMachine_perform
  have b_TextMachine_perform := F_TextMachine_perform.binds (ps := [("self" : Str), ("instruction" : Str), ("at" : Str)]) fun _ _ _ _ _ _ us hl => match us, hl with | [_, _, _], _ => rfl
  have F_run_program := fun_mk (st := s_run_program) l_run_program c_run_program k_run_program
  have b_run_program := F_run_program.binds (ps := [("code" : Str), ("slots" : Str), ("inputs" : Str)]) fun _ _ _ _ _ _ us hl => match us, hl with | [_, _, _], _ => rfl
  have F_law_draws := fun_mk (st := s_law_draws) l_law_draws c_law_draws k_law_draws
  have b_law_draws := F_law_draws.binds (ps := [("script" : Str)]) fun _ _ _ _ _ _ us hl => match us, hl with | [_], _ => rfl
  have F_law_pick := fun_mk (st := s_law_pick) l_law_pick c_law_pick k_law_pick
  have b_law_pick := F_law_pick.binds (ps := [("draws" : Str), ("many" : Str)]) fun _ _ _ _ _ _ us hl => match us, hl with | [_, _], _ => rfl
  have F_law_same := fun_mk (st := s_law_same) l_law_same c_law_same k_law_same
  have b_law_same := F_law_same.binds (ps := [("actual" : Str), ("due" : Str)]) fun _ _ _ _ _ _ us hl => match us, hl with | [_, _], _ => rfl
  have F_law_number := fun_mk (st := s_law_number) l_law_number c_law_number k_law_number
  have b_law_number := F_law_number.binds (ps := [("draws" : Str)]) fun _ _ _ _ _ _ us hl => match us, hl with | [_], _ => rfl
  have F_law_wide := fun_mk (st := s_law_wide) l_law_wide c_law_wide k_law_wide
  have b_law_wide := F_law_wide.binds (ps := [("draws" : Str), ("many" : Str)]) fun _ _ _ _ _ _ us hl => match us, hl with | [_, _], _ => rfl
  have F_law_item := fun_mk (st := s_law_item) l_law_item c_law_item k_law_item
  have b_law_item := F_law_item.binds (ps := [("draws" : Str), ("made" : Str), ("state" : Str), ("many" : Str), ("deep" : Str)]) fun _ _ _ _ _ _ us hl => match us, hl with | [_, _, _, _, _], _ => rfl
  have F_law_items := fun_mk (st := s_law_items) l_law_items c_law_items k_law_items
  have b_law_items := F_law_items.binds (ps := [("draws" : Str), ("made" : Str), ("state" : Str), ("many" : Str), ("deep" : Str)]) fun _ _ _ _ _ _ us hl => match us, hl with | [_, _, _, _, _], _ => rfl
  have F_law_level := fun_mk (st := s_law_level) l_law_level c_law_level k_law_level
  have b_law_level := F_law_level.binds (ps := [("draws" : Str), ("made" : Str), ("state" : Str), ("goal" : Str), ("many" : Str)]) fun _ _ _ _ _ _ us hl => match us, hl with | [_, _, _, _, _], _ => rfl
  have F_law_over := fun_mk (st := s_law_over) l_law_over c_law_over k_law_over
  have b_law_over := F_law_over.binds (ps := [("draws" : Str), ("made" : Str), ("state" : Str), ("many" : Str), ("deep" : Str), ("kind" : Str)]) fun _ _ _ _ _ _ us hl => match us, hl with | [_, _, _, _, _, _], _ => rfl
  have F_law_step := fun_mk (st := s_law_step) l_law_step c_law_step k_law_step
  have b_law_step := F_law_step.binds (ps := [("world" : Str), ("one" : Str), ("at" : Str)]) fun _ _ _ _ _ _ us hl => match us, hl with | [_, _, _], _ => rfl
  have F_law_due := fun_mk (st := s_law_due) l_law_due c_law_due k_law_due
  have b_law_due := F_law_due.binds (ps := [("orders" : Str), ("given" : Str)]) fun _ _ _ _ _ _ us hl => match us, hl with | [_, _], _ => rfl
  have F_law := fun_mk (st := s_law) l_law c_law k_law
  have b_law := F_law.binds (ps := [("script" : Str)]) fun _ _ _ _ _ _ us hl => match us, hl with | [_], _ => rfl
  exact ⟨{ C_TextMachine := C_TextMachine,
           g_TextMachine := PySem.W.mg_of X G aC_TextMachine,
           cl_TextMachine := ⟨pg_TextMachine, hd_TextMachine, po_TextMachine, sa_TextMachine⟩,
           mk_TextMachine := ⟨mk_TextMachine, kc_TextMachine⟩,
           na_TextMachine_inputs := na_TextMachine_inputs,
           na_TextMachine_slots := na_TextMachine_slots,
           na_TextMachine_stack := na_TextMachine_stack,
           na_TextMachine_pile := na_TextMachine_pile,
           na_TextMachine_said := na_TextMachine_said,
           d_pair_value := ⟨_, _, PySem.W.mg_of X G a_pair_value, F_pair_value, b_pair_value⟩,
           d_TextMachine___init := ⟨_, _, a_TextMachine___init, i_TextMachine___init, F_TextMachine___init, b_TextMachine___init⟩,
           d_TextMachine_perform := ⟨_, _, a_TextMachine_perform, i_TextMachine_perform, F_TextMachine_perform, b_TextMachine_perform⟩,
           d_run_program := ⟨_, _, PySem.W.mg_of X G a_run_program, F_run_program, b_run_program⟩,
           d_law_draws := ⟨_, _, PySem.W.mg_of X G a_law_draws, F_law_draws, b_law_draws⟩,
           d_law_pick := ⟨_, _, PySem.W.mg_of X G a_law_pick, F_law_pick, b_law_pick⟩,
           d_law_same := ⟨_, _, PySem.W.mg_of X G a_law_same, F_law_same, b_law_same⟩,
           d_law_number := ⟨_, _, PySem.W.mg_of X G a_law_number, F_law_number, b_law_number⟩,
           d_law_wide := ⟨_, _, PySem.W.mg_of X G a_law_wide, F_law_wide, b_law_wide⟩,
           d_law_item := ⟨_, _, PySem.W.mg_of X G a_law_item, F_law_item, b_law_item⟩,
           d_law_items := ⟨_, _, PySem.W.mg_of X G a_law_items, F_law_items, b_law_items⟩,
           d_law_level := ⟨_, _, PySem.W.mg_of X G a_law_level, F_law_level, b_law_level⟩,
           d_law_over := ⟨_, _, PySem.W.mg_of X G a_law_over, F_law_over, b_law_over⟩,
           d_law_step := ⟨_, _, PySem.W.mg_of X G a_law_step, F_law_step, b_law_step⟩,
           d_law_due := ⟨_, _, PySem.W.mg_of X G a_law_due, F_law_due, b_law_due⟩,
           d_law := ⟨_, _, PySem.W.mg_of X G a_law, F_law, b_law⟩,
           n_abs := PySem.W.mg_none_of X G n_abs,
           n_bool := PySem.W.mg_none_of X G n_bool,
           n_int := PySem.W.mg_none_of X G n_int,
           n_isinstance := PySem.W.mg_none_of X G n_isinstance,
           n_len := PySem.W.mg_none_of X G n_len,
           n_list := PySem.W.mg_none_of X G n_list,
           n_min := PySem.W.mg_none_of X G n_min,
           n_range := PySem.W.mg_none_of X G n_range,
           n_str := PySem.W.mg_none_of X G n_str,
           n_tuple := PySem.W.mg_none_of X G n_tuple,
           t_MODULUS := t_MODULUS,
           c_MODULUS := PySem.W.mg_of X G x_MODULUS }⟩
section
variable {P : Program} {w : World} {K : PySem.W.Frag} {mg : Str → Option Value} {base : Heap}
theorem item_all (T : Tp P w K mg) : ∀ d, Df P w K mg base "_law_item" (3 * d + 4) [("draws" : Str), ("made" : Str), ("state" : Str), ("many" : Str), ("deep" : Str)] (spItem K d)
  | 0 => ok_law_item (ko := 0) (by omega) T (Df.no T.d_law_over) (ok_law_wide T (ok_law_pick T)) (ok_law_number T (ok_law_pick T)) (ok_law_pick T)
  | d + 1 => ok_law_item (d := d + 1) (ko := 3 * d + 6) (by omega) T (ok_law_over T (ok_law_level T (ok_law_number T (ok_law_pick T)) (ok_law_pick T) (ok_law_wide T (ok_law_pick T))) (ok_law_items T (ok_law_pick T) (item_all T d)) (ok_law_pick T)) (ok_law_wide T (ok_law_pick T)) (ok_law_number T (ok_law_pick T)) (ok_law_pick T)
theorem same_all (T : Tp P w K mg) : ∀ n, Df P w K mg base "_law_same" n [("actual" : Str), ("due" : Str)] (spSame K n)
  | 0 => (Df.no T.d_law_same).imp fun _ _ _ _ ⟨_, _, _, _, z, _⟩ => z
  | n + 1 => ok_law_same T (same_all T n)
theorem law_all (T : Tp P w K mg) {f : Addr} {fd : FuncData} (F : Fun K ("law" : Str) ("law" : Str) s_law f fd) : FnOk P w K mg base CX0 12 f fd [("script" : Str)] (spLaw K) :=
  ok_law T (same_all T 3) (ok_run_program T (ok_TextMachine_perform T (ok_pair_value T)) (ok_TextMachine___init T)) (ok_law_due T (ok_law_step T)) (ok_law_pick T) (ok_law_number T (ok_law_pick T)) (item_all T 2) (ok_law_draws T) F
end

theorem fd_law {K : PySem.W.Frag} {f : Addr} {fd : FuncData} (F : Fun K ("law" : Str) ("law" : Str) s_law f fd) (s : Shared) (v : Value) : BindsTo s fd ⟨[v], []⟩ [(("script" : Str), v)] := by
  obtain ⟨_, _, _, _, _, _, _, _, _, rfl, _⟩ := F.ex
  exact .of_eq rfl
theorem walk {l : PySem.W.OpenLaw} {q : Program} {loose : List Str} {XP : (Str → Option Value) → Heap → Prop} {YP : World → Heap → Prop} {d : DefRec} {K : Params → PySem.W.Frag} (hn : l.most = some 63) (hdf : d.params.defaults = [])
    (hY : ∀ (w : World) (h : Heap), YP w h → (K w.params).In h) (hnm : d.name = ("law" : Str))
    (F : ∀ (w : World) (mg : Str → Option Value) (h : Heap), (K w.params).In h → h.Ns mainGlobals mg → Nonempty (Tp l.prog w (K w.params) mg)) :
    PySem.W.WalkO q loose XP YP l.row.toRowW d [] (fun f vs => PySem.call f vs) :=
  L2.walk_of (n := 63) (k := 12) (x := "script") (CX := fun _ => CX0) (sp := fun w => spLaw (K w.params)) hn (by decide) hdf ⟨rfl, by decide, by decide⟩ hY (fun w mg fa h KX G hmg => by
    obtain ⟨T⟩ := F w mg h KX G
    obtain ⟨f, fd, hm, Fl, b⟩ := T.d_law
    rw [hnm] at hmg
    have e := hmg.symm.trans hm
    cases e
    exact ⟨fd, fd_law Fl, fun base _ _ => law_all T Fl⟩) (fun _ H a ns hl hO hS => ⟨a, ns, rfl, fz_of hO hS, hl, fun _ => rfl⟩) fun _ _ _ _ _ z => z
end M28
open PySem PySem.W PyProof.Rows
set_option maxRecDepth 100000 in
set_option maxHeartbeats 0 in
theorem PySem.Challenge.cw_codefromcode_k28_text_machine_steps_holds : PySem.Challenge.rw_codefromcode_k28_text_machine_steps.Holds := by
  w_on; o_law; k_head; (case hw => w_witness2)
  k_fill
  refine M28.walk (l := PySem.Challenge.rw_codefromcode_k28_text_machine_steps) rfl rfl (fun w h Y => PySem.W.kIn_of Y) rfl ?F
  case F =>
    intro w mg h KX G
    refine' M28.tp_mk KX G ?aC_TextMachine ?pg_TextMachine ?hd_TextMachine ?po_TextMachine ?sa_TextMachine ?mk_TextMachine ?kc_TextMachine ?na_TextMachine_inputs ?na_TextMachine_slots ?na_TextMachine_stack ?na_TextMachine_pile ?na_TextMachine_said ?a_pair_value ?l_pair_value ?c_pair_value ?k_pair_value ?a_TextMachine___init ?i_TextMachine___init ?l_TextMachine___init ?c_TextMachine___init ?k_TextMachine___init ?a_TextMachine_perform ?i_TextMachine_perform ?l_TextMachine_perform ?c_TextMachine_perform ?k_TextMachine_perform ?a_run_program ?l_run_program ?c_run_program ?k_run_program ?a_law_draws ?l_law_draws ?c_law_draws ?k_law_draws ?a_law_pick ?l_law_pick ?c_law_pick ?k_law_pick ?a_law_same ?l_law_same ?c_law_same ?k_law_same ?a_law_number ?l_law_number ?c_law_number ?k_law_number ?a_law_wide ?l_law_wide ?c_law_wide ?k_law_wide ?a_law_item ?l_law_item ?c_law_item ?k_law_item ?a_law_items ?l_law_items ?c_law_items ?k_law_items ?a_law_level ?l_law_level ?c_law_level ?k_law_level ?a_law_over ?l_law_over ?c_law_over ?k_law_over ?a_law_step ?l_law_step ?c_law_step ?k_law_step ?a_law_due ?l_law_due ?c_law_due ?k_law_due ?a_law ?l_law ?c_law ?k_law ?n_abs ?n_bool ?n_int ?n_isinstance ?n_len ?n_list ?n_min ?n_range ?n_str ?n_tuple ?x_MODULUS
    (case aC_TextMachine => k_is)
    (case pg_TextMachine => k_is)
    (case hd_TextMachine => k_is)
    (case po_TextMachine => k_is)
    (case sa_TextMachine => k_is)
    (case mk_TextMachine => k_is)
    (case kc_TextMachine => k_is)
    (case na_TextMachine_inputs => k_is)
    (case na_TextMachine_slots => k_is)
    (case na_TextMachine_stack => k_is)
    (case na_TextMachine_pile => k_is)
    (case na_TextMachine_said => k_is)
    (case a_pair_value => k_is)
    (case l_pair_value => k_is)
    (case c_pair_value => k_is)
    (case k_pair_value => k_is)
    (case a_TextMachine___init => k_is)
    (case i_TextMachine___init => k_is)
    (case l_TextMachine___init => k_is)
    (case c_TextMachine___init => k_is)
    (case k_TextMachine___init => k_is)
    (case a_TextMachine_perform => k_is)
    (case i_TextMachine_perform => k_is)
    (case l_TextMachine_perform => k_is)
    (case c_TextMachine_perform => k_is)
    (case k_TextMachine_perform => k_is)
    (case a_run_program => k_is)
    (case l_run_program => k_is)
    (case c_run_program => k_is)
    (case k_run_program => k_is)
    (case a_law_draws => k_is)
    (case l_law_draws => k_is)
    (case c_law_draws => k_is)
    (case k_law_draws => k_is)
    (case a_law_pick => k_is)
    (case l_law_pick => k_is)
    (case c_law_pick => k_is)
    (case k_law_pick => k_is)
    (case a_law_same => k_is)
    (case l_law_same => k_is)
    (case c_law_same => k_is)
    (case k_law_same => k_is)
    (case a_law_number => k_is)
    (case l_law_number => k_is)
    (case c_law_number => k_is)
    (case k_law_number => k_is)
    (case a_law_wide => k_is)
    (case l_law_wide => k_is)
    (case c_law_wide => k_is)
    (case k_law_wide => k_is)
    (case a_law_item => k_is)
    (case l_law_item => k_is)
    (case c_law_item => k_is)
    (case k_law_item => k_is)
    (case a_law_items => k_is)
    (case l_law_items => k_is)
    (case c_law_items => k_is)
    (case k_law_items => k_is)
    (case a_law_level => k_is)
    (case l_law_level => k_is)
    (case c_law_level => k_is)
    (case k_law_level => k_is)
    (case a_law_over => k_is)
    (case l_law_over => k_is)
    (case c_law_over => k_is)
    (case k_law_over => k_is)
    (case a_law_step => k_is)
    (case l_law_step => k_is)
    (case c_law_step => k_is)
    (case k_law_step => k_is)
    (case a_law_due => k_is)
    (case l_law_due => k_is)
    (case c_law_due => k_is)
    (case k_law_due => k_is)
    (case a_law => k_is)
    (case l_law => k_is)
    (case c_law => k_is)
    (case k_law => k_is)
    (case n_abs => k_is)
    (case n_bool => k_is)
    (case n_int => k_is)
    (case n_isinstance => k_is)
    (case n_len => k_is)
    (case n_list => k_is)
    (case n_min => k_is)
    (case n_range => k_is)
    (case n_str => k_is)
    (case n_tuple => k_is)
    (case x_MODULUS => k_is)
