import PyProof.Rows.All
import Wide.All
import OpenK.AllK
import Wide.FinOn
import HandS.ForMost
import HandS.Exc
import HandS.WordsExc
import HandS.Defaults
import HandS.Wide
import HandS.WideBits
import HandS.IsInst
import HandS.Codes
import HandS.Property
import HandS.RevRange
import HandS.More
import HandS.Head0
import HandS.Head1
import HandS.Head2
import HandS.HeadEnd
import HandS.HeadHook1
import HandS.HeadHook2
import HandS.HeadHook3
import HandS.HeadHook4
import KE.KOpsOwn
import HandS.TryOnly
import PyProof.InstNe
import PySem.Challenge.RW_lostinrows_k01_whole_exact_order
set_option Elab.async false
set_option linter.all false
set_option maxRecDepth 100000
set_option maxHeartbeats 4000000
/-! base layer: what stays between two heaps, short steps for readings, defs by their places -/
namespace Z
open PySem PySem.Spec PyProof.Rows L2

/-! ### heaps -/
/-- the shape of a law's source: four ints and the script's copy; such a list may change, all else stays -/
def srcL : List V → Prop
  | [.int _, .int _, .int _, .int _, .ref _] => True
  | _ => False
def stable : HO → Prop
  | .lst xs => ¬ srcL xs
  | _ => True
def Ext (H H' : Hp) : Prop := ∀ b o, stable o → H b = some o → H' b = some o
theorem Ext.refl (H : Hp) : Ext H H := fun _ _ _ h => h
theorem Ext.trans {H H1 H2 : Hp} (a : Ext H H1) (b : Ext H1 H2) : Ext H H2 := fun c o s h => b c o s (a c o s h)
theorem ext_of {H H1 : Hp} (a : Same H H1) : Ext H H1 := fun c o _ h => a c o h
theorem same_new {H : Hp} {p : Addr} {o : HO} (h : H p = none) : Same H (upd H p o) := fun b u e => by
  rw [upd_ne (ne_of_none e h)]; exact e
theorem stab_len {xs : List V} (h : xs.length ≠ 5) : stable (.lst xs) := fun s => by
  unfold srcL at s
  split at s
  · exact h rfl
  · exact s
theorem stab_int (ns : List Int) : stable (.lst (ns.map V.int)) := fun s => by
  unfold srcL at s
  split at s
  · rename_i e
    match ns, e with
    | [a, b, c, d, f], e => simp at e
  · exact s
theorem stab_str (ns : List Str) : stable (.lst (ns.map V.str)) := fun s => by
  unfold srcL at s
  split at s
  · rename_i e
    match ns, e with
    | a :: l, e => simp at e
  · exact s
theorem stab_ref (ns : List Addr) : stable (.lst (ns.map V.ref)) := fun s => by
  unfold srcL at s
  split at s
  · rename_i e
    match ns, e with
    | a :: l, e => simp at e
  · exact s
theorem ext_sqL {K : PySem.W.Frag} {H H' : Hp} {a : Addr} {xs : List V} (hs : stable (.lst xs)) (e : Ext H H') (h : SqL K H a xs) : SqL K H' a xs := by
  rcases h with (h | ⟨o, h⟩) | h
  · exact .inl (.inl (e _ _ hs h))
  · exact .inl (.inr ⟨o, e _ _ trivial h⟩)
  · exact .inr h
theorem ext_sqT {K : PySem.W.Frag} {H H' : Hp} {a : Addr} {xs : List V} (e : Ext H H') (h : SqT K H a xs) : SqT K H' a xs := by
  rcases h with (h | ⟨o, h⟩) | h
  · exact .inl (.inl (e _ _ trivial h))
  · exact .inl (.inr ⟨o, e _ _ trivial h⟩)
  · exact .inr h
theorem same_sqT {K : PySem.W.Frag} {H H' : Hp} {a : Addr} {xs : List V} (e : Same H H') (h : SqT K H a xs) : SqT K H' a xs := ext_sqT (ext_of e) h

/-! ### the law's source -/
/-- at a: a source, its place not below zero -/
def IsSrc (H : Hp) (a : Addr) : Prop := ∃ (i x y z : Int) (c : Addr) (ns : List Int), H a = some (.lst [.int i, .int x, .int y, .int z, .ref c]) ∧ H c = some (.lst (ns.map V.int)) ∧ 0 ≤ i
theorem same_src {H H' : Hp} {a : Addr} (e : Same H H') (h : IsSrc H a) : IsSrc H' a := by
  obtain ⟨i, x, y, z, c, ns, h1, h2, h3⟩ := h
  exact ⟨i, x, y, z, c, ns, e _ _ h1, e _ _ h2, h3⟩

/-! ### sizes -/
def Sz (n : Nat) (i : Int) : Prop := i.natAbs < 2 ^ n
theorem Sz.mono {n m : Nat} {i : Int} (h : Sz n i) (l : n ≤ m) : Sz m i := Nat.lt_of_lt_of_le h (Nat.pow_le_pow_right (by decide) l)
theorem Sz.mul {a b : Nat} {i j : Int} (h : Sz a i) (g : Sz b j) : Sz (a + b) (i * j) := wide_lt h g
theorem Sz.add {a : Nat} {i j : Int} (h : Sz a i) (g : Sz a j) : Sz (a + 1) (i + j) := by
  unfold Sz at *; rw [Nat.pow_succ]; omega
theorem Sz.sub {a : Nat} {i j : Int} (h : Sz a i) (g : Sz a j) : Sz (a + 1) (i - j) := by
  unfold Sz at *; rw [Nat.pow_succ]; omega
theorem Sz.neg {a : Nat} {i : Int} (h : Sz a i) : Sz a (-i) := by unfold Sz at *; omega
theorem Sz.le {a : Nat} {i j : Int} (h : Sz a j) (l : i.natAbs ≤ j.natAbs) : Sz a i := Nat.lt_of_le_of_lt l h
theorem Sz.pow {a : Nat} {i : Int} (h : Sz a i) : ∀ n : Nat, Sz (a * n + 1) (i ^ n)
  | 0 => by show (i ^ 0).natAbs < _; simp
  | n + 1 => by
    have q := (Sz.pow h n).mul h
    rw [Int.pow_succ]
    exact q.mono (by rw [Nat.mul_succ]; omega)
theorem mulx {a b : Nat} {i j : Int} (h : Sz a i) (g : Sz b j) (l : a + b ≤ 134217728 := by decide) : CMulX i j := mulx_ok h g l
theorem divw {b : Nat} {i j : Int} (h : 0 < j) (g : Sz b j) (l0 : 0 < b := by decide) (l : b ≤ 9000 := by decide) : CDivW i j := wide_div h g l0 l
theorem divp {b : Nat} {i j : Int} (h : 0 < j) (g : Sz b j) (l0 : 0 < b := by decide) (l : b ≤ 9000 := by decide) : CDivP i j := ⟨h, PyProof.noPylong_of_log2 (wide_div (i := i) h g l0 l).2⟩

/-! ### names of a def -/
def okName (x : Str) : Bool := !(x == ("__debug__" : Str)) && !(x == ("__classdict__" : Str)) && !(x == ("__name__" : Str))
def visB (N : List Str) (sc : Scope) : Bool := N.all fun x => okName x && (match sc.names.lookup x with
  | some .local => true
  | some .cell => true
  | some .free => true
  | _ => false)
def glB (G : List Str) (sc : Scope) : Bool := G.all fun x => okName x && (match sc.names.lookup x with
  | some .globalImplicit => true
  | _ => false)
theorem okName_of {x : Str} (h : okName x = true) : (x == ("__debug__" : Str)) = false ∧ (x == ("__classdict__" : Str)) = false ∧ x ≠ "__name__" := by
  unfold okName at h
  simp only [Bool.and_eq_true, Bool.not_eq_true'] at h
  exact ⟨h.1.1, h.1.2, by simpa using h.2⟩
theorem vis_of {N : List Str} {sc : Scope} (h : visB N sc = true) {i : Nat} {x : Str} (hN : N[i]? = some x) : Vis sc x ∧ (x == ("__debug__" : Str)) = false ∧ (x == ("__classdict__" : Str)) = false := by
  have q := List.all_eq_true.mp h x (List.mem_of_getElem? hN)
  simp only [Bool.and_eq_true] at q
  obtain ⟨q1, q2⟩ := q
  refine ⟨?_, (okName_of q1).1, (okName_of q1).2.1⟩
  revert q2
  cases e : sc.names.lookup x with
  | none => intro q2; cases q2
  | some k => cases k <;> first | (intro _; exact .inl e) | (intro _; exact .inr (.inl e)) | (intro _; exact .inr (.inr e)) | (intro q2; cases q2)
theorem gl_of {G : List Str} {sc : Scope} (h : glB G sc = true) {i : Nat} {x : Str} (hG : G[i]? = some x) : sc.names.lookup x = some .globalImplicit ∧ (x == ("__debug__" : Str)) = false ∧ x ≠ "__name__" := by
  have q := List.all_eq_true.mp h x (List.mem_of_getElem? hG)
  simp only [Bool.and_eq_true] at q
  obtain ⟨q1, q2⟩ := q
  refine ⟨?_, (okName_of q1).1, (okName_of q1).2.2⟩
  revert q2
  cases e : sc.names.lookup x with
  | none => intro q2; cases q2
  | some k => cases k <;> first | (intro _; rfl) | (intro q2; cases q2)
section
variable {X : Cx} {x : Str} {pos p : Pos} {G : List Str}
theorem pn (hv : visB X.N X.env.scope = true) (i : Nat) (hN : X.N[i]? = some x := by rfl) : PE X (.Name x pos) (tVar i) :=
  let q := vis_of hv hN
  pe_var hN q.1 q.2.1 q.2.2
theorem pgi {i : Int} (hg : glB G X.env.scope = true) (n : Nat) (hm : ∃ t, X.mg x = some (.int i t)) (hx : G[n]? = some x := by rfl) : PE X (.Name x pos) (tC (.int i)) := by
  obtain ⟨t, e⟩ := hm
  exact pe_glob (gl_of hg hx).1 e ⟨t, rfl⟩ (gl_of hg hx).2.1
theorem pgs {z : Str} (hg : glB G X.env.scope = true) (n : Nat) (hm : ∃ t, X.mg x = some (.str z t)) (hx : G[n]? = some x := by rfl) : PE X (.Name x pos) (tC (.str z)) := by
  obtain ⟨t, e⟩ := hm
  exact pe_glob (gl_of hg hx).1 e ⟨t, rfl⟩ (gl_of hg hx).2.1
theorem pgr {a : Addr} (hg : glB G X.env.scope = true) (n : Nat) (hm : X.mg x = some (.ref a)) (hx : G[n]? = some x := by rfl) : PE X (.Name x pos) (tC (.ref a)) := pe_glob (gl_of hg hx).1 hm rfl (gl_of hg hx).2.1
theorem pgt {T : String} (hg : glB G X.env.scope = true) (n : Nat) (hm : X.mg x = none) (hv : bootBuiltins x = some (.type T)) (hx : G[n]? = some x := by rfl) : PE X (.Name x pos) (tC (.ty T)) := pe_bltn (gl_of hg hx).1 hm hv rfl (gl_of hg hx).2.2 (gl_of hg hx).2.1
theorem pcB {id : String} {r : List V → Hp → VK → Prop} {e : Expr} {es : List Expr} {t : TA} (hc : CallR X (.builtin id) r) (hg : glB G X.env.scope = true) (n : Nat) (hm : X.mg x = none) (hv : bootBuiltins x = some (.builtin id)) (ha : PA X (e :: es) t) (hx : G[n]? = some x := by rfl)
    (he : starEach (e :: es) X.env = (false, eval e X.env) :: starEach es X.env := by rfl) (hpl : (backTo pos (starEach es X.env)).any (·.1) = false := by rfl) : PE X (.Call (.Name x p) (e :: es) [] pos) (tCB r t) :=
  pe_callB hc (gl_of hg hx).1 hm hv ha (gl_of hg hx).2.2 (gl_of hg hx).2.1 he hpl
theorem pcT {T : String} {r : List V → Hp → VK → Prop} {e : Expr} {es : List Expr} {t : TA} (hc : CallR X (.type T) r) (hg : glB G X.env.scope = true) (n : Nat) (hm : X.mg x = none) (hv : bootBuiltins x = some (.type T)) (ha : PA X (e :: es) t) (hx : G[n]? = some x := by rfl)
    (he : starEach (e :: es) X.env = (false, eval e X.env) :: starEach es X.env := by rfl) (hpl : (backTo pos (starEach es X.env)).any (·.1) = false := by rfl) : PE X (.Call (.Name x p) (e :: es) [] pos) (tCB r t) :=
  pe_callTy hc (gl_of hg hx).1 hm hv ha (gl_of hg hx).2.2 (gl_of hg hx).2.1 he hpl
end

/-! ### a def that keeps its promise, with what a caller wants of it -/
def OkD (P : Program) (w : World) (K : PySem.W.Frag) (mg : Str → Option Value) (base : Heap) (k : Nat) (f : Addr) (ps : List Str) (dvs : List V) (sp : Sp) : Prop :=
  ∃ (fd : FuncData) (ds : List Value), PySem.W.keepIn K (.ref f) = true ∧ Binds K fd ps ds ∧ Vals dvs ds ∧ FnOk P w K mg base (L2.CX P w) k f fd ps sp
theorem OkD.mono {P : Program} {w : World} {K : PySem.W.Frag} {mg : Str → Option Value} {base : Heap} {j k : Nat} {f : Addr} {ps : List Str} {dvs : List V} {sp : Sp} (F : OkD P w K mg base j f ps dvs sp) (h : j ≤ k) : OkD P w K mg base k f ps dvs sp := by
  obtain ⟨fd, ds, a, b, c, d⟩ := F
  exact ⟨fd, ds, a, b, c, d.mono h⟩
/-- nothing is raised -/
abbrev EF : XK := fun _ _ _ => False
theorem passF {P : Program} {w : World} {X : Cx} (h : ∀ l H s e s', L2.CX P w l H s EF e s' → False) : Passes (L2.CX P w) X EF := fun _ _ _ _ _ _ _ q => (h _ _ _ _ _ q).elim
end Z


/-! ### steps of readings -/
namespace Z
open PySem PySem.Spec L2
open PyProof.Rows hiding St
section
variable {D : Ends} {σ : St} {H : Hp} {Q : VK} {t u : TS} {te ta tb : TE} {g : TG} {v x y : V} {tt tu : TT} {ar : TA} {i j : Int} {a b : Bool} {A B P : Prop}
theorem i_seq (h : t { D with nx := u D } σ H) : tSeq t u D σ H := h
theorem i_nx {F bk ct : St → Hp → Prop} {rt : VK} (h : F σ H) : (Ends.mk F rt bk ct).nx σ H := h
theorem i_next (h : D.nx σ H) : tNext D σ H := h
theorem i_asg (h : te σ H fun x H1 => g x σ H1 D.nx) : tAsg te g D σ H := h
theorem i_drop (h : te σ H fun _ H1 => D.nx σ H1) : tDrop te D σ H := h
theorem i_ret (h : te σ H D.rt) : tRet te D σ H := h
theorem i_retN (h : D.rt .non H) : tRetN D σ H := h
theorem i_if (h : tt σ H fun b H1 => if b = true then t D σ H1 else u D σ H1) : tIfS tt t u D σ H := h
theorem i_brk (h : D.bk σ H) : tBreak D σ H := h
theorem i_cnt (h : D.ct σ H) : tCont D σ H := h
theorem i_c (h : Q v H) : tC v σ H Q := h
theorem i_op {r : R2} (h : ta σ H fun x H1 => tb σ H1 fun y H2 => r x y H2 Q) : tOp r ta tb σ H Q := h
theorem i_un {r : V → Hp → VK → Prop} (h : ta σ H fun x H1 => r x H1 Q) : tUn r ta σ H Q := h
theorem i_I0 {f : Int → Int → V} (h : Q (f i j) H) : rI0 f (.int i) (.int j) H Q := ⟨i, j, rfl, rfl, h⟩
theorem i_I {C : Int → Int → Prop} {f : Int → Int → V} (c : C i j) (h : Q (f i j) H) : rI C f (.int i) (.int j) H Q := ⟨i, j, rfl, rfl, c, h⟩
theorem i_U {f : Int → V} (h : Q (f i) H) : rU f (.int i) H Q := ⟨i, rfl, h⟩
theorem i_test {R : Bool → Hp → Prop} (h : te σ H fun x H' => ∃ k, x = .bl k ∧ R k H') : tTest te σ H R := h
theorem i_tB {R : Bool → Hp → Prop} (h : te σ H fun x H' => ∃ k, x = .bl k ∧ R k H') : tB te σ H R := h
theorem i_bl {F : Bool → Prop} (h : F a) : ∃ k, V.bl a = .bl k ∧ F k := ⟨a, rfl, h⟩
theorem i_and {R : Bool → Hp → Prop} (h : tt σ H fun c H1 => if c = true then tu σ H1 R else R false H1) : tAnd tt tu σ H R := h
theorem i_or {R : Bool → Hp → Prop} (h : tt σ H fun c H1 => if c = true then R true H1 else tu σ H1 R) : tOr tt tu σ H R := h
theorem i_not {R : Bool → Hp → Prop} (h : tt σ H fun c H1 => R (!c) H1) : tNot tt σ H R := h
theorem i_andV (h : ta σ H fun x H1 => ∃ c, x = .bl c ∧ if c = true then tb σ H1 Q else Q (.bl false) H1) : tAndV ta tb σ H Q := h
theorem i_orV (h : ta σ H fun x H1 => ∃ c, x = .bl c ∧ if c = true then Q (.bl true) H1 else tb σ H1 Q) : tOrV ta tb σ H Q := h
theorem i_notV (h : ta σ H fun x H1 => ∃ c, x = .bl c ∧ Q (.bl (!c)) H1) : tNotV ta σ H Q := h
theorem i_ifE (h : tt σ H fun c H1 => if c = true then ta σ H1 Q else tb σ H1 Q) : tIf tt ta tb σ H Q := h
theorem i_blV {F : Bool → Prop} (h : F a) : ∃ c, V.bl a = .bl c ∧ F c := ⟨a, rfl, h⟩
theorem i_ite [Decidable P] (h1 : P → A) (h2 : ¬ P → B) : if decide P = true then A else B := by
  by_cases h : P
  · rw [if_pos (decide_eq_true h)]; exact h1 h
  · rw [if_neg (by simp [h])]; exact h2 h
theorem i_iteN [Decidable P] (h1 : ¬ P → A) (h2 : P → B) : if (!decide P) = true then A else B := by
  by_cases h : P
  · rw [if_neg (by simp [h])]; exact h2 h
  · rw [if_pos (by simp [h])]; exact h1 h
theorem i_iteB (h1 : a = true → A) (h2 : a = false → B) : if a = true then A else B := by
  cases a
  · rw [if_neg (by decide)]; exact h2 rfl
  · rw [if_pos rfl]; exact h1 rfl
theorem i_iteT (h : A) : if true = true then A else B := by rw [if_pos rfl]; exact h
theorem i_iteF (h : B) : if false = true then A else B := by rw [if_neg (by decide)]; exact h
theorem i_iteNT (h : B) : if (!true) = true then A else B := by rw [if_neg (by decide)]; exact h
theorem i_iteNF (h : A) : if (!false) = true then A else B := by rw [if_pos (by decide)]; exact h
theorem i_cons {tr : TA} {R : List V → Hp → Prop} (h : te σ H fun x H1 => tr σ H1 fun xs H2 => R (x :: xs) H2) : tCons te tr σ H R := h
theorem i_nil {R : List V → Hp → Prop} (h : R [] H) : tNil σ H R := h
theorem i_call {sp : Sp} {dvs : List V} {E : XK} (h : ar σ H fun vs H1 => sp (vs ++ dvs) H1 Q E) : tCall sp dvs E ar σ H Q := h
theorem i_cb {r : List V → Hp → VK → Prop} (h : ar σ H fun vs H1 => r vs H1 Q) : tCB r ar σ H Q := h
def kLst (Q : VK) : List V → Hp → Prop := fun xs H1 => xs.length ≤ sizeLine ∧ ∀ p, H1 p = none → Q (.ref p) (upd H1 p (.lst xs))
def kTup (Q : VK) : List V → Hp → Prop := fun xs H1 => xs.length ≤ sizeLine ∧ ∀ p, H1 p = none → Q (.ref p) (upd H1 p (.tup xs))
theorem i_lst (h : ar σ H (kLst Q)) : tLst ar σ H Q := h
theorem i_tup (h : ar σ H (kTup Q)) : tTup ar σ H Q := h
theorem i_kLst {xs : List V} (l : xs.length ≤ 100000) (h : ∀ p H2, H p = none → Same H H2 → H2 p = some (.lst xs) → Q (.ref p) H2) : kLst Q xs H :=
  ⟨Nat.le_trans l (by decide), fun p hp => h p _ hp (same_new hp) upd_same⟩
theorem i_kTup {xs : List V} (l : xs.length ≤ 100000) (h : ∀ p H2, H p = none → Same H H2 → H2 p = some (.tup xs) → Q (.ref p) H2) : kTup Q xs H :=
  ⟨Nat.le_trans l (by decide), fun p hp => h p _ hp (same_new hp) upd_same⟩
theorem i_gtup {K : PySem.W.Frag} {n : Nat} {tg : TGs} {p : Addr} {xs : List V} {R : St → Hp → Prop} (hx : SqT K H p xs) (hn : xs.length = n) (h : tg xs σ H R) : gTup K n tg (.ref p) σ H R := ⟨p, xs, rfl, hx, hn, h⟩
theorem i_gcons {tg : TG} {tgs : TGs} {xs : List V} {R : St → Hp → Prop} (h : tg v σ H fun σ' H' => tgs xs σ' H' R) : gCons tg tgs (v :: xs) σ H R := ⟨v, xs, rfl, h⟩
theorem i_gnil {R : St → Hp → Prop} (h : R σ H) : gNil [] σ H R := ⟨rfl, h⟩
theorem i_start {N : List Str} {vs : List V} {σ' : St} (e : start N vs = σ') (h : t D σ' H) : t D (start N vs) H := by rw [e]; exact h
theorem i_cut (M : St → Hp → Prop) (h : t { D with nx := M } σ H) (k : ∀ σ' H', M σ' H' → u D σ' H') : C8.tCut t u D σ H := ⟨M, h, k⟩
def kTurn (W : Nat → St → Hp → Prop) (m : Nat) : St → Hp → Prop := fun σ' H' => ∃ m', m' < m ∧ W m' σ' H'
theorem i_while (W : Nat → St → Hp → Prop) (h0 : ∃ m, W m σ H) (hs : ∀ m σ H, W m σ H → tt σ H fun b H1 => if b = true then ∃ N : St → Hp → Prop, (∀ σ' H', N σ' H' → ∃ m', m' < m ∧ W m' σ' H') ∧ t { D with nx := N, ct := N, bk := D.nx } σ H1 else D.nx σ H1) : tWhile tt t D σ H := ⟨W, h0, hs⟩
theorem i_turn {W : Nat → St → Hp → Prop} {m : Nat} (h : t { D with nx := kTurn W m, ct := kTurn W m, bk := D.nx } σ H) : ∃ N : St → Hp → Prop, (∀ σ' H', N σ' H' → ∃ m', m' < m ∧ W m' σ' H') ∧ t { D with nx := N, ct := N, bk := D.nx } σ H := ⟨_, fun _ _ h => h, h⟩
/-- for k in range(n) -/
theorem i_for1 {R : It → Hp → Prop} (h : ar σ H fun vs H1 => ∃ j : Int, vs = [.int j] ∧ -(2 ^ 62) ≤ j ∧ j < 2 ^ 62 ∧ R (Itr 0 j.toNat) H1) : iRng1 ar σ H R := h
theorem i_rng1 (Pv : Nat → St → Hp → Prop) {j : Int} (b1 : -(2 ^ 62) ≤ j) (b2 : j < 2 ^ 62) (h0 : Pv 0 σ H)
    (hs : ∀ i σ H, i < j.toNat → Pv i σ H → g (.int (0 + i)) σ H fun σ2 H2 => t { D with nx := Pv (i + 1), ct := Pv (i + 1), bk := D.nx } σ2 H2) (hd : ∀ σ H, Pv j.toNat σ H → D.nx σ H) :
    ∃ j' : Int, [V.int j] = [.int j'] ∧ -(2 ^ 62) ≤ j' ∧ j' < 2 ^ 62 ∧ ∃ W : Nat → Nat → St → Hp → Prop, (∃ m, W 0 m σ H) ∧ ∀ i m σ H, W i m σ H →
      ((Itr 0 j'.toNat).stop i H ∧ D.nx σ H) ∨ ((Itr 0 j'.toNat).go i H ∧ ∃ N : St → Hp → Prop, (∀ σ' H', N σ' H' → ∃ m', m' < m ∧ W (i + 1) m' σ' H') ∧ ∀ x H', (Itr 0 j'.toNat).yld i H x H' → g x σ H' fun σ2 H2 => t { D with nx := N, ct := N, bk := D.nx } σ2 H2) :=
  ⟨j, rfl, b1, b2, for_range Pv h0 hs hd⟩
theorem i_for {wi : TI} (h : wi σ H fun J H1 => ∃ W : Nat → Nat → St → Hp → Prop, (∃ m, W 0 m σ H1) ∧ ∀ i m σ H, W i m σ H →
  (J.stop i H ∧ D.nx σ H) ∨ (J.go i H ∧ ∃ N : St → Hp → Prop, (∀ σ' H', N σ' H' → ∃ m', m' < m ∧ W (i + 1) m' σ' H') ∧ ∀ x H', J.yld i H x H' → g x σ H' fun σ2 H2 => t { D with nx := N, ct := N, bk := D.nx } σ2 H2)) : tFor wi g t D σ H := h
theorem i_lt {K : PySem.W.Frag} {R : It → Hp → Prop} (h : te σ H fun x H1 => ∃ a, x = .ref a ∧ (∃ xs, SqL K H1 a xs) ∧ R (Itl K a) H1) : iList K te σ H R := h
theorem i_forL {K : PySem.W.Frag} {p : Addr} {xs : List V} (Pv : Nat → St → Hp → Prop) (hx : SqL K H p xs) (h0 : Pv 0 σ H) (hl : ∀ i σ H, i ≤ xs.length → Pv i σ H → SqL K H p xs)
    (hs : ∀ i x σ H, xs[i]? = some x → Pv i σ H → g x σ H fun σ2 H2 => t { D with nx := Pv (i + 1), ct := Pv (i + 1), bk := D.nx } σ2 H2) (hd : ∀ σ H, Pv xs.length σ H → D.nx σ H) :
    ∃ a, V.ref p = .ref a ∧ (∃ xs, SqL K H a xs) ∧ ∃ W : Nat → Nat → St → Hp → Prop, (∃ m, W 0 m σ H) ∧ ∀ i m σ H, W i m σ H →
      ((Itl K a).stop i H ∧ D.nx σ H) ∨ ((Itl K a).go i H ∧ ∃ N : St → Hp → Prop, (∀ σ' H', N σ' H' → ∃ m', m' < m ∧ W (i + 1) m' σ' H') ∧ ∀ x H', (Itl K a).yld i H x H' → g x σ H' fun σ2 H2 => t { D with nx := N, ct := N, bk := D.nx } σ2 H2) :=
  ⟨p, rfl, ⟨xs, hx⟩, for_list Pv h0 hl hs hd⟩
theorem i_ixL {K : PySem.W.Frag} {p : Addr} {xs : List V} (hx : SqL K H p xs) (e : atI xs i = some v) (h : Q v H) : rIxL K (.ref p) (.int i) H Q := ⟨p, xs, i, v, rfl, rfl, hx, e, h⟩
theorem i_ixT {K : PySem.W.Frag} {p : Addr} {xs : List V} (hx : SqT K H p xs) (e : atI xs i = some v) (h : Q v H) : rIxT K (.ref p) (.int i) H Q := ⟨p, xs, i, v, rfl, rfl, hx, e, h⟩
theorem i_isi {K : PySem.W.Frag} {c : V} {ty tu : Value} (hc : ClsV c tu) (ht : TyX K H x ty) (hk : PySem.W.kitOne K ty tu = some b) (h : Q (.bl b) H) : rIsi K [x, c] H Q := ⟨x, c, ty, tu, b, rfl, hc, ht, hk, h⟩
end

theorem v0 {r : St} {v : V} {H : Hp} {Q : VK} (h : Q v H) : tVar 0 (some v :: r) H Q := ⟨v, rfl, h⟩
theorem n0 {z : Option V} {r : St} {v : V} {H : Hp} {R : St → Hp → Prop} (h : R (some v :: r) H) : gName 0 v (z :: r) H R := h
theorem v1 {a0 : Option V} {r : St} {v : V} {H : Hp} {Q : VK} (h : Q v H) : tVar 1 (a0 :: some v :: r) H Q := ⟨v, rfl, h⟩
theorem n1 {a0 z : Option V} {r : St} {v : V} {H : Hp} {R : St → Hp → Prop} (h : R (a0 :: some v :: r) H) : gName 1 v (a0 :: z :: r) H R := h
theorem v2 {a0 a1 : Option V} {r : St} {v : V} {H : Hp} {Q : VK} (h : Q v H) : tVar 2 (a0 :: a1 :: some v :: r) H Q := ⟨v, rfl, h⟩
theorem n2 {a0 a1 z : Option V} {r : St} {v : V} {H : Hp} {R : St → Hp → Prop} (h : R (a0 :: a1 :: some v :: r) H) : gName 2 v (a0 :: a1 :: z :: r) H R := h
theorem v3 {a0 a1 a2 : Option V} {r : St} {v : V} {H : Hp} {Q : VK} (h : Q v H) : tVar 3 (a0 :: a1 :: a2 :: some v :: r) H Q := ⟨v, rfl, h⟩
theorem n3 {a0 a1 a2 z : Option V} {r : St} {v : V} {H : Hp} {R : St → Hp → Prop} (h : R (a0 :: a1 :: a2 :: some v :: r) H) : gName 3 v (a0 :: a1 :: a2 :: z :: r) H R := h
theorem v4 {a0 a1 a2 a3 : Option V} {r : St} {v : V} {H : Hp} {Q : VK} (h : Q v H) : tVar 4 (a0 :: a1 :: a2 :: a3 :: some v :: r) H Q := ⟨v, rfl, h⟩
theorem n4 {a0 a1 a2 a3 z : Option V} {r : St} {v : V} {H : Hp} {R : St → Hp → Prop} (h : R (a0 :: a1 :: a2 :: a3 :: some v :: r) H) : gName 4 v (a0 :: a1 :: a2 :: a3 :: z :: r) H R := h
theorem v5 {a0 a1 a2 a3 a4 : Option V} {r : St} {v : V} {H : Hp} {Q : VK} (h : Q v H) : tVar 5 (a0 :: a1 :: a2 :: a3 :: a4 :: some v :: r) H Q := ⟨v, rfl, h⟩
theorem n5 {a0 a1 a2 a3 a4 z : Option V} {r : St} {v : V} {H : Hp} {R : St → Hp → Prop} (h : R (a0 :: a1 :: a2 :: a3 :: a4 :: some v :: r) H) : gName 5 v (a0 :: a1 :: a2 :: a3 :: a4 :: z :: r) H R := h
theorem v6 {a0 a1 a2 a3 a4 a5 : Option V} {r : St} {v : V} {H : Hp} {Q : VK} (h : Q v H) : tVar 6 (a0 :: a1 :: a2 :: a3 :: a4 :: a5 :: some v :: r) H Q := ⟨v, rfl, h⟩
theorem n6 {a0 a1 a2 a3 a4 a5 z : Option V} {r : St} {v : V} {H : Hp} {R : St → Hp → Prop} (h : R (a0 :: a1 :: a2 :: a3 :: a4 :: a5 :: some v :: r) H) : gName 6 v (a0 :: a1 :: a2 :: a3 :: a4 :: a5 :: z :: r) H R := h
theorem v7 {a0 a1 a2 a3 a4 a5 a6 : Option V} {r : St} {v : V} {H : Hp} {Q : VK} (h : Q v H) : tVar 7 (a0 :: a1 :: a2 :: a3 :: a4 :: a5 :: a6 :: some v :: r) H Q := ⟨v, rfl, h⟩
theorem n7 {a0 a1 a2 a3 a4 a5 a6 z : Option V} {r : St} {v : V} {H : Hp} {R : St → Hp → Prop} (h : R (a0 :: a1 :: a2 :: a3 :: a4 :: a5 :: a6 :: some v :: r) H) : gName 7 v (a0 :: a1 :: a2 :: a3 :: a4 :: a5 :: a6 :: z :: r) H R := h
theorem v8 {a0 a1 a2 a3 a4 a5 a6 a7 : Option V} {r : St} {v : V} {H : Hp} {Q : VK} (h : Q v H) : tVar 8 (a0 :: a1 :: a2 :: a3 :: a4 :: a5 :: a6 :: a7 :: some v :: r) H Q := ⟨v, rfl, h⟩
theorem n8 {a0 a1 a2 a3 a4 a5 a6 a7 z : Option V} {r : St} {v : V} {H : Hp} {R : St → Hp → Prop} (h : R (a0 :: a1 :: a2 :: a3 :: a4 :: a5 :: a6 :: a7 :: some v :: r) H) : gName 8 v (a0 :: a1 :: a2 :: a3 :: a4 :: a5 :: a6 :: a7 :: z :: r) H R := h
theorem v9 {a0 a1 a2 a3 a4 a5 a6 a7 a8 : Option V} {r : St} {v : V} {H : Hp} {Q : VK} (h : Q v H) : tVar 9 (a0 :: a1 :: a2 :: a3 :: a4 :: a5 :: a6 :: a7 :: a8 :: some v :: r) H Q := ⟨v, rfl, h⟩
theorem n9 {a0 a1 a2 a3 a4 a5 a6 a7 a8 z : Option V} {r : St} {v : V} {H : Hp} {R : St → Hp → Prop} (h : R (a0 :: a1 :: a2 :: a3 :: a4 :: a5 :: a6 :: a7 :: a8 :: some v :: r) H) : gName 9 v (a0 :: a1 :: a2 :: a3 :: a4 :: a5 :: a6 :: a7 :: a8 :: z :: r) H R := h
theorem v10 {a0 a1 a2 a3 a4 a5 a6 a7 a8 a9 : Option V} {r : St} {v : V} {H : Hp} {Q : VK} (h : Q v H) : tVar 10 (a0 :: a1 :: a2 :: a3 :: a4 :: a5 :: a6 :: a7 :: a8 :: a9 :: some v :: r) H Q := ⟨v, rfl, h⟩
theorem n10 {a0 a1 a2 a3 a4 a5 a6 a7 a8 a9 z : Option V} {r : St} {v : V} {H : Hp} {R : St → Hp → Prop} (h : R (a0 :: a1 :: a2 :: a3 :: a4 :: a5 :: a6 :: a7 :: a8 :: a9 :: some v :: r) H) : gName 10 v (a0 :: a1 :: a2 :: a3 :: a4 :: a5 :: a6 :: a7 :: a8 :: a9 :: z :: r) H R := h
theorem v11 {a0 a1 a2 a3 a4 a5 a6 a7 a8 a9 a10 : Option V} {r : St} {v : V} {H : Hp} {Q : VK} (h : Q v H) : tVar 11 (a0 :: a1 :: a2 :: a3 :: a4 :: a5 :: a6 :: a7 :: a8 :: a9 :: a10 :: some v :: r) H Q := ⟨v, rfl, h⟩
theorem n11 {a0 a1 a2 a3 a4 a5 a6 a7 a8 a9 a10 z : Option V} {r : St} {v : V} {H : Hp} {R : St → Hp → Prop} (h : R (a0 :: a1 :: a2 :: a3 :: a4 :: a5 :: a6 :: a7 :: a8 :: a9 :: a10 :: some v :: r) H) : gName 11 v (a0 :: a1 :: a2 :: a3 :: a4 :: a5 :: a6 :: a7 :: a8 :: a9 :: a10 :: z :: r) H R := h
theorem v12 {a0 a1 a2 a3 a4 a5 a6 a7 a8 a9 a10 a11 : Option V} {r : St} {v : V} {H : Hp} {Q : VK} (h : Q v H) : tVar 12 (a0 :: a1 :: a2 :: a3 :: a4 :: a5 :: a6 :: a7 :: a8 :: a9 :: a10 :: a11 :: some v :: r) H Q := ⟨v, rfl, h⟩
theorem n12 {a0 a1 a2 a3 a4 a5 a6 a7 a8 a9 a10 a11 z : Option V} {r : St} {v : V} {H : Hp} {R : St → Hp → Prop} (h : R (a0 :: a1 :: a2 :: a3 :: a4 :: a5 :: a6 :: a7 :: a8 :: a9 :: a10 :: a11 :: some v :: r) H) : gName 12 v (a0 :: a1 :: a2 :: a3 :: a4 :: a5 :: a6 :: a7 :: a8 :: a9 :: a10 :: a11 :: z :: r) H R := h
theorem v13 {a0 a1 a2 a3 a4 a5 a6 a7 a8 a9 a10 a11 a12 : Option V} {r : St} {v : V} {H : Hp} {Q : VK} (h : Q v H) : tVar 13 (a0 :: a1 :: a2 :: a3 :: a4 :: a5 :: a6 :: a7 :: a8 :: a9 :: a10 :: a11 :: a12 :: some v :: r) H Q := ⟨v, rfl, h⟩
theorem n13 {a0 a1 a2 a3 a4 a5 a6 a7 a8 a9 a10 a11 a12 z : Option V} {r : St} {v : V} {H : Hp} {R : St → Hp → Prop} (h : R (a0 :: a1 :: a2 :: a3 :: a4 :: a5 :: a6 :: a7 :: a8 :: a9 :: a10 :: a11 :: a12 :: some v :: r) H) : gName 13 v (a0 :: a1 :: a2 :: a3 :: a4 :: a5 :: a6 :: a7 :: a8 :: a9 :: a10 :: a11 :: a12 :: z :: r) H R := h
theorem v14 {a0 a1 a2 a3 a4 a5 a6 a7 a8 a9 a10 a11 a12 a13 : Option V} {r : St} {v : V} {H : Hp} {Q : VK} (h : Q v H) : tVar 14 (a0 :: a1 :: a2 :: a3 :: a4 :: a5 :: a6 :: a7 :: a8 :: a9 :: a10 :: a11 :: a12 :: a13 :: some v :: r) H Q := ⟨v, rfl, h⟩
theorem n14 {a0 a1 a2 a3 a4 a5 a6 a7 a8 a9 a10 a11 a12 a13 z : Option V} {r : St} {v : V} {H : Hp} {R : St → Hp → Prop} (h : R (a0 :: a1 :: a2 :: a3 :: a4 :: a5 :: a6 :: a7 :: a8 :: a9 :: a10 :: a11 :: a12 :: a13 :: some v :: r) H) : gName 14 v (a0 :: a1 :: a2 :: a3 :: a4 :: a5 :: a6 :: a7 :: a8 :: a9 :: a10 :: a11 :: a12 :: a13 :: z :: r) H R := h
theorem v15 {a0 a1 a2 a3 a4 a5 a6 a7 a8 a9 a10 a11 a12 a13 a14 : Option V} {r : St} {v : V} {H : Hp} {Q : VK} (h : Q v H) : tVar 15 (a0 :: a1 :: a2 :: a3 :: a4 :: a5 :: a6 :: a7 :: a8 :: a9 :: a10 :: a11 :: a12 :: a13 :: a14 :: some v :: r) H Q := ⟨v, rfl, h⟩
theorem n15 {a0 a1 a2 a3 a4 a5 a6 a7 a8 a9 a10 a11 a12 a13 a14 z : Option V} {r : St} {v : V} {H : Hp} {R : St → Hp → Prop} (h : R (a0 :: a1 :: a2 :: a3 :: a4 :: a5 :: a6 :: a7 :: a8 :: a9 :: a10 :: a11 :: a12 :: a13 :: a14 :: some v :: r) H) : gName 15 v (a0 :: a1 :: a2 :: a3 :: a4 :: a5 :: a6 :: a7 :: a8 :: a9 :: a10 :: a11 :: a12 :: a13 :: a14 :: z :: r) H R := h
theorem v16 {a0 a1 a2 a3 a4 a5 a6 a7 a8 a9 a10 a11 a12 a13 a14 a15 : Option V} {r : St} {v : V} {H : Hp} {Q : VK} (h : Q v H) : tVar 16 (a0 :: a1 :: a2 :: a3 :: a4 :: a5 :: a6 :: a7 :: a8 :: a9 :: a10 :: a11 :: a12 :: a13 :: a14 :: a15 :: some v :: r) H Q := ⟨v, rfl, h⟩
theorem n16 {a0 a1 a2 a3 a4 a5 a6 a7 a8 a9 a10 a11 a12 a13 a14 a15 z : Option V} {r : St} {v : V} {H : Hp} {R : St → Hp → Prop} (h : R (a0 :: a1 :: a2 :: a3 :: a4 :: a5 :: a6 :: a7 :: a8 :: a9 :: a10 :: a11 :: a12 :: a13 :: a14 :: a15 :: some v :: r) H) : gName 16 v (a0 :: a1 :: a2 :: a3 :: a4 :: a5 :: a6 :: a7 :: a8 :: a9 :: a10 :: a11 :: a12 :: a13 :: a14 :: a15 :: z :: r) H R := h
theorem v17 {a0 a1 a2 a3 a4 a5 a6 a7 a8 a9 a10 a11 a12 a13 a14 a15 a16 : Option V} {r : St} {v : V} {H : Hp} {Q : VK} (h : Q v H) : tVar 17 (a0 :: a1 :: a2 :: a3 :: a4 :: a5 :: a6 :: a7 :: a8 :: a9 :: a10 :: a11 :: a12 :: a13 :: a14 :: a15 :: a16 :: some v :: r) H Q := ⟨v, rfl, h⟩
theorem n17 {a0 a1 a2 a3 a4 a5 a6 a7 a8 a9 a10 a11 a12 a13 a14 a15 a16 z : Option V} {r : St} {v : V} {H : Hp} {R : St → Hp → Prop} (h : R (a0 :: a1 :: a2 :: a3 :: a4 :: a5 :: a6 :: a7 :: a8 :: a9 :: a10 :: a11 :: a12 :: a13 :: a14 :: a15 :: a16 :: some v :: r) H) : gName 17 v (a0 :: a1 :: a2 :: a3 :: a4 :: a5 :: a6 :: a7 :: a8 :: a9 :: a10 :: a11 :: a12 :: a13 :: a14 :: a15 :: a16 :: z :: r) H R := h
theorem v18 {a0 a1 a2 a3 a4 a5 a6 a7 a8 a9 a10 a11 a12 a13 a14 a15 a16 a17 : Option V} {r : St} {v : V} {H : Hp} {Q : VK} (h : Q v H) : tVar 18 (a0 :: a1 :: a2 :: a3 :: a4 :: a5 :: a6 :: a7 :: a8 :: a9 :: a10 :: a11 :: a12 :: a13 :: a14 :: a15 :: a16 :: a17 :: some v :: r) H Q := ⟨v, rfl, h⟩
theorem n18 {a0 a1 a2 a3 a4 a5 a6 a7 a8 a9 a10 a11 a12 a13 a14 a15 a16 a17 z : Option V} {r : St} {v : V} {H : Hp} {R : St → Hp → Prop} (h : R (a0 :: a1 :: a2 :: a3 :: a4 :: a5 :: a6 :: a7 :: a8 :: a9 :: a10 :: a11 :: a12 :: a13 :: a14 :: a15 :: a16 :: a17 :: some v :: r) H) : gName 18 v (a0 :: a1 :: a2 :: a3 :: a4 :: a5 :: a6 :: a7 :: a8 :: a9 :: a10 :: a11 :: a12 :: a13 :: a14 :: a15 :: a16 :: a17 :: z :: r) H R := h
theorem v19 {a0 a1 a2 a3 a4 a5 a6 a7 a8 a9 a10 a11 a12 a13 a14 a15 a16 a17 a18 : Option V} {r : St} {v : V} {H : Hp} {Q : VK} (h : Q v H) : tVar 19 (a0 :: a1 :: a2 :: a3 :: a4 :: a5 :: a6 :: a7 :: a8 :: a9 :: a10 :: a11 :: a12 :: a13 :: a14 :: a15 :: a16 :: a17 :: a18 :: some v :: r) H Q := ⟨v, rfl, h⟩
theorem n19 {a0 a1 a2 a3 a4 a5 a6 a7 a8 a9 a10 a11 a12 a13 a14 a15 a16 a17 a18 z : Option V} {r : St} {v : V} {H : Hp} {R : St → Hp → Prop} (h : R (a0 :: a1 :: a2 :: a3 :: a4 :: a5 :: a6 :: a7 :: a8 :: a9 :: a10 :: a11 :: a12 :: a13 :: a14 :: a15 :: a16 :: a17 :: a18 :: some v :: r) H) : gName 19 v (a0 :: a1 :: a2 :: a3 :: a4 :: a5 :: a6 :: a7 :: a8 :: a9 :: a10 :: a11 :: a12 :: a13 :: a14 :: a15 :: a16 :: a17 :: a18 :: z :: r) H R := h
theorem v20 {a0 a1 a2 a3 a4 a5 a6 a7 a8 a9 a10 a11 a12 a13 a14 a15 a16 a17 a18 a19 : Option V} {r : St} {v : V} {H : Hp} {Q : VK} (h : Q v H) : tVar 20 (a0 :: a1 :: a2 :: a3 :: a4 :: a5 :: a6 :: a7 :: a8 :: a9 :: a10 :: a11 :: a12 :: a13 :: a14 :: a15 :: a16 :: a17 :: a18 :: a19 :: some v :: r) H Q := ⟨v, rfl, h⟩
theorem n20 {a0 a1 a2 a3 a4 a5 a6 a7 a8 a9 a10 a11 a12 a13 a14 a15 a16 a17 a18 a19 z : Option V} {r : St} {v : V} {H : Hp} {R : St → Hp → Prop} (h : R (a0 :: a1 :: a2 :: a3 :: a4 :: a5 :: a6 :: a7 :: a8 :: a9 :: a10 :: a11 :: a12 :: a13 :: a14 :: a15 :: a16 :: a17 :: a18 :: a19 :: some v :: r) H) : gName 20 v (a0 :: a1 :: a2 :: a3 :: a4 :: a5 :: a6 :: a7 :: a8 :: a9 :: a10 :: a11 :: a12 :: a13 :: a14 :: a15 :: a16 :: a17 :: a18 :: a19 :: z :: r) H R := h
theorem v21 {a0 a1 a2 a3 a4 a5 a6 a7 a8 a9 a10 a11 a12 a13 a14 a15 a16 a17 a18 a19 a20 : Option V} {r : St} {v : V} {H : Hp} {Q : VK} (h : Q v H) : tVar 21 (a0 :: a1 :: a2 :: a3 :: a4 :: a5 :: a6 :: a7 :: a8 :: a9 :: a10 :: a11 :: a12 :: a13 :: a14 :: a15 :: a16 :: a17 :: a18 :: a19 :: a20 :: some v :: r) H Q := ⟨v, rfl, h⟩
theorem n21 {a0 a1 a2 a3 a4 a5 a6 a7 a8 a9 a10 a11 a12 a13 a14 a15 a16 a17 a18 a19 a20 z : Option V} {r : St} {v : V} {H : Hp} {R : St → Hp → Prop} (h : R (a0 :: a1 :: a2 :: a3 :: a4 :: a5 :: a6 :: a7 :: a8 :: a9 :: a10 :: a11 :: a12 :: a13 :: a14 :: a15 :: a16 :: a17 :: a18 :: a19 :: a20 :: some v :: r) H) : gName 21 v (a0 :: a1 :: a2 :: a3 :: a4 :: a5 :: a6 :: a7 :: a8 :: a9 :: a10 :: a11 :: a12 :: a13 :: a14 :: a15 :: a16 :: a17 :: a18 :: a19 :: a20 :: z :: r) H R := h
theorem v22 {a0 a1 a2 a3 a4 a5 a6 a7 a8 a9 a10 a11 a12 a13 a14 a15 a16 a17 a18 a19 a20 a21 : Option V} {r : St} {v : V} {H : Hp} {Q : VK} (h : Q v H) : tVar 22 (a0 :: a1 :: a2 :: a3 :: a4 :: a5 :: a6 :: a7 :: a8 :: a9 :: a10 :: a11 :: a12 :: a13 :: a14 :: a15 :: a16 :: a17 :: a18 :: a19 :: a20 :: a21 :: some v :: r) H Q := ⟨v, rfl, h⟩
theorem n22 {a0 a1 a2 a3 a4 a5 a6 a7 a8 a9 a10 a11 a12 a13 a14 a15 a16 a17 a18 a19 a20 a21 z : Option V} {r : St} {v : V} {H : Hp} {R : St → Hp → Prop} (h : R (a0 :: a1 :: a2 :: a3 :: a4 :: a5 :: a6 :: a7 :: a8 :: a9 :: a10 :: a11 :: a12 :: a13 :: a14 :: a15 :: a16 :: a17 :: a18 :: a19 :: a20 :: a21 :: some v :: r) H) : gName 22 v (a0 :: a1 :: a2 :: a3 :: a4 :: a5 :: a6 :: a7 :: a8 :: a9 :: a10 :: a11 :: a12 :: a13 :: a14 :: a15 :: a16 :: a17 :: a18 :: a19 :: a20 :: a21 :: z :: r) H R := h
theorem v23 {a0 a1 a2 a3 a4 a5 a6 a7 a8 a9 a10 a11 a12 a13 a14 a15 a16 a17 a18 a19 a20 a21 a22 : Option V} {r : St} {v : V} {H : Hp} {Q : VK} (h : Q v H) : tVar 23 (a0 :: a1 :: a2 :: a3 :: a4 :: a5 :: a6 :: a7 :: a8 :: a9 :: a10 :: a11 :: a12 :: a13 :: a14 :: a15 :: a16 :: a17 :: a18 :: a19 :: a20 :: a21 :: a22 :: some v :: r) H Q := ⟨v, rfl, h⟩
theorem n23 {a0 a1 a2 a3 a4 a5 a6 a7 a8 a9 a10 a11 a12 a13 a14 a15 a16 a17 a18 a19 a20 a21 a22 z : Option V} {r : St} {v : V} {H : Hp} {R : St → Hp → Prop} (h : R (a0 :: a1 :: a2 :: a3 :: a4 :: a5 :: a6 :: a7 :: a8 :: a9 :: a10 :: a11 :: a12 :: a13 :: a14 :: a15 :: a16 :: a17 :: a18 :: a19 :: a20 :: a21 :: a22 :: some v :: r) H) : gName 23 v (a0 :: a1 :: a2 :: a3 :: a4 :: a5 :: a6 :: a7 :: a8 :: a9 :: a10 :: a11 :: a12 :: a13 :: a14 :: a15 :: a16 :: a17 :: a18 :: a19 :: a20 :: a21 :: a22 :: z :: r) H R := h
theorem v24 {a0 a1 a2 a3 a4 a5 a6 a7 a8 a9 a10 a11 a12 a13 a14 a15 a16 a17 a18 a19 a20 a21 a22 a23 : Option V} {r : St} {v : V} {H : Hp} {Q : VK} (h : Q v H) : tVar 24 (a0 :: a1 :: a2 :: a3 :: a4 :: a5 :: a6 :: a7 :: a8 :: a9 :: a10 :: a11 :: a12 :: a13 :: a14 :: a15 :: a16 :: a17 :: a18 :: a19 :: a20 :: a21 :: a22 :: a23 :: some v :: r) H Q := ⟨v, rfl, h⟩
theorem n24 {a0 a1 a2 a3 a4 a5 a6 a7 a8 a9 a10 a11 a12 a13 a14 a15 a16 a17 a18 a19 a20 a21 a22 a23 z : Option V} {r : St} {v : V} {H : Hp} {R : St → Hp → Prop} (h : R (a0 :: a1 :: a2 :: a3 :: a4 :: a5 :: a6 :: a7 :: a8 :: a9 :: a10 :: a11 :: a12 :: a13 :: a14 :: a15 :: a16 :: a17 :: a18 :: a19 :: a20 :: a21 :: a22 :: a23 :: some v :: r) H) : gName 24 v (a0 :: a1 :: a2 :: a3 :: a4 :: a5 :: a6 :: a7 :: a8 :: a9 :: a10 :: a11 :: a12 :: a13 :: a14 :: a15 :: a16 :: a17 :: a18 :: a19 :: a20 :: a21 :: a22 :: a23 :: z :: r) H R := h
theorem v25 {a0 a1 a2 a3 a4 a5 a6 a7 a8 a9 a10 a11 a12 a13 a14 a15 a16 a17 a18 a19 a20 a21 a22 a23 a24 : Option V} {r : St} {v : V} {H : Hp} {Q : VK} (h : Q v H) : tVar 25 (a0 :: a1 :: a2 :: a3 :: a4 :: a5 :: a6 :: a7 :: a8 :: a9 :: a10 :: a11 :: a12 :: a13 :: a14 :: a15 :: a16 :: a17 :: a18 :: a19 :: a20 :: a21 :: a22 :: a23 :: a24 :: some v :: r) H Q := ⟨v, rfl, h⟩
theorem n25 {a0 a1 a2 a3 a4 a5 a6 a7 a8 a9 a10 a11 a12 a13 a14 a15 a16 a17 a18 a19 a20 a21 a22 a23 a24 z : Option V} {r : St} {v : V} {H : Hp} {R : St → Hp → Prop} (h : R (a0 :: a1 :: a2 :: a3 :: a4 :: a5 :: a6 :: a7 :: a8 :: a9 :: a10 :: a11 :: a12 :: a13 :: a14 :: a15 :: a16 :: a17 :: a18 :: a19 :: a20 :: a21 :: a22 :: a23 :: a24 :: some v :: r) H) : gName 25 v (a0 :: a1 :: a2 :: a3 :: a4 :: a5 :: a6 :: a7 :: a8 :: a9 :: a10 :: a11 :: a12 :: a13 :: a14 :: a15 :: a16 :: a17 :: a18 :: a19 :: a20 :: a21 :: a22 :: a23 :: a24 :: z :: r) H R := h
theorem nI0 {z : Option V} {r : St} {i : Int} {H : Hp} {R : St → Hp → Prop} (h : ∀ j : Int, j = i → R (some (V.int j) :: r) H) : gName 0 (V.int i) (z :: r) H R := h i rfl
theorem nB0 {z : Option V} {r : St} {i : Bool} {H : Hp} {R : St → Hp → Prop} (h : ∀ j : Bool, j = i → R (some (V.bl j) :: r) H) : gName 0 (V.bl i) (z :: r) H R := h i rfl
theorem nS0 {z : Option V} {r : St} {i : Str} {H : Hp} {R : St → Hp → Prop} (h : ∀ j : Str, j = i → R (some (V.str j) :: r) H) : gName 0 (V.str i) (z :: r) H R := h i rfl
theorem nI1 {a0 z : Option V} {r : St} {i : Int} {H : Hp} {R : St → Hp → Prop} (h : ∀ j : Int, j = i → R (a0 :: some (V.int j) :: r) H) : gName 1 (V.int i) (a0 :: z :: r) H R := h i rfl
theorem nB1 {a0 z : Option V} {r : St} {i : Bool} {H : Hp} {R : St → Hp → Prop} (h : ∀ j : Bool, j = i → R (a0 :: some (V.bl j) :: r) H) : gName 1 (V.bl i) (a0 :: z :: r) H R := h i rfl
theorem nS1 {a0 z : Option V} {r : St} {i : Str} {H : Hp} {R : St → Hp → Prop} (h : ∀ j : Str, j = i → R (a0 :: some (V.str j) :: r) H) : gName 1 (V.str i) (a0 :: z :: r) H R := h i rfl
theorem nI2 {a0 a1 z : Option V} {r : St} {i : Int} {H : Hp} {R : St → Hp → Prop} (h : ∀ j : Int, j = i → R (a0 :: a1 :: some (V.int j) :: r) H) : gName 2 (V.int i) (a0 :: a1 :: z :: r) H R := h i rfl
theorem nB2 {a0 a1 z : Option V} {r : St} {i : Bool} {H : Hp} {R : St → Hp → Prop} (h : ∀ j : Bool, j = i → R (a0 :: a1 :: some (V.bl j) :: r) H) : gName 2 (V.bl i) (a0 :: a1 :: z :: r) H R := h i rfl
theorem nS2 {a0 a1 z : Option V} {r : St} {i : Str} {H : Hp} {R : St → Hp → Prop} (h : ∀ j : Str, j = i → R (a0 :: a1 :: some (V.str j) :: r) H) : gName 2 (V.str i) (a0 :: a1 :: z :: r) H R := h i rfl
theorem nI3 {a0 a1 a2 z : Option V} {r : St} {i : Int} {H : Hp} {R : St → Hp → Prop} (h : ∀ j : Int, j = i → R (a0 :: a1 :: a2 :: some (V.int j) :: r) H) : gName 3 (V.int i) (a0 :: a1 :: a2 :: z :: r) H R := h i rfl
theorem nB3 {a0 a1 a2 z : Option V} {r : St} {i : Bool} {H : Hp} {R : St → Hp → Prop} (h : ∀ j : Bool, j = i → R (a0 :: a1 :: a2 :: some (V.bl j) :: r) H) : gName 3 (V.bl i) (a0 :: a1 :: a2 :: z :: r) H R := h i rfl
theorem nS3 {a0 a1 a2 z : Option V} {r : St} {i : Str} {H : Hp} {R : St → Hp → Prop} (h : ∀ j : Str, j = i → R (a0 :: a1 :: a2 :: some (V.str j) :: r) H) : gName 3 (V.str i) (a0 :: a1 :: a2 :: z :: r) H R := h i rfl
theorem nI4 {a0 a1 a2 a3 z : Option V} {r : St} {i : Int} {H : Hp} {R : St → Hp → Prop} (h : ∀ j : Int, j = i → R (a0 :: a1 :: a2 :: a3 :: some (V.int j) :: r) H) : gName 4 (V.int i) (a0 :: a1 :: a2 :: a3 :: z :: r) H R := h i rfl
theorem nB4 {a0 a1 a2 a3 z : Option V} {r : St} {i : Bool} {H : Hp} {R : St → Hp → Prop} (h : ∀ j : Bool, j = i → R (a0 :: a1 :: a2 :: a3 :: some (V.bl j) :: r) H) : gName 4 (V.bl i) (a0 :: a1 :: a2 :: a3 :: z :: r) H R := h i rfl
theorem nS4 {a0 a1 a2 a3 z : Option V} {r : St} {i : Str} {H : Hp} {R : St → Hp → Prop} (h : ∀ j : Str, j = i → R (a0 :: a1 :: a2 :: a3 :: some (V.str j) :: r) H) : gName 4 (V.str i) (a0 :: a1 :: a2 :: a3 :: z :: r) H R := h i rfl
theorem nI5 {a0 a1 a2 a3 a4 z : Option V} {r : St} {i : Int} {H : Hp} {R : St → Hp → Prop} (h : ∀ j : Int, j = i → R (a0 :: a1 :: a2 :: a3 :: a4 :: some (V.int j) :: r) H) : gName 5 (V.int i) (a0 :: a1 :: a2 :: a3 :: a4 :: z :: r) H R := h i rfl
theorem nB5 {a0 a1 a2 a3 a4 z : Option V} {r : St} {i : Bool} {H : Hp} {R : St → Hp → Prop} (h : ∀ j : Bool, j = i → R (a0 :: a1 :: a2 :: a3 :: a4 :: some (V.bl j) :: r) H) : gName 5 (V.bl i) (a0 :: a1 :: a2 :: a3 :: a4 :: z :: r) H R := h i rfl
theorem nS5 {a0 a1 a2 a3 a4 z : Option V} {r : St} {i : Str} {H : Hp} {R : St → Hp → Prop} (h : ∀ j : Str, j = i → R (a0 :: a1 :: a2 :: a3 :: a4 :: some (V.str j) :: r) H) : gName 5 (V.str i) (a0 :: a1 :: a2 :: a3 :: a4 :: z :: r) H R := h i rfl
theorem nI6 {a0 a1 a2 a3 a4 a5 z : Option V} {r : St} {i : Int} {H : Hp} {R : St → Hp → Prop} (h : ∀ j : Int, j = i → R (a0 :: a1 :: a2 :: a3 :: a4 :: a5 :: some (V.int j) :: r) H) : gName 6 (V.int i) (a0 :: a1 :: a2 :: a3 :: a4 :: a5 :: z :: r) H R := h i rfl
theorem nB6 {a0 a1 a2 a3 a4 a5 z : Option V} {r : St} {i : Bool} {H : Hp} {R : St → Hp → Prop} (h : ∀ j : Bool, j = i → R (a0 :: a1 :: a2 :: a3 :: a4 :: a5 :: some (V.bl j) :: r) H) : gName 6 (V.bl i) (a0 :: a1 :: a2 :: a3 :: a4 :: a5 :: z :: r) H R := h i rfl
theorem nS6 {a0 a1 a2 a3 a4 a5 z : Option V} {r : St} {i : Str} {H : Hp} {R : St → Hp → Prop} (h : ∀ j : Str, j = i → R (a0 :: a1 :: a2 :: a3 :: a4 :: a5 :: some (V.str j) :: r) H) : gName 6 (V.str i) (a0 :: a1 :: a2 :: a3 :: a4 :: a5 :: z :: r) H R := h i rfl
theorem nI7 {a0 a1 a2 a3 a4 a5 a6 z : Option V} {r : St} {i : Int} {H : Hp} {R : St → Hp → Prop} (h : ∀ j : Int, j = i → R (a0 :: a1 :: a2 :: a3 :: a4 :: a5 :: a6 :: some (V.int j) :: r) H) : gName 7 (V.int i) (a0 :: a1 :: a2 :: a3 :: a4 :: a5 :: a6 :: z :: r) H R := h i rfl
theorem nB7 {a0 a1 a2 a3 a4 a5 a6 z : Option V} {r : St} {i : Bool} {H : Hp} {R : St → Hp → Prop} (h : ∀ j : Bool, j = i → R (a0 :: a1 :: a2 :: a3 :: a4 :: a5 :: a6 :: some (V.bl j) :: r) H) : gName 7 (V.bl i) (a0 :: a1 :: a2 :: a3 :: a4 :: a5 :: a6 :: z :: r) H R := h i rfl
theorem nS7 {a0 a1 a2 a3 a4 a5 a6 z : Option V} {r : St} {i : Str} {H : Hp} {R : St → Hp → Prop} (h : ∀ j : Str, j = i → R (a0 :: a1 :: a2 :: a3 :: a4 :: a5 :: a6 :: some (V.str j) :: r) H) : gName 7 (V.str i) (a0 :: a1 :: a2 :: a3 :: a4 :: a5 :: a6 :: z :: r) H R := h i rfl
theorem nI8 {a0 a1 a2 a3 a4 a5 a6 a7 z : Option V} {r : St} {i : Int} {H : Hp} {R : St → Hp → Prop} (h : ∀ j : Int, j = i → R (a0 :: a1 :: a2 :: a3 :: a4 :: a5 :: a6 :: a7 :: some (V.int j) :: r) H) : gName 8 (V.int i) (a0 :: a1 :: a2 :: a3 :: a4 :: a5 :: a6 :: a7 :: z :: r) H R := h i rfl
theorem nB8 {a0 a1 a2 a3 a4 a5 a6 a7 z : Option V} {r : St} {i : Bool} {H : Hp} {R : St → Hp → Prop} (h : ∀ j : Bool, j = i → R (a0 :: a1 :: a2 :: a3 :: a4 :: a5 :: a6 :: a7 :: some (V.bl j) :: r) H) : gName 8 (V.bl i) (a0 :: a1 :: a2 :: a3 :: a4 :: a5 :: a6 :: a7 :: z :: r) H R := h i rfl
theorem nS8 {a0 a1 a2 a3 a4 a5 a6 a7 z : Option V} {r : St} {i : Str} {H : Hp} {R : St → Hp → Prop} (h : ∀ j : Str, j = i → R (a0 :: a1 :: a2 :: a3 :: a4 :: a5 :: a6 :: a7 :: some (V.str j) :: r) H) : gName 8 (V.str i) (a0 :: a1 :: a2 :: a3 :: a4 :: a5 :: a6 :: a7 :: z :: r) H R := h i rfl
theorem nI9 {a0 a1 a2 a3 a4 a5 a6 a7 a8 z : Option V} {r : St} {i : Int} {H : Hp} {R : St → Hp → Prop} (h : ∀ j : Int, j = i → R (a0 :: a1 :: a2 :: a3 :: a4 :: a5 :: a6 :: a7 :: a8 :: some (V.int j) :: r) H) : gName 9 (V.int i) (a0 :: a1 :: a2 :: a3 :: a4 :: a5 :: a6 :: a7 :: a8 :: z :: r) H R := h i rfl
theorem nB9 {a0 a1 a2 a3 a4 a5 a6 a7 a8 z : Option V} {r : St} {i : Bool} {H : Hp} {R : St → Hp → Prop} (h : ∀ j : Bool, j = i → R (a0 :: a1 :: a2 :: a3 :: a4 :: a5 :: a6 :: a7 :: a8 :: some (V.bl j) :: r) H) : gName 9 (V.bl i) (a0 :: a1 :: a2 :: a3 :: a4 :: a5 :: a6 :: a7 :: a8 :: z :: r) H R := h i rfl
theorem nS9 {a0 a1 a2 a3 a4 a5 a6 a7 a8 z : Option V} {r : St} {i : Str} {H : Hp} {R : St → Hp → Prop} (h : ∀ j : Str, j = i → R (a0 :: a1 :: a2 :: a3 :: a4 :: a5 :: a6 :: a7 :: a8 :: some (V.str j) :: r) H) : gName 9 (V.str i) (a0 :: a1 :: a2 :: a3 :: a4 :: a5 :: a6 :: a7 :: a8 :: z :: r) H R := h i rfl
theorem nI10 {a0 a1 a2 a3 a4 a5 a6 a7 a8 a9 z : Option V} {r : St} {i : Int} {H : Hp} {R : St → Hp → Prop} (h : ∀ j : Int, j = i → R (a0 :: a1 :: a2 :: a3 :: a4 :: a5 :: a6 :: a7 :: a8 :: a9 :: some (V.int j) :: r) H) : gName 10 (V.int i) (a0 :: a1 :: a2 :: a3 :: a4 :: a5 :: a6 :: a7 :: a8 :: a9 :: z :: r) H R := h i rfl
theorem nB10 {a0 a1 a2 a3 a4 a5 a6 a7 a8 a9 z : Option V} {r : St} {i : Bool} {H : Hp} {R : St → Hp → Prop} (h : ∀ j : Bool, j = i → R (a0 :: a1 :: a2 :: a3 :: a4 :: a5 :: a6 :: a7 :: a8 :: a9 :: some (V.bl j) :: r) H) : gName 10 (V.bl i) (a0 :: a1 :: a2 :: a3 :: a4 :: a5 :: a6 :: a7 :: a8 :: a9 :: z :: r) H R := h i rfl
theorem nS10 {a0 a1 a2 a3 a4 a5 a6 a7 a8 a9 z : Option V} {r : St} {i : Str} {H : Hp} {R : St → Hp → Prop} (h : ∀ j : Str, j = i → R (a0 :: a1 :: a2 :: a3 :: a4 :: a5 :: a6 :: a7 :: a8 :: a9 :: some (V.str j) :: r) H) : gName 10 (V.str i) (a0 :: a1 :: a2 :: a3 :: a4 :: a5 :: a6 :: a7 :: a8 :: a9 :: z :: r) H R := h i rfl
theorem nI11 {a0 a1 a2 a3 a4 a5 a6 a7 a8 a9 a10 z : Option V} {r : St} {i : Int} {H : Hp} {R : St → Hp → Prop} (h : ∀ j : Int, j = i → R (a0 :: a1 :: a2 :: a3 :: a4 :: a5 :: a6 :: a7 :: a8 :: a9 :: a10 :: some (V.int j) :: r) H) : gName 11 (V.int i) (a0 :: a1 :: a2 :: a3 :: a4 :: a5 :: a6 :: a7 :: a8 :: a9 :: a10 :: z :: r) H R := h i rfl
theorem nB11 {a0 a1 a2 a3 a4 a5 a6 a7 a8 a9 a10 z : Option V} {r : St} {i : Bool} {H : Hp} {R : St → Hp → Prop} (h : ∀ j : Bool, j = i → R (a0 :: a1 :: a2 :: a3 :: a4 :: a5 :: a6 :: a7 :: a8 :: a9 :: a10 :: some (V.bl j) :: r) H) : gName 11 (V.bl i) (a0 :: a1 :: a2 :: a3 :: a4 :: a5 :: a6 :: a7 :: a8 :: a9 :: a10 :: z :: r) H R := h i rfl
theorem nS11 {a0 a1 a2 a3 a4 a5 a6 a7 a8 a9 a10 z : Option V} {r : St} {i : Str} {H : Hp} {R : St → Hp → Prop} (h : ∀ j : Str, j = i → R (a0 :: a1 :: a2 :: a3 :: a4 :: a5 :: a6 :: a7 :: a8 :: a9 :: a10 :: some (V.str j) :: r) H) : gName 11 (V.str i) (a0 :: a1 :: a2 :: a3 :: a4 :: a5 :: a6 :: a7 :: a8 :: a9 :: a10 :: z :: r) H R := h i rfl
theorem nI12 {a0 a1 a2 a3 a4 a5 a6 a7 a8 a9 a10 a11 z : Option V} {r : St} {i : Int} {H : Hp} {R : St → Hp → Prop} (h : ∀ j : Int, j = i → R (a0 :: a1 :: a2 :: a3 :: a4 :: a5 :: a6 :: a7 :: a8 :: a9 :: a10 :: a11 :: some (V.int j) :: r) H) : gName 12 (V.int i) (a0 :: a1 :: a2 :: a3 :: a4 :: a5 :: a6 :: a7 :: a8 :: a9 :: a10 :: a11 :: z :: r) H R := h i rfl
theorem nB12 {a0 a1 a2 a3 a4 a5 a6 a7 a8 a9 a10 a11 z : Option V} {r : St} {i : Bool} {H : Hp} {R : St → Hp → Prop} (h : ∀ j : Bool, j = i → R (a0 :: a1 :: a2 :: a3 :: a4 :: a5 :: a6 :: a7 :: a8 :: a9 :: a10 :: a11 :: some (V.bl j) :: r) H) : gName 12 (V.bl i) (a0 :: a1 :: a2 :: a3 :: a4 :: a5 :: a6 :: a7 :: a8 :: a9 :: a10 :: a11 :: z :: r) H R := h i rfl
theorem nS12 {a0 a1 a2 a3 a4 a5 a6 a7 a8 a9 a10 a11 z : Option V} {r : St} {i : Str} {H : Hp} {R : St → Hp → Prop} (h : ∀ j : Str, j = i → R (a0 :: a1 :: a2 :: a3 :: a4 :: a5 :: a6 :: a7 :: a8 :: a9 :: a10 :: a11 :: some (V.str j) :: r) H) : gName 12 (V.str i) (a0 :: a1 :: a2 :: a3 :: a4 :: a5 :: a6 :: a7 :: a8 :: a9 :: a10 :: a11 :: z :: r) H R := h i rfl
theorem nI13 {a0 a1 a2 a3 a4 a5 a6 a7 a8 a9 a10 a11 a12 z : Option V} {r : St} {i : Int} {H : Hp} {R : St → Hp → Prop} (h : ∀ j : Int, j = i → R (a0 :: a1 :: a2 :: a3 :: a4 :: a5 :: a6 :: a7 :: a8 :: a9 :: a10 :: a11 :: a12 :: some (V.int j) :: r) H) : gName 13 (V.int i) (a0 :: a1 :: a2 :: a3 :: a4 :: a5 :: a6 :: a7 :: a8 :: a9 :: a10 :: a11 :: a12 :: z :: r) H R := h i rfl
theorem nB13 {a0 a1 a2 a3 a4 a5 a6 a7 a8 a9 a10 a11 a12 z : Option V} {r : St} {i : Bool} {H : Hp} {R : St → Hp → Prop} (h : ∀ j : Bool, j = i → R (a0 :: a1 :: a2 :: a3 :: a4 :: a5 :: a6 :: a7 :: a8 :: a9 :: a10 :: a11 :: a12 :: some (V.bl j) :: r) H) : gName 13 (V.bl i) (a0 :: a1 :: a2 :: a3 :: a4 :: a5 :: a6 :: a7 :: a8 :: a9 :: a10 :: a11 :: a12 :: z :: r) H R := h i rfl
theorem nS13 {a0 a1 a2 a3 a4 a5 a6 a7 a8 a9 a10 a11 a12 z : Option V} {r : St} {i : Str} {H : Hp} {R : St → Hp → Prop} (h : ∀ j : Str, j = i → R (a0 :: a1 :: a2 :: a3 :: a4 :: a5 :: a6 :: a7 :: a8 :: a9 :: a10 :: a11 :: a12 :: some (V.str j) :: r) H) : gName 13 (V.str i) (a0 :: a1 :: a2 :: a3 :: a4 :: a5 :: a6 :: a7 :: a8 :: a9 :: a10 :: a11 :: a12 :: z :: r) H R := h i rfl
theorem nI14 {a0 a1 a2 a3 a4 a5 a6 a7 a8 a9 a10 a11 a12 a13 z : Option V} {r : St} {i : Int} {H : Hp} {R : St → Hp → Prop} (h : ∀ j : Int, j = i → R (a0 :: a1 :: a2 :: a3 :: a4 :: a5 :: a6 :: a7 :: a8 :: a9 :: a10 :: a11 :: a12 :: a13 :: some (V.int j) :: r) H) : gName 14 (V.int i) (a0 :: a1 :: a2 :: a3 :: a4 :: a5 :: a6 :: a7 :: a8 :: a9 :: a10 :: a11 :: a12 :: a13 :: z :: r) H R := h i rfl
theorem nB14 {a0 a1 a2 a3 a4 a5 a6 a7 a8 a9 a10 a11 a12 a13 z : Option V} {r : St} {i : Bool} {H : Hp} {R : St → Hp → Prop} (h : ∀ j : Bool, j = i → R (a0 :: a1 :: a2 :: a3 :: a4 :: a5 :: a6 :: a7 :: a8 :: a9 :: a10 :: a11 :: a12 :: a13 :: some (V.bl j) :: r) H) : gName 14 (V.bl i) (a0 :: a1 :: a2 :: a3 :: a4 :: a5 :: a6 :: a7 :: a8 :: a9 :: a10 :: a11 :: a12 :: a13 :: z :: r) H R := h i rfl
theorem nS14 {a0 a1 a2 a3 a4 a5 a6 a7 a8 a9 a10 a11 a12 a13 z : Option V} {r : St} {i : Str} {H : Hp} {R : St → Hp → Prop} (h : ∀ j : Str, j = i → R (a0 :: a1 :: a2 :: a3 :: a4 :: a5 :: a6 :: a7 :: a8 :: a9 :: a10 :: a11 :: a12 :: a13 :: some (V.str j) :: r) H) : gName 14 (V.str i) (a0 :: a1 :: a2 :: a3 :: a4 :: a5 :: a6 :: a7 :: a8 :: a9 :: a10 :: a11 :: a12 :: a13 :: z :: r) H R := h i rfl
theorem nI15 {a0 a1 a2 a3 a4 a5 a6 a7 a8 a9 a10 a11 a12 a13 a14 z : Option V} {r : St} {i : Int} {H : Hp} {R : St → Hp → Prop} (h : ∀ j : Int, j = i → R (a0 :: a1 :: a2 :: a3 :: a4 :: a5 :: a6 :: a7 :: a8 :: a9 :: a10 :: a11 :: a12 :: a13 :: a14 :: some (V.int j) :: r) H) : gName 15 (V.int i) (a0 :: a1 :: a2 :: a3 :: a4 :: a5 :: a6 :: a7 :: a8 :: a9 :: a10 :: a11 :: a12 :: a13 :: a14 :: z :: r) H R := h i rfl
theorem nB15 {a0 a1 a2 a3 a4 a5 a6 a7 a8 a9 a10 a11 a12 a13 a14 z : Option V} {r : St} {i : Bool} {H : Hp} {R : St → Hp → Prop} (h : ∀ j : Bool, j = i → R (a0 :: a1 :: a2 :: a3 :: a4 :: a5 :: a6 :: a7 :: a8 :: a9 :: a10 :: a11 :: a12 :: a13 :: a14 :: some (V.bl j) :: r) H) : gName 15 (V.bl i) (a0 :: a1 :: a2 :: a3 :: a4 :: a5 :: a6 :: a7 :: a8 :: a9 :: a10 :: a11 :: a12 :: a13 :: a14 :: z :: r) H R := h i rfl
theorem nS15 {a0 a1 a2 a3 a4 a5 a6 a7 a8 a9 a10 a11 a12 a13 a14 z : Option V} {r : St} {i : Str} {H : Hp} {R : St → Hp → Prop} (h : ∀ j : Str, j = i → R (a0 :: a1 :: a2 :: a3 :: a4 :: a5 :: a6 :: a7 :: a8 :: a9 :: a10 :: a11 :: a12 :: a13 :: a14 :: some (V.str j) :: r) H) : gName 15 (V.str i) (a0 :: a1 :: a2 :: a3 :: a4 :: a5 :: a6 :: a7 :: a8 :: a9 :: a10 :: a11 :: a12 :: a13 :: a14 :: z :: r) H R := h i rfl
theorem nI16 {a0 a1 a2 a3 a4 a5 a6 a7 a8 a9 a10 a11 a12 a13 a14 a15 z : Option V} {r : St} {i : Int} {H : Hp} {R : St → Hp → Prop} (h : ∀ j : Int, j = i → R (a0 :: a1 :: a2 :: a3 :: a4 :: a5 :: a6 :: a7 :: a8 :: a9 :: a10 :: a11 :: a12 :: a13 :: a14 :: a15 :: some (V.int j) :: r) H) : gName 16 (V.int i) (a0 :: a1 :: a2 :: a3 :: a4 :: a5 :: a6 :: a7 :: a8 :: a9 :: a10 :: a11 :: a12 :: a13 :: a14 :: a15 :: z :: r) H R := h i rfl
theorem nB16 {a0 a1 a2 a3 a4 a5 a6 a7 a8 a9 a10 a11 a12 a13 a14 a15 z : Option V} {r : St} {i : Bool} {H : Hp} {R : St → Hp → Prop} (h : ∀ j : Bool, j = i → R (a0 :: a1 :: a2 :: a3 :: a4 :: a5 :: a6 :: a7 :: a8 :: a9 :: a10 :: a11 :: a12 :: a13 :: a14 :: a15 :: some (V.bl j) :: r) H) : gName 16 (V.bl i) (a0 :: a1 :: a2 :: a3 :: a4 :: a5 :: a6 :: a7 :: a8 :: a9 :: a10 :: a11 :: a12 :: a13 :: a14 :: a15 :: z :: r) H R := h i rfl
theorem nS16 {a0 a1 a2 a3 a4 a5 a6 a7 a8 a9 a10 a11 a12 a13 a14 a15 z : Option V} {r : St} {i : Str} {H : Hp} {R : St → Hp → Prop} (h : ∀ j : Str, j = i → R (a0 :: a1 :: a2 :: a3 :: a4 :: a5 :: a6 :: a7 :: a8 :: a9 :: a10 :: a11 :: a12 :: a13 :: a14 :: a15 :: some (V.str j) :: r) H) : gName 16 (V.str i) (a0 :: a1 :: a2 :: a3 :: a4 :: a5 :: a6 :: a7 :: a8 :: a9 :: a10 :: a11 :: a12 :: a13 :: a14 :: a15 :: z :: r) H R := h i rfl
theorem nI17 {a0 a1 a2 a3 a4 a5 a6 a7 a8 a9 a10 a11 a12 a13 a14 a15 a16 z : Option V} {r : St} {i : Int} {H : Hp} {R : St → Hp → Prop} (h : ∀ j : Int, j = i → R (a0 :: a1 :: a2 :: a3 :: a4 :: a5 :: a6 :: a7 :: a8 :: a9 :: a10 :: a11 :: a12 :: a13 :: a14 :: a15 :: a16 :: some (V.int j) :: r) H) : gName 17 (V.int i) (a0 :: a1 :: a2 :: a3 :: a4 :: a5 :: a6 :: a7 :: a8 :: a9 :: a10 :: a11 :: a12 :: a13 :: a14 :: a15 :: a16 :: z :: r) H R := h i rfl
theorem nB17 {a0 a1 a2 a3 a4 a5 a6 a7 a8 a9 a10 a11 a12 a13 a14 a15 a16 z : Option V} {r : St} {i : Bool} {H : Hp} {R : St → Hp → Prop} (h : ∀ j : Bool, j = i → R (a0 :: a1 :: a2 :: a3 :: a4 :: a5 :: a6 :: a7 :: a8 :: a9 :: a10 :: a11 :: a12 :: a13 :: a14 :: a15 :: a16 :: some (V.bl j) :: r) H) : gName 17 (V.bl i) (a0 :: a1 :: a2 :: a3 :: a4 :: a5 :: a6 :: a7 :: a8 :: a9 :: a10 :: a11 :: a12 :: a13 :: a14 :: a15 :: a16 :: z :: r) H R := h i rfl
theorem nS17 {a0 a1 a2 a3 a4 a5 a6 a7 a8 a9 a10 a11 a12 a13 a14 a15 a16 z : Option V} {r : St} {i : Str} {H : Hp} {R : St → Hp → Prop} (h : ∀ j : Str, j = i → R (a0 :: a1 :: a2 :: a3 :: a4 :: a5 :: a6 :: a7 :: a8 :: a9 :: a10 :: a11 :: a12 :: a13 :: a14 :: a15 :: a16 :: some (V.str j) :: r) H) : gName 17 (V.str i) (a0 :: a1 :: a2 :: a3 :: a4 :: a5 :: a6 :: a7 :: a8 :: a9 :: a10 :: a11 :: a12 :: a13 :: a14 :: a15 :: a16 :: z :: r) H R := h i rfl
theorem nI18 {a0 a1 a2 a3 a4 a5 a6 a7 a8 a9 a10 a11 a12 a13 a14 a15 a16 a17 z : Option V} {r : St} {i : Int} {H : Hp} {R : St → Hp → Prop} (h : ∀ j : Int, j = i → R (a0 :: a1 :: a2 :: a3 :: a4 :: a5 :: a6 :: a7 :: a8 :: a9 :: a10 :: a11 :: a12 :: a13 :: a14 :: a15 :: a16 :: a17 :: some (V.int j) :: r) H) : gName 18 (V.int i) (a0 :: a1 :: a2 :: a3 :: a4 :: a5 :: a6 :: a7 :: a8 :: a9 :: a10 :: a11 :: a12 :: a13 :: a14 :: a15 :: a16 :: a17 :: z :: r) H R := h i rfl
theorem nB18 {a0 a1 a2 a3 a4 a5 a6 a7 a8 a9 a10 a11 a12 a13 a14 a15 a16 a17 z : Option V} {r : St} {i : Bool} {H : Hp} {R : St → Hp → Prop} (h : ∀ j : Bool, j = i → R (a0 :: a1 :: a2 :: a3 :: a4 :: a5 :: a6 :: a7 :: a8 :: a9 :: a10 :: a11 :: a12 :: a13 :: a14 :: a15 :: a16 :: a17 :: some (V.bl j) :: r) H) : gName 18 (V.bl i) (a0 :: a1 :: a2 :: a3 :: a4 :: a5 :: a6 :: a7 :: a8 :: a9 :: a10 :: a11 :: a12 :: a13 :: a14 :: a15 :: a16 :: a17 :: z :: r) H R := h i rfl
theorem nS18 {a0 a1 a2 a3 a4 a5 a6 a7 a8 a9 a10 a11 a12 a13 a14 a15 a16 a17 z : Option V} {r : St} {i : Str} {H : Hp} {R : St → Hp → Prop} (h : ∀ j : Str, j = i → R (a0 :: a1 :: a2 :: a3 :: a4 :: a5 :: a6 :: a7 :: a8 :: a9 :: a10 :: a11 :: a12 :: a13 :: a14 :: a15 :: a16 :: a17 :: some (V.str j) :: r) H) : gName 18 (V.str i) (a0 :: a1 :: a2 :: a3 :: a4 :: a5 :: a6 :: a7 :: a8 :: a9 :: a10 :: a11 :: a12 :: a13 :: a14 :: a15 :: a16 :: a17 :: z :: r) H R := h i rfl
theorem nI19 {a0 a1 a2 a3 a4 a5 a6 a7 a8 a9 a10 a11 a12 a13 a14 a15 a16 a17 a18 z : Option V} {r : St} {i : Int} {H : Hp} {R : St → Hp → Prop} (h : ∀ j : Int, j = i → R (a0 :: a1 :: a2 :: a3 :: a4 :: a5 :: a6 :: a7 :: a8 :: a9 :: a10 :: a11 :: a12 :: a13 :: a14 :: a15 :: a16 :: a17 :: a18 :: some (V.int j) :: r) H) : gName 19 (V.int i) (a0 :: a1 :: a2 :: a3 :: a4 :: a5 :: a6 :: a7 :: a8 :: a9 :: a10 :: a11 :: a12 :: a13 :: a14 :: a15 :: a16 :: a17 :: a18 :: z :: r) H R := h i rfl
theorem nB19 {a0 a1 a2 a3 a4 a5 a6 a7 a8 a9 a10 a11 a12 a13 a14 a15 a16 a17 a18 z : Option V} {r : St} {i : Bool} {H : Hp} {R : St → Hp → Prop} (h : ∀ j : Bool, j = i → R (a0 :: a1 :: a2 :: a3 :: a4 :: a5 :: a6 :: a7 :: a8 :: a9 :: a10 :: a11 :: a12 :: a13 :: a14 :: a15 :: a16 :: a17 :: a18 :: some (V.bl j) :: r) H) : gName 19 (V.bl i) (a0 :: a1 :: a2 :: a3 :: a4 :: a5 :: a6 :: a7 :: a8 :: a9 :: a10 :: a11 :: a12 :: a13 :: a14 :: a15 :: a16 :: a17 :: a18 :: z :: r) H R := h i rfl
theorem nS19 {a0 a1 a2 a3 a4 a5 a6 a7 a8 a9 a10 a11 a12 a13 a14 a15 a16 a17 a18 z : Option V} {r : St} {i : Str} {H : Hp} {R : St → Hp → Prop} (h : ∀ j : Str, j = i → R (a0 :: a1 :: a2 :: a3 :: a4 :: a5 :: a6 :: a7 :: a8 :: a9 :: a10 :: a11 :: a12 :: a13 :: a14 :: a15 :: a16 :: a17 :: a18 :: some (V.str j) :: r) H) : gName 19 (V.str i) (a0 :: a1 :: a2 :: a3 :: a4 :: a5 :: a6 :: a7 :: a8 :: a9 :: a10 :: a11 :: a12 :: a13 :: a14 :: a15 :: a16 :: a17 :: a18 :: z :: r) H R := h i rfl
theorem nI20 {a0 a1 a2 a3 a4 a5 a6 a7 a8 a9 a10 a11 a12 a13 a14 a15 a16 a17 a18 a19 z : Option V} {r : St} {i : Int} {H : Hp} {R : St → Hp → Prop} (h : ∀ j : Int, j = i → R (a0 :: a1 :: a2 :: a3 :: a4 :: a5 :: a6 :: a7 :: a8 :: a9 :: a10 :: a11 :: a12 :: a13 :: a14 :: a15 :: a16 :: a17 :: a18 :: a19 :: some (V.int j) :: r) H) : gName 20 (V.int i) (a0 :: a1 :: a2 :: a3 :: a4 :: a5 :: a6 :: a7 :: a8 :: a9 :: a10 :: a11 :: a12 :: a13 :: a14 :: a15 :: a16 :: a17 :: a18 :: a19 :: z :: r) H R := h i rfl
theorem nB20 {a0 a1 a2 a3 a4 a5 a6 a7 a8 a9 a10 a11 a12 a13 a14 a15 a16 a17 a18 a19 z : Option V} {r : St} {i : Bool} {H : Hp} {R : St → Hp → Prop} (h : ∀ j : Bool, j = i → R (a0 :: a1 :: a2 :: a3 :: a4 :: a5 :: a6 :: a7 :: a8 :: a9 :: a10 :: a11 :: a12 :: a13 :: a14 :: a15 :: a16 :: a17 :: a18 :: a19 :: some (V.bl j) :: r) H) : gName 20 (V.bl i) (a0 :: a1 :: a2 :: a3 :: a4 :: a5 :: a6 :: a7 :: a8 :: a9 :: a10 :: a11 :: a12 :: a13 :: a14 :: a15 :: a16 :: a17 :: a18 :: a19 :: z :: r) H R := h i rfl
theorem nS20 {a0 a1 a2 a3 a4 a5 a6 a7 a8 a9 a10 a11 a12 a13 a14 a15 a16 a17 a18 a19 z : Option V} {r : St} {i : Str} {H : Hp} {R : St → Hp → Prop} (h : ∀ j : Str, j = i → R (a0 :: a1 :: a2 :: a3 :: a4 :: a5 :: a6 :: a7 :: a8 :: a9 :: a10 :: a11 :: a12 :: a13 :: a14 :: a15 :: a16 :: a17 :: a18 :: a19 :: some (V.str j) :: r) H) : gName 20 (V.str i) (a0 :: a1 :: a2 :: a3 :: a4 :: a5 :: a6 :: a7 :: a8 :: a9 :: a10 :: a11 :: a12 :: a13 :: a14 :: a15 :: a16 :: a17 :: a18 :: a19 :: z :: r) H R := h i rfl
theorem nI21 {a0 a1 a2 a3 a4 a5 a6 a7 a8 a9 a10 a11 a12 a13 a14 a15 a16 a17 a18 a19 a20 z : Option V} {r : St} {i : Int} {H : Hp} {R : St → Hp → Prop} (h : ∀ j : Int, j = i → R (a0 :: a1 :: a2 :: a3 :: a4 :: a5 :: a6 :: a7 :: a8 :: a9 :: a10 :: a11 :: a12 :: a13 :: a14 :: a15 :: a16 :: a17 :: a18 :: a19 :: a20 :: some (V.int j) :: r) H) : gName 21 (V.int i) (a0 :: a1 :: a2 :: a3 :: a4 :: a5 :: a6 :: a7 :: a8 :: a9 :: a10 :: a11 :: a12 :: a13 :: a14 :: a15 :: a16 :: a17 :: a18 :: a19 :: a20 :: z :: r) H R := h i rfl
theorem nB21 {a0 a1 a2 a3 a4 a5 a6 a7 a8 a9 a10 a11 a12 a13 a14 a15 a16 a17 a18 a19 a20 z : Option V} {r : St} {i : Bool} {H : Hp} {R : St → Hp → Prop} (h : ∀ j : Bool, j = i → R (a0 :: a1 :: a2 :: a3 :: a4 :: a5 :: a6 :: a7 :: a8 :: a9 :: a10 :: a11 :: a12 :: a13 :: a14 :: a15 :: a16 :: a17 :: a18 :: a19 :: a20 :: some (V.bl j) :: r) H) : gName 21 (V.bl i) (a0 :: a1 :: a2 :: a3 :: a4 :: a5 :: a6 :: a7 :: a8 :: a9 :: a10 :: a11 :: a12 :: a13 :: a14 :: a15 :: a16 :: a17 :: a18 :: a19 :: a20 :: z :: r) H R := h i rfl
theorem nS21 {a0 a1 a2 a3 a4 a5 a6 a7 a8 a9 a10 a11 a12 a13 a14 a15 a16 a17 a18 a19 a20 z : Option V} {r : St} {i : Str} {H : Hp} {R : St → Hp → Prop} (h : ∀ j : Str, j = i → R (a0 :: a1 :: a2 :: a3 :: a4 :: a5 :: a6 :: a7 :: a8 :: a9 :: a10 :: a11 :: a12 :: a13 :: a14 :: a15 :: a16 :: a17 :: a18 :: a19 :: a20 :: some (V.str j) :: r) H) : gName 21 (V.str i) (a0 :: a1 :: a2 :: a3 :: a4 :: a5 :: a6 :: a7 :: a8 :: a9 :: a10 :: a11 :: a12 :: a13 :: a14 :: a15 :: a16 :: a17 :: a18 :: a19 :: a20 :: z :: r) H R := h i rfl
theorem nI22 {a0 a1 a2 a3 a4 a5 a6 a7 a8 a9 a10 a11 a12 a13 a14 a15 a16 a17 a18 a19 a20 a21 z : Option V} {r : St} {i : Int} {H : Hp} {R : St → Hp → Prop} (h : ∀ j : Int, j = i → R (a0 :: a1 :: a2 :: a3 :: a4 :: a5 :: a6 :: a7 :: a8 :: a9 :: a10 :: a11 :: a12 :: a13 :: a14 :: a15 :: a16 :: a17 :: a18 :: a19 :: a20 :: a21 :: some (V.int j) :: r) H) : gName 22 (V.int i) (a0 :: a1 :: a2 :: a3 :: a4 :: a5 :: a6 :: a7 :: a8 :: a9 :: a10 :: a11 :: a12 :: a13 :: a14 :: a15 :: a16 :: a17 :: a18 :: a19 :: a20 :: a21 :: z :: r) H R := h i rfl
theorem nB22 {a0 a1 a2 a3 a4 a5 a6 a7 a8 a9 a10 a11 a12 a13 a14 a15 a16 a17 a18 a19 a20 a21 z : Option V} {r : St} {i : Bool} {H : Hp} {R : St → Hp → Prop} (h : ∀ j : Bool, j = i → R (a0 :: a1 :: a2 :: a3 :: a4 :: a5 :: a6 :: a7 :: a8 :: a9 :: a10 :: a11 :: a12 :: a13 :: a14 :: a15 :: a16 :: a17 :: a18 :: a19 :: a20 :: a21 :: some (V.bl j) :: r) H) : gName 22 (V.bl i) (a0 :: a1 :: a2 :: a3 :: a4 :: a5 :: a6 :: a7 :: a8 :: a9 :: a10 :: a11 :: a12 :: a13 :: a14 :: a15 :: a16 :: a17 :: a18 :: a19 :: a20 :: a21 :: z :: r) H R := h i rfl
theorem nS22 {a0 a1 a2 a3 a4 a5 a6 a7 a8 a9 a10 a11 a12 a13 a14 a15 a16 a17 a18 a19 a20 a21 z : Option V} {r : St} {i : Str} {H : Hp} {R : St → Hp → Prop} (h : ∀ j : Str, j = i → R (a0 :: a1 :: a2 :: a3 :: a4 :: a5 :: a6 :: a7 :: a8 :: a9 :: a10 :: a11 :: a12 :: a13 :: a14 :: a15 :: a16 :: a17 :: a18 :: a19 :: a20 :: a21 :: some (V.str j) :: r) H) : gName 22 (V.str i) (a0 :: a1 :: a2 :: a3 :: a4 :: a5 :: a6 :: a7 :: a8 :: a9 :: a10 :: a11 :: a12 :: a13 :: a14 :: a15 :: a16 :: a17 :: a18 :: a19 :: a20 :: a21 :: z :: r) H R := h i rfl
theorem nI23 {a0 a1 a2 a3 a4 a5 a6 a7 a8 a9 a10 a11 a12 a13 a14 a15 a16 a17 a18 a19 a20 a21 a22 z : Option V} {r : St} {i : Int} {H : Hp} {R : St → Hp → Prop} (h : ∀ j : Int, j = i → R (a0 :: a1 :: a2 :: a3 :: a4 :: a5 :: a6 :: a7 :: a8 :: a9 :: a10 :: a11 :: a12 :: a13 :: a14 :: a15 :: a16 :: a17 :: a18 :: a19 :: a20 :: a21 :: a22 :: some (V.int j) :: r) H) : gName 23 (V.int i) (a0 :: a1 :: a2 :: a3 :: a4 :: a5 :: a6 :: a7 :: a8 :: a9 :: a10 :: a11 :: a12 :: a13 :: a14 :: a15 :: a16 :: a17 :: a18 :: a19 :: a20 :: a21 :: a22 :: z :: r) H R := h i rfl
theorem nB23 {a0 a1 a2 a3 a4 a5 a6 a7 a8 a9 a10 a11 a12 a13 a14 a15 a16 a17 a18 a19 a20 a21 a22 z : Option V} {r : St} {i : Bool} {H : Hp} {R : St → Hp → Prop} (h : ∀ j : Bool, j = i → R (a0 :: a1 :: a2 :: a3 :: a4 :: a5 :: a6 :: a7 :: a8 :: a9 :: a10 :: a11 :: a12 :: a13 :: a14 :: a15 :: a16 :: a17 :: a18 :: a19 :: a20 :: a21 :: a22 :: some (V.bl j) :: r) H) : gName 23 (V.bl i) (a0 :: a1 :: a2 :: a3 :: a4 :: a5 :: a6 :: a7 :: a8 :: a9 :: a10 :: a11 :: a12 :: a13 :: a14 :: a15 :: a16 :: a17 :: a18 :: a19 :: a20 :: a21 :: a22 :: z :: r) H R := h i rfl
theorem nS23 {a0 a1 a2 a3 a4 a5 a6 a7 a8 a9 a10 a11 a12 a13 a14 a15 a16 a17 a18 a19 a20 a21 a22 z : Option V} {r : St} {i : Str} {H : Hp} {R : St → Hp → Prop} (h : ∀ j : Str, j = i → R (a0 :: a1 :: a2 :: a3 :: a4 :: a5 :: a6 :: a7 :: a8 :: a9 :: a10 :: a11 :: a12 :: a13 :: a14 :: a15 :: a16 :: a17 :: a18 :: a19 :: a20 :: a21 :: a22 :: some (V.str j) :: r) H) : gName 23 (V.str i) (a0 :: a1 :: a2 :: a3 :: a4 :: a5 :: a6 :: a7 :: a8 :: a9 :: a10 :: a11 :: a12 :: a13 :: a14 :: a15 :: a16 :: a17 :: a18 :: a19 :: a20 :: a21 :: a22 :: z :: r) H R := h i rfl
theorem nI24 {a0 a1 a2 a3 a4 a5 a6 a7 a8 a9 a10 a11 a12 a13 a14 a15 a16 a17 a18 a19 a20 a21 a22 a23 z : Option V} {r : St} {i : Int} {H : Hp} {R : St → Hp → Prop} (h : ∀ j : Int, j = i → R (a0 :: a1 :: a2 :: a3 :: a4 :: a5 :: a6 :: a7 :: a8 :: a9 :: a10 :: a11 :: a12 :: a13 :: a14 :: a15 :: a16 :: a17 :: a18 :: a19 :: a20 :: a21 :: a22 :: a23 :: some (V.int j) :: r) H) : gName 24 (V.int i) (a0 :: a1 :: a2 :: a3 :: a4 :: a5 :: a6 :: a7 :: a8 :: a9 :: a10 :: a11 :: a12 :: a13 :: a14 :: a15 :: a16 :: a17 :: a18 :: a19 :: a20 :: a21 :: a22 :: a23 :: z :: r) H R := h i rfl
theorem nB24 {a0 a1 a2 a3 a4 a5 a6 a7 a8 a9 a10 a11 a12 a13 a14 a15 a16 a17 a18 a19 a20 a21 a22 a23 z : Option V} {r : St} {i : Bool} {H : Hp} {R : St → Hp → Prop} (h : ∀ j : Bool, j = i → R (a0 :: a1 :: a2 :: a3 :: a4 :: a5 :: a6 :: a7 :: a8 :: a9 :: a10 :: a11 :: a12 :: a13 :: a14 :: a15 :: a16 :: a17 :: a18 :: a19 :: a20 :: a21 :: a22 :: a23 :: some (V.bl j) :: r) H) : gName 24 (V.bl i) (a0 :: a1 :: a2 :: a3 :: a4 :: a5 :: a6 :: a7 :: a8 :: a9 :: a10 :: a11 :: a12 :: a13 :: a14 :: a15 :: a16 :: a17 :: a18 :: a19 :: a20 :: a21 :: a22 :: a23 :: z :: r) H R := h i rfl
theorem nS24 {a0 a1 a2 a3 a4 a5 a6 a7 a8 a9 a10 a11 a12 a13 a14 a15 a16 a17 a18 a19 a20 a21 a22 a23 z : Option V} {r : St} {i : Str} {H : Hp} {R : St → Hp → Prop} (h : ∀ j : Str, j = i → R (a0 :: a1 :: a2 :: a3 :: a4 :: a5 :: a6 :: a7 :: a8 :: a9 :: a10 :: a11 :: a12 :: a13 :: a14 :: a15 :: a16 :: a17 :: a18 :: a19 :: a20 :: a21 :: a22 :: a23 :: some (V.str j) :: r) H) : gName 24 (V.str i) (a0 :: a1 :: a2 :: a3 :: a4 :: a5 :: a6 :: a7 :: a8 :: a9 :: a10 :: a11 :: a12 :: a13 :: a14 :: a15 :: a16 :: a17 :: a18 :: a19 :: a20 :: a21 :: a22 :: a23 :: z :: r) H R := h i rfl
theorem nI25 {a0 a1 a2 a3 a4 a5 a6 a7 a8 a9 a10 a11 a12 a13 a14 a15 a16 a17 a18 a19 a20 a21 a22 a23 a24 z : Option V} {r : St} {i : Int} {H : Hp} {R : St → Hp → Prop} (h : ∀ j : Int, j = i → R (a0 :: a1 :: a2 :: a3 :: a4 :: a5 :: a6 :: a7 :: a8 :: a9 :: a10 :: a11 :: a12 :: a13 :: a14 :: a15 :: a16 :: a17 :: a18 :: a19 :: a20 :: a21 :: a22 :: a23 :: a24 :: some (V.int j) :: r) H) : gName 25 (V.int i) (a0 :: a1 :: a2 :: a3 :: a4 :: a5 :: a6 :: a7 :: a8 :: a9 :: a10 :: a11 :: a12 :: a13 :: a14 :: a15 :: a16 :: a17 :: a18 :: a19 :: a20 :: a21 :: a22 :: a23 :: a24 :: z :: r) H R := h i rfl
theorem nB25 {a0 a1 a2 a3 a4 a5 a6 a7 a8 a9 a10 a11 a12 a13 a14 a15 a16 a17 a18 a19 a20 a21 a22 a23 a24 z : Option V} {r : St} {i : Bool} {H : Hp} {R : St → Hp → Prop} (h : ∀ j : Bool, j = i → R (a0 :: a1 :: a2 :: a3 :: a4 :: a5 :: a6 :: a7 :: a8 :: a9 :: a10 :: a11 :: a12 :: a13 :: a14 :: a15 :: a16 :: a17 :: a18 :: a19 :: a20 :: a21 :: a22 :: a23 :: a24 :: some (V.bl j) :: r) H) : gName 25 (V.bl i) (a0 :: a1 :: a2 :: a3 :: a4 :: a5 :: a6 :: a7 :: a8 :: a9 :: a10 :: a11 :: a12 :: a13 :: a14 :: a15 :: a16 :: a17 :: a18 :: a19 :: a20 :: a21 :: a22 :: a23 :: a24 :: z :: r) H R := h i rfl
theorem nS25 {a0 a1 a2 a3 a4 a5 a6 a7 a8 a9 a10 a11 a12 a13 a14 a15 a16 a17 a18 a19 a20 a21 a22 a23 a24 z : Option V} {r : St} {i : Str} {H : Hp} {R : St → Hp → Prop} (h : ∀ j : Str, j = i → R (a0 :: a1 :: a2 :: a3 :: a4 :: a5 :: a6 :: a7 :: a8 :: a9 :: a10 :: a11 :: a12 :: a13 :: a14 :: a15 :: a16 :: a17 :: a18 :: a19 :: a20 :: a21 :: a22 :: a23 :: a24 :: some (V.str j) :: r) H) : gName 25 (V.str i) (a0 :: a1 :: a2 :: a3 :: a4 :: a5 :: a6 :: a7 :: a8 :: a9 :: a10 :: a11 :: a12 :: a13 :: a14 :: a15 :: a16 :: a17 :: a18 :: a19 :: a20 :: a21 :: a22 :: a23 :: a24 :: z :: r) H R := h i rfl

theorem at_str {l : List Str} {i : Nat} {y : V} (h : (l.map V.str)[i]? = some y) : ∃ m, m ∈ l ∧ y = V.str m := by
  rw [List.getElem?_map] at h
  cases e : l[i]? with
  | none => rw [e] at h; cases h
  | some m => rw [e] at h; exact ⟨m, List.mem_of_getElem? e, (Option.some.inj h).symm⟩
theorem at_int {l : List Int} {i : Nat} {y : V} (h : (l.map V.int)[i]? = some y) : ∃ m, m ∈ l ∧ y = V.int m := by
  rw [List.getElem?_map] at h
  cases e : l[i]? with
  | none => rw [e] at h; cases h
  | some m => rw [e] at h; exact ⟨m, List.mem_of_getElem? e, (Option.some.inj h).symm⟩
section
variable {X : Cx}
theorem opr_imp {f : Value → Value → Sem Value} {r r' : R2} (h : OpR X f r) (w : ∀ x y H Q, r' x y H Q → r x y H Q) : OpR X f r' := fun pins s σ H x y u v Q I rx ry q => h pins s σ H x y u v Q I rx ry (w _ _ _ _ q)
theorem dec_int (i j : Int) : decide (V.int i = V.int j) = decide (i = j) := by
  by_cases e : i = j
  · rw [e]; simp
  · rw [decide_eq_false e, decide_eq_false (fun q => e (V.int.inj q))]
theorem dec_str (i j : Str) : decide (V.str i = V.str j) = decide (i = j) := by
  by_cases e : i = j
  · rw [e]; simp
  · rw [decide_eq_false e, decide_eq_false (fun q => e (V.str.inj q))]
theorem dec_bl (i j : Bool) : decide (V.bl i = V.bl j) = decide (i = j) := by
  by_cases e : i = j
  · rw [e]; simp
  · rw [decide_eq_false e, decide_eq_false (fun q => e (V.bl.inj q))]
theorem op_eqI : OpR X (compareOp .Eq) (rI0 fun i j => .bl (decide (i = j))) := opr_imp op_eq fun x y H Q ⟨i, j, e1, e2, q⟩ => by
  subst e1; subst e2; exact ⟨rfl, by rw [dec_int]; exact q⟩
theorem op_neI : OpR X (compareOp .NotEq) (rI0 fun i j => .bl (!decide (i = j))) := opr_imp op_ne fun x y H Q ⟨i, j, e1, e2, q⟩ => by
  subst e1; subst e2; exact ⟨rfl, by rw [dec_int]; exact q⟩
def rS0 (f : Str → Str → V) : R2 := fun x y H Q => ∃ i j, x = .str i ∧ y = .str j ∧ Q (f i j) H
def rB0 (f : Bool → Bool → V) : R2 := fun x y H Q => ∃ i j, x = .bl i ∧ y = .bl j ∧ Q (f i j) H
theorem op_eqS : OpR X (compareOp .Eq) (rS0 fun i j => .bl (decide (i = j))) := opr_imp op_eq fun x y H Q ⟨i, j, e1, e2, q⟩ => by
  subst e1; subst e2; exact ⟨rfl, by rw [dec_str]; exact q⟩
theorem op_neS : OpR X (compareOp .NotEq) (rS0 fun i j => .bl (!decide (i = j))) := opr_imp op_ne fun x y H Q ⟨i, j, e1, e2, q⟩ => by
  subst e1; subst e2; exact ⟨rfl, by rw [dec_str]; exact q⟩
theorem op_eqB : OpR X (compareOp .Eq) (rB0 fun i j => .bl (decide (i = j))) := opr_imp op_eq fun x y H Q ⟨i, j, e1, e2, q⟩ => by
  subst e1; subst e2; exact ⟨rfl, by rw [dec_bl]; exact q⟩
theorem op_neB : OpR X (compareOp .NotEq) (rB0 fun i j => .bl (!decide (i = j))) := opr_imp op_ne fun x y H Q ⟨i, j, e1, e2, q⟩ => by
  subst e1; subst e2; exact ⟨rfl, by rw [dec_bl]; exact q⟩
theorem i_S0 {f : Str → Str → V} {i j : Str} {H : Hp} {Q : VK} (h : Q (f i j) H) : rS0 f (.str i) (.str j) H Q := ⟨i, j, rfl, rfl, h⟩
theorem i_B0 {f : Bool → Bool → V} {i j : Bool} {H : Hp} {Q : VK} (h : Q (f i j) H) : rB0 f (.bl i) (.bl j) H Q := ⟨i, j, rfl, rfl, h⟩
def rInt1 : List V → Hp → VK → Prop := fun xs H Q => ∃ i, xs = [.int i] ∧ Q (.int i) H
theorem call_intI : CallR X (.type "int") rInt1 := fun pins s σ H xs us Q I r ⟨i, e, q⟩ => call_int1 pins s σ H xs us Q I r (.inl ⟨i, e, q⟩)
theorem i_int {i : Int} {H : Hp} {Q : VK} (h : Q (.int i) H) : rInt1 [.int i] H Q := ⟨i, rfl, h⟩
def rIntB : List V → Hp → VK → Prop := fun xs H Q => ∃ k : Bool, xs = [.bl k] ∧ Q (.int (if k then 1 else 0)) H
theorem call_intB : CallR X (.type "int") rIntB := fun pins s σ H xs us Q I r ⟨i, e, q⟩ => call_int1 pins s σ H xs us Q I r (.inr ⟨i, e, q⟩)
theorem i_intB {k : Bool} {H : Hp} {Q : VK} (h : Q (.int (if k then 1 else 0)) H) : rIntB [.bl k] H Q := ⟨k, rfl, h⟩
def rAbs : List V → Hp → VK → Prop := fun xs H Q => ∃ i, xs = [.int i] ∧ Q (.int (if i < 0 then -i else i)) H
theorem call_absI : CallR X (.builtin "abs") rAbs := call_abs
theorem i_abs {i : Int} {H : Hp} {Q : VK} (h : Q (.int (if i < 0 then -i else i)) H) : rAbs [.int i] H Q := ⟨i, rfl, h⟩
def rLenS (K : PySem.W.Frag) : List V → Hp → VK → Prop := fun xs H Q => ∃ p ys, xs = [.ref p] ∧ (SqL K H p ys ∨ SqT K H p ys) ∧ Q (.int ys.length) H
theorem call_lenS : CallR X (.builtin "len") (rLenS X.K) := call_len_seq
theorem i_lenL {K : PySem.W.Frag} {p : Addr} {ys : List V} {H : Hp} {Q : VK} (hx : SqL K H p ys) (h : Q (.int ys.length) H) : rLenS K [.ref p] H Q := ⟨p, ys, rfl, .inl hx, h⟩
theorem i_lenT {K : PySem.W.Frag} {p : Addr} {ys : List V} {H : Hp} {Q : VK} (hx : SqT K H p ys) (h : Q (.int ys.length) H) : rLenS K [.ref p] H Q := ⟨p, ys, rfl, .inr hx, h⟩
def rDm : List V → Hp → VK → Prop := fun xs H Q => ∃ i j, xs = [.int i, .int j] ∧ CDivP i j ∧ ∀ p, H p = none → Q (.ref p) (upd H p (.tup [.int (i / j), .int (i % j)]))
theorem call_dm : CallR X (.builtin "divmod") rDm := call_divmodW
theorem i_dm {i j : Int} {H : Hp} {Q : VK} (c : CDivP i j) (h : ∀ p H2, H p = none → Same H H2 → H2 p = some (.tup [.int (i / j), .int (i % j)]) → Q (.ref p) H2) : rDm [.int i, .int j] H Q :=
  ⟨i, j, rfl, c, fun p hp => h p _ hp (same_new hp) upd_same⟩
theorem i_setL {l : Addr} {xs : List V} {i : Int} {j : Nat} {v : V} {H : Hp} {R : Hp → Prop} (hl : H l = some (.lst xs)) (hj : ixN xs.length i = some j) (h : ∀ H2, H2 l = some (.lst (xs.set j v)) → (∀ b, b ≠ l → H2 b = H b) → R H2) : rSetL (.ref l) (.int i) v H R := by
  unfold rSetL
  exact ⟨l, xs, i, j, rfl, rfl, hl, hj, h _ upd_same fun b hb => upd_ne hb⟩
theorem i_iteNB {a : Bool} {A B : Prop} (h1 : a = false → A) (h2 : a = true → B) : if (!a) = true then A else B := by
  cases a
  · rw [if_pos (by decide)]; exact h1 rfl
  · rw [if_neg (by decide)]; exact h2 rfl
theorem chr_inj : ∀ {l k : List Char}, l.map Char.toNat = k.map Char.toNat → l = k
  | [], [], _ => rfl
  | [], _ :: _, h => by simp at h
  | _ :: _, [], h => by simp at h
  | a :: l, b :: k, h => by
    rw [List.map_cons, List.map_cons] at h
    injection h with h1 h2
    have e : a = b := Char.ext (UInt32.toNat.inj h1)
    rw [e, chr_inj h2]
@[simp] theorem str_inj {a b : String} : (Str.ofString a = Str.ofString b) = (a = b) := by
  refine propext ⟨fun h => ?_, fun h => by rw [h]⟩
  rw [Str.ofString_eq_toList, Str.ofString_eq_toList] at h
  injection h with h
  have q := congrArg Array.toList h
  exact String.toList_inj.mp (chr_inj (by simpa using q))
theorem Sz.of {n : Nat} {i : Int} (h0 : 0 ≤ i) (h1 : i < 2 ^ n) : Sz n i := by
  unfold Sz
  have : ((2 ^ n : Nat) : Int) = 2 ^ n := by simp
  omega
theorem Sz.sm {n : Nat} {i : Int} (h0 : -1024 < i) (h1 : i < 1024) (hn : 10 ≤ n) : Sz n i := Sz.mono (n := 10) (by unfold Sz; omega) hn
theorem Sz.zero {n : Nat} : Sz n 0 := by unfold Sz; exact Nat.lt_of_lt_of_le (by decide) (Nat.one_le_two_pow)
def isNon : V → Bool
  | .non => true
  | _ => false
theorem dec_non (x : V) : decide (x = .non) = isNon x := by cases x <;> rfl
def rIsN_ (neg : Bool) : R2 := fun x y H Q => y = .non ∧ Q (.bl (if neg then !isNon x else isNon x)) H
theorem op_isN_ {X : Cx} : OpR X (compareOp .Is) (rIsN_ false) := opr_imp op_isN fun x y H Q h => ⟨h.1, by rw [dec_non]; exact h.2⟩
theorem op_notN_ {X : Cx} : OpR X (compareOp .IsNot) (rIsN_ true) := opr_imp op_notN fun x y H Q h => ⟨h.1, by rw [dec_non]; exact h.2⟩
theorem i_isN {neg b : Bool} {x : V} {H : Hp} {Q : VK} (e : (if neg then !isNon x else isNon x) = b) (h : Q (.bl b) H) : rIsN_ neg x .non H Q := ⟨rfl, by rw [e]; exact h⟩
section
variable {H : Hp} {Q : VK} {P : Prop} [Decidable P] {b : Bool}
theorem i_decT (p : P) (h : Q (.bl true) H) : Q (.bl (decide P)) H := by rw [decide_eq_true p]; exact h
theorem i_decF (p : ¬ P) (h : Q (.bl false) H) : Q (.bl (decide P)) H := by rw [decide_eq_false p]; exact h
theorem i_ndecT (p : ¬ P) (h : Q (.bl true) H) : Q (.bl (!decide P)) H := by rw [decide_eq_false p]; exact h
theorem i_ndecF (p : P) (h : Q (.bl false) H) : Q (.bl (!decide P)) H := by rw [decide_eq_true p]; exact h
theorem i_varT (p : b = true) (h : Q (.bl true) H) : Q (.bl b) H := by rw [p]; exact h
theorem i_varF (p : b = false) (h : Q (.bl false) H) : Q (.bl b) H := by rw [p]; exact h
theorem i_ntF (h : Q (.bl false) H) : Q (.bl (!true)) H := h
theorem i_nfT (h : Q (.bl true) H) : Q (.bl (!false)) H := h
end
theorem pnc {X : Cx} {N0 : List Str} {x : Str} {pos : Pos} (hv : visB N0 X.env.scope = true) (i : Nat) (hN : X.N[i]? = some x := by rfl) (h0 : N0[i]? = some x := by rfl) : PE X (.Name x pos) (tVar i) :=
  let q := vis_of hv h0
  pe_var hN q.1 q.2.1 q.2.2
theorem take_succ {α : Type} : ∀ {l : List α} {i : Nat} {x : α}, l[i]? = some x → l.take (i + 1) = l.take i ++ [x] := fun {l i x} h => by
  rw [List.take_add_one, h]; rfl
theorem same_up {H H' : Hp} {p : Addr} {o : HO} (hp : H p = none) (e : ∀ b u, H b = some u → H' b = some u) : ∀ b u, H b = some u → upd H' p o b = some u := fun b u h => by
  rw [upd_ne (ne_of_none h hp)]; exact e b u h
theorem i_lc {wi : TI} {g : TG} {tt : TT} {te : TE} {vs : List Nat} {σ : St} {H : Hp} {Q : VK} (h : wi σ H fun J H1 => ∀ D, H1 D = none → ∃ W : Nat → Nat → Hp → Prop, (∃ m, W 0 m (upd H1 D (.lst []))) ∧ ∀ i m H, W i m H →
      (J.stop i H ∧ Q (.ref D) H) ∨ (J.go i H ∧ ∃ Nx : Hp → Prop, (∀ H', Nx H' → ∃ m', m' < m ∧ W (i + 1) m' H') ∧ ∀ x H', J.yld i H x H' → g x (wipe σ vs) H' fun σ2 H2 => wipe σ2 vs = wipe σ vs ∧ tt σ2 H2 fun b H3 =>
        if b = true then te σ2 H3 fun y H4 => ∃ acc, H4 D = some (.lst acc) ∧ acc.length < sizeLine ∧ Nx (upd H4 D (.lst (acc ++ [y]))) else Nx H3)) : tLc wi g tt te vs σ H Q := h
theorem i_lcL {K : PySem.W.Frag} {p : Addr} {xs : List V} {H : Hp} {F : Addr → Prop} (hx : SqL K H p xs) (h : F p) : ∃ a, V.ref p = .ref a ∧ (∃ xs, SqL K H a xs) ∧ F a := ⟨p, rfl, ⟨xs, hx⟩, h⟩
theorem i_lcw {σ2 σ3 : St} {H : Hp} {te : TE} {A : Hp → Prop} {F : VK} (h : te σ2 H F) : σ3 = σ3 ∧ tYes σ2 H fun b H3 => if b = true then te σ2 H3 F else A H3 := ⟨rfl, by show (if true = true then te σ2 H F else A H); rw [if_pos rfl]; exact h⟩
theorem i_bm {K : PySem.W.Frag} {T : String} {r : V → List V → Hp → VK → Prop} {to : TE} {t : TA} {σ : St} {H : Hp} {Q : VK} (h : to σ H fun x H1 => tyV K T x H1 ∧ t σ H1 fun xs H2 => r x xs H2 Q) : tBM K T r to t σ H Q := h
theorem i_bm0 {K : PySem.W.Frag} {T : String} {r : V → List V → Hp → VK → Prop} {to : TE} {σ : St} {H : Hp} {Q : VK} (h : to σ H fun x H1 => tyV K T x H1 ∧ r x [] H1 Q) : tBM0 K T r to σ H Q := h
theorem i_tyL {K : PySem.W.Frag} {p : Addr} {xs : List V} {H : Hp} {A : Prop} (hx : SqL K H p xs) (h : A) : tyV K "list" (.ref p) H ∧ A := ⟨.inl ⟨rfl, _, hx⟩, h⟩
theorem i_tyS {K : PySem.W.Frag} {z : Str} {H : Hp} {A : Prop} (h : A) : tyV K "str" (.str z) H ∧ A := ⟨rfl, h⟩
theorem i_index {K : PySem.W.Frag} {p : Addr} {ys : List V} {y z : V} {j : Nat} {H : Hp} {Q : VK} (hx : SqL K H p ys) (fy : flatV y = true) (fa : ys.all flatV = true) (e : ys[j]? = some z) (q : eqV z y = true)
    (n : ∀ (m : Nat) (z' : V), m < j → ys[m]? = some z' → eqV z' y = false) (h : Q (.int (j : Nat)) H) : rIndex K (.ref p) [y] H Q := ⟨p, ys, y, j, z, rfl, rfl, hx, fy, fa, e, q, n, h⟩
/-- d.get(k, x) of a table of the top with text keys -/
def tKGet (K : PySem.W.Frag) (w : World) (td ty tx : TE) : TE := fun σ H Q => td σ H fun x H1 => ∃ p es n, x = .ref p ∧ KDict K w p es n ∧ ty σ H1 fun y H2 => tx σ H2 fun z H3 => ∃ (k : Str) (r : Option Value) (v : V), y = .str k ∧ PySem.W.nsIn K p k = some r ∧ (match r with | none => v = z | some u => RelV v u) ∧ Q v H3
theorem i_kget {K : PySem.W.Frag} {w : World} {td ty tx : TE} {σ : St} {H : Hp} {Q : VK} (h : td σ H fun x H1 => ∃ p es n, x = .ref p ∧ KDict K w p es n ∧ ty σ H1 fun y H2 => tx σ H2 fun z H3 => ∃ (k : Str) (r : Option Value) (v : V), y = .str k ∧ PySem.W.nsIn K p k = some r ∧ (match r with | none => v = z | some u => RelV v u) ∧ Q v H3) : tKGet K w td ty tx σ H Q := h
theorem i_kd {K : PySem.W.Frag} {w : World} {p : Addr} {F : Addr → Prop} (d : ∃ es n, KDict K w p es n) (h : F p) : ∃ p' es n, V.ref p = .ref p' ∧ KDict K w p' es n ∧ F p' := by
  obtain ⟨es, n, d⟩ := d
  exact ⟨p, es, n, rfl, d, h⟩
theorem i_kv {K : PySem.W.Frag} {p : Addr} {k : Str} {v z : V} {H : Hp} {Q : VK} (d : ∃ r, PySem.W.nsIn K p k = some r ∧ (match r with | none => v = z | some u => RelV v u)) (h : Q v H) :
    ∃ (k' : Str) (r : Option Value) (v' : V), V.str k = .str k' ∧ PySem.W.nsIn K p k' = some r ∧ (match r with | none => v' = z | some u => RelV v' u) ∧ Q v' H := by
  obtain ⟨r, e, m⟩ := d
  exact ⟨k, r, v, rfl, e, m, h⟩
theorem pe_kget {X : Cx} {o e f : Expr} {apos cpos : Pos} {td ty tx : TE} (ho : PE X o td) (he : PE X e ty) (hf : PE X f tx) (m : M2 X o "get" apos e f cpos) : PE X (.Call (.Attribute o "get" apos) [e, f] [] cpos) (tKGet X.K X.w td ty tx) := by
  refine ⟨fun pins s σ H Q I h => ?_⟩
  refine wpAny_Call_method m.base m.few m.line PySem.F.plainAttrs_dict PySem.F.slot_dict_get PySem.F.type_dict_get (thn (ho.run pins s σ H _ I h) fun u s1 hh => ?_)
  obtain ⟨x, H1, I1, rx, p, es, n, ex, d, q1⟩ := hh
  subst ex
  obtain rfl : u = Value.ref p := rx
  refine ⟨kd_type d I1, fun a ea => ⟨_, (by cases ea; exact I1.kIn _ _ d.at_), rfl⟩, ?_⟩
  rw [m.trees]
  refine Calls.callWith_builtin rfl (Calls.evalArgs_plain (Calls.spliced_cons (thn (he.run pins s1 σ H1 _ I1 q1) fun iv s2 hh2 => ?_)))
  obtain ⟨y, H2, I2, ry, q2⟩ := hh2
  refine Calls.spliced_cons (thn (hf.run pins s2 σ H2 _ I2 q2) fun fv s3 hh3 => Calls.spliced_nil ?_)
  obtain ⟨z, H3, I3, rz, k, r, v, ek, en, em, q3⟩ := hh3
  subst ek
  obtain ⟨t, rfl⟩ := ry
  refine call_meetsIn PySem.F.slot_dict_get (kd_type d I3) PySem.F.entry_dict_get (PySem.F.args_dict_get_3 _ _ _) (meets_dict_get_default (strKind X.prog X.w) p (strKind_is X.prog X.w k t) d.low fv) ⟨_, PySem.W.mapOf_K (prog := X.prog) I3.kIn d.at_ d.lit, ?_⟩
  rw [PySem.W.find_K d.at_ en]
  cases r with
  | none => 
    have e1 : v = z := em
    subst e1
    exact ⟨_, H3, I3.tok _, rz, q3⟩
  | some u => exact ⟨_, H3, I3.tok _, em, q3⟩
theorem i_cat {a b : Addr} {xs ys : List V} {H : Hp} {Q : VK} (ha : H a = some (.lst xs)) (hb : H b = some (.lst ys)) (l1 : xs.length ≤ 1000000) (l2 : ys.length ≤ 1000000)
    (h : ∀ p H2, H p = none → Same H H2 → H2 p = some (.lst (xs ++ ys)) → Q (.ref p) H2) : rCat (.ref a) (.ref b) H Q :=
  ⟨a, b, xs, ys, rfl, rfl, ha, hb, Nat.le_trans (Nat.add_le_add l1 l2) (by decide), fun p hp => h p _ hp (same_new hp) upd_same⟩
theorem i_in {K : PySem.W.Frag} {x : V} {p : Addr} {xs : List V} {b : Bool} {H : Hp} {Q : VK} (hx : SqL K H p xs ∨ SqT K H p xs) (fx : flatV x = true) (fs : xs.all flatV = true) (e : inV x xs = b) (h : Q (.bl b) H) : rIn K false x (.ref p) H Q :=
  ⟨p, xs, rfl, hx, fx, fs, by rw [if_neg (by decide), e]; exact h⟩
theorem i_inN {K : PySem.W.Frag} {x : V} {p : Addr} {xs : List V} {b : Bool} {H : Hp} {Q : VK} (hx : SqL K H p xs ∨ SqT K H p xs) (fx : flatV x = true) (fs : xs.all flatV = true) (e : inV x xs = b) (h : Q (.bl (!b)) H) : rIn K true x (.ref p) H Q :=
  ⟨p, xs, rfl, hx, fx, fs, by rw [if_pos rfl, e]; exact h⟩
theorem i_gsub {to ti : TE} {t : TSet} {v : V} {σ : St} {H : Hp} {R : St → Hp → Prop} (h : to σ H fun o H1 => ti σ H1 fun i H2 => t o i v H2 fun H3 => R σ H3) : gSub to ti t v σ H R := h
theorem ext_set {H H2 : Hp} {a : Addr} {xs : List V} (ha : H a = some (.lst xs)) (hs : srcL xs) (w : ∀ b, b ≠ a → H2 b = H b) : Ext H H2 := fun b o s e => by
  by_cases h : b = a
  · subst h
    rw [ha] at e
    cases e
    exact (s hs).elim
  · rw [w b h]; exact e
theorem inV_str (m : Str) (ms : List Str) : inV (.str m) (ms.map V.str) = ms.contains m := by
  unfold inV
  rw [List.any_map]
  induction ms with
  | nil => rfl
  | cons a l ih =>
    rw [List.any_cons, List.contains_cons, ih]
    have e : eqV (V.str a) (V.str m) = (m == a) := by
      show (a == m) = (m == a)
      by_cases h : a = m
      · rw [h]
      · rw [beq_eq_false_iff_ne.mpr h, beq_eq_false_iff_ne.mpr (Ne.symm h)]
    show (eqV (V.str a) (V.str m) || _) = _
    rw [e]
theorem flat_str (ms : List Str) : (ms.map V.str).all flatV = true := by
  rw [List.all_map]
  exact List.all_eq_true.mpr fun _ _ => rfl
theorem at_map {α : Type} {f : α → V} {xs : List α} {i : Int} (h0 : 0 ≤ i) (h1 : i < xs.length) : ∃ x, x ∈ xs ∧ atI (xs.map f) i = some (f x) := by
  obtain ⟨n, rfl⟩ := Int.eq_ofNat_of_zero_le h0
  have hn : n < xs.length := by omega
  refine ⟨xs[n], List.getElem_mem hn, atI_nat ?_⟩
  rw [List.getElem?_map, List.getElem?_eq_getElem hn]
  rfl
variable {k : Nat} {f : Addr} {ps : List Str} {dvs : List V} {sp : Sp} {x : Str} {p pos : Pos} {e : Expr} {es : List Expr} {t : TA} {G : List Str}
theorem cxF {P : Program} {w : World} {l : List Env} {H : Hp} {s s' : Shared} {e : Value} (h : L2.CX P w l H s EF e s') : False := by
  obtain ⟨_, _, _, _, _, _, _, _, _, _, _, _, q⟩ := h
  exact q
theorem fn0 {P : Program} {w : World} {K : PySem.W.Frag} {mg : Str → Option Value} {base : Heap} {k : Nat} {f : Addr} {fd : FuncData} {ps : List Str} {sp : Sp} (F : FnOk P w K mg base (L2.CX P w) k f fd ps sp) (h : ∀ vs H Q E, sp vs H Q E → sp vs H Q EF) : FnOk P w K mg base CX0 k f fd ps sp :=
  ⟨F.len, fun A outer s H args us vs Q E hr he hb hv hs => codeAny_mono (F.run A outer s H args us vs Q EF hr he hb hv (h _ _ _ _ hs)) fun r s' hq => by
    cases r with
    | error e => exact (cxF hq).elim
    | ok fl => cases fl <;> exact hq⟩
theorem ex_at {l : List (PySem.W.Frag → Bool)} {K : PySem.W.Frag} (c : (l.all fun e => e K) = true) (i : Nat) {e : PySem.W.Frag → Bool} (h : l[i]? = some e := by rfl) : e K = true := List.all_eq_true.mp c e (List.mem_of_getElem? h)
theorem rel_eq {a b : Str} {u : Value} (e : a = b) (h : RelV (.str b) u) : RelV (.str a) u := by rw [e]; exact h
theorem pcD (F : OkD X.prog X.w X.K X.mg X.base k f ps dvs sp) (hr : Room k X.A) (hg : glB G X.env.scope = true) (n : Nat) (hm : X.mg x = some (.ref f)) (ha : PA X (e :: es) t) (hx : G[n]? = some x := by rfl)
    (he : starEach (e :: es) X.env = (false, eval e X.env) :: starEach es X.env := by rfl) (hpl : (backTo pos (starEach es X.env)).any (·.1) = false := by rfl) : PE X (.Call (.Name x p) (e :: es) [] pos) (tCall sp dvs EF t) := by
  obtain ⟨fd, ds, kp, b, vd, F⟩ := F
  exact pe_call F hr (gl_of hg hx).1 hm kp b vd (fun _ _ _ _ _ _ _ q => (cxF q).elim) ha (gl_of hg hx).2.1 he hpl
theorem pcD0 (F : OkD X.prog X.w X.K X.mg X.base k f ps dvs sp) (hr : Room k X.A) (hg : glB G X.env.scope = true) (n : Nat) (hm : X.mg x = some (.ref f)) (hx : G[n]? = some x := by rfl) : PE X (.Call (.Name x p) [] [] pos) (tCall sp dvs EF tNil) := by
  obtain ⟨fd, ds, kp, b, vd, F⟩ := F
  exact pe_call0 F hr (gl_of hg hx).1 hm kp b vd (fun _ _ _ _ _ _ _ q => (cxF q).elim) (gl_of hg hx).2.1
end
end Z


/-! ### operators of an own class -/
namespace Z
open PySem PySem.W PySem.Calls PySem.Spec L2
open PyProof.Rows hiding St
/-- the class's facts for a binary operator: its own method f (name nm), the reflected one g -/
structure BinF (K : PySem.W.Frag) (C : Addr) (nm : String) (f : Addr) : Prop where
  first : PySem.W.selfFirst K C = true
  at_ : PySem.W.findIn K (.ref C) (PySem.dunder nm) = some (some (.ref f))
  fn : PySem.W.isFn K (.ref f) = true
structure BinI (K : PySem.W.Frag) (C : Addr) (nm : String) (rc fo ro : Option Value) : Prop where
  refl : PySem.W.findIn K (.ref C) (dunderR nm) = some rc
  refl2 : rc = none ∨ ∃ g : Addr, rc = some (.ref g)
  i1 : PySem.W.findIn K (.type "int") (PySem.dunder nm) = some fo
  i2 : PySem.W.findIn K (.type "int") (dunderR nm) = some ro
  sub : PySem.W.subIn K (.type "int") (.ref C) = some false
structure RefF (K : PySem.W.Frag) (C : Addr) (nm : String) (f g : Addr) : Prop where
  first : PySem.W.selfFirst K C = true
  at_ : PySem.W.findIn K (.ref C) (PySem.dunder nm) = some (some (.ref f))
  ref : PySem.W.findIn K (.ref C) (dunderR nm) = some (some (.ref g))
  fn : PySem.W.isFn K (.ref g) = true
  sub : PySem.W.subIn K (.ref C) (.type "int") = some false
section
variable {prog : Program} {w : World} {M : Model} {A : Around} {E : Value → Shared → Prop} {s : Shared} {K : PySem.W.Frag} {x C f g dx : Addr} {ox : Obj} {od : Option Obj} {i : Int} {t : Tok}
/-- int's method declines -/
theorem right_own {op : Operator} {id : String} {B : Builtin} {Q : Value → Shared → Prop} (X : K.In s.heap) (I : PySem.W.InstAt s.heap x ox C od) (r : RefF K C op.info.2 f g)
    (fi : fillsNumberSlot (.type "int") op.info.2 = pure true) (slot : Slot "int" (PySem.dunder op.info.2) id) (entry : entryFor table id = some B) (args : argsOk id ⟨[.int i t, .ref x], []⟩)
    (hB : ∀ (P : Fin → Shared → Prop) (A : Around) (E : Value → Shared → Prop), P (.done (.ret .notImplemented)) s → wpAny (model prog w) A (B ⟨[.int i t, .ref x], []⟩) P E s)
    (h : wpAny (model prog w) A (call (.ref g) [.ref x, .int i t]) (PySem.W.CmpBack Q) E s) : wpAny (model prog w) A (binaryOp op (.int i t) (.ref x)) Q E s := by
  obtain ⟨cd, rest, hcd, hm⟩ := PySem.W.ksp_first r.first
  rcases hi : op.info with ⟨sym, nm⟩
  have r1 := r.at_
  have r2 := r.ref
  rw [hi] at r1 r2 fi slot
  dsimp only at r1 r2 fi slot
  simp only [binaryOp, hi]
  refine wpAny_holding (wpAny_bind ?_)
  unfold binaryOp1
  refine wpAny_bind (wpAny_typeOf (typeIs_int s i t) (wpAny_bind (I.type.here (wpAny_bind (wpAny_of_eq fi ?_)))))
  have hne : (Value.type "int" == Value.ref C) = false := Bool.eq_false_iff.mpr fun q => by cases beq_iff_eq.mp q
  simp only [hne, Bool.false_eq_true, if_false]
  refine wpAny_bind ((PySem.W.fills_K X hcd hm r1).here ?_)
  simp only [Bool.and_self, if_true]
  refine wpAny_bind ((PySem.W.looks_subIn X r.sub).here ?_)
  have hpy : numberSlotInPython (.type "int") nm = pure false := rfl
  simp only [Bool.false_eq_true, if_false, pure_bind, Bool.not_false, Bool.and_self, if_true, hpy]
  refine wpAny_bind (wpAny_tryMethod_declines (typeIs_int s i t) slot ?_)
  refine wpAny_call_entry slot (typeIs_int s i t) entry (hB _ _ _ ?_) args
  refine ⟨_, rfl, rfl, ?_⟩
  simp only [tryMethod]
  refine wpAny_bind (wpAny_bind (PySem.W.special_fn X I r2 (beq_iff_eq.mp r.fn) (wpAny_mono h (fun v s' hv => ?_) fun _ _ e => e)))
  cases v <;> first | exact hv.elim | exact wpAny_pure (wpAny_bind (wpAny_rule (wpAny_pure (wpAny_pure hv))))
theorem int_add_own {P : Fin → Shared → Prop} (hx : s.heap.get? x = some (PySem.W.instObj C dx)) (h : P (.done (.ret .notImplemented)) s) : wpAny M A (Builtin.«int.__add__» ⟨[.int i t, .ref x], []⟩) P E s := by
  obtain ⟨hp, g, d, tk, os⟩ := s
  unfold PySem.W.instObj at hx
  wp_walk
  exact h
theorem int_sub_own {P : Fin → Shared → Prop} (hx : s.heap.get? x = some (PySem.W.instObj C dx)) (h : P (.done (.ret .notImplemented)) s) : wpAny M A (Builtin.«int.__sub__» ⟨[.int i t, .ref x], []⟩) P E s := by
  obtain ⟨hp, g, d, tk, os⟩ := s
  unfold PySem.W.instObj at hx
  wp_walk
  exact h
theorem int_mul_own {P : Fin → Shared → Prop} (hx : s.heap.get? x = some (PySem.W.instObj C dx)) (h : P (.done (.ret .notImplemented)) s) : wpAny M A (Builtin.«int.__mul__» ⟨[.int i t, .ref x], []⟩) P E s := by
  obtain ⟨hp, g, d, tk, os⟩ := s
  unfold PySem.W.instObj at hx
  wp_walk
  exact h
end
section
variable {prog : Program} {w : World} {A : Around} {E : Value → Shared → Prop} {s : Shared} {K : PySem.W.Frag} {x C f : Addr} {ox : Obj} {od : Option Obj}
theorem call_bool_own {Q : Value → Shared → Prop} (X : K.In s.heap) (I : PySem.W.InstAt s.heap x ox C od) (hs : PySem.W.findIn K (.ref C) "__bool__" = some (some (.ref f))) (hf : PySem.W.isFn K (.ref f) = true)
    (h : wpAny (model prog w) A.in1.in1 (call (.ref f) [.ref x]) (PySem.W.BoolBack fun b s' => Q (.bool b) s') E s) : wpAny (model prog w) A (call (.type "bool") [.ref x]) Q E s := by
  refine callType_codes (T := "bool") (Bi := Builtin.«object.__init__») (Q₁ := fun r s₁ => ∃ b, r = .bool b ∧ Q r s₁) PySem.F.called_bool (PySem.F.typeCall_bool_1 _) PySem.F.entry_object_init ?_ ?_
  · refine codeAny_of_tree ?_
    show wpAny _ A.in1.in1 (do checkBuiltinCall "bool.__new__" ⟨[.type "bool", .ref x], []⟩; again (.builtin "bool.__new__" ⟨[.type "bool", .ref x], []⟩)) _ _ s
    refine wpAny_bind (wpAny_of_eq (PySem.F.newCall_bool_1 _) (wpAny_pure ⟨plainId_quiet (by decide +kernel) _, codeAny_builtin PySem.F.entry_bool_new ?_⟩))
    rw [Around.under_plainId (by decide +kernel) _]
    have f1 := PySem.F.conv_sub_bool
    have key : ∀ (P : Bool → Shared → Prop), wpAny (model prog w) A.in1.in1 (call (.ref f) [.ref x]) (PySem.W.BoolBack P) E s → wpAny (model prog w) A.in1.in1 (truthy (.ref x)) P E s := fun P hP => by
      unfold truthy
      refine wpAny_bind (m := callSpecial? (.ref x) (Str.ofString "__bool__")) (PySem.W.special_fn X I hs (beq_iff_eq.mp hf) (wpAny_mono hP (fun r s' hr => ?_) fun _ _ y => y))
      cases r <;> first | exact hr.elim | exact wpAny_pure hr
    unfold Builtin.«bool.__new__»
    refine wpAny_bind (m := isType (.type "bool")) (wpAny_of_eq (a := true) (by first | rfl | kernel_rfl) ?_)
    refine wpAny_bind (wpAny_of_eq f1 ?_)
    refine wpAny_bind (m := someArgs "bool" 0 1 _) (wpAny_pure ?_)
    refine wpAny_bind (wpAny_mono (key _ h) (fun b s' hb => ?_) fun _ _ y => y)
    exact wpAny_pure ⟨_, rfl, hb⟩
  · rintro obj s₁ ⟨b, rfl, hq⟩
    exact ⟨PySem.typeIs_bool _ _, PySem.F.args_object_init_2 _ _, object_init_meets PySem.F.called_bool.init.lookup PySem.F.called_bool.made (by decide) prog w A.in1 _ s₁ ⟨PySem.typeIs_bool _ _, rfl, hq⟩⟩
theorem call_abs_own {Q : Value → Shared → Prop} (X : K.In s.heap) (I : PySem.W.InstAt s.heap x ox C od) (hs : PySem.W.findIn K (.ref C) "__abs__" = some (some (.ref f))) (hf : PySem.W.isFn K (.ref f) = true)
    (h : wpAny (model prog w) A.in1 (call (.ref f) [.ref x]) Q E s) : wpAny (model prog w) A (call (.builtin "abs") [.ref x]) Q E s := by
  refine Calls.call_function_entry PyProof.Rows.kind_abs PyProof.Rows.plain_abs PyProof.Rows.entry_abs (PyProof.Rows.args_abs _) ?_
  unfold Builtin.«abs»
  refine wpAny_bind (m := oneArg "abs" _) (wpAny_pure ?_)
  refine wpAny_bind (m := callSpecial? (.ref x) (Str.ofString "__abs__")) (PySem.W.special_fn X I hs (beq_iff_eq.mp hf) (wpAny_mono h (fun r s' hr => ?_) fun _ _ y => y))
  exact wpAny_pure ⟨_, rfl, hr⟩
end
/-! ### the same over the layer -/
section
variable {X : Cx} {C : Addr} {f g : Addr} {k : Nat} {ps : List Str} {sp : Sp} {op : Operator}
theorem ep_cmp {pins : List (Addr × Obj)} {σ : L2.St} {Q : VK} {u : Value} {s' : Shared} (h : EP X pins σ Q u s') : PySem.W.CmpBack (EP X pins σ Q) u s' := by
  have h2 := h
  obtain ⟨v, H', I, r, q⟩ := h
  cases v with
  | non => cases (show u = Value.none from r); exact h2
  | bl b => cases (show u = Value.bool b from r); exact h2
  | int i => obtain ⟨t, e⟩ := (show ∃ t, u = Value.int i t from r); cases e; exact h2
  | str x => obtain ⟨t, e⟩ := (show ∃ t, u = Value.str x t from r); cases e; exact h2
  | byt b => obtain ⟨t, e⟩ := (show ∃ t, u = Value.bytes b t from r); cases e; exact h2
  | flt b => obtain ⟨t, e⟩ := (show ∃ t, u = Value.float b t from r); cases e; exact h2
  | ref a => cases (show u = Value.ref a from r); exact h2
  | ty n => cases (show u = Value.type n from r); exact h2
/-- a def is called by values, no exception leaves it -/
theorem run_ok {pins : List (Addr × Obj)} {σ : L2.St} {H : Hp} {s : Shared} {Q : VK} {us : List Value} {vs dvs : List V} (F : OkD X.prog X.w X.K X.mg X.base k f ps dvs sp) (hr : Room k X.A)
    (I : Inv X pins σ H s) (r : Vals vs us) (h : sp (vs ++ dvs) H Q EF) : wpAny (model X.prog X.w) X.A (call (.ref f) us) (EP X pins σ Q) X.xe s := by
  obtain ⟨fd, ds, kp, b, vd, F⟩ := F
  exact run_fn F hr b vd (fun _ _ _ _ _ _ _ q => (cxF q).elim) I r h
theorem run_ok1 {pins : List (Addr × Obj)} {σ : L2.St} {H : Hp} {s : Shared} {Q : VK} {us : List Value} {vs dvs : List V} {E : Value → Shared → Prop} {A : Around} (F : OkD X.prog X.w X.K X.mg X.base k f ps dvs sp) (hr : Room k A) (hA : A.frames = X.A.frames)
    (I : Inv X pins σ H s) (r : Vals vs us) (h : sp (vs ++ dvs) H Q EF) : wpAny (model X.prog X.w) A (call (.ref f) us) (EP X pins σ Q) E s := by
  obtain ⟨fd, ds, kp, b, vd, F⟩ := F
  have r2 : Vals (vs ++ dvs) (us ++ ds) := r.append vd
  have hl : (us ++ ds).length = ps.length := by rw [← r2.length]; exact F.len _ _ _ _ h
  have e0 : Env0 X.prog X.w X.K X.mg X.base A X.stack s H := by
    have z := I.env0
    exact ⟨by rw [hA]; exact z.frames, z.mod, z.bs, z.bsz, z.funs, z.frf, z.hok, z.bare⟩
  refine wpAny_call (codeAny_mono (F.run A X.stack s H ⟨us, []⟩ (us ++ ds) (vs ++ dvs) Q EF hr e0 (b s us I.kIn hl) r2 h) fun r s' hq => ?_)
  cases r with
  | error e => exact (cxF hq).elim
  | ok fl => cases fl with
    | ret u => exact I.after hq
    | next => exact False.elim hq
    | brk => exact False.elim hq
    | cont => exact False.elim hq
/-- x op y: x an instance, y one of the same class or an int -/
def rOwn (C : Addr) (sp : Sp) : R2 := fun x y H Q => ∃ a dx fs, x = .ref a ∧ H a = some (.ins C dx fs) ∧ (∃ b dy gs, y = .ref b ∧ H b = some (.ins C dy gs)) ∧ sp [x, y] H Q EF
def rOwnI (C : Addr) (sp : Sp) : R2 := fun x y H Q => ∃ a dx fs i, x = .ref a ∧ H a = some (.ins C dx fs) ∧ y = .int i ∧ sp [x, y] H Q EF
def rIOwn (C : Addr) (sp : Sp) : R2 := fun x y H Q => ∃ a dx fs i, y = .ref a ∧ H a = some (.ins C dx fs) ∧ x = .int i ∧ sp [y, x] H Q EF
theorem inst_at {pins : List (Addr × Obj)} {σ : L2.St} {H : Hp} {s : Shared} {a dx : Addr} {fs : List (Str × V)} (I : Inv X pins σ H s) (e : H a = some (.ins C dx fs)) : s.heap.get? a = some (PySem.W.instObj C dx) ∧ ∃ od, PySem.W.InstAt s.heap a (PySem.W.instObj C dx) C od := by
  obtain ⟨mA, O, _, _, _, _⟩ := ins_get I.hok e
  obtain ⟨od, J, _⟩ := O.look
  exact ⟨O.obj, _, J⟩
theorem op_own (b : BinF X.K C op.info.2 f) (F : OkD X.prog X.w X.K X.mg X.base k f ps [] sp) (hr : Room k X.A) : OpR X (binaryOp op) (rOwn C sp) := by
  intro pins s σ H x y u v Q I rx ry h
  obtain ⟨a, dx, fs, rfl, ea, ⟨c, dy, gs, rfl, ec⟩, q⟩ := h
  cases rx
  cases ry
  obtain ⟨hx, od, J⟩ := inst_at I ea
  obtain ⟨hy, od2, J2⟩ := inst_at I ec
  obtain ⟨m, Fm⟩ := I.fr
  exact PySem.W.binop_K Fm I.mod.kin J J2.type b.first b.at_ b.fn (wpAny_mono (run_ok (vs := [.ref a, .ref c]) F hr I (.cons rfl (.cons rfl .nil)) q) (fun _ _ z => ep_cmp z) fun _ _ z => z)
theorem op_ownI {rc fo ro : Option Value} (b : BinF X.K C op.info.2 f) (bi : BinI X.K C op.info.2 rc fo ro) (F : OkD X.prog X.w X.K X.mg X.base k f ps [] sp) (hr : Room k X.A) : OpR X (binaryOp op) (rOwnI C sp) := by
  intro pins s σ H x y u v Q I rx ry h
  obtain ⟨a, dx, fs, i, rfl, ea, rfl, q⟩ := h
  cases rx
  obtain ⟨t, rfl⟩ := ry
  obtain ⟨hx, od, J⟩ := inst_at I ea
  obtain ⟨m, Fm⟩ := I.fr
  exact PySem.W.ksp_binT Fm I.mod.kin J (T := "int") rfl b.first b.at_ b.fn bi.refl bi.refl2 bi.i1 bi.i2 bi.sub (wpAny_mono (run_ok (vs := [.ref a, .int i]) F hr I (.cons rfl (.cons ⟨t, rfl⟩ .nil)) q) (fun _ _ z => ep_cmp z) fun _ _ z => z)
theorem op_IaddOwn (r : RefF X.K C "add" f g) (F : OkD X.prog X.w X.K X.mg X.base k g ps [] sp) (hr : Room k X.A) : OpR X (binaryOp .Add) (rIOwn C sp) := by
  intro pins s σ H x y u v Q I rx ry h
  obtain ⟨a, dx, fs, i, rfl, ea, rfl, q⟩ := h
  cases ry
  obtain ⟨t, rfl⟩ := rx
  obtain ⟨hx, od, J⟩ := inst_at I ea
  exact right_own (op := .Add) I.kIn J r PySem.F.fills_int_add PySem.F.slot_int_add PySem.F.entry_int_add (PySem.F.args_int_add_2 _ _) (fun _ _ _ z => int_add_own hx z) (wpAny_mono (run_ok (vs := [.ref a, .int i]) F hr I (.cons rfl (.cons ⟨t, rfl⟩ .nil)) q) (fun _ _ z => ep_cmp z) fun _ _ z => z)
theorem op_IsubOwn (r : RefF X.K C "sub" f g) (F : OkD X.prog X.w X.K X.mg X.base k g ps [] sp) (hr : Room k X.A) : OpR X (binaryOp .Sub) (rIOwn C sp) := by
  intro pins s σ H x y u v Q I rx ry h
  obtain ⟨a, dx, fs, i, rfl, ea, rfl, q⟩ := h
  cases ry
  obtain ⟨t, rfl⟩ := rx
  obtain ⟨hx, od, J⟩ := inst_at I ea
  exact right_own (op := .Sub) I.kIn J r PySem.F.fills_int_sub PySem.F.slot_int_sub PySem.F.entry_int_sub (PySem.F.args_int_sub_2 _ _) (fun _ _ _ z => int_sub_own hx z) (wpAny_mono (run_ok (vs := [.ref a, .int i]) F hr I (.cons rfl (.cons ⟨t, rfl⟩ .nil)) q) (fun _ _ z => ep_cmp z) fun _ _ z => z)
theorem op_ImulOwn (r : RefF X.K C "mul" f g) (F : OkD X.prog X.w X.K X.mg X.base k g ps [] sp) (hr : Room k X.A) : OpR X (binaryOp .Mult) (rIOwn C sp) := by
  intro pins s σ H x y u v Q I rx ry h
  obtain ⟨a, dx, fs, i, rfl, ea, rfl, q⟩ := h
  cases ry
  obtain ⟨t, rfl⟩ := rx
  obtain ⟨hx, od, J⟩ := inst_at I ea
  exact right_own (op := .Mult) I.kIn J r PySem.F.fills_int_mul PySem.F.slot_int_mul PySem.F.entry_int_mul (PySem.F.args_int_mul_2 _ _) (fun _ _ _ z => int_mul_own hx z) (wpAny_mono (run_ok (vs := [.ref a, .int i]) F hr I (.cons rfl (.cons ⟨t, rfl⟩ .nil)) q) (fun _ _ z => ep_cmp z) fun _ _ z => z)
/-- -x, abs(x), bool(x) -/
def rUn1 (C : Addr) (sp : Sp) : V → Hp → VK → Prop := fun x H Q => ∃ a dx fs, x = .ref a ∧ H a = some (.ins C dx fs) ∧ sp [x] H Q EF
def rUnC (C : Addr) (sp : Sp) : List V → Hp → VK → Prop := fun xs H Q => ∃ a dx fs, xs = [.ref a] ∧ H a = some (.ins C dx fs) ∧ sp xs H Q EF
theorem un_own (hs : PySem.W.findIn X.K (.ref C) "__neg__" = some (some (.ref f))) (hf : PySem.W.isFn X.K (.ref f) = true) (F : OkD X.prog X.w X.K X.mg X.base k f ps [] sp) (hr : Room k X.A) : UnR X (unaryOp .USub) (rUn1 C sp) := by
  intro pins s σ H x u Q I rx h
  obtain ⟨a, dx, fs, rfl, ea, q⟩ := h
  cases rx
  obtain ⟨hx, od, J⟩ := inst_at I ea
  obtain ⟨m, Fm⟩ := I.fr
  exact PySem.W.ksp_neg Fm I.mod.kin J hs hf (run_ok (vs := [.ref a]) F hr I (.cons rfl .nil) q)
theorem call_absO (hs : PySem.W.findIn X.K (.ref C) "__abs__" = some (some (.ref f))) (hf : PySem.W.isFn X.K (.ref f) = true) (F : OkD X.prog X.w X.K X.mg X.base k f ps [] sp) (hr : Room (k + 1) X.A) : CallR X (.builtin "abs") (rUnC C sp) := by
  intro pins s σ H xs us Q I r h
  obtain ⟨a, dx, fs, rfl, ea, q⟩ := h
  obtain ⟨u, rfl, rx⟩ := vals1 r
  cases rx
  obtain ⟨hx, od, J⟩ := inst_at I ea
  exact call_abs_own I.kIn J hs hf (run_ok1 (vs := [.ref a]) F hr.in1 rfl I (.cons rfl .nil) q)
theorem call_boolO (hs : PySem.W.findIn X.K (.ref C) "__bool__" = some (some (.ref f))) (hf : PySem.W.isFn X.K (.ref f) = true) (F : OkD X.prog X.w X.K X.mg X.base k f ps [] sp) (hr : Room (k + 2) X.A)
    (hb : ∀ vs H Q, sp vs H Q EF → sp vs H (fun v H' => (∃ b, v = .bl b) ∧ Q v H') EF) : CallR X (.type "bool") (rUnC C sp) := by
  intro pins s σ H xs us Q I r h
  obtain ⟨a, dx, fs, rfl, ea, q⟩ := h
  obtain ⟨u, rfl, rx⟩ := vals1 r
  cases rx
  obtain ⟨hx, od, J⟩ := inst_at I ea
  refine call_bool_own I.kIn J hs hf (wpAny_mono (run_ok1 (vs := [.ref a]) F hr.in1.in1 rfl I (.cons rfl .nil) (hb _ _ _ q)) (fun u s' z => ?_) fun _ _ z => z)
  obtain ⟨v, H', I', rv, ⟨b, rfl⟩, q'⟩ := z
  cases (show u = Value.bool b from rv)
  exact ⟨.bl b, H', I', rfl, q'⟩
end
end Z

/-! ### instances, classes that are called, growing lists, ranges from their end -/
namespace Z
open PySem PySem.Spec L2
open PyProof.Rows hiding St
def IsI (C : Addr) (H : Hp) (p : Addr) (fs : List (Str × V)) : Prop := ∃ dx, H p = some (.ins C dx fs)
theorem same_ins {C : Addr} {H H' : Hp} {p : Addr} {fs : List (Str × V)} (e : Same H H') (h : IsI C H p fs) : IsI C H' p fs := by
  obtain ⟨dx, h⟩ := h
  exact ⟨dx, e _ _ h⟩
theorem ext_ins {C : Addr} {H H' : Hp} {p : Addr} {fs : List (Str × V)} (e : Ext H H') (h : IsI C H p fs) : IsI C H' p fs := by
  obtain ⟨dx, h⟩ := h
  exact ⟨dx, e _ _ trivial h⟩
/-- all but p stays -/
def Keep (p : Addr) (H H' : Hp) : Prop := ∀ b o, b ≠ p → H b = some o → H' b = some o
theorem keep_of {p : Addr} {H H' : Hp} (e : Same H H') : Keep p H H' := fun b o _ h => e b o h
theorem Keep.trans {p : Addr} {H H1 H2 : Hp} (a : Keep p H H1) (b : Keep p H1 H2) : Keep p H H2 := fun c o n h => b c o n (a c o n h)
theorem Keep.refl {p : Addr} {H : Hp} : Keep p H H := fun _ _ _ h => h
section
variable {D : Ends} {σ : St} {H : Hp} {Q : VK} {t u : TS} {te ta tb : TE} {g : TG} {v x y : V} {tt tu : TT} {ar : TA} {i j : Int} {a b : Bool} {A B P : Prop}
def kFld (K : PySem.W.Frag) (f : Str) (Q : VK) : VK := fun x H1 => ∃ a C dx fs v, x = .ref a ∧ H1 a = some (.ins C dx fs) ∧ Cls K C ∧ NoAttr K C f ∧ fs.lookup f = some v ∧ Q v H1
theorem i_fld {K : PySem.W.Frag} {f : Str} (h : te σ H (kFld K f Q)) : tFld K te f σ H Q := h
theorem i_fldI {K : PySem.W.Frag} {f : Str} {p C : Addr} {fs : List (Str × V)} (e : IsI C H p fs) (c : Cls K C) (n : NoAttr K C f) (l : fs.lookup f = some v) (h : Q v H) : kFld K f Q (.ref p) H := by
  obtain ⟨dx, e⟩ := e
  exact ⟨p, C, dx, fs, v, rfl, e, c, n, l, h⟩
def kSFld (K : PySem.W.Frag) (f : Str) (R : Hp → Prop) (y : V) : VK := fun x H2 => ∃ a C dx fs, x = .ref a ∧ H2 a = some (.ins C dx fs) ∧ Cls K C ∧ NoAttr K C f ∧ fs.length < 1000 ∧ R (upd H2 a (.ins C dx (putF f y fs)))
theorem i_sfld {K : PySem.W.Frag} {f : Str} (h : te σ H fun y H1 => ta σ H1 (kSFld K f (fun H3 => D.nx σ H3) y)) : sFld K ta te f D σ H := h
theorem i_sfldI {K : PySem.W.Frag} {f : Str} {p C : Addr} {fs : List (Str × V)} {R : Hp → Prop} (e : IsI C H p fs) (c : Cls K C) (n : NoAttr K C f) (l : fs.length < 1000) (h : ∀ H2, Keep p H H2 → IsI C H2 p (putF f y fs) → R H2) : kSFld K f R y (.ref p) H := by
  obtain ⟨dx, e⟩ := e
  exact ⟨p, C, dx, fs, rfl, e, c, n, l, h _ (fun b o hb q => by rw [upd_ne hb]; exact q) ⟨dx, upd_same⟩⟩
def kMake (C : Addr) (sp : Sp) (dvs : List V) (E : XK) (Q : VK) : List V → Hp → Prop := fun vs H1 => ∀ x dx, H1 x = none → H1 dx = none → dx ≠ x → sp (.ref x :: (vs ++ dvs)) (upd (upd H1 dx (.own x)) x (.ins C dx [])) (fun v H2 => v = .non ∧ Q (.ref x) H2) E
theorem i_make {C : Addr} {sp : Sp} {dvs : List V} {E : XK} (h : ar σ H (kMake C sp dvs E Q)) : tMake C sp dvs E ar σ H Q := h
theorem i_made {C : Addr} {sp : Sp} {vs dvs : List V} {E : XK} (h : ∀ x H2, (∀ H3, Keep x H2 H3 → Same H H3) → IsI C H2 x [] → sp (.ref x :: (vs ++ dvs)) H2 (fun v H3 => v = .non ∧ Q (.ref x) H3) E) : kMake C sp dvs E Q vs H := fun x dx h1 h2 h3 =>
  h x _ (fun H3 k b o e => k b o (ne_of_none e h1) (by rw [upd_ne (ne_of_none e h1), upd_ne (ne_of_none e h2)]; exact e)) ⟨dx, upd_same⟩
theorem i_chain {r r' : R2} {tc : TE} (h : ta σ H fun x H1 => tb σ H1 fun y H2 => r x y H2 fun z H3 => ∃ k, z = .bl k ∧ (if k = true then tc σ H3 fun w' H4 => r' y w' H4 Q else Q (.bl false) H3)) : tChain r r' ta tb tc σ H Q := h
theorem i_app {l : Addr} {xs : List V} (hl : H l = some (.lst xs)) (n : xs.length ≤ 100000) (h : ∀ H2, (∀ b, b ≠ l → H2 b = H b) → H2 l = some (.lst (xs ++ [v])) → Q .non H2) : rAppend (.ref l) [v] H Q :=
  ⟨l, xs, v, rfl, rfl, hl, Nat.lt_of_le_of_lt n (by decide), h _ (fun b hb => upd_ne hb) upd_same⟩
theorem same_app {H0 H2 : Hp} {l : Addr} (z : H0 l = none) (s : Same H0 H) (w : ∀ b, b ≠ l → H2 b = H b) : Same H0 H2 := fun b o e => by
  rw [w b (ne_of_none e z)]; exact s b o e
theorem keep_tup {H2 : Hp} {l c : Addr} {xs ys : List V} (w : ∀ b, b ≠ l → H2 b = H b) (hl : H l = some (.lst xs)) (hc : H c = some (.tup ys)) : H2 c = some (.tup ys) := by
  rw [w c (fun e => by rw [e, hl] at hc; cases hc)]; exact hc
theorem keep_ins {H2 : Hp} {l c C : Addr} {xs : List V} {fs : List (Str × V)} (w : ∀ b, b ≠ l → H2 b = H b) (hl : H l = some (.lst xs)) (hc : IsI C H c fs) : IsI C H2 c fs := by
  obtain ⟨dx, hc⟩ := hc
  exact ⟨dx, by rw [w c (fun e => by rw [e, hl] at hc; cases hc)]; exact hc⟩
theorem i_revR {tr : St → Hp → (Int → Int → Hp → Prop) → Prop} {R : It → Hp → Prop} (h : tr σ H fun a b H1 => -(2 ^ 62) ≤ a ∧ a < 2 ^ 62 ∧ -(2 ^ 62) ≤ b ∧ b < 2 ^ 62 ∧ R (Itc (a + (((b - a).toNat : Nat) : Int) - 1) (-1) (b - a).toNat) H1) : iRevR tr σ H R := h
theorem i_rg1 {Q : Int → Int → Hp → Prop} (h : te σ H fun x H1 => ∃ n, x = .int n ∧ Q 0 n H1) : tRg1 te σ H Q := h
theorem i_rev {n : Nat} (Pv : Nat → St → Hp → Prop) (hb : n ≤ 1000000) (h0 : Pv 0 σ H)
    (hs : ∀ i σ H, i < n → Pv i σ H → g (.int ((n : Int) - 1 - (i : Nat))) σ H fun σ2 H2 => t { D with nx := Pv (i + 1), ct := Pv (i + 1), bk := D.nx } σ2 H2) (hd : ∀ σ H, Pv n σ H → D.nx σ H) :
    ∃ m : Int, V.int (n : Nat) = .int m ∧ -(2 ^ 62) ≤ (0 : Int) ∧ (0 : Int) < 2 ^ 62 ∧ -(2 ^ 62) ≤ m ∧ m < 2 ^ 62 ∧ ∃ W : Nat → Nat → St → Hp → Prop, (∃ k, W 0 k σ H) ∧ ∀ i k σ H, W i k σ H →
      ((Itc (0 + (((m - 0).toNat : Nat) : Int) - 1) (-1) (m - 0).toNat).stop i H ∧ D.nx σ H) ∨ ((Itc (0 + (((m - 0).toNat : Nat) : Int) - 1) (-1) (m - 0).toNat).go i H ∧ ∃ N : St → Hp → Prop, (∀ σ' H', N σ' H' → ∃ m', m' < k ∧ W (i + 1) m' σ' H') ∧
        ∀ x H', (Itc (0 + (((m - 0).toNat : Nat) : Int) - 1) (-1) (m - 0).toNat).yld i H x H' → g x σ H' fun σ2 H2 => t { D with nx := N, ct := N, bk := D.nx } σ2 H2) := by
  refine ⟨n, rfl, by decide, by decide, by omega, by omega, ?_⟩
  have e : ((n : Int) - 0).toNat = n := by omega
  rw [e]
  refine for_rangeC Pv h0 (fun i σ H hi p => ?_) hd
  have e2 : 0 + (n : Int) - 1 + (i : Nat) * (-1) = (n : Int) - 1 - (i : Nat) := by omega
  rw [e2]
  exact hs i σ H hi p
theorem i_min {p : Prop} [Decidable p] {i j : Int} (h : Q (.int (if j < i then j else i)) H) : ∃ i' j', [V.int i, V.int j] = [.int i', .int j'] ∧ Q (.int (if j' < i' then j' else i')) H := ⟨i, j, rfl, h⟩
def rMin : List V → Hp → VK → Prop := fun xs H Q => ∃ i j, xs = [.int i, .int j] ∧ Q (.int (if j < i then j else i)) H
theorem call_min {X : Cx} (hc : X.calm = true) : CallR X (.builtin "min") rMin := call_min2 hc
theorem i_min2 {i j : Int} (h : Q (.int (if j < i then j else i)) H) : rMin [.int i, .int j] H Q := ⟨i, j, rfl, h⟩
def rBoolB : List V → Hp → VK → Prop := fun xs H Q => ∃ k, xs = [.bl k] ∧ Q (.bl k) H
theorem call_boolB {X : Cx} : CallR X (.type "bool") rBoolB := fun pins s σ H xs us Q I r ⟨k, e, q⟩ => call_bool1 pins s σ H xs us Q I r (.inr ⟨k, e, q⟩)
theorem i_boolB {k : Bool} (h : Q (.bl k) H) : rBoolB [.bl k] H Q := ⟨k, rfl, h⟩
theorem eqv2 (i j k l : Int) : PyData.eqv (.tuple [.int i, .int j]) (.tuple [.int k, .int l]) = decide (i = k ∧ j = l) := by
  show (i == k && (j == l && true)) = _
  by_cases h1 : i = k <;> by_cases h2 : j = l <;> simp [h1, h2]
theorem i_neD2 {K : PySem.W.Frag} {p q : Addr} {i j k l : Int} (hp : SqT K H p [.int i, .int j]) (hq : SqT K H q [.int k, .int l]) (h : Q (.bl (!decide (i = k ∧ j = l))) H) : rNeD K (.ref p) (.ref q) H Q :=
  ⟨_, _, .tup hp (.cons (.int _) (.cons (.int _) .nil)), .tup hq (.cons (.int _) (.cons (.int _) .nil)), rfl, rfl, by rw [eqv2]; exact h⟩
theorem i_glst {K : PySem.W.Frag} {n : Nat} {tg : TGs} {p : Addr} {xs : List V} {R : St → Hp → Prop} (hx : SqL K H p xs) (hn : xs.length = n) (h : tg xs σ H R) : gLst K n tg (.ref p) σ H R := ⟨p, xs, rfl, hx, hn, h⟩
theorem i_own {C p q : Addr} {sp : Sp} {fs gs : List (Str × V)} (hp : IsI C H p fs) (hq : IsI C H q gs) (h : sp [.ref p, .ref q] H Q EF) : rOwn C sp (.ref p) (.ref q) H Q := by
  obtain ⟨dx, hp⟩ := hp; obtain ⟨dy, hq⟩ := hq
  exact ⟨p, dx, fs, rfl, hp, ⟨q, dy, gs, rfl, hq⟩, h⟩
theorem i_ownI {C p : Addr} {sp : Sp} {fs : List (Str × V)} {i : Int} (hp : IsI C H p fs) (h : sp [.ref p, .int i] H Q EF) : rOwnI C sp (.ref p) (.int i) H Q := by
  obtain ⟨dx, hp⟩ := hp
  exact ⟨p, dx, fs, i, rfl, hp, rfl, h⟩
theorem i_iOwn {C p : Addr} {sp : Sp} {fs : List (Str × V)} {i : Int} (hp : IsI C H p fs) (h : sp [.ref p, .int i] H Q EF) : rIOwn C sp (.int i) (.ref p) H Q := by
  obtain ⟨dx, hp⟩ := hp
  exact ⟨p, dx, fs, i, rfl, hp, rfl, h⟩
theorem i_un1 {C p : Addr} {sp : Sp} {fs : List (Str × V)} (hp : IsI C H p fs) (h : sp [.ref p] H Q EF) : rUn1 C sp (.ref p) H Q := by
  obtain ⟨dx, hp⟩ := hp
  exact ⟨p, dx, fs, rfl, hp, h⟩
theorem i_unC {C p : Addr} {sp : Sp} {fs : List (Str × V)} (hp : IsI C H p fs) (h : sp [.ref p] H Q EF) : rUnC C sp [.ref p] H Q := by
  obtain ⟨dx, hp⟩ := hp
  exact ⟨p, dx, fs, rfl, hp, h⟩
theorem ins_ty {K : PySem.W.Frag} {C p : Addr} {fs : List (Str × V)} (c : C8.InsC K C) (h : IsI C H p fs) : TyX K H (.ref p) (.ref C) := by
  obtain ⟨dx, h⟩ := h
  exact .base (.ins h c.cl c.ha c.hn c.htk c.hm)
theorem at_i {α : Type} {f : α → V} {xs : List α} {i : Nat} (h : i < xs.length) : ∃ x, xs[i]? = some x ∧ atI (xs.map f) (0 + (i : Int)) = some (f x) := by
  refine ⟨xs[i], List.getElem?_eq_getElem h, ?_⟩
  rw [Int.zero_add]
  exact atI_nat (by rw [List.getElem?_map, List.getElem?_eq_getElem h]; rfl)
theorem at_nn {α : Type} {f : α → V} {xs : List α} {i : Int} (h0 : 0 ≤ i) (h : i < xs.length) : ∃ x, xs[i.toNat]? = some x ∧ atI (xs.map f) i = some (f x) := by
  obtain ⟨n, rfl⟩ := Int.eq_ofNat_of_zero_le h0
  have := at_i (f := f) (xs := xs) (i := n) (by omega)
  rw [Int.zero_add] at this
  exact this
theorem at_getD {xs : List Int} {q : Int} (h0 : 0 ≤ q) (h1 : q < xs.length) : atI (xs.map V.int) q = some (V.int (xs.getD q.toNat 0)) := by
  obtain ⟨x, e1, e2⟩ := at_nn (f := V.int) h0 h1
  rw [e2, List.getD_eq_getElem?_getD, e1]; rfl
/-- addresses of a list's items, with what stands there -/
inductive Items {α : Type} (F : Hp → Addr → α → Prop) (H : Hp) : List Addr → List α → Prop
  | nil : Items F H [] []
  | cons {p : Addr} {ps : List Addr} {x : α} {xs : List α} : F H p x → Items F H ps xs → Items F H (p :: ps) (x :: xs)
theorem Items.map {α : Type} {F : Hp → Addr → α → Prop} {H' : Hp} (k : ∀ p x, F H p x → F H' p x) : ∀ {ps : List Addr} {xs : List α}, Items F H ps xs → Items F H' ps xs
  | _, _, .nil => .nil
  | _, _, .cons h r => .cons (k _ _ h) (r.map k)
theorem Items.len {α : Type} {F : Hp → Addr → α → Prop} : ∀ {ps : List Addr} {xs : List α}, Items F H ps xs → ps.length = xs.length
  | _, _, .nil => rfl
  | _, _, .cons _ r => by rw [List.length_cons, List.length_cons, r.len]
theorem Items.get {α : Type} {F : Hp → Addr → α → Prop} : ∀ {ps : List Addr} {xs : List α} {i : Nat} {x : α}, Items F H ps xs → xs[i]? = some x → ∃ p, ps[i]? = some p ∧ F H p x
  | _, _, 0, _, .cons h _, e => by cases e; exact ⟨_, rfl, h⟩
  | _, _, i + 1, _, .cons _ r, e => by
    rw [List.getElem?_cons_succ] at e
    obtain ⟨p, e1, e2⟩ := r.get e
    exact ⟨p, by rw [List.getElem?_cons_succ]; exact e1, e2⟩
/-- a list of objects -/
def LO {α : Type} (F : Hp → Addr → α → Prop) (H : Hp) (p : Addr) (xs : List α) : Prop := ∃ ps, H p = some (.lst (ps.map V.ref)) ∧ Items F H ps xs
theorem ext_LO {α : Type} {F : Hp → Addr → α → Prop} {H' : Hp} {p : Addr} {xs : List α} (k : ∀ p x, F H p x → F H' p x) (e : Ext H H') (h : LO F H p xs) : LO F H' p xs := by
  obtain ⟨ps, h1, h2⟩ := h
  exact ⟨ps, e _ _ (stab_ref _) h1, h2.map k⟩
theorem same_LO {α : Type} {F : Hp → Addr → α → Prop} {H' : Hp} {p : Addr} {xs : List α} (k : ∀ p x, F H p x → F H' p x) (e : Same H H') (h : LO F H p xs) : LO F H' p xs := by
  obtain ⟨ps, h1, h2⟩ := h
  exact ⟨ps, e _ _ h1, h2.map k⟩
theorem LO.sq {K : PySem.W.Frag} {α : Type} {F : Hp → Addr → α → Prop} {p : Addr} {xs : List α} (h : LO F H p xs) : ∃ vs, SqL K H p vs ∧ vs.length = xs.length := by
  obtain ⟨ps, h1, h2⟩ := h
  exact ⟨_, .of h1, by rw [List.length_map]; exact h2.len⟩
theorem LO.at {K : PySem.W.Frag} {α : Type} {F : Hp → Addr → α → Prop} {p : Addr} {xs : List α} {i : Nat} {x : α} (h : LO F H p xs) (e : xs[i]? = some x) : ∃ vs q, SqL K H p vs ∧ atI vs (0 + (i : Int)) = some (.ref q) ∧ F H q x := by
  obtain ⟨ps, h1, h2⟩ := h
  obtain ⟨q, e1, e2⟩ := h2.get e
  exact ⟨_, q, .of h1, by rw [Int.zero_add]; exact atI_nat (by rw [List.getElem?_map, e1]; rfl), e2⟩
theorem LO.ty {K : PySem.W.Frag} {α : Type} {F : Hp → Addr → α → Prop} {p : Addr} {xs : List α} (h : LO F H p xs) : TyX K H (.ref p) (.type "list") := by
  obtain ⟨ps, h1, h2⟩ := h
  exact .base (.lst h1)
theorem i_lenO {K : PySem.W.Frag} {α : Type} {F : Hp → Addr → α → Prop} {p : Addr} {xs : List α} (h : LO F H p xs) (k : Q (.int xs.length) H) : rLenS K [.ref p] H Q := by
  obtain ⟨vs, h1, h2⟩ := h.sq (K := K)
  exact ⟨p, vs, rfl, .inl h1, by rw [h2]; exact k⟩
/-- a pair of ints -/
def IsP (H : Hp) (p : Addr) (q : Int × Int) : Prop := H p = some (.tup [.int q.1, .int q.2])
theorem same_P {H' : Hp} {p : Addr} {q : Int × Int} (e : Same H H') (h : IsP H p q) : IsP H' p q := e _ _ h
theorem ext_P {H' : Hp} {p : Addr} {q : Int × Int} (e : Ext H H') (h : IsP H p q) : IsP H' p q := e _ _ trivial h
end
theorem OkD.dfl {P : Program} {w : World} {K : PySem.W.Frag} {mg : Str → Option Value} {base : Heap} {k : Nat} {f : Addr} {ps : List Str} {sp : Sp} {x qual : Str} {params : Arguments} {body : List Stmt} {scope : Scope} {dvs : List V} {fd : FuncData}
    (F : FunD K x qual params body scope dvs [] f fd) (n j : Nat) (hd : dvs ≠ []) (hn : n + (dvs.length - j) = ps.length)
    (h : ∀ (T : Addr) (kV doc pm : Value) (an : Option Addr) (cdv ct : Value) (us its : List Value), us.length = n → its.length = dvs.length →
      ∃ k, bindArgs (PySem.W.fnOf x qual params body scope (.ref T) kV doc pm an cdv ct) ⟨us, []⟩ = seqItems? (.ref T) >>= k ∧ k (some its.toArray) = pure (ps.zip (us ++ its.drop j))) (R : FnOk P w K mg base (L2.CX P w) k f fd ps sp) : OkD P w K mg base k f ps (dvs.drop j) sp := by
  obtain ⟨ds, vd, b⟩ := F.binds1 n j hd hn h
  exact ⟨fd, ds, F.kp, b, vd, R⟩
section
variable {X : Cx} {k : Nat} {f C : Addr} {ps : List Str} {dvs : List V} {sp : Sp} {x : Str} {p pos : Pos} {e : Expr} {es : List Expr} {t : TA} {G : List Str}
theorem pcM (M : Mk X.K C f) (F : OkD X.prog X.w X.K X.mg X.base k f ps dvs sp) (hr : Room (k + 1) X.A) (hg : glB G X.env.scope = true) (n : Nat) (hm : X.mg x = some (.ref C)) (ha : PA X (e :: es) t) (hx : G[n]? = some x := by rfl)
    (he : starEach (e :: es) X.env = (false, eval e X.env) :: starEach es X.env := by rfl) (hpl : (backTo pos (starEach es X.env)).any (·.1) = false := by rfl) : PE X (.Call (.Name x p) (e :: es) [] pos) (tMake C sp dvs EF t) := by
  obtain ⟨fd, ds, kp, b, vd, F⟩ := F
  exact pe_make M F hr (gl_of hg hx).1 hm b vd (fun _ _ _ _ _ _ _ q => (cxF q).elim) ha (gl_of hg hx).2.1 he hpl
end
end Z
namespace Z
open PySem PySem.Spec L2
open PyProof.Rows hiding St
theorem i_blq {F : Bool → Prop} {a b : Bool} (e : a = b) (h : F b) : ∃ k, V.bl a = .bl k ∧ F k := ⟨b, by rw [e], h⟩
theorem i_lenM {K : PySem.W.Frag} {α : Type} {f : α → V} {p : Addr} {xs : List α} {H : Hp} {Q : VK} (hx : SqL K H p (xs.map f)) (h : Q (.int xs.length) H) : rLenS K [.ref p] H Q := ⟨p, _, rfl, .inl hx, by rw [List.length_map]; exact h⟩
def insB (K : PySem.W.Frag) (C : Addr) : Bool := He.eqO (PySem.W.findIn K (.ref C) "__class__") (some (some (.builtin "object.__class__"))) && (He.eqO (PySem.W.specialIn K (.builtin "object.__class__") "__get__") (some (some (.builtin "getset_descriptor.__get__"))) &&
  (decide (PySem.W.takesIn K (.builtin "object.__class__") = some true) && (decide (PySem.W.mroIn K C (.type "object") = some true) && decide (PySem.W.kitOne K (.ref C) (.ref C) = some true))))
theorem insB_ok {K : PySem.W.Frag} {C : Addr} (c : Cls K C) (h : insB K C = true) : C8.InsC K C := by
  obtain ⟨h1, h⟩ := He.ba h
  obtain ⟨h2, h⟩ := He.ba h
  obtain ⟨h3, h⟩ := He.ba h
  obtain ⟨h4, h5⟩ := He.ba h
  exact ⟨c, He.eqO_ok h1, He.eqO_ok h2, of_decide_eq_true h3, of_decide_eq_true h4, of_decide_eq_true h5⟩
def binB (K : PySem.W.Frag) (C : Addr) (nm : String) (f : Addr) : Bool := PySem.W.selfFirst K C && (He.eqO (PySem.W.findIn K (.ref C) (PySem.dunder nm)) (some (some (.ref f))) && PySem.W.isFn K (.ref f))
theorem binB_ok {K : PySem.W.Frag} {C : Addr} {nm : String} {f : Addr} (h : binB K C nm f = true) : BinF K C nm f := by
  obtain ⟨h1, h⟩ := He.ba h
  obtain ⟨h2, h3⟩ := He.ba h
  exact ⟨h1, He.eqO_ok h2, h3⟩
def refB (K : PySem.W.Frag) (C : Addr) (nm : String) (f g : Addr) : Bool := PySem.W.selfFirst K C && (He.eqO (PySem.W.findIn K (.ref C) (PySem.dunder nm)) (some (some (.ref f))) && (He.eqO (PySem.W.findIn K (.ref C) (dunderR nm)) (some (some (.ref g))) && (PySem.W.isFn K (.ref g) && decide (PySem.W.subIn K (.ref C) (.type "int") = some false))))
theorem refB_ok {K : PySem.W.Frag} {C : Addr} {nm : String} {f g : Addr} (h : refB K C nm f g = true) : RefF K C nm f g := by
  obtain ⟨h1, h⟩ := He.ba h
  obtain ⟨h2, h⟩ := He.ba h
  obtain ⟨h3, h⟩ := He.ba h
  obtain ⟨h4, h5⟩ := He.ba h
  exact ⟨h1, He.eqO_ok h2, He.eqO_ok h3, h4, of_decide_eq_true h5⟩
def isSm : Option (Option Value) → Bool
  | some _ => true
  | none => false
theorem isSm_ok {o : Option (Option Value)} (h : isSm o = true) : ∃ v, o = some v := by
  cases o with
  | none => cases h
  | some v => exact ⟨v, rfl⟩
def binIB (K : PySem.W.Frag) (C : Addr) (nm : String) (g : Addr) : Bool := He.eqO (PySem.W.findIn K (.ref C) (dunderR nm)) (some (some (.ref g))) && (isSm (PySem.W.findIn K (.type "int") (PySem.dunder nm)) && (isSm (PySem.W.findIn K (.type "int") (dunderR nm)) && decide (PySem.W.subIn K (.type "int") (.ref C) = some false)))
theorem binIB_ok {K : PySem.W.Frag} {C : Addr} {nm : String} {g : Addr} (h : binIB K C nm g = true) : ∃ rc fo ro, BinI K C nm rc fo ro := by
  obtain ⟨h1, h⟩ := He.ba h
  obtain ⟨h2, h⟩ := He.ba h
  obtain ⟨h3, h4⟩ := He.ba h
  obtain ⟨fo, e2⟩ := isSm_ok h2
  obtain ⟨ro, e3⟩ := isSm_ok h3
  exact ⟨_, fo, ro, He.eqO_ok h1, .inr ⟨g, rfl⟩, e2, e3, of_decide_eq_true h4⟩
section
variable {X : Cx} {C : Addr} {f g : Addr} {k : Nat} {ps : List Str} {sp : Sp} {op : Operator}
theorem op_ownIx (b : BinF X.K C op.info.2 f) (bi : ∃ rc fo ro, BinI X.K C op.info.2 rc fo ro) (F : OkD X.prog X.w X.K X.mg X.base k f ps [] sp) (hr : Room k X.A) : OpR X (binaryOp op) (rOwnI C sp) := by
  obtain ⟨_, _, _, bi⟩ := bi
  exact op_ownI b bi F hr
end
end Z

/-! ### comparisons of an own class -/
namespace Z
open PySem PySem.W PySem.Calls PySem.Spec L2
open PyProof.Rows hiding St
/-- the class's own method nm (a comparison's) -/
structure CmpF (K : PySem.W.Frag) (C : Addr) (nm : Str) (f : Addr) : Prop where
  at_ : PySem.W.findIn K (.ref C) nm = some (some (.ref f))
  fn : PySem.W.isFn K (.ref f) = true
/-- its own __eq__, object's __ne__ -/
structure NeF (K : PySem.W.Frag) (C f : Addr) : Prop where
  eq : CmpF K C "__eq__" f
  ne : PySem.W.findIn K (.ref C) "__ne__" = some (some (.builtin "object.__ne__"))
  hm : PySem.W.mroIn K C (.type "object") = some true
section
variable {prog : Program} {w : World} {M : Model} {A : Around} {E : Value → Shared → Prop} {s : Shared} {K : PySem.W.Frag} {x C f g dx : Addr} {ox : Obj} {od : Option Obj} {b tb : Value} {t : Tok}
theorem ne_entry {Q : Fin → Shared → Prop} (hu : A.units < cLine) (X : K.In s.heap) (I : PySem.W.InstAt s.heap x ox C od) (e : CmpF K C "__eq__" f)
    (h : wpAny (model prog w) A (call (.ref f) [.ref x, b]) (fun v s' => ∃ k, v = .bool k ∧ Q (.done (.ret (.bool (!k)))) s') E s) : wpAny (model prog w) A (Builtin.«object.__ne__» ⟨[.ref x, b], []⟩) Q E s := by
  unfold Builtin.«object.__ne__»
  repeat (first
    | with_reducible refine wpAny_cRoomFor hu ?_
    | (refine wpAny_bind (m := callSpecialIfBound? (.ref x) (Str.ofString "__eq__") [b])
        (PySem.W.ifBound_K X I e.at_ e.fn (wpAny_mono h (fun r s' hr => by
          obtain ⟨k, rfl, hq⟩ := hr
          repeat (first | exact hq | exact wpAny_pure hq | exact wpAny_truthy_bool hq | (refine wpAny_bind (m := truthy (.bool _)) (wpAny_truthy_bool ?_)) | wp_step)) fun _ _ e => e)))
    | wp_step)
theorem try_ne {Q : Option Value → Shared → Prop} (hu : A.units + 1 < cLine) (X : K.In s.heap) (I : PySem.W.InstAt s.heap x ox C od) (n : NeF K C f)
    (h : wpAny (model prog w) A.in1 (call (.ref f) [.ref x, b]) (fun v s' => ∃ k, v = .bool k ∧ Q (some (.bool (!k))) s') E s) : wpAny (model prog w) A (tryCompare (.ref x) "__ne__" b) Q E s := by
  have one : wpAny (model prog w) A (call (.builtin "object.__ne__") [.ref x, b]) (fun v s' => ∃ k, v = .bool (!k) ∧ Q (some (.bool (!k))) s') E s :=
    wpAny_call (codeAny_call_builtin F.cmp_object.ne.plain F.cmpEntry_ne (PySem.W.check_slot F.cmpKind_ne F.cmpSplit_ne (I.type.andThen (PySem.W.looks_mroIn X n.hm)) (F.cmpArgs_ne _ _)
      (ne_entry (A := A.in1) hu X I n.eq (wpAny_mono h (fun v s' hv => by obtain ⟨k, rfl, q⟩ := hv; exact ⟨k, rfl, k, rfl, q⟩) fun _ _ e => e))))
  simp only [tryCompare, callSpecialIfBound?, bindSpecialIfBound?]
  refine wpAny_bind (wpAny_holding (wpAny_bind (wpAny_bind (wpAny_bind (I.type.here ((PySem.W.looks_findIn X n.ne).here ?_))))))
  refine wpAny_bind (wpAny_askSetting (wpAny_ite ?_))
  have fin : ∀ (R : Option Value → Shared → Prop), (∀ k s', Q (some (.bool (!k))) s' → R (some (.bool (!k))) s') → wpAny (model prog w) A (call (.builtin "object.__ne__") ([.ref x] ++ [b]) >>= fun v => pure (some v)) R E s := fun R hR => wpAny_bind (wpAny_mono one (fun v s' h' => by
    obtain ⟨k, rfl, q⟩ := h'
    exact wpAny_pure (hR k s' q)) fun _ _ h' => h')
  split
  · exact wpAny_bind (wpAny_of_eq (F.cmp_object.ne.bind _) (wpAny_pure (by exact fin _ fun k s' q => wpAny_pure q)))
  · exact wpAny_tryCatch (wpAny_bind (wpAny_of_eq (F.cmp_object.ne.bind _) (wpAny_pure (by exact fin _ fun k s' q => wpAny_pure q))))
end
section
variable {prog : Program} {w : World} {M : Model} {A : Around} {E : Value → Shared → Prop} {s : Shared} {K : PySem.W.Frag} {x C f g dx l : Addr} {ox : Obj} {od : Option Obj} {b tb : Value} {t : Tok} {i : Int} {z : Str} {T : String}
theorem dec_int_eq {P : Fin → Shared → Prop} (hx : s.heap.get? x = some (PySem.W.instObj C dx)) (h : P (.done (.ret .notImplemented)) s) : wpAny M A (Builtin.«int.__eq__» ⟨[.int i t, .ref x], []⟩) P E s := by
  obtain ⟨hp, g, d, tk, os⟩ := s
  unfold PySem.W.instObj at hx
  wp_walk
  exact h
theorem dec_str_eq {P : Fin → Shared → Prop} (hx : s.heap.get? x = some (PySem.W.instObj C dx)) (h : P (.done (.ret .notImplemented)) s) : wpAny M A (Builtin.«str.__eq__» ⟨[.str z t, .ref x], []⟩) P E s := by
  obtain ⟨hp, g, d, tk, os⟩ := s
  unfold PySem.W.instObj at hx
  wp_walk
  exact h
theorem dec_NoneType_eq {P : Fin → Shared → Prop} (hx : s.heap.get? x = some (PySem.W.instObj C dx)) (h : P (.done (.ret .notImplemented)) s) : wpAny M A (Builtin.«NoneType.__eq__» ⟨[.none, .ref x], []⟩) P E s := by
  obtain ⟨hp, g, d, tk, os⟩ := s
  unfold PySem.W.instObj at hx
  wp_walk
  exact h
theorem dec_list_eq {P : Fin → Shared → Prop} {dd : Option Addr} {its : Array Value} {n : Nat} {sl : Array (Option Value)} (X : K.In s.heap) (hn : PySem.W.subIn K (.ref C) (.type "list") = some false) (hl : s.heap.get? l = some ⟨.type "list", dd, .seq its n, sl⟩) (hx : s.heap.get? x = some (PySem.W.instObj C dx)) (h : P (.done (.ret .notImplemented)) s) : wpAny M A (Builtin.«list.__eq__» ⟨[.ref l, .ref x], []⟩) P E s := by
  obtain ⟨hp, g, d, tk, os⟩ := s
  unfold PySem.W.instObj at hx
  wp_walk
  refine (PySem.W.looks_subIn X hn).here ?_
  simp only [Bool.not_false, if_true]
  exact wpAny_pure h
theorem dec_tuple_eq {P : Fin → Shared → Prop} {dd : Option Addr} {its : Array Value} {n : Nat} {sl : Array (Option Value)} (X : K.In s.heap) (hn : PySem.W.subIn K (.ref C) (.type "tuple") = some false) (hl : s.heap.get? l = some ⟨.type "tuple", dd, .seq its n, sl⟩) (hx : s.heap.get? x = some (PySem.W.instObj C dx)) (h : P (.done (.ret .notImplemented)) s) : wpAny M A (Builtin.«tuple.__eq__» ⟨[.ref l, .ref x], []⟩) P E s := by
  obtain ⟨hp, g, d, tk, os⟩ := s
  unfold PySem.W.instObj at hx
  wp_walk
  refine (PySem.W.looks_subIn X hn).here ?_
  simp only [Bool.not_false, if_true]
  exact wpAny_pure h
theorem dec_int_ne {P : Fin → Shared → Prop} (hx : s.heap.get? x = some (PySem.W.instObj C dx)) (h : P (.done (.ret .notImplemented)) s) : wpAny M A (Builtin.«int.__ne__» ⟨[.int i t, .ref x], []⟩) P E s := by
  obtain ⟨hp, g, d, tk, os⟩ := s
  unfold PySem.W.instObj at hx
  wp_walk
  exact h
theorem dec_str_ne {P : Fin → Shared → Prop} (hx : s.heap.get? x = some (PySem.W.instObj C dx)) (h : P (.done (.ret .notImplemented)) s) : wpAny M A (Builtin.«str.__ne__» ⟨[.str z t, .ref x], []⟩) P E s := by
  obtain ⟨hp, g, d, tk, os⟩ := s
  unfold PySem.W.instObj at hx
  wp_walk
  exact h
theorem dec_NoneType_ne {P : Fin → Shared → Prop} (hx : s.heap.get? x = some (PySem.W.instObj C dx)) (h : P (.done (.ret .notImplemented)) s) : wpAny M A (Builtin.«NoneType.__ne__» ⟨[.none, .ref x], []⟩) P E s := by
  obtain ⟨hp, g, d, tk, os⟩ := s
  unfold PySem.W.instObj at hx
  wp_walk
  exact h
theorem dec_list_ne {P : Fin → Shared → Prop} {dd : Option Addr} {its : Array Value} {n : Nat} {sl : Array (Option Value)} (X : K.In s.heap) (hn : PySem.W.subIn K (.ref C) (.type "list") = some false) (hl : s.heap.get? l = some ⟨.type "list", dd, .seq its n, sl⟩) (hx : s.heap.get? x = some (PySem.W.instObj C dx)) (h : P (.done (.ret .notImplemented)) s) : wpAny M A (Builtin.«list.__ne__» ⟨[.ref l, .ref x], []⟩) P E s := by
  obtain ⟨hp, g, d, tk, os⟩ := s
  unfold PySem.W.instObj at hx
  wp_walk
  refine (PySem.W.looks_subIn X hn).here ?_
  simp only [Bool.not_false, if_true]
  exact wpAny_pure h
theorem dec_tuple_ne {P : Fin → Shared → Prop} {dd : Option Addr} {its : Array Value} {n : Nat} {sl : Array (Option Value)} (X : K.In s.heap) (hn : PySem.W.subIn K (.ref C) (.type "tuple") = some false) (hl : s.heap.get? l = some ⟨.type "tuple", dd, .seq its n, sl⟩) (hx : s.heap.get? x = some (PySem.W.instObj C dx)) (h : P (.done (.ret .notImplemented)) s) : wpAny M A (Builtin.«tuple.__ne__» ⟨[.ref l, .ref x], []⟩) P E s := by
  obtain ⟨hp, g, d, tk, os⟩ := s
  unfold PySem.W.instObj at hx
  wp_walk
  refine (PySem.W.looks_subIn X hn).here ?_
  simp only [Bool.not_false, if_true]
  exact wpAny_pure h
theorem cmp_fo {op : CmpOp} {Q : Value → Shared → Prop} (hu : A.units < cLine) (X : K.In s.heap) (I : PySem.W.InstAt s.heap x ox C od) (hT : s.TypeIs b T) (hn : PySem.W.subIn K (.type T) (.ref C) = some false) (c : CmpF K C (cmpInfo op).2.1 f)
    (h : wpAny (model prog w) A (call (.ref f) [.ref x, b]) (PySem.W.CmpBack Q) E s) : wpAny (model prog w) A (richCompare op (.ref x) b) Q E s := by
  have one : wpAny (model prog w) A (tryCompare (.ref x) (cmpInfo op).2.1 b) (fun r s' => ∃ v, r = some v ∧ Q v s') E s := by
    unfold tryCompare
    refine wpAny_bind (PySem.W.ifBound_K X I c.at_ c.fn (wpAny_mono h (fun v s' hv => ?_) fun _ _ e => e))
    cases v <;> first | exact hv.elim | exact wpAny_pure ⟨_, rfl, hv⟩
  unfold richCompare
  simp only [oneThing_ref]
  refine wpAny_holding (wpAny_bind (wpAny_cRoomFor hu ?_))
  refine wpAny_bind (I.type.here (wpAny_bind (wpAny_typeOf hT ?_)))
  have hne : (Value.ref C != Value.type T) = true := by simp
  simp only [hne, if_true]
  refine wpAny_bind ((PySem.W.looks_subIn X hn).here ?_)
  simp only [Bool.false_eq_true, if_false]
  refine wpAny_bind (wpAny_mono one (fun r s' z => ?_) fun _ _ e => e)
  obtain ⟨v, rfl, hq⟩ := z
  exact wpAny_pure hq
theorem ne_fo {Q : Value → Shared → Prop} (hu : A.units + 1 < cLine) (X : K.In s.heap) (I : PySem.W.InstAt s.heap x ox C od) (hT : s.TypeIs b T) (hn : PySem.W.subIn K (.type T) (.ref C) = some false) (n : NeF K C f)
    (h : wpAny (model prog w) A.in1 (call (.ref f) [.ref x, b]) (fun v s' => ∃ k, v = .bool k ∧ Q (.bool (!k)) s') E s) : wpAny (model prog w) A (richCompare .NotEq (.ref x) b) Q E s := by
  unfold richCompare
  simp only [oneThing_ref]
  refine wpAny_holding (wpAny_bind (wpAny_cRoomFor (by omega) ?_))
  refine wpAny_bind (I.type.here (wpAny_bind (wpAny_typeOf hT ?_)))
  have hne : (Value.ref C != Value.type T) = true := by simp
  simp only [hne, if_true]
  refine wpAny_bind ((PySem.W.looks_subIn X hn).here ?_)
  simp only [Bool.false_eq_true, if_false]
  rw [cmpInfo_NotEq]
  refine wpAny_bind (try_ne hu X I n (wpAny_mono h (fun v s' hv => ?_) fun _ _ e => e))
  obtain ⟨k, rfl, q⟩ := hv
  exact ⟨k, rfl, wpAny_pure q⟩
theorem ne_own {Q : Value → Shared → Prop} (hu : A.units + 1 < cLine) (X : K.In s.heap) (I : PySem.W.InstAt s.heap x ox C od) {y : Addr} {oy : Obj} {oe : Option Obj} (J : PySem.W.InstAt s.heap y oy C oe) (n : NeF K C f)
    (h : wpAny (model prog w) A.in1 (call (.ref f) [.ref x, .ref y]) (fun v s' => ∃ k, v = .bool k ∧ Q (.bool (!k)) s') E s) : wpAny (model prog w) A (richCompare .NotEq (.ref x) (.ref y)) Q E s := by
  unfold richCompare
  simp only [oneThing_ref]
  refine wpAny_holding (wpAny_bind (wpAny_cRoomFor (by omega) ?_))
  refine wpAny_bind (I.type.here (wpAny_bind (J.type.here ?_)))
  have hne : (Value.ref C != Value.ref C) = false := by simp
  simp only [hne, Bool.false_eq_true, if_false]
  refine wpAny_bind (wpAny_pure ?_)
  simp only [Bool.false_eq_true, if_false]
  rw [cmpInfo_NotEq]
  refine wpAny_bind (try_ne hu X I n (wpAny_mono h (fun v s' hv => ?_) fun _ _ e => e))
  obtain ⟨k, rfl, q⟩ := hv
  exact ⟨k, rfl, wpAny_pure q⟩
/-- a foreign value at the left: it declines, then the own class is asked -/
theorem fo_eq {Q : Value → Shared → Prop} (hu : A.units < cLine) (X : K.In s.heap) (I : PySem.W.InstAt s.heap x ox C od) (hT : s.TypeIs b T) (hn : PySem.W.subIn K (.ref C) (.type T) = some false) (c : CmpF K C "__eq__" f)
    (d : ∀ R : Option Value → Shared → Prop, R none s → wpAny (model prog w) A (tryCompare b "__eq__" (.ref x)) R E s)
    (h : wpAny (model prog w) A (call (.ref f) [.ref x, b]) (PySem.W.CmpBack Q) E s) : wpAny (model prog w) A (richCompare .Eq b (.ref x)) Q E s := by
  have one : wpAny (model prog w) A (tryCompare (.ref x) "__eq__" b) (fun r s' => ∃ v, r = some v ∧ Q v s') E s := by
    unfold tryCompare
    refine wpAny_bind (PySem.W.ifBound_K X I c.at_ c.fn (wpAny_mono h (fun v s' hv => ?_) fun _ _ e => e))
    cases v <;> first | exact hv.elim | exact wpAny_pure ⟨_, rfl, hv⟩
  unfold richCompare
  simp only [hT.oneThing_none]
  refine wpAny_holding (wpAny_bind (wpAny_cRoomFor hu ?_))
  refine wpAny_bind (wpAny_typeOf hT (wpAny_bind (I.type.here ?_)))
  have hne : (Value.type T != Value.ref C) = true := by simp
  simp only [hne, if_true]
  refine wpAny_bind ((PySem.W.looks_subIn X hn).here ?_)
  simp only [Bool.false_eq_true, if_false]
  rw [cmpInfo_Eq]
  refine wpAny_bind (d _ ?_)
  simp only [Bool.not_false, if_true]
  refine wpAny_bind (wpAny_mono one (fun r s' z => ?_) fun _ _ e => e)
  obtain ⟨v, rfl, hq⟩ := z
  exact wpAny_pure hq
theorem fo_ne {Q : Value → Shared → Prop} (hu : A.units + 1 < cLine) (X : K.In s.heap) (I : PySem.W.InstAt s.heap x ox C od) (hT : s.TypeIs b T) (hn : PySem.W.subIn K (.ref C) (.type T) = some false) (n : NeF K C f)
    (d : ∀ R : Option Value → Shared → Prop, R none s → wpAny (model prog w) A (tryCompare b "__ne__" (.ref x)) R E s)
    (h : wpAny (model prog w) A.in1 (call (.ref f) [.ref x, b]) (fun v s' => ∃ k, v = .bool k ∧ Q (.bool (!k)) s') E s) : wpAny (model prog w) A (richCompare .NotEq b (.ref x)) Q E s := by
  unfold richCompare
  simp only [hT.oneThing_none]
  refine wpAny_holding (wpAny_bind (wpAny_cRoomFor (by omega) ?_))
  refine wpAny_bind (wpAny_typeOf hT (wpAny_bind (I.type.here ?_)))
  have hne : (Value.type T != Value.ref C) = true := by simp
  simp only [hne, if_true]
  refine wpAny_bind ((PySem.W.looks_subIn X hn).here ?_)
  simp only [Bool.false_eq_true, if_false]
  rw [cmpInfo_NotEq]
  refine wpAny_bind (d _ ?_)
  simp only [Bool.not_false, if_true]
  refine wpAny_bind (try_ne hu X I n (wpAny_mono h (fun v s' hv => ?_) fun _ _ e => e))
  obtain ⟨k, rfl, q⟩ := hv
  exact ⟨k, rfl, wpAny_pure q⟩
end
end Z
namespace Z
open PySem PySem.W PySem.Calls PySem.Spec L2
open PyProof.Rows hiding St
/-- a value of a built-in type, and the type -/
inductive Fo (H : Hp) : V → String → Prop
  | int (i : Int) : Fo H (.int i) "int"
  | str (z : Str) : Fo H (.str z) "str"
  | non : Fo H .non "NoneType"
  | tup {a : Addr} {xs : List V} (e : H a = some (.tup xs)) : Fo H (.ref a) "tuple"
  | lst {a : Addr} {xs : List V} (e : H a = some (.lst xs)) : Fo H (.ref a) "list"
section
variable {X : Cx} {pins : List (Addr × Obj)} {σ : L2.St} {H : Hp} {s : Shared} {y : V} {v : Value} {T : String} {A : Around} {E : Value → Shared → Prop} {C x : Addr}
theorem fo_lst (I : Inv X pins σ H s) {a : Addr} {xs : List V} (e : H a = some (.lst xs)) : ∃ dd its n sl, s.heap.get? a = some ⟨.type "list", dd, .seq its n, sl⟩ := by
  obtain ⟨_, its, n, _, _, h⟩ := I.lstM e
  exact ⟨_, _, _, _, h⟩
theorem fo_tup (I : Inv X pins σ H s) {a : Addr} {xs : List V} (e : H a = some (.tup xs)) : ∃ dd its n sl, s.heap.get? a = some ⟨.type "tuple", dd, .seq its n, sl⟩ := by
  obtain ⟨_, _, _, o, h1, h2, n, h3⟩ := (show ObjOk X.prog X.w H s.heap a (.tup xs) from I.hok a _ e)
  obtain ⟨c, dd, d, sl⟩ := o
  cases h2
  cases h3
  exact ⟨_, _, _, _, h1⟩
theorem Fo.type (f : Fo H y T) (I : Inv X pins σ H s) (r : RelV y v) : s.TypeIs v T := by
  cases f with
  | int i => obtain ⟨t, rfl⟩ := r; exact typeIs_int s i t
  | str z => obtain ⟨t, rfl⟩ := r; exact typeIs_str s z t
  | non => cases r; rfl
  | tup e => cases r; obtain ⟨_, _, _, _, h⟩ := fo_tup I e; exact ⟨_, h, rfl⟩
  | lst e => cases r; obtain ⟨_, _, _, _, h⟩ := fo_lst I e; exact ⟨_, h, rfl⟩
theorem Fo.deq (f : Fo H y T) (I : Inv X pins σ H s) (r : RelV y v) {dx : Addr} {prog : Program} {w : World} (hx : s.heap.get? x = some (PySem.W.instObj C dx)) (hn : PySem.W.subIn X.K (.ref C) (.type T) = some false) (R : Option Value → Shared → Prop) (h : R none s) : wpAny (model prog w) A (tryCompare v "__eq__" (.ref x)) R E s := by
  have ht := f.type I r
  cases f with
  | int i => obtain ⟨t, rfl⟩ := r; exact wpAny_tryCompare_declines ht PySem.F.slot_int_eq (wpAny_call_entry PySem.F.slot_int_eq ht PySem.F.entry_int_eq (dec_int_eq hx ⟨_, rfl, rfl, h⟩) (PySem.F.args_int_eq_2 _ _))
  | str z => obtain ⟨t, rfl⟩ := r; exact wpAny_tryCompare_declines ht PySem.F.slot_str_eq (wpAny_call_entry PySem.F.slot_str_eq ht PySem.F.entry_str_eq (dec_str_eq hx ⟨_, rfl, rfl, h⟩) (PySem.F.args_str_eq_2 _ _))
  | non => cases r; exact wpAny_tryCompare_declines ht PySem.F.slot_NoneType_eq (wpAny_call_entry PySem.F.slot_NoneType_eq ht PySem.F.entry_NoneType_eq (dec_NoneType_eq hx ⟨_, rfl, rfl, h⟩) (PySem.F.args_NoneType_eq_2 _ _))
  | tup e => cases r; obtain ⟨_, _, _, _, hl⟩ := fo_tup I e; exact wpAny_tryCompare_declines ht PySem.F.slot_tuple_eq (wpAny_call_entry PySem.F.slot_tuple_eq ht PySem.F.entry_tuple_eq (dec_tuple_eq I.kIn hn hl hx ⟨_, rfl, rfl, h⟩) (PySem.F.args_tuple_eq_2 _ _))
  | lst e => cases r; obtain ⟨_, _, _, _, hl⟩ := fo_lst I e; exact wpAny_tryCompare_declines ht PySem.F.slot_list_eq (wpAny_call_entry PySem.F.slot_list_eq ht PySem.F.entry_list_eq (dec_list_eq I.kIn hn hl hx ⟨_, rfl, rfl, h⟩) (PySem.F.args_list_eq_2 _ _))
theorem Fo.dne (f : Fo H y T) (I : Inv X pins σ H s) (r : RelV y v) {dx : Addr} {prog : Program} {w : World} (hx : s.heap.get? x = some (PySem.W.instObj C dx)) (hn : PySem.W.subIn X.K (.ref C) (.type T) = some false) (R : Option Value → Shared → Prop) (h : R none s) : wpAny (model prog w) A (tryCompare v "__ne__" (.ref x)) R E s := by
  have ht := f.type I r
  cases f with
  | int i => obtain ⟨t, rfl⟩ := r; exact wpAny_tryCompare_declines ht PySem.F.slot_int_ne (wpAny_call_entry PySem.F.slot_int_ne ht PySem.F.entry_int_ne (dec_int_ne hx ⟨_, rfl, rfl, h⟩) (PySem.F.args_int_ne_2 _ _))
  | str z => obtain ⟨t, rfl⟩ := r; exact wpAny_tryCompare_declines ht PySem.F.slot_str_ne (wpAny_call_entry PySem.F.slot_str_ne ht PySem.F.entry_str_ne (dec_str_ne hx ⟨_, rfl, rfl, h⟩) (PySem.F.args_str_ne_2 _ _))
  | non => cases r; exact wpAny_tryCompare_declines ht PySem.F.slot_NoneType_ne (wpAny_call_entry PySem.F.slot_NoneType_ne ht PySem.F.entry_NoneType_ne (dec_NoneType_ne hx ⟨_, rfl, rfl, h⟩) (PySem.F.args_NoneType_ne_2 _ _))
  | tup e => cases r; obtain ⟨_, _, _, _, hl⟩ := fo_tup I e; exact wpAny_tryCompare_declines ht PySem.F.slot_tuple_ne (wpAny_call_entry PySem.F.slot_tuple_ne ht PySem.F.entry_tuple_ne (dec_tuple_ne I.kIn hn hl hx ⟨_, rfl, rfl, h⟩) (PySem.F.args_tuple_ne_2 _ _))
  | lst e => cases r; obtain ⟨_, _, _, _, hl⟩ := fo_lst I e; exact wpAny_tryCompare_declines ht PySem.F.slot_list_ne (wpAny_call_entry PySem.F.slot_list_ne ht PySem.F.entry_list_ne (dec_list_ne I.kIn hn hl hx ⟨_, rfl, rfl, h⟩) (PySem.F.args_list_ne_2 _ _))
theorem fo_sub {K : PySem.W.Frag} (f : Fo H y T) : PySem.W.subIn K (.type T) (.ref C) = some false := by
  have go : ∀ {T : String} {l : List Value}, fastBuiltinMro T = some l → l.contains (.ref C) = false → PySem.W.subIn K (.type T) (.ref C) = some false := fun {T l} e h => by
    show (fastBuiltinMro T).map (·.contains (.ref C)) = some false
    rw [e]
    show some (l.contains (.ref C)) = some false
    rw [h]
  cases f with
  | int => exact go (l := [.type "int", .type "object"]) (by decide +kernel) (by simp)
  | str => exact go (l := [.type "str", .type "object"]) (by decide +kernel) (by simp)
  | non => exact go (l := [.type "NoneType", .type "object"]) (by decide +kernel) (by simp)
  | tup => exact go (l := [.type "tuple", .type "object"]) (by decide +kernel) (by simp)
  | lst => exact go (l := [.type "list", .type "object"]) (by decide +kernel) (by simp)
end
section
variable {X : Cx} {C : Addr} {f : Addr} {k : Nat} {ps : List Str} {sp : Sp} {op : CmpOp}
def rCmpO (C : Addr) (sp : Sp) : R2 := fun x y H Q => ∃ a dx fs b dy gs, x = .ref a ∧ H a = some (.ins C dx fs) ∧ y = .ref b ∧ H b = some (.ins C dy gs) ∧ sp [x, y] H Q EF
def rCmpF (C : Addr) (sp : Sp) : R2 := fun x y H Q => ∃ a dx fs T, x = .ref a ∧ H a = some (.ins C dx fs) ∧ Fo H y T ∧ sp [x, y] H Q EF
def rCmpR (C : Addr) (sp : Sp) : R2 := fun x y H Q => ∃ a dx fs T, y = .ref a ∧ H a = some (.ins C dx fs) ∧ Fo H x T ∧ sp [y, x] H Q EF
def kNot (Q : VK) : VK := fun v H => ∃ k, v = .bl k ∧ Q (.bl (!k)) H
def rNot (r : R2) : R2 := fun x y H Q => r x y H (kNot Q)
theorem ep_not {pins : List (Addr × Obj)} {σ : L2.St} {Q : VK} {u : Value} {s' : Shared} (h : EP X pins σ (kNot Q) u s') : ∃ k, u = .bool k ∧ EP X pins σ Q (.bool (!k)) s' := by
  obtain ⟨v, H', I, r, k, rfl, q⟩ := h
  cases (show u = Value.bool k from r)
  exact ⟨k, rfl, .bl (!k), H', I, rfl, q⟩
theorem op_cmpO (c : CmpF X.K C (cmpInfo op).2.1 f) (F : OkD X.prog X.w X.K X.mg X.base k f ps [] sp) (hr : Room k X.A) (ho : ∀ a b, compareOp op a b = richCompare op a b := by intros; rfl) : OpR X (compareOp op) (rCmpO C sp) := by
  intro pins s σ H x y u v Q I rx ry h
  obtain ⟨a, dx, fs, b, dy, gs, rfl, ea, rfl, eb, q⟩ := h
  cases rx; cases ry
  obtain ⟨hx, od, J⟩ := inst_at I ea
  obtain ⟨hy, oe, J2⟩ := inst_at I eb
  obtain ⟨m, Fm⟩ := I.fr
  rw [ho]
  exact PySem.W.cmp_K hr.units0 Fm I.mod.kin J J2.type (by unfold PySem.W.notFirst; simp) c.at_ c.fn (wpAny_mono (run_ok (vs := [.ref a, .ref b]) F hr I (.cons rfl (.cons rfl .nil)) q) (fun _ _ z => ep_cmp z) fun _ _ z => z)
theorem op_cmpF (c : CmpF X.K C (cmpInfo op).2.1 f) (F : OkD X.prog X.w X.K X.mg X.base k f ps [] sp) (hr : Room k X.A) (ho : ∀ a b, compareOp op a b = richCompare op a b := by intros; rfl) : OpR X (compareOp op) (rCmpF C sp) := by
  intro pins s σ H x y u v Q I rx ry h
  obtain ⟨a, dx, fs, T, rfl, ea, fo, q⟩ := h
  cases rx
  obtain ⟨hx, od, J⟩ := inst_at I ea
  rw [ho]
  exact cmp_fo hr.units0 I.kIn J (fo.type I ry) (fo_sub fo) c (wpAny_mono (run_ok (vs := [.ref a, y]) F hr I (.cons rfl (.cons ry .nil)) q) (fun _ _ z => ep_cmp z) fun _ _ z => z)
theorem op_cmpR (c : CmpF X.K C "__eq__" f) (hs : ∀ T ∈ ["int", "str", "NoneType", "tuple", "list"], PySem.W.subIn X.K (.ref C) (.type T) = some false) (F : OkD X.prog X.w X.K X.mg X.base k f ps [] sp) (hr : Room k X.A) : OpR X (compareOp .Eq) (rCmpR C sp) := by
  intro pins s σ H x y u v Q I rx ry h
  obtain ⟨a, dx, fs, T, rfl, ea, fo, q⟩ := h
  cases ry
  obtain ⟨hx, od, J⟩ := inst_at I ea
  have hT : PySem.W.subIn X.K (.ref C) (.type T) = some false := hs T (by cases fo <;> simp)
  exact fo_eq hr.units0 I.kIn J (fo.type I rx) hT c (fun R z => fo.deq I rx hx hT R z) (wpAny_mono (run_ok (vs := [.ref a, x]) F hr I (.cons rfl (.cons rx .nil)) q) (fun _ _ z => ep_cmp z) fun _ _ z => z)
theorem op_neO (n : NeF X.K C f) (F : OkD X.prog X.w X.K X.mg X.base k f ps [] sp) (hr : Room (k + 1) X.A) : OpR X (compareOp .NotEq) (rNot (rCmpO C sp)) := by
  intro pins s σ H x y u v Q I rx ry h
  obtain ⟨a, dx, fs, b, dy, gs, rfl, ea, rfl, eb, q⟩ := h
  cases rx; cases ry
  obtain ⟨hx, od, J⟩ := inst_at I ea
  obtain ⟨hy, oe, J2⟩ := inst_at I eb
  have := hr.units
  exact ne_own (by omega) I.kIn J J2 n (wpAny_mono (run_ok1 (vs := [.ref a, .ref b]) F hr.in1 rfl I (.cons rfl (.cons rfl .nil)) q) (fun _ _ z => ep_not z) fun _ _ z => z)
theorem op_neF (n : NeF X.K C f) (F : OkD X.prog X.w X.K X.mg X.base k f ps [] sp) (hr : Room (k + 1) X.A) : OpR X (compareOp .NotEq) (rNot (rCmpF C sp)) := by
  intro pins s σ H x y u v Q I rx ry h
  obtain ⟨a, dx, fs, T, rfl, ea, fo, q⟩ := h
  cases rx
  obtain ⟨hx, od, J⟩ := inst_at I ea
  have := hr.units
  exact ne_fo (by omega) I.kIn J (fo.type I ry) (fo_sub fo) n (wpAny_mono (run_ok1 (vs := [.ref a, y]) F hr.in1 rfl I (.cons rfl (.cons ry .nil)) q) (fun _ _ z => ep_not z) fun _ _ z => z)
theorem op_neR (n : NeF X.K C f) (hs : ∀ T ∈ ["int", "str", "NoneType", "tuple", "list"], PySem.W.subIn X.K (.ref C) (.type T) = some false) (F : OkD X.prog X.w X.K X.mg X.base k f ps [] sp) (hr : Room (k + 1) X.A) : OpR X (compareOp .NotEq) (rNot (rCmpR C sp)) := by
  intro pins s σ H x y u v Q I rx ry h
  obtain ⟨a, dx, fs, T, rfl, ea, fo, q⟩ := h
  cases ry
  obtain ⟨hx, od, J⟩ := inst_at I ea
  have := hr.units
  have hT : PySem.W.subIn X.K (.ref C) (.type T) = some false := hs T (by cases fo <;> simp)
  exact fo_ne (by omega) I.kIn J (fo.type I rx) hT n (fun R z => fo.dne I rx hx hT R z) (wpAny_mono (run_ok1 (vs := [.ref a, x]) F hr.in1 rfl I (.cons rfl (.cons rx .nil)) q) (fun _ _ z => ep_not z) fun _ _ z => z)
end
section
variable {H : Hp} {Q : VK} {C p q : Addr} {sp : Sp} {fs gs : List (Str × V)} {y : V} {T : String} {b : Bool}
theorem i_cmpO (hp : IsI C H p fs) (hq : IsI C H q gs) (h : sp [.ref p, .ref q] H Q EF) : rCmpO C sp (.ref p) (.ref q) H Q := by
  obtain ⟨dx, hp⟩ := hp; obtain ⟨dy, hq⟩ := hq
  exact ⟨p, dx, fs, q, dy, gs, rfl, hp, rfl, hq, h⟩
theorem i_cmpF (hp : IsI C H p fs) (fo : Fo H y T) (h : sp [.ref p, y] H Q EF) : rCmpF C sp (.ref p) y H Q := by
  obtain ⟨dx, hp⟩ := hp
  exact ⟨p, dx, fs, T, rfl, hp, fo, h⟩
theorem i_cmpR (hp : IsI C H p fs) (fo : Fo H y T) (h : sp [.ref p, y] H Q EF) : rCmpR C sp y (.ref p) H Q := by
  obtain ⟨dx, hp⟩ := hp
  exact ⟨p, dx, fs, T, rfl, hp, fo, h⟩
theorem i_not2 {r : R2} {x y : V} (h : r x y H (kNot Q)) : rNot r x y H Q := h
theorem i_kNot (h : Q (.bl (!b)) H) : kNot Q (.bl b) H := ⟨b, rfl, h⟩
end
def cmpB (K : PySem.W.Frag) (C : Addr) (nm : Str) (f : Addr) : Bool := He.eqO (PySem.W.findIn K (.ref C) nm) (some (some (.ref f))) && PySem.W.isFn K (.ref f)
theorem cmpB_ok {K : PySem.W.Frag} {C : Addr} {nm : Str} {f : Addr} (h : cmpB K C nm f = true) : CmpF K C nm f := by
  obtain ⟨h1, h2⟩ := He.ba h
  exact ⟨He.eqO_ok h1, h2⟩
def neB (K : PySem.W.Frag) (C f : Addr) : Bool := cmpB K C "__eq__" f && (He.eqO (PySem.W.findIn K (.ref C) "__ne__") (some (some (.builtin "object.__ne__"))) && decide (PySem.W.mroIn K C (.type "object") = some true))
theorem neB_ok {K : PySem.W.Frag} {C f : Addr} (h : neB K C f = true) : NeF K C f := by
  obtain ⟨h1, h⟩ := He.ba h
  obtain ⟨h2, h3⟩ := He.ba h
  exact ⟨cmpB_ok h1, He.eqO_ok h2, of_decide_eq_true h3⟩
def subsB (K : PySem.W.Frag) (C : Addr) : Bool := ["int", "str", "NoneType", "tuple", "list"].all fun T => decide (PySem.W.subIn K (.ref C) (.type T) = some false)
theorem subsB_ok {K : PySem.W.Frag} {C : Addr} (h : subsB K C = true) : ∀ T ∈ ["int", "str", "NoneType", "tuple", "list"], PySem.W.subIn K (.ref C) (.type T) = some false := fun T m => of_decide_eq_true (List.all_eq_true.mp h T m)
end Z
namespace Z
open PySem PySem.Spec L2
open PyProof.Rows hiding St
theorem ext_app {H0 H H2 : Hp} {l : Addr} (z : H0 l = none) (s : Ext H0 H) (w : ∀ b, b ≠ l → H2 b = H b) : Ext H0 H2 := fun b o st e => by
  rw [w b (ne_of_none e z)]; exact s b o st e
theorem src_app {H0 H H2 : Hp} {l a p : Addr} {xs : List V} (z : H0 l = none) (h0 : IsSrc H0 a) (w : ∀ b, b ≠ l → H2 b = H b) (hl : H l = some (.lst (V.ref p :: xs))) (h : IsSrc H a) : IsSrc H2 a := by
  obtain ⟨i, x, y, zz, c, ns, h1, h2, h3⟩ := h
  obtain ⟨_, _, _, _, _, _, q, _⟩ := h0
  refine ⟨i, x, y, zz, c, ns, by rw [w a (ne_of_none q z)]; exact h1, ?_, h3⟩
  rw [w c (fun e => ?_)]
  · exact h2
  · rw [e, hl] at h2
    cases ns with
    | nil => cases h2
    | cons n ns => cases h2
theorem Items.inv {α : Type} {F : Hp → Addr → α → Prop} {H : Hp} : ∀ {ps : List Addr} {xs : List α} {i : Nat} {y : V}, Items F H ps xs → (ps.map V.ref)[i]? = some y → ∃ p x, y = V.ref p ∧ xs[i]? = some x ∧ F H p x
  | _, _, 0, _, .cons h _, e => by cases e; exact ⟨_, _, rfl, rfl, h⟩
  | _, _, i + 1, _, .cons _ r, e => by
    rw [List.map_cons, List.getElem?_cons_succ] at e
    obtain ⟨p, x, e1, e2, e3⟩ := r.inv e
    exact ⟨p, x, e1, by rw [List.getElem?_cons_succ]; exact e2, e3⟩
theorem Items.snoc {α : Type} {F : Hp → Addr → α → Prop} {H : Hp} : ∀ {ps : List Addr} {xs : List α} {p : Addr} {x : α}, Items F H ps xs → F H p x → Items F H (ps ++ [p]) (xs ++ [x])
  | _, _, _, _, .nil, h => .cons h .nil
  | _, _, _, _, .cons a r, h => .cons a (r.snoc h)
theorem LO.push {α : Type} {F : Hp → Addr → α → Prop} {H : Hp} {D p : Addr} {ps : List Addr} {xs : List α} {x : α} (it : Items F H ps xs) (np : F H p x) (k : ∀ q y, F H q y → F (upd H D (.lst (ps.map V.ref ++ [V.ref p]))) q y) : LO F (upd H D (.lst (ps.map V.ref ++ [V.ref p]))) D (xs ++ [x]) :=
  ⟨ps ++ [p], by rw [upd_same, List.map_append]; rfl, (it.snoc np).map k⟩
theorem lo_size {α β : Type} {F : Hp → Addr → β → Prop} {H : Hp} {ps : List Addr} {xs : List α} {q : Nat} {fn : α → β} (it : Items F H ps ((xs.take q).map fn)) (h : xs.length ≤ 1000) : (ps.map V.ref).length < sizeLine := by
  rw [List.length_map, it.len, List.length_map, List.length_take]
  exact Nat.lt_of_le_of_lt (Nat.le_trans (Nat.min_le_right _ _) h) (by decide)
end Z

namespace Z
open PySem PySem.Spec L2
open PyProof.Rows hiding St
section
variable {X : Cx} {k : Nat} {f C : Addr} {ps : List Str} {dvs : List V} {sp : Sp} {x : Str} {p pos : Pos} {e : Expr} {es : List Expr} {t : TA}
/-- a call within a comprehension -/
theorem pcDc (F : OkD X.prog X.w X.K X.mg X.base k f ps dvs sp) (hr : Room k X.A) (hm : X.mg x = some (.ref f)) (ha : PA X (e :: es) t) (hg : Gl X x := by rfl) (hd : (x == ("__debug__" : Str)) = false := by decide)
    (he : starEach (e :: es) X.env = (false, eval e X.env) :: starEach es X.env := by rfl) (hpl : (backTo pos (starEach es X.env)).any (·.1) = false := by rfl) : PE X (.Call (.Name x p) (e :: es) [] pos) (tCall sp dvs EF t) := by
  obtain ⟨fd, ds, kp, b, vd, F⟩ := F
  exact pe_call F hr hg hm kp b vd (fun _ _ _ _ _ _ _ q => (cxF q).elim) ha hd he hpl
end
end Z

namespace Z
open PySem PySem.Spec L2
open PyProof.Rows hiding St
/-- a def that may be called so (one of several promises) -/
def CallOk (X : Cx) (f : Addr) (sp : Sp) : Prop := ∀ (pins : List (Addr × Obj)) (σ : L2.St) (H : Hp) (s : Shared) (Q : VK) (us : List Value) (vs : List V), Inv X pins σ H s → Vals vs us → sp vs H Q EF → wpAny (model X.prog X.w) X.A (call (.ref f) us) (EP X pins σ Q) X.xe s
section
variable {X : Cx} {k : Nat} {f C : Addr} {ps : List Str} {dvs : List V} {sp sp' : Sp} {x : Str} {p pos : Pos} {e : Expr} {es : List Expr} {t : TA} {G : List Str}
theorem OkD.co (F : OkD X.prog X.w X.K X.mg X.base k f ps [] sp) (hr : Room k X.A) : CallOk X f sp := fun pins σ H s Q us vs I r h => run_ok F hr I r (by rw [List.append_nil]; exact h)
theorem OkD.kp {P : Program} {w : World} {K : PySem.W.Frag} {mg : Str → Option Value} {base : Heap} (F : OkD P w K mg base k f ps dvs sp) : PySem.W.keepIn K (.ref f) = true := by
  obtain ⟨fd, ds, kp, _⟩ := F
  exact kp
theorem CallOk.or (a : CallOk X f sp) (b : CallOk X f sp') : CallOk X f (fun vs H Q E => sp vs H Q E ∨ sp' vs H Q E) := fun pins σ H s Q us vs I r h => h.elim (a pins σ H s Q us vs I r) (b pins σ H s Q us vs I r)
theorem pcDx (F : CallOk X f sp) (kp : PySem.W.keepIn X.K (.ref f) = true) (hg : glB G X.env.scope = true) (n : Nat) (hm : X.mg x = some (.ref f)) (ha : PA X (e :: es) t) (hx : G[n]? = some x := by rfl)
    (he : starEach (e :: es) X.env = (false, eval e X.env) :: starEach es X.env := by rfl) (hpl : (backTo pos (starEach es X.env)).any (·.1) = false := by rfl) : PE X (.Call (.Name x p) (e :: es) [] pos) (tCall sp [] EF t) := by
  refine ⟨fun pins s σ H Q I h => ?_⟩
  refine wpAny_Call_Name_kw (ld_glob I (gl_of hg hx).1 hm ?_ (gl_of hg hx).2.1)
  refine PySem.W.callWith_K (h₀ := X.base) I.ok.mod.kin kp (thn (ha.run pos pins s σ H _ I h) fun us s1 ⟨vs, H1, I1, r, q⟩ => ⟨I1.kIn, ?_⟩) he hpl
  have q2 : sp (vs ++ []) H1 Q EF := q
  rw [List.append_nil] at q2
  exact F pins σ H1 s1 Q us vs I1 r q2
end
end Z

open PySem PySem.Spec L2
open PyProof.Rows hiding St
namespace My
open Z
def top (i : Nat) : Stmt := PySem.Challenge.pw_lostinrows_k01_whole_exact_order.main.body.getD i (.Pass ⟨0, 0, 0, 0⟩)

def modes9 : List Str := ["nearest-even", "nearest-out", "nearest-in", "nearest-up", "nearest-down", "inward", "outward", "upward", "downward"]
def near5 : List Str := ["nearest-even", "nearest-out", "nearest-in", "nearest-up", "nearest-down"]
def mir9 (m : Str) : Str := if m = "nearest-up" then "nearest-down" else if m = "nearest-down" then "nearest-up" else if m = "upward" then "downward" else if m = "downward" then "upward" else m
def idx9 (m : Str) : Nat := modes9.idxOf m
def goesUp (m : Str) (p : Bool) : Bool := if m = "inward" then !p else if m = "outward" then p else decide (m = "upward")
def tieUp (m : Str) (low : Int) (p : Bool) : Bool := if m = "nearest-even" then decide (low % 2 = 1) else if m = "nearest-out" then p else if m = "nearest-in" then !p else decide (m = "nearest-up")
def rqUp (n d : Int) (m : Str) : Bool := if m ∉ near5 then goesUp m (decide (0 < n)) else if 2 * (n % d) = d then tieUp m (n / d) (decide (0 < n)) else decide (d < 2 * (n % d))
def rq (n d : Int) (m : Str) : Int := if n % d = 0 then n / d else if rqUp n d m = true then n / d + 1 else n / d
def steady5 : List Str := ["nearest-even", "nearest-up", "nearest-down", "upward", "downward"]
theorem mem9 {m : Str} (h : m ∈ modes9) : m = "nearest-even" ∨ m = "nearest-out" ∨ m = "nearest-in" ∨ m = "nearest-up" ∨ m = "nearest-down" ∨ m = "inward" ∨ m = "outward" ∨ m = "upward" ∨ m = "downward" := by
  simpa [modes9] using h
theorem in9 {m : Str} (h : m ∈ modes9) : inV (.str m) (modes9.map V.str) = true := by rw [inV_str]; exact List.contains_iff_mem.mpr h
theorem in_str (m : Str) (l : List Str) : inV (.str m) (l.map V.str) = decide (m ∈ l) := by
  rw [inV_str]
  by_cases h : m ∈ l
  · rw [decide_eq_true h]; exact List.contains_iff_mem.mpr h
  · rw [decide_eq_false h]
    cases e : l.contains m with
    | false => rfl
    | true => exact absurd (List.contains_iff_mem.mp e) h
theorem big_step {i : Nat} {x d : Int} (h0 : 0 ≤ x) (h : Sz (4 * i) x) (d0 : 0 ≤ d) (d1 : d < 10) : Sz (4 * (i + 1)) (x * 10 + d) := by
  unfold Sz at *
  rw [Nat.mul_add, Nat.pow_add]
  omega
theorem pow_pos1 {b : Int} (h : 0 < b) (n : Nat) : 1 ≤ b ^ n := by
  have := Int.pow_pos (n := b) (m := n) h
  omega
theorem Sz.btw {n : Nat} {p d : Int} (h : Sz n d) (h0 : -1 ≤ p) (h1 : p ≤ d + 1) : Sz (n + 2) p := by
  unfold Sz at *
  rw [Nat.pow_add]
  have := Nat.one_le_two_pow (n := n)
  omega
theorem in5 (m : Str) : inV (.str m) (near5.map V.str) = decide (m ∈ near5) := by
  rw [inV_str]
  by_cases h : m ∈ near5
  · rw [decide_eq_true h]; exact List.contains_iff_mem.mpr h
  · rw [decide_eq_false h]
    cases e : near5.contains m with
    | false => rfl
    | true => exact absurd (List.contains_iff_mem.mp e) h
theorem idx9_at {m : Str} (h : m ∈ modes9) : (modes9.map V.str)[idx9 m]? = some (V.str m) := by
  rw [List.getElem?_map]
  have : idx9 m < modes9.length := List.idxOf_lt_length_iff.mpr h
  rw [List.getElem?_eq_getElem this]
  show some (V.str modes9[modes9.idxOf m]) = _
  rw [List.getElem_idxOf this]
theorem idx9_b : ∀ m ∈ modes9, ∀ k < idx9 m, modes9.getD k "" ≠ m := by decide +kernel
theorem idx9_no {m : Str} (h : m ∈ modes9) (k : Nat) (z : V) (hk : k < idx9 m) (e : (modes9.map V.str)[k]? = some z) : eqV z (.str m) = false := by
  rw [List.getElem?_map] at e
  have lt : idx9 m < modes9.length := List.idxOf_lt_length_iff.mpr h
  rw [List.getElem?_eq_getElem (by omega : k < modes9.length)] at e
  have e2 : V.str modes9[k] = z := Option.some.inj e
  subst e2
  show (modes9[k] == m) = false
  have q := idx9_b m h k hk
  rw [List.getD_eq_getElem?_getD, List.getElem?_eq_getElem (by omega : k < modes9.length)] at q
  exact beq_eq_false_iff_ne.mpr q
theorem idx9_lt {m : Str} (h : m ∈ modes9) : idx9 m < 9 := List.idxOf_lt_length_iff.mpr h
def mirIx : List Int := [0, 1, 2, 4, 3, 5, 6, 8, 7]
theorem mir_at {m : Str} (h : m ∈ modes9) : ∃ j : Int, atI (mirIx.map V.int) ((idx9 m : Nat) : Int) = some (V.int j) ∧ atI (modes9.map V.str) j = some (V.str (mir9 m)) := by
  rcases mem9 h with rfl | rfl | rfl | rfl | rfl | rfl | rfl | rfl | rfl <;> exact ⟨_, by rfl, by decide +kernel⟩

structure EN where
  b : Int
  c : Int
  e : Int
/-- c without its factors b, and how many -/
def strip (b : Int) : Nat → Int → Int × Nat
  | 0, c => (c, 0)
  | k + 1, c => if c % b = 0 then ((strip b k (c / b)).1, (strip b k (c / b)).2 + 1) else (c, 0)
def nrm (b c e : Int) : EN := if c = 0 then ⟨b, 0, 0⟩ else ⟨b, (strip b c.natAbs c).1, e + (strip b c.natAbs c).2⟩
structure Low (x : EN) : Prop where
  b2 : 2 ≤ x.b
  b36 : x.b ≤ 36
  z : x.c = 0 → x.e = 0
  nd : x.c ≠ 0 → x.c % x.b ≠ 0
theorem div_small {b c : Int} (hb : 2 ≤ b) (hc : c ≠ 0) (h : c % b = 0) : c / b ≠ 0 ∧ (c / b).natAbs < c.natAbs := by
  have e : b * (c / b) = c := by have := Int.mul_ediv_add_emod c b; omega
  have h0 : c / b ≠ 0 := fun z => by rw [z, Int.mul_zero] at e; exact hc e.symm
  refine ⟨h0, ?_⟩
  have e2 : c.natAbs = b.natAbs * (c / b).natAbs := by rw [← Int.natAbs_mul, e]
  have : 2 ≤ b.natAbs := by omega
  have : 1 ≤ (c / b).natAbs := by omega
  have : 2 * (c / b).natAbs ≤ b.natAbs * (c / b).natAbs := Nat.mul_le_mul_right _ ‹2 ≤ b.natAbs›
  omega
theorem strip_ok {b : Int} (hb : 2 ≤ b) : ∀ (k : Nat) (c : Int), c ≠ 0 → c.natAbs ≤ k → c = (strip b k c).1 * b ^ (strip b k c).2 ∧ (strip b k c).1 % b ≠ 0
  | 0, c, hc, hk => by omega
  | k + 1, c, hc, hk => by
    unfold strip
    by_cases h : c % b = 0
    · rw [if_pos h]
      obtain ⟨h0, h1⟩ := div_small hb hc h
      obtain ⟨i1, i2⟩ := strip_ok hb k (c / b) h0 (by omega)
      refine ⟨?_, i2⟩
      show c = (strip b k (c / b)).1 * b ^ ((strip b k (c / b)).2 + 1)
      rw [Int.pow_succ, ← Int.mul_assoc, ← i1]
      have := Int.mul_ediv_add_emod c b
      rw [Int.mul_comm]; omega
    · rw [if_neg h]
      exact ⟨by simp, h⟩
theorem strip_one {b r s : Int} (hb : 2 ≤ b) : ∀ (m n : Nat), r * b ^ m = s * b ^ n → r % b ≠ 0 → s % b ≠ 0 → r = s ∧ m = n
  | 0, 0, h, _, _ => ⟨by simpa using h, rfl⟩
  | 0, n + 1, h, hr, _ => by
    exfalso; apply hr
    rw [Int.pow_zero, Int.mul_one, Int.pow_succ, ← Int.mul_assoc] at h
    rw [h]; exact Int.mul_emod_left _ _
  | m + 1, 0, h, _, hs => by
    exfalso; apply hs
    rw [Int.pow_zero, Int.mul_one, Int.pow_succ, ← Int.mul_assoc] at h
    rw [← h]; exact Int.mul_emod_left _ _
  | m + 1, n + 1, h, hr, hs => by
    rw [Int.pow_succ, Int.pow_succ, ← Int.mul_assoc, ← Int.mul_assoc] at h
    obtain ⟨e1, e2⟩ := strip_one hb m n (Int.eq_of_mul_eq_mul_right (by omega) h) hr hs
    exact ⟨e1, by omega⟩
theorem pow_pos' {b : Int} (hb : 2 ≤ b) (n : Nat) : 1 ≤ b ^ n := by
  have := Int.pow_pos (n := b) (m := n) (by omega)
  omega
theorem nrm_zero (b e : Int) : nrm b 0 e = ⟨b, 0, 0⟩ := by unfold nrm; rw [if_pos rfl]
theorem nrm_of {b c e r : Int} {n : Nat} (hb : 2 ≤ b) (hc : c ≠ 0) (h : c = r * b ^ n) (hr : r % b ≠ 0) : nrm b c e = ⟨b, r, e + n⟩ := by
  obtain ⟨i1, i2⟩ := strip_ok hb c.natAbs c hc (Nat.le_refl _)
  obtain ⟨e1, e2⟩ := strip_one hb _ _ (i1.symm.trans h) i2 hr
  unfold nrm
  rw [if_neg hc, e1, e2]
theorem nrm_shift {b c e : Int} (hb : 2 ≤ b) (k : Nat) : nrm b (c * b ^ k) e = nrm b c (e + k) := by
  have hp := pow_pos' hb k
  by_cases hc : c = 0
  · rw [hc, Int.zero_mul, nrm_zero, nrm_zero]
  · obtain ⟨i1, i2⟩ := strip_ok hb c.natAbs c hc (Nat.le_refl _)
    rw [nrm_of (r := (strip b c.natAbs c).1) (n := (strip b c.natAbs c).2 + k) hb (Int.mul_ne_zero hc (by omega)) (by rw [Int.pow_add, ← Int.mul_assoc, ← i1]) i2, nrm_of hb hc i1 i2]
    congr 1; omega
theorem low_nrm {b c e : Int} (hb : 2 ≤ b) (h6 : b ≤ 36) : Low (nrm b c e) := by
  by_cases hc : c = 0
  · rw [hc, nrm_zero]; exact ⟨hb, h6, fun _ => rfl, fun h => absurd rfl h⟩
  · obtain ⟨i1, i2⟩ := strip_ok hb c.natAbs c hc (Nat.le_refl _)
    rw [nrm_of hb hc i1 i2]
    refine ⟨hb, h6, fun h => ?_, fun _ => i2⟩
    exfalso; apply hc; rw [i1]
    have : (strip b c.natAbs c).1 = 0 := h
    rw [this, Int.zero_mul]
theorem nrm_low {x : EN} (h : Low x) : nrm x.b x.c x.e = x := by
  obtain ⟨b, c, e⟩ := x
  by_cases hc : c = 0
  · have := h.z hc; dsimp only at this; subst hc; subst this; exact nrm_zero _ _
  · rw [nrm_of (r := c) (n := 0) h.b2 hc (by simp) (h.nd hc)]; simp
theorem nrm_b (b c e : Int) : (nrm b c e).b = b := by unfold nrm; split <;> rfl
/-- the sum x + s * y, the product -/
def addE (s : Int) (x y : EN) : EN := nrm x.b (x.c * x.b ^ (x.e - min x.e y.e).toNat + s * (y.c * x.b ^ (y.e - min x.e y.e).toNat)) (min x.e y.e)
def mulE (x y : EN) : EN := nrm x.b (x.c * y.c) (x.e + y.e)
def negE (x : EN) : EN := ⟨x.b, -x.c, x.e⟩
def absE (x : EN) : EN := ⟨x.b, x.c.natAbs, x.e⟩
def ofI (b n : Int) : EN := nrm b n 0
theorem low_neg {x : EN} (h : Low x) : Low (negE x) := ⟨h.b2, h.b36, fun z => h.z (by unfold negE at z; dsimp only at z; omega), fun z => by
  unfold negE at z ⊢; dsimp only at z ⊢
  have q := h.nd (by omega)
  intro w; apply q
  exact Int.emod_eq_zero_of_dvd (Int.dvd_neg.mp (Int.dvd_of_emod_eq_zero w))⟩
theorem low_abs {x : EN} (h : Low x) : Low (absE x) := by
  unfold absE
  rcases Int.natAbs_eq x.c with e | e
  · rw [← e]; exact h
  · have : ((x.c.natAbs : Nat) : Int) = -x.c := by omega
    rw [this]; exact low_neg h
/-- sum over any common exponent -/
theorem add_at {x y : EN} (s : Int) {m : Int} (hb : 2 ≤ x.b) (h1 : m ≤ x.e) (h2 : m ≤ y.e) : nrm x.b (x.c * x.b ^ (x.e - m).toNat + s * (y.c * x.b ^ (y.e - m).toNat)) m = addE s x y := by
  unfold addE
  have hm : m ≤ min x.e y.e := by omega
  have e1 : (x.e - m).toNat = (x.e - min x.e y.e).toNat + (min x.e y.e - m).toNat := by omega
  have e2 : (y.e - m).toNat = (y.e - min x.e y.e).toNat + (min x.e y.e - m).toNat := by omega
  have e3 : x.c * x.b ^ (x.e - m).toNat + s * (y.c * x.b ^ (y.e - m).toNat) = (x.c * x.b ^ (x.e - min x.e y.e).toNat + s * (y.c * x.b ^ (y.e - min x.e y.e).toNat)) * x.b ^ (min x.e y.e - m).toNat := by
    rw [e1, e2, Int.pow_add, Int.pow_add, Int.add_mul]
    simp only [Int.mul_assoc]
  rw [e3, nrm_shift hb]
  congr 1; omega
theorem add_l0 {x y : EN} (s : Int) (hb : 2 ≤ x.b) (h : x.c = 0) : nrm x.b (0 + s * y.c) y.e = addE s x y := by
  have hm := add_at (x := x) (y := y) s (m := min x.e y.e) hb (by omega) (by omega)
  rw [← hm, h, Int.zero_mul, ← Int.mul_assoc, Int.zero_add, Int.zero_add, nrm_shift hb]
  congr 1; omega
theorem add_r0 {x y : EN} (s : Int) (hb : 2 ≤ x.b) (h : y.c = 0) : nrm x.b (x.c + s * 0) x.e = addE s x y := by
  have hm := add_at (x := x) (y := y) s (m := min x.e y.e) hb (by omega) (by omega)
  rw [← hm, h, Int.zero_mul, Int.mul_zero, Int.add_zero, Int.add_zero, nrm_shift hb]
  congr 1; omega
/-- the number lies over b ^ -m and is below 2 ^ n over it -/
def Bd (m n : Nat) (x : EN) : Prop := 0 ≤ x.e + m ∧ Sz n (x.c * x.b ^ (x.e + m).toNat)
theorem pow_le' {b : Int} (hb : 2 ≤ b) {m n : Nat} (h : m ≤ n) : b ^ m ≤ b ^ n := by
  obtain ⟨k, rfl⟩ : ∃ k, n = m + k := ⟨n - m, by omega⟩
  rw [Int.pow_add]
  have h1 := pow_pos' hb m
  have h2 := pow_pos' hb k
  have := Int.mul_le_mul_of_nonneg_left h2 (by omega : 0 ≤ b ^ m)
  omega
theorem abs_mul_le {c p q : Int} (hp : 0 ≤ p) (h : p ≤ q) : (c * p).natAbs ≤ (c * q).natAbs := by
  rw [Int.natAbs_mul, Int.natAbs_mul]
  exact Nat.mul_le_mul_left _ (by omega)
theorem two_pow_le {b : Int} (hb : 2 ≤ b) (n : Nat) : (2 : Int) ^ n ≤ b ^ n := by
  induction n with
  | zero => simp
  | succ n ih =>
    rw [Int.pow_succ, Int.pow_succ]
    have h1 := pow_pos' (b := 2) (by omega) n
    exact Int.le_trans (Int.mul_le_mul_of_nonneg_right ih (by omega)) (Int.mul_le_mul_of_nonneg_left hb (by have := pow_pos' hb n; omega))
/-- a number that is not zero has an exponent below the size -/
theorem Bd.exp {m n : Nat} {x : EN} (h : Bd m n x) (hb : 2 ≤ x.b) (hc : x.c ≠ 0) : x.e + m < n := by
  obtain ⟨h0, h1⟩ := h
  have h2 := two_pow_le hb (x.e + m).toNat
  have h3 : (x.b ^ (x.e + m).toNat).natAbs ≤ (x.c * x.b ^ (x.e + m).toNat).natAbs := by
    rw [Int.natAbs_mul]
    have : 1 ≤ x.c.natAbs := by omega
    exact Nat.le_mul_of_pos_left _ this
  have h4 : (2 : Int) ^ (x.e + m).toNat = ((2 ^ (x.e + m).toNat : Nat) : Int) := by simp
  have h5 : 2 ^ (x.e + m).toNat < 2 ^ n := by
    unfold Sz at h1
    omega
  have := (Nat.pow_lt_pow_iff_right (by decide : 1 < 2)).mp h5
  omega
theorem Bd.co {m n : Nat} {x : EN} (h : Bd m n x) (hb : 2 ≤ x.b) {k : Nat} (hk : (k : Int) ≤ x.e + m) : Sz n (x.c * x.b ^ k) := by
  have h1 := pow_pos' hb k
  exact h.2.le (abs_mul_le (by omega) (pow_le' hb (by omega)))
theorem Bd.c0 {m n : Nat} {x : EN} (h : Bd m n x) (hb : 2 ≤ x.b) : Sz n x.c := by
  have := h.co hb (k := 0) (by have := h.1; omega)
  simpa using this
theorem Bd.mono {m n n' : Nat} {x : EN} (h : Bd m n x) (hn : n ≤ n') : Bd m n' x := ⟨h.1, h.2.mono hn⟩
theorem Sz.pow36 {b : Int} (hb : 2 ≤ b) (h6 : b ≤ 36) (k : Nat) : Sz (6 * k + 1) (b ^ k) := Sz.pow (by unfold Sz; omega) k
theorem Bd.wid {m n m' : Nat} {x : EN} (h : Bd m n x) (hb : 2 ≤ x.b) (h6 : x.b ≤ 36) (hm : m ≤ m') : Bd m' (n + 6 * (m' - m) + 1) x := by
  refine ⟨by have := h.1; omega, ?_⟩
  have h0 := h.1
  have e : (x.e + m').toNat = (x.e + m).toNat + (m' - m) := by omega
  rw [e, Int.pow_add, ← Int.mul_assoc]
  exact h.2.mul (Sz.pow36 hb h6 _)
theorem Bd.nrm {b c e : Int} {m n : Nat} (hb : 2 ≤ b) (h0 : 0 ≤ e + m) (h : Sz n (c * b ^ (e + m).toNat)) : Bd m n (nrm b c e) := by
  by_cases hc : c = 0
  · rw [hc, nrm_zero]
    exact ⟨by show 0 ≤ (0 : Int) + m; omega, by show Sz n (0 * _); rw [Int.zero_mul]; exact Sz.zero⟩
  · obtain ⟨i1, i2⟩ := strip_ok hb c.natAbs c hc (Nat.le_refl _)
    rw [nrm_of (e := e) hb hc i1 i2]
    refine ⟨by show 0 ≤ e + _ + (m : Int); omega, ?_⟩
    show Sz n ((strip b c.natAbs c).1 * b ^ (e + (strip b c.natAbs c).2 + m).toNat)
    have e1 : (e + (strip b c.natAbs c).2 + m).toNat = (strip b c.natAbs c).2 + (e + m).toNat := by omega
    rw [e1, Int.pow_add, ← Int.mul_assoc, ← i1]
    exact h
theorem Bd.add {m n : Nat} {x y : EN} {s : Int} (hs : s = 1 ∨ s = -1) (hx : Bd m n x) (hy : Bd m n y) (hb : 2 ≤ x.b) (e : y.b = x.b) : Bd m (n + 1) (addE s x y) := by
  rw [← add_at (x := x) (y := y) s (m := -(m : Int)) hb (by have := hx.1; omega) (by have := hy.1; omega)]
  refine Bd.nrm hb (by omega) ?_
  have e0 : (-(m : Int) + m).toNat = 0 := by omega
  rw [e0, Int.pow_zero, Int.mul_one]
  have h1 := hx.2
  have h2 := hy.2
  rw [e] at h2
  have q1 : (x.e - -(m : Int)).toNat = (x.e + m).toNat := by omega
  have q2 : (y.e - -(m : Int)).toNat = (y.e + m).toNat := by omega
  rw [q1, q2]
  refine Sz.add h1 ?_
  rcases hs with rfl | rfl
  · rw [Int.one_mul]; exact h2
  · rw [Int.neg_mul, Int.one_mul]; exact h2.neg
theorem Bd.mul {m n m' n' : Nat} {x y : EN} (hx : Bd m n x) (hy : Bd m' n' y) (hb : 2 ≤ x.b) (e : y.b = x.b) : Bd (m + m') (n + n') (mulE x y) := by
  have g1 := hx.1
  have g2 := hy.1
  refine Bd.nrm hb (by omega) ?_
  have e1 : (x.e + y.e + ((m + m' : Nat) : Int)).toNat = (x.e + m).toNat + (y.e + m').toNat := by omega
  rw [e1, Int.pow_add]
  have h2 := hy.2
  rw [e] at h2
  have := hx.2.mul h2
  have e2 : x.c * y.c * (x.b ^ (x.e + m).toNat * x.b ^ (y.e + m').toNat) = x.c * x.b ^ (x.e + m).toNat * (y.c * x.b ^ (y.e + m').toNat) := by
    simp only [Int.mul_assoc, Int.mul_left_comm]
  rw [e2]; exact this
theorem Bd.neg {m n : Nat} {x : EN} (h : Bd m n x) : Bd m n (negE x) := ⟨h.1, by show Sz n (-x.c * x.b ^ _); rw [Int.neg_mul]; exact h.2.neg⟩
theorem Bd.ofI {n : Nat} {b i : Int} (hb : 2 ≤ b) (h : Sz n i) : Bd 0 n (ofI b i) := Bd.nrm hb (by omega) (by simpa using h)
def exF (x : EN) : List (Str × V) := putF "exponent" (.int x.e) (putF "coefficient" (.int x.c) (putF "base" (.int x.b) []))
theorem pow_lt_sz {m n : Nat} {x : Int} (h : (2 : Int) ^ m ≤ x) (hs : Sz n x) : m < n := by
  have h4 : (2 : Int) ^ m = ((2 ^ m : Nat) : Int) := by simp
  unfold Sz at hs
  have h5 : 2 ^ m < 2 ^ n := by omega
  exact (Nat.pow_lt_pow_iff_right (by decide : 1 < 2)).mp h5
/-- power's loop -/
def Pw (b c r q k : Int) : Prop := ∃ i : Nat, q = b ^ (2 ^ i) ∧ k = ((c.toNat / 2 ^ i : Nat) : Int) ∧ r = b ^ (c.toNat % 2 ^ i)
theorem Pw.init {b c : Int} (h : 0 ≤ c) : Pw b c 1 b c := ⟨0, by rw [Nat.pow_zero, Int.pow_one], by simp; omega, by simp [Nat.mod_one]⟩
theorem Pw.odd {b c r q k : Int} (h : Pw b c r q k) (o : k % 2 = 1) : Pw b c (r * q) (q * q) (k / 2) := by
  obtain ⟨i, rfl, rfl, rfl⟩ := h
  refine ⟨i + 1, by rw [Nat.pow_succ, Nat.mul_two, Int.pow_add], by rw [Nat.pow_succ, ← Nat.div_div_eq_div_mul]; omega, ?_⟩
  have e : c.toNat / 2 ^ i % 2 = 1 := by omega
  rw [Nat.mod_pow_succ, e, Nat.mul_one, Int.pow_add]
theorem Pw.even {b c r q k : Int} (h : Pw b c r q k) (o : ¬ k % 2 = 1) : Pw b c r (q * q) (k / 2) := by
  obtain ⟨i, rfl, rfl, rfl⟩ := h
  refine ⟨i + 1, by rw [Nat.pow_succ, Nat.mul_two, Int.pow_add], by rw [Nat.pow_succ, ← Nat.div_div_eq_div_mul]; omega, ?_⟩
  have e : c.toNat / 2 ^ i % 2 = 0 := by omega
  rw [Nat.mod_pow_succ, e, Nat.mul_zero, Nat.add_zero]
theorem Pw.done {b c r q k : Int} (h : Pw b c r q k) (o : ¬ 0 < k) : r = b ^ c.toNat := by
  obtain ⟨i, rfl, rfl, rfl⟩ := h
  have e : c.toNat / 2 ^ i = 0 := Nat.eq_zero_of_not_pos fun q => o (Int.ofNat_lt.mpr q)
  have h2 := Nat.div_add_mod c.toNat (2 ^ i)
  rw [e, Nat.mul_zero, Nat.zero_add] at h2
  rw [h2]
theorem Pw.sz {b c r q k : Int} (h : Pw b c r q k) (o : 0 < k) (hc : c ≤ 20000) (hb : Sz 6 b) : Sz 120001 r ∧ Sz 120001 q := by
  obtain ⟨i, rfl, rfl, rfl⟩ := h
  have h1 : c.toNat % 2 ^ i ≤ c.toNat := Nat.mod_le _ _
  have h2 : 2 ^ i ≤ c.toNat := by
    rcases Nat.lt_or_ge c.toNat (2 ^ i) with h | h
    · rw [Nat.div_eq_of_lt h] at o; omega
    · exact h
  exact ⟨(Sz.pow hb _).mono (by omega), (Sz.pow hb _).mono (by omega)⟩
/-- squares -/
def sqL (b : Int) (n : Nat) : List Int := (List.range n).map fun k => b ^ (2 ^ k)
theorem sqL_len (b : Int) (n : Nat) : (sqL b n).length = n := by unfold sqL; rw [List.length_map, List.length_range]
def Sq (b size : Int) (sq : List Int) (v : Int) : Prop := ∃ n : Nat, sq = sqL b n ∧ v = b ^ (2 ^ n) ∧ ∀ k < n, b ^ (2 ^ k) ≤ size
theorem Sq.init {b size : Int} : Sq b size [] b := ⟨0, rfl, by rw [Nat.pow_zero, Int.pow_one], fun k h => by omega⟩
theorem Sq.step {b size v : Int} {sq : List Int} (h : Sq b size sq v) (l : v ≤ size) : Sq b size (sq ++ [v]) (v * v) := by
  obtain ⟨n, rfl, rfl, h⟩ := h
  refine ⟨n + 1, by unfold sqL; rw [List.range_succ, List.map_append]; rfl, by rw [Nat.pow_succ, Nat.mul_two, Int.pow_add], fun k hk => ?_⟩
  by_cases e : k = n
  · rw [e]; exact l
  · exact h k (by omega)
theorem Sq.two {b size v : Int} {sq : List Int} (h : Sq b size sq v) (hb : 2 ≤ b) : 2 ≤ v := by
  obtain ⟨n, rfl, rfl, h⟩ := h
  have := pow_le' hb (m := 1) (n := 2 ^ n) Nat.one_le_two_pow
  rw [Int.pow_one] at this
  omega
theorem lt_sq {v : Int} (h : 2 ≤ v) : v < v * v := by
  have := Int.mul_le_mul_of_nonneg_right h (by omega : 0 ≤ v)
  omega
theorem Sq.len {b size v : Int} {sq : List Int} (h : Sq b size sq v) (hb : 2 ≤ b) (hs : Sz 9000 size) : sq.length ≤ 14 := by
  obtain ⟨n, rfl, rfl, h⟩ := h
  rw [sqL_len]
  rcases Nat.lt_or_ge 14 n with hn | hn
  · exfalso
    have := pow_lt_sz (Int.le_trans (two_pow_le hb (2 ^ 14)) (h 14 hn)) hs
    omega
  · exact hn
theorem Sq.szv {b size v : Int} {sq : List Int} (h : Sq b size sq v) (hb : 2 ≤ b) (hs : Sz 9000 size) (l : v ≤ size) : Sz 9000 v := hs.le (by have := h.two hb; omega)
theorem sq_at {b : Int} {n i : Nat} {sq : List Int} (e : sq = sqL b n) (hi : i < sq.length) : atI (sq.map V.int) ((sq.length : Int) - 1 - (i : Int)) = some (V.int (b ^ (2 ^ (n - 1 - i)))) := by
  subst e
  rw [sqL_len] at *
  have e : (n : Int) - 1 - i = ((n - 1 - i : Nat) : Int) := by omega
  rw [e]
  refine atI_nat ?_
  unfold sqL
  rw [List.getElem?_map, List.getElem?_map, List.getElem?_range (by omega)]
  rfl
/-- without_zeros's loop -/
def Wz (b c : Int) (m : Nat) (x k : Int) : Prop := ∃ j : Nat, k = j ∧ c = x * b ^ j ∧ x % b ^ (2 ^ m) ≠ 0
theorem mod_small {c d : Int} (hc : c ≠ 0) (h : (if c < 0 then -c else c) < d) : c % d ≠ 0 := by
  intro z
  have e : d * (c / d) = c := by have := Int.mul_ediv_add_emod c d; omega
  have e2 : c.natAbs = d.natAbs * (c / d).natAbs := by rw [← Int.natAbs_mul, e]
  have h0 : c / d ≠ 0 := fun q => by rw [q, Int.mul_zero] at e; exact hc e.symm
  have h1 : d.natAbs * 1 ≤ d.natAbs * (c / d).natAbs := Nat.mul_le_mul_left _ (by omega)
  split at h <;> omega
theorem Wz.init {b c : Int} {n : Nat} (hc : c ≠ 0) (h : (if c < 0 then -c else c) < b ^ (2 ^ n)) : Wz b c n c 0 := ⟨0, rfl, by simp, mod_small hc h⟩
theorem Wz.yes {b c x k p : Int} {m : Nat} (hb : 2 ≤ b) (h : Wz b c (m + 1) x k) (z : x % b ^ (2 ^ m) = 0) (hp : p = 2 ^ m) : Wz b c m (x / b ^ (2 ^ m)) (k + p) := by
  obtain ⟨j, rfl, e, n⟩ := h
  have e1 : b ^ (2 ^ m) * (x / b ^ (2 ^ m)) = x := by have := Int.mul_ediv_add_emod x (b ^ (2 ^ m)); omega
  refine ⟨j + 2 ^ m, by rw [hp]; simp, ?_, fun z2 => n ?_⟩
  · rw [Int.pow_add, Int.mul_comm (b ^ j), ← Int.mul_assoc, Int.mul_comm _ (b ^ (2 ^ m)), e1]; exact e
  · have e2 : b ^ (2 ^ m) * (x / b ^ (2 ^ m) / b ^ (2 ^ m)) = x / b ^ (2 ^ m) := by have := Int.mul_ediv_add_emod (x / b ^ (2 ^ m)) (b ^ (2 ^ m)); omega
    rw [Nat.pow_succ, Nat.mul_two, Int.pow_add]
    refine Int.emod_eq_zero_of_dvd ⟨x / b ^ (2 ^ m) / b ^ (2 ^ m), ?_⟩
    rw [Int.mul_assoc, e2, e1]
theorem Wz.no {b c x k : Int} {m : Nat} (h : Wz b c (m + 1) x k) (z : ¬ x % b ^ (2 ^ m) = 0) : Wz b c m x k := by
  obtain ⟨j, rfl, e, n⟩ := h
  exact ⟨j, rfl, e, z⟩
theorem Wz.done {b c x k : Int} {m : Nat} (h : Wz b c m x k) (hm : m = 0) : c = x * b ^ k.toNat ∧ 0 ≤ k ∧ x % b ≠ 0 := by
  subst hm
  obtain ⟨j, rfl, e, n⟩ := h
  refine ⟨by simpa using e, by omega, by simpa [Int.pow_one] using n⟩
theorem nrm_of' {b c e r k : Int} (hb : 2 ≤ b) (hc : c ≠ 0) (h : c = r * b ^ k.toNat) (h0 : 0 ≤ k) (hr : r % b ≠ 0) : (⟨b, r, e + k⟩ : EN) = nrm b c e := by
  rw [nrm_of hb hc h hr]
  congr 1; omega
/-- what a sum wants of its sides -/
def Ad (x y : EN) : Prop := y.b = x.b ∧ ∃ m n : Nat, n ≤ 8990 ∧ Bd m n x ∧ Bd m n y
theorem sgn_sz {s c : Int} {n : Nat} (h : s = 1 ∨ s = -1) (hc : Sz n c) : Sz n (s * c) := by
  rcases h with rfl | rfl
  · rw [Int.one_mul]; exact hc
  · rw [Int.neg_mul, Int.one_mul]; exact hc.neg
theorem add_lo {x y : EN} (s : Int) (hb : 2 ≤ x.b) (h : y.e ≤ x.e) : nrm x.b (x.c * x.b ^ (x.e - y.e).toNat + s * y.c) y.e = addE s x y := by
  have := add_at (x := x) (y := y) s (m := y.e) hb h (by omega)
  rwa [Int.sub_self, Int.toNat_zero, Int.pow_zero, Int.mul_one] at this
theorem add_hi {x y : EN} (s : Int) (hb : 2 ≤ x.b) (h : x.e ≤ y.e) : nrm x.b (x.c + s * (y.c * x.b ^ (y.e - x.e).toNat)) x.e = addE s x y := by
  have := add_at (x := x) (y := y) s (m := x.e) hb (by omega) h
  rwa [Int.sub_self, Int.toNat_zero, Int.pow_zero, Int.mul_one] at this
theorem ofI_b (b n : Int) : (ofI b n).b = b := nrm_b _ _ _
/-- lowest's loops -/
def Lw (b c e x k : Int) : Prop := x ≠ 0 ∧ ∃ j : Nat, c = x * b ^ j ∧ k = e + j
theorem Lw.init {b c e : Int} (h : ¬ c = 0) : Lw b c e c e := ⟨h, 0, by simp, by simp⟩
theorem Lw.step {b c e x k : Int} (n : Nat) {p q : Int} (hb : 2 ≤ p) (h : Lw b c e x k) (hp : p = b ^ n) (hq : q = n) (z : x % p = 0) : Lw b c e (x / p) (k + q) := by
  obtain ⟨h0, j, e1, e2⟩ := h
  refine ⟨(div_small hb h0 z).1, j + n, ?_, by omega⟩
  have e3 : p * (x / p) = x := by have := Int.mul_ediv_add_emod x p; omega
  rw [Int.pow_add, ← hp, Int.mul_comm (b ^ j), ← Int.mul_assoc, Int.mul_comm _ p, e3]; exact e1
theorem Lw.lt {b c e x k p : Int} (hb : 2 ≤ p) (h : Lw b c e x k) (z : x % p = 0) : (x / p).natAbs < x.natAbs := (div_small hb h.1 z).2
theorem Lw.done {b c e x k : Int} (hb : 2 ≤ b) (hc : ¬ c = 0) (h : Lw b c e x k) (z : ¬ x % b = 0) : (⟨b, x, k⟩ : EN) = nrm b c e := by
  obtain ⟨h0, j, e1, e2⟩ := h
  rw [nrm_of hb hc e1 z, e2]
theorem five_ok {q : Int} (h0 : 0 ≤ q) (h1 : q < 5) : 2 ≤ ([10, 16, 2, 3, 36] : List Int).getD q.toNat 0 ∧ ([10, 16, 2, 3, 36] : List Int).getD q.toNat 0 ≤ 36 := by
  have : q = 0 ∨ q = 1 ∨ q = 2 ∨ q = 3 ∨ q = 4 := by omega
  rcases this with rfl | rfl | rfl | rfl | rfl <;> decide
/-- a lowest pair within bounds -/
def Gd (m n : Nat) (b c e : Int) : Prop := Low ⟨b, c, e⟩ ∧ Bd m n ⟨b, c, e⟩
theorem Gd.mono {m n n' : Nat} {b c e : Int} (h : Gd m n b c e) (l : n ≤ n') : Gd m n' b c e := ⟨h.1, h.2.mono l⟩
theorem gd_of {b c e r0 r1 : Int} {m n : Nat} (k : Nat) (h : (⟨b, r0, r1⟩ : EN) = nrm b c e) (hb : 2 ≤ b) (h6 : b ≤ 36) (hz : Sz n c) (h0 : 0 ≤ e + m) (h1 : e + m ≤ k) : Gd m (n + (6 * k + 1)) b r0 r1 := by
  unfold Gd
  rw [h]
  refine ⟨low_nrm hb h6, Bd.nrm hb h0 (hz.mul ((Sz.pow36 hb h6 _).mono (by omega)))⟩
theorem Gd.zero {m n : Nat} {b : Int} (hb : 2 ≤ b) (h6 : b ≤ 36) : Gd m n b 0 0 := ⟨⟨hb, h6, fun _ => rfl, fun h => absurd rfl h⟩, by show (0 : Int) ≤ 0 + m; omega, by show Sz n (0 * _); rw [Int.zero_mul]; exact Sz.zero⟩
theorem Gd.neg {m n : Nat} {b c e : Int} (h : Gd m n b c e) : Gd m n b (0 - c) e := by
  have h1 := low_neg h.1
  have h2 := h.2.neg
  rw [Int.zero_sub]
  exact ⟨h1, h2⟩
theorem Gd.one_sub {m n : Nat} {b c e r0 r1 : Int} (h : Gd m n b c e) (hn : 6 * m + 1 ≤ n) (hr : (⟨b, r0, r1⟩ : EN) = nrm b (1 - c) e) : Gd m (n + 1) b r0 r1 := by
  obtain ⟨l, d⟩ := h
  have hb : 2 ≤ b := l.b2
  have h0 : 0 ≤ e + m := d.1
  unfold Gd
  rw [hr]
  refine ⟨low_nrm hb l.b36, Bd.nrm hb h0 ?_⟩
  rw [Int.sub_mul, Int.one_mul]
  have hd : Sz n (c * b ^ (e + m).toNat) := d.2
  refine Sz.sub ?_ hd
  by_cases hc : c = 0
  · have he : e = 0 := l.z hc
    rw [he, show (0 + (m : Int)).toNat = m by omega]
    exact (Sz.pow36 hb l.b36 _).mono hn
  · refine hd.le ?_
    rw [Int.natAbs_mul]
    exact Nat.le_mul_of_pos_left _ (by omega)
theorem Gd.rng {m n : Nat} {b c e : Int} (h : Gd m n b c e) : -(m : Int) ≤ e ∧ e ≤ n := by
  have h0 : 0 ≤ e + m := h.2.1
  refine ⟨by omega, ?_⟩
  by_cases hc : c = 0
  · have he : e = 0 := h.1.z hc
    omega
  · have := h.2.exp h.1.b2 hc
    have : e + m < n := this
    omega
theorem Gd.sz {m n : Nat} {b c e : Int} (h : Gd m n b c e) : Sz n c := h.2.c0 h.1.b2
theorem nrm_neg {b c e : Int} (hb : 2 ≤ b) (h6 : b ≤ 36) : nrm b (-c) e = negE (nrm b c e) := by
  by_cases hc : c = 0
  · rw [hc]; show nrm b 0 e = _; rw [nrm_zero]; rfl
  · obtain ⟨i1, i2⟩ := strip_ok hb c.natAbs c hc (Nat.le_refl _)
    rw [nrm_of hb hc i1 i2]
    refine nrm_of (r := -(strip b c.natAbs c).1) hb (by omega) (by rw [Int.neg_mul, ← i1]) ?_
    intro w; apply i2
    exact Int.emod_eq_zero_of_dvd (Int.dvd_neg.mp (Int.dvd_of_emod_eq_zero w))
theorem add_comm1 {x y : EN} (e : y.b = x.b) : addE 1 y x = addE 1 x y := by
  unfold addE
  rw [e, Int.min_comm, Int.one_mul, Int.one_mul, Int.add_comm]
theorem sub_swap {x y : EN} (hb : 2 ≤ x.b) (h6 : x.b ≤ 36) (e : y.b = x.b) : addE (-1) y x = negE (addE (-1) x y) := by
  unfold addE
  rw [← nrm_neg hb h6, e, Int.min_comm]
  congr 1
  omega
theorem mul_comm1 {x y : EN} (e : y.b = x.b) : mulE y x = mulE x y := by
  unfold mulE
  rw [e, Int.mul_comm, Int.add_comm]
theorem add_nrm_r {x : EN} (s n e : Int) (hb : 2 ≤ x.b) : addE s x (nrm x.b n e) = addE s x ⟨x.b, n, e⟩ := by
  by_cases hc : n = 0
  · rw [hc, nrm_zero, ← add_r0 (y := ⟨x.b, 0, 0⟩) s hb rfl, ← add_r0 (y := ⟨x.b, 0, e⟩) s hb rfl]
  · obtain ⟨i1, i2⟩ := strip_ok hb n.natAbs n hc (Nat.le_refl _)
    rw [nrm_of hb hc i1 i2, ← add_at (m := min x.e e) s hb (by omega) (by show _ ≤ e + _; omega), ← add_at (y := ⟨x.b, n, e⟩) (m := min x.e e) s hb (by omega) (by show _ ≤ e; omega)]
    dsimp only
    rw [show (e + ((strip x.b n.natAbs n).2 : Int) - min x.e e).toNat = (strip x.b n.natAbs n).2 + (e - min x.e e).toNat by omega, Int.pow_add, ← Int.mul_assoc (strip x.b n.natAbs n).1, ← i1]
theorem mul_nrm_r {x : EN} (n e : Int) (hb : 2 ≤ x.b) : mulE x (nrm x.b n e) = mulE x ⟨x.b, n, e⟩ := by
  by_cases hc : n = 0
  · rw [hc, nrm_zero]; unfold mulE; dsimp only; rw [Int.mul_zero, nrm_zero, nrm_zero]
  · obtain ⟨i1, i2⟩ := strip_ok hb n.natAbs n hc (Nat.le_refl _)
    rw [nrm_of hb hc i1 i2]
    unfold mulE
    dsimp only
    have := nrm_shift (c := x.c * (strip x.b n.natAbs n).1) (e := x.e + e) hb (strip x.b n.natAbs n).2
    rw [Int.mul_assoc, ← i1] at this
    rw [this]
    congr 1; omega
theorem add_nrm_l {y : EN} (s n e : Int) (hb : 2 ≤ y.b) : addE s (nrm y.b n e) y = addE s ⟨y.b, n, e⟩ y := by
  by_cases hc : n = 0
  · rw [hc, nrm_zero, ← add_l0 (x := ⟨y.b, 0, 0⟩) (y := y) s hb rfl, ← add_l0 (x := ⟨y.b, 0, e⟩) (y := y) s hb rfl]
  · obtain ⟨i1, i2⟩ := strip_ok hb n.natAbs n hc (Nat.le_refl _)
    rw [nrm_of hb hc i1 i2, ← add_at (x := ⟨y.b, (strip y.b n.natAbs n).1, e + (strip y.b n.natAbs n).2⟩) (m := min e y.e) s hb (by show _ ≤ e + _; omega) (by omega), ← add_at (x := ⟨y.b, n, e⟩) (m := min e y.e) s hb (by show _ ≤ e; omega) (by omega)]
    dsimp only
    rw [show (e + ((strip y.b n.natAbs n).2 : Int) - min e y.e).toNat = (strip y.b n.natAbs n).2 + (e - min e y.e).toNat by omega, Int.pow_add, ← Int.mul_assoc (strip y.b n.natAbs n).1, ← i1]
theorem low_add {x y : EN} {s : Int} (hb : 2 ≤ x.b) (h6 : x.b ≤ 36) : Low (addE s x y) := low_nrm hb h6
theorem low_mul {x y : EN} (hb : 2 ≤ x.b) (h6 : x.b ≤ 36) : Low (mulE x y) := low_nrm hb h6
theorem sgn_mul {d s : Int} (h0 : 0 ≤ d) (h1 : d < 2) : s * (1 - 2 * d) = s ∨ s * (1 - 2 * d) = -s := by
  have q : d = 0 ∨ d = 1 := by omega
  rcases q with q | q <;> rw [q] <;> omega
theorem due_ok {b c e : Int} {E : EN} (h : (⟨b, c, e⟩ : EN) = E) (l : Low E) : nrm b c e = E := by
  subst h; exact nrm_low l
theorem neg_pair {b c e c' e' : Int} {E : EN} (h : (⟨b, c, e⟩ : EN) = E) (h0 : c' = 0 - c) (h1 : e' = e) : (⟨b, c', e'⟩ : EN) = negE E := by
  subst h; rw [h0, h1, Int.zero_sub]; rfl
theorem abs_pair {b c e : Int} : (⟨b, (if c < 0 then -c else c), e⟩ : EN) = absE ⟨b, c, e⟩ := by
  unfold absE
  rw [show (if c < 0 then -c else c) = (c.natAbs : Int) by split <;> omega]
theorem gd_e {m n : Nat} {b c e : Int} {E : EN} (h : (⟨b, c, e⟩ : EN) = E) (l : Low E) (d : Bd m n E) : Gd m n b c e := by
  subst h; exact ⟨l, d⟩
theorem ad_of {m n m' n' : Nat} {x y : EN} (e : y.b = x.b) (h2 : 2 ≤ x.b) (h6 : x.b ≤ 36) (dx : Bd m n x) (dy : Bd m' n' y) (M : Nat) (l1 : m ≤ M) (l2 : m' ≤ M) (l3 : n + 6 * (M - m) + 1 ≤ 8990) (l4 : n' + 6 * (M - m') + 1 ≤ 8990) : Ad x y :=
  ⟨e, M, 8990, Nat.le_refl _, (dx.wid h2 h6 l1).mono l3, (dy.wid (by omega) (by omega) l2).mono l4⟩
structure Abn (n : Int) (a b : EN) : Prop where
  a2 : 2 ≤ a.b
  a36 : a.b ≤ 36
  b2 : 2 ≤ b.b
  b36 : b.b ≤ 36
  adab : Ad a b
  adba : Ad b a
  eab : b.b = a.b
  eba : a.b = b.b
  za : Sz 4490 a.c
  zb : Sz 4490 b.c
  la : Low a
  za9 : Sz 9000 a.c
  adan : Ad a (ofI a.b n)
  adna : Ad (ofI a.b n) a
  zn : Sz 4490 (ofI a.b n).c
  zn9 : Sz 9000 n
theorem abn_of {n : Int} {a b : EN} (la : Low a) (da : Bd 20 2450 a) (lb : Low b) (db : Bd 20 2450 b) (e : b.b = a.b) (hn : Sz 300 n) : Abn n a b := by
  have dn : Bd 0 300 (ofI a.b n) := Bd.ofI la.b2 hn
  have en : (ofI a.b n).b = a.b := ofI_b _ _
  have n2 : 2 ≤ (ofI a.b n).b := by rw [en]; exact la.b2
  have n6 : (ofI a.b n).b ≤ 36 := by rw [en]; exact la.b36
  exact ⟨la.b2, la.b36, lb.b2, lb.b36, ad_of e la.b2 la.b36 da db 20 (by decide) (by decide) (by decide) (by decide), ad_of e.symm lb.b2 lb.b36 db da 20 (by decide) (by decide) (by decide) (by decide), e, e.symm,
    (da.c0 la.b2).mono (by decide), (db.c0 lb.b2).mono (by decide), la, (da.c0 la.b2).mono (by decide), ad_of en la.b2 la.b36 da dn 20 (by decide) (by decide) (by decide) (by decide), ad_of en.symm n2 n6 dn da 20 (by decide) (by decide) (by decide) (by decide),
    (dn.c0 n2).mono (by decide), hn.mono (by decide)⟩
structure Stu (n : Int) (s t u : EN) : Prop where
  s2 : 2 ≤ s.b
  s36 : s.b ≤ 36
  adst : Ad s t
  ets : t.b = s.b
  zs : Sz 4490 s.c
  zt : Sz 4490 t.c
  p2 : 2 ≤ (mulE s t).b
  p36 : (mulE s t).b ≤ 36
  adnp : Ad (ofI (mulE s t).b n) (mulE s t)
  adsu : Ad s u
  ls : Low s
  lt : Low t
  lu : Low u
  ds : Bd 20 2451 s
  dt : Bd 20 2451 t
  du : Bd 20 2451 u
  dp : Bd 40 4902 (mulE s t)
theorem addE_b (s : Int) (x y : EN) : (addE s x y).b = x.b := nrm_b _ _ _
theorem mulE_b (x y : EN) : (mulE x y).b = x.b := nrm_b _ _ _
theorem stu_of {n : Int} {a b s t u : EN} (hs : s = addE 1 a b) (ht : t = addE (-1) a b) (hu : u = addE 1 a (ofI a.b n)) (la : Low a) (da : Bd 20 2450 a) (db : Bd 20 2450 b) (e : b.b = a.b) (hn : Sz 300 n) : Stu n s t u := by
  have dn : Bd 0 300 (ofI a.b n) := Bd.ofI la.b2 hn
  have en : (ofI a.b n).b = a.b := ofI_b _ _
  have dn2 : Bd 20 2450 (ofI a.b n) := (dn.wid (by rw [en]; exact la.b2) (by rw [en]; exact la.b36) (m' := 20) (by decide)).mono (by decide)
  have es : s.b = a.b := by rw [hs]; exact addE_b _ _ _
  have et : t.b = a.b := by rw [ht]; exact addE_b _ _ _
  have eu : u.b = a.b := by rw [hu]; exact addE_b _ _ _
  have s2 : 2 ≤ s.b := by rw [es]; exact la.b2
  have s6 : s.b ≤ 36 := by rw [es]; exact la.b36
  have ds : Bd 20 2451 s := by rw [hs]; exact Bd.add (.inl rfl) da db la.b2 e
  have dt : Bd 20 2451 t := by rw [ht]; exact Bd.add (.inr rfl) da db la.b2 e
  have du : Bd 20 2451 u := by rw [hu]; exact Bd.add (.inl rfl) da dn2 la.b2 en
  have ep : (mulE s t).b = s.b := mulE_b _ _
  have p2 : 2 ≤ (mulE s t).b := by rw [ep]; exact s2
  have p6 : (mulE s t).b ≤ 36 := by rw [ep]; exact s6
  have dp : Bd 40 4902 (mulE s t) := Bd.mul ds dt s2 (by rw [es, et])
  have dq : Bd 0 300 (ofI (mulE s t).b n) := Bd.ofI p2 hn
  have eq : (ofI (mulE s t).b n).b = (mulE s t).b := ofI_b _ _
  exact ⟨s2, s6, ad_of (by rw [es, et]) s2 s6 ds dt 20 (by decide) (by decide) (by decide) (by decide), by rw [es, et], (ds.c0 s2).mono (by decide), (dt.c0 (by rw [et, ← es]; exact s2)).mono (by decide), p2, p6,
    ad_of eq.symm (by rw [eq]; exact p2) (by rw [eq]; exact p6) dq dp 40 (by decide) (by decide) (by decide) (by decide), ad_of (by rw [es, eu]) s2 s6 ds du 20 (by decide) (by decide) (by decide) (by decide),
    by rw [hs]; exact low_add la.b2 la.b36, by rw [ht]; exact low_add la.b2 la.b36, by rw [hu]; exact low_add la.b2 la.b36, ds, dt, du, dp⟩
theorem made_ok {base n : Int} {X Y : EN} (lx : Low X) (e : Y.b = X.b) (ex : X.b = base) : [addE 1 X Y, addE (-1) X Y, addE (-1) Y X, mulE X Y, mulE Y X, negE X, absE X, addE 1 X (ofI X.b n), addE 1 (ofI X.b n) X, addE (-1) X (ofI X.b n), addE (-1) (ofI X.b n) X, mulE X (ofI X.b n), mulE (ofI X.b n) X]
    = [addE 1 X Y, addE (-1) X Y, negE (addE (-1) X Y), mulE X Y, mulE X Y, negE X, absE X, addE 1 X ⟨base, n, 0⟩, addE 1 X ⟨base, n, 0⟩, addE (-1) X ⟨base, n, 0⟩, negE (addE (-1) X ⟨base, n, 0⟩), mulE X ⟨base, n, 0⟩, mulE X ⟨base, n, 0⟩] := by
  subst ex
  have en : (ofI X.b n).b = X.b := ofI_b _ _
  rw [sub_swap lx.b2 lx.b36 e, mul_comm1 e, add_comm1 en, sub_swap lx.b2 lx.b36 en, mul_comm1 en]
  unfold ofI
  rw [add_nrm_r 1 n 0 lx.b2, add_nrm_r (-1) n 0 lx.b2, mul_nrm_r n 0 lx.b2]
theorem low_abs' {X : EN} (h : Low X) : Low (absE X) := low_abs h
theorem fur_ok {base n q00 q01 p0 p1 q10 q11 q20 q21 : Int} {s t u f0 f1 f2 f3 pp : EN} (sb : s.b = base) (h2 : 2 ≤ base) (h6 : base ≤ 36) (h0 : (⟨base, q00, q01⟩ : EN) = addE 1 s t) (hp : (⟨base, p0, p1⟩ : EN) = mulE s t)
    (h1 : (⟨base, q10, q11⟩ : EN) = addE (-1) ⟨base, n, 0⟩ (mulE s t)) (h3 : (⟨base, q20, q21⟩ : EN) = addE (-1) s u) (e0 : f0 = addE 1 s t) (e1 : f1 = mulE s t) (ep : pp = mulE s t) (e2 : f2 = addE (-1) (ofI pp.b n) pp) (e3 : f3 = addE (-1) s u) :
    [f0, f1, f2, f3] = [(q00, q01), (p0, p1), (q10, q11), (q20, q21)].map fun p => nrm base p.1 p.2 := by
  subst sb
  have pb : (mulE s t).b = s.b := mulE_b _ _
  have l1 : Low (addE (-1) ⟨s.b, n, 0⟩ (mulE s t)) := low_add h2 h6
  simp only [List.map]
  rw [due_ok h0 (low_add h2 h6), due_ok hp (low_mul h2 h6), due_ok h1 l1, due_ok h3 (low_add h2 h6), e0, e1, e2, e3, ep]
  unfold ofI
  rw [add_nrm_l (-1) n 0 (by rw [pb]; exact h2), pb]

theorem nrm_sg {b c e : Int} (hb : 2 ≤ b) : ((nrm b c e).c < 0 ↔ c < 0) ∧ ((nrm b c e).c = 0 ↔ c = 0) := by
  by_cases hc : c = 0
  · rw [hc, nrm_zero]; exact ⟨Iff.rfl, Iff.rfl⟩
  · obtain ⟨i1, i2⟩ := strip_ok hb c.natAbs c hc (Nat.le_refl _)
    rw [nrm_of hb hc i1 i2]
    have hp := pow_pos' hb (strip b c.natAbs c).2
    dsimp only
    generalize (strip b c.natAbs c).1 = r at *
    generalize b ^ (strip b c.natAbs c).2 = p at *
    refine ⟨⟨fun h => ?_, fun h => ?_⟩, ⟨fun h => ?_, fun h => absurd h hc⟩⟩
    · rw [i1]; exact Int.mul_neg_of_neg_of_pos h (by omega)
    · rcases Int.lt_or_le r 0 with q | q
      · exact q
      · exfalso
        have := Int.mul_nonneg q (by omega : 0 ≤ p)
        omega
    · rw [i1, h, Int.zero_mul]
def Sg (r d : Int) : Prop := (r < 0 ↔ d < 0) ∧ (r = 0 ↔ d = 0)
theorem Sg.lt {r d : Int} (h : Sg r d) : decide (r < 0) = decide (d < 0) := decide_eq_decide.mpr h.1
theorem Sg.le {r d : Int} (h : Sg r d) : decide (r ≤ 0) = decide (d ≤ 0) := decide_eq_decide.mpr (by have := h.1; have := h.2; omega)
theorem Sg.gt {r d : Int} (h : Sg r d) : decide (r > 0) = decide (d > 0) := decide_eq_decide.mpr (by have := h.1; have := h.2; omega)
theorem Sg.ge {r d : Int} (h : Sg r d) : decide (r ≥ 0) = decide (d ≥ 0) := decide_eq_decide.mpr (by have := h.1; have := h.2; omega)
theorem sg_of {x y : EN} {p q e : Int} (hb : 2 ≤ x.b) (h : nrm x.b (p + -1 * q) e = addE (-1) x y) : Sg (p - q) (addE (-1) x y).c := by
  rw [← h]
  obtain ⟨h1, h2⟩ := nrm_sg (c := p + -1 * q) (e := e) hb
  unfold Sg
  omega
theorem eq_off {u v : EN} (lu : Low u) (lv : Low v) (e : v.b = u.b) : (u.b = v.b ∧ u.e = v.e ∧ u.c = v.c) ↔ (addE (-1) u v).c = 0 := by
  constructor
  · rintro ⟨_, he, hc⟩
    have : v = u := by
      obtain ⟨ub, uc, ue⟩ := u
      obtain ⟨vb, vc, ve⟩ := v
      dsimp only at *
      rw [e, hc, he]
    rw [this]
    unfold addE
    rw [show ∀ z : Int, z + -1 * z = 0 by intro z; omega, nrm_zero]
  · intro h
    have h2 := (nrm_sg lu.b2).2.mp h
    have a1 := nrm_shift (c := u.c) (e := min u.e v.e) lu.b2 (u.e - min u.e v.e).toNat
    have a2 := nrm_shift (c := v.c) (e := min u.e v.e) lu.b2 (v.e - min u.e v.e).toNat
    have e3 : u.c * u.b ^ (u.e - min u.e v.e).toNat = v.c * u.b ^ (v.e - min u.e v.e).toNat := by omega
    rw [e3, a2] at a1
    rw [show min u.e v.e + ((v.e - min u.e v.e).toNat : Int) = v.e by omega, show min u.e v.e + ((u.e - min u.e v.e).toNat : Int) = u.e by omega, nrm_low lu, ← e, nrm_low lv] at a1
    rw [a1]
    exact ⟨rfl, rfl, rfl⟩
theorem cmp_ok {base x0 x1 y0 y1 o0 o1 : Int} {a b : EN} (h2 : 2 ≤ base) (h6 : base ≤ 36) (ha : a = nrm base x0 x1) (hb : b = nrm base y0 y1) (ho : (⟨base, o0, o1⟩ : EN) = addE (0 - 1) ⟨base, x0, x1⟩ ⟨base, y0, y1⟩) :
    (addE (-1) a b).c = o0 ∧ decide (a.b = b.b ∧ a.e = b.e ∧ a.c = b.c) = decide (o0 = 0) := by
  have e1 : addE (-1) a b = ⟨base, o0, o1⟩ := by
    rw [ho, ha, hb]
    have q := add_nrm_l (y := nrm base y0 y1) (-1) x0 x1 (by rw [nrm_b]; exact h2)
    rw [nrm_b] at q
    rw [q]
    exact add_nrm_r (x := ⟨base, x0, x1⟩) (-1) y0 y1 h2
  have e2 : (addE (-1) a b).c = o0 := by rw [e1]
  refine ⟨e2, ?_⟩
  rw [← e2]
  refine decide_eq_decide.mpr (eq_off ?_ ?_ ?_)
  · rw [ha]; exact low_nrm h2 h6
  · rw [hb]; exact low_nrm h2 h6
  · rw [ha, hb, nrm_b, nrm_b]
theorem told_ok {base x0 x1 y0 y1 o0 o1 : Int} {a b : EN} {p1 p2 p3 p4 p5 p6 : Bool} (h2 : 2 ≤ base) (h6 : base ≤ 36) (ha : a = nrm base x0 x1) (hb : b = nrm base y0 y1) (ho : (⟨base, o0, o1⟩ : EN) = addE (0 - 1) ⟨base, x0, x1⟩ ⟨base, y0, y1⟩)
    (q1 : p1 = decide ((addE (-1) a b).c < 0)) (q2 : p2 = decide ((addE (-1) a b).c ≤ 0)) (q3 : p3 = decide ((addE (-1) a b).c > 0)) (q4 : p4 = decide ((addE (-1) a b).c ≥ 0))
    (q5 : p5 = decide (a.b = b.b ∧ a.e = b.e ∧ a.c = b.c)) (q6 : p6 = decide (a.b = b.b ∧ a.e = b.e ∧ a.c = b.c)) : [p1, p2, p3, p4, p5, !p6] = [decide (o0 < 0), decide (o0 ≤ 0), decide (o0 > 0), decide (o0 ≥ 0), decide (o0 = 0), !decide (o0 = 0)] := by
  obtain ⟨e1, e2⟩ := cmp_ok h2 h6 ha hb ho
  rw [q1, q2, q3, q4, q5, q6, e1, e2]
theorem bd_rg {base c e : Int} (h2 : 2 ≤ base) (h6 : base ≤ 36) (hz : Sz 1300 c) (h0 : -100 ≤ e) (h1 : e ≤ 800) : Bd 100 6701 (nrm base c e) :=
  Bd.nrm h2 (by omega) (hz.mul ((Sz.pow36 h2 h6 (e + ((100 : Nat) : Int)).toNat).mono (by omega : 6 * (e + ((100 : Nat) : Int)).toNat + 1 ≤ 5401)))
theorem ad_rg {base c e c' e' : Int} (h2 : 2 ≤ base) (h6 : base ≤ 36) (h : Sz 1300 c ∧ -100 ≤ e ∧ e ≤ 800) (h' : Sz 1300 c' ∧ -100 ≤ e' ∧ e' ≤ 800) : Ad (nrm base c e) (nrm base c' e') :=
  ⟨by rw [nrm_b, nrm_b], 100, 6701, by decide, bd_rg h2 h6 h.1 h.2.1 h.2.2, bd_rg h2 h6 h'.1 h'.2.1 h'.2.2⟩
structure Txt (w : World) (K : PySem.W.Frag) (mg : Str → Option Value) : Prop where
  d_power : ∃ fd, FunD K "power" "power" (defArgs (top 8)) (defBody (top 8)) (defScope (top 8)) [] [] (He.fAd K ("power", none)) fd
  d_squares_up_to : ∃ fd, FunD K "squares_up_to" "squares_up_to" (defArgs (top 9)) (defBody (top 9)) (defScope (top 9)) [] [] (He.fAd K ("squares_up_to", none)) fd
  d_without_zeros : ∃ fd, FunD K "without_zeros" "without_zeros" (defArgs (top 11)) (defBody (top 11)) (defScope (top 11)) [] [] (He.fAd K ("without_zeros", none)) fd
  d_check_base : ∃ fd, FunD K "check_base" "check_base" (defArgs (top 12)) (defBody (top 12)) (defScope (top 12)) [] [] (He.fAd K ("check_base", none)) fd
  d_Exact___init__ : ∃ fd, FunD K "__init__" "Exact.__init__" (defArgs (inClass (top 13) 0)) (defBody (inClass (top 13) 0)) (defScope (inClass (top 13) 0)) [V.int 0] [] (He.fAd K ("Exact", some "__init__")) fd
  d_aligned : ∃ fd, FunD K "aligned" "aligned" (defArgs (top 15)) (defBody (top 15)) (defScope (top 15)) [] [] (He.fAd K ("aligned", none)) fd
  d_compared : ∃ fd, FunD K "compared" "compared" (defArgs (top 18)) (defBody (top 18)) (defScope (top 18)) [] [] (He.fAd K ("compared", none)) fd
  d_Exact___eq__ : ∃ fd, FunD K "__eq__" "Exact.__eq__" (defArgs (inClass (top 13) 19)) (defBody (inClass (top 13) 19)) (defScope (inClass (top 13) 19)) [] [] (He.fAd K ("Exact", some "__eq__")) fd
  d_Exact___lt__ : ∃ fd, FunD K "__lt__" "Exact.__lt__" (defArgs (inClass (top 13) 20)) (defBody (inClass (top 13) 20)) (defScope (inClass (top 13) 20)) [] [] (He.fAd K ("Exact", some "__lt__")) fd
  d_Exact___le__ : ∃ fd, FunD K "__le__" "Exact.__le__" (defArgs (inClass (top 13) 21)) (defBody (inClass (top 13) 21)) (defScope (inClass (top 13) 21)) [] [] (He.fAd K ("Exact", some "__le__")) fd
  d_Exact___gt__ : ∃ fd, FunD K "__gt__" "Exact.__gt__" (defArgs (inClass (top 13) 22)) (defBody (inClass (top 13) 22)) (defScope (inClass (top 13) 22)) [] [] (He.fAd K ("Exact", some "__gt__")) fd
  d_Exact___ge__ : ∃ fd, FunD K "__ge__" "Exact.__ge__" (defArgs (inClass (top 13) 23)) (defBody (inClass (top 13) 23)) (defScope (inClass (top 13) 23)) [] [] (He.fAd K ("Exact", some "__ge__")) fd
  d__law_power : ∃ fd, FunD K "_law_power" "_law_power" (defArgs (top 25)) (defBody (top 25)) (defScope (top 25)) [] [] (He.fAd K ("_law_power", none)) fd
  d__law_draw : ∃ fd, FunD K "_law_draw" "_law_draw" (defArgs (top 22)) (defBody (top 22)) (defScope (top 22)) [] [] (He.fAd K ("_law_draw", none)) fd
  d__law_source : ∃ fd, FunD K "_law_source" "_law_source" (defArgs (top 21)) (defBody (top 21)) (defScope (top 21)) [] [] (He.fAd K ("_law_source", none)) fd
  d__law_lowest : ∃ fd, FunD K "_law_lowest" "_law_lowest" (defArgs (top 26)) (defBody (top 26)) (defScope (top 26)) [] [] (He.fAd K ("_law_lowest", none)) fd
  d__law_make : ∃ fd, FunD K "_law_make" "_law_make" (defArgs (top 32)) (defBody (top 32)) (defScope (top 32)) [] [] (He.fAd K ("_law_make", none)) fd
  d__law_base : ∃ fd, FunD K "_law_base" "_law_base" (defArgs (top 23)) (defBody (top 23)) (defScope (top 23)) [] [] (He.fAd K ("_law_base", none)) fd
  d__law_precision : ∃ fd, FunD K "_law_precision" "_law_precision" (defArgs (top 24)) (defBody (top 24)) (defScope (top 24)) [] [] (He.fAd K ("_law_precision", none)) fd
  d__law_full : ∃ fd, FunD K "_law_full" "_law_full" (defArgs (top 28)) (defBody (top 28)) (defScope (top 28)) [] [] (He.fAd K ("_law_full", none)) fd
  d__law_small : ∃ fd, FunD K "_law_small" "_law_small" (defArgs (top 29)) (defBody (top 29)) (defScope (top 29)) [] [] (He.fAd K ("_law_small", none)) fd
  d__law_value : ∃ fd, FunD K "_law_value" "_law_value" (defArgs (top 30)) (defBody (top 30)) (defScope (top 30)) [] [] (He.fAd K ("_law_value", none)) fd
  d__law_sum : ∃ fd, FunD K "_law_sum" "_law_sum" (defArgs (top 27)) (defBody (top 27)) (defScope (top 27)) [] [] (He.fAd K ("_law_sum", none)) fd
  d__law_equal : ∃ fd, FunD K "_law_equal" "_law_equal" (defArgs (top 31)) (defBody (top 31)) (defScope (top 31)) [] [] (He.fAd K ("_law_equal", none)) fd
  d__law_is : ∃ fd, FunD K "_law_is" "_law_is" (defArgs (top 33)) (defBody (top 33)) (defScope (top 33)) [] [] (He.fAd K ("_law_is", none)) fd
  d__law_are : ∃ fd, FunD K "_law_are" "_law_are" (defArgs (top 34)) (defBody (top 34)) (defScope (top 34)) [] [] (He.fAd K ("_law_are", none)) fd
  d__law_next : ∃ fd, FunD K "_law_next" "_law_next" (defArgs (top 35)) (defBody (top 35)) (defScope (top 35)) [] [] (He.fAd K ("_law_next", none)) fd
  d__law_compared : ∃ fd, FunD K "_law_compared" "_law_compared" (defArgs (top 36)) (defBody (top 36)) (defScope (top 36)) [] [] (He.fAd K ("_law_compared", none)) fd
  d__law_unlike : ∃ fd, FunD K "_law_unlike" "_law_unlike" (defArgs (top 37)) (defBody (top 37)) (defScope (top 37)) [] [] (He.fAd K ("_law_unlike", none)) fd
  d_law : ∃ fd, FunD K "law" "law" (defArgs (top 38)) (defBody (top 38)) (defScope (top 38)) [] [] (He.fAd K ("law", none)) fd
  g_Exact : mg "Exact" = some (.ref (He.ga K "Exact"))
  g__law_are : mg "_law_are" = some (.ref (He.fAd K ("_law_are", none)))
  g__law_base : mg "_law_base" = some (.ref (He.fAd K ("_law_base", none)))
  g__law_compared : mg "_law_compared" = some (.ref (He.fAd K ("_law_compared", none)))
  g__law_draw : mg "_law_draw" = some (.ref (He.fAd K ("_law_draw", none)))
  g__law_equal : mg "_law_equal" = some (.ref (He.fAd K ("_law_equal", none)))
  g__law_full : mg "_law_full" = some (.ref (He.fAd K ("_law_full", none)))
  g__law_is : mg "_law_is" = some (.ref (He.fAd K ("_law_is", none)))
  g__law_lowest : mg "_law_lowest" = some (.ref (He.fAd K ("_law_lowest", none)))
  g__law_make : mg "_law_make" = some (.ref (He.fAd K ("_law_make", none)))
  g__law_next : mg "_law_next" = some (.ref (He.fAd K ("_law_next", none)))
  g__law_power : mg "_law_power" = some (.ref (He.fAd K ("_law_power", none)))
  g__law_precision : mg "_law_precision" = some (.ref (He.fAd K ("_law_precision", none)))
  g__law_small : mg "_law_small" = some (.ref (He.fAd K ("_law_small", none)))
  g__law_source : mg "_law_source" = some (.ref (He.fAd K ("_law_source", none)))
  g__law_sum : mg "_law_sum" = some (.ref (He.fAd K ("_law_sum", none)))
  g__law_unlike : mg "_law_unlike" = some (.ref (He.fAd K ("_law_unlike", none)))
  g__law_value : mg "_law_value" = some (.ref (He.fAd K ("_law_value", none)))
  b_abs : mg "abs" = none
  g_aligned : mg "aligned" = some (.ref (He.fAd K ("aligned", none)))
  b_bool : mg "bool" = none
  g_check_base : mg "check_base" = some (.ref (He.fAd K ("check_base", none)))
  g_compared : mg "compared" = some (.ref (He.fAd K ("compared", none)))
  b_int : mg "int" = none
  b_isinstance : mg "isinstance" = none
  g_law : mg "law" = some (.ref (He.fAd K ("law", none)))
  b_len : mg "len" = none
  b_list : mg "list" = none
  b_min : mg "min" = none
  g_power : mg "power" = some (.ref (He.fAd K ("power", none)))
  b_range : mg "range" = none
  b_reversed : mg "reversed" = none
  g_squares_up_to : mg "squares_up_to" = some (.ref (He.fAd K ("squares_up_to", none)))
  b_str : mg "str" = none
  b_tuple : mg "tuple" = none
  g_without_zeros : mg "without_zeros" = some (.ref (He.fAd K ("without_zeros", none)))
  cls_Exact : Cls K (He.ga K "Exact")
  na_Exact_base : NoAttr K (He.ga K "Exact") "base"
  na_Exact_coefficient : NoAttr K (He.ga K "Exact") "coefficient"
  na_Exact_exponent : NoAttr K (He.ga K "Exact") "exponent"
  ins_Exact : C8.InsC K (He.ga K "Exact")
  isk_Exact_int : PySem.W.kitOne K (.type "int") (.ref (He.ga K "Exact")) = some false
  isk_Exact_str : PySem.W.kitOne K (.type "str") (.ref (He.ga K "Exact")) = some false
  isk_Exact_NoneType : PySem.W.kitOne K (.type "NoneType") (.ref (He.ga K "Exact")) = some false
  isk_Exact_tuple : PySem.W.kitOne K (.type "tuple") (.ref (He.ga K "Exact")) = some false
  isk_Exact_list : PySem.W.kitOne K (.type "list") (.ref (He.ga K "Exact")) = some false
  mk_Exact : Mk K (He.ga K "Exact") (He.fAd K ("Exact", some "__init__"))
  cmp_Exact___lt__ : CmpF K (He.ga K "Exact") "__lt__" (He.fAd K ("Exact", some "__lt__"))
  cmp_Exact___le__ : CmpF K (He.ga K "Exact") "__le__" (He.fAd K ("Exact", some "__le__"))
  cmp_Exact___gt__ : CmpF K (He.ga K "Exact") "__gt__" (He.fAd K ("Exact", some "__gt__"))
  cmp_Exact___ge__ : CmpF K (He.ga K "Exact") "__ge__" (He.fAd K ("Exact", some "__ge__"))
  cmp_Exact___eq__ : CmpF K (He.ga K "Exact") "__eq__" (He.fAd K ("Exact", some "__eq__"))
  ne_Exact : NeF K (He.ga K "Exact") (He.fAd K ("Exact", some "__eq__"))
  subs_Exact : ∀ T ∈ ["int", "str", "NoneType", "tuple", "list"], PySem.W.subIn K (.ref (He.ga K "Exact")) (.type T) = some false
/-! power -/
def sp_power (K : PySem.W.Frag) : Sp := fun vs H Q _ => ∃ (base : Int) (count : Int), vs = [V.int base, V.int count] ∧ (0 ≤ count) ∧ (count ≤ 20000) ∧ (Sz 6 base) ∧ ∀ (r : Int) (H' : Hp), Same H H' → (r = base ^ count.toNat) → Q (V.int r) H'
abbrev s_power : Stmt := top 8
theorem sc_power : FnScope ["base", "count", "result", "square"] ["base", "count"] (defScope s_power) := ⟨rfl, rfl, rfl, by decide +kernel, rfl, by decide +kernel, by decide +kernel⟩
theorem vis_power : visB ["base", "count", "result", "square"] (defScope s_power) = true := by decide +kernel
theorem gl_power : glB [] (defScope s_power) = true := by decide +kernel
theorem ok_power {P : Program} {w : World} {K : PySem.W.Frag} {mg : Str → Option Value} {base : Heap} (T : Txt w K mg) : OkD P w K mg base 1 (He.fAd K ("power", none)) ["base", "count"] [] (sp_power K) := by
  obtain ⟨fd, F⟩ := T.d_power
  refine ⟨fd, [], F.kp, F.bindsN (fun _ _ _ _ _ _ us hl => match us, hl with | [_, _], _ => rfl), .nil, ?_⟩
  have sc := sc_power; have vis := vis_power; have gls := gl_power
  refine F.ok sc (fun vs H Q E h => ?_) (fun cdv A outer s H0 vs Q E hr h => ?_)
  · obtain ⟨base, count, rfl, _⟩ := h; rfl
  · obtain ⟨base, count, rfl, e0, e1, e2, k⟩ := h
    refine ⟨_, PSs.nox (pss_cons (ps_set (i := 2) sc.nd rfl (.inl rfl) pe_int) (pss_cons (ps_set (i := 3) sc.nd rfl (.inl rfl) (pn vis 0)) (pss_cons (ps_while PassesOwn.never (pt_cmpR op_gt (pn vis 1) pe_int (nomark _)) (pss_cons (ps_if (pt_cmpR op_eqI (pe_op op_mod (pn vis 1) pe_int) pe_int (nomark _)) (pss_one (ps_set (i := 2) sc.nd rfl (.inl rfl) (pe_op op_mulX (pn vis 2) (pn vis 3)))) pss_nil) (pss_cons (ps_set (i := 3) sc.nd rfl (.inl rfl) (pe_op op_mulX (pn vis 3) (pn vis 3))) (pss_one (ps_set (i := 1) sc.nd rfl (.inl rfl) (pe_op op_fdiv (pn vis 1) pe_int)))))) (pss_one (ps_ret (pn vis 2)))))), ?_⟩
    refine i_start (σ' := [some (V.int base), some (V.int count), none, none]) rfl ?_
    refine i_seq <| i_asg <| i_c <| n2 <| i_nx <| i_seq <| i_asg <| v0 <| n3 <| i_nx <| i_seq <| ?_
    refine i_while (fun m σ H' => ∃ (cn : Int) (x : Int) (q : Int), σ = [some (V.int base), some (V.int cn), some (V.int x), some (V.int q)] ∧ m = cn.toNat ∧ Same H0 H' ∧ (Pw base count x q cn)) ?_ ?_
    ·
      exact ⟨_, _, _, _, rfl, rfl, (Same.refl _), (by exact Pw.init e0)⟩
    ·
      rintro m σ H1 ⟨cn, x, q, rfl, rfl, s1, i0⟩
      refine i_test <| i_op <| v1 <| i_c <| i_I0 <| i_bl <| i_ite (fun c3 => ?_) (fun c3 => ?_)
      ·
        refine i_turn <| i_seq <| i_if <| i_test <| i_op <| i_op <| v1 <| i_c <| i_I (by show (0 : Int) < _; first | decide | assumption | omega) <| i_c <| i_I0 <| i_bl <| i_ite (fun c4 => ?_) (fun c4 => ?_)
        ·
          refine i_asg <| i_op <| v2 <| v3 <| i_I (by exact mulx (i0.sz c3 e1 e2).1 (i0.sz c3 e1 e2).2) <| n2 <| i_nx <| i_seq <| i_asg <| i_op <| v3 <| v3 <| i_I (by exact mulx (i0.sz c3 e1 e2).2 (i0.sz c3 e1 e2).2) <| n3 <| i_nx <| i_asg <| i_op <| v1 <| i_c <| i_I ⟨by decide, by decide⟩ <| n1 <| ?_
          refine ⟨_, ?_, _, _, _, rfl, rfl, s1, (by exact i0.odd c4)⟩
          omega
        ·
          refine i_next <| i_nx <| i_seq <| i_asg <| i_op <| v3 <| v3 <| i_I (by exact mulx (i0.sz c3 e1 e2).2 (i0.sz c3 e1 e2).2) <| n3 <| i_nx <| i_asg <| i_op <| v1 <| i_c <| i_I ⟨by decide, by decide⟩ <| n1 <| ?_
          refine ⟨_, ?_, _, _, _, rfl, rfl, s1, (by exact i0.even c4)⟩
          omega
      ·
        refine i_nx <| i_ret <| v2 <| ?_
        exact k _ _ s1 (by exact i0.done c3)

/-! squares_up_to -/
def sp_squares_up_to (K : PySem.W.Frag) : Sp := fun vs H Q _ => ∃ (base : Int) (size : Int), vs = [V.int base, V.int size] ∧ (2 ≤ base) ∧ (Sz 9000 size) ∧ ∀ (rA : Addr) (r : List Int) (H' : Hp), Same H H' → H' rA = some (.lst (r.map V.int)) → (∃ n, n ≤ 14 ∧ r = sqL base n ∧ size < base ^ (2 ^ n) ∧ ∀ k < n, base ^ (2 ^ k) ≤ size) → Q (V.ref rA) H'
abbrev s_squares_up_to : Stmt := top 9
theorem sc_squares_up_to : FnScope ["base", "size", "squares", "square"] ["base", "size"] (defScope s_squares_up_to) := ⟨rfl, rfl, rfl, by decide +kernel, rfl, by decide +kernel, by decide +kernel⟩
theorem vis_squares_up_to : visB ["base", "size", "squares", "square"] (defScope s_squares_up_to) = true := by decide +kernel
theorem gl_squares_up_to : glB [] (defScope s_squares_up_to) = true := by decide +kernel
theorem ok_squares_up_to {P : Program} {w : World} {K : PySem.W.Frag} {mg : Str → Option Value} {base : Heap} (T : Txt w K mg) : OkD P w K mg base 1 (He.fAd K ("squares_up_to", none)) ["base", "size"] [] (sp_squares_up_to K) := by
  obtain ⟨fd, F⟩ := T.d_squares_up_to
  refine ⟨fd, [], F.kp, F.bindsN (fun _ _ _ _ _ _ us hl => match us, hl with | [_, _], _ => rfl), .nil, ?_⟩
  have sc := sc_squares_up_to; have vis := vis_squares_up_to; have gls := gl_squares_up_to
  refine F.ok sc (fun vs H Q E h => ?_) (fun cdv A outer s H0 vs Q E hr h => ?_)
  · obtain ⟨base, size, rfl, _⟩ := h; rfl
  · obtain ⟨base, size, rfl, e0, e1, k⟩ := h
    refine ⟨_, PSs.nox (pss_cons (ps_set (i := 2) sc.nd rfl (.inl rfl) (pe_lst pa_nil)) (pss_cons (ps_set (i := 3) sc.nd rfl (.inl rfl) (pn vis 0)) (pss_cons (ps_while PassesOwn.never (pt_cmpR op_le (pn vis 3) (pn vis 1) (nomark _)) (pss_cons (ps_expr (pe_bm PySem.F.plainAttrs_list PySem.F.slot_list_append PySem.F.type_list_append mt_append (pn vis 2) (pa_cons (pn vis 3) pa_nil))) (pss_one (ps_set (i := 3) sc.nd rfl (.inl rfl) (pe_op op_mulX (pn vis 3) (pn vis 3)))))) (pss_one (ps_ret (pn vis 2)))))), ?_⟩
    refine i_start (σ' := [some (V.int base), some (V.int size), none, none]) rfl ?_
    refine i_seq <| i_asg <| i_lst <| i_nil <| i_kLst (of_decide_eq_true rfl) (fun p1 H1 z1 s1 f1 => ?_)
    refine n2 <| i_nx <| i_seq <| i_asg <| v0 <| n3 <| i_nx <| i_seq <| ?_
    refine i_while (fun m σ H' => ∃ (sqA : Addr) (sq : List Int) (v : Int), σ = [some (V.int base), some (V.int size), some (V.ref sqA), some (V.int v)] ∧ m = (size + 1 - v).toNat ∧ Same H0 H' ∧ H' sqA = some (.lst (sq.map V.int)) ∧ H0 sqA = none ∧ (Sq base size sq v)) ?_ ?_
    ·
      exact ⟨_, _, [], _, rfl, rfl, s1, f1, z1, (by exact Sq.init)⟩
    ·
      rintro m σ H2 ⟨sqA, sq, v, rfl, rfl, s2, f2_0, z_sq, i0⟩
      refine i_test <| i_op <| v3 <| v1 <| i_I0 <| i_bl <| i_ite (fun c3 => ?_) (fun c3 => ?_)
      ·
        refine i_turn <| i_seq <| i_drop <| i_bm <| v2 <| i_tyL (SqL.of f2_0) <| i_cons <| v3 <| i_nil <| i_app f2_0 (by rw [List.length_map]; exact Nat.le_trans (i0.len e0 e1) (by decide)) (fun H3 w3 f3 => ?_)
        have s3 : Same H0 H3 := same_app z_sq s2 w3
        have f3_ : H3 sqA = some (.lst (List.map V.int (sq ++ [v]))) := by rw [List.map_append]; exact f3
        refine i_nx <| i_asg <| i_op <| v3 <| v3 <| i_I (by exact mulx (i0.szv e0 e1 c3) (i0.szv e0 e1 c3)) <| n3 <| ?_
        refine ⟨_, ?_, _, (sq ++ [v]), _, rfl, rfl, s3, f3_, z_sq, (by exact i0.step c3)⟩
        have := lt_sq (i0.two e0); omega
      ·
        refine i_nx <| i_ret <| v2 <| ?_
        exact k _ sq _ s2 f2_0 (by have l := i0.len e0 e1; obtain ⟨n, h1, h2, h3⟩ := i0; subst h1; rw [sqL_len] at l; exact ⟨n, l, rfl, by omega, h3⟩)

/-! without_zeros -/
def sp_without_zeros (K : PySem.W.Frag) : Sp := fun vs H Q _ => ∃ (base : Int) (coefficient : Int), vs = [V.int base, V.int coefficient] ∧ (2 ≤ base) ∧ (Sz 9000 coefficient) ∧ (coefficient ≠ 0) ∧ ∀ (rA : Addr) (r0 : Int) (r1 : Int) (H' : Hp), Same H H' → H' rA = some (.tup [V.int r0, V.int r1]) → (coefficient = r0 * base ^ r1.toNat) → (0 ≤ r1) → (r0 % base ≠ 0) → Q (V.ref rA) H'
abbrev s_without_zeros : Stmt := top 11
theorem sc_without_zeros : FnScope ["base", "coefficient", "squares", "rest", "count", "k"] ["base", "coefficient"] (defScope s_without_zeros) := ⟨rfl, rfl, rfl, by decide +kernel, rfl, by decide +kernel, by decide +kernel⟩
theorem vis_without_zeros : visB ["base", "coefficient", "squares", "rest", "count", "k"] (defScope s_without_zeros) = true := by decide +kernel
theorem gl_without_zeros : glB ["abs", "squares_up_to", "reversed", "range", "len", "power"] (defScope s_without_zeros) = true := by decide +kernel
theorem ok_without_zeros {P : Program} {w : World} {K : PySem.W.Frag} {mg : Str → Option Value} {base : Heap} (T : Txt w K mg) : OkD P w K mg base 2 (He.fAd K ("without_zeros", none)) ["base", "coefficient"] [] (sp_without_zeros K) := by
  obtain ⟨fd, F⟩ := T.d_without_zeros
  refine ⟨fd, [], F.kp, F.bindsN (fun _ _ _ _ _ _ us hl => match us, hl with | [_, _], _ => rfl), .nil, ?_⟩
  have sc := sc_without_zeros; have vis := vis_without_zeros; have gls := gl_without_zeros
  refine F.ok sc (fun vs H Q E h => ?_) (fun cdv A outer s H0 vs Q E hr h => ?_)
  · obtain ⟨base, coefficient, rfl, _⟩ := h; rfl
  · obtain ⟨base, coefficient, rfl, e0, e1, e2, k⟩ := h
    refine ⟨_, PSs.nox (pss_cons (ps_set (i := 2) sc.nd rfl (.inl rfl) (pcD (ok_squares_up_to T) (hr.mono (by decide)) gls 1 T.g_squares_up_to (pa_cons (pn vis 0) (pa_cons (pcB call_absI gls 0 T.b_abs (by decide +kernel) (pa_cons (pn vis 1) pa_nil)) pa_nil)))) (pss_cons (ps_set (i := 3) sc.nd rfl (.inl rfl) (pn vis 1)) (pss_cons (ps_set (i := 4) sc.nd rfl (.inl rfl) pe_int) (pss_cons (ps_for PassesOwn.never rfl (pi_revR (gl_of gls (i := 2) rfl).1 T.b_reversed (prg_1 (gl_of gls (i := 3) rfl).1 T.b_range (pcB call_lenS gls 4 T.b_len PySem.boot_len (pa_cons (pn vis 2) pa_nil)))) (pg_name (i := 5) sc.nd rfl (.inl rfl)) (pss_one (ps_if (pt_cmpR op_eqI (pe_op op_mod (pn vis 3) (pe_ix ix_list (pn vis 2) (pn vis 5) (fun _ _ => rfl))) pe_int (nomark _)) (pss_cons (ps_set (i := 3) sc.nd rfl (.inl rfl) (pe_op op_fdivW (pn vis 3) (pe_ix ix_list (pn vis 2) (pn vis 5) (fun _ _ => rfl)))) (pss_one (ps_set (i := 4) sc.nd rfl (.inl rfl) (pe_op op_add (pn vis 4) (pcD (ok_power T) (hr.mono (by decide)) gls 5 T.g_power (pa_cons pe_int (pa_cons (pn vis 5) pa_nil))))))) pss_nil))) (pss_one (ps_ret (pe_tup (pa_cons (pn vis 3) (pa_cons (pn vis 4) pa_nil))))))))), ?_⟩
    refine i_start (σ' := [some (V.int base), some (V.int coefficient), none, none, none, none]) rfl ?_
    refine i_seq <| i_asg <| i_call <| i_cons <| v0 <| i_cons <| i_cb <| i_cons <| v1 <| i_nil <| i_abs <| i_nil <| ⟨_, _, rfl, (by first | assumption | omega | rfl | exact Sz.zero | exact Sz.sm (by omega) (by omega) (by decide) | exact Sz.mono (by assumption) (by decide)), (by exact e1.le (by split <;> omega)), fun squaresA squares H1 s1 f1_0 hsquares => ?_⟩
    refine n2 <| i_nx <| i_seq <| ?_
    obtain ⟨n, hn, hsq, hz, hk⟩ := hsquares
    have hlen : squares.length = n := by rw [hsq, sqL_len]
    refine i_asg <| v1 <| n3 <| i_nx <| i_seq <| i_asg <| i_c <| n4 <| i_nx <| i_seq <| i_for <| i_revR <| i_rg1 <| i_cb <| i_cons <| v2 <| i_nil <| i_lenM (SqL.of f1_0) <| i_rev (fun i σ H' => ∃ (x : Int) (cn : Int) (o_k : Option V), σ = [some (V.int base), some (V.int coefficient), some (V.ref squaresA), some (V.int x), some (V.int cn), o_k] ∧ Same H1 H' ∧ (Wz base coefficient (n - i) x cn)) (by omega) ?_ ?_ ?_
    ·
      exact ⟨_, _, _, rfl, (Same.refl _), (by exact Wz.init e2 hz)⟩
    ·
      intro i
      rintro σ H2 hi ⟨x, cn, o_k, rfl, s2, i0⟩
      refine n5 <| ?_
      have hm : n - i = (n - 1 - i) + 1 := by omega
      have hp := pow_pos' e0 (2 ^ (n - 1 - i))
      have hpz : Sz 9000 (base ^ (2 ^ (n - 1 - i))) := e1.le (by have := hk (n - 1 - i) (by omega); split at this <;> omega)
      rw [hm] at i0
      have hke : ((squares.length : Int) - 1 - (i : Int)).toNat = (n - 1 - i) := by omega
      refine i_if <| i_test <| i_op <| i_op <| v3 <| i_op <| v2 <| v5 <| i_ixL (SqL.of (s2 _ _ f1_0)) (sq_at hsq hi) <| i_I (by show (0 : Int) < _; omega) <| i_c <| i_I0 <| i_bl <| i_ite (fun c5 => ?_) (fun c5 => ?_)
      ·
        refine i_seq <| i_asg <| i_op <| v3 <| i_op <| v2 <| v5 <| i_ixL (SqL.of (s2 _ _ f1_0)) (sq_at hsq hi) <| i_I (by exact divw (by omega) hpz) <| n3 <| i_nx <| i_asg <| i_op <| v4 <| i_call <| i_cons <| i_c <| i_cons <| v5 <| i_nil <| ⟨_, _, rfl, (by omega), (by omega), (by unfold Sz; decide), fun pw H3 s3 hpw => ?_⟩
        refine i_I0 <| n4 <| ?_
        exact ⟨_, _, _, rfl, (s2.trans s3), (by rw [show n - (i + 1) = n - 1 - i by omega]; exact i0.yes e0 c5 (by rw [hpw, hke]))⟩
      ·
        refine i_next <| ?_
        exact ⟨_, _, _, rfl, s2, (by rw [show n - (i + 1) = n - 1 - i by omega]; exact i0.no c5)⟩
    ·
      rintro σ H4 ⟨x, cn, o_k, rfl, s4, i0⟩
      refine i_nx <| i_ret <| i_tup <| i_cons <| v3 <| i_cons <| v4 <| i_nil <| i_kTup (of_decide_eq_true rfl) (fun p5 H5 z5 s5 f5 => ?_)
      exact k _ _ _ _ (s1.trans (s4.trans s5)) f5 (by exact (i0.done (by omega)).1) (by exact (i0.done (by omega)).2.1) (by exact (i0.done (by omega)).2.2)

/-! check_base -/
def sp_check_base (K : PySem.W.Frag) : Sp := fun vs H Q _ => ∃ (base : Int), vs = [V.int base] ∧ (2 ≤ base) ∧ (base ≤ 36) ∧ ∀  (H' : Hp), Same H H' → Q (V.non) H'
abbrev s_check_base : Stmt := top 12
theorem sc_check_base : FnScope ["base"] ["base"] (defScope s_check_base) := ⟨rfl, rfl, rfl, by decide +kernel, rfl, by decide +kernel, by decide +kernel⟩
theorem vis_check_base : visB ["base"] (defScope s_check_base) = true := by decide +kernel
theorem gl_check_base : glB [] (defScope s_check_base) = true := by decide +kernel
theorem ok_check_base {P : Program} {w : World} {K : PySem.W.Frag} {mg : Str → Option Value} {base : Heap} (T : Txt w K mg) : OkD P w K mg base 1 (He.fAd K ("check_base", none)) ["base"] [] (sp_check_base K) := by
  obtain ⟨fd, F⟩ := T.d_check_base
  refine ⟨fd, [], F.kp, F.bindsN (fun _ _ _ _ _ _ us hl => match us, hl with | [_], _ => rfl), .nil, ?_⟩
  have sc := sc_check_base; have vis := vis_check_base; have gls := gl_check_base
  refine F.ok sc (fun vs H Q E h => ?_) (fun cdv A outer s H0 vs Q E hr h => ?_)
  · obtain ⟨base, rfl, _⟩ := h; rfl
  · obtain ⟨base, rfl, e0, e1, k⟩ := h
    refine ⟨_, PSs.nox (pss_one (ps_if (pt_not (pt_chain op_le op_le pe_int (pn vis 0) pe_int)) pss_never pss_nil)), ?_⟩
    refine i_start (σ' := [some (V.int base)]) rfl ?_
    refine i_if <| i_not <| i_test <| i_chain <| i_c <| v0 <| i_I0 <| i_blV <| i_ite (fun c1 => ?_) (fun c1 => ?_)
    ·
      refine i_c <| i_I0 <| i_bl <| i_iteN (fun c1' => ?_) (fun c1' => ?_)
      ·
        exact absurd c1' (by omega)
      ·
        refine i_next <| ?_
        exact k _ (Same.refl _)
    ·
      exact absurd c1 (by omega)

/-! Exact.__init__ -/
def sp_Exact___init__ (K : PySem.W.Frag) : Sp := fun vs H Q _ => ∃ (selfA : Addr) (base : Int) (coefficient : Int) (exponent : Int), vs = [V.ref selfA, V.int base, V.int coefficient, V.int exponent] ∧ IsI (He.ga K "Exact") H selfA [] ∧ (2 ≤ base) ∧ (base ≤ 36) ∧ (Sz 9000 coefficient) ∧ ∀ (r : EN) (H' : Hp), Keep selfA H H' → IsI (He.ga K "Exact") H' selfA (exF r) → (r = nrm base coefficient exponent) → Q .non H'
abbrev s_Exact___init__ : Stmt := inClass (top 13) 0
theorem sc_Exact___init__ : FnScope ["self", "base", "coefficient", "exponent", "rest", "count"] ["self", "base", "coefficient", "exponent"] (defScope s_Exact___init__) := ⟨rfl, rfl, rfl, by decide +kernel, rfl, by decide +kernel, by decide +kernel⟩
theorem vis_Exact___init__ : visB ["self", "base", "coefficient", "exponent", "rest", "count"] (defScope s_Exact___init__) = true := by decide +kernel
theorem gl_Exact___init__ : glB ["check_base", "without_zeros"] (defScope s_Exact___init__) = true := by decide +kernel
theorem fn_Exact___init__ {P : Program} {w : World} {K : PySem.W.Frag} {mg : Str → Option Value} {base : Heap} (T : Txt w K mg) {fd : FuncData} (F : FunD K "__init__" "Exact.__init__" (defArgs (s_Exact___init__)) (defBody (s_Exact___init__)) (defScope (s_Exact___init__)) [V.int 0] [] (He.fAd K ("Exact", some "__init__")) fd) : FnOk P w K mg base (L2.CX P w) 3 (He.fAd K ("Exact", some "__init__")) fd ["self", "base", "coefficient", "exponent"] (sp_Exact___init__ K) := by
  have sc := sc_Exact___init__; have vis := vis_Exact___init__; have gls := gl_Exact___init__
  refine F.ok sc (fun vs H Q E h => ?_) (fun cdv A outer s H0 vs Q E hr h => ?_)
  · obtain ⟨selfA, base, coefficient, exponent, rfl, _⟩ := h; rfl
  · obtain ⟨selfA, base, coefficient, exponent, rfl, a0, e0, e1, e2, k⟩ := h
    refine ⟨_, PSs.nox (pss_cons (ps_expr (pcD (ok_check_base T) (hr.mono (by decide)) gls 0 T.g_check_base (pa_cons (pn vis 1) pa_nil))) (pss_cons (ps_fld (pn vis 0) (pn vis 1) rfl) (pss_one (ps_if (pt_cmpR op_eqI (pn vis 2) pe_int (nomark _)) (pss_cons (ps_fld (pn vis 0) pe_int rfl) (pss_one (ps_fld (pn vis 0) pe_int rfl))) (pss_cons (ps_asg (pcD (ok_without_zeros T) (hr.mono (by decide)) gls 1 T.g_without_zeros (pa_cons (pn vis 1) (pa_cons (pn vis 2) pa_nil))) (pg_tup (by rfl) (pgs_cons (pg_name (i := 4) sc.nd rfl (.inl rfl)) (pgs_cons (pg_name (i := 5) sc.nd rfl (.inl rfl)) pgs_nil)))) (pss_cons (ps_fld (pn vis 0) (pn vis 4) rfl) (pss_one (ps_fld (pn vis 0) (pe_op op_add (pn vis 3) (pn vis 5)) rfl)))))))), ?_⟩
    refine i_start (σ' := [some (V.ref selfA), some (V.int base), some (V.int coefficient), some (V.int exponent), none, none]) rfl ?_
    refine i_seq <| i_drop <| i_call <| i_cons <| v1 <| i_nil <| ⟨_, rfl, (by first | assumption | omega | rfl | exact Sz.zero | exact Sz.sm (by omega) (by omega) (by decide) | exact Sz.mono (by assumption) (by decide)), (by first | assumption | omega | rfl | exact Sz.zero | exact Sz.sm (by omega) (by omega) (by decide) | exact Sz.mono (by assumption) (by decide)), fun H2 s2 => ?_⟩
    refine i_nx <| i_seq <| i_sfld <| v1 <| v0 <| i_sfldI (same_ins s2 a0) T.cls_Exact T.na_Exact_base (of_decide_eq_true rfl) (fun H3 w3 f3 => ?_)
    refine i_nx <| i_if <| i_test <| i_op <| v2 <| i_c <| i_I0 <| i_bl <| i_ite (fun c3 => ?_) (fun c3 => ?_)
    ·
      refine i_seq <| i_sfld <| i_c <| v0 <| i_sfldI f3 T.cls_Exact T.na_Exact_coefficient (of_decide_eq_true rfl) (fun H4 w4 f4 => ?_)
      refine i_nx <| i_sfld <| i_c <| v0 <| i_sfldI f4 T.cls_Exact T.na_Exact_exponent (of_decide_eq_true rfl) (fun H5 w5 f5 => ?_)
      exact k ⟨base, 0, 0⟩ _ ((keep_of s2).trans (w3.trans (w4.trans w5))) f5 (by rw [c3, nrm_zero])
    ·
      refine i_seq <| i_asg <| i_call <| i_cons <| v1 <| i_cons <| v2 <| i_nil <| ⟨_, _, rfl, (by first | assumption | omega | rfl | exact Sz.zero | exact Sz.sm (by omega) (by omega) (by decide) | exact Sz.mono (by assumption) (by decide)), (by first | assumption | omega | rfl | exact Sz.zero | exact Sz.sm (by omega) (by omega) (by decide) | exact Sz.mono (by assumption) (by decide)), (by first | assumption | omega | rfl | exact Sz.zero | exact Sz.sm (by omega) (by omega) (by decide) | exact Sz.mono (by assumption) (by decide)), fun wzA wz0 wz1 H6 s6 f6_0 hwz0 hwz1 hwz2 => ?_⟩
      refine i_gtup (SqT.of f6_0) rfl <| i_gcons <| n4 <| i_gcons <| n5 <| i_gnil <| i_nx <| i_seq <| i_sfld <| v4 <| v0 <| i_sfldI (same_ins s6 f3) T.cls_Exact T.na_Exact_coefficient (of_decide_eq_true rfl) (fun H7 w7 f7 => ?_)
      refine i_nx <| i_sfld <| i_op <| v3 <| v5 <| i_I0 <| v0 <| i_sfldI f7 T.cls_Exact T.na_Exact_exponent (of_decide_eq_true rfl) (fun H8 w8 f8 => ?_)
      exact k ⟨base, wz0, (exponent + wz1)⟩ _ ((keep_of s2).trans (w3.trans ((keep_of s6).trans (w7.trans w8)))) f8 (by exact nrm_of' e0 c3 hwz0 hwz1 hwz2)
theorem ok_Exact___init___d0 {P : Program} {w : World} {K : PySem.W.Frag} {mg : Str → Option Value} {base : Heap} (T : Txt w K mg) : OkD P w K mg base 3 (He.fAd K ("Exact", some "__init__")) ["self", "base", "coefficient", "exponent"] [V.int 0] (sp_Exact___init__ K) := by
  obtain ⟨fd, F⟩ := T.d_Exact___init__
  exact OkD.dfl F 3 0 (by simp) rfl (fun T0 kV doc pm an cdv ct us its h1 h2 => by
    match us, h1, its, h2 with
    | [u0, u1, u2], _, [z0], _ => exact ⟨_, rfl, rfl⟩) (fn_Exact___init__ T F)
theorem ok_Exact___init__ {P : Program} {w : World} {K : PySem.W.Frag} {mg : Str → Option Value} {base : Heap} (T : Txt w K mg) : OkD P w K mg base 3 (He.fAd K ("Exact", some "__init__")) ["self", "base", "coefficient", "exponent"] [] (sp_Exact___init__ K) := by
  obtain ⟨fd, F⟩ := T.d_Exact___init__
  exact OkD.dfl F 4 1 (by simp) rfl (fun T0 kV doc pm an cdv ct us its h1 h2 => by
    match us, h1, its, h2 with
    | [u0, u1, u2, u3], _, [z0], _ => exact ⟨_, rfl, rfl⟩) (fn_Exact___init__ T F)

/-! aligned -/
def sp_aligned (K : PySem.W.Frag) : Sp := fun vs H Q _ => ∃ (leftA : Addr) (left : EN) (rightA : Addr) (right : EN), vs = [V.ref leftA, V.ref rightA] ∧ IsI (He.ga K "Exact") H leftA (exF left) ∧ IsI (He.ga K "Exact") H rightA (exF right) ∧ (2 ≤ left.b) ∧ (left.b ≤ 36) ∧ (Ad left right) ∧ ∀ (rA : Addr) (r0 : Int) (r1 : Int) (r2 : Int) (H' : Hp), Same H H' → H' rA = some (.tup [V.int r0, V.int r1, V.int r2]) → (∀ s, nrm left.b (r0 + s * r1) r2 = addE s left right) → (Sz 8995 r0) → (Sz 8995 r1) → Q (V.ref rA) H'
abbrev s_aligned : Stmt := top 15
theorem sc_aligned : FnScope ["left", "right", "more"] ["left", "right"] (defScope s_aligned) := ⟨rfl, rfl, rfl, by decide +kernel, rfl, by decide +kernel, by decide +kernel⟩
theorem vis_aligned : visB ["left", "right", "more"] (defScope s_aligned) = true := by decide +kernel
theorem gl_aligned : glB ["power"] (defScope s_aligned) = true := by decide +kernel
theorem ok_aligned {P : Program} {w : World} {K : PySem.W.Frag} {mg : Str → Option Value} {base : Heap} (T : Txt w K mg) : OkD P w K mg base 2 (He.fAd K ("aligned", none)) ["left", "right"] [] (sp_aligned K) := by
  obtain ⟨fd, F⟩ := T.d_aligned
  refine ⟨fd, [], F.kp, F.bindsN (fun _ _ _ _ _ _ us hl => match us, hl with | [_, _], _ => rfl), .nil, ?_⟩
  have sc := sc_aligned; have vis := vis_aligned; have gls := gl_aligned
  refine F.ok sc (fun vs H Q E h => ?_) (fun cdv A outer s H0 vs Q E hr h => ?_)
  · obtain ⟨leftA, left, rightA, right, rfl, _⟩ := h; rfl
  · obtain ⟨leftA, left, rightA, right, rfl, a0, a1, e0, e1, e2, k⟩ := h
    refine ⟨_, PSs.nox (pss_cons (ps_if (pt_cmpR op_neI (pe_fld (pn vis 0) rfl) (pe_fld (pn vis 1) rfl) (nomark _)) pss_never pss_nil) (pss_cons (ps_if (pt_cmpR op_eqI (pe_fld (pn vis 0) rfl) pe_int (nomark _)) (pss_one (ps_ret (pe_tup (pa_cons pe_int (pa_cons (pe_fld (pn vis 1) rfl) (pa_cons (pe_fld (pn vis 1) rfl) pa_nil)))))) pss_nil) (pss_cons (ps_if (pt_cmpR op_eqI (pe_fld (pn vis 1) rfl) pe_int (nomark _)) (pss_one (ps_ret (pe_tup (pa_cons (pe_fld (pn vis 0) rfl) (pa_cons pe_int (pa_cons (pe_fld (pn vis 0) rfl) pa_nil)))))) pss_nil) (pss_cons (ps_set (i := 2) sc.nd rfl (.inl rfl) (pe_op op_sub (pe_fld (pn vis 0) rfl) (pe_fld (pn vis 1) rfl))) (pss_cons (ps_if (pt_cmpR op_ge (pn vis 2) pe_int (nomark _)) (pss_one (ps_ret (pe_tup (pa_cons (pe_op op_mulX (pe_fld (pn vis 0) rfl) (pcD (ok_power T) (hr.mono (by decide)) gls 0 T.g_power (pa_cons (pe_fld (pn vis 0) rfl) (pa_cons (pn vis 2) pa_nil)))) (pa_cons (pe_fld (pn vis 1) rfl) (pa_cons (pe_fld (pn vis 1) rfl) pa_nil)))))) pss_nil) (pss_one (ps_ret (pe_tup (pa_cons (pe_fld (pn vis 0) rfl) (pa_cons (pe_op op_mulX (pe_fld (pn vis 1) rfl) (pcD (ok_power T) (hr.mono (by decide)) gls 0 T.g_power (pa_cons (pe_fld (pn vis 0) rfl) (pa_cons (pe_un un_neg (pn vis 2)) pa_nil)))) (pa_cons (pe_fld (pn vis 0) rfl) pa_nil))))))))))), ?_⟩
    refine i_start (σ' := [some (V.ref leftA), some (V.ref rightA), none]) rfl ?_
    refine i_seq <| ?_
    obtain ⟨hb, m, n, hn, bx, by0⟩ := e2
    have hb2 : 2 ≤ right.b := by omega
    have gx := bx.1
    have gy := by0.1
    refine i_if <| i_test <| i_op <| i_fld <| v0 <| i_fldI a0 T.cls_Exact T.na_Exact_base rfl <| i_fld <| v1 <| i_fldI a1 T.cls_Exact T.na_Exact_base rfl <| i_I0 <| i_bl <| i_iteN (fun c1 => ?_) (fun c1 => ?_)
    ·
      exact absurd c1 (by exact fun h => h hb.symm)
    ·
      refine i_next <| i_nx <| i_seq <| i_if <| i_test <| i_op <| i_fld <| v0 <| i_fldI a0 T.cls_Exact T.na_Exact_coefficient rfl <| i_c <| i_I0 <| i_bl <| i_ite (fun c3 => ?_) (fun c3 => ?_)
      ·
        refine i_ret <| i_tup <| i_cons <| i_c <| i_cons <| i_fld <| v1 <| i_fldI a1 T.cls_Exact T.na_Exact_coefficient rfl <| i_cons <| i_fld <| v1 <| i_fldI a1 T.cls_Exact T.na_Exact_exponent rfl <| i_nil <| i_kTup (of_decide_eq_true rfl) (fun p1 H1 z1 s1 f1 => ?_)
        exact k _ _ _ _ _ s1 f1 (by exact fun s => add_l0 s e0 c3) (by exact Sz.zero) (by exact (by0.c0 hb2).mono (by omega))
      ·
        refine i_next <| i_nx <| i_seq <| i_if <| i_test <| i_op <| i_fld <| v1 <| i_fldI a1 T.cls_Exact T.na_Exact_coefficient rfl <| i_c <| i_I0 <| i_bl <| i_ite (fun c5 => ?_) (fun c5 => ?_)
        ·
          refine i_ret <| i_tup <| i_cons <| i_fld <| v0 <| i_fldI a0 T.cls_Exact T.na_Exact_coefficient rfl <| i_cons <| i_c <| i_cons <| i_fld <| v0 <| i_fldI a0 T.cls_Exact T.na_Exact_exponent rfl <| i_nil <| i_kTup (of_decide_eq_true rfl) (fun p2 H2 z2 s2 f2 => ?_)
          exact k _ _ _ _ _ s2 f2 (by exact fun s => add_r0 s e0 c5) (by exact (bx.c0 e0).mono (by omega)) (by exact Sz.zero)
        ·
          refine i_next <| i_nx <| i_seq <| ?_
          have hx := bx.exp e0 c3
          have hy := by0.exp hb2 c5
          refine i_asg <| i_op <| i_fld <| v0 <| i_fldI a0 T.cls_Exact T.na_Exact_exponent rfl <| i_fld <| v1 <| i_fldI a1 T.cls_Exact T.na_Exact_exponent rfl <| i_I0 <| nI2 (fun more hmore => ?_)
          refine i_nx <| i_seq <| i_if <| i_test <| i_op <| v2 <| i_c <| i_I0 <| i_bl <| i_ite (fun c8 => ?_) (fun c8 => ?_)
          ·
            refine i_ret <| i_tup <| i_cons <| i_op <| i_fld <| v0 <| i_fldI a0 T.cls_Exact T.na_Exact_coefficient rfl <| i_call <| i_cons <| i_fld <| v0 <| i_fldI a0 T.cls_Exact T.na_Exact_base rfl <| i_cons <| v2 <| i_nil <| ⟨_, _, rfl, (by first | assumption | omega | rfl | exact Sz.zero | exact Sz.sm (by omega) (by omega) (by decide) | exact Sz.mono (by assumption) (by decide)), (by first | assumption | omega | rfl | exact Sz.zero | exact Sz.sm (by omega) (by omega) (by decide) | exact Sz.mono (by assumption) (by decide)), (by unfold Sz; omega), fun pw H3 s3 hpw => ?_⟩
            refine i_I (by exact mulx (a := 9000) (b := 60000) ((bx.c0 e0).mono (by omega)) (by rw [hpw]; exact (Sz.pow36 e0 e1 _).mono (by omega))) <| i_cons <| i_fld <| v1 <| i_fldI (same_ins s3 a1) T.cls_Exact T.na_Exact_coefficient rfl <| i_cons <| i_fld <| v1 <| i_fldI (same_ins s3 a1) T.cls_Exact T.na_Exact_exponent rfl <| i_nil <| i_kTup (of_decide_eq_true rfl) (fun p4 H4 z4 s4 f4 => ?_)
            exact k _ _ _ _ _ (s3.trans s4) f4 (by intro s; rw [hpw, hmore]; exact add_lo s e0 (by omega)) (by rw [hpw]; exact (bx.co e0 (by omega)).mono (by omega)) (by exact (by0.c0 hb2).mono (by omega))
          ·
            refine i_next <| i_nx <| i_ret <| i_tup <| i_cons <| i_fld <| v0 <| i_fldI a0 T.cls_Exact T.na_Exact_coefficient rfl <| i_cons <| i_op <| i_fld <| v1 <| i_fldI a1 T.cls_Exact T.na_Exact_coefficient rfl <| i_call <| i_cons <| i_fld <| v0 <| i_fldI a0 T.cls_Exact T.na_Exact_base rfl <| i_cons <| i_un <| v2 <| i_U <| i_nil <| ⟨_, _, rfl, (by first | assumption | omega | rfl | exact Sz.zero | exact Sz.sm (by omega) (by omega) (by decide) | exact Sz.mono (by assumption) (by decide)), (by first | assumption | omega | rfl | exact Sz.zero | exact Sz.sm (by omega) (by omega) (by decide) | exact Sz.mono (by assumption) (by decide)), (by unfold Sz; omega), fun pv H5 s5 hpv => ?_⟩
            refine i_I (by exact mulx (a := 9000) (b := 60000) ((by0.c0 hb2).mono (by omega)) (by rw [hpv]; exact (Sz.pow36 e0 e1 _).mono (by omega))) <| i_cons <| i_fld <| v0 <| i_fldI (same_ins s5 a0) T.cls_Exact T.na_Exact_exponent rfl <| i_nil <| i_kTup (of_decide_eq_true rfl) (fun p6 H6 z6 s6 f6 => ?_)
            exact k _ _ _ _ _ (s5.trans s6) f6 (by intro s; rw [hpv, show -more = right.e - left.e by omega]; exact add_hi s e0 (by omega)) (by exact (bx.c0 e0).mono (by omega)) (by rw [hpv, ← hb]; exact (by0.co hb2 (by omega)).mono (by omega))

/-! compared -/
def sp_compared (K : PySem.W.Frag) : Sp := fun vs H Q _ => ∃ (leftA : Addr) (left : EN) (rightA : Addr) (right : EN), vs = [V.ref leftA, V.ref rightA] ∧ IsI (He.ga K "Exact") H leftA (exF left) ∧ IsI (He.ga K "Exact") H rightA (exF right) ∧ (2 ≤ left.b) ∧ (left.b ≤ 36) ∧ (Ad left right) ∧ ∀ (r : Int) (H' : Hp), Same H H' → (Sg r (addE (-1) left right).c) → Q (V.int r) H'
abbrev s_compared : Stmt := top 18
theorem sc_compared : FnScope ["left", "right", "first", "second", "_"] ["left", "right"] (defScope s_compared) := ⟨rfl, rfl, rfl, by decide +kernel, rfl, by decide +kernel, by decide +kernel⟩
theorem vis_compared : visB ["left", "right", "first", "second", "_"] (defScope s_compared) = true := by decide +kernel
theorem gl_compared : glB ["aligned"] (defScope s_compared) = true := by decide +kernel
theorem ok_compared {P : Program} {w : World} {K : PySem.W.Frag} {mg : Str → Option Value} {base : Heap} (T : Txt w K mg) : OkD P w K mg base 3 (He.fAd K ("compared", none)) ["left", "right"] [] (sp_compared K) := by
  obtain ⟨fd, F⟩ := T.d_compared
  refine ⟨fd, [], F.kp, F.bindsN (fun _ _ _ _ _ _ us hl => match us, hl with | [_, _], _ => rfl), .nil, ?_⟩
  have sc := sc_compared; have vis := vis_compared; have gls := gl_compared
  refine F.ok sc (fun vs H Q E h => ?_) (fun cdv A outer s H0 vs Q E hr h => ?_)
  · obtain ⟨leftA, left, rightA, right, rfl, _⟩ := h; rfl
  · obtain ⟨leftA, left, rightA, right, rfl, a0, a1, e0, e1, e2, k⟩ := h
    refine ⟨_, PSs.nox (pss_cons (ps_asg (pcD (ok_aligned T) (hr.mono (by decide)) gls 0 T.g_aligned (pa_cons (pn vis 0) (pa_cons (pn vis 1) pa_nil))) (pg_tup (by rfl) (pgs_cons (pg_name (i := 2) sc.nd rfl (.inl rfl)) (pgs_cons (pg_name (i := 3) sc.nd rfl (.inl rfl)) (pgs_cons (pg_name (i := 4) sc.nd rfl (.inl rfl)) pgs_nil))))) (pss_one (ps_ret (pe_op op_sub (pn vis 2) (pn vis 3))))), ?_⟩
    refine i_start (σ' := [some (V.ref leftA), some (V.ref rightA), none, none, none]) rfl ?_
    refine i_seq <| i_asg <| i_call <| i_cons <| v0 <| i_cons <| v1 <| i_nil <| ⟨_, _, _, _, rfl, a0, a1, (by first | assumption | omega | rfl | exact Sz.zero | exact Sz.sm (by omega) (by omega) (by decide) | exact Sz.mono (by assumption) (by decide)), (by first | assumption | omega | rfl | exact Sz.zero | exact Sz.sm (by omega) (by omega) (by decide) | exact Sz.mono (by assumption) (by decide)), (by first | assumption | omega | rfl | exact Sz.zero | exact Sz.sm (by omega) (by omega) (by decide) | exact Sz.mono (by assumption) (by decide)), fun alA al0 al1 al2 H1 s1 f1_0 hal0 hal1 hal2 => ?_⟩
    refine i_gtup (SqT.of f1_0) rfl <| i_gcons <| n2 <| i_gcons <| n3 <| i_gcons <| n4 <| i_gnil <| i_nx <| i_ret <| i_op <| v2 <| v3 <| i_I0 <| ?_
    exact k _ _ s1 (by exact sg_of e0 (hal0 (-1)))

/-! Exact.__eq__@ex -/
def sp_Exact___eq___ex (K : PySem.W.Frag) : Sp := fun vs H Q _ => ∃ (selfA : Addr) (self : EN) (otherA : Addr) (other : EN), vs = [V.ref selfA, V.ref otherA] ∧ IsI (He.ga K "Exact") H selfA (exF self) ∧ IsI (He.ga K "Exact") H otherA (exF other) ∧ ∀ (r : Bool) (H' : Hp), Same H H' → (r = decide (self.b = other.b ∧ self.e = other.e ∧ self.c = other.c)) → Q (V.bl r) H'
abbrev s_Exact___eq___ex : Stmt := inClass (top 13) 19
theorem sc_Exact___eq___ex : FnScope ["self", "other"] ["self", "other"] (defScope s_Exact___eq___ex) := ⟨rfl, rfl, rfl, by decide +kernel, rfl, by decide +kernel, by decide +kernel⟩
theorem vis_Exact___eq___ex : visB ["self", "other"] (defScope s_Exact___eq___ex) = true := by decide +kernel
theorem gl_Exact___eq___ex : glB ["Exact", "isinstance"] (defScope s_Exact___eq___ex) = true := by decide +kernel
theorem ok_Exact___eq___ex {P : Program} {w : World} {K : PySem.W.Frag} {mg : Str → Option Value} {base : Heap} (T : Txt w K mg) : OkD P w K mg base 1 (He.fAd K ("Exact", some "__eq__")) ["self", "other"] [] (sp_Exact___eq___ex K) := by
  obtain ⟨fd, F⟩ := T.d_Exact___eq__
  refine ⟨fd, [], F.kp, F.bindsN (fun _ _ _ _ _ _ us hl => match us, hl with | [_, _], _ => rfl), .nil, ?_⟩
  have sc := sc_Exact___eq___ex; have vis := vis_Exact___eq___ex; have gls := gl_Exact___eq___ex
  refine F.ok sc (fun vs H Q E h => ?_) (fun cdv A outer s H0 vs Q E hr h => ?_)
  · obtain ⟨selfA, self, otherA, other, rfl, _⟩ := h; rfl
  · obtain ⟨selfA, self, otherA, other, rfl, a0, a1, k⟩ := h
    refine ⟨_, PSs.nox (pss_cons (ps_if (pt_not (pt_val (pcB call_isi gls 1 T.b_isinstance (by decide +kernel) (pa_cons (pn vis 1) (pa_cons (pgr gls 0 T.g_Exact) pa_nil))))) pss_never pss_nil) (pss_cons (ps_if (PW.pt (pw_or (pt_cmpR op_neI (pe_fld (pn vis 0) rfl) (pe_fld (pn vis 1) rfl) (nomark _)) (pw_or1 (pt_cmpR op_neI (pe_fld (pn vis 0) rfl) (pe_fld (pn vis 1) rfl) (nomark _))))) (pss_one (ps_ret pe_bl)) pss_nil) (pss_one (ps_ret (pe_cmpR op_eqI (pe_fld (pn vis 0) rfl) (pe_fld (pn vis 1) rfl) (nomark _)))))), ?_⟩
    refine i_start (σ' := [some (V.ref selfA), some (V.ref otherA)]) rfl ?_
    refine i_seq <| i_if <| i_not <| i_tB <| i_cb <| i_cons <| v1 <| i_cons <| i_c <| i_nil <| i_isi (b := true) (.own _) (ins_ty T.ins_Exact a1) T.ins_Exact.me <| i_bl <| i_iteNT <| i_next <| i_nx <| i_seq <| i_if <| i_or <| i_test <| i_op <| i_fld <| v0 <| i_fldI a0 T.cls_Exact T.na_Exact_base rfl <| i_fld <| v1 <| i_fldI a1 T.cls_Exact T.na_Exact_base rfl <| i_I0 <| i_bl <| i_iteN (fun c3 => ?_) (fun c3 => ?_)
    ·
      refine i_iteT <| i_ret <| i_c <| ?_
      exact k _ _ (Same.refl _) (by simp_all)
    ·
      refine i_test <| i_op <| i_fld <| v0 <| i_fldI a0 T.cls_Exact T.na_Exact_exponent rfl <| i_fld <| v1 <| i_fldI a1 T.cls_Exact T.na_Exact_exponent rfl <| i_I0 <| i_bl <| i_iteN (fun c3' => ?_) (fun c3' => ?_)
      ·
        refine i_ret <| i_c <| ?_
        exact k _ _ (Same.refl _) (by simp_all)
      ·
        refine i_next <| i_nx <| i_ret <| i_op <| i_fld <| v0 <| i_fldI a0 T.cls_Exact T.na_Exact_coefficient rfl <| i_fld <| v1 <| i_fldI a1 T.cls_Exact T.na_Exact_coefficient rfl <| i_I0 <| ?_
        exact k _ _ (Same.refl _) (by simp_all)

/-! Exact.__eq__@int -/
def sp_Exact___eq___int (K : PySem.W.Frag) : Sp := fun vs H Q _ => ∃ (selfA : Addr) (self : EN) (other : Int), vs = [V.ref selfA, V.int other] ∧ IsI (He.ga K "Exact") H selfA (exF self) ∧ ∀  (H' : Hp), Same H H' → Q (V.bl false) H'
abbrev s_Exact___eq___int : Stmt := inClass (top 13) 19
theorem sc_Exact___eq___int : FnScope ["self", "other"] ["self", "other"] (defScope s_Exact___eq___int) := ⟨rfl, rfl, rfl, by decide +kernel, rfl, by decide +kernel, by decide +kernel⟩
theorem vis_Exact___eq___int : visB ["self", "other"] (defScope s_Exact___eq___int) = true := by decide +kernel
theorem gl_Exact___eq___int : glB ["Exact", "isinstance"] (defScope s_Exact___eq___int) = true := by decide +kernel
theorem ok_Exact___eq___int {P : Program} {w : World} {K : PySem.W.Frag} {mg : Str → Option Value} {base : Heap} (T : Txt w K mg) : OkD P w K mg base 1 (He.fAd K ("Exact", some "__eq__")) ["self", "other"] [] (sp_Exact___eq___int K) := by
  obtain ⟨fd, F⟩ := T.d_Exact___eq__
  refine ⟨fd, [], F.kp, F.bindsN (fun _ _ _ _ _ _ us hl => match us, hl with | [_, _], _ => rfl), .nil, ?_⟩
  have sc := sc_Exact___eq___int; have vis := vis_Exact___eq___int; have gls := gl_Exact___eq___int
  refine F.ok sc (fun vs H Q E h => ?_) (fun cdv A outer s H0 vs Q E hr h => ?_)
  · obtain ⟨selfA, self, other, rfl, _⟩ := h; rfl
  · obtain ⟨selfA, self, other, rfl, a0, k⟩ := h
    refine ⟨_, PSs.nox (pss_cons (ps_if (pt_not (pt_val (pcB call_isi gls 1 T.b_isinstance (by decide +kernel) (pa_cons (pn vis 1) (pa_cons (pgr gls 0 T.g_Exact) pa_nil))))) (pss_one (ps_ret pe_bl)) pss_nil) pss_never), ?_⟩
    refine i_start (σ' := [some (V.ref selfA), some (V.int other)]) rfl ?_
    refine i_seq <| i_if <| i_not <| i_tB <| i_cb <| i_cons <| v1 <| i_cons <| i_c <| i_nil <| i_isi (b := false) (.own _) (.base (.int _)) T.isk_Exact_int <| i_bl <| i_iteNF <| i_ret <| i_c <| ?_
    exact k _ (Same.refl _)

/-! Exact.__eq__@str -/
def sp_Exact___eq___str (K : PySem.W.Frag) : Sp := fun vs H Q _ => ∃ (selfA : Addr) (self : EN) (other : Str), vs = [V.ref selfA, V.str other] ∧ IsI (He.ga K "Exact") H selfA (exF self) ∧ ∀  (H' : Hp), Same H H' → Q (V.bl false) H'
abbrev s_Exact___eq___str : Stmt := inClass (top 13) 19
theorem sc_Exact___eq___str : FnScope ["self", "other"] ["self", "other"] (defScope s_Exact___eq___str) := ⟨rfl, rfl, rfl, by decide +kernel, rfl, by decide +kernel, by decide +kernel⟩
theorem vis_Exact___eq___str : visB ["self", "other"] (defScope s_Exact___eq___str) = true := by decide +kernel
theorem gl_Exact___eq___str : glB ["Exact", "isinstance"] (defScope s_Exact___eq___str) = true := by decide +kernel
theorem ok_Exact___eq___str {P : Program} {w : World} {K : PySem.W.Frag} {mg : Str → Option Value} {base : Heap} (T : Txt w K mg) : OkD P w K mg base 1 (He.fAd K ("Exact", some "__eq__")) ["self", "other"] [] (sp_Exact___eq___str K) := by
  obtain ⟨fd, F⟩ := T.d_Exact___eq__
  refine ⟨fd, [], F.kp, F.bindsN (fun _ _ _ _ _ _ us hl => match us, hl with | [_, _], _ => rfl), .nil, ?_⟩
  have sc := sc_Exact___eq___str; have vis := vis_Exact___eq___str; have gls := gl_Exact___eq___str
  refine F.ok sc (fun vs H Q E h => ?_) (fun cdv A outer s H0 vs Q E hr h => ?_)
  · obtain ⟨selfA, self, other, rfl, _⟩ := h; rfl
  · obtain ⟨selfA, self, other, rfl, a0, k⟩ := h
    refine ⟨_, PSs.nox (pss_cons (ps_if (pt_not (pt_val (pcB call_isi gls 1 T.b_isinstance (by decide +kernel) (pa_cons (pn vis 1) (pa_cons (pgr gls 0 T.g_Exact) pa_nil))))) (pss_one (ps_ret pe_bl)) pss_nil) pss_never), ?_⟩
    refine i_start (σ' := [some (V.ref selfA), some (V.str other)]) rfl ?_
    refine i_seq <| i_if <| i_not <| i_tB <| i_cb <| i_cons <| v1 <| i_cons <| i_c <| i_nil <| i_isi (b := false) (.own _) (.base (.str _)) T.isk_Exact_str <| i_bl <| i_iteNF <| i_ret <| i_c <| ?_
    exact k _ (Same.refl _)

/-! Exact.__eq__@None -/
def sp_Exact___eq___None (K : PySem.W.Frag) : Sp := fun vs H Q _ => ∃ (selfA : Addr) (self : EN), vs = [V.ref selfA, V.non] ∧ IsI (He.ga K "Exact") H selfA (exF self) ∧ ∀  (H' : Hp), Same H H' → Q (V.bl false) H'
abbrev s_Exact___eq___None : Stmt := inClass (top 13) 19
theorem sc_Exact___eq___None : FnScope ["self", "other"] ["self", "other"] (defScope s_Exact___eq___None) := ⟨rfl, rfl, rfl, by decide +kernel, rfl, by decide +kernel, by decide +kernel⟩
theorem vis_Exact___eq___None : visB ["self", "other"] (defScope s_Exact___eq___None) = true := by decide +kernel
theorem gl_Exact___eq___None : glB ["Exact", "isinstance"] (defScope s_Exact___eq___None) = true := by decide +kernel
theorem ok_Exact___eq___None {P : Program} {w : World} {K : PySem.W.Frag} {mg : Str → Option Value} {base : Heap} (T : Txt w K mg) : OkD P w K mg base 1 (He.fAd K ("Exact", some "__eq__")) ["self", "other"] [] (sp_Exact___eq___None K) := by
  obtain ⟨fd, F⟩ := T.d_Exact___eq__
  refine ⟨fd, [], F.kp, F.bindsN (fun _ _ _ _ _ _ us hl => match us, hl with | [_, _], _ => rfl), .nil, ?_⟩
  have sc := sc_Exact___eq___None; have vis := vis_Exact___eq___None; have gls := gl_Exact___eq___None
  refine F.ok sc (fun vs H Q E h => ?_) (fun cdv A outer s H0 vs Q E hr h => ?_)
  · obtain ⟨selfA, self, rfl, _⟩ := h; rfl
  · obtain ⟨selfA, self, rfl, a0, k⟩ := h
    refine ⟨_, PSs.nox (pss_cons (ps_if (pt_not (pt_val (pcB call_isi gls 1 T.b_isinstance (by decide +kernel) (pa_cons (pn vis 1) (pa_cons (pgr gls 0 T.g_Exact) pa_nil))))) (pss_one (ps_ret pe_bl)) pss_nil) pss_never), ?_⟩
    refine i_start (σ' := [some (V.ref selfA), some (V.non)]) rfl ?_
    refine i_seq <| i_if <| i_not <| i_tB <| i_cb <| i_cons <| v1 <| i_cons <| i_c <| i_nil <| i_isi (b := false) (.own _) (.base .non) T.isk_Exact_NoneType <| i_bl <| i_iteNF <| i_ret <| i_c <| ?_
    exact k _ (Same.refl _)

/-! Exact.__eq__@tup -/
def sp_Exact___eq___tup (K : PySem.W.Frag) : Sp := fun vs H Q _ => ∃ (selfA : Addr) (self : EN) (otherA : Addr) (other0 : Int) (other1 : Int), vs = [V.ref selfA, V.ref otherA] ∧ IsI (He.ga K "Exact") H selfA (exF self) ∧ H otherA = some (.tup [V.int other0, V.int other1]) ∧ ∀  (H' : Hp), Same H H' → Q (V.bl false) H'
abbrev s_Exact___eq___tup : Stmt := inClass (top 13) 19
theorem sc_Exact___eq___tup : FnScope ["self", "other"] ["self", "other"] (defScope s_Exact___eq___tup) := ⟨rfl, rfl, rfl, by decide +kernel, rfl, by decide +kernel, by decide +kernel⟩
theorem vis_Exact___eq___tup : visB ["self", "other"] (defScope s_Exact___eq___tup) = true := by decide +kernel
theorem gl_Exact___eq___tup : glB ["Exact", "isinstance"] (defScope s_Exact___eq___tup) = true := by decide +kernel
theorem ok_Exact___eq___tup {P : Program} {w : World} {K : PySem.W.Frag} {mg : Str → Option Value} {base : Heap} (T : Txt w K mg) : OkD P w K mg base 1 (He.fAd K ("Exact", some "__eq__")) ["self", "other"] [] (sp_Exact___eq___tup K) := by
  obtain ⟨fd, F⟩ := T.d_Exact___eq__
  refine ⟨fd, [], F.kp, F.bindsN (fun _ _ _ _ _ _ us hl => match us, hl with | [_, _], _ => rfl), .nil, ?_⟩
  have sc := sc_Exact___eq___tup; have vis := vis_Exact___eq___tup; have gls := gl_Exact___eq___tup
  refine F.ok sc (fun vs H Q E h => ?_) (fun cdv A outer s H0 vs Q E hr h => ?_)
  · obtain ⟨selfA, self, otherA, other0, other1, rfl, _⟩ := h; rfl
  · obtain ⟨selfA, self, otherA, other0, other1, rfl, a0, a1, k⟩ := h
    refine ⟨_, PSs.nox (pss_cons (ps_if (pt_not (pt_val (pcB call_isi gls 1 T.b_isinstance (by decide +kernel) (pa_cons (pn vis 1) (pa_cons (pgr gls 0 T.g_Exact) pa_nil))))) (pss_one (ps_ret pe_bl)) pss_nil) pss_never), ?_⟩
    refine i_start (σ' := [some (V.ref selfA), some (V.ref otherA)]) rfl ?_
    refine i_seq <| i_if <| i_not <| i_tB <| i_cb <| i_cons <| v1 <| i_cons <| i_c <| i_nil <| i_isi (b := false) (.own _) (.base (.tup a1)) T.isk_Exact_tuple <| i_bl <| i_iteNF <| i_ret <| i_c <| ?_
    exact k _ (Same.refl _)

/-! Exact.__eq__@lst -/
def sp_Exact___eq___lst (K : PySem.W.Frag) : Sp := fun vs H Q _ => ∃ (selfA : Addr) (self : EN) (otherA : Addr) (other : List Int), vs = [V.ref selfA, V.ref otherA] ∧ IsI (He.ga K "Exact") H selfA (exF self) ∧ H otherA = some (.lst (other.map V.int)) ∧ ∀  (H' : Hp), Same H H' → Q (V.bl false) H'
abbrev s_Exact___eq___lst : Stmt := inClass (top 13) 19
theorem sc_Exact___eq___lst : FnScope ["self", "other"] ["self", "other"] (defScope s_Exact___eq___lst) := ⟨rfl, rfl, rfl, by decide +kernel, rfl, by decide +kernel, by decide +kernel⟩
theorem vis_Exact___eq___lst : visB ["self", "other"] (defScope s_Exact___eq___lst) = true := by decide +kernel
theorem gl_Exact___eq___lst : glB ["Exact", "isinstance"] (defScope s_Exact___eq___lst) = true := by decide +kernel
theorem ok_Exact___eq___lst {P : Program} {w : World} {K : PySem.W.Frag} {mg : Str → Option Value} {base : Heap} (T : Txt w K mg) : OkD P w K mg base 1 (He.fAd K ("Exact", some "__eq__")) ["self", "other"] [] (sp_Exact___eq___lst K) := by
  obtain ⟨fd, F⟩ := T.d_Exact___eq__
  refine ⟨fd, [], F.kp, F.bindsN (fun _ _ _ _ _ _ us hl => match us, hl with | [_, _], _ => rfl), .nil, ?_⟩
  have sc := sc_Exact___eq___lst; have vis := vis_Exact___eq___lst; have gls := gl_Exact___eq___lst
  refine F.ok sc (fun vs H Q E h => ?_) (fun cdv A outer s H0 vs Q E hr h => ?_)
  · obtain ⟨selfA, self, otherA, other, rfl, _⟩ := h; rfl
  · obtain ⟨selfA, self, otherA, other, rfl, a0, a1, k⟩ := h
    refine ⟨_, PSs.nox (pss_cons (ps_if (pt_not (pt_val (pcB call_isi gls 1 T.b_isinstance (by decide +kernel) (pa_cons (pn vis 1) (pa_cons (pgr gls 0 T.g_Exact) pa_nil))))) (pss_one (ps_ret pe_bl)) pss_nil) pss_never), ?_⟩
    refine i_start (σ' := [some (V.ref selfA), some (V.ref otherA)]) rfl ?_
    refine i_seq <| i_if <| i_not <| i_tB <| i_cb <| i_cons <| v1 <| i_cons <| i_c <| i_nil <| i_isi (b := false) (.own _) (.base (.lst a1)) T.isk_Exact_list <| i_bl <| i_iteNF <| i_ret <| i_c <| ?_
    exact k _ (Same.refl _)

/-! Exact.__lt__@ex -/
def sp_Exact___lt___ex (K : PySem.W.Frag) : Sp := fun vs H Q _ => ∃ (selfA : Addr) (self : EN) (otherA : Addr) (other : EN), vs = [V.ref selfA, V.ref otherA] ∧ IsI (He.ga K "Exact") H selfA (exF self) ∧ IsI (He.ga K "Exact") H otherA (exF other) ∧ (2 ≤ self.b) ∧ (self.b ≤ 36) ∧ (Ad self other) ∧ ∀ (r : Bool) (H' : Hp), Same H H' → (r = decide ((addE (-1) self other).c < 0)) → Q (V.bl r) H'
abbrev s_Exact___lt___ex : Stmt := inClass (top 13) 20
theorem sc_Exact___lt___ex : FnScope ["self", "other"] ["self", "other"] (defScope s_Exact___lt___ex) := ⟨rfl, rfl, rfl, by decide +kernel, rfl, by decide +kernel, by decide +kernel⟩
theorem vis_Exact___lt___ex : visB ["self", "other"] (defScope s_Exact___lt___ex) = true := by decide +kernel
theorem gl_Exact___lt___ex : glB ["Exact", "isinstance", "compared"] (defScope s_Exact___lt___ex) = true := by decide +kernel
theorem ok_Exact___lt___ex {P : Program} {w : World} {K : PySem.W.Frag} {mg : Str → Option Value} {base : Heap} (T : Txt w K mg) : OkD P w K mg base 4 (He.fAd K ("Exact", some "__lt__")) ["self", "other"] [] (sp_Exact___lt___ex K) := by
  obtain ⟨fd, F⟩ := T.d_Exact___lt__
  refine ⟨fd, [], F.kp, F.bindsN (fun _ _ _ _ _ _ us hl => match us, hl with | [_, _], _ => rfl), .nil, ?_⟩
  have sc := sc_Exact___lt___ex; have vis := vis_Exact___lt___ex; have gls := gl_Exact___lt___ex
  refine F.ok sc (fun vs H Q E h => ?_) (fun cdv A outer s H0 vs Q E hr h => ?_)
  · obtain ⟨selfA, self, otherA, other, rfl, _⟩ := h; rfl
  · obtain ⟨selfA, self, otherA, other, rfl, a0, a1, e0, e1, e2, k⟩ := h
    refine ⟨_, PSs.nox (pss_cons (ps_if (pt_not (pt_val (pcB call_isi gls 1 T.b_isinstance (by decide +kernel) (pa_cons (pn vis 1) (pa_cons (pgr gls 0 T.g_Exact) pa_nil))))) pss_never pss_nil) (pss_one (ps_ret (pe_cmpR op_lt (pcD (ok_compared T) (hr.mono (by decide)) gls 2 T.g_compared (pa_cons (pn vis 0) (pa_cons (pn vis 1) pa_nil))) pe_int (nomark _))))), ?_⟩
    refine i_start (σ' := [some (V.ref selfA), some (V.ref otherA)]) rfl ?_
    refine i_seq <| i_if <| i_not <| i_tB <| i_cb <| i_cons <| v1 <| i_cons <| i_c <| i_nil <| i_isi (b := true) (.own _) (ins_ty T.ins_Exact a1) T.ins_Exact.me <| i_bl <| i_iteNT <| i_next <| i_nx <| i_ret <| i_op <| i_call <| i_cons <| v0 <| i_cons <| v1 <| i_nil <| ⟨_, _, _, _, rfl, a0, a1, (by first | assumption | omega | rfl | exact Sz.zero | exact Sz.sm (by omega) (by omega) (by decide) | exact Sz.mono (by assumption) (by decide)), (by first | assumption | omega | rfl | exact Sz.zero | exact Sz.sm (by omega) (by omega) (by decide) | exact Sz.mono (by assumption) (by decide)), (by first | assumption | omega | rfl | exact Sz.zero | exact Sz.sm (by omega) (by omega) (by decide) | exact Sz.mono (by assumption) (by decide)), fun cp H1 s1 hcp => ?_⟩
    refine i_c <| i_I0 <| ?_
    exact k _ _ s1 (by exact hcp.lt)

/-! Exact.__le__@ex -/
def sp_Exact___le___ex (K : PySem.W.Frag) : Sp := fun vs H Q _ => ∃ (selfA : Addr) (self : EN) (otherA : Addr) (other : EN), vs = [V.ref selfA, V.ref otherA] ∧ IsI (He.ga K "Exact") H selfA (exF self) ∧ IsI (He.ga K "Exact") H otherA (exF other) ∧ (2 ≤ self.b) ∧ (self.b ≤ 36) ∧ (Ad self other) ∧ ∀ (r : Bool) (H' : Hp), Same H H' → (r = decide ((addE (-1) self other).c ≤ 0)) → Q (V.bl r) H'
abbrev s_Exact___le___ex : Stmt := inClass (top 13) 21
theorem sc_Exact___le___ex : FnScope ["self", "other"] ["self", "other"] (defScope s_Exact___le___ex) := ⟨rfl, rfl, rfl, by decide +kernel, rfl, by decide +kernel, by decide +kernel⟩
theorem vis_Exact___le___ex : visB ["self", "other"] (defScope s_Exact___le___ex) = true := by decide +kernel
theorem gl_Exact___le___ex : glB ["Exact", "isinstance", "compared"] (defScope s_Exact___le___ex) = true := by decide +kernel
theorem ok_Exact___le___ex {P : Program} {w : World} {K : PySem.W.Frag} {mg : Str → Option Value} {base : Heap} (T : Txt w K mg) : OkD P w K mg base 4 (He.fAd K ("Exact", some "__le__")) ["self", "other"] [] (sp_Exact___le___ex K) := by
  obtain ⟨fd, F⟩ := T.d_Exact___le__
  refine ⟨fd, [], F.kp, F.bindsN (fun _ _ _ _ _ _ us hl => match us, hl with | [_, _], _ => rfl), .nil, ?_⟩
  have sc := sc_Exact___le___ex; have vis := vis_Exact___le___ex; have gls := gl_Exact___le___ex
  refine F.ok sc (fun vs H Q E h => ?_) (fun cdv A outer s H0 vs Q E hr h => ?_)
  · obtain ⟨selfA, self, otherA, other, rfl, _⟩ := h; rfl
  · obtain ⟨selfA, self, otherA, other, rfl, a0, a1, e0, e1, e2, k⟩ := h
    refine ⟨_, PSs.nox (pss_cons (ps_if (pt_not (pt_val (pcB call_isi gls 1 T.b_isinstance (by decide +kernel) (pa_cons (pn vis 1) (pa_cons (pgr gls 0 T.g_Exact) pa_nil))))) pss_never pss_nil) (pss_one (ps_ret (pe_cmpR op_le (pcD (ok_compared T) (hr.mono (by decide)) gls 2 T.g_compared (pa_cons (pn vis 0) (pa_cons (pn vis 1) pa_nil))) pe_int (nomark _))))), ?_⟩
    refine i_start (σ' := [some (V.ref selfA), some (V.ref otherA)]) rfl ?_
    refine i_seq <| i_if <| i_not <| i_tB <| i_cb <| i_cons <| v1 <| i_cons <| i_c <| i_nil <| i_isi (b := true) (.own _) (ins_ty T.ins_Exact a1) T.ins_Exact.me <| i_bl <| i_iteNT <| i_next <| i_nx <| i_ret <| i_op <| i_call <| i_cons <| v0 <| i_cons <| v1 <| i_nil <| ⟨_, _, _, _, rfl, a0, a1, (by first | assumption | omega | rfl | exact Sz.zero | exact Sz.sm (by omega) (by omega) (by decide) | exact Sz.mono (by assumption) (by decide)), (by first | assumption | omega | rfl | exact Sz.zero | exact Sz.sm (by omega) (by omega) (by decide) | exact Sz.mono (by assumption) (by decide)), (by first | assumption | omega | rfl | exact Sz.zero | exact Sz.sm (by omega) (by omega) (by decide) | exact Sz.mono (by assumption) (by decide)), fun cp H1 s1 hcp => ?_⟩
    refine i_c <| i_I0 <| ?_
    exact k _ _ s1 (by exact hcp.le)

/-! Exact.__gt__@ex -/
def sp_Exact___gt___ex (K : PySem.W.Frag) : Sp := fun vs H Q _ => ∃ (selfA : Addr) (self : EN) (otherA : Addr) (other : EN), vs = [V.ref selfA, V.ref otherA] ∧ IsI (He.ga K "Exact") H selfA (exF self) ∧ IsI (He.ga K "Exact") H otherA (exF other) ∧ (2 ≤ self.b) ∧ (self.b ≤ 36) ∧ (Ad self other) ∧ ∀ (r : Bool) (H' : Hp), Same H H' → (r = decide ((addE (-1) self other).c > 0)) → Q (V.bl r) H'
abbrev s_Exact___gt___ex : Stmt := inClass (top 13) 22
theorem sc_Exact___gt___ex : FnScope ["self", "other"] ["self", "other"] (defScope s_Exact___gt___ex) := ⟨rfl, rfl, rfl, by decide +kernel, rfl, by decide +kernel, by decide +kernel⟩
theorem vis_Exact___gt___ex : visB ["self", "other"] (defScope s_Exact___gt___ex) = true := by decide +kernel
theorem gl_Exact___gt___ex : glB ["Exact", "isinstance", "compared"] (defScope s_Exact___gt___ex) = true := by decide +kernel
theorem ok_Exact___gt___ex {P : Program} {w : World} {K : PySem.W.Frag} {mg : Str → Option Value} {base : Heap} (T : Txt w K mg) : OkD P w K mg base 4 (He.fAd K ("Exact", some "__gt__")) ["self", "other"] [] (sp_Exact___gt___ex K) := by
  obtain ⟨fd, F⟩ := T.d_Exact___gt__
  refine ⟨fd, [], F.kp, F.bindsN (fun _ _ _ _ _ _ us hl => match us, hl with | [_, _], _ => rfl), .nil, ?_⟩
  have sc := sc_Exact___gt___ex; have vis := vis_Exact___gt___ex; have gls := gl_Exact___gt___ex
  refine F.ok sc (fun vs H Q E h => ?_) (fun cdv A outer s H0 vs Q E hr h => ?_)
  · obtain ⟨selfA, self, otherA, other, rfl, _⟩ := h; rfl
  · obtain ⟨selfA, self, otherA, other, rfl, a0, a1, e0, e1, e2, k⟩ := h
    refine ⟨_, PSs.nox (pss_cons (ps_if (pt_not (pt_val (pcB call_isi gls 1 T.b_isinstance (by decide +kernel) (pa_cons (pn vis 1) (pa_cons (pgr gls 0 T.g_Exact) pa_nil))))) pss_never pss_nil) (pss_one (ps_ret (pe_cmpR op_gt (pcD (ok_compared T) (hr.mono (by decide)) gls 2 T.g_compared (pa_cons (pn vis 0) (pa_cons (pn vis 1) pa_nil))) pe_int (nomark _))))), ?_⟩
    refine i_start (σ' := [some (V.ref selfA), some (V.ref otherA)]) rfl ?_
    refine i_seq <| i_if <| i_not <| i_tB <| i_cb <| i_cons <| v1 <| i_cons <| i_c <| i_nil <| i_isi (b := true) (.own _) (ins_ty T.ins_Exact a1) T.ins_Exact.me <| i_bl <| i_iteNT <| i_next <| i_nx <| i_ret <| i_op <| i_call <| i_cons <| v0 <| i_cons <| v1 <| i_nil <| ⟨_, _, _, _, rfl, a0, a1, (by first | assumption | omega | rfl | exact Sz.zero | exact Sz.sm (by omega) (by omega) (by decide) | exact Sz.mono (by assumption) (by decide)), (by first | assumption | omega | rfl | exact Sz.zero | exact Sz.sm (by omega) (by omega) (by decide) | exact Sz.mono (by assumption) (by decide)), (by first | assumption | omega | rfl | exact Sz.zero | exact Sz.sm (by omega) (by omega) (by decide) | exact Sz.mono (by assumption) (by decide)), fun cp H1 s1 hcp => ?_⟩
    refine i_c <| i_I0 <| ?_
    exact k _ _ s1 (by exact hcp.gt)

/-! Exact.__ge__@ex -/
def sp_Exact___ge___ex (K : PySem.W.Frag) : Sp := fun vs H Q _ => ∃ (selfA : Addr) (self : EN) (otherA : Addr) (other : EN), vs = [V.ref selfA, V.ref otherA] ∧ IsI (He.ga K "Exact") H selfA (exF self) ∧ IsI (He.ga K "Exact") H otherA (exF other) ∧ (2 ≤ self.b) ∧ (self.b ≤ 36) ∧ (Ad self other) ∧ ∀ (r : Bool) (H' : Hp), Same H H' → (r = decide ((addE (-1) self other).c ≥ 0)) → Q (V.bl r) H'
abbrev s_Exact___ge___ex : Stmt := inClass (top 13) 23
theorem sc_Exact___ge___ex : FnScope ["self", "other"] ["self", "other"] (defScope s_Exact___ge___ex) := ⟨rfl, rfl, rfl, by decide +kernel, rfl, by decide +kernel, by decide +kernel⟩
theorem vis_Exact___ge___ex : visB ["self", "other"] (defScope s_Exact___ge___ex) = true := by decide +kernel
theorem gl_Exact___ge___ex : glB ["Exact", "isinstance", "compared"] (defScope s_Exact___ge___ex) = true := by decide +kernel
theorem ok_Exact___ge___ex {P : Program} {w : World} {K : PySem.W.Frag} {mg : Str → Option Value} {base : Heap} (T : Txt w K mg) : OkD P w K mg base 4 (He.fAd K ("Exact", some "__ge__")) ["self", "other"] [] (sp_Exact___ge___ex K) := by
  obtain ⟨fd, F⟩ := T.d_Exact___ge__
  refine ⟨fd, [], F.kp, F.bindsN (fun _ _ _ _ _ _ us hl => match us, hl with | [_, _], _ => rfl), .nil, ?_⟩
  have sc := sc_Exact___ge___ex; have vis := vis_Exact___ge___ex; have gls := gl_Exact___ge___ex
  refine F.ok sc (fun vs H Q E h => ?_) (fun cdv A outer s H0 vs Q E hr h => ?_)
  · obtain ⟨selfA, self, otherA, other, rfl, _⟩ := h; rfl
  · obtain ⟨selfA, self, otherA, other, rfl, a0, a1, e0, e1, e2, k⟩ := h
    refine ⟨_, PSs.nox (pss_cons (ps_if (pt_not (pt_val (pcB call_isi gls 1 T.b_isinstance (by decide +kernel) (pa_cons (pn vis 1) (pa_cons (pgr gls 0 T.g_Exact) pa_nil))))) pss_never pss_nil) (pss_one (ps_ret (pe_cmpR op_ge (pcD (ok_compared T) (hr.mono (by decide)) gls 2 T.g_compared (pa_cons (pn vis 0) (pa_cons (pn vis 1) pa_nil))) pe_int (nomark _))))), ?_⟩
    refine i_start (σ' := [some (V.ref selfA), some (V.ref otherA)]) rfl ?_
    refine i_seq <| i_if <| i_not <| i_tB <| i_cb <| i_cons <| v1 <| i_cons <| i_c <| i_nil <| i_isi (b := true) (.own _) (ins_ty T.ins_Exact a1) T.ins_Exact.me <| i_bl <| i_iteNT <| i_next <| i_nx <| i_ret <| i_op <| i_call <| i_cons <| v0 <| i_cons <| v1 <| i_nil <| ⟨_, _, _, _, rfl, a0, a1, (by first | assumption | omega | rfl | exact Sz.zero | exact Sz.sm (by omega) (by omega) (by decide) | exact Sz.mono (by assumption) (by decide)), (by first | assumption | omega | rfl | exact Sz.zero | exact Sz.sm (by omega) (by omega) (by decide) | exact Sz.mono (by assumption) (by decide)), (by first | assumption | omega | rfl | exact Sz.zero | exact Sz.sm (by omega) (by omega) (by decide) | exact Sz.mono (by assumption) (by decide)), fun cp H1 s1 hcp => ?_⟩
    refine i_c <| i_I0 <| ?_
    exact k _ _ s1 (by exact hcp.ge)

/-! _law_power -/
def sp__law_power (K : PySem.W.Frag) : Sp := fun vs H Q _ => ∃ (base : Int) (count : Int), vs = [V.int base, V.int count] ∧ (0 ≤ count) ∧ (count ≤ 100000) ∧ (Sz 6 base) ∧ ∀ (r : Int) (H' : Hp), Same H H' → (r = base ^ count.toNat) → Q (V.int r) H'
abbrev s__law_power : Stmt := top 25
theorem sc__law_power : FnScope ["base", "count", "result", "k"] ["base", "count"] (defScope s__law_power) := ⟨rfl, rfl, rfl, by decide +kernel, rfl, by decide +kernel, by decide +kernel⟩
theorem vis__law_power : visB ["base", "count", "result", "k"] (defScope s__law_power) = true := by decide +kernel
theorem gl__law_power : glB ["range"] (defScope s__law_power) = true := by decide +kernel
theorem ok__law_power {P : Program} {w : World} {K : PySem.W.Frag} {mg : Str → Option Value} {base : Heap} (T : Txt w K mg) : OkD P w K mg base 1 (He.fAd K ("_law_power", none)) ["base", "count"] [] (sp__law_power K) := by
  obtain ⟨fd, F⟩ := T.d__law_power
  refine ⟨fd, [], F.kp, F.bindsN (fun _ _ _ _ _ _ us hl => match us, hl with | [_, _], _ => rfl), .nil, ?_⟩
  have sc := sc__law_power; have vis := vis__law_power; have gls := gl__law_power
  refine F.ok sc (fun vs H Q E h => ?_) (fun cdv A outer s H0 vs Q E hr h => ?_)
  · obtain ⟨base, count, rfl, _⟩ := h; rfl
  · obtain ⟨base, count, rfl, e0, e1, e2, k⟩ := h
    refine ⟨_, PSs.nox (pss_cons (ps_set (i := 2) sc.nd rfl (.inl rfl) pe_int) (pss_cons (ps_for PassesOwn.never rfl (pi_range1 (gl_of gls (i := 0) rfl).1 T.b_range (pa_cons (pn vis 1) pa_nil)) (pg_name (i := 3) sc.nd rfl (.inl rfl)) (pss_one (ps_set (i := 2) sc.nd rfl (.inl rfl) (pe_op op_mulX (pn vis 2) (pn vis 0))))) (pss_one (ps_ret (pn vis 2))))), ?_⟩
    refine i_start (σ' := [some (V.int base), some (V.int count), none, none]) rfl ?_
    refine i_seq <| i_asg <| i_c <| n2 <| i_nx <| i_seq <| i_for <| i_for1 <| i_cons <| v1 <| i_nil <| i_rng1 (fun i σ H' => ∃ (x : Int) (o_k : Option V), σ = [some (V.int base), some (V.int count), some (V.int x), o_k] ∧ Same H0 H' ∧ (x = base ^ i)) (by omega) (by omega) ?_ ?_ ?_
    ·
      exact ⟨_, _, rfl, (Same.refl _), (by simp)⟩
    ·
      intro i
      rintro σ H1 hi ⟨x, o_k, rfl, s1, i0⟩
      refine n3 <| i_asg <| i_op <| v2 <| v0 <| i_I (by subst i0; exact mulx ((Sz.pow e2 i).mono (by omega : 6 * i + 1 ≤ 700000)) e2) <| n2 <| ?_
      exact ⟨_, _, rfl, s1, (by subst i0; rw [Int.pow_succ])⟩
    ·
      rintro σ H2 ⟨x, o_k, rfl, s2, i0⟩
      refine i_nx <| i_ret <| v2 <| ?_
      exact k _ _ s2 (by exact i0)

/-! _law_draw -/
def sp__law_draw (K : PySem.W.Frag) : Sp := fun vs H Q _ => ∃ (sourceA : Addr) (many : Int), vs = [V.ref sourceA, V.int many] ∧ IsSrc H sourceA ∧ (0 < many) ∧ (Sz 8000 many) ∧ ∀ (r : Int) (H' : Hp), Ext H H' → IsSrc H' sourceA → (0 ≤ r) → (r < many) → Q (V.int r) H'
abbrev s__law_draw : Stmt := top 22
theorem sc__law_draw : FnScope ["source", "many", "mixed", "cell", "size", "value"] ["source", "many"] (defScope s__law_draw) := ⟨rfl, rfl, rfl, by decide +kernel, rfl, by decide +kernel, by decide +kernel⟩
theorem vis__law_draw : visB ["source", "many", "mixed", "cell", "size", "value"] (defScope s__law_draw) = true := by decide +kernel
theorem gl__law_draw : glB ["len", "abs", "int"] (defScope s__law_draw) = true := by decide +kernel
theorem ok__law_draw {P : Program} {w : World} {K : PySem.W.Frag} {mg : Str → Option Value} {base : Heap} (T : Txt w K mg) : OkD P w K mg base 1 (He.fAd K ("_law_draw", none)) ["source", "many"] [] (sp__law_draw K) := by
  obtain ⟨fd, F⟩ := T.d__law_draw
  refine ⟨fd, [], F.kp, F.bindsN (fun _ _ _ _ _ _ us hl => match us, hl with | [_, _], _ => rfl), .nil, ?_⟩
  have sc := sc__law_draw; have vis := vis__law_draw; have gls := gl__law_draw
  refine F.ok sc (fun vs H Q E h => ?_) (fun cdv A outer s H0 vs Q E hr h => ?_)
  · obtain ⟨sourceA, many, rfl, _⟩ := h; rfl
  · obtain ⟨sourceA, many, rfl, a0, e0, e1, k⟩ := h
    refine ⟨_, PSs.nox (C8.pss_cut (ps_if (PW.pt (pw_and (pt_cmpR op_eqI (pe_ix ix_list (pn vis 0) pe_int (fun _ _ => rfl)) pe_int (nomark _)) (pw_and1 (pt_cmpR op_eqI (pe_ix ix_list (pn vis 0) pe_int (fun _ _ => rfl)) pe_int (nomark _))))) (pss_cons (ps_if (pt_cmpR op_ge (pe_ix ix_list (pn vis 0) pe_int (fun _ _ => rfl)) (pcB call_lenS gls 0 T.b_len PySem.boot_len (pa_cons (pe_ix ix_list (pn vis 0) pe_int (fun _ _ => rfl)) pa_nil)) (nomark _)) (pss_one (ps_ret pe_int)) pss_nil) (pss_cons (ps_set (i := 3) sc.nd rfl (.inl rfl) (pe_ix ix_list (pe_ix ix_list (pn vis 0) pe_int (fun _ _ => rfl)) (pe_ix ix_list (pn vis 0) pe_int (fun _ _ => rfl)) (fun _ _ => rfl))) (pss_cons (ps_asg (pe_op op_add (pe_ix ix_list (pn vis 0) pe_int (fun _ _ => rfl)) pe_int) (pg_sub (pn vis 0) pe_int set_list)) (pss_cons (ps_set (i := 4) sc.nd rfl (.inl rfl) (pe_op op_mul pe_int (pn vis 3))) (pss_cons (ps_if (pt_cmpR op_lt (pn vis 3) pe_int (nomark _)) (pss_one (ps_set (i := 4) sc.nd rfl (.inl rfl) (pe_op op_sub (pe_op op_sub pe_int (pe_op op_mul pe_int (pn vis 3))) pe_int))) pss_nil) (pss_one (ps_if (pt_cmpR op_ge (pcB call_absI gls 1 T.b_abs (by decide +kernel) (pa_cons (pn vis 3) pa_nil)) (pe_op op_pow pe_int pe_int) (nomark _)) (pss_one (ps_asg (pn vis 4) (pg_sub (pn vis 0) pe_int set_list))) (pss_cons (ps_asg (pn vis 4) (pg_sub (pn vis 0) pe_int set_list)) (pss_one (ps_asg pe_int (pg_sub (pn vis 0) pe_int set_list))))))))))) pss_nil) (pss_cons (ps_if (pt_cmpR op_gt (pe_ix ix_list (pn vis 0) pe_int (fun _ _ => rfl)) pe_int (nomark _)) (pss_cons (ps_set (i := 5) sc.nd rfl (.inl rfl) (pe_op op_mod (pcT call_intI gls 2 T.b_int boot_int (pa_cons (pe_ix ix_list (pn vis 0) pe_int (fun _ _ => rfl)) pa_nil)) (pn vis 1))) (pss_cons (ps_asg (pe_op op_fdivW (pe_ix ix_list (pn vis 0) pe_int (fun _ _ => rfl)) (pn vis 1)) (pg_sub (pn vis 0) pe_int set_list)) (pss_one (ps_ret (pn vis 5))))) pss_nil) (pss_cons (ps_asg (pe_op op_sub (pe_ix ix_list (pn vis 0) pe_int (fun _ _ => rfl)) pe_int) (pg_sub (pn vis 0) pe_int set_list)) (pss_cons (ps_set (i := 2) sc.nd rfl (.inl rfl) (pe_op op_mod (pcT call_intI gls 2 T.b_int boot_int (pa_cons (pe_op op_add (pe_op op_add (pe_op op_mul (pe_ix ix_list (pn vis 0) pe_int (fun _ _ => rfl)) pe_int) (pe_op op_mul (pe_ix ix_list (pn vis 0) pe_int (fun _ _ => rfl)) pe_int)) pe_int) pa_nil)) pe_int)) (pss_one (ps_ret (pe_op op_mod (pe_op op_mod (pcT call_intI gls 2 T.b_int boot_int (pa_cons (pe_op op_add (pe_op op_mul (pn vis 2) pe_int) (pe_op op_mul (pe_ix ix_list (pn vis 0) pe_int (fun _ _ => rfl)) pe_int)) pa_nil)) pe_int) (pn vis 1)))))))), ?_⟩
    refine i_start (σ' := [some (V.ref sourceA), some (V.int many), none, none, none, none]) rfl ?_
    refine i_cut (fun σ H' => ∃ (o1 : Option V) (o2 : Option V), σ = [some (V.ref sourceA), some (V.int many), none, o1, o2, none] ∧ Ext H0 H' ∧ IsSrc H' sourceA) ?_ ?_
    ·
      obtain ⟨i1, x1, y1, z1, cA1, cs1, fs1, fc1, hi1⟩ := a0
      refine i_if <| i_and <| i_test <| i_op <| i_op <| v0 <| i_c <| i_ixL (SqL.of fs1) (atI_nat (j := 1) rfl) <| i_c <| i_I0 <| i_bl <| i_ite (fun c1 => ?_) (fun c1 => ?_)
      ·
        refine i_test <| i_op <| i_op <| v0 <| i_c <| i_ixL (SqL.of fs1) (atI_nat (j := 3) rfl) <| i_c <| i_I0 <| i_bl <| i_ite (fun c1' => ?_) (fun c1' => ?_)
        ·
          refine i_seq <| i_if <| i_test <| i_op <| i_op <| v0 <| i_c <| i_ixL (SqL.of fs1) (atI_nat (j := 0) rfl) <| i_cb <| i_cons <| i_op <| v0 <| i_c <| i_ixL (SqL.of fs1) (atI_nat (j := 4) rfl) <| i_nil <| i_lenM (SqL.of fc1) <| i_I0 <| i_bl <| i_ite (fun c2 => ?_) (fun c2 => ?_)
          ·
            refine i_ret <| i_c <| ?_
            exact k _ _ (Ext.refl _) ⟨_, _, _, _, _, _, fs1, fc1, (by omega)⟩ (by first | rfl | assumption | omega) (by first | rfl | assumption | omega)
          ·
            refine i_next <| i_nx <| i_seq <| ?_
            have q2 := c2; try rw [List.length_map] at q2
            obtain ⟨cell, _, hat⟩ := at_map (f := V.int) (xs := cs1) hi1 (by omega)
            refine i_asg <| i_op <| i_op <| v0 <| i_c <| i_ixL (SqL.of fs1) (atI_nat (j := 4) rfl) <| i_op <| v0 <| i_c <| i_ixL (SqL.of fs1) (atI_nat (j := 0) rfl) <| i_ixL (SqL.of fc1) hat <| n3 <| i_nx <| i_seq <| i_asg <| i_op <| i_op <| v0 <| i_c <| i_ixL (SqL.of fs1) (atI_nat (j := 0) rfl) <| i_c <| i_I0 <| i_gsub <| v0 <| i_c <| i_setL (j := 0) fs1 rfl (fun H2 f2 w2 => ?_)
            have s2 : Ext H0 H2 := ext_set fs1 trivial w2
            simp only [List.set_cons_succ, List.set_cons_zero] at f2
            refine i_nx <| i_seq <| i_asg <| i_op <| i_c <| v3 <| i_I (by first | exact .inl ⟨by decide, by decide⟩ | exact .inr ⟨by decide, by decide⟩) <| n4 <| i_nx <| i_seq <| i_if <| i_test <| i_op <| v3 <| i_c <| i_I0 <| i_bl <| i_ite (fun c7 => ?_) (fun c7 => ?_)
            ·
              refine i_asg <| i_op <| i_op <| i_c <| i_op <| i_c <| v3 <| i_I (by first | exact .inl ⟨by decide, by decide⟩ | exact .inr ⟨by decide, by decide⟩) <| i_I0 <| i_c <| i_I0 <| n4 <| i_nx <| i_if <| i_test <| i_op <| i_cb <| i_cons <| v3 <| i_nil <| i_abs <| i_op <| i_c <| i_c <| i_I (by exact ⟨by decide, by decide, by decide⟩) <| i_I0 <| i_bl <| i_ite (fun c9 => ?_) (fun c9 => ?_)
              ·
                refine i_asg <| v4 <| i_gsub <| v0 <| i_c <| i_setL (j := 1) f2 rfl (fun H3 f3 w3 => ?_)
                have s3 : Ext H2 H3 := ext_set f2 trivial w3
                simp only [List.set_cons_succ, List.set_cons_zero] at f3
                exact ⟨_, _, rfl, (s2.trans s3), ⟨_, _, _, _, _, _, f3, ((s2.trans s3) _ _ (stab_int _) fc1), (by omega)⟩⟩
              ·
                refine i_seq <| i_asg <| v4 <| i_gsub <| v0 <| i_c <| i_setL (j := 2) f2 rfl (fun H4 f4 w4 => ?_)
                have s4 : Ext H2 H4 := ext_set f2 trivial w4
                simp only [List.set_cons_succ, List.set_cons_zero] at f4
                refine i_nx <| i_asg <| i_c <| i_gsub <| v0 <| i_c <| i_setL (j := 3) f4 rfl (fun H5 f5 w5 => ?_)
                have s5 : Ext H4 H5 := ext_set f4 trivial w5
                simp only [List.set_cons_succ, List.set_cons_zero] at f5
                exact ⟨_, _, rfl, (s2.trans (s4.trans s5)), ⟨_, _, _, _, _, _, f5, ((s2.trans (s4.trans s5)) _ _ (stab_int _) fc1), (by omega)⟩⟩
            ·
              refine i_next <| i_nx <| i_if <| i_test <| i_op <| i_cb <| i_cons <| v3 <| i_nil <| i_abs <| i_op <| i_c <| i_c <| i_I (by exact ⟨by decide, by decide, by decide⟩) <| i_I0 <| i_bl <| i_ite (fun c9' => ?_) (fun c9' => ?_)
              ·
                refine i_asg <| v4 <| i_gsub <| v0 <| i_c <| i_setL (j := 1) f2 rfl (fun H6 f6 w6 => ?_)
                have s6 : Ext H2 H6 := ext_set f2 trivial w6
                simp only [List.set_cons_succ, List.set_cons_zero] at f6
                exact ⟨_, _, rfl, (s2.trans s6), ⟨_, _, _, _, _, _, f6, ((s2.trans s6) _ _ (stab_int _) fc1), (by omega)⟩⟩
              ·
                refine i_seq <| i_asg <| v4 <| i_gsub <| v0 <| i_c <| i_setL (j := 2) f2 rfl (fun H7 f7 w7 => ?_)
                have s7 : Ext H2 H7 := ext_set f2 trivial w7
                simp only [List.set_cons_succ, List.set_cons_zero] at f7
                refine i_nx <| i_asg <| i_c <| i_gsub <| v0 <| i_c <| i_setL (j := 3) f7 rfl (fun H8 f8 w8 => ?_)
                have s8 : Ext H7 H8 := ext_set f7 trivial w8
                simp only [List.set_cons_succ, List.set_cons_zero] at f8
                exact ⟨_, _, rfl, (s2.trans (s7.trans s8)), ⟨_, _, _, _, _, _, f8, ((s2.trans (s7.trans s8)) _ _ (stab_int _) fc1), (by omega)⟩⟩
        ·
          refine i_next <| ?_
          exact ⟨_, _, rfl, (Ext.refl _), ⟨_, _, _, _, _, _, fs1, fc1, (by omega)⟩⟩
      ·
        refine i_iteF <| i_next <| ?_
        exact ⟨_, _, rfl, (Ext.refl _), ⟨_, _, _, _, _, _, fs1, fc1, (by omega)⟩⟩
    ·
      rintro σ H9 ⟨o1, o2, rfl, s9, g9⟩
      refine i_seq <| ?_
      obtain ⟨i10, x10, y10, z10, cA10, cs10, fs10, fc10, hi10⟩ := g9
      refine i_if <| i_test <| i_op <| i_op <| v0 <| i_c <| i_ixL (SqL.of fs10) (atI_nat (j := 1) rfl) <| i_c <| i_I0 <| i_bl <| i_ite (fun c14 => ?_) (fun c14 => ?_)
      ·
        refine i_seq <| i_asg <| i_op <| i_cb <| i_cons <| i_op <| v0 <| i_c <| i_ixL (SqL.of fs10) (atI_nat (j := 1) rfl) <| i_nil <| i_int <| v1 <| i_I (by show (0 : Int) < _; first | decide | assumption | omega) <| n5 <| i_nx <| i_seq <| i_asg <| i_op <| i_op <| v0 <| i_c <| i_ixL (SqL.of fs10) (atI_nat (j := 1) rfl) <| v1 <| i_I (by exact divw e0 e1) <| i_gsub <| v0 <| i_c <| i_setL (j := 1) fs10 rfl (fun H11 f11 w11 => ?_)
        have s11 : Ext H9 H11 := ext_set fs10 trivial w11
        simp only [List.set_cons_succ, List.set_cons_zero] at f11
        refine i_nx <| i_ret <| v5 <| ?_
        exact k _ _ (s9.trans s11) ⟨_, _, _, _, _, _, f11, (s11 _ _ (stab_int _) fc10), (by omega)⟩ (by first | exact Int.emod_nonneg _ (by omega) | exact Int.emod_lt_of_pos _ (by omega)) (by first | exact Int.emod_nonneg _ (by omega) | exact Int.emod_lt_of_pos _ (by omega))
      ·
        refine i_next <| i_nx <| i_seq <| i_asg <| i_op <| i_op <| v0 <| i_c <| i_ixL (SqL.of fs10) (atI_nat (j := 3) rfl) <| i_c <| i_I0 <| i_gsub <| v0 <| i_c <| i_setL (j := 3) fs10 rfl (fun H12 f12 w12 => ?_)
        have s12 : Ext H9 H12 := ext_set fs10 trivial w12
        simp only [List.set_cons_succ, List.set_cons_zero] at f12
        refine i_nx <| i_seq <| i_asg <| i_op <| i_cb <| i_cons <| i_op <| i_op <| i_op <| i_op <| v0 <| i_c <| i_ixL (SqL.of f12) (atI_nat (j := 2) rfl) <| i_c <| i_I (by first | exact .inl ⟨by decide, by decide⟩ | exact .inr ⟨by decide, by decide⟩) <| i_op <| i_op <| v0 <| i_c <| i_ixL (SqL.of f12) (atI_nat (j := 3) rfl) <| i_c <| i_I (by first | exact .inl ⟨by decide, by decide⟩ | exact .inr ⟨by decide, by decide⟩) <| i_I0 <| i_c <| i_I0 <| i_nil <| i_int <| i_c <| i_I (by show (0 : Int) < _; first | decide | assumption | omega) <| n2 <| i_nx <| i_ret <| i_op <| i_op <| i_cb <| i_cons <| i_op <| i_op <| v2 <| i_c <| i_I (by first | exact .inl ⟨by decide, by decide⟩ | exact .inr ⟨by decide, by decide⟩) <| i_op <| i_op <| v0 <| i_c <| i_ixL (SqL.of f12) (atI_nat (j := 2) rfl) <| i_c <| i_I (by first | exact .inl ⟨by decide, by decide⟩ | exact .inr ⟨by decide, by decide⟩) <| i_I0 <| i_nil <| i_int <| i_c <| i_I (by show (0 : Int) < _; first | decide | assumption | omega) <| v1 <| i_I (by show (0 : Int) < _; first | decide | assumption | omega) <| ?_
        exact k _ _ (s9.trans s12) ⟨_, _, _, _, _, _, f12, (s12 _ _ (stab_int _) fc10), (by omega)⟩ (by first | exact Int.emod_nonneg _ (by omega) | exact Int.emod_lt_of_pos _ (by omega)) (by first | exact Int.emod_nonneg _ (by omega) | exact Int.emod_lt_of_pos _ (by omega))

/-! _law_source -/
def sp__law_source (K : PySem.W.Frag) : Sp := fun vs H Q _ => ∃ (scriptA : Addr) (script : List Int), vs = [V.ref scriptA] ∧ SqL K H scriptA (script.map V.int) ∧ (script.length ≤ 63) ∧ ∀ (rA : Addr) (H' : Hp), Same H H' → IsSrc H' rA → Q (V.ref rA) H'
abbrev s__law_source : Stmt := top 21
theorem sc__law_source : FnScope ["script", "cell"] ["script"] (defScope s__law_source) := ⟨rfl, rfl, rfl, by decide +kernel, rfl, by decide +kernel, by decide +kernel⟩
theorem vis__law_source : visB ["script"] (defScope s__law_source) = true := by decide +kernel
theorem gl__law_source : glB [] (defScope s__law_source) = true := by decide +kernel
theorem ok__law_source {P : Program} {w : World} {K : PySem.W.Frag} {mg : Str → Option Value} {base : Heap} (T : Txt w K mg) : OkD P w K mg base 1 (He.fAd K ("_law_source", none)) ["script"] [] (sp__law_source K) := by
  obtain ⟨fd, F⟩ := T.d__law_source
  refine ⟨fd, [], F.kp, F.bindsN (fun _ _ _ _ _ _ us hl => match us, hl with | [_], _ => rfl), .nil, ?_⟩
  have sc := sc__law_source; have vis := vis__law_source; have gls := gl__law_source
  refine F.ok sc (fun vs H Q E h => ?_) (fun cdv A outer s H0 vs Q E hr h => ?_)
  · obtain ⟨scriptA, script, rfl, _⟩ := h; rfl
  · obtain ⟨scriptA, script, rfl, a0, e0, k⟩ := h
    refine ⟨_, PSs.nox (pss_one (ps_ret (pe_lst (pa_cons pe_int (pa_cons pe_int (pa_cons pe_int (pa_cons pe_int (pa_cons (pe_lc (own := [("cell", 1)]) (g := gName 1) (tt := tYes) rfl sc.nd (pi_list (pnc vis 0)) (blkOk_by (N := ["script", "cell"]) (sc := defScope s__law_source) (by decide +kernel)) (fun _ _ _ _ _ => pg_name (i := 1) sc.nd rfl (.inl rfl)) (fun _ _ _ _ _ => pts_nil) (fun _ _ _ _ _ => (pe_callTy call_intI (by rfl) T.b_int boot_int (pa_cons (pv 1) pa_nil)))) pa_nil)))))))), ?_⟩
    refine i_start (σ' := [some (V.ref scriptA), none]) rfl ?_
    refine i_ret <| i_lst <| i_cons <| i_c <| i_cons <| i_c <| i_cons <| i_c <| i_cons <| i_c <| i_cons <| i_lc <| i_lt <| v0 <| i_lcL (xs := _) a0 (fun p1 z1 => ?_)
    refine lc_list (xs := script.map V.int) (fun q H' => (∀ b o, H0 b = some o → H' b = some o) ∧ H' p1 = some (.lst ((script.take q).map V.int))) ?_ ?_ ?_ ?_
    ·
      exact ⟨same_new z1, upd_same⟩
    ·
      intro q H' _ ⟨e, _⟩; exact Same.seq e a0
    ·
      intro q y H' hy ⟨e1, d1⟩
      obtain ⟨cell, hc, rfl⟩ : ∃ c, script[q]? = some c ∧ y = V.int c := by
        rw [List.getElem?_map] at hy
        cases ee : script[q]? with
        | none => rw [ee] at hy; cases hy
        | some z => rw [ee] at hy; exact ⟨z, rfl, (Option.some.inj hy).symm⟩
      refine n1 <| i_lcw <| i_cb <| i_cons <| v1 <| i_nil <| i_int <| ?_
      exact ⟨_, d1, (by have q1 := (List.getElem?_eq_some_iff.mp hc).1; have q2 := List.length_take_le q script; rw [List.length_map]; exact Nat.lt_of_le_of_lt (Nat.le_trans q2 (Nat.le_trans (Nat.le_of_lt q1) e0)) (by decide)), same_up z1 e1, (upd_same.trans (by rw [take_succ hc, List.map_append]; rfl))⟩
    ·
      rintro H1 ⟨s1, f1⟩
      rw [List.length_map, List.take_length] at f1
      have s1 : Same H0 H1 := s1
      refine i_nil <| i_kLst (of_decide_eq_true rfl) (fun p2 H2 z2 s2 f2 => ?_)
      exact k _ _ (s1.trans s2) ⟨_, _, _, _, _, _, f2, (s2 _ _ f1), (by decide)⟩

/-! _law_lowest -/
def sp__law_lowest (K : PySem.W.Frag) : Sp := fun vs H Q _ => ∃ (base : Int) (coefficient : Int) (exponent : Int), vs = [V.int base, V.int coefficient, V.int exponent] ∧ (2 ≤ base) ∧ (base ≤ 36) ∧ ∀ (rA : Addr) (r0 : Int) (r1 : Int) (H' : Hp), Same H H' → H' rA = some (.tup [V.int r0, V.int r1]) → ((⟨base, r0, r1⟩ : EN) = nrm base coefficient exponent) → Q (V.ref rA) H'
abbrev s__law_lowest : Stmt := top 26
theorem sc__law_lowest : FnScope ["base", "coefficient", "exponent", "rest", "count", "chunk"] ["base", "coefficient", "exponent"] (defScope s__law_lowest) := ⟨rfl, rfl, rfl, by decide +kernel, rfl, by decide +kernel, by decide +kernel⟩
theorem vis__law_lowest : visB ["base", "coefficient", "exponent", "rest", "count", "chunk"] (defScope s__law_lowest) = true := by decide +kernel
theorem gl__law_lowest : glB ["_law_power", "int"] (defScope s__law_lowest) = true := by decide +kernel
theorem ok__law_lowest {P : Program} {w : World} {K : PySem.W.Frag} {mg : Str → Option Value} {base : Heap} (T : Txt w K mg) : OkD P w K mg base 2 (He.fAd K ("_law_lowest", none)) ["base", "coefficient", "exponent"] [] (sp__law_lowest K) := by
  obtain ⟨fd, F⟩ := T.d__law_lowest
  refine ⟨fd, [], F.kp, F.bindsN (fun _ _ _ _ _ _ us hl => match us, hl with | [_, _, _], _ => rfl), .nil, ?_⟩
  have sc := sc__law_lowest; have vis := vis__law_lowest; have gls := gl__law_lowest
  refine F.ok sc (fun vs H Q E h => ?_) (fun cdv A outer s H0 vs Q E hr h => ?_)
  · obtain ⟨base, coefficient, exponent, rfl, _⟩ := h; rfl
  · obtain ⟨base, coefficient, exponent, rfl, e0, e1, k⟩ := h
    refine ⟨_, PSs.nox (pss_cons (ps_if (pt_cmpR op_eqI (pn vis 1) pe_int (nomark _)) (pss_one (ps_ret (pe_tup (pa_cons pe_int (pa_cons pe_int pa_nil))))) pss_nil) (pss_cons (ps_set (i := 3) sc.nd rfl (.inl rfl) (pn vis 1)) (pss_cons (ps_set (i := 4) sc.nd rfl (.inl rfl) (pn vis 2)) (pss_cons (ps_set (i := 5) sc.nd rfl (.inl rfl) (pcD (ok__law_power T) (hr.mono (by decide)) gls 0 T.g__law_power (pa_cons (pn vis 0) (pa_cons pe_int pa_nil)))) (pss_cons (ps_while PassesOwn.never (pt_cmpR op_eqI (pe_op op_mod (pcT call_intI gls 1 T.b_int boot_int (pa_cons (pn vis 3) pa_nil)) (pn vis 5)) pe_int (nomark _)) (pss_cons (ps_set (i := 3) sc.nd rfl (.inl rfl) (pe_op op_fdivW (pn vis 3) (pn vis 5))) (pss_one (ps_set (i := 4) sc.nd rfl (.inl rfl) (pe_op op_add (pn vis 4) pe_int))))) (pss_cons (ps_while PassesOwn.never (pt_cmpR op_eqI (pe_op op_mod (pcT call_intI gls 1 T.b_int boot_int (pa_cons (pn vis 3) pa_nil)) (pn vis 0)) pe_int (nomark _)) (pss_cons (ps_set (i := 3) sc.nd rfl (.inl rfl) (pe_op op_fdivW (pn vis 3) (pn vis 0))) (pss_one (ps_set (i := 4) sc.nd rfl (.inl rfl) (pe_op op_add (pn vis 4) pe_int))))) (pss_one (ps_ret (pe_tup (pa_cons (pn vis 3) (pa_cons (pn vis 4) pa_nil))))))))))), ?_⟩
    refine i_start (σ' := [some (V.int base), some (V.int coefficient), some (V.int exponent), none, none, none]) rfl ?_
    refine i_seq <| i_if <| i_test <| i_op <| v1 <| i_c <| i_I0 <| i_bl <| i_ite (fun c1 => ?_) (fun c1 => ?_)
    ·
      refine i_ret <| i_tup <| i_cons <| i_c <| i_cons <| i_c <| i_nil <| i_kTup (of_decide_eq_true rfl) (fun p1 H1 z1 s1 f1 => ?_)
      exact k _ _ _ _ s1 f1 (by rw [c1, nrm_zero])
    ·
      refine i_next <| i_nx <| i_seq <| i_asg <| v1 <| n3 <| i_nx <| i_seq <| i_asg <| v2 <| n4 <| i_nx <| i_seq <| i_asg <| i_call <| i_cons <| v0 <| i_cons <| i_c <| i_nil <| ⟨_, _, rfl, (by first | assumption | omega | rfl | exact Sz.zero | exact Sz.sm (by omega) (by omega) (by decide) | exact Sz.mono (by assumption) (by decide)), (by first | assumption | omega | rfl | exact Sz.zero | exact Sz.sm (by omega) (by omega) (by decide) | exact Sz.mono (by assumption) (by decide)), (by unfold Sz; omega), fun chunk H2 s2 hchunk => ?_⟩
      refine n5 <| i_nx <| i_seq <| ?_
      have hch2 : 2 ≤ chunk := by rw [hchunk]; have := pow_le' e0 (m := 1) (n := (16 : Int).toNat) (by decide); rw [Int.pow_one] at this; omega
      have hchz : Sz 9000 chunk := by rw [hchunk]; exact (Sz.pow36 e0 e1 _).mono (by decide)
      refine i_while (fun m σ H' => ∃ (x : Int) (cn : Int), σ = [some (V.int base), some (V.int coefficient), some (V.int exponent), some (V.int x), some (V.int cn), some (V.int chunk)] ∧ m = x.natAbs ∧ Same H2 H' ∧ (Lw base coefficient exponent x cn)) ?_ ?_
      ·
        exact ⟨_, _, _, rfl, rfl, (Same.refl _), (by exact Lw.init c1)⟩
      ·
        rintro m σ H3 ⟨x, cn, rfl, rfl, s3, i0⟩
        refine i_test <| i_op <| i_op <| i_cb <| i_cons <| v3 <| i_nil <| i_int <| v5 <| i_I (by show (0 : Int) < _; omega) <| i_c <| i_I0 <| i_bl <| i_ite (fun c6 => ?_) (fun c6 => ?_)
        ·
          refine i_turn <| i_seq <| i_asg <| i_op <| v3 <| v5 <| i_I (by exact divw (by omega) hchz) <| n3 <| i_nx <| i_asg <| i_op <| v4 <| i_c <| i_I0 <| n4 <| ?_
          refine ⟨_, ?_, _, _, rfl, rfl, s3, (by exact i0.step 16 hch2 (by rw [hchunk]; rfl) rfl c6)⟩
          exact i0.lt hch2 c6
        ·
          refine i_nx <| i_seq <| ?_
          refine i_while (fun m σ H' => ∃ (y : Int) (l : Int), σ = [some (V.int base), some (V.int coefficient), some (V.int exponent), some (V.int y), some (V.int l), some (V.int chunk)] ∧ m = y.natAbs ∧ Same H3 H' ∧ (Lw base coefficient exponent y l)) ?_ ?_
          ·
            exact ⟨_, _, _, rfl, rfl, (Same.refl _), (by exact i0)⟩
          ·
            rintro m σ H4 ⟨y, l, rfl, rfl, s4, j0⟩
            refine i_test <| i_op <| i_op <| i_cb <| i_cons <| v3 <| i_nil <| i_int <| v0 <| i_I (by show (0 : Int) < _; omega) <| i_c <| i_I0 <| i_bl <| i_ite (fun c9 => ?_) (fun c9 => ?_)
            ·
              refine i_turn <| i_seq <| i_asg <| i_op <| v3 <| v0 <| i_I (by exact divw (b := 6) (by omega) (by unfold Sz; omega)) <| n3 <| i_nx <| i_asg <| i_op <| v4 <| i_c <| i_I0 <| n4 <| ?_
              refine ⟨_, ?_, _, _, rfl, rfl, s4, (by exact j0.step 1 e0 (Int.pow_one _).symm rfl c9)⟩
              exact j0.lt e0 c9
            ·
              refine i_nx <| i_ret <| i_tup <| i_cons <| v3 <| i_cons <| v4 <| i_nil <| i_kTup (of_decide_eq_true rfl) (fun p5 H5 z5 s5 f5 => ?_)
              exact k _ _ _ _ (s2.trans (s3.trans (s4.trans s5))) f5 (by exact j0.done e0 c1 c9)

/-! _law_make -/
def sp__law_make (K : PySem.W.Frag) : Sp := fun vs H Q _ => ∃ (base : Int) (xA : Addr) (x0 : Int) (x1 : Int), vs = [V.int base, V.ref xA] ∧ H xA = some (.tup [V.int x0, V.int x1]) ∧ (2 ≤ base) ∧ (base ≤ 36) ∧ (Sz 9000 x0) ∧ ∀ (rA : Addr) (r : EN) (H' : Hp), Same H H' → IsI (He.ga K "Exact") H' rA (exF r) → (r = nrm base x0 x1) → Q (V.ref rA) H'
abbrev s__law_make : Stmt := top 32
theorem sc__law_make : FnScope ["base", "x"] ["base", "x"] (defScope s__law_make) := ⟨rfl, rfl, rfl, by decide +kernel, rfl, by decide +kernel, by decide +kernel⟩
theorem vis__law_make : visB ["base", "x"] (defScope s__law_make) = true := by decide +kernel
theorem gl__law_make : glB ["Exact"] (defScope s__law_make) = true := by decide +kernel
theorem ok__law_make {P : Program} {w : World} {K : PySem.W.Frag} {mg : Str → Option Value} {base : Heap} (T : Txt w K mg) : OkD P w K mg base 5 (He.fAd K ("_law_make", none)) ["base", "x"] [] (sp__law_make K) := by
  obtain ⟨fd, F⟩ := T.d__law_make
  refine ⟨fd, [], F.kp, F.bindsN (fun _ _ _ _ _ _ us hl => match us, hl with | [_, _], _ => rfl), .nil, ?_⟩
  have sc := sc__law_make; have vis := vis__law_make; have gls := gl__law_make
  refine F.ok sc (fun vs H Q E h => ?_) (fun cdv A outer s H0 vs Q E hr h => ?_)
  · obtain ⟨base, xA, x0, x1, rfl, _⟩ := h; rfl
  · obtain ⟨base, xA, x0, x1, rfl, a0, e0, e1, e2, k⟩ := h
    refine ⟨_, PSs.nox (pss_one (ps_ret (pcM T.mk_Exact (ok_Exact___init__ T) (hr.mono (by decide)) gls 0 T.g_Exact (pa_cons (pn vis 0) (pa_cons (pe_ix ix_tup (pn vis 1) pe_int (fun _ _ => rfl)) (pa_cons (pe_ix ix_tup (pn vis 1) pe_int (fun _ _ => rfl)) pa_nil)))))), ?_⟩
    refine i_start (σ' := [some (V.int base), some (V.ref xA)]) rfl ?_
    refine i_ret <| i_make <| i_cons <| v0 <| i_cons <| i_op <| v1 <| i_c <| i_ixT (SqT.of a0) (atI_nat (j := 0) rfl) <| i_cons <| i_op <| v1 <| i_c <| i_ixT (SqT.of a0) (atI_nat (j := 1) rfl) <| i_nil <| i_made (fun x1 H1 k1 i1 => ?_)
    refine ⟨x1, _, _, _, rfl, i1, (by first | assumption | omega | rfl | exact Sz.zero | exact Sz.sm (by omega) (by omega) (by decide) | exact Sz.mono (by assumption) (by decide)), (by first | assumption | omega | rfl | exact Sz.zero | exact Sz.sm (by omega) (by omega) (by decide) | exact Sz.mono (by assumption) (by decide)), (by first | assumption | omega | rfl | exact Sz.zero | exact Sz.sm (by omega) (by omega) (by decide) | exact Sz.mono (by assumption) (by decide)), fun r2 G1 p1 q1 hr2 => ⟨rfl, ?_⟩⟩
    exact k _ _ _ (k1 _ p1) q1 (by first | rfl | assumption | omega)

/-! _law_base -/
def sp__law_base (K : PySem.W.Frag) : Sp := fun vs H Q _ => ∃ (sourceA : Addr), vs = [V.ref sourceA] ∧ IsSrc H sourceA ∧ ∀ (r : Int) (H' : Hp), Ext H H' → IsSrc H' sourceA → (2 ≤ r) → (r ≤ 36) → Q (V.int r) H'
abbrev s__law_base : Stmt := top 23
theorem sc__law_base : FnScope ["source", "kind"] ["source"] (defScope s__law_base) := ⟨rfl, rfl, rfl, by decide +kernel, rfl, by decide +kernel, by decide +kernel⟩
theorem vis__law_base : visB ["source", "kind"] (defScope s__law_base) = true := by decide +kernel
theorem gl__law_base : glB ["_law_draw"] (defScope s__law_base) = true := by decide +kernel
theorem ok__law_base {P : Program} {w : World} {K : PySem.W.Frag} {mg : Str → Option Value} {base : Heap} (T : Txt w K mg) : OkD P w K mg base 2 (He.fAd K ("_law_base", none)) ["source"] [] (sp__law_base K) := by
  obtain ⟨fd, F⟩ := T.d__law_base
  refine ⟨fd, [], F.kp, F.bindsN (fun _ _ _ _ _ _ us hl => match us, hl with | [_], _ => rfl), .nil, ?_⟩
  have sc := sc__law_base; have vis := vis__law_base; have gls := gl__law_base
  refine F.ok sc (fun vs H Q E h => ?_) (fun cdv A outer s H0 vs Q E hr h => ?_)
  · obtain ⟨sourceA, rfl, _⟩ := h; rfl
  · obtain ⟨sourceA, rfl, a0, k⟩ := h
    refine ⟨_, PSs.nox (pss_cons (ps_set (i := 1) sc.nd rfl (.inl rfl) (pcD (ok__law_draw T) (hr.mono (by decide)) gls 0 T.g__law_draw (pa_cons (pn vis 0) (pa_cons pe_int pa_nil)))) (pss_cons (ps_if (pt_cmpR op_eqI (pn vis 1) pe_int (nomark _)) (pss_one (ps_ret (pe_op op_add pe_int (pcD (ok__law_draw T) (hr.mono (by decide)) gls 0 T.g__law_draw (pa_cons (pn vis 0) (pa_cons pe_int pa_nil)))))) pss_nil) (pss_cons (ps_if (pt_cmpR op_eqI (pn vis 1) pe_int (nomark _)) (pss_one (ps_ret (pe_op op_add pe_int (pcD (ok__law_draw T) (hr.mono (by decide)) gls 0 T.g__law_draw (pa_cons (pn vis 0) (pa_cons pe_int pa_nil)))))) pss_nil) (pss_one (ps_ret (pe_ix ix_list (pe_lst (pa_cons pe_int (pa_cons pe_int (pa_cons pe_int (pa_cons pe_int (pa_cons pe_int pa_nil)))))) (pcD (ok__law_draw T) (hr.mono (by decide)) gls 0 T.g__law_draw (pa_cons (pn vis 0) (pa_cons pe_int pa_nil))) (fun _ _ => rfl))))))), ?_⟩
    refine i_start (σ' := [some (V.ref sourceA), none]) rfl ?_
    refine i_seq <| i_asg <| i_call <| i_cons <| v0 <| i_cons <| i_c <| i_nil <| ⟨_, _, rfl, a0, (by first | assumption | omega | rfl | exact Sz.zero | exact Sz.sm (by omega) (by omega) (by decide) | exact Sz.mono (by assumption) (by decide)), (by first | assumption | omega | rfl | exact Sz.zero | exact Sz.sm (by omega) (by omega) (by decide) | exact Sz.mono (by assumption) (by decide)), fun kind H1 s1 g1 hkind0 hkind1 => ?_⟩
    refine n1 <| i_nx <| i_seq <| i_if <| i_test <| i_op <| v1 <| i_c <| i_I0 <| i_bl <| i_ite (fun c2 => ?_) (fun c2 => ?_)
    ·
      refine i_ret <| i_op <| i_c <| i_call <| i_cons <| v0 <| i_cons <| i_c <| i_nil <| ⟨_, _, rfl, g1, (by first | assumption | omega | rfl | exact Sz.zero | exact Sz.sm (by omega) (by omega) (by decide) | exact Sz.mono (by assumption) (by decide)), (by first | assumption | omega | rfl | exact Sz.zero | exact Sz.sm (by omega) (by omega) (by decide) | exact Sz.mono (by assumption) (by decide)), fun r2 H3 s3 g3 hr20 hr21 => ?_⟩
      refine i_I0 <| ?_
      exact k _ _ (s1.trans s3) g3 (by first | rfl | assumption | omega) (by first | rfl | assumption | omega)
    ·
      refine i_next <| i_nx <| i_seq <| i_if <| i_test <| i_op <| v1 <| i_c <| i_I0 <| i_bl <| i_ite (fun c4 => ?_) (fun c4 => ?_)
      ·
        refine i_ret <| i_op <| i_c <| i_call <| i_cons <| v0 <| i_cons <| i_c <| i_nil <| ⟨_, _, rfl, g1, (by first | assumption | omega | rfl | exact Sz.zero | exact Sz.sm (by omega) (by omega) (by decide) | exact Sz.mono (by assumption) (by decide)), (by first | assumption | omega | rfl | exact Sz.zero | exact Sz.sm (by omega) (by omega) (by decide) | exact Sz.mono (by assumption) (by decide)), fun r4 H5 s5 g5 hr40 hr41 => ?_⟩
        refine i_I0 <| ?_
        exact k _ _ (s1.trans s5) g5 (by first | rfl | assumption | omega) (by first | rfl | assumption | omega)
      ·
        refine i_next <| i_nx <| i_ret <| i_op <| i_lst <| i_cons <| i_c <| i_cons <| i_c <| i_cons <| i_c <| i_cons <| i_c <| i_cons <| i_c <| i_nil <| i_kLst (of_decide_eq_true rfl) (fun p6 H6 z6 s6 f6 => ?_)
        refine i_call <| i_cons <| v0 <| i_cons <| i_c <| i_nil <| ⟨_, _, rfl, (same_src s6 g1), (by first | assumption | omega | rfl | exact Sz.zero | exact Sz.sm (by omega) (by omega) (by decide) | exact Sz.mono (by assumption) (by decide)), (by first | assumption | omega | rfl | exact Sz.zero | exact Sz.sm (by omega) (by omega) (by decide) | exact Sz.mono (by assumption) (by decide)), fun q H7 s7 g7 hq0 hq1 => ?_⟩
        refine i_ixL (SqL.of (s7 _ _ (by intro z; exact z) f6)) (at_getD (xs := [10, 16, 2, 3, 36]) hq0 hq1) <| ?_
        exact k _ _ (s1.trans ((ext_of s6).trans s7)) g7 (by exact (five_ok hq0 hq1).1) (by exact (five_ok hq0 hq1).2)

/-! _law_precision -/
def sp__law_precision (K : PySem.W.Frag) : Sp := fun vs H Q _ => ∃ (sourceA : Addr) (most : Int), vs = [V.ref sourceA, V.int most] ∧ IsSrc H sourceA ∧ (10 ≤ most) ∧ (most ≤ 1000) ∧ ∀ (r : Int) (H' : Hp), Ext H H' → IsSrc H' sourceA → (3 ≤ r) → (r ≤ most) → Q (V.int r) H'
abbrev s__law_precision : Stmt := top 24
theorem sc__law_precision : FnScope ["source", "most"] ["source", "most"] (defScope s__law_precision) := ⟨rfl, rfl, rfl, by decide +kernel, rfl, by decide +kernel, by decide +kernel⟩
theorem vis__law_precision : visB ["source", "most"] (defScope s__law_precision) = true := by decide +kernel
theorem gl__law_precision : glB ["_law_draw"] (defScope s__law_precision) = true := by decide +kernel
theorem ok__law_precision {P : Program} {w : World} {K : PySem.W.Frag} {mg : Str → Option Value} {base : Heap} (T : Txt w K mg) : OkD P w K mg base 2 (He.fAd K ("_law_precision", none)) ["source", "most"] [] (sp__law_precision K) := by
  obtain ⟨fd, F⟩ := T.d__law_precision
  refine ⟨fd, [], F.kp, F.bindsN (fun _ _ _ _ _ _ us hl => match us, hl with | [_, _], _ => rfl), .nil, ?_⟩
  have sc := sc__law_precision; have vis := vis__law_precision; have gls := gl__law_precision
  refine F.ok sc (fun vs H Q E h => ?_) (fun cdv A outer s H0 vs Q E hr h => ?_)
  · obtain ⟨sourceA, most, rfl, _⟩ := h; rfl
  · obtain ⟨sourceA, most, rfl, a0, e0, e1, k⟩ := h
    refine ⟨_, PSs.nox (pss_cons (ps_if (pt_cmpR op_lt (pcD (ok__law_draw T) (hr.mono (by decide)) gls 0 T.g__law_draw (pa_cons (pn vis 0) (pa_cons pe_int pa_nil))) pe_int (nomark _)) (pss_one (ps_ret (pe_op op_add pe_int (pcD (ok__law_draw T) (hr.mono (by decide)) gls 0 T.g__law_draw (pa_cons (pn vis 0) (pa_cons pe_int pa_nil)))))) pss_nil) (pss_one (ps_ret (pe_op op_add pe_int (pcD (ok__law_draw T) (hr.mono (by decide)) gls 0 T.g__law_draw (pa_cons (pn vis 0) (pa_cons (pe_op op_sub (pn vis 1) pe_int) pa_nil))))))), ?_⟩
    refine i_start (σ' := [some (V.ref sourceA), some (V.int most)]) rfl ?_
    refine i_seq <| i_if <| i_test <| i_op <| i_call <| i_cons <| v0 <| i_cons <| i_c <| i_nil <| ⟨_, _, rfl, a0, (by first | assumption | omega | rfl | exact Sz.zero | exact Sz.sm (by omega) (by omega) (by decide) | exact Sz.mono (by assumption) (by decide)), (by first | assumption | omega | rfl | exact Sz.zero | exact Sz.sm (by omega) (by omega) (by decide) | exact Sz.mono (by assumption) (by decide)), fun r1 H2 s2 g2 hr10 hr11 => ?_⟩
    refine i_c <| i_I0 <| i_bl <| i_ite (fun c1 => ?_) (fun c1 => ?_)
    ·
      refine i_ret <| i_op <| i_c <| i_call <| i_cons <| v0 <| i_cons <| i_c <| i_nil <| ⟨_, _, rfl, g2, (by first | assumption | omega | rfl | exact Sz.zero | exact Sz.sm (by omega) (by omega) (by decide) | exact Sz.mono (by assumption) (by decide)), (by first | assumption | omega | rfl | exact Sz.zero | exact Sz.sm (by omega) (by omega) (by decide) | exact Sz.mono (by assumption) (by decide)), fun r3 H4 s4 g4 hr30 hr31 => ?_⟩
      refine i_I0 <| ?_
      exact k _ _ (s2.trans s4) g4 (by first | rfl | assumption | omega) (by first | rfl | assumption | omega)
    ·
      refine i_next <| i_nx <| i_ret <| i_op <| i_c <| i_call <| i_cons <| v0 <| i_cons <| i_op <| v1 <| i_c <| i_I0 <| i_nil <| ⟨_, _, rfl, g2, (by first | assumption | omega | rfl | exact Sz.zero | exact Sz.sm (by omega) (by omega) (by decide) | exact Sz.mono (by assumption) (by decide)), (by first | assumption | omega | rfl | exact Sz.zero | exact Sz.sm (by omega) (by omega) (by decide) | exact Sz.mono (by assumption) (by decide)), fun r5 H6 s6 g6 hr50 hr51 => ?_⟩
      refine i_I0 <| ?_
      exact k _ _ (s2.trans s6) g6 (by first | rfl | assumption | omega) (by first | rfl | assumption | omega)

/-! _law_full -/
def sp__law_full (K : PySem.W.Frag) : Sp := fun vs H Q _ => ∃ (sourceA : Addr) (base : Int) (precision : Int), vs = [V.ref sourceA, V.int base, V.int precision] ∧ IsSrc H sourceA ∧ (2 ≤ base) ∧ (base ≤ 36) ∧ (3 ≤ precision) ∧ (precision ≤ 42) ∧ ∀ (r : Int) (H' : Hp), Ext H H' → IsSrc H' sourceA → (Sz 300 r) → Q (V.int r) H'
abbrev s__law_full : Stmt := top 28
theorem sc__law_full : FnScope ["source", "base", "precision", "least", "kind", "result", "k"] ["source", "base", "precision"] (defScope s__law_full) := ⟨rfl, rfl, rfl, by decide +kernel, rfl, by decide +kernel, by decide +kernel⟩
theorem vis__law_full : visB ["source", "base", "precision", "least", "kind", "result", "k"] (defScope s__law_full) = true := by decide +kernel
theorem gl__law_full : glB ["_law_power", "_law_draw", "range"] (defScope s__law_full) = true := by decide +kernel
theorem ok__law_full {P : Program} {w : World} {K : PySem.W.Frag} {mg : Str → Option Value} {base : Heap} (T : Txt w K mg) : OkD P w K mg base 2 (He.fAd K ("_law_full", none)) ["source", "base", "precision"] [] (sp__law_full K) := by
  obtain ⟨fd, F⟩ := T.d__law_full
  refine ⟨fd, [], F.kp, F.bindsN (fun _ _ _ _ _ _ us hl => match us, hl with | [_, _, _], _ => rfl), .nil, ?_⟩
  have sc := sc__law_full; have vis := vis__law_full; have gls := gl__law_full
  refine F.ok sc (fun vs H Q E h => ?_) (fun cdv A outer s H0 vs Q E hr h => ?_)
  · obtain ⟨sourceA, base, precision, rfl, _⟩ := h; rfl
  · obtain ⟨sourceA, base, precision, rfl, a0, e0, e1, e2, e3, k⟩ := h
    refine ⟨_, PSs.nox (pss_cons (ps_set (i := 3) sc.nd rfl (.inl rfl) (pcD (ok__law_power T) (hr.mono (by decide)) gls 0 T.g__law_power (pa_cons (pn vis 1) (pa_cons (pe_op op_sub (pn vis 2) pe_int) pa_nil)))) (pss_cons (ps_set (i := 4) sc.nd rfl (.inl rfl) (pcD (ok__law_draw T) (hr.mono (by decide)) gls 1 T.g__law_draw (pa_cons (pn vis 0) (pa_cons pe_int pa_nil)))) (pss_cons (ps_if (pt_cmpR op_eqI (pn vis 4) pe_int (nomark _)) (pss_one (ps_ret (pe_op op_sub (pe_op op_mulX (pn vis 3) (pn vis 1)) pe_int))) pss_nil) (pss_cons (ps_if (pt_cmpR op_eqI (pn vis 4) pe_int (nomark _)) (pss_one (ps_ret (pn vis 3))) pss_nil) (pss_cons (ps_if (pt_cmpR op_eqI (pn vis 4) pe_int (nomark _)) (pss_one (ps_ret (pe_op op_add (pn vis 3) pe_int))) pss_nil) (pss_cons (ps_if (pt_cmpR op_eqI (pn vis 4) pe_int (nomark _)) (pss_one (ps_ret (pe_op op_sub (pe_op op_sub (pe_op op_mulX (pn vis 3) (pn vis 1)) pe_int) (pcD (ok__law_draw T) (hr.mono (by decide)) gls 1 T.g__law_draw (pa_cons (pn vis 0) (pa_cons (pn vis 1) pa_nil)))))) pss_nil) (pss_cons (ps_if (pt_cmpR op_eqI (pn vis 4) pe_int (nomark _)) (pss_one (ps_ret (pe_op op_sub (pe_op op_sub (pe_op op_mulX (pn vis 3) (pn vis 1)) pe_int) (pcD (ok__law_power T) (hr.mono (by decide)) gls 0 T.g__law_power (pa_cons (pn vis 1) (pa_cons (pcD (ok__law_draw T) (hr.mono (by decide)) gls 1 T.g__law_draw (pa_cons (pn vis 0) (pa_cons (pe_op op_sub (pn vis 2) pe_int) pa_nil))) pa_nil)))))) pss_nil) (pss_cons (ps_set (i := 5) sc.nd rfl (.inl rfl) (pe_op op_add pe_int (pcD (ok__law_draw T) (hr.mono (by decide)) gls 1 T.g__law_draw (pa_cons (pn vis 0) (pa_cons (pe_op op_sub (pn vis 1) pe_int) pa_nil))))) (pss_cons (ps_for PassesOwn.never rfl (pi_range1 (gl_of gls (i := 2) rfl).1 T.b_range (pa_cons (pe_op op_sub (pn vis 2) pe_int) pa_nil)) (pg_name (i := 6) sc.nd rfl (.inl rfl)) (pss_one (ps_set (i := 5) sc.nd rfl (.inl rfl) (pe_op op_add (pe_op op_mulX (pn vis 5) (pn vis 1)) (pcD (ok__law_draw T) (hr.mono (by decide)) gls 1 T.g__law_draw (pa_cons (pn vis 0) (pa_cons (pn vis 1) pa_nil))))))) (pss_one (ps_ret (pn vis 5)))))))))))), ?_⟩
    refine i_start (σ' := [some (V.ref sourceA), some (V.int base), some (V.int precision), none, none, none, none]) rfl ?_
    refine i_seq <| i_asg <| i_call <| i_cons <| v1 <| i_cons <| i_op <| v2 <| i_c <| i_I0 <| i_nil <| ⟨_, _, rfl, (by first | assumption | omega | rfl | exact Sz.zero | exact Sz.sm (by omega) (by omega) (by decide) | exact Sz.mono (by assumption) (by decide)), (by first | assumption | omega | rfl | exact Sz.zero | exact Sz.sm (by omega) (by omega) (by decide) | exact Sz.mono (by assumption) (by decide)), (by unfold Sz; omega), fun least H1 s1 hleast => ?_⟩
    refine n3 <| i_nx <| i_seq <| ?_
    have hb : Sz 6 base := by unfold Sz; omega
    have hl : Sz 247 least := by rw [hleast]; exact (Sz.pow36 e0 e1 _).mono (by omega)
    refine i_asg <| i_call <| i_cons <| v0 <| i_cons <| i_c <| i_nil <| ⟨_, _, rfl, (same_src s1 a0), (by first | assumption | omega | rfl | exact Sz.zero | exact Sz.sm (by omega) (by omega) (by decide) | exact Sz.mono (by assumption) (by decide)), (by first | assumption | omega | rfl | exact Sz.zero | exact Sz.sm (by omega) (by omega) (by decide) | exact Sz.mono (by assumption) (by decide)), fun kind H2 s2 g2 hkind0 hkind1 => ?_⟩
    refine n4 <| i_nx <| i_seq <| i_if <| i_test <| i_op <| v4 <| i_c <| i_I0 <| i_bl <| i_ite (fun c3 => ?_) (fun c3 => ?_)
    ·
      refine i_ret <| i_op <| i_op <| v3 <| v1 <| i_I (by exact mulx hl hb) <| i_c <| i_I0 <| ?_
      exact k _ _ ((ext_of s1).trans s2) g2 (by exact (Sz.sub (a := 253) (hl.mul hb) (Sz.sm (by omega) (by omega) (by decide))).mono (by decide))
    ·
      refine i_next <| i_nx <| i_seq <| i_if <| i_test <| i_op <| v4 <| i_c <| i_I0 <| i_bl <| i_ite (fun c5 => ?_) (fun c5 => ?_)
      ·
        refine i_ret <| v3 <| ?_
        exact k _ _ ((ext_of s1).trans s2) g2 (by exact hl.mono (by decide))
      ·
        refine i_next <| i_nx <| i_seq <| i_if <| i_test <| i_op <| v4 <| i_c <| i_I0 <| i_bl <| i_ite (fun c7 => ?_) (fun c7 => ?_)
        ·
          refine i_ret <| i_op <| v3 <| i_c <| i_I0 <| ?_
          exact k _ _ ((ext_of s1).trans s2) g2 (by exact (Sz.add hl (Sz.sm (by omega) (by omega) (by decide))).mono (by decide))
        ·
          refine i_next <| i_nx <| i_seq <| i_if <| i_test <| i_op <| v4 <| i_c <| i_I0 <| i_bl <| i_ite (fun c9 => ?_) (fun c9 => ?_)
          ·
            refine i_ret <| i_op <| i_op <| i_op <| v3 <| v1 <| i_I (by exact mulx hl hb) <| i_c <| i_I0 <| i_call <| i_cons <| v0 <| i_cons <| v1 <| i_nil <| ⟨_, _, rfl, g2, (by first | assumption | omega | rfl | exact Sz.zero | exact Sz.sm (by omega) (by omega) (by decide) | exact Sz.mono (by assumption) (by decide)), (by first | assumption | omega | rfl | exact Sz.zero | exact Sz.sm (by omega) (by omega) (by decide) | exact Sz.mono (by assumption) (by decide)), fun d H3 s3 g3 hd0 hd1 => ?_⟩
            refine i_I0 <| ?_
            exact k _ _ ((ext_of s1).trans (s2.trans s3)) g3 (by exact (Sz.sub (a := 254) (Sz.sub (a := 253) (hl.mul hb) (Sz.sm (by omega) (by omega) (by decide))) (Sz.sm (by omega) (by omega) (by decide))).mono (by decide))
          ·
            refine i_next <| i_nx <| i_seq <| i_if <| i_test <| i_op <| v4 <| i_c <| i_I0 <| i_bl <| i_ite (fun c11 => ?_) (fun c11 => ?_)
            ·
              refine i_ret <| i_op <| i_op <| i_op <| v3 <| v1 <| i_I (by exact mulx hl hb) <| i_c <| i_I0 <| i_call <| i_cons <| v1 <| i_cons <| i_call <| i_cons <| v0 <| i_cons <| i_op <| v2 <| i_c <| i_I0 <| i_nil <| ⟨_, _, rfl, g2, (by first | assumption | omega | rfl | exact Sz.zero | exact Sz.sm (by omega) (by omega) (by decide) | exact Sz.mono (by assumption) (by decide)), (by first | assumption | omega | rfl | exact Sz.zero | exact Sz.sm (by omega) (by omega) (by decide) | exact Sz.mono (by assumption) (by decide)), fun dd H4 s4 g4 hdd0 hdd1 => ?_⟩
              refine i_nil <| ⟨_, _, rfl, (by first | assumption | omega | rfl | exact Sz.zero | exact Sz.sm (by omega) (by omega) (by decide) | exact Sz.mono (by assumption) (by decide)), (by first | assumption | omega | rfl | exact Sz.zero | exact Sz.sm (by omega) (by omega) (by decide) | exact Sz.mono (by assumption) (by decide)), (by exact hb), fun pw H5 s5 hpw => ?_⟩
              refine i_I0 <| ?_
              exact k _ _ ((ext_of s1).trans (s2.trans (s4.trans (ext_of s5)))) (same_src s5 g4) (by exact (Sz.sub (a := 254) (Sz.sub (a := 253) (hl.mul hb) (Sz.sm (by omega) (by omega) (by decide))) (by rw [hpw]; exact (Sz.pow36 e0 e1 _).mono (by omega))).mono (by decide))
            ·
              refine i_next <| i_nx <| i_seq <| i_asg <| i_op <| i_c <| i_call <| i_cons <| v0 <| i_cons <| i_op <| v1 <| i_c <| i_I0 <| i_nil <| ⟨_, _, rfl, g2, (by first | assumption | omega | rfl | exact Sz.zero | exact Sz.sm (by omega) (by omega) (by decide) | exact Sz.mono (by assumption) (by decide)), (by first | assumption | omega | rfl | exact Sz.zero | exact Sz.sm (by omega) (by omega) (by decide) | exact Sz.mono (by assumption) (by decide)), fun result H6 s6 g6 hresult0 hresult1 => ?_⟩
              refine i_I0 <| n5 <| i_nx <| i_seq <| i_for <| i_for1 <| i_cons <| i_op <| v2 <| i_c <| i_I0 <| i_nil <| i_rng1 (fun i σ H' => ∃ (x : Int) (o_k : Option V), σ = [some (V.ref sourceA), some (V.int base), some (V.int precision), some (V.int least), some (V.int kind), some (V.int x), o_k] ∧ Ext H6 H' ∧ IsSrc H' sourceA ∧ (Sz (7 * (i + 1)) x)) (by omega) (by omega) ?_ ?_ ?_
              ·
                exact ⟨_, _, rfl, (Ext.refl _), g6, (by unfold Sz; omega)⟩
              ·
                intro i
                rintro σ H7 hi ⟨x, o_k, rfl, s7, g7, i0⟩
                refine n6 <| i_asg <| i_op <| i_op <| v5 <| v1 <| i_I (by exact mulx (i0.mono (by omega : 7 * (i + 1) ≤ 400)) hb) <| i_call <| i_cons <| v0 <| i_cons <| v1 <| i_nil <| ⟨_, _, rfl, g7, (by first | assumption | omega | rfl | exact Sz.zero | exact Sz.sm (by omega) (by omega) (by decide) | exact Sz.mono (by assumption) (by decide)), (by first | assumption | omega | rfl | exact Sz.zero | exact Sz.sm (by omega) (by omega) (by decide) | exact Sz.mono (by assumption) (by decide)), fun d6 H8 s8 g8 hd60 hd61 => ?_⟩
                refine i_I0 <| n5 <| ?_
                exact ⟨_, _, rfl, (s7.trans s8), g8, (by exact (Sz.add (a := 7 * (i + 1) + 6) (i0.mul hb) (Sz.mono (n := 6) (by unfold Sz; omega) (by omega))).mono (by omega))⟩
              ·
                rintro σ H9 ⟨x, o_k, rfl, s9, g9, i0⟩
                refine i_nx <| i_ret <| v5 <| ?_
                exact k _ _ ((ext_of s1).trans (s2.trans (s6.trans s9))) g9 (by exact i0.mono (by omega))

/-! _law_small -/
def sp__law_small (K : PySem.W.Frag) : Sp := fun vs H Q _ => ∃ (sourceA : Addr), vs = [V.ref sourceA] ∧ IsSrc H sourceA ∧ ∀ (r : Int) (H' : Hp), Ext H H' → IsSrc H' sourceA → (-20 ≤ r) → (r ≤ 20) → Q (V.int r) H'
abbrev s__law_small : Stmt := top 29
theorem sc__law_small : FnScope ["source", "size"] ["source"] (defScope s__law_small) := ⟨rfl, rfl, rfl, by decide +kernel, rfl, by decide +kernel, by decide +kernel⟩
theorem vis__law_small : visB ["source", "size"] (defScope s__law_small) = true := by decide +kernel
theorem gl__law_small : glB ["_law_draw"] (defScope s__law_small) = true := by decide +kernel
theorem ok__law_small {P : Program} {w : World} {K : PySem.W.Frag} {mg : Str → Option Value} {base : Heap} (T : Txt w K mg) : OkD P w K mg base 2 (He.fAd K ("_law_small", none)) ["source"] [] (sp__law_small K) := by
  obtain ⟨fd, F⟩ := T.d__law_small
  refine ⟨fd, [], F.kp, F.bindsN (fun _ _ _ _ _ _ us hl => match us, hl with | [_], _ => rfl), .nil, ?_⟩
  have sc := sc__law_small; have vis := vis__law_small; have gls := gl__law_small
  refine F.ok sc (fun vs H Q E h => ?_) (fun cdv A outer s H0 vs Q E hr h => ?_)
  · obtain ⟨sourceA, rfl, _⟩ := h; rfl
  · obtain ⟨sourceA, rfl, a0, k⟩ := h
    refine ⟨_, PSs.nox (pss_cons (ps_set (i := 1) sc.nd rfl (.inl rfl) (pcD (ok__law_draw T) (hr.mono (by decide)) gls 0 T.g__law_draw (pa_cons (pn vis 0) (pa_cons pe_int pa_nil)))) (pss_cons (ps_if (pt_cmpR op_gt (pn vis 1) pe_int (nomark _)) (pss_one (ps_ret (pe_op op_sub pe_int (pn vis 1)))) pss_nil) (pss_one (ps_ret (pn vis 1))))), ?_⟩
    refine i_start (σ' := [some (V.ref sourceA), none]) rfl ?_
    refine i_seq <| i_asg <| i_call <| i_cons <| v0 <| i_cons <| i_c <| i_nil <| ⟨_, _, rfl, a0, (by first | assumption | omega | rfl | exact Sz.zero | exact Sz.sm (by omega) (by omega) (by decide) | exact Sz.mono (by assumption) (by decide)), (by first | assumption | omega | rfl | exact Sz.zero | exact Sz.sm (by omega) (by omega) (by decide) | exact Sz.mono (by assumption) (by decide)), fun size H1 s1 g1 hsize0 hsize1 => ?_⟩
    refine n1 <| i_nx <| i_seq <| i_if <| i_test <| i_op <| v1 <| i_c <| i_I0 <| i_bl <| i_ite (fun c2 => ?_) (fun c2 => ?_)
    ·
      refine i_ret <| i_op <| i_c <| v1 <| i_I0 <| ?_
      exact k _ _ s1 g1 (by first | rfl | assumption | omega) (by first | rfl | assumption | omega)
    ·
      refine i_next <| i_nx <| i_ret <| v1 <| ?_
      exact k _ _ s1 g1 (by first | rfl | assumption | omega) (by first | rfl | assumption | omega)

/-! _law_value -/
def sp__law_value (K : PySem.W.Frag) : Sp := fun vs H Q _ => ∃ (sourceA : Addr) (base : Int) (precision : Int), vs = [V.ref sourceA, V.int base, V.int precision] ∧ IsSrc H sourceA ∧ (2 ≤ base) ∧ (base ≤ 36) ∧ (3 ≤ precision) ∧ (precision ≤ 42) ∧ ∀ (rA : Addr) (r0 : Int) (r1 : Int) (H' : Hp), Ext H H' → IsSrc H' sourceA → H' rA = some (.tup [V.int r0, V.int r1]) → (Gd 20 700 base r0 r1) → Q (V.ref rA) H'
abbrev s__law_value : Stmt := top 30
theorem sc__law_value : FnScope ["source", "base", "precision", "sign", "digits", "exponent"] ["source", "base", "precision"] (defScope s__law_value) := ⟨rfl, rfl, rfl, by decide +kernel, rfl, by decide +kernel, by decide +kernel⟩
theorem vis__law_value : visB ["source", "base", "precision", "sign", "digits", "exponent"] (defScope s__law_value) = true := by decide +kernel
theorem gl__law_value : glB ["_law_draw", "_law_small", "_law_lowest", "_law_full"] (defScope s__law_value) = true := by decide +kernel
theorem ok__law_value {P : Program} {w : World} {K : PySem.W.Frag} {mg : Str → Option Value} {base : Heap} (T : Txt w K mg) : OkD P w K mg base 3 (He.fAd K ("_law_value", none)) ["source", "base", "precision"] [] (sp__law_value K) := by
  obtain ⟨fd, F⟩ := T.d__law_value
  refine ⟨fd, [], F.kp, F.bindsN (fun _ _ _ _ _ _ us hl => match us, hl with | [_, _, _], _ => rfl), .nil, ?_⟩
  have sc := sc__law_value; have vis := vis__law_value; have gls := gl__law_value
  refine F.ok sc (fun vs H Q E h => ?_) (fun cdv A outer s H0 vs Q E hr h => ?_)
  · obtain ⟨sourceA, base, precision, rfl, _⟩ := h; rfl
  · obtain ⟨sourceA, base, precision, rfl, a0, e0, e1, e2, e3, k⟩ := h
    refine ⟨_, PSs.nox (pss_cons (ps_if (pt_cmpR op_eqI (pcD (ok__law_draw T) (hr.mono (by decide)) gls 0 T.g__law_draw (pa_cons (pn vis 0) (pa_cons pe_int pa_nil))) pe_int (nomark _)) (pss_one (ps_ret (pe_tup (pa_cons pe_int (pa_cons pe_int pa_nil))))) pss_nil) (pss_cons (ps_set (i := 3) sc.nd rfl (.inl rfl) (pe_op op_sub pe_int (pe_op op_mul pe_int (pcD (ok__law_draw T) (hr.mono (by decide)) gls 0 T.g__law_draw (pa_cons (pn vis 0) (pa_cons pe_int pa_nil)))))) (pss_cons (ps_set (i := 4) sc.nd rfl (.inl rfl) (pn vis 2)) (C8.pss_cut (ps_if (pt_cmpR op_gt (pcD (ok__law_draw T) (hr.mono (by decide)) gls 0 T.g__law_draw (pa_cons (pn vis 0) (pa_cons pe_int pa_nil))) pe_int (nomark _)) (pss_one (ps_set (i := 4) sc.nd rfl (.inl rfl) (pe_op op_add pe_int (pcD (ok__law_draw T) (hr.mono (by decide)) gls 0 T.g__law_draw (pa_cons (pn vis 0) (pa_cons (pn vis 2) pa_nil)))))) pss_nil) (pss_cons (ps_set (i := 5) sc.nd rfl (.inl rfl) (pcD (ok__law_small T) (hr.mono (by decide)) gls 1 T.g__law_small (pa_cons (pn vis 0) pa_nil))) (pss_cons (ps_if (pt_cmpR op_lt (pn vis 4) pe_int (nomark _)) (pss_one (ps_ret (pcD (ok__law_lowest T) (hr.mono (by decide)) gls 2 T.g__law_lowest (pa_cons (pn vis 1) (pa_cons (pe_op op_mulX (pn vis 3) (pe_op op_add pe_int (pcD (ok__law_draw T) (hr.mono (by decide)) gls 0 T.g__law_draw (pa_cons (pn vis 0) (pa_cons (pe_op op_sub (pn vis 1) pe_int) pa_nil))))) (pa_cons (pn vis 5) pa_nil)))))) pss_nil) (pss_one (ps_ret (pcD (ok__law_lowest T) (hr.mono (by decide)) gls 2 T.g__law_lowest (pa_cons (pn vis 1) (pa_cons (pe_op op_mulX (pn vis 3) (pcD (ok__law_full T) (hr.mono (by decide)) gls 3 T.g__law_full (pa_cons (pn vis 0) (pa_cons (pn vis 1) (pa_cons (pn vis 4) pa_nil))))) (pa_cons (pn vis 5) pa_nil)))))))))))), ?_⟩
    refine i_start (σ' := [some (V.ref sourceA), some (V.int base), some (V.int precision), none, none, none]) rfl ?_
    refine i_seq <| i_if <| i_test <| i_op <| i_call <| i_cons <| v0 <| i_cons <| i_c <| i_nil <| ⟨_, _, rfl, a0, (by first | assumption | omega | rfl | exact Sz.zero | exact Sz.sm (by omega) (by omega) (by decide) | exact Sz.mono (by assumption) (by decide)), (by first | assumption | omega | rfl | exact Sz.zero | exact Sz.sm (by omega) (by omega) (by decide) | exact Sz.mono (by assumption) (by decide)), fun r1 H2 s2 g2 hr10 hr11 => ?_⟩
    refine i_c <| i_I0 <| i_bl <| i_ite (fun c1 => ?_) (fun c1 => ?_)
    ·
      refine i_ret <| i_tup <| i_cons <| i_c <| i_cons <| i_c <| i_nil <| i_kTup (of_decide_eq_true rfl) (fun p3 H3 z3 s3 f3 => ?_)
      exact k _ _ _ _ (s2.trans (ext_of s3)) (same_src s3 g2) f3 (by exact Gd.zero e0 e1)
    ·
      refine i_next <| i_nx <| i_seq <| i_asg <| i_op <| i_c <| i_op <| i_c <| i_call <| i_cons <| v0 <| i_cons <| i_c <| i_nil <| ⟨_, _, rfl, g2, (by first | assumption | omega | rfl | exact Sz.zero | exact Sz.sm (by omega) (by omega) (by decide) | exact Sz.mono (by assumption) (by decide)), (by first | assumption | omega | rfl | exact Sz.zero | exact Sz.sm (by omega) (by omega) (by decide) | exact Sz.mono (by assumption) (by decide)), fun sign H4 s4 g4 hsign0 hsign1 => ?_⟩
      refine i_I (by first | exact .inl ⟨by decide, by decide⟩ | exact .inr ⟨by decide, by decide⟩) <| i_I0 <| nI3 (fun sign' hsign' => ?_)
      refine i_nx <| i_seq <| i_asg <| v2 <| n4 <| i_nx <| ?_
      refine i_cut (fun σ H' => ∃ (dg : Int), σ = [some (V.ref sourceA), some (V.int base), some (V.int precision), some (V.int sign'), some (V.int dg), none] ∧ Ext H4 H' ∧ IsSrc H' sourceA ∧ (1 ≤ dg) ∧ (dg ≤ precision)) ?_ ?_
      ·
        refine i_if <| i_test <| i_op <| i_call <| i_cons <| v0 <| i_cons <| i_c <| i_nil <| ⟨_, _, rfl, g4, (by first | assumption | omega | rfl | exact Sz.zero | exact Sz.sm (by omega) (by omega) (by decide) | exact Sz.mono (by assumption) (by decide)), (by first | assumption | omega | rfl | exact Sz.zero | exact Sz.sm (by omega) (by omega) (by decide) | exact Sz.mono (by assumption) (by decide)), fun r5 H6 s6 g6 hr50 hr51 => ?_⟩
        refine i_c <| i_I0 <| i_bl <| i_ite (fun c5 => ?_) (fun c5 => ?_)
        ·
          refine i_asg <| i_op <| i_c <| i_call <| i_cons <| v0 <| i_cons <| v2 <| i_nil <| ⟨_, _, rfl, g6, (by first | assumption | omega | rfl | exact Sz.zero | exact Sz.sm (by omega) (by omega) (by decide) | exact Sz.mono (by assumption) (by decide)), (by first | assumption | omega | rfl | exact Sz.zero | exact Sz.sm (by omega) (by omega) (by decide) | exact Sz.mono (by assumption) (by decide)), fun digits H7 s7 g7 hdigits0 hdigits1 => ?_⟩
          refine i_I0 <| n4 <| ?_
          exact ⟨_, rfl, (s6.trans s7), g7, (by first | rfl | assumption | omega), (by first | rfl | assumption | omega)⟩
        ·
          refine i_next <| ?_
          exact ⟨_, rfl, s6, g6, (by first | rfl | assumption | omega), (by first | rfl | assumption | omega)⟩
      ·
        rintro σ H8 ⟨dg, rfl, s8, g8, j0, j1⟩
        refine i_seq <| i_asg <| i_call <| i_cons <| v0 <| i_nil <| ⟨_, rfl, g8, fun exponent H9 s9 g9 hexponent0 hexponent1 => ?_⟩
        refine n5 <| i_nx <| i_seq <| i_if <| i_test <| i_op <| v4 <| i_c <| i_I0 <| i_bl <| i_ite (fun c8 => ?_) (fun c8 => ?_)
        ·
          refine i_ret <| i_call <| i_cons <| v1 <| i_cons <| i_op <| v3 <| i_op <| i_c <| i_call <| i_cons <| v0 <| i_cons <| i_op <| v1 <| i_c <| i_I0 <| i_nil <| ⟨_, _, rfl, g9, (by first | assumption | omega | rfl | exact Sz.zero | exact Sz.sm (by omega) (by omega) (by decide) | exact Sz.mono (by assumption) (by decide)), (by first | assumption | omega | rfl | exact Sz.zero | exact Sz.sm (by omega) (by omega) (by decide) | exact Sz.mono (by assumption) (by decide)), fun r10 H11 s11 g11 hr100 hr101 => ?_⟩
          refine i_I0 <| i_I (by exact mulx (a := 10) (b := 10) (Sz.sm (by omega) (by omega) (by decide)) (Sz.sm (by omega) (by omega) (by decide))) <| i_cons <| v5 <| i_nil <| ⟨_, _, _, rfl, (by first | assumption | omega | rfl | exact Sz.zero | exact Sz.sm (by omega) (by omega) (by decide) | exact Sz.mono (by assumption) (by decide)), (by first | assumption | omega | rfl | exact Sz.zero | exact Sz.sm (by omega) (by omega) (by decide) | exact Sz.mono (by assumption) (by decide)), fun r12A r120 r121 H13 s13 f13_0 hr12 => ?_⟩
          exact k _ _ _ _ (s2.trans (s4.trans (s8.trans (s9.trans (s11.trans (ext_of s13)))))) (same_src s13 g11) f13_0 (by exact (gd_of 40 (by assumption) e0 e1 (n := 320) (Sz.mul (a := 10) (b := 310) (Sz.sm (by omega) (by omega) (by decide)) (by first | exact Sz.sm (by omega) (by omega) (by decide) | exact Sz.mono (by assumption) (by decide))) (by omega) (by omega)).mono (by decide))
        ·
          refine i_next <| i_nx <| i_ret <| i_call <| i_cons <| v1 <| i_cons <| i_op <| v3 <| i_call <| i_cons <| v0 <| i_cons <| v1 <| i_cons <| v4 <| i_nil <| ⟨_, _, _, rfl, g9, (by first | assumption | omega | rfl | exact Sz.zero | exact Sz.sm (by omega) (by omega) (by decide) | exact Sz.mono (by assumption) (by decide)), (by first | assumption | omega | rfl | exact Sz.zero | exact Sz.sm (by omega) (by omega) (by decide) | exact Sz.mono (by assumption) (by decide)), (by first | assumption | omega | rfl | exact Sz.zero | exact Sz.sm (by omega) (by omega) (by decide) | exact Sz.mono (by assumption) (by decide)), (by first | assumption | omega | rfl | exact Sz.zero | exact Sz.sm (by omega) (by omega) (by decide) | exact Sz.mono (by assumption) (by decide)), fun r14 H15 s15 g15 hr14 => ?_⟩
          refine i_I (by exact mulx (a := 10) (b := 300) (Sz.sm (by omega) (by omega) (by decide)) (by assumption)) <| i_cons <| v5 <| i_nil <| ⟨_, _, _, rfl, (by first | assumption | omega | rfl | exact Sz.zero | exact Sz.sm (by omega) (by omega) (by decide) | exact Sz.mono (by assumption) (by decide)), (by first | assumption | omega | rfl | exact Sz.zero | exact Sz.sm (by omega) (by omega) (by decide) | exact Sz.mono (by assumption) (by decide)), fun r16A r160 r161 H17 s17 f17_0 hr16 => ?_⟩
          exact k _ _ _ _ (s2.trans (s4.trans (s8.trans (s9.trans (s15.trans (ext_of s17)))))) (same_src s17 g15) f17_0 (by exact (gd_of 40 (by assumption) e0 e1 (n := 320) (Sz.mul (a := 10) (b := 310) (Sz.sm (by omega) (by omega) (by decide)) (by first | exact Sz.sm (by omega) (by omega) (by decide) | exact Sz.mono (by assumption) (by decide))) (by omega) (by omega)).mono (by decide))

/-! _law_sum -/
def sp__law_sum (K : PySem.W.Frag) : Sp := fun vs H Q _ => ∃ (base : Int) (xA : Addr) (x0 : Int) (x1 : Int) (yA : Addr) (y0 : Int) (y1 : Int) (sign : Int), vs = [V.int base, V.ref xA, V.ref yA, V.int sign] ∧ H xA = some (.tup [V.int x0, V.int x1]) ∧ H yA = some (.tup [V.int y0, V.int y1]) ∧ (2 ≤ base) ∧ (base ≤ 36) ∧ (Sz 9000 x0) ∧ (Sz 9000 y0) ∧ (-9000 ≤ x1 ∧ x1 ≤ 9000) ∧ (-9000 ≤ y1 ∧ y1 ≤ 9000) ∧ (sign = 1 ∨ sign = -1) ∧ ∀ (rA : Addr) (r0 : Int) (r1 : Int) (H' : Hp), Same H H' → H' rA = some (.tup [V.int r0, V.int r1]) → ((⟨base, r0, r1⟩ : EN) = addE sign ⟨base, x0, x1⟩ ⟨base, y0, y1⟩) → Q (V.ref rA) H'
abbrev s__law_sum : Stmt := top 27
theorem sc__law_sum : FnScope ["base", "x", "y", "sign", "low", "first", "second"] ["base", "x", "y", "sign"] (defScope s__law_sum) := ⟨rfl, rfl, rfl, by decide +kernel, rfl, by decide +kernel, by decide +kernel⟩
theorem vis__law_sum : visB ["base", "x", "y", "sign", "low", "first", "second"] (defScope s__law_sum) = true := by decide +kernel
theorem gl__law_sum : glB ["int", "min", "_law_power", "_law_lowest"] (defScope s__law_sum) = true := by decide +kernel
theorem ok__law_sum {P : Program} {w : World} {K : PySem.W.Frag} {mg : Str → Option Value} {base : Heap} (T : Txt w K mg) : OkD P w K mg base 3 (He.fAd K ("_law_sum", none)) ["base", "x", "y", "sign"] [] (sp__law_sum K) := by
  obtain ⟨fd, F⟩ := T.d__law_sum
  refine ⟨fd, [], F.kp, F.bindsN (fun _ _ _ _ _ _ us hl => match us, hl with | [_, _, _, _], _ => rfl), .nil, ?_⟩
  have sc := sc__law_sum; have vis := vis__law_sum; have gls := gl__law_sum
  refine F.ok sc (fun vs H Q E h => ?_) (fun cdv A outer s H0 vs Q E hr h => ?_)
  · obtain ⟨base, xA, x0, x1, yA, y0, y1, sign, rfl, _⟩ := h; rfl
  · obtain ⟨base, xA, x0, x1, yA, y0, y1, sign, rfl, a0, a1, e0, e1, e2, e3, e4, e5, e6, k⟩ := h
    refine ⟨_, PSs.nox (pss_cons (ps_set (i := 4) sc.nd rfl (.inl rfl) (pcB (call_min rfl) gls 1 T.b_min (by decide +kernel) (pa_cons (pcT call_intI gls 0 T.b_int boot_int (pa_cons (pe_ix ix_tup (pn vis 1) pe_int (fun _ _ => rfl)) pa_nil)) (pa_cons (pcT call_intI gls 0 T.b_int boot_int (pa_cons (pe_ix ix_tup (pn vis 2) pe_int (fun _ _ => rfl)) pa_nil)) pa_nil)))) (pss_cons (ps_set (i := 5) sc.nd rfl (.inl rfl) (pe_op op_mulX (pe_ix ix_tup (pn vis 1) pe_int (fun _ _ => rfl)) (pcD (ok__law_power T) (hr.mono (by decide)) gls 2 T.g__law_power (pa_cons (pn vis 0) (pa_cons (pe_op op_sub (pe_ix ix_tup (pn vis 1) pe_int (fun _ _ => rfl)) (pn vis 4)) pa_nil))))) (pss_cons (ps_set (i := 6) sc.nd rfl (.inl rfl) (pe_op op_mulX (pe_ix ix_tup (pn vis 2) pe_int (fun _ _ => rfl)) (pcD (ok__law_power T) (hr.mono (by decide)) gls 2 T.g__law_power (pa_cons (pn vis 0) (pa_cons (pe_op op_sub (pe_ix ix_tup (pn vis 2) pe_int (fun _ _ => rfl)) (pn vis 4)) pa_nil))))) (pss_one (ps_ret (pcD (ok__law_lowest T) (hr.mono (by decide)) gls 3 T.g__law_lowest (pa_cons (pn vis 0) (pa_cons (pe_op op_add (pn vis 5) (pe_op op_mulX (pn vis 3) (pn vis 6))) (pa_cons (pn vis 4) pa_nil))))))))), ?_⟩
    refine i_start (σ' := [some (V.int base), some (V.ref xA), some (V.ref yA), some (V.int sign), none, none, none]) rfl ?_
    refine i_seq <| i_asg <| i_cb <| i_cons <| i_cb <| i_cons <| i_op <| v1 <| i_c <| i_ixT (SqT.of a0) (atI_nat (j := 1) rfl) <| i_nil <| i_int <| i_cons <| i_cb <| i_cons <| i_op <| v2 <| i_c <| i_ixT (SqT.of a1) (atI_nat (j := 1) rfl) <| i_nil <| i_int <| i_nil <| i_min2 <| nI4 (fun low hlow => ?_)
    refine i_nx <| i_seq <| ?_
    have hb : Sz 6 base := by unfold Sz; omega
    have hlow2 : low = min x1 y1 := by rw [hlow]; split <;> omega
    refine i_asg <| i_op <| i_op <| v1 <| i_c <| i_ixT (SqT.of a0) (atI_nat (j := 0) rfl) <| i_call <| i_cons <| v0 <| i_cons <| i_op <| i_op <| v1 <| i_c <| i_ixT (SqT.of a0) (atI_nat (j := 1) rfl) <| v4 <| i_I0 <| i_nil <| ⟨_, _, rfl, (by first | assumption | omega | rfl | exact Sz.zero | exact Sz.sm (by omega) (by omega) (by decide) | exact Sz.mono (by assumption) (by decide)), (by first | assumption | omega | rfl | exact Sz.zero | exact Sz.sm (by omega) (by omega) (by decide) | exact Sz.mono (by assumption) (by decide)), (by exact hb), fun px H1 s1 hpx => ?_⟩
    refine i_I (by exact mulx (a := 9000) (b := 200000) e2 (by rw [hpx]; exact (Sz.pow36 e0 e1 _).mono (by omega))) <| nI5 (fun first hfirst => ?_)
    refine i_nx <| i_seq <| i_asg <| i_op <| i_op <| v2 <| i_c <| i_ixT (SqT.of (s1 _ _ a1)) (atI_nat (j := 0) rfl) <| i_call <| i_cons <| v0 <| i_cons <| i_op <| i_op <| v2 <| i_c <| i_ixT (SqT.of (s1 _ _ a1)) (atI_nat (j := 1) rfl) <| v4 <| i_I0 <| i_nil <| ⟨_, _, rfl, (by first | assumption | omega | rfl | exact Sz.zero | exact Sz.sm (by omega) (by omega) (by decide) | exact Sz.mono (by assumption) (by decide)), (by first | assumption | omega | rfl | exact Sz.zero | exact Sz.sm (by omega) (by omega) (by decide) | exact Sz.mono (by assumption) (by decide)), (by exact hb), fun py H2 s2 hpy => ?_⟩
    refine i_I (by exact mulx (a := 9000) (b := 200000) e3 (by rw [hpy]; exact (Sz.pow36 e0 e1 _).mono (by omega))) <| nI6 (fun second hsecond => ?_)
    refine i_nx <| i_ret <| i_call <| i_cons <| v0 <| i_cons <| i_op <| v5 <| i_op <| v3 <| v6 <| i_I (by exact mulx (a := 10) (b := 209000) (Sz.sm (by omega) (by omega) (by decide)) (by rw [hsecond]; exact Sz.mul (a := 9000) (b := 200000) e3 (by rw [hpy]; exact (Sz.pow36 e0 e1 _).mono (by omega)))) <| i_I0 <| i_cons <| v4 <| i_nil <| ⟨_, _, _, rfl, (by first | assumption | omega | rfl | exact Sz.zero | exact Sz.sm (by omega) (by omega) (by decide) | exact Sz.mono (by assumption) (by decide)), (by first | assumption | omega | rfl | exact Sz.zero | exact Sz.sm (by omega) (by omega) (by decide) | exact Sz.mono (by assumption) (by decide)), fun loA lo0 lo1 H3 s3 f3_0 hlo => ?_⟩
    exact k _ _ _ _ (s1.trans (s2.trans s3)) f3_0 (by rw [hlo, hfirst, hsecond, hpx, hpy, hlow2]; rfl)

/-! _law_equal@int -/
def sp__law_equal_int (K : PySem.W.Frag) : Sp := fun vs H Q _ => ∃ (actual : Int) (expected : Int), vs = [V.int actual, V.int expected] ∧ (actual = expected) ∧ ∀  (H' : Hp), Same H H' → Q (V.bl true) H'
abbrev s__law_equal_int : Stmt := top 31
theorem sc__law_equal_int : FnScope ["actual", "expected", "k"] ["actual", "expected"] (defScope s__law_equal_int) := ⟨rfl, rfl, rfl, by decide +kernel, rfl, by decide +kernel, by decide +kernel⟩
theorem vis__law_equal_int : visB ["actual", "expected", "k"] (defScope s__law_equal_int) = true := by decide +kernel
theorem gl__law_equal_int : glB ["bool", "isinstance", "int"] (defScope s__law_equal_int) = true := by decide +kernel
theorem ok__law_equal_int {P : Program} {w : World} {K : PySem.W.Frag} {mg : Str → Option Value} {base : Heap} (T : Txt w K mg) : OkD P w K mg base 1 (He.fAd K ("_law_equal", none)) ["actual", "expected"] [] (sp__law_equal_int K) := by
  obtain ⟨fd, F⟩ := T.d__law_equal
  refine ⟨fd, [], F.kp, F.bindsN (fun _ _ _ _ _ _ us hl => match us, hl with | [_, _], _ => rfl), .nil, ?_⟩
  have sc := sc__law_equal_int; have vis := vis__law_equal_int; have gls := gl__law_equal_int
  refine F.ok sc (fun vs H Q E h => ?_) (fun cdv A outer s H0 vs Q E hr h => ?_)
  · obtain ⟨actual, expected, rfl, _⟩ := h; rfl
  · obtain ⟨actual, expected, rfl, e0, k⟩ := h
    refine ⟨_, PSs.nox (pss_cons (ps_if (pt_cmpR op_isN_ (pn vis 1) pe_non (nomark _)) pss_never pss_nil) (pss_cons (ps_if (pt_val (pcB call_isi gls 1 T.b_isinstance (by decide +kernel) (pa_cons (pn vis 1) (pa_cons (pgt gls 0 T.b_bool boot_bool) pa_nil)))) pss_never pss_nil) (pss_cons (ps_if (pt_val (pcB call_isi gls 1 T.b_isinstance (by decide +kernel) (pa_cons (pn vis 1) (pa_cons (pgt gls 2 T.b_int boot_int) pa_nil)))) (pss_one (ps_ret (pe_and (pcB call_isi gls 1 T.b_isinstance (by decide +kernel) (pa_cons (pn vis 0) (pa_cons (pgt gls 2 T.b_int boot_int) pa_nil))) (pe_and (pe_not (pcB call_isi gls 1 T.b_isinstance (by decide +kernel) (pa_cons (pn vis 0) (pa_cons (pgt gls 0 T.b_bool boot_bool) pa_nil)))) (pe_one (pe_cmpR op_eqI (pn vis 0) (pn vis 1) (nomark _))))))) pss_nil) pss_never))), ?_⟩
    refine i_start (σ' := [some (V.int actual), some (V.int expected), none]) rfl ?_
    refine i_seq <| i_if <| i_test <| i_op <| v1 <| i_c <| i_isN (b := false) rfl <| i_bl <| i_iteF <| i_next <| i_nx <| i_seq <| i_if <| i_tB <| i_cb <| i_cons <| v1 <| i_cons <| i_c <| i_nil <| i_isi (b := false) (.ty _) (.base (.int _)) (kit_ty (by decide +kernel)) <| i_bl <| i_iteF <| i_next <| i_nx <| i_seq <| i_if <| i_tB <| i_cb <| i_cons <| v1 <| i_cons <| i_c <| i_nil <| i_isi (b := true) (.ty _) (.base (.int _)) (kit_ty (by decide +kernel)) <| i_bl <| i_iteT <| i_ret <| i_andV <| i_cb <| i_cons <| v0 <| i_cons <| i_c <| i_nil <| i_isi (b := true) (.ty _) (.base (.int _)) (kit_ty (by decide +kernel)) <| i_blV <| i_iteT <| i_andV <| i_notV <| i_cb <| i_cons <| v0 <| i_cons <| i_c <| i_nil <| i_isi (b := false) (.ty _) (.base (.int _)) (kit_ty (by decide +kernel)) <| i_blV <| i_blV <| i_iteNF <| i_op <| v0 <| v1 <| i_I0 <| ?_
    refine i_decT (by first | assumption | omega | simp [*]) ?_
    exact k _ (Same.refl _)

/-! _law_equal@bool -/
def sp__law_equal_bool (K : PySem.W.Frag) : Sp := fun vs H Q _ => ∃ (actual : Bool) (expected : Bool), vs = [V.bl actual, V.bl expected] ∧ (actual = expected) ∧ ∀  (H' : Hp), Same H H' → Q (V.bl true) H'
abbrev s__law_equal_bool : Stmt := top 31
theorem sc__law_equal_bool : FnScope ["actual", "expected", "k"] ["actual", "expected"] (defScope s__law_equal_bool) := ⟨rfl, rfl, rfl, by decide +kernel, rfl, by decide +kernel, by decide +kernel⟩
theorem vis__law_equal_bool : visB ["actual", "expected", "k"] (defScope s__law_equal_bool) = true := by decide +kernel
theorem gl__law_equal_bool : glB ["bool", "isinstance"] (defScope s__law_equal_bool) = true := by decide +kernel
theorem ok__law_equal_bool {P : Program} {w : World} {K : PySem.W.Frag} {mg : Str → Option Value} {base : Heap} (T : Txt w K mg) : OkD P w K mg base 1 (He.fAd K ("_law_equal", none)) ["actual", "expected"] [] (sp__law_equal_bool K) := by
  obtain ⟨fd, F⟩ := T.d__law_equal
  refine ⟨fd, [], F.kp, F.bindsN (fun _ _ _ _ _ _ us hl => match us, hl with | [_, _], _ => rfl), .nil, ?_⟩
  have sc := sc__law_equal_bool; have vis := vis__law_equal_bool; have gls := gl__law_equal_bool
  refine F.ok sc (fun vs H Q E h => ?_) (fun cdv A outer s H0 vs Q E hr h => ?_)
  · obtain ⟨actual, expected, rfl, _⟩ := h; rfl
  · obtain ⟨actual, expected, rfl, e0, k⟩ := h
    refine ⟨_, PSs.nox (pss_cons (ps_if (pt_cmpR op_isN_ (pn vis 1) pe_non (nomark _)) pss_never pss_nil) (pss_cons (ps_if (pt_val (pcB call_isi gls 1 T.b_isinstance (by decide +kernel) (pa_cons (pn vis 1) (pa_cons (pgt gls 0 T.b_bool boot_bool) pa_nil)))) (pss_one (ps_ret (pe_and (pcB call_isi gls 1 T.b_isinstance (by decide +kernel) (pa_cons (pn vis 0) (pa_cons (pgt gls 0 T.b_bool boot_bool) pa_nil))) (pe_one (pe_cmpR op_eqB (pn vis 0) (pn vis 1) (nomark _)))))) pss_nil) pss_never)), ?_⟩
    refine i_start (σ' := [some (V.bl actual), some (V.bl expected), none]) rfl ?_
    refine i_seq <| i_if <| i_test <| i_op <| v1 <| i_c <| i_isN (b := false) rfl <| i_bl <| i_iteF <| i_next <| i_nx <| i_seq <| i_if <| i_tB <| i_cb <| i_cons <| v1 <| i_cons <| i_c <| i_nil <| i_isi (b := true) (.ty _) (.base (.bl _)) (kit_ty (by decide +kernel)) <| i_bl <| i_iteT <| i_ret <| i_andV <| i_cb <| i_cons <| v0 <| i_cons <| i_c <| i_nil <| i_isi (b := true) (.ty _) (.base (.bl _)) (kit_ty (by decide +kernel)) <| i_blV <| i_iteT <| i_op <| v0 <| v1 <| i_B0 <| ?_
    refine i_decT (by first | assumption | omega | simp [*]) ?_
    exact k _ (Same.refl _)

/-! _law_equal@Li -/
def sp__law_equal_Li (K : PySem.W.Frag) : Sp := fun vs H Q _ => ∃ (actualA : Addr) (actual : List Int) (expectedA : Addr) (expected : List Int), vs = [V.ref actualA, V.ref expectedA] ∧ H actualA = some (.lst (actual.map V.int)) ∧ H expectedA = some (.lst (expected.map V.int)) ∧ (actual = expected) ∧ (expected.length ≤ 1000) ∧ ∀  (H' : Hp), Same H H' → Q (V.bl true) H'
abbrev s__law_equal_Li : Stmt := top 31
theorem sc__law_equal_Li : FnScope ["actual", "expected", "k"] ["actual", "expected"] (defScope s__law_equal_Li) := ⟨rfl, rfl, rfl, by decide +kernel, rfl, by decide +kernel, by decide +kernel⟩
theorem vis__law_equal_Li : visB ["actual", "expected", "k"] (defScope s__law_equal_Li) = true := by decide +kernel
theorem gl__law_equal_Li : glB ["bool", "isinstance", "int", "str", "list", "tuple", "len", "_law_equal", "range"] (defScope s__law_equal_Li) = true := by decide +kernel
theorem ok__law_equal_Li {P : Program} {w : World} {K : PySem.W.Frag} {mg : Str → Option Value} {base : Heap} (T : Txt w K mg) : OkD P w K mg base 2 (He.fAd K ("_law_equal", none)) ["actual", "expected"] [] (sp__law_equal_Li K) := by
  obtain ⟨fd, F⟩ := T.d__law_equal
  refine ⟨fd, [], F.kp, F.bindsN (fun _ _ _ _ _ _ us hl => match us, hl with | [_, _], _ => rfl), .nil, ?_⟩
  have sc := sc__law_equal_Li; have vis := vis__law_equal_Li; have gls := gl__law_equal_Li
  refine F.ok sc (fun vs H Q E h => ?_) (fun cdv A outer s H0 vs Q E hr h => ?_)
  · obtain ⟨actualA, actual, expectedA, expected, rfl, _⟩ := h; rfl
  · obtain ⟨actualA, actual, expectedA, expected, rfl, a0, a1, e0, e1, k⟩ := h
    refine ⟨_, PSs.nox (pss_cons (ps_if (pt_cmpR op_isN_ (pn vis 1) pe_non (nomark _)) pss_never pss_nil) (pss_cons (ps_if (pt_val (pcB call_isi gls 1 T.b_isinstance (by decide +kernel) (pa_cons (pn vis 1) (pa_cons (pgt gls 0 T.b_bool boot_bool) pa_nil)))) pss_never pss_nil) (pss_cons (ps_if (pt_val (pcB call_isi gls 1 T.b_isinstance (by decide +kernel) (pa_cons (pn vis 1) (pa_cons (pgt gls 2 T.b_int boot_int) pa_nil)))) pss_never pss_nil) (pss_cons (ps_if (pt_val (pcB call_isi gls 1 T.b_isinstance (by decide +kernel) (pa_cons (pn vis 1) (pa_cons (pgt gls 3 T.b_str boot_str) pa_nil)))) pss_never pss_nil) (pss_cons (ps_if (pt_cmpR op_neB (pcB call_isi gls 1 T.b_isinstance (by decide +kernel) (pa_cons (pn vis 1) (pa_cons (pgt gls 4 T.b_list boot_list) pa_nil))) (pcB call_isi gls 1 T.b_isinstance (by decide +kernel) (pa_cons (pn vis 0) (pa_cons (pgt gls 4 T.b_list boot_list) pa_nil))) (nomark _)) pss_never pss_nil) (pss_cons (ps_if (pt_cmpR op_neB (pcB call_isi gls 1 T.b_isinstance (by decide +kernel) (pa_cons (pn vis 1) (pa_cons (pgt gls 5 T.b_tuple boot_tuple) pa_nil))) (pcB call_isi gls 1 T.b_isinstance (by decide +kernel) (pa_cons (pn vis 0) (pa_cons (pgt gls 5 T.b_tuple boot_tuple) pa_nil))) (nomark _)) pss_never pss_nil) (pss_cons (ps_if (PW.pt (pw_and (pt_not (pt_val (pcB call_isi gls 1 T.b_isinstance (by decide +kernel) (pa_cons (pn vis 1) (pa_cons (pgt gls 4 T.b_list boot_list) pa_nil))))) (pw_and1 (pt_not (pt_val (pcB call_isi gls 1 T.b_isinstance (by decide +kernel) (pa_cons (pn vis 1) (pa_cons (pgt gls 5 T.b_tuple boot_tuple) pa_nil)))))))) pss_never pss_nil) (pss_cons (ps_if (pt_cmpR op_neI (pcB call_lenS gls 6 T.b_len PySem.boot_len (pa_cons (pn vis 0) pa_nil)) (pcB call_lenS gls 6 T.b_len PySem.boot_len (pa_cons (pn vis 1) pa_nil)) (nomark _)) pss_never pss_nil) (pss_cons (ps_for PassesOwn.never rfl (pi_range1 (gl_of gls (i := 8) rfl).1 T.b_range (pa_cons (pcB call_lenS gls 6 T.b_len PySem.boot_len (pa_cons (pn vis 1) pa_nil)) pa_nil)) (pg_name (i := 2) sc.nd rfl (.inl rfl)) (pss_one (ps_if (pt_not (pt_val (pcD (ok__law_equal_int T) (hr.mono (by decide)) gls 7 T.g__law_equal (pa_cons (pe_ix ix_list (pn vis 0) (pn vis 2) (fun _ _ => rfl)) (pa_cons (pe_ix ix_list (pn vis 1) (pn vis 2) (fun _ _ => rfl)) pa_nil))))) pss_never pss_nil))) (pss_one (ps_ret pe_bl))))))))))), ?_⟩
    refine i_start (σ' := [some (V.ref actualA), some (V.ref expectedA), none]) rfl ?_
    refine i_seq <| i_if <| i_test <| i_op <| v1 <| i_c <| i_isN (b := false) rfl <| i_bl <| i_iteF <| i_next <| i_nx <| i_seq <| i_if <| i_tB <| i_cb <| i_cons <| v1 <| i_cons <| i_c <| i_nil <| i_isi (b := false) (.ty _) (.base (.lst a1)) (kit_ty (by decide +kernel)) <| i_bl <| i_iteF <| i_next <| i_nx <| i_seq <| i_if <| i_tB <| i_cb <| i_cons <| v1 <| i_cons <| i_c <| i_nil <| i_isi (b := false) (.ty _) (.base (.lst a1)) (kit_ty (by decide +kernel)) <| i_bl <| i_iteF <| i_next <| i_nx <| i_seq <| i_if <| i_tB <| i_cb <| i_cons <| v1 <| i_cons <| i_c <| i_nil <| i_isi (b := false) (.ty _) (.base (.lst a1)) (kit_ty (by decide +kernel)) <| i_bl <| i_iteF <| i_next <| i_nx <| i_seq <| i_if <| i_test <| i_op <| i_cb <| i_cons <| v1 <| i_cons <| i_c <| i_nil <| i_isi (b := true) (.ty _) (.base (.lst a1)) (kit_ty (by decide +kernel)) <| i_cb <| i_cons <| v0 <| i_cons <| i_c <| i_nil <| i_isi (b := true) (.ty _) (.base (.lst a0)) (kit_ty (by decide +kernel)) <| i_B0 <| i_blq (b := false) rfl <| i_iteF <| i_next <| i_nx <| i_seq <| i_if <| i_test <| i_op <| i_cb <| i_cons <| v1 <| i_cons <| i_c <| i_nil <| i_isi (b := false) (.ty _) (.base (.lst a1)) (kit_ty (by decide +kernel)) <| i_cb <| i_cons <| v0 <| i_cons <| i_c <| i_nil <| i_isi (b := false) (.ty _) (.base (.lst a0)) (kit_ty (by decide +kernel)) <| i_B0 <| i_blq (b := false) rfl <| i_iteF <| i_next <| i_nx <| i_seq <| i_if <| i_and <| i_not <| i_tB <| i_cb <| i_cons <| v1 <| i_cons <| i_c <| i_nil <| i_isi (b := true) (.ty _) (.base (.lst a1)) (kit_ty (by decide +kernel)) <| i_bl <| i_iteNT <| i_iteF <| i_next <| i_nx <| i_seq <| i_if <| i_test <| i_op <| i_cb <| i_cons <| v0 <| i_nil <| i_lenM (SqL.of a0) <| i_cb <| i_cons <| v1 <| i_nil <| i_lenM (SqL.of a1) <| i_I0 <| i_bl <| i_iteN (fun c15 => ?_) (fun c15 => ?_)
    ·
      exact absurd c15 (by exact fun h => h (by rw [e0]))
    ·
      refine i_next <| i_nx <| i_seq <| i_for <| i_for1 <| i_cons <| i_cb <| i_cons <| v1 <| i_nil <| i_lenM (SqL.of a1) <| i_nil <| i_rng1 (fun i σ H' => ∃ (o_k : Option V), σ = [some (V.ref actualA), some (V.ref expectedA), o_k] ∧ Same H0 H') (by omega) (by omega) ?_ ?_ ?_
      ·
        exact ⟨_, rfl, (Same.refl _)⟩
      ·
        intro i
        rintro σ H1 hi ⟨o_k, rfl, s1⟩
        refine n2 <| ?_
        obtain ⟨v, hv, hat⟩ := at_i (f := V.int) (xs := expected) (i := i) (by omega)
        have hat2 : atI (actual.map V.int) (0 + (i : Int)) = some (V.int v) := by rw [e0]; exact hat
        refine i_if <| i_not <| i_tB <| i_call <| i_cons <| i_op <| v0 <| v2 <| i_ixL (SqL.of (s1 _ _ a0)) hat2 <| i_cons <| i_op <| v1 <| v2 <| i_ixL (SqL.of (s1 _ _ a1)) hat <| i_nil <| ⟨_, _, rfl, (by first | assumption | omega | rfl | exact Sz.zero | exact Sz.sm (by omega) (by omega) (by decide) | exact Sz.mono (by assumption) (by decide)), fun H3 s3 => ?_⟩
        refine i_bl <| i_iteNT <| i_next <| ?_
        exact ⟨_, rfl, (s1.trans s3)⟩
      ·
        rintro σ H4 ⟨o_k, rfl, s4⟩
        refine i_nx <| i_ret <| i_c <| ?_
        exact k _ s4

/-! _law_equal@Lb -/
def sp__law_equal_Lb (K : PySem.W.Frag) : Sp := fun vs H Q _ => ∃ (actualA : Addr) (actual : List Bool) (expectedA : Addr) (expected : List Bool), vs = [V.ref actualA, V.ref expectedA] ∧ H actualA = some (.lst (actual.map V.bl)) ∧ H expectedA = some (.lst (expected.map V.bl)) ∧ (actual = expected) ∧ (expected.length ≤ 1000) ∧ ∀  (H' : Hp), Same H H' → Q (V.bl true) H'
abbrev s__law_equal_Lb : Stmt := top 31
theorem sc__law_equal_Lb : FnScope ["actual", "expected", "k"] ["actual", "expected"] (defScope s__law_equal_Lb) := ⟨rfl, rfl, rfl, by decide +kernel, rfl, by decide +kernel, by decide +kernel⟩
theorem vis__law_equal_Lb : visB ["actual", "expected", "k"] (defScope s__law_equal_Lb) = true := by decide +kernel
theorem gl__law_equal_Lb : glB ["bool", "isinstance", "int", "str", "list", "tuple", "len", "_law_equal", "range"] (defScope s__law_equal_Lb) = true := by decide +kernel
theorem ok__law_equal_Lb {P : Program} {w : World} {K : PySem.W.Frag} {mg : Str → Option Value} {base : Heap} (T : Txt w K mg) : OkD P w K mg base 2 (He.fAd K ("_law_equal", none)) ["actual", "expected"] [] (sp__law_equal_Lb K) := by
  obtain ⟨fd, F⟩ := T.d__law_equal
  refine ⟨fd, [], F.kp, F.bindsN (fun _ _ _ _ _ _ us hl => match us, hl with | [_, _], _ => rfl), .nil, ?_⟩
  have sc := sc__law_equal_Lb; have vis := vis__law_equal_Lb; have gls := gl__law_equal_Lb
  refine F.ok sc (fun vs H Q E h => ?_) (fun cdv A outer s H0 vs Q E hr h => ?_)
  · obtain ⟨actualA, actual, expectedA, expected, rfl, _⟩ := h; rfl
  · obtain ⟨actualA, actual, expectedA, expected, rfl, a0, a1, e0, e1, k⟩ := h
    refine ⟨_, PSs.nox (pss_cons (ps_if (pt_cmpR op_isN_ (pn vis 1) pe_non (nomark _)) pss_never pss_nil) (pss_cons (ps_if (pt_val (pcB call_isi gls 1 T.b_isinstance (by decide +kernel) (pa_cons (pn vis 1) (pa_cons (pgt gls 0 T.b_bool boot_bool) pa_nil)))) pss_never pss_nil) (pss_cons (ps_if (pt_val (pcB call_isi gls 1 T.b_isinstance (by decide +kernel) (pa_cons (pn vis 1) (pa_cons (pgt gls 2 T.b_int boot_int) pa_nil)))) pss_never pss_nil) (pss_cons (ps_if (pt_val (pcB call_isi gls 1 T.b_isinstance (by decide +kernel) (pa_cons (pn vis 1) (pa_cons (pgt gls 3 T.b_str boot_str) pa_nil)))) pss_never pss_nil) (pss_cons (ps_if (pt_cmpR op_neB (pcB call_isi gls 1 T.b_isinstance (by decide +kernel) (pa_cons (pn vis 1) (pa_cons (pgt gls 4 T.b_list boot_list) pa_nil))) (pcB call_isi gls 1 T.b_isinstance (by decide +kernel) (pa_cons (pn vis 0) (pa_cons (pgt gls 4 T.b_list boot_list) pa_nil))) (nomark _)) pss_never pss_nil) (pss_cons (ps_if (pt_cmpR op_neB (pcB call_isi gls 1 T.b_isinstance (by decide +kernel) (pa_cons (pn vis 1) (pa_cons (pgt gls 5 T.b_tuple boot_tuple) pa_nil))) (pcB call_isi gls 1 T.b_isinstance (by decide +kernel) (pa_cons (pn vis 0) (pa_cons (pgt gls 5 T.b_tuple boot_tuple) pa_nil))) (nomark _)) pss_never pss_nil) (pss_cons (ps_if (PW.pt (pw_and (pt_not (pt_val (pcB call_isi gls 1 T.b_isinstance (by decide +kernel) (pa_cons (pn vis 1) (pa_cons (pgt gls 4 T.b_list boot_list) pa_nil))))) (pw_and1 (pt_not (pt_val (pcB call_isi gls 1 T.b_isinstance (by decide +kernel) (pa_cons (pn vis 1) (pa_cons (pgt gls 5 T.b_tuple boot_tuple) pa_nil)))))))) pss_never pss_nil) (pss_cons (ps_if (pt_cmpR op_neI (pcB call_lenS gls 6 T.b_len PySem.boot_len (pa_cons (pn vis 0) pa_nil)) (pcB call_lenS gls 6 T.b_len PySem.boot_len (pa_cons (pn vis 1) pa_nil)) (nomark _)) pss_never pss_nil) (pss_cons (ps_for PassesOwn.never rfl (pi_range1 (gl_of gls (i := 8) rfl).1 T.b_range (pa_cons (pcB call_lenS gls 6 T.b_len PySem.boot_len (pa_cons (pn vis 1) pa_nil)) pa_nil)) (pg_name (i := 2) sc.nd rfl (.inl rfl)) (pss_one (ps_if (pt_not (pt_val (pcD (ok__law_equal_bool T) (hr.mono (by decide)) gls 7 T.g__law_equal (pa_cons (pe_ix ix_list (pn vis 0) (pn vis 2) (fun _ _ => rfl)) (pa_cons (pe_ix ix_list (pn vis 1) (pn vis 2) (fun _ _ => rfl)) pa_nil))))) pss_never pss_nil))) (pss_one (ps_ret pe_bl))))))))))), ?_⟩
    refine i_start (σ' := [some (V.ref actualA), some (V.ref expectedA), none]) rfl ?_
    refine i_seq <| i_if <| i_test <| i_op <| v1 <| i_c <| i_isN (b := false) rfl <| i_bl <| i_iteF <| i_next <| i_nx <| i_seq <| i_if <| i_tB <| i_cb <| i_cons <| v1 <| i_cons <| i_c <| i_nil <| i_isi (b := false) (.ty _) (.base (.lst a1)) (kit_ty (by decide +kernel)) <| i_bl <| i_iteF <| i_next <| i_nx <| i_seq <| i_if <| i_tB <| i_cb <| i_cons <| v1 <| i_cons <| i_c <| i_nil <| i_isi (b := false) (.ty _) (.base (.lst a1)) (kit_ty (by decide +kernel)) <| i_bl <| i_iteF <| i_next <| i_nx <| i_seq <| i_if <| i_tB <| i_cb <| i_cons <| v1 <| i_cons <| i_c <| i_nil <| i_isi (b := false) (.ty _) (.base (.lst a1)) (kit_ty (by decide +kernel)) <| i_bl <| i_iteF <| i_next <| i_nx <| i_seq <| i_if <| i_test <| i_op <| i_cb <| i_cons <| v1 <| i_cons <| i_c <| i_nil <| i_isi (b := true) (.ty _) (.base (.lst a1)) (kit_ty (by decide +kernel)) <| i_cb <| i_cons <| v0 <| i_cons <| i_c <| i_nil <| i_isi (b := true) (.ty _) (.base (.lst a0)) (kit_ty (by decide +kernel)) <| i_B0 <| i_blq (b := false) rfl <| i_iteF <| i_next <| i_nx <| i_seq <| i_if <| i_test <| i_op <| i_cb <| i_cons <| v1 <| i_cons <| i_c <| i_nil <| i_isi (b := false) (.ty _) (.base (.lst a1)) (kit_ty (by decide +kernel)) <| i_cb <| i_cons <| v0 <| i_cons <| i_c <| i_nil <| i_isi (b := false) (.ty _) (.base (.lst a0)) (kit_ty (by decide +kernel)) <| i_B0 <| i_blq (b := false) rfl <| i_iteF <| i_next <| i_nx <| i_seq <| i_if <| i_and <| i_not <| i_tB <| i_cb <| i_cons <| v1 <| i_cons <| i_c <| i_nil <| i_isi (b := true) (.ty _) (.base (.lst a1)) (kit_ty (by decide +kernel)) <| i_bl <| i_iteNT <| i_iteF <| i_next <| i_nx <| i_seq <| i_if <| i_test <| i_op <| i_cb <| i_cons <| v0 <| i_nil <| i_lenM (SqL.of a0) <| i_cb <| i_cons <| v1 <| i_nil <| i_lenM (SqL.of a1) <| i_I0 <| i_bl <| i_iteN (fun c15 => ?_) (fun c15 => ?_)
    ·
      exact absurd c15 (by exact fun h => h (by rw [e0]))
    ·
      refine i_next <| i_nx <| i_seq <| i_for <| i_for1 <| i_cons <| i_cb <| i_cons <| v1 <| i_nil <| i_lenM (SqL.of a1) <| i_nil <| i_rng1 (fun i σ H' => ∃ (o_k : Option V), σ = [some (V.ref actualA), some (V.ref expectedA), o_k] ∧ Same H0 H') (by omega) (by omega) ?_ ?_ ?_
      ·
        exact ⟨_, rfl, (Same.refl _)⟩
      ·
        intro i
        rintro σ H1 hi ⟨o_k, rfl, s1⟩
        refine n2 <| ?_
        obtain ⟨v, hv, hat⟩ := at_i (f := V.bl) (xs := expected) (i := i) (by omega)
        have hat2 : atI (actual.map V.bl) (0 + (i : Int)) = some (V.bl v) := by rw [e0]; exact hat
        refine i_if <| i_not <| i_tB <| i_call <| i_cons <| i_op <| v0 <| v2 <| i_ixL (SqL.of (s1 _ _ a0)) hat2 <| i_cons <| i_op <| v1 <| v2 <| i_ixL (SqL.of (s1 _ _ a1)) hat <| i_nil <| ⟨_, _, rfl, (by first | assumption | omega | rfl | exact Sz.zero | exact Sz.sm (by omega) (by omega) (by decide) | exact Sz.mono (by assumption) (by decide)), fun H3 s3 => ?_⟩
        refine i_bl <| i_iteNT <| i_next <| ?_
        exact ⟨_, rfl, (s1.trans s3)⟩
      ·
        rintro σ H4 ⟨o_k, rfl, s4⟩
        refine i_nx <| i_ret <| i_c <| ?_
        exact k _ s4

/-! _law_is -/
def sp__law_is (K : PySem.W.Frag) : Sp := fun vs H Q _ => ∃ (valueA : Addr) (value : EN) (base : Int) (xA : Addr) (x0 : Int) (x1 : Int), vs = [V.ref valueA, V.int base, V.ref xA] ∧ IsI (He.ga K "Exact") H valueA (exF value) ∧ H xA = some (.tup [V.int x0, V.int x1]) ∧ (2 ≤ base) ∧ (base ≤ 36) ∧ (value = nrm base x0 x1) ∧ ∀  (H' : Hp), Same H H' → Q (V.bl true) H'
abbrev s__law_is : Stmt := top 33
theorem sc__law_is : FnScope ["value", "base", "x", "low"] ["value", "base", "x"] (defScope s__law_is) := ⟨rfl, rfl, rfl, by decide +kernel, rfl, by decide +kernel, by decide +kernel⟩
theorem vis__law_is : visB ["value", "base", "x", "low"] (defScope s__law_is) = true := by decide +kernel
theorem gl__law_is : glB ["Exact", "isinstance", "_law_lowest", "_law_equal"] (defScope s__law_is) = true := by decide +kernel
theorem ok__law_is {P : Program} {w : World} {K : PySem.W.Frag} {mg : Str → Option Value} {base : Heap} (T : Txt w K mg) : OkD P w K mg base 3 (He.fAd K ("_law_is", none)) ["value", "base", "x"] [] (sp__law_is K) := by
  obtain ⟨fd, F⟩ := T.d__law_is
  refine ⟨fd, [], F.kp, F.bindsN (fun _ _ _ _ _ _ us hl => match us, hl with | [_, _, _], _ => rfl), .nil, ?_⟩
  have sc := sc__law_is; have vis := vis__law_is; have gls := gl__law_is
  refine F.ok sc (fun vs H Q E h => ?_) (fun cdv A outer s H0 vs Q E hr h => ?_)
  · obtain ⟨valueA, value, base, xA, x0, x1, rfl, _⟩ := h; rfl
  · obtain ⟨valueA, value, base, xA, x0, x1, rfl, a0, a1, e0, e1, e2, k⟩ := h
    refine ⟨_, PSs.nox (pss_cons (ps_if (pt_not (pt_val (pcB call_isi gls 1 T.b_isinstance (by decide +kernel) (pa_cons (pn vis 0) (pa_cons (pgr gls 0 T.g_Exact) pa_nil))))) pss_never pss_nil) (pss_cons (ps_set (i := 3) sc.nd rfl (.inl rfl) (pcD (ok__law_lowest T) (hr.mono (by decide)) gls 2 T.g__law_lowest (pa_cons (pn vis 1) (pa_cons (pe_ix ix_tup (pn vis 2) pe_int (fun _ _ => rfl)) (pa_cons (pe_ix ix_tup (pn vis 2) pe_int (fun _ _ => rfl)) pa_nil))))) (pss_one (ps_ret (pcD (ok__law_equal_Li T) (hr.mono (by decide)) gls 3 T.g__law_equal (pa_cons (pe_lst (pa_cons (pe_fld (pn vis 0) rfl) (pa_cons (pe_fld (pn vis 0) rfl) (pa_cons (pe_fld (pn vis 0) rfl) pa_nil)))) (pa_cons (pe_lst (pa_cons (pn vis 1) (pa_cons (pe_ix ix_tup (pn vis 3) pe_int (fun _ _ => rfl)) (pa_cons (pe_ix ix_tup (pn vis 3) pe_int (fun _ _ => rfl)) pa_nil)))) pa_nil))))))), ?_⟩
    refine i_start (σ' := [some (V.ref valueA), some (V.int base), some (V.ref xA), none]) rfl ?_
    refine i_seq <| i_if <| i_not <| i_tB <| i_cb <| i_cons <| v0 <| i_cons <| i_c <| i_nil <| i_isi (b := true) (.own _) (ins_ty T.ins_Exact a0) T.ins_Exact.me <| i_bl <| i_iteNT <| i_next <| i_nx <| i_seq <| i_asg <| i_call <| i_cons <| v1 <| i_cons <| i_op <| v2 <| i_c <| i_ixT (SqT.of a1) (atI_nat (j := 0) rfl) <| i_cons <| i_op <| v2 <| i_c <| i_ixT (SqT.of a1) (atI_nat (j := 1) rfl) <| i_nil <| ⟨_, _, _, rfl, (by first | assumption | omega | rfl | exact Sz.zero | exact Sz.sm (by omega) (by omega) (by decide) | exact Sz.mono (by assumption) (by decide)), (by first | assumption | omega | rfl | exact Sz.zero | exact Sz.sm (by omega) (by omega) (by decide) | exact Sz.mono (by assumption) (by decide)), fun lowA low0 low1 H1 s1 f1_0 hlow => ?_⟩
    refine n3 <| i_nx <| i_ret <| i_call <| i_cons <| i_lst <| i_cons <| i_fld <| v0 <| i_fldI (same_ins s1 a0) T.cls_Exact T.na_Exact_base rfl <| i_cons <| i_fld <| v0 <| i_fldI (same_ins s1 a0) T.cls_Exact T.na_Exact_coefficient rfl <| i_cons <| i_fld <| v0 <| i_fldI (same_ins s1 a0) T.cls_Exact T.na_Exact_exponent rfl <| i_nil <| i_kLst (of_decide_eq_true rfl) (fun p2 H2 z2 s2 f2 => ?_)
    refine i_cons <| i_lst <| i_cons <| v1 <| i_cons <| i_op <| v3 <| i_c <| i_ixT (SqT.of (s2 _ _ f1_0)) (atI_nat (j := 0) rfl) <| i_cons <| i_op <| v3 <| i_c <| i_ixT (SqT.of (s2 _ _ f1_0)) (atI_nat (j := 1) rfl) <| i_nil <| i_kLst (of_decide_eq_true rfl) (fun p3 H3 z3 s3 f3 => ?_)
    refine i_nil <| ⟨_, [_, _, _], _, [_, _, _], rfl, (s3 _ _ f2), f3, (by rw [e2, ← hlow]), (by simp), fun H5 s5 => ?_⟩
    exact k _ (s1.trans (s2.trans (s3.trans s5)))

/-! _law_are -/
def sp__law_are (K : PySem.W.Frag) : Sp := fun vs H Q _ => ∃ (valuesA : Addr) (values : List EN) (base : Int) (xsA : Addr) (xs : List (Int × Int)), vs = [V.ref valuesA, V.int base, V.ref xsA] ∧ LO (fun H p x => IsI (He.ga K "Exact") H p (exF x)) H valuesA values ∧ LO IsP H xsA xs ∧ (2 ≤ base) ∧ (base ≤ 36) ∧ (values = xs.map fun p => nrm base p.1 p.2) ∧ (xs.length ≤ 1000) ∧ ∀  (H' : Hp), Same H H' → Q (V.bl true) H'
abbrev s__law_are : Stmt := top 34
theorem sc__law_are : FnScope ["values", "base", "xs", "k"] ["values", "base", "xs"] (defScope s__law_are) := ⟨rfl, rfl, rfl, by decide +kernel, rfl, by decide +kernel, by decide +kernel⟩
theorem vis__law_are : visB ["values", "base", "xs", "k"] (defScope s__law_are) = true := by decide +kernel
theorem gl__law_are : glB ["list", "isinstance", "len", "_law_is", "range"] (defScope s__law_are) = true := by decide +kernel
theorem ok__law_are {P : Program} {w : World} {K : PySem.W.Frag} {mg : Str → Option Value} {base : Heap} (T : Txt w K mg) : OkD P w K mg base 4 (He.fAd K ("_law_are", none)) ["values", "base", "xs"] [] (sp__law_are K) := by
  obtain ⟨fd, F⟩ := T.d__law_are
  refine ⟨fd, [], F.kp, F.bindsN (fun _ _ _ _ _ _ us hl => match us, hl with | [_, _, _], _ => rfl), .nil, ?_⟩
  have sc := sc__law_are; have vis := vis__law_are; have gls := gl__law_are
  refine F.ok sc (fun vs H Q E h => ?_) (fun cdv A outer s H0 vs Q E hr h => ?_)
  · obtain ⟨valuesA, values, base, xsA, xs, rfl, _⟩ := h; rfl
  · obtain ⟨valuesA, values, base, xsA, xs, rfl, a0, a1, e0, e1, e2, e3, k⟩ := h
    refine ⟨_, PSs.nox (pss_cons (ps_if (PW.pt (pw_or (pt_not (pt_val (pcB call_isi gls 1 T.b_isinstance (by decide +kernel) (pa_cons (pn vis 0) (pa_cons (pgt gls 0 T.b_list boot_list) pa_nil))))) (pw_or1 (pt_cmpR op_neI (pcB call_lenS gls 2 T.b_len PySem.boot_len (pa_cons (pn vis 0) pa_nil)) (pcB call_lenS gls 2 T.b_len PySem.boot_len (pa_cons (pn vis 2) pa_nil)) (nomark _))))) pss_never pss_nil) (pss_cons (ps_for PassesOwn.never rfl (pi_range1 (gl_of gls (i := 4) rfl).1 T.b_range (pa_cons (pcB call_lenS gls 2 T.b_len PySem.boot_len (pa_cons (pn vis 2) pa_nil)) pa_nil)) (pg_name (i := 3) sc.nd rfl (.inl rfl)) (pss_one (ps_if (pt_not (pt_val (pcD (ok__law_is T) (hr.mono (by decide)) gls 3 T.g__law_is (pa_cons (pe_ix ix_list (pn vis 0) (pn vis 3) (fun _ _ => rfl)) (pa_cons (pn vis 1) (pa_cons (pe_ix ix_list (pn vis 2) (pn vis 3) (fun _ _ => rfl)) pa_nil)))))) pss_never pss_nil))) (pss_one (ps_ret pe_bl)))), ?_⟩
    refine i_start (σ' := [some (V.ref valuesA), some (V.int base), some (V.ref xsA), none]) rfl ?_
    refine i_seq <| i_if <| i_or <| i_not <| i_tB <| i_cb <| i_cons <| v0 <| i_cons <| i_c <| i_nil <| i_isi (b := true) (.ty _) (LO.ty a0) (kit_ty (by decide +kernel)) <| i_bl <| i_iteNT <| i_test <| i_op <| i_cb <| i_cons <| v0 <| i_nil <| i_lenO a0 <| i_cb <| i_cons <| v2 <| i_nil <| i_lenO a1 <| i_I0 <| i_bl <| i_iteN (fun c1 => ?_) (fun c1 => ?_)
    ·
      exact absurd c1 (by exact fun h => h (by rw [e2, List.length_map]))
    ·
      refine i_next <| i_nx <| i_seq <| i_for <| i_for1 <| i_cons <| i_cb <| i_cons <| v2 <| i_nil <| i_lenO a1 <| i_nil <| i_rng1 (fun i σ H' => ∃ (o_k : Option V), σ = [some (V.ref valuesA), some (V.int base), some (V.ref xsA), o_k] ∧ Same H0 H') (by omega) (by omega) ?_ ?_ ?_
      ·
        exact ⟨_, rfl, (Same.refl _)⟩
      ·
        intro i
        rintro σ H1 hi ⟨o_k, rfl, s1⟩
        refine n3 <| ?_
        obtain ⟨q, hq⟩ : ∃ q, xs[i]? = some q := ⟨_, List.getElem?_eq_getElem (by omega)⟩
        have hv : values[i]? = some (nrm base q.1 q.2) := by rw [e2, List.getElem?_map, hq]; rfl
        refine i_if <| i_not <| i_tB <| i_call <| i_cons <| i_op <| v0 <| v3 <| ?_
        obtain ⟨vs2, vA, hs2, ha2, hq2⟩ := LO.at (K := K) (same_LO (F := (fun H p x => IsI (He.ga K "Exact") H p (exF x))) (fun _ _ h => same_ins s1 h) s1 a0) hv
        refine i_ixL hs2 ha2 <| i_cons <| v1 <| i_cons <| i_op <| v2 <| v3 <| ?_
        obtain ⟨vs3, qA, hs3, ha3, hq3⟩ := LO.at (K := K) (same_LO (F := IsP) (fun _ _ h => same_P s1 h) s1 a1) hq
        have hq3 : H1 qA = some (.tup [V.int q.1, V.int q.2]) := hq3
        refine i_ixL hs3 ha3 <| i_nil <| ⟨_, _, _, _, _, _, rfl, hq2, hq3, (by first | assumption | omega | rfl | exact Sz.zero | exact Sz.sm (by omega) (by omega) (by decide) | exact Sz.mono (by assumption) (by decide)), (by first | assumption | omega | rfl | exact Sz.zero | exact Sz.sm (by omega) (by omega) (by decide) | exact Sz.mono (by assumption) (by decide)), (by first | assumption | omega | rfl | exact Sz.zero | exact Sz.sm (by omega) (by omega) (by decide) | exact Sz.mono (by assumption) (by decide)), fun H5 s5 => ?_⟩
        refine i_bl <| i_iteNT <| i_next <| ?_
        exact ⟨_, rfl, (s1.trans s5)⟩
      ·
        rintro σ H6 ⟨o_k, rfl, s6⟩
        refine i_nx <| i_ret <| i_c <| ?_
        exact k _ s6

/-! _law_next@1 -/
def sp__law_next_1 (K : PySem.W.Frag) : Sp := fun vs H Q _ => ∃ (sourceA : Addr) (base : Int) (precision : Int) (xA : Addr) (x0 : Int) (x1 : Int), vs = [V.ref sourceA, V.int base, V.int precision, V.ref xA] ∧ IsSrc H sourceA ∧ H xA = some (.tup [V.int x0, V.int x1]) ∧ (2 ≤ base) ∧ (base ≤ 36) ∧ (3 ≤ precision) ∧ (precision ≤ 42) ∧ (Sz 700 x0) ∧ (-20 ≤ x1) ∧ (x1 ≤ 700) ∧ ∀ (rA : Addr) (r0 : Int) (r1 : Int) (H' : Hp), Ext H H' → IsSrc H' sourceA → H' rA = some (.tup [V.int r0, V.int r1]) → (Sz 900 r0) → (-50 ≤ r1) → (r1 ≤ 731) → Q (V.ref rA) H'
abbrev s__law_next_1 : Stmt := top 35
theorem sc__law_next_1 : FnScope ["source", "base", "precision", "x", "kind", "shift", "scaled"] ["source", "base", "precision", "x"] (defScope s__law_next_1) := ⟨rfl, rfl, rfl, by decide +kernel, rfl, by decide +kernel, by decide +kernel⟩
theorem vis__law_next_1 : visB ["source", "base", "precision", "x", "kind", "shift", "scaled"] (defScope s__law_next_1) = true := by decide +kernel
theorem gl__law_next_1 : glB ["_law_draw", "_law_power", "_law_value"] (defScope s__law_next_1) = true := by decide +kernel
theorem ok__law_next_1 {P : Program} {w : World} {K : PySem.W.Frag} {mg : Str → Option Value} {base : Heap} (T : Txt w K mg) : OkD P w K mg base 4 (He.fAd K ("_law_next", none)) ["source", "base", "precision", "x"] [] (sp__law_next_1 K) := by
  obtain ⟨fd, F⟩ := T.d__law_next
  refine ⟨fd, [], F.kp, F.bindsN (fun _ _ _ _ _ _ us hl => match us, hl with | [_, _, _, _], _ => rfl), .nil, ?_⟩
  have sc := sc__law_next_1; have vis := vis__law_next_1; have gls := gl__law_next_1
  refine F.ok sc (fun vs H Q E h => ?_) (fun cdv A outer s H0 vs Q E hr h => ?_)
  · obtain ⟨sourceA, base, precision, xA, x0, x1, rfl, _⟩ := h; rfl
  · obtain ⟨sourceA, base, precision, xA, x0, x1, rfl, a0, a1, e0, e1, e2, e3, e4, e5, e6, k⟩ := h
    refine ⟨_, PSs.nox (pss_cons (ps_set (i := 4) sc.nd rfl (.inl rfl) (pcD (ok__law_draw T) (hr.mono (by decide)) gls 0 T.g__law_draw (pa_cons (pn vis 0) (pa_cons pe_int pa_nil)))) (pss_cons (ps_set (i := 5) sc.nd rfl (.inl rfl) (pcD (ok__law_draw T) (hr.mono (by decide)) gls 0 T.g__law_draw (pa_cons (pn vis 0) (pa_cons pe_int pa_nil)))) (pss_cons (ps_set (i := 6) sc.nd rfl (.inl rfl) (pe_op op_mulX (pe_ix ix_tup (pn vis 3) pe_int (fun _ _ => rfl)) (pcD (ok__law_power T) (hr.mono (by decide)) gls 1 T.g__law_power (pa_cons (pn vis 1) (pa_cons (pn vis 5) pa_nil))))) (pss_cons (ps_if (pt_cmpR op_eqI (pn vis 4) pe_int (nomark _)) (pss_one (ps_ret (pe_tup (pa_cons (pn vis 6) (pa_cons (pe_op op_sub (pe_ix ix_tup (pn vis 3) pe_int (fun _ _ => rfl)) (pn vis 5)) pa_nil))))) pss_nil) (pss_cons (ps_if (pt_cmpR op_eqI (pn vis 4) pe_int (nomark _)) (pss_one (ps_ret (pe_tup (pa_cons (pe_op op_add (pn vis 6) pe_int) (pa_cons (pe_op op_sub (pe_ix ix_tup (pn vis 3) pe_int (fun _ _ => rfl)) (pn vis 5)) pa_nil))))) pss_nil) (pss_cons (ps_if (pt_cmpR op_eqI (pn vis 4) pe_int (nomark _)) (pss_one (ps_ret (pe_tup (pa_cons (pe_op op_sub (pn vis 6) pe_int) (pa_cons (pe_op op_sub (pe_ix ix_tup (pn vis 3) pe_int (fun _ _ => rfl)) (pn vis 5)) pa_nil))))) pss_nil) (pss_cons (ps_if (pt_cmpR op_eqI (pn vis 4) pe_int (nomark _)) (pss_one (ps_ret (pe_tup (pa_cons (pe_op op_sub pe_int (pe_ix ix_tup (pn vis 3) pe_int (fun _ _ => rfl))) (pa_cons (pe_ix ix_tup (pn vis 3) pe_int (fun _ _ => rfl)) pa_nil))))) pss_nil) (pss_cons (ps_if (pt_cmpR op_eqI (pn vis 4) pe_int (nomark _)) (pss_one (ps_ret (pe_tup (pa_cons (pe_ix ix_tup (pn vis 3) pe_int (fun _ _ => rfl)) (pa_cons (pe_op op_add (pe_op op_add (pe_ix ix_tup (pn vis 3) pe_int (fun _ _ => rfl)) pe_int) (pn vis 5)) pa_nil))))) pss_nil) (pss_cons (ps_if (pt_cmpR op_eqI (pn vis 4) pe_int (nomark _)) (pss_one (ps_ret (pe_tup (pa_cons pe_int (pa_cons (pn vis 5) pa_nil))))) pss_nil) (pss_one (ps_ret (pcD (ok__law_value T) (hr.mono (by decide)) gls 2 T.g__law_value (pa_cons (pn vis 0) (pa_cons (pn vis 1) (pa_cons (pn vis 2) pa_nil))))))))))))))), ?_⟩
    refine i_start (σ' := [some (V.ref sourceA), some (V.int base), some (V.int precision), some (V.ref xA), none, none, none]) rfl ?_
    refine i_seq <| i_asg <| i_call <| i_cons <| v0 <| i_cons <| i_c <| i_nil <| ⟨_, _, rfl, a0, (by first | assumption | omega | rfl | exact Sz.zero | exact Sz.sm (by omega) (by omega) (by decide) | exact Sz.mono (by assumption) (by decide)), (by first | assumption | omega | rfl | exact Sz.zero | exact Sz.sm (by omega) (by omega) (by decide) | exact Sz.mono (by assumption) (by decide)), fun kind H1 s1 g1 hkind0 hkind1 => ?_⟩
    refine n4 <| i_nx <| i_seq <| i_asg <| i_call <| i_cons <| v0 <| i_cons <| i_c <| i_nil <| ⟨_, _, rfl, g1, (by first | assumption | omega | rfl | exact Sz.zero | exact Sz.sm (by omega) (by omega) (by decide) | exact Sz.mono (by assumption) (by decide)), (by first | assumption | omega | rfl | exact Sz.zero | exact Sz.sm (by omega) (by omega) (by decide) | exact Sz.mono (by assumption) (by decide)), fun shift H2 s2 g2 hshift0 hshift1 => ?_⟩
    refine n5 <| i_nx <| i_seq <| i_asg <| i_op <| i_op <| v3 <| i_c <| i_ixT (SqT.of ((s1.trans s2) _ _ trivial a1)) (atI_nat (j := 0) rfl) <| i_call <| i_cons <| v1 <| i_cons <| v5 <| i_nil <| ⟨_, _, rfl, (by first | assumption | omega | rfl | exact Sz.zero | exact Sz.sm (by omega) (by omega) (by decide) | exact Sz.mono (by assumption) (by decide)), (by first | assumption | omega | rfl | exact Sz.zero | exact Sz.sm (by omega) (by omega) (by decide) | exact Sz.mono (by assumption) (by decide)), (by unfold Sz; omega), fun pw H3 s3 hpw => ?_⟩
    refine i_I (by exact mulx (a := 700) (b := 175) e4 (by rw [hpw]; exact (Sz.pow36 e0 e1 _).mono (by omega))) <| nI6 (fun scaled hscaled => ?_)
    refine i_nx <| i_seq <| ?_
    have zs : Sz 875 scaled := by rw [hscaled, hpw]; exact e4.mul (a := 700) (b := 175) ((Sz.pow36 e0 e1 _).mono (by omega))
    refine i_if <| i_test <| i_op <| v4 <| i_c <| i_I0 <| i_bl <| i_ite (fun c4 => ?_) (fun c4 => ?_)
    ·
      refine i_ret <| i_tup <| i_cons <| v6 <| i_cons <| i_op <| i_op <| v3 <| i_c <| i_ixT (SqT.of ((s1.trans (s2.trans (ext_of s3))) _ _ trivial a1)) (atI_nat (j := 1) rfl) <| v5 <| i_I0 <| i_nil <| i_kTup (of_decide_eq_true rfl) (fun p4 H4 z4 s4 f4 => ?_)
      exact k _ _ _ _ (s1.trans (s2.trans ((ext_of s3).trans (ext_of s4)))) (same_src (s3.trans s4) g2) f4 (by exact zs.mono (by decide)) (by first | rfl | assumption | omega) (by first | rfl | assumption | omega)
    ·
      refine i_next <| i_nx <| i_seq <| i_if <| i_test <| i_op <| v4 <| i_c <| i_I0 <| i_bl <| i_ite (fun c6 => ?_) (fun c6 => ?_)
      ·
        refine i_ret <| i_tup <| i_cons <| i_op <| v6 <| i_c <| i_I0 <| i_cons <| i_op <| i_op <| v3 <| i_c <| i_ixT (SqT.of ((s1.trans (s2.trans (ext_of s3))) _ _ trivial a1)) (atI_nat (j := 1) rfl) <| v5 <| i_I0 <| i_nil <| i_kTup (of_decide_eq_true rfl) (fun p5 H5 z5 s5 f5 => ?_)
        exact k _ _ _ _ (s1.trans (s2.trans ((ext_of s3).trans (ext_of s5)))) (same_src (s3.trans s5) g2) f5 (by exact (Sz.add (a := 875) zs (Sz.sm (by omega) (by omega) (by decide))).mono (by decide)) (by first | rfl | assumption | omega) (by first | rfl | assumption | omega)
      ·
        refine i_next <| i_nx <| i_seq <| i_if <| i_test <| i_op <| v4 <| i_c <| i_I0 <| i_bl <| i_ite (fun c8 => ?_) (fun c8 => ?_)
        ·
          refine i_ret <| i_tup <| i_cons <| i_op <| v6 <| i_c <| i_I0 <| i_cons <| i_op <| i_op <| v3 <| i_c <| i_ixT (SqT.of ((s1.trans (s2.trans (ext_of s3))) _ _ trivial a1)) (atI_nat (j := 1) rfl) <| v5 <| i_I0 <| i_nil <| i_kTup (of_decide_eq_true rfl) (fun p6 H6 z6 s6 f6 => ?_)
          exact k _ _ _ _ (s1.trans (s2.trans ((ext_of s3).trans (ext_of s6)))) (same_src (s3.trans s6) g2) f6 (by exact (Sz.sub (a := 875) zs (Sz.sm (by omega) (by omega) (by decide))).mono (by decide)) (by first | rfl | assumption | omega) (by first | rfl | assumption | omega)
        ·
          refine i_next <| i_nx <| i_seq <| i_if <| i_test <| i_op <| v4 <| i_c <| i_I0 <| i_bl <| i_ite (fun c10 => ?_) (fun c10 => ?_)
          ·
            refine i_ret <| i_tup <| i_cons <| i_op <| i_c <| i_op <| v3 <| i_c <| i_ixT (SqT.of ((s1.trans (s2.trans (ext_of s3))) _ _ trivial a1)) (atI_nat (j := 0) rfl) <| i_I0 <| i_cons <| i_op <| v3 <| i_c <| i_ixT (SqT.of ((s1.trans (s2.trans (ext_of s3))) _ _ trivial a1)) (atI_nat (j := 1) rfl) <| i_nil <| i_kTup (of_decide_eq_true rfl) (fun p7 H7 z7 s7 f7 => ?_)
            exact k _ _ _ _ (s1.trans (s2.trans ((ext_of s3).trans (ext_of s7)))) (same_src (s3.trans s7) g2) f7 (by rw [Int.zero_sub]; exact e4.neg.mono (by decide)) (by first | rfl | assumption | omega) (by first | rfl | assumption | omega)
          ·
            refine i_next <| i_nx <| i_seq <| i_if <| i_test <| i_op <| v4 <| i_c <| i_I0 <| i_bl <| i_ite (fun c12 => ?_) (fun c12 => ?_)
            ·
              refine i_ret <| i_tup <| i_cons <| i_op <| v3 <| i_c <| i_ixT (SqT.of ((s1.trans (s2.trans (ext_of s3))) _ _ trivial a1)) (atI_nat (j := 0) rfl) <| i_cons <| i_op <| i_op <| i_op <| v3 <| i_c <| i_ixT (SqT.of ((s1.trans (s2.trans (ext_of s3))) _ _ trivial a1)) (atI_nat (j := 1) rfl) <| i_c <| i_I0 <| v5 <| i_I0 <| i_nil <| i_kTup (of_decide_eq_true rfl) (fun p8 H8 z8 s8 f8 => ?_)
              exact k _ _ _ _ (s1.trans (s2.trans ((ext_of s3).trans (ext_of s8)))) (same_src (s3.trans s8) g2) f8 (by exact e4.mono (by decide)) (by first | rfl | assumption | omega) (by first | rfl | assumption | omega)
            ·
              refine i_next <| i_nx <| i_seq <| i_if <| i_test <| i_op <| v4 <| i_c <| i_I0 <| i_bl <| i_ite (fun c14 => ?_) (fun c14 => ?_)
              ·
                refine i_ret <| i_tup <| i_cons <| i_c <| i_cons <| v5 <| i_nil <| i_kTup (of_decide_eq_true rfl) (fun p9 H9 z9 s9 f9 => ?_)
                exact k _ _ _ _ (s1.trans (s2.trans ((ext_of s3).trans (ext_of s9)))) (same_src (s3.trans s9) g2) f9 (by exact Sz.zero) (by first | rfl | assumption | omega) (by first | rfl | assumption | omega)
              ·
                refine i_next <| i_nx <| i_ret <| i_call <| i_cons <| v0 <| i_cons <| v1 <| i_cons <| v2 <| i_nil <| ⟨_, _, _, rfl, (same_src s3 g2), (by first | assumption | omega | rfl | exact Sz.zero | exact Sz.sm (by omega) (by omega) (by decide) | exact Sz.mono (by assumption) (by decide)), (by first | assumption | omega | rfl | exact Sz.zero | exact Sz.sm (by omega) (by omega) (by decide) | exact Sz.mono (by assumption) (by decide)), (by first | assumption | omega | rfl | exact Sz.zero | exact Sz.sm (by omega) (by omega) (by decide) | exact Sz.mono (by assumption) (by decide)), (by first | assumption | omega | rfl | exact Sz.zero | exact Sz.sm (by omega) (by omega) (by decide) | exact Sz.mono (by assumption) (by decide)), fun vaA va0 va1 H10 s10 g10 f10_0 hva => ?_⟩
                exact k _ _ _ _ (s1.trans (s2.trans ((ext_of s3).trans s10))) g10 f10_0 (by exact hva.sz.mono (by decide)) (by have := hva.rng; omega) (by have := hva.rng; omega)

/-! _law_next@2 -/
def sp__law_next_2 (K : PySem.W.Frag) : Sp := fun vs H Q _ => ∃ (sourceA : Addr) (base : Int) (precision : Int) (xA : Addr) (x0 : Int) (x1 : Int), vs = [V.ref sourceA, V.int base, V.int precision, V.ref xA] ∧ IsSrc H sourceA ∧ H xA = some (.tup [V.int x0, V.int x1]) ∧ (2 ≤ base) ∧ (base ≤ 36) ∧ (3 ≤ precision) ∧ (precision ≤ 42) ∧ (Sz 900 x0) ∧ (-50 ≤ x1) ∧ (x1 ≤ 731) ∧ ∀ (rA : Addr) (r0 : Int) (r1 : Int) (H' : Hp), Ext H H' → IsSrc H' sourceA → H' rA = some (.tup [V.int r0, V.int r1]) → (Sz 1100 r0) → (-80 ≤ r1) → (r1 ≤ 762) → Q (V.ref rA) H'
abbrev s__law_next_2 : Stmt := top 35
theorem sc__law_next_2 : FnScope ["source", "base", "precision", "x", "kind", "shift", "scaled"] ["source", "base", "precision", "x"] (defScope s__law_next_2) := ⟨rfl, rfl, rfl, by decide +kernel, rfl, by decide +kernel, by decide +kernel⟩
theorem vis__law_next_2 : visB ["source", "base", "precision", "x", "kind", "shift", "scaled"] (defScope s__law_next_2) = true := by decide +kernel
theorem gl__law_next_2 : glB ["_law_draw", "_law_power", "_law_value"] (defScope s__law_next_2) = true := by decide +kernel
theorem ok__law_next_2 {P : Program} {w : World} {K : PySem.W.Frag} {mg : Str → Option Value} {base : Heap} (T : Txt w K mg) : OkD P w K mg base 4 (He.fAd K ("_law_next", none)) ["source", "base", "precision", "x"] [] (sp__law_next_2 K) := by
  obtain ⟨fd, F⟩ := T.d__law_next
  refine ⟨fd, [], F.kp, F.bindsN (fun _ _ _ _ _ _ us hl => match us, hl with | [_, _, _, _], _ => rfl), .nil, ?_⟩
  have sc := sc__law_next_2; have vis := vis__law_next_2; have gls := gl__law_next_2
  refine F.ok sc (fun vs H Q E h => ?_) (fun cdv A outer s H0 vs Q E hr h => ?_)
  · obtain ⟨sourceA, base, precision, xA, x0, x1, rfl, _⟩ := h; rfl
  · obtain ⟨sourceA, base, precision, xA, x0, x1, rfl, a0, a1, e0, e1, e2, e3, e4, e5, e6, k⟩ := h
    refine ⟨_, PSs.nox (pss_cons (ps_set (i := 4) sc.nd rfl (.inl rfl) (pcD (ok__law_draw T) (hr.mono (by decide)) gls 0 T.g__law_draw (pa_cons (pn vis 0) (pa_cons pe_int pa_nil)))) (pss_cons (ps_set (i := 5) sc.nd rfl (.inl rfl) (pcD (ok__law_draw T) (hr.mono (by decide)) gls 0 T.g__law_draw (pa_cons (pn vis 0) (pa_cons pe_int pa_nil)))) (pss_cons (ps_set (i := 6) sc.nd rfl (.inl rfl) (pe_op op_mulX (pe_ix ix_tup (pn vis 3) pe_int (fun _ _ => rfl)) (pcD (ok__law_power T) (hr.mono (by decide)) gls 1 T.g__law_power (pa_cons (pn vis 1) (pa_cons (pn vis 5) pa_nil))))) (pss_cons (ps_if (pt_cmpR op_eqI (pn vis 4) pe_int (nomark _)) (pss_one (ps_ret (pe_tup (pa_cons (pn vis 6) (pa_cons (pe_op op_sub (pe_ix ix_tup (pn vis 3) pe_int (fun _ _ => rfl)) (pn vis 5)) pa_nil))))) pss_nil) (pss_cons (ps_if (pt_cmpR op_eqI (pn vis 4) pe_int (nomark _)) (pss_one (ps_ret (pe_tup (pa_cons (pe_op op_add (pn vis 6) pe_int) (pa_cons (pe_op op_sub (pe_ix ix_tup (pn vis 3) pe_int (fun _ _ => rfl)) (pn vis 5)) pa_nil))))) pss_nil) (pss_cons (ps_if (pt_cmpR op_eqI (pn vis 4) pe_int (nomark _)) (pss_one (ps_ret (pe_tup (pa_cons (pe_op op_sub (pn vis 6) pe_int) (pa_cons (pe_op op_sub (pe_ix ix_tup (pn vis 3) pe_int (fun _ _ => rfl)) (pn vis 5)) pa_nil))))) pss_nil) (pss_cons (ps_if (pt_cmpR op_eqI (pn vis 4) pe_int (nomark _)) (pss_one (ps_ret (pe_tup (pa_cons (pe_op op_sub pe_int (pe_ix ix_tup (pn vis 3) pe_int (fun _ _ => rfl))) (pa_cons (pe_ix ix_tup (pn vis 3) pe_int (fun _ _ => rfl)) pa_nil))))) pss_nil) (pss_cons (ps_if (pt_cmpR op_eqI (pn vis 4) pe_int (nomark _)) (pss_one (ps_ret (pe_tup (pa_cons (pe_ix ix_tup (pn vis 3) pe_int (fun _ _ => rfl)) (pa_cons (pe_op op_add (pe_op op_add (pe_ix ix_tup (pn vis 3) pe_int (fun _ _ => rfl)) pe_int) (pn vis 5)) pa_nil))))) pss_nil) (pss_cons (ps_if (pt_cmpR op_eqI (pn vis 4) pe_int (nomark _)) (pss_one (ps_ret (pe_tup (pa_cons pe_int (pa_cons (pn vis 5) pa_nil))))) pss_nil) (pss_one (ps_ret (pcD (ok__law_value T) (hr.mono (by decide)) gls 2 T.g__law_value (pa_cons (pn vis 0) (pa_cons (pn vis 1) (pa_cons (pn vis 2) pa_nil))))))))))))))), ?_⟩
    refine i_start (σ' := [some (V.ref sourceA), some (V.int base), some (V.int precision), some (V.ref xA), none, none, none]) rfl ?_
    refine i_seq <| i_asg <| i_call <| i_cons <| v0 <| i_cons <| i_c <| i_nil <| ⟨_, _, rfl, a0, (by first | assumption | omega | rfl | exact Sz.zero | exact Sz.sm (by omega) (by omega) (by decide) | exact Sz.mono (by assumption) (by decide)), (by first | assumption | omega | rfl | exact Sz.zero | exact Sz.sm (by omega) (by omega) (by decide) | exact Sz.mono (by assumption) (by decide)), fun kind H1 s1 g1 hkind0 hkind1 => ?_⟩
    refine n4 <| i_nx <| i_seq <| i_asg <| i_call <| i_cons <| v0 <| i_cons <| i_c <| i_nil <| ⟨_, _, rfl, g1, (by first | assumption | omega | rfl | exact Sz.zero | exact Sz.sm (by omega) (by omega) (by decide) | exact Sz.mono (by assumption) (by decide)), (by first | assumption | omega | rfl | exact Sz.zero | exact Sz.sm (by omega) (by omega) (by decide) | exact Sz.mono (by assumption) (by decide)), fun shift H2 s2 g2 hshift0 hshift1 => ?_⟩
    refine n5 <| i_nx <| i_seq <| i_asg <| i_op <| i_op <| v3 <| i_c <| i_ixT (SqT.of ((s1.trans s2) _ _ trivial a1)) (atI_nat (j := 0) rfl) <| i_call <| i_cons <| v1 <| i_cons <| v5 <| i_nil <| ⟨_, _, rfl, (by first | assumption | omega | rfl | exact Sz.zero | exact Sz.sm (by omega) (by omega) (by decide) | exact Sz.mono (by assumption) (by decide)), (by first | assumption | omega | rfl | exact Sz.zero | exact Sz.sm (by omega) (by omega) (by decide) | exact Sz.mono (by assumption) (by decide)), (by unfold Sz; omega), fun pw H3 s3 hpw => ?_⟩
    refine i_I (by exact mulx (a := 900) (b := 175) e4 (by rw [hpw]; exact (Sz.pow36 e0 e1 _).mono (by omega))) <| nI6 (fun scaled hscaled => ?_)
    refine i_nx <| i_seq <| ?_
    have zs : Sz 1075 scaled := by rw [hscaled, hpw]; exact e4.mul (a := 900) (b := 175) ((Sz.pow36 e0 e1 _).mono (by omega))
    refine i_if <| i_test <| i_op <| v4 <| i_c <| i_I0 <| i_bl <| i_ite (fun c4 => ?_) (fun c4 => ?_)
    ·
      refine i_ret <| i_tup <| i_cons <| v6 <| i_cons <| i_op <| i_op <| v3 <| i_c <| i_ixT (SqT.of ((s1.trans (s2.trans (ext_of s3))) _ _ trivial a1)) (atI_nat (j := 1) rfl) <| v5 <| i_I0 <| i_nil <| i_kTup (of_decide_eq_true rfl) (fun p4 H4 z4 s4 f4 => ?_)
      exact k _ _ _ _ (s1.trans (s2.trans ((ext_of s3).trans (ext_of s4)))) (same_src (s3.trans s4) g2) f4 (by exact zs.mono (by decide)) (by first | rfl | assumption | omega) (by first | rfl | assumption | omega)
    ·
      refine i_next <| i_nx <| i_seq <| i_if <| i_test <| i_op <| v4 <| i_c <| i_I0 <| i_bl <| i_ite (fun c6 => ?_) (fun c6 => ?_)
      ·
        refine i_ret <| i_tup <| i_cons <| i_op <| v6 <| i_c <| i_I0 <| i_cons <| i_op <| i_op <| v3 <| i_c <| i_ixT (SqT.of ((s1.trans (s2.trans (ext_of s3))) _ _ trivial a1)) (atI_nat (j := 1) rfl) <| v5 <| i_I0 <| i_nil <| i_kTup (of_decide_eq_true rfl) (fun p5 H5 z5 s5 f5 => ?_)
        exact k _ _ _ _ (s1.trans (s2.trans ((ext_of s3).trans (ext_of s5)))) (same_src (s3.trans s5) g2) f5 (by exact (Sz.add (a := 1075) zs (Sz.sm (by omega) (by omega) (by decide))).mono (by decide)) (by first | rfl | assumption | omega) (by first | rfl | assumption | omega)
      ·
        refine i_next <| i_nx <| i_seq <| i_if <| i_test <| i_op <| v4 <| i_c <| i_I0 <| i_bl <| i_ite (fun c8 => ?_) (fun c8 => ?_)
        ·
          refine i_ret <| i_tup <| i_cons <| i_op <| v6 <| i_c <| i_I0 <| i_cons <| i_op <| i_op <| v3 <| i_c <| i_ixT (SqT.of ((s1.trans (s2.trans (ext_of s3))) _ _ trivial a1)) (atI_nat (j := 1) rfl) <| v5 <| i_I0 <| i_nil <| i_kTup (of_decide_eq_true rfl) (fun p6 H6 z6 s6 f6 => ?_)
          exact k _ _ _ _ (s1.trans (s2.trans ((ext_of s3).trans (ext_of s6)))) (same_src (s3.trans s6) g2) f6 (by exact (Sz.sub (a := 1075) zs (Sz.sm (by omega) (by omega) (by decide))).mono (by decide)) (by first | rfl | assumption | omega) (by first | rfl | assumption | omega)
        ·
          refine i_next <| i_nx <| i_seq <| i_if <| i_test <| i_op <| v4 <| i_c <| i_I0 <| i_bl <| i_ite (fun c10 => ?_) (fun c10 => ?_)
          ·
            refine i_ret <| i_tup <| i_cons <| i_op <| i_c <| i_op <| v3 <| i_c <| i_ixT (SqT.of ((s1.trans (s2.trans (ext_of s3))) _ _ trivial a1)) (atI_nat (j := 0) rfl) <| i_I0 <| i_cons <| i_op <| v3 <| i_c <| i_ixT (SqT.of ((s1.trans (s2.trans (ext_of s3))) _ _ trivial a1)) (atI_nat (j := 1) rfl) <| i_nil <| i_kTup (of_decide_eq_true rfl) (fun p7 H7 z7 s7 f7 => ?_)
            exact k _ _ _ _ (s1.trans (s2.trans ((ext_of s3).trans (ext_of s7)))) (same_src (s3.trans s7) g2) f7 (by rw [Int.zero_sub]; exact e4.neg.mono (by decide)) (by first | rfl | assumption | omega) (by first | rfl | assumption | omega)
          ·
            refine i_next <| i_nx <| i_seq <| i_if <| i_test <| i_op <| v4 <| i_c <| i_I0 <| i_bl <| i_ite (fun c12 => ?_) (fun c12 => ?_)
            ·
              refine i_ret <| i_tup <| i_cons <| i_op <| v3 <| i_c <| i_ixT (SqT.of ((s1.trans (s2.trans (ext_of s3))) _ _ trivial a1)) (atI_nat (j := 0) rfl) <| i_cons <| i_op <| i_op <| i_op <| v3 <| i_c <| i_ixT (SqT.of ((s1.trans (s2.trans (ext_of s3))) _ _ trivial a1)) (atI_nat (j := 1) rfl) <| i_c <| i_I0 <| v5 <| i_I0 <| i_nil <| i_kTup (of_decide_eq_true rfl) (fun p8 H8 z8 s8 f8 => ?_)
              exact k _ _ _ _ (s1.trans (s2.trans ((ext_of s3).trans (ext_of s8)))) (same_src (s3.trans s8) g2) f8 (by exact e4.mono (by decide)) (by first | rfl | assumption | omega) (by first | rfl | assumption | omega)
            ·
              refine i_next <| i_nx <| i_seq <| i_if <| i_test <| i_op <| v4 <| i_c <| i_I0 <| i_bl <| i_ite (fun c14 => ?_) (fun c14 => ?_)
              ·
                refine i_ret <| i_tup <| i_cons <| i_c <| i_cons <| v5 <| i_nil <| i_kTup (of_decide_eq_true rfl) (fun p9 H9 z9 s9 f9 => ?_)
                exact k _ _ _ _ (s1.trans (s2.trans ((ext_of s3).trans (ext_of s9)))) (same_src (s3.trans s9) g2) f9 (by exact Sz.zero) (by first | rfl | assumption | omega) (by first | rfl | assumption | omega)
              ·
                refine i_next <| i_nx <| i_ret <| i_call <| i_cons <| v0 <| i_cons <| v1 <| i_cons <| v2 <| i_nil <| ⟨_, _, _, rfl, (same_src s3 g2), (by first | assumption | omega | rfl | exact Sz.zero | exact Sz.sm (by omega) (by omega) (by decide) | exact Sz.mono (by assumption) (by decide)), (by first | assumption | omega | rfl | exact Sz.zero | exact Sz.sm (by omega) (by omega) (by decide) | exact Sz.mono (by assumption) (by decide)), (by first | assumption | omega | rfl | exact Sz.zero | exact Sz.sm (by omega) (by omega) (by decide) | exact Sz.mono (by assumption) (by decide)), (by first | assumption | omega | rfl | exact Sz.zero | exact Sz.sm (by omega) (by omega) (by decide) | exact Sz.mono (by assumption) (by decide)), fun vaA va0 va1 H10 s10 g10 f10_0 hva => ?_⟩
                exact k _ _ _ _ (s1.trans (s2.trans ((ext_of s3).trans s10))) g10 f10_0 (by exact hva.sz.mono (by decide)) (by have := hva.rng; omega) (by have := hva.rng; omega)

/-! _law_compared -/
def sp__law_compared (K : PySem.W.Frag) : Sp := fun vs H Q _ => ∃ (aA : Addr) (a : EN) (bA : Addr) (b : EN) (base : Int) (xA : Addr) (x0 : Int) (x1 : Int) (yA : Addr) (y0 : Int) (y1 : Int), vs = [V.ref aA, V.ref bA, V.int base, V.ref xA, V.ref yA] ∧ IsI (He.ga K "Exact") H aA (exF a) ∧ IsI (He.ga K "Exact") H bA (exF b) ∧ H xA = some (.tup [V.int x0, V.int x1]) ∧ H yA = some (.tup [V.int y0, V.int y1]) ∧ (2 ≤ base) ∧ (base ≤ 36) ∧ (a = nrm base x0 x1) ∧ (b = nrm base y0 y1) ∧ (Ad a b) ∧ (Sz 9000 x0) ∧ (Sz 9000 y0) ∧ (-9000 ≤ x1 ∧ x1 ≤ 9000) ∧ (-9000 ≤ y1 ∧ y1 ≤ 9000) ∧ ∀  (H' : Hp), Same H H' → Q (V.bl true) H'
abbrev s__law_compared : Stmt := top 36
theorem sc__law_compared : FnScope ["a", "b", "base", "x", "y", "off", "told"] ["a", "b", "base", "x", "y"] (defScope s__law_compared) := ⟨rfl, rfl, rfl, by decide +kernel, rfl, by decide +kernel, by decide +kernel⟩
theorem vis__law_compared : visB ["a", "b", "base", "x", "y", "off", "told"] (defScope s__law_compared) = true := by decide +kernel
theorem gl__law_compared : glB ["_law_sum", "_law_equal"] (defScope s__law_compared) = true := by decide +kernel
theorem ok__law_compared {P : Program} {w : World} {K : PySem.W.Frag} {mg : Str → Option Value} {base : Heap} (T : Txt w K mg) : OkD P w K mg base 5 (He.fAd K ("_law_compared", none)) ["a", "b", "base", "x", "y"] [] (sp__law_compared K) := by
  obtain ⟨fd, F⟩ := T.d__law_compared
  refine ⟨fd, [], F.kp, F.bindsN (fun _ _ _ _ _ _ us hl => match us, hl with | [_, _, _, _, _], _ => rfl), .nil, ?_⟩
  have sc := sc__law_compared; have vis := vis__law_compared; have gls := gl__law_compared
  refine F.ok sc (fun vs H Q E h => ?_) (fun cdv A outer s H0 vs Q E hr h => ?_)
  · obtain ⟨aA, a, bA, b, base, xA, x0, x1, yA, y0, y1, rfl, _⟩ := h; rfl
  · obtain ⟨aA, a, bA, b, base, xA, x0, x1, yA, y0, y1, rfl, a0, a1, a2, a3, e0, e1, e2, e3, e4, e5, e6, e7, e8, k⟩ := h
    refine ⟨_, PSs.nox (pss_cons (ps_set (i := 5) sc.nd rfl (.inl rfl) (pe_ix ix_tup (pcD (ok__law_sum T) (hr.mono (by decide)) gls 0 T.g__law_sum (pa_cons (pn vis 2) (pa_cons (pn vis 3) (pa_cons (pn vis 4) (pa_cons (pe_op op_sub pe_int pe_int) pa_nil))))) pe_int (fun _ _ => rfl))) (pss_cons (ps_set (i := 6) sc.nd rfl (.inl rfl) (pe_lst (pa_cons (pe_cmpR (op_cmpO T.cmp_Exact___lt__ (ok_Exact___lt___ex T) (hr.mono (by decide))) (pn vis 0) (pn vis 1) (nomark _)) (pa_cons (pe_cmpR (op_cmpO T.cmp_Exact___le__ (ok_Exact___le___ex T) (hr.mono (by decide))) (pn vis 0) (pn vis 1) (nomark _)) (pa_cons (pe_cmpR (op_cmpO T.cmp_Exact___gt__ (ok_Exact___gt___ex T) (hr.mono (by decide))) (pn vis 0) (pn vis 1) (nomark _)) (pa_cons (pe_cmpR (op_cmpO T.cmp_Exact___ge__ (ok_Exact___ge___ex T) (hr.mono (by decide))) (pn vis 0) (pn vis 1) (nomark _)) (pa_cons (pe_cmpR (op_cmpO T.cmp_Exact___eq__ (ok_Exact___eq___ex T) (hr.mono (by decide))) (pn vis 0) (pn vis 1) (nomark _)) (pa_cons (pe_cmpR (op_neO T.ne_Exact (ok_Exact___eq___ex T) (hr.mono (by decide))) (pn vis 0) (pn vis 1) (nomark _)) pa_nil)))))))) (pss_one (ps_ret (pcD (ok__law_equal_Lb T) (hr.mono (by decide)) gls 1 T.g__law_equal (pa_cons (pn vis 6) (pa_cons (pe_lst (pa_cons (pe_cmpR op_lt (pn vis 5) pe_int (nomark _)) (pa_cons (pe_cmpR op_le (pn vis 5) pe_int (nomark _)) (pa_cons (pe_cmpR op_gt (pn vis 5) pe_int (nomark _)) (pa_cons (pe_cmpR op_ge (pn vis 5) pe_int (nomark _)) (pa_cons (pe_cmpR op_eqI (pn vis 5) pe_int (nomark _)) (pa_cons (pe_cmpR op_neI (pn vis 5) pe_int (nomark _)) pa_nil))))))) pa_nil))))))), ?_⟩
    refine i_start (σ' := [some (V.ref aA), some (V.ref bA), some (V.int base), some (V.ref xA), some (V.ref yA), none, none]) rfl ?_
    refine i_seq <| i_asg <| i_op <| i_call <| i_cons <| v2 <| i_cons <| v3 <| i_cons <| v4 <| i_cons <| i_op <| i_c <| i_c <| i_I0 <| i_nil <| ⟨_, _, _, _, _, _, _, _, rfl, a2, a3, (by first | assumption | omega | rfl | exact Sz.zero | exact Sz.sm (by omega) (by omega) (by decide) | exact Sz.mono (by assumption) (by decide)), (by first | assumption | omega | rfl | exact Sz.zero | exact Sz.sm (by omega) (by omega) (by decide) | exact Sz.mono (by assumption) (by decide)), (by first | assumption | omega | rfl | exact Sz.zero | exact Sz.sm (by omega) (by omega) (by decide) | exact Sz.mono (by assumption) (by decide)), (by first | assumption | omega | rfl | exact Sz.zero | exact Sz.sm (by omega) (by omega) (by decide) | exact Sz.mono (by assumption) (by decide)), (by first | assumption | omega | rfl | exact Sz.zero | exact Sz.sm (by omega) (by omega) (by decide) | exact Sz.mono (by assumption) (by decide)), (by first | assumption | omega | rfl | exact Sz.zero | exact Sz.sm (by omega) (by omega) (by decide) | exact Sz.mono (by assumption) (by decide)), (by first | assumption | omega | rfl | exact Sz.zero | exact Sz.sm (by omega) (by omega) (by decide) | exact Sz.mono (by assumption) (by decide)), fun ofA of0 of1 H1 s1 f1_0 hof => ?_⟩
    refine i_c <| i_ixT (SqT.of f1_0) (atI_nat (j := 0) rfl) <| n5 <| i_nx <| i_seq <| ?_
    have a2 : 2 ≤ a.b := by rw [e2, nrm_b]; exact e0
    have a36 : a.b ≤ 36 := by rw [e2, nrm_b]; exact e1
    refine i_asg <| i_lst <| i_cons <| i_op <| v0 <| v1 <| i_cmpO (same_ins s1 a0) (same_ins s1 a1) <| ⟨_, _, _, _, rfl, (same_ins s1 a0), (same_ins s1 a1), (by first | assumption | omega | rfl | exact Sz.zero | exact Sz.sm (by omega) (by omega) (by decide) | exact Sz.mono (by assumption) (by decide)), (by first | assumption | omega | rfl | exact Sz.zero | exact Sz.sm (by omega) (by omega) (by decide) | exact Sz.mono (by assumption) (by decide)), (by first | assumption | omega | rfl | exact Sz.zero | exact Sz.sm (by omega) (by omega) (by decide) | exact Sz.mono (by assumption) (by decide)), fun p1 H2 s2 hp1 => ?_⟩
    refine i_cons <| i_op <| v0 <| v1 <| i_cmpO (same_ins (s1.trans s2) a0) (same_ins (s1.trans s2) a1) <| ⟨_, _, _, _, rfl, (same_ins (s1.trans s2) a0), (same_ins (s1.trans s2) a1), (by first | assumption | omega | rfl | exact Sz.zero | exact Sz.sm (by omega) (by omega) (by decide) | exact Sz.mono (by assumption) (by decide)), (by first | assumption | omega | rfl | exact Sz.zero | exact Sz.sm (by omega) (by omega) (by decide) | exact Sz.mono (by assumption) (by decide)), (by first | assumption | omega | rfl | exact Sz.zero | exact Sz.sm (by omega) (by omega) (by decide) | exact Sz.mono (by assumption) (by decide)), fun p2 H3 s3 hp2 => ?_⟩
    refine i_cons <| i_op <| v0 <| v1 <| i_cmpO (same_ins (s1.trans (s2.trans s3)) a0) (same_ins (s1.trans (s2.trans s3)) a1) <| ⟨_, _, _, _, rfl, (same_ins (s1.trans (s2.trans s3)) a0), (same_ins (s1.trans (s2.trans s3)) a1), (by first | assumption | omega | rfl | exact Sz.zero | exact Sz.sm (by omega) (by omega) (by decide) | exact Sz.mono (by assumption) (by decide)), (by first | assumption | omega | rfl | exact Sz.zero | exact Sz.sm (by omega) (by omega) (by decide) | exact Sz.mono (by assumption) (by decide)), (by first | assumption | omega | rfl | exact Sz.zero | exact Sz.sm (by omega) (by omega) (by decide) | exact Sz.mono (by assumption) (by decide)), fun p3 H4 s4 hp3 => ?_⟩
    refine i_cons <| i_op <| v0 <| v1 <| i_cmpO (same_ins (s1.trans (s2.trans (s3.trans s4))) a0) (same_ins (s1.trans (s2.trans (s3.trans s4))) a1) <| ⟨_, _, _, _, rfl, (same_ins (s1.trans (s2.trans (s3.trans s4))) a0), (same_ins (s1.trans (s2.trans (s3.trans s4))) a1), (by first | assumption | omega | rfl | exact Sz.zero | exact Sz.sm (by omega) (by omega) (by decide) | exact Sz.mono (by assumption) (by decide)), (by first | assumption | omega | rfl | exact Sz.zero | exact Sz.sm (by omega) (by omega) (by decide) | exact Sz.mono (by assumption) (by decide)), (by first | assumption | omega | rfl | exact Sz.zero | exact Sz.sm (by omega) (by omega) (by decide) | exact Sz.mono (by assumption) (by decide)), fun p4 H5 s5 hp4 => ?_⟩
    refine i_cons <| i_op <| v0 <| v1 <| i_cmpO (same_ins (s1.trans (s2.trans (s3.trans (s4.trans s5)))) a0) (same_ins (s1.trans (s2.trans (s3.trans (s4.trans s5)))) a1) <| ⟨_, _, _, _, rfl, (same_ins (s1.trans (s2.trans (s3.trans (s4.trans s5)))) a0), (same_ins (s1.trans (s2.trans (s3.trans (s4.trans s5)))) a1), fun p5 H6 s6 hp5 => ?_⟩
    refine i_cons <| i_op <| v0 <| v1 <| i_not2 <| i_cmpO (same_ins (s1.trans (s2.trans (s3.trans (s4.trans (s5.trans s6))))) a0) (same_ins (s1.trans (s2.trans (s3.trans (s4.trans (s5.trans s6))))) a1) <| ⟨_, _, _, _, rfl, (same_ins (s1.trans (s2.trans (s3.trans (s4.trans (s5.trans s6))))) a0), (same_ins (s1.trans (s2.trans (s3.trans (s4.trans (s5.trans s6))))) a1), fun p6 H7 s7 hp6 => ?_⟩
    refine i_kNot <| i_nil <| i_kLst (of_decide_eq_true rfl) (fun p8 H8 z8 s8 f8 => ?_)
    refine n6 <| i_nx <| i_ret <| i_call <| i_cons <| v6 <| i_cons <| i_lst <| i_cons <| i_op <| v5 <| i_c <| i_I0 <| i_cons <| i_op <| v5 <| i_c <| i_I0 <| i_cons <| i_op <| v5 <| i_c <| i_I0 <| i_cons <| i_op <| v5 <| i_c <| i_I0 <| i_cons <| i_op <| v5 <| i_c <| i_I0 <| i_cons <| i_op <| v5 <| i_c <| i_I0 <| i_nil <| i_kLst (of_decide_eq_true rfl) (fun p9 H9 z9 s9 f9 => ?_)
    refine i_nil <| ⟨_, [_, _, _, _, _, _], _, [_, _, _, _, _, _], rfl, (s9 _ _ f8), f9, (by exact told_ok e0 e1 e2 e3 hof hp1 hp2 hp3 hp4 hp5 hp6), (by simp), fun H11 s11 => ?_⟩
    exact k _ (s1.trans (s2.trans (s3.trans (s4.trans (s5.trans (s6.trans (s7.trans (s8.trans (s9.trans s11)))))))))

/-! _law_unlike@int -/
def sp__law_unlike_int (K : PySem.W.Frag) : Sp := fun vs H Q _ => ∃ (aA : Addr) (a : EN) (thing : Int), vs = [V.ref aA, V.int thing] ∧ IsI (He.ga K "Exact") H aA (exF a) ∧ ∀  (H' : Hp), Same H H' → Q (V.bl true) H'
abbrev s__law_unlike_int : Stmt := top 37
theorem sc__law_unlike_int : FnScope ["a", "thing"] ["a", "thing"] (defScope s__law_unlike_int) := ⟨rfl, rfl, rfl, by decide +kernel, rfl, by decide +kernel, by decide +kernel⟩
theorem vis__law_unlike_int : visB ["a", "thing"] (defScope s__law_unlike_int) = true := by decide +kernel
theorem gl__law_unlike_int : glB ["_law_equal"] (defScope s__law_unlike_int) = true := by decide +kernel
theorem ok__law_unlike_int {P : Program} {w : World} {K : PySem.W.Frag} {mg : Str → Option Value} {base : Heap} (T : Txt w K mg) : OkD P w K mg base 3 (He.fAd K ("_law_unlike", none)) ["a", "thing"] [] (sp__law_unlike_int K) := by
  obtain ⟨fd, F⟩ := T.d__law_unlike
  refine ⟨fd, [], F.kp, F.bindsN (fun _ _ _ _ _ _ us hl => match us, hl with | [_, _], _ => rfl), .nil, ?_⟩
  have sc := sc__law_unlike_int; have vis := vis__law_unlike_int; have gls := gl__law_unlike_int
  refine F.ok sc (fun vs H Q E h => ?_) (fun cdv A outer s H0 vs Q E hr h => ?_)
  · obtain ⟨aA, a, thing, rfl, _⟩ := h; rfl
  · obtain ⟨aA, a, thing, rfl, a0, k⟩ := h
    refine ⟨_, PSs.nox (pss_one (ps_ret (pcD (ok__law_equal_Lb T) (hr.mono (by decide)) gls 0 T.g__law_equal (pa_cons (pe_lst (pa_cons (pe_cmpR (op_cmpF T.cmp_Exact___eq__ (ok_Exact___eq___int T) (hr.mono (by decide))) (pn vis 0) (pn vis 1) (nomark _)) (pa_cons (pe_cmpR (op_cmpR T.cmp_Exact___eq__ T.subs_Exact (ok_Exact___eq___int T) (hr.mono (by decide))) (pn vis 1) (pn vis 0) (nomark _)) (pa_cons (pe_cmpR (op_neF T.ne_Exact (ok_Exact___eq___int T) (hr.mono (by decide))) (pn vis 0) (pn vis 1) (nomark _)) (pa_cons (pe_cmpR (op_neR T.ne_Exact T.subs_Exact (ok_Exact___eq___int T) (hr.mono (by decide))) (pn vis 1) (pn vis 0) (nomark _)) pa_nil))))) (pa_cons (pe_lst (pa_cons pe_bl (pa_cons pe_bl (pa_cons pe_bl (pa_cons pe_bl pa_nil))))) pa_nil))))), ?_⟩
    refine i_start (σ' := [some (V.ref aA), some (V.int thing)]) rfl ?_
    refine i_ret <| i_call <| i_cons <| i_lst <| i_cons <| i_op <| v0 <| v1 <| i_cmpF a0 (.int _) <| ⟨_, _, _, rfl, a0, fun H2 s2 => ?_⟩
    refine i_cons <| i_op <| v1 <| v0 <| i_cmpR (same_ins s2 a0) (.int _) <| ⟨_, _, _, rfl, (same_ins s2 a0), fun H4 s4 => ?_⟩
    refine i_cons <| i_op <| v0 <| v1 <| i_not2 <| i_cmpF (same_ins (s2.trans s4) a0) (.int _) <| ⟨_, _, _, rfl, (same_ins (s2.trans s4) a0), fun H6 s6 => ?_⟩
    refine i_kNot <| i_cons <| i_op <| v1 <| v0 <| i_not2 <| i_cmpR (same_ins (s2.trans (s4.trans s6)) a0) (.int _) <| ⟨_, _, _, rfl, (same_ins (s2.trans (s4.trans s6)) a0), fun H8 s8 => ?_⟩
    refine i_kNot <| i_nil <| i_kLst (of_decide_eq_true rfl) (fun p9 H9 z9 s9 f9 => ?_)
    refine i_cons <| i_lst <| i_cons <| i_c <| i_cons <| i_c <| i_cons <| i_c <| i_cons <| i_c <| i_nil <| i_kLst (of_decide_eq_true rfl) (fun p10 H10 z10 s10 f10 => ?_)
    refine i_nil <| ⟨_, [_, _, _, _], _, [_, _, _, _], rfl, (s10 _ _ f9), f10, (by rfl), (by simp), fun H12 s12 => ?_⟩
    exact k _ (s2.trans (s4.trans (s6.trans (s8.trans (s9.trans (s10.trans s12))))))

/-! _law_unlike@str -/
def sp__law_unlike_str (K : PySem.W.Frag) : Sp := fun vs H Q _ => ∃ (aA : Addr) (a : EN) (thing : Str), vs = [V.ref aA, V.str thing] ∧ IsI (He.ga K "Exact") H aA (exF a) ∧ ∀  (H' : Hp), Same H H' → Q (V.bl true) H'
abbrev s__law_unlike_str : Stmt := top 37
theorem sc__law_unlike_str : FnScope ["a", "thing"] ["a", "thing"] (defScope s__law_unlike_str) := ⟨rfl, rfl, rfl, by decide +kernel, rfl, by decide +kernel, by decide +kernel⟩
theorem vis__law_unlike_str : visB ["a", "thing"] (defScope s__law_unlike_str) = true := by decide +kernel
theorem gl__law_unlike_str : glB ["_law_equal"] (defScope s__law_unlike_str) = true := by decide +kernel
theorem ok__law_unlike_str {P : Program} {w : World} {K : PySem.W.Frag} {mg : Str → Option Value} {base : Heap} (T : Txt w K mg) : OkD P w K mg base 3 (He.fAd K ("_law_unlike", none)) ["a", "thing"] [] (sp__law_unlike_str K) := by
  obtain ⟨fd, F⟩ := T.d__law_unlike
  refine ⟨fd, [], F.kp, F.bindsN (fun _ _ _ _ _ _ us hl => match us, hl with | [_, _], _ => rfl), .nil, ?_⟩
  have sc := sc__law_unlike_str; have vis := vis__law_unlike_str; have gls := gl__law_unlike_str
  refine F.ok sc (fun vs H Q E h => ?_) (fun cdv A outer s H0 vs Q E hr h => ?_)
  · obtain ⟨aA, a, thing, rfl, _⟩ := h; rfl
  · obtain ⟨aA, a, thing, rfl, a0, k⟩ := h
    refine ⟨_, PSs.nox (pss_one (ps_ret (pcD (ok__law_equal_Lb T) (hr.mono (by decide)) gls 0 T.g__law_equal (pa_cons (pe_lst (pa_cons (pe_cmpR (op_cmpF T.cmp_Exact___eq__ (ok_Exact___eq___str T) (hr.mono (by decide))) (pn vis 0) (pn vis 1) (nomark _)) (pa_cons (pe_cmpR (op_cmpR T.cmp_Exact___eq__ T.subs_Exact (ok_Exact___eq___str T) (hr.mono (by decide))) (pn vis 1) (pn vis 0) (nomark _)) (pa_cons (pe_cmpR (op_neF T.ne_Exact (ok_Exact___eq___str T) (hr.mono (by decide))) (pn vis 0) (pn vis 1) (nomark _)) (pa_cons (pe_cmpR (op_neR T.ne_Exact T.subs_Exact (ok_Exact___eq___str T) (hr.mono (by decide))) (pn vis 1) (pn vis 0) (nomark _)) pa_nil))))) (pa_cons (pe_lst (pa_cons pe_bl (pa_cons pe_bl (pa_cons pe_bl (pa_cons pe_bl pa_nil))))) pa_nil))))), ?_⟩
    refine i_start (σ' := [some (V.ref aA), some (V.str thing)]) rfl ?_
    refine i_ret <| i_call <| i_cons <| i_lst <| i_cons <| i_op <| v0 <| v1 <| i_cmpF a0 (.str _) <| ⟨_, _, _, rfl, a0, fun H2 s2 => ?_⟩
    refine i_cons <| i_op <| v1 <| v0 <| i_cmpR (same_ins s2 a0) (.str _) <| ⟨_, _, _, rfl, (same_ins s2 a0), fun H4 s4 => ?_⟩
    refine i_cons <| i_op <| v0 <| v1 <| i_not2 <| i_cmpF (same_ins (s2.trans s4) a0) (.str _) <| ⟨_, _, _, rfl, (same_ins (s2.trans s4) a0), fun H6 s6 => ?_⟩
    refine i_kNot <| i_cons <| i_op <| v1 <| v0 <| i_not2 <| i_cmpR (same_ins (s2.trans (s4.trans s6)) a0) (.str _) <| ⟨_, _, _, rfl, (same_ins (s2.trans (s4.trans s6)) a0), fun H8 s8 => ?_⟩
    refine i_kNot <| i_nil <| i_kLst (of_decide_eq_true rfl) (fun p9 H9 z9 s9 f9 => ?_)
    refine i_cons <| i_lst <| i_cons <| i_c <| i_cons <| i_c <| i_cons <| i_c <| i_cons <| i_c <| i_nil <| i_kLst (of_decide_eq_true rfl) (fun p10 H10 z10 s10 f10 => ?_)
    refine i_nil <| ⟨_, [_, _, _, _], _, [_, _, _, _], rfl, (s10 _ _ f9), f10, (by rfl), (by simp), fun H12 s12 => ?_⟩
    exact k _ (s2.trans (s4.trans (s6.trans (s8.trans (s9.trans (s10.trans s12))))))

/-! _law_unlike@None -/
def sp__law_unlike_None (K : PySem.W.Frag) : Sp := fun vs H Q _ => ∃ (aA : Addr) (a : EN), vs = [V.ref aA, V.non] ∧ IsI (He.ga K "Exact") H aA (exF a) ∧ ∀  (H' : Hp), Same H H' → Q (V.bl true) H'
abbrev s__law_unlike_None : Stmt := top 37
theorem sc__law_unlike_None : FnScope ["a", "thing"] ["a", "thing"] (defScope s__law_unlike_None) := ⟨rfl, rfl, rfl, by decide +kernel, rfl, by decide +kernel, by decide +kernel⟩
theorem vis__law_unlike_None : visB ["a", "thing"] (defScope s__law_unlike_None) = true := by decide +kernel
theorem gl__law_unlike_None : glB ["_law_equal"] (defScope s__law_unlike_None) = true := by decide +kernel
theorem ok__law_unlike_None {P : Program} {w : World} {K : PySem.W.Frag} {mg : Str → Option Value} {base : Heap} (T : Txt w K mg) : OkD P w K mg base 3 (He.fAd K ("_law_unlike", none)) ["a", "thing"] [] (sp__law_unlike_None K) := by
  obtain ⟨fd, F⟩ := T.d__law_unlike
  refine ⟨fd, [], F.kp, F.bindsN (fun _ _ _ _ _ _ us hl => match us, hl with | [_, _], _ => rfl), .nil, ?_⟩
  have sc := sc__law_unlike_None; have vis := vis__law_unlike_None; have gls := gl__law_unlike_None
  refine F.ok sc (fun vs H Q E h => ?_) (fun cdv A outer s H0 vs Q E hr h => ?_)
  · obtain ⟨aA, a, rfl, _⟩ := h; rfl
  · obtain ⟨aA, a, rfl, a0, k⟩ := h
    refine ⟨_, PSs.nox (pss_one (ps_ret (pcD (ok__law_equal_Lb T) (hr.mono (by decide)) gls 0 T.g__law_equal (pa_cons (pe_lst (pa_cons (pe_cmpR (op_cmpF T.cmp_Exact___eq__ (ok_Exact___eq___None T) (hr.mono (by decide))) (pn vis 0) (pn vis 1) (nomark _)) (pa_cons (pe_cmpR (op_cmpR T.cmp_Exact___eq__ T.subs_Exact (ok_Exact___eq___None T) (hr.mono (by decide))) (pn vis 1) (pn vis 0) (nomark _)) (pa_cons (pe_cmpR (op_neF T.ne_Exact (ok_Exact___eq___None T) (hr.mono (by decide))) (pn vis 0) (pn vis 1) (nomark _)) (pa_cons (pe_cmpR (op_neR T.ne_Exact T.subs_Exact (ok_Exact___eq___None T) (hr.mono (by decide))) (pn vis 1) (pn vis 0) (nomark _)) pa_nil))))) (pa_cons (pe_lst (pa_cons pe_bl (pa_cons pe_bl (pa_cons pe_bl (pa_cons pe_bl pa_nil))))) pa_nil))))), ?_⟩
    refine i_start (σ' := [some (V.ref aA), some (V.non)]) rfl ?_
    refine i_ret <| i_call <| i_cons <| i_lst <| i_cons <| i_op <| v0 <| v1 <| i_cmpF a0 .non <| ⟨_, _, rfl, a0, fun H2 s2 => ?_⟩
    refine i_cons <| i_op <| v1 <| v0 <| i_cmpR (same_ins s2 a0) .non <| ⟨_, _, rfl, (same_ins s2 a0), fun H4 s4 => ?_⟩
    refine i_cons <| i_op <| v0 <| v1 <| i_not2 <| i_cmpF (same_ins (s2.trans s4) a0) .non <| ⟨_, _, rfl, (same_ins (s2.trans s4) a0), fun H6 s6 => ?_⟩
    refine i_kNot <| i_cons <| i_op <| v1 <| v0 <| i_not2 <| i_cmpR (same_ins (s2.trans (s4.trans s6)) a0) .non <| ⟨_, _, rfl, (same_ins (s2.trans (s4.trans s6)) a0), fun H8 s8 => ?_⟩
    refine i_kNot <| i_nil <| i_kLst (of_decide_eq_true rfl) (fun p9 H9 z9 s9 f9 => ?_)
    refine i_cons <| i_lst <| i_cons <| i_c <| i_cons <| i_c <| i_cons <| i_c <| i_cons <| i_c <| i_nil <| i_kLst (of_decide_eq_true rfl) (fun p10 H10 z10 s10 f10 => ?_)
    refine i_nil <| ⟨_, [_, _, _, _], _, [_, _, _, _], rfl, (s10 _ _ f9), f10, (by rfl), (by simp), fun H12 s12 => ?_⟩
    exact k _ (s2.trans (s4.trans (s6.trans (s8.trans (s9.trans (s10.trans s12))))))

/-! _law_unlike@tup -/
def sp__law_unlike_tup (K : PySem.W.Frag) : Sp := fun vs H Q _ => ∃ (aA : Addr) (a : EN) (thingA : Addr) (thing0 : Int) (thing1 : Int), vs = [V.ref aA, V.ref thingA] ∧ IsI (He.ga K "Exact") H aA (exF a) ∧ H thingA = some (.tup [V.int thing0, V.int thing1]) ∧ ∀  (H' : Hp), Same H H' → Q (V.bl true) H'
abbrev s__law_unlike_tup : Stmt := top 37
theorem sc__law_unlike_tup : FnScope ["a", "thing"] ["a", "thing"] (defScope s__law_unlike_tup) := ⟨rfl, rfl, rfl, by decide +kernel, rfl, by decide +kernel, by decide +kernel⟩
theorem vis__law_unlike_tup : visB ["a", "thing"] (defScope s__law_unlike_tup) = true := by decide +kernel
theorem gl__law_unlike_tup : glB ["_law_equal"] (defScope s__law_unlike_tup) = true := by decide +kernel
theorem ok__law_unlike_tup {P : Program} {w : World} {K : PySem.W.Frag} {mg : Str → Option Value} {base : Heap} (T : Txt w K mg) : OkD P w K mg base 3 (He.fAd K ("_law_unlike", none)) ["a", "thing"] [] (sp__law_unlike_tup K) := by
  obtain ⟨fd, F⟩ := T.d__law_unlike
  refine ⟨fd, [], F.kp, F.bindsN (fun _ _ _ _ _ _ us hl => match us, hl with | [_, _], _ => rfl), .nil, ?_⟩
  have sc := sc__law_unlike_tup; have vis := vis__law_unlike_tup; have gls := gl__law_unlike_tup
  refine F.ok sc (fun vs H Q E h => ?_) (fun cdv A outer s H0 vs Q E hr h => ?_)
  · obtain ⟨aA, a, thingA, thing0, thing1, rfl, _⟩ := h; rfl
  · obtain ⟨aA, a, thingA, thing0, thing1, rfl, a0, a1, k⟩ := h
    refine ⟨_, PSs.nox (pss_one (ps_ret (pcD (ok__law_equal_Lb T) (hr.mono (by decide)) gls 0 T.g__law_equal (pa_cons (pe_lst (pa_cons (pe_cmpR (op_cmpF T.cmp_Exact___eq__ (ok_Exact___eq___tup T) (hr.mono (by decide))) (pn vis 0) (pn vis 1) (nomark _)) (pa_cons (pe_cmpR (op_cmpR T.cmp_Exact___eq__ T.subs_Exact (ok_Exact___eq___tup T) (hr.mono (by decide))) (pn vis 1) (pn vis 0) (nomark _)) (pa_cons (pe_cmpR (op_neF T.ne_Exact (ok_Exact___eq___tup T) (hr.mono (by decide))) (pn vis 0) (pn vis 1) (nomark _)) (pa_cons (pe_cmpR (op_neR T.ne_Exact T.subs_Exact (ok_Exact___eq___tup T) (hr.mono (by decide))) (pn vis 1) (pn vis 0) (nomark _)) pa_nil))))) (pa_cons (pe_lst (pa_cons pe_bl (pa_cons pe_bl (pa_cons pe_bl (pa_cons pe_bl pa_nil))))) pa_nil))))), ?_⟩
    refine i_start (σ' := [some (V.ref aA), some (V.ref thingA)]) rfl ?_
    refine i_ret <| i_call <| i_cons <| i_lst <| i_cons <| i_op <| v0 <| v1 <| i_cmpF a0 (.tup a1) <| ⟨_, _, _, _, _, rfl, a0, a1, fun H2 s2 => ?_⟩
    refine i_cons <| i_op <| v1 <| v0 <| i_cmpR (same_ins s2 a0) (.tup (s2 _ _ a1)) <| ⟨_, _, _, _, _, rfl, (same_ins s2 a0), (s2 _ _ a1), fun H4 s4 => ?_⟩
    refine i_cons <| i_op <| v0 <| v1 <| i_not2 <| i_cmpF (same_ins (s2.trans s4) a0) (.tup ((s2.trans s4) _ _ a1)) <| ⟨_, _, _, _, _, rfl, (same_ins (s2.trans s4) a0), ((s2.trans s4) _ _ a1), fun H6 s6 => ?_⟩
    refine i_kNot <| i_cons <| i_op <| v1 <| v0 <| i_not2 <| i_cmpR (same_ins (s2.trans (s4.trans s6)) a0) (.tup ((s2.trans (s4.trans s6)) _ _ a1)) <| ⟨_, _, _, _, _, rfl, (same_ins (s2.trans (s4.trans s6)) a0), ((s2.trans (s4.trans s6)) _ _ a1), fun H8 s8 => ?_⟩
    refine i_kNot <| i_nil <| i_kLst (of_decide_eq_true rfl) (fun p9 H9 z9 s9 f9 => ?_)
    refine i_cons <| i_lst <| i_cons <| i_c <| i_cons <| i_c <| i_cons <| i_c <| i_cons <| i_c <| i_nil <| i_kLst (of_decide_eq_true rfl) (fun p10 H10 z10 s10 f10 => ?_)
    refine i_nil <| ⟨_, [_, _, _, _], _, [_, _, _, _], rfl, (s10 _ _ f9), f10, (by rfl), (by simp), fun H12 s12 => ?_⟩
    exact k _ (s2.trans (s4.trans (s6.trans (s8.trans (s9.trans (s10.trans s12))))))

/-! _law_unlike@lst -/
def sp__law_unlike_lst (K : PySem.W.Frag) : Sp := fun vs H Q _ => ∃ (aA : Addr) (a : EN) (thingA : Addr) (thing : List Int), vs = [V.ref aA, V.ref thingA] ∧ IsI (He.ga K "Exact") H aA (exF a) ∧ H thingA = some (.lst (thing.map V.int)) ∧ ∀  (H' : Hp), Same H H' → Q (V.bl true) H'
abbrev s__law_unlike_lst : Stmt := top 37
theorem sc__law_unlike_lst : FnScope ["a", "thing"] ["a", "thing"] (defScope s__law_unlike_lst) := ⟨rfl, rfl, rfl, by decide +kernel, rfl, by decide +kernel, by decide +kernel⟩
theorem vis__law_unlike_lst : visB ["a", "thing"] (defScope s__law_unlike_lst) = true := by decide +kernel
theorem gl__law_unlike_lst : glB ["_law_equal"] (defScope s__law_unlike_lst) = true := by decide +kernel
theorem ok__law_unlike_lst {P : Program} {w : World} {K : PySem.W.Frag} {mg : Str → Option Value} {base : Heap} (T : Txt w K mg) : OkD P w K mg base 3 (He.fAd K ("_law_unlike", none)) ["a", "thing"] [] (sp__law_unlike_lst K) := by
  obtain ⟨fd, F⟩ := T.d__law_unlike
  refine ⟨fd, [], F.kp, F.bindsN (fun _ _ _ _ _ _ us hl => match us, hl with | [_, _], _ => rfl), .nil, ?_⟩
  have sc := sc__law_unlike_lst; have vis := vis__law_unlike_lst; have gls := gl__law_unlike_lst
  refine F.ok sc (fun vs H Q E h => ?_) (fun cdv A outer s H0 vs Q E hr h => ?_)
  · obtain ⟨aA, a, thingA, thing, rfl, _⟩ := h; rfl
  · obtain ⟨aA, a, thingA, thing, rfl, a0, a1, k⟩ := h
    refine ⟨_, PSs.nox (pss_one (ps_ret (pcD (ok__law_equal_Lb T) (hr.mono (by decide)) gls 0 T.g__law_equal (pa_cons (pe_lst (pa_cons (pe_cmpR (op_cmpF T.cmp_Exact___eq__ (ok_Exact___eq___lst T) (hr.mono (by decide))) (pn vis 0) (pn vis 1) (nomark _)) (pa_cons (pe_cmpR (op_cmpR T.cmp_Exact___eq__ T.subs_Exact (ok_Exact___eq___lst T) (hr.mono (by decide))) (pn vis 1) (pn vis 0) (nomark _)) (pa_cons (pe_cmpR (op_neF T.ne_Exact (ok_Exact___eq___lst T) (hr.mono (by decide))) (pn vis 0) (pn vis 1) (nomark _)) (pa_cons (pe_cmpR (op_neR T.ne_Exact T.subs_Exact (ok_Exact___eq___lst T) (hr.mono (by decide))) (pn vis 1) (pn vis 0) (nomark _)) pa_nil))))) (pa_cons (pe_lst (pa_cons pe_bl (pa_cons pe_bl (pa_cons pe_bl (pa_cons pe_bl pa_nil))))) pa_nil))))), ?_⟩
    refine i_start (σ' := [some (V.ref aA), some (V.ref thingA)]) rfl ?_
    refine i_ret <| i_call <| i_cons <| i_lst <| i_cons <| i_op <| v0 <| v1 <| i_cmpF a0 (.lst a1) <| ⟨_, _, _, thing, rfl, a0, a1, fun H2 s2 => ?_⟩
    refine i_cons <| i_op <| v1 <| v0 <| i_cmpR (same_ins s2 a0) (.lst (s2 _ _ a1)) <| ⟨_, _, _, thing, rfl, (same_ins s2 a0), (s2 _ _ a1), fun H4 s4 => ?_⟩
    refine i_cons <| i_op <| v0 <| v1 <| i_not2 <| i_cmpF (same_ins (s2.trans s4) a0) (.lst ((s2.trans s4) _ _ a1)) <| ⟨_, _, _, thing, rfl, (same_ins (s2.trans s4) a0), ((s2.trans s4) _ _ a1), fun H6 s6 => ?_⟩
    refine i_kNot <| i_cons <| i_op <| v1 <| v0 <| i_not2 <| i_cmpR (same_ins (s2.trans (s4.trans s6)) a0) (.lst ((s2.trans (s4.trans s6)) _ _ a1)) <| ⟨_, _, _, thing, rfl, (same_ins (s2.trans (s4.trans s6)) a0), ((s2.trans (s4.trans s6)) _ _ a1), fun H8 s8 => ?_⟩
    refine i_kNot <| i_nil <| i_kLst (of_decide_eq_true rfl) (fun p9 H9 z9 s9 f9 => ?_)
    refine i_cons <| i_lst <| i_cons <| i_c <| i_cons <| i_c <| i_cons <| i_c <| i_cons <| i_c <| i_nil <| i_kLst (of_decide_eq_true rfl) (fun p10 H10 z10 s10 f10 => ?_)
    refine i_nil <| ⟨_, [_, _, _, _], _, [_, _, _, _], rfl, (s10 _ _ f9), f10, (by rfl), (by simp), fun H12 s12 => ?_⟩
    exact k _ (s2.trans (s4.trans (s6.trans (s8.trans (s9.trans (s10.trans s12))))))

/-! _law_unlike@ex -/
def sp__law_unlike_ex (K : PySem.W.Frag) : Sp := fun vs H Q _ => ∃ (aA : Addr) (a : EN) (thingA : Addr) (thing : EN), vs = [V.ref aA, V.ref thingA] ∧ IsI (He.ga K "Exact") H aA (exF a) ∧ IsI (He.ga K "Exact") H thingA (exF thing) ∧ (a.b ≠ thing.b) ∧ ∀  (H' : Hp), Same H H' → Q (V.bl true) H'
abbrev s__law_unlike_ex : Stmt := top 37
theorem sc__law_unlike_ex : FnScope ["a", "thing"] ["a", "thing"] (defScope s__law_unlike_ex) := ⟨rfl, rfl, rfl, by decide +kernel, rfl, by decide +kernel, by decide +kernel⟩
theorem vis__law_unlike_ex : visB ["a", "thing"] (defScope s__law_unlike_ex) = true := by decide +kernel
theorem gl__law_unlike_ex : glB ["_law_equal"] (defScope s__law_unlike_ex) = true := by decide +kernel
theorem ok__law_unlike_ex {P : Program} {w : World} {K : PySem.W.Frag} {mg : Str → Option Value} {base : Heap} (T : Txt w K mg) : OkD P w K mg base 3 (He.fAd K ("_law_unlike", none)) ["a", "thing"] [] (sp__law_unlike_ex K) := by
  obtain ⟨fd, F⟩ := T.d__law_unlike
  refine ⟨fd, [], F.kp, F.bindsN (fun _ _ _ _ _ _ us hl => match us, hl with | [_, _], _ => rfl), .nil, ?_⟩
  have sc := sc__law_unlike_ex; have vis := vis__law_unlike_ex; have gls := gl__law_unlike_ex
  refine F.ok sc (fun vs H Q E h => ?_) (fun cdv A outer s H0 vs Q E hr h => ?_)
  · obtain ⟨aA, a, thingA, thing, rfl, _⟩ := h; rfl
  · obtain ⟨aA, a, thingA, thing, rfl, a0, a1, e0, k⟩ := h
    refine ⟨_, PSs.nox (pss_one (ps_ret (pcD (ok__law_equal_Lb T) (hr.mono (by decide)) gls 0 T.g__law_equal (pa_cons (pe_lst (pa_cons (pe_cmpR (op_cmpO T.cmp_Exact___eq__ (ok_Exact___eq___ex T) (hr.mono (by decide))) (pn vis 0) (pn vis 1) (nomark _)) (pa_cons (pe_cmpR (op_cmpO T.cmp_Exact___eq__ (ok_Exact___eq___ex T) (hr.mono (by decide))) (pn vis 1) (pn vis 0) (nomark _)) (pa_cons (pe_cmpR (op_neO T.ne_Exact (ok_Exact___eq___ex T) (hr.mono (by decide))) (pn vis 0) (pn vis 1) (nomark _)) (pa_cons (pe_cmpR (op_neO T.ne_Exact (ok_Exact___eq___ex T) (hr.mono (by decide))) (pn vis 1) (pn vis 0) (nomark _)) pa_nil))))) (pa_cons (pe_lst (pa_cons pe_bl (pa_cons pe_bl (pa_cons pe_bl (pa_cons pe_bl pa_nil))))) pa_nil))))), ?_⟩
    refine i_start (σ' := [some (V.ref aA), some (V.ref thingA)]) rfl ?_
    refine i_ret <| i_call <| i_cons <| i_lst <| i_cons <| i_op <| v0 <| v1 <| i_cmpO a0 a1 <| ⟨_, _, _, _, rfl, a0, a1, fun p1 H1 s1 hp1 => ?_⟩
    refine i_cons <| i_op <| v1 <| v0 <| i_cmpO (same_ins s1 a1) (same_ins s1 a0) <| ⟨_, _, _, _, rfl, (same_ins s1 a1), (same_ins s1 a0), fun p2 H2 s2 hp2 => ?_⟩
    refine i_cons <| i_op <| v0 <| v1 <| i_not2 <| i_cmpO (same_ins (s1.trans s2) a0) (same_ins (s1.trans s2) a1) <| ⟨_, _, _, _, rfl, (same_ins (s1.trans s2) a0), (same_ins (s1.trans s2) a1), fun p3 H3 s3 hp3 => ?_⟩
    refine i_kNot <| i_cons <| i_op <| v1 <| v0 <| i_not2 <| i_cmpO (same_ins (s1.trans (s2.trans s3)) a1) (same_ins (s1.trans (s2.trans s3)) a0) <| ⟨_, _, _, _, rfl, (same_ins (s1.trans (s2.trans s3)) a1), (same_ins (s1.trans (s2.trans s3)) a0), fun p4 H4 s4 hp4 => ?_⟩
    refine i_kNot <| i_nil <| i_kLst (of_decide_eq_true rfl) (fun p5 H5 z5 s5 f5 => ?_)
    refine i_cons <| i_lst <| i_cons <| i_c <| i_cons <| i_c <| i_cons <| i_c <| i_cons <| i_c <| i_nil <| i_kLst (of_decide_eq_true rfl) (fun p6 H6 z6 s6 f6 => ?_)
    refine i_nil <| ⟨_, [_, _, _, _], _, [_, _, _, _], rfl, (s6 _ _ f5), f6, (by rw [hp1, hp2, hp3, hp4]; simp [e0, e0.symm]), (by simp), fun H8 s8 => ?_⟩
    exact k _ (s1.trans (s2.trans (s3.trans (s4.trans (s5.trans (s6.trans s8))))))

/-! law -/
def sp_law (K : PySem.W.Frag) : Sp := fun vs H Q _ => ∃ (scriptA : Addr) (script : List Int), vs = [V.ref scriptA] ∧ SqL K H scriptA (script.map V.int) ∧ (script.length ≤ 63) ∧ ∀  (H' : Hp), Q (V.bl true) H'
abbrev s_law : Stmt := top 38
theorem sc_law : FnScope ["script", "source", "base", "precision", "rows", "made", "j", "another", "whole", "things", "thing", "k", "x"] ["script"] (defScope s_law) := ⟨rfl, rfl, rfl, by decide +kernel, rfl, by decide +kernel, by decide +kernel⟩
theorem vis_law : visB ["script", "source", "base", "precision", "rows", "made", "j", "another", "whole", "things", "thing", "k", "x"] (defScope s_law) = true := by decide +kernel
theorem gl_law : glB ["_law_source", "_law_base", "_law_precision", "_law_value", "_law_next", "_law_compared", "_law_draw", "int", "_law_power", "_law_make", "_law_unlike", "_law_are", "range"] (defScope s_law) = true := by decide +kernel
theorem ok_law {P : Program} {w : World} {K : PySem.W.Frag} {mg : Str → Option Value} (T : Txt w K mg) : ∃ fd : FuncData, (∀ (s : Shared) (v : Value), BindsTo s fd ⟨[v], []⟩ [("script", v)]) ∧ ∀ base : Heap, FnOk P w K mg base (L2.CX P w) 6 (He.fAd K ("law", none)) fd ["script"] (sp_law K) := by
  obtain ⟨fd, F⟩ := T.d_law
  refine ⟨fd, fun s v => FunD.bindsA (ps := ["script"]) F (fun _ _ _ _ _ _ us hl => match us, hl with | [_], _ => rfl) s [v] rfl, fun base => ?_⟩
  have sc := sc_law; have vis := vis_law; have gls := gl_law
  refine F.ok sc (fun vs H Q E h => ?_) (fun cdv A outer s H0 vs Q E hr h => ?_)
  · obtain ⟨scriptA, script, rfl, _⟩ := h; rfl
  · obtain ⟨scriptA, script, rfl, a0, e0, k⟩ := h
    refine ⟨_, PSs.nox (pss_cons (ps_set (i := 1) sc.nd rfl (.inl rfl) (pcD (ok__law_source T) (hr.mono (by decide)) gls 0 T.g__law_source (pa_cons (pnc vis 0) pa_nil))) (pss_cons (ps_set (i := 2) sc.nd rfl (.inr rfl) (pcD (ok__law_base T) (hr.mono (by decide)) gls 1 T.g__law_base (pa_cons (pnc vis 1) pa_nil))) (pss_cons (ps_set (i := 3) sc.nd rfl (.inl rfl) (pcD (ok__law_precision T) (hr.mono (by decide)) gls 2 T.g__law_precision (pa_cons (pnc vis 1) (pa_cons pe_int pa_nil)))) (pss_cons (ps_set (i := 4) sc.nd rfl (.inl rfl) (pe_lst (pa_cons (pcD (ok__law_value T) (hr.mono (by decide)) gls 3 T.g__law_value (pa_cons (pnc vis 1) (pa_cons (pnc vis 2) (pa_cons (pnc vis 3) pa_nil)))) pa_nil))) (pss_cons (ps_expr (pe_bm PySem.F.plainAttrs_list PySem.F.slot_list_append PySem.F.type_list_append mt_append (pnc vis 4) (pa_cons (pcD (ok__law_next_1 T) (hr.mono (by decide)) gls 4 T.g__law_next (pa_cons (pnc vis 1) (pa_cons (pnc vis 2) (pa_cons (pnc vis 3) (pa_cons (pe_ix ix_list (pnc vis 4) pe_int (fun _ _ => rfl)) pa_nil))))) pa_nil))) (pss_cons (ps_expr (pe_bm PySem.F.plainAttrs_list PySem.F.slot_list_append PySem.F.type_list_append mt_append (pnc vis 4) (pa_cons (pcD (ok__law_next_2 T) (hr.mono (by decide)) gls 4 T.g__law_next (pa_cons (pnc vis 1) (pa_cons (pnc vis 2) (pa_cons (pnc vis 3) (pa_cons (pe_ix ix_list (pnc vis 4) pe_int (fun _ _ => rfl)) pa_nil))))) pa_nil))) (pss_cons (ps_expr (pe_bm PySem.F.plainAttrs_list PySem.F.slot_list_append PySem.F.type_list_append mt_append (pnc vis 4) (pa_cons (pe_tup (pa_cons (pe_op op_sub pe_int (pe_ix ix_tup (pe_ix ix_list (pnc vis 4) pe_int (fun _ _ => rfl)) pe_int (fun _ _ => rfl))) (pa_cons (pe_ix ix_tup (pe_ix ix_list (pnc vis 4) pe_int (fun _ _ => rfl)) pe_int (fun _ _ => rfl)) pa_nil))) pa_nil))) (pss_cons (ps_setLc (i := 5) (own := [("x", 12)]) (g := gName 12) (tt := tYes) rfl sc.nd rfl rfl (sw_true rfl rfl rfl rfl) (pi_list (pnc vis 4)) (blkOk_by (N := ["script", "source", "base", "precision", "rows", "made", "j", "another", "whole", "things", "thing", "k", "x"]) (sc := defScope s_law) (by decide +kernel)) (fun _ _ _ _ _ => pg_name (i := 12) sc.nd rfl (.inl rfl)) (fun _ _ _ _ _ => pts_nil) (fun _ _ _ _ _ => (pcDc (ok__law_make T) (hr.mono (by decide)) T.g__law_make (pa_cons (pv 2) (pa_cons (pv 12) pa_nil))))) (pss_cons (ps_for PassesOwn.never rfl (pi_range1 (gl_of gls (i := 12) rfl).1 T.b_range (pa_cons pe_int pa_nil)) (pg_name (i := 6) sc.nd rfl (.inl rfl)) (pss_one (ps_for PassesOwn.never rfl (pi_range1 (gl_of gls (i := 12) rfl).1 T.b_range (pa_cons pe_int pa_nil)) (pg_name (i := 11) sc.nd rfl (.inl rfl)) (pss_one (ps_if (pt_not (pt_val (pcD (ok__law_compared T) (hr.mono (by decide)) gls 5 T.g__law_compared (pa_cons (pe_ix ix_list (pnc vis 5) (pnc vis 6) (fun _ _ => rfl)) (pa_cons (pe_ix ix_list (pnc vis 5) (pnc vis 11) (fun _ _ => rfl)) (pa_cons (pnc vis 2) (pa_cons (pe_ix ix_list (pnc vis 4) (pnc vis 6) (fun _ _ => rfl)) (pa_cons (pe_ix ix_list (pnc vis 4) (pnc vis 11) (fun _ _ => rfl)) pa_nil)))))))) pss_never pss_nil))))) (pss_cons (ps_set (i := 12) sc.nd rfl (.inl rfl) (pe_ix ix_list (pnc vis 4) pe_int (fun _ _ => rfl))) (pss_cons (ps_set (i := 7) sc.nd rfl (.inl rfl) (pe_op op_add pe_int (pe_op op_mod (pcT call_intI gls 7 T.b_int boot_int (pa_cons (pe_op op_add (pe_op op_sub (pnc vis 2) pe_int) (pcD (ok__law_draw T) (hr.mono (by decide)) gls 6 T.g__law_draw (pa_cons (pnc vis 1) (pa_cons pe_int pa_nil)))) pa_nil)) pe_int))) (pss_cons (ps_set (i := 8) sc.nd rfl (.inl rfl) (pe_ix ix_tup (pnc vis 12) pe_int (fun _ _ => rfl))) (C8.pss_cut (ps_if (pt_cmpR op_gt (pe_ix ix_tup (pnc vis 12) pe_int (fun _ _ => rfl)) pe_int (nomark _)) (pss_one (ps_set (i := 8) sc.nd rfl (.inl rfl) (pe_op op_mulX (pe_ix ix_tup (pnc vis 12) pe_int (fun _ _ => rfl)) (pcD (ok__law_power T) (hr.mono (by decide)) gls 8 T.g__law_power (pa_cons (pnc vis 2) (pa_cons (pe_ix ix_tup (pnc vis 12) pe_int (fun _ _ => rfl)) pa_nil)))))) pss_nil) (pss_cons (ps_set (i := 9) sc.nd rfl (.inl rfl) (pe_lst (pa_cons (pcD (ok__law_make T) (hr.mono (by decide)) gls 9 T.g__law_make (pa_cons (pnc vis 7) (pa_cons (pnc vis 12) pa_nil))) (pa_cons (pnc vis 8) (pa_cons pe_int (pa_cons pe_str (pa_cons pe_str (pa_cons pe_non (pa_cons (pnc vis 12) (pa_cons (pe_lst (pa_cons (pnc vis 2) (pa_cons (pe_ix ix_tup (pnc vis 12) pe_int (fun _ _ => rfl)) (pa_cons (pe_ix ix_tup (pnc vis 12) pe_int (fun _ _ => rfl)) pa_nil)))) pa_nil)))))))))) (pss_cons (ps_for PassesOwn.never rfl (pi_list (pnc vis 9)) (pg_name (i := 10) sc.nd rfl (.inl rfl)) (pss_one (ps_if (pt_not (pt_val (pcDx (CallOk.or (OkD.co (ok__law_unlike_ex T) (hr.mono (by decide))) (CallOk.or (OkD.co (ok__law_unlike_int T) (hr.mono (by decide))) (CallOk.or (OkD.co (ok__law_unlike_str T) (hr.mono (by decide))) (CallOk.or (OkD.co (ok__law_unlike_None T) (hr.mono (by decide))) (CallOk.or (OkD.co (ok__law_unlike_tup T) (hr.mono (by decide))) (OkD.co (ok__law_unlike_lst T) (hr.mono (by decide)))))))) (OkD.kp (ok__law_unlike_ex (P := P) (w := w) (base := base) T)) gls 10 T.g__law_unlike (pa_cons (pe_ix ix_list (pnc vis 5) pe_int (fun _ _ => rfl)) (pa_cons (pnc vis 10) pa_nil))))) pss_never pss_nil))) (pss_one (ps_ret (pcD (ok__law_are T) (hr.mono (by decide)) gls 11 T.g__law_are (pa_cons (pnc vis 5) (pa_cons (pnc vis 2) (pa_cons (pnc vis 4) pa_nil))))))))))))))))))))), ?_⟩
    refine i_start (σ' := [some (V.ref scriptA), none, none, none, none, none, none, none, none, none, none, none, none]) rfl ?_
    refine i_seq <| i_asg <| i_call <| i_cons <| v0 <| i_nil <| ⟨_, _, rfl, a0, (by first | assumption | omega | rfl | exact Sz.zero | exact Sz.sm (by omega) (by omega) (by decide) | exact Sz.mono (by assumption) (by decide)), fun sourceA H1 s1 f1_0 => ?_⟩
    refine n1 <| i_nx <| i_seq <| i_asg <| i_call <| i_cons <| v1 <| i_nil <| ⟨_, rfl, f1_0, fun base H2 s2 g2 hbase0 hbase1 => ?_⟩
    refine n2 <| i_nx <| i_seq <| i_asg <| i_call <| i_cons <| v1 <| i_cons <| i_c <| i_nil <| ⟨_, _, rfl, g2, (by first | assumption | omega | rfl | exact Sz.zero | exact Sz.sm (by omega) (by omega) (by decide) | exact Sz.mono (by assumption) (by decide)), (by first | assumption | omega | rfl | exact Sz.zero | exact Sz.sm (by omega) (by omega) (by decide) | exact Sz.mono (by assumption) (by decide)), fun precision H3 s3 g3 hprecision0 hprecision1 => ?_⟩
    refine n3 <| i_nx <| i_seq <| i_asg <| i_lst <| i_cons <| i_call <| i_cons <| v1 <| i_cons <| v2 <| i_cons <| v3 <| i_nil <| ⟨_, _, _, rfl, g3, (by first | assumption | omega | rfl | exact Sz.zero | exact Sz.sm (by omega) (by omega) (by decide) | exact Sz.mono (by assumption) (by decide)), (by first | assumption | omega | rfl | exact Sz.zero | exact Sz.sm (by omega) (by omega) (by decide) | exact Sz.mono (by assumption) (by decide)), (by first | assumption | omega | rfl | exact Sz.zero | exact Sz.sm (by omega) (by omega) (by decide) | exact Sz.mono (by assumption) (by decide)), (by first | assumption | omega | rfl | exact Sz.zero | exact Sz.sm (by omega) (by omega) (by decide) | exact Sz.mono (by assumption) (by decide)), fun vaA va0 va1 H4 s4 g4 f4_0 hva => ?_⟩
    refine i_nil <| i_kLst (of_decide_eq_true rfl) (fun p5 H5 z5 s5 f5 => ?_)
    refine n4 <| i_nx <| i_seq <| i_drop <| i_bm <| v4 <| i_tyL (SqL.of f5) <| i_cons <| i_call <| i_cons <| v1 <| i_cons <| v2 <| i_cons <| v3 <| i_cons <| i_op <| v4 <| i_c <| i_ixL (SqL.of f5) (atI_nat (j := 0) rfl) <| i_nil <| ⟨_, _, _, _, _, _, rfl, (same_src s5 g4), (s5 _ _ f4_0), (by first | assumption | omega | rfl | exact Sz.zero | exact Sz.sm (by omega) (by omega) (by decide) | exact Sz.mono (by assumption) (by decide)), (by first | assumption | omega | rfl | exact Sz.zero | exact Sz.sm (by omega) (by omega) (by decide) | exact Sz.mono (by assumption) (by decide)), (by first | assumption | omega | rfl | exact Sz.zero | exact Sz.sm (by omega) (by omega) (by decide) | exact Sz.mono (by assumption) (by decide)), (by first | assumption | omega | rfl | exact Sz.zero | exact Sz.sm (by omega) (by omega) (by decide) | exact Sz.mono (by assumption) (by decide)), (by exact hva.sz), (by have := hva.rng; omega), (by have := hva.rng; omega), fun naA na0 na1 H6 s6 g6 f6_0 hna0 hna1 hna2 => ?_⟩
    refine i_nil <| i_app (s6 _ _ (stab_len (of_decide_eq_true rfl)) f5) (by simp) (fun H7 w7 f7 => ?_)
    have s7 : Ext H4 H7 := ext_app z5 ((ext_of s5).trans s6) w7
    have g7 : IsSrc H7 sourceA := src_app z5 g4 w7 (s6 _ _ (stab_len (of_decide_eq_true rfl)) f5) g6
    have f6_0_7 := keep_tup w7 (s6 _ _ (stab_len (of_decide_eq_true rfl)) f5) f6_0
    refine i_nx <| i_seq <| i_drop <| i_bm <| v4 <| i_tyL (SqL.of f7) <| i_cons <| i_call <| i_cons <| v1 <| i_cons <| v2 <| i_cons <| v3 <| i_cons <| i_op <| v4 <| i_c <| i_ixL (SqL.of f7) (atI_nat (j := 1) rfl) <| i_nil <| ⟨_, _, _, _, _, _, rfl, g7, f6_0_7, (by first | assumption | omega | rfl | exact Sz.zero | exact Sz.sm (by omega) (by omega) (by decide) | exact Sz.mono (by assumption) (by decide)), (by first | assumption | omega | rfl | exact Sz.zero | exact Sz.sm (by omega) (by omega) (by decide) | exact Sz.mono (by assumption) (by decide)), (by first | assumption | omega | rfl | exact Sz.zero | exact Sz.sm (by omega) (by omega) (by decide) | exact Sz.mono (by assumption) (by decide)), (by first | assumption | omega | rfl | exact Sz.zero | exact Sz.sm (by omega) (by omega) (by decide) | exact Sz.mono (by assumption) (by decide)), (by first | assumption | omega | rfl | exact Sz.zero | exact Sz.sm (by omega) (by omega) (by decide) | exact Sz.mono (by assumption) (by decide)), (by first | assumption | omega | rfl | exact Sz.zero | exact Sz.sm (by omega) (by omega) (by decide) | exact Sz.mono (by assumption) (by decide)), (by first | assumption | omega | rfl | exact Sz.zero | exact Sz.sm (by omega) (by omega) (by decide) | exact Sz.mono (by assumption) (by decide)), fun nbA nb0 nb1 H8 s8 g8 f8_0 hnb0 hnb1 hnb2 => ?_⟩
    refine i_nil <| i_app (s8 _ _ (stab_len (of_decide_eq_true rfl)) f7) (by simp) (fun H9 w9 f9 => ?_)
    have s9 : Ext H4 H9 := ext_app z5 (s7.trans s8) w9
    have g9 : IsSrc H9 sourceA := src_app z5 g4 w9 (s8 _ _ (stab_len (of_decide_eq_true rfl)) f7) g8
    have f6_0_7_9 := keep_tup w9 (s8 _ _ (stab_len (of_decide_eq_true rfl)) f7) (s8 _ _ trivial f6_0_7)
    have f8_0_9 := keep_tup w9 (s8 _ _ (stab_len (of_decide_eq_true rfl)) f7) f8_0
    refine i_nx <| i_seq <| i_drop <| i_bm <| v4 <| i_tyL (SqL.of f9) <| i_cons <| i_tup <| i_cons <| i_op <| i_c <| i_op <| i_op <| v4 <| i_c <| i_ixL (SqL.of f9) (atI_nat (j := 0) rfl) <| i_c <| i_ixT (SqT.of (s9 _ _ trivial f4_0)) (atI_nat (j := 0) rfl) <| i_I0 <| i_cons <| i_op <| i_op <| v4 <| i_c <| i_ixL (SqL.of f9) (atI_nat (j := 0) rfl) <| i_c <| i_ixT (SqT.of (s9 _ _ trivial f4_0)) (atI_nat (j := 1) rfl) <| i_nil <| i_kTup (of_decide_eq_true rfl) (fun p10 H10 z10 s10 f10 => ?_)
    refine i_nil <| i_app (s10 _ _ f9) (by simp) (fun H11 w11 f11 => ?_)
    have s11 : Ext H4 H11 := ext_app z5 (s9.trans (ext_of s10)) w11
    have g11 : IsSrc H11 sourceA := src_app z5 g4 w11 (s10 _ _ f9) (same_src s10 g9)
    have f6_0_7_9_11 := keep_tup w11 (s10 _ _ f9) (s10 _ _ f6_0_7_9)
    have f8_0_9_11 := keep_tup w11 (s10 _ _ f9) (s10 _ _ f8_0_9)
    have f10_11 := keep_tup w11 (s10 _ _ f9) f10
    refine i_nx <| i_seq <| ?_
    obtain ⟨rws, hrws⟩ : ∃ l : List (Int × Int), l = [(va0, va1), (na0, na1), (nb0, nb1), ((0 - va0), va1)] := ⟨_, rfl⟩
    have lo_rws : LO IsP H11 p5 rws := by rw [hrws]; exact ⟨[vaA, naA, nbA, p10], f11, (.cons (s11 _ _ trivial f4_0) (.cons f6_0_7_9_11 (.cons f8_0_9_11 (.cons f10_11 .nil))))⟩
    have hlen : rws.length = 4 := by rw [hrws]; rfl
    have rva := hva.rng
    have hrg : ∀ p ∈ rws, Sz 1300 p.1 ∧ -100 ≤ p.2 ∧ p.2 ≤ 800 := by rw [hrws]; simp only [List.forall_mem_cons]; exact ⟨⟨hva.sz.mono (by decide), by omega, by omega⟩, ⟨hna0.mono (by decide), by omega, by omega⟩, ⟨hnb0.mono (by decide), by omega, by omega⟩, ⟨by rw [Int.zero_sub]; exact hva.sz.neg.mono (by decide), by omega, by omega⟩, by simp⟩
    refine i_asg <| i_lc <| i_lt <| v4 <| ?_
    obtain ⟨rp12, hrp12, hri12⟩ := id lo_rws
    refine i_lcL (xs := _) (SqL.of hrp12) (fun p12 z12 => ?_)
    refine lc_list (xs := rp12.map V.ref) (fun q H' => Same H11 H' ∧ LO (fun H p x => IsI (He.ga K "Exact") H p (exF x)) H' p12 ((rws.take q).map (fun p => nrm base p.1 p.2))) ?_ ?_ ?_ ?_
    · exact ⟨same_new z12, [], upd_same, .nil⟩
    · intro q H' _ ⟨e, _⟩; exact Same.seq e (SqL.of hrp12)
    ·
      intro q y H' hy ⟨e12, ps12, hd12, it12⟩
      obtain ⟨xA, x, rfl, hx, hF⟩ := hri12.inv hy
      have hF : H11 xA = some (.tup [V.int x.1, V.int x.2]) := hF
      have hxg := hrg x (List.mem_of_getElem? hx)
      refine n12 <| i_lcw <| i_call <| i_cons <| v2 <| i_cons <| v12 <| i_nil <| ⟨_, _, _, _, rfl, (e12 _ _ hF), (by first | assumption | omega | rfl | exact Sz.zero | exact Sz.sm (by omega) (by omega) (by decide) | exact Sz.mono (by assumption) (by decide)), (by first | assumption | omega | rfl | exact Sz.zero | exact Sz.sm (by omega) (by omega) (by decide) | exact Sz.mono (by assumption) (by decide)), (by exact hxg.1.mono (by decide)), fun madeA made H13 s13 f13_0 hmade => ?_⟩
      have it_12 := Items.map (F := (fun H p x => IsI (He.ga K "Exact") H p (exF x))) (H' := H13) (fun _ _ h => same_ins s13 h) it12
      refine ⟨ps12.map V.ref, s13 _ _ hd12, lo_size it12 (by omega), same_up z12 (e12.trans s13), ?_⟩
      rw [take_succ hx, List.map_append]
      refine LO.push it_12 ?_ (fun _ _ h => keep_ins (fun b hb => upd_ne hb) (s13 _ _ hd12) h)
      show (fun H p x => IsI (He.ga K "Exact") H p (exF x)) H13 madeA ((fun p => nrm base p.1 p.2) x)
      have q9 := f13_0
      rw [hmade] at q9; exact q9
    ·
      rintro H12 ⟨s12, f12⟩
      rw [List.length_map, hri12.len, List.take_length] at f12
      have s12 : Same H11 H12 := s12
      refine n5 <| i_nx <| i_seq <| i_for <| i_for1 <| i_cons <| i_c <| i_nil <| i_rng1 (fun jj σ H' => ∃ (o_j : Option V) (o_k : Option V), σ = [some (V.ref scriptA), some (V.ref sourceA), some (V.int base), some (V.int precision), some (V.ref p5), some (V.ref p12), o_j, none, none, none, none, o_k, none] ∧ Same H12 H') (by omega) (by omega) ?_ ?_ ?_
      ·
        exact ⟨_, _, rfl, (Same.refl _)⟩
      ·
        intro jj
        rintro σ H14 hi ⟨o_j, o_k, rfl, s14⟩
        refine n6 <| i_for <| i_for1 <| i_cons <| i_c <| i_nil <| i_rng1 (fun kk σ H' => ∃ (o_k : Option V), σ = [some (V.ref scriptA), some (V.ref sourceA), some (V.int base), some (V.int precision), some (V.ref p5), some (V.ref p12), some (V.int (0 + (jj : Int))), none, none, none, none, o_k, none] ∧ Same H14 H') (by omega) (by omega) ?_ ?_ ?_
        ·
          exact ⟨_, rfl, (Same.refl _)⟩
        ·
          intro kk
          rintro σ H15 hi ⟨o_k, rfl, s15⟩
          refine n11 <| ?_
          obtain ⟨pj, hpj⟩ : ∃ p, rws[jj]? = some p := ⟨_, List.getElem?_eq_getElem (by omega)⟩
          have hmpj : (rws.map (fun p => nrm base p.1 p.2))[jj]? = some (nrm base pj.1 pj.2) := by rw [List.getElem?_map, hpj]; rfl
          have hgpj := hrg pj (List.mem_of_getElem? hpj)
          obtain ⟨pk, hpk⟩ : ∃ p, rws[kk]? = some p := ⟨_, List.getElem?_eq_getElem (by omega)⟩
          have hmpk : (rws.map (fun p => nrm base p.1 p.2))[kk]? = some (nrm base pk.1 pk.2) := by rw [List.getElem?_map, hpk]; rfl
          have hgpk := hrg pk (List.mem_of_getElem? hpk)
          refine i_if <| i_not <| i_tB <| i_call <| i_cons <| i_op <| v5 <| v6 <| ?_
          obtain ⟨vs16, mjA, hs16, ha16, hq16⟩ := LO.at (K := K) (same_LO (F := (fun H p x => IsI (He.ga K "Exact") H p (exF x))) (fun _ _ h => same_ins (s14.trans s15) h) (s14.trans s15) f12) hmpj
          refine i_ixL hs16 ha16 <| i_cons <| i_op <| v5 <| v11 <| ?_
          obtain ⟨vs17, mkA, hs17, ha17, hq17⟩ := LO.at (K := K) (same_LO (F := (fun H p x => IsI (He.ga K "Exact") H p (exF x))) (fun _ _ h => same_ins (s14.trans s15) h) (s14.trans s15) f12) hmpk
          refine i_ixL hs17 ha17 <| i_cons <| v2 <| i_cons <| i_op <| v4 <| v6 <| ?_
          obtain ⟨vs18, pjA, hs18, ha18, hq18⟩ := LO.at (K := K) (same_LO (F := IsP) (fun _ _ h => same_P (s12.trans (s14.trans s15)) h) (s12.trans (s14.trans s15)) lo_rws) hpj
          have hq18 : H15 pjA = some (.tup [V.int pj.1, V.int pj.2]) := hq18
          refine i_ixL hs18 ha18 <| i_cons <| i_op <| v4 <| v11 <| ?_
          obtain ⟨vs19, pkA, hs19, ha19, hq19⟩ := LO.at (K := K) (same_LO (F := IsP) (fun _ _ h => same_P (s12.trans (s14.trans s15)) h) (s12.trans (s14.trans s15)) lo_rws) hpk
          have hq19 : H15 pkA = some (.tup [V.int pk.1, V.int pk.2]) := hq19
          refine i_ixL hs19 ha19 <| i_nil <| ⟨_, _, _, _, _, _, _, _, _, _, _, rfl, hq16, hq17, hq18, hq19, (by first | assumption | omega | rfl | exact Sz.zero | exact Sz.sm (by omega) (by omega) (by decide) | exact Sz.mono (by assumption) (by decide)), (by first | assumption | omega | rfl | exact Sz.zero | exact Sz.sm (by omega) (by omega) (by decide) | exact Sz.mono (by assumption) (by decide)), (by first | assumption | omega | rfl | exact Sz.zero | exact Sz.sm (by omega) (by omega) (by decide) | exact Sz.mono (by assumption) (by decide)), (by first | assumption | omega | rfl | exact Sz.zero | exact Sz.sm (by omega) (by omega) (by decide) | exact Sz.mono (by assumption) (by decide)), (by exact ad_rg (by assumption) (by assumption) hgpj hgpk), (by exact hgpj.1.mono (by decide)), (by exact hgpk.1.mono (by decide)), (by omega), (by omega), fun H21 s21 => ?_⟩
          refine i_bl <| i_iteNT <| i_next <| ?_
          exact ⟨_, rfl, (s15.trans s21)⟩
        ·
          rintro σ H22 ⟨o_k, rfl, s22⟩
          exact ⟨_, _, rfl, (s14.trans s22)⟩
      ·
        rintro σ H23 ⟨o_j, o_k, rfl, s23⟩
        refine i_nx <| i_seq <| ?_
        obtain ⟨px, hpx⟩ : ∃ p, rws[0]? = some p := ⟨_, List.getElem?_eq_getElem (by omega)⟩
        have hmpx : (rws.map (fun p => nrm base p.1 p.2))[0]? = some (nrm base px.1 px.2) := by rw [List.getElem?_map, hpx]; rfl
        have hgpx := hrg px (List.mem_of_getElem? hpx)
        refine i_asg <| i_op <| v4 <| i_c <| ?_
        obtain ⟨vs24, pxA, hs24, ha24, hq24⟩ := LO.at (K := K) (same_LO (F := IsP) (fun _ _ h => same_P (s12.trans s23) h) (s12.trans s23) lo_rws) hpx
        have hq24 : H23 pxA = some (.tup [V.int px.1, V.int px.2]) := hq24
        refine i_ixL hs24 ha24 <| n12 <| i_nx <| i_seq <| i_asg <| i_op <| i_c <| i_op <| i_cb <| i_cons <| i_op <| i_op <| v2 <| i_c <| i_I0 <| i_call <| i_cons <| v1 <| i_cons <| i_c <| i_nil <| ⟨_, _, rfl, (same_src (s12.trans s23) g11), (by first | assumption | omega | rfl | exact Sz.zero | exact Sz.sm (by omega) (by omega) (by decide) | exact Sz.mono (by assumption) (by decide)), (by first | assumption | omega | rfl | exact Sz.zero | exact Sz.sm (by omega) (by omega) (by decide) | exact Sz.mono (by assumption) (by decide)), fun dd H25 s25 g25 hdd0 hdd1 => ?_⟩
        refine i_I0 <| i_nil <| i_int <| i_c <| i_I (by show (0 : Int) < _; first | decide | assumption | omega) <| i_I0 <| nI7 (fun another hanother => ?_)
        refine i_nx <| i_seq <| i_asg <| i_op <| v12 <| i_c <| i_ixT (SqT.of (s25 _ _ trivial hq24)) (atI_nat (j := 0) rfl) <| n8 <| i_nx <| ?_
        refine i_cut (fun σ H' => ∃ (oj : Option V) (wh : Int) (ok : Option V), σ = [some (V.ref scriptA), some (V.ref sourceA), some (V.int base), some (V.int precision), some (V.ref p5), some (V.ref p12), oj, some (V.int another), some (V.int wh), none, none, ok, some (V.ref pxA)] ∧ Same H25 H') ?_ ?_
        ·
          refine i_if <| i_test <| i_op <| i_op <| v12 <| i_c <| i_ixT (SqT.of (s25 _ _ trivial hq24)) (atI_nat (j := 1) rfl) <| i_c <| i_I0 <| i_bl <| i_ite (fun c16 => ?_) (fun c16 => ?_)
          ·
            refine i_asg <| i_op <| i_op <| v12 <| i_c <| i_ixT (SqT.of (s25 _ _ trivial hq24)) (atI_nat (j := 0) rfl) <| i_call <| i_cons <| v2 <| i_cons <| i_op <| v12 <| i_c <| i_ixT (SqT.of (s25 _ _ trivial hq24)) (atI_nat (j := 1) rfl) <| i_nil <| ⟨_, _, rfl, (by first | assumption | omega | rfl | exact Sz.zero | exact Sz.sm (by omega) (by omega) (by decide) | exact Sz.mono (by assumption) (by decide)), (by first | assumption | omega | rfl | exact Sz.zero | exact Sz.sm (by omega) (by omega) (by decide) | exact Sz.mono (by assumption) (by decide)), (by unfold Sz; omega), fun pw H26 s26 hpw => ?_⟩
            refine i_I (by exact mulx (a := 1300) (b := 4801) hgpx.1 (by rw [hpw]; exact (Sz.pow36 (by assumption) (by assumption) _).mono (by omega))) <| n8 <| ?_
            exact ⟨_, _, _, rfl, s26⟩
          ·
            refine i_next <| ?_
            exact ⟨_, _, _, rfl, (Same.refl _)⟩
        ·
          rintro σ H27 ⟨oj, wh, ok, rfl, s27⟩
          refine i_seq <| i_asg <| i_lst <| i_cons <| i_call <| i_cons <| v7 <| i_cons <| v12 <| i_nil <| ⟨_, _, _, _, rfl, ((s25.trans (ext_of s27)) _ _ trivial hq24), (by first | assumption | omega | rfl | exact Sz.zero | exact Sz.sm (by omega) (by omega) (by decide) | exact Sz.mono (by assumption) (by decide)), (by first | assumption | omega | rfl | exact Sz.zero | exact Sz.sm (by omega) (by omega) (by decide) | exact Sz.mono (by assumption) (by decide)), (by exact hgpx.1.mono (by decide)), fun anA an H28 s28 f28_0 han => ?_⟩
          refine i_cons <| v8 <| i_cons <| i_c <| i_cons <| i_c <| i_cons <| i_c <| i_cons <| i_c <| i_cons <| v12 <| i_cons <| i_lst <| i_cons <| v2 <| i_cons <| i_op <| v12 <| i_c <| i_ixT (SqT.of ((s25.trans ((ext_of s27).trans (ext_of s28))) _ _ trivial hq24)) (atI_nat (j := 0) rfl) <| i_cons <| i_op <| v12 <| i_c <| i_ixT (SqT.of ((s25.trans ((ext_of s27).trans (ext_of s28))) _ _ trivial hq24)) (atI_nat (j := 1) rfl) <| i_nil <| i_kLst (of_decide_eq_true rfl) (fun p29 H29 z29 s29 f29 => ?_)
          refine i_nil <| i_kLst (of_decide_eq_true rfl) (fun p30 H30 z30 s30 f30 => ?_)
          refine n9 <| i_nx <| i_seq <| i_for <| i_lt <| v9 <| i_forL (fun i σ H' => ∃ (oj : Option V) (o_thing : Option V) (ok : Option V), σ = [some (V.ref scriptA), some (V.ref sourceA), some (V.int base), some (V.int precision), some (V.ref p5), some (V.ref p12), oj, some (V.int another), some (V.int wh), some (V.ref p30), o_thing, ok, some (V.ref pxA)] ∧ Same H30 H') (SqL.of f30) ?_ ?_ ?_ ?_
          ·
            exact ⟨_, _, _, rfl, (Same.refl _)⟩
          ·
            intro i σ' H'' _ hPv
            revert hPv
            rintro ⟨_, _, _, _, s31⟩
            exact (SqL.of (s31 _ _ f30))
          ·
            rintro i y σ H32 hy ⟨oj, o_thing, ok, rfl, s32⟩
            match i, hy with
            | 0, hy =>
              have e9 := Option.some.inj hy
              subst e9
              refine n10 <| i_if <| i_not <| i_tB <| i_call <| i_cons <| i_op <| v5 <| i_c <| ?_
              obtain ⟨vs33, m0A, hs33, ha33, hq33⟩ := LO.at (K := K) (ext_LO (F := (fun H p x => IsI (He.ga K "Exact") H p (exF x))) (fun _ _ h => ext_ins ((ext_of s23).trans (s25.trans ((ext_of s27).trans ((ext_of s28).trans ((ext_of s29).trans ((ext_of s30).trans (ext_of s32))))))) h) ((ext_of s23).trans (s25.trans ((ext_of s27).trans ((ext_of s28).trans ((ext_of s29).trans ((ext_of s30).trans (ext_of s32))))))) f12) hmpx
              refine i_ixL hs33 ha33 <| i_cons <| v10 <| i_nil <| Or.inl <| ⟨_, _, _, _, rfl, hq33, (same_ins (s29.trans (s30.trans s32)) f28_0), (by rw [han, nrm_b, nrm_b]; omega), fun H35 s35 => ?_⟩
              refine i_bl <| i_iteNT <| i_next <| ?_
              exact ⟨_, _, _, rfl, (s32.trans s35)⟩
            | 1, hy =>
              have e9 := Option.some.inj hy
              subst e9
              refine n10 <| i_if <| i_not <| i_tB <| i_call <| i_cons <| i_op <| v5 <| i_c <| ?_
              obtain ⟨vs36, m0A, hs36, ha36, hq36⟩ := LO.at (K := K) (ext_LO (F := (fun H p x => IsI (He.ga K "Exact") H p (exF x))) (fun _ _ h => ext_ins ((ext_of s23).trans (s25.trans ((ext_of s27).trans ((ext_of s28).trans ((ext_of s29).trans ((ext_of s30).trans (ext_of s32))))))) h) ((ext_of s23).trans (s25.trans ((ext_of s27).trans ((ext_of s28).trans ((ext_of s29).trans ((ext_of s30).trans (ext_of s32))))))) f12) hmpx
              refine i_ixL hs36 ha36 <| i_cons <| v10 <| i_nil <| Or.inr <| Or.inl <| ⟨_, _, _, rfl, hq36, fun H38 s38 => ?_⟩
              refine i_bl <| i_iteNT <| i_next <| ?_
              exact ⟨_, _, _, rfl, (s32.trans s38)⟩
            | 2, hy =>
              have e9 := Option.some.inj hy
              subst e9
              refine n10 <| i_if <| i_not <| i_tB <| i_call <| i_cons <| i_op <| v5 <| i_c <| ?_
              obtain ⟨vs39, m0A, hs39, ha39, hq39⟩ := LO.at (K := K) (ext_LO (F := (fun H p x => IsI (He.ga K "Exact") H p (exF x))) (fun _ _ h => ext_ins ((ext_of s23).trans (s25.trans ((ext_of s27).trans ((ext_of s28).trans ((ext_of s29).trans ((ext_of s30).trans (ext_of s32))))))) h) ((ext_of s23).trans (s25.trans ((ext_of s27).trans ((ext_of s28).trans ((ext_of s29).trans ((ext_of s30).trans (ext_of s32))))))) f12) hmpx
              refine i_ixL hs39 ha39 <| i_cons <| v10 <| i_nil <| Or.inr <| Or.inl <| ⟨_, _, _, rfl, hq39, fun H41 s41 => ?_⟩
              refine i_bl <| i_iteNT <| i_next <| ?_
              exact ⟨_, _, _, rfl, (s32.trans s41)⟩
            | 3, hy =>
              have e9 := Option.some.inj hy
              subst e9
              refine n10 <| i_if <| i_not <| i_tB <| i_call <| i_cons <| i_op <| v5 <| i_c <| ?_
              obtain ⟨vs42, m0A, hs42, ha42, hq42⟩ := LO.at (K := K) (ext_LO (F := (fun H p x => IsI (He.ga K "Exact") H p (exF x))) (fun _ _ h => ext_ins ((ext_of s23).trans (s25.trans ((ext_of s27).trans ((ext_of s28).trans ((ext_of s29).trans ((ext_of s30).trans (ext_of s32))))))) h) ((ext_of s23).trans (s25.trans ((ext_of s27).trans ((ext_of s28).trans ((ext_of s29).trans ((ext_of s30).trans (ext_of s32))))))) f12) hmpx
              refine i_ixL hs42 ha42 <| i_cons <| v10 <| i_nil <| Or.inr <| Or.inr <| Or.inl <| ⟨_, _, _, rfl, hq42, fun H44 s44 => ?_⟩
              refine i_bl <| i_iteNT <| i_next <| ?_
              exact ⟨_, _, _, rfl, (s32.trans s44)⟩
            | 4, hy =>
              have e9 := Option.some.inj hy
              subst e9
              refine n10 <| i_if <| i_not <| i_tB <| i_call <| i_cons <| i_op <| v5 <| i_c <| ?_
              obtain ⟨vs45, m0A, hs45, ha45, hq45⟩ := LO.at (K := K) (ext_LO (F := (fun H p x => IsI (He.ga K "Exact") H p (exF x))) (fun _ _ h => ext_ins ((ext_of s23).trans (s25.trans ((ext_of s27).trans ((ext_of s28).trans ((ext_of s29).trans ((ext_of s30).trans (ext_of s32))))))) h) ((ext_of s23).trans (s25.trans ((ext_of s27).trans ((ext_of s28).trans ((ext_of s29).trans ((ext_of s30).trans (ext_of s32))))))) f12) hmpx
              refine i_ixL hs45 ha45 <| i_cons <| v10 <| i_nil <| Or.inr <| Or.inr <| Or.inl <| ⟨_, _, _, rfl, hq45, fun H47 s47 => ?_⟩
              refine i_bl <| i_iteNT <| i_next <| ?_
              exact ⟨_, _, _, rfl, (s32.trans s47)⟩
            | 5, hy =>
              have e9 := Option.some.inj hy
              subst e9
              refine n10 <| i_if <| i_not <| i_tB <| i_call <| i_cons <| i_op <| v5 <| i_c <| ?_
              obtain ⟨vs48, m0A, hs48, ha48, hq48⟩ := LO.at (K := K) (ext_LO (F := (fun H p x => IsI (He.ga K "Exact") H p (exF x))) (fun _ _ h => ext_ins ((ext_of s23).trans (s25.trans ((ext_of s27).trans ((ext_of s28).trans ((ext_of s29).trans ((ext_of s30).trans (ext_of s32))))))) h) ((ext_of s23).trans (s25.trans ((ext_of s27).trans ((ext_of s28).trans ((ext_of s29).trans ((ext_of s30).trans (ext_of s32))))))) f12) hmpx
              refine i_ixL hs48 ha48 <| i_cons <| v10 <| i_nil <| Or.inr <| Or.inr <| Or.inr <| Or.inl <| ⟨_, _, rfl, hq48, fun H50 s50 => ?_⟩
              refine i_bl <| i_iteNT <| i_next <| ?_
              exact ⟨_, _, _, rfl, (s32.trans s50)⟩
            | 6, hy =>
              have e9 := Option.some.inj hy
              subst e9
              refine n10 <| i_if <| i_not <| i_tB <| i_call <| i_cons <| i_op <| v5 <| i_c <| ?_
              obtain ⟨vs51, m0A, hs51, ha51, hq51⟩ := LO.at (K := K) (ext_LO (F := (fun H p x => IsI (He.ga K "Exact") H p (exF x))) (fun _ _ h => ext_ins ((ext_of s23).trans (s25.trans ((ext_of s27).trans ((ext_of s28).trans ((ext_of s29).trans ((ext_of s30).trans (ext_of s32))))))) h) ((ext_of s23).trans (s25.trans ((ext_of s27).trans ((ext_of s28).trans ((ext_of s29).trans ((ext_of s30).trans (ext_of s32))))))) f12) hmpx
              refine i_ixL hs51 ha51 <| i_cons <| v10 <| i_nil <| Or.inr <| Or.inr <| Or.inr <| Or.inr <| Or.inl <| ⟨_, _, _, _, _, rfl, hq51, ((s25.trans ((ext_of s27).trans ((ext_of s28).trans ((ext_of s29).trans ((ext_of s30).trans (ext_of s32)))))) _ _ trivial hq24), fun H53 s53 => ?_⟩
              refine i_bl <| i_iteNT <| i_next <| ?_
              exact ⟨_, _, _, rfl, (s32.trans s53)⟩
            | 7, hy =>
              have e9 := Option.some.inj hy
              subst e9
              refine n10 <| i_if <| i_not <| i_tB <| i_call <| i_cons <| i_op <| v5 <| i_c <| ?_
              obtain ⟨vs54, m0A, hs54, ha54, hq54⟩ := LO.at (K := K) (ext_LO (F := (fun H p x => IsI (He.ga K "Exact") H p (exF x))) (fun _ _ h => ext_ins ((ext_of s23).trans (s25.trans ((ext_of s27).trans ((ext_of s28).trans ((ext_of s29).trans ((ext_of s30).trans (ext_of s32))))))) h) ((ext_of s23).trans (s25.trans ((ext_of s27).trans ((ext_of s28).trans ((ext_of s29).trans ((ext_of s30).trans (ext_of s32))))))) f12) hmpx
              refine i_ixL hs54 ha54 <| i_cons <| v10 <| i_nil <| Or.inr <| Or.inr <| Or.inr <| Or.inr <| Or.inr <| ⟨_, _, _, [_, _, _], rfl, hq54, ((s30.trans s32) _ _ f29), fun H56 s56 => ?_⟩
              refine i_bl <| i_iteNT <| i_next <| ?_
              exact ⟨_, _, _, rfl, (s32.trans s56)⟩
            | n9 + 8, hy => exact absurd hy (by simp)
          ·
            rintro σ H57 ⟨oj, o_thing, ok, rfl, s57⟩
            refine i_nx <| i_ret <| i_call <| i_cons <| v5 <| i_cons <| v2 <| i_cons <| v4 <| i_nil <| ⟨_, _, _, _, _, rfl, (ext_LO (F := (fun H p x => IsI (He.ga K "Exact") H p (exF x))) (fun _ _ h => ext_ins ((ext_of s23).trans (s25.trans ((ext_of s27).trans ((ext_of s28).trans ((ext_of s29).trans ((ext_of s30).trans (ext_of s57))))))) h) ((ext_of s23).trans (s25.trans ((ext_of s27).trans ((ext_of s28).trans ((ext_of s29).trans ((ext_of s30).trans (ext_of s57))))))) f12), (ext_LO (F := IsP) (fun _ _ h => ext_P ((ext_of s12).trans ((ext_of s23).trans (s25.trans ((ext_of s27).trans ((ext_of s28).trans ((ext_of s29).trans ((ext_of s30).trans (ext_of s57)))))))) h) ((ext_of s12).trans ((ext_of s23).trans (s25.trans ((ext_of s27).trans ((ext_of s28).trans ((ext_of s29).trans ((ext_of s30).trans (ext_of s57)))))))) lo_rws), (by first | assumption | omega | rfl | exact Sz.zero | exact Sz.sm (by omega) (by omega) (by decide) | exact Sz.mono (by assumption) (by decide)), (by first | assumption | omega | rfl | exact Sz.zero | exact Sz.sm (by omega) (by omega) (by decide) | exact Sz.mono (by assumption) (by decide)), (by first | assumption | omega | rfl | exact Sz.zero | exact Sz.sm (by omega) (by omega) (by decide) | exact Sz.mono (by assumption) (by decide)), (by omega), fun H59 s59 => ?_⟩
            exact k _
/-! the head -/
def fn0 : List He.DefD := [⟨("power", none), "power", "power", defArgs (top 8), defBody (top 8), defScope (top 8), [], []⟩,
  ⟨("squares_up_to", none), "squares_up_to", "squares_up_to", defArgs (top 9), defBody (top 9), defScope (top 9), [], []⟩,
  ⟨("without_zeros", none), "without_zeros", "without_zeros", defArgs (top 11), defBody (top 11), defScope (top 11), [], []⟩,
  ⟨("check_base", none), "check_base", "check_base", defArgs (top 12), defBody (top 12), defScope (top 12), [], []⟩,
  ⟨("Exact", some "__init__"), "__init__", "Exact.__init__", defArgs (inClass (top 13) 0), defBody (inClass (top 13) 0), defScope (inClass (top 13) 0), [.int 0], []⟩,
  ⟨("aligned", none), "aligned", "aligned", defArgs (top 15), defBody (top 15), defScope (top 15), [], []⟩,
  ⟨("compared", none), "compared", "compared", defArgs (top 18), defBody (top 18), defScope (top 18), [], []⟩,
  ⟨("Exact", some "__eq__"), "__eq__", "Exact.__eq__", defArgs (inClass (top 13) 19), defBody (inClass (top 13) 19), defScope (inClass (top 13) 19), [], []⟩,
  ⟨("Exact", some "__lt__"), "__lt__", "Exact.__lt__", defArgs (inClass (top 13) 20), defBody (inClass (top 13) 20), defScope (inClass (top 13) 20), [], []⟩,
  ⟨("Exact", some "__le__"), "__le__", "Exact.__le__", defArgs (inClass (top 13) 21), defBody (inClass (top 13) 21), defScope (inClass (top 13) 21), [], []⟩,
  ⟨("Exact", some "__gt__"), "__gt__", "Exact.__gt__", defArgs (inClass (top 13) 22), defBody (inClass (top 13) 22), defScope (inClass (top 13) 22), [], []⟩,
  ⟨("Exact", some "__ge__"), "__ge__", "Exact.__ge__", defArgs (inClass (top 13) 23), defBody (inClass (top 13) 23), defScope (inClass (top 13) 23), [], []⟩]
def fn1 : List He.DefD := [⟨("_law_power", none), "_law_power", "_law_power", defArgs (top 25), defBody (top 25), defScope (top 25), [], []⟩,
  ⟨("_law_draw", none), "_law_draw", "_law_draw", defArgs (top 22), defBody (top 22), defScope (top 22), [], []⟩,
  ⟨("_law_source", none), "_law_source", "_law_source", defArgs (top 21), defBody (top 21), defScope (top 21), [], []⟩,
  ⟨("_law_lowest", none), "_law_lowest", "_law_lowest", defArgs (top 26), defBody (top 26), defScope (top 26), [], []⟩,
  ⟨("_law_make", none), "_law_make", "_law_make", defArgs (top 32), defBody (top 32), defScope (top 32), [], []⟩,
  ⟨("_law_base", none), "_law_base", "_law_base", defArgs (top 23), defBody (top 23), defScope (top 23), [], []⟩,
  ⟨("_law_precision", none), "_law_precision", "_law_precision", defArgs (top 24), defBody (top 24), defScope (top 24), [], []⟩,
  ⟨("_law_full", none), "_law_full", "_law_full", defArgs (top 28), defBody (top 28), defScope (top 28), [], []⟩,
  ⟨("_law_small", none), "_law_small", "_law_small", defArgs (top 29), defBody (top 29), defScope (top 29), [], []⟩,
  ⟨("_law_value", none), "_law_value", "_law_value", defArgs (top 30), defBody (top 30), defScope (top 30), [], []⟩,
  ⟨("_law_sum", none), "_law_sum", "_law_sum", defArgs (top 27), defBody (top 27), defScope (top 27), [], []⟩,
  ⟨("_law_equal", none), "_law_equal", "_law_equal", defArgs (top 31), defBody (top 31), defScope (top 31), [], []⟩]
def fn2 : List He.DefD := [⟨("_law_is", none), "_law_is", "_law_is", defArgs (top 33), defBody (top 33), defScope (top 33), [], []⟩,
  ⟨("_law_are", none), "_law_are", "_law_are", defArgs (top 34), defBody (top 34), defScope (top 34), [], []⟩,
  ⟨("_law_next", none), "_law_next", "_law_next", defArgs (top 35), defBody (top 35), defScope (top 35), [], []⟩,
  ⟨("_law_compared", none), "_law_compared", "_law_compared", defArgs (top 36), defBody (top 36), defScope (top 36), [], []⟩,
  ⟨("_law_unlike", none), "_law_unlike", "_law_unlike", defArgs (top 37), defBody (top 37), defScope (top 37), [], []⟩,
  ⟨("law", none), "law", "law", defArgs (top 38), defBody (top 38), defScope (top 38), [], []⟩]
def fn : List He.DefD := fn0 ++ fn1 ++ fn2
def fa0 : List He.Fa := [.glo "Exact", .glo "_law_are", .glo "_law_base", .glo "_law_compared", .glo "_law_draw", .glo "_law_equal", .glo "_law_full", .glo "_law_is", .glo "_law_lowest", .glo "_law_make", .glo "_law_next", .glo "_law_power", .glo "_law_precision", .glo "_law_small", .glo "_law_source"]
def fa1 : List He.Fa := [.glo "_law_sum", .glo "_law_unlike", .glo "_law_value", .free "abs", .glo "aligned", .free "bool", .glo "check_base", .glo "compared", .free "int", .free "isinstance", .glo "law", .free "len", .free "list", .free "min", .glo "power"]
def fa2 : List He.Fa := [.free "range", .free "reversed", .glo "squares_up_to", .free "str", .free "tuple", .glo "without_zeros", .cls "Exact", .noat "Exact" "base", .noat "Exact" "coefficient", .noat "Exact" "exponent", .cls "Exact", .mkr "Exact"]
def fa : List He.Fa := fa0 ++ fa1 ++ fa2
def exl : List (PySem.W.Frag → Bool) := [fun K => insB K (He.ga K "Exact"),
  fun K => decide (PySem.W.kitOne K (.type "int") (.ref (He.ga K "Exact")) = some false),
  fun K => decide (PySem.W.kitOne K (.type "str") (.ref (He.ga K "Exact")) = some false),
  fun K => decide (PySem.W.kitOne K (.type "NoneType") (.ref (He.ga K "Exact")) = some false),
  fun K => decide (PySem.W.kitOne K (.type "tuple") (.ref (He.ga K "Exact")) = some false),
  fun K => decide (PySem.W.kitOne K (.type "list") (.ref (He.ga K "Exact")) = some false),
  fun K => cmpB K (He.ga K "Exact") "__lt__" (He.fAd K ("Exact", some "__lt__")),
  fun K => cmpB K (He.ga K "Exact") "__le__" (He.fAd K ("Exact", some "__le__")),
  fun K => cmpB K (He.ga K "Exact") "__gt__" (He.fAd K ("Exact", some "__gt__")),
  fun K => cmpB K (He.ga K "Exact") "__ge__" (He.fAd K ("Exact", some "__ge__")),
  fun K => cmpB K (He.ga K "Exact") "__eq__" (He.fAd K ("Exact", some "__eq__")),
  fun K => neB K (He.ga K "Exact") (He.fAd K ("Exact", some "__eq__")),
  fun K => subsB K (He.ga K "Exact")]
def ex (K : PySem.W.Frag) : Bool := exl.all fun e => e K
def ts : List He.Tab := []
theorem txt_of {w : World} {K : PySem.W.Frag} {h : Heap} {mg : Str → Option Value} (X : K.In h) (G : h.Ns mainGlobals mg) (c : He.SaysX fa fn ts [] ex w h K) : Txt w K mg where
  d_power := c.t.d.def_ 0 rfl
  d_squares_up_to := c.t.d.def_ 1 rfl
  d_without_zeros := c.t.d.def_ 2 rfl
  d_check_base := c.t.d.def_ 3 rfl
  d_Exact___init__ := c.t.d.def_ 4 rfl
  d_aligned := c.t.d.def_ 5 rfl
  d_compared := c.t.d.def_ 6 rfl
  d_Exact___eq__ := c.t.d.def_ 7 rfl
  d_Exact___lt__ := c.t.d.def_ 8 rfl
  d_Exact___le__ := c.t.d.def_ 9 rfl
  d_Exact___gt__ := c.t.d.def_ 10 rfl
  d_Exact___ge__ := c.t.d.def_ 11 rfl
  d__law_power := c.t.d.def_ 12 rfl
  d__law_draw := c.t.d.def_ 13 rfl
  d__law_source := c.t.d.def_ 14 rfl
  d__law_lowest := c.t.d.def_ 15 rfl
  d__law_make := c.t.d.def_ 16 rfl
  d__law_base := c.t.d.def_ 17 rfl
  d__law_precision := c.t.d.def_ 18 rfl
  d__law_full := c.t.d.def_ 19 rfl
  d__law_small := c.t.d.def_ 20 rfl
  d__law_value := c.t.d.def_ 21 rfl
  d__law_sum := c.t.d.def_ 22 rfl
  d__law_equal := c.t.d.def_ 23 rfl
  d__law_is := c.t.d.def_ 24 rfl
  d__law_are := c.t.d.def_ 25 rfl
  d__law_next := c.t.d.def_ 26 rfl
  d__law_compared := c.t.d.def_ 27 rfl
  d__law_unlike := c.t.d.def_ 28 rfl
  d_law := c.t.d.def_ 29 rfl
  g_Exact := He.glo_ok X G (c.t.d.fact 0 rfl)
  g__law_are := He.glo_ok X G (c.t.d.fact 1 rfl)
  g__law_base := He.glo_ok X G (c.t.d.fact 2 rfl)
  g__law_compared := He.glo_ok X G (c.t.d.fact 3 rfl)
  g__law_draw := He.glo_ok X G (c.t.d.fact 4 rfl)
  g__law_equal := He.glo_ok X G (c.t.d.fact 5 rfl)
  g__law_full := He.glo_ok X G (c.t.d.fact 6 rfl)
  g__law_is := He.glo_ok X G (c.t.d.fact 7 rfl)
  g__law_lowest := He.glo_ok X G (c.t.d.fact 8 rfl)
  g__law_make := He.glo_ok X G (c.t.d.fact 9 rfl)
  g__law_next := He.glo_ok X G (c.t.d.fact 10 rfl)
  g__law_power := He.glo_ok X G (c.t.d.fact 11 rfl)
  g__law_precision := He.glo_ok X G (c.t.d.fact 12 rfl)
  g__law_small := He.glo_ok X G (c.t.d.fact 13 rfl)
  g__law_source := He.glo_ok X G (c.t.d.fact 14 rfl)
  g__law_sum := He.glo_ok X G (c.t.d.fact 15 rfl)
  g__law_unlike := He.glo_ok X G (c.t.d.fact 16 rfl)
  g__law_value := He.glo_ok X G (c.t.d.fact 17 rfl)
  b_abs := He.free_ok X G (c.t.d.fact 18 rfl)
  g_aligned := He.glo_ok X G (c.t.d.fact 19 rfl)
  b_bool := He.free_ok X G (c.t.d.fact 20 rfl)
  g_check_base := He.glo_ok X G (c.t.d.fact 21 rfl)
  g_compared := He.glo_ok X G (c.t.d.fact 22 rfl)
  b_int := He.free_ok X G (c.t.d.fact 23 rfl)
  b_isinstance := He.free_ok X G (c.t.d.fact 24 rfl)
  g_law := He.glo_ok X G (c.t.d.fact 25 rfl)
  b_len := He.free_ok X G (c.t.d.fact 26 rfl)
  b_list := He.free_ok X G (c.t.d.fact 27 rfl)
  b_min := He.free_ok X G (c.t.d.fact 28 rfl)
  g_power := He.glo_ok X G (c.t.d.fact 29 rfl)
  b_range := He.free_ok X G (c.t.d.fact 30 rfl)
  b_reversed := He.free_ok X G (c.t.d.fact 31 rfl)
  g_squares_up_to := He.glo_ok X G (c.t.d.fact 32 rfl)
  b_str := He.free_ok X G (c.t.d.fact 33 rfl)
  b_tuple := He.free_ok X G (c.t.d.fact 34 rfl)
  g_without_zeros := He.glo_ok X G (c.t.d.fact 35 rfl)
  cls_Exact := He.cls_ok (c.t.d.fact 36 rfl)
  na_Exact_base := He.noat_ok (c.t.d.fact 37 rfl)
  na_Exact_coefficient := He.noat_ok (c.t.d.fact 38 rfl)
  na_Exact_exponent := He.noat_ok (c.t.d.fact 39 rfl)
  ins_Exact := insB_ok (He.cls_ok (c.t.d.fact 40 rfl)) (ex_at c.more 0 rfl)
  isk_Exact_int := of_decide_eq_true (ex_at c.more 1 rfl)
  isk_Exact_str := of_decide_eq_true (ex_at c.more 2 rfl)
  isk_Exact_NoneType := of_decide_eq_true (ex_at c.more 3 rfl)
  isk_Exact_tuple := of_decide_eq_true (ex_at c.more 4 rfl)
  isk_Exact_list := of_decide_eq_true (ex_at c.more 5 rfl)
  mk_Exact := He.mkr_ok (c.t.d.fact 41 rfl)
  cmp_Exact___lt__ := cmpB_ok (ex_at c.more 6 rfl)
  cmp_Exact___le__ := cmpB_ok (ex_at c.more 7 rfl)
  cmp_Exact___gt__ := cmpB_ok (ex_at c.more 8 rfl)
  cmp_Exact___ge__ := cmpB_ok (ex_at c.more 9 rfl)
  cmp_Exact___eq__ := cmpB_ok (ex_at c.more 10 rfl)
  ne_Exact := neB_ok (ex_at c.more 11 rfl)
  subs_Exact := subsB_ok (ex_at c.more 12 rfl)
def lo0 : List PySem.Str := ["_wall", "LostError", "BadBase", "MixedBases", "NoQuotient", "NoPower", "power", "squares_up_to", "count_digits", "without_zeros", "check_base", "Exact", "taken", "aligned", "combined"]
def lo1 : List PySem.Str := ["multiplied", "compared", "quotient", "_law_source", "_law_draw", "_law_base", "_law_precision", "_law_power", "_law_lowest", "_law_sum", "_law_full", "_law_small", "_law_value", "_law_equal", "_law_make"]
def lo2 : List PySem.Str := ["_law_is", "_law_are", "_law_next", "_law_compared", "_law_unlike"]
def lo : List PySem.Str := lo0 ++ lo1 ++ lo2
abbrev R : PySem.W.OpenRow := PySem.W.OpenLaw.row PySem.Challenge.rw_lostinrows_k01_whole_exact_order
abbrev hk : PySem.W.Hook := He.hookX 6 fa fn ts [] ex
def ob (s : PySem.W.SharedT) : He.AlX := He.obsX 6 fa fn ts [] ex (HandSHeadRun.getT s)
theorem ob_eq (s : PySem.W.SharedT) : ob s = hk.obs s.abs := He.obsX_eq (HandSHeadRun.getT_eq s)
theorem run (w : World) : HandSHeadRun.RunEq R (PySem.W.view R.prog [38]) hk ob 6000 lo w := by
  intro os; kernel_rfl
end My
open PySem PySem.W PySem.Calls PyProof.Rows
set_option maxHeartbeats 0 in
theorem PySem.Challenge.cw_lostinrows_k01_whole_exact_order_holds : PySem.Challenge.rw_lostinrows_k01_whole_exact_order.Holds := by
  w_on; o_law
  refine HandSHeadRun.head_any (r := OpenLaw.row PySem.Challenge.rw_lostinrows_k01_whole_exact_order) (q := view (OpenLaw.row PySem.Challenge.rw_lostinrows_k01_whole_exact_order).prog [38]) (H := My.hk) (ob := My.ob) (M := 6000) (loose := My.lo) (d := HandSHeadRun.topDef (OpenLaw.row PySem.Challenge.rw_lostinrows_k01_whole_exact_order).prog 38) (kwd := []) My.ob_eq
    (by kernel_rfl) (fun s => by kernel_rfl) My.run (by kernel_rfl) (by kernel_rfl) (by kernel_rfl) (by rfl) (by first | assumption | decide +kernel) (by decide +kernel) ⟨rfl, rfl, rfl, rfl, rfl, by decide +kernel⟩ ?hw ?hc
  case hw => w_witness2
  case hc =>
    refine L2.walk_ofE (l := PySem.Challenge.rw_lostinrows_k01_whole_exact_order) (n := 63) (k := 6) (x := "script") (CX := L2.CX0) rfl (by decide) (by kernel_rfl) ⟨rfl, by decide, by decide⟩ ?F (fun _ _ _ _ z => z)
    intro w mg fa h Y G hmg0
    obtain ⟨K, KX, c⟩ := Y
    have hmg : mg ("law" : PySem.Str) = some (.ref fa) := by
      have e : (HandSHeadRun.topDef (OpenLaw.row PySem.Challenge.rw_lostinrows_k01_whole_exact_order).prog 38).name = ("law" : PySem.Str) := by kernel_rfl
      rw [← e]
      exact hmg0
    have T := My.txt_of KX G c
    have e := hmg.symm.trans T.g_law
    cases e
    obtain ⟨fd, hb, hF⟩ := My.ok_law (P := (PySem.Challenge.rw_lostinrows_k01_whole_exact_order).prog) T
    exact ⟨K, fd, My.sp_law K, KX, hb, fun H a ns hl _ hS => ⟨a, ns, rfl, hS, hl, fun _ => rfl⟩, fun base _ _ => Z.fn0 (hF base) fun _ _ _ _ z => z⟩

