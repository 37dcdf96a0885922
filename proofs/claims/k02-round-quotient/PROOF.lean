import PyProof.Rows.All
import Wide.All
import OpenK.AllK
import Wide.FinOn
import HandS.ForMost
import HandS.Exc
import HandS.WordsExc
import HandS.Defaults
import HandS.Wide
import HandS.WideBits
import HandS.IsInst
import HandS.Codes
import HandS.Property
import HandS.RevRange
import HandS.More
import HandS.Head0
import HandS.Head1
import HandS.Head2
import HandS.HeadEnd
import HandS.HeadHook1
import HandS.HeadHook2
import HandS.HeadHook3
import HandS.HeadHook4
import HandS.ExcCtx
import HandS.HotCalls
import HandS.CallSlots
import KE.KOpsOwn
import HandS.TryOnly
import PyProof.InstNe
import HandS.ClsMeth
import HandS.MakeKwOnly
import KE.KSuper
import KE.KExcSuper
import HandS.ExcInit
import HandS.ExcField
import HandS.ExcIs
import HandS.ExcValue
import HandS.ReplaceLit
import HandS.StrMore
import HandS.FStr
import PySem.Challenge.RW_lostinrows_k02_round_quotient
set_option Elab.async false
set_option linter.all false
set_option maxRecDepth 100000
set_option maxHeartbeats 4000000
/-! base layer: what stays between two heaps, short steps for readings, defs by their places -/
namespace Z
open PySem PySem.Spec PyProof.Rows L2

/-! ### heaps -/
/-- the shape of a law's source: four ints and the script's copy; such a list may change, all else stays -/
def srcL : List V → Prop
  | [.int _, .int _, .int _, .int _, .ref _] => True
  | _ => False
def stable : HO → Prop
  | .lst xs => ¬ srcL xs
  | _ => True
def Ext (H H' : Hp) : Prop := ∀ b o, stable o → H b = some o → H' b = some o
theorem Ext.refl (H : Hp) : Ext H H := fun _ _ _ h => h
theorem Ext.trans {H H1 H2 : Hp} (a : Ext H H1) (b : Ext H1 H2) : Ext H H2 := fun c o s h => b c o s (a c o s h)
theorem ext_of {H H1 : Hp} (a : Same H H1) : Ext H H1 := fun c o _ h => a c o h
theorem same_new {H : Hp} {p : Addr} {o : HO} (h : H p = none) : Same H (upd H p o) := fun b u e => by
  rw [upd_ne (ne_of_none e h)]; exact e
theorem stab_len {xs : List V} (h : xs.length ≠ 5) : stable (.lst xs) := fun s => by
  unfold srcL at s
  split at s
  · exact h rfl
  · exact s
theorem stab_int (ns : List Int) : stable (.lst (ns.map V.int)) := fun s => by
  unfold srcL at s
  split at s
  · rename_i e
    match ns, e with
    | [a, b, c, d, f], e => simp at e
  · exact s
theorem stab_str (ns : List Str) : stable (.lst (ns.map V.str)) := fun s => by
  unfold srcL at s
  split at s
  · rename_i e
    match ns, e with
    | a :: l, e => simp at e
  · exact s
theorem stab_ref (ns : List Addr) : stable (.lst (ns.map V.ref)) := fun s => by
  unfold srcL at s
  split at s
  · rename_i e
    match ns, e with
    | a :: l, e => simp at e
  · exact s
theorem ext_sqL {K : PySem.W.Frag} {H H' : Hp} {a : Addr} {xs : List V} (hs : stable (.lst xs)) (e : Ext H H') (h : SqL K H a xs) : SqL K H' a xs := by
  rcases h with (h | ⟨o, h⟩) | h
  · exact .inl (.inl (e _ _ hs h))
  · exact .inl (.inr ⟨o, e _ _ trivial h⟩)
  · exact .inr h
theorem ext_sqT {K : PySem.W.Frag} {H H' : Hp} {a : Addr} {xs : List V} (e : Ext H H') (h : SqT K H a xs) : SqT K H' a xs := by
  rcases h with (h | ⟨o, h⟩) | h
  · exact .inl (.inl (e _ _ trivial h))
  · exact .inl (.inr ⟨o, e _ _ trivial h⟩)
  · exact .inr h
theorem same_sqT {K : PySem.W.Frag} {H H' : Hp} {a : Addr} {xs : List V} (e : Same H H') (h : SqT K H a xs) : SqT K H' a xs := ext_sqT (ext_of e) h

/-! ### the law's source -/
/-- at a: a source, its place not below zero -/
def IsSrc (H : Hp) (a : Addr) : Prop := ∃ (i x y z : Int) (c : Addr) (ns : List Int), H a = some (.lst [.int i, .int x, .int y, .int z, .ref c]) ∧ H c = some (.lst (ns.map V.int)) ∧ 0 ≤ i
theorem same_src {H H' : Hp} {a : Addr} (e : Same H H') (h : IsSrc H a) : IsSrc H' a := by
  obtain ⟨i, x, y, z, c, ns, h1, h2, h3⟩ := h
  exact ⟨i, x, y, z, c, ns, e _ _ h1, e _ _ h2, h3⟩

/-! ### sizes -/
def Sz (n : Nat) (i : Int) : Prop := i.natAbs < 2 ^ n
theorem Sz.mono {n m : Nat} {i : Int} (h : Sz n i) (l : n ≤ m) : Sz m i := Nat.lt_of_lt_of_le h (Nat.pow_le_pow_right (by decide) l)
theorem Sz.mul {a b : Nat} {i j : Int} (h : Sz a i) (g : Sz b j) : Sz (a + b) (i * j) := wide_lt h g
theorem Sz.add {a : Nat} {i j : Int} (h : Sz a i) (g : Sz a j) : Sz (a + 1) (i + j) := by
  unfold Sz at *; rw [Nat.pow_succ]; omega
theorem Sz.sub {a : Nat} {i j : Int} (h : Sz a i) (g : Sz a j) : Sz (a + 1) (i - j) := by
  unfold Sz at *; rw [Nat.pow_succ]; omega
theorem Sz.neg {a : Nat} {i : Int} (h : Sz a i) : Sz a (-i) := by unfold Sz at *; omega
theorem Sz.le {a : Nat} {i j : Int} (h : Sz a j) (l : i.natAbs ≤ j.natAbs) : Sz a i := Nat.lt_of_le_of_lt l h
theorem Sz.pow {a : Nat} {i : Int} (h : Sz a i) : ∀ n : Nat, Sz (a * n + 1) (i ^ n)
  | 0 => by show (i ^ 0).natAbs < _; simp
  | n + 1 => by
    have q := (Sz.pow h n).mul h
    rw [Int.pow_succ]
    exact q.mono (by rw [Nat.mul_succ]; omega)
theorem mulx {a b : Nat} {i j : Int} (h : Sz a i) (g : Sz b j) (l : a + b ≤ 134217728 := by decide) : CMulX i j := mulx_ok h g l
theorem divw {b : Nat} {i j : Int} (h : 0 < j) (g : Sz b j) (l0 : 0 < b := by decide) (l : b ≤ 9000 := by decide) : CDivW i j := wide_div h g l0 l
theorem divp {b : Nat} {i j : Int} (h : 0 < j) (g : Sz b j) (l0 : 0 < b := by decide) (l : b ≤ 9000 := by decide) : CDivP i j := ⟨h, PyProof.noPylong_of_log2 (wide_div (i := i) h g l0 l).2⟩

/-! ### names of a def -/
def okName (x : Str) : Bool := !(x == ("__debug__" : Str)) && !(x == ("__classdict__" : Str)) && !(x == ("__name__" : Str))
def visB (N : List Str) (sc : Scope) : Bool := N.all fun x => okName x && (match sc.names.lookup x with
  | some .local => true
  | some .cell => true
  | some .free => true
  | _ => false)
def glB (G : List Str) (sc : Scope) : Bool := G.all fun x => okName x && (match sc.names.lookup x with
  | some .globalImplicit => true
  | _ => false)
theorem okName_of {x : Str} (h : okName x = true) : (x == ("__debug__" : Str)) = false ∧ (x == ("__classdict__" : Str)) = false ∧ x ≠ "__name__" := by
  unfold okName at h
  simp only [Bool.and_eq_true, Bool.not_eq_true'] at h
  exact ⟨h.1.1, h.1.2, by simpa using h.2⟩
theorem vis_of {N : List Str} {sc : Scope} (h : visB N sc = true) {i : Nat} {x : Str} (hN : N[i]? = some x) : Vis sc x ∧ (x == ("__debug__" : Str)) = false ∧ (x == ("__classdict__" : Str)) = false := by
  have q := List.all_eq_true.mp h x (List.mem_of_getElem? hN)
  simp only [Bool.and_eq_true] at q
  obtain ⟨q1, q2⟩ := q
  refine ⟨?_, (okName_of q1).1, (okName_of q1).2.1⟩
  revert q2
  cases e : sc.names.lookup x with
  | none => intro q2; cases q2
  | some k => cases k <;> first | (intro _; exact .inl e) | (intro _; exact .inr (.inl e)) | (intro _; exact .inr (.inr e)) | (intro q2; cases q2)
theorem gl_of {G : List Str} {sc : Scope} (h : glB G sc = true) {i : Nat} {x : Str} (hG : G[i]? = some x) : sc.names.lookup x = some .globalImplicit ∧ (x == ("__debug__" : Str)) = false ∧ x ≠ "__name__" := by
  have q := List.all_eq_true.mp h x (List.mem_of_getElem? hG)
  simp only [Bool.and_eq_true] at q
  obtain ⟨q1, q2⟩ := q
  refine ⟨?_, (okName_of q1).1, (okName_of q1).2.2⟩
  revert q2
  cases e : sc.names.lookup x with
  | none => intro q2; cases q2
  | some k => cases k <;> first | (intro _; rfl) | (intro q2; cases q2)
section
variable {X : Cx} {x : Str} {pos p : Pos} {G : List Str}
theorem pn (hv : visB X.N X.env.scope = true) (i : Nat) (hN : X.N[i]? = some x := by rfl) : PE X (.Name x pos) (tVar i) :=
  let q := vis_of hv hN
  pe_var hN q.1 q.2.1 q.2.2
theorem pgi {i : Int} (hg : glB G X.env.scope = true) (n : Nat) (hm : ∃ t, X.mg x = some (.int i t)) (hx : G[n]? = some x := by rfl) : PE X (.Name x pos) (tC (.int i)) := by
  obtain ⟨t, e⟩ := hm
  exact pe_glob (gl_of hg hx).1 e ⟨t, rfl⟩ (gl_of hg hx).2.1
theorem pgs {z : Str} (hg : glB G X.env.scope = true) (n : Nat) (hm : ∃ t, X.mg x = some (.str z t)) (hx : G[n]? = some x := by rfl) : PE X (.Name x pos) (tC (.str z)) := by
  obtain ⟨t, e⟩ := hm
  exact pe_glob (gl_of hg hx).1 e ⟨t, rfl⟩ (gl_of hg hx).2.1
theorem pgr {a : Addr} (hg : glB G X.env.scope = true) (n : Nat) (hm : X.mg x = some (.ref a)) (hx : G[n]? = some x := by rfl) : PE X (.Name x pos) (tC (.ref a)) := pe_glob (gl_of hg hx).1 hm rfl (gl_of hg hx).2.1
theorem pgt {T : String} (hg : glB G X.env.scope = true) (n : Nat) (hm : X.mg x = none) (hv : bootBuiltins x = some (.type T)) (hx : G[n]? = some x := by rfl) : PE X (.Name x pos) (tC (.ty T)) := pe_bltn (gl_of hg hx).1 hm hv rfl (gl_of hg hx).2.2 (gl_of hg hx).2.1
theorem pcB {id : String} {r : List V → Hp → VK → Prop} {e : Expr} {es : List Expr} {t : TA} (hc : CallR X (.builtin id) r) (hg : glB G X.env.scope = true) (n : Nat) (hm : X.mg x = none) (hv : bootBuiltins x = some (.builtin id)) (ha : PA X (e :: es) t) (hx : G[n]? = some x := by rfl)
    (he : starEach (e :: es) X.env = (false, eval e X.env) :: starEach es X.env := by rfl) (hpl : (backTo pos (starEach es X.env)).any (·.1) = false := by rfl) : PE X (.Call (.Name x p) (e :: es) [] pos) (tCB r t) :=
  pe_callB hc (gl_of hg hx).1 hm hv ha (gl_of hg hx).2.2 (gl_of hg hx).2.1 he hpl
theorem pcT {T : String} {r : List V → Hp → VK → Prop} {e : Expr} {es : List Expr} {t : TA} (hc : CallR X (.type T) r) (hg : glB G X.env.scope = true) (n : Nat) (hm : X.mg x = none) (hv : bootBuiltins x = some (.type T)) (ha : PA X (e :: es) t) (hx : G[n]? = some x := by rfl)
    (he : starEach (e :: es) X.env = (false, eval e X.env) :: starEach es X.env := by rfl) (hpl : (backTo pos (starEach es X.env)).any (·.1) = false := by rfl) : PE X (.Call (.Name x p) (e :: es) [] pos) (tCB r t) :=
  pe_callTy hc (gl_of hg hx).1 hm hv ha (gl_of hg hx).2.2 (gl_of hg hx).2.1 he hpl
end

/-! ### a def that keeps its promise, with what a caller wants of it -/
def OkD (P : Program) (w : World) (K : PySem.W.Frag) (mg : Str → Option Value) (base : Heap) (k : Nat) (f : Addr) (ps : List Str) (dvs : List V) (sp : Sp) : Prop :=
  ∃ (fd : FuncData) (ds : List Value), PySem.W.keepIn K (.ref f) = true ∧ Binds K fd ps ds ∧ Vals dvs ds ∧ FnOk P w K mg base (L2N.CX P w) k f fd ps sp
theorem OkD.mono {P : Program} {w : World} {K : PySem.W.Frag} {mg : Str → Option Value} {base : Heap} {j k : Nat} {f : Addr} {ps : List Str} {dvs : List V} {sp : Sp} (F : OkD P w K mg base j f ps dvs sp) (h : j ≤ k) : OkD P w K mg base k f ps dvs sp := by
  obtain ⟨fd, ds, a, b, c, d⟩ := F
  exact ⟨fd, ds, a, b, c, d.mono h⟩
/-- nothing is raised -/
abbrev EF : XK := fun _ _ _ => False
theorem passF {P : Program} {w : World} {X : Cx} (h : ∀ l H s e s', L2N.CX P w l H s EF e s' → False) : Passes (L2N.CX P w) X EF := fun _ _ _ _ _ _ _ q => (h _ _ _ _ _ q).elim
end Z


/-! ### steps of readings -/
namespace Z
open PySem PySem.Spec L2
open PyProof.Rows hiding St
section
variable {D : Ends} {σ : St} {H : Hp} {Q : VK} {t u : TS} {te ta tb : TE} {g : TG} {v x y : V} {tt tu : TT} {ar : TA} {i j : Int} {a b : Bool} {A B P : Prop}
theorem i_seq (h : t { D with nx := u D } σ H) : tSeq t u D σ H := h
theorem i_nx {F bk ct : St → Hp → Prop} {rt : VK} (h : F σ H) : (Ends.mk F rt bk ct).nx σ H := h
theorem i_next (h : D.nx σ H) : tNext D σ H := h
theorem i_asg (h : te σ H fun x H1 => g x σ H1 D.nx) : tAsg te g D σ H := h
theorem i_drop (h : te σ H fun _ H1 => D.nx σ H1) : tDrop te D σ H := h
theorem i_ret (h : te σ H D.rt) : tRet te D σ H := h
theorem i_retN (h : D.rt .non H) : tRetN D σ H := h
theorem i_if (h : tt σ H fun b H1 => if b = true then t D σ H1 else u D σ H1) : tIfS tt t u D σ H := h
theorem i_brk (h : D.bk σ H) : tBreak D σ H := h
theorem i_cnt (h : D.ct σ H) : tCont D σ H := h
theorem i_c (h : Q v H) : tC v σ H Q := h
theorem i_op {r : R2} (h : ta σ H fun x H1 => tb σ H1 fun y H2 => r x y H2 Q) : tOp r ta tb σ H Q := h
theorem i_un {r : V → Hp → VK → Prop} (h : ta σ H fun x H1 => r x H1 Q) : tUn r ta σ H Q := h
theorem i_I0 {f : Int → Int → V} (h : Q (f i j) H) : rI0 f (.int i) (.int j) H Q := ⟨i, j, rfl, rfl, h⟩
theorem i_I {C : Int → Int → Prop} {f : Int → Int → V} (c : C i j) (h : Q (f i j) H) : rI C f (.int i) (.int j) H Q := ⟨i, j, rfl, rfl, c, h⟩
theorem i_U {f : Int → V} (h : Q (f i) H) : rU f (.int i) H Q := ⟨i, rfl, h⟩
theorem i_test {R : Bool → Hp → Prop} (h : te σ H fun x H' => ∃ k, x = .bl k ∧ R k H') : tTest te σ H R := h
theorem i_tB {R : Bool → Hp → Prop} (h : te σ H fun x H' => ∃ k, x = .bl k ∧ R k H') : tB te σ H R := h
theorem i_bl {F : Bool → Prop} (h : F a) : ∃ k, V.bl a = .bl k ∧ F k := ⟨a, rfl, h⟩
theorem i_and {R : Bool → Hp → Prop} (h : tt σ H fun c H1 => if c = true then tu σ H1 R else R false H1) : tAnd tt tu σ H R := h
theorem i_or {R : Bool → Hp → Prop} (h : tt σ H fun c H1 => if c = true then R true H1 else tu σ H1 R) : tOr tt tu σ H R := h
theorem i_not {R : Bool → Hp → Prop} (h : tt σ H fun c H1 => R (!c) H1) : tNot tt σ H R := h
theorem i_andV (h : ta σ H fun x H1 => ∃ c, x = .bl c ∧ if c = true then tb σ H1 Q else Q (.bl false) H1) : tAndV ta tb σ H Q := h
theorem i_orV (h : ta σ H fun x H1 => ∃ c, x = .bl c ∧ if c = true then Q (.bl true) H1 else tb σ H1 Q) : tOrV ta tb σ H Q := h
theorem i_notV (h : ta σ H fun x H1 => ∃ c, x = .bl c ∧ Q (.bl (!c)) H1) : tNotV ta σ H Q := h
theorem i_ifE (h : tt σ H fun c H1 => if c = true then ta σ H1 Q else tb σ H1 Q) : tIf tt ta tb σ H Q := h
theorem i_blV {F : Bool → Prop} (h : F a) : ∃ c, V.bl a = .bl c ∧ F c := ⟨a, rfl, h⟩
theorem i_ite [Decidable P] (h1 : P → A) (h2 : ¬ P → B) : if decide P = true then A else B := by
  by_cases h : P
  · rw [if_pos (decide_eq_true h)]; exact h1 h
  · rw [if_neg (by simp [h])]; exact h2 h
theorem i_iteN [Decidable P] (h1 : ¬ P → A) (h2 : P → B) : if (!decide P) = true then A else B := by
  by_cases h : P
  · rw [if_neg (by simp [h])]; exact h2 h
  · rw [if_pos (by simp [h])]; exact h1 h
theorem i_iteB (h1 : a = true → A) (h2 : a = false → B) : if a = true then A else B := by
  cases a
  · rw [if_neg (by decide)]; exact h2 rfl
  · rw [if_pos rfl]; exact h1 rfl
theorem i_iteT (h : A) : if true = true then A else B := by rw [if_pos rfl]; exact h
theorem i_iteF (h : B) : if false = true then A else B := by rw [if_neg (by decide)]; exact h
theorem i_iteNT (h : B) : if (!true) = true then A else B := by rw [if_neg (by decide)]; exact h
theorem i_iteNF (h : A) : if (!false) = true then A else B := by rw [if_pos (by decide)]; exact h
theorem i_cons {tr : TA} {R : List V → Hp → Prop} (h : te σ H fun x H1 => tr σ H1 fun xs H2 => R (x :: xs) H2) : tCons te tr σ H R := h
theorem i_nil {R : List V → Hp → Prop} (h : R [] H) : tNil σ H R := h
theorem i_call {sp : Sp} {dvs : List V} {E : XK} (h : ar σ H fun vs H1 => sp (vs ++ dvs) H1 Q E) : tCall sp dvs E ar σ H Q := h
theorem i_cb {r : List V → Hp → VK → Prop} (h : ar σ H fun vs H1 => r vs H1 Q) : tCB r ar σ H Q := h
def kLst (Q : VK) : List V → Hp → Prop := fun xs H1 => xs.length ≤ sizeLine ∧ ∀ p, H1 p = none → Q (.ref p) (upd H1 p (.lst xs))
def kTup (Q : VK) : List V → Hp → Prop := fun xs H1 => xs.length ≤ sizeLine ∧ ∀ p, H1 p = none → Q (.ref p) (upd H1 p (.tup xs))
theorem i_lst (h : ar σ H (kLst Q)) : tLst ar σ H Q := h
theorem i_tup (h : ar σ H (kTup Q)) : tTup ar σ H Q := h
theorem i_kLst {xs : List V} (l : xs.length ≤ 100000) (h : ∀ p H2, H p = none → Same H H2 → H2 p = some (.lst xs) → Q (.ref p) H2) : kLst Q xs H :=
  ⟨Nat.le_trans l (by decide), fun p hp => h p _ hp (same_new hp) upd_same⟩
theorem i_kTup {xs : List V} (l : xs.length ≤ 100000) (h : ∀ p H2, H p = none → Same H H2 → H2 p = some (.tup xs) → Q (.ref p) H2) : kTup Q xs H :=
  ⟨Nat.le_trans l (by decide), fun p hp => h p _ hp (same_new hp) upd_same⟩
theorem i_gtup {K : PySem.W.Frag} {n : Nat} {tg : TGs} {p : Addr} {xs : List V} {R : St → Hp → Prop} (hx : SqT K H p xs) (hn : xs.length = n) (h : tg xs σ H R) : gTup K n tg (.ref p) σ H R := ⟨p, xs, rfl, hx, hn, h⟩
theorem i_gcons {tg : TG} {tgs : TGs} {xs : List V} {R : St → Hp → Prop} (h : tg v σ H fun σ' H' => tgs xs σ' H' R) : gCons tg tgs (v :: xs) σ H R := ⟨v, xs, rfl, h⟩
theorem i_gnil {R : St → Hp → Prop} (h : R σ H) : gNil [] σ H R := ⟨rfl, h⟩
theorem i_start {N : List Str} {vs : List V} {σ' : St} (e : start N vs = σ') (h : t D σ' H) : t D (start N vs) H := by rw [e]; exact h
theorem i_cut (M : St → Hp → Prop) (h : t { D with nx := M } σ H) (k : ∀ σ' H', M σ' H' → u D σ' H') : C8.tCut t u D σ H := ⟨M, h, k⟩
def kTurn (W : Nat → St → Hp → Prop) (m : Nat) : St → Hp → Prop := fun σ' H' => ∃ m', m' < m ∧ W m' σ' H'
theorem i_while (W : Nat → St → Hp → Prop) (h0 : ∃ m, W m σ H) (hs : ∀ m σ H, W m σ H → tt σ H fun b H1 => if b = true then ∃ N : St → Hp → Prop, (∀ σ' H', N σ' H' → ∃ m', m' < m ∧ W m' σ' H') ∧ t { D with nx := N, ct := N, bk := D.nx } σ H1 else D.nx σ H1) : tWhile tt t D σ H := ⟨W, h0, hs⟩
theorem i_turn {W : Nat → St → Hp → Prop} {m : Nat} (h : t { D with nx := kTurn W m, ct := kTurn W m, bk := D.nx } σ H) : ∃ N : St → Hp → Prop, (∀ σ' H', N σ' H' → ∃ m', m' < m ∧ W m' σ' H') ∧ t { D with nx := N, ct := N, bk := D.nx } σ H := ⟨_, fun _ _ h => h, h⟩
/-- for k in range(n) -/
theorem i_for1 {R : It → Hp → Prop} (h : ar σ H fun vs H1 => ∃ j : Int, vs = [.int j] ∧ -(2 ^ 62) ≤ j ∧ j < 2 ^ 62 ∧ R (Itr 0 j.toNat) H1) : iRng1 ar σ H R := h
theorem i_rng1 (Pv : Nat → St → Hp → Prop) {j : Int} (b1 : -(2 ^ 62) ≤ j) (b2 : j < 2 ^ 62) (h0 : Pv 0 σ H)
    (hs : ∀ i σ H, i < j.toNat → Pv i σ H → g (.int (0 + i)) σ H fun σ2 H2 => t { D with nx := Pv (i + 1), ct := Pv (i + 1), bk := D.nx } σ2 H2) (hd : ∀ σ H, Pv j.toNat σ H → D.nx σ H) :
    ∃ j' : Int, [V.int j] = [.int j'] ∧ -(2 ^ 62) ≤ j' ∧ j' < 2 ^ 62 ∧ ∃ W : Nat → Nat → St → Hp → Prop, (∃ m, W 0 m σ H) ∧ ∀ i m σ H, W i m σ H →
      ((Itr 0 j'.toNat).stop i H ∧ D.nx σ H) ∨ ((Itr 0 j'.toNat).go i H ∧ ∃ N : St → Hp → Prop, (∀ σ' H', N σ' H' → ∃ m', m' < m ∧ W (i + 1) m' σ' H') ∧ ∀ x H', (Itr 0 j'.toNat).yld i H x H' → g x σ H' fun σ2 H2 => t { D with nx := N, ct := N, bk := D.nx } σ2 H2) :=
  ⟨j, rfl, b1, b2, for_range Pv h0 hs hd⟩
theorem i_for {wi : TI} (h : wi σ H fun J H1 => ∃ W : Nat → Nat → St → Hp → Prop, (∃ m, W 0 m σ H1) ∧ ∀ i m σ H, W i m σ H →
  (J.stop i H ∧ D.nx σ H) ∨ (J.go i H ∧ ∃ N : St → Hp → Prop, (∀ σ' H', N σ' H' → ∃ m', m' < m ∧ W (i + 1) m' σ' H') ∧ ∀ x H', J.yld i H x H' → g x σ H' fun σ2 H2 => t { D with nx := N, ct := N, bk := D.nx } σ2 H2)) : tFor wi g t D σ H := h
theorem i_lt {K : PySem.W.Frag} {R : It → Hp → Prop} (h : te σ H fun x H1 => ∃ a, x = .ref a ∧ (∃ xs, SqL K H1 a xs) ∧ R (Itl K a) H1) : iList K te σ H R := h
theorem i_forL {K : PySem.W.Frag} {p : Addr} {xs : List V} (Pv : Nat → St → Hp → Prop) (hx : SqL K H p xs) (h0 : Pv 0 σ H) (hl : ∀ i σ H, i ≤ xs.length → Pv i σ H → SqL K H p xs)
    (hs : ∀ i x σ H, xs[i]? = some x → Pv i σ H → g x σ H fun σ2 H2 => t { D with nx := Pv (i + 1), ct := Pv (i + 1), bk := D.nx } σ2 H2) (hd : ∀ σ H, Pv xs.length σ H → D.nx σ H) :
    ∃ a, V.ref p = .ref a ∧ (∃ xs, SqL K H a xs) ∧ ∃ W : Nat → Nat → St → Hp → Prop, (∃ m, W 0 m σ H) ∧ ∀ i m σ H, W i m σ H →
      ((Itl K a).stop i H ∧ D.nx σ H) ∨ ((Itl K a).go i H ∧ ∃ N : St → Hp → Prop, (∀ σ' H', N σ' H' → ∃ m', m' < m ∧ W (i + 1) m' σ' H') ∧ ∀ x H', (Itl K a).yld i H x H' → g x σ H' fun σ2 H2 => t { D with nx := N, ct := N, bk := D.nx } σ2 H2) :=
  ⟨p, rfl, ⟨xs, hx⟩, for_list Pv h0 hl hs hd⟩
theorem i_ixL {K : PySem.W.Frag} {p : Addr} {xs : List V} (hx : SqL K H p xs) (e : atI xs i = some v) (h : Q v H) : rIxL K (.ref p) (.int i) H Q := ⟨p, xs, i, v, rfl, rfl, hx, e, h⟩
theorem i_ixT {K : PySem.W.Frag} {p : Addr} {xs : List V} (hx : SqT K H p xs) (e : atI xs i = some v) (h : Q v H) : rIxT K (.ref p) (.int i) H Q := ⟨p, xs, i, v, rfl, rfl, hx, e, h⟩
theorem i_isi {K : PySem.W.Frag} {c : V} {ty tu : Value} (hc : ClsV c tu) (ht : TyX K H x ty) (hk : PySem.W.kitOne K ty tu = some b) (h : Q (.bl b) H) : rIsi K [x, c] H Q := ⟨x, c, ty, tu, b, rfl, hc, ht, hk, h⟩
end

theorem v0 {r : St} {v : V} {H : Hp} {Q : VK} (h : Q v H) : tVar 0 (some v :: r) H Q := ⟨v, rfl, h⟩
theorem n0 {z : Option V} {r : St} {v : V} {H : Hp} {R : St → Hp → Prop} (h : R (some v :: r) H) : gName 0 v (z :: r) H R := h
theorem v1 {a0 : Option V} {r : St} {v : V} {H : Hp} {Q : VK} (h : Q v H) : tVar 1 (a0 :: some v :: r) H Q := ⟨v, rfl, h⟩
theorem n1 {a0 z : Option V} {r : St} {v : V} {H : Hp} {R : St → Hp → Prop} (h : R (a0 :: some v :: r) H) : gName 1 v (a0 :: z :: r) H R := h
theorem v2 {a0 a1 : Option V} {r : St} {v : V} {H : Hp} {Q : VK} (h : Q v H) : tVar 2 (a0 :: a1 :: some v :: r) H Q := ⟨v, rfl, h⟩
theorem n2 {a0 a1 z : Option V} {r : St} {v : V} {H : Hp} {R : St → Hp → Prop} (h : R (a0 :: a1 :: some v :: r) H) : gName 2 v (a0 :: a1 :: z :: r) H R := h
theorem v3 {a0 a1 a2 : Option V} {r : St} {v : V} {H : Hp} {Q : VK} (h : Q v H) : tVar 3 (a0 :: a1 :: a2 :: some v :: r) H Q := ⟨v, rfl, h⟩
theorem n3 {a0 a1 a2 z : Option V} {r : St} {v : V} {H : Hp} {R : St → Hp → Prop} (h : R (a0 :: a1 :: a2 :: some v :: r) H) : gName 3 v (a0 :: a1 :: a2 :: z :: r) H R := h
theorem v4 {a0 a1 a2 a3 : Option V} {r : St} {v : V} {H : Hp} {Q : VK} (h : Q v H) : tVar 4 (a0 :: a1 :: a2 :: a3 :: some v :: r) H Q := ⟨v, rfl, h⟩
theorem n4 {a0 a1 a2 a3 z : Option V} {r : St} {v : V} {H : Hp} {R : St → Hp → Prop} (h : R (a0 :: a1 :: a2 :: a3 :: some v :: r) H) : gName 4 v (a0 :: a1 :: a2 :: a3 :: z :: r) H R := h
theorem v5 {a0 a1 a2 a3 a4 : Option V} {r : St} {v : V} {H : Hp} {Q : VK} (h : Q v H) : tVar 5 (a0 :: a1 :: a2 :: a3 :: a4 :: some v :: r) H Q := ⟨v, rfl, h⟩
theorem n5 {a0 a1 a2 a3 a4 z : Option V} {r : St} {v : V} {H : Hp} {R : St → Hp → Prop} (h : R (a0 :: a1 :: a2 :: a3 :: a4 :: some v :: r) H) : gName 5 v (a0 :: a1 :: a2 :: a3 :: a4 :: z :: r) H R := h
theorem v6 {a0 a1 a2 a3 a4 a5 : Option V} {r : St} {v : V} {H : Hp} {Q : VK} (h : Q v H) : tVar 6 (a0 :: a1 :: a2 :: a3 :: a4 :: a5 :: some v :: r) H Q := ⟨v, rfl, h⟩
theorem n6 {a0 a1 a2 a3 a4 a5 z : Option V} {r : St} {v : V} {H : Hp} {R : St → Hp → Prop} (h : R (a0 :: a1 :: a2 :: a3 :: a4 :: a5 :: some v :: r) H) : gName 6 v (a0 :: a1 :: a2 :: a3 :: a4 :: a5 :: z :: r) H R := h
theorem v7 {a0 a1 a2 a3 a4 a5 a6 : Option V} {r : St} {v : V} {H : Hp} {Q : VK} (h : Q v H) : tVar 7 (a0 :: a1 :: a2 :: a3 :: a4 :: a5 :: a6 :: some v :: r) H Q := ⟨v, rfl, h⟩
theorem n7 {a0 a1 a2 a3 a4 a5 a6 z : Option V} {r : St} {v : V} {H : Hp} {R : St → Hp → Prop} (h : R (a0 :: a1 :: a2 :: a3 :: a4 :: a5 :: a6 :: some v :: r) H) : gName 7 v (a0 :: a1 :: a2 :: a3 :: a4 :: a5 :: a6 :: z :: r) H R := h
theorem v8 {a0 a1 a2 a3 a4 a5 a6 a7 : Option V} {r : St} {v : V} {H : Hp} {Q : VK} (h : Q v H) : tVar 8 (a0 :: a1 :: a2 :: a3 :: a4 :: a5 :: a6 :: a7 :: some v :: r) H Q := ⟨v, rfl, h⟩
theorem n8 {a0 a1 a2 a3 a4 a5 a6 a7 z : Option V} {r : St} {v : V} {H : Hp} {R : St → Hp → Prop} (h : R (a0 :: a1 :: a2 :: a3 :: a4 :: a5 :: a6 :: a7 :: some v :: r) H) : gName 8 v (a0 :: a1 :: a2 :: a3 :: a4 :: a5 :: a6 :: a7 :: z :: r) H R := h
theorem v9 {a0 a1 a2 a3 a4 a5 a6 a7 a8 : Option V} {r : St} {v : V} {H : Hp} {Q : VK} (h : Q v H) : tVar 9 (a0 :: a1 :: a2 :: a3 :: a4 :: a5 :: a6 :: a7 :: a8 :: some v :: r) H Q := ⟨v, rfl, h⟩
theorem n9 {a0 a1 a2 a3 a4 a5 a6 a7 a8 z : Option V} {r : St} {v : V} {H : Hp} {R : St → Hp → Prop} (h : R (a0 :: a1 :: a2 :: a3 :: a4 :: a5 :: a6 :: a7 :: a8 :: some v :: r) H) : gName 9 v (a0 :: a1 :: a2 :: a3 :: a4 :: a5 :: a6 :: a7 :: a8 :: z :: r) H R := h
theorem v10 {a0 a1 a2 a3 a4 a5 a6 a7 a8 a9 : Option V} {r : St} {v : V} {H : Hp} {Q : VK} (h : Q v H) : tVar 10 (a0 :: a1 :: a2 :: a3 :: a4 :: a5 :: a6 :: a7 :: a8 :: a9 :: some v :: r) H Q := ⟨v, rfl, h⟩
theorem n10 {a0 a1 a2 a3 a4 a5 a6 a7 a8 a9 z : Option V} {r : St} {v : V} {H : Hp} {R : St → Hp → Prop} (h : R (a0 :: a1 :: a2 :: a3 :: a4 :: a5 :: a6 :: a7 :: a8 :: a9 :: some v :: r) H) : gName 10 v (a0 :: a1 :: a2 :: a3 :: a4 :: a5 :: a6 :: a7 :: a8 :: a9 :: z :: r) H R := h
theorem v11 {a0 a1 a2 a3 a4 a5 a6 a7 a8 a9 a10 : Option V} {r : St} {v : V} {H : Hp} {Q : VK} (h : Q v H) : tVar 11 (a0 :: a1 :: a2 :: a3 :: a4 :: a5 :: a6 :: a7 :: a8 :: a9 :: a10 :: some v :: r) H Q := ⟨v, rfl, h⟩
theorem n11 {a0 a1 a2 a3 a4 a5 a6 a7 a8 a9 a10 z : Option V} {r : St} {v : V} {H : Hp} {R : St → Hp → Prop} (h : R (a0 :: a1 :: a2 :: a3 :: a4 :: a5 :: a6 :: a7 :: a8 :: a9 :: a10 :: some v :: r) H) : gName 11 v (a0 :: a1 :: a2 :: a3 :: a4 :: a5 :: a6 :: a7 :: a8 :: a9 :: a10 :: z :: r) H R := h
theorem v12 {a0 a1 a2 a3 a4 a5 a6 a7 a8 a9 a10 a11 : Option V} {r : St} {v : V} {H : Hp} {Q : VK} (h : Q v H) : tVar 12 (a0 :: a1 :: a2 :: a3 :: a4 :: a5 :: a6 :: a7 :: a8 :: a9 :: a10 :: a11 :: some v :: r) H Q := ⟨v, rfl, h⟩
theorem n12 {a0 a1 a2 a3 a4 a5 a6 a7 a8 a9 a10 a11 z : Option V} {r : St} {v : V} {H : Hp} {R : St → Hp → Prop} (h : R (a0 :: a1 :: a2 :: a3 :: a4 :: a5 :: a6 :: a7 :: a8 :: a9 :: a10 :: a11 :: some v :: r) H) : gName 12 v (a0 :: a1 :: a2 :: a3 :: a4 :: a5 :: a6 :: a7 :: a8 :: a9 :: a10 :: a11 :: z :: r) H R := h
theorem v13 {a0 a1 a2 a3 a4 a5 a6 a7 a8 a9 a10 a11 a12 : Option V} {r : St} {v : V} {H : Hp} {Q : VK} (h : Q v H) : tVar 13 (a0 :: a1 :: a2 :: a3 :: a4 :: a5 :: a6 :: a7 :: a8 :: a9 :: a10 :: a11 :: a12 :: some v :: r) H Q := ⟨v, rfl, h⟩
theorem n13 {a0 a1 a2 a3 a4 a5 a6 a7 a8 a9 a10 a11 a12 z : Option V} {r : St} {v : V} {H : Hp} {R : St → Hp → Prop} (h : R (a0 :: a1 :: a2 :: a3 :: a4 :: a5 :: a6 :: a7 :: a8 :: a9 :: a10 :: a11 :: a12 :: some v :: r) H) : gName 13 v (a0 :: a1 :: a2 :: a3 :: a4 :: a5 :: a6 :: a7 :: a8 :: a9 :: a10 :: a11 :: a12 :: z :: r) H R := h
theorem v14 {a0 a1 a2 a3 a4 a5 a6 a7 a8 a9 a10 a11 a12 a13 : Option V} {r : St} {v : V} {H : Hp} {Q : VK} (h : Q v H) : tVar 14 (a0 :: a1 :: a2 :: a3 :: a4 :: a5 :: a6 :: a7 :: a8 :: a9 :: a10 :: a11 :: a12 :: a13 :: some v :: r) H Q := ⟨v, rfl, h⟩
theorem n14 {a0 a1 a2 a3 a4 a5 a6 a7 a8 a9 a10 a11 a12 a13 z : Option V} {r : St} {v : V} {H : Hp} {R : St → Hp → Prop} (h : R (a0 :: a1 :: a2 :: a3 :: a4 :: a5 :: a6 :: a7 :: a8 :: a9 :: a10 :: a11 :: a12 :: a13 :: some v :: r) H) : gName 14 v (a0 :: a1 :: a2 :: a3 :: a4 :: a5 :: a6 :: a7 :: a8 :: a9 :: a10 :: a11 :: a12 :: a13 :: z :: r) H R := h
theorem v15 {a0 a1 a2 a3 a4 a5 a6 a7 a8 a9 a10 a11 a12 a13 a14 : Option V} {r : St} {v : V} {H : Hp} {Q : VK} (h : Q v H) : tVar 15 (a0 :: a1 :: a2 :: a3 :: a4 :: a5 :: a6 :: a7 :: a8 :: a9 :: a10 :: a11 :: a12 :: a13 :: a14 :: some v :: r) H Q := ⟨v, rfl, h⟩
theorem n15 {a0 a1 a2 a3 a4 a5 a6 a7 a8 a9 a10 a11 a12 a13 a14 z : Option V} {r : St} {v : V} {H : Hp} {R : St → Hp → Prop} (h : R (a0 :: a1 :: a2 :: a3 :: a4 :: a5 :: a6 :: a7 :: a8 :: a9 :: a10 :: a11 :: a12 :: a13 :: a14 :: some v :: r) H) : gName 15 v (a0 :: a1 :: a2 :: a3 :: a4 :: a5 :: a6 :: a7 :: a8 :: a9 :: a10 :: a11 :: a12 :: a13 :: a14 :: z :: r) H R := h
theorem v16 {a0 a1 a2 a3 a4 a5 a6 a7 a8 a9 a10 a11 a12 a13 a14 a15 : Option V} {r : St} {v : V} {H : Hp} {Q : VK} (h : Q v H) : tVar 16 (a0 :: a1 :: a2 :: a3 :: a4 :: a5 :: a6 :: a7 :: a8 :: a9 :: a10 :: a11 :: a12 :: a13 :: a14 :: a15 :: some v :: r) H Q := ⟨v, rfl, h⟩
theorem n16 {a0 a1 a2 a3 a4 a5 a6 a7 a8 a9 a10 a11 a12 a13 a14 a15 z : Option V} {r : St} {v : V} {H : Hp} {R : St → Hp → Prop} (h : R (a0 :: a1 :: a2 :: a3 :: a4 :: a5 :: a6 :: a7 :: a8 :: a9 :: a10 :: a11 :: a12 :: a13 :: a14 :: a15 :: some v :: r) H) : gName 16 v (a0 :: a1 :: a2 :: a3 :: a4 :: a5 :: a6 :: a7 :: a8 :: a9 :: a10 :: a11 :: a12 :: a13 :: a14 :: a15 :: z :: r) H R := h
theorem v17 {a0 a1 a2 a3 a4 a5 a6 a7 a8 a9 a10 a11 a12 a13 a14 a15 a16 : Option V} {r : St} {v : V} {H : Hp} {Q : VK} (h : Q v H) : tVar 17 (a0 :: a1 :: a2 :: a3 :: a4 :: a5 :: a6 :: a7 :: a8 :: a9 :: a10 :: a11 :: a12 :: a13 :: a14 :: a15 :: a16 :: some v :: r) H Q := ⟨v, rfl, h⟩
theorem n17 {a0 a1 a2 a3 a4 a5 a6 a7 a8 a9 a10 a11 a12 a13 a14 a15 a16 z : Option V} {r : St} {v : V} {H : Hp} {R : St → Hp → Prop} (h : R (a0 :: a1 :: a2 :: a3 :: a4 :: a5 :: a6 :: a7 :: a8 :: a9 :: a10 :: a11 :: a12 :: a13 :: a14 :: a15 :: a16 :: some v :: r) H) : gName 17 v (a0 :: a1 :: a2 :: a3 :: a4 :: a5 :: a6 :: a7 :: a8 :: a9 :: a10 :: a11 :: a12 :: a13 :: a14 :: a15 :: a16 :: z :: r) H R := h
theorem v18 {a0 a1 a2 a3 a4 a5 a6 a7 a8 a9 a10 a11 a12 a13 a14 a15 a16 a17 : Option V} {r : St} {v : V} {H : Hp} {Q : VK} (h : Q v H) : tVar 18 (a0 :: a1 :: a2 :: a3 :: a4 :: a5 :: a6 :: a7 :: a8 :: a9 :: a10 :: a11 :: a12 :: a13 :: a14 :: a15 :: a16 :: a17 :: some v :: r) H Q := ⟨v, rfl, h⟩
theorem n18 {a0 a1 a2 a3 a4 a5 a6 a7 a8 a9 a10 a11 a12 a13 a14 a15 a16 a17 z : Option V} {r : St} {v : V} {H : Hp} {R : St → Hp → Prop} (h : R (a0 :: a1 :: a2 :: a3 :: a4 :: a5 :: a6 :: a7 :: a8 :: a9 :: a10 :: a11 :: a12 :: a13 :: a14 :: a15 :: a16 :: a17 :: some v :: r) H) : gName 18 v (a0 :: a1 :: a2 :: a3 :: a4 :: a5 :: a6 :: a7 :: a8 :: a9 :: a10 :: a11 :: a12 :: a13 :: a14 :: a15 :: a16 :: a17 :: z :: r) H R := h
theorem v19 {a0 a1 a2 a3 a4 a5 a6 a7 a8 a9 a10 a11 a12 a13 a14 a15 a16 a17 a18 : Option V} {r : St} {v : V} {H : Hp} {Q : VK} (h : Q v H) : tVar 19 (a0 :: a1 :: a2 :: a3 :: a4 :: a5 :: a6 :: a7 :: a8 :: a9 :: a10 :: a11 :: a12 :: a13 :: a14 :: a15 :: a16 :: a17 :: a18 :: some v :: r) H Q := ⟨v, rfl, h⟩
theorem n19 {a0 a1 a2 a3 a4 a5 a6 a7 a8 a9 a10 a11 a12 a13 a14 a15 a16 a17 a18 z : Option V} {r : St} {v : V} {H : Hp} {R : St → Hp → Prop} (h : R (a0 :: a1 :: a2 :: a3 :: a4 :: a5 :: a6 :: a7 :: a8 :: a9 :: a10 :: a11 :: a12 :: a13 :: a14 :: a15 :: a16 :: a17 :: a18 :: some v :: r) H) : gName 19 v (a0 :: a1 :: a2 :: a3 :: a4 :: a5 :: a6 :: a7 :: a8 :: a9 :: a10 :: a11 :: a12 :: a13 :: a14 :: a15 :: a16 :: a17 :: a18 :: z :: r) H R := h
theorem v20 {a0 a1 a2 a3 a4 a5 a6 a7 a8 a9 a10 a11 a12 a13 a14 a15 a16 a17 a18 a19 : Option V} {r : St} {v : V} {H : Hp} {Q : VK} (h : Q v H) : tVar 20 (a0 :: a1 :: a2 :: a3 :: a4 :: a5 :: a6 :: a7 :: a8 :: a9 :: a10 :: a11 :: a12 :: a13 :: a14 :: a15 :: a16 :: a17 :: a18 :: a19 :: some v :: r) H Q := ⟨v, rfl, h⟩
theorem n20 {a0 a1 a2 a3 a4 a5 a6 a7 a8 a9 a10 a11 a12 a13 a14 a15 a16 a17 a18 a19 z : Option V} {r : St} {v : V} {H : Hp} {R : St → Hp → Prop} (h : R (a0 :: a1 :: a2 :: a3 :: a4 :: a5 :: a6 :: a7 :: a8 :: a9 :: a10 :: a11 :: a12 :: a13 :: a14 :: a15 :: a16 :: a17 :: a18 :: a19 :: some v :: r) H) : gName 20 v (a0 :: a1 :: a2 :: a3 :: a4 :: a5 :: a6 :: a7 :: a8 :: a9 :: a10 :: a11 :: a12 :: a13 :: a14 :: a15 :: a16 :: a17 :: a18 :: a19 :: z :: r) H R := h
theorem v21 {a0 a1 a2 a3 a4 a5 a6 a7 a8 a9 a10 a11 a12 a13 a14 a15 a16 a17 a18 a19 a20 : Option V} {r : St} {v : V} {H : Hp} {Q : VK} (h : Q v H) : tVar 21 (a0 :: a1 :: a2 :: a3 :: a4 :: a5 :: a6 :: a7 :: a8 :: a9 :: a10 :: a11 :: a12 :: a13 :: a14 :: a15 :: a16 :: a17 :: a18 :: a19 :: a20 :: some v :: r) H Q := ⟨v, rfl, h⟩
theorem n21 {a0 a1 a2 a3 a4 a5 a6 a7 a8 a9 a10 a11 a12 a13 a14 a15 a16 a17 a18 a19 a20 z : Option V} {r : St} {v : V} {H : Hp} {R : St → Hp → Prop} (h : R (a0 :: a1 :: a2 :: a3 :: a4 :: a5 :: a6 :: a7 :: a8 :: a9 :: a10 :: a11 :: a12 :: a13 :: a14 :: a15 :: a16 :: a17 :: a18 :: a19 :: a20 :: some v :: r) H) : gName 21 v (a0 :: a1 :: a2 :: a3 :: a4 :: a5 :: a6 :: a7 :: a8 :: a9 :: a10 :: a11 :: a12 :: a13 :: a14 :: a15 :: a16 :: a17 :: a18 :: a19 :: a20 :: z :: r) H R := h
theorem v22 {a0 a1 a2 a3 a4 a5 a6 a7 a8 a9 a10 a11 a12 a13 a14 a15 a16 a17 a18 a19 a20 a21 : Option V} {r : St} {v : V} {H : Hp} {Q : VK} (h : Q v H) : tVar 22 (a0 :: a1 :: a2 :: a3 :: a4 :: a5 :: a6 :: a7 :: a8 :: a9 :: a10 :: a11 :: a12 :: a13 :: a14 :: a15 :: a16 :: a17 :: a18 :: a19 :: a20 :: a21 :: some v :: r) H Q := ⟨v, rfl, h⟩
theorem n22 {a0 a1 a2 a3 a4 a5 a6 a7 a8 a9 a10 a11 a12 a13 a14 a15 a16 a17 a18 a19 a20 a21 z : Option V} {r : St} {v : V} {H : Hp} {R : St → Hp → Prop} (h : R (a0 :: a1 :: a2 :: a3 :: a4 :: a5 :: a6 :: a7 :: a8 :: a9 :: a10 :: a11 :: a12 :: a13 :: a14 :: a15 :: a16 :: a17 :: a18 :: a19 :: a20 :: a21 :: some v :: r) H) : gName 22 v (a0 :: a1 :: a2 :: a3 :: a4 :: a5 :: a6 :: a7 :: a8 :: a9 :: a10 :: a11 :: a12 :: a13 :: a14 :: a15 :: a16 :: a17 :: a18 :: a19 :: a20 :: a21 :: z :: r) H R := h
theorem v23 {a0 a1 a2 a3 a4 a5 a6 a7 a8 a9 a10 a11 a12 a13 a14 a15 a16 a17 a18 a19 a20 a21 a22 : Option V} {r : St} {v : V} {H : Hp} {Q : VK} (h : Q v H) : tVar 23 (a0 :: a1 :: a2 :: a3 :: a4 :: a5 :: a6 :: a7 :: a8 :: a9 :: a10 :: a11 :: a12 :: a13 :: a14 :: a15 :: a16 :: a17 :: a18 :: a19 :: a20 :: a21 :: a22 :: some v :: r) H Q := ⟨v, rfl, h⟩
theorem n23 {a0 a1 a2 a3 a4 a5 a6 a7 a8 a9 a10 a11 a12 a13 a14 a15 a16 a17 a18 a19 a20 a21 a22 z : Option V} {r : St} {v : V} {H : Hp} {R : St → Hp → Prop} (h : R (a0 :: a1 :: a2 :: a3 :: a4 :: a5 :: a6 :: a7 :: a8 :: a9 :: a10 :: a11 :: a12 :: a13 :: a14 :: a15 :: a16 :: a17 :: a18 :: a19 :: a20 :: a21 :: a22 :: some v :: r) H) : gName 23 v (a0 :: a1 :: a2 :: a3 :: a4 :: a5 :: a6 :: a7 :: a8 :: a9 :: a10 :: a11 :: a12 :: a13 :: a14 :: a15 :: a16 :: a17 :: a18 :: a19 :: a20 :: a21 :: a22 :: z :: r) H R := h
theorem v24 {a0 a1 a2 a3 a4 a5 a6 a7 a8 a9 a10 a11 a12 a13 a14 a15 a16 a17 a18 a19 a20 a21 a22 a23 : Option V} {r : St} {v : V} {H : Hp} {Q : VK} (h : Q v H) : tVar 24 (a0 :: a1 :: a2 :: a3 :: a4 :: a5 :: a6 :: a7 :: a8 :: a9 :: a10 :: a11 :: a12 :: a13 :: a14 :: a15 :: a16 :: a17 :: a18 :: a19 :: a20 :: a21 :: a22 :: a23 :: some v :: r) H Q := ⟨v, rfl, h⟩
theorem n24 {a0 a1 a2 a3 a4 a5 a6 a7 a8 a9 a10 a11 a12 a13 a14 a15 a16 a17 a18 a19 a20 a21 a22 a23 z : Option V} {r : St} {v : V} {H : Hp} {R : St → Hp → Prop} (h : R (a0 :: a1 :: a2 :: a3 :: a4 :: a5 :: a6 :: a7 :: a8 :: a9 :: a10 :: a11 :: a12 :: a13 :: a14 :: a15 :: a16 :: a17 :: a18 :: a19 :: a20 :: a21 :: a22 :: a23 :: some v :: r) H) : gName 24 v (a0 :: a1 :: a2 :: a3 :: a4 :: a5 :: a6 :: a7 :: a8 :: a9 :: a10 :: a11 :: a12 :: a13 :: a14 :: a15 :: a16 :: a17 :: a18 :: a19 :: a20 :: a21 :: a22 :: a23 :: z :: r) H R := h
theorem v25 {a0 a1 a2 a3 a4 a5 a6 a7 a8 a9 a10 a11 a12 a13 a14 a15 a16 a17 a18 a19 a20 a21 a22 a23 a24 : Option V} {r : St} {v : V} {H : Hp} {Q : VK} (h : Q v H) : tVar 25 (a0 :: a1 :: a2 :: a3 :: a4 :: a5 :: a6 :: a7 :: a8 :: a9 :: a10 :: a11 :: a12 :: a13 :: a14 :: a15 :: a16 :: a17 :: a18 :: a19 :: a20 :: a21 :: a22 :: a23 :: a24 :: some v :: r) H Q := ⟨v, rfl, h⟩
theorem n25 {a0 a1 a2 a3 a4 a5 a6 a7 a8 a9 a10 a11 a12 a13 a14 a15 a16 a17 a18 a19 a20 a21 a22 a23 a24 z : Option V} {r : St} {v : V} {H : Hp} {R : St → Hp → Prop} (h : R (a0 :: a1 :: a2 :: a3 :: a4 :: a5 :: a6 :: a7 :: a8 :: a9 :: a10 :: a11 :: a12 :: a13 :: a14 :: a15 :: a16 :: a17 :: a18 :: a19 :: a20 :: a21 :: a22 :: a23 :: a24 :: some v :: r) H) : gName 25 v (a0 :: a1 :: a2 :: a3 :: a4 :: a5 :: a6 :: a7 :: a8 :: a9 :: a10 :: a11 :: a12 :: a13 :: a14 :: a15 :: a16 :: a17 :: a18 :: a19 :: a20 :: a21 :: a22 :: a23 :: a24 :: z :: r) H R := h
theorem nI0 {z : Option V} {r : St} {i : Int} {H : Hp} {R : St → Hp → Prop} (h : ∀ j : Int, j = i → R (some (V.int j) :: r) H) : gName 0 (V.int i) (z :: r) H R := h i rfl
theorem nB0 {z : Option V} {r : St} {i : Bool} {H : Hp} {R : St → Hp → Prop} (h : ∀ j : Bool, j = i → R (some (V.bl j) :: r) H) : gName 0 (V.bl i) (z :: r) H R := h i rfl
theorem nS0 {z : Option V} {r : St} {i : Str} {H : Hp} {R : St → Hp → Prop} (h : ∀ j : Str, j = i → R (some (V.str j) :: r) H) : gName 0 (V.str i) (z :: r) H R := h i rfl
theorem nI1 {a0 z : Option V} {r : St} {i : Int} {H : Hp} {R : St → Hp → Prop} (h : ∀ j : Int, j = i → R (a0 :: some (V.int j) :: r) H) : gName 1 (V.int i) (a0 :: z :: r) H R := h i rfl
theorem nB1 {a0 z : Option V} {r : St} {i : Bool} {H : Hp} {R : St → Hp → Prop} (h : ∀ j : Bool, j = i → R (a0 :: some (V.bl j) :: r) H) : gName 1 (V.bl i) (a0 :: z :: r) H R := h i rfl
theorem nS1 {a0 z : Option V} {r : St} {i : Str} {H : Hp} {R : St → Hp → Prop} (h : ∀ j : Str, j = i → R (a0 :: some (V.str j) :: r) H) : gName 1 (V.str i) (a0 :: z :: r) H R := h i rfl
theorem nI2 {a0 a1 z : Option V} {r : St} {i : Int} {H : Hp} {R : St → Hp → Prop} (h : ∀ j : Int, j = i → R (a0 :: a1 :: some (V.int j) :: r) H) : gName 2 (V.int i) (a0 :: a1 :: z :: r) H R := h i rfl
theorem nB2 {a0 a1 z : Option V} {r : St} {i : Bool} {H : Hp} {R : St → Hp → Prop} (h : ∀ j : Bool, j = i → R (a0 :: a1 :: some (V.bl j) :: r) H) : gName 2 (V.bl i) (a0 :: a1 :: z :: r) H R := h i rfl
theorem nS2 {a0 a1 z : Option V} {r : St} {i : Str} {H : Hp} {R : St → Hp → Prop} (h : ∀ j : Str, j = i → R (a0 :: a1 :: some (V.str j) :: r) H) : gName 2 (V.str i) (a0 :: a1 :: z :: r) H R := h i rfl
theorem nI3 {a0 a1 a2 z : Option V} {r : St} {i : Int} {H : Hp} {R : St → Hp → Prop} (h : ∀ j : Int, j = i → R (a0 :: a1 :: a2 :: some (V.int j) :: r) H) : gName 3 (V.int i) (a0 :: a1 :: a2 :: z :: r) H R := h i rfl
theorem nB3 {a0 a1 a2 z : Option V} {r : St} {i : Bool} {H : Hp} {R : St → Hp → Prop} (h : ∀ j : Bool, j = i → R (a0 :: a1 :: a2 :: some (V.bl j) :: r) H) : gName 3 (V.bl i) (a0 :: a1 :: a2 :: z :: r) H R := h i rfl
theorem nS3 {a0 a1 a2 z : Option V} {r : St} {i : Str} {H : Hp} {R : St → Hp → Prop} (h : ∀ j : Str, j = i → R (a0 :: a1 :: a2 :: some (V.str j) :: r) H) : gName 3 (V.str i) (a0 :: a1 :: a2 :: z :: r) H R := h i rfl
theorem nI4 {a0 a1 a2 a3 z : Option V} {r : St} {i : Int} {H : Hp} {R : St → Hp → Prop} (h : ∀ j : Int, j = i → R (a0 :: a1 :: a2 :: a3 :: some (V.int j) :: r) H) : gName 4 (V.int i) (a0 :: a1 :: a2 :: a3 :: z :: r) H R := h i rfl
theorem nB4 {a0 a1 a2 a3 z : Option V} {r : St} {i : Bool} {H : Hp} {R : St → Hp → Prop} (h : ∀ j : Bool, j = i → R (a0 :: a1 :: a2 :: a3 :: some (V.bl j) :: r) H) : gName 4 (V.bl i) (a0 :: a1 :: a2 :: a3 :: z :: r) H R := h i rfl
theorem nS4 {a0 a1 a2 a3 z : Option V} {r : St} {i : Str} {H : Hp} {R : St → Hp → Prop} (h : ∀ j : Str, j = i → R (a0 :: a1 :: a2 :: a3 :: some (V.str j) :: r) H) : gName 4 (V.str i) (a0 :: a1 :: a2 :: a3 :: z :: r) H R := h i rfl
theorem nI5 {a0 a1 a2 a3 a4 z : Option V} {r : St} {i : Int} {H : Hp} {R : St → Hp → Prop} (h : ∀ j : Int, j = i → R (a0 :: a1 :: a2 :: a3 :: a4 :: some (V.int j) :: r) H) : gName 5 (V.int i) (a0 :: a1 :: a2 :: a3 :: a4 :: z :: r) H R := h i rfl
theorem nB5 {a0 a1 a2 a3 a4 z : Option V} {r : St} {i : Bool} {H : Hp} {R : St → Hp → Prop} (h : ∀ j : Bool, j = i → R (a0 :: a1 :: a2 :: a3 :: a4 :: some (V.bl j) :: r) H) : gName 5 (V.bl i) (a0 :: a1 :: a2 :: a3 :: a4 :: z :: r) H R := h i rfl
theorem nS5 {a0 a1 a2 a3 a4 z : Option V} {r : St} {i : Str} {H : Hp} {R : St → Hp → Prop} (h : ∀ j : Str, j = i → R (a0 :: a1 :: a2 :: a3 :: a4 :: some (V.str j) :: r) H) : gName 5 (V.str i) (a0 :: a1 :: a2 :: a3 :: a4 :: z :: r) H R := h i rfl
theorem nI6 {a0 a1 a2 a3 a4 a5 z : Option V} {r : St} {i : Int} {H : Hp} {R : St → Hp → Prop} (h : ∀ j : Int, j = i → R (a0 :: a1 :: a2 :: a3 :: a4 :: a5 :: some (V.int j) :: r) H) : gName 6 (V.int i) (a0 :: a1 :: a2 :: a3 :: a4 :: a5 :: z :: r) H R := h i rfl
theorem nB6 {a0 a1 a2 a3 a4 a5 z : Option V} {r : St} {i : Bool} {H : Hp} {R : St → Hp → Prop} (h : ∀ j : Bool, j = i → R (a0 :: a1 :: a2 :: a3 :: a4 :: a5 :: some (V.bl j) :: r) H) : gName 6 (V.bl i) (a0 :: a1 :: a2 :: a3 :: a4 :: a5 :: z :: r) H R := h i rfl
theorem nS6 {a0 a1 a2 a3 a4 a5 z : Option V} {r : St} {i : Str} {H : Hp} {R : St → Hp → Prop} (h : ∀ j : Str, j = i → R (a0 :: a1 :: a2 :: a3 :: a4 :: a5 :: some (V.str j) :: r) H) : gName 6 (V.str i) (a0 :: a1 :: a2 :: a3 :: a4 :: a5 :: z :: r) H R := h i rfl
theorem nI7 {a0 a1 a2 a3 a4 a5 a6 z : Option V} {r : St} {i : Int} {H : Hp} {R : St → Hp → Prop} (h : ∀ j : Int, j = i → R (a0 :: a1 :: a2 :: a3 :: a4 :: a5 :: a6 :: some (V.int j) :: r) H) : gName 7 (V.int i) (a0 :: a1 :: a2 :: a3 :: a4 :: a5 :: a6 :: z :: r) H R := h i rfl
theorem nB7 {a0 a1 a2 a3 a4 a5 a6 z : Option V} {r : St} {i : Bool} {H : Hp} {R : St → Hp → Prop} (h : ∀ j : Bool, j = i → R (a0 :: a1 :: a2 :: a3 :: a4 :: a5 :: a6 :: some (V.bl j) :: r) H) : gName 7 (V.bl i) (a0 :: a1 :: a2 :: a3 :: a4 :: a5 :: a6 :: z :: r) H R := h i rfl
theorem nS7 {a0 a1 a2 a3 a4 a5 a6 z : Option V} {r : St} {i : Str} {H : Hp} {R : St → Hp → Prop} (h : ∀ j : Str, j = i → R (a0 :: a1 :: a2 :: a3 :: a4 :: a5 :: a6 :: some (V.str j) :: r) H) : gName 7 (V.str i) (a0 :: a1 :: a2 :: a3 :: a4 :: a5 :: a6 :: z :: r) H R := h i rfl
theorem nI8 {a0 a1 a2 a3 a4 a5 a6 a7 z : Option V} {r : St} {i : Int} {H : Hp} {R : St → Hp → Prop} (h : ∀ j : Int, j = i → R (a0 :: a1 :: a2 :: a3 :: a4 :: a5 :: a6 :: a7 :: some (V.int j) :: r) H) : gName 8 (V.int i) (a0 :: a1 :: a2 :: a3 :: a4 :: a5 :: a6 :: a7 :: z :: r) H R := h i rfl
theorem nB8 {a0 a1 a2 a3 a4 a5 a6 a7 z : Option V} {r : St} {i : Bool} {H : Hp} {R : St → Hp → Prop} (h : ∀ j : Bool, j = i → R (a0 :: a1 :: a2 :: a3 :: a4 :: a5 :: a6 :: a7 :: some (V.bl j) :: r) H) : gName 8 (V.bl i) (a0 :: a1 :: a2 :: a3 :: a4 :: a5 :: a6 :: a7 :: z :: r) H R := h i rfl
theorem nS8 {a0 a1 a2 a3 a4 a5 a6 a7 z : Option V} {r : St} {i : Str} {H : Hp} {R : St → Hp → Prop} (h : ∀ j : Str, j = i → R (a0 :: a1 :: a2 :: a3 :: a4 :: a5 :: a6 :: a7 :: some (V.str j) :: r) H) : gName 8 (V.str i) (a0 :: a1 :: a2 :: a3 :: a4 :: a5 :: a6 :: a7 :: z :: r) H R := h i rfl
theorem nI9 {a0 a1 a2 a3 a4 a5 a6 a7 a8 z : Option V} {r : St} {i : Int} {H : Hp} {R : St → Hp → Prop} (h : ∀ j : Int, j = i → R (a0 :: a1 :: a2 :: a3 :: a4 :: a5 :: a6 :: a7 :: a8 :: some (V.int j) :: r) H) : gName 9 (V.int i) (a0 :: a1 :: a2 :: a3 :: a4 :: a5 :: a6 :: a7 :: a8 :: z :: r) H R := h i rfl
theorem nB9 {a0 a1 a2 a3 a4 a5 a6 a7 a8 z : Option V} {r : St} {i : Bool} {H : Hp} {R : St → Hp → Prop} (h : ∀ j : Bool, j = i → R (a0 :: a1 :: a2 :: a3 :: a4 :: a5 :: a6 :: a7 :: a8 :: some (V.bl j) :: r) H) : gName 9 (V.bl i) (a0 :: a1 :: a2 :: a3 :: a4 :: a5 :: a6 :: a7 :: a8 :: z :: r) H R := h i rfl
theorem nS9 {a0 a1 a2 a3 a4 a5 a6 a7 a8 z : Option V} {r : St} {i : Str} {H : Hp} {R : St → Hp → Prop} (h : ∀ j : Str, j = i → R (a0 :: a1 :: a2 :: a3 :: a4 :: a5 :: a6 :: a7 :: a8 :: some (V.str j) :: r) H) : gName 9 (V.str i) (a0 :: a1 :: a2 :: a3 :: a4 :: a5 :: a6 :: a7 :: a8 :: z :: r) H R := h i rfl
theorem nI10 {a0 a1 a2 a3 a4 a5 a6 a7 a8 a9 z : Option V} {r : St} {i : Int} {H : Hp} {R : St → Hp → Prop} (h : ∀ j : Int, j = i → R (a0 :: a1 :: a2 :: a3 :: a4 :: a5 :: a6 :: a7 :: a8 :: a9 :: some (V.int j) :: r) H) : gName 10 (V.int i) (a0 :: a1 :: a2 :: a3 :: a4 :: a5 :: a6 :: a7 :: a8 :: a9 :: z :: r) H R := h i rfl
theorem nB10 {a0 a1 a2 a3 a4 a5 a6 a7 a8 a9 z : Option V} {r : St} {i : Bool} {H : Hp} {R : St → Hp → Prop} (h : ∀ j : Bool, j = i → R (a0 :: a1 :: a2 :: a3 :: a4 :: a5 :: a6 :: a7 :: a8 :: a9 :: some (V.bl j) :: r) H) : gName 10 (V.bl i) (a0 :: a1 :: a2 :: a3 :: a4 :: a5 :: a6 :: a7 :: a8 :: a9 :: z :: r) H R := h i rfl
theorem nS10 {a0 a1 a2 a3 a4 a5 a6 a7 a8 a9 z : Option V} {r : St} {i : Str} {H : Hp} {R : St → Hp → Prop} (h : ∀ j : Str, j = i → R (a0 :: a1 :: a2 :: a3 :: a4 :: a5 :: a6 :: a7 :: a8 :: a9 :: some (V.str j) :: r) H) : gName 10 (V.str i) (a0 :: a1 :: a2 :: a3 :: a4 :: a5 :: a6 :: a7 :: a8 :: a9 :: z :: r) H R := h i rfl
theorem nI11 {a0 a1 a2 a3 a4 a5 a6 a7 a8 a9 a10 z : Option V} {r : St} {i : Int} {H : Hp} {R : St → Hp → Prop} (h : ∀ j : Int, j = i → R (a0 :: a1 :: a2 :: a3 :: a4 :: a5 :: a6 :: a7 :: a8 :: a9 :: a10 :: some (V.int j) :: r) H) : gName 11 (V.int i) (a0 :: a1 :: a2 :: a3 :: a4 :: a5 :: a6 :: a7 :: a8 :: a9 :: a10 :: z :: r) H R := h i rfl
theorem nB11 {a0 a1 a2 a3 a4 a5 a6 a7 a8 a9 a10 z : Option V} {r : St} {i : Bool} {H : Hp} {R : St → Hp → Prop} (h : ∀ j : Bool, j = i → R (a0 :: a1 :: a2 :: a3 :: a4 :: a5 :: a6 :: a7 :: a8 :: a9 :: a10 :: some (V.bl j) :: r) H) : gName 11 (V.bl i) (a0 :: a1 :: a2 :: a3 :: a4 :: a5 :: a6 :: a7 :: a8 :: a9 :: a10 :: z :: r) H R := h i rfl
theorem nS11 {a0 a1 a2 a3 a4 a5 a6 a7 a8 a9 a10 z : Option V} {r : St} {i : Str} {H : Hp} {R : St → Hp → Prop} (h : ∀ j : Str, j = i → R (a0 :: a1 :: a2 :: a3 :: a4 :: a5 :: a6 :: a7 :: a8 :: a9 :: a10 :: some (V.str j) :: r) H) : gName 11 (V.str i) (a0 :: a1 :: a2 :: a3 :: a4 :: a5 :: a6 :: a7 :: a8 :: a9 :: a10 :: z :: r) H R := h i rfl
theorem nI12 {a0 a1 a2 a3 a4 a5 a6 a7 a8 a9 a10 a11 z : Option V} {r : St} {i : Int} {H : Hp} {R : St → Hp → Prop} (h : ∀ j : Int, j = i → R (a0 :: a1 :: a2 :: a3 :: a4 :: a5 :: a6 :: a7 :: a8 :: a9 :: a10 :: a11 :: some (V.int j) :: r) H) : gName 12 (V.int i) (a0 :: a1 :: a2 :: a3 :: a4 :: a5 :: a6 :: a7 :: a8 :: a9 :: a10 :: a11 :: z :: r) H R := h i rfl
theorem nB12 {a0 a1 a2 a3 a4 a5 a6 a7 a8 a9 a10 a11 z : Option V} {r : St} {i : Bool} {H : Hp} {R : St → Hp → Prop} (h : ∀ j : Bool, j = i → R (a0 :: a1 :: a2 :: a3 :: a4 :: a5 :: a6 :: a7 :: a8 :: a9 :: a10 :: a11 :: some (V.bl j) :: r) H) : gName 12 (V.bl i) (a0 :: a1 :: a2 :: a3 :: a4 :: a5 :: a6 :: a7 :: a8 :: a9 :: a10 :: a11 :: z :: r) H R := h i rfl
theorem nS12 {a0 a1 a2 a3 a4 a5 a6 a7 a8 a9 a10 a11 z : Option V} {r : St} {i : Str} {H : Hp} {R : St → Hp → Prop} (h : ∀ j : Str, j = i → R (a0 :: a1 :: a2 :: a3 :: a4 :: a5 :: a6 :: a7 :: a8 :: a9 :: a10 :: a11 :: some (V.str j) :: r) H) : gName 12 (V.str i) (a0 :: a1 :: a2 :: a3 :: a4 :: a5 :: a6 :: a7 :: a8 :: a9 :: a10 :: a11 :: z :: r) H R := h i rfl
theorem nI13 {a0 a1 a2 a3 a4 a5 a6 a7 a8 a9 a10 a11 a12 z : Option V} {r : St} {i : Int} {H : Hp} {R : St → Hp → Prop} (h : ∀ j : Int, j = i → R (a0 :: a1 :: a2 :: a3 :: a4 :: a5 :: a6 :: a7 :: a8 :: a9 :: a10 :: a11 :: a12 :: some (V.int j) :: r) H) : gName 13 (V.int i) (a0 :: a1 :: a2 :: a3 :: a4 :: a5 :: a6 :: a7 :: a8 :: a9 :: a10 :: a11 :: a12 :: z :: r) H R := h i rfl
theorem nB13 {a0 a1 a2 a3 a4 a5 a6 a7 a8 a9 a10 a11 a12 z : Option V} {r : St} {i : Bool} {H : Hp} {R : St → Hp → Prop} (h : ∀ j : Bool, j = i → R (a0 :: a1 :: a2 :: a3 :: a4 :: a5 :: a6 :: a7 :: a8 :: a9 :: a10 :: a11 :: a12 :: some (V.bl j) :: r) H) : gName 13 (V.bl i) (a0 :: a1 :: a2 :: a3 :: a4 :: a5 :: a6 :: a7 :: a8 :: a9 :: a10 :: a11 :: a12 :: z :: r) H R := h i rfl
theorem nS13 {a0 a1 a2 a3 a4 a5 a6 a7 a8 a9 a10 a11 a12 z : Option V} {r : St} {i : Str} {H : Hp} {R : St → Hp → Prop} (h : ∀ j : Str, j = i → R (a0 :: a1 :: a2 :: a3 :: a4 :: a5 :: a6 :: a7 :: a8 :: a9 :: a10 :: a11 :: a12 :: some (V.str j) :: r) H) : gName 13 (V.str i) (a0 :: a1 :: a2 :: a3 :: a4 :: a5 :: a6 :: a7 :: a8 :: a9 :: a10 :: a11 :: a12 :: z :: r) H R := h i rfl
theorem nI14 {a0 a1 a2 a3 a4 a5 a6 a7 a8 a9 a10 a11 a12 a13 z : Option V} {r : St} {i : Int} {H : Hp} {R : St → Hp → Prop} (h : ∀ j : Int, j = i → R (a0 :: a1 :: a2 :: a3 :: a4 :: a5 :: a6 :: a7 :: a8 :: a9 :: a10 :: a11 :: a12 :: a13 :: some (V.int j) :: r) H) : gName 14 (V.int i) (a0 :: a1 :: a2 :: a3 :: a4 :: a5 :: a6 :: a7 :: a8 :: a9 :: a10 :: a11 :: a12 :: a13 :: z :: r) H R := h i rfl
theorem nB14 {a0 a1 a2 a3 a4 a5 a6 a7 a8 a9 a10 a11 a12 a13 z : Option V} {r : St} {i : Bool} {H : Hp} {R : St → Hp → Prop} (h : ∀ j : Bool, j = i → R (a0 :: a1 :: a2 :: a3 :: a4 :: a5 :: a6 :: a7 :: a8 :: a9 :: a10 :: a11 :: a12 :: a13 :: some (V.bl j) :: r) H) : gName 14 (V.bl i) (a0 :: a1 :: a2 :: a3 :: a4 :: a5 :: a6 :: a7 :: a8 :: a9 :: a10 :: a11 :: a12 :: a13 :: z :: r) H R := h i rfl
theorem nS14 {a0 a1 a2 a3 a4 a5 a6 a7 a8 a9 a10 a11 a12 a13 z : Option V} {r : St} {i : Str} {H : Hp} {R : St → Hp → Prop} (h : ∀ j : Str, j = i → R (a0 :: a1 :: a2 :: a3 :: a4 :: a5 :: a6 :: a7 :: a8 :: a9 :: a10 :: a11 :: a12 :: a13 :: some (V.str j) :: r) H) : gName 14 (V.str i) (a0 :: a1 :: a2 :: a3 :: a4 :: a5 :: a6 :: a7 :: a8 :: a9 :: a10 :: a11 :: a12 :: a13 :: z :: r) H R := h i rfl
theorem nI15 {a0 a1 a2 a3 a4 a5 a6 a7 a8 a9 a10 a11 a12 a13 a14 z : Option V} {r : St} {i : Int} {H : Hp} {R : St → Hp → Prop} (h : ∀ j : Int, j = i → R (a0 :: a1 :: a2 :: a3 :: a4 :: a5 :: a6 :: a7 :: a8 :: a9 :: a10 :: a11 :: a12 :: a13 :: a14 :: some (V.int j) :: r) H) : gName 15 (V.int i) (a0 :: a1 :: a2 :: a3 :: a4 :: a5 :: a6 :: a7 :: a8 :: a9 :: a10 :: a11 :: a12 :: a13 :: a14 :: z :: r) H R := h i rfl
theorem nB15 {a0 a1 a2 a3 a4 a5 a6 a7 a8 a9 a10 a11 a12 a13 a14 z : Option V} {r : St} {i : Bool} {H : Hp} {R : St → Hp → Prop} (h : ∀ j : Bool, j = i → R (a0 :: a1 :: a2 :: a3 :: a4 :: a5 :: a6 :: a7 :: a8 :: a9 :: a10 :: a11 :: a12 :: a13 :: a14 :: some (V.bl j) :: r) H) : gName 15 (V.bl i) (a0 :: a1 :: a2 :: a3 :: a4 :: a5 :: a6 :: a7 :: a8 :: a9 :: a10 :: a11 :: a12 :: a13 :: a14 :: z :: r) H R := h i rfl
theorem nS15 {a0 a1 a2 a3 a4 a5 a6 a7 a8 a9 a10 a11 a12 a13 a14 z : Option V} {r : St} {i : Str} {H : Hp} {R : St → Hp → Prop} (h : ∀ j : Str, j = i → R (a0 :: a1 :: a2 :: a3 :: a4 :: a5 :: a6 :: a7 :: a8 :: a9 :: a10 :: a11 :: a12 :: a13 :: a14 :: some (V.str j) :: r) H) : gName 15 (V.str i) (a0 :: a1 :: a2 :: a3 :: a4 :: a5 :: a6 :: a7 :: a8 :: a9 :: a10 :: a11 :: a12 :: a13 :: a14 :: z :: r) H R := h i rfl
theorem nI16 {a0 a1 a2 a3 a4 a5 a6 a7 a8 a9 a10 a11 a12 a13 a14 a15 z : Option V} {r : St} {i : Int} {H : Hp} {R : St → Hp → Prop} (h : ∀ j : Int, j = i → R (a0 :: a1 :: a2 :: a3 :: a4 :: a5 :: a6 :: a7 :: a8 :: a9 :: a10 :: a11 :: a12 :: a13 :: a14 :: a15 :: some (V.int j) :: r) H) : gName 16 (V.int i) (a0 :: a1 :: a2 :: a3 :: a4 :: a5 :: a6 :: a7 :: a8 :: a9 :: a10 :: a11 :: a12 :: a13 :: a14 :: a15 :: z :: r) H R := h i rfl
theorem nB16 {a0 a1 a2 a3 a4 a5 a6 a7 a8 a9 a10 a11 a12 a13 a14 a15 z : Option V} {r : St} {i : Bool} {H : Hp} {R : St → Hp → Prop} (h : ∀ j : Bool, j = i → R (a0 :: a1 :: a2 :: a3 :: a4 :: a5 :: a6 :: a7 :: a8 :: a9 :: a10 :: a11 :: a12 :: a13 :: a14 :: a15 :: some (V.bl j) :: r) H) : gName 16 (V.bl i) (a0 :: a1 :: a2 :: a3 :: a4 :: a5 :: a6 :: a7 :: a8 :: a9 :: a10 :: a11 :: a12 :: a13 :: a14 :: a15 :: z :: r) H R := h i rfl
theorem nS16 {a0 a1 a2 a3 a4 a5 a6 a7 a8 a9 a10 a11 a12 a13 a14 a15 z : Option V} {r : St} {i : Str} {H : Hp} {R : St → Hp → Prop} (h : ∀ j : Str, j = i → R (a0 :: a1 :: a2 :: a3 :: a4 :: a5 :: a6 :: a7 :: a8 :: a9 :: a10 :: a11 :: a12 :: a13 :: a14 :: a15 :: some (V.str j) :: r) H) : gName 16 (V.str i) (a0 :: a1 :: a2 :: a3 :: a4 :: a5 :: a6 :: a7 :: a8 :: a9 :: a10 :: a11 :: a12 :: a13 :: a14 :: a15 :: z :: r) H R := h i rfl
theorem nI17 {a0 a1 a2 a3 a4 a5 a6 a7 a8 a9 a10 a11 a12 a13 a14 a15 a16 z : Option V} {r : St} {i : Int} {H : Hp} {R : St → Hp → Prop} (h : ∀ j : Int, j = i → R (a0 :: a1 :: a2 :: a3 :: a4 :: a5 :: a6 :: a7 :: a8 :: a9 :: a10 :: a11 :: a12 :: a13 :: a14 :: a15 :: a16 :: some (V.int j) :: r) H) : gName 17 (V.int i) (a0 :: a1 :: a2 :: a3 :: a4 :: a5 :: a6 :: a7 :: a8 :: a9 :: a10 :: a11 :: a12 :: a13 :: a14 :: a15 :: a16 :: z :: r) H R := h i rfl
theorem nB17 {a0 a1 a2 a3 a4 a5 a6 a7 a8 a9 a10 a11 a12 a13 a14 a15 a16 z : Option V} {r : St} {i : Bool} {H : Hp} {R : St → Hp → Prop} (h : ∀ j : Bool, j = i → R (a0 :: a1 :: a2 :: a3 :: a4 :: a5 :: a6 :: a7 :: a8 :: a9 :: a10 :: a11 :: a12 :: a13 :: a14 :: a15 :: a16 :: some (V.bl j) :: r) H) : gName 17 (V.bl i) (a0 :: a1 :: a2 :: a3 :: a4 :: a5 :: a6 :: a7 :: a8 :: a9 :: a10 :: a11 :: a12 :: a13 :: a14 :: a15 :: a16 :: z :: r) H R := h i rfl
theorem nS17 {a0 a1 a2 a3 a4 a5 a6 a7 a8 a9 a10 a11 a12 a13 a14 a15 a16 z : Option V} {r : St} {i : Str} {H : Hp} {R : St → Hp → Prop} (h : ∀ j : Str, j = i → R (a0 :: a1 :: a2 :: a3 :: a4 :: a5 :: a6 :: a7 :: a8 :: a9 :: a10 :: a11 :: a12 :: a13 :: a14 :: a15 :: a16 :: some (V.str j) :: r) H) : gName 17 (V.str i) (a0 :: a1 :: a2 :: a3 :: a4 :: a5 :: a6 :: a7 :: a8 :: a9 :: a10 :: a11 :: a12 :: a13 :: a14 :: a15 :: a16 :: z :: r) H R := h i rfl
theorem nI18 {a0 a1 a2 a3 a4 a5 a6 a7 a8 a9 a10 a11 a12 a13 a14 a15 a16 a17 z : Option V} {r : St} {i : Int} {H : Hp} {R : St → Hp → Prop} (h : ∀ j : Int, j = i → R (a0 :: a1 :: a2 :: a3 :: a4 :: a5 :: a6 :: a7 :: a8 :: a9 :: a10 :: a11 :: a12 :: a13 :: a14 :: a15 :: a16 :: a17 :: some (V.int j) :: r) H) : gName 18 (V.int i) (a0 :: a1 :: a2 :: a3 :: a4 :: a5 :: a6 :: a7 :: a8 :: a9 :: a10 :: a11 :: a12 :: a13 :: a14 :: a15 :: a16 :: a17 :: z :: r) H R := h i rfl
theorem nB18 {a0 a1 a2 a3 a4 a5 a6 a7 a8 a9 a10 a11 a12 a13 a14 a15 a16 a17 z : Option V} {r : St} {i : Bool} {H : Hp} {R : St → Hp → Prop} (h : ∀ j : Bool, j = i → R (a0 :: a1 :: a2 :: a3 :: a4 :: a5 :: a6 :: a7 :: a8 :: a9 :: a10 :: a11 :: a12 :: a13 :: a14 :: a15 :: a16 :: a17 :: some (V.bl j) :: r) H) : gName 18 (V.bl i) (a0 :: a1 :: a2 :: a3 :: a4 :: a5 :: a6 :: a7 :: a8 :: a9 :: a10 :: a11 :: a12 :: a13 :: a14 :: a15 :: a16 :: a17 :: z :: r) H R := h i rfl
theorem nS18 {a0 a1 a2 a3 a4 a5 a6 a7 a8 a9 a10 a11 a12 a13 a14 a15 a16 a17 z : Option V} {r : St} {i : Str} {H : Hp} {R : St → Hp → Prop} (h : ∀ j : Str, j = i → R (a0 :: a1 :: a2 :: a3 :: a4 :: a5 :: a6 :: a7 :: a8 :: a9 :: a10 :: a11 :: a12 :: a13 :: a14 :: a15 :: a16 :: a17 :: some (V.str j) :: r) H) : gName 18 (V.str i) (a0 :: a1 :: a2 :: a3 :: a4 :: a5 :: a6 :: a7 :: a8 :: a9 :: a10 :: a11 :: a12 :: a13 :: a14 :: a15 :: a16 :: a17 :: z :: r) H R := h i rfl
theorem nI19 {a0 a1 a2 a3 a4 a5 a6 a7 a8 a9 a10 a11 a12 a13 a14 a15 a16 a17 a18 z : Option V} {r : St} {i : Int} {H : Hp} {R : St → Hp → Prop} (h : ∀ j : Int, j = i → R (a0 :: a1 :: a2 :: a3 :: a4 :: a5 :: a6 :: a7 :: a8 :: a9 :: a10 :: a11 :: a12 :: a13 :: a14 :: a15 :: a16 :: a17 :: a18 :: some (V.int j) :: r) H) : gName 19 (V.int i) (a0 :: a1 :: a2 :: a3 :: a4 :: a5 :: a6 :: a7 :: a8 :: a9 :: a10 :: a11 :: a12 :: a13 :: a14 :: a15 :: a16 :: a17 :: a18 :: z :: r) H R := h i rfl
theorem nB19 {a0 a1 a2 a3 a4 a5 a6 a7 a8 a9 a10 a11 a12 a13 a14 a15 a16 a17 a18 z : Option V} {r : St} {i : Bool} {H : Hp} {R : St → Hp → Prop} (h : ∀ j : Bool, j = i → R (a0 :: a1 :: a2 :: a3 :: a4 :: a5 :: a6 :: a7 :: a8 :: a9 :: a10 :: a11 :: a12 :: a13 :: a14 :: a15 :: a16 :: a17 :: a18 :: some (V.bl j) :: r) H) : gName 19 (V.bl i) (a0 :: a1 :: a2 :: a3 :: a4 :: a5 :: a6 :: a7 :: a8 :: a9 :: a10 :: a11 :: a12 :: a13 :: a14 :: a15 :: a16 :: a17 :: a18 :: z :: r) H R := h i rfl
theorem nS19 {a0 a1 a2 a3 a4 a5 a6 a7 a8 a9 a10 a11 a12 a13 a14 a15 a16 a17 a18 z : Option V} {r : St} {i : Str} {H : Hp} {R : St → Hp → Prop} (h : ∀ j : Str, j = i → R (a0 :: a1 :: a2 :: a3 :: a4 :: a5 :: a6 :: a7 :: a8 :: a9 :: a10 :: a11 :: a12 :: a13 :: a14 :: a15 :: a16 :: a17 :: a18 :: some (V.str j) :: r) H) : gName 19 (V.str i) (a0 :: a1 :: a2 :: a3 :: a4 :: a5 :: a6 :: a7 :: a8 :: a9 :: a10 :: a11 :: a12 :: a13 :: a14 :: a15 :: a16 :: a17 :: a18 :: z :: r) H R := h i rfl
theorem nI20 {a0 a1 a2 a3 a4 a5 a6 a7 a8 a9 a10 a11 a12 a13 a14 a15 a16 a17 a18 a19 z : Option V} {r : St} {i : Int} {H : Hp} {R : St → Hp → Prop} (h : ∀ j : Int, j = i → R (a0 :: a1 :: a2 :: a3 :: a4 :: a5 :: a6 :: a7 :: a8 :: a9 :: a10 :: a11 :: a12 :: a13 :: a14 :: a15 :: a16 :: a17 :: a18 :: a19 :: some (V.int j) :: r) H) : gName 20 (V.int i) (a0 :: a1 :: a2 :: a3 :: a4 :: a5 :: a6 :: a7 :: a8 :: a9 :: a10 :: a11 :: a12 :: a13 :: a14 :: a15 :: a16 :: a17 :: a18 :: a19 :: z :: r) H R := h i rfl
theorem nB20 {a0 a1 a2 a3 a4 a5 a6 a7 a8 a9 a10 a11 a12 a13 a14 a15 a16 a17 a18 a19 z : Option V} {r : St} {i : Bool} {H : Hp} {R : St → Hp → Prop} (h : ∀ j : Bool, j = i → R (a0 :: a1 :: a2 :: a3 :: a4 :: a5 :: a6 :: a7 :: a8 :: a9 :: a10 :: a11 :: a12 :: a13 :: a14 :: a15 :: a16 :: a17 :: a18 :: a19 :: some (V.bl j) :: r) H) : gName 20 (V.bl i) (a0 :: a1 :: a2 :: a3 :: a4 :: a5 :: a6 :: a7 :: a8 :: a9 :: a10 :: a11 :: a12 :: a13 :: a14 :: a15 :: a16 :: a17 :: a18 :: a19 :: z :: r) H R := h i rfl
theorem nS20 {a0 a1 a2 a3 a4 a5 a6 a7 a8 a9 a10 a11 a12 a13 a14 a15 a16 a17 a18 a19 z : Option V} {r : St} {i : Str} {H : Hp} {R : St → Hp → Prop} (h : ∀ j : Str, j = i → R (a0 :: a1 :: a2 :: a3 :: a4 :: a5 :: a6 :: a7 :: a8 :: a9 :: a10 :: a11 :: a12 :: a13 :: a14 :: a15 :: a16 :: a17 :: a18 :: a19 :: some (V.str j) :: r) H) : gName 20 (V.str i) (a0 :: a1 :: a2 :: a3 :: a4 :: a5 :: a6 :: a7 :: a8 :: a9 :: a10 :: a11 :: a12 :: a13 :: a14 :: a15 :: a16 :: a17 :: a18 :: a19 :: z :: r) H R := h i rfl
theorem nI21 {a0 a1 a2 a3 a4 a5 a6 a7 a8 a9 a10 a11 a12 a13 a14 a15 a16 a17 a18 a19 a20 z : Option V} {r : St} {i : Int} {H : Hp} {R : St → Hp → Prop} (h : ∀ j : Int, j = i → R (a0 :: a1 :: a2 :: a3 :: a4 :: a5 :: a6 :: a7 :: a8 :: a9 :: a10 :: a11 :: a12 :: a13 :: a14 :: a15 :: a16 :: a17 :: a18 :: a19 :: a20 :: some (V.int j) :: r) H) : gName 21 (V.int i) (a0 :: a1 :: a2 :: a3 :: a4 :: a5 :: a6 :: a7 :: a8 :: a9 :: a10 :: a11 :: a12 :: a13 :: a14 :: a15 :: a16 :: a17 :: a18 :: a19 :: a20 :: z :: r) H R := h i rfl
theorem nB21 {a0 a1 a2 a3 a4 a5 a6 a7 a8 a9 a10 a11 a12 a13 a14 a15 a16 a17 a18 a19 a20 z : Option V} {r : St} {i : Bool} {H : Hp} {R : St → Hp → Prop} (h : ∀ j : Bool, j = i → R (a0 :: a1 :: a2 :: a3 :: a4 :: a5 :: a6 :: a7 :: a8 :: a9 :: a10 :: a11 :: a12 :: a13 :: a14 :: a15 :: a16 :: a17 :: a18 :: a19 :: a20 :: some (V.bl j) :: r) H) : gName 21 (V.bl i) (a0 :: a1 :: a2 :: a3 :: a4 :: a5 :: a6 :: a7 :: a8 :: a9 :: a10 :: a11 :: a12 :: a13 :: a14 :: a15 :: a16 :: a17 :: a18 :: a19 :: a20 :: z :: r) H R := h i rfl
theorem nS21 {a0 a1 a2 a3 a4 a5 a6 a7 a8 a9 a10 a11 a12 a13 a14 a15 a16 a17 a18 a19 a20 z : Option V} {r : St} {i : Str} {H : Hp} {R : St → Hp → Prop} (h : ∀ j : Str, j = i → R (a0 :: a1 :: a2 :: a3 :: a4 :: a5 :: a6 :: a7 :: a8 :: a9 :: a10 :: a11 :: a12 :: a13 :: a14 :: a15 :: a16 :: a17 :: a18 :: a19 :: a20 :: some (V.str j) :: r) H) : gName 21 (V.str i) (a0 :: a1 :: a2 :: a3 :: a4 :: a5 :: a6 :: a7 :: a8 :: a9 :: a10 :: a11 :: a12 :: a13 :: a14 :: a15 :: a16 :: a17 :: a18 :: a19 :: a20 :: z :: r) H R := h i rfl
theorem nI22 {a0 a1 a2 a3 a4 a5 a6 a7 a8 a9 a10 a11 a12 a13 a14 a15 a16 a17 a18 a19 a20 a21 z : Option V} {r : St} {i : Int} {H : Hp} {R : St → Hp → Prop} (h : ∀ j : Int, j = i → R (a0 :: a1 :: a2 :: a3 :: a4 :: a5 :: a6 :: a7 :: a8 :: a9 :: a10 :: a11 :: a12 :: a13 :: a14 :: a15 :: a16 :: a17 :: a18 :: a19 :: a20 :: a21 :: some (V.int j) :: r) H) : gName 22 (V.int i) (a0 :: a1 :: a2 :: a3 :: a4 :: a5 :: a6 :: a7 :: a8 :: a9 :: a10 :: a11 :: a12 :: a13 :: a14 :: a15 :: a16 :: a17 :: a18 :: a19 :: a20 :: a21 :: z :: r) H R := h i rfl
theorem nB22 {a0 a1 a2 a3 a4 a5 a6 a7 a8 a9 a10 a11 a12 a13 a14 a15 a16 a17 a18 a19 a20 a21 z : Option V} {r : St} {i : Bool} {H : Hp} {R : St → Hp → Prop} (h : ∀ j : Bool, j = i → R (a0 :: a1 :: a2 :: a3 :: a4 :: a5 :: a6 :: a7 :: a8 :: a9 :: a10 :: a11 :: a12 :: a13 :: a14 :: a15 :: a16 :: a17 :: a18 :: a19 :: a20 :: a21 :: some (V.bl j) :: r) H) : gName 22 (V.bl i) (a0 :: a1 :: a2 :: a3 :: a4 :: a5 :: a6 :: a7 :: a8 :: a9 :: a10 :: a11 :: a12 :: a13 :: a14 :: a15 :: a16 :: a17 :: a18 :: a19 :: a20 :: a21 :: z :: r) H R := h i rfl
theorem nS22 {a0 a1 a2 a3 a4 a5 a6 a7 a8 a9 a10 a11 a12 a13 a14 a15 a16 a17 a18 a19 a20 a21 z : Option V} {r : St} {i : Str} {H : Hp} {R : St → Hp → Prop} (h : ∀ j : Str, j = i → R (a0 :: a1 :: a2 :: a3 :: a4 :: a5 :: a6 :: a7 :: a8 :: a9 :: a10 :: a11 :: a12 :: a13 :: a14 :: a15 :: a16 :: a17 :: a18 :: a19 :: a20 :: a21 :: some (V.str j) :: r) H) : gName 22 (V.str i) (a0 :: a1 :: a2 :: a3 :: a4 :: a5 :: a6 :: a7 :: a8 :: a9 :: a10 :: a11 :: a12 :: a13 :: a14 :: a15 :: a16 :: a17 :: a18 :: a19 :: a20 :: a21 :: z :: r) H R := h i rfl
theorem nI23 {a0 a1 a2 a3 a4 a5 a6 a7 a8 a9 a10 a11 a12 a13 a14 a15 a16 a17 a18 a19 a20 a21 a22 z : Option V} {r : St} {i : Int} {H : Hp} {R : St → Hp → Prop} (h : ∀ j : Int, j = i → R (a0 :: a1 :: a2 :: a3 :: a4 :: a5 :: a6 :: a7 :: a8 :: a9 :: a10 :: a11 :: a12 :: a13 :: a14 :: a15 :: a16 :: a17 :: a18 :: a19 :: a20 :: a21 :: a22 :: some (V.int j) :: r) H) : gName 23 (V.int i) (a0 :: a1 :: a2 :: a3 :: a4 :: a5 :: a6 :: a7 :: a8 :: a9 :: a10 :: a11 :: a12 :: a13 :: a14 :: a15 :: a16 :: a17 :: a18 :: a19 :: a20 :: a21 :: a22 :: z :: r) H R := h i rfl
theorem nB23 {a0 a1 a2 a3 a4 a5 a6 a7 a8 a9 a10 a11 a12 a13 a14 a15 a16 a17 a18 a19 a20 a21 a22 z : Option V} {r : St} {i : Bool} {H : Hp} {R : St → Hp → Prop} (h : ∀ j : Bool, j = i → R (a0 :: a1 :: a2 :: a3 :: a4 :: a5 :: a6 :: a7 :: a8 :: a9 :: a10 :: a11 :: a12 :: a13 :: a14 :: a15 :: a16 :: a17 :: a18 :: a19 :: a20 :: a21 :: a22 :: some (V.bl j) :: r) H) : gName 23 (V.bl i) (a0 :: a1 :: a2 :: a3 :: a4 :: a5 :: a6 :: a7 :: a8 :: a9 :: a10 :: a11 :: a12 :: a13 :: a14 :: a15 :: a16 :: a17 :: a18 :: a19 :: a20 :: a21 :: a22 :: z :: r) H R := h i rfl
theorem nS23 {a0 a1 a2 a3 a4 a5 a6 a7 a8 a9 a10 a11 a12 a13 a14 a15 a16 a17 a18 a19 a20 a21 a22 z : Option V} {r : St} {i : Str} {H : Hp} {R : St → Hp → Prop} (h : ∀ j : Str, j = i → R (a0 :: a1 :: a2 :: a3 :: a4 :: a5 :: a6 :: a7 :: a8 :: a9 :: a10 :: a11 :: a12 :: a13 :: a14 :: a15 :: a16 :: a17 :: a18 :: a19 :: a20 :: a21 :: a22 :: some (V.str j) :: r) H) : gName 23 (V.str i) (a0 :: a1 :: a2 :: a3 :: a4 :: a5 :: a6 :: a7 :: a8 :: a9 :: a10 :: a11 :: a12 :: a13 :: a14 :: a15 :: a16 :: a17 :: a18 :: a19 :: a20 :: a21 :: a22 :: z :: r) H R := h i rfl
theorem nI24 {a0 a1 a2 a3 a4 a5 a6 a7 a8 a9 a10 a11 a12 a13 a14 a15 a16 a17 a18 a19 a20 a21 a22 a23 z : Option V} {r : St} {i : Int} {H : Hp} {R : St → Hp → Prop} (h : ∀ j : Int, j = i → R (a0 :: a1 :: a2 :: a3 :: a4 :: a5 :: a6 :: a7 :: a8 :: a9 :: a10 :: a11 :: a12 :: a13 :: a14 :: a15 :: a16 :: a17 :: a18 :: a19 :: a20 :: a21 :: a22 :: a23 :: some (V.int j) :: r) H) : gName 24 (V.int i) (a0 :: a1 :: a2 :: a3 :: a4 :: a5 :: a6 :: a7 :: a8 :: a9 :: a10 :: a11 :: a12 :: a13 :: a14 :: a15 :: a16 :: a17 :: a18 :: a19 :: a20 :: a21 :: a22 :: a23 :: z :: r) H R := h i rfl
theorem nB24 {a0 a1 a2 a3 a4 a5 a6 a7 a8 a9 a10 a11 a12 a13 a14 a15 a16 a17 a18 a19 a20 a21 a22 a23 z : Option V} {r : St} {i : Bool} {H : Hp} {R : St → Hp → Prop} (h : ∀ j : Bool, j = i → R (a0 :: a1 :: a2 :: a3 :: a4 :: a5 :: a6 :: a7 :: a8 :: a9 :: a10 :: a11 :: a12 :: a13 :: a14 :: a15 :: a16 :: a17 :: a18 :: a19 :: a20 :: a21 :: a22 :: a23 :: some (V.bl j) :: r) H) : gName 24 (V.bl i) (a0 :: a1 :: a2 :: a3 :: a4 :: a5 :: a6 :: a7 :: a8 :: a9 :: a10 :: a11 :: a12 :: a13 :: a14 :: a15 :: a16 :: a17 :: a18 :: a19 :: a20 :: a21 :: a22 :: a23 :: z :: r) H R := h i rfl
theorem nS24 {a0 a1 a2 a3 a4 a5 a6 a7 a8 a9 a10 a11 a12 a13 a14 a15 a16 a17 a18 a19 a20 a21 a22 a23 z : Option V} {r : St} {i : Str} {H : Hp} {R : St → Hp → Prop} (h : ∀ j : Str, j = i → R (a0 :: a1 :: a2 :: a3 :: a4 :: a5 :: a6 :: a7 :: a8 :: a9 :: a10 :: a11 :: a12 :: a13 :: a14 :: a15 :: a16 :: a17 :: a18 :: a19 :: a20 :: a21 :: a22 :: a23 :: some (V.str j) :: r) H) : gName 24 (V.str i) (a0 :: a1 :: a2 :: a3 :: a4 :: a5 :: a6 :: a7 :: a8 :: a9 :: a10 :: a11 :: a12 :: a13 :: a14 :: a15 :: a16 :: a17 :: a18 :: a19 :: a20 :: a21 :: a22 :: a23 :: z :: r) H R := h i rfl
theorem nI25 {a0 a1 a2 a3 a4 a5 a6 a7 a8 a9 a10 a11 a12 a13 a14 a15 a16 a17 a18 a19 a20 a21 a22 a23 a24 z : Option V} {r : St} {i : Int} {H : Hp} {R : St → Hp → Prop} (h : ∀ j : Int, j = i → R (a0 :: a1 :: a2 :: a3 :: a4 :: a5 :: a6 :: a7 :: a8 :: a9 :: a10 :: a11 :: a12 :: a13 :: a14 :: a15 :: a16 :: a17 :: a18 :: a19 :: a20 :: a21 :: a22 :: a23 :: a24 :: some (V.int j) :: r) H) : gName 25 (V.int i) (a0 :: a1 :: a2 :: a3 :: a4 :: a5 :: a6 :: a7 :: a8 :: a9 :: a10 :: a11 :: a12 :: a13 :: a14 :: a15 :: a16 :: a17 :: a18 :: a19 :: a20 :: a21 :: a22 :: a23 :: a24 :: z :: r) H R := h i rfl
theorem nB25 {a0 a1 a2 a3 a4 a5 a6 a7 a8 a9 a10 a11 a12 a13 a14 a15 a16 a17 a18 a19 a20 a21 a22 a23 a24 z : Option V} {r : St} {i : Bool} {H : Hp} {R : St → Hp → Prop} (h : ∀ j : Bool, j = i → R (a0 :: a1 :: a2 :: a3 :: a4 :: a5 :: a6 :: a7 :: a8 :: a9 :: a10 :: a11 :: a12 :: a13 :: a14 :: a15 :: a16 :: a17 :: a18 :: a19 :: a20 :: a21 :: a22 :: a23 :: a24 :: some (V.bl j) :: r) H) : gName 25 (V.bl i) (a0 :: a1 :: a2 :: a3 :: a4 :: a5 :: a6 :: a7 :: a8 :: a9 :: a10 :: a11 :: a12 :: a13 :: a14 :: a15 :: a16 :: a17 :: a18 :: a19 :: a20 :: a21 :: a22 :: a23 :: a24 :: z :: r) H R := h i rfl
theorem nS25 {a0 a1 a2 a3 a4 a5 a6 a7 a8 a9 a10 a11 a12 a13 a14 a15 a16 a17 a18 a19 a20 a21 a22 a23 a24 z : Option V} {r : St} {i : Str} {H : Hp} {R : St → Hp → Prop} (h : ∀ j : Str, j = i → R (a0 :: a1 :: a2 :: a3 :: a4 :: a5 :: a6 :: a7 :: a8 :: a9 :: a10 :: a11 :: a12 :: a13 :: a14 :: a15 :: a16 :: a17 :: a18 :: a19 :: a20 :: a21 :: a22 :: a23 :: a24 :: some (V.str j) :: r) H) : gName 25 (V.str i) (a0 :: a1 :: a2 :: a3 :: a4 :: a5 :: a6 :: a7 :: a8 :: a9 :: a10 :: a11 :: a12 :: a13 :: a14 :: a15 :: a16 :: a17 :: a18 :: a19 :: a20 :: a21 :: a22 :: a23 :: a24 :: z :: r) H R := h i rfl

theorem at_str {l : List Str} {i : Nat} {y : V} (h : (l.map V.str)[i]? = some y) : ∃ m, m ∈ l ∧ y = V.str m := by
  rw [List.getElem?_map] at h
  cases e : l[i]? with
  | none => rw [e] at h; cases h
  | some m => rw [e] at h; exact ⟨m, List.mem_of_getElem? e, (Option.some.inj h).symm⟩
theorem at_int {l : List Int} {i : Nat} {y : V} (h : (l.map V.int)[i]? = some y) : ∃ m, m ∈ l ∧ y = V.int m := by
  rw [List.getElem?_map] at h
  cases e : l[i]? with
  | none => rw [e] at h; cases h
  | some m => rw [e] at h; exact ⟨m, List.mem_of_getElem? e, (Option.some.inj h).symm⟩
section
variable {X : Cx}
theorem opr_imp {f : Value → Value → Sem Value} {r r' : R2} (h : OpR X f r) (w : ∀ x y H Q, r' x y H Q → r x y H Q) : OpR X f r' := fun pins s σ H x y u v Q I rx ry q => h pins s σ H x y u v Q I rx ry (w _ _ _ _ q)
theorem dec_int (i j : Int) : decide (V.int i = V.int j) = decide (i = j) := by
  by_cases e : i = j
  · rw [e]; simp
  · rw [decide_eq_false e, decide_eq_false (fun q => e (V.int.inj q))]
theorem dec_str (i j : Str) : decide (V.str i = V.str j) = decide (i = j) := by
  by_cases e : i = j
  · rw [e]; simp
  · rw [decide_eq_false e, decide_eq_false (fun q => e (V.str.inj q))]
theorem dec_bl (i j : Bool) : decide (V.bl i = V.bl j) = decide (i = j) := by
  by_cases e : i = j
  · rw [e]; simp
  · rw [decide_eq_false e, decide_eq_false (fun q => e (V.bl.inj q))]
theorem op_eqI : OpR X (compareOp .Eq) (rI0 fun i j => .bl (decide (i = j))) := opr_imp op_eq fun x y H Q ⟨i, j, e1, e2, q⟩ => by
  subst e1; subst e2; exact ⟨rfl, by rw [dec_int]; exact q⟩
theorem op_neI : OpR X (compareOp .NotEq) (rI0 fun i j => .bl (!decide (i = j))) := opr_imp op_ne fun x y H Q ⟨i, j, e1, e2, q⟩ => by
  subst e1; subst e2; exact ⟨rfl, by rw [dec_int]; exact q⟩
def rS0 (f : Str → Str → V) : R2 := fun x y H Q => ∃ i j, x = .str i ∧ y = .str j ∧ Q (f i j) H
def rB0 (f : Bool → Bool → V) : R2 := fun x y H Q => ∃ i j, x = .bl i ∧ y = .bl j ∧ Q (f i j) H
theorem op_eqS : OpR X (compareOp .Eq) (rS0 fun i j => .bl (decide (i = j))) := opr_imp op_eq fun x y H Q ⟨i, j, e1, e2, q⟩ => by
  subst e1; subst e2; exact ⟨rfl, by rw [dec_str]; exact q⟩
theorem op_neS : OpR X (compareOp .NotEq) (rS0 fun i j => .bl (!decide (i = j))) := opr_imp op_ne fun x y H Q ⟨i, j, e1, e2, q⟩ => by
  subst e1; subst e2; exact ⟨rfl, by rw [dec_str]; exact q⟩
theorem op_eqB : OpR X (compareOp .Eq) (rB0 fun i j => .bl (decide (i = j))) := opr_imp op_eq fun x y H Q ⟨i, j, e1, e2, q⟩ => by
  subst e1; subst e2; exact ⟨rfl, by rw [dec_bl]; exact q⟩
theorem op_neB : OpR X (compareOp .NotEq) (rB0 fun i j => .bl (!decide (i = j))) := opr_imp op_ne fun x y H Q ⟨i, j, e1, e2, q⟩ => by
  subst e1; subst e2; exact ⟨rfl, by rw [dec_bl]; exact q⟩
theorem i_S0 {f : Str → Str → V} {i j : Str} {H : Hp} {Q : VK} (h : Q (f i j) H) : rS0 f (.str i) (.str j) H Q := ⟨i, j, rfl, rfl, h⟩
theorem i_B0 {f : Bool → Bool → V} {i j : Bool} {H : Hp} {Q : VK} (h : Q (f i j) H) : rB0 f (.bl i) (.bl j) H Q := ⟨i, j, rfl, rfl, h⟩
def rInt1 : List V → Hp → VK → Prop := fun xs H Q => ∃ i, xs = [.int i] ∧ Q (.int i) H
theorem call_intI : CallR X (.type "int") rInt1 := fun pins s σ H xs us Q I r ⟨i, e, q⟩ => call_int1 pins s σ H xs us Q I r (.inl ⟨i, e, q⟩)
theorem i_int {i : Int} {H : Hp} {Q : VK} (h : Q (.int i) H) : rInt1 [.int i] H Q := ⟨i, rfl, h⟩
def rIntB : List V → Hp → VK → Prop := fun xs H Q => ∃ k : Bool, xs = [.bl k] ∧ Q (.int (if k then 1 else 0)) H
theorem call_intB : CallR X (.type "int") rIntB := fun pins s σ H xs us Q I r ⟨i, e, q⟩ => call_int1 pins s σ H xs us Q I r (.inr ⟨i, e, q⟩)
theorem i_intB {k : Bool} {H : Hp} {Q : VK} (h : Q (.int (if k then 1 else 0)) H) : rIntB [.bl k] H Q := ⟨k, rfl, h⟩
def rAbs : List V → Hp → VK → Prop := fun xs H Q => ∃ i, xs = [.int i] ∧ Q (.int (if i < 0 then -i else i)) H
theorem call_absI : CallR X (.builtin "abs") rAbs := call_abs
theorem i_abs {i : Int} {H : Hp} {Q : VK} (h : Q (.int (if i < 0 then -i else i)) H) : rAbs [.int i] H Q := ⟨i, rfl, h⟩
def rLenS (K : PySem.W.Frag) : List V → Hp → VK → Prop := fun xs H Q => ∃ p ys, xs = [.ref p] ∧ (SqL K H p ys ∨ SqT K H p ys) ∧ Q (.int ys.length) H
theorem call_lenS : CallR X (.builtin "len") (rLenS X.K) := call_len_seq
theorem i_lenL {K : PySem.W.Frag} {p : Addr} {ys : List V} {H : Hp} {Q : VK} (hx : SqL K H p ys) (h : Q (.int ys.length) H) : rLenS K [.ref p] H Q := ⟨p, ys, rfl, .inl hx, h⟩
theorem i_lenT {K : PySem.W.Frag} {p : Addr} {ys : List V} {H : Hp} {Q : VK} (hx : SqT K H p ys) (h : Q (.int ys.length) H) : rLenS K [.ref p] H Q := ⟨p, ys, rfl, .inr hx, h⟩
def rDm : List V → Hp → VK → Prop := fun xs H Q => ∃ i j, xs = [.int i, .int j] ∧ CDivP i j ∧ ∀ p, H p = none → Q (.ref p) (upd H p (.tup [.int (i / j), .int (i % j)]))
theorem call_dm : CallR X (.builtin "divmod") rDm := call_divmodW
theorem i_dm {i j : Int} {H : Hp} {Q : VK} (c : CDivP i j) (h : ∀ p H2, H p = none → Same H H2 → H2 p = some (.tup [.int (i / j), .int (i % j)]) → Q (.ref p) H2) : rDm [.int i, .int j] H Q :=
  ⟨i, j, rfl, c, fun p hp => h p _ hp (same_new hp) upd_same⟩
theorem i_setL {l : Addr} {xs : List V} {i : Int} {j : Nat} {v : V} {H : Hp} {R : Hp → Prop} (hl : H l = some (.lst xs)) (hj : ixN xs.length i = some j) (h : ∀ H2, H2 l = some (.lst (xs.set j v)) → (∀ b, b ≠ l → H2 b = H b) → R H2) : rSetL (.ref l) (.int i) v H R := by
  unfold rSetL
  exact ⟨l, xs, i, j, rfl, rfl, hl, hj, h _ upd_same fun b hb => upd_ne hb⟩
theorem i_iteNB {a : Bool} {A B : Prop} (h1 : a = false → A) (h2 : a = true → B) : if (!a) = true then A else B := by
  cases a
  · rw [if_pos (by decide)]; exact h1 rfl
  · rw [if_neg (by decide)]; exact h2 rfl
theorem chr_inj : ∀ {l k : List Char}, l.map Char.toNat = k.map Char.toNat → l = k
  | [], [], _ => rfl
  | [], _ :: _, h => by simp at h
  | _ :: _, [], h => by simp at h
  | a :: l, b :: k, h => by
    rw [List.map_cons, List.map_cons] at h
    injection h with h1 h2
    have e : a = b := Char.ext (UInt32.toNat.inj h1)
    rw [e, chr_inj h2]
@[simp] theorem str_inj {a b : String} : (Str.ofString a = Str.ofString b) = (a = b) := by
  refine propext ⟨fun h => ?_, fun h => by rw [h]⟩
  rw [Str.ofString_eq_toList, Str.ofString_eq_toList] at h
  injection h with h
  have q := congrArg Array.toList h
  exact String.toList_inj.mp (chr_inj (by simpa using q))
theorem Sz.of {n : Nat} {i : Int} (h0 : 0 ≤ i) (h1 : i < 2 ^ n) : Sz n i := by
  unfold Sz
  have : ((2 ^ n : Nat) : Int) = 2 ^ n := by simp
  omega
theorem Sz.sm {n : Nat} {i : Int} (h0 : -1024 < i) (h1 : i < 1024) (hn : 10 ≤ n) : Sz n i := Sz.mono (n := 10) (by unfold Sz; omega) hn
theorem Sz.zero {n : Nat} : Sz n 0 := by unfold Sz; exact Nat.lt_of_lt_of_le (by decide) (Nat.one_le_two_pow)
def isNon : V → Bool
  | .non => true
  | _ => false
theorem dec_non (x : V) : decide (x = .non) = isNon x := by cases x <;> rfl
def rIsN_ (neg : Bool) : R2 := fun x y H Q => y = .non ∧ Q (.bl (if neg then !isNon x else isNon x)) H
theorem op_isN_ {X : Cx} : OpR X (compareOp .Is) (rIsN_ false) := opr_imp op_isN fun x y H Q h => ⟨h.1, by rw [dec_non]; exact h.2⟩
theorem op_notN_ {X : Cx} : OpR X (compareOp .IsNot) (rIsN_ true) := opr_imp op_notN fun x y H Q h => ⟨h.1, by rw [dec_non]; exact h.2⟩
theorem i_isN {neg b : Bool} {x : V} {H : Hp} {Q : VK} (e : (if neg then !isNon x else isNon x) = b) (h : Q (.bl b) H) : rIsN_ neg x .non H Q := ⟨rfl, by rw [e]; exact h⟩
section
variable {H : Hp} {Q : VK} {P : Prop} [Decidable P] {b : Bool}
theorem i_decT (p : P) (h : Q (.bl true) H) : Q (.bl (decide P)) H := by rw [decide_eq_true p]; exact h
theorem i_decF (p : ¬ P) (h : Q (.bl false) H) : Q (.bl (decide P)) H := by rw [decide_eq_false p]; exact h
theorem i_ndecT (p : ¬ P) (h : Q (.bl true) H) : Q (.bl (!decide P)) H := by rw [decide_eq_false p]; exact h
theorem i_ndecF (p : P) (h : Q (.bl false) H) : Q (.bl (!decide P)) H := by rw [decide_eq_true p]; exact h
theorem i_varT (p : b = true) (h : Q (.bl true) H) : Q (.bl b) H := by rw [p]; exact h
theorem i_varF (p : b = false) (h : Q (.bl false) H) : Q (.bl b) H := by rw [p]; exact h
theorem i_ntF (h : Q (.bl false) H) : Q (.bl (!true)) H := h
theorem i_nfT (h : Q (.bl true) H) : Q (.bl (!false)) H := h
end
theorem pnc {X : Cx} {N0 : List Str} {x : Str} {pos : Pos} (hv : visB N0 X.env.scope = true) (i : Nat) (hN : X.N[i]? = some x := by rfl) (h0 : N0[i]? = some x := by rfl) : PE X (.Name x pos) (tVar i) :=
  let q := vis_of hv h0
  pe_var hN q.1 q.2.1 q.2.2
theorem take_succ {α : Type} : ∀ {l : List α} {i : Nat} {x : α}, l[i]? = some x → l.take (i + 1) = l.take i ++ [x] := fun {l i x} h => by
  rw [List.take_add_one, h]; rfl
theorem same_up {H H' : Hp} {p : Addr} {o : HO} (hp : H p = none) (e : ∀ b u, H b = some u → H' b = some u) : ∀ b u, H b = some u → upd H' p o b = some u := fun b u h => by
  rw [upd_ne (ne_of_none h hp)]; exact e b u h
theorem i_lc {wi : TI} {g : TG} {tt : TT} {te : TE} {vs : List Nat} {σ : St} {H : Hp} {Q : VK} (h : wi σ H fun J H1 => ∀ D, H1 D = none → ∃ W : Nat → Nat → Hp → Prop, (∃ m, W 0 m (upd H1 D (.lst []))) ∧ ∀ i m H, W i m H →
      (J.stop i H ∧ Q (.ref D) H) ∨ (J.go i H ∧ ∃ Nx : Hp → Prop, (∀ H', Nx H' → ∃ m', m' < m ∧ W (i + 1) m' H') ∧ ∀ x H', J.yld i H x H' → g x (wipe σ vs) H' fun σ2 H2 => wipe σ2 vs = wipe σ vs ∧ tt σ2 H2 fun b H3 =>
        if b = true then te σ2 H3 fun y H4 => ∃ acc, H4 D = some (.lst acc) ∧ acc.length < sizeLine ∧ Nx (upd H4 D (.lst (acc ++ [y]))) else Nx H3)) : tLc wi g tt te vs σ H Q := h
theorem i_lcL {K : PySem.W.Frag} {p : Addr} {xs : List V} {H : Hp} {F : Addr → Prop} (hx : SqL K H p xs) (h : F p) : ∃ a, V.ref p = .ref a ∧ (∃ xs, SqL K H a xs) ∧ F a := ⟨p, rfl, ⟨xs, hx⟩, h⟩
theorem i_lcw {σ2 σ3 : St} {H : Hp} {te : TE} {A : Hp → Prop} {F : VK} (h : te σ2 H F) : σ3 = σ3 ∧ tYes σ2 H fun b H3 => if b = true then te σ2 H3 F else A H3 := ⟨rfl, by show (if true = true then te σ2 H F else A H); rw [if_pos rfl]; exact h⟩
theorem i_bm {K : PySem.W.Frag} {T : String} {r : V → List V → Hp → VK → Prop} {to : TE} {t : TA} {σ : St} {H : Hp} {Q : VK} (h : to σ H fun x H1 => tyV K T x H1 ∧ t σ H1 fun xs H2 => r x xs H2 Q) : tBM K T r to t σ H Q := h
theorem i_bm0 {K : PySem.W.Frag} {T : String} {r : V → List V → Hp → VK → Prop} {to : TE} {σ : St} {H : Hp} {Q : VK} (h : to σ H fun x H1 => tyV K T x H1 ∧ r x [] H1 Q) : tBM0 K T r to σ H Q := h
theorem i_tyL {K : PySem.W.Frag} {p : Addr} {xs : List V} {H : Hp} {A : Prop} (hx : SqL K H p xs) (h : A) : tyV K "list" (.ref p) H ∧ A := ⟨.inl ⟨rfl, _, hx⟩, h⟩
theorem i_tyS {K : PySem.W.Frag} {z : Str} {H : Hp} {A : Prop} (h : A) : tyV K "str" (.str z) H ∧ A := ⟨rfl, h⟩
theorem i_index {K : PySem.W.Frag} {p : Addr} {ys : List V} {y z : V} {j : Nat} {H : Hp} {Q : VK} (hx : SqL K H p ys) (fy : flatV y = true) (fa : ys.all flatV = true) (e : ys[j]? = some z) (q : eqV z y = true)
    (n : ∀ (m : Nat) (z' : V), m < j → ys[m]? = some z' → eqV z' y = false) (h : Q (.int (j : Nat)) H) : rIndex K (.ref p) [y] H Q := ⟨p, ys, y, j, z, rfl, rfl, hx, fy, fa, e, q, n, h⟩
/-- d.get(k, x) of a table of the top with text keys -/
def tKGet (K : PySem.W.Frag) (w : World) (td ty tx : TE) : TE := fun σ H Q => td σ H fun x H1 => ∃ p es n, x = .ref p ∧ KDict K w p es n ∧ ty σ H1 fun y H2 => tx σ H2 fun z H3 => ∃ (k : Str) (r : Option Value) (v : V), y = .str k ∧ PySem.W.nsIn K p k = some r ∧ (match r with | none => v = z | some u => RelV v u) ∧ Q v H3
theorem i_kget {K : PySem.W.Frag} {w : World} {td ty tx : TE} {σ : St} {H : Hp} {Q : VK} (h : td σ H fun x H1 => ∃ p es n, x = .ref p ∧ KDict K w p es n ∧ ty σ H1 fun y H2 => tx σ H2 fun z H3 => ∃ (k : Str) (r : Option Value) (v : V), y = .str k ∧ PySem.W.nsIn K p k = some r ∧ (match r with | none => v = z | some u => RelV v u) ∧ Q v H3) : tKGet K w td ty tx σ H Q := h
theorem i_kd {K : PySem.W.Frag} {w : World} {p : Addr} {F : Addr → Prop} (d : ∃ es n, KDict K w p es n) (h : F p) : ∃ p' es n, V.ref p = .ref p' ∧ KDict K w p' es n ∧ F p' := by
  obtain ⟨es, n, d⟩ := d
  exact ⟨p, es, n, rfl, d, h⟩
theorem i_kv {K : PySem.W.Frag} {p : Addr} {k : Str} {v z : V} {H : Hp} {Q : VK} (d : ∃ r, PySem.W.nsIn K p k = some r ∧ (match r with | none => v = z | some u => RelV v u)) (h : Q v H) :
    ∃ (k' : Str) (r : Option Value) (v' : V), V.str k = .str k' ∧ PySem.W.nsIn K p k' = some r ∧ (match r with | none => v' = z | some u => RelV v' u) ∧ Q v' H := by
  obtain ⟨r, e, m⟩ := d
  exact ⟨k, r, v, rfl, e, m, h⟩
theorem pe_kget {X : Cx} {o e f : Expr} {apos cpos : Pos} {td ty tx : TE} (ho : PE X o td) (he : PE X e ty) (hf : PE X f tx) (m : M2 X o "get" apos e f cpos) : PE X (.Call (.Attribute o "get" apos) [e, f] [] cpos) (tKGet X.K X.w td ty tx) := by
  refine ⟨fun pins s σ H Q I h => ?_⟩
  refine wpAny_Call_method m.base m.few m.line PySem.F.plainAttrs_dict PySem.F.slot_dict_get PySem.F.type_dict_get (thn (ho.run pins s σ H _ I h) fun u s1 hh => ?_)
  obtain ⟨x, H1, I1, rx, p, es, n, ex, d, q1⟩ := hh
  subst ex
  obtain rfl : u = Value.ref p := rx
  refine ⟨kd_type d I1, fun a ea => ⟨_, (by cases ea; exact I1.kIn _ _ d.at_), rfl⟩, ?_⟩
  rw [m.trees]
  refine Calls.callWith_builtin rfl (Calls.evalArgs_plain (Calls.spliced_cons (thn (he.run pins s1 σ H1 _ I1 q1) fun iv s2 hh2 => ?_)))
  obtain ⟨y, H2, I2, ry, q2⟩ := hh2
  refine Calls.spliced_cons (thn (hf.run pins s2 σ H2 _ I2 q2) fun fv s3 hh3 => Calls.spliced_nil ?_)
  obtain ⟨z, H3, I3, rz, k, r, v, ek, en, em, q3⟩ := hh3
  subst ek
  obtain ⟨t, rfl⟩ := ry
  refine call_meetsIn PySem.F.slot_dict_get (kd_type d I3) PySem.F.entry_dict_get (PySem.F.args_dict_get_3 _ _ _) (meets_dict_get_default (strKind X.prog X.w) p (strKind_is X.prog X.w k t) d.low fv) ⟨_, PySem.W.mapOf_K (prog := X.prog) I3.kIn d.at_ d.lit, ?_⟩
  rw [PySem.W.find_K d.at_ en]
  cases r with
  | none => 
    have e1 : v = z := em
    subst e1
    exact ⟨_, H3, I3.tok _, rz, q3⟩
  | some u => exact ⟨_, H3, I3.tok _, em, q3⟩
theorem i_cat {a b : Addr} {xs ys : List V} {H : Hp} {Q : VK} (ha : H a = some (.lst xs)) (hb : H b = some (.lst ys)) (l1 : xs.length ≤ 1000000) (l2 : ys.length ≤ 1000000)
    (h : ∀ p H2, H p = none → Same H H2 → H2 p = some (.lst (xs ++ ys)) → Q (.ref p) H2) : rCat (.ref a) (.ref b) H Q :=
  ⟨a, b, xs, ys, rfl, rfl, ha, hb, Nat.le_trans (Nat.add_le_add l1 l2) (by decide), fun p hp => h p _ hp (same_new hp) upd_same⟩
theorem i_in {K : PySem.W.Frag} {x : V} {p : Addr} {xs : List V} {b : Bool} {H : Hp} {Q : VK} (hx : SqL K H p xs ∨ SqT K H p xs) (fx : flatV x = true) (fs : xs.all flatV = true) (e : inV x xs = b) (h : Q (.bl b) H) : rIn K false x (.ref p) H Q :=
  ⟨p, xs, rfl, hx, fx, fs, by rw [if_neg (by decide), e]; exact h⟩
theorem i_inN {K : PySem.W.Frag} {x : V} {p : Addr} {xs : List V} {b : Bool} {H : Hp} {Q : VK} (hx : SqL K H p xs ∨ SqT K H p xs) (fx : flatV x = true) (fs : xs.all flatV = true) (e : inV x xs = b) (h : Q (.bl (!b)) H) : rIn K true x (.ref p) H Q :=
  ⟨p, xs, rfl, hx, fx, fs, by rw [if_pos rfl, e]; exact h⟩
theorem i_gsub {to ti : TE} {t : TSet} {v : V} {σ : St} {H : Hp} {R : St → Hp → Prop} (h : to σ H fun o H1 => ti σ H1 fun i H2 => t o i v H2 fun H3 => R σ H3) : gSub to ti t v σ H R := h
theorem ext_set {H H2 : Hp} {a : Addr} {xs : List V} (ha : H a = some (.lst xs)) (hs : srcL xs) (w : ∀ b, b ≠ a → H2 b = H b) : Ext H H2 := fun b o s e => by
  by_cases h : b = a
  · subst h
    rw [ha] at e
    cases e
    exact (s hs).elim
  · rw [w b h]; exact e
theorem inV_str (m : Str) (ms : List Str) : inV (.str m) (ms.map V.str) = ms.contains m := by
  unfold inV
  rw [List.any_map]
  induction ms with
  | nil => rfl
  | cons a l ih =>
    rw [List.any_cons, List.contains_cons, ih]
    have e : eqV (V.str a) (V.str m) = (m == a) := by
      show (a == m) = (m == a)
      by_cases h : a = m
      · rw [h]
      · rw [beq_eq_false_iff_ne.mpr h, beq_eq_false_iff_ne.mpr (Ne.symm h)]
    show (eqV (V.str a) (V.str m) || _) = _
    rw [e]
theorem flat_str (ms : List Str) : (ms.map V.str).all flatV = true := by
  rw [List.all_map]
  exact List.all_eq_true.mpr fun _ _ => rfl
theorem at_map {α : Type} {f : α → V} {xs : List α} {i : Int} (h0 : 0 ≤ i) (h1 : i < xs.length) : ∃ x, x ∈ xs ∧ atI (xs.map f) i = some (f x) := by
  obtain ⟨n, rfl⟩ := Int.eq_ofNat_of_zero_le h0
  have hn : n < xs.length := by omega
  refine ⟨xs[n], List.getElem_mem hn, atI_nat ?_⟩
  rw [List.getElem?_map, List.getElem?_eq_getElem hn]
  rfl
variable {k : Nat} {f : Addr} {ps : List Str} {dvs : List V} {sp : Sp} {x : Str} {p pos : Pos} {e : Expr} {es : List Expr} {t : TA} {G : List Str}
theorem cxF {P : Program} {w : World} {l : List Env} {H : Hp} {s s' : Shared} {e : Value} (h : L2N.CX P w l H s EF e s') : False := by
  obtain ⟨_, _, _, _, _, _, _, _, _, _, _, _, q⟩ := h
  exact q
theorem fn0 {P : Program} {w : World} {K : PySem.W.Frag} {mg : Str → Option Value} {base : Heap} {k : Nat} {f : Addr} {fd : FuncData} {ps : List Str} {sp : Sp} (F : FnOk P w K mg base (L2N.CX P w) k f fd ps sp) (h : ∀ vs H Q E, sp vs H Q E → sp vs H Q EF) : FnOk P w K mg base CX0 k f fd ps sp :=
  ⟨F.len, fun A outer s H args us vs Q E hr he hb hv hs => codeAny_mono (F.run A outer s H args us vs Q EF hr he hb hv (h _ _ _ _ hs)) fun r s' hq => by
    cases r with
    | error e => exact (cxF hq).elim
    | ok fl => cases fl <;> exact hq⟩
theorem ex_at {l : List (PySem.W.Frag → Bool)} {K : PySem.W.Frag} (c : (l.all fun e => e K) = true) (i : Nat) {e : PySem.W.Frag → Bool} (h : l[i]? = some e := by rfl) : e K = true := List.all_eq_true.mp c e (List.mem_of_getElem? h)
theorem rel_eq {a b : Str} {u : Value} (e : a = b) (h : RelV (.str b) u) : RelV (.str a) u := by rw [e]; exact h
theorem pcD (F : OkD X.prog X.w X.K X.mg X.base k f ps dvs sp) (hr : Room k X.A) (hg : glB G X.env.scope = true) (n : Nat) (hm : X.mg x = some (.ref f)) (ha : PA X (e :: es) t) (hx : G[n]? = some x := by rfl)
    (he : starEach (e :: es) X.env = (false, eval e X.env) :: starEach es X.env := by rfl) (hpl : (backTo pos (starEach es X.env)).any (·.1) = false := by rfl) : PE X (.Call (.Name x p) (e :: es) [] pos) (tCall sp dvs EF t) := by
  obtain ⟨fd, ds, kp, b, vd, F⟩ := F
  exact pe_call F hr (gl_of hg hx).1 hm kp b vd (fun _ _ _ _ _ _ _ q => (cxF q).elim) ha (gl_of hg hx).2.1 he hpl
theorem pcD0 (F : OkD X.prog X.w X.K X.mg X.base k f ps dvs sp) (hr : Room k X.A) (hg : glB G X.env.scope = true) (n : Nat) (hm : X.mg x = some (.ref f)) (hx : G[n]? = some x := by rfl) : PE X (.Call (.Name x p) [] [] pos) (tCall sp dvs EF tNil) := by
  obtain ⟨fd, ds, kp, b, vd, F⟩ := F
  exact pe_call0 F hr (gl_of hg hx).1 hm kp b vd (fun _ _ _ _ _ _ _ q => (cxF q).elim) (gl_of hg hx).2.1
end
end Z


/-! ### operators of an own class -/
namespace Z
open PySem PySem.W PySem.Calls PySem.Spec L2
open PyProof.Rows hiding St
/-- the class's facts for a binary operator: its own method f (name nm), the reflected one g -/
structure BinF (K : PySem.W.Frag) (C : Addr) (nm : String) (f : Addr) : Prop where
  first : PySem.W.selfFirst K C = true
  at_ : PySem.W.findIn K (.ref C) (PySem.dunder nm) = some (some (.ref f))
  fn : PySem.W.isFn K (.ref f) = true
structure BinI (K : PySem.W.Frag) (C : Addr) (nm : String) (rc fo ro : Option Value) : Prop where
  refl : PySem.W.findIn K (.ref C) (dunderR nm) = some rc
  refl2 : rc = none ∨ ∃ g : Addr, rc = some (.ref g)
  i1 : PySem.W.findIn K (.type "int") (PySem.dunder nm) = some fo
  i2 : PySem.W.findIn K (.type "int") (dunderR nm) = some ro
  sub : PySem.W.subIn K (.type "int") (.ref C) = some false
structure RefF (K : PySem.W.Frag) (C : Addr) (nm : String) (f g : Addr) : Prop where
  first : PySem.W.selfFirst K C = true
  at_ : PySem.W.findIn K (.ref C) (PySem.dunder nm) = some (some (.ref f))
  ref : PySem.W.findIn K (.ref C) (dunderR nm) = some (some (.ref g))
  fn : PySem.W.isFn K (.ref g) = true
  sub : PySem.W.subIn K (.ref C) (.type "int") = some false
section
variable {prog : Program} {w : World} {M : Model} {A : Around} {E : Value → Shared → Prop} {s : Shared} {K : PySem.W.Frag} {x C f g dx : Addr} {ox : Obj} {od : Option Obj} {i : Int} {t : Tok}
/-- int's method declines -/
theorem right_own {op : Operator} {id : String} {B : Builtin} {Q : Value → Shared → Prop} (X : K.In s.heap) (I : PySem.W.InstAt s.heap x ox C od) (r : RefF K C op.info.2 f g)
    (fi : fillsNumberSlot (.type "int") op.info.2 = pure true) (slot : Slot "int" (PySem.dunder op.info.2) id) (entry : entryFor table id = some B) (args : argsOk id ⟨[.int i t, .ref x], []⟩)
    (hB : ∀ (P : Fin → Shared → Prop) (A : Around) (E : Value → Shared → Prop), P (.done (.ret .notImplemented)) s → wpAny (model prog w) A (B ⟨[.int i t, .ref x], []⟩) P E s)
    (h : wpAny (model prog w) A (call (.ref g) [.ref x, .int i t]) (PySem.W.CmpBack Q) E s) : wpAny (model prog w) A (binaryOp op (.int i t) (.ref x)) Q E s := by
  obtain ⟨cd, rest, hcd, hm⟩ := PySem.W.ksp_first r.first
  rcases hi : op.info with ⟨sym, nm⟩
  have r1 := r.at_
  have r2 := r.ref
  rw [hi] at r1 r2 fi slot
  dsimp only at r1 r2 fi slot
  simp only [binaryOp, hi]
  refine wpAny_holding (wpAny_bind ?_)
  unfold binaryOp1
  refine wpAny_bind (wpAny_typeOf (typeIs_int s i t) (wpAny_bind (I.type.here (wpAny_bind (wpAny_of_eq fi ?_)))))
  have hne : (Value.type "int" == Value.ref C) = false := Bool.eq_false_iff.mpr fun q => by cases beq_iff_eq.mp q
  simp only [hne, Bool.false_eq_true, if_false]
  refine wpAny_bind ((PySem.W.fills_K X hcd hm r1).here ?_)
  simp only [Bool.and_self, if_true]
  refine wpAny_bind ((PySem.W.looks_subIn X r.sub).here ?_)
  have hpy : numberSlotInPython (.type "int") nm = pure false := rfl
  simp only [Bool.false_eq_true, if_false, pure_bind, Bool.not_false, Bool.and_self, if_true, hpy]
  refine wpAny_bind (wpAny_tryMethod_declines (typeIs_int s i t) slot ?_)
  refine wpAny_call_entry slot (typeIs_int s i t) entry (hB _ _ _ ?_) args
  refine ⟨_, rfl, rfl, ?_⟩
  simp only [tryMethod]
  refine wpAny_bind (wpAny_bind (PySem.W.special_fn X I r2 (beq_iff_eq.mp r.fn) (wpAny_mono h (fun v s' hv => ?_) fun _ _ e => e)))
  cases v <;> first | exact hv.elim | exact wpAny_pure (wpAny_bind (wpAny_rule (wpAny_pure (wpAny_pure hv))))
theorem int_add_own {P : Fin → Shared → Prop} (hx : s.heap.get? x = some (PySem.W.instObj C dx)) (h : P (.done (.ret .notImplemented)) s) : wpAny M A (Builtin.«int.__add__» ⟨[.int i t, .ref x], []⟩) P E s := by
  obtain ⟨hp, g, d, tk, os⟩ := s
  unfold PySem.W.instObj at hx
  wp_walk
  exact h
theorem int_sub_own {P : Fin → Shared → Prop} (hx : s.heap.get? x = some (PySem.W.instObj C dx)) (h : P (.done (.ret .notImplemented)) s) : wpAny M A (Builtin.«int.__sub__» ⟨[.int i t, .ref x], []⟩) P E s := by
  obtain ⟨hp, g, d, tk, os⟩ := s
  unfold PySem.W.instObj at hx
  wp_walk
  exact h
theorem int_mul_own {P : Fin → Shared → Prop} (hx : s.heap.get? x = some (PySem.W.instObj C dx)) (h : P (.done (.ret .notImplemented)) s) : wpAny M A (Builtin.«int.__mul__» ⟨[.int i t, .ref x], []⟩) P E s := by
  obtain ⟨hp, g, d, tk, os⟩ := s
  unfold PySem.W.instObj at hx
  wp_walk
  exact h
end
section
variable {prog : Program} {w : World} {A : Around} {E : Value → Shared → Prop} {s : Shared} {K : PySem.W.Frag} {x C f : Addr} {ox : Obj} {od : Option Obj}
theorem call_bool_own {Q : Value → Shared → Prop} (X : K.In s.heap) (I : PySem.W.InstAt s.heap x ox C od) (hs : PySem.W.findIn K (.ref C) "__bool__" = some (some (.ref f))) (hf : PySem.W.isFn K (.ref f) = true)
    (h : wpAny (model prog w) A.in1.in1 (call (.ref f) [.ref x]) (PySem.W.BoolBack fun b s' => Q (.bool b) s') E s) : wpAny (model prog w) A (call (.type "bool") [.ref x]) Q E s := by
  refine callType_codes (T := "bool") (Bi := Builtin.«object.__init__») (Q₁ := fun r s₁ => ∃ b, r = .bool b ∧ Q r s₁) PySem.F.called_bool (PySem.F.typeCall_bool_1 _) PySem.F.entry_object_init ?_ ?_
  · refine codeAny_of_tree ?_
    show wpAny _ A.in1.in1 (do checkBuiltinCall "bool.__new__" ⟨[.type "bool", .ref x], []⟩; again (.builtin "bool.__new__" ⟨[.type "bool", .ref x], []⟩)) _ _ s
    refine wpAny_bind (wpAny_of_eq (PySem.F.newCall_bool_1 _) (wpAny_pure ⟨plainId_quiet (by decide +kernel) _, codeAny_builtin PySem.F.entry_bool_new ?_⟩))
    rw [Around.under_plainId (by decide +kernel) _]
    have f1 := PySem.F.conv_sub_bool
    have key : ∀ (P : Bool → Shared → Prop), wpAny (model prog w) A.in1.in1 (call (.ref f) [.ref x]) (PySem.W.BoolBack P) E s → wpAny (model prog w) A.in1.in1 (truthy (.ref x)) P E s := fun P hP => by
      unfold truthy
      refine wpAny_bind (m := callSpecial? (.ref x) (Str.ofString "__bool__")) (PySem.W.special_fn X I hs (beq_iff_eq.mp hf) (wpAny_mono hP (fun r s' hr => ?_) fun _ _ y => y))
      cases r <;> first | exact hr.elim | exact wpAny_pure hr
    unfold Builtin.«bool.__new__»
    refine wpAny_bind (m := isType (.type "bool")) (wpAny_of_eq (a := true) (by first | rfl | kernel_rfl) ?_)
    refine wpAny_bind (wpAny_of_eq f1 ?_)
    refine wpAny_bind (m := someArgs "bool" 0 1 _) (wpAny_pure ?_)
    refine wpAny_bind (wpAny_mono (key _ h) (fun b s' hb => ?_) fun _ _ y => y)
    exact wpAny_pure ⟨_, rfl, hb⟩
  · rintro obj s₁ ⟨b, rfl, hq⟩
    exact ⟨PySem.typeIs_bool _ _, PySem.F.args_object_init_2 _ _, object_init_meets PySem.F.called_bool.init.lookup PySem.F.called_bool.made (by decide) prog w A.in1 _ s₁ ⟨PySem.typeIs_bool _ _, rfl, hq⟩⟩
theorem call_abs_own {Q : Value → Shared → Prop} (X : K.In s.heap) (I : PySem.W.InstAt s.heap x ox C od) (hs : PySem.W.findIn K (.ref C) "__abs__" = some (some (.ref f))) (hf : PySem.W.isFn K (.ref f) = true)
    (h : wpAny (model prog w) A.in1 (call (.ref f) [.ref x]) Q E s) : wpAny (model prog w) A (call (.builtin "abs") [.ref x]) Q E s := by
  refine Calls.call_function_entry PyProof.Rows.kind_abs PyProof.Rows.plain_abs PyProof.Rows.entry_abs (PyProof.Rows.args_abs _) ?_
  unfold Builtin.«abs»
  refine wpAny_bind (m := oneArg "abs" _) (wpAny_pure ?_)
  refine wpAny_bind (m := callSpecial? (.ref x) (Str.ofString "__abs__")) (PySem.W.special_fn X I hs (beq_iff_eq.mp hf) (wpAny_mono h (fun r s' hr => ?_) fun _ _ y => y))
  exact wpAny_pure ⟨_, rfl, hr⟩
end
/-! ### the same over the layer -/
section
variable {X : Cx} {C : Addr} {f g : Addr} {k : Nat} {ps : List Str} {sp : Sp} {op : Operator}
theorem ep_cmp {pins : List (Addr × Obj)} {σ : L2.St} {Q : VK} {u : Value} {s' : Shared} (h : EP X pins σ Q u s') : PySem.W.CmpBack (EP X pins σ Q) u s' := by
  have h2 := h
  obtain ⟨v, H', I, r, q⟩ := h
  cases v with
  | non => cases (show u = Value.none from r); exact h2
  | bl b => cases (show u = Value.bool b from r); exact h2
  | int i => obtain ⟨t, e⟩ := (show ∃ t, u = Value.int i t from r); cases e; exact h2
  | str x => obtain ⟨t, e⟩ := (show ∃ t, u = Value.str x t from r); cases e; exact h2
  | byt b => obtain ⟨t, e⟩ := (show ∃ t, u = Value.bytes b t from r); cases e; exact h2
  | flt b => obtain ⟨t, e⟩ := (show ∃ t, u = Value.float b t from r); cases e; exact h2
  | ref a => cases (show u = Value.ref a from r); exact h2
  | ty n => cases (show u = Value.type n from r); exact h2
/-- a def is called by values, no exception leaves it -/
theorem run_ok {pins : List (Addr × Obj)} {σ : L2.St} {H : Hp} {s : Shared} {Q : VK} {us : List Value} {vs dvs : List V} (F : OkD X.prog X.w X.K X.mg X.base k f ps dvs sp) (hr : Room k X.A)
    (I : Inv X pins σ H s) (r : Vals vs us) (h : sp (vs ++ dvs) H Q EF) : wpAny (model X.prog X.w) X.A (call (.ref f) us) (EP X pins σ Q) X.xe s := by
  obtain ⟨fd, ds, kp, b, vd, F⟩ := F
  exact run_fn F hr b vd (fun _ _ _ _ _ _ _ q => (cxF q).elim) I r h
theorem run_ok1 {pins : List (Addr × Obj)} {σ : L2.St} {H : Hp} {s : Shared} {Q : VK} {us : List Value} {vs dvs : List V} {E : Value → Shared → Prop} {A : Around} (F : OkD X.prog X.w X.K X.mg X.base k f ps dvs sp) (hr : Room k A) (hA : A.frames = X.A.frames)
    (I : Inv X pins σ H s) (r : Vals vs us) (h : sp (vs ++ dvs) H Q EF) : wpAny (model X.prog X.w) A (call (.ref f) us) (EP X pins σ Q) E s := by
  obtain ⟨fd, ds, kp, b, vd, F⟩ := F
  have r2 : Vals (vs ++ dvs) (us ++ ds) := r.append vd
  have hl : (us ++ ds).length = ps.length := by rw [← r2.length]; exact F.len _ _ _ _ h
  have e0 : Env0 X.prog X.w X.K X.mg X.base A X.stack s H := by
    have z := I.env0
    exact ⟨by rw [hA]; exact z.frames, z.mod, z.bs, z.bsz, z.funs, z.frf, z.hok, z.bare⟩
  refine wpAny_call (codeAny_mono (F.run A X.stack s H ⟨us, []⟩ (us ++ ds) (vs ++ dvs) Q EF hr e0 (b s us I.kIn hl) r2 h) fun r s' hq => ?_)
  cases r with
  | error e => exact (cxF hq).elim
  | ok fl => cases fl with
    | ret u => exact I.after hq
    | next => exact False.elim hq
    | brk => exact False.elim hq
    | cont => exact False.elim hq
/-- x op y: x an instance, y one of the same class or an int -/
def rOwn (C : Addr) (sp : Sp) : R2 := fun x y H Q => ∃ a dx fs, x = .ref a ∧ H a = some (.ins C dx fs) ∧ (∃ b dy gs, y = .ref b ∧ H b = some (.ins C dy gs)) ∧ sp [x, y] H Q EF
def rOwnI (C : Addr) (sp : Sp) : R2 := fun x y H Q => ∃ a dx fs i, x = .ref a ∧ H a = some (.ins C dx fs) ∧ y = .int i ∧ sp [x, y] H Q EF
def rIOwn (C : Addr) (sp : Sp) : R2 := fun x y H Q => ∃ a dx fs i, y = .ref a ∧ H a = some (.ins C dx fs) ∧ x = .int i ∧ sp [y, x] H Q EF
theorem inst_at {pins : List (Addr × Obj)} {σ : L2.St} {H : Hp} {s : Shared} {a dx : Addr} {fs : List (Str × V)} (I : Inv X pins σ H s) (e : H a = some (.ins C dx fs)) : s.heap.get? a = some (PySem.W.instObj C dx) ∧ ∃ od, PySem.W.InstAt s.heap a (PySem.W.instObj C dx) C od := by
  obtain ⟨mA, O, _, _, _, _⟩ := ins_get I.hok e
  obtain ⟨od, J, _⟩ := O.look
  exact ⟨O.obj, _, J⟩
theorem op_own (b : BinF X.K C op.info.2 f) (F : OkD X.prog X.w X.K X.mg X.base k f ps [] sp) (hr : Room k X.A) : OpR X (binaryOp op) (rOwn C sp) := by
  intro pins s σ H x y u v Q I rx ry h
  obtain ⟨a, dx, fs, rfl, ea, ⟨c, dy, gs, rfl, ec⟩, q⟩ := h
  cases rx
  cases ry
  obtain ⟨hx, od, J⟩ := inst_at I ea
  obtain ⟨hy, od2, J2⟩ := inst_at I ec
  obtain ⟨m, Fm⟩ := I.fr
  exact PySem.W.binop_K Fm I.mod.kin J J2.type b.first b.at_ b.fn (wpAny_mono (run_ok (vs := [.ref a, .ref c]) F hr I (.cons rfl (.cons rfl .nil)) q) (fun _ _ z => ep_cmp z) fun _ _ z => z)
theorem op_ownI {rc fo ro : Option Value} (b : BinF X.K C op.info.2 f) (bi : BinI X.K C op.info.2 rc fo ro) (F : OkD X.prog X.w X.K X.mg X.base k f ps [] sp) (hr : Room k X.A) : OpR X (binaryOp op) (rOwnI C sp) := by
  intro pins s σ H x y u v Q I rx ry h
  obtain ⟨a, dx, fs, i, rfl, ea, rfl, q⟩ := h
  cases rx
  obtain ⟨t, rfl⟩ := ry
  obtain ⟨hx, od, J⟩ := inst_at I ea
  obtain ⟨m, Fm⟩ := I.fr
  exact PySem.W.ksp_binT Fm I.mod.kin J (T := "int") rfl b.first b.at_ b.fn bi.refl bi.refl2 bi.i1 bi.i2 bi.sub (wpAny_mono (run_ok (vs := [.ref a, .int i]) F hr I (.cons rfl (.cons ⟨t, rfl⟩ .nil)) q) (fun _ _ z => ep_cmp z) fun _ _ z => z)
theorem op_IaddOwn (r : RefF X.K C "add" f g) (F : OkD X.prog X.w X.K X.mg X.base k g ps [] sp) (hr : Room k X.A) : OpR X (binaryOp .Add) (rIOwn C sp) := by
  intro pins s σ H x y u v Q I rx ry h
  obtain ⟨a, dx, fs, i, rfl, ea, rfl, q⟩ := h
  cases ry
  obtain ⟨t, rfl⟩ := rx
  obtain ⟨hx, od, J⟩ := inst_at I ea
  exact right_own (op := .Add) I.kIn J r PySem.F.fills_int_add PySem.F.slot_int_add PySem.F.entry_int_add (PySem.F.args_int_add_2 _ _) (fun _ _ _ z => int_add_own hx z) (wpAny_mono (run_ok (vs := [.ref a, .int i]) F hr I (.cons rfl (.cons ⟨t, rfl⟩ .nil)) q) (fun _ _ z => ep_cmp z) fun _ _ z => z)
theorem op_IsubOwn (r : RefF X.K C "sub" f g) (F : OkD X.prog X.w X.K X.mg X.base k g ps [] sp) (hr : Room k X.A) : OpR X (binaryOp .Sub) (rIOwn C sp) := by
  intro pins s σ H x y u v Q I rx ry h
  obtain ⟨a, dx, fs, i, rfl, ea, rfl, q⟩ := h
  cases ry
  obtain ⟨t, rfl⟩ := rx
  obtain ⟨hx, od, J⟩ := inst_at I ea
  exact right_own (op := .Sub) I.kIn J r PySem.F.fills_int_sub PySem.F.slot_int_sub PySem.F.entry_int_sub (PySem.F.args_int_sub_2 _ _) (fun _ _ _ z => int_sub_own hx z) (wpAny_mono (run_ok (vs := [.ref a, .int i]) F hr I (.cons rfl (.cons ⟨t, rfl⟩ .nil)) q) (fun _ _ z => ep_cmp z) fun _ _ z => z)
theorem op_ImulOwn (r : RefF X.K C "mul" f g) (F : OkD X.prog X.w X.K X.mg X.base k g ps [] sp) (hr : Room k X.A) : OpR X (binaryOp .Mult) (rIOwn C sp) := by
  intro pins s σ H x y u v Q I rx ry h
  obtain ⟨a, dx, fs, i, rfl, ea, rfl, q⟩ := h
  cases ry
  obtain ⟨t, rfl⟩ := rx
  obtain ⟨hx, od, J⟩ := inst_at I ea
  exact right_own (op := .Mult) I.kIn J r PySem.F.fills_int_mul PySem.F.slot_int_mul PySem.F.entry_int_mul (PySem.F.args_int_mul_2 _ _) (fun _ _ _ z => int_mul_own hx z) (wpAny_mono (run_ok (vs := [.ref a, .int i]) F hr I (.cons rfl (.cons ⟨t, rfl⟩ .nil)) q) (fun _ _ z => ep_cmp z) fun _ _ z => z)
/-- -x, abs(x), bool(x) -/
def rUn1 (C : Addr) (sp : Sp) : V → Hp → VK → Prop := fun x H Q => ∃ a dx fs, x = .ref a ∧ H a = some (.ins C dx fs) ∧ sp [x] H Q EF
def rUnC (C : Addr) (sp : Sp) : List V → Hp → VK → Prop := fun xs H Q => ∃ a dx fs, xs = [.ref a] ∧ H a = some (.ins C dx fs) ∧ sp xs H Q EF
theorem un_own (hs : PySem.W.findIn X.K (.ref C) "__neg__" = some (some (.ref f))) (hf : PySem.W.isFn X.K (.ref f) = true) (F : OkD X.prog X.w X.K X.mg X.base k f ps [] sp) (hr : Room k X.A) : UnR X (unaryOp .USub) (rUn1 C sp) := by
  intro pins s σ H x u Q I rx h
  obtain ⟨a, dx, fs, rfl, ea, q⟩ := h
  cases rx
  obtain ⟨hx, od, J⟩ := inst_at I ea
  obtain ⟨m, Fm⟩ := I.fr
  exact PySem.W.ksp_neg Fm I.mod.kin J hs hf (run_ok (vs := [.ref a]) F hr I (.cons rfl .nil) q)
theorem call_absO (hs : PySem.W.findIn X.K (.ref C) "__abs__" = some (some (.ref f))) (hf : PySem.W.isFn X.K (.ref f) = true) (F : OkD X.prog X.w X.K X.mg X.base k f ps [] sp) (hr : Room (k + 1) X.A) : CallR X (.builtin "abs") (rUnC C sp) := by
  intro pins s σ H xs us Q I r h
  obtain ⟨a, dx, fs, rfl, ea, q⟩ := h
  obtain ⟨u, rfl, rx⟩ := vals1 r
  cases rx
  obtain ⟨hx, od, J⟩ := inst_at I ea
  exact call_abs_own I.kIn J hs hf (run_ok1 (vs := [.ref a]) F hr.in1 rfl I (.cons rfl .nil) q)
theorem call_boolO (hs : PySem.W.findIn X.K (.ref C) "__bool__" = some (some (.ref f))) (hf : PySem.W.isFn X.K (.ref f) = true) (F : OkD X.prog X.w X.K X.mg X.base k f ps [] sp) (hr : Room (k + 2) X.A)
    (hb : ∀ vs H Q, sp vs H Q EF → sp vs H (fun v H' => (∃ b, v = .bl b) ∧ Q v H') EF) : CallR X (.type "bool") (rUnC C sp) := by
  intro pins s σ H xs us Q I r h
  obtain ⟨a, dx, fs, rfl, ea, q⟩ := h
  obtain ⟨u, rfl, rx⟩ := vals1 r
  cases rx
  obtain ⟨hx, od, J⟩ := inst_at I ea
  refine call_bool_own I.kIn J hs hf (wpAny_mono (run_ok1 (vs := [.ref a]) F hr.in1.in1 rfl I (.cons rfl .nil) (hb _ _ _ q)) (fun u s' z => ?_) fun _ _ z => z)
  obtain ⟨v, H', I', rv, ⟨b, rfl⟩, q'⟩ := z
  cases (show u = Value.bool b from rv)
  exact ⟨.bl b, H', I', rfl, q'⟩
end
end Z

/-! ### instances, classes that are called, growing lists, ranges from their end -/
namespace Z
open PySem PySem.Spec L2
open PyProof.Rows hiding St
def IsI (C : Addr) (H : Hp) (p : Addr) (fs : List (Str × V)) : Prop := ∃ dx, H p = some (.ins C dx fs)
theorem same_ins {C : Addr} {H H' : Hp} {p : Addr} {fs : List (Str × V)} (e : Same H H') (h : IsI C H p fs) : IsI C H' p fs := by
  obtain ⟨dx, h⟩ := h
  exact ⟨dx, e _ _ h⟩
theorem ext_ins {C : Addr} {H H' : Hp} {p : Addr} {fs : List (Str × V)} (e : Ext H H') (h : IsI C H p fs) : IsI C H' p fs := by
  obtain ⟨dx, h⟩ := h
  exact ⟨dx, e _ _ trivial h⟩
/-- all but p stays -/
def Keep (p : Addr) (H H' : Hp) : Prop := ∀ b o, b ≠ p → H b = some o → H' b = some o
theorem keep_of {p : Addr} {H H' : Hp} (e : Same H H') : Keep p H H' := fun b o _ h => e b o h
theorem Keep.trans {p : Addr} {H H1 H2 : Hp} (a : Keep p H H1) (b : Keep p H1 H2) : Keep p H H2 := fun c o n h => b c o n (a c o n h)
theorem Keep.refl {p : Addr} {H : Hp} : Keep p H H := fun _ _ _ h => h
section
variable {D : Ends} {σ : St} {H : Hp} {Q : VK} {t u : TS} {te ta tb : TE} {g : TG} {v x y : V} {tt tu : TT} {ar : TA} {i j : Int} {a b : Bool} {A B P : Prop}
def kFld (K : PySem.W.Frag) (f : Str) (Q : VK) : VK := fun x H1 => ∃ a C dx fs v, x = .ref a ∧ H1 a = some (.ins C dx fs) ∧ Cls K C ∧ NoAttr K C f ∧ fs.lookup f = some v ∧ Q v H1
theorem i_fld {K : PySem.W.Frag} {f : Str} (h : te σ H (kFld K f Q)) : tFld K te f σ H Q := h
theorem i_fldI {K : PySem.W.Frag} {f : Str} {p C : Addr} {fs : List (Str × V)} (e : IsI C H p fs) (c : Cls K C) (n : NoAttr K C f) (l : fs.lookup f = some v) (h : Q v H) : kFld K f Q (.ref p) H := by
  obtain ⟨dx, e⟩ := e
  exact ⟨p, C, dx, fs, v, rfl, e, c, n, l, h⟩
def kSFld (K : PySem.W.Frag) (f : Str) (R : Hp → Prop) (y : V) : VK := fun x H2 => ∃ a C dx fs, x = .ref a ∧ H2 a = some (.ins C dx fs) ∧ Cls K C ∧ NoAttr K C f ∧ fs.length < 1000 ∧ R (upd H2 a (.ins C dx (putF f y fs)))
theorem i_sfld {K : PySem.W.Frag} {f : Str} (h : te σ H fun y H1 => ta σ H1 (kSFld K f (fun H3 => D.nx σ H3) y)) : sFld K ta te f D σ H := h
theorem i_sfldI {K : PySem.W.Frag} {f : Str} {p C : Addr} {fs : List (Str × V)} {R : Hp → Prop} (e : IsI C H p fs) (c : Cls K C) (n : NoAttr K C f) (l : fs.length < 1000) (h : ∀ H2, Keep p H H2 → IsI C H2 p (putF f y fs) → R H2) : kSFld K f R y (.ref p) H := by
  obtain ⟨dx, e⟩ := e
  exact ⟨p, C, dx, fs, rfl, e, c, n, l, h _ (fun b o hb q => by rw [upd_ne hb]; exact q) ⟨dx, upd_same⟩⟩
def kMake (C : Addr) (sp : Sp) (dvs : List V) (E : XK) (Q : VK) : List V → Hp → Prop := fun vs H1 => ∀ x dx, H1 x = none → H1 dx = none → dx ≠ x → sp (.ref x :: (vs ++ dvs)) (upd (upd H1 dx (.own x)) x (.ins C dx [])) (fun v H2 => v = .non ∧ Q (.ref x) H2) E
theorem i_make {C : Addr} {sp : Sp} {dvs : List V} {E : XK} (h : ar σ H (kMake C sp dvs E Q)) : tMake C sp dvs E ar σ H Q := h
theorem i_made {C : Addr} {sp : Sp} {vs dvs : List V} {E : XK} (h : ∀ x H2, (∀ H3, Keep x H2 H3 → Same H H3) → IsI C H2 x [] → sp (.ref x :: (vs ++ dvs)) H2 (fun v H3 => v = .non ∧ Q (.ref x) H3) E) : kMake C sp dvs E Q vs H := fun x dx h1 h2 h3 =>
  h x _ (fun H3 k b o e => k b o (ne_of_none e h1) (by rw [upd_ne (ne_of_none e h1), upd_ne (ne_of_none e h2)]; exact e)) ⟨dx, upd_same⟩
theorem i_chain {r r' : R2} {tc : TE} (h : ta σ H fun x H1 => tb σ H1 fun y H2 => r x y H2 fun z H3 => ∃ k, z = .bl k ∧ (if k = true then tc σ H3 fun w' H4 => r' y w' H4 Q else Q (.bl false) H3)) : tChain r r' ta tb tc σ H Q := h
theorem i_app {l : Addr} {xs : List V} (hl : H l = some (.lst xs)) (n : xs.length ≤ 100000) (h : ∀ H2, (∀ b, b ≠ l → H2 b = H b) → H2 l = some (.lst (xs ++ [v])) → Q .non H2) : rAppend (.ref l) [v] H Q :=
  ⟨l, xs, v, rfl, rfl, hl, Nat.lt_of_le_of_lt n (by decide), h _ (fun b hb => upd_ne hb) upd_same⟩
theorem same_app {H0 H2 : Hp} {l : Addr} (z : H0 l = none) (s : Same H0 H) (w : ∀ b, b ≠ l → H2 b = H b) : Same H0 H2 := fun b o e => by
  rw [w b (ne_of_none e z)]; exact s b o e
theorem keep_tup {H2 : Hp} {l c : Addr} {xs ys : List V} (w : ∀ b, b ≠ l → H2 b = H b) (hl : H l = some (.lst xs)) (hc : H c = some (.tup ys)) : H2 c = some (.tup ys) := by
  rw [w c (fun e => by rw [e, hl] at hc; cases hc)]; exact hc
theorem keep_ins {H2 : Hp} {l c C : Addr} {xs : List V} {fs : List (Str × V)} (w : ∀ b, b ≠ l → H2 b = H b) (hl : H l = some (.lst xs)) (hc : IsI C H c fs) : IsI C H2 c fs := by
  obtain ⟨dx, hc⟩ := hc
  exact ⟨dx, by rw [w c (fun e => by rw [e, hl] at hc; cases hc)]; exact hc⟩
theorem i_revR {tr : St → Hp → (Int → Int → Hp → Prop) → Prop} {R : It → Hp → Prop} (h : tr σ H fun a b H1 => -(2 ^ 62) ≤ a ∧ a < 2 ^ 62 ∧ -(2 ^ 62) ≤ b ∧ b < 2 ^ 62 ∧ R (Itc (a + (((b - a).toNat : Nat) : Int) - 1) (-1) (b - a).toNat) H1) : iRevR tr σ H R := h
theorem i_rg1 {Q : Int → Int → Hp → Prop} (h : te σ H fun x H1 => ∃ n, x = .int n ∧ Q 0 n H1) : tRg1 te σ H Q := h
theorem i_rev {n : Nat} (Pv : Nat → St → Hp → Prop) (hb : n ≤ 1000000) (h0 : Pv 0 σ H)
    (hs : ∀ i σ H, i < n → Pv i σ H → g (.int ((n : Int) - 1 - (i : Nat))) σ H fun σ2 H2 => t { D with nx := Pv (i + 1), ct := Pv (i + 1), bk := D.nx } σ2 H2) (hd : ∀ σ H, Pv n σ H → D.nx σ H) :
    ∃ m : Int, V.int (n : Nat) = .int m ∧ -(2 ^ 62) ≤ (0 : Int) ∧ (0 : Int) < 2 ^ 62 ∧ -(2 ^ 62) ≤ m ∧ m < 2 ^ 62 ∧ ∃ W : Nat → Nat → St → Hp → Prop, (∃ k, W 0 k σ H) ∧ ∀ i k σ H, W i k σ H →
      ((Itc (0 + (((m - 0).toNat : Nat) : Int) - 1) (-1) (m - 0).toNat).stop i H ∧ D.nx σ H) ∨ ((Itc (0 + (((m - 0).toNat : Nat) : Int) - 1) (-1) (m - 0).toNat).go i H ∧ ∃ N : St → Hp → Prop, (∀ σ' H', N σ' H' → ∃ m', m' < k ∧ W (i + 1) m' σ' H') ∧
        ∀ x H', (Itc (0 + (((m - 0).toNat : Nat) : Int) - 1) (-1) (m - 0).toNat).yld i H x H' → g x σ H' fun σ2 H2 => t { D with nx := N, ct := N, bk := D.nx } σ2 H2) := by
  refine ⟨n, rfl, by decide, by decide, by omega, by omega, ?_⟩
  have e : ((n : Int) - 0).toNat = n := by omega
  rw [e]
  refine for_rangeC Pv h0 (fun i σ H hi p => ?_) hd
  have e2 : 0 + (n : Int) - 1 + (i : Nat) * (-1) = (n : Int) - 1 - (i : Nat) := by omega
  rw [e2]
  exact hs i σ H hi p
theorem i_min {p : Prop} [Decidable p] {i j : Int} (h : Q (.int (if j < i then j else i)) H) : ∃ i' j', [V.int i, V.int j] = [.int i', .int j'] ∧ Q (.int (if j' < i' then j' else i')) H := ⟨i, j, rfl, h⟩
def rMin : List V → Hp → VK → Prop := fun xs H Q => ∃ i j, xs = [.int i, .int j] ∧ Q (.int (if j < i then j else i)) H
theorem call_min {X : Cx} (hc : X.calm = true) : CallR X (.builtin "min") rMin := call_min2 hc
theorem i_min2 {i j : Int} (h : Q (.int (if j < i then j else i)) H) : rMin [.int i, .int j] H Q := ⟨i, j, rfl, h⟩
def rBoolB : List V → Hp → VK → Prop := fun xs H Q => ∃ k, xs = [.bl k] ∧ Q (.bl k) H
theorem call_boolB {X : Cx} : CallR X (.type "bool") rBoolB := fun pins s σ H xs us Q I r ⟨k, e, q⟩ => call_bool1 pins s σ H xs us Q I r (.inr ⟨k, e, q⟩)
theorem i_boolB {k : Bool} (h : Q (.bl k) H) : rBoolB [.bl k] H Q := ⟨k, rfl, h⟩
theorem eqv2 (i j k l : Int) : PyData.eqv (.tuple [.int i, .int j]) (.tuple [.int k, .int l]) = decide (i = k ∧ j = l) := by
  show (i == k && (j == l && true)) = _
  by_cases h1 : i = k <;> by_cases h2 : j = l <;> simp [h1, h2]
theorem i_neD2 {K : PySem.W.Frag} {p q : Addr} {i j k l : Int} (hp : SqT K H p [.int i, .int j]) (hq : SqT K H q [.int k, .int l]) (h : Q (.bl (!decide (i = k ∧ j = l))) H) : rNeD K (.ref p) (.ref q) H Q :=
  ⟨_, _, .tup hp (.cons (.int _) (.cons (.int _) .nil)), .tup hq (.cons (.int _) (.cons (.int _) .nil)), rfl, rfl, by rw [eqv2]; exact h⟩
theorem i_glst {K : PySem.W.Frag} {n : Nat} {tg : TGs} {p : Addr} {xs : List V} {R : St → Hp → Prop} (hx : SqL K H p xs) (hn : xs.length = n) (h : tg xs σ H R) : gLst K n tg (.ref p) σ H R := ⟨p, xs, rfl, hx, hn, h⟩
theorem i_own {C p q : Addr} {sp : Sp} {fs gs : List (Str × V)} (hp : IsI C H p fs) (hq : IsI C H q gs) (h : sp [.ref p, .ref q] H Q EF) : rOwn C sp (.ref p) (.ref q) H Q := by
  obtain ⟨dx, hp⟩ := hp; obtain ⟨dy, hq⟩ := hq
  exact ⟨p, dx, fs, rfl, hp, ⟨q, dy, gs, rfl, hq⟩, h⟩
theorem i_ownI {C p : Addr} {sp : Sp} {fs : List (Str × V)} {i : Int} (hp : IsI C H p fs) (h : sp [.ref p, .int i] H Q EF) : rOwnI C sp (.ref p) (.int i) H Q := by
  obtain ⟨dx, hp⟩ := hp
  exact ⟨p, dx, fs, i, rfl, hp, rfl, h⟩
theorem i_iOwn {C p : Addr} {sp : Sp} {fs : List (Str × V)} {i : Int} (hp : IsI C H p fs) (h : sp [.ref p, .int i] H Q EF) : rIOwn C sp (.int i) (.ref p) H Q := by
  obtain ⟨dx, hp⟩ := hp
  exact ⟨p, dx, fs, i, rfl, hp, rfl, h⟩
theorem i_un1 {C p : Addr} {sp : Sp} {fs : List (Str × V)} (hp : IsI C H p fs) (h : sp [.ref p] H Q EF) : rUn1 C sp (.ref p) H Q := by
  obtain ⟨dx, hp⟩ := hp
  exact ⟨p, dx, fs, rfl, hp, h⟩
theorem i_unC {C p : Addr} {sp : Sp} {fs : List (Str × V)} (hp : IsI C H p fs) (h : sp [.ref p] H Q EF) : rUnC C sp [.ref p] H Q := by
  obtain ⟨dx, hp⟩ := hp
  exact ⟨p, dx, fs, rfl, hp, h⟩
theorem ins_ty {K : PySem.W.Frag} {C p : Addr} {fs : List (Str × V)} (c : C8.InsC K C) (h : IsI C H p fs) : TyX K H (.ref p) (.ref C) := by
  obtain ⟨dx, h⟩ := h
  exact .base (.ins h c.cl c.ha c.hn c.htk c.hm)
theorem at_i {α : Type} {f : α → V} {xs : List α} {i : Nat} (h : i < xs.length) : ∃ x, xs[i]? = some x ∧ atI (xs.map f) (0 + (i : Int)) = some (f x) := by
  refine ⟨xs[i], List.getElem?_eq_getElem h, ?_⟩
  rw [Int.zero_add]
  exact atI_nat (by rw [List.getElem?_map, List.getElem?_eq_getElem h]; rfl)
theorem at_nn {α : Type} {f : α → V} {xs : List α} {i : Int} (h0 : 0 ≤ i) (h : i < xs.length) : ∃ x, xs[i.toNat]? = some x ∧ atI (xs.map f) i = some (f x) := by
  obtain ⟨n, rfl⟩ := Int.eq_ofNat_of_zero_le h0
  have := at_i (f := f) (xs := xs) (i := n) (by omega)
  rw [Int.zero_add] at this
  exact this
theorem at_getD {xs : List Int} {q : Int} (h0 : 0 ≤ q) (h1 : q < xs.length) : atI (xs.map V.int) q = some (V.int (xs.getD q.toNat 0)) := by
  obtain ⟨x, e1, e2⟩ := at_nn (f := V.int) h0 h1
  rw [e2, List.getD_eq_getElem?_getD, e1]; rfl
/-- addresses of a list's items, with what stands there -/
inductive Items {α : Type} (F : Hp → Addr → α → Prop) (H : Hp) : List Addr → List α → Prop
  | nil : Items F H [] []
  | cons {p : Addr} {ps : List Addr} {x : α} {xs : List α} : F H p x → Items F H ps xs → Items F H (p :: ps) (x :: xs)
theorem Items.map {α : Type} {F : Hp → Addr → α → Prop} {H' : Hp} (k : ∀ p x, F H p x → F H' p x) : ∀ {ps : List Addr} {xs : List α}, Items F H ps xs → Items F H' ps xs
  | _, _, .nil => .nil
  | _, _, .cons h r => .cons (k _ _ h) (r.map k)
theorem Items.len {α : Type} {F : Hp → Addr → α → Prop} : ∀ {ps : List Addr} {xs : List α}, Items F H ps xs → ps.length = xs.length
  | _, _, .nil => rfl
  | _, _, .cons _ r => by rw [List.length_cons, List.length_cons, r.len]
theorem Items.get {α : Type} {F : Hp → Addr → α → Prop} : ∀ {ps : List Addr} {xs : List α} {i : Nat} {x : α}, Items F H ps xs → xs[i]? = some x → ∃ p, ps[i]? = some p ∧ F H p x
  | _, _, 0, _, .cons h _, e => by cases e; exact ⟨_, rfl, h⟩
  | _, _, i + 1, _, .cons _ r, e => by
    rw [List.getElem?_cons_succ] at e
    obtain ⟨p, e1, e2⟩ := r.get e
    exact ⟨p, by rw [List.getElem?_cons_succ]; exact e1, e2⟩
/-- a list of objects -/
def LO {α : Type} (F : Hp → Addr → α → Prop) (H : Hp) (p : Addr) (xs : List α) : Prop := ∃ ps, H p = some (.lst (ps.map V.ref)) ∧ Items F H ps xs
theorem ext_LO {α : Type} {F : Hp → Addr → α → Prop} {H' : Hp} {p : Addr} {xs : List α} (k : ∀ p x, F H p x → F H' p x) (e : Ext H H') (h : LO F H p xs) : LO F H' p xs := by
  obtain ⟨ps, h1, h2⟩ := h
  exact ⟨ps, e _ _ (stab_ref _) h1, h2.map k⟩
theorem same_LO {α : Type} {F : Hp → Addr → α → Prop} {H' : Hp} {p : Addr} {xs : List α} (k : ∀ p x, F H p x → F H' p x) (e : Same H H') (h : LO F H p xs) : LO F H' p xs := by
  obtain ⟨ps, h1, h2⟩ := h
  exact ⟨ps, e _ _ h1, h2.map k⟩
theorem LO.sq {K : PySem.W.Frag} {α : Type} {F : Hp → Addr → α → Prop} {p : Addr} {xs : List α} (h : LO F H p xs) : ∃ vs, SqL K H p vs ∧ vs.length = xs.length := by
  obtain ⟨ps, h1, h2⟩ := h
  exact ⟨_, .of h1, by rw [List.length_map]; exact h2.len⟩
theorem LO.at {K : PySem.W.Frag} {α : Type} {F : Hp → Addr → α → Prop} {p : Addr} {xs : List α} {i : Nat} {x : α} (h : LO F H p xs) (e : xs[i]? = some x) : ∃ vs q, SqL K H p vs ∧ atI vs (0 + (i : Int)) = some (.ref q) ∧ F H q x := by
  obtain ⟨ps, h1, h2⟩ := h
  obtain ⟨q, e1, e2⟩ := h2.get e
  exact ⟨_, q, .of h1, by rw [Int.zero_add]; exact atI_nat (by rw [List.getElem?_map, e1]; rfl), e2⟩
theorem LO.ty {K : PySem.W.Frag} {α : Type} {F : Hp → Addr → α → Prop} {p : Addr} {xs : List α} (h : LO F H p xs) : TyX K H (.ref p) (.type "list") := by
  obtain ⟨ps, h1, h2⟩ := h
  exact .base (.lst h1)
theorem i_lenO {K : PySem.W.Frag} {α : Type} {F : Hp → Addr → α → Prop} {p : Addr} {xs : List α} (h : LO F H p xs) (k : Q (.int xs.length) H) : rLenS K [.ref p] H Q := by
  obtain ⟨vs, h1, h2⟩ := h.sq (K := K)
  exact ⟨p, vs, rfl, .inl h1, by rw [h2]; exact k⟩
/-- a pair of ints -/
def IsP (H : Hp) (p : Addr) (q : Int × Int) : Prop := H p = some (.tup [.int q.1, .int q.2])
theorem same_P {H' : Hp} {p : Addr} {q : Int × Int} (e : Same H H') (h : IsP H p q) : IsP H' p q := e _ _ h
theorem ext_P {H' : Hp} {p : Addr} {q : Int × Int} (e : Ext H H') (h : IsP H p q) : IsP H' p q := e _ _ trivial h
end
theorem OkD.dfl {P : Program} {w : World} {K : PySem.W.Frag} {mg : Str → Option Value} {base : Heap} {k : Nat} {f : Addr} {ps : List Str} {sp : Sp} {x qual : Str} {params : Arguments} {body : List Stmt} {scope : Scope} {dvs : List V} {fd : FuncData}
    (F : FunD K x qual params body scope dvs [] f fd) (n j : Nat) (hd : dvs ≠ []) (hn : n + (dvs.length - j) = ps.length)
    (h : ∀ (T : Addr) (kV doc pm : Value) (an : Option Addr) (cdv ct : Value) (us its : List Value), us.length = n → its.length = dvs.length →
      ∃ k, bindArgs (PySem.W.fnOf x qual params body scope (.ref T) kV doc pm an cdv ct) ⟨us, []⟩ = seqItems? (.ref T) >>= k ∧ k (some its.toArray) = pure (ps.zip (us ++ its.drop j))) (R : FnOk P w K mg base (L2N.CX P w) k f fd ps sp) : OkD P w K mg base k f ps (dvs.drop j) sp := by
  obtain ⟨ds, vd, b⟩ := F.binds1 n j hd hn h
  exact ⟨fd, ds, F.kp, b, vd, R⟩
section
variable {X : Cx} {k : Nat} {f C : Addr} {ps : List Str} {dvs : List V} {sp : Sp} {x : Str} {p pos : Pos} {e : Expr} {es : List Expr} {t : TA} {G : List Str}
theorem pcM (M : Mk X.K C f) (F : OkD X.prog X.w X.K X.mg X.base k f ps dvs sp) (hr : Room (k + 1) X.A) (hg : glB G X.env.scope = true) (n : Nat) (hm : X.mg x = some (.ref C)) (ha : PA X (e :: es) t) (hx : G[n]? = some x := by rfl)
    (he : starEach (e :: es) X.env = (false, eval e X.env) :: starEach es X.env := by rfl) (hpl : (backTo pos (starEach es X.env)).any (·.1) = false := by rfl) : PE X (.Call (.Name x p) (e :: es) [] pos) (tMake C sp dvs EF t) := by
  obtain ⟨fd, ds, kp, b, vd, F⟩ := F
  exact pe_make M F hr (gl_of hg hx).1 hm b vd (fun _ _ _ _ _ _ _ q => (cxF q).elim) ha (gl_of hg hx).2.1 he hpl
end
end Z
namespace Z
open PySem PySem.Spec L2
open PyProof.Rows hiding St
theorem i_blq {F : Bool → Prop} {a b : Bool} (e : a = b) (h : F b) : ∃ k, V.bl a = .bl k ∧ F k := ⟨b, by rw [e], h⟩
theorem i_lenM {K : PySem.W.Frag} {α : Type} {f : α → V} {p : Addr} {xs : List α} {H : Hp} {Q : VK} (hx : SqL K H p (xs.map f)) (h : Q (.int xs.length) H) : rLenS K [.ref p] H Q := ⟨p, _, rfl, .inl hx, by rw [List.length_map]; exact h⟩
def insB (K : PySem.W.Frag) (C : Addr) : Bool := He.eqO (PySem.W.findIn K (.ref C) "__class__") (some (some (.builtin "object.__class__"))) && (He.eqO (PySem.W.specialIn K (.builtin "object.__class__") "__get__") (some (some (.builtin "getset_descriptor.__get__"))) &&
  (decide (PySem.W.takesIn K (.builtin "object.__class__") = some true) && (decide (PySem.W.mroIn K C (.type "object") = some true) && decide (PySem.W.kitOne K (.ref C) (.ref C) = some true))))
theorem insB_ok {K : PySem.W.Frag} {C : Addr} (c : Cls K C) (h : insB K C = true) : C8.InsC K C := by
  obtain ⟨h1, h⟩ := He.ba h
  obtain ⟨h2, h⟩ := He.ba h
  obtain ⟨h3, h⟩ := He.ba h
  obtain ⟨h4, h5⟩ := He.ba h
  exact ⟨c, He.eqO_ok h1, He.eqO_ok h2, of_decide_eq_true h3, of_decide_eq_true h4, of_decide_eq_true h5⟩
def binB (K : PySem.W.Frag) (C : Addr) (nm : String) (f : Addr) : Bool := PySem.W.selfFirst K C && (He.eqO (PySem.W.findIn K (.ref C) (PySem.dunder nm)) (some (some (.ref f))) && PySem.W.isFn K (.ref f))
theorem binB_ok {K : PySem.W.Frag} {C : Addr} {nm : String} {f : Addr} (h : binB K C nm f = true) : BinF K C nm f := by
  obtain ⟨h1, h⟩ := He.ba h
  obtain ⟨h2, h3⟩ := He.ba h
  exact ⟨h1, He.eqO_ok h2, h3⟩
def refB (K : PySem.W.Frag) (C : Addr) (nm : String) (f g : Addr) : Bool := PySem.W.selfFirst K C && (He.eqO (PySem.W.findIn K (.ref C) (PySem.dunder nm)) (some (some (.ref f))) && (He.eqO (PySem.W.findIn K (.ref C) (dunderR nm)) (some (some (.ref g))) && (PySem.W.isFn K (.ref g) && decide (PySem.W.subIn K (.ref C) (.type "int") = some false))))
theorem refB_ok {K : PySem.W.Frag} {C : Addr} {nm : String} {f g : Addr} (h : refB K C nm f g = true) : RefF K C nm f g := by
  obtain ⟨h1, h⟩ := He.ba h
  obtain ⟨h2, h⟩ := He.ba h
  obtain ⟨h3, h⟩ := He.ba h
  obtain ⟨h4, h5⟩ := He.ba h
  exact ⟨h1, He.eqO_ok h2, He.eqO_ok h3, h4, of_decide_eq_true h5⟩
def isSm : Option (Option Value) → Bool
  | some _ => true
  | none => false
theorem isSm_ok {o : Option (Option Value)} (h : isSm o = true) : ∃ v, o = some v := by
  cases o with
  | none => cases h
  | some v => exact ⟨v, rfl⟩
def binIB (K : PySem.W.Frag) (C : Addr) (nm : String) (g : Addr) : Bool := He.eqO (PySem.W.findIn K (.ref C) (dunderR nm)) (some (some (.ref g))) && (isSm (PySem.W.findIn K (.type "int") (PySem.dunder nm)) && (isSm (PySem.W.findIn K (.type "int") (dunderR nm)) && decide (PySem.W.subIn K (.type "int") (.ref C) = some false)))
theorem binIB_ok {K : PySem.W.Frag} {C : Addr} {nm : String} {g : Addr} (h : binIB K C nm g = true) : ∃ rc fo ro, BinI K C nm rc fo ro := by
  obtain ⟨h1, h⟩ := He.ba h
  obtain ⟨h2, h⟩ := He.ba h
  obtain ⟨h3, h4⟩ := He.ba h
  obtain ⟨fo, e2⟩ := isSm_ok h2
  obtain ⟨ro, e3⟩ := isSm_ok h3
  exact ⟨_, fo, ro, He.eqO_ok h1, .inr ⟨g, rfl⟩, e2, e3, of_decide_eq_true h4⟩
section
variable {X : Cx} {C : Addr} {f g : Addr} {k : Nat} {ps : List Str} {sp : Sp} {op : Operator}
theorem op_ownIx (b : BinF X.K C op.info.2 f) (bi : ∃ rc fo ro, BinI X.K C op.info.2 rc fo ro) (F : OkD X.prog X.w X.K X.mg X.base k f ps [] sp) (hr : Room k X.A) : OpR X (binaryOp op) (rOwnI C sp) := by
  obtain ⟨_, _, _, bi⟩ := bi
  exact op_ownI b bi F hr
end
end Z

/-! ### comparisons of an own class -/
namespace Z
open PySem PySem.W PySem.Calls PySem.Spec L2
open PyProof.Rows hiding St
/-- the class's own method nm (a comparison's) -/
structure CmpF (K : PySem.W.Frag) (C : Addr) (nm : Str) (f : Addr) : Prop where
  at_ : PySem.W.findIn K (.ref C) nm = some (some (.ref f))
  fn : PySem.W.isFn K (.ref f) = true
/-- its own __eq__, object's __ne__ -/
structure NeF (K : PySem.W.Frag) (C f : Addr) : Prop where
  eq : CmpF K C "__eq__" f
  ne : PySem.W.findIn K (.ref C) "__ne__" = some (some (.builtin "object.__ne__"))
  hm : PySem.W.mroIn K C (.type "object") = some true
section
variable {prog : Program} {w : World} {M : Model} {A : Around} {E : Value → Shared → Prop} {s : Shared} {K : PySem.W.Frag} {x C f g dx : Addr} {ox : Obj} {od : Option Obj} {b tb : Value} {t : Tok}
theorem ne_entry {Q : Fin → Shared → Prop} (hu : A.units < cLine) (X : K.In s.heap) (I : PySem.W.InstAt s.heap x ox C od) (e : CmpF K C "__eq__" f)
    (h : wpAny (model prog w) A (call (.ref f) [.ref x, b]) (fun v s' => ∃ k, v = .bool k ∧ Q (.done (.ret (.bool (!k)))) s') E s) : wpAny (model prog w) A (Builtin.«object.__ne__» ⟨[.ref x, b], []⟩) Q E s := by
  unfold Builtin.«object.__ne__»
  repeat (first
    | with_reducible refine wpAny_cRoomFor hu ?_
    | (refine wpAny_bind (m := callSpecialIfBound? (.ref x) (Str.ofString "__eq__") [b])
        (PySem.W.ifBound_K X I e.at_ e.fn (wpAny_mono h (fun r s' hr => by
          obtain ⟨k, rfl, hq⟩ := hr
          repeat (first | exact hq | exact wpAny_pure hq | exact wpAny_truthy_bool hq | (refine wpAny_bind (m := truthy (.bool _)) (wpAny_truthy_bool ?_)) | wp_step)) fun _ _ e => e)))
    | wp_step)
theorem try_ne {Q : Option Value → Shared → Prop} (hu : A.units + 1 < cLine) (X : K.In s.heap) (I : PySem.W.InstAt s.heap x ox C od) (n : NeF K C f)
    (h : wpAny (model prog w) A.in1 (call (.ref f) [.ref x, b]) (fun v s' => ∃ k, v = .bool k ∧ Q (some (.bool (!k))) s') E s) : wpAny (model prog w) A (tryCompare (.ref x) "__ne__" b) Q E s := by
  have one : wpAny (model prog w) A (call (.builtin "object.__ne__") [.ref x, b]) (fun v s' => ∃ k, v = .bool (!k) ∧ Q (some (.bool (!k))) s') E s :=
    wpAny_call (codeAny_call_builtin F.cmp_object.ne.plain F.cmpEntry_ne (PySem.W.check_slot F.cmpKind_ne F.cmpSplit_ne (I.type.andThen (PySem.W.looks_mroIn X n.hm)) (F.cmpArgs_ne _ _)
      (ne_entry (A := A.in1) hu X I n.eq (wpAny_mono h (fun v s' hv => by obtain ⟨k, rfl, q⟩ := hv; exact ⟨k, rfl, k, rfl, q⟩) fun _ _ e => e))))
  simp only [tryCompare, callSpecialIfBound?, bindSpecialIfBound?]
  refine wpAny_bind (wpAny_holding (wpAny_bind (wpAny_bind (wpAny_bind (I.type.here ((PySem.W.looks_findIn X n.ne).here ?_))))))
  refine wpAny_bind (wpAny_askSetting (wpAny_ite ?_))
  have fin : ∀ (R : Option Value → Shared → Prop), (∀ k s', Q (some (.bool (!k))) s' → R (some (.bool (!k))) s') → wpAny (model prog w) A (call (.builtin "object.__ne__") ([.ref x] ++ [b]) >>= fun v => pure (some v)) R E s := fun R hR => wpAny_bind (wpAny_mono one (fun v s' h' => by
    obtain ⟨k, rfl, q⟩ := h'
    exact wpAny_pure (hR k s' q)) fun _ _ h' => h')
  split
  · exact wpAny_bind (wpAny_of_eq (F.cmp_object.ne.bind _) (wpAny_pure (by exact fin _ fun k s' q => wpAny_pure q)))
  · exact wpAny_tryCatch (wpAny_bind (wpAny_of_eq (F.cmp_object.ne.bind _) (wpAny_pure (by exact fin _ fun k s' q => wpAny_pure q))))
end
section
variable {prog : Program} {w : World} {M : Model} {A : Around} {E : Value → Shared → Prop} {s : Shared} {K : PySem.W.Frag} {x C f g dx l : Addr} {ox : Obj} {od : Option Obj} {b tb : Value} {t : Tok} {i : Int} {z : Str} {T : String}
theorem dec_int_eq {P : Fin → Shared → Prop} (hx : s.heap.get? x = some (PySem.W.instObj C dx)) (h : P (.done (.ret .notImplemented)) s) : wpAny M A (Builtin.«int.__eq__» ⟨[.int i t, .ref x], []⟩) P E s := by
  obtain ⟨hp, g, d, tk, os⟩ := s
  unfold PySem.W.instObj at hx
  wp_walk
  exact h
theorem dec_str_eq {P : Fin → Shared → Prop} (hx : s.heap.get? x = some (PySem.W.instObj C dx)) (h : P (.done (.ret .notImplemented)) s) : wpAny M A (Builtin.«str.__eq__» ⟨[.str z t, .ref x], []⟩) P E s := by
  obtain ⟨hp, g, d, tk, os⟩ := s
  unfold PySem.W.instObj at hx
  wp_walk
  exact h
theorem dec_NoneType_eq {P : Fin → Shared → Prop} (hx : s.heap.get? x = some (PySem.W.instObj C dx)) (h : P (.done (.ret .notImplemented)) s) : wpAny M A (Builtin.«NoneType.__eq__» ⟨[.none, .ref x], []⟩) P E s := by
  obtain ⟨hp, g, d, tk, os⟩ := s
  unfold PySem.W.instObj at hx
  wp_walk
  exact h
theorem dec_list_eq {P : Fin → Shared → Prop} {dd : Option Addr} {its : Array Value} {n : Nat} {sl : Array (Option Value)} (X : K.In s.heap) (hn : PySem.W.subIn K (.ref C) (.type "list") = some false) (hl : s.heap.get? l = some ⟨.type "list", dd, .seq its n, sl⟩) (hx : s.heap.get? x = some (PySem.W.instObj C dx)) (h : P (.done (.ret .notImplemented)) s) : wpAny M A (Builtin.«list.__eq__» ⟨[.ref l, .ref x], []⟩) P E s := by
  obtain ⟨hp, g, d, tk, os⟩ := s
  unfold PySem.W.instObj at hx
  wp_walk
  refine (PySem.W.looks_subIn X hn).here ?_
  simp only [Bool.not_false, if_true]
  exact wpAny_pure h
theorem dec_tuple_eq {P : Fin → Shared → Prop} {dd : Option Addr} {its : Array Value} {n : Nat} {sl : Array (Option Value)} (X : K.In s.heap) (hn : PySem.W.subIn K (.ref C) (.type "tuple") = some false) (hl : s.heap.get? l = some ⟨.type "tuple", dd, .seq its n, sl⟩) (hx : s.heap.get? x = some (PySem.W.instObj C dx)) (h : P (.done (.ret .notImplemented)) s) : wpAny M A (Builtin.«tuple.__eq__» ⟨[.ref l, .ref x], []⟩) P E s := by
  obtain ⟨hp, g, d, tk, os⟩ := s
  unfold PySem.W.instObj at hx
  wp_walk
  refine (PySem.W.looks_subIn X hn).here ?_
  simp only [Bool.not_false, if_true]
  exact wpAny_pure h
theorem dec_int_ne {P : Fin → Shared → Prop} (hx : s.heap.get? x = some (PySem.W.instObj C dx)) (h : P (.done (.ret .notImplemented)) s) : wpAny M A (Builtin.«int.__ne__» ⟨[.int i t, .ref x], []⟩) P E s := by
  obtain ⟨hp, g, d, tk, os⟩ := s
  unfold PySem.W.instObj at hx
  wp_walk
  exact h
theorem dec_str_ne {P : Fin → Shared → Prop} (hx : s.heap.get? x = some (PySem.W.instObj C dx)) (h : P (.done (.ret .notImplemented)) s) : wpAny M A (Builtin.«str.__ne__» ⟨[.str z t, .ref x], []⟩) P E s := by
  obtain ⟨hp, g, d, tk, os⟩ := s
  unfold PySem.W.instObj at hx
  wp_walk
  exact h
theorem dec_NoneType_ne {P : Fin → Shared → Prop} (hx : s.heap.get? x = some (PySem.W.instObj C dx)) (h : P (.done (.ret .notImplemented)) s) : wpAny M A (Builtin.«NoneType.__ne__» ⟨[.none, .ref x], []⟩) P E s := by
  obtain ⟨hp, g, d, tk, os⟩ := s
  unfold PySem.W.instObj at hx
  wp_walk
  exact h
theorem dec_list_ne {P : Fin → Shared → Prop} {dd : Option Addr} {its : Array Value} {n : Nat} {sl : Array (Option Value)} (X : K.In s.heap) (hn : PySem.W.subIn K (.ref C) (.type "list") = some false) (hl : s.heap.get? l = some ⟨.type "list", dd, .seq its n, sl⟩) (hx : s.heap.get? x = some (PySem.W.instObj C dx)) (h : P (.done (.ret .notImplemented)) s) : wpAny M A (Builtin.«list.__ne__» ⟨[.ref l, .ref x], []⟩) P E s := by
  obtain ⟨hp, g, d, tk, os⟩ := s
  unfold PySem.W.instObj at hx
  wp_walk
  refine (PySem.W.looks_subIn X hn).here ?_
  simp only [Bool.not_false, if_true]
  exact wpAny_pure h
theorem dec_tuple_ne {P : Fin → Shared → Prop} {dd : Option Addr} {its : Array Value} {n : Nat} {sl : Array (Option Value)} (X : K.In s.heap) (hn : PySem.W.subIn K (.ref C) (.type "tuple") = some false) (hl : s.heap.get? l = some ⟨.type "tuple", dd, .seq its n, sl⟩) (hx : s.heap.get? x = some (PySem.W.instObj C dx)) (h : P (.done (.ret .notImplemented)) s) : wpAny M A (Builtin.«tuple.__ne__» ⟨[.ref l, .ref x], []⟩) P E s := by
  obtain ⟨hp, g, d, tk, os⟩ := s
  unfold PySem.W.instObj at hx
  wp_walk
  refine (PySem.W.looks_subIn X hn).here ?_
  simp only [Bool.not_false, if_true]
  exact wpAny_pure h
theorem cmp_fo {op : CmpOp} {Q : Value → Shared → Prop} (hu : A.units < cLine) (X : K.In s.heap) (I : PySem.W.InstAt s.heap x ox C od) (hT : s.TypeIs b T) (hn : PySem.W.subIn K (.type T) (.ref C) = some false) (c : CmpF K C (cmpInfo op).2.1 f)
    (h : wpAny (model prog w) A (call (.ref f) [.ref x, b]) (PySem.W.CmpBack Q) E s) : wpAny (model prog w) A (richCompare op (.ref x) b) Q E s := by
  have one : wpAny (model prog w) A (tryCompare (.ref x) (cmpInfo op).2.1 b) (fun r s' => ∃ v, r = some v ∧ Q v s') E s := by
    unfold tryCompare
    refine wpAny_bind (PySem.W.ifBound_K X I c.at_ c.fn (wpAny_mono h (fun v s' hv => ?_) fun _ _ e => e))
    cases v <;> first | exact hv.elim | exact wpAny_pure ⟨_, rfl, hv⟩
  unfold richCompare
  simp only [oneThing_ref]
  refine wpAny_holding (wpAny_bind (wpAny_cRoomFor hu ?_))
  refine wpAny_bind (I.type.here (wpAny_bind (wpAny_typeOf hT ?_)))
  have hne : (Value.ref C != Value.type T) = true := by simp
  simp only [hne, if_true]
  refine wpAny_bind ((PySem.W.looks_subIn X hn).here ?_)
  simp only [Bool.false_eq_true, if_false]
  refine wpAny_bind (wpAny_mono one (fun r s' z => ?_) fun _ _ e => e)
  obtain ⟨v, rfl, hq⟩ := z
  exact wpAny_pure hq
theorem ne_fo {Q : Value → Shared → Prop} (hu : A.units + 1 < cLine) (X : K.In s.heap) (I : PySem.W.InstAt s.heap x ox C od) (hT : s.TypeIs b T) (hn : PySem.W.subIn K (.type T) (.ref C) = some false) (n : NeF K C f)
    (h : wpAny (model prog w) A.in1 (call (.ref f) [.ref x, b]) (fun v s' => ∃ k, v = .bool k ∧ Q (.bool (!k)) s') E s) : wpAny (model prog w) A (richCompare .NotEq (.ref x) b) Q E s := by
  unfold richCompare
  simp only [oneThing_ref]
  refine wpAny_holding (wpAny_bind (wpAny_cRoomFor (by omega) ?_))
  refine wpAny_bind (I.type.here (wpAny_bind (wpAny_typeOf hT ?_)))
  have hne : (Value.ref C != Value.type T) = true := by simp
  simp only [hne, if_true]
  refine wpAny_bind ((PySem.W.looks_subIn X hn).here ?_)
  simp only [Bool.false_eq_true, if_false]
  rw [cmpInfo_NotEq]
  refine wpAny_bind (try_ne hu X I n (wpAny_mono h (fun v s' hv => ?_) fun _ _ e => e))
  obtain ⟨k, rfl, q⟩ := hv
  exact ⟨k, rfl, wpAny_pure q⟩
theorem ne_own {Q : Value → Shared → Prop} (hu : A.units + 1 < cLine) (X : K.In s.heap) (I : PySem.W.InstAt s.heap x ox C od) {y : Addr} {oy : Obj} {oe : Option Obj} (J : PySem.W.InstAt s.heap y oy C oe) (n : NeF K C f)
    (h : wpAny (model prog w) A.in1 (call (.ref f) [.ref x, .ref y]) (fun v s' => ∃ k, v = .bool k ∧ Q (.bool (!k)) s') E s) : wpAny (model prog w) A (richCompare .NotEq (.ref x) (.ref y)) Q E s := by
  unfold richCompare
  simp only [oneThing_ref]
  refine wpAny_holding (wpAny_bind (wpAny_cRoomFor (by omega) ?_))
  refine wpAny_bind (I.type.here (wpAny_bind (J.type.here ?_)))
  have hne : (Value.ref C != Value.ref C) = false := by simp
  simp only [hne, Bool.false_eq_true, if_false]
  refine wpAny_bind (wpAny_pure ?_)
  simp only [Bool.false_eq_true, if_false]
  rw [cmpInfo_NotEq]
  refine wpAny_bind (try_ne hu X I n (wpAny_mono h (fun v s' hv => ?_) fun _ _ e => e))
  obtain ⟨k, rfl, q⟩ := hv
  exact ⟨k, rfl, wpAny_pure q⟩
/-- a foreign value at the left: it declines, then the own class is asked -/
theorem fo_eq {Q : Value → Shared → Prop} (hu : A.units < cLine) (X : K.In s.heap) (I : PySem.W.InstAt s.heap x ox C od) (hT : s.TypeIs b T) (hn : PySem.W.subIn K (.ref C) (.type T) = some false) (c : CmpF K C "__eq__" f)
    (d : ∀ R : Option Value → Shared → Prop, R none s → wpAny (model prog w) A (tryCompare b "__eq__" (.ref x)) R E s)
    (h : wpAny (model prog w) A (call (.ref f) [.ref x, b]) (PySem.W.CmpBack Q) E s) : wpAny (model prog w) A (richCompare .Eq b (.ref x)) Q E s := by
  have one : wpAny (model prog w) A (tryCompare (.ref x) "__eq__" b) (fun r s' => ∃ v, r = some v ∧ Q v s') E s := by
    unfold tryCompare
    refine wpAny_bind (PySem.W.ifBound_K X I c.at_ c.fn (wpAny_mono h (fun v s' hv => ?_) fun _ _ e => e))
    cases v <;> first | exact hv.elim | exact wpAny_pure ⟨_, rfl, hv⟩
  unfold richCompare
  simp only [hT.oneThing_none]
  refine wpAny_holding (wpAny_bind (wpAny_cRoomFor hu ?_))
  refine wpAny_bind (wpAny_typeOf hT (wpAny_bind (I.type.here ?_)))
  have hne : (Value.type T != Value.ref C) = true := by simp
  simp only [hne, if_true]
  refine wpAny_bind ((PySem.W.looks_subIn X hn).here ?_)
  simp only [Bool.false_eq_true, if_false]
  rw [cmpInfo_Eq]
  refine wpAny_bind (d _ ?_)
  simp only [Bool.not_false, if_true]
  refine wpAny_bind (wpAny_mono one (fun r s' z => ?_) fun _ _ e => e)
  obtain ⟨v, rfl, hq⟩ := z
  exact wpAny_pure hq
theorem fo_ne {Q : Value → Shared → Prop} (hu : A.units + 1 < cLine) (X : K.In s.heap) (I : PySem.W.InstAt s.heap x ox C od) (hT : s.TypeIs b T) (hn : PySem.W.subIn K (.ref C) (.type T) = some false) (n : NeF K C f)
    (d : ∀ R : Option Value → Shared → Prop, R none s → wpAny (model prog w) A (tryCompare b "__ne__" (.ref x)) R E s)
    (h : wpAny (model prog w) A.in1 (call (.ref f) [.ref x, b]) (fun v s' => ∃ k, v = .bool k ∧ Q (.bool (!k)) s') E s) : wpAny (model prog w) A (richCompare .NotEq b (.ref x)) Q E s := by
  unfold richCompare
  simp only [hT.oneThing_none]
  refine wpAny_holding (wpAny_bind (wpAny_cRoomFor (by omega) ?_))
  refine wpAny_bind (wpAny_typeOf hT (wpAny_bind (I.type.here ?_)))
  have hne : (Value.type T != Value.ref C) = true := by simp
  simp only [hne, if_true]
  refine wpAny_bind ((PySem.W.looks_subIn X hn).here ?_)
  simp only [Bool.false_eq_true, if_false]
  rw [cmpInfo_NotEq]
  refine wpAny_bind (d _ ?_)
  simp only [Bool.not_false, if_true]
  refine wpAny_bind (try_ne hu X I n (wpAny_mono h (fun v s' hv => ?_) fun _ _ e => e))
  obtain ⟨k, rfl, q⟩ := hv
  exact ⟨k, rfl, wpAny_pure q⟩
end
end Z
namespace Z
open PySem PySem.W PySem.Calls PySem.Spec L2
open PyProof.Rows hiding St
/-- a value of a built-in type, and the type -/
inductive Fo (H : Hp) : V → String → Prop
  | int (i : Int) : Fo H (.int i) "int"
  | str (z : Str) : Fo H (.str z) "str"
  | non : Fo H .non "NoneType"
  | tup {a : Addr} {xs : List V} (e : H a = some (.tup xs)) : Fo H (.ref a) "tuple"
  | lst {a : Addr} {xs : List V} (e : H a = some (.lst xs)) : Fo H (.ref a) "list"
section
variable {X : Cx} {pins : List (Addr × Obj)} {σ : L2.St} {H : Hp} {s : Shared} {y : V} {v : Value} {T : String} {A : Around} {E : Value → Shared → Prop} {C x : Addr}
theorem fo_lst (I : Inv X pins σ H s) {a : Addr} {xs : List V} (e : H a = some (.lst xs)) : ∃ dd its n sl, s.heap.get? a = some ⟨.type "list", dd, .seq its n, sl⟩ := by
  obtain ⟨_, its, n, _, _, h⟩ := I.lstM e
  exact ⟨_, _, _, _, h⟩
theorem fo_tup (I : Inv X pins σ H s) {a : Addr} {xs : List V} (e : H a = some (.tup xs)) : ∃ dd its n sl, s.heap.get? a = some ⟨.type "tuple", dd, .seq its n, sl⟩ := by
  obtain ⟨_, _, _, o, h1, h2, n, h3⟩ := (show ObjOk X.prog X.w H s.heap a (.tup xs) from I.hok a _ e)
  obtain ⟨c, dd, d, sl⟩ := o
  cases h2
  cases h3
  exact ⟨_, _, _, _, h1⟩
theorem Fo.type (f : Fo H y T) (I : Inv X pins σ H s) (r : RelV y v) : s.TypeIs v T := by
  cases f with
  | int i => obtain ⟨t, rfl⟩ := r; exact typeIs_int s i t
  | str z => obtain ⟨t, rfl⟩ := r; exact typeIs_str s z t
  | non => cases r; rfl
  | tup e => cases r; obtain ⟨_, _, _, _, h⟩ := fo_tup I e; exact ⟨_, h, rfl⟩
  | lst e => cases r; obtain ⟨_, _, _, _, h⟩ := fo_lst I e; exact ⟨_, h, rfl⟩
theorem Fo.deq (f : Fo H y T) (I : Inv X pins σ H s) (r : RelV y v) {dx : Addr} {prog : Program} {w : World} (hx : s.heap.get? x = some (PySem.W.instObj C dx)) (hn : PySem.W.subIn X.K (.ref C) (.type T) = some false) (R : Option Value → Shared → Prop) (h : R none s) : wpAny (model prog w) A (tryCompare v "__eq__" (.ref x)) R E s := by
  have ht := f.type I r
  cases f with
  | int i => obtain ⟨t, rfl⟩ := r; exact wpAny_tryCompare_declines ht PySem.F.slot_int_eq (wpAny_call_entry PySem.F.slot_int_eq ht PySem.F.entry_int_eq (dec_int_eq hx ⟨_, rfl, rfl, h⟩) (PySem.F.args_int_eq_2 _ _))
  | str z => obtain ⟨t, rfl⟩ := r; exact wpAny_tryCompare_declines ht PySem.F.slot_str_eq (wpAny_call_entry PySem.F.slot_str_eq ht PySem.F.entry_str_eq (dec_str_eq hx ⟨_, rfl, rfl, h⟩) (PySem.F.args_str_eq_2 _ _))
  | non => cases r; exact wpAny_tryCompare_declines ht PySem.F.slot_NoneType_eq (wpAny_call_entry PySem.F.slot_NoneType_eq ht PySem.F.entry_NoneType_eq (dec_NoneType_eq hx ⟨_, rfl, rfl, h⟩) (PySem.F.args_NoneType_eq_2 _ _))
  | tup e => cases r; obtain ⟨_, _, _, _, hl⟩ := fo_tup I e; exact wpAny_tryCompare_declines ht PySem.F.slot_tuple_eq (wpAny_call_entry PySem.F.slot_tuple_eq ht PySem.F.entry_tuple_eq (dec_tuple_eq I.kIn hn hl hx ⟨_, rfl, rfl, h⟩) (PySem.F.args_tuple_eq_2 _ _))
  | lst e => cases r; obtain ⟨_, _, _, _, hl⟩ := fo_lst I e; exact wpAny_tryCompare_declines ht PySem.F.slot_list_eq (wpAny_call_entry PySem.F.slot_list_eq ht PySem.F.entry_list_eq (dec_list_eq I.kIn hn hl hx ⟨_, rfl, rfl, h⟩) (PySem.F.args_list_eq_2 _ _))
theorem Fo.dne (f : Fo H y T) (I : Inv X pins σ H s) (r : RelV y v) {dx : Addr} {prog : Program} {w : World} (hx : s.heap.get? x = some (PySem.W.instObj C dx)) (hn : PySem.W.subIn X.K (.ref C) (.type T) = some false) (R : Option Value → Shared → Prop) (h : R none s) : wpAny (model prog w) A (tryCompare v "__ne__" (.ref x)) R E s := by
  have ht := f.type I r
  cases f with
  | int i => obtain ⟨t, rfl⟩ := r; exact wpAny_tryCompare_declines ht PySem.F.slot_int_ne (wpAny_call_entry PySem.F.slot_int_ne ht PySem.F.entry_int_ne (dec_int_ne hx ⟨_, rfl, rfl, h⟩) (PySem.F.args_int_ne_2 _ _))
  | str z => obtain ⟨t, rfl⟩ := r; exact wpAny_tryCompare_declines ht PySem.F.slot_str_ne (wpAny_call_entry PySem.F.slot_str_ne ht PySem.F.entry_str_ne (dec_str_ne hx ⟨_, rfl, rfl, h⟩) (PySem.F.args_str_ne_2 _ _))
  | non => cases r; exact wpAny_tryCompare_declines ht PySem.F.slot_NoneType_ne (wpAny_call_entry PySem.F.slot_NoneType_ne ht PySem.F.entry_NoneType_ne (dec_NoneType_ne hx ⟨_, rfl, rfl, h⟩) (PySem.F.args_NoneType_ne_2 _ _))
  | tup e => cases r; obtain ⟨_, _, _, _, hl⟩ := fo_tup I e; exact wpAny_tryCompare_declines ht PySem.F.slot_tuple_ne (wpAny_call_entry PySem.F.slot_tuple_ne ht PySem.F.entry_tuple_ne (dec_tuple_ne I.kIn hn hl hx ⟨_, rfl, rfl, h⟩) (PySem.F.args_tuple_ne_2 _ _))
  | lst e => cases r; obtain ⟨_, _, _, _, hl⟩ := fo_lst I e; exact wpAny_tryCompare_declines ht PySem.F.slot_list_ne (wpAny_call_entry PySem.F.slot_list_ne ht PySem.F.entry_list_ne (dec_list_ne I.kIn hn hl hx ⟨_, rfl, rfl, h⟩) (PySem.F.args_list_ne_2 _ _))
theorem fo_sub {K : PySem.W.Frag} (f : Fo H y T) : PySem.W.subIn K (.type T) (.ref C) = some false := by
  have go : ∀ {T : String} {l : List Value}, fastBuiltinMro T = some l → l.contains (.ref C) = false → PySem.W.subIn K (.type T) (.ref C) = some false := fun {T l} e h => by
    show (fastBuiltinMro T).map (·.contains (.ref C)) = some false
    rw [e]
    show some (l.contains (.ref C)) = some false
    rw [h]
  cases f with
  | int => exact go (l := [.type "int", .type "object"]) (by decide +kernel) (by simp)
  | str => exact go (l := [.type "str", .type "object"]) (by decide +kernel) (by simp)
  | non => exact go (l := [.type "NoneType", .type "object"]) (by decide +kernel) (by simp)
  | tup => exact go (l := [.type "tuple", .type "object"]) (by decide +kernel) (by simp)
  | lst => exact go (l := [.type "list", .type "object"]) (by decide +kernel) (by simp)
end
section
variable {X : Cx} {C : Addr} {f : Addr} {k : Nat} {ps : List Str} {sp : Sp} {op : CmpOp}
def rCmpO (C : Addr) (sp : Sp) : R2 := fun x y H Q => ∃ a dx fs b dy gs, x = .ref a ∧ H a = some (.ins C dx fs) ∧ y = .ref b ∧ H b = some (.ins C dy gs) ∧ sp [x, y] H Q EF
def rCmpF (C : Addr) (sp : Sp) : R2 := fun x y H Q => ∃ a dx fs T, x = .ref a ∧ H a = some (.ins C dx fs) ∧ Fo H y T ∧ sp [x, y] H Q EF
def rCmpR (C : Addr) (sp : Sp) : R2 := fun x y H Q => ∃ a dx fs T, y = .ref a ∧ H a = some (.ins C dx fs) ∧ Fo H x T ∧ sp [y, x] H Q EF
def kNot (Q : VK) : VK := fun v H => ∃ k, v = .bl k ∧ Q (.bl (!k)) H
def rNot (r : R2) : R2 := fun x y H Q => r x y H (kNot Q)
theorem ep_not {pins : List (Addr × Obj)} {σ : L2.St} {Q : VK} {u : Value} {s' : Shared} (h : EP X pins σ (kNot Q) u s') : ∃ k, u = .bool k ∧ EP X pins σ Q (.bool (!k)) s' := by
  obtain ⟨v, H', I, r, k, rfl, q⟩ := h
  cases (show u = Value.bool k from r)
  exact ⟨k, rfl, .bl (!k), H', I, rfl, q⟩
theorem op_cmpO (c : CmpF X.K C (cmpInfo op).2.1 f) (F : OkD X.prog X.w X.K X.mg X.base k f ps [] sp) (hr : Room k X.A) (ho : ∀ a b, compareOp op a b = richCompare op a b := by intros; rfl) : OpR X (compareOp op) (rCmpO C sp) := by
  intro pins s σ H x y u v Q I rx ry h
  obtain ⟨a, dx, fs, b, dy, gs, rfl, ea, rfl, eb, q⟩ := h
  cases rx; cases ry
  obtain ⟨hx, od, J⟩ := inst_at I ea
  obtain ⟨hy, oe, J2⟩ := inst_at I eb
  obtain ⟨m, Fm⟩ := I.fr
  rw [ho]
  exact PySem.W.cmp_K hr.units0 Fm I.mod.kin J J2.type (by unfold PySem.W.notFirst; simp) c.at_ c.fn (wpAny_mono (run_ok (vs := [.ref a, .ref b]) F hr I (.cons rfl (.cons rfl .nil)) q) (fun _ _ z => ep_cmp z) fun _ _ z => z)
theorem op_cmpF (c : CmpF X.K C (cmpInfo op).2.1 f) (F : OkD X.prog X.w X.K X.mg X.base k f ps [] sp) (hr : Room k X.A) (ho : ∀ a b, compareOp op a b = richCompare op a b := by intros; rfl) : OpR X (compareOp op) (rCmpF C sp) := by
  intro pins s σ H x y u v Q I rx ry h
  obtain ⟨a, dx, fs, T, rfl, ea, fo, q⟩ := h
  cases rx
  obtain ⟨hx, od, J⟩ := inst_at I ea
  rw [ho]
  exact cmp_fo hr.units0 I.kIn J (fo.type I ry) (fo_sub fo) c (wpAny_mono (run_ok (vs := [.ref a, y]) F hr I (.cons rfl (.cons ry .nil)) q) (fun _ _ z => ep_cmp z) fun _ _ z => z)
theorem op_cmpR (c : CmpF X.K C "__eq__" f) (hs : ∀ T ∈ ["int", "str", "NoneType", "tuple", "list"], PySem.W.subIn X.K (.ref C) (.type T) = some false) (F : OkD X.prog X.w X.K X.mg X.base k f ps [] sp) (hr : Room k X.A) : OpR X (compareOp .Eq) (rCmpR C sp) := by
  intro pins s σ H x y u v Q I rx ry h
  obtain ⟨a, dx, fs, T, rfl, ea, fo, q⟩ := h
  cases ry
  obtain ⟨hx, od, J⟩ := inst_at I ea
  have hT : PySem.W.subIn X.K (.ref C) (.type T) = some false := hs T (by cases fo <;> simp)
  exact fo_eq hr.units0 I.kIn J (fo.type I rx) hT c (fun R z => fo.deq I rx hx hT R z) (wpAny_mono (run_ok (vs := [.ref a, x]) F hr I (.cons rfl (.cons rx .nil)) q) (fun _ _ z => ep_cmp z) fun _ _ z => z)
theorem op_neO (n : NeF X.K C f) (F : OkD X.prog X.w X.K X.mg X.base k f ps [] sp) (hr : Room (k + 1) X.A) : OpR X (compareOp .NotEq) (rNot (rCmpO C sp)) := by
  intro pins s σ H x y u v Q I rx ry h
  obtain ⟨a, dx, fs, b, dy, gs, rfl, ea, rfl, eb, q⟩ := h
  cases rx; cases ry
  obtain ⟨hx, od, J⟩ := inst_at I ea
  obtain ⟨hy, oe, J2⟩ := inst_at I eb
  have := hr.units
  exact ne_own (by omega) I.kIn J J2 n (wpAny_mono (run_ok1 (vs := [.ref a, .ref b]) F hr.in1 rfl I (.cons rfl (.cons rfl .nil)) q) (fun _ _ z => ep_not z) fun _ _ z => z)
theorem op_neF (n : NeF X.K C f) (F : OkD X.prog X.w X.K X.mg X.base k f ps [] sp) (hr : Room (k + 1) X.A) : OpR X (compareOp .NotEq) (rNot (rCmpF C sp)) := by
  intro pins s σ H x y u v Q I rx ry h
  obtain ⟨a, dx, fs, T, rfl, ea, fo, q⟩ := h
  cases rx
  obtain ⟨hx, od, J⟩ := inst_at I ea
  have := hr.units
  exact ne_fo (by omega) I.kIn J (fo.type I ry) (fo_sub fo) n (wpAny_mono (run_ok1 (vs := [.ref a, y]) F hr.in1 rfl I (.cons rfl (.cons ry .nil)) q) (fun _ _ z => ep_not z) fun _ _ z => z)
theorem op_neR (n : NeF X.K C f) (hs : ∀ T ∈ ["int", "str", "NoneType", "tuple", "list"], PySem.W.subIn X.K (.ref C) (.type T) = some false) (F : OkD X.prog X.w X.K X.mg X.base k f ps [] sp) (hr : Room (k + 1) X.A) : OpR X (compareOp .NotEq) (rNot (rCmpR C sp)) := by
  intro pins s σ H x y u v Q I rx ry h
  obtain ⟨a, dx, fs, T, rfl, ea, fo, q⟩ := h
  cases ry
  obtain ⟨hx, od, J⟩ := inst_at I ea
  have := hr.units
  have hT : PySem.W.subIn X.K (.ref C) (.type T) = some false := hs T (by cases fo <;> simp)
  exact fo_ne (by omega) I.kIn J (fo.type I rx) hT n (fun R z => fo.dne I rx hx hT R z) (wpAny_mono (run_ok1 (vs := [.ref a, x]) F hr.in1 rfl I (.cons rfl (.cons rx .nil)) q) (fun _ _ z => ep_not z) fun _ _ z => z)
end
section
variable {H : Hp} {Q : VK} {C p q : Addr} {sp : Sp} {fs gs : List (Str × V)} {y : V} {T : String} {b : Bool}
theorem i_cmpO (hp : IsI C H p fs) (hq : IsI C H q gs) (h : sp [.ref p, .ref q] H Q EF) : rCmpO C sp (.ref p) (.ref q) H Q := by
  obtain ⟨dx, hp⟩ := hp; obtain ⟨dy, hq⟩ := hq
  exact ⟨p, dx, fs, q, dy, gs, rfl, hp, rfl, hq, h⟩
theorem i_cmpF (hp : IsI C H p fs) (fo : Fo H y T) (h : sp [.ref p, y] H Q EF) : rCmpF C sp (.ref p) y H Q := by
  obtain ⟨dx, hp⟩ := hp
  exact ⟨p, dx, fs, T, rfl, hp, fo, h⟩
theorem i_cmpR (hp : IsI C H p fs) (fo : Fo H y T) (h : sp [.ref p, y] H Q EF) : rCmpR C sp y (.ref p) H Q := by
  obtain ⟨dx, hp⟩ := hp
  exact ⟨p, dx, fs, T, rfl, hp, fo, h⟩
theorem i_not2 {r : R2} {x y : V} (h : r x y H (kNot Q)) : rNot r x y H Q := h
theorem i_kNot (h : Q (.bl (!b)) H) : kNot Q (.bl b) H := ⟨b, rfl, h⟩
end
def cmpB (K : PySem.W.Frag) (C : Addr) (nm : Str) (f : Addr) : Bool := He.eqO (PySem.W.findIn K (.ref C) nm) (some (some (.ref f))) && PySem.W.isFn K (.ref f)
theorem cmpB_ok {K : PySem.W.Frag} {C : Addr} {nm : Str} {f : Addr} (h : cmpB K C nm f = true) : CmpF K C nm f := by
  obtain ⟨h1, h2⟩ := He.ba h
  exact ⟨He.eqO_ok h1, h2⟩
def neB (K : PySem.W.Frag) (C f : Addr) : Bool := cmpB K C "__eq__" f && (He.eqO (PySem.W.findIn K (.ref C) "__ne__") (some (some (.builtin "object.__ne__"))) && decide (PySem.W.mroIn K C (.type "object") = some true))
theorem neB_ok {K : PySem.W.Frag} {C f : Addr} (h : neB K C f = true) : NeF K C f := by
  obtain ⟨h1, h⟩ := He.ba h
  obtain ⟨h2, h3⟩ := He.ba h
  exact ⟨cmpB_ok h1, He.eqO_ok h2, of_decide_eq_true h3⟩
def subsB (K : PySem.W.Frag) (C : Addr) : Bool := ["int", "str", "NoneType", "tuple", "list"].all fun T => decide (PySem.W.subIn K (.ref C) (.type T) = some false)
theorem subsB_ok {K : PySem.W.Frag} {C : Addr} (h : subsB K C = true) : ∀ T ∈ ["int", "str", "NoneType", "tuple", "list"], PySem.W.subIn K (.ref C) (.type T) = some false := fun T m => of_decide_eq_true (List.all_eq_true.mp h T m)
end Z
namespace Z
open PySem PySem.Spec L2
open PyProof.Rows hiding St
theorem ext_app {H0 H H2 : Hp} {l : Addr} (z : H0 l = none) (s : Ext H0 H) (w : ∀ b, b ≠ l → H2 b = H b) : Ext H0 H2 := fun b o st e => by
  rw [w b (ne_of_none e z)]; exact s b o st e
theorem src_app {H0 H H2 : Hp} {l a p : Addr} {xs : List V} (z : H0 l = none) (h0 : IsSrc H0 a) (w : ∀ b, b ≠ l → H2 b = H b) (hl : H l = some (.lst (V.ref p :: xs))) (h : IsSrc H a) : IsSrc H2 a := by
  obtain ⟨i, x, y, zz, c, ns, h1, h2, h3⟩ := h
  obtain ⟨_, _, _, _, _, _, q, _⟩ := h0
  refine ⟨i, x, y, zz, c, ns, by rw [w a (ne_of_none q z)]; exact h1, ?_, h3⟩
  rw [w c (fun e => ?_)]
  · exact h2
  · rw [e, hl] at h2
    cases ns with
    | nil => cases h2
    | cons n ns => cases h2
theorem Items.inv {α : Type} {F : Hp → Addr → α → Prop} {H : Hp} : ∀ {ps : List Addr} {xs : List α} {i : Nat} {y : V}, Items F H ps xs → (ps.map V.ref)[i]? = some y → ∃ p x, y = V.ref p ∧ xs[i]? = some x ∧ F H p x
  | _, _, 0, _, .cons h _, e => by cases e; exact ⟨_, _, rfl, rfl, h⟩
  | _, _, i + 1, _, .cons _ r, e => by
    rw [List.map_cons, List.getElem?_cons_succ] at e
    obtain ⟨p, x, e1, e2, e3⟩ := r.inv e
    exact ⟨p, x, e1, by rw [List.getElem?_cons_succ]; exact e2, e3⟩
theorem Items.snoc {α : Type} {F : Hp → Addr → α → Prop} {H : Hp} : ∀ {ps : List Addr} {xs : List α} {p : Addr} {x : α}, Items F H ps xs → F H p x → Items F H (ps ++ [p]) (xs ++ [x])
  | _, _, _, _, .nil, h => .cons h .nil
  | _, _, _, _, .cons a r, h => .cons a (r.snoc h)
theorem LO.push {α : Type} {F : Hp → Addr → α → Prop} {H : Hp} {D p : Addr} {ps : List Addr} {xs : List α} {x : α} (it : Items F H ps xs) (np : F H p x) (k : ∀ q y, F H q y → F (upd H D (.lst (ps.map V.ref ++ [V.ref p]))) q y) : LO F (upd H D (.lst (ps.map V.ref ++ [V.ref p]))) D (xs ++ [x]) :=
  ⟨ps ++ [p], by rw [upd_same, List.map_append]; rfl, (it.snoc np).map k⟩
theorem lo_size {α β : Type} {F : Hp → Addr → β → Prop} {H : Hp} {ps : List Addr} {xs : List α} {q : Nat} {fn : α → β} (it : Items F H ps ((xs.take q).map fn)) (h : xs.length ≤ 1000) : (ps.map V.ref).length < sizeLine := by
  rw [List.length_map, it.len, List.length_map, List.length_take]
  exact Nat.lt_of_le_of_lt (Nat.le_trans (Nat.min_le_right _ _) h) (by decide)
end Z

namespace Z
open PySem PySem.Spec L2
open PyProof.Rows hiding St
section
variable {X : Cx} {k : Nat} {f C : Addr} {ps : List Str} {dvs : List V} {sp : Sp} {x : Str} {p pos : Pos} {e : Expr} {es : List Expr} {t : TA}
/-- a call within a comprehension -/
theorem pcDc (F : OkD X.prog X.w X.K X.mg X.base k f ps dvs sp) (hr : Room k X.A) (hm : X.mg x = some (.ref f)) (ha : PA X (e :: es) t) (hg : Gl X x := by rfl) (hd : (x == ("__debug__" : Str)) = false := by decide)
    (he : starEach (e :: es) X.env = (false, eval e X.env) :: starEach es X.env := by rfl) (hpl : (backTo pos (starEach es X.env)).any (·.1) = false := by rfl) : PE X (.Call (.Name x p) (e :: es) [] pos) (tCall sp dvs EF t) := by
  obtain ⟨fd, ds, kp, b, vd, F⟩ := F
  exact pe_call F hr hg hm kp b vd (fun _ _ _ _ _ _ _ q => (cxF q).elim) ha hd he hpl
end
end Z

namespace Z
open PySem PySem.Spec L2
open PyProof.Rows hiding St
/-- a def that may be called so (one of several promises) -/
def CallOk (X : Cx) (f : Addr) (sp : Sp) : Prop := ∀ (pins : List (Addr × Obj)) (σ : L2.St) (H : Hp) (s : Shared) (Q : VK) (us : List Value) (vs : List V), Inv X pins σ H s → Vals vs us → sp vs H Q EF → wpAny (model X.prog X.w) X.A (call (.ref f) us) (EP X pins σ Q) X.xe s
section
variable {X : Cx} {k : Nat} {f C : Addr} {ps : List Str} {dvs : List V} {sp sp' : Sp} {x : Str} {p pos : Pos} {e : Expr} {es : List Expr} {t : TA} {G : List Str}
theorem OkD.co (F : OkD X.prog X.w X.K X.mg X.base k f ps [] sp) (hr : Room k X.A) : CallOk X f sp := fun pins σ H s Q us vs I r h => run_ok F hr I r (by rw [List.append_nil]; exact h)
theorem OkD.kp {P : Program} {w : World} {K : PySem.W.Frag} {mg : Str → Option Value} {base : Heap} (F : OkD P w K mg base k f ps dvs sp) : PySem.W.keepIn K (.ref f) = true := by
  obtain ⟨fd, ds, kp, _⟩ := F
  exact kp
theorem CallOk.or (a : CallOk X f sp) (b : CallOk X f sp') : CallOk X f (fun vs H Q E => sp vs H Q E ∨ sp' vs H Q E) := fun pins σ H s Q us vs I r h => h.elim (a pins σ H s Q us vs I r) (b pins σ H s Q us vs I r)
theorem pcDx (F : CallOk X f sp) (kp : PySem.W.keepIn X.K (.ref f) = true) (hg : glB G X.env.scope = true) (n : Nat) (hm : X.mg x = some (.ref f)) (ha : PA X (e :: es) t) (hx : G[n]? = some x := by rfl)
    (he : starEach (e :: es) X.env = (false, eval e X.env) :: starEach es X.env := by rfl) (hpl : (backTo pos (starEach es X.env)).any (·.1) = false := by rfl) : PE X (.Call (.Name x p) (e :: es) [] pos) (tCall sp [] EF t) := by
  refine ⟨fun pins s σ H Q I h => ?_⟩
  refine wpAny_Call_Name_kw (ld_glob I (gl_of hg hx).1 hm ?_ (gl_of hg hx).2.1)
  refine PySem.W.callWith_K (h₀ := X.base) I.ok.mod.kin kp (thn (ha.run pos pins s σ H _ I h) fun us s1 ⟨vs, H1, I1, r, q⟩ => ⟨I1.kIn, ?_⟩) he hpl
  have q2 : sp (vs ++ []) H1 Q EF := q
  rw [List.append_nil] at q2
  exact F pins σ H1 s1 Q us vs I1 r q2
end
end Z

/-! ### properties, methods; the head with getters -/
namespace Z
open PySem PySem.W PySem.Spec L2
open PyProof.Rows hiding St
/-- the getter of a property of a class of the top -/
def prA (K : PySem.W.Frag) (C f : Str) : Addr := match PySem.W.recIn K (He.ma K (He.ga K C) f) "property" with
  | some (.ref g :: _) => g
  | _ => 0
def fnA (K : PySem.W.Frag) (a : Addr) : He.FnW := match K.lookup a with
  | some ⟨_, _, .func fd, _⟩ => some (fd.name, fd.qualname, fd.params, fd.body, fd.scope, fd.globals, fd.closure, fd.builtins)
  | _ => none
structure DefG where
  C : Str
  f : Str
  qual : Str
  params : Arguments
  body : List Stmt
  scope : Scope
def DefG.val (d : DefG) : He.FnW := some (d.f, d.qual, d.params, .stmts d.body, d.scope, mainGlobals, [], builtinsNs)
def DefG.ad (K : PySem.W.Frag) (d : DefG) : Addr := prA K d.C d.f
def DefG.ok (K : PySem.W.Frag) (d : DefG) : Bool := PySem.W.keepIn K (.ref (d.ad K)) && (match K.lookup (d.ad K) with
  | some ⟨_, _, .func fd, _⟩ => PySem.W.codeIn K fd.code d.qual && (He.dflB K fd.defaults [] && He.kwdB K fd.kwdefaults [])
  | _ => false)
theorem DefG.funD {K : PySem.W.Frag} {d : DefG} (e : fnA K (d.ad K) = d.val) (c : d.ok K = true) : ∃ fd, FunD K d.f d.qual d.params d.body d.scope [] [] (d.ad K) fd := by
  obtain ⟨kp, c2⟩ := He.ba c
  unfold fnA at e
  cases q : K.lookup (d.ad K) with
  | none =>
    rw [q] at c2
    cases c2
  | some o =>
    obtain ⟨oc, od, dt, osl⟩ := o
    rw [q] at c2 e
    cases dt with
    | func fd =>
      obtain ⟨n1, n2, n3, n4, n5, n6, n7, n8, n9, n10, n11, n12, n13, n14, n15⟩ := fd
      have e2 : (some (n1, n2, n3, n4, n5, n6, n7, n15) : He.FnW) = some (d.f, d.qual, d.params, .stmts d.body, d.scope, mainGlobals, [], builtinsNs) := e
      simp only [Option.some.injEq, Prod.mk.injEq] at e2
      obtain ⟨h1, h2, h3, h4, h5, h6, h7, h8⟩ := e2
      subst h1 h2 h3 h4 h5 h6 h7 h8
      have c3 : (PySem.W.codeIn K n13 d.qual && (He.dflB K n8 [] && He.kwdB K n9 [])) = true := c2
      obtain ⟨k1, k2⟩ := He.ba c3
      obtain ⟨k3, k4⟩ := He.ba k2
      exact ⟨_, ⟨oc, od, n8, n9, n10, n11, n12, n13, n14, osl, rfl, q, k1, He.dflB_ok k3, He.kwdB_ok k4⟩, kp⟩
    | _ => cases c2
abbrev AlY : Type := He.AlX × (Bool × List He.FnW)
def obsY (n : Nat) (fa : List He.Fa) (fn : List He.DefD) (ts : List He.Tab) (ex : PySem.W.Frag → Bool) (gs : List DefG) (g : Addr → Option Obj) : AlY :=
  (He.obsX n fa fn ts [] ex g, (gs.all fun d => d.ok (He.frT g (He.asD g n)), gs.map fun d => fnA (He.frT g (He.asD g n)) (d.ad (He.frT g (He.asD g n)))))
def valY (fn : List He.DefD) (ts : List He.Tab) (gs : List DefG) (w : World) : AlY := (He.valX fn ts w, (true, gs.map DefG.val))
def SaysG (gs : List DefG) (K : PySem.W.Frag) : Prop := ∀ (i : Nat) (d : DefG), gs[i]? = some d → ∃ fd, FunD K d.f d.qual d.params d.body d.scope [] [] (d.ad K) fd
theorem saysG_of {gs : List DefG} {K : PySem.W.Frag} (c : (gs.all fun d => d.ok K) = true) (e : (gs.map fun d => fnA K (d.ad K)) = gs.map DefG.val) : SaysG gs K := fun i d h => by
  have e2 : (gs.map fun d => fnA K (d.ad K))[i]? = (gs.map DefG.val)[i]? := by rw [e]
  rw [List.getElem?_map, List.getElem?_map, h] at e2
  exact DefG.funD (Option.some.inj e2) (List.all_eq_true.mp c d (List.mem_of_getElem? h))
def hookY (n : Nat) (fa : List He.Fa) (fn : List He.DefD) (ts : List He.Tab) (ex : PySem.W.Frag → Bool) (gs : List DefG) : PySem.W.Hook where
  α := AlY
  obs := fun s => obsY n fa fn ts ex gs s.heap.get?
  val := fun w => valY fn ts gs w
  says := fun w h => ∃ K : PySem.W.Frag, K.In h ∧ He.SaysX fa fn ts [] ex w h K ∧ SaysG gs K
  of := fun _ _ e => ⟨_, He.frT_in, He.saysX_of (congrArg (fun z : AlY => z.1) e), saysG_of (congrArg (fun z : AlY => z.2.1) e) (congrArg (fun z : AlY => z.2.2) e)⟩
  keeps := fun _ _ _ ⟨K, hK, c, d⟩ k => ⟨K, PySem.W.Frag.In.keeps hK k, ⟨c.t, c.more, c.hd, c.out, fun p hp => k _ _ (c.empty p hp)⟩, d⟩
theorem obsY_eq {n : Nat} {fa : List He.Fa} {fn : List He.DefD} {ts : List He.Tab} {ex : PySem.W.Frag → Bool} {gs : List DefG} {g : Addr → Option Obj} {s : Shared} (h : ∀ a, g a = s.heap.get? a) : obsY n fa fn ts ex gs g = (hookY n fa fn ts ex gs).obs s := by
  have e : g = s.heap.get? := funext h
  rw [e] <;> rfl
/-- properties -/
def propB (K : PySem.W.Frag) (C f : Str) : Bool := He.eqO (PySem.W.findIn K (.ref (He.ga K C)) f) (some (some (.ref (He.ma K (He.ga K C) f)))) && (He.eqO (PySem.W.specialIn K (.ref (He.ma K (He.ga K C) f)) "__get__") (some (some (.builtin "property.__get__"))) &&
  (decide (PySem.W.takesIn K (.ref (He.ma K (He.ga K C) f)) = some true) && (match PySem.W.recIn K (He.ma K (He.ga K C) f) "property" with
    | some (.ref _ :: _) => true
    | _ => false)))
theorem propB_ok {K : PySem.W.Frag} {C f : Str} (h : propB K C f = true) : PropOf K (He.ga K C) f (He.ma K (He.ga K C) f) (prA K C f) := by
  obtain ⟨h1, h⟩ := He.ba h
  obtain ⟨h2, h⟩ := He.ba h
  obtain ⟨h3, h4⟩ := He.ba h
  refine ⟨He.eqO_ok h1, He.eqO_ok h2, of_decide_eq_true h3, ?_⟩
  unfold prA
  cases e : PySem.W.recIn K (He.ma K (He.ga K C) f) "property" with
  | none => rw [e] at h4; cases h4
  | some l =>
    rw [e] at h4
    cases l with
    | nil => cases h4
    | cons v r =>
      cases v with
      | ref g => exact ⟨r, rfl⟩
      | _ => cases h4
section
variable {X : Cx} {k : Nat} {C p g f : Addr} {m : Str} {ps : List Str} {dvs : List V} {sp : Sp} {e o : Expr} {es : List Expr} {pos apos : Pos} {te ta : TE} {t : TA} {σ : L2.St} {H : Hp} {Q : VK} {fs : List (Str × V)} {a : Addr}
theorem pcP (he : PE X e te) (c : Cls X.K C) (hp : PropOf X.K C m p g) (F : OkD X.prog X.w X.K X.mg X.base k g ps [] sp) (hr : Room (k + 1) X.A) (hab : attributeBase e m X.env (eval e X.env) = eval e X.env := by rfl) : PE X (.Attribute e m pos) (tProp C sp [] EF te) := by
  obtain ⟨fd, ds, kp, b, vd, F⟩ := F
  exact pe_prop he c hp F hr b vd (fun _ _ _ _ _ _ _ q => (cxF q).elim) hab
def kProp (C : Addr) (sp : Sp) (Q : VK) : VK := fun x H1 => ∃ a dx fs, x = .ref a ∧ H1 a = some (.ins C dx fs) ∧ sp (.ref a :: []) H1 Q EF
theorem i_prop (h : te σ H (kProp C sp Q)) : tProp C sp [] EF te σ H Q := h
theorem i_propI (e : IsI C H a fs) (h : sp [.ref a] H Q EF) : kProp C sp Q (.ref a) H := by
  obtain ⟨dx, e⟩ := e
  exact ⟨a, dx, fs, rfl, e, h⟩
theorem pcMe {pl : Sem Bool} (he : PE X o ta) (c : Cls X.K C) (hm : Meth X.K C m f) (F : OkD X.prog X.w X.K X.mg X.base k f ps dvs sp) (hr : Room k X.A) (ha : PA X (e :: es) t)
    (hst : starEach (e :: es) X.env = (false, eval e X.env) :: starEach es X.env := by rfl) (hpl : (backTo pos (starEach es X.env)).any (·.1) = false := by rfl)
    (ht : eval (.Call (.Attribute o m apos) (e :: es) [] pos) X.env = (do
      let ov ← eval o X.env
      standAt apos.atName
      let (f, first) ← holding [ov] (getMethod ov m pl)
      callWith pos f first (backTo pos (starEach (e :: es) X.env)) (backToKw pos (keywordEach [] X.env))) := by rfl) :
    PE X (.Call (.Attribute o m apos) (e :: es) [] pos) (tMeth C m sp dvs EF ta t) := by
  obtain ⟨fd, ds, kp, b, vd, F⟩ := F
  exact pe_meth he c hm F hr b vd (fun _ _ _ _ _ _ _ q => (cxF q).elim) ha hst hpl ht
def kMeth (C : Addr) (m : Str) (sp : Sp) (dvs : List V) (t : TA) (σ : L2.St) (Q : VK) : VK := fun x H1 => ∃ a dx fs, x = .ref a ∧ H1 a = some (.ins C dx fs) ∧ fs.lookup m = none ∧ t σ H1 fun vs H2 => sp (x :: (vs ++ dvs)) H2 Q EF
theorem i_meth (h : ta σ H (kMeth C m sp dvs t σ Q)) : tMeth C m sp dvs EF ta t σ H Q := h
theorem i_methI (e : IsI C H a fs) (l : fs.lookup m = none) (h : t σ H fun vs H2 => sp (.ref a :: (vs ++ dvs)) H2 Q EF) : kMeth C m sp dvs t σ Q (.ref a) H := by
  obtain ⟨dx, e⟩ := e
  exact ⟨a, dx, fs, rfl, e, l, h⟩
end
end Z

namespace Z
open PySem PySem.W PySem.Spec L2
open ClX
open PyProof.Rows hiding St
/-- constants of a class, read through the class -/
def cvalB (K : PySem.W.Frag) (C : Addr) (f : Str) (i : Int) : Bool := PySem.W.readsIn K C (.type "type") && (He.eqO (PySem.W.specialIn K (.ref C) "__getattribute__") (some (some (.builtin "type.__getattribute__"))) && (match PySem.W.findCls K (.ref C) (.type "type") f with
  | some (.val (.int j _)) => decide (j = i)
  | _ => false))
theorem cvalB_ok {K : PySem.W.Frag} {C : Addr} {f : Str} {i : Int} (h : cvalB K C f i = true) : ∃ mc u, CRead K C mc ∧ CVal K C mc f (.int i) u := by
  obtain ⟨h1, h⟩ := He.ba h
  obtain ⟨h2, h3⟩ := He.ba h
  refine ⟨.type "type", ?_⟩
  revert h3
  cases e : PySem.W.findCls K (.ref C) (.type "type") f with
  | none => intro h3; cases h3
  | some r =>
    cases r with
    | val v =>
      cases v with
      | int j t => intro h3; exact ⟨.int j t, ⟨h1, He.eqO_ok h2⟩, ⟨e, t, by rw [of_decide_eq_true h3]⟩⟩
      | _ => intro h3; cases h3
    | _ => intro h3; cases h3
section
variable {K : PySem.W.Frag} {te : TE} {σ : L2.St} {H : Hp} {Q : VK} {f : Str} {C : Addr} {v : V}
def kCVal (K : PySem.W.Frag) (f : Str) (Q : VK) : VK := fun x H1 => ∃ C mc v u, x = .ref C ∧ CRead K C mc ∧ CVal K C mc f v u ∧ Q v H1
theorem i_cval (h : te σ H (kCVal K f Q)) : tCVal K te f σ H Q := h
theorem i_cvalI (c : ∃ mc u, CRead K C mc ∧ CVal K C mc f v u) (h : Q v H) : kCVal K f Q (.ref C) H := by
  obtain ⟨mc, u, c1, c2⟩ := c
  exact ⟨C, mc, v, u, rfl, c1, c2, h⟩
end
theorem OkD.kw0 {P : Program} {w : World} {K : PySem.W.Frag} {mg : Str → Option Value} {base : Heap} {k : Nat} {f : Addr} {ps : List Str} {sp : Sp} {x qual : Str} {params : Arguments} {body : List Stmt} {scope : Scope} {kws : List (Str × V)} {fd : FuncData}
    (F : FunD K x qual params body scope [] kws f fd) (n : Nat) (hk : kws ≠ []) (hn : n + kws.length = ps.length)
    (h : ∀ (D : Addr) (doc pm : Value) (an : Option Addr) (cdv ct : Value) (us ks : List Value), us.length = n → ks.length = kws.length →
      KwChain D ((kws.map (·.1)).zip ks) (bindArgs (PySem.W.fnOf x qual params body scope .none (.ref D) doc pm an cdv ct) ⟨us, []⟩) (ps.zip (us ++ ks))) (R : FnOk P w K mg base (L2N.CX P w) k f fd ps sp) : OkD P w K mg base k f ps (kws.map (·.2)) sp := by
  obtain ⟨ds, vd, b⟩ := F.binds0 n hk hn h
  exact ⟨fd, ds, F.kp, b, vd, R⟩
/-- a test that is never met -/
theorem pt_never {X : Cx} {e : Expr} : PT X e (fun _ _ _ => False) := ⟨fun _ _ _ _ _ _ h => h.elim⟩
end Z

namespace Z
open PySem PySem.W PySem.Spec L2
open PyProof.Rows hiding St
section
variable {X : Cx} {k n : Nat} {f C : Addr} {ps ks : List Str} {sp : Sp} {E : XK} {x : Str} {p pos : Pos} {e : Expr} {es : List Expr} {kws : List Keyword} {t tk : TA} {gV : List V → List V → List V} {G : List Str} {σ : L2.St} {H : Hp} {Q : VK} {vs zs : List V} {m : Nat}
/-- C(e, .., k = v, ..) -/
theorem pcMK (M : Mk X.K C f) (F : ∃ (fd : FuncData) (gg : List Value → List Value → List Value), KBn X.K fd ps (n + 1) ks gg gV ∧ FnOk X.prog X.w X.K X.mg X.base (L2N.CX X.prog X.w) k f fd ps sp) (hr : Room (k + 1) X.A) (hg : glB G X.env.scope = true) (i : Nat) (hm : X.mg x = some (.ref C))
    (ha : PA X (e :: es) t) (hkw : PK X kws tk) (hx : G[i]? = some x := by rfl) (hall : (backToKw pos (keywordEach kws X.env)).all (·.1.isSome) = true := by rfl) (hks : (backToKw pos (keywordEach kws X.env)).filterMap (·.1) = ks := by rfl)
    (he : starEach (e :: es) X.env = (false, eval e X.env) :: starEach es X.env := by rfl) (hpl : ((backTo pos (starEach (e :: es) X.env)).any (·.1) || (backToKw pos (keywordEach kws X.env)).any (·.1.isNone)) = false := by rfl) :
    PE X (.Call (.Name x p) (e :: es) kws pos) (tMakeK C n ks.length sp gV EF t tk) := by
  obtain ⟨fd, gg, kb, F⟩ := F
  exact pe_makeK M F hr (gl_of hg hx).1 hm kb (fun _ _ _ _ _ _ _ q => (cxF q).elim) ha hkw hall hks (gl_of hg hx).2.1 he hpl
def kMK (C : Addr) (n m : Nat) (sp : Sp) (gV : List V → List V → List V) (E : XK) (Q : VK) (vs : List V) : List V → Hp → Prop := fun zs H2 => vs.length = n ∧ zs.length = m ∧ ∀ x dx, H2 x = none → H2 dx = none → dx ≠ x →
  sp (gV (.ref x :: vs) zs) (upd (upd H2 dx (.own x)) x (.ins C dx [])) (fun v H3 => v = .non ∧ Q (.ref x) H3) E
theorem i_makeK (h : t σ H fun vs H1 => tk σ H1 (kMK C n m sp gV E Q vs)) : tMakeK C n m sp gV E t tk σ H Q := h
theorem i_madeK (l1 : vs.length = n) (l2 : zs.length = m) (h : ∀ x H2, (∀ H3, Keep x H2 H3 → Same H H3) → IsI C H2 x [] → sp (gV (.ref x :: vs) zs) H2 (fun v H3 => v = .non ∧ Q (.ref x) H3) E) : kMK C n m sp gV E Q vs zs H :=
  ⟨l1, l2, fun x dx h1 h2 h3 => h x _ (fun H3 k b o e => k b o (ne_of_none e h1) (by rw [upd_ne (ne_of_none e h1), upd_ne (ne_of_none e h2)]; exact e)) ⟨dx, upd_same⟩⟩
end
end Z

/-! ### own exceptions whose __init__ says super().__init__(text), then stores its parameters -/
namespace Z
open PySem PySem.W PySem.Spec L2 PySem.Calls
open PyProof.Rows hiding St
/-- the stores behind: (field, parameter) -/
def asgOf (slf : Str) : List Stmt → Option (List (Str × Str))
  | [] => some []
  | .Assign [.Attribute (.Name s _) f _] (.Name v _) _ :: r => if s = slf then (asgOf slf r).map ((f, v) :: ·) else none
  | _ => none
/-- an exception object with its dict -/
abbrev excW (C t : Addr) (dx : Option Addr) : Obj := { cls := .ref C, dict := dx, data := .fields #[.ref t, .none, .none, .none, .bool false, .none] }
section
variable {P : Program} {w : World} {A : Around} {E : Value → Shared → Prop} {K : PySem.W.Frag} {C e : Addr} {f : Str} {u : Value} {hp : Heap} {g : Array GenState} {d : Drawn} {t : Nat} {os : OsState} {Q : Unit → Shared → Prop}
theorem xset_new {t1 : Addr} (T : OexC K C) (X : K.In hp) (ho : hp.get? e = some (excW C t1 none)) (hno : PySem.W.findIn K (.ref C) f = some none)
    (h : ∀ h' tk dx, (∀ b o, b ≠ e → hp.get? b = some o → h'.get? b = some o) → hp.objs.size ≤ dx → dx ≠ e → h'.get? e = some (excW C t1 (some dx)) → h'.Ns1 dx (fun y => if y = f then some u else none) → Q () ⟨h', g, d, tk, os⟩) :
    wpAny (model P w) A (setAttr (.ref e) f u) Q E ⟨hp, g, d, t, os⟩ := by
  obtain ⟨nm, q, N, bs, bm, sn, sub, ab, col, dd, k0, k1, k2, k3, k5, hC, hbm⟩ := T.cls
  have hcl : PySem.W.clsIn K C = some { name := nm, bases := bs, mro := .ref C :: bm, ns := N, qualname := q, hasDict := true, slotNames := sn, subclasses := sub, abstract := ab, collection := col, hasDel := false } := by unfold PySem.W.clsIn; rw [hC] <;> rfl
  refine PySem.W.set_plain X (ox := excW C t1 none) (od := none) ⟨ho, rfl, rfl, trivial⟩ T.sa ?_
  exact PySem.HandSPX.exc_osa X ho hcl (show PySem.HandSPX.refsVE (.ref C :: bm) = true from hbm) rfl hno fun h' tk dx k dn dne hx hn => h h' tk dx k dn dne hx hn
theorem xset_old {t1 dx : Addr} {m0 : Str → Option Value} {nl : List Str} (T : OexC K C) (X : K.In hp) (ho : hp.get? e = some (excW C t1 (some dx))) (hns : hp.Ns1 dx m0) (hw : Within m0 nl) (hl : nl.length ≤ 900) (hno : PySem.W.findIn K (.ref C) f = some none)
    (h : ∀ h' tk, (∀ b o, b ≠ dx → hp.get? b = some o → h'.get? b = some o) → h'.Ns1 dx (fun y => if y = f then some u else m0 y) → Q () ⟨h', g, d, tk, os⟩) :
    wpAny (model P w) A (setAttr (.ref e) f u) Q E ⟨hp, g, d, t, os⟩ := by
  obtain ⟨nm, q, N, bs, bm, sn, sub, ab, col, dd, k0, k1, k2, k3, k5, hC, hbm⟩ := T.cls
  have hcl : PySem.W.clsIn K C = some { name := nm, bases := bs, mro := .ref C :: bm, ns := N, qualname := q, hasDict := true, slotNames := sn, subclasses := sub, abstract := ab, collection := col, hasDel := false } := by unfold PySem.W.clsIn; rw [hC] <;> rfl
  obtain ⟨oD, _, _, hoD, _, _⟩ := hns.count hw
  refine PySem.W.set_plain X (ox := excW C t1 (some dx)) (od := some oD) ⟨ho, rfl, rfl, hoD⟩ T.sa ?_
  exact PySem.OEX.osa_old X ho hns hw (by omega) hcl (show PySem.HandSPX.refsVE (.ref C :: bm) = true from hbm) rfl hno fun h' tk k hn => h h' tk k hn
end
/-- the class C of the written part: its __init__ (at fI) says super().__init__(a text), then stores -/
structure SupT (P : Program) (K : PySem.W.Frag) (C fI : Addr) (qual : Str) (params : Arguments) (body : List Stmt) (scope : Scope) (slf : Str) (fs : List (Str × Str)) : Prop where
  oex : OexC K C
  ini : PySem.W.findIn K (.ref C) "__init__" = some (some (.ref fI))
  tfn : PySem.W.typeIn K (.ref fI) = some (.type "function")
  fn : ∃ oc od osl kV doc pm an cda ct cc ccl cdd ccs vs file tf cl cld csl, K.lookup fI = some ⟨oc, od, .func (PySem.W.ksFn "__init__" qual params body scope .none kV doc pm an (.ref cda) ct cc), osl⟩ ∧ PySem.W.codeIn K (.ref cda) qual = true ∧
    K.lookup cda = some ⟨ccl, cdd, .fields vs, ccs⟩ ∧ vs[2]? = some (.str file tf) ∧ ((P.main.file : Str) == file) = true ∧ K.lookup cc = some ⟨cl, cld, .cell (some (.ref C)), csl⟩
  mro : PySem.W.mroIn K C (.ref C) = some true
  sup : PySem.W.ks_superIn K C C "__init__" = some (some (.builtin "ValueError.__init__"))
  ve : PySem.W.subIn K (.ref C) (.type "ValueError") = some true
  nsup : PySem.W.nsIn K mainGlobals "super" = some none
  nany : PySem.W.nsIn K cStatics "thirdparty.any" = some none
  top : (P.main.scope.names.lookup ("super" : Str)).isSome = false
  nof : ∀ q ∈ fs, PySem.W.findIn K (.ref C) q.1 = some none
/-- its text -/
structure SupS (params : Arguments) (body : List Stmt) (scope : Scope) (slf : Str) (fs : List (Str × Str)) : Prop where
  shape : ∃ p0 p1 p2 p3 p4 p5 x j asg, body = .Expr (.Call (.Attribute (.Call (.Name "super" p0) [] [] p1) "__init__" p2) [.Constant (.str x) j p5] [] p3) p4 :: asg ∧ asgOf slf asg = some fs ∧
    (∀ env : Env, ∃ pl : Sem Bool, eval (.Call (.Attribute (.Call (.Name "super" p0) [] [] p1) "__init__" p2) [.Constant (.str x) j p5] [] p3) env = (do
      let ov ← attributeBase (.Call (.Name "super" p0) [] [] p1) "__init__" env (eval (.Call (.Name "super" p0) [] [] p1) env)
      standAt p2.atName
      let (f, first) ← holding [ov] (getMethod ov "__init__" pl)
      callWith p3 f first (backTo p3 (starEach [.Constant (.str x) j p5] env)) [])) ∧
    ∀ env : Env, swapsWith (.Call (.Attribute (.Call (.Name "super" p0) [] [] p1) "__init__" p2) [.Constant (.str x) j p5] [] p3) none p4.line env = pure false
  head : (params.posonlyargs ++ params.args).head?.map (·.arg) = some slf
  kind : scope.kind = .function
  co : scope.isCoroutine = false
  gen : scope.isGenerator = false
  nocell : ∀ x ∈ scope.names, x.2 ≠ .cell
  ksup : scope.names.lookup ("super" : Str) = some .globalImplicit
  kcls : scope.names.lookup ("__class__" : Str) = some .free
  kself : scope.names.lookup slf = some .local
  kps : ∀ q ∈ fs, scope.names.lookup q.2 = some .local ∧ (q.2 == ("__debug__" : Str)) = false
  dself : (slf == ("__debug__" : Str)) = false
theorem Paired.mem {vs : List V} {us : List Value} (r : Vals vs us) : True := trivial
theorem xcallW {M : Model} {A : Around} {E : Value → Shared → Prop} {u z : Addr} {i : String} {pos p5 : Pos} {j : Nat} {x : Str} {env : Env} {hp : Heap} {g : Array GenState} {d : Drawn} {t : Nat} {os : OsState} {Q : Value → Shared → Prop} (hu : hp.get? u = some (PySem.W.kxs_mw i z))
    (he : starEach [.Constant (.str x) j p5] env = (false, eval (.Constant (.str x) j p5) env) :: starEach [] env) (hplain : (backTo pos (starEach [] env)).any (·.1) = false)
    (h : wpAny M A (call (.ref u) [.str x t]) Q E ⟨hp, g, d, t + 1, os⟩) :
    wpAny M A (callWith pos (.ref u) [] (backTo pos (starEach [.Constant (.str x) j p5] env)) []) Q E ⟨hp, g, d, t, os⟩ := by
  rw [he]
  refine PySem.W.kxs_callWith (i := i) (x := z) (by show (false || (backTo pos (starEach [] env)).any (·.1)) = false; rw [hplain]; rfl) ?_
  refine Calls.evalArgs_plain ?_
  exact Calls.spliced_cons (Calls.Constant_str (k := j) (pos := p5) (Calls.spliced_nil ⟨hu, h⟩))
section
variable {P : Program} {w : World} {A : Around} {K : PySem.W.Frag} {C fI e : Addr} {qual slf : Str} {params : Arguments} {body : List Stmt} {scope : Scope} {fs : List (Str × Str)} {R : Result → Shared → Prop} {base h : Heap} {g : Array GenState} {d : Drawn} {t : Nat} {os : OsState} {mg : Str → Option Value} {binds : List (Str × Value)} {args : Args} {t0 : Addr}
/-- the call of such an __init__, up to the stores -/
theorem sup_head (T : SupT P K C fI qual params body scope slf fs) (S : SupS params body scope slf fs) (M : Mod K mg base) (hk : ∀ b o, base.get? b = some o → h.get? b = some o) (hbe : base.get? e = none) (he : h.get? e = some (excW C t0 none))
    (hroom : A.depth < recursionLimit) (hbind : ∀ kV doc pm an cdv ct cc, BindsTo ⟨h, g, d, t, os⟩ (PySem.W.ksFn "__init__" qual params body scope .none kV doc pm an cdv ct cc) args binds) (hloc : ∀ x ∈ binds, scope.names.lookup x.1 = some .local) (hself : binds.reverse.lookup slf = some (.ref e))
    (hmg : mg "super" = none)
    (hq : ∀ (env : Env) (asg : List Stmt) (E : Value → Shared → Prop) (h' : Heap) (tk : Nat) (t1 : Addr), env.scope = scope → asgOf slf asg = some fs → (∀ b o, b ≠ e → h.get? b = some o → h'.get? b = some o) → h'.get? e = some (excW C t1 none) → e ≠ env.locals → h'.Ns env.locals (fun y => binds.reverse.lookup y) →
      h.get? env.locals = none → (∀ (f v : Str) (p1 p2 p3 pos : Pos), swapsWith (.Name v p3) (some (.Attribute (.Name slf p1) f p2)) pos.line env = pure false) → wpAny (model P w) (A.deeper env) (execs asg env) (fun fl s' => R (.ok (.ret (match fl with | .ret v => v | _ => .none))) s') E ⟨h', g, d, tk, os⟩) :
    codeAny (model P w) A (.call (.ref fI) args) R ⟨h, g, d, t, os⟩ := by
  obtain ⟨oc, od, osl, kV, doc, pm, an, cda, ct, cc, ccl, cdd, ccs, vs, file, tf, cl, cld, csl, hfn, hcd, hcda, hvs, hfile, hcell⟩ := T.fn
  obtain ⟨nm, q, N, bs, bm, sn, sub, ab, col, dd, k0, k1, k2, k3, k5, hC, hbm⟩ := T.oex.cls
  obtain ⟨p0, p1, p2, p3, p4, p5, x, j, asg, rfl, hasg, hev, hswp⟩ := S.shape
  have KX : K.In h := M.kin.keeps hk
  obtain ⟨ar, har, hse⟩ := Option.map_eq_some_iff.mp S.head
  obtain ⟨mb, hmb, hbo⟩ := M.blt
  refine PySem.ks_codeAny_call_defAt (fd := PySem.W.ksFn "__init__" qual params _ scope .none kV doc pm an (.ref cda) ct cc) (binds := binds) hroom (KX _ _ hfn) rfl (M.nolimit.keeps hk) (PySem.W.codeRec_of KX hcd) rfl (hbind _ _ _ _ _ _ _) S.nocell hloc (fun h0 hns hk0 => ?_) S.co S.gen S.kind
  have hk1 : ∀ b o, base.get? b = some o → h0.get? b = some o := fun b o z => hk0 b o (hk b o z)
  have KX1 : K.In h0 := M.kin.keeps hk1
  have he1 := hk0 _ _ he
  have hC1 := KX1 _ _ hC
  obtain ⟨pl, hev⟩ := hev (PySem.W.ksEnv qual scope h.objs.size fI (.ref cda) cc)
  refine PySem.ks_wpAt_execs_cons (PySem.ks_wpAt_Expr_any (PySem.ks_wpAt_MethodCall ?_ hev) (by show (scope.kind == .module && _) = false; rw [S.kind]; rfl) (hswp _))
  refine PySem.ks_wpAt_super_base (env := PySem.W.ksEnv qual scope h.objs.size fI (.ref cda) cc) S.ksup S.kcls (by decide) rfl (KX1 _ _ hfn) rfl har rfl (KX1 _ _ hcda) rfl hvs hfile T.top ?_
  refine PySem.W.ks_loadName_global S.kind S.ksup (loadGlobal_builtin (env := PySem.W.ksEnv qual scope h.objs.size fI (.ref cda) cc) (M.glob.keeps hk1) hmg (hmb.keeps hk1) ((hbo _ (by decide)).trans (by decide +kernel)) ⟨rfl, ?_⟩)
  refine wpAny_loadName_free S.kind S.kcls rfl ⟨_, KX1 _ _ hcell, rfl⟩ ?_
  rw [hse]
  refine wpAny_loadName_local S.kind S.kself hns hself ?_
  have hcl : PySem.W.clsIn K C = some { name := nm, bases := bs, mro := .ref C :: bm, ns := N, qualname := q, hasDict := true, slotNames := sn, subclasses := sub, abstract := ab, collection := col, hasDel := false } := by unfold PySem.W.clsIn; rw [hC] <;> rfl
  refine PySem.ks_wpAny_isType_cls hC1 rfl ⟨rfl, ?_⟩
  refine PySem.ks_wpAny_call_super hC1 rfl he1 rfl (fun c z => by cases z) (PySem.W.looks_mroIn KX1 T.mro) (fun h1 hso kk1 => ?_)
  have hk2 : ∀ b o, base.get? b = some o → h1.get? b = some o := fun b o z => kk1 b o (hk1 b o z)
  have KX2 : K.In h1 := M.kin.keeps hk2
  have he2 := kk1 _ _ he1
  have I2 : PySem.W.InstAt h1 e (excW C t0 none) C none := ⟨he2, rfl, rfl, trivial⟩
  have hI : PySem.W.Looks (model P w) h1 (isInstance (.ref e) (.type "ValueError")) true := I2.type.andThen (PySem.W.looks_subIn KX2 T.ve)
  refine PySem.W.kxs_getMethod PySem.W.kxs_ValueError hso (PySem.W.looks_opaque KX2 T.nany) (l₀ := .ref C :: bm) ?_ rfl KX2 (by have z := T.sup; unfold PySem.W.ks_superIn at z; rw [hcl] at z; exact z) hI (PySem.W.ks_ne KX2 I2 hcl) (by decide) ?_
  · exact fun A Q E s k q => wpAny_bind ((PySem.W.looks_clsIn KX2 hcl) A _ E s k (wpAny_pure q))
  have kk2 : ∀ b o, h1.get? b = some o → (h1.push (PySem.W.kxs_mw "ValueError.__init__" e)).get? b = some o := fun b o z => Heap.get?_push_of_some _ z
  have hu : (h1.push (PySem.W.kxs_mw "ValueError.__init__" e)).get? h1.objs.size = some (PySem.W.kxs_mw "ValueError.__init__" e) := Heap.get?_push_at rfl rfl
  have he3 := kk2 _ _ he2
  have hC3 : (h1.push (PySem.W.kxs_mw "ValueError.__init__" e)).get? C = _ := kk2 _ _ (KX2 _ _ hC)
  refine xcallW hu rfl rfl ?_
  refine wpAny_call (codeAny_of_tree ?_)
  show wpAny _ (A.deeper _).in1 (callAny (.ref h1.objs.size) ⟨[.str x _], []⟩) _ _ _
  simp only [callAny]
  refine wpAny_bind (wpAny_load hu ?_)
  simp only [PySem.W.kxs_mw, show (Value.type "method-wrapper" == Value.type "method" || Value.type "method-wrapper" == Value.type "builtin_function_or_method" || Value.type "method-wrapper" == Value.type "method-wrapper") = true by decide, if_true]
  refine PySem.W.KFB.if_so (by decide) ?_
  refine wpAny_bind (PySem.W.check_bound_init PySem.F.excBase_ValueError.toExcCallFacts hC3 he3 rfl ?_)
  refine wpAny_bind (wpAny_pure (wpAny_pure ?_))
  refine ⟨Code.quiet_builtin _ (by decide +kernel), codeAny_builtin PySem.F.excBase_ValueError.initEntry ?_⟩
  refine PySem.W.exc_init_tree (cls := .ref C) (t0 := t0) (dv := none) (c2 := .none) (c3 := .none) (b4 := .bool false) he3 (by rw [sizeLine_eq]; show 1 ≤ _; omega) (fun h4 k4 e4 _ => ?_)
  have kk : ∀ b o, b ≠ e → h0.get? b = some o → h4.get? b = some o := fun b o hb z => k4 b o hb (kk2 _ _ (kk1 _ _ z))
  have hL : e ≠ h.objs.size := Nat.ne_of_lt (Heap.lt_size he)
  refine PySem.wpAt_of_wpAny (hq (PySem.W.ksEnv qual scope h.objs.size fI (.ref cda) cc) asg _ h4 _ _ rfl hasg (fun b o hb z => kk b o hb (hk0 _ _ z)) e4 hL ?_ (Heap.get?_none_of_le (Nat.le_refl _)) fun f v p1 p2 p3 pos => rfl)
  obtain ⟨oL, es, ep, ho, hr⟩ := hns
  exact ⟨oL, es, ep, kk _ _ (Ne.symm hL) ho, hr⟩
theorem asg_cons {slf f v : Str} {r : List (Str × Str)} : ∀ {asg : List Stmt}, asgOf slf asg = some ((f, v) :: r) → ∃ p1 p2 p3 pos asg', asg = .Assign [.Attribute (.Name slf p1) f p2] (.Name v p3) pos :: asg' ∧ asgOf slf asg' = some r := by
  intro asg h
  unfold asgOf at h
  split at h
  · cases h
  · rename_i s p1 f' p2 v' p3 pos rest
    split at h
    · rename_i es
      subst es
      obtain ⟨l, e1, e2⟩ := Option.map_eq_some_iff.mp h
      injection e2 with e3 e4
      injection e3 with e5 e6
      subst e4 e5 e6
      exact ⟨p1, p2, p3, pos, rest, rfl, e1⟩
    · cases h
  · cases h
theorem asg_nil {slf : Str} : ∀ {asg : List Stmt}, asgOf slf asg = some [] → asg = [] := by
  intro asg h
  unfold asgOf at h
  split at h
  · rfl
  · rename_i s p1 f' p2 v' p3 pos rest
    split at h
    · obtain ⟨l, e1, e2⟩ := Option.map_eq_some_iff.mp h
      cases e2
    · cases h
  · cases h
/-- one store: what is read of the frame -/
theorem xasg {E : Value → Shared → Prop} {env : Env} {mL : Str → Option Value} {f v : Str} {p1 p2 p3 pos : Pos} {asg : List Stmt} {u : Value} {Q : Flow → Shared → Prop} (hn : h.Ns env.locals mL) (hv : mL v = some u) (hs : mL slf = some (.ref e)) (hk : env.scope.kind = .function)
    (kv : env.scope.names.lookup v = some .local) (dv : (v == ("__debug__" : Str)) = false) (ks : env.scope.names.lookup slf = some .local) (ds : (slf == ("__debug__" : Str)) = false) (hw : swapsWith (.Name v p3) (some (.Attribute (.Name slf p1) f p2)) pos.line env = pure false)
    (hq : wpAny (model P w) A (setAttr (.ref e) f u) (fun _ s' => wpAny (model P w) A (execs asg env) Q E s') E ⟨h, g, d, t, os⟩) : wpAny (model P w) A (execs (.Assign [.Attribute (.Name slf p1) f p2] (.Name v p3) pos :: asg) env) Q E ⟨h, g, d, t, os⟩ := by
  refine wpAny_execs_cons (plainObj_wpAny_Assign_Attribute (wpAny_Name (wpAny_loadName_local hk kv hn hv (wpAny_Name (wpAny_loadName_local hk ks hn hs ?_) ds)) dv) hw)
  exact wpAny_mono hq (fun _ s' z => z) fun _ _ z => z
/-- the call, one field -/
theorem sup_call1 {f v : Str} {u : Value} (T : SupT P K C fI qual params body scope slf [(f, v)]) (S : SupS params body scope slf [(f, v)]) (M : Mod K mg base) (hk : ∀ b o, base.get? b = some o → h.get? b = some o) (hbe : base.get? e = none) (he : h.get? e = some (excW C t0 none))
    (hroom : A.depth < recursionLimit) (hbind : ∀ kV doc pm an cdv ct cc, BindsTo ⟨h, g, d, t, os⟩ (PySem.W.ksFn "__init__" qual params body scope .none kV doc pm an cdv ct cc) args binds) (hloc : ∀ x ∈ binds, scope.names.lookup x.1 = some .local) (hself : binds.reverse.lookup slf = some (.ref e)) (hu : binds.reverse.lookup v = some u)
    (hmg : mg "super" = none)
    (hq : ∀ h' tk dx t1, (∀ b o, b ≠ e → h.get? b = some o → h'.get? b = some o) → h.get? dx = none → dx ≠ e → h'.get? e = some (excW C t1 (some dx)) → h'.Ns1 dx (fun y => if y = f then some u else none) → R (.ok (.ret .none)) ⟨h', g, d, tk, os⟩) :
    codeAny (model P w) A (.call (.ref fI) args) R ⟨h, g, d, t, os⟩ := by
  refine sup_head T S M hk hbe he hroom hbind hloc hself hmg fun env asg E h1 tk t1 hsc hasg k1 e1 eL hns hnl hsw => ?_
  obtain ⟨p1, p2, p3, pos, asg', rfl, hasg'⟩ := asg_cons hasg
  obtain rfl := asg_nil hasg'
  have kb : ∀ b o, base.get? b = some o → h1.get? b = some o := fun b o z => k1 b o (fun q => by rw [q, hbe] at z; cases z) (hk b o z)
  refine xasg hns hu hself (by rw [hsc]; exact S.kind) (by rw [hsc]; exact (S.kps _ (List.mem_cons_self ..)).1) (S.kps _ (List.mem_cons_self ..)).2 (by rw [hsc]; exact S.kself) S.dself (hsw _ _ _ _ _ _) ?_
  refine xset_new T.oex (M.kin.keeps kb) e1 (T.nof _ (List.mem_cons_self ..)) fun h2 tk2 dx k2 dn dne hx hn => ?_
  refine wpAny_execs_nil ?_
  exact hq h2 tk2 dx t1 (fun b o hb z => k2 b o hb (k1 b o hb z)) (by
    cases z : h.get? dx with
    | none => rfl
    | some o => exact absurd (Nat.lt_of_lt_of_le (Heap.lt_size (k1 dx o dne z)) dn) (Nat.lt_irrefl _)) dne hx hn
/-- the call, two fields -/
theorem sup_call2 {f v f2 v2 : Str} {u u2 : Value} (T : SupT P K C fI qual params body scope slf [(f, v), (f2, v2)]) (S : SupS params body scope slf [(f, v), (f2, v2)]) (M : Mod K mg base) (hk : ∀ b o, base.get? b = some o → h.get? b = some o) (hbe : base.get? e = none) (he : h.get? e = some (excW C t0 none))
    (hroom : A.depth < recursionLimit) (hbind : ∀ kV doc pm an cdv ct cc, BindsTo ⟨h, g, d, t, os⟩ (PySem.W.ksFn "__init__" qual params body scope .none kV doc pm an cdv ct cc) args binds) (hloc : ∀ x ∈ binds, scope.names.lookup x.1 = some .local) (hself : binds.reverse.lookup slf = some (.ref e)) (hu : binds.reverse.lookup v = some u) (hu2 : binds.reverse.lookup v2 = some u2)
    (hmg : mg "super" = none)
    (hq : ∀ h' tk dx t1, (∀ b o, b ≠ e → h.get? b = some o → h'.get? b = some o) → h.get? dx = none → dx ≠ e → h'.get? e = some (excW C t1 (some dx)) → h'.Ns1 dx (fun y => if y = f2 then some u2 else if y = f then some u else none) → R (.ok (.ret .none)) ⟨h', g, d, tk, os⟩) :
    codeAny (model P w) A (.call (.ref fI) args) R ⟨h, g, d, t, os⟩ := by
  refine sup_head T S M hk hbe he hroom hbind hloc hself hmg fun env asg E h1 tk t1 hsc hasg k1 e1 eL hns hnl hsw => ?_
  obtain ⟨p1, p2, p3, pos, asg', rfl, hasg'⟩ := asg_cons hasg
  obtain ⟨q1, q2, q3, qos, asg'', rfl, hasg''⟩ := asg_cons hasg'
  obtain rfl := asg_nil hasg''
  have kb : ∀ b o, base.get? b = some o → h1.get? b = some o := fun b o z => k1 b o (fun q => by rw [q, hbe] at z; cases z) (hk b o z)
  refine xasg hns hu hself (by rw [hsc]; exact S.kind) (by rw [hsc]; exact (S.kps _ (List.mem_cons_self ..)).1) (S.kps _ (List.mem_cons_self ..)).2 (by rw [hsc]; exact S.kself) S.dself (hsw _ _ _ _ _ _) ?_
  refine xset_new T.oex (M.kin.keeps kb) e1 (T.nof _ (List.mem_cons_self ..)) fun h2 tk2 dx k2 dn dne hx hn => ?_
  have kb2 : ∀ b o, base.get? b = some o → h2.get? b = some o := fun b o z => k2 b o (fun q => by rw [q, hbe] at z; cases z) (kb b o z)
  have hns2 : h2.Ns env.locals (fun y => binds.reverse.lookup y) := by
    obtain ⟨oL, es, ep, ho, hr⟩ := hns
    exact ⟨oL, es, ep, k2 _ _ (Ne.symm eL) ho, hr⟩
  have m2 : (f2, v2) ∈ [(f, v), (f2, v2)] := List.mem_cons_of_mem _ (List.mem_cons_self ..)
  refine xasg hns2 hu2 hself (by rw [hsc]; exact S.kind) (by rw [hsc]; exact (S.kps _ m2).1) (S.kps _ m2).2 (by rw [hsc]; exact S.kself) S.dself (hsw _ _ _ _ _ _) ?_
  refine xset_old T.oex (M.kin.keeps kb2) hx hn (Within.cons f u Within.nil) (by show 1 ≤ 900; omega) (T.nof _ m2) fun h3 tk3 k3 hn3 => ?_
  refine wpAny_execs_nil ?_
  have hdn : h.get? dx = none := by
    cases z : h.get? dx with
    | none => rfl
    | some o => exact absurd (Nat.lt_of_lt_of_le (Heap.lt_size (k1 dx o dne z)) dn) (Nat.lt_irrefl _)
  exact hq h3 tk3 dx t1 (fun b o hb z => k3 b o (fun q => by rw [q, hdn] at z; cases z) (k2 b o hb (k1 b o hb z))) hdn dne (k3 _ _ (Ne.symm dne) hx) hn3
end
end Z

namespace Z
open PySem PySem.W PySem.Spec L2 PySem.Calls
open PyProof.Rows hiding St
section
variable {X : Cx} {pins : List (Addr × Obj)} {σ : L2.St} {H1 : Hp} {Q : XK} {hp h' : Heap} {g : Array GenState} {d : Drawn} {t t' : Nat} {os : OsState} {a C dx t1 : Addr} {fs : List (Str × V)} {mA : Str → Option Value}
/-- the made exception let go: its dict stands as an exception's dict -/
theorem mkp_of (T : Raises X (.ref C)) (I : Inv X pins σ H1 ⟨hp, g, d, t, os⟩) (k : ∀ b o, hp.get? b = some o → h'.get? b = some o) (na : hp.get? a = none) (nd : hp.get? dx = none) (ne : dx ≠ a) (ho : h'.get? a = some (excW C t1 (some dx))) (hn : h'.Ns1 dx mA) (rel : ∀ f, RelO (fs.lookup f) (mA f))
    (q : Q (.ref C) (some dx) (upd H1 dx (.xd fs))) : L2N.MkP X pins σ Q (.ref a) ⟨h', g, d, t', os⟩ := by
  obtain ⟨G, g1, g2⟩ := restrict h' fun b => decide (b ≠ a)
  have gk : ∀ b, b ≠ a → G.get? b = h'.get? b := fun b hb => g1 b (decide_eq_true hb)
  have ge : G.get? a = none := g2 a (by simp)
  have kk : ∀ b o, hp.get? b = some o → G.get? b = some o := fun b o z => by
    rw [gk b (fun q => by rw [q, na] at z; cases z)]
    exact k b o z
  have Hd : H1 dx = none := I.hok.gone nd
  have Ha : H1 a = none := I.hok.gone na
  have J : Inv X pins σ (upd H1 dx (.xd fs)) ⟨G, g, d, t', os⟩ := I.laidN (t' := t') kk nd Hd ⟨mA, hn.at fun o y => (gk dx ne).trans y, rel⟩
  refine ⟨a, _, _, ⟨G, g, d, t', os⟩, _, .ref C, some dx, rfl, J, fun b o z => ?_, ge, ho, ⟨rfl, rfl, fun vs e => by cases e; rfl⟩, rfl, rfl, ?_, rfl, I.bare, T, q⟩
  · by_cases hb : b = a
    · rw [hb, ge] at z; cases z
    · exact (gk b hb).symm.trans z
  · rw [upd_ne (Ne.symm ne)]; exact Ha
end
/-- readings: C(e), C(e, e2) -/
def tMk1 (C : Addr) (f : Str) (te : TE) : L2.St → Hp → XK → Prop := fun σ H Q => te σ H fun y H1 => ∀ d, H1 d = none → Q (.ref C) (some d) (upd H1 d (.xd [(f, y)]))
def tMk2 (C : Addr) (f f2 : Str) (te te2 : TE) : L2.St → Hp → XK → Prop := fun σ H Q => te σ H fun y H1 => te2 σ H1 fun y2 H2 => ∀ d, H2 d = none → Q (.ref C) (some d) (upd H2 d (.xd [(f2, y2), (f, y)]))
section
variable {X : Cx} {C fI : Addr} {qual slf f v f2 v2 x : Str} {params : Arguments} {body : List Stmt} {scope : Scope} {e e2 : Expr} {te te2 : TE} {p pos : Pos}
theorem pmk_sup1 (T : SupT X.prog X.K C fI qual params body scope slf [(f, v)]) (S : SupS params body scope slf [(f, v)])
    (hbind : ∀ (s : Shared) (kV doc pm : Value) (an : Option Addr) (cdv ct : Value) (cc : Addr) (u0 u1 : Value), BindsTo s (PySem.W.ksFn "__init__" qual params body scope .none kV doc pm an cdv ct cc) ⟨[u0, u1], []⟩ [(slf, u0), (v, u1)])
    (hne : slf ≠ v) (hr : Room 1 X.A) (hg : Gl X x) (hm : X.mg x = some (.ref C)) (hms : X.mg "super" = none) (he : PE X e te)
    (hdb : (x == ("__debug__" : Str)) = false := by decide) (hst : starEach [e] X.env = (false, eval e X.env) :: starEach [] X.env := by rfl) : L2N.PMk X (.Call (.Name x p) [e] [] pos) (tMk1 C f te) := by
  intro pins s σ H Q I h
  obtain ⟨nm, q, N, bs, bm, sn, sub, ab, col, dd, k0, k1, k2, k3, k5, hC, hbm⟩ := T.oex.cls
  refine wpAny_Call_Name_kw (ld_glob I hg hm ?_ hdb)
  refine PySem.W.callWith_K (h₀ := X.base) I.ok.mod.kin T.oex.kC ?_ hst (by rfl)
  rw [hst]
  show wpAny _ _ (spliced ((false, eval e X.env) :: backTo pos (starEach [] X.env))) _ _ s
  refine Calls.spliced_cons (thn (he.run pins s σ H _ I h) fun u s1 ⟨y, H1, I1, r1, q1⟩ => ?_)
  refine Calls.spliced_nil ⟨I1.kIn, ?_⟩
  show wpAny _ _ (call (.ref C) [u]) _ _ _
  obtain ⟨hp, g, dr, tk, os⟩ := s1
  have kk : ∀ b o, hp.get? b = some o → ((hp.push (PySem.W.kdv_tup [u])).push (PySem.HandSPX.excO C hp.objs.size)).get? b = some o := fun b o e => Heap.get?_push_of_some _ (Heap.get?_push_of_some _ e)
  have hget : ((hp.push (PySem.W.kdv_tup [u])).push (PySem.HandSPX.excO C hp.objs.size)).get? (hp.objs.size + 1) = some (PySem.HandSPX.excO C hp.objs.size) := by heap_get
  have hnew : hp.get? (hp.objs.size + 1) = none := Heap.get?_none_of_le (Nat.le_succ _)
  have hbe : X.base.get? (hp.objs.size + 1) = none := by
    cases z : X.base.get? (hp.objs.size + 1) with
    | none => rfl
    | some o => rw [I1.bk _ _ z] at hnew; cases hnew
  refine wpAny_call (PySem.HandSPX.call_own PySem.F.excBase_ValueError (fun Y => PySem.HandSPX.refsVE_contains Y bm hbm) (I1.kIn _ _ hC) (PySem.W.looks_findIn I1.kIn T.ini) (fun slf => PySem.W.bind_fn I1.kIn slf T.tfn) (by rw [sizeLine_eq]; show 1 ≤ _; omega) ?_)
  refine sup_call1 (binds := [(slf, .ref (hp.objs.size + 1)), (v, u)]) (u := u) T S I1.ok.mod (fun b o z => kk b o (I1.bk b o z)) hbe hget (hr.make C [u] []).depth (fun kV doc pm an cdv ct cc => hbind _ _ _ _ _ _ _ _ _ _) (fun z hz => ?_) ?_ ?_ hms fun h' tk' dx t1 k nd ne hx hn => ⟨rfl, ?_⟩
  · rcases List.mem_cons.mp hz with rfl | hz
    · exact S.kself
    · rcases List.mem_cons.mp hz with rfl | hz
      · exact (S.kps _ (List.mem_cons_self ..)).1
      · cases hz
  · show List.lookup slf [(v, u), (slf, .ref (hp.objs.size + 1))] = _
    rw [List.lookup_cons, show (slf == v) = false by simpa using hne]
    simp [List.lookup]
  · show List.lookup v [(v, u), (slf, .ref (hp.objs.size + 1))] = _
    simp [List.lookup]
  · have nd' : hp.get? dx = none := by
      cases z : hp.get? dx with
      | none => rfl
      | some o => rw [kk _ _ z] at nd; cases nd
    refine mkp_of (C := C) (t1 := t1) (fs := [(f, y)]) (raises_own T.oex.exC T.oex.tyC) I1 (fun b o z => k b o (fun q => by rw [q, hnew] at z; cases z) (kk b o z)) hnew nd' ne hx hn (relO_put (fs := []) r1 fun g => True.intro) (q1 dx (I1.hok.gone nd'))
theorem pmk_sup2 (T : SupT X.prog X.K C fI qual params body scope slf [(f, v), (f2, v2)]) (S : SupS params body scope slf [(f, v), (f2, v2)])
    (hbind : ∀ (s : Shared) (kV doc pm : Value) (an : Option Addr) (cdv ct : Value) (cc : Addr) (u0 u1 u2 : Value), BindsTo s (PySem.W.ksFn "__init__" qual params body scope .none kV doc pm an cdv ct cc) ⟨[u0, u1, u2], []⟩ [(slf, u0), (v, u1), (v2, u2)])
    (hne : slf ≠ v) (hne2 : slf ≠ v2) (hne3 : v ≠ v2) (hr : Room 1 X.A) (hg : Gl X x) (hm : X.mg x = some (.ref C)) (hms : X.mg "super" = none) (he : PE X e te) (he2 : PE X e2 te2)
    (hdb : (x == ("__debug__" : Str)) = false := by decide) (hst : starEach [e, e2] X.env = (false, eval e X.env) :: starEach [e2] X.env := by rfl) (hst2 : starEach [e2] X.env = (false, eval e2 X.env) :: starEach [] X.env := by rfl) : L2N.PMk X (.Call (.Name x p) [e, e2] [] pos) (tMk2 C f f2 te te2) := by
  intro pins s σ H Q I h
  obtain ⟨nm, q, N, bs, bm, sn, sub, ab, col, dd, k0, k1, k2, k3, k5, hC, hbm⟩ := T.oex.cls
  refine wpAny_Call_Name_kw (ld_glob I hg hm ?_ hdb)
  refine PySem.W.callWith_K (h₀ := X.base) I.ok.mod.kin T.oex.kC ?_ hst (by rw [hst2]; rfl)
  rw [hst]
  show wpAny _ _ (spliced ((false, eval e X.env) :: backTo pos (starEach [e2] X.env))) _ _ s
  refine Calls.spliced_cons (thn (he.run pins s σ H _ I h) fun u s1 ⟨y, H1, I1, r1, q1⟩ => ?_)
  rw [hst2]
  show wpAny _ _ (spliced ((false, eval e2 X.env) :: backTo pos (starEach [] X.env))) _ _ s1
  refine Calls.spliced_cons (thn (he2.run pins s1 σ H1 _ I1 q1) fun u2 s2 ⟨y2, H2, I2, r2, q2⟩ => ?_)
  refine Calls.spliced_nil ⟨I2.kIn, ?_⟩
  show wpAny _ _ (call (.ref C) [u, u2]) _ _ _
  obtain ⟨hp, g, dr, tk, os⟩ := s2
  have kk : ∀ b o, hp.get? b = some o → ((hp.push (PySem.W.kdv_tup [u, u2])).push (PySem.HandSPX.excO C hp.objs.size)).get? b = some o := fun b o e => Heap.get?_push_of_some _ (Heap.get?_push_of_some _ e)
  have hget : ((hp.push (PySem.W.kdv_tup [u, u2])).push (PySem.HandSPX.excO C hp.objs.size)).get? (hp.objs.size + 1) = some (PySem.HandSPX.excO C hp.objs.size) := by heap_get
  have hnew : hp.get? (hp.objs.size + 1) = none := Heap.get?_none_of_le (Nat.le_succ _)
  have hbe : X.base.get? (hp.objs.size + 1) = none := by
    cases z : X.base.get? (hp.objs.size + 1) with
    | none => rfl
    | some o => rw [I2.bk _ _ z] at hnew; cases hnew
  refine wpAny_call (PySem.HandSPX.call_own PySem.F.excBase_ValueError (fun Y => PySem.HandSPX.refsVE_contains Y bm hbm) (I2.kIn _ _ hC) (PySem.W.looks_findIn I2.kIn T.ini) (fun slf => PySem.W.bind_fn I2.kIn slf T.tfn) (by rw [sizeLine_eq]; show 2 ≤ _; omega) ?_)
  have m2 : (f2, v2) ∈ [(f, v), (f2, v2)] := List.mem_cons_of_mem _ (List.mem_cons_self ..)
  refine sup_call2 (binds := [(slf, .ref (hp.objs.size + 1)), (v, u), (v2, u2)]) (u := u) (u2 := u2) T S I2.ok.mod (fun b o z => kk b o (I2.bk b o z)) hbe hget (hr.make C [u, u2] []).depth (fun kV doc pm an cdv ct cc => hbind _ _ _ _ _ _ _ _ _ _ _) (fun z hz => ?_) ?_ ?_ ?_ hms fun h' tk' dx t1 k nd ne hx hn => ⟨rfl, ?_⟩
  · rcases List.mem_cons.mp hz with rfl | hz
    · exact S.kself
    · rcases List.mem_cons.mp hz with rfl | hz
      · exact (S.kps _ (List.mem_cons_self ..)).1
      · rcases List.mem_cons.mp hz with rfl | hz
        · exact (S.kps _ m2).1
        · cases hz
  · show List.lookup slf [(v2, u2), (v, u), (slf, .ref (hp.objs.size + 1))] = _
    rw [List.lookup_cons, show (slf == v2) = false by simpa using hne2]
    show List.lookup slf [(v, u), (slf, .ref (hp.objs.size + 1))] = _
    rw [List.lookup_cons, show (slf == v) = false by simpa using hne]
    simp [List.lookup]
  · show List.lookup v [(v2, u2), (v, u), (slf, .ref (hp.objs.size + 1))] = _
    rw [List.lookup_cons, show (v == v2) = false by simpa using hne3]
    simp [List.lookup]
  · show List.lookup v2 [(v2, u2), (v, u), (slf, .ref (hp.objs.size + 1))] = _
    simp [List.lookup]
  · have nd' : hp.get? dx = none := by
      cases z : hp.get? dx with
      | none => rfl
      | some o => rw [kk _ _ z] at nd; cases nd
    refine mkp_of (C := C) (t1 := t1) (fs := [(f2, y2), (f, y)]) (raises_own T.oex.exC T.oex.tyC) I2 (fun b o z => k b o (fun q => by rw [q, hnew] at z; cases z) (kk b o z)) hnew nd' ne hx hn (relO_put r2 (relO_put (fs := []) r1 fun g => True.intro)) (q2 dx (I2.hok.gone nd'))
end
end Z

/-! ### raising, catching, what an except suite asks of the exception, defs called there -/
namespace Z
open PySem PySem.W PySem.Spec L2
open PyProof.Rows hiding St
theorem takes_cx {P : Program} {w : World} {K : PySem.W.Frag} {mg : Str → Option Value} {base : Heap} {N : List Str} {qual : Str} {scope : Scope} {f : Addr} {cd : Value} {A : Around} {outer : List Env} {s : Shared} {H : Hp} {E : XK} :
    L2N.Takes (cxOf (L2N.CX P w) P w K mg base N qual scope f cd A outer s H E) (fun cls d _ H => E cls d H) := L2N.takes_of rfl rfl rfl rfl
theorem own_cx {CX : CXT} {P : Program} {w : World} {K : PySem.W.Frag} {mg : Str → Option Value} {base : Heap} {N : List Str} {qual : Str} {scope : Scope} {f : Addr} {cd : Value} {A : Around} {outer : List Env} {s : Shared} {H : Hp} {E : XK} :
    PassesOwn (model (cxOf CX P w K mg base N qual scope f cd A outer s H E).prog (cxOf CX P w K mg base N qual scope f cd A outer s H E).w) (cxOf CX P w K mg base N qual scope f cd A outer s H E).A (cxOf CX P w K mg base N qual scope f cd A outer s H E).env (cxOf CX P w K mg base N qual scope f cd A outer s H E).xe := passes_of rfl
section
variable {X : Cx} {W : WX} {k : Nat} {f C : Addr} {ps : List Str} {dvs : List V} {sp : Sp} {x : Str} {p pos : Pos} {e : Expr} {es : List Expr} {t : TA} {G : List Str} {σ : L2.St} {H : Hp} {Q : VK} {D : Ends}
/-- a call that may raise: what is raised is wished at the caller's slots -/
def tCallW (sp : Sp) (dvs : List V) (W : WX) (t : TA) : TE := fun σ H Q => t σ H fun vs H1 => sp (vs ++ dvs) H1 Q (fun cls d H' => W cls d σ H')
theorem pcW (F : OkD X.prog X.w X.K X.mg X.base k f ps dvs sp) (hr : Room k X.A) (hg : glB G X.env.scope = true) (n : Nat) (hm : X.mg x = some (.ref f)) (tk : L2N.Takes X W) (ha : PA X (e :: es) t) (hx : G[n]? = some x := by rfl)
    (he : starEach (e :: es) X.env = (false, eval e X.env) :: starEach es X.env := by rfl) (hpl : (backTo pos (starEach es X.env)).any (·.1) = false := by rfl) : PE X (.Call (.Name x p) (e :: es) [] pos) (tCallW sp dvs W t) := by
  obtain ⟨fd, ds, kp, b, vd, F⟩ := F
  exact pe_callSD F hr (gl_of hg hx).1 hm kp b vd (fun σ => L2N.passAt tk σ) ha (gl_of hg hx).2.1 he hpl
theorem i_callW (h : t σ H fun vs H1 => sp (vs ++ dvs) H1 Q (fun cls d H' => W cls d σ H')) : tCallW sp dvs W t σ H Q := h
/-- raise -/
def tRs (W : WX) (t : L2.St → Hp → XK → Prop) : TS := fun _ σ H => t σ H fun cls d H' => W cls d σ H'
theorem ps_rs {t : L2.St → Hp → XK → Prop} (hc : X.calm = true) (tk : L2N.Takes X W) (he : L2N.PMk X e t) : PS X (.Raise (some e) none pos) (tRs W t) := L2N.ps_raise hc tk he
theorem i_rs {t : L2.St → Hp → XK → Prop} (h : t σ H fun cls d H' => W cls d σ H') : tRs W t D σ H := h
def kMk1 (C : Addr) (f : Str) (Q : XK) : VK := fun y H1 => ∀ d, H1 d = none → Q (.ref C) (some d) (upd H1 d (.xd [(f, y)]))
theorem i_mk1 {te : TE} {f : Str} {Q : XK} (h : te σ H (kMk1 C f Q)) : tMk1 C f te σ H Q := h
theorem i_mk1e {f : Str} {Q : XK} {v : V} (h : ∀ d H2, Same H H2 → H2 d = some (.xd [(f, v)]) → Q (.ref C) (some d) H2) : kMk1 C f Q v H := fun d hd => h d _ (same_new hd) upd_same
def kMk2 (C : Addr) (f f2 : Str) (Q : XK) (y : V) : VK := fun y2 H2 => ∀ d, H2 d = none → Q (.ref C) (some d) (upd H2 d (.xd [(f2, y2), (f, y)]))
theorem i_mk2 {te te2 : TE} {f f2 : Str} {Q : XK} (h : te σ H fun y H1 => te2 σ H1 (kMk2 C f f2 Q y)) : tMk2 C f f2 te te2 σ H Q := h
theorem i_mk2e {f f2 : Str} {Q : XK} {v v2 : V} (h : ∀ d H2, Same H H2 → H2 d = some (.xd [(f2, v2), (f, v)]) → Q (.ref C) (some d) H2) : kMk2 C f f2 Q v v2 H := fun d hd => h d _ (same_new hd) upd_same
/-- try .. except X as n -/
def tTryA (K : PySem.W.Frag) (c : Value) (i : Nat) (ts : Addr → Value → Option Addr → TS) (Wout : WX) (tb : WX → TS) : TS := fun D σ H => tb (wAs K c i ts Wout D) D σ H
theorem ps_tryA {n : Str} {c : Value} {i : Nat} {body suite : List Stmt} {b₀ : Stmt} {np pos' : Pos} {tb : WX → TS} {ts : Addr → Value → Option Addr → TS} {Wout : WX} (hs : X.stack = X.env :: X.outer) (hf : X.env.frame = some X.env.locals) (hN : X.N.Nodup) (hi : X.N[i]? = some n) (hln : X.env.kindOf n = some .local) (hc : Names X x c) (tk : L2N.Takes X Wout)
    (hb : ∀ (W : WX) (pn : List (Addr × Obj)) (xe : Value → Shared → Prop), L2N.Takes (X.tr pn xe) W → PassesOwn (model X.prog X.w) X.A X.env xe → PSs (X.tr pn xe) body (tb W))
    (hsu : ∀ (a : Addr) (oe : Obj) (cls : Value) (d : Option Addr) (pn : List (Addr × Obj)), L2N.Zn cls d oe → (∃ vs, oe.data = .fields vs) → PSs (X.suite a ((a, oe) :: pn)) (b₀ :: suite) (ts a cls d)) :
    PS X (.Try body [.ExceptHandler (some (.Name x np)) (some n) (b₀ :: suite) pos'] [] [] pos) (tTryA X.K c i ts Wout tb) := L2N.ps_try_as hs hf hN hi hln hc tk hb hsu
theorem i_tryA {K : PySem.W.Frag} {c : Value} {i : Nat} {ts : Addr → Value → Option Addr → TS} {Wout : WX} {tb : WX → TS} (h : tb (wAs K c i ts Wout D) D σ H) : tTryA K c i ts Wout tb D σ H := h
/-- try .. except X: (no name) -/
def tTryO (K : PySem.W.Frag) (c : Value) (ts : Addr → Value → Option Addr → TS) (Wout : WX) (tb : WX → TS) : TS := fun D σ H => tb (wMany K Wout D [(c, ts)]) D σ H
theorem ps_tryO {c : Value} {body suite : List Stmt} {b₀ : Stmt} {np pos' : Pos} {tb : WX → TS} {ts : Addr → Value → Option Addr → TS} {Wout : WX} (hs : X.stack = X.env :: X.outer) (hf : X.env.frame = some X.env.locals) (hc : Names X x c) (tk : L2N.Takes X Wout)
    (hb : ∀ (W : WX) (pn : List (Addr × Obj)) (xe : Value → Shared → Prop), L2N.Takes (X.tr pn xe) W → PassesOwn (model X.prog X.w) X.A X.env xe → PSs (X.tr pn xe) body (tb W))
    (hsu : ∀ (a : Addr) (oe : Obj) (cls : Value) (d : Option Addr) (pn : List (Addr × Obj)), L2N.Zn cls d oe → (∃ vs, oe.data = .fields vs) → PSs (X.suite a ((a, oe) :: pn)) (b₀ :: suite) (ts a cls d)) :
    PS X (.Try body [.ExceptHandler (some (.Name x np)) none (b₀ :: suite) pos'] [] [] pos) (tTryO X.K c ts Wout tb) := L2N.ps_try_many hs hf tk hb (.cons hc hsu .nil)
theorem names_of {c : Addr} (hg : glB G X.env.scope = true) (n : Nat) (hm : X.mg x = some (.ref c)) (hx : G[n]? = some x := by rfl) : Names X x (.ref c) := ⟨(gl_of hg hx).1, (gl_of hg hx).2.1, .inl hm⟩
/-- the body raises nothing -/
theorem ps_tryT {body orelse : List Stmt} {h₀ : ExceptHandler} {hs : List ExceptHandler} {t : TS} (hb : PSs X.nox body t) : PS X (.Try body (h₀ :: hs) [] [] pos) t := ps_try_thru0 hb
end
/-! what a suite asks -/
/-- isinstance(e, c) of the exception in hand -/
structure ExcD (K : PySem.W.Frag) (D : Addr) : Prop where
  c : ExcC K D
def rIsX (K : PySem.W.Frag) (a : Addr) (cls : Value) (d : Option Addr) : List V → Hp → VK → Prop := fun xs H Q => ∃ (D : Addr) (c : V) (cv : Value) (b : Bool), cls = .ref D ∧ ExcC K D ∧ (∀ dd, d = some dd → ∃ fs, H dd = some (.xd fs)) ∧ xs = [.ref a, c] ∧ (∀ u, RelV c u → u = cv) ∧ PySem.W.kitOne K (.ref D) cv = some b ∧ Q (.bl b) H
theorem kin_classX {prog : Program} {w : World} {A : Around} {E : Value → Shared → Prop} {s : Shared} {K : PySem.W.Frag} {x D : Addr} {ox : Obj} {od : Option Obj} {Q : Option Value → Shared → Prop} (c : ExcC K D)
    (X : K.In s.heap) (I : PySem.W.InstAt s.heap x ox D od) (h : Q (some (.ref D)) { s with toks := s.toks + 1 }) : wpAny (model prog w) A (getAttr? (.ref x) "__class__") Q E s := by
  have hf : PySem.W.findObj K D od "__class__" = some (.bind (.builtin "getset_descriptor.__get__") (.builtin "object.__class__")) := by
    obtain ⟨cd, hc, _⟩ := PySem.W.any_some c.hd
    unfold PySem.W.findObj
    rw [hc, Option.bind_some, c.ha, Option.bind_some]
    simp [c.hn, c.ht]
  obtain ⟨hp, g, d, t, os⟩ := s
  have L0 := I.type (M := model prog w)
  have L1 := PySem.W.looks_findIn (M := model prog w) X c.hg
  have L2 := PySem.W.looks_findIn (M := model prog w) X c.hk
  have L3 := PySem.W.looks_find (M := model prog w) X I hf
  have sub : PySem.W.Looks (model prog w) hp (isInstance (.ref x) (.type "BaseException")) true := L0.andThen (PySem.W.looks_subIn X c.hs)
  have hx0 : (false && onTheHeap (Value.builtin "BaseException.__getattribute__")) = false := rfl
  have hx2 : (Value.builtin "BaseException.__getattribute__" == Value.builtin "object.__getattribute__") = false := by decide +kernel
  have hx1 : (onTheHeap (Value.ref D) && Value.builtin "BaseException.__getattribute__" == Value.builtin "object.__getattribute__") = false := by rw [hx2]; rfl
  unfold getAttr? getAttrBy? getAttrBy
  refine wpAny_bind (wpAny_mkText (wpAny_bind (wpAny_attempt (wpAny_holding (wpAny_bind (L0.at (wpAny_bind (L1.at ?_))))))))
  show wpAny _ _ (if (onTheHeap (Value.ref D) && Value.builtin "BaseException.__getattribute__" == Value.builtin "object.__getattribute__") = true then _ else _) _ _ _
  rw [hx1, if_neg Bool.false_ne_true]
  unfold getAttrByItsOwn hookBefore
  refine wpAny_bind ?_
  rw [if_pos (show onTheHeap (Value.ref D) = true from rfl)]
  refine L2.at ?_
  refine wpAny_bind (wpAny_attempt (wpAny_holding ?_))
  unfold callGetattribute
  rw [hx0, if_neg Bool.false_ne_true]
  unfold boundAndCalled
  rw [PySem.F.excAttr_ValueError.ga.bind (.ref x)]
  refine wpAny_bind (wpAny_pure ?_)
  show wpAny _ _ (call (.builtin "BaseException.__getattribute__") [.ref x, .str "__class__" t]) _ _ _
  refine wpAny_call (codeAny_call_builtin PySem.F.excAttr_ValueError.ga.plain PySem.F.entry_bexc_ga ?_)
  refine @PySem.W.check_slot (model prog w) _ _ ⟨hp, g, d, t + 1, os⟩ "BaseException.__getattribute__" "BaseException" "__getattribute__" (.ref x) [.str "__class__" t] [] _ (by decide +kernel) (by decide +kernel) sub (PySem.F.args_bexc_ga (.ref x) (.str "__class__" t)) ?_
  unfold Builtin.«object.__getattribute__»
  refine wpAny_bind (wpAny_of_eq (a := ((Value.ref x : Value), [Value.str "__class__" t])) (by first | rfl | (simp only [slotArgs]; rfl)) ?_)
  refine wpAny_bind (wpAny_pure (wpAny_bind (L0.at (wpAny_bind (L3.at ?_)))))
  show wpAny _ _ (holding [Value.builtin "object.__class__"] (call (.builtin "getset_descriptor.__get__") [.builtin "object.__class__", .ref x, .ref D]) >>= ret) _ _ _
  refine wpAny_bind (wpAny_holding (wpAny_call (PySem.W.class_get (s := ⟨hp, g, d, t + 1, os⟩) (ox := ox) (od := od) X I c.hm ?_)))
  refine wpAny_pure ?_
  show wpAny _ _ (handedOut (.ref D)) _ _ _
  rw [handedOut_of (v := .ref D) rfl]
  first
    | exact wpAny_pure (wpAny_pure h)
    | exact wpAny_pure h
    | exact wpAny_pure (wpAny_bind (wpAny_pure (wpAny_pure h)))
theorem kitx_excD {K : PySem.W.Frag} {x D : Addr} {ox : Obj} {od : Option Obj} (c : ExcC K D) : PySem.W.KitX K (.ref x) (.ref D) (fun h => PySem.W.InstAt h x ox D od) where
  ty := fun _ _ _ I => I.type
  it := fun _ _ X _ => by
    obtain ⟨cdD, hcD, _⟩ := PySem.W.any_some c.hd
    unfold PySem.W.clsIn at hcD
    split at hcD
    · rename_i c' d' cd' sl' ho
      intro A' Q' E' s' k q
      unfold isType loadHead
      exact wpAny_bind (wpAny_loadPart (k _ _ (X _ _ ho)) (wpAny_pure q))
    · cases hcD
  ne := fun h tp dd its n sl X htp => by
    obtain ⟨cdD, hcD, _⟩ := PySem.W.any_some c.hd
    refine Bool.eq_false_iff.mpr fun q => ?_
    have e : D = tp := Value.ref.inj (beq_iff_eq.mp q)
    subst e
    unfold PySem.W.clsIn at hcD
    split at hcD
    · rename_i c' d' cd' sl' ho
      have z := (X _ _ ho).symm.trans htp
      cases z
    · cases hcD
  ca := fun X I k => kin_classX c X I k
section
variable {X : Cx} {pins : List (Addr × Obj)} {σ : L2.St} {H : Hp} {s : Shared} {a D : Addr} {oe : Obj} {cls : Value} {d : Option Addr} {pn : List (Addr × Obj)}
/-- the pinned exception as an instance -/
theorem exc_inst (I : Inv X pins σ H s) (hp : (a, oe) ∈ X.pn) (hz : Zc (.ref D) d oe) (hf : ∃ vs, oe.data = .fields vs) (hd : ∀ dd, d = some dd → ∃ fs, H dd = some (.xd fs)) : ∃ od, PySem.W.InstAt s.heap a oe D od := by
  obtain ⟨hget, _⟩ := I.pin (a, oe) (List.mem_append_left _ hp)
  obtain ⟨vs, hv⟩ := hf
  cases d with
  | none => exact ⟨none, hget, hz.1, by unfold PySem.W.notCls; rw [hv] <;> rfl, by rw [hz.2]; trivial⟩
  | some dd =>
    obtain ⟨fs, ea⟩ := hd dd rfl
    have hx : ObjOk X.prog X.w H s.heap dd (.xd fs) := I.hok dd _ ea
    obtain ⟨mA, hns, hr⟩ := hx
    obtain ⟨od, ho, hl⟩ := lookIn_ns hns
    exact ⟨some od, hget, hz.1, by unfold PySem.W.notCls; rw [hv] <;> rfl, by rw [hz.2]; exact ho⟩
theorem call_isX (hz : Zc cls d oe) (hf : ∃ vs, oe.data = .fields vs) (hp : (a, oe) ∈ X.pn) : CallR X (.builtin "isinstance") (rIsX X.K a cls d) := by
  intro pins s σ H xs us Q I r h
  obtain ⟨D, c, cv, b, rfl, C, hd, rfl, hcv, e, q⟩ := h
  cases r with
  | cons rx rr =>
    cases rr with
    | cons rt rr =>
      cases rr
      cases rx
      have ec := hcv _ rt
      subst ec
      obtain ⟨od, J⟩ := exc_inst I hp hz hf hd
      exact PySem.W.kia_one (kitx_excD C) I.kIn J e (fun z => nomatch z) fun tk => ⟨.bl b, H, I.kept (t' := tk) fun _ _ z => z, rfl, q⟩
/-- e.f of the exception in hand -/
def tXg (K : PySem.W.Frag) (a : Addr) (cls : Value) (d : Option Addr) (f : Str) (te : TE) : TE := fun σ H Q => te σ H fun x H1 => ∃ C : Addr, x = .ref a ∧ cls = .ref C ∧ XfC K C ∧ PySem.W.findIn K (.ref C) f = some none ∧ ∃ (dd : Addr) (fs : List (Str × V)) (v : V), d = some dd ∧ H1 dd = some (.xd fs) ∧ fs.lookup f = some v ∧ Q v H1
theorem pe_xg {e : Expr} {te : TE} {pos : Pos} {n : Str} (he : PE X e te) (hz : Zc cls d oe) (hf : ∃ vs, oe.data = .fields vs) (hp : (a, oe) ∈ X.pn) (hb : attributeBase e n X.env (eval e X.env) = eval e X.env := by rfl) :
    PE X (.Attribute e n pos) (tXg X.K a cls d n te) := by
  refine ⟨fun pins s σ H Q I h => ?_⟩
  refine attr_of hb (thn (he.run pins s σ H _ I h) fun u s1 hh => ?_)
  obtain ⟨x, H1, I1, rx, C, ex, ec, T, hno, dd, fs, v, ed, ea, l, q⟩ := hh
  subst ex
  obtain rfl : u = Value.ref a := rx
  subst ec
  subst ed
  obtain ⟨ha, _⟩ := I1.pin (a, oe) (List.mem_append_left _ hp)
  obtain ⟨vs, hd⟩ := hf
  have hx : ObjOk X.prog X.w H1 s1.heap dd (.xd fs) := I1.hok dd _ ea
  obtain ⟨mA, hns, hr⟩ := hx
  obtain ⟨od, ho, hl⟩ := lookIn_ns hns
  obtain ⟨u, hu, ru⟩ := RelO.some_of (v := v) (o := mA n) (by rw [← l]; exact hr n)
  have J : PySem.W.InstAt s1.heap a oe C (some od) := ⟨ha, hz.1, by unfold PySem.W.notCls; rw [hd] <;> rfl, by rw [hz.2]; exact ho⟩
  exact HandSPX.exc_get I1.kIn J T.ga T.gg T.exC (PySem.W.findObj_own T.hdC hno rfl (by rw [hl, hu])) (handed_of ru) ⟨v, H1, I1.tok _, ru, q⟩
theorem pe_xgS {e : Expr} {te : TE} {pos : Pos} {n : Str} (he : PE (X.suite a ((a, oe) :: pn)) e te) (hz : Zc cls d oe) (hf : ∃ vs, oe.data = .fields vs) (hb : attributeBase e n X.env (eval e X.env) = eval e X.env := by rfl) :
    PE (X.suite a ((a, oe) :: pn)) (.Attribute e n pos) (tXg X.K a cls d n te) := pe_xg (X := X.suite a ((a, oe) :: pn)) he hz hf List.mem_cons_self hb
theorem call_isXS (hz : Zc cls d oe) (hf : ∃ vs, oe.data = .fields vs) : CallR (X.suite a ((a, oe) :: pn)) (.builtin "isinstance") (rIsX X.K a cls d) := call_isX (X := X.suite a ((a, oe) :: pn)) hz hf List.mem_cons_self
theorem i_isX {K : PySem.W.Frag} {Q : VK} {C : Addr} {c : V} {cv : Value} {b : Bool} (x : ExcC K C) (hd : ∀ dd, d = some dd → ∃ fs, H dd = some (.xd fs)) (hc : ∀ u, RelV c u → u = cv) (e : PySem.W.kitOne K (.ref C) cv = some b) (h : Q (.bl b) H) : rIsX K a (.ref C) d [.ref a, c] H Q := ⟨C, c, cv, b, rfl, x, hd, rfl, hc, e, h⟩
def kXg (K : PySem.W.Frag) (a : Addr) (cls : Value) (d : Option Addr) (f : Str) (Q : VK) : VK := fun x H1 => ∃ C : Addr, x = .ref a ∧ cls = .ref C ∧ XfC K C ∧ PySem.W.findIn K (.ref C) f = some none ∧ ∃ (dd : Addr) (fs : List (Str × V)) (v : V), d = some dd ∧ H1 dd = some (.xd fs) ∧ fs.lookup f = some v ∧ Q v H1
theorem i_xg {K : PySem.W.Frag} {Q : VK} {f : Str} {te : TE} (h : te σ H (kXg K a cls d f Q)) : tXg K a cls d f te σ H Q := h
theorem i_xge {K : PySem.W.Frag} {Q : VK} {C dd : Addr} {f : Str} {fs : List (Str × V)} {v : V} (x : XfC K C) (no : PySem.W.findIn K (.ref C) f = some none) (e : H dd = some (.xd fs)) (l : fs.lookup f = some v) (h : Q v H) : kXg K a (.ref C) (some dd) f Q (.ref a) H := ⟨C, rfl, rfl, x, no, dd, fs, v, rfl, e, l, h⟩
end
/-! defs called where an exception is handled -/
def OkH (P : Program) (w : World) (K : PySem.W.Frag) (mg : Str → Option Value) (base : Heap) (k : Nat) (f : Addr) (ps : List Str) (sp : Sp) : Prop :=
  ∃ (fd : FuncData), PySem.W.keepIn K (.ref f) = true ∧ Binds K fd ps [] ∧ L2H.FnH P w K mg base (L2N.CX P w) k f fd ps sp
theorem OkH.mono {P : Program} {w : World} {K : PySem.W.Frag} {mg : Str → Option Value} {base : Heap} {j k : Nat} {f : Addr} {ps : List Str} {sp : Sp} (F : OkH P w K mg base j f ps sp) (h : j ≤ k) : OkH P w K mg base k f ps sp := by
  obtain ⟨fd, a, b, c⟩ := F
  exact ⟨fd, a, b, c.len, fun A outer s H args us vs Q E p hr => c.run A outer s H args us vs Q E p (hr.mono h)⟩
theorem FunD.okH {CX : CXT} {P : Program} {w : World} {K : PySem.W.Frag} {mg : Str → Option Value} {base : Heap} {x qual : Str} {params : Arguments} {body : List Stmt} {scope : Scope} {dvs : List V} {kws : List (Str × V)} {f : Addr} {fd : FuncData} {N ps : List Str} {k : Nat} {sp : Sp}
    (F : FunD K x qual params body scope dvs kws f fd) (S : FnScope N ps scope) (len : ∀ vs H Q E, sp vs H Q E → vs.length = ps.length)
    (hbody : ∀ (cdv : Value) (A : Around) (outer : List Env) (s : Shared) (H : Hp) (vs : List V) (Q : VK) (E : XK) (p : Addr × Obj), L2H.Hot1 A p → L2H.RoomH k (A.deeper (envOfC qual scope s.heap.objs.size f cdv)) → sp vs H Q E →
      ∃ t, PSs (L2H.cxH CX P w K mg base N qual scope f cdv A outer s H E p) body t ∧ t { nx := fun _ H' => Q .non H', rt := Q } (start N vs) H) : L2H.FnH P w K mg base CX (k + 1) f fd ps sp := by
  obtain ⟨oc, od, dV, kV, doc, pm, an, cdv, ct, osl, rfl, lk, hcd, _, _⟩ := F.ex
  exact L2H.fn_ofH lk hcd S len fun A outer s H vs Q E p hh hr hsp => hbody cdv A outer s H vs Q E p hh hr hsp
section
variable {X : Cx} {k : Nat} {f : Addr} {ps : List Str} {sp : Sp} {x : Str} {p pos : Pos} {e : Expr} {es : List Expr} {t : TA} {G : List Str} {σ : L2.St} {H : Hp} {Q : VK}
theorem passH {X : Cx} (σ : L2.St) : PassesAt (L2N.CX X.prog X.w) X σ EF := fun _ _ _ _ _ _ q => (cxF q).elim
theorem pcH (F : OkH X.prog X.w X.K X.mg X.base k f ps sp) (hr : L2H.RoomH k X.A) (hc : L2H.HotC X) (hg : glB G X.env.scope = true) (n : Nat) (hm : X.mg x = some (.ref f)) (ha : PA X (e :: es) t) (hx : G[n]? = some x := by rfl)
    (he : starEach (e :: es) X.env = (false, eval e X.env) :: starEach es X.env := by rfl) (hpl : (backTo pos (starEach es X.env)).any (·.1) = false := by rfl) : PE X (.Call (.Name x p) (e :: es) [] pos) (tCall sp [] EF t) := by
  obtain ⟨fd, kp, b, F⟩ := F
  have q := L2H.pe_callH (q := p) (pos := pos) (E := fun _ => EF) F hr hc (gl_of hg hx).1 hm kp b (fun σ => passH σ) ha (gl_of hg hx).2.1 he hpl
  have e2 : tCall sp [] EF t = tCallS sp (fun _ => EF) t := by
    funext σ H Q
    show (t σ H fun vs H1 => sp (vs ++ []) H1 Q EF) = (t σ H fun vs H1 => sp vs H1 Q EF)
    simp only [List.append_nil]
  rw [e2]
  exact q
/-- in a suite: the handled exception's context is None -/
theorem hot_suite {X : Cx} {a : Addr} {oe : Obj} {cls : Value} {d : Option Addr} {pn : List (Addr × Obj)} (hz : L2N.Zn cls d oe) (hf : ∃ vs, oe.data = .fields vs) : L2H.HotC (X.suite a ((a, oe) :: pn)) := by
  obtain ⟨vs, hv⟩ := hf
  exact ⟨(a, oe), ⟨rfl, vs, hv, hz.2.2 vs hv⟩, List.mem_cons_self⟩
theorem room_suite {X : Cx} {a : Addr} {pn : List (Addr × Obj)} {j : Nat} (hr : Room j X.A) (h : k ≤ j) : L2H.RoomH k (X.suite a pn).A := ⟨by have := hr.dp; show X.A.depth + 3 * k + 5 < _; omega, by have := hr.un; show X.A.units + 16 * k + 200 < _; omega⟩
end
end Z

namespace Z
open PySem PySem.W PySem.Spec L2
open PyProof.Rows hiding St
section
variable {K : PySem.W.Frag} {c cls : Value} {ts : Addr → Value → Option Addr → TS} {Wout : WX} {D : Ends} {H : Hp} {d : Option Addr}
theorem cat0 {z : Option V} {r : L2.St} (e : PySem.W.exmOne K cls c = some true) (h : ∀ a, H a = none → ts a cls d { nx := fun σ' H' => D.nx (σ'.set 0 none) H', rt := D.rt, bk := fun σ' H' => D.bk (σ'.set 0 none) H', ct := fun σ' H' => D.ct (σ'.set 0 none) H' } (some (.ref a) :: r) H) : wAs K c 0 ts Wout D cls d (z :: r) H := ⟨true, e, fun _ => h, fun q => nomatch q⟩
theorem cls0 {z : Option V} {r : L2.St} {F : L2.St → Hp → Prop} {rt : VK} {b1 b2 : L2.St → Hp → Prop} (h : F (none :: r) H) : (Ends.mk (fun σ' H' => F (σ'.set 0 none) H') rt b1 b2).nx (z :: r) H := h
theorem cat1 {a0 z : Option V} {r : L2.St} (e : PySem.W.exmOne K cls c = some true) (h : ∀ a, H a = none → ts a cls d { nx := fun σ' H' => D.nx (σ'.set 1 none) H', rt := D.rt, bk := fun σ' H' => D.bk (σ'.set 1 none) H', ct := fun σ' H' => D.ct (σ'.set 1 none) H' } (a0 :: some (.ref a) :: r) H) : wAs K c 1 ts Wout D cls d (a0 :: z :: r) H := ⟨true, e, fun _ => h, fun q => nomatch q⟩
theorem cls1 {a0 z : Option V} {r : L2.St} {F : L2.St → Hp → Prop} {rt : VK} {b1 b2 : L2.St → Hp → Prop} (h : F (a0 :: none :: r) H) : (Ends.mk (fun σ' H' => F (σ'.set 1 none) H') rt b1 b2).nx (a0 :: z :: r) H := h
theorem cat2 {a0 a1 z : Option V} {r : L2.St} (e : PySem.W.exmOne K cls c = some true) (h : ∀ a, H a = none → ts a cls d { nx := fun σ' H' => D.nx (σ'.set 2 none) H', rt := D.rt, bk := fun σ' H' => D.bk (σ'.set 2 none) H', ct := fun σ' H' => D.ct (σ'.set 2 none) H' } (a0 :: a1 :: some (.ref a) :: r) H) : wAs K c 2 ts Wout D cls d (a0 :: a1 :: z :: r) H := ⟨true, e, fun _ => h, fun q => nomatch q⟩
theorem cls2 {a0 a1 z : Option V} {r : L2.St} {F : L2.St → Hp → Prop} {rt : VK} {b1 b2 : L2.St → Hp → Prop} (h : F (a0 :: a1 :: none :: r) H) : (Ends.mk (fun σ' H' => F (σ'.set 2 none) H') rt b1 b2).nx (a0 :: a1 :: z :: r) H := h
theorem cat3 {a0 a1 a2 z : Option V} {r : L2.St} (e : PySem.W.exmOne K cls c = some true) (h : ∀ a, H a = none → ts a cls d { nx := fun σ' H' => D.nx (σ'.set 3 none) H', rt := D.rt, bk := fun σ' H' => D.bk (σ'.set 3 none) H', ct := fun σ' H' => D.ct (σ'.set 3 none) H' } (a0 :: a1 :: a2 :: some (.ref a) :: r) H) : wAs K c 3 ts Wout D cls d (a0 :: a1 :: a2 :: z :: r) H := ⟨true, e, fun _ => h, fun q => nomatch q⟩
theorem cls3 {a0 a1 a2 z : Option V} {r : L2.St} {F : L2.St → Hp → Prop} {rt : VK} {b1 b2 : L2.St → Hp → Prop} (h : F (a0 :: a1 :: a2 :: none :: r) H) : (Ends.mk (fun σ' H' => F (σ'.set 3 none) H') rt b1 b2).nx (a0 :: a1 :: a2 :: z :: r) H := h
theorem cat4 {a0 a1 a2 a3 z : Option V} {r : L2.St} (e : PySem.W.exmOne K cls c = some true) (h : ∀ a, H a = none → ts a cls d { nx := fun σ' H' => D.nx (σ'.set 4 none) H', rt := D.rt, bk := fun σ' H' => D.bk (σ'.set 4 none) H', ct := fun σ' H' => D.ct (σ'.set 4 none) H' } (a0 :: a1 :: a2 :: a3 :: some (.ref a) :: r) H) : wAs K c 4 ts Wout D cls d (a0 :: a1 :: a2 :: a3 :: z :: r) H := ⟨true, e, fun _ => h, fun q => nomatch q⟩
theorem cls4 {a0 a1 a2 a3 z : Option V} {r : L2.St} {F : L2.St → Hp → Prop} {rt : VK} {b1 b2 : L2.St → Hp → Prop} (h : F (a0 :: a1 :: a2 :: a3 :: none :: r) H) : (Ends.mk (fun σ' H' => F (σ'.set 4 none) H') rt b1 b2).nx (a0 :: a1 :: a2 :: a3 :: z :: r) H := h
theorem cat5 {a0 a1 a2 a3 a4 z : Option V} {r : L2.St} (e : PySem.W.exmOne K cls c = some true) (h : ∀ a, H a = none → ts a cls d { nx := fun σ' H' => D.nx (σ'.set 5 none) H', rt := D.rt, bk := fun σ' H' => D.bk (σ'.set 5 none) H', ct := fun σ' H' => D.ct (σ'.set 5 none) H' } (a0 :: a1 :: a2 :: a3 :: a4 :: some (.ref a) :: r) H) : wAs K c 5 ts Wout D cls d (a0 :: a1 :: a2 :: a3 :: a4 :: z :: r) H := ⟨true, e, fun _ => h, fun q => nomatch q⟩
theorem cls5 {a0 a1 a2 a3 a4 z : Option V} {r : L2.St} {F : L2.St → Hp → Prop} {rt : VK} {b1 b2 : L2.St → Hp → Prop} (h : F (a0 :: a1 :: a2 :: a3 :: a4 :: none :: r) H) : (Ends.mk (fun σ' H' => F (σ'.set 5 none) H') rt b1 b2).nx (a0 :: a1 :: a2 :: a3 :: a4 :: z :: r) H := h
theorem cat6 {a0 a1 a2 a3 a4 a5 z : Option V} {r : L2.St} (e : PySem.W.exmOne K cls c = some true) (h : ∀ a, H a = none → ts a cls d { nx := fun σ' H' => D.nx (σ'.set 6 none) H', rt := D.rt, bk := fun σ' H' => D.bk (σ'.set 6 none) H', ct := fun σ' H' => D.ct (σ'.set 6 none) H' } (a0 :: a1 :: a2 :: a3 :: a4 :: a5 :: some (.ref a) :: r) H) : wAs K c 6 ts Wout D cls d (a0 :: a1 :: a2 :: a3 :: a4 :: a5 :: z :: r) H := ⟨true, e, fun _ => h, fun q => nomatch q⟩
theorem cls6 {a0 a1 a2 a3 a4 a5 z : Option V} {r : L2.St} {F : L2.St → Hp → Prop} {rt : VK} {b1 b2 : L2.St → Hp → Prop} (h : F (a0 :: a1 :: a2 :: a3 :: a4 :: a5 :: none :: r) H) : (Ends.mk (fun σ' H' => F (σ'.set 6 none) H') rt b1 b2).nx (a0 :: a1 :: a2 :: a3 :: a4 :: a5 :: z :: r) H := h
theorem cat7 {a0 a1 a2 a3 a4 a5 a6 z : Option V} {r : L2.St} (e : PySem.W.exmOne K cls c = some true) (h : ∀ a, H a = none → ts a cls d { nx := fun σ' H' => D.nx (σ'.set 7 none) H', rt := D.rt, bk := fun σ' H' => D.bk (σ'.set 7 none) H', ct := fun σ' H' => D.ct (σ'.set 7 none) H' } (a0 :: a1 :: a2 :: a3 :: a4 :: a5 :: a6 :: some (.ref a) :: r) H) : wAs K c 7 ts Wout D cls d (a0 :: a1 :: a2 :: a3 :: a4 :: a5 :: a6 :: z :: r) H := ⟨true, e, fun _ => h, fun q => nomatch q⟩
theorem cls7 {a0 a1 a2 a3 a4 a5 a6 z : Option V} {r : L2.St} {F : L2.St → Hp → Prop} {rt : VK} {b1 b2 : L2.St → Hp → Prop} (h : F (a0 :: a1 :: a2 :: a3 :: a4 :: a5 :: a6 :: none :: r) H) : (Ends.mk (fun σ' H' => F (σ'.set 7 none) H') rt b1 b2).nx (a0 :: a1 :: a2 :: a3 :: a4 :: a5 :: a6 :: z :: r) H := h
theorem cat8 {a0 a1 a2 a3 a4 a5 a6 a7 z : Option V} {r : L2.St} (e : PySem.W.exmOne K cls c = some true) (h : ∀ a, H a = none → ts a cls d { nx := fun σ' H' => D.nx (σ'.set 8 none) H', rt := D.rt, bk := fun σ' H' => D.bk (σ'.set 8 none) H', ct := fun σ' H' => D.ct (σ'.set 8 none) H' } (a0 :: a1 :: a2 :: a3 :: a4 :: a5 :: a6 :: a7 :: some (.ref a) :: r) H) : wAs K c 8 ts Wout D cls d (a0 :: a1 :: a2 :: a3 :: a4 :: a5 :: a6 :: a7 :: z :: r) H := ⟨true, e, fun _ => h, fun q => nomatch q⟩
theorem cls8 {a0 a1 a2 a3 a4 a5 a6 a7 z : Option V} {r : L2.St} {F : L2.St → Hp → Prop} {rt : VK} {b1 b2 : L2.St → Hp → Prop} (h : F (a0 :: a1 :: a2 :: a3 :: a4 :: a5 :: a6 :: a7 :: none :: r) H) : (Ends.mk (fun σ' H' => F (σ'.set 8 none) H') rt b1 b2).nx (a0 :: a1 :: a2 :: a3 :: a4 :: a5 :: a6 :: a7 :: z :: r) H := h
theorem cat9 {a0 a1 a2 a3 a4 a5 a6 a7 a8 z : Option V} {r : L2.St} (e : PySem.W.exmOne K cls c = some true) (h : ∀ a, H a = none → ts a cls d { nx := fun σ' H' => D.nx (σ'.set 9 none) H', rt := D.rt, bk := fun σ' H' => D.bk (σ'.set 9 none) H', ct := fun σ' H' => D.ct (σ'.set 9 none) H' } (a0 :: a1 :: a2 :: a3 :: a4 :: a5 :: a6 :: a7 :: a8 :: some (.ref a) :: r) H) : wAs K c 9 ts Wout D cls d (a0 :: a1 :: a2 :: a3 :: a4 :: a5 :: a6 :: a7 :: a8 :: z :: r) H := ⟨true, e, fun _ => h, fun q => nomatch q⟩
theorem cls9 {a0 a1 a2 a3 a4 a5 a6 a7 a8 z : Option V} {r : L2.St} {F : L2.St → Hp → Prop} {rt : VK} {b1 b2 : L2.St → Hp → Prop} (h : F (a0 :: a1 :: a2 :: a3 :: a4 :: a5 :: a6 :: a7 :: a8 :: none :: r) H) : (Ends.mk (fun σ' H' => F (σ'.set 9 none) H') rt b1 b2).nx (a0 :: a1 :: a2 :: a3 :: a4 :: a5 :: a6 :: a7 :: a8 :: z :: r) H := h
theorem cat10 {a0 a1 a2 a3 a4 a5 a6 a7 a8 a9 z : Option V} {r : L2.St} (e : PySem.W.exmOne K cls c = some true) (h : ∀ a, H a = none → ts a cls d { nx := fun σ' H' => D.nx (σ'.set 10 none) H', rt := D.rt, bk := fun σ' H' => D.bk (σ'.set 10 none) H', ct := fun σ' H' => D.ct (σ'.set 10 none) H' } (a0 :: a1 :: a2 :: a3 :: a4 :: a5 :: a6 :: a7 :: a8 :: a9 :: some (.ref a) :: r) H) : wAs K c 10 ts Wout D cls d (a0 :: a1 :: a2 :: a3 :: a4 :: a5 :: a6 :: a7 :: a8 :: a9 :: z :: r) H := ⟨true, e, fun _ => h, fun q => nomatch q⟩
theorem cls10 {a0 a1 a2 a3 a4 a5 a6 a7 a8 a9 z : Option V} {r : L2.St} {F : L2.St → Hp → Prop} {rt : VK} {b1 b2 : L2.St → Hp → Prop} (h : F (a0 :: a1 :: a2 :: a3 :: a4 :: a5 :: a6 :: a7 :: a8 :: a9 :: none :: r) H) : (Ends.mk (fun σ' H' => F (σ'.set 10 none) H') rt b1 b2).nx (a0 :: a1 :: a2 :: a3 :: a4 :: a5 :: a6 :: a7 :: a8 :: a9 :: z :: r) H := h
theorem cat11 {a0 a1 a2 a3 a4 a5 a6 a7 a8 a9 a10 z : Option V} {r : L2.St} (e : PySem.W.exmOne K cls c = some true) (h : ∀ a, H a = none → ts a cls d { nx := fun σ' H' => D.nx (σ'.set 11 none) H', rt := D.rt, bk := fun σ' H' => D.bk (σ'.set 11 none) H', ct := fun σ' H' => D.ct (σ'.set 11 none) H' } (a0 :: a1 :: a2 :: a3 :: a4 :: a5 :: a6 :: a7 :: a8 :: a9 :: a10 :: some (.ref a) :: r) H) : wAs K c 11 ts Wout D cls d (a0 :: a1 :: a2 :: a3 :: a4 :: a5 :: a6 :: a7 :: a8 :: a9 :: a10 :: z :: r) H := ⟨true, e, fun _ => h, fun q => nomatch q⟩
theorem cls11 {a0 a1 a2 a3 a4 a5 a6 a7 a8 a9 a10 z : Option V} {r : L2.St} {F : L2.St → Hp → Prop} {rt : VK} {b1 b2 : L2.St → Hp → Prop} (h : F (a0 :: a1 :: a2 :: a3 :: a4 :: a5 :: a6 :: a7 :: a8 :: a9 :: a10 :: none :: r) H) : (Ends.mk (fun σ' H' => F (σ'.set 11 none) H') rt b1 b2).nx (a0 :: a1 :: a2 :: a3 :: a4 :: a5 :: a6 :: a7 :: a8 :: a9 :: a10 :: z :: r) H := h
theorem cat12 {a0 a1 a2 a3 a4 a5 a6 a7 a8 a9 a10 a11 z : Option V} {r : L2.St} (e : PySem.W.exmOne K cls c = some true) (h : ∀ a, H a = none → ts a cls d { nx := fun σ' H' => D.nx (σ'.set 12 none) H', rt := D.rt, bk := fun σ' H' => D.bk (σ'.set 12 none) H', ct := fun σ' H' => D.ct (σ'.set 12 none) H' } (a0 :: a1 :: a2 :: a3 :: a4 :: a5 :: a6 :: a7 :: a8 :: a9 :: a10 :: a11 :: some (.ref a) :: r) H) : wAs K c 12 ts Wout D cls d (a0 :: a1 :: a2 :: a3 :: a4 :: a5 :: a6 :: a7 :: a8 :: a9 :: a10 :: a11 :: z :: r) H := ⟨true, e, fun _ => h, fun q => nomatch q⟩
theorem cls12 {a0 a1 a2 a3 a4 a5 a6 a7 a8 a9 a10 a11 z : Option V} {r : L2.St} {F : L2.St → Hp → Prop} {rt : VK} {b1 b2 : L2.St → Hp → Prop} (h : F (a0 :: a1 :: a2 :: a3 :: a4 :: a5 :: a6 :: a7 :: a8 :: a9 :: a10 :: a11 :: none :: r) H) : (Ends.mk (fun σ' H' => F (σ'.set 12 none) H') rt b1 b2).nx (a0 :: a1 :: a2 :: a3 :: a4 :: a5 :: a6 :: a7 :: a8 :: a9 :: a10 :: a11 :: z :: r) H := h
theorem cat13 {a0 a1 a2 a3 a4 a5 a6 a7 a8 a9 a10 a11 a12 z : Option V} {r : L2.St} (e : PySem.W.exmOne K cls c = some true) (h : ∀ a, H a = none → ts a cls d { nx := fun σ' H' => D.nx (σ'.set 13 none) H', rt := D.rt, bk := fun σ' H' => D.bk (σ'.set 13 none) H', ct := fun σ' H' => D.ct (σ'.set 13 none) H' } (a0 :: a1 :: a2 :: a3 :: a4 :: a5 :: a6 :: a7 :: a8 :: a9 :: a10 :: a11 :: a12 :: some (.ref a) :: r) H) : wAs K c 13 ts Wout D cls d (a0 :: a1 :: a2 :: a3 :: a4 :: a5 :: a6 :: a7 :: a8 :: a9 :: a10 :: a11 :: a12 :: z :: r) H := ⟨true, e, fun _ => h, fun q => nomatch q⟩
theorem cls13 {a0 a1 a2 a3 a4 a5 a6 a7 a8 a9 a10 a11 a12 z : Option V} {r : L2.St} {F : L2.St → Hp → Prop} {rt : VK} {b1 b2 : L2.St → Hp → Prop} (h : F (a0 :: a1 :: a2 :: a3 :: a4 :: a5 :: a6 :: a7 :: a8 :: a9 :: a10 :: a11 :: a12 :: none :: r) H) : (Ends.mk (fun σ' H' => F (σ'.set 13 none) H') rt b1 b2).nx (a0 :: a1 :: a2 :: a3 :: a4 :: a5 :: a6 :: a7 :: a8 :: a9 :: a10 :: a11 :: a12 :: z :: r) H := h
theorem cat14 {a0 a1 a2 a3 a4 a5 a6 a7 a8 a9 a10 a11 a12 a13 z : Option V} {r : L2.St} (e : PySem.W.exmOne K cls c = some true) (h : ∀ a, H a = none → ts a cls d { nx := fun σ' H' => D.nx (σ'.set 14 none) H', rt := D.rt, bk := fun σ' H' => D.bk (σ'.set 14 none) H', ct := fun σ' H' => D.ct (σ'.set 14 none) H' } (a0 :: a1 :: a2 :: a3 :: a4 :: a5 :: a6 :: a7 :: a8 :: a9 :: a10 :: a11 :: a12 :: a13 :: some (.ref a) :: r) H) : wAs K c 14 ts Wout D cls d (a0 :: a1 :: a2 :: a3 :: a4 :: a5 :: a6 :: a7 :: a8 :: a9 :: a10 :: a11 :: a12 :: a13 :: z :: r) H := ⟨true, e, fun _ => h, fun q => nomatch q⟩
theorem cls14 {a0 a1 a2 a3 a4 a5 a6 a7 a8 a9 a10 a11 a12 a13 z : Option V} {r : L2.St} {F : L2.St → Hp → Prop} {rt : VK} {b1 b2 : L2.St → Hp → Prop} (h : F (a0 :: a1 :: a2 :: a3 :: a4 :: a5 :: a6 :: a7 :: a8 :: a9 :: a10 :: a11 :: a12 :: a13 :: none :: r) H) : (Ends.mk (fun σ' H' => F (σ'.set 14 none) H') rt b1 b2).nx (a0 :: a1 :: a2 :: a3 :: a4 :: a5 :: a6 :: a7 :: a8 :: a9 :: a10 :: a11 :: a12 :: a13 :: z :: r) H := h
theorem cat15 {a0 a1 a2 a3 a4 a5 a6 a7 a8 a9 a10 a11 a12 a13 a14 z : Option V} {r : L2.St} (e : PySem.W.exmOne K cls c = some true) (h : ∀ a, H a = none → ts a cls d { nx := fun σ' H' => D.nx (σ'.set 15 none) H', rt := D.rt, bk := fun σ' H' => D.bk (σ'.set 15 none) H', ct := fun σ' H' => D.ct (σ'.set 15 none) H' } (a0 :: a1 :: a2 :: a3 :: a4 :: a5 :: a6 :: a7 :: a8 :: a9 :: a10 :: a11 :: a12 :: a13 :: a14 :: some (.ref a) :: r) H) : wAs K c 15 ts Wout D cls d (a0 :: a1 :: a2 :: a3 :: a4 :: a5 :: a6 :: a7 :: a8 :: a9 :: a10 :: a11 :: a12 :: a13 :: a14 :: z :: r) H := ⟨true, e, fun _ => h, fun q => nomatch q⟩
theorem cls15 {a0 a1 a2 a3 a4 a5 a6 a7 a8 a9 a10 a11 a12 a13 a14 z : Option V} {r : L2.St} {F : L2.St → Hp → Prop} {rt : VK} {b1 b2 : L2.St → Hp → Prop} (h : F (a0 :: a1 :: a2 :: a3 :: a4 :: a5 :: a6 :: a7 :: a8 :: a9 :: a10 :: a11 :: a12 :: a13 :: a14 :: none :: r) H) : (Ends.mk (fun σ' H' => F (σ'.set 15 none) H') rt b1 b2).nx (a0 :: a1 :: a2 :: a3 :: a4 :: a5 :: a6 :: a7 :: a8 :: a9 :: a10 :: a11 :: a12 :: a13 :: a14 :: z :: r) H := h
theorem cat16 {a0 a1 a2 a3 a4 a5 a6 a7 a8 a9 a10 a11 a12 a13 a14 a15 z : Option V} {r : L2.St} (e : PySem.W.exmOne K cls c = some true) (h : ∀ a, H a = none → ts a cls d { nx := fun σ' H' => D.nx (σ'.set 16 none) H', rt := D.rt, bk := fun σ' H' => D.bk (σ'.set 16 none) H', ct := fun σ' H' => D.ct (σ'.set 16 none) H' } (a0 :: a1 :: a2 :: a3 :: a4 :: a5 :: a6 :: a7 :: a8 :: a9 :: a10 :: a11 :: a12 :: a13 :: a14 :: a15 :: some (.ref a) :: r) H) : wAs K c 16 ts Wout D cls d (a0 :: a1 :: a2 :: a3 :: a4 :: a5 :: a6 :: a7 :: a8 :: a9 :: a10 :: a11 :: a12 :: a13 :: a14 :: a15 :: z :: r) H := ⟨true, e, fun _ => h, fun q => nomatch q⟩
theorem cls16 {a0 a1 a2 a3 a4 a5 a6 a7 a8 a9 a10 a11 a12 a13 a14 a15 z : Option V} {r : L2.St} {F : L2.St → Hp → Prop} {rt : VK} {b1 b2 : L2.St → Hp → Prop} (h : F (a0 :: a1 :: a2 :: a3 :: a4 :: a5 :: a6 :: a7 :: a8 :: a9 :: a10 :: a11 :: a12 :: a13 :: a14 :: a15 :: none :: r) H) : (Ends.mk (fun σ' H' => F (σ'.set 16 none) H') rt b1 b2).nx (a0 :: a1 :: a2 :: a3 :: a4 :: a5 :: a6 :: a7 :: a8 :: a9 :: a10 :: a11 :: a12 :: a13 :: a14 :: a15 :: z :: r) H := h
theorem cat17 {a0 a1 a2 a3 a4 a5 a6 a7 a8 a9 a10 a11 a12 a13 a14 a15 a16 z : Option V} {r : L2.St} (e : PySem.W.exmOne K cls c = some true) (h : ∀ a, H a = none → ts a cls d { nx := fun σ' H' => D.nx (σ'.set 17 none) H', rt := D.rt, bk := fun σ' H' => D.bk (σ'.set 17 none) H', ct := fun σ' H' => D.ct (σ'.set 17 none) H' } (a0 :: a1 :: a2 :: a3 :: a4 :: a5 :: a6 :: a7 :: a8 :: a9 :: a10 :: a11 :: a12 :: a13 :: a14 :: a15 :: a16 :: some (.ref a) :: r) H) : wAs K c 17 ts Wout D cls d (a0 :: a1 :: a2 :: a3 :: a4 :: a5 :: a6 :: a7 :: a8 :: a9 :: a10 :: a11 :: a12 :: a13 :: a14 :: a15 :: a16 :: z :: r) H := ⟨true, e, fun _ => h, fun q => nomatch q⟩
theorem cls17 {a0 a1 a2 a3 a4 a5 a6 a7 a8 a9 a10 a11 a12 a13 a14 a15 a16 z : Option V} {r : L2.St} {F : L2.St → Hp → Prop} {rt : VK} {b1 b2 : L2.St → Hp → Prop} (h : F (a0 :: a1 :: a2 :: a3 :: a4 :: a5 :: a6 :: a7 :: a8 :: a9 :: a10 :: a11 :: a12 :: a13 :: a14 :: a15 :: a16 :: none :: r) H) : (Ends.mk (fun σ' H' => F (σ'.set 17 none) H') rt b1 b2).nx (a0 :: a1 :: a2 :: a3 :: a4 :: a5 :: a6 :: a7 :: a8 :: a9 :: a10 :: a11 :: a12 :: a13 :: a14 :: a15 :: a16 :: z :: r) H := h
theorem cat18 {a0 a1 a2 a3 a4 a5 a6 a7 a8 a9 a10 a11 a12 a13 a14 a15 a16 a17 z : Option V} {r : L2.St} (e : PySem.W.exmOne K cls c = some true) (h : ∀ a, H a = none → ts a cls d { nx := fun σ' H' => D.nx (σ'.set 18 none) H', rt := D.rt, bk := fun σ' H' => D.bk (σ'.set 18 none) H', ct := fun σ' H' => D.ct (σ'.set 18 none) H' } (a0 :: a1 :: a2 :: a3 :: a4 :: a5 :: a6 :: a7 :: a8 :: a9 :: a10 :: a11 :: a12 :: a13 :: a14 :: a15 :: a16 :: a17 :: some (.ref a) :: r) H) : wAs K c 18 ts Wout D cls d (a0 :: a1 :: a2 :: a3 :: a4 :: a5 :: a6 :: a7 :: a8 :: a9 :: a10 :: a11 :: a12 :: a13 :: a14 :: a15 :: a16 :: a17 :: z :: r) H := ⟨true, e, fun _ => h, fun q => nomatch q⟩
theorem cls18 {a0 a1 a2 a3 a4 a5 a6 a7 a8 a9 a10 a11 a12 a13 a14 a15 a16 a17 z : Option V} {r : L2.St} {F : L2.St → Hp → Prop} {rt : VK} {b1 b2 : L2.St → Hp → Prop} (h : F (a0 :: a1 :: a2 :: a3 :: a4 :: a5 :: a6 :: a7 :: a8 :: a9 :: a10 :: a11 :: a12 :: a13 :: a14 :: a15 :: a16 :: a17 :: none :: r) H) : (Ends.mk (fun σ' H' => F (σ'.set 18 none) H') rt b1 b2).nx (a0 :: a1 :: a2 :: a3 :: a4 :: a5 :: a6 :: a7 :: a8 :: a9 :: a10 :: a11 :: a12 :: a13 :: a14 :: a15 :: a16 :: a17 :: z :: r) H := h
theorem cat19 {a0 a1 a2 a3 a4 a5 a6 a7 a8 a9 a10 a11 a12 a13 a14 a15 a16 a17 a18 z : Option V} {r : L2.St} (e : PySem.W.exmOne K cls c = some true) (h : ∀ a, H a = none → ts a cls d { nx := fun σ' H' => D.nx (σ'.set 19 none) H', rt := D.rt, bk := fun σ' H' => D.bk (σ'.set 19 none) H', ct := fun σ' H' => D.ct (σ'.set 19 none) H' } (a0 :: a1 :: a2 :: a3 :: a4 :: a5 :: a6 :: a7 :: a8 :: a9 :: a10 :: a11 :: a12 :: a13 :: a14 :: a15 :: a16 :: a17 :: a18 :: some (.ref a) :: r) H) : wAs K c 19 ts Wout D cls d (a0 :: a1 :: a2 :: a3 :: a4 :: a5 :: a6 :: a7 :: a8 :: a9 :: a10 :: a11 :: a12 :: a13 :: a14 :: a15 :: a16 :: a17 :: a18 :: z :: r) H := ⟨true, e, fun _ => h, fun q => nomatch q⟩
theorem cls19 {a0 a1 a2 a3 a4 a5 a6 a7 a8 a9 a10 a11 a12 a13 a14 a15 a16 a17 a18 z : Option V} {r : L2.St} {F : L2.St → Hp → Prop} {rt : VK} {b1 b2 : L2.St → Hp → Prop} (h : F (a0 :: a1 :: a2 :: a3 :: a4 :: a5 :: a6 :: a7 :: a8 :: a9 :: a10 :: a11 :: a12 :: a13 :: a14 :: a15 :: a16 :: a17 :: a18 :: none :: r) H) : (Ends.mk (fun σ' H' => F (σ'.set 19 none) H') rt b1 b2).nx (a0 :: a1 :: a2 :: a3 :: a4 :: a5 :: a6 :: a7 :: a8 :: a9 :: a10 :: a11 :: a12 :: a13 :: a14 :: a15 :: a16 :: a17 :: a18 :: z :: r) H := h
theorem cat20 {a0 a1 a2 a3 a4 a5 a6 a7 a8 a9 a10 a11 a12 a13 a14 a15 a16 a17 a18 a19 z : Option V} {r : L2.St} (e : PySem.W.exmOne K cls c = some true) (h : ∀ a, H a = none → ts a cls d { nx := fun σ' H' => D.nx (σ'.set 20 none) H', rt := D.rt, bk := fun σ' H' => D.bk (σ'.set 20 none) H', ct := fun σ' H' => D.ct (σ'.set 20 none) H' } (a0 :: a1 :: a2 :: a3 :: a4 :: a5 :: a6 :: a7 :: a8 :: a9 :: a10 :: a11 :: a12 :: a13 :: a14 :: a15 :: a16 :: a17 :: a18 :: a19 :: some (.ref a) :: r) H) : wAs K c 20 ts Wout D cls d (a0 :: a1 :: a2 :: a3 :: a4 :: a5 :: a6 :: a7 :: a8 :: a9 :: a10 :: a11 :: a12 :: a13 :: a14 :: a15 :: a16 :: a17 :: a18 :: a19 :: z :: r) H := ⟨true, e, fun _ => h, fun q => nomatch q⟩
theorem cls20 {a0 a1 a2 a3 a4 a5 a6 a7 a8 a9 a10 a11 a12 a13 a14 a15 a16 a17 a18 a19 z : Option V} {r : L2.St} {F : L2.St → Hp → Prop} {rt : VK} {b1 b2 : L2.St → Hp → Prop} (h : F (a0 :: a1 :: a2 :: a3 :: a4 :: a5 :: a6 :: a7 :: a8 :: a9 :: a10 :: a11 :: a12 :: a13 :: a14 :: a15 :: a16 :: a17 :: a18 :: a19 :: none :: r) H) : (Ends.mk (fun σ' H' => F (σ'.set 20 none) H') rt b1 b2).nx (a0 :: a1 :: a2 :: a3 :: a4 :: a5 :: a6 :: a7 :: a8 :: a9 :: a10 :: a11 :: a12 :: a13 :: a14 :: a15 :: a16 :: a17 :: a18 :: a19 :: z :: r) H := h
theorem cat21 {a0 a1 a2 a3 a4 a5 a6 a7 a8 a9 a10 a11 a12 a13 a14 a15 a16 a17 a18 a19 a20 z : Option V} {r : L2.St} (e : PySem.W.exmOne K cls c = some true) (h : ∀ a, H a = none → ts a cls d { nx := fun σ' H' => D.nx (σ'.set 21 none) H', rt := D.rt, bk := fun σ' H' => D.bk (σ'.set 21 none) H', ct := fun σ' H' => D.ct (σ'.set 21 none) H' } (a0 :: a1 :: a2 :: a3 :: a4 :: a5 :: a6 :: a7 :: a8 :: a9 :: a10 :: a11 :: a12 :: a13 :: a14 :: a15 :: a16 :: a17 :: a18 :: a19 :: a20 :: some (.ref a) :: r) H) : wAs K c 21 ts Wout D cls d (a0 :: a1 :: a2 :: a3 :: a4 :: a5 :: a6 :: a7 :: a8 :: a9 :: a10 :: a11 :: a12 :: a13 :: a14 :: a15 :: a16 :: a17 :: a18 :: a19 :: a20 :: z :: r) H := ⟨true, e, fun _ => h, fun q => nomatch q⟩
theorem cls21 {a0 a1 a2 a3 a4 a5 a6 a7 a8 a9 a10 a11 a12 a13 a14 a15 a16 a17 a18 a19 a20 z : Option V} {r : L2.St} {F : L2.St → Hp → Prop} {rt : VK} {b1 b2 : L2.St → Hp → Prop} (h : F (a0 :: a1 :: a2 :: a3 :: a4 :: a5 :: a6 :: a7 :: a8 :: a9 :: a10 :: a11 :: a12 :: a13 :: a14 :: a15 :: a16 :: a17 :: a18 :: a19 :: a20 :: none :: r) H) : (Ends.mk (fun σ' H' => F (σ'.set 21 none) H') rt b1 b2).nx (a0 :: a1 :: a2 :: a3 :: a4 :: a5 :: a6 :: a7 :: a8 :: a9 :: a10 :: a11 :: a12 :: a13 :: a14 :: a15 :: a16 :: a17 :: a18 :: a19 :: a20 :: z :: r) H := h
theorem cat22 {a0 a1 a2 a3 a4 a5 a6 a7 a8 a9 a10 a11 a12 a13 a14 a15 a16 a17 a18 a19 a20 a21 z : Option V} {r : L2.St} (e : PySem.W.exmOne K cls c = some true) (h : ∀ a, H a = none → ts a cls d { nx := fun σ' H' => D.nx (σ'.set 22 none) H', rt := D.rt, bk := fun σ' H' => D.bk (σ'.set 22 none) H', ct := fun σ' H' => D.ct (σ'.set 22 none) H' } (a0 :: a1 :: a2 :: a3 :: a4 :: a5 :: a6 :: a7 :: a8 :: a9 :: a10 :: a11 :: a12 :: a13 :: a14 :: a15 :: a16 :: a17 :: a18 :: a19 :: a20 :: a21 :: some (.ref a) :: r) H) : wAs K c 22 ts Wout D cls d (a0 :: a1 :: a2 :: a3 :: a4 :: a5 :: a6 :: a7 :: a8 :: a9 :: a10 :: a11 :: a12 :: a13 :: a14 :: a15 :: a16 :: a17 :: a18 :: a19 :: a20 :: a21 :: z :: r) H := ⟨true, e, fun _ => h, fun q => nomatch q⟩
theorem cls22 {a0 a1 a2 a3 a4 a5 a6 a7 a8 a9 a10 a11 a12 a13 a14 a15 a16 a17 a18 a19 a20 a21 z : Option V} {r : L2.St} {F : L2.St → Hp → Prop} {rt : VK} {b1 b2 : L2.St → Hp → Prop} (h : F (a0 :: a1 :: a2 :: a3 :: a4 :: a5 :: a6 :: a7 :: a8 :: a9 :: a10 :: a11 :: a12 :: a13 :: a14 :: a15 :: a16 :: a17 :: a18 :: a19 :: a20 :: a21 :: none :: r) H) : (Ends.mk (fun σ' H' => F (σ'.set 22 none) H') rt b1 b2).nx (a0 :: a1 :: a2 :: a3 :: a4 :: a5 :: a6 :: a7 :: a8 :: a9 :: a10 :: a11 :: a12 :: a13 :: a14 :: a15 :: a16 :: a17 :: a18 :: a19 :: a20 :: a21 :: z :: r) H := h
theorem cat23 {a0 a1 a2 a3 a4 a5 a6 a7 a8 a9 a10 a11 a12 a13 a14 a15 a16 a17 a18 a19 a20 a21 a22 z : Option V} {r : L2.St} (e : PySem.W.exmOne K cls c = some true) (h : ∀ a, H a = none → ts a cls d { nx := fun σ' H' => D.nx (σ'.set 23 none) H', rt := D.rt, bk := fun σ' H' => D.bk (σ'.set 23 none) H', ct := fun σ' H' => D.ct (σ'.set 23 none) H' } (a0 :: a1 :: a2 :: a3 :: a4 :: a5 :: a6 :: a7 :: a8 :: a9 :: a10 :: a11 :: a12 :: a13 :: a14 :: a15 :: a16 :: a17 :: a18 :: a19 :: a20 :: a21 :: a22 :: some (.ref a) :: r) H) : wAs K c 23 ts Wout D cls d (a0 :: a1 :: a2 :: a3 :: a4 :: a5 :: a6 :: a7 :: a8 :: a9 :: a10 :: a11 :: a12 :: a13 :: a14 :: a15 :: a16 :: a17 :: a18 :: a19 :: a20 :: a21 :: a22 :: z :: r) H := ⟨true, e, fun _ => h, fun q => nomatch q⟩
theorem cls23 {a0 a1 a2 a3 a4 a5 a6 a7 a8 a9 a10 a11 a12 a13 a14 a15 a16 a17 a18 a19 a20 a21 a22 z : Option V} {r : L2.St} {F : L2.St → Hp → Prop} {rt : VK} {b1 b2 : L2.St → Hp → Prop} (h : F (a0 :: a1 :: a2 :: a3 :: a4 :: a5 :: a6 :: a7 :: a8 :: a9 :: a10 :: a11 :: a12 :: a13 :: a14 :: a15 :: a16 :: a17 :: a18 :: a19 :: a20 :: a21 :: a22 :: none :: r) H) : (Ends.mk (fun σ' H' => F (σ'.set 23 none) H') rt b1 b2).nx (a0 :: a1 :: a2 :: a3 :: a4 :: a5 :: a6 :: a7 :: a8 :: a9 :: a10 :: a11 :: a12 :: a13 :: a14 :: a15 :: a16 :: a17 :: a18 :: a19 :: a20 :: a21 :: a22 :: z :: r) H := h
theorem cat24 {a0 a1 a2 a3 a4 a5 a6 a7 a8 a9 a10 a11 a12 a13 a14 a15 a16 a17 a18 a19 a20 a21 a22 a23 z : Option V} {r : L2.St} (e : PySem.W.exmOne K cls c = some true) (h : ∀ a, H a = none → ts a cls d { nx := fun σ' H' => D.nx (σ'.set 24 none) H', rt := D.rt, bk := fun σ' H' => D.bk (σ'.set 24 none) H', ct := fun σ' H' => D.ct (σ'.set 24 none) H' } (a0 :: a1 :: a2 :: a3 :: a4 :: a5 :: a6 :: a7 :: a8 :: a9 :: a10 :: a11 :: a12 :: a13 :: a14 :: a15 :: a16 :: a17 :: a18 :: a19 :: a20 :: a21 :: a22 :: a23 :: some (.ref a) :: r) H) : wAs K c 24 ts Wout D cls d (a0 :: a1 :: a2 :: a3 :: a4 :: a5 :: a6 :: a7 :: a8 :: a9 :: a10 :: a11 :: a12 :: a13 :: a14 :: a15 :: a16 :: a17 :: a18 :: a19 :: a20 :: a21 :: a22 :: a23 :: z :: r) H := ⟨true, e, fun _ => h, fun q => nomatch q⟩
theorem cls24 {a0 a1 a2 a3 a4 a5 a6 a7 a8 a9 a10 a11 a12 a13 a14 a15 a16 a17 a18 a19 a20 a21 a22 a23 z : Option V} {r : L2.St} {F : L2.St → Hp → Prop} {rt : VK} {b1 b2 : L2.St → Hp → Prop} (h : F (a0 :: a1 :: a2 :: a3 :: a4 :: a5 :: a6 :: a7 :: a8 :: a9 :: a10 :: a11 :: a12 :: a13 :: a14 :: a15 :: a16 :: a17 :: a18 :: a19 :: a20 :: a21 :: a22 :: a23 :: none :: r) H) : (Ends.mk (fun σ' H' => F (σ'.set 24 none) H') rt b1 b2).nx (a0 :: a1 :: a2 :: a3 :: a4 :: a5 :: a6 :: a7 :: a8 :: a9 :: a10 :: a11 :: a12 :: a13 :: a14 :: a15 :: a16 :: a17 :: a18 :: a19 :: a20 :: a21 :: a22 :: a23 :: z :: r) H := h
theorem cat25 {a0 a1 a2 a3 a4 a5 a6 a7 a8 a9 a10 a11 a12 a13 a14 a15 a16 a17 a18 a19 a20 a21 a22 a23 a24 z : Option V} {r : L2.St} (e : PySem.W.exmOne K cls c = some true) (h : ∀ a, H a = none → ts a cls d { nx := fun σ' H' => D.nx (σ'.set 25 none) H', rt := D.rt, bk := fun σ' H' => D.bk (σ'.set 25 none) H', ct := fun σ' H' => D.ct (σ'.set 25 none) H' } (a0 :: a1 :: a2 :: a3 :: a4 :: a5 :: a6 :: a7 :: a8 :: a9 :: a10 :: a11 :: a12 :: a13 :: a14 :: a15 :: a16 :: a17 :: a18 :: a19 :: a20 :: a21 :: a22 :: a23 :: a24 :: some (.ref a) :: r) H) : wAs K c 25 ts Wout D cls d (a0 :: a1 :: a2 :: a3 :: a4 :: a5 :: a6 :: a7 :: a8 :: a9 :: a10 :: a11 :: a12 :: a13 :: a14 :: a15 :: a16 :: a17 :: a18 :: a19 :: a20 :: a21 :: a22 :: a23 :: a24 :: z :: r) H := ⟨true, e, fun _ => h, fun q => nomatch q⟩
theorem cls25 {a0 a1 a2 a3 a4 a5 a6 a7 a8 a9 a10 a11 a12 a13 a14 a15 a16 a17 a18 a19 a20 a21 a22 a23 a24 z : Option V} {r : L2.St} {F : L2.St → Hp → Prop} {rt : VK} {b1 b2 : L2.St → Hp → Prop} (h : F (a0 :: a1 :: a2 :: a3 :: a4 :: a5 :: a6 :: a7 :: a8 :: a9 :: a10 :: a11 :: a12 :: a13 :: a14 :: a15 :: a16 :: a17 :: a18 :: a19 :: a20 :: a21 :: a22 :: a23 :: a24 :: none :: r) H) : (Ends.mk (fun σ' H' => F (σ'.set 25 none) H') rt b1 b2).nx (a0 :: a1 :: a2 :: a3 :: a4 :: a5 :: a6 :: a7 :: a8 :: a9 :: a10 :: a11 :: a12 :: a13 :: a14 :: a15 :: a16 :: a17 :: a18 :: a19 :: a20 :: a21 :: a22 :: a23 :: a24 :: z :: r) H := h
theorem catO {σ : L2.St} (e : PySem.W.exmOne K cls c = some true) (h : ∀ a, H a = none → ts a cls d D σ H) : wMany K Wout D [(c, ts)] cls d σ H := ⟨true, e, fun _ => h, fun q => nomatch q⟩
end
end Z

/-! ### texts -/
namespace Z
open PySem PySem.W PySem.Spec L2
open PyProof.Rows hiding St
section
variable {X : Cx} {σ : L2.St} {H : Hp} {Q : VK} {te tf : TE}
def rAddT : R2 := fun x y H Q => ∃ i j, x = .str i ∧ y = .str j ∧ i.length + j.length ≤ sizeLine ∧ Q (.str (i ++ j)) H
theorem op_addT : OpR X (binaryOp .Add) rAddT := op_add_str
theorem i_addT {i j : Str} (l : i.length + j.length ≤ 1000000) (h : Q (.str (i ++ j)) H) : rAddT (.str i) (.str j) H Q := ⟨i, j, rfl, rfl, Nat.le_trans l (by decide), h⟩
def rLenT : List V → Hp → VK → Prop := fun xs H Q => ∃ z, xs = [.str z] ∧ z.length ≤ sizeLine ∧ Q (.int z.length) H
theorem call_lenT : CallR X (.builtin "len") rLenT := call_len_str
theorem i_lenTx {z : Str} (l : z.length ≤ 1000000) (h : Q (.int z.length) H) : rLenT [.str z] H Q := ⟨z, rfl, Nat.le_trans l (by decide), h⟩
/-- slices -/
theorem i_sl {r : V → Option Int → Option Int → Hp → VK → Prop} {tl th : TO} (h : te σ H fun x H1 => tl σ H1 fun l H2 => th σ H2 fun u H3 => r x l u H3 Q) : tSl r te tl th σ H Q := h
theorem i_noP {F : Option Int → Hp → Prop} (h : F none H) : tNoPart σ H F := h
theorem i_part {F : Option Int → Hp → Prop} (h : te σ H fun x H1 => ∃ i, x = .int i ∧ F (some i) H1) : tPart te σ H F := h
theorem i_partI {F : Int → Prop} {i : Int} (h : F i) : ∃ j, V.int i = .int j ∧ F j := ⟨i, rfl, h⟩
theorem i_slS {z : Str} {lo hi : Option Int} (l : z.length ≤ 1000000) (h : Q (.str (cutS z lo hi)) H) : rSlS (.str z) lo hi H Q := ⟨z, rfl, Nat.le_trans l (by decide), h⟩
/-- upper, replace -/
def rUpper : V → List V → Hp → VK → Prop := fun x xs H Q => ∃ a, x = .str a ∧ xs = [] ∧ a.length ≤ 5592405 ∧ Q (.str (Txt.upper a)) H
theorem i_m0 {r : V → List V → Hp → VK → Prop} (h : te σ H fun x H1 => (∃ a, x = .str a) ∧ r x [] H1 Q) : tM0 r te σ H Q := h
theorem i_isS {z : Str} {A : Prop} (h : A) : (∃ a, V.str z = .str a) ∧ A := ⟨⟨z, rfl⟩, h⟩
theorem i_upper {z : Str} (l : z.length ≤ 5000000) (h : Q (.str (Txt.upper z)) H) : rUpper (.str z) [] H Q := ⟨z, rfl, rfl, Nat.le_trans l (by decide), h⟩
def kRepl (y z : Str) (Q : VK) : VK := fun v H1 => ∃ x, v = .str x ∧ x.length + (x.length + 1) * z.length ≤ 16777216 ∧ Q (.str (Txt.replace x y z)) H1
def tRepl (y z : Str) (to : TE) : TE := fun σ H Q => to σ H (kRepl y z Q)
theorem i_repl {y z : Str} (h : te σ H (kRepl y z Q)) : tRepl y z te σ H Q := h
theorem i_replE {x y z : Str} (l : x.length + (x.length + 1) * z.length ≤ 16777216) (h : Q (.str (Txt.replace x y z)) H) : kRepl y z Q (.str x) H := ⟨x, rfl, l, h⟩
end
/-- an expression that gives a token out -/
def PE1 (X : Cx) (e : Expr) (t : TE) : Prop := ∀ (pins : List (Addr × Obj)) (s : Shared) (σ : L2.St) (H : Hp) (Q : VK), Inv X pins σ H s → t σ H Q → wpAny (model X.prog X.w) X.A (eval e X.env) (fun u s' => 1 ≤ s'.toks ∧ EP X pins σ Q u s') X.xe s
section
variable {X : Cx} {e f o : Expr} {te tf to : TE} {pos p2 apos : Pos}
theorem pe1_int {i : Int} {j : Nat} {pos : Pos} : PE1 X (.Constant (.int i) j pos) (tC (.int i)) := fun pins s σ H Q I h => wpAny_Constant_int ⟨by show 1 ≤ s.toks + 1; omega, .int i, H, I.tok _, ⟨_, rfl⟩, h⟩
theorem pe1_op {op : Operator} {r : R2} (ho : OpR X (binaryOp op) r) (ha : PE X e te) (hb : PE1 X f tf) : PE1 X (.BinOp e op f pos) (tOp r te tf) := fun pins s σ H Q I h => by
  refine wpAny_BinOp (thn (ha.run pins s σ H _ I h) fun v s1 ⟨x, H1, I1, r1, q1⟩ => wpAny_mono (hb pins s1 σ H1 _ I1 q1) (fun u s2 ⟨h1, y, H2, I2, r2, q2⟩ => ?_) fun _ _ z => z)
  exact wpAny_mono (PySem.wpAny_toks_of h1 (ho pins s2 σ H2 x y v u Q I2 r1 r2 q2)) (fun _ _ z => z) fun _ _ z => z.2
def PO1 (X : Cx) (e : Option Expr) (t : TO) : Prop := ∀ (pins : List (Addr × Obj)) (s : Shared) (σ : L2.St) (H : Hp) (Q : Option Int → Hp → Prop), Inv X pins σ H s → t σ H Q →
    wpAny (model X.prog X.w) X.A (evalPart e X.env) (fun u s' => 1 ≤ s'.toks ∧ ∃ o H', Inv X pins σ H' s' ∧ IsPart u o ∧ Q o H') X.xe s
theorem po1_some (h : PE1 X e te) : PO1 X (some e) (tPart te) := fun pins s σ H Q I hw => by
  rw [evalPart_some]
  refine wpAny_mono (h pins s σ H _ I hw) (fun u s1 ⟨h1, x, H1, I1, r1, q1⟩ => ?_) fun _ _ z => z
  obtain ⟨i, rfl, q⟩ := q1
  obtain ⟨t, rfl⟩ := r1
  exact ⟨h1, some i, H1, I1, .int i t, q⟩
theorem pe1_slice {lo hi : Option Expr} {tl th : TO} {r : V → Option Int → Option Int → Hp → VK → Prop} (hr : SlR X r) (he : PE X e te) (hl : PO X lo tl) (hu : PO1 X hi th) : PE1 X (.Subscript e (.Slice lo hi none p2) pos) (tSl r te tl th) := fun pins s σ H Q I h => by
  refine Subscript_ (thn (he.run pins s σ H _ I h) fun v s1 ⟨x, H1, I1, r1, q1⟩ => ?_)
  refine wpAny_Slice (thn (hl.run pins s1 σ H1 _ I1 q1) fun vl s2 ⟨l, H2, I2, pl, q2⟩ => wpAny_mono (hu pins s2 σ H2 _ I2 q2) (fun vu s3 ⟨h1, u, H3, I3, pu, q3⟩ => ?_) fun _ _ z => z)
  rw [evalPart_none]
  refine wpAny_pure ?_
  have I4 : Inv X pins σ H3 { s3 with heap := s3.heap.push { cls := .type "slice", data := .fields #[vl, vu, .none] } } := I3.kept (t' := s3.toks) fun b ob q => Heap.get?_push_of_some _ q
  obtain ⟨T, id, hT, ht, hg⟩ := hr pins { s3 with heap := s3.heap.push { cls := .type "slice", data := .fields #[vl, vu, .none] } } σ H3 x v vl vu l u s3.heap.objs.size Q I4 r1 (Heap.IsSliceOf.new ..) pl pu q3
  have z : wpAny (model X.prog X.w) X.A (subscriptTail e (.Slice lo hi none p2) v (.ref s3.heap.objs.size)) (EP X pins σ Q) X.xe { s3 with heap := s3.heap.push { cls := .type "slice", data := .fields #[vl, vu, .none] } } :=
    tail_any (ops := [.ref s3.heap.objs.size, v]) ht hT hg (by with_unfolding_all rfl)
  exact wpAny_mono (PySem.wpAny_toks_of (n := 1) h1 z) (fun _ _ z => z) fun _ _ z => z.2
theorem pe1_upper (ho : PE1 X o to) (hbase : attributeBase o "upper" X.env (eval o X.env) = eval o X.env := by rfl) (hline : (apos.endLine == pos.line) = true := by rfl) : PE1 X (.Call (.Attribute o "upper" apos) [] [] pos) (tM0 rUpper to) := fun pins s σ H Q I h => by
  refine PySem.Call_method0 hbase hline (wpAny_mono (ho pins s σ H _ I h) (fun v s1 ⟨h1, x, H1, I1, r1, q1⟩ => ?_) fun _ _ z => z)
  obtain ⟨⟨a, rfl⟩, q1⟩ := q1
  obtain ⟨t, rfl⟩ := _root_.id r1
  refine ⟨"str", _, PySem.F.plainAttrs_str, PySem.F.slot_str_upper, PySem.F.type_str_upper, typeIs_str _ _ _, (fun _ e => nomatch e), ?_⟩
  exact wpAny_mono (PySem.wpAny_toks_of h1 (Calls.callWith_builtin rfl (PySem.evalArgs_none (mt_upper pins s1 σ H1 _ [] _ [] Q I1 r1 .nil q1)))) (fun _ _ z => z) fun _ _ z => z.2
theorem pe_repl1 {y z : Str} {j k : Nat} {c0 c1 : Pos} (ho : PE1 X o to) (hyz : (y == z) = false := by decide)
    (hst : starEach [.Constant (.str y) j c0, .Constant (.str z) k c1] X.env = [(false, eval (.Constant (.str y) j c0) X.env), (false, eval (.Constant (.str z) k c1) X.env)] := by rfl)
    (hbase : attributeBase o "replace" X.env (eval o X.env) = eval o X.env := by rfl) (hline : (apos.endLine == pos.line) = true := by rfl) :
    PE X (.Call (.Attribute o "replace" apos) [.Constant (.str y) j c0, .Constant (.str z) k c1] [] pos) (tRepl y z to) := by
  refine ⟨fun pins s σ H Q I h => ?_⟩
  refine PySem.Call_method2 hbase hst hline (wpAny_mono (ho pins s σ H _ I h) (fun v s1 ⟨hk, v', H1, I1, r1, x, e1, hb, q⟩ => ?_) fun _ _ z => z)
  subst e1
  obtain ⟨tx, e2⟩ := r1
  subst e2
  refine ⟨"str", _, PySem.F.plainAttrs_str, PySem.F.slot_str_replace, PySem.F.type_str_replace, typeIs_str _ _ _, (fun _ e => nomatch e), Calls.callWith_builtin rfl (Calls.evalArgs_plain (Calls.spliced_cons ?_))⟩
  refine Calls.Constant_str (Calls.spliced_cons (Calls.Constant_str (Calls.spliced_nil ?_)))
  exact PySem.SC.replace (by show s1.toks ≠ 0; omega) (by show s1.toks + 1 ≠ 0; omega) (by show s1.toks ≠ s1.toks + 1; omega) hyz hb fun t' k => ⟨.str (Txt.replace x y z), H1, I1.tok k, ⟨t', rfl⟩, q⟩
end
end Z
namespace Z
open PySem PySem.Spec L2
theorem len_app (a b : Str) : (a ++ b).length = a.length + b.length := by
  show (a.cps ++ b.cps).size = _
  rw [Array.size_append]
  rfl
end Z

/-! ### the head: the written part by a walk over what the module's names reach, laid out once -/
namespace Z
open PySem PySem.W PySem.Spec L2
open PyProof.Rows hiding St
/-- what is followed -/
def nextO (o : Obj) : List Addr := match o.data with
  | .func fd => He.refV fd.code ++ (He.refV fd.defaults ++ (He.refV fd.kwdefaults ++ fd.closure.map (·.2)))
  | .cls cd => [cd.ns]
  | .dict es _ => es.toList.flatMap fun e => He.refV e.val
  | .seq its _ => its.toList.flatMap He.refV
  | .fields vs => (match o.cls with
    | .type c => if c = "code" then [] else vs.toList.flatMap He.refV
    | _ => [])
  | _ => []
def growW (g : Addr → Option Obj) : Nat → List Addr → List Addr
  | 0, as => as
  | n + 1, as => as ++ growW g n (as.flatMap fun a => match g a with
    | some o => nextO o
    | none => [])
def asW (g : Addr → Option Obj) (n : Nat) : List Addr := cStatics :: growW g n [mainGlobals]
/-- the part, laid out -/
def layW {α : Type} (g : Addr → Option Obj) : List Addr → (PySem.W.Frag → α) → α
  | [], k => k []
  | a :: r, k => HandSHeadRun.frNat a fun a => match g a with
    | some o => layW g r fun K => k ((a, o) :: K)
    | none => layW g r k
theorem layW_eq {α : Type} {g : Addr → Option Obj} : ∀ (as : List Addr) (k : PySem.W.Frag → α), layW g as k = k (He.frG g as)
  | [], k => rfl
  | a :: r, k => by
    unfold layW
    rw [HandSHeadRun.frNat_eq]
    cases e : g a with
    | none =>
      show layW g r k = _
      rw [layW_eq r]
      unfold He.frG
      rw [List.filterMap_cons, e]
      rfl
    | some o =>
      show layW g r (fun K => k ((a, o) :: K)) = _
      rw [layW_eq r]
      unfold He.frG
      rw [List.filterMap_cons, e]
      rfl
/-- own exceptions' __init__, with its cell -/
def fnE (K : PySem.W.Frag) (a : Addr) : Option (Str × Str × Arguments × FuncBody × Scope × Addr × Addr) := match K.lookup a with
  | some ⟨_, _, .func fd, _⟩ => some (fd.name, fd.qualname, fd.params, fd.body, fd.scope, fd.globals, fd.builtins)
  | _ => none
structure DefE where
  C : Str
  qual : Str
  params : Arguments
  body : List Stmt
  scope : Scope
  slf : Str
  fs : List (Str × Str)
def DefE.ad (K : PySem.W.Frag) (d : DefE) : Addr := He.fAd K (d.C, some "__init__")
def DefE.val (d : DefE) : Option (Str × Str × Arguments × FuncBody × Scope × Addr × Addr) := some ("__init__", d.qual, d.params, .stmts d.body, d.scope, mainGlobals, builtinsNs)
def oexB (K : PySem.W.Frag) (C : Addr) : Bool := (match K.lookup C with
  | some ⟨.type "type", _, .cls cd, sl⟩ => (match cd.mro, sl.toList with
    | .ref C' :: bm, [_, _, _, _, some (.builtin n), _] => decide (C' = C) && (decide (n = "ValueError.__new__") && (cd.hasDict && (!cd.hasDel && PySem.HandSPX.refsVE bm)))
    | _, _ => false)
  | _ => false) && (He.eqO (PySem.W.findIn K (.ref C) "__setattr__") (some (some (.builtin "object.__setattr__"))) && (decide (PySem.W.subIn K (.ref C) (.type "BaseException") = some true) && (decide (PySem.W.typeIn K (.ref C) = some (.type "type")) && PySem.W.keepIn K (.ref C))))
theorem oexB_ok {K : PySem.W.Frag} {C : Addr} (h : oexB K C = true) : OexC K C := by
  obtain ⟨h1, h⟩ := He.ba h
  obtain ⟨h2, h⟩ := He.ba h
  obtain ⟨h3, h⟩ := He.ba h
  obtain ⟨h4, h5⟩ := He.ba h
  refine ⟨?_, He.eqO_ok h2, of_decide_eq_true h3, of_decide_eq_true h4, h5⟩
  split at h1
  · rename_i dd cd sl e
    split at h1
    · rename_i C' bm a0 a1 a2 a3 n a5 e1 e2
      obtain ⟨g1, h1⟩ := He.ba h1
      obtain ⟨g2, h1⟩ := He.ba h1
      obtain ⟨g3, h1⟩ := He.ba h1
      obtain ⟨g4, g5⟩ := He.ba h1
      obtain rfl := of_decide_eq_true g1
      obtain rfl := of_decide_eq_true g2
      obtain ⟨nm, bs, mro, ns, qn, hd, sn, sb, ab, col, del⟩ := cd
      dsimp only at g3 g4 e1
      subst g3
      subst e1
      have gd : del = false := by simpa using g4
      subst gd
      have es : sl = #[a0, a1, a2, a3, some (.builtin "ValueError.__new__"), a5] := by
        rw [← Array.toArray_toList (xs := sl), e2]
      subst es
      exact ⟨nm, qn, ns, bs, bm, sn, sb, ab, col, dd, a0, a1, a2, a3, a5, e, g5⟩
    · cases h1
  · cases h1
def fnxB (K : PySem.W.Frag) (file : Str) (C fI : Addr) (qual : Str) : Bool := match K.lookup fI with
  | some ⟨_, _, .func fd, _⟩ => (match fd.closure, fd.code with
    | [(n, cc)], .ref cda => decide (n = "__class__") && (decide (fd.defaults = .none) && (PySem.W.codeIn K (.ref cda) qual && ((match K.lookup cda with
      | some ⟨_, _, .fields vs, _⟩ => (match (vs : Array Value)[2]? with
        | some (Value.str f _) => (file == f)
        | _ => false)
      | _ => false) && (match K.lookup cc with
      | some ⟨_, _, .cell (some (.ref D)), _⟩ => decide (D = C)
      | _ => false))))
    | _, _ => false)
  | _ => false
def supB (K : PySem.W.Frag) (file : Str) (d : DefE) : Bool := oexB K (He.ga K d.C) && (He.eqO (PySem.W.findIn K (.ref (He.ga K d.C)) "__init__") (some (some (.ref (d.ad K)))) && (decide (PySem.W.typeIn K (.ref (d.ad K)) = some (.type "function")) && (fnxB K file (He.ga K d.C) (d.ad K) d.qual &&
  (decide (PySem.W.mroIn K (He.ga K d.C) (.ref (He.ga K d.C)) = some true) && (He.eqO (PySem.W.ks_superIn K (He.ga K d.C) (He.ga K d.C) "__init__") (some (some (.builtin "ValueError.__init__"))) && (decide (PySem.W.subIn K (.ref (He.ga K d.C)) (.type "ValueError") = some true) &&
  (He.eqO (PySem.W.nsIn K mainGlobals "super") (some none) && (He.eqO (PySem.W.nsIn K cStatics "thirdparty.any") (some none) && d.fs.all fun q => He.eqO (PySem.W.findIn K (.ref (He.ga K d.C)) q.1) (some none)))))))))
theorem supT_of {P : Program} {K : PySem.W.Frag} {d : DefE} (e : fnE K (d.ad K) = d.val) (h : supB K P.main.file d = true) (ht : (P.main.scope.names.lookup ("super" : Str)).isSome = false) : SupT P K (He.ga K d.C) (d.ad K) d.qual d.params d.body d.scope d.slf d.fs := by
  obtain ⟨h1, h⟩ := He.ba h
  obtain ⟨h2, h⟩ := He.ba h
  obtain ⟨h3, h⟩ := He.ba h
  obtain ⟨h4, h⟩ := He.ba h
  obtain ⟨h5, h⟩ := He.ba h
  obtain ⟨h6, h⟩ := He.ba h
  obtain ⟨h7, h⟩ := He.ba h
  obtain ⟨h8, h⟩ := He.ba h
  obtain ⟨h9, h10⟩ := He.ba h
  refine ⟨oexB_ok h1, He.eqO_ok h2, of_decide_eq_true h3, ?_, of_decide_eq_true h5, He.eqO_ok h6, of_decide_eq_true h7, He.eqO_ok h8, He.eqO_ok h9, ht, fun q hq => He.eqO_ok (List.all_eq_true.mp h10 q hq)⟩
  unfold fnE at e
  unfold fnxB at h4
  split at h4
  · rename_i oc od fd osl q
    rw [q] at e
    split at h4
    · rename_i n cc cda e1 e2
      obtain ⟨g1, h4⟩ := He.ba h4
      obtain ⟨g0, h4⟩ := He.ba h4
      obtain ⟨g2, h4⟩ := He.ba h4
      obtain ⟨g3, g4⟩ := He.ba h4
      obtain rfl := of_decide_eq_true g1
      obtain ⟨n1, n2, n3, n4, n5, n6, n7, n8, n9, n10, n11, n12, n13, n14, n15⟩ := fd
      have e3 := e
      unfold DefE.val at e3
      simp only [Option.some.injEq, Prod.mk.injEq] at e3
      obtain ⟨k1, k2, k3, k4, k5, k6, k7⟩ := e3
      dsimp only at e1 e2 g0
      obtain rfl := of_decide_eq_true g0
      subst k1 k2 k3 k4 k5 k6 k7 e1 e2
      split at g3
      · rename_i ccl cdd vs ccs q2
        split at g3
        · rename_i f tf q3
          split at g4
          · rename_i cl cld D csl q4
            obtain rfl := of_decide_eq_true g4
            exact ⟨oc, od, osl, n9, n10, n11, n12, cda, n14, cc, ccl, cdd, ccs, vs, f, tf, cl, cld, csl, q, g2, q2, q3, g3, q4⟩
          · cases g4
        · cases g3
      · cases g3
    · cases h4
  · cases h4
/-- isinstance and fields of a caught exception; what a clause says -/
def excB (K : PySem.W.Frag) (D : Addr) : Bool := He.eqO (PySem.W.findIn K (.ref D) "__getattribute__") (some (some (.builtin "BaseException.__getattribute__"))) && (He.eqO (PySem.W.findIn K (.ref D) "__getattr__") (some none) && (decide (PySem.W.subIn K (.ref D) (.type "BaseException") = some true) && (PySem.W.hasDictIn K D &&
  (He.eqO (PySem.W.findIn K (.ref D) "__class__") (some (some (.builtin "object.__class__"))) && (He.eqO (PySem.W.specialIn K (.builtin "object.__class__") "__get__") (some (some (.builtin "getset_descriptor.__get__"))) && (decide (PySem.W.takesIn K (.builtin "object.__class__") = some true) && decide (PySem.W.mroIn K D (.type "object") = some true)))))))
theorem excB_ok {K : PySem.W.Frag} {D : Addr} (h : excB K D = true) : ExcC K D := by
  obtain ⟨h1, h⟩ := He.ba h
  obtain ⟨h2, h⟩ := He.ba h
  obtain ⟨h3, h⟩ := He.ba h
  obtain ⟨h4, h⟩ := He.ba h
  obtain ⟨h5, h⟩ := He.ba h
  obtain ⟨h6, h⟩ := He.ba h
  obtain ⟨h7, h8⟩ := He.ba h
  exact ⟨He.eqO_ok h1, He.eqO_ok h2, of_decide_eq_true h3, h4, He.eqO_ok h5, He.eqO_ok h6, of_decide_eq_true h7, of_decide_eq_true h8⟩
theorem excX {K : PySem.W.Frag} {D : Addr} (h : ExcC K D) : XfC K D := ⟨h.hg, h.hk, h.hs, h.hd⟩
abbrev AlW : Type := (He.AlT × (Bool × (Bool × List He.FnW))) × (Bool × List (Option (Str × Str × Arguments × FuncBody × Scope × Addr × Addr)))
section
variable (file : Str) (fa : List He.Fa) (fn : List He.DefD) (ts : List He.Tab) (ex : PySem.W.Frag → Bool) (gs : List DefG) (es : List DefE)
def obsK (K : PySem.W.Frag) : AlW := ((He.obsT fa fn ts K, ex K, gs.all fun d => d.ok K, gs.map fun d => fnA K (d.ad K)), es.all fun d => supB K file d, es.map fun d => fnE K (d.ad K))
def obsW (n : Nat) (g : Addr → Option Obj) : AlW := layW g (asW g n) fun K => obsK file fa fn ts ex gs es K
def valW (w : World) : AlW := ((He.valT fn ts w, true, true, gs.map DefG.val), true, es.map DefE.val)
structure SaysW (w : World) (K : PySem.W.Frag) : Prop where
  t : He.SaysT fa fn ts w K
  more : ex K = true
  dg : SaysG gs K
  de : ∀ (i : Nat) (d : DefE), es[i]? = some d → fnE K (d.ad K) = d.val ∧ supB K file d = true
end
section
variable {file : Str} {fa : List He.Fa} {fn : List He.DefD} {ts : List He.Tab} {ex : PySem.W.Frag → Bool} {gs : List DefG} {es : List DefE}
theorem saysW_of {w : World} {K : PySem.W.Frag} (e : obsK file fa fn ts ex gs es K = valW fn ts gs es w) : SaysW file fa fn ts ex gs es w K :=
  ⟨congrArg (fun z : AlW => z.1.1) e, congrArg (fun z : AlW => z.1.2.1) e, saysG_of (congrArg (fun z : AlW => z.1.2.2.1) e) (congrArg (fun z : AlW => z.1.2.2.2) e), fun i d h => by
    have h1 : (es.all fun d => supB K file d) = true := congrArg (fun z : AlW => z.2.1) e
    have h2 : (es.map fun d => fnE K (d.ad K)) = es.map DefE.val := congrArg (fun z : AlW => z.2.2) e
    have e2 : (es.map fun d => fnE K (d.ad K))[i]? = (es.map DefE.val)[i]? := by rw [h2]
    rw [List.getElem?_map, List.getElem?_map, h] at e2
    exact ⟨Option.some.inj e2, List.all_eq_true.mp h1 d (List.mem_of_getElem? h)⟩⟩
end
section
variable (n : Nat) (file : Str) (fa : List He.Fa) (fn : List He.DefD) (ts : List He.Tab) (ex : PySem.W.Frag → Bool) (gs : List DefG) (es : List DefE)
def hookW : PySem.W.Hook where
  α := AlW
  obs := fun s => obsW file fa fn ts ex gs es n s.heap.get?
  val := fun w => valW fn ts gs es w
  says := fun w h => ∃ K : PySem.W.Frag, K.In h ∧ SaysW file fa fn ts ex gs es w K
  of := fun _ s e => ⟨He.frG s.heap.get? (asW s.heap.get? n), He.frG_in, saysW_of (by
    have e2 : obsW file fa fn ts ex gs es n s.heap.get? = _ := e
    unfold obsW at e2
    rw [layW_eq] at e2
    exact e2)⟩
  keeps := fun _ _ _ ⟨K, hK, c⟩ k => ⟨K, PySem.W.Frag.In.keeps hK k, c⟩
end
theorem obsW_eq {n : Nat} {file : Str} {fa : List He.Fa} {fn : List He.DefD} {ts : List He.Tab} {ex : PySem.W.Frag → Bool} {gs : List DefG} {es : List DefE} {g : Addr → Option Obj} {s : Shared} (h : ∀ a, g a = s.heap.get? a) : obsW file fa fn ts ex gs es n g = (hookW n file fa fn ts ex gs es).obs s := by
  have e : g = s.heap.get? := funext h
  rw [e] <;> rfl
end Z

open PySem PySem.Spec L2
open PyProof.Rows hiding St
namespace My
open Z
def top (i : Nat) : Stmt := PySem.Challenge.pw_lostinrows_k02_round_quotient.main.body.getD i (.Pass ⟨0, 0, 0, 0⟩)

def modes9 : List Str := ["nearest-even", "nearest-out", "nearest-in", "nearest-up", "nearest-down", "inward", "outward", "upward", "downward"]
def near5 : List Str := ["nearest-even", "nearest-out", "nearest-in", "nearest-up", "nearest-down"]
def mir9 (m : Str) : Str := if m = "nearest-up" then "nearest-down" else if m = "nearest-down" then "nearest-up" else if m = "upward" then "downward" else if m = "downward" then "upward" else m
def idx9 (m : Str) : Nat := modes9.idxOf m
def goesUp (m : Str) (p : Bool) : Bool := if m = "inward" then !p else if m = "outward" then p else decide (m = "upward")
def tieUp (m : Str) (low : Int) (p : Bool) : Bool := if m = "nearest-even" then decide (low % 2 = 1) else if m = "nearest-out" then p else if m = "nearest-in" then !p else decide (m = "nearest-up")
def rqUp (n d : Int) (m : Str) : Bool := if m ∉ near5 then goesUp m (decide (0 < n)) else if 2 * (n % d) = d then tieUp m (n / d) (decide (0 < n)) else decide (d < 2 * (n % d))
def rq (n d : Int) (m : Str) : Int := if n % d = 0 then n / d else if rqUp n d m = true then n / d + 1 else n / d
def steady5 : List Str := ["nearest-even", "nearest-up", "nearest-down", "upward", "downward"]
theorem mem9 {m : Str} (h : m ∈ modes9) : m = "nearest-even" ∨ m = "nearest-out" ∨ m = "nearest-in" ∨ m = "nearest-up" ∨ m = "nearest-down" ∨ m = "inward" ∨ m = "outward" ∨ m = "upward" ∨ m = "downward" := by
  simpa [modes9] using h
theorem in9 {m : Str} (h : m ∈ modes9) : inV (.str m) (modes9.map V.str) = true := by rw [inV_str]; exact List.contains_iff_mem.mpr h
theorem in_str (m : Str) (l : List Str) : inV (.str m) (l.map V.str) = decide (m ∈ l) := by
  rw [inV_str]
  by_cases h : m ∈ l
  · rw [decide_eq_true h]; exact List.contains_iff_mem.mpr h
  · rw [decide_eq_false h]
    cases e : l.contains m with
    | false => rfl
    | true => exact absurd (List.contains_iff_mem.mp e) h
theorem big_step {i : Nat} {x d : Int} (h0 : 0 ≤ x) (h : Sz (4 * i) x) (d0 : 0 ≤ d) (d1 : d < 10) : Sz (4 * (i + 1)) (x * 10 + d) := by
  unfold Sz at *
  rw [Nat.mul_add, Nat.pow_add]
  omega
theorem pow_pos1 {b : Int} (h : 0 < b) (n : Nat) : 1 ≤ b ^ n := by
  have := Int.pow_pos (n := b) (m := n) h
  omega
theorem Sz.btw {n : Nat} {p d : Int} (h : Sz n d) (h0 : -1 ≤ p) (h1 : p ≤ d + 1) : Sz (n + 2) p := by
  unfold Sz at *
  rw [Nat.pow_add]
  have := Nat.one_le_two_pow (n := n)
  omega
theorem in5 (m : Str) : inV (.str m) (near5.map V.str) = decide (m ∈ near5) := by
  rw [inV_str]
  by_cases h : m ∈ near5
  · rw [decide_eq_true h]; exact List.contains_iff_mem.mpr h
  · rw [decide_eq_false h]
    cases e : near5.contains m with
    | false => rfl
    | true => exact absurd (List.contains_iff_mem.mp e) h
theorem idx9_at {m : Str} (h : m ∈ modes9) : (modes9.map V.str)[idx9 m]? = some (V.str m) := by
  rw [List.getElem?_map]
  have : idx9 m < modes9.length := List.idxOf_lt_length_iff.mpr h
  rw [List.getElem?_eq_getElem this]
  show some (V.str modes9[modes9.idxOf m]) = _
  rw [List.getElem_idxOf this]
theorem idx9_b : ∀ m ∈ modes9, ∀ k < idx9 m, modes9.getD k "" ≠ m := by decide +kernel
theorem idx9_no {m : Str} (h : m ∈ modes9) (k : Nat) (z : V) (hk : k < idx9 m) (e : (modes9.map V.str)[k]? = some z) : eqV z (.str m) = false := by
  rw [List.getElem?_map] at e
  have lt : idx9 m < modes9.length := List.idxOf_lt_length_iff.mpr h
  rw [List.getElem?_eq_getElem (by omega : k < modes9.length)] at e
  have e2 : V.str modes9[k] = z := Option.some.inj e
  subst e2
  show (modes9[k] == m) = false
  have q := idx9_b m h k hk
  rw [List.getD_eq_getElem?_getD, List.getElem?_eq_getElem (by omega : k < modes9.length)] at q
  exact beq_eq_false_iff_ne.mpr q
theorem idx9_lt {m : Str} (h : m ∈ modes9) : idx9 m < 9 := List.idxOf_lt_length_iff.mpr h
def mirIx : List Int := [0, 1, 2, 4, 3, 5, 6, 8, 7]
theorem mir_at {m : Str} (h : m ∈ modes9) : ∃ j : Int, atI (mirIx.map V.int) ((idx9 m : Nat) : Int) = some (V.int j) ∧ atI (modes9.map V.str) j = some (V.str (mir9 m)) := by
  rcases mem9 h with rfl | rfl | rfl | rfl | rfl | rfl | rfl | rfl | rfl <;> exact ⟨_, by rfl, by decide +kernel⟩

theorem pos_q {n d : Int} (hd : 0 < d) (hr : n % d ≠ 0) : 0 < n ↔ 0 ≤ n / d := by
  have h1 := Int.emod_nonneg n (by omega : d ≠ 0)
  have h2 := Int.emod_lt_of_pos n hd
  have h3 := Int.mul_ediv_add_emod n d
  constructor
  · intro h; exact Int.ediv_nonneg (by omega) (by omega)
  · intro h
    have : 0 ≤ d * (n / d) := Int.mul_nonneg (by omega) h
    omega
/-- whether the greater neighbour is taken, by the floor q, what is left r, the divisor d -/
def UU (q r d : Int) (m : Str) : Bool := if m ∉ near5 then goesUp m (decide (0 ≤ q)) else if 2 * r = d then tieUp m q (decide (0 ≤ q)) else decide (d < 2 * r)
theorem up_uu {n d : Int} (m : Str) (hd : 0 < d) (hr : n % d ≠ 0) : rqUp n d m = UU (n / d) (n % d) d m := by
  unfold rqUp UU
  rw [decide_eq_decide.mpr (pos_q hd hr)]
theorem rq_eq {n d : Int} (m : Str) (hd : 0 < d) : rq n d m = if n % d = 0 then n / d else if UU (n / d) (n % d) d m = true then n / d + 1 else n / d := by
  unfold rq
  split
  · rfl
  · rename_i h
    rw [up_uu m hd h]
theorem neg_dm {n d : Int} (hd : 0 < d) : (n % d = 0 → (-n) % d = 0 ∧ (-n) / d = -(n / d)) ∧ (n % d ≠ 0 → (-n) % d = d - n % d ∧ (-n) / d = -(n / d) - 1) := by
  have h1 := Int.emod_nonneg n (by omega : d ≠ 0)
  have h2 := Int.emod_lt_of_pos n hd
  have h3 := Int.mul_ediv_add_emod n d
  constructor
  · intro h
    have e : -n = d * (-(n / d)) := by rw [Int.mul_neg]; omega
    exact ⟨by rw [e]; exact Int.mul_emod_right _ _, by rw [e, Int.mul_ediv_cancel_left _ (by omega)]⟩
  · intro h
    have e : -n = (d - n % d) + d * (-(n / d) - 1) := by rw [Int.mul_sub, Int.mul_neg]; omega
    refine ⟨?_, ?_⟩
    · rw [e, Int.add_mul_emod_self_left, Int.emod_eq_of_lt (by omega) (by omega)]
    · rw [e, Int.add_mul_ediv_left _ _ (by omega), Int.ediv_eq_zero_of_lt (by omega) (by omega)]
      omega
theorem uu_neg {q r d : Int} {m : Str} (hm : m ∈ modes9) (h0 : 0 < r) (h1 : r < d) : UU (-q - 1) (d - r) d (mir9 m) = !UU q r d m := by
  rcases mem9 hm with rfl | rfl | rfl | rfl | rfl | rfl | rfl | rfl | rfl <;> simp [UU, mir9, goesUp, tieUp, near5]
  all_goals first
    | (split <;> split <;> first | omega | (simp; omega) | (rw [Bool.eq_iff_iff]; simp; omega))
    | (rw [Bool.eq_iff_iff]; simp; omega)
theorem rq_neg {n d : Int} {m : Str} (hd : 0 < d) (hm : m ∈ modes9) : rq (0 - n) d (mir9 m) = 0 - rq n d m := by
  have h1 := Int.emod_nonneg n (by omega : d ≠ 0)
  have h2 := Int.emod_lt_of_pos n hd
  rw [Int.zero_sub, Int.zero_sub, rq_eq _ hd, rq_eq _ hd]
  by_cases h : n % d = 0
  · obtain ⟨e1, e2⟩ := (neg_dm (n := n) hd).1 h
    rw [if_pos e1, if_pos h, e2]
  · obtain ⟨e1, e2⟩ := (neg_dm (n := n) hd).2 h
    rw [if_neg (by omega), if_neg h, e1, e2, uu_neg hm (by omega) h2]
    cases UU (n / d) (n % d) d m <;> simp <;> omega
theorem rq_low {n d : Int} {m : Str} (hd : 0 < d) : n / d ≤ rq n d m ∧ rq n d m ≤ n / d + (if n % d = 0 then 0 else 1) := by
  rw [rq_eq _ hd]
  split
  · omega
  · split <;> omega
theorem rq_low2 {n d : Int} {m : Str} (hd : 0 < d) : n / d ≤ rq n d m ∧ rq n d m ≤ n / d + (if decide (0 < n % d) = true then 1 else 0) := by
  have h := rq_low (n := n) (m := m) hd
  have h1 := Int.emod_nonneg n (by omega : d ≠ 0)
  refine ⟨h.1, Int.le_trans h.2 ?_⟩
  by_cases z : n % d = 0
  · rw [if_pos z, if_neg (by simp; omega)]; omega
  · rw [if_neg z, if_pos (by simp; omega)]; omega
theorem mir9_in : ∀ {m : Str}, m ∈ modes9 → mir9 m ∈ modes9 := by
  intro m h
  rcases mem9 h with rfl | rfl | rfl | rfl | rfl | rfl | rfl | rfl | rfl <;> decide +kernel
theorem uu_mono {q r s d : Int} {m : Str} (hm : m ∈ modes9) (h : r ≤ s) (u : UU q r d m = true) : UU q s d m = true := by
  revert u
  rcases mem9 hm with rfl | rfl | rfl | rfl | rfl | rfl | rfl | rfl | rfl <;> simp [UU, goesUp, tieUp, near5]
  all_goals first
    | done
    | (intros; omega)
    | (split <;> split <;> first | omega | (simp; try omega) | (intros; omega))
theorem rq_mono {n s d : Int} {m : Str} (hd : 0 < d) (hm : m ∈ modes9) (hs : 0 ≤ s) : rq n d m ≤ rq (n + s) d m := by
  have h1 := Int.emod_nonneg n (by omega : d ≠ 0)
  have h2 := Int.emod_lt_of_pos n hd
  have h3 := Int.mul_ediv_add_emod n d
  have g1 := Int.emod_nonneg (n + s) (by omega : d ≠ 0)
  have g3 := Int.mul_ediv_add_emod (n + s) d
  have le : n / d ≤ (n + s) / d := Int.ediv_le_ediv hd (by omega)
  have l1 := rq_low (n := n) (m := m) hd
  have l2 := rq_low (n := n + s) (m := m) hd
  by_cases e : n / d = (n + s) / d
  · have hr : n % d ≤ (n + s) % d := by rw [e] at h3; omega
    rw [rq_eq _ hd, rq_eq _ hd, ← e]
    by_cases z : n % d = 0
    · rw [if_pos z]
      split
      · omega
      · split <;> omega
    · rw [if_neg z, if_neg (show ¬ ((n + s) % d = 0) by omega)]
      cases u : UU (n / d) (n % d) d m with
      | true =>
        rw [uu_mono hm hr u]; exact Int.le_refl _
      | false => simp; split <;> omega
  · have : rq n d m ≤ n / d + 1 := by have := l1.2; split at this <;> omega
    omega
theorem uu_scale {q r d f : Int} (m : Str) (hf : 0 < f) : UU q (r * f) (d * f) m = UU q r d m := by
  unfold UU
  have e1 : (2 * (r * f) = d * f) = (2 * r = d) := by
    rw [← Int.mul_assoc]
    exact propext ⟨fun h => Int.eq_of_mul_eq_mul_right (by omega) h, fun h => by rw [h]⟩
  have e2 : decide (d * f < 2 * (r * f)) = decide (d < 2 * r) := by
    rw [← Int.mul_assoc]
    exact decide_eq_decide.mpr ⟨fun h => Int.lt_of_mul_lt_mul_right h (by omega), fun h => Int.mul_lt_mul_of_pos_right h hf⟩
  simp only [e1, e2]
theorem mul_emod_r (n d : Int) {f : Int} (hf : 0 < f) : n * f % (d * f) = n % d * f := by
  rw [Int.mul_comm n f, Int.mul_comm d f, Int.mul_emod_mul_of_pos _ _ hf, Int.mul_comm]
theorem rq_scale {n d f : Int} (m : Str) (hd : 0 < d) (hf : 0 < f) : rq (n * f) (d * f) m = rq n d m := by
  rw [rq_eq _ hd, rq_eq _ (Int.mul_pos hd hf), mul_emod_r n d hf, Int.mul_ediv_mul_of_pos_left _ _ hf, uu_scale m hf]
  have : (n % d * f = 0) = (n % d = 0) := propext ⟨fun h => (Int.mul_eq_zero.mp h).resolve_right (by omega), fun h => by rw [h, Int.zero_mul]⟩
  simp only [this]
theorem uu_shift {q r d k : Int} {m : Str} (hm : m ∈ steady5) : UU (q + 2 * k) r d m = UU q r d m := by
  have hm2 : m = "nearest-even" ∨ m = "nearest-up" ∨ m = "nearest-down" ∨ m = "upward" ∨ m = "downward" := by simpa [steady5] using hm
  rcases hm2 with rfl | rfl | rfl | rfl | rfl <;> simp [UU, goesUp, tieUp, near5]
  all_goals (try (rw [Int.add_mul_emod_self_left]))
theorem rq_shift {n d k : Int} {m : Str} (hd : 0 < d) (hm : m ∈ steady5) : rq (n + 2 * k * d) d m = rq n d m + 2 * k := by
  rw [rq_eq _ hd, rq_eq _ hd, Int.add_mul_emod_self_right, Int.add_mul_ediv_right _ _ (by omega), uu_shift hm]
  split
  · rfl
  · split <;> omega
theorem rq_two (n d : Int) (m : Str) : rq n d m = n / d ∨ rq n d m = n / d + 1 := by
  unfold rq
  split
  · exact .inl rfl
  · split
    · exact .inr rfl
    · exact .inl rfl
theorem rq_sz {n d : Int} {k : Nat} (m : Str) (hd : 1 ≤ d) (h : Sz k n) : Sz (k + 1) (rq n d m) := by
  have e := Int.mul_ediv_add_emod n d
  have e1 := Int.emod_nonneg n (show d ≠ 0 by omega)
  have e2 := Int.emod_lt_of_pos n (show 0 < d by omega)
  have q : (n / d).natAbs ≤ n.natAbs := by
    rcases Int.lt_or_le n 0 with hn | hn
    · have h1 : n / d < 0 := Int.ediv_neg_of_neg_of_pos hn (by omega)
      have h2 : n ≤ n / d := by
        have := Int.mul_le_mul_of_nonneg_right (show 1 ≤ -(n / d) by omega) (show 0 ≤ d - 1 by omega)
        rw [Int.one_mul, Int.neg_mul, Int.mul_sub, Int.mul_one, Int.mul_comm (n / d) d] at this
        omega
      omega
    · have h1 : 0 ≤ n / d := Int.ediv_nonneg hn (by omega)
      have h2 : n / d ≤ n := Int.ediv_le_self _ hn
      omega
  unfold Sz at *
  rw [Nat.pow_succ]
  have := Nat.one_le_two_pow (n := k)
  rcases rq_two n d m with r | r <;> rw [r] <;> omega

theorem rq_off {n d : Int} (m : Str) (hd : 0 < d) : (n % d = 0 ∧ rq n d m * d - n = 0) ∨ (n % d ≠ 0 ∧ rqUp n d m = true ∧ rq n d m = n / d + 1 ∧ rq n d m * d - n = d - n % d) ∨ (n % d ≠ 0 ∧ rqUp n d m = false ∧ rq n d m = n / d ∧ rq n d m * d - n = -(n % d)) := by
  have e := Int.mul_ediv_add_emod n d
  have e1 := Int.emod_nonneg n (show d ≠ 0 by omega)
  have e2 := Int.emod_lt_of_pos n hd
  unfold rq
  by_cases h : n % d = 0
  · rw [if_pos h]
    exact .inl ⟨h, by rw [Int.mul_comm]; omega⟩
  · rw [if_neg h]
    cases u : rqUp n d m with
    | true =>
      rw [if_pos rfl]
      exact .inr (.inl ⟨h, rfl, rfl, by rw [Int.add_mul, Int.one_mul, Int.mul_comm]; omega⟩)
    | false =>
      rw [if_neg (by decide)]
      exact .inr (.inr ⟨h, rfl, rfl, by rw [Int.mul_comm]; omega⟩)
theorem sgn_pos {o n : Int} (h : 0 < o) : decide (0 < o * n) = decide (0 < n) := by
  refine decide_eq_decide.mpr ⟨fun q => ?_, fun q => Int.mul_pos h q⟩
  rcases Int.lt_trichotomy n 0 with z | z | z
  · have := Int.mul_neg_of_pos_of_neg h z; omega
  · rw [z, Int.mul_zero] at q; omega
  · exact z
theorem sgn_neg {o n : Int} (h : o < 0) (hn : n ≠ 0) : decide (0 < o * n) = !decide (0 < n) := by
  rcases Int.lt_trichotomy n 0 with z | z | z
  · rw [decide_eq_true (Int.mul_pos_of_neg_of_neg h z), decide_eq_false (by omega)]; rfl
  · exact absurd z hn
  · have := Int.mul_neg_of_neg_of_pos h z
    rw [decide_eq_false (by omega), decide_eq_true z]; rfl
/-- what the law asks -/
structure Chosen (n d : Int) (m : Str) (o : Int) : Prop where
  lt : (if o < 0 then -o else o) < d
  io : m = "inward" ∨ m = "outward" → o ≠ 0 → decide (0 < o * n) = decide (m = "outward")
  ud : m = "upward" ∨ m = "downward" → o ≠ 0 → decide (0 < o) = decide (m = "upward")
  nr : ¬ (m = "inward" ∨ m = "outward") → ¬ (m = "upward" ∨ m = "downward") → o ≠ 0 → 2 * (if o < 0 then -o else o) ≠ d → 2 * (if o < 0 then -o else o) < d
  ev : m = "nearest-even" → o ≠ 0 → 2 * (if o < 0 then -o else o) = d → rq n d m % 2 = 0
  no : m = "nearest-out" ∨ m = "nearest-in" → o ≠ 0 → 2 * (if o < 0 then -o else o) = d → decide (0 < o * n) = decide (m = "nearest-out")
  nu : m = "nearest-up" ∨ m = "nearest-down" → o ≠ 0 → 2 * (if o < 0 then -o else o) = d → decide (0 < o) = decide (m = "nearest-up")
theorem chosen {n d : Int} {m : Str} (hd : 0 < d) (hm : m ∈ modes9) : Chosen n d m (rq n d m * d - n) := by
  have e := Int.mul_ediv_add_emod n d
  have e1 := Int.emod_nonneg n (show d ≠ 0 by omega)
  have e2 := Int.emod_lt_of_pos n hd
  rcases rq_off (n := n) m hd with ⟨_, h⟩ | ⟨hr, hu, hq, h⟩ | ⟨hr, hu, hq, h⟩
  · rw [h]
    exact ⟨by simpa using hd, fun _ z => absurd rfl z, fun _ z => absurd rfl z, fun _ _ z => absurd rfl z, fun _ z => absurd rfl z, fun _ z => absurd rfl z, fun _ z => absurd rfl z⟩
  · have hn : n ≠ 0 := fun z => by rw [z] at hr; simp at hr
    rw [h]
    have ho : 0 < d - n % d := by omega
    have e3 : (if d - n % d < 0 then -(d - n % d) else d - n % d) = d - n % d := if_neg (by omega)
    have e4 : decide (0 < d - n % d) = true := decide_eq_true ho
    rw [rqUp] at hu
    constructor
    · rw [e3]; omega
    · rintro (rfl | rfl) _ <;> rw [sgn_pos ho] <;> simpa [near5, goesUp] using hu
    · rintro (rfl | rfl) _ <;> rw [e4] <;> simpa [near5, goesUp] using hu
    · intro a1 a2 _ a3
      rw [e3] at a3 ⊢
      have g : m ∈ near5 := by
        rcases mem9 hm with rfl | rfl | rfl | rfl | rfl | rfl | rfl | rfl | rfl <;> first | exact absurd (Or.inl rfl) a1 | exact absurd (Or.inr rfl) a1 | exact absurd (Or.inl rfl) a2 | exact absurd (Or.inr rfl) a2 | decide +kernel
      rw [if_neg (by simpa using g), if_neg (by omega)] at hu
      have := of_decide_eq_true hu
      omega
    · rintro rfl _ a3
      rw [e3] at a3
      rw [if_neg (by decide +kernel), if_pos (by omega)] at hu
      rw [hq]
      have := of_decide_eq_true (show decide (n / d % 2 = 1) = true by simpa [tieUp] using hu)
      omega
    · intro a1 _ a3
      rw [e3] at a3
      rw [sgn_pos ho]
      rcases a1 with rfl | rfl
      · rw [if_neg (by decide +kernel), if_pos (by omega)] at hu
        simpa [tieUp] using hu
      · rw [if_neg (by decide +kernel), if_pos (by omega)] at hu
        simpa [tieUp] using hu
    · intro a1 _ a3
      rw [e3] at a3
      rw [e4]
      rcases a1 with rfl | rfl
      · simp
      · rw [if_neg (by decide +kernel), if_pos (by omega)] at hu
        simpa [tieUp] using hu
  · have hn : n ≠ 0 := fun z => by rw [z] at hr; simp at hr
    rw [h]
    have ho : -(n % d) < 0 := by omega
    have e3 : (if -(n % d) < 0 then -(-(n % d)) else -(n % d)) = n % d := by rw [if_pos ho]; omega
    have e4 : decide (0 < -(n % d)) = false := decide_eq_false (by omega)
    rw [rqUp] at hu
    constructor
    · rw [e3]; omega
    · rintro (rfl | rfl) _ <;> rw [sgn_neg ho hn] <;> simpa [near5, goesUp] using hu
    · rintro (rfl | rfl) _ <;> rw [e4] <;> simpa [near5, goesUp] using hu
    · intro a1 a2 _ a3
      rw [e3] at a3 ⊢
      have g : m ∈ near5 := by
        rcases mem9 hm with rfl | rfl | rfl | rfl | rfl | rfl | rfl | rfl | rfl <;> first | exact absurd (Or.inl rfl) a1 | exact absurd (Or.inr rfl) a1 | exact absurd (Or.inl rfl) a2 | exact absurd (Or.inr rfl) a2 | decide +kernel
      rw [if_neg (by simpa using g), if_neg (by omega)] at hu
      have := of_decide_eq_false hu
      omega
    · rintro rfl _ a3
      rw [e3] at a3
      rw [if_neg (by decide +kernel), if_pos (by omega)] at hu
      rw [hq]
      have := of_decide_eq_false (show decide (n / d % 2 = 1) = false by simpa [tieUp] using hu)
      omega
    · intro a1 _ a3
      rw [e3] at a3
      rw [sgn_neg ho hn]
      rcases a1 with rfl | rfl
      · rw [if_neg (by decide +kernel), if_pos (by omega)] at hu
        simpa [tieUp] using hu
      · rw [if_neg (by decide +kernel), if_pos (by omega)] at hu
        simpa [tieUp] using hu
    · intro a1 _ a3
      rw [e3] at a3
      rw [e4]
      rcases a1 with rfl | rfl
      · rw [if_neg (by decide +kernel), if_pos (by omega)] at hu
        simpa [tieUp] using hu
      · simp
theorem odd_len {m : Str} (h : m.length ≤ 12) (a : Int) : (Txt.upper (cutS m (some a) (some (a + 1)))).length ≤ 40 ∧ (Txt.replace (Txt.upper (cutS m (some a) (some (a + 1)))) "-" "_").length ≤ 100 := by
  have q1 := cutS_length m (some a) (some (a + 1))
  have q2 := PyProof.Rows.len_upper (cutS m (some a) (some (a + 1)))
  have q3 := TK.replace_len (Txt.upper (cutS m (some a) (some (a + 1)))) "-" "_"
  have q4 : ("_" : Str).length = 1 := rfl
  rw [q4] at q3
  omega
/-- texts near the modes are none -/
def oddT (m : Str) (a : Int) : List Str := [cutS m none (some a), cutS m none (some a) ++ cutS m (some (a + 1)) none, cutS m none (some a) ++ Txt.replace (Txt.upper (cutS m (some a) (some (a + 1)))) "-" "_" ++ cutS m (some (a + 1)) none,
  m ++ " ", " " ++ m, cutS m none (some (a + 1)) ++ cutS m (some a) none]
theorem odd_all : ∀ m ∈ modes9, ∀ a < m.length, ∀ t ∈ oddT m (a : Nat), t ∉ modes9 := by decide +kernel
theorem odd_not {m : Str} {a : Int} (hm : m ∈ modes9) (h0 : 0 ≤ a) (h1 : a < m.length) {t : Str} (ht : t ∈ oddT m a) : t ∉ modes9 := by
  obtain ⟨n, rfl⟩ := Int.eq_ofNat_of_zero_le h0
  exact odd_all m hm n (by omega) t ht
theorem len9 : ∀ m ∈ modes9, 1 ≤ m.length ∧ m.length ≤ 12 := by decide +kernel
def words8 : List Str := ["nearest", "even", "up", "down", "in", "out", "near", "none"]
theorem words_not : ∀ t ∈ words8, t ∉ modes9 := by decide +kernel
theorem nin9 {m : Str} (h : m ∉ modes9) : inV (.str m) (modes9.map V.str) = false := by rw [in_str]; exact decide_eq_false h

theorem at_getS {xs : List Str} {q : Int} (h0 : 0 ≤ q) (h1 : q < xs.length) : atI (xs.map V.str) q = some (V.str (xs.getD q.toNat "")) := by
  obtain ⟨n, rfl⟩ := Int.eq_ofNat_of_zero_le h0
  have hn : n < xs.length := by omega
  refine atI_nat ?_
  rw [List.getElem?_map, List.getD_eq_getElem?_getD, Int.toNat_natCast, List.getElem?_eq_getElem hn]
  rfl
theorem getS_mem {xs : List Str} {q : Int} (h0 : 0 ≤ q) (h1 : q < xs.length) : xs.getD q.toNat "" ∈ xs := by
  have hn : q.toNat < xs.length := by omega
  rw [List.getD_eq_getElem?_getD, List.getElem?_eq_getElem hn]
  exact List.getElem_mem hn
abbrev st_BadMode : Stmt := inClass (top 3) 0
abbrev ff_BadMode : List (Str × Str) := [("mode", "mode")]
theorem ss_BadMode : SupS (defArgs st_BadMode) (defBody st_BadMode) (defScope st_BadMode) "self" ff_BadMode := ⟨⟨_, _, _, _, _, _, _, _, _, rfl, rfl, fun _ => ⟨_, rfl⟩, fun _ => rfl⟩, rfl, rfl, rfl, rfl, by decide +kernel, rfl, rfl, rfl, by decide +kernel, rfl⟩
theorem sb_BadMode (s : Shared) (kV doc pm : Value) (an : Option Addr) (cdv ct : Value) (cc : Addr) (u0 u1 : Value) : BindsTo s (PySem.W.ksFn "__init__" "BadMode.__init__" (defArgs st_BadMode) (defBody st_BadMode) (defScope st_BadMode) .none kV doc pm an cdv ct cc) ⟨[u0, u1], []⟩ [("self", u0), ("mode", u1)] := BindsTo.of_eq rfl
structure Txt (P : Program) (w : World) (K : PySem.W.Frag) (mg : Str → Option Value) : Prop where
  d_check_mode : ∃ fd, FunD K "check_mode" "check_mode" (defArgs (top 7)) (defBody (top 7)) (defScope (top 7)) [] [] (He.fAd K ("check_mode", none)) fd
  d_goes_up : ∃ fd, FunD K "goes_up" "goes_up" (defArgs (top 8)) (defBody (top 8)) (defScope (top 8)) [] [] (He.fAd K ("goes_up", none)) fd
  d_tie_goes_up : ∃ fd, FunD K "tie_goes_up" "tie_goes_up" (defArgs (top 9)) (defBody (top 9)) (defScope (top 9)) [] [] (He.fAd K ("tie_goes_up", none)) fd
  d_round_quotient : ∃ fd, FunD K "round_quotient" "round_quotient" (defArgs (top 10)) (defBody (top 10)) (defScope (top 10)) [] [] (He.fAd K ("round_quotient", none)) fd
  d__law_draw : ∃ fd, FunD K "_law_draw" "_law_draw" (defArgs (top 13)) (defBody (top 13)) (defScope (top 13)) [] [] (He.fAd K ("_law_draw", none)) fd
  d__law_modes : ∃ fd, FunD K "_law_modes" "_law_modes" (defArgs (top 14)) (defBody (top 14)) (defScope (top 14)) [] [] (He.fAd K ("_law_modes", none)) fd
  d__law_mode : ∃ fd, FunD K "_law_mode" "_law_mode" (defArgs (top 15)) (defBody (top 15)) (defScope (top 15)) [] [] (He.fAd K ("_law_mode", none)) fd
  d__law_source : ∃ fd, FunD K "_law_source" "_law_source" (defArgs (top 12)) (defBody (top 12)) (defScope (top 12)) [] [] (He.fAd K ("_law_source", none)) fd
  d__law_power : ∃ fd, FunD K "_law_power" "_law_power" (defArgs (top 16)) (defBody (top 16)) (defScope (top 16)) [] [] (He.fAd K ("_law_power", none)) fd
  d__law_equal : ∃ fd, FunD K "_law_equal" "_law_equal" (defArgs (top 17)) (defBody (top 17)) (defScope (top 17)) [] [] (He.fAd K ("_law_equal", none)) fd
  d__law_big : ∃ fd, FunD K "_law_big" "_law_big" (defArgs (top 18)) (defBody (top 18)) (defScope (top 18)) [] [] (He.fAd K ("_law_big", none)) fd
  d__law_divisor : ∃ fd, FunD K "_law_divisor" "_law_divisor" (defArgs (top 19)) (defBody (top 19)) (defScope (top 19)) [] [] (He.fAd K ("_law_divisor", none)) fd
  d__law_numerator : ∃ fd, FunD K "_law_numerator" "_law_numerator" (defArgs (top 20)) (defBody (top 20)) (defScope (top 20)) [] [] (He.fAd K ("_law_numerator", none)) fd
  d__law_chosen : ∃ fd, FunD K "_law_chosen" "_law_chosen" (defArgs (top 22)) (defBody (top 22)) (defScope (top 22)) [] [] (He.fAd K ("_law_chosen", none)) fd
  d__law_refused : ∃ fd, FunD K "_law_refused" "_law_refused" (defArgs (top 23)) (defBody (top 23)) (defScope (top 23)) [] [] (He.fAd K ("_law_refused", none)) fd
  d__law_odd_mode : ∃ fd, FunD K "_law_odd_mode" "_law_odd_mode" (defArgs (top 21)) (defBody (top 21)) (defScope (top 21)) [] [] (He.fAd K ("_law_odd_mode", none)) fd
  d_law : ∃ fd, FunD K "law" "law" (defArgs (top 24)) (defBody (top 24)) (defScope (top 24)) [] [] (He.fAd K ("law", none)) fd
  g_BadBase : mg "BadBase" = some (.ref (He.ga K "BadBase"))
  g_BadMode : mg "BadMode" = some (.ref (He.ga K "BadMode"))
  g_LostError : mg "LostError" = some (.ref (He.ga K "LostError"))
  g_MODES : mg "MODES" = some (.ref (He.ga K "MODES"))
  t_MODES : ∀ H : Hp, SqT K H (He.ga K "MODES") [V.str "nearest-even", V.str "nearest-out", V.str "nearest-in", V.str "nearest-up", V.str "nearest-down", V.str "inward", V.str "outward", V.str "upward", V.str "downward"]
  g_NEAREST : mg "NEAREST" = some (.ref (He.ga K "NEAREST"))
  t_NEAREST : ∀ H : Hp, SqT K H (He.ga K "NEAREST") [V.str "nearest-even", V.str "nearest-out", V.str "nearest-in", V.str "nearest-up", V.str "nearest-down"]
  b_ValueError : mg "ValueError" = none
  g__law_big : mg "_law_big" = some (.ref (He.fAd K ("_law_big", none)))
  g__law_chosen : mg "_law_chosen" = some (.ref (He.fAd K ("_law_chosen", none)))
  g__law_divisor : mg "_law_divisor" = some (.ref (He.fAd K ("_law_divisor", none)))
  g__law_draw : mg "_law_draw" = some (.ref (He.fAd K ("_law_draw", none)))
  g__law_equal : mg "_law_equal" = some (.ref (He.fAd K ("_law_equal", none)))
  g__law_mode : mg "_law_mode" = some (.ref (He.fAd K ("_law_mode", none)))
  g__law_modes : mg "_law_modes" = some (.ref (He.fAd K ("_law_modes", none)))
  g__law_numerator : mg "_law_numerator" = some (.ref (He.fAd K ("_law_numerator", none)))
  g__law_odd_mode : mg "_law_odd_mode" = some (.ref (He.fAd K ("_law_odd_mode", none)))
  g__law_power : mg "_law_power" = some (.ref (He.fAd K ("_law_power", none)))
  g__law_refused : mg "_law_refused" = some (.ref (He.fAd K ("_law_refused", none)))
  g__law_source : mg "_law_source" = some (.ref (He.fAd K ("_law_source", none)))
  b_abs : mg "abs" = none
  b_bool : mg "bool" = none
  g_check_mode : mg "check_mode" = some (.ref (He.fAd K ("check_mode", none)))
  b_divmod : mg "divmod" = none
  g_goes_up : mg "goes_up" = some (.ref (He.fAd K ("goes_up", none)))
  b_int : mg "int" = none
  b_isinstance : mg "isinstance" = none
  g_law : mg "law" = some (.ref (He.fAd K ("law", none)))
  b_len : mg "len" = none
  b_range : mg "range" = none
  g_round_quotient : mg "round_quotient" = some (.ref (He.fAd K ("round_quotient", none)))
  b_str : mg "str" = none
  b_super : mg "super" = none
  g_tie_goes_up : mg "tie_goes_up" = some (.ref (He.fAd K ("tie_goes_up", none)))
  sup_BadMode : SupT P K (He.ga K "BadMode") (He.fAd K ("BadMode", some "__init__")) "BadMode.__init__" (defArgs (st_BadMode)) (defBody (st_BadMode)) (defScope (st_BadMode)) "self" ff_BadMode
  exm_BadMode_LostError : PySem.W.exmOne K (.ref (He.ga K "BadMode")) (.ref (He.ga K "LostError")) = some true
  excC_BadMode : ExcC K (He.ga K "BadMode")
  ekit_BadMode_BadMode : PySem.W.kitOne K (.ref (He.ga K "BadMode")) (.ref (He.ga K "BadMode")) = some true
  ekit_BadMode_ValueError : PySem.W.kitOne K (.ref (He.ga K "BadMode")) (.type "ValueError") = some true
  ekit_BadMode_BadBase : PySem.W.kitOne K (.ref (He.ga K "BadMode")) (.ref (He.ga K "BadBase")) = some false
  xfC_BadMode : XfC K (He.ga K "BadMode")
  na_BadMode_mode : NoAttr K (He.ga K "BadMode") "mode"
/-! check_mode -/
def sp_check_mode (K : PySem.W.Frag) : Sp := fun vs H Q _ => ∃ (mode : Str), vs = [V.str mode] ∧ (mode ∈ modes9) ∧ ∀  (H' : Hp), Same H H' → Q (V.non) H'
abbrev s_check_mode : Stmt := top 7
theorem sc_check_mode : FnScope ["mode"] ["mode"] (defScope s_check_mode) := ⟨rfl, rfl, rfl, by decide +kernel, rfl, by decide +kernel, by decide +kernel⟩
theorem vis_check_mode : visB ["mode"] (defScope s_check_mode) = true := by decide +kernel
theorem gl_check_mode : glB ["MODES"] (defScope s_check_mode) = true := by decide +kernel
theorem ok_check_mode {P : Program} {w : World} {K : PySem.W.Frag} {mg : Str → Option Value} {base : Heap} (T : Txt P w K mg) : OkD P w K mg base 1 (He.fAd K ("check_mode", none)) ["mode"] [] (sp_check_mode K) := by
  obtain ⟨fd, F⟩ := T.d_check_mode
  refine ⟨fd, [], F.kp, F.bindsN (fun _ _ _ _ _ _ us hl => match us, hl with | [_], _ => rfl), .nil, ?_⟩
  have sc := sc_check_mode; have vis := vis_check_mode; have gls := gl_check_mode
  refine F.ok sc (fun vs H Q E h => ?_) (fun cdv A outer s H0 vs Q E hr h => ?_)
  · obtain ⟨mode, rfl, _⟩ := h; rfl
  · obtain ⟨mode, rfl, e0, k⟩ := h
    refine ⟨_, PSs.nox (pss_one (ps_if (pt_cmpR op_notIn_seq (pn vis 0) (pgr gls 0 T.g_MODES) (by rfl)) pss_never pss_nil)), ?_⟩
    refine i_start (σ' := [some (V.str mode)]) rfl ?_
    refine i_if <| i_test <| i_op <| v0 <| i_c <| i_inN (.inr (T.t_MODES H0)) rfl (by exact flat_str modes9) (b := true) (by exact in9 e0) <| i_bl <| i_iteNT <| i_next <| ?_
    exact k _ (Same.refl _)

/-! check_mode@bad -/
def sp_check_mode_bad (K : PySem.W.Frag) : Sp := fun vs H Q E => ∃ (mode : Str), vs = [V.str mode] ∧ (mode ∉ modes9) ∧ ∀ (d : Addr) (H' : Hp), Same H H' → H' d = some (.xd [("mode", V.str mode)]) → E (.ref (He.ga K "BadMode")) (some d) H'
abbrev s_check_mode_bad : Stmt := top 7
theorem sc_check_mode_bad : FnScope ["mode"] ["mode"] (defScope s_check_mode_bad) := ⟨rfl, rfl, rfl, by decide +kernel, rfl, by decide +kernel, by decide +kernel⟩
theorem vis_check_mode_bad : visB ["mode"] (defScope s_check_mode_bad) = true := by decide +kernel
theorem gl_check_mode_bad : glB ["MODES", "BadMode"] (defScope s_check_mode_bad) = true := by decide +kernel
theorem ok_check_mode_bad {P : Program} {w : World} {K : PySem.W.Frag} {mg : Str → Option Value} {base : Heap} (T : Txt P w K mg) : OkD P w K mg base 2 (He.fAd K ("check_mode", none)) ["mode"] [] (sp_check_mode_bad K) := by
  obtain ⟨fd, F⟩ := T.d_check_mode
  refine ⟨fd, [], F.kp, F.bindsN (fun _ _ _ _ _ _ us hl => match us, hl with | [_], _ => rfl), .nil, ?_⟩
  have sc := sc_check_mode_bad; have vis := vis_check_mode_bad; have gls := gl_check_mode_bad
  refine F.ok sc (fun vs H Q E h => ?_) (fun cdv A outer s H0 vs Q E hr h => ?_)
  · obtain ⟨mode, rfl, _⟩ := h; rfl
  · obtain ⟨mode, rfl, e0, k⟩ := h
    refine ⟨_, (pss_one (ps_if (pt_cmpR op_notIn_seq (pn vis 0) (pgr gls 0 T.g_MODES) (by rfl)) (pss_one (ps_rs rfl takes_cx (pmk_sup1 T.sup_BadMode ss_BadMode sb_BadMode (by decide) (hr.mono (by decide)) (gl_of gls (i := 1) rfl).1 T.g_BadMode T.b_super (pn vis 0)))) pss_nil)), ?_⟩
    refine i_start (σ' := [some (V.str mode)]) rfl ?_
    refine i_if <| i_test <| i_op <| v0 <| i_c <| i_inN (.inr (T.t_MODES H0)) rfl (by exact flat_str modes9) (b := false) (by exact nin9 e0) <| i_bl <| i_iteNF <| i_rs <| i_mk1 <| v0 <| i_mk1e (fun d1 H1 s1 x1 => ?_)
    exact k _ _ s1 x1

/-! goes_up -/
def sp_goes_up (K : PySem.W.Frag) : Sp := fun vs H Q _ => ∃ (mode : Str) (positive : Bool), vs = [V.str mode, V.bl positive] ∧ ∀ (r : Bool) (H' : Hp), Same H H' → (r = goesUp mode positive) → Q (V.bl r) H'
abbrev s_goes_up : Stmt := top 8
theorem sc_goes_up : FnScope ["mode", "positive"] ["mode", "positive"] (defScope s_goes_up) := ⟨rfl, rfl, rfl, by decide +kernel, rfl, by decide +kernel, by decide +kernel⟩
theorem vis_goes_up : visB ["mode", "positive"] (defScope s_goes_up) = true := by decide +kernel
theorem gl_goes_up : glB [] (defScope s_goes_up) = true := by decide +kernel
theorem ok_goes_up {P : Program} {w : World} {K : PySem.W.Frag} {mg : Str → Option Value} {base : Heap} (T : Txt P w K mg) : OkD P w K mg base 1 (He.fAd K ("goes_up", none)) ["mode", "positive"] [] (sp_goes_up K) := by
  obtain ⟨fd, F⟩ := T.d_goes_up
  refine ⟨fd, [], F.kp, F.bindsN (fun _ _ _ _ _ _ us hl => match us, hl with | [_, _], _ => rfl), .nil, ?_⟩
  have sc := sc_goes_up; have vis := vis_goes_up; have gls := gl_goes_up
  refine F.ok sc (fun vs H Q E h => ?_) (fun cdv A outer s H0 vs Q E hr h => ?_)
  · obtain ⟨mode, positive, rfl, _⟩ := h; rfl
  · obtain ⟨mode, positive, rfl, k⟩ := h
    refine ⟨_, PSs.nox (pss_cons (ps_if (pt_cmpR op_eqS (pn vis 0) pe_str (nomark _)) (pss_one (ps_ret (pe_not (pn vis 1)))) pss_nil) (pss_cons (ps_if (pt_cmpR op_eqS (pn vis 0) pe_str (nomark _)) (pss_one (ps_ret (pn vis 1))) pss_nil) (pss_one (ps_ret (pe_cmpR op_eqS (pn vis 0) pe_str (nomark _)))))), ?_⟩
    refine i_start (σ' := [some (V.str mode), some (V.bl positive)]) rfl ?_
    refine i_seq <| i_if <| i_test <| i_op <| v0 <| i_c <| i_S0 <| i_bl <| i_ite (fun c1 => ?_) (fun c1 => ?_)
    ·
      refine i_ret <| i_notV <| v1 <| i_blV <| ?_
      exact k _ _ (Same.refl _) (by simp [goesUp, *])
    ·
      refine i_next <| i_nx <| i_seq <| i_if <| i_test <| i_op <| v0 <| i_c <| i_S0 <| i_bl <| i_ite (fun c3 => ?_) (fun c3 => ?_)
      ·
        refine i_ret <| v1 <| ?_
        exact k _ _ (Same.refl _) (by simp [goesUp, *])
      ·
        refine i_next <| i_nx <| i_ret <| i_op <| v0 <| i_c <| i_S0 <| ?_
        exact k _ _ (Same.refl _) (by simp [goesUp, *])

/-! tie_goes_up -/
def sp_tie_goes_up (K : PySem.W.Frag) : Sp := fun vs H Q _ => ∃ (mode : Str) (low : Int) (positive : Bool), vs = [V.str mode, V.int low, V.bl positive] ∧ ∀ (r : Bool) (H' : Hp), Same H H' → (r = tieUp mode low positive) → Q (V.bl r) H'
abbrev s_tie_goes_up : Stmt := top 9
theorem sc_tie_goes_up : FnScope ["mode", "low", "positive"] ["mode", "low", "positive"] (defScope s_tie_goes_up) := ⟨rfl, rfl, rfl, by decide +kernel, rfl, by decide +kernel, by decide +kernel⟩
theorem vis_tie_goes_up : visB ["mode", "low", "positive"] (defScope s_tie_goes_up) = true := by decide +kernel
theorem gl_tie_goes_up : glB ["int"] (defScope s_tie_goes_up) = true := by decide +kernel
theorem ok_tie_goes_up {P : Program} {w : World} {K : PySem.W.Frag} {mg : Str → Option Value} {base : Heap} (T : Txt P w K mg) : OkD P w K mg base 1 (He.fAd K ("tie_goes_up", none)) ["mode", "low", "positive"] [] (sp_tie_goes_up K) := by
  obtain ⟨fd, F⟩ := T.d_tie_goes_up
  refine ⟨fd, [], F.kp, F.bindsN (fun _ _ _ _ _ _ us hl => match us, hl with | [_, _, _], _ => rfl), .nil, ?_⟩
  have sc := sc_tie_goes_up; have vis := vis_tie_goes_up; have gls := gl_tie_goes_up
  refine F.ok sc (fun vs H Q E h => ?_) (fun cdv A outer s H0 vs Q E hr h => ?_)
  · obtain ⟨mode, low, positive, rfl, _⟩ := h; rfl
  · obtain ⟨mode, low, positive, rfl, k⟩ := h
    refine ⟨_, PSs.nox (pss_cons (ps_if (pt_cmpR op_eqS (pn vis 0) pe_str (nomark _)) (pss_one (ps_ret (pe_cmpR op_eqI (pe_op op_mod (pcT call_intI gls 0 T.b_int boot_int (pa_cons (pn vis 1) pa_nil)) pe_int) pe_int (nomark _)))) pss_nil) (pss_cons (ps_if (pt_cmpR op_eqS (pn vis 0) pe_str (nomark _)) (pss_one (ps_ret (pn vis 2))) pss_nil) (pss_cons (ps_if (pt_cmpR op_eqS (pn vis 0) pe_str (nomark _)) (pss_one (ps_ret (pe_not (pn vis 2)))) pss_nil) (pss_one (ps_ret (pe_cmpR op_eqS (pn vis 0) pe_str (nomark _))))))), ?_⟩
    refine i_start (σ' := [some (V.str mode), some (V.int low), some (V.bl positive)]) rfl ?_
    refine i_seq <| i_if <| i_test <| i_op <| v0 <| i_c <| i_S0 <| i_bl <| i_ite (fun c1 => ?_) (fun c1 => ?_)
    ·
      refine i_ret <| i_op <| i_op <| i_cb <| i_cons <| v1 <| i_nil <| i_int <| i_c <| i_I (by show (0 : Int) < _; first | decide | assumption | omega) <| i_c <| i_I0 <| ?_
      exact k _ _ (Same.refl _) (by simp [tieUp, *])
    ·
      refine i_next <| i_nx <| i_seq <| i_if <| i_test <| i_op <| v0 <| i_c <| i_S0 <| i_bl <| i_ite (fun c3 => ?_) (fun c3 => ?_)
      ·
        refine i_ret <| v2 <| ?_
        exact k _ _ (Same.refl _) (by simp [tieUp, *])
      ·
        refine i_next <| i_nx <| i_seq <| i_if <| i_test <| i_op <| v0 <| i_c <| i_S0 <| i_bl <| i_ite (fun c5 => ?_) (fun c5 => ?_)
        ·
          refine i_ret <| i_notV <| v2 <| i_blV <| ?_
          exact k _ _ (Same.refl _) (by simp [tieUp, *])
        ·
          refine i_next <| i_nx <| i_ret <| i_op <| v0 <| i_c <| i_S0 <| ?_
          exact k _ _ (Same.refl _) (by simp [tieUp, *])

/-! round_quotient -/
def sp_round_quotient (K : PySem.W.Frag) : Sp := fun vs H Q _ => ∃ (numerator : Int) (divisor : Int) (mode : Str), vs = [V.int numerator, V.int divisor, V.str mode] ∧ (0 < divisor) ∧ (Sz 9000 divisor) ∧ (mode ∈ modes9) ∧ ∀ (r : Int) (H' : Hp), Same H H' → (r = rq numerator divisor mode) → Q (V.int r) H'
abbrev s_round_quotient : Stmt := top 10
theorem sc_round_quotient : FnScope ["numerator", "divisor", "mode", "positive", "low", "rest", "up"] ["numerator", "divisor", "mode"] (defScope s_round_quotient) := ⟨rfl, rfl, rfl, by decide +kernel, rfl, by decide +kernel, by decide +kernel⟩
theorem vis_round_quotient : visB ["numerator", "divisor", "mode", "positive", "low", "rest", "up"] (defScope s_round_quotient) = true := by decide +kernel
theorem gl_round_quotient : glB ["check_mode", "divmod", "NEAREST", "goes_up", "tie_goes_up"] (defScope s_round_quotient) = true := by decide +kernel
theorem ok_round_quotient {P : Program} {w : World} {K : PySem.W.Frag} {mg : Str → Option Value} {base : Heap} (T : Txt P w K mg) : OkD P w K mg base 2 (He.fAd K ("round_quotient", none)) ["numerator", "divisor", "mode"] [] (sp_round_quotient K) := by
  obtain ⟨fd, F⟩ := T.d_round_quotient
  refine ⟨fd, [], F.kp, F.bindsN (fun _ _ _ _ _ _ us hl => match us, hl with | [_, _, _], _ => rfl), .nil, ?_⟩
  have sc := sc_round_quotient; have vis := vis_round_quotient; have gls := gl_round_quotient
  refine F.ok sc (fun vs H Q E h => ?_) (fun cdv A outer s H0 vs Q E hr h => ?_)
  · obtain ⟨numerator, divisor, mode, rfl, _⟩ := h; rfl
  · obtain ⟨numerator, divisor, mode, rfl, e0, e1, e2, k⟩ := h
    refine ⟨_, PSs.nox (pss_cons (ps_expr (pcD (ok_check_mode T) (hr.mono (by decide)) gls 0 T.g_check_mode (pa_cons (pn vis 2) pa_nil))) (pss_cons (ps_asg (pcB call_dm gls 1 T.b_divmod (by decide +kernel) (pa_cons (pn vis 0) (pa_cons (pn vis 1) pa_nil))) (pg_tup (by rfl) (pgs_cons (pg_name (i := 4) sc.nd rfl (.inl rfl)) (pgs_cons (pg_name (i := 5) sc.nd rfl (.inl rfl)) pgs_nil)))) (pss_cons (ps_if (pt_cmpR op_eqI (pn vis 5) pe_int (nomark _)) (pss_one (ps_ret (pn vis 4))) pss_nil) (pss_cons (ps_set (i := 3) sc.nd rfl (.inl rfl) (pe_cmpR op_gt (pn vis 0) pe_int (nomark _))) (pss_cons (ps_if (pt_cmpR op_notIn_seq (pn vis 2) (pgr gls 2 T.g_NEAREST) (by rfl)) (pss_one (ps_set (i := 6) sc.nd rfl (.inl rfl) (pcD (ok_goes_up T) (hr.mono (by decide)) gls 3 T.g_goes_up (pa_cons (pn vis 2) (pa_cons (pn vis 3) pa_nil))))) (pss_one (ps_if (pt_cmpR op_eqI (pe_op op_mul pe_int (pn vis 5)) (pn vis 1) (nomark _)) (pss_one (ps_set (i := 6) sc.nd rfl (.inl rfl) (pcD (ok_tie_goes_up T) (hr.mono (by decide)) gls 4 T.g_tie_goes_up (pa_cons (pn vis 2) (pa_cons (pn vis 4) (pa_cons (pn vis 3) pa_nil)))))) (pss_one (ps_set (i := 6) sc.nd rfl (.inl rfl) (pe_cmpR op_gt (pe_op op_mul pe_int (pn vis 5)) (pn vis 1) (nomark _))))))) (pss_cons (ps_if (pt_val (pn vis 6)) (pss_one (ps_ret (pe_op op_add (pn vis 4) pe_int))) pss_nil) (pss_one (ps_ret (pn vis 4))))))))), ?_⟩
    refine i_start (σ' := [some (V.int numerator), some (V.int divisor), some (V.str mode), none, none, none, none]) rfl ?_
    refine i_seq <| i_drop <| i_call <| i_cons <| v2 <| i_nil <| ⟨_, rfl, (by first | assumption | omega | rfl | exact Sz.zero | exact Sz.sm (by omega) (by omega) (by decide) | exact Sz.mono (by assumption) (by decide)), fun H2 s2 => ?_⟩
    refine i_nx <| i_seq <| i_asg <| i_cb <| i_cons <| v0 <| i_cons <| v1 <| i_nil <| i_dm (by exact divp e0 e1) (fun p3 H3 _ s3 f3 => ?_)
    refine i_gtup (SqT.of f3) rfl <| i_gcons <| n4 <| i_gcons <| n5 <| i_gnil <| i_nx <| i_seq <| i_if <| i_test <| i_op <| v5 <| i_c <| i_I0 <| i_bl <| i_ite (fun c3 => ?_) (fun c3 => ?_)
    ·
      refine i_ret <| v4 <| ?_
      exact k _ _ (s2.trans s3) (by simp_all [rq, rqUp] <;> omega)
    ·
      refine i_next <| i_nx <| i_seq <| i_asg <| i_op <| v0 <| i_c <| i_I0 <| n3 <| i_nx <| i_seq <| i_if <| i_test <| i_op <| v2 <| i_c <| i_inN (.inr (T.t_NEAREST H3)) rfl (by exact flat_str near5) (b := (decide (mode ∈ near5))) (by exact in5 mode) <| i_bl <| i_iteN (fun c6 => ?_) (fun c6 => ?_)
      ·
        refine i_asg <| i_call <| i_cons <| v2 <| i_cons <| v3 <| i_nil <| ⟨_, _, rfl, fun up H4 s4 hup => ?_⟩
        refine n6 <| i_nx <| i_seq <| i_if <| i_tB <| v6 <| i_bl <| i_iteB (fun c12 => ?_) (fun c12 => ?_)
        ·
          refine i_ret <| i_op <| v4 <| i_c <| i_I0 <| ?_
          exact k _ _ (s2.trans (s3.trans s4)) (by simp_all [rq, rqUp] <;> omega)
        ·
          refine i_next <| i_nx <| i_ret <| v4 <| ?_
          exact k _ _ (s2.trans (s3.trans s4)) (by simp_all [rq, rqUp] <;> omega)
      ·
        refine i_if <| i_test <| i_op <| i_op <| i_c <| v5 <| i_I (by first | exact .inl ⟨by decide, by decide⟩ | exact .inr ⟨by decide, by decide⟩) <| v1 <| i_I0 <| i_bl <| i_ite (fun c8 => ?_) (fun c8 => ?_)
        ·
          refine i_asg <| i_call <| i_cons <| v2 <| i_cons <| v4 <| i_cons <| v3 <| i_nil <| ⟨_, _, _, rfl, fun up2 H5 s5 hup2 => ?_⟩
          refine n6 <| i_nx <| i_seq <| i_if <| i_tB <| v6 <| i_bl <| i_iteB (fun c12' => ?_) (fun c12' => ?_)
          ·
            refine i_ret <| i_op <| v4 <| i_c <| i_I0 <| ?_
            exact k _ _ (s2.trans (s3.trans s5)) (by simp_all [rq, rqUp] <;> omega)
          ·
            refine i_next <| i_nx <| i_ret <| v4 <| ?_
            exact k _ _ (s2.trans (s3.trans s5)) (by simp_all [rq, rqUp] <;> omega)
        ·
          refine i_asg <| i_op <| i_op <| i_c <| v5 <| i_I (by first | exact .inl ⟨by decide, by decide⟩ | exact .inr ⟨by decide, by decide⟩) <| v1 <| i_I0 <| n6 <| i_nx <| i_seq <| i_if <| i_tB <| v6 <| i_bl <| i_ite (fun c12'' => ?_) (fun c12'' => ?_)
          ·
            refine i_ret <| i_op <| v4 <| i_c <| i_I0 <| ?_
            exact k _ _ (s2.trans s3) (by simp_all [rq, rqUp] <;> omega)
          ·
            refine i_next <| i_nx <| i_ret <| v4 <| ?_
            exact k _ _ (s2.trans s3) (by simp_all [rq, rqUp] <;> omega)

/-! round_quotient@bad -/
def sp_round_quotient_bad (K : PySem.W.Frag) : Sp := fun vs H Q E => ∃ (numerator : Int) (divisor : Int) (mode : Str), vs = [V.int numerator, V.int divisor, V.str mode] ∧ (mode ∉ modes9) ∧ ∀ (d : Addr) (H' : Hp), Same H H' → H' d = some (.xd [("mode", V.str mode)]) → E (.ref (He.ga K "BadMode")) (some d) H'
abbrev s_round_quotient_bad : Stmt := top 10
theorem sc_round_quotient_bad : FnScope ["numerator", "divisor", "mode", "positive", "low", "rest", "up"] ["numerator", "divisor", "mode"] (defScope s_round_quotient_bad) := ⟨rfl, rfl, rfl, by decide +kernel, rfl, by decide +kernel, by decide +kernel⟩
theorem vis_round_quotient_bad : visB ["numerator", "divisor", "mode", "positive", "low", "rest", "up"] (defScope s_round_quotient_bad) = true := by decide +kernel
theorem gl_round_quotient_bad : glB ["check_mode"] (defScope s_round_quotient_bad) = true := by decide +kernel
theorem ok_round_quotient_bad {P : Program} {w : World} {K : PySem.W.Frag} {mg : Str → Option Value} {base : Heap} (T : Txt P w K mg) : OkD P w K mg base 3 (He.fAd K ("round_quotient", none)) ["numerator", "divisor", "mode"] [] (sp_round_quotient_bad K) := by
  obtain ⟨fd, F⟩ := T.d_round_quotient
  refine ⟨fd, [], F.kp, F.bindsN (fun _ _ _ _ _ _ us hl => match us, hl with | [_, _, _], _ => rfl), .nil, ?_⟩
  have sc := sc_round_quotient_bad; have vis := vis_round_quotient_bad; have gls := gl_round_quotient_bad
  refine F.ok sc (fun vs H Q E h => ?_) (fun cdv A outer s H0 vs Q E hr h => ?_)
  · obtain ⟨numerator, divisor, mode, rfl, _⟩ := h; rfl
  · obtain ⟨numerator, divisor, mode, rfl, e0, k⟩ := h
    refine ⟨_, (pss_cons (ps_expr (pcW (ok_check_mode_bad T) (hr.mono (by decide)) gls 0 T.g_check_mode takes_cx (pa_cons (pn vis 2) pa_nil))) pss_never), ?_⟩
    refine i_start (σ' := [some (V.int numerator), some (V.int divisor), some (V.str mode), none, none, none, none]) rfl ?_
    refine i_seq <| i_drop <| i_callW <| i_cons <| v2 <| i_nil <| ⟨_, rfl, (by first | assumption | omega | rfl | exact Sz.zero | exact Sz.sm (by omega) (by omega) (by decide) | exact Sz.mono (by assumption) (by decide)), fun d2 H2 s2 x2 => ?_⟩
    exact k _ _ s2 x2

/-! _law_draw -/
def sp__law_draw (K : PySem.W.Frag) : Sp := fun vs H Q _ => ∃ (sourceA : Addr) (many : Int), vs = [V.ref sourceA, V.int many] ∧ IsSrc H sourceA ∧ (0 < many) ∧ (Sz 8000 many) ∧ ∀ (r : Int) (H' : Hp), Ext H H' → IsSrc H' sourceA → (0 ≤ r) → (r < many) → Q (V.int r) H'
abbrev s__law_draw : Stmt := top 13
theorem sc__law_draw : FnScope ["source", "many", "mixed", "cell", "size", "value"] ["source", "many"] (defScope s__law_draw) := ⟨rfl, rfl, rfl, by decide +kernel, rfl, by decide +kernel, by decide +kernel⟩
theorem vis__law_draw : visB ["source", "many", "mixed", "cell", "size", "value"] (defScope s__law_draw) = true := by decide +kernel
theorem gl__law_draw : glB ["len", "abs", "int"] (defScope s__law_draw) = true := by decide +kernel
theorem ok__law_draw {P : Program} {w : World} {K : PySem.W.Frag} {mg : Str → Option Value} {base : Heap} (T : Txt P w K mg) : OkD P w K mg base 1 (He.fAd K ("_law_draw", none)) ["source", "many"] [] (sp__law_draw K) := by
  obtain ⟨fd, F⟩ := T.d__law_draw
  refine ⟨fd, [], F.kp, F.bindsN (fun _ _ _ _ _ _ us hl => match us, hl with | [_, _], _ => rfl), .nil, ?_⟩
  have sc := sc__law_draw; have vis := vis__law_draw; have gls := gl__law_draw
  refine F.ok sc (fun vs H Q E h => ?_) (fun cdv A outer s H0 vs Q E hr h => ?_)
  · obtain ⟨sourceA, many, rfl, _⟩ := h; rfl
  · obtain ⟨sourceA, many, rfl, a0, e0, e1, k⟩ := h
    refine ⟨_, PSs.nox (C8.pss_cut (ps_if (PW.pt (pw_and (pt_cmpR op_eqI (pe_ix ix_list (pn vis 0) pe_int (fun _ _ => rfl)) pe_int (nomark _)) (pw_and1 (pt_cmpR op_eqI (pe_ix ix_list (pn vis 0) pe_int (fun _ _ => rfl)) pe_int (nomark _))))) (pss_cons (ps_if (pt_cmpR op_ge (pe_ix ix_list (pn vis 0) pe_int (fun _ _ => rfl)) (pcB call_lenS gls 0 T.b_len PySem.boot_len (pa_cons (pe_ix ix_list (pn vis 0) pe_int (fun _ _ => rfl)) pa_nil)) (nomark _)) (pss_one (ps_ret pe_int)) pss_nil) (pss_cons (ps_set (i := 3) sc.nd rfl (.inl rfl) (pe_ix ix_list (pe_ix ix_list (pn vis 0) pe_int (fun _ _ => rfl)) (pe_ix ix_list (pn vis 0) pe_int (fun _ _ => rfl)) (fun _ _ => rfl))) (pss_cons (ps_asg (pe_op op_add (pe_ix ix_list (pn vis 0) pe_int (fun _ _ => rfl)) pe_int) (pg_sub (pn vis 0) pe_int set_list)) (pss_cons (ps_set (i := 4) sc.nd rfl (.inl rfl) (pe_op op_mul pe_int (pn vis 3))) (pss_cons (ps_if (pt_cmpR op_lt (pn vis 3) pe_int (nomark _)) (pss_one (ps_set (i := 4) sc.nd rfl (.inl rfl) (pe_op op_sub (pe_op op_sub pe_int (pe_op op_mul pe_int (pn vis 3))) pe_int))) pss_nil) (pss_one (ps_if (pt_cmpR op_ge (pcB call_absI gls 1 T.b_abs (by decide +kernel) (pa_cons (pn vis 3) pa_nil)) (pe_op op_pow pe_int pe_int) (nomark _)) (pss_one (ps_asg (pn vis 4) (pg_sub (pn vis 0) pe_int set_list))) (pss_cons (ps_asg (pn vis 4) (pg_sub (pn vis 0) pe_int set_list)) (pss_one (ps_asg pe_int (pg_sub (pn vis 0) pe_int set_list))))))))))) pss_nil) (pss_cons (ps_if (pt_cmpR op_gt (pe_ix ix_list (pn vis 0) pe_int (fun _ _ => rfl)) pe_int (nomark _)) (pss_cons (ps_set (i := 5) sc.nd rfl (.inl rfl) (pe_op op_mod (pcT call_intI gls 2 T.b_int boot_int (pa_cons (pe_ix ix_list (pn vis 0) pe_int (fun _ _ => rfl)) pa_nil)) (pn vis 1))) (pss_cons (ps_asg (pe_op op_fdivW (pe_ix ix_list (pn vis 0) pe_int (fun _ _ => rfl)) (pn vis 1)) (pg_sub (pn vis 0) pe_int set_list)) (pss_one (ps_ret (pn vis 5))))) pss_nil) (pss_cons (ps_asg (pe_op op_sub (pe_ix ix_list (pn vis 0) pe_int (fun _ _ => rfl)) pe_int) (pg_sub (pn vis 0) pe_int set_list)) (pss_cons (ps_set (i := 2) sc.nd rfl (.inl rfl) (pe_op op_mod (pcT call_intI gls 2 T.b_int boot_int (pa_cons (pe_op op_add (pe_op op_add (pe_op op_mul (pe_ix ix_list (pn vis 0) pe_int (fun _ _ => rfl)) pe_int) (pe_op op_mul (pe_ix ix_list (pn vis 0) pe_int (fun _ _ => rfl)) pe_int)) pe_int) pa_nil)) pe_int)) (pss_one (ps_ret (pe_op op_mod (pe_op op_mod (pcT call_intI gls 2 T.b_int boot_int (pa_cons (pe_op op_add (pe_op op_mul (pn vis 2) pe_int) (pe_op op_mul (pe_ix ix_list (pn vis 0) pe_int (fun _ _ => rfl)) pe_int)) pa_nil)) pe_int) (pn vis 1)))))))), ?_⟩
    refine i_start (σ' := [some (V.ref sourceA), some (V.int many), none, none, none, none]) rfl ?_
    refine i_cut (fun σ H' => ∃ (o1 : Option V) (o2 : Option V), σ = [some (V.ref sourceA), some (V.int many), none, o1, o2, none] ∧ Ext H0 H' ∧ IsSrc H' sourceA) ?_ ?_
    ·
      obtain ⟨i1, x1, y1, z1, cA1, cs1, fs1, fc1, hi1⟩ := a0
      refine i_if <| i_and <| i_test <| i_op <| i_op <| v0 <| i_c <| i_ixL (SqL.of fs1) (atI_nat (j := 1) rfl) <| i_c <| i_I0 <| i_bl <| i_ite (fun c1 => ?_) (fun c1 => ?_)
      ·
        refine i_test <| i_op <| i_op <| v0 <| i_c <| i_ixL (SqL.of fs1) (atI_nat (j := 3) rfl) <| i_c <| i_I0 <| i_bl <| i_ite (fun c1' => ?_) (fun c1' => ?_)
        ·
          refine i_seq <| i_if <| i_test <| i_op <| i_op <| v0 <| i_c <| i_ixL (SqL.of fs1) (atI_nat (j := 0) rfl) <| i_cb <| i_cons <| i_op <| v0 <| i_c <| i_ixL (SqL.of fs1) (atI_nat (j := 4) rfl) <| i_nil <| i_lenM (SqL.of fc1) <| i_I0 <| i_bl <| i_ite (fun c2 => ?_) (fun c2 => ?_)
          ·
            refine i_ret <| i_c <| ?_
            exact k _ _ (Ext.refl _) ⟨_, _, _, _, _, _, fs1, fc1, (by omega)⟩ (by first | rfl | assumption | omega) (by first | rfl | assumption | omega)
          ·
            refine i_next <| i_nx <| i_seq <| ?_
            have q2 := c2; try rw [List.length_map] at q2
            obtain ⟨cell, _, hat⟩ := at_map (f := V.int) (xs := cs1) hi1 (by omega)
            refine i_asg <| i_op <| i_op <| v0 <| i_c <| i_ixL (SqL.of fs1) (atI_nat (j := 4) rfl) <| i_op <| v0 <| i_c <| i_ixL (SqL.of fs1) (atI_nat (j := 0) rfl) <| i_ixL (SqL.of fc1) hat <| n3 <| i_nx <| i_seq <| i_asg <| i_op <| i_op <| v0 <| i_c <| i_ixL (SqL.of fs1) (atI_nat (j := 0) rfl) <| i_c <| i_I0 <| i_gsub <| v0 <| i_c <| i_setL (j := 0) fs1 rfl (fun H2 f2 w2 => ?_)
            have s2 : Ext H0 H2 := ext_set fs1 trivial w2
            simp only [List.set_cons_succ, List.set_cons_zero] at f2
            refine i_nx <| i_seq <| i_asg <| i_op <| i_c <| v3 <| i_I (by first | exact .inl ⟨by decide, by decide⟩ | exact .inr ⟨by decide, by decide⟩) <| n4 <| i_nx <| i_seq <| i_if <| i_test <| i_op <| v3 <| i_c <| i_I0 <| i_bl <| i_ite (fun c7 => ?_) (fun c7 => ?_)
            ·
              refine i_asg <| i_op <| i_op <| i_c <| i_op <| i_c <| v3 <| i_I (by first | exact .inl ⟨by decide, by decide⟩ | exact .inr ⟨by decide, by decide⟩) <| i_I0 <| i_c <| i_I0 <| n4 <| i_nx <| i_if <| i_test <| i_op <| i_cb <| i_cons <| v3 <| i_nil <| i_abs <| i_op <| i_c <| i_c <| i_I (by exact ⟨by decide, by decide, by decide⟩) <| i_I0 <| i_bl <| i_ite (fun c9 => ?_) (fun c9 => ?_)
              ·
                refine i_asg <| v4 <| i_gsub <| v0 <| i_c <| i_setL (j := 1) f2 rfl (fun H3 f3 w3 => ?_)
                have s3 : Ext H2 H3 := ext_set f2 trivial w3
                simp only [List.set_cons_succ, List.set_cons_zero] at f3
                exact ⟨_, _, rfl, (s2.trans s3), ⟨_, _, _, _, _, _, f3, ((s2.trans s3) _ _ (stab_int _) fc1), (by omega)⟩⟩
              ·
                refine i_seq <| i_asg <| v4 <| i_gsub <| v0 <| i_c <| i_setL (j := 2) f2 rfl (fun H4 f4 w4 => ?_)
                have s4 : Ext H2 H4 := ext_set f2 trivial w4
                simp only [List.set_cons_succ, List.set_cons_zero] at f4
                refine i_nx <| i_asg <| i_c <| i_gsub <| v0 <| i_c <| i_setL (j := 3) f4 rfl (fun H5 f5 w5 => ?_)
                have s5 : Ext H4 H5 := ext_set f4 trivial w5
                simp only [List.set_cons_succ, List.set_cons_zero] at f5
                exact ⟨_, _, rfl, (s2.trans (s4.trans s5)), ⟨_, _, _, _, _, _, f5, ((s2.trans (s4.trans s5)) _ _ (stab_int _) fc1), (by omega)⟩⟩
            ·
              refine i_next <| i_nx <| i_if <| i_test <| i_op <| i_cb <| i_cons <| v3 <| i_nil <| i_abs <| i_op <| i_c <| i_c <| i_I (by exact ⟨by decide, by decide, by decide⟩) <| i_I0 <| i_bl <| i_ite (fun c9' => ?_) (fun c9' => ?_)
              ·
                refine i_asg <| v4 <| i_gsub <| v0 <| i_c <| i_setL (j := 1) f2 rfl (fun H6 f6 w6 => ?_)
                have s6 : Ext H2 H6 := ext_set f2 trivial w6
                simp only [List.set_cons_succ, List.set_cons_zero] at f6
                exact ⟨_, _, rfl, (s2.trans s6), ⟨_, _, _, _, _, _, f6, ((s2.trans s6) _ _ (stab_int _) fc1), (by omega)⟩⟩
              ·
                refine i_seq <| i_asg <| v4 <| i_gsub <| v0 <| i_c <| i_setL (j := 2) f2 rfl (fun H7 f7 w7 => ?_)
                have s7 : Ext H2 H7 := ext_set f2 trivial w7
                simp only [List.set_cons_succ, List.set_cons_zero] at f7
                refine i_nx <| i_asg <| i_c <| i_gsub <| v0 <| i_c <| i_setL (j := 3) f7 rfl (fun H8 f8 w8 => ?_)
                have s8 : Ext H7 H8 := ext_set f7 trivial w8
                simp only [List.set_cons_succ, List.set_cons_zero] at f8
                exact ⟨_, _, rfl, (s2.trans (s7.trans s8)), ⟨_, _, _, _, _, _, f8, ((s2.trans (s7.trans s8)) _ _ (stab_int _) fc1), (by omega)⟩⟩
        ·
          refine i_next <| ?_
          exact ⟨_, _, rfl, (Ext.refl _), ⟨_, _, _, _, _, _, fs1, fc1, (by omega)⟩⟩
      ·
        refine i_iteF <| i_next <| ?_
        exact ⟨_, _, rfl, (Ext.refl _), ⟨_, _, _, _, _, _, fs1, fc1, (by omega)⟩⟩
    ·
      rintro σ H9 ⟨o1, o2, rfl, s9, g9⟩
      refine i_seq <| ?_
      obtain ⟨i10, x10, y10, z10, cA10, cs10, fs10, fc10, hi10⟩ := g9
      refine i_if <| i_test <| i_op <| i_op <| v0 <| i_c <| i_ixL (SqL.of fs10) (atI_nat (j := 1) rfl) <| i_c <| i_I0 <| i_bl <| i_ite (fun c14 => ?_) (fun c14 => ?_)
      ·
        refine i_seq <| i_asg <| i_op <| i_cb <| i_cons <| i_op <| v0 <| i_c <| i_ixL (SqL.of fs10) (atI_nat (j := 1) rfl) <| i_nil <| i_int <| v1 <| i_I (by show (0 : Int) < _; first | decide | assumption | omega) <| n5 <| i_nx <| i_seq <| i_asg <| i_op <| i_op <| v0 <| i_c <| i_ixL (SqL.of fs10) (atI_nat (j := 1) rfl) <| v1 <| i_I (by exact divw e0 e1) <| i_gsub <| v0 <| i_c <| i_setL (j := 1) fs10 rfl (fun H11 f11 w11 => ?_)
        have s11 : Ext H9 H11 := ext_set fs10 trivial w11
        simp only [List.set_cons_succ, List.set_cons_zero] at f11
        refine i_nx <| i_ret <| v5 <| ?_
        exact k _ _ (s9.trans s11) ⟨_, _, _, _, _, _, f11, (s11 _ _ (stab_int _) fc10), (by omega)⟩ (by first | exact Int.emod_nonneg _ (by omega) | exact Int.emod_lt_of_pos _ (by omega)) (by first | exact Int.emod_nonneg _ (by omega) | exact Int.emod_lt_of_pos _ (by omega))
      ·
        refine i_next <| i_nx <| i_seq <| i_asg <| i_op <| i_op <| v0 <| i_c <| i_ixL (SqL.of fs10) (atI_nat (j := 3) rfl) <| i_c <| i_I0 <| i_gsub <| v0 <| i_c <| i_setL (j := 3) fs10 rfl (fun H12 f12 w12 => ?_)
        have s12 : Ext H9 H12 := ext_set fs10 trivial w12
        simp only [List.set_cons_succ, List.set_cons_zero] at f12
        refine i_nx <| i_seq <| i_asg <| i_op <| i_cb <| i_cons <| i_op <| i_op <| i_op <| i_op <| v0 <| i_c <| i_ixL (SqL.of f12) (atI_nat (j := 2) rfl) <| i_c <| i_I (by first | exact .inl ⟨by decide, by decide⟩ | exact .inr ⟨by decide, by decide⟩) <| i_op <| i_op <| v0 <| i_c <| i_ixL (SqL.of f12) (atI_nat (j := 3) rfl) <| i_c <| i_I (by first | exact .inl ⟨by decide, by decide⟩ | exact .inr ⟨by decide, by decide⟩) <| i_I0 <| i_c <| i_I0 <| i_nil <| i_int <| i_c <| i_I (by show (0 : Int) < _; first | decide | assumption | omega) <| n2 <| i_nx <| i_ret <| i_op <| i_op <| i_cb <| i_cons <| i_op <| i_op <| v2 <| i_c <| i_I (by first | exact .inl ⟨by decide, by decide⟩ | exact .inr ⟨by decide, by decide⟩) <| i_op <| i_op <| v0 <| i_c <| i_ixL (SqL.of f12) (atI_nat (j := 2) rfl) <| i_c <| i_I (by first | exact .inl ⟨by decide, by decide⟩ | exact .inr ⟨by decide, by decide⟩) <| i_I0 <| i_nil <| i_int <| i_c <| i_I (by show (0 : Int) < _; first | decide | assumption | omega) <| v1 <| i_I (by show (0 : Int) < _; first | decide | assumption | omega) <| ?_
        exact k _ _ (s9.trans s12) ⟨_, _, _, _, _, _, f12, (s12 _ _ (stab_int _) fc10), (by omega)⟩ (by first | exact Int.emod_nonneg _ (by omega) | exact Int.emod_lt_of_pos _ (by omega)) (by first | exact Int.emod_nonneg _ (by omega) | exact Int.emod_lt_of_pos _ (by omega))

/-! _law_modes -/
def sp__law_modes (K : PySem.W.Frag) : Sp := fun vs H Q _ => vs = [] ∧ ∀ (rA : Addr) (r : List Str) (H' : Hp), Same H H' → H' rA = some (.lst (r.map V.str)) → (r = modes9) → Q (V.ref rA) H'
abbrev s__law_modes : Stmt := top 14
theorem sc__law_modes : FnScope ["near"] [] (defScope s__law_modes) := ⟨rfl, rfl, rfl, by decide +kernel, rfl, by decide +kernel, by decide +kernel⟩
theorem vis__law_modes : visB ["near"] (defScope s__law_modes) = true := by decide +kernel
theorem gl__law_modes : glB [] (defScope s__law_modes) = true := by decide +kernel
theorem ok__law_modes {P : Program} {w : World} {K : PySem.W.Frag} {mg : Str → Option Value} {base : Heap} (T : Txt P w K mg) : OkD P w K mg base 1 (He.fAd K ("_law_modes", none)) [] [] (sp__law_modes K) := by
  obtain ⟨fd, F⟩ := T.d__law_modes
  refine ⟨fd, [], F.kp, F.bindsN (fun _ _ _ _ _ _ us hl => match us, hl with | [], _ => rfl), .nil, ?_⟩
  have sc := sc__law_modes; have vis := vis__law_modes; have gls := gl__law_modes
  refine F.ok sc (fun vs H Q E h => ?_) (fun cdv A outer s H0 vs Q E hr h => ?_)
  · obtain ⟨rfl, _⟩ := h; rfl
  · obtain ⟨rfl, k⟩ := h
    refine ⟨_, PSs.nox (pss_cons (ps_set (i := 0) sc.nd rfl (.inl rfl) (pe_lst (pa_cons pe_str (pa_cons pe_str (pa_cons pe_str (pa_cons pe_str (pa_cons pe_str pa_nil))))))) (pss_one (ps_ret (pe_op op_cat (pn vis 0) (pe_lst (pa_cons pe_str (pa_cons pe_str (pa_cons pe_str (pa_cons pe_str pa_nil))))))))), ?_⟩
    refine i_start (σ' := [none]) rfl ?_
    refine i_seq <| i_asg <| i_lst <| i_cons <| i_c <| i_cons <| i_c <| i_cons <| i_c <| i_cons <| i_c <| i_cons <| i_c <| i_nil <| i_kLst (of_decide_eq_true rfl) (fun p1 H1 z1 s1 f1 => ?_)
    refine n0 <| i_nx <| i_ret <| i_op <| v0 <| i_lst <| i_cons <| i_c <| i_cons <| i_c <| i_cons <| i_c <| i_cons <| i_c <| i_nil <| i_kLst (of_decide_eq_true rfl) (fun p2 H2 z2 s2 f2 => ?_)
    refine i_cat (s2 _ _ f1) f2 (by exact of_decide_eq_true rfl) (by exact of_decide_eq_true rfl) (fun p3 H3 z3 s3 f3 => ?_)
    exact k _ modes9 _ (s1.trans (s2.trans s3)) f3 (by rfl)

/-! _law_mode -/
def sp__law_mode (K : PySem.W.Frag) : Sp := fun vs H Q _ => ∃ (sourceA : Addr), vs = [V.ref sourceA] ∧ IsSrc H sourceA ∧ ∀ (r : Str) (H' : Hp), Ext H H' → IsSrc H' sourceA → (r ∈ modes9) → Q (V.str r) H'
abbrev s__law_mode : Stmt := top 15
theorem sc__law_mode : FnScope ["source"] ["source"] (defScope s__law_mode) := ⟨rfl, rfl, rfl, by decide +kernel, rfl, by decide +kernel, by decide +kernel⟩
theorem vis__law_mode : visB ["source"] (defScope s__law_mode) = true := by decide +kernel
theorem gl__law_mode : glB ["_law_modes", "_law_draw"] (defScope s__law_mode) = true := by decide +kernel
theorem ok__law_mode {P : Program} {w : World} {K : PySem.W.Frag} {mg : Str → Option Value} {base : Heap} (T : Txt P w K mg) : OkD P w K mg base 2 (He.fAd K ("_law_mode", none)) ["source"] [] (sp__law_mode K) := by
  obtain ⟨fd, F⟩ := T.d__law_mode
  refine ⟨fd, [], F.kp, F.bindsN (fun _ _ _ _ _ _ us hl => match us, hl with | [_], _ => rfl), .nil, ?_⟩
  have sc := sc__law_mode; have vis := vis__law_mode; have gls := gl__law_mode
  refine F.ok sc (fun vs H Q E h => ?_) (fun cdv A outer s H0 vs Q E hr h => ?_)
  · obtain ⟨sourceA, rfl, _⟩ := h; rfl
  · obtain ⟨sourceA, rfl, a0, k⟩ := h
    refine ⟨_, PSs.nox (pss_one (ps_ret (pe_ix ix_list (pcD0 (ok__law_modes T) (hr.mono (by decide)) gls 0 T.g__law_modes) (pcD (ok__law_draw T) (hr.mono (by decide)) gls 1 T.g__law_draw (pa_cons (pn vis 0) (pa_cons pe_int pa_nil))) (fun _ _ => rfl)))), ?_⟩
    refine i_start (σ' := [some (V.ref sourceA)]) rfl ?_
    refine i_ret <| i_op <| i_call <| i_nil <| ⟨rfl, fun msA ms H1 s1 f1_0 hms => ?_⟩
    refine i_call <| i_cons <| v0 <| i_cons <| i_c <| i_nil <| ⟨_, _, rfl, (same_src s1 a0), (by first | assumption | omega | rfl | exact Sz.zero | exact Sz.sm (by omega) (by omega) (by decide) | exact Sz.mono (by assumption) (by decide)), (by first | assumption | omega | rfl | exact Sz.zero | exact Sz.sm (by omega) (by omega) (by decide) | exact Sz.mono (by assumption) (by decide)), fun q H2 s2 g2 hq0 hq1 => ?_⟩
    refine i_ixL (SqL.of (s2 _ _ (stab_str _) f1_0)) (by rw [hms]; exact at_getS (xs := modes9) hq0 (by show q < 9; omega)) <| ?_
    exact k _ _ ((ext_of s1).trans s2) g2 (by exact getS_mem (xs := modes9) hq0 (by show q < 9; omega))

/-! _law_source -/
def sp__law_source (K : PySem.W.Frag) : Sp := fun vs H Q _ => ∃ (scriptA : Addr) (script : List Int), vs = [V.ref scriptA] ∧ SqL K H scriptA (script.map V.int) ∧ (script.length ≤ 63) ∧ ∀ (rA : Addr) (H' : Hp), Same H H' → IsSrc H' rA → Q (V.ref rA) H'
abbrev s__law_source : Stmt := top 12
theorem sc__law_source : FnScope ["script", "cell"] ["script"] (defScope s__law_source) := ⟨rfl, rfl, rfl, by decide +kernel, rfl, by decide +kernel, by decide +kernel⟩
theorem vis__law_source : visB ["script"] (defScope s__law_source) = true := by decide +kernel
theorem gl__law_source : glB [] (defScope s__law_source) = true := by decide +kernel
theorem ok__law_source {P : Program} {w : World} {K : PySem.W.Frag} {mg : Str → Option Value} {base : Heap} (T : Txt P w K mg) : OkD P w K mg base 1 (He.fAd K ("_law_source", none)) ["script"] [] (sp__law_source K) := by
  obtain ⟨fd, F⟩ := T.d__law_source
  refine ⟨fd, [], F.kp, F.bindsN (fun _ _ _ _ _ _ us hl => match us, hl with | [_], _ => rfl), .nil, ?_⟩
  have sc := sc__law_source; have vis := vis__law_source; have gls := gl__law_source
  refine F.ok sc (fun vs H Q E h => ?_) (fun cdv A outer s H0 vs Q E hr h => ?_)
  · obtain ⟨scriptA, script, rfl, _⟩ := h; rfl
  · obtain ⟨scriptA, script, rfl, a0, e0, k⟩ := h
    refine ⟨_, PSs.nox (pss_one (ps_ret (pe_lst (pa_cons pe_int (pa_cons pe_int (pa_cons pe_int (pa_cons pe_int (pa_cons (pe_lc (own := [("cell", 1)]) (g := gName 1) (tt := tYes) rfl sc.nd (pi_list (pnc vis 0)) (blkOk_by (N := ["script", "cell"]) (sc := defScope s__law_source) (by decide +kernel)) (fun _ _ _ _ _ => pg_name (i := 1) sc.nd rfl (.inl rfl)) (fun _ _ _ _ _ => pts_nil) (fun _ _ _ _ _ => (pe_callTy call_intI (by rfl) T.b_int boot_int (pa_cons (pv 1) pa_nil)))) pa_nil)))))))), ?_⟩
    refine i_start (σ' := [some (V.ref scriptA), none]) rfl ?_
    refine i_ret <| i_lst <| i_cons <| i_c <| i_cons <| i_c <| i_cons <| i_c <| i_cons <| i_c <| i_cons <| i_lc <| i_lt <| v0 <| i_lcL (xs := _) a0 (fun p1 z1 => ?_)
    refine lc_list (xs := script.map V.int) (fun q H' => (∀ b o, H0 b = some o → H' b = some o) ∧ H' p1 = some (.lst ((script.take q).map V.int))) ?_ ?_ ?_ ?_
    ·
      exact ⟨same_new z1, upd_same⟩
    ·
      intro q H' _ ⟨e, _⟩; exact Same.seq e a0
    ·
      intro q y H' hy ⟨e1, d1⟩
      obtain ⟨cell, hc, rfl⟩ : ∃ c, script[q]? = some c ∧ y = V.int c := by
        rw [List.getElem?_map] at hy
        cases ee : script[q]? with
        | none => rw [ee] at hy; cases hy
        | some z => rw [ee] at hy; exact ⟨z, rfl, (Option.some.inj hy).symm⟩
      refine n1 <| i_lcw <| i_cb <| i_cons <| v1 <| i_nil <| i_int <| ?_
      exact ⟨_, d1, (by have q1 := (List.getElem?_eq_some_iff.mp hc).1; have q2 := List.length_take_le q script; rw [List.length_map]; exact Nat.lt_of_le_of_lt (Nat.le_trans q2 (Nat.le_trans (Nat.le_of_lt q1) e0)) (by decide)), same_up z1 e1, (upd_same.trans (by rw [take_succ hc, List.map_append]; rfl))⟩
    ·
      rintro H1 ⟨s1, f1⟩
      rw [List.length_map, List.take_length] at f1
      have s1 : Same H0 H1 := s1
      refine i_nil <| i_kLst (of_decide_eq_true rfl) (fun p2 H2 z2 s2 f2 => ?_)
      exact k _ _ (s1.trans s2) ⟨_, _, _, _, _, _, f2, (s2 _ _ f1), (by decide)⟩

/-! _law_power -/
def sp__law_power (K : PySem.W.Frag) : Sp := fun vs H Q _ => ∃ (base : Int) (count : Int), vs = [V.int base, V.int count] ∧ (0 ≤ count) ∧ (count ≤ 100000) ∧ (Sz 6 base) ∧ ∀ (r : Int) (H' : Hp), Same H H' → (r = base ^ count.toNat) → Q (V.int r) H'
abbrev s__law_power : Stmt := top 16
theorem sc__law_power : FnScope ["base", "count", "result", "k"] ["base", "count"] (defScope s__law_power) := ⟨rfl, rfl, rfl, by decide +kernel, rfl, by decide +kernel, by decide +kernel⟩
theorem vis__law_power : visB ["base", "count", "result", "k"] (defScope s__law_power) = true := by decide +kernel
theorem gl__law_power : glB ["range"] (defScope s__law_power) = true := by decide +kernel
theorem ok__law_power {P : Program} {w : World} {K : PySem.W.Frag} {mg : Str → Option Value} {base : Heap} (T : Txt P w K mg) : OkD P w K mg base 1 (He.fAd K ("_law_power", none)) ["base", "count"] [] (sp__law_power K) := by
  obtain ⟨fd, F⟩ := T.d__law_power
  refine ⟨fd, [], F.kp, F.bindsN (fun _ _ _ _ _ _ us hl => match us, hl with | [_, _], _ => rfl), .nil, ?_⟩
  have sc := sc__law_power; have vis := vis__law_power; have gls := gl__law_power
  refine F.ok sc (fun vs H Q E h => ?_) (fun cdv A outer s H0 vs Q E hr h => ?_)
  · obtain ⟨base, count, rfl, _⟩ := h; rfl
  · obtain ⟨base, count, rfl, e0, e1, e2, k⟩ := h
    refine ⟨_, PSs.nox (pss_cons (ps_set (i := 2) sc.nd rfl (.inl rfl) pe_int) (pss_cons (ps_for PassesOwn.never rfl (pi_range1 (gl_of gls (i := 0) rfl).1 T.b_range (pa_cons (pn vis 1) pa_nil)) (pg_name (i := 3) sc.nd rfl (.inl rfl)) (pss_one (ps_set (i := 2) sc.nd rfl (.inl rfl) (pe_op op_mulX (pn vis 2) (pn vis 0))))) (pss_one (ps_ret (pn vis 2))))), ?_⟩
    refine i_start (σ' := [some (V.int base), some (V.int count), none, none]) rfl ?_
    refine i_seq <| i_asg <| i_c <| n2 <| i_nx <| i_seq <| i_for <| i_for1 <| i_cons <| v1 <| i_nil <| i_rng1 (fun i σ H' => ∃ (x : Int) (o_k : Option V), σ = [some (V.int base), some (V.int count), some (V.int x), o_k] ∧ Same H0 H' ∧ (x = base ^ i)) (by omega) (by omega) ?_ ?_ ?_
    ·
      exact ⟨_, _, rfl, (Same.refl _), (by simp)⟩
    ·
      intro i
      rintro σ H1 hi ⟨x, o_k, rfl, s1, i0⟩
      refine n3 <| i_asg <| i_op <| v2 <| v0 <| i_I (by subst i0; exact mulx ((Sz.pow e2 i).mono (by omega : 6 * i + 1 ≤ 700000)) e2) <| n2 <| ?_
      exact ⟨_, _, rfl, s1, (by subst i0; rw [Int.pow_succ])⟩
    ·
      rintro σ H2 ⟨x, o_k, rfl, s2, i0⟩
      refine i_nx <| i_ret <| v2 <| ?_
      exact k _ _ s2 (by exact i0)

/-! _law_equal@str -/
def sp__law_equal_str (K : PySem.W.Frag) : Sp := fun vs H Q _ => ∃ (actual : Str) (expected : Str), vs = [V.str actual, V.str expected] ∧ (actual = expected) ∧ ∀  (H' : Hp), Same H H' → Q (V.bl true) H'
abbrev s__law_equal_str : Stmt := top 17
theorem sc__law_equal_str : FnScope ["actual", "expected", "k"] ["actual", "expected"] (defScope s__law_equal_str) := ⟨rfl, rfl, rfl, by decide +kernel, rfl, by decide +kernel, by decide +kernel⟩
theorem vis__law_equal_str : visB ["actual", "expected", "k"] (defScope s__law_equal_str) = true := by decide +kernel
theorem gl__law_equal_str : glB ["bool", "isinstance", "int", "str"] (defScope s__law_equal_str) = true := by decide +kernel
theorem ok__law_equal_str {P : Program} {w : World} {K : PySem.W.Frag} {mg : Str → Option Value} {base : Heap} (T : Txt P w K mg) : OkD P w K mg base 1 (He.fAd K ("_law_equal", none)) ["actual", "expected"] [] (sp__law_equal_str K) := by
  obtain ⟨fd, F⟩ := T.d__law_equal
  refine ⟨fd, [], F.kp, F.bindsN (fun _ _ _ _ _ _ us hl => match us, hl with | [_, _], _ => rfl), .nil, ?_⟩
  have sc := sc__law_equal_str; have vis := vis__law_equal_str; have gls := gl__law_equal_str
  refine F.ok sc (fun vs H Q E h => ?_) (fun cdv A outer s H0 vs Q E hr h => ?_)
  · obtain ⟨actual, expected, rfl, _⟩ := h; rfl
  · obtain ⟨actual, expected, rfl, e0, k⟩ := h
    refine ⟨_, PSs.nox (pss_cons (ps_if (pt_cmpR op_isN_ (pn vis 1) pe_non (nomark _)) pss_never pss_nil) (pss_cons (ps_if (pt_val (pcB call_isi gls 1 T.b_isinstance (by decide +kernel) (pa_cons (pn vis 1) (pa_cons (pgt gls 0 T.b_bool boot_bool) pa_nil)))) pss_never pss_nil) (pss_cons (ps_if (pt_val (pcB call_isi gls 1 T.b_isinstance (by decide +kernel) (pa_cons (pn vis 1) (pa_cons (pgt gls 2 T.b_int boot_int) pa_nil)))) pss_never pss_nil) (pss_cons (ps_if (pt_val (pcB call_isi gls 1 T.b_isinstance (by decide +kernel) (pa_cons (pn vis 1) (pa_cons (pgt gls 3 T.b_str boot_str) pa_nil)))) (pss_one (ps_ret (pe_and (pcB call_isi gls 1 T.b_isinstance (by decide +kernel) (pa_cons (pn vis 0) (pa_cons (pgt gls 3 T.b_str boot_str) pa_nil))) (pe_one (pe_cmpR op_eqS (pn vis 0) (pn vis 1) (nomark _)))))) pss_nil) pss_never)))), ?_⟩
    refine i_start (σ' := [some (V.str actual), some (V.str expected), none]) rfl ?_
    refine i_seq <| i_if <| i_test <| i_op <| v1 <| i_c <| i_isN (b := false) rfl <| i_bl <| i_iteF <| i_next <| i_nx <| i_seq <| i_if <| i_tB <| i_cb <| i_cons <| v1 <| i_cons <| i_c <| i_nil <| i_isi (b := false) (.ty _) (.base (.str _)) (kit_ty (by decide +kernel)) <| i_bl <| i_iteF <| i_next <| i_nx <| i_seq <| i_if <| i_tB <| i_cb <| i_cons <| v1 <| i_cons <| i_c <| i_nil <| i_isi (b := false) (.ty _) (.base (.str _)) (kit_ty (by decide +kernel)) <| i_bl <| i_iteF <| i_next <| i_nx <| i_seq <| i_if <| i_tB <| i_cb <| i_cons <| v1 <| i_cons <| i_c <| i_nil <| i_isi (b := true) (.ty _) (.base (.str _)) (kit_ty (by decide +kernel)) <| i_bl <| i_iteT <| i_ret <| i_andV <| i_cb <| i_cons <| v0 <| i_cons <| i_c <| i_nil <| i_isi (b := true) (.ty _) (.base (.str _)) (kit_ty (by decide +kernel)) <| i_blV <| i_iteT <| i_op <| v0 <| v1 <| i_S0 <| ?_
    refine i_decT (by first | assumption | omega | simp [*]) ?_
    exact k _ (Same.refl _)

theorem okh__law_equal_str {P : Program} {w : World} {K : PySem.W.Frag} {mg : Str → Option Value} {base : Heap} (T : Txt P w K mg) : OkH P w K mg base 1 (He.fAd K ("_law_equal", none)) ["actual", "expected"] (sp__law_equal_str K) := by
  obtain ⟨fd, F⟩ := T.d__law_equal
  have sc := sc__law_equal_str; have vis := vis__law_equal_str
  have gls : glB ["bool", "isinstance", "int", "str"] (defScope s__law_equal_str) = true := by decide +kernel
  refine ⟨fd, F.kp, F.bindsN (fun _ _ _ _ _ _ us hl => match us, hl with | [_, _], _ => rfl), ?_⟩
  refine FunD.okH F sc (fun vs H Q E h => ?_) (fun cdv A outer s H0 vs Q E p9 hh9 hr h => ?_)
  · obtain ⟨actual, expected, rfl, _⟩ := h; rfl
  · obtain ⟨actual, expected, rfl, e0, k⟩ := h
    refine ⟨_, PSs.nox (pss_cons (ps_if (pt_cmpR op_isN_ (pn vis 1) pe_non (nomark _)) pss_never pss_nil) (pss_cons (ps_if (pt_val (pcB call_isi gls 1 T.b_isinstance (by decide +kernel) (pa_cons (pn vis 1) (pa_cons (pgt gls 0 T.b_bool boot_bool) pa_nil)))) pss_never pss_nil) (pss_cons (ps_if (pt_val (pcB call_isi gls 1 T.b_isinstance (by decide +kernel) (pa_cons (pn vis 1) (pa_cons (pgt gls 2 T.b_int boot_int) pa_nil)))) pss_never pss_nil) (pss_cons (ps_if (pt_val (pcB call_isi gls 1 T.b_isinstance (by decide +kernel) (pa_cons (pn vis 1) (pa_cons (pgt gls 3 T.b_str boot_str) pa_nil)))) (pss_one (ps_ret (pe_and (pcB call_isi gls 1 T.b_isinstance (by decide +kernel) (pa_cons (pn vis 0) (pa_cons (pgt gls 3 T.b_str boot_str) pa_nil))) (pe_one (pe_cmpR op_eqS (pn vis 0) (pn vis 1) (nomark _)))))) pss_nil) pss_never)))), ?_⟩
    refine i_start (σ' := [some (V.str actual), some (V.str expected), none]) rfl ?_
    refine i_seq <| i_if <| i_test <| i_op <| v1 <| i_c <| i_isN (b := false) rfl <| i_bl <| i_iteF <| i_next <| i_nx <| i_seq <| i_if <| i_tB <| i_cb <| i_cons <| v1 <| i_cons <| i_c <| i_nil <| i_isi (b := false) (.ty _) (.base (.str _)) (kit_ty (by decide +kernel)) <| i_bl <| i_iteF <| i_next <| i_nx <| i_seq <| i_if <| i_tB <| i_cb <| i_cons <| v1 <| i_cons <| i_c <| i_nil <| i_isi (b := false) (.ty _) (.base (.str _)) (kit_ty (by decide +kernel)) <| i_bl <| i_iteF <| i_next <| i_nx <| i_seq <| i_if <| i_tB <| i_cb <| i_cons <| v1 <| i_cons <| i_c <| i_nil <| i_isi (b := true) (.ty _) (.base (.str _)) (kit_ty (by decide +kernel)) <| i_bl <| i_iteT <| i_ret <| i_andV <| i_cb <| i_cons <| v0 <| i_cons <| i_c <| i_nil <| i_isi (b := true) (.ty _) (.base (.str _)) (kit_ty (by decide +kernel)) <| i_blV <| i_iteT <| i_op <| v0 <| v1 <| i_S0 <| ?_
    refine i_decT (by first | assumption | omega | simp [*]) ?_
    exact k _ (Same.refl _)

/-! _law_big -/
def sp__law_big (K : PySem.W.Frag) : Sp := fun vs H Q _ => ∃ (sourceA : Addr), vs = [V.ref sourceA] ∧ IsSrc H sourceA ∧ ∀ (r : Int) (H' : Hp), Ext H H' → IsSrc H' sourceA → (0 ≤ r) → (Sz 124 r) → Q (V.int r) H'
abbrev s__law_big : Stmt := top 18
theorem sc__law_big : FnScope ["source", "value", "k"] ["source"] (defScope s__law_big) := ⟨rfl, rfl, rfl, by decide +kernel, rfl, by decide +kernel, by decide +kernel⟩
theorem vis__law_big : visB ["source", "value", "k"] (defScope s__law_big) = true := by decide +kernel
theorem gl__law_big : glB ["_law_draw", "range"] (defScope s__law_big) = true := by decide +kernel
theorem ok__law_big {P : Program} {w : World} {K : PySem.W.Frag} {mg : Str → Option Value} {base : Heap} (T : Txt P w K mg) : OkD P w K mg base 2 (He.fAd K ("_law_big", none)) ["source"] [] (sp__law_big K) := by
  obtain ⟨fd, F⟩ := T.d__law_big
  refine ⟨fd, [], F.kp, F.bindsN (fun _ _ _ _ _ _ us hl => match us, hl with | [_], _ => rfl), .nil, ?_⟩
  have sc := sc__law_big; have vis := vis__law_big; have gls := gl__law_big
  refine F.ok sc (fun vs H Q E h => ?_) (fun cdv A outer s H0 vs Q E hr h => ?_)
  · obtain ⟨sourceA, rfl, _⟩ := h; rfl
  · obtain ⟨sourceA, rfl, a0, k⟩ := h
    refine ⟨_, PSs.nox (pss_cons (ps_set (i := 1) sc.nd rfl (.inl rfl) pe_int) (pss_cons (ps_for PassesOwn.never rfl (pi_range1 (gl_of gls (i := 1) rfl).1 T.b_range (pa_cons (pcD (ok__law_draw T) (hr.mono (by decide)) gls 0 T.g__law_draw (pa_cons (pn vis 0) (pa_cons pe_int pa_nil))) pa_nil)) (pg_name (i := 2) sc.nd rfl (.inl rfl)) (pss_one (ps_set (i := 1) sc.nd rfl (.inl rfl) (pe_op op_add (pe_op op_mul (pn vis 1) pe_int) (pcD (ok__law_draw T) (hr.mono (by decide)) gls 0 T.g__law_draw (pa_cons (pn vis 0) (pa_cons pe_int pa_nil))))))) (pss_one (ps_ret (pn vis 1))))), ?_⟩
    refine i_start (σ' := [some (V.ref sourceA), none, none]) rfl ?_
    refine i_seq <| i_asg <| i_c <| n1 <| i_nx <| i_seq <| i_for <| i_for1 <| i_cons <| i_call <| i_cons <| v0 <| i_cons <| i_c <| i_nil <| ⟨_, _, rfl, a0, (by first | assumption | omega | rfl | exact Sz.zero | exact Sz.sm (by omega) (by omega) (by decide) | exact Sz.mono (by assumption) (by decide)), (by first | assumption | omega | rfl | exact Sz.zero | exact Sz.sm (by omega) (by omega) (by decide) | exact Sz.mono (by assumption) (by decide)), fun r1 H2 s2 g2 hr10 hr11 => ?_⟩
    refine i_nil <| i_rng1 (fun i σ H' => ∃ (x : Int) (o_k : Option V), σ = [some (V.ref sourceA), some (V.int x), o_k] ∧ Ext H2 H' ∧ IsSrc H' sourceA ∧ (0 ≤ x) ∧ (Sz (4 * i) x)) (by omega) (by omega) ?_ ?_ ?_
    ·
      exact ⟨_, _, rfl, (Ext.refl _), g2, (by first | rfl | assumption | omega), (by exact Sz.zero)⟩
    ·
      intro i
      rintro σ H3 hi ⟨x, o_k, rfl, s3, g3, i0, i1⟩
      refine n2 <| i_asg <| i_op <| i_op <| v1 <| i_c <| i_I (by first | exact .inl ⟨by decide, by decide⟩ | exact .inr ⟨by decide, by decide⟩) <| i_call <| i_cons <| v0 <| i_cons <| i_c <| i_nil <| ⟨_, _, rfl, g3, (by first | assumption | omega | rfl | exact Sz.zero | exact Sz.sm (by omega) (by omega) (by decide) | exact Sz.mono (by assumption) (by decide)), (by first | assumption | omega | rfl | exact Sz.zero | exact Sz.sm (by omega) (by omega) (by decide) | exact Sz.mono (by assumption) (by decide)), fun value H4 s4 g4 hvalue0 hvalue1 => ?_⟩
      refine i_I0 <| n1 <| ?_
      exact ⟨_, _, rfl, (s3.trans s4), g4, (by first | rfl | assumption | omega), (by exact big_step i0 i1 (by omega) (by omega))⟩
    ·
      rintro σ H5 ⟨x, o_k, rfl, s5, g5, i0, i1⟩
      refine i_nx <| i_ret <| v1 <| ?_
      exact k _ _ (s2.trans s5) g5 (by first | rfl | assumption | omega) (by exact i1.mono (by omega))

/-! _law_divisor -/
def sp__law_divisor (K : PySem.W.Frag) : Sp := fun vs H Q _ => ∃ (sourceA : Addr), vs = [V.ref sourceA] ∧ IsSrc H sourceA ∧ ∀ (r : Int) (H' : Hp), Ext H H' → IsSrc H' sourceA → (1 ≤ r) → (Sz 160 r) → Q (V.int r) H'
abbrev s__law_divisor : Stmt := top 19
theorem sc__law_divisor : FnScope ["source", "kind", "value"] ["source"] (defScope s__law_divisor) := ⟨rfl, rfl, rfl, by decide +kernel, rfl, by decide +kernel, by decide +kernel⟩
theorem vis__law_divisor : visB ["source", "kind", "value"] (defScope s__law_divisor) = true := by decide +kernel
theorem gl__law_divisor : glB ["_law_draw", "_law_big", "_law_power"] (defScope s__law_divisor) = true := by decide +kernel
theorem ok__law_divisor {P : Program} {w : World} {K : PySem.W.Frag} {mg : Str → Option Value} {base : Heap} (T : Txt P w K mg) : OkD P w K mg base 3 (He.fAd K ("_law_divisor", none)) ["source"] [] (sp__law_divisor K) := by
  obtain ⟨fd, F⟩ := T.d__law_divisor
  refine ⟨fd, [], F.kp, F.bindsN (fun _ _ _ _ _ _ us hl => match us, hl with | [_], _ => rfl), .nil, ?_⟩
  have sc := sc__law_divisor; have vis := vis__law_divisor; have gls := gl__law_divisor
  refine F.ok sc (fun vs H Q E h => ?_) (fun cdv A outer s H0 vs Q E hr h => ?_)
  · obtain ⟨sourceA, rfl, _⟩ := h; rfl
  · obtain ⟨sourceA, rfl, a0, k⟩ := h
    refine ⟨_, PSs.nox (pss_cons (ps_set (i := 1) sc.nd rfl (.inl rfl) (pcD (ok__law_draw T) (hr.mono (by decide)) gls 0 T.g__law_draw (pa_cons (pn vis 0) (pa_cons pe_int pa_nil)))) (pss_cons (ps_set (i := 2) sc.nd rfl (.inl rfl) (pe_op op_add pe_int (pcD (ok__law_draw T) (hr.mono (by decide)) gls 0 T.g__law_draw (pa_cons (pn vis 0) (pa_cons pe_int pa_nil))))) (C8.pss_cut (ps_if (pt_cmpR op_eqI (pn vis 1) pe_int (nomark _)) (pss_one (ps_set (i := 2) sc.nd rfl (.inl rfl) (pe_op op_add (pn vis 2) (pcD (ok__law_big T) (hr.mono (by decide)) gls 1 T.g__law_big (pa_cons (pn vis 0) pa_nil))))) pss_nil) (C8.pss_cut (ps_if (pt_cmpR op_eqI (pn vis 1) pe_int (nomark _)) (pss_one (ps_set (i := 2) sc.nd rfl (.inl rfl) (pcD (ok__law_power T) (hr.mono (by decide)) gls 2 T.g__law_power (pa_cons (pe_op op_add pe_int (pcD (ok__law_draw T) (hr.mono (by decide)) gls 0 T.g__law_draw (pa_cons (pn vis 0) (pa_cons pe_int pa_nil)))) (pa_cons (pcD (ok__law_draw T) (hr.mono (by decide)) gls 0 T.g__law_draw (pa_cons (pn vis 0) (pa_cons pe_int pa_nil))) pa_nil))))) pss_nil) (C8.pss_cut (ps_if (pt_cmpR op_eqI (pcD (ok__law_draw T) (hr.mono (by decide)) gls 0 T.g__law_draw (pa_cons (pn vis 0) (pa_cons pe_int pa_nil))) pe_int (nomark _)) (pss_one (ps_set (i := 2) sc.nd rfl (.inl rfl) (pe_op op_mul pe_int (pn vis 2)))) pss_nil) (pss_one (ps_ret (pn vis 2)))))))), ?_⟩
    refine i_start (σ' := [some (V.ref sourceA), none, none]) rfl ?_
    refine i_seq <| i_asg <| i_call <| i_cons <| v0 <| i_cons <| i_c <| i_nil <| ⟨_, _, rfl, a0, (by first | assumption | omega | rfl | exact Sz.zero | exact Sz.sm (by omega) (by omega) (by decide) | exact Sz.mono (by assumption) (by decide)), (by first | assumption | omega | rfl | exact Sz.zero | exact Sz.sm (by omega) (by omega) (by decide) | exact Sz.mono (by assumption) (by decide)), fun kind H1 s1 g1 hkind0 hkind1 => ?_⟩
    refine n1 <| i_nx <| i_seq <| i_asg <| i_op <| i_c <| i_call <| i_cons <| v0 <| i_cons <| i_c <| i_nil <| ⟨_, _, rfl, g1, (by first | assumption | omega | rfl | exact Sz.zero | exact Sz.sm (by omega) (by omega) (by decide) | exact Sz.mono (by assumption) (by decide)), (by first | assumption | omega | rfl | exact Sz.zero | exact Sz.sm (by omega) (by omega) (by decide) | exact Sz.mono (by assumption) (by decide)), fun value H2 s2 g2 hvalue0 hvalue1 => ?_⟩
    refine i_I0 <| n2 <| i_nx <| ?_
    refine i_cut (fun σ H' => ∃ (v : Int), σ = [some (V.ref sourceA), some (V.int kind), some (V.int v)] ∧ Ext H2 H' ∧ IsSrc H' sourceA ∧ (1 ≤ v) ∧ (Sz 126 v)) ?_ ?_
    ·
      refine i_if <| i_test <| i_op <| v1 <| i_c <| i_I0 <| i_bl <| i_ite (fun c3 => ?_) (fun c3 => ?_)
      ·
        refine i_asg <| i_op <| v2 <| i_call <| i_cons <| v0 <| i_nil <| ⟨_, rfl, g2, fun value2 H3 s3 g3 hvalue20 hvalue21 => ?_⟩
        refine i_I0 <| n2 <| ?_
        exact ⟨_, rfl, s3, g3, (by first | rfl | assumption | omega), (by repeat (first | assumption | exact Sz.zero | exact Sz.mono (by assumption) (by first | decide | omega) | exact Sz.sm (by omega) (by omega) (by first | decide | omega) | apply Sz.add | apply Sz.sub))⟩
      ·
        refine i_next <| ?_
        exact ⟨_, rfl, (Ext.refl _), g2, (by first | rfl | assumption | omega), (by repeat (first | assumption | exact Sz.zero | exact Sz.mono (by assumption) (by first | decide | omega) | exact Sz.sm (by omega) (by omega) (by first | decide | omega) | apply Sz.add | apply Sz.sub))⟩
    ·
      rintro σ H4 ⟨v, rfl, s4, g4, j0, j1⟩
      refine i_cut (fun σ H' => ∃ (v : Int), σ = [some (V.ref sourceA), some (V.int kind), some (V.int v)] ∧ Ext H4 H' ∧ IsSrc H' sourceA ∧ (1 ≤ v) ∧ (Sz 150 v)) ?_ ?_
      ·
        refine i_if <| i_test <| i_op <| v1 <| i_c <| i_I0 <| i_bl <| i_ite (fun c5 => ?_) (fun c5 => ?_)
        ·
          refine i_asg <| i_call <| i_cons <| i_op <| i_c <| i_call <| i_cons <| v0 <| i_cons <| i_c <| i_nil <| ⟨_, _, rfl, g4, (by first | assumption | omega | rfl | exact Sz.zero | exact Sz.sm (by omega) (by omega) (by decide) | exact Sz.mono (by assumption) (by decide)), (by first | assumption | omega | rfl | exact Sz.zero | exact Sz.sm (by omega) (by omega) (by decide) | exact Sz.mono (by assumption) (by decide)), fun value3 H5 s5 g5 hvalue30 hvalue31 => ?_⟩
          refine i_I0 <| i_cons <| i_call <| i_cons <| v0 <| i_cons <| i_c <| i_nil <| ⟨_, _, rfl, g5, (by first | assumption | omega | rfl | exact Sz.zero | exact Sz.sm (by omega) (by omega) (by decide) | exact Sz.mono (by assumption) (by decide)), (by first | assumption | omega | rfl | exact Sz.zero | exact Sz.sm (by omega) (by omega) (by decide) | exact Sz.mono (by assumption) (by decide)), fun value4 H6 s6 g6 hvalue40 hvalue41 => ?_⟩
          refine i_nil <| ⟨_, _, rfl, (by first | assumption | omega | rfl | exact Sz.zero | exact Sz.sm (by omega) (by omega) (by decide) | exact Sz.mono (by assumption) (by decide)), (by first | assumption | omega | rfl | exact Sz.zero | exact Sz.sm (by omega) (by omega) (by decide) | exact Sz.mono (by assumption) (by decide)), (by exact Sz.of (by omega) (by omega)), fun value5 H7 s7 hvalue5 => ?_⟩
          refine n2 <| ?_
          exact ⟨_, rfl, (s5.trans (s6.trans (ext_of s7))), (same_src s7 g6), (by first | assumption | (subst_vars; exact pow_pos1 (by omega) _)), (by first | assumption | exact Sz.mono (by assumption) (by decide) | (subst_vars; exact (Sz.pow (a := 6) (by unfold Sz; omega) _).mono (by omega)))⟩
        ·
          refine i_next <| ?_
          exact ⟨_, rfl, (Ext.refl _), g4, (by first | assumption | (subst_vars; exact pow_pos1 (by omega) _)), (by first | assumption | exact Sz.mono (by assumption) (by decide) | (subst_vars; exact (Sz.pow (a := 6) (by unfold Sz; omega) _).mono (by omega)))⟩
      ·
        rintro σ H8 ⟨v, rfl, s8, g8, l0, l1⟩
        refine i_cut (fun σ H' => ∃ (v : Int), σ = [some (V.ref sourceA), some (V.int kind), some (V.int v)] ∧ Ext H8 H' ∧ IsSrc H' sourceA ∧ (1 ≤ v) ∧ (Sz 160 v)) ?_ ?_
        ·
          refine i_if <| i_test <| i_op <| i_call <| i_cons <| v0 <| i_cons <| i_c <| i_nil <| ⟨_, _, rfl, g8, (by first | assumption | omega | rfl | exact Sz.zero | exact Sz.sm (by omega) (by omega) (by decide) | exact Sz.mono (by assumption) (by decide)), (by first | assumption | omega | rfl | exact Sz.zero | exact Sz.sm (by omega) (by omega) (by decide) | exact Sz.mono (by assumption) (by decide)), fun r9 H10 s10 g10 hr90 hr91 => ?_⟩
          refine i_c <| i_I0 <| i_bl <| i_ite (fun c7 => ?_) (fun c7 => ?_)
          ·
            refine i_asg <| i_op <| i_c <| v2 <| i_I (by first | exact .inl ⟨by decide, by decide⟩ | exact .inr ⟨by decide, by decide⟩) <| n2 <| ?_
            exact ⟨_, rfl, s10, g10, (by first | rfl | assumption | omega), (by first | exact Sz.mono (by assumption) (by decide) | exact Sz.mono (Sz.mul (a := 2) (by unfold Sz; decide) (by assumption)) (by decide))⟩
          ·
            refine i_next <| ?_
            exact ⟨_, rfl, s10, g10, (by first | rfl | assumption | omega), (by first | exact Sz.mono (by assumption) (by decide) | exact Sz.mono (Sz.mul (a := 2) (by unfold Sz; decide) (by assumption)) (by decide))⟩
        ·
          rintro σ H11 ⟨v, rfl, s11, g11, l0, l1⟩
          refine i_ret <| v2 <| ?_
          exact k _ _ (s1.trans (s2.trans (s4.trans (s8.trans s11)))) g11 (by first | rfl | assumption | omega) (by first | rfl | assumption | omega)

/-! _law_numerator -/
def sp__law_numerator (K : PySem.W.Frag) : Sp := fun vs H Q _ => ∃ (sourceA : Addr) (divisor : Int), vs = [V.ref sourceA, V.int divisor] ∧ IsSrc H sourceA ∧ (1 ≤ divisor) ∧ (Sz 160 divisor) ∧ ∀ (r : Int) (H' : Hp), Ext H H' → IsSrc H' sourceA → (Sz 400 r) → Q (V.int r) H'
abbrev s__law_numerator : Stmt := top 20
theorem sc__law_numerator : FnScope ["source", "divisor", "kind", "part", "whole"] ["source", "divisor"] (defScope s__law_numerator) := ⟨rfl, rfl, rfl, by decide +kernel, rfl, by decide +kernel, by decide +kernel⟩
theorem vis__law_numerator : visB ["source", "divisor", "kind", "part", "whole"] (defScope s__law_numerator) = true := by decide +kernel
theorem gl__law_numerator : glB ["_law_draw", "_law_big", "int"] (defScope s__law_numerator) = true := by decide +kernel
theorem ok__law_numerator {P : Program} {w : World} {K : PySem.W.Frag} {mg : Str → Option Value} {base : Heap} (T : Txt P w K mg) : OkD P w K mg base 3 (He.fAd K ("_law_numerator", none)) ["source", "divisor"] [] (sp__law_numerator K) := by
  obtain ⟨fd, F⟩ := T.d__law_numerator
  refine ⟨fd, [], F.kp, F.bindsN (fun _ _ _ _ _ _ us hl => match us, hl with | [_, _], _ => rfl), .nil, ?_⟩
  have sc := sc__law_numerator; have vis := vis__law_numerator; have gls := gl__law_numerator
  refine F.ok sc (fun vs H Q E h => ?_) (fun cdv A outer s H0 vs Q E hr h => ?_)
  · obtain ⟨sourceA, divisor, rfl, _⟩ := h; rfl
  · obtain ⟨sourceA, divisor, rfl, a0, e0, e1, k⟩ := h
    refine ⟨_, PSs.nox (pss_cons (ps_set (i := 2) sc.nd rfl (.inl rfl) (pcD (ok__law_draw T) (hr.mono (by decide)) gls 0 T.g__law_draw (pa_cons (pn vis 0) (pa_cons pe_int pa_nil)))) (pss_cons (ps_set (i := 3) sc.nd rfl (.inl rfl) (pe_op op_fdiv (pn vis 1) pe_int)) (C8.pss_cut (ps_if (pt_cmpR op_eqI (pn vis 2) pe_int (nomark _)) (pss_one (ps_set (i := 3) sc.nd rfl (.inl rfl) (pe_op op_add (pn vis 3) pe_int))) pss_nil) (C8.pss_cut (ps_if (pt_cmpR op_eqI (pn vis 2) pe_int (nomark _)) (pss_one (ps_set (i := 3) sc.nd rfl (.inl rfl) (pe_op op_sub (pn vis 3) pe_int))) pss_nil) (C8.pss_cut (ps_if (pt_cmpR op_eqI (pn vis 2) pe_int (nomark _)) (pss_one (ps_set (i := 3) sc.nd rfl (.inl rfl) pe_int)) pss_nil) (C8.pss_cut (ps_if (pt_cmpR op_eqI (pn vis 2) pe_int (nomark _)) (pss_one (ps_set (i := 3) sc.nd rfl (.inl rfl) pe_int)) pss_nil) (C8.pss_cut (ps_if (pt_cmpR op_eqI (pn vis 2) pe_int (nomark _)) (pss_one (ps_set (i := 3) sc.nd rfl (.inl rfl) (pe_op op_sub (pn vis 1) pe_int))) pss_nil) (C8.pss_cut (ps_if (pt_cmpR op_eqI (pn vis 2) pe_int (nomark _)) (pss_one (ps_set (i := 3) sc.nd rfl (.inl rfl) (pe_op op_mod (pcT call_intI gls 2 T.b_int boot_int (pa_cons (pcD (ok__law_big T) (hr.mono (by decide)) gls 1 T.g__law_big (pa_cons (pn vis 0) pa_nil)) pa_nil)) (pn vis 1)))) pss_nil) (pss_cons (ps_set (i := 4) sc.nd rfl (.inl rfl) (pcD (ok__law_draw T) (hr.mono (by decide)) gls 0 T.g__law_draw (pa_cons (pn vis 0) (pa_cons pe_int pa_nil)))) (C8.pss_cut (ps_if (pt_cmpR op_eqI (pcD (ok__law_draw T) (hr.mono (by decide)) gls 0 T.g__law_draw (pa_cons (pn vis 0) (pa_cons pe_int pa_nil))) pe_int (nomark _)) (pss_one (ps_set (i := 4) sc.nd rfl (.inl rfl) (pe_op op_add (pn vis 4) (pcD (ok__law_big T) (hr.mono (by decide)) gls 1 T.g__law_big (pa_cons (pn vis 0) pa_nil))))) pss_nil) (pss_one (ps_ret (pe_op op_mulX (pe_op op_add (pe_op op_mulX (pn vis 4) (pn vis 1)) (pn vis 3)) (pe_op op_sub pe_int (pe_op op_mul pe_int (pcD (ok__law_draw T) (hr.mono (by decide)) gls 0 T.g__law_draw (pa_cons (pn vis 0) (pa_cons pe_int pa_nil)))))))))))))))))), ?_⟩
    refine i_start (σ' := [some (V.ref sourceA), some (V.int divisor), none, none, none]) rfl ?_
    refine i_seq <| i_asg <| i_call <| i_cons <| v0 <| i_cons <| i_c <| i_nil <| ⟨_, _, rfl, a0, (by first | assumption | omega | rfl | exact Sz.zero | exact Sz.sm (by omega) (by omega) (by decide) | exact Sz.mono (by assumption) (by decide)), (by first | assumption | omega | rfl | exact Sz.zero | exact Sz.sm (by omega) (by omega) (by decide) | exact Sz.mono (by assumption) (by decide)), fun kind H1 s1 g1 hkind0 hkind1 => ?_⟩
    refine n2 <| i_nx <| i_seq <| i_asg <| i_op <| v1 <| i_c <| i_I ⟨by decide, by decide⟩ <| n3 <| i_nx <| ?_
    refine i_cut (fun σ H' => ∃ (p : Int), σ = [some (V.ref sourceA), some (V.int divisor), some (V.int kind), some (V.int p), none] ∧ Ext H1 H' ∧ IsSrc H' sourceA ∧ (0 ≤ p) ∧ (p ≤ divisor + 1)) ?_ ?_
    ·
      refine i_if <| i_test <| i_op <| v2 <| i_c <| i_I0 <| i_bl <| i_ite (fun c3 => ?_) (fun c3 => ?_)
      ·
        refine i_asg <| i_op <| v3 <| i_c <| i_I0 <| n3 <| ?_
        exact ⟨_, rfl, (Ext.refl _), g1, (by first | rfl | assumption | omega), (by first | rfl | assumption | omega)⟩
      ·
        refine i_next <| ?_
        exact ⟨_, rfl, (Ext.refl _), g1, (by first | rfl | assumption | omega), (by first | rfl | assumption | omega)⟩
    ·
      rintro σ H2 ⟨p, rfl, s2, g2, j0, j1⟩
      refine i_cut (fun σ H' => ∃ (p : Int), σ = [some (V.ref sourceA), some (V.int divisor), some (V.int kind), some (V.int p), none] ∧ Ext H2 H' ∧ IsSrc H' sourceA ∧ (-1 ≤ p) ∧ (p ≤ divisor + 1)) ?_ ?_
      ·
        refine i_if <| i_test <| i_op <| v2 <| i_c <| i_I0 <| i_bl <| i_ite (fun c5 => ?_) (fun c5 => ?_)
        ·
          refine i_asg <| i_op <| v3 <| i_c <| i_I0 <| n3 <| ?_
          exact ⟨_, rfl, (Ext.refl _), g2, (by first | rfl | assumption | omega), (by first | rfl | assumption | omega)⟩
        ·
          refine i_next <| ?_
          exact ⟨_, rfl, (Ext.refl _), g2, (by first | rfl | assumption | omega), (by first | rfl | assumption | omega)⟩
      ·
        rintro σ H3 ⟨p, rfl, s3, g3, j0, j1⟩
        refine i_cut (fun σ H' => ∃ (p : Int), σ = [some (V.ref sourceA), some (V.int divisor), some (V.int kind), some (V.int p), none] ∧ Ext H3 H' ∧ IsSrc H' sourceA ∧ (-1 ≤ p) ∧ (p ≤ divisor + 1)) ?_ ?_
        ·
          refine i_if <| i_test <| i_op <| v2 <| i_c <| i_I0 <| i_bl <| i_ite (fun c7 => ?_) (fun c7 => ?_)
          ·
            refine i_asg <| i_c <| n3 <| ?_
            exact ⟨_, rfl, (Ext.refl _), g3, (by first | rfl | assumption | omega), (by first | rfl | assumption | omega)⟩
          ·
            refine i_next <| ?_
            exact ⟨_, rfl, (Ext.refl _), g3, (by first | rfl | assumption | omega), (by first | rfl | assumption | omega)⟩
        ·
          rintro σ H4 ⟨p, rfl, s4, g4, j0, j1⟩
          refine i_cut (fun σ H' => ∃ (p : Int), σ = [some (V.ref sourceA), some (V.int divisor), some (V.int kind), some (V.int p), none] ∧ Ext H4 H' ∧ IsSrc H' sourceA ∧ (-1 ≤ p) ∧ (p ≤ divisor + 1)) ?_ ?_
          ·
            refine i_if <| i_test <| i_op <| v2 <| i_c <| i_I0 <| i_bl <| i_ite (fun c9 => ?_) (fun c9 => ?_)
            ·
              refine i_asg <| i_c <| n3 <| ?_
              exact ⟨_, rfl, (Ext.refl _), g4, (by first | rfl | assumption | omega), (by first | rfl | assumption | omega)⟩
            ·
              refine i_next <| ?_
              exact ⟨_, rfl, (Ext.refl _), g4, (by first | rfl | assumption | omega), (by first | rfl | assumption | omega)⟩
          ·
            rintro σ H5 ⟨p, rfl, s5, g5, j0, j1⟩
            refine i_cut (fun σ H' => ∃ (p : Int), σ = [some (V.ref sourceA), some (V.int divisor), some (V.int kind), some (V.int p), none] ∧ Ext H5 H' ∧ IsSrc H' sourceA ∧ (-1 ≤ p) ∧ (p ≤ divisor + 1)) ?_ ?_
            ·
              refine i_if <| i_test <| i_op <| v2 <| i_c <| i_I0 <| i_bl <| i_ite (fun c11 => ?_) (fun c11 => ?_)
              ·
                refine i_asg <| i_op <| v1 <| i_c <| i_I0 <| n3 <| ?_
                exact ⟨_, rfl, (Ext.refl _), g5, (by first | rfl | assumption | omega), (by first | rfl | assumption | omega)⟩
              ·
                refine i_next <| ?_
                exact ⟨_, rfl, (Ext.refl _), g5, (by first | rfl | assumption | omega), (by first | rfl | assumption | omega)⟩
            ·
              rintro σ H6 ⟨p, rfl, s6, g6, j0, j1⟩
              refine i_cut (fun σ H' => ∃ (p : Int), σ = [some (V.ref sourceA), some (V.int divisor), some (V.int kind), some (V.int p), none] ∧ Ext H6 H' ∧ IsSrc H' sourceA ∧ (-1 ≤ p) ∧ (p ≤ divisor + 1)) ?_ ?_
              ·
                refine i_if <| i_test <| i_op <| v2 <| i_c <| i_I0 <| i_bl <| i_ite (fun c13 => ?_) (fun c13 => ?_)
                ·
                  refine i_asg <| i_op <| i_cb <| i_cons <| i_call <| i_cons <| v0 <| i_nil <| ⟨_, rfl, g6, fun part H7 s7 g7 hpart0 hpart1 => ?_⟩
                  refine i_nil <| i_int <| v1 <| i_I (by show (0 : Int) < _; first | decide | assumption | omega) <| n3 <| ?_
                  exact ⟨_, rfl, s7, g7, (by have := Int.emod_nonneg part (show divisor ≠ 0 by omega); omega), (by have := Int.emod_lt_of_pos part (show 0 < divisor by omega); omega)⟩
                ·
                  refine i_next <| ?_
                  exact ⟨_, rfl, (Ext.refl _), g6, (by first | rfl | assumption | omega), (by first | rfl | assumption | omega)⟩
              ·
                rintro σ H8 ⟨p, rfl, s8, g8, j0, j1⟩
                refine i_seq <| i_asg <| i_call <| i_cons <| v0 <| i_cons <| i_c <| i_nil <| ⟨_, _, rfl, g8, (by first | assumption | omega | rfl | exact Sz.zero | exact Sz.sm (by omega) (by omega) (by decide) | exact Sz.mono (by assumption) (by decide)), (by first | assumption | omega | rfl | exact Sz.zero | exact Sz.sm (by omega) (by omega) (by decide) | exact Sz.mono (by assumption) (by decide)), fun whole H9 s9 g9 hwhole0 hwhole1 => ?_⟩
                refine n4 <| i_nx <| ?_
                refine i_cut (fun σ H' => ∃ (q : Int), σ = [some (V.ref sourceA), some (V.int divisor), some (V.int kind), some (V.int p), some (V.int q)] ∧ Ext H9 H' ∧ IsSrc H' sourceA ∧ (0 ≤ q) ∧ (Sz 130 q)) ?_ ?_
                ·
                  refine i_if <| i_test <| i_op <| i_call <| i_cons <| v0 <| i_cons <| i_c <| i_nil <| ⟨_, _, rfl, g9, (by first | assumption | omega | rfl | exact Sz.zero | exact Sz.sm (by omega) (by omega) (by decide) | exact Sz.mono (by assumption) (by decide)), (by first | assumption | omega | rfl | exact Sz.zero | exact Sz.sm (by omega) (by omega) (by decide) | exact Sz.mono (by assumption) (by decide)), fun r10 H11 s11 g11 hr100 hr101 => ?_⟩
                  refine i_c <| i_I0 <| i_bl <| i_ite (fun c16 => ?_) (fun c16 => ?_)
                  ·
                    refine i_asg <| i_op <| v4 <| i_call <| i_cons <| v0 <| i_nil <| ⟨_, rfl, g11, fun whole4 H12 s12 g12 hwhole40 hwhole41 => ?_⟩
                    refine i_I0 <| n4 <| ?_
                    exact ⟨_, rfl, (s11.trans s12), g12, (by first | rfl | assumption | omega), (by repeat (first | assumption | exact Sz.zero | exact Sz.mono (by assumption) (by first | decide | omega) | exact Sz.sm (by omega) (by omega) (by first | decide | omega) | apply Sz.add | apply Sz.sub))⟩
                  ·
                    refine i_next <| ?_
                    exact ⟨_, rfl, s11, g11, (by first | rfl | assumption | omega), (by repeat (first | assumption | exact Sz.zero | exact Sz.mono (by assumption) (by first | decide | omega) | exact Sz.sm (by omega) (by omega) (by first | decide | omega) | apply Sz.add | apply Sz.sub))⟩
                ·
                  rintro σ H13 ⟨q, rfl, s13, g13, l0, l1⟩
                  refine i_ret <| i_op <| i_op <| i_op <| v4 <| v1 <| i_I (by exact mulx l1 e1) <| v3 <| i_I0 <| i_op <| i_c <| i_op <| i_c <| i_call <| i_cons <| v0 <| i_cons <| i_c <| i_nil <| ⟨_, _, rfl, g13, (by first | assumption | omega | rfl | exact Sz.zero | exact Sz.sm (by omega) (by omega) (by decide) | exact Sz.mono (by assumption) (by decide)), (by first | assumption | omega | rfl | exact Sz.zero | exact Sz.sm (by omega) (by omega) (by decide) | exact Sz.mono (by assumption) (by decide)), fun r14 H15 s15 g15 hr140 hr141 => ?_⟩
                  refine i_I (by first | exact .inl ⟨by decide, by decide⟩ | exact .inr ⟨by decide, by decide⟩) <| i_I0 <| i_I (by exact mulx (a := 300) (b := 10) (Sz.add (a := 299) ((Sz.mul l1 e1).mono (by decide)) ((Sz.btw e1 j0 j1).mono (by decide))) (Sz.sm (by omega) (by omega) (by decide))) <| ?_
                  exact k _ _ (s1.trans (s2.trans (s3.trans (s4.trans (s5.trans (s6.trans (s8.trans (s9.trans (s13.trans s15))))))))) g15 (by exact (Sz.mul (a := 300) (b := 10) (Sz.add (a := 299) ((Sz.mul l1 e1).mono (by decide)) ((Sz.btw e1 j0 j1).mono (by decide))) (Sz.sm (by omega) (by omega) (by decide))).mono (by decide))

/-! _law_chosen -/
def sp__law_chosen (K : PySem.W.Frag) : Sp := fun vs H Q _ => ∃ (numerator : Int) (divisor : Int) (mode : Str) (result : Int), vs = [V.int numerator, V.int divisor, V.str mode, V.int result] ∧ (mode ∈ modes9) ∧ (1 ≤ divisor) ∧ (Sz 401 numerator) ∧ (Sz 170 divisor) ∧ (result = rq numerator divisor mode) ∧ (Sz 500 result) ∧ ∀  (H' : Hp), Same H H' → Q (V.bl true) H'
abbrev s__law_chosen : Stmt := top 22
theorem sc__law_chosen : FnScope ["numerator", "divisor", "mode", "result", "off", "out"] ["numerator", "divisor", "mode", "result"] (defScope s__law_chosen) := ⟨rfl, rfl, rfl, by decide +kernel, rfl, by decide +kernel, by decide +kernel⟩
theorem vis__law_chosen : visB ["numerator", "divisor", "mode", "result", "off", "out"] (defScope s__law_chosen) = true := by decide +kernel
theorem gl__law_chosen : glB ["int", "isinstance", "bool", "abs"] (defScope s__law_chosen) = true := by decide +kernel
theorem ok__law_chosen {P : Program} {w : World} {K : PySem.W.Frag} {mg : Str → Option Value} {base : Heap} (T : Txt P w K mg) : OkD P w K mg base 1 (He.fAd K ("_law_chosen", none)) ["numerator", "divisor", "mode", "result"] [] (sp__law_chosen K) := by
  obtain ⟨fd, F⟩ := T.d__law_chosen
  refine ⟨fd, [], F.kp, F.bindsN (fun _ _ _ _ _ _ us hl => match us, hl with | [_, _, _, _], _ => rfl), .nil, ?_⟩
  have sc := sc__law_chosen; have vis := vis__law_chosen; have gls := gl__law_chosen
  refine F.ok sc (fun vs H Q E h => ?_) (fun cdv A outer s H0 vs Q E hr h => ?_)
  · obtain ⟨numerator, divisor, mode, result, rfl, _⟩ := h; rfl
  · obtain ⟨numerator, divisor, mode, result, rfl, e0, e1, e2, e3, e4, e5, k⟩ := h
    refine ⟨_, PSs.nox (pss_cons (ps_if (PW.pt (pw_or (pt_not (pt_val (pcB call_isi gls 1 T.b_isinstance (by decide +kernel) (pa_cons (pn vis 3) (pa_cons (pgt gls 0 T.b_int boot_int) pa_nil))))) (pw_or1 (pt_val (pcB call_isi gls 1 T.b_isinstance (by decide +kernel) (pa_cons (pn vis 3) (pa_cons (pgt gls 2 T.b_bool boot_bool) pa_nil))))))) pss_never pss_nil) (pss_cons (ps_set (i := 4) sc.nd rfl (.inl rfl) (pe_op op_sub (pe_op op_mulX (pn vis 3) (pn vis 1)) (pn vis 0))) (pss_cons (ps_if (pt_cmpR op_ge (pcB call_absI gls 3 T.b_abs (by decide +kernel) (pa_cons (pn vis 4) pa_nil)) (pn vis 1) (nomark _)) (pss_one (ps_ret pe_bl)) pss_nil) (pss_cons (ps_if (pt_cmpR op_eqI (pn vis 4) pe_int (nomark _)) (pss_one (ps_ret pe_bl)) pss_nil) (pss_cons (ps_set (i := 5) sc.nd rfl (.inl rfl) (pe_cmpR op_gt (pe_op op_mulX (pn vis 4) (pn vis 0)) pe_int (nomark _))) (pss_cons (ps_if (PW.pt (pw_or (pt_cmpR op_eqS (pn vis 2) pe_str (nomark _)) (pw_or1 (pt_cmpR op_eqS (pn vis 2) pe_str (nomark _))))) (pss_one (ps_ret (pe_cmpR op_eqB (pn vis 5) (pe_cmpR op_eqS (pn vis 2) pe_str (nomark _)) (nomark _)))) pss_nil) (pss_cons (ps_if (PW.pt (pw_or (pt_cmpR op_eqS (pn vis 2) pe_str (nomark _)) (pw_or1 (pt_cmpR op_eqS (pn vis 2) pe_str (nomark _))))) (pss_one (ps_ret (pe_cmpR op_eqB (pe_cmpR op_gt (pn vis 4) pe_int (nomark _)) (pe_cmpR op_eqS (pn vis 2) pe_str (nomark _)) (nomark _)))) pss_nil) (pss_cons (ps_if (pt_cmpR op_neI (pe_op op_mul pe_int (pcB call_absI gls 3 T.b_abs (by decide +kernel) (pa_cons (pn vis 4) pa_nil))) (pn vis 1) (nomark _)) (pss_one (ps_ret (pe_cmpR op_lt (pe_op op_mul pe_int (pcB call_absI gls 3 T.b_abs (by decide +kernel) (pa_cons (pn vis 4) pa_nil))) (pn vis 1) (nomark _)))) pss_nil) (pss_cons (ps_if (pt_cmpR op_eqS (pn vis 2) pe_str (nomark _)) (pss_one (ps_ret (pe_cmpR op_eqI (pe_op op_mod (pcT call_intI gls 0 T.b_int boot_int (pa_cons (pn vis 3) pa_nil)) pe_int) pe_int (nomark _)))) pss_nil) (pss_cons (ps_if (PW.pt (pw_or (pt_cmpR op_eqS (pn vis 2) pe_str (nomark _)) (pw_or1 (pt_cmpR op_eqS (pn vis 2) pe_str (nomark _))))) (pss_one (ps_ret (pe_cmpR op_eqB (pn vis 5) (pe_cmpR op_eqS (pn vis 2) pe_str (nomark _)) (nomark _)))) pss_nil) (pss_one (ps_ret (pe_cmpR op_eqB (pe_cmpR op_gt (pn vis 4) pe_int (nomark _)) (pe_cmpR op_eqS (pn vis 2) pe_str (nomark _)) (nomark _)))))))))))))), ?_⟩
    refine i_start (σ' := [some (V.int numerator), some (V.int divisor), some (V.str mode), some (V.int result), none, none]) rfl ?_
    refine i_seq <| i_if <| i_or <| i_not <| i_tB <| i_cb <| i_cons <| v3 <| i_cons <| i_c <| i_nil <| i_isi (b := true) (.ty _) (.base (.int _)) (kit_ty (by decide +kernel)) <| i_bl <| i_iteNT <| i_tB <| i_cb <| i_cons <| v3 <| i_cons <| i_c <| i_nil <| i_isi (b := false) (.ty _) (.base (.int _)) (kit_ty (by decide +kernel)) <| i_bl <| i_iteF <| i_next <| i_nx <| i_seq <| ?_
    have hc : Chosen numerator divisor mode (result * divisor - numerator) := by rw [e4]; exact chosen (by omega) e0
    refine i_asg <| i_op <| i_op <| v3 <| v1 <| i_I (by exact mulx e5 e3) <| v0 <| i_I0 <| n4 <| i_nx <| i_seq <| i_if <| i_test <| i_op <| i_cb <| i_cons <| v4 <| i_nil <| i_abs <| v1 <| i_I0 <| i_bl <| i_ite (fun c4 => ?_) (fun c4 => ?_)
    ·
      refine i_ret <| i_c <| ?_
      exact absurd hc.lt (Int.not_lt.mpr c4)
    ·
      refine i_next <| i_nx <| i_seq <| ?_
      have ho1 : Sz 701 (result * divisor - numerator) := (Sz.sub (a := 700) ((Sz.mul e5 e3).mono (by decide)) (e2.mono (by decide)))
      refine i_if <| i_test <| i_op <| v4 <| i_c <| i_I0 <| i_bl <| i_ite (fun c6 => ?_) (fun c6 => ?_)
      ·
        refine i_ret <| i_c <| ?_
        exact k _ (Same.refl _)
      ·
        refine i_next <| i_nx <| i_seq <| i_asg <| i_op <| i_op <| v4 <| v0 <| i_I (by exact mulx ho1 e2) <| i_c <| i_I0 <| n5 <| i_nx <| i_seq <| i_if <| i_or <| i_test <| i_op <| v2 <| i_c <| i_S0 <| i_bl <| i_ite (fun c9 => ?_) (fun c9 => ?_)
        ·
          refine i_iteT <| i_ret <| i_op <| v5 <| i_op <| v2 <| i_c <| i_S0 <| i_B0 <| ?_
          refine i_decT (by exact hc.io (.inl c9) c6) ?_
          exact k _ (Same.refl _)
        ·
          refine i_test <| i_op <| v2 <| i_c <| i_S0 <| i_bl <| i_ite (fun c9' => ?_) (fun c9' => ?_)
          ·
            refine i_ret <| i_op <| v5 <| i_op <| v2 <| i_c <| i_S0 <| i_B0 <| ?_
            refine i_decT (by exact hc.io (.inr c9') c6) ?_
            exact k _ (Same.refl _)
          ·
            refine i_next <| i_nx <| i_seq <| i_if <| i_or <| i_test <| i_op <| v2 <| i_c <| i_S0 <| i_bl <| i_ite (fun c11 => ?_) (fun c11 => ?_)
            ·
              refine i_iteT <| i_ret <| i_op <| i_op <| v4 <| i_c <| i_I0 <| i_op <| v2 <| i_c <| i_S0 <| i_B0 <| ?_
              refine i_decT (by exact hc.ud (.inl c11) c6) ?_
              exact k _ (Same.refl _)
            ·
              refine i_test <| i_op <| v2 <| i_c <| i_S0 <| i_bl <| i_ite (fun c11' => ?_) (fun c11' => ?_)
              ·
                refine i_ret <| i_op <| i_op <| v4 <| i_c <| i_I0 <| i_op <| v2 <| i_c <| i_S0 <| i_B0 <| ?_
                refine i_decT (by exact hc.ud (.inr c11') c6) ?_
                exact k _ (Same.refl _)
              ·
                refine i_next <| i_nx <| i_seq <| i_if <| i_test <| i_op <| i_op <| i_c <| i_cb <| i_cons <| v4 <| i_nil <| i_abs <| i_I (by first | exact .inl ⟨by decide, by decide⟩ | exact .inr ⟨by decide, by decide⟩) <| v1 <| i_I0 <| i_bl <| i_iteN (fun c13 => ?_) (fun c13 => ?_)
                ·
                  refine i_ret <| i_op <| i_op <| i_c <| i_cb <| i_cons <| v4 <| i_nil <| i_abs <| i_I (by first | exact .inl ⟨by decide, by decide⟩ | exact .inr ⟨by decide, by decide⟩) <| v1 <| i_I0 <| ?_
                  refine i_decT (by exact hc.nr (fun h => h.elim c9 c9') (fun h => h.elim c11 c11') c6 c13) ?_
                  exact k _ (Same.refl _)
                ·
                  refine i_next <| i_nx <| i_seq <| i_if <| i_test <| i_op <| v2 <| i_c <| i_S0 <| i_bl <| i_ite (fun c15 => ?_) (fun c15 => ?_)
                  ·
                    refine i_ret <| i_op <| i_op <| i_cb <| i_cons <| v3 <| i_nil <| i_int <| i_c <| i_I (by show (0 : Int) < _; first | decide | assumption | omega) <| i_c <| i_I0 <| ?_
                    refine i_decT (by rw [e4]; exact hc.ev c15 c6 c13) ?_
                    exact k _ (Same.refl _)
                  ·
                    refine i_next <| i_nx <| i_seq <| i_if <| i_or <| i_test <| i_op <| v2 <| i_c <| i_S0 <| i_bl <| i_ite (fun c17 => ?_) (fun c17 => ?_)
                    ·
                      refine i_iteT <| i_ret <| i_op <| v5 <| i_op <| v2 <| i_c <| i_S0 <| i_B0 <| ?_
                      refine i_decT (by exact hc.no (.inl c17) c6 c13) ?_
                      exact k _ (Same.refl _)
                    ·
                      refine i_test <| i_op <| v2 <| i_c <| i_S0 <| i_bl <| i_ite (fun c17' => ?_) (fun c17' => ?_)
                      ·
                        refine i_ret <| i_op <| v5 <| i_op <| v2 <| i_c <| i_S0 <| i_B0 <| ?_
                        refine i_decT (by exact hc.no (.inr c17') c6 c13) ?_
                        exact k _ (Same.refl _)
                      ·
                        refine i_next <| i_nx <| i_ret <| i_op <| i_op <| v4 <| i_c <| i_I0 <| i_op <| v2 <| i_c <| i_S0 <| i_B0 <| ?_
                        refine i_decT (by refine hc.nu ?_ c6 c13; rcases mem9 e0 with h | h | h | h | h | h | h | h | h <;> first | exact .inl h | exact .inr h | exact absurd h (by assumption)) ?_
                        exact k _ (Same.refl _)

/-! _law_refused -/
def sp__law_refused (K : PySem.W.Frag) : Sp := fun vs H Q _ => ∃ (numerator : Int) (divisor : Int) (text : Str), vs = [V.int numerator, V.int divisor, V.str text] ∧ (text ∉ modes9) ∧ ∀  (H' : Hp), Same H H' → Q (V.bl true) H'
abbrev s__law_refused : Stmt := top 23
theorem sc__law_refused : FnScope ["numerator", "divisor", "text", "e"] ["numerator", "divisor", "text"] (defScope s__law_refused) := ⟨rfl, rfl, rfl, by decide +kernel, rfl, by decide +kernel, by decide +kernel⟩
theorem vis__law_refused : visB ["numerator", "divisor", "text", "e"] (defScope s__law_refused) = true := by decide +kernel
theorem gl__law_refused : glB ["LostError", "round_quotient", "BadMode", "isinstance", "ValueError", "BadBase", "_law_equal"] (defScope s__law_refused) = true := by decide +kernel
theorem ok__law_refused {P : Program} {w : World} {K : PySem.W.Frag} {mg : Str → Option Value} {base : Heap} (T : Txt P w K mg) : OkD P w K mg base 4 (He.fAd K ("_law_refused", none)) ["numerator", "divisor", "text"] [] (sp__law_refused K) := by
  obtain ⟨fd, F⟩ := T.d__law_refused
  refine ⟨fd, [], F.kp, F.bindsN (fun _ _ _ _ _ _ us hl => match us, hl with | [_, _, _], _ => rfl), .nil, ?_⟩
  have sc := sc__law_refused; have vis := vis__law_refused; have gls := gl__law_refused
  refine F.ok sc (fun vs H Q E h => ?_) (fun cdv A outer s H0 vs Q E hr h => ?_)
  · obtain ⟨numerator, divisor, text, rfl, _⟩ := h; rfl
  · obtain ⟨numerator, divisor, text, rfl, e0, k⟩ := h
    refine ⟨_, (pss_cons (ps_tryA (i := 3) rfl rfl sc.nd rfl rfl (names_of gls 0 T.g_LostError) takes_cx (fun W8 pn8 xe8 tk1 po => (pss_one (ps_expr (pcW (ok_round_quotient_bad T) (hr.mono (by decide)) gls 1 T.g_round_quotient tk1 (pa_cons (pn vis 0) (pa_cons (pn vis 1) (pa_cons (pn vis 2) pa_nil))))))) (fun a9 oe9 cls9 d9 pn9 hz9 hf9 => (pss_cons (ps_if (PW.pt (pw_or (pt_not (pt_val (pcB (id := "isinstance") (call_isXS hz9.zc hf9) gls 3 T.b_isinstance (by decide +kernel) (pa_cons (pn vis 3) (pa_cons (pgr gls 2 T.g_BadMode) pa_nil))))) (pw_or (pt_not (pt_val (pcB (id := "isinstance") (call_isXS hz9.zc hf9) gls 3 T.b_isinstance (by decide +kernel) (pa_cons (pn vis 3) (pa_cons (pgt (T := "ValueError") gls 4 T.b_ValueError (by decide +kernel)) pa_nil))))) (pw_or1 (pt_val (pcB (id := "isinstance") (call_isXS hz9.zc hf9) gls 3 T.b_isinstance (by decide +kernel) (pa_cons (pn vis 3) (pa_cons (pgr gls 5 T.g_BadBase) pa_nil)))))))) pss_never pss_nil) (pss_one (ps_ret (pcH (okh__law_equal_str T) (room_suite hr (by decide)) (hot_suite hz9 hf9) gls 6 T.g__law_equal (pa_cons (pe_xgS (pn vis 3) hz9.zc hf9) (pa_cons (pn vis 2) pa_nil)))))))) pss_never), ?_⟩
    refine i_start (σ' := [some (V.int numerator), some (V.int divisor), some (V.str text), none]) rfl ?_
    refine i_seq <| i_tryA <| i_drop <| i_callW <| i_cons <| v0 <| i_cons <| v1 <| i_cons <| v2 <| i_nil <| ⟨_, _, _, rfl, (by first | assumption | omega | rfl | exact Sz.zero | exact Sz.sm (by omega) (by omega) (by decide) | exact Sz.mono (by assumption) (by decide)), fun d2 H2 s2 x2 => ?_⟩
    refine cat3 T.exm_BadMode_LostError (fun a3 na3 => ?_)
    refine i_seq <| i_if <| i_or <| i_not <| i_tB <| i_cb <| i_cons <| v3 <| i_cons <| i_c <| i_nil <| i_isX (b := true) T.excC_BadMode (fun dd e9 => by cases e9; exact ⟨_, x2⟩) (fun _ r9 => r9) T.ekit_BadMode_BadMode <| i_bl <| i_iteNT <| i_or <| i_not <| i_tB <| i_cb <| i_cons <| v3 <| i_cons <| i_c <| i_nil <| i_isX (b := true) T.excC_BadMode (fun dd e9 => by cases e9; exact ⟨_, x2⟩) (fun _ r9 => r9) T.ekit_BadMode_ValueError <| i_bl <| i_iteNT <| i_tB <| i_cb <| i_cons <| v3 <| i_cons <| i_c <| i_nil <| i_isX (b := false) T.excC_BadMode (fun dd e9 => by cases e9; exact ⟨_, x2⟩) (fun _ r9 => r9) T.ekit_BadMode_BadBase <| i_bl <| i_iteF <| i_next <| i_nx <| i_ret <| i_call <| i_cons <| i_xg <| v3 <| i_xge T.xfC_BadMode T.na_BadMode_mode x2 rfl <| i_cons <| v2 <| i_nil <| ⟨_, _, rfl, (by first | assumption | omega | rfl | exact Sz.zero | exact Sz.sm (by omega) (by omega) (by decide) | exact Sz.mono (by assumption) (by decide)), fun H5 s5 => ?_⟩
    exact k _ (s2.trans s5)

/-! _law_odd_mode -/
def sp__law_odd_mode (K : PySem.W.Frag) : Sp := fun vs H Q _ => ∃ (sourceA : Addr), vs = [V.ref sourceA] ∧ IsSrc H sourceA ∧ ∀ (r : Str) (H' : Hp), Ext H H' → IsSrc H' sourceA → (r ∉ modes9) → Q (V.str r) H'
abbrev s__law_odd_mode : Stmt := top 21
theorem sc__law_odd_mode : FnScope ["source", "mode", "at", "kind"] ["source"] (defScope s__law_odd_mode) := ⟨rfl, rfl, rfl, by decide +kernel, rfl, by decide +kernel, by decide +kernel⟩
theorem vis__law_odd_mode : visB ["source", "mode", "at", "kind"] (defScope s__law_odd_mode) = true := by decide +kernel
theorem gl__law_odd_mode : glB ["_law_mode", "len", "_law_draw"] (defScope s__law_odd_mode) = true := by decide +kernel
theorem ok__law_odd_mode {P : Program} {w : World} {K : PySem.W.Frag} {mg : Str → Option Value} {base : Heap} (T : Txt P w K mg) : OkD P w K mg base 3 (He.fAd K ("_law_odd_mode", none)) ["source"] [] (sp__law_odd_mode K) := by
  obtain ⟨fd, F⟩ := T.d__law_odd_mode
  refine ⟨fd, [], F.kp, F.bindsN (fun _ _ _ _ _ _ us hl => match us, hl with | [_], _ => rfl), .nil, ?_⟩
  have sc := sc__law_odd_mode; have vis := vis__law_odd_mode; have gls := gl__law_odd_mode
  refine F.ok sc (fun vs H Q E h => ?_) (fun cdv A outer s H0 vs Q E hr h => ?_)
  · obtain ⟨sourceA, rfl, _⟩ := h; rfl
  · obtain ⟨sourceA, rfl, a0, k⟩ := h
    refine ⟨_, PSs.nox (pss_cons (ps_set (i := 1) sc.nd rfl (.inl rfl) (pcD (ok__law_mode T) (hr.mono (by decide)) gls 0 T.g__law_mode (pa_cons (pn vis 0) pa_nil))) (pss_cons (ps_set (i := 2) sc.nd rfl (.inl rfl) (pcD (ok__law_draw T) (hr.mono (by decide)) gls 2 T.g__law_draw (pa_cons (pn vis 0) (pa_cons (pcB call_lenT gls 1 T.b_len PySem.boot_len (pa_cons (pn vis 1) pa_nil)) pa_nil)))) (pss_cons (ps_set (i := 3) sc.nd rfl (.inl rfl) (pcD (ok__law_draw T) (hr.mono (by decide)) gls 2 T.g__law_draw (pa_cons (pn vis 0) (pa_cons pe_int pa_nil)))) (pss_cons (ps_if (pt_cmpR op_eqI (pn vis 3) pe_int (nomark _)) (pss_one (ps_ret (pe_slice sl_str (pn vis 1) po_none (po_some (pn vis 2))))) pss_nil) (pss_cons (ps_if (pt_cmpR op_eqI (pn vis 3) pe_int (nomark _)) (pss_one (ps_ret (pe_op op_addT (pe_slice sl_str (pn vis 1) po_none (po_some (pn vis 2))) (pe_slice sl_str (pn vis 1) (po_some (pe_op op_add (pn vis 2) pe_int)) po_none)))) pss_nil) (pss_cons (ps_if (pt_cmpR op_eqI (pn vis 3) pe_int (nomark _)) (pss_one (ps_ret (pe_op op_addT (pe_op op_addT (pe_slice sl_str (pn vis 1) po_none (po_some (pn vis 2))) (pe_repl1 (y := "-") (z := "_") (pe1_upper (pe1_slice sl_str (pn vis 1) (po_some (pn vis 2)) (po1_some (pe1_op op_add (pn vis 2) pe1_int)))) (by decide +kernel))) (pe_slice sl_str (pn vis 1) (po_some (pe_op op_add (pn vis 2) pe_int)) po_none)))) pss_nil) (pss_cons (ps_if (pt_cmpR op_eqI (pn vis 3) pe_int (nomark _)) (pss_one (ps_ret (pe_op op_addT (pn vis 1) pe_str))) pss_nil) (pss_cons (ps_if (pt_cmpR op_eqI (pn vis 3) pe_int (nomark _)) (pss_one (ps_ret (pe_op op_addT pe_str (pn vis 1)))) pss_nil) (pss_cons (ps_if (pt_cmpR op_eqI (pn vis 3) pe_int (nomark _)) (pss_one (ps_ret (pe_op op_addT (pe_slice sl_str (pn vis 1) po_none (po_some (pe_op op_add (pn vis 2) pe_int))) (pe_slice sl_str (pn vis 1) (po_some (pn vis 2)) po_none)))) pss_nil) (pss_one (ps_ret (pe_ix ix_list (pe_lst (pa_cons pe_str (pa_cons pe_str (pa_cons pe_str (pa_cons pe_str (pa_cons pe_str (pa_cons pe_str (pa_cons pe_str (pa_cons pe_str pa_nil))))))))) (pcD (ok__law_draw T) (hr.mono (by decide)) gls 2 T.g__law_draw (pa_cons (pn vis 0) (pa_cons pe_int pa_nil))) (fun _ _ => rfl))))))))))))), ?_⟩
    refine i_start (σ' := [some (V.ref sourceA), none, none, none]) rfl ?_
    refine i_seq <| i_asg <| i_call <| i_cons <| v0 <| i_nil <| ⟨_, rfl, a0, fun mode H1 s1 g1 hmode => ?_⟩
    refine n1 <| i_nx <| i_seq <| ?_
    have hl := len9 mode hmode
    refine i_asg <| i_call <| i_cons <| v0 <| i_cons <| i_cb <| i_cons <| v1 <| i_nil <| i_lenTx (by omega) <| i_nil <| ⟨_, _, rfl, g1, (by first | assumption | omega | rfl | exact Sz.zero | exact Sz.sm (by omega) (by omega) (by decide) | exact Sz.mono (by assumption) (by decide)), (by first | assumption | omega | rfl | exact Sz.zero | exact Sz.sm (by omega) (by omega) (by decide) | exact Sz.mono (by assumption) (by decide)), fun at_ H2 s2 g2 hat_0 hat_1 => ?_⟩
    refine n2 <| i_nx <| i_seq <| i_asg <| i_call <| i_cons <| v0 <| i_cons <| i_c <| i_nil <| ⟨_, _, rfl, g2, (by first | assumption | omega | rfl | exact Sz.zero | exact Sz.sm (by omega) (by omega) (by decide) | exact Sz.mono (by assumption) (by decide)), (by first | assumption | omega | rfl | exact Sz.zero | exact Sz.sm (by omega) (by omega) (by decide) | exact Sz.mono (by assumption) (by decide)), fun kind H3 s3 g3 hkind0 hkind1 => ?_⟩
    refine n3 <| i_nx <| i_seq <| i_if <| i_test <| i_op <| v3 <| i_c <| i_I0 <| i_bl <| i_ite (fun c4 => ?_) (fun c4 => ?_)
    ·
      refine i_ret <| i_sl <| v1 <| i_noP <| i_part <| v2 <| i_partI <| i_slS (by first | assumption | omega) <| ?_
      exact k _ _ (s1.trans (s2.trans s3)) g3 (by exact odd_not hmode hat_0 hat_1 (by unfold oddT; exact List.mem_of_getElem? (i := 0) rfl))
    ·
      refine i_next <| i_nx <| i_seq <| i_if <| i_test <| i_op <| v3 <| i_c <| i_I0 <| i_bl <| i_ite (fun c6 => ?_) (fun c6 => ?_)
      ·
        refine i_ret <| i_op <| i_sl <| v1 <| i_noP <| i_part <| v2 <| i_partI <| i_slS (by first | assumption | omega) <| i_sl <| v1 <| i_part <| i_op <| v2 <| i_c <| i_I0 <| i_partI <| i_noP <| i_slS (by first | assumption | omega) <| i_addT (by have q1 := cutS_length mode none (some at_); have q2 := cutS_length mode (some (at_ + 1)) none; have q3 := cutS_length mode (some at_) (some (at_ + 1)); have q4 := cutS_length mode none (some (at_ + 1)); have q5 := cutS_length mode (some at_) none; have q6 := odd_len hl.2 at_; (try simp only [len_app]); omega) <| ?_
        exact k _ _ (s1.trans (s2.trans s3)) g3 (by exact odd_not hmode hat_0 hat_1 (by unfold oddT; exact List.mem_of_getElem? (i := 1) rfl))
      ·
        refine i_next <| i_nx <| i_seq <| i_if <| i_test <| i_op <| v3 <| i_c <| i_I0 <| i_bl <| i_ite (fun c8 => ?_) (fun c8 => ?_)
        ·
          refine i_ret <| i_op <| i_op <| i_sl <| v1 <| i_noP <| i_part <| v2 <| i_partI <| i_slS (by first | assumption | omega) <| i_repl <| i_m0 <| i_sl <| v1 <| i_part <| v2 <| i_partI <| i_part <| i_op <| v2 <| i_c <| i_I0 <| i_partI <| i_slS (by first | assumption | omega) <| i_isS <| i_upper (by have q1 := cutS_length mode none (some at_); have q2 := cutS_length mode (some (at_ + 1)) none; have q3 := cutS_length mode (some at_) (some (at_ + 1)); have q4 := cutS_length mode none (some (at_ + 1)); have q5 := cutS_length mode (some at_) none; omega) <| i_replE (by have q6 := odd_len hl.2 at_; show _ + _ * 1 ≤ _; omega) <| i_addT (by have q1 := cutS_length mode none (some at_); have q2 := cutS_length mode (some (at_ + 1)) none; have q3 := cutS_length mode (some at_) (some (at_ + 1)); have q4 := cutS_length mode none (some (at_ + 1)); have q5 := cutS_length mode (some at_) none; have q6 := odd_len hl.2 at_; (try simp only [len_app]); omega) <| i_sl <| v1 <| i_part <| i_op <| v2 <| i_c <| i_I0 <| i_partI <| i_noP <| i_slS (by first | assumption | omega) <| i_addT (by have q1 := cutS_length mode none (some at_); have q2 := cutS_length mode (some (at_ + 1)) none; have q3 := cutS_length mode (some at_) (some (at_ + 1)); have q4 := cutS_length mode none (some (at_ + 1)); have q5 := cutS_length mode (some at_) none; have q6 := odd_len hl.2 at_; (try simp only [len_app]); omega) <| ?_
          exact k _ _ (s1.trans (s2.trans s3)) g3 (by exact odd_not hmode hat_0 hat_1 (by unfold oddT; exact List.mem_of_getElem? (i := 2) rfl))
        ·
          refine i_next <| i_nx <| i_seq <| i_if <| i_test <| i_op <| v3 <| i_c <| i_I0 <| i_bl <| i_ite (fun c10 => ?_) (fun c10 => ?_)
          ·
            refine i_ret <| i_op <| v1 <| i_c <| i_addT (by show _ + 1 ≤ _; omega) <| ?_
            exact k _ _ (s1.trans (s2.trans s3)) g3 (by exact odd_not hmode hat_0 hat_1 (by unfold oddT; exact List.mem_of_getElem? (i := 3) rfl))
          ·
            refine i_next <| i_nx <| i_seq <| i_if <| i_test <| i_op <| v3 <| i_c <| i_I0 <| i_bl <| i_ite (fun c12 => ?_) (fun c12 => ?_)
            ·
              refine i_ret <| i_op <| i_c <| v1 <| i_addT (by show 1 + _ ≤ _; omega) <| ?_
              exact k _ _ (s1.trans (s2.trans s3)) g3 (by exact odd_not hmode hat_0 hat_1 (by unfold oddT; exact List.mem_of_getElem? (i := 4) rfl))
            ·
              refine i_next <| i_nx <| i_seq <| i_if <| i_test <| i_op <| v3 <| i_c <| i_I0 <| i_bl <| i_ite (fun c14 => ?_) (fun c14 => ?_)
              ·
                refine i_ret <| i_op <| i_sl <| v1 <| i_noP <| i_part <| i_op <| v2 <| i_c <| i_I0 <| i_partI <| i_slS (by first | assumption | omega) <| i_sl <| v1 <| i_part <| v2 <| i_partI <| i_noP <| i_slS (by first | assumption | omega) <| i_addT (by have q1 := cutS_length mode none (some at_); have q2 := cutS_length mode (some (at_ + 1)) none; have q3 := cutS_length mode (some at_) (some (at_ + 1)); have q4 := cutS_length mode none (some (at_ + 1)); have q5 := cutS_length mode (some at_) none; have q6 := odd_len hl.2 at_; (try simp only [len_app]); omega) <| ?_
                exact k _ _ (s1.trans (s2.trans s3)) g3 (by exact odd_not hmode hat_0 hat_1 (by unfold oddT; exact List.mem_of_getElem? (i := 5) rfl))
              ·
                refine i_next <| i_nx <| i_ret <| i_op <| i_lst <| i_cons <| i_c <| i_cons <| i_c <| i_cons <| i_c <| i_cons <| i_c <| i_cons <| i_c <| i_cons <| i_c <| i_cons <| i_c <| i_cons <| i_c <| i_nil <| i_kLst (of_decide_eq_true rfl) (fun p4 H4 z4 s4 f4 => ?_)
                refine i_call <| i_cons <| v0 <| i_cons <| i_c <| i_nil <| ⟨_, _, rfl, (same_src s4 g3), (by first | assumption | omega | rfl | exact Sz.zero | exact Sz.sm (by omega) (by omega) (by decide) | exact Sz.mono (by assumption) (by decide)), (by first | assumption | omega | rfl | exact Sz.zero | exact Sz.sm (by omega) (by omega) (by decide) | exact Sz.mono (by assumption) (by decide)), fun q H5 s5 g5 hq0 hq1 => ?_⟩
                refine i_ixL (SqL.of (s5 _ _ (stab_len (of_decide_eq_true rfl)) f4)) (at_getS (xs := words8) hq0 (by show q < 8; omega)) <| ?_
                exact k _ _ (s1.trans (s2.trans (s3.trans ((ext_of s4).trans s5)))) g5 (by exact words_not _ (getS_mem (xs := words8) hq0 (by show q < 8; omega)))

/-! law -/
def sp_law (K : PySem.W.Frag) : Sp := fun vs H Q _ => ∃ (scriptA : Addr) (script : List Int), vs = [V.ref scriptA] ∧ SqL K H scriptA (script.map V.int) ∧ (script.length ≤ 63) ∧ ∀  (H' : Hp), Q (V.bl true) H'
abbrev s_law : Stmt := top 24
theorem sc_law : FnScope ["script", "source", "k", "divisor", "numerator", "odd", "value", "mode"] ["script"] (defScope s_law) := ⟨rfl, rfl, rfl, by decide +kernel, rfl, by decide +kernel, by decide +kernel⟩
theorem vis_law : visB ["script", "source", "k", "divisor", "numerator", "odd", "value", "mode"] (defScope s_law) = true := by decide +kernel
theorem gl_law : glB ["_law_source", "_law_draw", "_law_divisor", "_law_numerator", "_law_odd_mode", "_law_refused", "_law_modes", "round_quotient", "_law_chosen", "range"] (defScope s_law) = true := by decide +kernel
theorem ok_law {P : Program} {w : World} {K : PySem.W.Frag} {mg : Str → Option Value} (T : Txt P w K mg) : ∃ fd : FuncData, (∀ (s : Shared) (v : Value), BindsTo s fd ⟨[v], []⟩ [("script", v)]) ∧ ∀ base : Heap, FnOk P w K mg base (L2N.CX P w) 5 (He.fAd K ("law", none)) fd ["script"] (sp_law K) := by
  obtain ⟨fd, F⟩ := T.d_law
  refine ⟨fd, fun s v => FunD.bindsA (ps := ["script"]) F (fun _ _ _ _ _ _ us hl => match us, hl with | [_], _ => rfl) s [v] rfl, fun base => ?_⟩
  have sc := sc_law; have vis := vis_law; have gls := gl_law
  refine F.ok sc (fun vs H Q E h => ?_) (fun cdv A outer s H0 vs Q E hr h => ?_)
  · obtain ⟨scriptA, script, rfl, _⟩ := h; rfl
  · obtain ⟨scriptA, script, rfl, a0, e0, k⟩ := h
    refine ⟨_, PSs.nox (pss_cons (ps_set (i := 1) sc.nd rfl (.inl rfl) (pcD (ok__law_source T) (hr.mono (by decide)) gls 0 T.g__law_source (pa_cons (pn vis 0) pa_nil))) (pss_cons (ps_for PassesOwn.never rfl (pi_range1 (gl_of gls (i := 9) rfl).1 T.b_range (pa_cons (pe_op op_add pe_int (pcD (ok__law_draw T) (hr.mono (by decide)) gls 1 T.g__law_draw (pa_cons (pn vis 1) (pa_cons pe_int pa_nil)))) pa_nil)) (pg_name (i := 2) sc.nd rfl (.inl rfl)) (pss_cons (ps_set (i := 3) sc.nd rfl (.inl rfl) (pcD (ok__law_divisor T) (hr.mono (by decide)) gls 2 T.g__law_divisor (pa_cons (pn vis 1) pa_nil))) (pss_cons (ps_set (i := 4) sc.nd rfl (.inl rfl) (pcD (ok__law_numerator T) (hr.mono (by decide)) gls 3 T.g__law_numerator (pa_cons (pn vis 1) (pa_cons (pn vis 3) pa_nil)))) (pss_cons (ps_set (i := 5) sc.nd rfl (.inl rfl) (pcD (ok__law_odd_mode T) (hr.mono (by decide)) gls 4 T.g__law_odd_mode (pa_cons (pn vis 1) pa_nil))) (pss_cons (ps_for PassesOwn.never rfl (pi_list (pe_lst (pa_cons (pn vis 4) (pa_cons (pe_op op_mul pe_int (pn vis 3)) (pa_cons pe_int pa_nil))))) (pg_name (i := 6) sc.nd rfl (.inl rfl)) (pss_one (ps_if (pt_not (pt_val (pcD (ok__law_refused T) (hr.mono (by decide)) gls 5 T.g__law_refused (pa_cons (pn vis 6) (pa_cons (pn vis 3) (pa_cons (pn vis 5) pa_nil)))))) pss_never pss_nil))) (pss_one (ps_for PassesOwn.never rfl (pi_list (pcD0 (ok__law_modes T) (hr.mono (by decide)) gls 6 T.g__law_modes)) (pg_name (i := 7) sc.nd rfl (.inl rfl)) (pss_one (ps_for PassesOwn.never rfl (pi_list (pe_lst (pa_cons (pn vis 4) (pa_cons (pe_op op_sub pe_int (pn vis 4)) (pa_cons (pe_op op_mul pe_int (pn vis 3)) (pa_cons pe_int pa_nil)))))) (pg_name (i := 6) sc.nd rfl (.inl rfl)) (pss_one (ps_if (pt_not (pt_val (pcD (ok__law_chosen T) (hr.mono (by decide)) gls 8 T.g__law_chosen (pa_cons (pn vis 6) (pa_cons (pn vis 3) (pa_cons (pn vis 7) (pa_cons (pcD (ok_round_quotient T) (hr.mono (by decide)) gls 7 T.g_round_quotient (pa_cons (pn vis 6) (pa_cons (pn vis 3) (pa_cons (pn vis 7) pa_nil)))) pa_nil))))))) pss_never pss_nil))))))))))) (pss_one (ps_ret pe_bl)))), ?_⟩
    refine i_start (σ' := [some (V.ref scriptA), none, none, none, none, none, none, none]) rfl ?_
    refine i_seq <| i_asg <| i_call <| i_cons <| v0 <| i_nil <| ⟨_, _, rfl, a0, (by first | assumption | omega | rfl | exact Sz.zero | exact Sz.sm (by omega) (by omega) (by decide) | exact Sz.mono (by assumption) (by decide)), fun sourceA H1 s1 f1_0 => ?_⟩
    refine n1 <| i_nx <| i_seq <| i_for <| i_for1 <| i_cons <| i_op <| i_c <| i_call <| i_cons <| v1 <| i_cons <| i_c <| i_nil <| ⟨_, _, rfl, f1_0, (by first | assumption | omega | rfl | exact Sz.zero | exact Sz.sm (by omega) (by omega) (by decide) | exact Sz.mono (by assumption) (by decide)), (by first | assumption | omega | rfl | exact Sz.zero | exact Sz.sm (by omega) (by omega) (by decide) | exact Sz.mono (by assumption) (by decide)), fun r2 H3 s3 g3 hr20 hr21 => ?_⟩
    refine i_I0 <| i_nil <| i_rng1 (fun i σ H' => ∃ (o_k : Option V) (o_divisor : Option V) (o_numerator : Option V) (o_odd : Option V) (o_value : Option V) (o_mode : Option V), σ = [some (V.ref scriptA), some (V.ref sourceA), o_k, o_divisor, o_numerator, o_odd, o_value, o_mode] ∧ Ext H3 H' ∧ IsSrc H' sourceA) (by omega) (by omega) ?_ ?_ ?_
    ·
      exact ⟨_, _, _, _, _, _, rfl, (Ext.refl _), g3⟩
    ·
      intro i
      rintro σ H4 hi ⟨o_k, o_divisor, o_numerator, o_odd, o_value, o_mode, rfl, s4, g4⟩
      refine n2 <| i_seq <| i_asg <| i_call <| i_cons <| v1 <| i_nil <| ⟨_, rfl, g4, fun divisor H5 s5 g5 hdivisor0 hdivisor1 => ?_⟩
      refine n3 <| i_nx <| i_seq <| i_asg <| i_call <| i_cons <| v1 <| i_cons <| v3 <| i_nil <| ⟨_, _, rfl, g5, (by first | assumption | omega | rfl | exact Sz.zero | exact Sz.sm (by omega) (by omega) (by decide) | exact Sz.mono (by assumption) (by decide)), (by first | assumption | omega | rfl | exact Sz.zero | exact Sz.sm (by omega) (by omega) (by decide) | exact Sz.mono (by assumption) (by decide)), fun numerator H6 s6 g6 hnumerator => ?_⟩
      refine n4 <| i_nx <| i_seq <| i_asg <| i_call <| i_cons <| v1 <| i_nil <| ⟨_, rfl, g6, fun odd H7 s7 g7 hodd => ?_⟩
      refine n5 <| i_nx <| i_seq <| i_for <| i_lt <| i_lst <| i_cons <| v4 <| i_cons <| i_op <| i_c <| v3 <| i_I (by first | exact .inl ⟨by decide, by decide⟩ | exact .inr ⟨by decide, by decide⟩) <| i_cons <| i_c <| i_nil <| i_kLst (of_decide_eq_true rfl) (fun p8 H8 z8 s8 f8 => ?_)
      refine i_forL (fun q σ H' => ∃ (o_value : Option V), σ = [some (V.ref scriptA), some (V.ref sourceA), some (V.int (0 + (i : Int))), some (V.int divisor), some (V.int numerator), some (V.str odd), o_value, o_mode] ∧ Same H8 H') (SqL.of f8) ?_ ?_ ?_ ?_
      ·
        exact ⟨_, rfl, (Same.refl _)⟩
      ·
        intro i σ' H'' _ hPv
        revert hPv
        rintro ⟨_, _, s9⟩
        exact (SqL.of (s9 _ _ f8))
      ·
        rintro q y σ H10 hy ⟨o_value, rfl, s10⟩
        match q, hy with
        | 0, hy =>
          have e9 := Option.some.inj hy
          subst e9
          refine n6 <| i_if <| i_not <| i_tB <| i_call <| i_cons <| v6 <| i_cons <| v3 <| i_cons <| v5 <| i_nil <| ⟨_, _, _, rfl, (by first | assumption | omega | rfl | exact Sz.zero | exact Sz.sm (by omega) (by omega) (by decide) | exact Sz.mono (by assumption) (by decide)), fun H12 s12 => ?_⟩
          refine i_bl <| i_iteNT <| i_next <| ?_
          exact ⟨_, rfl, (s10.trans s12)⟩
        | 1, hy =>
          have e9 := Option.some.inj hy
          subst e9
          refine n6 <| i_if <| i_not <| i_tB <| i_call <| i_cons <| v6 <| i_cons <| v3 <| i_cons <| v5 <| i_nil <| ⟨_, _, _, rfl, (by first | assumption | omega | rfl | exact Sz.zero | exact Sz.sm (by omega) (by omega) (by decide) | exact Sz.mono (by assumption) (by decide)), fun H14 s14 => ?_⟩
          refine i_bl <| i_iteNT <| i_next <| ?_
          exact ⟨_, rfl, (s10.trans s14)⟩
        | 2, hy =>
          have e9 := Option.some.inj hy
          subst e9
          refine n6 <| i_if <| i_not <| i_tB <| i_call <| i_cons <| v6 <| i_cons <| v3 <| i_cons <| v5 <| i_nil <| ⟨_, _, _, rfl, (by first | assumption | omega | rfl | exact Sz.zero | exact Sz.sm (by omega) (by omega) (by decide) | exact Sz.mono (by assumption) (by decide)), fun H16 s16 => ?_⟩
          refine i_bl <| i_iteNT <| i_next <| ?_
          exact ⟨_, rfl, (s10.trans s16)⟩
        | n9 + 3, hy => exact absurd hy (by simp)
      ·
        rintro σ H17 ⟨o_value, rfl, s17⟩
        refine i_nx <| i_for <| i_lt <| i_call <| i_nil <| ⟨rfl, fun msA ms H18 s18 f18_0 hms => ?_⟩
        refine i_forL (fun q σ H' => ∃ (o_value : Option V) (o_mode : Option V), σ = [some (V.ref scriptA), some (V.ref sourceA), some (V.int (0 + (i : Int))), some (V.int divisor), some (V.int numerator), some (V.str odd), o_value, o_mode] ∧ Same H18 H') (SqL.of f18_0) ?_ ?_ ?_ ?_
        ·
          exact ⟨_, _, rfl, (Same.refl _)⟩
        ·
          intro i σ' H'' _ hPv
          revert hPv
          rintro ⟨_, _, _, s19⟩
          exact (SqL.of (s19 _ _ f18_0))
        ·
          rintro q y σ H20 hy ⟨o_value, o_mode, rfl, s20⟩
          obtain ⟨mode, hm0, rfl⟩ := at_str hy
          have hm : mode ∈ modes9 := by rw [hms] at hm0; exact hm0
          refine n7 <| i_for <| i_lt <| i_lst <| i_cons <| v4 <| i_cons <| i_op <| i_c <| v4 <| i_I0 <| i_cons <| i_op <| i_c <| v3 <| i_I (by first | exact .inl ⟨by decide, by decide⟩ | exact .inr ⟨by decide, by decide⟩) <| i_cons <| i_c <| i_nil <| i_kLst (of_decide_eq_true rfl) (fun p21 H21 z21 s21 f21 => ?_)
          refine i_forL (fun qq σ H' => ∃ (o_value : Option V), σ = [some (V.ref scriptA), some (V.ref sourceA), some (V.int (0 + (i : Int))), some (V.int divisor), some (V.int numerator), some (V.str odd), o_value, some (V.str mode)] ∧ Same H21 H') (SqL.of f21) ?_ ?_ ?_ ?_
          ·
            exact ⟨_, rfl, (Same.refl _)⟩
          ·
            intro i σ' H'' _ hPv
            revert hPv
            rintro ⟨_, _, s22⟩
            exact (SqL.of (s22 _ _ f21))
          ·
            rintro qq y σ H23 hy ⟨o_value, rfl, s23⟩
            match qq, hy with
            | 0, hy =>
              have e9 := Option.some.inj hy
              subst e9
              refine n6 <| i_if <| i_not <| i_tB <| i_call <| i_cons <| v6 <| i_cons <| v3 <| i_cons <| v7 <| i_cons <| i_call <| i_cons <| v6 <| i_cons <| v3 <| i_cons <| v7 <| i_nil <| ⟨_, _, _, rfl, (by omega), (by exact Sz.mono (n := 160) (by assumption) (by decide)), (by exact hm), fun w0 H24 s24 hw0 => ?_⟩
              refine i_nil <| ⟨_, _, _, _, rfl, (by first | assumption | omega | rfl | exact Sz.zero | exact Sz.sm (by omega) (by omega) (by decide) | exact Sz.mono (by assumption) (by decide)), (by first | assumption | omega | rfl | exact Sz.zero | exact Sz.sm (by omega) (by omega) (by decide) | exact Sz.mono (by assumption) (by decide)), (by first | exact Sz.mono (n := 400) (by assumption) (by decide) | exact Sz.zero | exact Sz.mono (n := 401) (Sz.sub (a := 400) (i := 0) (j := numerator) Sz.zero (by assumption)) (by decide) | exact Sz.mono (n := 170) (Sz.mul (a := 10) (b := 160) (i := 3) (j := divisor) (Sz.sm (by decide) (by decide) (by decide)) (by assumption)) (by decide)), (by exact Sz.mono (n := 160) (by assumption) (by decide)), (by first | assumption | omega | rfl | exact Sz.zero | exact Sz.sm (by omega) (by omega) (by decide) | exact Sz.mono (by assumption) (by decide)), (by first | (rw [hw0]; exact (rq_sz (k := 401) mode (by omega) (Sz.mono (n := 400) (by assumption) (by decide))).mono (by decide)) | (rw [hw1]; exact (rq_sz (k := 401) mode (by omega) (Sz.sub (a := 400) Sz.zero (by assumption))).mono (by decide)) | (rw [hw2]; exact (rq_sz (k := 170) mode (by omega) (Sz.mul (a := 10) (b := 160) (Sz.sm (by decide) (by decide) (by decide)) (by assumption))).mono (by decide)) | (rw [hw3]; exact (rq_sz (k := 10) mode (by omega) Sz.zero).mono (by decide))), fun H26 s26 => ?_⟩
              refine i_bl <| i_iteNT <| i_next <| ?_
              exact ⟨_, rfl, (s23.trans (s24.trans s26))⟩
            | 1, hy =>
              have e9 := Option.some.inj hy
              subst e9
              refine n6 <| i_if <| i_not <| i_tB <| i_call <| i_cons <| v6 <| i_cons <| v3 <| i_cons <| v7 <| i_cons <| i_call <| i_cons <| v6 <| i_cons <| v3 <| i_cons <| v7 <| i_nil <| ⟨_, _, _, rfl, (by omega), (by exact Sz.mono (n := 160) (by assumption) (by decide)), (by exact hm), fun w1 H27 s27 hw1 => ?_⟩
              refine i_nil <| ⟨_, _, _, _, rfl, (by first | assumption | omega | rfl | exact Sz.zero | exact Sz.sm (by omega) (by omega) (by decide) | exact Sz.mono (by assumption) (by decide)), (by first | assumption | omega | rfl | exact Sz.zero | exact Sz.sm (by omega) (by omega) (by decide) | exact Sz.mono (by assumption) (by decide)), (by first | exact Sz.mono (n := 400) (by assumption) (by decide) | exact Sz.zero | exact Sz.mono (n := 401) (Sz.sub (a := 400) (i := 0) (j := numerator) Sz.zero (by assumption)) (by decide) | exact Sz.mono (n := 170) (Sz.mul (a := 10) (b := 160) (i := 3) (j := divisor) (Sz.sm (by decide) (by decide) (by decide)) (by assumption)) (by decide)), (by exact Sz.mono (n := 160) (by assumption) (by decide)), (by first | assumption | omega | rfl | exact Sz.zero | exact Sz.sm (by omega) (by omega) (by decide) | exact Sz.mono (by assumption) (by decide)), (by first | (rw [hw0]; exact (rq_sz (k := 401) mode (by omega) (Sz.mono (n := 400) (by assumption) (by decide))).mono (by decide)) | (rw [hw1]; exact (rq_sz (k := 401) mode (by omega) (Sz.sub (a := 400) Sz.zero (by assumption))).mono (by decide)) | (rw [hw2]; exact (rq_sz (k := 170) mode (by omega) (Sz.mul (a := 10) (b := 160) (Sz.sm (by decide) (by decide) (by decide)) (by assumption))).mono (by decide)) | (rw [hw3]; exact (rq_sz (k := 10) mode (by omega) Sz.zero).mono (by decide))), fun H29 s29 => ?_⟩
              refine i_bl <| i_iteNT <| i_next <| ?_
              exact ⟨_, rfl, (s23.trans (s27.trans s29))⟩
            | 2, hy =>
              have e9 := Option.some.inj hy
              subst e9
              refine n6 <| i_if <| i_not <| i_tB <| i_call <| i_cons <| v6 <| i_cons <| v3 <| i_cons <| v7 <| i_cons <| i_call <| i_cons <| v6 <| i_cons <| v3 <| i_cons <| v7 <| i_nil <| ⟨_, _, _, rfl, (by omega), (by exact Sz.mono (n := 160) (by assumption) (by decide)), (by exact hm), fun w2 H30 s30 hw2 => ?_⟩
              refine i_nil <| ⟨_, _, _, _, rfl, (by first | assumption | omega | rfl | exact Sz.zero | exact Sz.sm (by omega) (by omega) (by decide) | exact Sz.mono (by assumption) (by decide)), (by first | assumption | omega | rfl | exact Sz.zero | exact Sz.sm (by omega) (by omega) (by decide) | exact Sz.mono (by assumption) (by decide)), (by first | exact Sz.mono (n := 400) (by assumption) (by decide) | exact Sz.zero | exact Sz.mono (n := 401) (Sz.sub (a := 400) (i := 0) (j := numerator) Sz.zero (by assumption)) (by decide) | exact Sz.mono (n := 170) (Sz.mul (a := 10) (b := 160) (i := 3) (j := divisor) (Sz.sm (by decide) (by decide) (by decide)) (by assumption)) (by decide)), (by exact Sz.mono (n := 160) (by assumption) (by decide)), (by first | assumption | omega | rfl | exact Sz.zero | exact Sz.sm (by omega) (by omega) (by decide) | exact Sz.mono (by assumption) (by decide)), (by first | (rw [hw0]; exact (rq_sz (k := 401) mode (by omega) (Sz.mono (n := 400) (by assumption) (by decide))).mono (by decide)) | (rw [hw1]; exact (rq_sz (k := 401) mode (by omega) (Sz.sub (a := 400) Sz.zero (by assumption))).mono (by decide)) | (rw [hw2]; exact (rq_sz (k := 170) mode (by omega) (Sz.mul (a := 10) (b := 160) (Sz.sm (by decide) (by decide) (by decide)) (by assumption))).mono (by decide)) | (rw [hw3]; exact (rq_sz (k := 10) mode (by omega) Sz.zero).mono (by decide))), fun H32 s32 => ?_⟩
              refine i_bl <| i_iteNT <| i_next <| ?_
              exact ⟨_, rfl, (s23.trans (s30.trans s32))⟩
            | 3, hy =>
              have e9 := Option.some.inj hy
              subst e9
              refine n6 <| i_if <| i_not <| i_tB <| i_call <| i_cons <| v6 <| i_cons <| v3 <| i_cons <| v7 <| i_cons <| i_call <| i_cons <| v6 <| i_cons <| v3 <| i_cons <| v7 <| i_nil <| ⟨_, _, _, rfl, (by omega), (by exact Sz.mono (n := 160) (by assumption) (by decide)), (by exact hm), fun w3 H33 s33 hw3 => ?_⟩
              refine i_nil <| ⟨_, _, _, _, rfl, (by first | assumption | omega | rfl | exact Sz.zero | exact Sz.sm (by omega) (by omega) (by decide) | exact Sz.mono (by assumption) (by decide)), (by first | assumption | omega | rfl | exact Sz.zero | exact Sz.sm (by omega) (by omega) (by decide) | exact Sz.mono (by assumption) (by decide)), (by first | exact Sz.mono (n := 400) (by assumption) (by decide) | exact Sz.zero | exact Sz.mono (n := 401) (Sz.sub (a := 400) (i := 0) (j := numerator) Sz.zero (by assumption)) (by decide) | exact Sz.mono (n := 170) (Sz.mul (a := 10) (b := 160) (i := 3) (j := divisor) (Sz.sm (by decide) (by decide) (by decide)) (by assumption)) (by decide)), (by exact Sz.mono (n := 160) (by assumption) (by decide)), (by first | assumption | omega | rfl | exact Sz.zero | exact Sz.sm (by omega) (by omega) (by decide) | exact Sz.mono (by assumption) (by decide)), (by first | (rw [hw0]; exact (rq_sz (k := 401) mode (by omega) (Sz.mono (n := 400) (by assumption) (by decide))).mono (by decide)) | (rw [hw1]; exact (rq_sz (k := 401) mode (by omega) (Sz.sub (a := 400) Sz.zero (by assumption))).mono (by decide)) | (rw [hw2]; exact (rq_sz (k := 170) mode (by omega) (Sz.mul (a := 10) (b := 160) (Sz.sm (by decide) (by decide) (by decide)) (by assumption))).mono (by decide)) | (rw [hw3]; exact (rq_sz (k := 10) mode (by omega) Sz.zero).mono (by decide))), fun H35 s35 => ?_⟩
              refine i_bl <| i_iteNT <| i_next <| ?_
              exact ⟨_, rfl, (s23.trans (s33.trans s35))⟩
            | n9 + 4, hy => exact absurd hy (by simp)
          ·
            rintro σ H36 ⟨o_value, rfl, s36⟩
            exact ⟨_, _, rfl, (s20.trans (s21.trans s36))⟩
        ·
          rintro σ H37 ⟨o_value, o_mode, rfl, s37⟩
          exact ⟨_, _, _, _, _, _, rfl, (s4.trans (s5.trans (s6.trans (s7.trans ((ext_of s8).trans ((ext_of s17).trans ((ext_of s18).trans (ext_of s37)))))))), (same_src (s8.trans (s17.trans (s18.trans s37))) g7)⟩
    ·
      rintro σ H38 ⟨o_k, o_divisor, o_numerator, o_odd, o_value, o_mode, rfl, s38, g38⟩
      refine i_nx <| i_ret <| i_c <| ?_
      exact k _
/-! the head -/
def fn0 : List He.DefD := [⟨("check_mode", none), "check_mode", "check_mode", defArgs (top 7), defBody (top 7), defScope (top 7), [], []⟩,
  ⟨("goes_up", none), "goes_up", "goes_up", defArgs (top 8), defBody (top 8), defScope (top 8), [], []⟩,
  ⟨("tie_goes_up", none), "tie_goes_up", "tie_goes_up", defArgs (top 9), defBody (top 9), defScope (top 9), [], []⟩,
  ⟨("round_quotient", none), "round_quotient", "round_quotient", defArgs (top 10), defBody (top 10), defScope (top 10), [], []⟩,
  ⟨("_law_draw", none), "_law_draw", "_law_draw", defArgs (top 13), defBody (top 13), defScope (top 13), [], []⟩,
  ⟨("_law_modes", none), "_law_modes", "_law_modes", defArgs (top 14), defBody (top 14), defScope (top 14), [], []⟩,
  ⟨("_law_mode", none), "_law_mode", "_law_mode", defArgs (top 15), defBody (top 15), defScope (top 15), [], []⟩,
  ⟨("_law_source", none), "_law_source", "_law_source", defArgs (top 12), defBody (top 12), defScope (top 12), [], []⟩,
  ⟨("_law_power", none), "_law_power", "_law_power", defArgs (top 16), defBody (top 16), defScope (top 16), [], []⟩,
  ⟨("_law_equal", none), "_law_equal", "_law_equal", defArgs (top 17), defBody (top 17), defScope (top 17), [], []⟩,
  ⟨("_law_big", none), "_law_big", "_law_big", defArgs (top 18), defBody (top 18), defScope (top 18), [], []⟩,
  ⟨("_law_divisor", none), "_law_divisor", "_law_divisor", defArgs (top 19), defBody (top 19), defScope (top 19), [], []⟩]
def fn1 : List He.DefD := [⟨("_law_numerator", none), "_law_numerator", "_law_numerator", defArgs (top 20), defBody (top 20), defScope (top 20), [], []⟩,
  ⟨("_law_chosen", none), "_law_chosen", "_law_chosen", defArgs (top 22), defBody (top 22), defScope (top 22), [], []⟩,
  ⟨("_law_refused", none), "_law_refused", "_law_refused", defArgs (top 23), defBody (top 23), defScope (top 23), [], []⟩,
  ⟨("_law_odd_mode", none), "_law_odd_mode", "_law_odd_mode", defArgs (top 21), defBody (top 21), defScope (top 21), [], []⟩,
  ⟨("law", none), "law", "law", defArgs (top 24), defBody (top 24), defScope (top 24), [], []⟩]
def fn : List He.DefD := fn0 ++ fn1
def fa0 : List He.Fa := [.glo "BadBase", .glo "BadMode", .glo "LostError", .glo "MODES", .glo "NEAREST", .free "ValueError", .glo "_law_big", .glo "_law_chosen", .glo "_law_divisor", .glo "_law_draw", .glo "_law_equal", .glo "_law_mode", .glo "_law_modes", .glo "_law_numerator", .glo "_law_odd_mode"]
def fa1 : List He.Fa := [.glo "_law_power", .glo "_law_refused", .glo "_law_source", .free "abs", .free "bool", .glo "check_mode", .free "divmod", .glo "goes_up", .free "int", .free "isinstance", .glo "law", .free "len", .free "range", .glo "round_quotient", .free "str"]
def fa2 : List He.Fa := [.free "super", .glo "tie_goes_up", .noat "BadMode" "mode"]
def fa : List He.Fa := fa0 ++ fa1 ++ fa2
def exl : List (PySem.W.Frag → Bool) := [fun K => He.tupB K "MODES" [.str "nearest-even", .str "nearest-out", .str "nearest-in", .str "nearest-up", .str "nearest-down", .str "inward", .str "outward", .str "upward", .str "downward"],
  fun K => He.tupB K "NEAREST" [.str "nearest-even", .str "nearest-out", .str "nearest-in", .str "nearest-up", .str "nearest-down"],
  fun K => decide (PySem.W.exmOne K (.ref (He.ga K "BadMode")) (.ref (He.ga K "LostError")) = some true),
  fun K => excB K (He.ga K "BadMode"),
  fun K => decide (PySem.W.kitOne K (.ref (He.ga K "BadMode")) (.ref (He.ga K "BadMode")) = some true),
  fun K => decide (PySem.W.kitOne K (.ref (He.ga K "BadMode")) (.type "ValueError") = some true),
  fun K => decide (PySem.W.kitOne K (.ref (He.ga K "BadMode")) (.ref (He.ga K "BadBase")) = some false),
  fun K => excB K (He.ga K "BadMode")]
def ex (K : PySem.W.Frag) : Bool := exl.all fun e => e K
def ts : List He.Tab := []
def es : List DefE := [⟨"BadMode", "BadMode.__init__", defArgs st_BadMode, defBody st_BadMode, defScope st_BadMode, "self", ff_BadMode⟩]
abbrev R : PySem.W.OpenRow := PySem.W.OpenLaw.row PySem.Challenge.rw_lostinrows_k02_round_quotient
def gs : List DefG := []
theorem txt_of {w : World} {K : PySem.W.Frag} {h : Heap} {mg : Str → Option Value} (X : K.In h) (G : h.Ns mainGlobals mg) (c : SaysW R.prog.main.file fa fn ts ex gs es w K) : Txt R.prog w K mg where
  d_check_mode := c.t.d.def_ 0 rfl
  d_goes_up := c.t.d.def_ 1 rfl
  d_tie_goes_up := c.t.d.def_ 2 rfl
  d_round_quotient := c.t.d.def_ 3 rfl
  d__law_draw := c.t.d.def_ 4 rfl
  d__law_modes := c.t.d.def_ 5 rfl
  d__law_mode := c.t.d.def_ 6 rfl
  d__law_source := c.t.d.def_ 7 rfl
  d__law_power := c.t.d.def_ 8 rfl
  d__law_equal := c.t.d.def_ 9 rfl
  d__law_big := c.t.d.def_ 10 rfl
  d__law_divisor := c.t.d.def_ 11 rfl
  d__law_numerator := c.t.d.def_ 12 rfl
  d__law_chosen := c.t.d.def_ 13 rfl
  d__law_refused := c.t.d.def_ 14 rfl
  d__law_odd_mode := c.t.d.def_ 15 rfl
  d_law := c.t.d.def_ 16 rfl
  g_BadBase := He.glo_ok X G (c.t.d.fact 0 rfl)
  g_BadMode := He.glo_ok X G (c.t.d.fact 1 rfl)
  g_LostError := He.glo_ok X G (c.t.d.fact 2 rfl)
  g_MODES := He.glo_ok X G (c.t.d.fact 3 rfl)
  t_MODES := fun H => He.tupB_ok (vs := [.str "nearest-even", .str "nearest-out", .str "nearest-in", .str "nearest-up", .str "nearest-down", .str "inward", .str "outward", .str "upward", .str "downward"]) (ex_at c.more 0 rfl) H
  g_NEAREST := He.glo_ok X G (c.t.d.fact 4 rfl)
  t_NEAREST := fun H => He.tupB_ok (vs := [.str "nearest-even", .str "nearest-out", .str "nearest-in", .str "nearest-up", .str "nearest-down"]) (ex_at c.more 1 rfl) H
  b_ValueError := He.free_ok X G (c.t.d.fact 5 rfl)
  g__law_big := He.glo_ok X G (c.t.d.fact 6 rfl)
  g__law_chosen := He.glo_ok X G (c.t.d.fact 7 rfl)
  g__law_divisor := He.glo_ok X G (c.t.d.fact 8 rfl)
  g__law_draw := He.glo_ok X G (c.t.d.fact 9 rfl)
  g__law_equal := He.glo_ok X G (c.t.d.fact 10 rfl)
  g__law_mode := He.glo_ok X G (c.t.d.fact 11 rfl)
  g__law_modes := He.glo_ok X G (c.t.d.fact 12 rfl)
  g__law_numerator := He.glo_ok X G (c.t.d.fact 13 rfl)
  g__law_odd_mode := He.glo_ok X G (c.t.d.fact 14 rfl)
  g__law_power := He.glo_ok X G (c.t.d.fact 15 rfl)
  g__law_refused := He.glo_ok X G (c.t.d.fact 16 rfl)
  g__law_source := He.glo_ok X G (c.t.d.fact 17 rfl)
  b_abs := He.free_ok X G (c.t.d.fact 18 rfl)
  b_bool := He.free_ok X G (c.t.d.fact 19 rfl)
  g_check_mode := He.glo_ok X G (c.t.d.fact 20 rfl)
  b_divmod := He.free_ok X G (c.t.d.fact 21 rfl)
  g_goes_up := He.glo_ok X G (c.t.d.fact 22 rfl)
  b_int := He.free_ok X G (c.t.d.fact 23 rfl)
  b_isinstance := He.free_ok X G (c.t.d.fact 24 rfl)
  g_law := He.glo_ok X G (c.t.d.fact 25 rfl)
  b_len := He.free_ok X G (c.t.d.fact 26 rfl)
  b_range := He.free_ok X G (c.t.d.fact 27 rfl)
  g_round_quotient := He.glo_ok X G (c.t.d.fact 28 rfl)
  b_str := He.free_ok X G (c.t.d.fact 29 rfl)
  b_super := He.free_ok X G (c.t.d.fact 30 rfl)
  g_tie_goes_up := He.glo_ok X G (c.t.d.fact 31 rfl)
  sup_BadMode := supT_of (d := ⟨"BadMode", "BadMode.__init__", defArgs st_BadMode, defBody st_BadMode, defScope st_BadMode, "self", ff_BadMode⟩) (c.de 0 _ rfl).1 (c.de 0 _ rfl).2 (by kernel_rfl)
  exm_BadMode_LostError := of_decide_eq_true (ex_at c.more 2 rfl)
  excC_BadMode := excB_ok (ex_at c.more 3 rfl)
  ekit_BadMode_BadMode := of_decide_eq_true (ex_at c.more 4 rfl)
  ekit_BadMode_ValueError := of_decide_eq_true (ex_at c.more 5 rfl)
  ekit_BadMode_BadBase := of_decide_eq_true (ex_at c.more 6 rfl)
  xfC_BadMode := excX (excB_ok (ex_at c.more 7 rfl))
  na_BadMode_mode := He.noat_ok (c.t.d.fact 32 rfl)
def lo0 : List PySem.Str := ["LostError", "BadBase", "BadMode", "MODES", "NEAREST", "check_mode", "goes_up", "tie_goes_up", "round_quotient", "_law_source", "_law_draw", "_law_modes", "_law_mode", "_law_power", "_law_equal"]
def lo1 : List PySem.Str := ["_law_big", "_law_divisor", "_law_numerator", "_law_odd_mode", "_law_chosen", "_law_refused"]
def lo : List PySem.Str := lo0 ++ lo1
abbrev hk : PySem.W.Hook := hookW 5 R.prog.main.file fa fn ts ex gs es
def ob (s : PySem.W.SharedT) : AlW := obsW R.prog.main.file fa fn ts ex gs es 5 (HandSHeadRun.getT s)
theorem ob_eq (s : PySem.W.SharedT) : ob s = hk.obs s.abs := obsW_eq (HandSHeadRun.getT_eq s)
theorem run (w : World) : HandSHeadRun.RunEq R (PySem.W.view R.prog [24]) hk ob 3000 lo w := by
  intro os; kernel_rfl
end My
open PySem PySem.W PySem.Calls PyProof.Rows
set_option maxHeartbeats 0 in
theorem PySem.Challenge.cw_lostinrows_k02_round_quotient_holds : PySem.Challenge.rw_lostinrows_k02_round_quotient.Holds := by
  w_on; o_law
  refine HandSHeadRun.head_any (r := OpenLaw.row PySem.Challenge.rw_lostinrows_k02_round_quotient) (q := view (OpenLaw.row PySem.Challenge.rw_lostinrows_k02_round_quotient).prog [24]) (H := My.hk) (ob := My.ob) (M := 3000) (loose := My.lo) (d := HandSHeadRun.topDef (OpenLaw.row PySem.Challenge.rw_lostinrows_k02_round_quotient).prog 24) (kwd := []) My.ob_eq
    (by kernel_rfl) (fun s => by kernel_rfl) My.run (by kernel_rfl) (by kernel_rfl) (by kernel_rfl) (by rfl) (by first | assumption | decide +kernel) (by decide +kernel) ⟨rfl, rfl, rfl, rfl, rfl, by decide +kernel⟩ ?hw ?hc
  case hw => w_witness2
  case hc =>
    refine L2.walk_ofE (l := PySem.Challenge.rw_lostinrows_k02_round_quotient) (n := 63) (k := 5) (x := "script") (CX := L2.CX0) rfl (by decide) (by kernel_rfl) ⟨rfl, by decide, by decide⟩ ?F (fun _ _ _ _ z => z)
    intro w mg fa h Y G hmg0
    obtain ⟨K, KX, c⟩ := Y
    have hmg : mg ("law" : PySem.Str) = some (.ref fa) := by
      have e : (HandSHeadRun.topDef (OpenLaw.row PySem.Challenge.rw_lostinrows_k02_round_quotient).prog 24).name = ("law" : PySem.Str) := by kernel_rfl
      rw [← e]
      exact hmg0
    have T := My.txt_of KX G c
    have e := hmg.symm.trans T.g_law
    cases e
    obtain ⟨fd, hb, hF⟩ := My.ok_law (P := (PySem.Challenge.rw_lostinrows_k02_round_quotient).prog) T
    exact ⟨K, fd, My.sp_law K, KX, hb, fun H a ns hl _ hS => ⟨a, ns, rfl, hS, hl, fun _ => rfl⟩, fun base _ _ => Z.fn0 (hF base) fun _ _ _ _ z => z⟩

