import PyProof.Rows.All
import Wide.All
import OpenK.AllK
import Wide.FinOn
import HandS.ForMost
import HandS.Exc
import HandS.WordsExc
import HandS.Defaults
import HandS.Wide
import HandS.WideBits
import HandS.IsInst
import HandS.Codes
import HandS.Property
import HandS.RevRange
import HandS.More
import HandS.Head0
import HandS.Head1
import HandS.Head2
import HandS.HeadEnd
import HandS.HeadHook1
import HandS.HeadHook2
import HandS.HeadHook3
import HandS.HeadHook4
import PySem.Challenge.RW_lostinrows_k03_whole_mirrored_rounding
set_option Elab.async false
set_option linter.all false
set_option maxRecDepth 100000
set_option maxHeartbeats 4000000
/-! base layer: what stays between two heaps, short steps for readings, defs by their places -/
namespace Z
open PySem PySem.Spec PyProof.Rows L2

/-! ### heaps -/
/-- the shape of a law's source: four ints and the script's copy; such a list may change, all else stays -/
def srcL : List V → Prop
  | [.int _, .int _, .int _, .int _, .ref _] => True
  | _ => False
def stable : HO → Prop
  | .lst xs => ¬ srcL xs
  | _ => True
def Ext (H H' : Hp) : Prop := ∀ b o, stable o → H b = some o → H' b = some o
theorem Ext.refl (H : Hp) : Ext H H := fun _ _ _ h => h
theorem Ext.trans {H H1 H2 : Hp} (a : Ext H H1) (b : Ext H1 H2) : Ext H H2 := fun c o s h => b c o s (a c o s h)
theorem ext_of {H H1 : Hp} (a : Same H H1) : Ext H H1 := fun c o _ h => a c o h
theorem same_new {H : Hp} {p : Addr} {o : HO} (h : H p = none) : Same H (upd H p o) := fun b u e => by
  rw [upd_ne (ne_of_none e h)]; exact e
theorem stab_len {xs : List V} (h : xs.length ≠ 5) : stable (.lst xs) := fun s => by
  unfold srcL at s
  split at s
  · exact h rfl
  · exact s
theorem stab_int (ns : List Int) : stable (.lst (ns.map V.int)) := fun s => by
  unfold srcL at s
  split at s
  · rename_i e
    match ns, e with
    | [a, b, c, d, f], e => simp at e
  · exact s
theorem stab_str (ns : List Str) : stable (.lst (ns.map V.str)) := fun s => by
  unfold srcL at s
  split at s
  · rename_i e
    match ns, e with
    | a :: l, e => simp at e
  · exact s
theorem stab_ref (ns : List Addr) : stable (.lst (ns.map V.ref)) := fun s => by
  unfold srcL at s
  split at s
  · rename_i e
    match ns, e with
    | a :: l, e => simp at e
  · exact s
theorem ext_sqL {K : PySem.W.Frag} {H H' : Hp} {a : Addr} {xs : List V} (hs : stable (.lst xs)) (e : Ext H H') (h : SqL K H a xs) : SqL K H' a xs := by
  rcases h with (h | ⟨o, h⟩) | h
  · exact .inl (.inl (e _ _ hs h))
  · exact .inl (.inr ⟨o, e _ _ trivial h⟩)
  · exact .inr h
theorem ext_sqT {K : PySem.W.Frag} {H H' : Hp} {a : Addr} {xs : List V} (e : Ext H H') (h : SqT K H a xs) : SqT K H' a xs := by
  rcases h with (h | ⟨o, h⟩) | h
  · exact .inl (.inl (e _ _ trivial h))
  · exact .inl (.inr ⟨o, e _ _ trivial h⟩)
  · exact .inr h
theorem same_sqT {K : PySem.W.Frag} {H H' : Hp} {a : Addr} {xs : List V} (e : Same H H') (h : SqT K H a xs) : SqT K H' a xs := ext_sqT (ext_of e) h

/-! ### the law's source -/
/-- at a: a source, its place not below zero -/
def IsSrc (H : Hp) (a : Addr) : Prop := ∃ (i x y z : Int) (c : Addr) (ns : List Int), H a = some (.lst [.int i, .int x, .int y, .int z, .ref c]) ∧ H c = some (.lst (ns.map V.int)) ∧ 0 ≤ i
theorem same_src {H H' : Hp} {a : Addr} (e : Same H H') (h : IsSrc H a) : IsSrc H' a := by
  obtain ⟨i, x, y, z, c, ns, h1, h2, h3⟩ := h
  exact ⟨i, x, y, z, c, ns, e _ _ h1, e _ _ h2, h3⟩

/-! ### sizes -/
def Sz (n : Nat) (i : Int) : Prop := i.natAbs < 2 ^ n
theorem Sz.mono {n m : Nat} {i : Int} (h : Sz n i) (l : n ≤ m) : Sz m i := Nat.lt_of_lt_of_le h (Nat.pow_le_pow_right (by decide) l)
theorem Sz.mul {a b : Nat} {i j : Int} (h : Sz a i) (g : Sz b j) : Sz (a + b) (i * j) := wide_lt h g
theorem Sz.add {a : Nat} {i j : Int} (h : Sz a i) (g : Sz a j) : Sz (a + 1) (i + j) := by
  unfold Sz at *; rw [Nat.pow_succ]; omega
theorem Sz.sub {a : Nat} {i j : Int} (h : Sz a i) (g : Sz a j) : Sz (a + 1) (i - j) := by
  unfold Sz at *; rw [Nat.pow_succ]; omega
theorem Sz.neg {a : Nat} {i : Int} (h : Sz a i) : Sz a (-i) := by unfold Sz at *; omega
theorem Sz.le {a : Nat} {i j : Int} (h : Sz a j) (l : i.natAbs ≤ j.natAbs) : Sz a i := Nat.lt_of_le_of_lt l h
theorem Sz.pow {a : Nat} {i : Int} (h : Sz a i) : ∀ n : Nat, Sz (a * n + 1) (i ^ n)
  | 0 => by show (i ^ 0).natAbs < _; simp
  | n + 1 => by
    have q := (Sz.pow h n).mul h
    rw [Int.pow_succ]
    exact q.mono (by rw [Nat.mul_succ]; omega)
theorem mulx {a b : Nat} {i j : Int} (h : Sz a i) (g : Sz b j) (l : a + b ≤ 134217728 := by decide) : CMulX i j := mulx_ok h g l
theorem divw {b : Nat} {i j : Int} (h : 0 < j) (g : Sz b j) (l0 : 0 < b := by decide) (l : b ≤ 9000 := by decide) : CDivW i j := wide_div h g l0 l
theorem divp {b : Nat} {i j : Int} (h : 0 < j) (g : Sz b j) (l0 : 0 < b := by decide) (l : b ≤ 9000 := by decide) : CDivP i j := ⟨h, PyProof.noPylong_of_log2 (wide_div (i := i) h g l0 l).2⟩

/-! ### names of a def -/
def okName (x : Str) : Bool := !(x == ("__debug__" : Str)) && !(x == ("__classdict__" : Str)) && !(x == ("__name__" : Str))
def visB (N : List Str) (sc : Scope) : Bool := N.all fun x => okName x && (match sc.names.lookup x with
  | some .local => true
  | some .cell => true
  | some .free => true
  | _ => false)
def glB (G : List Str) (sc : Scope) : Bool := G.all fun x => okName x && (match sc.names.lookup x with
  | some .globalImplicit => true
  | _ => false)
theorem okName_of {x : Str} (h : okName x = true) : (x == ("__debug__" : Str)) = false ∧ (x == ("__classdict__" : Str)) = false ∧ x ≠ "__name__" := by
  unfold okName at h
  simp only [Bool.and_eq_true, Bool.not_eq_true'] at h
  exact ⟨h.1.1, h.1.2, by simpa using h.2⟩
theorem vis_of {N : List Str} {sc : Scope} (h : visB N sc = true) {i : Nat} {x : Str} (hN : N[i]? = some x) : Vis sc x ∧ (x == ("__debug__" : Str)) = false ∧ (x == ("__classdict__" : Str)) = false := by
  have q := List.all_eq_true.mp h x (List.mem_of_getElem? hN)
  simp only [Bool.and_eq_true] at q
  obtain ⟨q1, q2⟩ := q
  refine ⟨?_, (okName_of q1).1, (okName_of q1).2.1⟩
  revert q2
  cases e : sc.names.lookup x with
  | none => intro q2; cases q2
  | some k => cases k <;> first | (intro _; exact .inl e) | (intro _; exact .inr (.inl e)) | (intro _; exact .inr (.inr e)) | (intro q2; cases q2)
theorem gl_of {G : List Str} {sc : Scope} (h : glB G sc = true) {i : Nat} {x : Str} (hG : G[i]? = some x) : sc.names.lookup x = some .globalImplicit ∧ (x == ("__debug__" : Str)) = false ∧ x ≠ "__name__" := by
  have q := List.all_eq_true.mp h x (List.mem_of_getElem? hG)
  simp only [Bool.and_eq_true] at q
  obtain ⟨q1, q2⟩ := q
  refine ⟨?_, (okName_of q1).1, (okName_of q1).2.2⟩
  revert q2
  cases e : sc.names.lookup x with
  | none => intro q2; cases q2
  | some k => cases k <;> first | (intro _; rfl) | (intro q2; cases q2)
section
variable {X : Cx} {x : Str} {pos p : Pos} {G : List Str}
theorem pn (hv : visB X.N X.env.scope = true) (i : Nat) (hN : X.N[i]? = some x := by rfl) : PE X (.Name x pos) (tVar i) :=
  let q := vis_of hv hN
  pe_var hN q.1 q.2.1 q.2.2
theorem pgi {i : Int} (hg : glB G X.env.scope = true) (n : Nat) (hm : ∃ t, X.mg x = some (.int i t)) (hx : G[n]? = some x := by rfl) : PE X (.Name x pos) (tC (.int i)) := by
  obtain ⟨t, e⟩ := hm
  exact pe_glob (gl_of hg hx).1 e ⟨t, rfl⟩ (gl_of hg hx).2.1
theorem pgs {z : Str} (hg : glB G X.env.scope = true) (n : Nat) (hm : ∃ t, X.mg x = some (.str z t)) (hx : G[n]? = some x := by rfl) : PE X (.Name x pos) (tC (.str z)) := by
  obtain ⟨t, e⟩ := hm
  exact pe_glob (gl_of hg hx).1 e ⟨t, rfl⟩ (gl_of hg hx).2.1
theorem pgr {a : Addr} (hg : glB G X.env.scope = true) (n : Nat) (hm : X.mg x = some (.ref a)) (hx : G[n]? = some x := by rfl) : PE X (.Name x pos) (tC (.ref a)) := pe_glob (gl_of hg hx).1 hm rfl (gl_of hg hx).2.1
theorem pgt {T : String} (hg : glB G X.env.scope = true) (n : Nat) (hm : X.mg x = none) (hv : bootBuiltins x = some (.type T)) (hx : G[n]? = some x := by rfl) : PE X (.Name x pos) (tC (.ty T)) := pe_bltn (gl_of hg hx).1 hm hv rfl (gl_of hg hx).2.2 (gl_of hg hx).2.1
theorem pcB {id : String} {r : List V → Hp → VK → Prop} {e : Expr} {es : List Expr} {t : TA} (hc : CallR X (.builtin id) r) (hg : glB G X.env.scope = true) (n : Nat) (hm : X.mg x = none) (hv : bootBuiltins x = some (.builtin id)) (ha : PA X (e :: es) t) (hx : G[n]? = some x := by rfl)
    (he : starEach (e :: es) X.env = (false, eval e X.env) :: starEach es X.env := by rfl) (hpl : (backTo pos (starEach es X.env)).any (·.1) = false := by rfl) : PE X (.Call (.Name x p) (e :: es) [] pos) (tCB r t) :=
  pe_callB hc (gl_of hg hx).1 hm hv ha (gl_of hg hx).2.2 (gl_of hg hx).2.1 he hpl
theorem pcT {T : String} {r : List V → Hp → VK → Prop} {e : Expr} {es : List Expr} {t : TA} (hc : CallR X (.type T) r) (hg : glB G X.env.scope = true) (n : Nat) (hm : X.mg x = none) (hv : bootBuiltins x = some (.type T)) (ha : PA X (e :: es) t) (hx : G[n]? = some x := by rfl)
    (he : starEach (e :: es) X.env = (false, eval e X.env) :: starEach es X.env := by rfl) (hpl : (backTo pos (starEach es X.env)).any (·.1) = false := by rfl) : PE X (.Call (.Name x p) (e :: es) [] pos) (tCB r t) :=
  pe_callTy hc (gl_of hg hx).1 hm hv ha (gl_of hg hx).2.2 (gl_of hg hx).2.1 he hpl
end

/-! ### a def that keeps its promise, with what a caller wants of it -/
def OkD (P : Program) (w : World) (K : PySem.W.Frag) (mg : Str → Option Value) (base : Heap) (k : Nat) (f : Addr) (ps : List Str) (dvs : List V) (sp : Sp) : Prop :=
  ∃ (fd : FuncData) (ds : List Value), PySem.W.keepIn K (.ref f) = true ∧ Binds K fd ps ds ∧ Vals dvs ds ∧ FnOk P w K mg base (L2.CX P w) k f fd ps sp
theorem OkD.mono {P : Program} {w : World} {K : PySem.W.Frag} {mg : Str → Option Value} {base : Heap} {j k : Nat} {f : Addr} {ps : List Str} {dvs : List V} {sp : Sp} (F : OkD P w K mg base j f ps dvs sp) (h : j ≤ k) : OkD P w K mg base k f ps dvs sp := by
  obtain ⟨fd, ds, a, b, c, d⟩ := F
  exact ⟨fd, ds, a, b, c, d.mono h⟩
/-- nothing is raised -/
abbrev EF : XK := fun _ _ _ => False
theorem passF {P : Program} {w : World} {X : Cx} (h : ∀ l H s e s', L2.CX P w l H s EF e s' → False) : Passes (L2.CX P w) X EF := fun _ _ _ _ _ _ _ q => (h _ _ _ _ _ q).elim
end Z


/-! ### steps of readings -/
namespace Z
open PySem PySem.Spec L2
open PyProof.Rows hiding St
section
variable {D : Ends} {σ : St} {H : Hp} {Q : VK} {t u : TS} {te ta tb : TE} {g : TG} {v x y : V} {tt tu : TT} {ar : TA} {i j : Int} {a b : Bool} {A B P : Prop}
theorem i_seq (h : t { D with nx := u D } σ H) : tSeq t u D σ H := h
theorem i_nx {F bk ct : St → Hp → Prop} {rt : VK} (h : F σ H) : (Ends.mk F rt bk ct).nx σ H := h
theorem i_next (h : D.nx σ H) : tNext D σ H := h
theorem i_asg (h : te σ H fun x H1 => g x σ H1 D.nx) : tAsg te g D σ H := h
theorem i_drop (h : te σ H fun _ H1 => D.nx σ H1) : tDrop te D σ H := h
theorem i_ret (h : te σ H D.rt) : tRet te D σ H := h
theorem i_retN (h : D.rt .non H) : tRetN D σ H := h
theorem i_if (h : tt σ H fun b H1 => if b = true then t D σ H1 else u D σ H1) : tIfS tt t u D σ H := h
theorem i_brk (h : D.bk σ H) : tBreak D σ H := h
theorem i_cnt (h : D.ct σ H) : tCont D σ H := h
theorem i_c (h : Q v H) : tC v σ H Q := h
theorem i_op {r : R2} (h : ta σ H fun x H1 => tb σ H1 fun y H2 => r x y H2 Q) : tOp r ta tb σ H Q := h
theorem i_un {r : V → Hp → VK → Prop} (h : ta σ H fun x H1 => r x H1 Q) : tUn r ta σ H Q := h
theorem i_I0 {f : Int → Int → V} (h : Q (f i j) H) : rI0 f (.int i) (.int j) H Q := ⟨i, j, rfl, rfl, h⟩
theorem i_I {C : Int → Int → Prop} {f : Int → Int → V} (c : C i j) (h : Q (f i j) H) : rI C f (.int i) (.int j) H Q := ⟨i, j, rfl, rfl, c, h⟩
theorem i_U {f : Int → V} (h : Q (f i) H) : rU f (.int i) H Q := ⟨i, rfl, h⟩
theorem i_test {R : Bool → Hp → Prop} (h : te σ H fun x H' => ∃ k, x = .bl k ∧ R k H') : tTest te σ H R := h
theorem i_tB {R : Bool → Hp → Prop} (h : te σ H fun x H' => ∃ k, x = .bl k ∧ R k H') : tB te σ H R := h
theorem i_bl {F : Bool → Prop} (h : F a) : ∃ k, V.bl a = .bl k ∧ F k := ⟨a, rfl, h⟩
theorem i_and {R : Bool → Hp → Prop} (h : tt σ H fun c H1 => if c = true then tu σ H1 R else R false H1) : tAnd tt tu σ H R := h
theorem i_or {R : Bool → Hp → Prop} (h : tt σ H fun c H1 => if c = true then R true H1 else tu σ H1 R) : tOr tt tu σ H R := h
theorem i_not {R : Bool → Hp → Prop} (h : tt σ H fun c H1 => R (!c) H1) : tNot tt σ H R := h
theorem i_andV (h : ta σ H fun x H1 => ∃ c, x = .bl c ∧ if c = true then tb σ H1 Q else Q (.bl false) H1) : tAndV ta tb σ H Q := h
theorem i_orV (h : ta σ H fun x H1 => ∃ c, x = .bl c ∧ if c = true then Q (.bl true) H1 else tb σ H1 Q) : tOrV ta tb σ H Q := h
theorem i_notV (h : ta σ H fun x H1 => ∃ c, x = .bl c ∧ Q (.bl (!c)) H1) : tNotV ta σ H Q := h
theorem i_ifE (h : tt σ H fun c H1 => if c = true then ta σ H1 Q else tb σ H1 Q) : tIf tt ta tb σ H Q := h
theorem i_blV {F : Bool → Prop} (h : F a) : ∃ c, V.bl a = .bl c ∧ F c := ⟨a, rfl, h⟩
theorem i_ite [Decidable P] (h1 : P → A) (h2 : ¬ P → B) : if decide P = true then A else B := by
  by_cases h : P
  · rw [if_pos (decide_eq_true h)]; exact h1 h
  · rw [if_neg (by simp [h])]; exact h2 h
theorem i_iteN [Decidable P] (h1 : ¬ P → A) (h2 : P → B) : if (!decide P) = true then A else B := by
  by_cases h : P
  · rw [if_neg (by simp [h])]; exact h2 h
  · rw [if_pos (by simp [h])]; exact h1 h
theorem i_iteB (h1 : a = true → A) (h2 : a = false → B) : if a = true then A else B := by
  cases a
  · rw [if_neg (by decide)]; exact h2 rfl
  · rw [if_pos rfl]; exact h1 rfl
theorem i_iteT (h : A) : if true = true then A else B := by rw [if_pos rfl]; exact h
theorem i_iteF (h : B) : if false = true then A else B := by rw [if_neg (by decide)]; exact h
theorem i_iteNT (h : B) : if (!true) = true then A else B := by rw [if_neg (by decide)]; exact h
theorem i_iteNF (h : A) : if (!false) = true then A else B := by rw [if_pos (by decide)]; exact h
theorem i_cons {tr : TA} {R : List V → Hp → Prop} (h : te σ H fun x H1 => tr σ H1 fun xs H2 => R (x :: xs) H2) : tCons te tr σ H R := h
theorem i_nil {R : List V → Hp → Prop} (h : R [] H) : tNil σ H R := h
theorem i_call {sp : Sp} {dvs : List V} {E : XK} (h : ar σ H fun vs H1 => sp (vs ++ dvs) H1 Q E) : tCall sp dvs E ar σ H Q := h
theorem i_cb {r : List V → Hp → VK → Prop} (h : ar σ H fun vs H1 => r vs H1 Q) : tCB r ar σ H Q := h
def kLst (Q : VK) : List V → Hp → Prop := fun xs H1 => xs.length ≤ sizeLine ∧ ∀ p, H1 p = none → Q (.ref p) (upd H1 p (.lst xs))
def kTup (Q : VK) : List V → Hp → Prop := fun xs H1 => xs.length ≤ sizeLine ∧ ∀ p, H1 p = none → Q (.ref p) (upd H1 p (.tup xs))
theorem i_lst (h : ar σ H (kLst Q)) : tLst ar σ H Q := h
theorem i_tup (h : ar σ H (kTup Q)) : tTup ar σ H Q := h
theorem i_kLst {xs : List V} (l : xs.length ≤ 100000) (h : ∀ p H2, H p = none → Same H H2 → H2 p = some (.lst xs) → Q (.ref p) H2) : kLst Q xs H :=
  ⟨Nat.le_trans l (by decide), fun p hp => h p _ hp (same_new hp) upd_same⟩
theorem i_kTup {xs : List V} (l : xs.length ≤ 100000) (h : ∀ p H2, H p = none → Same H H2 → H2 p = some (.tup xs) → Q (.ref p) H2) : kTup Q xs H :=
  ⟨Nat.le_trans l (by decide), fun p hp => h p _ hp (same_new hp) upd_same⟩
theorem i_gtup {K : PySem.W.Frag} {n : Nat} {tg : TGs} {p : Addr} {xs : List V} {R : St → Hp → Prop} (hx : SqT K H p xs) (hn : xs.length = n) (h : tg xs σ H R) : gTup K n tg (.ref p) σ H R := ⟨p, xs, rfl, hx, hn, h⟩
theorem i_gcons {tg : TG} {tgs : TGs} {xs : List V} {R : St → Hp → Prop} (h : tg v σ H fun σ' H' => tgs xs σ' H' R) : gCons tg tgs (v :: xs) σ H R := ⟨v, xs, rfl, h⟩
theorem i_gnil {R : St → Hp → Prop} (h : R σ H) : gNil [] σ H R := ⟨rfl, h⟩
theorem i_start {N : List Str} {vs : List V} {σ' : St} (e : start N vs = σ') (h : t D σ' H) : t D (start N vs) H := by rw [e]; exact h
theorem i_cut (M : St → Hp → Prop) (h : t { D with nx := M } σ H) (k : ∀ σ' H', M σ' H' → u D σ' H') : C8.tCut t u D σ H := ⟨M, h, k⟩
def kTurn (W : Nat → St → Hp → Prop) (m : Nat) : St → Hp → Prop := fun σ' H' => ∃ m', m' < m ∧ W m' σ' H'
theorem i_while (W : Nat → St → Hp → Prop) (h0 : ∃ m, W m σ H) (hs : ∀ m σ H, W m σ H → tt σ H fun b H1 => if b = true then ∃ N : St → Hp → Prop, (∀ σ' H', N σ' H' → ∃ m', m' < m ∧ W m' σ' H') ∧ t { D with nx := N, ct := N, bk := D.nx } σ H1 else D.nx σ H1) : tWhile tt t D σ H := ⟨W, h0, hs⟩
theorem i_turn {W : Nat → St → Hp → Prop} {m : Nat} (h : t { D with nx := kTurn W m, ct := kTurn W m, bk := D.nx } σ H) : ∃ N : St → Hp → Prop, (∀ σ' H', N σ' H' → ∃ m', m' < m ∧ W m' σ' H') ∧ t { D with nx := N, ct := N, bk := D.nx } σ H := ⟨_, fun _ _ h => h, h⟩
/-- for k in range(n) -/
theorem i_for1 {R : It → Hp → Prop} (h : ar σ H fun vs H1 => ∃ j : Int, vs = [.int j] ∧ -(2 ^ 62) ≤ j ∧ j < 2 ^ 62 ∧ R (Itr 0 j.toNat) H1) : iRng1 ar σ H R := h
theorem i_rng1 (Pv : Nat → St → Hp → Prop) {j : Int} (b1 : -(2 ^ 62) ≤ j) (b2 : j < 2 ^ 62) (h0 : Pv 0 σ H)
    (hs : ∀ i σ H, i < j.toNat → Pv i σ H → g (.int (0 + i)) σ H fun σ2 H2 => t { D with nx := Pv (i + 1), ct := Pv (i + 1), bk := D.nx } σ2 H2) (hd : ∀ σ H, Pv j.toNat σ H → D.nx σ H) :
    ∃ j' : Int, [V.int j] = [.int j'] ∧ -(2 ^ 62) ≤ j' ∧ j' < 2 ^ 62 ∧ ∃ W : Nat → Nat → St → Hp → Prop, (∃ m, W 0 m σ H) ∧ ∀ i m σ H, W i m σ H →
      ((Itr 0 j'.toNat).stop i H ∧ D.nx σ H) ∨ ((Itr 0 j'.toNat).go i H ∧ ∃ N : St → Hp → Prop, (∀ σ' H', N σ' H' → ∃ m', m' < m ∧ W (i + 1) m' σ' H') ∧ ∀ x H', (Itr 0 j'.toNat).yld i H x H' → g x σ H' fun σ2 H2 => t { D with nx := N, ct := N, bk := D.nx } σ2 H2) :=
  ⟨j, rfl, b1, b2, for_range Pv h0 hs hd⟩
theorem i_for {wi : TI} (h : wi σ H fun J H1 => ∃ W : Nat → Nat → St → Hp → Prop, (∃ m, W 0 m σ H1) ∧ ∀ i m σ H, W i m σ H →
  (J.stop i H ∧ D.nx σ H) ∨ (J.go i H ∧ ∃ N : St → Hp → Prop, (∀ σ' H', N σ' H' → ∃ m', m' < m ∧ W (i + 1) m' σ' H') ∧ ∀ x H', J.yld i H x H' → g x σ H' fun σ2 H2 => t { D with nx := N, ct := N, bk := D.nx } σ2 H2)) : tFor wi g t D σ H := h
theorem i_lt {K : PySem.W.Frag} {R : It → Hp → Prop} (h : te σ H fun x H1 => ∃ a, x = .ref a ∧ (∃ xs, SqL K H1 a xs) ∧ R (Itl K a) H1) : iList K te σ H R := h
theorem i_forL {K : PySem.W.Frag} {p : Addr} {xs : List V} (Pv : Nat → St → Hp → Prop) (hx : SqL K H p xs) (h0 : Pv 0 σ H) (hl : ∀ i σ H, i ≤ xs.length → Pv i σ H → SqL K H p xs)
    (hs : ∀ i x σ H, xs[i]? = some x → Pv i σ H → g x σ H fun σ2 H2 => t { D with nx := Pv (i + 1), ct := Pv (i + 1), bk := D.nx } σ2 H2) (hd : ∀ σ H, Pv xs.length σ H → D.nx σ H) :
    ∃ a, V.ref p = .ref a ∧ (∃ xs, SqL K H a xs) ∧ ∃ W : Nat → Nat → St → Hp → Prop, (∃ m, W 0 m σ H) ∧ ∀ i m σ H, W i m σ H →
      ((Itl K a).stop i H ∧ D.nx σ H) ∨ ((Itl K a).go i H ∧ ∃ N : St → Hp → Prop, (∀ σ' H', N σ' H' → ∃ m', m' < m ∧ W (i + 1) m' σ' H') ∧ ∀ x H', (Itl K a).yld i H x H' → g x σ H' fun σ2 H2 => t { D with nx := N, ct := N, bk := D.nx } σ2 H2) :=
  ⟨p, rfl, ⟨xs, hx⟩, for_list Pv h0 hl hs hd⟩
theorem i_ixL {K : PySem.W.Frag} {p : Addr} {xs : List V} (hx : SqL K H p xs) (e : atI xs i = some v) (h : Q v H) : rIxL K (.ref p) (.int i) H Q := ⟨p, xs, i, v, rfl, rfl, hx, e, h⟩
theorem i_ixT {K : PySem.W.Frag} {p : Addr} {xs : List V} (hx : SqT K H p xs) (e : atI xs i = some v) (h : Q v H) : rIxT K (.ref p) (.int i) H Q := ⟨p, xs, i, v, rfl, rfl, hx, e, h⟩
theorem i_isi {K : PySem.W.Frag} {c : V} {ty tu : Value} (hc : ClsV c tu) (ht : TyX K H x ty) (hk : PySem.W.kitOne K ty tu = some b) (h : Q (.bl b) H) : rIsi K [x, c] H Q := ⟨x, c, ty, tu, b, rfl, hc, ht, hk, h⟩
end

theorem v0 {r : St} {v : V} {H : Hp} {Q : VK} (h : Q v H) : tVar 0 (some v :: r) H Q := ⟨v, rfl, h⟩
theorem n0 {z : Option V} {r : St} {v : V} {H : Hp} {R : St → Hp → Prop} (h : R (some v :: r) H) : gName 0 v (z :: r) H R := h
theorem v1 {a0 : Option V} {r : St} {v : V} {H : Hp} {Q : VK} (h : Q v H) : tVar 1 (a0 :: some v :: r) H Q := ⟨v, rfl, h⟩
theorem n1 {a0 z : Option V} {r : St} {v : V} {H : Hp} {R : St → Hp → Prop} (h : R (a0 :: some v :: r) H) : gName 1 v (a0 :: z :: r) H R := h
theorem v2 {a0 a1 : Option V} {r : St} {v : V} {H : Hp} {Q : VK} (h : Q v H) : tVar 2 (a0 :: a1 :: some v :: r) H Q := ⟨v, rfl, h⟩
theorem n2 {a0 a1 z : Option V} {r : St} {v : V} {H : Hp} {R : St → Hp → Prop} (h : R (a0 :: a1 :: some v :: r) H) : gName 2 v (a0 :: a1 :: z :: r) H R := h
theorem v3 {a0 a1 a2 : Option V} {r : St} {v : V} {H : Hp} {Q : VK} (h : Q v H) : tVar 3 (a0 :: a1 :: a2 :: some v :: r) H Q := ⟨v, rfl, h⟩
theorem n3 {a0 a1 a2 z : Option V} {r : St} {v : V} {H : Hp} {R : St → Hp → Prop} (h : R (a0 :: a1 :: a2 :: some v :: r) H) : gName 3 v (a0 :: a1 :: a2 :: z :: r) H R := h
theorem v4 {a0 a1 a2 a3 : Option V} {r : St} {v : V} {H : Hp} {Q : VK} (h : Q v H) : tVar 4 (a0 :: a1 :: a2 :: a3 :: some v :: r) H Q := ⟨v, rfl, h⟩
theorem n4 {a0 a1 a2 a3 z : Option V} {r : St} {v : V} {H : Hp} {R : St → Hp → Prop} (h : R (a0 :: a1 :: a2 :: a3 :: some v :: r) H) : gName 4 v (a0 :: a1 :: a2 :: a3 :: z :: r) H R := h
theorem v5 {a0 a1 a2 a3 a4 : Option V} {r : St} {v : V} {H : Hp} {Q : VK} (h : Q v H) : tVar 5 (a0 :: a1 :: a2 :: a3 :: a4 :: some v :: r) H Q := ⟨v, rfl, h⟩
theorem n5 {a0 a1 a2 a3 a4 z : Option V} {r : St} {v : V} {H : Hp} {R : St → Hp → Prop} (h : R (a0 :: a1 :: a2 :: a3 :: a4 :: some v :: r) H) : gName 5 v (a0 :: a1 :: a2 :: a3 :: a4 :: z :: r) H R := h
theorem v6 {a0 a1 a2 a3 a4 a5 : Option V} {r : St} {v : V} {H : Hp} {Q : VK} (h : Q v H) : tVar 6 (a0 :: a1 :: a2 :: a3 :: a4 :: a5 :: some v :: r) H Q := ⟨v, rfl, h⟩
theorem n6 {a0 a1 a2 a3 a4 a5 z : Option V} {r : St} {v : V} {H : Hp} {R : St → Hp → Prop} (h : R (a0 :: a1 :: a2 :: a3 :: a4 :: a5 :: some v :: r) H) : gName 6 v (a0 :: a1 :: a2 :: a3 :: a4 :: a5 :: z :: r) H R := h
theorem v7 {a0 a1 a2 a3 a4 a5 a6 : Option V} {r : St} {v : V} {H : Hp} {Q : VK} (h : Q v H) : tVar 7 (a0 :: a1 :: a2 :: a3 :: a4 :: a5 :: a6 :: some v :: r) H Q := ⟨v, rfl, h⟩
theorem n7 {a0 a1 a2 a3 a4 a5 a6 z : Option V} {r : St} {v : V} {H : Hp} {R : St → Hp → Prop} (h : R (a0 :: a1 :: a2 :: a3 :: a4 :: a5 :: a6 :: some v :: r) H) : gName 7 v (a0 :: a1 :: a2 :: a3 :: a4 :: a5 :: a6 :: z :: r) H R := h
theorem v8 {a0 a1 a2 a3 a4 a5 a6 a7 : Option V} {r : St} {v : V} {H : Hp} {Q : VK} (h : Q v H) : tVar 8 (a0 :: a1 :: a2 :: a3 :: a4 :: a5 :: a6 :: a7 :: some v :: r) H Q := ⟨v, rfl, h⟩
theorem n8 {a0 a1 a2 a3 a4 a5 a6 a7 z : Option V} {r : St} {v : V} {H : Hp} {R : St → Hp → Prop} (h : R (a0 :: a1 :: a2 :: a3 :: a4 :: a5 :: a6 :: a7 :: some v :: r) H) : gName 8 v (a0 :: a1 :: a2 :: a3 :: a4 :: a5 :: a6 :: a7 :: z :: r) H R := h
theorem v9 {a0 a1 a2 a3 a4 a5 a6 a7 a8 : Option V} {r : St} {v : V} {H : Hp} {Q : VK} (h : Q v H) : tVar 9 (a0 :: a1 :: a2 :: a3 :: a4 :: a5 :: a6 :: a7 :: a8 :: some v :: r) H Q := ⟨v, rfl, h⟩
theorem n9 {a0 a1 a2 a3 a4 a5 a6 a7 a8 z : Option V} {r : St} {v : V} {H : Hp} {R : St → Hp → Prop} (h : R (a0 :: a1 :: a2 :: a3 :: a4 :: a5 :: a6 :: a7 :: a8 :: some v :: r) H) : gName 9 v (a0 :: a1 :: a2 :: a3 :: a4 :: a5 :: a6 :: a7 :: a8 :: z :: r) H R := h
theorem v10 {a0 a1 a2 a3 a4 a5 a6 a7 a8 a9 : Option V} {r : St} {v : V} {H : Hp} {Q : VK} (h : Q v H) : tVar 10 (a0 :: a1 :: a2 :: a3 :: a4 :: a5 :: a6 :: a7 :: a8 :: a9 :: some v :: r) H Q := ⟨v, rfl, h⟩
theorem n10 {a0 a1 a2 a3 a4 a5 a6 a7 a8 a9 z : Option V} {r : St} {v : V} {H : Hp} {R : St → Hp → Prop} (h : R (a0 :: a1 :: a2 :: a3 :: a4 :: a5 :: a6 :: a7 :: a8 :: a9 :: some v :: r) H) : gName 10 v (a0 :: a1 :: a2 :: a3 :: a4 :: a5 :: a6 :: a7 :: a8 :: a9 :: z :: r) H R := h
theorem v11 {a0 a1 a2 a3 a4 a5 a6 a7 a8 a9 a10 : Option V} {r : St} {v : V} {H : Hp} {Q : VK} (h : Q v H) : tVar 11 (a0 :: a1 :: a2 :: a3 :: a4 :: a5 :: a6 :: a7 :: a8 :: a9 :: a10 :: some v :: r) H Q := ⟨v, rfl, h⟩
theorem n11 {a0 a1 a2 a3 a4 a5 a6 a7 a8 a9 a10 z : Option V} {r : St} {v : V} {H : Hp} {R : St → Hp → Prop} (h : R (a0 :: a1 :: a2 :: a3 :: a4 :: a5 :: a6 :: a7 :: a8 :: a9 :: a10 :: some v :: r) H) : gName 11 v (a0 :: a1 :: a2 :: a3 :: a4 :: a5 :: a6 :: a7 :: a8 :: a9 :: a10 :: z :: r) H R := h
theorem v12 {a0 a1 a2 a3 a4 a5 a6 a7 a8 a9 a10 a11 : Option V} {r : St} {v : V} {H : Hp} {Q : VK} (h : Q v H) : tVar 12 (a0 :: a1 :: a2 :: a3 :: a4 :: a5 :: a6 :: a7 :: a8 :: a9 :: a10 :: a11 :: some v :: r) H Q := ⟨v, rfl, h⟩
theorem n12 {a0 a1 a2 a3 a4 a5 a6 a7 a8 a9 a10 a11 z : Option V} {r : St} {v : V} {H : Hp} {R : St → Hp → Prop} (h : R (a0 :: a1 :: a2 :: a3 :: a4 :: a5 :: a6 :: a7 :: a8 :: a9 :: a10 :: a11 :: some v :: r) H) : gName 12 v (a0 :: a1 :: a2 :: a3 :: a4 :: a5 :: a6 :: a7 :: a8 :: a9 :: a10 :: a11 :: z :: r) H R := h
theorem v13 {a0 a1 a2 a3 a4 a5 a6 a7 a8 a9 a10 a11 a12 : Option V} {r : St} {v : V} {H : Hp} {Q : VK} (h : Q v H) : tVar 13 (a0 :: a1 :: a2 :: a3 :: a4 :: a5 :: a6 :: a7 :: a8 :: a9 :: a10 :: a11 :: a12 :: some v :: r) H Q := ⟨v, rfl, h⟩
theorem n13 {a0 a1 a2 a3 a4 a5 a6 a7 a8 a9 a10 a11 a12 z : Option V} {r : St} {v : V} {H : Hp} {R : St → Hp → Prop} (h : R (a0 :: a1 :: a2 :: a3 :: a4 :: a5 :: a6 :: a7 :: a8 :: a9 :: a10 :: a11 :: a12 :: some v :: r) H) : gName 13 v (a0 :: a1 :: a2 :: a3 :: a4 :: a5 :: a6 :: a7 :: a8 :: a9 :: a10 :: a11 :: a12 :: z :: r) H R := h
theorem v14 {a0 a1 a2 a3 a4 a5 a6 a7 a8 a9 a10 a11 a12 a13 : Option V} {r : St} {v : V} {H : Hp} {Q : VK} (h : Q v H) : tVar 14 (a0 :: a1 :: a2 :: a3 :: a4 :: a5 :: a6 :: a7 :: a8 :: a9 :: a10 :: a11 :: a12 :: a13 :: some v :: r) H Q := ⟨v, rfl, h⟩
theorem n14 {a0 a1 a2 a3 a4 a5 a6 a7 a8 a9 a10 a11 a12 a13 z : Option V} {r : St} {v : V} {H : Hp} {R : St → Hp → Prop} (h : R (a0 :: a1 :: a2 :: a3 :: a4 :: a5 :: a6 :: a7 :: a8 :: a9 :: a10 :: a11 :: a12 :: a13 :: some v :: r) H) : gName 14 v (a0 :: a1 :: a2 :: a3 :: a4 :: a5 :: a6 :: a7 :: a8 :: a9 :: a10 :: a11 :: a12 :: a13 :: z :: r) H R := h
theorem v15 {a0 a1 a2 a3 a4 a5 a6 a7 a8 a9 a10 a11 a12 a13 a14 : Option V} {r : St} {v : V} {H : Hp} {Q : VK} (h : Q v H) : tVar 15 (a0 :: a1 :: a2 :: a3 :: a4 :: a5 :: a6 :: a7 :: a8 :: a9 :: a10 :: a11 :: a12 :: a13 :: a14 :: some v :: r) H Q := ⟨v, rfl, h⟩
theorem n15 {a0 a1 a2 a3 a4 a5 a6 a7 a8 a9 a10 a11 a12 a13 a14 z : Option V} {r : St} {v : V} {H : Hp} {R : St → Hp → Prop} (h : R (a0 :: a1 :: a2 :: a3 :: a4 :: a5 :: a6 :: a7 :: a8 :: a9 :: a10 :: a11 :: a12 :: a13 :: a14 :: some v :: r) H) : gName 15 v (a0 :: a1 :: a2 :: a3 :: a4 :: a5 :: a6 :: a7 :: a8 :: a9 :: a10 :: a11 :: a12 :: a13 :: a14 :: z :: r) H R := h
theorem v16 {a0 a1 a2 a3 a4 a5 a6 a7 a8 a9 a10 a11 a12 a13 a14 a15 : Option V} {r : St} {v : V} {H : Hp} {Q : VK} (h : Q v H) : tVar 16 (a0 :: a1 :: a2 :: a3 :: a4 :: a5 :: a6 :: a7 :: a8 :: a9 :: a10 :: a11 :: a12 :: a13 :: a14 :: a15 :: some v :: r) H Q := ⟨v, rfl, h⟩
theorem n16 {a0 a1 a2 a3 a4 a5 a6 a7 a8 a9 a10 a11 a12 a13 a14 a15 z : Option V} {r : St} {v : V} {H : Hp} {R : St → Hp → Prop} (h : R (a0 :: a1 :: a2 :: a3 :: a4 :: a5 :: a6 :: a7 :: a8 :: a9 :: a10 :: a11 :: a12 :: a13 :: a14 :: a15 :: some v :: r) H) : gName 16 v (a0 :: a1 :: a2 :: a3 :: a4 :: a5 :: a6 :: a7 :: a8 :: a9 :: a10 :: a11 :: a12 :: a13 :: a14 :: a15 :: z :: r) H R := h
theorem v17 {a0 a1 a2 a3 a4 a5 a6 a7 a8 a9 a10 a11 a12 a13 a14 a15 a16 : Option V} {r : St} {v : V} {H : Hp} {Q : VK} (h : Q v H) : tVar 17 (a0 :: a1 :: a2 :: a3 :: a4 :: a5 :: a6 :: a7 :: a8 :: a9 :: a10 :: a11 :: a12 :: a13 :: a14 :: a15 :: a16 :: some v :: r) H Q := ⟨v, rfl, h⟩
theorem n17 {a0 a1 a2 a3 a4 a5 a6 a7 a8 a9 a10 a11 a12 a13 a14 a15 a16 z : Option V} {r : St} {v : V} {H : Hp} {R : St → Hp → Prop} (h : R (a0 :: a1 :: a2 :: a3 :: a4 :: a5 :: a6 :: a7 :: a8 :: a9 :: a10 :: a11 :: a12 :: a13 :: a14 :: a15 :: a16 :: some v :: r) H) : gName 17 v (a0 :: a1 :: a2 :: a3 :: a4 :: a5 :: a6 :: a7 :: a8 :: a9 :: a10 :: a11 :: a12 :: a13 :: a14 :: a15 :: a16 :: z :: r) H R := h
theorem v18 {a0 a1 a2 a3 a4 a5 a6 a7 a8 a9 a10 a11 a12 a13 a14 a15 a16 a17 : Option V} {r : St} {v : V} {H : Hp} {Q : VK} (h : Q v H) : tVar 18 (a0 :: a1 :: a2 :: a3 :: a4 :: a5 :: a6 :: a7 :: a8 :: a9 :: a10 :: a11 :: a12 :: a13 :: a14 :: a15 :: a16 :: a17 :: some v :: r) H Q := ⟨v, rfl, h⟩
theorem n18 {a0 a1 a2 a3 a4 a5 a6 a7 a8 a9 a10 a11 a12 a13 a14 a15 a16 a17 z : Option V} {r : St} {v : V} {H : Hp} {R : St → Hp → Prop} (h : R (a0 :: a1 :: a2 :: a3 :: a4 :: a5 :: a6 :: a7 :: a8 :: a9 :: a10 :: a11 :: a12 :: a13 :: a14 :: a15 :: a16 :: a17 :: some v :: r) H) : gName 18 v (a0 :: a1 :: a2 :: a3 :: a4 :: a5 :: a6 :: a7 :: a8 :: a9 :: a10 :: a11 :: a12 :: a13 :: a14 :: a15 :: a16 :: a17 :: z :: r) H R := h
theorem v19 {a0 a1 a2 a3 a4 a5 a6 a7 a8 a9 a10 a11 a12 a13 a14 a15 a16 a17 a18 : Option V} {r : St} {v : V} {H : Hp} {Q : VK} (h : Q v H) : tVar 19 (a0 :: a1 :: a2 :: a3 :: a4 :: a5 :: a6 :: a7 :: a8 :: a9 :: a10 :: a11 :: a12 :: a13 :: a14 :: a15 :: a16 :: a17 :: a18 :: some v :: r) H Q := ⟨v, rfl, h⟩
theorem n19 {a0 a1 a2 a3 a4 a5 a6 a7 a8 a9 a10 a11 a12 a13 a14 a15 a16 a17 a18 z : Option V} {r : St} {v : V} {H : Hp} {R : St → Hp → Prop} (h : R (a0 :: a1 :: a2 :: a3 :: a4 :: a5 :: a6 :: a7 :: a8 :: a9 :: a10 :: a11 :: a12 :: a13 :: a14 :: a15 :: a16 :: a17 :: a18 :: some v :: r) H) : gName 19 v (a0 :: a1 :: a2 :: a3 :: a4 :: a5 :: a6 :: a7 :: a8 :: a9 :: a10 :: a11 :: a12 :: a13 :: a14 :: a15 :: a16 :: a17 :: a18 :: z :: r) H R := h
theorem v20 {a0 a1 a2 a3 a4 a5 a6 a7 a8 a9 a10 a11 a12 a13 a14 a15 a16 a17 a18 a19 : Option V} {r : St} {v : V} {H : Hp} {Q : VK} (h : Q v H) : tVar 20 (a0 :: a1 :: a2 :: a3 :: a4 :: a5 :: a6 :: a7 :: a8 :: a9 :: a10 :: a11 :: a12 :: a13 :: a14 :: a15 :: a16 :: a17 :: a18 :: a19 :: some v :: r) H Q := ⟨v, rfl, h⟩
theorem n20 {a0 a1 a2 a3 a4 a5 a6 a7 a8 a9 a10 a11 a12 a13 a14 a15 a16 a17 a18 a19 z : Option V} {r : St} {v : V} {H : Hp} {R : St → Hp → Prop} (h : R (a0 :: a1 :: a2 :: a3 :: a4 :: a5 :: a6 :: a7 :: a8 :: a9 :: a10 :: a11 :: a12 :: a13 :: a14 :: a15 :: a16 :: a17 :: a18 :: a19 :: some v :: r) H) : gName 20 v (a0 :: a1 :: a2 :: a3 :: a4 :: a5 :: a6 :: a7 :: a8 :: a9 :: a10 :: a11 :: a12 :: a13 :: a14 :: a15 :: a16 :: a17 :: a18 :: a19 :: z :: r) H R := h
theorem v21 {a0 a1 a2 a3 a4 a5 a6 a7 a8 a9 a10 a11 a12 a13 a14 a15 a16 a17 a18 a19 a20 : Option V} {r : St} {v : V} {H : Hp} {Q : VK} (h : Q v H) : tVar 21 (a0 :: a1 :: a2 :: a3 :: a4 :: a5 :: a6 :: a7 :: a8 :: a9 :: a10 :: a11 :: a12 :: a13 :: a14 :: a15 :: a16 :: a17 :: a18 :: a19 :: a20 :: some v :: r) H Q := ⟨v, rfl, h⟩
theorem n21 {a0 a1 a2 a3 a4 a5 a6 a7 a8 a9 a10 a11 a12 a13 a14 a15 a16 a17 a18 a19 a20 z : Option V} {r : St} {v : V} {H : Hp} {R : St → Hp → Prop} (h : R (a0 :: a1 :: a2 :: a3 :: a4 :: a5 :: a6 :: a7 :: a8 :: a9 :: a10 :: a11 :: a12 :: a13 :: a14 :: a15 :: a16 :: a17 :: a18 :: a19 :: a20 :: some v :: r) H) : gName 21 v (a0 :: a1 :: a2 :: a3 :: a4 :: a5 :: a6 :: a7 :: a8 :: a9 :: a10 :: a11 :: a12 :: a13 :: a14 :: a15 :: a16 :: a17 :: a18 :: a19 :: a20 :: z :: r) H R := h
theorem v22 {a0 a1 a2 a3 a4 a5 a6 a7 a8 a9 a10 a11 a12 a13 a14 a15 a16 a17 a18 a19 a20 a21 : Option V} {r : St} {v : V} {H : Hp} {Q : VK} (h : Q v H) : tVar 22 (a0 :: a1 :: a2 :: a3 :: a4 :: a5 :: a6 :: a7 :: a8 :: a9 :: a10 :: a11 :: a12 :: a13 :: a14 :: a15 :: a16 :: a17 :: a18 :: a19 :: a20 :: a21 :: some v :: r) H Q := ⟨v, rfl, h⟩
theorem n22 {a0 a1 a2 a3 a4 a5 a6 a7 a8 a9 a10 a11 a12 a13 a14 a15 a16 a17 a18 a19 a20 a21 z : Option V} {r : St} {v : V} {H : Hp} {R : St → Hp → Prop} (h : R (a0 :: a1 :: a2 :: a3 :: a4 :: a5 :: a6 :: a7 :: a8 :: a9 :: a10 :: a11 :: a12 :: a13 :: a14 :: a15 :: a16 :: a17 :: a18 :: a19 :: a20 :: a21 :: some v :: r) H) : gName 22 v (a0 :: a1 :: a2 :: a3 :: a4 :: a5 :: a6 :: a7 :: a8 :: a9 :: a10 :: a11 :: a12 :: a13 :: a14 :: a15 :: a16 :: a17 :: a18 :: a19 :: a20 :: a21 :: z :: r) H R := h
theorem v23 {a0 a1 a2 a3 a4 a5 a6 a7 a8 a9 a10 a11 a12 a13 a14 a15 a16 a17 a18 a19 a20 a21 a22 : Option V} {r : St} {v : V} {H : Hp} {Q : VK} (h : Q v H) : tVar 23 (a0 :: a1 :: a2 :: a3 :: a4 :: a5 :: a6 :: a7 :: a8 :: a9 :: a10 :: a11 :: a12 :: a13 :: a14 :: a15 :: a16 :: a17 :: a18 :: a19 :: a20 :: a21 :: a22 :: some v :: r) H Q := ⟨v, rfl, h⟩
theorem n23 {a0 a1 a2 a3 a4 a5 a6 a7 a8 a9 a10 a11 a12 a13 a14 a15 a16 a17 a18 a19 a20 a21 a22 z : Option V} {r : St} {v : V} {H : Hp} {R : St → Hp → Prop} (h : R (a0 :: a1 :: a2 :: a3 :: a4 :: a5 :: a6 :: a7 :: a8 :: a9 :: a10 :: a11 :: a12 :: a13 :: a14 :: a15 :: a16 :: a17 :: a18 :: a19 :: a20 :: a21 :: a22 :: some v :: r) H) : gName 23 v (a0 :: a1 :: a2 :: a3 :: a4 :: a5 :: a6 :: a7 :: a8 :: a9 :: a10 :: a11 :: a12 :: a13 :: a14 :: a15 :: a16 :: a17 :: a18 :: a19 :: a20 :: a21 :: a22 :: z :: r) H R := h
theorem v24 {a0 a1 a2 a3 a4 a5 a6 a7 a8 a9 a10 a11 a12 a13 a14 a15 a16 a17 a18 a19 a20 a21 a22 a23 : Option V} {r : St} {v : V} {H : Hp} {Q : VK} (h : Q v H) : tVar 24 (a0 :: a1 :: a2 :: a3 :: a4 :: a5 :: a6 :: a7 :: a8 :: a9 :: a10 :: a11 :: a12 :: a13 :: a14 :: a15 :: a16 :: a17 :: a18 :: a19 :: a20 :: a21 :: a22 :: a23 :: some v :: r) H Q := ⟨v, rfl, h⟩
theorem n24 {a0 a1 a2 a3 a4 a5 a6 a7 a8 a9 a10 a11 a12 a13 a14 a15 a16 a17 a18 a19 a20 a21 a22 a23 z : Option V} {r : St} {v : V} {H : Hp} {R : St → Hp → Prop} (h : R (a0 :: a1 :: a2 :: a3 :: a4 :: a5 :: a6 :: a7 :: a8 :: a9 :: a10 :: a11 :: a12 :: a13 :: a14 :: a15 :: a16 :: a17 :: a18 :: a19 :: a20 :: a21 :: a22 :: a23 :: some v :: r) H) : gName 24 v (a0 :: a1 :: a2 :: a3 :: a4 :: a5 :: a6 :: a7 :: a8 :: a9 :: a10 :: a11 :: a12 :: a13 :: a14 :: a15 :: a16 :: a17 :: a18 :: a19 :: a20 :: a21 :: a22 :: a23 :: z :: r) H R := h
theorem v25 {a0 a1 a2 a3 a4 a5 a6 a7 a8 a9 a10 a11 a12 a13 a14 a15 a16 a17 a18 a19 a20 a21 a22 a23 a24 : Option V} {r : St} {v : V} {H : Hp} {Q : VK} (h : Q v H) : tVar 25 (a0 :: a1 :: a2 :: a3 :: a4 :: a5 :: a6 :: a7 :: a8 :: a9 :: a10 :: a11 :: a12 :: a13 :: a14 :: a15 :: a16 :: a17 :: a18 :: a19 :: a20 :: a21 :: a22 :: a23 :: a24 :: some v :: r) H Q := ⟨v, rfl, h⟩
theorem n25 {a0 a1 a2 a3 a4 a5 a6 a7 a8 a9 a10 a11 a12 a13 a14 a15 a16 a17 a18 a19 a20 a21 a22 a23 a24 z : Option V} {r : St} {v : V} {H : Hp} {R : St → Hp → Prop} (h : R (a0 :: a1 :: a2 :: a3 :: a4 :: a5 :: a6 :: a7 :: a8 :: a9 :: a10 :: a11 :: a12 :: a13 :: a14 :: a15 :: a16 :: a17 :: a18 :: a19 :: a20 :: a21 :: a22 :: a23 :: a24 :: some v :: r) H) : gName 25 v (a0 :: a1 :: a2 :: a3 :: a4 :: a5 :: a6 :: a7 :: a8 :: a9 :: a10 :: a11 :: a12 :: a13 :: a14 :: a15 :: a16 :: a17 :: a18 :: a19 :: a20 :: a21 :: a22 :: a23 :: a24 :: z :: r) H R := h
theorem nI0 {z : Option V} {r : St} {i : Int} {H : Hp} {R : St → Hp → Prop} (h : ∀ j : Int, j = i → R (some (V.int j) :: r) H) : gName 0 (V.int i) (z :: r) H R := h i rfl
theorem nB0 {z : Option V} {r : St} {i : Bool} {H : Hp} {R : St → Hp → Prop} (h : ∀ j : Bool, j = i → R (some (V.bl j) :: r) H) : gName 0 (V.bl i) (z :: r) H R := h i rfl
theorem nS0 {z : Option V} {r : St} {i : Str} {H : Hp} {R : St → Hp → Prop} (h : ∀ j : Str, j = i → R (some (V.str j) :: r) H) : gName 0 (V.str i) (z :: r) H R := h i rfl
theorem nI1 {a0 z : Option V} {r : St} {i : Int} {H : Hp} {R : St → Hp → Prop} (h : ∀ j : Int, j = i → R (a0 :: some (V.int j) :: r) H) : gName 1 (V.int i) (a0 :: z :: r) H R := h i rfl
theorem nB1 {a0 z : Option V} {r : St} {i : Bool} {H : Hp} {R : St → Hp → Prop} (h : ∀ j : Bool, j = i → R (a0 :: some (V.bl j) :: r) H) : gName 1 (V.bl i) (a0 :: z :: r) H R := h i rfl
theorem nS1 {a0 z : Option V} {r : St} {i : Str} {H : Hp} {R : St → Hp → Prop} (h : ∀ j : Str, j = i → R (a0 :: some (V.str j) :: r) H) : gName 1 (V.str i) (a0 :: z :: r) H R := h i rfl
theorem nI2 {a0 a1 z : Option V} {r : St} {i : Int} {H : Hp} {R : St → Hp → Prop} (h : ∀ j : Int, j = i → R (a0 :: a1 :: some (V.int j) :: r) H) : gName 2 (V.int i) (a0 :: a1 :: z :: r) H R := h i rfl
theorem nB2 {a0 a1 z : Option V} {r : St} {i : Bool} {H : Hp} {R : St → Hp → Prop} (h : ∀ j : Bool, j = i → R (a0 :: a1 :: some (V.bl j) :: r) H) : gName 2 (V.bl i) (a0 :: a1 :: z :: r) H R := h i rfl
theorem nS2 {a0 a1 z : Option V} {r : St} {i : Str} {H : Hp} {R : St → Hp → Prop} (h : ∀ j : Str, j = i → R (a0 :: a1 :: some (V.str j) :: r) H) : gName 2 (V.str i) (a0 :: a1 :: z :: r) H R := h i rfl
theorem nI3 {a0 a1 a2 z : Option V} {r : St} {i : Int} {H : Hp} {R : St → Hp → Prop} (h : ∀ j : Int, j = i → R (a0 :: a1 :: a2 :: some (V.int j) :: r) H) : gName 3 (V.int i) (a0 :: a1 :: a2 :: z :: r) H R := h i rfl
theorem nB3 {a0 a1 a2 z : Option V} {r : St} {i : Bool} {H : Hp} {R : St → Hp → Prop} (h : ∀ j : Bool, j = i → R (a0 :: a1 :: a2 :: some (V.bl j) :: r) H) : gName 3 (V.bl i) (a0 :: a1 :: a2 :: z :: r) H R := h i rfl
theorem nS3 {a0 a1 a2 z : Option V} {r : St} {i : Str} {H : Hp} {R : St → Hp → Prop} (h : ∀ j : Str, j = i → R (a0 :: a1 :: a2 :: some (V.str j) :: r) H) : gName 3 (V.str i) (a0 :: a1 :: a2 :: z :: r) H R := h i rfl
theorem nI4 {a0 a1 a2 a3 z : Option V} {r : St} {i : Int} {H : Hp} {R : St → Hp → Prop} (h : ∀ j : Int, j = i → R (a0 :: a1 :: a2 :: a3 :: some (V.int j) :: r) H) : gName 4 (V.int i) (a0 :: a1 :: a2 :: a3 :: z :: r) H R := h i rfl
theorem nB4 {a0 a1 a2 a3 z : Option V} {r : St} {i : Bool} {H : Hp} {R : St → Hp → Prop} (h : ∀ j : Bool, j = i → R (a0 :: a1 :: a2 :: a3 :: some (V.bl j) :: r) H) : gName 4 (V.bl i) (a0 :: a1 :: a2 :: a3 :: z :: r) H R := h i rfl
theorem nS4 {a0 a1 a2 a3 z : Option V} {r : St} {i : Str} {H : Hp} {R : St → Hp → Prop} (h : ∀ j : Str, j = i → R (a0 :: a1 :: a2 :: a3 :: some (V.str j) :: r) H) : gName 4 (V.str i) (a0 :: a1 :: a2 :: a3 :: z :: r) H R := h i rfl
theorem nI5 {a0 a1 a2 a3 a4 z : Option V} {r : St} {i : Int} {H : Hp} {R : St → Hp → Prop} (h : ∀ j : Int, j = i → R (a0 :: a1 :: a2 :: a3 :: a4 :: some (V.int j) :: r) H) : gName 5 (V.int i) (a0 :: a1 :: a2 :: a3 :: a4 :: z :: r) H R := h i rfl
theorem nB5 {a0 a1 a2 a3 a4 z : Option V} {r : St} {i : Bool} {H : Hp} {R : St → Hp → Prop} (h : ∀ j : Bool, j = i → R (a0 :: a1 :: a2 :: a3 :: a4 :: some (V.bl j) :: r) H) : gName 5 (V.bl i) (a0 :: a1 :: a2 :: a3 :: a4 :: z :: r) H R := h i rfl
theorem nS5 {a0 a1 a2 a3 a4 z : Option V} {r : St} {i : Str} {H : Hp} {R : St → Hp → Prop} (h : ∀ j : Str, j = i → R (a0 :: a1 :: a2 :: a3 :: a4 :: some (V.str j) :: r) H) : gName 5 (V.str i) (a0 :: a1 :: a2 :: a3 :: a4 :: z :: r) H R := h i rfl
theorem nI6 {a0 a1 a2 a3 a4 a5 z : Option V} {r : St} {i : Int} {H : Hp} {R : St → Hp → Prop} (h : ∀ j : Int, j = i → R (a0 :: a1 :: a2 :: a3 :: a4 :: a5 :: some (V.int j) :: r) H) : gName 6 (V.int i) (a0 :: a1 :: a2 :: a3 :: a4 :: a5 :: z :: r) H R := h i rfl
theorem nB6 {a0 a1 a2 a3 a4 a5 z : Option V} {r : St} {i : Bool} {H : Hp} {R : St → Hp → Prop} (h : ∀ j : Bool, j = i → R (a0 :: a1 :: a2 :: a3 :: a4 :: a5 :: some (V.bl j) :: r) H) : gName 6 (V.bl i) (a0 :: a1 :: a2 :: a3 :: a4 :: a5 :: z :: r) H R := h i rfl
theorem nS6 {a0 a1 a2 a3 a4 a5 z : Option V} {r : St} {i : Str} {H : Hp} {R : St → Hp → Prop} (h : ∀ j : Str, j = i → R (a0 :: a1 :: a2 :: a3 :: a4 :: a5 :: some (V.str j) :: r) H) : gName 6 (V.str i) (a0 :: a1 :: a2 :: a3 :: a4 :: a5 :: z :: r) H R := h i rfl
theorem nI7 {a0 a1 a2 a3 a4 a5 a6 z : Option V} {r : St} {i : Int} {H : Hp} {R : St → Hp → Prop} (h : ∀ j : Int, j = i → R (a0 :: a1 :: a2 :: a3 :: a4 :: a5 :: a6 :: some (V.int j) :: r) H) : gName 7 (V.int i) (a0 :: a1 :: a2 :: a3 :: a4 :: a5 :: a6 :: z :: r) H R := h i rfl
theorem nB7 {a0 a1 a2 a3 a4 a5 a6 z : Option V} {r : St} {i : Bool} {H : Hp} {R : St → Hp → Prop} (h : ∀ j : Bool, j = i → R (a0 :: a1 :: a2 :: a3 :: a4 :: a5 :: a6 :: some (V.bl j) :: r) H) : gName 7 (V.bl i) (a0 :: a1 :: a2 :: a3 :: a4 :: a5 :: a6 :: z :: r) H R := h i rfl
theorem nS7 {a0 a1 a2 a3 a4 a5 a6 z : Option V} {r : St} {i : Str} {H : Hp} {R : St → Hp → Prop} (h : ∀ j : Str, j = i → R (a0 :: a1 :: a2 :: a3 :: a4 :: a5 :: a6 :: some (V.str j) :: r) H) : gName 7 (V.str i) (a0 :: a1 :: a2 :: a3 :: a4 :: a5 :: a6 :: z :: r) H R := h i rfl
theorem nI8 {a0 a1 a2 a3 a4 a5 a6 a7 z : Option V} {r : St} {i : Int} {H : Hp} {R : St → Hp → Prop} (h : ∀ j : Int, j = i → R (a0 :: a1 :: a2 :: a3 :: a4 :: a5 :: a6 :: a7 :: some (V.int j) :: r) H) : gName 8 (V.int i) (a0 :: a1 :: a2 :: a3 :: a4 :: a5 :: a6 :: a7 :: z :: r) H R := h i rfl
theorem nB8 {a0 a1 a2 a3 a4 a5 a6 a7 z : Option V} {r : St} {i : Bool} {H : Hp} {R : St → Hp → Prop} (h : ∀ j : Bool, j = i → R (a0 :: a1 :: a2 :: a3 :: a4 :: a5 :: a6 :: a7 :: some (V.bl j) :: r) H) : gName 8 (V.bl i) (a0 :: a1 :: a2 :: a3 :: a4 :: a5 :: a6 :: a7 :: z :: r) H R := h i rfl
theorem nS8 {a0 a1 a2 a3 a4 a5 a6 a7 z : Option V} {r : St} {i : Str} {H : Hp} {R : St → Hp → Prop} (h : ∀ j : Str, j = i → R (a0 :: a1 :: a2 :: a3 :: a4 :: a5 :: a6 :: a7 :: some (V.str j) :: r) H) : gName 8 (V.str i) (a0 :: a1 :: a2 :: a3 :: a4 :: a5 :: a6 :: a7 :: z :: r) H R := h i rfl
theorem nI9 {a0 a1 a2 a3 a4 a5 a6 a7 a8 z : Option V} {r : St} {i : Int} {H : Hp} {R : St → Hp → Prop} (h : ∀ j : Int, j = i → R (a0 :: a1 :: a2 :: a3 :: a4 :: a5 :: a6 :: a7 :: a8 :: some (V.int j) :: r) H) : gName 9 (V.int i) (a0 :: a1 :: a2 :: a3 :: a4 :: a5 :: a6 :: a7 :: a8 :: z :: r) H R := h i rfl
theorem nB9 {a0 a1 a2 a3 a4 a5 a6 a7 a8 z : Option V} {r : St} {i : Bool} {H : Hp} {R : St → Hp → Prop} (h : ∀ j : Bool, j = i → R (a0 :: a1 :: a2 :: a3 :: a4 :: a5 :: a6 :: a7 :: a8 :: some (V.bl j) :: r) H) : gName 9 (V.bl i) (a0 :: a1 :: a2 :: a3 :: a4 :: a5 :: a6 :: a7 :: a8 :: z :: r) H R := h i rfl
theorem nS9 {a0 a1 a2 a3 a4 a5 a6 a7 a8 z : Option V} {r : St} {i : Str} {H : Hp} {R : St → Hp → Prop} (h : ∀ j : Str, j = i → R (a0 :: a1 :: a2 :: a3 :: a4 :: a5 :: a6 :: a7 :: a8 :: some (V.str j) :: r) H) : gName 9 (V.str i) (a0 :: a1 :: a2 :: a3 :: a4 :: a5 :: a6 :: a7 :: a8 :: z :: r) H R := h i rfl
theorem nI10 {a0 a1 a2 a3 a4 a5 a6 a7 a8 a9 z : Option V} {r : St} {i : Int} {H : Hp} {R : St → Hp → Prop} (h : ∀ j : Int, j = i → R (a0 :: a1 :: a2 :: a3 :: a4 :: a5 :: a6 :: a7 :: a8 :: a9 :: some (V.int j) :: r) H) : gName 10 (V.int i) (a0 :: a1 :: a2 :: a3 :: a4 :: a5 :: a6 :: a7 :: a8 :: a9 :: z :: r) H R := h i rfl
theorem nB10 {a0 a1 a2 a3 a4 a5 a6 a7 a8 a9 z : Option V} {r : St} {i : Bool} {H : Hp} {R : St → Hp → Prop} (h : ∀ j : Bool, j = i → R (a0 :: a1 :: a2 :: a3 :: a4 :: a5 :: a6 :: a7 :: a8 :: a9 :: some (V.bl j) :: r) H) : gName 10 (V.bl i) (a0 :: a1 :: a2 :: a3 :: a4 :: a5 :: a6 :: a7 :: a8 :: a9 :: z :: r) H R := h i rfl
theorem nS10 {a0 a1 a2 a3 a4 a5 a6 a7 a8 a9 z : Option V} {r : St} {i : Str} {H : Hp} {R : St → Hp → Prop} (h : ∀ j : Str, j = i → R (a0 :: a1 :: a2 :: a3 :: a4 :: a5 :: a6 :: a7 :: a8 :: a9 :: some (V.str j) :: r) H) : gName 10 (V.str i) (a0 :: a1 :: a2 :: a3 :: a4 :: a5 :: a6 :: a7 :: a8 :: a9 :: z :: r) H R := h i rfl
theorem nI11 {a0 a1 a2 a3 a4 a5 a6 a7 a8 a9 a10 z : Option V} {r : St} {i : Int} {H : Hp} {R : St → Hp → Prop} (h : ∀ j : Int, j = i → R (a0 :: a1 :: a2 :: a3 :: a4 :: a5 :: a6 :: a7 :: a8 :: a9 :: a10 :: some (V.int j) :: r) H) : gName 11 (V.int i) (a0 :: a1 :: a2 :: a3 :: a4 :: a5 :: a6 :: a7 :: a8 :: a9 :: a10 :: z :: r) H R := h i rfl
theorem nB11 {a0 a1 a2 a3 a4 a5 a6 a7 a8 a9 a10 z : Option V} {r : St} {i : Bool} {H : Hp} {R : St → Hp → Prop} (h : ∀ j : Bool, j = i → R (a0 :: a1 :: a2 :: a3 :: a4 :: a5 :: a6 :: a7 :: a8 :: a9 :: a10 :: some (V.bl j) :: r) H) : gName 11 (V.bl i) (a0 :: a1 :: a2 :: a3 :: a4 :: a5 :: a6 :: a7 :: a8 :: a9 :: a10 :: z :: r) H R := h i rfl
theorem nS11 {a0 a1 a2 a3 a4 a5 a6 a7 a8 a9 a10 z : Option V} {r : St} {i : Str} {H : Hp} {R : St → Hp → Prop} (h : ∀ j : Str, j = i → R (a0 :: a1 :: a2 :: a3 :: a4 :: a5 :: a6 :: a7 :: a8 :: a9 :: a10 :: some (V.str j) :: r) H) : gName 11 (V.str i) (a0 :: a1 :: a2 :: a3 :: a4 :: a5 :: a6 :: a7 :: a8 :: a9 :: a10 :: z :: r) H R := h i rfl
theorem nI12 {a0 a1 a2 a3 a4 a5 a6 a7 a8 a9 a10 a11 z : Option V} {r : St} {i : Int} {H : Hp} {R : St → Hp → Prop} (h : ∀ j : Int, j = i → R (a0 :: a1 :: a2 :: a3 :: a4 :: a5 :: a6 :: a7 :: a8 :: a9 :: a10 :: a11 :: some (V.int j) :: r) H) : gName 12 (V.int i) (a0 :: a1 :: a2 :: a3 :: a4 :: a5 :: a6 :: a7 :: a8 :: a9 :: a10 :: a11 :: z :: r) H R := h i rfl
theorem nB12 {a0 a1 a2 a3 a4 a5 a6 a7 a8 a9 a10 a11 z : Option V} {r : St} {i : Bool} {H : Hp} {R : St → Hp → Prop} (h : ∀ j : Bool, j = i → R (a0 :: a1 :: a2 :: a3 :: a4 :: a5 :: a6 :: a7 :: a8 :: a9 :: a10 :: a11 :: some (V.bl j) :: r) H) : gName 12 (V.bl i) (a0 :: a1 :: a2 :: a3 :: a4 :: a5 :: a6 :: a7 :: a8 :: a9 :: a10 :: a11 :: z :: r) H R := h i rfl
theorem nS12 {a0 a1 a2 a3 a4 a5 a6 a7 a8 a9 a10 a11 z : Option V} {r : St} {i : Str} {H : Hp} {R : St → Hp → Prop} (h : ∀ j : Str, j = i → R (a0 :: a1 :: a2 :: a3 :: a4 :: a5 :: a6 :: a7 :: a8 :: a9 :: a10 :: a11 :: some (V.str j) :: r) H) : gName 12 (V.str i) (a0 :: a1 :: a2 :: a3 :: a4 :: a5 :: a6 :: a7 :: a8 :: a9 :: a10 :: a11 :: z :: r) H R := h i rfl
theorem nI13 {a0 a1 a2 a3 a4 a5 a6 a7 a8 a9 a10 a11 a12 z : Option V} {r : St} {i : Int} {H : Hp} {R : St → Hp → Prop} (h : ∀ j : Int, j = i → R (a0 :: a1 :: a2 :: a3 :: a4 :: a5 :: a6 :: a7 :: a8 :: a9 :: a10 :: a11 :: a12 :: some (V.int j) :: r) H) : gName 13 (V.int i) (a0 :: a1 :: a2 :: a3 :: a4 :: a5 :: a6 :: a7 :: a8 :: a9 :: a10 :: a11 :: a12 :: z :: r) H R := h i rfl
theorem nB13 {a0 a1 a2 a3 a4 a5 a6 a7 a8 a9 a10 a11 a12 z : Option V} {r : St} {i : Bool} {H : Hp} {R : St → Hp → Prop} (h : ∀ j : Bool, j = i → R (a0 :: a1 :: a2 :: a3 :: a4 :: a5 :: a6 :: a7 :: a8 :: a9 :: a10 :: a11 :: a12 :: some (V.bl j) :: r) H) : gName 13 (V.bl i) (a0 :: a1 :: a2 :: a3 :: a4 :: a5 :: a6 :: a7 :: a8 :: a9 :: a10 :: a11 :: a12 :: z :: r) H R := h i rfl
theorem nS13 {a0 a1 a2 a3 a4 a5 a6 a7 a8 a9 a10 a11 a12 z : Option V} {r : St} {i : Str} {H : Hp} {R : St → Hp → Prop} (h : ∀ j : Str, j = i → R (a0 :: a1 :: a2 :: a3 :: a4 :: a5 :: a6 :: a7 :: a8 :: a9 :: a10 :: a11 :: a12 :: some (V.str j) :: r) H) : gName 13 (V.str i) (a0 :: a1 :: a2 :: a3 :: a4 :: a5 :: a6 :: a7 :: a8 :: a9 :: a10 :: a11 :: a12 :: z :: r) H R := h i rfl
theorem nI14 {a0 a1 a2 a3 a4 a5 a6 a7 a8 a9 a10 a11 a12 a13 z : Option V} {r : St} {i : Int} {H : Hp} {R : St → Hp → Prop} (h : ∀ j : Int, j = i → R (a0 :: a1 :: a2 :: a3 :: a4 :: a5 :: a6 :: a7 :: a8 :: a9 :: a10 :: a11 :: a12 :: a13 :: some (V.int j) :: r) H) : gName 14 (V.int i) (a0 :: a1 :: a2 :: a3 :: a4 :: a5 :: a6 :: a7 :: a8 :: a9 :: a10 :: a11 :: a12 :: a13 :: z :: r) H R := h i rfl
theorem nB14 {a0 a1 a2 a3 a4 a5 a6 a7 a8 a9 a10 a11 a12 a13 z : Option V} {r : St} {i : Bool} {H : Hp} {R : St → Hp → Prop} (h : ∀ j : Bool, j = i → R (a0 :: a1 :: a2 :: a3 :: a4 :: a5 :: a6 :: a7 :: a8 :: a9 :: a10 :: a11 :: a12 :: a13 :: some (V.bl j) :: r) H) : gName 14 (V.bl i) (a0 :: a1 :: a2 :: a3 :: a4 :: a5 :: a6 :: a7 :: a8 :: a9 :: a10 :: a11 :: a12 :: a13 :: z :: r) H R := h i rfl
theorem nS14 {a0 a1 a2 a3 a4 a5 a6 a7 a8 a9 a10 a11 a12 a13 z : Option V} {r : St} {i : Str} {H : Hp} {R : St → Hp → Prop} (h : ∀ j : Str, j = i → R (a0 :: a1 :: a2 :: a3 :: a4 :: a5 :: a6 :: a7 :: a8 :: a9 :: a10 :: a11 :: a12 :: a13 :: some (V.str j) :: r) H) : gName 14 (V.str i) (a0 :: a1 :: a2 :: a3 :: a4 :: a5 :: a6 :: a7 :: a8 :: a9 :: a10 :: a11 :: a12 :: a13 :: z :: r) H R := h i rfl
theorem nI15 {a0 a1 a2 a3 a4 a5 a6 a7 a8 a9 a10 a11 a12 a13 a14 z : Option V} {r : St} {i : Int} {H : Hp} {R : St → Hp → Prop} (h : ∀ j : Int, j = i → R (a0 :: a1 :: a2 :: a3 :: a4 :: a5 :: a6 :: a7 :: a8 :: a9 :: a10 :: a11 :: a12 :: a13 :: a14 :: some (V.int j) :: r) H) : gName 15 (V.int i) (a0 :: a1 :: a2 :: a3 :: a4 :: a5 :: a6 :: a7 :: a8 :: a9 :: a10 :: a11 :: a12 :: a13 :: a14 :: z :: r) H R := h i rfl
theorem nB15 {a0 a1 a2 a3 a4 a5 a6 a7 a8 a9 a10 a11 a12 a13 a14 z : Option V} {r : St} {i : Bool} {H : Hp} {R : St → Hp → Prop} (h : ∀ j : Bool, j = i → R (a0 :: a1 :: a2 :: a3 :: a4 :: a5 :: a6 :: a7 :: a8 :: a9 :: a10 :: a11 :: a12 :: a13 :: a14 :: some (V.bl j) :: r) H) : gName 15 (V.bl i) (a0 :: a1 :: a2 :: a3 :: a4 :: a5 :: a6 :: a7 :: a8 :: a9 :: a10 :: a11 :: a12 :: a13 :: a14 :: z :: r) H R := h i rfl
theorem nS15 {a0 a1 a2 a3 a4 a5 a6 a7 a8 a9 a10 a11 a12 a13 a14 z : Option V} {r : St} {i : Str} {H : Hp} {R : St → Hp → Prop} (h : ∀ j : Str, j = i → R (a0 :: a1 :: a2 :: a3 :: a4 :: a5 :: a6 :: a7 :: a8 :: a9 :: a10 :: a11 :: a12 :: a13 :: a14 :: some (V.str j) :: r) H) : gName 15 (V.str i) (a0 :: a1 :: a2 :: a3 :: a4 :: a5 :: a6 :: a7 :: a8 :: a9 :: a10 :: a11 :: a12 :: a13 :: a14 :: z :: r) H R := h i rfl
theorem nI16 {a0 a1 a2 a3 a4 a5 a6 a7 a8 a9 a10 a11 a12 a13 a14 a15 z : Option V} {r : St} {i : Int} {H : Hp} {R : St → Hp → Prop} (h : ∀ j : Int, j = i → R (a0 :: a1 :: a2 :: a3 :: a4 :: a5 :: a6 :: a7 :: a8 :: a9 :: a10 :: a11 :: a12 :: a13 :: a14 :: a15 :: some (V.int j) :: r) H) : gName 16 (V.int i) (a0 :: a1 :: a2 :: a3 :: a4 :: a5 :: a6 :: a7 :: a8 :: a9 :: a10 :: a11 :: a12 :: a13 :: a14 :: a15 :: z :: r) H R := h i rfl
theorem nB16 {a0 a1 a2 a3 a4 a5 a6 a7 a8 a9 a10 a11 a12 a13 a14 a15 z : Option V} {r : St} {i : Bool} {H : Hp} {R : St → Hp → Prop} (h : ∀ j : Bool, j = i → R (a0 :: a1 :: a2 :: a3 :: a4 :: a5 :: a6 :: a7 :: a8 :: a9 :: a10 :: a11 :: a12 :: a13 :: a14 :: a15 :: some (V.bl j) :: r) H) : gName 16 (V.bl i) (a0 :: a1 :: a2 :: a3 :: a4 :: a5 :: a6 :: a7 :: a8 :: a9 :: a10 :: a11 :: a12 :: a13 :: a14 :: a15 :: z :: r) H R := h i rfl
theorem nS16 {a0 a1 a2 a3 a4 a5 a6 a7 a8 a9 a10 a11 a12 a13 a14 a15 z : Option V} {r : St} {i : Str} {H : Hp} {R : St → Hp → Prop} (h : ∀ j : Str, j = i → R (a0 :: a1 :: a2 :: a3 :: a4 :: a5 :: a6 :: a7 :: a8 :: a9 :: a10 :: a11 :: a12 :: a13 :: a14 :: a15 :: some (V.str j) :: r) H) : gName 16 (V.str i) (a0 :: a1 :: a2 :: a3 :: a4 :: a5 :: a6 :: a7 :: a8 :: a9 :: a10 :: a11 :: a12 :: a13 :: a14 :: a15 :: z :: r) H R := h i rfl
theorem nI17 {a0 a1 a2 a3 a4 a5 a6 a7 a8 a9 a10 a11 a12 a13 a14 a15 a16 z : Option V} {r : St} {i : Int} {H : Hp} {R : St → Hp → Prop} (h : ∀ j : Int, j = i → R (a0 :: a1 :: a2 :: a3 :: a4 :: a5 :: a6 :: a7 :: a8 :: a9 :: a10 :: a11 :: a12 :: a13 :: a14 :: a15 :: a16 :: some (V.int j) :: r) H) : gName 17 (V.int i) (a0 :: a1 :: a2 :: a3 :: a4 :: a5 :: a6 :: a7 :: a8 :: a9 :: a10 :: a11 :: a12 :: a13 :: a14 :: a15 :: a16 :: z :: r) H R := h i rfl
theorem nB17 {a0 a1 a2 a3 a4 a5 a6 a7 a8 a9 a10 a11 a12 a13 a14 a15 a16 z : Option V} {r : St} {i : Bool} {H : Hp} {R : St → Hp → Prop} (h : ∀ j : Bool, j = i → R (a0 :: a1 :: a2 :: a3 :: a4 :: a5 :: a6 :: a7 :: a8 :: a9 :: a10 :: a11 :: a12 :: a13 :: a14 :: a15 :: a16 :: some (V.bl j) :: r) H) : gName 17 (V.bl i) (a0 :: a1 :: a2 :: a3 :: a4 :: a5 :: a6 :: a7 :: a8 :: a9 :: a10 :: a11 :: a12 :: a13 :: a14 :: a15 :: a16 :: z :: r) H R := h i rfl
theorem nS17 {a0 a1 a2 a3 a4 a5 a6 a7 a8 a9 a10 a11 a12 a13 a14 a15 a16 z : Option V} {r : St} {i : Str} {H : Hp} {R : St → Hp → Prop} (h : ∀ j : Str, j = i → R (a0 :: a1 :: a2 :: a3 :: a4 :: a5 :: a6 :: a7 :: a8 :: a9 :: a10 :: a11 :: a12 :: a13 :: a14 :: a15 :: a16 :: some (V.str j) :: r) H) : gName 17 (V.str i) (a0 :: a1 :: a2 :: a3 :: a4 :: a5 :: a6 :: a7 :: a8 :: a9 :: a10 :: a11 :: a12 :: a13 :: a14 :: a15 :: a16 :: z :: r) H R := h i rfl
theorem nI18 {a0 a1 a2 a3 a4 a5 a6 a7 a8 a9 a10 a11 a12 a13 a14 a15 a16 a17 z : Option V} {r : St} {i : Int} {H : Hp} {R : St → Hp → Prop} (h : ∀ j : Int, j = i → R (a0 :: a1 :: a2 :: a3 :: a4 :: a5 :: a6 :: a7 :: a8 :: a9 :: a10 :: a11 :: a12 :: a13 :: a14 :: a15 :: a16 :: a17 :: some (V.int j) :: r) H) : gName 18 (V.int i) (a0 :: a1 :: a2 :: a3 :: a4 :: a5 :: a6 :: a7 :: a8 :: a9 :: a10 :: a11 :: a12 :: a13 :: a14 :: a15 :: a16 :: a17 :: z :: r) H R := h i rfl
theorem nB18 {a0 a1 a2 a3 a4 a5 a6 a7 a8 a9 a10 a11 a12 a13 a14 a15 a16 a17 z : Option V} {r : St} {i : Bool} {H : Hp} {R : St → Hp → Prop} (h : ∀ j : Bool, j = i → R (a0 :: a1 :: a2 :: a3 :: a4 :: a5 :: a6 :: a7 :: a8 :: a9 :: a10 :: a11 :: a12 :: a13 :: a14 :: a15 :: a16 :: a17 :: some (V.bl j) :: r) H) : gName 18 (V.bl i) (a0 :: a1 :: a2 :: a3 :: a4 :: a5 :: a6 :: a7 :: a8 :: a9 :: a10 :: a11 :: a12 :: a13 :: a14 :: a15 :: a16 :: a17 :: z :: r) H R := h i rfl
theorem nS18 {a0 a1 a2 a3 a4 a5 a6 a7 a8 a9 a10 a11 a12 a13 a14 a15 a16 a17 z : Option V} {r : St} {i : Str} {H : Hp} {R : St → Hp → Prop} (h : ∀ j : Str, j = i → R (a0 :: a1 :: a2 :: a3 :: a4 :: a5 :: a6 :: a7 :: a8 :: a9 :: a10 :: a11 :: a12 :: a13 :: a14 :: a15 :: a16 :: a17 :: some (V.str j) :: r) H) : gName 18 (V.str i) (a0 :: a1 :: a2 :: a3 :: a4 :: a5 :: a6 :: a7 :: a8 :: a9 :: a10 :: a11 :: a12 :: a13 :: a14 :: a15 :: a16 :: a17 :: z :: r) H R := h i rfl
theorem nI19 {a0 a1 a2 a3 a4 a5 a6 a7 a8 a9 a10 a11 a12 a13 a14 a15 a16 a17 a18 z : Option V} {r : St} {i : Int} {H : Hp} {R : St → Hp → Prop} (h : ∀ j : Int, j = i → R (a0 :: a1 :: a2 :: a3 :: a4 :: a5 :: a6 :: a7 :: a8 :: a9 :: a10 :: a11 :: a12 :: a13 :: a14 :: a15 :: a16 :: a17 :: a18 :: some (V.int j) :: r) H) : gName 19 (V.int i) (a0 :: a1 :: a2 :: a3 :: a4 :: a5 :: a6 :: a7 :: a8 :: a9 :: a10 :: a11 :: a12 :: a13 :: a14 :: a15 :: a16 :: a17 :: a18 :: z :: r) H R := h i rfl
theorem nB19 {a0 a1 a2 a3 a4 a5 a6 a7 a8 a9 a10 a11 a12 a13 a14 a15 a16 a17 a18 z : Option V} {r : St} {i : Bool} {H : Hp} {R : St → Hp → Prop} (h : ∀ j : Bool, j = i → R (a0 :: a1 :: a2 :: a3 :: a4 :: a5 :: a6 :: a7 :: a8 :: a9 :: a10 :: a11 :: a12 :: a13 :: a14 :: a15 :: a16 :: a17 :: a18 :: some (V.bl j) :: r) H) : gName 19 (V.bl i) (a0 :: a1 :: a2 :: a3 :: a4 :: a5 :: a6 :: a7 :: a8 :: a9 :: a10 :: a11 :: a12 :: a13 :: a14 :: a15 :: a16 :: a17 :: a18 :: z :: r) H R := h i rfl
theorem nS19 {a0 a1 a2 a3 a4 a5 a6 a7 a8 a9 a10 a11 a12 a13 a14 a15 a16 a17 a18 z : Option V} {r : St} {i : Str} {H : Hp} {R : St → Hp → Prop} (h : ∀ j : Str, j = i → R (a0 :: a1 :: a2 :: a3 :: a4 :: a5 :: a6 :: a7 :: a8 :: a9 :: a10 :: a11 :: a12 :: a13 :: a14 :: a15 :: a16 :: a17 :: a18 :: some (V.str j) :: r) H) : gName 19 (V.str i) (a0 :: a1 :: a2 :: a3 :: a4 :: a5 :: a6 :: a7 :: a8 :: a9 :: a10 :: a11 :: a12 :: a13 :: a14 :: a15 :: a16 :: a17 :: a18 :: z :: r) H R := h i rfl
theorem nI20 {a0 a1 a2 a3 a4 a5 a6 a7 a8 a9 a10 a11 a12 a13 a14 a15 a16 a17 a18 a19 z : Option V} {r : St} {i : Int} {H : Hp} {R : St → Hp → Prop} (h : ∀ j : Int, j = i → R (a0 :: a1 :: a2 :: a3 :: a4 :: a5 :: a6 :: a7 :: a8 :: a9 :: a10 :: a11 :: a12 :: a13 :: a14 :: a15 :: a16 :: a17 :: a18 :: a19 :: some (V.int j) :: r) H) : gName 20 (V.int i) (a0 :: a1 :: a2 :: a3 :: a4 :: a5 :: a6 :: a7 :: a8 :: a9 :: a10 :: a11 :: a12 :: a13 :: a14 :: a15 :: a16 :: a17 :: a18 :: a19 :: z :: r) H R := h i rfl
theorem nB20 {a0 a1 a2 a3 a4 a5 a6 a7 a8 a9 a10 a11 a12 a13 a14 a15 a16 a17 a18 a19 z : Option V} {r : St} {i : Bool} {H : Hp} {R : St → Hp → Prop} (h : ∀ j : Bool, j = i → R (a0 :: a1 :: a2 :: a3 :: a4 :: a5 :: a6 :: a7 :: a8 :: a9 :: a10 :: a11 :: a12 :: a13 :: a14 :: a15 :: a16 :: a17 :: a18 :: a19 :: some (V.bl j) :: r) H) : gName 20 (V.bl i) (a0 :: a1 :: a2 :: a3 :: a4 :: a5 :: a6 :: a7 :: a8 :: a9 :: a10 :: a11 :: a12 :: a13 :: a14 :: a15 :: a16 :: a17 :: a18 :: a19 :: z :: r) H R := h i rfl
theorem nS20 {a0 a1 a2 a3 a4 a5 a6 a7 a8 a9 a10 a11 a12 a13 a14 a15 a16 a17 a18 a19 z : Option V} {r : St} {i : Str} {H : Hp} {R : St → Hp → Prop} (h : ∀ j : Str, j = i → R (a0 :: a1 :: a2 :: a3 :: a4 :: a5 :: a6 :: a7 :: a8 :: a9 :: a10 :: a11 :: a12 :: a13 :: a14 :: a15 :: a16 :: a17 :: a18 :: a19 :: some (V.str j) :: r) H) : gName 20 (V.str i) (a0 :: a1 :: a2 :: a3 :: a4 :: a5 :: a6 :: a7 :: a8 :: a9 :: a10 :: a11 :: a12 :: a13 :: a14 :: a15 :: a16 :: a17 :: a18 :: a19 :: z :: r) H R := h i rfl
theorem nI21 {a0 a1 a2 a3 a4 a5 a6 a7 a8 a9 a10 a11 a12 a13 a14 a15 a16 a17 a18 a19 a20 z : Option V} {r : St} {i : Int} {H : Hp} {R : St → Hp → Prop} (h : ∀ j : Int, j = i → R (a0 :: a1 :: a2 :: a3 :: a4 :: a5 :: a6 :: a7 :: a8 :: a9 :: a10 :: a11 :: a12 :: a13 :: a14 :: a15 :: a16 :: a17 :: a18 :: a19 :: a20 :: some (V.int j) :: r) H) : gName 21 (V.int i) (a0 :: a1 :: a2 :: a3 :: a4 :: a5 :: a6 :: a7 :: a8 :: a9 :: a10 :: a11 :: a12 :: a13 :: a14 :: a15 :: a16 :: a17 :: a18 :: a19 :: a20 :: z :: r) H R := h i rfl
theorem nB21 {a0 a1 a2 a3 a4 a5 a6 a7 a8 a9 a10 a11 a12 a13 a14 a15 a16 a17 a18 a19 a20 z : Option V} {r : St} {i : Bool} {H : Hp} {R : St → Hp → Prop} (h : ∀ j : Bool, j = i → R (a0 :: a1 :: a2 :: a3 :: a4 :: a5 :: a6 :: a7 :: a8 :: a9 :: a10 :: a11 :: a12 :: a13 :: a14 :: a15 :: a16 :: a17 :: a18 :: a19 :: a20 :: some (V.bl j) :: r) H) : gName 21 (V.bl i) (a0 :: a1 :: a2 :: a3 :: a4 :: a5 :: a6 :: a7 :: a8 :: a9 :: a10 :: a11 :: a12 :: a13 :: a14 :: a15 :: a16 :: a17 :: a18 :: a19 :: a20 :: z :: r) H R := h i rfl
theorem nS21 {a0 a1 a2 a3 a4 a5 a6 a7 a8 a9 a10 a11 a12 a13 a14 a15 a16 a17 a18 a19 a20 z : Option V} {r : St} {i : Str} {H : Hp} {R : St → Hp → Prop} (h : ∀ j : Str, j = i → R (a0 :: a1 :: a2 :: a3 :: a4 :: a5 :: a6 :: a7 :: a8 :: a9 :: a10 :: a11 :: a12 :: a13 :: a14 :: a15 :: a16 :: a17 :: a18 :: a19 :: a20 :: some (V.str j) :: r) H) : gName 21 (V.str i) (a0 :: a1 :: a2 :: a3 :: a4 :: a5 :: a6 :: a7 :: a8 :: a9 :: a10 :: a11 :: a12 :: a13 :: a14 :: a15 :: a16 :: a17 :: a18 :: a19 :: a20 :: z :: r) H R := h i rfl
theorem nI22 {a0 a1 a2 a3 a4 a5 a6 a7 a8 a9 a10 a11 a12 a13 a14 a15 a16 a17 a18 a19 a20 a21 z : Option V} {r : St} {i : Int} {H : Hp} {R : St → Hp → Prop} (h : ∀ j : Int, j = i → R (a0 :: a1 :: a2 :: a3 :: a4 :: a5 :: a6 :: a7 :: a8 :: a9 :: a10 :: a11 :: a12 :: a13 :: a14 :: a15 :: a16 :: a17 :: a18 :: a19 :: a20 :: a21 :: some (V.int j) :: r) H) : gName 22 (V.int i) (a0 :: a1 :: a2 :: a3 :: a4 :: a5 :: a6 :: a7 :: a8 :: a9 :: a10 :: a11 :: a12 :: a13 :: a14 :: a15 :: a16 :: a17 :: a18 :: a19 :: a20 :: a21 :: z :: r) H R := h i rfl
theorem nB22 {a0 a1 a2 a3 a4 a5 a6 a7 a8 a9 a10 a11 a12 a13 a14 a15 a16 a17 a18 a19 a20 a21 z : Option V} {r : St} {i : Bool} {H : Hp} {R : St → Hp → Prop} (h : ∀ j : Bool, j = i → R (a0 :: a1 :: a2 :: a3 :: a4 :: a5 :: a6 :: a7 :: a8 :: a9 :: a10 :: a11 :: a12 :: a13 :: a14 :: a15 :: a16 :: a17 :: a18 :: a19 :: a20 :: a21 :: some (V.bl j) :: r) H) : gName 22 (V.bl i) (a0 :: a1 :: a2 :: a3 :: a4 :: a5 :: a6 :: a7 :: a8 :: a9 :: a10 :: a11 :: a12 :: a13 :: a14 :: a15 :: a16 :: a17 :: a18 :: a19 :: a20 :: a21 :: z :: r) H R := h i rfl
theorem nS22 {a0 a1 a2 a3 a4 a5 a6 a7 a8 a9 a10 a11 a12 a13 a14 a15 a16 a17 a18 a19 a20 a21 z : Option V} {r : St} {i : Str} {H : Hp} {R : St → Hp → Prop} (h : ∀ j : Str, j = i → R (a0 :: a1 :: a2 :: a3 :: a4 :: a5 :: a6 :: a7 :: a8 :: a9 :: a10 :: a11 :: a12 :: a13 :: a14 :: a15 :: a16 :: a17 :: a18 :: a19 :: a20 :: a21 :: some (V.str j) :: r) H) : gName 22 (V.str i) (a0 :: a1 :: a2 :: a3 :: a4 :: a5 :: a6 :: a7 :: a8 :: a9 :: a10 :: a11 :: a12 :: a13 :: a14 :: a15 :: a16 :: a17 :: a18 :: a19 :: a20 :: a21 :: z :: r) H R := h i rfl
theorem nI23 {a0 a1 a2 a3 a4 a5 a6 a7 a8 a9 a10 a11 a12 a13 a14 a15 a16 a17 a18 a19 a20 a21 a22 z : Option V} {r : St} {i : Int} {H : Hp} {R : St → Hp → Prop} (h : ∀ j : Int, j = i → R (a0 :: a1 :: a2 :: a3 :: a4 :: a5 :: a6 :: a7 :: a8 :: a9 :: a10 :: a11 :: a12 :: a13 :: a14 :: a15 :: a16 :: a17 :: a18 :: a19 :: a20 :: a21 :: a22 :: some (V.int j) :: r) H) : gName 23 (V.int i) (a0 :: a1 :: a2 :: a3 :: a4 :: a5 :: a6 :: a7 :: a8 :: a9 :: a10 :: a11 :: a12 :: a13 :: a14 :: a15 :: a16 :: a17 :: a18 :: a19 :: a20 :: a21 :: a22 :: z :: r) H R := h i rfl
theorem nB23 {a0 a1 a2 a3 a4 a5 a6 a7 a8 a9 a10 a11 a12 a13 a14 a15 a16 a17 a18 a19 a20 a21 a22 z : Option V} {r : St} {i : Bool} {H : Hp} {R : St → Hp → Prop} (h : ∀ j : Bool, j = i → R (a0 :: a1 :: a2 :: a3 :: a4 :: a5 :: a6 :: a7 :: a8 :: a9 :: a10 :: a11 :: a12 :: a13 :: a14 :: a15 :: a16 :: a17 :: a18 :: a19 :: a20 :: a21 :: a22 :: some (V.bl j) :: r) H) : gName 23 (V.bl i) (a0 :: a1 :: a2 :: a3 :: a4 :: a5 :: a6 :: a7 :: a8 :: a9 :: a10 :: a11 :: a12 :: a13 :: a14 :: a15 :: a16 :: a17 :: a18 :: a19 :: a20 :: a21 :: a22 :: z :: r) H R := h i rfl
theorem nS23 {a0 a1 a2 a3 a4 a5 a6 a7 a8 a9 a10 a11 a12 a13 a14 a15 a16 a17 a18 a19 a20 a21 a22 z : Option V} {r : St} {i : Str} {H : Hp} {R : St → Hp → Prop} (h : ∀ j : Str, j = i → R (a0 :: a1 :: a2 :: a3 :: a4 :: a5 :: a6 :: a7 :: a8 :: a9 :: a10 :: a11 :: a12 :: a13 :: a14 :: a15 :: a16 :: a17 :: a18 :: a19 :: a20 :: a21 :: a22 :: some (V.str j) :: r) H) : gName 23 (V.str i) (a0 :: a1 :: a2 :: a3 :: a4 :: a5 :: a6 :: a7 :: a8 :: a9 :: a10 :: a11 :: a12 :: a13 :: a14 :: a15 :: a16 :: a17 :: a18 :: a19 :: a20 :: a21 :: a22 :: z :: r) H R := h i rfl
theorem nI24 {a0 a1 a2 a3 a4 a5 a6 a7 a8 a9 a10 a11 a12 a13 a14 a15 a16 a17 a18 a19 a20 a21 a22 a23 z : Option V} {r : St} {i : Int} {H : Hp} {R : St → Hp → Prop} (h : ∀ j : Int, j = i → R (a0 :: a1 :: a2 :: a3 :: a4 :: a5 :: a6 :: a7 :: a8 :: a9 :: a10 :: a11 :: a12 :: a13 :: a14 :: a15 :: a16 :: a17 :: a18 :: a19 :: a20 :: a21 :: a22 :: a23 :: some (V.int j) :: r) H) : gName 24 (V.int i) (a0 :: a1 :: a2 :: a3 :: a4 :: a5 :: a6 :: a7 :: a8 :: a9 :: a10 :: a11 :: a12 :: a13 :: a14 :: a15 :: a16 :: a17 :: a18 :: a19 :: a20 :: a21 :: a22 :: a23 :: z :: r) H R := h i rfl
theorem nB24 {a0 a1 a2 a3 a4 a5 a6 a7 a8 a9 a10 a11 a12 a13 a14 a15 a16 a17 a18 a19 a20 a21 a22 a23 z : Option V} {r : St} {i : Bool} {H : Hp} {R : St → Hp → Prop} (h : ∀ j : Bool, j = i → R (a0 :: a1 :: a2 :: a3 :: a4 :: a5 :: a6 :: a7 :: a8 :: a9 :: a10 :: a11 :: a12 :: a13 :: a14 :: a15 :: a16 :: a17 :: a18 :: a19 :: a20 :: a21 :: a22 :: a23 :: some (V.bl j) :: r) H) : gName 24 (V.bl i) (a0 :: a1 :: a2 :: a3 :: a4 :: a5 :: a6 :: a7 :: a8 :: a9 :: a10 :: a11 :: a12 :: a13 :: a14 :: a15 :: a16 :: a17 :: a18 :: a19 :: a20 :: a21 :: a22 :: a23 :: z :: r) H R := h i rfl
theorem nS24 {a0 a1 a2 a3 a4 a5 a6 a7 a8 a9 a10 a11 a12 a13 a14 a15 a16 a17 a18 a19 a20 a21 a22 a23 z : Option V} {r : St} {i : Str} {H : Hp} {R : St → Hp → Prop} (h : ∀ j : Str, j = i → R (a0 :: a1 :: a2 :: a3 :: a4 :: a5 :: a6 :: a7 :: a8 :: a9 :: a10 :: a11 :: a12 :: a13 :: a14 :: a15 :: a16 :: a17 :: a18 :: a19 :: a20 :: a21 :: a22 :: a23 :: some (V.str j) :: r) H) : gName 24 (V.str i) (a0 :: a1 :: a2 :: a3 :: a4 :: a5 :: a6 :: a7 :: a8 :: a9 :: a10 :: a11 :: a12 :: a13 :: a14 :: a15 :: a16 :: a17 :: a18 :: a19 :: a20 :: a21 :: a22 :: a23 :: z :: r) H R := h i rfl
theorem nI25 {a0 a1 a2 a3 a4 a5 a6 a7 a8 a9 a10 a11 a12 a13 a14 a15 a16 a17 a18 a19 a20 a21 a22 a23 a24 z : Option V} {r : St} {i : Int} {H : Hp} {R : St → Hp → Prop} (h : ∀ j : Int, j = i → R (a0 :: a1 :: a2 :: a3 :: a4 :: a5 :: a6 :: a7 :: a8 :: a9 :: a10 :: a11 :: a12 :: a13 :: a14 :: a15 :: a16 :: a17 :: a18 :: a19 :: a20 :: a21 :: a22 :: a23 :: a24 :: some (V.int j) :: r) H) : gName 25 (V.int i) (a0 :: a1 :: a2 :: a3 :: a4 :: a5 :: a6 :: a7 :: a8 :: a9 :: a10 :: a11 :: a12 :: a13 :: a14 :: a15 :: a16 :: a17 :: a18 :: a19 :: a20 :: a21 :: a22 :: a23 :: a24 :: z :: r) H R := h i rfl
theorem nB25 {a0 a1 a2 a3 a4 a5 a6 a7 a8 a9 a10 a11 a12 a13 a14 a15 a16 a17 a18 a19 a20 a21 a22 a23 a24 z : Option V} {r : St} {i : Bool} {H : Hp} {R : St → Hp → Prop} (h : ∀ j : Bool, j = i → R (a0 :: a1 :: a2 :: a3 :: a4 :: a5 :: a6 :: a7 :: a8 :: a9 :: a10 :: a11 :: a12 :: a13 :: a14 :: a15 :: a16 :: a17 :: a18 :: a19 :: a20 :: a21 :: a22 :: a23 :: a24 :: some (V.bl j) :: r) H) : gName 25 (V.bl i) (a0 :: a1 :: a2 :: a3 :: a4 :: a5 :: a6 :: a7 :: a8 :: a9 :: a10 :: a11 :: a12 :: a13 :: a14 :: a15 :: a16 :: a17 :: a18 :: a19 :: a20 :: a21 :: a22 :: a23 :: a24 :: z :: r) H R := h i rfl
theorem nS25 {a0 a1 a2 a3 a4 a5 a6 a7 a8 a9 a10 a11 a12 a13 a14 a15 a16 a17 a18 a19 a20 a21 a22 a23 a24 z : Option V} {r : St} {i : Str} {H : Hp} {R : St → Hp → Prop} (h : ∀ j : Str, j = i → R (a0 :: a1 :: a2 :: a3 :: a4 :: a5 :: a6 :: a7 :: a8 :: a9 :: a10 :: a11 :: a12 :: a13 :: a14 :: a15 :: a16 :: a17 :: a18 :: a19 :: a20 :: a21 :: a22 :: a23 :: a24 :: some (V.str j) :: r) H) : gName 25 (V.str i) (a0 :: a1 :: a2 :: a3 :: a4 :: a5 :: a6 :: a7 :: a8 :: a9 :: a10 :: a11 :: a12 :: a13 :: a14 :: a15 :: a16 :: a17 :: a18 :: a19 :: a20 :: a21 :: a22 :: a23 :: a24 :: z :: r) H R := h i rfl

theorem at_str {l : List Str} {i : Nat} {y : V} (h : (l.map V.str)[i]? = some y) : ∃ m, m ∈ l ∧ y = V.str m := by
  rw [List.getElem?_map] at h
  cases e : l[i]? with
  | none => rw [e] at h; cases h
  | some m => rw [e] at h; exact ⟨m, List.mem_of_getElem? e, (Option.some.inj h).symm⟩
theorem at_int {l : List Int} {i : Nat} {y : V} (h : (l.map V.int)[i]? = some y) : ∃ m, m ∈ l ∧ y = V.int m := by
  rw [List.getElem?_map] at h
  cases e : l[i]? with
  | none => rw [e] at h; cases h
  | some m => rw [e] at h; exact ⟨m, List.mem_of_getElem? e, (Option.some.inj h).symm⟩
section
variable {X : Cx}
theorem opr_imp {f : Value → Value → Sem Value} {r r' : R2} (h : OpR X f r) (w : ∀ x y H Q, r' x y H Q → r x y H Q) : OpR X f r' := fun pins s σ H x y u v Q I rx ry q => h pins s σ H x y u v Q I rx ry (w _ _ _ _ q)
theorem dec_int (i j : Int) : decide (V.int i = V.int j) = decide (i = j) := by
  by_cases e : i = j
  · rw [e]; simp
  · rw [decide_eq_false e, decide_eq_false (fun q => e (V.int.inj q))]
theorem dec_str (i j : Str) : decide (V.str i = V.str j) = decide (i = j) := by
  by_cases e : i = j
  · rw [e]; simp
  · rw [decide_eq_false e, decide_eq_false (fun q => e (V.str.inj q))]
theorem dec_bl (i j : Bool) : decide (V.bl i = V.bl j) = decide (i = j) := by
  by_cases e : i = j
  · rw [e]; simp
  · rw [decide_eq_false e, decide_eq_false (fun q => e (V.bl.inj q))]
theorem op_eqI : OpR X (compareOp .Eq) (rI0 fun i j => .bl (decide (i = j))) := opr_imp op_eq fun x y H Q ⟨i, j, e1, e2, q⟩ => by
  subst e1; subst e2; exact ⟨rfl, by rw [dec_int]; exact q⟩
theorem op_neI : OpR X (compareOp .NotEq) (rI0 fun i j => .bl (!decide (i = j))) := opr_imp op_ne fun x y H Q ⟨i, j, e1, e2, q⟩ => by
  subst e1; subst e2; exact ⟨rfl, by rw [dec_int]; exact q⟩
def rS0 (f : Str → Str → V) : R2 := fun x y H Q => ∃ i j, x = .str i ∧ y = .str j ∧ Q (f i j) H
def rB0 (f : Bool → Bool → V) : R2 := fun x y H Q => ∃ i j, x = .bl i ∧ y = .bl j ∧ Q (f i j) H
theorem op_eqS : OpR X (compareOp .Eq) (rS0 fun i j => .bl (decide (i = j))) := opr_imp op_eq fun x y H Q ⟨i, j, e1, e2, q⟩ => by
  subst e1; subst e2; exact ⟨rfl, by rw [dec_str]; exact q⟩
theorem op_neS : OpR X (compareOp .NotEq) (rS0 fun i j => .bl (!decide (i = j))) := opr_imp op_ne fun x y H Q ⟨i, j, e1, e2, q⟩ => by
  subst e1; subst e2; exact ⟨rfl, by rw [dec_str]; exact q⟩
theorem op_eqB : OpR X (compareOp .Eq) (rB0 fun i j => .bl (decide (i = j))) := opr_imp op_eq fun x y H Q ⟨i, j, e1, e2, q⟩ => by
  subst e1; subst e2; exact ⟨rfl, by rw [dec_bl]; exact q⟩
theorem op_neB : OpR X (compareOp .NotEq) (rB0 fun i j => .bl (!decide (i = j))) := opr_imp op_ne fun x y H Q ⟨i, j, e1, e2, q⟩ => by
  subst e1; subst e2; exact ⟨rfl, by rw [dec_bl]; exact q⟩
theorem i_S0 {f : Str → Str → V} {i j : Str} {H : Hp} {Q : VK} (h : Q (f i j) H) : rS0 f (.str i) (.str j) H Q := ⟨i, j, rfl, rfl, h⟩
theorem i_B0 {f : Bool → Bool → V} {i j : Bool} {H : Hp} {Q : VK} (h : Q (f i j) H) : rB0 f (.bl i) (.bl j) H Q := ⟨i, j, rfl, rfl, h⟩
def rInt1 : List V → Hp → VK → Prop := fun xs H Q => ∃ i, xs = [.int i] ∧ Q (.int i) H
theorem call_intI : CallR X (.type "int") rInt1 := fun pins s σ H xs us Q I r ⟨i, e, q⟩ => call_int1 pins s σ H xs us Q I r (.inl ⟨i, e, q⟩)
theorem i_int {i : Int} {H : Hp} {Q : VK} (h : Q (.int i) H) : rInt1 [.int i] H Q := ⟨i, rfl, h⟩
def rIntB : List V → Hp → VK → Prop := fun xs H Q => ∃ k : Bool, xs = [.bl k] ∧ Q (.int (if k then 1 else 0)) H
theorem call_intB : CallR X (.type "int") rIntB := fun pins s σ H xs us Q I r ⟨i, e, q⟩ => call_int1 pins s σ H xs us Q I r (.inr ⟨i, e, q⟩)
theorem i_intB {k : Bool} {H : Hp} {Q : VK} (h : Q (.int (if k then 1 else 0)) H) : rIntB [.bl k] H Q := ⟨k, rfl, h⟩
def rAbs : List V → Hp → VK → Prop := fun xs H Q => ∃ i, xs = [.int i] ∧ Q (.int (if i < 0 then -i else i)) H
theorem call_absI : CallR X (.builtin "abs") rAbs := call_abs
theorem i_abs {i : Int} {H : Hp} {Q : VK} (h : Q (.int (if i < 0 then -i else i)) H) : rAbs [.int i] H Q := ⟨i, rfl, h⟩
def rLenS (K : PySem.W.Frag) : List V → Hp → VK → Prop := fun xs H Q => ∃ p ys, xs = [.ref p] ∧ (SqL K H p ys ∨ SqT K H p ys) ∧ Q (.int ys.length) H
theorem call_lenS : CallR X (.builtin "len") (rLenS X.K) := call_len_seq
theorem i_lenL {K : PySem.W.Frag} {p : Addr} {ys : List V} {H : Hp} {Q : VK} (hx : SqL K H p ys) (h : Q (.int ys.length) H) : rLenS K [.ref p] H Q := ⟨p, ys, rfl, .inl hx, h⟩
theorem i_lenT {K : PySem.W.Frag} {p : Addr} {ys : List V} {H : Hp} {Q : VK} (hx : SqT K H p ys) (h : Q (.int ys.length) H) : rLenS K [.ref p] H Q := ⟨p, ys, rfl, .inr hx, h⟩
def rDm : List V → Hp → VK → Prop := fun xs H Q => ∃ i j, xs = [.int i, .int j] ∧ CDivP i j ∧ ∀ p, H p = none → Q (.ref p) (upd H p (.tup [.int (i / j), .int (i % j)]))
theorem call_dm : CallR X (.builtin "divmod") rDm := call_divmodW
theorem i_dm {i j : Int} {H : Hp} {Q : VK} (c : CDivP i j) (h : ∀ p H2, H p = none → Same H H2 → H2 p = some (.tup [.int (i / j), .int (i % j)]) → Q (.ref p) H2) : rDm [.int i, .int j] H Q :=
  ⟨i, j, rfl, c, fun p hp => h p _ hp (same_new hp) upd_same⟩
theorem i_setL {l : Addr} {xs : List V} {i : Int} {j : Nat} {v : V} {H : Hp} {R : Hp → Prop} (hl : H l = some (.lst xs)) (hj : ixN xs.length i = some j) (h : ∀ H2, H2 l = some (.lst (xs.set j v)) → (∀ b, b ≠ l → H2 b = H b) → R H2) : rSetL (.ref l) (.int i) v H R := by
  unfold rSetL
  exact ⟨l, xs, i, j, rfl, rfl, hl, hj, h _ upd_same fun b hb => upd_ne hb⟩
theorem i_iteNB {a : Bool} {A B : Prop} (h1 : a = false → A) (h2 : a = true → B) : if (!a) = true then A else B := by
  cases a
  · rw [if_pos (by decide)]; exact h1 rfl
  · rw [if_neg (by decide)]; exact h2 rfl
theorem chr_inj : ∀ {l k : List Char}, l.map Char.toNat = k.map Char.toNat → l = k
  | [], [], _ => rfl
  | [], _ :: _, h => by simp at h
  | _ :: _, [], h => by simp at h
  | a :: l, b :: k, h => by
    rw [List.map_cons, List.map_cons] at h
    injection h with h1 h2
    have e : a = b := Char.ext (UInt32.toNat.inj h1)
    rw [e, chr_inj h2]
@[simp] theorem str_inj {a b : String} : (Str.ofString a = Str.ofString b) = (a = b) := by
  refine propext ⟨fun h => ?_, fun h => by rw [h]⟩
  rw [Str.ofString_eq_toList, Str.ofString_eq_toList] at h
  injection h with h
  have q := congrArg Array.toList h
  exact String.toList_inj.mp (chr_inj (by simpa using q))
theorem Sz.of {n : Nat} {i : Int} (h0 : 0 ≤ i) (h1 : i < 2 ^ n) : Sz n i := by
  unfold Sz
  have : ((2 ^ n : Nat) : Int) = 2 ^ n := by simp
  omega
theorem Sz.sm {n : Nat} {i : Int} (h0 : -1024 < i) (h1 : i < 1024) (hn : 10 ≤ n) : Sz n i := Sz.mono (n := 10) (by unfold Sz; omega) hn
theorem Sz.zero {n : Nat} : Sz n 0 := by unfold Sz; exact Nat.lt_of_lt_of_le (by decide) (Nat.one_le_two_pow)
def isNon : V → Bool
  | .non => true
  | _ => false
theorem dec_non (x : V) : decide (x = .non) = isNon x := by cases x <;> rfl
def rIsN_ (neg : Bool) : R2 := fun x y H Q => y = .non ∧ Q (.bl (if neg then !isNon x else isNon x)) H
theorem op_isN_ {X : Cx} : OpR X (compareOp .Is) (rIsN_ false) := opr_imp op_isN fun x y H Q h => ⟨h.1, by rw [dec_non]; exact h.2⟩
theorem op_notN_ {X : Cx} : OpR X (compareOp .IsNot) (rIsN_ true) := opr_imp op_notN fun x y H Q h => ⟨h.1, by rw [dec_non]; exact h.2⟩
theorem i_isN {neg b : Bool} {x : V} {H : Hp} {Q : VK} (e : (if neg then !isNon x else isNon x) = b) (h : Q (.bl b) H) : rIsN_ neg x .non H Q := ⟨rfl, by rw [e]; exact h⟩
section
variable {H : Hp} {Q : VK} {P : Prop} [Decidable P] {b : Bool}
theorem i_decT (p : P) (h : Q (.bl true) H) : Q (.bl (decide P)) H := by rw [decide_eq_true p]; exact h
theorem i_decF (p : ¬ P) (h : Q (.bl false) H) : Q (.bl (decide P)) H := by rw [decide_eq_false p]; exact h
theorem i_ndecT (p : ¬ P) (h : Q (.bl true) H) : Q (.bl (!decide P)) H := by rw [decide_eq_false p]; exact h
theorem i_ndecF (p : P) (h : Q (.bl false) H) : Q (.bl (!decide P)) H := by rw [decide_eq_true p]; exact h
theorem i_varT (p : b = true) (h : Q (.bl true) H) : Q (.bl b) H := by rw [p]; exact h
theorem i_varF (p : b = false) (h : Q (.bl false) H) : Q (.bl b) H := by rw [p]; exact h
theorem i_ntF (h : Q (.bl false) H) : Q (.bl (!true)) H := h
theorem i_nfT (h : Q (.bl true) H) : Q (.bl (!false)) H := h
end
theorem pnc {X : Cx} {N0 : List Str} {x : Str} {pos : Pos} (hv : visB N0 X.env.scope = true) (i : Nat) (hN : X.N[i]? = some x := by rfl) (h0 : N0[i]? = some x := by rfl) : PE X (.Name x pos) (tVar i) :=
  let q := vis_of hv h0
  pe_var hN q.1 q.2.1 q.2.2
theorem take_succ {α : Type} : ∀ {l : List α} {i : Nat} {x : α}, l[i]? = some x → l.take (i + 1) = l.take i ++ [x] := fun {l i x} h => by
  rw [List.take_add_one, h]; rfl
theorem same_up {H H' : Hp} {p : Addr} {o : HO} (hp : H p = none) (e : ∀ b u, H b = some u → H' b = some u) : ∀ b u, H b = some u → upd H' p o b = some u := fun b u h => by
  rw [upd_ne (ne_of_none h hp)]; exact e b u h
theorem i_lc {wi : TI} {g : TG} {tt : TT} {te : TE} {vs : List Nat} {σ : St} {H : Hp} {Q : VK} (h : wi σ H fun J H1 => ∀ D, H1 D = none → ∃ W : Nat → Nat → Hp → Prop, (∃ m, W 0 m (upd H1 D (.lst []))) ∧ ∀ i m H, W i m H →
      (J.stop i H ∧ Q (.ref D) H) ∨ (J.go i H ∧ ∃ Nx : Hp → Prop, (∀ H', Nx H' → ∃ m', m' < m ∧ W (i + 1) m' H') ∧ ∀ x H', J.yld i H x H' → g x (wipe σ vs) H' fun σ2 H2 => wipe σ2 vs = wipe σ vs ∧ tt σ2 H2 fun b H3 =>
        if b = true then te σ2 H3 fun y H4 => ∃ acc, H4 D = some (.lst acc) ∧ acc.length < sizeLine ∧ Nx (upd H4 D (.lst (acc ++ [y]))) else Nx H3)) : tLc wi g tt te vs σ H Q := h
theorem i_lcL {K : PySem.W.Frag} {p : Addr} {xs : List V} {H : Hp} {F : Addr → Prop} (hx : SqL K H p xs) (h : F p) : ∃ a, V.ref p = .ref a ∧ (∃ xs, SqL K H a xs) ∧ F a := ⟨p, rfl, ⟨xs, hx⟩, h⟩
theorem i_lcw {σ2 σ3 : St} {H : Hp} {te : TE} {A : Hp → Prop} {F : VK} (h : te σ2 H F) : σ3 = σ3 ∧ tYes σ2 H fun b H3 => if b = true then te σ2 H3 F else A H3 := ⟨rfl, by show (if true = true then te σ2 H F else A H); rw [if_pos rfl]; exact h⟩
theorem i_bm {K : PySem.W.Frag} {T : String} {r : V → List V → Hp → VK → Prop} {to : TE} {t : TA} {σ : St} {H : Hp} {Q : VK} (h : to σ H fun x H1 => tyV K T x H1 ∧ t σ H1 fun xs H2 => r x xs H2 Q) : tBM K T r to t σ H Q := h
theorem i_bm0 {K : PySem.W.Frag} {T : String} {r : V → List V → Hp → VK → Prop} {to : TE} {σ : St} {H : Hp} {Q : VK} (h : to σ H fun x H1 => tyV K T x H1 ∧ r x [] H1 Q) : tBM0 K T r to σ H Q := h
theorem i_tyL {K : PySem.W.Frag} {p : Addr} {xs : List V} {H : Hp} {A : Prop} (hx : SqL K H p xs) (h : A) : tyV K "list" (.ref p) H ∧ A := ⟨.inl ⟨rfl, _, hx⟩, h⟩
theorem i_tyS {K : PySem.W.Frag} {z : Str} {H : Hp} {A : Prop} (h : A) : tyV K "str" (.str z) H ∧ A := ⟨rfl, h⟩
theorem i_index {K : PySem.W.Frag} {p : Addr} {ys : List V} {y z : V} {j : Nat} {H : Hp} {Q : VK} (hx : SqL K H p ys) (fy : flatV y = true) (fa : ys.all flatV = true) (e : ys[j]? = some z) (q : eqV z y = true)
    (n : ∀ (m : Nat) (z' : V), m < j → ys[m]? = some z' → eqV z' y = false) (h : Q (.int (j : Nat)) H) : rIndex K (.ref p) [y] H Q := ⟨p, ys, y, j, z, rfl, rfl, hx, fy, fa, e, q, n, h⟩
/-- d.get(k, x) of a table of the top with text keys -/
def tKGet (K : PySem.W.Frag) (w : World) (td ty tx : TE) : TE := fun σ H Q => td σ H fun x H1 => ∃ p es n, x = .ref p ∧ KDict K w p es n ∧ ty σ H1 fun y H2 => tx σ H2 fun z H3 => ∃ (k : Str) (r : Option Value) (v : V), y = .str k ∧ PySem.W.nsIn K p k = some r ∧ (match r with | none => v = z | some u => RelV v u) ∧ Q v H3
theorem i_kget {K : PySem.W.Frag} {w : World} {td ty tx : TE} {σ : St} {H : Hp} {Q : VK} (h : td σ H fun x H1 => ∃ p es n, x = .ref p ∧ KDict K w p es n ∧ ty σ H1 fun y H2 => tx σ H2 fun z H3 => ∃ (k : Str) (r : Option Value) (v : V), y = .str k ∧ PySem.W.nsIn K p k = some r ∧ (match r with | none => v = z | some u => RelV v u) ∧ Q v H3) : tKGet K w td ty tx σ H Q := h
theorem i_kd {K : PySem.W.Frag} {w : World} {p : Addr} {F : Addr → Prop} (d : ∃ es n, KDict K w p es n) (h : F p) : ∃ p' es n, V.ref p = .ref p' ∧ KDict K w p' es n ∧ F p' := by
  obtain ⟨es, n, d⟩ := d
  exact ⟨p, es, n, rfl, d, h⟩
theorem i_kv {K : PySem.W.Frag} {p : Addr} {k : Str} {v z : V} {H : Hp} {Q : VK} (d : ∃ r, PySem.W.nsIn K p k = some r ∧ (match r with | none => v = z | some u => RelV v u)) (h : Q v H) :
    ∃ (k' : Str) (r : Option Value) (v' : V), V.str k = .str k' ∧ PySem.W.nsIn K p k' = some r ∧ (match r with | none => v' = z | some u => RelV v' u) ∧ Q v' H := by
  obtain ⟨r, e, m⟩ := d
  exact ⟨k, r, v, rfl, e, m, h⟩
theorem pe_kget {X : Cx} {o e f : Expr} {apos cpos : Pos} {td ty tx : TE} (ho : PE X o td) (he : PE X e ty) (hf : PE X f tx) (m : M2 X o "get" apos e f cpos) : PE X (.Call (.Attribute o "get" apos) [e, f] [] cpos) (tKGet X.K X.w td ty tx) := by
  refine ⟨fun pins s σ H Q I h => ?_⟩
  refine wpAny_Call_method m.base m.few m.line PySem.F.plainAttrs_dict PySem.F.slot_dict_get PySem.F.type_dict_get (thn (ho.run pins s σ H _ I h) fun u s1 hh => ?_)
  obtain ⟨x, H1, I1, rx, p, es, n, ex, d, q1⟩ := hh
  subst ex
  obtain rfl : u = Value.ref p := rx
  refine ⟨kd_type d I1, fun a ea => ⟨_, (by cases ea; exact I1.kIn _ _ d.at_), rfl⟩, ?_⟩
  rw [m.trees]
  refine Calls.callWith_builtin rfl (Calls.evalArgs_plain (Calls.spliced_cons (thn (he.run pins s1 σ H1 _ I1 q1) fun iv s2 hh2 => ?_)))
  obtain ⟨y, H2, I2, ry, q2⟩ := hh2
  refine Calls.spliced_cons (thn (hf.run pins s2 σ H2 _ I2 q2) fun fv s3 hh3 => Calls.spliced_nil ?_)
  obtain ⟨z, H3, I3, rz, k, r, v, ek, en, em, q3⟩ := hh3
  subst ek
  obtain ⟨t, rfl⟩ := ry
  refine call_meetsIn PySem.F.slot_dict_get (kd_type d I3) PySem.F.entry_dict_get (PySem.F.args_dict_get_3 _ _ _) (meets_dict_get_default (strKind X.prog X.w) p (strKind_is X.prog X.w k t) d.low fv) ⟨_, PySem.W.mapOf_K (prog := X.prog) I3.kIn d.at_ d.lit, ?_⟩
  rw [PySem.W.find_K d.at_ en]
  cases r with
  | none => 
    have e1 : v = z := em
    subst e1
    exact ⟨_, H3, I3.tok _, rz, q3⟩
  | some u => exact ⟨_, H3, I3.tok _, em, q3⟩
theorem i_cat {a b : Addr} {xs ys : List V} {H : Hp} {Q : VK} (ha : H a = some (.lst xs)) (hb : H b = some (.lst ys)) (l1 : xs.length ≤ 1000000) (l2 : ys.length ≤ 1000000)
    (h : ∀ p H2, H p = none → Same H H2 → H2 p = some (.lst (xs ++ ys)) → Q (.ref p) H2) : rCat (.ref a) (.ref b) H Q :=
  ⟨a, b, xs, ys, rfl, rfl, ha, hb, Nat.le_trans (Nat.add_le_add l1 l2) (by decide), fun p hp => h p _ hp (same_new hp) upd_same⟩
theorem i_in {K : PySem.W.Frag} {x : V} {p : Addr} {xs : List V} {b : Bool} {H : Hp} {Q : VK} (hx : SqL K H p xs ∨ SqT K H p xs) (fx : flatV x = true) (fs : xs.all flatV = true) (e : inV x xs = b) (h : Q (.bl b) H) : rIn K false x (.ref p) H Q :=
  ⟨p, xs, rfl, hx, fx, fs, by rw [if_neg (by decide), e]; exact h⟩
theorem i_inN {K : PySem.W.Frag} {x : V} {p : Addr} {xs : List V} {b : Bool} {H : Hp} {Q : VK} (hx : SqL K H p xs ∨ SqT K H p xs) (fx : flatV x = true) (fs : xs.all flatV = true) (e : inV x xs = b) (h : Q (.bl (!b)) H) : rIn K true x (.ref p) H Q :=
  ⟨p, xs, rfl, hx, fx, fs, by rw [if_pos rfl, e]; exact h⟩
theorem i_gsub {to ti : TE} {t : TSet} {v : V} {σ : St} {H : Hp} {R : St → Hp → Prop} (h : to σ H fun o H1 => ti σ H1 fun i H2 => t o i v H2 fun H3 => R σ H3) : gSub to ti t v σ H R := h
theorem ext_set {H H2 : Hp} {a : Addr} {xs : List V} (ha : H a = some (.lst xs)) (hs : srcL xs) (w : ∀ b, b ≠ a → H2 b = H b) : Ext H H2 := fun b o s e => by
  by_cases h : b = a
  · subst h
    rw [ha] at e
    cases e
    exact (s hs).elim
  · rw [w b h]; exact e
theorem inV_str (m : Str) (ms : List Str) : inV (.str m) (ms.map V.str) = ms.contains m := by
  unfold inV
  rw [List.any_map]
  induction ms with
  | nil => rfl
  | cons a l ih =>
    rw [List.any_cons, List.contains_cons, ih]
    have e : eqV (V.str a) (V.str m) = (m == a) := by
      show (a == m) = (m == a)
      by_cases h : a = m
      · rw [h]
      · rw [beq_eq_false_iff_ne.mpr h, beq_eq_false_iff_ne.mpr (Ne.symm h)]
    show (eqV (V.str a) (V.str m) || _) = _
    rw [e]
theorem flat_str (ms : List Str) : (ms.map V.str).all flatV = true := by
  rw [List.all_map]
  exact List.all_eq_true.mpr fun _ _ => rfl
theorem at_map {α : Type} {f : α → V} {xs : List α} {i : Int} (h0 : 0 ≤ i) (h1 : i < xs.length) : ∃ x, x ∈ xs ∧ atI (xs.map f) i = some (f x) := by
  obtain ⟨n, rfl⟩ := Int.eq_ofNat_of_zero_le h0
  have hn : n < xs.length := by omega
  refine ⟨xs[n], List.getElem_mem hn, atI_nat ?_⟩
  rw [List.getElem?_map, List.getElem?_eq_getElem hn]
  rfl
variable {k : Nat} {f : Addr} {ps : List Str} {dvs : List V} {sp : Sp} {x : Str} {p pos : Pos} {e : Expr} {es : List Expr} {t : TA} {G : List Str}
theorem cxF {P : Program} {w : World} {l : List Env} {H : Hp} {s s' : Shared} {e : Value} (h : L2.CX P w l H s EF e s') : False := by
  obtain ⟨_, _, _, _, _, _, _, _, _, _, _, _, q⟩ := h
  exact q
theorem fn0 {P : Program} {w : World} {K : PySem.W.Frag} {mg : Str → Option Value} {base : Heap} {k : Nat} {f : Addr} {fd : FuncData} {ps : List Str} {sp : Sp} (F : FnOk P w K mg base (L2.CX P w) k f fd ps sp) (h : ∀ vs H Q E, sp vs H Q E → sp vs H Q EF) : FnOk P w K mg base CX0 k f fd ps sp :=
  ⟨F.len, fun A outer s H args us vs Q E hr he hb hv hs => codeAny_mono (F.run A outer s H args us vs Q EF hr he hb hv (h _ _ _ _ hs)) fun r s' hq => by
    cases r with
    | error e => exact (cxF hq).elim
    | ok fl => cases fl <;> exact hq⟩
theorem ex_at {l : List (PySem.W.Frag → Bool)} {K : PySem.W.Frag} (c : (l.all fun e => e K) = true) (i : Nat) {e : PySem.W.Frag → Bool} (h : l[i]? = some e := by rfl) : e K = true := List.all_eq_true.mp c e (List.mem_of_getElem? h)
theorem rel_eq {a b : Str} {u : Value} (e : a = b) (h : RelV (.str b) u) : RelV (.str a) u := by rw [e]; exact h
theorem pcD (F : OkD X.prog X.w X.K X.mg X.base k f ps dvs sp) (hr : Room k X.A) (hg : glB G X.env.scope = true) (n : Nat) (hm : X.mg x = some (.ref f)) (ha : PA X (e :: es) t) (hx : G[n]? = some x := by rfl)
    (he : starEach (e :: es) X.env = (false, eval e X.env) :: starEach es X.env := by rfl) (hpl : (backTo pos (starEach es X.env)).any (·.1) = false := by rfl) : PE X (.Call (.Name x p) (e :: es) [] pos) (tCall sp dvs EF t) := by
  obtain ⟨fd, ds, kp, b, vd, F⟩ := F
  exact pe_call F hr (gl_of hg hx).1 hm kp b vd (fun _ _ _ _ _ _ _ q => (cxF q).elim) ha (gl_of hg hx).2.1 he hpl
theorem pcD0 (F : OkD X.prog X.w X.K X.mg X.base k f ps dvs sp) (hr : Room k X.A) (hg : glB G X.env.scope = true) (n : Nat) (hm : X.mg x = some (.ref f)) (hx : G[n]? = some x := by rfl) : PE X (.Call (.Name x p) [] [] pos) (tCall sp dvs EF tNil) := by
  obtain ⟨fd, ds, kp, b, vd, F⟩ := F
  exact pe_call0 F hr (gl_of hg hx).1 hm kp b vd (fun _ _ _ _ _ _ _ q => (cxF q).elim) (gl_of hg hx).2.1
end
end Z


open PySem PySem.Spec L2
open PyProof.Rows hiding St
namespace My
open Z
def top (i : Nat) : Stmt := PySem.Challenge.pw_lostinrows_k03_whole_mirrored_rounding.main.body.getD i (.Pass ⟨0, 0, 0, 0⟩)

def modes9 : List Str := ["nearest-even", "nearest-out", "nearest-in", "nearest-up", "nearest-down", "inward", "outward", "upward", "downward"]
def near5 : List Str := ["nearest-even", "nearest-out", "nearest-in", "nearest-up", "nearest-down"]
def mir9 (m : Str) : Str := if m = "nearest-up" then "nearest-down" else if m = "nearest-down" then "nearest-up" else if m = "upward" then "downward" else if m = "downward" then "upward" else m
def idx9 (m : Str) : Nat := modes9.idxOf m
def goesUp (m : Str) (p : Bool) : Bool := if m = "inward" then !p else if m = "outward" then p else decide (m = "upward")
def tieUp (m : Str) (low : Int) (p : Bool) : Bool := if m = "nearest-even" then decide (low % 2 = 1) else if m = "nearest-out" then p else if m = "nearest-in" then !p else decide (m = "nearest-up")
def rqUp (n d : Int) (m : Str) : Bool := if m ∉ near5 then goesUp m (decide (0 < n)) else if 2 * (n % d) = d then tieUp m (n / d) (decide (0 < n)) else decide (d < 2 * (n % d))
def rq (n d : Int) (m : Str) : Int := if n % d = 0 then n / d else if rqUp n d m = true then n / d + 1 else n / d
def steady5 : List Str := ["nearest-even", "nearest-up", "nearest-down", "upward", "downward"]
theorem mem9 {m : Str} (h : m ∈ modes9) : m = "nearest-even" ∨ m = "nearest-out" ∨ m = "nearest-in" ∨ m = "nearest-up" ∨ m = "nearest-down" ∨ m = "inward" ∨ m = "outward" ∨ m = "upward" ∨ m = "downward" := by
  simpa [modes9] using h
theorem in9 {m : Str} (h : m ∈ modes9) : inV (.str m) (modes9.map V.str) = true := by rw [inV_str]; exact List.contains_iff_mem.mpr h
theorem in_str (m : Str) (l : List Str) : inV (.str m) (l.map V.str) = decide (m ∈ l) := by
  rw [inV_str]
  by_cases h : m ∈ l
  · rw [decide_eq_true h]; exact List.contains_iff_mem.mpr h
  · rw [decide_eq_false h]
    cases e : l.contains m with
    | false => rfl
    | true => exact absurd (List.contains_iff_mem.mp e) h
theorem big_step {i : Nat} {x d : Int} (h0 : 0 ≤ x) (h : Sz (4 * i) x) (d0 : 0 ≤ d) (d1 : d < 10) : Sz (4 * (i + 1)) (x * 10 + d) := by
  unfold Sz at *
  rw [Nat.mul_add, Nat.pow_add]
  omega
theorem pow_pos1 {b : Int} (h : 0 < b) (n : Nat) : 1 ≤ b ^ n := by
  have := Int.pow_pos (n := b) (m := n) h
  omega
theorem Sz.btw {n : Nat} {p d : Int} (h : Sz n d) (h0 : -1 ≤ p) (h1 : p ≤ d + 1) : Sz (n + 2) p := by
  unfold Sz at *
  rw [Nat.pow_add]
  have := Nat.one_le_two_pow (n := n)
  omega
theorem in5 (m : Str) : inV (.str m) (near5.map V.str) = decide (m ∈ near5) := by
  rw [inV_str]
  by_cases h : m ∈ near5
  · rw [decide_eq_true h]; exact List.contains_iff_mem.mpr h
  · rw [decide_eq_false h]
    cases e : near5.contains m with
    | false => rfl
    | true => exact absurd (List.contains_iff_mem.mp e) h
theorem idx9_at {m : Str} (h : m ∈ modes9) : (modes9.map V.str)[idx9 m]? = some (V.str m) := by
  rw [List.getElem?_map]
  have : idx9 m < modes9.length := List.idxOf_lt_length_iff.mpr h
  rw [List.getElem?_eq_getElem this]
  show some (V.str modes9[modes9.idxOf m]) = _
  rw [List.getElem_idxOf this]
theorem idx9_b : ∀ m ∈ modes9, ∀ k < idx9 m, modes9.getD k "" ≠ m := by decide +kernel
theorem idx9_no {m : Str} (h : m ∈ modes9) (k : Nat) (z : V) (hk : k < idx9 m) (e : (modes9.map V.str)[k]? = some z) : eqV z (.str m) = false := by
  rw [List.getElem?_map] at e
  have lt : idx9 m < modes9.length := List.idxOf_lt_length_iff.mpr h
  rw [List.getElem?_eq_getElem (by omega : k < modes9.length)] at e
  have e2 : V.str modes9[k] = z := Option.some.inj e
  subst e2
  show (modes9[k] == m) = false
  have q := idx9_b m h k hk
  rw [List.getD_eq_getElem?_getD, List.getElem?_eq_getElem (by omega : k < modes9.length)] at q
  exact beq_eq_false_iff_ne.mpr q
theorem idx9_lt {m : Str} (h : m ∈ modes9) : idx9 m < 9 := List.idxOf_lt_length_iff.mpr h
def mirIx : List Int := [0, 1, 2, 4, 3, 5, 6, 8, 7]
theorem mir_at {m : Str} (h : m ∈ modes9) : ∃ j : Int, atI (mirIx.map V.int) ((idx9 m : Nat) : Int) = some (V.int j) ∧ atI (modes9.map V.str) j = some (V.str (mir9 m)) := by
  rcases mem9 h with rfl | rfl | rfl | rfl | rfl | rfl | rfl | rfl | rfl <;> exact ⟨_, by rfl, by decide +kernel⟩

theorem pos_q {n d : Int} (hd : 0 < d) (hr : n % d ≠ 0) : 0 < n ↔ 0 ≤ n / d := by
  have h1 := Int.emod_nonneg n (by omega : d ≠ 0)
  have h2 := Int.emod_lt_of_pos n hd
  have h3 := Int.mul_ediv_add_emod n d
  constructor
  · intro h; exact Int.ediv_nonneg (by omega) (by omega)
  · intro h
    have : 0 ≤ d * (n / d) := Int.mul_nonneg (by omega) h
    omega
/-- whether the greater neighbour is taken, by the floor q, what is left r, the divisor d -/
def UU (q r d : Int) (m : Str) : Bool := if m ∉ near5 then goesUp m (decide (0 ≤ q)) else if 2 * r = d then tieUp m q (decide (0 ≤ q)) else decide (d < 2 * r)
theorem up_uu {n d : Int} (m : Str) (hd : 0 < d) (hr : n % d ≠ 0) : rqUp n d m = UU (n / d) (n % d) d m := by
  unfold rqUp UU
  rw [decide_eq_decide.mpr (pos_q hd hr)]
theorem rq_eq {n d : Int} (m : Str) (hd : 0 < d) : rq n d m = if n % d = 0 then n / d else if UU (n / d) (n % d) d m = true then n / d + 1 else n / d := by
  unfold rq
  split
  · rfl
  · rename_i h
    rw [up_uu m hd h]
theorem neg_dm {n d : Int} (hd : 0 < d) : (n % d = 0 → (-n) % d = 0 ∧ (-n) / d = -(n / d)) ∧ (n % d ≠ 0 → (-n) % d = d - n % d ∧ (-n) / d = -(n / d) - 1) := by
  have h1 := Int.emod_nonneg n (by omega : d ≠ 0)
  have h2 := Int.emod_lt_of_pos n hd
  have h3 := Int.mul_ediv_add_emod n d
  constructor
  · intro h
    have e : -n = d * (-(n / d)) := by rw [Int.mul_neg]; omega
    exact ⟨by rw [e]; exact Int.mul_emod_right _ _, by rw [e, Int.mul_ediv_cancel_left _ (by omega)]⟩
  · intro h
    have e : -n = (d - n % d) + d * (-(n / d) - 1) := by rw [Int.mul_sub, Int.mul_neg]; omega
    refine ⟨?_, ?_⟩
    · rw [e, Int.add_mul_emod_self_left, Int.emod_eq_of_lt (by omega) (by omega)]
    · rw [e, Int.add_mul_ediv_left _ _ (by omega), Int.ediv_eq_zero_of_lt (by omega) (by omega)]
      omega
theorem uu_neg {q r d : Int} {m : Str} (hm : m ∈ modes9) (h0 : 0 < r) (h1 : r < d) : UU (-q - 1) (d - r) d (mir9 m) = !UU q r d m := by
  rcases mem9 hm with rfl | rfl | rfl | rfl | rfl | rfl | rfl | rfl | rfl <;> simp [UU, mir9, goesUp, tieUp, near5]
  all_goals first
    | (split <;> split <;> first | omega | (simp; omega) | (rw [Bool.eq_iff_iff]; simp; omega))
    | (rw [Bool.eq_iff_iff]; simp; omega)
theorem rq_neg {n d : Int} {m : Str} (hd : 0 < d) (hm : m ∈ modes9) : rq (0 - n) d (mir9 m) = 0 - rq n d m := by
  have h1 := Int.emod_nonneg n (by omega : d ≠ 0)
  have h2 := Int.emod_lt_of_pos n hd
  rw [Int.zero_sub, Int.zero_sub, rq_eq _ hd, rq_eq _ hd]
  by_cases h : n % d = 0
  · obtain ⟨e1, e2⟩ := (neg_dm (n := n) hd).1 h
    rw [if_pos e1, if_pos h, e2]
  · obtain ⟨e1, e2⟩ := (neg_dm (n := n) hd).2 h
    rw [if_neg (by omega), if_neg h, e1, e2, uu_neg hm (by omega) h2]
    cases UU (n / d) (n % d) d m <;> simp <;> omega
theorem rq_low {n d : Int} {m : Str} (hd : 0 < d) : n / d ≤ rq n d m ∧ rq n d m ≤ n / d + (if n % d = 0 then 0 else 1) := by
  rw [rq_eq _ hd]
  split
  · omega
  · split <;> omega
theorem rq_low2 {n d : Int} {m : Str} (hd : 0 < d) : n / d ≤ rq n d m ∧ rq n d m ≤ n / d + (if decide (0 < n % d) = true then 1 else 0) := by
  have h := rq_low (n := n) (m := m) hd
  have h1 := Int.emod_nonneg n (by omega : d ≠ 0)
  refine ⟨h.1, Int.le_trans h.2 ?_⟩
  by_cases z : n % d = 0
  · rw [if_pos z, if_neg (by simp; omega)]; omega
  · rw [if_neg z, if_pos (by simp; omega)]; omega
theorem mir9_in : ∀ {m : Str}, m ∈ modes9 → mir9 m ∈ modes9 := by
  intro m h
  rcases mem9 h with rfl | rfl | rfl | rfl | rfl | rfl | rfl | rfl | rfl <;> decide +kernel
theorem uu_mono {q r s d : Int} {m : Str} (hm : m ∈ modes9) (h : r ≤ s) (u : UU q r d m = true) : UU q s d m = true := by
  revert u
  rcases mem9 hm with rfl | rfl | rfl | rfl | rfl | rfl | rfl | rfl | rfl <;> simp [UU, goesUp, tieUp, near5]
  all_goals first
    | done
    | (intros; omega)
    | (split <;> split <;> first | omega | (simp; try omega) | (intros; omega))
theorem rq_mono {n s d : Int} {m : Str} (hd : 0 < d) (hm : m ∈ modes9) (hs : 0 ≤ s) : rq n d m ≤ rq (n + s) d m := by
  have h1 := Int.emod_nonneg n (by omega : d ≠ 0)
  have h2 := Int.emod_lt_of_pos n hd
  have h3 := Int.mul_ediv_add_emod n d
  have g1 := Int.emod_nonneg (n + s) (by omega : d ≠ 0)
  have g3 := Int.mul_ediv_add_emod (n + s) d
  have le : n / d ≤ (n + s) / d := Int.ediv_le_ediv hd (by omega)
  have l1 := rq_low (n := n) (m := m) hd
  have l2 := rq_low (n := n + s) (m := m) hd
  by_cases e : n / d = (n + s) / d
  · have hr : n % d ≤ (n + s) % d := by rw [e] at h3; omega
    rw [rq_eq _ hd, rq_eq _ hd, ← e]
    by_cases z : n % d = 0
    · rw [if_pos z]
      split
      · omega
      · split <;> omega
    · rw [if_neg z, if_neg (show ¬ ((n + s) % d = 0) by omega)]
      cases u : UU (n / d) (n % d) d m with
      | true =>
        rw [uu_mono hm hr u]; exact Int.le_refl _
      | false => simp; split <;> omega
  · have : rq n d m ≤ n / d + 1 := by have := l1.2; split at this <;> omega
    omega
theorem uu_scale {q r d f : Int} (m : Str) (hf : 0 < f) : UU q (r * f) (d * f) m = UU q r d m := by
  unfold UU
  have e1 : (2 * (r * f) = d * f) = (2 * r = d) := by
    rw [← Int.mul_assoc]
    exact propext ⟨fun h => Int.eq_of_mul_eq_mul_right (by omega) h, fun h => by rw [h]⟩
  have e2 : decide (d * f < 2 * (r * f)) = decide (d < 2 * r) := by
    rw [← Int.mul_assoc]
    exact decide_eq_decide.mpr ⟨fun h => Int.lt_of_mul_lt_mul_right h (by omega), fun h => Int.mul_lt_mul_of_pos_right h hf⟩
  simp only [e1, e2]
theorem mul_emod_r (n d : Int) {f : Int} (hf : 0 < f) : n * f % (d * f) = n % d * f := by
  rw [Int.mul_comm n f, Int.mul_comm d f, Int.mul_emod_mul_of_pos _ _ hf, Int.mul_comm]
theorem rq_scale {n d f : Int} (m : Str) (hd : 0 < d) (hf : 0 < f) : rq (n * f) (d * f) m = rq n d m := by
  rw [rq_eq _ hd, rq_eq _ (Int.mul_pos hd hf), mul_emod_r n d hf, Int.mul_ediv_mul_of_pos_left _ _ hf, uu_scale m hf]
  have : (n % d * f = 0) = (n % d = 0) := propext ⟨fun h => (Int.mul_eq_zero.mp h).resolve_right (by omega), fun h => by rw [h, Int.zero_mul]⟩
  simp only [this]
theorem uu_shift {q r d k : Int} {m : Str} (hm : m ∈ steady5) : UU (q + 2 * k) r d m = UU q r d m := by
  have hm2 : m = "nearest-even" ∨ m = "nearest-up" ∨ m = "nearest-down" ∨ m = "upward" ∨ m = "downward" := by simpa [steady5] using hm
  rcases hm2 with rfl | rfl | rfl | rfl | rfl <;> simp [UU, goesUp, tieUp, near5]
  all_goals (try (rw [Int.add_mul_emod_self_left]))
theorem rq_shift {n d k : Int} {m : Str} (hd : 0 < d) (hm : m ∈ steady5) : rq (n + 2 * k * d) d m = rq n d m + 2 * k := by
  rw [rq_eq _ hd, rq_eq _ hd, Int.add_mul_emod_self_right, Int.add_mul_ediv_right _ _ (by omega), uu_shift hm]
  split
  · rfl
  · split <;> omega
structure Txt (w : World) (K : PySem.W.Frag) (mg : Str → Option Value) : Prop where
  d__law_power : ∃ fd, FunD K "_law_power" "_law_power" (defArgs (top 16)) (defBody (top 16)) (defScope (top 16)) [] [] (He.fAd K ("_law_power", none)) fd
  d__law_draw : ∃ fd, FunD K "_law_draw" "_law_draw" (defArgs (top 14)) (defBody (top 14)) (defScope (top 14)) [] [] (He.fAd K ("_law_draw", none)) fd
  d__law_source : ∃ fd, FunD K "_law_source" "_law_source" (defArgs (top 13)) (defBody (top 13)) (defScope (top 13)) [] [] (He.fAd K ("_law_source", none)) fd
  d__law_modes : ∃ fd, FunD K "_law_modes" "_law_modes" (defArgs (top 15)) (defBody (top 15)) (defScope (top 15)) [] [] (He.fAd K ("_law_modes", none)) fd
  d_check_mode : ∃ fd, FunD K "check_mode" "check_mode" (defArgs (top 7)) (defBody (top 7)) (defScope (top 7)) [] [] (He.fAd K ("check_mode", none)) fd
  d_mirror : ∃ fd, FunD K "mirror" "mirror" (defArgs (top 8)) (defBody (top 8)) (defScope (top 8)) [] [] (He.fAd K ("mirror", none)) fd
  d_goes_up : ∃ fd, FunD K "goes_up" "goes_up" (defArgs (top 9)) (defBody (top 9)) (defScope (top 9)) [] [] (He.fAd K ("goes_up", none)) fd
  d_tie_goes_up : ∃ fd, FunD K "tie_goes_up" "tie_goes_up" (defArgs (top 10)) (defBody (top 10)) (defScope (top 10)) [] [] (He.fAd K ("tie_goes_up", none)) fd
  d_round_quotient : ∃ fd, FunD K "round_quotient" "round_quotient" (defArgs (top 11)) (defBody (top 11)) (defScope (top 11)) [] [] (He.fAd K ("round_quotient", none)) fd
  d__law_mirror : ∃ fd, FunD K "_law_mirror" "_law_mirror" (defArgs (top 17)) (defBody (top 17)) (defScope (top 17)) [] [] (He.fAd K ("_law_mirror", none)) fd
  d__law_equal : ∃ fd, FunD K "_law_equal" "_law_equal" (defArgs (top 18)) (defBody (top 18)) (defScope (top 18)) [] [] (He.fAd K ("_law_equal", none)) fd
  d__law_integer : ∃ fd, FunD K "_law_integer" "_law_integer" (defArgs (top 22)) (defBody (top 22)) (defScope (top 22)) [] [] (He.fAd K ("_law_integer", none)) fd
  d__law_steady : ∃ fd, FunD K "_law_steady" "_law_steady" (defArgs (top 23)) (defBody (top 23)) (defScope (top 23)) [] [] (He.fAd K ("_law_steady", none)) fd
  d__law_big : ∃ fd, FunD K "_law_big" "_law_big" (defArgs (top 19)) (defBody (top 19)) (defScope (top 19)) [] [] (He.fAd K ("_law_big", none)) fd
  d__law_divisor : ∃ fd, FunD K "_law_divisor" "_law_divisor" (defArgs (top 20)) (defBody (top 20)) (defScope (top 20)) [] [] (He.fAd K ("_law_divisor", none)) fd
  d__law_numerator : ∃ fd, FunD K "_law_numerator" "_law_numerator" (defArgs (top 21)) (defBody (top 21)) (defScope (top 21)) [] [] (He.fAd K ("_law_numerator", none)) fd
  d__law_related : ∃ fd, FunD K "_law_related" "_law_related" (defArgs (top 24)) (defBody (top 24)) (defScope (top 24)) [] [] (He.fAd K ("_law_related", none)) fd
  d_law : ∃ fd, FunD K "law" "law" (defArgs (top 25)) (defBody (top 25)) (defScope (top 25)) [] [] (He.fAd K ("law", none)) fd
  g_MIRRORS : mg "MIRRORS" = some (.ref (He.ga K "MIRRORS"))
  k_MIRRORS : ∃ es n, KDict K w (He.ga K "MIRRORS") es n
  m_MIRRORS : ∀ m ∈ modes9, ∃ r, PySem.W.nsIn K (He.ga K "MIRRORS") m = some r ∧ (match r with | none => mir9 m = m | some u => RelV (.str (mir9 m)) u)
  g_MODES : mg "MODES" = some (.ref (He.ga K "MODES"))
  t_MODES : ∀ H : Hp, SqT K H (He.ga K "MODES") [V.str "nearest-even", V.str "nearest-out", V.str "nearest-in", V.str "nearest-up", V.str "nearest-down", V.str "inward", V.str "outward", V.str "upward", V.str "downward"]
  g_NEAREST : mg "NEAREST" = some (.ref (He.ga K "NEAREST"))
  t_NEAREST : ∀ H : Hp, SqT K H (He.ga K "NEAREST") [V.str "nearest-even", V.str "nearest-out", V.str "nearest-in", V.str "nearest-up", V.str "nearest-down"]
  g__law_big : mg "_law_big" = some (.ref (He.fAd K ("_law_big", none)))
  g__law_divisor : mg "_law_divisor" = some (.ref (He.fAd K ("_law_divisor", none)))
  g__law_draw : mg "_law_draw" = some (.ref (He.fAd K ("_law_draw", none)))
  g__law_equal : mg "_law_equal" = some (.ref (He.fAd K ("_law_equal", none)))
  g__law_integer : mg "_law_integer" = some (.ref (He.fAd K ("_law_integer", none)))
  g__law_mirror : mg "_law_mirror" = some (.ref (He.fAd K ("_law_mirror", none)))
  g__law_modes : mg "_law_modes" = some (.ref (He.fAd K ("_law_modes", none)))
  g__law_numerator : mg "_law_numerator" = some (.ref (He.fAd K ("_law_numerator", none)))
  g__law_power : mg "_law_power" = some (.ref (He.fAd K ("_law_power", none)))
  g__law_related : mg "_law_related" = some (.ref (He.fAd K ("_law_related", none)))
  g__law_source : mg "_law_source" = some (.ref (He.fAd K ("_law_source", none)))
  g__law_steady : mg "_law_steady" = some (.ref (He.fAd K ("_law_steady", none)))
  b_abs : mg "abs" = none
  b_bool : mg "bool" = none
  g_check_mode : mg "check_mode" = some (.ref (He.fAd K ("check_mode", none)))
  b_divmod : mg "divmod" = none
  g_goes_up : mg "goes_up" = some (.ref (He.fAd K ("goes_up", none)))
  b_int : mg "int" = none
  b_isinstance : mg "isinstance" = none
  g_law : mg "law" = some (.ref (He.fAd K ("law", none)))
  b_len : mg "len" = none
  g_mirror : mg "mirror" = some (.ref (He.fAd K ("mirror", none)))
  b_range : mg "range" = none
  g_round_quotient : mg "round_quotient" = some (.ref (He.fAd K ("round_quotient", none)))
  b_str : mg "str" = none
  g_tie_goes_up : mg "tie_goes_up" = some (.ref (He.fAd K ("tie_goes_up", none)))
/-! _law_power -/
def sp__law_power (K : PySem.W.Frag) : Sp := fun vs H Q _ => ∃ (base : Int) (count : Int), vs = [V.int base, V.int count] ∧ (0 ≤ count) ∧ (count ≤ 100000) ∧ (Sz 6 base) ∧ ∀ (r : Int) (H' : Hp), Same H H' → r = base ^ count.toNat → Q (V.int r) H'
abbrev s__law_power : Stmt := top 16
theorem sc__law_power : FnScope ["base", "count", "result", "k"] ["base", "count"] (defScope s__law_power) := ⟨rfl, rfl, rfl, by decide +kernel, rfl, by decide +kernel, by decide +kernel⟩
theorem vis__law_power : visB ["base", "count", "result", "k"] (defScope s__law_power) = true := by decide +kernel
theorem gl__law_power : glB ["range"] (defScope s__law_power) = true := by decide +kernel
theorem ok__law_power {P : Program} {w : World} {K : PySem.W.Frag} {mg : Str → Option Value} {base : Heap} (T : Txt w K mg) : OkD P w K mg base 1 (He.fAd K ("_law_power", none)) ["base", "count"] [] (sp__law_power K) := by
  obtain ⟨fd, F⟩ := T.d__law_power
  refine ⟨fd, [], F.kp, F.bindsN (fun _ _ _ _ _ _ us hl => match us, hl with | [_, _], _ => rfl), .nil, ?_⟩
  have sc := sc__law_power; have vis := vis__law_power; have gls := gl__law_power
  refine F.ok sc (fun vs H Q E h => ?_) (fun cdv A outer s H0 vs Q E hr h => ?_)
  · obtain ⟨base, count, rfl, _⟩ := h; rfl
  · obtain ⟨base, count, rfl, e0, e1, e2, k⟩ := h
    refine ⟨_, PSs.nox (pss_cons (ps_set (i := 2) sc.nd rfl (.inl rfl) pe_int) (pss_cons (ps_for PassesOwn.never rfl (pi_range1 (gl_of gls (i := 0) rfl).1 T.b_range (pa_cons (pn vis 1) pa_nil)) (pg_name (i := 3) sc.nd rfl (.inl rfl)) (pss_one (ps_set (i := 2) sc.nd rfl (.inl rfl) (pe_op op_mulX (pn vis 2) (pn vis 0))))) (pss_one (ps_ret (pn vis 2))))), ?_⟩
    refine i_start (σ' := [some (V.int base), some (V.int count), none, none]) rfl ?_
    refine i_seq <| i_asg <| i_c <| n2 <| i_nx <| i_seq <| i_for <| i_for1 <| i_cons <| v1 <| i_nil <| i_rng1 (fun i σ H' => ∃ (x : Int) (o_k : Option V), σ = [some (V.int base), some (V.int count), some (V.int x), o_k] ∧ Same H0 H' ∧ x = base ^ i) (by omega) (by omega) ?_ ?_ ?_
    ·
      exact ⟨_, _, rfl, (Same.refl _), (by simp)⟩
    ·
      intro i
      rintro σ H1 hi ⟨x, o_k, rfl, s1, i0⟩
      refine n3 <| i_asg <| i_op <| v2 <| v0 <| i_I (by subst i0; exact mulx ((Sz.pow e2 i).mono (by omega : 6 * i + 1 ≤ 700000)) e2) <| n2 <| ?_
      exact ⟨_, _, rfl, s1, (by subst i0; rw [Int.pow_succ])⟩
    ·
      rintro σ H2 ⟨x, o_k, rfl, s2, i0⟩
      refine i_nx <| i_ret <| v2 <| ?_
      exact k _ _ s2 (by exact i0)

/-! _law_draw -/
def sp__law_draw (K : PySem.W.Frag) : Sp := fun vs H Q _ => ∃ (sourceA : Addr) (many : Int), vs = [V.ref sourceA, V.int many] ∧ IsSrc H sourceA ∧ (0 < many) ∧ (Sz 8000 many) ∧ ∀ (r : Int) (H' : Hp), Ext H H' → IsSrc H' sourceA → 0 ≤ r → r < many → Q (V.int r) H'
abbrev s__law_draw : Stmt := top 14
theorem sc__law_draw : FnScope ["source", "many", "mixed", "cell", "size", "value"] ["source", "many"] (defScope s__law_draw) := ⟨rfl, rfl, rfl, by decide +kernel, rfl, by decide +kernel, by decide +kernel⟩
theorem vis__law_draw : visB ["source", "many", "mixed", "cell", "size", "value"] (defScope s__law_draw) = true := by decide +kernel
theorem gl__law_draw : glB ["len", "abs", "int"] (defScope s__law_draw) = true := by decide +kernel
theorem ok__law_draw {P : Program} {w : World} {K : PySem.W.Frag} {mg : Str → Option Value} {base : Heap} (T : Txt w K mg) : OkD P w K mg base 1 (He.fAd K ("_law_draw", none)) ["source", "many"] [] (sp__law_draw K) := by
  obtain ⟨fd, F⟩ := T.d__law_draw
  refine ⟨fd, [], F.kp, F.bindsN (fun _ _ _ _ _ _ us hl => match us, hl with | [_, _], _ => rfl), .nil, ?_⟩
  have sc := sc__law_draw; have vis := vis__law_draw; have gls := gl__law_draw
  refine F.ok sc (fun vs H Q E h => ?_) (fun cdv A outer s H0 vs Q E hr h => ?_)
  · obtain ⟨sourceA, many, rfl, _⟩ := h; rfl
  · obtain ⟨sourceA, many, rfl, a0, e0, e1, k⟩ := h
    refine ⟨_, PSs.nox (C8.pss_cut (ps_if (PW.pt (pw_and (pt_cmpR op_eqI (pe_ix ix_list (pn vis 0) pe_int (fun _ _ => rfl)) pe_int (nomark _)) (pw_and1 (pt_cmpR op_eqI (pe_ix ix_list (pn vis 0) pe_int (fun _ _ => rfl)) pe_int (nomark _))))) (pss_cons (ps_if (pt_cmpR op_ge (pe_ix ix_list (pn vis 0) pe_int (fun _ _ => rfl)) (pcB call_lenS gls 0 T.b_len PySem.boot_len (pa_cons (pe_ix ix_list (pn vis 0) pe_int (fun _ _ => rfl)) pa_nil)) (nomark _)) (pss_one (ps_ret pe_int)) pss_nil) (pss_cons (ps_set (i := 3) sc.nd rfl (.inl rfl) (pe_ix ix_list (pe_ix ix_list (pn vis 0) pe_int (fun _ _ => rfl)) (pe_ix ix_list (pn vis 0) pe_int (fun _ _ => rfl)) (fun _ _ => rfl))) (pss_cons (ps_asg (pe_op op_add (pe_ix ix_list (pn vis 0) pe_int (fun _ _ => rfl)) pe_int) (pg_sub (pn vis 0) pe_int set_list)) (pss_cons (ps_set (i := 4) sc.nd rfl (.inl rfl) (pe_op op_mul pe_int (pn vis 3))) (pss_cons (ps_if (pt_cmpR op_lt (pn vis 3) pe_int (nomark _)) (pss_one (ps_set (i := 4) sc.nd rfl (.inl rfl) (pe_op op_sub (pe_op op_sub pe_int (pe_op op_mul pe_int (pn vis 3))) pe_int))) pss_nil) (pss_one (ps_if (pt_cmpR op_ge (pcB call_absI gls 1 T.b_abs (by decide +kernel) (pa_cons (pn vis 3) pa_nil)) (pe_op op_pow pe_int pe_int) (nomark _)) (pss_one (ps_asg (pn vis 4) (pg_sub (pn vis 0) pe_int set_list))) (pss_cons (ps_asg (pn vis 4) (pg_sub (pn vis 0) pe_int set_list)) (pss_one (ps_asg pe_int (pg_sub (pn vis 0) pe_int set_list))))))))))) pss_nil) (pss_cons (ps_if (pt_cmpR op_gt (pe_ix ix_list (pn vis 0) pe_int (fun _ _ => rfl)) pe_int (nomark _)) (pss_cons (ps_set (i := 5) sc.nd rfl (.inl rfl) (pe_op op_mod (pcT call_intI gls 2 T.b_int boot_int (pa_cons (pe_ix ix_list (pn vis 0) pe_int (fun _ _ => rfl)) pa_nil)) (pn vis 1))) (pss_cons (ps_asg (pe_op op_fdivW (pe_ix ix_list (pn vis 0) pe_int (fun _ _ => rfl)) (pn vis 1)) (pg_sub (pn vis 0) pe_int set_list)) (pss_one (ps_ret (pn vis 5))))) pss_nil) (pss_cons (ps_asg (pe_op op_sub (pe_ix ix_list (pn vis 0) pe_int (fun _ _ => rfl)) pe_int) (pg_sub (pn vis 0) pe_int set_list)) (pss_cons (ps_set (i := 2) sc.nd rfl (.inl rfl) (pe_op op_mod (pcT call_intI gls 2 T.b_int boot_int (pa_cons (pe_op op_add (pe_op op_add (pe_op op_mul (pe_ix ix_list (pn vis 0) pe_int (fun _ _ => rfl)) pe_int) (pe_op op_mul (pe_ix ix_list (pn vis 0) pe_int (fun _ _ => rfl)) pe_int)) pe_int) pa_nil)) pe_int)) (pss_one (ps_ret (pe_op op_mod (pe_op op_mod (pcT call_intI gls 2 T.b_int boot_int (pa_cons (pe_op op_add (pe_op op_mul (pn vis 2) pe_int) (pe_op op_mul (pe_ix ix_list (pn vis 0) pe_int (fun _ _ => rfl)) pe_int)) pa_nil)) pe_int) (pn vis 1)))))))), ?_⟩
    refine i_start (σ' := [some (V.ref sourceA), some (V.int many), none, none, none, none]) rfl ?_
    refine i_cut (fun σ H' => ∃ (o1 : Option V) (o2 : Option V), σ = [some (V.ref sourceA), some (V.int many), none, o1, o2, none] ∧ Ext H0 H' ∧ IsSrc H' sourceA) ?_ ?_
    ·
      obtain ⟨i1, x1, y1, z1, cA1, cs1, fs1, fc1, hi1⟩ := a0
      refine i_if <| i_and <| i_test <| i_op <| i_op <| v0 <| i_c <| i_ixL (SqL.of fs1) (atI_nat (j := 1) rfl) <| i_c <| i_I0 <| i_bl <| i_ite (fun c1 => ?_) (fun c1 => ?_)
      ·
        refine i_test <| i_op <| i_op <| v0 <| i_c <| i_ixL (SqL.of fs1) (atI_nat (j := 3) rfl) <| i_c <| i_I0 <| i_bl <| i_ite (fun c1' => ?_) (fun c1' => ?_)
        ·
          refine i_seq <| i_if <| i_test <| i_op <| i_op <| v0 <| i_c <| i_ixL (SqL.of fs1) (atI_nat (j := 0) rfl) <| i_cb <| i_cons <| i_op <| v0 <| i_c <| i_ixL (SqL.of fs1) (atI_nat (j := 4) rfl) <| i_nil <| i_lenL (SqL.of fc1) <| i_I0 <| i_bl <| i_ite (fun c2 => ?_) (fun c2 => ?_)
          ·
            refine i_ret <| i_c <| ?_
            exact k _ _ (Ext.refl _) ⟨_, _, _, _, _, _, fs1, fc1, (by omega)⟩ (by first | rfl | assumption | omega) (by first | rfl | assumption | omega)
          ·
            refine i_next <| i_nx <| i_seq <| ?_
            have q2 := c2; rw [List.length_map] at q2
            obtain ⟨cell, _, hat⟩ := at_map (f := V.int) (xs := cs1) hi1 (by omega)
            refine i_asg <| i_op <| i_op <| v0 <| i_c <| i_ixL (SqL.of fs1) (atI_nat (j := 4) rfl) <| i_op <| v0 <| i_c <| i_ixL (SqL.of fs1) (atI_nat (j := 0) rfl) <| i_ixL (SqL.of fc1) hat <| n3 <| i_nx <| i_seq <| i_asg <| i_op <| i_op <| v0 <| i_c <| i_ixL (SqL.of fs1) (atI_nat (j := 0) rfl) <| i_c <| i_I0 <| i_gsub <| v0 <| i_c <| i_setL (j := 0) fs1 rfl (fun H2 f2 w2 => ?_)
            have s2 : Ext H0 H2 := ext_set fs1 trivial w2
            simp only [List.set_cons_succ, List.set_cons_zero] at f2
            refine i_nx <| i_seq <| i_asg <| i_op <| i_c <| v3 <| i_I (by first | exact .inl ⟨by decide, by decide⟩ | exact .inr ⟨by decide, by decide⟩) <| n4 <| i_nx <| i_seq <| i_if <| i_test <| i_op <| v3 <| i_c <| i_I0 <| i_bl <| i_ite (fun c7 => ?_) (fun c7 => ?_)
            ·
              refine i_asg <| i_op <| i_op <| i_c <| i_op <| i_c <| v3 <| i_I (by first | exact .inl ⟨by decide, by decide⟩ | exact .inr ⟨by decide, by decide⟩) <| i_I0 <| i_c <| i_I0 <| n4 <| i_nx <| i_if <| i_test <| i_op <| i_cb <| i_cons <| v3 <| i_nil <| i_abs <| i_op <| i_c <| i_c <| i_I (by exact ⟨by decide, by decide, by decide⟩) <| i_I0 <| i_bl <| i_ite (fun c9 => ?_) (fun c9 => ?_)
              ·
                refine i_asg <| v4 <| i_gsub <| v0 <| i_c <| i_setL (j := 1) f2 rfl (fun H3 f3 w3 => ?_)
                have s3 : Ext H2 H3 := ext_set f2 trivial w3
                simp only [List.set_cons_succ, List.set_cons_zero] at f3
                exact ⟨_, _, rfl, (s2.trans s3), ⟨_, _, _, _, _, _, f3, ((s2.trans s3) _ _ (stab_int _) fc1), (by omega)⟩⟩
              ·
                refine i_seq <| i_asg <| v4 <| i_gsub <| v0 <| i_c <| i_setL (j := 2) f2 rfl (fun H4 f4 w4 => ?_)
                have s4 : Ext H2 H4 := ext_set f2 trivial w4
                simp only [List.set_cons_succ, List.set_cons_zero] at f4
                refine i_nx <| i_asg <| i_c <| i_gsub <| v0 <| i_c <| i_setL (j := 3) f4 rfl (fun H5 f5 w5 => ?_)
                have s5 : Ext H4 H5 := ext_set f4 trivial w5
                simp only [List.set_cons_succ, List.set_cons_zero] at f5
                exact ⟨_, _, rfl, (s2.trans (s4.trans s5)), ⟨_, _, _, _, _, _, f5, ((s2.trans (s4.trans s5)) _ _ (stab_int _) fc1), (by omega)⟩⟩
            ·
              refine i_next <| i_nx <| i_if <| i_test <| i_op <| i_cb <| i_cons <| v3 <| i_nil <| i_abs <| i_op <| i_c <| i_c <| i_I (by exact ⟨by decide, by decide, by decide⟩) <| i_I0 <| i_bl <| i_ite (fun c9' => ?_) (fun c9' => ?_)
              ·
                refine i_asg <| v4 <| i_gsub <| v0 <| i_c <| i_setL (j := 1) f2 rfl (fun H6 f6 w6 => ?_)
                have s6 : Ext H2 H6 := ext_set f2 trivial w6
                simp only [List.set_cons_succ, List.set_cons_zero] at f6
                exact ⟨_, _, rfl, (s2.trans s6), ⟨_, _, _, _, _, _, f6, ((s2.trans s6) _ _ (stab_int _) fc1), (by omega)⟩⟩
              ·
                refine i_seq <| i_asg <| v4 <| i_gsub <| v0 <| i_c <| i_setL (j := 2) f2 rfl (fun H7 f7 w7 => ?_)
                have s7 : Ext H2 H7 := ext_set f2 trivial w7
                simp only [List.set_cons_succ, List.set_cons_zero] at f7
                refine i_nx <| i_asg <| i_c <| i_gsub <| v0 <| i_c <| i_setL (j := 3) f7 rfl (fun H8 f8 w8 => ?_)
                have s8 : Ext H7 H8 := ext_set f7 trivial w8
                simp only [List.set_cons_succ, List.set_cons_zero] at f8
                exact ⟨_, _, rfl, (s2.trans (s7.trans s8)), ⟨_, _, _, _, _, _, f8, ((s2.trans (s7.trans s8)) _ _ (stab_int _) fc1), (by omega)⟩⟩
        ·
          refine i_next <| ?_
          exact ⟨_, _, rfl, (Ext.refl _), ⟨_, _, _, _, _, _, fs1, fc1, (by omega)⟩⟩
      ·
        refine i_iteF <| i_next <| ?_
        exact ⟨_, _, rfl, (Ext.refl _), ⟨_, _, _, _, _, _, fs1, fc1, (by omega)⟩⟩
    ·
      rintro σ H9 ⟨o1, o2, rfl, s9, g9⟩
      refine i_seq <| ?_
      obtain ⟨i10, x10, y10, z10, cA10, cs10, fs10, fc10, hi10⟩ := g9
      refine i_if <| i_test <| i_op <| i_op <| v0 <| i_c <| i_ixL (SqL.of fs10) (atI_nat (j := 1) rfl) <| i_c <| i_I0 <| i_bl <| i_ite (fun c14 => ?_) (fun c14 => ?_)
      ·
        refine i_seq <| i_asg <| i_op <| i_cb <| i_cons <| i_op <| v0 <| i_c <| i_ixL (SqL.of fs10) (atI_nat (j := 1) rfl) <| i_nil <| i_int <| v1 <| i_I (by show (0 : Int) < _; first | decide | assumption | omega) <| n5 <| i_nx <| i_seq <| i_asg <| i_op <| i_op <| v0 <| i_c <| i_ixL (SqL.of fs10) (atI_nat (j := 1) rfl) <| v1 <| i_I (by exact divw e0 e1) <| i_gsub <| v0 <| i_c <| i_setL (j := 1) fs10 rfl (fun H11 f11 w11 => ?_)
        have s11 : Ext H9 H11 := ext_set fs10 trivial w11
        simp only [List.set_cons_succ, List.set_cons_zero] at f11
        refine i_nx <| i_ret <| v5 <| ?_
        exact k _ _ (s9.trans s11) ⟨_, _, _, _, _, _, f11, (s11 _ _ (stab_int _) fc10), (by omega)⟩ (by first | exact Int.emod_nonneg _ (by omega) | exact Int.emod_lt_of_pos _ (by omega)) (by first | exact Int.emod_nonneg _ (by omega) | exact Int.emod_lt_of_pos _ (by omega))
      ·
        refine i_next <| i_nx <| i_seq <| i_asg <| i_op <| i_op <| v0 <| i_c <| i_ixL (SqL.of fs10) (atI_nat (j := 3) rfl) <| i_c <| i_I0 <| i_gsub <| v0 <| i_c <| i_setL (j := 3) fs10 rfl (fun H12 f12 w12 => ?_)
        have s12 : Ext H9 H12 := ext_set fs10 trivial w12
        simp only [List.set_cons_succ, List.set_cons_zero] at f12
        refine i_nx <| i_seq <| i_asg <| i_op <| i_cb <| i_cons <| i_op <| i_op <| i_op <| i_op <| v0 <| i_c <| i_ixL (SqL.of f12) (atI_nat (j := 2) rfl) <| i_c <| i_I (by first | exact .inl ⟨by decide, by decide⟩ | exact .inr ⟨by decide, by decide⟩) <| i_op <| i_op <| v0 <| i_c <| i_ixL (SqL.of f12) (atI_nat (j := 3) rfl) <| i_c <| i_I (by first | exact .inl ⟨by decide, by decide⟩ | exact .inr ⟨by decide, by decide⟩) <| i_I0 <| i_c <| i_I0 <| i_nil <| i_int <| i_c <| i_I (by show (0 : Int) < _; first | decide | assumption | omega) <| n2 <| i_nx <| i_ret <| i_op <| i_op <| i_cb <| i_cons <| i_op <| i_op <| v2 <| i_c <| i_I (by first | exact .inl ⟨by decide, by decide⟩ | exact .inr ⟨by decide, by decide⟩) <| i_op <| i_op <| v0 <| i_c <| i_ixL (SqL.of f12) (atI_nat (j := 2) rfl) <| i_c <| i_I (by first | exact .inl ⟨by decide, by decide⟩ | exact .inr ⟨by decide, by decide⟩) <| i_I0 <| i_nil <| i_int <| i_c <| i_I (by show (0 : Int) < _; first | decide | assumption | omega) <| v1 <| i_I (by show (0 : Int) < _; first | decide | assumption | omega) <| ?_
        exact k _ _ (s9.trans s12) ⟨_, _, _, _, _, _, f12, (s12 _ _ (stab_int _) fc10), (by omega)⟩ (by first | exact Int.emod_nonneg _ (by omega) | exact Int.emod_lt_of_pos _ (by omega)) (by first | exact Int.emod_nonneg _ (by omega) | exact Int.emod_lt_of_pos _ (by omega))

/-! _law_source -/
def sp__law_source (K : PySem.W.Frag) : Sp := fun vs H Q _ => ∃ (scriptA : Addr) (script : List Int), vs = [V.ref scriptA] ∧ SqL K H scriptA (script.map V.int) ∧ (script.length ≤ 63) ∧ ∀ (rA : Addr) (H' : Hp), Same H H' → IsSrc H' rA → Q (V.ref rA) H'
abbrev s__law_source : Stmt := top 13
theorem sc__law_source : FnScope ["script", "cell"] ["script"] (defScope s__law_source) := ⟨rfl, rfl, rfl, by decide +kernel, rfl, by decide +kernel, by decide +kernel⟩
theorem vis__law_source : visB ["script"] (defScope s__law_source) = true := by decide +kernel
theorem gl__law_source : glB [] (defScope s__law_source) = true := by decide +kernel
theorem ok__law_source {P : Program} {w : World} {K : PySem.W.Frag} {mg : Str → Option Value} {base : Heap} (T : Txt w K mg) : OkD P w K mg base 1 (He.fAd K ("_law_source", none)) ["script"] [] (sp__law_source K) := by
  obtain ⟨fd, F⟩ := T.d__law_source
  refine ⟨fd, [], F.kp, F.bindsN (fun _ _ _ _ _ _ us hl => match us, hl with | [_], _ => rfl), .nil, ?_⟩
  have sc := sc__law_source; have vis := vis__law_source; have gls := gl__law_source
  refine F.ok sc (fun vs H Q E h => ?_) (fun cdv A outer s H0 vs Q E hr h => ?_)
  · obtain ⟨scriptA, script, rfl, _⟩ := h; rfl
  · obtain ⟨scriptA, script, rfl, a0, e0, k⟩ := h
    refine ⟨_, PSs.nox (pss_one (ps_ret (pe_lst (pa_cons pe_int (pa_cons pe_int (pa_cons pe_int (pa_cons pe_int (pa_cons (pe_lc (own := [("cell", 1)]) (g := gName 1) (tt := tYes) rfl sc.nd (pi_list (pnc vis 0)) (blkOk_by (N := ["script", "cell"]) (sc := defScope s__law_source) (by decide +kernel)) (fun _ _ _ _ _ => pg_name (i := 1) sc.nd rfl (.inl rfl)) (fun _ _ _ _ _ => pts_nil) (fun _ _ _ _ _ => (pe_callTy call_intI (by rfl) T.b_int boot_int (pa_cons (pv 1) pa_nil)))) pa_nil)))))))), ?_⟩
    refine i_start (σ' := [some (V.ref scriptA), none]) rfl ?_
    refine i_ret <| i_lst <| i_cons <| i_c <| i_cons <| i_c <| i_cons <| i_c <| i_cons <| i_c <| i_cons <| i_lc <| i_lt <| v0 <| i_lcL (xs := _) a0 (fun p1 z1 => ?_)
    refine lc_list (xs := script.map V.int) (fun q H' => (∀ b o, H0 b = some o → H' b = some o) ∧ H' p1 = some (.lst ((script.take q).map V.int))) ?_ ?_ ?_ ?_
    ·
      exact ⟨same_new z1, upd_same⟩
    ·
      intro q H' _ ⟨e, _⟩; exact Same.seq e a0
    ·
      intro q y H' hy ⟨e1, d1⟩
      obtain ⟨cell, hc, rfl⟩ : ∃ c, script[q]? = some c ∧ y = V.int c := by
        rw [List.getElem?_map] at hy
        cases ee : script[q]? with
        | none => rw [ee] at hy; cases hy
        | some z => rw [ee] at hy; exact ⟨z, rfl, (Option.some.inj hy).symm⟩
      refine n1 <| i_lcw <| i_cb <| i_cons <| v1 <| i_nil <| i_int <| ?_
      exact ⟨_, d1, (by have q1 := (List.getElem?_eq_some_iff.mp hc).1; have q2 := List.length_take_le q script; rw [List.length_map]; exact Nat.lt_of_le_of_lt (Nat.le_trans q2 (Nat.le_trans (Nat.le_of_lt q1) e0)) (by decide)), same_up z1 e1, (upd_same.trans (by rw [take_succ hc, List.map_append]; rfl))⟩
    ·
      rintro H1 ⟨s1, f1⟩
      rw [List.length_map, List.take_length] at f1
      have s1 : Same H0 H1 := s1
      refine i_nil <| i_kLst (of_decide_eq_true rfl) (fun p2 H2 z2 s2 f2 => ?_)
      exact k _ _ (s1.trans s2) ⟨_, _, _, _, _, _, f2, (s2 _ _ f1), (by decide)⟩

/-! _law_modes -/
def sp__law_modes (K : PySem.W.Frag) : Sp := fun vs H Q _ => vs = [] ∧ ∀ (rA : Addr) (r : List Str) (H' : Hp), Same H H' → H' rA = some (.lst (r.map V.str)) → r = modes9 → Q (V.ref rA) H'
abbrev s__law_modes : Stmt := top 15
theorem sc__law_modes : FnScope ["near"] [] (defScope s__law_modes) := ⟨rfl, rfl, rfl, by decide +kernel, rfl, by decide +kernel, by decide +kernel⟩
theorem vis__law_modes : visB ["near"] (defScope s__law_modes) = true := by decide +kernel
theorem gl__law_modes : glB [] (defScope s__law_modes) = true := by decide +kernel
theorem ok__law_modes {P : Program} {w : World} {K : PySem.W.Frag} {mg : Str → Option Value} {base : Heap} (T : Txt w K mg) : OkD P w K mg base 1 (He.fAd K ("_law_modes", none)) [] [] (sp__law_modes K) := by
  obtain ⟨fd, F⟩ := T.d__law_modes
  refine ⟨fd, [], F.kp, F.bindsN (fun _ _ _ _ _ _ us hl => match us, hl with | [], _ => rfl), .nil, ?_⟩
  have sc := sc__law_modes; have vis := vis__law_modes; have gls := gl__law_modes
  refine F.ok sc (fun vs H Q E h => ?_) (fun cdv A outer s H0 vs Q E hr h => ?_)
  · obtain ⟨rfl, _⟩ := h; rfl
  · obtain ⟨rfl, k⟩ := h
    refine ⟨_, PSs.nox (pss_cons (ps_set (i := 0) sc.nd rfl (.inl rfl) (pe_lst (pa_cons pe_str (pa_cons pe_str (pa_cons pe_str (pa_cons pe_str (pa_cons pe_str pa_nil))))))) (pss_one (ps_ret (pe_op op_cat (pn vis 0) (pe_lst (pa_cons pe_str (pa_cons pe_str (pa_cons pe_str (pa_cons pe_str pa_nil))))))))), ?_⟩
    refine i_start (σ' := [none]) rfl ?_
    refine i_seq <| i_asg <| i_lst <| i_cons <| i_c <| i_cons <| i_c <| i_cons <| i_c <| i_cons <| i_c <| i_cons <| i_c <| i_nil <| i_kLst (of_decide_eq_true rfl) (fun p1 H1 z1 s1 f1 => ?_)
    refine n0 <| i_nx <| i_ret <| i_op <| v0 <| i_lst <| i_cons <| i_c <| i_cons <| i_c <| i_cons <| i_c <| i_cons <| i_c <| i_nil <| i_kLst (of_decide_eq_true rfl) (fun p2 H2 z2 s2 f2 => ?_)
    refine i_cat (s2 _ _ f1) f2 (by decide) (by decide) (fun p3 H3 z3 s3 f3 => ?_)
    exact k _ modes9 _ (s1.trans (s2.trans s3)) f3 (by rfl)

/-! check_mode -/
def sp_check_mode (K : PySem.W.Frag) : Sp := fun vs H Q _ => ∃ (mode : Str), vs = [V.str mode] ∧ (mode ∈ modes9) ∧ ∀  (H' : Hp), Same H H' → Q (V.non) H'
abbrev s_check_mode : Stmt := top 7
theorem sc_check_mode : FnScope ["mode"] ["mode"] (defScope s_check_mode) := ⟨rfl, rfl, rfl, by decide +kernel, rfl, by decide +kernel, by decide +kernel⟩
theorem vis_check_mode : visB ["mode"] (defScope s_check_mode) = true := by decide +kernel
theorem gl_check_mode : glB ["MODES"] (defScope s_check_mode) = true := by decide +kernel
theorem ok_check_mode {P : Program} {w : World} {K : PySem.W.Frag} {mg : Str → Option Value} {base : Heap} (T : Txt w K mg) : OkD P w K mg base 1 (He.fAd K ("check_mode", none)) ["mode"] [] (sp_check_mode K) := by
  obtain ⟨fd, F⟩ := T.d_check_mode
  refine ⟨fd, [], F.kp, F.bindsN (fun _ _ _ _ _ _ us hl => match us, hl with | [_], _ => rfl), .nil, ?_⟩
  have sc := sc_check_mode; have vis := vis_check_mode; have gls := gl_check_mode
  refine F.ok sc (fun vs H Q E h => ?_) (fun cdv A outer s H0 vs Q E hr h => ?_)
  · obtain ⟨mode, rfl, _⟩ := h; rfl
  · obtain ⟨mode, rfl, e0, k⟩ := h
    refine ⟨_, PSs.nox (pss_one (ps_if (pt_cmpR op_notIn_seq (pn vis 0) (pgr gls 0 T.g_MODES) (by rfl)) pss_never pss_nil)), ?_⟩
    refine i_start (σ' := [some (V.str mode)]) rfl ?_
    refine i_if <| i_test <| i_op <| v0 <| i_c <| i_inN (.inr (T.t_MODES H0)) rfl (by exact flat_str modes9) (b := true) (by exact in9 e0) <| i_bl <| i_iteNT <| i_next <| ?_
    exact k _ (Same.refl _)

/-! mirror -/
def sp_mirror (K : PySem.W.Frag) : Sp := fun vs H Q _ => ∃ (mode : Str), vs = [V.str mode] ∧ (mode ∈ modes9) ∧ ∀ (r : Str) (H' : Hp), Same H H' → r = mir9 mode → Q (V.str r) H'
abbrev s_mirror : Stmt := top 8
theorem sc_mirror : FnScope ["mode"] ["mode"] (defScope s_mirror) := ⟨rfl, rfl, rfl, by decide +kernel, rfl, by decide +kernel, by decide +kernel⟩
theorem vis_mirror : visB ["mode"] (defScope s_mirror) = true := by decide +kernel
theorem gl_mirror : glB ["check_mode", "MIRRORS"] (defScope s_mirror) = true := by decide +kernel
theorem ok_mirror {P : Program} {w : World} {K : PySem.W.Frag} {mg : Str → Option Value} {base : Heap} (T : Txt w K mg) : OkD P w K mg base 2 (He.fAd K ("mirror", none)) ["mode"] [] (sp_mirror K) := by
  obtain ⟨fd, F⟩ := T.d_mirror
  refine ⟨fd, [], F.kp, F.bindsN (fun _ _ _ _ _ _ us hl => match us, hl with | [_], _ => rfl), .nil, ?_⟩
  have sc := sc_mirror; have vis := vis_mirror; have gls := gl_mirror
  refine F.ok sc (fun vs H Q E h => ?_) (fun cdv A outer s H0 vs Q E hr h => ?_)
  · obtain ⟨mode, rfl, _⟩ := h; rfl
  · obtain ⟨mode, rfl, e0, k⟩ := h
    refine ⟨_, PSs.nox (pss_cons (ps_expr (pcD (ok_check_mode T) (hr.mono (by decide)) gls 0 T.g_check_mode (pa_cons (pn vis 0) pa_nil))) (pss_one (ps_ret (pe_kget (pgr gls 1 T.g_MIRRORS) (pn vis 0) (pn vis 0) ⟨rfl, rfl, rfl, rfl⟩)))), ?_⟩
    refine i_start (σ' := [some (V.str mode)]) rfl ?_
    refine i_seq <| i_drop <| i_call <| i_cons <| v0 <| i_nil <| ⟨_, rfl, (by first | assumption | omega | rfl | exact Sz.zero | exact Sz.sm (by omega) (by omega) (by decide) | exact Sz.mono (by assumption) (by decide)), fun H2 s2 => ?_⟩
    refine i_nx <| i_ret <| i_kget <| i_c <| i_kd T.k_MIRRORS <| v0 <| v0 <| i_kv (v := V.str (mir9 mode)) (by obtain ⟨r, h1, h2⟩ := T.m_MIRRORS mode e0; exact ⟨r, h1, by cases r with | none => exact congrArg V.str h2 | some u => exact h2⟩) <| ?_
    exact k _ _ s2 (by first | rfl | assumption | omega)

/-! goes_up -/
def sp_goes_up (K : PySem.W.Frag) : Sp := fun vs H Q _ => ∃ (mode : Str) (positive : Bool), vs = [V.str mode, V.bl positive] ∧ ∀ (r : Bool) (H' : Hp), Same H H' → r = goesUp mode positive → Q (V.bl r) H'
abbrev s_goes_up : Stmt := top 9
theorem sc_goes_up : FnScope ["mode", "positive"] ["mode", "positive"] (defScope s_goes_up) := ⟨rfl, rfl, rfl, by decide +kernel, rfl, by decide +kernel, by decide +kernel⟩
theorem vis_goes_up : visB ["mode", "positive"] (defScope s_goes_up) = true := by decide +kernel
theorem gl_goes_up : glB [] (defScope s_goes_up) = true := by decide +kernel
theorem ok_goes_up {P : Program} {w : World} {K : PySem.W.Frag} {mg : Str → Option Value} {base : Heap} (T : Txt w K mg) : OkD P w K mg base 1 (He.fAd K ("goes_up", none)) ["mode", "positive"] [] (sp_goes_up K) := by
  obtain ⟨fd, F⟩ := T.d_goes_up
  refine ⟨fd, [], F.kp, F.bindsN (fun _ _ _ _ _ _ us hl => match us, hl with | [_, _], _ => rfl), .nil, ?_⟩
  have sc := sc_goes_up; have vis := vis_goes_up; have gls := gl_goes_up
  refine F.ok sc (fun vs H Q E h => ?_) (fun cdv A outer s H0 vs Q E hr h => ?_)
  · obtain ⟨mode, positive, rfl, _⟩ := h; rfl
  · obtain ⟨mode, positive, rfl, k⟩ := h
    refine ⟨_, PSs.nox (pss_cons (ps_if (pt_cmpR op_eqS (pn vis 0) pe_str (nomark _)) (pss_one (ps_ret (pe_not (pn vis 1)))) pss_nil) (pss_cons (ps_if (pt_cmpR op_eqS (pn vis 0) pe_str (nomark _)) (pss_one (ps_ret (pn vis 1))) pss_nil) (pss_one (ps_ret (pe_cmpR op_eqS (pn vis 0) pe_str (nomark _)))))), ?_⟩
    refine i_start (σ' := [some (V.str mode), some (V.bl positive)]) rfl ?_
    refine i_seq <| i_if <| i_test <| i_op <| v0 <| i_c <| i_S0 <| i_bl <| i_ite (fun c1 => ?_) (fun c1 => ?_)
    ·
      refine i_ret <| i_notV <| v1 <| i_blV <| ?_
      exact k _ _ (Same.refl _) (by simp [goesUp, *])
    ·
      refine i_next <| i_nx <| i_seq <| i_if <| i_test <| i_op <| v0 <| i_c <| i_S0 <| i_bl <| i_ite (fun c3 => ?_) (fun c3 => ?_)
      ·
        refine i_ret <| v1 <| ?_
        exact k _ _ (Same.refl _) (by simp [goesUp, *])
      ·
        refine i_next <| i_nx <| i_ret <| i_op <| v0 <| i_c <| i_S0 <| ?_
        exact k _ _ (Same.refl _) (by simp [goesUp, *])

/-! tie_goes_up -/
def sp_tie_goes_up (K : PySem.W.Frag) : Sp := fun vs H Q _ => ∃ (mode : Str) (low : Int) (positive : Bool), vs = [V.str mode, V.int low, V.bl positive] ∧ ∀ (r : Bool) (H' : Hp), Same H H' → r = tieUp mode low positive → Q (V.bl r) H'
abbrev s_tie_goes_up : Stmt := top 10
theorem sc_tie_goes_up : FnScope ["mode", "low", "positive"] ["mode", "low", "positive"] (defScope s_tie_goes_up) := ⟨rfl, rfl, rfl, by decide +kernel, rfl, by decide +kernel, by decide +kernel⟩
theorem vis_tie_goes_up : visB ["mode", "low", "positive"] (defScope s_tie_goes_up) = true := by decide +kernel
theorem gl_tie_goes_up : glB ["int"] (defScope s_tie_goes_up) = true := by decide +kernel
theorem ok_tie_goes_up {P : Program} {w : World} {K : PySem.W.Frag} {mg : Str → Option Value} {base : Heap} (T : Txt w K mg) : OkD P w K mg base 1 (He.fAd K ("tie_goes_up", none)) ["mode", "low", "positive"] [] (sp_tie_goes_up K) := by
  obtain ⟨fd, F⟩ := T.d_tie_goes_up
  refine ⟨fd, [], F.kp, F.bindsN (fun _ _ _ _ _ _ us hl => match us, hl with | [_, _, _], _ => rfl), .nil, ?_⟩
  have sc := sc_tie_goes_up; have vis := vis_tie_goes_up; have gls := gl_tie_goes_up
  refine F.ok sc (fun vs H Q E h => ?_) (fun cdv A outer s H0 vs Q E hr h => ?_)
  · obtain ⟨mode, low, positive, rfl, _⟩ := h; rfl
  · obtain ⟨mode, low, positive, rfl, k⟩ := h
    refine ⟨_, PSs.nox (pss_cons (ps_if (pt_cmpR op_eqS (pn vis 0) pe_str (nomark _)) (pss_one (ps_ret (pe_cmpR op_eqI (pe_op op_mod (pcT call_intI gls 0 T.b_int boot_int (pa_cons (pn vis 1) pa_nil)) pe_int) pe_int (nomark _)))) pss_nil) (pss_cons (ps_if (pt_cmpR op_eqS (pn vis 0) pe_str (nomark _)) (pss_one (ps_ret (pn vis 2))) pss_nil) (pss_cons (ps_if (pt_cmpR op_eqS (pn vis 0) pe_str (nomark _)) (pss_one (ps_ret (pe_not (pn vis 2)))) pss_nil) (pss_one (ps_ret (pe_cmpR op_eqS (pn vis 0) pe_str (nomark _))))))), ?_⟩
    refine i_start (σ' := [some (V.str mode), some (V.int low), some (V.bl positive)]) rfl ?_
    refine i_seq <| i_if <| i_test <| i_op <| v0 <| i_c <| i_S0 <| i_bl <| i_ite (fun c1 => ?_) (fun c1 => ?_)
    ·
      refine i_ret <| i_op <| i_op <| i_cb <| i_cons <| v1 <| i_nil <| i_int <| i_c <| i_I (by show (0 : Int) < _; first | decide | assumption | omega) <| i_c <| i_I0 <| ?_
      exact k _ _ (Same.refl _) (by simp [tieUp, *])
    ·
      refine i_next <| i_nx <| i_seq <| i_if <| i_test <| i_op <| v0 <| i_c <| i_S0 <| i_bl <| i_ite (fun c3 => ?_) (fun c3 => ?_)
      ·
        refine i_ret <| v2 <| ?_
        exact k _ _ (Same.refl _) (by simp [tieUp, *])
      ·
        refine i_next <| i_nx <| i_seq <| i_if <| i_test <| i_op <| v0 <| i_c <| i_S0 <| i_bl <| i_ite (fun c5 => ?_) (fun c5 => ?_)
        ·
          refine i_ret <| i_notV <| v2 <| i_blV <| ?_
          exact k _ _ (Same.refl _) (by simp [tieUp, *])
        ·
          refine i_next <| i_nx <| i_ret <| i_op <| v0 <| i_c <| i_S0 <| ?_
          exact k _ _ (Same.refl _) (by simp [tieUp, *])

/-! round_quotient -/
def sp_round_quotient (K : PySem.W.Frag) : Sp := fun vs H Q _ => ∃ (numerator : Int) (divisor : Int) (mode : Str), vs = [V.int numerator, V.int divisor, V.str mode] ∧ (0 < divisor) ∧ (Sz 9000 divisor) ∧ (mode ∈ modes9) ∧ ∀ (r : Int) (H' : Hp), Same H H' → r = rq numerator divisor mode → Q (V.int r) H'
abbrev s_round_quotient : Stmt := top 11
theorem sc_round_quotient : FnScope ["numerator", "divisor", "mode", "positive", "low", "rest", "up"] ["numerator", "divisor", "mode"] (defScope s_round_quotient) := ⟨rfl, rfl, rfl, by decide +kernel, rfl, by decide +kernel, by decide +kernel⟩
theorem vis_round_quotient : visB ["numerator", "divisor", "mode", "positive", "low", "rest", "up"] (defScope s_round_quotient) = true := by decide +kernel
theorem gl_round_quotient : glB ["check_mode", "divmod", "NEAREST", "goes_up", "tie_goes_up"] (defScope s_round_quotient) = true := by decide +kernel
theorem ok_round_quotient {P : Program} {w : World} {K : PySem.W.Frag} {mg : Str → Option Value} {base : Heap} (T : Txt w K mg) : OkD P w K mg base 2 (He.fAd K ("round_quotient", none)) ["numerator", "divisor", "mode"] [] (sp_round_quotient K) := by
  obtain ⟨fd, F⟩ := T.d_round_quotient
  refine ⟨fd, [], F.kp, F.bindsN (fun _ _ _ _ _ _ us hl => match us, hl with | [_, _, _], _ => rfl), .nil, ?_⟩
  have sc := sc_round_quotient; have vis := vis_round_quotient; have gls := gl_round_quotient
  refine F.ok sc (fun vs H Q E h => ?_) (fun cdv A outer s H0 vs Q E hr h => ?_)
  · obtain ⟨numerator, divisor, mode, rfl, _⟩ := h; rfl
  · obtain ⟨numerator, divisor, mode, rfl, e0, e1, e2, k⟩ := h
    refine ⟨_, PSs.nox (pss_cons (ps_expr (pcD (ok_check_mode T) (hr.mono (by decide)) gls 0 T.g_check_mode (pa_cons (pn vis 2) pa_nil))) (pss_cons (ps_asg (pcB call_dm gls 1 T.b_divmod (by decide +kernel) (pa_cons (pn vis 0) (pa_cons (pn vis 1) pa_nil))) (pg_tup (by rfl) (pgs_cons (pg_name (i := 4) sc.nd rfl (.inl rfl)) (pgs_cons (pg_name (i := 5) sc.nd rfl (.inl rfl)) pgs_nil)))) (pss_cons (ps_if (pt_cmpR op_eqI (pn vis 5) pe_int (nomark _)) (pss_one (ps_ret (pn vis 4))) pss_nil) (pss_cons (ps_set (i := 3) sc.nd rfl (.inl rfl) (pe_cmpR op_gt (pn vis 0) pe_int (nomark _))) (pss_cons (ps_if (pt_cmpR op_notIn_seq (pn vis 2) (pgr gls 2 T.g_NEAREST) (by rfl)) (pss_one (ps_set (i := 6) sc.nd rfl (.inl rfl) (pcD (ok_goes_up T) (hr.mono (by decide)) gls 3 T.g_goes_up (pa_cons (pn vis 2) (pa_cons (pn vis 3) pa_nil))))) (pss_one (ps_if (pt_cmpR op_eqI (pe_op op_mul pe_int (pn vis 5)) (pn vis 1) (nomark _)) (pss_one (ps_set (i := 6) sc.nd rfl (.inl rfl) (pcD (ok_tie_goes_up T) (hr.mono (by decide)) gls 4 T.g_tie_goes_up (pa_cons (pn vis 2) (pa_cons (pn vis 4) (pa_cons (pn vis 3) pa_nil)))))) (pss_one (ps_set (i := 6) sc.nd rfl (.inl rfl) (pe_cmpR op_gt (pe_op op_mul pe_int (pn vis 5)) (pn vis 1) (nomark _))))))) (pss_cons (ps_if (pt_val (pn vis 6)) (pss_one (ps_ret (pe_op op_add (pn vis 4) pe_int))) pss_nil) (pss_one (ps_ret (pn vis 4))))))))), ?_⟩
    refine i_start (σ' := [some (V.int numerator), some (V.int divisor), some (V.str mode), none, none, none, none]) rfl ?_
    refine i_seq <| i_drop <| i_call <| i_cons <| v2 <| i_nil <| ⟨_, rfl, (by first | assumption | omega | rfl | exact Sz.zero | exact Sz.sm (by omega) (by omega) (by decide) | exact Sz.mono (by assumption) (by decide)), fun H2 s2 => ?_⟩
    refine i_nx <| i_seq <| i_asg <| i_cb <| i_cons <| v0 <| i_cons <| v1 <| i_nil <| i_dm (by exact divp e0 e1) (fun p3 H3 _ s3 f3 => ?_)
    refine i_gtup (SqT.of f3) rfl <| i_gcons <| n4 <| i_gcons <| n5 <| i_gnil <| i_nx <| i_seq <| i_if <| i_test <| i_op <| v5 <| i_c <| i_I0 <| i_bl <| i_ite (fun c3 => ?_) (fun c3 => ?_)
    ·
      refine i_ret <| v4 <| ?_
      exact k _ _ (s2.trans s3) (by simp_all [rq, rqUp] <;> omega)
    ·
      refine i_next <| i_nx <| i_seq <| i_asg <| i_op <| v0 <| i_c <| i_I0 <| n3 <| i_nx <| i_seq <| i_if <| i_test <| i_op <| v2 <| i_c <| i_inN (.inr (T.t_NEAREST H3)) rfl (by exact flat_str near5) (b := (decide (mode ∈ near5))) (by exact in5 mode) <| i_bl <| i_iteN (fun c6 => ?_) (fun c6 => ?_)
      ·
        refine i_asg <| i_call <| i_cons <| v2 <| i_cons <| v3 <| i_nil <| ⟨_, _, rfl, fun up H4 s4 hup => ?_⟩
        refine n6 <| i_nx <| i_seq <| i_if <| i_tB <| v6 <| i_bl <| i_iteB (fun c12 => ?_) (fun c12 => ?_)
        ·
          refine i_ret <| i_op <| v4 <| i_c <| i_I0 <| ?_
          exact k _ _ (s2.trans (s3.trans s4)) (by simp_all [rq, rqUp] <;> omega)
        ·
          refine i_next <| i_nx <| i_ret <| v4 <| ?_
          exact k _ _ (s2.trans (s3.trans s4)) (by simp_all [rq, rqUp] <;> omega)
      ·
        refine i_if <| i_test <| i_op <| i_op <| i_c <| v5 <| i_I (by first | exact .inl ⟨by decide, by decide⟩ | exact .inr ⟨by decide, by decide⟩) <| v1 <| i_I0 <| i_bl <| i_ite (fun c8 => ?_) (fun c8 => ?_)
        ·
          refine i_asg <| i_call <| i_cons <| v2 <| i_cons <| v4 <| i_cons <| v3 <| i_nil <| ⟨_, _, _, rfl, fun up2 H5 s5 hup2 => ?_⟩
          refine n6 <| i_nx <| i_seq <| i_if <| i_tB <| v6 <| i_bl <| i_iteB (fun c12' => ?_) (fun c12' => ?_)
          ·
            refine i_ret <| i_op <| v4 <| i_c <| i_I0 <| ?_
            exact k _ _ (s2.trans (s3.trans s5)) (by simp_all [rq, rqUp] <;> omega)
          ·
            refine i_next <| i_nx <| i_ret <| v4 <| ?_
            exact k _ _ (s2.trans (s3.trans s5)) (by simp_all [rq, rqUp] <;> omega)
        ·
          refine i_asg <| i_op <| i_op <| i_c <| v5 <| i_I (by first | exact .inl ⟨by decide, by decide⟩ | exact .inr ⟨by decide, by decide⟩) <| v1 <| i_I0 <| n6 <| i_nx <| i_seq <| i_if <| i_tB <| v6 <| i_bl <| i_ite (fun c12'' => ?_) (fun c12'' => ?_)
          ·
            refine i_ret <| i_op <| v4 <| i_c <| i_I0 <| ?_
            exact k _ _ (s2.trans s3) (by simp_all [rq, rqUp] <;> omega)
          ·
            refine i_next <| i_nx <| i_ret <| v4 <| ?_
            exact k _ _ (s2.trans s3) (by simp_all [rq, rqUp] <;> omega)

/-! _law_mirror -/
def sp__law_mirror (K : PySem.W.Frag) : Sp := fun vs H Q _ => ∃ (mode : Str), vs = [V.str mode] ∧ (mode ∈ modes9) ∧ ∀ (r : Str) (H' : Hp), Same H H' → r = mir9 mode → Q (V.str r) H'
abbrev s__law_mirror : Stmt := top 17
theorem sc__law_mirror : FnScope ["mode", "names"] ["mode"] (defScope s__law_mirror) := ⟨rfl, rfl, rfl, by decide +kernel, rfl, by decide +kernel, by decide +kernel⟩
theorem vis__law_mirror : visB ["mode", "names"] (defScope s__law_mirror) = true := by decide +kernel
theorem gl__law_mirror : glB ["_law_modes"] (defScope s__law_mirror) = true := by decide +kernel
theorem ok__law_mirror {P : Program} {w : World} {K : PySem.W.Frag} {mg : Str → Option Value} {base : Heap} (T : Txt w K mg) : OkD P w K mg base 2 (He.fAd K ("_law_mirror", none)) ["mode"] [] (sp__law_mirror K) := by
  obtain ⟨fd, F⟩ := T.d__law_mirror
  refine ⟨fd, [], F.kp, F.bindsN (fun _ _ _ _ _ _ us hl => match us, hl with | [_], _ => rfl), .nil, ?_⟩
  have sc := sc__law_mirror; have vis := vis__law_mirror; have gls := gl__law_mirror
  refine F.ok sc (fun vs H Q E h => ?_) (fun cdv A outer s H0 vs Q E hr h => ?_)
  · obtain ⟨mode, rfl, _⟩ := h; rfl
  · obtain ⟨mode, rfl, e0, k⟩ := h
    refine ⟨_, PSs.nox (pss_cons (ps_set (i := 1) sc.nd rfl (.inl rfl) (pcD0 (ok__law_modes T) (hr.mono (by decide)) gls 0 T.g__law_modes)) (pss_one (ps_ret (pe_ix ix_list (pn vis 1) (pe_ix ix_list (pe_lst (pa_cons pe_int (pa_cons pe_int (pa_cons pe_int (pa_cons pe_int (pa_cons pe_int (pa_cons pe_int (pa_cons pe_int (pa_cons pe_int (pa_cons pe_int pa_nil)))))))))) (pe_bm PySem.F.plainAttrs_list PySem.F.slot_list_index PySem.F.type_list_index mt_index (pn vis 1) (pa_cons (pn vis 0) pa_nil)) (fun _ _ => rfl)) (fun _ _ => rfl))))), ?_⟩
    refine i_start (σ' := [some (V.str mode), none]) rfl ?_
    refine i_seq <| i_asg <| i_call <| i_nil <| ⟨rfl, fun namesA names H1 s1 f1_0 hnames => ?_⟩
    refine n1 <| i_nx <| ?_
    subst hnames
    obtain ⟨jm, hj1, hj2⟩ := mir_at e0
    refine i_ret <| i_op <| v1 <| i_op <| i_lst <| i_cons <| i_c <| i_cons <| i_c <| i_cons <| i_c <| i_cons <| i_c <| i_cons <| i_c <| i_cons <| i_c <| i_cons <| i_c <| i_cons <| i_c <| i_cons <| i_c <| i_nil <| i_kLst (of_decide_eq_true rfl) (fun p2 H2 z2 s2 f2 => ?_)
    refine i_bm <| v1 <| i_tyL (SqL.of (s2 _ _ f1_0)) <| i_cons <| v0 <| i_nil <| i_index (SqL.of (s2 _ _ f1_0)) rfl (flat_str _) (idx9_at e0) (by simp [eqV]) (idx9_no e0) <| i_ixL (SqL.of f2) hj1 <| i_ixL (SqL.of (s2 _ _ f1_0)) hj2 <| ?_
    exact k _ _ (s1.trans s2) (by first | rfl | assumption | omega)

/-! _law_equal@int -/
def sp__law_equal_int (K : PySem.W.Frag) : Sp := fun vs H Q _ => ∃ (actual : Int) (expected : Int), vs = [V.int actual, V.int expected] ∧ (actual = expected) ∧ ∀  (H' : Hp), Same H H' → Q (V.bl true) H'
abbrev s__law_equal_int : Stmt := top 18
theorem sc__law_equal_int : FnScope ["actual", "expected", "k"] ["actual", "expected"] (defScope s__law_equal_int) := ⟨rfl, rfl, rfl, by decide +kernel, rfl, by decide +kernel, by decide +kernel⟩
theorem vis__law_equal_int : visB ["actual", "expected", "k"] (defScope s__law_equal_int) = true := by decide +kernel
theorem gl__law_equal_int : glB ["bool", "isinstance", "int"] (defScope s__law_equal_int) = true := by decide +kernel
theorem ok__law_equal_int {P : Program} {w : World} {K : PySem.W.Frag} {mg : Str → Option Value} {base : Heap} (T : Txt w K mg) : OkD P w K mg base 1 (He.fAd K ("_law_equal", none)) ["actual", "expected"] [] (sp__law_equal_int K) := by
  obtain ⟨fd, F⟩ := T.d__law_equal
  refine ⟨fd, [], F.kp, F.bindsN (fun _ _ _ _ _ _ us hl => match us, hl with | [_, _], _ => rfl), .nil, ?_⟩
  have sc := sc__law_equal_int; have vis := vis__law_equal_int; have gls := gl__law_equal_int
  refine F.ok sc (fun vs H Q E h => ?_) (fun cdv A outer s H0 vs Q E hr h => ?_)
  · obtain ⟨actual, expected, rfl, _⟩ := h; rfl
  · obtain ⟨actual, expected, rfl, e0, k⟩ := h
    refine ⟨_, PSs.nox (pss_cons (ps_if (pt_cmpR op_isN_ (pn vis 1) pe_non (nomark _)) pss_never pss_nil) (pss_cons (ps_if (pt_val (pcB call_isi gls 1 T.b_isinstance (by decide +kernel) (pa_cons (pn vis 1) (pa_cons (pgt gls 0 T.b_bool boot_bool) pa_nil)))) pss_never pss_nil) (pss_cons (ps_if (pt_val (pcB call_isi gls 1 T.b_isinstance (by decide +kernel) (pa_cons (pn vis 1) (pa_cons (pgt gls 2 T.b_int boot_int) pa_nil)))) (pss_one (ps_ret (pe_and (pcB call_isi gls 1 T.b_isinstance (by decide +kernel) (pa_cons (pn vis 0) (pa_cons (pgt gls 2 T.b_int boot_int) pa_nil))) (pe_and (pe_not (pcB call_isi gls 1 T.b_isinstance (by decide +kernel) (pa_cons (pn vis 0) (pa_cons (pgt gls 0 T.b_bool boot_bool) pa_nil)))) (pe_one (pe_cmpR op_eqI (pn vis 0) (pn vis 1) (nomark _))))))) pss_nil) pss_never))), ?_⟩
    refine i_start (σ' := [some (V.int actual), some (V.int expected), none]) rfl ?_
    refine i_seq <| i_if <| i_test <| i_op <| v1 <| i_c <| i_isN (b := false) rfl <| i_bl <| i_iteF <| i_next <| i_nx <| i_seq <| i_if <| i_tB <| i_cb <| i_cons <| v1 <| i_cons <| i_c <| i_nil <| i_isi (b := false) (.ty _) (.base (.int _)) (kit_ty (by decide +kernel)) <| i_bl <| i_iteF <| i_next <| i_nx <| i_seq <| i_if <| i_tB <| i_cb <| i_cons <| v1 <| i_cons <| i_c <| i_nil <| i_isi (b := true) (.ty _) (.base (.int _)) (kit_ty (by decide +kernel)) <| i_bl <| i_iteT <| i_ret <| i_andV <| i_cb <| i_cons <| v0 <| i_cons <| i_c <| i_nil <| i_isi (b := true) (.ty _) (.base (.int _)) (kit_ty (by decide +kernel)) <| i_blV <| i_iteT <| i_andV <| i_notV <| i_cb <| i_cons <| v0 <| i_cons <| i_c <| i_nil <| i_isi (b := false) (.ty _) (.base (.int _)) (kit_ty (by decide +kernel)) <| i_blV <| i_blV <| i_iteNF <| i_op <| v0 <| v1 <| i_I0 <| ?_
    refine i_decT (by first | assumption | omega | simp [*]) ?_
    exact k _ (Same.refl _)

/-! _law_equal@str -/
def sp__law_equal_str (K : PySem.W.Frag) : Sp := fun vs H Q _ => ∃ (actual : Str) (expected : Str), vs = [V.str actual, V.str expected] ∧ (actual = expected) ∧ ∀  (H' : Hp), Same H H' → Q (V.bl true) H'
abbrev s__law_equal_str : Stmt := top 18
theorem sc__law_equal_str : FnScope ["actual", "expected", "k"] ["actual", "expected"] (defScope s__law_equal_str) := ⟨rfl, rfl, rfl, by decide +kernel, rfl, by decide +kernel, by decide +kernel⟩
theorem vis__law_equal_str : visB ["actual", "expected", "k"] (defScope s__law_equal_str) = true := by decide +kernel
theorem gl__law_equal_str : glB ["bool", "isinstance", "int", "str"] (defScope s__law_equal_str) = true := by decide +kernel
theorem ok__law_equal_str {P : Program} {w : World} {K : PySem.W.Frag} {mg : Str → Option Value} {base : Heap} (T : Txt w K mg) : OkD P w K mg base 1 (He.fAd K ("_law_equal", none)) ["actual", "expected"] [] (sp__law_equal_str K) := by
  obtain ⟨fd, F⟩ := T.d__law_equal
  refine ⟨fd, [], F.kp, F.bindsN (fun _ _ _ _ _ _ us hl => match us, hl with | [_, _], _ => rfl), .nil, ?_⟩
  have sc := sc__law_equal_str; have vis := vis__law_equal_str; have gls := gl__law_equal_str
  refine F.ok sc (fun vs H Q E h => ?_) (fun cdv A outer s H0 vs Q E hr h => ?_)
  · obtain ⟨actual, expected, rfl, _⟩ := h; rfl
  · obtain ⟨actual, expected, rfl, e0, k⟩ := h
    refine ⟨_, PSs.nox (pss_cons (ps_if (pt_cmpR op_isN_ (pn vis 1) pe_non (nomark _)) pss_never pss_nil) (pss_cons (ps_if (pt_val (pcB call_isi gls 1 T.b_isinstance (by decide +kernel) (pa_cons (pn vis 1) (pa_cons (pgt gls 0 T.b_bool boot_bool) pa_nil)))) pss_never pss_nil) (pss_cons (ps_if (pt_val (pcB call_isi gls 1 T.b_isinstance (by decide +kernel) (pa_cons (pn vis 1) (pa_cons (pgt gls 2 T.b_int boot_int) pa_nil)))) pss_never pss_nil) (pss_cons (ps_if (pt_val (pcB call_isi gls 1 T.b_isinstance (by decide +kernel) (pa_cons (pn vis 1) (pa_cons (pgt gls 3 T.b_str boot_str) pa_nil)))) (pss_one (ps_ret (pe_and (pcB call_isi gls 1 T.b_isinstance (by decide +kernel) (pa_cons (pn vis 0) (pa_cons (pgt gls 3 T.b_str boot_str) pa_nil))) (pe_one (pe_cmpR op_eqS (pn vis 0) (pn vis 1) (nomark _)))))) pss_nil) pss_never)))), ?_⟩
    refine i_start (σ' := [some (V.str actual), some (V.str expected), none]) rfl ?_
    refine i_seq <| i_if <| i_test <| i_op <| v1 <| i_c <| i_isN (b := false) rfl <| i_bl <| i_iteF <| i_next <| i_nx <| i_seq <| i_if <| i_tB <| i_cb <| i_cons <| v1 <| i_cons <| i_c <| i_nil <| i_isi (b := false) (.ty _) (.base (.str _)) (kit_ty (by decide +kernel)) <| i_bl <| i_iteF <| i_next <| i_nx <| i_seq <| i_if <| i_tB <| i_cb <| i_cons <| v1 <| i_cons <| i_c <| i_nil <| i_isi (b := false) (.ty _) (.base (.str _)) (kit_ty (by decide +kernel)) <| i_bl <| i_iteF <| i_next <| i_nx <| i_seq <| i_if <| i_tB <| i_cb <| i_cons <| v1 <| i_cons <| i_c <| i_nil <| i_isi (b := true) (.ty _) (.base (.str _)) (kit_ty (by decide +kernel)) <| i_bl <| i_iteT <| i_ret <| i_andV <| i_cb <| i_cons <| v0 <| i_cons <| i_c <| i_nil <| i_isi (b := true) (.ty _) (.base (.str _)) (kit_ty (by decide +kernel)) <| i_blV <| i_iteT <| i_op <| v0 <| v1 <| i_S0 <| ?_
    refine i_decT (by first | assumption | omega | simp [*]) ?_
    exact k _ (Same.refl _)

/-! _law_integer -/
def sp__law_integer (K : PySem.W.Frag) : Sp := fun vs H Q _ => ∃ (value : Int), vs = [V.int value] ∧ ∀  (H' : Hp), Same H H' → Q (V.bl true) H'
abbrev s__law_integer : Stmt := top 22
theorem sc__law_integer : FnScope ["value"] ["value"] (defScope s__law_integer) := ⟨rfl, rfl, rfl, by decide +kernel, rfl, by decide +kernel, by decide +kernel⟩
theorem vis__law_integer : visB ["value"] (defScope s__law_integer) = true := by decide +kernel
theorem gl__law_integer : glB ["int", "isinstance", "bool"] (defScope s__law_integer) = true := by decide +kernel
theorem ok__law_integer {P : Program} {w : World} {K : PySem.W.Frag} {mg : Str → Option Value} {base : Heap} (T : Txt w K mg) : OkD P w K mg base 1 (He.fAd K ("_law_integer", none)) ["value"] [] (sp__law_integer K) := by
  obtain ⟨fd, F⟩ := T.d__law_integer
  refine ⟨fd, [], F.kp, F.bindsN (fun _ _ _ _ _ _ us hl => match us, hl with | [_], _ => rfl), .nil, ?_⟩
  have sc := sc__law_integer; have vis := vis__law_integer; have gls := gl__law_integer
  refine F.ok sc (fun vs H Q E h => ?_) (fun cdv A outer s H0 vs Q E hr h => ?_)
  · obtain ⟨value, rfl, _⟩ := h; rfl
  · obtain ⟨value, rfl, k⟩ := h
    refine ⟨_, PSs.nox (pss_one (ps_ret (pe_and (pcB call_isi gls 1 T.b_isinstance (by decide +kernel) (pa_cons (pn vis 0) (pa_cons (pgt gls 0 T.b_int boot_int) pa_nil))) (pe_one (pe_not (pcB call_isi gls 1 T.b_isinstance (by decide +kernel) (pa_cons (pn vis 0) (pa_cons (pgt gls 2 T.b_bool boot_bool) pa_nil)))))))), ?_⟩
    refine i_start (σ' := [some (V.int value)]) rfl ?_
    refine i_ret <| i_andV <| i_cb <| i_cons <| v0 <| i_cons <| i_c <| i_nil <| i_isi (b := true) (.ty _) (.base (.int _)) (kit_ty (by decide +kernel)) <| i_blV <| i_iteT <| i_notV <| i_cb <| i_cons <| v0 <| i_cons <| i_c <| i_nil <| i_isi (b := false) (.ty _) (.base (.int _)) (kit_ty (by decide +kernel)) <| i_blV <| ?_
    refine i_nfT ?_
    exact k _ (Same.refl _)

/-! _law_steady -/
def sp__law_steady (K : PySem.W.Frag) : Sp := fun vs H Q _ => ∃ (mode : Str), vs = [V.str mode] ∧ ∀ (r : Bool) (H' : Hp), Same H H' → r = decide (mode ∈ steady5) → Q (V.bl r) H'
abbrev s__law_steady : Stmt := top 23
theorem sc__law_steady : FnScope ["mode"] ["mode"] (defScope s__law_steady) := ⟨rfl, rfl, rfl, by decide +kernel, rfl, by decide +kernel, by decide +kernel⟩
theorem vis__law_steady : visB ["mode"] (defScope s__law_steady) = true := by decide +kernel
theorem gl__law_steady : glB [] (defScope s__law_steady) = true := by decide +kernel
theorem ok__law_steady {P : Program} {w : World} {K : PySem.W.Frag} {mg : Str → Option Value} {base : Heap} (T : Txt w K mg) : OkD P w K mg base 1 (He.fAd K ("_law_steady", none)) ["mode"] [] (sp__law_steady K) := by
  obtain ⟨fd, F⟩ := T.d__law_steady
  refine ⟨fd, [], F.kp, F.bindsN (fun _ _ _ _ _ _ us hl => match us, hl with | [_], _ => rfl), .nil, ?_⟩
  have sc := sc__law_steady; have vis := vis__law_steady; have gls := gl__law_steady
  refine F.ok sc (fun vs H Q E h => ?_) (fun cdv A outer s H0 vs Q E hr h => ?_)
  · obtain ⟨mode, rfl, _⟩ := h; rfl
  · obtain ⟨mode, rfl, k⟩ := h
    refine ⟨_, PSs.nox (pss_one (ps_ret (pe_cmpR op_in_seq (pn vis 0) (pe_lst (pa_cons pe_str (pa_cons pe_str (pa_cons pe_str (pa_cons pe_str (pa_cons pe_str pa_nil)))))) (by rfl)))), ?_⟩
    refine i_start (σ' := [some (V.str mode)]) rfl ?_
    refine i_ret <| i_op <| v0 <| i_lst <| i_cons <| i_c <| i_cons <| i_c <| i_cons <| i_c <| i_cons <| i_c <| i_cons <| i_c <| i_nil <| i_kLst (of_decide_eq_true rfl) (fun p1 H1 z1 s1 f1 => ?_)
    refine i_in (.inl (SqL.of f1)) rfl (by exact flat_str steady5) (b := (decide (mode ∈ steady5))) (by exact in_str mode steady5) <| ?_
    exact k _ _ s1 (by first | rfl | assumption | omega)

/-! _law_big -/
def sp__law_big (K : PySem.W.Frag) : Sp := fun vs H Q _ => ∃ (sourceA : Addr), vs = [V.ref sourceA] ∧ IsSrc H sourceA ∧ ∀ (r : Int) (H' : Hp), Ext H H' → IsSrc H' sourceA → 0 ≤ r → Sz 124 r → Q (V.int r) H'
abbrev s__law_big : Stmt := top 19
theorem sc__law_big : FnScope ["source", "value", "k"] ["source"] (defScope s__law_big) := ⟨rfl, rfl, rfl, by decide +kernel, rfl, by decide +kernel, by decide +kernel⟩
theorem vis__law_big : visB ["source", "value", "k"] (defScope s__law_big) = true := by decide +kernel
theorem gl__law_big : glB ["_law_draw", "range"] (defScope s__law_big) = true := by decide +kernel
theorem ok__law_big {P : Program} {w : World} {K : PySem.W.Frag} {mg : Str → Option Value} {base : Heap} (T : Txt w K mg) : OkD P w K mg base 2 (He.fAd K ("_law_big", none)) ["source"] [] (sp__law_big K) := by
  obtain ⟨fd, F⟩ := T.d__law_big
  refine ⟨fd, [], F.kp, F.bindsN (fun _ _ _ _ _ _ us hl => match us, hl with | [_], _ => rfl), .nil, ?_⟩
  have sc := sc__law_big; have vis := vis__law_big; have gls := gl__law_big
  refine F.ok sc (fun vs H Q E h => ?_) (fun cdv A outer s H0 vs Q E hr h => ?_)
  · obtain ⟨sourceA, rfl, _⟩ := h; rfl
  · obtain ⟨sourceA, rfl, a0, k⟩ := h
    refine ⟨_, PSs.nox (pss_cons (ps_set (i := 1) sc.nd rfl (.inl rfl) pe_int) (pss_cons (ps_for PassesOwn.never rfl (pi_range1 (gl_of gls (i := 1) rfl).1 T.b_range (pa_cons (pcD (ok__law_draw T) (hr.mono (by decide)) gls 0 T.g__law_draw (pa_cons (pn vis 0) (pa_cons pe_int pa_nil))) pa_nil)) (pg_name (i := 2) sc.nd rfl (.inl rfl)) (pss_one (ps_set (i := 1) sc.nd rfl (.inl rfl) (pe_op op_add (pe_op op_mul (pn vis 1) pe_int) (pcD (ok__law_draw T) (hr.mono (by decide)) gls 0 T.g__law_draw (pa_cons (pn vis 0) (pa_cons pe_int pa_nil))))))) (pss_one (ps_ret (pn vis 1))))), ?_⟩
    refine i_start (σ' := [some (V.ref sourceA), none, none]) rfl ?_
    refine i_seq <| i_asg <| i_c <| n1 <| i_nx <| i_seq <| i_for <| i_for1 <| i_cons <| i_call <| i_cons <| v0 <| i_cons <| i_c <| i_nil <| ⟨_, _, rfl, a0, (by first | assumption | omega | rfl | exact Sz.zero | exact Sz.sm (by omega) (by omega) (by decide) | exact Sz.mono (by assumption) (by decide)), (by first | assumption | omega | rfl | exact Sz.zero | exact Sz.sm (by omega) (by omega) (by decide) | exact Sz.mono (by assumption) (by decide)), fun r1 H2 s2 g2 hr10 hr11 => ?_⟩
    refine i_nil <| i_rng1 (fun i σ H' => ∃ (x : Int) (o_k : Option V), σ = [some (V.ref sourceA), some (V.int x), o_k] ∧ Ext H2 H' ∧ IsSrc H' sourceA ∧ 0 ≤ x ∧ Sz (4 * i) x) (by omega) (by omega) ?_ ?_ ?_
    ·
      exact ⟨_, _, rfl, (Ext.refl _), g2, (by first | rfl | assumption | omega), (by exact Sz.zero)⟩
    ·
      intro i
      rintro σ H3 hi ⟨x, o_k, rfl, s3, g3, i0, i1⟩
      refine n2 <| i_asg <| i_op <| i_op <| v1 <| i_c <| i_I (by first | exact .inl ⟨by decide, by decide⟩ | exact .inr ⟨by decide, by decide⟩) <| i_call <| i_cons <| v0 <| i_cons <| i_c <| i_nil <| ⟨_, _, rfl, g3, (by first | assumption | omega | rfl | exact Sz.zero | exact Sz.sm (by omega) (by omega) (by decide) | exact Sz.mono (by assumption) (by decide)), (by first | assumption | omega | rfl | exact Sz.zero | exact Sz.sm (by omega) (by omega) (by decide) | exact Sz.mono (by assumption) (by decide)), fun value H4 s4 g4 hvalue0 hvalue1 => ?_⟩
      refine i_I0 <| n1 <| ?_
      exact ⟨_, _, rfl, (s3.trans s4), g4, (by first | rfl | assumption | omega), (by exact big_step i0 i1 (by omega) (by omega))⟩
    ·
      rintro σ H5 ⟨x, o_k, rfl, s5, g5, i0, i1⟩
      refine i_nx <| i_ret <| v1 <| ?_
      exact k _ _ (s2.trans s5) g5 (by first | rfl | assumption | omega) (by exact i1.mono (by omega))

/-! _law_divisor -/
def sp__law_divisor (K : PySem.W.Frag) : Sp := fun vs H Q _ => ∃ (sourceA : Addr), vs = [V.ref sourceA] ∧ IsSrc H sourceA ∧ ∀ (r : Int) (H' : Hp), Ext H H' → IsSrc H' sourceA → 1 ≤ r → Sz 160 r → Q (V.int r) H'
abbrev s__law_divisor : Stmt := top 20
theorem sc__law_divisor : FnScope ["source", "kind", "value"] ["source"] (defScope s__law_divisor) := ⟨rfl, rfl, rfl, by decide +kernel, rfl, by decide +kernel, by decide +kernel⟩
theorem vis__law_divisor : visB ["source", "kind", "value"] (defScope s__law_divisor) = true := by decide +kernel
theorem gl__law_divisor : glB ["_law_draw", "_law_big", "_law_power"] (defScope s__law_divisor) = true := by decide +kernel
theorem ok__law_divisor {P : Program} {w : World} {K : PySem.W.Frag} {mg : Str → Option Value} {base : Heap} (T : Txt w K mg) : OkD P w K mg base 3 (He.fAd K ("_law_divisor", none)) ["source"] [] (sp__law_divisor K) := by
  obtain ⟨fd, F⟩ := T.d__law_divisor
  refine ⟨fd, [], F.kp, F.bindsN (fun _ _ _ _ _ _ us hl => match us, hl with | [_], _ => rfl), .nil, ?_⟩
  have sc := sc__law_divisor; have vis := vis__law_divisor; have gls := gl__law_divisor
  refine F.ok sc (fun vs H Q E h => ?_) (fun cdv A outer s H0 vs Q E hr h => ?_)
  · obtain ⟨sourceA, rfl, _⟩ := h; rfl
  · obtain ⟨sourceA, rfl, a0, k⟩ := h
    refine ⟨_, PSs.nox (pss_cons (ps_set (i := 1) sc.nd rfl (.inl rfl) (pcD (ok__law_draw T) (hr.mono (by decide)) gls 0 T.g__law_draw (pa_cons (pn vis 0) (pa_cons pe_int pa_nil)))) (pss_cons (ps_set (i := 2) sc.nd rfl (.inl rfl) (pe_op op_add pe_int (pcD (ok__law_draw T) (hr.mono (by decide)) gls 0 T.g__law_draw (pa_cons (pn vis 0) (pa_cons pe_int pa_nil))))) (C8.pss_cut (ps_if (pt_cmpR op_eqI (pn vis 1) pe_int (nomark _)) (pss_one (ps_set (i := 2) sc.nd rfl (.inl rfl) (pe_op op_add (pn vis 2) (pcD (ok__law_big T) (hr.mono (by decide)) gls 1 T.g__law_big (pa_cons (pn vis 0) pa_nil))))) pss_nil) (C8.pss_cut (ps_if (pt_cmpR op_eqI (pn vis 1) pe_int (nomark _)) (pss_one (ps_set (i := 2) sc.nd rfl (.inl rfl) (pcD (ok__law_power T) (hr.mono (by decide)) gls 2 T.g__law_power (pa_cons (pe_op op_add pe_int (pcD (ok__law_draw T) (hr.mono (by decide)) gls 0 T.g__law_draw (pa_cons (pn vis 0) (pa_cons pe_int pa_nil)))) (pa_cons (pcD (ok__law_draw T) (hr.mono (by decide)) gls 0 T.g__law_draw (pa_cons (pn vis 0) (pa_cons pe_int pa_nil))) pa_nil))))) pss_nil) (C8.pss_cut (ps_if (pt_cmpR op_eqI (pcD (ok__law_draw T) (hr.mono (by decide)) gls 0 T.g__law_draw (pa_cons (pn vis 0) (pa_cons pe_int pa_nil))) pe_int (nomark _)) (pss_one (ps_set (i := 2) sc.nd rfl (.inl rfl) (pe_op op_mul pe_int (pn vis 2)))) pss_nil) (pss_one (ps_ret (pn vis 2)))))))), ?_⟩
    refine i_start (σ' := [some (V.ref sourceA), none, none]) rfl ?_
    refine i_seq <| i_asg <| i_call <| i_cons <| v0 <| i_cons <| i_c <| i_nil <| ⟨_, _, rfl, a0, (by first | assumption | omega | rfl | exact Sz.zero | exact Sz.sm (by omega) (by omega) (by decide) | exact Sz.mono (by assumption) (by decide)), (by first | assumption | omega | rfl | exact Sz.zero | exact Sz.sm (by omega) (by omega) (by decide) | exact Sz.mono (by assumption) (by decide)), fun kind H1 s1 g1 hkind0 hkind1 => ?_⟩
    refine n1 <| i_nx <| i_seq <| i_asg <| i_op <| i_c <| i_call <| i_cons <| v0 <| i_cons <| i_c <| i_nil <| ⟨_, _, rfl, g1, (by first | assumption | omega | rfl | exact Sz.zero | exact Sz.sm (by omega) (by omega) (by decide) | exact Sz.mono (by assumption) (by decide)), (by first | assumption | omega | rfl | exact Sz.zero | exact Sz.sm (by omega) (by omega) (by decide) | exact Sz.mono (by assumption) (by decide)), fun value H2 s2 g2 hvalue0 hvalue1 => ?_⟩
    refine i_I0 <| n2 <| i_nx <| ?_
    refine i_cut (fun σ H' => ∃ (v : Int), σ = [some (V.ref sourceA), some (V.int kind), some (V.int v)] ∧ Ext H2 H' ∧ IsSrc H' sourceA ∧ 1 ≤ v ∧ Sz 126 v) ?_ ?_
    ·
      refine i_if <| i_test <| i_op <| v1 <| i_c <| i_I0 <| i_bl <| i_ite (fun c3 => ?_) (fun c3 => ?_)
      ·
        refine i_asg <| i_op <| v2 <| i_call <| i_cons <| v0 <| i_nil <| ⟨_, rfl, g2, fun value2 H3 s3 g3 hvalue20 hvalue21 => ?_⟩
        refine i_I0 <| n2 <| ?_
        exact ⟨_, rfl, s3, g3, (by first | rfl | assumption | omega), (by repeat (first | assumption | exact Sz.zero | exact Sz.mono (by assumption) (by first | decide | omega) | exact Sz.sm (by omega) (by omega) (by first | decide | omega) | apply Sz.add | apply Sz.sub))⟩
      ·
        refine i_next <| ?_
        exact ⟨_, rfl, (Ext.refl _), g2, (by first | rfl | assumption | omega), (by repeat (first | assumption | exact Sz.zero | exact Sz.mono (by assumption) (by first | decide | omega) | exact Sz.sm (by omega) (by omega) (by first | decide | omega) | apply Sz.add | apply Sz.sub))⟩
    ·
      rintro σ H4 ⟨v, rfl, s4, g4, j0, j1⟩
      refine i_cut (fun σ H' => ∃ (v : Int), σ = [some (V.ref sourceA), some (V.int kind), some (V.int v)] ∧ Ext H4 H' ∧ IsSrc H' sourceA ∧ 1 ≤ v ∧ Sz 150 v) ?_ ?_
      ·
        refine i_if <| i_test <| i_op <| v1 <| i_c <| i_I0 <| i_bl <| i_ite (fun c5 => ?_) (fun c5 => ?_)
        ·
          refine i_asg <| i_call <| i_cons <| i_op <| i_c <| i_call <| i_cons <| v0 <| i_cons <| i_c <| i_nil <| ⟨_, _, rfl, g4, (by first | assumption | omega | rfl | exact Sz.zero | exact Sz.sm (by omega) (by omega) (by decide) | exact Sz.mono (by assumption) (by decide)), (by first | assumption | omega | rfl | exact Sz.zero | exact Sz.sm (by omega) (by omega) (by decide) | exact Sz.mono (by assumption) (by decide)), fun value3 H5 s5 g5 hvalue30 hvalue31 => ?_⟩
          refine i_I0 <| i_cons <| i_call <| i_cons <| v0 <| i_cons <| i_c <| i_nil <| ⟨_, _, rfl, g5, (by first | assumption | omega | rfl | exact Sz.zero | exact Sz.sm (by omega) (by omega) (by decide) | exact Sz.mono (by assumption) (by decide)), (by first | assumption | omega | rfl | exact Sz.zero | exact Sz.sm (by omega) (by omega) (by decide) | exact Sz.mono (by assumption) (by decide)), fun value4 H6 s6 g6 hvalue40 hvalue41 => ?_⟩
          refine i_nil <| ⟨_, _, rfl, (by first | assumption | omega | rfl | exact Sz.zero | exact Sz.sm (by omega) (by omega) (by decide) | exact Sz.mono (by assumption) (by decide)), (by first | assumption | omega | rfl | exact Sz.zero | exact Sz.sm (by omega) (by omega) (by decide) | exact Sz.mono (by assumption) (by decide)), (by exact Sz.of (by omega) (by omega)), fun value5 H7 s7 hvalue5 => ?_⟩
          refine n2 <| ?_
          exact ⟨_, rfl, (s5.trans (s6.trans (ext_of s7))), (same_src s7 g6), (by first | assumption | (subst_vars; exact pow_pos1 (by omega) _)), (by first | assumption | exact Sz.mono (by assumption) (by decide) | (subst_vars; exact (Sz.pow (a := 6) (by unfold Sz; omega) _).mono (by omega)))⟩
        ·
          refine i_next <| ?_
          exact ⟨_, rfl, (Ext.refl _), g4, (by first | assumption | (subst_vars; exact pow_pos1 (by omega) _)), (by first | assumption | exact Sz.mono (by assumption) (by decide) | (subst_vars; exact (Sz.pow (a := 6) (by unfold Sz; omega) _).mono (by omega)))⟩
      ·
        rintro σ H8 ⟨v, rfl, s8, g8, l0, l1⟩
        refine i_cut (fun σ H' => ∃ (v : Int), σ = [some (V.ref sourceA), some (V.int kind), some (V.int v)] ∧ Ext H8 H' ∧ IsSrc H' sourceA ∧ 1 ≤ v ∧ Sz 160 v) ?_ ?_
        ·
          refine i_if <| i_test <| i_op <| i_call <| i_cons <| v0 <| i_cons <| i_c <| i_nil <| ⟨_, _, rfl, g8, (by first | assumption | omega | rfl | exact Sz.zero | exact Sz.sm (by omega) (by omega) (by decide) | exact Sz.mono (by assumption) (by decide)), (by first | assumption | omega | rfl | exact Sz.zero | exact Sz.sm (by omega) (by omega) (by decide) | exact Sz.mono (by assumption) (by decide)), fun r9 H10 s10 g10 hr90 hr91 => ?_⟩
          refine i_c <| i_I0 <| i_bl <| i_ite (fun c7 => ?_) (fun c7 => ?_)
          ·
            refine i_asg <| i_op <| i_c <| v2 <| i_I (by first | exact .inl ⟨by decide, by decide⟩ | exact .inr ⟨by decide, by decide⟩) <| n2 <| ?_
            exact ⟨_, rfl, s10, g10, (by first | rfl | assumption | omega), (by first | exact Sz.mono (by assumption) (by decide) | exact Sz.mono (Sz.mul (a := 2) (by unfold Sz; decide) (by assumption)) (by decide))⟩
          ·
            refine i_next <| ?_
            exact ⟨_, rfl, s10, g10, (by first | rfl | assumption | omega), (by first | exact Sz.mono (by assumption) (by decide) | exact Sz.mono (Sz.mul (a := 2) (by unfold Sz; decide) (by assumption)) (by decide))⟩
        ·
          rintro σ H11 ⟨v, rfl, s11, g11, l0, l1⟩
          refine i_ret <| v2 <| ?_
          exact k _ _ (s1.trans (s2.trans (s4.trans (s8.trans s11)))) g11 (by first | rfl | assumption | omega) (by first | rfl | assumption | omega)

/-! _law_numerator -/
def sp__law_numerator (K : PySem.W.Frag) : Sp := fun vs H Q _ => ∃ (sourceA : Addr) (divisor : Int), vs = [V.ref sourceA, V.int divisor] ∧ IsSrc H sourceA ∧ (1 ≤ divisor) ∧ (Sz 160 divisor) ∧ ∀ (r : Int) (H' : Hp), Ext H H' → IsSrc H' sourceA → Sz 400 r → Q (V.int r) H'
abbrev s__law_numerator : Stmt := top 21
theorem sc__law_numerator : FnScope ["source", "divisor", "kind", "part", "whole"] ["source", "divisor"] (defScope s__law_numerator) := ⟨rfl, rfl, rfl, by decide +kernel, rfl, by decide +kernel, by decide +kernel⟩
theorem vis__law_numerator : visB ["source", "divisor", "kind", "part", "whole"] (defScope s__law_numerator) = true := by decide +kernel
theorem gl__law_numerator : glB ["_law_draw", "_law_big", "int"] (defScope s__law_numerator) = true := by decide +kernel
theorem ok__law_numerator {P : Program} {w : World} {K : PySem.W.Frag} {mg : Str → Option Value} {base : Heap} (T : Txt w K mg) : OkD P w K mg base 3 (He.fAd K ("_law_numerator", none)) ["source", "divisor"] [] (sp__law_numerator K) := by
  obtain ⟨fd, F⟩ := T.d__law_numerator
  refine ⟨fd, [], F.kp, F.bindsN (fun _ _ _ _ _ _ us hl => match us, hl with | [_, _], _ => rfl), .nil, ?_⟩
  have sc := sc__law_numerator; have vis := vis__law_numerator; have gls := gl__law_numerator
  refine F.ok sc (fun vs H Q E h => ?_) (fun cdv A outer s H0 vs Q E hr h => ?_)
  · obtain ⟨sourceA, divisor, rfl, _⟩ := h; rfl
  · obtain ⟨sourceA, divisor, rfl, a0, e0, e1, k⟩ := h
    refine ⟨_, PSs.nox (pss_cons (ps_set (i := 2) sc.nd rfl (.inl rfl) (pcD (ok__law_draw T) (hr.mono (by decide)) gls 0 T.g__law_draw (pa_cons (pn vis 0) (pa_cons pe_int pa_nil)))) (pss_cons (ps_set (i := 3) sc.nd rfl (.inl rfl) (pe_op op_fdiv (pn vis 1) pe_int)) (C8.pss_cut (ps_if (pt_cmpR op_eqI (pn vis 2) pe_int (nomark _)) (pss_one (ps_set (i := 3) sc.nd rfl (.inl rfl) (pe_op op_add (pn vis 3) pe_int))) pss_nil) (C8.pss_cut (ps_if (pt_cmpR op_eqI (pn vis 2) pe_int (nomark _)) (pss_one (ps_set (i := 3) sc.nd rfl (.inl rfl) (pe_op op_sub (pn vis 3) pe_int))) pss_nil) (C8.pss_cut (ps_if (pt_cmpR op_eqI (pn vis 2) pe_int (nomark _)) (pss_one (ps_set (i := 3) sc.nd rfl (.inl rfl) pe_int)) pss_nil) (C8.pss_cut (ps_if (pt_cmpR op_eqI (pn vis 2) pe_int (nomark _)) (pss_one (ps_set (i := 3) sc.nd rfl (.inl rfl) pe_int)) pss_nil) (C8.pss_cut (ps_if (pt_cmpR op_eqI (pn vis 2) pe_int (nomark _)) (pss_one (ps_set (i := 3) sc.nd rfl (.inl rfl) (pe_op op_sub (pn vis 1) pe_int))) pss_nil) (C8.pss_cut (ps_if (pt_cmpR op_eqI (pn vis 2) pe_int (nomark _)) (pss_one (ps_set (i := 3) sc.nd rfl (.inl rfl) (pe_op op_mod (pcT call_intI gls 2 T.b_int boot_int (pa_cons (pcD (ok__law_big T) (hr.mono (by decide)) gls 1 T.g__law_big (pa_cons (pn vis 0) pa_nil)) pa_nil)) (pn vis 1)))) pss_nil) (pss_cons (ps_set (i := 4) sc.nd rfl (.inl rfl) (pcD (ok__law_draw T) (hr.mono (by decide)) gls 0 T.g__law_draw (pa_cons (pn vis 0) (pa_cons pe_int pa_nil)))) (C8.pss_cut (ps_if (pt_cmpR op_eqI (pcD (ok__law_draw T) (hr.mono (by decide)) gls 0 T.g__law_draw (pa_cons (pn vis 0) (pa_cons pe_int pa_nil))) pe_int (nomark _)) (pss_one (ps_set (i := 4) sc.nd rfl (.inl rfl) (pe_op op_add (pn vis 4) (pcD (ok__law_big T) (hr.mono (by decide)) gls 1 T.g__law_big (pa_cons (pn vis 0) pa_nil))))) pss_nil) (pss_one (ps_ret (pe_op op_mulX (pe_op op_add (pe_op op_mulX (pn vis 4) (pn vis 1)) (pn vis 3)) (pe_op op_sub pe_int (pe_op op_mul pe_int (pcD (ok__law_draw T) (hr.mono (by decide)) gls 0 T.g__law_draw (pa_cons (pn vis 0) (pa_cons pe_int pa_nil)))))))))))))))))), ?_⟩
    refine i_start (σ' := [some (V.ref sourceA), some (V.int divisor), none, none, none]) rfl ?_
    refine i_seq <| i_asg <| i_call <| i_cons <| v0 <| i_cons <| i_c <| i_nil <| ⟨_, _, rfl, a0, (by first | assumption | omega | rfl | exact Sz.zero | exact Sz.sm (by omega) (by omega) (by decide) | exact Sz.mono (by assumption) (by decide)), (by first | assumption | omega | rfl | exact Sz.zero | exact Sz.sm (by omega) (by omega) (by decide) | exact Sz.mono (by assumption) (by decide)), fun kind H1 s1 g1 hkind0 hkind1 => ?_⟩
    refine n2 <| i_nx <| i_seq <| i_asg <| i_op <| v1 <| i_c <| i_I ⟨by decide, by decide⟩ <| n3 <| i_nx <| ?_
    refine i_cut (fun σ H' => ∃ (p : Int), σ = [some (V.ref sourceA), some (V.int divisor), some (V.int kind), some (V.int p), none] ∧ Ext H1 H' ∧ IsSrc H' sourceA ∧ 0 ≤ p ∧ p ≤ divisor + 1) ?_ ?_
    ·
      refine i_if <| i_test <| i_op <| v2 <| i_c <| i_I0 <| i_bl <| i_ite (fun c3 => ?_) (fun c3 => ?_)
      ·
        refine i_asg <| i_op <| v3 <| i_c <| i_I0 <| n3 <| ?_
        exact ⟨_, rfl, (Ext.refl _), g1, (by first | rfl | assumption | omega), (by first | rfl | assumption | omega)⟩
      ·
        refine i_next <| ?_
        exact ⟨_, rfl, (Ext.refl _), g1, (by first | rfl | assumption | omega), (by first | rfl | assumption | omega)⟩
    ·
      rintro σ H2 ⟨p, rfl, s2, g2, j0, j1⟩
      refine i_cut (fun σ H' => ∃ (p : Int), σ = [some (V.ref sourceA), some (V.int divisor), some (V.int kind), some (V.int p), none] ∧ Ext H2 H' ∧ IsSrc H' sourceA ∧ -1 ≤ p ∧ p ≤ divisor + 1) ?_ ?_
      ·
        refine i_if <| i_test <| i_op <| v2 <| i_c <| i_I0 <| i_bl <| i_ite (fun c5 => ?_) (fun c5 => ?_)
        ·
          refine i_asg <| i_op <| v3 <| i_c <| i_I0 <| n3 <| ?_
          exact ⟨_, rfl, (Ext.refl _), g2, (by first | rfl | assumption | omega), (by first | rfl | assumption | omega)⟩
        ·
          refine i_next <| ?_
          exact ⟨_, rfl, (Ext.refl _), g2, (by first | rfl | assumption | omega), (by first | rfl | assumption | omega)⟩
      ·
        rintro σ H3 ⟨p, rfl, s3, g3, j0, j1⟩
        refine i_cut (fun σ H' => ∃ (p : Int), σ = [some (V.ref sourceA), some (V.int divisor), some (V.int kind), some (V.int p), none] ∧ Ext H3 H' ∧ IsSrc H' sourceA ∧ -1 ≤ p ∧ p ≤ divisor + 1) ?_ ?_
        ·
          refine i_if <| i_test <| i_op <| v2 <| i_c <| i_I0 <| i_bl <| i_ite (fun c7 => ?_) (fun c7 => ?_)
          ·
            refine i_asg <| i_c <| n3 <| ?_
            exact ⟨_, rfl, (Ext.refl _), g3, (by first | rfl | assumption | omega), (by first | rfl | assumption | omega)⟩
          ·
            refine i_next <| ?_
            exact ⟨_, rfl, (Ext.refl _), g3, (by first | rfl | assumption | omega), (by first | rfl | assumption | omega)⟩
        ·
          rintro σ H4 ⟨p, rfl, s4, g4, j0, j1⟩
          refine i_cut (fun σ H' => ∃ (p : Int), σ = [some (V.ref sourceA), some (V.int divisor), some (V.int kind), some (V.int p), none] ∧ Ext H4 H' ∧ IsSrc H' sourceA ∧ -1 ≤ p ∧ p ≤ divisor + 1) ?_ ?_
          ·
            refine i_if <| i_test <| i_op <| v2 <| i_c <| i_I0 <| i_bl <| i_ite (fun c9 => ?_) (fun c9 => ?_)
            ·
              refine i_asg <| i_c <| n3 <| ?_
              exact ⟨_, rfl, (Ext.refl _), g4, (by first | rfl | assumption | omega), (by first | rfl | assumption | omega)⟩
            ·
              refine i_next <| ?_
              exact ⟨_, rfl, (Ext.refl _), g4, (by first | rfl | assumption | omega), (by first | rfl | assumption | omega)⟩
          ·
            rintro σ H5 ⟨p, rfl, s5, g5, j0, j1⟩
            refine i_cut (fun σ H' => ∃ (p : Int), σ = [some (V.ref sourceA), some (V.int divisor), some (V.int kind), some (V.int p), none] ∧ Ext H5 H' ∧ IsSrc H' sourceA ∧ -1 ≤ p ∧ p ≤ divisor + 1) ?_ ?_
            ·
              refine i_if <| i_test <| i_op <| v2 <| i_c <| i_I0 <| i_bl <| i_ite (fun c11 => ?_) (fun c11 => ?_)
              ·
                refine i_asg <| i_op <| v1 <| i_c <| i_I0 <| n3 <| ?_
                exact ⟨_, rfl, (Ext.refl _), g5, (by first | rfl | assumption | omega), (by first | rfl | assumption | omega)⟩
              ·
                refine i_next <| ?_
                exact ⟨_, rfl, (Ext.refl _), g5, (by first | rfl | assumption | omega), (by first | rfl | assumption | omega)⟩
            ·
              rintro σ H6 ⟨p, rfl, s6, g6, j0, j1⟩
              refine i_cut (fun σ H' => ∃ (p : Int), σ = [some (V.ref sourceA), some (V.int divisor), some (V.int kind), some (V.int p), none] ∧ Ext H6 H' ∧ IsSrc H' sourceA ∧ -1 ≤ p ∧ p ≤ divisor + 1) ?_ ?_
              ·
                refine i_if <| i_test <| i_op <| v2 <| i_c <| i_I0 <| i_bl <| i_ite (fun c13 => ?_) (fun c13 => ?_)
                ·
                  refine i_asg <| i_op <| i_cb <| i_cons <| i_call <| i_cons <| v0 <| i_nil <| ⟨_, rfl, g6, fun part H7 s7 g7 hpart0 hpart1 => ?_⟩
                  refine i_nil <| i_int <| v1 <| i_I (by show (0 : Int) < _; first | decide | assumption | omega) <| n3 <| ?_
                  exact ⟨_, rfl, s7, g7, (by have := Int.emod_nonneg part (show divisor ≠ 0 by omega); omega), (by have := Int.emod_lt_of_pos part (show 0 < divisor by omega); omega)⟩
                ·
                  refine i_next <| ?_
                  exact ⟨_, rfl, (Ext.refl _), g6, (by first | rfl | assumption | omega), (by first | rfl | assumption | omega)⟩
              ·
                rintro σ H8 ⟨p, rfl, s8, g8, j0, j1⟩
                refine i_seq <| i_asg <| i_call <| i_cons <| v0 <| i_cons <| i_c <| i_nil <| ⟨_, _, rfl, g8, (by first | assumption | omega | rfl | exact Sz.zero | exact Sz.sm (by omega) (by omega) (by decide) | exact Sz.mono (by assumption) (by decide)), (by first | assumption | omega | rfl | exact Sz.zero | exact Sz.sm (by omega) (by omega) (by decide) | exact Sz.mono (by assumption) (by decide)), fun whole H9 s9 g9 hwhole0 hwhole1 => ?_⟩
                refine n4 <| i_nx <| ?_
                refine i_cut (fun σ H' => ∃ (q : Int), σ = [some (V.ref sourceA), some (V.int divisor), some (V.int kind), some (V.int p), some (V.int q)] ∧ Ext H9 H' ∧ IsSrc H' sourceA ∧ 0 ≤ q ∧ Sz 130 q) ?_ ?_
                ·
                  refine i_if <| i_test <| i_op <| i_call <| i_cons <| v0 <| i_cons <| i_c <| i_nil <| ⟨_, _, rfl, g9, (by first | assumption | omega | rfl | exact Sz.zero | exact Sz.sm (by omega) (by omega) (by decide) | exact Sz.mono (by assumption) (by decide)), (by first | assumption | omega | rfl | exact Sz.zero | exact Sz.sm (by omega) (by omega) (by decide) | exact Sz.mono (by assumption) (by decide)), fun r10 H11 s11 g11 hr100 hr101 => ?_⟩
                  refine i_c <| i_I0 <| i_bl <| i_ite (fun c16 => ?_) (fun c16 => ?_)
                  ·
                    refine i_asg <| i_op <| v4 <| i_call <| i_cons <| v0 <| i_nil <| ⟨_, rfl, g11, fun whole4 H12 s12 g12 hwhole40 hwhole41 => ?_⟩
                    refine i_I0 <| n4 <| ?_
                    exact ⟨_, rfl, (s11.trans s12), g12, (by first | rfl | assumption | omega), (by repeat (first | assumption | exact Sz.zero | exact Sz.mono (by assumption) (by first | decide | omega) | exact Sz.sm (by omega) (by omega) (by first | decide | omega) | apply Sz.add | apply Sz.sub))⟩
                  ·
                    refine i_next <| ?_
                    exact ⟨_, rfl, s11, g11, (by first | rfl | assumption | omega), (by repeat (first | assumption | exact Sz.zero | exact Sz.mono (by assumption) (by first | decide | omega) | exact Sz.sm (by omega) (by omega) (by first | decide | omega) | apply Sz.add | apply Sz.sub))⟩
                ·
                  rintro σ H13 ⟨q, rfl, s13, g13, l0, l1⟩
                  refine i_ret <| i_op <| i_op <| i_op <| v4 <| v1 <| i_I (by exact mulx l1 e1) <| v3 <| i_I0 <| i_op <| i_c <| i_op <| i_c <| i_call <| i_cons <| v0 <| i_cons <| i_c <| i_nil <| ⟨_, _, rfl, g13, (by first | assumption | omega | rfl | exact Sz.zero | exact Sz.sm (by omega) (by omega) (by decide) | exact Sz.mono (by assumption) (by decide)), (by first | assumption | omega | rfl | exact Sz.zero | exact Sz.sm (by omega) (by omega) (by decide) | exact Sz.mono (by assumption) (by decide)), fun r14 H15 s15 g15 hr140 hr141 => ?_⟩
                  refine i_I (by first | exact .inl ⟨by decide, by decide⟩ | exact .inr ⟨by decide, by decide⟩) <| i_I0 <| i_I (by exact mulx (a := 300) (b := 10) (Sz.add (a := 299) ((Sz.mul l1 e1).mono (by decide)) ((Sz.btw e1 j0 j1).mono (by decide))) (Sz.sm (by omega) (by omega) (by decide))) <| ?_
                  exact k _ _ (s1.trans (s2.trans (s3.trans (s4.trans (s5.trans (s6.trans (s8.trans (s9.trans (s13.trans s15))))))))) g15 (by exact (Sz.mul (a := 300) (b := 10) (Sz.add (a := 299) ((Sz.mul l1 e1).mono (by decide)) ((Sz.btw e1 j0 j1).mono (by decide))) (Sz.sm (by omega) (by omega) (by decide))).mono (by decide))

/-! _law_related -/
def sp__law_related (K : PySem.W.Frag) : Sp := fun vs H Q _ => ∃ (numerator : Int) (divisor : Int) (mode : Str) (factor : Int) (step : Int), vs = [V.int numerator, V.int divisor, V.str mode, V.int factor, V.int step] ∧ (Sz 400 numerator) ∧ (1 ≤ divisor) ∧ (Sz 170 divisor) ∧ (mode ∈ modes9) ∧ (2 ≤ factor) ∧ (factor ≤ 1001) ∧ (0 ≤ step) ∧ (step ≤ divisor + 2) ∧ ∀  (H' : Hp), Same H H' → Q (V.bl true) H'
abbrev s__law_related : Stmt := top 24
theorem sc__law_related : FnScope ["numerator", "divisor", "mode", "factor", "step", "result", "back", "low", "later", "far"] ["numerator", "divisor", "mode", "factor", "step"] (defScope s__law_related) := ⟨rfl, rfl, rfl, by decide +kernel, rfl, by decide +kernel, by decide +kernel⟩
theorem vis__law_related : visB ["numerator", "divisor", "mode", "factor", "step", "result", "back", "low", "later", "far"] (defScope s__law_related) = true := by decide +kernel
theorem gl__law_related : glB ["round_quotient", "mirror", "_law_integer", "_law_mirror", "_law_equal", "int", "_law_steady"] (defScope s__law_related) = true := by decide +kernel
theorem ok__law_related {P : Program} {w : World} {K : PySem.W.Frag} {mg : Str → Option Value} {base : Heap} (T : Txt w K mg) : OkD P w K mg base 3 (He.fAd K ("_law_related", none)) ["numerator", "divisor", "mode", "factor", "step"] [] (sp__law_related K) := by
  obtain ⟨fd, F⟩ := T.d__law_related
  refine ⟨fd, [], F.kp, F.bindsN (fun _ _ _ _ _ _ us hl => match us, hl with | [_, _, _, _, _], _ => rfl), .nil, ?_⟩
  have sc := sc__law_related; have vis := vis__law_related; have gls := gl__law_related
  refine F.ok sc (fun vs H Q E h => ?_) (fun cdv A outer s H0 vs Q E hr h => ?_)
  · obtain ⟨numerator, divisor, mode, factor, step, rfl, _⟩ := h; rfl
  · obtain ⟨numerator, divisor, mode, factor, step, rfl, e0, e1, e2, e3, e4, e5, e6, e7, k⟩ := h
    refine ⟨_, PSs.nox (pss_cons (ps_set (i := 5) sc.nd rfl (.inl rfl) (pcD (ok_round_quotient T) (hr.mono (by decide)) gls 0 T.g_round_quotient (pa_cons (pn vis 0) (pa_cons (pn vis 1) (pa_cons (pn vis 2) pa_nil))))) (pss_cons (ps_set (i := 6) sc.nd rfl (.inl rfl) (pcD (ok_mirror T) (hr.mono (by decide)) gls 1 T.g_mirror (pa_cons (pn vis 2) pa_nil))) (pss_cons (ps_if (PW.pt (pw_or (pt_not (pt_val (pcD (ok__law_integer T) (hr.mono (by decide)) gls 2 T.g__law_integer (pa_cons (pn vis 5) pa_nil)))) (pw_or1 (pt_not (pt_val (pcD (ok__law_equal_str T) (hr.mono (by decide)) gls 4 T.g__law_equal (pa_cons (pn vis 6) (pa_cons (pcD (ok__law_mirror T) (hr.mono (by decide)) gls 3 T.g__law_mirror (pa_cons (pn vis 2) pa_nil)) pa_nil)))))))) pss_never pss_nil) (pss_cons (ps_set (i := 7) sc.nd rfl (.inl rfl) (pe_op op_fdivW (pn vis 0) (pn vis 1))) (pss_cons (ps_if (PW.pt (pw_or (pt_cmpR op_lt (pn vis 5) (pn vis 7) (nomark _)) (pw_or1 (pt_cmpR op_gt (pn vis 5) (pe_op op_add (pn vis 7) (pcT call_intB gls 5 T.b_int boot_int (pa_cons (pe_cmpR op_gt (pe_op op_mod (pcT call_intI gls 5 T.b_int boot_int (pa_cons (pn vis 0) pa_nil)) (pn vis 1)) pe_int (nomark _)) pa_nil))) (nomark _))))) (pss_one (ps_ret pe_bl)) pss_nil) (pss_cons (ps_if (pt_not (pt_val (pcD (ok__law_equal_int T) (hr.mono (by decide)) gls 4 T.g__law_equal (pa_cons (pcD (ok_round_quotient T) (hr.mono (by decide)) gls 0 T.g_round_quotient (pa_cons (pe_op op_sub pe_int (pn vis 0)) (pa_cons (pn vis 1) (pa_cons (pn vis 6) pa_nil)))) (pa_cons (pe_op op_sub pe_int (pn vis 5)) pa_nil))))) pss_never pss_nil) (pss_cons (ps_if (pt_not (pt_val (pcD (ok__law_equal_int T) (hr.mono (by decide)) gls 4 T.g__law_equal (pa_cons (pcD (ok_round_quotient T) (hr.mono (by decide)) gls 0 T.g_round_quotient (pa_cons (pe_op op_mulX (pn vis 0) (pn vis 3)) (pa_cons (pe_op op_mulX (pn vis 1) (pn vis 3)) (pa_cons (pn vis 2) pa_nil)))) (pa_cons (pn vis 5) pa_nil))))) pss_never pss_nil) (pss_cons (ps_set (i := 8) sc.nd rfl (.inl rfl) (pcD (ok_round_quotient T) (hr.mono (by decide)) gls 0 T.g_round_quotient (pa_cons (pe_op op_add (pn vis 0) (pn vis 4)) (pa_cons (pn vis 1) (pa_cons (pn vis 2) pa_nil))))) (pss_cons (ps_if (PW.pt (pw_or (pt_not (pt_val (pcD (ok__law_integer T) (hr.mono (by decide)) gls 2 T.g__law_integer (pa_cons (pn vis 8) pa_nil)))) (pw_or1 (pt_cmpR op_lt (pn vis 8) (pn vis 5) (nomark _))))) (pss_one (ps_ret pe_bl)) pss_nil) (pss_cons (ps_set (i := 9) sc.nd rfl (.inl rfl) (pcD (ok_round_quotient T) (hr.mono (by decide)) gls 0 T.g_round_quotient (pa_cons (pe_op op_add (pn vis 0) (pe_op op_mulX (pe_op op_mul pe_int (pn vis 3)) (pn vis 1))) (pa_cons (pn vis 1) (pa_cons (pn vis 2) pa_nil))))) (pss_one (ps_ret (pe_or (pe_not (pcD (ok__law_steady T) (hr.mono (by decide)) gls 6 T.g__law_steady (pa_cons (pn vis 2) pa_nil))) (pe_one (pcD (ok__law_equal_int T) (hr.mono (by decide)) gls 4 T.g__law_equal (pa_cons (pn vis 9) (pa_cons (pe_op op_add (pn vis 5) (pe_op op_mul pe_int (pn vis 3))) pa_nil))))))))))))))))), ?_⟩
    refine i_start (σ' := [some (V.int numerator), some (V.int divisor), some (V.str mode), some (V.int factor), some (V.int step), none, none, none, none, none]) rfl ?_
    refine i_seq <| i_asg <| i_call <| i_cons <| v0 <| i_cons <| v1 <| i_cons <| v2 <| i_nil <| ⟨_, _, _, rfl, (by first | assumption | omega | rfl | exact Sz.zero | exact Sz.sm (by omega) (by omega) (by decide) | exact Sz.mono (by assumption) (by decide)), (by first | assumption | omega | rfl | exact Sz.zero | exact Sz.sm (by omega) (by omega) (by decide) | exact Sz.mono (by assumption) (by decide)), (by first | assumption | omega | rfl | exact Sz.zero | exact Sz.sm (by omega) (by omega) (by decide) | exact Sz.mono (by assumption) (by decide)), fun result H1 s1 hresult => ?_⟩
    refine n5 <| i_nx <| i_seq <| i_asg <| i_call <| i_cons <| v2 <| i_nil <| ⟨_, rfl, (by first | assumption | omega | rfl | exact Sz.zero | exact Sz.sm (by omega) (by omega) (by decide) | exact Sz.mono (by assumption) (by decide)), fun back H2 s2 hback => ?_⟩
    refine n6 <| i_nx <| i_seq <| i_if <| i_or <| i_not <| i_tB <| i_call <| i_cons <| v5 <| i_nil <| ⟨_, rfl, fun H4 s4 => ?_⟩
    refine i_bl <| i_iteNT <| i_not <| i_tB <| i_call <| i_cons <| v6 <| i_cons <| i_call <| i_cons <| v2 <| i_nil <| ⟨_, rfl, (by first | assumption | omega | rfl | exact Sz.zero | exact Sz.sm (by omega) (by omega) (by decide) | exact Sz.mono (by assumption) (by decide)), fun r5 H6 s6 hr5 => ?_⟩
    refine i_nil <| ⟨_, _, rfl, (by subst_vars; rfl), fun H8 s8 => ?_⟩
    refine i_bl <| i_iteNT <| i_next <| i_nx <| i_seq <| i_asg <| i_op <| v0 <| v1 <| i_I (by exact divw (by omega) e2) <| n7 <| i_nx <| i_seq <| i_if <| i_or <| i_test <| i_op <| v5 <| v7 <| i_I0 <| i_bl <| i_ite (fun c6 => ?_) (fun c6 => ?_)
    ·
      refine i_iteT <| i_ret <| i_c <| ?_
      exfalso; have q := rq_low2 (n := numerator) (m := mode) (d := divisor) (by omega); have q2 := rq_mono (n := numerator) (s := step) (m := mode) (d := divisor) (by omega) e3 e6; subst_vars; omega
    ·
      refine i_test <| i_op <| v5 <| i_op <| v7 <| i_cb <| i_cons <| i_op <| i_op <| i_cb <| i_cons <| v0 <| i_nil <| i_int <| v1 <| i_I (by show (0 : Int) < _; first | decide | assumption | omega) <| i_c <| i_I0 <| i_nil <| i_intB <| i_I0 <| i_I0 <| i_bl <| i_ite (fun c6' => ?_) (fun c6' => ?_)
      ·
        refine i_ret <| i_c <| ?_
        exfalso; have q := rq_low2 (n := numerator) (m := mode) (d := divisor) (by omega); have q2 := rq_mono (n := numerator) (s := step) (m := mode) (d := divisor) (by omega) e3 e6; subst_vars; omega
      ·
        refine i_next <| i_nx <| i_seq <| i_if <| i_not <| i_tB <| i_call <| i_cons <| i_call <| i_cons <| i_op <| i_c <| v0 <| i_I0 <| i_cons <| v1 <| i_cons <| v6 <| i_nil <| ⟨_, _, _, rfl, (by first | assumption | omega | rfl | exact Sz.zero | exact Sz.sm (by omega) (by omega) (by decide) | exact Sz.mono (by assumption) (by decide)), (by first | assumption | omega | rfl | exact Sz.zero | exact Sz.sm (by omega) (by omega) (by decide) | exact Sz.mono (by assumption) (by decide)), (by subst hback; exact mir9_in e3), fun r9 H10 s10 hr9 => ?_⟩
        refine i_cons <| i_op <| i_c <| v5 <| i_I0 <| i_nil <| ⟨_, _, rfl, (by subst_vars; exact rq_neg (by omega) e3), fun H12 s12 => ?_⟩
        refine i_bl <| i_iteNT <| i_next <| i_nx <| i_seq <| i_if <| i_not <| i_tB <| i_call <| i_cons <| i_call <| i_cons <| i_op <| v0 <| v3 <| i_I (by exact mulx e0 (Sz.sm (by omega) (by omega) (by decide) : Sz 10 factor)) <| i_cons <| i_op <| v1 <| v3 <| i_I (by exact mulx e2 (Sz.sm (by omega) (by omega) (by decide) : Sz 10 factor)) <| i_cons <| v2 <| i_nil <| ⟨_, _, _, rfl, (by exact Int.mul_pos (by omega) (by omega)), (by exact (Sz.mul e2 (Sz.sm (by omega) (by omega) (by decide) : Sz 10 factor)).mono (by decide)), (by first | assumption | omega | rfl | exact Sz.zero | exact Sz.sm (by omega) (by omega) (by decide) | exact Sz.mono (by assumption) (by decide)), fun r13 H14 s14 hr13 => ?_⟩
        refine i_cons <| v5 <| i_nil <| ⟨_, _, rfl, (by subst_vars; exact rq_scale mode (by omega) (by omega)), fun H16 s16 => ?_⟩
        refine i_bl <| i_iteNT <| i_next <| i_nx <| i_seq <| i_asg <| i_call <| i_cons <| i_op <| v0 <| v4 <| i_I0 <| i_cons <| v1 <| i_cons <| v2 <| i_nil <| ⟨_, _, _, rfl, (by first | assumption | omega | rfl | exact Sz.zero | exact Sz.sm (by omega) (by omega) (by decide) | exact Sz.mono (by assumption) (by decide)), (by first | assumption | omega | rfl | exact Sz.zero | exact Sz.sm (by omega) (by omega) (by decide) | exact Sz.mono (by assumption) (by decide)), (by first | assumption | omega | rfl | exact Sz.zero | exact Sz.sm (by omega) (by omega) (by decide) | exact Sz.mono (by assumption) (by decide)), fun later H17 s17 hlater => ?_⟩
        refine n8 <| i_nx <| i_seq <| i_if <| i_or <| i_not <| i_tB <| i_call <| i_cons <| v8 <| i_nil <| ⟨_, rfl, fun H19 s19 => ?_⟩
        refine i_bl <| i_iteNT <| i_test <| i_op <| v8 <| v5 <| i_I0 <| i_bl <| i_ite (fun c13 => ?_) (fun c13 => ?_)
        ·
          refine i_ret <| i_c <| ?_
          exfalso; have q := rq_low2 (n := numerator) (m := mode) (d := divisor) (by omega); have q2 := rq_mono (n := numerator) (s := step) (m := mode) (d := divisor) (by omega) e3 e6; subst_vars; omega
        ·
          refine i_next <| i_nx <| i_seq <| i_asg <| i_call <| i_cons <| i_op <| v0 <| i_op <| i_op <| i_c <| v3 <| i_I (by first | exact .inl ⟨by decide, by decide⟩ | exact .inr ⟨by decide, by decide⟩) <| v1 <| i_I (by exact mulx (Sz.of (n := 11) (by omega) (by omega)) e2) <| i_I0 <| i_cons <| v1 <| i_cons <| v2 <| i_nil <| ⟨_, _, _, rfl, (by first | assumption | omega | rfl | exact Sz.zero | exact Sz.sm (by omega) (by omega) (by decide) | exact Sz.mono (by assumption) (by decide)), (by first | assumption | omega | rfl | exact Sz.zero | exact Sz.sm (by omega) (by omega) (by decide) | exact Sz.mono (by assumption) (by decide)), (by first | assumption | omega | rfl | exact Sz.zero | exact Sz.sm (by omega) (by omega) (by decide) | exact Sz.mono (by assumption) (by decide)), fun far H20 s20 hfar => ?_⟩
          refine n9 <| i_nx <| i_ret <| i_orV <| i_notV <| i_call <| i_cons <| v2 <| i_nil <| ⟨_, rfl, fun r21 H22 s22 hr21 => ?_⟩
          refine i_blV <| i_blV <| i_iteB (fun c16 => ?_) (fun c16 => ?_)
          ·
            exact k _ (s1.trans (s2.trans (s4.trans (s6.trans (s8.trans (s10.trans (s12.trans (s14.trans (s16.trans (s17.trans (s19.trans (s20.trans s22))))))))))))
          ·
            refine i_call <| i_cons <| v9 <| i_cons <| i_op <| v5 <| i_op <| i_c <| v3 <| i_I (by first | exact .inl ⟨by decide, by decide⟩ | exact .inr ⟨by decide, by decide⟩) <| i_I0 <| i_nil <| ⟨_, _, rfl, (by subst_vars; exact rq_shift (by omega) (by simpa using c16)), fun H24 s24 => ?_⟩
            exact k _ (s1.trans (s2.trans (s4.trans (s6.trans (s8.trans (s10.trans (s12.trans (s14.trans (s16.trans (s17.trans (s19.trans (s20.trans (s22.trans s24)))))))))))))

/-! law -/
def sp_law (K : PySem.W.Frag) : Sp := fun vs H Q _ => ∃ (scriptA : Addr) (script : List Int), vs = [V.ref scriptA] ∧ SqL K H scriptA (script.map V.int) ∧ (script.length ≤ 63) ∧ ∀  (H' : Hp), Q (V.bl true) H'
abbrev s_law : Stmt := top 25
theorem sc_law : FnScope ["script", "source", "k", "divisor", "numerator", "factor", "step", "tie", "mode"] ["script"] (defScope s_law) := ⟨rfl, rfl, rfl, by decide +kernel, rfl, by decide +kernel, by decide +kernel⟩
theorem vis_law : visB ["script", "source", "k", "divisor", "numerator", "factor", "step", "tie", "mode"] (defScope s_law) = true := by decide +kernel
theorem gl_law : glB ["_law_source", "_law_draw", "_law_divisor", "_law_numerator", "_law_modes", "_law_related", "range"] (defScope s_law) = true := by decide +kernel
theorem ok_law {P : Program} {w : World} {K : PySem.W.Frag} {mg : Str → Option Value} (T : Txt w K mg) : ∃ fd : FuncData, (∀ (s : Shared) (v : Value), BindsTo s fd ⟨[v], []⟩ [("script", v)]) ∧ ∀ base : Heap, FnOk P w K mg base (L2.CX P w) 4 (He.fAd K ("law", none)) fd ["script"] (sp_law K) := by
  obtain ⟨fd, F⟩ := T.d_law
  refine ⟨fd, fun s v => FunD.bindsA (ps := ["script"]) F (fun _ _ _ _ _ _ us hl => match us, hl with | [_], _ => rfl) s [v] rfl, fun base => ?_⟩
  have sc := sc_law; have vis := vis_law; have gls := gl_law
  refine F.ok sc (fun vs H Q E h => ?_) (fun cdv A outer s H0 vs Q E hr h => ?_)
  · obtain ⟨scriptA, script, rfl, _⟩ := h; rfl
  · obtain ⟨scriptA, script, rfl, a0, e0, k⟩ := h
    refine ⟨_, PSs.nox (pss_cons (ps_set (i := 1) sc.nd rfl (.inl rfl) (pcD (ok__law_source T) (hr.mono (by decide)) gls 0 T.g__law_source (pa_cons (pn vis 0) pa_nil))) (pss_cons (ps_for PassesOwn.never rfl (pi_range1 (gl_of gls (i := 6) rfl).1 T.b_range (pa_cons (pe_op op_add pe_int (pcD (ok__law_draw T) (hr.mono (by decide)) gls 1 T.g__law_draw (pa_cons (pn vis 1) (pa_cons pe_int pa_nil)))) pa_nil)) (pg_name (i := 2) sc.nd rfl (.inl rfl)) (pss_cons (ps_set (i := 3) sc.nd rfl (.inl rfl) (pcD (ok__law_divisor T) (hr.mono (by decide)) gls 2 T.g__law_divisor (pa_cons (pn vis 1) pa_nil))) (pss_cons (ps_set (i := 4) sc.nd rfl (.inl rfl) (pcD (ok__law_numerator T) (hr.mono (by decide)) gls 3 T.g__law_numerator (pa_cons (pn vis 1) (pa_cons (pn vis 3) pa_nil)))) (pss_cons (ps_set (i := 5) sc.nd rfl (.inl rfl) (pe_op op_add pe_int (pcD (ok__law_draw T) (hr.mono (by decide)) gls 1 T.g__law_draw (pa_cons (pn vis 1) (pa_cons pe_int pa_nil))))) (pss_cons (ps_set (i := 6) sc.nd rfl (.inl rfl) (pcD (ok__law_draw T) (hr.mono (by decide)) gls 1 T.g__law_draw (pa_cons (pn vis 1) (pa_cons (pe_op op_add (pn vis 3) pe_int) pa_nil)))) (pss_cons (ps_set (i := 7) sc.nd rfl (.inl rfl) (pe_op op_mulX (pe_op op_mulX (pe_op op_add (pe_op op_mul pe_int (pcD (ok__law_draw T) (hr.mono (by decide)) gls 1 T.g__law_draw (pa_cons (pn vis 1) (pa_cons pe_int pa_nil)))) pe_int) (pn vis 3)) (pe_op op_sub pe_int (pe_op op_mul pe_int (pcD (ok__law_draw T) (hr.mono (by decide)) gls 1 T.g__law_draw (pa_cons (pn vis 1) (pa_cons pe_int pa_nil))))))) (pss_one (ps_for PassesOwn.never rfl (pi_list (pcD0 (ok__law_modes T) (hr.mono (by decide)) gls 4 T.g__law_modes)) (pg_name (i := 8) sc.nd rfl (.inl rfl)) (pss_cons (ps_if (pt_not (pt_val (pcD (ok__law_related T) (hr.mono (by decide)) gls 5 T.g__law_related (pa_cons (pn vis 4) (pa_cons (pn vis 3) (pa_cons (pn vis 8) (pa_cons (pn vis 5) (pa_cons (pn vis 6) pa_nil)))))))) pss_never pss_nil) (pss_one (ps_if (pt_not (pt_val (pcD (ok__law_related T) (hr.mono (by decide)) gls 5 T.g__law_related (pa_cons (pn vis 7) (pa_cons (pe_op op_mul pe_int (pn vis 3)) (pa_cons (pn vis 8) (pa_cons (pn vis 5) (pa_cons (pn vis 6) pa_nil)))))))) pss_never pss_nil))))))))))) (pss_one (ps_ret pe_bl)))), ?_⟩
    refine i_start (σ' := [some (V.ref scriptA), none, none, none, none, none, none, none, none]) rfl ?_
    refine i_seq <| i_asg <| i_call <| i_cons <| v0 <| i_nil <| ⟨_, _, rfl, a0, (by first | assumption | omega | rfl | exact Sz.zero | exact Sz.sm (by omega) (by omega) (by decide) | exact Sz.mono (by assumption) (by decide)), fun sourceA H1 s1 f1_0 => ?_⟩
    refine n1 <| i_nx <| i_seq <| i_for <| i_for1 <| i_cons <| i_op <| i_c <| i_call <| i_cons <| v1 <| i_cons <| i_c <| i_nil <| ⟨_, _, rfl, f1_0, (by first | assumption | omega | rfl | exact Sz.zero | exact Sz.sm (by omega) (by omega) (by decide) | exact Sz.mono (by assumption) (by decide)), (by first | assumption | omega | rfl | exact Sz.zero | exact Sz.sm (by omega) (by omega) (by decide) | exact Sz.mono (by assumption) (by decide)), fun r2 H3 s3 g3 hr20 hr21 => ?_⟩
    refine i_I0 <| i_nil <| i_rng1 (fun i σ H' => ∃ (o_k : Option V) (o_divisor : Option V) (o_numerator : Option V) (o_factor : Option V) (o_step : Option V) (o_tie : Option V) (o_mode : Option V), σ = [some (V.ref scriptA), some (V.ref sourceA), o_k, o_divisor, o_numerator, o_factor, o_step, o_tie, o_mode] ∧ Ext H3 H' ∧ IsSrc H' sourceA) (by omega) (by omega) ?_ ?_ ?_
    ·
      exact ⟨_, _, _, _, _, _, _, rfl, (Ext.refl _), g3⟩
    ·
      intro i
      rintro σ H4 hi ⟨o_k, o_divisor, o_numerator, o_factor, o_step, o_tie, o_mode, rfl, s4, g4⟩
      refine n2 <| i_seq <| i_asg <| i_call <| i_cons <| v1 <| i_nil <| ⟨_, rfl, g4, fun divisor H5 s5 g5 hdivisor0 hdivisor1 => ?_⟩
      refine n3 <| i_nx <| i_seq <| i_asg <| i_call <| i_cons <| v1 <| i_cons <| v3 <| i_nil <| ⟨_, _, rfl, g5, (by first | assumption | omega | rfl | exact Sz.zero | exact Sz.sm (by omega) (by omega) (by decide) | exact Sz.mono (by assumption) (by decide)), (by first | assumption | omega | rfl | exact Sz.zero | exact Sz.sm (by omega) (by omega) (by decide) | exact Sz.mono (by assumption) (by decide)), fun numerator H6 s6 g6 hnumerator => ?_⟩
      refine n4 <| i_nx <| i_seq <| i_asg <| i_op <| i_c <| i_call <| i_cons <| v1 <| i_cons <| i_c <| i_nil <| ⟨_, _, rfl, g6, (by first | assumption | omega | rfl | exact Sz.zero | exact Sz.sm (by omega) (by omega) (by decide) | exact Sz.mono (by assumption) (by decide)), (by first | assumption | omega | rfl | exact Sz.zero | exact Sz.sm (by omega) (by omega) (by decide) | exact Sz.mono (by assumption) (by decide)), fun factor H7 s7 g7 hfactor0 hfactor1 => ?_⟩
      refine i_I0 <| nI5 (fun factor' hfactor' => ?_)
      refine i_nx <| i_seq <| i_asg <| i_call <| i_cons <| v1 <| i_cons <| i_op <| v3 <| i_c <| i_I0 <| i_nil <| ⟨_, _, rfl, g7, (by first | assumption | omega | rfl | exact Sz.zero | exact Sz.sm (by omega) (by omega) (by decide) | exact Sz.mono (by assumption) (by decide)), (by exact (Sz.add (a := 160) (by assumption) (Sz.sm (by decide) (by decide) (by decide))).mono (by decide)), fun step H8 s8 g8 hstep0 hstep1 => ?_⟩
      refine n6 <| i_nx <| i_seq <| i_asg <| i_op <| i_op <| i_op <| i_op <| i_c <| i_call <| i_cons <| v1 <| i_cons <| i_c <| i_nil <| ⟨_, _, rfl, g8, (by first | assumption | omega | rfl | exact Sz.zero | exact Sz.sm (by omega) (by omega) (by decide) | exact Sz.mono (by assumption) (by decide)), (by first | assumption | omega | rfl | exact Sz.zero | exact Sz.sm (by omega) (by omega) (by decide) | exact Sz.mono (by assumption) (by decide)), fun tie H9 s9 g9 htie0 htie1 => ?_⟩
      refine i_I (by first | exact .inl ⟨by decide, by decide⟩ | exact .inr ⟨by decide, by decide⟩) <| i_c <| i_I0 <| v3 <| i_I (by exact mulx (a := 10) (b := 160) (Sz.sm (by omega) (by omega) (by decide)) (by assumption)) <| i_op <| i_c <| i_op <| i_c <| i_call <| i_cons <| v1 <| i_cons <| i_c <| i_nil <| ⟨_, _, rfl, g9, (by first | assumption | omega | rfl | exact Sz.zero | exact Sz.sm (by omega) (by omega) (by decide) | exact Sz.mono (by assumption) (by decide)), (by first | assumption | omega | rfl | exact Sz.zero | exact Sz.sm (by omega) (by omega) (by decide) | exact Sz.mono (by assumption) (by decide)), fun tie8 H10 s10 g10 htie80 htie81 => ?_⟩
      refine i_I (by first | exact .inl ⟨by decide, by decide⟩ | exact .inr ⟨by decide, by decide⟩) <| i_I0 <| i_I (by exact mulx (a := 170) (b := 10) (Sz.mul (a := 10) (b := 160) (Sz.sm (by omega) (by omega) (by decide)) (by assumption)) (Sz.sm (by omega) (by omega) (by decide))) <| nI7 (fun tie' htie' => ?_)
      refine i_nx <| i_for <| i_lt <| i_call <| i_nil <| ⟨rfl, fun msA ms H11 s11 f11_0 hms => ?_⟩
      refine i_forL (fun q σ H' => ∃ (o_mode : Option V), σ = [some (V.ref scriptA), some (V.ref sourceA), some (V.int (0 + (i : Int))), some (V.int divisor), some (V.int numerator), some (V.int factor'), some (V.int step), some (V.int tie'), o_mode] ∧ Same H11 H') (SqL.of f11_0) ?_ ?_ ?_ ?_
      ·
        exact ⟨_, rfl, (Same.refl _)⟩
      ·
        intro i σ' H'' _ hPv
        revert hPv
        rintro ⟨_, _, s12⟩
        exact (SqL.of (s12 _ _ f11_0))
      ·
        rintro q y σ H13 hy ⟨o_mode, rfl, s13⟩
        obtain ⟨mode, hm0, rfl⟩ := at_str hy
        have hm : mode ∈ modes9 := by rw [hms] at hm0; exact hm0
        refine n8 <| i_seq <| i_if <| i_not <| i_tB <| i_call <| i_cons <| v4 <| i_cons <| v3 <| i_cons <| v8 <| i_cons <| v5 <| i_cons <| v6 <| i_nil <| ⟨_, _, _, _, _, rfl, (by first | assumption | omega | rfl | exact Sz.zero | exact Sz.sm (by omega) (by omega) (by decide) | exact Sz.mono (by assumption) (by decide)), (by first | assumption | omega | rfl | exact Sz.zero | exact Sz.sm (by omega) (by omega) (by decide) | exact Sz.mono (by assumption) (by decide)), (by exact Sz.mono (n := 160) (by assumption) (by decide)), (by first | assumption | omega | rfl | exact Sz.zero | exact Sz.sm (by omega) (by omega) (by decide) | exact Sz.mono (by assumption) (by decide)), (by first | assumption | omega | rfl | exact Sz.zero | exact Sz.sm (by omega) (by omega) (by decide) | exact Sz.mono (by assumption) (by decide)), (by first | assumption | omega | rfl | exact Sz.zero | exact Sz.sm (by omega) (by omega) (by decide) | exact Sz.mono (by assumption) (by decide)), (by first | assumption | omega | rfl | exact Sz.zero | exact Sz.sm (by omega) (by omega) (by decide) | exact Sz.mono (by assumption) (by decide)), (by first | assumption | omega | rfl | exact Sz.zero | exact Sz.sm (by omega) (by omega) (by decide) | exact Sz.mono (by assumption) (by decide)), fun H15 s15 => ?_⟩
        refine i_bl <| i_iteNT <| i_next <| i_nx <| i_if <| i_not <| i_tB <| i_call <| i_cons <| v7 <| i_cons <| i_op <| i_c <| v3 <| i_I (by first | exact .inl ⟨by decide, by decide⟩ | exact .inr ⟨by decide, by decide⟩) <| i_cons <| v8 <| i_cons <| v5 <| i_cons <| v6 <| i_nil <| ⟨_, _, _, _, _, rfl, (by subst htie'; exact (Sz.mul (a := 170) (b := 10) (Sz.mul (a := 10) (b := 160) (Sz.sm (by omega) (by omega) (by decide)) (by assumption)) (Sz.sm (by omega) (by omega) (by decide))).mono (by decide)), (by first | assumption | omega | rfl | exact Sz.zero | exact Sz.sm (by omega) (by omega) (by decide) | exact Sz.mono (by assumption) (by decide)), (by exact (Sz.mul (a := 10) (b := 160) (Sz.sm (by decide) (by decide) (by decide)) (by assumption))), (by first | assumption | omega | rfl | exact Sz.zero | exact Sz.sm (by omega) (by omega) (by decide) | exact Sz.mono (by assumption) (by decide)), (by first | assumption | omega | rfl | exact Sz.zero | exact Sz.sm (by omega) (by omega) (by decide) | exact Sz.mono (by assumption) (by decide)), (by first | assumption | omega | rfl | exact Sz.zero | exact Sz.sm (by omega) (by omega) (by decide) | exact Sz.mono (by assumption) (by decide)), (by first | assumption | omega | rfl | exact Sz.zero | exact Sz.sm (by omega) (by omega) (by decide) | exact Sz.mono (by assumption) (by decide)), (by first | assumption | omega | rfl | exact Sz.zero | exact Sz.sm (by omega) (by omega) (by decide) | exact Sz.mono (by assumption) (by decide)), fun H17 s17 => ?_⟩
        refine i_bl <| i_iteNT <| i_next <| ?_
        exact ⟨_, rfl, (s13.trans (s15.trans s17))⟩
      ·
        rintro σ H18 ⟨o_mode, rfl, s18⟩
        exact ⟨_, _, _, _, _, _, _, rfl, (s4.trans (s5.trans (s6.trans (s7.trans (s8.trans (s9.trans (s10.trans ((ext_of s11).trans (ext_of s18))))))))), (same_src (s11.trans s18) g10)⟩
    ·
      rintro σ H19 ⟨o_k, o_divisor, o_numerator, o_factor, o_step, o_tie, o_mode, rfl, s19, g19⟩
      refine i_nx <| i_ret <| i_c <| ?_
      exact k _
/-! the head -/
def fn0 : List He.DefD := [⟨("_law_power", none), "_law_power", "_law_power", defArgs (top 16), defBody (top 16), defScope (top 16), [], []⟩,
  ⟨("_law_draw", none), "_law_draw", "_law_draw", defArgs (top 14), defBody (top 14), defScope (top 14), [], []⟩,
  ⟨("_law_source", none), "_law_source", "_law_source", defArgs (top 13), defBody (top 13), defScope (top 13), [], []⟩,
  ⟨("_law_modes", none), "_law_modes", "_law_modes", defArgs (top 15), defBody (top 15), defScope (top 15), [], []⟩,
  ⟨("check_mode", none), "check_mode", "check_mode", defArgs (top 7), defBody (top 7), defScope (top 7), [], []⟩,
  ⟨("mirror", none), "mirror", "mirror", defArgs (top 8), defBody (top 8), defScope (top 8), [], []⟩,
  ⟨("goes_up", none), "goes_up", "goes_up", defArgs (top 9), defBody (top 9), defScope (top 9), [], []⟩,
  ⟨("tie_goes_up", none), "tie_goes_up", "tie_goes_up", defArgs (top 10), defBody (top 10), defScope (top 10), [], []⟩,
  ⟨("round_quotient", none), "round_quotient", "round_quotient", defArgs (top 11), defBody (top 11), defScope (top 11), [], []⟩,
  ⟨("_law_mirror", none), "_law_mirror", "_law_mirror", defArgs (top 17), defBody (top 17), defScope (top 17), [], []⟩,
  ⟨("_law_equal", none), "_law_equal", "_law_equal", defArgs (top 18), defBody (top 18), defScope (top 18), [], []⟩,
  ⟨("_law_integer", none), "_law_integer", "_law_integer", defArgs (top 22), defBody (top 22), defScope (top 22), [], []⟩]
def fn1 : List He.DefD := [⟨("_law_steady", none), "_law_steady", "_law_steady", defArgs (top 23), defBody (top 23), defScope (top 23), [], []⟩,
  ⟨("_law_big", none), "_law_big", "_law_big", defArgs (top 19), defBody (top 19), defScope (top 19), [], []⟩,
  ⟨("_law_divisor", none), "_law_divisor", "_law_divisor", defArgs (top 20), defBody (top 20), defScope (top 20), [], []⟩,
  ⟨("_law_numerator", none), "_law_numerator", "_law_numerator", defArgs (top 21), defBody (top 21), defScope (top 21), [], []⟩,
  ⟨("_law_related", none), "_law_related", "_law_related", defArgs (top 24), defBody (top 24), defScope (top 24), [], []⟩,
  ⟨("law", none), "law", "law", defArgs (top 25), defBody (top 25), defScope (top 25), [], []⟩]
def fn : List He.DefD := fn0 ++ fn1
def fa0 : List He.Fa := [.glo "MIRRORS", .glo "MODES", .glo "NEAREST", .glo "_law_big", .glo "_law_divisor", .glo "_law_draw", .glo "_law_equal", .glo "_law_integer", .glo "_law_mirror", .glo "_law_modes", .glo "_law_numerator", .glo "_law_power", .glo "_law_related", .glo "_law_source", .glo "_law_steady"]
def fa1 : List He.Fa := [.free "abs", .free "bool", .glo "check_mode", .free "divmod", .glo "goes_up", .free "int", .free "isinstance", .glo "law", .free "len", .glo "mirror", .free "range", .glo "round_quotient", .free "str", .glo "tie_goes_up"]
def fa : List He.Fa := fa0 ++ fa1
def exl : List (PySem.W.Frag → Bool) := [fun K => He.valsB K (He.ga K "MIRRORS") [("nearest-up", .str "nearest-down"), ("nearest-down", .str "nearest-up"), ("upward", .str "downward"), ("downward", .str "upward")],
  fun K => He.eqO (PySem.W.nsIn K (He.ga K "MIRRORS") "nearest-even") (some none),
  fun K => He.eqO (PySem.W.nsIn K (He.ga K "MIRRORS") "nearest-out") (some none),
  fun K => He.eqO (PySem.W.nsIn K (He.ga K "MIRRORS") "nearest-in") (some none),
  fun K => He.eqO (PySem.W.nsIn K (He.ga K "MIRRORS") "inward") (some none),
  fun K => He.eqO (PySem.W.nsIn K (He.ga K "MIRRORS") "outward") (some none),
  fun K => He.tupB K "MODES" [.str "nearest-even", .str "nearest-out", .str "nearest-in", .str "nearest-up", .str "nearest-down", .str "inward", .str "outward", .str "upward", .str "downward"],
  fun K => He.tupB K "NEAREST" [.str "nearest-even", .str "nearest-out", .str "nearest-in", .str "nearest-up", .str "nearest-down"]]
def ex (K : PySem.W.Frag) : Bool := exl.all fun e => e K
def ts : List He.Tab := [(fun K => He.ga K "MIRRORS", ["nearest-up", "nearest-down", "upward", "downward"])]
theorem txt_of {w : World} {K : PySem.W.Frag} {h : Heap} {mg : Str → Option Value} (X : K.In h) (G : h.Ns mainGlobals mg) (c : He.SaysX fa fn ts [] ex w h K) : Txt w K mg where
  d__law_power := c.t.d.def_ 0 rfl
  d__law_draw := c.t.d.def_ 1 rfl
  d__law_source := c.t.d.def_ 2 rfl
  d__law_modes := c.t.d.def_ 3 rfl
  d_check_mode := c.t.d.def_ 4 rfl
  d_mirror := c.t.d.def_ 5 rfl
  d_goes_up := c.t.d.def_ 6 rfl
  d_tie_goes_up := c.t.d.def_ 7 rfl
  d_round_quotient := c.t.d.def_ 8 rfl
  d__law_mirror := c.t.d.def_ 9 rfl
  d__law_equal := c.t.d.def_ 10 rfl
  d__law_integer := c.t.d.def_ 11 rfl
  d__law_steady := c.t.d.def_ 12 rfl
  d__law_big := c.t.d.def_ 13 rfl
  d__law_divisor := c.t.d.def_ 14 rfl
  d__law_numerator := c.t.d.def_ 15 rfl
  d__law_related := c.t.d.def_ 16 rfl
  d_law := c.t.d.def_ 17 rfl
  g_MIRRORS := He.glo_ok X G (c.t.d.fact 0 rfl)
  k_MIRRORS := c.t.tab 0 rfl
  m_MIRRORS := fun m hm => by
    rcases mem9 hm with rfl | rfl | rfl | rfl | rfl | rfl | rfl | rfl | rfl
    · exact ⟨_, He.eqO_ok (ex_at c.more 1 rfl), by decide +kernel⟩
    · exact ⟨_, He.eqO_ok (ex_at c.more 2 rfl), by decide +kernel⟩
    · exact ⟨_, He.eqO_ok (ex_at c.more 3 rfl), by decide +kernel⟩
    · obtain ⟨u, h1, h2⟩ := He.valsB_ok (q := ("nearest-up", .str "nearest-down")) (ex_at c.more 0 rfl) (by simp)
      exact ⟨_, h1, rel_eq (by decide +kernel) h2⟩
    · obtain ⟨u, h1, h2⟩ := He.valsB_ok (q := ("nearest-down", .str "nearest-up")) (ex_at c.more 0 rfl) (by simp)
      exact ⟨_, h1, rel_eq (by decide +kernel) h2⟩
    · exact ⟨_, He.eqO_ok (ex_at c.more 4 rfl), by decide +kernel⟩
    · exact ⟨_, He.eqO_ok (ex_at c.more 5 rfl), by decide +kernel⟩
    · obtain ⟨u, h1, h2⟩ := He.valsB_ok (q := ("upward", .str "downward")) (ex_at c.more 0 rfl) (by simp)
      exact ⟨_, h1, rel_eq (by decide +kernel) h2⟩
    · obtain ⟨u, h1, h2⟩ := He.valsB_ok (q := ("downward", .str "upward")) (ex_at c.more 0 rfl) (by simp)
      exact ⟨_, h1, rel_eq (by decide +kernel) h2⟩
  g_MODES := He.glo_ok X G (c.t.d.fact 1 rfl)
  t_MODES := fun H => He.tupB_ok (vs := [.str "nearest-even", .str "nearest-out", .str "nearest-in", .str "nearest-up", .str "nearest-down", .str "inward", .str "outward", .str "upward", .str "downward"]) (ex_at c.more 6 rfl) H
  g_NEAREST := He.glo_ok X G (c.t.d.fact 2 rfl)
  t_NEAREST := fun H => He.tupB_ok (vs := [.str "nearest-even", .str "nearest-out", .str "nearest-in", .str "nearest-up", .str "nearest-down"]) (ex_at c.more 7 rfl) H
  g__law_big := He.glo_ok X G (c.t.d.fact 3 rfl)
  g__law_divisor := He.glo_ok X G (c.t.d.fact 4 rfl)
  g__law_draw := He.glo_ok X G (c.t.d.fact 5 rfl)
  g__law_equal := He.glo_ok X G (c.t.d.fact 6 rfl)
  g__law_integer := He.glo_ok X G (c.t.d.fact 7 rfl)
  g__law_mirror := He.glo_ok X G (c.t.d.fact 8 rfl)
  g__law_modes := He.glo_ok X G (c.t.d.fact 9 rfl)
  g__law_numerator := He.glo_ok X G (c.t.d.fact 10 rfl)
  g__law_power := He.glo_ok X G (c.t.d.fact 11 rfl)
  g__law_related := He.glo_ok X G (c.t.d.fact 12 rfl)
  g__law_source := He.glo_ok X G (c.t.d.fact 13 rfl)
  g__law_steady := He.glo_ok X G (c.t.d.fact 14 rfl)
  b_abs := He.free_ok X G (c.t.d.fact 15 rfl)
  b_bool := He.free_ok X G (c.t.d.fact 16 rfl)
  g_check_mode := He.glo_ok X G (c.t.d.fact 17 rfl)
  b_divmod := He.free_ok X G (c.t.d.fact 18 rfl)
  g_goes_up := He.glo_ok X G (c.t.d.fact 19 rfl)
  b_int := He.free_ok X G (c.t.d.fact 20 rfl)
  b_isinstance := He.free_ok X G (c.t.d.fact 21 rfl)
  g_law := He.glo_ok X G (c.t.d.fact 22 rfl)
  b_len := He.free_ok X G (c.t.d.fact 23 rfl)
  g_mirror := He.glo_ok X G (c.t.d.fact 24 rfl)
  b_range := He.free_ok X G (c.t.d.fact 25 rfl)
  g_round_quotient := He.glo_ok X G (c.t.d.fact 26 rfl)
  b_str := He.free_ok X G (c.t.d.fact 27 rfl)
  g_tie_goes_up := He.glo_ok X G (c.t.d.fact 28 rfl)
def lo0 : List PySem.Str := ["LostError", "BadMode", "MODES", "NEAREST", "MIRRORS", "check_mode", "mirror", "goes_up", "tie_goes_up", "round_quotient", "_law_source", "_law_draw", "_law_modes", "_law_power", "_law_mirror"]
def lo1 : List PySem.Str := ["_law_equal", "_law_big", "_law_divisor", "_law_numerator", "_law_integer", "_law_steady", "_law_related"]
def lo : List PySem.Str := lo0 ++ lo1
abbrev R : PySem.W.OpenRow := PySem.W.OpenLaw.row PySem.Challenge.rw_lostinrows_k03_whole_mirrored_rounding
abbrev hk : PySem.W.Hook := He.hookX 6 fa fn ts [] ex
def ob (s : PySem.W.SharedT) : He.AlX := He.obsX 6 fa fn ts [] ex (HandSHeadRun.getT s)
theorem ob_eq (s : PySem.W.SharedT) : ob s = hk.obs s.abs := He.obsX_eq (HandSHeadRun.getT_eq s)
theorem run (w : World) : HandSHeadRun.RunEq R (PySem.W.view R.prog [25]) hk ob 3000 lo w := by
  exact PySem.W.byRow2 "special-get-raises" (P := fun w => HandSHeadRun.RunEq R (PySem.W.view R.prog [25]) hk ob 3000 lo w) (fun w => by intro os; kernel_rfl) (fun w => by intro os; kernel_rfl) w
end My
open PySem PySem.W PySem.Calls PyProof.Rows
set_option maxHeartbeats 0 in
theorem PySem.Challenge.cw_lostinrows_k03_whole_mirrored_rounding_holds : PySem.Challenge.rw_lostinrows_k03_whole_mirrored_rounding.Holds := by
  w_on; o_law
  refine HandSHeadRun.head_any (r := OpenLaw.row PySem.Challenge.rw_lostinrows_k03_whole_mirrored_rounding) (q := view (OpenLaw.row PySem.Challenge.rw_lostinrows_k03_whole_mirrored_rounding).prog [25]) (H := My.hk) (ob := My.ob) (M := 3000) (loose := My.lo) (d := HandSHeadRun.topDef (OpenLaw.row PySem.Challenge.rw_lostinrows_k03_whole_mirrored_rounding).prog 25) (kwd := []) My.ob_eq
    (by kernel_rfl) (fun s => by kernel_rfl) My.run (by kernel_rfl) (by kernel_rfl) (by kernel_rfl) (by rfl) (by first | assumption | decide +kernel) (by decide +kernel) ⟨rfl, rfl, rfl, rfl, rfl, by decide +kernel⟩ ?hw ?hc
  case hw => w_witness2
  case hc =>
    refine L2.walk_ofE (l := PySem.Challenge.rw_lostinrows_k03_whole_mirrored_rounding) (n := 63) (k := 4) (x := "script") (CX := L2.CX0) rfl (by decide) (by kernel_rfl) ⟨rfl, by decide, by decide⟩ ?F (fun _ _ _ _ z => z)
    intro w mg fa h Y G hmg0
    obtain ⟨K, KX, c⟩ := Y
    have hmg : mg ("law" : PySem.Str) = some (.ref fa) := by
      have e : (HandSHeadRun.topDef (OpenLaw.row PySem.Challenge.rw_lostinrows_k03_whole_mirrored_rounding).prog 25).name = ("law" : PySem.Str) := by kernel_rfl
      rw [← e]
      exact hmg0
    have T := My.txt_of KX G c
    have e := hmg.symm.trans T.g_law
    cases e
    obtain ⟨fd, hb, hF⟩ := My.ok_law (P := (PySem.Challenge.rw_lostinrows_k03_whole_mirrored_rounding).prog) T
    exact ⟨K, fd, My.sp_law K, KX, hb, fun H a ns hl _ hS => ⟨a, ns, rfl, hS, hl, fun _ => rfl⟩, fun base _ _ => Z.fn0 (hF base) fun _ _ _ _ z => z⟩

