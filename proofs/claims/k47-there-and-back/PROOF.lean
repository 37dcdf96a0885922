import PyProof.Rows.All
import Wide.All
import OpenK.AllK
import Wide.FinOn
import HandS.ForMost
import HandS.Exc
import HandS.WordsExc
import HandS.Defaults
import HandS.Wide
import HandS.WideBits
import HandS.IsInst
import HandS.Codes
import HandS.Property
import HandS.RevRange
import HandS.More
import HandS.Head0
import HandS.Head1
import HandS.Head2
import HandS.HeadEnd
import HandS.HeadHook1
import HandS.HeadHook2
import HandS.HeadHook3
import HandS.HeadHook4
import HandS.ExcCtx
import HandS.HotCalls
import HandS.CallSlots
import KE.KOpsOwn
import HandS.TryOnly
import PyProof.InstNe
import HandS.ClsMeth
import HandS.MakeKwOnly
import KE.KSuper
import KE.KExcSuper
import HandS.ExcInit
import HandS.ExcField
import HandS.ExcIs
import HandS.ExcValue
import HandS.ReplaceLit
import HandS.StrMore
import HandS.FStr
import HandS.Star
import HandS.OwnEq
import HandS.IterVal
import HandS.OwnIter
import HandS.CallSlots
import HandS.Small
import HandS.Zip
import PyProof.ExcBaseAll.ValueError
import PySem.Challenge.RW_lostinrows_k47_whole_there_and_back
set_option Elab.async false
set_option linter.all false
set_option maxRecDepth 100000
set_option maxHeartbeats 4000000
/-! base layer: what stays between two heaps, short steps for readings, defs by their places -/
namespace Z
open PySem PySem.Spec PyProof.Rows L2

/-! ### heaps -/
/-- the shape of a law's source: four ints and the script's copy; such a list may change, all else stays -/
def srcL : List V → Prop
  | [.int _, .int _, .int _, .int _, .ref _] => True
  | _ => False
def stable : HO → Prop
  | .lst xs => ¬ srcL xs
  | _ => True
structure Ext (H H' : Hp) : Prop where
  st : ∀ b o, stable o → H b = some o → H' b = some o
  src : ∀ (b c : Addr) (i x y z : Int), H b = some (.lst [.int i, .int x, .int y, .int z, .ref c]) → ∃ i x y z : Int, H' b = some (.lst [.int i, .int x, .int y, .int z, .ref c])
instance {H H' : Hp} : CoeFun (Ext H H') fun _ => ∀ b o, stable o → H b = some o → H' b = some o := ⟨Ext.st⟩
theorem Ext.refl (H : Hp) : Ext H H := ⟨fun _ _ _ h => h, fun _ _ i x y z h => ⟨i, x, y, z, h⟩⟩
theorem Ext.trans {H H1 H2 : Hp} (a : Ext H H1) (b : Ext H1 H2) : Ext H H2 := ⟨fun c o s h => b.st c o s (a.st c o s h), fun p c i x y z h => by
  obtain ⟨i, x, y, z, h⟩ := a.src p c i x y z h
  exact b.src p c i x y z h⟩
theorem ext_of {H H1 : Hp} (a : Same H H1) : Ext H H1 := ⟨fun c o _ h => a c o h, fun _ _ i x y z h => ⟨i, x, y, z, a _ _ h⟩⟩
theorem same_new {H : Hp} {p : Addr} {o : HO} (h : H p = none) : Same H (upd H p o) := fun b u e => by
  rw [upd_ne (ne_of_none e h)]; exact e
theorem stab_len {xs : List V} (h : xs.length ≠ 5) : stable (.lst xs) := fun s => by
  unfold srcL at s
  split at s
  · exact h rfl
  · exact s
theorem stab_int (ns : List Int) : stable (.lst (ns.map V.int)) := fun s => by
  unfold srcL at s
  split at s
  · rename_i e
    match ns, e with
    | [a, b, c, d, f], e => simp at e
  · exact s
theorem stab_str (ns : List Str) : stable (.lst (ns.map V.str)) := fun s => by
  unfold srcL at s
  split at s
  · rename_i e
    match ns, e with
    | a :: l, e => simp at e
  · exact s
theorem stab_ref (ns : List Addr) : stable (.lst (ns.map V.ref)) := fun s => by
  unfold srcL at s
  split at s
  · rename_i e
    match ns, e with
    | a :: l, e => simp at e
  · exact s
theorem ext_sqL {K : PySem.W.Frag} {H H' : Hp} {a : Addr} {xs : List V} (hs : stable (.lst xs)) (e : Ext H H') (h : SqL K H a xs) : SqL K H' a xs := by
  rcases h with (h | ⟨o, h⟩) | h
  · exact .inl (.inl (e _ _ hs h))
  · exact .inl (.inr ⟨o, e _ _ trivial h⟩)
  · exact .inr h
theorem ext_sqT {K : PySem.W.Frag} {H H' : Hp} {a : Addr} {xs : List V} (e : Ext H H') (h : SqT K H a xs) : SqT K H' a xs := by
  rcases h with (h | ⟨o, h⟩) | h
  · exact .inl (.inl (e _ _ trivial h))
  · exact .inl (.inr ⟨o, e _ _ trivial h⟩)
  · exact .inr h
theorem same_sqT {K : PySem.W.Frag} {H H' : Hp} {a : Addr} {xs : List V} (e : Same H H') (h : SqT K H a xs) : SqT K H' a xs := ext_sqT (ext_of e) h

/-! ### the law's source -/
/-- at a: a source, its place not below zero -/
def IsSrc (H : Hp) (a : Addr) : Prop := ∃ (i x y z : Int) (c : Addr) (ns : List Int), H a = some (.lst [.int i, .int x, .int y, .int z, .ref c]) ∧ H c = some (.lst (ns.map V.int)) ∧ 0 ≤ i
theorem same_src {H H' : Hp} {a : Addr} (e : Same H H') (h : IsSrc H a) : IsSrc H' a := by
  obtain ⟨i, x, y, z, c, ns, h1, h2, h3⟩ := h
  exact ⟨i, x, y, z, c, ns, e _ _ h1, e _ _ h2, h3⟩

/-! ### sizes -/
def Sz (n : Nat) (i : Int) : Prop := i.natAbs < 2 ^ n
theorem Sz.mono {n m : Nat} {i : Int} (h : Sz n i) (l : n ≤ m) : Sz m i := Nat.lt_of_lt_of_le h (Nat.pow_le_pow_right (by decide) l)
theorem Sz.mul {a b : Nat} {i j : Int} (h : Sz a i) (g : Sz b j) : Sz (a + b) (i * j) := wide_lt h g
theorem Sz.add {a : Nat} {i j : Int} (h : Sz a i) (g : Sz a j) : Sz (a + 1) (i + j) := by
  unfold Sz at *; rw [Nat.pow_succ]; omega
theorem Sz.sub {a : Nat} {i j : Int} (h : Sz a i) (g : Sz a j) : Sz (a + 1) (i - j) := by
  unfold Sz at *; rw [Nat.pow_succ]; omega
theorem Sz.neg {a : Nat} {i : Int} (h : Sz a i) : Sz a (-i) := by unfold Sz at *; omega
theorem Sz.le {a : Nat} {i j : Int} (h : Sz a j) (l : i.natAbs ≤ j.natAbs) : Sz a i := Nat.lt_of_le_of_lt l h
theorem Sz.pow {a : Nat} {i : Int} (h : Sz a i) : ∀ n : Nat, Sz (a * n + 1) (i ^ n)
  | 0 => by show (i ^ 0).natAbs < _; simp
  | n + 1 => by
    have q := (Sz.pow h n).mul h
    rw [Int.pow_succ]
    exact q.mono (by rw [Nat.mul_succ]; omega)
theorem mulx {a b : Nat} {i j : Int} (h : Sz a i) (g : Sz b j) (l : a + b ≤ 134217728 := by decide) : CMulX i j := mulx_ok h g l
theorem divw {b : Nat} {i j : Int} (h : 0 < j) (g : Sz b j) (l0 : 0 < b := by decide) (l : b ≤ 9000 := by decide) : CDivW i j := wide_div h g l0 l
theorem divp {b : Nat} {i j : Int} (h : 0 < j) (g : Sz b j) (l0 : 0 < b := by decide) (l : b ≤ 9000 := by decide) : CDivP i j := ⟨h, PyProof.noPylong_of_log2 (wide_div (i := i) h g l0 l).2⟩

/-! ### names of a def -/
def okName (x : Str) : Bool := !(x == ("__debug__" : Str)) && !(x == ("__classdict__" : Str)) && !(x == ("__name__" : Str))
def visB (N : List Str) (sc : Scope) : Bool := N.all fun x => okName x && (match sc.names.lookup x with
  | some .local => true
  | some .cell => true
  | some .free => true
  | _ => false)
def glB (G : List Str) (sc : Scope) : Bool := G.all fun x => okName x && (match sc.names.lookup x with
  | some .globalImplicit => true
  | _ => false)
theorem okName_of {x : Str} (h : okName x = true) : (x == ("__debug__" : Str)) = false ∧ (x == ("__classdict__" : Str)) = false ∧ x ≠ "__name__" := by
  unfold okName at h
  simp only [Bool.and_eq_true, Bool.not_eq_true'] at h
  exact ⟨h.1.1, h.1.2, by simpa using h.2⟩
theorem vis_of {N : List Str} {sc : Scope} (h : visB N sc = true) {i : Nat} {x : Str} (hN : N[i]? = some x) : Vis sc x ∧ (x == ("__debug__" : Str)) = false ∧ (x == ("__classdict__" : Str)) = false := by
  have q := List.all_eq_true.mp h x (List.mem_of_getElem? hN)
  simp only [Bool.and_eq_true] at q
  obtain ⟨q1, q2⟩ := q
  refine ⟨?_, (okName_of q1).1, (okName_of q1).2.1⟩
  revert q2
  cases e : sc.names.lookup x with
  | none => intro q2; cases q2
  | some k => cases k <;> first | (intro _; exact .inl e) | (intro _; exact .inr (.inl e)) | (intro _; exact .inr (.inr e)) | (intro q2; cases q2)
theorem gl_of {G : List Str} {sc : Scope} (h : glB G sc = true) {i : Nat} {x : Str} (hG : G[i]? = some x) : sc.names.lookup x = some .globalImplicit ∧ (x == ("__debug__" : Str)) = false ∧ x ≠ "__name__" := by
  have q := List.all_eq_true.mp h x (List.mem_of_getElem? hG)
  simp only [Bool.and_eq_true] at q
  obtain ⟨q1, q2⟩ := q
  refine ⟨?_, (okName_of q1).1, (okName_of q1).2.2⟩
  revert q2
  cases e : sc.names.lookup x with
  | none => intro q2; cases q2
  | some k => cases k <;> first | (intro _; rfl) | (intro q2; cases q2)
section
variable {X : Cx} {x : Str} {pos p : Pos} {G : List Str}
theorem pn (hv : visB X.N X.env.scope = true) (i : Nat) (hN : X.N[i]? = some x := by rfl) : PE X (.Name x pos) (tVar i) :=
  let q := vis_of hv hN
  pe_var hN q.1 q.2.1 q.2.2
theorem pgi {i : Int} (hg : glB G X.env.scope = true) (n : Nat) (hm : ∃ t, X.mg x = some (.int i t)) (hx : G[n]? = some x := by rfl) : PE X (.Name x pos) (tC (.int i)) := by
  obtain ⟨t, e⟩ := hm
  exact pe_glob (gl_of hg hx).1 e ⟨t, rfl⟩ (gl_of hg hx).2.1
theorem pgs {z : Str} (hg : glB G X.env.scope = true) (n : Nat) (hm : ∃ t, X.mg x = some (.str z t)) (hx : G[n]? = some x := by rfl) : PE X (.Name x pos) (tC (.str z)) := by
  obtain ⟨t, e⟩ := hm
  exact pe_glob (gl_of hg hx).1 e ⟨t, rfl⟩ (gl_of hg hx).2.1
theorem pgr {a : Addr} (hg : glB G X.env.scope = true) (n : Nat) (hm : X.mg x = some (.ref a)) (hx : G[n]? = some x := by rfl) : PE X (.Name x pos) (tC (.ref a)) := pe_glob (gl_of hg hx).1 hm rfl (gl_of hg hx).2.1
theorem pgt {T : String} (hg : glB G X.env.scope = true) (n : Nat) (hm : X.mg x = none) (hv : bootBuiltins x = some (.type T)) (hx : G[n]? = some x := by rfl) : PE X (.Name x pos) (tC (.ty T)) := pe_bltn (gl_of hg hx).1 hm hv rfl (gl_of hg hx).2.2 (gl_of hg hx).2.1
theorem pcB {id : String} {r : List V → Hp → VK → Prop} {e : Expr} {es : List Expr} {t : TA} (hc : CallR X (.builtin id) r) (hg : glB G X.env.scope = true) (n : Nat) (hm : X.mg x = none) (hv : bootBuiltins x = some (.builtin id)) (ha : PA X (e :: es) t) (hx : G[n]? = some x := by rfl)
    (he : starEach (e :: es) X.env = (false, eval e X.env) :: starEach es X.env := by rfl) (hpl : (backTo pos (starEach es X.env)).any (·.1) = false := by rfl) : PE X (.Call (.Name x p) (e :: es) [] pos) (tCB r t) :=
  pe_callB hc (gl_of hg hx).1 hm hv ha (gl_of hg hx).2.2 (gl_of hg hx).2.1 he hpl
theorem pcT {T : String} {r : List V → Hp → VK → Prop} {e : Expr} {es : List Expr} {t : TA} (hc : CallR X (.type T) r) (hg : glB G X.env.scope = true) (n : Nat) (hm : X.mg x = none) (hv : bootBuiltins x = some (.type T)) (ha : PA X (e :: es) t) (hx : G[n]? = some x := by rfl)
    (he : starEach (e :: es) X.env = (false, eval e X.env) :: starEach es X.env := by rfl) (hpl : (backTo pos (starEach es X.env)).any (·.1) = false := by rfl) : PE X (.Call (.Name x p) (e :: es) [] pos) (tCB r t) :=
  pe_callTy hc (gl_of hg hx).1 hm hv ha (gl_of hg hx).2.2 (gl_of hg hx).2.1 he hpl
end

/-! ### a def that keeps its promise, with what a caller wants of it -/
def OkD (P : Program) (w : World) (K : PySem.W.Frag) (mg : Str → Option Value) (base : Heap) (k : Nat) (f : Addr) (ps : List Str) (dvs : List V) (sp : Sp) : Prop :=
  ∃ (fd : FuncData) (ds : List Value), PySem.W.keepIn K (.ref f) = true ∧ Binds K fd ps ds ∧ Vals dvs ds ∧ FnOk P w K mg base (L2N.CX P w) k f fd ps sp
theorem OkD.mono {P : Program} {w : World} {K : PySem.W.Frag} {mg : Str → Option Value} {base : Heap} {j k : Nat} {f : Addr} {ps : List Str} {dvs : List V} {sp : Sp} (F : OkD P w K mg base j f ps dvs sp) (h : j ≤ k) : OkD P w K mg base k f ps dvs sp := by
  obtain ⟨fd, ds, a, b, c, d⟩ := F
  exact ⟨fd, ds, a, b, c, d.mono h⟩
/-- nothing is raised -/
abbrev EF : XK := fun _ _ _ => False
theorem passF {P : Program} {w : World} {X : Cx} (h : ∀ l H s e s', L2N.CX P w l H s EF e s' → False) : Passes (L2N.CX P w) X EF := fun _ _ _ _ _ _ _ q => (h _ _ _ _ _ q).elim
end Z


/-! ### steps of readings -/
namespace Z
open PySem PySem.Spec L2
open PyProof.Rows hiding St
section
variable {D : Ends} {σ : St} {H : Hp} {Q : VK} {t u : TS} {te ta tb : TE} {g : TG} {v x y : V} {tt tu : TT} {ar : TA} {i j : Int} {a b : Bool} {A B P : Prop}
theorem i_seq (h : t { D with nx := u D } σ H) : tSeq t u D σ H := h
theorem i_nx {F bk ct : St → Hp → Prop} {rt : VK} (h : F σ H) : (Ends.mk F rt bk ct).nx σ H := h
theorem i_next (h : D.nx σ H) : tNext D σ H := h
theorem i_asg (h : te σ H fun x H1 => g x σ H1 D.nx) : tAsg te g D σ H := h
theorem i_drop (h : te σ H fun _ H1 => D.nx σ H1) : tDrop te D σ H := h
theorem i_ret (h : te σ H D.rt) : tRet te D σ H := h
theorem i_retN (h : D.rt .non H) : tRetN D σ H := h
theorem i_if (h : tt σ H fun b H1 => if b = true then t D σ H1 else u D σ H1) : tIfS tt t u D σ H := h
theorem i_brk (h : D.bk σ H) : tBreak D σ H := h
theorem i_cnt (h : D.ct σ H) : tCont D σ H := h
theorem i_c (h : Q v H) : tC v σ H Q := h
theorem i_op {r : R2} (h : ta σ H fun x H1 => tb σ H1 fun y H2 => r x y H2 Q) : tOp r ta tb σ H Q := h
theorem i_un {r : V → Hp → VK → Prop} (h : ta σ H fun x H1 => r x H1 Q) : tUn r ta σ H Q := h
theorem i_I0 {f : Int → Int → V} (h : Q (f i j) H) : rI0 f (.int i) (.int j) H Q := ⟨i, j, rfl, rfl, h⟩
theorem i_I {C : Int → Int → Prop} {f : Int → Int → V} (c : C i j) (h : Q (f i j) H) : rI C f (.int i) (.int j) H Q := ⟨i, j, rfl, rfl, c, h⟩
theorem i_U {f : Int → V} (h : Q (f i) H) : rU f (.int i) H Q := ⟨i, rfl, h⟩
theorem i_test {R : Bool → Hp → Prop} (h : te σ H fun x H' => ∃ k, x = .bl k ∧ R k H') : tTest te σ H R := h
theorem i_tB {R : Bool → Hp → Prop} (h : te σ H fun x H' => ∃ k, x = .bl k ∧ R k H') : tB te σ H R := h
theorem i_bl {F : Bool → Prop} (h : F a) : ∃ k, V.bl a = .bl k ∧ F k := ⟨a, rfl, h⟩
theorem i_and {R : Bool → Hp → Prop} (h : tt σ H fun c H1 => if c = true then tu σ H1 R else R false H1) : tAnd tt tu σ H R := h
theorem i_or {R : Bool → Hp → Prop} (h : tt σ H fun c H1 => if c = true then R true H1 else tu σ H1 R) : tOr tt tu σ H R := h
theorem i_not {R : Bool → Hp → Prop} (h : tt σ H fun c H1 => R (!c) H1) : tNot tt σ H R := h
theorem i_andV (h : ta σ H fun x H1 => ∃ c, x = .bl c ∧ if c = true then tb σ H1 Q else Q (.bl false) H1) : tAndV ta tb σ H Q := h
theorem i_orV (h : ta σ H fun x H1 => ∃ c, x = .bl c ∧ if c = true then Q (.bl true) H1 else tb σ H1 Q) : tOrV ta tb σ H Q := h
theorem i_notV (h : ta σ H fun x H1 => ∃ c, x = .bl c ∧ Q (.bl (!c)) H1) : tNotV ta σ H Q := h
theorem i_ifE (h : tt σ H fun c H1 => if c = true then ta σ H1 Q else tb σ H1 Q) : tIf tt ta tb σ H Q := h
theorem i_blV {F : Bool → Prop} (h : F a) : ∃ c, V.bl a = .bl c ∧ F c := ⟨a, rfl, h⟩
theorem i_ite [Decidable P] (h1 : P → A) (h2 : ¬ P → B) : if decide P = true then A else B := by
  by_cases h : P
  · rw [if_pos (decide_eq_true h)]; exact h1 h
  · rw [if_neg (by simp [h])]; exact h2 h
theorem i_iteN [Decidable P] (h1 : ¬ P → A) (h2 : P → B) : if (!decide P) = true then A else B := by
  by_cases h : P
  · rw [if_neg (by simp [h])]; exact h2 h
  · rw [if_pos (by simp [h])]; exact h1 h
theorem i_iteB (h1 : a = true → A) (h2 : a = false → B) : if a = true then A else B := by
  cases a
  · rw [if_neg (by decide)]; exact h2 rfl
  · rw [if_pos rfl]; exact h1 rfl
theorem i_iteT (h : A) : if true = true then A else B := by rw [if_pos rfl]; exact h
theorem i_iteF (h : B) : if false = true then A else B := by rw [if_neg (by decide)]; exact h
theorem i_iteNT (h : B) : if (!true) = true then A else B := by rw [if_neg (by decide)]; exact h
theorem i_iteNF (h : A) : if (!false) = true then A else B := by rw [if_pos (by decide)]; exact h
theorem i_cons {tr : TA} {R : List V → Hp → Prop} (h : te σ H fun x H1 => tr σ H1 fun xs H2 => R (x :: xs) H2) : tCons te tr σ H R := h
theorem i_nil {R : List V → Hp → Prop} (h : R [] H) : tNil σ H R := h
theorem i_call {sp : Sp} {dvs : List V} {E : XK} (h : ar σ H fun vs H1 => sp (vs ++ dvs) H1 Q E) : tCall sp dvs E ar σ H Q := h
theorem i_cb {r : List V → Hp → VK → Prop} (h : ar σ H fun vs H1 => r vs H1 Q) : tCB r ar σ H Q := h
def kLst (Q : VK) : List V → Hp → Prop := fun xs H1 => xs.length ≤ sizeLine ∧ ∀ p, H1 p = none → Q (.ref p) (upd H1 p (.lst xs))
def kTup (Q : VK) : List V → Hp → Prop := fun xs H1 => xs.length ≤ sizeLine ∧ ∀ p, H1 p = none → Q (.ref p) (upd H1 p (.tup xs))
theorem i_lst (h : ar σ H (kLst Q)) : tLst ar σ H Q := h
theorem i_tup (h : ar σ H (kTup Q)) : tTup ar σ H Q := h
theorem i_kLst {xs : List V} (l : xs.length ≤ 100000) (h : ∀ p H2, H p = none → Same H H2 → H2 p = some (.lst xs) → Q (.ref p) H2) : kLst Q xs H :=
  ⟨Nat.le_trans l (by decide), fun p hp => h p _ hp (same_new hp) upd_same⟩
theorem i_kTup {xs : List V} (l : xs.length ≤ 100000) (h : ∀ p H2, H p = none → Same H H2 → H2 p = some (.tup xs) → Q (.ref p) H2) : kTup Q xs H :=
  ⟨Nat.le_trans l (by decide), fun p hp => h p _ hp (same_new hp) upd_same⟩
theorem i_gtup {K : PySem.W.Frag} {n : Nat} {tg : TGs} {p : Addr} {xs : List V} {R : St → Hp → Prop} (hx : SqT K H p xs) (hn : xs.length = n) (h : tg xs σ H R) : gTup K n tg (.ref p) σ H R := ⟨p, xs, rfl, hx, hn, h⟩
theorem i_gcons {tg : TG} {tgs : TGs} {xs : List V} {R : St → Hp → Prop} (h : tg v σ H fun σ' H' => tgs xs σ' H' R) : gCons tg tgs (v :: xs) σ H R := ⟨v, xs, rfl, h⟩
theorem i_gnil {R : St → Hp → Prop} (h : R σ H) : gNil [] σ H R := ⟨rfl, h⟩
theorem i_start {N : List Str} {vs : List V} {σ' : St} (e : start N vs = σ') (h : t D σ' H) : t D (start N vs) H := by rw [e]; exact h
theorem i_cut (M : St → Hp → Prop) (h : t { D with nx := M } σ H) (k : ∀ σ' H', M σ' H' → u D σ' H') : C8.tCut t u D σ H := ⟨M, h, k⟩
def kTurn (W : Nat → St → Hp → Prop) (m : Nat) : St → Hp → Prop := fun σ' H' => ∃ m', m' < m ∧ W m' σ' H'
theorem i_while (W : Nat → St → Hp → Prop) (h0 : ∃ m, W m σ H) (hs : ∀ m σ H, W m σ H → tt σ H fun b H1 => if b = true then ∃ N : St → Hp → Prop, (∀ σ' H', N σ' H' → ∃ m', m' < m ∧ W m' σ' H') ∧ t { D with nx := N, ct := N, bk := D.nx } σ H1 else D.nx σ H1) : tWhile tt t D σ H := ⟨W, h0, hs⟩
theorem i_turn {W : Nat → St → Hp → Prop} {m : Nat} (h : t { D with nx := kTurn W m, ct := kTurn W m, bk := D.nx } σ H) : ∃ N : St → Hp → Prop, (∀ σ' H', N σ' H' → ∃ m', m' < m ∧ W m' σ' H') ∧ t { D with nx := N, ct := N, bk := D.nx } σ H := ⟨_, fun _ _ h => h, h⟩
/-- for k in range(n) -/
theorem i_for1 {R : It → Hp → Prop} (h : ar σ H fun vs H1 => ∃ j : Int, vs = [.int j] ∧ -(2 ^ 62) ≤ j ∧ j < 2 ^ 62 ∧ R (Itr 0 j.toNat) H1) : iRng1 ar σ H R := h
theorem i_rng1 (Pv : Nat → St → Hp → Prop) {j : Int} (b1 : -(2 ^ 62) ≤ j) (b2 : j < 2 ^ 62) (h0 : Pv 0 σ H)
    (hs : ∀ i σ H, i < j.toNat → Pv i σ H → g (.int (0 + i)) σ H fun σ2 H2 => t { D with nx := Pv (i + 1), ct := Pv (i + 1), bk := D.nx } σ2 H2) (hd : ∀ σ H, Pv j.toNat σ H → D.nx σ H) :
    ∃ j' : Int, [V.int j] = [.int j'] ∧ -(2 ^ 62) ≤ j' ∧ j' < 2 ^ 62 ∧ ∃ W : Nat → Nat → St → Hp → Prop, (∃ m, W 0 m σ H) ∧ ∀ i m σ H, W i m σ H →
      ((Itr 0 j'.toNat).stop i H ∧ D.nx σ H) ∨ ((Itr 0 j'.toNat).go i H ∧ ∃ N : St → Hp → Prop, (∀ σ' H', N σ' H' → ∃ m', m' < m ∧ W (i + 1) m' σ' H') ∧ ∀ x H', (Itr 0 j'.toNat).yld i H x H' → g x σ H' fun σ2 H2 => t { D with nx := N, ct := N, bk := D.nx } σ2 H2) :=
  ⟨j, rfl, b1, b2, for_range Pv h0 hs hd⟩
theorem i_for {wi : TI} (h : wi σ H fun J H1 => ∃ W : Nat → Nat → St → Hp → Prop, (∃ m, W 0 m σ H1) ∧ ∀ i m σ H, W i m σ H →
  (J.stop i H ∧ D.nx σ H) ∨ (J.go i H ∧ ∃ N : St → Hp → Prop, (∀ σ' H', N σ' H' → ∃ m', m' < m ∧ W (i + 1) m' σ' H') ∧ ∀ x H', J.yld i H x H' → g x σ H' fun σ2 H2 => t { D with nx := N, ct := N, bk := D.nx } σ2 H2)) : tFor wi g t D σ H := h
theorem i_lt {K : PySem.W.Frag} {R : It → Hp → Prop} (h : te σ H fun x H1 => ∃ a, x = .ref a ∧ (∃ xs, SqL K H1 a xs) ∧ R (Itl K a) H1) : iList K te σ H R := h
theorem i_forL {K : PySem.W.Frag} {p : Addr} {xs : List V} (Pv : Nat → St → Hp → Prop) (hx : SqL K H p xs) (h0 : Pv 0 σ H) (hl : ∀ i σ H, i ≤ xs.length → Pv i σ H → SqL K H p xs)
    (hs : ∀ i x σ H, xs[i]? = some x → Pv i σ H → g x σ H fun σ2 H2 => t { D with nx := Pv (i + 1), ct := Pv (i + 1), bk := D.nx } σ2 H2) (hd : ∀ σ H, Pv xs.length σ H → D.nx σ H) :
    ∃ a, V.ref p = .ref a ∧ (∃ xs, SqL K H a xs) ∧ ∃ W : Nat → Nat → St → Hp → Prop, (∃ m, W 0 m σ H) ∧ ∀ i m σ H, W i m σ H →
      ((Itl K a).stop i H ∧ D.nx σ H) ∨ ((Itl K a).go i H ∧ ∃ N : St → Hp → Prop, (∀ σ' H', N σ' H' → ∃ m', m' < m ∧ W (i + 1) m' σ' H') ∧ ∀ x H', (Itl K a).yld i H x H' → g x σ H' fun σ2 H2 => t { D with nx := N, ct := N, bk := D.nx } σ2 H2) :=
  ⟨p, rfl, ⟨xs, hx⟩, for_list Pv h0 hl hs hd⟩
theorem i_ixL {K : PySem.W.Frag} {p : Addr} {xs : List V} (hx : SqL K H p xs) (e : atI xs i = some v) (h : Q v H) : rIxL K (.ref p) (.int i) H Q := ⟨p, xs, i, v, rfl, rfl, hx, e, h⟩
theorem i_ixT {K : PySem.W.Frag} {p : Addr} {xs : List V} (hx : SqT K H p xs) (e : atI xs i = some v) (h : Q v H) : rIxT K (.ref p) (.int i) H Q := ⟨p, xs, i, v, rfl, rfl, hx, e, h⟩
theorem i_isi {K : PySem.W.Frag} {c : V} {ty tu : Value} (hc : ClsV c tu) (ht : TyX K H x ty) (hk : PySem.W.kitOne K ty tu = some b) (h : Q (.bl b) H) : rIsi K [x, c] H Q := ⟨x, c, ty, tu, b, rfl, hc, ht, hk, h⟩
end

theorem v0 {r : St} {v : V} {H : Hp} {Q : VK} (h : Q v H) : tVar 0 (some v :: r) H Q := ⟨v, rfl, h⟩
theorem n0 {z : Option V} {r : St} {v : V} {H : Hp} {R : St → Hp → Prop} (h : R (some v :: r) H) : gName 0 v (z :: r) H R := h
theorem v1 {a0 : Option V} {r : St} {v : V} {H : Hp} {Q : VK} (h : Q v H) : tVar 1 (a0 :: some v :: r) H Q := ⟨v, rfl, h⟩
theorem n1 {a0 z : Option V} {r : St} {v : V} {H : Hp} {R : St → Hp → Prop} (h : R (a0 :: some v :: r) H) : gName 1 v (a0 :: z :: r) H R := h
theorem v2 {a0 a1 : Option V} {r : St} {v : V} {H : Hp} {Q : VK} (h : Q v H) : tVar 2 (a0 :: a1 :: some v :: r) H Q := ⟨v, rfl, h⟩
theorem n2 {a0 a1 z : Option V} {r : St} {v : V} {H : Hp} {R : St → Hp → Prop} (h : R (a0 :: a1 :: some v :: r) H) : gName 2 v (a0 :: a1 :: z :: r) H R := h
theorem v3 {a0 a1 a2 : Option V} {r : St} {v : V} {H : Hp} {Q : VK} (h : Q v H) : tVar 3 (a0 :: a1 :: a2 :: some v :: r) H Q := ⟨v, rfl, h⟩
theorem n3 {a0 a1 a2 z : Option V} {r : St} {v : V} {H : Hp} {R : St → Hp → Prop} (h : R (a0 :: a1 :: a2 :: some v :: r) H) : gName 3 v (a0 :: a1 :: a2 :: z :: r) H R := h
theorem v4 {a0 a1 a2 a3 : Option V} {r : St} {v : V} {H : Hp} {Q : VK} (h : Q v H) : tVar 4 (a0 :: a1 :: a2 :: a3 :: some v :: r) H Q := ⟨v, rfl, h⟩
theorem n4 {a0 a1 a2 a3 z : Option V} {r : St} {v : V} {H : Hp} {R : St → Hp → Prop} (h : R (a0 :: a1 :: a2 :: a3 :: some v :: r) H) : gName 4 v (a0 :: a1 :: a2 :: a3 :: z :: r) H R := h
theorem v5 {a0 a1 a2 a3 a4 : Option V} {r : St} {v : V} {H : Hp} {Q : VK} (h : Q v H) : tVar 5 (a0 :: a1 :: a2 :: a3 :: a4 :: some v :: r) H Q := ⟨v, rfl, h⟩
theorem n5 {a0 a1 a2 a3 a4 z : Option V} {r : St} {v : V} {H : Hp} {R : St → Hp → Prop} (h : R (a0 :: a1 :: a2 :: a3 :: a4 :: some v :: r) H) : gName 5 v (a0 :: a1 :: a2 :: a3 :: a4 :: z :: r) H R := h
theorem v6 {a0 a1 a2 a3 a4 a5 : Option V} {r : St} {v : V} {H : Hp} {Q : VK} (h : Q v H) : tVar 6 (a0 :: a1 :: a2 :: a3 :: a4 :: a5 :: some v :: r) H Q := ⟨v, rfl, h⟩
theorem n6 {a0 a1 a2 a3 a4 a5 z : Option V} {r : St} {v : V} {H : Hp} {R : St → Hp → Prop} (h : R (a0 :: a1 :: a2 :: a3 :: a4 :: a5 :: some v :: r) H) : gName 6 v (a0 :: a1 :: a2 :: a3 :: a4 :: a5 :: z :: r) H R := h
theorem v7 {a0 a1 a2 a3 a4 a5 a6 : Option V} {r : St} {v : V} {H : Hp} {Q : VK} (h : Q v H) : tVar 7 (a0 :: a1 :: a2 :: a3 :: a4 :: a5 :: a6 :: some v :: r) H Q := ⟨v, rfl, h⟩
theorem n7 {a0 a1 a2 a3 a4 a5 a6 z : Option V} {r : St} {v : V} {H : Hp} {R : St → Hp → Prop} (h : R (a0 :: a1 :: a2 :: a3 :: a4 :: a5 :: a6 :: some v :: r) H) : gName 7 v (a0 :: a1 :: a2 :: a3 :: a4 :: a5 :: a6 :: z :: r) H R := h
theorem v8 {a0 a1 a2 a3 a4 a5 a6 a7 : Option V} {r : St} {v : V} {H : Hp} {Q : VK} (h : Q v H) : tVar 8 (a0 :: a1 :: a2 :: a3 :: a4 :: a5 :: a6 :: a7 :: some v :: r) H Q := ⟨v, rfl, h⟩
theorem n8 {a0 a1 a2 a3 a4 a5 a6 a7 z : Option V} {r : St} {v : V} {H : Hp} {R : St → Hp → Prop} (h : R (a0 :: a1 :: a2 :: a3 :: a4 :: a5 :: a6 :: a7 :: some v :: r) H) : gName 8 v (a0 :: a1 :: a2 :: a3 :: a4 :: a5 :: a6 :: a7 :: z :: r) H R := h
theorem v9 {a0 a1 a2 a3 a4 a5 a6 a7 a8 : Option V} {r : St} {v : V} {H : Hp} {Q : VK} (h : Q v H) : tVar 9 (a0 :: a1 :: a2 :: a3 :: a4 :: a5 :: a6 :: a7 :: a8 :: some v :: r) H Q := ⟨v, rfl, h⟩
theorem n9 {a0 a1 a2 a3 a4 a5 a6 a7 a8 z : Option V} {r : St} {v : V} {H : Hp} {R : St → Hp → Prop} (h : R (a0 :: a1 :: a2 :: a3 :: a4 :: a5 :: a6 :: a7 :: a8 :: some v :: r) H) : gName 9 v (a0 :: a1 :: a2 :: a3 :: a4 :: a5 :: a6 :: a7 :: a8 :: z :: r) H R := h
theorem v10 {a0 a1 a2 a3 a4 a5 a6 a7 a8 a9 : Option V} {r : St} {v : V} {H : Hp} {Q : VK} (h : Q v H) : tVar 10 (a0 :: a1 :: a2 :: a3 :: a4 :: a5 :: a6 :: a7 :: a8 :: a9 :: some v :: r) H Q := ⟨v, rfl, h⟩
theorem n10 {a0 a1 a2 a3 a4 a5 a6 a7 a8 a9 z : Option V} {r : St} {v : V} {H : Hp} {R : St → Hp → Prop} (h : R (a0 :: a1 :: a2 :: a3 :: a4 :: a5 :: a6 :: a7 :: a8 :: a9 :: some v :: r) H) : gName 10 v (a0 :: a1 :: a2 :: a3 :: a4 :: a5 :: a6 :: a7 :: a8 :: a9 :: z :: r) H R := h
theorem v11 {a0 a1 a2 a3 a4 a5 a6 a7 a8 a9 a10 : Option V} {r : St} {v : V} {H : Hp} {Q : VK} (h : Q v H) : tVar 11 (a0 :: a1 :: a2 :: a3 :: a4 :: a5 :: a6 :: a7 :: a8 :: a9 :: a10 :: some v :: r) H Q := ⟨v, rfl, h⟩
theorem n11 {a0 a1 a2 a3 a4 a5 a6 a7 a8 a9 a10 z : Option V} {r : St} {v : V} {H : Hp} {R : St → Hp → Prop} (h : R (a0 :: a1 :: a2 :: a3 :: a4 :: a5 :: a6 :: a7 :: a8 :: a9 :: a10 :: some v :: r) H) : gName 11 v (a0 :: a1 :: a2 :: a3 :: a4 :: a5 :: a6 :: a7 :: a8 :: a9 :: a10 :: z :: r) H R := h
theorem v12 {a0 a1 a2 a3 a4 a5 a6 a7 a8 a9 a10 a11 : Option V} {r : St} {v : V} {H : Hp} {Q : VK} (h : Q v H) : tVar 12 (a0 :: a1 :: a2 :: a3 :: a4 :: a5 :: a6 :: a7 :: a8 :: a9 :: a10 :: a11 :: some v :: r) H Q := ⟨v, rfl, h⟩
theorem n12 {a0 a1 a2 a3 a4 a5 a6 a7 a8 a9 a10 a11 z : Option V} {r : St} {v : V} {H : Hp} {R : St → Hp → Prop} (h : R (a0 :: a1 :: a2 :: a3 :: a4 :: a5 :: a6 :: a7 :: a8 :: a9 :: a10 :: a11 :: some v :: r) H) : gName 12 v (a0 :: a1 :: a2 :: a3 :: a4 :: a5 :: a6 :: a7 :: a8 :: a9 :: a10 :: a11 :: z :: r) H R := h
theorem v13 {a0 a1 a2 a3 a4 a5 a6 a7 a8 a9 a10 a11 a12 : Option V} {r : St} {v : V} {H : Hp} {Q : VK} (h : Q v H) : tVar 13 (a0 :: a1 :: a2 :: a3 :: a4 :: a5 :: a6 :: a7 :: a8 :: a9 :: a10 :: a11 :: a12 :: some v :: r) H Q := ⟨v, rfl, h⟩
theorem n13 {a0 a1 a2 a3 a4 a5 a6 a7 a8 a9 a10 a11 a12 z : Option V} {r : St} {v : V} {H : Hp} {R : St → Hp → Prop} (h : R (a0 :: a1 :: a2 :: a3 :: a4 :: a5 :: a6 :: a7 :: a8 :: a9 :: a10 :: a11 :: a12 :: some v :: r) H) : gName 13 v (a0 :: a1 :: a2 :: a3 :: a4 :: a5 :: a6 :: a7 :: a8 :: a9 :: a10 :: a11 :: a12 :: z :: r) H R := h
theorem v14 {a0 a1 a2 a3 a4 a5 a6 a7 a8 a9 a10 a11 a12 a13 : Option V} {r : St} {v : V} {H : Hp} {Q : VK} (h : Q v H) : tVar 14 (a0 :: a1 :: a2 :: a3 :: a4 :: a5 :: a6 :: a7 :: a8 :: a9 :: a10 :: a11 :: a12 :: a13 :: some v :: r) H Q := ⟨v, rfl, h⟩
theorem n14 {a0 a1 a2 a3 a4 a5 a6 a7 a8 a9 a10 a11 a12 a13 z : Option V} {r : St} {v : V} {H : Hp} {R : St → Hp → Prop} (h : R (a0 :: a1 :: a2 :: a3 :: a4 :: a5 :: a6 :: a7 :: a8 :: a9 :: a10 :: a11 :: a12 :: a13 :: some v :: r) H) : gName 14 v (a0 :: a1 :: a2 :: a3 :: a4 :: a5 :: a6 :: a7 :: a8 :: a9 :: a10 :: a11 :: a12 :: a13 :: z :: r) H R := h
theorem v15 {a0 a1 a2 a3 a4 a5 a6 a7 a8 a9 a10 a11 a12 a13 a14 : Option V} {r : St} {v : V} {H : Hp} {Q : VK} (h : Q v H) : tVar 15 (a0 :: a1 :: a2 :: a3 :: a4 :: a5 :: a6 :: a7 :: a8 :: a9 :: a10 :: a11 :: a12 :: a13 :: a14 :: some v :: r) H Q := ⟨v, rfl, h⟩
theorem n15 {a0 a1 a2 a3 a4 a5 a6 a7 a8 a9 a10 a11 a12 a13 a14 z : Option V} {r : St} {v : V} {H : Hp} {R : St → Hp → Prop} (h : R (a0 :: a1 :: a2 :: a3 :: a4 :: a5 :: a6 :: a7 :: a8 :: a9 :: a10 :: a11 :: a12 :: a13 :: a14 :: some v :: r) H) : gName 15 v (a0 :: a1 :: a2 :: a3 :: a4 :: a5 :: a6 :: a7 :: a8 :: a9 :: a10 :: a11 :: a12 :: a13 :: a14 :: z :: r) H R := h
theorem v16 {a0 a1 a2 a3 a4 a5 a6 a7 a8 a9 a10 a11 a12 a13 a14 a15 : Option V} {r : St} {v : V} {H : Hp} {Q : VK} (h : Q v H) : tVar 16 (a0 :: a1 :: a2 :: a3 :: a4 :: a5 :: a6 :: a7 :: a8 :: a9 :: a10 :: a11 :: a12 :: a13 :: a14 :: a15 :: some v :: r) H Q := ⟨v, rfl, h⟩
theorem n16 {a0 a1 a2 a3 a4 a5 a6 a7 a8 a9 a10 a11 a12 a13 a14 a15 z : Option V} {r : St} {v : V} {H : Hp} {R : St → Hp → Prop} (h : R (a0 :: a1 :: a2 :: a3 :: a4 :: a5 :: a6 :: a7 :: a8 :: a9 :: a10 :: a11 :: a12 :: a13 :: a14 :: a15 :: some v :: r) H) : gName 16 v (a0 :: a1 :: a2 :: a3 :: a4 :: a5 :: a6 :: a7 :: a8 :: a9 :: a10 :: a11 :: a12 :: a13 :: a14 :: a15 :: z :: r) H R := h
theorem v17 {a0 a1 a2 a3 a4 a5 a6 a7 a8 a9 a10 a11 a12 a13 a14 a15 a16 : Option V} {r : St} {v : V} {H : Hp} {Q : VK} (h : Q v H) : tVar 17 (a0 :: a1 :: a2 :: a3 :: a4 :: a5 :: a6 :: a7 :: a8 :: a9 :: a10 :: a11 :: a12 :: a13 :: a14 :: a15 :: a16 :: some v :: r) H Q := ⟨v, rfl, h⟩
theorem n17 {a0 a1 a2 a3 a4 a5 a6 a7 a8 a9 a10 a11 a12 a13 a14 a15 a16 z : Option V} {r : St} {v : V} {H : Hp} {R : St → Hp → Prop} (h : R (a0 :: a1 :: a2 :: a3 :: a4 :: a5 :: a6 :: a7 :: a8 :: a9 :: a10 :: a11 :: a12 :: a13 :: a14 :: a15 :: a16 :: some v :: r) H) : gName 17 v (a0 :: a1 :: a2 :: a3 :: a4 :: a5 :: a6 :: a7 :: a8 :: a9 :: a10 :: a11 :: a12 :: a13 :: a14 :: a15 :: a16 :: z :: r) H R := h
theorem v18 {a0 a1 a2 a3 a4 a5 a6 a7 a8 a9 a10 a11 a12 a13 a14 a15 a16 a17 : Option V} {r : St} {v : V} {H : Hp} {Q : VK} (h : Q v H) : tVar 18 (a0 :: a1 :: a2 :: a3 :: a4 :: a5 :: a6 :: a7 :: a8 :: a9 :: a10 :: a11 :: a12 :: a13 :: a14 :: a15 :: a16 :: a17 :: some v :: r) H Q := ⟨v, rfl, h⟩
theorem n18 {a0 a1 a2 a3 a4 a5 a6 a7 a8 a9 a10 a11 a12 a13 a14 a15 a16 a17 z : Option V} {r : St} {v : V} {H : Hp} {R : St → Hp → Prop} (h : R (a0 :: a1 :: a2 :: a3 :: a4 :: a5 :: a6 :: a7 :: a8 :: a9 :: a10 :: a11 :: a12 :: a13 :: a14 :: a15 :: a16 :: a17 :: some v :: r) H) : gName 18 v (a0 :: a1 :: a2 :: a3 :: a4 :: a5 :: a6 :: a7 :: a8 :: a9 :: a10 :: a11 :: a12 :: a13 :: a14 :: a15 :: a16 :: a17 :: z :: r) H R := h
theorem v19 {a0 a1 a2 a3 a4 a5 a6 a7 a8 a9 a10 a11 a12 a13 a14 a15 a16 a17 a18 : Option V} {r : St} {v : V} {H : Hp} {Q : VK} (h : Q v H) : tVar 19 (a0 :: a1 :: a2 :: a3 :: a4 :: a5 :: a6 :: a7 :: a8 :: a9 :: a10 :: a11 :: a12 :: a13 :: a14 :: a15 :: a16 :: a17 :: a18 :: some v :: r) H Q := ⟨v, rfl, h⟩
theorem n19 {a0 a1 a2 a3 a4 a5 a6 a7 a8 a9 a10 a11 a12 a13 a14 a15 a16 a17 a18 z : Option V} {r : St} {v : V} {H : Hp} {R : St → Hp → Prop} (h : R (a0 :: a1 :: a2 :: a3 :: a4 :: a5 :: a6 :: a7 :: a8 :: a9 :: a10 :: a11 :: a12 :: a13 :: a14 :: a15 :: a16 :: a17 :: a18 :: some v :: r) H) : gName 19 v (a0 :: a1 :: a2 :: a3 :: a4 :: a5 :: a6 :: a7 :: a8 :: a9 :: a10 :: a11 :: a12 :: a13 :: a14 :: a15 :: a16 :: a17 :: a18 :: z :: r) H R := h
theorem v20 {a0 a1 a2 a3 a4 a5 a6 a7 a8 a9 a10 a11 a12 a13 a14 a15 a16 a17 a18 a19 : Option V} {r : St} {v : V} {H : Hp} {Q : VK} (h : Q v H) : tVar 20 (a0 :: a1 :: a2 :: a3 :: a4 :: a5 :: a6 :: a7 :: a8 :: a9 :: a10 :: a11 :: a12 :: a13 :: a14 :: a15 :: a16 :: a17 :: a18 :: a19 :: some v :: r) H Q := ⟨v, rfl, h⟩
theorem n20 {a0 a1 a2 a3 a4 a5 a6 a7 a8 a9 a10 a11 a12 a13 a14 a15 a16 a17 a18 a19 z : Option V} {r : St} {v : V} {H : Hp} {R : St → Hp → Prop} (h : R (a0 :: a1 :: a2 :: a3 :: a4 :: a5 :: a6 :: a7 :: a8 :: a9 :: a10 :: a11 :: a12 :: a13 :: a14 :: a15 :: a16 :: a17 :: a18 :: a19 :: some v :: r) H) : gName 20 v (a0 :: a1 :: a2 :: a3 :: a4 :: a5 :: a6 :: a7 :: a8 :: a9 :: a10 :: a11 :: a12 :: a13 :: a14 :: a15 :: a16 :: a17 :: a18 :: a19 :: z :: r) H R := h
theorem v21 {a0 a1 a2 a3 a4 a5 a6 a7 a8 a9 a10 a11 a12 a13 a14 a15 a16 a17 a18 a19 a20 : Option V} {r : St} {v : V} {H : Hp} {Q : VK} (h : Q v H) : tVar 21 (a0 :: a1 :: a2 :: a3 :: a4 :: a5 :: a6 :: a7 :: a8 :: a9 :: a10 :: a11 :: a12 :: a13 :: a14 :: a15 :: a16 :: a17 :: a18 :: a19 :: a20 :: some v :: r) H Q := ⟨v, rfl, h⟩
theorem n21 {a0 a1 a2 a3 a4 a5 a6 a7 a8 a9 a10 a11 a12 a13 a14 a15 a16 a17 a18 a19 a20 z : Option V} {r : St} {v : V} {H : Hp} {R : St → Hp → Prop} (h : R (a0 :: a1 :: a2 :: a3 :: a4 :: a5 :: a6 :: a7 :: a8 :: a9 :: a10 :: a11 :: a12 :: a13 :: a14 :: a15 :: a16 :: a17 :: a18 :: a19 :: a20 :: some v :: r) H) : gName 21 v (a0 :: a1 :: a2 :: a3 :: a4 :: a5 :: a6 :: a7 :: a8 :: a9 :: a10 :: a11 :: a12 :: a13 :: a14 :: a15 :: a16 :: a17 :: a18 :: a19 :: a20 :: z :: r) H R := h
theorem v22 {a0 a1 a2 a3 a4 a5 a6 a7 a8 a9 a10 a11 a12 a13 a14 a15 a16 a17 a18 a19 a20 a21 : Option V} {r : St} {v : V} {H : Hp} {Q : VK} (h : Q v H) : tVar 22 (a0 :: a1 :: a2 :: a3 :: a4 :: a5 :: a6 :: a7 :: a8 :: a9 :: a10 :: a11 :: a12 :: a13 :: a14 :: a15 :: a16 :: a17 :: a18 :: a19 :: a20 :: a21 :: some v :: r) H Q := ⟨v, rfl, h⟩
theorem n22 {a0 a1 a2 a3 a4 a5 a6 a7 a8 a9 a10 a11 a12 a13 a14 a15 a16 a17 a18 a19 a20 a21 z : Option V} {r : St} {v : V} {H : Hp} {R : St → Hp → Prop} (h : R (a0 :: a1 :: a2 :: a3 :: a4 :: a5 :: a6 :: a7 :: a8 :: a9 :: a10 :: a11 :: a12 :: a13 :: a14 :: a15 :: a16 :: a17 :: a18 :: a19 :: a20 :: a21 :: some v :: r) H) : gName 22 v (a0 :: a1 :: a2 :: a3 :: a4 :: a5 :: a6 :: a7 :: a8 :: a9 :: a10 :: a11 :: a12 :: a13 :: a14 :: a15 :: a16 :: a17 :: a18 :: a19 :: a20 :: a21 :: z :: r) H R := h
theorem v23 {a0 a1 a2 a3 a4 a5 a6 a7 a8 a9 a10 a11 a12 a13 a14 a15 a16 a17 a18 a19 a20 a21 a22 : Option V} {r : St} {v : V} {H : Hp} {Q : VK} (h : Q v H) : tVar 23 (a0 :: a1 :: a2 :: a3 :: a4 :: a5 :: a6 :: a7 :: a8 :: a9 :: a10 :: a11 :: a12 :: a13 :: a14 :: a15 :: a16 :: a17 :: a18 :: a19 :: a20 :: a21 :: a22 :: some v :: r) H Q := ⟨v, rfl, h⟩
theorem n23 {a0 a1 a2 a3 a4 a5 a6 a7 a8 a9 a10 a11 a12 a13 a14 a15 a16 a17 a18 a19 a20 a21 a22 z : Option V} {r : St} {v : V} {H : Hp} {R : St → Hp → Prop} (h : R (a0 :: a1 :: a2 :: a3 :: a4 :: a5 :: a6 :: a7 :: a8 :: a9 :: a10 :: a11 :: a12 :: a13 :: a14 :: a15 :: a16 :: a17 :: a18 :: a19 :: a20 :: a21 :: a22 :: some v :: r) H) : gName 23 v (a0 :: a1 :: a2 :: a3 :: a4 :: a5 :: a6 :: a7 :: a8 :: a9 :: a10 :: a11 :: a12 :: a13 :: a14 :: a15 :: a16 :: a17 :: a18 :: a19 :: a20 :: a21 :: a22 :: z :: r) H R := h
theorem v24 {a0 a1 a2 a3 a4 a5 a6 a7 a8 a9 a10 a11 a12 a13 a14 a15 a16 a17 a18 a19 a20 a21 a22 a23 : Option V} {r : St} {v : V} {H : Hp} {Q : VK} (h : Q v H) : tVar 24 (a0 :: a1 :: a2 :: a3 :: a4 :: a5 :: a6 :: a7 :: a8 :: a9 :: a10 :: a11 :: a12 :: a13 :: a14 :: a15 :: a16 :: a17 :: a18 :: a19 :: a20 :: a21 :: a22 :: a23 :: some v :: r) H Q := ⟨v, rfl, h⟩
theorem n24 {a0 a1 a2 a3 a4 a5 a6 a7 a8 a9 a10 a11 a12 a13 a14 a15 a16 a17 a18 a19 a20 a21 a22 a23 z : Option V} {r : St} {v : V} {H : Hp} {R : St → Hp → Prop} (h : R (a0 :: a1 :: a2 :: a3 :: a4 :: a5 :: a6 :: a7 :: a8 :: a9 :: a10 :: a11 :: a12 :: a13 :: a14 :: a15 :: a16 :: a17 :: a18 :: a19 :: a20 :: a21 :: a22 :: a23 :: some v :: r) H) : gName 24 v (a0 :: a1 :: a2 :: a3 :: a4 :: a5 :: a6 :: a7 :: a8 :: a9 :: a10 :: a11 :: a12 :: a13 :: a14 :: a15 :: a16 :: a17 :: a18 :: a19 :: a20 :: a21 :: a22 :: a23 :: z :: r) H R := h
theorem v25 {a0 a1 a2 a3 a4 a5 a6 a7 a8 a9 a10 a11 a12 a13 a14 a15 a16 a17 a18 a19 a20 a21 a22 a23 a24 : Option V} {r : St} {v : V} {H : Hp} {Q : VK} (h : Q v H) : tVar 25 (a0 :: a1 :: a2 :: a3 :: a4 :: a5 :: a6 :: a7 :: a8 :: a9 :: a10 :: a11 :: a12 :: a13 :: a14 :: a15 :: a16 :: a17 :: a18 :: a19 :: a20 :: a21 :: a22 :: a23 :: a24 :: some v :: r) H Q := ⟨v, rfl, h⟩
theorem n25 {a0 a1 a2 a3 a4 a5 a6 a7 a8 a9 a10 a11 a12 a13 a14 a15 a16 a17 a18 a19 a20 a21 a22 a23 a24 z : Option V} {r : St} {v : V} {H : Hp} {R : St → Hp → Prop} (h : R (a0 :: a1 :: a2 :: a3 :: a4 :: a5 :: a6 :: a7 :: a8 :: a9 :: a10 :: a11 :: a12 :: a13 :: a14 :: a15 :: a16 :: a17 :: a18 :: a19 :: a20 :: a21 :: a22 :: a23 :: a24 :: some v :: r) H) : gName 25 v (a0 :: a1 :: a2 :: a3 :: a4 :: a5 :: a6 :: a7 :: a8 :: a9 :: a10 :: a11 :: a12 :: a13 :: a14 :: a15 :: a16 :: a17 :: a18 :: a19 :: a20 :: a21 :: a22 :: a23 :: a24 :: z :: r) H R := h
theorem nI0 {z : Option V} {r : St} {i : Int} {H : Hp} {R : St → Hp → Prop} (h : ∀ j : Int, j = i → R (some (V.int j) :: r) H) : gName 0 (V.int i) (z :: r) H R := h i rfl
theorem nB0 {z : Option V} {r : St} {i : Bool} {H : Hp} {R : St → Hp → Prop} (h : ∀ j : Bool, j = i → R (some (V.bl j) :: r) H) : gName 0 (V.bl i) (z :: r) H R := h i rfl
theorem nS0 {z : Option V} {r : St} {i : Str} {H : Hp} {R : St → Hp → Prop} (h : ∀ j : Str, j = i → R (some (V.str j) :: r) H) : gName 0 (V.str i) (z :: r) H R := h i rfl
theorem nI1 {a0 z : Option V} {r : St} {i : Int} {H : Hp} {R : St → Hp → Prop} (h : ∀ j : Int, j = i → R (a0 :: some (V.int j) :: r) H) : gName 1 (V.int i) (a0 :: z :: r) H R := h i rfl
theorem nB1 {a0 z : Option V} {r : St} {i : Bool} {H : Hp} {R : St → Hp → Prop} (h : ∀ j : Bool, j = i → R (a0 :: some (V.bl j) :: r) H) : gName 1 (V.bl i) (a0 :: z :: r) H R := h i rfl
theorem nS1 {a0 z : Option V} {r : St} {i : Str} {H : Hp} {R : St → Hp → Prop} (h : ∀ j : Str, j = i → R (a0 :: some (V.str j) :: r) H) : gName 1 (V.str i) (a0 :: z :: r) H R := h i rfl
theorem nI2 {a0 a1 z : Option V} {r : St} {i : Int} {H : Hp} {R : St → Hp → Prop} (h : ∀ j : Int, j = i → R (a0 :: a1 :: some (V.int j) :: r) H) : gName 2 (V.int i) (a0 :: a1 :: z :: r) H R := h i rfl
theorem nB2 {a0 a1 z : Option V} {r : St} {i : Bool} {H : Hp} {R : St → Hp → Prop} (h : ∀ j : Bool, j = i → R (a0 :: a1 :: some (V.bl j) :: r) H) : gName 2 (V.bl i) (a0 :: a1 :: z :: r) H R := h i rfl
theorem nS2 {a0 a1 z : Option V} {r : St} {i : Str} {H : Hp} {R : St → Hp → Prop} (h : ∀ j : Str, j = i → R (a0 :: a1 :: some (V.str j) :: r) H) : gName 2 (V.str i) (a0 :: a1 :: z :: r) H R := h i rfl
theorem nI3 {a0 a1 a2 z : Option V} {r : St} {i : Int} {H : Hp} {R : St → Hp → Prop} (h : ∀ j : Int, j = i → R (a0 :: a1 :: a2 :: some (V.int j) :: r) H) : gName 3 (V.int i) (a0 :: a1 :: a2 :: z :: r) H R := h i rfl
theorem nB3 {a0 a1 a2 z : Option V} {r : St} {i : Bool} {H : Hp} {R : St → Hp → Prop} (h : ∀ j : Bool, j = i → R (a0 :: a1 :: a2 :: some (V.bl j) :: r) H) : gName 3 (V.bl i) (a0 :: a1 :: a2 :: z :: r) H R := h i rfl
theorem nS3 {a0 a1 a2 z : Option V} {r : St} {i : Str} {H : Hp} {R : St → Hp → Prop} (h : ∀ j : Str, j = i → R (a0 :: a1 :: a2 :: some (V.str j) :: r) H) : gName 3 (V.str i) (a0 :: a1 :: a2 :: z :: r) H R := h i rfl
theorem nI4 {a0 a1 a2 a3 z : Option V} {r : St} {i : Int} {H : Hp} {R : St → Hp → Prop} (h : ∀ j : Int, j = i → R (a0 :: a1 :: a2 :: a3 :: some (V.int j) :: r) H) : gName 4 (V.int i) (a0 :: a1 :: a2 :: a3 :: z :: r) H R := h i rfl
theorem nB4 {a0 a1 a2 a3 z : Option V} {r : St} {i : Bool} {H : Hp} {R : St → Hp → Prop} (h : ∀ j : Bool, j = i → R (a0 :: a1 :: a2 :: a3 :: some (V.bl j) :: r) H) : gName 4 (V.bl i) (a0 :: a1 :: a2 :: a3 :: z :: r) H R := h i rfl
theorem nS4 {a0 a1 a2 a3 z : Option V} {r : St} {i : Str} {H : Hp} {R : St → Hp → Prop} (h : ∀ j : Str, j = i → R (a0 :: a1 :: a2 :: a3 :: some (V.str j) :: r) H) : gName 4 (V.str i) (a0 :: a1 :: a2 :: a3 :: z :: r) H R := h i rfl
theorem nI5 {a0 a1 a2 a3 a4 z : Option V} {r : St} {i : Int} {H : Hp} {R : St → Hp → Prop} (h : ∀ j : Int, j = i → R (a0 :: a1 :: a2 :: a3 :: a4 :: some (V.int j) :: r) H) : gName 5 (V.int i) (a0 :: a1 :: a2 :: a3 :: a4 :: z :: r) H R := h i rfl
theorem nB5 {a0 a1 a2 a3 a4 z : Option V} {r : St} {i : Bool} {H : Hp} {R : St → Hp → Prop} (h : ∀ j : Bool, j = i → R (a0 :: a1 :: a2 :: a3 :: a4 :: some (V.bl j) :: r) H) : gName 5 (V.bl i) (a0 :: a1 :: a2 :: a3 :: a4 :: z :: r) H R := h i rfl
theorem nS5 {a0 a1 a2 a3 a4 z : Option V} {r : St} {i : Str} {H : Hp} {R : St → Hp → Prop} (h : ∀ j : Str, j = i → R (a0 :: a1 :: a2 :: a3 :: a4 :: some (V.str j) :: r) H) : gName 5 (V.str i) (a0 :: a1 :: a2 :: a3 :: a4 :: z :: r) H R := h i rfl
theorem nI6 {a0 a1 a2 a3 a4 a5 z : Option V} {r : St} {i : Int} {H : Hp} {R : St → Hp → Prop} (h : ∀ j : Int, j = i → R (a0 :: a1 :: a2 :: a3 :: a4 :: a5 :: some (V.int j) :: r) H) : gName 6 (V.int i) (a0 :: a1 :: a2 :: a3 :: a4 :: a5 :: z :: r) H R := h i rfl
theorem nB6 {a0 a1 a2 a3 a4 a5 z : Option V} {r : St} {i : Bool} {H : Hp} {R : St → Hp → Prop} (h : ∀ j : Bool, j = i → R (a0 :: a1 :: a2 :: a3 :: a4 :: a5 :: some (V.bl j) :: r) H) : gName 6 (V.bl i) (a0 :: a1 :: a2 :: a3 :: a4 :: a5 :: z :: r) H R := h i rfl
theorem nS6 {a0 a1 a2 a3 a4 a5 z : Option V} {r : St} {i : Str} {H : Hp} {R : St → Hp → Prop} (h : ∀ j : Str, j = i → R (a0 :: a1 :: a2 :: a3 :: a4 :: a5 :: some (V.str j) :: r) H) : gName 6 (V.str i) (a0 :: a1 :: a2 :: a3 :: a4 :: a5 :: z :: r) H R := h i rfl
theorem nI7 {a0 a1 a2 a3 a4 a5 a6 z : Option V} {r : St} {i : Int} {H : Hp} {R : St → Hp → Prop} (h : ∀ j : Int, j = i → R (a0 :: a1 :: a2 :: a3 :: a4 :: a5 :: a6 :: some (V.int j) :: r) H) : gName 7 (V.int i) (a0 :: a1 :: a2 :: a3 :: a4 :: a5 :: a6 :: z :: r) H R := h i rfl
theorem nB7 {a0 a1 a2 a3 a4 a5 a6 z : Option V} {r : St} {i : Bool} {H : Hp} {R : St → Hp → Prop} (h : ∀ j : Bool, j = i → R (a0 :: a1 :: a2 :: a3 :: a4 :: a5 :: a6 :: some (V.bl j) :: r) H) : gName 7 (V.bl i) (a0 :: a1 :: a2 :: a3 :: a4 :: a5 :: a6 :: z :: r) H R := h i rfl
theorem nS7 {a0 a1 a2 a3 a4 a5 a6 z : Option V} {r : St} {i : Str} {H : Hp} {R : St → Hp → Prop} (h : ∀ j : Str, j = i → R (a0 :: a1 :: a2 :: a3 :: a4 :: a5 :: a6 :: some (V.str j) :: r) H) : gName 7 (V.str i) (a0 :: a1 :: a2 :: a3 :: a4 :: a5 :: a6 :: z :: r) H R := h i rfl
theorem nI8 {a0 a1 a2 a3 a4 a5 a6 a7 z : Option V} {r : St} {i : Int} {H : Hp} {R : St → Hp → Prop} (h : ∀ j : Int, j = i → R (a0 :: a1 :: a2 :: a3 :: a4 :: a5 :: a6 :: a7 :: some (V.int j) :: r) H) : gName 8 (V.int i) (a0 :: a1 :: a2 :: a3 :: a4 :: a5 :: a6 :: a7 :: z :: r) H R := h i rfl
theorem nB8 {a0 a1 a2 a3 a4 a5 a6 a7 z : Option V} {r : St} {i : Bool} {H : Hp} {R : St → Hp → Prop} (h : ∀ j : Bool, j = i → R (a0 :: a1 :: a2 :: a3 :: a4 :: a5 :: a6 :: a7 :: some (V.bl j) :: r) H) : gName 8 (V.bl i) (a0 :: a1 :: a2 :: a3 :: a4 :: a5 :: a6 :: a7 :: z :: r) H R := h i rfl
theorem nS8 {a0 a1 a2 a3 a4 a5 a6 a7 z : Option V} {r : St} {i : Str} {H : Hp} {R : St → Hp → Prop} (h : ∀ j : Str, j = i → R (a0 :: a1 :: a2 :: a3 :: a4 :: a5 :: a6 :: a7 :: some (V.str j) :: r) H) : gName 8 (V.str i) (a0 :: a1 :: a2 :: a3 :: a4 :: a5 :: a6 :: a7 :: z :: r) H R := h i rfl
theorem nI9 {a0 a1 a2 a3 a4 a5 a6 a7 a8 z : Option V} {r : St} {i : Int} {H : Hp} {R : St → Hp → Prop} (h : ∀ j : Int, j = i → R (a0 :: a1 :: a2 :: a3 :: a4 :: a5 :: a6 :: a7 :: a8 :: some (V.int j) :: r) H) : gName 9 (V.int i) (a0 :: a1 :: a2 :: a3 :: a4 :: a5 :: a6 :: a7 :: a8 :: z :: r) H R := h i rfl
theorem nB9 {a0 a1 a2 a3 a4 a5 a6 a7 a8 z : Option V} {r : St} {i : Bool} {H : Hp} {R : St → Hp → Prop} (h : ∀ j : Bool, j = i → R (a0 :: a1 :: a2 :: a3 :: a4 :: a5 :: a6 :: a7 :: a8 :: some (V.bl j) :: r) H) : gName 9 (V.bl i) (a0 :: a1 :: a2 :: a3 :: a4 :: a5 :: a6 :: a7 :: a8 :: z :: r) H R := h i rfl
theorem nS9 {a0 a1 a2 a3 a4 a5 a6 a7 a8 z : Option V} {r : St} {i : Str} {H : Hp} {R : St → Hp → Prop} (h : ∀ j : Str, j = i → R (a0 :: a1 :: a2 :: a3 :: a4 :: a5 :: a6 :: a7 :: a8 :: some (V.str j) :: r) H) : gName 9 (V.str i) (a0 :: a1 :: a2 :: a3 :: a4 :: a5 :: a6 :: a7 :: a8 :: z :: r) H R := h i rfl
theorem nI10 {a0 a1 a2 a3 a4 a5 a6 a7 a8 a9 z : Option V} {r : St} {i : Int} {H : Hp} {R : St → Hp → Prop} (h : ∀ j : Int, j = i → R (a0 :: a1 :: a2 :: a3 :: a4 :: a5 :: a6 :: a7 :: a8 :: a9 :: some (V.int j) :: r) H) : gName 10 (V.int i) (a0 :: a1 :: a2 :: a3 :: a4 :: a5 :: a6 :: a7 :: a8 :: a9 :: z :: r) H R := h i rfl
theorem nB10 {a0 a1 a2 a3 a4 a5 a6 a7 a8 a9 z : Option V} {r : St} {i : Bool} {H : Hp} {R : St → Hp → Prop} (h : ∀ j : Bool, j = i → R (a0 :: a1 :: a2 :: a3 :: a4 :: a5 :: a6 :: a7 :: a8 :: a9 :: some (V.bl j) :: r) H) : gName 10 (V.bl i) (a0 :: a1 :: a2 :: a3 :: a4 :: a5 :: a6 :: a7 :: a8 :: a9 :: z :: r) H R := h i rfl
theorem nS10 {a0 a1 a2 a3 a4 a5 a6 a7 a8 a9 z : Option V} {r : St} {i : Str} {H : Hp} {R : St → Hp → Prop} (h : ∀ j : Str, j = i → R (a0 :: a1 :: a2 :: a3 :: a4 :: a5 :: a6 :: a7 :: a8 :: a9 :: some (V.str j) :: r) H) : gName 10 (V.str i) (a0 :: a1 :: a2 :: a3 :: a4 :: a5 :: a6 :: a7 :: a8 :: a9 :: z :: r) H R := h i rfl
theorem nI11 {a0 a1 a2 a3 a4 a5 a6 a7 a8 a9 a10 z : Option V} {r : St} {i : Int} {H : Hp} {R : St → Hp → Prop} (h : ∀ j : Int, j = i → R (a0 :: a1 :: a2 :: a3 :: a4 :: a5 :: a6 :: a7 :: a8 :: a9 :: a10 :: some (V.int j) :: r) H) : gName 11 (V.int i) (a0 :: a1 :: a2 :: a3 :: a4 :: a5 :: a6 :: a7 :: a8 :: a9 :: a10 :: z :: r) H R := h i rfl
theorem nB11 {a0 a1 a2 a3 a4 a5 a6 a7 a8 a9 a10 z : Option V} {r : St} {i : Bool} {H : Hp} {R : St → Hp → Prop} (h : ∀ j : Bool, j = i → R (a0 :: a1 :: a2 :: a3 :: a4 :: a5 :: a6 :: a7 :: a8 :: a9 :: a10 :: some (V.bl j) :: r) H) : gName 11 (V.bl i) (a0 :: a1 :: a2 :: a3 :: a4 :: a5 :: a6 :: a7 :: a8 :: a9 :: a10 :: z :: r) H R := h i rfl
theorem nS11 {a0 a1 a2 a3 a4 a5 a6 a7 a8 a9 a10 z : Option V} {r : St} {i : Str} {H : Hp} {R : St → Hp → Prop} (h : ∀ j : Str, j = i → R (a0 :: a1 :: a2 :: a3 :: a4 :: a5 :: a6 :: a7 :: a8 :: a9 :: a10 :: some (V.str j) :: r) H) : gName 11 (V.str i) (a0 :: a1 :: a2 :: a3 :: a4 :: a5 :: a6 :: a7 :: a8 :: a9 :: a10 :: z :: r) H R := h i rfl
theorem nI12 {a0 a1 a2 a3 a4 a5 a6 a7 a8 a9 a10 a11 z : Option V} {r : St} {i : Int} {H : Hp} {R : St → Hp → Prop} (h : ∀ j : Int, j = i → R (a0 :: a1 :: a2 :: a3 :: a4 :: a5 :: a6 :: a7 :: a8 :: a9 :: a10 :: a11 :: some (V.int j) :: r) H) : gName 12 (V.int i) (a0 :: a1 :: a2 :: a3 :: a4 :: a5 :: a6 :: a7 :: a8 :: a9 :: a10 :: a11 :: z :: r) H R := h i rfl
theorem nB12 {a0 a1 a2 a3 a4 a5 a6 a7 a8 a9 a10 a11 z : Option V} {r : St} {i : Bool} {H : Hp} {R : St → Hp → Prop} (h : ∀ j : Bool, j = i → R (a0 :: a1 :: a2 :: a3 :: a4 :: a5 :: a6 :: a7 :: a8 :: a9 :: a10 :: a11 :: some (V.bl j) :: r) H) : gName 12 (V.bl i) (a0 :: a1 :: a2 :: a3 :: a4 :: a5 :: a6 :: a7 :: a8 :: a9 :: a10 :: a11 :: z :: r) H R := h i rfl
theorem nS12 {a0 a1 a2 a3 a4 a5 a6 a7 a8 a9 a10 a11 z : Option V} {r : St} {i : Str} {H : Hp} {R : St → Hp → Prop} (h : ∀ j : Str, j = i → R (a0 :: a1 :: a2 :: a3 :: a4 :: a5 :: a6 :: a7 :: a8 :: a9 :: a10 :: a11 :: some (V.str j) :: r) H) : gName 12 (V.str i) (a0 :: a1 :: a2 :: a3 :: a4 :: a5 :: a6 :: a7 :: a8 :: a9 :: a10 :: a11 :: z :: r) H R := h i rfl
theorem nI13 {a0 a1 a2 a3 a4 a5 a6 a7 a8 a9 a10 a11 a12 z : Option V} {r : St} {i : Int} {H : Hp} {R : St → Hp → Prop} (h : ∀ j : Int, j = i → R (a0 :: a1 :: a2 :: a3 :: a4 :: a5 :: a6 :: a7 :: a8 :: a9 :: a10 :: a11 :: a12 :: some (V.int j) :: r) H) : gName 13 (V.int i) (a0 :: a1 :: a2 :: a3 :: a4 :: a5 :: a6 :: a7 :: a8 :: a9 :: a10 :: a11 :: a12 :: z :: r) H R := h i rfl
theorem nB13 {a0 a1 a2 a3 a4 a5 a6 a7 a8 a9 a10 a11 a12 z : Option V} {r : St} {i : Bool} {H : Hp} {R : St → Hp → Prop} (h : ∀ j : Bool, j = i → R (a0 :: a1 :: a2 :: a3 :: a4 :: a5 :: a6 :: a7 :: a8 :: a9 :: a10 :: a11 :: a12 :: some (V.bl j) :: r) H) : gName 13 (V.bl i) (a0 :: a1 :: a2 :: a3 :: a4 :: a5 :: a6 :: a7 :: a8 :: a9 :: a10 :: a11 :: a12 :: z :: r) H R := h i rfl
theorem nS13 {a0 a1 a2 a3 a4 a5 a6 a7 a8 a9 a10 a11 a12 z : Option V} {r : St} {i : Str} {H : Hp} {R : St → Hp → Prop} (h : ∀ j : Str, j = i → R (a0 :: a1 :: a2 :: a3 :: a4 :: a5 :: a6 :: a7 :: a8 :: a9 :: a10 :: a11 :: a12 :: some (V.str j) :: r) H) : gName 13 (V.str i) (a0 :: a1 :: a2 :: a3 :: a4 :: a5 :: a6 :: a7 :: a8 :: a9 :: a10 :: a11 :: a12 :: z :: r) H R := h i rfl
theorem nI14 {a0 a1 a2 a3 a4 a5 a6 a7 a8 a9 a10 a11 a12 a13 z : Option V} {r : St} {i : Int} {H : Hp} {R : St → Hp → Prop} (h : ∀ j : Int, j = i → R (a0 :: a1 :: a2 :: a3 :: a4 :: a5 :: a6 :: a7 :: a8 :: a9 :: a10 :: a11 :: a12 :: a13 :: some (V.int j) :: r) H) : gName 14 (V.int i) (a0 :: a1 :: a2 :: a3 :: a4 :: a5 :: a6 :: a7 :: a8 :: a9 :: a10 :: a11 :: a12 :: a13 :: z :: r) H R := h i rfl
theorem nB14 {a0 a1 a2 a3 a4 a5 a6 a7 a8 a9 a10 a11 a12 a13 z : Option V} {r : St} {i : Bool} {H : Hp} {R : St → Hp → Prop} (h : ∀ j : Bool, j = i → R (a0 :: a1 :: a2 :: a3 :: a4 :: a5 :: a6 :: a7 :: a8 :: a9 :: a10 :: a11 :: a12 :: a13 :: some (V.bl j) :: r) H) : gName 14 (V.bl i) (a0 :: a1 :: a2 :: a3 :: a4 :: a5 :: a6 :: a7 :: a8 :: a9 :: a10 :: a11 :: a12 :: a13 :: z :: r) H R := h i rfl
theorem nS14 {a0 a1 a2 a3 a4 a5 a6 a7 a8 a9 a10 a11 a12 a13 z : Option V} {r : St} {i : Str} {H : Hp} {R : St → Hp → Prop} (h : ∀ j : Str, j = i → R (a0 :: a1 :: a2 :: a3 :: a4 :: a5 :: a6 :: a7 :: a8 :: a9 :: a10 :: a11 :: a12 :: a13 :: some (V.str j) :: r) H) : gName 14 (V.str i) (a0 :: a1 :: a2 :: a3 :: a4 :: a5 :: a6 :: a7 :: a8 :: a9 :: a10 :: a11 :: a12 :: a13 :: z :: r) H R := h i rfl
theorem nI15 {a0 a1 a2 a3 a4 a5 a6 a7 a8 a9 a10 a11 a12 a13 a14 z : Option V} {r : St} {i : Int} {H : Hp} {R : St → Hp → Prop} (h : ∀ j : Int, j = i → R (a0 :: a1 :: a2 :: a3 :: a4 :: a5 :: a6 :: a7 :: a8 :: a9 :: a10 :: a11 :: a12 :: a13 :: a14 :: some (V.int j) :: r) H) : gName 15 (V.int i) (a0 :: a1 :: a2 :: a3 :: a4 :: a5 :: a6 :: a7 :: a8 :: a9 :: a10 :: a11 :: a12 :: a13 :: a14 :: z :: r) H R := h i rfl
theorem nB15 {a0 a1 a2 a3 a4 a5 a6 a7 a8 a9 a10 a11 a12 a13 a14 z : Option V} {r : St} {i : Bool} {H : Hp} {R : St → Hp → Prop} (h : ∀ j : Bool, j = i → R (a0 :: a1 :: a2 :: a3 :: a4 :: a5 :: a6 :: a7 :: a8 :: a9 :: a10 :: a11 :: a12 :: a13 :: a14 :: some (V.bl j) :: r) H) : gName 15 (V.bl i) (a0 :: a1 :: a2 :: a3 :: a4 :: a5 :: a6 :: a7 :: a8 :: a9 :: a10 :: a11 :: a12 :: a13 :: a14 :: z :: r) H R := h i rfl
theorem nS15 {a0 a1 a2 a3 a4 a5 a6 a7 a8 a9 a10 a11 a12 a13 a14 z : Option V} {r : St} {i : Str} {H : Hp} {R : St → Hp → Prop} (h : ∀ j : Str, j = i → R (a0 :: a1 :: a2 :: a3 :: a4 :: a5 :: a6 :: a7 :: a8 :: a9 :: a10 :: a11 :: a12 :: a13 :: a14 :: some (V.str j) :: r) H) : gName 15 (V.str i) (a0 :: a1 :: a2 :: a3 :: a4 :: a5 :: a6 :: a7 :: a8 :: a9 :: a10 :: a11 :: a12 :: a13 :: a14 :: z :: r) H R := h i rfl
theorem nI16 {a0 a1 a2 a3 a4 a5 a6 a7 a8 a9 a10 a11 a12 a13 a14 a15 z : Option V} {r : St} {i : Int} {H : Hp} {R : St → Hp → Prop} (h : ∀ j : Int, j = i → R (a0 :: a1 :: a2 :: a3 :: a4 :: a5 :: a6 :: a7 :: a8 :: a9 :: a10 :: a11 :: a12 :: a13 :: a14 :: a15 :: some (V.int j) :: r) H) : gName 16 (V.int i) (a0 :: a1 :: a2 :: a3 :: a4 :: a5 :: a6 :: a7 :: a8 :: a9 :: a10 :: a11 :: a12 :: a13 :: a14 :: a15 :: z :: r) H R := h i rfl
theorem nB16 {a0 a1 a2 a3 a4 a5 a6 a7 a8 a9 a10 a11 a12 a13 a14 a15 z : Option V} {r : St} {i : Bool} {H : Hp} {R : St → Hp → Prop} (h : ∀ j : Bool, j = i → R (a0 :: a1 :: a2 :: a3 :: a4 :: a5 :: a6 :: a7 :: a8 :: a9 :: a10 :: a11 :: a12 :: a13 :: a14 :: a15 :: some (V.bl j) :: r) H) : gName 16 (V.bl i) (a0 :: a1 :: a2 :: a3 :: a4 :: a5 :: a6 :: a7 :: a8 :: a9 :: a10 :: a11 :: a12 :: a13 :: a14 :: a15 :: z :: r) H R := h i rfl
theorem nS16 {a0 a1 a2 a3 a4 a5 a6 a7 a8 a9 a10 a11 a12 a13 a14 a15 z : Option V} {r : St} {i : Str} {H : Hp} {R : St → Hp → Prop} (h : ∀ j : Str, j = i → R (a0 :: a1 :: a2 :: a3 :: a4 :: a5 :: a6 :: a7 :: a8 :: a9 :: a10 :: a11 :: a12 :: a13 :: a14 :: a15 :: some (V.str j) :: r) H) : gName 16 (V.str i) (a0 :: a1 :: a2 :: a3 :: a4 :: a5 :: a6 :: a7 :: a8 :: a9 :: a10 :: a11 :: a12 :: a13 :: a14 :: a15 :: z :: r) H R := h i rfl
theorem nI17 {a0 a1 a2 a3 a4 a5 a6 a7 a8 a9 a10 a11 a12 a13 a14 a15 a16 z : Option V} {r : St} {i : Int} {H : Hp} {R : St → Hp → Prop} (h : ∀ j : Int, j = i → R (a0 :: a1 :: a2 :: a3 :: a4 :: a5 :: a6 :: a7 :: a8 :: a9 :: a10 :: a11 :: a12 :: a13 :: a14 :: a15 :: a16 :: some (V.int j) :: r) H) : gName 17 (V.int i) (a0 :: a1 :: a2 :: a3 :: a4 :: a5 :: a6 :: a7 :: a8 :: a9 :: a10 :: a11 :: a12 :: a13 :: a14 :: a15 :: a16 :: z :: r) H R := h i rfl
theorem nB17 {a0 a1 a2 a3 a4 a5 a6 a7 a8 a9 a10 a11 a12 a13 a14 a15 a16 z : Option V} {r : St} {i : Bool} {H : Hp} {R : St → Hp → Prop} (h : ∀ j : Bool, j = i → R (a0 :: a1 :: a2 :: a3 :: a4 :: a5 :: a6 :: a7 :: a8 :: a9 :: a10 :: a11 :: a12 :: a13 :: a14 :: a15 :: a16 :: some (V.bl j) :: r) H) : gName 17 (V.bl i) (a0 :: a1 :: a2 :: a3 :: a4 :: a5 :: a6 :: a7 :: a8 :: a9 :: a10 :: a11 :: a12 :: a13 :: a14 :: a15 :: a16 :: z :: r) H R := h i rfl
theorem nS17 {a0 a1 a2 a3 a4 a5 a6 a7 a8 a9 a10 a11 a12 a13 a14 a15 a16 z : Option V} {r : St} {i : Str} {H : Hp} {R : St → Hp → Prop} (h : ∀ j : Str, j = i → R (a0 :: a1 :: a2 :: a3 :: a4 :: a5 :: a6 :: a7 :: a8 :: a9 :: a10 :: a11 :: a12 :: a13 :: a14 :: a15 :: a16 :: some (V.str j) :: r) H) : gName 17 (V.str i) (a0 :: a1 :: a2 :: a3 :: a4 :: a5 :: a6 :: a7 :: a8 :: a9 :: a10 :: a11 :: a12 :: a13 :: a14 :: a15 :: a16 :: z :: r) H R := h i rfl
theorem nI18 {a0 a1 a2 a3 a4 a5 a6 a7 a8 a9 a10 a11 a12 a13 a14 a15 a16 a17 z : Option V} {r : St} {i : Int} {H : Hp} {R : St → Hp → Prop} (h : ∀ j : Int, j = i → R (a0 :: a1 :: a2 :: a3 :: a4 :: a5 :: a6 :: a7 :: a8 :: a9 :: a10 :: a11 :: a12 :: a13 :: a14 :: a15 :: a16 :: a17 :: some (V.int j) :: r) H) : gName 18 (V.int i) (a0 :: a1 :: a2 :: a3 :: a4 :: a5 :: a6 :: a7 :: a8 :: a9 :: a10 :: a11 :: a12 :: a13 :: a14 :: a15 :: a16 :: a17 :: z :: r) H R := h i rfl
theorem nB18 {a0 a1 a2 a3 a4 a5 a6 a7 a8 a9 a10 a11 a12 a13 a14 a15 a16 a17 z : Option V} {r : St} {i : Bool} {H : Hp} {R : St → Hp → Prop} (h : ∀ j : Bool, j = i → R (a0 :: a1 :: a2 :: a3 :: a4 :: a5 :: a6 :: a7 :: a8 :: a9 :: a10 :: a11 :: a12 :: a13 :: a14 :: a15 :: a16 :: a17 :: some (V.bl j) :: r) H) : gName 18 (V.bl i) (a0 :: a1 :: a2 :: a3 :: a4 :: a5 :: a6 :: a7 :: a8 :: a9 :: a10 :: a11 :: a12 :: a13 :: a14 :: a15 :: a16 :: a17 :: z :: r) H R := h i rfl
theorem nS18 {a0 a1 a2 a3 a4 a5 a6 a7 a8 a9 a10 a11 a12 a13 a14 a15 a16 a17 z : Option V} {r : St} {i : Str} {H : Hp} {R : St → Hp → Prop} (h : ∀ j : Str, j = i → R (a0 :: a1 :: a2 :: a3 :: a4 :: a5 :: a6 :: a7 :: a8 :: a9 :: a10 :: a11 :: a12 :: a13 :: a14 :: a15 :: a16 :: a17 :: some (V.str j) :: r) H) : gName 18 (V.str i) (a0 :: a1 :: a2 :: a3 :: a4 :: a5 :: a6 :: a7 :: a8 :: a9 :: a10 :: a11 :: a12 :: a13 :: a14 :: a15 :: a16 :: a17 :: z :: r) H R := h i rfl
theorem nI19 {a0 a1 a2 a3 a4 a5 a6 a7 a8 a9 a10 a11 a12 a13 a14 a15 a16 a17 a18 z : Option V} {r : St} {i : Int} {H : Hp} {R : St → Hp → Prop} (h : ∀ j : Int, j = i → R (a0 :: a1 :: a2 :: a3 :: a4 :: a5 :: a6 :: a7 :: a8 :: a9 :: a10 :: a11 :: a12 :: a13 :: a14 :: a15 :: a16 :: a17 :: a18 :: some (V.int j) :: r) H) : gName 19 (V.int i) (a0 :: a1 :: a2 :: a3 :: a4 :: a5 :: a6 :: a7 :: a8 :: a9 :: a10 :: a11 :: a12 :: a13 :: a14 :: a15 :: a16 :: a17 :: a18 :: z :: r) H R := h i rfl
theorem nB19 {a0 a1 a2 a3 a4 a5 a6 a7 a8 a9 a10 a11 a12 a13 a14 a15 a16 a17 a18 z : Option V} {r : St} {i : Bool} {H : Hp} {R : St → Hp → Prop} (h : ∀ j : Bool, j = i → R (a0 :: a1 :: a2 :: a3 :: a4 :: a5 :: a6 :: a7 :: a8 :: a9 :: a10 :: a11 :: a12 :: a13 :: a14 :: a15 :: a16 :: a17 :: a18 :: some (V.bl j) :: r) H) : gName 19 (V.bl i) (a0 :: a1 :: a2 :: a3 :: a4 :: a5 :: a6 :: a7 :: a8 :: a9 :: a10 :: a11 :: a12 :: a13 :: a14 :: a15 :: a16 :: a17 :: a18 :: z :: r) H R := h i rfl
theorem nS19 {a0 a1 a2 a3 a4 a5 a6 a7 a8 a9 a10 a11 a12 a13 a14 a15 a16 a17 a18 z : Option V} {r : St} {i : Str} {H : Hp} {R : St → Hp → Prop} (h : ∀ j : Str, j = i → R (a0 :: a1 :: a2 :: a3 :: a4 :: a5 :: a6 :: a7 :: a8 :: a9 :: a10 :: a11 :: a12 :: a13 :: a14 :: a15 :: a16 :: a17 :: a18 :: some (V.str j) :: r) H) : gName 19 (V.str i) (a0 :: a1 :: a2 :: a3 :: a4 :: a5 :: a6 :: a7 :: a8 :: a9 :: a10 :: a11 :: a12 :: a13 :: a14 :: a15 :: a16 :: a17 :: a18 :: z :: r) H R := h i rfl
theorem nI20 {a0 a1 a2 a3 a4 a5 a6 a7 a8 a9 a10 a11 a12 a13 a14 a15 a16 a17 a18 a19 z : Option V} {r : St} {i : Int} {H : Hp} {R : St → Hp → Prop} (h : ∀ j : Int, j = i → R (a0 :: a1 :: a2 :: a3 :: a4 :: a5 :: a6 :: a7 :: a8 :: a9 :: a10 :: a11 :: a12 :: a13 :: a14 :: a15 :: a16 :: a17 :: a18 :: a19 :: some (V.int j) :: r) H) : gName 20 (V.int i) (a0 :: a1 :: a2 :: a3 :: a4 :: a5 :: a6 :: a7 :: a8 :: a9 :: a10 :: a11 :: a12 :: a13 :: a14 :: a15 :: a16 :: a17 :: a18 :: a19 :: z :: r) H R := h i rfl
theorem nB20 {a0 a1 a2 a3 a4 a5 a6 a7 a8 a9 a10 a11 a12 a13 a14 a15 a16 a17 a18 a19 z : Option V} {r : St} {i : Bool} {H : Hp} {R : St → Hp → Prop} (h : ∀ j : Bool, j = i → R (a0 :: a1 :: a2 :: a3 :: a4 :: a5 :: a6 :: a7 :: a8 :: a9 :: a10 :: a11 :: a12 :: a13 :: a14 :: a15 :: a16 :: a17 :: a18 :: a19 :: some (V.bl j) :: r) H) : gName 20 (V.bl i) (a0 :: a1 :: a2 :: a3 :: a4 :: a5 :: a6 :: a7 :: a8 :: a9 :: a10 :: a11 :: a12 :: a13 :: a14 :: a15 :: a16 :: a17 :: a18 :: a19 :: z :: r) H R := h i rfl
theorem nS20 {a0 a1 a2 a3 a4 a5 a6 a7 a8 a9 a10 a11 a12 a13 a14 a15 a16 a17 a18 a19 z : Option V} {r : St} {i : Str} {H : Hp} {R : St → Hp → Prop} (h : ∀ j : Str, j = i → R (a0 :: a1 :: a2 :: a3 :: a4 :: a5 :: a6 :: a7 :: a8 :: a9 :: a10 :: a11 :: a12 :: a13 :: a14 :: a15 :: a16 :: a17 :: a18 :: a19 :: some (V.str j) :: r) H) : gName 20 (V.str i) (a0 :: a1 :: a2 :: a3 :: a4 :: a5 :: a6 :: a7 :: a8 :: a9 :: a10 :: a11 :: a12 :: a13 :: a14 :: a15 :: a16 :: a17 :: a18 :: a19 :: z :: r) H R := h i rfl
theorem nI21 {a0 a1 a2 a3 a4 a5 a6 a7 a8 a9 a10 a11 a12 a13 a14 a15 a16 a17 a18 a19 a20 z : Option V} {r : St} {i : Int} {H : Hp} {R : St → Hp → Prop} (h : ∀ j : Int, j = i → R (a0 :: a1 :: a2 :: a3 :: a4 :: a5 :: a6 :: a7 :: a8 :: a9 :: a10 :: a11 :: a12 :: a13 :: a14 :: a15 :: a16 :: a17 :: a18 :: a19 :: a20 :: some (V.int j) :: r) H) : gName 21 (V.int i) (a0 :: a1 :: a2 :: a3 :: a4 :: a5 :: a6 :: a7 :: a8 :: a9 :: a10 :: a11 :: a12 :: a13 :: a14 :: a15 :: a16 :: a17 :: a18 :: a19 :: a20 :: z :: r) H R := h i rfl
theorem nB21 {a0 a1 a2 a3 a4 a5 a6 a7 a8 a9 a10 a11 a12 a13 a14 a15 a16 a17 a18 a19 a20 z : Option V} {r : St} {i : Bool} {H : Hp} {R : St → Hp → Prop} (h : ∀ j : Bool, j = i → R (a0 :: a1 :: a2 :: a3 :: a4 :: a5 :: a6 :: a7 :: a8 :: a9 :: a10 :: a11 :: a12 :: a13 :: a14 :: a15 :: a16 :: a17 :: a18 :: a19 :: a20 :: some (V.bl j) :: r) H) : gName 21 (V.bl i) (a0 :: a1 :: a2 :: a3 :: a4 :: a5 :: a6 :: a7 :: a8 :: a9 :: a10 :: a11 :: a12 :: a13 :: a14 :: a15 :: a16 :: a17 :: a18 :: a19 :: a20 :: z :: r) H R := h i rfl
theorem nS21 {a0 a1 a2 a3 a4 a5 a6 a7 a8 a9 a10 a11 a12 a13 a14 a15 a16 a17 a18 a19 a20 z : Option V} {r : St} {i : Str} {H : Hp} {R : St → Hp → Prop} (h : ∀ j : Str, j = i → R (a0 :: a1 :: a2 :: a3 :: a4 :: a5 :: a6 :: a7 :: a8 :: a9 :: a10 :: a11 :: a12 :: a13 :: a14 :: a15 :: a16 :: a17 :: a18 :: a19 :: a20 :: some (V.str j) :: r) H) : gName 21 (V.str i) (a0 :: a1 :: a2 :: a3 :: a4 :: a5 :: a6 :: a7 :: a8 :: a9 :: a10 :: a11 :: a12 :: a13 :: a14 :: a15 :: a16 :: a17 :: a18 :: a19 :: a20 :: z :: r) H R := h i rfl
theorem nI22 {a0 a1 a2 a3 a4 a5 a6 a7 a8 a9 a10 a11 a12 a13 a14 a15 a16 a17 a18 a19 a20 a21 z : Option V} {r : St} {i : Int} {H : Hp} {R : St → Hp → Prop} (h : ∀ j : Int, j = i → R (a0 :: a1 :: a2 :: a3 :: a4 :: a5 :: a6 :: a7 :: a8 :: a9 :: a10 :: a11 :: a12 :: a13 :: a14 :: a15 :: a16 :: a17 :: a18 :: a19 :: a20 :: a21 :: some (V.int j) :: r) H) : gName 22 (V.int i) (a0 :: a1 :: a2 :: a3 :: a4 :: a5 :: a6 :: a7 :: a8 :: a9 :: a10 :: a11 :: a12 :: a13 :: a14 :: a15 :: a16 :: a17 :: a18 :: a19 :: a20 :: a21 :: z :: r) H R := h i rfl
theorem nB22 {a0 a1 a2 a3 a4 a5 a6 a7 a8 a9 a10 a11 a12 a13 a14 a15 a16 a17 a18 a19 a20 a21 z : Option V} {r : St} {i : Bool} {H : Hp} {R : St → Hp → Prop} (h : ∀ j : Bool, j = i → R (a0 :: a1 :: a2 :: a3 :: a4 :: a5 :: a6 :: a7 :: a8 :: a9 :: a10 :: a11 :: a12 :: a13 :: a14 :: a15 :: a16 :: a17 :: a18 :: a19 :: a20 :: a21 :: some (V.bl j) :: r) H) : gName 22 (V.bl i) (a0 :: a1 :: a2 :: a3 :: a4 :: a5 :: a6 :: a7 :: a8 :: a9 :: a10 :: a11 :: a12 :: a13 :: a14 :: a15 :: a16 :: a17 :: a18 :: a19 :: a20 :: a21 :: z :: r) H R := h i rfl
theorem nS22 {a0 a1 a2 a3 a4 a5 a6 a7 a8 a9 a10 a11 a12 a13 a14 a15 a16 a17 a18 a19 a20 a21 z : Option V} {r : St} {i : Str} {H : Hp} {R : St → Hp → Prop} (h : ∀ j : Str, j = i → R (a0 :: a1 :: a2 :: a3 :: a4 :: a5 :: a6 :: a7 :: a8 :: a9 :: a10 :: a11 :: a12 :: a13 :: a14 :: a15 :: a16 :: a17 :: a18 :: a19 :: a20 :: a21 :: some (V.str j) :: r) H) : gName 22 (V.str i) (a0 :: a1 :: a2 :: a3 :: a4 :: a5 :: a6 :: a7 :: a8 :: a9 :: a10 :: a11 :: a12 :: a13 :: a14 :: a15 :: a16 :: a17 :: a18 :: a19 :: a20 :: a21 :: z :: r) H R := h i rfl
theorem nI23 {a0 a1 a2 a3 a4 a5 a6 a7 a8 a9 a10 a11 a12 a13 a14 a15 a16 a17 a18 a19 a20 a21 a22 z : Option V} {r : St} {i : Int} {H : Hp} {R : St → Hp → Prop} (h : ∀ j : Int, j = i → R (a0 :: a1 :: a2 :: a3 :: a4 :: a5 :: a6 :: a7 :: a8 :: a9 :: a10 :: a11 :: a12 :: a13 :: a14 :: a15 :: a16 :: a17 :: a18 :: a19 :: a20 :: a21 :: a22 :: some (V.int j) :: r) H) : gName 23 (V.int i) (a0 :: a1 :: a2 :: a3 :: a4 :: a5 :: a6 :: a7 :: a8 :: a9 :: a10 :: a11 :: a12 :: a13 :: a14 :: a15 :: a16 :: a17 :: a18 :: a19 :: a20 :: a21 :: a22 :: z :: r) H R := h i rfl
theorem nB23 {a0 a1 a2 a3 a4 a5 a6 a7 a8 a9 a10 a11 a12 a13 a14 a15 a16 a17 a18 a19 a20 a21 a22 z : Option V} {r : St} {i : Bool} {H : Hp} {R : St → Hp → Prop} (h : ∀ j : Bool, j = i → R (a0 :: a1 :: a2 :: a3 :: a4 :: a5 :: a6 :: a7 :: a8 :: a9 :: a10 :: a11 :: a12 :: a13 :: a14 :: a15 :: a16 :: a17 :: a18 :: a19 :: a20 :: a21 :: a22 :: some (V.bl j) :: r) H) : gName 23 (V.bl i) (a0 :: a1 :: a2 :: a3 :: a4 :: a5 :: a6 :: a7 :: a8 :: a9 :: a10 :: a11 :: a12 :: a13 :: a14 :: a15 :: a16 :: a17 :: a18 :: a19 :: a20 :: a21 :: a22 :: z :: r) H R := h i rfl
theorem nS23 {a0 a1 a2 a3 a4 a5 a6 a7 a8 a9 a10 a11 a12 a13 a14 a15 a16 a17 a18 a19 a20 a21 a22 z : Option V} {r : St} {i : Str} {H : Hp} {R : St → Hp → Prop} (h : ∀ j : Str, j = i → R (a0 :: a1 :: a2 :: a3 :: a4 :: a5 :: a6 :: a7 :: a8 :: a9 :: a10 :: a11 :: a12 :: a13 :: a14 :: a15 :: a16 :: a17 :: a18 :: a19 :: a20 :: a21 :: a22 :: some (V.str j) :: r) H) : gName 23 (V.str i) (a0 :: a1 :: a2 :: a3 :: a4 :: a5 :: a6 :: a7 :: a8 :: a9 :: a10 :: a11 :: a12 :: a13 :: a14 :: a15 :: a16 :: a17 :: a18 :: a19 :: a20 :: a21 :: a22 :: z :: r) H R := h i rfl
theorem nI24 {a0 a1 a2 a3 a4 a5 a6 a7 a8 a9 a10 a11 a12 a13 a14 a15 a16 a17 a18 a19 a20 a21 a22 a23 z : Option V} {r : St} {i : Int} {H : Hp} {R : St → Hp → Prop} (h : ∀ j : Int, j = i → R (a0 :: a1 :: a2 :: a3 :: a4 :: a5 :: a6 :: a7 :: a8 :: a9 :: a10 :: a11 :: a12 :: a13 :: a14 :: a15 :: a16 :: a17 :: a18 :: a19 :: a20 :: a21 :: a22 :: a23 :: some (V.int j) :: r) H) : gName 24 (V.int i) (a0 :: a1 :: a2 :: a3 :: a4 :: a5 :: a6 :: a7 :: a8 :: a9 :: a10 :: a11 :: a12 :: a13 :: a14 :: a15 :: a16 :: a17 :: a18 :: a19 :: a20 :: a21 :: a22 :: a23 :: z :: r) H R := h i rfl
theorem nB24 {a0 a1 a2 a3 a4 a5 a6 a7 a8 a9 a10 a11 a12 a13 a14 a15 a16 a17 a18 a19 a20 a21 a22 a23 z : Option V} {r : St} {i : Bool} {H : Hp} {R : St → Hp → Prop} (h : ∀ j : Bool, j = i → R (a0 :: a1 :: a2 :: a3 :: a4 :: a5 :: a6 :: a7 :: a8 :: a9 :: a10 :: a11 :: a12 :: a13 :: a14 :: a15 :: a16 :: a17 :: a18 :: a19 :: a20 :: a21 :: a22 :: a23 :: some (V.bl j) :: r) H) : gName 24 (V.bl i) (a0 :: a1 :: a2 :: a3 :: a4 :: a5 :: a6 :: a7 :: a8 :: a9 :: a10 :: a11 :: a12 :: a13 :: a14 :: a15 :: a16 :: a17 :: a18 :: a19 :: a20 :: a21 :: a22 :: a23 :: z :: r) H R := h i rfl
theorem nS24 {a0 a1 a2 a3 a4 a5 a6 a7 a8 a9 a10 a11 a12 a13 a14 a15 a16 a17 a18 a19 a20 a21 a22 a23 z : Option V} {r : St} {i : Str} {H : Hp} {R : St → Hp → Prop} (h : ∀ j : Str, j = i → R (a0 :: a1 :: a2 :: a3 :: a4 :: a5 :: a6 :: a7 :: a8 :: a9 :: a10 :: a11 :: a12 :: a13 :: a14 :: a15 :: a16 :: a17 :: a18 :: a19 :: a20 :: a21 :: a22 :: a23 :: some (V.str j) :: r) H) : gName 24 (V.str i) (a0 :: a1 :: a2 :: a3 :: a4 :: a5 :: a6 :: a7 :: a8 :: a9 :: a10 :: a11 :: a12 :: a13 :: a14 :: a15 :: a16 :: a17 :: a18 :: a19 :: a20 :: a21 :: a22 :: a23 :: z :: r) H R := h i rfl
theorem nI25 {a0 a1 a2 a3 a4 a5 a6 a7 a8 a9 a10 a11 a12 a13 a14 a15 a16 a17 a18 a19 a20 a21 a22 a23 a24 z : Option V} {r : St} {i : Int} {H : Hp} {R : St → Hp → Prop} (h : ∀ j : Int, j = i → R (a0 :: a1 :: a2 :: a3 :: a4 :: a5 :: a6 :: a7 :: a8 :: a9 :: a10 :: a11 :: a12 :: a13 :: a14 :: a15 :: a16 :: a17 :: a18 :: a19 :: a20 :: a21 :: a22 :: a23 :: a24 :: some (V.int j) :: r) H) : gName 25 (V.int i) (a0 :: a1 :: a2 :: a3 :: a4 :: a5 :: a6 :: a7 :: a8 :: a9 :: a10 :: a11 :: a12 :: a13 :: a14 :: a15 :: a16 :: a17 :: a18 :: a19 :: a20 :: a21 :: a22 :: a23 :: a24 :: z :: r) H R := h i rfl
theorem nB25 {a0 a1 a2 a3 a4 a5 a6 a7 a8 a9 a10 a11 a12 a13 a14 a15 a16 a17 a18 a19 a20 a21 a22 a23 a24 z : Option V} {r : St} {i : Bool} {H : Hp} {R : St → Hp → Prop} (h : ∀ j : Bool, j = i → R (a0 :: a1 :: a2 :: a3 :: a4 :: a5 :: a6 :: a7 :: a8 :: a9 :: a10 :: a11 :: a12 :: a13 :: a14 :: a15 :: a16 :: a17 :: a18 :: a19 :: a20 :: a21 :: a22 :: a23 :: a24 :: some (V.bl j) :: r) H) : gName 25 (V.bl i) (a0 :: a1 :: a2 :: a3 :: a4 :: a5 :: a6 :: a7 :: a8 :: a9 :: a10 :: a11 :: a12 :: a13 :: a14 :: a15 :: a16 :: a17 :: a18 :: a19 :: a20 :: a21 :: a22 :: a23 :: a24 :: z :: r) H R := h i rfl
theorem nS25 {a0 a1 a2 a3 a4 a5 a6 a7 a8 a9 a10 a11 a12 a13 a14 a15 a16 a17 a18 a19 a20 a21 a22 a23 a24 z : Option V} {r : St} {i : Str} {H : Hp} {R : St → Hp → Prop} (h : ∀ j : Str, j = i → R (a0 :: a1 :: a2 :: a3 :: a4 :: a5 :: a6 :: a7 :: a8 :: a9 :: a10 :: a11 :: a12 :: a13 :: a14 :: a15 :: a16 :: a17 :: a18 :: a19 :: a20 :: a21 :: a22 :: a23 :: a24 :: some (V.str j) :: r) H) : gName 25 (V.str i) (a0 :: a1 :: a2 :: a3 :: a4 :: a5 :: a6 :: a7 :: a8 :: a9 :: a10 :: a11 :: a12 :: a13 :: a14 :: a15 :: a16 :: a17 :: a18 :: a19 :: a20 :: a21 :: a22 :: a23 :: a24 :: z :: r) H R := h i rfl

theorem at_str {l : List Str} {i : Nat} {y : V} (h : (l.map V.str)[i]? = some y) : ∃ m, m ∈ l ∧ y = V.str m := by
  rw [List.getElem?_map] at h
  cases e : l[i]? with
  | none => rw [e] at h; cases h
  | some m => rw [e] at h; exact ⟨m, List.mem_of_getElem? e, (Option.some.inj h).symm⟩
theorem at_int {l : List Int} {i : Nat} {y : V} (h : (l.map V.int)[i]? = some y) : ∃ m, m ∈ l ∧ y = V.int m := by
  rw [List.getElem?_map] at h
  cases e : l[i]? with
  | none => rw [e] at h; cases h
  | some m => rw [e] at h; exact ⟨m, List.mem_of_getElem? e, (Option.some.inj h).symm⟩
section
variable {X : Cx}
theorem opr_imp {f : Value → Value → Sem Value} {r r' : R2} (h : OpR X f r) (w : ∀ x y H Q, r' x y H Q → r x y H Q) : OpR X f r' := fun pins s σ H x y u v Q I rx ry q => h pins s σ H x y u v Q I rx ry (w _ _ _ _ q)
theorem dec_int (i j : Int) : decide (V.int i = V.int j) = decide (i = j) := by
  by_cases e : i = j
  · rw [e]; simp
  · rw [decide_eq_false e, decide_eq_false (fun q => e (V.int.inj q))]
theorem dec_str (i j : Str) : decide (V.str i = V.str j) = decide (i = j) := by
  by_cases e : i = j
  · rw [e]; simp
  · rw [decide_eq_false e, decide_eq_false (fun q => e (V.str.inj q))]
theorem dec_bl (i j : Bool) : decide (V.bl i = V.bl j) = decide (i = j) := by
  by_cases e : i = j
  · rw [e]; simp
  · rw [decide_eq_false e, decide_eq_false (fun q => e (V.bl.inj q))]
theorem op_eqI : OpR X (compareOp .Eq) (rI0 fun i j => .bl (decide (i = j))) := opr_imp op_eq fun x y H Q ⟨i, j, e1, e2, q⟩ => by
  subst e1; subst e2; exact ⟨rfl, by rw [dec_int]; exact q⟩
theorem op_neI : OpR X (compareOp .NotEq) (rI0 fun i j => .bl (!decide (i = j))) := opr_imp op_ne fun x y H Q ⟨i, j, e1, e2, q⟩ => by
  subst e1; subst e2; exact ⟨rfl, by rw [dec_int]; exact q⟩
def rS0 (f : Str → Str → V) : R2 := fun x y H Q => ∃ i j, x = .str i ∧ y = .str j ∧ Q (f i j) H
def rB0 (f : Bool → Bool → V) : R2 := fun x y H Q => ∃ i j, x = .bl i ∧ y = .bl j ∧ Q (f i j) H
theorem op_eqS : OpR X (compareOp .Eq) (rS0 fun i j => .bl (decide (i = j))) := opr_imp op_eq fun x y H Q ⟨i, j, e1, e2, q⟩ => by
  subst e1; subst e2; exact ⟨rfl, by rw [dec_str]; exact q⟩
theorem op_neS : OpR X (compareOp .NotEq) (rS0 fun i j => .bl (!decide (i = j))) := opr_imp op_ne fun x y H Q ⟨i, j, e1, e2, q⟩ => by
  subst e1; subst e2; exact ⟨rfl, by rw [dec_str]; exact q⟩
theorem op_eqB : OpR X (compareOp .Eq) (rB0 fun i j => .bl (decide (i = j))) := opr_imp op_eq fun x y H Q ⟨i, j, e1, e2, q⟩ => by
  subst e1; subst e2; exact ⟨rfl, by rw [dec_bl]; exact q⟩
theorem op_neB : OpR X (compareOp .NotEq) (rB0 fun i j => .bl (!decide (i = j))) := opr_imp op_ne fun x y H Q ⟨i, j, e1, e2, q⟩ => by
  subst e1; subst e2; exact ⟨rfl, by rw [dec_bl]; exact q⟩
theorem i_S0 {f : Str → Str → V} {i j : Str} {H : Hp} {Q : VK} (h : Q (f i j) H) : rS0 f (.str i) (.str j) H Q := ⟨i, j, rfl, rfl, h⟩
theorem i_B0 {f : Bool → Bool → V} {i j : Bool} {H : Hp} {Q : VK} (h : Q (f i j) H) : rB0 f (.bl i) (.bl j) H Q := ⟨i, j, rfl, rfl, h⟩
def rInt1 : List V → Hp → VK → Prop := fun xs H Q => ∃ i, xs = [.int i] ∧ Q (.int i) H
theorem call_intI : CallR X (.type "int") rInt1 := fun pins s σ H xs us Q I r ⟨i, e, q⟩ => call_int1 pins s σ H xs us Q I r (.inl ⟨i, e, q⟩)
theorem i_int {i : Int} {H : Hp} {Q : VK} (h : Q (.int i) H) : rInt1 [.int i] H Q := ⟨i, rfl, h⟩
def rIntB : List V → Hp → VK → Prop := fun xs H Q => ∃ k : Bool, xs = [.bl k] ∧ Q (.int (if k then 1 else 0)) H
theorem call_intB : CallR X (.type "int") rIntB := fun pins s σ H xs us Q I r ⟨i, e, q⟩ => call_int1 pins s σ H xs us Q I r (.inr ⟨i, e, q⟩)
theorem i_intB {k : Bool} {H : Hp} {Q : VK} (h : Q (.int (if k then 1 else 0)) H) : rIntB [.bl k] H Q := ⟨k, rfl, h⟩
def rAbs : List V → Hp → VK → Prop := fun xs H Q => ∃ i, xs = [.int i] ∧ Q (.int (if i < 0 then -i else i)) H
theorem call_absI : CallR X (.builtin "abs") rAbs := call_abs
theorem i_abs {i : Int} {H : Hp} {Q : VK} (h : Q (.int (if i < 0 then -i else i)) H) : rAbs [.int i] H Q := ⟨i, rfl, h⟩
def rLenS (K : PySem.W.Frag) : List V → Hp → VK → Prop := fun xs H Q => ∃ p ys, xs = [.ref p] ∧ (SqL K H p ys ∨ SqT K H p ys) ∧ Q (.int ys.length) H
theorem call_lenS : CallR X (.builtin "len") (rLenS X.K) := call_len_seq
theorem i_lenL {K : PySem.W.Frag} {p : Addr} {ys : List V} {H : Hp} {Q : VK} (hx : SqL K H p ys) (h : Q (.int ys.length) H) : rLenS K [.ref p] H Q := ⟨p, ys, rfl, .inl hx, h⟩
theorem i_lenT {K : PySem.W.Frag} {p : Addr} {ys : List V} {H : Hp} {Q : VK} (hx : SqT K H p ys) (h : Q (.int ys.length) H) : rLenS K [.ref p] H Q := ⟨p, ys, rfl, .inr hx, h⟩
def rDm : List V → Hp → VK → Prop := fun xs H Q => ∃ i j, xs = [.int i, .int j] ∧ CDivP i j ∧ ∀ p, H p = none → Q (.ref p) (upd H p (.tup [.int (i / j), .int (i % j)]))
theorem call_dm : CallR X (.builtin "divmod") rDm := call_divmodW
theorem i_dm {i j : Int} {H : Hp} {Q : VK} (c : CDivP i j) (h : ∀ p H2, H p = none → Same H H2 → H2 p = some (.tup [.int (i / j), .int (i % j)]) → Q (.ref p) H2) : rDm [.int i, .int j] H Q :=
  ⟨i, j, rfl, c, fun p hp => h p _ hp (same_new hp) upd_same⟩
theorem i_setL {l : Addr} {xs : List V} {i : Int} {j : Nat} {v : V} {H : Hp} {R : Hp → Prop} (hl : H l = some (.lst xs)) (hj : ixN xs.length i = some j) (h : ∀ H2, H2 l = some (.lst (xs.set j v)) → (∀ b, b ≠ l → H2 b = H b) → R H2) : rSetL (.ref l) (.int i) v H R := by
  unfold rSetL
  exact ⟨l, xs, i, j, rfl, rfl, hl, hj, h _ upd_same fun b hb => upd_ne hb⟩
theorem i_iteNB {a : Bool} {A B : Prop} (h1 : a = false → A) (h2 : a = true → B) : if (!a) = true then A else B := by
  cases a
  · rw [if_pos (by decide)]; exact h1 rfl
  · rw [if_neg (by decide)]; exact h2 rfl
theorem chr_inj : ∀ {l k : List Char}, l.map Char.toNat = k.map Char.toNat → l = k
  | [], [], _ => rfl
  | [], _ :: _, h => by simp at h
  | _ :: _, [], h => by simp at h
  | a :: l, b :: k, h => by
    rw [List.map_cons, List.map_cons] at h
    injection h with h1 h2
    have e : a = b := Char.ext (UInt32.toNat.inj h1)
    rw [e, chr_inj h2]
@[simp] theorem str_inj {a b : String} : (Str.ofString a = Str.ofString b) = (a = b) := by
  refine propext ⟨fun h => ?_, fun h => by rw [h]⟩
  rw [Str.ofString_eq_toList, Str.ofString_eq_toList] at h
  injection h with h
  have q := congrArg Array.toList h
  exact String.toList_inj.mp (chr_inj (by simpa using q))
theorem Sz.of {n : Nat} {i : Int} (h0 : 0 ≤ i) (h1 : i < 2 ^ n) : Sz n i := by
  unfold Sz
  have : ((2 ^ n : Nat) : Int) = 2 ^ n := by simp
  omega
theorem Sz.sm {n : Nat} {i : Int} (h0 : -1024 < i) (h1 : i < 1024) (hn : 10 ≤ n) : Sz n i := Sz.mono (n := 10) (by unfold Sz; omega) hn
theorem Sz.zero {n : Nat} : Sz n 0 := by unfold Sz; exact Nat.lt_of_lt_of_le (by decide) (Nat.one_le_two_pow)
def isNon : V → Bool
  | .non => true
  | _ => false
theorem dec_non (x : V) : decide (x = .non) = isNon x := by cases x <;> rfl
def rIsN_ (neg : Bool) : R2 := fun x y H Q => y = .non ∧ Q (.bl (if neg then !isNon x else isNon x)) H
theorem op_isN_ {X : Cx} : OpR X (compareOp .Is) (rIsN_ false) := opr_imp op_isN fun x y H Q h => ⟨h.1, by rw [dec_non]; exact h.2⟩
theorem op_notN_ {X : Cx} : OpR X (compareOp .IsNot) (rIsN_ true) := opr_imp op_notN fun x y H Q h => ⟨h.1, by rw [dec_non]; exact h.2⟩
theorem i_isN {neg b : Bool} {x : V} {H : Hp} {Q : VK} (e : (if neg then !isNon x else isNon x) = b) (h : Q (.bl b) H) : rIsN_ neg x .non H Q := ⟨rfl, by rw [e]; exact h⟩
section
variable {H : Hp} {Q : VK} {P : Prop} [Decidable P] {b : Bool}
theorem i_decT (p : P) (h : Q (.bl true) H) : Q (.bl (decide P)) H := by rw [decide_eq_true p]; exact h
theorem i_decF (p : ¬ P) (h : Q (.bl false) H) : Q (.bl (decide P)) H := by rw [decide_eq_false p]; exact h
theorem i_ndecT (p : ¬ P) (h : Q (.bl true) H) : Q (.bl (!decide P)) H := by rw [decide_eq_false p]; exact h
theorem i_ndecF (p : P) (h : Q (.bl false) H) : Q (.bl (!decide P)) H := by rw [decide_eq_true p]; exact h
theorem i_varT (p : b = true) (h : Q (.bl true) H) : Q (.bl b) H := by rw [p]; exact h
theorem i_varF (p : b = false) (h : Q (.bl false) H) : Q (.bl b) H := by rw [p]; exact h
theorem i_ntF (h : Q (.bl false) H) : Q (.bl (!true)) H := h
theorem i_nfT (h : Q (.bl true) H) : Q (.bl (!false)) H := h
end
theorem pnc {X : Cx} {N0 : List Str} {x : Str} {pos : Pos} (hv : visB N0 X.env.scope = true) (i : Nat) (hN : X.N[i]? = some x := by rfl) (h0 : N0[i]? = some x := by rfl) : PE X (.Name x pos) (tVar i) :=
  let q := vis_of hv h0
  pe_var hN q.1 q.2.1 q.2.2
theorem take_succ {α : Type} : ∀ {l : List α} {i : Nat} {x : α}, l[i]? = some x → l.take (i + 1) = l.take i ++ [x] := fun {l i x} h => by
  rw [List.take_add_one, h]; rfl
theorem same_up {H H' : Hp} {p : Addr} {o : HO} (hp : H p = none) (e : ∀ b u, H b = some u → H' b = some u) : ∀ b u, H b = some u → upd H' p o b = some u := fun b u h => by
  rw [upd_ne (ne_of_none h hp)]; exact e b u h
theorem i_lc {wi : TI} {g : TG} {tt : TT} {te : TE} {vs : List Nat} {σ : St} {H : Hp} {Q : VK} (h : wi σ H fun J H1 => ∀ D, H1 D = none → ∃ W : Nat → Nat → Hp → Prop, (∃ m, W 0 m (upd H1 D (.lst []))) ∧ ∀ i m H, W i m H →
      (J.stop i H ∧ Q (.ref D) H) ∨ (J.go i H ∧ ∃ Nx : Hp → Prop, (∀ H', Nx H' → ∃ m', m' < m ∧ W (i + 1) m' H') ∧ ∀ x H', J.yld i H x H' → g x (wipe σ vs) H' fun σ2 H2 => wipe σ2 vs = wipe σ vs ∧ tt σ2 H2 fun b H3 =>
        if b = true then te σ2 H3 fun y H4 => ∃ acc, H4 D = some (.lst acc) ∧ acc.length < sizeLine ∧ Nx (upd H4 D (.lst (acc ++ [y]))) else Nx H3)) : tLc wi g tt te vs σ H Q := h
theorem i_lcL {K : PySem.W.Frag} {p : Addr} {xs : List V} {H : Hp} {F : Addr → Prop} (hx : SqL K H p xs) (h : F p) : ∃ a, V.ref p = .ref a ∧ (∃ xs, SqL K H a xs) ∧ F a := ⟨p, rfl, ⟨xs, hx⟩, h⟩
theorem i_lcw {σ2 σ3 : St} {H : Hp} {te : TE} {A : Hp → Prop} {F : VK} (h : te σ2 H F) : σ3 = σ3 ∧ tYes σ2 H fun b H3 => if b = true then te σ2 H3 F else A H3 := ⟨rfl, by show (if true = true then te σ2 H F else A H); rw [if_pos rfl]; exact h⟩
theorem i_bm {K : PySem.W.Frag} {T : String} {r : V → List V → Hp → VK → Prop} {to : TE} {t : TA} {σ : St} {H : Hp} {Q : VK} (h : to σ H fun x H1 => tyV K T x H1 ∧ t σ H1 fun xs H2 => r x xs H2 Q) : tBM K T r to t σ H Q := h
theorem i_bm0 {K : PySem.W.Frag} {T : String} {r : V → List V → Hp → VK → Prop} {to : TE} {σ : St} {H : Hp} {Q : VK} (h : to σ H fun x H1 => tyV K T x H1 ∧ r x [] H1 Q) : tBM0 K T r to σ H Q := h
theorem i_tyL {K : PySem.W.Frag} {p : Addr} {xs : List V} {H : Hp} {A : Prop} (hx : SqL K H p xs) (h : A) : tyV K "list" (.ref p) H ∧ A := ⟨.inl ⟨rfl, _, hx⟩, h⟩
theorem i_tyS {K : PySem.W.Frag} {z : Str} {H : Hp} {A : Prop} (h : A) : tyV K "str" (.str z) H ∧ A := ⟨rfl, h⟩
theorem i_index {K : PySem.W.Frag} {p : Addr} {ys : List V} {y z : V} {j : Nat} {H : Hp} {Q : VK} (hx : SqL K H p ys) (fy : flatV y = true) (fa : ys.all flatV = true) (e : ys[j]? = some z) (q : eqV z y = true)
    (n : ∀ (m : Nat) (z' : V), m < j → ys[m]? = some z' → eqV z' y = false) (h : Q (.int (j : Nat)) H) : rIndex K (.ref p) [y] H Q := ⟨p, ys, y, j, z, rfl, rfl, hx, fy, fa, e, q, n, h⟩
/-- d.get(k, x) of a table of the top with text keys -/
def tKGet (K : PySem.W.Frag) (w : World) (td ty tx : TE) : TE := fun σ H Q => td σ H fun x H1 => ∃ p es n, x = .ref p ∧ KDict K w p es n ∧ ty σ H1 fun y H2 => tx σ H2 fun z H3 => ∃ (k : Str) (r : Option Value) (v : V), y = .str k ∧ PySem.W.nsIn K p k = some r ∧ (match r with | none => v = z | some u => RelV v u) ∧ Q v H3
theorem i_kget {K : PySem.W.Frag} {w : World} {td ty tx : TE} {σ : St} {H : Hp} {Q : VK} (h : td σ H fun x H1 => ∃ p es n, x = .ref p ∧ KDict K w p es n ∧ ty σ H1 fun y H2 => tx σ H2 fun z H3 => ∃ (k : Str) (r : Option Value) (v : V), y = .str k ∧ PySem.W.nsIn K p k = some r ∧ (match r with | none => v = z | some u => RelV v u) ∧ Q v H3) : tKGet K w td ty tx σ H Q := h
theorem i_kd {K : PySem.W.Frag} {w : World} {p : Addr} {F : Addr → Prop} (d : ∃ es n, KDict K w p es n) (h : F p) : ∃ p' es n, V.ref p = .ref p' ∧ KDict K w p' es n ∧ F p' := by
  obtain ⟨es, n, d⟩ := d
  exact ⟨p, es, n, rfl, d, h⟩
theorem i_kv {K : PySem.W.Frag} {p : Addr} {k : Str} {v z : V} {H : Hp} {Q : VK} (d : ∃ r, PySem.W.nsIn K p k = some r ∧ (match r with | none => v = z | some u => RelV v u)) (h : Q v H) :
    ∃ (k' : Str) (r : Option Value) (v' : V), V.str k = .str k' ∧ PySem.W.nsIn K p k' = some r ∧ (match r with | none => v' = z | some u => RelV v' u) ∧ Q v' H := by
  obtain ⟨r, e, m⟩ := d
  exact ⟨k, r, v, rfl, e, m, h⟩
theorem pe_kget {X : Cx} {o e f : Expr} {apos cpos : Pos} {td ty tx : TE} (ho : PE X o td) (he : PE X e ty) (hf : PE X f tx) (m : M2 X o "get" apos e f cpos) : PE X (.Call (.Attribute o "get" apos) [e, f] [] cpos) (tKGet X.K X.w td ty tx) := by
  refine ⟨fun pins s σ H Q I h => ?_⟩
  refine wpAny_Call_method m.base m.few m.line PySem.F.plainAttrs_dict PySem.F.slot_dict_get PySem.F.type_dict_get (thn (ho.run pins s σ H _ I h) fun u s1 hh => ?_)
  obtain ⟨x, H1, I1, rx, p, es, n, ex, d, q1⟩ := hh
  subst ex
  obtain rfl : u = Value.ref p := rx
  refine ⟨kd_type d I1, fun a ea => ⟨_, (by cases ea; exact I1.kIn _ _ d.at_), rfl⟩, ?_⟩
  rw [m.trees]
  refine Calls.callWith_builtin rfl (Calls.evalArgs_plain (Calls.spliced_cons (thn (he.run pins s1 σ H1 _ I1 q1) fun iv s2 hh2 => ?_)))
  obtain ⟨y, H2, I2, ry, q2⟩ := hh2
  refine Calls.spliced_cons (thn (hf.run pins s2 σ H2 _ I2 q2) fun fv s3 hh3 => Calls.spliced_nil ?_)
  obtain ⟨z, H3, I3, rz, k, r, v, ek, en, em, q3⟩ := hh3
  subst ek
  obtain ⟨t, rfl⟩ := ry
  refine call_meetsIn PySem.F.slot_dict_get (kd_type d I3) PySem.F.entry_dict_get (PySem.F.args_dict_get_3 _ _ _) (meets_dict_get_default (strKind X.prog X.w) p (strKind_is X.prog X.w k t) d.low fv) ⟨_, PySem.W.mapOf_K (prog := X.prog) I3.kIn d.at_ d.lit, ?_⟩
  rw [PySem.W.find_K d.at_ en]
  cases r with
  | none => 
    have e1 : v = z := em
    subst e1
    exact ⟨_, H3, I3.tok _, rz, q3⟩
  | some u => exact ⟨_, H3, I3.tok _, em, q3⟩
theorem i_cat {a b : Addr} {xs ys : List V} {H : Hp} {Q : VK} (ha : H a = some (.lst xs)) (hb : H b = some (.lst ys)) (l1 : xs.length ≤ 1000000) (l2 : ys.length ≤ 1000000)
    (h : ∀ p H2, H p = none → Same H H2 → H2 p = some (.lst (xs ++ ys)) → Q (.ref p) H2) : rCat (.ref a) (.ref b) H Q :=
  ⟨a, b, xs, ys, rfl, rfl, ha, hb, Nat.le_trans (Nat.add_le_add l1 l2) (by decide), fun p hp => h p _ hp (same_new hp) upd_same⟩
theorem i_in {K : PySem.W.Frag} {x : V} {p : Addr} {xs : List V} {b : Bool} {H : Hp} {Q : VK} (hx : SqL K H p xs ∨ SqT K H p xs) (fx : flatV x = true) (fs : xs.all flatV = true) (e : inV x xs = b) (h : Q (.bl b) H) : rIn K false x (.ref p) H Q :=
  ⟨p, xs, rfl, hx, fx, fs, by rw [if_neg (by decide), e]; exact h⟩
theorem i_inN {K : PySem.W.Frag} {x : V} {p : Addr} {xs : List V} {b : Bool} {H : Hp} {Q : VK} (hx : SqL K H p xs ∨ SqT K H p xs) (fx : flatV x = true) (fs : xs.all flatV = true) (e : inV x xs = b) (h : Q (.bl (!b)) H) : rIn K true x (.ref p) H Q :=
  ⟨p, xs, rfl, hx, fx, fs, by rw [if_pos rfl, e]; exact h⟩
theorem i_gsub {to ti : TE} {t : TSet} {v : V} {σ : St} {H : Hp} {R : St → Hp → Prop} (h : to σ H fun o H1 => ti σ H1 fun i H2 => t o i v H2 fun H3 => R σ H3) : gSub to ti t v σ H R := h
theorem ext_set {H H2 : Hp} {a c : Addr} {i x y z i2 x2 y2 z2 : Int} (ha : H a = some (.lst [.int i, .int x, .int y, .int z, .ref c])) (w : ∀ b, b ≠ a → H2 b = H b) (hn : H2 a = some (.lst [.int i2, .int x2, .int y2, .int z2, .ref c])) : Ext H H2 := ⟨fun b o s e => by
  by_cases h : b = a
  · subst h
    rw [ha] at e
    cases e
    exact (s trivial).elim
  · rw [w b h]; exact e, fun b c i x y z e => by
  by_cases h : b = a
  · subst h
    rw [ha] at e
    cases e
    exact ⟨_, _, _, _, hn⟩
  · exact ⟨i, x, y, z, by rw [w b h]; exact e⟩⟩
theorem inV_str (m : Str) (ms : List Str) : inV (.str m) (ms.map V.str) = ms.contains m := by
  unfold inV
  rw [List.any_map]
  induction ms with
  | nil => rfl
  | cons a l ih =>
    rw [List.any_cons, List.contains_cons, ih]
    have e : eqV (V.str a) (V.str m) = (m == a) := by
      show (a == m) = (m == a)
      by_cases h : a = m
      · rw [h]
      · rw [beq_eq_false_iff_ne.mpr h, beq_eq_false_iff_ne.mpr (Ne.symm h)]
    show (eqV (V.str a) (V.str m) || _) = _
    rw [e]
theorem flat_str (ms : List Str) : (ms.map V.str).all flatV = true := by
  rw [List.all_map]
  exact List.all_eq_true.mpr fun _ _ => rfl
theorem at_map {α : Type} {f : α → V} {xs : List α} {i : Int} (h0 : 0 ≤ i) (h1 : i < xs.length) : ∃ x, x ∈ xs ∧ atI (xs.map f) i = some (f x) := by
  obtain ⟨n, rfl⟩ := Int.eq_ofNat_of_zero_le h0
  have hn : n < xs.length := by omega
  refine ⟨xs[n], List.getElem_mem hn, atI_nat ?_⟩
  rw [List.getElem?_map, List.getElem?_eq_getElem hn]
  rfl
variable {k : Nat} {f : Addr} {ps : List Str} {dvs : List V} {sp : Sp} {x : Str} {p pos : Pos} {e : Expr} {es : List Expr} {t : TA} {G : List Str}
theorem cxF {P : Program} {w : World} {l : List Env} {H : Hp} {s s' : Shared} {e : Value} (h : L2N.CX P w l H s EF e s') : False := by
  obtain ⟨_, _, _, _, _, _, _, _, _, _, _, _, q⟩ := h
  exact q
theorem fn0 {P : Program} {w : World} {K : PySem.W.Frag} {mg : Str → Option Value} {base : Heap} {k : Nat} {f : Addr} {fd : FuncData} {ps : List Str} {sp : Sp} (F : FnOk P w K mg base (L2N.CX P w) k f fd ps sp) (h : ∀ vs H Q E, sp vs H Q E → sp vs H Q EF) : FnOk P w K mg base CX0 k f fd ps sp :=
  ⟨F.len, fun A outer s H args us vs Q E hr he hb hv hs => codeAny_mono (F.run A outer s H args us vs Q EF hr he hb hv (h _ _ _ _ hs)) fun r s' hq => by
    cases r with
    | error e => exact (cxF hq).elim
    | ok fl => cases fl <;> exact hq⟩
theorem ex_at {l : List (PySem.W.Frag → Bool)} {K : PySem.W.Frag} (c : (l.all fun e => e K) = true) (i : Nat) {e : PySem.W.Frag → Bool} (h : l[i]? = some e := by rfl) : e K = true := List.all_eq_true.mp c e (List.mem_of_getElem? h)
theorem rel_eq {a b : Str} {u : Value} (e : a = b) (h : RelV (.str b) u) : RelV (.str a) u := by rw [e]; exact h
theorem pcD (F : OkD X.prog X.w X.K X.mg X.base k f ps dvs sp) (hr : Room k X.A) (hg : glB G X.env.scope = true) (n : Nat) (hm : X.mg x = some (.ref f)) (ha : PA X (e :: es) t) (hx : G[n]? = some x := by rfl)
    (he : starEach (e :: es) X.env = (false, eval e X.env) :: starEach es X.env := by rfl) (hpl : (backTo pos (starEach es X.env)).any (·.1) = false := by rfl) : PE X (.Call (.Name x p) (e :: es) [] pos) (tCall sp dvs EF t) := by
  obtain ⟨fd, ds, kp, b, vd, F⟩ := F
  exact pe_call F hr (gl_of hg hx).1 hm kp b vd (fun _ _ _ _ _ _ _ q => (cxF q).elim) ha (gl_of hg hx).2.1 he hpl
theorem pcD0 (F : OkD X.prog X.w X.K X.mg X.base k f ps dvs sp) (hr : Room k X.A) (hg : glB G X.env.scope = true) (n : Nat) (hm : X.mg x = some (.ref f)) (hx : G[n]? = some x := by rfl) : PE X (.Call (.Name x p) [] [] pos) (tCall sp dvs EF tNil) := by
  obtain ⟨fd, ds, kp, b, vd, F⟩ := F
  exact pe_call0 F hr (gl_of hg hx).1 hm kp b vd (fun _ _ _ _ _ _ _ q => (cxF q).elim) (gl_of hg hx).2.1
end
end Z


/-! ### operators of an own class -/
namespace Z
open PySem PySem.W PySem.Calls PySem.Spec L2
open PyProof.Rows hiding St
/-- the class's facts for a binary operator: its own method f (name nm), the reflected one g -/
structure BinF (K : PySem.W.Frag) (C : Addr) (nm : String) (f : Addr) : Prop where
  first : PySem.W.selfFirst K C = true
  at_ : PySem.W.findIn K (.ref C) (PySem.dunder nm) = some (some (.ref f))
  fn : PySem.W.isFn K (.ref f) = true
structure BinI (K : PySem.W.Frag) (C : Addr) (nm : String) (rc fo ro : Option Value) : Prop where
  refl : PySem.W.findIn K (.ref C) (dunderR nm) = some rc
  refl2 : rc = none ∨ ∃ g : Addr, rc = some (.ref g)
  i1 : PySem.W.findIn K (.type "int") (PySem.dunder nm) = some fo
  i2 : PySem.W.findIn K (.type "int") (dunderR nm) = some ro
  sub : PySem.W.subIn K (.type "int") (.ref C) = some false
structure RefF (K : PySem.W.Frag) (C : Addr) (nm : String) (f g : Addr) : Prop where
  first : PySem.W.selfFirst K C = true
  at_ : PySem.W.findIn K (.ref C) (PySem.dunder nm) = some (some (.ref f))
  ref : PySem.W.findIn K (.ref C) (dunderR nm) = some (some (.ref g))
  fn : PySem.W.isFn K (.ref g) = true
  sub : PySem.W.subIn K (.ref C) (.type "int") = some false
section
variable {prog : Program} {w : World} {M : Model} {A : Around} {E : Value → Shared → Prop} {s : Shared} {K : PySem.W.Frag} {x C f g dx : Addr} {ox : Obj} {od : Option Obj} {i : Int} {t : Tok}
/-- int's method declines -/
theorem right_own {op : Operator} {id : String} {B : Builtin} {Q : Value → Shared → Prop} (X : K.In s.heap) (I : PySem.W.InstAt s.heap x ox C od) (r : RefF K C op.info.2 f g)
    (fi : fillsNumberSlot (.type "int") op.info.2 = pure true) (slot : Slot "int" (PySem.dunder op.info.2) id) (entry : entryFor table id = some B) (args : argsOk id ⟨[.int i t, .ref x], []⟩)
    (hB : ∀ (P : Fin → Shared → Prop) (A : Around) (E : Value → Shared → Prop), P (.done (.ret .notImplemented)) s → wpAny (model prog w) A (B ⟨[.int i t, .ref x], []⟩) P E s)
    (h : wpAny (model prog w) A (call (.ref g) [.ref x, .int i t]) (PySem.W.CmpBack Q) E s) : wpAny (model prog w) A (binaryOp op (.int i t) (.ref x)) Q E s := by
  obtain ⟨cd, rest, hcd, hm⟩ := PySem.W.ksp_first r.first
  rcases hi : op.info with ⟨sym, nm⟩
  have r1 := r.at_
  have r2 := r.ref
  rw [hi] at r1 r2 fi slot
  dsimp only at r1 r2 fi slot
  simp only [binaryOp, hi]
  refine wpAny_holding (wpAny_bind ?_)
  unfold binaryOp1
  refine wpAny_bind (wpAny_typeOf (typeIs_int s i t) (wpAny_bind (I.type.here (wpAny_bind (wpAny_of_eq fi ?_)))))
  have hne : (Value.type "int" == Value.ref C) = false := Bool.eq_false_iff.mpr fun q => by cases beq_iff_eq.mp q
  simp only [hne, Bool.false_eq_true, if_false]
  refine wpAny_bind ((PySem.W.fills_K X hcd hm r1).here ?_)
  simp only [Bool.and_self, if_true]
  refine wpAny_bind ((PySem.W.looks_subIn X r.sub).here ?_)
  have hpy : numberSlotInPython (.type "int") nm = pure false := rfl
  simp only [Bool.false_eq_true, if_false, pure_bind, Bool.not_false, Bool.and_self, if_true, hpy]
  refine wpAny_bind (wpAny_tryMethod_declines (typeIs_int s i t) slot ?_)
  refine wpAny_call_entry slot (typeIs_int s i t) entry (hB _ _ _ ?_) args
  refine ⟨_, rfl, rfl, ?_⟩
  simp only [tryMethod]
  refine wpAny_bind (wpAny_bind (PySem.W.special_fn X I r2 (beq_iff_eq.mp r.fn) (wpAny_mono h (fun v s' hv => ?_) fun _ _ e => e)))
  cases v <;> first | exact hv.elim | exact wpAny_pure (wpAny_bind (wpAny_rule (wpAny_pure (wpAny_pure hv))))
theorem int_add_own {P : Fin → Shared → Prop} (hx : s.heap.get? x = some (PySem.W.instObj C dx)) (h : P (.done (.ret .notImplemented)) s) : wpAny M A (Builtin.«int.__add__» ⟨[.int i t, .ref x], []⟩) P E s := by
  obtain ⟨hp, g, d, tk, os⟩ := s
  unfold PySem.W.instObj at hx
  wp_walk
  exact h
theorem int_sub_own {P : Fin → Shared → Prop} (hx : s.heap.get? x = some (PySem.W.instObj C dx)) (h : P (.done (.ret .notImplemented)) s) : wpAny M A (Builtin.«int.__sub__» ⟨[.int i t, .ref x], []⟩) P E s := by
  obtain ⟨hp, g, d, tk, os⟩ := s
  unfold PySem.W.instObj at hx
  wp_walk
  exact h
theorem int_mul_own {P : Fin → Shared → Prop} (hx : s.heap.get? x = some (PySem.W.instObj C dx)) (h : P (.done (.ret .notImplemented)) s) : wpAny M A (Builtin.«int.__mul__» ⟨[.int i t, .ref x], []⟩) P E s := by
  obtain ⟨hp, g, d, tk, os⟩ := s
  unfold PySem.W.instObj at hx
  wp_walk
  exact h
end
section
variable {prog : Program} {w : World} {A : Around} {E : Value → Shared → Prop} {s : Shared} {K : PySem.W.Frag} {x C f : Addr} {ox : Obj} {od : Option Obj}
theorem call_bool_own {Q : Value → Shared → Prop} (X : K.In s.heap) (I : PySem.W.InstAt s.heap x ox C od) (hs : PySem.W.findIn K (.ref C) "__bool__" = some (some (.ref f))) (hf : PySem.W.isFn K (.ref f) = true)
    (h : wpAny (model prog w) A.in1.in1 (call (.ref f) [.ref x]) (PySem.W.BoolBack fun b s' => Q (.bool b) s') E s) : wpAny (model prog w) A (call (.type "bool") [.ref x]) Q E s := by
  refine callType_codes (T := "bool") (Bi := Builtin.«object.__init__») (Q₁ := fun r s₁ => ∃ b, r = .bool b ∧ Q r s₁) PySem.F.called_bool (PySem.F.typeCall_bool_1 _) PySem.F.entry_object_init ?_ ?_
  · refine codeAny_of_tree ?_
    show wpAny _ A.in1.in1 (do checkBuiltinCall "bool.__new__" ⟨[.type "bool", .ref x], []⟩; again (.builtin "bool.__new__" ⟨[.type "bool", .ref x], []⟩)) _ _ s
    refine wpAny_bind (wpAny_of_eq (PySem.F.newCall_bool_1 _) (wpAny_pure ⟨plainId_quiet (by decide +kernel) _, codeAny_builtin PySem.F.entry_bool_new ?_⟩))
    rw [Around.under_plainId (by decide +kernel) _]
    have f1 := PySem.F.conv_sub_bool
    have key : ∀ (P : Bool → Shared → Prop), wpAny (model prog w) A.in1.in1 (call (.ref f) [.ref x]) (PySem.W.BoolBack P) E s → wpAny (model prog w) A.in1.in1 (truthy (.ref x)) P E s := fun P hP => by
      unfold truthy
      refine wpAny_bind (m := callSpecial? (.ref x) (Str.ofString "__bool__")) (PySem.W.special_fn X I hs (beq_iff_eq.mp hf) (wpAny_mono hP (fun r s' hr => ?_) fun _ _ y => y))
      cases r <;> first | exact hr.elim | exact wpAny_pure hr
    unfold Builtin.«bool.__new__»
    refine wpAny_bind (m := isType (.type "bool")) (wpAny_of_eq (a := true) (by first | rfl | kernel_rfl) ?_)
    refine wpAny_bind (wpAny_of_eq f1 ?_)
    refine wpAny_bind (m := someArgs "bool" 0 1 _) (wpAny_pure ?_)
    refine wpAny_bind (wpAny_mono (key _ h) (fun b s' hb => ?_) fun _ _ y => y)
    exact wpAny_pure ⟨_, rfl, hb⟩
  · rintro obj s₁ ⟨b, rfl, hq⟩
    exact ⟨PySem.typeIs_bool _ _, PySem.F.args_object_init_2 _ _, object_init_meets PySem.F.called_bool.init.lookup PySem.F.called_bool.made (by decide) prog w A.in1 _ s₁ ⟨PySem.typeIs_bool _ _, rfl, hq⟩⟩
theorem call_abs_own {Q : Value → Shared → Prop} (X : K.In s.heap) (I : PySem.W.InstAt s.heap x ox C od) (hs : PySem.W.findIn K (.ref C) "__abs__" = some (some (.ref f))) (hf : PySem.W.isFn K (.ref f) = true)
    (h : wpAny (model prog w) A.in1 (call (.ref f) [.ref x]) Q E s) : wpAny (model prog w) A (call (.builtin "abs") [.ref x]) Q E s := by
  refine Calls.call_function_entry PyProof.Rows.kind_abs PyProof.Rows.plain_abs PyProof.Rows.entry_abs (PyProof.Rows.args_abs _) ?_
  unfold Builtin.«abs»
  refine wpAny_bind (m := oneArg "abs" _) (wpAny_pure ?_)
  refine wpAny_bind (m := callSpecial? (.ref x) (Str.ofString "__abs__")) (PySem.W.special_fn X I hs (beq_iff_eq.mp hf) (wpAny_mono h (fun r s' hr => ?_) fun _ _ y => y))
  exact wpAny_pure ⟨_, rfl, hr⟩
end
/-! ### the same over the layer -/
section
variable {X : Cx} {C : Addr} {f g : Addr} {k : Nat} {ps : List Str} {sp : Sp} {op : Operator}
theorem ep_cmp {pins : List (Addr × Obj)} {σ : L2.St} {Q : VK} {u : Value} {s' : Shared} (h : EP X pins σ Q u s') : PySem.W.CmpBack (EP X pins σ Q) u s' := by
  have h2 := h
  obtain ⟨v, H', I, r, q⟩ := h
  cases v with
  | non => cases (show u = Value.none from r); exact h2
  | bl b => cases (show u = Value.bool b from r); exact h2
  | int i => obtain ⟨t, e⟩ := (show ∃ t, u = Value.int i t from r); cases e; exact h2
  | str x => obtain ⟨t, e⟩ := (show ∃ t, u = Value.str x t from r); cases e; exact h2
  | byt b => obtain ⟨t, e⟩ := (show ∃ t, u = Value.bytes b t from r); cases e; exact h2
  | flt b => obtain ⟨t, e⟩ := (show ∃ t, u = Value.float b t from r); cases e; exact h2
  | ref a => cases (show u = Value.ref a from r); exact h2
  | ty n => cases (show u = Value.type n from r); exact h2
/-- a def is called by values, no exception leaves it -/
theorem run_ok {pins : List (Addr × Obj)} {σ : L2.St} {H : Hp} {s : Shared} {Q : VK} {us : List Value} {vs dvs : List V} (F : OkD X.prog X.w X.K X.mg X.base k f ps dvs sp) (hr : Room k X.A)
    (I : Inv X pins σ H s) (r : Vals vs us) (h : sp (vs ++ dvs) H Q EF) : wpAny (model X.prog X.w) X.A (call (.ref f) us) (EP X pins σ Q) X.xe s := by
  obtain ⟨fd, ds, kp, b, vd, F⟩ := F
  exact run_fn F hr b vd (fun _ _ _ _ _ _ _ q => (cxF q).elim) I r h
theorem run_ok1 {pins : List (Addr × Obj)} {σ : L2.St} {H : Hp} {s : Shared} {Q : VK} {us : List Value} {vs dvs : List V} {E : Value → Shared → Prop} {A : Around} (F : OkD X.prog X.w X.K X.mg X.base k f ps dvs sp) (hr : Room k A) (hA : A.frames = X.A.frames)
    (I : Inv X pins σ H s) (r : Vals vs us) (h : sp (vs ++ dvs) H Q EF) : wpAny (model X.prog X.w) A (call (.ref f) us) (EP X pins σ Q) E s := by
  obtain ⟨fd, ds, kp, b, vd, F⟩ := F
  have r2 : Vals (vs ++ dvs) (us ++ ds) := r.append vd
  have hl : (us ++ ds).length = ps.length := by rw [← r2.length]; exact F.len _ _ _ _ h
  have e0 : Env0 X.prog X.w X.K X.mg X.base A X.stack s H := by
    have z := I.env0
    exact ⟨by rw [hA]; exact z.frames, z.mod, z.bs, z.bsz, z.funs, z.frf, z.hok, z.bare⟩
  refine wpAny_call (codeAny_mono (F.run A X.stack s H ⟨us, []⟩ (us ++ ds) (vs ++ dvs) Q EF hr e0 (b s us I.kIn hl) r2 h) fun r s' hq => ?_)
  cases r with
  | error e => exact (cxF hq).elim
  | ok fl => cases fl with
    | ret u => exact I.after hq
    | next => exact False.elim hq
    | brk => exact False.elim hq
    | cont => exact False.elim hq
/-- x op y: x an instance, y one of the same class or an int -/
def rOwn (C : Addr) (sp : Sp) : R2 := fun x y H Q => ∃ a dx fs, x = .ref a ∧ H a = some (.ins C dx fs) ∧ (∃ b dy gs, y = .ref b ∧ H b = some (.ins C dy gs)) ∧ sp [x, y] H Q EF
def rOwnI (C : Addr) (sp : Sp) : R2 := fun x y H Q => ∃ a dx fs i, x = .ref a ∧ H a = some (.ins C dx fs) ∧ y = .int i ∧ sp [x, y] H Q EF
def rIOwn (C : Addr) (sp : Sp) : R2 := fun x y H Q => ∃ a dx fs i, y = .ref a ∧ H a = some (.ins C dx fs) ∧ x = .int i ∧ sp [y, x] H Q EF
theorem inst_at {pins : List (Addr × Obj)} {σ : L2.St} {H : Hp} {s : Shared} {a dx : Addr} {fs : List (Str × V)} (I : Inv X pins σ H s) (e : H a = some (.ins C dx fs)) : s.heap.get? a = some (PySem.W.instObj C dx) ∧ ∃ od, PySem.W.InstAt s.heap a (PySem.W.instObj C dx) C od := by
  obtain ⟨mA, O, _, _, _, _⟩ := ins_get I.hok e
  obtain ⟨od, J, _⟩ := O.look
  exact ⟨O.obj, _, J⟩
theorem op_own (b : BinF X.K C op.info.2 f) (F : OkD X.prog X.w X.K X.mg X.base k f ps [] sp) (hr : Room k X.A) : OpR X (binaryOp op) (rOwn C sp) := by
  intro pins s σ H x y u v Q I rx ry h
  obtain ⟨a, dx, fs, rfl, ea, ⟨c, dy, gs, rfl, ec⟩, q⟩ := h
  cases rx
  cases ry
  obtain ⟨hx, od, J⟩ := inst_at I ea
  obtain ⟨hy, od2, J2⟩ := inst_at I ec
  obtain ⟨m, Fm⟩ := I.fr
  exact PySem.W.binop_K Fm I.mod.kin J J2.type b.first b.at_ b.fn (wpAny_mono (run_ok (vs := [.ref a, .ref c]) F hr I (.cons rfl (.cons rfl .nil)) q) (fun _ _ z => ep_cmp z) fun _ _ z => z)
theorem op_ownI {rc fo ro : Option Value} (b : BinF X.K C op.info.2 f) (bi : BinI X.K C op.info.2 rc fo ro) (F : OkD X.prog X.w X.K X.mg X.base k f ps [] sp) (hr : Room k X.A) : OpR X (binaryOp op) (rOwnI C sp) := by
  intro pins s σ H x y u v Q I rx ry h
  obtain ⟨a, dx, fs, i, rfl, ea, rfl, q⟩ := h
  cases rx
  obtain ⟨t, rfl⟩ := ry
  obtain ⟨hx, od, J⟩ := inst_at I ea
  obtain ⟨m, Fm⟩ := I.fr
  exact PySem.W.ksp_binT Fm I.mod.kin J (T := "int") rfl b.first b.at_ b.fn bi.refl bi.refl2 bi.i1 bi.i2 bi.sub (wpAny_mono (run_ok (vs := [.ref a, .int i]) F hr I (.cons rfl (.cons ⟨t, rfl⟩ .nil)) q) (fun _ _ z => ep_cmp z) fun _ _ z => z)
theorem op_IaddOwn (r : RefF X.K C "add" f g) (F : OkD X.prog X.w X.K X.mg X.base k g ps [] sp) (hr : Room k X.A) : OpR X (binaryOp .Add) (rIOwn C sp) := by
  intro pins s σ H x y u v Q I rx ry h
  obtain ⟨a, dx, fs, i, rfl, ea, rfl, q⟩ := h
  cases ry
  obtain ⟨t, rfl⟩ := rx
  obtain ⟨hx, od, J⟩ := inst_at I ea
  exact right_own (op := .Add) I.kIn J r PySem.F.fills_int_add PySem.F.slot_int_add PySem.F.entry_int_add (PySem.F.args_int_add_2 _ _) (fun _ _ _ z => int_add_own hx z) (wpAny_mono (run_ok (vs := [.ref a, .int i]) F hr I (.cons rfl (.cons ⟨t, rfl⟩ .nil)) q) (fun _ _ z => ep_cmp z) fun _ _ z => z)
theorem op_IsubOwn (r : RefF X.K C "sub" f g) (F : OkD X.prog X.w X.K X.mg X.base k g ps [] sp) (hr : Room k X.A) : OpR X (binaryOp .Sub) (rIOwn C sp) := by
  intro pins s σ H x y u v Q I rx ry h
  obtain ⟨a, dx, fs, i, rfl, ea, rfl, q⟩ := h
  cases ry
  obtain ⟨t, rfl⟩ := rx
  obtain ⟨hx, od, J⟩ := inst_at I ea
  exact right_own (op := .Sub) I.kIn J r PySem.F.fills_int_sub PySem.F.slot_int_sub PySem.F.entry_int_sub (PySem.F.args_int_sub_2 _ _) (fun _ _ _ z => int_sub_own hx z) (wpAny_mono (run_ok (vs := [.ref a, .int i]) F hr I (.cons rfl (.cons ⟨t, rfl⟩ .nil)) q) (fun _ _ z => ep_cmp z) fun _ _ z => z)
theorem op_ImulOwn (r : RefF X.K C "mul" f g) (F : OkD X.prog X.w X.K X.mg X.base k g ps [] sp) (hr : Room k X.A) : OpR X (binaryOp .Mult) (rIOwn C sp) := by
  intro pins s σ H x y u v Q I rx ry h
  obtain ⟨a, dx, fs, i, rfl, ea, rfl, q⟩ := h
  cases ry
  obtain ⟨t, rfl⟩ := rx
  obtain ⟨hx, od, J⟩ := inst_at I ea
  exact right_own (op := .Mult) I.kIn J r PySem.F.fills_int_mul PySem.F.slot_int_mul PySem.F.entry_int_mul (PySem.F.args_int_mul_2 _ _) (fun _ _ _ z => int_mul_own hx z) (wpAny_mono (run_ok (vs := [.ref a, .int i]) F hr I (.cons rfl (.cons ⟨t, rfl⟩ .nil)) q) (fun _ _ z => ep_cmp z) fun _ _ z => z)
/-- -x, abs(x), bool(x) -/
def rUn1 (C : Addr) (sp : Sp) : V → Hp → VK → Prop := fun x H Q => ∃ a dx fs, x = .ref a ∧ H a = some (.ins C dx fs) ∧ sp [x] H Q EF
def rUnC (C : Addr) (sp : Sp) : List V → Hp → VK → Prop := fun xs H Q => ∃ a dx fs, xs = [.ref a] ∧ H a = some (.ins C dx fs) ∧ sp xs H Q EF
theorem un_own (hs : PySem.W.findIn X.K (.ref C) "__neg__" = some (some (.ref f))) (hf : PySem.W.isFn X.K (.ref f) = true) (F : OkD X.prog X.w X.K X.mg X.base k f ps [] sp) (hr : Room k X.A) : UnR X (unaryOp .USub) (rUn1 C sp) := by
  intro pins s σ H x u Q I rx h
  obtain ⟨a, dx, fs, rfl, ea, q⟩ := h
  cases rx
  obtain ⟨hx, od, J⟩ := inst_at I ea
  obtain ⟨m, Fm⟩ := I.fr
  exact PySem.W.ksp_neg Fm I.mod.kin J hs hf (run_ok (vs := [.ref a]) F hr I (.cons rfl .nil) q)
theorem call_absO (hs : PySem.W.findIn X.K (.ref C) "__abs__" = some (some (.ref f))) (hf : PySem.W.isFn X.K (.ref f) = true) (F : OkD X.prog X.w X.K X.mg X.base k f ps [] sp) (hr : Room (k + 1) X.A) : CallR X (.builtin "abs") (rUnC C sp) := by
  intro pins s σ H xs us Q I r h
  obtain ⟨a, dx, fs, rfl, ea, q⟩ := h
  obtain ⟨u, rfl, rx⟩ := vals1 r
  cases rx
  obtain ⟨hx, od, J⟩ := inst_at I ea
  exact call_abs_own I.kIn J hs hf (run_ok1 (vs := [.ref a]) F hr.in1 rfl I (.cons rfl .nil) q)
theorem call_boolO (hs : PySem.W.findIn X.K (.ref C) "__bool__" = some (some (.ref f))) (hf : PySem.W.isFn X.K (.ref f) = true) (F : OkD X.prog X.w X.K X.mg X.base k f ps [] sp) (hr : Room (k + 2) X.A)
    (hb : ∀ vs H Q, sp vs H Q EF → sp vs H (fun v H' => (∃ b, v = .bl b) ∧ Q v H') EF) : CallR X (.type "bool") (rUnC C sp) := by
  intro pins s σ H xs us Q I r h
  obtain ⟨a, dx, fs, rfl, ea, q⟩ := h
  obtain ⟨u, rfl, rx⟩ := vals1 r
  cases rx
  obtain ⟨hx, od, J⟩ := inst_at I ea
  refine call_bool_own I.kIn J hs hf (wpAny_mono (run_ok1 (vs := [.ref a]) F hr.in1.in1 rfl I (.cons rfl .nil) (hb _ _ _ q)) (fun u s' z => ?_) fun _ _ z => z)
  obtain ⟨v, H', I', rv, ⟨b, rfl⟩, q'⟩ := z
  cases (show u = Value.bool b from rv)
  exact ⟨.bl b, H', I', rfl, q'⟩
end
end Z

/-! ### instances, classes that are called, growing lists, ranges from their end -/
namespace Z
open PySem PySem.Spec L2
open PyProof.Rows hiding St
def IsI (C : Addr) (H : Hp) (p : Addr) (fs : List (Str × V)) : Prop := ∃ dx, H p = some (.ins C dx fs)
theorem same_ins {C : Addr} {H H' : Hp} {p : Addr} {fs : List (Str × V)} (e : Same H H') (h : IsI C H p fs) : IsI C H' p fs := by
  obtain ⟨dx, h⟩ := h
  exact ⟨dx, e _ _ h⟩
theorem ext_ins {C : Addr} {H H' : Hp} {p : Addr} {fs : List (Str × V)} (e : Ext H H') (h : IsI C H p fs) : IsI C H' p fs := by
  obtain ⟨dx, h⟩ := h
  exact ⟨dx, e _ _ trivial h⟩
/-- all but p stays -/
def Keep (p : Addr) (H H' : Hp) : Prop := ∀ b o, b ≠ p → H b = some o → H' b = some o
theorem keep_of {p : Addr} {H H' : Hp} (e : Same H H') : Keep p H H' := fun b o _ h => e b o h
theorem Keep.trans {p : Addr} {H H1 H2 : Hp} (a : Keep p H H1) (b : Keep p H1 H2) : Keep p H H2 := fun c o n h => b c o n (a c o n h)
theorem Keep.refl {p : Addr} {H : Hp} : Keep p H H := fun _ _ _ h => h
section
variable {D : Ends} {σ : St} {H : Hp} {Q : VK} {t u : TS} {te ta tb : TE} {g : TG} {v x y : V} {tt tu : TT} {ar : TA} {i j : Int} {a b : Bool} {A B P : Prop}
def kFld (K : PySem.W.Frag) (f : Str) (Q : VK) : VK := fun x H1 => ∃ a C dx fs v, x = .ref a ∧ H1 a = some (.ins C dx fs) ∧ Cls K C ∧ NoAttr K C f ∧ fs.lookup f = some v ∧ Q v H1
theorem i_fld {K : PySem.W.Frag} {f : Str} (h : te σ H (kFld K f Q)) : tFld K te f σ H Q := h
theorem i_fldI {K : PySem.W.Frag} {f : Str} {p C : Addr} {fs : List (Str × V)} (e : IsI C H p fs) (c : Cls K C) (n : NoAttr K C f) (l : fs.lookup f = some v) (h : Q v H) : kFld K f Q (.ref p) H := by
  obtain ⟨dx, e⟩ := e
  exact ⟨p, C, dx, fs, v, rfl, e, c, n, l, h⟩
def kSFld (K : PySem.W.Frag) (f : Str) (R : Hp → Prop) (y : V) : VK := fun x H2 => ∃ a C dx fs, x = .ref a ∧ H2 a = some (.ins C dx fs) ∧ Cls K C ∧ NoAttr K C f ∧ fs.length < 1000 ∧ R (upd H2 a (.ins C dx (putF f y fs)))
theorem i_sfld {K : PySem.W.Frag} {f : Str} (h : te σ H fun y H1 => ta σ H1 (kSFld K f (fun H3 => D.nx σ H3) y)) : sFld K ta te f D σ H := h
theorem i_sfldI {K : PySem.W.Frag} {f : Str} {p C : Addr} {fs : List (Str × V)} {R : Hp → Prop} (e : IsI C H p fs) (c : Cls K C) (n : NoAttr K C f) (l : fs.length < 1000) (h : ∀ H2, Keep p H H2 → IsI C H2 p (putF f y fs) → R H2) : kSFld K f R y (.ref p) H := by
  obtain ⟨dx, e⟩ := e
  exact ⟨p, C, dx, fs, rfl, e, c, n, l, h _ (fun b o hb q => by rw [upd_ne hb]; exact q) ⟨dx, upd_same⟩⟩
def kMake (C : Addr) (sp : Sp) (dvs : List V) (E : XK) (Q : VK) : List V → Hp → Prop := fun vs H1 => ∀ x dx, H1 x = none → H1 dx = none → dx ≠ x → sp (.ref x :: (vs ++ dvs)) (upd (upd H1 dx (.own x)) x (.ins C dx [])) (fun v H2 => v = .non ∧ Q (.ref x) H2) E
theorem i_make {C : Addr} {sp : Sp} {dvs : List V} {E : XK} (h : ar σ H (kMake C sp dvs E Q)) : tMake C sp dvs E ar σ H Q := h
theorem i_made {C : Addr} {sp : Sp} {vs dvs : List V} {E : XK} (h : ∀ x H2, (∀ H3, Keep x H2 H3 → Same H H3) → IsI C H2 x [] → sp (.ref x :: (vs ++ dvs)) H2 (fun v H3 => v = .non ∧ Q (.ref x) H3) E) : kMake C sp dvs E Q vs H := fun x dx h1 h2 h3 =>
  h x _ (fun H3 k b o e => k b o (ne_of_none e h1) (by rw [upd_ne (ne_of_none e h1), upd_ne (ne_of_none e h2)]; exact e)) ⟨dx, upd_same⟩
theorem i_chain {r r' : R2} {tc : TE} (h : ta σ H fun x H1 => tb σ H1 fun y H2 => r x y H2 fun z H3 => ∃ k, z = .bl k ∧ (if k = true then tc σ H3 fun w' H4 => r' y w' H4 Q else Q (.bl false) H3)) : tChain r r' ta tb tc σ H Q := h
theorem i_app {l : Addr} {xs : List V} (hl : H l = some (.lst xs)) (n : xs.length ≤ 100000) (h : ∀ H2, (∀ b, b ≠ l → H2 b = H b) → H2 l = some (.lst (xs ++ [v])) → Q .non H2) : rAppend (.ref l) [v] H Q :=
  ⟨l, xs, v, rfl, rfl, hl, Nat.lt_of_le_of_lt n (by decide), h _ (fun b hb => upd_ne hb) upd_same⟩
theorem same_app {H0 H2 : Hp} {l : Addr} (z : H0 l = none) (s : Same H0 H) (w : ∀ b, b ≠ l → H2 b = H b) : Same H0 H2 := fun b o e => by
  rw [w b (ne_of_none e z)]; exact s b o e
theorem keep_tup {H2 : Hp} {l c : Addr} {xs ys : List V} (w : ∀ b, b ≠ l → H2 b = H b) (hl : H l = some (.lst xs)) (hc : H c = some (.tup ys)) : H2 c = some (.tup ys) := by
  rw [w c (fun e => by rw [e, hl] at hc; cases hc)]; exact hc
theorem keep_ins {H2 : Hp} {l c C : Addr} {xs : List V} {fs : List (Str × V)} (w : ∀ b, b ≠ l → H2 b = H b) (hl : H l = some (.lst xs)) (hc : IsI C H c fs) : IsI C H2 c fs := by
  obtain ⟨dx, hc⟩ := hc
  exact ⟨dx, by rw [w c (fun e => by rw [e, hl] at hc; cases hc)]; exact hc⟩
theorem i_revR {tr : St → Hp → (Int → Int → Hp → Prop) → Prop} {R : It → Hp → Prop} (h : tr σ H fun a b H1 => -(2 ^ 62) ≤ a ∧ a < 2 ^ 62 ∧ -(2 ^ 62) ≤ b ∧ b < 2 ^ 62 ∧ R (Itc (a + (((b - a).toNat : Nat) : Int) - 1) (-1) (b - a).toNat) H1) : iRevR tr σ H R := h
theorem i_rg1 {Q : Int → Int → Hp → Prop} (h : te σ H fun x H1 => ∃ n, x = .int n ∧ Q 0 n H1) : tRg1 te σ H Q := h
theorem i_rev {n : Nat} (Pv : Nat → St → Hp → Prop) (hb : n ≤ 1000000) (h0 : Pv 0 σ H)
    (hs : ∀ i σ H, i < n → Pv i σ H → g (.int ((n : Int) - 1 - (i : Nat))) σ H fun σ2 H2 => t { D with nx := Pv (i + 1), ct := Pv (i + 1), bk := D.nx } σ2 H2) (hd : ∀ σ H, Pv n σ H → D.nx σ H) :
    ∃ m : Int, V.int (n : Nat) = .int m ∧ -(2 ^ 62) ≤ (0 : Int) ∧ (0 : Int) < 2 ^ 62 ∧ -(2 ^ 62) ≤ m ∧ m < 2 ^ 62 ∧ ∃ W : Nat → Nat → St → Hp → Prop, (∃ k, W 0 k σ H) ∧ ∀ i k σ H, W i k σ H →
      ((Itc (0 + (((m - 0).toNat : Nat) : Int) - 1) (-1) (m - 0).toNat).stop i H ∧ D.nx σ H) ∨ ((Itc (0 + (((m - 0).toNat : Nat) : Int) - 1) (-1) (m - 0).toNat).go i H ∧ ∃ N : St → Hp → Prop, (∀ σ' H', N σ' H' → ∃ m', m' < k ∧ W (i + 1) m' σ' H') ∧
        ∀ x H', (Itc (0 + (((m - 0).toNat : Nat) : Int) - 1) (-1) (m - 0).toNat).yld i H x H' → g x σ H' fun σ2 H2 => t { D with nx := N, ct := N, bk := D.nx } σ2 H2) := by
  refine ⟨n, rfl, by decide, by decide, by omega, by omega, ?_⟩
  have e : ((n : Int) - 0).toNat = n := by omega
  rw [e]
  refine for_rangeC Pv h0 (fun i σ H hi p => ?_) hd
  have e2 : 0 + (n : Int) - 1 + (i : Nat) * (-1) = (n : Int) - 1 - (i : Nat) := by omega
  rw [e2]
  exact hs i σ H hi p
theorem i_min {p : Prop} [Decidable p] {i j : Int} (h : Q (.int (if j < i then j else i)) H) : ∃ i' j', [V.int i, V.int j] = [.int i', .int j'] ∧ Q (.int (if j' < i' then j' else i')) H := ⟨i, j, rfl, h⟩
def rMin : List V → Hp → VK → Prop := fun xs H Q => ∃ i j, xs = [.int i, .int j] ∧ Q (.int (if j < i then j else i)) H
theorem call_min {X : Cx} (hc : X.calm = true) : CallR X (.builtin "min") rMin := call_min2 hc
theorem i_min2 {i j : Int} (h : Q (.int (if j < i then j else i)) H) : rMin [.int i, .int j] H Q := ⟨i, j, rfl, h⟩
def rBoolB : List V → Hp → VK → Prop := fun xs H Q => ∃ k, xs = [.bl k] ∧ Q (.bl k) H
theorem call_boolB {X : Cx} : CallR X (.type "bool") rBoolB := fun pins s σ H xs us Q I r ⟨k, e, q⟩ => call_bool1 pins s σ H xs us Q I r (.inr ⟨k, e, q⟩)
theorem i_boolB {k : Bool} (h : Q (.bl k) H) : rBoolB [.bl k] H Q := ⟨k, rfl, h⟩
theorem eqv2 (i j k l : Int) : PyData.eqv (.tuple [.int i, .int j]) (.tuple [.int k, .int l]) = decide (i = k ∧ j = l) := by
  show (i == k && (j == l && true)) = _
  by_cases h1 : i = k <;> by_cases h2 : j = l <;> simp [h1, h2]
theorem i_neD2 {K : PySem.W.Frag} {p q : Addr} {i j k l : Int} (hp : SqT K H p [.int i, .int j]) (hq : SqT K H q [.int k, .int l]) (h : Q (.bl (!decide (i = k ∧ j = l))) H) : rNeD K (.ref p) (.ref q) H Q :=
  ⟨_, _, .tup hp (.cons (.int _) (.cons (.int _) .nil)), .tup hq (.cons (.int _) (.cons (.int _) .nil)), rfl, rfl, by rw [eqv2]; exact h⟩
theorem i_glst {K : PySem.W.Frag} {n : Nat} {tg : TGs} {p : Addr} {xs : List V} {R : St → Hp → Prop} (hx : SqL K H p xs) (hn : xs.length = n) (h : tg xs σ H R) : gLst K n tg (.ref p) σ H R := ⟨p, xs, rfl, hx, hn, h⟩
theorem i_own {C p q : Addr} {sp : Sp} {fs gs : List (Str × V)} (hp : IsI C H p fs) (hq : IsI C H q gs) (h : sp [.ref p, .ref q] H Q EF) : rOwn C sp (.ref p) (.ref q) H Q := by
  obtain ⟨dx, hp⟩ := hp; obtain ⟨dy, hq⟩ := hq
  exact ⟨p, dx, fs, rfl, hp, ⟨q, dy, gs, rfl, hq⟩, h⟩
theorem i_ownI {C p : Addr} {sp : Sp} {fs : List (Str × V)} {i : Int} (hp : IsI C H p fs) (h : sp [.ref p, .int i] H Q EF) : rOwnI C sp (.ref p) (.int i) H Q := by
  obtain ⟨dx, hp⟩ := hp
  exact ⟨p, dx, fs, i, rfl, hp, rfl, h⟩
theorem i_iOwn {C p : Addr} {sp : Sp} {fs : List (Str × V)} {i : Int} (hp : IsI C H p fs) (h : sp [.ref p, .int i] H Q EF) : rIOwn C sp (.int i) (.ref p) H Q := by
  obtain ⟨dx, hp⟩ := hp
  exact ⟨p, dx, fs, i, rfl, hp, rfl, h⟩
theorem i_un1 {C p : Addr} {sp : Sp} {fs : List (Str × V)} (hp : IsI C H p fs) (h : sp [.ref p] H Q EF) : rUn1 C sp (.ref p) H Q := by
  obtain ⟨dx, hp⟩ := hp
  exact ⟨p, dx, fs, rfl, hp, h⟩
theorem i_unC {C p : Addr} {sp : Sp} {fs : List (Str × V)} (hp : IsI C H p fs) (h : sp [.ref p] H Q EF) : rUnC C sp [.ref p] H Q := by
  obtain ⟨dx, hp⟩ := hp
  exact ⟨p, dx, fs, rfl, hp, h⟩
theorem ins_ty {K : PySem.W.Frag} {C p : Addr} {fs : List (Str × V)} (c : C8.InsC K C) (h : IsI C H p fs) : TyX K H (.ref p) (.ref C) := by
  obtain ⟨dx, h⟩ := h
  exact .base (.ins h c.cl c.ha c.hn c.htk c.hm)
theorem at_i {α : Type} {f : α → V} {xs : List α} {i : Nat} (h : i < xs.length) : ∃ x, xs[i]? = some x ∧ atI (xs.map f) (0 + (i : Int)) = some (f x) := by
  refine ⟨xs[i], List.getElem?_eq_getElem h, ?_⟩
  rw [Int.zero_add]
  exact atI_nat (by rw [List.getElem?_map, List.getElem?_eq_getElem h]; rfl)
theorem at_nn {α : Type} {f : α → V} {xs : List α} {i : Int} (h0 : 0 ≤ i) (h : i < xs.length) : ∃ x, xs[i.toNat]? = some x ∧ atI (xs.map f) i = some (f x) := by
  obtain ⟨n, rfl⟩ := Int.eq_ofNat_of_zero_le h0
  have := at_i (f := f) (xs := xs) (i := n) (by omega)
  rw [Int.zero_add] at this
  exact this
theorem at_getD {xs : List Int} {q : Int} (h0 : 0 ≤ q) (h1 : q < xs.length) : atI (xs.map V.int) q = some (V.int (xs.getD q.toNat 0)) := by
  obtain ⟨x, e1, e2⟩ := at_nn (f := V.int) h0 h1
  rw [e2, List.getD_eq_getElem?_getD, e1]; rfl
/-- addresses of a list's items, with what stands there -/
inductive Items {α : Type} (F : Hp → Addr → α → Prop) (H : Hp) : List Addr → List α → Prop
  | nil : Items F H [] []
  | cons {p : Addr} {ps : List Addr} {x : α} {xs : List α} : F H p x → Items F H ps xs → Items F H (p :: ps) (x :: xs)
theorem Items.map {α : Type} {F : Hp → Addr → α → Prop} {H' : Hp} (k : ∀ p x, F H p x → F H' p x) : ∀ {ps : List Addr} {xs : List α}, Items F H ps xs → Items F H' ps xs
  | _, _, .nil => .nil
  | _, _, .cons h r => .cons (k _ _ h) (r.map k)
theorem Items.len {α : Type} {F : Hp → Addr → α → Prop} : ∀ {ps : List Addr} {xs : List α}, Items F H ps xs → ps.length = xs.length
  | _, _, .nil => rfl
  | _, _, .cons _ r => by rw [List.length_cons, List.length_cons, r.len]
theorem Items.get {α : Type} {F : Hp → Addr → α → Prop} : ∀ {ps : List Addr} {xs : List α} {i : Nat} {x : α}, Items F H ps xs → xs[i]? = some x → ∃ p, ps[i]? = some p ∧ F H p x
  | _, _, 0, _, .cons h _, e => by cases e; exact ⟨_, rfl, h⟩
  | _, _, i + 1, _, .cons _ r, e => by
    rw [List.getElem?_cons_succ] at e
    obtain ⟨p, e1, e2⟩ := r.get e
    exact ⟨p, by rw [List.getElem?_cons_succ]; exact e1, e2⟩
/-- a list of objects -/
def LO {α : Type} (F : Hp → Addr → α → Prop) (H : Hp) (p : Addr) (xs : List α) : Prop := ∃ ps, H p = some (.lst (ps.map V.ref)) ∧ Items F H ps xs
theorem ext_LO {α : Type} {F : Hp → Addr → α → Prop} {H' : Hp} {p : Addr} {xs : List α} (k : ∀ p x, F H p x → F H' p x) (e : Ext H H') (h : LO F H p xs) : LO F H' p xs := by
  obtain ⟨ps, h1, h2⟩ := h
  exact ⟨ps, e _ _ (stab_ref _) h1, h2.map k⟩
theorem same_LO {α : Type} {F : Hp → Addr → α → Prop} {H' : Hp} {p : Addr} {xs : List α} (k : ∀ p x, F H p x → F H' p x) (e : Same H H') (h : LO F H p xs) : LO F H' p xs := by
  obtain ⟨ps, h1, h2⟩ := h
  exact ⟨ps, e _ _ h1, h2.map k⟩
theorem LO.sq {K : PySem.W.Frag} {α : Type} {F : Hp → Addr → α → Prop} {p : Addr} {xs : List α} (h : LO F H p xs) : ∃ vs, SqL K H p vs ∧ vs.length = xs.length := by
  obtain ⟨ps, h1, h2⟩ := h
  exact ⟨_, .of h1, by rw [List.length_map]; exact h2.len⟩
theorem LO.at {K : PySem.W.Frag} {α : Type} {F : Hp → Addr → α → Prop} {p : Addr} {xs : List α} {i : Nat} {x : α} (h : LO F H p xs) (e : xs[i]? = some x) : ∃ vs q, SqL K H p vs ∧ atI vs (0 + (i : Int)) = some (.ref q) ∧ F H q x := by
  obtain ⟨ps, h1, h2⟩ := h
  obtain ⟨q, e1, e2⟩ := h2.get e
  exact ⟨_, q, .of h1, by rw [Int.zero_add]; exact atI_nat (by rw [List.getElem?_map, e1]; rfl), e2⟩
theorem LO.ty {K : PySem.W.Frag} {α : Type} {F : Hp → Addr → α → Prop} {p : Addr} {xs : List α} (h : LO F H p xs) : TyX K H (.ref p) (.type "list") := by
  obtain ⟨ps, h1, h2⟩ := h
  exact .base (.lst h1)
theorem i_lenO {K : PySem.W.Frag} {α : Type} {F : Hp → Addr → α → Prop} {p : Addr} {xs : List α} (h : LO F H p xs) (k : Q (.int xs.length) H) : rLenS K [.ref p] H Q := by
  obtain ⟨vs, h1, h2⟩ := h.sq (K := K)
  exact ⟨p, vs, rfl, .inl h1, by rw [h2]; exact k⟩
/-- a pair of ints -/
def IsP (H : Hp) (p : Addr) (q : Int × Int) : Prop := H p = some (.tup [.int q.1, .int q.2])
theorem same_P {H' : Hp} {p : Addr} {q : Int × Int} (e : Same H H') (h : IsP H p q) : IsP H' p q := e _ _ h
theorem ext_P {H' : Hp} {p : Addr} {q : Int × Int} (e : Ext H H') (h : IsP H p q) : IsP H' p q := e _ _ trivial h
end
theorem OkD.dfl {P : Program} {w : World} {K : PySem.W.Frag} {mg : Str → Option Value} {base : Heap} {k : Nat} {f : Addr} {ps : List Str} {sp : Sp} {x qual : Str} {params : Arguments} {body : List Stmt} {scope : Scope} {dvs : List V} {fd : FuncData}
    (F : FunD K x qual params body scope dvs [] f fd) (n j : Nat) (hd : dvs ≠ []) (hn : n + (dvs.length - j) = ps.length)
    (h : ∀ (T : Addr) (kV doc pm : Value) (an : Option Addr) (cdv ct : Value) (us its : List Value), us.length = n → its.length = dvs.length →
      ∃ k, bindArgs (PySem.W.fnOf x qual params body scope (.ref T) kV doc pm an cdv ct) ⟨us, []⟩ = seqItems? (.ref T) >>= k ∧ k (some its.toArray) = pure (ps.zip (us ++ its.drop j))) (R : FnOk P w K mg base (L2N.CX P w) k f fd ps sp) : OkD P w K mg base k f ps (dvs.drop j) sp := by
  obtain ⟨ds, vd, b⟩ := F.binds1 n j hd hn h
  exact ⟨fd, ds, F.kp, b, vd, R⟩
section
variable {X : Cx} {k : Nat} {f C : Addr} {ps : List Str} {dvs : List V} {sp : Sp} {x : Str} {p pos : Pos} {e : Expr} {es : List Expr} {t : TA} {G : List Str}
theorem pcM (M : Mk X.K C f) (F : OkD X.prog X.w X.K X.mg X.base k f ps dvs sp) (hr : Room (k + 1) X.A) (hg : glB G X.env.scope = true) (n : Nat) (hm : X.mg x = some (.ref C)) (ha : PA X (e :: es) t) (hx : G[n]? = some x := by rfl)
    (he : starEach (e :: es) X.env = (false, eval e X.env) :: starEach es X.env := by rfl) (hpl : (backTo pos (starEach es X.env)).any (·.1) = false := by rfl) : PE X (.Call (.Name x p) (e :: es) [] pos) (tMake C sp dvs EF t) := by
  obtain ⟨fd, ds, kp, b, vd, F⟩ := F
  exact pe_make M F hr (gl_of hg hx).1 hm b vd (fun _ _ _ _ _ _ _ q => (cxF q).elim) ha (gl_of hg hx).2.1 he hpl
end
end Z
namespace Z
open PySem PySem.Spec L2
open PyProof.Rows hiding St
theorem i_blq {F : Bool → Prop} {a b : Bool} (e : a = b) (h : F b) : ∃ k, V.bl a = .bl k ∧ F k := ⟨b, by rw [e], h⟩
theorem i_lenM {K : PySem.W.Frag} {α : Type} {f : α → V} {p : Addr} {xs : List α} {H : Hp} {Q : VK} (hx : SqL K H p (xs.map f)) (h : Q (.int xs.length) H) : rLenS K [.ref p] H Q := ⟨p, _, rfl, .inl hx, by rw [List.length_map]; exact h⟩
def insB (K : PySem.W.Frag) (C : Addr) : Bool := He.eqO (PySem.W.findIn K (.ref C) "__class__") (some (some (.builtin "object.__class__"))) && (He.eqO (PySem.W.specialIn K (.builtin "object.__class__") "__get__") (some (some (.builtin "getset_descriptor.__get__"))) &&
  (decide (PySem.W.takesIn K (.builtin "object.__class__") = some true) && (decide (PySem.W.mroIn K C (.type "object") = some true) && decide (PySem.W.kitOne K (.ref C) (.ref C) = some true))))
theorem insB_ok {K : PySem.W.Frag} {C : Addr} (c : Cls K C) (h : insB K C = true) : C8.InsC K C := by
  obtain ⟨h1, h⟩ := He.ba h
  obtain ⟨h2, h⟩ := He.ba h
  obtain ⟨h3, h⟩ := He.ba h
  obtain ⟨h4, h5⟩ := He.ba h
  exact ⟨c, He.eqO_ok h1, He.eqO_ok h2, of_decide_eq_true h3, of_decide_eq_true h4, of_decide_eq_true h5⟩
def binB (K : PySem.W.Frag) (C : Addr) (nm : String) (f : Addr) : Bool := PySem.W.selfFirst K C && (He.eqO (PySem.W.findIn K (.ref C) (PySem.dunder nm)) (some (some (.ref f))) && PySem.W.isFn K (.ref f))
theorem binB_ok {K : PySem.W.Frag} {C : Addr} {nm : String} {f : Addr} (h : binB K C nm f = true) : BinF K C nm f := by
  obtain ⟨h1, h⟩ := He.ba h
  obtain ⟨h2, h3⟩ := He.ba h
  exact ⟨h1, He.eqO_ok h2, h3⟩
def refB (K : PySem.W.Frag) (C : Addr) (nm : String) (f g : Addr) : Bool := PySem.W.selfFirst K C && (He.eqO (PySem.W.findIn K (.ref C) (PySem.dunder nm)) (some (some (.ref f))) && (He.eqO (PySem.W.findIn K (.ref C) (dunderR nm)) (some (some (.ref g))) && (PySem.W.isFn K (.ref g) && decide (PySem.W.subIn K (.ref C) (.type "int") = some false))))
theorem refB_ok {K : PySem.W.Frag} {C : Addr} {nm : String} {f g : Addr} (h : refB K C nm f g = true) : RefF K C nm f g := by
  obtain ⟨h1, h⟩ := He.ba h
  obtain ⟨h2, h⟩ := He.ba h
  obtain ⟨h3, h⟩ := He.ba h
  obtain ⟨h4, h5⟩ := He.ba h
  exact ⟨h1, He.eqO_ok h2, He.eqO_ok h3, h4, of_decide_eq_true h5⟩
def isSm : Option (Option Value) → Bool
  | some _ => true
  | none => false
theorem isSm_ok {o : Option (Option Value)} (h : isSm o = true) : ∃ v, o = some v := by
  cases o with
  | none => cases h
  | some v => exact ⟨v, rfl⟩
def binIB (K : PySem.W.Frag) (C : Addr) (nm : String) (g : Addr) : Bool := He.eqO (PySem.W.findIn K (.ref C) (dunderR nm)) (some (some (.ref g))) && (isSm (PySem.W.findIn K (.type "int") (PySem.dunder nm)) && (isSm (PySem.W.findIn K (.type "int") (dunderR nm)) && decide (PySem.W.subIn K (.type "int") (.ref C) = some false)))
theorem binIB_ok {K : PySem.W.Frag} {C : Addr} {nm : String} {g : Addr} (h : binIB K C nm g = true) : ∃ rc fo ro, BinI K C nm rc fo ro := by
  obtain ⟨h1, h⟩ := He.ba h
  obtain ⟨h2, h⟩ := He.ba h
  obtain ⟨h3, h4⟩ := He.ba h
  obtain ⟨fo, e2⟩ := isSm_ok h2
  obtain ⟨ro, e3⟩ := isSm_ok h3
  exact ⟨_, fo, ro, He.eqO_ok h1, .inr ⟨g, rfl⟩, e2, e3, of_decide_eq_true h4⟩
def binIB0 (K : PySem.W.Frag) (C : Addr) (nm : String) : Bool := He.eqO (PySem.W.findIn K (.ref C) (dunderR nm)) (some none) && (isSm (PySem.W.findIn K (.type "int") (PySem.dunder nm)) && (isSm (PySem.W.findIn K (.type "int") (dunderR nm)) && decide (PySem.W.subIn K (.type "int") (.ref C) = some false)))
theorem binIB0_ok {K : PySem.W.Frag} {C : Addr} {nm : String} (h : binIB0 K C nm = true) : ∃ rc fo ro, BinI K C nm rc fo ro := by
  obtain ⟨h1, h⟩ := He.ba h
  obtain ⟨h2, h⟩ := He.ba h
  obtain ⟨h3, h4⟩ := He.ba h
  obtain ⟨fo, e2⟩ := isSm_ok h2
  obtain ⟨ro, e3⟩ := isSm_ok h3
  exact ⟨_, fo, ro, He.eqO_ok h1, .inl rfl, e2, e3, of_decide_eq_true h4⟩
section
variable {X : Cx} {C : Addr} {f g : Addr} {k : Nat} {ps : List Str} {sp : Sp} {op : Operator}
theorem op_ownIx (b : BinF X.K C op.info.2 f) (bi : ∃ rc fo ro, BinI X.K C op.info.2 rc fo ro) (F : OkD X.prog X.w X.K X.mg X.base k f ps [] sp) (hr : Room k X.A) : OpR X (binaryOp op) (rOwnI C sp) := by
  obtain ⟨_, _, _, bi⟩ := bi
  exact op_ownI b bi F hr
end
end Z

/-! ### comparisons of an own class -/
namespace Z
open PySem PySem.W PySem.Calls PySem.Spec L2
open PyProof.Rows hiding St
/-- the class's own method nm (a comparison's) -/
structure CmpF (K : PySem.W.Frag) (C : Addr) (nm : Str) (f : Addr) : Prop where
  at_ : PySem.W.findIn K (.ref C) nm = some (some (.ref f))
  fn : PySem.W.isFn K (.ref f) = true
/-- its own __eq__, object's __ne__ -/
structure NeF (K : PySem.W.Frag) (C f : Addr) : Prop where
  eq : CmpF K C "__eq__" f
  ne : PySem.W.findIn K (.ref C) "__ne__" = some (some (.builtin "object.__ne__"))
  hm : PySem.W.mroIn K C (.type "object") = some true
section
variable {prog : Program} {w : World} {M : Model} {A : Around} {E : Value → Shared → Prop} {s : Shared} {K : PySem.W.Frag} {x C f g dx : Addr} {ox : Obj} {od : Option Obj} {b tb : Value} {t : Tok}
theorem ne_entry {Q : Fin → Shared → Prop} (hu : A.units < cLine) (X : K.In s.heap) (I : PySem.W.InstAt s.heap x ox C od) (e : CmpF K C "__eq__" f)
    (h : wpAny (model prog w) A (call (.ref f) [.ref x, b]) (fun v s' => ∃ k, v = .bool k ∧ Q (.done (.ret (.bool (!k)))) s') E s) : wpAny (model prog w) A (Builtin.«object.__ne__» ⟨[.ref x, b], []⟩) Q E s := by
  unfold Builtin.«object.__ne__»
  repeat (first
    | with_reducible refine wpAny_cRoomFor hu ?_
    | (refine wpAny_bind (m := callSpecialIfBound? (.ref x) (Str.ofString "__eq__") [b])
        (PySem.W.ifBound_K X I e.at_ e.fn (wpAny_mono h (fun r s' hr => by
          obtain ⟨k, rfl, hq⟩ := hr
          repeat (first | exact hq | exact wpAny_pure hq | exact wpAny_truthy_bool hq | (refine wpAny_bind (m := truthy (.bool _)) (wpAny_truthy_bool ?_)) | wp_step)) fun _ _ e => e)))
    | wp_step)
theorem try_ne {Q : Option Value → Shared → Prop} (hu : A.units + 1 < cLine) (X : K.In s.heap) (I : PySem.W.InstAt s.heap x ox C od) (n : NeF K C f)
    (h : wpAny (model prog w) A.in1 (call (.ref f) [.ref x, b]) (fun v s' => ∃ k, v = .bool k ∧ Q (some (.bool (!k))) s') E s) : wpAny (model prog w) A (tryCompare (.ref x) "__ne__" b) Q E s := by
  have one : wpAny (model prog w) A (call (.builtin "object.__ne__") [.ref x, b]) (fun v s' => ∃ k, v = .bool (!k) ∧ Q (some (.bool (!k))) s') E s :=
    wpAny_call (codeAny_call_builtin F.cmp_object.ne.plain F.cmpEntry_ne (PySem.W.check_slot F.cmpKind_ne F.cmpSplit_ne (I.type.andThen (PySem.W.looks_mroIn X n.hm)) (F.cmpArgs_ne _ _)
      (ne_entry (A := A.in1) hu X I n.eq (wpAny_mono h (fun v s' hv => by obtain ⟨k, rfl, q⟩ := hv; exact ⟨k, rfl, k, rfl, q⟩) fun _ _ e => e))))
  simp only [tryCompare, callSpecialIfBound?, bindSpecialIfBound?]
  refine wpAny_bind (wpAny_holding (wpAny_bind (wpAny_bind (wpAny_bind (I.type.here ((PySem.W.looks_findIn X n.ne).here ?_))))))
  refine wpAny_bind (wpAny_askSetting (wpAny_ite ?_))
  have fin : ∀ (R : Option Value → Shared → Prop), (∀ k s', Q (some (.bool (!k))) s' → R (some (.bool (!k))) s') → wpAny (model prog w) A (call (.builtin "object.__ne__") ([.ref x] ++ [b]) >>= fun v => pure (some v)) R E s := fun R hR => wpAny_bind (wpAny_mono one (fun v s' h' => by
    obtain ⟨k, rfl, q⟩ := h'
    exact wpAny_pure (hR k s' q)) fun _ _ h' => h')
  split
  · exact wpAny_bind (wpAny_of_eq (F.cmp_object.ne.bind _) (wpAny_pure (by exact fin _ fun k s' q => wpAny_pure q)))
  · exact wpAny_tryCatch (wpAny_bind (wpAny_of_eq (F.cmp_object.ne.bind _) (wpAny_pure (by exact fin _ fun k s' q => wpAny_pure q))))
end
section
variable {prog : Program} {w : World} {M : Model} {A : Around} {E : Value → Shared → Prop} {s : Shared} {K : PySem.W.Frag} {x C f g dx l : Addr} {ox : Obj} {od : Option Obj} {b tb : Value} {t : Tok} {i : Int} {z : Str} {T : String}
theorem dec_int_eq {P : Fin → Shared → Prop} (hx : s.heap.get? x = some (PySem.W.instObj C dx)) (h : P (.done (.ret .notImplemented)) s) : wpAny M A (Builtin.«int.__eq__» ⟨[.int i t, .ref x], []⟩) P E s := by
  obtain ⟨hp, g, d, tk, os⟩ := s
  unfold PySem.W.instObj at hx
  wp_walk
  exact h
theorem dec_str_eq {P : Fin → Shared → Prop} (hx : s.heap.get? x = some (PySem.W.instObj C dx)) (h : P (.done (.ret .notImplemented)) s) : wpAny M A (Builtin.«str.__eq__» ⟨[.str z t, .ref x], []⟩) P E s := by
  obtain ⟨hp, g, d, tk, os⟩ := s
  unfold PySem.W.instObj at hx
  wp_walk
  exact h
theorem dec_NoneType_eq {P : Fin → Shared → Prop} (hx : s.heap.get? x = some (PySem.W.instObj C dx)) (h : P (.done (.ret .notImplemented)) s) : wpAny M A (Builtin.«NoneType.__eq__» ⟨[.none, .ref x], []⟩) P E s := by
  obtain ⟨hp, g, d, tk, os⟩ := s
  unfold PySem.W.instObj at hx
  wp_walk
  exact h
theorem dec_list_eq {P : Fin → Shared → Prop} {dd : Option Addr} {its : Array Value} {n : Nat} {sl : Array (Option Value)} (X : K.In s.heap) (hn : PySem.W.subIn K (.ref C) (.type "list") = some false) (hl : s.heap.get? l = some ⟨.type "list", dd, .seq its n, sl⟩) (hx : s.heap.get? x = some (PySem.W.instObj C dx)) (h : P (.done (.ret .notImplemented)) s) : wpAny M A (Builtin.«list.__eq__» ⟨[.ref l, .ref x], []⟩) P E s := by
  obtain ⟨hp, g, d, tk, os⟩ := s
  unfold PySem.W.instObj at hx
  wp_walk
  refine (PySem.W.looks_subIn X hn).here ?_
  simp only [Bool.not_false, if_true]
  exact wpAny_pure h
theorem dec_tuple_eq {P : Fin → Shared → Prop} {dd : Option Addr} {its : Array Value} {n : Nat} {sl : Array (Option Value)} (X : K.In s.heap) (hn : PySem.W.subIn K (.ref C) (.type "tuple") = some false) (hl : s.heap.get? l = some ⟨.type "tuple", dd, .seq its n, sl⟩) (hx : s.heap.get? x = some (PySem.W.instObj C dx)) (h : P (.done (.ret .notImplemented)) s) : wpAny M A (Builtin.«tuple.__eq__» ⟨[.ref l, .ref x], []⟩) P E s := by
  obtain ⟨hp, g, d, tk, os⟩ := s
  unfold PySem.W.instObj at hx
  wp_walk
  refine (PySem.W.looks_subIn X hn).here ?_
  simp only [Bool.not_false, if_true]
  exact wpAny_pure h
theorem dec_int_ne {P : Fin → Shared → Prop} (hx : s.heap.get? x = some (PySem.W.instObj C dx)) (h : P (.done (.ret .notImplemented)) s) : wpAny M A (Builtin.«int.__ne__» ⟨[.int i t, .ref x], []⟩) P E s := by
  obtain ⟨hp, g, d, tk, os⟩ := s
  unfold PySem.W.instObj at hx
  wp_walk
  exact h
theorem dec_str_ne {P : Fin → Shared → Prop} (hx : s.heap.get? x = some (PySem.W.instObj C dx)) (h : P (.done (.ret .notImplemented)) s) : wpAny M A (Builtin.«str.__ne__» ⟨[.str z t, .ref x], []⟩) P E s := by
  obtain ⟨hp, g, d, tk, os⟩ := s
  unfold PySem.W.instObj at hx
  wp_walk
  exact h
theorem dec_NoneType_ne {P : Fin → Shared → Prop} (hx : s.heap.get? x = some (PySem.W.instObj C dx)) (h : P (.done (.ret .notImplemented)) s) : wpAny M A (Builtin.«NoneType.__ne__» ⟨[.none, .ref x], []⟩) P E s := by
  obtain ⟨hp, g, d, tk, os⟩ := s
  unfold PySem.W.instObj at hx
  wp_walk
  exact h
theorem dec_list_ne {P : Fin → Shared → Prop} {dd : Option Addr} {its : Array Value} {n : Nat} {sl : Array (Option Value)} (X : K.In s.heap) (hn : PySem.W.subIn K (.ref C) (.type "list") = some false) (hl : s.heap.get? l = some ⟨.type "list", dd, .seq its n, sl⟩) (hx : s.heap.get? x = some (PySem.W.instObj C dx)) (h : P (.done (.ret .notImplemented)) s) : wpAny M A (Builtin.«list.__ne__» ⟨[.ref l, .ref x], []⟩) P E s := by
  obtain ⟨hp, g, d, tk, os⟩ := s
  unfold PySem.W.instObj at hx
  wp_walk
  refine (PySem.W.looks_subIn X hn).here ?_
  simp only [Bool.not_false, if_true]
  exact wpAny_pure h
theorem dec_tuple_ne {P : Fin → Shared → Prop} {dd : Option Addr} {its : Array Value} {n : Nat} {sl : Array (Option Value)} (X : K.In s.heap) (hn : PySem.W.subIn K (.ref C) (.type "tuple") = some false) (hl : s.heap.get? l = some ⟨.type "tuple", dd, .seq its n, sl⟩) (hx : s.heap.get? x = some (PySem.W.instObj C dx)) (h : P (.done (.ret .notImplemented)) s) : wpAny M A (Builtin.«tuple.__ne__» ⟨[.ref l, .ref x], []⟩) P E s := by
  obtain ⟨hp, g, d, tk, os⟩ := s
  unfold PySem.W.instObj at hx
  wp_walk
  refine (PySem.W.looks_subIn X hn).here ?_
  simp only [Bool.not_false, if_true]
  exact wpAny_pure h
theorem cmp_fo {op : CmpOp} {Q : Value → Shared → Prop} (hu : A.units < cLine) (X : K.In s.heap) (I : PySem.W.InstAt s.heap x ox C od) (hT : s.TypeIs b T) (hn : PySem.W.subIn K (.type T) (.ref C) = some false) (c : CmpF K C (cmpInfo op).2.1 f)
    (h : wpAny (model prog w) A (call (.ref f) [.ref x, b]) (PySem.W.CmpBack Q) E s) : wpAny (model prog w) A (richCompare op (.ref x) b) Q E s := by
  have one : wpAny (model prog w) A (tryCompare (.ref x) (cmpInfo op).2.1 b) (fun r s' => ∃ v, r = some v ∧ Q v s') E s := by
    unfold tryCompare
    refine wpAny_bind (PySem.W.ifBound_K X I c.at_ c.fn (wpAny_mono h (fun v s' hv => ?_) fun _ _ e => e))
    cases v <;> first | exact hv.elim | exact wpAny_pure ⟨_, rfl, hv⟩
  unfold richCompare
  simp only [oneThing_ref]
  refine wpAny_holding (wpAny_bind (wpAny_cRoomFor hu ?_))
  refine wpAny_bind (I.type.here (wpAny_bind (wpAny_typeOf hT ?_)))
  have hne : (Value.ref C != Value.type T) = true := by simp
  simp only [hne, if_true]
  refine wpAny_bind ((PySem.W.looks_subIn X hn).here ?_)
  simp only [Bool.false_eq_true, if_false]
  refine wpAny_bind (wpAny_mono one (fun r s' z => ?_) fun _ _ e => e)
  obtain ⟨v, rfl, hq⟩ := z
  exact wpAny_pure hq
theorem ne_fo {Q : Value → Shared → Prop} (hu : A.units + 1 < cLine) (X : K.In s.heap) (I : PySem.W.InstAt s.heap x ox C od) (hT : s.TypeIs b T) (hn : PySem.W.subIn K (.type T) (.ref C) = some false) (n : NeF K C f)
    (h : wpAny (model prog w) A.in1 (call (.ref f) [.ref x, b]) (fun v s' => ∃ k, v = .bool k ∧ Q (.bool (!k)) s') E s) : wpAny (model prog w) A (richCompare .NotEq (.ref x) b) Q E s := by
  unfold richCompare
  simp only [oneThing_ref]
  refine wpAny_holding (wpAny_bind (wpAny_cRoomFor (by omega) ?_))
  refine wpAny_bind (I.type.here (wpAny_bind (wpAny_typeOf hT ?_)))
  have hne : (Value.ref C != Value.type T) = true := by simp
  simp only [hne, if_true]
  refine wpAny_bind ((PySem.W.looks_subIn X hn).here ?_)
  simp only [Bool.false_eq_true, if_false]
  rw [cmpInfo_NotEq]
  refine wpAny_bind (try_ne hu X I n (wpAny_mono h (fun v s' hv => ?_) fun _ _ e => e))
  obtain ⟨k, rfl, q⟩ := hv
  exact ⟨k, rfl, wpAny_pure q⟩
theorem ne_own {Q : Value → Shared → Prop} (hu : A.units + 1 < cLine) (X : K.In s.heap) (I : PySem.W.InstAt s.heap x ox C od) {y : Addr} {oy : Obj} {oe : Option Obj} (J : PySem.W.InstAt s.heap y oy C oe) (n : NeF K C f)
    (h : wpAny (model prog w) A.in1 (call (.ref f) [.ref x, .ref y]) (fun v s' => ∃ k, v = .bool k ∧ Q (.bool (!k)) s') E s) : wpAny (model prog w) A (richCompare .NotEq (.ref x) (.ref y)) Q E s := by
  unfold richCompare
  simp only [oneThing_ref]
  refine wpAny_holding (wpAny_bind (wpAny_cRoomFor (by omega) ?_))
  refine wpAny_bind (I.type.here (wpAny_bind (J.type.here ?_)))
  have hne : (Value.ref C != Value.ref C) = false := by simp
  simp only [hne, Bool.false_eq_true, if_false]
  refine wpAny_bind (wpAny_pure ?_)
  simp only [Bool.false_eq_true, if_false]
  rw [cmpInfo_NotEq]
  refine wpAny_bind (try_ne hu X I n (wpAny_mono h (fun v s' hv => ?_) fun _ _ e => e))
  obtain ⟨k, rfl, q⟩ := hv
  exact ⟨k, rfl, wpAny_pure q⟩
/-- a foreign value at the left: it declines, then the own class is asked -/
theorem fo_eq {Q : Value → Shared → Prop} (hu : A.units < cLine) (X : K.In s.heap) (I : PySem.W.InstAt s.heap x ox C od) (hT : s.TypeIs b T) (hn : PySem.W.subIn K (.ref C) (.type T) = some false) (c : CmpF K C "__eq__" f)
    (d : ∀ R : Option Value → Shared → Prop, R none s → wpAny (model prog w) A (tryCompare b "__eq__" (.ref x)) R E s)
    (h : wpAny (model prog w) A (call (.ref f) [.ref x, b]) (PySem.W.CmpBack Q) E s) : wpAny (model prog w) A (richCompare .Eq b (.ref x)) Q E s := by
  have one : wpAny (model prog w) A (tryCompare (.ref x) "__eq__" b) (fun r s' => ∃ v, r = some v ∧ Q v s') E s := by
    unfold tryCompare
    refine wpAny_bind (PySem.W.ifBound_K X I c.at_ c.fn (wpAny_mono h (fun v s' hv => ?_) fun _ _ e => e))
    cases v <;> first | exact hv.elim | exact wpAny_pure ⟨_, rfl, hv⟩
  unfold richCompare
  simp only [hT.oneThing_none]
  refine wpAny_holding (wpAny_bind (wpAny_cRoomFor hu ?_))
  refine wpAny_bind (wpAny_typeOf hT (wpAny_bind (I.type.here ?_)))
  have hne : (Value.type T != Value.ref C) = true := by simp
  simp only [hne, if_true]
  refine wpAny_bind ((PySem.W.looks_subIn X hn).here ?_)
  simp only [Bool.false_eq_true, if_false]
  rw [cmpInfo_Eq]
  refine wpAny_bind (d _ ?_)
  simp only [Bool.not_false, if_true]
  refine wpAny_bind (wpAny_mono one (fun r s' z => ?_) fun _ _ e => e)
  obtain ⟨v, rfl, hq⟩ := z
  exact wpAny_pure hq
theorem fo_ne {Q : Value → Shared → Prop} (hu : A.units + 1 < cLine) (X : K.In s.heap) (I : PySem.W.InstAt s.heap x ox C od) (hT : s.TypeIs b T) (hn : PySem.W.subIn K (.ref C) (.type T) = some false) (n : NeF K C f)
    (d : ∀ R : Option Value → Shared → Prop, R none s → wpAny (model prog w) A (tryCompare b "__ne__" (.ref x)) R E s)
    (h : wpAny (model prog w) A.in1 (call (.ref f) [.ref x, b]) (fun v s' => ∃ k, v = .bool k ∧ Q (.bool (!k)) s') E s) : wpAny (model prog w) A (richCompare .NotEq b (.ref x)) Q E s := by
  unfold richCompare
  simp only [hT.oneThing_none]
  refine wpAny_holding (wpAny_bind (wpAny_cRoomFor (by omega) ?_))
  refine wpAny_bind (wpAny_typeOf hT (wpAny_bind (I.type.here ?_)))
  have hne : (Value.type T != Value.ref C) = true := by simp
  simp only [hne, if_true]
  refine wpAny_bind ((PySem.W.looks_subIn X hn).here ?_)
  simp only [Bool.false_eq_true, if_false]
  rw [cmpInfo_NotEq]
  refine wpAny_bind (d _ ?_)
  simp only [Bool.not_false, if_true]
  refine wpAny_bind (try_ne hu X I n (wpAny_mono h (fun v s' hv => ?_) fun _ _ e => e))
  obtain ⟨k, rfl, q⟩ := hv
  exact ⟨k, rfl, wpAny_pure q⟩
end
end Z
namespace Z
open PySem PySem.W PySem.Calls PySem.Spec L2
open PyProof.Rows hiding St
/-- a value of a built-in type, and the type -/
inductive Fo (H : Hp) : V → String → Prop
  | int (i : Int) : Fo H (.int i) "int"
  | str (z : Str) : Fo H (.str z) "str"
  | non : Fo H .non "NoneType"
  | tup {a : Addr} {xs : List V} (e : H a = some (.tup xs)) : Fo H (.ref a) "tuple"
  | lst {a : Addr} {xs : List V} (e : H a = some (.lst xs)) : Fo H (.ref a) "list"
section
variable {X : Cx} {pins : List (Addr × Obj)} {σ : L2.St} {H : Hp} {s : Shared} {y : V} {v : Value} {T : String} {A : Around} {E : Value → Shared → Prop} {C x : Addr}
theorem fo_lst (I : Inv X pins σ H s) {a : Addr} {xs : List V} (e : H a = some (.lst xs)) : ∃ dd its n sl, s.heap.get? a = some ⟨.type "list", dd, .seq its n, sl⟩ := by
  obtain ⟨_, its, n, _, _, h⟩ := I.lstM e
  exact ⟨_, _, _, _, h⟩
theorem fo_tup (I : Inv X pins σ H s) {a : Addr} {xs : List V} (e : H a = some (.tup xs)) : ∃ dd its n sl, s.heap.get? a = some ⟨.type "tuple", dd, .seq its n, sl⟩ := by
  obtain ⟨_, _, _, o, h1, h2, n, h3⟩ := (show ObjOk X.prog X.w H s.heap a (.tup xs) from I.hok a _ e)
  obtain ⟨c, dd, d, sl⟩ := o
  cases h2
  cases h3
  exact ⟨_, _, _, _, h1⟩
theorem Fo.type (f : Fo H y T) (I : Inv X pins σ H s) (r : RelV y v) : s.TypeIs v T := by
  cases f with
  | int i => obtain ⟨t, rfl⟩ := r; exact typeIs_int s i t
  | str z => obtain ⟨t, rfl⟩ := r; exact typeIs_str s z t
  | non => cases r; rfl
  | tup e => cases r; obtain ⟨_, _, _, _, h⟩ := fo_tup I e; exact ⟨_, h, rfl⟩
  | lst e => cases r; obtain ⟨_, _, _, _, h⟩ := fo_lst I e; exact ⟨_, h, rfl⟩
theorem Fo.deq (f : Fo H y T) (I : Inv X pins σ H s) (r : RelV y v) {dx : Addr} {prog : Program} {w : World} (hx : s.heap.get? x = some (PySem.W.instObj C dx)) (hn : PySem.W.subIn X.K (.ref C) (.type T) = some false) (R : Option Value → Shared → Prop) (h : R none s) : wpAny (model prog w) A (tryCompare v "__eq__" (.ref x)) R E s := by
  have ht := f.type I r
  cases f with
  | int i => obtain ⟨t, rfl⟩ := r; exact wpAny_tryCompare_declines ht PySem.F.slot_int_eq (wpAny_call_entry PySem.F.slot_int_eq ht PySem.F.entry_int_eq (dec_int_eq hx ⟨_, rfl, rfl, h⟩) (PySem.F.args_int_eq_2 _ _))
  | str z => obtain ⟨t, rfl⟩ := r; exact wpAny_tryCompare_declines ht PySem.F.slot_str_eq (wpAny_call_entry PySem.F.slot_str_eq ht PySem.F.entry_str_eq (dec_str_eq hx ⟨_, rfl, rfl, h⟩) (PySem.F.args_str_eq_2 _ _))
  | non => cases r; exact wpAny_tryCompare_declines ht PySem.F.slot_NoneType_eq (wpAny_call_entry PySem.F.slot_NoneType_eq ht PySem.F.entry_NoneType_eq (dec_NoneType_eq hx ⟨_, rfl, rfl, h⟩) (PySem.F.args_NoneType_eq_2 _ _))
  | tup e => cases r; obtain ⟨_, _, _, _, hl⟩ := fo_tup I e; exact wpAny_tryCompare_declines ht PySem.F.slot_tuple_eq (wpAny_call_entry PySem.F.slot_tuple_eq ht PySem.F.entry_tuple_eq (dec_tuple_eq I.kIn hn hl hx ⟨_, rfl, rfl, h⟩) (PySem.F.args_tuple_eq_2 _ _))
  | lst e => cases r; obtain ⟨_, _, _, _, hl⟩ := fo_lst I e; exact wpAny_tryCompare_declines ht PySem.F.slot_list_eq (wpAny_call_entry PySem.F.slot_list_eq ht PySem.F.entry_list_eq (dec_list_eq I.kIn hn hl hx ⟨_, rfl, rfl, h⟩) (PySem.F.args_list_eq_2 _ _))
theorem Fo.dne (f : Fo H y T) (I : Inv X pins σ H s) (r : RelV y v) {dx : Addr} {prog : Program} {w : World} (hx : s.heap.get? x = some (PySem.W.instObj C dx)) (hn : PySem.W.subIn X.K (.ref C) (.type T) = some false) (R : Option Value → Shared → Prop) (h : R none s) : wpAny (model prog w) A (tryCompare v "__ne__" (.ref x)) R E s := by
  have ht := f.type I r
  cases f with
  | int i => obtain ⟨t, rfl⟩ := r; exact wpAny_tryCompare_declines ht PySem.F.slot_int_ne (wpAny_call_entry PySem.F.slot_int_ne ht PySem.F.entry_int_ne (dec_int_ne hx ⟨_, rfl, rfl, h⟩) (PySem.F.args_int_ne_2 _ _))
  | str z => obtain ⟨t, rfl⟩ := r; exact wpAny_tryCompare_declines ht PySem.F.slot_str_ne (wpAny_call_entry PySem.F.slot_str_ne ht PySem.F.entry_str_ne (dec_str_ne hx ⟨_, rfl, rfl, h⟩) (PySem.F.args_str_ne_2 _ _))
  | non => cases r; exact wpAny_tryCompare_declines ht PySem.F.slot_NoneType_ne (wpAny_call_entry PySem.F.slot_NoneType_ne ht PySem.F.entry_NoneType_ne (dec_NoneType_ne hx ⟨_, rfl, rfl, h⟩) (PySem.F.args_NoneType_ne_2 _ _))
  | tup e => cases r; obtain ⟨_, _, _, _, hl⟩ := fo_tup I e; exact wpAny_tryCompare_declines ht PySem.F.slot_tuple_ne (wpAny_call_entry PySem.F.slot_tuple_ne ht PySem.F.entry_tuple_ne (dec_tuple_ne I.kIn hn hl hx ⟨_, rfl, rfl, h⟩) (PySem.F.args_tuple_ne_2 _ _))
  | lst e => cases r; obtain ⟨_, _, _, _, hl⟩ := fo_lst I e; exact wpAny_tryCompare_declines ht PySem.F.slot_list_ne (wpAny_call_entry PySem.F.slot_list_ne ht PySem.F.entry_list_ne (dec_list_ne I.kIn hn hl hx ⟨_, rfl, rfl, h⟩) (PySem.F.args_list_ne_2 _ _))
theorem fo_sub {K : PySem.W.Frag} (f : Fo H y T) : PySem.W.subIn K (.type T) (.ref C) = some false := by
  have go : ∀ {T : String} {l : List Value}, fastBuiltinMro T = some l → l.contains (.ref C) = false → PySem.W.subIn K (.type T) (.ref C) = some false := fun {T l} e h => by
    show (fastBuiltinMro T).map (·.contains (.ref C)) = some false
    rw [e]
    show some (l.contains (.ref C)) = some false
    rw [h]
  cases f with
  | int => exact go (l := [.type "int", .type "object"]) (by decide +kernel) (by simp)
  | str => exact go (l := [.type "str", .type "object"]) (by decide +kernel) (by simp)
  | non => exact go (l := [.type "NoneType", .type "object"]) (by decide +kernel) (by simp)
  | tup => exact go (l := [.type "tuple", .type "object"]) (by decide +kernel) (by simp)
  | lst => exact go (l := [.type "list", .type "object"]) (by decide +kernel) (by simp)
end
section
variable {X : Cx} {C : Addr} {f : Addr} {k : Nat} {ps : List Str} {sp : Sp} {op : CmpOp}
def rCmpO (C : Addr) (sp : Sp) : R2 := fun x y H Q => ∃ a dx fs b dy gs, x = .ref a ∧ H a = some (.ins C dx fs) ∧ y = .ref b ∧ H b = some (.ins C dy gs) ∧ sp [x, y] H Q EF
def rCmpF (C : Addr) (sp : Sp) : R2 := fun x y H Q => ∃ a dx fs T, x = .ref a ∧ H a = some (.ins C dx fs) ∧ Fo H y T ∧ sp [x, y] H Q EF
def rCmpR (C : Addr) (sp : Sp) : R2 := fun x y H Q => ∃ a dx fs T, y = .ref a ∧ H a = some (.ins C dx fs) ∧ Fo H x T ∧ sp [y, x] H Q EF
def kNot (Q : VK) : VK := fun v H => ∃ k, v = .bl k ∧ Q (.bl (!k)) H
def rNot (r : R2) : R2 := fun x y H Q => r x y H (kNot Q)
theorem ep_not {pins : List (Addr × Obj)} {σ : L2.St} {Q : VK} {u : Value} {s' : Shared} (h : EP X pins σ (kNot Q) u s') : ∃ k, u = .bool k ∧ EP X pins σ Q (.bool (!k)) s' := by
  obtain ⟨v, H', I, r, k, rfl, q⟩ := h
  cases (show u = Value.bool k from r)
  exact ⟨k, rfl, .bl (!k), H', I, rfl, q⟩
theorem op_cmpO (c : CmpF X.K C (cmpInfo op).2.1 f) (F : OkD X.prog X.w X.K X.mg X.base k f ps [] sp) (hr : Room k X.A) (ho : ∀ a b, compareOp op a b = richCompare op a b := by intros; rfl) : OpR X (compareOp op) (rCmpO C sp) := by
  intro pins s σ H x y u v Q I rx ry h
  obtain ⟨a, dx, fs, b, dy, gs, rfl, ea, rfl, eb, q⟩ := h
  cases rx; cases ry
  obtain ⟨hx, od, J⟩ := inst_at I ea
  obtain ⟨hy, oe, J2⟩ := inst_at I eb
  obtain ⟨m, Fm⟩ := I.fr
  rw [ho]
  exact PySem.W.cmp_K hr.units0 Fm I.mod.kin J J2.type (by unfold PySem.W.notFirst; simp) c.at_ c.fn (wpAny_mono (run_ok (vs := [.ref a, .ref b]) F hr I (.cons rfl (.cons rfl .nil)) q) (fun _ _ z => ep_cmp z) fun _ _ z => z)
theorem op_cmpF (c : CmpF X.K C (cmpInfo op).2.1 f) (F : OkD X.prog X.w X.K X.mg X.base k f ps [] sp) (hr : Room k X.A) (ho : ∀ a b, compareOp op a b = richCompare op a b := by intros; rfl) : OpR X (compareOp op) (rCmpF C sp) := by
  intro pins s σ H x y u v Q I rx ry h
  obtain ⟨a, dx, fs, T, rfl, ea, fo, q⟩ := h
  cases rx
  obtain ⟨hx, od, J⟩ := inst_at I ea
  rw [ho]
  exact cmp_fo hr.units0 I.kIn J (fo.type I ry) (fo_sub fo) c (wpAny_mono (run_ok (vs := [.ref a, y]) F hr I (.cons rfl (.cons ry .nil)) q) (fun _ _ z => ep_cmp z) fun _ _ z => z)
theorem op_cmpR (c : CmpF X.K C "__eq__" f) (hs : ∀ T ∈ ["int", "str", "NoneType", "tuple", "list"], PySem.W.subIn X.K (.ref C) (.type T) = some false) (F : OkD X.prog X.w X.K X.mg X.base k f ps [] sp) (hr : Room k X.A) : OpR X (compareOp .Eq) (rCmpR C sp) := by
  intro pins s σ H x y u v Q I rx ry h
  obtain ⟨a, dx, fs, T, rfl, ea, fo, q⟩ := h
  cases ry
  obtain ⟨hx, od, J⟩ := inst_at I ea
  have hT : PySem.W.subIn X.K (.ref C) (.type T) = some false := hs T (by cases fo <;> simp)
  exact fo_eq hr.units0 I.kIn J (fo.type I rx) hT c (fun R z => fo.deq I rx hx hT R z) (wpAny_mono (run_ok (vs := [.ref a, x]) F hr I (.cons rfl (.cons rx .nil)) q) (fun _ _ z => ep_cmp z) fun _ _ z => z)
theorem op_neO (n : NeF X.K C f) (F : OkD X.prog X.w X.K X.mg X.base k f ps [] sp) (hr : Room (k + 1) X.A) : OpR X (compareOp .NotEq) (rNot (rCmpO C sp)) := by
  intro pins s σ H x y u v Q I rx ry h
  obtain ⟨a, dx, fs, b, dy, gs, rfl, ea, rfl, eb, q⟩ := h
  cases rx; cases ry
  obtain ⟨hx, od, J⟩ := inst_at I ea
  obtain ⟨hy, oe, J2⟩ := inst_at I eb
  have := hr.units
  exact ne_own (by omega) I.kIn J J2 n (wpAny_mono (run_ok1 (vs := [.ref a, .ref b]) F hr.in1 rfl I (.cons rfl (.cons rfl .nil)) q) (fun _ _ z => ep_not z) fun _ _ z => z)
theorem op_neF (n : NeF X.K C f) (F : OkD X.prog X.w X.K X.mg X.base k f ps [] sp) (hr : Room (k + 1) X.A) : OpR X (compareOp .NotEq) (rNot (rCmpF C sp)) := by
  intro pins s σ H x y u v Q I rx ry h
  obtain ⟨a, dx, fs, T, rfl, ea, fo, q⟩ := h
  cases rx
  obtain ⟨hx, od, J⟩ := inst_at I ea
  have := hr.units
  exact ne_fo (by omega) I.kIn J (fo.type I ry) (fo_sub fo) n (wpAny_mono (run_ok1 (vs := [.ref a, y]) F hr.in1 rfl I (.cons rfl (.cons ry .nil)) q) (fun _ _ z => ep_not z) fun _ _ z => z)
theorem op_neR (n : NeF X.K C f) (hs : ∀ T ∈ ["int", "str", "NoneType", "tuple", "list"], PySem.W.subIn X.K (.ref C) (.type T) = some false) (F : OkD X.prog X.w X.K X.mg X.base k f ps [] sp) (hr : Room (k + 1) X.A) : OpR X (compareOp .NotEq) (rNot (rCmpR C sp)) := by
  intro pins s σ H x y u v Q I rx ry h
  obtain ⟨a, dx, fs, T, rfl, ea, fo, q⟩ := h
  cases ry
  obtain ⟨hx, od, J⟩ := inst_at I ea
  have := hr.units
  have hT : PySem.W.subIn X.K (.ref C) (.type T) = some false := hs T (by cases fo <;> simp)
  exact fo_ne (by omega) I.kIn J (fo.type I rx) hT n (fun R z => fo.dne I rx hx hT R z) (wpAny_mono (run_ok1 (vs := [.ref a, x]) F hr.in1 rfl I (.cons rfl (.cons rx .nil)) q) (fun _ _ z => ep_not z) fun _ _ z => z)
end
section
variable {H : Hp} {Q : VK} {C p q : Addr} {sp : Sp} {fs gs : List (Str × V)} {y : V} {T : String} {b : Bool}
theorem i_cmpO (hp : IsI C H p fs) (hq : IsI C H q gs) (h : sp [.ref p, .ref q] H Q EF) : rCmpO C sp (.ref p) (.ref q) H Q := by
  obtain ⟨dx, hp⟩ := hp; obtain ⟨dy, hq⟩ := hq
  exact ⟨p, dx, fs, q, dy, gs, rfl, hp, rfl, hq, h⟩
theorem i_cmpF (hp : IsI C H p fs) (fo : Fo H y T) (h : sp [.ref p, y] H Q EF) : rCmpF C sp (.ref p) y H Q := by
  obtain ⟨dx, hp⟩ := hp
  exact ⟨p, dx, fs, T, rfl, hp, fo, h⟩
theorem i_cmpR (hp : IsI C H p fs) (fo : Fo H y T) (h : sp [.ref p, y] H Q EF) : rCmpR C sp y (.ref p) H Q := by
  obtain ⟨dx, hp⟩ := hp
  exact ⟨p, dx, fs, T, rfl, hp, fo, h⟩
theorem i_not2 {r : R2} {x y : V} (h : r x y H (kNot Q)) : rNot r x y H Q := h
theorem i_kNot (h : Q (.bl (!b)) H) : kNot Q (.bl b) H := ⟨b, rfl, h⟩
end
def cmpB (K : PySem.W.Frag) (C : Addr) (nm : Str) (f : Addr) : Bool := He.eqO (PySem.W.findIn K (.ref C) nm) (some (some (.ref f))) && PySem.W.isFn K (.ref f)
theorem cmpB_ok {K : PySem.W.Frag} {C : Addr} {nm : Str} {f : Addr} (h : cmpB K C nm f = true) : CmpF K C nm f := by
  obtain ⟨h1, h2⟩ := He.ba h
  exact ⟨He.eqO_ok h1, h2⟩
def neB (K : PySem.W.Frag) (C f : Addr) : Bool := cmpB K C "__eq__" f && (He.eqO (PySem.W.findIn K (.ref C) "__ne__") (some (some (.builtin "object.__ne__"))) && decide (PySem.W.mroIn K C (.type "object") = some true))
theorem neB_ok {K : PySem.W.Frag} {C f : Addr} (h : neB K C f = true) : NeF K C f := by
  obtain ⟨h1, h⟩ := He.ba h
  obtain ⟨h2, h3⟩ := He.ba h
  exact ⟨cmpB_ok h1, He.eqO_ok h2, of_decide_eq_true h3⟩
def subsB (K : PySem.W.Frag) (C : Addr) : Bool := ["int", "str", "NoneType", "tuple", "list"].all fun T => decide (PySem.W.subIn K (.ref C) (.type T) = some false)
theorem subsB_ok {K : PySem.W.Frag} {C : Addr} (h : subsB K C = true) : ∀ T ∈ ["int", "str", "NoneType", "tuple", "list"], PySem.W.subIn K (.ref C) (.type T) = some false := fun T m => of_decide_eq_true (List.all_eq_true.mp h T m)
end Z
namespace Z
open PySem PySem.Spec L2
open PyProof.Rows hiding St
theorem ext_app {H0 H H2 : Hp} {l : Addr} (z : H0 l = none) (s : Ext H0 H) (w : ∀ b, b ≠ l → H2 b = H b) : Ext H0 H2 := ⟨fun b o st e => by
  rw [w b (ne_of_none e z)]; exact s.st b o st e, fun b c i x y zz e => by
  rw [w b (ne_of_none e z)]; exact s.src b c i x y zz e⟩
theorem src_app {H0 H H2 : Hp} {l a p : Addr} {xs : List V} (z : H0 l = none) (h0 : IsSrc H0 a) (w : ∀ b, b ≠ l → H2 b = H b) (hl : H l = some (.lst (V.ref p :: xs))) (h : IsSrc H a) : IsSrc H2 a := by
  obtain ⟨i, x, y, zz, c, ns, h1, h2, h3⟩ := h
  obtain ⟨_, _, _, _, _, _, q, _⟩ := h0
  refine ⟨i, x, y, zz, c, ns, by rw [w a (ne_of_none q z)]; exact h1, ?_, h3⟩
  rw [w c (fun e => ?_)]
  · exact h2
  · rw [e, hl] at h2
    cases ns with
    | nil => cases h2
    | cons n ns => cases h2
theorem Items.inv {α : Type} {F : Hp → Addr → α → Prop} {H : Hp} : ∀ {ps : List Addr} {xs : List α} {i : Nat} {y : V}, Items F H ps xs → (ps.map V.ref)[i]? = some y → ∃ p x, y = V.ref p ∧ xs[i]? = some x ∧ F H p x
  | _, _, 0, _, .cons h _, e => by cases e; exact ⟨_, _, rfl, rfl, h⟩
  | _, _, i + 1, _, .cons _ r, e => by
    rw [List.map_cons, List.getElem?_cons_succ] at e
    obtain ⟨p, x, e1, e2, e3⟩ := r.inv e
    exact ⟨p, x, e1, by rw [List.getElem?_cons_succ]; exact e2, e3⟩
theorem Items.snoc {α : Type} {F : Hp → Addr → α → Prop} {H : Hp} : ∀ {ps : List Addr} {xs : List α} {p : Addr} {x : α}, Items F H ps xs → F H p x → Items F H (ps ++ [p]) (xs ++ [x])
  | _, _, _, _, .nil, h => .cons h .nil
  | _, _, _, _, .cons a r, h => .cons a (r.snoc h)
theorem LO.push {α : Type} {F : Hp → Addr → α → Prop} {H : Hp} {D p : Addr} {ps : List Addr} {xs : List α} {x : α} (it : Items F H ps xs) (np : F H p x) (k : ∀ q y, F H q y → F (upd H D (.lst (ps.map V.ref ++ [V.ref p]))) q y) : LO F (upd H D (.lst (ps.map V.ref ++ [V.ref p]))) D (xs ++ [x]) :=
  ⟨ps ++ [p], by rw [upd_same, List.map_append]; rfl, (it.snoc np).map k⟩
theorem lo_size {α β : Type} {F : Hp → Addr → β → Prop} {H : Hp} {ps : List Addr} {xs : List α} {q : Nat} {fn : α → β} (it : Items F H ps ((xs.take q).map fn)) (h : xs.length ≤ 1000) : (ps.map V.ref).length < sizeLine := by
  rw [List.length_map, it.len, List.length_map, List.length_take]
  exact Nat.lt_of_le_of_lt (Nat.le_trans (Nat.min_le_right _ _) h) (by decide)
end Z

namespace Z
open PySem PySem.Spec L2
open PyProof.Rows hiding St
section
variable {X : Cx} {k : Nat} {f C : Addr} {ps : List Str} {dvs : List V} {sp : Sp} {x : Str} {p pos : Pos} {e : Expr} {es : List Expr} {t : TA}
/-- a call within a comprehension -/
theorem pcDc (F : OkD X.prog X.w X.K X.mg X.base k f ps dvs sp) (hr : Room k X.A) (hm : X.mg x = some (.ref f)) (ha : PA X (e :: es) t) (hg : Gl X x := by rfl) (hd : (x == ("__debug__" : Str)) = false := by decide)
    (he : starEach (e :: es) X.env = (false, eval e X.env) :: starEach es X.env := by rfl) (hpl : (backTo pos (starEach es X.env)).any (·.1) = false := by rfl) : PE X (.Call (.Name x p) (e :: es) [] pos) (tCall sp dvs EF t) := by
  obtain ⟨fd, ds, kp, b, vd, F⟩ := F
  exact pe_call F hr hg hm kp b vd (fun _ _ _ _ _ _ _ q => (cxF q).elim) ha hd he hpl
end
end Z

namespace Z
open PySem PySem.Spec L2
open PyProof.Rows hiding St
/-- a def that may be called so (one of several promises) -/
def CallOk (X : Cx) (f : Addr) (sp : Sp) : Prop := ∀ (pins : List (Addr × Obj)) (σ : L2.St) (H : Hp) (s : Shared) (Q : VK) (us : List Value) (vs : List V), Inv X pins σ H s → Vals vs us → sp vs H Q EF → wpAny (model X.prog X.w) X.A (call (.ref f) us) (EP X pins σ Q) X.xe s
section
variable {X : Cx} {k : Nat} {f C : Addr} {ps : List Str} {dvs : List V} {sp sp' : Sp} {x : Str} {p pos : Pos} {e : Expr} {es : List Expr} {t : TA} {G : List Str}
theorem OkD.co (F : OkD X.prog X.w X.K X.mg X.base k f ps [] sp) (hr : Room k X.A) : CallOk X f sp := fun pins σ H s Q us vs I r h => run_ok F hr I r (by rw [List.append_nil]; exact h)
theorem OkD.kp {P : Program} {w : World} {K : PySem.W.Frag} {mg : Str → Option Value} {base : Heap} (F : OkD P w K mg base k f ps dvs sp) : PySem.W.keepIn K (.ref f) = true := by
  obtain ⟨fd, ds, kp, _⟩ := F
  exact kp
theorem CallOk.or (a : CallOk X f sp) (b : CallOk X f sp') : CallOk X f (fun vs H Q E => sp vs H Q E ∨ sp' vs H Q E) := fun pins σ H s Q us vs I r h => h.elim (a pins σ H s Q us vs I r) (b pins σ H s Q us vs I r)
theorem pcDx (F : CallOk X f sp) (kp : PySem.W.keepIn X.K (.ref f) = true) (hg : glB G X.env.scope = true) (n : Nat) (hm : X.mg x = some (.ref f)) (ha : PA X (e :: es) t) (hx : G[n]? = some x := by rfl)
    (he : starEach (e :: es) X.env = (false, eval e X.env) :: starEach es X.env := by rfl) (hpl : (backTo pos (starEach es X.env)).any (·.1) = false := by rfl) : PE X (.Call (.Name x p) (e :: es) [] pos) (tCall sp [] EF t) := by
  refine ⟨fun pins s σ H Q I h => ?_⟩
  refine wpAny_Call_Name_kw (ld_glob I (gl_of hg hx).1 hm ?_ (gl_of hg hx).2.1)
  refine PySem.W.callWith_K (h₀ := X.base) I.ok.mod.kin kp (thn (ha.run pos pins s σ H _ I h) fun us s1 ⟨vs, H1, I1, r, q⟩ => ⟨I1.kIn, ?_⟩) he hpl
  have q2 : sp (vs ++ []) H1 Q EF := q
  rw [List.append_nil] at q2
  exact F pins σ H1 s1 Q us vs I1 r q2
end
end Z

/-! ### properties, methods; the head with getters -/
namespace Z
open PySem PySem.W PySem.Spec L2
open PyProof.Rows hiding St
/-- the getter of a property of a class of the top -/
def prA (K : PySem.W.Frag) (C f : Str) : Addr := match PySem.W.recIn K (He.ma K (He.ga K C) f) "property" with
  | some (.ref g :: _) => g
  | _ => 0
def fnA (K : PySem.W.Frag) (a : Addr) : He.FnW := match K.lookup a with
  | some ⟨_, _, .func fd, _⟩ => some (fd.name, fd.qualname, fd.params, fd.body, fd.scope, fd.globals, fd.closure, fd.builtins)
  | _ => none
structure DefG where
  C : Str
  f : Str
  qual : Str
  params : Arguments
  body : List Stmt
  scope : Scope
def DefG.val (d : DefG) : He.FnW := some (d.f, d.qual, d.params, .stmts d.body, d.scope, mainGlobals, [], builtinsNs)
def DefG.ad (K : PySem.W.Frag) (d : DefG) : Addr := prA K d.C d.f
def DefG.ok (K : PySem.W.Frag) (d : DefG) : Bool := PySem.W.keepIn K (.ref (d.ad K)) && (match K.lookup (d.ad K) with
  | some ⟨_, _, .func fd, _⟩ => PySem.W.codeIn K fd.code d.qual && (He.dflB K fd.defaults [] && He.kwdB K fd.kwdefaults [])
  | _ => false)
theorem DefG.funD {K : PySem.W.Frag} {d : DefG} (e : fnA K (d.ad K) = d.val) (c : d.ok K = true) : ∃ fd, FunD K d.f d.qual d.params d.body d.scope [] [] (d.ad K) fd := by
  obtain ⟨kp, c2⟩ := He.ba c
  unfold fnA at e
  cases q : K.lookup (d.ad K) with
  | none =>
    rw [q] at c2
    cases c2
  | some o =>
    obtain ⟨oc, od, dt, osl⟩ := o
    rw [q] at c2 e
    cases dt with
    | func fd =>
      obtain ⟨n1, n2, n3, n4, n5, n6, n7, n8, n9, n10, n11, n12, n13, n14, n15⟩ := fd
      have e2 : (some (n1, n2, n3, n4, n5, n6, n7, n15) : He.FnW) = some (d.f, d.qual, d.params, .stmts d.body, d.scope, mainGlobals, [], builtinsNs) := e
      simp only [Option.some.injEq, Prod.mk.injEq] at e2
      obtain ⟨h1, h2, h3, h4, h5, h6, h7, h8⟩ := e2
      subst h1 h2 h3 h4 h5 h6 h7 h8
      have c3 : (PySem.W.codeIn K n13 d.qual && (He.dflB K n8 [] && He.kwdB K n9 [])) = true := c2
      obtain ⟨k1, k2⟩ := He.ba c3
      obtain ⟨k3, k4⟩ := He.ba k2
      exact ⟨_, ⟨oc, od, n8, n9, n10, n11, n12, n13, n14, osl, rfl, q, k1, He.dflB_ok k3, He.kwdB_ok k4⟩, kp⟩
    | _ => cases c2
abbrev AlY : Type := He.AlX × (Bool × List He.FnW)
def obsY (n : Nat) (fa : List He.Fa) (fn : List He.DefD) (ts : List He.Tab) (ex : PySem.W.Frag → Bool) (gs : List DefG) (g : Addr → Option Obj) : AlY :=
  (He.obsX n fa fn ts [] ex g, (gs.all fun d => d.ok (He.frT g (He.asD g n)), gs.map fun d => fnA (He.frT g (He.asD g n)) (d.ad (He.frT g (He.asD g n)))))
def valY (fn : List He.DefD) (ts : List He.Tab) (gs : List DefG) (w : World) : AlY := (He.valX fn ts w, (true, gs.map DefG.val))
def SaysG (gs : List DefG) (K : PySem.W.Frag) : Prop := ∀ (i : Nat) (d : DefG), gs[i]? = some d → ∃ fd, FunD K d.f d.qual d.params d.body d.scope [] [] (d.ad K) fd
theorem saysG_of {gs : List DefG} {K : PySem.W.Frag} (c : (gs.all fun d => d.ok K) = true) (e : (gs.map fun d => fnA K (d.ad K)) = gs.map DefG.val) : SaysG gs K := fun i d h => by
  have e2 : (gs.map fun d => fnA K (d.ad K))[i]? = (gs.map DefG.val)[i]? := by rw [e]
  rw [List.getElem?_map, List.getElem?_map, h] at e2
  exact DefG.funD (Option.some.inj e2) (List.all_eq_true.mp c d (List.mem_of_getElem? h))
def hookY (n : Nat) (fa : List He.Fa) (fn : List He.DefD) (ts : List He.Tab) (ex : PySem.W.Frag → Bool) (gs : List DefG) : PySem.W.Hook where
  α := AlY
  obs := fun s => obsY n fa fn ts ex gs s.heap.get?
  val := fun w => valY fn ts gs w
  says := fun w h => ∃ K : PySem.W.Frag, K.In h ∧ He.SaysX fa fn ts [] ex w h K ∧ SaysG gs K
  of := fun _ _ e => ⟨_, He.frT_in, He.saysX_of (congrArg (fun z : AlY => z.1) e), saysG_of (congrArg (fun z : AlY => z.2.1) e) (congrArg (fun z : AlY => z.2.2) e)⟩
  keeps := fun _ _ _ ⟨K, hK, c, d⟩ k => ⟨K, PySem.W.Frag.In.keeps hK k, ⟨c.t, c.more, c.hd, c.out, fun p hp => k _ _ (c.empty p hp)⟩, d⟩
theorem obsY_eq {n : Nat} {fa : List He.Fa} {fn : List He.DefD} {ts : List He.Tab} {ex : PySem.W.Frag → Bool} {gs : List DefG} {g : Addr → Option Obj} {s : Shared} (h : ∀ a, g a = s.heap.get? a) : obsY n fa fn ts ex gs g = (hookY n fa fn ts ex gs).obs s := by
  have e : g = s.heap.get? := funext h
  rw [e] <;> rfl
/-- properties -/
def propB (K : PySem.W.Frag) (C f : Str) : Bool := He.eqO (PySem.W.findIn K (.ref (He.ga K C)) f) (some (some (.ref (He.ma K (He.ga K C) f)))) && (He.eqO (PySem.W.specialIn K (.ref (He.ma K (He.ga K C) f)) "__get__") (some (some (.builtin "property.__get__"))) &&
  (decide (PySem.W.takesIn K (.ref (He.ma K (He.ga K C) f)) = some true) && (match PySem.W.recIn K (He.ma K (He.ga K C) f) "property" with
    | some (.ref _ :: _) => true
    | _ => false)))
theorem propB_ok {K : PySem.W.Frag} {C f : Str} (h : propB K C f = true) : PropOf K (He.ga K C) f (He.ma K (He.ga K C) f) (prA K C f) := by
  obtain ⟨h1, h⟩ := He.ba h
  obtain ⟨h2, h⟩ := He.ba h
  obtain ⟨h3, h4⟩ := He.ba h
  refine ⟨He.eqO_ok h1, He.eqO_ok h2, of_decide_eq_true h3, ?_⟩
  unfold prA
  cases e : PySem.W.recIn K (He.ma K (He.ga K C) f) "property" with
  | none => rw [e] at h4; cases h4
  | some l =>
    rw [e] at h4
    cases l with
    | nil => cases h4
    | cons v r =>
      cases v with
      | ref g => exact ⟨r, rfl⟩
      | _ => cases h4
section
variable {X : Cx} {k : Nat} {C p g f : Addr} {m : Str} {ps : List Str} {dvs : List V} {sp : Sp} {e o : Expr} {es : List Expr} {pos apos : Pos} {te ta : TE} {t : TA} {σ : L2.St} {H : Hp} {Q : VK} {fs : List (Str × V)} {a : Addr}
theorem pcP (he : PE X e te) (c : Cls X.K C) (hp : PropOf X.K C m p g) (F : OkD X.prog X.w X.K X.mg X.base k g ps [] sp) (hr : Room (k + 1) X.A) (hab : attributeBase e m X.env (eval e X.env) = eval e X.env := by rfl) : PE X (.Attribute e m pos) (tProp C sp [] EF te) := by
  obtain ⟨fd, ds, kp, b, vd, F⟩ := F
  exact pe_prop he c hp F hr b vd (fun _ _ _ _ _ _ _ q => (cxF q).elim) hab
def kProp (C : Addr) (sp : Sp) (Q : VK) : VK := fun x H1 => ∃ a dx fs, x = .ref a ∧ H1 a = some (.ins C dx fs) ∧ sp (.ref a :: []) H1 Q EF
theorem i_prop (h : te σ H (kProp C sp Q)) : tProp C sp [] EF te σ H Q := h
theorem i_propI (e : IsI C H a fs) (h : sp [.ref a] H Q EF) : kProp C sp Q (.ref a) H := by
  obtain ⟨dx, e⟩ := e
  exact ⟨a, dx, fs, rfl, e, h⟩
theorem pcMe {pl : Sem Bool} (he : PE X o ta) (c : Cls X.K C) (hm : Meth X.K C m f) (F : OkD X.prog X.w X.K X.mg X.base k f ps dvs sp) (hr : Room k X.A) (ha : PA X (e :: es) t)
    (hst : starEach (e :: es) X.env = (false, eval e X.env) :: starEach es X.env := by rfl) (hpl : (backTo pos (starEach es X.env)).any (·.1) = false := by rfl)
    (ht : eval (.Call (.Attribute o m apos) (e :: es) [] pos) X.env = (do
      let ov ← eval o X.env
      standAt apos.atName
      let (f, first) ← holding [ov] (getMethod ov m pl)
      callWith pos f first (backTo pos (starEach (e :: es) X.env)) (backToKw pos (keywordEach [] X.env))) := by rfl) :
    PE X (.Call (.Attribute o m apos) (e :: es) [] pos) (tMeth C m sp dvs EF ta t) := by
  obtain ⟨fd, ds, kp, b, vd, F⟩ := F
  exact pe_meth he c hm F hr b vd (fun _ _ _ _ _ _ _ q => (cxF q).elim) ha hst hpl ht
def kMeth (C : Addr) (m : Str) (sp : Sp) (dvs : List V) (t : TA) (σ : L2.St) (Q : VK) : VK := fun x H1 => ∃ a dx fs, x = .ref a ∧ H1 a = some (.ins C dx fs) ∧ fs.lookup m = none ∧ t σ H1 fun vs H2 => sp (x :: (vs ++ dvs)) H2 Q EF
theorem i_meth (h : ta σ H (kMeth C m sp dvs t σ Q)) : tMeth C m sp dvs EF ta t σ H Q := h
theorem i_methI (e : IsI C H a fs) (l : fs.lookup m = none) (h : t σ H fun vs H2 => sp (.ref a :: (vs ++ dvs)) H2 Q EF) : kMeth C m sp dvs t σ Q (.ref a) H := by
  obtain ⟨dx, e⟩ := e
  exact ⟨a, dx, fs, rfl, e, l, h⟩
end
end Z

namespace Z
open PySem PySem.W PySem.Spec L2
open ClX
open PyProof.Rows hiding St
/-- constants of a class, read through the class -/
def cvalB (K : PySem.W.Frag) (C : Addr) (f : Str) (i : Int) : Bool := PySem.W.readsIn K C (.type "type") && (He.eqO (PySem.W.specialIn K (.ref C) "__getattribute__") (some (some (.builtin "type.__getattribute__"))) && (match PySem.W.findCls K (.ref C) (.type "type") f with
  | some (.val (.int j _)) => decide (j = i)
  | _ => false))
theorem cvalB_ok {K : PySem.W.Frag} {C : Addr} {f : Str} {i : Int} (h : cvalB K C f i = true) : ∃ mc u, CRead K C mc ∧ CVal K C mc f (.int i) u := by
  obtain ⟨h1, h⟩ := He.ba h
  obtain ⟨h2, h3⟩ := He.ba h
  refine ⟨.type "type", ?_⟩
  revert h3
  cases e : PySem.W.findCls K (.ref C) (.type "type") f with
  | none => intro h3; cases h3
  | some r =>
    cases r with
    | val v =>
      cases v with
      | int j t => intro h3; exact ⟨.int j t, ⟨h1, He.eqO_ok h2⟩, ⟨e, t, by rw [of_decide_eq_true h3]⟩⟩
      | _ => intro h3; cases h3
    | _ => intro h3; cases h3
section
variable {K : PySem.W.Frag} {te : TE} {σ : L2.St} {H : Hp} {Q : VK} {f : Str} {C : Addr} {v : V}
def kCVal (K : PySem.W.Frag) (f : Str) (Q : VK) : VK := fun x H1 => ∃ C mc v u, x = .ref C ∧ CRead K C mc ∧ CVal K C mc f v u ∧ Q v H1
theorem i_cval (h : te σ H (kCVal K f Q)) : tCVal K te f σ H Q := h
theorem i_cvalI (c : ∃ mc u, CRead K C mc ∧ CVal K C mc f v u) (h : Q v H) : kCVal K f Q (.ref C) H := by
  obtain ⟨mc, u, c1, c2⟩ := c
  exact ⟨C, mc, v, u, rfl, c1, c2, h⟩
end
theorem OkD.kw0 {P : Program} {w : World} {K : PySem.W.Frag} {mg : Str → Option Value} {base : Heap} {k : Nat} {f : Addr} {ps : List Str} {sp : Sp} {x qual : Str} {params : Arguments} {body : List Stmt} {scope : Scope} {kws : List (Str × V)} {fd : FuncData}
    (F : FunD K x qual params body scope [] kws f fd) (n : Nat) (hk : kws ≠ []) (hn : n + kws.length = ps.length)
    (h : ∀ (D : Addr) (doc pm : Value) (an : Option Addr) (cdv ct : Value) (us ks : List Value), us.length = n → ks.length = kws.length →
      KwChain D ((kws.map (·.1)).zip ks) (bindArgs (PySem.W.fnOf x qual params body scope .none (.ref D) doc pm an cdv ct) ⟨us, []⟩) (ps.zip (us ++ ks))) (R : FnOk P w K mg base (L2N.CX P w) k f fd ps sp) : OkD P w K mg base k f ps (kws.map (·.2)) sp := by
  obtain ⟨ds, vd, b⟩ := F.binds0 n hk hn h
  exact ⟨fd, ds, F.kp, b, vd, R⟩
/-- a test that is never met -/
theorem pt_never {X : Cx} {e : Expr} : PT X e (fun _ _ _ => False) := ⟨fun _ _ _ _ _ _ h => h.elim⟩
end Z

namespace Z
open PySem PySem.W PySem.Spec L2
open PyProof.Rows hiding St
section
variable {X : Cx} {k n : Nat} {f C : Addr} {ps ks : List Str} {sp : Sp} {E : XK} {x : Str} {p pos : Pos} {e : Expr} {es : List Expr} {kws : List Keyword} {t tk : TA} {gV : List V → List V → List V} {G : List Str} {σ : L2.St} {H : Hp} {Q : VK} {vs zs : List V} {m : Nat}
/-- C(e, .., k = v, ..) -/
theorem pcMK (M : Mk X.K C f) (F : ∃ (fd : FuncData) (gg : List Value → List Value → List Value), KBn X.K fd ps (n + 1) ks gg gV ∧ FnOk X.prog X.w X.K X.mg X.base (L2N.CX X.prog X.w) k f fd ps sp) (hr : Room (k + 1) X.A) (hg : glB G X.env.scope = true) (i : Nat) (hm : X.mg x = some (.ref C))
    (ha : PA X (e :: es) t) (hkw : PK X kws tk) (hx : G[i]? = some x := by rfl) (hall : (backToKw pos (keywordEach kws X.env)).all (·.1.isSome) = true := by rfl) (hks : (backToKw pos (keywordEach kws X.env)).filterMap (·.1) = ks := by rfl)
    (he : starEach (e :: es) X.env = (false, eval e X.env) :: starEach es X.env := by rfl) (hpl : ((backTo pos (starEach (e :: es) X.env)).any (·.1) || (backToKw pos (keywordEach kws X.env)).any (·.1.isNone)) = false := by rfl) :
    PE X (.Call (.Name x p) (e :: es) kws pos) (tMakeK C n ks.length sp gV EF t tk) := by
  obtain ⟨fd, gg, kb, F⟩ := F
  exact pe_makeK M F hr (gl_of hg hx).1 hm kb (fun _ _ _ _ _ _ _ q => (cxF q).elim) ha hkw hall hks (gl_of hg hx).2.1 he hpl
def kMK (C : Addr) (n m : Nat) (sp : Sp) (gV : List V → List V → List V) (E : XK) (Q : VK) (vs : List V) : List V → Hp → Prop := fun zs H2 => vs.length = n ∧ zs.length = m ∧ ∀ x dx, H2 x = none → H2 dx = none → dx ≠ x →
  sp (gV (.ref x :: vs) zs) (upd (upd H2 dx (.own x)) x (.ins C dx [])) (fun v H3 => v = .non ∧ Q (.ref x) H3) E
theorem i_makeK (h : t σ H fun vs H1 => tk σ H1 (kMK C n m sp gV E Q vs)) : tMakeK C n m sp gV E t tk σ H Q := h
theorem i_madeK (l1 : vs.length = n) (l2 : zs.length = m) (h : ∀ x H2, (∀ H3, Keep x H2 H3 → Same H H3) → IsI C H2 x [] → sp (gV (.ref x :: vs) zs) H2 (fun v H3 => v = .non ∧ Q (.ref x) H3) E) : kMK C n m sp gV E Q vs zs H :=
  ⟨l1, l2, fun x dx h1 h2 h3 => h x _ (fun H3 k b o e => k b o (ne_of_none e h1) (by rw [upd_ne (ne_of_none e h1), upd_ne (ne_of_none e h2)]; exact e)) ⟨dx, upd_same⟩⟩
end
end Z

/-! ### own exceptions whose __init__ says super().__init__(text), then stores its parameters -/
namespace Z
open PySem PySem.W PySem.Spec L2 PySem.Calls
open PyProof.Rows hiding St
/-- the stores behind: (field, parameter) -/
def asgOf (slf : Str) : List Stmt → Option (List (Str × Str))
  | [] => some []
  | .Assign [.Attribute (.Name s _) f _] (.Name v _) _ :: r => if s = slf then (asgOf slf r).map ((f, v) :: ·) else none
  | _ => none
/-- an exception object with its dict -/
abbrev excW (C t : Addr) (dx : Option Addr) : Obj := { cls := .ref C, dict := dx, data := .fields #[.ref t, .none, .none, .none, .bool false, .none] }
section
variable {P : Program} {w : World} {A : Around} {E : Value → Shared → Prop} {K : PySem.W.Frag} {C e : Addr} {f : Str} {u : Value} {hp : Heap} {g : Array GenState} {d : Drawn} {t : Nat} {os : OsState} {Q : Unit → Shared → Prop}
theorem xset_new {t1 : Addr} (T : OexC K C) (X : K.In hp) (ho : hp.get? e = some (excW C t1 none)) (hno : PySem.W.findIn K (.ref C) f = some none)
    (h : ∀ h' tk dx, (∀ b o, b ≠ e → hp.get? b = some o → h'.get? b = some o) → hp.objs.size ≤ dx → dx ≠ e → h'.get? e = some (excW C t1 (some dx)) → h'.Ns1 dx (fun y => if y = f then some u else none) → Q () ⟨h', g, d, tk, os⟩) :
    wpAny (model P w) A (setAttr (.ref e) f u) Q E ⟨hp, g, d, t, os⟩ := by
  obtain ⟨nm, q, N, bs, bm, sn, sub, ab, col, dd, k0, k1, k2, k3, k5, hC, hbm⟩ := T.cls
  have hcl : PySem.W.clsIn K C = some { name := nm, bases := bs, mro := .ref C :: bm, ns := N, qualname := q, hasDict := true, slotNames := sn, subclasses := sub, abstract := ab, collection := col, hasDel := false } := by unfold PySem.W.clsIn; rw [hC] <;> rfl
  refine PySem.W.set_plain X (ox := excW C t1 none) (od := none) ⟨ho, rfl, rfl, trivial⟩ T.sa ?_
  exact PySem.HandSPX.exc_osa X ho hcl (show PySem.HandSPX.refsVE (.ref C :: bm) = true from hbm) rfl hno fun h' tk dx k dn dne hx hn => h h' tk dx k dn dne hx hn
theorem xset_old {t1 dx : Addr} {m0 : Str → Option Value} {nl : List Str} (T : OexC K C) (X : K.In hp) (ho : hp.get? e = some (excW C t1 (some dx))) (hns : hp.Ns1 dx m0) (hw : Within m0 nl) (hl : nl.length ≤ 900) (hno : PySem.W.findIn K (.ref C) f = some none)
    (h : ∀ h' tk, (∀ b o, b ≠ dx → hp.get? b = some o → h'.get? b = some o) → h'.Ns1 dx (fun y => if y = f then some u else m0 y) → Q () ⟨h', g, d, tk, os⟩) :
    wpAny (model P w) A (setAttr (.ref e) f u) Q E ⟨hp, g, d, t, os⟩ := by
  obtain ⟨nm, q, N, bs, bm, sn, sub, ab, col, dd, k0, k1, k2, k3, k5, hC, hbm⟩ := T.cls
  have hcl : PySem.W.clsIn K C = some { name := nm, bases := bs, mro := .ref C :: bm, ns := N, qualname := q, hasDict := true, slotNames := sn, subclasses := sub, abstract := ab, collection := col, hasDel := false } := by unfold PySem.W.clsIn; rw [hC] <;> rfl
  obtain ⟨oD, _, _, hoD, _, _⟩ := hns.count hw
  refine PySem.W.set_plain X (ox := excW C t1 (some dx)) (od := some oD) ⟨ho, rfl, rfl, hoD⟩ T.sa ?_
  exact PySem.OEX.osa_old X ho hns hw (by omega) hcl (show PySem.HandSPX.refsVE (.ref C :: bm) = true from hbm) rfl hno fun h' tk k hn => h h' tk k hn
end
/-- the class C of the written part: its __init__ (at fI) says super().__init__(a text), then stores -/
structure SupT (P : Program) (K : PySem.W.Frag) (C fI : Addr) (qual : Str) (params : Arguments) (body : List Stmt) (scope : Scope) (slf : Str) (fs : List (Str × Str)) : Prop where
  oex : OexC K C
  ini : PySem.W.findIn K (.ref C) "__init__" = some (some (.ref fI))
  tfn : PySem.W.typeIn K (.ref fI) = some (.type "function")
  fn : ∃ oc od osl kV doc pm an cda ct cc ccl cdd ccs vs file tf cl cld csl, K.lookup fI = some ⟨oc, od, .func (PySem.W.ksFn "__init__" qual params body scope .none kV doc pm an (.ref cda) ct cc), osl⟩ ∧ PySem.W.codeIn K (.ref cda) qual = true ∧
    K.lookup cda = some ⟨ccl, cdd, .fields vs, ccs⟩ ∧ vs[2]? = some (.str file tf) ∧ ((P.main.file : Str) == file) = true ∧ K.lookup cc = some ⟨cl, cld, .cell (some (.ref C)), csl⟩
  mro : PySem.W.mroIn K C (.ref C) = some true
  sup : PySem.W.ks_superIn K C C "__init__" = some (some (.builtin "ValueError.__init__"))
  ve : PySem.W.subIn K (.ref C) (.type "ValueError") = some true
  nsup : PySem.W.nsIn K mainGlobals "super" = some none
  nany : PySem.W.nsIn K cStatics "thirdparty.any" = some none
  top : (P.main.scope.names.lookup ("super" : Str)).isSome = false
  nof : ∀ q ∈ fs, PySem.W.findIn K (.ref C) q.1 = some none
/-- its text -/
structure SupS (params : Arguments) (body : List Stmt) (scope : Scope) (slf : Str) (fs : List (Str × Str)) : Prop where
  shape : ∃ p0 p1 p2 p3 p4 p5 x j asg, body = .Expr (.Call (.Attribute (.Call (.Name "super" p0) [] [] p1) "__init__" p2) [.Constant (.str x) j p5] [] p3) p4 :: asg ∧ asgOf slf asg = some fs ∧
    (∀ env : Env, ∃ pl : Sem Bool, eval (.Call (.Attribute (.Call (.Name "super" p0) [] [] p1) "__init__" p2) [.Constant (.str x) j p5] [] p3) env = (do
      let ov ← attributeBase (.Call (.Name "super" p0) [] [] p1) "__init__" env (eval (.Call (.Name "super" p0) [] [] p1) env)
      standAt p2.atName
      let (f, first) ← holding [ov] (getMethod ov "__init__" pl)
      callWith p3 f first (backTo p3 (starEach [.Constant (.str x) j p5] env)) [])) ∧
    ∀ env : Env, swapsWith (.Call (.Attribute (.Call (.Name "super" p0) [] [] p1) "__init__" p2) [.Constant (.str x) j p5] [] p3) none p4.line env = pure false
  head : (params.posonlyargs ++ params.args).head?.map (·.arg) = some slf
  kind : scope.kind = .function
  co : scope.isCoroutine = false
  gen : scope.isGenerator = false
  nocell : ∀ x ∈ scope.names, x.2 ≠ .cell
  ksup : scope.names.lookup ("super" : Str) = some .globalImplicit
  kcls : scope.names.lookup ("__class__" : Str) = some .free
  kself : scope.names.lookup slf = some .local
  kps : ∀ q ∈ fs, scope.names.lookup q.2 = some .local ∧ (q.2 == ("__debug__" : Str)) = false
  dself : (slf == ("__debug__" : Str)) = false
theorem Paired.mem {vs : List V} {us : List Value} (r : Vals vs us) : True := trivial
theorem xcallW {M : Model} {A : Around} {E : Value → Shared → Prop} {u z : Addr} {i : String} {pos p5 : Pos} {j : Nat} {x : Str} {env : Env} {hp : Heap} {g : Array GenState} {d : Drawn} {t : Nat} {os : OsState} {Q : Value → Shared → Prop} (hu : hp.get? u = some (PySem.W.kxs_mw i z))
    (he : starEach [.Constant (.str x) j p5] env = (false, eval (.Constant (.str x) j p5) env) :: starEach [] env) (hplain : (backTo pos (starEach [] env)).any (·.1) = false)
    (h : wpAny M A (call (.ref u) [.str x t]) Q E ⟨hp, g, d, t + 1, os⟩) :
    wpAny M A (callWith pos (.ref u) [] (backTo pos (starEach [.Constant (.str x) j p5] env)) []) Q E ⟨hp, g, d, t, os⟩ := by
  rw [he]
  refine PySem.W.kxs_callWith (i := i) (x := z) (by show (false || (backTo pos (starEach [] env)).any (·.1)) = false; rw [hplain]; rfl) ?_
  refine Calls.evalArgs_plain ?_
  exact Calls.spliced_cons (Calls.Constant_str (k := j) (pos := p5) (Calls.spliced_nil ⟨hu, h⟩))
section
variable {P : Program} {w : World} {A : Around} {K : PySem.W.Frag} {C fI e : Addr} {qual slf : Str} {params : Arguments} {body : List Stmt} {scope : Scope} {fs : List (Str × Str)} {R : Result → Shared → Prop} {base h : Heap} {g : Array GenState} {d : Drawn} {t : Nat} {os : OsState} {mg : Str → Option Value} {binds : List (Str × Value)} {args : Args} {t0 : Addr}
/-- the call of such an __init__, up to the stores -/
theorem sup_head (T : SupT P K C fI qual params body scope slf fs) (S : SupS params body scope slf fs) (M : Mod K mg base) (hk : ∀ b o, base.get? b = some o → h.get? b = some o) (hbe : base.get? e = none) (he : h.get? e = some (excW C t0 none))
    (hroom : A.depth < recursionLimit) (hbind : ∀ kV doc pm an cdv ct cc, BindsTo ⟨h, g, d, t, os⟩ (PySem.W.ksFn "__init__" qual params body scope .none kV doc pm an cdv ct cc) args binds) (hloc : ∀ x ∈ binds, scope.names.lookup x.1 = some .local) (hself : binds.reverse.lookup slf = some (.ref e))
    (hmg : mg "super" = none)
    (hq : ∀ (env : Env) (asg : List Stmt) (E : Value → Shared → Prop) (h' : Heap) (tk : Nat) (t1 : Addr), env.scope = scope → asgOf slf asg = some fs → (∀ b o, b ≠ e → h.get? b = some o → h'.get? b = some o) → h'.get? e = some (excW C t1 none) → e ≠ env.locals → h'.Ns env.locals (fun y => binds.reverse.lookup y) →
      h.get? env.locals = none → (∀ (f v : Str) (p1 p2 p3 pos : Pos), swapsWith (.Name v p3) (some (.Attribute (.Name slf p1) f p2)) pos.line env = pure false) → wpAny (model P w) (A.deeper env) (execs asg env) (fun fl s' => R (.ok (.ret (match fl with | .ret v => v | _ => .none))) s') E ⟨h', g, d, tk, os⟩) :
    codeAny (model P w) A (.call (.ref fI) args) R ⟨h, g, d, t, os⟩ := by
  obtain ⟨oc, od, osl, kV, doc, pm, an, cda, ct, cc, ccl, cdd, ccs, vs, file, tf, cl, cld, csl, hfn, hcd, hcda, hvs, hfile, hcell⟩ := T.fn
  obtain ⟨nm, q, N, bs, bm, sn, sub, ab, col, dd, k0, k1, k2, k3, k5, hC, hbm⟩ := T.oex.cls
  obtain ⟨p0, p1, p2, p3, p4, p5, x, j, asg, rfl, hasg, hev, hswp⟩ := S.shape
  have KX : K.In h := M.kin.keeps hk
  obtain ⟨ar, har, hse⟩ := Option.map_eq_some_iff.mp S.head
  obtain ⟨mb, hmb, hbo⟩ := M.blt
  refine PySem.ks_codeAny_call_defAt (fd := PySem.W.ksFn "__init__" qual params _ scope .none kV doc pm an (.ref cda) ct cc) (binds := binds) hroom (KX _ _ hfn) rfl (M.nolimit.keeps hk) (PySem.W.codeRec_of KX hcd) rfl (hbind _ _ _ _ _ _ _) S.nocell hloc (fun h0 hns hk0 => ?_) S.co S.gen S.kind
  have hk1 : ∀ b o, base.get? b = some o → h0.get? b = some o := fun b o z => hk0 b o (hk b o z)
  have KX1 : K.In h0 := M.kin.keeps hk1
  have he1 := hk0 _ _ he
  have hC1 := KX1 _ _ hC
  obtain ⟨pl, hev⟩ := hev (PySem.W.ksEnv qual scope h.objs.size fI (.ref cda) cc)
  refine PySem.ks_wpAt_execs_cons (PySem.ks_wpAt_Expr_any (PySem.ks_wpAt_MethodCall ?_ hev) (by show (scope.kind == .module && _) = false; rw [S.kind]; rfl) (hswp _))
  refine PySem.ks_wpAt_super_base (env := PySem.W.ksEnv qual scope h.objs.size fI (.ref cda) cc) S.ksup S.kcls (by decide) rfl (KX1 _ _ hfn) rfl har rfl (KX1 _ _ hcda) rfl hvs hfile T.top ?_
  refine PySem.W.ks_loadName_global S.kind S.ksup (loadGlobal_builtin (env := PySem.W.ksEnv qual scope h.objs.size fI (.ref cda) cc) (M.glob.keeps hk1) hmg (hmb.keeps hk1) ((hbo _ (by decide)).trans (by decide +kernel)) ⟨rfl, ?_⟩)
  refine wpAny_loadName_free S.kind S.kcls rfl ⟨_, KX1 _ _ hcell, rfl⟩ ?_
  rw [hse]
  refine wpAny_loadName_local S.kind S.kself hns hself ?_
  have hcl : PySem.W.clsIn K C = some { name := nm, bases := bs, mro := .ref C :: bm, ns := N, qualname := q, hasDict := true, slotNames := sn, subclasses := sub, abstract := ab, collection := col, hasDel := false } := by unfold PySem.W.clsIn; rw [hC] <;> rfl
  refine PySem.ks_wpAny_isType_cls hC1 rfl ⟨rfl, ?_⟩
  refine PySem.ks_wpAny_call_super hC1 rfl he1 rfl (fun c z => by cases z) (PySem.W.looks_mroIn KX1 T.mro) (fun h1 hso kk1 => ?_)
  have hk2 : ∀ b o, base.get? b = some o → h1.get? b = some o := fun b o z => kk1 b o (hk1 b o z)
  have KX2 : K.In h1 := M.kin.keeps hk2
  have he2 := kk1 _ _ he1
  have I2 : PySem.W.InstAt h1 e (excW C t0 none) C none := ⟨he2, rfl, rfl, trivial⟩
  have hI : PySem.W.Looks (model P w) h1 (isInstance (.ref e) (.type "ValueError")) true := I2.type.andThen (PySem.W.looks_subIn KX2 T.ve)
  refine PySem.W.kxs_getMethod PySem.W.kxs_ValueError hso (PySem.W.looks_opaque KX2 T.nany) (l₀ := .ref C :: bm) ?_ rfl KX2 (by have z := T.sup; unfold PySem.W.ks_superIn at z; rw [hcl] at z; exact z) hI (PySem.W.ks_ne KX2 I2 hcl) (by decide) ?_
  · exact fun A Q E s k q => wpAny_bind ((PySem.W.looks_clsIn KX2 hcl) A _ E s k (wpAny_pure q))
  have kk2 : ∀ b o, h1.get? b = some o → (h1.push (PySem.W.kxs_mw "ValueError.__init__" e)).get? b = some o := fun b o z => Heap.get?_push_of_some _ z
  have hu : (h1.push (PySem.W.kxs_mw "ValueError.__init__" e)).get? h1.objs.size = some (PySem.W.kxs_mw "ValueError.__init__" e) := Heap.get?_push_at rfl rfl
  have he3 := kk2 _ _ he2
  have hC3 : (h1.push (PySem.W.kxs_mw "ValueError.__init__" e)).get? C = _ := kk2 _ _ (KX2 _ _ hC)
  refine xcallW hu rfl rfl ?_
  refine wpAny_call (codeAny_of_tree ?_)
  show wpAny _ (A.deeper _).in1 (callAny (.ref h1.objs.size) ⟨[.str x _], []⟩) _ _ _
  simp only [callAny]
  refine wpAny_bind (wpAny_load hu ?_)
  simp only [PySem.W.kxs_mw, show (Value.type "method-wrapper" == Value.type "method" || Value.type "method-wrapper" == Value.type "builtin_function_or_method" || Value.type "method-wrapper" == Value.type "method-wrapper") = true by decide, if_true]
  refine PySem.W.KFB.if_so (by decide) ?_
  refine wpAny_bind (PySem.W.check_bound_init PySem.F.excBase_ValueError.toExcCallFacts hC3 he3 rfl ?_)
  refine wpAny_bind (wpAny_pure (wpAny_pure ?_))
  refine ⟨Code.quiet_builtin _ (by decide +kernel), codeAny_builtin PySem.F.excBase_ValueError.initEntry ?_⟩
  refine PySem.W.exc_init_tree (cls := .ref C) (t0 := t0) (dv := none) (c2 := .none) (c3 := .none) (b4 := .bool false) he3 (by rw [sizeLine_eq]; show 1 ≤ _; omega) (fun h4 k4 e4 _ => ?_)
  have kk : ∀ b o, b ≠ e → h0.get? b = some o → h4.get? b = some o := fun b o hb z => k4 b o hb (kk2 _ _ (kk1 _ _ z))
  have hL : e ≠ h.objs.size := Nat.ne_of_lt (Heap.lt_size he)
  refine PySem.wpAt_of_wpAny (hq (PySem.W.ksEnv qual scope h.objs.size fI (.ref cda) cc) asg _ h4 _ _ rfl hasg (fun b o hb z => kk b o hb (hk0 _ _ z)) e4 hL ?_ (Heap.get?_none_of_le (Nat.le_refl _)) fun f v p1 p2 p3 pos => rfl)
  obtain ⟨oL, es, ep, ho, hr⟩ := hns
  exact ⟨oL, es, ep, kk _ _ (Ne.symm hL) ho, hr⟩
theorem asg_cons {slf f v : Str} {r : List (Str × Str)} : ∀ {asg : List Stmt}, asgOf slf asg = some ((f, v) :: r) → ∃ p1 p2 p3 pos asg', asg = .Assign [.Attribute (.Name slf p1) f p2] (.Name v p3) pos :: asg' ∧ asgOf slf asg' = some r := by
  intro asg h
  unfold asgOf at h
  split at h
  · cases h
  · rename_i s p1 f' p2 v' p3 pos rest
    split at h
    · rename_i es
      subst es
      obtain ⟨l, e1, e2⟩ := Option.map_eq_some_iff.mp h
      injection e2 with e3 e4
      injection e3 with e5 e6
      subst e4 e5 e6
      exact ⟨p1, p2, p3, pos, rest, rfl, e1⟩
    · cases h
  · cases h
theorem asg_nil {slf : Str} : ∀ {asg : List Stmt}, asgOf slf asg = some [] → asg = [] := by
  intro asg h
  unfold asgOf at h
  split at h
  · rfl
  · rename_i s p1 f' p2 v' p3 pos rest
    split at h
    · obtain ⟨l, e1, e2⟩ := Option.map_eq_some_iff.mp h
      cases e2
    · cases h
  · cases h
/-- one store: what is read of the frame -/
theorem xasg {E : Value → Shared → Prop} {env : Env} {mL : Str → Option Value} {f v : Str} {p1 p2 p3 pos : Pos} {asg : List Stmt} {u : Value} {Q : Flow → Shared → Prop} (hn : h.Ns env.locals mL) (hv : mL v = some u) (hs : mL slf = some (.ref e)) (hk : env.scope.kind = .function)
    (kv : env.scope.names.lookup v = some .local) (dv : (v == ("__debug__" : Str)) = false) (ks : env.scope.names.lookup slf = some .local) (ds : (slf == ("__debug__" : Str)) = false) (hw : swapsWith (.Name v p3) (some (.Attribute (.Name slf p1) f p2)) pos.line env = pure false)
    (hq : wpAny (model P w) A (setAttr (.ref e) f u) (fun _ s' => wpAny (model P w) A (execs asg env) Q E s') E ⟨h, g, d, t, os⟩) : wpAny (model P w) A (execs (.Assign [.Attribute (.Name slf p1) f p2] (.Name v p3) pos :: asg) env) Q E ⟨h, g, d, t, os⟩ := by
  refine wpAny_execs_cons (plainObj_wpAny_Assign_Attribute (wpAny_Name (wpAny_loadName_local hk kv hn hv (wpAny_Name (wpAny_loadName_local hk ks hn hs ?_) ds)) dv) hw)
  exact wpAny_mono hq (fun _ s' z => z) fun _ _ z => z
/-- the call, one field -/
theorem sup_call1 {f v : Str} {u : Value} (T : SupT P K C fI qual params body scope slf [(f, v)]) (S : SupS params body scope slf [(f, v)]) (M : Mod K mg base) (hk : ∀ b o, base.get? b = some o → h.get? b = some o) (hbe : base.get? e = none) (he : h.get? e = some (excW C t0 none))
    (hroom : A.depth < recursionLimit) (hbind : ∀ kV doc pm an cdv ct cc, BindsTo ⟨h, g, d, t, os⟩ (PySem.W.ksFn "__init__" qual params body scope .none kV doc pm an cdv ct cc) args binds) (hloc : ∀ x ∈ binds, scope.names.lookup x.1 = some .local) (hself : binds.reverse.lookup slf = some (.ref e)) (hu : binds.reverse.lookup v = some u)
    (hmg : mg "super" = none)
    (hq : ∀ h' tk dx t1, (∀ b o, b ≠ e → h.get? b = some o → h'.get? b = some o) → h.get? dx = none → dx ≠ e → h'.get? e = some (excW C t1 (some dx)) → h'.Ns1 dx (fun y => if y = f then some u else none) → R (.ok (.ret .none)) ⟨h', g, d, tk, os⟩) :
    codeAny (model P w) A (.call (.ref fI) args) R ⟨h, g, d, t, os⟩ := by
  refine sup_head T S M hk hbe he hroom hbind hloc hself hmg fun env asg E h1 tk t1 hsc hasg k1 e1 eL hns hnl hsw => ?_
  obtain ⟨p1, p2, p3, pos, asg', rfl, hasg'⟩ := asg_cons hasg
  obtain rfl := asg_nil hasg'
  have kb : ∀ b o, base.get? b = some o → h1.get? b = some o := fun b o z => k1 b o (fun q => by rw [q, hbe] at z; cases z) (hk b o z)
  refine xasg hns hu hself (by rw [hsc]; exact S.kind) (by rw [hsc]; exact (S.kps _ (List.mem_cons_self ..)).1) (S.kps _ (List.mem_cons_self ..)).2 (by rw [hsc]; exact S.kself) S.dself (hsw _ _ _ _ _ _) ?_
  refine xset_new T.oex (M.kin.keeps kb) e1 (T.nof _ (List.mem_cons_self ..)) fun h2 tk2 dx k2 dn dne hx hn => ?_
  refine wpAny_execs_nil ?_
  exact hq h2 tk2 dx t1 (fun b o hb z => k2 b o hb (k1 b o hb z)) (by
    cases z : h.get? dx with
    | none => rfl
    | some o => exact absurd (Nat.lt_of_lt_of_le (Heap.lt_size (k1 dx o dne z)) dn) (Nat.lt_irrefl _)) dne hx hn
/-- the call, two fields -/
theorem sup_call2 {f v f2 v2 : Str} {u u2 : Value} (T : SupT P K C fI qual params body scope slf [(f, v), (f2, v2)]) (S : SupS params body scope slf [(f, v), (f2, v2)]) (M : Mod K mg base) (hk : ∀ b o, base.get? b = some o → h.get? b = some o) (hbe : base.get? e = none) (he : h.get? e = some (excW C t0 none))
    (hroom : A.depth < recursionLimit) (hbind : ∀ kV doc pm an cdv ct cc, BindsTo ⟨h, g, d, t, os⟩ (PySem.W.ksFn "__init__" qual params body scope .none kV doc pm an cdv ct cc) args binds) (hloc : ∀ x ∈ binds, scope.names.lookup x.1 = some .local) (hself : binds.reverse.lookup slf = some (.ref e)) (hu : binds.reverse.lookup v = some u) (hu2 : binds.reverse.lookup v2 = some u2)
    (hmg : mg "super" = none)
    (hq : ∀ h' tk dx t1, (∀ b o, b ≠ e → h.get? b = some o → h'.get? b = some o) → h.get? dx = none → dx ≠ e → h'.get? e = some (excW C t1 (some dx)) → h'.Ns1 dx (fun y => if y = f2 then some u2 else if y = f then some u else none) → R (.ok (.ret .none)) ⟨h', g, d, tk, os⟩) :
    codeAny (model P w) A (.call (.ref fI) args) R ⟨h, g, d, t, os⟩ := by
  refine sup_head T S M hk hbe he hroom hbind hloc hself hmg fun env asg E h1 tk t1 hsc hasg k1 e1 eL hns hnl hsw => ?_
  obtain ⟨p1, p2, p3, pos, asg', rfl, hasg'⟩ := asg_cons hasg
  obtain ⟨q1, q2, q3, qos, asg'', rfl, hasg''⟩ := asg_cons hasg'
  obtain rfl := asg_nil hasg''
  have kb : ∀ b o, base.get? b = some o → h1.get? b = some o := fun b o z => k1 b o (fun q => by rw [q, hbe] at z; cases z) (hk b o z)
  refine xasg hns hu hself (by rw [hsc]; exact S.kind) (by rw [hsc]; exact (S.kps _ (List.mem_cons_self ..)).1) (S.kps _ (List.mem_cons_self ..)).2 (by rw [hsc]; exact S.kself) S.dself (hsw _ _ _ _ _ _) ?_
  refine xset_new T.oex (M.kin.keeps kb) e1 (T.nof _ (List.mem_cons_self ..)) fun h2 tk2 dx k2 dn dne hx hn => ?_
  have kb2 : ∀ b o, base.get? b = some o → h2.get? b = some o := fun b o z => k2 b o (fun q => by rw [q, hbe] at z; cases z) (kb b o z)
  have hns2 : h2.Ns env.locals (fun y => binds.reverse.lookup y) := by
    obtain ⟨oL, es, ep, ho, hr⟩ := hns
    exact ⟨oL, es, ep, k2 _ _ (Ne.symm eL) ho, hr⟩
  have m2 : (f2, v2) ∈ [(f, v), (f2, v2)] := List.mem_cons_of_mem _ (List.mem_cons_self ..)
  refine xasg hns2 hu2 hself (by rw [hsc]; exact S.kind) (by rw [hsc]; exact (S.kps _ m2).1) (S.kps _ m2).2 (by rw [hsc]; exact S.kself) S.dself (hsw _ _ _ _ _ _) ?_
  refine xset_old T.oex (M.kin.keeps kb2) hx hn (Within.cons f u Within.nil) (by show 1 ≤ 900; omega) (T.nof _ m2) fun h3 tk3 k3 hn3 => ?_
  refine wpAny_execs_nil ?_
  have hdn : h.get? dx = none := by
    cases z : h.get? dx with
    | none => rfl
    | some o => exact absurd (Nat.lt_of_lt_of_le (Heap.lt_size (k1 dx o dne z)) dn) (Nat.lt_irrefl _)
  exact hq h3 tk3 dx t1 (fun b o hb z => k3 b o (fun q => by rw [q, hdn] at z; cases z) (k2 b o hb (k1 b o hb z))) hdn dne (k3 _ _ (Ne.symm dne) hx) hn3
end
end Z

namespace Z
open PySem PySem.W PySem.Spec L2 PySem.Calls
open PyProof.Rows hiding St
section
variable {X : Cx} {pins : List (Addr × Obj)} {σ : L2.St} {H1 : Hp} {Q : XK} {hp h' : Heap} {g : Array GenState} {d : Drawn} {t t' : Nat} {os : OsState} {a C dx t1 : Addr} {fs : List (Str × V)} {mA : Str → Option Value}
/-- the made exception let go: its dict stands as an exception's dict -/
theorem mkp_of (T : Raises X (.ref C)) (I : Inv X pins σ H1 ⟨hp, g, d, t, os⟩) (k : ∀ b o, hp.get? b = some o → h'.get? b = some o) (na : hp.get? a = none) (nd : hp.get? dx = none) (ne : dx ≠ a) (ho : h'.get? a = some (excW C t1 (some dx))) (hn : h'.Ns1 dx mA) (rel : ∀ f, RelO (fs.lookup f) (mA f))
    (q : Q (.ref C) (some dx) (upd H1 dx (.xd fs))) : L2N.MkP X pins σ Q (.ref a) ⟨h', g, d, t', os⟩ := by
  obtain ⟨G, g1, g2⟩ := restrict h' fun b => decide (b ≠ a)
  have gk : ∀ b, b ≠ a → G.get? b = h'.get? b := fun b hb => g1 b (decide_eq_true hb)
  have ge : G.get? a = none := g2 a (by simp)
  have kk : ∀ b o, hp.get? b = some o → G.get? b = some o := fun b o z => by
    rw [gk b (fun q => by rw [q, na] at z; cases z)]
    exact k b o z
  have Hd : H1 dx = none := I.hok.gone nd
  have Ha : H1 a = none := I.hok.gone na
  have J : Inv X pins σ (upd H1 dx (.xd fs)) ⟨G, g, d, t', os⟩ := I.laidN (t' := t') kk nd Hd ⟨mA, hn.at fun o y => (gk dx ne).trans y, rel⟩
  refine ⟨a, _, _, ⟨G, g, d, t', os⟩, _, .ref C, some dx, rfl, J, fun b o z => ?_, ge, ho, ⟨rfl, rfl, fun vs e => by cases e; rfl⟩, rfl, rfl, ?_, rfl, I.bare, T, q⟩
  · by_cases hb : b = a
    · rw [hb, ge] at z; cases z
    · exact (gk b hb).symm.trans z
  · rw [upd_ne (Ne.symm ne)]; exact Ha
end
/-- readings: C(e), C(e, e2) -/
def tMk1 (C : Addr) (f : Str) (te : TE) : L2.St → Hp → XK → Prop := fun σ H Q => te σ H fun y H1 => ∀ d, H1 d = none → Q (.ref C) (some d) (upd H1 d (.xd [(f, y)]))
def tMk2 (C : Addr) (f f2 : Str) (te te2 : TE) : L2.St → Hp → XK → Prop := fun σ H Q => te σ H fun y H1 => te2 σ H1 fun y2 H2 => ∀ d, H2 d = none → Q (.ref C) (some d) (upd H2 d (.xd [(f2, y2), (f, y)]))
section
variable {X : Cx} {C fI : Addr} {qual slf f v f2 v2 x : Str} {params : Arguments} {body : List Stmt} {scope : Scope} {e e2 : Expr} {te te2 : TE} {p pos : Pos}
theorem pmk_sup1 (T : SupT X.prog X.K C fI qual params body scope slf [(f, v)]) (S : SupS params body scope slf [(f, v)])
    (hbind : ∀ (s : Shared) (kV doc pm : Value) (an : Option Addr) (cdv ct : Value) (cc : Addr) (u0 u1 : Value), BindsTo s (PySem.W.ksFn "__init__" qual params body scope .none kV doc pm an cdv ct cc) ⟨[u0, u1], []⟩ [(slf, u0), (v, u1)])
    (hne : slf ≠ v) (hr : Room 1 X.A) (hg : Gl X x) (hm : X.mg x = some (.ref C)) (hms : X.mg "super" = none) (he : PE X e te)
    (hdb : (x == ("__debug__" : Str)) = false := by decide) (hst : starEach [e] X.env = (false, eval e X.env) :: starEach [] X.env := by rfl) : L2N.PMk X (.Call (.Name x p) [e] [] pos) (tMk1 C f te) := by
  intro pins s σ H Q I h
  obtain ⟨nm, q, N, bs, bm, sn, sub, ab, col, dd, k0, k1, k2, k3, k5, hC, hbm⟩ := T.oex.cls
  refine wpAny_Call_Name_kw (ld_glob I hg hm ?_ hdb)
  refine PySem.W.callWith_K (h₀ := X.base) I.ok.mod.kin T.oex.kC ?_ hst (by rfl)
  rw [hst]
  show wpAny _ _ (spliced ((false, eval e X.env) :: backTo pos (starEach [] X.env))) _ _ s
  refine Calls.spliced_cons (thn (he.run pins s σ H _ I h) fun u s1 ⟨y, H1, I1, r1, q1⟩ => ?_)
  refine Calls.spliced_nil ⟨I1.kIn, ?_⟩
  show wpAny _ _ (call (.ref C) [u]) _ _ _
  obtain ⟨hp, g, dr, tk, os⟩ := s1
  have kk : ∀ b o, hp.get? b = some o → ((hp.push (PySem.W.kdv_tup [u])).push (PySem.HandSPX.excO C hp.objs.size)).get? b = some o := fun b o e => Heap.get?_push_of_some _ (Heap.get?_push_of_some _ e)
  have hget : ((hp.push (PySem.W.kdv_tup [u])).push (PySem.HandSPX.excO C hp.objs.size)).get? (hp.objs.size + 1) = some (PySem.HandSPX.excO C hp.objs.size) := by heap_get
  have hnew : hp.get? (hp.objs.size + 1) = none := Heap.get?_none_of_le (Nat.le_succ _)
  have hbe : X.base.get? (hp.objs.size + 1) = none := by
    cases z : X.base.get? (hp.objs.size + 1) with
    | none => rfl
    | some o => rw [I1.bk _ _ z] at hnew; cases hnew
  refine wpAny_call (PySem.HandSPX.call_own PySem.F.excBase_ValueError (fun Y => PySem.HandSPX.refsVE_contains Y bm hbm) (I1.kIn _ _ hC) (PySem.W.looks_findIn I1.kIn T.ini) (fun slf => PySem.W.bind_fn I1.kIn slf T.tfn) (by rw [sizeLine_eq]; show 1 ≤ _; omega) ?_)
  refine sup_call1 (binds := [(slf, .ref (hp.objs.size + 1)), (v, u)]) (u := u) T S I1.ok.mod (fun b o z => kk b o (I1.bk b o z)) hbe hget (hr.make C [u] []).depth (fun kV doc pm an cdv ct cc => hbind _ _ _ _ _ _ _ _ _ _) (fun z hz => ?_) ?_ ?_ hms fun h' tk' dx t1 k nd ne hx hn => ⟨rfl, ?_⟩
  · rcases List.mem_cons.mp hz with rfl | hz
    · exact S.kself
    · rcases List.mem_cons.mp hz with rfl | hz
      · exact (S.kps _ (List.mem_cons_self ..)).1
      · cases hz
  · show List.lookup slf [(v, u), (slf, .ref (hp.objs.size + 1))] = _
    rw [List.lookup_cons, show (slf == v) = false by simpa using hne]
    simp [List.lookup]
  · show List.lookup v [(v, u), (slf, .ref (hp.objs.size + 1))] = _
    simp [List.lookup]
  · have nd' : hp.get? dx = none := by
      cases z : hp.get? dx with
      | none => rfl
      | some o => rw [kk _ _ z] at nd; cases nd
    refine mkp_of (C := C) (t1 := t1) (fs := [(f, y)]) (raises_own T.oex.exC T.oex.tyC) I1 (fun b o z => k b o (fun q => by rw [q, hnew] at z; cases z) (kk b o z)) hnew nd' ne hx hn (relO_put (fs := []) r1 fun g => True.intro) (q1 dx (I1.hok.gone nd'))
theorem pmk_sup2 (T : SupT X.prog X.K C fI qual params body scope slf [(f, v), (f2, v2)]) (S : SupS params body scope slf [(f, v), (f2, v2)])
    (hbind : ∀ (s : Shared) (kV doc pm : Value) (an : Option Addr) (cdv ct : Value) (cc : Addr) (u0 u1 u2 : Value), BindsTo s (PySem.W.ksFn "__init__" qual params body scope .none kV doc pm an cdv ct cc) ⟨[u0, u1, u2], []⟩ [(slf, u0), (v, u1), (v2, u2)])
    (hne : slf ≠ v) (hne2 : slf ≠ v2) (hne3 : v ≠ v2) (hr : Room 1 X.A) (hg : Gl X x) (hm : X.mg x = some (.ref C)) (hms : X.mg "super" = none) (he : PE X e te) (he2 : PE X e2 te2)
    (hdb : (x == ("__debug__" : Str)) = false := by decide) (hst : starEach [e, e2] X.env = (false, eval e X.env) :: starEach [e2] X.env := by rfl) (hst2 : starEach [e2] X.env = (false, eval e2 X.env) :: starEach [] X.env := by rfl) : L2N.PMk X (.Call (.Name x p) [e, e2] [] pos) (tMk2 C f f2 te te2) := by
  intro pins s σ H Q I h
  obtain ⟨nm, q, N, bs, bm, sn, sub, ab, col, dd, k0, k1, k2, k3, k5, hC, hbm⟩ := T.oex.cls
  refine wpAny_Call_Name_kw (ld_glob I hg hm ?_ hdb)
  refine PySem.W.callWith_K (h₀ := X.base) I.ok.mod.kin T.oex.kC ?_ hst (by rw [hst2]; rfl)
  rw [hst]
  show wpAny _ _ (spliced ((false, eval e X.env) :: backTo pos (starEach [e2] X.env))) _ _ s
  refine Calls.spliced_cons (thn (he.run pins s σ H _ I h) fun u s1 ⟨y, H1, I1, r1, q1⟩ => ?_)
  rw [hst2]
  show wpAny _ _ (spliced ((false, eval e2 X.env) :: backTo pos (starEach [] X.env))) _ _ s1
  refine Calls.spliced_cons (thn (he2.run pins s1 σ H1 _ I1 q1) fun u2 s2 ⟨y2, H2, I2, r2, q2⟩ => ?_)
  refine Calls.spliced_nil ⟨I2.kIn, ?_⟩
  show wpAny _ _ (call (.ref C) [u, u2]) _ _ _
  obtain ⟨hp, g, dr, tk, os⟩ := s2
  have kk : ∀ b o, hp.get? b = some o → ((hp.push (PySem.W.kdv_tup [u, u2])).push (PySem.HandSPX.excO C hp.objs.size)).get? b = some o := fun b o e => Heap.get?_push_of_some _ (Heap.get?_push_of_some _ e)
  have hget : ((hp.push (PySem.W.kdv_tup [u, u2])).push (PySem.HandSPX.excO C hp.objs.size)).get? (hp.objs.size + 1) = some (PySem.HandSPX.excO C hp.objs.size) := by heap_get
  have hnew : hp.get? (hp.objs.size + 1) = none := Heap.get?_none_of_le (Nat.le_succ _)
  have hbe : X.base.get? (hp.objs.size + 1) = none := by
    cases z : X.base.get? (hp.objs.size + 1) with
    | none => rfl
    | some o => rw [I2.bk _ _ z] at hnew; cases hnew
  refine wpAny_call (PySem.HandSPX.call_own PySem.F.excBase_ValueError (fun Y => PySem.HandSPX.refsVE_contains Y bm hbm) (I2.kIn _ _ hC) (PySem.W.looks_findIn I2.kIn T.ini) (fun slf => PySem.W.bind_fn I2.kIn slf T.tfn) (by rw [sizeLine_eq]; show 2 ≤ _; omega) ?_)
  have m2 : (f2, v2) ∈ [(f, v), (f2, v2)] := List.mem_cons_of_mem _ (List.mem_cons_self ..)
  refine sup_call2 (binds := [(slf, .ref (hp.objs.size + 1)), (v, u), (v2, u2)]) (u := u) (u2 := u2) T S I2.ok.mod (fun b o z => kk b o (I2.bk b o z)) hbe hget (hr.make C [u, u2] []).depth (fun kV doc pm an cdv ct cc => hbind _ _ _ _ _ _ _ _ _ _ _) (fun z hz => ?_) ?_ ?_ ?_ hms fun h' tk' dx t1 k nd ne hx hn => ⟨rfl, ?_⟩
  · rcases List.mem_cons.mp hz with rfl | hz
    · exact S.kself
    · rcases List.mem_cons.mp hz with rfl | hz
      · exact (S.kps _ (List.mem_cons_self ..)).1
      · rcases List.mem_cons.mp hz with rfl | hz
        · exact (S.kps _ m2).1
        · cases hz
  · show List.lookup slf [(v2, u2), (v, u), (slf, .ref (hp.objs.size + 1))] = _
    rw [List.lookup_cons, show (slf == v2) = false by simpa using hne2]
    show List.lookup slf [(v, u), (slf, .ref (hp.objs.size + 1))] = _
    rw [List.lookup_cons, show (slf == v) = false by simpa using hne]
    simp [List.lookup]
  · show List.lookup v [(v2, u2), (v, u), (slf, .ref (hp.objs.size + 1))] = _
    rw [List.lookup_cons, show (v == v2) = false by simpa using hne3]
    simp [List.lookup]
  · show List.lookup v2 [(v2, u2), (v, u), (slf, .ref (hp.objs.size + 1))] = _
    simp [List.lookup]
  · have nd' : hp.get? dx = none := by
      cases z : hp.get? dx with
      | none => rfl
      | some o => rw [kk _ _ z] at nd; cases nd
    refine mkp_of (C := C) (t1 := t1) (fs := [(f2, y2), (f, y)]) (raises_own T.oex.exC T.oex.tyC) I2 (fun b o z => k b o (fun q => by rw [q, hnew] at z; cases z) (kk b o z)) hnew nd' ne hx hn (relO_put r2 (relO_put (fs := []) r1 fun g => True.intro)) (q2 dx (I2.hok.gone nd'))
end
end Z

/-! ### raising, catching, what an except suite asks of the exception, defs called there -/
namespace Z
open PySem PySem.W PySem.Spec L2
open PyProof.Rows hiding St
theorem takes_cx {P : Program} {w : World} {K : PySem.W.Frag} {mg : Str → Option Value} {base : Heap} {N : List Str} {qual : Str} {scope : Scope} {f : Addr} {cd : Value} {A : Around} {outer : List Env} {s : Shared} {H : Hp} {E : XK} :
    L2N.Takes (cxOf (L2N.CX P w) P w K mg base N qual scope f cd A outer s H E) (fun cls d _ H => E cls d H) := L2N.takes_of rfl rfl rfl rfl
theorem own_cx {CX : CXT} {P : Program} {w : World} {K : PySem.W.Frag} {mg : Str → Option Value} {base : Heap} {N : List Str} {qual : Str} {scope : Scope} {f : Addr} {cd : Value} {A : Around} {outer : List Env} {s : Shared} {H : Hp} {E : XK} :
    PassesOwn (model (cxOf CX P w K mg base N qual scope f cd A outer s H E).prog (cxOf CX P w K mg base N qual scope f cd A outer s H E).w) (cxOf CX P w K mg base N qual scope f cd A outer s H E).A (cxOf CX P w K mg base N qual scope f cd A outer s H E).env (cxOf CX P w K mg base N qual scope f cd A outer s H E).xe := passes_of rfl
section
variable {X : Cx} {W : WX} {k : Nat} {f C : Addr} {ps : List Str} {dvs : List V} {sp : Sp} {x : Str} {p pos : Pos} {e : Expr} {es : List Expr} {t : TA} {G : List Str} {σ : L2.St} {H : Hp} {Q : VK} {D : Ends}
/-- a call that may raise: what is raised is wished at the caller's slots -/
def tCallW (sp : Sp) (dvs : List V) (W : WX) (t : TA) : TE := fun σ H Q => t σ H fun vs H1 => sp (vs ++ dvs) H1 Q (fun cls d H' => W cls d σ H')
theorem pcW (F : OkD X.prog X.w X.K X.mg X.base k f ps dvs sp) (hr : Room k X.A) (hg : glB G X.env.scope = true) (n : Nat) (hm : X.mg x = some (.ref f)) (tk : L2N.Takes X W) (ha : PA X (e :: es) t) (hx : G[n]? = some x := by rfl)
    (he : starEach (e :: es) X.env = (false, eval e X.env) :: starEach es X.env := by rfl) (hpl : (backTo pos (starEach es X.env)).any (·.1) = false := by rfl) : PE X (.Call (.Name x p) (e :: es) [] pos) (tCallW sp dvs W t) := by
  obtain ⟨fd, ds, kp, b, vd, F⟩ := F
  exact pe_callSD F hr (gl_of hg hx).1 hm kp b vd (fun σ => L2N.passAt tk σ) ha (gl_of hg hx).2.1 he hpl
theorem i_callW (h : t σ H fun vs H1 => sp (vs ++ dvs) H1 Q (fun cls d H' => W cls d σ H')) : tCallW sp dvs W t σ H Q := h
/-- raise -/
def tRs (W : WX) (t : L2.St → Hp → XK → Prop) : TS := fun _ σ H => t σ H fun cls d H' => W cls d σ H'
theorem ps_rs {t : L2.St → Hp → XK → Prop} (hc : X.calm = true) (tk : L2N.Takes X W) (he : L2N.PMk X e t) : PS X (.Raise (some e) none pos) (tRs W t) := L2N.ps_raise hc tk he
theorem i_rs {t : L2.St → Hp → XK → Prop} (h : t σ H fun cls d H' => W cls d σ H') : tRs W t D σ H := h
def kMk1 (C : Addr) (f : Str) (Q : XK) : VK := fun y H1 => ∀ d, H1 d = none → Q (.ref C) (some d) (upd H1 d (.xd [(f, y)]))
theorem i_mk1 {te : TE} {f : Str} {Q : XK} (h : te σ H (kMk1 C f Q)) : tMk1 C f te σ H Q := h
theorem i_mk1e {f : Str} {Q : XK} {v : V} (h : ∀ d H2, Same H H2 → H2 d = some (.xd [(f, v)]) → Q (.ref C) (some d) H2) : kMk1 C f Q v H := fun d hd => h d _ (same_new hd) upd_same
def kMk2 (C : Addr) (f f2 : Str) (Q : XK) (y : V) : VK := fun y2 H2 => ∀ d, H2 d = none → Q (.ref C) (some d) (upd H2 d (.xd [(f2, y2), (f, y)]))
theorem i_mk2 {te te2 : TE} {f f2 : Str} {Q : XK} (h : te σ H fun y H1 => te2 σ H1 (kMk2 C f f2 Q y)) : tMk2 C f f2 te te2 σ H Q := h
theorem i_mk2e {f f2 : Str} {Q : XK} {v v2 : V} (h : ∀ d H2, Same H H2 → H2 d = some (.xd [(f2, v2), (f, v)]) → Q (.ref C) (some d) H2) : kMk2 C f f2 Q v v2 H := fun d hd => h d _ (same_new hd) upd_same
/-- try .. except X as n -/
def tTryA (K : PySem.W.Frag) (c : Value) (i : Nat) (ts : Addr → Value → Option Addr → TS) (Wout : WX) (tb : WX → TS) : TS := fun D σ H => tb (wAs K c i ts Wout D) D σ H
theorem ps_tryA {n : Str} {c : Value} {i : Nat} {body suite : List Stmt} {b₀ : Stmt} {np pos' : Pos} {tb : WX → TS} {ts : Addr → Value → Option Addr → TS} {Wout : WX} (hs : X.stack = X.env :: X.outer) (hf : X.env.frame = some X.env.locals) (hN : X.N.Nodup) (hi : X.N[i]? = some n) (hln : X.env.kindOf n = some .local) (hc : Names X x c) (tk : L2N.Takes X Wout)
    (hb : ∀ (W : WX) (pn : List (Addr × Obj)) (xe : Value → Shared → Prop), L2N.Takes (X.tr pn xe) W → PassesOwn (model X.prog X.w) X.A X.env xe → PSs (X.tr pn xe) body (tb W))
    (hsu : ∀ (a : Addr) (oe : Obj) (cls : Value) (d : Option Addr) (pn : List (Addr × Obj)), L2N.Zn cls d oe → (∃ vs, oe.data = .fields vs) → PSs (X.suite a ((a, oe) :: pn)) (b₀ :: suite) (ts a cls d)) :
    PS X (.Try body [.ExceptHandler (some (.Name x np)) (some n) (b₀ :: suite) pos'] [] [] pos) (tTryA X.K c i ts Wout tb) := L2N.ps_try_as hs hf hN hi hln hc tk hb hsu
theorem i_tryA {K : PySem.W.Frag} {c : Value} {i : Nat} {ts : Addr → Value → Option Addr → TS} {Wout : WX} {tb : WX → TS} (h : tb (wAs K c i ts Wout D) D σ H) : tTryA K c i ts Wout tb D σ H := h
/-- try .. except X: (no name) -/
def tTryO (K : PySem.W.Frag) (c : Value) (ts : Addr → Value → Option Addr → TS) (Wout : WX) (tb : WX → TS) : TS := fun D σ H => tb (wMany K Wout D [(c, ts)]) D σ H
theorem ps_tryO {c : Value} {body suite : List Stmt} {b₀ : Stmt} {np pos' : Pos} {tb : WX → TS} {ts : Addr → Value → Option Addr → TS} {Wout : WX} (hs : X.stack = X.env :: X.outer) (hf : X.env.frame = some X.env.locals) (hc : Names X x c) (tk : L2N.Takes X Wout)
    (hb : ∀ (W : WX) (pn : List (Addr × Obj)) (xe : Value → Shared → Prop), L2N.Takes (X.tr pn xe) W → PassesOwn (model X.prog X.w) X.A X.env xe → PSs (X.tr pn xe) body (tb W))
    (hsu : ∀ (a : Addr) (oe : Obj) (cls : Value) (d : Option Addr) (pn : List (Addr × Obj)), L2N.Zn cls d oe → (∃ vs, oe.data = .fields vs) → PSs (X.suite a ((a, oe) :: pn)) (b₀ :: suite) (ts a cls d)) :
    PS X (.Try body [.ExceptHandler (some (.Name x np)) none (b₀ :: suite) pos'] [] [] pos) (tTryO X.K c ts Wout tb) := L2N.ps_try_many hs hf tk hb (.cons hc hsu .nil)
theorem names_of {c : Addr} (hg : glB G X.env.scope = true) (n : Nat) (hm : X.mg x = some (.ref c)) (hx : G[n]? = some x := by rfl) : Names X x (.ref c) := ⟨(gl_of hg hx).1, (gl_of hg hx).2.1, .inl hm⟩
/-- the body raises nothing -/
theorem ps_tryT {body : List Stmt} {h₀ : ExceptHandler} {hs : List ExceptHandler} {t : TS} (hb : PSs X.nox body t) : PS X (.Try body (h₀ :: hs) [] [] pos) t := ps_try_thru0 hb
end
/-! what a suite asks -/
/-- isinstance(e, c) of the exception in hand -/
structure ExcD (K : PySem.W.Frag) (D : Addr) : Prop where
  c : ExcC K D
def rIsX (K : PySem.W.Frag) (a : Addr) (cls : Value) (d : Option Addr) : List V → Hp → VK → Prop := fun xs H Q => ∃ (D : Addr) (c : V) (cv : Value) (b : Bool), cls = .ref D ∧ ExcC K D ∧ (∀ dd, d = some dd → ∃ fs, H dd = some (.xd fs)) ∧ xs = [.ref a, c] ∧ (∀ u, RelV c u → u = cv) ∧ PySem.W.kitOne K (.ref D) cv = some b ∧ Q (.bl b) H
theorem kin_classX {prog : Program} {w : World} {A : Around} {E : Value → Shared → Prop} {s : Shared} {K : PySem.W.Frag} {x D : Addr} {ox : Obj} {od : Option Obj} {Q : Option Value → Shared → Prop} (c : ExcC K D)
    (X : K.In s.heap) (I : PySem.W.InstAt s.heap x ox D od) (h : Q (some (.ref D)) { s with toks := s.toks + 1 }) : wpAny (model prog w) A (getAttr? (.ref x) "__class__") Q E s := by
  have hf : PySem.W.findObj K D od "__class__" = some (.bind (.builtin "getset_descriptor.__get__") (.builtin "object.__class__")) := by
    obtain ⟨cd, hc, _⟩ := PySem.W.any_some c.hd
    unfold PySem.W.findObj
    rw [hc, Option.bind_some, c.ha, Option.bind_some]
    simp [c.hn, c.ht]
  obtain ⟨hp, g, d, t, os⟩ := s
  have L0 := I.type (M := model prog w)
  have L1 := PySem.W.looks_findIn (M := model prog w) X c.hg
  have L2 := PySem.W.looks_findIn (M := model prog w) X c.hk
  have L3 := PySem.W.looks_find (M := model prog w) X I hf
  have sub : PySem.W.Looks (model prog w) hp (isInstance (.ref x) (.type "BaseException")) true := L0.andThen (PySem.W.looks_subIn X c.hs)
  have hx0 : (false && onTheHeap (Value.builtin "BaseException.__getattribute__")) = false := rfl
  have hx2 : (Value.builtin "BaseException.__getattribute__" == Value.builtin "object.__getattribute__") = false := by decide +kernel
  have hx1 : (onTheHeap (Value.ref D) && Value.builtin "BaseException.__getattribute__" == Value.builtin "object.__getattribute__") = false := by rw [hx2]; rfl
  unfold getAttr? getAttrBy? getAttrBy
  refine wpAny_bind (wpAny_mkText (wpAny_bind (wpAny_attempt (wpAny_holding (wpAny_bind (L0.at (wpAny_bind (L1.at ?_))))))))
  show wpAny _ _ (if (onTheHeap (Value.ref D) && Value.builtin "BaseException.__getattribute__" == Value.builtin "object.__getattribute__") = true then _ else _) _ _ _
  rw [hx1, if_neg Bool.false_ne_true]
  unfold getAttrByItsOwn hookBefore
  refine wpAny_bind ?_
  rw [if_pos (show onTheHeap (Value.ref D) = true from rfl)]
  refine L2.at ?_
  refine wpAny_bind (wpAny_attempt (wpAny_holding ?_))
  unfold callGetattribute
  rw [hx0, if_neg Bool.false_ne_true]
  unfold boundAndCalled
  rw [PySem.F.excAttr_ValueError.ga.bind (.ref x)]
  refine wpAny_bind (wpAny_pure ?_)
  show wpAny _ _ (call (.builtin "BaseException.__getattribute__") [.ref x, .str "__class__" t]) _ _ _
  refine wpAny_call (codeAny_call_builtin PySem.F.excAttr_ValueError.ga.plain PySem.F.entry_bexc_ga ?_)
  refine @PySem.W.check_slot (model prog w) _ _ ⟨hp, g, d, t + 1, os⟩ "BaseException.__getattribute__" "BaseException" "__getattribute__" (.ref x) [.str "__class__" t] [] _ (by decide +kernel) (by decide +kernel) sub (PySem.F.args_bexc_ga (.ref x) (.str "__class__" t)) ?_
  unfold Builtin.«object.__getattribute__»
  refine wpAny_bind (wpAny_of_eq (a := ((Value.ref x : Value), [Value.str "__class__" t])) (by first | rfl | (simp only [slotArgs]; rfl)) ?_)
  refine wpAny_bind (wpAny_pure (wpAny_bind (L0.at (wpAny_bind (L3.at ?_)))))
  show wpAny _ _ (holding [Value.builtin "object.__class__"] (call (.builtin "getset_descriptor.__get__") [.builtin "object.__class__", .ref x, .ref D]) >>= ret) _ _ _
  refine wpAny_bind (wpAny_holding (wpAny_call (PySem.W.class_get (s := ⟨hp, g, d, t + 1, os⟩) (ox := ox) (od := od) X I c.hm ?_)))
  refine wpAny_pure ?_
  show wpAny _ _ (handedOut (.ref D)) _ _ _
  rw [handedOut_of (v := .ref D) rfl]
  first
    | exact wpAny_pure (wpAny_pure h)
    | exact wpAny_pure h
    | exact wpAny_pure (wpAny_bind (wpAny_pure (wpAny_pure h)))
theorem kitx_excD {K : PySem.W.Frag} {x D : Addr} {ox : Obj} {od : Option Obj} (c : ExcC K D) : PySem.W.KitX K (.ref x) (.ref D) (fun h => PySem.W.InstAt h x ox D od) where
  ty := fun _ _ _ I => I.type
  it := fun _ _ X _ => by
    obtain ⟨cdD, hcD, _⟩ := PySem.W.any_some c.hd
    unfold PySem.W.clsIn at hcD
    split at hcD
    · rename_i c' d' cd' sl' ho
      intro A' Q' E' s' k q
      unfold isType loadHead
      exact wpAny_bind (wpAny_loadPart (k _ _ (X _ _ ho)) (wpAny_pure q))
    · cases hcD
  ne := fun h tp dd its n sl X htp => by
    obtain ⟨cdD, hcD, _⟩ := PySem.W.any_some c.hd
    refine Bool.eq_false_iff.mpr fun q => ?_
    have e : D = tp := Value.ref.inj (beq_iff_eq.mp q)
    subst e
    unfold PySem.W.clsIn at hcD
    split at hcD
    · rename_i c' d' cd' sl' ho
      have z := (X _ _ ho).symm.trans htp
      cases z
    · cases hcD
  ca := fun X I k => kin_classX c X I k
section
variable {X : Cx} {pins : List (Addr × Obj)} {σ : L2.St} {H : Hp} {s : Shared} {a D : Addr} {oe : Obj} {cls : Value} {d : Option Addr} {pn : List (Addr × Obj)}
/-- the pinned exception as an instance -/
theorem exc_inst (I : Inv X pins σ H s) (hp : (a, oe) ∈ X.pn) (hz : Zc (.ref D) d oe) (hf : ∃ vs, oe.data = .fields vs) (hd : ∀ dd, d = some dd → ∃ fs, H dd = some (.xd fs)) : ∃ od, PySem.W.InstAt s.heap a oe D od := by
  obtain ⟨hget, _⟩ := I.pin (a, oe) (List.mem_append_left _ hp)
  obtain ⟨vs, hv⟩ := hf
  cases d with
  | none => exact ⟨none, hget, hz.1, by unfold PySem.W.notCls; rw [hv] <;> rfl, by rw [hz.2]; trivial⟩
  | some dd =>
    obtain ⟨fs, ea⟩ := hd dd rfl
    have hx : ObjOk X.prog X.w H s.heap dd (.xd fs) := I.hok dd _ ea
    obtain ⟨mA, hns, hr⟩ := hx
    obtain ⟨od, ho, hl⟩ := lookIn_ns hns
    exact ⟨some od, hget, hz.1, by unfold PySem.W.notCls; rw [hv] <;> rfl, by rw [hz.2]; exact ho⟩
theorem call_isX (hz : Zc cls d oe) (hf : ∃ vs, oe.data = .fields vs) (hp : (a, oe) ∈ X.pn) : CallR X (.builtin "isinstance") (rIsX X.K a cls d) := by
  intro pins s σ H xs us Q I r h
  obtain ⟨D, c, cv, b, rfl, C, hd, rfl, hcv, e, q⟩ := h
  cases r with
  | cons rx rr =>
    cases rr with
    | cons rt rr =>
      cases rr
      cases rx
      have ec := hcv _ rt
      subst ec
      obtain ⟨od, J⟩ := exc_inst I hp hz hf hd
      exact PySem.W.kia_one (kitx_excD C) I.kIn J e (fun z => nomatch z) fun tk => ⟨.bl b, H, I.kept (t' := tk) fun _ _ z => z, rfl, q⟩
/-- e.f of the exception in hand -/
def tXg (K : PySem.W.Frag) (a : Addr) (cls : Value) (d : Option Addr) (f : Str) (te : TE) : TE := fun σ H Q => te σ H fun x H1 => ∃ C : Addr, x = .ref a ∧ cls = .ref C ∧ XfC K C ∧ PySem.W.findIn K (.ref C) f = some none ∧ ∃ (dd : Addr) (fs : List (Str × V)) (v : V), d = some dd ∧ H1 dd = some (.xd fs) ∧ fs.lookup f = some v ∧ Q v H1
theorem pe_xg {e : Expr} {te : TE} {pos : Pos} {n : Str} (he : PE X e te) (hz : Zc cls d oe) (hf : ∃ vs, oe.data = .fields vs) (hp : (a, oe) ∈ X.pn) (hb : attributeBase e n X.env (eval e X.env) = eval e X.env := by rfl) :
    PE X (.Attribute e n pos) (tXg X.K a cls d n te) := by
  refine ⟨fun pins s σ H Q I h => ?_⟩
  refine attr_of hb (thn (he.run pins s σ H _ I h) fun u s1 hh => ?_)
  obtain ⟨x, H1, I1, rx, C, ex, ec, T, hno, dd, fs, v, ed, ea, l, q⟩ := hh
  subst ex
  obtain rfl : u = Value.ref a := rx
  subst ec
  subst ed
  obtain ⟨ha, _⟩ := I1.pin (a, oe) (List.mem_append_left _ hp)
  obtain ⟨vs, hd⟩ := hf
  have hx : ObjOk X.prog X.w H1 s1.heap dd (.xd fs) := I1.hok dd _ ea
  obtain ⟨mA, hns, hr⟩ := hx
  obtain ⟨od, ho, hl⟩ := lookIn_ns hns
  obtain ⟨u, hu, ru⟩ := RelO.some_of (v := v) (o := mA n) (by rw [← l]; exact hr n)
  have J : PySem.W.InstAt s1.heap a oe C (some od) := ⟨ha, hz.1, by unfold PySem.W.notCls; rw [hd] <;> rfl, by rw [hz.2]; exact ho⟩
  exact HandSPX.exc_get I1.kIn J T.ga T.gg T.exC (PySem.W.findObj_own T.hdC hno rfl (by rw [hl, hu])) (handed_of ru) ⟨v, H1, I1.tok _, ru, q⟩
theorem pe_xgS {e : Expr} {te : TE} {pos : Pos} {n : Str} (he : PE (X.suite a ((a, oe) :: pn)) e te) (hz : Zc cls d oe) (hf : ∃ vs, oe.data = .fields vs) (hb : attributeBase e n X.env (eval e X.env) = eval e X.env := by rfl) :
    PE (X.suite a ((a, oe) :: pn)) (.Attribute e n pos) (tXg X.K a cls d n te) := pe_xg (X := X.suite a ((a, oe) :: pn)) he hz hf List.mem_cons_self hb
theorem call_isXS (hz : Zc cls d oe) (hf : ∃ vs, oe.data = .fields vs) : CallR (X.suite a ((a, oe) :: pn)) (.builtin "isinstance") (rIsX X.K a cls d) := call_isX (X := X.suite a ((a, oe) :: pn)) hz hf List.mem_cons_self
theorem i_isX {K : PySem.W.Frag} {Q : VK} {C : Addr} {c : V} {cv : Value} {b : Bool} (x : ExcC K C) (hd : ∀ dd, d = some dd → ∃ fs, H dd = some (.xd fs)) (hc : ∀ u, RelV c u → u = cv) (e : PySem.W.kitOne K (.ref C) cv = some b) (h : Q (.bl b) H) : rIsX K a (.ref C) d [.ref a, c] H Q := ⟨C, c, cv, b, rfl, x, hd, rfl, hc, e, h⟩
def kXg (K : PySem.W.Frag) (a : Addr) (cls : Value) (d : Option Addr) (f : Str) (Q : VK) : VK := fun x H1 => ∃ C : Addr, x = .ref a ∧ cls = .ref C ∧ XfC K C ∧ PySem.W.findIn K (.ref C) f = some none ∧ ∃ (dd : Addr) (fs : List (Str × V)) (v : V), d = some dd ∧ H1 dd = some (.xd fs) ∧ fs.lookup f = some v ∧ Q v H1
theorem i_xg {K : PySem.W.Frag} {Q : VK} {f : Str} {te : TE} (h : te σ H (kXg K a cls d f Q)) : tXg K a cls d f te σ H Q := h
theorem i_xge {K : PySem.W.Frag} {Q : VK} {C dd : Addr} {f : Str} {fs : List (Str × V)} {v : V} (x : XfC K C) (no : PySem.W.findIn K (.ref C) f = some none) (e : H dd = some (.xd fs)) (l : fs.lookup f = some v) (h : Q v H) : kXg K a (.ref C) (some dd) f Q (.ref a) H := ⟨C, rfl, rfl, x, no, dd, fs, v, rfl, e, l, h⟩
end
/-! defs called where an exception is handled -/
def OkH (P : Program) (w : World) (K : PySem.W.Frag) (mg : Str → Option Value) (base : Heap) (k : Nat) (f : Addr) (ps : List Str) (sp : Sp) : Prop :=
  ∃ (fd : FuncData), PySem.W.keepIn K (.ref f) = true ∧ Binds K fd ps [] ∧ L2H.FnH P w K mg base (L2N.CX P w) k f fd ps sp
theorem OkH.mono {P : Program} {w : World} {K : PySem.W.Frag} {mg : Str → Option Value} {base : Heap} {j k : Nat} {f : Addr} {ps : List Str} {sp : Sp} (F : OkH P w K mg base j f ps sp) (h : j ≤ k) : OkH P w K mg base k f ps sp := by
  obtain ⟨fd, a, b, c⟩ := F
  exact ⟨fd, a, b, c.len, fun A outer s H args us vs Q E p hr => c.run A outer s H args us vs Q E p (hr.mono h)⟩
theorem FunD.okH {CX : CXT} {P : Program} {w : World} {K : PySem.W.Frag} {mg : Str → Option Value} {base : Heap} {x qual : Str} {params : Arguments} {body : List Stmt} {scope : Scope} {dvs : List V} {kws : List (Str × V)} {f : Addr} {fd : FuncData} {N ps : List Str} {k : Nat} {sp : Sp}
    (F : FunD K x qual params body scope dvs kws f fd) (S : FnScope N ps scope) (len : ∀ vs H Q E, sp vs H Q E → vs.length = ps.length)
    (hbody : ∀ (cdv : Value) (A : Around) (outer : List Env) (s : Shared) (H : Hp) (vs : List V) (Q : VK) (E : XK) (p : Addr × Obj), L2H.Hot1 A p → L2H.RoomH k (A.deeper (envOfC qual scope s.heap.objs.size f cdv)) → sp vs H Q E →
      ∃ t, PSs (L2H.cxH CX P w K mg base N qual scope f cdv A outer s H E p) body t ∧ t { nx := fun _ H' => Q .non H', rt := Q } (start N vs) H) : L2H.FnH P w K mg base CX (k + 1) f fd ps sp := by
  obtain ⟨oc, od, dV, kV, doc, pm, an, cdv, ct, osl, rfl, lk, hcd, _, _⟩ := F.ex
  exact L2H.fn_ofH lk hcd S len fun A outer s H vs Q E p hh hr hsp => hbody cdv A outer s H vs Q E p hh hr hsp
section
variable {X : Cx} {k : Nat} {f : Addr} {ps : List Str} {sp : Sp} {x : Str} {p pos : Pos} {e : Expr} {es : List Expr} {t : TA} {G : List Str} {σ : L2.St} {H : Hp} {Q : VK}
theorem passH {X : Cx} (σ : L2.St) : PassesAt (L2N.CX X.prog X.w) X σ EF := fun _ _ _ _ _ _ q => (cxF q).elim
theorem pcH (F : OkH X.prog X.w X.K X.mg X.base k f ps sp) (hr : L2H.RoomH k X.A) (hc : L2H.HotC X) (hg : glB G X.env.scope = true) (n : Nat) (hm : X.mg x = some (.ref f)) (ha : PA X (e :: es) t) (hx : G[n]? = some x := by rfl)
    (he : starEach (e :: es) X.env = (false, eval e X.env) :: starEach es X.env := by rfl) (hpl : (backTo pos (starEach es X.env)).any (·.1) = false := by rfl) : PE X (.Call (.Name x p) (e :: es) [] pos) (tCall sp [] EF t) := by
  obtain ⟨fd, kp, b, F⟩ := F
  have q := L2H.pe_callH (q := p) (pos := pos) (E := fun _ => EF) F hr hc (gl_of hg hx).1 hm kp b (fun σ => passH σ) ha (gl_of hg hx).2.1 he hpl
  have e2 : tCall sp [] EF t = tCallS sp (fun _ => EF) t := by
    funext σ H Q
    show (t σ H fun vs H1 => sp (vs ++ []) H1 Q EF) = (t σ H fun vs H1 => sp vs H1 Q EF)
    simp only [List.append_nil]
  rw [e2]
  exact q
/-- in a suite: the handled exception's context is None -/
theorem hot_suite {X : Cx} {a : Addr} {oe : Obj} {cls : Value} {d : Option Addr} {pn : List (Addr × Obj)} (hz : L2N.Zn cls d oe) (hf : ∃ vs, oe.data = .fields vs) : L2H.HotC (X.suite a ((a, oe) :: pn)) := by
  obtain ⟨vs, hv⟩ := hf
  exact ⟨(a, oe), ⟨rfl, vs, hv, hz.2.2 vs hv⟩, List.mem_cons_self⟩
theorem room_suite {X : Cx} {a : Addr} {pn : List (Addr × Obj)} {j : Nat} (hr : Room j X.A) (h : k ≤ j) : L2H.RoomH k (X.suite a pn).A := ⟨by have := hr.dp; show X.A.depth + 3 * k + 5 < _; omega, by have := hr.un; show X.A.units + 16 * k + 200 < _; omega⟩
end
end Z

namespace Z
open PySem PySem.W PySem.Spec L2
open PyProof.Rows hiding St
section
variable {K : PySem.W.Frag} {c cls : Value} {ts : Addr → Value → Option Addr → TS} {Wout : WX} {D : Ends} {H : Hp} {d : Option Addr}
theorem cat0 {z : Option V} {r : L2.St} (e : PySem.W.exmOne K cls c = some true) (h : ∀ a, H a = none → ts a cls d { nx := fun σ' H' => D.nx (σ'.set 0 none) H', rt := D.rt, bk := fun σ' H' => D.bk (σ'.set 0 none) H', ct := fun σ' H' => D.ct (σ'.set 0 none) H' } (some (.ref a) :: r) H) : wAs K c 0 ts Wout D cls d (z :: r) H := ⟨true, e, fun _ => h, fun q => nomatch q⟩
theorem cls0 {z : Option V} {r : L2.St} {F : L2.St → Hp → Prop} {rt : VK} {b1 b2 : L2.St → Hp → Prop} (h : F (none :: r) H) : (Ends.mk (fun σ' H' => F (σ'.set 0 none) H') rt b1 b2).nx (z :: r) H := h
theorem cat1 {a0 z : Option V} {r : L2.St} (e : PySem.W.exmOne K cls c = some true) (h : ∀ a, H a = none → ts a cls d { nx := fun σ' H' => D.nx (σ'.set 1 none) H', rt := D.rt, bk := fun σ' H' => D.bk (σ'.set 1 none) H', ct := fun σ' H' => D.ct (σ'.set 1 none) H' } (a0 :: some (.ref a) :: r) H) : wAs K c 1 ts Wout D cls d (a0 :: z :: r) H := ⟨true, e, fun _ => h, fun q => nomatch q⟩
theorem cls1 {a0 z : Option V} {r : L2.St} {F : L2.St → Hp → Prop} {rt : VK} {b1 b2 : L2.St → Hp → Prop} (h : F (a0 :: none :: r) H) : (Ends.mk (fun σ' H' => F (σ'.set 1 none) H') rt b1 b2).nx (a0 :: z :: r) H := h
theorem cat2 {a0 a1 z : Option V} {r : L2.St} (e : PySem.W.exmOne K cls c = some true) (h : ∀ a, H a = none → ts a cls d { nx := fun σ' H' => D.nx (σ'.set 2 none) H', rt := D.rt, bk := fun σ' H' => D.bk (σ'.set 2 none) H', ct := fun σ' H' => D.ct (σ'.set 2 none) H' } (a0 :: a1 :: some (.ref a) :: r) H) : wAs K c 2 ts Wout D cls d (a0 :: a1 :: z :: r) H := ⟨true, e, fun _ => h, fun q => nomatch q⟩
theorem cls2 {a0 a1 z : Option V} {r : L2.St} {F : L2.St → Hp → Prop} {rt : VK} {b1 b2 : L2.St → Hp → Prop} (h : F (a0 :: a1 :: none :: r) H) : (Ends.mk (fun σ' H' => F (σ'.set 2 none) H') rt b1 b2).nx (a0 :: a1 :: z :: r) H := h
theorem cat3 {a0 a1 a2 z : Option V} {r : L2.St} (e : PySem.W.exmOne K cls c = some true) (h : ∀ a, H a = none → ts a cls d { nx := fun σ' H' => D.nx (σ'.set 3 none) H', rt := D.rt, bk := fun σ' H' => D.bk (σ'.set 3 none) H', ct := fun σ' H' => D.ct (σ'.set 3 none) H' } (a0 :: a1 :: a2 :: some (.ref a) :: r) H) : wAs K c 3 ts Wout D cls d (a0 :: a1 :: a2 :: z :: r) H := ⟨true, e, fun _ => h, fun q => nomatch q⟩
theorem cls3 {a0 a1 a2 z : Option V} {r : L2.St} {F : L2.St → Hp → Prop} {rt : VK} {b1 b2 : L2.St → Hp → Prop} (h : F (a0 :: a1 :: a2 :: none :: r) H) : (Ends.mk (fun σ' H' => F (σ'.set 3 none) H') rt b1 b2).nx (a0 :: a1 :: a2 :: z :: r) H := h
theorem cat4 {a0 a1 a2 a3 z : Option V} {r : L2.St} (e : PySem.W.exmOne K cls c = some true) (h : ∀ a, H a = none → ts a cls d { nx := fun σ' H' => D.nx (σ'.set 4 none) H', rt := D.rt, bk := fun σ' H' => D.bk (σ'.set 4 none) H', ct := fun σ' H' => D.ct (σ'.set 4 none) H' } (a0 :: a1 :: a2 :: a3 :: some (.ref a) :: r) H) : wAs K c 4 ts Wout D cls d (a0 :: a1 :: a2 :: a3 :: z :: r) H := ⟨true, e, fun _ => h, fun q => nomatch q⟩
theorem cls4 {a0 a1 a2 a3 z : Option V} {r : L2.St} {F : L2.St → Hp → Prop} {rt : VK} {b1 b2 : L2.St → Hp → Prop} (h : F (a0 :: a1 :: a2 :: a3 :: none :: r) H) : (Ends.mk (fun σ' H' => F (σ'.set 4 none) H') rt b1 b2).nx (a0 :: a1 :: a2 :: a3 :: z :: r) H := h
theorem cat5 {a0 a1 a2 a3 a4 z : Option V} {r : L2.St} (e : PySem.W.exmOne K cls c = some true) (h : ∀ a, H a = none → ts a cls d { nx := fun σ' H' => D.nx (σ'.set 5 none) H', rt := D.rt, bk := fun σ' H' => D.bk (σ'.set 5 none) H', ct := fun σ' H' => D.ct (σ'.set 5 none) H' } (a0 :: a1 :: a2 :: a3 :: a4 :: some (.ref a) :: r) H) : wAs K c 5 ts Wout D cls d (a0 :: a1 :: a2 :: a3 :: a4 :: z :: r) H := ⟨true, e, fun _ => h, fun q => nomatch q⟩
theorem cls5 {a0 a1 a2 a3 a4 z : Option V} {r : L2.St} {F : L2.St → Hp → Prop} {rt : VK} {b1 b2 : L2.St → Hp → Prop} (h : F (a0 :: a1 :: a2 :: a3 :: a4 :: none :: r) H) : (Ends.mk (fun σ' H' => F (σ'.set 5 none) H') rt b1 b2).nx (a0 :: a1 :: a2 :: a3 :: a4 :: z :: r) H := h
theorem cat6 {a0 a1 a2 a3 a4 a5 z : Option V} {r : L2.St} (e : PySem.W.exmOne K cls c = some true) (h : ∀ a, H a = none → ts a cls d { nx := fun σ' H' => D.nx (σ'.set 6 none) H', rt := D.rt, bk := fun σ' H' => D.bk (σ'.set 6 none) H', ct := fun σ' H' => D.ct (σ'.set 6 none) H' } (a0 :: a1 :: a2 :: a3 :: a4 :: a5 :: some (.ref a) :: r) H) : wAs K c 6 ts Wout D cls d (a0 :: a1 :: a2 :: a3 :: a4 :: a5 :: z :: r) H := ⟨true, e, fun _ => h, fun q => nomatch q⟩
theorem cls6 {a0 a1 a2 a3 a4 a5 z : Option V} {r : L2.St} {F : L2.St → Hp → Prop} {rt : VK} {b1 b2 : L2.St → Hp → Prop} (h : F (a0 :: a1 :: a2 :: a3 :: a4 :: a5 :: none :: r) H) : (Ends.mk (fun σ' H' => F (σ'.set 6 none) H') rt b1 b2).nx (a0 :: a1 :: a2 :: a3 :: a4 :: a5 :: z :: r) H := h
theorem cat7 {a0 a1 a2 a3 a4 a5 a6 z : Option V} {r : L2.St} (e : PySem.W.exmOne K cls c = some true) (h : ∀ a, H a = none → ts a cls d { nx := fun σ' H' => D.nx (σ'.set 7 none) H', rt := D.rt, bk := fun σ' H' => D.bk (σ'.set 7 none) H', ct := fun σ' H' => D.ct (σ'.set 7 none) H' } (a0 :: a1 :: a2 :: a3 :: a4 :: a5 :: a6 :: some (.ref a) :: r) H) : wAs K c 7 ts Wout D cls d (a0 :: a1 :: a2 :: a3 :: a4 :: a5 :: a6 :: z :: r) H := ⟨true, e, fun _ => h, fun q => nomatch q⟩
theorem cls7 {a0 a1 a2 a3 a4 a5 a6 z : Option V} {r : L2.St} {F : L2.St → Hp → Prop} {rt : VK} {b1 b2 : L2.St → Hp → Prop} (h : F (a0 :: a1 :: a2 :: a3 :: a4 :: a5 :: a6 :: none :: r) H) : (Ends.mk (fun σ' H' => F (σ'.set 7 none) H') rt b1 b2).nx (a0 :: a1 :: a2 :: a3 :: a4 :: a5 :: a6 :: z :: r) H := h
theorem cat8 {a0 a1 a2 a3 a4 a5 a6 a7 z : Option V} {r : L2.St} (e : PySem.W.exmOne K cls c = some true) (h : ∀ a, H a = none → ts a cls d { nx := fun σ' H' => D.nx (σ'.set 8 none) H', rt := D.rt, bk := fun σ' H' => D.bk (σ'.set 8 none) H', ct := fun σ' H' => D.ct (σ'.set 8 none) H' } (a0 :: a1 :: a2 :: a3 :: a4 :: a5 :: a6 :: a7 :: some (.ref a) :: r) H) : wAs K c 8 ts Wout D cls d (a0 :: a1 :: a2 :: a3 :: a4 :: a5 :: a6 :: a7 :: z :: r) H := ⟨true, e, fun _ => h, fun q => nomatch q⟩
theorem cls8 {a0 a1 a2 a3 a4 a5 a6 a7 z : Option V} {r : L2.St} {F : L2.St → Hp → Prop} {rt : VK} {b1 b2 : L2.St → Hp → Prop} (h : F (a0 :: a1 :: a2 :: a3 :: a4 :: a5 :: a6 :: a7 :: none :: r) H) : (Ends.mk (fun σ' H' => F (σ'.set 8 none) H') rt b1 b2).nx (a0 :: a1 :: a2 :: a3 :: a4 :: a5 :: a6 :: a7 :: z :: r) H := h
theorem cat9 {a0 a1 a2 a3 a4 a5 a6 a7 a8 z : Option V} {r : L2.St} (e : PySem.W.exmOne K cls c = some true) (h : ∀ a, H a = none → ts a cls d { nx := fun σ' H' => D.nx (σ'.set 9 none) H', rt := D.rt, bk := fun σ' H' => D.bk (σ'.set 9 none) H', ct := fun σ' H' => D.ct (σ'.set 9 none) H' } (a0 :: a1 :: a2 :: a3 :: a4 :: a5 :: a6 :: a7 :: a8 :: some (.ref a) :: r) H) : wAs K c 9 ts Wout D cls d (a0 :: a1 :: a2 :: a3 :: a4 :: a5 :: a6 :: a7 :: a8 :: z :: r) H := ⟨true, e, fun _ => h, fun q => nomatch q⟩
theorem cls9 {a0 a1 a2 a3 a4 a5 a6 a7 a8 z : Option V} {r : L2.St} {F : L2.St → Hp → Prop} {rt : VK} {b1 b2 : L2.St → Hp → Prop} (h : F (a0 :: a1 :: a2 :: a3 :: a4 :: a5 :: a6 :: a7 :: a8 :: none :: r) H) : (Ends.mk (fun σ' H' => F (σ'.set 9 none) H') rt b1 b2).nx (a0 :: a1 :: a2 :: a3 :: a4 :: a5 :: a6 :: a7 :: a8 :: z :: r) H := h
theorem cat10 {a0 a1 a2 a3 a4 a5 a6 a7 a8 a9 z : Option V} {r : L2.St} (e : PySem.W.exmOne K cls c = some true) (h : ∀ a, H a = none → ts a cls d { nx := fun σ' H' => D.nx (σ'.set 10 none) H', rt := D.rt, bk := fun σ' H' => D.bk (σ'.set 10 none) H', ct := fun σ' H' => D.ct (σ'.set 10 none) H' } (a0 :: a1 :: a2 :: a3 :: a4 :: a5 :: a6 :: a7 :: a8 :: a9 :: some (.ref a) :: r) H) : wAs K c 10 ts Wout D cls d (a0 :: a1 :: a2 :: a3 :: a4 :: a5 :: a6 :: a7 :: a8 :: a9 :: z :: r) H := ⟨true, e, fun _ => h, fun q => nomatch q⟩
theorem cls10 {a0 a1 a2 a3 a4 a5 a6 a7 a8 a9 z : Option V} {r : L2.St} {F : L2.St → Hp → Prop} {rt : VK} {b1 b2 : L2.St → Hp → Prop} (h : F (a0 :: a1 :: a2 :: a3 :: a4 :: a5 :: a6 :: a7 :: a8 :: a9 :: none :: r) H) : (Ends.mk (fun σ' H' => F (σ'.set 10 none) H') rt b1 b2).nx (a0 :: a1 :: a2 :: a3 :: a4 :: a5 :: a6 :: a7 :: a8 :: a9 :: z :: r) H := h
theorem cat11 {a0 a1 a2 a3 a4 a5 a6 a7 a8 a9 a10 z : Option V} {r : L2.St} (e : PySem.W.exmOne K cls c = some true) (h : ∀ a, H a = none → ts a cls d { nx := fun σ' H' => D.nx (σ'.set 11 none) H', rt := D.rt, bk := fun σ' H' => D.bk (σ'.set 11 none) H', ct := fun σ' H' => D.ct (σ'.set 11 none) H' } (a0 :: a1 :: a2 :: a3 :: a4 :: a5 :: a6 :: a7 :: a8 :: a9 :: a10 :: some (.ref a) :: r) H) : wAs K c 11 ts Wout D cls d (a0 :: a1 :: a2 :: a3 :: a4 :: a5 :: a6 :: a7 :: a8 :: a9 :: a10 :: z :: r) H := ⟨true, e, fun _ => h, fun q => nomatch q⟩
theorem cls11 {a0 a1 a2 a3 a4 a5 a6 a7 a8 a9 a10 z : Option V} {r : L2.St} {F : L2.St → Hp → Prop} {rt : VK} {b1 b2 : L2.St → Hp → Prop} (h : F (a0 :: a1 :: a2 :: a3 :: a4 :: a5 :: a6 :: a7 :: a8 :: a9 :: a10 :: none :: r) H) : (Ends.mk (fun σ' H' => F (σ'.set 11 none) H') rt b1 b2).nx (a0 :: a1 :: a2 :: a3 :: a4 :: a5 :: a6 :: a7 :: a8 :: a9 :: a10 :: z :: r) H := h
theorem cat12 {a0 a1 a2 a3 a4 a5 a6 a7 a8 a9 a10 a11 z : Option V} {r : L2.St} (e : PySem.W.exmOne K cls c = some true) (h : ∀ a, H a = none → ts a cls d { nx := fun σ' H' => D.nx (σ'.set 12 none) H', rt := D.rt, bk := fun σ' H' => D.bk (σ'.set 12 none) H', ct := fun σ' H' => D.ct (σ'.set 12 none) H' } (a0 :: a1 :: a2 :: a3 :: a4 :: a5 :: a6 :: a7 :: a8 :: a9 :: a10 :: a11 :: some (.ref a) :: r) H) : wAs K c 12 ts Wout D cls d (a0 :: a1 :: a2 :: a3 :: a4 :: a5 :: a6 :: a7 :: a8 :: a9 :: a10 :: a11 :: z :: r) H := ⟨true, e, fun _ => h, fun q => nomatch q⟩
theorem cls12 {a0 a1 a2 a3 a4 a5 a6 a7 a8 a9 a10 a11 z : Option V} {r : L2.St} {F : L2.St → Hp → Prop} {rt : VK} {b1 b2 : L2.St → Hp → Prop} (h : F (a0 :: a1 :: a2 :: a3 :: a4 :: a5 :: a6 :: a7 :: a8 :: a9 :: a10 :: a11 :: none :: r) H) : (Ends.mk (fun σ' H' => F (σ'.set 12 none) H') rt b1 b2).nx (a0 :: a1 :: a2 :: a3 :: a4 :: a5 :: a6 :: a7 :: a8 :: a9 :: a10 :: a11 :: z :: r) H := h
theorem cat13 {a0 a1 a2 a3 a4 a5 a6 a7 a8 a9 a10 a11 a12 z : Option V} {r : L2.St} (e : PySem.W.exmOne K cls c = some true) (h : ∀ a, H a = none → ts a cls d { nx := fun σ' H' => D.nx (σ'.set 13 none) H', rt := D.rt, bk := fun σ' H' => D.bk (σ'.set 13 none) H', ct := fun σ' H' => D.ct (σ'.set 13 none) H' } (a0 :: a1 :: a2 :: a3 :: a4 :: a5 :: a6 :: a7 :: a8 :: a9 :: a10 :: a11 :: a12 :: some (.ref a) :: r) H) : wAs K c 13 ts Wout D cls d (a0 :: a1 :: a2 :: a3 :: a4 :: a5 :: a6 :: a7 :: a8 :: a9 :: a10 :: a11 :: a12 :: z :: r) H := ⟨true, e, fun _ => h, fun q => nomatch q⟩
theorem cls13 {a0 a1 a2 a3 a4 a5 a6 a7 a8 a9 a10 a11 a12 z : Option V} {r : L2.St} {F : L2.St → Hp → Prop} {rt : VK} {b1 b2 : L2.St → Hp → Prop} (h : F (a0 :: a1 :: a2 :: a3 :: a4 :: a5 :: a6 :: a7 :: a8 :: a9 :: a10 :: a11 :: a12 :: none :: r) H) : (Ends.mk (fun σ' H' => F (σ'.set 13 none) H') rt b1 b2).nx (a0 :: a1 :: a2 :: a3 :: a4 :: a5 :: a6 :: a7 :: a8 :: a9 :: a10 :: a11 :: a12 :: z :: r) H := h
theorem cat14 {a0 a1 a2 a3 a4 a5 a6 a7 a8 a9 a10 a11 a12 a13 z : Option V} {r : L2.St} (e : PySem.W.exmOne K cls c = some true) (h : ∀ a, H a = none → ts a cls d { nx := fun σ' H' => D.nx (σ'.set 14 none) H', rt := D.rt, bk := fun σ' H' => D.bk (σ'.set 14 none) H', ct := fun σ' H' => D.ct (σ'.set 14 none) H' } (a0 :: a1 :: a2 :: a3 :: a4 :: a5 :: a6 :: a7 :: a8 :: a9 :: a10 :: a11 :: a12 :: a13 :: some (.ref a) :: r) H) : wAs K c 14 ts Wout D cls d (a0 :: a1 :: a2 :: a3 :: a4 :: a5 :: a6 :: a7 :: a8 :: a9 :: a10 :: a11 :: a12 :: a13 :: z :: r) H := ⟨true, e, fun _ => h, fun q => nomatch q⟩
theorem cls14 {a0 a1 a2 a3 a4 a5 a6 a7 a8 a9 a10 a11 a12 a13 z : Option V} {r : L2.St} {F : L2.St → Hp → Prop} {rt : VK} {b1 b2 : L2.St → Hp → Prop} (h : F (a0 :: a1 :: a2 :: a3 :: a4 :: a5 :: a6 :: a7 :: a8 :: a9 :: a10 :: a11 :: a12 :: a13 :: none :: r) H) : (Ends.mk (fun σ' H' => F (σ'.set 14 none) H') rt b1 b2).nx (a0 :: a1 :: a2 :: a3 :: a4 :: a5 :: a6 :: a7 :: a8 :: a9 :: a10 :: a11 :: a12 :: a13 :: z :: r) H := h
theorem cat15 {a0 a1 a2 a3 a4 a5 a6 a7 a8 a9 a10 a11 a12 a13 a14 z : Option V} {r : L2.St} (e : PySem.W.exmOne K cls c = some true) (h : ∀ a, H a = none → ts a cls d { nx := fun σ' H' => D.nx (σ'.set 15 none) H', rt := D.rt, bk := fun σ' H' => D.bk (σ'.set 15 none) H', ct := fun σ' H' => D.ct (σ'.set 15 none) H' } (a0 :: a1 :: a2 :: a3 :: a4 :: a5 :: a6 :: a7 :: a8 :: a9 :: a10 :: a11 :: a12 :: a13 :: a14 :: some (.ref a) :: r) H) : wAs K c 15 ts Wout D cls d (a0 :: a1 :: a2 :: a3 :: a4 :: a5 :: a6 :: a7 :: a8 :: a9 :: a10 :: a11 :: a12 :: a13 :: a14 :: z :: r) H := ⟨true, e, fun _ => h, fun q => nomatch q⟩
theorem cls15 {a0 a1 a2 a3 a4 a5 a6 a7 a8 a9 a10 a11 a12 a13 a14 z : Option V} {r : L2.St} {F : L2.St → Hp → Prop} {rt : VK} {b1 b2 : L2.St → Hp → Prop} (h : F (a0 :: a1 :: a2 :: a3 :: a4 :: a5 :: a6 :: a7 :: a8 :: a9 :: a10 :: a11 :: a12 :: a13 :: a14 :: none :: r) H) : (Ends.mk (fun σ' H' => F (σ'.set 15 none) H') rt b1 b2).nx (a0 :: a1 :: a2 :: a3 :: a4 :: a5 :: a6 :: a7 :: a8 :: a9 :: a10 :: a11 :: a12 :: a13 :: a14 :: z :: r) H := h
theorem cat16 {a0 a1 a2 a3 a4 a5 a6 a7 a8 a9 a10 a11 a12 a13 a14 a15 z : Option V} {r : L2.St} (e : PySem.W.exmOne K cls c = some true) (h : ∀ a, H a = none → ts a cls d { nx := fun σ' H' => D.nx (σ'.set 16 none) H', rt := D.rt, bk := fun σ' H' => D.bk (σ'.set 16 none) H', ct := fun σ' H' => D.ct (σ'.set 16 none) H' } (a0 :: a1 :: a2 :: a3 :: a4 :: a5 :: a6 :: a7 :: a8 :: a9 :: a10 :: a11 :: a12 :: a13 :: a14 :: a15 :: some (.ref a) :: r) H) : wAs K c 16 ts Wout D cls d (a0 :: a1 :: a2 :: a3 :: a4 :: a5 :: a6 :: a7 :: a8 :: a9 :: a10 :: a11 :: a12 :: a13 :: a14 :: a15 :: z :: r) H := ⟨true, e, fun _ => h, fun q => nomatch q⟩
theorem cls16 {a0 a1 a2 a3 a4 a5 a6 a7 a8 a9 a10 a11 a12 a13 a14 a15 z : Option V} {r : L2.St} {F : L2.St → Hp → Prop} {rt : VK} {b1 b2 : L2.St → Hp → Prop} (h : F (a0 :: a1 :: a2 :: a3 :: a4 :: a5 :: a6 :: a7 :: a8 :: a9 :: a10 :: a11 :: a12 :: a13 :: a14 :: a15 :: none :: r) H) : (Ends.mk (fun σ' H' => F (σ'.set 16 none) H') rt b1 b2).nx (a0 :: a1 :: a2 :: a3 :: a4 :: a5 :: a6 :: a7 :: a8 :: a9 :: a10 :: a11 :: a12 :: a13 :: a14 :: a15 :: z :: r) H := h
theorem cat17 {a0 a1 a2 a3 a4 a5 a6 a7 a8 a9 a10 a11 a12 a13 a14 a15 a16 z : Option V} {r : L2.St} (e : PySem.W.exmOne K cls c = some true) (h : ∀ a, H a = none → ts a cls d { nx := fun σ' H' => D.nx (σ'.set 17 none) H', rt := D.rt, bk := fun σ' H' => D.bk (σ'.set 17 none) H', ct := fun σ' H' => D.ct (σ'.set 17 none) H' } (a0 :: a1 :: a2 :: a3 :: a4 :: a5 :: a6 :: a7 :: a8 :: a9 :: a10 :: a11 :: a12 :: a13 :: a14 :: a15 :: a16 :: some (.ref a) :: r) H) : wAs K c 17 ts Wout D cls d (a0 :: a1 :: a2 :: a3 :: a4 :: a5 :: a6 :: a7 :: a8 :: a9 :: a10 :: a11 :: a12 :: a13 :: a14 :: a15 :: a16 :: z :: r) H := ⟨true, e, fun _ => h, fun q => nomatch q⟩
theorem cls17 {a0 a1 a2 a3 a4 a5 a6 a7 a8 a9 a10 a11 a12 a13 a14 a15 a16 z : Option V} {r : L2.St} {F : L2.St → Hp → Prop} {rt : VK} {b1 b2 : L2.St → Hp → Prop} (h : F (a0 :: a1 :: a2 :: a3 :: a4 :: a5 :: a6 :: a7 :: a8 :: a9 :: a10 :: a11 :: a12 :: a13 :: a14 :: a15 :: a16 :: none :: r) H) : (Ends.mk (fun σ' H' => F (σ'.set 17 none) H') rt b1 b2).nx (a0 :: a1 :: a2 :: a3 :: a4 :: a5 :: a6 :: a7 :: a8 :: a9 :: a10 :: a11 :: a12 :: a13 :: a14 :: a15 :: a16 :: z :: r) H := h
theorem cat18 {a0 a1 a2 a3 a4 a5 a6 a7 a8 a9 a10 a11 a12 a13 a14 a15 a16 a17 z : Option V} {r : L2.St} (e : PySem.W.exmOne K cls c = some true) (h : ∀ a, H a = none → ts a cls d { nx := fun σ' H' => D.nx (σ'.set 18 none) H', rt := D.rt, bk := fun σ' H' => D.bk (σ'.set 18 none) H', ct := fun σ' H' => D.ct (σ'.set 18 none) H' } (a0 :: a1 :: a2 :: a3 :: a4 :: a5 :: a6 :: a7 :: a8 :: a9 :: a10 :: a11 :: a12 :: a13 :: a14 :: a15 :: a16 :: a17 :: some (.ref a) :: r) H) : wAs K c 18 ts Wout D cls d (a0 :: a1 :: a2 :: a3 :: a4 :: a5 :: a6 :: a7 :: a8 :: a9 :: a10 :: a11 :: a12 :: a13 :: a14 :: a15 :: a16 :: a17 :: z :: r) H := ⟨true, e, fun _ => h, fun q => nomatch q⟩
theorem cls18 {a0 a1 a2 a3 a4 a5 a6 a7 a8 a9 a10 a11 a12 a13 a14 a15 a16 a17 z : Option V} {r : L2.St} {F : L2.St → Hp → Prop} {rt : VK} {b1 b2 : L2.St → Hp → Prop} (h : F (a0 :: a1 :: a2 :: a3 :: a4 :: a5 :: a6 :: a7 :: a8 :: a9 :: a10 :: a11 :: a12 :: a13 :: a14 :: a15 :: a16 :: a17 :: none :: r) H) : (Ends.mk (fun σ' H' => F (σ'.set 18 none) H') rt b1 b2).nx (a0 :: a1 :: a2 :: a3 :: a4 :: a5 :: a6 :: a7 :: a8 :: a9 :: a10 :: a11 :: a12 :: a13 :: a14 :: a15 :: a16 :: a17 :: z :: r) H := h
theorem cat19 {a0 a1 a2 a3 a4 a5 a6 a7 a8 a9 a10 a11 a12 a13 a14 a15 a16 a17 a18 z : Option V} {r : L2.St} (e : PySem.W.exmOne K cls c = some true) (h : ∀ a, H a = none → ts a cls d { nx := fun σ' H' => D.nx (σ'.set 19 none) H', rt := D.rt, bk := fun σ' H' => D.bk (σ'.set 19 none) H', ct := fun σ' H' => D.ct (σ'.set 19 none) H' } (a0 :: a1 :: a2 :: a3 :: a4 :: a5 :: a6 :: a7 :: a8 :: a9 :: a10 :: a11 :: a12 :: a13 :: a14 :: a15 :: a16 :: a17 :: a18 :: some (.ref a) :: r) H) : wAs K c 19 ts Wout D cls d (a0 :: a1 :: a2 :: a3 :: a4 :: a5 :: a6 :: a7 :: a8 :: a9 :: a10 :: a11 :: a12 :: a13 :: a14 :: a15 :: a16 :: a17 :: a18 :: z :: r) H := ⟨true, e, fun _ => h, fun q => nomatch q⟩
theorem cls19 {a0 a1 a2 a3 a4 a5 a6 a7 a8 a9 a10 a11 a12 a13 a14 a15 a16 a17 a18 z : Option V} {r : L2.St} {F : L2.St → Hp → Prop} {rt : VK} {b1 b2 : L2.St → Hp → Prop} (h : F (a0 :: a1 :: a2 :: a3 :: a4 :: a5 :: a6 :: a7 :: a8 :: a9 :: a10 :: a11 :: a12 :: a13 :: a14 :: a15 :: a16 :: a17 :: a18 :: none :: r) H) : (Ends.mk (fun σ' H' => F (σ'.set 19 none) H') rt b1 b2).nx (a0 :: a1 :: a2 :: a3 :: a4 :: a5 :: a6 :: a7 :: a8 :: a9 :: a10 :: a11 :: a12 :: a13 :: a14 :: a15 :: a16 :: a17 :: a18 :: z :: r) H := h
theorem cat20 {a0 a1 a2 a3 a4 a5 a6 a7 a8 a9 a10 a11 a12 a13 a14 a15 a16 a17 a18 a19 z : Option V} {r : L2.St} (e : PySem.W.exmOne K cls c = some true) (h : ∀ a, H a = none → ts a cls d { nx := fun σ' H' => D.nx (σ'.set 20 none) H', rt := D.rt, bk := fun σ' H' => D.bk (σ'.set 20 none) H', ct := fun σ' H' => D.ct (σ'.set 20 none) H' } (a0 :: a1 :: a2 :: a3 :: a4 :: a5 :: a6 :: a7 :: a8 :: a9 :: a10 :: a11 :: a12 :: a13 :: a14 :: a15 :: a16 :: a17 :: a18 :: a19 :: some (.ref a) :: r) H) : wAs K c 20 ts Wout D cls d (a0 :: a1 :: a2 :: a3 :: a4 :: a5 :: a6 :: a7 :: a8 :: a9 :: a10 :: a11 :: a12 :: a13 :: a14 :: a15 :: a16 :: a17 :: a18 :: a19 :: z :: r) H := ⟨true, e, fun _ => h, fun q => nomatch q⟩
theorem cls20 {a0 a1 a2 a3 a4 a5 a6 a7 a8 a9 a10 a11 a12 a13 a14 a15 a16 a17 a18 a19 z : Option V} {r : L2.St} {F : L2.St → Hp → Prop} {rt : VK} {b1 b2 : L2.St → Hp → Prop} (h : F (a0 :: a1 :: a2 :: a3 :: a4 :: a5 :: a6 :: a7 :: a8 :: a9 :: a10 :: a11 :: a12 :: a13 :: a14 :: a15 :: a16 :: a17 :: a18 :: a19 :: none :: r) H) : (Ends.mk (fun σ' H' => F (σ'.set 20 none) H') rt b1 b2).nx (a0 :: a1 :: a2 :: a3 :: a4 :: a5 :: a6 :: a7 :: a8 :: a9 :: a10 :: a11 :: a12 :: a13 :: a14 :: a15 :: a16 :: a17 :: a18 :: a19 :: z :: r) H := h
theorem cat21 {a0 a1 a2 a3 a4 a5 a6 a7 a8 a9 a10 a11 a12 a13 a14 a15 a16 a17 a18 a19 a20 z : Option V} {r : L2.St} (e : PySem.W.exmOne K cls c = some true) (h : ∀ a, H a = none → ts a cls d { nx := fun σ' H' => D.nx (σ'.set 21 none) H', rt := D.rt, bk := fun σ' H' => D.bk (σ'.set 21 none) H', ct := fun σ' H' => D.ct (σ'.set 21 none) H' } (a0 :: a1 :: a2 :: a3 :: a4 :: a5 :: a6 :: a7 :: a8 :: a9 :: a10 :: a11 :: a12 :: a13 :: a14 :: a15 :: a16 :: a17 :: a18 :: a19 :: a20 :: some (.ref a) :: r) H) : wAs K c 21 ts Wout D cls d (a0 :: a1 :: a2 :: a3 :: a4 :: a5 :: a6 :: a7 :: a8 :: a9 :: a10 :: a11 :: a12 :: a13 :: a14 :: a15 :: a16 :: a17 :: a18 :: a19 :: a20 :: z :: r) H := ⟨true, e, fun _ => h, fun q => nomatch q⟩
theorem cls21 {a0 a1 a2 a3 a4 a5 a6 a7 a8 a9 a10 a11 a12 a13 a14 a15 a16 a17 a18 a19 a20 z : Option V} {r : L2.St} {F : L2.St → Hp → Prop} {rt : VK} {b1 b2 : L2.St → Hp → Prop} (h : F (a0 :: a1 :: a2 :: a3 :: a4 :: a5 :: a6 :: a7 :: a8 :: a9 :: a10 :: a11 :: a12 :: a13 :: a14 :: a15 :: a16 :: a17 :: a18 :: a19 :: a20 :: none :: r) H) : (Ends.mk (fun σ' H' => F (σ'.set 21 none) H') rt b1 b2).nx (a0 :: a1 :: a2 :: a3 :: a4 :: a5 :: a6 :: a7 :: a8 :: a9 :: a10 :: a11 :: a12 :: a13 :: a14 :: a15 :: a16 :: a17 :: a18 :: a19 :: a20 :: z :: r) H := h
theorem cat22 {a0 a1 a2 a3 a4 a5 a6 a7 a8 a9 a10 a11 a12 a13 a14 a15 a16 a17 a18 a19 a20 a21 z : Option V} {r : L2.St} (e : PySem.W.exmOne K cls c = some true) (h : ∀ a, H a = none → ts a cls d { nx := fun σ' H' => D.nx (σ'.set 22 none) H', rt := D.rt, bk := fun σ' H' => D.bk (σ'.set 22 none) H', ct := fun σ' H' => D.ct (σ'.set 22 none) H' } (a0 :: a1 :: a2 :: a3 :: a4 :: a5 :: a6 :: a7 :: a8 :: a9 :: a10 :: a11 :: a12 :: a13 :: a14 :: a15 :: a16 :: a17 :: a18 :: a19 :: a20 :: a21 :: some (.ref a) :: r) H) : wAs K c 22 ts Wout D cls d (a0 :: a1 :: a2 :: a3 :: a4 :: a5 :: a6 :: a7 :: a8 :: a9 :: a10 :: a11 :: a12 :: a13 :: a14 :: a15 :: a16 :: a17 :: a18 :: a19 :: a20 :: a21 :: z :: r) H := ⟨true, e, fun _ => h, fun q => nomatch q⟩
theorem cls22 {a0 a1 a2 a3 a4 a5 a6 a7 a8 a9 a10 a11 a12 a13 a14 a15 a16 a17 a18 a19 a20 a21 z : Option V} {r : L2.St} {F : L2.St → Hp → Prop} {rt : VK} {b1 b2 : L2.St → Hp → Prop} (h : F (a0 :: a1 :: a2 :: a3 :: a4 :: a5 :: a6 :: a7 :: a8 :: a9 :: a10 :: a11 :: a12 :: a13 :: a14 :: a15 :: a16 :: a17 :: a18 :: a19 :: a20 :: a21 :: none :: r) H) : (Ends.mk (fun σ' H' => F (σ'.set 22 none) H') rt b1 b2).nx (a0 :: a1 :: a2 :: a3 :: a4 :: a5 :: a6 :: a7 :: a8 :: a9 :: a10 :: a11 :: a12 :: a13 :: a14 :: a15 :: a16 :: a17 :: a18 :: a19 :: a20 :: a21 :: z :: r) H := h
theorem cat23 {a0 a1 a2 a3 a4 a5 a6 a7 a8 a9 a10 a11 a12 a13 a14 a15 a16 a17 a18 a19 a20 a21 a22 z : Option V} {r : L2.St} (e : PySem.W.exmOne K cls c = some true) (h : ∀ a, H a = none → ts a cls d { nx := fun σ' H' => D.nx (σ'.set 23 none) H', rt := D.rt, bk := fun σ' H' => D.bk (σ'.set 23 none) H', ct := fun σ' H' => D.ct (σ'.set 23 none) H' } (a0 :: a1 :: a2 :: a3 :: a4 :: a5 :: a6 :: a7 :: a8 :: a9 :: a10 :: a11 :: a12 :: a13 :: a14 :: a15 :: a16 :: a17 :: a18 :: a19 :: a20 :: a21 :: a22 :: some (.ref a) :: r) H) : wAs K c 23 ts Wout D cls d (a0 :: a1 :: a2 :: a3 :: a4 :: a5 :: a6 :: a7 :: a8 :: a9 :: a10 :: a11 :: a12 :: a13 :: a14 :: a15 :: a16 :: a17 :: a18 :: a19 :: a20 :: a21 :: a22 :: z :: r) H := ⟨true, e, fun _ => h, fun q => nomatch q⟩
theorem cls23 {a0 a1 a2 a3 a4 a5 a6 a7 a8 a9 a10 a11 a12 a13 a14 a15 a16 a17 a18 a19 a20 a21 a22 z : Option V} {r : L2.St} {F : L2.St → Hp → Prop} {rt : VK} {b1 b2 : L2.St → Hp → Prop} (h : F (a0 :: a1 :: a2 :: a3 :: a4 :: a5 :: a6 :: a7 :: a8 :: a9 :: a10 :: a11 :: a12 :: a13 :: a14 :: a15 :: a16 :: a17 :: a18 :: a19 :: a20 :: a21 :: a22 :: none :: r) H) : (Ends.mk (fun σ' H' => F (σ'.set 23 none) H') rt b1 b2).nx (a0 :: a1 :: a2 :: a3 :: a4 :: a5 :: a6 :: a7 :: a8 :: a9 :: a10 :: a11 :: a12 :: a13 :: a14 :: a15 :: a16 :: a17 :: a18 :: a19 :: a20 :: a21 :: a22 :: z :: r) H := h
theorem cat24 {a0 a1 a2 a3 a4 a5 a6 a7 a8 a9 a10 a11 a12 a13 a14 a15 a16 a17 a18 a19 a20 a21 a22 a23 z : Option V} {r : L2.St} (e : PySem.W.exmOne K cls c = some true) (h : ∀ a, H a = none → ts a cls d { nx := fun σ' H' => D.nx (σ'.set 24 none) H', rt := D.rt, bk := fun σ' H' => D.bk (σ'.set 24 none) H', ct := fun σ' H' => D.ct (σ'.set 24 none) H' } (a0 :: a1 :: a2 :: a3 :: a4 :: a5 :: a6 :: a7 :: a8 :: a9 :: a10 :: a11 :: a12 :: a13 :: a14 :: a15 :: a16 :: a17 :: a18 :: a19 :: a20 :: a21 :: a22 :: a23 :: some (.ref a) :: r) H) : wAs K c 24 ts Wout D cls d (a0 :: a1 :: a2 :: a3 :: a4 :: a5 :: a6 :: a7 :: a8 :: a9 :: a10 :: a11 :: a12 :: a13 :: a14 :: a15 :: a16 :: a17 :: a18 :: a19 :: a20 :: a21 :: a22 :: a23 :: z :: r) H := ⟨true, e, fun _ => h, fun q => nomatch q⟩
theorem cls24 {a0 a1 a2 a3 a4 a5 a6 a7 a8 a9 a10 a11 a12 a13 a14 a15 a16 a17 a18 a19 a20 a21 a22 a23 z : Option V} {r : L2.St} {F : L2.St → Hp → Prop} {rt : VK} {b1 b2 : L2.St → Hp → Prop} (h : F (a0 :: a1 :: a2 :: a3 :: a4 :: a5 :: a6 :: a7 :: a8 :: a9 :: a10 :: a11 :: a12 :: a13 :: a14 :: a15 :: a16 :: a17 :: a18 :: a19 :: a20 :: a21 :: a22 :: a23 :: none :: r) H) : (Ends.mk (fun σ' H' => F (σ'.set 24 none) H') rt b1 b2).nx (a0 :: a1 :: a2 :: a3 :: a4 :: a5 :: a6 :: a7 :: a8 :: a9 :: a10 :: a11 :: a12 :: a13 :: a14 :: a15 :: a16 :: a17 :: a18 :: a19 :: a20 :: a21 :: a22 :: a23 :: z :: r) H := h
theorem cat25 {a0 a1 a2 a3 a4 a5 a6 a7 a8 a9 a10 a11 a12 a13 a14 a15 a16 a17 a18 a19 a20 a21 a22 a23 a24 z : Option V} {r : L2.St} (e : PySem.W.exmOne K cls c = some true) (h : ∀ a, H a = none → ts a cls d { nx := fun σ' H' => D.nx (σ'.set 25 none) H', rt := D.rt, bk := fun σ' H' => D.bk (σ'.set 25 none) H', ct := fun σ' H' => D.ct (σ'.set 25 none) H' } (a0 :: a1 :: a2 :: a3 :: a4 :: a5 :: a6 :: a7 :: a8 :: a9 :: a10 :: a11 :: a12 :: a13 :: a14 :: a15 :: a16 :: a17 :: a18 :: a19 :: a20 :: a21 :: a22 :: a23 :: a24 :: some (.ref a) :: r) H) : wAs K c 25 ts Wout D cls d (a0 :: a1 :: a2 :: a3 :: a4 :: a5 :: a6 :: a7 :: a8 :: a9 :: a10 :: a11 :: a12 :: a13 :: a14 :: a15 :: a16 :: a17 :: a18 :: a19 :: a20 :: a21 :: a22 :: a23 :: a24 :: z :: r) H := ⟨true, e, fun _ => h, fun q => nomatch q⟩
theorem cls25 {a0 a1 a2 a3 a4 a5 a6 a7 a8 a9 a10 a11 a12 a13 a14 a15 a16 a17 a18 a19 a20 a21 a22 a23 a24 z : Option V} {r : L2.St} {F : L2.St → Hp → Prop} {rt : VK} {b1 b2 : L2.St → Hp → Prop} (h : F (a0 :: a1 :: a2 :: a3 :: a4 :: a5 :: a6 :: a7 :: a8 :: a9 :: a10 :: a11 :: a12 :: a13 :: a14 :: a15 :: a16 :: a17 :: a18 :: a19 :: a20 :: a21 :: a22 :: a23 :: a24 :: none :: r) H) : (Ends.mk (fun σ' H' => F (σ'.set 25 none) H') rt b1 b2).nx (a0 :: a1 :: a2 :: a3 :: a4 :: a5 :: a6 :: a7 :: a8 :: a9 :: a10 :: a11 :: a12 :: a13 :: a14 :: a15 :: a16 :: a17 :: a18 :: a19 :: a20 :: a21 :: a22 :: a23 :: a24 :: z :: r) H := h
theorem catO {σ : L2.St} (e : PySem.W.exmOne K cls c = some true) (h : ∀ a, H a = none → ts a cls d D σ H) : wMany K Wout D [(c, ts)] cls d σ H := ⟨true, e, fun _ => h, fun q => nomatch q⟩
end
end Z

/-! ### texts -/
namespace Z
open PySem PySem.W PySem.Spec L2
open PyProof.Rows hiding St
section
variable {X : Cx} {σ : L2.St} {H : Hp} {Q : VK} {te tf : TE}
def rAddT : R2 := fun x y H Q => ∃ i j, x = .str i ∧ y = .str j ∧ i.length + j.length ≤ sizeLine ∧ Q (.str (i ++ j)) H
theorem op_addT : OpR X (binaryOp .Add) rAddT := op_add_str
theorem i_addT {i j : Str} (l : i.length + j.length ≤ 1000000) (h : Q (.str (i ++ j)) H) : rAddT (.str i) (.str j) H Q := ⟨i, j, rfl, rfl, Nat.le_trans l (by decide), h⟩
def rLenT : List V → Hp → VK → Prop := fun xs H Q => ∃ z, xs = [.str z] ∧ z.length ≤ sizeLine ∧ Q (.int z.length) H
theorem call_lenT : CallR X (.builtin "len") rLenT := call_len_str
theorem i_lenTx {z : Str} (l : z.length ≤ 1000000) (h : Q (.int z.length) H) : rLenT [.str z] H Q := ⟨z, rfl, Nat.le_trans l (by decide), h⟩
/-- slices -/
theorem i_sl {r : V → Option Int → Option Int → Hp → VK → Prop} {tl th : TO} (h : te σ H fun x H1 => tl σ H1 fun l H2 => th σ H2 fun u H3 => r x l u H3 Q) : tSl r te tl th σ H Q := h
theorem i_noP {F : Option Int → Hp → Prop} (h : F none H) : tNoPart σ H F := h
theorem i_part {F : Option Int → Hp → Prop} (h : te σ H fun x H1 => ∃ i, x = .int i ∧ F (some i) H1) : tPart te σ H F := h
theorem i_partI {F : Int → Prop} {i : Int} (h : F i) : ∃ j, V.int i = .int j ∧ F j := ⟨i, rfl, h⟩
theorem i_slS {z : Str} {lo hi : Option Int} (l : z.length ≤ 1000000) (h : Q (.str (cutS z lo hi)) H) : rSlS (.str z) lo hi H Q := ⟨z, rfl, Nat.le_trans l (by decide), h⟩
theorem i_slL {K : PySem.W.Frag} {a : Addr} {xs : List V} {lo hi : Option Int} (hx : SqL K H a xs) (h : ∀ p H2, H p = none → Same H H2 → H2 p = some (.lst (cutV xs lo hi)) → Q (.ref p) H2) : rSlL K (.ref a) lo hi H Q :=
  ⟨a, xs, rfl, hx, fun p hp => h p _ hp (same_new hp) upd_same⟩
def cutL {α : Type} (xs : List α) (lo hi : Option Int) : List α := (xs.drop (HT.sIx xs.length 0 lo)).take (HT.sIx xs.length xs.length hi - HT.sIx xs.length 0 lo)
theorem cutL_map {α : Type} (f : α → V) (xs : List α) (lo hi : Option Int) : (cutL xs lo hi).map f = cutV (xs.map f) lo hi := by
  unfold cutL cutV
  rw [List.length_map, List.map_take, List.map_drop]
theorem cutL_mem {α : Type} {xs : List α} {lo hi : Option Int} {x : α} (h : x ∈ cutL xs lo hi) : x ∈ xs := List.mem_of_mem_drop (List.mem_of_mem_take h)
theorem cutL_len {α : Type} (xs : List α) (lo hi : Option Int) : (cutL xs lo hi).length ≤ xs.length := by
  unfold cutL
  rw [List.length_take, List.length_drop]
  omega
def rStarts : V → List V → Hp → VK → Prop := fun x xs H Q => ∃ a b, x = .str a ∧ xs = [.str b] ∧ Q (.bl (Txt.startswith a b)) H
theorem mt_startsR : MtR X "str.startswith" rStarts := mt_startswith
theorem i_starts {a b : Str} (h : Q (.bl (Txt.startswith a b)) H) : rStarts (.str a) [.str b] H Q := ⟨a, b, rfl, rfl, h⟩
/-- None or an integer -/
abbrev optV : Option Int → V
  | none => .non
  | some i => .int i
/-- upper, replace -/
def rUpper : V → List V → Hp → VK → Prop := fun x xs H Q => ∃ a, x = .str a ∧ xs = [] ∧ a.length ≤ 5592405 ∧ Q (.str (Txt.upper a)) H
theorem i_m0 {r : V → List V → Hp → VK → Prop} (h : te σ H fun x H1 => (∃ a, x = .str a) ∧ r x [] H1 Q) : tM0 r te σ H Q := h
theorem i_isS {z : Str} {A : Prop} (h : A) : (∃ a, V.str z = .str a) ∧ A := ⟨⟨z, rfl⟩, h⟩
theorem i_upper {z : Str} (l : z.length ≤ 5000000) (h : Q (.str (Txt.upper z)) H) : rUpper (.str z) [] H Q := ⟨z, rfl, rfl, Nat.le_trans l (by decide), h⟩
def kRepl (y z : Str) (Q : VK) : VK := fun v H1 => ∃ x, v = .str x ∧ x.length + (x.length + 1) * z.length ≤ 16777216 ∧ Q (.str (Txt.replace x y z)) H1
def tRepl (y z : Str) (to : TE) : TE := fun σ H Q => to σ H (kRepl y z Q)
theorem i_repl {y z : Str} (h : te σ H (kRepl y z Q)) : tRepl y z te σ H Q := h
theorem i_replE {x y z : Str} (l : x.length + (x.length + 1) * z.length ≤ 16777216) (h : Q (.str (Txt.replace x y z)) H) : kRepl y z Q (.str x) H := ⟨x, rfl, l, h⟩
end
/-- an expression that gives a token out -/
def PE1 (X : Cx) (e : Expr) (t : TE) : Prop := ∀ (pins : List (Addr × Obj)) (s : Shared) (σ : L2.St) (H : Hp) (Q : VK), Inv X pins σ H s → t σ H Q → wpAny (model X.prog X.w) X.A (eval e X.env) (fun u s' => 1 ≤ s'.toks ∧ EP X pins σ Q u s') X.xe s
section
variable {X : Cx} {e f o : Expr} {te tf to : TE} {pos p2 apos : Pos}
theorem pe1_int {i : Int} {j : Nat} {pos : Pos} : PE1 X (.Constant (.int i) j pos) (tC (.int i)) := fun pins s σ H Q I h => wpAny_Constant_int ⟨by show 1 ≤ s.toks + 1; omega, .int i, H, I.tok _, ⟨_, rfl⟩, h⟩
theorem pe1_op {op : Operator} {r : R2} (ho : OpR X (binaryOp op) r) (ha : PE X e te) (hb : PE1 X f tf) : PE1 X (.BinOp e op f pos) (tOp r te tf) := fun pins s σ H Q I h => by
  refine wpAny_BinOp (thn (ha.run pins s σ H _ I h) fun v s1 ⟨x, H1, I1, r1, q1⟩ => wpAny_mono (hb pins s1 σ H1 _ I1 q1) (fun u s2 ⟨h1, y, H2, I2, r2, q2⟩ => ?_) fun _ _ z => z)
  exact wpAny_mono (PySem.wpAny_toks_of h1 (ho pins s2 σ H2 x y v u Q I2 r1 r2 q2)) (fun _ _ z => z) fun _ _ z => z.2
def PO1 (X : Cx) (e : Option Expr) (t : TO) : Prop := ∀ (pins : List (Addr × Obj)) (s : Shared) (σ : L2.St) (H : Hp) (Q : Option Int → Hp → Prop), Inv X pins σ H s → t σ H Q →
    wpAny (model X.prog X.w) X.A (evalPart e X.env) (fun u s' => 1 ≤ s'.toks ∧ ∃ o H', Inv X pins σ H' s' ∧ IsPart u o ∧ Q o H') X.xe s
theorem po1_some (h : PE1 X e te) : PO1 X (some e) (tPart te) := fun pins s σ H Q I hw => by
  rw [evalPart_some]
  refine wpAny_mono (h pins s σ H _ I hw) (fun u s1 ⟨h1, x, H1, I1, r1, q1⟩ => ?_) fun _ _ z => z
  obtain ⟨i, rfl, q⟩ := q1
  obtain ⟨t, rfl⟩ := r1
  exact ⟨h1, some i, H1, I1, .int i t, q⟩
theorem pe1_slice {lo hi : Option Expr} {tl th : TO} {r : V → Option Int → Option Int → Hp → VK → Prop} (hr : SlR X r) (he : PE X e te) (hl : PO X lo tl) (hu : PO1 X hi th) : PE1 X (.Subscript e (.Slice lo hi none p2) pos) (tSl r te tl th) := fun pins s σ H Q I h => by
  refine Subscript_ (thn (he.run pins s σ H _ I h) fun v s1 ⟨x, H1, I1, r1, q1⟩ => ?_)
  refine wpAny_Slice (thn (hl.run pins s1 σ H1 _ I1 q1) fun vl s2 ⟨l, H2, I2, pl, q2⟩ => wpAny_mono (hu pins s2 σ H2 _ I2 q2) (fun vu s3 ⟨h1, u, H3, I3, pu, q3⟩ => ?_) fun _ _ z => z)
  rw [evalPart_none]
  refine wpAny_pure ?_
  have I4 : Inv X pins σ H3 { s3 with heap := s3.heap.push { cls := .type "slice", data := .fields #[vl, vu, .none] } } := I3.kept (t' := s3.toks) fun b ob q => Heap.get?_push_of_some _ q
  obtain ⟨T, id, hT, ht, hg⟩ := hr pins { s3 with heap := s3.heap.push { cls := .type "slice", data := .fields #[vl, vu, .none] } } σ H3 x v vl vu l u s3.heap.objs.size Q I4 r1 (Heap.IsSliceOf.new ..) pl pu q3
  have z : wpAny (model X.prog X.w) X.A (subscriptTail e (.Slice lo hi none p2) v (.ref s3.heap.objs.size)) (EP X pins σ Q) X.xe { s3 with heap := s3.heap.push { cls := .type "slice", data := .fields #[vl, vu, .none] } } :=
    tail_any (ops := [.ref s3.heap.objs.size, v]) ht hT hg (by with_unfolding_all rfl)
  exact wpAny_mono (PySem.wpAny_toks_of (n := 1) h1 z) (fun _ _ z => z) fun _ _ z => z.2
theorem pe1_upper (ho : PE1 X o to) (hbase : attributeBase o "upper" X.env (eval o X.env) = eval o X.env := by rfl) (hline : (apos.endLine == pos.line) = true := by rfl) : PE1 X (.Call (.Attribute o "upper" apos) [] [] pos) (tM0 rUpper to) := fun pins s σ H Q I h => by
  refine PySem.Call_method0 hbase hline (wpAny_mono (ho pins s σ H _ I h) (fun v s1 ⟨h1, x, H1, I1, r1, q1⟩ => ?_) fun _ _ z => z)
  obtain ⟨⟨a, rfl⟩, q1⟩ := q1
  obtain ⟨t, rfl⟩ := _root_.id r1
  refine ⟨"str", _, PySem.F.plainAttrs_str, PySem.F.slot_str_upper, PySem.F.type_str_upper, typeIs_str _ _ _, (fun _ e => nomatch e), ?_⟩
  exact wpAny_mono (PySem.wpAny_toks_of h1 (Calls.callWith_builtin rfl (PySem.evalArgs_none (mt_upper pins s1 σ H1 _ [] _ [] Q I1 r1 .nil q1)))) (fun _ _ z => z) fun _ _ z => z.2
theorem pe_repl1 {y z : Str} {j k : Nat} {c0 c1 : Pos} (ho : PE1 X o to) (hyz : (y == z) = false := by decide)
    (hst : starEach [.Constant (.str y) j c0, .Constant (.str z) k c1] X.env = [(false, eval (.Constant (.str y) j c0) X.env), (false, eval (.Constant (.str z) k c1) X.env)] := by rfl)
    (hbase : attributeBase o "replace" X.env (eval o X.env) = eval o X.env := by rfl) (hline : (apos.endLine == pos.line) = true := by rfl) :
    PE X (.Call (.Attribute o "replace" apos) [.Constant (.str y) j c0, .Constant (.str z) k c1] [] pos) (tRepl y z to) := by
  refine ⟨fun pins s σ H Q I h => ?_⟩
  refine PySem.Call_method2 hbase hst hline (wpAny_mono (ho pins s σ H _ I h) (fun v s1 ⟨hk, v', H1, I1, r1, x, e1, hb, q⟩ => ?_) fun _ _ z => z)
  subst e1
  obtain ⟨tx, e2⟩ := r1
  subst e2
  refine ⟨"str", _, PySem.F.plainAttrs_str, PySem.F.slot_str_replace, PySem.F.type_str_replace, typeIs_str _ _ _, (fun _ e => nomatch e), Calls.callWith_builtin rfl (Calls.evalArgs_plain (Calls.spliced_cons ?_))⟩
  refine Calls.Constant_str (Calls.spliced_cons (Calls.Constant_str (Calls.spliced_nil ?_)))
  exact PySem.SC.replace (by show s1.toks ≠ 0; omega) (by show s1.toks + 1 ≠ 0; omega) (by show s1.toks ≠ s1.toks + 1; omega) hyz hb fun t' k => ⟨.str (Txt.replace x y z), H1, I1.tok k, ⟨t', rfl⟩, q⟩
end
end Z
namespace Z
open PySem PySem.Spec L2
theorem len_app (a b : Str) : (a ++ b).length = a.length + b.length := by
  show (a.cps ++ b.cps).size = _
  rw [Array.size_append]
  rfl
end Z

/-! ### star defs, star calls, operators with another class, own containers -/
namespace Z
open PySem PySem.W PySem.Calls PySem.Spec L2
open PyProof.Rows hiding St
section
variable {M : Model} {A : Around} {E : Value → Shared → Prop} {s : Shared}
theorem evalArgs_star2 {f : Value} {x : Sem Value} {y : Bool × Sem Value} {rest : List (Bool × Sem Value)} {Q : Args → Shared → Prop}
    (h : wpAny M A (spliced ((true, x) :: y :: rest)) (fun vs s' => Q ⟨vs, []⟩ s') E s) : wpAny M A (evalArgs f true ((true, x) :: y :: rest) []) Q E s := by
  unfold evalArgs
  show wpAny M A (spliced ((true, x) :: y :: rest) >>= _) Q E s
  refine wpAny_bind (wpAny_mono h (fun vs s' h' => ?_) fun _ _ x => x)
  refine wpAny_holding ?_
  exact wpAny_bind (wpAny_pure (wpAny_bind (wpAny_pure (wpAny_pure h'))))
theorem callWith_S3 {K : PySem.W.Frag} {h₀ : Heap} {f : Value} {first : List Value} {pos p : Pos} {env : Env} {e e2 : Expr} {rest : List Expr} {b : Bool} {Q : Value → Shared → Prop} (_X : K.In h₀) (hk : PySem.W.keepIn K f = true)
    (h : wpAny M A (spliced (backTo pos (starEach (.Starred e p :: e2 :: rest) env))) (fun vs s₁ => K.In s₁.heap ∧ wpAny M A (call f (first ++ vs)) Q E s₁) E s)
    (he : starEach (.Starred e p :: e2 :: rest) env = (true, eval e env) :: (b, eval e2 env) :: starEach rest env := by rfl) :
    wpAny M A (callWith pos f first (backTo pos (starEach (.Starred e p :: e2 :: rest) env)) []) Q E s := by
  rw [he] at h ⊢
  exact ks_call rfl (keeps_K hk) (evalArgs_star2 h)
end
/-- def f(self, *rest) -/
abbrev starP (sp : Sp) : Sp := fun vs H Q E => ∃ ws rest, vs = ws ++ rest ∧ ws.length = 1 ∧ rest.length ≤ sizeLine ∧ ∀ p, H p = none → sp (ws ++ [V.ref p]) (upd H p (.tup rest)) Q E
def OkS (P : Program) (w : World) (K : PySem.W.Frag) (mg : Str → Option Value) (base : Heap) (k : Nat) (f : Addr) (sp : Sp) : Prop := FnR P w K mg base (L2N.CX P w) k f (starP sp)
theorem cxUpN {P : Program} {w : World} : StX.CXUp (L2N.CX P w) := by
  rintro outer s H s2 H2 E e s' un kp ho ⟨a, B, H', cls, d, ea, fl, hok, ub, na, os, ag, he⟩
  refine ⟨a, B, H', cls, d, ea, fl, hok, ⟨fun b o q n hb => ub.keep b o (kp b o q) (un.free b o q n (by simp)) hb, fun b o q hb => ub.slot b o (kp b o q) hb, fun b o q n => ub.free b o (kp b o q) (un.free b o q n (by simp)),
    fun b o q hb => ub.there b o (kp b o q) hb, fun b xs q => ub.tups b xs (un.tups b xs q), fun b o xs q => ub.frzs b o xs (un.frzs b o xs q), fun b ps q => ?_⟩, na, os.trans ho, ag, he⟩
  obtain ⟨m1, e1⟩ := un.tbls b ps q
  obtain ⟨m2, e2⟩ := ub.tbls b _ e1
  exact ⟨m1 ++ m2, by rw [e2, Array.append_assoc]⟩
theorem FunD.star {P : Program} {w : World} {K : PySem.W.Frag} {mg : Str → Option Value} {base : Heap} {x qual : Str} {params : Arguments} {body : List Stmt} {scope : Scope} {f : Addr} {fd : FuncData} {N : List Str} {p1 pv : Str} {k : Nat} {sp : Sp}
    (F : FunD K x qual params body scope [] [] f fd) (S : FnScope N [p1, pv] scope)
    (h0 : ∀ (kV doc pm : Value) (an : Option Addr) (cdv ct : Value) (a : Value), bindArgs (PySem.W.fnOf x qual params body scope .none kV doc pm an cdv ct) ⟨[a], []⟩ = (newTuple [] >>= fun t => pure [(p1, a), (pv, t)]))
    (h1 : ∀ (kV doc pm : Value) (an : Option Addr) (cdv ct : Value) (a r : Value) (rs : List Value), bindArgs (PySem.W.fnOf x qual params body scope .none kV doc pm an cdv ct) ⟨a :: r :: rs, []⟩ = (newTuple (r :: rs) >>= fun t => pure [(p1, a), (pv, t)]))
    (hbody : ∀ (cdv : Value) (A : Around) (outer : List Env) (s : Shared) (H : Hp) (vs : List V) (Q : VK) (E : XK), Room k (A.deeper (envOfC qual scope s.heap.objs.size f cdv)) → sp vs H Q E →
      ∃ t, PSs (cxOf (L2N.CX P w) P w K mg base N qual scope f cdv A outer s H E) body t ∧ t { nx := fun _ H' => Q .non H', rt := Q } (start N vs) H) : OkS P w K mg base (k + 1) f sp := by
  obtain ⟨oc, od, dV, kV, doc, pm, an, cdv, ct, osl, rfl, lk, hcd, hD, _⟩ := F.ex
  rcases hD with ⟨_, rfl⟩ | ⟨q, _⟩
  case inr => exact absurd rfl q
  exact StX.fn_star (ps := [p1]) (pv := pv) lk hcd S cxUpN (StX.bind_star1 (B := fun l => bindArgs (PySem.W.fnOf x qual params body scope .none kV doc pm an cdv ct) ⟨l, []⟩) (h0 kV doc pm an cdv ct) (h1 kV doc pm an cdv ct)) fun A outer s H vs Q E hr hsp => hbody cdv A outer s H vs Q E hr hsp
section
variable {X : Cx} {C f : Addr} {k : Nat} {sp : Sp} {x : Str} {e e2 : Expr} {te t2 : TE} {p ps_ pos : Pos} {G : List Str} {σ : L2.St} {H : Hp} {Q : VK}
def tMakeS (C : Addr) (sp : Sp) (t : TA) : TE := StX.tMakeR C (starP sp) EF t
theorem pcMS0 (M : Mk X.K C f) (F : OkS X.prog X.w X.K X.mg X.base k f sp) (hr : Room (k + 1) X.A) (hg : glB G X.env.scope = true) (n : Nat) (hm : X.mg x = some (.ref C)) (hx : G[n]? = some x := by rfl) : PE X (.Call (.Name x p) [] [] pos) (tMakeS C sp tNil) := by
  refine ⟨fun pins s σ H Q I h => ?_⟩
  refine wpAny_Call_Name_kw (ld_glob I (gl_of hg hx).1 hm ?_ (gl_of hg hx).2.1)
  exact PySem.W.callWith_K0 I.kIn M.kp (StX.run_makeR (us := []) M F hr (fun _ _ _ _ _ _ _ q => (cxF q).elim) I .nil h)
theorem pcMS1 (M : Mk X.K C f) (F : OkS X.prog X.w X.K X.mg X.base k f sp) (hr : Room (k + 1) X.A) (hg : glB G X.env.scope = true) (n : Nat) (hm : X.mg x = some (.ref C)) (he : PE X e te) (hx : G[n]? = some x := by rfl)
    (hst : starEach [.Starred e ps_] X.env = [(true, eval e X.env)] := by rfl) : PE X (.Call (.Name x p) [.Starred e ps_] [] pos) (tMakeS C sp (StX.tStar X.K te tNil)) := by
  refine ⟨fun pins s σ H Q I h => ?_⟩
  refine wpAny_Call_Name_kw (ld_glob I (gl_of hg hx).1 hm ?_ (gl_of hg hx).2.1)
  refine PySem.W.callWith_S (h₀ := X.base) I.ok.mod.kin M.kp (thn (he.run pins s σ H _ I h) fun v s1 ⟨y, H1, I1, ry, a, xs, ey, hxs, q⟩ => ?_) hst
  subst ey
  obtain rfl : v = Value.ref a := ry
  have q2 := q
  unfold tNil at q2
  simp only [List.append_nil] at q2
  exact StX.star_any I1 hxs fun us s2 I2 rv => ⟨I2.kIn, StX.run_makeR M F hr (fun _ _ _ _ _ _ _ q => (cxF q).elim) I2 rv q2⟩
theorem pcMS2 (M : Mk X.K C f) (F : OkS X.prog X.w X.K X.mg X.base k f sp) (hr : Room (k + 1) X.A) (hg : glB G X.env.scope = true) (n : Nat) (hm : X.mg x = some (.ref C)) (he : PE X e te) (he2 : PE X e2 t2) (hx : G[n]? = some x := by rfl)
    (hst : starEach [.Starred e ps_, e2] X.env = (true, eval e X.env) :: (false, eval e2 X.env) :: starEach [] X.env := by rfl) (hst2 : starEach [.Starred e ps_, e2] X.env = (true, eval e X.env) :: starEach [e2] X.env := by rfl)
    (hst3 : starEach [e2] X.env = (false, eval e2 X.env) :: starEach [] X.env := by rfl) : PE X (.Call (.Name x p) [.Starred e ps_, e2] [] pos) (tMakeS C sp (StX.tStar X.K te (tCons t2 tNil))) := by
  refine ⟨fun pins s σ H Q I h => ?_⟩
  refine wpAny_Call_Name_kw (ld_glob I (gl_of hg hx).1 hm ?_ (gl_of hg hx).2.1)
  have h := (show StX.tMakeR C (starP sp) EF _ σ H Q from h)
  refine callWith_S3 (b := false) (h₀ := X.base) I.ok.mod.kin M.kp (thn ((StX.pa_star he (pa_cons he2 pa_nil hst3) hst2).run pos pins s σ H _ I h) fun us s1 ⟨vs, H1, I1, r, q⟩ => ⟨I1.kIn, ?_⟩) hst
  exact StX.run_makeR M F hr (fun _ _ _ _ _ _ _ q => (cxF q).elim) I1 r q
def kMakeS (C : Addr) (sp : Sp) (Q : VK) : List V → Hp → Prop := fun vs H1 => ∀ x dx, H1 x = none → H1 dx = none → dx ≠ x → starP sp (.ref x :: vs) (upd (upd H1 dx (.own x)) x (.ins C dx [])) (fun v H2 => v = .non ∧ Q (.ref x) H2) EF
theorem i_makeS {ar : TA} (h : ar σ H (kMakeS C sp Q)) : tMakeS C sp ar σ H Q := h
theorem i_madeS {vs : List V} (l : vs.length ≤ 100000) (h : ∀ x t H2, (∀ H3, Keep x H2 H3 → Same H H3) → IsI C H2 x [] → H2 t = some (.tup vs) → sp [.ref x, .ref t] H2 (fun v H3 => v = .non ∧ Q (.ref x) H3) EF) : kMakeS C sp Q vs H := by
  intro x dx h1 h2 h3
  refine ⟨[.ref x], vs, rfl, rfl, Nat.le_trans l (by decide), fun t ht => ?_⟩
  have tx : t ≠ x := fun q => by rw [q, upd_same] at ht; cases ht
  refine h x t _ (fun H3 k b o e => k b o (ne_of_none e h1) ?_) ⟨dx, by rw [upd_ne (Ne.symm tx), upd_same]⟩ upd_same
  have bt : b ≠ t := fun q => by
    rw [q] at e
    rw [upd_ne tx] at ht
    by_cases td : t = dx
    · rw [td, h2] at e; cases e
    · rw [upd_ne td, e] at ht; cases ht
  rw [upd_ne bt, upd_ne (ne_of_none e h1), upd_ne (ne_of_none e h2)]; exact e
theorem i_starT {K : PySem.W.Frag} {te : TE} {t : TA} {R : List V → Hp → Prop} (h : te σ H fun x H1 => ∃ p xs, x = V.ref p ∧ (SqT K H1 p xs ∨ SqL K H1 p xs) ∧ t σ H1 fun ys H2 => R (xs ++ ys) H2) : StX.tStar K te t σ H R := h
theorem i_starL {K : PySem.W.Frag} {p : Addr} {xs : List V} {F : List V → Prop} (hx : SqL K H p xs) (h : F xs) : ∃ q ys, V.ref p = V.ref q ∧ (SqT K H q ys ∨ SqL K H q ys) ∧ F ys := ⟨p, xs, rfl, .inr hx, h⟩
theorem i_starU {K : PySem.W.Frag} {p : Addr} {xs : List V} {F : List V → Prop} (hx : SqT K H p xs) (h : F xs) : ∃ q ys, V.ref p = V.ref q ∧ (SqT K H q ys ∨ SqL K H q ys) ∧ F ys := ⟨p, xs, rfl, .inl hx, h⟩
end
/-- o.m() -/
theorem pcMe0 {X : Cx} {C f : Addr} {m : Str} {ps : List Str} {dvs : List V} {sp : Sp} {k : Nat} {o : Expr} {ta : TE} {apos pos : Pos} {pl : Sem Bool} (he : PE X o ta) (c : Cls X.K C) (hm : Meth X.K C m f) (F : OkD X.prog X.w X.K X.mg X.base k f ps dvs sp) (hr : Room k X.A)
    (ht : eval (.Call (.Attribute o m apos) [] [] pos) X.env = (do
      let ov ← eval o X.env
      standAt apos.atName
      let (f, first) ← holding [ov] (getMethod ov m pl)
      callWith pos f first (backTo pos (starEach [] X.env)) (backToKw pos (keywordEach [] X.env))) := by rfl) :
    PE X (.Call (.Attribute o m apos) [] [] pos) (tMeth C m sp dvs EF ta tNil) := by
  obtain ⟨fd, ds, kp, b, vd, F⟩ := F
  exact pe_meth0 he c hm F hr b vd (fun _ _ _ _ _ _ _ q => (cxF q).elim) ht
/-! a tuple of objects -/
def TO {α : Type} (F : Hp → Addr → α → Prop) (H : Hp) (p : Addr) (xs : List α) : Prop := ∃ ps, H p = some (.tup (ps.map V.ref)) ∧ Items F H ps xs
theorem ext_TO {α : Type} {F : Hp → Addr → α → Prop} {H H' : Hp} {p : Addr} {xs : List α} (k : ∀ p x, F H p x → F H' p x) (e : Ext H H') (h : TO F H p xs) : TO F H' p xs := by
  obtain ⟨ps, h1, h2⟩ := h
  exact ⟨ps, e _ _ trivial h1, h2.map k⟩
theorem same_TO {α : Type} {F : Hp → Addr → α → Prop} {H H' : Hp} {p : Addr} {xs : List α} (k : ∀ p x, F H p x → F H' p x) (e : Same H H') (h : TO F H p xs) : TO F H' p xs := by
  obtain ⟨ps, h1, h2⟩ := h
  exact ⟨ps, e _ _ h1, h2.map k⟩
/-! an operator with an instance of another class on the right -/
structure BinD (K : PySem.W.Frag) (C D : Addr) (nm : String) (f : Addr) : Prop where
  bin : BinF K C nm f
  rc : ∃ rc, PySem.W.findIn K (.ref C) (dunderR nm) = some rc ∧ (rc = none ∨ ∃ g : Addr, rc = some (.ref g))
  cls : ∃ cd, PySem.W.clsIn K D = some cd ∧ cd.mro = [.ref D, .type "object"]
  a1 : PySem.W.findIn K (.ref D) (PySem.dunder nm) = some none
  a2 : PySem.W.findIn K (.ref D) (dunderR nm) = some none
  o1 : PySem.W.findIn K (.type "object") (PySem.dunder nm) = some none
  o2 : PySem.W.findIn K (.type "object") (dunderR nm) = some none
  sub : PySem.W.subIn K (.ref D) (.ref C) = some false
  ne : C ≠ D
section
variable {prog : Program} {w : World} {M : Model} {A : Around} {E : Value → Shared → Prop} {s : Shared} {K : PySem.W.Frag} {x y C D L f : Addr} {h₀ : Heap} {m : Str → Option Value} {ox oy : Obj} {od od2 : Option Obj} {nm : String}
theorem fills_no {h : Heap} (X : K.In h) (cd : ∃ cd, PySem.W.clsIn K D = some cd ∧ cd.mro = [.ref D, .type "object"]) (a1 : PySem.W.findIn K (.ref D) (PySem.dunder nm) = some none) (a2 : PySem.W.findIn K (.ref D) (dunderR nm) = some none)
    (o1 : PySem.W.findIn K (.type "object") (PySem.dunder nm) = some none) (o2 : PySem.W.findIn K (.type "object") (dunderR nm) = some none) : Looks M h (fillsNumberSlot (.ref D) nm) false := by
  obtain ⟨cd, hc, hm⟩ := cd
  intro A Q E s k q
  unfold fillsNumberSlot
  refine wpAny_bind ((looks_clsIn X hc).andThen (f := fun cd => pure cd.mro) .now A _ E s k ?_)
  rw [hm, List.anyM_cons]
  refine wpAny_bind ?_
  show wpAny M A (List.anyM _ [PySem.dunder nm, dunderR nm]) _ _ _
  rw [List.anyM_cons]
  refine wpAny_bind (wpAny_bind (looks_findIn X a1 A _ E s k ?_))
  dsimp only
  refine wpAny_pure ?_
  rw [if_neg (by decide), List.anyM_cons]
  refine wpAny_bind (wpAny_bind (looks_findIn X a2 A _ E s k ?_))
  dsimp only
  refine wpAny_pure ?_
  rw [if_neg (by decide)]
  refine wpAny_pure ?_
  rw [if_neg (by decide), List.anyM_cons]
  refine wpAny_bind (wpAny_bind (looks_findIn X o1 A _ E s k ?_))
  refine wpAny_bind (looks_findIn X o2 A _ E s k ?_)
  refine wpAny_pure ?_
  exact wpAny_pure q

theorem binop_D {op : Operator} {Q : Value → Shared → Prop} (F : Fr h₀ L s.heap m) (X₀ : K.In h₀) (I : PySem.W.InstAt s.heap x ox C od) (I2 : PySem.W.InstAt s.heap y oy D od2) (b : BinD K C D op.info.2 f)
    (h : wpAny (model prog w) A (call (.ref f) [.ref x, .ref y]) (PySem.W.CmpBack Q) E s) : wpAny (model prog w) A (binaryOp op (.ref x) (.ref y)) Q E s := by
  have X := X₀.keeps F.keep
  obtain ⟨rc, hr, hp⟩ := b.rc
  obtain ⟨cd, rest, hcd, hm⟩ := PySem.W.ksp_first b.bin.first
  rcases hi : op.info with ⟨sym, nm'⟩
  have hs := b.bin.at_
  have a1 := b.a1; have a2 := b.a2; have o1 := b.o1; have o2 := b.o2
  rw [hi] at hs hr a1 a2 o1 o2
  dsimp only at hs hr a1 a2 o1 o2
  have one := PySem.W.ksp_try X I hs b.bin.fn h
  have L4' := fills_no (M := model prog w) X b.cls a1 a2 o1 o2
  have L5' : PySem.W.Looks (model prog w) s.heap (isSubtype (.ref D) (.ref C)) false := PySem.W.looks_subIn X b.sub
  have hne : (Value.ref C == Value.ref D) = false := Bool.eq_false_iff.mpr fun q => b.ne (by have := beq_iff_eq.mp q; cases this; rfl)
  have L1' : PySem.W.Looks (model prog w) s.heap (typeOf (.ref x)) (.ref C) := I.type
  have L2' : PySem.W.Looks (model prog w) s.heap (typeOf (.ref y)) (.ref D) := I2.type
  have L3' : PySem.W.Looks (model prog w) s.heap (fillsNumberSlot (.ref C) nm') true := PySem.W.fills_K X hcd hm hs
  have L6' : PySem.W.Looks (model prog w) s.heap (numberSlotInPython (.ref C) nm') true := PySem.W.ksp_inPy X hs hr hp
  obtain ⟨hh, g, d, tt, os⟩ := s
  have L1 : PySem.W.Looks (model prog w) hh (typeOf (.ref x)) (.ref C) := L1'
  have L2 : PySem.W.Looks (model prog w) hh (typeOf (.ref y)) (.ref D) := L2'
  have L3 : PySem.W.Looks (model prog w) hh (fillsNumberSlot (.ref C) nm') true := L3'
  have L4 : PySem.W.Looks (model prog w) hh (fillsNumberSlot (.ref D) nm') false := L4'
  have L5 : PySem.W.Looks (model prog w) hh (isSubtype (.ref D) (.ref C)) false := L5'
  have L6 : PySem.W.Looks (model prog w) hh (numberSlotInPython (.ref C) nm') true := L6'
  simp only [binaryOp, hi]
  refine wpAny_holding (wpAny_bind ?_)
  unfold binaryOp1
  refine wpAny_bind (L1.at (wpAny_bind (L2.at (wpAny_bind (L3.at ?_)))))
  simp only [hne, Bool.false_eq_true, if_false]
  ksp_lk
  refine wpAny_mono one (fun r s' hr' => ?_) fun _ _ e => e
  obtain ⟨v, rfl, hq⟩ := hr'
  ksp_lk
  exact hq
end
section
variable {X : Cx} {C D : Addr} {f g : Addr} {k : Nat} {ps : List Str} {sp : Sp} {op : Operator} {σ : L2.St} {H : Hp} {Q : VK}
def rOwnD (C D : Addr) (sp : Sp) : R2 := fun x y H Q => ∃ a dx fs b dy gs, x = .ref a ∧ y = .ref b ∧ H a = some (.ins C dx fs) ∧ H b = some (.ins D dy gs) ∧ sp [x, y] H Q EF
theorem op_ownD (b : BinD X.K C D op.info.2 f) (F : OkD X.prog X.w X.K X.mg X.base k f ps [] sp) (hr : Room k X.A) : OpR X (binaryOp op) (rOwnD C D sp) := by
  intro pins s σ H x y u v Q I rx ry h
  obtain ⟨a, dx, fs, c, dy, gs, rfl, rfl, ea, ec, q⟩ := h
  cases rx
  cases ry
  obtain ⟨hx, od, J⟩ := inst_at I ea
  obtain ⟨hy, od2, J2⟩ := inst_at I ec
  obtain ⟨m, Fm⟩ := I.fr
  exact binop_D Fm I.mod.kin J J2 b (wpAny_mono (run_ok (vs := [.ref a, .ref c]) F hr I (.cons rfl (.cons rfl .nil)) q) (fun _ _ z => ep_cmp z) fun _ _ z => z)
theorem i_ownD {p q : Addr} {fs gs : List (Str × V)} (hp : IsI C H p fs) (hq : IsI D H q gs) (h : sp [.ref p, .ref q] H Q EF) : rOwnD C D sp (.ref p) (.ref q) H Q := by
  obtain ⟨dx, hp⟩ := hp
  obtain ⟨dy, hq⟩ := hq
  exact ⟨p, dx, fs, q, dy, gs, rfl, rfl, hp, hq, h⟩
/-! x in y, y an instance with its own __contains__ -/
structure InF (K : PySem.W.Frag) (C f : Addr) : Prop where
  at_ : PySem.W.findIn K (.ref C) "__contains__" = some (some (.ref f))
  fn : PySem.W.isFn K (.ref f) = true
def kBool (neg : Bool) (Q : VK) : VK := fun v H => ∃ b, v = .bl b ∧ Q (.bl (if neg then !b else b)) H
def rInO (C : Addr) (sp : Sp) (neg : Bool) : R2 := fun x y H Q => ∃ a dx fs, y = .ref a ∧ H a = some (.ins C dx fs) ∧ sp [y, x] H (kBool neg Q) EF
theorem op_inO (b : InF X.K C f) (F : OkD X.prog X.w X.K X.mg X.base k f ps [] sp) (hr : Room k X.A) : OpR X (compareOp .In) (rInO C sp false) := by
  intro pins s σ H x y u v Q I rx ry h
  obtain ⟨a, dx, fs, rfl, ea, q⟩ := h
  cases ry
  obtain ⟨hx, od, J⟩ := inst_at I ea
  obtain ⟨m, Fm⟩ := I.fr
  refine PySem.W.in_K Fm I.mod.kin J b.at_ b.fn (wpAny_mono (run_ok (us := [.ref a, u]) (vs := [.ref a, x]) F hr I (.cons rfl (.cons rx .nil)) q) (fun r s' z => ?_) fun _ _ z => z)
  obtain ⟨v, H', I', rv, c, rfl, q'⟩ := z
  cases (show r = Value.bool c from rv)
  exact wpAny_pure ⟨.bl c, H', I', rfl, q'⟩
theorem op_ninO (b : InF X.K C f) (F : OkD X.prog X.w X.K X.mg X.base k f ps [] sp) (hr : Room k X.A) : OpR X (compareOp .NotIn) (rInO C sp true) := by
  intro pins s σ H x y u v Q I rx ry h
  obtain ⟨a, dx, fs, rfl, ea, q⟩ := h
  cases ry
  obtain ⟨hx, od, J⟩ := inst_at I ea
  obtain ⟨m, Fm⟩ := I.fr
  refine PySem.W.notIn_K Fm I.mod.kin J b.at_ b.fn (wpAny_mono (run_ok (us := [.ref a, u]) (vs := [.ref a, x]) F hr I (.cons rfl (.cons rx .nil)) q) (fun r s' z => ?_) fun _ _ z => z)
  obtain ⟨v, H', I', rv, c, rfl, q'⟩ := z
  cases (show r = Value.bool c from rv)
  exact wpAny_pure ⟨.bl (!c), H', I', rfl, q'⟩
theorem i_inO {neg : Bool} {p : Addr} {x : V} {fs : List (Str × V)} (hp : IsI C H p fs) (h : sp [.ref p, x] H (kBool neg Q) EF) : rInO C sp neg x (.ref p) H Q := by
  obtain ⟨dx, hp⟩ := hp
  exact ⟨p, dx, fs, rfl, hp, h⟩
theorem i_kBool {neg b : Bool} (h : Q (.bl (if neg then !b else b)) H) : kBool neg Q (.bl b) H := ⟨b, rfl, h⟩
end
/-! a def of one parameter whose promise may speak of the heap's size at the call -/
def FnN (P : Program) (w : World) (K : PySem.W.Frag) (mg : Str → Option Value) (base : Heap) (k : Nat) (f : Addr) (sp : Nat → Sp) : Prop :=
  ∀ (A : Around) (outer : List Env) (s : Shared) (H : Hp) (a : Value) (x : V) (Q : VK), Room k A → Env0 P w K mg base A outer s H → RelV x a → sp s.heap.objs.size [x] H Q EF →
    codeAny (model P w) A (.call (.ref f) ⟨[a], []⟩) (CR (L2N.CX P w) outer P w H s Q EF) s
theorem FnN.mono {P : Program} {w : World} {K : PySem.W.Frag} {mg : Str → Option Value} {base : Heap} {j k : Nat} {f : Addr} {sp : Nat → Sp} (F : FnN P w K mg base j f sp) (h : j ≤ k) : FnN P w K mg base k f sp := fun A outer s H a x Q hr => F A outer s H a x Q (hr.mono h)
theorem FunD.okN {P : Program} {w : World} {K : PySem.W.Frag} {mg : Str → Option Value} {base : Heap} {x qual : Str} {params : Arguments} {body : List Stmt} {scope : Scope} {f : Addr} {fd : FuncData} {N : List Str} {p : Str} {k : Nat} {sp : Nat → Sp}
    (F : FunD K x qual params body scope [] [] f fd) (S : FnScope N [p] scope) (hb : ∀ (s : Shared) (kV doc pm : Value) (an : Option Addr) (cdv ct : Value) (u : Value), BindsTo s (PySem.W.fnOf x qual params body scope .none kV doc pm an cdv ct) ⟨[u], []⟩ ([p].zip [u]))
    (hbody : ∀ (cdv : Value) (A : Around) (outer : List Env) (s : Shared) (H : Hp) (vs : List V) (Q : VK), Room k (A.deeper (envOfC qual scope s.heap.objs.size f cdv)) → sp s.heap.objs.size vs H Q EF →
      ∃ t, PSs (cxOf (L2N.CX P w) P w K mg base N qual scope f cdv A outer s H EF) body t ∧ t { nx := fun _ H' => Q .non H', rt := Q } (start N vs) H) : FnN P w K mg base (k + 1) f sp := by
  obtain ⟨oc, od, dV, kV, doc, pm, an, cdv, ct, osl, rfl, lk, hcd, hD, _⟩ := F.ex
  rcases hD with ⟨_, rfl⟩ | ⟨q, _⟩
  case inr => exact absurd rfl q
  intro A outer s H a v Q hr e0 rv hsp
  have KX : K.In s.heap := e0.mod.kin.keeps fun b o e => (e0.bs b o e).1
  have lim : s.heap.NoLimit := e0.mod.nolimit.keeps fun b o e => (e0.bs b o e).1
  refine codeAny_call_function hr.depth (KX _ _ lk) rfl S.co S.gen rfl (PySem.W.codeRec_of KX hcd) (hb s kV doc pm an cdv ct a _ _ _ _ ?_)
  refine wpAny_newFunctionEnv_cells S.kind (fun y hy => (S.par y.1 (List.of_mem_zip hy).1).imp_right fun q => ⟨q, PySem.W.cellsFrom_some _ _ _ (.inl q)⟩) fun env he s1 fresh => ?_
  subst he
  refine ⟨lim.keeps fresh.toInCall.keep, codeAny_func ?_⟩
  obtain ⟨t, ht, hq⟩ := hbody cdv A outer s H [v] Q (hr.deeper _) hsp
  refine wpAny_mono (ht.run [] s1 (start N [v]) H _ (inv_start S hr.hd e0 rfl (.cons rv .nil) fresh) hq) (fun fl s' hs => ?_) fun _ _ z => z
  cases fl with
  | ret u => obtain ⟨y, σ', H', J, ry, q⟩ := hs; exact ⟨y, H', J.os, J.bare, J.base, J.hok, ry, q⟩
  | next => obtain ⟨σ', H', J, q⟩ := hs; exact ⟨.non, H', J.os, J.bare, J.base, J.hok, rfl, q⟩
  | brk => exact hs.elim fun _ z => z.elim fun _ z => z.2.elim
  | cont => exact hs.elim fun _ z => z.elim fun _ z => z.2.elim
/-! a class whose __iter__ gives a list's iterator -/
structure IterF (K : PySem.W.Frag) (C f : Addr) : Prop where
  at_ : PySem.W.findIn K (.ref C) "__iter__" = some (some (.ref f))
  fn : PySem.W.isFn K (.ref f) = true
/-- what __iter__ promises -/
def spIt (K : PySem.W.Frag) (C : Addr) (fld : Str) (n : Nat) : Sp := fun vs H Q _ => ∃ (p l : Addr) (xs : List V), vs = [.ref p] ∧ IsI C H p (putF fld (.ref l) []) ∧ SqL K H l xs ∧ ∀ it H', Same H H' → H it = none → n ≤ it → H' it = some (ItO l it 0) → Q (.ref it) H'
def kIt (K : PySem.W.Frag) (R : It → Hp → Prop) (n : Nat) : VK := fun v H2 => ∃ it l, v = .ref it ∧ n ≤ it ∧ H2 it = some (ItO l it 0) ∧ R (Itl K l) (ItX.dropH H2 it)
def iOwnIt (K : PySem.W.Frag) (C : Addr) (sp : Nat → Sp) (te : TE) : TI := fun σ H R => te σ H fun x H1 => ∃ a dx fs, x = .ref a ∧ H1 a = some (.ins C dx fs) ∧ ∀ n, sp n [x] H1 (kIt K R n) EF
theorem itlF0 (K : PySem.W.Frag) (a : Addr) : ItX.ItlF K a 0 = Itl K a := by
  unfold ItX.ItlF
  congr 1 <;> (funext i; simp only [Nat.zero_add]; rfl)
section
variable {X : Cx} {C f : Addr} {k : Nat} {sp : Nat → Sp} {tg e : Expr} {te : TE} {σ : L2.St} {H : Hp} {R : It → Hp → Prop}
theorem pi_ownIt (c : IterF X.K C f) (F : FnN X.prog X.w X.K X.mg X.base k f sp) (hr : Room k X.A) (he : PE X e te) : PI X tg e (iOwnIt X.K C sp te) := by
  refine ⟨fun pins s σ H R I h => ?_⟩
  refine thn (he.run pins s σ H _ I h) fun u s1 ⟨x, H1, I1, r1, a, dx, fs, ex, ea, q⟩ => ?_
  subst ex
  cases r1
  obtain ⟨hx, od, J⟩ := inst_at I1 ea
  obtain ⟨m, Fm⟩ := I1.fr
  refine PySem.W.owit_iter Fm I1.mod.kin J c.at_ c.fn ?_
  refine wpAny_call (codeAny_mono (F X.A X.stack s1 H1 (.ref a) (.ref a) _ hr I1.env0 rfl (q _)) fun r s' hq => ?_)
  cases r with
  | error e => exact (cxF hq).elim
  | ok fl => cases fl with
    | ret u =>
      obtain ⟨v, H2, os, bare, un, hok, rv, it, l, ev, hn, hi, hR⟩ := hq
      subst ev
      cases rv
      obtain ⟨v3, H3, I3, rv3, e3, e4⟩ := I1.after (Q := fun v' H' => v' = V.ref it ∧ H' = H2) (u := .ref it) (s' := s') ⟨V.ref it, H2, os, bare, un, hok, rfl, rfl, rfl⟩
      subst e4
      have eo := itO_get I3 hi
      have hT : s'.TypeIs (.ref it) "list_iterator" := ⟨_, eo, rfl⟩
      unfold PySem.W.OwitIt
      refine wpAny_specialOf (name := Str.ofString "__next__") hT slot_listiter_next.lookup ?_
      have st : s'.heap.IsListIter it l (0 + 0) := ⟨_, eo, rfl, rfl⟩
      have hi' := hi
      unfold ItO at hi'
      refine ⟨it, [it], _, _, ItX.dropH H3 it, rfl, ItX.inv_drop I3 hi', ItX.turn_listF l it 0, st, fun b hb => ?_, by rw [itlF0]; exact hR⟩
      have e : b = it := by simpa using hb
      rw [e]
      exact ItX.inv_fp I3 hi (Nat.le_trans I1.sz hn)
    | next => exact False.elim hq
    | brk => exact False.elim hq
    | cont => exact False.elim hq
theorem i_ownIt {K : PySem.W.Frag} (h : te σ H fun x H1 => ∃ a dx fs, x = .ref a ∧ H1 a = some (.ins C dx fs) ∧ ∀ n, sp n [x] H1 (kIt K R n) EF) : iOwnIt K C sp te σ H R := h
theorem same_drop {H1 H2 : Hp} {it : Addr} (hn : H1 it = none) (s : Same H1 H2) : Same H1 (ItX.dropH H2 it) := fun b o e => by
  rw [ItX.dropH_ne (ne_of_none e hn)]; exact s b o e
/-- the walk of an own iterable whose list is l -/
theorem i_itO {K : PySem.W.Frag} {p l : Addr} {fld : Str} {xs : List V} (hp : IsI C H p (putF fld (.ref l) [])) (hx : SqL K H l xs) (h : ∀ H', Same H H' → R (Itl K l) H') :
    ∃ a dx fs, V.ref p = .ref a ∧ H a = some (.ins C dx fs) ∧ ∀ n, spIt K C fld n [.ref p] H (kIt K R n) EF := by
  obtain ⟨dx, hp'⟩ := id hp
  exact ⟨p, dx, _, rfl, hp', fun n => ⟨p, l, xs, rfl, hp, hx, fun it H' s n0 n e => ⟨it, l, rfl, n, e, h _ (same_drop n0 s)⟩⟩⟩
/-- iter(xs) -/
def rIterD (K : PySem.W.Frag) (n : Nat) : List V → Hp → VK → Prop := ItX.rIterN K n
theorem i_iterN {K : PySem.W.Frag} {n : Nat} {l : Addr} {zs : List V} {Q : VK} (hx : SqL K H l zs) (h : ∀ it H', H it = none → n ≤ it → Same H H' → H' it = some (ItO l it 0) → Q (.ref it) H') : ItX.rIterN K n [.ref l] H Q :=
  ⟨l, zs, rfl, hx, fun it hn h0 => h it _ hn h0 (same_new hn) upd_same⟩
end
/-! lists of own objects that are equal -/
section
variable {X : Cx} {C f : Addr} {k : Nat} {ps : List Str} {sp : Sp} {H : Hp} {Q : VK}
/-- both stand for the same thing -/
def SameAs {α : Type} (F : Hp → Addr → α → Prop) : Addr → Addr → Hp → Prop := fun a b H => ∃ x, F H a x ∧ F H b x
theorem OkD.eqs {α : Type} {F : Hp → Addr → α → Prop} (G : OkD X.prog X.w X.K X.mg X.base k f ps [] sp) (hsp : ∀ vs H Q E, spEq (SameAs F) vs H Q E → sp vs H Q EF) (hs : PySem.W.findIn X.K (.ref C) "__eq__" = some (some (.ref f))) (hf : PySem.W.isFn X.K (.ref f) = true) :
    RcG X k (DIns C (SameAs F)) := by
  obtain ⟨fd, ds, kp, b, vd, G⟩ := G
  cases vd
  have G2 : FnOk X.prog X.w X.K X.mg X.base (L2N.CX X.prog X.w) k f fd ps (spEq (SameAs F)) := ⟨fun vs H Q E h => G.len _ _ _ _ (hsp _ _ _ _ h), fun A outer s H args us vs Q E hr e0 hb r h => by
    refine codeAny_mono (G.run A outer s H args us vs Q EF hr e0 hb r (hsp _ _ _ _ h)) fun r s' z => ?_
    cases r with
    | error e => exact (cxF z).elim
    | ok fl => cases fl <;> exact z⟩
  exact rcG_ins (E := EF) G2 hs hf b (fun _ _ _ _ _ _ _ q => (cxF q).elim)
end
/-! loops over tuples; list(); lists of objects -/
section
variable {H : Hp} {Q : VK} {σ : L2.St} {te : TE} {g : TG} {t : TS} {D : Ends}
theorem i_tt {K : PySem.W.Frag} {R : It → Hp → Prop} (h : te σ H fun x H1 => ∃ a, x = .ref a ∧ (∃ xs, SqT K H1 a xs) ∧ R (Itt K a) H1) : iTup K te σ H R := h
theorem i_forT {K : PySem.W.Frag} {p : Addr} {xs : List V} (Pv : Nat → L2.St → Hp → Prop) (hx : SqT K H p xs) (h0 : Pv 0 σ H) (hl : ∀ i σ H, i ≤ xs.length → Pv i σ H → SqT K H p xs)
    (hs : ∀ i x σ H, xs[i]? = some x → Pv i σ H → g x σ H fun σ2 H2 => t { D with nx := Pv (i + 1), ct := Pv (i + 1), bk := D.nx } σ2 H2) (hd : ∀ σ H, Pv xs.length σ H → D.nx σ H) :
    ∃ a, V.ref p = .ref a ∧ (∃ xs, SqT K H a xs) ∧ ∃ W : Nat → Nat → L2.St → Hp → Prop, (∃ m, W 0 m σ H) ∧ ∀ i m σ H, W i m σ H →
      ((Itt K a).stop i H ∧ D.nx σ H) ∨ ((Itt K a).go i H ∧ ∃ N : L2.St → Hp → Prop, (∀ σ' H', N σ' H' → ∃ m', m' < m ∧ W (i + 1) m' σ' H') ∧ ∀ x H', (Itt K a).yld i H x H' → g x σ H' fun σ2 H2 => t { D with nx := N, ct := N, bk := D.nx } σ2 H2) :=
  ⟨p, rfl, ⟨xs, hx⟩, for_tup Pv h0 hl hs hd⟩
def rListC (K : PySem.W.Frag) : List V → Hp → VK → Prop := fun xs H Q => ∃ p ys, xs = [.ref p] ∧ (SqL K H p ys ∨ SqT K H p ys) ∧ ∀ l, H l = none → Q (.ref l) (upd H l (.lst ys))
theorem call_listC {X : Cx} : CallR X (.type "list") (rListC X.K) := call_list_of
theorem i_listC {K : PySem.W.Frag} {p : Addr} {ys : List V} (hx : SqL K H p ys ∨ SqT K H p ys) (h : ∀ l H2, H l = none → Same H H2 → H2 l = some (.lst ys) → Q (.ref l) H2) : rListC K [.ref p] H Q :=
  ⟨p, ys, rfl, hx, fun l hl => h l _ hl (same_new hl) upd_same⟩
variable {α : Type} {F : Hp → Addr → α → Prop}
theorem ins_ne {C D p q : Addr} {fs gs : List (Str × V)} (a : IsI C H p fs) (b : IsI D H q gs) (h : fs.length ≠ gs.length) : q ≠ p := by
  rintro rfl
  obtain ⟨dx, a⟩ := a
  obtain ⟨dy, b⟩ := b
  rw [a] at b
  cases b
  exact h rfl
theorem keepI {C p q : Addr} {fs : List (Str × V)} {H2 : Hp} (w : Keep p H H2) (n : q ≠ p) (b : IsI C H q fs) : IsI C H2 q fs := by
  obtain ⟨dy, b⟩ := b
  exact ⟨dy, w _ _ n b⟩
theorem keep_LO {C p l : Addr} {fs : List (Str × V)} {xs : List α} {H2 : Hp} (w : Keep p H H2) (hs : IsI C H p fs) (hl : LO F H l xs) (k : ∀ q x, F H q x → q ≠ p) (lift : ∀ q x, q ≠ p → F H q x → F H2 q x) : LO F H2 l xs := by
  obtain ⟨ps, h1, h2⟩ := hl
  obtain ⟨dx, hs⟩ := hs
  exact ⟨ps, w _ _ (fun e => by rw [e, hs] at h1; cases h1) h1, h2.map fun q x h => lift q x (k q x h) h⟩
theorem keep_LO2 {l c : Addr} {vs : List V} {xs : List α} {H2 : Hp} (w : ∀ b, b ≠ l → H2 b = H b) (n : c ≠ l) (h : LO F H c xs) (k : ∀ q x, F H q x → F H2 q x) : LO F H2 c xs := by
  obtain ⟨ps, h1, h2⟩ := h
  exact ⟨ps, by rw [w c n]; exact h1, h2.map k⟩
/-- one more at the end -/
theorem LO.put {l p : Addr} {ps : List Addr} {xs : List α} {x : α} {H2 : Hp} (hi : Items F H ps xs) (f : H2 l = some (.lst (ps.map V.ref ++ [V.ref p]))) (hp : F H p x) (k : ∀ q y, F H q y → F H2 q y) : LO F H2 l (xs ++ [x]) :=
  ⟨ps ++ [p], by rw [List.map_append]; exact f, (hi.snoc hp).map k⟩
theorem Items.app {ps qs : List Addr} {xs ys : List α} (h : Items F H ps xs) (g : Items F H qs ys) : Items F H (ps ++ qs) (xs ++ ys) := by
  induction h with
  | nil => exact g
  | cons a _ ih => exact .cons a ih
theorem Items.drop {ps : List Addr} {xs : List α} (h : Items F H ps xs) : ∀ n, Items F H (ps.drop n) (xs.drop n) := by
  induction h with
  | nil => intro n; rw [List.drop_nil, List.drop_nil]; exact .nil
  | cons a b ih =>
    intro n
    cases n with
    | zero => exact .cons a b
    | succ n => exact ih n
theorem Items.take {ps : List Addr} {xs : List α} (h : Items F H ps xs) : ∀ n, Items F H (ps.take n) (xs.take n) := by
  induction h with
  | nil => intro n; rw [List.take_nil, List.take_nil]; exact .nil
  | cons a b ih =>
    intro n
    cases n with
    | zero => exact .nil
    | succ n => exact .cons a (ih n)
theorem Items.cut {ps : List Addr} {xs : List α} (h : Items F H ps xs) (lo hi : Option Int) : Items F H (cutL ps lo hi) (cutL xs lo hi) := by
  unfold cutL
  rw [h.len]
  exact (h.drop _).take _
theorem Items.ofT {l : Addr} {ps : List Addr} {xs : List α} (h : Items F H ps xs) (e : H l = some (.lst (ps.map V.ref))) : LO F H l xs := ⟨ps, e, h⟩
end
theorem i_lenTO {K : PySem.W.Frag} {α : Type} {F : Hp → Addr → α → Prop} {H : Hp} {Q : VK} {p : Addr} {xs : List α} (h : TO F H p xs) (k : Q (.int xs.length) H) : rLenS K [.ref p] H Q := by
  obtain ⟨ps, h1, h2⟩ := h
  exact ⟨p, _, rfl, .inr (.of h1), by rw [List.length_map, h2.len]; exact k⟩
/-! the head's looks -/
def rcB (K : PySem.W.Frag) (C : Addr) (nm : String) : Bool := match PySem.W.findIn K (.ref C) (dunderR nm) with
  | some none => true
  | some (some (.ref _)) => true
  | _ => false
theorem rcB_ok {K : PySem.W.Frag} {C : Addr} {nm : String} (h : rcB K C nm = true) : ∃ rc, PySem.W.findIn K (.ref C) (dunderR nm) = some rc ∧ (rc = none ∨ ∃ g : Addr, rc = some (.ref g)) := by
  unfold rcB at h
  split at h
  · rename_i e; exact ⟨_, e, .inl rfl⟩
  · rename_i g e; exact ⟨_, e, .inr ⟨g, rfl⟩⟩
  · cases h
def mroB (K : PySem.W.Frag) (D : Addr) : Bool := match PySem.W.clsIn K D with
  | some cd => cd.mro == [.ref D, .type "object"]
  | none => false
theorem mroB_ok {K : PySem.W.Frag} {D : Addr} (h : mroB K D = true) : ∃ cd, PySem.W.clsIn K D = some cd ∧ cd.mro = [.ref D, .type "object"] := by
  unfold mroB at h
  split at h
  · rename_i cd e; exact ⟨cd, e, beq_iff_eq.mp h⟩
  · cases h
def binDB (K : PySem.W.Frag) (C D : Addr) (nm : String) (f : Addr) : Bool := binB K C nm f && (rcB K C nm && (mroB K D && (He.eqO (PySem.W.findIn K (.ref D) (PySem.dunder nm)) (some none) && (He.eqO (PySem.W.findIn K (.ref D) (dunderR nm)) (some none) &&
  (He.eqO (PySem.W.findIn K (.type "object") (PySem.dunder nm)) (some none) && (He.eqO (PySem.W.findIn K (.type "object") (dunderR nm)) (some none) && (decide (PySem.W.subIn K (.ref D) (.ref C) = some false) && decide (C ≠ D))))))))
theorem binDB_ok {K : PySem.W.Frag} {C D : Addr} {nm : String} {f : Addr} (h : binDB K C D nm f = true) : BinD K C D nm f := by
  obtain ⟨h1, h⟩ := He.ba h
  obtain ⟨h2, h⟩ := He.ba h
  obtain ⟨h3, h⟩ := He.ba h
  obtain ⟨h4, h⟩ := He.ba h
  obtain ⟨h5, h⟩ := He.ba h
  obtain ⟨h6, h⟩ := He.ba h
  obtain ⟨h7, h⟩ := He.ba h
  obtain ⟨h8, h9⟩ := He.ba h
  exact ⟨binB_ok h1, rcB_ok h2, mroB_ok h3, He.eqO_ok h4, He.eqO_ok h5, He.eqO_ok h6, He.eqO_ok h7, of_decide_eq_true h8, of_decide_eq_true h9⟩
def fnB (K : PySem.W.Frag) (C : Addr) (nm : Str) (f : Addr) : Bool := He.eqO (PySem.W.findIn K (.ref C) nm) (some (some (.ref f))) && PySem.W.isFn K (.ref f)
theorem inB_ok {K : PySem.W.Frag} {C f : Addr} (h : fnB K C "__contains__" f = true) : InF K C f := ⟨He.eqO_ok (He.ba h).1, (He.ba h).2⟩
theorem iterB_ok {K : PySem.W.Frag} {C f : Addr} (h : fnB K C "__iter__" f = true) : IterF K C f := ⟨He.eqO_ok (He.ba h).1, (He.ba h).2⟩
theorem LO.atZ {K : PySem.W.Frag} {α : Type} {F : Hp → Addr → α → Prop} {H : Hp} {p : Addr} {xs : List α} {q : Int} {x : α} (h : LO F H p xs) (e : xs[q.toNat]? = some x) (h0 : 0 ≤ q) : ∃ vs a, SqL K H p vs ∧ atI vs q = some (.ref a) ∧ F H a x := by
  obtain ⟨vs, a, h1, h2, h3⟩ := LO.at (K := K) h e
  refine ⟨vs, a, h1, ?_, h3⟩
  rw [← h2]
  congr 1
  omega
theorem LO.last {K : PySem.W.Frag} {α : Type} {F : Hp → Addr → α → Prop} {H : Hp} {p : Addr} {xs : List α} {x : α} (h : LO F H p xs) (e : xs[xs.length - 1]? = some x) : ∃ vs a, SqL K H p vs ∧ atI vs (-1) = some (.ref a) ∧ F H a x := by
  obtain ⟨ps, h1, h2⟩ := h
  obtain ⟨a, e1, e2⟩ := h2.get e
  refine ⟨_, a, .of h1, ?_, e2⟩
  rw [← h2.len] at e1
  have hl : ps.length - 1 < ps.length := by
    rcases Nat.lt_or_ge (ps.length - 1) ps.length with l | l
    · exact l
    · rw [List.getElem?_eq_none l] at e1; cases e1
  have hj : (ps.map V.ref)[ps.length - 1]? = some (V.ref a) := by rw [List.getElem?_map, e1]; rfl
  unfold atI ixN
  rw [List.length_map, if_neg (by decide), if_pos (by omega), show ((-1 : Int) + (ps.length : Int)).toNat = ps.length - 1 by omega]
  exact hj
theorem OkD.eqL {X : Cx} {C f : Addr} {k : Nat} {ps : List Str} {sp : Sp} {α : Type} {F : Hp → Addr → α → Prop} (G : OkD X.prog X.w X.K X.mg X.base k f ps [] sp) (hsp : ∀ vs H Q E, spEq (SameAs F) vs H Q E → sp vs H Q EF) (c : CmpF X.K C "__eq__" f)
    (hF : ∀ (p : Addr) (x : α) (H H' : Hp), Same H H' → F H p x → F H' p x) : RcG X (k + 1) (DList (DIns C (SameAs F))) :=
  rcG_list (mon_ins fun a b H H' e r => r.elim fun x q => ⟨x, hF _ _ _ _ e q.1, hF _ _ _ _ e q.2⟩) ((OkD.eqs G hsp c.at_ c.fn).eqG fun _ _ _ d => let ⟨a, b, _, _, _, _, hx, hy, _⟩ := d; ⟨a, b, hx, hy⟩)
theorem prs_items {α : Type} {C : Addr} {F : Hp → Addr → α → Prop} {H : Hp} (hC : ∀ p x, F H p x → ∃ fs, IsI C H p fs) : ∀ {ps qs : List Addr} {xs : List α}, Items F H ps xs → Items F H qs xs → Prs (DIns C (SameAs F)) (ps.map V.ref) (qs.map V.ref) H
  | _, _, _, .nil, .nil => Prs.nil
  | _, _, _, .cons a r, .cons b t => by
    obtain ⟨fs, dx, e1⟩ := hC _ _ a
    obtain ⟨gs, dy, e2⟩ := hC _ _ b
    exact Prs.cons ⟨_, _, dx, dy, fs, gs, rfl, rfl, e1, e2, _, a, b⟩ (prs_items hC r t)
theorem i_eqL {α : Type} {C : Addr} {F : Hp → Addr → α → Prop} {H : Hp} {Q : VK} {p q : Addr} {xs : List α} (h1 : LO F H p xs) (h2 : LO F H q xs) (hC : ∀ p x, F H p x → ∃ fs, IsI C H p fs) (h : ∀ H', Same H H' → Q (.bl true) H') : rEqG (DList (DIns C (SameAs F))) (.ref p) (.ref q) H Q := by
  obtain ⟨ps, a1, a2⟩ := h1
  obtain ⟨qs, b1, b2⟩ := h2
  exact ⟨⟨p, q, _, _, rfl, rfl, a1, b1, prs_items hC a2 b2⟩, fun H' e => h H' e⟩
theorem two_atI {a b q : Int} (h0 : 0 ≤ q) (h1 : q < 2) : atI [V.int a, V.int b] q = some (V.int (if q = 0 then a else b)) := by
  have : q = 0 ∨ q = 1 := by omega
  rcases this with rfl | rfl <;> rfl
theorem two_atS {a b : Str} {q : Int} (h0 : 0 ≤ q) (h1 : q < 2) : atI [V.str a, V.str b] q = some (V.str (if q = 0 then a else b)) := by
  have : q = 0 ∨ q = 1 := by omega
  rcases this with rfl | rfl <;> rfl
theorem ite01 (b : Bool) : (0 : Int) ≤ (if b = true then 1 else 0) ∧ (if b = true then 1 else 0 : Int) < 2 := by cases b <;> decide
/-! a source whose cells stand at c -/
def SrcAt (H : Hp) (a c : Addr) : Prop := ∃ i x y z : Int, H a = some (.lst [.int i, .int x, .int y, .int z, .ref c])
theorem same_srcat {H H' : Hp} {a c : Addr} (s : Same H H') (h : SrcAt H a c) : SrcAt H' a c := by
  obtain ⟨i, x, y, z, h⟩ := h
  exact ⟨i, x, y, z, s _ _ h⟩
theorem ext_srcat {H H' : Hp} {a c : Addr} (s : Z.Ext H H') (h : SrcAt H a c) : SrcAt H' a c := by
  obtain ⟨i, x, y, z, h⟩ := h
  exact s.src a c i x y z h
theorem srcat_app {H0 H H2 : Hp} {a c l : Addr} (z : H0 l = none) (h0 : IsSrc H0 a) (w : ∀ b, b ≠ l → H2 b = H b) (h : SrcAt H a c) : SrcAt H2 a c := by
  obtain ⟨i, x, y, zz, h⟩ := h
  obtain ⟨_, _, _, _, _, _, q, _⟩ := h0
  exact ⟨i, x, y, zz, by rw [w a (ne_of_none q z)]; exact h⟩
theorem src_app2 {H0 H H2 : Hp} {l a c : Addr} (z : H0 l = none) (h0 : IsSrc H0 a) (w : ∀ b, b ≠ l → H2 b = H b) (hc : SrcAt H a c) (n : c ≠ l) (h : IsSrc H a) : IsSrc H2 a := by
  obtain ⟨i, x, y, zz, c', ns, h1, h2, h3⟩ := h
  obtain ⟨_, _, _, _, _, _, q, _⟩ := h0
  obtain ⟨_, _, _, _, hc⟩ := hc
  rw [h1] at hc
  have e : c' = c := by cases hc; rfl
  exact ⟨i, x, y, zz, c', ns, by rw [w a (ne_of_none q z)]; exact h1, by rw [w c' (by rw [e]; exact n)]; exact h2, h3⟩
theorem srcat_of {H : Hp} {a l : Addr} (h : IsSrc H a) (z : H l = none) : ∃ c, SrcAt H a c ∧ c ≠ l := by
  obtain ⟨i, x, y, zz, c, ns, h1, h2, h3⟩ := h
  exact ⟨c, ⟨i, x, y, zz, h1⟩, fun e => by rw [e, z] at h2; cases h2⟩
theorem srcat_eq {H : Hp} {a c c' : Addr} {i x y z : V} (h : H a = some (.lst [i, x, y, z, .ref c'])) (q : SrcAt H a c) : c' = c := by
  obtain ⟨_, _, _, _, q⟩ := q
  rw [h] at q
  cases q; rfl
theorem i_rngC {F : Int → Prop} {j : Int} (b1 : -(2 ^ 62) ≤ j) (b2 : j < 2 ^ 62) (h : F j) : ∃ j' : Int, [V.int j] = [.int j'] ∧ -(2 ^ 62) ≤ j' ∧ j' < 2 ^ 62 ∧ F j' := ⟨j, rfl, b1, b2, h⟩
/-! fields and places within a comprehension: the fragment by its own name -/
theorem pe_fldC {X : Cx} {K : PySem.W.Frag} {e : Expr} {ta : TE} {f : Str} {pos : Pos} (hK : X.K = K) (he : PE X e ta) (hb : attributeBase e f X.env (eval e X.env) = eval e X.env) : PE X (.Attribute e f pos) (tFld K ta f) := by
  subst hK; exact pe_fld he hb
theorem ix_listC {X : Cx} {K : PySem.W.Frag} (hK : X.K = K) : IxR X (rIxL K) := by
  subst hK; exact ix_list
theorem ix_tupC {X : Cx} {K : PySem.W.Frag} (hK : X.K = K) : IxR X (rIxT K) := by
  subst hK; exact ix_tup
end Z
namespace Z
open PySem PySem.Spec L2
open PyProof.Rows hiding St
section
variable {X : Cx} {C f : Addr} {k : Nat} {ps : List Str} {dvs : List V} {sp : Sp} {x : Str} {e : Expr} {es : List Expr} {p pos : Pos} {t : TA}
/-- C(..) within a comprehension -/
theorem pcMc (M : Mk X.K C f) (F : OkD X.prog X.w X.K X.mg X.base k f ps dvs sp) (hr : Room (k + 1) X.A) (hm : X.mg x = some (.ref C)) (ha : PA X (e :: es) t) (hg : Gl X x := by rfl) (hd : (x == ("__debug__" : Str)) = false := by decide)
    (he : starEach (e :: es) X.env = (false, eval e X.env) :: starEach es X.env := by rfl) (hpl : (backTo pos (starEach es X.env)).any (·.1) = false := by rfl) : PE X (.Call (.Name x p) (e :: es) [] pos) (tMake C sp dvs EF t) := by
  obtain ⟨fd, ds, kp, b, vd, F⟩ := F
  exact pe_make M F hr hg hm b vd (fun _ _ _ _ _ _ _ q => (cxF q).elim) ha hd he hpl
end
end Z

/-! ### raising, second part: methods, operators that may raise, classes without an own `__init__` -/
namespace Z
open PySem PySem.W PySem.Spec L2
open PyProof.Rows hiding St
theorem passes_cx {P : Program} {w : World} {K : PySem.W.Frag} {mg : Str → Option Value} {base : Heap} {N : List Str} {qual : Str} {scope : Scope} {f : Addr} {cd : Value} {A : Around} {outer : List Env} {s : Shared} {H : Hp} {E : XK} :
    Passes (L2N.CX P w) (cxOf (L2N.CX P w) P w K mg base N qual scope f cd A outer s H E) E := fun pins σ H' s' e s2 I c => L2N.passAt takes_cx σ pins H' s' e s2 I c
section
variable {X : Cx} {C f g : Addr} {k : Nat} {ps : List Str} {dvs : List V} {sp : Sp} {x m : Str} {e o : Expr} {es : List Expr} {p apos pos : Pos} {ta te : TE} {t : TA} {σ : L2.St} {H : Hp} {Q : VK} {W : WX} {E : XK} {a : Addr} {fs : List (Str × V)} {D : Ends}
/-- o.m(e, ..) that may raise -/
def tMethW (C : Addr) (m : Str) (sp : Sp) (dvs : List V) (W : WX) (ta : TE) (t : TA) : TE := fun σ H Q => ta σ H fun x H1 => ∃ a dx fs, x = .ref a ∧ H1 a = some (.ins C dx fs) ∧ fs.lookup m = none ∧ t σ H1 fun vs H2 => sp (x :: (vs ++ dvs)) H2 Q (fun cls d H' => W cls d σ H')
theorem pcMeW {pl : Sem Bool} (he : PE X o ta) (c : Cls X.K C) (hm : Meth X.K C m f) (F : OkD X.prog X.w X.K X.mg X.base k f ps dvs sp) (hr : Room k X.A) (tk : L2N.Takes X W) (ha : PA X (e :: es) t)
    (hst : starEach (e :: es) X.env = (false, eval e X.env) :: starEach es X.env := by rfl) (hpl : (backTo pos (starEach es X.env)).any (·.1) = false := by rfl)
    (ht : eval (.Call (.Attribute o m apos) (e :: es) [] pos) X.env = (do
      let ov ← eval o X.env
      standAt apos.atName
      let (f, first) ← holding [ov] (getMethod ov m pl)
      callWith pos f first (backTo pos (starEach (e :: es) X.env)) (backToKw pos (keywordEach [] X.env))) := by rfl) :
    PE X (.Call (.Attribute o m apos) (e :: es) [] pos) (tMethW C m sp dvs W ta t) := by
  obtain ⟨fd, ds, kp, b, vd, F⟩ := F
  refine ⟨fun pins s σ H Q I h => ?_⟩
  refine PySem.W.methodCall_KW (pl := pl) (thn (he.run pins s σ H _ I h) fun u s1 ⟨x, H1, I1, rx, a, dx, fs, ex, ea, l, q⟩ => ?_) ht
  subst ex
  obtain rfl : u = Value.ref a := rx
  refine getmeth_ok I1 ea c hm l ?_
  refine PySem.W.callWith_K (first := [.ref a]) (h₀ := X.base) I.ok.mod.kin hm.kp (thn (ha.run pos pins s1 σ H1 _ I1 q) fun us s2 ⟨vs, H2, I2, r, q2⟩ => ⟨I2.kIn, ?_⟩) hst hpl
  exact run_fnSD (E := fun σ cls d H' => W cls d σ H') (us := .ref a :: us) (vs := .ref a :: vs) F hr b vd (L2N.passAt tk σ) I2 (.cons rfl r) q2
theorem pcMeW0 {pl : Sem Bool} (he : PE X o ta) (c : Cls X.K C) (hm : Meth X.K C m f) (F : OkD X.prog X.w X.K X.mg X.base k f ps dvs sp) (hr : Room k X.A) (tk : L2N.Takes X W)
    (ht : eval (.Call (.Attribute o m apos) [] [] pos) X.env = (do
      let ov ← eval o X.env
      standAt apos.atName
      let (f, first) ← holding [ov] (getMethod ov m pl)
      callWith pos f first (backTo pos (starEach [] X.env)) (backToKw pos (keywordEach [] X.env))) := by rfl) :
    PE X (.Call (.Attribute o m apos) [] [] pos) (tMethW C m sp dvs W ta tNil) := by
  obtain ⟨fd, ds, kp, b, vd, F⟩ := F
  refine ⟨fun pins s σ H Q I h => ?_⟩
  refine PySem.W.methodCall_KW (pl := pl) (thn (he.run pins s σ H _ I h) fun u s1 ⟨x, H1, I1, rx, a, dx, fs, ex, ea, l, q⟩ => ?_) ht
  subst ex
  obtain rfl : u = Value.ref a := rx
  refine getmeth_ok I1 ea c hm l ?_
  exact PySem.W.callWith_K0 (first := [.ref a]) I1.kIn hm.kp (run_fnSD (E := fun σ cls d H' => W cls d σ H') (us := [.ref a]) (vs := [.ref a]) F hr b vd (L2N.passAt tk σ) I1 (.cons rfl .nil) q)
def kMethW (C : Addr) (m : Str) (sp : Sp) (dvs : List V) (W : WX) (t : TA) (σ : L2.St) (Q : VK) : VK := fun x H1 => ∃ a dx fs, x = .ref a ∧ H1 a = some (.ins C dx fs) ∧ fs.lookup m = none ∧ t σ H1 fun vs H2 => sp (x :: (vs ++ dvs)) H2 Q (fun cls d H' => W cls d σ H')
theorem i_methW (h : ta σ H (kMethW C m sp dvs W t σ Q)) : tMethW C m sp dvs W ta t σ H Q := h
theorem i_methWI (e : IsI C H a fs) (l : fs.lookup m = none) (h : t σ H fun vs H2 => sp (.ref a :: (vs ++ dvs)) H2 Q (fun cls d H' => W cls d σ H')) : kMethW C m sp dvs W t σ Q (.ref a) H := by
  obtain ⟨dx, e⟩ := e
  exact ⟨a, dx, fs, rfl, e, l, h⟩
/-- C() of an own exception class without own __init__ -/
theorem pmk_own0 {bmB : List Value} {B newId initId : String} (F : ExcBaseFacts B newId initId bmB) (q : PySem.W.excIn X.K C bmB newId = true) (r : Raises X (.ref C)) (hg : Gl X x) (gC : X.mg x = some (.ref C)) (kC : PySem.W.keepIn X.K (.ref C) = true)
    (hdb : (x == ("__debug__" : Str)) = false := by decide) : L2N.PMk X (.Call (.Name x p) [] [] pos) (fun _ H Q => Q (.ref C) none H) := by
  intro pins s σ H Q I h
  refine wpAny_Call_Name_kw (ld_glob I hg gC ?_ hdb)
  refine PySem.W.callWith_K0 I.kIn kC ?_
  obtain ⟨bm, N, nm, qn, bs, hdct, sn, sub, ab, col, dd, k0, k1, k2, k3, k5, mN, hC, hN, hni, T⟩ := exc_obj I.kIn q
  refine wpAny_call_exc_subT F T hC hN hni (fun h' e hm => ?_) (Nat.zero_le _)
  exact L2N.mk_of I hm r h (I.hok.gone hm.new)
structure Ex0 (K : PySem.W.Frag) (C : Addr) : Prop where
  exc : PySem.W.excIn K C [.type "ValueError", .type "Exception", .type "BaseException", .type "object"] "ValueError.__new__" = true
  sub : PySem.W.subIn K (.ref C) (.type "BaseException") = some true
  ty : PySem.W.typeIn K (.ref C) = some (.type "type")
  kp : PySem.W.keepIn K (.ref C) = true
theorem pmk_ex0 (T : Ex0 X.K C) (hg : Gl X x) (gC : X.mg x = some (.ref C)) (hdb : (x == ("__debug__" : Str)) = false := by decide) : L2N.PMk X (.Call (.Name x p) [] [] pos) (fun _ H Q => Q (.ref C) none H) :=
  pmk_own0 PySem.F.excBase_ValueError T.exc (raises_own T.sub T.ty) hg gC T.kp hdb
def ex0B (K : PySem.W.Frag) (C : Addr) : Bool := PySem.W.excIn K C [.type "ValueError", .type "Exception", .type "BaseException", .type "object"] "ValueError.__new__" && (decide (PySem.W.subIn K (.ref C) (.type "BaseException") = some true) && (decide (PySem.W.typeIn K (.ref C) = some (.type "type")) && PySem.W.keepIn K (.ref C)))
theorem ex0B_ok {K : PySem.W.Frag} {C : Addr} (h : ex0B K C = true) : Ex0 K C := by
  obtain ⟨h1, h⟩ := He.ba h
  obtain ⟨h2, h⟩ := He.ba h
  obtain ⟨h3, h4⟩ := He.ba h
  exact ⟨h1, of_decide_eq_true h2, of_decide_eq_true h3, h4⟩
/-! operators that may raise, where what is raised goes on -/
theorem run_okE {pins : List (Addr × Obj)} {us : List Value} {vs dvs : List V} {s : Shared} (F : OkD X.prog X.w X.K X.mg X.base k f ps dvs sp) (hr : Room k X.A) (hx : Passes (L2N.CX X.prog X.w) X E)
    (I : Inv X pins σ H s) (r : Vals vs us) (h : sp (vs ++ dvs) H Q E) : wpAny (model X.prog X.w) X.A (call (.ref f) us) (EP X pins σ Q) X.xe s := by
  obtain ⟨fd, ds, kp, b, vd, F⟩ := F
  exact run_fn F hr b vd hx I r h
def rInOE (C : Addr) (sp : Sp) (E : XK) (neg : Bool) : R2 := fun x y H Q => ∃ a dx fs, y = .ref a ∧ H a = some (.ins C dx fs) ∧ sp [y, x] H (kBool neg Q) E
theorem op_inOE (b : InF X.K C f) (F : OkD X.prog X.w X.K X.mg X.base k f ps [] sp) (hr : Room k X.A) (hp : Passes (L2N.CX X.prog X.w) X E) : OpR X (compareOp .In) (rInOE C sp E false) := by
  intro pins s σ H x y u v Q I rx ry h
  obtain ⟨a, dx, fs, rfl, ea, q⟩ := h
  cases ry
  obtain ⟨hx, od, J⟩ := inst_at I ea
  obtain ⟨m, Fm⟩ := I.fr
  refine PySem.W.in_K Fm I.mod.kin J b.at_ b.fn (wpAny_mono (run_okE (us := [.ref a, u]) (vs := [.ref a, x]) F hr hp I (.cons rfl (.cons rx .nil)) q) (fun r s' z => ?_) fun _ _ z => z)
  obtain ⟨v, H', I', rv, c, rfl, q'⟩ := z
  cases (show r = Value.bool c from rv)
  exact wpAny_pure ⟨.bl c, H', I', rfl, q'⟩
theorem op_ninOE (b : InF X.K C f) (F : OkD X.prog X.w X.K X.mg X.base k f ps [] sp) (hr : Room k X.A) (hp : Passes (L2N.CX X.prog X.w) X E) : OpR X (compareOp .NotIn) (rInOE C sp E true) := by
  intro pins s σ H x y u v Q I rx ry h
  obtain ⟨a, dx, fs, rfl, ea, q⟩ := h
  cases ry
  obtain ⟨hx, od, J⟩ := inst_at I ea
  obtain ⟨m, Fm⟩ := I.fr
  refine PySem.W.notIn_K Fm I.mod.kin J b.at_ b.fn (wpAny_mono (run_okE (us := [.ref a, u]) (vs := [.ref a, x]) F hr hp I (.cons rfl (.cons rx .nil)) q) (fun r s' z => ?_) fun _ _ z => z)
  obtain ⟨v, H', I', rv, c, rfl, q'⟩ := z
  cases (show r = Value.bool c from rv)
  exact wpAny_pure ⟨.bl (!c), H', I', rfl, q'⟩
theorem i_inOE {neg : Bool} {p : Addr} {x : V} {fs : List (Str × V)} (hp : IsI C H p fs) (h : sp [.ref p, x] H (kBool neg Q) E) : rInOE C sp E neg x (.ref p) H Q := by
  obtain ⟨dx, hp⟩ := hp
  exact ⟨p, dx, fs, rfl, hp, h⟩
def rOwnE (C : Addr) (sp : Sp) (E : XK) : R2 := fun x y H Q => ∃ a dx fs, x = .ref a ∧ H a = some (.ins C dx fs) ∧ (∃ b dy gs, y = .ref b ∧ H b = some (.ins C dy gs)) ∧ sp [x, y] H Q E
theorem op_ownE {op : Operator} (b : BinF X.K C op.info.2 f) (F : OkD X.prog X.w X.K X.mg X.base k f ps [] sp) (hr : Room k X.A) (hp : Passes (L2N.CX X.prog X.w) X E) : OpR X (binaryOp op) (rOwnE C sp E) := by
  intro pins s σ H x y u v Q I rx ry h
  obtain ⟨a, dx, fs, rfl, ea, ⟨c, dy, gs, rfl, ec⟩, q⟩ := h
  cases rx
  cases ry
  obtain ⟨hx, od, J⟩ := inst_at I ea
  obtain ⟨hy, od2, J2⟩ := inst_at I ec
  obtain ⟨m, Fm⟩ := I.fr
  exact PySem.W.binop_K Fm I.mod.kin J J2.type b.first b.at_ b.fn (wpAny_mono (run_okE (vs := [.ref a, .ref c]) F hr hp I (.cons rfl (.cons rfl .nil)) q) (fun _ _ z => ep_cmp z) fun _ _ z => z)
theorem i_ownE {p q : Addr} {fs gs : List (Str × V)} (hp : IsI C H p fs) (hq : IsI C H q gs) (h : sp [.ref p, .ref q] H Q E) : rOwnE C sp E (.ref p) (.ref q) H Q := by
  obtain ⟨dx, hp⟩ := hp
  obtain ⟨dy, hq⟩ := hq
  exact ⟨p, dx, fs, rfl, hp, ⟨q, dy, gs, rfl, hq⟩, h⟩
/-! a field that is None or an integer -/
theorem opt_n {o : Option Int} (h : o = none) : optV o = V.non := by subst h; rfl
theorem opt_s {o : Option Int} {z : Int} (h : o = some z) : optV o = V.int z := by subst h; rfl
end
end Z
namespace Z
open PySem PySem.W PySem.Spec L2
open PyProof.Rows hiding St
/-! l.count(x) of flat items -/
theorem count_flat {uy : V} : ∀ {ys : List V} {us : List Value}, Vals ys us → ys.all flatV = true → us.countP (eqU uy) = ys.countP fun z => eqV z uy
  | _, _, .nil, _ => rfl
  | y :: ys, u :: us, .cons r t, f => by
    rw [List.all_cons, Bool.and_eq_true] at f
    rw [List.countP_cons, List.countP_cons, eqU_of r f.1, count_flat t f.2]
def rCountF (K : PySem.W.Frag) : V → List V → Hp → VK → Prop := fun x xs H Q => ∃ (a : Addr) (ys : List V) (y : V), x = .ref a ∧ xs = [y] ∧ SqL K H a ys ∧ flatV y = true ∧ ys.all flatV = true ∧ Q (.int ((ys.countP fun z => eqV z y : Nat) : Int)) H
theorem mt_countF {X : Cx} : MtR X "list.count" (rCountF X.K) := by
  intro pins s σ H x xs v us Q I rx rxs h
  obtain ⟨a, ys, y, rfl, rfl, hs, fy, fys, q⟩ := h
  cases rx
  cases rxs with
  | cons ry rt =>
    rename_i uy ut
    cases rt
    obtain ⟨its, rv, ⟨⟨cls, dd, data, sl⟩, n, ho, hc, hdn, hd⟩, hlen⟩ := I.list hs
    simp only at hc hd
    subst hc hd
    refine call_meets PySem.F.slot_list_count ⟨_, ho, rfl⟩ PySem.F.entry_list_count (PySem.F.args_list_count_2 _ _)
      (SeqAt.list_countAt a its.toArray n dd sl uy (eqU y)) ⟨ho, fun u' hu' => mem_eqAt ry fy rv fys u' (by simpa using hu'), ?_⟩
    refine ⟨.int ((ys.countP fun z => eqV z y : Nat) : Int), H, I.tok _, ⟨s.toks, ?_⟩, q⟩
    show Value.int ((its.toArray.toList.countP (eqU y) : Nat) : Int) s.toks = _
    rw [← count_flat rv fys]
theorem i_countF {K : PySem.W.Frag} {H : Hp} {Q : VK} {a : Addr} {ys : List V} {y : V} {n : Int} (hs : SqL K H a ys) (fy : flatV y = true) (fys : ys.all flatV = true) (e : ((ys.countP fun z => eqV z y : Nat) : Int) = n) (q : Q (.int n) H) : rCountF K (.ref a) [y] H Q :=
  ⟨a, ys, y, rfl, rfl, hs, fy, fys, by rw [e]; exact q⟩
end Z
namespace Z
open PySem PySem.W PySem.Spec L2
open PyProof.Rows hiding St
theorem i_eqD2 {K : PySem.W.Frag} {H : Hp} {Q : VK} {p q : Addr} {i j k l : Int} (hp : SqT K H p [.int i, .int j]) (hq : SqT K H q [.int k, .int l]) (h : Q (.bl (decide (i = k ∧ j = l))) H) : rEqD K (.ref p) (.ref q) H Q :=
  ⟨_, _, .tup hp (.cons (.int _) (.cons (.int _) .nil)), .tup hq (.cons (.int _) (.cons (.int _) .nil)), rfl, rfl, by rw [eqv2]; exact h⟩
theorem mt_countFC {X : Cx} {K : PySem.W.Frag} (hK : X.K = K) : MtR X "list.count" (rCountF K) := by subst hK; exact mt_countF
section
variable {X : Cx} {o e : Expr} {es : List Expr} {to : TE} {t : TA} {name : Str} {apos cpos : Pos} {T id : String} {r : V → List V → Hp → VK → Prop}
theorem pe_bmC {K : PySem.W.Frag} (hK : X.K = K) (pa : PlainAttrs T) (slot : Slot T name id) (hty : typeOf (.builtin id) = pure (.type "method_descriptor")) (hm : MtR X id r) (ho : PE X o to) (ha : PA X (e :: es) t)
    (hbase : attributeBase o name X.env (eval o X.env) = eval o X.env := by rfl)
    (hfew : ((backTo cpos (starEach (e :: es) X.env)).all (fun x => !x.1) && (backToKw cpos (keywordEach [] X.env)).all (fun x => x.1.isSome)
      && decide ((e :: es).length + ([] : List Keyword).length + (if ([] : List Keyword).isEmpty then 0 else 1) < 30)) = true := by rfl)
    (hline : (apos.endLine == cpos.line) = true := by rfl) (hs : starEach (e :: es) X.env = (false, eval e X.env) :: starEach es X.env := by rfl) (hplain : (backTo cpos (starEach es X.env)).any (·.1) = false := by rfl) :
    PE X (.Call (.Attribute o name apos) (e :: es) [] cpos) (tBM K T r to t) := by
  subst hK; exact pe_bm pa slot hty hm ho ha hbase hfew hline hs hplain
end
/-! what is never reached behind what raises -/
theorem op_never {X : Cx} {f : Value → Value → Sem Value} : OpR X f (fun _ _ _ _ => False) := by
  intro pins s σ H x y u v Q I rx ry h
  exact h.elim
end Z
namespace Z
open PySem PySem.W PySem.Spec L2
open PyProof.Rows hiding St
/-! making instances: the new address is new -/
section
variable {C : Addr} {sp : Sp} {vs dvs : List V} {E : XK} {H : Hp} {Q : VK}
theorem i_madeN (h : ∀ x H2, H x = none → (∀ H3, Keep x H2 H3 → Same H H3) → IsI C H2 x [] → sp (.ref x :: (vs ++ dvs)) H2 (fun v H3 => v = .non ∧ Q (.ref x) H3) E) : kMake C sp dvs E Q vs H := fun x dx h1 h2 h3 =>
  h x _ h1 (fun H3 k b o e => k b o (ne_of_none e h1) (by rw [upd_ne (ne_of_none e h1), upd_ne (ne_of_none e h2)]; exact e)) ⟨dx, upd_same⟩
theorem ins_new {D p x : Addr} {fs : List (Str × V)} (h : IsI D H p fs) (n : H x = none) : p ≠ x := by
  obtain ⟨dx, h⟩ := h
  exact ne_of_none h n
theorem i_eqII {K : PySem.W.Frag} {i j : Int} (h : Q (.bl (decide (i = j))) H) : rEqD K (.int i) (.int j) H Q := ⟨_, _, .int i, .int j, rfl, rfl, h⟩
theorem i_eqNN {K : PySem.W.Frag} (h : Q (.bl true) H) : rEqD K .non .non H Q := ⟨_, _, .non, .non, rfl, rfl, h⟩
end
end Z

/-! ### texts that want a token, places of texts, split, lists of bools -/
namespace Z
open PySem PySem.W PySem.Calls PySem.Spec L2
open PyProof.Rows hiding St
/-- an expression where a token is out already -/
def PEt (X : Cx) (e : Expr) (t : TE) : Prop := ∀ (pins : List (Addr × Obj)) (s : Shared) (σ : L2.St) (H : Hp) (Q : VK), Inv X pins σ H s → 1 ≤ s.toks → t σ H Q → wpAny (model X.prog X.w) X.A (eval e X.env) (fun u s' => 1 ≤ s'.toks ∧ EP X pins σ Q u s') X.xe s
def PAt (X : Cx) (es : List Expr) (t : TA) : Prop := ∀ (pos : Pos) (pins : List (Addr × Obj)) (s : Shared) (σ : L2.St) (H : Hp) (Q : List V → Hp → Prop), Inv X pins σ H s → 1 ≤ s.toks → t σ H Q → wpAny (model X.prog X.w) X.A (spliced (backTo pos (starEach es X.env))) (AP X pins σ Q) X.xe s
section
variable {X : Cx} {e o : Expr} {es : List Expr} {te to : TE} {t : TA} {pos apos : Pos}
theorem pet_of (h : PE X e te) : PEt X e te := fun pins s σ H Q I ht q => wpAny_mono (PySem.wpAny_toks_of ht (h.run pins s σ H Q I q)) (fun _ _ z => z) fun _ _ z => z.2
theorem pat_of (h : PA X es t) : PAt X es t := fun pos pins s σ H Q I _ q => h.run pos pins s σ H Q I q
theorem pat_cons (ha : PEt X e te) (hr : PAt X es t) (hs : starEach (e :: es) X.env = (false, eval e X.env) :: starEach es X.env := by rfl) : PAt X (e :: es) (tCons te t) := by
  intro pos pins s σ H Q I ht h
  rw [hs]
  show wpAny _ _ (spliced ((false, eval e X.env) :: backTo pos (starEach es X.env))) _ _ s
  refine Calls.spliced_cons (thn (ha pins s σ H _ I ht h) fun u s1 ⟨k1, x, H1, I1, r1, q1⟩ => ?_)
  exact thn (hr pos pins s1 σ H1 _ I1 k1 q1) fun us s2 ⟨xs, H2, I2, r2, q2⟩ => ⟨x :: xs, H2, I2, .cons r1 r2, q2⟩
theorem pa_cons1 (ha : PE1 X e te) (hr : PAt X es t) (hs : starEach (e :: es) X.env = (false, eval e X.env) :: starEach es X.env := by rfl) : PA X (e :: es) (tCons te t) := by
  refine ⟨fun pos pins s σ H Q I h => ?_⟩
  rw [hs]
  show wpAny _ _ (spliced ((false, eval e X.env) :: backTo pos (starEach es X.env))) _ _ s
  refine Calls.spliced_cons (thn (ha pins s σ H _ I h) fun u s1 ⟨k1, x, H1, I1, r1, q1⟩ => ?_)
  exact thn (hr pos pins s1 σ H1 _ I1 k1 q1) fun us s2 ⟨xs, H2, I2, r2, q2⟩ => ⟨x :: xs, H2, I2, .cons r1 r2, q2⟩
theorem pe1_str {z : Str} {j : Nat} : PE1 X (.Constant (.str z) j pos) (tC (.str z)) := fun pins s σ H Q I h => Calls.Constant_str ⟨by show 1 ≤ s.toks + 1; omega, .str z, H, I.tok _, ⟨_, rfl⟩, h⟩
theorem pet_repl {y z : Str} {j k : Nat} {c0 c1 : Pos} (ho : PE X o to) (hyz : (y == z) = false := by decide)
    (hst : starEach [.Constant (.str y) j c0, .Constant (.str z) k c1] X.env = [(false, eval (.Constant (.str y) j c0) X.env), (false, eval (.Constant (.str z) k c1) X.env)] := by rfl)
    (hbase : attributeBase o "replace" X.env (eval o X.env) = eval o X.env := by rfl) (hline : (apos.endLine == pos.line) = true := by rfl) :
    PEt X (.Call (.Attribute o "replace" apos) [.Constant (.str y) j c0, .Constant (.str z) k c1] [] pos) (tRepl y z to) := by
  intro pins s σ H Q I ht h
  refine wpAny_mono (PySem.wpAny_toks_of ht ?_) (fun _ _ z => z) fun _ _ z => z.2
  refine PySem.Call_method2 hbase hst hline (wpAny_mono (pet_of ho pins s σ H _ I ht h) (fun v s1 ⟨hk, v', H1, I1, r1, x, e1, hb, q⟩ => ?_) fun _ _ z => z)
  subst e1
  obtain ⟨tx, e2⟩ := r1
  subst e2
  refine ⟨"str", _, PySem.F.plainAttrs_str, PySem.F.slot_str_replace, PySem.F.type_str_replace, typeIs_str _ _ _, (fun _ e => nomatch e), Calls.callWith_builtin rfl (Calls.evalArgs_plain (Calls.spliced_cons ?_))⟩
  refine Calls.Constant_str (Calls.spliced_cons (Calls.Constant_str (Calls.spliced_nil ?_)))
  exact PySem.SC.replace (by show s1.toks ≠ 0; omega) (by show s1.toks + 1 ≠ 0; omega) (by show s1.toks ≠ s1.toks + 1; omega) hyz hb fun t' k => ⟨.str (Txt.replace x y z), H1, I1.tok k, ⟨t', rfl⟩, q⟩
theorem pe_upperR (ho : PE X o to) (hbase : attributeBase o "upper" X.env (eval o X.env) = eval o X.env := by rfl) (hline : (apos.endLine == pos.line) = true := by rfl) :
    PE X (.Call (.Attribute o "upper" apos) [] [] pos) (tM0 rUpper to) := pe_upper ho hbase hline
/-- one sign of a text -/
def chT (z : Str) (i : Int) : Str := match atI z.cps.toList i with
  | some c => ⟨#[c]⟩
  | none => ""
theorem i_ixS {z : Str} {i : Int} {H : Hp} {Q : VK} (hl : z.length ≤ 100000) (he : (atI z.cps.toList i).isSome = true) (h : Q (.str (chT z i)) H) : rIxS (.str z) (.int i) H Q := by
  obtain ⟨c, hc⟩ := Option.isSome_iff_exists.mp he
  refine ⟨z, i, c, rfl, rfl, Nat.le_trans hl (by decide), hc, ?_⟩
  unfold chT at h
  rw [hc] at h
  exact h
theorem i_split {a b : Str} {H : Hp} {Q : VK} (hb : (b.length == 0) = false) (hl : a.length ≤ 100000) (h : ∀ p H2, H p = none → Same H H2 → H2 p = some (.lst ((Txt.split a b).map V.str)) → Q (.ref p) H2) : ∃ a' b', V.str a = .str a' ∧ [V.str b] = [.str b'] ∧ (b'.length == 0) = false ∧ a'.length + 2 ≤ sizeLine ∧ rNewStrs (Txt.split a' b') H Q :=
  ⟨a, b, rfl, rfl, hb, Nat.le_trans (Nat.add_le_add_right hl 2) (by decide), fun p hp => h p _ hp (same_new hp) upd_same⟩
theorem dp_bools {K : PySem.W.Frag} {H : Hp} : ∀ bs : List Bool, DpAll K H (bs.map V.bl) (bs.map PyData.bool)
  | [] => .nil
  | b :: bs => .cons (.bl b) (dp_bools bs)
theorem dp_ints {K : PySem.W.Frag} {H : Hp} : ∀ is : List Int, DpAll K H (is.map V.int) (is.map PyData.int)
  | [] => .nil
  | b :: bs => .cons (.int b) (dp_ints bs)
theorem i_eqBs {K : PySem.W.Frag} {H : Hp} {Q : VK} {p q : Addr} {bs cs : List Bool} {r : Bool} (hp : SqL K H p (bs.map V.bl)) (hq : SqL K H q (cs.map V.bl)) (e : PyData.eqv (.list (bs.map PyData.bool)) (.list (cs.map PyData.bool)) = r)
    (s1 : SeqAt.shaped (.list (bs.map PyData.bool)) = true) (s2 : SeqAt.shaped (.list (cs.map PyData.bool)) = true) (h : Q (.bl r) H) : rEqD K (.ref p) (.ref q) H Q :=
  ⟨_, _, .lst hp (dp_bools bs), .lst hq (dp_bools cs), s1, s2, by rw [e]; exact h⟩
theorem i_eqIs {K : PySem.W.Frag} {H : Hp} {Q : VK} {p q : Addr} {bs cs : List Int} {r : Bool} (hp : SqL K H p (bs.map V.int)) (hq : SqL K H q (cs.map V.int)) (e : PyData.eqv (.list (bs.map PyData.int)) (.list (cs.map PyData.int)) = r)
    (s1 : SeqAt.shaped (.list (bs.map PyData.int)) = true) (s2 : SeqAt.shaped (.list (cs.map PyData.int)) = true) (h : Q (.bl r) H) : rEqD K (.ref p) (.ref q) H Q :=
  ⟨_, _, .lst hp (dp_ints bs), .lst hq (dp_ints cs), s1, s2, by rw [e]; exact h⟩
theorem eqv3L (i j k l m n : Int) : PyData.eqv (.list ([i, j, k].map PyData.int)) (.list ([l, m, n].map PyData.int)) = decide (i = l ∧ j = m ∧ k = n) := by
  show (i == l && (j == m && (k == n && true))) = _
  by_cases h1 : i = l <;> by_cases h2 : j = m <;> by_cases h3 : k = n <;> simp [h1, h2, h3]
theorem OkD.coD {f : Addr} {k : Nat} {ps : List Str} {dvs : List V} {sp : Sp} (F : OkD X.prog X.w X.K X.mg X.base k f ps dvs sp) (hr : Room k X.A) : CallOk X f (fun vs H Q E => sp (vs ++ dvs) H Q E) := fun pins σ H s Q us vs I r h => run_ok F hr I r h
theorem ix_strC {X : Cx} : IxR X rIxS := ix_str
theorem op_eqDC {X : Cx} {K : PySem.W.Frag} (hK : X.K = K) (hu : X.A.units + 64 < cLine) : OpR X (compareOp .Eq) (rEqD K) := by subst hK; exact op_eqD hu
end
/-! ### zip of two lists of one length -/
section
variable {X : Cx} {ta : TA} {t : TS} {g : TG} {D : Ends} {σ : L2.St} {H : Hp}
theorem i_zp {K : PySem.W.Frag} {R : It → Hp → Prop} (h : ta σ H fun vs H1 => ∃ a b xs ys, vs = [.ref a, .ref b] ∧ SqL K H1 a xs ∧ SqL K H1 b ys ∧ R (Itz K a b) H1) : iZip K ta σ H R := h
theorem i_zip {K : PySem.W.Frag} {a b : Addr} {xs ys : List V} (Pv : Nat → L2.St → Hp → Prop) (hx : SqL K H a xs) (hy : SqL K H b ys) (hl : xs.length = ys.length) (h0 : Pv 0 σ H) (hq : ∀ i σ H, Pv i σ H → SqL K H a xs ∧ SqL K H b ys)
    (hs : ∀ (i : Nat) (x y : V) (T : Addr) (σ : L2.St) (H : Hp), xs[i]? = some x → ys[i]? = some y → Pv i σ H → ∀ H2, Same H H2 → H2 T = some (.tup [x, y]) → g (.ref T) σ H2 fun σ2 H2 => t { D with nx := Pv (i + 1), ct := Pv (i + 1), bk := D.nx } σ2 H2) (hd : ∀ σ H, Pv xs.length σ H → D.nx σ H) :
    ∃ a' b' xs' ys', [V.ref a, V.ref b] = [.ref a', .ref b'] ∧ SqL K H a' xs' ∧ SqL K H b' ys' ∧ ∃ W : Nat → Nat → L2.St → Hp → Prop, (∃ m, W 0 m σ H) ∧ ∀ i m σ H, W i m σ H →
      ((Itz K a' b').stop i H ∧ D.nx σ H) ∨ ((Itz K a' b').go i H ∧ ∃ N : L2.St → Hp → Prop, (∀ σ' H', N σ' H' → ∃ m', m' < m ∧ W (i + 1) m' σ' H') ∧ ∀ x H', (Itz K a' b').yld i H x H' → g x σ H' fun σ2 H2 => t { D with nx := N, ct := N, bk := D.nx } σ2 H2) :=
  ⟨a, b, xs, ys, rfl, hx, hy, RZ.for_zipL hl Pv h0 hq (fun i x y T σ H h1 h2 h3 h4 => hs i x y T σ H h1 h2 h3 _ (same_new h4) upd_same) hd⟩
theorem at_ix {α : Type} {f : α → V} {l : List α} {i : Nat} {y : V} (h : (l.map f)[i]? = some y) : ∃ m, l[i]? = some m ∧ y = f m := by
  rw [List.getElem?_map] at h
  cases e : l[i]? with
  | none => rw [e] at h; cases h
  | some m => rw [e] at h; exact ⟨m, rfl, (Option.some.inj h).symm⟩
end
end Z

/-! ### defs that take the caught exception: the promise for one given pin (under way) -/
namespace Z
open PySem PySem.W PySem.Calls PySem.Spec L2
open PyProof.Rows hiding St
structure FnX (P : Program) (w : World) (K : PySem.W.Frag) (mg : Str → Option Value) (base : Heap) (CX : CXT) (k : Nat) (f : Addr) (fd : FuncData) (ps : List Str) (p : Addr × Obj) (sp : Sp) : Prop where
  len : ∀ vs H Q E, sp vs H Q E → vs.length = ps.length
  run : ∀ (A : Around) (outer : List Env) (s : Shared) (H : Hp) (args : Args) (us : List Value) (vs : List V) (Q : VK) (E : XK), L2H.RoomH k A → L2H.Hot1 A p → L2H.PinOk outer H s p → Env0 P w K mg base A outer s H → BindsTo s fd args (ps.zip us) → Vals vs us → sp vs H Q E →
    codeAny (model P w) A (.call (.ref f) args) (CR CX outer P w H s Q E) s
theorem unitsH {k : Nat} {A : Around} (r : L2H.RoomH k A) : A.units + 64 < cLine := by have := r.un; omega
theorem FnX.mono {P : Program} {w : World} {K : PySem.W.Frag} {mg : Str → Option Value} {base : Heap} {CX : CXT} {j k : Nat} {f : Addr} {fd : FuncData} {ps : List Str} {p : Addr × Obj} {sp : Sp} (F : FnX P w K mg base CX j f fd ps p sp) (h : j ≤ k) : FnX P w K mg base CX k f fd ps p sp :=
  ⟨F.len, fun A outer s H args us vs Q E hr => F.run A outer s H args us vs Q E (hr.mono h)⟩
theorem FunD.okX {CX : CXT} {P : Program} {w : World} {K : PySem.W.Frag} {mg : Str → Option Value} {base : Heap} {x qual : Str} {params : Arguments} {body : List Stmt} {scope : Scope} {dvs : List V} {kws : List (Str × V)} {f : Addr} {fd : FuncData} {N ps : List Str} {k : Nat} {p : Addr × Obj} {sp : Sp}
    (F : FunD K x qual params body scope dvs kws f fd) (S : FnScope N ps scope) (len : ∀ vs H Q E, sp vs H Q E → vs.length = ps.length)
    (hbody : ∀ (cdv : Value) (A : Around) (outer : List Env) (s : Shared) (H : Hp) (vs : List V) (Q : VK) (E : XK), L2H.Hot1 A p → L2H.RoomH k (A.deeper (envOfC qual scope s.heap.objs.size f cdv)) → sp vs H Q E →
      ∃ t, PSs (L2H.cxH CX P w K mg base N qual scope f cdv A outer s H E p) body t ∧ t { nx := fun _ H' => Q .non H', rt := Q } (start N vs) H) : FnX P w K mg base CX (k + 1) f fd ps p sp := by
  obtain ⟨oc, od, dV, kV, doc, pm, an, cdv, ct, osl, rfl, lk, hcd, _, _⟩ := F.ex
  refine ⟨len, fun A outer s H args us vs Q E hr hot hpin e0 hb r hsp => ?_⟩
  have hl := len _ _ _ _ hsp
  have KX : K.In s.heap := e0.mod.kin.keeps fun b o e => (e0.bs b o e).1
  have hkind : ∀ y ∈ ps.zip us, scope.names.lookup y.1 = some .local ∨ (scope.names.lookup y.1 = some .cell ∧ ((cellsFrom (s.heap.objs.size + 1) scope.names []).lookup y.1).isSome = true) := fun ⟨n, v⟩ hy => by
    rcases S.par n (List.of_mem_zip hy).1 with q | q
    · exact .inl q
    · exact .inr ⟨q, PySem.W.cellsFrom_some _ _ _ (.inl q)⟩
  refine codeAny_call_function hr.depth (KX _ _ lk) rfl S.co S.gen rfl (PySem.W.codeRec_of KX hcd) (hb _ _ _ _ ?_)
  refine wpAny_newFunctionEnv_cells S.kind hkind fun env he s1 z => ?_
  subst he
  refine ⟨(e0.mod.nolimit.keeps fun b o e => (e0.bs b o e).1).keeps z.toInCall.keep, codeAny_func ?_⟩
  obtain ⟨t, ht, hq⟩ := hbody cdv A outer s H vs Q E hot (hr.deeper _) hsp
  refine wpAny_mono (ht.run [] s1 (L2.start N vs) H _ (L2H.inv_startH S hpin e0 hl r z) hq) (fun fl s' hs => ?_) fun e s' hs => hs
  cases fl with
  | ret u =>
    obtain ⟨v, σ', H', J, rv, q⟩ := hs
    exact ⟨v, H', J.os, J.bare, J.base, J.hok, rv, q⟩
  | next =>
    obtain ⟨σ', H', J, q⟩ := hs
    exact ⟨V.non, H', J.os, J.bare, J.base, J.hok, rfl, q⟩
  | brk =>
    obtain ⟨_, _, _, q⟩ := hs
    exact False.elim q
  | cont =>
    obtain ⟨_, _, _, q⟩ := hs
    exact False.elim q
/-- the promise by the exception's address, class and dict -/
def OkX (P : Program) (w : World) (K : PySem.W.Frag) (mg : Str → Option Value) (base : Heap) (k : Nat) (f : Addr) (ps : List Str) (sp : Addr → Value → Option Addr → Sp) : Prop :=
  ∃ fd : FuncData, PySem.W.keepIn K (.ref f) = true ∧ Binds K fd ps [] ∧ ∀ (a : Addr) (oe : Obj) (cls : Value) (d : Option Addr), L2N.Zn cls d oe → (∃ vs, oe.data = .fields vs) → FnX P w K mg base (L2N.CX P w) k f fd ps (a, oe) (sp a cls d)
section
variable {X : Cx} {k : Nat} {f : Addr} {ps : List Str} {sp : Addr → Value → Option Addr → Sp} {x : Str} {p pos : Pos} {e : Expr} {es : List Expr} {t : TA} {G : List Str} {a : Addr} {oe : Obj} {cls : Value} {d : Option Addr} {pn : List (Addr × Obj)}
theorem pcX (F : OkX X.prog X.w X.K X.mg X.base k f ps sp) (hr : L2H.RoomH k (X.suite a ((a, oe) :: pn)).A) (hz : L2N.Zn cls d oe) (hf : ∃ vs, oe.data = .fields vs) (hg : glB G X.env.scope = true) (n : Nat) (hm : X.mg x = some (.ref f)) (ha : PA (X.suite a ((a, oe) :: pn)) (e :: es) t) (hx : G[n]? = some x := by rfl)
    (he : starEach (e :: es) X.env = (false, eval e X.env) :: starEach es X.env := by rfl) (hpl : (backTo pos (starEach es X.env)).any (·.1) = false := by rfl) : PE (X.suite a ((a, oe) :: pn)) (.Call (.Name x p) (e :: es) [] pos) (tCall (sp a cls d) [] EF t) := by
  obtain ⟨fd, kp, b, F⟩ := F
  have F := F a oe cls d hz hf
  refine ⟨fun pins s σ H Q I h => ?_⟩
  refine wpAny_Call_Name_kw (ld_glob I (gl_of hg hx).1 hm ?_ (gl_of hg hx).2.1)
  refine PySem.W.callWith_K (h₀ := X.base) I.ok.mod.kin kp (thn (ha.run pos pins s σ H _ I h) fun us s1 ⟨vs, H1, I1, r, q⟩ => ⟨I1.kIn, ?_⟩) he hpl
  have q : sp a cls d (vs ++ []) H1 Q EF := q
  rw [List.append_nil] at q
  have hl : us.length = ps.length := by rw [← r.length]; exact F.len _ _ _ _ q
  have b := b s1 us I1.kIn (by rw [List.append_nil]; exact hl)
  rw [List.append_nil] at b
  obtain ⟨vsx, hv⟩ := hf
  have P1 := I1.pin (a, oe) (List.mem_append_left _ List.mem_cons_self)
  have hpin : L2H.PinOk X.stack H1 s1 (a, oe) := ⟨P1.1, P1.2.1, fun hm => (List.mem_cons.mp (I1.stkSub a hm)).elim P1.2.2.1 P1.2.2.2.1, P1.2.2.2.2⟩
  refine wpAny_call (codeAny_mono (F.run (X.suite a ((a, oe) :: pn)).A X.stack s1 H1 ⟨us, []⟩ us vs Q EF hr ⟨rfl, vsx, hv, hz.2.2 vsx hv⟩ hpin I1.env0 b r q) fun r s' hq => ?_)
  cases r with
  | error e => exact (cxF hq).elim
  | ok fl =>
    cases fl with
    | ret u => exact I1.after hq
    | next => exact False.elim hq
    | brk => exact False.elim hq
    | cont => exact False.elim hq
end
end Z

/-! ### the head: the written part by a walk over what the module's names reach, laid out once -/
namespace Z
open PySem PySem.W PySem.Spec L2
open PyProof.Rows hiding St
/-- what is followed -/
def nextO (o : Obj) : List Addr := match o.data with
  | .func fd => He.refV fd.code ++ (He.refV fd.defaults ++ (He.refV fd.kwdefaults ++ fd.closure.map (·.2)))
  | .cls cd => [cd.ns]
  | .dict es _ => es.toList.flatMap fun e => He.refV e.val
  | .seq its _ => its.toList.flatMap He.refV
  | .fields vs => (match o.cls with
    | .type c => if c = "code" then [] else vs.toList.flatMap He.refV
    | _ => [])
  | _ => []
def growW (g : Addr → Option Obj) : Nat → List Addr → List Addr
  | 0, as => as
  | n + 1, as => as ++ growW g n (as.flatMap fun a => match g a with
    | some o => nextO o
    | none => [])
def asW (g : Addr → Option Obj) (n : Nat) : List Addr := cStatics :: growW g n [mainGlobals]
/-- the part, laid out -/
def layW {α : Type} (g : Addr → Option Obj) : List Addr → (PySem.W.Frag → α) → α
  | [], k => k []
  | a :: r, k => HandSHeadRun.frNat a fun a => match g a with
    | some o => layW g r fun K => k ((a, o) :: K)
    | none => layW g r k
theorem layW_eq {α : Type} {g : Addr → Option Obj} : ∀ (as : List Addr) (k : PySem.W.Frag → α), layW g as k = k (He.frG g as)
  | [], k => rfl
  | a :: r, k => by
    unfold layW
    rw [HandSHeadRun.frNat_eq]
    cases e : g a with
    | none =>
      show layW g r k = _
      rw [layW_eq r]
      unfold He.frG
      rw [List.filterMap_cons, e]
      rfl
    | some o =>
      show layW g r (fun K => k ((a, o) :: K)) = _
      rw [layW_eq r]
      unfold He.frG
      rw [List.filterMap_cons, e]
      rfl
/-- own exceptions' __init__, with its cell -/
def fnE (K : PySem.W.Frag) (a : Addr) : Option (Str × Str × Arguments × FuncBody × Scope × Addr × Addr) := match K.lookup a with
  | some ⟨_, _, .func fd, _⟩ => some (fd.name, fd.qualname, fd.params, fd.body, fd.scope, fd.globals, fd.builtins)
  | _ => none
structure DefE where
  C : Str
  qual : Str
  params : Arguments
  body : List Stmt
  scope : Scope
  slf : Str
  fs : List (Str × Str)
def DefE.ad (K : PySem.W.Frag) (d : DefE) : Addr := He.fAd K (d.C, some "__init__")
def DefE.val (d : DefE) : Option (Str × Str × Arguments × FuncBody × Scope × Addr × Addr) := some ("__init__", d.qual, d.params, .stmts d.body, d.scope, mainGlobals, builtinsNs)
def oexB (K : PySem.W.Frag) (C : Addr) : Bool := (match K.lookup C with
  | some ⟨.type "type", _, .cls cd, sl⟩ => (match cd.mro, sl.toList with
    | .ref C' :: bm, [_, _, _, _, some (.builtin n), _] => decide (C' = C) && (decide (n = "ValueError.__new__") && (cd.hasDict && (!cd.hasDel && PySem.HandSPX.refsVE bm)))
    | _, _ => false)
  | _ => false) && (He.eqO (PySem.W.findIn K (.ref C) "__setattr__") (some (some (.builtin "object.__setattr__"))) && (decide (PySem.W.subIn K (.ref C) (.type "BaseException") = some true) && (decide (PySem.W.typeIn K (.ref C) = some (.type "type")) && PySem.W.keepIn K (.ref C))))
theorem oexB_ok {K : PySem.W.Frag} {C : Addr} (h : oexB K C = true) : OexC K C := by
  obtain ⟨h1, h⟩ := He.ba h
  obtain ⟨h2, h⟩ := He.ba h
  obtain ⟨h3, h⟩ := He.ba h
  obtain ⟨h4, h5⟩ := He.ba h
  refine ⟨?_, He.eqO_ok h2, of_decide_eq_true h3, of_decide_eq_true h4, h5⟩
  split at h1
  · rename_i dd cd sl e
    split at h1
    · rename_i C' bm a0 a1 a2 a3 n a5 e1 e2
      obtain ⟨g1, h1⟩ := He.ba h1
      obtain ⟨g2, h1⟩ := He.ba h1
      obtain ⟨g3, h1⟩ := He.ba h1
      obtain ⟨g4, g5⟩ := He.ba h1
      obtain rfl := of_decide_eq_true g1
      obtain rfl := of_decide_eq_true g2
      obtain ⟨nm, bs, mro, ns, qn, hd, sn, sb, ab, col, del⟩ := cd
      dsimp only at g3 g4 e1
      subst g3
      subst e1
      have gd : del = false := by simpa using g4
      subst gd
      have es : sl = #[a0, a1, a2, a3, some (.builtin "ValueError.__new__"), a5] := by
        rw [← Array.toArray_toList (xs := sl), e2]
      subst es
      exact ⟨nm, qn, ns, bs, bm, sn, sb, ab, col, dd, a0, a1, a2, a3, a5, e, g5⟩
    · cases h1
  · cases h1
def fnxB (K : PySem.W.Frag) (file : Str) (C fI : Addr) (qual : Str) : Bool := match K.lookup fI with
  | some ⟨_, _, .func fd, _⟩ => (match fd.closure, fd.code with
    | [(n, cc)], .ref cda => decide (n = "__class__") && (decide (fd.defaults = .none) && (PySem.W.codeIn K (.ref cda) qual && ((match K.lookup cda with
      | some ⟨_, _, .fields vs, _⟩ => (match (vs : Array Value)[2]? with
        | some (Value.str f _) => (file == f)
        | _ => false)
      | _ => false) && (match K.lookup cc with
      | some ⟨_, _, .cell (some (.ref D)), _⟩ => decide (D = C)
      | _ => false))))
    | _, _ => false)
  | _ => false
def supB (K : PySem.W.Frag) (file : Str) (d : DefE) : Bool := oexB K (He.ga K d.C) && (He.eqO (PySem.W.findIn K (.ref (He.ga K d.C)) "__init__") (some (some (.ref (d.ad K)))) && (decide (PySem.W.typeIn K (.ref (d.ad K)) = some (.type "function")) && (fnxB K file (He.ga K d.C) (d.ad K) d.qual &&
  (decide (PySem.W.mroIn K (He.ga K d.C) (.ref (He.ga K d.C)) = some true) && (He.eqO (PySem.W.ks_superIn K (He.ga K d.C) (He.ga K d.C) "__init__") (some (some (.builtin "ValueError.__init__"))) && (decide (PySem.W.subIn K (.ref (He.ga K d.C)) (.type "ValueError") = some true) &&
  (He.eqO (PySem.W.nsIn K mainGlobals "super") (some none) && (He.eqO (PySem.W.nsIn K cStatics "thirdparty.any") (some none) && d.fs.all fun q => He.eqO (PySem.W.findIn K (.ref (He.ga K d.C)) q.1) (some none)))))))))
theorem supT_of {P : Program} {K : PySem.W.Frag} {d : DefE} (e : fnE K (d.ad K) = d.val) (h : supB K P.main.file d = true) (ht : (P.main.scope.names.lookup ("super" : Str)).isSome = false) : SupT P K (He.ga K d.C) (d.ad K) d.qual d.params d.body d.scope d.slf d.fs := by
  obtain ⟨h1, h⟩ := He.ba h
  obtain ⟨h2, h⟩ := He.ba h
  obtain ⟨h3, h⟩ := He.ba h
  obtain ⟨h4, h⟩ := He.ba h
  obtain ⟨h5, h⟩ := He.ba h
  obtain ⟨h6, h⟩ := He.ba h
  obtain ⟨h7, h⟩ := He.ba h
  obtain ⟨h8, h⟩ := He.ba h
  obtain ⟨h9, h10⟩ := He.ba h
  refine ⟨oexB_ok h1, He.eqO_ok h2, of_decide_eq_true h3, ?_, of_decide_eq_true h5, He.eqO_ok h6, of_decide_eq_true h7, He.eqO_ok h8, He.eqO_ok h9, ht, fun q hq => He.eqO_ok (List.all_eq_true.mp h10 q hq)⟩
  unfold fnE at e
  unfold fnxB at h4
  split at h4
  · rename_i oc od fd osl q
    rw [q] at e
    split at h4
    · rename_i n cc cda e1 e2
      obtain ⟨g1, h4⟩ := He.ba h4
      obtain ⟨g0, h4⟩ := He.ba h4
      obtain ⟨g2, h4⟩ := He.ba h4
      obtain ⟨g3, g4⟩ := He.ba h4
      obtain rfl := of_decide_eq_true g1
      obtain ⟨n1, n2, n3, n4, n5, n6, n7, n8, n9, n10, n11, n12, n13, n14, n15⟩ := fd
      have e3 := e
      unfold DefE.val at e3
      simp only [Option.some.injEq, Prod.mk.injEq] at e3
      obtain ⟨k1, k2, k3, k4, k5, k6, k7⟩ := e3
      dsimp only at e1 e2 g0
      obtain rfl := of_decide_eq_true g0
      subst k1 k2 k3 k4 k5 k6 k7 e1 e2
      split at g3
      · rename_i ccl cdd vs ccs q2
        split at g3
        · rename_i f tf q3
          split at g4
          · rename_i cl cld D csl q4
            obtain rfl := of_decide_eq_true g4
            exact ⟨oc, od, osl, n9, n10, n11, n12, cda, n14, cc, ccl, cdd, ccs, vs, f, tf, cl, cld, csl, q, g2, q2, q3, g3, q4⟩
          · cases g4
        · cases g3
      · cases g3
    · cases h4
  · cases h4
/-- isinstance and fields of a caught exception; what a clause says -/
def excB (K : PySem.W.Frag) (D : Addr) : Bool := He.eqO (PySem.W.findIn K (.ref D) "__getattribute__") (some (some (.builtin "BaseException.__getattribute__"))) && (He.eqO (PySem.W.findIn K (.ref D) "__getattr__") (some none) && (decide (PySem.W.subIn K (.ref D) (.type "BaseException") = some true) && (PySem.W.hasDictIn K D &&
  (He.eqO (PySem.W.findIn K (.ref D) "__class__") (some (some (.builtin "object.__class__"))) && (He.eqO (PySem.W.specialIn K (.builtin "object.__class__") "__get__") (some (some (.builtin "getset_descriptor.__get__"))) && (decide (PySem.W.takesIn K (.builtin "object.__class__") = some true) && decide (PySem.W.mroIn K D (.type "object") = some true)))))))
theorem excB_ok {K : PySem.W.Frag} {D : Addr} (h : excB K D = true) : ExcC K D := by
  obtain ⟨h1, h⟩ := He.ba h
  obtain ⟨h2, h⟩ := He.ba h
  obtain ⟨h3, h⟩ := He.ba h
  obtain ⟨h4, h⟩ := He.ba h
  obtain ⟨h5, h⟩ := He.ba h
  obtain ⟨h6, h⟩ := He.ba h
  obtain ⟨h7, h8⟩ := He.ba h
  exact ⟨He.eqO_ok h1, He.eqO_ok h2, of_decide_eq_true h3, h4, He.eqO_ok h5, He.eqO_ok h6, of_decide_eq_true h7, of_decide_eq_true h8⟩
theorem excX {K : PySem.W.Frag} {D : Addr} (h : ExcC K D) : XfC K D := ⟨h.hg, h.hk, h.hs, h.hd⟩
abbrev AlW : Type := (He.AlT × (Bool × (Bool × List He.FnW))) × (Bool × List (Option (Str × Str × Arguments × FuncBody × Scope × Addr × Addr)))
section
variable (file : Str) (fa : List He.Fa) (fn : List He.DefD) (ts : List He.Tab) (ex : PySem.W.Frag → Bool) (gs : List DefG) (es : List DefE)
def obsK (K : PySem.W.Frag) : AlW := ((He.obsT fa fn ts K, ex K, gs.all fun d => d.ok K, gs.map fun d => fnA K (d.ad K)), es.all fun d => supB K file d, es.map fun d => fnE K (d.ad K))
def obsW (n : Nat) (g : Addr → Option Obj) : AlW := layW g (asW g n) fun K => obsK file fa fn ts ex gs es K
def valW (w : World) : AlW := ((He.valT fn ts w, true, true, gs.map DefG.val), true, es.map DefE.val)
structure SaysW (w : World) (K : PySem.W.Frag) : Prop where
  t : He.SaysT fa fn ts w K
  more : ex K = true
  dg : SaysG gs K
  de : ∀ (i : Nat) (d : DefE), es[i]? = some d → fnE K (d.ad K) = d.val ∧ supB K file d = true
end
section
variable {file : Str} {fa : List He.Fa} {fn : List He.DefD} {ts : List He.Tab} {ex : PySem.W.Frag → Bool} {gs : List DefG} {es : List DefE}
theorem saysW_of {w : World} {K : PySem.W.Frag} (e : obsK file fa fn ts ex gs es K = valW fn ts gs es w) : SaysW file fa fn ts ex gs es w K :=
  ⟨congrArg (fun z : AlW => z.1.1) e, congrArg (fun z : AlW => z.1.2.1) e, saysG_of (congrArg (fun z : AlW => z.1.2.2.1) e) (congrArg (fun z : AlW => z.1.2.2.2) e), fun i d h => by
    have h1 : (es.all fun d => supB K file d) = true := congrArg (fun z : AlW => z.2.1) e
    have h2 : (es.map fun d => fnE K (d.ad K)) = es.map DefE.val := congrArg (fun z : AlW => z.2.2) e
    have e2 : (es.map fun d => fnE K (d.ad K))[i]? = (es.map DefE.val)[i]? := by rw [h2]
    rw [List.getElem?_map, List.getElem?_map, h] at e2
    exact ⟨Option.some.inj e2, List.all_eq_true.mp h1 d (List.mem_of_getElem? h)⟩⟩
end
section
variable (n : Nat) (file : Str) (fa : List He.Fa) (fn : List He.DefD) (ts : List He.Tab) (ex : PySem.W.Frag → Bool) (gs : List DefG) (es : List DefE)
def hookW : PySem.W.Hook where
  α := AlW
  obs := fun s => obsW file fa fn ts ex gs es n s.heap.get?
  val := fun w => valW fn ts gs es w
  says := fun w h => ∃ K : PySem.W.Frag, K.In h ∧ SaysW file fa fn ts ex gs es w K
  of := fun _ s e => ⟨He.frG s.heap.get? (asW s.heap.get? n), He.frG_in, saysW_of (by
    have e2 : obsW file fa fn ts ex gs es n s.heap.get? = _ := e
    unfold obsW at e2
    rw [layW_eq] at e2
    exact e2)⟩
  keeps := fun _ _ _ ⟨K, hK, c⟩ k => ⟨K, PySem.W.Frag.In.keeps hK k, c⟩
end
theorem obsW_eq {n : Nat} {file : Str} {fa : List He.Fa} {fn : List He.DefD} {ts : List He.Tab} {ex : PySem.W.Frag → Bool} {gs : List DefG} {es : List DefE} {g : Addr → Option Obj} {s : Shared} (h : ∀ a, g a = s.heap.get? a) : obsW file fa fn ts ex gs es n g = (hookW n file fa fn ts ex gs es).obs s := by
  have e : g = s.heap.get? := funext h
  rw [e] <;> rfl
end Z

open PySem PySem.Spec L2
open PyProof.Rows hiding St
namespace My
open Z
def top (i : Nat) : Stmt := PySem.Challenge.pw_lostinrows_k47_whole_there_and_back.main.body.getD i (.Pass ⟨0, 0, 0, 0⟩)

def modes9 : List Str := ["nearest-even", "nearest-out", "nearest-in", "nearest-up", "nearest-down", "inward", "outward", "upward", "downward"]
def near5 : List Str := ["nearest-even", "nearest-out", "nearest-in", "nearest-up", "nearest-down"]
def mir9 (m : Str) : Str := if m = "nearest-up" then "nearest-down" else if m = "nearest-down" then "nearest-up" else if m = "upward" then "downward" else if m = "downward" then "upward" else m
def idx9 (m : Str) : Nat := modes9.idxOf m
def goesUp (m : Str) (p : Bool) : Bool := if m = "inward" then !p else if m = "outward" then p else decide (m = "upward")
def tieUp (m : Str) (low : Int) (p : Bool) : Bool := if m = "nearest-even" then decide (low % 2 = 1) else if m = "nearest-out" then p else if m = "nearest-in" then !p else decide (m = "nearest-up")
def rqUp (n d : Int) (m : Str) : Bool := if m ∉ near5 then goesUp m (decide (0 < n)) else if 2 * (n % d) = d then tieUp m (n / d) (decide (0 < n)) else decide (d < 2 * (n % d))
def rq (n d : Int) (m : Str) : Int := if n % d = 0 then n / d else if rqUp n d m = true then n / d + 1 else n / d
def steady5 : List Str := ["nearest-even", "nearest-up", "nearest-down", "upward", "downward"]
theorem mem9 {m : Str} (h : m ∈ modes9) : m = "nearest-even" ∨ m = "nearest-out" ∨ m = "nearest-in" ∨ m = "nearest-up" ∨ m = "nearest-down" ∨ m = "inward" ∨ m = "outward" ∨ m = "upward" ∨ m = "downward" := by
  simpa [modes9] using h
theorem in9 {m : Str} (h : m ∈ modes9) : inV (.str m) (modes9.map V.str) = true := by rw [inV_str]; exact List.contains_iff_mem.mpr h
theorem in_str (m : Str) (l : List Str) : inV (.str m) (l.map V.str) = decide (m ∈ l) := by
  rw [inV_str]
  by_cases h : m ∈ l
  · rw [decide_eq_true h]; exact List.contains_iff_mem.mpr h
  · rw [decide_eq_false h]
    cases e : l.contains m with
    | false => rfl
    | true => exact absurd (List.contains_iff_mem.mp e) h
theorem big_step {i : Nat} {x d : Int} (h0 : 0 ≤ x) (h : Sz (4 * i) x) (d0 : 0 ≤ d) (d1 : d < 10) : Sz (4 * (i + 1)) (x * 10 + d) := by
  unfold Sz at *
  rw [Nat.mul_add, Nat.pow_add]
  omega
theorem pow_pos1 {b : Int} (h : 0 < b) (n : Nat) : 1 ≤ b ^ n := by
  have := Int.pow_pos (n := b) (m := n) h
  omega
theorem Sz.btw {n : Nat} {p d : Int} (h : Sz n d) (h0 : -1 ≤ p) (h1 : p ≤ d + 1) : Sz (n + 2) p := by
  unfold Sz at *
  rw [Nat.pow_add]
  have := Nat.one_le_two_pow (n := n)
  omega
theorem in5 (m : Str) : inV (.str m) (near5.map V.str) = decide (m ∈ near5) := by
  rw [inV_str]
  by_cases h : m ∈ near5
  · rw [decide_eq_true h]; exact List.contains_iff_mem.mpr h
  · rw [decide_eq_false h]
    cases e : near5.contains m with
    | false => rfl
    | true => exact absurd (List.contains_iff_mem.mp e) h
theorem idx9_at {m : Str} (h : m ∈ modes9) : (modes9.map V.str)[idx9 m]? = some (V.str m) := by
  rw [List.getElem?_map]
  have : idx9 m < modes9.length := List.idxOf_lt_length_iff.mpr h
  rw [List.getElem?_eq_getElem this]
  show some (V.str modes9[modes9.idxOf m]) = _
  rw [List.getElem_idxOf this]
theorem idx9_b : ∀ m ∈ modes9, ∀ k < idx9 m, modes9.getD k "" ≠ m := by decide +kernel
theorem idx9_no {m : Str} (h : m ∈ modes9) (k : Nat) (z : V) (hk : k < idx9 m) (e : (modes9.map V.str)[k]? = some z) : eqV z (.str m) = false := by
  rw [List.getElem?_map] at e
  have lt : idx9 m < modes9.length := List.idxOf_lt_length_iff.mpr h
  rw [List.getElem?_eq_getElem (by omega : k < modes9.length)] at e
  have e2 : V.str modes9[k] = z := Option.some.inj e
  subst e2
  show (modes9[k] == m) = false
  have q := idx9_b m h k hk
  rw [List.getD_eq_getElem?_getD, List.getElem?_eq_getElem (by omega : k < modes9.length)] at q
  exact beq_eq_false_iff_ne.mpr q
theorem idx9_lt {m : Str} (h : m ∈ modes9) : idx9 m < 9 := List.idxOf_lt_length_iff.mpr h
def mirIx : List Int := [0, 1, 2, 4, 3, 5, 6, 8, 7]
theorem mir_at {m : Str} (h : m ∈ modes9) : ∃ j : Int, atI (mirIx.map V.int) ((idx9 m : Nat) : Int) = some (V.int j) ∧ atI (modes9.map V.str) j = some (V.str (mir9 m)) := by
  rcases mem9 h with rfl | rfl | rfl | rfl | rfl | rfl | rfl | rfl | rfl <;> exact ⟨_, by rfl, by decide +kernel⟩

theorem pos_q {n d : Int} (hd : 0 < d) (hr : n % d ≠ 0) : 0 < n ↔ 0 ≤ n / d := by
  have h1 := Int.emod_nonneg n (by omega : d ≠ 0)
  have h2 := Int.emod_lt_of_pos n hd
  have h3 := Int.mul_ediv_add_emod n d
  constructor
  · intro h; exact Int.ediv_nonneg (by omega) (by omega)
  · intro h
    have : 0 ≤ d * (n / d) := Int.mul_nonneg (by omega) h
    omega
/-- whether the greater neighbour is taken, by the floor q, what is left r, the divisor d -/
def UU (q r d : Int) (m : Str) : Bool := if m ∉ near5 then goesUp m (decide (0 ≤ q)) else if 2 * r = d then tieUp m q (decide (0 ≤ q)) else decide (d < 2 * r)
theorem up_uu {n d : Int} (m : Str) (hd : 0 < d) (hr : n % d ≠ 0) : rqUp n d m = UU (n / d) (n % d) d m := by
  unfold rqUp UU
  rw [decide_eq_decide.mpr (pos_q hd hr)]
theorem rq_eq {n d : Int} (m : Str) (hd : 0 < d) : rq n d m = if n % d = 0 then n / d else if UU (n / d) (n % d) d m = true then n / d + 1 else n / d := by
  unfold rq
  split
  · rfl
  · rename_i h
    rw [up_uu m hd h]
theorem neg_dm {n d : Int} (hd : 0 < d) : (n % d = 0 → (-n) % d = 0 ∧ (-n) / d = -(n / d)) ∧ (n % d ≠ 0 → (-n) % d = d - n % d ∧ (-n) / d = -(n / d) - 1) := by
  have h1 := Int.emod_nonneg n (by omega : d ≠ 0)
  have h2 := Int.emod_lt_of_pos n hd
  have h3 := Int.mul_ediv_add_emod n d
  constructor
  · intro h
    have e : -n = d * (-(n / d)) := by rw [Int.mul_neg]; omega
    exact ⟨by rw [e]; exact Int.mul_emod_right _ _, by rw [e, Int.mul_ediv_cancel_left _ (by omega)]⟩
  · intro h
    have e : -n = (d - n % d) + d * (-(n / d) - 1) := by rw [Int.mul_sub, Int.mul_neg]; omega
    refine ⟨?_, ?_⟩
    · rw [e, Int.add_mul_emod_self_left, Int.emod_eq_of_lt (by omega) (by omega)]
    · rw [e, Int.add_mul_ediv_left _ _ (by omega), Int.ediv_eq_zero_of_lt (by omega) (by omega)]
      omega
theorem uu_neg {q r d : Int} {m : Str} (hm : m ∈ modes9) (h0 : 0 < r) (h1 : r < d) : UU (-q - 1) (d - r) d (mir9 m) = !UU q r d m := by
  rcases mem9 hm with rfl | rfl | rfl | rfl | rfl | rfl | rfl | rfl | rfl <;> simp [UU, mir9, goesUp, tieUp, near5]
  all_goals first
    | (split <;> split <;> first | omega | (simp; omega) | (rw [Bool.eq_iff_iff]; simp; omega))
    | (rw [Bool.eq_iff_iff]; simp; omega)
theorem rq_neg {n d : Int} {m : Str} (hd : 0 < d) (hm : m ∈ modes9) : rq (0 - n) d (mir9 m) = 0 - rq n d m := by
  have h1 := Int.emod_nonneg n (by omega : d ≠ 0)
  have h2 := Int.emod_lt_of_pos n hd
  rw [Int.zero_sub, Int.zero_sub, rq_eq _ hd, rq_eq _ hd]
  by_cases h : n % d = 0
  · obtain ⟨e1, e2⟩ := (neg_dm (n := n) hd).1 h
    rw [if_pos e1, if_pos h, e2]
  · obtain ⟨e1, e2⟩ := (neg_dm (n := n) hd).2 h
    rw [if_neg (by omega), if_neg h, e1, e2, uu_neg hm (by omega) h2]
    cases UU (n / d) (n % d) d m <;> simp <;> omega
theorem rq_low {n d : Int} {m : Str} (hd : 0 < d) : n / d ≤ rq n d m ∧ rq n d m ≤ n / d + (if n % d = 0 then 0 else 1) := by
  rw [rq_eq _ hd]
  split
  · omega
  · split <;> omega
theorem rq_low2 {n d : Int} {m : Str} (hd : 0 < d) : n / d ≤ rq n d m ∧ rq n d m ≤ n / d + (if decide (0 < n % d) = true then 1 else 0) := by
  have h := rq_low (n := n) (m := m) hd
  have h1 := Int.emod_nonneg n (by omega : d ≠ 0)
  refine ⟨h.1, Int.le_trans h.2 ?_⟩
  by_cases z : n % d = 0
  · rw [if_pos z, if_neg (by simp; omega)]; omega
  · rw [if_neg z, if_pos (by simp; omega)]; omega
theorem mir9_in : ∀ {m : Str}, m ∈ modes9 → mir9 m ∈ modes9 := by
  intro m h
  rcases mem9 h with rfl | rfl | rfl | rfl | rfl | rfl | rfl | rfl | rfl <;> decide +kernel
theorem uu_mono {q r s d : Int} {m : Str} (hm : m ∈ modes9) (h : r ≤ s) (u : UU q r d m = true) : UU q s d m = true := by
  revert u
  rcases mem9 hm with rfl | rfl | rfl | rfl | rfl | rfl | rfl | rfl | rfl <;> simp [UU, goesUp, tieUp, near5]
  all_goals first
    | done
    | (intros; omega)
    | (split <;> split <;> first | omega | (simp; try omega) | (intros; omega))
theorem rq_mono {n s d : Int} {m : Str} (hd : 0 < d) (hm : m ∈ modes9) (hs : 0 ≤ s) : rq n d m ≤ rq (n + s) d m := by
  have h1 := Int.emod_nonneg n (by omega : d ≠ 0)
  have h2 := Int.emod_lt_of_pos n hd
  have h3 := Int.mul_ediv_add_emod n d
  have g1 := Int.emod_nonneg (n + s) (by omega : d ≠ 0)
  have g3 := Int.mul_ediv_add_emod (n + s) d
  have le : n / d ≤ (n + s) / d := Int.ediv_le_ediv hd (by omega)
  have l1 := rq_low (n := n) (m := m) hd
  have l2 := rq_low (n := n + s) (m := m) hd
  by_cases e : n / d = (n + s) / d
  · have hr : n % d ≤ (n + s) % d := by rw [e] at h3; omega
    rw [rq_eq _ hd, rq_eq _ hd, ← e]
    by_cases z : n % d = 0
    · rw [if_pos z]
      split
      · omega
      · split <;> omega
    · rw [if_neg z, if_neg (show ¬ ((n + s) % d = 0) by omega)]
      cases u : UU (n / d) (n % d) d m with
      | true =>
        rw [uu_mono hm hr u]; exact Int.le_refl _
      | false => simp; split <;> omega
  · have : rq n d m ≤ n / d + 1 := by have := l1.2; split at this <;> omega
    omega
theorem uu_scale {q r d f : Int} (m : Str) (hf : 0 < f) : UU q (r * f) (d * f) m = UU q r d m := by
  unfold UU
  have e1 : (2 * (r * f) = d * f) = (2 * r = d) := by
    rw [← Int.mul_assoc]
    exact propext ⟨fun h => Int.eq_of_mul_eq_mul_right (by omega) h, fun h => by rw [h]⟩
  have e2 : decide (d * f < 2 * (r * f)) = decide (d < 2 * r) := by
    rw [← Int.mul_assoc]
    exact decide_eq_decide.mpr ⟨fun h => Int.lt_of_mul_lt_mul_right h (by omega), fun h => Int.mul_lt_mul_of_pos_right h hf⟩
  simp only [e1, e2]
theorem mul_emod_r (n d : Int) {f : Int} (hf : 0 < f) : n * f % (d * f) = n % d * f := by
  rw [Int.mul_comm n f, Int.mul_comm d f, Int.mul_emod_mul_of_pos _ _ hf, Int.mul_comm]
theorem rq_scale {n d f : Int} (m : Str) (hd : 0 < d) (hf : 0 < f) : rq (n * f) (d * f) m = rq n d m := by
  rw [rq_eq _ hd, rq_eq _ (Int.mul_pos hd hf), mul_emod_r n d hf, Int.mul_ediv_mul_of_pos_left _ _ hf, uu_scale m hf]
  have : (n % d * f = 0) = (n % d = 0) := propext ⟨fun h => (Int.mul_eq_zero.mp h).resolve_right (by omega), fun h => by rw [h, Int.zero_mul]⟩
  simp only [this]
theorem uu_shift {q r d k : Int} {m : Str} (hm : m ∈ steady5) : UU (q + 2 * k) r d m = UU q r d m := by
  have hm2 : m = "nearest-even" ∨ m = "nearest-up" ∨ m = "nearest-down" ∨ m = "upward" ∨ m = "downward" := by simpa [steady5] using hm
  rcases hm2 with rfl | rfl | rfl | rfl | rfl <;> simp [UU, goesUp, tieUp, near5]
  all_goals (try (rw [Int.add_mul_emod_self_left]))
theorem rq_shift {n d k : Int} {m : Str} (hd : 0 < d) (hm : m ∈ steady5) : rq (n + 2 * k * d) d m = rq n d m + 2 * k := by
  rw [rq_eq _ hd, rq_eq _ hd, Int.add_mul_emod_self_right, Int.add_mul_ediv_right _ _ (by omega), uu_shift hm]
  split
  · rfl
  · split <;> omega
theorem rq_two (n d : Int) (m : Str) : rq n d m = n / d ∨ rq n d m = n / d + 1 := by
  unfold rq
  split
  · exact .inl rfl
  · split
    · exact .inr rfl
    · exact .inl rfl
theorem rq_sz {n d : Int} {k : Nat} (m : Str) (hd : 1 ≤ d) (h : Sz k n) : Sz (k + 1) (rq n d m) := by
  have e := Int.mul_ediv_add_emod n d
  have e1 := Int.emod_nonneg n (show d ≠ 0 by omega)
  have e2 := Int.emod_lt_of_pos n (show 0 < d by omega)
  have q : (n / d).natAbs ≤ n.natAbs := by
    rcases Int.lt_or_le n 0 with hn | hn
    · have h1 : n / d < 0 := Int.ediv_neg_of_neg_of_pos hn (by omega)
      have h2 : n ≤ n / d := by
        have := Int.mul_le_mul_of_nonneg_right (show 1 ≤ -(n / d) by omega) (show 0 ≤ d - 1 by omega)
        rw [Int.one_mul, Int.neg_mul, Int.mul_sub, Int.mul_one, Int.mul_comm (n / d) d] at this
        omega
      omega
    · have h1 : 0 ≤ n / d := Int.ediv_nonneg hn (by omega)
      have h2 : n / d ≤ n := Int.ediv_le_self _ hn
      omega
  unfold Sz at *
  rw [Nat.pow_succ]
  have := Nat.one_le_two_pow (n := k)
  rcases rq_two n d m with r | r <;> rw [r] <;> omega

structure EN where
  b : Int
  c : Int
  e : Int
/-- c without its factors b, and how many -/
def strip (b : Int) : Nat → Int → Int × Nat
  | 0, c => (c, 0)
  | k + 1, c => if c % b = 0 then ((strip b k (c / b)).1, (strip b k (c / b)).2 + 1) else (c, 0)
def nrm (b c e : Int) : EN := if c = 0 then ⟨b, 0, 0⟩ else ⟨b, (strip b c.natAbs c).1, e + (strip b c.natAbs c).2⟩
structure Low (x : EN) : Prop where
  b2 : 2 ≤ x.b
  b36 : x.b ≤ 36
  z : x.c = 0 → x.e = 0
  nd : x.c ≠ 0 → x.c % x.b ≠ 0
theorem div_small {b c : Int} (hb : 2 ≤ b) (hc : c ≠ 0) (h : c % b = 0) : c / b ≠ 0 ∧ (c / b).natAbs < c.natAbs := by
  have e : b * (c / b) = c := by have := Int.mul_ediv_add_emod c b; omega
  have h0 : c / b ≠ 0 := fun z => by rw [z, Int.mul_zero] at e; exact hc e.symm
  refine ⟨h0, ?_⟩
  have e2 : c.natAbs = b.natAbs * (c / b).natAbs := by rw [← Int.natAbs_mul, e]
  have : 2 ≤ b.natAbs := by omega
  have : 1 ≤ (c / b).natAbs := by omega
  have : 2 * (c / b).natAbs ≤ b.natAbs * (c / b).natAbs := Nat.mul_le_mul_right _ ‹2 ≤ b.natAbs›
  omega
theorem strip_ok {b : Int} (hb : 2 ≤ b) : ∀ (k : Nat) (c : Int), c ≠ 0 → c.natAbs ≤ k → c = (strip b k c).1 * b ^ (strip b k c).2 ∧ (strip b k c).1 % b ≠ 0
  | 0, c, hc, hk => by omega
  | k + 1, c, hc, hk => by
    unfold strip
    by_cases h : c % b = 0
    · rw [if_pos h]
      obtain ⟨h0, h1⟩ := div_small hb hc h
      obtain ⟨i1, i2⟩ := strip_ok hb k (c / b) h0 (by omega)
      refine ⟨?_, i2⟩
      show c = (strip b k (c / b)).1 * b ^ ((strip b k (c / b)).2 + 1)
      rw [Int.pow_succ, ← Int.mul_assoc, ← i1]
      have := Int.mul_ediv_add_emod c b
      rw [Int.mul_comm]; omega
    · rw [if_neg h]
      exact ⟨by simp, h⟩
theorem strip_one {b r s : Int} (hb : 2 ≤ b) : ∀ (m n : Nat), r * b ^ m = s * b ^ n → r % b ≠ 0 → s % b ≠ 0 → r = s ∧ m = n
  | 0, 0, h, _, _ => ⟨by simpa using h, rfl⟩
  | 0, n + 1, h, hr, _ => by
    exfalso; apply hr
    rw [Int.pow_zero, Int.mul_one, Int.pow_succ, ← Int.mul_assoc] at h
    rw [h]; exact Int.mul_emod_left _ _
  | m + 1, 0, h, _, hs => by
    exfalso; apply hs
    rw [Int.pow_zero, Int.mul_one, Int.pow_succ, ← Int.mul_assoc] at h
    rw [← h]; exact Int.mul_emod_left _ _
  | m + 1, n + 1, h, hr, hs => by
    rw [Int.pow_succ, Int.pow_succ, ← Int.mul_assoc, ← Int.mul_assoc] at h
    obtain ⟨e1, e2⟩ := strip_one hb m n (Int.eq_of_mul_eq_mul_right (by omega) h) hr hs
    exact ⟨e1, by omega⟩
theorem pow_pos' {b : Int} (hb : 2 ≤ b) (n : Nat) : 1 ≤ b ^ n := by
  have := Int.pow_pos (n := b) (m := n) (by omega)
  omega
theorem nrm_zero (b e : Int) : nrm b 0 e = ⟨b, 0, 0⟩ := by unfold nrm; rw [if_pos rfl]
theorem nrm_of {b c e r : Int} {n : Nat} (hb : 2 ≤ b) (hc : c ≠ 0) (h : c = r * b ^ n) (hr : r % b ≠ 0) : nrm b c e = ⟨b, r, e + n⟩ := by
  obtain ⟨i1, i2⟩ := strip_ok hb c.natAbs c hc (Nat.le_refl _)
  obtain ⟨e1, e2⟩ := strip_one hb _ _ (i1.symm.trans h) i2 hr
  unfold nrm
  rw [if_neg hc, e1, e2]
theorem nrm_shift {b c e : Int} (hb : 2 ≤ b) (k : Nat) : nrm b (c * b ^ k) e = nrm b c (e + k) := by
  have hp := pow_pos' hb k
  by_cases hc : c = 0
  · rw [hc, Int.zero_mul, nrm_zero, nrm_zero]
  · obtain ⟨i1, i2⟩ := strip_ok hb c.natAbs c hc (Nat.le_refl _)
    rw [nrm_of (r := (strip b c.natAbs c).1) (n := (strip b c.natAbs c).2 + k) hb (Int.mul_ne_zero hc (by omega)) (by rw [Int.pow_add, ← Int.mul_assoc, ← i1]) i2, nrm_of hb hc i1 i2]
    congr 1; omega
theorem low_nrm {b c e : Int} (hb : 2 ≤ b) (h6 : b ≤ 36) : Low (nrm b c e) := by
  by_cases hc : c = 0
  · rw [hc, nrm_zero]; exact ⟨hb, h6, fun _ => rfl, fun h => absurd rfl h⟩
  · obtain ⟨i1, i2⟩ := strip_ok hb c.natAbs c hc (Nat.le_refl _)
    rw [nrm_of hb hc i1 i2]
    refine ⟨hb, h6, fun h => ?_, fun _ => i2⟩
    exfalso; apply hc; rw [i1]
    have : (strip b c.natAbs c).1 = 0 := h
    rw [this, Int.zero_mul]
theorem nrm_low {x : EN} (h : Low x) : nrm x.b x.c x.e = x := by
  obtain ⟨b, c, e⟩ := x
  by_cases hc : c = 0
  · have := h.z hc; dsimp only at this; subst hc; subst this; exact nrm_zero _ _
  · rw [nrm_of (r := c) (n := 0) h.b2 hc (by simp) (h.nd hc)]; simp
theorem nrm_b (b c e : Int) : (nrm b c e).b = b := by unfold nrm; split <;> rfl
/-- the sum x + s * y, the product -/
def addE (s : Int) (x y : EN) : EN := nrm x.b (x.c * x.b ^ (x.e - min x.e y.e).toNat + s * (y.c * x.b ^ (y.e - min x.e y.e).toNat)) (min x.e y.e)
def mulE (x y : EN) : EN := nrm x.b (x.c * y.c) (x.e + y.e)
def negE (x : EN) : EN := ⟨x.b, -x.c, x.e⟩
def absE (x : EN) : EN := ⟨x.b, x.c.natAbs, x.e⟩
def ofI (b n : Int) : EN := nrm b n 0
theorem low_neg {x : EN} (h : Low x) : Low (negE x) := ⟨h.b2, h.b36, fun z => h.z (by unfold negE at z; dsimp only at z; omega), fun z => by
  unfold negE at z ⊢; dsimp only at z ⊢
  have q := h.nd (by omega)
  intro w; apply q
  exact Int.emod_eq_zero_of_dvd (Int.dvd_neg.mp (Int.dvd_of_emod_eq_zero w))⟩
theorem low_abs {x : EN} (h : Low x) : Low (absE x) := by
  unfold absE
  rcases Int.natAbs_eq x.c with e | e
  · rw [← e]; exact h
  · have : ((x.c.natAbs : Nat) : Int) = -x.c := by omega
    rw [this]; exact low_neg h
/-- sum over any common exponent -/
theorem add_at {x y : EN} (s : Int) {m : Int} (hb : 2 ≤ x.b) (h1 : m ≤ x.e) (h2 : m ≤ y.e) : nrm x.b (x.c * x.b ^ (x.e - m).toNat + s * (y.c * x.b ^ (y.e - m).toNat)) m = addE s x y := by
  unfold addE
  have hm : m ≤ min x.e y.e := by omega
  have e1 : (x.e - m).toNat = (x.e - min x.e y.e).toNat + (min x.e y.e - m).toNat := by omega
  have e2 : (y.e - m).toNat = (y.e - min x.e y.e).toNat + (min x.e y.e - m).toNat := by omega
  have e3 : x.c * x.b ^ (x.e - m).toNat + s * (y.c * x.b ^ (y.e - m).toNat) = (x.c * x.b ^ (x.e - min x.e y.e).toNat + s * (y.c * x.b ^ (y.e - min x.e y.e).toNat)) * x.b ^ (min x.e y.e - m).toNat := by
    rw [e1, e2, Int.pow_add, Int.pow_add, Int.add_mul]
    simp only [Int.mul_assoc]
  rw [e3, nrm_shift hb]
  congr 1; omega
theorem add_l0 {x y : EN} (s : Int) (hb : 2 ≤ x.b) (h : x.c = 0) : nrm x.b (0 + s * y.c) y.e = addE s x y := by
  have hm := add_at (x := x) (y := y) s (m := min x.e y.e) hb (by omega) (by omega)
  rw [← hm, h, Int.zero_mul, ← Int.mul_assoc, Int.zero_add, Int.zero_add, nrm_shift hb]
  congr 1; omega
theorem add_r0 {x y : EN} (s : Int) (hb : 2 ≤ x.b) (h : y.c = 0) : nrm x.b (x.c + s * 0) x.e = addE s x y := by
  have hm := add_at (x := x) (y := y) s (m := min x.e y.e) hb (by omega) (by omega)
  rw [← hm, h, Int.zero_mul, Int.mul_zero, Int.add_zero, Int.add_zero, nrm_shift hb]
  congr 1; omega
/-- the number lies over b ^ -m and is below 2 ^ n over it -/
def Bd (m n : Nat) (x : EN) : Prop := 0 ≤ x.e + m ∧ Sz n (x.c * x.b ^ (x.e + m).toNat)
theorem pow_le' {b : Int} (hb : 2 ≤ b) {m n : Nat} (h : m ≤ n) : b ^ m ≤ b ^ n := by
  obtain ⟨k, rfl⟩ : ∃ k, n = m + k := ⟨n - m, by omega⟩
  rw [Int.pow_add]
  have h1 := pow_pos' hb m
  have h2 := pow_pos' hb k
  have := Int.mul_le_mul_of_nonneg_left h2 (by omega : 0 ≤ b ^ m)
  omega
theorem abs_mul_le {c p q : Int} (hp : 0 ≤ p) (h : p ≤ q) : (c * p).natAbs ≤ (c * q).natAbs := by
  rw [Int.natAbs_mul, Int.natAbs_mul]
  exact Nat.mul_le_mul_left _ (by omega)
theorem two_pow_le {b : Int} (hb : 2 ≤ b) (n : Nat) : (2 : Int) ^ n ≤ b ^ n := by
  induction n with
  | zero => simp
  | succ n ih =>
    rw [Int.pow_succ, Int.pow_succ]
    have h1 := pow_pos' (b := 2) (by omega) n
    exact Int.le_trans (Int.mul_le_mul_of_nonneg_right ih (by omega)) (Int.mul_le_mul_of_nonneg_left hb (by have := pow_pos' hb n; omega))
/-- a number that is not zero has an exponent below the size -/
theorem Bd.exp {m n : Nat} {x : EN} (h : Bd m n x) (hb : 2 ≤ x.b) (hc : x.c ≠ 0) : x.e + m < n := by
  obtain ⟨h0, h1⟩ := h
  have h2 := two_pow_le hb (x.e + m).toNat
  have h3 : (x.b ^ (x.e + m).toNat).natAbs ≤ (x.c * x.b ^ (x.e + m).toNat).natAbs := by
    rw [Int.natAbs_mul]
    have : 1 ≤ x.c.natAbs := by omega
    exact Nat.le_mul_of_pos_left _ this
  have h4 : (2 : Int) ^ (x.e + m).toNat = ((2 ^ (x.e + m).toNat : Nat) : Int) := by simp
  have h5 : 2 ^ (x.e + m).toNat < 2 ^ n := by
    unfold Sz at h1
    omega
  have := (Nat.pow_lt_pow_iff_right (by decide : 1 < 2)).mp h5
  omega
theorem Bd.co {m n : Nat} {x : EN} (h : Bd m n x) (hb : 2 ≤ x.b) {k : Nat} (hk : (k : Int) ≤ x.e + m) : Sz n (x.c * x.b ^ k) := by
  have h1 := pow_pos' hb k
  exact h.2.le (abs_mul_le (by omega) (pow_le' hb (by omega)))
theorem Bd.c0 {m n : Nat} {x : EN} (h : Bd m n x) (hb : 2 ≤ x.b) : Sz n x.c := by
  have := h.co hb (k := 0) (by have := h.1; omega)
  simpa using this
theorem Bd.mono {m n n' : Nat} {x : EN} (h : Bd m n x) (hn : n ≤ n') : Bd m n' x := ⟨h.1, h.2.mono hn⟩
theorem Sz.pow36 {b : Int} (hb : 2 ≤ b) (h6 : b ≤ 36) (k : Nat) : Sz (6 * k + 1) (b ^ k) := Sz.pow (by unfold Sz; omega) k
theorem Bd.wid {m n m' : Nat} {x : EN} (h : Bd m n x) (hb : 2 ≤ x.b) (h6 : x.b ≤ 36) (hm : m ≤ m') : Bd m' (n + 6 * (m' - m) + 1) x := by
  refine ⟨by have := h.1; omega, ?_⟩
  have h0 := h.1
  have e : (x.e + m').toNat = (x.e + m).toNat + (m' - m) := by omega
  rw [e, Int.pow_add, ← Int.mul_assoc]
  exact h.2.mul (Sz.pow36 hb h6 _)
theorem Bd.nrm {b c e : Int} {m n : Nat} (hb : 2 ≤ b) (h0 : 0 ≤ e + m) (h : Sz n (c * b ^ (e + m).toNat)) : Bd m n (nrm b c e) := by
  by_cases hc : c = 0
  · rw [hc, nrm_zero]
    exact ⟨by show 0 ≤ (0 : Int) + m; omega, by show Sz n (0 * _); rw [Int.zero_mul]; exact Sz.zero⟩
  · obtain ⟨i1, i2⟩ := strip_ok hb c.natAbs c hc (Nat.le_refl _)
    rw [nrm_of (e := e) hb hc i1 i2]
    refine ⟨by show 0 ≤ e + _ + (m : Int); omega, ?_⟩
    show Sz n ((strip b c.natAbs c).1 * b ^ (e + (strip b c.natAbs c).2 + m).toNat)
    have e1 : (e + (strip b c.natAbs c).2 + m).toNat = (strip b c.natAbs c).2 + (e + m).toNat := by omega
    rw [e1, Int.pow_add, ← Int.mul_assoc, ← i1]
    exact h
theorem Bd.add {m n : Nat} {x y : EN} {s : Int} (hs : s = 1 ∨ s = -1) (hx : Bd m n x) (hy : Bd m n y) (hb : 2 ≤ x.b) (e : y.b = x.b) : Bd m (n + 1) (addE s x y) := by
  rw [← add_at (x := x) (y := y) s (m := -(m : Int)) hb (by have := hx.1; omega) (by have := hy.1; omega)]
  refine Bd.nrm hb (by omega) ?_
  have e0 : (-(m : Int) + m).toNat = 0 := by omega
  rw [e0, Int.pow_zero, Int.mul_one]
  have h1 := hx.2
  have h2 := hy.2
  rw [e] at h2
  have q1 : (x.e - -(m : Int)).toNat = (x.e + m).toNat := by omega
  have q2 : (y.e - -(m : Int)).toNat = (y.e + m).toNat := by omega
  rw [q1, q2]
  refine Sz.add h1 ?_
  rcases hs with rfl | rfl
  · rw [Int.one_mul]; exact h2
  · rw [Int.neg_mul, Int.one_mul]; exact h2.neg
theorem Bd.mul {m n m' n' : Nat} {x y : EN} (hx : Bd m n x) (hy : Bd m' n' y) (hb : 2 ≤ x.b) (e : y.b = x.b) : Bd (m + m') (n + n') (mulE x y) := by
  have g1 := hx.1
  have g2 := hy.1
  refine Bd.nrm hb (by omega) ?_
  have e1 : (x.e + y.e + ((m + m' : Nat) : Int)).toNat = (x.e + m).toNat + (y.e + m').toNat := by omega
  rw [e1, Int.pow_add]
  have h2 := hy.2
  rw [e] at h2
  have := hx.2.mul h2
  have e2 : x.c * y.c * (x.b ^ (x.e + m).toNat * x.b ^ (y.e + m').toNat) = x.c * x.b ^ (x.e + m).toNat * (y.c * x.b ^ (y.e + m').toNat) := by
    simp only [Int.mul_assoc, Int.mul_left_comm]
  rw [e2]; exact this
theorem Bd.neg {m n : Nat} {x : EN} (h : Bd m n x) : Bd m n (negE x) := ⟨h.1, by show Sz n (-x.c * x.b ^ _); rw [Int.neg_mul]; exact h.2.neg⟩
theorem Bd.ofI {n : Nat} {b i : Int} (hb : 2 ≤ b) (h : Sz n i) : Bd 0 n (ofI b i) := Bd.nrm hb (by omega) (by simpa using h)
def exF (x : EN) : List (Str × V) := putF "exponent" (.int x.e) (putF "coefficient" (.int x.c) (putF "base" (.int x.b) []))
theorem pow_lt_sz {m n : Nat} {x : Int} (h : (2 : Int) ^ m ≤ x) (hs : Sz n x) : m < n := by
  have h4 : (2 : Int) ^ m = ((2 ^ m : Nat) : Int) := by simp
  unfold Sz at hs
  have h5 : 2 ^ m < 2 ^ n := by omega
  exact (Nat.pow_lt_pow_iff_right (by decide : 1 < 2)).mp h5
/-- power's loop -/
def Pw (b c r q k : Int) : Prop := ∃ i : Nat, q = b ^ (2 ^ i) ∧ k = ((c.toNat / 2 ^ i : Nat) : Int) ∧ r = b ^ (c.toNat % 2 ^ i)
theorem Pw.init {b c : Int} (h : 0 ≤ c) : Pw b c 1 b c := ⟨0, by rw [Nat.pow_zero, Int.pow_one], by simp; omega, by simp [Nat.mod_one]⟩
theorem Pw.odd {b c r q k : Int} (h : Pw b c r q k) (o : k % 2 = 1) : Pw b c (r * q) (q * q) (k / 2) := by
  obtain ⟨i, rfl, rfl, rfl⟩ := h
  refine ⟨i + 1, by rw [Nat.pow_succ, Nat.mul_two, Int.pow_add], by rw [Nat.pow_succ, ← Nat.div_div_eq_div_mul]; omega, ?_⟩
  have e : c.toNat / 2 ^ i % 2 = 1 := by omega
  rw [Nat.mod_pow_succ, e, Nat.mul_one, Int.pow_add]
theorem Pw.even {b c r q k : Int} (h : Pw b c r q k) (o : ¬ k % 2 = 1) : Pw b c r (q * q) (k / 2) := by
  obtain ⟨i, rfl, rfl, rfl⟩ := h
  refine ⟨i + 1, by rw [Nat.pow_succ, Nat.mul_two, Int.pow_add], by rw [Nat.pow_succ, ← Nat.div_div_eq_div_mul]; omega, ?_⟩
  have e : c.toNat / 2 ^ i % 2 = 0 := by omega
  rw [Nat.mod_pow_succ, e, Nat.mul_zero, Nat.add_zero]
theorem Pw.done {b c r q k : Int} (h : Pw b c r q k) (o : ¬ 0 < k) : r = b ^ c.toNat := by
  obtain ⟨i, rfl, rfl, rfl⟩ := h
  have e : c.toNat / 2 ^ i = 0 := Nat.eq_zero_of_not_pos fun q => o (Int.ofNat_lt.mpr q)
  have h2 := Nat.div_add_mod c.toNat (2 ^ i)
  rw [e, Nat.mul_zero, Nat.zero_add] at h2
  rw [h2]
theorem Pw.sz {b c r q k : Int} (h : Pw b c r q k) (o : 0 < k) (hc : c ≤ 20000) (hb : Sz 6 b) : Sz 120001 r ∧ Sz 120001 q := by
  obtain ⟨i, rfl, rfl, rfl⟩ := h
  have h1 : c.toNat % 2 ^ i ≤ c.toNat := Nat.mod_le _ _
  have h2 : 2 ^ i ≤ c.toNat := by
    rcases Nat.lt_or_ge c.toNat (2 ^ i) with h | h
    · rw [Nat.div_eq_of_lt h] at o; omega
    · exact h
  exact ⟨(Sz.pow hb _).mono (by omega), (Sz.pow hb _).mono (by omega)⟩
/-- squares -/
def sqL (b : Int) (n : Nat) : List Int := (List.range n).map fun k => b ^ (2 ^ k)
theorem sqL_len (b : Int) (n : Nat) : (sqL b n).length = n := by unfold sqL; rw [List.length_map, List.length_range]
def Sq (b size : Int) (sq : List Int) (v : Int) : Prop := ∃ n : Nat, sq = sqL b n ∧ v = b ^ (2 ^ n) ∧ ∀ k < n, b ^ (2 ^ k) ≤ size
theorem Sq.init {b size : Int} : Sq b size [] b := ⟨0, rfl, by rw [Nat.pow_zero, Int.pow_one], fun k h => by omega⟩
theorem Sq.step {b size v : Int} {sq : List Int} (h : Sq b size sq v) (l : v ≤ size) : Sq b size (sq ++ [v]) (v * v) := by
  obtain ⟨n, rfl, rfl, h⟩ := h
  refine ⟨n + 1, by unfold sqL; rw [List.range_succ, List.map_append]; rfl, by rw [Nat.pow_succ, Nat.mul_two, Int.pow_add], fun k hk => ?_⟩
  by_cases e : k = n
  · rw [e]; exact l
  · exact h k (by omega)
theorem Sq.two {b size v : Int} {sq : List Int} (h : Sq b size sq v) (hb : 2 ≤ b) : 2 ≤ v := by
  obtain ⟨n, rfl, rfl, h⟩ := h
  have := pow_le' hb (m := 1) (n := 2 ^ n) Nat.one_le_two_pow
  rw [Int.pow_one] at this
  omega
theorem lt_sq {v : Int} (h : 2 ≤ v) : v < v * v := by
  have := Int.mul_le_mul_of_nonneg_right h (by omega : 0 ≤ v)
  omega
theorem Sq.len {b size v : Int} {sq : List Int} (h : Sq b size sq v) (hb : 2 ≤ b) (hs : Sz 9000 size) : sq.length ≤ 14 := by
  obtain ⟨n, rfl, rfl, h⟩ := h
  rw [sqL_len]
  rcases Nat.lt_or_ge 14 n with hn | hn
  · exfalso
    have := pow_lt_sz (Int.le_trans (two_pow_le hb (2 ^ 14)) (h 14 hn)) hs
    omega
  · exact hn
theorem Sq.szv {b size v : Int} {sq : List Int} (h : Sq b size sq v) (hb : 2 ≤ b) (hs : Sz 9000 size) (l : v ≤ size) : Sz 9000 v := hs.le (by have := h.two hb; omega)
theorem sq_at {b : Int} {n i : Nat} {sq : List Int} (e : sq = sqL b n) (hi : i < sq.length) : atI (sq.map V.int) ((sq.length : Int) - 1 - (i : Int)) = some (V.int (b ^ (2 ^ (n - 1 - i)))) := by
  subst e
  rw [sqL_len] at *
  have e : (n : Int) - 1 - i = ((n - 1 - i : Nat) : Int) := by omega
  rw [e]
  refine atI_nat ?_
  unfold sqL
  rw [List.getElem?_map, List.getElem?_map, List.getElem?_range (by omega)]
  rfl
/-- without_zeros's loop -/
def Wz (b c : Int) (m : Nat) (x k : Int) : Prop := ∃ j : Nat, k = j ∧ c = x * b ^ j ∧ x % b ^ (2 ^ m) ≠ 0
theorem mod_small {c d : Int} (hc : c ≠ 0) (h : (if c < 0 then -c else c) < d) : c % d ≠ 0 := by
  intro z
  have e : d * (c / d) = c := by have := Int.mul_ediv_add_emod c d; omega
  have e2 : c.natAbs = d.natAbs * (c / d).natAbs := by rw [← Int.natAbs_mul, e]
  have h0 : c / d ≠ 0 := fun q => by rw [q, Int.mul_zero] at e; exact hc e.symm
  have h1 : d.natAbs * 1 ≤ d.natAbs * (c / d).natAbs := Nat.mul_le_mul_left _ (by omega)
  split at h <;> omega
theorem Wz.init {b c : Int} {n : Nat} (hc : c ≠ 0) (h : (if c < 0 then -c else c) < b ^ (2 ^ n)) : Wz b c n c 0 := ⟨0, rfl, by simp, mod_small hc h⟩
theorem Wz.yes {b c x k p : Int} {m : Nat} (hb : 2 ≤ b) (h : Wz b c (m + 1) x k) (z : x % b ^ (2 ^ m) = 0) (hp : p = 2 ^ m) : Wz b c m (x / b ^ (2 ^ m)) (k + p) := by
  obtain ⟨j, rfl, e, n⟩ := h
  have e1 : b ^ (2 ^ m) * (x / b ^ (2 ^ m)) = x := by have := Int.mul_ediv_add_emod x (b ^ (2 ^ m)); omega
  refine ⟨j + 2 ^ m, by rw [hp]; simp, ?_, fun z2 => n ?_⟩
  · rw [Int.pow_add, Int.mul_comm (b ^ j), ← Int.mul_assoc, Int.mul_comm _ (b ^ (2 ^ m)), e1]; exact e
  · have e2 : b ^ (2 ^ m) * (x / b ^ (2 ^ m) / b ^ (2 ^ m)) = x / b ^ (2 ^ m) := by have := Int.mul_ediv_add_emod (x / b ^ (2 ^ m)) (b ^ (2 ^ m)); omega
    rw [Nat.pow_succ, Nat.mul_two, Int.pow_add]
    refine Int.emod_eq_zero_of_dvd ⟨x / b ^ (2 ^ m) / b ^ (2 ^ m), ?_⟩
    rw [Int.mul_assoc, e2, e1]
theorem Wz.no {b c x k : Int} {m : Nat} (h : Wz b c (m + 1) x k) (z : ¬ x % b ^ (2 ^ m) = 0) : Wz b c m x k := by
  obtain ⟨j, rfl, e, n⟩ := h
  exact ⟨j, rfl, e, z⟩
theorem Wz.done {b c x k : Int} {m : Nat} (h : Wz b c m x k) (hm : m = 0) : c = x * b ^ k.toNat ∧ 0 ≤ k ∧ x % b ≠ 0 := by
  subst hm
  obtain ⟨j, rfl, e, n⟩ := h
  refine ⟨by simpa using e, by omega, by simpa [Int.pow_one] using n⟩
theorem nrm_of' {b c e r k : Int} (hb : 2 ≤ b) (hc : c ≠ 0) (h : c = r * b ^ k.toNat) (h0 : 0 ≤ k) (hr : r % b ≠ 0) : (⟨b, r, e + k⟩ : EN) = nrm b c e := by
  rw [nrm_of hb hc h hr]
  congr 1; omega
/-- what a sum wants of its sides -/
def Ad (x y : EN) : Prop := y.b = x.b ∧ ∃ m n : Nat, n ≤ 8990 ∧ Bd m n x ∧ Bd m n y
theorem sgn_sz {s c : Int} {n : Nat} (h : s = 1 ∨ s = -1) (hc : Sz n c) : Sz n (s * c) := by
  rcases h with rfl | rfl
  · rw [Int.one_mul]; exact hc
  · rw [Int.neg_mul, Int.one_mul]; exact hc.neg
theorem add_lo {x y : EN} (s : Int) (hb : 2 ≤ x.b) (h : y.e ≤ x.e) : nrm x.b (x.c * x.b ^ (x.e - y.e).toNat + s * y.c) y.e = addE s x y := by
  have := add_at (x := x) (y := y) s (m := y.e) hb h (by omega)
  rwa [Int.sub_self, Int.toNat_zero, Int.pow_zero, Int.mul_one] at this
theorem add_hi {x y : EN} (s : Int) (hb : 2 ≤ x.b) (h : x.e ≤ y.e) : nrm x.b (x.c + s * (y.c * x.b ^ (y.e - x.e).toNat)) x.e = addE s x y := by
  have := add_at (x := x) (y := y) s (m := x.e) hb (by omega) h
  rwa [Int.sub_self, Int.toNat_zero, Int.pow_zero, Int.mul_one] at this
theorem ofI_b (b n : Int) : (ofI b n).b = b := nrm_b _ _ _
/-- lowest's loops -/
def Lw (b c e x k : Int) : Prop := x ≠ 0 ∧ ∃ j : Nat, c = x * b ^ j ∧ k = e + j
theorem Lw.init {b c e : Int} (h : ¬ c = 0) : Lw b c e c e := ⟨h, 0, by simp, by simp⟩
theorem Lw.step {b c e x k : Int} (n : Nat) {p q : Int} (hb : 2 ≤ p) (h : Lw b c e x k) (hp : p = b ^ n) (hq : q = n) (z : x % p = 0) : Lw b c e (x / p) (k + q) := by
  obtain ⟨h0, j, e1, e2⟩ := h
  refine ⟨(div_small hb h0 z).1, j + n, ?_, by omega⟩
  have e3 : p * (x / p) = x := by have := Int.mul_ediv_add_emod x p; omega
  rw [Int.pow_add, ← hp, Int.mul_comm (b ^ j), ← Int.mul_assoc, Int.mul_comm _ p, e3]; exact e1
theorem Lw.lt {b c e x k p : Int} (hb : 2 ≤ p) (h : Lw b c e x k) (z : x % p = 0) : (x / p).natAbs < x.natAbs := (div_small hb h.1 z).2
theorem Lw.done {b c e x k : Int} (hb : 2 ≤ b) (hc : ¬ c = 0) (h : Lw b c e x k) (z : ¬ x % b = 0) : (⟨b, x, k⟩ : EN) = nrm b c e := by
  obtain ⟨h0, j, e1, e2⟩ := h
  rw [nrm_of hb hc e1 z, e2]
theorem five_ok {q : Int} (h0 : 0 ≤ q) (h1 : q < 5) : 2 ≤ ([10, 16, 2, 3, 36] : List Int).getD q.toNat 0 ∧ ([10, 16, 2, 3, 36] : List Int).getD q.toNat 0 ≤ 36 := by
  have : q = 0 ∨ q = 1 ∨ q = 2 ∨ q = 3 ∨ q = 4 := by omega
  rcases this with rfl | rfl | rfl | rfl | rfl <;> decide
/-- a lowest pair within bounds -/
def Gd (m n : Nat) (b c e : Int) : Prop := Low ⟨b, c, e⟩ ∧ Bd m n ⟨b, c, e⟩
theorem Gd.mono {m n n' : Nat} {b c e : Int} (h : Gd m n b c e) (l : n ≤ n') : Gd m n' b c e := ⟨h.1, h.2.mono l⟩
theorem gd_of {b c e r0 r1 : Int} {m n : Nat} (k : Nat) (h : (⟨b, r0, r1⟩ : EN) = nrm b c e) (hb : 2 ≤ b) (h6 : b ≤ 36) (hz : Sz n c) (h0 : 0 ≤ e + m) (h1 : e + m ≤ k) : Gd m (n + (6 * k + 1)) b r0 r1 := by
  unfold Gd
  rw [h]
  refine ⟨low_nrm hb h6, Bd.nrm hb h0 (hz.mul ((Sz.pow36 hb h6 _).mono (by omega)))⟩
theorem Gd.zero {m n : Nat} {b : Int} (hb : 2 ≤ b) (h6 : b ≤ 36) : Gd m n b 0 0 := ⟨⟨hb, h6, fun _ => rfl, fun h => absurd rfl h⟩, by show (0 : Int) ≤ 0 + m; omega, by show Sz n (0 * _); rw [Int.zero_mul]; exact Sz.zero⟩
theorem Gd.neg {m n : Nat} {b c e : Int} (h : Gd m n b c e) : Gd m n b (0 - c) e := by
  have h1 := low_neg h.1
  have h2 := h.2.neg
  rw [Int.zero_sub]
  exact ⟨h1, h2⟩
theorem Gd.one_sub {m n : Nat} {b c e r0 r1 : Int} (h : Gd m n b c e) (hn : 6 * m + 1 ≤ n) (hr : (⟨b, r0, r1⟩ : EN) = nrm b (1 - c) e) : Gd m (n + 1) b r0 r1 := by
  obtain ⟨l, d⟩ := h
  have hb : 2 ≤ b := l.b2
  have h0 : 0 ≤ e + m := d.1
  unfold Gd
  rw [hr]
  refine ⟨low_nrm hb l.b36, Bd.nrm hb h0 ?_⟩
  rw [Int.sub_mul, Int.one_mul]
  have hd : Sz n (c * b ^ (e + m).toNat) := d.2
  refine Sz.sub ?_ hd
  by_cases hc : c = 0
  · have he : e = 0 := l.z hc
    rw [he, show (0 + (m : Int)).toNat = m by omega]
    exact (Sz.pow36 hb l.b36 _).mono hn
  · refine hd.le ?_
    rw [Int.natAbs_mul]
    exact Nat.le_mul_of_pos_left _ (by omega)
theorem Gd.rng {m n : Nat} {b c e : Int} (h : Gd m n b c e) : -(m : Int) ≤ e ∧ e ≤ n := by
  have h0 : 0 ≤ e + m := h.2.1
  refine ⟨by omega, ?_⟩
  by_cases hc : c = 0
  · have he : e = 0 := h.1.z hc
    omega
  · have := h.2.exp h.1.b2 hc
    have : e + m < n := this
    omega
theorem Gd.sz {m n : Nat} {b c e : Int} (h : Gd m n b c e) : Sz n c := h.2.c0 h.1.b2
theorem nrm_neg {b c e : Int} (hb : 2 ≤ b) (h6 : b ≤ 36) : nrm b (-c) e = negE (nrm b c e) := by
  by_cases hc : c = 0
  · rw [hc]; show nrm b 0 e = _; rw [nrm_zero]; rfl
  · obtain ⟨i1, i2⟩ := strip_ok hb c.natAbs c hc (Nat.le_refl _)
    rw [nrm_of hb hc i1 i2]
    refine nrm_of (r := -(strip b c.natAbs c).1) hb (by omega) (by rw [Int.neg_mul, ← i1]) ?_
    intro w; apply i2
    exact Int.emod_eq_zero_of_dvd (Int.dvd_neg.mp (Int.dvd_of_emod_eq_zero w))
theorem add_comm1 {x y : EN} (e : y.b = x.b) : addE 1 y x = addE 1 x y := by
  unfold addE
  rw [e, Int.min_comm, Int.one_mul, Int.one_mul, Int.add_comm]
theorem sub_swap {x y : EN} (hb : 2 ≤ x.b) (h6 : x.b ≤ 36) (e : y.b = x.b) : addE (-1) y x = negE (addE (-1) x y) := by
  unfold addE
  rw [← nrm_neg hb h6, e, Int.min_comm]
  congr 1
  omega
theorem mul_comm1 {x y : EN} (e : y.b = x.b) : mulE y x = mulE x y := by
  unfold mulE
  rw [e, Int.mul_comm, Int.add_comm]
theorem add_nrm_r {x : EN} (s n e : Int) (hb : 2 ≤ x.b) : addE s x (nrm x.b n e) = addE s x ⟨x.b, n, e⟩ := by
  by_cases hc : n = 0
  · rw [hc, nrm_zero, ← add_r0 (y := ⟨x.b, 0, 0⟩) s hb rfl, ← add_r0 (y := ⟨x.b, 0, e⟩) s hb rfl]
  · obtain ⟨i1, i2⟩ := strip_ok hb n.natAbs n hc (Nat.le_refl _)
    rw [nrm_of hb hc i1 i2, ← add_at (m := min x.e e) s hb (by omega) (by show _ ≤ e + _; omega), ← add_at (y := ⟨x.b, n, e⟩) (m := min x.e e) s hb (by omega) (by show _ ≤ e; omega)]
    dsimp only
    rw [show (e + ((strip x.b n.natAbs n).2 : Int) - min x.e e).toNat = (strip x.b n.natAbs n).2 + (e - min x.e e).toNat by omega, Int.pow_add, ← Int.mul_assoc (strip x.b n.natAbs n).1, ← i1]
theorem mul_nrm_r {x : EN} (n e : Int) (hb : 2 ≤ x.b) : mulE x (nrm x.b n e) = mulE x ⟨x.b, n, e⟩ := by
  by_cases hc : n = 0
  · rw [hc, nrm_zero]; unfold mulE; dsimp only; rw [Int.mul_zero, nrm_zero, nrm_zero]
  · obtain ⟨i1, i2⟩ := strip_ok hb n.natAbs n hc (Nat.le_refl _)
    rw [nrm_of hb hc i1 i2]
    unfold mulE
    dsimp only
    have := nrm_shift (c := x.c * (strip x.b n.natAbs n).1) (e := x.e + e) hb (strip x.b n.natAbs n).2
    rw [Int.mul_assoc, ← i1] at this
    rw [this]
    congr 1; omega
theorem add_nrm_l {y : EN} (s n e : Int) (hb : 2 ≤ y.b) : addE s (nrm y.b n e) y = addE s ⟨y.b, n, e⟩ y := by
  by_cases hc : n = 0
  · rw [hc, nrm_zero, ← add_l0 (x := ⟨y.b, 0, 0⟩) (y := y) s hb rfl, ← add_l0 (x := ⟨y.b, 0, e⟩) (y := y) s hb rfl]
  · obtain ⟨i1, i2⟩ := strip_ok hb n.natAbs n hc (Nat.le_refl _)
    rw [nrm_of hb hc i1 i2, ← add_at (x := ⟨y.b, (strip y.b n.natAbs n).1, e + (strip y.b n.natAbs n).2⟩) (m := min e y.e) s hb (by show _ ≤ e + _; omega) (by omega), ← add_at (x := ⟨y.b, n, e⟩) (m := min e y.e) s hb (by show _ ≤ e; omega) (by omega)]
    dsimp only
    rw [show (e + ((strip y.b n.natAbs n).2 : Int) - min e y.e).toNat = (strip y.b n.natAbs n).2 + (e - min e y.e).toNat by omega, Int.pow_add, ← Int.mul_assoc (strip y.b n.natAbs n).1, ← i1]
theorem low_add {x y : EN} {s : Int} (hb : 2 ≤ x.b) (h6 : x.b ≤ 36) : Low (addE s x y) := low_nrm hb h6
theorem low_mul {x y : EN} (hb : 2 ≤ x.b) (h6 : x.b ≤ 36) : Low (mulE x y) := low_nrm hb h6
theorem sgn_mul {d s : Int} (h0 : 0 ≤ d) (h1 : d < 2) : s * (1 - 2 * d) = s ∨ s * (1 - 2 * d) = -s := by
  have q : d = 0 ∨ d = 1 := by omega
  rcases q with q | q <;> rw [q] <;> omega
theorem due_ok {b c e : Int} {E : EN} (h : (⟨b, c, e⟩ : EN) = E) (l : Low E) : nrm b c e = E := by
  subst h; exact nrm_low l
theorem neg_pair {b c e c' e' : Int} {E : EN} (h : (⟨b, c, e⟩ : EN) = E) (h0 : c' = 0 - c) (h1 : e' = e) : (⟨b, c', e'⟩ : EN) = negE E := by
  subst h; rw [h0, h1, Int.zero_sub]; rfl
theorem abs_pair {b c e : Int} : (⟨b, (if c < 0 then -c else c), e⟩ : EN) = absE ⟨b, c, e⟩ := by
  unfold absE
  rw [show (if c < 0 then -c else c) = (c.natAbs : Int) by split <;> omega]
theorem gd_e {m n : Nat} {b c e : Int} {E : EN} (h : (⟨b, c, e⟩ : EN) = E) (l : Low E) (d : Bd m n E) : Gd m n b c e := by
  subst h; exact ⟨l, d⟩
theorem ad_of {m n m' n' : Nat} {x y : EN} (e : y.b = x.b) (h2 : 2 ≤ x.b) (h6 : x.b ≤ 36) (dx : Bd m n x) (dy : Bd m' n' y) (M : Nat) (l1 : m ≤ M) (l2 : m' ≤ M) (l3 : n + 6 * (M - m) + 1 ≤ 8990) (l4 : n' + 6 * (M - m') + 1 ≤ 8990) : Ad x y :=
  ⟨e, M, 8990, Nat.le_refl _, (dx.wid h2 h6 l1).mono l3, (dy.wid (by omega) (by omega) l2).mono l4⟩
structure Abn (n : Int) (a b : EN) : Prop where
  a2 : 2 ≤ a.b
  a36 : a.b ≤ 36
  b2 : 2 ≤ b.b
  b36 : b.b ≤ 36
  adab : Ad a b
  adba : Ad b a
  eab : b.b = a.b
  eba : a.b = b.b
  za : Sz 4490 a.c
  zb : Sz 4490 b.c
  la : Low a
  za9 : Sz 9000 a.c
  adan : Ad a (ofI a.b n)
  adna : Ad (ofI a.b n) a
  zn : Sz 4490 (ofI a.b n).c
  zn9 : Sz 9000 n
theorem abn_of {n : Int} {a b : EN} (la : Low a) (da : Bd 20 2450 a) (lb : Low b) (db : Bd 20 2450 b) (e : b.b = a.b) (hn : Sz 300 n) : Abn n a b := by
  have dn : Bd 0 300 (ofI a.b n) := Bd.ofI la.b2 hn
  have en : (ofI a.b n).b = a.b := ofI_b _ _
  have n2 : 2 ≤ (ofI a.b n).b := by rw [en]; exact la.b2
  have n6 : (ofI a.b n).b ≤ 36 := by rw [en]; exact la.b36
  exact ⟨la.b2, la.b36, lb.b2, lb.b36, ad_of e la.b2 la.b36 da db 20 (by decide) (by decide) (by decide) (by decide), ad_of e.symm lb.b2 lb.b36 db da 20 (by decide) (by decide) (by decide) (by decide), e, e.symm,
    (da.c0 la.b2).mono (by decide), (db.c0 lb.b2).mono (by decide), la, (da.c0 la.b2).mono (by decide), ad_of en la.b2 la.b36 da dn 20 (by decide) (by decide) (by decide) (by decide), ad_of en.symm n2 n6 dn da 20 (by decide) (by decide) (by decide) (by decide),
    (dn.c0 n2).mono (by decide), hn.mono (by decide)⟩
structure Stu (n : Int) (s t u : EN) : Prop where
  s2 : 2 ≤ s.b
  s36 : s.b ≤ 36
  adst : Ad s t
  ets : t.b = s.b
  zs : Sz 4490 s.c
  zt : Sz 4490 t.c
  p2 : 2 ≤ (mulE s t).b
  p36 : (mulE s t).b ≤ 36
  adnp : Ad (ofI (mulE s t).b n) (mulE s t)
  adsu : Ad s u
  ls : Low s
  lt : Low t
  lu : Low u
  ds : Bd 20 2451 s
  dt : Bd 20 2451 t
  du : Bd 20 2451 u
  dp : Bd 40 4902 (mulE s t)
theorem addE_b (s : Int) (x y : EN) : (addE s x y).b = x.b := nrm_b _ _ _
theorem mulE_b (x y : EN) : (mulE x y).b = x.b := nrm_b _ _ _
theorem stu_of {n : Int} {a b s t u : EN} (hs : s = addE 1 a b) (ht : t = addE (-1) a b) (hu : u = addE 1 a (ofI a.b n)) (la : Low a) (da : Bd 20 2450 a) (db : Bd 20 2450 b) (e : b.b = a.b) (hn : Sz 300 n) : Stu n s t u := by
  have dn : Bd 0 300 (ofI a.b n) := Bd.ofI la.b2 hn
  have en : (ofI a.b n).b = a.b := ofI_b _ _
  have dn2 : Bd 20 2450 (ofI a.b n) := (dn.wid (by rw [en]; exact la.b2) (by rw [en]; exact la.b36) (m' := 20) (by decide)).mono (by decide)
  have es : s.b = a.b := by rw [hs]; exact addE_b _ _ _
  have et : t.b = a.b := by rw [ht]; exact addE_b _ _ _
  have eu : u.b = a.b := by rw [hu]; exact addE_b _ _ _
  have s2 : 2 ≤ s.b := by rw [es]; exact la.b2
  have s6 : s.b ≤ 36 := by rw [es]; exact la.b36
  have ds : Bd 20 2451 s := by rw [hs]; exact Bd.add (.inl rfl) da db la.b2 e
  have dt : Bd 20 2451 t := by rw [ht]; exact Bd.add (.inr rfl) da db la.b2 e
  have du : Bd 20 2451 u := by rw [hu]; exact Bd.add (.inl rfl) da dn2 la.b2 en
  have ep : (mulE s t).b = s.b := mulE_b _ _
  have p2 : 2 ≤ (mulE s t).b := by rw [ep]; exact s2
  have p6 : (mulE s t).b ≤ 36 := by rw [ep]; exact s6
  have dp : Bd 40 4902 (mulE s t) := Bd.mul ds dt s2 (by rw [es, et])
  have dq : Bd 0 300 (ofI (mulE s t).b n) := Bd.ofI p2 hn
  have eq : (ofI (mulE s t).b n).b = (mulE s t).b := ofI_b _ _
  exact ⟨s2, s6, ad_of (by rw [es, et]) s2 s6 ds dt 20 (by decide) (by decide) (by decide) (by decide), by rw [es, et], (ds.c0 s2).mono (by decide), (dt.c0 (by rw [et, ← es]; exact s2)).mono (by decide), p2, p6,
    ad_of eq.symm (by rw [eq]; exact p2) (by rw [eq]; exact p6) dq dp 40 (by decide) (by decide) (by decide) (by decide), ad_of (by rw [es, eu]) s2 s6 ds du 20 (by decide) (by decide) (by decide) (by decide),
    by rw [hs]; exact low_add la.b2 la.b36, by rw [ht]; exact low_add la.b2 la.b36, by rw [hu]; exact low_add la.b2 la.b36, ds, dt, du, dp⟩
theorem made_ok {base n : Int} {X Y : EN} (lx : Low X) (e : Y.b = X.b) (ex : X.b = base) : [addE 1 X Y, addE (-1) X Y, addE (-1) Y X, mulE X Y, mulE Y X, negE X, absE X, addE 1 X (ofI X.b n), addE 1 (ofI X.b n) X, addE (-1) X (ofI X.b n), addE (-1) (ofI X.b n) X, mulE X (ofI X.b n), mulE (ofI X.b n) X]
    = [addE 1 X Y, addE (-1) X Y, negE (addE (-1) X Y), mulE X Y, mulE X Y, negE X, absE X, addE 1 X ⟨base, n, 0⟩, addE 1 X ⟨base, n, 0⟩, addE (-1) X ⟨base, n, 0⟩, negE (addE (-1) X ⟨base, n, 0⟩), mulE X ⟨base, n, 0⟩, mulE X ⟨base, n, 0⟩] := by
  subst ex
  have en : (ofI X.b n).b = X.b := ofI_b _ _
  rw [sub_swap lx.b2 lx.b36 e, mul_comm1 e, add_comm1 en, sub_swap lx.b2 lx.b36 en, mul_comm1 en]
  unfold ofI
  rw [add_nrm_r 1 n 0 lx.b2, add_nrm_r (-1) n 0 lx.b2, mul_nrm_r n 0 lx.b2]
theorem low_abs' {X : EN} (h : Low X) : Low (absE X) := low_abs h
theorem fur_ok {base n q00 q01 p0 p1 q10 q11 q20 q21 : Int} {s t u f0 f1 f2 f3 pp : EN} (sb : s.b = base) (h2 : 2 ≤ base) (h6 : base ≤ 36) (h0 : (⟨base, q00, q01⟩ : EN) = addE 1 s t) (hp : (⟨base, p0, p1⟩ : EN) = mulE s t)
    (h1 : (⟨base, q10, q11⟩ : EN) = addE (-1) ⟨base, n, 0⟩ (mulE s t)) (h3 : (⟨base, q20, q21⟩ : EN) = addE (-1) s u) (e0 : f0 = addE 1 s t) (e1 : f1 = mulE s t) (ep : pp = mulE s t) (e2 : f2 = addE (-1) (ofI pp.b n) pp) (e3 : f3 = addE (-1) s u) :
    [f0, f1, f2, f3] = [(q00, q01), (p0, p1), (q10, q11), (q20, q21)].map fun p => nrm base p.1 p.2 := by
  subst sb
  have pb : (mulE s t).b = s.b := mulE_b _ _
  have l1 : Low (addE (-1) ⟨s.b, n, 0⟩ (mulE s t)) := low_add h2 h6
  simp only [List.map]
  rw [due_ok h0 (low_add h2 h6), due_ok hp (low_mul h2 h6), due_ok h1 l1, due_ok h3 (low_add h2 h6), e0, e1, e2, e3, ep]
  unfold ofI
  rw [add_nrm_l (-1) n 0 (by rw [pb]; exact h2), pb]

/-- how many digits -/
def IsDg (b c r : Int) : Prop := (c = 0 ∧ r = 0) ∨ (c ≠ 0 ∧ 1 ≤ r ∧ b ^ (r - 1).toNat ≤ (c.natAbs : Int) ∧ (c.natAbs : Int) < b ^ r.toNat)
theorem dg_le {b c r : Int} {n : Nat} (hb : 2 ≤ b) (h : IsDg b c r) (hz : Sz n c) : 0 ≤ r ∧ r ≤ n := by
  rcases h with ⟨_, rfl⟩ | ⟨hc, h1, h2, h3⟩
  · omega
  · have q := pow_lt_sz (x := (c.natAbs : Int)) (n := n) (Int.le_trans (two_pow_le hb _) h2) (by unfold Sz at *; omega)
    omega
/-- count_digits' loop -/
def Cd (b a : Int) (m : Nat) (x cn : Int) : Prop := 1 ≤ x ∧ x < b ^ (2 ^ m) ∧ ∃ j : Nat, cn = 1 + j ∧ b ^ j * x ≤ a ∧ a < b ^ j * (x + 1)
theorem Cd.init {b a : Int} {n : Nat} (h1 : 1 ≤ a) (h2 : a < b ^ (2 ^ n)) : Cd b a n a 1 := ⟨h1, h2, 0, by simp, by simp, by simp; omega⟩
theorem Cd.yes {b a x cn p : Int} {m : Nat} (hb : 2 ≤ b) (h : Cd b a (m + 1) x cn) (g : b ^ (2 ^ m) ≤ x) (hp : p = 2 ^ m) : Cd b a m (x / b ^ (2 ^ m)) (cn + p) := by
  obtain ⟨h1, h2, j, e, h3, h4⟩ := h
  have q1 := pow_pos' hb (2 ^ m)
  rw [Nat.pow_succ, Nat.mul_two, Int.pow_add] at h2
  have d1 := Int.mul_ediv_add_emod x (b ^ (2 ^ m))
  have d2 := Int.emod_nonneg x (show b ^ (2 ^ m) ≠ 0 by omega)
  have d3 := Int.emod_lt_of_pos x (show 0 < b ^ (2 ^ m) by omega)
  have qj := pow_pos' hb j
  refine ⟨(Int.le_ediv_iff_mul_le (by omega)).mpr (by omega), Int.ediv_lt_of_lt_mul (by omega) h2, j + 2 ^ m, by rw [e, hp]; simp; omega, ?_, ?_⟩
  · rw [Int.pow_add, Int.mul_assoc]
    exact Int.le_trans (Int.mul_le_mul_of_nonneg_left (by omega) (by omega)) h3
  · rw [Int.pow_add, Int.mul_assoc]
    refine Int.lt_of_lt_of_le h4 (Int.mul_le_mul_of_nonneg_left ?_ (by omega))
    rw [Int.mul_add, Int.mul_one]
    omega
theorem Cd.no {b a x cn : Int} {m : Nat} (h : Cd b a (m + 1) x cn) (g : ¬ x ≥ b ^ (2 ^ m)) : Cd b a m x cn := ⟨h.1, by omega, h.2.2⟩
theorem Cd.done {b c x cn : Int} {m : Nat} (hb : 2 ≤ b) (hc : c ≠ 0) (h : Cd b (if c < 0 then -c else c) m x cn) (hm : m = 0) : IsDg b c cn := by
  subst hm
  obtain ⟨h1, h2, j, e, h3, h4⟩ := h
  rw [Nat.pow_zero, Int.pow_one] at h2
  have ea : (if c < 0 then -c else c) = (c.natAbs : Int) := by split <;> omega
  rw [ea] at h3 h4
  have qj := pow_pos' hb j
  refine .inr ⟨hc, by omega, ?_, ?_⟩
  · rw [show (cn - 1).toNat = j by omega]
    have := Int.mul_le_mul_of_nonneg_left h1 (show 0 ≤ b ^ j by omega)
    omega
  · rw [show cn.toNat = j + 1 by omega, Int.pow_succ]
    exact Int.lt_of_lt_of_le h4 (Int.mul_le_mul_of_nonneg_left (by omega) (by omega))

/-- rounded at the unit u -/
def rnd (x : EN) (u : Int) (m : Str) : EN := if x.e < u then nrm x.b (rq x.c (x.b ^ (u - x.e).toNat) m) u else x
def RdN (p : Int) (x : EN) (m : Str) (r : EN) : Prop := (x.c = 0 ∧ r = x) ∨ (x.c ≠ 0 ∧ ∃ u, IsDg x.b x.c (u + p - x.e) ∧ r = rnd x u m)
def RdB (p o : Int) (x : EN) (m : Str) (r : EN) : Prop := (x.c = 0 ∧ r = x) ∨ (x.c ≠ 0 ∧ ∃ u, IsDg x.b x.c (u + p - x.e) ∧ r = rnd x (max u o) m)
theorem dg_pow {b c r : Int} {n k : Nat} (hb : 2 ≤ b) (h : IsDg b c r) (hc : c ≠ 0) (hz : Sz n c) (hk : (k : Int) ≤ r - 1) : Sz n (b ^ k) := by
  rcases h with ⟨q, _⟩ | ⟨_, h1, h2, h3⟩
  · exact absurd q hc
  · have q := pow_pos' hb k
    have := pow_le' hb (m := k) (n := (r - 1).toNat) (by omega)
    exact hz.le (by omega)
/-- a grid without borders; with a bottom -/
structure GN where
  b : Int
  p : Int
structure GB where
  b : Int
  p : Int
  o : Int
def gnF (x : GN) : List (Str × V) := putF "top" .non (putF "bottom" .non (putF "precision" (.int x.p) (putF "base" (.int x.b) [])))
def gbF (x : GB) : List (Str × V) := putF "top" .non (putF "bottom" (.int x.o) (putF "precision" (.int x.p) (putF "base" (.int x.b) [])))

theorem at_getS {xs : List Str} {q : Int} (h0 : 0 ≤ q) (h1 : q < xs.length) : atI (xs.map V.str) q = some (V.str (xs.getD q.toNat "")) := by
  obtain ⟨n, rfl⟩ := Int.eq_ofNat_of_zero_le h0
  have hn : n < xs.length := by omega
  refine atI_nat ?_
  rw [List.getElem?_map, List.getD_eq_getElem?_getD, Int.toNat_natCast, List.getElem?_eq_getElem hn]
  rfl
theorem getS_mem {xs : List Str} {q : Int} (h0 : 0 ≤ q) (h1 : q < xs.length) : xs.getD q.toNat "" ∈ xs := by
  have hn : q.toNat < xs.length := by omega
  rw [List.getD_eq_getElem?_getD, List.getElem?_eq_getElem hn]
  exact List.getElem_mem hn

theorem pow_lt_inv {b : Int} (hb : 2 ≤ b) {m n : Nat} {x : Int} (h1 : b ^ m ≤ x) (h2 : x < b ^ n) : m < n := by
  rcases Nat.lt_or_ge m n with h | h
  · exact h
  · have := pow_le' hb h; omega
theorem rq_le {X T D : Int} {m : Str} (hd : 0 < D) (h : X ≤ T * D) : rq X D m ≤ T := by
  have l := (rq_low (n := X) (m := m) hd).2
  have h1 := Int.emod_nonneg X (by omega : D ≠ 0)
  have h3 := Int.mul_ediv_add_emod X D
  have h4 : X / D ≤ T := by
    have := Int.ediv_le_ediv hd h
    rwa [Int.mul_ediv_cancel _ (by omega)] at this
  split at l
  · omega
  · rename_i z
    have : X / D ≠ T := by
      intro e
      rw [e, Int.mul_comm] at h3
      omega
    omega
theorem rq_ge {X T D : Int} {m : Str} (hd : 0 < D) (h : T * D ≤ X) : T ≤ rq X D m :=
  Int.le_trans (Int.le_ediv_of_mul_le hd h) (rq_low (n := X) (m := m) hd).1
theorem rq_ex {T D : Int} {m : Str} (hd : 0 < D) : rq (T * D) D m = T := Int.le_antisymm (rq_le hd (Int.le_refl _)) (rq_ge hd (Int.le_refl _))
/-- digits of an integer -/
def Dg (b X : Int) (g : Nat) : Prop := 1 ≤ g ∧ b ^ (g - 1) ≤ (X.natAbs : Int) ∧ (X.natAbs : Int) < b ^ g
theorem Dg.one {b X : Int} {g h : Nat} (hb : 2 ≤ b) (d : Dg b X g) (e : Dg b X h) : g = h := by
  have := pow_lt_inv hb d.2.1 e.2.2
  have := pow_lt_inv hb e.2.1 d.2.2
  have := d.1; have := e.1
  omega
def RI (b : Int) (p w : Nat) (X : Int) (m : Str) (R : Int) : Prop := (X = 0 ∧ R = 0) ∨ ∃ g : Nat, X ≠ 0 ∧ Dg b X g ∧ R = rq X (b ^ max (g - p) w) m * b ^ max (g - p) w
def NI (b : Int) (p w : Nat) (R : Int) : Prop := R = 0 ∨ ∃ (q : Int) (j : Nat), R = q * b ^ j ∧ (q.natAbs : Int) < b ^ p ∧ w ≤ j
theorem ri_fun {b X R R' : Int} {p w : Nat} {m : Str} (hb : 2 ≤ b) (h : RI b p w X m R) (h' : RI b p w X m R') : R = R' := by
  rcases h with ⟨h0, rfl⟩ | ⟨g, h0, hg, rfl⟩
  · rcases h' with ⟨_, rfl⟩ | ⟨g, h1, _⟩
    · rfl
    · exact absurd h0 h1
  · rcases h' with ⟨h1, _⟩ | ⟨g', h1, hg', rfl⟩
    · exact absurd h1 h0
    · rw [hg.one hb hg']
theorem ri_num {b X R : Int} {p w : Nat} {m : Str} (hb : 2 ≤ b) (hp : 1 ≤ p) (h : RI b p w X m R) : NI b p w R := by
  rcases h with ⟨h0, rfl⟩ | ⟨g, h0, hg, rfl⟩
  · exact .inl rfl
  · have hD := pow_pos' hb (max (g - p) w)
    have hle : b ^ g ≤ b ^ p * b ^ max (g - p) w := by
      rw [← Int.pow_add]
      exact pow_le' hb (by omega)
    have h1 : rq X (b ^ max (g - p) w) m ≤ b ^ p := rq_le (by omega) (by have := hg.2.2; omega)
    have h2 : -(b ^ p) ≤ rq X (b ^ max (g - p) w) m := rq_ge (by omega) (by rw [Int.neg_mul]; have := hg.2.2; omega)
    have hp1 : (1 : Int) < b ^ p := by
      have := pow_le' hb hp
      rw [Int.pow_one] at this; omega
    by_cases e1 : rq X (b ^ max (g - p) w) m = b ^ p
    · refine .inr ⟨1, p + max (g - p) w, by rw [e1, Int.pow_add, Int.one_mul], by simpa using hp1, by omega⟩
    · by_cases e2 : rq X (b ^ max (g - p) w) m = -(b ^ p)
      · refine .inr ⟨-1, p + max (g - p) w, by rw [e2, Int.pow_add, Int.neg_mul, Int.neg_mul, Int.one_mul], by simpa using hp1, by omega⟩
      · exact .inr ⟨_, _, rfl, by omega, by omega⟩
theorem ri_stay {b X R : Int} {p w : Nat} {m : Str} (hb : 2 ≤ b) (n : NI b p w X) (h : RI b p w X m R) : R = X := by
  rcases h with ⟨h0, rfl⟩ | ⟨g, h0, hg, rfl⟩
  · exact h0.symm
  · rcases n with n | ⟨q, j, e, hq, hw⟩
    · exact absurd n h0
    · have hj := pow_pos' hb j
      have hlt : (X.natAbs : Int) < b ^ (p + j) := by
        rw [e, Int.natAbs_mul, Int.natCast_mul, Int.pow_add]
        have e2 : ((b ^ j).natAbs : Int) = b ^ j := by omega
        rw [e2]
        exact Int.mul_lt_mul_of_pos_right hq (by omega)
      have hg1 := pow_lt_inv hb hg.2.1 hlt
      have hk : j = (j - max (g - p) w) + max (g - p) w := by have := hg.1; omega
      have e3 : X = (q * b ^ (j - max (g - p) w)) * b ^ max (g - p) w := by
        rw [Int.mul_assoc, ← Int.pow_add, ← hk]; exact e
      have e4 : rq X (b ^ max (g - p) w) m = q * b ^ (j - max (g - p) w) := by
        conv => lhs; rw [e3]
        exact rq_ex (by have := pow_pos' hb (max (g - p) w); omega)
      rw [e4]; exact e3.symm
theorem rq_gap {X D : Int} (m : Str) (hd : 0 < D) : ((X - rq X D m * D).natAbs : Int) < D ∧ (m ∈ near5 → 2 * ((X - rq X D m * D).natAbs : Int) ≤ D) := by
  have h1 := Int.emod_nonneg X (by omega : D ≠ 0)
  have h2 := Int.emod_lt_of_pos X hd
  have h3 := Int.mul_ediv_add_emod X D
  rw [rq_eq m hd]
  split
  · rename_i z
    rw [Int.mul_comm] at h3
    have : X - X / D * D = 0 := by omega
    rw [this]; exact ⟨by simpa using hd, fun _ => by simp; omega⟩
  · rename_i z
    rw [Int.mul_comm] at h3
    split
    · rename_i u
      have e : X - (X / D + 1) * D = X % D - D := by rw [Int.add_mul, Int.one_mul]; omega
      rw [e]
      refine ⟨by omega, fun hm => ?_⟩
      unfold UU at u
      rw [if_neg (by simpa using hm)] at u
      split at u
      · omega
      · have := of_decide_eq_true u; omega
    · rename_i u
      have e : X - X / D * D = X % D := by omega
      rw [e]
      refine ⟨by omega, fun hm => ?_⟩
      unfold UU at u
      rw [if_neg (by simpa using hm)] at u
      split at u
      · omega
      · have : ¬ D < 2 * (X % D) := fun q => u (decide_eq_true q)
        omega
theorem ri_side {b X R T : Int} {p w g : Nat} {m : Str} (hb : 2 ≤ b) (h : RI b p w X m R) (hg : X ≠ 0 → Dg b X g) (t : Int) (hT : X ≠ 0 → T = t * b ^ max (g - p) w) : (X ≤ T → X ≠ 0 → R ≤ T) ∧ (T ≤ X → X ≠ 0 → T ≤ R) := by
  rcases h with ⟨h0, rfl⟩ | ⟨g', h0, hg', rfl⟩
  · exact ⟨fun _ h => absurd h0 h, fun _ h => absurd h0 h⟩
  · have e := hg'.one hb (hg h0)
    subst e
    have hD := pow_pos' hb (max (g' - p) w)
    have eT := hT h0
    constructor
    · intro l _
      rw [eT] at l ⊢
      exact Int.mul_le_mul_of_nonneg_right (rq_le (by omega) l) (by omega)
    · intro l _
      rw [eT] at l ⊢
      exact Int.mul_le_mul_of_nonneg_right (rq_ge (by omega) l) (by omega)
theorem ri_sign {b X R : Int} {p w : Nat} {m : Str} (hb : 2 ≤ b) (h : RI b p w X m R) : (0 ≤ X → 0 ≤ R) ∧ (X ≤ 0 → R ≤ 0) := by
  rcases id h with ⟨h0, rfl⟩ | ⟨g, h0, hg, _⟩
  · exact ⟨fun _ => Int.le_refl _, fun _ => Int.le_refl _⟩
  · have q := ri_side (T := 0) hb h (fun _ => hg) 0 (fun _ => by rw [Int.zero_mul])
    exact ⟨fun l => q.2 l h0, fun l => q.1 l h0⟩
theorem pow_split {b : Int} {j k : Nat} (h : k ≤ j) : b ^ j = b ^ (j - k) * b ^ k := by
  rw [← Int.pow_add]; congr 1; omega
theorem ri_mono {b X Y R S : Int} {p w : Nat} {m : Str} (hb : 2 ≤ b) (hp : 1 ≤ p) (hm : m ∈ modes9) (h : RI b p w X m R) (h' : RI b p w Y m S) (l : X ≤ Y) : R ≤ S := by
  by_cases x0 : X ≤ 0 ∧ 0 ≤ Y
  · have := (ri_sign hb h).2 x0.1
    have := (ri_sign hb h').1 x0.2
    omega
  · rcases id h with ⟨q, _⟩ | ⟨g, xz, hg, eR⟩
    · omega
    · rcases id h' with ⟨q, _⟩ | ⟨f, yz, hf, eS⟩
      · omega
      · by_cases ek : max (g - p) w = max (f - p) w
        · have hD := pow_pos' hb (max (f - p) w)
          have q := rq_mono (n := X) (s := Y - X) (d := b ^ max (f - p) w) (m := m) (by omega) hm (by omega)
          rw [show X + (Y - X) = Y by omega] at q
          rw [eR, eS, ek]
          exact Int.mul_le_mul_of_nonneg_right q (by omega)
        · rcases Int.lt_or_le X 0 with hx | hx
          · -- both below zero
            have hfg : f ≤ g := by
              have := pow_lt_inv hb hf.2.1 (show ((Y.natAbs : Nat) : Int) < b ^ g by have := hg.2.2; omega)
              have := hf.1; omega
            have g1 := hg.1
            have hT1 : -(b ^ (g - 1)) = (-(b ^ (g - 1 - max (g - p) w))) * b ^ max (g - p) w := by rw [Int.neg_mul, ← pow_split (by omega)]
            have hT2 : -(b ^ (g - 1)) = (-(b ^ (g - 1 - max (f - p) w))) * b ^ max (f - p) w := by rw [Int.neg_mul, ← pow_split (by omega)]
            have a1 := (ri_side hb h (fun _ => hg) _ (fun _ => hT1)).1 (by have := hg.2.1; omega) xz
            have hlt : b ^ f ≤ b ^ (g - 1) := pow_le' hb (by omega)
            have a2 := (ri_side hb h' (fun _ => hf) _ (fun _ => hT2)).2 (by have := hf.2.2; omega) yz
            omega
          · have hgf : g ≤ f := by
              have := pow_lt_inv hb hg.2.1 (show ((X.natAbs : Nat) : Int) < b ^ f by have := hf.2.2; omega)
              have := hg.1; omega
            have f1 := hf.1
            have hT1 : b ^ (f - 1) = b ^ (f - 1 - max (g - p) w) * b ^ max (g - p) w := pow_split (by omega)
            have hT2 : b ^ (f - 1) = b ^ (f - 1 - max (f - p) w) * b ^ max (f - p) w := pow_split (by omega)
            have hlt : b ^ g ≤ b ^ (f - 1) := pow_le' hb (by omega)
            have a1 := (ri_side hb h (fun _ => hg) _ (fun _ => hT1)).1 (by have := hg.2.2; omega) xz
            have a2 := (ri_side hb h' (fun _ => hf) _ (fun _ => hT2)).2 (by have := hf.2.1; omega) yz
            omega
theorem ri_neg {b X R : Int} {p w : Nat} {m : Str} (hb : 2 ≤ b) (hm : m ∈ modes9) (h : RI b p w X m R) : RI b p w (-X) (mir9 m) (-R) := by
  rcases h with ⟨rfl, rfl⟩ | ⟨g, xz, hg, rfl⟩
  · exact .inl ⟨rfl, rfl⟩
  · refine .inr ⟨g, by omega, ⟨hg.1, by rw [Int.natAbs_neg]; exact hg.2.1, by rw [Int.natAbs_neg]; exact hg.2.2⟩, ?_⟩
    have := rq_neg (n := X) (d := b ^ max (g - p) w) (m := m) (by have := pow_pos' hb (max (g - p) w); omega) hm
    rw [Int.zero_sub, Int.zero_sub] at this
    rw [this, Int.neg_mul]
/-- the value over base ^ -200 -/
def Vl (b : Int) (x : EN) : Int := x.c * b ^ (x.e + 200).toNat
structure Gb (b : Int) (N : Nat) (x : EN) : Prop where
  eb : x.b = b
  lo : -160 ≤ x.e
  hi : x.e ≤ 800
  vl : ((Vl b x).natAbs : Int) < b ^ N
theorem Vl_nrm {b c e : Int} (hb : 2 ≤ b) (h : -200 ≤ e) : Vl b (nrm b c e) = c * b ^ (e + 200).toNat := by
  by_cases hc : c = 0
  · rw [hc, nrm_zero]; unfold Vl; rw [Int.zero_mul, Int.zero_mul]
  · obtain ⟨i1, i2⟩ := strip_ok hb c.natAbs c hc (Nat.le_refl _)
    rw [nrm_of (e := e) hb hc i1 i2]
    unfold Vl
    dsimp only
    rw [show (e + ((strip b c.natAbs c).2 : Int) + 200).toNat = (strip b c.natAbs c).2 + (e + 200).toNat by omega, Int.pow_add, ← Int.mul_assoc, ← i1]
theorem Vl_low {b : Int} {x : EN} (hx : Low x) (eb : x.b = b) (h : -200 ≤ x.e) : x = nrm b (Vl b x) (-200) := by
  subst eb
  unfold Vl
  rw [nrm_shift hx.b2, show -200 + ((x.e + 200).toNat : Int) = x.e by omega, nrm_low hx]
theorem Vl_inj {b : Int} {x y : EN} (hx : Low x) (hy : Low y) (ex : x.b = b) (ey : y.b = b) (lx : -200 ≤ x.e) (ly : -200 ≤ y.e) (h : Vl b x = Vl b y) : x = y := by
  rw [Vl_low hx ex lx, Vl_low hy ey ly, h]
theorem vl_sgn {b : Int} (hb : 2 ≤ b) (x : EN) : (Vl b x < 0 ↔ x.c < 0) ∧ (0 < Vl b x ↔ 0 < x.c) ∧ (Vl b x = 0 ↔ x.c = 0) := by
  have hp := pow_pos' hb (x.e + 200).toNat
  have h1 : 0 < x.c → 0 < Vl b x := fun h => Int.mul_pos h (by omega)
  have h2 : x.c < 0 → Vl b x < 0 := fun h => Int.mul_neg_of_neg_of_pos h (by omega)
  have h3 : x.c = 0 → Vl b x = 0 := fun h => by unfold Vl; rw [h, Int.zero_mul]
  refine ⟨⟨fun h => ?_, h2⟩, ⟨fun h => ?_, h1⟩, ⟨fun h => ?_, h3⟩⟩ <;> rcases Int.lt_trichotomy x.c 0 with q | q | q <;> (try have := h1 q) <;> (try have := h2 q) <;> (try have := h3 q) <;> omega
theorem nrm_lo {b c e l : Int} (hb : 2 ≤ b) (h : l ≤ e) (l0 : l ≤ 0) : l ≤ (nrm b c e).e := by
  by_cases hc : c = 0
  · rw [hc, nrm_zero]; exact l0
  · obtain ⟨i1, i2⟩ := strip_ok hb c.natAbs c hc (Nat.le_refl _)
    rw [nrm_of (e := e) hb hc i1 i2]
    show l ≤ e + _
    omega
theorem low_hi {b : Int} {N : Nat} {x : EN} (hb : 2 ≤ b) (hx : Low x) (h : -200 ≤ x.e) (hN : N ≤ 1000) (v : ((Vl b x).natAbs : Int) < b ^ N) : x.e ≤ 800 := by
  by_cases hc : x.c = 0
  · rw [hx.z hc]; decide
  · have hp := pow_pos' hb (x.e + 200).toNat
    have h1 : b ^ (x.e + 200).toNat ≤ ((Vl b x).natAbs : Int) := by
      unfold Vl
      rw [Int.natAbs_mul, Int.natCast_mul]
      have e : ((b ^ (x.e + 200).toNat).natAbs : Int) = b ^ (x.e + 200).toNat := by omega
      rw [e]
      have := Int.mul_le_mul_of_nonneg_right (show (1 : Int) ≤ (x.c.natAbs : Int) by omega) (show 0 ≤ b ^ (x.e + 200).toNat by omega)
      omega
    have := pow_lt_inv hb h1 v
    omega
theorem Gb.of {b : Int} {N : Nat} {x : EN} (hb : 2 ≤ b) (hx : Low x) (eb : x.b = b) (h : -160 ≤ x.e) (hN : N ≤ 1000) (v : ((Vl b x).natAbs : Int) < b ^ N) : Gb b N x := ⟨eb, h, low_hi hb hx (by omega) hN v, v⟩
theorem Gb.mono {b : Int} {N M : Nat} {x : EN} (hb : 2 ≤ b) (h : Gb b N x) (l : N ≤ M) : Gb b M x := ⟨h.eb, h.lo, h.hi, Int.lt_of_lt_of_le h.vl (pow_le' hb l)⟩
theorem Gb.nr {b c e : Int} {N : Nat} (hb : 2 ≤ b) (h6 : b ≤ 36) (h : Gb b N ⟨b, c, e⟩) (hN : N ≤ 1000) : Gb b N (nrm b c e) ∧ Vl b (nrm b c e) = Vl b ⟨b, c, e⟩ := by
  have l : -160 ≤ e := h.lo
  have q : Vl b (nrm b c e) = Vl b ⟨b, c, e⟩ := Vl_nrm hb (by omega)
  exact ⟨Gb.of hb (low_nrm hb h6) (nrm_b _ _ _) (nrm_lo hb l (by decide)) hN (by rw [q]; exact h.vl), q⟩
theorem Vl_add {b s : Int} {x y : EN} (hb : 2 ≤ b) (ex : x.b = b) (hx : -200 ≤ x.e) (hy : -200 ≤ y.e) : Vl b (addE s x y) = Vl b x + s * Vl b y := by
  subst ex
  rw [← add_at s (m := -200) hb hx hy, Vl_nrm hb (by decide)]
  rw [show ((-200 : Int) + 200).toNat = 0 from rfl, Int.pow_zero, Int.mul_one]
  unfold Vl
  rw [show (x.e - -200).toNat = (x.e + 200).toNat by omega, show (y.e - -200).toNat = (y.e + 200).toNat by omega]
theorem pow_two_le {b : Int} (hb : 2 ≤ b) (N : Nat) : b ^ N + b ^ N ≤ b ^ (N + 1) := by
  rw [Int.pow_succ]
  have := pow_pos' hb N
  have := Int.mul_le_mul_of_nonneg_left hb (show 0 ≤ b ^ N by omega)
  omega
theorem Gb.add {b s : Int} {N : Nat} {x y : EN} (hb : 2 ≤ b) (h6 : b ≤ 36) (hs : s = 1 ∨ s = -1) (hx : Gb b N x) (hy : Gb b N y) (hN : N ≤ 999) : Gb b (N + 1) (addE s x y) ∧ Vl b (addE s x y) = Vl b x + s * Vl b y := by
  have lx := hx.lo; have ly := hy.lo
  have q := Vl_add (s := s) hb hx.eb (by omega : -200 ≤ x.e) (by omega : -200 ≤ y.e)
  have eb := hx.eb
  refine ⟨Gb.of hb (low_nrm (by omega) (by omega)) (by rw [addE_b, eb]) ?_ (by omega) ?_, q⟩
  · unfold addE
    exact nrm_lo (by omega) (by omega) (by decide)
  · rw [q]
    have := pow_two_le hb N
    have := hx.vl; have := hy.vl
    rcases hs with rfl | rfl <;> omega
theorem Gb.sz {b : Int} {N : Nat} {x : EN} (hb : 2 ≤ b) (h6 : b ≤ 36) (h : Gb b N x) : Sz (6 * N + 1) x.c ∧ Bd 200 (6 * N + 1) x := by
  have lo := h.lo
  have hz : Sz (6 * N + 1) (Vl b x) := (Sz.pow36 hb h6 N).le (by have := h.vl; have := pow_pos' hb N; omega)
  have hB : Bd 200 (6 * N + 1) x := ⟨by omega, by rw [h.eb]; exact hz⟩
  exact ⟨hB.c0 (by rw [h.eb]; exact hb), hB⟩
theorem Gb.ad {b : Int} {N : Nat} {x y : EN} (hb : 2 ≤ b) (h6 : b ≤ 36) (h : Gb b N x) (h' : Gb b N y) (hN : N ≤ 1000) : Ad x y :=
  ⟨by rw [h.eb, h'.eb], 200, 6 * N + 1, by omega, (h.sz hb h6).2, (h'.sz hb h6).2⟩

theorem rnd_V {b u : Int} {x : EN} (m : Str) (hb : 2 ≤ b) (eb : x.b = b) (he : -200 ≤ x.e) (hu : -200 ≤ u) : Vl b (rnd x u m) = rq (Vl b x) (b ^ (u + 200).toNat) m * b ^ (u + 200).toNat := by
  subst eb
  unfold rnd
  split
  · rename_i h
    rw [Vl_nrm hb hu]
    have e : (u + 200).toNat = (u - x.e).toNat + (x.e + 200).toNat := by omega
    have p1 := pow_pos' hb (u - x.e).toNat
    have p2 := pow_pos' hb (x.e + 200).toNat
    have : rq (Vl x.b x) (x.b ^ (u + 200).toNat) m = rq x.c (x.b ^ (u - x.e).toNat) m := by
      unfold Vl
      rw [e, Int.pow_add]
      exact rq_scale m (by omega) (by omega)
    rw [this]
  · rename_i h
    have e : Vl x.b x = (x.c * x.b ^ ((x.e + 200).toNat - (u + 200).toNat)) * x.b ^ (u + 200).toNat := by
      unfold Vl
      rw [Int.mul_assoc, ← Int.pow_add]
      congr 2; omega
    have p2 := pow_pos' hb (u + 200).toNat
    rw [e, rq_ex (by omega)]
theorem rnd_low {x : EN} {u : Int} {m : Str} (h : Low x) : Low (rnd x u m) := by
  unfold rnd
  split
  · exact low_nrm h.b2 h.b36
  · exact h
theorem rnd_b (x : EN) (u : Int) (m : Str) : (rnd x u m).b = x.b := by
  unfold rnd
  split
  · exact nrm_b _ _ _
  · rfl
theorem rnd_lo {x : EN} {u l : Int} {m : Str} (hb : 2 ≤ x.b) (h : l ≤ x.e) (l0 : l ≤ 0) : l ≤ (rnd x u m).e := by
  unfold rnd
  split
  · exact nrm_lo hb (by omega) l0
  · exact h
theorem dg_vl {b d : Int} {x : EN} (hb : 2 ≤ b) (he : -200 ≤ x.e) (h : IsDg b x.c d) (hc : x.c ≠ 0) : 1 ≤ d ∧ Dg b (Vl b x) (d.toNat + (x.e + 200).toNat) := by
  rcases h with ⟨q, _⟩ | ⟨_, h1, h2, h3⟩
  · exact absurd q hc
  · have p2 := pow_pos' hb (x.e + 200).toNat
    have e : ((Vl b x).natAbs : Int) = (x.c.natAbs : Int) * b ^ (x.e + 200).toNat := by
      unfold Vl
      rw [Int.natAbs_mul, Int.natCast_mul]
      congr 1; omega
    refine ⟨h1, by omega, ?_, ?_⟩
    · rw [e, show d.toNat + (x.e + 200).toNat - 1 = (d - 1).toNat + (x.e + 200).toNat by omega, Int.pow_add]
      exact Int.mul_le_mul_of_nonneg_right h2 (by omega)
    · rw [e, Int.pow_add]
      exact Int.mul_lt_mul_of_pos_right h3 (by omega)
theorem dg_one {b c r r' : Int} (hb : 2 ≤ b) (h : IsDg b c r) (h' : IsDg b c r') : r = r' := by
  rcases h with ⟨q, rfl⟩ | ⟨q, h1, h2, h3⟩
  · rcases h' with ⟨_, rfl⟩ | ⟨q', _⟩
    · rfl
    · exact absurd q q'
  · rcases h' with ⟨q', _⟩ | ⟨q', h1', h2', h3'⟩
    · exact absurd q' q
    · have := pow_lt_inv hb h2 h3'
      have := pow_lt_inv hb h2' h3
      omega
def wO : Option Int → Nat
  | none => 0
  | some o => (o + 200).toNat
def Rd (p : Int) : Option Int → EN → Str → EN → Prop
  | none, x, m, r => RdN p x m r
  | some o, x, m, r => RdB p o x m r
def uO : Option Int → Int → Int
  | none, u => u
  | some o, u => max u o
def Un (p : Int) (o : Option Int) (x : EN) (u : Int) : Prop := ∃ u0, IsDg x.b x.c (u0 + p - x.e) ∧ u = uO o u0
def oOk : Option Int → Prop
  | none => True
  | some o => -20 ≤ o ∧ o ≤ 20
theorem rd_cases {p : Int} {o : Option Int} {x r : EN} {m : Str} (h : Rd p o x m r) : (x.c = 0 ∧ r = x) ∨ (x.c ≠ 0 ∧ ∃ u, Un p o x u ∧ r = rnd x u m) := by
  cases o with
  | none =>
    rcases h with h | ⟨h1, u, h2, h3⟩
    · exact .inl h
    · exact .inr ⟨h1, u, ⟨u, h2, rfl⟩, h3⟩
  | some o =>
    rcases h with h | ⟨h1, u, h2, h3⟩
    · exact .inl h
    · exact .inr ⟨h1, max u o, ⟨u, h2, rfl⟩, h3⟩
theorem un_w {b p u : Int} {o : Option Int} {x : EN} (hb : 2 ≤ b) (eb : x.b = b) (he : -160 ≤ x.e) (hp : 1 ≤ p ∧ p ≤ 40) (ho : oOk o) (hc : x.c ≠ 0) (h : Un p o x u) : -200 ≤ u ∧ ∃ g, Dg b (Vl b x) g ∧ (u + 200).toNat = max (g - p.toNat) (wO o) := by
  obtain ⟨u0, hd, hu⟩ := h
  rw [eb] at hd
  obtain ⟨d1, dg⟩ := dg_vl hb (by omega) hd hc
  cases o with
  | none =>
    simp only [uO] at hu
    refine ⟨by omega, _, dg, ?_⟩
    simp only [wO]
    omega
  | some o =>
    simp only [uO] at hu
    simp only [oOk] at ho
    refine ⟨by omega, _, dg, ?_⟩
    simp only [wO]
    omega
theorem wO_le {o : Option Int} (ho : oOk o) : wO o ≤ 220 := by
  cases o with
  | none => exact Nat.zero_le _
  | some o => simp only [wO]; simp only [oOk] at ho; omega
theorem rd_ri {b p : Int} {o : Option Int} {x r : EN} {m : Str} {N : Nat} (hb : 2 ≤ b) (hp : 1 ≤ p ∧ p ≤ 40) (ho : oOk o) (hx : Low x) (g : Gb b N x) (h1 : 220 ≤ N) (hN : N ≤ 999) (h : Rd p o x m r) :
    RI b p.toNat (wO o) (Vl b x) m (Vl b r) ∧ Low r ∧ Gb b (N + 1) r := by
  rcases rd_cases h with ⟨hc, rfl⟩ | ⟨hc, u, hu, rfl⟩
  · have z := (vl_sgn hb r).2.2.mpr hc
    exact ⟨.inl ⟨z, z⟩, hx, g.mono hb (by omega)⟩
  · have lo := g.lo
    obtain ⟨hu2, d, hd, hw⟩ := un_w hb g.eb lo hp ho hc hu
    have hV := rnd_V m hb g.eb (by omega) hu2 (x := x)
    have xz : Vl b x ≠ 0 := fun q => hc ((vl_sgn hb x).2.2.mp q)
    refine ⟨.inr ⟨d, xz, hd, by rw [hV, hw]⟩, rnd_low hx, ?_⟩
    refine Gb.of hb (rnd_low hx) (by rw [rnd_b, g.eb]) (rnd_lo (by rw [g.eb]; exact hb) lo (by decide)) (by omega) ?_
    have hdN := pow_lt_inv hb hd.2.1 g.vl
    have hwl := wO_le ho
    have hK : (u + 200).toNat ≤ N := by omega
    have hD := pow_pos' hb (u + 200).toNat
    have q := (rq_gap (X := Vl b x) (D := b ^ (u + 200).toNat) m (by omega)).1
    rw [← hV] at q
    have := pow_le' hb hK
    have := pow_two_le hb N
    have := g.vl
    omega
theorem ni_iff {b : Int} {p w : Nat} {z : EN} (hb : 2 ≤ b) (hz : Low z) (eb : z.b = b) (he : -200 ≤ z.e) : NI b p w (Vl b z) ↔ z.c = 0 ∨ ((z.c.natAbs : Int) < b ^ p ∧ w ≤ (z.e + 200).toNat) := by
  constructor
  · rintro (h | ⟨q, j, e, hq, hw⟩)
    · exact .inl ((vl_sgn hb z).2.2.mp h)
    · by_cases hc : z.c = 0
      · exact .inl hc
      · refine .inr ?_
        have nd := hz.nd hc
        rw [eb] at nd
        unfold Vl at e
        have hj : j ≤ (z.e + 200).toNat := by
          rcases Nat.lt_or_ge (z.e + 200).toNat j with l | l
          · exfalso; apply nd
            have e1 : j = (j - (z.e + 200).toNat - 1) + 1 + (z.e + 200).toNat := by omega
            rw [e1, Int.pow_add, Int.pow_add, Int.pow_one, ← Int.mul_assoc, ← Int.mul_assoc] at e
            have := Int.eq_of_mul_eq_mul_right (by have := pow_pos' hb (z.e + 200).toNat; omega) e
            rw [this]; exact Int.mul_emod_left _ _
          · exact l
        have e1 : (z.e + 200).toNat = (z.e + 200).toNat - j + j := by omega
        rw [e1, Int.pow_add, ← Int.mul_assoc] at e
        have e2 := Int.eq_of_mul_eq_mul_right (by have := pow_pos' hb j; omega) e
        refine ⟨?_, by omega⟩
        have pp := pow_pos' hb ((z.e + 200).toNat - j)
        have e3 : (q.natAbs : Int) = (z.c.natAbs : Int) * b ^ ((z.e + 200).toNat - j) := by
          rw [← e2, Int.natAbs_mul, Int.natCast_mul]
          congr 1; omega
        have := Int.mul_le_mul_of_nonneg_left pp (show (0 : Int) ≤ (z.c.natAbs : Int) by omega)
        omega
  · rintro (h | ⟨h1, h2⟩)
    · exact .inl ((vl_sgn hb z).2.2.mpr h)
    · exact .inr ⟨z.c, _, rfl, h1, h2⟩
def Nm (p : Int) : Option Int → EN → Prop
  | none, z => z.c = 0 ∨ (z.c.natAbs : Int) < z.b ^ p.toNat
  | some o, z => z.c = 0 ∨ ((z.c.natAbs : Int) < z.b ^ p.toNat ∧ o ≤ z.e)
theorem nm_iff {b p : Int} {o : Option Int} {z : EN} (hb : 2 ≤ b) (ho : oOk o) (hz : Low z) (eb : z.b = b) (he : -200 ≤ z.e) : Nm p o z ↔ NI b p.toNat (wO o) (Vl b z) := by
  rw [ni_iff hb hz eb he]
  cases o with
  | none => simp only [Nm, wO, eb]; simp
  | some o =>
    simp only [oOk] at ho
    simp only [Nm, wO, eb]
    have : (o ≤ z.e) = ((o + 200).toNat ≤ (z.e + 200).toNat) := propext ⟨fun h => by omega, fun h => by omega⟩
    rw [this]
/-- what the law asks of one rounding -/
structure Res (b p : Int) (o : Option Int) (x z : EN) (m : Str) : Prop where
  hb : 2 ≤ b
  b36 : b ≤ 36
  hp : 1 ≤ p ∧ p ≤ 40
  ho : oOk o
  lx : Low x
  gx : Gb b 900 x
  lz : Low z
  gz : Gb b 901 z
  hm : m ∈ modes9
  ri : RI b p.toNat (wO o) (Vl b x) m (Vl b z)
theorem res_of {b p : Int} {o : Option Int} {x r : EN} {m : Str} (hb : 2 ≤ b) (h6 : b ≤ 36) (hp : 1 ≤ p ∧ p ≤ 40) (ho : oOk o) (hx : Low x) (g : Gb b 900 x) (hm : m ∈ modes9) (h : Rd p o x m r) : Res b p o x r m := by
  obtain ⟨q, l, z⟩ := rd_ri hb hp ho hx g (by decide) (by decide) h
  exact ⟨hb, h6, hp, ho, hx, g, l, z, hm, q⟩
section
variable {b p : Int} {o : Option Int} {x z y w : EN} {m : Str}
theorem Res.num (h : Res b p o x z m) : Nm p o z := (nm_iff h.hb h.ho h.lz h.gz.eb (by have := h.gz.lo; omega)).mpr (ri_num h.hb (by have := h.hp; omega) h.ri)
theorem Res.stay (h : Res b p o x z m) (n : Nm p o x) : z = x := by
  have := h.gz.lo
  have := h.gx.lo
  refine Vl_inj h.lz h.lx h.gz.eb h.gx.eb (by omega) (by omega) ?_
  exact ri_stay h.hb ((nm_iff h.hb h.ho h.lx h.gx.eb (by omega)).mp n) h.ri
theorem Res.idem {m2 : Str} {r : EN} (h : Res b p o x z m) (h' : Rd p o z m2 r) : r = z := by
  have := h.gz.lo
  obtain ⟨q, l, g⟩ := rd_ri h.hb h.hp h.ho h.lz h.gz (by decide) (by decide) h'
  have := g.lo
  refine Vl_inj l h.lz g.eb h.gz.eb (by omega) (by omega) ?_
  exact ri_stay h.hb ((nm_iff h.hb h.ho h.lz h.gz.eb (by omega)).mp h.num) q
theorem Res.mono (h : Res b p o x z m) (h' : Res b p o y w m) (l : Vl b x ≤ Vl b y) : (addE (-1) z w).c ≤ 0 := by
  have q := ri_mono h.hb (by have := h.hp; omega) h.hm h.ri h'.ri l
  have := h.gz.lo
  have := h'.gz.lo
  have e := Vl_add (s := -1) (x := z) (y := w) h.hb h.gz.eb (by omega) (by omega)
  rcases Int.lt_or_le 0 (addE (-1) z w).c with c | c
  · have := (vl_sgn h.hb (addE (-1) z w)).2.1.mpr c
    omega
  · exact c
theorem Res.neg {r : EN} (h : Res b p o x z m) (h' : Rd p o (negE x) (mir9 m) r) : r = negE z := by
  have gx := h.gx
  have eV : ∀ y : EN, Vl b (negE y) = -(Vl b y) := fun y => by unfold Vl negE; rw [Int.neg_mul]
  have gn : Gb b 900 (negE x) := ⟨gx.eb, gx.lo, gx.hi, by rw [eV, Int.natAbs_neg]; exact gx.vl⟩
  obtain ⟨q, l, g⟩ := rd_ri h.hb h.hp h.ho (low_neg h.lx) gn (by decide) (by decide) h'
  have := h.gz.lo
  have := g.lo
  refine Vl_inj l (low_neg h.lz) g.eb h.gz.eb (by omega) (by show -200 ≤ z.e; omega) ?_
  rw [eV]
  have q2 := ri_neg h.hb h.hm h.ri
  rw [eV] at q
  exact ri_fun h.hb q q2
theorem Res.off {u : Int} (h : Res b p o x z m) (hc : x.c ≠ 0) (hu : Un p o x u) : -200 ≤ u ∧ ((Vl b x - Vl b z).natAbs : Int) < b ^ (u + 200).toNat ∧ (m ∈ near5 → 2 * ((Vl b x - Vl b z).natAbs : Int) ≤ b ^ (u + 200).toNat) := by
  obtain ⟨hu2, d, hd, hw⟩ := un_w h.hb h.gx.eb h.gx.lo h.hp h.ho hc hu
  have hD := pow_pos' h.hb (u + 200).toNat
  rcases h.ri with ⟨q, _⟩ | ⟨d', _, hd', e⟩
  · exact absurd ((vl_sgn h.hb x).2.2.mp q) hc
  · rw [hd'.one h.hb hd, ← hw] at e
    rw [e]
    exact ⟨hu2, rq_gap m (by omega)⟩
/-- the loss is below the unit -/
theorem Res.unit {u lc le : Int} (h : Res b p o x z m) (hc : x.c ≠ 0) (hu : Un p o x u) (hl : (⟨b, lc, le⟩ : EN) = addE (-1) x z) :
    (addE (-1) ⟨b, if lc < 0 then -lc else lc, le⟩ ⟨b, 1, u⟩).c < 0 ∧ (m ∈ near5 → (addE (-1) ⟨b, 2 * (if lc < 0 then -lc else lc), le⟩ ⟨b, 1, u⟩).c ≤ 0) := by
  obtain ⟨hu2, o1, o2⟩ := h.off hc hu
  have lx := h.gx.lo
  have lz := h.gz.lo
  have hl2 : -200 ≤ le := by
    have : -160 ≤ (addE (-1) x z).e := by
      unfold addE
      exact nrm_lo (by rw [h.gx.eb]; exact h.hb) (by omega) (by decide)
    rw [← hl] at this
    have : -160 ≤ le := this
    omega
  have eV := Vl_add (s := -1) (x := x) (y := z) h.hb h.gx.eb (by omega) (by omega)
  rw [← hl] at eV
  have ea : (if lc < 0 then -lc else lc) = (lc.natAbs : Int) := by split <;> omega
  rw [ea]
  have p1 := pow_pos' h.hb (le + 200).toNat
  have v1 : Vl b ⟨b, (lc.natAbs : Int), le⟩ = ((Vl b x - Vl b z).natAbs : Int) := by
    have : Vl b x - Vl b z = lc * b ^ (le + 200).toNat := by
      have : Vl b ⟨b, lc, le⟩ = lc * b ^ (le + 200).toNat := rfl
      omega
    rw [this, Int.natAbs_mul, Int.natCast_mul]
    show (lc.natAbs : Int) * b ^ (le + 200).toNat = _
    congr 1; omega
  have v2 : Vl b ⟨b, 2 * (lc.natAbs : Int), le⟩ = 2 * ((Vl b x - Vl b z).natAbs : Int) := by
    rw [← v1]; show 2 * _ * _ = 2 * (_ * _); rw [Int.mul_assoc]
  have v3 : Vl b ⟨b, 1, u⟩ = b ^ (u + 200).toNat := by show 1 * _ = _; rw [Int.one_mul]
  constructor
  · have e := Vl_add (s := -1) (x := ⟨b, (lc.natAbs : Int), le⟩) (y := ⟨b, 1, u⟩) h.hb rfl hl2 hu2
    rw [v1, v3] at e
    exact (vl_sgn h.hb _).1.mp (by rw [e]; omega)
  · intro hn
    have e := Vl_add (s := -1) (x := ⟨b, 2 * (lc.natAbs : Int), le⟩) (y := ⟨b, 1, u⟩) h.hb rfl hl2 hu2
    rw [v2, v3] at e
    have := o2 hn
    rcases Int.lt_or_le 0 (addE (-1) (⟨b, 2 * (lc.natAbs : Int), le⟩ : EN) ⟨b, 1, u⟩).c with c | c
    · have := (vl_sgn h.hb (addE (-1) (⟨b, 2 * (lc.natAbs : Int), le⟩ : EN) ⟨b, 1, u⟩)).2.1.mpr c
      omega
    · exact c
end
theorem nrm_sh {b c e s : Int} (hb : 2 ≤ b) : nrm b (nrm b c e).c ((nrm b c e).e + s) = nrm b c (e + s) := by
  by_cases hc : c = 0
  · rw [hc, nrm_zero, nrm_zero, nrm_zero]
  · obtain ⟨i1, i2⟩ := strip_ok hb c.natAbs c hc (Nat.le_refl _)
    rw [nrm_of (e := e) hb hc i1 i2, nrm_of (e := e + s) hb hc i1 i2]
    have hz : (strip b c.natAbs c).1 ≠ 0 := fun q => by rw [q, Int.zero_mul] at i1; exact hc i1
    rw [nrm_of (n := 0) hb hz (by simp) i2]
    congr 1
    show e + _ + s + 0 = e + s + _
    omega
theorem sh_ok {p s : Int} {x z r : EN} {m : Str} (hx : Low x) (h : RdN p x m z) (h' : RdN p (nrm x.b x.c (x.e + s)) m r) : r = nrm x.b z.c (z.e + s) := by
  rcases h with ⟨hc, rfl⟩ | ⟨hc, u, hd, rfl⟩
  · have e0 : nrm z.b z.c (z.e + s) = ⟨z.b, 0, 0⟩ := by rw [hc, nrm_zero]
    rcases h' with ⟨_, rfl⟩ | ⟨q, _⟩
    · rfl
    · rw [e0] at q; exact absurd rfl q
  · have e1 : nrm x.b x.c (x.e + s) = ⟨x.b, x.c, x.e + s⟩ := by
      rw [nrm_of (n := 0) hx.b2 hc (by simp) (hx.nd hc)]
      congr 1; omega
    rw [e1] at h'
    rcases h' with ⟨q, _⟩ | ⟨_, u', hd', rfl⟩
    · exact absurd q hc
    · have hd' : IsDg x.b x.c (u' + p - (x.e + s)) := hd'
      have eu : u' = u + s := by have := dg_one hx.b2 hd hd'; omega
      subst eu
      unfold rnd
      dsimp only
      by_cases l : x.e < u
      · rw [if_pos l, if_pos (by omega), nrm_sh hx.b2]
        congr 2
        rw [show (u + s - (x.e + s)).toNat = (u - x.e).toNat by omega]
      · rw [if_neg l, if_neg (by omega), ← e1]
/-- counting by division -/
def Ct (b v x cn : Int) : Prop := 0 ≤ x ∧ ∃ j : Nat, cn = j ∧ b ^ j * x ≤ (v.natAbs : Int) ∧ (v.natAbs : Int) < b ^ j * (x + 1) ∧ (j ≠ 0 → b ^ (j - 1) ≤ (v.natAbs : Int))
theorem Ct.init {b v : Int} : Ct b v (if v < 0 then -v else v) 0 := by
  have e : (if v < 0 then -v else v) = (v.natAbs : Int) := by split <;> omega
  rw [e]
  exact ⟨by omega, 0, rfl, by simp, by simp; omega, fun h => absurd rfl h⟩
theorem Ct.step {b v x cn q c : Int} (n : Nat) (hb : 2 ≤ b) (h : Ct b v x cn) (hn : 1 ≤ n) (hq : q = b ^ n) (hc : c = n) (g : 1 ≤ x) (g2 : n = 1 ∨ q ≤ x) : Ct b v (x / q) (cn + c) := by
  obtain ⟨h0, j, rfl, h1, h2, h3⟩ := h
  have q0 : 1 ≤ q := by rw [hq]; exact pow_pos' hb n
  have d1 := Int.mul_ediv_add_emod x q
  have d2 := Int.emod_nonneg x (show q ≠ 0 by omega)
  have d3 := Int.emod_lt_of_pos x (show 0 < q by omega)
  have pj := pow_pos' hb j
  refine ⟨Int.ediv_nonneg h0 (by omega), j + n, by rw [hc]; simp, ?_, ?_, fun _ => ?_⟩
  · rw [Int.pow_add, ← hq, Int.mul_assoc]
    exact Int.le_trans (Int.mul_le_mul_of_nonneg_left (by omega) (by omega)) h1
  · rw [Int.pow_add, ← hq, Int.mul_assoc]
    refine Int.lt_of_lt_of_le h2 (Int.mul_le_mul_of_nonneg_left ?_ (by omega))
    rw [Int.mul_add, Int.mul_one]; omega
  · refine Int.le_trans ?_ h1
    rcases g2 with rfl | g2
    · have := Int.mul_le_mul_of_nonneg_left g (show 0 ≤ b ^ j by omega)
      rw [show j + 1 - 1 = j by omega]; omega
    · rw [show j + n - 1 = j + (n - 1) by omega, Int.pow_add]
      refine Int.mul_le_mul_of_nonneg_left ?_ (by omega)
      have := pow_le' hb (show n - 1 ≤ n by omega)
      omega
theorem Ct.done {b v x cn : Int} (hb : 2 ≤ b) (h : Ct b v x cn) (z : ¬ 0 < x) : IsDg b v cn := by
  obtain ⟨h0, j, rfl, h1, h2, h3⟩ := h
  have ex : x = 0 := by omega
  rw [ex, Int.zero_add, Int.mul_one] at h2
  by_cases hv : v = 0
  · subst hv
    refine .inl ⟨rfl, ?_⟩
    by_cases hj : j = 0
    · simp [hj]
    · have q := h3 hj
      have := pow_pos' hb (j - 1)
      exfalso
      have : (((0 : Int).natAbs : Nat) : Int) = 0 := rfl
      omega
  · have hj : j ≠ 0 := fun q => by rw [q, Int.pow_zero] at h2; omega
    refine .inr ⟨hv, by omega, ?_, ?_⟩
    · rw [show ((j : Int) - 1).toNat = j - 1 by omega]; exact h3 hj
    · rw [show (j : Int).toNat = j by omega]; exact h2

theorem div_lt' {x q : Int} (h1 : 1 ≤ x) (h2 : 2 ≤ q) : 0 ≤ x / q ∧ x / q < x := by
  have d1 := Int.mul_ediv_add_emod x q
  have d2 := Int.emod_nonneg x (show q ≠ 0 by omega)
  have h0 : 0 ≤ x / q := Int.ediv_nonneg (by omega) (by omega)
  refine ⟨h0, ?_⟩
  have := Int.mul_le_mul_of_nonneg_right h2 h0
  omega
theorem sz_pow {b x : Int} {n : Nat} (hb : 2 ≤ b) (h : Sz n x) : (x.natAbs : Int) < b ^ n := by
  have q := two_pow_le hb n
  have e : (2 : Int) ^ n = ((2 ^ n : Nat) : Int) := by simp
  unfold Sz at h
  omega
theorem gb_of {b c e : Int} {K : Nat} (hb : 2 ≤ b) (hc : (c.natAbs : Int) < b ^ K) (h0 : -160 ≤ e) (h1 : e ≤ 100) (hK : K ≤ 580) : Gb b 880 ⟨b, c, e⟩ := by
  refine ⟨rfl, h0, by show e ≤ 800; omega, ?_⟩
  show ((c * b ^ (e + 200).toNat).natAbs : Int) < _
  have p := pow_pos' hb (e + 200).toNat
  rw [Int.natAbs_mul, Int.natCast_mul, show ((b ^ (e + 200).toNat).natAbs : Int) = b ^ (e + 200).toNat by omega]
  refine Int.lt_of_lt_of_le (Int.mul_lt_mul_of_pos_right hc (by omega)) ?_
  rw [← Int.pow_add]
  exact pow_le' hb (by omega)

structure ST where
  op : Str
  l : Int
  r : Int
  m : Str
def stF (x : ST) : List (Str × V) := putF "mode" (.str x.m) (putF "right" (.int x.r) (putF "left" (.int x.l) (putF "operation" (.str x.op) [])))
def IsQ (H : Hp) (p : Addr) (x : ST) : Prop := H p = some (.tup [.str x.op, .int x.l, .int x.r, .str x.m])
theorem same_Q {H H' : Hp} {p : Addr} {q : ST} (e : Same H H') (h : IsQ H p q) : IsQ H' p q := e _ _ h
theorem ext_Q {H H' : Hp} {p : Addr} {q : ST} (e : Z.Ext H H') (h : IsQ H p q) : IsQ H' p q := e _ _ trivial h
/-- step i of a valid program -/
def Vs (i : Nat) (x : ST) : Prop := (x.op = "+" ∨ x.op = "-") ∧ (0 ≤ x.l ∧ x.l ≤ i + 1) ∧ (0 ≤ x.r ∧ x.r ≤ i + 1) ∧ x.m ∈ modes9
def Vp (xs : List ST) : Prop := xs.length ≤ 12 ∧ ∀ i x, xs[i]? = some x → Vs i x
theorem Vp.take {xs ys : List ST} (h : Vp (xs ++ ys)) : Vp xs := ⟨by have := h.1; rw [List.length_append] at this; omega, fun i x e => h.2 i x (by rw [List.getElem?_append_left (List.getElem?_eq_some_iff.mp e).1]; exact e)⟩
def sgO (o : Str) : Int := if o = "+" then 1 else -1
/-- register i + 2 is what step i makes -/
def StepOk (p : Int) (out : List EN) (i : Nat) (x : ST) : Prop := ∃ a b r, out[x.l.toNat]? = some a ∧ out[x.r.toNat]? = some b ∧ out[i + 2]? = some r ∧ RdN p (addE (sgO x.op) a b) x.m r
theorem StepOk.mono {p : Int} {out more : List EN} {i : Nat} {x : ST} (h : StepOk p out i x) : StepOk p (out ++ more) i x := by
  obtain ⟨a, b, r, h1, h2, h3, h4⟩ := h
  have g : ∀ {j : Nat} {y : EN}, out[j]? = some y → (out ++ more)[j]? = some y := fun e => by rw [List.getElem?_append_left (List.getElem?_eq_some_iff.mp e).1]; exact e
  exact ⟨a, b, r, g h1, g h2, g h3, h4⟩

/-- registers of a run so far: k of the steps are done -/
structure Rg (b p : Int) (first second : EN) (xs : List ST) (N : Nat) (out : List EN) (k : Nat) : Prop where
  len : out.length = k + 2
  one : out[0]? = some first
  two : out[1]? = some second
  ok : ∀ i x, i < k → xs[i]? = some x → StepOk p out i x
  low : ∀ y ∈ out, Low y
  gb : ∀ y ∈ out, Gb b (N + 2 * k) y
theorem Rg.init {b p : Int} {first second : EN} {xs : List ST} {N : Nat} (l1 : Low first) (l2 : Low second) (g1 : Gb b N first) (g2 : Gb b N second) : Rg b p first second xs N [first, second] 0 :=
  ⟨rfl, rfl, rfl, fun i x h => absurd h (Nat.not_lt_zero _), fun y hy => by rcases List.mem_cons.mp hy with rfl | hy; exact l1; rw [List.mem_singleton.mp hy]; exact l2, fun y hy => by rcases List.mem_cons.mp hy with rfl | hy; exact g1; rw [List.mem_singleton.mp hy]; exact g2⟩
theorem Rg.get {b p : Int} {first second : EN} {xs : List ST} {N k : Nat} {out : List EN} (h : Rg b p first second xs N out k) {q : Int} (h0 : 0 ≤ q) (h1 : q ≤ k + 1) : ∃ a, out[q.toNat]? = some a ∧ Low a ∧ Gb b (N + 2 * k) a := by
  have hl : q.toNat < out.length := by rw [h.len]; omega
  exact ⟨_, List.getElem?_eq_getElem hl, h.low _ (List.getElem_mem hl), h.gb _ (List.getElem_mem hl)⟩
theorem sgO_pm (o : Str) : sgO o = 1 ∨ sgO o = -1 := by unfold sgO; split <;> simp
theorem Rg.step {b p : Int} {first second r a c : EN} {xs : List ST} {x : ST} {N k : Nat} {out : List EN} (hb : 2 ≤ b) (h6 : b ≤ 36) (hp : 1 ≤ p ∧ p ≤ 40) (hN : 220 ≤ N) (hN2 : N + 2 * k ≤ 990) (h : Rg b p first second xs N out k) (hx : xs[k]? = some x)
    (h1 : out[x.l.toNat]? = some a) (h2 : out[x.r.toNat]? = some c) (hr : RdN p (addE (sgO x.op) a c) x.m r) : Rg b p first second xs N (out ++ [r]) (k + 1) := by
  have ga := h.gb _ (List.mem_of_getElem? h1)
  have gc := h.gb _ (List.mem_of_getElem? h2)
  obtain ⟨gs, _⟩ := Gb.add hb h6 (sgO_pm x.op) ga gc (by omega)
  have ls : Low (addE (sgO x.op) a c) := low_add (by rw [ga.eb]; exact hb) (by rw [ga.eb]; exact h6)
  obtain ⟨_, lr, gr⟩ := rd_ri (o := none) hb hp True.intro ls gs (by omega) (by omega) (show Rd p none _ _ _ from hr)
  have g : ∀ {j : Nat} {y : EN}, out[j]? = some y → (out ++ [r])[j]? = some y := fun e => by rw [List.getElem?_append_left (List.getElem?_eq_some_iff.mp e).1]; exact e
  refine ⟨by rw [List.length_append, h.len]; rfl, g h.one, g h.two, fun i y hi hy => ?_, fun y hy => ?_, fun y hy => ?_⟩
  · by_cases e : i = k
    · subst e
      rw [hx] at hy; cases hy
      exact ⟨a, c, r, g h1, g h2, by rw [← h.len]; simp, hr⟩
    · exact (h.ok i y (by omega) hy).mono
  · rcases List.mem_append.mp hy with hy | hy
    · exact h.low y hy
    · rw [List.mem_singleton.mp hy]; exact lr
  · rcases List.mem_append.mp hy with hy | hy
    · exact (h.gb y hy).mono hb (by omega)
    · rw [List.mem_singleton.mp hy]
      exact gr.mono hb (by omega)
theorem in_num {p dg : Int} {z : EN} (hp : 1 ≤ p) (hb : 2 ≤ z.b) (h : IsDg z.b z.c dg) (n : Nm p none z) : ¬ dg > p := by
  intro l
  rcases h with ⟨_, rfl⟩ | ⟨hc, h1, h2, h3⟩
  · omega
  · rcases n with q | q
    · exact hc q
    · have := pow_lt_inv hb h2 q; omega
/-- what two registers want of a sum -/
theorem Rg.sum {b p : Int} {first second a c : EN} {xs : List ST} {x : ST} {N k : Nat} {out : List EN} (hb : 2 ≤ b) (h6 : b ≤ 36) (hN2 : N + 2 * k ≤ 990) (h : Rg b p first second xs N out k) (h1 : out[x.l.toNat]? = some a) (h2 : out[x.r.toNat]? = some c) :
    Ad a c ∧ a.b = b ∧ (addE (sgO x.op) a c).b = b ∧ Sz 8990 (addE (sgO x.op) a c).c := by
  have ga := h.gb _ (List.mem_of_getElem? h1)
  have gc := h.gb _ (List.mem_of_getElem? h2)
  obtain ⟨gs, _⟩ := Gb.add hb h6 (sgO_pm x.op) ga gc (by omega)
  exact ⟨Gb.ad hb h6 ga gc (by omega), ga.eb, gs.eb, (gs.sz hb h6).1.mono (by omega)⟩

def swI (q : Int) : Int := if q < 2 then 1 - q else q
def swS (x : ST) : ST := ⟨x.op, swI x.l, swI x.r, x.m⟩
theorem swI_rng {q : Int} {i : Nat} (h : 0 ≤ q ∧ q ≤ i + 1) : 0 ≤ swI q ∧ swI q ≤ i + 1 := by unfold swI; split <;> omega
theorem vp_sw {xs : List ST} (h : Vp xs) : Vp (xs.map swS) := by
  refine ⟨by rw [List.length_map]; exact h.1, fun i x e => ?_⟩
  rw [List.getElem?_map] at e
  cases hx : xs[i]? with
  | none => rw [hx] at e; cases e
  | some y =>
    rw [hx] at e; cases e
    obtain ⟨h1, h2, h3, h4⟩ := h.2 i y hx
    exact ⟨h1, swI_rng h2, swI_rng h3, h4⟩
theorem getE_last {out : List EN} (h : 0 < out.length) : out[out.length - 1]? = some (out.getD (out.length - 1) ⟨0, 0, 0⟩) := by
  rw [List.getD_eq_getElem?_getD, List.getElem?_eq_getElem (by omega)]; rfl

theorem rqd (n d : Int) {m : Str} (hm : m ∉ near5) : rqUp n d m = goesUp m (decide (0 < n)) := by unfold rqUp; rw [if_pos hm]
theorem rqt {n d : Int} {m : Str} (hm : m ∈ near5) (t : 2 * (n % d) = d) : rqUp n d m = tieUp m (n / d) (decide (0 < n)) := by unfold rqUp; rw [if_neg (fun q => q hm), if_pos t]
theorem rqn {n d : Int} {m : Str} (hm : m ∈ near5) (t : 2 * (n % d) ≠ d) : rqUp n d m = decide (d < 2 * (n % d)) := by unfold rqUp; rw [if_neg (fun q => q hm), if_neg t]
theorem rq_up {n d : Int} {m : Str} (hr : n % d ≠ 0) : rq n d m = if rqUp n d m = true then n / d + 1 else n / d := by unfold rq; rw [if_neg hr]
theorem lq1 {n d : Int} {m : Str} (hr : n % d ≠ 0) (h : m = "inward") : rq n d m = if 0 < n then n / d else n / d + 1 := by
  subst h; rw [rq_up hr, rqd n d (by decide)]; by_cases c : 0 < n <;> simp [goesUp, c]
theorem lq2 {n d : Int} {m : Str} (hr : n % d ≠ 0) (h : m = "outward") : rq n d m = if 0 < n then n / d + 1 else n / d := by
  subst h; rw [rq_up hr, rqd n d (by decide)]; by_cases c : 0 < n <;> simp [goesUp, c]
theorem lq3 {n d : Int} {m : Str} (hr : n % d ≠ 0) (h : m = "upward") : rq n d m = n / d + 1 := by
  subst h; rw [rq_up hr, rqd n d (by decide)]; simp [goesUp]
theorem lq4 {n d : Int} {m : Str} (hr : n % d ≠ 0) (h : m = "downward") : rq n d m = n / d := by
  subst h; rw [rq_up hr, rqd n d (by decide)]; simp [goesUp]
theorem lq5 {n d : Int} {m : Str} (hr : n % d ≠ 0) (h : m ∈ near5) (t : 2 * (n % d) ≠ d) : rq n d m = n / d + (if d < 2 * (n % d) then 1 else 0) := by
  rw [rq_up hr, rqn h t]; by_cases c : d < 2 * (n % d) <;> simp [c]
theorem lq6 {n d : Int} {m : Str} (hr : n % d ≠ 0) (t : 2 * (n % d) = d) (h : m = "nearest-even") : rq n d m = n / d + n / d % 2 := by
  subst h; rw [rq_up hr, rqt (by decide) t]
  rcases (by omega : n / d % 2 = 0 ∨ n / d % 2 = 1) with q | q <;> simp [tieUp, q]
theorem lq7 {n d : Int} {m : Str} (hr : n % d ≠ 0) (t : 2 * (n % d) = d) (h : m = "nearest-out") : rq n d m = if 0 < n then n / d + 1 else n / d := by
  subst h; rw [rq_up hr, rqt (by decide) t]; by_cases c : 0 < n <;> simp [tieUp, c]
theorem lq8 {n d : Int} {m : Str} (hr : n % d ≠ 0) (t : 2 * (n % d) = d) (h : m = "nearest-in") : rq n d m = if 0 < n then n / d else n / d + 1 := by
  subst h; rw [rq_up hr, rqt (by decide) t]; by_cases c : 0 < n <;> simp [tieUp, c]
theorem lq9 {n d : Int} {m : Str} (hr : n % d ≠ 0) (t : 2 * (n % d) = d) (h : m = "nearest-up" ∨ m = "nearest-down") : rq n d m = n / d + (if decide (m = "nearest-up") = true then 1 else 0) := by
  rcases h with rfl | rfl <;> rw [rq_up hr, rqt (by decide) t] <;> simp [tieUp]
theorem near_of4 {m : Str} (hm : m ∈ modes9) (h1 : ¬ m = "inward") (h2 : ¬ m = "outward") (h3 : ¬ m = "upward") (h4 : ¬ m = "downward") : m ∈ near5 := by
  rcases mem9 hm with rfl | rfl | rfl | rfl | rfl | rfl | rfl | rfl | rfl <;> first | decide +kernel | exact absurd rfl (by assumption)
theorem ud_of {m : Str} (hm : m ∈ near5) (h1 : ¬ m = "nearest-even") (h2 : ¬ m = "nearest-out") (h3 : ¬ m = "nearest-in") : m = "nearest-up" ∨ m = "nearest-down" := by
  simp only [near5, List.mem_cons, List.not_mem_nil, or_false] at hm
  rcases hm with h | h | h | h | h <;> first | exact .inl h | exact .inr h | exact absurd h (by assumption)
/-- a full coefficient -/
theorem full_le {b l p : Int} (hb : 2 ≤ b) (hp : 3 ≤ p) (hl : l = b ^ (p - 1).toNat) : b ^ p.toNat = l * b ∧ b ≤ l ∧ 4 ≤ l ∧ 2 * l ≤ l * b := by
  have e : p.toNat = (p - 1).toNat + 1 := by omega
  have h2 := pow_le' hb (show 2 ≤ (p - 1).toNat by omega)
  have h4 : b ^ 2 = b * b := by rw [Int.pow_succ, Int.pow_one]
  have h5 := Int.mul_le_mul_of_nonneg_left hb (show 0 ≤ b by omega)
  have h6 := Int.mul_le_mul_of_nonneg_left hb (show 0 ≤ l by omega)
  refine ⟨by rw [e, Int.pow_succ, hl], by omega, by omega, by omega⟩

theorem div_sz {n d : Int} {k : Nat} (hd : 0 < d) (h : Sz k n) : Sz k (n / d) := by
  unfold Sz at *
  have e := Int.mul_ediv_add_emod n d
  have e1 := Int.emod_nonneg n (show d ≠ 0 by omega)
  rcases Int.lt_or_le n 0 with hn | hn
  · have h1 : n / d < 0 := Int.ediv_neg_of_neg_of_pos hn hd
    have h2 : n ≤ n / d := by
      have e2 := Int.emod_lt_of_pos n hd
      have := Int.mul_le_mul_of_nonneg_right (show 1 ≤ -(n / d) by omega) (show 0 ≤ d - 1 by omega)
      rw [Int.one_mul, Int.neg_mul, Int.mul_sub, Int.mul_one, Int.mul_comm (n / d) d] at this
      omega
    omega
  · have h1 : 0 ≤ n / d := Int.ediv_nonneg hn (by omega)
    have h2 : n / d ≤ n := Int.ediv_le_self _ hn
    omega

theorem round_lo {b c e cnt p r0 r1 : Int} {m : Str} (h : IsDg b c cnt) (l : Low ⟨b, c, e⟩) (hp : 1 ≤ p) (hm : cnt - p ≤ 0) (hr : (⟨b, r0, r1⟩ : EN) = nrm b c e) : RdN p ⟨b, c, e⟩ m ⟨b, r0, r1⟩ := by
  have e1 : (⟨b, r0, r1⟩ : EN) = ⟨b, c, e⟩ := hr.trans (nrm_low l)
  rw [e1]
  by_cases hc : c = 0
  · exact .inl ⟨hc, rfl⟩
  · refine .inr ⟨hc, e + (cnt - p), by show IsDg b c (e + (cnt - p) + p - e); rw [show e + (cnt - p) + p - e = cnt by omega]; exact h, ?_⟩
    unfold rnd
    rw [if_neg (by show ¬ e < _; omega)]
theorem round_hi {b c e cnt p r0 r1 : Int} {m : Str} (h : IsDg b c cnt) (hp : 1 ≤ p) (hm : ¬ cnt - p ≤ 0) (hr : (⟨b, r0, r1⟩ : EN) = nrm b (rq c (b ^ (cnt - p).toNat) m) (e + (cnt - p))) : RdN p ⟨b, c, e⟩ m ⟨b, r0, r1⟩ := by
  have hc : c ≠ 0 := by
    rcases h with ⟨_, rfl⟩ | ⟨q, _⟩
    · omega
    · exact q
  refine .inr ⟨hc, e + (cnt - p), by show IsDg b c (e + (cnt - p) + p - e); rw [show e + (cnt - p) + p - e = cnt by omega]; exact h, ?_⟩
  unfold rnd
  rw [if_pos (by show e < _; omega), hr]
  show nrm b (rq c (b ^ (cnt - p).toNat) m) _ = nrm b (rq c (b ^ (e + (cnt - p) - e).toNat) m) _
  rw [show e + (cnt - p) - e = cnt - p by omega]
theorem dg_ne {b c r : Int} (h : IsDg b c r) (l : 0 < r) : c ≠ 0 := by
  rcases h with ⟨_, rfl⟩ | ⟨q, _⟩
  · omega
  · exact q
/-- a number of at most p digits, lowest, within bounds -/
structure Nb (b p : Int) (N : Nat) (x : EN) : Prop where
  low : Low x
  gb : Gb b N x
  num : Nm p none x
theorem strip_le {b c e : Int} (hb : 2 ≤ b) (hc : c ≠ 0) : (nrm b c e).c.natAbs ≤ c.natAbs := by
  obtain ⟨i1, i2⟩ := strip_ok hb c.natAbs c hc (Nat.le_refl _)
  rw [nrm_of (e := e) hb hc i1 i2]
  show (strip b c.natAbs c).1.natAbs ≤ _
  conv => rhs; rw [i1]
  rw [Int.natAbs_mul]
  have := pow_pos' hb (strip b c.natAbs c).2
  exact Nat.le_mul_of_pos_right _ (by omega)
theorem nb_of {b c e p s r0 r1 : Int} {N : Nat} (hb : 2 ≤ b) (h6 : b ≤ 36) (hp : 0 ≤ p) (hs : s = 1 ∨ s = -1) (h1 : 1 ≤ c) (h2 : c < b ^ p.toNat) (e0 : -20 ≤ e) (e1 : e ≤ 340) (hN : p.toNat + 540 ≤ N) (hN2 : N ≤ 1000) (hr : (⟨b, r0, r1⟩ : EN) = nrm b (s * c) e) : Nb b p N ⟨b, r0, r1⟩ := by
  rw [hr]
  have ec : (s * c).natAbs = c.natAbs := by rcases hs with rfl | rfl <;> omega
  have l := low_nrm (c := s * c) (e := e) hb h6
  have hV := Vl_nrm (c := s * c) (e := e) hb (by omega)
  refine ⟨l, Gb.of hb l (nrm_b _ _ _) (nrm_lo hb (by omega) (by decide)) hN2 ?_, ?_⟩
  · rw [hV, Int.natAbs_mul, Int.natCast_mul, ec]
    have p2 := pow_pos' hb (e + 200).toNat
    rw [show ((b ^ (e + 200).toNat).natAbs : Int) = b ^ (e + 200).toNat by omega]
    refine Int.lt_of_lt_of_le (Int.mul_lt_mul_of_pos_right (show ((c.natAbs : Nat) : Int) < b ^ p.toNat by omega) (by omega)) ?_
    rw [← Int.pow_add]
    exact pow_le' hb (by omega)
  · refine .inr ?_
    rw [nrm_b]
    have hc : s * c ≠ 0 := by rcases hs with rfl | rfl <;> omega
    have q := strip_le (e := e) hb hc
    rw [ec] at q
    omega
theorem nb_zero {b p : Int} {N : Nat} (hb : 2 ≤ b) (h6 : b ≤ 36) : Nb b p N ⟨b, 0, 0⟩ := by
  refine ⟨⟨hb, h6, fun _ => rfl, fun h => absurd rfl h⟩, ⟨rfl, by show (-160 : Int) ≤ 0; decide, by show (0 : Int) ≤ 800; decide, ?_⟩, .inl rfl⟩
  have := pow_pos' hb N
  show (((0 * b ^ _ : Int).natAbs : Nat) : Int) < _
  rw [Int.zero_mul]; exact this

structure R3 where
  op : Str
  l : Int
  r : Int
def Is3 (H : Hp) (p : Addr) (x : R3) : Prop := H p = some (.tup [.str x.op, .int x.l, .int x.r])
theorem same_3 {H H' : Hp} {p : Addr} {q : R3} (e : Same H H') (h : Is3 H p q) : Is3 H' p q := e _ _ h
theorem ext_3 {H H' : Hp} {p : Addr} {q : R3} (e : Z.Ext H H') (h : Is3 H p q) : Is3 H' p q := e _ _ trivial h
def V3 (i : Nat) (x : R3) : Prop := (x.op = "+" ∨ x.op = "-") ∧ (0 ≤ x.l ∧ x.l ≤ i + 1) ∧ (0 ≤ x.r ∧ x.r ≤ i + 1)
def Vr (xs : List R3) : Prop := ∀ i x, xs[i]? = some x → V3 i x
theorem Vr.nil : Vr [] := fun i x e => by simp at e
theorem Vr.snoc {xs : List R3} {x : R3} (h : Vr xs) (v : V3 xs.length x) : Vr (xs ++ [x]) := fun i y e => by
  rcases Nat.lt_trichotomy i xs.length with l | l | l
  · rw [List.getElem?_append_left l] at e; exact h i y e
  · subst l
    rw [List.getElem?_append_right (Nat.le_refl _), Nat.sub_self] at e
    cases e; exact v
  · rw [List.getElem?_append_right (by omega)] at e
    rw [List.getElem?_eq_none (by show 1 ≤ _; omega)] at e; cases e

theorem Vp.tk {xs : List ST} (h : Vp xs) (n : Nat) : Vp (xs.take n) := by
  have q := h
  rw [← List.take_append_drop n xs] at q
  exact q.take
def eP (b : Int) (p : Int × Int) : EN := ⟨b, p.1, p.2⟩
theorem map_get {α β : Type} {f : α → β} {xs : List α} {i : Nat} {y : β} (h : (xs.map f)[i]? = some y) : ∃ x, xs[i]? = some x ∧ y = f x := by
  rw [List.getElem?_map] at h
  cases e : xs[i]? with
  | none => rw [e] at h; cases h
  | some x => rw [e] at h; exact ⟨x, rfl, (Option.some.inj h).symm⟩
theorem sum_pair {b : Int} {o : Str} {p q : Int × Int} {c e s : Int} (hs : s = sgO o) (h : (⟨b, c, e⟩ : EN) = addE s ⟨b, p.1, p.2⟩ ⟨b, q.1, q.2⟩) : (⟨b, c, e⟩ : EN) = addE (sgO o) (eP b p) (eP b q) := by rw [h, hs]; rfl
theorem sg_of_o {o : Str} (h : o = "+" ∨ o = "-") : (1 - 2 * (if decide (o = "-") = true then 1 else 0) : Int) = sgO o := by
  rcases h with rfl | rfl <;> rfl

theorem rdn_fun {p : Int} {x r r' : EN} {m : Str} (hb : 2 ≤ x.b) (h : RdN p x m r) (h' : RdN p x m r') : r = r' := by
  rcases h with ⟨hc, rfl⟩ | ⟨hc, u, hd, rfl⟩
  · rcases h' with ⟨_, rfl⟩ | ⟨q, _⟩
    · rfl
    · exact absurd hc q
  · rcases h' with ⟨q, _⟩ | ⟨_, u', hd', rfl⟩
    · exact absurd q hc
    · have : u = u' := by have := dg_one hb hd hd'; omega
      rw [this]
/-- a run has one list of registers -/
theorem rg_one {b p : Int} {a c : EN} {xs : List ST} {N : Nat} {out out' : List EN} (hb : 2 ≤ b) (v : Vp xs) (h : Rg b p a c xs N out xs.length) (h' : Rg b p a c xs N out' xs.length) : out = out' := by
  have key : ∀ n i, i < n → i < xs.length + 2 → out[i]? = out'[i]? := by
    intro n
    induction n with
    | zero => intro i hi; omega
    | succ n ih =>
      intro i hi hl
      match i with
      | 0 => rw [h.one, h'.one]
      | 1 => rw [h.two, h'.two]
      | k + 2 =>
        obtain ⟨x, hx⟩ : ∃ x, xs[k]? = some x := ⟨_, List.getElem?_eq_getElem (by omega)⟩
        obtain ⟨a1, c1, r1, p1, p2, p3, p4⟩ := h.ok k x (by omega) hx
        obtain ⟨a2, c2, r2, q1, q2, q3, q4⟩ := h'.ok k x (by omega) hx
        obtain ⟨_, hv2, hv3, _⟩ := v.2 k x hx
        have e1 := ih x.l.toNat (by omega) (by omega)
        have e2 := ih x.r.toNat (by omega) (by omega)
        rw [p1, q1] at e1
        rw [p2, q2] at e2
        cases e1; cases e2
        have ga := h.gb _ (List.mem_of_getElem? p1)
        have : r1 = r2 := rdn_fun (by rw [addE_b, ga.eb]; exact hb) p4 q4
        rw [p3, q3, this]
  refine List.ext_getElem? fun i => ?_
  rcases Nat.lt_or_ge i (xs.length + 2) with l | l
  · exact key (i + 1) i (by omega) l
  · rw [List.getElem?_eq_none (by rw [h.len]; exact l), List.getElem?_eq_none (by rw [h'.len]; exact l)]
theorem sw_at {a c : EN} {out : List EN} {n : Nat} (h0 : out[0]? = some a) (h1 : out[1]? = some c) (hl : out.length = n + 2) : (∀ i, ([c, a] ++ out.drop 2)[i + 2]? = out[i + 2]?) ∧ ∀ q : Int, 0 ≤ q → ([c, a] ++ out.drop 2)[(swI q).toNat]? = out[q.toNat]? := by
  have h2 : ∀ i, ([c, a] ++ out.drop 2)[i + 2]? = out[i + 2]? := fun i => by
    rw [List.getElem?_append_right (by simp), List.getElem?_drop]
    congr 1
    simp
    omega
  refine ⟨h2, fun q hq => ?_⟩
  unfold swI
  by_cases l : q < 2
  · rw [if_pos l]
    rcases (by omega : q = 0 ∨ q = 1) with rfl | rfl
    · rw [show (0 : Int).toNat = 0 from rfl, h0]; rfl
    · rw [show (1 : Int).toNat = 1 from rfl, h1]; rfl
  · rw [if_neg l]
    have e : q.toNat = (q.toNat - 2) + 2 := by omega
    rw [e]; exact h2 _
/-- the swapped program's registers -/
theorem rg_sw {b p : Int} {a c : EN} {xs : List ST} {N : Nat} {out : List EN} (v : Vp xs) (h : Rg b p a c xs N out xs.length) : Rg b p c a (xs.map swS) N ([c, a] ++ out.drop 2) (xs.map swS).length := by
  obtain ⟨s1, s2⟩ := sw_at h.one h.two h.len
  have hm : ∀ y ∈ [c, a] ++ out.drop 2, y ∈ out := fun y hy => by
    rcases List.mem_append.mp hy with q | q
    · rcases List.mem_cons.mp q with rfl | q
      · exact List.mem_of_getElem? h.two
      · rw [List.mem_singleton.mp q]; exact List.mem_of_getElem? h.one
    · exact List.mem_of_mem_drop q
  refine ⟨by rw [List.length_append, List.length_drop, List.length_map, h.len]; simp; omega, rfl, rfl, fun i x hi hx => ?_, fun y hy => h.low y (hm y hy), fun y hy => by rw [List.length_map]; exact h.gb y (hm y hy)⟩
  obtain ⟨x0, hx0, rfl⟩ := map_get hx
  obtain ⟨a1, c1, r1, p1, p2, p3, p4⟩ := h.ok i x0 (List.getElem?_eq_some_iff.mp hx0).1 hx0
  obtain ⟨_, hv2, hv3, _⟩ := v.2 i x0 hx0
  exact ⟨a1, c1, r1, by rw [← p1]; exact s2 _ hv2.1, by rw [← p2]; exact s2 _ hv3.1, by rw [s1]; exact p3, p4⟩

theorem eP_nrm {b : Int} {ps : List (Int × Int)} (h : ∀ y ∈ ps.map (eP b), Low y) : ps.map (eP b) = ps.map fun p => nrm b p.1 p.2 := by
  refine List.map_congr_left fun p hp => ?_
  have l := h _ (List.mem_map_of_mem hp)
  exact (nrm_low l).symm
theorem cutL_2 {α : Type} {xs : List α} (h : 2 ≤ xs.length) : cutL xs (some 2) none = xs.drop 2 := by
  unfold cutL
  have e1 : HT.sIx xs.length 0 (some 2) = 2 := by
    unfold HT.sIx
    simp
    omega
  have e2 : HT.sIx xs.length xs.length none = xs.length := by
    unfold HT.sIx
    rfl
  rw [e1, e2]
  exact List.take_of_length_le (by rw [List.length_drop]; omega)
theorem sw_list {b : Int} {due : List (Int × Int)} {pa pb : Int × Int} (h : 2 ≤ due.length) : ([pb, pa] ++ cutL due (some 2) none).map (eP b) = [eP b pb, eP b pa] ++ (due.map (eP b)).drop 2 := by
  rw [cutL_2 h, List.map_append, List.map_drop]; rfl
theorem sw_last {b p : Int} {a c la : EN} {xs : List ST} {N : Nat} {out o2 : List EN} (hb : 2 ≤ b) (v : Vp xs) (h : Rg b p a c xs N out xs.length) (h2 : Rg b p c a (xs.map swS) N o2 (xs.map swS).length) (hl : o2[(xs.map swS).length + 1]? = some la) (hn : xs.length ≠ 0) : out[xs.length + 1]? = some la := by
  have e := rg_one hb (vp_sw v) h2 (rg_sw v h)
  obtain ⟨s1, _⟩ := sw_at h.one h.two h.len
  rw [e, List.length_map, show xs.length + 1 = (xs.length - 1) + 2 by omega, s1, show (xs.length - 1) + 2 = xs.length + 1 by omega] at hl
  exact hl
theorem sw_sw {xs : List ST} (v : Vp xs) : (xs.map swS).map swS = xs := by
  rw [List.map_map]
  refine (List.map_congr_left fun x hx => ?_).trans (List.map_id _)
  obtain ⟨i, hi⟩ := List.mem_iff_getElem?.mp hx
  obtain ⟨_, h2, h3, _⟩ := v.2 i x hi
  have q : ∀ z : Int, 0 ≤ z → swI (swI z) = z := fun z h => by unfold swI; (repeat' split) <;> omega
  show (⟨x.op, swI (swI x.l), swI (swI x.r), x.m⟩ : ST) = x
  rw [q _ h2.1, q _ h3.1]
theorem Vp.nil : Vp [] := ⟨Nat.zero_le _, fun i x e => by simp at e⟩
theorem Vp.snoc {xs : List ST} {x : ST} (h : Vp xs) (l : xs.length < 12) (v : Vs xs.length x) : Vp (xs ++ [x]) := ⟨by rw [List.length_append]; show xs.length + 1 ≤ 12; omega, fun i y e => by
  rcases Nat.lt_trichotomy i xs.length with l | l | l
  · rw [List.getElem?_append_left l] at e; exact h.2 i y e
  · subst l
    rw [List.getElem?_append_right (Nat.le_refl _), Nat.sub_self] at e
    cases e; exact v
  · rw [List.getElem?_append_right (by omega)] at e
    rw [List.getElem?_eq_none (by show 1 ≤ _; omega)] at e; cases e⟩

theorem nrm_sg {b c e : Int} (hb : 2 ≤ b) : ((nrm b c e).c < 0 ↔ c < 0) ∧ ((nrm b c e).c = 0 ↔ c = 0) := by
  by_cases hc : c = 0
  · rw [hc, nrm_zero]; exact ⟨Iff.rfl, Iff.rfl⟩
  · obtain ⟨i1, i2⟩ := strip_ok hb c.natAbs c hc (Nat.le_refl _)
    rw [nrm_of hb hc i1 i2]
    have hp := pow_pos' hb (strip b c.natAbs c).2
    dsimp only
    generalize (strip b c.natAbs c).1 = r at *
    generalize b ^ (strip b c.natAbs c).2 = p at *
    refine ⟨⟨fun h => ?_, fun h => ?_⟩, ⟨fun h => ?_, fun h => absurd h hc⟩⟩
    · rw [i1]; exact Int.mul_neg_of_neg_of_pos h (by omega)
    · rcases Int.lt_or_le r 0 with q | q
      · exact q
      · exfalso
        have := Int.mul_nonneg q (by omega : 0 ≤ p)
        omega
    · rw [i1, h, Int.zero_mul]
def Sg (r d : Int) : Prop := (r < 0 ↔ d < 0) ∧ (r = 0 ↔ d = 0)
theorem Sg.lt {r d : Int} (h : Sg r d) : decide (r < 0) = decide (d < 0) := decide_eq_decide.mpr h.1
theorem Sg.le {r d : Int} (h : Sg r d) : decide (r ≤ 0) = decide (d ≤ 0) := decide_eq_decide.mpr (by have := h.1; have := h.2; omega)
theorem Sg.gt {r d : Int} (h : Sg r d) : decide (r > 0) = decide (d > 0) := decide_eq_decide.mpr (by have := h.1; have := h.2; omega)
theorem Sg.ge {r d : Int} (h : Sg r d) : decide (r ≥ 0) = decide (d ≥ 0) := decide_eq_decide.mpr (by have := h.1; have := h.2; omega)
theorem sg_of {x y : EN} {p q e : Int} (hb : 2 ≤ x.b) (h : nrm x.b (p + -1 * q) e = addE (-1) x y) : Sg (p - q) (addE (-1) x y).c := by
  rw [← h]
  obtain ⟨h1, h2⟩ := nrm_sg (c := p + -1 * q) (e := e) hb
  unfold Sg
  omega
theorem eq_off {u v : EN} (lu : Low u) (lv : Low v) (e : v.b = u.b) : (u.b = v.b ∧ u.e = v.e ∧ u.c = v.c) ↔ (addE (-1) u v).c = 0 := by
  constructor
  · rintro ⟨_, he, hc⟩
    have : v = u := by
      obtain ⟨ub, uc, ue⟩ := u
      obtain ⟨vb, vc, ve⟩ := v
      dsimp only at *
      rw [e, hc, he]
    rw [this]
    unfold addE
    rw [show ∀ z : Int, z + -1 * z = 0 by intro z; omega, nrm_zero]
  · intro h
    have h2 := (nrm_sg lu.b2).2.mp h
    have a1 := nrm_shift (c := u.c) (e := min u.e v.e) lu.b2 (u.e - min u.e v.e).toNat
    have a2 := nrm_shift (c := v.c) (e := min u.e v.e) lu.b2 (v.e - min u.e v.e).toNat
    have e3 : u.c * u.b ^ (u.e - min u.e v.e).toNat = v.c * u.b ^ (v.e - min u.e v.e).toNat := by omega
    rw [e3, a2] at a1
    rw [show min u.e v.e + ((v.e - min u.e v.e).toNat : Int) = v.e by omega, show min u.e v.e + ((u.e - min u.e v.e).toNat : Int) = u.e by omega, nrm_low lu, ← e, nrm_low lv] at a1
    rw [a1]
    exact ⟨rfl, rfl, rfl⟩
theorem cmp_ok {base x0 x1 y0 y1 o0 o1 : Int} {a b : EN} (h2 : 2 ≤ base) (h6 : base ≤ 36) (ha : a = nrm base x0 x1) (hb : b = nrm base y0 y1) (ho : (⟨base, o0, o1⟩ : EN) = addE (0 - 1) ⟨base, x0, x1⟩ ⟨base, y0, y1⟩) :
    (addE (-1) a b).c = o0 ∧ decide (a.b = b.b ∧ a.e = b.e ∧ a.c = b.c) = decide (o0 = 0) := by
  have e1 : addE (-1) a b = ⟨base, o0, o1⟩ := by
    rw [ho, ha, hb]
    have q := add_nrm_l (y := nrm base y0 y1) (-1) x0 x1 (by rw [nrm_b]; exact h2)
    rw [nrm_b] at q
    rw [q]
    exact add_nrm_r (x := ⟨base, x0, x1⟩) (-1) y0 y1 h2
  have e2 : (addE (-1) a b).c = o0 := by rw [e1]
  refine ⟨e2, ?_⟩
  rw [← e2]
  refine decide_eq_decide.mpr (eq_off ?_ ?_ ?_)
  · rw [ha]; exact low_nrm h2 h6
  · rw [hb]; exact low_nrm h2 h6
  · rw [ha, hb, nrm_b, nrm_b]
theorem told_ok {base x0 x1 y0 y1 o0 o1 : Int} {a b : EN} {p1 p2 p3 p4 p5 p6 : Bool} (h2 : 2 ≤ base) (h6 : base ≤ 36) (ha : a = nrm base x0 x1) (hb : b = nrm base y0 y1) (ho : (⟨base, o0, o1⟩ : EN) = addE (0 - 1) ⟨base, x0, x1⟩ ⟨base, y0, y1⟩)
    (q1 : p1 = decide ((addE (-1) a b).c < 0)) (q2 : p2 = decide ((addE (-1) a b).c ≤ 0)) (q3 : p3 = decide ((addE (-1) a b).c > 0)) (q4 : p4 = decide ((addE (-1) a b).c ≥ 0))
    (q5 : p5 = decide (a.b = b.b ∧ a.e = b.e ∧ a.c = b.c)) (q6 : p6 = decide (a.b = b.b ∧ a.e = b.e ∧ a.c = b.c)) : [p1, p2, p3, p4, p5, !p6] = [decide (o0 < 0), decide (o0 ≤ 0), decide (o0 > 0), decide (o0 ≥ 0), decide (o0 = 0), !decide (o0 = 0)] := by
  obtain ⟨e1, e2⟩ := cmp_ok h2 h6 ha hb ho
  rw [q1, q2, q3, q4, q5, q6, e1, e2]
theorem bd_rg {base c e : Int} (h2 : 2 ≤ base) (h6 : base ≤ 36) (hz : Sz 1300 c) (h0 : -100 ≤ e) (h1 : e ≤ 800) : Bd 100 6701 (nrm base c e) :=
  Bd.nrm h2 (by omega) (hz.mul ((Sz.pow36 h2 h6 (e + ((100 : Nat) : Int)).toNat).mono (by omega : 6 * (e + ((100 : Nat) : Int)).toNat + 1 ≤ 5401)))
theorem ad_rg {base c e c' e' : Int} (h2 : 2 ≤ base) (h6 : base ≤ 36) (h : Sz 1300 c ∧ -100 ≤ e ∧ e ≤ 800) (h' : Sz 1300 c' ∧ -100 ≤ e' ∧ e' ≤ 800) : Ad (nrm base c e) (nrm base c' e') :=
  ⟨by rw [nrm_b, nrm_b], 100, 6701, by decide, bd_rg h2 h6 h.1 h.2.1 h.2.2, bd_rg h2 h6 h'.1 h'.2.1 h'.2.2⟩

theorem rq_off {n d : Int} (m : Str) (hd : 0 < d) : (n % d = 0 ∧ rq n d m * d - n = 0) ∨ (n % d ≠ 0 ∧ rqUp n d m = true ∧ rq n d m = n / d + 1 ∧ rq n d m * d - n = d - n % d) ∨ (n % d ≠ 0 ∧ rqUp n d m = false ∧ rq n d m = n / d ∧ rq n d m * d - n = -(n % d)) := by
  have e := Int.mul_ediv_add_emod n d
  have e1 := Int.emod_nonneg n (show d ≠ 0 by omega)
  have e2 := Int.emod_lt_of_pos n hd
  unfold rq
  by_cases h : n % d = 0
  · rw [if_pos h]
    exact .inl ⟨h, by rw [Int.mul_comm]; omega⟩
  · rw [if_neg h]
    cases u : rqUp n d m with
    | true =>
      rw [if_pos rfl]
      exact .inr (.inl ⟨h, rfl, rfl, by rw [Int.add_mul, Int.one_mul, Int.mul_comm]; omega⟩)
    | false =>
      rw [if_neg (by decide)]
      exact .inr (.inr ⟨h, rfl, rfl, by rw [Int.mul_comm]; omega⟩)
theorem sgn_pos {o n : Int} (h : 0 < o) : decide (0 < o * n) = decide (0 < n) := by
  refine decide_eq_decide.mpr ⟨fun q => ?_, fun q => Int.mul_pos h q⟩
  rcases Int.lt_trichotomy n 0 with z | z | z
  · have := Int.mul_neg_of_pos_of_neg h z; omega
  · rw [z, Int.mul_zero] at q; omega
  · exact z
theorem sgn_neg {o n : Int} (h : o < 0) (hn : n ≠ 0) : decide (0 < o * n) = !decide (0 < n) := by
  rcases Int.lt_trichotomy n 0 with z | z | z
  · rw [decide_eq_true (Int.mul_pos_of_neg_of_neg h z), decide_eq_false (by omega)]; rfl
  · exact absurd z hn
  · have := Int.mul_neg_of_neg_of_pos h z
    rw [decide_eq_false (by omega), decide_eq_true z]; rfl
/-- what the law asks -/
structure Chosen (n d : Int) (m : Str) (o : Int) : Prop where
  lt : (if o < 0 then -o else o) < d
  io : m = "inward" ∨ m = "outward" → o ≠ 0 → decide (0 < o * n) = decide (m = "outward")
  ud : m = "upward" ∨ m = "downward" → o ≠ 0 → decide (0 < o) = decide (m = "upward")
  nr : ¬ (m = "inward" ∨ m = "outward") → ¬ (m = "upward" ∨ m = "downward") → o ≠ 0 → 2 * (if o < 0 then -o else o) ≠ d → 2 * (if o < 0 then -o else o) < d
  ev : m = "nearest-even" → o ≠ 0 → 2 * (if o < 0 then -o else o) = d → rq n d m % 2 = 0
  no : m = "nearest-out" ∨ m = "nearest-in" → o ≠ 0 → 2 * (if o < 0 then -o else o) = d → decide (0 < o * n) = decide (m = "nearest-out")
  nu : m = "nearest-up" ∨ m = "nearest-down" → o ≠ 0 → 2 * (if o < 0 then -o else o) = d → decide (0 < o) = decide (m = "nearest-up")
theorem chosen {n d : Int} {m : Str} (hd : 0 < d) (hm : m ∈ modes9) : Chosen n d m (rq n d m * d - n) := by
  have e := Int.mul_ediv_add_emod n d
  have e1 := Int.emod_nonneg n (show d ≠ 0 by omega)
  have e2 := Int.emod_lt_of_pos n hd
  rcases rq_off (n := n) m hd with ⟨_, h⟩ | ⟨hr, hu, hq, h⟩ | ⟨hr, hu, hq, h⟩
  · rw [h]
    exact ⟨by simpa using hd, fun _ z => absurd rfl z, fun _ z => absurd rfl z, fun _ _ z => absurd rfl z, fun _ z => absurd rfl z, fun _ z => absurd rfl z, fun _ z => absurd rfl z⟩
  · have hn : n ≠ 0 := fun z => by rw [z] at hr; simp at hr
    rw [h]
    have ho : 0 < d - n % d := by omega
    have e3 : (if d - n % d < 0 then -(d - n % d) else d - n % d) = d - n % d := if_neg (by omega)
    have e4 : decide (0 < d - n % d) = true := decide_eq_true ho
    rw [rqUp] at hu
    constructor
    · rw [e3]; omega
    · rintro (rfl | rfl) _ <;> rw [sgn_pos ho] <;> simpa [near5, goesUp] using hu
    · rintro (rfl | rfl) _ <;> rw [e4] <;> simpa [near5, goesUp] using hu
    · intro a1 a2 _ a3
      rw [e3] at a3 ⊢
      have g : m ∈ near5 := by
        rcases mem9 hm with rfl | rfl | rfl | rfl | rfl | rfl | rfl | rfl | rfl <;> first | exact absurd (Or.inl rfl) a1 | exact absurd (Or.inr rfl) a1 | exact absurd (Or.inl rfl) a2 | exact absurd (Or.inr rfl) a2 | decide +kernel
      rw [if_neg (by simpa using g), if_neg (by omega)] at hu
      have := of_decide_eq_true hu
      omega
    · rintro rfl _ a3
      rw [e3] at a3
      rw [if_neg (by decide +kernel), if_pos (by omega)] at hu
      rw [hq]
      have := of_decide_eq_true (show decide (n / d % 2 = 1) = true by simpa [tieUp] using hu)
      omega
    · intro a1 _ a3
      rw [e3] at a3
      rw [sgn_pos ho]
      rcases a1 with rfl | rfl
      · rw [if_neg (by decide +kernel), if_pos (by omega)] at hu
        simpa [tieUp] using hu
      · rw [if_neg (by decide +kernel), if_pos (by omega)] at hu
        simpa [tieUp] using hu
    · intro a1 _ a3
      rw [e3] at a3
      rw [e4]
      rcases a1 with rfl | rfl
      · simp
      · rw [if_neg (by decide +kernel), if_pos (by omega)] at hu
        simpa [tieUp] using hu
  · have hn : n ≠ 0 := fun z => by rw [z] at hr; simp at hr
    rw [h]
    have ho : -(n % d) < 0 := by omega
    have e3 : (if -(n % d) < 0 then -(-(n % d)) else -(n % d)) = n % d := by rw [if_pos ho]; omega
    have e4 : decide (0 < -(n % d)) = false := decide_eq_false (by omega)
    rw [rqUp] at hu
    constructor
    · rw [e3]; omega
    · rintro (rfl | rfl) _ <;> rw [sgn_neg ho hn] <;> simpa [near5, goesUp] using hu
    · rintro (rfl | rfl) _ <;> rw [e4] <;> simpa [near5, goesUp] using hu
    · intro a1 a2 _ a3
      rw [e3] at a3 ⊢
      have g : m ∈ near5 := by
        rcases mem9 hm with rfl | rfl | rfl | rfl | rfl | rfl | rfl | rfl | rfl <;> first | exact absurd (Or.inl rfl) a1 | exact absurd (Or.inr rfl) a1 | exact absurd (Or.inl rfl) a2 | exact absurd (Or.inr rfl) a2 | decide +kernel
      rw [if_neg (by simpa using g), if_neg (by omega)] at hu
      have := of_decide_eq_false hu
      omega
    · rintro rfl _ a3
      rw [e3] at a3
      rw [if_neg (by decide +kernel), if_pos (by omega)] at hu
      rw [hq]
      have := of_decide_eq_false (show decide (n / d % 2 = 1) = false by simpa [tieUp] using hu)
      omega
    · intro a1 _ a3
      rw [e3] at a3
      rw [sgn_neg ho hn]
      rcases a1 with rfl | rfl
      · rw [if_neg (by decide +kernel), if_pos (by omega)] at hu
        simpa [tieUp] using hu
      · rw [if_neg (by decide +kernel), if_pos (by omega)] at hu
        simpa [tieUp] using hu
    · intro a1 _ a3
      rw [e3] at a3
      rw [e4]
      rcases a1 with rfl | rfl
      · rw [if_neg (by decide +kernel), if_pos (by omega)] at hu
        simpa [tieUp] using hu
      · simp
theorem odd_len {m : Str} (h : m.length ≤ 12) (a : Int) : (Txt.upper (cutS m (some a) (some (a + 1)))).length ≤ 40 ∧ (Txt.replace (Txt.upper (cutS m (some a) (some (a + 1)))) "-" "_").length ≤ 100 := by
  have q1 := cutS_length m (some a) (some (a + 1))
  have q2 := PyProof.Rows.len_upper (cutS m (some a) (some (a + 1)))
  have q3 := TK.replace_len (Txt.upper (cutS m (some a) (some (a + 1)))) "-" "_"
  have q4 : ("_" : Str).length = 1 := rfl
  rw [q4] at q3
  omega
/-- texts near the modes are none -/
def oddT (m : Str) (a : Int) : List Str := [cutS m none (some a), cutS m none (some a) ++ cutS m (some (a + 1)) none, cutS m none (some a) ++ Txt.replace (Txt.upper (cutS m (some a) (some (a + 1)))) "-" "_" ++ cutS m (some (a + 1)) none,
  m ++ " ", " " ++ m, cutS m none (some (a + 1)) ++ cutS m (some a) none]
theorem odd_all : ∀ m ∈ modes9, ∀ a < m.length, ∀ t ∈ oddT m (a : Nat), t ∉ modes9 := by decide +kernel
theorem odd_not {m : Str} {a : Int} (hm : m ∈ modes9) (h0 : 0 ≤ a) (h1 : a < m.length) {t : Str} (ht : t ∈ oddT m a) : t ∉ modes9 := by
  obtain ⟨n, rfl⟩ := Int.eq_ofNat_of_zero_le h0
  exact odd_all m hm n (by omega) t ht
theorem len9 : ∀ m ∈ modes9, 1 ≤ m.length ∧ m.length ≤ 12 := by decide +kernel
def words8 : List Str := ["nearest", "even", "up", "down", "in", "out", "near", "none"]
theorem words_not : ∀ t ∈ words8, t ∉ modes9 := by decide +kernel
theorem nin9 {m : Str} (h : m ∉ modes9) : inV (.str m) (modes9.map V.str) = false := by rw [in_str]; exact decide_eq_false h

theorem Res.same {b p : Int} {o : Option Int} {x z r : EN} {m : Str} (h : Res b p o x z m) (h' : Rd p o x m r) : r = z := by
  have h2 := res_of h.hb h.b36 h.hp h.ho h.lx h.gx h.hm h'
  have := h.gz.lo
  have := h2.gz.lo
  exact Vl_inj h2.lz h.lz h2.gz.eb h.gz.eb (by omega) (by omega) (ri_fun h.hb h2.ri h.ri)
structure Pre (b x0 x1 : Int) (v : EN) : Prop where
  low : Low v
  gb : Gb b 900 v
  vl : Vl b v = Vl b ⟨b, x0, x1⟩
  eb : v.b = b
  b2 : 2 ≤ v.b
  b36 : v.b ≤ 36
  zc : Sz 8990 v.c
  z0 : Sz 9000 x0
  r1 : -9000 ≤ x1 ∧ x1 ≤ 9000
theorem pre_ok {b x0 x1 : Int} {v : EN} (hb : 2 ≤ b) (h6 : b ≤ 36) (hv : v = nrm b x0 x1) (g : Gb b 900 ⟨b, x0, x1⟩) : Pre b x0 x1 v := by
  subst hv
  obtain ⟨g1, g2⟩ := g.nr hb h6 (by decide)
  have eb : (nrm b x0 x1).b = b := nrm_b _ _ _
  have l : -160 ≤ x1 := g.lo
  have h : x1 ≤ 800 := g.hi
  exact ⟨low_nrm hb h6, g1, g2, eb, by omega, by omega, (g1.sz hb h6).1.mono (by decide), (g.sz hb h6).1.mono (by decide), by omega⟩
theorem nm_many {b c e cnt p : Int} {o : Option Int} (hb : 2 ≤ b) (h : IsDg b c cnt) (hc : c ≠ 0) (hp : 1 ≤ p) (l : p < cnt) : ¬ Nm p o ⟨b, c, e⟩ := by
  rcases h with ⟨q, _⟩ | ⟨_, h1, h2, h3⟩
  · exact absurd q hc
  · have := pow_le' hb (show p.toNat ≤ (cnt - 1).toNat by omega)
    cases o with
    | none =>
      rintro (q | q)
      · exact hc q
      · have q : (c.natAbs : Int) < b ^ p.toNat := q
        omega
    | some o =>
      rintro (q | ⟨q, _⟩)
      · exact hc q
      · have q : (c.natAbs : Int) < b ^ p.toNat := q
        omega
theorem nm_few {b c cnt p : Int} (hb : 2 ≤ b) (h : IsDg b c cnt) (hp : 1 ≤ p) (l : ¬ p < cnt) : (c.natAbs : Int) < b ^ p.toNat := by
  rcases h with ⟨q, _⟩ | ⟨_, h1, h2, h3⟩
  · subst q
    have := pow_pos' hb p.toNat
    have : (((0 : Int).natAbs : Nat) : Int) = 0 := rfl
    omega
  · exact Int.lt_of_lt_of_le h3 (pow_le' hb (by omega))
theorem tail_ok {s q : Int} (hs : 2 ≤ s) (h0 : 0 ≤ q) (h1 : q < 7) : 0 ≤ ([s / 2, (s + 1) / 2, s / 2 + 1, 1, s - 1, 0, s / 2 - 1] : List Int).getD q.toNat 0 ∧ ([s / 2, (s + 1) / 2, s / 2 + 1, 1, s - 1, 0, s / 2 - 1] : List Int).getD q.toNat 0 ≤ s := by
  have : q = 0 ∨ q = 1 ∨ q = 2 ∨ q = 3 ∨ q = 4 ∨ q = 5 ∨ q = 6 := by omega
  rcases this with rfl | rfl | rfl | rfl | rfl | rfl | rfl
  · show 0 ≤ s / 2 ∧ s / 2 ≤ s; omega
  · show 0 ≤ (s + 1) / 2 ∧ (s + 1) / 2 ≤ s; omega
  · show 0 ≤ s / 2 + 1 ∧ s / 2 + 1 ≤ s; omega
  · show (0 : Int) ≤ 1 ∧ 1 ≤ s; omega
  · show 0 ≤ s - 1 ∧ s - 1 ≤ s; omega
  · show (0 : Int) ≤ 0 ∧ 0 ≤ s; omega
  · show 0 ≤ s / 2 - 1 ∧ s / 2 - 1 ≤ s; omega
theorem two_at {a b q : Int} (h0 : 0 ≤ q) (h1 : q < 2) : atI [V.int a, V.int b] q = some (V.int (if q = 0 then a else b)) := by
  have : q = 0 ∨ q = 1 := by omega
  rcases this with rfl | rfl <;> rfl
theorem long_ok {b f t s e more : Int} (hb : 2 ≤ b) (hf : Sz 300 f) (h0 : 0 ≤ t) (h1 : t ≤ b ^ more.toNat) (hs : s = 1 ∨ s = -1) (m1 : more ≤ 100) (e0 : -160 ≤ e) (e1 : e ≤ 100) : Gb b 880 ⟨b, s * (f * b ^ more.toNat + t), e⟩ := by
  refine gb_of (K := 401) hb ?_ e0 e1 (by decide)
  have p := pow_pos' hb more.toNat
  have hF := sz_pow hb hf
  have q : ((f * b ^ more.toNat).natAbs : Int) < b ^ 300 * b ^ more.toNat := by
    rw [Int.natAbs_mul, Int.natCast_mul, show ((b ^ more.toNat).natAbs : Int) = b ^ more.toNat by omega]
    exact Int.mul_lt_mul_of_pos_right hF (by omega)
  rw [← Int.pow_add] at q
  have q2 := pow_le' hb (show 300 + more.toNat ≤ 400 by omega)
  have q3 := pow_le' hb (show more.toNat ≤ 400 by omega)
  have q4 : b ^ 400 + b ^ 400 ≤ b ^ 401 := pow_two_le hb 400
  rcases hs with rfl | rfl
  · rw [Int.one_mul]; omega
  · rw [Int.neg_mul, Int.one_mul]; omega
theorem gb_small {b c e : Int} (hb : 2 ≤ b) (h : c.natAbs < 128) (h0 : -160 ≤ e) (h1 : e ≤ 100) : Gb b 880 ⟨b, c, e⟩ := by
  refine gb_of (K := 7) hb ?_ h0 h1 (by decide)
  exact sz_pow hb (show Sz 7 c from h)
theorem gb_free {b c e : Int} (h : Gd 20 700 b c e) : Gb b 880 ⟨b, (if c < 0 then -c else c), e⟩ := by
  have ea : (if c < 0 then -c else c) = (c.natAbs : Int) := by split <;> omega
  rw [ea]
  have hb : 2 ≤ b := h.1.b2
  have r := h.rng
  have q : Sz 700 (c * b ^ (e + 20).toNat) := h.2.2
  have q := sz_pow hb q
  refine ⟨rfl, by show -160 ≤ e; omega, by show e ≤ 800; omega, ?_⟩
  show (((c.natAbs : Int) * b ^ (e + 200).toNat).natAbs : Int) < _
  have p := pow_pos' hb (e + 20).toNat
  have p2 := pow_pos' hb 180
  rw [show (e + 200).toNat = (e + 20).toNat + 180 by omega, Int.pow_add, ← Int.mul_assoc, Int.natAbs_mul, Int.natCast_mul, show ((b ^ 180).natAbs : Int) = b ^ 180 by omega, show (880 : Nat) = 700 + 180 by decide, Int.pow_add]
  refine Int.mul_lt_mul_of_pos_right ?_ (by omega)
  rw [Int.natAbs_mul, Int.natCast_mul] at q ⊢
  simpa using q
theorem near_of {m : Str} (hm : m ∈ modes9) (h : Txt.startswith m "nearest" = true) : m ∈ near5 := by
  revert h
  rcases mem9 hm with rfl | rfl | rfl | rfl | rfl | rfl | rfl | rfl | rfl <;> decide +kernel
theorem loss_is {b x0 x1 z0 z1 l0 l1 : Int} {v r L : EN} (hb : 2 ≤ b) (h6 : b ≤ 36) (hv : v = nrm b x0 x1) (hl : (⟨b, l0, l1⟩ : EN) = addE (0 - 1) ⟨b, x0, x1⟩ ⟨b, z0, z1⟩) (hL : L = addE (-1) v r) (hr : r = ⟨b, z0, z1⟩) :
    (⟨b, l0, l1⟩ : EN) = L ∧ L = nrm b l0 l1 := by
  subst hr
  have e : addE (-1) v ⟨b, z0, z1⟩ = addE (-1) ⟨b, x0, x1⟩ ⟨b, z0, z1⟩ := by
    rw [hv]
    exact add_nrm_l (y := ⟨b, z0, z1⟩) (-1) x0 x1 hb
  have e2 : (⟨b, l0, l1⟩ : EN) = L := by rw [hL, e]; exact hl
  refine ⟨e2, ?_⟩
  rw [← e2]
  have lo : Low (⟨b, l0, l1⟩ : EN) := by rw [hl]; exact low_add (s := 0 - 1) (x := ⟨b, x0, x1⟩) (y := ⟨b, z0, z1⟩) hb h6
  exact (nrm_low lo).symm
theorem sub_same {x : EN} (hb : 2 ≤ x.b) : (addE (-1) x x).c = 0 := by
  unfold addE
  rw [show x.c * x.b ^ (x.e - min x.e x.e).toNat + -1 * (x.c * x.b ^ (x.e - min x.e x.e).toNat) = 0 by omega, nrm_zero]
theorem un_rg {b p u : Int} {o : Option Int} {x : EN} (hb : 2 ≤ b) (g : Gb b 900 x) (hp : 1 ≤ p ∧ p ≤ 40) (ho : oOk o) (h : Un p o x u) (hc : x.c ≠ 0) : -9000 ≤ u ∧ u ≤ 9000 := by
  obtain ⟨h1, d, hd, hw⟩ := un_w hb g.eb g.lo hp ho hc h
  have := pow_lt_inv hb hd.2.1 g.vl
  have := wO_le ho
  omega
theorem nrm_cz {b c e : Int} {n : Nat} (hb : 2 ≤ b) (h : Sz n c) : Sz n (nrm b c e).c := by
  by_cases hc : c = 0
  · rw [hc, nrm_zero]; exact Sz.zero
  · obtain ⟨i1, i2⟩ := strip_ok hb c.natAbs c hc (Nat.le_refl _)
    rw [nrm_of (e := e) hb hc i1 i2]
    refine h.le ?_
    show (strip b c.natAbs c).1.natAbs ≤ _
    conv => rhs; rw [i1]
    rw [Int.natAbs_mul]
    have := pow_pos' hb (strip b c.natAbs c).2
    exact Nat.le_mul_of_pos_right _ (by omega)
theorem step_ok {b x0 x1 s0 s1 y0 y1 : Int} (hb : 2 ≤ b) (h6 : b ≤ 36) (gx : Gb b 880 ⟨b, x0, x1⟩) (gs : Gb b 880 ⟨b, s0, s1⟩) (h0 : 0 ≤ s0) (hy : (⟨b, y0, y1⟩ : EN) = addE 1 ⟨b, x0, x1⟩ ⟨b, s0, s1⟩) :
    Gb b 900 ⟨b, y0, y1⟩ ∧ Vl b ⟨b, x0, x1⟩ ≤ Vl b ⟨b, y0, y1⟩ := by
  rw [hy]
  obtain ⟨g, e⟩ := Gb.add hb h6 (.inl rfl) gx gs (by decide)
  refine ⟨g.mono hb (by decide), ?_⟩
  rw [e]
  have : 0 ≤ Vl b ⟨b, s0, s1⟩ := Int.mul_nonneg h0 (by show (0 : Int) ≤ b ^ (s1 + 200).toNat; have := pow_pos' hb (s1 + 200).toNat; omega)
  omega

structure GR where
  b : Int
  p : Int
  o : Option Int
  t : Option Int
def grF (x : GR) : List (Str × V) := putF "top" (optV x.t) (putF "bottom" (optV x.o) (putF "precision" (.int x.p) (putF "base" (.int x.b) [])))
def bOk : Option Int → Option Int → Prop
  | some x, some y => x ≤ y
  | _, _ => True
def tO : Option Int → Int
  | some y => y
  | none => 0
/-- the greatest number -/
def gtE (g : GR) : EN := nrm g.b (g.b ^ g.p.toNat - 1) (tO g.t)
/-- greater in size than the greatest -/
def Abv (g : GR) (x : EN) : Prop := g.t ≠ none ∧ (addE (-1) (absE x) (gtE g)).c > 0
/-- what comparing with the greatest wants -/
def ByOk (g : GR) (x : EN) : Prop := Low x ∧ Sz 9000 x.c ∧ (g.t ≠ none → (2 ≤ g.b ∧ g.b ≤ 36 ∧ 3 ≤ g.p ∧ g.p ≤ 200) ∧ Ad (absE x) (gtE g))
def szO (o : Option Int) (e : Int) : Prop := ∀ z, o = some z → z - e ≤ 1480
theorem un_sz {p u : Int} {x : EN} {o : Option Int} (h2 : 2 ≤ x.b) (h6 : x.b ≤ 36) (hz : Sz 8990 x.c) (hc : x.c ≠ 0) (hp : 1 ≤ p) (ho : szO o x.e) (h : Un p o x u) (hl : x.e < u) : Sz 8990 (x.b ^ (u - x.e).toNat) := by
  obtain ⟨u0, h1, h3⟩ := h
  have hdl := dg_le h2 h1 hz
  cases o with
  | none =>
    have e : u = u0 := h3
    subst e
    exact dg_pow h2 h1 hc hz (by omega)
  | some o =>
    have e : u = max u0 o := h3
    have q := ho o rfl
    rcases Int.le_total u0 o with l | l
    · rw [show u = o by omega]
      exact (Sz.pow36 h2 h6 _).mono (by omega)
    · rw [show u = u0 by omega]
      exact dg_pow h2 h1 hc hz (by omega)
theorem un_rg2 {p u : Int} {x : EN} {o : Option Int} (h2 : 2 ≤ x.b) (hz : Sz 8990 x.c) (hp : 1 ≤ p) (ho : szO o x.e) (h : Un p o x u) : u - x.e ≤ 9000 := by
  obtain ⟨u0, h1, h3⟩ := h
  have hdl := dg_le h2 h1 hz
  cases o with
  | none =>
    have e : u = u0 := h3
    omega
  | some o =>
    have e : u = max u0 o := h3
    have q := ho o rfl
    omega
theorem rd_of {p u : Int} {x : EN} {o : Option Int} {m : Str} {r : EN} (hc : x.c ≠ 0) (h : Un p o x u) (e : r = rnd x u m) : Rd p o x m r := by
  obtain ⟨u0, h1, h3⟩ := h
  cases o with
  | none => exact .inr ⟨hc, u0, h1, by rw [e, show u = u0 from h3]⟩
  | some o => exact .inr ⟨hc, u0, h1, by rw [e, show u = max u0 o from h3]⟩
theorem rd_zero {p : Int} {x : EN} {o : Option Int} {m : Str} (hc : x.c = 0) : Rd p o x m x := by
  cases o with
  | none => exact .inl ⟨hc, rfl⟩
  | some o => exact .inl ⟨hc, rfl⟩

def tOk : Option Int → Prop
  | none => True
  | some t => -20 ≤ t ∧ t ≤ 31
theorem abs_nrm {b c e : Int} (hb : 2 ≤ b) : absE (nrm b c e) = nrm b (c.natAbs : Int) e := by
  by_cases hc : c = 0
  · subst hc
    rw [nrm_zero]
    show (⟨b, 0, 0⟩ : EN) = nrm b 0 e
    rw [nrm_zero]
  · obtain ⟨i1, i2⟩ := strip_ok hb c.natAbs c hc (Nat.le_refl _)
    rw [nrm_of hb hc i1 i2]
    have hp := pow_pos' hb (strip b c.natAbs c).2
    refine (nrm_of (r := ((strip b c.natAbs c).1.natAbs : Int)) hb (by omega) ?_ ?_).symm
    · conv => lhs; rw [i1]
      rw [Int.natAbs_mul, Int.natCast_mul]
      congr 1
      omega
    · intro w
      apply i2
      exact Int.emod_eq_zero_of_dvd (Int.dvd_natAbs.mp (Int.dvd_of_emod_eq_zero w))
theorem abv_nrm {b p : Int} {o t : Option Int} {c e : Int} (hb : 2 ≤ b) : addE (-1) (absE (nrm b c e)) (gtE ⟨b, p, o, t⟩) = addE (-1) ⟨b, (if c < 0 then -c else c), e⟩ ⟨b, b ^ p.toNat - 1, tO t⟩ := by
  have ea : (if c < 0 then -c else c) = (c.natAbs : Int) := by split <;> omega
  rw [abs_nrm hb, ea]
  show addE (-1) (nrm b (c.natAbs : Int) e) (nrm b (b ^ p.toNat - 1) (tO t)) = _
  have q := add_nrm_l (y := nrm b (b ^ p.toNat - 1) (tO t)) (-1) (c.natAbs : Int) e (by rw [nrm_b]; exact hb)
  rw [nrm_b] at q
  rw [q]
  exact add_nrm_r (x := ⟨b, (c.natAbs : Int), e⟩) (-1) _ _ hb
theorem nrm_ge {b c e : Int} (hb : 2 ≤ b) (hc : c ≠ 0) : e ≤ (nrm b c e).e := by
  obtain ⟨i1, i2⟩ := strip_ok hb c.natAbs c hc (Nat.le_refl _)
  rw [nrm_of hb hc i1 i2]
  show e ≤ e + _
  omega
theorem nrm_nz {b c e : Int} (hb : 2 ≤ b) (hc : c ≠ 0) : (nrm b c e).c ≠ 0 := by
  obtain ⟨i1, i2⟩ := strip_ok hb c.natAbs c hc (Nat.le_refl _)
  rw [nrm_of hb hc i1 i2]
  intro q
  have q : (strip b c.natAbs c).1 = 0 := q
  rw [q] at i2
  exact i2 (Int.zero_emod _)
theorem near_up {b u c e : Int} {m : Str} (hb : 2 ≤ b) (h6 : b ≤ 36) (he : -160 ≤ e) (hl : e < u) (hu : u ≤ 800) : nrm b (rq c (b ^ (u - e).toNat) m) u = rnd (nrm b c e) u m := by
  have eb : (nrm b c e).b = b := nrm_b _ _ _
  have l1 := nrm_lo (c := c) hb he (by decide)
  refine Vl_inj (b := b) (low_nrm hb h6) (rnd_low (low_nrm hb h6)) (nrm_b _ _ _) (by rw [rnd_b]; exact eb) (by have := nrm_lo (c := rq c (b ^ (u - e).toNat) m) hb (show (-160 : Int) ≤ u by omega) (by decide); omega) (by have := rnd_lo (u := u) (m := m) (x := nrm b c e) (l := -160) (by rw [eb]; exact hb) l1 (by decide); omega) ?_
  rw [Vl_nrm hb (by omega), rnd_V m hb eb (by omega) (by omega), Vl_nrm hb (by omega)]
  congr 1
  have p1 := pow_pos' hb (u - e).toNat
  have p2 := pow_pos' hb (e + 200).toNat
  rw [show (u + 200).toNat = (u - e).toNat + (e + 200).toNat by omega, Int.pow_add]
  exact (rq_scale m (by omega) (by omega)).symm
theorem near_lo {b u c e : Int} {m : Str} (hb : 2 ≤ b) (hc : c ≠ 0) (hl : u ≤ e) : nrm b c e = rnd (nrm b c e) u m := by
  unfold rnd
  rw [if_neg (by have := nrm_ge (e := e) hb hc; omega)]
/-- the unit of a number within bounds -/
theorem un_hi {b p u : Int} {o : Option Int} {x : EN} {N : Nat} (hb : 2 ≤ b) (g : Gb b N x) (hp : 1 ≤ p ∧ p ≤ 40) (ho : oOk o) (h : Un p o x u) (hc : x.c ≠ 0) (hN : 220 ≤ N) (hN2 : N ≤ 999) : -200 ≤ u ∧ u ≤ 800 := by
  obtain ⟨h1, d, hd, hw⟩ := un_w hb g.eb g.lo hp ho hc h
  have := pow_lt_inv hb hd.2.1 g.vl
  have := wO_le ho
  omega

structure RN where
  g : GR
  v : EN
  m : Str
  l : EN
structure MadeOk (g : GR) (m : Str) (x : EN) : Prop where
  b : g.b = x.b
  b2 : 2 ≤ x.b
  b36 : x.b ≤ 36
  sz : Sz 8990 x.c
  m9 : m ∈ modes9
  p1 : 1 ≤ g.p
  so : szO g.o x.e
  all : ∀ r, Rd g.p g.o x m r → ByOk g r ∧ ¬ Abv g r ∧ Nm g.p g.o r ∧ Ad x r ∧ r.b = x.b
def MadeR (g : GR) (m : Str) (x : EN) (r : RN) : Prop := ∃ z, Rd g.p g.o x m z ∧ r = ⟨g, z, m, addE (-1) x z⟩
theorem in_num2 {p dg : Int} {o : Option Int} {z : EN} (hp : 1 ≤ p) (hb : 2 ≤ z.b) (h : IsDg z.b z.c dg) (n : Nm p o z) : ¬ dg > p := by
  refine in_num hp hb h ?_
  cases o with
  | none => exact n
  | some o =>
    rcases n with q | q
    · exact .inl q
    · exact .inr q.1
def zE (b : Int) : EN := ⟨b, 0, 0⟩
theorem zE_nrm {b e : Int} : nrm b 0 e = zE b := nrm_zero b e
def OpOk (a b : RN) (s : Int) (x y : EN) : Prop := a.g = b.g ∧ a.m = b.m ∧ Ad x y ∧ MadeOk a.g a.m (addE s x y)

theorem near9 {m : Str} (h : m ∈ near5) : m ∈ modes9 := by
  simp only [near5, List.mem_cons, List.not_mem_nil, or_false] at h
  rcases h with rfl | rfl | rfl | rfl | rfl <;> decide +kernel
theorem in5' (m : Str) : inV (.str m) (near5.map V.str) = decide (m ∈ near5) := in5 m
theorem bad_len : ∀ m ∈ modes9, 1 ≤ m.length ∧ m.length ≤ 12 := len9
theorem last_ok : ∀ m ∈ modes9, (atI m.cps.toList ((m.length : Int) - 1)).isSome = true := by decide +kernel
theorem split_len : ∀ m ∈ modes9, 1 ≤ (Txt.split m "-").length ∧ ((Txt.split m "-").getD 0 "").length ≤ 12 := by decide +kernel
theorem split_ok (m : Str) (hm : m ∈ modes9) : ∃ t, (Txt.split m "-")[0]? = some t ∧ t.length ≤ 12 := by
  obtain ⟨h1, h2⟩ := split_len m hm
  refine ⟨_, ?_, h2⟩
  rw [List.getD_eq_getElem?_getD, List.getElem?_eq_getElem (by omega)]
  rfl
theorem dash_not : ∀ m ∈ modes9, m ++ "-" ∉ modes9 := by decide +kernel
theorem near_at {q : Int} (h0 : 0 ≤ q) (h1 : q < 5) : modes9.getD q.toNat "" ∈ near5 := by
  have : q = 0 ∨ q = 1 ∨ q = 2 ∨ q = 3 ∨ q = 4 := by omega
  rcases this with rfl | rfl | rfl | rfl | rfl <;> decide +kernel
theorem dir_at {q : Int} (h0 : 0 ≤ q) (h1 : q < 4) : modes9.getD (5 + q).toNat "" ∈ modes9 ∧ modes9.getD (5 + q).toNat "" ∉ near5 := by
  have : q = 0 ∨ q = 1 ∨ q = 2 ∨ q = 3 := by omega
  rcases this with rfl | rfl | rfl | rfl <;> exact ⟨by decide +kernel, by decide +kernel⟩

theorem chT_len (z : Str) (i : Int) : (chT z i).length ≤ 1 := by
  unfold chT
  split
  · exact Nat.le_refl 1
  · exact Nat.zero_le 1

theorem by_free {g : GR} {x : EN} (h : Low x) (z : Sz 9000 x.c) (t : g.t = none) : ByOk g x := ⟨h, z, fun q => absurd t q⟩
theorem abv_free {g : GR} {x : EN} (t : g.t = none) : ¬ Abv g x := fun h => h.1 t
theorem Gb.szr {b c e : Int} {N : Nat} (hb : 2 ≤ b) (h6 : b ≤ 36) (h : Gb b N ⟨b, c, e⟩) (hN : N ≤ 1000) : Sz 9000 c ∧ -9000 ≤ e ∧ e ≤ 9000 := by
  have q1 : -160 ≤ e := h.lo
  have q2 : e ≤ 800 := h.hi
  exact ⟨(h.sz hb h6).1.mono (by omega), by omega, by omega⟩

theorem fits_iff {b p c e cnt : Int} (hb : 2 ≤ b) (hp : 1 ≤ p) (h : IsDg b c cnt) : decide (cnt ≤ p) = true ↔ Nm p none ⟨b, c, e⟩ := by
  constructor
  · intro q
    exact .inr (nm_few hb h hp (by have := of_decide_eq_true q; omega))
  · intro n
    have := in_num (z := ⟨b, c, e⟩) hp hb h n
    exact decide_eq_true (by omega)

theorem ab1 {a c : Int} (h : a = c) : (a.natAbs : Int) = (c.natAbs : Int) := by rw [h]

@[irreducible] def K1 : Nat := 1000
theorem K1_eq : K1 = 1000 := by unfold K1; rfl
/-- the place of n / d -/
def Pl (b n d k : Int) : Prop := -1000 ≤ k ∧ d * b ^ (k + (K1 : Int)).toNat ≤ (n.natAbs : Int) * b ^ K1 ∧ (n.natAbs : Int) * b ^ K1 < d * b ^ (k + 1 + (K1 : Int)).toNat
theorem pl_lt {b n d k k' : Int} (hb : 2 ≤ b) (hd : 0 < d) (h : Pl b n d k) (h' : Pl b n d k') : ¬ k < k' := by
  intro l
  obtain ⟨a1, _, a3⟩ := h
  obtain ⟨b1, b2, _⟩ := h'
  have := Int.mul_le_mul_of_nonneg_left (pow_le' hb (show (k + 1 + (K1 : Int)).toNat ≤ (k' + (K1 : Int)).toNat by omega)) (show 0 ≤ d by omega)
  omega
theorem pl_one {b n d k k' : Int} (hb : 2 ≤ b) (hd : 0 < d) (h : Pl b n d k) (h' : Pl b n d k') : k = k' := by
  have := pl_lt hb hd h h'
  have := pl_lt hb hd h' h
  omega
theorem sc_hi {b n d k : Int} (hb : 2 ≤ b) (hk : 0 ≤ k) : n < d * b ^ k.toNat ↔ n * b ^ K1 < d * b ^ (k + (K1 : Int)).toNat := by
  have e : (k + (K1 : Int)).toNat = k.toNat + K1 := by omega
  have p := pow_pos' hb K1
  rw [e, Int.pow_add, ← Int.mul_assoc]
  exact ⟨fun h => Int.mul_lt_mul_of_pos_right h (by omega), fun h => Int.lt_of_mul_lt_mul_right h (by omega)⟩
theorem sc_lo {b n d k : Int} (hb : 2 ≤ b) (hk : k < 0) (h1 : -1000 ≤ k) : n * b ^ (-k).toNat < d ↔ n * b ^ K1 < d * b ^ (k + (K1 : Int)).toNat := by
  have e : K1 = (-k).toNat + (k + (K1 : Int)).toNat := by have := K1_eq; omega
  have p := pow_pos' hb (k + (K1 : Int)).toNat
  conv => rhs; lhs; rw [e]
  rw [Int.pow_add, ← Int.mul_assoc]
  exact ⟨fun h => Int.mul_lt_mul_of_pos_right h (by omega), fun h => Int.lt_of_mul_lt_mul_right h (by omega)⟩
/-- the digits of both, and whether n is less than d at the difference -/
theorem pl_of {b n d cn cd : Int} (hb : 2 ≤ b) (hn : n ≠ 0) (hd : 0 < d) (h1 : IsDg b n cn) (h2 : IsDg b d cd) (l1 : cn ≤ 900) (l2 : cd ≤ 900) :
    ((n.natAbs : Int) * b ^ K1 < d * b ^ (cn - cd + (K1 : Int)).toNat → Pl b n d (cn - cd - 1)) ∧ (¬ (n.natAbs : Int) * b ^ K1 < d * b ^ (cn - cd + (K1 : Int)).toNat → Pl b n d (cn - cd)) := by
  rcases h1 with ⟨z, _⟩ | ⟨_, a1, a2, a3⟩
  · exact absurd z hn
  rcases h2 with ⟨z, _⟩ | ⟨_, b1, b2, b3⟩
  · omega
  have hk := K1_eq
  have ed : ((d.natAbs : Nat) : Int) = d := by omega
  rw [ed] at b2 b3
  have pK := pow_pos' hb K1
  refine ⟨fun h => ⟨by omega, ?_, by rw [show cn - cd - 1 + 1 = cn - cd by omega]; exact h⟩, fun h => ⟨by omega, by omega, ?_⟩⟩
  · have q1 := Int.mul_le_mul_of_nonneg_right (show d ≤ b ^ cd.toNat by omega) (show 0 ≤ b ^ (cn - cd - 1 + (K1 : Int)).toNat by have := pow_pos' hb (cn - cd - 1 + (K1 : Int)).toNat; omega)
    have q2 := Int.mul_le_mul_of_nonneg_right a2 (show 0 ≤ b ^ K1 by omega)
    rw [← Int.pow_add] at q1 q2
    rw [show cd.toNat + (cn - cd - 1 + (K1 : Int)).toNat = (cn - 1).toNat + K1 by omega] at q1
    omega
  · have q1 := Int.mul_le_mul_of_nonneg_right b2 (show 0 ≤ b ^ (cn - cd + 1 + (K1 : Int)).toNat by have := pow_pos' hb (cn - cd + 1 + (K1 : Int)).toNat; omega)
    have q2 := Int.mul_lt_mul_of_pos_right a3 (show 0 < b ^ K1 by omega)
    rw [← Int.pow_add] at q1 q2
    rw [show (cd - 1).toNat + (cn - cd + 1 + (K1 : Int)).toNat = cn.toNat + K1 by omega] at q1
    omega
def rqs (b n d : Int) (m : Str) (u : Int) : Int := if 0 ≤ u then rq n (d * b ^ u.toNat) m else rq (n * b ^ (-u).toNat) d m
/-- the quotient rounded to p digits -/
def Rt (b p n d : Int) (m : Str) (r : EN) : Prop := (n = 0 ∧ r = ⟨b, 0, 0⟩) ∨ (n ≠ 0 ∧ ∃ k, Pl b n d k ∧ r = nrm b (rqs b n d m (k - p + 1)) (k - p + 1))
theorem rt_fun {b p n d : Int} {m : Str} {r r' : EN} (hb : 2 ≤ b) (hd : 0 < d) (h : Rt b p n d m r) (h' : Rt b p n d m r') : r = r' := by
  rcases h with ⟨z, e⟩ | ⟨z, k, hk, e⟩ <;> rcases h' with ⟨z', e'⟩ | ⟨z', k', hk', e'⟩
  · rw [e, e']
  · exact absurd z z'
  · exact absurd z' z
  · rw [e, e', pl_one hb hd hk hk']
def sgm (n d : Int) : Int := if d < 0 then -n else n
theorem sgm_abs (n d : Int) : (sgm n d).natAbs = n.natAbs := by unfold sgm; split <;> omega
theorem sgm_z {n d : Int} : sgm n d = 0 ↔ n = 0 := by unfold sgm; split <;> omega
theorem nrm_nrm {b c e s : Int} (hb : 2 ≤ b) (hc : c ≠ 0 ∨ True) : (nrm b c e).c ≠ 0 → nrm b (nrm b c e).c ((nrm b c e).e + s) = nrm b c (e + s) := by
  intro h
  by_cases z : c = 0
  · subst z; rw [nrm_zero] at h; exact absurd rfl h
  · obtain ⟨i1, i2⟩ := strip_ok hb c.natAbs c z (Nat.le_refl _)
    rw [nrm_of hb z i1 i2, nrm_of (e := e + s) hb z i1 i2]
    show nrm b (strip b c.natAbs c).1 (e + _ + s) = _
    rw [nrm_of (n := 0) hb (fun q => i2 (by rw [q]; exact Int.zero_emod _)) (by rw [Int.pow_zero, Int.mul_one]) i2]
    congr 1; omega
theorem nrm_nrm0 {b c e s : Int} (hb : 2 ≤ b) : nrm b (nrm b c e).c ((nrm b c e).e + s) = nrm b c (e + s) := by
  by_cases z : c = 0
  · subst z; rw [nrm_zero b e]; show nrm b 0 (0 + s) = nrm b 0 (e + s); rw [nrm_zero, nrm_zero]
  · exact nrm_nrm hb (.inr True.intro) (by
      obtain ⟨i1, i2⟩ := strip_ok hb c.natAbs c z (Nat.le_refl _)
      rw [nrm_of hb z i1 i2]
      exact fun q => i2 (by rw [show (strip b c.natAbs c).1 = 0 from q]; exact Int.zero_emod _))
theorem nm_nrm {b c e p : Int} (hb : 2 ≤ b) (hp : 1 ≤ p) (h : (c.natAbs : Int) ≤ b ^ p.toNat) : Nm p none (nrm b c e) := by
  by_cases z : c = 0
  · subst z; rw [nrm_zero]; exact .inl rfl
  · have q := strip_le (e := e) hb z
    refine .inr ?_
    rw [nrm_b]
    rcases Int.lt_or_eq_of_le h with l | l
    · omega
    · have hpp : p.toNat = 0 + p.toNat := by omega
      have p1 := pow_pos' hb p.toNat
      have b1 : b ≤ b ^ p.toNat := by have := pow_le' hb (show 1 ≤ p.toNat by omega); rw [Int.pow_one] at this; exact this
      rcases (by omega : c = b ^ p.toNat ∨ c = -(b ^ p.toNat)) with w | w
      · rw [w, show b ^ p.toNat = 1 * b ^ p.toNat by rw [Int.one_mul], nrm_shift hb p.toNat]
        have := strip_le (b := b) (c := 1) (e := e + (p.toNat : Int)) hb (by decide)
        rw [Int.one_mul]
        have : ((1 : Int).natAbs : Int) = 1 := rfl
        omega
      · rw [w, show -(b ^ p.toNat) = (-1) * b ^ p.toNat by omega, nrm_shift hb p.toNat]
        have := strip_le (b := b) (c := -1) (e := e + (p.toNat : Int)) hb (by decide)
        have : ((-1 : Int).natAbs : Int) = 1 := rfl
        omega

theorem rt_parts {b p n d : Int} {m : Str} {q : EN} (hb : 2 ≤ b) (hp : 1 ≤ p) (hp2 : p ≤ 400) (hn : (n.natAbs : Int) < b ^ p.toNat) (d0 : 0 < d) (hd : d < b ^ p.toNat) (h : Rt b p n d m q) (hz : n ≠ 0) :
    ∃ u W, u ≤ 0 ∧ -(2 * p) ≤ u ∧ q = nrm b W u ∧ (W.natAbs : Int) ≤ b ^ p.toNat ∧ ((n * b ^ (-u).toNat - W * d).natAbs : Int) < d := by
  rcases h with ⟨z, _⟩ | ⟨_, k, ⟨k0, k1, k2⟩, e⟩
  · exact absurd z hz
  have hk := K1_eq
  have pK := pow_pos' hb K1
  have pp := pow_pos' hb p.toNat
  have hkp : k < p := by
    have q1 := Int.mul_le_mul_of_nonneg_right (show 1 ≤ d by omega) (show 0 ≤ b ^ (k + (K1 : Int)).toNat by have := pow_pos' hb (k + (K1 : Int)).toNat; omega)
    have q2 := Int.mul_lt_mul_of_pos_right hn (show 0 < b ^ K1 by omega)
    rw [← Int.pow_add] at q2
    rw [Int.one_mul] at q1
    have := pow_lt_inv hb (show b ^ (k + (K1 : Int)).toNat ≤ b ^ (k + (K1 : Int)).toNat from Int.le_refl _) (show b ^ (k + (K1 : Int)).toNat < b ^ (p.toNat + K1) by omega)
    omega
  have hkl : -p ≤ k := by
    have q1 := Int.mul_le_mul_of_nonneg_right (show 1 ≤ (n.natAbs : Int) by omega) (show 0 ≤ b ^ K1 by omega)
    have q2 := Int.mul_lt_mul_of_pos_right hd (show 0 < b ^ (k + 1 + (K1 : Int)).toNat by have := pow_pos' hb (k + 1 + (K1 : Int)).toNat; omega)
    rw [← Int.pow_add] at q2
    rw [Int.one_mul] at q1
    have := pow_lt_inv hb (Int.le_refl (b ^ K1)) (show b ^ K1 < b ^ (p.toNat + (k + 1 + (K1 : Int)).toNat) by omega)
    omega
  have eW : rqs b n d m (k - p + 1) = rq (n * b ^ (-(k - p + 1)).toNat) d m := by
    unfold rqs
    split
    · have e0 : k - p + 1 = 0 := by omega
      rw [e0]
      show rq n (d * b ^ (0 : Int).toNat) m = rq (n * b ^ (-0 : Int).toNat) d m
      rw [show (0 : Int).toNat = 0 from rfl, show (-0 : Int).toNat = 0 from rfl, Int.pow_zero, Int.mul_one, Int.mul_one]
    · rfl
  have up : ((n * b ^ (-(k - p + 1)).toNat).natAbs : Int) < b ^ p.toNat * d := by
    have pu := pow_pos' hb (-(k - p + 1)).toNat
    rw [Int.natAbs_mul, Int.natCast_mul, show ((b ^ (-(k - p + 1)).toNat).natAbs : Int) = b ^ (-(k - p + 1)).toNat by omega]
    have q2 := Int.mul_lt_mul_of_pos_right k2 (show 0 < b ^ (-(k - p + 1)).toNat by omega)
    have g1 : d * b ^ (k + 1 + (K1 : Int)).toNat * b ^ (-(k - p + 1)).toNat = d * b ^ p.toNat * b ^ K1 := by
      rw [Int.mul_assoc, Int.mul_assoc, ← Int.pow_add, ← Int.pow_add]
      congr 2; omega
    have g2 : (n.natAbs : Int) * b ^ K1 * b ^ (-(k - p + 1)).toNat = (n.natAbs : Int) * b ^ (-(k - p + 1)).toNat * b ^ K1 := by rw [Int.mul_assoc, Int.mul_assoc, Int.mul_comm (b ^ K1)]
    rw [g1, g2] at q2
    have q3 := Int.lt_of_mul_lt_mul_right q2 (show 0 ≤ b ^ K1 by omega)
    rw [Int.mul_comm (b ^ p.toNat)]
    exact q3
  refine ⟨k - p + 1, rq (n * b ^ (-(k - p + 1)).toNat) d m, by omega, by omega, by rw [e, eW], ?_, (rq_gap m d0).1⟩
  have l1 : rq (n * b ^ (-(k - p + 1)).toNat) d m ≤ b ^ p.toNat := rq_le d0 (by omega)
  have l2 : -(b ^ p.toNat) ≤ rq (n * b ^ (-(k - p + 1)).toNat) d m := rq_ge d0 (by rw [Int.neg_mul]; omega)
  omega
theorem mul_nrm_l {b n e : Int} {y : EN} (hb : 2 ≤ b) (ey : y.b = b) : mulE (nrm b n e) y = nrm b (n * y.c) (e + y.e) := by
  have q := mul_nrm_r (x := y) n e (by rw [ey]; exact hb)
  rw [ey] at q
  rw [← mul_comm1 (x := nrm b n e) (y := y) (by rw [nrm_b]; exact ey), q]
  show nrm y.b (y.c * n) (y.e + e) = _
  rw [ey, Int.mul_comm, Int.add_comm]
/-- quotient and rest are numbers of the grid -/
theorem div_ok {b p : Int} {m : Str} {x y q : EN} {N : Nat} (hb : 2 ≤ b) (h6 : b ≤ 36) (hp : 3 ≤ p ∧ p ≤ 42) (lx : Low x) (gx : Gb b N x) (nx : Nm p none x) (ly : Low y) (ey : y.b = b) (ny : Nm p none y) (hy : y.c ≠ 0) (hN : N ≤ 700)
    (h : Rt b p (sgm x.c y.c) (y.c.natAbs : Int) m q) :
    Nm p none (nrm b q.c (q.e + (x.e - y.e))) ∧ Nm p none (addE (-1) x (mulE (nrm b q.c (q.e + (x.e - y.e))) y)) ∧ Sz 260 (nrm b q.c (q.e + (x.e - y.e))).c ∧ Sz 260 y.c ∧ (Sz 4490 (mulE (nrm b q.c (q.e + (x.e - y.e))) y).c ∧ Bd 300 7200 (mulE (nrm b q.c (q.e + (x.e - y.e))) y)) ∧ Ad x (mulE (nrm b q.c (q.e + (x.e - y.e))) y) := by
  have ex := gx.eb
  have pp := pow_pos' hb p.toNat
  have hpz : Sz 253 (b ^ p.toNat) := (Sz.pow36 hb h6 p.toNat).mono (by omega)
  have hyl : (y.c.natAbs : Int) < b ^ p.toNat := by
    rcases ny with w | w
    · exact absurd w hy
    · rw [ey] at w; exact w
  have syc : Sz 260 y.c := (hpz.le (by omega)).mono (by decide)
  have bx : Bd 300 (6 * N + 1 + 6 * 100 + 1) x := (gx.sz hb h6).2.wid (by rw [ex]; exact hb) (by rw [ex]; exact h6) (by decide)
  by_cases hz : x.c = 0
  · have ez : x.e = 0 := lx.z hz
    have e1 : q = ⟨b, 0, 0⟩ := by
      rcases h with ⟨_, e⟩ | ⟨w, _⟩
      · exact e
      · exact absurd (sgm_z.mpr hz) w
    have e2 : nrm b q.c (q.e + (x.e - y.e)) = ⟨b, 0, 0⟩ := by rw [e1]; exact nrm_zero _ _
    rw [e2]
    have e3 : mulE (⟨b, 0, 0⟩ : EN) y = ⟨b, 0, 0⟩ := by unfold mulE; rw [Int.zero_mul]; exact nrm_zero _ _
    rw [e3]
    have e4 : addE (-1) x (⟨b, 0, 0⟩ : EN) = x := by
      rw [← add_r0 (x := x) (y := ⟨b, 0, 0⟩) (-1) (by rw [ex]; exact hb) rfl, show x.c + -1 * 0 = x.c by omega]
      exact nrm_low lx
    have bz : Bd 300 7200 (⟨b, 0, 0⟩ : EN) := ⟨by show (0 : Int) ≤ 0 + 300; decide, by show Sz 7200 (0 * _); rw [Int.zero_mul]; exact Sz.zero⟩
    refine ⟨.inl rfl, by rw [e4]; exact nx, Sz.zero, syc, ⟨Sz.zero, bz⟩, ex.symm, 300, 7200, by decide, bx.mono (by omega), bz⟩
  · obtain ⟨u, W, u1, u2, e1, w1, w2⟩ := rt_parts hb (by omega) (by omega) (by
      rw [sgm_abs]
      rcases nx with w | w
      · exact absurd w hz
      · rw [ex] at w; exact w) (by omega) hyl h (fun w => hz (sgm_z.mp w))
    have e2 : nrm b q.c (q.e + (x.e - y.e)) = nrm b W (u + (x.e - y.e)) := by rw [e1]; exact nrm_nrm0 hb
    rw [e2]
    have e3 : mulE (nrm b W (u + (x.e - y.e))) y = nrm b (W * y.c) (u + x.e) := by rw [mul_nrm_l hb ey]; congr 1; omega
    rw [e3]
    have e4 : addE (-1) x (nrm b (W * y.c) (u + x.e)) = nrm b (x.c * b ^ (-u).toNat - W * y.c) (u + x.e) := by
      have q1 := add_nrm_r (x := x) (-1) (W * y.c) (u + x.e) (by rw [ex]; exact hb)
      rw [ex] at q1
      rw [q1, ← add_lo (x := x) (y := ⟨b, W * y.c, u + x.e⟩) (-1) (by rw [ex]; exact hb) (by show u + x.e ≤ x.e; omega), ex]
      show nrm b (x.c * b ^ (x.e - (u + x.e)).toNat + -1 * (W * y.c)) (u + x.e) = _
      rw [show x.e - (u + x.e) = -u by omega, show ∀ z t : Int, z + -1 * t = z - t from fun z t => by omega]
    rw [e4]
    have ab : ((x.c * b ^ (-u).toNat - W * y.c).natAbs : Int) < (y.c.natAbs : Int) := by
      rcases Int.lt_or_le y.c 0 with s | s
      · have ed : ((y.c.natAbs : Nat) : Int) = -y.c := by omega
        have en : sgm x.c y.c = -x.c := by unfold sgm; rw [if_pos s]
        rw [en, ed] at w2
        have : -x.c * b ^ (-u).toNat - W * -y.c = -(x.c * b ^ (-u).toNat - W * y.c) := by rw [Int.neg_mul, Int.mul_neg]; omega
        rw [this] at w2
        omega
      · have ed : ((y.c.natAbs : Nat) : Int) = y.c := by omega
        have en : sgm x.c y.c = x.c := by unfold sgm; rw [if_neg (by omega)]
        rw [en, ed] at w2
        omega
    have sW : Sz 254 W := (hpz.le (by omega)).mono (by decide)
    have zW : ∀ e, Sz 254 (nrm b W e).c := fun e => by
      by_cases z : W = 0
      · rw [z, nrm_zero]; exact Sz.zero
      · exact sW.le (strip_le hb z)
    have gl := gx.lo
    have gh := gx.hi
    have sWy : Sz 520 (W * y.c) := (sW.mul syc).mono (by decide)
    have bm : Bd 300 7200 (nrm b (W * y.c) (u + x.e)) := Bd.nrm hb (by omega) ((sWy.mul (Sz.pow36 hb h6 (u + x.e + (300 : Nat)).toNat)).mono (by
      omega))
    refine ⟨nm_nrm hb (by omega) w1, nm_nrm hb (by omega) (by omega), (zW _).mono (by decide), syc, ⟨?_, bm⟩, by rw [nrm_b]; exact ex.symm, 300, 7200, by decide, bx.mono (by omega), bm⟩
    by_cases z : W * y.c = 0
    · rw [z, nrm_zero]; exact Sz.zero
    · exact (sWy.le (strip_le hb z)).mono (by decide)

def sgI (c : Int) : Int := if 0 < c then 1 else if c < 0 then -1 else 0
theorem sgI_mul {x c : Int} (h : c ≠ 0) : x * sgI c = sgm x c := by
  unfold sgI sgm
  rcases Int.lt_or_le c 0 with s | s
  · rw [if_neg (by omega), if_pos s, if_pos s, Int.mul_neg, Int.mul_one]
  · rw [if_pos (by omega), if_neg (by omega), Int.mul_one]
theorem pl_hi {b n d cn cd : Int} (hb : 2 ≤ b) (hn : n ≠ 0) (hd : 0 < d) (h1 : IsDg b n cn) (h2 : IsDg b d cd) (l1 : cn ≤ 900) (l2 : cd ≤ 900) (k : 0 ≤ cn - cd) :
    ((n.natAbs : Int) < d * b ^ (cn - cd).toNat → Pl b n d (cn - cd - 1)) ∧ (¬ (n.natAbs : Int) < d * b ^ (cn - cd).toNat → Pl b n d (cn - cd)) := by
  obtain ⟨a, c⟩ := pl_of hb hn hd h1 h2 l1 l2
  exact ⟨fun h => a ((sc_hi hb k).mp h), fun h => c (fun q => h ((sc_hi hb k).mpr q))⟩
theorem pl_lo {b n d cn cd : Int} (hb : 2 ≤ b) (hn : n ≠ 0) (hd : 0 < d) (h1 : IsDg b n cn) (h2 : IsDg b d cd) (l1 : cn ≤ 900) (l2 : cd ≤ 900) (k : ¬ 0 ≤ cn - cd) :
    ((n.natAbs : Int) * b ^ (-(cn - cd)).toNat < d → Pl b n d (cn - cd - 1)) ∧ (¬ (n.natAbs : Int) * b ^ (-(cn - cd)).toNat < d → Pl b n d (cn - cd)) := by
  obtain ⟨a, c⟩ := pl_of hb hn hd h1 h2 l1 l2
  have k0 : 0 ≤ cn := by rcases h1 with ⟨_, h⟩ | ⟨_, h, _⟩ <;> omega
  exact ⟨fun h => a ((sc_lo hb (by omega) (by omega)).mp h), fun h => c (fun q => h ((sc_lo hb (by omega) (by omega)).mpr q))⟩
theorem pl_abs {b n d k : Int} (h : Pl b (if n < 0 then -n else n) d k) : Pl b n d k := by
  have e : (if n < 0 then -n else n).natAbs = n.natAbs := by split <;> omega
  unfold Pl at *
  rw [e] at h
  exact h
theorem dg_ps {b n : Int} {c : Int} (h : IsDg b n c) (hn : n ≠ 0) : 1 ≤ c := by
  rcases h with ⟨h, _⟩ | ⟨_, h, _⟩
  · exact absurd h hn
  · exact h

theorem nb_c {b p : Int} {N : Nat} {x : EN} (hb : 2 ≤ b) (h6 : b ≤ 36) (hp : p ≤ 42) (h : Nb b p N x) : Sz 253 x.c := by
  rcases h.num with w | w
  · rw [w]; exact Sz.zero
  · rw [h.gb.eb] at w
    exact ((Sz.pow36 hb h6 p.toNat).mono (by omega)).le (by omega)
theorem rt_sz {b p : Int} {m : Str} {x y q : EN} (hb : 2 ≤ b) (h6 : b ≤ 36) (hp : 3 ≤ p ∧ p ≤ 42) (nx : Nm p none x) (ex : x.b = b) (ny : Nm p none y) (ey : y.b = b) (hy : y.c ≠ 0) (lx : Low x) (h : Rt b p (sgm x.c y.c) (y.c.natAbs : Int) m q) : Sz 9000 q.c := by
  by_cases hz : x.c = 0
  · rcases h with ⟨_, e⟩ | ⟨w, _⟩
    · rw [e]; exact Sz.zero
    · exact absurd (sgm_z.mpr hz) w
  · obtain ⟨u, W, u1, u2, e1, w1, w2⟩ := rt_parts hb (by omega) (by omega) (by
      rw [sgm_abs]
      rcases nx with w | w
      · exact absurd w hz
      · rw [ex] at w; exact w) (by omega) (by
      rcases ny with w | w
      · exact absurd w hy
      · rw [ey] at w; exact w) h (fun w => hz (sgm_z.mp w))
    have sW : Sz 9000 W := ((Sz.pow36 hb h6 p.toNat).le (by have := pow_pos' hb p.toNat; omega)).mono (by omega)
    rw [e1]
    by_cases z : W = 0
    · rw [z, nrm_zero]; exact Sz.zero
    · exact sW.le (strip_le hb z)
theorem dg_ex {b c : Int} (hb : 2 ≤ b) (hc : c ≠ 0) : ∃ r, IsDg b c r := by
  have key : ∀ n : Nat, (c.natAbs : Int) < b ^ n → ∃ r, IsDg b c r := by
    intro n
    induction n with
    | zero => intro h; rw [Int.pow_zero] at h; omega
    | succ n ih =>
      intro h
      by_cases l : (c.natAbs : Int) < b ^ n
      · exact ih l
      · exact ⟨n + 1, .inr ⟨hc, by omega, by rw [show ((n : Int) + 1 - 1).toNat = n by omega]; omega, by rw [show ((n : Int) + 1).toNat = n + 1 by omega]; exact h⟩⟩
  refine key c.natAbs ?_
  have q := two_pow_le hb c.natAbs
  have q2 : c.natAbs < 2 ^ c.natAbs := Nat.lt_two_pow_self
  have q3 : ((c.natAbs : Nat) : Int) < ((2 ^ c.natAbs : Nat) : Int) := by omega
  rw [Int.natCast_pow] at q3
  exact Int.lt_of_lt_of_le q3 q

/-- the grid of base B: y near x rounds to x -/
theorem back_core {B β ξ η : Int} {p a a2 : Nat} (hB : 2 ≤ B) (hp : 1 ≤ p) (hβ : 0 < β) (pa : p ≤ a) (pa2 : p ≤ a2) (h1 : β * B ^ a ≤ (ξ.natAbs : Int)) (h1' : (ξ.natAbs : Int) < β * B ^ (a + 1))
    (h2 : β * B ^ a2 ≤ (η.natAbs : Int)) (h2' : (η.natAbs : Int) < β * B ^ (a2 + 1)) (h3 : β * B ^ (a + 1 - p) ∣ ξ) (h4 : 2 * B ^ p * ((η - ξ).natAbs : Int) < (ξ.natAbs : Int)) :
    β * B ^ (a2 + 1 - p) ∣ ξ ∧ 2 * ((η - ξ).natAbs : Int) < β * B ^ (a2 + 1 - p) := by
  have pp := pow_pos' hB p
  have half : 2 * ((η - ξ).natAbs : Int) < β * B ^ (a + 1 - p) := by
    have e : B ^ (a + 1) = B ^ (a + 1 - p) * B ^ p := by rw [← Int.pow_add]; congr 1; omega
    rw [e, ← Int.mul_assoc] at h1'
    have : 2 * ((η - ξ).natAbs : Int) * B ^ p < β * B ^ (a + 1 - p) * B ^ p := by
      rw [Int.mul_assoc, Int.mul_comm _ (B ^ p), ← Int.mul_assoc]
      omega
    exact Int.lt_of_mul_lt_mul_right this (by omega)
  have pw : ∀ {i j : Nat}, i ≤ j → β * B ^ i ≤ β * B ^ j := fun h => Int.mul_le_mul_of_nonneg_left (pow_le' hB h) (by omega)
  obtain ⟨t, ht⟩ := id h3
  have pU : 0 < β * B ^ (a + 1 - p) := Int.mul_pos hβ (by have := pow_pos' hB (a + 1 - p); omega)
  have dn : ∀ e : Nat, a + 1 - p ≤ e → β * B ^ e < (ξ.natAbs : Int) → β * B ^ e + β * B ^ (a + 1 - p) ≤ (ξ.natAbs : Int) := fun e he h => by
    have e1 : β * B ^ e = B ^ (e - (a + 1 - p)) * (β * B ^ (a + 1 - p)) := by
      rw [Int.mul_comm (B ^ _), Int.mul_assoc, ← Int.pow_add]
      congr 2; omega
    have e2 : (ξ.natAbs : Int) = (t.natAbs : Int) * (β * B ^ (a + 1 - p)) := by
      rw [ht, Int.natAbs_mul, Int.natCast_mul, Int.mul_comm, show (((β * B ^ (a + 1 - p)).natAbs : Nat) : Int) = β * B ^ (a + 1 - p) by omega]
    rw [e1, e2] at h
    have := Int.lt_of_mul_lt_mul_right h (by omega)
    have := Int.mul_le_mul_of_nonneg_right (show B ^ (e - (a + 1 - p)) + 1 ≤ (t.natAbs : Int) by omega) (show 0 ≤ β * B ^ (a + 1 - p) by omega)
    rw [Int.add_mul, Int.one_mul] at this
    rw [e1, e2]
    omega
  have up : ∀ e : Nat, a + 1 - p ≤ e → (ξ.natAbs : Int) < β * B ^ e → (ξ.natAbs : Int) + β * B ^ (a + 1 - p) ≤ β * B ^ e := fun e he h => by
    have e1 : β * B ^ e = B ^ (e - (a + 1 - p)) * (β * B ^ (a + 1 - p)) := by
      rw [Int.mul_comm (B ^ _), Int.mul_assoc, ← Int.pow_add]
      congr 2; omega
    have e2 : (ξ.natAbs : Int) = (t.natAbs : Int) * (β * B ^ (a + 1 - p)) := by
      rw [ht, Int.natAbs_mul, Int.natCast_mul, Int.mul_comm, show (((β * B ^ (a + 1 - p)).natAbs : Nat) : Int) = β * B ^ (a + 1 - p) by omega]
    rw [e1, e2] at h
    have := Int.lt_of_mul_lt_mul_right h (by omega)
    have := Int.mul_le_mul_of_nonneg_right (show (t.natAbs : Int) + 1 ≤ B ^ (e - (a + 1 - p)) by omega) (show 0 ≤ β * B ^ (a + 1 - p) by omega)
    rw [Int.add_mul, Int.one_mul] at this
    rw [e1, e2]
    omega
  rcases Nat.lt_trichotomy a2 a with l | l | l
  · -- y is below the power
    have q1 := pw (show a2 + 1 ≤ a by omega)
    have ex : (ξ.natAbs : Int) = β * B ^ a := by
      by_cases z : β * B ^ a < (ξ.natAbs : Int)
      · have := dn a (by omega) z
        omega
      · omega
    have sm : 2 * ((η - ξ).natAbs : Int) < β * B ^ (a - p) := by
      have e : B ^ a = B ^ (a - p) * B ^ p := by rw [← Int.pow_add]; congr 1; omega
      rw [ex, e, ← Int.mul_assoc] at h4
      have : 2 * ((η - ξ).natAbs : Int) * B ^ p < β * B ^ (a - p) * B ^ p := by
        rw [Int.mul_assoc, Int.mul_comm _ (B ^ p), ← Int.mul_assoc]
        omega
      exact Int.lt_of_mul_lt_mul_right this (by omega)
    have a2e : a2 + 1 = a := by
      by_cases z : a2 + 1 = a
      · exact z
      · exfalso
        have q2 := pw (show a2 + 1 ≤ a - 1 by omega)
        have q3 := pw (show a - p ≤ a - 1 by omega)
        have q4 : 2 * (β * B ^ (a - 1)) ≤ β * B ^ a := by
          have e : β * B ^ a = β * B ^ (a - 1) * B := by rw [Int.mul_assoc, ← Int.pow_succ]; congr 2; omega
          have := Int.mul_le_mul_of_nonneg_left hB (show 0 ≤ β * B ^ (a - 1) by have := Int.mul_pos hβ (show 0 < B ^ (a - 1) by have := pow_pos' hB (a - 1); omega); omega)
          rw [e]; omega
        omega
    rw [show a2 + 1 - p = a - p by omega]
    refine ⟨?_, sm⟩
    refine Int.dvd_trans ?_ h3
    exact ⟨B, by rw [Int.mul_assoc, ← Int.pow_succ]; congr 2; omega⟩
  · subst l
    exact ⟨h3, half⟩
  · exfalso
    have q1 := pw (show a + 1 ≤ a2 by omega)
    have := up (a + 1) (by omega) h1'
    omega
theorem rq_ratio {N D N' D' : Int} (m : Str) (hD : 0 < D) (hD' : 0 < D') (h : N * D' = N' * D) : rq N D m = rq N' D' m := by
  rw [← rq_scale (n := N) m hD hD', ← rq_scale (n := N') m hD' hD, h, Int.mul_comm D D']
theorem rq_close {X D T : Int} {m : Str} (hd : 0 < D) (hm : m ∈ near5) (h : 2 * ((X - T * D).natAbs : Int) < D) : rq X D m = T := by
  have q := (rq_gap (X := X) m hd).2 hm
  by_cases e : rq X D m = T
  · exact e
  · exfalso
    have h1 : X - T * D = (X - rq X D m * D) + (rq X D m - T) * D := by rw [Int.sub_mul]; omega
    have h2 : D ≤ (((rq X D m - T) * D).natAbs : Int) := by
      rw [Int.natAbs_mul, Int.natCast_mul, show ((D.natAbs : Nat) : Int) = D by omega]
      have := Int.mul_le_mul_of_nonneg_right (show (1 : Int) ≤ ((rq X D m - T).natAbs : Int) by omega) (show 0 ≤ D by omega)
      omega
    rw [h1] at h
    omega

/-- numerator and denominator of a number -/
def cnE (x : EN) : Int := if 0 ≤ x.e then x.c * x.b ^ x.e.toNat else x.c
def cdE (x : EN) : Int := if 0 ≤ x.e then 1 else x.b ^ (-x.e).toNat
theorem cd_pos {x : EN} (hb : 2 ≤ x.b) : 0 < cdE x := by
  unfold cdE
  split
  · decide
  · have := pow_pos' hb (-x.e).toNat; omega
theorem cn_sc {x : EN} (hb : 2 ≤ x.b) (he : -1000 ≤ x.e) : cnE x * x.b ^ K1 = cdE x * (x.c * x.b ^ (x.e + (K1 : Int)).toNat) := by
  have hk := K1_eq
  unfold cnE cdE
  split
  · rw [Int.one_mul, Int.mul_assoc, ← Int.pow_add]
    congr 2; omega
  · rw [Int.mul_comm (x.b ^ _), Int.mul_assoc, ← Int.pow_add]
    congr 2; omega
theorem cn_z {x : EN} (hb : 2 ≤ x.b) : cnE x = 0 ↔ x.c = 0 := by
  unfold cnE
  split
  · have := pow_pos' hb x.e.toNat
    constructor
    · intro h
      rcases Int.mul_eq_zero.mp h with q | q
      · exact q
      · omega
    · intro h; rw [h, Int.zero_mul]
  · exact Iff.rfl
theorem nrm_sc {b c e : Int} (hb : 2 ≤ b) (he : -1000 ≤ e) : (nrm b c e).c * b ^ ((nrm b c e).e + (K1 : Int)).toNat = c * b ^ (e + (K1 : Int)).toNat := by
  have hk := K1_eq
  by_cases hc : c = 0
  · rw [hc, nrm_zero]
    show (0 : Int) * _ = 0 * _
    rw [Int.zero_mul, Int.zero_mul]
  · obtain ⟨i1, i2⟩ := strip_ok hb c.natAbs c hc (Nat.le_refl _)
    rw [nrm_of (e := e) hb hc i1 i2]
    dsimp only
    rw [show (e + ((strip b c.natAbs c).2 : Int) + (K1 : Int)).toNat = (strip b c.natAbs c).2 + (e + (K1 : Int)).toNat by omega, Int.pow_add, ← Int.mul_assoc, ← i1]
/-- the rounding of n / d by its step -/
theorem rqs_gap {b n d u : Int} {m : Str} (hb : 2 ≤ b) (hd : 0 < d) (hm : m ∈ near5) (hu : -1000 ≤ u) : 2 * ((n * b ^ K1 - rqs b n d m u * (d * b ^ (u + (K1 : Int)).toNat)).natAbs : Int) ≤ d * b ^ (u + (K1 : Int)).toNat := by
  have hk := K1_eq
  have pu := pow_pos' hb u.toNat
  have pn := pow_pos' hb (-u).toNat
  unfold rqs
  split
  · have hD : 0 < d * b ^ u.toNat := Int.mul_pos hd (by omega)
    have q := (rq_gap (X := n) m hD).2 hm
    have e : d * b ^ (u + (K1 : Int)).toNat = d * b ^ u.toNat * b ^ K1 := by rw [Int.mul_assoc, ← Int.pow_add]; congr 2; omega
    have pK := pow_pos' hb K1
    rw [e, ← Int.mul_assoc, ← Int.sub_mul, Int.natAbs_mul, Int.natCast_mul, ← Int.mul_assoc, show ((b ^ K1).natAbs : Int) = b ^ K1 by omega]
    exact Int.mul_le_mul_of_nonneg_right q (by omega)
  · have q := (rq_gap (X := n * b ^ (-u).toNat) m hd).2 hm
    have pK := pow_pos' hb (u + (K1 : Int)).toNat
    have e : n * b ^ K1 = n * b ^ (-u).toNat * b ^ (u + (K1 : Int)).toNat := by rw [Int.mul_assoc, ← Int.pow_add]; congr 2; omega
    rw [e, ← Int.mul_assoc, ← Int.sub_mul, Int.natAbs_mul, Int.natCast_mul, ← Int.mul_assoc, show ((b ^ (u + (K1 : Int)).toNat).natAbs : Int) = b ^ (u + (K1 : Int)).toNat by omega]
    exact Int.mul_le_mul_of_nonneg_right q (by omega)
/-- from base C back to base B -/
theorem back_ok {B C p dd : Int} {m1 m2 : Str} {x y r : EN} (hB : 2 ≤ B) (hC : 2 ≤ C) (hp : 1 ≤ p ∧ p ≤ 200) (hdd : 1 ≤ dd ∧ dd ≤ 200) (hx : Low x) (ex : x.b = B) (he : -500 ≤ x.e) (nx : Nm p none x) (h1 : m1 ∈ near5) (h2 : m2 ∈ near5)
    (hE : B ^ p.toNat < C ^ (dd - 1).toNat) (hy : Rt C dd (cnE x) (cdE x) m1 y) (yl : -900 ≤ y.e) (hr : Rt B p (cnE y) (cdE y) m2 r) (k1l : ∀ k, Pl C (cnE x) (cdE x) k → -700 ≤ k) (k2l : ∀ k, Pl B (cnE y) (cdE y) k → -700 ≤ k) : r = x := by
  have hk := K1_eq
  have xb : 2 ≤ x.b := by rw [ex]; exact hB
  have d1 := cd_pos xb
  by_cases hz : x.c = 0
  · have e1 : y = ⟨C, 0, 0⟩ := by
      rcases hy with ⟨_, e⟩ | ⟨w, _⟩
      · exact e
      · exact absurd ((cn_z xb).mpr hz) w
    have e2 : cnE y = 0 := by rw [e1]; unfold cnE; rw [if_pos (show (0 : Int) ≤ 0 by decide)]; exact Int.zero_mul _
    rcases hr with ⟨_, e⟩ | ⟨w, _⟩
    · rw [e]
      have := hx.z hz
      obtain ⟨b, c, e⟩ := x
      simp only at ex hz this
      rw [ex, hz, this]
    · exact absurd e2 w
  rcases hy with ⟨w, _⟩ | ⟨n0, k, hk1, ey⟩
  · exact absurd ((cn_z xb).mp w) hz
  have kl := k1l k hk1
  obtain ⟨_, pl1, pl2⟩ := id hk1
  have yb : y.b = C := by rw [ey]; exact nrm_b _ _ _
  have yb2 : 2 ≤ y.b := by rw [yb]; exact hC
  have d2 := cd_pos yb2
  -- the first rounding
  have gap := rqs_gap (n := cnE x) (d := cdE x) (u := k - dd + 1) (m := m1) hC d1 h1 (by omega)
  obtain ⟨W, hW⟩ : ∃ W, W = rqs C (cnE x) (cdE x) m1 (k - dd + 1) := ⟨_, rfl⟩
  rw [← hW] at gap ey
  have scY : cnE y * C ^ K1 = cdE y * (W * C ^ (k - dd + 1 + (K1 : Int)).toNat) := by
    have q := cn_sc yb2 (by omega)
    rw [yb] at q
    rw [q]
    congr 1
    rw [ey]
    exact nrm_sc hC (by omega)
  have pP := pow_pos' hC K1
  have pU := pow_pos' hC (k - dd + 1 + (K1 : Int)).toNat
  have pD := pow_pos' hC (dd - 1).toNat
  have g1 : 2 * ((cnE y * cdE x - cnE x * cdE y).natAbs : Int) * C ^ K1 ≤ cdE x * cdE y * C ^ (k - dd + 1 + (K1 : Int)).toNat := by
    have e1 : (cnE y * cdE x - cnE x * cdE y) * C ^ K1 = -((cnE x * C ^ K1 - W * (cdE x * C ^ (k - dd + 1 + (K1 : Int)).toNat)) * cdE y) := by
      rw [Int.sub_mul, Int.sub_mul, Int.neg_sub]
      congr 1
      · rw [Int.mul_right_comm, scY, Int.mul_comm (cdE y), Int.mul_right_comm, Int.mul_assoc W, Int.mul_comm (C ^ _) (cdE x)]
      · rw [Int.mul_right_comm]
    have e2 : ((cnE y * cdE x - cnE x * cdE y).natAbs : Int) * C ^ K1 = ((cnE x * C ^ K1 - W * (cdE x * C ^ (k - dd + 1 + (K1 : Int)).toNat)).natAbs : Int) * cdE y := by
      have := congrArg Int.natAbs e1
      rw [Int.natAbs_mul, Int.natAbs_neg, Int.natAbs_mul] at this
      have := congrArg (fun n : Nat => (n : Int)) this
      simp only [Int.natCast_mul] at this
      rw [show ((C ^ K1).natAbs : Int) = C ^ K1 by omega, show ((cdE y).natAbs : Int) = cdE y by omega] at this
      exact this
    rw [Int.mul_assoc, e2, ← Int.mul_assoc, Int.mul_right_comm (cdE x)]
    exact Int.mul_le_mul_of_nonneg_right gap (by omega)
  have g2 : 2 * ((cnE y * cdE x - cnE x * cdE y).natAbs : Int) * C ^ (dd - 1).toNat ≤ ((cnE x * cdE y).natAbs : Int) := by
    have e1 : C ^ (k - dd + 1 + (K1 : Int)).toNat * C ^ (dd - 1).toNat = C ^ (k + (K1 : Int)).toNat := by rw [← Int.pow_add]; congr 1; omega
    have q1 := Int.mul_le_mul_of_nonneg_right g1 (show 0 ≤ C ^ (dd - 1).toNat by omega)
    rw [Int.mul_assoc (cdE x * cdE y), e1, Int.mul_right_comm (cdE x)] at q1
    have q2 := Int.mul_le_mul_of_nonneg_right pl1 (show 0 ≤ cdE y by omega)
    have e2 : ((cnE x).natAbs : Int) * C ^ K1 * cdE y = ((cnE x * cdE y).natAbs : Int) * C ^ K1 := by
      rw [Int.natAbs_mul, Int.natCast_mul, show ((cdE y).natAbs : Int) = cdE y by omega, Int.mul_right_comm]
    rw [e2] at q2
    have q3 := Int.le_trans q1 q2
    rw [Int.mul_right_comm] at q3
    exact Int.le_of_mul_le_mul_right q3 (by omega)
  have nz : cnE x * cdE y ≠ 0 := fun q => by
    rcases Int.mul_eq_zero.mp q with q | q
    · exact n0 q
    · omega
  have g3 : 2 * B ^ p.toNat * ((cnE y * cdE x - cnE x * cdE y).natAbs : Int) < ((cnE x * cdE y).natAbs : Int) := by
    by_cases z : cnE y * cdE x - cnE x * cdE y = 0
    · rw [z]
      show 2 * B ^ p.toNat * ((0 : Int).natAbs : Int) < _
      rw [show ((0 : Int).natAbs : Int) = 0 from rfl, Int.mul_zero]
      omega
    · refine Int.lt_of_lt_of_le ?_ g2
      rw [Int.mul_right_comm]
      exact Int.mul_lt_mul_of_pos_left hE (by omega)
  -- the places in base B
  obtain ⟨dg, hdg⟩ := dg_ex (b := B) (c := x.c) hB hz
  have hdg2 := hdg
  rcases hdg2 with ⟨z, _⟩ | ⟨_, dg1, dg2, dg3⟩
  · exact absurd z hz
  have dgp : dg ≤ p := by
    rcases nx with w | w
    · exact absurd w hz
    · rw [ex] at w
      have := pow_lt_inv hB (show B ^ (dg - 1).toNat ≤ B ^ (dg - 1).toNat from Int.le_refl _) (show B ^ (dg - 1).toNat < B ^ p.toNat by omega)
      omega
  have scX := cn_sc xb (by omega)
  rw [ex] at scX
  rcases hr with ⟨w, _⟩ | ⟨n2, k2, hk2, er⟩
  · -- y = 0 is no rounding of x
    exfalso
    rw [w, Int.zero_mul, Int.zero_sub, Int.natAbs_neg] at g3
    have := pow_pos' hB p.toNat
    have := Int.mul_le_mul_of_nonneg_right (show 1 ≤ 2 * B ^ p.toNat by omega) (show 0 ≤ ((cnE x * cdE y).natAbs : Int) by omega)
    omega
  have k2b := k2l k2 hk2
  obtain ⟨_, q1, q2⟩ := id hk2
  have pK := pow_pos' hB K1
  have hβ : 0 < cdE x * cdE y := Int.mul_pos d1 d2
  have eξ : cnE x * cdE y * B ^ K1 = cdE x * cdE y * (x.c * B ^ (x.e + (K1 : Int)).toNat) := by
    rw [Int.mul_right_comm, scX, Int.mul_right_comm]
  have aξ : ((cnE x * cdE y * B ^ K1).natAbs : Int) = cdE x * cdE y * ((x.c.natAbs : Int) * B ^ (x.e + (K1 : Int)).toNat) := by
    rw [eξ, Int.natAbs_mul (cdE x * cdE y), Int.natAbs_mul x.c, Int.natCast_mul, Int.natCast_mul, show ((cdE x * cdE y).natAbs : Int) = cdE x * cdE y by omega, show ((B ^ (x.e + (K1 : Int)).toNat).natAbs : Int) = B ^ (x.e + (K1 : Int)).toNat by have := pow_pos' hB (x.e + (K1 : Int)).toNat; omega]
  have aη : ((cnE y * cdE x * B ^ K1).natAbs : Int) = cdE x * (((cnE y).natAbs : Int) * B ^ K1) := by
    rw [Int.natAbs_mul, Int.natAbs_mul, Int.natCast_mul, Int.natCast_mul, show ((cdE x).natAbs : Int) = cdE x by omega, show ((B ^ K1).natAbs : Int) = B ^ K1 by omega, Int.mul_comm ((cnE y).natAbs : Int), Int.mul_assoc]
  have pE := pow_pos' hB (x.e + (K1 : Int)).toNat
  have core := back_core (B := B) (β := cdE x * cdE y) (ξ := cnE x * cdE y * B ^ K1) (η := cnE y * cdE x * B ^ K1) (p := p.toNat) (a := (x.e + dg - 1 + (K1 : Int)).toNat) (a2 := (k2 + (K1 : Int)).toNat) hB (by omega) hβ (by omega) (by omega)
    (by
      rw [aξ]
      refine Int.mul_le_mul_of_nonneg_left ?_ (by omega)
      rw [show (x.e + dg - 1 + (K1 : Int)).toNat = (dg - 1).toNat + (x.e + (K1 : Int)).toNat by omega, Int.pow_add]
      exact Int.mul_le_mul_of_nonneg_right dg2 (by omega))
    (by
      rw [aξ]
      refine Int.mul_lt_mul_of_pos_left ?_ hβ
      rw [show (x.e + dg - 1 + (K1 : Int)).toNat + 1 = dg.toNat + (x.e + (K1 : Int)).toNat by omega, Int.pow_add]
      exact Int.mul_lt_mul_of_pos_right dg3 (by omega))
    (by
      rw [aη, Int.mul_assoc]
      exact Int.mul_le_mul_of_nonneg_left q1 (by omega))
    (by
      rw [aη, Int.mul_assoc, show (k2 + (K1 : Int)).toNat + 1 = (k2 + 1 + (K1 : Int)).toNat by omega]
      exact Int.mul_lt_mul_of_pos_left q2 d1)
    (by
      rw [eξ]
      refine Int.mul_dvd_mul (Int.dvd_refl _) ?_
      refine Int.dvd_trans ?_ (Int.dvd_mul_left _ _)
      exact ⟨B ^ ((x.e + (K1 : Int)).toNat - ((x.e + dg - 1 + (K1 : Int)).toNat + 1 - p.toNat)), by rw [← Int.pow_add]; congr 1; omega⟩)
    (by
      have e : cnE y * cdE x * B ^ K1 - cnE x * cdE y * B ^ K1 = (cnE y * cdE x - cnE x * cdE y) * B ^ K1 := by rw [Int.sub_mul]
      rw [e, Int.natAbs_mul, Int.natAbs_mul (cnE x * cdE y), Int.natCast_mul, Int.natCast_mul, show ((B ^ K1).natAbs : Int) = B ^ K1 by omega, ← Int.mul_assoc]
      exact Int.mul_lt_mul_of_pos_right g3 (by omega))
  obtain ⟨⟨T, hT⟩, hc⟩ := core
  have eN : (k2 + (K1 : Int)).toNat + 1 - p.toNat = (k2 - p + 1 + (K1 : Int)).toNat := by omega
  rw [eN] at hT hc
  have pV := pow_pos' hB (k2 - p + 1 + (K1 : Int)).toNat
  have pδ : 0 < cdE x * cdE y * B ^ (k2 - p + 1 + (K1 : Int)).toNat := Int.mul_pos hβ (by omega)
  have rT : rq (cnE y * cdE x * B ^ K1) (cdE x * cdE y * B ^ (k2 - p + 1 + (K1 : Int)).toNat) m2 = T := rq_close pδ h2 (by
    rw [Int.mul_comm T, ← hT]; exact hc)
  have eR : rqs B (cnE y) (cdE y) m2 (k2 - p + 1) = T := by
    rw [← rT]
    have pu := pow_pos' hB (k2 - p + 1).toNat
    unfold rqs
    split
    · refine rq_ratio m2 (Int.mul_pos d2 (by omega)) pδ ?_
      have e1 : B ^ (k2 - p + 1 + (K1 : Int)).toNat = B ^ (k2 - p + 1).toNat * B ^ K1 := by rw [← Int.pow_add]; congr 1; omega
      rw [e1]
      simp only [Int.mul_assoc, Int.mul_comm, Int.mul_left_comm]
    · refine rq_ratio m2 d2 pδ ?_
      have e1 : B ^ K1 = B ^ (-(k2 - p + 1)).toNat * B ^ (k2 - p + 1 + (K1 : Int)).toNat := by rw [← Int.pow_add]; congr 1; omega
      rw [e1]
      simp only [Int.mul_assoc, Int.mul_comm, Int.mul_left_comm]
  rw [er, eR]
  -- x is T units
  have fin : x.c * B ^ (x.e + (K1 : Int)).toNat = T * B ^ (k2 - p + 1 + (K1 : Int)).toNat := by
    have e1 : cdE x * cdE y * (x.c * B ^ (x.e + (K1 : Int)).toNat) = cdE x * cdE y * (T * B ^ (k2 - p + 1 + (K1 : Int)).toNat) := by
      rw [← eξ, hT]
      simp only [Int.mul_assoc, Int.mul_comm, Int.mul_left_comm]
    exact Int.eq_of_mul_eq_mul_left (by omega) e1
  have s1 := nrm_shift (b := B) (c := T) (e := -(K1 : Int)) hB (k2 - p + 1 + (K1 : Int)).toNat
  have s2 := nrm_shift (b := B) (c := x.c) (e := -(K1 : Int)) hB (x.e + (K1 : Int)).toNat
  rw [fin] at s2
  rw [show k2 - p + 1 = -(K1 : Int) + ((k2 - p + 1 + (K1 : Int)).toNat : Int) by omega, ← s1, s2, show -(K1 : Int) + ((x.e + (K1 : Int)).toNat : Int) = x.e by omega]
  have := nrm_low hx
  rw [ex] at this
  exact this

/-- a number of moderate size -/
structure Nv (b : Int) (x : EN) : Prop where
  low : Low x
  eb : x.b = b
  lo : -40 ≤ x.e
  hi : x.e ≤ 60
  c : (x.c.natAbs : Int) < b ^ 37
theorem nv_of {b c e r0 r1 : Int} {j : Nat} (hb : 2 ≤ b) (h6 : b ≤ 36) (hc : (c.natAbs : Int) < b ^ j) (hj : j ≤ 37) (h0 : -40 ≤ e) (h1 : e + j ≤ 60) (h : (⟨b, r0, r1⟩ : EN) = nrm b c e) : Nv b ⟨b, r0, r1⟩ := by
  rw [h]
  by_cases z : c = 0
  · rw [z, nrm_zero]
    have := pow_pos' hb 37
    exact ⟨⟨hb, h6, fun _ => rfl, fun h => absurd rfl h⟩, rfl, by show (-40 : Int) ≤ 0; decide, by show (0 : Int) ≤ 60; decide, by show (((0 : Int).natAbs : Nat) : Int) < _; rw [show (((0 : Int).natAbs : Nat) : Int) = 0 from rfl]; omega⟩
  · obtain ⟨i1, i2⟩ := strip_ok hb c.natAbs c z (Nat.le_refl _)
    have sl := strip_le (e := e) hb z
    have en := nrm_of (e := e) hb z i1 i2
    have ps := pow_pos' hb (strip b c.natAbs c).2
    have hs : b ^ (strip b c.natAbs c).2 ≤ (c.natAbs : Int) := by
      have e1 : (c.natAbs : Int) = ((strip b c.natAbs c).1.natAbs : Int) * b ^ (strip b c.natAbs c).2 := by
        conv => lhs; rw [i1]
        rw [Int.natAbs_mul, Int.natCast_mul, show ((b ^ (strip b c.natAbs c).2).natAbs : Int) = b ^ (strip b c.natAbs c).2 by omega]
      have n1 : (1 : Int) ≤ ((strip b c.natAbs c).1.natAbs : Int) := by
        have : (strip b c.natAbs c).1 ≠ 0 := fun q => i2 (by rw [q]; exact Int.zero_emod _)
        omega
      have := Int.mul_le_mul_of_nonneg_right n1 (show 0 ≤ b ^ (strip b c.natAbs c).2 by omega)
      omega
    have hl := pow_lt_inv hb hs hc
    have w := pow_le' hb hj
    refine ⟨low_nrm hb h6, nrm_b _ _ _, ?_, ?_, by omega⟩
    · rw [en]; show -40 ≤ e + _; omega
    · rw [en]; show e + _ ≤ 60; omega
theorem Nv.szc {b : Int} {x : EN} (hb : 2 ≤ b) (h6 : b ≤ 36) (h : Nv b x) : Sz 223 x.c := (Sz.pow36 hb h6 37).le (by have := h.c; omega)
theorem Nv.szn {b : Int} {x : EN} (hb : 2 ≤ b) (h6 : b ≤ 36) (h : Nv b x) : Sz 590 (cnE x) := by
  have hc := h.szc hb h6
  unfold cnE
  split
  · rw [h.eb]
    exact (hc.mul ((Sz.pow36 hb h6 x.e.toNat).mono (by have := h.hi; omega : _ ≤ 361))).mono (by decide)
  · exact hc.mono (by decide)
theorem Nv.szd {b : Int} {x : EN} (hb : 2 ≤ b) (h6 : b ≤ 36) (h : Nv b x) : Sz 250 (cdE x) := by
  unfold cdE
  split
  · exact Sz.sm (by decide) (by decide) (by decide)
  · rw [h.eb]
    exact (Sz.pow36 hb h6 (-x.e).toNat).mono (by have := h.lo; omega)
theorem sz_pw9 {b z : Int} {n : Nat} (hb : 2 ≤ b) (h : Sz n z) : (z.natAbs : Int) < b ^ n := by
  have h1 := two_pow_le hb n
  unfold Sz at h
  have : ((2 ^ n : Nat) : Int) = (2 : Int) ^ n := by simp
  omega
theorem pl_bd {b n d k : Int} (hb : 2 ≤ b) (hn : n ≠ 0) (hd : 0 < d) (zn : Sz 600 n) (zd : Sz 600 d) (h : Pl b n d k) : -605 ≤ k ∧ k ≤ 605 := by
  obtain ⟨k0, k1, k2⟩ := h
  have hk := K1_eq
  have pK := pow_pos' hb K1
  have n1 := sz_pw9 hb zn
  have d1 := sz_pw9 hb zd
  constructor
  · have q1 := Int.mul_le_mul_of_nonneg_right (show 1 ≤ (n.natAbs : Int) by omega) (show 0 ≤ b ^ K1 by omega)
    have q2 := Int.mul_lt_mul_of_pos_right (show d < b ^ 600 by omega) (show 0 < b ^ (k + 1 + (K1 : Int)).toNat by have := pow_pos' hb (k + 1 + (K1 : Int)).toNat; omega)
    rw [← Int.pow_add] at q2
    rw [Int.one_mul] at q1
    have := pow_lt_inv hb (Int.le_refl (b ^ K1)) (show b ^ K1 < b ^ (600 + (k + 1 + (K1 : Int)).toNat) by omega)
    omega
  · have q1 := Int.mul_le_mul_of_nonneg_right (show 1 ≤ d by omega) (show 0 ≤ b ^ (k + (K1 : Int)).toNat by have := pow_pos' hb (k + (K1 : Int)).toNat; omega)
    have q2 := Int.mul_lt_mul_of_pos_right n1 (show 0 < b ^ K1 by omega)
    rw [← Int.pow_add] at q2
    rw [Int.one_mul] at q1
    have := pow_lt_inv hb (Int.le_refl (b ^ (k + (K1 : Int)).toNat)) (show b ^ (k + (K1 : Int)).toNat < b ^ (600 + K1) by omega)
    omega
/-- a rounding is off by less than its step -/
theorem rqs_gap1 {b n d u : Int} {m : Str} (hb : 2 ≤ b) (hd : 0 < d) (hu : -1000 ≤ u) : ((n * b ^ K1 - rqs b n d m u * (d * b ^ (u + (K1 : Int)).toNat)).natAbs : Int) < d * b ^ (u + (K1 : Int)).toNat := by
  have hk := K1_eq
  have pu := pow_pos' hb u.toNat
  have pn := pow_pos' hb (-u).toNat
  unfold rqs
  split
  · have hD : 0 < d * b ^ u.toNat := Int.mul_pos hd (by omega)
    have q := (rq_gap (X := n) m hD).1
    have e : d * b ^ (u + (K1 : Int)).toNat = d * b ^ u.toNat * b ^ K1 := by rw [Int.mul_assoc, ← Int.pow_add]; congr 2; omega
    have pK := pow_pos' hb K1
    rw [e, ← Int.mul_assoc, ← Int.sub_mul, Int.natAbs_mul, Int.natCast_mul, show ((b ^ K1).natAbs : Int) = b ^ K1 by omega]
    exact Int.mul_lt_mul_of_pos_right q (by omega)
  · have q := (rq_gap (X := n * b ^ (-u).toNat) m hd).1
    have pK := pow_pos' hb (u + (K1 : Int)).toNat
    have e : n * b ^ K1 = n * b ^ (-u).toNat * b ^ (u + (K1 : Int)).toNat := by rw [Int.mul_assoc, ← Int.pow_add]; congr 2; omega
    rw [e, ← Int.mul_assoc, ← Int.sub_mul, Int.natAbs_mul, Int.natCast_mul, show ((b ^ (u + (K1 : Int)).toNat).natAbs : Int) = b ^ (u + (K1 : Int)).toNat by omega]
    exact Int.mul_lt_mul_of_pos_right q (by omega)
/-- what a conversion gives is of moderate size -/
theorem mid_ok {C n d dd : Int} {m : Str} {y : EN} (hC : 2 ≤ C) (h6 : C ≤ 36) (hd0 : 1 ≤ dd) (hS : Sz 100 (C ^ dd.toNat)) (d0 : 0 < d) (zn : Sz 590 n) (zd : Sz 250 d) (h : Rt C dd n d m y) :
    y.b = C ∧ Sz 600 y.c ∧ Sz 600 (cnE y) ∧ Sz 600 (cdE y) ∧ -900 ≤ y.e ∧ y.e ≤ 900 := by
  have hk := K1_eq
  rcases h with ⟨_, e⟩ | ⟨hn, k, hp, e⟩
  · rw [e]
    refine ⟨rfl, Sz.zero, ?_, ?_, by show (-900 : Int) ≤ 0; decide, by show (0 : Int) ≤ 900; decide⟩
    · unfold cnE; rw [if_pos (show (0 : Int) ≤ 0 by decide)]; show Sz 600 (0 * _); rw [Int.zero_mul]; exact Sz.zero
    · unfold cdE; rw [if_pos (show (0 : Int) ≤ 0 by decide)]; exact Sz.sm (by decide) (by decide) (by decide)
  · obtain ⟨kb1, kb2⟩ := pl_bd hC hn d0 (zn.mono (by decide)) (zd.mono (by decide)) hp
    obtain ⟨_, k1, k2⟩ := id hp
    have ddb : dd.toNat < 100 := by
      have h1 := two_pow_le hC dd.toNat
      have h2 := pow_lt_sz (m := dd.toNat) h1 hS
      exact h2
    have yb : y.b = C := by rw [e]; exact nrm_b _ _ _
    obtain ⟨W, hW⟩ : ∃ W, W = rqs C n d m (k - dd + 1) := ⟨_, rfl⟩
    have gap := rqs_gap1 (n := n) (d := d) (u := k - dd + 1) (m := m) hC d0 (by omega)
    rw [← hW] at e gap
    have pP := pow_pos' hC K1
    have pU := pow_pos' hC (k - dd + 1 + (K1 : Int)).toNat
    have pdd := pow_pos' hC dd.toNat
    have dU : 0 < d * C ^ (k - dd + 1 + (K1 : Int)).toNat := Int.mul_pos d0 (by omega)
    have aW : ((W * (d * C ^ (k - dd + 1 + (K1 : Int)).toNat)).natAbs : Int) = (W.natAbs : Int) * (d * C ^ (k - dd + 1 + (K1 : Int)).toNat) := by
      rw [Int.natAbs_mul, Int.natCast_mul, show ((d * C ^ (k - dd + 1 + (K1 : Int)).toNat).natAbs : Int) = d * C ^ (k - dd + 1 + (K1 : Int)).toNat by omega]
    have aN : ((n * C ^ K1).natAbs : Int) = (n.natAbs : Int) * C ^ K1 := by rw [Int.natAbs_mul, Int.natCast_mul, show ((C ^ K1).natAbs : Int) = C ^ K1 by omega]
    have e2 : d * C ^ (k + 1 + (K1 : Int)).toNat = C ^ dd.toNat * (d * C ^ (k - dd + 1 + (K1 : Int)).toNat) := by
      rw [Int.mul_left_comm, ← Int.pow_add]; congr 2; omega
    have leU : d * C ^ (k - dd + 1 + (K1 : Int)).toNat ≤ d * C ^ (k + (K1 : Int)).toNat := Int.mul_le_mul_of_nonneg_left (pow_le' hC (by omega)) (by omega)
    have Wd : (W.natAbs : Int) ≤ C ^ dd.toNat := by
      have : (W.natAbs : Int) * (d * C ^ (k - dd + 1 + (K1 : Int)).toNat) < (C ^ dd.toNat + 1) * (d * C ^ (k - dd + 1 + (K1 : Int)).toNat) := by
        rw [Int.add_mul, Int.one_mul, ← e2, ← aW]
        omega
      have := Int.lt_of_mul_lt_mul_right this (by omega)
      omega
    have Wn : (W.natAbs : Int) * (d * C ^ (k - dd + 1 + (K1 : Int)).toNat) ≤ 2 * ((n.natAbs : Int) * C ^ K1) := by
      rw [← aW]
      omega
    have hsc := nrm_sc (b := C) (c := W) (e := k - dd + 1) hC (by omega)
    rw [← e] at hsc
    have yc : (y.c.natAbs : Int) ≤ (W.natAbs : Int) := by
      rw [e]
      by_cases z : W = 0
      · rw [z, nrm_zero]; exact Int.le_refl _
      · have := strip_le (e := k - dd + 1) hC z
        omega
    have szc : Sz 600 y.c := (hS.le (by omega)).mono (by decide)
    have ye : k - dd + 1 ≤ y.e ∨ (y.c = 0 ∧ y.e = 0) := by
      by_cases z : W = 0
      · rw [e, z, nrm_zero]; exact .inr ⟨rfl, rfl⟩
      · rw [e]; exact .inl (nrm_ge hC z)
    have yh : y.e ≤ 900 := by
      by_cases z : W = 0
      · rw [e, z, nrm_zero]; show (0 : Int) ≤ 900; decide
      · obtain ⟨i1, i2⟩ := strip_ok hC W.natAbs W z (Nat.le_refl _)
        have en := nrm_of (e := k - dd + 1) hC z i1 i2
        have ps := pow_pos' hC (strip C W.natAbs W).2
        have e1 : (W.natAbs : Int) = ((strip C W.natAbs W).1.natAbs : Int) * C ^ (strip C W.natAbs W).2 := by
          conv => lhs; rw [i1]
          rw [Int.natAbs_mul, Int.natCast_mul, show ((C ^ (strip C W.natAbs W).2).natAbs : Int) = C ^ (strip C W.natAbs W).2 by omega]
        have n1 : (1 : Int) ≤ ((strip C W.natAbs W).1.natAbs : Int) := by
          have : (strip C W.natAbs W).1 ≠ 0 := fun q => i2 (by rw [q]; exact Int.zero_emod _)
          omega
        have q1 := Int.mul_le_mul_of_nonneg_right n1 (show 0 ≤ C ^ (strip C W.natAbs W).2 by omega)
        have q2 := pow_le' hC (show dd.toNat ≤ dd.toNat + 1 by omega)
        have q3 : C ^ dd.toNat < C ^ (dd.toNat + 1) := by
          rw [Int.pow_succ]
          have := Int.mul_le_mul_of_nonneg_left hC (show 0 ≤ C ^ dd.toNat by omega)
          omega
        have := pow_lt_inv hC (Int.le_refl (C ^ (strip C W.natAbs W).2)) (show C ^ (strip C W.natAbs W).2 < C ^ (dd.toNat + 1) by omega)
        rw [e, en]
        show k - dd + 1 + _ ≤ 900
        omega
    refine ⟨yb, szc, ?_, ?_, by omega, yh⟩
    · unfold cnE
      split
      · rename_i h0
        rw [yb]
        have pye := pow_pos' hC y.e.toNat
        have e3 : y.c * C ^ (y.e + (K1 : Int)).toNat = y.c * C ^ y.e.toNat * C ^ K1 := by rw [Int.mul_assoc, ← Int.pow_add]; congr 2; omega
        have e4 : ((y.c * C ^ y.e.toNat).natAbs : Int) * C ^ K1 = (W.natAbs : Int) * C ^ (k - dd + 1 + (K1 : Int)).toNat := by
          have := congrArg Int.natAbs (e3.symm.trans hsc)
          rw [Int.natAbs_mul, Int.natAbs_mul W] at this
          have := congrArg (fun n : Nat => (n : Int)) this
          simp only [Int.natCast_mul] at this
          rw [show ((C ^ K1).natAbs : Int) = C ^ K1 by omega, show ((C ^ (k - dd + 1 + (K1 : Int)).toNat).natAbs : Int) = C ^ (k - dd + 1 + (K1 : Int)).toNat by omega] at this
          exact this
        have e5 : (W.natAbs : Int) * C ^ (k - dd + 1 + (K1 : Int)).toNat ≤ (W.natAbs : Int) * (d * C ^ (k - dd + 1 + (K1 : Int)).toNat) := by
          refine Int.mul_le_mul_of_nonneg_left ?_ (by omega)
          have := Int.mul_le_mul_of_nonneg_right (show 1 ≤ d by omega) (show 0 ≤ C ^ (k - dd + 1 + (K1 : Int)).toNat by omega)
          omega
        have e6 : ((y.c * C ^ y.e.toNat).natAbs : Int) * C ^ K1 ≤ (2 * (n.natAbs : Int)) * C ^ K1 := by rw [Int.mul_assoc]; omega
        have e7 := Int.le_of_mul_le_mul_right e6 (show 0 < C ^ K1 by omega)
        exact ((Sz.add zn zn).le (by omega)).mono (by decide)
      · exact szc
    · unfold cdE
      split
      · exact Sz.sm (by decide) (by decide) (by decide)
      · rename_i h0
        rw [yb]
        have hu : k - dd + 1 ≤ y.e := by rcases ye with q | ⟨_, q⟩ <;> omega
        have l1 := pow_le' hC (show (-y.e).toNat ≤ (-(k - dd + 1)).toNat by omega)
        have py := pow_pos' hC (-y.e).toNat
        rcases Int.lt_or_le k 0 with s | s
        · have g1 : C ^ (-k - 1).toNat ≤ d := by
            have q1 := Int.mul_le_mul_of_nonneg_right (show 1 ≤ (n.natAbs : Int) by omega) (show 0 ≤ C ^ K1 by omega)
            have q2 : C ^ K1 = C ^ (-k - 1).toNat * C ^ (k + 1 + (K1 : Int)).toNat := by rw [← Int.pow_add]; congr 1; omega
            have q3 : C ^ (-k - 1).toNat * C ^ (k + 1 + (K1 : Int)).toNat < d * C ^ (k + 1 + (K1 : Int)).toNat := by omega
            have := Int.lt_of_mul_lt_mul_right q3 (by have := pow_pos' hC (k + 1 + (K1 : Int)).toNat; omega)
            omega
          have g2 : C ^ (-(k - dd + 1)).toNat = C ^ dd.toNat * C ^ (-k - 1).toNat := by rw [← Int.pow_add]; congr 1; omega
          have g3 := Int.mul_le_mul_of_nonneg_left g1 (show 0 ≤ C ^ dd.toNat by omega)
          exact ((hS.mul zd).le (by omega)).mono (by decide)
        · have l2 := pow_le' hC (show (-(k - dd + 1)).toNat ≤ dd.toNat by omega)
          exact (hS.le (by omega)).mono (by decide)
/-- in the base itself a conversion is a rounding -/
theorem rt_same {b p : Int} {m : Str} {x r r' : EN} (hb : 2 ≤ b) (hp : 1 ≤ p ∧ p ≤ 200) (hx : Nv b x) (h : RdN p x m r') (h' : Rt b p (cnE x) (cdE x) m r) : r = r' := by
  have hk := K1_eq
  have eb := hx.eb
  have xb : 2 ≤ x.b := by rw [eb]; exact hb
  have lo := hx.lo
  have hi := hx.hi
  rcases h with ⟨z, e⟩ | ⟨nz, u, hu, e⟩
  · rcases h' with ⟨_, e'⟩ | ⟨w, _⟩
    · rw [e', e]
      have := hx.low.z z
      obtain ⟨b', c, e⟩ := x
      simp only at eb z this
      rw [eb, z, this]
    · exact absurd ((cn_z xb).mpr z) w
  · rcases h' with ⟨w, _⟩ | ⟨_, k, hk1, e'⟩
    · exact absurd ((cn_z xb).mp w) nz
    have d1 := cd_pos xb
    have sc := cn_sc xb (by omega)
    rw [eb] at hu sc
    have pK := pow_pos' hb K1
    have pE := pow_pos' hb (x.e + (K1 : Int)).toNat
    rcases id hu with ⟨w, _⟩ | ⟨_, g1, g2, g3⟩
    · exact absurd w nz
    have aN : ((cnE x).natAbs : Int) * b ^ K1 = cdE x * ((x.c.natAbs : Int) * b ^ (x.e + (K1 : Int)).toNat) := by
      have := congrArg Int.natAbs sc
      rw [Int.natAbs_mul, Int.natAbs_mul, Int.natAbs_mul] at this
      have := congrArg (fun n : Nat => (n : Int)) this
      simp only [Int.natCast_mul] at this
      rw [show ((b ^ K1).natAbs : Int) = b ^ K1 by omega, show ((cdE x).natAbs : Int) = cdE x by omega, show ((b ^ (x.e + (K1 : Int)).toNat).natAbs : Int) = b ^ (x.e + (K1 : Int)).toNat by omega] at this
      exact this
    have dgl : u + p - x.e ≤ 40 := by
      have := pow_lt_inv hb g2 (show (x.c.natAbs : Int) < b ^ 37 from hx.c)
      omega
    have hP : Pl b (cnE x) (cdE x) (u + p - 1) := by
      refine ⟨by omega, ?_, ?_⟩
      · rw [aN]
        refine Int.mul_le_mul_of_nonneg_left ?_ (by omega)
        rw [show (u + p - 1 + (K1 : Int)).toNat = (u + p - x.e - 1).toNat + (x.e + (K1 : Int)).toNat by omega, Int.pow_add]
        exact Int.mul_le_mul_of_nonneg_right g2 (by omega)
      · rw [aN]
        refine Int.mul_lt_mul_of_pos_left ?_ d1
        rw [show (u + p - 1 + 1 + (K1 : Int)).toNat = (u + p - x.e).toNat + (x.e + (K1 : Int)).toNat by omega, Int.pow_add]
        exact Int.mul_lt_mul_of_pos_right g3 (by omega)
    have ek := pl_one hb d1 hk1 hP
    subst ek
    rw [e', e, show u + p - 1 - p + 1 = u by omega]
    unfold rnd
    rw [eb]
    split
    · rename_i l
      congr 1
      have pl := pow_pos' hb (u - x.e).toNat
      have pu := pow_pos' hb u.toNat
      have e1 : b ^ (u + (K1 : Int)).toNat = b ^ (u - x.e).toNat * b ^ (x.e + (K1 : Int)).toNat := by rw [← Int.pow_add]; congr 1; omega
      unfold rqs
      split
      · refine rq_ratio m (Int.mul_pos d1 (by omega)) (by omega) ?_
        have e2 : b ^ (u + (K1 : Int)).toNat = b ^ u.toNat * b ^ K1 := by rw [← Int.pow_add]; congr 1; omega
        refine Int.eq_of_mul_eq_mul_right (a := b ^ K1) (by omega) ?_
        have e3 : cnE x * b ^ (u - x.e).toNat * b ^ K1 = cnE x * b ^ K1 * b ^ (u - x.e).toNat := Int.mul_right_comm _ _ _
        have e4 : x.c * (cdE x * b ^ u.toNat) * b ^ K1 = cdE x * (x.c * b ^ (u + (K1 : Int)).toNat) := by
          rw [e2]; simp only [Int.mul_assoc, Int.mul_comm, Int.mul_left_comm]
        rw [e3, sc, e4, e1]
        simp only [Int.mul_assoc, Int.mul_comm, Int.mul_left_comm]
      · refine rq_ratio m d1 (by omega) ?_
        have e2 : b ^ K1 = b ^ (-u).toNat * b ^ (u + (K1 : Int)).toNat := by rw [← Int.pow_add]; congr 1; omega
        refine Int.eq_of_mul_eq_mul_right (a := b ^ (u + (K1 : Int)).toNat) (by have := pow_pos' hb (u + (K1 : Int)).toNat; omega) ?_
        have e3 : cnE x * b ^ (-u).toNat * b ^ (u - x.e).toNat * b ^ (u + (K1 : Int)).toNat = cnE x * b ^ K1 * b ^ (u - x.e).toNat := by
          rw [e2]; simp only [Int.mul_assoc, Int.mul_comm, Int.mul_left_comm]
        rw [e3, sc, e1]
        simp only [Int.mul_assoc, Int.mul_comm, Int.mul_left_comm]
    · rename_i l
      have ex : rqs b (cnE x) (cdE x) m u = x.c * b ^ (x.e - u).toNat := by
        have e1 : b ^ (x.e + (K1 : Int)).toNat = b ^ (x.e - u).toNat * b ^ (u + (K1 : Int)).toNat := by rw [← Int.pow_add]; congr 1; omega
        have pu := pow_pos' hb u.toNat
        unfold rqs
        split
        · have hD : 0 < cdE x * b ^ u.toNat := Int.mul_pos d1 (by omega)
          rw [← rq_ex (T := x.c * b ^ (x.e - u).toNat) (D := cdE x * b ^ u.toNat) (m := m) hD]
          congr 1
          have e2 : b ^ (u + (K1 : Int)).toNat = b ^ u.toNat * b ^ K1 := by rw [← Int.pow_add]; congr 1; omega
          refine Int.eq_of_mul_eq_mul_right (a := b ^ K1) (by omega) ?_
          rw [sc, e1, e2]
          simp only [Int.mul_assoc, Int.mul_comm, Int.mul_left_comm]
        · rw [← rq_ex (T := x.c * b ^ (x.e - u).toNat) (D := cdE x) (m := m) d1]
          congr 1
          have e2 : b ^ K1 = b ^ (-u).toNat * b ^ (u + (K1 : Int)).toNat := by rw [← Int.pow_add]; congr 1; omega
          refine Int.eq_of_mul_eq_mul_right (a := b ^ (u + (K1 : Int)).toNat) (by have := pow_pos' hb (u + (K1 : Int)).toNat; omega) ?_
          rw [Int.mul_assoc, ← e2, sc, e1]
          simp only [Int.mul_assoc, Int.mul_comm, Int.mul_left_comm]
      rw [ex, nrm_shift hb, show u + ((x.e - u).toNat : Int) = x.e by omega]
      have := nrm_low hx.low
      rw [eb] at this
      exact this

def En (o most : Int) (ct pv : Int) : Prop := ∃ j : Nat, ct = j + 1 ∧ pv = o ^ j ∧ (j = 0 ∨ o ^ (j - 1) ≤ most)
theorem En.done {o most ct pv : Int} (ho : 2 ≤ o) (hm : 1 ≤ most) (h : En o most ct pv) (l : ¬ pv ≤ most) : IsDg o most (ct - 1) := by
  obtain ⟨j, h1, h2, h3⟩ := h
  have hj : j ≠ 0 := fun q => by rw [h2, q, Int.pow_zero] at l; omega
  rcases h3 with q | q
  · exact absurd q hj
  · refine .inr ⟨by omega, by omega, ?_, ?_⟩
    · rw [show (ct - 1 - 1).toNat = j - 1 by omega]; omega
    · rw [show (ct - 1).toNat = j by omega]; omega
theorem En.step {o most ct pv : Int} (h : En o most ct pv) (l : pv ≤ most) : En o most (ct + 1) (pv * o) := by
  obtain ⟨j, h1, h2, h3⟩ := h
  exact ⟨j + 1, by omega, by rw [Int.pow_succ, h2], .inr (by rw [Nat.add_sub_cancel]; omega)⟩
theorem En.pos {o most ct pv : Int} (ho : 2 ≤ o) (h : En o most ct pv) : 1 ≤ pv := by
  obtain ⟨j, h1, h2, h3⟩ := h
  rw [h2]; exact pow_pos' ho j
theorem enough_ok {B C p e : Int} (hB : 2 ≤ B) (h6 : B ≤ 36) (hC : 2 ≤ C) (h6C : C ≤ 36) (hp : 3 ≤ p ∧ p ≤ 12) (h : IsDg C (B ^ p.toNat) (e - 1)) : 2 ≤ e ∧ e ≤ 75 ∧ B ^ p.toNat < C ^ (e - 1).toNat ∧ Sz 100 (C ^ (e + 2).toNat) := by
  have pp := pow_pos' hB p.toNat
  have zp : Sz 73 (B ^ p.toNat) := (Sz.pow36 hB h6 p.toNat).mono (by omega)
  have dl := dg_le hC h zp
  rcases h with ⟨z, _⟩ | ⟨_, a1, a2, a3⟩
  · omega
  have en : ((B ^ p.toNat).natAbs : Int) = B ^ p.toNat := by omega
  rw [en] at a2 a3
  refine ⟨by omega, by omega, a3, ?_⟩
  have e1 : C ^ (e + 2).toNat = C ^ (e - 1 - 1).toNat * C ^ 4 := by rw [← Int.pow_add]; congr 1; omega
  rw [e1]
  have z2 : Sz 73 (C ^ (e - 1 - 1).toNat) := zp.le (by have := pow_pos' hC (e - 1 - 1).toNat; omega)
  exact (z2.mul ((Sz.pow36 hC h6C 4).mono (by decide) : Sz 25 _)).mono (by decide)

theorem sg_lt {s c t : Int} (hs : s = 1 ∨ s = -1) (h0 : 1 ≤ c) (h1 : c < t) : ((s * c).natAbs : Int) < t := by
  rcases hs with rfl | rfl
  · rw [Int.one_mul]; omega
  · rw [Int.neg_mul, Int.one_mul]; omega
theorem nm_sg {b s c e p r0 r1 : Int} (hb : 2 ≤ b) (hp : 1 ≤ p) (hs : s = 1 ∨ s = -1) (h0 : 1 ≤ c) (h1 : c < b ^ p.toNat) (h : (⟨b, r0, r1⟩ : EN) = nrm b (s * c) e) : Nm p none ⟨b, r0, r1⟩ := by
  rw [h]; exact nm_nrm hb hp (by have := sg_lt hs h0 h1; omega)
theorem nv_zero {b : Int} (hb : 2 ≤ b) (h6 : b ≤ 36) : Nv b ⟨b, 0, 0⟩ := nv_of (c := 0) (e := 0) (j := 1) hb h6 (by rw [Int.pow_one]; show (((0 : Int).natAbs : Nat) : Int) < b; rw [show (((0 : Int).natAbs : Nat) : Int) = 0 from rfl]; omega) (by decide) (by decide) (by decide) (nrm_zero b 0).symm
theorem nv_one {b s e : Int} (hb : 2 ≤ b) (h6 : b ≤ 36) (hs : s = 1 ∨ s = -1) (h0 : -20 ≤ e) (h1 : e ≤ 20) : Nv b ⟨b, s, e⟩ ∧ ∀ p : Int, 1 ≤ p → Nm p none ⟨b, s, e⟩ := by
  have hm : s % b ≠ 0 := by
    rcases hs with rfl | rfl
    · rw [Int.emod_eq_of_lt (by decide) (by omega)]; decide
    · intro q
      have := Int.dvd_of_emod_eq_zero q
      have := Int.le_of_dvd (by decide : (0 : Int) < 1) ((Int.dvd_neg).mp this)
      omega
  have hn : (⟨b, s, e⟩ : EN) = nrm b s e := by
    rw [nrm_of (n := 0) hb (by omega) (by rw [Int.pow_zero, Int.mul_one]) hm]
    show _ = (⟨b, s, e + ((0 : Nat) : Int)⟩ : EN)
    rw [show e + ((0 : Nat) : Int) = e by omega]
  refine ⟨nv_of (j := 1) hb h6 (by rw [Int.pow_one]; omega) (by decide) (by omega) (by omega) hn, fun p hp => ?_⟩
  rw [hn]
  exact nm_nrm hb hp (by have := pow_pos' hb p.toNat; omega)

theorem mid_pl {b p : Int} {y : EN} (hb : 2 ≤ b) (yb : 2 ≤ y.b) (zn : Sz 600 (cnE y)) (zd : Sz 600 (cdE y)) (k : Int) (h : Pl b (cnE y) (cdE y) k) (hz : cnE y ≠ 0) : -700 ≤ k := by
  have := pl_bd hb hz (cd_pos yb) zn zd h
  omega
theorem pl_z {b n d k : Int} (hb : 2 ≤ b) (hd : 0 < d) (h : Pl b n d k) : n ≠ 0 := by
  intro z
  obtain ⟨_, h1, _⟩ := h
  rw [z, show (((0 : Int).natAbs : Nat) : Int) = 0 from rfl, Int.zero_mul] at h1
  have := Int.mul_pos hd (show 0 < b ^ (k + (K1 : Int)).toNat by have := pow_pos' hb (k + (K1 : Int)).toNat; omega)
  omega
theorem pl_lo7 {b n d k : Int} (hb : 2 ≤ b) (hd : 0 < d) (zn : Sz 600 n) (zd : Sz 600 d) (h : Pl b n d k) : -700 ≤ k := by
  have := pl_bd hb (pl_z hb hd h) hd zn zd h
  omega

theorem rt_low {b p n d : Int} {m : Str} {r : EN} (hb : 2 ≤ b) (h6 : b ≤ 36) (h : Rt b p n d m r) : Low r := by
  rcases h with ⟨_, e⟩ | ⟨_, k, _, e⟩
  · rw [e]; exact ⟨hb, h6, fun _ => rfl, fun h => absurd rfl h⟩
  · rw [e]; exact low_nrm hb h6

theorem bad_at {q dn dp : Int} (h0 : 0 ≤ q) (h1 : q < 5) (n0 : 0 ≤ dn) (p0 : 0 ≤ dp) : ¬ (2 ≤ ([1, 37, 0, 0 - dn, 38 + dp] : List Int).getD q.toNat 0 ∧ ([1, 37, 0, 0 - dn, 38 + dp] : List Int).getD q.toNat 0 ≤ 36) := by
  have : q = 0 ∨ q = 1 ∨ q = 2 ∨ q = 3 ∨ q = 4 := by omega
  rcases this with rfl | rfl | rfl | rfl | rfl
  · show ¬ (2 ≤ (1 : Int) ∧ (1 : Int) ≤ 36); omega
  · show ¬ (2 ≤ (37 : Int) ∧ (37 : Int) ≤ 36); omega
  · show ¬ (2 ≤ (0 : Int) ∧ (0 : Int) ≤ 36); omega
  · show ¬ (2 ≤ (0 - dn : Int) ∧ (0 - dn : Int) ≤ 36); omega
  · show ¬ (2 ≤ (38 + dp : Int) ∧ (38 + dp : Int) ≤ 36); omega

theorem small3 {C : Int} (hC : 2 ≤ C) (h6 : C ≤ 36) : Sz 100 (C ^ (3 : Int).toNat) := (Sz.pow36 hC h6 3).mono (by decide)
theorem dgs_ok {C e d : Int} (hC : 2 ≤ C) (h : Sz 100 (C ^ (e + 2).toNat)) (h0 : 0 ≤ d) (h1 : d ≤ e + 2) : Sz 100 (C ^ d.toNat) := h.le (by
  have := pow_le' hC (show d.toNat ≤ (e + 2).toNat by omega)
  have := pow_pos' hC d.toNat
  omega)
theorem dgl_ok {C e d P : Int} (hC : 2 ≤ C) (h0 : e ≤ d) (h : P < C ^ (e - 1).toNat) : P < C ^ (d - 1).toNat := by
  have := pow_le' hC (show (e - 1).toNat ≤ (d - 1).toNat by omega)
  omega
theorem free_lt {b p f pg dl long dk s : Int} (hb : 2 ≤ b) (h6 : b ≤ 36) (hp : 3 ≤ p ∧ p ≤ 12) (h0 : b ^ (p - 1).toNat ≤ f) (h1 : f < b ^ p.toNat) (hg : pg = b ^ dl.toNat) (d0 : 0 ≤ dl) (d1 : dl ≤ 2 * p) (hl : long = f * pg) (k0 : 0 ≤ dk) (k1 : dk < 1000) (hs : s = 1 ∨ s = -1) : (((long + dk) * s).natAbs : Int) < b ^ 37 := by
  have e36 : b ^ p.toNat * b ^ dl.toNat ≤ b ^ 36 := by rw [← Int.pow_add]; exact pow_le' hb (by omega)
  have p1 := pow_pos' hb (p - 1).toNat
  have p2 := pow_pos' hb dl.toNat
  have q1 := Int.mul_lt_mul_of_pos_right h1 (show 0 < b ^ dl.toNat by omega)
  have q2 := Int.mul_nonneg (show 0 ≤ f by omega) (show 0 ≤ b ^ dl.toNat by omega)
  have q3 : (2 : Int) ^ 36 ≤ b ^ 36 := two_pow_le hb 36
  have q4 : b ^ 37 = b ^ 36 * b := Int.pow_succ _ _
  have q5 := Int.mul_le_mul_of_nonneg_left hb (show 0 ≤ b ^ 36 by omega)
  have q6 : (1000 : Int) ≤ 2 ^ 36 := by decide
  rw [hl, hg]
  rcases hs with rfl | rfl <;> omega
abbrev st_BadBase : Stmt := inClass (top 3) 0
abbrev ff_BadBase : List (Str × Str) := [("base", "base")]
theorem ss_BadBase : SupS (defArgs st_BadBase) (defBody st_BadBase) (defScope st_BadBase) "self" ff_BadBase := ⟨⟨_, _, _, _, _, _, _, _, _, rfl, rfl, fun _ => ⟨_, rfl⟩, fun _ => rfl⟩, rfl, rfl, rfl, rfl, by decide +kernel, rfl, rfl, rfl, by decide +kernel, rfl⟩
theorem sb_BadBase (s : Shared) (kV doc pm : Value) (an : Option Addr) (cdv ct : Value) (cc : Addr) (u0 u1 : Value) : BindsTo s (PySem.W.ksFn "__init__" "BadBase.__init__" (defArgs st_BadBase) (defBody st_BadBase) (defScope st_BadBase) .none kV doc pm an cdv ct cc) ⟨[u0, u1], []⟩ [("self", u0), ("base", u1)] := BindsTo.of_eq rfl
abbrev st_BadMode : Stmt := inClass (top 5) 0
abbrev ff_BadMode : List (Str × Str) := [("mode", "mode")]
theorem ss_BadMode : SupS (defArgs st_BadMode) (defBody st_BadMode) (defScope st_BadMode) "self" ff_BadMode := ⟨⟨_, _, _, _, _, _, _, _, _, rfl, rfl, fun _ => ⟨_, rfl⟩, fun _ => rfl⟩, rfl, rfl, rfl, rfl, by decide +kernel, rfl, rfl, rfl, by decide +kernel, rfl⟩
theorem sb_BadMode (s : Shared) (kV doc pm : Value) (an : Option Addr) (cdv ct : Value) (cc : Addr) (u0 u1 : Value) : BindsTo s (PySem.W.ksFn "__init__" "BadMode.__init__" (defArgs st_BadMode) (defBody st_BadMode) (defScope st_BadMode) .none kV doc pm an cdv ct cc) ⟨[u0, u1], []⟩ [("self", u0), ("mode", u1)] := BindsTo.of_eq rfl
abbrev st_BadGrid : Stmt := inClass (top 4) 0
abbrev ff_BadGrid : List (Str × Str) := [("what", "what")]
theorem ss_BadGrid : SupS (defArgs st_BadGrid) (defBody st_BadGrid) (defScope st_BadGrid) "self" ff_BadGrid := ⟨⟨_, _, _, _, _, _, _, _, _, rfl, rfl, fun _ => ⟨_, rfl⟩, fun _ => rfl⟩, rfl, rfl, rfl, rfl, by decide +kernel, rfl, rfl, rfl, by decide +kernel, rfl⟩
theorem sb_BadGrid (s : Shared) (kV doc pm : Value) (an : Option Addr) (cdv ct : Value) (cc : Addr) (u0 u1 : Value) : BindsTo s (PySem.W.ksFn "__init__" "BadGrid.__init__" (defArgs st_BadGrid) (defBody st_BadGrid) (defScope st_BadGrid) .none kV doc pm an cdv ct cc) ⟨[u0, u1], []⟩ [("self", u0), ("what", u1)] := BindsTo.of_eq rfl
structure Txt (P : Program) (w : World) (K : PySem.W.Frag) (mg : Str → Option Value) : Prop where
  d_power : ∃ fd, FunD K "power" "power" (defArgs (top 12)) (defBody (top 12)) (defScope (top 12)) [] [] (He.fAd K ("power", none)) fd
  d_squares_up_to : ∃ fd, FunD K "squares_up_to" "squares_up_to" (defArgs (top 13)) (defBody (top 13)) (defScope (top 13)) [] [] (He.fAd K ("squares_up_to", none)) fd
  d_count_digits : ∃ fd, FunD K "count_digits" "count_digits" (defArgs (top 14)) (defBody (top 14)) (defScope (top 14)) [] [] (He.fAd K ("count_digits", none)) fd
  d_Exact_digits : ∃ fd, FunD K "digits" "Exact.digits" (defArgs (inClass (top 17) 2)) (defBody (inClass (top 17) 2)) (defScope (inClass (top 17) 2)) [] [] (prA K "Exact" "digits") fd
  d_Exact_place : ∃ fd, FunD K "place" "Exact.place" (defArgs (inClass (top 17) 3)) (defBody (inClass (top 17) 3)) (defScope (inClass (top 17) 3)) [] [] (prA K "Exact" "place") fd
  d_check_base : ∃ fd, FunD K "check_base" "check_base" (defArgs (top 16)) (defBody (top 16)) (defScope (top 16)) [] [] (He.fAd K ("check_base", none)) fd
  d_Grid___init__ : ∃ fd, FunD K "__init__" "Grid.__init__" (defArgs (inClass (top 32) 2)) (defBody (inClass (top 32) 2)) (defScope (inClass (top 32) 2)) [] [("bottom", V.non), ("top", V.non)] (He.fAd K ("Grid", some "__init__")) fd
  d_without_zeros : ∃ fd, FunD K "without_zeros" "without_zeros" (defArgs (top 15)) (defBody (top 15)) (defScope (top 15)) [] [] (He.fAd K ("without_zeros", none)) fd
  d_Exact___init__ : ∃ fd, FunD K "__init__" "Exact.__init__" (defArgs (inClass (top 17) 0)) (defBody (inClass (top 17) 0)) (defScope (inClass (top 17) 0)) [V.int 0] [] (He.fAd K ("Exact", some "__init__")) fd
  d_check_mode : ∃ fd, FunD K "check_mode" "check_mode" (defArgs (top 27)) (defBody (top 27)) (defScope (top 27)) [] [] (He.fAd K ("check_mode", none)) fd
  d_goes_up : ∃ fd, FunD K "goes_up" "goes_up" (defArgs (top 28)) (defBody (top 28)) (defScope (top 28)) [] [] (He.fAd K ("goes_up", none)) fd
  d_tie_goes_up : ∃ fd, FunD K "tie_goes_up" "tie_goes_up" (defArgs (top 29)) (defBody (top 29)) (defScope (top 29)) [] [] (He.fAd K ("tie_goes_up", none)) fd
  d_round_quotient : ∃ fd, FunD K "round_quotient" "round_quotient" (defArgs (top 30)) (defBody (top 30)) (defScope (top 30)) [] [] (He.fAd K ("round_quotient", none)) fd
  d_check_free : ∃ fd, FunD K "check_free" "check_free" (defArgs (top 34)) (defBody (top 34)) (defScope (top 34)) [] [] (He.fAd K ("check_free", none)) fd
  d_ratio_place : ∃ fd, FunD K "ratio_place" "ratio_place" (defArgs (top 37)) (defBody (top 37)) (defScope (top 37)) [] [] (He.fAd K ("ratio_place", none)) fd
  d_rounded_ratio : ∃ fd, FunD K "rounded_ratio" "rounded_ratio" (defArgs (top 38)) (defBody (top 38)) (defScope (top 38)) [] [] (He.fAd K ("rounded_ratio", none)) fd
  d_converted : ∃ fd, FunD K "converted" "converted" (defArgs (top 40)) (defBody (top 40)) (defScope (top 40)) [V.str "nearest-even"] [] (He.fAd K ("converted", none)) fd
  d_digits_enough : ∃ fd, FunD K "digits_enough" "digits_enough" (defArgs (top 41)) (defBody (top 41)) (defScope (top 41)) [] [] (He.fAd K ("digits_enough", none)) fd
  d__law_draw : ∃ fd, FunD K "_law_draw" "_law_draw" (defArgs (top 44)) (defBody (top 44)) (defScope (top 44)) [] [] (He.fAd K ("_law_draw", none)) fd
  d__law_source : ∃ fd, FunD K "_law_source" "_law_source" (defArgs (top 43)) (defBody (top 43)) (defScope (top 43)) [] [] (He.fAd K ("_law_source", none)) fd
  d__law_modes : ∃ fd, FunD K "_law_modes" "_law_modes" (defArgs (top 45)) (defBody (top 45)) (defScope (top 45)) [] [] (He.fAd K ("_law_modes", none)) fd
  d__law_mode : ∃ fd, FunD K "_law_mode" "_law_mode" (defArgs (top 46)) (defBody (top 46)) (defScope (top 46)) [] [] (He.fAd K ("_law_mode", none)) fd
  d__law_nearest : ∃ fd, FunD K "_law_nearest" "_law_nearest" (defArgs (top 47)) (defBody (top 47)) (defScope (top 47)) [] [] (He.fAd K ("_law_nearest", none)) fd
  d__law_base : ∃ fd, FunD K "_law_base" "_law_base" (defArgs (top 48)) (defBody (top 48)) (defScope (top 48)) [] [] (He.fAd K ("_law_base", none)) fd
  d__law_precision : ∃ fd, FunD K "_law_precision" "_law_precision" (defArgs (top 49)) (defBody (top 49)) (defScope (top 49)) [] [] (He.fAd K ("_law_precision", none)) fd
  d__law_power : ∃ fd, FunD K "_law_power" "_law_power" (defArgs (top 50)) (defBody (top 50)) (defScope (top 50)) [] [] (He.fAd K ("_law_power", none)) fd
  d__law_count : ∃ fd, FunD K "_law_count" "_law_count" (defArgs (top 51)) (defBody (top 51)) (defScope (top 51)) [] [] (He.fAd K ("_law_count", none)) fd
  d__law_lowest : ∃ fd, FunD K "_law_lowest" "_law_lowest" (defArgs (top 52)) (defBody (top 52)) (defScope (top 52)) [] [] (He.fAd K ("_law_lowest", none)) fd
  d__law_quotient : ∃ fd, FunD K "_law_quotient" "_law_quotient" (defArgs (top 53)) (defBody (top 53)) (defScope (top 53)) [] [] (He.fAd K ("_law_quotient", none)) fd
  d__law_round : ∃ fd, FunD K "_law_round" "_law_round" (defArgs (top 54)) (defBody (top 54)) (defScope (top 54)) [] [] (He.fAd K ("_law_round", none)) fd
  d__law_full : ∃ fd, FunD K "_law_full" "_law_full" (defArgs (top 55)) (defBody (top 55)) (defScope (top 55)) [] [] (He.fAd K ("_law_full", none)) fd
  d__law_small : ∃ fd, FunD K "_law_small" "_law_small" (defArgs (top 56)) (defBody (top 56)) (defScope (top 56)) [] [] (He.fAd K ("_law_small", none)) fd
  d__law_value : ∃ fd, FunD K "_law_value" "_law_value" (defArgs (top 57)) (defBody (top 57)) (defScope (top 57)) [] [] (He.fAd K ("_law_value", none)) fd
  d__law_equal : ∃ fd, FunD K "_law_equal" "_law_equal" (defArgs (top 58)) (defBody (top 58)) (defScope (top 58)) [] [] (He.fAd K ("_law_equal", none)) fd
  d__law_make : ∃ fd, FunD K "_law_make" "_law_make" (defArgs (top 59)) (defBody (top 59)) (defScope (top 59)) [] [] (He.fAd K ("_law_make", none)) fd
  d__law_is : ∃ fd, FunD K "_law_is" "_law_is" (defArgs (top 60)) (defBody (top 60)) (defScope (top 60)) [] [] (He.fAd K ("_law_is", none)) fd
  d__law_bad_mode : ∃ fd, FunD K "_law_bad_mode" "_law_bad_mode" (defArgs (top 62)) (defBody (top 62)) (defScope (top 62)) [] [] (He.fAd K ("_law_bad_mode", none)) fd
  d__law_bordered : ∃ fd, FunD K "_law_bordered" "_law_bordered" (defArgs (top 63)) (defBody (top 63)) (defScope (top 63)) [] [] (He.fAd K ("_law_bordered", none)) fd
  d__law_error : ∃ fd, FunD K "_law_error" "_law_error" (defArgs (top 69)) (defBody (top 69)) (defScope (top 69)) [] [] (He.fAd K ("_law_error", none)) fd
  d__law_ratio : ∃ fd, FunD K "_law_ratio" "_law_ratio" (defArgs (top 61)) (defBody (top 61)) (defScope (top 61)) [] [] (He.fAd K ("_law_ratio", none)) fd
  d__law_enough : ∃ fd, FunD K "_law_enough" "_law_enough" (defArgs (top 64)) (defBody (top 64)) (defScope (top 64)) [] [] (He.fAd K ("_law_enough", none)) fd
  d__law_converted : ∃ fd, FunD K "_law_converted" "_law_converted" (defArgs (top 65)) (defBody (top 65)) (defScope (top 65)) [] [] (He.fAd K ("_law_converted", none)) fd
  d__law_numbers : ∃ fd, FunD K "_law_numbers" "_law_numbers" (defArgs (top 66)) (defBody (top 66)) (defScope (top 66)) [] [] (He.fAd K ("_law_numbers", none)) fd
  d__law_digits : ∃ fd, FunD K "_law_digits" "_law_digits" (defArgs (top 71)) (defBody (top 71)) (defScope (top 71)) [] [] (He.fAd K ("_law_digits", none)) fd
  d__law_refused : ∃ fd, FunD K "_law_refused" "_law_refused" (defArgs (top 70)) (defBody (top 70)) (defScope (top 70)) [] [] (He.fAd K ("_law_refused", none)) fd
  d__law_back_right : ∃ fd, FunD K "_law_back_right" "_law_back_right" (defArgs (top 67)) (defBody (top 67)) (defScope (top 67)) [] [] (He.fAd K ("_law_back_right", none)) fd
  d__law_value_right : ∃ fd, FunD K "_law_value_right" "_law_value_right" (defArgs (top 68)) (defBody (top 68)) (defScope (top 68)) [] [] (He.fAd K ("_law_value_right", none)) fd
  d__law_refused_right : ∃ fd, FunD K "_law_refused_right" "_law_refused_right" (defArgs (top 72)) (defBody (top 72)) (defScope (top 72)) [] [] (He.fAd K ("_law_refused_right", none)) fd
  d_law : ∃ fd, FunD K "law" "law" (defArgs (top 73)) (defBody (top 73)) (defScope (top 73)) [] [] (He.fAd K ("law", none)) fd
  g_BadBase : mg "BadBase" = some (.ref (He.ga K "BadBase"))
  g_BadGrid : mg "BadGrid" = some (.ref (He.ga K "BadGrid"))
  g_BadMode : mg "BadMode" = some (.ref (He.ga K "BadMode"))
  g_Exact : mg "Exact" = some (.ref (He.ga K "Exact"))
  g_Grid : mg "Grid" = some (.ref (He.ga K "Grid"))
  g_LostError : mg "LostError" = some (.ref (He.ga K "LostError"))
  g_MODES : mg "MODES" = some (.ref (He.ga K "MODES"))
  t_MODES : ∀ H : Hp, SqT K H (He.ga K "MODES") [V.str "nearest-even", V.str "nearest-out", V.str "nearest-in", V.str "nearest-up", V.str "nearest-down", V.str "inward", V.str "outward", V.str "upward", V.str "downward"]
  g_NEAREST : mg "NEAREST" = some (.ref (He.ga K "NEAREST"))
  t_NEAREST : ∀ H : Hp, SqT K H (He.ga K "NEAREST") [V.str "nearest-even", V.str "nearest-out", V.str "nearest-in", V.str "nearest-up", V.str "nearest-down"]
  g__law_back_right : mg "_law_back_right" = some (.ref (He.fAd K ("_law_back_right", none)))
  g__law_bad_mode : mg "_law_bad_mode" = some (.ref (He.fAd K ("_law_bad_mode", none)))
  g__law_base : mg "_law_base" = some (.ref (He.fAd K ("_law_base", none)))
  g__law_bordered : mg "_law_bordered" = some (.ref (He.fAd K ("_law_bordered", none)))
  g__law_converted : mg "_law_converted" = some (.ref (He.fAd K ("_law_converted", none)))
  g__law_count : mg "_law_count" = some (.ref (He.fAd K ("_law_count", none)))
  g__law_digits : mg "_law_digits" = some (.ref (He.fAd K ("_law_digits", none)))
  g__law_draw : mg "_law_draw" = some (.ref (He.fAd K ("_law_draw", none)))
  g__law_enough : mg "_law_enough" = some (.ref (He.fAd K ("_law_enough", none)))
  g__law_equal : mg "_law_equal" = some (.ref (He.fAd K ("_law_equal", none)))
  g__law_error : mg "_law_error" = some (.ref (He.fAd K ("_law_error", none)))
  g__law_full : mg "_law_full" = some (.ref (He.fAd K ("_law_full", none)))
  g__law_is : mg "_law_is" = some (.ref (He.fAd K ("_law_is", none)))
  g__law_lowest : mg "_law_lowest" = some (.ref (He.fAd K ("_law_lowest", none)))
  g__law_make : mg "_law_make" = some (.ref (He.fAd K ("_law_make", none)))
  g__law_mode : mg "_law_mode" = some (.ref (He.fAd K ("_law_mode", none)))
  g__law_modes : mg "_law_modes" = some (.ref (He.fAd K ("_law_modes", none)))
  g__law_nearest : mg "_law_nearest" = some (.ref (He.fAd K ("_law_nearest", none)))
  g__law_numbers : mg "_law_numbers" = some (.ref (He.fAd K ("_law_numbers", none)))
  g__law_power : mg "_law_power" = some (.ref (He.fAd K ("_law_power", none)))
  g__law_precision : mg "_law_precision" = some (.ref (He.fAd K ("_law_precision", none)))
  g__law_quotient : mg "_law_quotient" = some (.ref (He.fAd K ("_law_quotient", none)))
  g__law_ratio : mg "_law_ratio" = some (.ref (He.fAd K ("_law_ratio", none)))
  g__law_refused : mg "_law_refused" = some (.ref (He.fAd K ("_law_refused", none)))
  g__law_refused_right : mg "_law_refused_right" = some (.ref (He.fAd K ("_law_refused_right", none)))
  g__law_round : mg "_law_round" = some (.ref (He.fAd K ("_law_round", none)))
  g__law_small : mg "_law_small" = some (.ref (He.fAd K ("_law_small", none)))
  g__law_source : mg "_law_source" = some (.ref (He.fAd K ("_law_source", none)))
  g__law_value : mg "_law_value" = some (.ref (He.fAd K ("_law_value", none)))
  g__law_value_right : mg "_law_value_right" = some (.ref (He.fAd K ("_law_value_right", none)))
  b_abs : mg "abs" = none
  b_bool : mg "bool" = none
  g_check_base : mg "check_base" = some (.ref (He.fAd K ("check_base", none)))
  g_check_free : mg "check_free" = some (.ref (He.fAd K ("check_free", none)))
  g_check_mode : mg "check_mode" = some (.ref (He.fAd K ("check_mode", none)))
  g_converted : mg "converted" = some (.ref (He.fAd K ("converted", none)))
  g_count_digits : mg "count_digits" = some (.ref (He.fAd K ("count_digits", none)))
  g_digits_enough : mg "digits_enough" = some (.ref (He.fAd K ("digits_enough", none)))
  b_divmod : mg "divmod" = none
  g_goes_up : mg "goes_up" = some (.ref (He.fAd K ("goes_up", none)))
  b_int : mg "int" = none
  b_isinstance : mg "isinstance" = none
  g_law : mg "law" = some (.ref (He.fAd K ("law", none)))
  b_len : mg "len" = none
  b_list : mg "list" = none
  g_power : mg "power" = some (.ref (He.fAd K ("power", none)))
  b_range : mg "range" = none
  g_ratio_place : mg "ratio_place" = some (.ref (He.fAd K ("ratio_place", none)))
  b_reversed : mg "reversed" = none
  g_round_quotient : mg "round_quotient" = some (.ref (He.fAd K ("round_quotient", none)))
  g_rounded_ratio : mg "rounded_ratio" = some (.ref (He.fAd K ("rounded_ratio", none)))
  g_squares_up_to : mg "squares_up_to" = some (.ref (He.fAd K ("squares_up_to", none)))
  b_str : mg "str" = none
  b_super : mg "super" = none
  g_tie_goes_up : mg "tie_goes_up" = some (.ref (He.fAd K ("tie_goes_up", none)))
  b_tuple : mg "tuple" = none
  g_without_zeros : mg "without_zeros" = some (.ref (He.fAd K ("without_zeros", none)))
  cls_Exact : Cls K (He.ga K "Exact")
  na_Exact_base : NoAttr K (He.ga K "Exact") "base"
  na_Exact_coefficient : NoAttr K (He.ga K "Exact") "coefficient"
  na_Exact_exponent : NoAttr K (He.ga K "Exact") "exponent"
  sup_BadBase : SupT P K (He.ga K "BadBase") (He.fAd K ("BadBase", some "__init__")) "BadBase.__init__" (defArgs (st_BadBase)) (defBody (st_BadBase)) (defScope (st_BadBase)) "self" ff_BadBase
  cval_Grid_LEAST : ∃ mc u, ClX.CRead K (He.ga K "Grid") mc ∧ ClX.CVal K (He.ga K "Grid") mc "LEAST" (V.int 3) u
  cval_Grid_MOST : ∃ mc u, ClX.CRead K (He.ga K "Grid") mc ∧ ClX.CVal K (He.ga K "Grid") mc "MOST" (V.int 200) u
  cls_Grid : Cls K (He.ga K "Grid")
  na_Grid_base : NoAttr K (He.ga K "Grid") "base"
  na_Grid_precision : NoAttr K (He.ga K "Grid") "precision"
  na_Grid_bottom : NoAttr K (He.ga K "Grid") "bottom"
  na_Grid_top : NoAttr K (He.ga K "Grid") "top"
  sup_BadMode : SupT P K (He.ga K "BadMode") (He.fAd K ("BadMode", some "__init__")) "BadMode.__init__" (defArgs (st_BadMode)) (defBody (st_BadMode)) (defScope (st_BadMode)) "self" ff_BadMode
  sup_BadGrid : SupT P K (He.ga K "BadGrid") (He.fAd K ("BadGrid", some "__init__")) "BadGrid.__init__" (defArgs (st_BadGrid)) (defBody (st_BadGrid)) (defScope (st_BadGrid)) "self" ff_BadGrid
  mk_Exact : Mk K (He.ga K "Exact") (He.fAd K ("Exact", some "__init__"))
  ins_Exact : C8.InsC K (He.ga K "Exact")
  mk_Grid : Mk K (He.ga K "Grid") (He.fAd K ("Grid", some "__init__"))
  excC_BadMode : ExcC K (He.ga K "BadMode")
  ekit_BadMode_BadMode : PySem.W.kitOne K (.ref (He.ga K "BadMode")) (.ref (He.ga K "BadMode")) = some true
  ekit_BadMode_BadGrid : PySem.W.kitOne K (.ref (He.ga K "BadMode")) (.ref (He.ga K "BadGrid")) = some false
  ekit_BadMode_BadBase : PySem.W.kitOne K (.ref (He.ga K "BadMode")) (.ref (He.ga K "BadBase")) = some false
  xfC_BadMode : XfC K (He.ga K "BadMode")
  na_BadMode_mode : NoAttr K (He.ga K "BadMode") "mode"
  excC_BadGrid : ExcC K (He.ga K "BadGrid")
  ekit_BadGrid_BadMode : PySem.W.kitOne K (.ref (He.ga K "BadGrid")) (.ref (He.ga K "BadMode")) = some false
  ekit_BadGrid_BadGrid : PySem.W.kitOne K (.ref (He.ga K "BadGrid")) (.ref (He.ga K "BadGrid")) = some true
  ekit_BadGrid_BadBase : PySem.W.kitOne K (.ref (He.ga K "BadGrid")) (.ref (He.ga K "BadBase")) = some false
  xfC_BadGrid : XfC K (He.ga K "BadGrid")
  na_BadGrid_what : NoAttr K (He.ga K "BadGrid") "what"
  excC_BadBase : ExcC K (He.ga K "BadBase")
  ekit_BadBase_BadMode : PySem.W.kitOne K (.ref (He.ga K "BadBase")) (.ref (He.ga K "BadMode")) = some false
  ekit_BadBase_BadGrid : PySem.W.kitOne K (.ref (He.ga K "BadBase")) (.ref (He.ga K "BadGrid")) = some false
  ekit_BadBase_BadBase : PySem.W.kitOne K (.ref (He.ga K "BadBase")) (.ref (He.ga K "BadBase")) = some true
  xfC_BadBase : XfC K (He.ga K "BadBase")
  na_BadBase_base : NoAttr K (He.ga K "BadBase") "base"
  exm_BadGrid_LostError : PySem.W.exmOne K (.ref (He.ga K "BadGrid")) (.ref (He.ga K "LostError")) = some true
  exm_BadBase_LostError : PySem.W.exmOne K (.ref (He.ga K "BadBase")) (.ref (He.ga K "LostError")) = some true
  exm_BadMode_LostError : PySem.W.exmOne K (.ref (He.ga K "BadMode")) (.ref (He.ga K "LostError")) = some true
/-! power -/
def sp_power (K : PySem.W.Frag) : Sp := fun vs H Q _ => ∃ (base : Int) (count : Int), vs = [V.int base, V.int count] ∧ (0 ≤ count) ∧ (count ≤ 20000) ∧ (Sz 6 base) ∧ ∀ (r : Int) (H' : Hp), Same H H' → (r = base ^ count.toNat) → Q (V.int r) H'
abbrev s_power : Stmt := top 12
theorem sc_power : FnScope ["base", "count", "result", "square"] ["base", "count"] (defScope s_power) := ⟨rfl, rfl, rfl, by decide +kernel, rfl, by decide +kernel, by decide +kernel⟩
theorem vis_power : visB ["base", "count", "result", "square"] (defScope s_power) = true := by decide +kernel
theorem gl_power : glB [] (defScope s_power) = true := by decide +kernel
theorem ok_power {P : Program} {w : World} {K : PySem.W.Frag} {mg : Str → Option Value} {hp9 : Heap} (T : Txt P w K mg) : OkD P w K mg hp9 1 (He.fAd K ("power", none)) ["base", "count"] [] (sp_power K) := by
  obtain ⟨fd, F⟩ := T.d_power
  refine ⟨fd, [], F.kp, F.bindsN (fun _ _ _ _ _ _ us hl => match us, hl with | [_, _], _ => rfl), .nil, ?_⟩
  have sc := sc_power; have vis := vis_power; have gls := gl_power
  refine F.ok sc (fun vs H Q E h => ?_) (fun cdv A outer s H0 vs Q E hr h => ?_)
  · obtain ⟨base, count, rfl, _⟩ := h; rfl
  · obtain ⟨base, count, rfl, e0, e1, e2, k⟩ := h
    refine ⟨_, PSs.nox (pss_cons (ps_set (i := 2) sc.nd rfl (.inl rfl) pe_int) (pss_cons (ps_set (i := 3) sc.nd rfl (.inl rfl) (pn vis 0)) (pss_cons (ps_while PassesOwn.never (pt_cmpR op_gt (pn vis 1) pe_int (nomark _)) (pss_cons (ps_if (pt_cmpR op_eqI (pe_op op_mod (pn vis 1) pe_int) pe_int (nomark _)) (pss_one (ps_set (i := 2) sc.nd rfl (.inl rfl) (pe_op op_mulX (pn vis 2) (pn vis 3)))) pss_nil) (pss_cons (ps_set (i := 3) sc.nd rfl (.inl rfl) (pe_op op_mulX (pn vis 3) (pn vis 3))) (pss_one (ps_set (i := 1) sc.nd rfl (.inl rfl) (pe_op op_fdiv (pn vis 1) pe_int)))))) (pss_one (ps_ret (pn vis 2)))))), ?_⟩
    refine i_start (σ' := [some (V.int base), some (V.int count), none, none]) rfl ?_
    refine i_seq <| i_asg <| i_c <| n2 <| i_nx <| i_seq <| i_asg <| v0 <| n3 <| i_nx <| i_seq <| ?_
    refine i_while (fun m σ H' => ∃ (cn : Int) (x : Int) (q : Int), σ = [some (V.int base), some (V.int cn), some (V.int x), some (V.int q)] ∧ m = cn.toNat ∧ Same H0 H' ∧ (Pw base count x q cn)) ?_ ?_
    ·
      exact ⟨_, _, _, _, rfl, rfl, (Same.refl _), (by exact Pw.init e0)⟩
    ·
      rintro m σ H1 ⟨cn, x, q, rfl, rfl, s1, i0⟩
      refine i_test <| i_op <| v1 <| i_c <| i_I0 <| i_bl <| i_ite (fun c3 => ?_) (fun c3 => ?_)
      ·
        refine i_turn <| i_seq <| i_if <| i_test <| i_op <| i_op <| v1 <| i_c <| i_I (by show (0 : Int) < _; first | decide | assumption | omega) <| i_c <| i_I0 <| i_bl <| i_ite (fun c4 => ?_) (fun c4 => ?_)
        ·
          refine i_asg <| i_op <| v2 <| v3 <| i_I (by exact mulx (i0.sz c3 e1 e2).1 (i0.sz c3 e1 e2).2) <| n2 <| i_nx <| i_seq <| i_asg <| i_op <| v3 <| v3 <| i_I (by exact mulx (i0.sz c3 e1 e2).2 (i0.sz c3 e1 e2).2) <| n3 <| i_nx <| i_asg <| i_op <| v1 <| i_c <| i_I ⟨by decide, by decide⟩ <| n1 <| ?_
          refine ⟨_, ?_, _, _, _, rfl, rfl, s1, (by exact i0.odd c4)⟩
          omega
        ·
          refine i_next <| i_nx <| i_seq <| i_asg <| i_op <| v3 <| v3 <| i_I (by exact mulx (i0.sz c3 e1 e2).2 (i0.sz c3 e1 e2).2) <| n3 <| i_nx <| i_asg <| i_op <| v1 <| i_c <| i_I ⟨by decide, by decide⟩ <| n1 <| ?_
          refine ⟨_, ?_, _, _, _, rfl, rfl, s1, (by exact i0.even c4)⟩
          omega
      ·
        refine i_nx <| i_ret <| v2 <| ?_
        exact k _ _ s1 (by exact i0.done c3)

/-! squares_up_to -/
def sp_squares_up_to (K : PySem.W.Frag) : Sp := fun vs H Q _ => ∃ (base : Int) (size : Int), vs = [V.int base, V.int size] ∧ (2 ≤ base) ∧ (Sz 9000 size) ∧ ∀ (rA : Addr) (r : List Int) (H' : Hp), Same H H' → H' rA = some (.lst (r.map V.int)) → (∃ n, n ≤ 14 ∧ r = sqL base n ∧ size < base ^ (2 ^ n) ∧ ∀ k < n, base ^ (2 ^ k) ≤ size) → Q (V.ref rA) H'
abbrev s_squares_up_to : Stmt := top 13
theorem sc_squares_up_to : FnScope ["base", "size", "squares", "square"] ["base", "size"] (defScope s_squares_up_to) := ⟨rfl, rfl, rfl, by decide +kernel, rfl, by decide +kernel, by decide +kernel⟩
theorem vis_squares_up_to : visB ["base", "size", "squares", "square"] (defScope s_squares_up_to) = true := by decide +kernel
theorem gl_squares_up_to : glB [] (defScope s_squares_up_to) = true := by decide +kernel
theorem ok_squares_up_to {P : Program} {w : World} {K : PySem.W.Frag} {mg : Str → Option Value} {hp9 : Heap} (T : Txt P w K mg) : OkD P w K mg hp9 1 (He.fAd K ("squares_up_to", none)) ["base", "size"] [] (sp_squares_up_to K) := by
  obtain ⟨fd, F⟩ := T.d_squares_up_to
  refine ⟨fd, [], F.kp, F.bindsN (fun _ _ _ _ _ _ us hl => match us, hl with | [_, _], _ => rfl), .nil, ?_⟩
  have sc := sc_squares_up_to; have vis := vis_squares_up_to; have gls := gl_squares_up_to
  refine F.ok sc (fun vs H Q E h => ?_) (fun cdv A outer s H0 vs Q E hr h => ?_)
  · obtain ⟨base, size, rfl, _⟩ := h; rfl
  · obtain ⟨base, size, rfl, e0, e1, k⟩ := h
    refine ⟨_, PSs.nox (pss_cons (ps_set (i := 2) sc.nd rfl (.inl rfl) (pe_lst pa_nil)) (pss_cons (ps_set (i := 3) sc.nd rfl (.inl rfl) (pn vis 0)) (pss_cons (ps_while PassesOwn.never (pt_cmpR op_le (pn vis 3) (pn vis 1) (nomark _)) (pss_cons (ps_expr (pe_bm PySem.F.plainAttrs_list PySem.F.slot_list_append PySem.F.type_list_append mt_append (pn vis 2) (pa_cons (pn vis 3) pa_nil))) (pss_one (ps_set (i := 3) sc.nd rfl (.inl rfl) (pe_op op_mulX (pn vis 3) (pn vis 3)))))) (pss_one (ps_ret (pn vis 2)))))), ?_⟩
    refine i_start (σ' := [some (V.int base), some (V.int size), none, none]) rfl ?_
    refine i_seq <| i_asg <| i_lst <| i_nil <| i_kLst (of_decide_eq_true rfl) (fun p1 H1 z1 s1 f1 => ?_)
    refine n2 <| i_nx <| i_seq <| i_asg <| v0 <| n3 <| i_nx <| i_seq <| ?_
    refine i_while (fun m σ H' => ∃ (sqA : Addr) (sq : List Int) (v : Int), σ = [some (V.int base), some (V.int size), some (V.ref sqA), some (V.int v)] ∧ m = (size + 1 - v).toNat ∧ Same H0 H' ∧ H' sqA = some (.lst (sq.map V.int)) ∧ H0 sqA = none ∧ (Sq base size sq v)) ?_ ?_
    ·
      exact ⟨_, _, [], _, rfl, rfl, s1, f1, z1, (by exact Sq.init)⟩
    ·
      rintro m σ H2 ⟨sqA, sq, v, rfl, rfl, s2, f2_0, z_sq, i0⟩
      refine i_test <| i_op <| v3 <| v1 <| i_I0 <| i_bl <| i_ite (fun c3 => ?_) (fun c3 => ?_)
      ·
        refine i_turn <| i_seq <| i_drop <| i_bm <| v2 <| i_tyL (SqL.of f2_0) <| i_cons <| v3 <| i_nil <| i_app f2_0 (by rw [List.length_map]; exact Nat.le_trans (i0.len e0 e1) (by decide)) (fun H3 w3 f3 => ?_)
        have s3 : Same H0 H3 := same_app z_sq s2 w3
        have f3_ : H3 sqA = some (.lst (List.map V.int (sq ++ [v]))) := by rw [List.map_append]; exact f3
        refine i_nx <| i_asg <| i_op <| v3 <| v3 <| i_I (by exact mulx (i0.szv e0 e1 c3) (i0.szv e0 e1 c3)) <| n3 <| ?_
        refine ⟨_, ?_, _, (sq ++ [v]), _, rfl, rfl, s3, f3_, z_sq, (by exact i0.step c3)⟩
        have := lt_sq (i0.two e0); omega
      ·
        refine i_nx <| i_ret <| v2 <| ?_
        exact k _ sq _ s2 f2_0 (by have l := i0.len e0 e1; obtain ⟨n, h1, h2, h3⟩ := i0; subst h1; rw [sqL_len] at l; exact ⟨n, l, rfl, by omega, h3⟩)

/-! count_digits -/
def sp_count_digits (K : PySem.W.Frag) : Sp := fun vs H Q _ => ∃ (base : Int) (coefficient : Int), vs = [V.int base, V.int coefficient] ∧ (2 ≤ base) ∧ (Sz 9000 coefficient) ∧ ∀ (r : Int) (H' : Hp), Same H H' → (IsDg base coefficient r) → Q (V.int r) H'
abbrev s_count_digits : Stmt := top 14
theorem sc_count_digits : FnScope ["base", "coefficient", "rest", "squares", "count", "k"] ["base", "coefficient"] (defScope s_count_digits) := ⟨rfl, rfl, rfl, by decide +kernel, rfl, by decide +kernel, by decide +kernel⟩
theorem vis_count_digits : visB ["base", "coefficient", "rest", "squares", "count", "k"] (defScope s_count_digits) = true := by decide +kernel
theorem gl_count_digits : glB ["abs", "squares_up_to", "reversed", "range", "len", "power"] (defScope s_count_digits) = true := by decide +kernel
theorem ok_count_digits {P : Program} {w : World} {K : PySem.W.Frag} {mg : Str → Option Value} {hp9 : Heap} (T : Txt P w K mg) : OkD P w K mg hp9 2 (He.fAd K ("count_digits", none)) ["base", "coefficient"] [] (sp_count_digits K) := by
  obtain ⟨fd, F⟩ := T.d_count_digits
  refine ⟨fd, [], F.kp, F.bindsN (fun _ _ _ _ _ _ us hl => match us, hl with | [_, _], _ => rfl), .nil, ?_⟩
  have sc := sc_count_digits; have vis := vis_count_digits; have gls := gl_count_digits
  refine F.ok sc (fun vs H Q E h => ?_) (fun cdv A outer s H0 vs Q E hr h => ?_)
  · obtain ⟨base, coefficient, rfl, _⟩ := h; rfl
  · obtain ⟨base, coefficient, rfl, e0, e1, k⟩ := h
    refine ⟨_, PSs.nox (pss_cons (ps_set (i := 2) sc.nd rfl (.inl rfl) (pcB call_absI gls 0 T.b_abs (by decide +kernel) (pa_cons (pn vis 1) pa_nil))) (pss_cons (ps_if (pt_cmpR op_eqI (pn vis 2) pe_int (nomark _)) (pss_one (ps_ret pe_int)) pss_nil) (pss_cons (ps_set (i := 3) sc.nd rfl (.inl rfl) (pcD (ok_squares_up_to T) (hr.mono (by decide)) gls 1 T.g_squares_up_to (pa_cons (pn vis 0) (pa_cons (pn vis 2) pa_nil)))) (pss_cons (ps_set (i := 4) sc.nd rfl (.inl rfl) pe_int) (pss_cons (ps_for PassesOwn.never rfl (pi_revR (gl_of gls (i := 2) rfl).1 T.b_reversed (prg_1 (gl_of gls (i := 3) rfl).1 T.b_range (pcB call_lenS gls 4 T.b_len PySem.boot_len (pa_cons (pn vis 3) pa_nil)))) (pg_name (i := 5) sc.nd rfl (.inl rfl)) (pss_one (ps_if (pt_cmpR op_ge (pn vis 2) (pe_ix ix_list (pn vis 3) (pn vis 5) (fun _ _ => rfl)) (nomark _)) (pss_cons (ps_set (i := 2) sc.nd rfl (.inl rfl) (pe_op op_fdivW (pn vis 2) (pe_ix ix_list (pn vis 3) (pn vis 5) (fun _ _ => rfl)))) (pss_one (ps_set (i := 4) sc.nd rfl (.inl rfl) (pe_op op_add (pn vis 4) (pcD (ok_power T) (hr.mono (by decide)) gls 5 T.g_power (pa_cons pe_int (pa_cons (pn vis 5) pa_nil))))))) pss_nil))) (pss_one (ps_ret (pn vis 4)))))))), ?_⟩
    refine i_start (σ' := [some (V.int base), some (V.int coefficient), none, none, none, none]) rfl ?_
    refine i_seq <| i_asg <| i_cb <| i_cons <| v1 <| i_nil <| i_abs <| nI2 (fun rest hrest => ?_)
    refine i_nx <| i_seq <| i_if <| i_test <| i_op <| v2 <| i_c <| i_I0 <| i_bl <| i_ite (fun c2 => ?_) (fun c2 => ?_)
    ·
      refine i_ret <| i_c <| ?_
      exact k _ _ (Same.refl _) (by exact .inl ⟨by omega, rfl⟩)
    ·
      refine i_next <| i_nx <| i_seq <| ?_
      have hc0 : coefficient ≠ 0 := by omega
      have hrz : Sz 9000 rest := e1.le (by rw [hrest]; split <;> omega)
      have hr1 : 1 ≤ rest := by omega
      refine i_asg <| i_call <| i_cons <| v0 <| i_cons <| v2 <| i_nil <| ⟨_, _, rfl, (by first | assumption | omega | rfl | exact Sz.zero | exact Sz.sm (by omega) (by omega) (by decide) | exact Sz.mono (by assumption) (by decide)), (by exact hrz), fun squaresA squares H1 s1 f1_0 hsquares => ?_⟩
      refine n3 <| i_nx <| i_seq <| ?_
      obtain ⟨n, hn, hsq, hz, hk⟩ := hsquares
      have hlen : squares.length = n := by rw [hsq, sqL_len]
      refine i_asg <| i_c <| n4 <| i_nx <| i_seq <| i_for <| i_revR <| i_rg1 <| i_cb <| i_cons <| v3 <| i_nil <| i_lenM (SqL.of f1_0) <| i_rev (fun i σ H' => ∃ (x : Int) (cn : Int) (o_k : Option V), σ = [some (V.int base), some (V.int coefficient), some (V.int x), some (V.ref squaresA), some (V.int cn), o_k] ∧ Same H1 H' ∧ (Cd base (if coefficient < 0 then -coefficient else coefficient) (n - i) x cn)) (by omega) ?_ ?_ ?_
      ·
        exact ⟨_, _, _, rfl, (Same.refl _), (by rw [← hrest]; exact Cd.init hr1 hz)⟩
      ·
        intro i
        rintro σ H2 hi ⟨x, cn, o_k, rfl, s2, i0⟩
        refine n5 <| ?_
        have hm : n - i = (n - 1 - i) + 1 := by omega
        have hp := pow_pos' e0 (2 ^ (n - 1 - i))
        have hpz : Sz 9000 (base ^ (2 ^ (n - 1 - i))) := hrz.le (by have := hk (n - 1 - i) (by omega); omega)
        rw [hm] at i0
        have hke : ((squares.length : Int) - 1 - (i : Int)).toNat = (n - 1 - i) := by omega
        refine i_if <| i_test <| i_op <| v2 <| i_op <| v3 <| v5 <| i_ixL (SqL.of (s2 _ _ f1_0)) (sq_at hsq hi) <| i_I0 <| i_bl <| i_ite (fun c7 => ?_) (fun c7 => ?_)
        ·
          refine i_seq <| i_asg <| i_op <| v2 <| i_op <| v3 <| v5 <| i_ixL (SqL.of (s2 _ _ f1_0)) (sq_at hsq hi) <| i_I (by exact divw (by omega) hpz) <| nI2 (fun rest' hrest' => ?_)
          refine i_nx <| i_asg <| i_op <| v4 <| i_call <| i_cons <| i_c <| i_cons <| v5 <| i_nil <| ⟨_, _, rfl, (by omega), (by omega), (by unfold Sz; decide), fun pw H3 s3 hpw => ?_⟩
          refine i_I0 <| n4 <| ?_
          exact ⟨_, _, _, rfl, (s2.trans s3), (by rw [show n - (i + 1) = n - 1 - i by omega]; rw [hrest']; refine i0.yes e0 c7 ?_; rw [hpw, hke])⟩
        ·
          refine i_next <| ?_
          exact ⟨_, _, _, rfl, s2, (by rw [show n - (i + 1) = n - 1 - i by omega]; exact i0.no c7)⟩
      ·
        rintro σ H4 ⟨x, cn, o_k, rfl, s4, i0⟩
        refine i_nx <| i_ret <| v4 <| ?_
        exact k _ _ (s1.trans s4) (by exact i0.done e0 hc0 (by omega))

/-! Exact.digits -/
def sp_Exact_digits (K : PySem.W.Frag) : Sp := fun vs H Q _ => ∃ (selfA : Addr) (self : EN), vs = [V.ref selfA] ∧ IsI (He.ga K "Exact") H selfA (exF self) ∧ (2 ≤ self.b) ∧ (Sz 9000 self.c) ∧ ∀ (r : Int) (H' : Hp), Same H H' → (IsDg self.b self.c r) → Q (V.int r) H'
abbrev s_Exact_digits : Stmt := inClass (top 17) 2
theorem sc_Exact_digits : FnScope ["self"] ["self"] (defScope s_Exact_digits) := ⟨rfl, rfl, rfl, by decide +kernel, rfl, by decide +kernel, by decide +kernel⟩
theorem vis_Exact_digits : visB ["self"] (defScope s_Exact_digits) = true := by decide +kernel
theorem gl_Exact_digits : glB ["count_digits"] (defScope s_Exact_digits) = true := by decide +kernel
theorem ok_Exact_digits {P : Program} {w : World} {K : PySem.W.Frag} {mg : Str → Option Value} {hp9 : Heap} (T : Txt P w K mg) : OkD P w K mg hp9 3 (prA K "Exact" "digits") ["self"] [] (sp_Exact_digits K) := by
  obtain ⟨fd, F⟩ := T.d_Exact_digits
  refine ⟨fd, [], F.kp, F.bindsN (fun _ _ _ _ _ _ us hl => match us, hl with | [_], _ => rfl), .nil, ?_⟩
  have sc := sc_Exact_digits; have vis := vis_Exact_digits; have gls := gl_Exact_digits
  refine F.ok sc (fun vs H Q E h => ?_) (fun cdv A outer s H0 vs Q E hr h => ?_)
  · obtain ⟨selfA, self, rfl, _⟩ := h; rfl
  · obtain ⟨selfA, self, rfl, a0, e0, e1, k⟩ := h
    refine ⟨_, PSs.nox (pss_one (ps_ret (pcD (ok_count_digits T) (hr.mono (by decide)) gls 0 T.g_count_digits (pa_cons (pe_fld (pn vis 0) rfl) (pa_cons (pe_fld (pn vis 0) rfl) pa_nil))))), ?_⟩
    refine i_start (σ' := [some (V.ref selfA)]) rfl ?_
    refine i_ret <| i_call <| i_cons <| i_fld <| v0 <| i_fldI a0 T.cls_Exact T.na_Exact_base rfl <| i_cons <| i_fld <| v0 <| i_fldI a0 T.cls_Exact T.na_Exact_coefficient rfl <| i_nil <| ⟨_, _, rfl, (by first | assumption | omega | rfl | exact Sz.zero | exact Sz.sm (by omega) (by omega) (by decide) | exact Sz.mono (by assumption) (by decide)), (by first | assumption | omega | rfl | exact Sz.zero | exact Sz.sm (by omega) (by omega) (by decide) | exact Sz.mono (by assumption) (by decide)), fun r1 H2 s2 hr1 => ?_⟩
    exact k _ _ s2 (by first | rfl | assumption | omega)

/-! Exact.place@nz -/
def sp_Exact_place_nz (K : PySem.W.Frag) : Sp := fun vs H Q _ => ∃ (selfA : Addr) (self : EN), vs = [V.ref selfA] ∧ IsI (He.ga K "Exact") H selfA (exF self) ∧ (2 ≤ self.b) ∧ (Sz 9000 self.c) ∧ (self.c ≠ 0) ∧ ∀ (r : Int) (H' : Hp), Same H H' → (IsDg self.b self.c (r - self.e + 1)) → Q (V.int r) H'
abbrev s_Exact_place_nz : Stmt := inClass (top 17) 3
theorem sc_Exact_place_nz : FnScope ["self"] ["self"] (defScope s_Exact_place_nz) := ⟨rfl, rfl, rfl, by decide +kernel, rfl, by decide +kernel, by decide +kernel⟩
theorem vis_Exact_place_nz : visB ["self"] (defScope s_Exact_place_nz) = true := by decide +kernel
theorem gl_Exact_place_nz : glB ["count_digits"] (defScope s_Exact_place_nz) = true := by decide +kernel
theorem ok_Exact_place_nz {P : Program} {w : World} {K : PySem.W.Frag} {mg : Str → Option Value} {hp9 : Heap} (T : Txt P w K mg) : OkD P w K mg hp9 3 (prA K "Exact" "place") ["self"] [] (sp_Exact_place_nz K) := by
  obtain ⟨fd, F⟩ := T.d_Exact_place
  refine ⟨fd, [], F.kp, F.bindsN (fun _ _ _ _ _ _ us hl => match us, hl with | [_], _ => rfl), .nil, ?_⟩
  have sc := sc_Exact_place_nz; have vis := vis_Exact_place_nz; have gls := gl_Exact_place_nz
  refine F.ok sc (fun vs H Q E h => ?_) (fun cdv A outer s H0 vs Q E hr h => ?_)
  · obtain ⟨selfA, self, rfl, _⟩ := h; rfl
  · obtain ⟨selfA, self, rfl, a0, e0, e1, e2, k⟩ := h
    refine ⟨_, PSs.nox (pss_cons (ps_if (pt_cmpR op_eqI (pe_fld (pn vis 0) rfl) pe_int (nomark _)) pss_never pss_nil) (pss_one (ps_ret (pe_op op_sub (pe_op op_add (pe_fld (pn vis 0) rfl) (pcD (ok_count_digits T) (hr.mono (by decide)) gls 0 T.g_count_digits (pa_cons (pe_fld (pn vis 0) rfl) (pa_cons (pe_fld (pn vis 0) rfl) pa_nil)))) pe_int)))), ?_⟩
    refine i_start (σ' := [some (V.ref selfA)]) rfl ?_
    refine i_seq <| i_if <| i_test <| i_op <| i_fld <| v0 <| i_fldI a0 T.cls_Exact T.na_Exact_coefficient rfl <| i_c <| i_I0 <| i_bl <| i_ite (fun c1 => ?_) (fun c1 => ?_)
    ·
      exact absurd c1 (by exact fun h => e2 h)
    ·
      refine i_next <| i_nx <| i_ret <| i_op <| i_op <| i_fld <| v0 <| i_fldI a0 T.cls_Exact T.na_Exact_exponent rfl <| i_call <| i_cons <| i_fld <| v0 <| i_fldI a0 T.cls_Exact T.na_Exact_base rfl <| i_cons <| i_fld <| v0 <| i_fldI a0 T.cls_Exact T.na_Exact_coefficient rfl <| i_nil <| ⟨_, _, rfl, (by first | assumption | omega | rfl | exact Sz.zero | exact Sz.sm (by omega) (by omega) (by decide) | exact Sz.mono (by assumption) (by decide)), (by first | assumption | omega | rfl | exact Sz.zero | exact Sz.sm (by omega) (by omega) (by decide) | exact Sz.mono (by assumption) (by decide)), fun cd H1 s1 hcd => ?_⟩
      refine i_I0 <| i_c <| i_I0 <| ?_
      exact k _ _ s1 (by rw [show self.e + cd - 1 - self.e + 1 = cd by omega]; exact hcd)

/-! check_base -/
def sp_check_base (K : PySem.W.Frag) : Sp := fun vs H Q _ => ∃ (base : Int), vs = [V.int base] ∧ (2 ≤ base) ∧ (base ≤ 36) ∧ ∀  (H' : Hp), Same H H' → Q (V.non) H'
abbrev s_check_base : Stmt := top 16
theorem sc_check_base : FnScope ["base"] ["base"] (defScope s_check_base) := ⟨rfl, rfl, rfl, by decide +kernel, rfl, by decide +kernel, by decide +kernel⟩
theorem vis_check_base : visB ["base"] (defScope s_check_base) = true := by decide +kernel
theorem gl_check_base : glB [] (defScope s_check_base) = true := by decide +kernel
theorem ok_check_base {P : Program} {w : World} {K : PySem.W.Frag} {mg : Str → Option Value} {hp9 : Heap} (T : Txt P w K mg) : OkD P w K mg hp9 1 (He.fAd K ("check_base", none)) ["base"] [] (sp_check_base K) := by
  obtain ⟨fd, F⟩ := T.d_check_base
  refine ⟨fd, [], F.kp, F.bindsN (fun _ _ _ _ _ _ us hl => match us, hl with | [_], _ => rfl), .nil, ?_⟩
  have sc := sc_check_base; have vis := vis_check_base; have gls := gl_check_base
  refine F.ok sc (fun vs H Q E h => ?_) (fun cdv A outer s H0 vs Q E hr h => ?_)
  · obtain ⟨base, rfl, _⟩ := h; rfl
  · obtain ⟨base, rfl, e0, e1, k⟩ := h
    refine ⟨_, PSs.nox (pss_one (ps_if (pt_not (pt_chain op_le op_le pe_int (pn vis 0) pe_int)) pss_never pss_nil)), ?_⟩
    refine i_start (σ' := [some (V.int base)]) rfl ?_
    refine i_if <| i_not <| i_test <| i_chain <| i_c <| v0 <| i_I0 <| i_blV <| i_ite (fun c1 => ?_) (fun c1 => ?_)
    ·
      refine i_c <| i_I0 <| i_bl <| i_iteN (fun c1' => ?_) (fun c1' => ?_)
      ·
        exact absurd c1' (by omega)
      ·
        refine i_next <| ?_
        exact k _ (Same.refl _)
    ·
      exact absurd c1 (by omega)

/-! check_base@bad -/
def sp_check_base_bad (K : PySem.W.Frag) : Sp := fun vs H Q E => ∃ (base : Int), vs = [V.int base] ∧ (¬ (2 ≤ base ∧ base ≤ 36)) ∧ ∀ (d : Addr) (H' : Hp), Same H H' → H' d = some (.xd [("base", V.int base)]) → E (.ref (He.ga K "BadBase")) (some d) H'
abbrev s_check_base_bad : Stmt := top 16
theorem sc_check_base_bad : FnScope ["base"] ["base"] (defScope s_check_base_bad) := ⟨rfl, rfl, rfl, by decide +kernel, rfl, by decide +kernel, by decide +kernel⟩
theorem vis_check_base_bad : visB ["base"] (defScope s_check_base_bad) = true := by decide +kernel
theorem gl_check_base_bad : glB ["BadBase"] (defScope s_check_base_bad) = true := by decide +kernel
theorem ok_check_base_bad {P : Program} {w : World} {K : PySem.W.Frag} {mg : Str → Option Value} {hp9 : Heap} (T : Txt P w K mg) : OkD P w K mg hp9 2 (He.fAd K ("check_base", none)) ["base"] [] (sp_check_base_bad K) := by
  obtain ⟨fd, F⟩ := T.d_check_base
  refine ⟨fd, [], F.kp, F.bindsN (fun _ _ _ _ _ _ us hl => match us, hl with | [_], _ => rfl), .nil, ?_⟩
  have sc := sc_check_base_bad; have vis := vis_check_base_bad; have gls := gl_check_base_bad
  refine F.ok sc (fun vs H Q E h => ?_) (fun cdv A outer s H0 vs Q E hr h => ?_)
  · obtain ⟨base, rfl, _⟩ := h; rfl
  · obtain ⟨base, rfl, e0, k⟩ := h
    refine ⟨_, (pss_one (ps_if (pt_not (pt_chain op_le op_le pe_int (pn vis 0) pe_int)) (pss_one (ps_rs rfl takes_cx (pmk_sup1 T.sup_BadBase ss_BadBase sb_BadBase (by decide) (hr.mono (by decide)) (gl_of gls (i := 0) rfl).1 T.g_BadBase T.b_super (pn vis 0)))) pss_nil)), ?_⟩
    refine i_start (σ' := [some (V.int base)]) rfl ?_
    refine i_if <| i_not <| i_test <| i_chain <| i_c <| v0 <| i_I0 <| i_blV <| i_ite (fun c1 => ?_) (fun c1 => ?_)
    ·
      refine i_c <| i_I0 <| i_bl <| i_iteN (fun c1' => ?_) (fun c1' => ?_)
      ·
        refine i_rs <| i_mk1 <| v0 <| i_mk1e (fun d1 H1 s1 xf1 => ?_)
        exact k _ _ s1 xf1
      ·
        exact absurd c1' (by omega)
    ·
      refine i_bl <| i_iteNF <| i_rs <| i_mk1 <| v0 <| i_mk1e (fun d2 H2 s2 xf2 => ?_)
      exact k _ _ s2 xf2

/-! Grid.__init__ -/
def sp_Grid___init__ (K : PySem.W.Frag) : Sp := fun vs H Q _ => ∃ (selfA : Addr) (base : Int) (precision : Int) (bottom : Option Int) (top : Option Int), vs = [V.ref selfA, V.int base, V.int precision, optV bottom, optV top] ∧ IsI (He.ga K "Grid") H selfA [] ∧ (2 ≤ base) ∧ (base ≤ 36) ∧ (3 ≤ precision) ∧ (precision ≤ 200) ∧ (bOk bottom top) ∧ ∀ (r : GR) (H' : Hp), Keep selfA H H' → IsI (He.ga K "Grid") H' selfA (grF r) → (r = ⟨base, precision, bottom, top⟩) → Q .non H'
abbrev s_Grid___init__ : Stmt := inClass (top 32) 2
theorem sc_Grid___init__ : FnScope ["self", "base", "precision", "bottom", "top"] ["self", "base", "precision", "bottom", "top"] (defScope s_Grid___init__) := ⟨rfl, rfl, rfl, by decide +kernel, rfl, by decide +kernel, by decide +kernel⟩
theorem vis_Grid___init__ : visB ["self", "base", "precision", "bottom", "top"] (defScope s_Grid___init__) = true := by decide +kernel
theorem gl_Grid___init__ : glB ["check_base", "Grid"] (defScope s_Grid___init__) = true := by decide +kernel
theorem fn_Grid___init__ {P : Program} {w : World} {K : PySem.W.Frag} {mg : Str → Option Value} {hp9 : Heap} (T : Txt P w K mg) {fd : FuncData} (F : FunD K "__init__" "Grid.__init__" (defArgs (s_Grid___init__)) (defBody (s_Grid___init__)) (defScope (s_Grid___init__)) [] [("bottom", V.non), ("top", V.non)] (He.fAd K ("Grid", some "__init__")) fd) : FnOk P w K mg hp9 (L2N.CX P w) 2 (He.fAd K ("Grid", some "__init__")) fd ["self", "base", "precision", "bottom", "top"] (sp_Grid___init__ K) := by
  have sc := sc_Grid___init__; have vis := vis_Grid___init__; have gls := gl_Grid___init__
  refine F.ok sc (fun vs H Q E h => ?_) (fun cdv A outer s H0 vs Q E hr h => ?_)
  · obtain ⟨selfA, base, precision, bottom, top, rfl, _⟩ := h; rfl
  · obtain ⟨selfA, base, precision, bottom, top, rfl, a0, e0, e1, e2, e3, e4, k⟩ := h
    refine ⟨_, PSs.nox (pss_cons (ps_expr (pcD (ok_check_base T) (hr.mono (by decide)) gls 0 T.g_check_base (pa_cons (pn vis 1) pa_nil))) (pss_cons (ps_if (pt_not (pt_chain op_le op_le (ClX.pe_cval (pgr gls 1 T.g_Grid)) (pn vis 2) (ClX.pe_cval (pgr gls 1 T.g_Grid)))) pss_never pss_nil) (pss_cons (ps_if (PW.pt (pw_and (pt_cmpR op_notN_ (pn vis 3) pe_non (nomark _)) (pw_and (pt_cmpR op_notN_ (pn vis 4) pe_non (nomark _)) (pw_and1 (pt_cmpR op_gt (pn vis 3) (pn vis 4) (nomark _)))))) pss_never pss_nil) (pss_cons (ps_fld (pn vis 0) (pn vis 1) rfl) (pss_cons (ps_fld (pn vis 0) (pn vis 2) rfl) (pss_cons (ps_fld (pn vis 0) (pn vis 3) rfl) (pss_one (ps_fld (pn vis 0) (pn vis 4) rfl)))))))), ?_⟩
    refine i_start (σ' := [some (V.ref selfA), some (V.int base), some (V.int precision), some (optV bottom), some (optV top)]) rfl ?_
    refine i_seq <| i_drop <| i_call <| i_cons <| v1 <| i_nil <| ⟨_, rfl, (by first | assumption | omega | rfl | exact Sz.zero | exact Sz.sm (by omega) (by omega) (by decide) | exact Sz.mono (by assumption) (by decide)), (by first | assumption | omega | rfl | exact Sz.zero | exact Sz.sm (by omega) (by omega) (by decide) | exact Sz.mono (by assumption) (by decide)), fun H2 s2 => ?_⟩
    refine i_nx <| i_seq <| i_if <| i_not <| i_test <| i_chain <| i_cval <| i_c <| i_cvalI T.cval_Grid_LEAST <| v2 <| i_I0 <| i_blV <| i_ite (fun c2 => ?_) (fun c2 => ?_)
    ·
      refine i_cval <| i_c <| i_cvalI T.cval_Grid_MOST <| i_I0 <| i_bl <| i_iteN (fun c2' => ?_) (fun c2' => ?_)
      ·
        exact absurd c2' (by omega)
      ·
        refine i_next <| i_nx <| i_seq <| ?_
        rcases bottom with _ | bottom_
        ·
          rcases top with _ | top_
          ·
            refine i_if <| i_and <| i_test <| i_op <| v3 <| i_c <| i_isN (b := false) rfl <| i_bl <| i_iteF <| i_iteF <| i_next <| i_nx <| i_seq <| i_sfld <| v1 <| v0 <| i_sfldI (same_ins s2 a0) T.cls_Grid T.na_Grid_base (of_decide_eq_true rfl) (fun H3 w3 f3 => ?_)
            refine i_nx <| i_seq <| i_sfld <| v2 <| v0 <| i_sfldI f3 T.cls_Grid T.na_Grid_precision (of_decide_eq_true rfl) (fun H4 w4 f4 => ?_)
            refine i_nx <| i_seq <| i_sfld <| v3 <| v0 <| i_sfldI f4 T.cls_Grid T.na_Grid_bottom (of_decide_eq_true rfl) (fun H5 w5 f5 => ?_)
            refine i_nx <| i_sfld <| v4 <| v0 <| i_sfldI f5 T.cls_Grid T.na_Grid_top (of_decide_eq_true rfl) (fun H6 w6 f6 => ?_)
            exact k ⟨base, precision, none, none⟩ _ ((keep_of s2).trans (w3.trans (w4.trans (w5.trans w6)))) f6 (by rfl)
          ·
            refine i_if <| i_and <| i_test <| i_op <| v3 <| i_c <| i_isN (b := false) rfl <| i_bl <| i_iteF <| i_iteF <| i_next <| i_nx <| i_seq <| i_sfld <| v1 <| v0 <| i_sfldI (same_ins s2 a0) T.cls_Grid T.na_Grid_base (of_decide_eq_true rfl) (fun H7 w7 f7 => ?_)
            refine i_nx <| i_seq <| i_sfld <| v2 <| v0 <| i_sfldI f7 T.cls_Grid T.na_Grid_precision (of_decide_eq_true rfl) (fun H8 w8 f8 => ?_)
            refine i_nx <| i_seq <| i_sfld <| v3 <| v0 <| i_sfldI f8 T.cls_Grid T.na_Grid_bottom (of_decide_eq_true rfl) (fun H9 w9 f9 => ?_)
            refine i_nx <| i_sfld <| v4 <| v0 <| i_sfldI f9 T.cls_Grid T.na_Grid_top (of_decide_eq_true rfl) (fun H10 w10 f10 => ?_)
            exact k ⟨base, precision, none, (some top_)⟩ _ ((keep_of s2).trans (w7.trans (w8.trans (w9.trans w10)))) f10 (by rfl)
        ·
          rcases top with _ | top_
          ·
            refine i_if <| i_and <| i_test <| i_op <| v3 <| i_c <| i_isN (b := true) rfl <| i_bl <| i_iteT <| i_and <| i_test <| i_op <| v4 <| i_c <| i_isN (b := false) rfl <| i_bl <| i_iteF <| i_iteF <| i_next <| i_nx <| i_seq <| i_sfld <| v1 <| v0 <| i_sfldI (same_ins s2 a0) T.cls_Grid T.na_Grid_base (of_decide_eq_true rfl) (fun H11 w11 f11 => ?_)
            refine i_nx <| i_seq <| i_sfld <| v2 <| v0 <| i_sfldI f11 T.cls_Grid T.na_Grid_precision (of_decide_eq_true rfl) (fun H12 w12 f12 => ?_)
            refine i_nx <| i_seq <| i_sfld <| v3 <| v0 <| i_sfldI f12 T.cls_Grid T.na_Grid_bottom (of_decide_eq_true rfl) (fun H13 w13 f13 => ?_)
            refine i_nx <| i_sfld <| v4 <| v0 <| i_sfldI f13 T.cls_Grid T.na_Grid_top (of_decide_eq_true rfl) (fun H14 w14 f14 => ?_)
            exact k ⟨base, precision, (some bottom_), none⟩ _ ((keep_of s2).trans (w11.trans (w12.trans (w13.trans w14)))) f14 (by rfl)
          ·
            refine i_if <| i_and <| i_test <| i_op <| v3 <| i_c <| i_isN (b := true) rfl <| i_bl <| i_iteT <| i_and <| i_test <| i_op <| v4 <| i_c <| i_isN (b := true) rfl <| i_bl <| i_iteT <| i_test <| i_op <| v3 <| v4 <| i_I0 <| i_bl <| i_ite (fun c4 => ?_) (fun c4 => ?_)
            ·
              exact absurd c4 (by have q : bottom_ ≤ top_ := e4; omega)
            ·
              refine i_next <| i_nx <| i_seq <| i_sfld <| v1 <| v0 <| i_sfldI (same_ins s2 a0) T.cls_Grid T.na_Grid_base (of_decide_eq_true rfl) (fun H15 w15 f15 => ?_)
              refine i_nx <| i_seq <| i_sfld <| v2 <| v0 <| i_sfldI f15 T.cls_Grid T.na_Grid_precision (of_decide_eq_true rfl) (fun H16 w16 f16 => ?_)
              refine i_nx <| i_seq <| i_sfld <| v3 <| v0 <| i_sfldI f16 T.cls_Grid T.na_Grid_bottom (of_decide_eq_true rfl) (fun H17 w17 f17 => ?_)
              refine i_nx <| i_sfld <| v4 <| v0 <| i_sfldI f17 T.cls_Grid T.na_Grid_top (of_decide_eq_true rfl) (fun H18 w18 f18 => ?_)
              exact k ⟨base, precision, (some bottom_), (some top_)⟩ _ ((keep_of s2).trans (w15.trans (w16.trans (w17.trans w18)))) f18 (by rfl)
    ·
      exact absurd c2 (by omega)
theorem ok_Grid___init___kw {P : Program} {w : World} {K : PySem.W.Frag} {mg : Str → Option Value} {hp9 : Heap} (T : Txt P w K mg) : OkD P w K mg hp9 2 (He.fAd K ("Grid", some "__init__")) ["self", "base", "precision", "bottom", "top"] [V.non, V.non] (sp_Grid___init__ K) := by
  obtain ⟨fd, F⟩ := T.d_Grid___init__
  exact OkD.kw0 F 3 (by simp) rfl (fun D doc pm an cdv ct us ks h1 h2 => by
    match us, h1, ks, h2 with
    | [u0, u1, u2], _, [z0, z1], _ => exact ⟨_, _, _, _, _, _, rfl, rfl, _, _, _, _, _, _, rfl, rfl, rfl⟩) (fn_Grid___init__ T F)
theorem kb_Grid___init___bottom {P : Program} {w : World} {K : PySem.W.Frag} {mg : Str → Option Value} {hp9 : Heap} (T : Txt P w K mg) : ∃ (fd : FuncData) (gg : List Value → List Value → List Value), KBn K fd ["self", "base", "precision", "bottom", "top"] 3 ["bottom"] gg (fun vs zs => (vs ++ (zs ++ [V.non]))) ∧ FnOk P w K mg hp9 (L2N.CX P w) 2 (He.fAd K ("Grid", some "__init__")) fd ["self", "base", "precision", "bottom", "top"] (sp_Grid___init__ K) := by
  obtain ⟨fd, F⟩ := T.d_Grid___init__
  obtain ⟨mv, kb⟩ := FunD.kbinds0 (ps := ["self", "base", "precision", "bottom", "top"]) F 3 ["bottom"] [("top", V.non)] (fun us mv ws => (us ++ (ws ++ mv))) (by simp) (by simp) (fun r1 r2 r3 => r1.append (r3.append r2)) (fun D doc pm an cdv ct us mv ws h1 h2 h3 => by
    match us, h1, mv, h2, ws, h3 with
    | [u0, u1, u2], _, [m0], _, [w0], _ => exact ⟨_, _, _, _, _, _, rfl, rfl, rfl⟩)
  exact ⟨fd, _, kb, fn_Grid___init__ T F⟩
theorem kb_Grid___init___top {P : Program} {w : World} {K : PySem.W.Frag} {mg : Str → Option Value} {hp9 : Heap} (T : Txt P w K mg) : ∃ (fd : FuncData) (gg : List Value → List Value → List Value), KBn K fd ["self", "base", "precision", "bottom", "top"] 3 ["top"] gg (fun vs zs => (vs ++ ([V.non] ++ zs))) ∧ FnOk P w K mg hp9 (L2N.CX P w) 2 (He.fAd K ("Grid", some "__init__")) fd ["self", "base", "precision", "bottom", "top"] (sp_Grid___init__ K) := by
  obtain ⟨fd, F⟩ := T.d_Grid___init__
  obtain ⟨mv, kb⟩ := FunD.kbinds0 (ps := ["self", "base", "precision", "bottom", "top"]) F 3 ["top"] [("bottom", V.non)] (fun us mv ws => (us ++ (mv ++ ws))) (by simp) (by simp) (fun r1 r2 r3 => r1.append (r2.append r3)) (fun D doc pm an cdv ct us mv ws h1 h2 h3 => by
    match us, h1, mv, h2, ws, h3 with
    | [u0, u1, u2], _, [m0], _, [w0], _ => exact ⟨_, _, _, _, _, _, rfl, rfl, rfl⟩)
  exact ⟨fd, _, kb, fn_Grid___init__ T F⟩
theorem kb_Grid___init___bottom_top {P : Program} {w : World} {K : PySem.W.Frag} {mg : Str → Option Value} {hp9 : Heap} (T : Txt P w K mg) : ∃ (fd : FuncData) (gg : List Value → List Value → List Value), KBn K fd ["self", "base", "precision", "bottom", "top"] 3 ["bottom", "top"] gg (fun vs zs => (vs ++ (zs ++ []))) ∧ FnOk P w K mg hp9 (L2N.CX P w) 2 (He.fAd K ("Grid", some "__init__")) fd ["self", "base", "precision", "bottom", "top"] (sp_Grid___init__ K) := by
  obtain ⟨fd, F⟩ := T.d_Grid___init__
  obtain ⟨mv, kb⟩ := FunD.kbinds0 (ps := ["self", "base", "precision", "bottom", "top"]) F 3 ["bottom", "top"] [] (fun us mv ws => (us ++ (ws ++ mv))) (by simp) (by simp) (fun r1 r2 r3 => r1.append (r3.append r2)) (fun D doc pm an cdv ct us mv ws h1 h2 h3 => by
    match us, h1, mv, h2, ws, h3 with
    | [u0, u1, u2], _, [], _, [w0, w1], _ => rfl)
  exact ⟨fd, _, kb, fn_Grid___init__ T F⟩

/-! without_zeros -/
def sp_without_zeros (K : PySem.W.Frag) : Sp := fun vs H Q _ => ∃ (base : Int) (coefficient : Int), vs = [V.int base, V.int coefficient] ∧ (2 ≤ base) ∧ (Sz 9000 coefficient) ∧ (coefficient ≠ 0) ∧ ∀ (rA : Addr) (r0 : Int) (r1 : Int) (H' : Hp), Same H H' → H' rA = some (.tup [V.int r0, V.int r1]) → (coefficient = r0 * base ^ r1.toNat) → (0 ≤ r1) → (r0 % base ≠ 0) → Q (V.ref rA) H'
abbrev s_without_zeros : Stmt := top 15
theorem sc_without_zeros : FnScope ["base", "coefficient", "squares", "rest", "count", "k"] ["base", "coefficient"] (defScope s_without_zeros) := ⟨rfl, rfl, rfl, by decide +kernel, rfl, by decide +kernel, by decide +kernel⟩
theorem vis_without_zeros : visB ["base", "coefficient", "squares", "rest", "count", "k"] (defScope s_without_zeros) = true := by decide +kernel
theorem gl_without_zeros : glB ["abs", "squares_up_to", "reversed", "range", "len", "power"] (defScope s_without_zeros) = true := by decide +kernel
theorem ok_without_zeros {P : Program} {w : World} {K : PySem.W.Frag} {mg : Str → Option Value} {hp9 : Heap} (T : Txt P w K mg) : OkD P w K mg hp9 2 (He.fAd K ("without_zeros", none)) ["base", "coefficient"] [] (sp_without_zeros K) := by
  obtain ⟨fd, F⟩ := T.d_without_zeros
  refine ⟨fd, [], F.kp, F.bindsN (fun _ _ _ _ _ _ us hl => match us, hl with | [_, _], _ => rfl), .nil, ?_⟩
  have sc := sc_without_zeros; have vis := vis_without_zeros; have gls := gl_without_zeros
  refine F.ok sc (fun vs H Q E h => ?_) (fun cdv A outer s H0 vs Q E hr h => ?_)
  · obtain ⟨base, coefficient, rfl, _⟩ := h; rfl
  · obtain ⟨base, coefficient, rfl, e0, e1, e2, k⟩ := h
    refine ⟨_, PSs.nox (pss_cons (ps_set (i := 2) sc.nd rfl (.inl rfl) (pcD (ok_squares_up_to T) (hr.mono (by decide)) gls 1 T.g_squares_up_to (pa_cons (pn vis 0) (pa_cons (pcB call_absI gls 0 T.b_abs (by decide +kernel) (pa_cons (pn vis 1) pa_nil)) pa_nil)))) (pss_cons (ps_set (i := 3) sc.nd rfl (.inl rfl) (pn vis 1)) (pss_cons (ps_set (i := 4) sc.nd rfl (.inl rfl) pe_int) (pss_cons (ps_for PassesOwn.never rfl (pi_revR (gl_of gls (i := 2) rfl).1 T.b_reversed (prg_1 (gl_of gls (i := 3) rfl).1 T.b_range (pcB call_lenS gls 4 T.b_len PySem.boot_len (pa_cons (pn vis 2) pa_nil)))) (pg_name (i := 5) sc.nd rfl (.inl rfl)) (pss_one (ps_if (pt_cmpR op_eqI (pe_op op_mod (pn vis 3) (pe_ix ix_list (pn vis 2) (pn vis 5) (fun _ _ => rfl))) pe_int (nomark _)) (pss_cons (ps_set (i := 3) sc.nd rfl (.inl rfl) (pe_op op_fdivW (pn vis 3) (pe_ix ix_list (pn vis 2) (pn vis 5) (fun _ _ => rfl)))) (pss_one (ps_set (i := 4) sc.nd rfl (.inl rfl) (pe_op op_add (pn vis 4) (pcD (ok_power T) (hr.mono (by decide)) gls 5 T.g_power (pa_cons pe_int (pa_cons (pn vis 5) pa_nil))))))) pss_nil))) (pss_one (ps_ret (pe_tup (pa_cons (pn vis 3) (pa_cons (pn vis 4) pa_nil))))))))), ?_⟩
    refine i_start (σ' := [some (V.int base), some (V.int coefficient), none, none, none, none]) rfl ?_
    refine i_seq <| i_asg <| i_call <| i_cons <| v0 <| i_cons <| i_cb <| i_cons <| v1 <| i_nil <| i_abs <| i_nil <| ⟨_, _, rfl, (by first | assumption | omega | rfl | exact Sz.zero | exact Sz.sm (by omega) (by omega) (by decide) | exact Sz.mono (by assumption) (by decide)), (by exact e1.le (by split <;> omega)), fun squaresA squares H1 s1 f1_0 hsquares => ?_⟩
    refine n2 <| i_nx <| i_seq <| ?_
    obtain ⟨n, hn, hsq, hz, hk⟩ := hsquares
    have hlen : squares.length = n := by rw [hsq, sqL_len]
    refine i_asg <| v1 <| n3 <| i_nx <| i_seq <| i_asg <| i_c <| n4 <| i_nx <| i_seq <| i_for <| i_revR <| i_rg1 <| i_cb <| i_cons <| v2 <| i_nil <| i_lenM (SqL.of f1_0) <| i_rev (fun i σ H' => ∃ (x : Int) (cn : Int) (o_k : Option V), σ = [some (V.int base), some (V.int coefficient), some (V.ref squaresA), some (V.int x), some (V.int cn), o_k] ∧ Same H1 H' ∧ (Wz base coefficient (n - i) x cn)) (by omega) ?_ ?_ ?_
    ·
      exact ⟨_, _, _, rfl, (Same.refl _), (by exact Wz.init e2 hz)⟩
    ·
      intro i
      rintro σ H2 hi ⟨x, cn, o_k, rfl, s2, i0⟩
      refine n5 <| ?_
      have hm : n - i = (n - 1 - i) + 1 := by omega
      have hp := pow_pos' e0 (2 ^ (n - 1 - i))
      have hpz : Sz 9000 (base ^ (2 ^ (n - 1 - i))) := e1.le (by have := hk (n - 1 - i) (by omega); split at this <;> omega)
      rw [hm] at i0
      have hke : ((squares.length : Int) - 1 - (i : Int)).toNat = (n - 1 - i) := by omega
      refine i_if <| i_test <| i_op <| i_op <| v3 <| i_op <| v2 <| v5 <| i_ixL (SqL.of (s2 _ _ f1_0)) (sq_at hsq hi) <| i_I (by show (0 : Int) < _; omega) <| i_c <| i_I0 <| i_bl <| i_ite (fun c5 => ?_) (fun c5 => ?_)
      ·
        refine i_seq <| i_asg <| i_op <| v3 <| i_op <| v2 <| v5 <| i_ixL (SqL.of (s2 _ _ f1_0)) (sq_at hsq hi) <| i_I (by exact divw (by omega) hpz) <| n3 <| i_nx <| i_asg <| i_op <| v4 <| i_call <| i_cons <| i_c <| i_cons <| v5 <| i_nil <| ⟨_, _, rfl, (by omega), (by omega), (by unfold Sz; decide), fun pw H3 s3 hpw => ?_⟩
        refine i_I0 <| n4 <| ?_
        exact ⟨_, _, _, rfl, (s2.trans s3), (by rw [show n - (i + 1) = n - 1 - i by omega]; exact i0.yes e0 c5 (by rw [hpw, hke]))⟩
      ·
        refine i_next <| ?_
        exact ⟨_, _, _, rfl, s2, (by rw [show n - (i + 1) = n - 1 - i by omega]; exact i0.no c5)⟩
    ·
      rintro σ H4 ⟨x, cn, o_k, rfl, s4, i0⟩
      refine i_nx <| i_ret <| i_tup <| i_cons <| v3 <| i_cons <| v4 <| i_nil <| i_kTup (of_decide_eq_true rfl) (fun p5 H5 z5 s5 f5 => ?_)
      exact k _ _ _ _ (s1.trans (s4.trans s5)) f5 (by exact (i0.done (by omega)).1) (by exact (i0.done (by omega)).2.1) (by exact (i0.done (by omega)).2.2)

/-! Exact.__init__ -/
def sp_Exact___init__ (K : PySem.W.Frag) : Sp := fun vs H Q _ => ∃ (selfA : Addr) (base : Int) (coefficient : Int) (exponent : Int), vs = [V.ref selfA, V.int base, V.int coefficient, V.int exponent] ∧ IsI (He.ga K "Exact") H selfA [] ∧ (2 ≤ base) ∧ (base ≤ 36) ∧ (Sz 9000 coefficient) ∧ ∀ (r : EN) (H' : Hp), Keep selfA H H' → IsI (He.ga K "Exact") H' selfA (exF r) → (r = nrm base coefficient exponent) → Q .non H'
abbrev s_Exact___init__ : Stmt := inClass (top 17) 0
theorem sc_Exact___init__ : FnScope ["self", "base", "coefficient", "exponent", "rest", "count"] ["self", "base", "coefficient", "exponent"] (defScope s_Exact___init__) := ⟨rfl, rfl, rfl, by decide +kernel, rfl, by decide +kernel, by decide +kernel⟩
theorem vis_Exact___init__ : visB ["self", "base", "coefficient", "exponent", "rest", "count"] (defScope s_Exact___init__) = true := by decide +kernel
theorem gl_Exact___init__ : glB ["check_base", "without_zeros"] (defScope s_Exact___init__) = true := by decide +kernel
theorem fn_Exact___init__ {P : Program} {w : World} {K : PySem.W.Frag} {mg : Str → Option Value} {hp9 : Heap} (T : Txt P w K mg) {fd : FuncData} (F : FunD K "__init__" "Exact.__init__" (defArgs (s_Exact___init__)) (defBody (s_Exact___init__)) (defScope (s_Exact___init__)) [V.int 0] [] (He.fAd K ("Exact", some "__init__")) fd) : FnOk P w K mg hp9 (L2N.CX P w) 3 (He.fAd K ("Exact", some "__init__")) fd ["self", "base", "coefficient", "exponent"] (sp_Exact___init__ K) := by
  have sc := sc_Exact___init__; have vis := vis_Exact___init__; have gls := gl_Exact___init__
  refine F.ok sc (fun vs H Q E h => ?_) (fun cdv A outer s H0 vs Q E hr h => ?_)
  · obtain ⟨selfA, base, coefficient, exponent, rfl, _⟩ := h; rfl
  · obtain ⟨selfA, base, coefficient, exponent, rfl, a0, e0, e1, e2, k⟩ := h
    refine ⟨_, PSs.nox (pss_cons (ps_expr (pcD (ok_check_base T) (hr.mono (by decide)) gls 0 T.g_check_base (pa_cons (pn vis 1) pa_nil))) (pss_cons (ps_fld (pn vis 0) (pn vis 1) rfl) (pss_one (ps_if (pt_cmpR op_eqI (pn vis 2) pe_int (nomark _)) (pss_cons (ps_fld (pn vis 0) pe_int rfl) (pss_one (ps_fld (pn vis 0) pe_int rfl))) (pss_cons (ps_asg (pcD (ok_without_zeros T) (hr.mono (by decide)) gls 1 T.g_without_zeros (pa_cons (pn vis 1) (pa_cons (pn vis 2) pa_nil))) (pg_tup (by rfl) (pgs_cons (pg_name (i := 4) sc.nd rfl (.inl rfl)) (pgs_cons (pg_name (i := 5) sc.nd rfl (.inl rfl)) pgs_nil)))) (pss_cons (ps_fld (pn vis 0) (pn vis 4) rfl) (pss_one (ps_fld (pn vis 0) (pe_op op_add (pn vis 3) (pn vis 5)) rfl)))))))), ?_⟩
    refine i_start (σ' := [some (V.ref selfA), some (V.int base), some (V.int coefficient), some (V.int exponent), none, none]) rfl ?_
    refine i_seq <| i_drop <| i_call <| i_cons <| v1 <| i_nil <| ⟨_, rfl, (by first | assumption | omega | rfl | exact Sz.zero | exact Sz.sm (by omega) (by omega) (by decide) | exact Sz.mono (by assumption) (by decide)), (by first | assumption | omega | rfl | exact Sz.zero | exact Sz.sm (by omega) (by omega) (by decide) | exact Sz.mono (by assumption) (by decide)), fun H2 s2 => ?_⟩
    refine i_nx <| i_seq <| i_sfld <| v1 <| v0 <| i_sfldI (same_ins s2 a0) T.cls_Exact T.na_Exact_base (of_decide_eq_true rfl) (fun H3 w3 f3 => ?_)
    refine i_nx <| i_if <| i_test <| i_op <| v2 <| i_c <| i_I0 <| i_bl <| i_ite (fun c3 => ?_) (fun c3 => ?_)
    ·
      refine i_seq <| i_sfld <| i_c <| v0 <| i_sfldI f3 T.cls_Exact T.na_Exact_coefficient (of_decide_eq_true rfl) (fun H4 w4 f4 => ?_)
      refine i_nx <| i_sfld <| i_c <| v0 <| i_sfldI f4 T.cls_Exact T.na_Exact_exponent (of_decide_eq_true rfl) (fun H5 w5 f5 => ?_)
      exact k ⟨base, 0, 0⟩ _ ((keep_of s2).trans (w3.trans (w4.trans w5))) f5 (by rw [c3, nrm_zero])
    ·
      refine i_seq <| i_asg <| i_call <| i_cons <| v1 <| i_cons <| v2 <| i_nil <| ⟨_, _, rfl, (by first | assumption | omega | rfl | exact Sz.zero | exact Sz.sm (by omega) (by omega) (by decide) | exact Sz.mono (by assumption) (by decide)), (by first | assumption | omega | rfl | exact Sz.zero | exact Sz.sm (by omega) (by omega) (by decide) | exact Sz.mono (by assumption) (by decide)), (by first | assumption | omega | rfl | exact Sz.zero | exact Sz.sm (by omega) (by omega) (by decide) | exact Sz.mono (by assumption) (by decide)), fun wzA wz0 wz1 H6 s6 f6_0 hwz0 hwz1 hwz2 => ?_⟩
      refine i_gtup (SqT.of f6_0) rfl <| i_gcons <| n4 <| i_gcons <| n5 <| i_gnil <| i_nx <| i_seq <| i_sfld <| v4 <| v0 <| i_sfldI (same_ins s6 f3) T.cls_Exact T.na_Exact_coefficient (of_decide_eq_true rfl) (fun H7 w7 f7 => ?_)
      refine i_nx <| i_sfld <| i_op <| v3 <| v5 <| i_I0 <| v0 <| i_sfldI f7 T.cls_Exact T.na_Exact_exponent (of_decide_eq_true rfl) (fun H8 w8 f8 => ?_)
      exact k ⟨base, wz0, (exponent + wz1)⟩ _ ((keep_of s2).trans (w3.trans ((keep_of s6).trans (w7.trans w8)))) f8 (by exact nrm_of' e0 c3 hwz0 hwz1 hwz2)
theorem ok_Exact___init___d0 {P : Program} {w : World} {K : PySem.W.Frag} {mg : Str → Option Value} {hp9 : Heap} (T : Txt P w K mg) : OkD P w K mg hp9 3 (He.fAd K ("Exact", some "__init__")) ["self", "base", "coefficient", "exponent"] [V.int 0] (sp_Exact___init__ K) := by
  obtain ⟨fd, F⟩ := T.d_Exact___init__
  exact OkD.dfl F 3 0 (by simp) rfl (fun T0 kV doc pm an cdv ct us its h1 h2 => by
    match us, h1, its, h2 with
    | [u0, u1, u2], _, [z0], _ => exact ⟨_, rfl, rfl⟩) (fn_Exact___init__ T F)
theorem ok_Exact___init__ {P : Program} {w : World} {K : PySem.W.Frag} {mg : Str → Option Value} {hp9 : Heap} (T : Txt P w K mg) : OkD P w K mg hp9 3 (He.fAd K ("Exact", some "__init__")) ["self", "base", "coefficient", "exponent"] [] (sp_Exact___init__ K) := by
  obtain ⟨fd, F⟩ := T.d_Exact___init__
  exact OkD.dfl F 4 1 (by simp) rfl (fun T0 kV doc pm an cdv ct us its h1 h2 => by
    match us, h1, its, h2 with
    | [u0, u1, u2, u3], _, [z0], _ => exact ⟨_, rfl, rfl⟩) (fn_Exact___init__ T F)

/-! check_mode -/
def sp_check_mode (K : PySem.W.Frag) : Sp := fun vs H Q _ => ∃ (mode : Str), vs = [V.str mode] ∧ (mode ∈ modes9) ∧ ∀  (H' : Hp), Same H H' → Q (V.non) H'
abbrev s_check_mode : Stmt := top 27
theorem sc_check_mode : FnScope ["mode"] ["mode"] (defScope s_check_mode) := ⟨rfl, rfl, rfl, by decide +kernel, rfl, by decide +kernel, by decide +kernel⟩
theorem vis_check_mode : visB ["mode"] (defScope s_check_mode) = true := by decide +kernel
theorem gl_check_mode : glB ["MODES"] (defScope s_check_mode) = true := by decide +kernel
theorem ok_check_mode {P : Program} {w : World} {K : PySem.W.Frag} {mg : Str → Option Value} {hp9 : Heap} (T : Txt P w K mg) : OkD P w K mg hp9 1 (He.fAd K ("check_mode", none)) ["mode"] [] (sp_check_mode K) := by
  obtain ⟨fd, F⟩ := T.d_check_mode
  refine ⟨fd, [], F.kp, F.bindsN (fun _ _ _ _ _ _ us hl => match us, hl with | [_], _ => rfl), .nil, ?_⟩
  have sc := sc_check_mode; have vis := vis_check_mode; have gls := gl_check_mode
  refine F.ok sc (fun vs H Q E h => ?_) (fun cdv A outer s H0 vs Q E hr h => ?_)
  · obtain ⟨mode, rfl, _⟩ := h; rfl
  · obtain ⟨mode, rfl, e0, k⟩ := h
    refine ⟨_, PSs.nox (pss_one (ps_if (pt_cmpR op_notIn_seq (pn vis 0) (pgr gls 0 T.g_MODES) (by rfl)) pss_never pss_nil)), ?_⟩
    refine i_start (σ' := [some (V.str mode)]) rfl ?_
    refine i_if <| i_test <| i_op <| v0 <| i_c <| i_inN (.inr (T.t_MODES H0)) rfl (by exact flat_str modes9) (b := true) (by exact in9 e0) <| i_bl <| i_iteNT <| i_next <| ?_
    exact k _ (Same.refl _)

/-! check_mode@bad -/
def sp_check_mode_bad (K : PySem.W.Frag) : Sp := fun vs H Q E => ∃ (mode : Str), vs = [V.str mode] ∧ (mode ∉ modes9) ∧ ∀ (d : Addr) (H' : Hp), Same H H' → H' d = some (.xd [("mode", V.str mode)]) → E (.ref (He.ga K "BadMode")) (some d) H'
abbrev s_check_mode_bad : Stmt := top 27
theorem sc_check_mode_bad : FnScope ["mode"] ["mode"] (defScope s_check_mode_bad) := ⟨rfl, rfl, rfl, by decide +kernel, rfl, by decide +kernel, by decide +kernel⟩
theorem vis_check_mode_bad : visB ["mode"] (defScope s_check_mode_bad) = true := by decide +kernel
theorem gl_check_mode_bad : glB ["MODES", "BadMode"] (defScope s_check_mode_bad) = true := by decide +kernel
theorem ok_check_mode_bad {P : Program} {w : World} {K : PySem.W.Frag} {mg : Str → Option Value} {hp9 : Heap} (T : Txt P w K mg) : OkD P w K mg hp9 2 (He.fAd K ("check_mode", none)) ["mode"] [] (sp_check_mode_bad K) := by
  obtain ⟨fd, F⟩ := T.d_check_mode
  refine ⟨fd, [], F.kp, F.bindsN (fun _ _ _ _ _ _ us hl => match us, hl with | [_], _ => rfl), .nil, ?_⟩
  have sc := sc_check_mode_bad; have vis := vis_check_mode_bad; have gls := gl_check_mode_bad
  refine F.ok sc (fun vs H Q E h => ?_) (fun cdv A outer s H0 vs Q E hr h => ?_)
  · obtain ⟨mode, rfl, _⟩ := h; rfl
  · obtain ⟨mode, rfl, e0, k⟩ := h
    refine ⟨_, (pss_one (ps_if (pt_cmpR op_notIn_seq (pn vis 0) (pgr gls 0 T.g_MODES) (by rfl)) (pss_one (ps_rs rfl takes_cx (pmk_sup1 T.sup_BadMode ss_BadMode sb_BadMode (by decide) (hr.mono (by decide)) (gl_of gls (i := 1) rfl).1 T.g_BadMode T.b_super (pn vis 0)))) pss_nil)), ?_⟩
    refine i_start (σ' := [some (V.str mode)]) rfl ?_
    refine i_if <| i_test <| i_op <| v0 <| i_c <| i_inN (.inr (T.t_MODES H0)) rfl (by exact flat_str modes9) (b := false) (by exact nin9 e0) <| i_bl <| i_iteNF <| i_rs <| i_mk1 <| v0 <| i_mk1e (fun d1 H1 s1 xf1 => ?_)
    exact k _ _ s1 xf1

/-! goes_up -/
def sp_goes_up (K : PySem.W.Frag) : Sp := fun vs H Q _ => ∃ (mode : Str) (positive : Bool), vs = [V.str mode, V.bl positive] ∧ ∀ (r : Bool) (H' : Hp), Same H H' → (r = goesUp mode positive) → Q (V.bl r) H'
abbrev s_goes_up : Stmt := top 28
theorem sc_goes_up : FnScope ["mode", "positive"] ["mode", "positive"] (defScope s_goes_up) := ⟨rfl, rfl, rfl, by decide +kernel, rfl, by decide +kernel, by decide +kernel⟩
theorem vis_goes_up : visB ["mode", "positive"] (defScope s_goes_up) = true := by decide +kernel
theorem gl_goes_up : glB [] (defScope s_goes_up) = true := by decide +kernel
theorem ok_goes_up {P : Program} {w : World} {K : PySem.W.Frag} {mg : Str → Option Value} {hp9 : Heap} (T : Txt P w K mg) : OkD P w K mg hp9 1 (He.fAd K ("goes_up", none)) ["mode", "positive"] [] (sp_goes_up K) := by
  obtain ⟨fd, F⟩ := T.d_goes_up
  refine ⟨fd, [], F.kp, F.bindsN (fun _ _ _ _ _ _ us hl => match us, hl with | [_, _], _ => rfl), .nil, ?_⟩
  have sc := sc_goes_up; have vis := vis_goes_up; have gls := gl_goes_up
  refine F.ok sc (fun vs H Q E h => ?_) (fun cdv A outer s H0 vs Q E hr h => ?_)
  · obtain ⟨mode, positive, rfl, _⟩ := h; rfl
  · obtain ⟨mode, positive, rfl, k⟩ := h
    refine ⟨_, PSs.nox (pss_cons (ps_if (pt_cmpR op_eqS (pn vis 0) pe_str (nomark _)) (pss_one (ps_ret (pe_not (pn vis 1)))) pss_nil) (pss_cons (ps_if (pt_cmpR op_eqS (pn vis 0) pe_str (nomark _)) (pss_one (ps_ret (pn vis 1))) pss_nil) (pss_one (ps_ret (pe_cmpR op_eqS (pn vis 0) pe_str (nomark _)))))), ?_⟩
    refine i_start (σ' := [some (V.str mode), some (V.bl positive)]) rfl ?_
    refine i_seq <| i_if <| i_test <| i_op <| v0 <| i_c <| i_S0 <| i_bl <| i_ite (fun c1 => ?_) (fun c1 => ?_)
    ·
      refine i_ret <| i_notV <| v1 <| i_blV <| ?_
      exact k _ _ (Same.refl _) (by simp [goesUp, *])
    ·
      refine i_next <| i_nx <| i_seq <| i_if <| i_test <| i_op <| v0 <| i_c <| i_S0 <| i_bl <| i_ite (fun c3 => ?_) (fun c3 => ?_)
      ·
        refine i_ret <| v1 <| ?_
        exact k _ _ (Same.refl _) (by simp [goesUp, *])
      ·
        refine i_next <| i_nx <| i_ret <| i_op <| v0 <| i_c <| i_S0 <| ?_
        exact k _ _ (Same.refl _) (by simp [goesUp, *])

/-! tie_goes_up -/
def sp_tie_goes_up (K : PySem.W.Frag) : Sp := fun vs H Q _ => ∃ (mode : Str) (low : Int) (positive : Bool), vs = [V.str mode, V.int low, V.bl positive] ∧ ∀ (r : Bool) (H' : Hp), Same H H' → (r = tieUp mode low positive) → Q (V.bl r) H'
abbrev s_tie_goes_up : Stmt := top 29
theorem sc_tie_goes_up : FnScope ["mode", "low", "positive"] ["mode", "low", "positive"] (defScope s_tie_goes_up) := ⟨rfl, rfl, rfl, by decide +kernel, rfl, by decide +kernel, by decide +kernel⟩
theorem vis_tie_goes_up : visB ["mode", "low", "positive"] (defScope s_tie_goes_up) = true := by decide +kernel
theorem gl_tie_goes_up : glB ["int"] (defScope s_tie_goes_up) = true := by decide +kernel
theorem ok_tie_goes_up {P : Program} {w : World} {K : PySem.W.Frag} {mg : Str → Option Value} {hp9 : Heap} (T : Txt P w K mg) : OkD P w K mg hp9 1 (He.fAd K ("tie_goes_up", none)) ["mode", "low", "positive"] [] (sp_tie_goes_up K) := by
  obtain ⟨fd, F⟩ := T.d_tie_goes_up
  refine ⟨fd, [], F.kp, F.bindsN (fun _ _ _ _ _ _ us hl => match us, hl with | [_, _, _], _ => rfl), .nil, ?_⟩
  have sc := sc_tie_goes_up; have vis := vis_tie_goes_up; have gls := gl_tie_goes_up
  refine F.ok sc (fun vs H Q E h => ?_) (fun cdv A outer s H0 vs Q E hr h => ?_)
  · obtain ⟨mode, low, positive, rfl, _⟩ := h; rfl
  · obtain ⟨mode, low, positive, rfl, k⟩ := h
    refine ⟨_, PSs.nox (pss_cons (ps_if (pt_cmpR op_eqS (pn vis 0) pe_str (nomark _)) (pss_one (ps_ret (pe_cmpR op_eqI (pe_op op_mod (pcT call_intI gls 0 T.b_int boot_int (pa_cons (pn vis 1) pa_nil)) pe_int) pe_int (nomark _)))) pss_nil) (pss_cons (ps_if (pt_cmpR op_eqS (pn vis 0) pe_str (nomark _)) (pss_one (ps_ret (pn vis 2))) pss_nil) (pss_cons (ps_if (pt_cmpR op_eqS (pn vis 0) pe_str (nomark _)) (pss_one (ps_ret (pe_not (pn vis 2)))) pss_nil) (pss_one (ps_ret (pe_cmpR op_eqS (pn vis 0) pe_str (nomark _))))))), ?_⟩
    refine i_start (σ' := [some (V.str mode), some (V.int low), some (V.bl positive)]) rfl ?_
    refine i_seq <| i_if <| i_test <| i_op <| v0 <| i_c <| i_S0 <| i_bl <| i_ite (fun c1 => ?_) (fun c1 => ?_)
    ·
      refine i_ret <| i_op <| i_op <| i_cb <| i_cons <| v1 <| i_nil <| i_int <| i_c <| i_I (by show (0 : Int) < _; first | decide | assumption | omega) <| i_c <| i_I0 <| ?_
      exact k _ _ (Same.refl _) (by simp [tieUp, *])
    ·
      refine i_next <| i_nx <| i_seq <| i_if <| i_test <| i_op <| v0 <| i_c <| i_S0 <| i_bl <| i_ite (fun c3 => ?_) (fun c3 => ?_)
      ·
        refine i_ret <| v2 <| ?_
        exact k _ _ (Same.refl _) (by simp [tieUp, *])
      ·
        refine i_next <| i_nx <| i_seq <| i_if <| i_test <| i_op <| v0 <| i_c <| i_S0 <| i_bl <| i_ite (fun c5 => ?_) (fun c5 => ?_)
        ·
          refine i_ret <| i_notV <| v2 <| i_blV <| ?_
          exact k _ _ (Same.refl _) (by simp [tieUp, *])
        ·
          refine i_next <| i_nx <| i_ret <| i_op <| v0 <| i_c <| i_S0 <| ?_
          exact k _ _ (Same.refl _) (by simp [tieUp, *])

/-! round_quotient -/
def sp_round_quotient (K : PySem.W.Frag) : Sp := fun vs H Q _ => ∃ (numerator : Int) (divisor : Int) (mode : Str), vs = [V.int numerator, V.int divisor, V.str mode] ∧ (0 < divisor) ∧ (Sz 9000 divisor) ∧ (mode ∈ modes9) ∧ ∀ (r : Int) (H' : Hp), Same H H' → (r = rq numerator divisor mode) → Q (V.int r) H'
abbrev s_round_quotient : Stmt := top 30
theorem sc_round_quotient : FnScope ["numerator", "divisor", "mode", "positive", "low", "rest", "up"] ["numerator", "divisor", "mode"] (defScope s_round_quotient) := ⟨rfl, rfl, rfl, by decide +kernel, rfl, by decide +kernel, by decide +kernel⟩
theorem vis_round_quotient : visB ["numerator", "divisor", "mode", "positive", "low", "rest", "up"] (defScope s_round_quotient) = true := by decide +kernel
theorem gl_round_quotient : glB ["check_mode", "divmod", "NEAREST", "goes_up", "tie_goes_up"] (defScope s_round_quotient) = true := by decide +kernel
theorem ok_round_quotient {P : Program} {w : World} {K : PySem.W.Frag} {mg : Str → Option Value} {hp9 : Heap} (T : Txt P w K mg) : OkD P w K mg hp9 2 (He.fAd K ("round_quotient", none)) ["numerator", "divisor", "mode"] [] (sp_round_quotient K) := by
  obtain ⟨fd, F⟩ := T.d_round_quotient
  refine ⟨fd, [], F.kp, F.bindsN (fun _ _ _ _ _ _ us hl => match us, hl with | [_, _, _], _ => rfl), .nil, ?_⟩
  have sc := sc_round_quotient; have vis := vis_round_quotient; have gls := gl_round_quotient
  refine F.ok sc (fun vs H Q E h => ?_) (fun cdv A outer s H0 vs Q E hr h => ?_)
  · obtain ⟨numerator, divisor, mode, rfl, _⟩ := h; rfl
  · obtain ⟨numerator, divisor, mode, rfl, e0, e1, e2, k⟩ := h
    refine ⟨_, PSs.nox (pss_cons (ps_expr (pcD (ok_check_mode T) (hr.mono (by decide)) gls 0 T.g_check_mode (pa_cons (pn vis 2) pa_nil))) (pss_cons (ps_asg (pcB call_dm gls 1 T.b_divmod (by decide +kernel) (pa_cons (pn vis 0) (pa_cons (pn vis 1) pa_nil))) (pg_tup (by rfl) (pgs_cons (pg_name (i := 4) sc.nd rfl (.inl rfl)) (pgs_cons (pg_name (i := 5) sc.nd rfl (.inl rfl)) pgs_nil)))) (pss_cons (ps_if (pt_cmpR op_eqI (pn vis 5) pe_int (nomark _)) (pss_one (ps_ret (pn vis 4))) pss_nil) (pss_cons (ps_set (i := 3) sc.nd rfl (.inl rfl) (pe_cmpR op_gt (pn vis 0) pe_int (nomark _))) (pss_cons (ps_if (pt_cmpR op_notIn_seq (pn vis 2) (pgr gls 2 T.g_NEAREST) (by rfl)) (pss_one (ps_set (i := 6) sc.nd rfl (.inl rfl) (pcD (ok_goes_up T) (hr.mono (by decide)) gls 3 T.g_goes_up (pa_cons (pn vis 2) (pa_cons (pn vis 3) pa_nil))))) (pss_one (ps_if (pt_cmpR op_eqI (pe_op op_mul pe_int (pn vis 5)) (pn vis 1) (nomark _)) (pss_one (ps_set (i := 6) sc.nd rfl (.inl rfl) (pcD (ok_tie_goes_up T) (hr.mono (by decide)) gls 4 T.g_tie_goes_up (pa_cons (pn vis 2) (pa_cons (pn vis 4) (pa_cons (pn vis 3) pa_nil)))))) (pss_one (ps_set (i := 6) sc.nd rfl (.inl rfl) (pe_cmpR op_gt (pe_op op_mul pe_int (pn vis 5)) (pn vis 1) (nomark _))))))) (pss_cons (ps_if (pt_val (pn vis 6)) (pss_one (ps_ret (pe_op op_add (pn vis 4) pe_int))) pss_nil) (pss_one (ps_ret (pn vis 4))))))))), ?_⟩
    refine i_start (σ' := [some (V.int numerator), some (V.int divisor), some (V.str mode), none, none, none, none]) rfl ?_
    refine i_seq <| i_drop <| i_call <| i_cons <| v2 <| i_nil <| ⟨_, rfl, (by first | assumption | omega | rfl | exact Sz.zero | exact Sz.sm (by omega) (by omega) (by decide) | exact Sz.mono (by assumption) (by decide)), fun H2 s2 => ?_⟩
    refine i_nx <| i_seq <| i_asg <| i_cb <| i_cons <| v0 <| i_cons <| v1 <| i_nil <| i_dm (by exact divp e0 e1) (fun p3 H3 _ s3 f3 => ?_)
    refine i_gtup (SqT.of f3) rfl <| i_gcons <| n4 <| i_gcons <| n5 <| i_gnil <| i_nx <| i_seq <| i_if <| i_test <| i_op <| v5 <| i_c <| i_I0 <| i_bl <| i_ite (fun c3 => ?_) (fun c3 => ?_)
    ·
      refine i_ret <| v4 <| ?_
      exact k _ _ (s2.trans s3) (by simp_all [rq, rqUp] <;> omega)
    ·
      refine i_next <| i_nx <| i_seq <| i_asg <| i_op <| v0 <| i_c <| i_I0 <| n3 <| i_nx <| i_seq <| i_if <| i_test <| i_op <| v2 <| i_c <| i_inN (.inr (T.t_NEAREST H3)) rfl (by exact flat_str near5) (b := (decide (mode ∈ near5))) (by exact in5 mode) <| i_bl <| i_iteN (fun c6 => ?_) (fun c6 => ?_)
      ·
        refine i_asg <| i_call <| i_cons <| v2 <| i_cons <| v3 <| i_nil <| ⟨_, _, rfl, fun up H4 s4 hup => ?_⟩
        refine n6 <| i_nx <| i_seq <| i_if <| i_tB <| v6 <| i_bl <| i_iteB (fun c12 => ?_) (fun c12 => ?_)
        ·
          refine i_ret <| i_op <| v4 <| i_c <| i_I0 <| ?_
          exact k _ _ (s2.trans (s3.trans s4)) (by simp_all [rq, rqUp] <;> omega)
        ·
          refine i_next <| i_nx <| i_ret <| v4 <| ?_
          exact k _ _ (s2.trans (s3.trans s4)) (by simp_all [rq, rqUp] <;> omega)
      ·
        refine i_if <| i_test <| i_op <| i_op <| i_c <| v5 <| i_I (by first | exact .inl ⟨by decide, by decide⟩ | exact .inr ⟨by decide, by decide⟩) <| v1 <| i_I0 <| i_bl <| i_ite (fun c8 => ?_) (fun c8 => ?_)
        ·
          refine i_asg <| i_call <| i_cons <| v2 <| i_cons <| v4 <| i_cons <| v3 <| i_nil <| ⟨_, _, _, rfl, fun up H5 s5 hup => ?_⟩
          refine n6 <| i_nx <| i_seq <| i_if <| i_tB <| v6 <| i_bl <| i_iteB (fun c12' => ?_) (fun c12' => ?_)
          ·
            refine i_ret <| i_op <| v4 <| i_c <| i_I0 <| ?_
            exact k _ _ (s2.trans (s3.trans s5)) (by simp_all [rq, rqUp] <;> omega)
          ·
            refine i_next <| i_nx <| i_ret <| v4 <| ?_
            exact k _ _ (s2.trans (s3.trans s5)) (by simp_all [rq, rqUp] <;> omega)
        ·
          refine i_asg <| i_op <| i_op <| i_c <| v5 <| i_I (by first | exact .inl ⟨by decide, by decide⟩ | exact .inr ⟨by decide, by decide⟩) <| v1 <| i_I0 <| n6 <| i_nx <| i_seq <| i_if <| i_tB <| v6 <| i_bl <| i_ite (fun c12'' => ?_) (fun c12'' => ?_)
          ·
            refine i_ret <| i_op <| v4 <| i_c <| i_I0 <| ?_
            exact k _ _ (s2.trans s3) (by simp_all [rq, rqUp] <;> omega)
          ·
            refine i_next <| i_nx <| i_ret <| v4 <| ?_
            exact k _ _ (s2.trans s3) (by simp_all [rq, rqUp] <;> omega)

/-! check_free -/
def sp_check_free (K : PySem.W.Frag) : Sp := fun vs H Q _ => ∃ (gridA : Addr) (grid : GR), vs = [V.ref gridA] ∧ IsI (He.ga K "Grid") H gridA (grF grid) ∧ (grid.o = none) ∧ (grid.t = none) ∧ ∀  (H' : Hp), Same H H' → Q (V.non) H'
abbrev s_check_free : Stmt := top 34
theorem sc_check_free : FnScope ["grid"] ["grid"] (defScope s_check_free) := ⟨rfl, rfl, rfl, by decide +kernel, rfl, by decide +kernel, by decide +kernel⟩
theorem vis_check_free : visB ["grid"] (defScope s_check_free) = true := by decide +kernel
theorem gl_check_free : glB [] (defScope s_check_free) = true := by decide +kernel
theorem ok_check_free {P : Program} {w : World} {K : PySem.W.Frag} {mg : Str → Option Value} {hp9 : Heap} (T : Txt P w K mg) : OkD P w K mg hp9 1 (He.fAd K ("check_free", none)) ["grid"] [] (sp_check_free K) := by
  obtain ⟨fd, F⟩ := T.d_check_free
  refine ⟨fd, [], F.kp, F.bindsN (fun _ _ _ _ _ _ us hl => match us, hl with | [_], _ => rfl), .nil, ?_⟩
  have sc := sc_check_free; have vis := vis_check_free; have gls := gl_check_free
  refine F.ok sc (fun vs H Q E h => ?_) (fun cdv A outer s H0 vs Q E hr h => ?_)
  · obtain ⟨gridA, grid, rfl, _⟩ := h; rfl
  · obtain ⟨gridA, grid, rfl, a0, e0, e1, k⟩ := h
    refine ⟨_, PSs.nox (pss_one (ps_if (PW.pt (pw_or (pt_cmpR op_notN_ (pe_fld (pn vis 0) rfl) pe_non (nomark _)) (pw_or1 (pt_cmpR op_notN_ (pe_fld (pn vis 0) rfl) pe_non (nomark _))))) pss_never pss_nil)), ?_⟩
    refine i_start (σ' := [some (V.ref gridA)]) rfl ?_
    rcases ho1 : grid.o with _ | so
    ·
      rcases ho2 : grid.t with _ | ts
      ·
        refine i_if <| i_or <| i_test <| i_op <| i_fld <| v0 <| i_fldI a0 T.cls_Grid T.na_Grid_bottom (congrArg some (opt_n ho1)) <| i_c <| i_isN (b := false) rfl <| i_bl <| i_iteF <| i_test <| i_op <| i_fld <| v0 <| i_fldI a0 T.cls_Grid T.na_Grid_top (congrArg some (opt_n ho2)) <| i_c <| i_isN (b := false) rfl <| i_bl <| i_iteF <| i_next <| ?_
        exact k _ (Same.refl _)
      ·
        exact absurd ho2 (by rw [e1]; simp)
    ·
      exact absurd ho1 (by rw [e0]; simp)

/-! check_free@bad -/
def sp_check_free_bad (K : PySem.W.Frag) : Sp := fun vs H Q E => ∃ (gridA : Addr) (grid : GR), vs = [V.ref gridA] ∧ IsI (He.ga K "Grid") H gridA (grF grid) ∧ (grid.o ≠ none ∨ grid.t ≠ none) ∧ ∀ (d : Addr) (H' : Hp), Same H H' → H' d = some (.xd [("what", V.str "borders")]) → E (.ref (He.ga K "BadGrid")) (some d) H'
abbrev s_check_free_bad : Stmt := top 34
theorem sc_check_free_bad : FnScope ["grid"] ["grid"] (defScope s_check_free_bad) := ⟨rfl, rfl, rfl, by decide +kernel, rfl, by decide +kernel, by decide +kernel⟩
theorem vis_check_free_bad : visB ["grid"] (defScope s_check_free_bad) = true := by decide +kernel
theorem gl_check_free_bad : glB ["BadGrid"] (defScope s_check_free_bad) = true := by decide +kernel
theorem ok_check_free_bad {P : Program} {w : World} {K : PySem.W.Frag} {mg : Str → Option Value} {hp9 : Heap} (T : Txt P w K mg) : OkD P w K mg hp9 2 (He.fAd K ("check_free", none)) ["grid"] [] (sp_check_free_bad K) := by
  obtain ⟨fd, F⟩ := T.d_check_free
  refine ⟨fd, [], F.kp, F.bindsN (fun _ _ _ _ _ _ us hl => match us, hl with | [_], _ => rfl), .nil, ?_⟩
  have sc := sc_check_free_bad; have vis := vis_check_free_bad; have gls := gl_check_free_bad
  refine F.ok sc (fun vs H Q E h => ?_) (fun cdv A outer s H0 vs Q E hr h => ?_)
  · obtain ⟨gridA, grid, rfl, _⟩ := h; rfl
  · obtain ⟨gridA, grid, rfl, a0, e0, k⟩ := h
    refine ⟨_, (pss_one (ps_if (PW.pt (pw_or (pt_cmpR op_notN_ (pe_fld (pn vis 0) rfl) pe_non (nomark _)) (pw_or1 (pt_cmpR op_notN_ (pe_fld (pn vis 0) rfl) pe_non (nomark _))))) (pss_one (ps_rs rfl takes_cx (pmk_sup1 T.sup_BadGrid ss_BadGrid sb_BadGrid (by decide) (hr.mono (by decide)) (gl_of gls (i := 0) rfl).1 T.g_BadGrid T.b_super pe_str))) pss_nil)), ?_⟩
    refine i_start (σ' := [some (V.ref gridA)]) rfl ?_
    rcases ho1 : grid.o with _ | so
    ·
      rcases ho2 : grid.t with _ | ts
      ·
        exact (e0.elim (fun q => q ho1) (fun q => q ho2)).elim
      ·
        refine i_if <| i_or <| i_test <| i_op <| i_fld <| v0 <| i_fldI a0 T.cls_Grid T.na_Grid_bottom (congrArg some (opt_n ho1)) <| i_c <| i_isN (b := false) rfl <| i_bl <| i_iteF <| i_test <| i_op <| i_fld <| v0 <| i_fldI a0 T.cls_Grid T.na_Grid_top (congrArg some (opt_s ho2)) <| i_c <| i_isN (b := true) rfl <| i_bl <| i_iteT <| i_rs <| i_mk1 <| i_c <| i_mk1e (fun d3 H3 s3 xf3 => ?_)
        exact k _ _ s3 xf3
    ·
      rcases ho4 : grid.t with _ | ts
      ·
        refine i_if <| i_or <| i_test <| i_op <| i_fld <| v0 <| i_fldI a0 T.cls_Grid T.na_Grid_bottom (congrArg some (opt_s ho1)) <| i_c <| i_isN (b := true) rfl <| i_bl <| i_iteT <| i_iteT <| i_rs <| i_mk1 <| i_c <| i_mk1e (fun d5 H5 s5 xf5 => ?_)
        exact k _ _ s5 xf5
      ·
        refine i_if <| i_or <| i_test <| i_op <| i_fld <| v0 <| i_fldI a0 T.cls_Grid T.na_Grid_bottom (congrArg some (opt_s ho1)) <| i_c <| i_isN (b := true) rfl <| i_bl <| i_iteT <| i_iteT <| i_rs <| i_mk1 <| i_c <| i_mk1e (fun d6 H6 s6 xf6 => ?_)
        exact k _ _ s6 xf6

/-! ratio_place -/
def sp_ratio_place (K : PySem.W.Frag) : Sp := fun vs H Q _ => ∃ (base : Int) (numerator : Int) (divisor : Int), vs = [V.int base, V.int numerator, V.int divisor] ∧ (2 ≤ base) ∧ (base ≤ 36) ∧ (1 ≤ numerator) ∧ (1 ≤ divisor) ∧ (Sz 600 numerator) ∧ (Sz 600 divisor) ∧ ∀ (r : Int) (H' : Hp), Same H H' → (Pl base numerator divisor r) → (-700 ≤ r) → (r ≤ 700) → Q (V.int r) H'
abbrev s_ratio_place : Stmt := top 37
theorem sc_ratio_place : FnScope ["base", "numerator", "divisor", "more", "less"] ["base", "numerator", "divisor"] (defScope s_ratio_place) := ⟨rfl, rfl, rfl, by decide +kernel, rfl, by decide +kernel, by decide +kernel⟩
theorem vis_ratio_place : visB ["base", "numerator", "divisor", "more", "less"] (defScope s_ratio_place) = true := by decide +kernel
theorem gl_ratio_place : glB ["count_digits", "power"] (defScope s_ratio_place) = true := by decide +kernel
theorem ok_ratio_place {P : Program} {w : World} {K : PySem.W.Frag} {mg : Str → Option Value} {hp9 : Heap} (T : Txt P w K mg) : OkD P w K mg hp9 3 (He.fAd K ("ratio_place", none)) ["base", "numerator", "divisor"] [] (sp_ratio_place K) := by
  obtain ⟨fd, F⟩ := T.d_ratio_place
  refine ⟨fd, [], F.kp, F.bindsN (fun _ _ _ _ _ _ us hl => match us, hl with | [_, _, _], _ => rfl), .nil, ?_⟩
  have sc := sc_ratio_place; have vis := vis_ratio_place; have gls := gl_ratio_place
  refine F.ok sc (fun vs H Q E h => ?_) (fun cdv A outer s H0 vs Q E hr h => ?_)
  · obtain ⟨base, numerator, divisor, rfl, _⟩ := h; rfl
  · obtain ⟨base, numerator, divisor, rfl, e0, e1, e2, e3, e4, e5, k⟩ := h
    refine ⟨_, PSs.nox (pss_cons (ps_set (i := 3) sc.nd rfl (.inl rfl) (pe_op op_sub (pcD (ok_count_digits T) (hr.mono (by decide)) gls 0 T.g_count_digits (pa_cons (pn vis 0) (pa_cons (pn vis 1) pa_nil))) (pcD (ok_count_digits T) (hr.mono (by decide)) gls 0 T.g_count_digits (pa_cons (pn vis 0) (pa_cons (pn vis 2) pa_nil))))) (pss_cons (ps_if (pt_cmpR op_ge (pn vis 3) pe_int (nomark _)) (pss_one (ps_set (i := 4) sc.nd rfl (.inl rfl) (pe_cmpR op_lt (pn vis 1) (pe_op op_mulX (pn vis 2) (pcD (ok_power T) (hr.mono (by decide)) gls 1 T.g_power (pa_cons (pn vis 0) (pa_cons (pn vis 3) pa_nil)))) (nomark _)))) (pss_one (ps_set (i := 4) sc.nd rfl (.inl rfl) (pe_cmpR op_lt (pe_op op_mulX (pn vis 1) (pcD (ok_power T) (hr.mono (by decide)) gls 1 T.g_power (pa_cons (pn vis 0) (pa_cons (pe_un un_neg (pn vis 3)) pa_nil)))) (pn vis 2) (nomark _))))) (pss_cons (ps_if (pt_val (pn vis 4)) (pss_one (ps_ret (pe_op op_sub (pn vis 3) pe_int))) pss_nil) (pss_one (ps_ret (pn vis 3)))))), ?_⟩
    refine i_start (σ' := [some (V.int base), some (V.int numerator), some (V.int divisor), none, none]) rfl ?_
    refine i_seq <| i_asg <| i_op <| i_call <| i_cons <| v0 <| i_cons <| v1 <| i_nil <| ⟨_, _, rfl, (by first | assumption | omega | rfl | exact Sz.zero | exact Sz.sm (by omega) (by omega) (by decide) | exact Sz.mono (by assumption) (by decide)), (by first | assumption | omega | rfl | exact Sz.zero | exact Sz.sm (by omega) (by omega) (by decide) | exact Sz.mono (by assumption) (by decide)), fun cn H1 s1 hcn => ?_⟩
    refine i_call <| i_cons <| v0 <| i_cons <| v2 <| i_nil <| ⟨_, _, rfl, (by first | assumption | omega | rfl | exact Sz.zero | exact Sz.sm (by omega) (by omega) (by decide) | exact Sz.mono (by assumption) (by decide)), (by first | assumption | omega | rfl | exact Sz.zero | exact Sz.sm (by omega) (by omega) (by decide) | exact Sz.mono (by assumption) (by decide)), fun cd H2 s2 hcd => ?_⟩
    refine i_I0 <| nI3 (fun more hmore => ?_)
    refine i_nx <| i_seq <| ?_
    have d1 := dg_le e0 hcn e4
    have d2 := dg_le e0 hcd e5
    have na : ((numerator.natAbs : Nat) : Int) = numerator := by omega
    refine i_if <| i_test <| i_op <| v3 <| i_c <| i_I0 <| i_bl <| i_ite (fun c2 => ?_) (fun c2 => ?_)
    ·
      refine i_asg <| i_op <| v1 <| i_op <| v2 <| i_call <| i_cons <| v0 <| i_cons <| v3 <| i_nil <| ⟨_, _, rfl, (by first | assumption | omega | rfl | exact Sz.zero | exact Sz.sm (by omega) (by omega) (by decide) | exact Sz.mono (by assumption) (by decide)), (by omega), (by unfold Sz; omega), fun pw H3 s3 hpw => ?_⟩
      refine i_I (by exact mulx (a := 600) (b := 3601) e5 (by rw [hpw]; exact (Sz.pow36 e0 e1 _).mono (by omega))) <| i_I0 <| nB4 (fun less hless => ?_)
      refine i_nx <| i_seq <| i_if <| i_tB <| v4 <| i_bl <| i_iteB (fun c6 => ?_) (fun c6 => ?_)
      ·
        refine i_ret <| i_op <| v3 <| i_c <| i_I0 <| ?_
        exact k _ _ (s1.trans (s2.trans s3)) (by rw [hmore] at *; first | (have w := (pl_hi e0 (by omega) (by omega) hcn hcd (by omega) (by omega) (by assumption)).1; rw [na] at w; refine w ?_; rw [hless, hpw] at *; simp_all) | (have w := (pl_lo e0 (by omega) (by omega) hcn hcd (by omega) (by omega) (by assumption)).1; rw [na] at w; refine w ?_; rw [hless, hpv] at *; simp_all)) (by omega) (by omega)
      ·
        refine i_next <| i_nx <| i_ret <| v3 <| ?_
        exact k _ _ (s1.trans (s2.trans s3)) (by rw [hmore] at *; first | (have w := (pl_hi e0 (by omega) (by omega) hcn hcd (by omega) (by omega) (by assumption)).2; rw [na] at w; refine w ?_; rw [hless, hpw] at *; simp_all) | (have w := (pl_lo e0 (by omega) (by omega) hcn hcd (by omega) (by omega) (by assumption)).2; rw [na] at w; refine w ?_; rw [hless, hpv] at *; simp_all)) (by omega) (by omega)
    ·
      refine i_asg <| i_op <| i_op <| v1 <| i_call <| i_cons <| v0 <| i_cons <| i_un <| v3 <| i_U <| i_nil <| ⟨_, _, rfl, (by first | assumption | omega | rfl | exact Sz.zero | exact Sz.sm (by omega) (by omega) (by decide) | exact Sz.mono (by assumption) (by decide)), (by omega), (by unfold Sz; omega), fun pv H4 s4 hpv => ?_⟩
      refine i_I (by exact mulx (a := 600) (b := 3601) e4 (by rw [hpv]; exact (Sz.pow36 e0 e1 _).mono (by omega))) <| v2 <| i_I0 <| nB4 (fun less hless => ?_)
      refine i_nx <| i_seq <| i_if <| i_tB <| v4 <| i_bl <| i_iteB (fun c6' => ?_) (fun c6' => ?_)
      ·
        refine i_ret <| i_op <| v3 <| i_c <| i_I0 <| ?_
        exact k _ _ (s1.trans (s2.trans s4)) (by rw [hmore] at *; first | (have w := (pl_hi e0 (by omega) (by omega) hcn hcd (by omega) (by omega) (by assumption)).1; rw [na] at w; refine w ?_; rw [hless, hpw] at *; simp_all) | (have w := (pl_lo e0 (by omega) (by omega) hcn hcd (by omega) (by omega) (by assumption)).1; rw [na] at w; refine w ?_; rw [hless, hpv] at *; simp_all)) (by omega) (by omega)
      ·
        refine i_next <| i_nx <| i_ret <| v3 <| ?_
        exact k _ _ (s1.trans (s2.trans s4)) (by rw [hmore] at *; first | (have w := (pl_hi e0 (by omega) (by omega) hcn hcd (by omega) (by omega) (by assumption)).2; rw [na] at w; refine w ?_; rw [hless, hpw] at *; simp_all) | (have w := (pl_lo e0 (by omega) (by omega) hcn hcd (by omega) (by omega) (by assumption)).2; rw [na] at w; refine w ?_; rw [hless, hpv] at *; simp_all)) (by omega) (by omega)

/-! rounded_ratio -/
def sp_rounded_ratio (K : PySem.W.Frag) : Sp := fun vs H Q _ => ∃ (gridA : Addr) (grid : GR) (numerator : Int) (divisor : Int) (mode : Str), vs = [V.ref gridA, V.int numerator, V.int divisor, V.str mode] ∧ IsI (He.ga K "Grid") H gridA (grF grid) ∧ (2 ≤ grid.b) ∧ (grid.b ≤ 36) ∧ (1 ≤ divisor) ∧ (Sz 600 numerator) ∧ (Sz 600 divisor) ∧ (mode ∈ modes9) ∧ (3 ≤ grid.p) ∧ (grid.p ≤ 200) ∧ ∀ (rA : Addr) (r : EN) (H' : Hp), Same H H' → IsI (He.ga K "Exact") H' rA (exF r) → (Rt grid.b grid.p numerator divisor mode r) → Q (V.ref rA) H'
abbrev s_rounded_ratio : Stmt := top 38
theorem sc_rounded_ratio : FnScope ["grid", "numerator", "divisor", "mode", "last", "whole"] ["grid", "numerator", "divisor", "mode"] (defScope s_rounded_ratio) := ⟨rfl, rfl, rfl, by decide +kernel, rfl, by decide +kernel, by decide +kernel⟩
theorem vis_rounded_ratio : visB ["grid", "numerator", "divisor", "mode", "last", "whole"] (defScope s_rounded_ratio) = true := by decide +kernel
theorem gl_rounded_ratio : glB ["Exact", "abs", "ratio_place", "power", "round_quotient"] (defScope s_rounded_ratio) = true := by decide +kernel
theorem ok_rounded_ratio {P : Program} {w : World} {K : PySem.W.Frag} {mg : Str → Option Value} {hp9 : Heap} (T : Txt P w K mg) : OkD P w K mg hp9 5 (He.fAd K ("rounded_ratio", none)) ["grid", "numerator", "divisor", "mode"] [] (sp_rounded_ratio K) := by
  obtain ⟨fd, F⟩ := T.d_rounded_ratio
  refine ⟨fd, [], F.kp, F.bindsN (fun _ _ _ _ _ _ us hl => match us, hl with | [_, _, _, _], _ => rfl), .nil, ?_⟩
  have sc := sc_rounded_ratio; have vis := vis_rounded_ratio; have gls := gl_rounded_ratio
  refine F.ok sc (fun vs H Q E h => ?_) (fun cdv A outer s H0 vs Q E hr h => ?_)
  · obtain ⟨gridA, grid, numerator, divisor, mode, rfl, _⟩ := h; rfl
  · obtain ⟨gridA, grid, numerator, divisor, mode, rfl, a0, e0, e1, e2, e3, e4, e5, e6, e7, k⟩ := h
    refine ⟨_, PSs.nox (pss_cons (ps_if (pt_cmpR op_eqI (pn vis 1) pe_int (nomark _)) (pss_one (ps_ret (pcM T.mk_Exact (ok_Exact___init___d0 T) (hr.mono (by decide)) gls 0 T.g_Exact (pa_cons (pe_fld (pn vis 0) rfl) (pa_cons pe_int pa_nil))))) pss_nil) (pss_cons (ps_set (i := 4) sc.nd rfl (.inl rfl) (pe_op op_add (pe_op op_sub (pcD (ok_ratio_place T) (hr.mono (by decide)) gls 2 T.g_ratio_place (pa_cons (pe_fld (pn vis 0) rfl) (pa_cons (pcB call_absI gls 1 T.b_abs (by decide +kernel) (pa_cons (pn vis 1) pa_nil)) (pa_cons (pn vis 2) pa_nil)))) (pe_fld (pn vis 0) rfl)) pe_int)) (pss_cons (ps_if (pt_cmpR op_ge (pn vis 4) pe_int (nomark _)) (pss_one (ps_set (i := 5) sc.nd rfl (.inl rfl) (pcD (ok_round_quotient T) (hr.mono (by decide)) gls 4 T.g_round_quotient (pa_cons (pn vis 1) (pa_cons (pe_op op_mulX (pn vis 2) (pcD (ok_power T) (hr.mono (by decide)) gls 3 T.g_power (pa_cons (pe_fld (pn vis 0) rfl) (pa_cons (pn vis 4) pa_nil)))) (pa_cons (pn vis 3) pa_nil)))))) (pss_one (ps_set (i := 5) sc.nd rfl (.inl rfl) (pcD (ok_round_quotient T) (hr.mono (by decide)) gls 4 T.g_round_quotient (pa_cons (pe_op op_mulX (pn vis 1) (pcD (ok_power T) (hr.mono (by decide)) gls 3 T.g_power (pa_cons (pe_fld (pn vis 0) rfl) (pa_cons (pe_un un_neg (pn vis 4)) pa_nil)))) (pa_cons (pn vis 2) (pa_cons (pn vis 3) pa_nil))))))) (pss_one (ps_ret (pcM T.mk_Exact (ok_Exact___init__ T) (hr.mono (by decide)) gls 0 T.g_Exact (pa_cons (pe_fld (pn vis 0) rfl) (pa_cons (pn vis 5) (pa_cons (pn vis 4) pa_nil))))))))), ?_⟩
    refine i_start (σ' := [some (V.ref gridA), some (V.int numerator), some (V.int divisor), some (V.str mode), none, none]) rfl ?_
    refine i_seq <| i_if <| i_test <| i_op <| v1 <| i_c <| i_I0 <| i_bl <| i_ite (fun c1 => ?_) (fun c1 => ?_)
    ·
      refine i_ret <| i_make <| i_cons <| i_fld <| v0 <| i_fldI a0 T.cls_Grid T.na_Grid_base rfl <| i_cons <| i_c <| i_nil <| i_madeN (fun xo1 H1 hn1 k1 i1 => ?_)
      refine ⟨xo1, _, _, _, rfl, i1, (by first | assumption | omega | rfl | exact Sz.zero | exact Sz.sm (by omega) (by omega) (by decide) | exact Sz.mono (by assumption) (by decide)), (by first | assumption | omega | rfl | exact Sz.zero | exact Sz.sm (by omega) (by omega) (by decide) | exact Sz.mono (by assumption) (by decide)), (by first | assumption | omega | rfl | exact Sz.zero | exact Sz.sm (by omega) (by omega) (by decide) | exact Sz.mono (by assumption) (by decide)), fun ez G1 p1 q1 hez => ⟨rfl, ?_⟩⟩
      exact k _ _ _ (k1 _ p1) q1 (by exact .inl ⟨c1, by rw [hez]; exact nrm_zero _ _⟩)
    ·
      refine i_next <| i_nx <| i_seq <| i_asg <| i_op <| i_op <| i_call <| i_cons <| i_fld <| v0 <| i_fldI a0 T.cls_Grid T.na_Grid_base rfl <| i_cons <| i_cb <| i_cons <| v1 <| i_nil <| i_abs <| i_cons <| v2 <| i_nil <| ⟨_, _, _, rfl, (by first | assumption | omega | rfl | exact Sz.zero | exact Sz.sm (by omega) (by omega) (by decide) | exact Sz.mono (by assumption) (by decide)), (by first | assumption | omega | rfl | exact Sz.zero | exact Sz.sm (by omega) (by omega) (by decide) | exact Sz.mono (by assumption) (by decide)), (by split <;> omega), (by first | assumption | omega | rfl | exact Sz.zero | exact Sz.sm (by omega) (by omega) (by decide) | exact Sz.mono (by assumption) (by decide)), (by exact e3.le (by split <;> omega)), (by first | assumption | omega | rfl | exact Sz.zero | exact Sz.sm (by omega) (by omega) (by decide) | exact Sz.mono (by assumption) (by decide)), fun rp H2 s2 hrp0 hrp1 hrp2 => ?_⟩
      refine i_fld <| v0 <| i_fldI (same_ins s2 a0) T.cls_Grid T.na_Grid_precision rfl <| i_I0 <| i_c <| i_I0 <| nI4 (fun last hlast => ?_)
      refine i_nx <| i_seq <| ?_
      have hzp : ∀ k : Int, k ≤ 1000 → Sz 6001 (grid.b ^ k.toNat) := fun k hk => (Sz.pow36 e0 e1 _).mono (by omega)
      refine i_if <| i_test <| i_op <| v4 <| i_c <| i_I0 <| i_bl <| i_ite (fun c4 => ?_) (fun c4 => ?_)
      ·
        refine i_asg <| i_call <| i_cons <| v1 <| i_cons <| i_op <| v2 <| i_call <| i_cons <| i_fld <| v0 <| i_fldI (same_ins s2 a0) T.cls_Grid T.na_Grid_base rfl <| i_cons <| v4 <| i_nil <| ⟨_, _, rfl, (by first | assumption | omega | rfl | exact Sz.zero | exact Sz.sm (by omega) (by omega) (by decide) | exact Sz.mono (by assumption) (by decide)), (by omega), (by unfold Sz; omega), fun pw H3 s3 hpw => ?_⟩
        refine i_I (by exact mulx (a := 600) (b := 6001) e4 (by rw [hpw]; exact hzp _ (by omega))) <| i_cons <| v3 <| i_nil <| ⟨_, _, _, rfl, (by rw [hpw]; exact Int.mul_pos (by omega) (by have := pow_pos' e0 last.toNat; omega)), (by exact (Sz.mul e4 (by rw [hpw]; exact hzp _ (by omega) : Sz 6001 pw)).mono (by decide)), (by first | assumption | omega | rfl | exact Sz.zero | exact Sz.sm (by omega) (by omega) (by decide) | exact Sz.mono (by assumption) (by decide)), fun wh H4 s4 hwh => ?_⟩
        refine n5 <| i_nx <| i_ret <| i_make <| i_cons <| i_fld <| v0 <| i_fldI (same_ins (s2.trans (s3.trans s4)) a0) T.cls_Grid T.na_Grid_base rfl <| i_cons <| v5 <| i_cons <| v4 <| i_nil <| i_madeN (fun xo5 H5 hn5 k5 i5 => ?_)
        refine ⟨xo5, _, _, _, rfl, i5, (by first | assumption | omega | rfl | exact Sz.zero | exact Sz.sm (by omega) (by omega) (by decide) | exact Sz.mono (by assumption) (by decide)), (by first | assumption | omega | rfl | exact Sz.zero | exact Sz.sm (by omega) (by omega) (by decide) | exact Sz.mono (by assumption) (by decide)), (by first | (rw [hwh]; exact (rq_sz mode (by rw [hpw]; have := Int.mul_pos (show 0 < divisor by omega) (show 0 < grid.b ^ last.toNat by have := pow_pos' e0 last.toNat; omega); omega) e3).mono (by decide)) | (rw [hwv]; exact (rq_sz mode (by omega) (Sz.mul e3 (by rw [hpv]; exact hzp _ (by omega) : Sz 6001 pv))).mono (by decide))), fun rr G5 p5 q5 hrr => ⟨rfl, ?_⟩⟩
        exact k _ _ _ (s2.trans (s3.trans (s4.trans (k5 _ p5)))) q5 (by refine .inr ⟨c1, rp, pl_abs hrp0, ?_⟩; rw [← hlast, hrr]; unfold rqs; first | (rw [if_pos (by assumption), hwh, hpw]) | (rw [if_neg (by assumption), hwv, hpv]))
      ·
        refine i_asg <| i_call <| i_cons <| i_op <| v1 <| i_call <| i_cons <| i_fld <| v0 <| i_fldI (same_ins s2 a0) T.cls_Grid T.na_Grid_base rfl <| i_cons <| i_un <| v4 <| i_U <| i_nil <| ⟨_, _, rfl, (by first | assumption | omega | rfl | exact Sz.zero | exact Sz.sm (by omega) (by omega) (by decide) | exact Sz.mono (by assumption) (by decide)), (by omega), (by unfold Sz; omega), fun pv H6 s6 hpv => ?_⟩
        refine i_I (by exact mulx (a := 600) (b := 6001) e3 (by rw [hpv]; exact hzp _ (by omega))) <| i_cons <| v2 <| i_cons <| v3 <| i_nil <| ⟨_, _, _, rfl, (by omega), (by exact e4.mono (by decide)), (by first | assumption | omega | rfl | exact Sz.zero | exact Sz.sm (by omega) (by omega) (by decide) | exact Sz.mono (by assumption) (by decide)), fun wv H7 s7 hwv => ?_⟩
        refine n5 <| i_nx <| i_ret <| i_make <| i_cons <| i_fld <| v0 <| i_fldI (same_ins (s2.trans (s6.trans s7)) a0) T.cls_Grid T.na_Grid_base rfl <| i_cons <| v5 <| i_cons <| v4 <| i_nil <| i_madeN (fun xo8 H8 hn8 k8 i8 => ?_)
        refine ⟨xo8, _, _, _, rfl, i8, (by first | assumption | omega | rfl | exact Sz.zero | exact Sz.sm (by omega) (by omega) (by decide) | exact Sz.mono (by assumption) (by decide)), (by first | assumption | omega | rfl | exact Sz.zero | exact Sz.sm (by omega) (by omega) (by decide) | exact Sz.mono (by assumption) (by decide)), (by first | (rw [hwh]; exact (rq_sz mode (by rw [hpw]; have := Int.mul_pos (show 0 < divisor by omega) (show 0 < grid.b ^ last.toNat by have := pow_pos' e0 last.toNat; omega); omega) e3).mono (by decide)) | (rw [hwv]; exact (rq_sz mode (by omega) (Sz.mul e3 (by rw [hpv]; exact hzp _ (by omega) : Sz 6001 pv))).mono (by decide))), fun rr G8 p8 q8 hrr => ⟨rfl, ?_⟩⟩
        exact k _ _ _ (s2.trans (s6.trans (s7.trans (k8 _ p8)))) q8 (by refine .inr ⟨c1, rp, pl_abs hrp0, ?_⟩; rw [← hlast, hrr]; unfold rqs; first | (rw [if_pos (by assumption), hwh, hpw]) | (rw [if_neg (by assumption), hwv, hpv]))

/-! converted -/
def sp_converted (K : PySem.W.Frag) : Sp := fun vs H Q _ => ∃ (valueA : Addr) (value : EN) (gridA : Addr) (grid : GR) (mode : Str), vs = [V.ref valueA, V.ref gridA, V.str mode] ∧ IsI (He.ga K "Exact") H valueA (exF value) ∧ IsI (He.ga K "Grid") H gridA (grF grid) ∧ (2 ≤ value.b) ∧ (value.b ≤ 36) ∧ (-1000 ≤ value.e) ∧ (value.e ≤ 1000) ∧ (Sz 600 value.c) ∧ (Sz 600 (cnE value)) ∧ (Sz 600 (cdE value)) ∧ (2 ≤ grid.b) ∧ (grid.b ≤ 36) ∧ (3 ≤ grid.p) ∧ (grid.p ≤ 200) ∧ (grid.o = none) ∧ (grid.t = none) ∧ (mode ∈ modes9) ∧ ∀ (rA : Addr) (r : EN) (H' : Hp), Same H H' → IsI (He.ga K "Exact") H' rA (exF r) → (Rt grid.b grid.p (cnE value) (cdE value) mode r) → Q (V.ref rA) H'
abbrev s_converted : Stmt := top 40
theorem sc_converted : FnScope ["value", "grid", "mode", "whole"] ["value", "grid", "mode"] (defScope s_converted) := ⟨rfl, rfl, rfl, by decide +kernel, rfl, by decide +kernel, by decide +kernel⟩
theorem vis_converted : visB ["value", "grid", "mode", "whole"] (defScope s_converted) = true := by decide +kernel
theorem gl_converted : glB ["check_mode", "check_free", "power", "rounded_ratio"] (defScope s_converted) = true := by decide +kernel
theorem fn_converted {P : Program} {w : World} {K : PySem.W.Frag} {mg : Str → Option Value} {hp9 : Heap} (T : Txt P w K mg) {fd : FuncData} (F : FunD K "converted" "converted" (defArgs (s_converted)) (defBody (s_converted)) (defScope (s_converted)) [V.str "nearest-even"] [] (He.fAd K ("converted", none)) fd) : FnOk P w K mg hp9 (L2N.CX P w) 6 (He.fAd K ("converted", none)) fd ["value", "grid", "mode"] (sp_converted K) := by
  have sc := sc_converted; have vis := vis_converted; have gls := gl_converted
  refine F.ok sc (fun vs H Q E h => ?_) (fun cdv A outer s H0 vs Q E hr h => ?_)
  · obtain ⟨valueA, value, gridA, grid, mode, rfl, _⟩ := h; rfl
  · obtain ⟨valueA, value, gridA, grid, mode, rfl, a0, a1, e0, e1, e2, e3, e4, e5, e6, e7, e8, e9, e10, e11, e12, e13, k⟩ := h
    refine ⟨_, PSs.nox (pss_cons (ps_expr (pcD (ok_check_mode T) (hr.mono (by decide)) gls 0 T.g_check_mode (pa_cons (pn vis 2) pa_nil))) (pss_cons (ps_expr (pcD (ok_check_free T) (hr.mono (by decide)) gls 1 T.g_check_free (pa_cons (pn vis 1) pa_nil))) (pss_cons (ps_if (pt_cmpR op_ge (pe_fld (pn vis 0) rfl) pe_int (nomark _)) (pss_cons (ps_set (i := 3) sc.nd rfl (.inl rfl) (pe_op op_mulX (pe_fld (pn vis 0) rfl) (pcD (ok_power T) (hr.mono (by decide)) gls 2 T.g_power (pa_cons (pe_fld (pn vis 0) rfl) (pa_cons (pe_fld (pn vis 0) rfl) pa_nil))))) (pss_one (ps_ret (pcD (ok_rounded_ratio T) (hr.mono (by decide)) gls 3 T.g_rounded_ratio (pa_cons (pn vis 1) (pa_cons (pn vis 3) (pa_cons pe_int (pa_cons (pn vis 2) pa_nil)))))))) pss_nil) (pss_one (ps_ret (pcD (ok_rounded_ratio T) (hr.mono (by decide)) gls 3 T.g_rounded_ratio (pa_cons (pn vis 1) (pa_cons (pe_fld (pn vis 0) rfl) (pa_cons (pcD (ok_power T) (hr.mono (by decide)) gls 2 T.g_power (pa_cons (pe_fld (pn vis 0) rfl) (pa_cons (pe_un un_neg (pe_fld (pn vis 0) rfl)) pa_nil))) (pa_cons (pn vis 2) pa_nil)))))))))), ?_⟩
    refine i_start (σ' := [some (V.ref valueA), some (V.ref gridA), some (V.str mode), none]) rfl ?_
    refine i_seq <| i_drop <| i_call <| i_cons <| v2 <| i_nil <| ⟨_, rfl, (by assumption), fun H2 s2 => ?_⟩
    refine i_nx <| i_seq <| i_drop <| i_call <| i_cons <| v1 <| i_nil <| ⟨_, _, rfl, (same_ins s2 a1), (by first | assumption | omega | rfl | exact Sz.zero | exact Sz.sm (by omega) (by omega) (by decide) | exact Sz.mono (by assumption) (by decide)), (by first | assumption | omega | rfl | exact Sz.zero | exact Sz.sm (by omega) (by omega) (by decide) | exact Sz.mono (by assumption) (by decide)), fun H4 s4 => ?_⟩
    refine i_nx <| i_seq <| i_if <| i_test <| i_op <| i_fld <| v0 <| i_fldI (same_ins (s2.trans s4) a0) T.cls_Exact T.na_Exact_exponent rfl <| i_c <| i_I0 <| i_bl <| i_ite (fun c3 => ?_) (fun c3 => ?_)
    ·
      refine i_seq <| i_asg <| i_op <| i_fld <| v0 <| i_fldI (same_ins (s2.trans s4) a0) T.cls_Exact T.na_Exact_coefficient rfl <| i_call <| i_cons <| i_fld <| v0 <| i_fldI (same_ins (s2.trans s4) a0) T.cls_Exact T.na_Exact_base rfl <| i_cons <| i_fld <| v0 <| i_fldI (same_ins (s2.trans s4) a0) T.cls_Exact T.na_Exact_exponent rfl <| i_nil <| ⟨_, _, rfl, (by first | assumption | omega | rfl | exact Sz.zero | exact Sz.sm (by omega) (by omega) (by decide) | exact Sz.mono (by assumption) (by decide)), (by omega), (by unfold Sz; omega), fun pw H5 s5 hpw => ?_⟩
      refine i_I (by exact mulx (a := 600) (b := 6001) e4 (by rw [hpw]; exact (Sz.pow36 e0 e1 _).mono (by omega))) <| nI3 (fun whole hwhole => ?_)
      refine i_nx <| ?_
      have hcn : cnE value = whole := by unfold cnE; rw [if_pos (by assumption), hwhole, hpw]
      have hcd : cdE value = 1 := by unfold cdE; rw [if_pos (by assumption)]
      refine i_ret <| i_call <| i_cons <| v1 <| i_cons <| v3 <| i_cons <| i_c <| i_cons <| v2 <| i_nil <| ⟨_, _, _, _, _, rfl, (same_ins (s2.trans (s4.trans s5)) a1), (by first | assumption | omega | rfl | exact Sz.zero | exact Sz.sm (by omega) (by omega) (by decide) | exact Sz.mono (by assumption) (by decide)), (by first | assumption | omega | rfl | exact Sz.zero | exact Sz.sm (by omega) (by omega) (by decide) | exact Sz.mono (by assumption) (by decide)), (by first | assumption | omega | rfl | exact Sz.zero | exact Sz.sm (by omega) (by omega) (by decide) | exact Sz.mono (by assumption) (by decide)), (by rw [← hcn]; exact e5), (by exact Sz.sm (by decide) (by decide) (by decide)), (by first | assumption | omega | rfl | exact Sz.zero | exact Sz.sm (by omega) (by omega) (by decide) | exact Sz.mono (by assumption) (by decide)), (by first | assumption | omega | rfl | exact Sz.zero | exact Sz.sm (by omega) (by omega) (by decide) | exact Sz.mono (by assumption) (by decide)), (by first | assumption | omega | rfl | exact Sz.zero | exact Sz.sm (by omega) (by omega) (by decide) | exact Sz.mono (by assumption) (by decide)), fun rrA rr H6 s6 f6_0 hrr => ?_⟩
      exact k _ _ _ (s2.trans (s4.trans (s5.trans s6))) f6_0 (by rw [hcn, hcd]; exact hrr)
    ·
      refine i_next <| i_nx <| ?_
      have hcn : cnE value = value.c := by unfold cnE; rw [if_neg (by assumption)]
      have hcd : cdE value = value.b ^ (-value.e).toNat := by unfold cdE; rw [if_neg (by assumption)]
      refine i_ret <| i_call <| i_cons <| v1 <| i_cons <| i_fld <| v0 <| i_fldI (same_ins (s2.trans s4) a0) T.cls_Exact T.na_Exact_coefficient rfl <| i_cons <| i_call <| i_cons <| i_fld <| v0 <| i_fldI (same_ins (s2.trans s4) a0) T.cls_Exact T.na_Exact_base rfl <| i_cons <| i_un <| i_fld <| v0 <| i_fldI (same_ins (s2.trans s4) a0) T.cls_Exact T.na_Exact_exponent rfl <| i_U <| i_nil <| ⟨_, _, rfl, (by first | assumption | omega | rfl | exact Sz.zero | exact Sz.sm (by omega) (by omega) (by decide) | exact Sz.mono (by assumption) (by decide)), (by omega), (by unfold Sz; omega), fun pv H7 s7 hpv => ?_⟩
      refine i_cons <| v2 <| i_nil <| ⟨_, _, _, _, _, rfl, (same_ins (s2.trans (s4.trans s7)) a1), (by first | assumption | omega | rfl | exact Sz.zero | exact Sz.sm (by omega) (by omega) (by decide) | exact Sz.mono (by assumption) (by decide)), (by first | assumption | omega | rfl | exact Sz.zero | exact Sz.sm (by omega) (by omega) (by decide) | exact Sz.mono (by assumption) (by decide)), (by rw [hpv]; have := pow_pos' e0 (-value.e).toNat; omega), (by first | assumption | omega | rfl | exact Sz.zero | exact Sz.sm (by omega) (by omega) (by decide) | exact Sz.mono (by assumption) (by decide)), (by rw [hpv, ← hcd]; exact e6), (by first | assumption | omega | rfl | exact Sz.zero | exact Sz.sm (by omega) (by omega) (by decide) | exact Sz.mono (by assumption) (by decide)), (by first | assumption | omega | rfl | exact Sz.zero | exact Sz.sm (by omega) (by omega) (by decide) | exact Sz.mono (by assumption) (by decide)), (by first | assumption | omega | rfl | exact Sz.zero | exact Sz.sm (by omega) (by omega) (by decide) | exact Sz.mono (by assumption) (by decide)), fun rsA rs H8 s8 f8_0 hrs => ?_⟩
      exact k _ _ _ (s2.trans (s4.trans (s7.trans s8))) f8_0 (by rw [hcn, hcd, ← hpv]; exact hrs)
theorem ok_converted_d0 {P : Program} {w : World} {K : PySem.W.Frag} {mg : Str → Option Value} {hp9 : Heap} (T : Txt P w K mg) : OkD P w K mg hp9 6 (He.fAd K ("converted", none)) ["value", "grid", "mode"] [V.str "nearest-even"] (sp_converted K) := by
  obtain ⟨fd, F⟩ := T.d_converted
  exact OkD.dfl F 2 0 (by simp) rfl (fun T0 kV doc pm an cdv ct us its h1 h2 => by
    match us, h1, its, h2 with
    | [u0, u1], _, [z0], _ => exact ⟨_, rfl, rfl⟩) (fn_converted T F)
theorem ok_converted {P : Program} {w : World} {K : PySem.W.Frag} {mg : Str → Option Value} {hp9 : Heap} (T : Txt P w K mg) : OkD P w K mg hp9 6 (He.fAd K ("converted", none)) ["value", "grid", "mode"] [] (sp_converted K) := by
  obtain ⟨fd, F⟩ := T.d_converted
  exact OkD.dfl F 3 1 (by simp) rfl (fun T0 kV doc pm an cdv ct us its h1 h2 => by
    match us, h1, its, h2 with
    | [u0, u1, u2], _, [z0], _ => exact ⟨_, rfl, rfl⟩) (fn_converted T F)

/-! converted@mode -/
def sp_converted_mode (K : PySem.W.Frag) : Sp := fun vs H Q E => ∃ (valueA : Addr) (value : EN) (gridA : Addr) (grid : GR) (mode : Str), vs = [V.ref valueA, V.ref gridA, V.str mode] ∧ IsI (He.ga K "Exact") H valueA (exF value) ∧ IsI (He.ga K "Grid") H gridA (grF grid) ∧ (mode ∉ modes9) ∧ ∀ (d : Addr) (H' : Hp), Same H H' → H' d = some (.xd [("mode", V.str mode)]) → E (.ref (He.ga K "BadMode")) (some d) H'
abbrev s_converted_mode : Stmt := top 40
theorem sc_converted_mode : FnScope ["value", "grid", "mode", "whole"] ["value", "grid", "mode"] (defScope s_converted_mode) := ⟨rfl, rfl, rfl, by decide +kernel, rfl, by decide +kernel, by decide +kernel⟩
theorem vis_converted_mode : visB ["value", "grid", "mode", "whole"] (defScope s_converted_mode) = true := by decide +kernel
theorem gl_converted_mode : glB ["check_mode"] (defScope s_converted_mode) = true := by decide +kernel
theorem fn_converted_mode {P : Program} {w : World} {K : PySem.W.Frag} {mg : Str → Option Value} {hp9 : Heap} (T : Txt P w K mg) {fd : FuncData} (F : FunD K "converted" "converted" (defArgs (s_converted_mode)) (defBody (s_converted_mode)) (defScope (s_converted_mode)) [V.str "nearest-even"] [] (He.fAd K ("converted", none)) fd) : FnOk P w K mg hp9 (L2N.CX P w) 3 (He.fAd K ("converted", none)) fd ["value", "grid", "mode"] (sp_converted_mode K) := by
  have sc := sc_converted_mode; have vis := vis_converted_mode; have gls := gl_converted_mode
  refine F.ok sc (fun vs H Q E h => ?_) (fun cdv A outer s H0 vs Q E hr h => ?_)
  · obtain ⟨valueA, value, gridA, grid, mode, rfl, _⟩ := h; rfl
  · obtain ⟨valueA, value, gridA, grid, mode, rfl, a0, a1, e0, k⟩ := h
    refine ⟨_, (pss_cons (ps_expr (pcW (ok_check_mode_bad T) (hr.mono (by decide)) gls 0 T.g_check_mode takes_cx (pa_cons (pn vis 2) pa_nil))) pss_never), ?_⟩
    refine i_start (σ' := [some (V.ref valueA), some (V.ref gridA), some (V.str mode), none]) rfl ?_
    refine i_seq <| i_drop <| i_callW <| i_cons <| v2 <| i_nil <| ⟨_, rfl, (by first | assumption | omega | rfl | exact Sz.zero | exact Sz.sm (by omega) (by omega) (by decide) | exact Sz.mono (by assumption) (by decide)), fun d2 H2 s2 xf2 => ?_⟩
    exact k _ _ s2 xf2
theorem ok_converted_mode_d0 {P : Program} {w : World} {K : PySem.W.Frag} {mg : Str → Option Value} {hp9 : Heap} (T : Txt P w K mg) : OkD P w K mg hp9 3 (He.fAd K ("converted", none)) ["value", "grid", "mode"] [V.str "nearest-even"] (sp_converted_mode K) := by
  obtain ⟨fd, F⟩ := T.d_converted
  exact OkD.dfl F 2 0 (by simp) rfl (fun T0 kV doc pm an cdv ct us its h1 h2 => by
    match us, h1, its, h2 with
    | [u0, u1], _, [z0], _ => exact ⟨_, rfl, rfl⟩) (fn_converted_mode T F)
theorem ok_converted_mode {P : Program} {w : World} {K : PySem.W.Frag} {mg : Str → Option Value} {hp9 : Heap} (T : Txt P w K mg) : OkD P w K mg hp9 3 (He.fAd K ("converted", none)) ["value", "grid", "mode"] [] (sp_converted_mode K) := by
  obtain ⟨fd, F⟩ := T.d_converted
  exact OkD.dfl F 3 1 (by simp) rfl (fun T0 kV doc pm an cdv ct us its h1 h2 => by
    match us, h1, its, h2 with
    | [u0, u1, u2], _, [z0], _ => exact ⟨_, rfl, rfl⟩) (fn_converted_mode T F)

/-! converted@grid -/
def sp_converted_grid (K : PySem.W.Frag) : Sp := fun vs H Q E => ∃ (valueA : Addr) (value : EN) (gridA : Addr) (grid : GR) (mode : Str), vs = [V.ref valueA, V.ref gridA, V.str mode] ∧ IsI (He.ga K "Exact") H valueA (exF value) ∧ IsI (He.ga K "Grid") H gridA (grF grid) ∧ (mode ∈ modes9) ∧ (grid.o ≠ none ∨ grid.t ≠ none) ∧ ∀ (d : Addr) (H' : Hp), Same H H' → H' d = some (.xd [("what", V.str "borders")]) → E (.ref (He.ga K "BadGrid")) (some d) H'
abbrev s_converted_grid : Stmt := top 40
theorem sc_converted_grid : FnScope ["value", "grid", "mode", "whole"] ["value", "grid", "mode"] (defScope s_converted_grid) := ⟨rfl, rfl, rfl, by decide +kernel, rfl, by decide +kernel, by decide +kernel⟩
theorem vis_converted_grid : visB ["value", "grid", "mode", "whole"] (defScope s_converted_grid) = true := by decide +kernel
theorem gl_converted_grid : glB ["check_mode", "check_free"] (defScope s_converted_grid) = true := by decide +kernel
theorem fn_converted_grid {P : Program} {w : World} {K : PySem.W.Frag} {mg : Str → Option Value} {hp9 : Heap} (T : Txt P w K mg) {fd : FuncData} (F : FunD K "converted" "converted" (defArgs (s_converted_grid)) (defBody (s_converted_grid)) (defScope (s_converted_grid)) [V.str "nearest-even"] [] (He.fAd K ("converted", none)) fd) : FnOk P w K mg hp9 (L2N.CX P w) 3 (He.fAd K ("converted", none)) fd ["value", "grid", "mode"] (sp_converted_grid K) := by
  have sc := sc_converted_grid; have vis := vis_converted_grid; have gls := gl_converted_grid
  refine F.ok sc (fun vs H Q E h => ?_) (fun cdv A outer s H0 vs Q E hr h => ?_)
  · obtain ⟨valueA, value, gridA, grid, mode, rfl, _⟩ := h; rfl
  · obtain ⟨valueA, value, gridA, grid, mode, rfl, a0, a1, e0, e1, k⟩ := h
    refine ⟨_, (pss_cons (ps_expr (pcW (ok_check_mode T) (hr.mono (by decide)) gls 0 T.g_check_mode takes_cx (pa_cons (pn vis 2) pa_nil))) (pss_cons (ps_expr (pcW (ok_check_free_bad T) (hr.mono (by decide)) gls 1 T.g_check_free takes_cx (pa_cons (pn vis 1) pa_nil))) pss_never)), ?_⟩
    refine i_start (σ' := [some (V.ref valueA), some (V.ref gridA), some (V.str mode), none]) rfl ?_
    refine i_seq <| i_drop <| i_callW <| i_cons <| v2 <| i_nil <| ⟨_, rfl, (by first | assumption | omega | rfl | exact Sz.zero | exact Sz.sm (by omega) (by omega) (by decide) | exact Sz.mono (by assumption) (by decide)), fun H2 s2 => ?_⟩
    refine i_nx <| i_seq <| i_drop <| i_callW <| i_cons <| v1 <| i_nil <| ⟨_, _, rfl, (same_ins s2 a1), (by first | assumption | omega | rfl | exact Sz.zero | exact Sz.sm (by omega) (by omega) (by decide) | exact Sz.mono (by assumption) (by decide)), fun d4 H4 s4 xf4 => ?_⟩
    exact k _ _ (s2.trans s4) xf4
theorem ok_converted_grid_d0 {P : Program} {w : World} {K : PySem.W.Frag} {mg : Str → Option Value} {hp9 : Heap} (T : Txt P w K mg) : OkD P w K mg hp9 3 (He.fAd K ("converted", none)) ["value", "grid", "mode"] [V.str "nearest-even"] (sp_converted_grid K) := by
  obtain ⟨fd, F⟩ := T.d_converted
  exact OkD.dfl F 2 0 (by simp) rfl (fun T0 kV doc pm an cdv ct us its h1 h2 => by
    match us, h1, its, h2 with
    | [u0, u1], _, [z0], _ => exact ⟨_, rfl, rfl⟩) (fn_converted_grid T F)
theorem ok_converted_grid {P : Program} {w : World} {K : PySem.W.Frag} {mg : Str → Option Value} {hp9 : Heap} (T : Txt P w K mg) : OkD P w K mg hp9 3 (He.fAd K ("converted", none)) ["value", "grid", "mode"] [] (sp_converted_grid K) := by
  obtain ⟨fd, F⟩ := T.d_converted
  exact OkD.dfl F 3 1 (by simp) rfl (fun T0 kV doc pm an cdv ct us its h1 h2 => by
    match us, h1, its, h2 with
    | [u0, u1, u2], _, [z0], _ => exact ⟨_, rfl, rfl⟩) (fn_converted_grid T F)

/-! digits_enough -/
def sp_digits_enough (K : PySem.W.Frag) : Sp := fun vs H Q _ => ∃ (gridA : Addr) (grid : GR) (base : Int), vs = [V.ref gridA, V.int base] ∧ IsI (He.ga K "Grid") H gridA (grF grid) ∧ (2 ≤ grid.b) ∧ (grid.b ≤ 36) ∧ (3 ≤ grid.p) ∧ (grid.p ≤ 200) ∧ (grid.o = none) ∧ (grid.t = none) ∧ (2 ≤ base) ∧ (base ≤ 36) ∧ ∀ (r : Int) (H' : Hp), Same H H' → (IsDg base (grid.b ^ grid.p.toNat) (r - 1)) → Q (V.int r) H'
abbrev s_digits_enough : Stmt := top 41
theorem sc_digits_enough : FnScope ["grid", "base"] ["grid", "base"] (defScope s_digits_enough) := ⟨rfl, rfl, rfl, by decide +kernel, rfl, by decide +kernel, by decide +kernel⟩
theorem vis_digits_enough : visB ["grid", "base"] (defScope s_digits_enough) = true := by decide +kernel
theorem gl_digits_enough : glB ["check_free", "check_base", "power", "count_digits"] (defScope s_digits_enough) = true := by decide +kernel
theorem ok_digits_enough {P : Program} {w : World} {K : PySem.W.Frag} {mg : Str → Option Value} {hp9 : Heap} (T : Txt P w K mg) : OkD P w K mg hp9 3 (He.fAd K ("digits_enough", none)) ["grid", "base"] [] (sp_digits_enough K) := by
  obtain ⟨fd, F⟩ := T.d_digits_enough
  refine ⟨fd, [], F.kp, F.bindsN (fun _ _ _ _ _ _ us hl => match us, hl with | [_, _], _ => rfl), .nil, ?_⟩
  have sc := sc_digits_enough; have vis := vis_digits_enough; have gls := gl_digits_enough
  refine F.ok sc (fun vs H Q E h => ?_) (fun cdv A outer s H0 vs Q E hr h => ?_)
  · obtain ⟨gridA, grid, base, rfl, _⟩ := h; rfl
  · obtain ⟨gridA, grid, base, rfl, a0, e0, e1, e2, e3, e4, e5, e6, e7, k⟩ := h
    refine ⟨_, PSs.nox (pss_cons (ps_expr (pcD (ok_check_free T) (hr.mono (by decide)) gls 0 T.g_check_free (pa_cons (pn vis 0) pa_nil))) (pss_cons (ps_expr (pcD (ok_check_base T) (hr.mono (by decide)) gls 1 T.g_check_base (pa_cons (pn vis 1) pa_nil))) (pss_one (ps_ret (pe_op op_add (pcD (ok_count_digits T) (hr.mono (by decide)) gls 3 T.g_count_digits (pa_cons (pn vis 1) (pa_cons (pcD (ok_power T) (hr.mono (by decide)) gls 2 T.g_power (pa_cons (pe_fld (pn vis 0) rfl) (pa_cons (pe_fld (pn vis 0) rfl) pa_nil))) pa_nil))) pe_int))))), ?_⟩
    refine i_start (σ' := [some (V.ref gridA), some (V.int base)]) rfl ?_
    refine i_seq <| i_drop <| i_call <| i_cons <| v0 <| i_nil <| ⟨_, _, rfl, a0, (by first | assumption | omega | rfl | exact Sz.zero | exact Sz.sm (by omega) (by omega) (by decide) | exact Sz.mono (by assumption) (by decide)), (by first | assumption | omega | rfl | exact Sz.zero | exact Sz.sm (by omega) (by omega) (by decide) | exact Sz.mono (by assumption) (by decide)), fun H2 s2 => ?_⟩
    refine i_nx <| i_seq <| i_drop <| i_call <| i_cons <| v1 <| i_nil <| ⟨_, rfl, (by first | assumption | omega | rfl | exact Sz.zero | exact Sz.sm (by omega) (by omega) (by decide) | exact Sz.mono (by assumption) (by decide)), (by first | assumption | omega | rfl | exact Sz.zero | exact Sz.sm (by omega) (by omega) (by decide) | exact Sz.mono (by assumption) (by decide)), fun H4 s4 => ?_⟩
    refine i_nx <| i_ret <| i_op <| i_call <| i_cons <| v1 <| i_cons <| i_call <| i_cons <| i_fld <| v0 <| i_fldI (same_ins (s2.trans s4) a0) T.cls_Grid T.na_Grid_base rfl <| i_cons <| i_fld <| v0 <| i_fldI (same_ins (s2.trans s4) a0) T.cls_Grid T.na_Grid_precision rfl <| i_nil <| ⟨_, _, rfl, (by first | assumption | omega | rfl | exact Sz.zero | exact Sz.sm (by omega) (by omega) (by decide) | exact Sz.mono (by assumption) (by decide)), (by omega), (by unfold Sz; omega), fun pw H5 s5 hpw => ?_⟩
    refine i_nil <| ⟨_, _, rfl, (by first | assumption | omega | rfl | exact Sz.zero | exact Sz.sm (by omega) (by omega) (by decide) | exact Sz.mono (by assumption) (by decide)), (by rw [hpw]; exact (Sz.pow36 e0 e1 _).mono (by omega)), fun cd H6 s6 hcd => ?_⟩
    refine i_c <| i_I0 <| ?_
    exact k _ _ (s2.trans (s4.trans (s5.trans s6))) (by rw [show cd + 1 - 1 = cd by omega, ← hpw]; exact hcd)

/-! digits_enough@grid -/
def sp_digits_enough_grid (K : PySem.W.Frag) : Sp := fun vs H Q E => ∃ (gridA : Addr) (grid : GR) (base : Int), vs = [V.ref gridA, V.int base] ∧ IsI (He.ga K "Grid") H gridA (grF grid) ∧ (grid.o ≠ none ∨ grid.t ≠ none) ∧ ∀ (d : Addr) (H' : Hp), Same H H' → H' d = some (.xd [("what", V.str "borders")]) → E (.ref (He.ga K "BadGrid")) (some d) H'
abbrev s_digits_enough_grid : Stmt := top 41
theorem sc_digits_enough_grid : FnScope ["grid", "base"] ["grid", "base"] (defScope s_digits_enough_grid) := ⟨rfl, rfl, rfl, by decide +kernel, rfl, by decide +kernel, by decide +kernel⟩
theorem vis_digits_enough_grid : visB ["grid", "base"] (defScope s_digits_enough_grid) = true := by decide +kernel
theorem gl_digits_enough_grid : glB ["check_free"] (defScope s_digits_enough_grid) = true := by decide +kernel
theorem ok_digits_enough_grid {P : Program} {w : World} {K : PySem.W.Frag} {mg : Str → Option Value} {hp9 : Heap} (T : Txt P w K mg) : OkD P w K mg hp9 3 (He.fAd K ("digits_enough", none)) ["grid", "base"] [] (sp_digits_enough_grid K) := by
  obtain ⟨fd, F⟩ := T.d_digits_enough
  refine ⟨fd, [], F.kp, F.bindsN (fun _ _ _ _ _ _ us hl => match us, hl with | [_, _], _ => rfl), .nil, ?_⟩
  have sc := sc_digits_enough_grid; have vis := vis_digits_enough_grid; have gls := gl_digits_enough_grid
  refine F.ok sc (fun vs H Q E h => ?_) (fun cdv A outer s H0 vs Q E hr h => ?_)
  · obtain ⟨gridA, grid, base, rfl, _⟩ := h; rfl
  · obtain ⟨gridA, grid, base, rfl, a0, e0, k⟩ := h
    refine ⟨_, (pss_cons (ps_expr (pcW (ok_check_free_bad T) (hr.mono (by decide)) gls 0 T.g_check_free takes_cx (pa_cons (pn vis 0) pa_nil))) pss_never), ?_⟩
    refine i_start (σ' := [some (V.ref gridA), some (V.int base)]) rfl ?_
    refine i_seq <| i_drop <| i_callW <| i_cons <| v0 <| i_nil <| ⟨_, _, rfl, a0, (by first | assumption | omega | rfl | exact Sz.zero | exact Sz.sm (by omega) (by omega) (by decide) | exact Sz.mono (by assumption) (by decide)), fun d2 H2 s2 xf2 => ?_⟩
    exact k _ _ s2 xf2

/-! digits_enough@base -/
def sp_digits_enough_base (K : PySem.W.Frag) : Sp := fun vs H Q E => ∃ (gridA : Addr) (grid : GR) (base : Int), vs = [V.ref gridA, V.int base] ∧ IsI (He.ga K "Grid") H gridA (grF grid) ∧ (grid.o = none) ∧ (grid.t = none) ∧ (¬ (2 ≤ base ∧ base ≤ 36)) ∧ ∀ (d : Addr) (H' : Hp), Same H H' → H' d = some (.xd [("base", V.int base)]) → E (.ref (He.ga K "BadBase")) (some d) H'
abbrev s_digits_enough_base : Stmt := top 41
theorem sc_digits_enough_base : FnScope ["grid", "base"] ["grid", "base"] (defScope s_digits_enough_base) := ⟨rfl, rfl, rfl, by decide +kernel, rfl, by decide +kernel, by decide +kernel⟩
theorem vis_digits_enough_base : visB ["grid", "base"] (defScope s_digits_enough_base) = true := by decide +kernel
theorem gl_digits_enough_base : glB ["check_free", "check_base"] (defScope s_digits_enough_base) = true := by decide +kernel
theorem ok_digits_enough_base {P : Program} {w : World} {K : PySem.W.Frag} {mg : Str → Option Value} {hp9 : Heap} (T : Txt P w K mg) : OkD P w K mg hp9 3 (He.fAd K ("digits_enough", none)) ["grid", "base"] [] (sp_digits_enough_base K) := by
  obtain ⟨fd, F⟩ := T.d_digits_enough
  refine ⟨fd, [], F.kp, F.bindsN (fun _ _ _ _ _ _ us hl => match us, hl with | [_, _], _ => rfl), .nil, ?_⟩
  have sc := sc_digits_enough_base; have vis := vis_digits_enough_base; have gls := gl_digits_enough_base
  refine F.ok sc (fun vs H Q E h => ?_) (fun cdv A outer s H0 vs Q E hr h => ?_)
  · obtain ⟨gridA, grid, base, rfl, _⟩ := h; rfl
  · obtain ⟨gridA, grid, base, rfl, a0, e0, e1, e2, k⟩ := h
    refine ⟨_, (pss_cons (ps_expr (pcW (ok_check_free T) (hr.mono (by decide)) gls 0 T.g_check_free takes_cx (pa_cons (pn vis 0) pa_nil))) (pss_cons (ps_expr (pcW (ok_check_base_bad T) (hr.mono (by decide)) gls 1 T.g_check_base takes_cx (pa_cons (pn vis 1) pa_nil))) pss_never)), ?_⟩
    refine i_start (σ' := [some (V.ref gridA), some (V.int base)]) rfl ?_
    refine i_seq <| i_drop <| i_callW <| i_cons <| v0 <| i_nil <| ⟨_, _, rfl, a0, (by first | assumption | omega | rfl | exact Sz.zero | exact Sz.sm (by omega) (by omega) (by decide) | exact Sz.mono (by assumption) (by decide)), (by first | assumption | omega | rfl | exact Sz.zero | exact Sz.sm (by omega) (by omega) (by decide) | exact Sz.mono (by assumption) (by decide)), fun H2 s2 => ?_⟩
    refine i_nx <| i_seq <| i_drop <| i_callW <| i_cons <| v1 <| i_nil <| ⟨_, rfl, (by first | assumption | omega | rfl | exact Sz.zero | exact Sz.sm (by omega) (by omega) (by decide) | exact Sz.mono (by assumption) (by decide)), fun d4 H4 s4 xf4 => ?_⟩
    exact k _ _ (s2.trans s4) xf4

/-! _law_draw -/
def sp__law_draw (K : PySem.W.Frag) : Sp := fun vs H Q _ => ∃ (sourceA : Addr) (many : Int), vs = [V.ref sourceA, V.int many] ∧ IsSrc H sourceA ∧ (0 < many) ∧ (Sz 8000 many) ∧ ∀ (r : Int) (H' : Hp), Z.Ext H H' → IsSrc H' sourceA → (0 ≤ r) → (r < many) → (∀ c, SrcAt H sourceA c → SrcAt H' sourceA c) → Q (V.int r) H'
abbrev s__law_draw : Stmt := top 44
theorem sc__law_draw : FnScope ["source", "many", "mixed", "cell", "size", "value"] ["source", "many"] (defScope s__law_draw) := ⟨rfl, rfl, rfl, by decide +kernel, rfl, by decide +kernel, by decide +kernel⟩
theorem vis__law_draw : visB ["source", "many", "mixed", "cell", "size", "value"] (defScope s__law_draw) = true := by decide +kernel
theorem gl__law_draw : glB ["len", "abs", "int"] (defScope s__law_draw) = true := by decide +kernel
theorem ok__law_draw {P : Program} {w : World} {K : PySem.W.Frag} {mg : Str → Option Value} {hp9 : Heap} (T : Txt P w K mg) : OkD P w K mg hp9 1 (He.fAd K ("_law_draw", none)) ["source", "many"] [] (sp__law_draw K) := by
  obtain ⟨fd, F⟩ := T.d__law_draw
  refine ⟨fd, [], F.kp, F.bindsN (fun _ _ _ _ _ _ us hl => match us, hl with | [_, _], _ => rfl), .nil, ?_⟩
  have sc := sc__law_draw; have vis := vis__law_draw; have gls := gl__law_draw
  refine F.ok sc (fun vs H Q E h => ?_) (fun cdv A outer s H0 vs Q E hr h => ?_)
  · obtain ⟨sourceA, many, rfl, _⟩ := h; rfl
  · obtain ⟨sourceA, many, rfl, a0, e0, e1, k⟩ := h
    refine ⟨_, PSs.nox (C8.pss_cut (ps_if (PW.pt (pw_and (pt_cmpR op_eqI (pe_ix ix_list (pn vis 0) pe_int (fun _ _ => rfl)) pe_int (nomark _)) (pw_and1 (pt_cmpR op_eqI (pe_ix ix_list (pn vis 0) pe_int (fun _ _ => rfl)) pe_int (nomark _))))) (pss_cons (ps_if (pt_cmpR op_ge (pe_ix ix_list (pn vis 0) pe_int (fun _ _ => rfl)) (pcB call_lenS gls 0 T.b_len PySem.boot_len (pa_cons (pe_ix ix_list (pn vis 0) pe_int (fun _ _ => rfl)) pa_nil)) (nomark _)) (pss_one (ps_ret pe_int)) pss_nil) (pss_cons (ps_set (i := 3) sc.nd rfl (.inl rfl) (pe_ix ix_list (pe_ix ix_list (pn vis 0) pe_int (fun _ _ => rfl)) (pe_ix ix_list (pn vis 0) pe_int (fun _ _ => rfl)) (fun _ _ => rfl))) (pss_cons (ps_asg (pe_op op_add (pe_ix ix_list (pn vis 0) pe_int (fun _ _ => rfl)) pe_int) (pg_sub (pn vis 0) pe_int set_list)) (pss_cons (ps_set (i := 4) sc.nd rfl (.inl rfl) (pe_op op_mul pe_int (pn vis 3))) (pss_cons (ps_if (pt_cmpR op_lt (pn vis 3) pe_int (nomark _)) (pss_one (ps_set (i := 4) sc.nd rfl (.inl rfl) (pe_op op_sub (pe_op op_sub pe_int (pe_op op_mul pe_int (pn vis 3))) pe_int))) pss_nil) (pss_one (ps_if (pt_cmpR op_ge (pcB call_absI gls 1 T.b_abs (by decide +kernel) (pa_cons (pn vis 3) pa_nil)) (pe_op op_pow pe_int pe_int) (nomark _)) (pss_one (ps_asg (pn vis 4) (pg_sub (pn vis 0) pe_int set_list))) (pss_cons (ps_asg (pn vis 4) (pg_sub (pn vis 0) pe_int set_list)) (pss_one (ps_asg pe_int (pg_sub (pn vis 0) pe_int set_list))))))))))) pss_nil) (pss_cons (ps_if (pt_cmpR op_gt (pe_ix ix_list (pn vis 0) pe_int (fun _ _ => rfl)) pe_int (nomark _)) (pss_cons (ps_set (i := 5) sc.nd rfl (.inl rfl) (pe_op op_mod (pcT call_intI gls 2 T.b_int boot_int (pa_cons (pe_ix ix_list (pn vis 0) pe_int (fun _ _ => rfl)) pa_nil)) (pn vis 1))) (pss_cons (ps_asg (pe_op op_fdivW (pe_ix ix_list (pn vis 0) pe_int (fun _ _ => rfl)) (pn vis 1)) (pg_sub (pn vis 0) pe_int set_list)) (pss_one (ps_ret (pn vis 5))))) pss_nil) (pss_cons (ps_asg (pe_op op_sub (pe_ix ix_list (pn vis 0) pe_int (fun _ _ => rfl)) pe_int) (pg_sub (pn vis 0) pe_int set_list)) (pss_cons (ps_set (i := 2) sc.nd rfl (.inl rfl) (pe_op op_mod (pcT call_intI gls 2 T.b_int boot_int (pa_cons (pe_op op_add (pe_op op_add (pe_op op_mul (pe_ix ix_list (pn vis 0) pe_int (fun _ _ => rfl)) pe_int) (pe_op op_mul (pe_ix ix_list (pn vis 0) pe_int (fun _ _ => rfl)) pe_int)) pe_int) pa_nil)) pe_int)) (pss_one (ps_ret (pe_op op_mod (pe_op op_mod (pcT call_intI gls 2 T.b_int boot_int (pa_cons (pe_op op_add (pe_op op_mul (pn vis 2) pe_int) (pe_op op_mul (pe_ix ix_list (pn vis 0) pe_int (fun _ _ => rfl)) pe_int)) pa_nil)) pe_int) (pn vis 1)))))))), ?_⟩
    refine i_start (σ' := [some (V.ref sourceA), some (V.int many), none, none, none, none]) rfl ?_
    refine i_cut (fun σ H' => ∃ (o1 : Option V) (o2 : Option V), σ = [some (V.ref sourceA), some (V.int many), none, o1, o2, none] ∧ Z.Ext H0 H' ∧ IsSrc H' sourceA ∧ (∀ c, SrcAt H0 sourceA c → SrcAt H' sourceA c)) ?_ ?_
    ·
      obtain ⟨i1, x1, y1, z1, cA1, cs1, fs1, fc1, hi1⟩ := a0
      refine i_if <| i_and <| i_test <| i_op <| i_op <| v0 <| i_c <| i_ixL (SqL.of fs1) (atI_nat (j := 1) rfl) <| i_c <| i_I0 <| i_bl <| i_ite (fun c1 => ?_) (fun c1 => ?_)
      ·
        refine i_test <| i_op <| i_op <| v0 <| i_c <| i_ixL (SqL.of fs1) (atI_nat (j := 3) rfl) <| i_c <| i_I0 <| i_bl <| i_ite (fun c1' => ?_) (fun c1' => ?_)
        ·
          refine i_seq <| i_if <| i_test <| i_op <| i_op <| v0 <| i_c <| i_ixL (SqL.of fs1) (atI_nat (j := 0) rfl) <| i_cb <| i_cons <| i_op <| v0 <| i_c <| i_ixL (SqL.of fs1) (atI_nat (j := 4) rfl) <| i_nil <| i_lenM (SqL.of fc1) <| i_I0 <| i_bl <| i_ite (fun c2 => ?_) (fun c2 => ?_)
          ·
            refine i_ret <| i_c <| ?_
            exact k _ _ (Z.Ext.refl _) ⟨_, _, _, _, _, _, fs1, fc1, (by omega)⟩ (by first | rfl | assumption | omega) (by first | rfl | assumption | omega) (by intro c hc; cases srcat_eq (by assumption) hc; exact ⟨_, _, _, _, fs1⟩)
          ·
            refine i_next <| i_nx <| i_seq <| ?_
            have q2 := c2; try rw [List.length_map] at q2
            obtain ⟨cell, _, hat⟩ := at_map (f := V.int) (xs := cs1) hi1 (by omega)
            refine i_asg <| i_op <| i_op <| v0 <| i_c <| i_ixL (SqL.of fs1) (atI_nat (j := 4) rfl) <| i_op <| v0 <| i_c <| i_ixL (SqL.of fs1) (atI_nat (j := 0) rfl) <| i_ixL (SqL.of fc1) hat <| n3 <| i_nx <| i_seq <| i_asg <| i_op <| i_op <| v0 <| i_c <| i_ixL (SqL.of fs1) (atI_nat (j := 0) rfl) <| i_c <| i_I0 <| i_gsub <| v0 <| i_c <| i_setL (j := 0) fs1 rfl (fun H2 f2 w2 => ?_)
            simp only [List.set_cons_succ, List.set_cons_zero] at f2
            have s2 : Z.Ext H0 H2 := ext_set fs1 w2 f2
            refine i_nx <| i_seq <| i_asg <| i_op <| i_c <| v3 <| i_I (by first | exact .inl ⟨by decide, by decide⟩ | exact .inr ⟨by decide, by decide⟩) <| n4 <| i_nx <| i_seq <| i_if <| i_test <| i_op <| v3 <| i_c <| i_I0 <| i_bl <| i_ite (fun c7 => ?_) (fun c7 => ?_)
            ·
              refine i_asg <| i_op <| i_op <| i_c <| i_op <| i_c <| v3 <| i_I (by first | exact .inl ⟨by decide, by decide⟩ | exact .inr ⟨by decide, by decide⟩) <| i_I0 <| i_c <| i_I0 <| n4 <| i_nx <| i_if <| i_test <| i_op <| i_cb <| i_cons <| v3 <| i_nil <| i_abs <| i_op <| i_c <| i_c <| i_I (by exact ⟨by decide, by decide, by decide⟩) <| i_I0 <| i_bl <| i_ite (fun c9 => ?_) (fun c9 => ?_)
              ·
                refine i_asg <| v4 <| i_gsub <| v0 <| i_c <| i_setL (j := 1) f2 rfl (fun H3 f3 w3 => ?_)
                simp only [List.set_cons_succ, List.set_cons_zero] at f3
                have s3 : Z.Ext H2 H3 := ext_set f2 w3 f3
                exact ⟨_, _, rfl, (s2.trans s3), ⟨_, _, _, _, _, _, f3, ((s2.trans s3) _ _ (stab_int _) fc1), (by omega)⟩, (by intro c hc; cases srcat_eq (by assumption) hc; exact ⟨_, _, _, _, f3⟩)⟩
              ·
                refine i_seq <| i_asg <| v4 <| i_gsub <| v0 <| i_c <| i_setL (j := 2) f2 rfl (fun H4 f4 w4 => ?_)
                simp only [List.set_cons_succ, List.set_cons_zero] at f4
                have s4 : Z.Ext H2 H4 := ext_set f2 w4 f4
                refine i_nx <| i_asg <| i_c <| i_gsub <| v0 <| i_c <| i_setL (j := 3) f4 rfl (fun H5 f5 w5 => ?_)
                simp only [List.set_cons_succ, List.set_cons_zero] at f5
                have s5 : Z.Ext H4 H5 := ext_set f4 w5 f5
                exact ⟨_, _, rfl, (s2.trans (s4.trans s5)), ⟨_, _, _, _, _, _, f5, ((s2.trans (s4.trans s5)) _ _ (stab_int _) fc1), (by omega)⟩, (by intro c hc; cases srcat_eq (by assumption) hc; exact ⟨_, _, _, _, f5⟩)⟩
            ·
              refine i_next <| i_nx <| i_if <| i_test <| i_op <| i_cb <| i_cons <| v3 <| i_nil <| i_abs <| i_op <| i_c <| i_c <| i_I (by exact ⟨by decide, by decide, by decide⟩) <| i_I0 <| i_bl <| i_ite (fun c9' => ?_) (fun c9' => ?_)
              ·
                refine i_asg <| v4 <| i_gsub <| v0 <| i_c <| i_setL (j := 1) f2 rfl (fun H6 f6 w6 => ?_)
                simp only [List.set_cons_succ, List.set_cons_zero] at f6
                have s6 : Z.Ext H2 H6 := ext_set f2 w6 f6
                exact ⟨_, _, rfl, (s2.trans s6), ⟨_, _, _, _, _, _, f6, ((s2.trans s6) _ _ (stab_int _) fc1), (by omega)⟩, (by intro c hc; cases srcat_eq (by assumption) hc; exact ⟨_, _, _, _, f6⟩)⟩
              ·
                refine i_seq <| i_asg <| v4 <| i_gsub <| v0 <| i_c <| i_setL (j := 2) f2 rfl (fun H7 f7 w7 => ?_)
                simp only [List.set_cons_succ, List.set_cons_zero] at f7
                have s7 : Z.Ext H2 H7 := ext_set f2 w7 f7
                refine i_nx <| i_asg <| i_c <| i_gsub <| v0 <| i_c <| i_setL (j := 3) f7 rfl (fun H8 f8 w8 => ?_)
                simp only [List.set_cons_succ, List.set_cons_zero] at f8
                have s8 : Z.Ext H7 H8 := ext_set f7 w8 f8
                exact ⟨_, _, rfl, (s2.trans (s7.trans s8)), ⟨_, _, _, _, _, _, f8, ((s2.trans (s7.trans s8)) _ _ (stab_int _) fc1), (by omega)⟩, (by intro c hc; cases srcat_eq (by assumption) hc; exact ⟨_, _, _, _, f8⟩)⟩
        ·
          refine i_next <| ?_
          exact ⟨_, _, rfl, (Z.Ext.refl _), ⟨_, _, _, _, _, _, fs1, fc1, (by omega)⟩, (by intro c hc; cases srcat_eq (by assumption) hc; exact ⟨_, _, _, _, fs1⟩)⟩
      ·
        refine i_iteF <| i_next <| ?_
        exact ⟨_, _, rfl, (Z.Ext.refl _), ⟨_, _, _, _, _, _, fs1, fc1, (by omega)⟩, (by intro c hc; cases srcat_eq (by assumption) hc; exact ⟨_, _, _, _, fs1⟩)⟩
    ·
      rintro σ H9 ⟨o1, o2, rfl, s9, g9, i0⟩
      refine i_seq <| ?_
      obtain ⟨i10, x10, y10, z10, cA10, cs10, fs10, fc10, hi10⟩ := g9
      refine i_if <| i_test <| i_op <| i_op <| v0 <| i_c <| i_ixL (SqL.of fs10) (atI_nat (j := 1) rfl) <| i_c <| i_I0 <| i_bl <| i_ite (fun c14 => ?_) (fun c14 => ?_)
      ·
        refine i_seq <| i_asg <| i_op <| i_cb <| i_cons <| i_op <| v0 <| i_c <| i_ixL (SqL.of fs10) (atI_nat (j := 1) rfl) <| i_nil <| i_int <| v1 <| i_I (by show (0 : Int) < _; first | decide | assumption | omega) <| n5 <| i_nx <| i_seq <| i_asg <| i_op <| i_op <| v0 <| i_c <| i_ixL (SqL.of fs10) (atI_nat (j := 1) rfl) <| v1 <| i_I (by exact divw e0 e1) <| i_gsub <| v0 <| i_c <| i_setL (j := 1) fs10 rfl (fun H11 f11 w11 => ?_)
        simp only [List.set_cons_succ, List.set_cons_zero] at f11
        have s11 : Z.Ext H9 H11 := ext_set fs10 w11 f11
        refine i_nx <| i_ret <| v5 <| ?_
        exact k _ _ (s9.trans s11) ⟨_, _, _, _, _, _, f11, (s11 _ _ (stab_int _) fc10), (by omega)⟩ (by first | exact Int.emod_nonneg _ (by omega) | exact Int.emod_lt_of_pos _ (by omega)) (by first | exact Int.emod_nonneg _ (by omega) | exact Int.emod_lt_of_pos _ (by omega)) (by intro c hc; have hc := i0 c hc; cases srcat_eq (by assumption) hc; exact ⟨_, _, _, _, f11⟩)
      ·
        refine i_next <| i_nx <| i_seq <| i_asg <| i_op <| i_op <| v0 <| i_c <| i_ixL (SqL.of fs10) (atI_nat (j := 3) rfl) <| i_c <| i_I0 <| i_gsub <| v0 <| i_c <| i_setL (j := 3) fs10 rfl (fun H12 f12 w12 => ?_)
        simp only [List.set_cons_succ, List.set_cons_zero] at f12
        have s12 : Z.Ext H9 H12 := ext_set fs10 w12 f12
        refine i_nx <| i_seq <| i_asg <| i_op <| i_cb <| i_cons <| i_op <| i_op <| i_op <| i_op <| v0 <| i_c <| i_ixL (SqL.of f12) (atI_nat (j := 2) rfl) <| i_c <| i_I (by first | exact .inl ⟨by decide, by decide⟩ | exact .inr ⟨by decide, by decide⟩) <| i_op <| i_op <| v0 <| i_c <| i_ixL (SqL.of f12) (atI_nat (j := 3) rfl) <| i_c <| i_I (by first | exact .inl ⟨by decide, by decide⟩ | exact .inr ⟨by decide, by decide⟩) <| i_I0 <| i_c <| i_I0 <| i_nil <| i_int <| i_c <| i_I (by show (0 : Int) < _; first | decide | assumption | omega) <| n2 <| i_nx <| i_ret <| i_op <| i_op <| i_cb <| i_cons <| i_op <| i_op <| v2 <| i_c <| i_I (by first | exact .inl ⟨by decide, by decide⟩ | exact .inr ⟨by decide, by decide⟩) <| i_op <| i_op <| v0 <| i_c <| i_ixL (SqL.of f12) (atI_nat (j := 2) rfl) <| i_c <| i_I (by first | exact .inl ⟨by decide, by decide⟩ | exact .inr ⟨by decide, by decide⟩) <| i_I0 <| i_nil <| i_int <| i_c <| i_I (by show (0 : Int) < _; first | decide | assumption | omega) <| v1 <| i_I (by show (0 : Int) < _; first | decide | assumption | omega) <| ?_
        exact k _ _ (s9.trans s12) ⟨_, _, _, _, _, _, f12, (s12 _ _ (stab_int _) fc10), (by omega)⟩ (by first | exact Int.emod_nonneg _ (by omega) | exact Int.emod_lt_of_pos _ (by omega)) (by first | exact Int.emod_nonneg _ (by omega) | exact Int.emod_lt_of_pos _ (by omega)) (by intro c hc; have hc := i0 c hc; cases srcat_eq (by assumption) hc; exact ⟨_, _, _, _, f12⟩)

/-! _law_source -/
def sp__law_source (K : PySem.W.Frag) : Sp := fun vs H Q _ => ∃ (scriptA : Addr) (script : List Int), vs = [V.ref scriptA] ∧ SqL K H scriptA (script.map V.int) ∧ (script.length ≤ 63) ∧ ∀ (rA : Addr) (H' : Hp), Same H H' → IsSrc H' rA → Q (V.ref rA) H'
abbrev s__law_source : Stmt := top 43
theorem sc__law_source : FnScope ["script", "cell"] ["script"] (defScope s__law_source) := ⟨rfl, rfl, rfl, by decide +kernel, rfl, by decide +kernel, by decide +kernel⟩
theorem vis__law_source : visB ["script"] (defScope s__law_source) = true := by decide +kernel
theorem gl__law_source : glB [] (defScope s__law_source) = true := by decide +kernel
theorem ok__law_source {P : Program} {w : World} {K : PySem.W.Frag} {mg : Str → Option Value} {hp9 : Heap} (T : Txt P w K mg) : OkD P w K mg hp9 1 (He.fAd K ("_law_source", none)) ["script"] [] (sp__law_source K) := by
  obtain ⟨fd, F⟩ := T.d__law_source
  refine ⟨fd, [], F.kp, F.bindsN (fun _ _ _ _ _ _ us hl => match us, hl with | [_], _ => rfl), .nil, ?_⟩
  have sc := sc__law_source; have vis := vis__law_source; have gls := gl__law_source
  refine F.ok sc (fun vs H Q E h => ?_) (fun cdv A outer s H0 vs Q E hr h => ?_)
  · obtain ⟨scriptA, script, rfl, _⟩ := h; rfl
  · obtain ⟨scriptA, script, rfl, a0, e0, k⟩ := h
    refine ⟨_, PSs.nox (pss_one (ps_ret (pe_lst (pa_cons pe_int (pa_cons pe_int (pa_cons pe_int (pa_cons pe_int (pa_cons (pe_lc (own := [("cell", 1)]) (g := gName 1) (tt := tYes) rfl sc.nd (pi_list (pnc vis 0)) (blkOk_by (N := ["script", "cell"]) (sc := defScope s__law_source) (by decide +kernel)) (fun _ _ _ _ _ => pg_name (i := 1) sc.nd rfl (.inl rfl)) (fun _ _ _ _ _ => pts_nil) (fun _ _ _ _ _ => (pe_callTy call_intI (by rfl) T.b_int boot_int (pa_cons (pv 1) pa_nil)))) pa_nil)))))))), ?_⟩
    refine i_start (σ' := [some (V.ref scriptA), none]) rfl ?_
    refine i_ret <| i_lst <| i_cons <| i_c <| i_cons <| i_c <| i_cons <| i_c <| i_cons <| i_c <| i_cons <| i_lc <| i_lt <| v0 <| i_lcL (xs := _) a0 (fun p1 z1 => ?_)
    refine lc_list (xs := script.map V.int) (fun q H' => (∀ b o, H0 b = some o → H' b = some o) ∧ H' p1 = some (.lst ((script.take q).map V.int))) ?_ ?_ ?_ ?_
    ·
      exact ⟨same_new z1, upd_same⟩
    ·
      intro q H' _ ⟨e, _⟩; exact Same.seq e a0
    ·
      intro q y H' hy ⟨e1, d1⟩
      obtain ⟨cell, hc, rfl⟩ : ∃ c, script[q]? = some c ∧ y = V.int c := by
        rw [List.getElem?_map] at hy
        cases ee : script[q]? with
        | none => rw [ee] at hy; cases hy
        | some z => rw [ee] at hy; exact ⟨z, rfl, (Option.some.inj hy).symm⟩
      refine n1 <| i_lcw <| i_cb <| i_cons <| v1 <| i_nil <| i_int <| ?_
      exact ⟨_, d1, (by have q1 := (List.getElem?_eq_some_iff.mp hc).1; have q2 := List.length_take_le q script; rw [List.length_map]; exact Nat.lt_of_le_of_lt (Nat.le_trans q2 (Nat.le_trans (Nat.le_of_lt q1) e0)) (by decide)), same_up z1 e1, (upd_same.trans (by rw [take_succ hc, List.map_append]; rfl))⟩
    ·
      rintro H1 ⟨s1, f1⟩
      rw [List.length_map, List.take_length] at f1
      have s1 : Same H0 H1 := s1
      refine i_nil <| i_kLst (of_decide_eq_true rfl) (fun p2 H2 z2 s2 f2 => ?_)
      exact k _ _ (s1.trans s2) ⟨_, _, _, _, _, _, f2, (s2 _ _ f1), (by decide)⟩

/-! _law_modes -/
def sp__law_modes (K : PySem.W.Frag) : Sp := fun vs H Q _ => vs = [] ∧ ∀ (rA : Addr) (r : List Str) (H' : Hp), Same H H' → H' rA = some (.lst (r.map V.str)) → (r = modes9) → Q (V.ref rA) H'
abbrev s__law_modes : Stmt := top 45
theorem sc__law_modes : FnScope ["near"] [] (defScope s__law_modes) := ⟨rfl, rfl, rfl, by decide +kernel, rfl, by decide +kernel, by decide +kernel⟩
theorem vis__law_modes : visB ["near"] (defScope s__law_modes) = true := by decide +kernel
theorem gl__law_modes : glB [] (defScope s__law_modes) = true := by decide +kernel
theorem ok__law_modes {P : Program} {w : World} {K : PySem.W.Frag} {mg : Str → Option Value} {hp9 : Heap} (T : Txt P w K mg) : OkD P w K mg hp9 1 (He.fAd K ("_law_modes", none)) [] [] (sp__law_modes K) := by
  obtain ⟨fd, F⟩ := T.d__law_modes
  refine ⟨fd, [], F.kp, F.bindsN (fun _ _ _ _ _ _ us hl => match us, hl with | [], _ => rfl), .nil, ?_⟩
  have sc := sc__law_modes; have vis := vis__law_modes; have gls := gl__law_modes
  refine F.ok sc (fun vs H Q E h => ?_) (fun cdv A outer s H0 vs Q E hr h => ?_)
  · obtain ⟨rfl, _⟩ := h; rfl
  · obtain ⟨rfl, k⟩ := h
    refine ⟨_, PSs.nox (pss_cons (ps_set (i := 0) sc.nd rfl (.inl rfl) (pe_lst (pa_cons pe_str (pa_cons pe_str (pa_cons pe_str (pa_cons pe_str (pa_cons pe_str pa_nil))))))) (pss_one (ps_ret (pe_op op_cat (pn vis 0) (pe_lst (pa_cons pe_str (pa_cons pe_str (pa_cons pe_str (pa_cons pe_str pa_nil))))))))), ?_⟩
    refine i_start (σ' := [none]) rfl ?_
    refine i_seq <| i_asg <| i_lst <| i_cons <| i_c <| i_cons <| i_c <| i_cons <| i_c <| i_cons <| i_c <| i_cons <| i_c <| i_nil <| i_kLst (of_decide_eq_true rfl) (fun p1 H1 z1 s1 f1 => ?_)
    refine n0 <| i_nx <| i_ret <| i_op <| v0 <| i_lst <| i_cons <| i_c <| i_cons <| i_c <| i_cons <| i_c <| i_cons <| i_c <| i_nil <| i_kLst (of_decide_eq_true rfl) (fun p2 H2 z2 s2 f2 => ?_)
    refine i_cat (s2 _ _ f1) f2 (by exact of_decide_eq_true rfl) (by exact of_decide_eq_true rfl) (fun p3 H3 z3 s3 f3 => ?_)
    exact k _ modes9 _ (s1.trans (s2.trans s3)) f3 (by rfl)

/-! _law_mode -/
def sp__law_mode (K : PySem.W.Frag) : Sp := fun vs H Q _ => ∃ (sourceA : Addr), vs = [V.ref sourceA] ∧ IsSrc H sourceA ∧ ∀ (r : Str) (H' : Hp), Z.Ext H H' → IsSrc H' sourceA → (r ∈ modes9) → (∀ c, SrcAt H sourceA c → SrcAt H' sourceA c) → Q (V.str r) H'
abbrev s__law_mode : Stmt := top 46
theorem sc__law_mode : FnScope ["source"] ["source"] (defScope s__law_mode) := ⟨rfl, rfl, rfl, by decide +kernel, rfl, by decide +kernel, by decide +kernel⟩
theorem vis__law_mode : visB ["source"] (defScope s__law_mode) = true := by decide +kernel
theorem gl__law_mode : glB ["_law_modes", "_law_draw"] (defScope s__law_mode) = true := by decide +kernel
theorem ok__law_mode {P : Program} {w : World} {K : PySem.W.Frag} {mg : Str → Option Value} {hp9 : Heap} (T : Txt P w K mg) : OkD P w K mg hp9 2 (He.fAd K ("_law_mode", none)) ["source"] [] (sp__law_mode K) := by
  obtain ⟨fd, F⟩ := T.d__law_mode
  refine ⟨fd, [], F.kp, F.bindsN (fun _ _ _ _ _ _ us hl => match us, hl with | [_], _ => rfl), .nil, ?_⟩
  have sc := sc__law_mode; have vis := vis__law_mode; have gls := gl__law_mode
  refine F.ok sc (fun vs H Q E h => ?_) (fun cdv A outer s H0 vs Q E hr h => ?_)
  · obtain ⟨sourceA, rfl, _⟩ := h; rfl
  · obtain ⟨sourceA, rfl, a0, k⟩ := h
    refine ⟨_, PSs.nox (pss_one (ps_ret (pe_ix ix_list (pcD0 (ok__law_modes T) (hr.mono (by decide)) gls 0 T.g__law_modes) (pcD (ok__law_draw T) (hr.mono (by decide)) gls 1 T.g__law_draw (pa_cons (pn vis 0) (pa_cons pe_int pa_nil))) (fun _ _ => rfl)))), ?_⟩
    refine i_start (σ' := [some (V.ref sourceA)]) rfl ?_
    refine i_ret <| i_op <| i_call <| i_nil <| ⟨rfl, fun msA ms H1 s1 f1_0 hms => ?_⟩
    refine i_call <| i_cons <| v0 <| i_cons <| i_c <| i_nil <| ⟨_, _, rfl, (same_src s1 a0), (by first | assumption | omega | rfl | exact Sz.zero | exact Sz.sm (by omega) (by omega) (by decide) | exact Sz.mono (by assumption) (by decide)), (by first | assumption | omega | rfl | exact Sz.zero | exact Sz.sm (by omega) (by omega) (by decide) | exact Sz.mono (by assumption) (by decide)), fun q H2 s2 g2 hq0 hq1 hq2 => ?_⟩
    refine i_ixL (SqL.of (s2 _ _ (stab_str _) f1_0)) (by rw [hms]; exact at_getS (xs := modes9) hq0 (by show q < 9; omega)) <| ?_
    exact k _ _ ((ext_of s1).trans s2) g2 (by exact getS_mem (xs := modes9) hq0 (by show q < 9; omega)) (by intro c hc; exact hq2 _ (same_srcat s1 hc))

/-! _law_nearest -/
def sp__law_nearest (K : PySem.W.Frag) : Sp := fun vs H Q _ => ∃ (sourceA : Addr), vs = [V.ref sourceA] ∧ IsSrc H sourceA ∧ ∀ (r : Str) (H' : Hp), Z.Ext H H' → IsSrc H' sourceA → (r ∈ near5) → Q (V.str r) H'
abbrev s__law_nearest : Stmt := top 47
theorem sc__law_nearest : FnScope ["source"] ["source"] (defScope s__law_nearest) := ⟨rfl, rfl, rfl, by decide +kernel, rfl, by decide +kernel, by decide +kernel⟩
theorem vis__law_nearest : visB ["source"] (defScope s__law_nearest) = true := by decide +kernel
theorem gl__law_nearest : glB ["_law_modes", "_law_draw"] (defScope s__law_nearest) = true := by decide +kernel
theorem ok__law_nearest {P : Program} {w : World} {K : PySem.W.Frag} {mg : Str → Option Value} {hp9 : Heap} (T : Txt P w K mg) : OkD P w K mg hp9 2 (He.fAd K ("_law_nearest", none)) ["source"] [] (sp__law_nearest K) := by
  obtain ⟨fd, F⟩ := T.d__law_nearest
  refine ⟨fd, [], F.kp, F.bindsN (fun _ _ _ _ _ _ us hl => match us, hl with | [_], _ => rfl), .nil, ?_⟩
  have sc := sc__law_nearest; have vis := vis__law_nearest; have gls := gl__law_nearest
  refine F.ok sc (fun vs H Q E h => ?_) (fun cdv A outer s H0 vs Q E hr h => ?_)
  · obtain ⟨sourceA, rfl, _⟩ := h; rfl
  · obtain ⟨sourceA, rfl, a0, k⟩ := h
    refine ⟨_, PSs.nox (pss_one (ps_ret (pe_ix ix_list (pcD0 (ok__law_modes T) (hr.mono (by decide)) gls 0 T.g__law_modes) (pcD (ok__law_draw T) (hr.mono (by decide)) gls 1 T.g__law_draw (pa_cons (pn vis 0) (pa_cons pe_int pa_nil))) (fun _ _ => rfl)))), ?_⟩
    refine i_start (σ' := [some (V.ref sourceA)]) rfl ?_
    refine i_ret <| i_op <| i_call <| i_nil <| ⟨rfl, fun msA ms H1 s1 f1_0 hms => ?_⟩
    refine i_call <| i_cons <| v0 <| i_cons <| i_c <| i_nil <| ⟨_, _, rfl, (same_src s1 a0), (by first | assumption | omega | rfl | exact Sz.zero | exact Sz.sm (by omega) (by omega) (by decide) | exact Sz.mono (by assumption) (by decide)), (by first | assumption | omega | rfl | exact Sz.zero | exact Sz.sm (by omega) (by omega) (by decide) | exact Sz.mono (by assumption) (by decide)), fun q H2 s2 g2 hq0 hq1 hq2 => ?_⟩
    refine i_ixL (SqL.of (s2 _ _ (stab_str _) f1_0)) (by rw [hms]; exact at_getS (xs := modes9) hq0 (by show q < 9; omega)) <| ?_
    exact k _ _ ((ext_of s1).trans s2) g2 (by exact near_at hq0 (by omega))

/-! _law_base -/
def sp__law_base (K : PySem.W.Frag) : Sp := fun vs H Q _ => ∃ (sourceA : Addr), vs = [V.ref sourceA] ∧ IsSrc H sourceA ∧ ∀ (r : Int) (H' : Hp), Z.Ext H H' → IsSrc H' sourceA → (2 ≤ r) → (r ≤ 36) → Q (V.int r) H'
abbrev s__law_base : Stmt := top 48
theorem sc__law_base : FnScope ["source", "kind"] ["source"] (defScope s__law_base) := ⟨rfl, rfl, rfl, by decide +kernel, rfl, by decide +kernel, by decide +kernel⟩
theorem vis__law_base : visB ["source", "kind"] (defScope s__law_base) = true := by decide +kernel
theorem gl__law_base : glB ["_law_draw"] (defScope s__law_base) = true := by decide +kernel
theorem ok__law_base {P : Program} {w : World} {K : PySem.W.Frag} {mg : Str → Option Value} {hp9 : Heap} (T : Txt P w K mg) : OkD P w K mg hp9 2 (He.fAd K ("_law_base", none)) ["source"] [] (sp__law_base K) := by
  obtain ⟨fd, F⟩ := T.d__law_base
  refine ⟨fd, [], F.kp, F.bindsN (fun _ _ _ _ _ _ us hl => match us, hl with | [_], _ => rfl), .nil, ?_⟩
  have sc := sc__law_base; have vis := vis__law_base; have gls := gl__law_base
  refine F.ok sc (fun vs H Q E h => ?_) (fun cdv A outer s H0 vs Q E hr h => ?_)
  · obtain ⟨sourceA, rfl, _⟩ := h; rfl
  · obtain ⟨sourceA, rfl, a0, k⟩ := h
    refine ⟨_, PSs.nox (pss_cons (ps_set (i := 1) sc.nd rfl (.inl rfl) (pcD (ok__law_draw T) (hr.mono (by decide)) gls 0 T.g__law_draw (pa_cons (pn vis 0) (pa_cons pe_int pa_nil)))) (pss_cons (ps_if (pt_cmpR op_eqI (pn vis 1) pe_int (nomark _)) (pss_one (ps_ret (pe_op op_add pe_int (pcD (ok__law_draw T) (hr.mono (by decide)) gls 0 T.g__law_draw (pa_cons (pn vis 0) (pa_cons pe_int pa_nil)))))) pss_nil) (pss_cons (ps_if (pt_cmpR op_eqI (pn vis 1) pe_int (nomark _)) (pss_one (ps_ret (pe_op op_add pe_int (pcD (ok__law_draw T) (hr.mono (by decide)) gls 0 T.g__law_draw (pa_cons (pn vis 0) (pa_cons pe_int pa_nil)))))) pss_nil) (pss_one (ps_ret (pe_ix ix_list (pe_lst (pa_cons pe_int (pa_cons pe_int (pa_cons pe_int (pa_cons pe_int (pa_cons pe_int pa_nil)))))) (pcD (ok__law_draw T) (hr.mono (by decide)) gls 0 T.g__law_draw (pa_cons (pn vis 0) (pa_cons pe_int pa_nil))) (fun _ _ => rfl))))))), ?_⟩
    refine i_start (σ' := [some (V.ref sourceA), none]) rfl ?_
    refine i_seq <| i_asg <| i_call <| i_cons <| v0 <| i_cons <| i_c <| i_nil <| ⟨_, _, rfl, a0, (by first | assumption | omega | rfl | exact Sz.zero | exact Sz.sm (by omega) (by omega) (by decide) | exact Sz.mono (by assumption) (by decide)), (by first | assumption | omega | rfl | exact Sz.zero | exact Sz.sm (by omega) (by omega) (by decide) | exact Sz.mono (by assumption) (by decide)), fun kind H1 s1 g1 hkind0 hkind1 hkind2 => ?_⟩
    refine n1 <| i_nx <| i_seq <| i_if <| i_test <| i_op <| v1 <| i_c <| i_I0 <| i_bl <| i_ite (fun c2 => ?_) (fun c2 => ?_)
    ·
      refine i_ret <| i_op <| i_c <| i_call <| i_cons <| v0 <| i_cons <| i_c <| i_nil <| ⟨_, _, rfl, g1, (by first | assumption | omega | rfl | exact Sz.zero | exact Sz.sm (by omega) (by omega) (by decide) | exact Sz.mono (by assumption) (by decide)), (by first | assumption | omega | rfl | exact Sz.zero | exact Sz.sm (by omega) (by omega) (by decide) | exact Sz.mono (by assumption) (by decide)), fun r2 H3 s3 g3 hr20 hr21 hr22 => ?_⟩
      refine i_I0 <| ?_
      exact k _ _ (s1.trans s3) g3 (by first | rfl | assumption | omega) (by first | rfl | assumption | omega)
    ·
      refine i_next <| i_nx <| i_seq <| i_if <| i_test <| i_op <| v1 <| i_c <| i_I0 <| i_bl <| i_ite (fun c4 => ?_) (fun c4 => ?_)
      ·
        refine i_ret <| i_op <| i_c <| i_call <| i_cons <| v0 <| i_cons <| i_c <| i_nil <| ⟨_, _, rfl, g1, (by first | assumption | omega | rfl | exact Sz.zero | exact Sz.sm (by omega) (by omega) (by decide) | exact Sz.mono (by assumption) (by decide)), (by first | assumption | omega | rfl | exact Sz.zero | exact Sz.sm (by omega) (by omega) (by decide) | exact Sz.mono (by assumption) (by decide)), fun r4 H5 s5 g5 hr40 hr41 hr42 => ?_⟩
        refine i_I0 <| ?_
        exact k _ _ (s1.trans s5) g5 (by first | rfl | assumption | omega) (by first | rfl | assumption | omega)
      ·
        refine i_next <| i_nx <| i_ret <| i_op <| i_lst <| i_cons <| i_c <| i_cons <| i_c <| i_cons <| i_c <| i_cons <| i_c <| i_cons <| i_c <| i_nil <| i_kLst (of_decide_eq_true rfl) (fun p6 H6 z6 s6 f6 => ?_)
        refine i_call <| i_cons <| v0 <| i_cons <| i_c <| i_nil <| ⟨_, _, rfl, (same_src s6 g1), (by first | assumption | omega | rfl | exact Sz.zero | exact Sz.sm (by omega) (by omega) (by decide) | exact Sz.mono (by assumption) (by decide)), (by first | assumption | omega | rfl | exact Sz.zero | exact Sz.sm (by omega) (by omega) (by decide) | exact Sz.mono (by assumption) (by decide)), fun q H7 s7 g7 hq0 hq1 hq2 => ?_⟩
        refine i_ixL (SqL.of (s7 _ _ (by intro z; exact z) f6)) (at_getD (xs := [10, 16, 2, 3, 36]) hq0 hq1) <| ?_
        exact k _ _ (s1.trans ((ext_of s6).trans s7)) g7 (by exact (five_ok hq0 hq1).1) (by exact (five_ok hq0 hq1).2)

/-! _law_precision -/
def sp__law_precision (K : PySem.W.Frag) : Sp := fun vs H Q _ => ∃ (sourceA : Addr) (most : Int), vs = [V.ref sourceA, V.int most] ∧ IsSrc H sourceA ∧ (10 ≤ most) ∧ (most ≤ 1000) ∧ ∀ (r : Int) (H' : Hp), Z.Ext H H' → IsSrc H' sourceA → (3 ≤ r) → (r ≤ most) → Q (V.int r) H'
abbrev s__law_precision : Stmt := top 49
theorem sc__law_precision : FnScope ["source", "most"] ["source", "most"] (defScope s__law_precision) := ⟨rfl, rfl, rfl, by decide +kernel, rfl, by decide +kernel, by decide +kernel⟩
theorem vis__law_precision : visB ["source", "most"] (defScope s__law_precision) = true := by decide +kernel
theorem gl__law_precision : glB ["_law_draw"] (defScope s__law_precision) = true := by decide +kernel
theorem ok__law_precision {P : Program} {w : World} {K : PySem.W.Frag} {mg : Str → Option Value} {hp9 : Heap} (T : Txt P w K mg) : OkD P w K mg hp9 2 (He.fAd K ("_law_precision", none)) ["source", "most"] [] (sp__law_precision K) := by
  obtain ⟨fd, F⟩ := T.d__law_precision
  refine ⟨fd, [], F.kp, F.bindsN (fun _ _ _ _ _ _ us hl => match us, hl with | [_, _], _ => rfl), .nil, ?_⟩
  have sc := sc__law_precision; have vis := vis__law_precision; have gls := gl__law_precision
  refine F.ok sc (fun vs H Q E h => ?_) (fun cdv A outer s H0 vs Q E hr h => ?_)
  · obtain ⟨sourceA, most, rfl, _⟩ := h; rfl
  · obtain ⟨sourceA, most, rfl, a0, e0, e1, k⟩ := h
    refine ⟨_, PSs.nox (pss_cons (ps_if (pt_cmpR op_lt (pcD (ok__law_draw T) (hr.mono (by decide)) gls 0 T.g__law_draw (pa_cons (pn vis 0) (pa_cons pe_int pa_nil))) pe_int (nomark _)) (pss_one (ps_ret (pe_op op_add pe_int (pcD (ok__law_draw T) (hr.mono (by decide)) gls 0 T.g__law_draw (pa_cons (pn vis 0) (pa_cons pe_int pa_nil)))))) pss_nil) (pss_one (ps_ret (pe_op op_add pe_int (pcD (ok__law_draw T) (hr.mono (by decide)) gls 0 T.g__law_draw (pa_cons (pn vis 0) (pa_cons (pe_op op_sub (pn vis 1) pe_int) pa_nil))))))), ?_⟩
    refine i_start (σ' := [some (V.ref sourceA), some (V.int most)]) rfl ?_
    refine i_seq <| i_if <| i_test <| i_op <| i_call <| i_cons <| v0 <| i_cons <| i_c <| i_nil <| ⟨_, _, rfl, a0, (by first | assumption | omega | rfl | exact Sz.zero | exact Sz.sm (by omega) (by omega) (by decide) | exact Sz.mono (by assumption) (by decide)), (by first | assumption | omega | rfl | exact Sz.zero | exact Sz.sm (by omega) (by omega) (by decide) | exact Sz.mono (by assumption) (by decide)), fun r1 H2 s2 g2 hr10 hr11 hr12 => ?_⟩
    refine i_c <| i_I0 <| i_bl <| i_ite (fun c1 => ?_) (fun c1 => ?_)
    ·
      refine i_ret <| i_op <| i_c <| i_call <| i_cons <| v0 <| i_cons <| i_c <| i_nil <| ⟨_, _, rfl, g2, (by first | assumption | omega | rfl | exact Sz.zero | exact Sz.sm (by omega) (by omega) (by decide) | exact Sz.mono (by assumption) (by decide)), (by first | assumption | omega | rfl | exact Sz.zero | exact Sz.sm (by omega) (by omega) (by decide) | exact Sz.mono (by assumption) (by decide)), fun r3 H4 s4 g4 hr30 hr31 hr32 => ?_⟩
      refine i_I0 <| ?_
      exact k _ _ (s2.trans s4) g4 (by first | rfl | assumption | omega) (by first | rfl | assumption | omega)
    ·
      refine i_next <| i_nx <| i_ret <| i_op <| i_c <| i_call <| i_cons <| v0 <| i_cons <| i_op <| v1 <| i_c <| i_I0 <| i_nil <| ⟨_, _, rfl, g2, (by first | assumption | omega | rfl | exact Sz.zero | exact Sz.sm (by omega) (by omega) (by decide) | exact Sz.mono (by assumption) (by decide)), (by first | assumption | omega | rfl | exact Sz.zero | exact Sz.sm (by omega) (by omega) (by decide) | exact Sz.mono (by assumption) (by decide)), fun r5 H6 s6 g6 hr50 hr51 hr52 => ?_⟩
      refine i_I0 <| ?_
      exact k _ _ (s2.trans s6) g6 (by first | rfl | assumption | omega) (by first | rfl | assumption | omega)

/-! _law_power -/
def sp__law_power (K : PySem.W.Frag) : Sp := fun vs H Q _ => ∃ (base : Int) (count : Int), vs = [V.int base, V.int count] ∧ (0 ≤ count) ∧ (count ≤ 100000) ∧ (Sz 6 base) ∧ ∀ (r : Int) (H' : Hp), Same H H' → (r = base ^ count.toNat) → Q (V.int r) H'
abbrev s__law_power : Stmt := top 50
theorem sc__law_power : FnScope ["base", "count", "result", "k"] ["base", "count"] (defScope s__law_power) := ⟨rfl, rfl, rfl, by decide +kernel, rfl, by decide +kernel, by decide +kernel⟩
theorem vis__law_power : visB ["base", "count", "result", "k"] (defScope s__law_power) = true := by decide +kernel
theorem gl__law_power : glB ["range"] (defScope s__law_power) = true := by decide +kernel
theorem ok__law_power {P : Program} {w : World} {K : PySem.W.Frag} {mg : Str → Option Value} {hp9 : Heap} (T : Txt P w K mg) : OkD P w K mg hp9 1 (He.fAd K ("_law_power", none)) ["base", "count"] [] (sp__law_power K) := by
  obtain ⟨fd, F⟩ := T.d__law_power
  refine ⟨fd, [], F.kp, F.bindsN (fun _ _ _ _ _ _ us hl => match us, hl with | [_, _], _ => rfl), .nil, ?_⟩
  have sc := sc__law_power; have vis := vis__law_power; have gls := gl__law_power
  refine F.ok sc (fun vs H Q E h => ?_) (fun cdv A outer s H0 vs Q E hr h => ?_)
  · obtain ⟨base, count, rfl, _⟩ := h; rfl
  · obtain ⟨base, count, rfl, e0, e1, e2, k⟩ := h
    refine ⟨_, PSs.nox (pss_cons (ps_set (i := 2) sc.nd rfl (.inl rfl) pe_int) (pss_cons (ps_for PassesOwn.never rfl (pi_range1 (gl_of gls (i := 0) rfl).1 T.b_range (pa_cons (pn vis 1) pa_nil)) (pg_name (i := 3) sc.nd rfl (.inl rfl)) (pss_one (ps_set (i := 2) sc.nd rfl (.inl rfl) (pe_op op_mulX (pn vis 2) (pn vis 0))))) (pss_one (ps_ret (pn vis 2))))), ?_⟩
    refine i_start (σ' := [some (V.int base), some (V.int count), none, none]) rfl ?_
    refine i_seq <| i_asg <| i_c <| n2 <| i_nx <| i_seq <| i_for <| i_for1 <| i_cons <| v1 <| i_nil <| i_rng1 (fun i σ H' => ∃ (x : Int) (o_k : Option V), σ = [some (V.int base), some (V.int count), some (V.int x), o_k] ∧ Same H0 H' ∧ (x = base ^ i)) (by omega) (by omega) ?_ ?_ ?_
    ·
      exact ⟨_, _, rfl, (Same.refl _), (by simp)⟩
    ·
      intro i
      rintro σ H1 hi ⟨x, o_k, rfl, s1, i0⟩
      refine n3 <| i_asg <| i_op <| v2 <| v0 <| i_I (by subst i0; exact mulx ((Sz.pow e2 i).mono (by omega : 6 * i + 1 ≤ 700000)) e2) <| n2 <| ?_
      exact ⟨_, _, rfl, s1, (by subst i0; rw [Int.pow_succ])⟩
    ·
      rintro σ H2 ⟨x, o_k, rfl, s2, i0⟩
      refine i_nx <| i_ret <| v2 <| ?_
      exact k _ _ s2 (by exact i0)

/-! _law_count -/
def sp__law_count (K : PySem.W.Frag) : Sp := fun vs H Q _ => ∃ (base : Int) (value : Int), vs = [V.int base, V.int value] ∧ (2 ≤ base) ∧ (base ≤ 36) ∧ ∀ (r : Int) (H' : Hp), Same H H' → (IsDg base value r) → Q (V.int r) H'
abbrev s__law_count : Stmt := top 51
theorem sc__law_count : FnScope ["base", "value", "rest", "count", "chunk"] ["base", "value"] (defScope s__law_count) := ⟨rfl, rfl, rfl, by decide +kernel, rfl, by decide +kernel, by decide +kernel⟩
theorem vis__law_count : visB ["base", "value", "rest", "count", "chunk"] (defScope s__law_count) = true := by decide +kernel
theorem gl__law_count : glB ["abs", "_law_power"] (defScope s__law_count) = true := by decide +kernel
theorem ok__law_count {P : Program} {w : World} {K : PySem.W.Frag} {mg : Str → Option Value} {hp9 : Heap} (T : Txt P w K mg) : OkD P w K mg hp9 2 (He.fAd K ("_law_count", none)) ["base", "value"] [] (sp__law_count K) := by
  obtain ⟨fd, F⟩ := T.d__law_count
  refine ⟨fd, [], F.kp, F.bindsN (fun _ _ _ _ _ _ us hl => match us, hl with | [_, _], _ => rfl), .nil, ?_⟩
  have sc := sc__law_count; have vis := vis__law_count; have gls := gl__law_count
  refine F.ok sc (fun vs H Q E h => ?_) (fun cdv A outer s H0 vs Q E hr h => ?_)
  · obtain ⟨base, value, rfl, _⟩ := h; rfl
  · obtain ⟨base, value, rfl, e0, e1, k⟩ := h
    refine ⟨_, PSs.nox (pss_cons (ps_set (i := 2) sc.nd rfl (.inl rfl) (pcB call_absI gls 0 T.b_abs (by decide +kernel) (pa_cons (pn vis 1) pa_nil))) (pss_cons (ps_set (i := 3) sc.nd rfl (.inl rfl) pe_int) (pss_cons (ps_set (i := 4) sc.nd rfl (.inl rfl) (pcD (ok__law_power T) (hr.mono (by decide)) gls 1 T.g__law_power (pa_cons (pn vis 0) (pa_cons pe_int pa_nil)))) (pss_cons (ps_while PassesOwn.never (pt_cmpR op_ge (pn vis 2) (pn vis 4) (nomark _)) (pss_cons (ps_set (i := 2) sc.nd rfl (.inl rfl) (pe_op op_fdivW (pn vis 2) (pn vis 4))) (pss_one (ps_set (i := 3) sc.nd rfl (.inl rfl) (pe_op op_add (pn vis 3) pe_int))))) (pss_cons (ps_while PassesOwn.never (pt_cmpR op_gt (pn vis 2) pe_int (nomark _)) (pss_cons (ps_set (i := 2) sc.nd rfl (.inl rfl) (pe_op op_fdivW (pn vis 2) (pn vis 0))) (pss_one (ps_set (i := 3) sc.nd rfl (.inl rfl) (pe_op op_add (pn vis 3) pe_int))))) (pss_one (ps_ret (pn vis 3)))))))), ?_⟩
    refine i_start (σ' := [some (V.int base), some (V.int value), none, none, none]) rfl ?_
    refine i_seq <| i_asg <| i_cb <| i_cons <| v1 <| i_nil <| i_abs <| n2 <| i_nx <| i_seq <| i_asg <| i_c <| n3 <| i_nx <| i_seq <| i_asg <| i_call <| i_cons <| v0 <| i_cons <| i_c <| i_nil <| ⟨_, _, rfl, (by first | assumption | omega | rfl | exact Sz.zero | exact Sz.sm (by omega) (by omega) (by decide) | exact Sz.mono (by assumption) (by decide)), (by first | assumption | omega | rfl | exact Sz.zero | exact Sz.sm (by omega) (by omega) (by decide) | exact Sz.mono (by assumption) (by decide)), (by unfold Sz; omega), fun chunk H1 s1 hchunk => ?_⟩
    refine n4 <| i_nx <| i_seq <| ?_
    have hch2 : 2 ≤ chunk := by rw [hchunk]; have := pow_le' e0 (m := 1) (n := (16 : Int).toNat) (by decide); rw [Int.pow_one] at this; omega
    have hchz : Sz 9000 chunk := by rw [hchunk]; exact (Sz.pow36 e0 e1 _).mono (by decide)
    refine i_while (fun m σ H' => ∃ (x : Int) (cn : Int), σ = [some (V.int base), some (V.int value), some (V.int x), some (V.int cn), some (V.int chunk)] ∧ m = x.toNat ∧ Same H1 H' ∧ (Ct base value x cn)) ?_ ?_
    ·
      exact ⟨_, _, _, rfl, rfl, (Same.refl _), (by exact Ct.init)⟩
    ·
      rintro m σ H2 ⟨x, cn, rfl, rfl, s2, i0⟩
      refine i_test <| i_op <| v2 <| v4 <| i_I0 <| i_bl <| i_ite (fun c4 => ?_) (fun c4 => ?_)
      ·
        refine i_turn <| i_seq <| i_asg <| i_op <| v2 <| v4 <| i_I (by exact divw (by omega) hchz) <| n2 <| i_nx <| i_asg <| i_op <| v3 <| i_c <| i_I0 <| n3 <| ?_
        refine ⟨_, ?_, _, _, rfl, rfl, s2, (by exact i0.step 16 e0 (by decide) (by rw [hchunk]; rfl) rfl (by omega) (.inr c4))⟩
        have := div_lt' (x := x) (q := chunk) (by omega) hch2; omega
      ·
        refine i_nx <| i_seq <| ?_
        refine i_while (fun m σ H' => ∃ (y : Int) (l : Int), σ = [some (V.int base), some (V.int value), some (V.int y), some (V.int l), some (V.int chunk)] ∧ m = y.toNat ∧ Same H2 H' ∧ (Ct base value y l)) ?_ ?_
        ·
          exact ⟨_, _, _, rfl, rfl, (Same.refl _), (by exact i0)⟩
        ·
          rintro m σ H3 ⟨y, l, rfl, rfl, s3, j0⟩
          refine i_test <| i_op <| v2 <| i_c <| i_I0 <| i_bl <| i_ite (fun c7 => ?_) (fun c7 => ?_)
          ·
            refine i_turn <| i_seq <| i_asg <| i_op <| v2 <| v0 <| i_I (by exact divw (b := 6) (by omega) (by unfold Sz; omega)) <| n2 <| i_nx <| i_asg <| i_op <| v3 <| i_c <| i_I0 <| n3 <| ?_
            refine ⟨_, ?_, _, _, rfl, rfl, s3, (by exact j0.step 1 e0 (by decide) (Int.pow_one _).symm rfl (by omega) (.inl rfl))⟩
            have := div_lt' (x := y) (q := base) (by omega) e0; omega
          ·
            refine i_nx <| i_ret <| v3 <| ?_
            exact k _ _ (s1.trans (s2.trans s3)) (by exact j0.done e0 c7)

/-! _law_lowest -/
def sp__law_lowest (K : PySem.W.Frag) : Sp := fun vs H Q _ => ∃ (base : Int) (coefficient : Int) (exponent : Int), vs = [V.int base, V.int coefficient, V.int exponent] ∧ (2 ≤ base) ∧ (base ≤ 36) ∧ ∀ (rA : Addr) (r0 : Int) (r1 : Int) (H' : Hp), Same H H' → H' rA = some (.tup [V.int r0, V.int r1]) → ((⟨base, r0, r1⟩ : EN) = nrm base coefficient exponent) → Q (V.ref rA) H'
abbrev s__law_lowest : Stmt := top 52
theorem sc__law_lowest : FnScope ["base", "coefficient", "exponent", "rest", "count", "chunk"] ["base", "coefficient", "exponent"] (defScope s__law_lowest) := ⟨rfl, rfl, rfl, by decide +kernel, rfl, by decide +kernel, by decide +kernel⟩
theorem vis__law_lowest : visB ["base", "coefficient", "exponent", "rest", "count", "chunk"] (defScope s__law_lowest) = true := by decide +kernel
theorem gl__law_lowest : glB ["_law_power", "int"] (defScope s__law_lowest) = true := by decide +kernel
theorem ok__law_lowest {P : Program} {w : World} {K : PySem.W.Frag} {mg : Str → Option Value} {hp9 : Heap} (T : Txt P w K mg) : OkD P w K mg hp9 2 (He.fAd K ("_law_lowest", none)) ["base", "coefficient", "exponent"] [] (sp__law_lowest K) := by
  obtain ⟨fd, F⟩ := T.d__law_lowest
  refine ⟨fd, [], F.kp, F.bindsN (fun _ _ _ _ _ _ us hl => match us, hl with | [_, _, _], _ => rfl), .nil, ?_⟩
  have sc := sc__law_lowest; have vis := vis__law_lowest; have gls := gl__law_lowest
  refine F.ok sc (fun vs H Q E h => ?_) (fun cdv A outer s H0 vs Q E hr h => ?_)
  · obtain ⟨base, coefficient, exponent, rfl, _⟩ := h; rfl
  · obtain ⟨base, coefficient, exponent, rfl, e0, e1, k⟩ := h
    refine ⟨_, PSs.nox (pss_cons (ps_if (pt_cmpR op_eqI (pn vis 1) pe_int (nomark _)) (pss_one (ps_ret (pe_tup (pa_cons pe_int (pa_cons pe_int pa_nil))))) pss_nil) (pss_cons (ps_set (i := 3) sc.nd rfl (.inl rfl) (pn vis 1)) (pss_cons (ps_set (i := 4) sc.nd rfl (.inl rfl) (pn vis 2)) (pss_cons (ps_set (i := 5) sc.nd rfl (.inl rfl) (pcD (ok__law_power T) (hr.mono (by decide)) gls 0 T.g__law_power (pa_cons (pn vis 0) (pa_cons pe_int pa_nil)))) (pss_cons (ps_while PassesOwn.never (pt_cmpR op_eqI (pe_op op_mod (pcT call_intI gls 1 T.b_int boot_int (pa_cons (pn vis 3) pa_nil)) (pn vis 5)) pe_int (nomark _)) (pss_cons (ps_set (i := 3) sc.nd rfl (.inl rfl) (pe_op op_fdivW (pn vis 3) (pn vis 5))) (pss_one (ps_set (i := 4) sc.nd rfl (.inl rfl) (pe_op op_add (pn vis 4) pe_int))))) (pss_cons (ps_while PassesOwn.never (pt_cmpR op_eqI (pe_op op_mod (pcT call_intI gls 1 T.b_int boot_int (pa_cons (pn vis 3) pa_nil)) (pn vis 0)) pe_int (nomark _)) (pss_cons (ps_set (i := 3) sc.nd rfl (.inl rfl) (pe_op op_fdivW (pn vis 3) (pn vis 0))) (pss_one (ps_set (i := 4) sc.nd rfl (.inl rfl) (pe_op op_add (pn vis 4) pe_int))))) (pss_one (ps_ret (pe_tup (pa_cons (pn vis 3) (pa_cons (pn vis 4) pa_nil))))))))))), ?_⟩
    refine i_start (σ' := [some (V.int base), some (V.int coefficient), some (V.int exponent), none, none, none]) rfl ?_
    refine i_seq <| i_if <| i_test <| i_op <| v1 <| i_c <| i_I0 <| i_bl <| i_ite (fun c1 => ?_) (fun c1 => ?_)
    ·
      refine i_ret <| i_tup <| i_cons <| i_c <| i_cons <| i_c <| i_nil <| i_kTup (of_decide_eq_true rfl) (fun p1 H1 z1 s1 f1 => ?_)
      exact k _ _ _ _ s1 f1 (by rw [c1, nrm_zero])
    ·
      refine i_next <| i_nx <| i_seq <| i_asg <| v1 <| n3 <| i_nx <| i_seq <| i_asg <| v2 <| n4 <| i_nx <| i_seq <| i_asg <| i_call <| i_cons <| v0 <| i_cons <| i_c <| i_nil <| ⟨_, _, rfl, (by first | assumption | omega | rfl | exact Sz.zero | exact Sz.sm (by omega) (by omega) (by decide) | exact Sz.mono (by assumption) (by decide)), (by first | assumption | omega | rfl | exact Sz.zero | exact Sz.sm (by omega) (by omega) (by decide) | exact Sz.mono (by assumption) (by decide)), (by unfold Sz; omega), fun chunk H2 s2 hchunk => ?_⟩
      refine n5 <| i_nx <| i_seq <| ?_
      have hch2 : 2 ≤ chunk := by rw [hchunk]; have := pow_le' e0 (m := 1) (n := (16 : Int).toNat) (by decide); rw [Int.pow_one] at this; omega
      have hchz : Sz 9000 chunk := by rw [hchunk]; exact (Sz.pow36 e0 e1 _).mono (by decide)
      refine i_while (fun m σ H' => ∃ (x : Int) (cn : Int), σ = [some (V.int base), some (V.int coefficient), some (V.int exponent), some (V.int x), some (V.int cn), some (V.int chunk)] ∧ m = x.natAbs ∧ Same H2 H' ∧ (Lw base coefficient exponent x cn)) ?_ ?_
      ·
        exact ⟨_, _, _, rfl, rfl, (Same.refl _), (by exact Lw.init c1)⟩
      ·
        rintro m σ H3 ⟨x, cn, rfl, rfl, s3, i0⟩
        refine i_test <| i_op <| i_op <| i_cb <| i_cons <| v3 <| i_nil <| i_int <| v5 <| i_I (by show (0 : Int) < _; omega) <| i_c <| i_I0 <| i_bl <| i_ite (fun c6 => ?_) (fun c6 => ?_)
        ·
          refine i_turn <| i_seq <| i_asg <| i_op <| v3 <| v5 <| i_I (by exact divw (by omega) hchz) <| n3 <| i_nx <| i_asg <| i_op <| v4 <| i_c <| i_I0 <| n4 <| ?_
          refine ⟨_, ?_, _, _, rfl, rfl, s3, (by exact i0.step 16 hch2 (by rw [hchunk]; rfl) rfl c6)⟩
          exact i0.lt hch2 c6
        ·
          refine i_nx <| i_seq <| ?_
          refine i_while (fun m σ H' => ∃ (y : Int) (l : Int), σ = [some (V.int base), some (V.int coefficient), some (V.int exponent), some (V.int y), some (V.int l), some (V.int chunk)] ∧ m = y.natAbs ∧ Same H3 H' ∧ (Lw base coefficient exponent y l)) ?_ ?_
          ·
            exact ⟨_, _, _, rfl, rfl, (Same.refl _), (by exact i0)⟩
          ·
            rintro m σ H4 ⟨y, l, rfl, rfl, s4, j0⟩
            refine i_test <| i_op <| i_op <| i_cb <| i_cons <| v3 <| i_nil <| i_int <| v0 <| i_I (by show (0 : Int) < _; omega) <| i_c <| i_I0 <| i_bl <| i_ite (fun c9 => ?_) (fun c9 => ?_)
            ·
              refine i_turn <| i_seq <| i_asg <| i_op <| v3 <| v0 <| i_I (by exact divw (b := 6) (by omega) (by unfold Sz; omega)) <| n3 <| i_nx <| i_asg <| i_op <| v4 <| i_c <| i_I0 <| n4 <| ?_
              refine ⟨_, ?_, _, _, rfl, rfl, s4, (by exact j0.step 1 e0 (Int.pow_one _).symm rfl c9)⟩
              exact j0.lt e0 c9
            ·
              refine i_nx <| i_ret <| i_tup <| i_cons <| v3 <| i_cons <| v4 <| i_nil <| i_kTup (of_decide_eq_true rfl) (fun p5 H5 z5 s5 f5 => ?_)
              exact k _ _ _ _ (s2.trans (s3.trans (s4.trans s5))) f5 (by exact j0.done e0 c1 c9)

/-! _law_quotient -/
def sp__law_quotient (K : PySem.W.Frag) : Sp := fun vs H Q _ => ∃ (numerator : Int) (divisor : Int) (mode : Str), vs = [V.int numerator, V.int divisor, V.str mode] ∧ (0 < divisor) ∧ (Sz 9000 divisor) ∧ (Sz 9000 numerator) ∧ (mode ∈ modes9) ∧ ∀ (r : Int) (H' : Hp), Same H H' → (r = rq numerator divisor mode) → Q (V.int r) H'
abbrev s__law_quotient : Stmt := top 53
theorem sc__law_quotient : FnScope ["numerator", "divisor", "mode", "low", "rest", "closer", "farther"] ["numerator", "divisor", "mode"] (defScope s__law_quotient) := ⟨rfl, rfl, rfl, by decide +kernel, rfl, by decide +kernel, by decide +kernel⟩
theorem vis__law_quotient : visB ["numerator", "divisor", "mode", "low", "rest", "closer", "farther"] (defScope s__law_quotient) = true := by decide +kernel
theorem gl__law_quotient : glB ["int"] (defScope s__law_quotient) = true := by decide +kernel
theorem ok__law_quotient {P : Program} {w : World} {K : PySem.W.Frag} {mg : Str → Option Value} {hp9 : Heap} (T : Txt P w K mg) : OkD P w K mg hp9 1 (He.fAd K ("_law_quotient", none)) ["numerator", "divisor", "mode"] [] (sp__law_quotient K) := by
  obtain ⟨fd, F⟩ := T.d__law_quotient
  refine ⟨fd, [], F.kp, F.bindsN (fun _ _ _ _ _ _ us hl => match us, hl with | [_, _, _], _ => rfl), .nil, ?_⟩
  have sc := sc__law_quotient; have vis := vis__law_quotient; have gls := gl__law_quotient
  refine F.ok sc (fun vs H Q E h => ?_) (fun cdv A outer s H0 vs Q E hr h => ?_)
  · obtain ⟨numerator, divisor, mode, rfl, _⟩ := h; rfl
  · obtain ⟨numerator, divisor, mode, rfl, e0, e1, e2, e3, k⟩ := h
    refine ⟨_, PSs.nox (pss_cons (ps_set (i := 3) sc.nd rfl (.inl rfl) (pe_op op_fdivW (pn vis 0) (pn vis 1))) (pss_cons (ps_set (i := 4) sc.nd rfl (.inl rfl) (pe_op op_sub (pn vis 0) (pe_op op_mulX (pn vis 3) (pn vis 1)))) (pss_cons (ps_if (pt_cmpR op_eqI (pn vis 4) pe_int (nomark _)) (pss_one (ps_ret (pn vis 3))) pss_nil) (pss_cons (ps_set (i := 5) sc.nd rfl (.inl rfl) (pe_op op_add (pn vis 3) pe_int)) (pss_cons (ps_set (i := 6) sc.nd rfl (.inl rfl) (pn vis 3)) (pss_cons (ps_if (pt_cmpR op_gt (pn vis 0) pe_int (nomark _)) (pss_cons (ps_set (i := 5) sc.nd rfl (.inl rfl) (pn vis 3)) (pss_one (ps_set (i := 6) sc.nd rfl (.inl rfl) (pe_op op_add (pn vis 3) pe_int)))) pss_nil) (pss_cons (ps_if (PW.pt (pw_or (pt_cmpR op_eqS (pn vis 2) pe_str (nomark _)) (pw_or1 (pt_cmpR op_eqS (pn vis 2) pe_str (nomark _))))) (pss_one (ps_ret (pe_ix ix_list (pe_lst (pa_cons (pn vis 5) (pa_cons (pn vis 6) pa_nil))) (pcT call_intB gls 0 T.b_int boot_int (pa_cons (pe_cmpR op_eqS (pn vis 2) pe_str (nomark _)) pa_nil)) (fun _ _ => rfl)))) pss_nil) (pss_cons (ps_if (PW.pt (pw_or (pt_cmpR op_eqS (pn vis 2) pe_str (nomark _)) (pw_or1 (pt_cmpR op_eqS (pn vis 2) pe_str (nomark _))))) (pss_one (ps_ret (pe_op op_add (pn vis 3) (pcT call_intB gls 0 T.b_int boot_int (pa_cons (pe_cmpR op_eqS (pn vis 2) pe_str (nomark _)) pa_nil))))) pss_nil) (pss_cons (ps_if (pt_cmpR op_neI (pe_op op_mul pe_int (pn vis 4)) (pn vis 1) (nomark _)) (pss_one (ps_ret (pe_op op_add (pn vis 3) (pcT call_intB gls 0 T.b_int boot_int (pa_cons (pe_cmpR op_gt (pe_op op_mul pe_int (pn vis 4)) (pn vis 1) (nomark _)) pa_nil))))) pss_nil) (pss_cons (ps_if (pt_cmpR op_eqS (pn vis 2) pe_str (nomark _)) (pss_one (ps_ret (pe_op op_add (pn vis 3) (pe_op op_mod (pcT call_intI gls 0 T.b_int boot_int (pa_cons (pn vis 3) pa_nil)) pe_int)))) pss_nil) (pss_cons (ps_if (PW.pt (pw_or (pt_cmpR op_eqS (pn vis 2) pe_str (nomark _)) (pw_or1 (pt_cmpR op_eqS (pn vis 2) pe_str (nomark _))))) (pss_one (ps_ret (pe_ix ix_list (pe_lst (pa_cons (pn vis 5) (pa_cons (pn vis 6) pa_nil))) (pcT call_intB gls 0 T.b_int boot_int (pa_cons (pe_cmpR op_eqS (pn vis 2) pe_str (nomark _)) pa_nil)) (fun _ _ => rfl)))) pss_nil) (pss_one (ps_ret (pe_op op_add (pn vis 3) (pcT call_intB gls 0 T.b_int boot_int (pa_cons (pe_cmpR op_eqS (pn vis 2) pe_str (nomark _)) pa_nil)))))))))))))))), ?_⟩
    refine i_start (σ' := [some (V.int numerator), some (V.int divisor), some (V.str mode), none, none, none, none]) rfl ?_
    refine i_seq <| i_asg <| i_op <| v0 <| v1 <| i_I (by exact divw e0 e1) <| nI3 (fun low hlow => ?_)
    refine i_nx <| i_seq <| i_asg <| i_op <| v0 <| i_op <| v3 <| v1 <| i_I (by exact mulx (a := 9000) (b := 9000) (by rw [hlow]; exact div_sz e0 e2) e1) <| i_I0 <| nI4 (fun rest hrest => ?_)
    refine i_nx <| i_seq <| ?_
    have hrm : numerator % divisor = rest := by have q := Int.mul_ediv_add_emod numerator divisor; rw [hrest, hlow, Int.mul_comm]; omega
    refine i_if <| i_test <| i_op <| v4 <| i_c <| i_I0 <| i_bl <| i_ite (fun c3 => ?_) (fun c3 => ?_)
    ·
      refine i_ret <| v3 <| ?_
      exact k _ _ (Same.refl _) (by unfold rq; rw [if_pos (by omega)]; exact hlow)
    ·
      refine i_next <| i_nx <| i_seq <| ?_
      have hrz : numerator % divisor ≠ 0 := by rw [hrm]; assumption
      refine i_asg <| i_op <| v3 <| i_c <| i_I0 <| n5 <| i_nx <| i_seq <| i_asg <| v3 <| n6 <| i_nx <| i_seq <| i_if <| i_test <| i_op <| v0 <| i_c <| i_I0 <| i_bl <| i_ite (fun c7 => ?_) (fun c7 => ?_)
      ·
        refine i_seq <| i_asg <| v3 <| n5 <| i_nx <| i_asg <| i_op <| v3 <| i_c <| i_I0 <| n6 <| i_nx <| i_seq <| i_if <| i_or <| i_test <| i_op <| v2 <| i_c <| i_S0 <| i_bl <| i_ite (fun c10 => ?_) (fun c10 => ?_)
        ·
          refine i_iteT <| i_ret <| i_op <| i_lst <| i_cons <| v5 <| i_cons <| v6 <| i_nil <| i_kLst (of_decide_eq_true rfl) (fun p1 H1 z1 s1 f1 => ?_)
          refine i_cb <| i_cons <| i_op <| v2 <| i_c <| i_S0 <| i_nil <| i_intB <| i_ixL (SqL.of f1) (two_atI (by first | omega | exact (ite01 _).1) (by first | omega | exact (ite01 _).2)) <| ?_
          exact k _ _ s1 (by rw [hlow]; first | (rw [lq1 hrz (by assumption)]; simp [*]) | (rw [lq2 hrz (by assumption)]; simp [*]))
        ·
          refine i_test <| i_op <| v2 <| i_c <| i_S0 <| i_bl <| i_ite (fun c10' => ?_) (fun c10' => ?_)
          ·
            refine i_ret <| i_op <| i_lst <| i_cons <| v5 <| i_cons <| v6 <| i_nil <| i_kLst (of_decide_eq_true rfl) (fun p2 H2 z2 s2 f2 => ?_)
            refine i_cb <| i_cons <| i_op <| v2 <| i_c <| i_S0 <| i_nil <| i_intB <| i_ixL (SqL.of f2) (two_atI (by first | omega | exact (ite01 _).1) (by first | omega | exact (ite01 _).2)) <| ?_
            exact k _ _ s2 (by rw [hlow]; first | (rw [lq1 hrz (by assumption)]; simp [*]) | (rw [lq2 hrz (by assumption)]; simp [*]))
          ·
            refine i_next <| i_nx <| i_seq <| i_if <| i_or <| i_test <| i_op <| v2 <| i_c <| i_S0 <| i_bl <| i_ite (fun c12 => ?_) (fun c12 => ?_)
            ·
              refine i_iteT <| i_ret <| i_op <| v3 <| i_cb <| i_cons <| i_op <| v2 <| i_c <| i_S0 <| i_nil <| i_intB <| i_I0 <| ?_
              exact k _ _ (Same.refl _) (by rw [hlow]; first | (rw [lq3 hrz (by assumption)]; simp [*]) | (rw [lq4 hrz (by assumption)]; simp [*]))
            ·
              refine i_test <| i_op <| v2 <| i_c <| i_S0 <| i_bl <| i_ite (fun c12' => ?_) (fun c12' => ?_)
              ·
                refine i_ret <| i_op <| v3 <| i_cb <| i_cons <| i_op <| v2 <| i_c <| i_S0 <| i_nil <| i_intB <| i_I0 <| ?_
                exact k _ _ (Same.refl _) (by rw [hlow]; first | (rw [lq3 hrz (by assumption)]; simp [*]) | (rw [lq4 hrz (by assumption)]; simp [*]))
              ·
                refine i_next <| i_nx <| i_seq <| ?_
                have hnr : mode ∈ near5 := near_of4 e3 (by assumption) (by assumption) (by assumption) (by assumption)
                refine i_if <| i_test <| i_op <| i_op <| i_c <| v4 <| i_I (by first | exact .inl ⟨by decide, by decide⟩ | exact .inr ⟨by decide, by decide⟩) <| v1 <| i_I0 <| i_bl <| i_iteN (fun c14 => ?_) (fun c14 => ?_)
                ·
                  refine i_ret <| i_op <| v3 <| i_cb <| i_cons <| i_op <| i_op <| i_c <| v4 <| i_I (by first | exact .inl ⟨by decide, by decide⟩ | exact .inr ⟨by decide, by decide⟩) <| v1 <| i_I0 <| i_nil <| i_intB <| i_I0 <| ?_
                  exact k _ _ (Same.refl _) (by rw [hlow, lq5 hrz hnr (by rw [hrm]; assumption), hrm]; simp)
                ·
                  refine i_next <| i_nx <| i_seq <| ?_
                  have htie : 2 * (numerator % divisor) = divisor := by rw [hrm]; assumption
                  refine i_if <| i_test <| i_op <| v2 <| i_c <| i_S0 <| i_bl <| i_ite (fun c16 => ?_) (fun c16 => ?_)
                  ·
                    refine i_ret <| i_op <| v3 <| i_op <| i_cb <| i_cons <| v3 <| i_nil <| i_int <| i_c <| i_I (by show (0 : Int) < _; first | decide | assumption | omega) <| i_I0 <| ?_
                    exact k _ _ (Same.refl _) (by rw [hlow, lq6 hrz htie (by assumption)])
                  ·
                    refine i_next <| i_nx <| i_seq <| i_if <| i_or <| i_test <| i_op <| v2 <| i_c <| i_S0 <| i_bl <| i_ite (fun c18 => ?_) (fun c18 => ?_)
                    ·
                      refine i_iteT <| i_ret <| i_op <| i_lst <| i_cons <| v5 <| i_cons <| v6 <| i_nil <| i_kLst (of_decide_eq_true rfl) (fun p3 H3 z3 s3 f3 => ?_)
                      refine i_cb <| i_cons <| i_op <| v2 <| i_c <| i_S0 <| i_nil <| i_intB <| i_ixL (SqL.of f3) (two_atI (by first | omega | exact (ite01 _).1) (by first | omega | exact (ite01 _).2)) <| ?_
                      exact k _ _ s3 (by rw [hlow]; first | (rw [lq7 hrz htie (by assumption)]; simp [*]) | (rw [lq8 hrz htie (by assumption)]; simp [*]))
                    ·
                      refine i_test <| i_op <| v2 <| i_c <| i_S0 <| i_bl <| i_ite (fun c18' => ?_) (fun c18' => ?_)
                      ·
                        refine i_ret <| i_op <| i_lst <| i_cons <| v5 <| i_cons <| v6 <| i_nil <| i_kLst (of_decide_eq_true rfl) (fun p4 H4 z4 s4 f4 => ?_)
                        refine i_cb <| i_cons <| i_op <| v2 <| i_c <| i_S0 <| i_nil <| i_intB <| i_ixL (SqL.of f4) (two_atI (by first | omega | exact (ite01 _).1) (by first | omega | exact (ite01 _).2)) <| ?_
                        exact k _ _ s4 (by rw [hlow]; first | (rw [lq7 hrz htie (by assumption)]; simp [*]) | (rw [lq8 hrz htie (by assumption)]; simp [*]))
                      ·
                        refine i_next <| i_nx <| i_ret <| i_op <| v3 <| i_cb <| i_cons <| i_op <| v2 <| i_c <| i_S0 <| i_nil <| i_intB <| i_I0 <| ?_
                        exact k _ _ (Same.refl _) (by rw [hlow, lq9 hrz htie (ud_of hnr (by assumption) (by assumption) (by assumption))])
      ·
        refine i_next <| i_nx <| i_seq <| i_if <| i_or <| i_test <| i_op <| v2 <| i_c <| i_S0 <| i_bl <| i_ite (fun c10'' => ?_) (fun c10'' => ?_)
        ·
          refine i_iteT <| i_ret <| i_op <| i_lst <| i_cons <| v5 <| i_cons <| v6 <| i_nil <| i_kLst (of_decide_eq_true rfl) (fun p5 H5 z5 s5 f5 => ?_)
          refine i_cb <| i_cons <| i_op <| v2 <| i_c <| i_S0 <| i_nil <| i_intB <| i_ixL (SqL.of f5) (two_atI (by first | omega | exact (ite01 _).1) (by first | omega | exact (ite01 _).2)) <| ?_
          exact k _ _ s5 (by rw [hlow]; first | (rw [lq1 hrz (by assumption)]; simp [*]) | (rw [lq2 hrz (by assumption)]; simp [*]))
        ·
          refine i_test <| i_op <| v2 <| i_c <| i_S0 <| i_bl <| i_ite (fun c10''' => ?_) (fun c10''' => ?_)
          ·
            refine i_ret <| i_op <| i_lst <| i_cons <| v5 <| i_cons <| v6 <| i_nil <| i_kLst (of_decide_eq_true rfl) (fun p6 H6 z6 s6 f6 => ?_)
            refine i_cb <| i_cons <| i_op <| v2 <| i_c <| i_S0 <| i_nil <| i_intB <| i_ixL (SqL.of f6) (two_atI (by first | omega | exact (ite01 _).1) (by first | omega | exact (ite01 _).2)) <| ?_
            exact k _ _ s6 (by rw [hlow]; first | (rw [lq1 hrz (by assumption)]; simp [*]) | (rw [lq2 hrz (by assumption)]; simp [*]))
          ·
            refine i_next <| i_nx <| i_seq <| i_if <| i_or <| i_test <| i_op <| v2 <| i_c <| i_S0 <| i_bl <| i_ite (fun c12'' => ?_) (fun c12'' => ?_)
            ·
              refine i_iteT <| i_ret <| i_op <| v3 <| i_cb <| i_cons <| i_op <| v2 <| i_c <| i_S0 <| i_nil <| i_intB <| i_I0 <| ?_
              exact k _ _ (Same.refl _) (by rw [hlow]; first | (rw [lq3 hrz (by assumption)]; simp [*]) | (rw [lq4 hrz (by assumption)]; simp [*]))
            ·
              refine i_test <| i_op <| v2 <| i_c <| i_S0 <| i_bl <| i_ite (fun c12''' => ?_) (fun c12''' => ?_)
              ·
                refine i_ret <| i_op <| v3 <| i_cb <| i_cons <| i_op <| v2 <| i_c <| i_S0 <| i_nil <| i_intB <| i_I0 <| ?_
                exact k _ _ (Same.refl _) (by rw [hlow]; first | (rw [lq3 hrz (by assumption)]; simp [*]) | (rw [lq4 hrz (by assumption)]; simp [*]))
              ·
                refine i_next <| i_nx <| i_seq <| ?_
                have hnr : mode ∈ near5 := near_of4 e3 (by assumption) (by assumption) (by assumption) (by assumption)
                refine i_if <| i_test <| i_op <| i_op <| i_c <| v4 <| i_I (by first | exact .inl ⟨by decide, by decide⟩ | exact .inr ⟨by decide, by decide⟩) <| v1 <| i_I0 <| i_bl <| i_iteN (fun c14' => ?_) (fun c14' => ?_)
                ·
                  refine i_ret <| i_op <| v3 <| i_cb <| i_cons <| i_op <| i_op <| i_c <| v4 <| i_I (by first | exact .inl ⟨by decide, by decide⟩ | exact .inr ⟨by decide, by decide⟩) <| v1 <| i_I0 <| i_nil <| i_intB <| i_I0 <| ?_
                  exact k _ _ (Same.refl _) (by rw [hlow, lq5 hrz hnr (by rw [hrm]; assumption), hrm]; simp)
                ·
                  refine i_next <| i_nx <| i_seq <| ?_
                  have htie : 2 * (numerator % divisor) = divisor := by rw [hrm]; assumption
                  refine i_if <| i_test <| i_op <| v2 <| i_c <| i_S0 <| i_bl <| i_ite (fun c16' => ?_) (fun c16' => ?_)
                  ·
                    refine i_ret <| i_op <| v3 <| i_op <| i_cb <| i_cons <| v3 <| i_nil <| i_int <| i_c <| i_I (by show (0 : Int) < _; first | decide | assumption | omega) <| i_I0 <| ?_
                    exact k _ _ (Same.refl _) (by rw [hlow, lq6 hrz htie (by assumption)])
                  ·
                    refine i_next <| i_nx <| i_seq <| i_if <| i_or <| i_test <| i_op <| v2 <| i_c <| i_S0 <| i_bl <| i_ite (fun c18'' => ?_) (fun c18'' => ?_)
                    ·
                      refine i_iteT <| i_ret <| i_op <| i_lst <| i_cons <| v5 <| i_cons <| v6 <| i_nil <| i_kLst (of_decide_eq_true rfl) (fun p7 H7 z7 s7 f7 => ?_)
                      refine i_cb <| i_cons <| i_op <| v2 <| i_c <| i_S0 <| i_nil <| i_intB <| i_ixL (SqL.of f7) (two_atI (by first | omega | exact (ite01 _).1) (by first | omega | exact (ite01 _).2)) <| ?_
                      exact k _ _ s7 (by rw [hlow]; first | (rw [lq7 hrz htie (by assumption)]; simp [*]) | (rw [lq8 hrz htie (by assumption)]; simp [*]))
                    ·
                      refine i_test <| i_op <| v2 <| i_c <| i_S0 <| i_bl <| i_ite (fun c18''' => ?_) (fun c18''' => ?_)
                      ·
                        refine i_ret <| i_op <| i_lst <| i_cons <| v5 <| i_cons <| v6 <| i_nil <| i_kLst (of_decide_eq_true rfl) (fun p8 H8 z8 s8 f8 => ?_)
                        refine i_cb <| i_cons <| i_op <| v2 <| i_c <| i_S0 <| i_nil <| i_intB <| i_ixL (SqL.of f8) (two_atI (by first | omega | exact (ite01 _).1) (by first | omega | exact (ite01 _).2)) <| ?_
                        exact k _ _ s8 (by rw [hlow]; first | (rw [lq7 hrz htie (by assumption)]; simp [*]) | (rw [lq8 hrz htie (by assumption)]; simp [*]))
                      ·
                        refine i_next <| i_nx <| i_ret <| i_op <| v3 <| i_cb <| i_cons <| i_op <| v2 <| i_c <| i_S0 <| i_nil <| i_intB <| i_I0 <| ?_
                        exact k _ _ (Same.refl _) (by rw [hlow, lq9 hrz htie (ud_of hnr (by assumption) (by assumption) (by assumption))])

/-! _law_round -/
def sp__law_round (K : PySem.W.Frag) : Sp := fun vs H Q _ => ∃ (base : Int) (precision : Int) (xA : Addr) (x0 : Int) (x1 : Int) (mode : Str), vs = [V.int base, V.int precision, V.ref xA, V.str mode] ∧ H xA = some (.tup [V.int x0, V.int x1]) ∧ (2 ≤ base) ∧ (base ≤ 36) ∧ (1 ≤ precision) ∧ (Low ⟨base, x0, x1⟩) ∧ (Sz 8000 x0) ∧ (mode ∈ modes9) ∧ ∀ (rA : Addr) (r0 : Int) (r1 : Int) (H' : Hp), Same H H' → H' rA = some (.tup [V.int r0, V.int r1]) → (RdN precision ⟨base, x0, x1⟩ mode ⟨base, r0, r1⟩) → Q (V.ref rA) H'
abbrev s__law_round : Stmt := top 54
theorem sc__law_round : FnScope ["base", "precision", "x", "mode", "many"] ["base", "precision", "x", "mode"] (defScope s__law_round) := ⟨rfl, rfl, rfl, by decide +kernel, rfl, by decide +kernel, by decide +kernel⟩
theorem vis__law_round : visB ["base", "precision", "x", "mode", "many"] (defScope s__law_round) = true := by decide +kernel
theorem gl__law_round : glB ["_law_count", "_law_lowest", "_law_power", "_law_quotient"] (defScope s__law_round) = true := by decide +kernel
theorem ok__law_round {P : Program} {w : World} {K : PySem.W.Frag} {mg : Str → Option Value} {hp9 : Heap} (T : Txt P w K mg) : OkD P w K mg hp9 3 (He.fAd K ("_law_round", none)) ["base", "precision", "x", "mode"] [] (sp__law_round K) := by
  obtain ⟨fd, F⟩ := T.d__law_round
  refine ⟨fd, [], F.kp, F.bindsN (fun _ _ _ _ _ _ us hl => match us, hl with | [_, _, _, _], _ => rfl), .nil, ?_⟩
  have sc := sc__law_round; have vis := vis__law_round; have gls := gl__law_round
  refine F.ok sc (fun vs H Q E h => ?_) (fun cdv A outer s H0 vs Q E hr h => ?_)
  · obtain ⟨base, precision, xA, x0, x1, mode, rfl, _⟩ := h; rfl
  · obtain ⟨base, precision, xA, x0, x1, mode, rfl, a0, e0, e1, e2, e3, e4, e5, k⟩ := h
    refine ⟨_, PSs.nox (pss_cons (ps_set (i := 4) sc.nd rfl (.inl rfl) (pe_op op_sub (pcD (ok__law_count T) (hr.mono (by decide)) gls 0 T.g__law_count (pa_cons (pn vis 0) (pa_cons (pe_ix ix_tup (pn vis 2) pe_int (fun _ _ => rfl)) pa_nil))) (pn vis 1))) (pss_cons (ps_if (pt_cmpR op_le (pn vis 4) pe_int (nomark _)) (pss_one (ps_ret (pcD (ok__law_lowest T) (hr.mono (by decide)) gls 1 T.g__law_lowest (pa_cons (pn vis 0) (pa_cons (pe_ix ix_tup (pn vis 2) pe_int (fun _ _ => rfl)) (pa_cons (pe_ix ix_tup (pn vis 2) pe_int (fun _ _ => rfl)) pa_nil)))))) pss_nil) (pss_one (ps_ret (pcD (ok__law_lowest T) (hr.mono (by decide)) gls 1 T.g__law_lowest (pa_cons (pn vis 0) (pa_cons (pcD (ok__law_quotient T) (hr.mono (by decide)) gls 3 T.g__law_quotient (pa_cons (pe_ix ix_tup (pn vis 2) pe_int (fun _ _ => rfl)) (pa_cons (pcD (ok__law_power T) (hr.mono (by decide)) gls 2 T.g__law_power (pa_cons (pn vis 0) (pa_cons (pn vis 4) pa_nil))) (pa_cons (pn vis 3) pa_nil)))) (pa_cons (pe_op op_add (pe_ix ix_tup (pn vis 2) pe_int (fun _ _ => rfl)) (pn vis 4)) pa_nil)))))))), ?_⟩
    refine i_start (σ' := [some (V.int base), some (V.int precision), some (V.ref xA), some (V.str mode), none]) rfl ?_
    refine i_seq <| i_asg <| i_op <| i_call <| i_cons <| v0 <| i_cons <| i_op <| v2 <| i_c <| i_ixT (SqT.of a0) (atI_nat (j := 0) rfl) <| i_nil <| ⟨_, _, rfl, (by first | assumption | omega | rfl | exact Sz.zero | exact Sz.sm (by omega) (by omega) (by decide) | exact Sz.mono (by assumption) (by decide)), (by first | assumption | omega | rfl | exact Sz.zero | exact Sz.sm (by omega) (by omega) (by decide) | exact Sz.mono (by assumption) (by decide)), fun cnt H1 s1 hcnt => ?_⟩
    refine v1 <| i_I0 <| nI4 (fun many hmany => ?_)
    refine i_nx <| i_seq <| i_if <| i_test <| i_op <| v4 <| i_c <| i_I0 <| i_bl <| i_ite (fun c2 => ?_) (fun c2 => ?_)
    ·
      refine i_ret <| i_call <| i_cons <| v0 <| i_cons <| i_op <| v2 <| i_c <| i_ixT (SqT.of (s1 _ _ a0)) (atI_nat (j := 0) rfl) <| i_cons <| i_op <| v2 <| i_c <| i_ixT (SqT.of (s1 _ _ a0)) (atI_nat (j := 1) rfl) <| i_nil <| ⟨_, _, _, rfl, (by first | assumption | omega | rfl | exact Sz.zero | exact Sz.sm (by omega) (by omega) (by decide) | exact Sz.mono (by assumption) (by decide)), (by first | assumption | omega | rfl | exact Sz.zero | exact Sz.sm (by omega) (by omega) (by decide) | exact Sz.mono (by assumption) (by decide)), fun loA lo0 lo1 H2 s2 f2_0 hlo => ?_⟩
      exact k _ _ _ _ (s1.trans s2) f2_0 (by exact round_lo hcnt e3 e2 (by omega) hlo)
    ·
      refine i_next <| i_nx <| ?_
      have hdl := dg_le e0 hcnt e4
      have hcz : x0 ≠ 0 := dg_ne hcnt (by omega)
      have hpz : Sz 8000 (base ^ many.toNat) := dg_pow e0 hcnt hcz e4 (by omega)
      have hpp := pow_pos' e0 many.toNat
      refine i_ret <| i_call <| i_cons <| v0 <| i_cons <| i_call <| i_cons <| i_op <| v2 <| i_c <| i_ixT (SqT.of (s1 _ _ a0)) (atI_nat (j := 0) rfl) <| i_cons <| i_call <| i_cons <| v0 <| i_cons <| v4 <| i_nil <| ⟨_, _, rfl, (by first | assumption | omega | rfl | exact Sz.zero | exact Sz.sm (by omega) (by omega) (by decide) | exact Sz.mono (by assumption) (by decide)), (by first | assumption | omega | rfl | exact Sz.zero | exact Sz.sm (by omega) (by omega) (by decide) | exact Sz.mono (by assumption) (by decide)), (by unfold Sz; omega), fun pw H3 s3 hpw => ?_⟩
      refine i_cons <| v3 <| i_nil <| ⟨_, _, _, rfl, (by rw [hpw]; omega), (by rw [hpw]; exact hpz.mono (by decide)), (by exact e4.mono (by decide)), (by first | assumption | omega | rfl | exact Sz.zero | exact Sz.sm (by omega) (by omega) (by decide) | exact Sz.mono (by assumption) (by decide)), fun qu H4 s4 hqu => ?_⟩
      refine i_cons <| i_op <| i_op <| v2 <| i_c <| i_ixT (SqT.of ((s1.trans (s3.trans s4)) _ _ a0)) (atI_nat (j := 1) rfl) <| v4 <| i_I0 <| i_nil <| ⟨_, _, _, rfl, (by first | assumption | omega | rfl | exact Sz.zero | exact Sz.sm (by omega) (by omega) (by decide) | exact Sz.mono (by assumption) (by decide)), (by first | assumption | omega | rfl | exact Sz.zero | exact Sz.sm (by omega) (by omega) (by decide) | exact Sz.mono (by assumption) (by decide)), fun hiA hi0 hi1 H5 s5 f5_0 hhi => ?_⟩
      exact k _ _ _ _ (s1.trans (s3.trans (s4.trans s5))) f5_0 (by have q := hhi; rw [hqu, hpw, hmany] at q; exact round_hi hcnt e2 (by omega) q)

/-! _law_full@n -/
def sp__law_full_n (K : PySem.W.Frag) : Sp := fun vs H Q _ => ∃ (sourceA : Addr) (base : Int) (precision : Int), vs = [V.ref sourceA, V.int base, V.int precision] ∧ IsSrc H sourceA ∧ (2 ≤ base) ∧ (base ≤ 36) ∧ (3 ≤ precision) ∧ (precision ≤ 42) ∧ ∀ (r : Int) (H' : Hp), Z.Ext H H' → IsSrc H' sourceA → (1 ≤ r) → (r < base ^ precision.toNat) → (Sz 300 r) → Q (V.int r) H'
abbrev s__law_full_n : Stmt := top 55
theorem sc__law_full_n : FnScope ["source", "base", "precision", "least", "kind", "result", "k"] ["source", "base", "precision"] (defScope s__law_full_n) := ⟨rfl, rfl, rfl, by decide +kernel, rfl, by decide +kernel, by decide +kernel⟩
theorem vis__law_full_n : visB ["source", "base", "precision", "least", "kind", "result", "k"] (defScope s__law_full_n) = true := by decide +kernel
theorem gl__law_full_n : glB ["_law_power", "_law_draw", "range"] (defScope s__law_full_n) = true := by decide +kernel
theorem ok__law_full_n {P : Program} {w : World} {K : PySem.W.Frag} {mg : Str → Option Value} {hp9 : Heap} (T : Txt P w K mg) : OkD P w K mg hp9 2 (He.fAd K ("_law_full", none)) ["source", "base", "precision"] [] (sp__law_full_n K) := by
  obtain ⟨fd, F⟩ := T.d__law_full
  refine ⟨fd, [], F.kp, F.bindsN (fun _ _ _ _ _ _ us hl => match us, hl with | [_, _, _], _ => rfl), .nil, ?_⟩
  have sc := sc__law_full_n; have vis := vis__law_full_n; have gls := gl__law_full_n
  refine F.ok sc (fun vs H Q E h => ?_) (fun cdv A outer s H0 vs Q E hr h => ?_)
  · obtain ⟨sourceA, base, precision, rfl, _⟩ := h; rfl
  · obtain ⟨sourceA, base, precision, rfl, a0, e0, e1, e2, e3, k⟩ := h
    refine ⟨_, PSs.nox (pss_cons (ps_set (i := 3) sc.nd rfl (.inl rfl) (pcD (ok__law_power T) (hr.mono (by decide)) gls 0 T.g__law_power (pa_cons (pn vis 1) (pa_cons (pe_op op_sub (pn vis 2) pe_int) pa_nil)))) (pss_cons (ps_set (i := 4) sc.nd rfl (.inl rfl) (pcD (ok__law_draw T) (hr.mono (by decide)) gls 1 T.g__law_draw (pa_cons (pn vis 0) (pa_cons pe_int pa_nil)))) (pss_cons (ps_if (pt_cmpR op_eqI (pn vis 4) pe_int (nomark _)) (pss_one (ps_ret (pe_op op_sub (pe_op op_mulX (pn vis 3) (pn vis 1)) pe_int))) pss_nil) (pss_cons (ps_if (pt_cmpR op_eqI (pn vis 4) pe_int (nomark _)) (pss_one (ps_ret (pn vis 3))) pss_nil) (pss_cons (ps_if (pt_cmpR op_eqI (pn vis 4) pe_int (nomark _)) (pss_one (ps_ret (pe_op op_add (pn vis 3) pe_int))) pss_nil) (pss_cons (ps_if (pt_cmpR op_eqI (pn vis 4) pe_int (nomark _)) (pss_one (ps_ret (pe_op op_sub (pe_op op_sub (pe_op op_mulX (pn vis 3) (pn vis 1)) pe_int) (pcD (ok__law_draw T) (hr.mono (by decide)) gls 1 T.g__law_draw (pa_cons (pn vis 0) (pa_cons (pn vis 1) pa_nil)))))) pss_nil) (pss_cons (ps_if (pt_cmpR op_eqI (pn vis 4) pe_int (nomark _)) (pss_one (ps_ret (pe_op op_sub (pe_op op_sub (pe_op op_mulX (pn vis 3) (pn vis 1)) pe_int) (pcD (ok__law_power T) (hr.mono (by decide)) gls 0 T.g__law_power (pa_cons (pn vis 1) (pa_cons (pcD (ok__law_draw T) (hr.mono (by decide)) gls 1 T.g__law_draw (pa_cons (pn vis 0) (pa_cons (pe_op op_sub (pn vis 2) pe_int) pa_nil))) pa_nil)))))) pss_nil) (pss_cons (ps_set (i := 5) sc.nd rfl (.inl rfl) (pe_op op_add pe_int (pcD (ok__law_draw T) (hr.mono (by decide)) gls 1 T.g__law_draw (pa_cons (pn vis 0) (pa_cons (pe_op op_sub (pn vis 1) pe_int) pa_nil))))) (pss_cons (ps_for PassesOwn.never rfl (pi_range1 (gl_of gls (i := 2) rfl).1 T.b_range (pa_cons (pe_op op_sub (pn vis 2) pe_int) pa_nil)) (pg_name (i := 6) sc.nd rfl (.inl rfl)) (pss_one (ps_set (i := 5) sc.nd rfl (.inl rfl) (pe_op op_add (pe_op op_mulX (pn vis 5) (pn vis 1)) (pcD (ok__law_draw T) (hr.mono (by decide)) gls 1 T.g__law_draw (pa_cons (pn vis 0) (pa_cons (pn vis 1) pa_nil))))))) (pss_one (ps_ret (pn vis 5)))))))))))), ?_⟩
    refine i_start (σ' := [some (V.ref sourceA), some (V.int base), some (V.int precision), none, none, none, none]) rfl ?_
    refine i_seq <| i_asg <| i_call <| i_cons <| v1 <| i_cons <| i_op <| v2 <| i_c <| i_I0 <| i_nil <| ⟨_, _, rfl, (by first | assumption | omega | rfl | exact Sz.zero | exact Sz.sm (by omega) (by omega) (by decide) | exact Sz.mono (by assumption) (by decide)), (by first | assumption | omega | rfl | exact Sz.zero | exact Sz.sm (by omega) (by omega) (by decide) | exact Sz.mono (by assumption) (by decide)), (by unfold Sz; omega), fun least H1 s1 hleast => ?_⟩
    refine n3 <| i_nx <| i_seq <| ?_
    have hb : Sz 6 base := by unfold Sz; omega
    have hl : Sz 247 least := by rw [hleast]; exact (Sz.pow36 e0 e1 _).mono (by omega)
    obtain ⟨f1, f2, f3, f4⟩ := full_le e0 e2 hleast
    have hz : Sz 260 (base ^ precision.toNat) := (Sz.pow36 e0 e1 _).mono (by omega)
    refine i_asg <| i_call <| i_cons <| v0 <| i_cons <| i_c <| i_nil <| ⟨_, _, rfl, (same_src s1 a0), (by first | assumption | omega | rfl | exact Sz.zero | exact Sz.sm (by omega) (by omega) (by decide) | exact Sz.mono (by assumption) (by decide)), (by first | assumption | omega | rfl | exact Sz.zero | exact Sz.sm (by omega) (by omega) (by decide) | exact Sz.mono (by assumption) (by decide)), fun kind H2 s2 g2 hkind0 hkind1 hkind2 => ?_⟩
    refine n4 <| i_nx <| i_seq <| i_if <| i_test <| i_op <| v4 <| i_c <| i_I0 <| i_bl <| i_ite (fun c3 => ?_) (fun c3 => ?_)
    ·
      refine i_ret <| i_op <| i_op <| v3 <| v1 <| i_I (by exact mulx hl hb) <| i_c <| i_I0 <| ?_
      exact k _ _ ((ext_of s1).trans s2) g2 (by omega) (by omega) (by exact (hz.mono (by decide)).le (by omega))
    ·
      refine i_next <| i_nx <| i_seq <| i_if <| i_test <| i_op <| v4 <| i_c <| i_I0 <| i_bl <| i_ite (fun c5 => ?_) (fun c5 => ?_)
      ·
        refine i_ret <| v3 <| ?_
        exact k _ _ ((ext_of s1).trans s2) g2 (by omega) (by omega) (by exact (hz.mono (by decide)).le (by omega))
      ·
        refine i_next <| i_nx <| i_seq <| i_if <| i_test <| i_op <| v4 <| i_c <| i_I0 <| i_bl <| i_ite (fun c7 => ?_) (fun c7 => ?_)
        ·
          refine i_ret <| i_op <| v3 <| i_c <| i_I0 <| ?_
          exact k _ _ ((ext_of s1).trans s2) g2 (by omega) (by omega) (by exact (hz.mono (by decide)).le (by omega))
        ·
          refine i_next <| i_nx <| i_seq <| i_if <| i_test <| i_op <| v4 <| i_c <| i_I0 <| i_bl <| i_ite (fun c9 => ?_) (fun c9 => ?_)
          ·
            refine i_ret <| i_op <| i_op <| i_op <| v3 <| v1 <| i_I (by exact mulx hl hb) <| i_c <| i_I0 <| i_call <| i_cons <| v0 <| i_cons <| v1 <| i_nil <| ⟨_, _, rfl, g2, (by first | assumption | omega | rfl | exact Sz.zero | exact Sz.sm (by omega) (by omega) (by decide) | exact Sz.mono (by assumption) (by decide)), (by first | assumption | omega | rfl | exact Sz.zero | exact Sz.sm (by omega) (by omega) (by decide) | exact Sz.mono (by assumption) (by decide)), fun d H3 s3 g3 hd0 hd1 hd2 => ?_⟩
            refine i_I0 <| ?_
            exact k _ _ ((ext_of s1).trans (s2.trans s3)) g3 (by omega) (by omega) (by exact (hz.mono (by decide)).le (by omega))
          ·
            refine i_next <| i_nx <| i_seq <| i_if <| i_test <| i_op <| v4 <| i_c <| i_I0 <| i_bl <| i_ite (fun c11 => ?_) (fun c11 => ?_)
            ·
              refine i_ret <| i_op <| i_op <| i_op <| v3 <| v1 <| i_I (by exact mulx hl hb) <| i_c <| i_I0 <| i_call <| i_cons <| v1 <| i_cons <| i_call <| i_cons <| v0 <| i_cons <| i_op <| v2 <| i_c <| i_I0 <| i_nil <| ⟨_, _, rfl, g2, (by first | assumption | omega | rfl | exact Sz.zero | exact Sz.sm (by omega) (by omega) (by decide) | exact Sz.mono (by assumption) (by decide)), (by first | assumption | omega | rfl | exact Sz.zero | exact Sz.sm (by omega) (by omega) (by decide) | exact Sz.mono (by assumption) (by decide)), fun dd H4 s4 g4 hdd0 hdd1 hdd2 => ?_⟩
              refine i_nil <| ⟨_, _, rfl, (by first | assumption | omega | rfl | exact Sz.zero | exact Sz.sm (by omega) (by omega) (by decide) | exact Sz.mono (by assumption) (by decide)), (by first | assumption | omega | rfl | exact Sz.zero | exact Sz.sm (by omega) (by omega) (by decide) | exact Sz.mono (by assumption) (by decide)), (by exact hb), fun pw H5 s5 hpw => ?_⟩
              refine i_I0 <| ?_
              exact k _ _ ((ext_of s1).trans (s2.trans (s4.trans (ext_of s5)))) (same_src s5 g4) (by have g1 := pow_pos' e0 dd.toNat; have g2 := pow_le' e0 (show dd.toNat ≤ (precision - 1).toNat by omega); rw [hpw]; omega) (by have g1 := pow_pos' e0 dd.toNat; have g2 := pow_le' e0 (show dd.toNat ≤ (precision - 1).toNat by omega); rw [hpw]; omega) (by have g1 := pow_pos' e0 dd.toNat; have g2 := pow_le' e0 (show dd.toNat ≤ (precision - 1).toNat by omega); rw [hpw]; exact (hz.mono (by decide)).le (by omega))
            ·
              refine i_next <| i_nx <| i_seq <| i_asg <| i_op <| i_c <| i_call <| i_cons <| v0 <| i_cons <| i_op <| v1 <| i_c <| i_I0 <| i_nil <| ⟨_, _, rfl, g2, (by first | assumption | omega | rfl | exact Sz.zero | exact Sz.sm (by omega) (by omega) (by decide) | exact Sz.mono (by assumption) (by decide)), (by first | assumption | omega | rfl | exact Sz.zero | exact Sz.sm (by omega) (by omega) (by decide) | exact Sz.mono (by assumption) (by decide)), fun result H6 s6 g6 hresult0 hresult1 hresult2 => ?_⟩
              refine i_I0 <| n5 <| i_nx <| i_seq <| i_for <| i_for1 <| i_cons <| i_op <| v2 <| i_c <| i_I0 <| i_nil <| i_rng1 (fun i σ H' => ∃ (x : Int) (o_k : Option V), σ = [some (V.ref sourceA), some (V.int base), some (V.int precision), some (V.int least), some (V.int kind), some (V.int x), o_k] ∧ Z.Ext H6 H' ∧ IsSrc H' sourceA ∧ (1 ≤ x) ∧ (x < base ^ (i + 1))) (by omega) (by omega) ?_ ?_ ?_
              ·
                exact ⟨_, _, rfl, (Z.Ext.refl _), g6, (by first | rfl | assumption | omega), (by rw [Nat.zero_add, Int.pow_one]; omega)⟩
              ·
                intro i
                rintro σ H7 hi ⟨x, o_k, rfl, s7, g7, i0, i1⟩
                refine n6 <| ?_
                have hxz : Sz 250 x := (Sz.pow36 e0 e1 (i + 1)).le (by omega) |>.mono (by omega)
                have g1 := Int.mul_le_mul_of_nonneg_right (show x + 1 ≤ base ^ (i + 1) by omega) (show 0 ≤ base by omega)
                rw [Int.add_mul, Int.one_mul] at g1
                have g2 := Int.mul_le_mul_of_nonneg_right i0 (show 0 ≤ base by omega)
                rw [Int.one_mul] at g2
                refine i_asg <| i_op <| i_op <| v5 <| v1 <| i_I (by exact mulx hxz hb) <| i_call <| i_cons <| v0 <| i_cons <| v1 <| i_nil <| ⟨_, _, rfl, g7, (by first | assumption | omega | rfl | exact Sz.zero | exact Sz.sm (by omega) (by omega) (by decide) | exact Sz.mono (by assumption) (by decide)), (by first | assumption | omega | rfl | exact Sz.zero | exact Sz.sm (by omega) (by omega) (by decide) | exact Sz.mono (by assumption) (by decide)), fun d H8 s8 g8 hd0 hd1 hd2 => ?_⟩
                refine i_I0 <| n5 <| ?_
                exact ⟨_, _, rfl, (s7.trans s8), g8, (by omega), (by rw [Int.pow_succ]; omega)⟩
              ·
                rintro σ H9 ⟨x, o_k, rfl, s9, g9, i0, i1⟩
                refine i_nx <| i_ret <| v5 <| ?_
                exact k _ _ ((ext_of s1).trans (s2.trans (s6.trans s9))) g9 (by exact i0) (by have q := i1; rw [show (precision - 1).toNat + 1 = precision.toNat by omega] at q; exact q) (by have q := i1; rw [show (precision - 1).toNat + 1 = precision.toNat by omega] at q; exact (hz.mono (by decide)).le (by omega))

/-! _law_full@m -/
def sp__law_full_m (K : PySem.W.Frag) : Sp := fun vs H Q _ => ∃ (sourceA : Addr) (base : Int) (precision : Int), vs = [V.ref sourceA, V.int base, V.int precision] ∧ IsSrc H sourceA ∧ (2 ≤ base) ∧ (base ≤ 36) ∧ (3 ≤ precision) ∧ (precision ≤ 42) ∧ ∀ (r : Int) (H' : Hp), Z.Ext H H' → IsSrc H' sourceA → (base ^ (precision - 1).toNat ≤ r) → (r < base ^ precision.toNat) → (Sz 300 r) → Q (V.int r) H'
abbrev s__law_full_m : Stmt := top 55
theorem sc__law_full_m : FnScope ["source", "base", "precision", "least", "kind", "result", "k"] ["source", "base", "precision"] (defScope s__law_full_m) := ⟨rfl, rfl, rfl, by decide +kernel, rfl, by decide +kernel, by decide +kernel⟩
theorem vis__law_full_m : visB ["source", "base", "precision", "least", "kind", "result", "k"] (defScope s__law_full_m) = true := by decide +kernel
theorem gl__law_full_m : glB ["_law_power", "_law_draw", "range"] (defScope s__law_full_m) = true := by decide +kernel
theorem ok__law_full_m {P : Program} {w : World} {K : PySem.W.Frag} {mg : Str → Option Value} {hp9 : Heap} (T : Txt P w K mg) : OkD P w K mg hp9 2 (He.fAd K ("_law_full", none)) ["source", "base", "precision"] [] (sp__law_full_m K) := by
  obtain ⟨fd, F⟩ := T.d__law_full
  refine ⟨fd, [], F.kp, F.bindsN (fun _ _ _ _ _ _ us hl => match us, hl with | [_, _, _], _ => rfl), .nil, ?_⟩
  have sc := sc__law_full_m; have vis := vis__law_full_m; have gls := gl__law_full_m
  refine F.ok sc (fun vs H Q E h => ?_) (fun cdv A outer s H0 vs Q E hr h => ?_)
  · obtain ⟨sourceA, base, precision, rfl, _⟩ := h; rfl
  · obtain ⟨sourceA, base, precision, rfl, a0, e0, e1, e2, e3, k⟩ := h
    refine ⟨_, PSs.nox (pss_cons (ps_set (i := 3) sc.nd rfl (.inl rfl) (pcD (ok__law_power T) (hr.mono (by decide)) gls 0 T.g__law_power (pa_cons (pn vis 1) (pa_cons (pe_op op_sub (pn vis 2) pe_int) pa_nil)))) (pss_cons (ps_set (i := 4) sc.nd rfl (.inl rfl) (pcD (ok__law_draw T) (hr.mono (by decide)) gls 1 T.g__law_draw (pa_cons (pn vis 0) (pa_cons pe_int pa_nil)))) (pss_cons (ps_if (pt_cmpR op_eqI (pn vis 4) pe_int (nomark _)) (pss_one (ps_ret (pe_op op_sub (pe_op op_mulX (pn vis 3) (pn vis 1)) pe_int))) pss_nil) (pss_cons (ps_if (pt_cmpR op_eqI (pn vis 4) pe_int (nomark _)) (pss_one (ps_ret (pn vis 3))) pss_nil) (pss_cons (ps_if (pt_cmpR op_eqI (pn vis 4) pe_int (nomark _)) (pss_one (ps_ret (pe_op op_add (pn vis 3) pe_int))) pss_nil) (pss_cons (ps_if (pt_cmpR op_eqI (pn vis 4) pe_int (nomark _)) (pss_one (ps_ret (pe_op op_sub (pe_op op_sub (pe_op op_mulX (pn vis 3) (pn vis 1)) pe_int) (pcD (ok__law_draw T) (hr.mono (by decide)) gls 1 T.g__law_draw (pa_cons (pn vis 0) (pa_cons (pn vis 1) pa_nil)))))) pss_nil) (pss_cons (ps_if (pt_cmpR op_eqI (pn vis 4) pe_int (nomark _)) (pss_one (ps_ret (pe_op op_sub (pe_op op_sub (pe_op op_mulX (pn vis 3) (pn vis 1)) pe_int) (pcD (ok__law_power T) (hr.mono (by decide)) gls 0 T.g__law_power (pa_cons (pn vis 1) (pa_cons (pcD (ok__law_draw T) (hr.mono (by decide)) gls 1 T.g__law_draw (pa_cons (pn vis 0) (pa_cons (pe_op op_sub (pn vis 2) pe_int) pa_nil))) pa_nil)))))) pss_nil) (pss_cons (ps_set (i := 5) sc.nd rfl (.inl rfl) (pe_op op_add pe_int (pcD (ok__law_draw T) (hr.mono (by decide)) gls 1 T.g__law_draw (pa_cons (pn vis 0) (pa_cons (pe_op op_sub (pn vis 1) pe_int) pa_nil))))) (pss_cons (ps_for PassesOwn.never rfl (pi_range1 (gl_of gls (i := 2) rfl).1 T.b_range (pa_cons (pe_op op_sub (pn vis 2) pe_int) pa_nil)) (pg_name (i := 6) sc.nd rfl (.inl rfl)) (pss_one (ps_set (i := 5) sc.nd rfl (.inl rfl) (pe_op op_add (pe_op op_mulX (pn vis 5) (pn vis 1)) (pcD (ok__law_draw T) (hr.mono (by decide)) gls 1 T.g__law_draw (pa_cons (pn vis 0) (pa_cons (pn vis 1) pa_nil))))))) (pss_one (ps_ret (pn vis 5)))))))))))), ?_⟩
    refine i_start (σ' := [some (V.ref sourceA), some (V.int base), some (V.int precision), none, none, none, none]) rfl ?_
    refine i_seq <| i_asg <| i_call <| i_cons <| v1 <| i_cons <| i_op <| v2 <| i_c <| i_I0 <| i_nil <| ⟨_, _, rfl, (by first | assumption | omega | rfl | exact Sz.zero | exact Sz.sm (by omega) (by omega) (by decide) | exact Sz.mono (by assumption) (by decide)), (by first | assumption | omega | rfl | exact Sz.zero | exact Sz.sm (by omega) (by omega) (by decide) | exact Sz.mono (by assumption) (by decide)), (by unfold Sz; omega), fun least H1 s1 hleast => ?_⟩
    refine n3 <| i_nx <| i_seq <| ?_
    have hb : Sz 6 base := by unfold Sz; omega
    have hl : Sz 247 least := by rw [hleast]; exact (Sz.pow36 e0 e1 _).mono (by omega)
    obtain ⟨f1, f2, f3, f4⟩ := full_le e0 e2 hleast
    have hz : Sz 260 (base ^ precision.toNat) := (Sz.pow36 e0 e1 _).mono (by omega)
    refine i_asg <| i_call <| i_cons <| v0 <| i_cons <| i_c <| i_nil <| ⟨_, _, rfl, (same_src s1 a0), (by first | assumption | omega | rfl | exact Sz.zero | exact Sz.sm (by omega) (by omega) (by decide) | exact Sz.mono (by assumption) (by decide)), (by first | assumption | omega | rfl | exact Sz.zero | exact Sz.sm (by omega) (by omega) (by decide) | exact Sz.mono (by assumption) (by decide)), fun kind H2 s2 g2 hkind0 hkind1 hkind2 => ?_⟩
    refine n4 <| i_nx <| i_seq <| i_if <| i_test <| i_op <| v4 <| i_c <| i_I0 <| i_bl <| i_ite (fun c3 => ?_) (fun c3 => ?_)
    ·
      refine i_ret <| i_op <| i_op <| v3 <| v1 <| i_I (by exact mulx hl hb) <| i_c <| i_I0 <| ?_
      exact k _ _ ((ext_of s1).trans s2) g2 (by omega) (by omega) (by exact (hz.mono (by decide)).le (by omega))
    ·
      refine i_next <| i_nx <| i_seq <| i_if <| i_test <| i_op <| v4 <| i_c <| i_I0 <| i_bl <| i_ite (fun c5 => ?_) (fun c5 => ?_)
      ·
        refine i_ret <| v3 <| ?_
        exact k _ _ ((ext_of s1).trans s2) g2 (by omega) (by omega) (by exact (hz.mono (by decide)).le (by omega))
      ·
        refine i_next <| i_nx <| i_seq <| i_if <| i_test <| i_op <| v4 <| i_c <| i_I0 <| i_bl <| i_ite (fun c7 => ?_) (fun c7 => ?_)
        ·
          refine i_ret <| i_op <| v3 <| i_c <| i_I0 <| ?_
          exact k _ _ ((ext_of s1).trans s2) g2 (by omega) (by omega) (by exact (hz.mono (by decide)).le (by omega))
        ·
          refine i_next <| i_nx <| i_seq <| i_if <| i_test <| i_op <| v4 <| i_c <| i_I0 <| i_bl <| i_ite (fun c9 => ?_) (fun c9 => ?_)
          ·
            refine i_ret <| i_op <| i_op <| i_op <| v3 <| v1 <| i_I (by exact mulx hl hb) <| i_c <| i_I0 <| i_call <| i_cons <| v0 <| i_cons <| v1 <| i_nil <| ⟨_, _, rfl, g2, (by first | assumption | omega | rfl | exact Sz.zero | exact Sz.sm (by omega) (by omega) (by decide) | exact Sz.mono (by assumption) (by decide)), (by first | assumption | omega | rfl | exact Sz.zero | exact Sz.sm (by omega) (by omega) (by decide) | exact Sz.mono (by assumption) (by decide)), fun d H3 s3 g3 hd0 hd1 hd2 => ?_⟩
            refine i_I0 <| ?_
            exact k _ _ ((ext_of s1).trans (s2.trans s3)) g3 (by omega) (by omega) (by exact (hz.mono (by decide)).le (by omega))
          ·
            refine i_next <| i_nx <| i_seq <| i_if <| i_test <| i_op <| v4 <| i_c <| i_I0 <| i_bl <| i_ite (fun c11 => ?_) (fun c11 => ?_)
            ·
              refine i_ret <| i_op <| i_op <| i_op <| v3 <| v1 <| i_I (by exact mulx hl hb) <| i_c <| i_I0 <| i_call <| i_cons <| v1 <| i_cons <| i_call <| i_cons <| v0 <| i_cons <| i_op <| v2 <| i_c <| i_I0 <| i_nil <| ⟨_, _, rfl, g2, (by first | assumption | omega | rfl | exact Sz.zero | exact Sz.sm (by omega) (by omega) (by decide) | exact Sz.mono (by assumption) (by decide)), (by first | assumption | omega | rfl | exact Sz.zero | exact Sz.sm (by omega) (by omega) (by decide) | exact Sz.mono (by assumption) (by decide)), fun dd H4 s4 g4 hdd0 hdd1 hdd2 => ?_⟩
              refine i_nil <| ⟨_, _, rfl, (by first | assumption | omega | rfl | exact Sz.zero | exact Sz.sm (by omega) (by omega) (by decide) | exact Sz.mono (by assumption) (by decide)), (by first | assumption | omega | rfl | exact Sz.zero | exact Sz.sm (by omega) (by omega) (by decide) | exact Sz.mono (by assumption) (by decide)), (by exact hb), fun pw H5 s5 hpw => ?_⟩
              refine i_I0 <| ?_
              exact k _ _ ((ext_of s1).trans (s2.trans (s4.trans (ext_of s5)))) (same_src s5 g4) (by have g1 := pow_pos' e0 dd.toNat; have g2 := pow_le' e0 (show dd.toNat + 1 ≤ (precision - 1).toNat by omega); rw [Int.pow_succ] at g2; have g3 := Int.mul_le_mul_of_nonneg_left e0 (show 0 ≤ base ^ dd.toNat by omega); rw [hpw]; omega) (by have g1 := pow_pos' e0 dd.toNat; have g2 := pow_le' e0 (show dd.toNat ≤ (precision - 1).toNat by omega); rw [hpw]; omega) (by have g1 := pow_pos' e0 dd.toNat; have g2 := pow_le' e0 (show dd.toNat ≤ (precision - 1).toNat by omega); rw [hpw]; exact (hz.mono (by decide)).le (by omega))
            ·
              refine i_next <| i_nx <| i_seq <| i_asg <| i_op <| i_c <| i_call <| i_cons <| v0 <| i_cons <| i_op <| v1 <| i_c <| i_I0 <| i_nil <| ⟨_, _, rfl, g2, (by first | assumption | omega | rfl | exact Sz.zero | exact Sz.sm (by omega) (by omega) (by decide) | exact Sz.mono (by assumption) (by decide)), (by first | assumption | omega | rfl | exact Sz.zero | exact Sz.sm (by omega) (by omega) (by decide) | exact Sz.mono (by assumption) (by decide)), fun result H6 s6 g6 hresult0 hresult1 hresult2 => ?_⟩
              refine i_I0 <| n5 <| i_nx <| i_seq <| i_for <| i_for1 <| i_cons <| i_op <| v2 <| i_c <| i_I0 <| i_nil <| i_rng1 (fun i σ H' => ∃ (x : Int) (o_k : Option V), σ = [some (V.ref sourceA), some (V.int base), some (V.int precision), some (V.int least), some (V.int kind), some (V.int x), o_k] ∧ Z.Ext H6 H' ∧ IsSrc H' sourceA ∧ (base ^ i ≤ x) ∧ (x < base ^ (i + 1))) (by omega) (by omega) ?_ ?_ ?_
              ·
                exact ⟨_, _, rfl, (Z.Ext.refl _), g6, (by rw [Int.pow_zero]; omega), (by rw [Nat.zero_add, Int.pow_one]; omega)⟩
              ·
                intro i
                rintro σ H7 hi ⟨x, o_k, rfl, s7, g7, i0, i1⟩
                refine n6 <| ?_
                have gi := pow_pos' e0 i
                have hxz : Sz 250 x := (Sz.pow36 e0 e1 (i + 1)).le (by omega) |>.mono (by omega)
                have g1 := Int.mul_le_mul_of_nonneg_right (show x + 1 ≤ base ^ (i + 1) by omega) (show 0 ≤ base by omega)
                rw [Int.add_mul, Int.one_mul] at g1
                have g5 := Int.mul_le_mul_of_nonneg_right i0 (show 0 ≤ base by omega)
                have g2 := Int.mul_le_mul_of_nonneg_right (show 1 ≤ x by omega) (show 0 ≤ base by omega)
                rw [Int.one_mul] at g2
                refine i_asg <| i_op <| i_op <| v5 <| v1 <| i_I (by exact mulx hxz hb) <| i_call <| i_cons <| v0 <| i_cons <| v1 <| i_nil <| ⟨_, _, rfl, g7, (by first | assumption | omega | rfl | exact Sz.zero | exact Sz.sm (by omega) (by omega) (by decide) | exact Sz.mono (by assumption) (by decide)), (by first | assumption | omega | rfl | exact Sz.zero | exact Sz.sm (by omega) (by omega) (by decide) | exact Sz.mono (by assumption) (by decide)), fun d H8 s8 g8 hd0 hd1 hd2 => ?_⟩
                refine i_I0 <| n5 <| ?_
                exact ⟨_, _, rfl, (s7.trans s8), g8, (by rw [Int.pow_succ]; omega), (by rw [Int.pow_succ]; omega)⟩
              ·
                rintro σ H9 ⟨x, o_k, rfl, s9, g9, i0, i1⟩
                refine i_nx <| i_ret <| v5 <| ?_
                exact k _ _ ((ext_of s1).trans (s2.trans (s6.trans s9))) g9 (by have q := i0; exact q) (by have q := i1; rw [show (precision - 1).toNat + 1 = precision.toNat by omega] at q; exact q) (by have q := i1; rw [show (precision - 1).toNat + 1 = precision.toNat by omega] at q; exact (hz.mono (by decide)).le (by omega))

/-! _law_small -/
def sp__law_small (K : PySem.W.Frag) : Sp := fun vs H Q _ => ∃ (sourceA : Addr), vs = [V.ref sourceA] ∧ IsSrc H sourceA ∧ ∀ (r : Int) (H' : Hp), Z.Ext H H' → IsSrc H' sourceA → (-20 ≤ r) → (r ≤ 20) → Q (V.int r) H'
abbrev s__law_small : Stmt := top 56
theorem sc__law_small : FnScope ["source", "size"] ["source"] (defScope s__law_small) := ⟨rfl, rfl, rfl, by decide +kernel, rfl, by decide +kernel, by decide +kernel⟩
theorem vis__law_small : visB ["source", "size"] (defScope s__law_small) = true := by decide +kernel
theorem gl__law_small : glB ["_law_draw"] (defScope s__law_small) = true := by decide +kernel
theorem ok__law_small {P : Program} {w : World} {K : PySem.W.Frag} {mg : Str → Option Value} {hp9 : Heap} (T : Txt P w K mg) : OkD P w K mg hp9 2 (He.fAd K ("_law_small", none)) ["source"] [] (sp__law_small K) := by
  obtain ⟨fd, F⟩ := T.d__law_small
  refine ⟨fd, [], F.kp, F.bindsN (fun _ _ _ _ _ _ us hl => match us, hl with | [_], _ => rfl), .nil, ?_⟩
  have sc := sc__law_small; have vis := vis__law_small; have gls := gl__law_small
  refine F.ok sc (fun vs H Q E h => ?_) (fun cdv A outer s H0 vs Q E hr h => ?_)
  · obtain ⟨sourceA, rfl, _⟩ := h; rfl
  · obtain ⟨sourceA, rfl, a0, k⟩ := h
    refine ⟨_, PSs.nox (pss_cons (ps_set (i := 1) sc.nd rfl (.inl rfl) (pcD (ok__law_draw T) (hr.mono (by decide)) gls 0 T.g__law_draw (pa_cons (pn vis 0) (pa_cons pe_int pa_nil)))) (pss_cons (ps_if (pt_cmpR op_gt (pn vis 1) pe_int (nomark _)) (pss_one (ps_ret (pe_op op_sub pe_int (pn vis 1)))) pss_nil) (pss_one (ps_ret (pn vis 1))))), ?_⟩
    refine i_start (σ' := [some (V.ref sourceA), none]) rfl ?_
    refine i_seq <| i_asg <| i_call <| i_cons <| v0 <| i_cons <| i_c <| i_nil <| ⟨_, _, rfl, a0, (by first | assumption | omega | rfl | exact Sz.zero | exact Sz.sm (by omega) (by omega) (by decide) | exact Sz.mono (by assumption) (by decide)), (by first | assumption | omega | rfl | exact Sz.zero | exact Sz.sm (by omega) (by omega) (by decide) | exact Sz.mono (by assumption) (by decide)), fun size H1 s1 g1 hsize0 hsize1 hsize2 => ?_⟩
    refine n1 <| i_nx <| i_seq <| i_if <| i_test <| i_op <| v1 <| i_c <| i_I0 <| i_bl <| i_ite (fun c2 => ?_) (fun c2 => ?_)
    ·
      refine i_ret <| i_op <| i_c <| v1 <| i_I0 <| ?_
      exact k _ _ s1 g1 (by first | rfl | assumption | omega) (by first | rfl | assumption | omega)
    ·
      refine i_next <| i_nx <| i_ret <| v1 <| ?_
      exact k _ _ s1 g1 (by first | rfl | assumption | omega) (by first | rfl | assumption | omega)

/-! _law_value@v -/
def sp__law_value_v (K : PySem.W.Frag) : Sp := fun vs H Q _ => ∃ (sourceA : Addr) (base : Int) (precision : Int), vs = [V.ref sourceA, V.int base, V.int precision] ∧ IsSrc H sourceA ∧ (2 ≤ base) ∧ (base ≤ 36) ∧ (3 ≤ precision) ∧ (precision ≤ 12) ∧ ∀ (rA : Addr) (r0 : Int) (r1 : Int) (H' : Hp), Z.Ext H H' → IsSrc H' sourceA → H' rA = some (.tup [V.int r0, V.int r1]) → (Nv base ⟨base, r0, r1⟩) → (Nm precision none ⟨base, r0, r1⟩) → Q (V.ref rA) H'
abbrev s__law_value_v : Stmt := top 57
theorem sc__law_value_v : FnScope ["source", "base", "precision", "sign", "digits", "exponent"] ["source", "base", "precision"] (defScope s__law_value_v) := ⟨rfl, rfl, rfl, by decide +kernel, rfl, by decide +kernel, by decide +kernel⟩
theorem vis__law_value_v : visB ["source", "base", "precision", "sign", "digits", "exponent"] (defScope s__law_value_v) = true := by decide +kernel
theorem gl__law_value_v : glB ["_law_draw", "_law_small", "_law_lowest", "_law_full"] (defScope s__law_value_v) = true := by decide +kernel
theorem ok__law_value_v {P : Program} {w : World} {K : PySem.W.Frag} {mg : Str → Option Value} {hp9 : Heap} (T : Txt P w K mg) : OkD P w K mg hp9 3 (He.fAd K ("_law_value", none)) ["source", "base", "precision"] [] (sp__law_value_v K) := by
  obtain ⟨fd, F⟩ := T.d__law_value
  refine ⟨fd, [], F.kp, F.bindsN (fun _ _ _ _ _ _ us hl => match us, hl with | [_, _, _], _ => rfl), .nil, ?_⟩
  have sc := sc__law_value_v; have vis := vis__law_value_v; have gls := gl__law_value_v
  refine F.ok sc (fun vs H Q E h => ?_) (fun cdv A outer s H0 vs Q E hr h => ?_)
  · obtain ⟨sourceA, base, precision, rfl, _⟩ := h; rfl
  · obtain ⟨sourceA, base, precision, rfl, a0, e0, e1, e2, e3, k⟩ := h
    refine ⟨_, PSs.nox (pss_cons (ps_if (pt_cmpR op_eqI (pcD (ok__law_draw T) (hr.mono (by decide)) gls 0 T.g__law_draw (pa_cons (pn vis 0) (pa_cons pe_int pa_nil))) pe_int (nomark _)) (pss_one (ps_ret (pe_tup (pa_cons pe_int (pa_cons pe_int pa_nil))))) pss_nil) (pss_cons (ps_set (i := 3) sc.nd rfl (.inl rfl) (pe_op op_sub pe_int (pe_op op_mul pe_int (pcD (ok__law_draw T) (hr.mono (by decide)) gls 0 T.g__law_draw (pa_cons (pn vis 0) (pa_cons pe_int pa_nil)))))) (pss_cons (ps_set (i := 4) sc.nd rfl (.inl rfl) (pn vis 2)) (C8.pss_cut (ps_if (pt_cmpR op_gt (pcD (ok__law_draw T) (hr.mono (by decide)) gls 0 T.g__law_draw (pa_cons (pn vis 0) (pa_cons pe_int pa_nil))) pe_int (nomark _)) (pss_one (ps_set (i := 4) sc.nd rfl (.inl rfl) (pe_op op_add pe_int (pcD (ok__law_draw T) (hr.mono (by decide)) gls 0 T.g__law_draw (pa_cons (pn vis 0) (pa_cons (pn vis 2) pa_nil)))))) pss_nil) (pss_cons (ps_set (i := 5) sc.nd rfl (.inl rfl) (pcD (ok__law_small T) (hr.mono (by decide)) gls 1 T.g__law_small (pa_cons (pn vis 0) pa_nil))) (pss_cons (ps_if (pt_cmpR op_lt (pn vis 4) pe_int (nomark _)) (pss_one (ps_ret (pcD (ok__law_lowest T) (hr.mono (by decide)) gls 2 T.g__law_lowest (pa_cons (pn vis 1) (pa_cons (pe_op op_mulX (pn vis 3) (pe_op op_add pe_int (pcD (ok__law_draw T) (hr.mono (by decide)) gls 0 T.g__law_draw (pa_cons (pn vis 0) (pa_cons (pe_op op_sub (pn vis 1) pe_int) pa_nil))))) (pa_cons (pn vis 5) pa_nil)))))) pss_nil) (pss_one (ps_ret (pcD (ok__law_lowest T) (hr.mono (by decide)) gls 2 T.g__law_lowest (pa_cons (pn vis 1) (pa_cons (pe_op op_mulX (pn vis 3) (pcD (ok__law_full_n T) (hr.mono (by decide)) gls 3 T.g__law_full (pa_cons (pn vis 0) (pa_cons (pn vis 1) (pa_cons (pn vis 4) pa_nil))))) (pa_cons (pn vis 5) pa_nil)))))))))))), ?_⟩
    refine i_start (σ' := [some (V.ref sourceA), some (V.int base), some (V.int precision), none, none, none]) rfl ?_
    refine i_seq <| i_if <| i_test <| i_op <| i_call <| i_cons <| v0 <| i_cons <| i_c <| i_nil <| ⟨_, _, rfl, a0, (by first | assumption | omega | rfl | exact Sz.zero | exact Sz.sm (by omega) (by omega) (by decide) | exact Sz.mono (by assumption) (by decide)), (by first | assumption | omega | rfl | exact Sz.zero | exact Sz.sm (by omega) (by omega) (by decide) | exact Sz.mono (by assumption) (by decide)), fun r1 H2 s2 g2 hr10 hr11 hr12 => ?_⟩
    refine i_c <| i_I0 <| i_bl <| i_ite (fun c1 => ?_) (fun c1 => ?_)
    ·
      refine i_ret <| i_tup <| i_cons <| i_c <| i_cons <| i_c <| i_nil <| i_kTup (of_decide_eq_true rfl) (fun p3 H3 z3 s3 f3 => ?_)
      exact k _ _ _ _ (s2.trans (ext_of s3)) (same_src s3 g2) f3 (by exact nv_zero e0 e1) (by exact .inl rfl)
    ·
      refine i_next <| i_nx <| i_seq <| i_asg <| i_op <| i_c <| i_op <| i_c <| i_call <| i_cons <| v0 <| i_cons <| i_c <| i_nil <| ⟨_, _, rfl, g2, (by first | assumption | omega | rfl | exact Sz.zero | exact Sz.sm (by omega) (by omega) (by decide) | exact Sz.mono (by assumption) (by decide)), (by first | assumption | omega | rfl | exact Sz.zero | exact Sz.sm (by omega) (by omega) (by decide) | exact Sz.mono (by assumption) (by decide)), fun d2 H4 s4 g4 hd20 hd21 hd22 => ?_⟩
      refine i_I (by first | exact .inl ⟨by decide, by decide⟩ | exact .inr ⟨by decide, by decide⟩) <| i_I0 <| nI3 (fun sign hsign => ?_)
      refine i_nx <| i_seq <| i_asg <| v2 <| n4 <| i_nx <| ?_
      refine i_cut (fun σ H' => ∃ (dg : Int), σ = [some (V.ref sourceA), some (V.int base), some (V.int precision), some (V.int sign), some (V.int dg), none] ∧ Z.Ext H4 H' ∧ IsSrc H' sourceA ∧ (1 ≤ dg) ∧ (dg ≤ precision)) ?_ ?_
      ·
        refine i_if <| i_test <| i_op <| i_call <| i_cons <| v0 <| i_cons <| i_c <| i_nil <| ⟨_, _, rfl, g4, (by first | assumption | omega | rfl | exact Sz.zero | exact Sz.sm (by omega) (by omega) (by decide) | exact Sz.mono (by assumption) (by decide)), (by first | assumption | omega | rfl | exact Sz.zero | exact Sz.sm (by omega) (by omega) (by decide) | exact Sz.mono (by assumption) (by decide)), fun r5 H6 s6 g6 hr50 hr51 hr52 => ?_⟩
        refine i_c <| i_I0 <| i_bl <| i_ite (fun c5 => ?_) (fun c5 => ?_)
        ·
          refine i_asg <| i_op <| i_c <| i_call <| i_cons <| v0 <| i_cons <| v2 <| i_nil <| ⟨_, _, rfl, g6, (by first | assumption | omega | rfl | exact Sz.zero | exact Sz.sm (by omega) (by omega) (by decide) | exact Sz.mono (by assumption) (by decide)), (by first | assumption | omega | rfl | exact Sz.zero | exact Sz.sm (by omega) (by omega) (by decide) | exact Sz.mono (by assumption) (by decide)), fun digits H7 s7 g7 hdigits0 hdigits1 hdigits2 => ?_⟩
          refine i_I0 <| n4 <| ?_
          exact ⟨_, rfl, (s6.trans s7), g7, (by first | rfl | assumption | omega), (by first | rfl | assumption | omega)⟩
        ·
          refine i_next <| ?_
          exact ⟨_, rfl, s6, g6, (by first | rfl | assumption | omega), (by first | rfl | assumption | omega)⟩
      ·
        rintro σ H8 ⟨dg, rfl, s8, g8, j0, j1⟩
        refine i_seq <| i_asg <| i_call <| i_cons <| v0 <| i_nil <| ⟨_, rfl, g8, fun exponent H9 s9 g9 hexponent0 hexponent1 => ?_⟩
        refine n5 <| i_nx <| i_seq <| i_if <| i_test <| i_op <| v4 <| i_c <| i_I0 <| i_bl <| i_ite (fun c8 => ?_) (fun c8 => ?_)
        ·
          refine i_ret <| i_call <| i_cons <| v1 <| i_cons <| i_op <| v3 <| i_op <| i_c <| i_call <| i_cons <| v0 <| i_cons <| i_op <| v1 <| i_c <| i_I0 <| i_nil <| ⟨_, _, rfl, g9, (by first | assumption | omega | rfl | exact Sz.zero | exact Sz.sm (by omega) (by omega) (by decide) | exact Sz.mono (by assumption) (by decide)), (by first | assumption | omega | rfl | exact Sz.zero | exact Sz.sm (by omega) (by omega) (by decide) | exact Sz.mono (by assumption) (by decide)), fun d1 H10 s10 g10 hd10 hd11 hd12 => ?_⟩
          refine i_I0 <| i_I (by exact mulx (a := 10) (b := 10) (Sz.sm (by omega) (by omega) (by decide)) (Sz.sm (by omega) (by omega) (by decide))) <| i_cons <| v5 <| i_nil <| ⟨_, _, _, rfl, (by first | assumption | omega | rfl | exact Sz.zero | exact Sz.sm (by omega) (by omega) (by decide) | exact Sz.mono (by assumption) (by decide)), (by first | assumption | omega | rfl | exact Sz.zero | exact Sz.sm (by omega) (by omega) (by decide) | exact Sz.mono (by assumption) (by decide)), fun l1A l10 l11 H11 s11 f11_0 hl1 => ?_⟩
          exact k _ _ _ _ (s2.trans (s4.trans (s8.trans (s9.trans (s10.trans (ext_of s11)))))) (same_src s11 g10) f11_0 (by exact nv_of (j := 1) e0 e1 (by rw [Int.pow_one]; exact sg_lt (by omega) (by omega) (by omega)) (by omega) (by omega) (by omega) hl1) (by have g := pow_le' e0 (show 1 ≤ precision.toNat by omega); rw [Int.pow_one] at g; exact nm_sg e0 (by omega) (by omega) (by omega) (by omega) hl1)
        ·
          refine i_next <| i_nx <| i_ret <| i_call <| i_cons <| v1 <| i_cons <| i_op <| v3 <| i_call <| i_cons <| v0 <| i_cons <| v1 <| i_cons <| v4 <| i_nil <| ⟨_, _, _, rfl, g9, (by first | assumption | omega | rfl | exact Sz.zero | exact Sz.sm (by omega) (by omega) (by decide) | exact Sz.mono (by assumption) (by decide)), (by first | assumption | omega | rfl | exact Sz.zero | exact Sz.sm (by omega) (by omega) (by decide) | exact Sz.mono (by assumption) (by decide)), (by first | assumption | omega | rfl | exact Sz.zero | exact Sz.sm (by omega) (by omega) (by decide) | exact Sz.mono (by assumption) (by decide)), (by first | assumption | omega | rfl | exact Sz.zero | exact Sz.sm (by omega) (by omega) (by decide) | exact Sz.mono (by assumption) (by decide)), fun fu H12 s12 g12 hfu0 hfu1 hfu2 => ?_⟩
          refine i_I (by exact mulx (a := 10) (b := 300) (Sz.sm (by omega) (by omega) (by decide)) (by assumption)) <| i_cons <| v5 <| i_nil <| ⟨_, _, _, rfl, (by first | assumption | omega | rfl | exact Sz.zero | exact Sz.sm (by omega) (by omega) (by decide) | exact Sz.mono (by assumption) (by decide)), (by first | assumption | omega | rfl | exact Sz.zero | exact Sz.sm (by omega) (by omega) (by decide) | exact Sz.mono (by assumption) (by decide)), fun l2A l20 l21 H13 s13 f13_0 hl2 => ?_⟩
          exact k _ _ _ _ (s2.trans (s4.trans (s8.trans (s9.trans (s12.trans (ext_of s13)))))) (same_src s13 g12) f13_0 (by exact nv_of (j := dg.toNat) e0 e1 (sg_lt (by omega) hfu0 (by omega)) (by omega) (by omega) (by omega) hl2) (by have g := pow_le' e0 (show dg.toNat ≤ precision.toNat by omega); exact nm_sg e0 (by omega) (by omega) hfu0 (by omega) hl2)

/-! _law_equal@int -/
def sp__law_equal_int (K : PySem.W.Frag) : Sp := fun vs H Q _ => ∃ (actual : Int) (expected : Int), vs = [V.int actual, V.int expected] ∧ (actual = expected) ∧ ∀  (H' : Hp), Same H H' → Q (V.bl true) H'
abbrev s__law_equal_int : Stmt := top 58
theorem sc__law_equal_int : FnScope ["actual", "expected", "k"] ["actual", "expected"] (defScope s__law_equal_int) := ⟨rfl, rfl, rfl, by decide +kernel, rfl, by decide +kernel, by decide +kernel⟩
theorem vis__law_equal_int : visB ["actual", "expected", "k"] (defScope s__law_equal_int) = true := by decide +kernel
theorem gl__law_equal_int : glB ["bool", "isinstance", "int"] (defScope s__law_equal_int) = true := by decide +kernel
theorem ok__law_equal_int {P : Program} {w : World} {K : PySem.W.Frag} {mg : Str → Option Value} {hp9 : Heap} (T : Txt P w K mg) : OkD P w K mg hp9 1 (He.fAd K ("_law_equal", none)) ["actual", "expected"] [] (sp__law_equal_int K) := by
  obtain ⟨fd, F⟩ := T.d__law_equal
  refine ⟨fd, [], F.kp, F.bindsN (fun _ _ _ _ _ _ us hl => match us, hl with | [_, _], _ => rfl), .nil, ?_⟩
  have sc := sc__law_equal_int; have vis := vis__law_equal_int; have gls := gl__law_equal_int
  refine F.ok sc (fun vs H Q E h => ?_) (fun cdv A outer s H0 vs Q E hr h => ?_)
  · obtain ⟨actual, expected, rfl, _⟩ := h; rfl
  · obtain ⟨actual, expected, rfl, e0, k⟩ := h
    refine ⟨_, PSs.nox (pss_cons (ps_if (pt_cmpR op_isN_ (pn vis 1) pe_non (nomark _)) pss_never pss_nil) (pss_cons (ps_if (pt_val (pcB call_isi gls 1 T.b_isinstance (by decide +kernel) (pa_cons (pn vis 1) (pa_cons (pgt gls 0 T.b_bool boot_bool) pa_nil)))) pss_never pss_nil) (pss_cons (ps_if (pt_val (pcB call_isi gls 1 T.b_isinstance (by decide +kernel) (pa_cons (pn vis 1) (pa_cons (pgt gls 2 T.b_int boot_int) pa_nil)))) (pss_one (ps_ret (pe_and (pcB call_isi gls 1 T.b_isinstance (by decide +kernel) (pa_cons (pn vis 0) (pa_cons (pgt gls 2 T.b_int boot_int) pa_nil))) (pe_and (pe_not (pcB call_isi gls 1 T.b_isinstance (by decide +kernel) (pa_cons (pn vis 0) (pa_cons (pgt gls 0 T.b_bool boot_bool) pa_nil)))) (pe_one (pe_cmpR op_eqI (pn vis 0) (pn vis 1) (nomark _))))))) pss_nil) pss_never))), ?_⟩
    refine i_start (σ' := [some (V.int actual), some (V.int expected), none]) rfl ?_
    refine i_seq <| i_if <| i_test <| i_op <| v1 <| i_c <| i_isN (b := false) rfl <| i_bl <| i_iteF <| i_next <| i_nx <| i_seq <| i_if <| i_tB <| i_cb <| i_cons <| v1 <| i_cons <| i_c <| i_nil <| i_isi (b := false) (.ty _) (.base (.int _)) (kit_ty (by decide +kernel)) <| i_bl <| i_iteF <| i_next <| i_nx <| i_seq <| i_if <| i_tB <| i_cb <| i_cons <| v1 <| i_cons <| i_c <| i_nil <| i_isi (b := true) (.ty _) (.base (.int _)) (kit_ty (by decide +kernel)) <| i_bl <| i_iteT <| i_ret <| i_andV <| i_cb <| i_cons <| v0 <| i_cons <| i_c <| i_nil <| i_isi (b := true) (.ty _) (.base (.int _)) (kit_ty (by decide +kernel)) <| i_blV <| i_iteT <| i_andV <| i_notV <| i_cb <| i_cons <| v0 <| i_cons <| i_c <| i_nil <| i_isi (b := false) (.ty _) (.base (.int _)) (kit_ty (by decide +kernel)) <| i_blV <| i_blV <| i_iteNF <| i_op <| v0 <| v1 <| i_I0 <| ?_
    refine i_decT (by first | assumption | omega | simp [*]) ?_
    exact k _ (Same.refl _)

/-! _law_equal@str -/
def sp__law_equal_str (K : PySem.W.Frag) : Sp := fun vs H Q _ => ∃ (actual : Str) (expected : Str), vs = [V.str actual, V.str expected] ∧ (actual = expected) ∧ ∀  (H' : Hp), Same H H' → Q (V.bl true) H'
abbrev s__law_equal_str : Stmt := top 58
theorem sc__law_equal_str : FnScope ["actual", "expected", "k"] ["actual", "expected"] (defScope s__law_equal_str) := ⟨rfl, rfl, rfl, by decide +kernel, rfl, by decide +kernel, by decide +kernel⟩
theorem vis__law_equal_str : visB ["actual", "expected", "k"] (defScope s__law_equal_str) = true := by decide +kernel
theorem gl__law_equal_str : glB ["bool", "isinstance", "int", "str"] (defScope s__law_equal_str) = true := by decide +kernel
theorem ok__law_equal_str {P : Program} {w : World} {K : PySem.W.Frag} {mg : Str → Option Value} {hp9 : Heap} (T : Txt P w K mg) : OkD P w K mg hp9 1 (He.fAd K ("_law_equal", none)) ["actual", "expected"] [] (sp__law_equal_str K) := by
  obtain ⟨fd, F⟩ := T.d__law_equal
  refine ⟨fd, [], F.kp, F.bindsN (fun _ _ _ _ _ _ us hl => match us, hl with | [_, _], _ => rfl), .nil, ?_⟩
  have sc := sc__law_equal_str; have vis := vis__law_equal_str; have gls := gl__law_equal_str
  refine F.ok sc (fun vs H Q E h => ?_) (fun cdv A outer s H0 vs Q E hr h => ?_)
  · obtain ⟨actual, expected, rfl, _⟩ := h; rfl
  · obtain ⟨actual, expected, rfl, e0, k⟩ := h
    refine ⟨_, PSs.nox (pss_cons (ps_if (pt_cmpR op_isN_ (pn vis 1) pe_non (nomark _)) pss_never pss_nil) (pss_cons (ps_if (pt_val (pcB call_isi gls 1 T.b_isinstance (by decide +kernel) (pa_cons (pn vis 1) (pa_cons (pgt gls 0 T.b_bool boot_bool) pa_nil)))) pss_never pss_nil) (pss_cons (ps_if (pt_val (pcB call_isi gls 1 T.b_isinstance (by decide +kernel) (pa_cons (pn vis 1) (pa_cons (pgt gls 2 T.b_int boot_int) pa_nil)))) pss_never pss_nil) (pss_cons (ps_if (pt_val (pcB call_isi gls 1 T.b_isinstance (by decide +kernel) (pa_cons (pn vis 1) (pa_cons (pgt gls 3 T.b_str boot_str) pa_nil)))) (pss_one (ps_ret (pe_and (pcB call_isi gls 1 T.b_isinstance (by decide +kernel) (pa_cons (pn vis 0) (pa_cons (pgt gls 3 T.b_str boot_str) pa_nil))) (pe_one (pe_cmpR op_eqS (pn vis 0) (pn vis 1) (nomark _)))))) pss_nil) pss_never)))), ?_⟩
    refine i_start (σ' := [some (V.str actual), some (V.str expected), none]) rfl ?_
    refine i_seq <| i_if <| i_test <| i_op <| v1 <| i_c <| i_isN (b := false) rfl <| i_bl <| i_iteF <| i_next <| i_nx <| i_seq <| i_if <| i_tB <| i_cb <| i_cons <| v1 <| i_cons <| i_c <| i_nil <| i_isi (b := false) (.ty _) (.base (.str _)) (kit_ty (by decide +kernel)) <| i_bl <| i_iteF <| i_next <| i_nx <| i_seq <| i_if <| i_tB <| i_cb <| i_cons <| v1 <| i_cons <| i_c <| i_nil <| i_isi (b := false) (.ty _) (.base (.str _)) (kit_ty (by decide +kernel)) <| i_bl <| i_iteF <| i_next <| i_nx <| i_seq <| i_if <| i_tB <| i_cb <| i_cons <| v1 <| i_cons <| i_c <| i_nil <| i_isi (b := true) (.ty _) (.base (.str _)) (kit_ty (by decide +kernel)) <| i_bl <| i_iteT <| i_ret <| i_andV <| i_cb <| i_cons <| v0 <| i_cons <| i_c <| i_nil <| i_isi (b := true) (.ty _) (.base (.str _)) (kit_ty (by decide +kernel)) <| i_blV <| i_iteT <| i_op <| v0 <| v1 <| i_S0 <| ?_
    refine i_decT (by first | assumption | omega | simp [*]) ?_
    exact k _ (Same.refl _)

theorem okh__law_equal_str {P : Program} {w : World} {K : PySem.W.Frag} {mg : Str → Option Value} {hp9 : Heap} (T : Txt P w K mg) : OkH P w K mg hp9 1 (He.fAd K ("_law_equal", none)) ["actual", "expected"] (sp__law_equal_str K) := by
  obtain ⟨fd, F⟩ := T.d__law_equal
  have sc := sc__law_equal_str; have vis := vis__law_equal_str
  have gls : glB ["bool", "isinstance", "int", "str"] (defScope s__law_equal_str) = true := by decide +kernel
  refine ⟨fd, F.kp, F.bindsN (fun _ _ _ _ _ _ us hl => match us, hl with | [_, _], _ => rfl), ?_⟩
  refine FunD.okH F sc (fun vs H Q E h => ?_) (fun cdv A outer s H0 vs Q E p9 hh9 hr h => ?_)
  · obtain ⟨actual, expected, rfl, _⟩ := h; rfl
  · obtain ⟨actual, expected, rfl, e0, k⟩ := h
    refine ⟨_, PSs.nox (pss_cons (ps_if (pt_cmpR op_isN_ (pn vis 1) pe_non (nomark _)) pss_never pss_nil) (pss_cons (ps_if (pt_val (pcB call_isi gls 1 T.b_isinstance (by decide +kernel) (pa_cons (pn vis 1) (pa_cons (pgt gls 0 T.b_bool boot_bool) pa_nil)))) pss_never pss_nil) (pss_cons (ps_if (pt_val (pcB call_isi gls 1 T.b_isinstance (by decide +kernel) (pa_cons (pn vis 1) (pa_cons (pgt gls 2 T.b_int boot_int) pa_nil)))) pss_never pss_nil) (pss_cons (ps_if (pt_val (pcB call_isi gls 1 T.b_isinstance (by decide +kernel) (pa_cons (pn vis 1) (pa_cons (pgt gls 3 T.b_str boot_str) pa_nil)))) (pss_one (ps_ret (pe_and (pcB call_isi gls 1 T.b_isinstance (by decide +kernel) (pa_cons (pn vis 0) (pa_cons (pgt gls 3 T.b_str boot_str) pa_nil))) (pe_one (pe_cmpR op_eqS (pn vis 0) (pn vis 1) (nomark _)))))) pss_nil) pss_never)))), ?_⟩
    refine i_start (σ' := [some (V.str actual), some (V.str expected), none]) rfl ?_
    refine i_seq <| i_if <| i_test <| i_op <| v1 <| i_c <| i_isN (b := false) rfl <| i_bl <| i_iteF <| i_next <| i_nx <| i_seq <| i_if <| i_tB <| i_cb <| i_cons <| v1 <| i_cons <| i_c <| i_nil <| i_isi (b := false) (.ty _) (.base (.str _)) (kit_ty (by decide +kernel)) <| i_bl <| i_iteF <| i_next <| i_nx <| i_seq <| i_if <| i_tB <| i_cb <| i_cons <| v1 <| i_cons <| i_c <| i_nil <| i_isi (b := false) (.ty _) (.base (.str _)) (kit_ty (by decide +kernel)) <| i_bl <| i_iteF <| i_next <| i_nx <| i_seq <| i_if <| i_tB <| i_cb <| i_cons <| v1 <| i_cons <| i_c <| i_nil <| i_isi (b := true) (.ty _) (.base (.str _)) (kit_ty (by decide +kernel)) <| i_bl <| i_iteT <| i_ret <| i_andV <| i_cb <| i_cons <| v0 <| i_cons <| i_c <| i_nil <| i_isi (b := true) (.ty _) (.base (.str _)) (kit_ty (by decide +kernel)) <| i_blV <| i_iteT <| i_op <| v0 <| v1 <| i_S0 <| ?_
    refine i_decT (by first | assumption | omega | simp [*]) ?_
    exact k _ (Same.refl _)

/-! _law_equal@Li -/
def sp__law_equal_Li (K : PySem.W.Frag) : Sp := fun vs H Q _ => ∃ (actualA : Addr) (actual : List Int) (expectedA : Addr) (expected : List Int), vs = [V.ref actualA, V.ref expectedA] ∧ H actualA = some (.lst (actual.map V.int)) ∧ H expectedA = some (.lst (expected.map V.int)) ∧ (actual = expected) ∧ (expected.length ≤ 1000) ∧ ∀  (H' : Hp), Same H H' → Q (V.bl true) H'
abbrev s__law_equal_Li : Stmt := top 58
theorem sc__law_equal_Li : FnScope ["actual", "expected", "k"] ["actual", "expected"] (defScope s__law_equal_Li) := ⟨rfl, rfl, rfl, by decide +kernel, rfl, by decide +kernel, by decide +kernel⟩
theorem vis__law_equal_Li : visB ["actual", "expected", "k"] (defScope s__law_equal_Li) = true := by decide +kernel
theorem gl__law_equal_Li : glB ["bool", "isinstance", "int", "str", "list", "tuple", "len", "_law_equal", "range"] (defScope s__law_equal_Li) = true := by decide +kernel
theorem ok__law_equal_Li {P : Program} {w : World} {K : PySem.W.Frag} {mg : Str → Option Value} {hp9 : Heap} (T : Txt P w K mg) : OkD P w K mg hp9 2 (He.fAd K ("_law_equal", none)) ["actual", "expected"] [] (sp__law_equal_Li K) := by
  obtain ⟨fd, F⟩ := T.d__law_equal
  refine ⟨fd, [], F.kp, F.bindsN (fun _ _ _ _ _ _ us hl => match us, hl with | [_, _], _ => rfl), .nil, ?_⟩
  have sc := sc__law_equal_Li; have vis := vis__law_equal_Li; have gls := gl__law_equal_Li
  refine F.ok sc (fun vs H Q E h => ?_) (fun cdv A outer s H0 vs Q E hr h => ?_)
  · obtain ⟨actualA, actual, expectedA, expected, rfl, _⟩ := h; rfl
  · obtain ⟨actualA, actual, expectedA, expected, rfl, a0, a1, e0, e1, k⟩ := h
    refine ⟨_, PSs.nox (pss_cons (ps_if (pt_cmpR op_isN_ (pn vis 1) pe_non (nomark _)) pss_never pss_nil) (pss_cons (ps_if (pt_val (pcB call_isi gls 1 T.b_isinstance (by decide +kernel) (pa_cons (pn vis 1) (pa_cons (pgt gls 0 T.b_bool boot_bool) pa_nil)))) pss_never pss_nil) (pss_cons (ps_if (pt_val (pcB call_isi gls 1 T.b_isinstance (by decide +kernel) (pa_cons (pn vis 1) (pa_cons (pgt gls 2 T.b_int boot_int) pa_nil)))) pss_never pss_nil) (pss_cons (ps_if (pt_val (pcB call_isi gls 1 T.b_isinstance (by decide +kernel) (pa_cons (pn vis 1) (pa_cons (pgt gls 3 T.b_str boot_str) pa_nil)))) pss_never pss_nil) (pss_cons (ps_if (pt_cmpR op_neB (pcB call_isi gls 1 T.b_isinstance (by decide +kernel) (pa_cons (pn vis 1) (pa_cons (pgt gls 4 T.b_list boot_list) pa_nil))) (pcB call_isi gls 1 T.b_isinstance (by decide +kernel) (pa_cons (pn vis 0) (pa_cons (pgt gls 4 T.b_list boot_list) pa_nil))) (nomark _)) pss_never pss_nil) (pss_cons (ps_if (pt_cmpR op_neB (pcB call_isi gls 1 T.b_isinstance (by decide +kernel) (pa_cons (pn vis 1) (pa_cons (pgt gls 5 T.b_tuple boot_tuple) pa_nil))) (pcB call_isi gls 1 T.b_isinstance (by decide +kernel) (pa_cons (pn vis 0) (pa_cons (pgt gls 5 T.b_tuple boot_tuple) pa_nil))) (nomark _)) pss_never pss_nil) (pss_cons (ps_if (PW.pt (pw_and (pt_not (pt_val (pcB call_isi gls 1 T.b_isinstance (by decide +kernel) (pa_cons (pn vis 1) (pa_cons (pgt gls 4 T.b_list boot_list) pa_nil))))) (pw_and1 (pt_not pt_never)))) pss_never pss_nil) (pss_cons (ps_if (pt_cmpR op_neI (pcB call_lenS gls 6 T.b_len PySem.boot_len (pa_cons (pn vis 0) pa_nil)) (pcB call_lenS gls 6 T.b_len PySem.boot_len (pa_cons (pn vis 1) pa_nil)) (nomark _)) pss_never pss_nil) (pss_cons (ps_for PassesOwn.never rfl (pi_range1 (gl_of gls (i := 8) rfl).1 T.b_range (pa_cons (pcB call_lenS gls 6 T.b_len PySem.boot_len (pa_cons (pn vis 1) pa_nil)) pa_nil)) (pg_name (i := 2) sc.nd rfl (.inl rfl)) (pss_one (ps_if (pt_not (pt_val (pcD (ok__law_equal_int T) (hr.mono (by decide)) gls 7 T.g__law_equal (pa_cons (pe_ix ix_list (pn vis 0) (pn vis 2) (fun _ _ => rfl)) (pa_cons (pe_ix ix_list (pn vis 1) (pn vis 2) (fun _ _ => rfl)) pa_nil))))) pss_never pss_nil))) (pss_one (ps_ret pe_bl))))))))))), ?_⟩
    refine i_start (σ' := [some (V.ref actualA), some (V.ref expectedA), none]) rfl ?_
    refine i_seq <| i_if <| i_test <| i_op <| v1 <| i_c <| i_isN (b := false) rfl <| i_bl <| i_iteF <| i_next <| i_nx <| i_seq <| i_if <| i_tB <| i_cb <| i_cons <| v1 <| i_cons <| i_c <| i_nil <| i_isi (b := false) (.ty _) (.base (.lst a1)) (kit_ty (by decide +kernel)) <| i_bl <| i_iteF <| i_next <| i_nx <| i_seq <| i_if <| i_tB <| i_cb <| i_cons <| v1 <| i_cons <| i_c <| i_nil <| i_isi (b := false) (.ty _) (.base (.lst a1)) (kit_ty (by decide +kernel)) <| i_bl <| i_iteF <| i_next <| i_nx <| i_seq <| i_if <| i_tB <| i_cb <| i_cons <| v1 <| i_cons <| i_c <| i_nil <| i_isi (b := false) (.ty _) (.base (.lst a1)) (kit_ty (by decide +kernel)) <| i_bl <| i_iteF <| i_next <| i_nx <| i_seq <| i_if <| i_test <| i_op <| i_cb <| i_cons <| v1 <| i_cons <| i_c <| i_nil <| i_isi (b := true) (.ty _) (.base (.lst a1)) (kit_ty (by decide +kernel)) <| i_cb <| i_cons <| v0 <| i_cons <| i_c <| i_nil <| i_isi (b := true) (.ty _) (.base (.lst a0)) (kit_ty (by decide +kernel)) <| i_B0 <| i_blq (b := false) rfl <| i_iteF <| i_next <| i_nx <| i_seq <| i_if <| i_test <| i_op <| i_cb <| i_cons <| v1 <| i_cons <| i_c <| i_nil <| i_isi (b := false) (.ty _) (.base (.lst a1)) (kit_ty (by decide +kernel)) <| i_cb <| i_cons <| v0 <| i_cons <| i_c <| i_nil <| i_isi (b := false) (.ty _) (.base (.lst a0)) (kit_ty (by decide +kernel)) <| i_B0 <| i_blq (b := false) rfl <| i_iteF <| i_next <| i_nx <| i_seq <| i_if <| i_and <| i_not <| i_tB <| i_cb <| i_cons <| v1 <| i_cons <| i_c <| i_nil <| i_isi (b := true) (.ty _) (.base (.lst a1)) (kit_ty (by decide +kernel)) <| i_bl <| i_iteNT <| i_iteF <| i_next <| i_nx <| i_seq <| i_if <| i_test <| i_op <| i_cb <| i_cons <| v0 <| i_nil <| i_lenM (SqL.of a0) <| i_cb <| i_cons <| v1 <| i_nil <| i_lenM (SqL.of a1) <| i_I0 <| i_bl <| i_iteN (fun c15 => ?_) (fun c15 => ?_)
    ·
      exact absurd c15 (by exact fun h => h (by rw [e0]))
    ·
      refine i_next <| i_nx <| i_seq <| i_for <| i_for1 <| i_cons <| i_cb <| i_cons <| v1 <| i_nil <| i_lenM (SqL.of a1) <| i_nil <| i_rng1 (fun i σ H' => ∃ (o_k : Option V), σ = [some (V.ref actualA), some (V.ref expectedA), o_k] ∧ Same H0 H') (by omega) (by omega) ?_ ?_ ?_
      ·
        exact ⟨_, rfl, (Same.refl _)⟩
      ·
        intro i
        rintro σ H1 hi ⟨o_k, rfl, s1⟩
        refine n2 <| ?_
        obtain ⟨v, hv, hat⟩ := at_i (f := V.int) (xs := expected) (i := i) (by omega)
        have hat2 : atI (actual.map V.int) (0 + (i : Int)) = some (V.int v) := by rw [e0]; exact hat
        refine i_if <| i_not <| i_tB <| i_call <| i_cons <| i_op <| v0 <| v2 <| i_ixL (SqL.of (s1 _ _ a0)) hat2 <| i_cons <| i_op <| v1 <| v2 <| i_ixL (SqL.of (s1 _ _ a1)) hat <| i_nil <| ⟨_, _, rfl, (by first | assumption | omega | rfl | exact Sz.zero | exact Sz.sm (by omega) (by omega) (by decide) | exact Sz.mono (by assumption) (by decide)), fun H3 s3 => ?_⟩
        refine i_bl <| i_iteNT <| i_next <| ?_
        exact ⟨_, rfl, (s1.trans s3)⟩
      ·
        rintro σ H4 ⟨o_k, rfl, s4⟩
        refine i_nx <| i_ret <| i_c <| ?_
        exact k _ s4

/-! _law_make -/
def sp__law_make (K : PySem.W.Frag) : Sp := fun vs H Q _ => ∃ (base : Int) (xA : Addr) (x0 : Int) (x1 : Int), vs = [V.int base, V.ref xA] ∧ H xA = some (.tup [V.int x0, V.int x1]) ∧ (2 ≤ base) ∧ (base ≤ 36) ∧ (Sz 9000 x0) ∧ ∀ (rA : Addr) (r : EN) (H' : Hp), Same H H' → IsI (He.ga K "Exact") H' rA (exF r) → (r = nrm base x0 x1) → Q (V.ref rA) H'
abbrev s__law_make : Stmt := top 59
theorem sc__law_make : FnScope ["base", "x"] ["base", "x"] (defScope s__law_make) := ⟨rfl, rfl, rfl, by decide +kernel, rfl, by decide +kernel, by decide +kernel⟩
theorem vis__law_make : visB ["base", "x"] (defScope s__law_make) = true := by decide +kernel
theorem gl__law_make : glB ["Exact"] (defScope s__law_make) = true := by decide +kernel
theorem ok__law_make {P : Program} {w : World} {K : PySem.W.Frag} {mg : Str → Option Value} {hp9 : Heap} (T : Txt P w K mg) : OkD P w K mg hp9 5 (He.fAd K ("_law_make", none)) ["base", "x"] [] (sp__law_make K) := by
  obtain ⟨fd, F⟩ := T.d__law_make
  refine ⟨fd, [], F.kp, F.bindsN (fun _ _ _ _ _ _ us hl => match us, hl with | [_, _], _ => rfl), .nil, ?_⟩
  have sc := sc__law_make; have vis := vis__law_make; have gls := gl__law_make
  refine F.ok sc (fun vs H Q E h => ?_) (fun cdv A outer s H0 vs Q E hr h => ?_)
  · obtain ⟨base, xA, x0, x1, rfl, _⟩ := h; rfl
  · obtain ⟨base, xA, x0, x1, rfl, a0, e0, e1, e2, k⟩ := h
    refine ⟨_, PSs.nox (pss_one (ps_ret (pcM T.mk_Exact (ok_Exact___init__ T) (hr.mono (by decide)) gls 0 T.g_Exact (pa_cons (pn vis 0) (pa_cons (pe_ix ix_tup (pn vis 1) pe_int (fun _ _ => rfl)) (pa_cons (pe_ix ix_tup (pn vis 1) pe_int (fun _ _ => rfl)) pa_nil)))))), ?_⟩
    refine i_start (σ' := [some (V.int base), some (V.ref xA)]) rfl ?_
    refine i_ret <| i_make <| i_cons <| v0 <| i_cons <| i_op <| v1 <| i_c <| i_ixT (SqT.of a0) (atI_nat (j := 0) rfl) <| i_cons <| i_op <| v1 <| i_c <| i_ixT (SqT.of a0) (atI_nat (j := 1) rfl) <| i_nil <| i_madeN (fun xo1 H1 hn1 k1 i1 => ?_)
    refine ⟨xo1, _, _, _, rfl, i1, (by first | assumption | omega | rfl | exact Sz.zero | exact Sz.sm (by omega) (by omega) (by decide) | exact Sz.mono (by assumption) (by decide)), (by first | assumption | omega | rfl | exact Sz.zero | exact Sz.sm (by omega) (by omega) (by decide) | exact Sz.mono (by assumption) (by decide)), (by first | assumption | omega | rfl | exact Sz.zero | exact Sz.sm (by omega) (by omega) (by decide) | exact Sz.mono (by assumption) (by decide)), fun r2 G1 p1 q1 hr2 => ⟨rfl, ?_⟩⟩
    exact k _ _ _ (k1 _ p1) q1 (by first | rfl | assumption | omega)

/-! _law_is -/
def sp__law_is (K : PySem.W.Frag) : Sp := fun vs H Q _ => ∃ (valueA : Addr) (value : EN) (base : Int) (xA : Addr) (x0 : Int) (x1 : Int), vs = [V.ref valueA, V.int base, V.ref xA] ∧ IsI (He.ga K "Exact") H valueA (exF value) ∧ H xA = some (.tup [V.int x0, V.int x1]) ∧ (2 ≤ base) ∧ (base ≤ 36) ∧ (value = nrm base x0 x1) ∧ ∀  (H' : Hp), Same H H' → Q (V.bl true) H'
abbrev s__law_is : Stmt := top 60
theorem sc__law_is : FnScope ["value", "base", "x", "low"] ["value", "base", "x"] (defScope s__law_is) := ⟨rfl, rfl, rfl, by decide +kernel, rfl, by decide +kernel, by decide +kernel⟩
theorem vis__law_is : visB ["value", "base", "x", "low"] (defScope s__law_is) = true := by decide +kernel
theorem gl__law_is : glB ["Exact", "isinstance", "_law_lowest", "_law_equal"] (defScope s__law_is) = true := by decide +kernel
theorem ok__law_is {P : Program} {w : World} {K : PySem.W.Frag} {mg : Str → Option Value} {hp9 : Heap} (T : Txt P w K mg) : OkD P w K mg hp9 3 (He.fAd K ("_law_is", none)) ["value", "base", "x"] [] (sp__law_is K) := by
  obtain ⟨fd, F⟩ := T.d__law_is
  refine ⟨fd, [], F.kp, F.bindsN (fun _ _ _ _ _ _ us hl => match us, hl with | [_, _, _], _ => rfl), .nil, ?_⟩
  have sc := sc__law_is; have vis := vis__law_is; have gls := gl__law_is
  refine F.ok sc (fun vs H Q E h => ?_) (fun cdv A outer s H0 vs Q E hr h => ?_)
  · obtain ⟨valueA, value, base, xA, x0, x1, rfl, _⟩ := h; rfl
  · obtain ⟨valueA, value, base, xA, x0, x1, rfl, a0, a1, e0, e1, e2, k⟩ := h
    refine ⟨_, PSs.nox (pss_cons (ps_if (pt_not (pt_val (pcB call_isi gls 1 T.b_isinstance (by decide +kernel) (pa_cons (pn vis 0) (pa_cons (pgr gls 0 T.g_Exact) pa_nil))))) pss_never pss_nil) (pss_cons (ps_set (i := 3) sc.nd rfl (.inl rfl) (pcD (ok__law_lowest T) (hr.mono (by decide)) gls 2 T.g__law_lowest (pa_cons (pn vis 1) (pa_cons (pe_ix ix_tup (pn vis 2) pe_int (fun _ _ => rfl)) (pa_cons (pe_ix ix_tup (pn vis 2) pe_int (fun _ _ => rfl)) pa_nil))))) (pss_one (ps_ret (pcD (ok__law_equal_Li T) (hr.mono (by decide)) gls 3 T.g__law_equal (pa_cons (pe_lst (pa_cons (pe_fld (pn vis 0) rfl) (pa_cons (pe_fld (pn vis 0) rfl) (pa_cons (pe_fld (pn vis 0) rfl) pa_nil)))) (pa_cons (pe_lst (pa_cons (pn vis 1) (pa_cons (pe_ix ix_tup (pn vis 3) pe_int (fun _ _ => rfl)) (pa_cons (pe_ix ix_tup (pn vis 3) pe_int (fun _ _ => rfl)) pa_nil)))) pa_nil))))))), ?_⟩
    refine i_start (σ' := [some (V.ref valueA), some (V.int base), some (V.ref xA), none]) rfl ?_
    refine i_seq <| i_if <| i_not <| i_tB <| i_cb <| i_cons <| v0 <| i_cons <| i_c <| i_nil <| i_isi (b := true) (.own _) (ins_ty T.ins_Exact a0) T.ins_Exact.me <| i_bl <| i_iteNT <| i_next <| i_nx <| i_seq <| i_asg <| i_call <| i_cons <| v1 <| i_cons <| i_op <| v2 <| i_c <| i_ixT (SqT.of a1) (atI_nat (j := 0) rfl) <| i_cons <| i_op <| v2 <| i_c <| i_ixT (SqT.of a1) (atI_nat (j := 1) rfl) <| i_nil <| ⟨_, _, _, rfl, (by first | assumption | omega | rfl | exact Sz.zero | exact Sz.sm (by omega) (by omega) (by decide) | exact Sz.mono (by assumption) (by decide)), (by first | assumption | omega | rfl | exact Sz.zero | exact Sz.sm (by omega) (by omega) (by decide) | exact Sz.mono (by assumption) (by decide)), fun lowA low0 low1 H1 s1 f1_0 hlow => ?_⟩
    refine n3 <| i_nx <| i_ret <| i_call <| i_cons <| i_lst <| i_cons <| i_fld <| v0 <| i_fldI (same_ins s1 a0) T.cls_Exact T.na_Exact_base rfl <| i_cons <| i_fld <| v0 <| i_fldI (same_ins s1 a0) T.cls_Exact T.na_Exact_coefficient rfl <| i_cons <| i_fld <| v0 <| i_fldI (same_ins s1 a0) T.cls_Exact T.na_Exact_exponent rfl <| i_nil <| i_kLst (of_decide_eq_true rfl) (fun p2 H2 z2 s2 f2 => ?_)
    refine i_cons <| i_lst <| i_cons <| v1 <| i_cons <| i_op <| v3 <| i_c <| i_ixT (SqT.of (s2 _ _ f1_0)) (atI_nat (j := 0) rfl) <| i_cons <| i_op <| v3 <| i_c <| i_ixT (SqT.of (s2 _ _ f1_0)) (atI_nat (j := 1) rfl) <| i_nil <| i_kLst (of_decide_eq_true rfl) (fun p3 H3 z3 s3 f3 => ?_)
    refine i_nil <| ⟨_, [_, _, _], _, [_, _, _], rfl, (s3 _ _ f2), f3, (by rw [e2, ← hlow]), (by simp), fun H5 s5 => ?_⟩
    exact k _ (s1.trans (s2.trans (s3.trans s5)))

/-! _law_bad_mode -/
def sp__law_bad_mode (K : PySem.W.Frag) : Sp := fun vs H Q _ => ∃ (sourceA : Addr), vs = [V.ref sourceA] ∧ IsSrc H sourceA ∧ ∀ (r : Str) (H' : Hp), Z.Ext H H' → IsSrc H' sourceA → (r ∉ modes9) → Q (V.str r) H'
abbrev s__law_bad_mode : Stmt := top 62
theorem sc__law_bad_mode : FnScope ["source", "mode", "texts", "text"] ["source"] (defScope s__law_bad_mode) := ⟨rfl, rfl, rfl, by decide +kernel, rfl, by decide +kernel, by decide +kernel⟩
theorem vis__law_bad_mode : visB ["source", "mode", "texts", "text"] (defScope s__law_bad_mode) = true := by decide +kernel
theorem gl__law_bad_mode : glB ["_law_mode", "len", "_law_draw", "_law_modes"] (defScope s__law_bad_mode) = true := by decide +kernel
theorem ok__law_bad_mode {P : Program} {w : World} {K : PySem.W.Frag} {mg : Str → Option Value} {hp9 : Heap} (T : Txt P w K mg) : OkD P w K mg hp9 3 (He.fAd K ("_law_bad_mode", none)) ["source"] [] (sp__law_bad_mode K) := by
  obtain ⟨fd, F⟩ := T.d__law_bad_mode
  refine ⟨fd, [], F.kp, F.bindsN (fun _ _ _ _ _ _ us hl => match us, hl with | [_], _ => rfl), .nil, ?_⟩
  have sc := sc__law_bad_mode; have vis := vis__law_bad_mode; have gls := gl__law_bad_mode
  refine F.ok sc (fun vs H Q E h => ?_) (fun cdv A outer s H0 vs Q E hr h => ?_)
  · obtain ⟨sourceA, rfl, _⟩ := h; rfl
  · obtain ⟨sourceA, rfl, a0, k⟩ := h
    refine ⟨_, PSs.nox (pss_cons (ps_set (i := 1) sc.nd rfl (.inl rfl) (pcD (ok__law_mode T) (hr.mono (by decide)) gls 0 T.g__law_mode (pa_cons (pn vis 0) pa_nil))) (pss_cons (ps_set (i := 2) sc.nd rfl (.inl rfl) (pe_lst (pa_cons1 (pe1_op op_addT (pn vis 1) pe1_str) (pat_cons (pet_of (pe_op op_addT pe_str (pn vis 1))) (pat_cons (pet_of (pe_slice sl_str (pn vis 1) (po_some pe_int) po_none)) (pat_cons (pet_of (pe_slice sl_str (pn vis 1) po_none (po_some (pe_op op_sub (pcB call_lenT gls 1 T.b_len PySem.boot_len (pa_cons (pn vis 1) pa_nil)) pe_int)))) (pat_cons (pet_of (pe_upperR (pn vis 1))) (pat_cons (pet_repl (y := "-") (z := "_") (pn vis 1) (by decide +kernel)) (pat_of pa_nil))))))))) (pss_cons (ps_set (i := 2) sc.nd rfl (.inl rfl) (pe_op op_cat (pn vis 2) (pe_lst (pa_cons (pe_op op_addT (pn vis 1) (pe_ix ix_str (pn vis 1) (pe_op op_sub (pcB call_lenT gls 1 T.b_len PySem.boot_len (pa_cons (pn vis 1) pa_nil)) pe_int) (fun _ _ => rfl))) (pa_cons (pe_ix ix_list (pe_bm PySem.F.plainAttrs_str PySem.F.slot_str_split PySem.F.type_str_split mt_split (pn vis 1) (pa_cons pe_str pa_nil)) pe_int (fun _ _ => rfl)) (pa_cons (pe_op op_addT pe_str (pn vis 1)) (pa_cons pe_str pa_nil))))))) (pss_cons (ps_set (i := 3) sc.nd rfl (.inl rfl) (pe_ix ix_list (pn vis 2) (pcD (ok__law_draw T) (hr.mono (by decide)) gls 2 T.g__law_draw (pa_cons (pn vis 0) (pa_cons pe_int pa_nil))) (fun _ _ => rfl))) (pss_cons (ps_if (pt_cmpR op_in_seq (pn vis 3) (pcD0 (ok__law_modes T) (hr.mono (by decide)) gls 3 T.g__law_modes) (by rfl)) (pss_one (ps_ret (pe_op op_addT (pn vis 3) pe_str))) pss_nil) (pss_one (ps_ret (pn vis 3)))))))), ?_⟩
    refine i_start (σ' := [some (V.ref sourceA), none, none, none]) rfl ?_
    refine i_seq <| i_asg <| i_call <| i_cons <| v0 <| i_nil <| ⟨_, rfl, a0, fun mode H1 s1 g1 hmode0 hmode1 => ?_⟩
    refine n1 <| i_nx <| i_seq <| ?_
    obtain ⟨hl1, hl2⟩ := bad_len mode hmode0
    obtain ⟨sp0, hsp0, hsp1⟩ := split_ok mode hmode0
    refine i_asg <| i_lst <| i_cons <| i_op <| v1 <| i_c <| i_addT (by show _ + 1 ≤ _; omega) <| i_cons <| i_op <| i_c <| v1 <| i_addT (by show 1 + _ ≤ _; omega) <| i_cons <| i_sl <| v1 <| i_part <| i_c <| i_partI <| i_noP <| i_slS (by omega) <| i_cons <| i_sl <| v1 <| i_noP <| i_part <| i_op <| i_cb <| i_cons <| v1 <| i_nil <| i_lenTx (by omega) <| i_c <| i_I0 <| i_partI <| i_slS (by omega) <| i_cons <| i_m0 <| v1 <| i_isS <| i_upper (by omega) <| i_cons <| i_repl <| v1 <| i_replE (by show _ + (_ + 1) * 1 ≤ _; omega) <| i_nil <| i_kLst (of_decide_eq_true rfl) (fun p2 H2 z2 s2 f2 => ?_)
    refine n2 <| i_nx <| i_seq <| i_asg <| i_op <| v2 <| i_lst <| i_cons <| i_op <| v1 <| i_op <| v1 <| i_op <| i_cb <| i_cons <| v1 <| i_nil <| i_lenTx (by omega) <| i_c <| i_I0 <| i_ixS (by omega) (by exact last_ok mode hmode0) <| i_addT (by have q : (chT mode ((mode.length : Int) - 1)).length ≤ 1 := chT_len _ _; omega) <| i_cons <| i_op <| i_bm <| v1 <| i_tyS <| i_cons <| i_c <| i_nil <| i_split (by decide) (by omega) (fun p3 H3 z3 s3 f3 => ?_)
    refine i_c <| i_ixL (SqL.of f3) (atI_nat (j := 0) (by rw [List.getElem?_map, hsp0]; rfl)) <| i_cons <| i_op <| i_c <| v1 <| i_addT (by show 8 + _ ≤ _; omega) <| i_cons <| i_c <| i_nil <| i_kLst (of_decide_eq_true rfl) (fun p4 H4 z4 s4 f4 => ?_)
    refine i_cat ((s3.trans s4) _ _ f2) f4 (by exact of_decide_eq_true rfl) (by exact of_decide_eq_true rfl) (fun p5 H5 z5 s5 f5 => ?_)
    refine n2 <| i_nx <| i_seq <| i_asg <| i_op <| v2 <| i_call <| i_cons <| v0 <| i_cons <| i_c <| i_nil <| ⟨_, _, rfl, (same_src (s2.trans (s3.trans (s4.trans s5))) g1), (by first | assumption | omega | rfl | exact Sz.zero | exact Sz.sm (by omega) (by omega) (by decide) | exact Sz.mono (by assumption) (by decide)), (by first | assumption | omega | rfl | exact Sz.zero | exact Sz.sm (by omega) (by omega) (by decide) | exact Sz.mono (by assumption) (by decide)), fun q H6 s6 g6 hq0 hq1 hq2 => ?_⟩
    refine i_ixL (SqL.of (s6 _ _ (stab_len (of_decide_eq_true rfl)) f5)) (at_getS (xs := ([mode ++ " ", " " ++ mode, cutS mode (some 1) none, cutS mode none (some ((mode.length : Int) - 1)), Txt.upper mode, Txt.replace mode "-" "_", mode ++ chT mode ((mode.length : Int) - 1), sp0, "nearest-" ++ mode, ""] : List Str)) hq0 (by show q < 10; omega)) <| n3 <| i_nx <| i_seq <| i_if <| i_test <| i_op <| v3 <| i_call <| i_nil <| ⟨rfl, fun msA ms H7 s7 f7_0 hms => ?_⟩
    refine i_in (.inl (SqL.of f7_0)) rfl (by rw [hms]; exact flat_str modes9) (b := (decide (([mode ++ " ", " " ++ mode, cutS mode (some 1) none, cutS mode none (some ((mode.length : Int) - 1)), Txt.upper mode, Txt.replace mode "-" "_", mode ++ chT mode ((mode.length : Int) - 1), sp0, "nearest-" ++ mode, ""] : List Str).getD q.toNat "" ∈ modes9))) (by rw [hms]; exact in_str _ modes9) <| i_bl <| i_ite (fun c5 => ?_) (fun c5 => ?_)
    ·
      refine i_ret <| i_op <| v3 <| i_c <| i_addT (by have q := bad_len _ c5; show _ + 1 ≤ _; omega) <| ?_
      exact k _ _ (s1.trans ((ext_of s2).trans ((ext_of s3).trans ((ext_of s4).trans ((ext_of s5).trans (s6.trans (ext_of s7))))))) (same_src s7 g6) (by exact dash_not _ c5)
    ·
      refine i_next <| i_nx <| i_ret <| v3 <| ?_
      exact k _ _ (s1.trans ((ext_of s2).trans ((ext_of s3).trans ((ext_of s4).trans ((ext_of s5).trans (s6.trans (ext_of s7))))))) (same_src s7 g6) (by exact c5)

/-! _law_bordered -/
def sp__law_bordered (K : PySem.W.Frag) : Sp := fun vs H Q _ => ∃ (sourceA : Addr) (base : Int) (precision : Int), vs = [V.ref sourceA, V.int base, V.int precision] ∧ IsSrc H sourceA ∧ (2 ≤ base) ∧ (base ≤ 36) ∧ (3 ≤ precision) ∧ (precision ≤ 200) ∧ ∀ (rA : Addr) (r : GR) (H' : Hp), Z.Ext H H' → IsSrc H' sourceA → IsI (He.ga K "Grid") H' rA (grF r) → (r.b = base) → (r.p = precision) → (r.o ≠ none ∨ r.t ≠ none) → Q (V.ref rA) H'
abbrev s__law_bordered : Stmt := top 63
theorem sc__law_bordered : FnScope ["source", "base", "precision", "low", "high", "kind"] ["source", "base", "precision"] (defScope s__law_bordered) := ⟨rfl, rfl, rfl, by decide +kernel, rfl, by decide +kernel, by decide +kernel⟩
theorem vis__law_bordered : visB ["source", "base", "precision", "low", "high", "kind"] (defScope s__law_bordered) = true := by decide +kernel
theorem gl__law_bordered : glB ["_law_small", "_law_draw", "Grid"] (defScope s__law_bordered) = true := by decide +kernel
theorem ok__law_bordered {P : Program} {w : World} {K : PySem.W.Frag} {mg : Str → Option Value} {hp9 : Heap} (T : Txt P w K mg) : OkD P w K mg hp9 4 (He.fAd K ("_law_bordered", none)) ["source", "base", "precision"] [] (sp__law_bordered K) := by
  obtain ⟨fd, F⟩ := T.d__law_bordered
  refine ⟨fd, [], F.kp, F.bindsN (fun _ _ _ _ _ _ us hl => match us, hl with | [_, _, _], _ => rfl), .nil, ?_⟩
  have sc := sc__law_bordered; have vis := vis__law_bordered; have gls := gl__law_bordered
  refine F.ok sc (fun vs H Q E h => ?_) (fun cdv A outer s H0 vs Q E hr h => ?_)
  · obtain ⟨sourceA, base, precision, rfl, _⟩ := h; rfl
  · obtain ⟨sourceA, base, precision, rfl, a0, e0, e1, e2, e3, k⟩ := h
    refine ⟨_, PSs.nox (pss_cons (ps_set (i := 3) sc.nd rfl (.inl rfl) (pcD (ok__law_small T) (hr.mono (by decide)) gls 0 T.g__law_small (pa_cons (pn vis 0) pa_nil))) (pss_cons (ps_set (i := 4) sc.nd rfl (.inl rfl) (pe_op op_add (pn vis 3) (pcD (ok__law_draw T) (hr.mono (by decide)) gls 1 T.g__law_draw (pa_cons (pn vis 0) (pa_cons pe_int pa_nil))))) (pss_cons (ps_set (i := 5) sc.nd rfl (.inl rfl) (pcD (ok__law_draw T) (hr.mono (by decide)) gls 1 T.g__law_draw (pa_cons (pn vis 0) (pa_cons pe_int pa_nil)))) (pss_cons (ps_if (pt_cmpR op_eqI (pn vis 5) pe_int (nomark _)) (pss_one (ps_ret (pcMK T.mk_Grid (kb_Grid___init___bottom T) (hr.mono (by decide)) gls 2 T.g_Grid (pa_cons (pn vis 1) (pa_cons (pn vis 2) pa_nil)) (pk_cons (pn vis 3) pk_nil)))) pss_nil) (pss_cons (ps_if (pt_cmpR op_eqI (pn vis 5) pe_int (nomark _)) (pss_one (ps_ret (pcMK T.mk_Grid (kb_Grid___init___top T) (hr.mono (by decide)) gls 2 T.g_Grid (pa_cons (pn vis 1) (pa_cons (pn vis 2) pa_nil)) (pk_cons (pn vis 4) pk_nil)))) pss_nil) (pss_one (ps_ret (pcMK T.mk_Grid (kb_Grid___init___bottom_top T) (hr.mono (by decide)) gls 2 T.g_Grid (pa_cons (pn vis 1) (pa_cons (pn vis 2) pa_nil)) (pk_cons (pn vis 3) (pk_cons (pn vis 4) pk_nil)))))))))), ?_⟩
    refine i_start (σ' := [some (V.ref sourceA), some (V.int base), some (V.int precision), none, none, none]) rfl ?_
    refine i_seq <| i_asg <| i_call <| i_cons <| v0 <| i_nil <| ⟨_, rfl, a0, fun low H1 s1 g1 hlow0 hlow1 => ?_⟩
    refine n3 <| i_nx <| i_seq <| i_asg <| i_op <| v3 <| i_call <| i_cons <| v0 <| i_cons <| i_c <| i_nil <| ⟨_, _, rfl, g1, (by first | assumption | omega | rfl | exact Sz.zero | exact Sz.sm (by omega) (by omega) (by decide) | exact Sz.mono (by assumption) (by decide)), (by first | assumption | omega | rfl | exact Sz.zero | exact Sz.sm (by omega) (by omega) (by decide) | exact Sz.mono (by assumption) (by decide)), fun dh H2 s2 g2 hdh0 hdh1 hdh2 => ?_⟩
    refine i_I0 <| nI4 (fun high hhigh => ?_)
    refine i_nx <| i_seq <| i_asg <| i_call <| i_cons <| v0 <| i_cons <| i_c <| i_nil <| ⟨_, _, rfl, g2, (by first | assumption | omega | rfl | exact Sz.zero | exact Sz.sm (by omega) (by omega) (by decide) | exact Sz.mono (by assumption) (by decide)), (by first | assumption | omega | rfl | exact Sz.zero | exact Sz.sm (by omega) (by omega) (by decide) | exact Sz.mono (by assumption) (by decide)), fun kind H3 s3 g3 hkind0 hkind1 hkind2 => ?_⟩
    refine n5 <| i_nx <| i_seq <| i_if <| i_test <| i_op <| v5 <| i_c <| i_I0 <| i_bl <| i_ite (fun c4 => ?_) (fun c4 => ?_)
    ·
      refine i_ret <| i_makeK <| i_cons <| v1 <| i_cons <| v2 <| i_nil <| i_cons <| v3 <| i_nil <| i_madeK rfl rfl (fun xo4 H4 k4 i4 => ?_)
      refine ⟨xo4, _, _, (some _), none, rfl, i4, (by first | assumption | omega | rfl | exact Sz.zero | exact Sz.sm (by omega) (by omega) (by decide) | exact Sz.mono (by assumption) (by decide)), (by first | assumption | omega | rfl | exact Sz.zero | exact Sz.sm (by omega) (by omega) (by decide) | exact Sz.mono (by assumption) (by decide)), (by first | assumption | omega | rfl | exact Sz.zero | exact Sz.sm (by omega) (by omega) (by decide) | exact Sz.mono (by assumption) (by decide)), (by first | assumption | omega | rfl | exact Sz.zero | exact Sz.sm (by omega) (by omega) (by decide) | exact Sz.mono (by assumption) (by decide)), (by exact True.intro), fun gr1 G4 p4 q4 hgr1 => ⟨rfl, ?_⟩⟩
      exact k _ _ _ (s1.trans (s2.trans (s3.trans (ext_of (k4 _ p4))))) (same_src (k4 _ p4) g3) q4 (by rw [hgr1]) (by rw [hgr1]) (by rw [hgr1]; exact .inl (by simp))
    ·
      refine i_next <| i_nx <| i_seq <| i_if <| i_test <| i_op <| v5 <| i_c <| i_I0 <| i_bl <| i_ite (fun c6 => ?_) (fun c6 => ?_)
      ·
        refine i_ret <| i_makeK <| i_cons <| v1 <| i_cons <| v2 <| i_nil <| i_cons <| v4 <| i_nil <| i_madeK rfl rfl (fun xo5 H5 k5 i5 => ?_)
        refine ⟨xo5, _, _, none, (some _), rfl, i5, (by first | assumption | omega | rfl | exact Sz.zero | exact Sz.sm (by omega) (by omega) (by decide) | exact Sz.mono (by assumption) (by decide)), (by first | assumption | omega | rfl | exact Sz.zero | exact Sz.sm (by omega) (by omega) (by decide) | exact Sz.mono (by assumption) (by decide)), (by first | assumption | omega | rfl | exact Sz.zero | exact Sz.sm (by omega) (by omega) (by decide) | exact Sz.mono (by assumption) (by decide)), (by first | assumption | omega | rfl | exact Sz.zero | exact Sz.sm (by omega) (by omega) (by decide) | exact Sz.mono (by assumption) (by decide)), (by exact True.intro), fun gr2 G5 p5 q5 hgr2 => ⟨rfl, ?_⟩⟩
        exact k _ _ _ (s1.trans (s2.trans (s3.trans (ext_of (k5 _ p5))))) (same_src (k5 _ p5) g3) q5 (by rw [hgr2]) (by rw [hgr2]) (by rw [hgr2]; exact .inr (by simp))
      ·
        refine i_next <| i_nx <| i_ret <| i_makeK <| i_cons <| v1 <| i_cons <| v2 <| i_nil <| i_cons <| v3 <| i_cons <| v4 <| i_nil <| i_madeK rfl rfl (fun xo6 H6 k6 i6 => ?_)
        refine ⟨xo6, _, _, (some _), (some _), rfl, i6, (by first | assumption | omega | rfl | exact Sz.zero | exact Sz.sm (by omega) (by omega) (by decide) | exact Sz.mono (by assumption) (by decide)), (by first | assumption | omega | rfl | exact Sz.zero | exact Sz.sm (by omega) (by omega) (by decide) | exact Sz.mono (by assumption) (by decide)), (by first | assumption | omega | rfl | exact Sz.zero | exact Sz.sm (by omega) (by omega) (by decide) | exact Sz.mono (by assumption) (by decide)), (by first | assumption | omega | rfl | exact Sz.zero | exact Sz.sm (by omega) (by omega) (by decide) | exact Sz.mono (by assumption) (by decide)), (by show low ≤ high; omega), fun gr3 G6 p6 q6 hgr3 => ⟨rfl, ?_⟩⟩
        exact k _ _ _ (s1.trans (s2.trans (s3.trans (ext_of (k6 _ p6))))) (same_src (k6 _ p6) g3) q6 (by rw [hgr3]) (by rw [hgr3]) (by rw [hgr3]; exact .inl (by simp))

/-! _law_error@mode -/
def sp__law_error_mode (K : PySem.W.Frag) (a9 : Addr) (cls9 : Value) (d9 : Option Addr) : Sp := fun vs H Q _ => ∃ (eD : Addr) (e_mode : Str), vs = [V.ref a9] ∧ cls9 = .ref (He.ga K "BadMode") ∧ d9 = some eD ∧ H eD = some (.xd [("mode", V.str e_mode)]) ∧ ∀ (rA : Addr) (r0 : Str) (r1 : Str) (H' : Hp), Same H H' → H' rA = some (.lst [V.str r0, V.str r1]) → (r0 = "mode") → (r1 = e_mode) → Q (V.ref rA) H'
abbrev s__law_error_mode : Stmt := top 69
theorem sc__law_error_mode : FnScope ["e", "kinds"] ["e"] (defScope s__law_error_mode) := ⟨rfl, rfl, rfl, by decide +kernel, rfl, by decide +kernel, by decide +kernel⟩
theorem vis__law_error_mode : visB ["e", "kinds"] (defScope s__law_error_mode) = true := by decide +kernel
theorem gl__law_error_mode : glB ["BadMode", "isinstance", "BadGrid", "BadBase"] (defScope s__law_error_mode) = true := by decide +kernel
theorem okx__law_error_mode {P : Program} {w : World} {K : PySem.W.Frag} {mg : Str → Option Value} {hp9 : Heap} (T : Txt P w K mg) : OkX P w K mg hp9 1 (He.fAd K ("_law_error", none)) ["e"] (sp__law_error_mode K) := by
  obtain ⟨fd, F⟩ := T.d__law_error
  have sc := sc__law_error_mode; have vis := vis__law_error_mode; have gls := gl__law_error_mode
  refine ⟨fd, F.kp, F.bindsN (fun _ _ _ _ _ _ us hl => match us, hl with | [_], _ => rfl), fun a9 oe9 cls9 d9 hz9 hf9 => ?_⟩
  refine FunD.okX F sc (fun vs H Q E h => ?_) (fun cdv A outer s H0 vs Q E hh9 hr h => ?_)
  · obtain ⟨eD, e_mode, rfl, _⟩ := h; rfl
  · obtain ⟨eD, e_mode, rfl, rfl, rfl, a2, k⟩ := h
    have hru := unitsH hr
    refine ⟨_, PSs.nox (pss_cons (ps_set (i := 1) sc.nd rfl (.inl rfl) (pe_lst (pa_cons (pcB (id := "isinstance") (call_isX hz9.zc hf9 List.mem_cons_self) gls 1 T.b_isinstance (by decide +kernel) (pa_cons (pn vis 0) (pa_cons (pgr gls 0 T.g_BadMode) pa_nil))) (pa_cons (pcB (id := "isinstance") (call_isX hz9.zc hf9 List.mem_cons_self) gls 1 T.b_isinstance (by decide +kernel) (pa_cons (pn vis 0) (pa_cons (pgr gls 2 T.g_BadGrid) pa_nil))) (pa_cons (pcB (id := "isinstance") (call_isX hz9.zc hf9 List.mem_cons_self) gls 1 T.b_isinstance (by decide +kernel) (pa_cons (pn vis 0) (pa_cons (pgr gls 3 T.g_BadBase) pa_nil))) pa_nil))))) (pss_cons (ps_if (pt_cmpR (op_eqD hru) (pn vis 1) (pe_lst (pa_cons pe_bl (pa_cons pe_bl (pa_cons pe_bl pa_nil)))) (nomark _)) (pss_one (ps_ret (pe_lst (pa_cons pe_str (pa_cons (pe_xg (pn vis 0) hz9.zc hf9 List.mem_cons_self) pa_nil))))) pss_nil) pss_never)), ?_⟩
    refine i_start (σ' := [some (V.ref a9), none]) rfl ?_
    refine i_seq <| i_asg <| i_lst <| i_cons <| i_cb <| i_cons <| v0 <| i_cons <| i_c <| i_nil <| i_isX (b := true) T.excC_BadMode (fun dd e9 => by cases e9; exact ⟨_, a2⟩) (fun _ r9 => r9) T.ekit_BadMode_BadMode <| i_cons <| i_cb <| i_cons <| v0 <| i_cons <| i_c <| i_nil <| i_isX (b := false) T.excC_BadMode (fun dd e9 => by cases e9; exact ⟨_, a2⟩) (fun _ r9 => r9) T.ekit_BadMode_BadGrid <| i_cons <| i_cb <| i_cons <| v0 <| i_cons <| i_c <| i_nil <| i_isX (b := false) T.excC_BadMode (fun dd e9 => by cases e9; exact ⟨_, a2⟩) (fun _ r9 => r9) T.ekit_BadMode_BadBase <| i_nil <| i_kLst (of_decide_eq_true rfl) (fun p1 H1 z1 s1 f1 => ?_)
    refine n1 <| i_nx <| i_seq <| i_if <| i_test <| i_op <| v1 <| i_lst <| i_cons <| i_c <| i_cons <| i_c <| i_cons <| i_c <| i_nil <| i_kLst (of_decide_eq_true rfl) (fun p2 H2 z2 s2 f2 => ?_)
    refine i_eqBs (bs := [true, false, false]) (cs := [true, false, false]) (r := true) (SqL.of (s2 _ _ f1)) (SqL.of f2) rfl rfl rfl <| i_blq (b := true) rfl <| i_iteT <| i_ret <| i_lst <| i_cons <| i_c <| i_cons <| i_xg <| v0 <| i_xge T.xfC_BadMode T.na_BadMode_mode ((s1.trans s2) _ _ a2) rfl <| i_nil <| i_kLst (of_decide_eq_true rfl) (fun p3 H3 z3 s3 f3 => ?_)
    exact k _ _ _ _ (s1.trans (s2.trans s3)) f3 (by first | rfl | assumption | omega) (by first | rfl | assumption | omega)

/-! _law_error@grid -/
def sp__law_error_grid (K : PySem.W.Frag) (a9 : Addr) (cls9 : Value) (d9 : Option Addr) : Sp := fun vs H Q _ => ∃ (eD : Addr) (e_what : Str), vs = [V.ref a9] ∧ cls9 = .ref (He.ga K "BadGrid") ∧ d9 = some eD ∧ H eD = some (.xd [("what", V.str e_what)]) ∧ ∀ (rA : Addr) (r0 : Str) (r1 : Str) (H' : Hp), Same H H' → H' rA = some (.lst [V.str r0, V.str r1]) → (r0 = "grid") → (r1 = e_what) → Q (V.ref rA) H'
abbrev s__law_error_grid : Stmt := top 69
theorem sc__law_error_grid : FnScope ["e", "kinds"] ["e"] (defScope s__law_error_grid) := ⟨rfl, rfl, rfl, by decide +kernel, rfl, by decide +kernel, by decide +kernel⟩
theorem vis__law_error_grid : visB ["e", "kinds"] (defScope s__law_error_grid) = true := by decide +kernel
theorem gl__law_error_grid : glB ["BadMode", "isinstance", "BadGrid", "BadBase"] (defScope s__law_error_grid) = true := by decide +kernel
theorem okx__law_error_grid {P : Program} {w : World} {K : PySem.W.Frag} {mg : Str → Option Value} {hp9 : Heap} (T : Txt P w K mg) : OkX P w K mg hp9 1 (He.fAd K ("_law_error", none)) ["e"] (sp__law_error_grid K) := by
  obtain ⟨fd, F⟩ := T.d__law_error
  have sc := sc__law_error_grid; have vis := vis__law_error_grid; have gls := gl__law_error_grid
  refine ⟨fd, F.kp, F.bindsN (fun _ _ _ _ _ _ us hl => match us, hl with | [_], _ => rfl), fun a9 oe9 cls9 d9 hz9 hf9 => ?_⟩
  refine FunD.okX F sc (fun vs H Q E h => ?_) (fun cdv A outer s H0 vs Q E hh9 hr h => ?_)
  · obtain ⟨eD, e_what, rfl, _⟩ := h; rfl
  · obtain ⟨eD, e_what, rfl, rfl, rfl, a2, k⟩ := h
    have hru := unitsH hr
    refine ⟨_, PSs.nox (pss_cons (ps_set (i := 1) sc.nd rfl (.inl rfl) (pe_lst (pa_cons (pcB (id := "isinstance") (call_isX hz9.zc hf9 List.mem_cons_self) gls 1 T.b_isinstance (by decide +kernel) (pa_cons (pn vis 0) (pa_cons (pgr gls 0 T.g_BadMode) pa_nil))) (pa_cons (pcB (id := "isinstance") (call_isX hz9.zc hf9 List.mem_cons_self) gls 1 T.b_isinstance (by decide +kernel) (pa_cons (pn vis 0) (pa_cons (pgr gls 2 T.g_BadGrid) pa_nil))) (pa_cons (pcB (id := "isinstance") (call_isX hz9.zc hf9 List.mem_cons_self) gls 1 T.b_isinstance (by decide +kernel) (pa_cons (pn vis 0) (pa_cons (pgr gls 3 T.g_BadBase) pa_nil))) pa_nil))))) (pss_cons (ps_if (pt_cmpR (op_eqD hru) (pn vis 1) (pe_lst (pa_cons pe_bl (pa_cons pe_bl (pa_cons pe_bl pa_nil)))) (nomark _)) pss_never pss_nil) (pss_cons (ps_if (pt_cmpR (op_eqD hru) (pn vis 1) (pe_lst (pa_cons pe_bl (pa_cons pe_bl (pa_cons pe_bl pa_nil)))) (nomark _)) (pss_one (ps_ret (pe_lst (pa_cons pe_str (pa_cons (pe_xg (pn vis 0) hz9.zc hf9 List.mem_cons_self) pa_nil))))) pss_nil) pss_never))), ?_⟩
    refine i_start (σ' := [some (V.ref a9), none]) rfl ?_
    refine i_seq <| i_asg <| i_lst <| i_cons <| i_cb <| i_cons <| v0 <| i_cons <| i_c <| i_nil <| i_isX (b := false) T.excC_BadGrid (fun dd e9 => by cases e9; exact ⟨_, a2⟩) (fun _ r9 => r9) T.ekit_BadGrid_BadMode <| i_cons <| i_cb <| i_cons <| v0 <| i_cons <| i_c <| i_nil <| i_isX (b := true) T.excC_BadGrid (fun dd e9 => by cases e9; exact ⟨_, a2⟩) (fun _ r9 => r9) T.ekit_BadGrid_BadGrid <| i_cons <| i_cb <| i_cons <| v0 <| i_cons <| i_c <| i_nil <| i_isX (b := false) T.excC_BadGrid (fun dd e9 => by cases e9; exact ⟨_, a2⟩) (fun _ r9 => r9) T.ekit_BadGrid_BadBase <| i_nil <| i_kLst (of_decide_eq_true rfl) (fun p1 H1 z1 s1 f1 => ?_)
    refine n1 <| i_nx <| i_seq <| i_if <| i_test <| i_op <| v1 <| i_lst <| i_cons <| i_c <| i_cons <| i_c <| i_cons <| i_c <| i_nil <| i_kLst (of_decide_eq_true rfl) (fun p2 H2 z2 s2 f2 => ?_)
    refine i_eqBs (bs := [false, true, false]) (cs := [true, false, false]) (r := false) (SqL.of (s2 _ _ f1)) (SqL.of f2) rfl rfl rfl <| i_blq (b := false) rfl <| i_iteF <| i_next <| i_nx <| i_seq <| i_if <| i_test <| i_op <| v1 <| i_lst <| i_cons <| i_c <| i_cons <| i_c <| i_cons <| i_c <| i_nil <| i_kLst (of_decide_eq_true rfl) (fun p3 H3 z3 s3 f3 => ?_)
    refine i_eqBs (bs := [false, true, false]) (cs := [false, true, false]) (r := true) (SqL.of ((s2.trans s3) _ _ f1)) (SqL.of f3) rfl rfl rfl <| i_blq (b := true) rfl <| i_iteT <| i_ret <| i_lst <| i_cons <| i_c <| i_cons <| i_xg <| v0 <| i_xge T.xfC_BadGrid T.na_BadGrid_what ((s1.trans (s2.trans s3)) _ _ a2) rfl <| i_nil <| i_kLst (of_decide_eq_true rfl) (fun p4 H4 z4 s4 f4 => ?_)
    exact k _ _ _ _ (s1.trans (s2.trans (s3.trans s4))) f4 (by first | rfl | assumption | omega) (by first | rfl | assumption | omega)

/-! _law_error@base -/
def sp__law_error_base (K : PySem.W.Frag) (a9 : Addr) (cls9 : Value) (d9 : Option Addr) : Sp := fun vs H Q _ => ∃ (eD : Addr) (e_base : Int), vs = [V.ref a9] ∧ cls9 = .ref (He.ga K "BadBase") ∧ d9 = some eD ∧ H eD = some (.xd [("base", V.int e_base)]) ∧ ∀ (rA : Addr) (r0 : Str) (r1 : Int) (H' : Hp), Same H H' → H' rA = some (.lst [V.str r0, V.int r1]) → (r0 = "base") → (r1 = e_base) → Q (V.ref rA) H'
abbrev s__law_error_base : Stmt := top 69
theorem sc__law_error_base : FnScope ["e", "kinds"] ["e"] (defScope s__law_error_base) := ⟨rfl, rfl, rfl, by decide +kernel, rfl, by decide +kernel, by decide +kernel⟩
theorem vis__law_error_base : visB ["e", "kinds"] (defScope s__law_error_base) = true := by decide +kernel
theorem gl__law_error_base : glB ["BadMode", "isinstance", "BadGrid", "BadBase"] (defScope s__law_error_base) = true := by decide +kernel
theorem okx__law_error_base {P : Program} {w : World} {K : PySem.W.Frag} {mg : Str → Option Value} {hp9 : Heap} (T : Txt P w K mg) : OkX P w K mg hp9 1 (He.fAd K ("_law_error", none)) ["e"] (sp__law_error_base K) := by
  obtain ⟨fd, F⟩ := T.d__law_error
  have sc := sc__law_error_base; have vis := vis__law_error_base; have gls := gl__law_error_base
  refine ⟨fd, F.kp, F.bindsN (fun _ _ _ _ _ _ us hl => match us, hl with | [_], _ => rfl), fun a9 oe9 cls9 d9 hz9 hf9 => ?_⟩
  refine FunD.okX F sc (fun vs H Q E h => ?_) (fun cdv A outer s H0 vs Q E hh9 hr h => ?_)
  · obtain ⟨eD, e_base, rfl, _⟩ := h; rfl
  · obtain ⟨eD, e_base, rfl, rfl, rfl, a2, k⟩ := h
    have hru := unitsH hr
    refine ⟨_, PSs.nox (pss_cons (ps_set (i := 1) sc.nd rfl (.inl rfl) (pe_lst (pa_cons (pcB (id := "isinstance") (call_isX hz9.zc hf9 List.mem_cons_self) gls 1 T.b_isinstance (by decide +kernel) (pa_cons (pn vis 0) (pa_cons (pgr gls 0 T.g_BadMode) pa_nil))) (pa_cons (pcB (id := "isinstance") (call_isX hz9.zc hf9 List.mem_cons_self) gls 1 T.b_isinstance (by decide +kernel) (pa_cons (pn vis 0) (pa_cons (pgr gls 2 T.g_BadGrid) pa_nil))) (pa_cons (pcB (id := "isinstance") (call_isX hz9.zc hf9 List.mem_cons_self) gls 1 T.b_isinstance (by decide +kernel) (pa_cons (pn vis 0) (pa_cons (pgr gls 3 T.g_BadBase) pa_nil))) pa_nil))))) (pss_cons (ps_if (pt_cmpR (op_eqD hru) (pn vis 1) (pe_lst (pa_cons pe_bl (pa_cons pe_bl (pa_cons pe_bl pa_nil)))) (nomark _)) pss_never pss_nil) (pss_cons (ps_if (pt_cmpR (op_eqD hru) (pn vis 1) (pe_lst (pa_cons pe_bl (pa_cons pe_bl (pa_cons pe_bl pa_nil)))) (nomark _)) pss_never pss_nil) (pss_cons (ps_if (pt_cmpR (op_eqD hru) (pn vis 1) (pe_lst (pa_cons pe_bl (pa_cons pe_bl (pa_cons pe_bl pa_nil)))) (nomark _)) (pss_one (ps_ret (pe_lst (pa_cons pe_str (pa_cons (pe_xg (pn vis 0) hz9.zc hf9 List.mem_cons_self) pa_nil))))) pss_nil) pss_never)))), ?_⟩
    refine i_start (σ' := [some (V.ref a9), none]) rfl ?_
    refine i_seq <| i_asg <| i_lst <| i_cons <| i_cb <| i_cons <| v0 <| i_cons <| i_c <| i_nil <| i_isX (b := false) T.excC_BadBase (fun dd e9 => by cases e9; exact ⟨_, a2⟩) (fun _ r9 => r9) T.ekit_BadBase_BadMode <| i_cons <| i_cb <| i_cons <| v0 <| i_cons <| i_c <| i_nil <| i_isX (b := false) T.excC_BadBase (fun dd e9 => by cases e9; exact ⟨_, a2⟩) (fun _ r9 => r9) T.ekit_BadBase_BadGrid <| i_cons <| i_cb <| i_cons <| v0 <| i_cons <| i_c <| i_nil <| i_isX (b := true) T.excC_BadBase (fun dd e9 => by cases e9; exact ⟨_, a2⟩) (fun _ r9 => r9) T.ekit_BadBase_BadBase <| i_nil <| i_kLst (of_decide_eq_true rfl) (fun p1 H1 z1 s1 f1 => ?_)
    refine n1 <| i_nx <| i_seq <| i_if <| i_test <| i_op <| v1 <| i_lst <| i_cons <| i_c <| i_cons <| i_c <| i_cons <| i_c <| i_nil <| i_kLst (of_decide_eq_true rfl) (fun p2 H2 z2 s2 f2 => ?_)
    refine i_eqBs (bs := [false, false, true]) (cs := [true, false, false]) (r := false) (SqL.of (s2 _ _ f1)) (SqL.of f2) rfl rfl rfl <| i_blq (b := false) rfl <| i_iteF <| i_next <| i_nx <| i_seq <| i_if <| i_test <| i_op <| v1 <| i_lst <| i_cons <| i_c <| i_cons <| i_c <| i_cons <| i_c <| i_nil <| i_kLst (of_decide_eq_true rfl) (fun p3 H3 z3 s3 f3 => ?_)
    refine i_eqBs (bs := [false, false, true]) (cs := [false, true, false]) (r := false) (SqL.of ((s2.trans s3) _ _ f1)) (SqL.of f3) rfl rfl rfl <| i_blq (b := false) rfl <| i_iteF <| i_next <| i_nx <| i_seq <| i_if <| i_test <| i_op <| v1 <| i_lst <| i_cons <| i_c <| i_cons <| i_c <| i_cons <| i_c <| i_nil <| i_kLst (of_decide_eq_true rfl) (fun p4 H4 z4 s4 f4 => ?_)
    refine i_eqBs (bs := [false, false, true]) (cs := [false, false, true]) (r := true) (SqL.of ((s2.trans (s3.trans s4)) _ _ f1)) (SqL.of f4) rfl rfl rfl <| i_blq (b := true) rfl <| i_iteT <| i_ret <| i_lst <| i_cons <| i_c <| i_cons <| i_xg <| v0 <| i_xge T.xfC_BadBase T.na_BadBase_base ((s1.trans (s2.trans (s3.trans s4))) _ _ a2) rfl <| i_nil <| i_kLst (of_decide_eq_true rfl) (fun p5 H5 z5 s5 f5 => ?_)
    exact k _ _ _ _ (s1.trans (s2.trans (s3.trans (s4.trans s5)))) f5 (by first | rfl | assumption | omega) (by first | rfl | assumption | omega)

/-! _law_equal@Mss -/
def sp__law_equal_Mss (K : PySem.W.Frag) : Sp := fun vs H Q _ => ∃ (actualA : Addr) (actual0 : Str) (actual1 : Str) (expectedA : Addr) (expected0 : Str) (expected1 : Str), vs = [V.ref actualA, V.ref expectedA] ∧ H actualA = some (.lst [V.str actual0, V.str actual1]) ∧ H expectedA = some (.lst [V.str expected0, V.str expected1]) ∧ (actual0 = expected0) ∧ (actual1 = expected1) ∧ ∀  (H' : Hp), Same H H' → Q (V.bl true) H'
abbrev s__law_equal_Mss : Stmt := top 58
theorem sc__law_equal_Mss : FnScope ["actual", "expected", "k"] ["actual", "expected"] (defScope s__law_equal_Mss) := ⟨rfl, rfl, rfl, by decide +kernel, rfl, by decide +kernel, by decide +kernel⟩
theorem vis__law_equal_Mss : visB ["actual", "expected", "k"] (defScope s__law_equal_Mss) = true := by decide +kernel
theorem gl__law_equal_Mss : glB ["bool", "isinstance", "int", "str", "list", "tuple", "len", "_law_equal", "range"] (defScope s__law_equal_Mss) = true := by decide +kernel
theorem ok__law_equal_Mss {P : Program} {w : World} {K : PySem.W.Frag} {mg : Str → Option Value} {hp9 : Heap} (T : Txt P w K mg) : OkD P w K mg hp9 2 (He.fAd K ("_law_equal", none)) ["actual", "expected"] [] (sp__law_equal_Mss K) := by
  obtain ⟨fd, F⟩ := T.d__law_equal
  refine ⟨fd, [], F.kp, F.bindsN (fun _ _ _ _ _ _ us hl => match us, hl with | [_, _], _ => rfl), .nil, ?_⟩
  have sc := sc__law_equal_Mss; have vis := vis__law_equal_Mss; have gls := gl__law_equal_Mss
  refine F.ok sc (fun vs H Q E h => ?_) (fun cdv A outer s H0 vs Q E hr h => ?_)
  · obtain ⟨actualA, actual0, actual1, expectedA, expected0, expected1, rfl, _⟩ := h; rfl
  · obtain ⟨actualA, actual0, actual1, expectedA, expected0, expected1, rfl, a0, a1, e0, e1, k⟩ := h
    refine ⟨_, PSs.nox (pss_cons (ps_if (pt_cmpR op_isN_ (pn vis 1) pe_non (nomark _)) pss_never pss_nil) (pss_cons (ps_if (pt_val (pcB call_isi gls 1 T.b_isinstance (by decide +kernel) (pa_cons (pn vis 1) (pa_cons (pgt gls 0 T.b_bool boot_bool) pa_nil)))) pss_never pss_nil) (pss_cons (ps_if (pt_val (pcB call_isi gls 1 T.b_isinstance (by decide +kernel) (pa_cons (pn vis 1) (pa_cons (pgt gls 2 T.b_int boot_int) pa_nil)))) pss_never pss_nil) (pss_cons (ps_if (pt_val (pcB call_isi gls 1 T.b_isinstance (by decide +kernel) (pa_cons (pn vis 1) (pa_cons (pgt gls 3 T.b_str boot_str) pa_nil)))) pss_never pss_nil) (pss_cons (ps_if (pt_cmpR op_neB (pcB call_isi gls 1 T.b_isinstance (by decide +kernel) (pa_cons (pn vis 1) (pa_cons (pgt gls 4 T.b_list boot_list) pa_nil))) (pcB call_isi gls 1 T.b_isinstance (by decide +kernel) (pa_cons (pn vis 0) (pa_cons (pgt gls 4 T.b_list boot_list) pa_nil))) (nomark _)) pss_never pss_nil) (pss_cons (ps_if (pt_cmpR op_neB (pcB call_isi gls 1 T.b_isinstance (by decide +kernel) (pa_cons (pn vis 1) (pa_cons (pgt gls 5 T.b_tuple boot_tuple) pa_nil))) (pcB call_isi gls 1 T.b_isinstance (by decide +kernel) (pa_cons (pn vis 0) (pa_cons (pgt gls 5 T.b_tuple boot_tuple) pa_nil))) (nomark _)) pss_never pss_nil) (pss_cons (ps_if (PW.pt (pw_and (pt_not (pt_val (pcB call_isi gls 1 T.b_isinstance (by decide +kernel) (pa_cons (pn vis 1) (pa_cons (pgt gls 4 T.b_list boot_list) pa_nil))))) (pw_and1 (pt_not pt_never)))) pss_never pss_nil) (pss_cons (ps_if (pt_cmpR op_neI (pcB call_lenS gls 6 T.b_len PySem.boot_len (pa_cons (pn vis 0) pa_nil)) (pcB call_lenS gls 6 T.b_len PySem.boot_len (pa_cons (pn vis 1) pa_nil)) (nomark _)) pss_never pss_nil) (pss_cons (ps_for PassesOwn.never rfl (pi_range1 (gl_of gls (i := 8) rfl).1 T.b_range (pa_cons (pcB call_lenS gls 6 T.b_len PySem.boot_len (pa_cons (pn vis 1) pa_nil)) pa_nil)) (pg_name (i := 2) sc.nd rfl (.inl rfl)) (pss_one (ps_if (pt_not (pt_val (pcD (ok__law_equal_str T) (hr.mono (by decide)) gls 7 T.g__law_equal (pa_cons (pe_ix ix_list (pn vis 0) (pn vis 2) (fun _ _ => rfl)) (pa_cons (pe_ix ix_list (pn vis 1) (pn vis 2) (fun _ _ => rfl)) pa_nil))))) pss_never pss_nil))) (pss_one (ps_ret pe_bl))))))))))), ?_⟩
    refine i_start (σ' := [some (V.ref actualA), some (V.ref expectedA), none]) rfl ?_
    refine i_seq <| i_if <| i_test <| i_op <| v1 <| i_c <| i_isN (b := false) rfl <| i_bl <| i_iteF <| i_next <| i_nx <| i_seq <| i_if <| i_tB <| i_cb <| i_cons <| v1 <| i_cons <| i_c <| i_nil <| i_isi (b := false) (.ty _) (.base (.lst a1)) (kit_ty (by decide +kernel)) <| i_bl <| i_iteF <| i_next <| i_nx <| i_seq <| i_if <| i_tB <| i_cb <| i_cons <| v1 <| i_cons <| i_c <| i_nil <| i_isi (b := false) (.ty _) (.base (.lst a1)) (kit_ty (by decide +kernel)) <| i_bl <| i_iteF <| i_next <| i_nx <| i_seq <| i_if <| i_tB <| i_cb <| i_cons <| v1 <| i_cons <| i_c <| i_nil <| i_isi (b := false) (.ty _) (.base (.lst a1)) (kit_ty (by decide +kernel)) <| i_bl <| i_iteF <| i_next <| i_nx <| i_seq <| i_if <| i_test <| i_op <| i_cb <| i_cons <| v1 <| i_cons <| i_c <| i_nil <| i_isi (b := true) (.ty _) (.base (.lst a1)) (kit_ty (by decide +kernel)) <| i_cb <| i_cons <| v0 <| i_cons <| i_c <| i_nil <| i_isi (b := true) (.ty _) (.base (.lst a0)) (kit_ty (by decide +kernel)) <| i_B0 <| i_blq (b := false) rfl <| i_iteF <| i_next <| i_nx <| i_seq <| i_if <| i_test <| i_op <| i_cb <| i_cons <| v1 <| i_cons <| i_c <| i_nil <| i_isi (b := false) (.ty _) (.base (.lst a1)) (kit_ty (by decide +kernel)) <| i_cb <| i_cons <| v0 <| i_cons <| i_c <| i_nil <| i_isi (b := false) (.ty _) (.base (.lst a0)) (kit_ty (by decide +kernel)) <| i_B0 <| i_blq (b := false) rfl <| i_iteF <| i_next <| i_nx <| i_seq <| i_if <| i_and <| i_not <| i_tB <| i_cb <| i_cons <| v1 <| i_cons <| i_c <| i_nil <| i_isi (b := true) (.ty _) (.base (.lst a1)) (kit_ty (by decide +kernel)) <| i_bl <| i_iteNT <| i_iteF <| i_next <| i_nx <| i_seq <| i_if <| i_test <| i_op <| i_cb <| i_cons <| v0 <| i_nil <| i_lenL (SqL.of a0) <| i_cb <| i_cons <| v1 <| i_nil <| i_lenL (SqL.of a1) <| i_I0 <| i_blq (b := false) rfl <| i_iteF <| i_next <| i_nx <| i_seq <| i_for <| i_for1 <| i_cons <| i_cb <| i_cons <| v1 <| i_nil <| i_lenL (SqL.of a1) <| i_nil <| i_rng1 (fun i σ H' => ∃ (o_k : Option V), σ = [some (V.ref actualA), some (V.ref expectedA), o_k] ∧ Same H0 H') (by omega) (by show ((2 : Nat) : Int) < 2 ^ 62; decide) ?_ ?_ ?_
    ·
      exact ⟨_, rfl, (Same.refl _)⟩
    ·
      intro i
      rintro σ H1 hi ⟨o_k, rfl, s1⟩
      match i, hi with
      | 0, hi =>
        refine n2 <| i_if <| i_not <| i_tB <| i_call <| i_cons <| i_op <| v0 <| v2 <| i_ixL (SqL.of (s1 _ _ a0)) (atI_nat (j := 0) rfl) <| i_cons <| i_op <| v1 <| v2 <| i_ixL (SqL.of (s1 _ _ a1)) (atI_nat (j := 0) rfl) <| i_nil <| ⟨_, _, rfl, (by first | assumption | omega | rfl | exact Sz.zero | exact Sz.sm (by omega) (by omega) (by decide) | exact Sz.mono (by assumption) (by decide)), fun H3 s3 => ?_⟩
        refine i_bl <| i_iteNT <| i_next <| ?_
        exact ⟨_, rfl, (s1.trans s3)⟩
      | 1, hi =>
        refine n2 <| i_if <| i_not <| i_tB <| i_call <| i_cons <| i_op <| v0 <| v2 <| i_ixL (SqL.of (s1 _ _ a0)) (atI_nat (j := 1) rfl) <| i_cons <| i_op <| v1 <| v2 <| i_ixL (SqL.of (s1 _ _ a1)) (atI_nat (j := 1) rfl) <| i_nil <| ⟨_, _, rfl, (by first | assumption | omega | rfl | exact Sz.zero | exact Sz.sm (by omega) (by omega) (by decide) | exact Sz.mono (by assumption) (by decide)), fun H5 s5 => ?_⟩
        refine i_bl <| i_iteNT <| i_next <| ?_
        exact ⟨_, rfl, (s1.trans s5)⟩
      | n9 + 2, hi => exact absurd hi (by show ¬ n9 + 2 < 2; omega)
    ·
      rintro σ H6 ⟨o_k, rfl, s6⟩
      refine i_nx <| i_ret <| i_c <| ?_
      exact k _ s6

/-! _law_equal@Msi -/
def sp__law_equal_Msi (K : PySem.W.Frag) : Sp := fun vs H Q _ => ∃ (actualA : Addr) (actual0 : Str) (actual1 : Int) (expectedA : Addr) (expected0 : Str) (expected1 : Int), vs = [V.ref actualA, V.ref expectedA] ∧ H actualA = some (.lst [V.str actual0, V.int actual1]) ∧ H expectedA = some (.lst [V.str expected0, V.int expected1]) ∧ (actual0 = expected0) ∧ (actual1 = expected1) ∧ ∀  (H' : Hp), Same H H' → Q (V.bl true) H'
abbrev s__law_equal_Msi : Stmt := top 58
theorem sc__law_equal_Msi : FnScope ["actual", "expected", "k"] ["actual", "expected"] (defScope s__law_equal_Msi) := ⟨rfl, rfl, rfl, by decide +kernel, rfl, by decide +kernel, by decide +kernel⟩
theorem vis__law_equal_Msi : visB ["actual", "expected", "k"] (defScope s__law_equal_Msi) = true := by decide +kernel
theorem gl__law_equal_Msi : glB ["bool", "isinstance", "int", "str", "list", "tuple", "len", "_law_equal", "range"] (defScope s__law_equal_Msi) = true := by decide +kernel
theorem ok__law_equal_Msi {P : Program} {w : World} {K : PySem.W.Frag} {mg : Str → Option Value} {hp9 : Heap} (T : Txt P w K mg) : OkD P w K mg hp9 2 (He.fAd K ("_law_equal", none)) ["actual", "expected"] [] (sp__law_equal_Msi K) := by
  obtain ⟨fd, F⟩ := T.d__law_equal
  refine ⟨fd, [], F.kp, F.bindsN (fun _ _ _ _ _ _ us hl => match us, hl with | [_, _], _ => rfl), .nil, ?_⟩
  have sc := sc__law_equal_Msi; have vis := vis__law_equal_Msi; have gls := gl__law_equal_Msi
  refine F.ok sc (fun vs H Q E h => ?_) (fun cdv A outer s H0 vs Q E hr h => ?_)
  · obtain ⟨actualA, actual0, actual1, expectedA, expected0, expected1, rfl, _⟩ := h; rfl
  · obtain ⟨actualA, actual0, actual1, expectedA, expected0, expected1, rfl, a0, a1, e0, e1, k⟩ := h
    refine ⟨_, PSs.nox (pss_cons (ps_if (pt_cmpR op_isN_ (pn vis 1) pe_non (nomark _)) pss_never pss_nil) (pss_cons (ps_if (pt_val (pcB call_isi gls 1 T.b_isinstance (by decide +kernel) (pa_cons (pn vis 1) (pa_cons (pgt gls 0 T.b_bool boot_bool) pa_nil)))) pss_never pss_nil) (pss_cons (ps_if (pt_val (pcB call_isi gls 1 T.b_isinstance (by decide +kernel) (pa_cons (pn vis 1) (pa_cons (pgt gls 2 T.b_int boot_int) pa_nil)))) pss_never pss_nil) (pss_cons (ps_if (pt_val (pcB call_isi gls 1 T.b_isinstance (by decide +kernel) (pa_cons (pn vis 1) (pa_cons (pgt gls 3 T.b_str boot_str) pa_nil)))) pss_never pss_nil) (pss_cons (ps_if (pt_cmpR op_neB (pcB call_isi gls 1 T.b_isinstance (by decide +kernel) (pa_cons (pn vis 1) (pa_cons (pgt gls 4 T.b_list boot_list) pa_nil))) (pcB call_isi gls 1 T.b_isinstance (by decide +kernel) (pa_cons (pn vis 0) (pa_cons (pgt gls 4 T.b_list boot_list) pa_nil))) (nomark _)) pss_never pss_nil) (pss_cons (ps_if (pt_cmpR op_neB (pcB call_isi gls 1 T.b_isinstance (by decide +kernel) (pa_cons (pn vis 1) (pa_cons (pgt gls 5 T.b_tuple boot_tuple) pa_nil))) (pcB call_isi gls 1 T.b_isinstance (by decide +kernel) (pa_cons (pn vis 0) (pa_cons (pgt gls 5 T.b_tuple boot_tuple) pa_nil))) (nomark _)) pss_never pss_nil) (pss_cons (ps_if (PW.pt (pw_and (pt_not (pt_val (pcB call_isi gls 1 T.b_isinstance (by decide +kernel) (pa_cons (pn vis 1) (pa_cons (pgt gls 4 T.b_list boot_list) pa_nil))))) (pw_and1 (pt_not pt_never)))) pss_never pss_nil) (pss_cons (ps_if (pt_cmpR op_neI (pcB call_lenS gls 6 T.b_len PySem.boot_len (pa_cons (pn vis 0) pa_nil)) (pcB call_lenS gls 6 T.b_len PySem.boot_len (pa_cons (pn vis 1) pa_nil)) (nomark _)) pss_never pss_nil) (pss_cons (ps_for PassesOwn.never rfl (pi_range1 (gl_of gls (i := 8) rfl).1 T.b_range (pa_cons (pcB call_lenS gls 6 T.b_len PySem.boot_len (pa_cons (pn vis 1) pa_nil)) pa_nil)) (pg_name (i := 2) sc.nd rfl (.inl rfl)) (pss_one (ps_if (pt_not (pt_val (pcDx (CallOk.or (OkD.co (ok__law_equal_str T) (hr.mono (by decide))) (OkD.co (ok__law_equal_int T) (hr.mono (by decide)))) (OkD.kp (ok__law_equal_str (P := P) (w := w) (hp9 := hp9) T)) gls 7 T.g__law_equal (pa_cons (pe_ix ix_list (pn vis 0) (pn vis 2) (fun _ _ => rfl)) (pa_cons (pe_ix ix_list (pn vis 1) (pn vis 2) (fun _ _ => rfl)) pa_nil))))) pss_never pss_nil))) (pss_one (ps_ret pe_bl))))))))))), ?_⟩
    refine i_start (σ' := [some (V.ref actualA), some (V.ref expectedA), none]) rfl ?_
    refine i_seq <| i_if <| i_test <| i_op <| v1 <| i_c <| i_isN (b := false) rfl <| i_bl <| i_iteF <| i_next <| i_nx <| i_seq <| i_if <| i_tB <| i_cb <| i_cons <| v1 <| i_cons <| i_c <| i_nil <| i_isi (b := false) (.ty _) (.base (.lst a1)) (kit_ty (by decide +kernel)) <| i_bl <| i_iteF <| i_next <| i_nx <| i_seq <| i_if <| i_tB <| i_cb <| i_cons <| v1 <| i_cons <| i_c <| i_nil <| i_isi (b := false) (.ty _) (.base (.lst a1)) (kit_ty (by decide +kernel)) <| i_bl <| i_iteF <| i_next <| i_nx <| i_seq <| i_if <| i_tB <| i_cb <| i_cons <| v1 <| i_cons <| i_c <| i_nil <| i_isi (b := false) (.ty _) (.base (.lst a1)) (kit_ty (by decide +kernel)) <| i_bl <| i_iteF <| i_next <| i_nx <| i_seq <| i_if <| i_test <| i_op <| i_cb <| i_cons <| v1 <| i_cons <| i_c <| i_nil <| i_isi (b := true) (.ty _) (.base (.lst a1)) (kit_ty (by decide +kernel)) <| i_cb <| i_cons <| v0 <| i_cons <| i_c <| i_nil <| i_isi (b := true) (.ty _) (.base (.lst a0)) (kit_ty (by decide +kernel)) <| i_B0 <| i_blq (b := false) rfl <| i_iteF <| i_next <| i_nx <| i_seq <| i_if <| i_test <| i_op <| i_cb <| i_cons <| v1 <| i_cons <| i_c <| i_nil <| i_isi (b := false) (.ty _) (.base (.lst a1)) (kit_ty (by decide +kernel)) <| i_cb <| i_cons <| v0 <| i_cons <| i_c <| i_nil <| i_isi (b := false) (.ty _) (.base (.lst a0)) (kit_ty (by decide +kernel)) <| i_B0 <| i_blq (b := false) rfl <| i_iteF <| i_next <| i_nx <| i_seq <| i_if <| i_and <| i_not <| i_tB <| i_cb <| i_cons <| v1 <| i_cons <| i_c <| i_nil <| i_isi (b := true) (.ty _) (.base (.lst a1)) (kit_ty (by decide +kernel)) <| i_bl <| i_iteNT <| i_iteF <| i_next <| i_nx <| i_seq <| i_if <| i_test <| i_op <| i_cb <| i_cons <| v0 <| i_nil <| i_lenL (SqL.of a0) <| i_cb <| i_cons <| v1 <| i_nil <| i_lenL (SqL.of a1) <| i_I0 <| i_blq (b := false) rfl <| i_iteF <| i_next <| i_nx <| i_seq <| i_for <| i_for1 <| i_cons <| i_cb <| i_cons <| v1 <| i_nil <| i_lenL (SqL.of a1) <| i_nil <| i_rng1 (fun i σ H' => ∃ (o_k : Option V), σ = [some (V.ref actualA), some (V.ref expectedA), o_k] ∧ Same H0 H') (by omega) (by show ((2 : Nat) : Int) < 2 ^ 62; decide) ?_ ?_ ?_
    ·
      exact ⟨_, rfl, (Same.refl _)⟩
    ·
      intro i
      rintro σ H1 hi ⟨o_k, rfl, s1⟩
      match i, hi with
      | 0, hi =>
        refine n2 <| i_if <| i_not <| i_tB <| i_call <| i_cons <| i_op <| v0 <| v2 <| i_ixL (SqL.of (s1 _ _ a0)) (atI_nat (j := 0) rfl) <| i_cons <| i_op <| v1 <| v2 <| i_ixL (SqL.of (s1 _ _ a1)) (atI_nat (j := 0) rfl) <| i_nil <| Or.inl <| ⟨_, _, rfl, (by first | assumption | omega | rfl | exact Sz.zero | exact Sz.sm (by omega) (by omega) (by decide) | exact Sz.mono (by assumption) (by decide)), fun H3 s3 => ?_⟩
        refine i_bl <| i_iteNT <| i_next <| ?_
        exact ⟨_, rfl, (s1.trans s3)⟩
      | 1, hi =>
        refine n2 <| i_if <| i_not <| i_tB <| i_call <| i_cons <| i_op <| v0 <| v2 <| i_ixL (SqL.of (s1 _ _ a0)) (atI_nat (j := 1) rfl) <| i_cons <| i_op <| v1 <| v2 <| i_ixL (SqL.of (s1 _ _ a1)) (atI_nat (j := 1) rfl) <| i_nil <| Or.inr <| ⟨_, _, rfl, (by first | assumption | omega | rfl | exact Sz.zero | exact Sz.sm (by omega) (by omega) (by decide) | exact Sz.mono (by assumption) (by decide)), fun H5 s5 => ?_⟩
        refine i_bl <| i_iteNT <| i_next <| ?_
        exact ⟨_, rfl, (s1.trans s5)⟩
      | n9 + 2, hi => exact absurd hi (by show ¬ n9 + 2 < 2; omega)
    ·
      rintro σ H6 ⟨o_k, rfl, s6⟩
      refine i_nx <| i_ret <| i_c <| ?_
      exact k _ s6

/-! _law_ratio -/
def sp__law_ratio (K : PySem.W.Frag) : Sp := fun vs H Q _ => ∃ (base : Int) (precision : Int) (numerator : Int) (divisor : Int) (mode : Str), vs = [V.int base, V.int precision, V.int numerator, V.int divisor, V.str mode] ∧ (2 ≤ base) ∧ (base ≤ 36) ∧ (3 ≤ precision) ∧ (precision ≤ 200) ∧ (Sz 600 numerator) ∧ (1 ≤ divisor) ∧ (Sz 600 divisor) ∧ (mode ∈ modes9) ∧ ∀ (rA : Addr) (r0 : Int) (r1 : Int) (H' : Hp), Same H H' → H' rA = some (.tup [V.int r0, V.int r1]) → (Rt base precision numerator divisor mode ⟨base, r0, r1⟩) → Q (V.ref rA) H'
abbrev s__law_ratio : Stmt := top 61
theorem sc__law_ratio : FnScope ["base", "precision", "numerator", "divisor", "mode", "place", "size", "unit"] ["base", "precision", "numerator", "divisor", "mode"] (defScope s__law_ratio) := ⟨rfl, rfl, rfl, by decide +kernel, rfl, by decide +kernel, by decide +kernel⟩
theorem vis__law_ratio : visB ["base", "precision", "numerator", "divisor", "mode", "place", "size", "unit"] (defScope s__law_ratio) = true := by decide +kernel
theorem gl__law_ratio : glB ["_law_count", "abs", "_law_power", "_law_quotient", "_law_lowest"] (defScope s__law_ratio) = true := by decide +kernel
theorem ok__law_ratio {P : Program} {w : World} {K : PySem.W.Frag} {mg : Str → Option Value} {hp9 : Heap} (T : Txt P w K mg) : OkD P w K mg hp9 3 (He.fAd K ("_law_ratio", none)) ["base", "precision", "numerator", "divisor", "mode"] [] (sp__law_ratio K) := by
  obtain ⟨fd, F⟩ := T.d__law_ratio
  refine ⟨fd, [], F.kp, F.bindsN (fun _ _ _ _ _ _ us hl => match us, hl with | [_, _, _, _, _], _ => rfl), .nil, ?_⟩
  have sc := sc__law_ratio; have vis := vis__law_ratio; have gls := gl__law_ratio
  refine F.ok sc (fun vs H Q E h => ?_) (fun cdv A outer s H0 vs Q E hr h => ?_)
  · obtain ⟨base, precision, numerator, divisor, mode, rfl, _⟩ := h; rfl
  · obtain ⟨base, precision, numerator, divisor, mode, rfl, e0, e1, e2, e3, e4, e5, e6, e7, k⟩ := h
    refine ⟨_, PSs.nox (pss_cons (ps_if (pt_cmpR op_eqI (pn vis 2) pe_int (nomark _)) (pss_one (ps_ret (pe_tup (pa_cons pe_int (pa_cons pe_int pa_nil))))) pss_nil) (pss_cons (ps_set (i := 5) sc.nd rfl (.inl rfl) (pe_op op_sub (pcD (ok__law_count T) (hr.mono (by decide)) gls 0 T.g__law_count (pa_cons (pn vis 0) (pa_cons (pn vis 2) pa_nil))) (pcD (ok__law_count T) (hr.mono (by decide)) gls 0 T.g__law_count (pa_cons (pn vis 0) (pa_cons (pn vis 3) pa_nil))))) (pss_cons (ps_set (i := 6) sc.nd rfl (.inl rfl) (pcB call_absI gls 1 T.b_abs (by decide +kernel) (pa_cons (pn vis 2) pa_nil))) (C8.pss_cut (ps_if (PW.pt (pw_and (pt_cmpR op_ge (pn vis 5) pe_int (nomark _)) (pw_and1 (pt_cmpR op_lt (pn vis 6) (pe_op op_mulX (pn vis 3) (pcD (ok__law_power T) (hr.mono (by decide)) gls 2 T.g__law_power (pa_cons (pn vis 0) (pa_cons (pn vis 5) pa_nil)))) (nomark _))))) (pss_one (ps_set (i := 5) sc.nd rfl (.inl rfl) (pe_op op_sub (pn vis 5) pe_int))) (pss_one (ps_if (PW.pt (pw_and (pt_cmpR op_lt (pn vis 5) pe_int (nomark _)) (pw_and1 (pt_cmpR op_lt (pe_op op_mulX (pn vis 6) (pcD (ok__law_power T) (hr.mono (by decide)) gls 2 T.g__law_power (pa_cons (pn vis 0) (pa_cons (pe_op op_sub pe_int (pn vis 5)) pa_nil)))) (pn vis 3) (nomark _))))) (pss_one (ps_set (i := 5) sc.nd rfl (.inl rfl) (pe_op op_sub (pn vis 5) pe_int))) pss_nil))) (pss_cons (ps_set (i := 7) sc.nd rfl (.inl rfl) (pe_op op_add (pe_op op_sub (pn vis 5) (pn vis 1)) pe_int)) (pss_cons (ps_if (pt_cmpR op_ge (pn vis 7) pe_int (nomark _)) (pss_one (ps_ret (pcD (ok__law_lowest T) (hr.mono (by decide)) gls 4 T.g__law_lowest (pa_cons (pn vis 0) (pa_cons (pcD (ok__law_quotient T) (hr.mono (by decide)) gls 3 T.g__law_quotient (pa_cons (pn vis 2) (pa_cons (pe_op op_mulX (pn vis 3) (pcD (ok__law_power T) (hr.mono (by decide)) gls 2 T.g__law_power (pa_cons (pn vis 0) (pa_cons (pn vis 7) pa_nil)))) (pa_cons (pn vis 4) pa_nil)))) (pa_cons (pn vis 7) pa_nil)))))) pss_nil) (pss_one (ps_ret (pcD (ok__law_lowest T) (hr.mono (by decide)) gls 4 T.g__law_lowest (pa_cons (pn vis 0) (pa_cons (pcD (ok__law_quotient T) (hr.mono (by decide)) gls 3 T.g__law_quotient (pa_cons (pe_op op_mulX (pn vis 2) (pcD (ok__law_power T) (hr.mono (by decide)) gls 2 T.g__law_power (pa_cons (pn vis 0) (pa_cons (pe_op op_sub pe_int (pn vis 7)) pa_nil)))) (pa_cons (pn vis 3) (pa_cons (pn vis 4) pa_nil)))) (pa_cons (pn vis 7) pa_nil)))))))))))), ?_⟩
    refine i_start (σ' := [some (V.int base), some (V.int precision), some (V.int numerator), some (V.int divisor), some (V.str mode), none, none, none]) rfl ?_
    refine i_seq <| i_if <| i_test <| i_op <| v2 <| i_c <| i_I0 <| i_bl <| i_ite (fun c1 => ?_) (fun c1 => ?_)
    ·
      refine i_ret <| i_tup <| i_cons <| i_c <| i_cons <| i_c <| i_nil <| i_kTup (of_decide_eq_true rfl) (fun p1 H1 z1 s1 f1 => ?_)
      exact k _ _ _ _ s1 f1 (by exact .inl ⟨c1, rfl⟩)
    ·
      refine i_next <| i_nx <| i_seq <| i_asg <| i_op <| i_call <| i_cons <| v0 <| i_cons <| v2 <| i_nil <| ⟨_, _, rfl, (by first | assumption | omega | rfl | exact Sz.zero | exact Sz.sm (by omega) (by omega) (by decide) | exact Sz.mono (by assumption) (by decide)), (by first | assumption | omega | rfl | exact Sz.zero | exact Sz.sm (by omega) (by omega) (by decide) | exact Sz.mono (by assumption) (by decide)), fun cn H2 s2 hcn => ?_⟩
      refine i_call <| i_cons <| v0 <| i_cons <| v3 <| i_nil <| ⟨_, _, rfl, (by first | assumption | omega | rfl | exact Sz.zero | exact Sz.sm (by omega) (by omega) (by decide) | exact Sz.mono (by assumption) (by decide)), (by first | assumption | omega | rfl | exact Sz.zero | exact Sz.sm (by omega) (by omega) (by decide) | exact Sz.mono (by assumption) (by decide)), fun cd H3 s3 hcd => ?_⟩
      refine i_I0 <| nI5 (fun place hplace => ?_)
      refine i_nx <| i_seq <| ?_
      have d1 := dg_le e0 hcn e4
      have d2 := dg_le e0 hcd e6
      have zP : ∀ k : Int, k ≤ 900 → Sz 6000 (base ^ k.toNat) := fun k hk => (Sz.pow36 e0 e1 _).mono (by omega)
      refine i_asg <| i_cb <| i_cons <| v2 <| i_nil <| i_abs <| nI6 (fun size hsize => ?_)
      refine i_nx <| ?_
      refine i_cut (fun σ H' => ∃ (pl : Int), σ = [some (V.int base), some (V.int precision), some (V.int numerator), some (V.int divisor), some (V.str mode), some (V.int pl), some (V.int size), none] ∧ Same H3 H' ∧ (Pl base numerator divisor pl) ∧ (-700 ≤ pl) ∧ (pl ≤ 700)) ?_ ?_
      ·
        have hsz : size = (numerator.natAbs : Int) := by rw [hsize]; split <;> omega
        refine i_if <| i_and <| i_test <| i_op <| v5 <| i_c <| i_I0 <| i_bl <| i_ite (fun c5 => ?_) (fun c5 => ?_)
        ·
          refine i_test <| i_op <| v6 <| i_op <| v3 <| i_call <| i_cons <| v0 <| i_cons <| v5 <| i_nil <| ⟨_, _, rfl, (by first | assumption | omega | rfl | exact Sz.zero | exact Sz.sm (by omega) (by omega) (by decide) | exact Sz.mono (by assumption) (by decide)), (by first | assumption | omega | rfl | exact Sz.zero | exact Sz.sm (by omega) (by omega) (by decide) | exact Sz.mono (by assumption) (by decide)), (by unfold Sz; omega), fun pw H4 s4 hpw => ?_⟩
          refine i_I (by exact mulx (a := 600) (b := 6000) e6 (by rw [hpw]; exact zP _ (by omega))) <| i_I0 <| i_bl <| i_ite (fun c5' => ?_) (fun c5' => ?_)
          ·
            refine i_asg <| i_op <| v5 <| i_c <| i_I0 <| nI5 (fun place' hplace' => ?_)
            exact ⟨_, rfl, s4, (by first | (exfalso; omega) | (rw [hplace', hplace]; exact (pl_hi e0 c1 (by omega) hcn hcd (by omega) (by omega) (by omega)).1 (by rw [← hsz, ← hplace, ← hpw]; assumption)) | (rw [hplace]; exact (pl_hi e0 c1 (by omega) hcn hcd (by omega) (by omega) (by omega)).2 (by rw [← hsz, ← hplace, ← hpw]; assumption)) | (rw [hplace', hplace]; exact (pl_lo e0 c1 (by omega) hcn hcd (by omega) (by omega) (by omega)).1 (by rw [← hsz, show -(cn - cd) = 0 - place by omega, ← hpv]; assumption)) | (rw [hplace]; exact (pl_lo e0 c1 (by omega) hcn hcd (by omega) (by omega) (by omega)).2 (by rw [← hsz, show -(cn - cd) = 0 - place by omega, ← hpv]; assumption))), (by first | rfl | assumption | omega), (by first | rfl | assumption | omega)⟩
          ·
            refine i_if <| i_and <| i_test <| i_op <| v5 <| i_c <| i_I0 <| i_bl <| i_ite (fun c7 => ?_) (fun c7 => ?_)
            ·
              refine i_test <| i_op <| i_op <| v6 <| i_call <| i_cons <| v0 <| i_cons <| i_op <| i_c <| v5 <| i_I0 <| i_nil <| ⟨_, _, rfl, (by first | assumption | omega | rfl | exact Sz.zero | exact Sz.sm (by omega) (by omega) (by decide) | exact Sz.mono (by assumption) (by decide)), (by first | assumption | omega | rfl | exact Sz.zero | exact Sz.sm (by omega) (by omega) (by decide) | exact Sz.mono (by assumption) (by decide)), (by unfold Sz; omega), fun pv H5 s5 hpv => ?_⟩
              refine i_I (by exact mulx (a := 600) (b := 6000) (e4.le (by omega)) (by rw [hpv]; exact zP _ (by omega))) <| v3 <| i_I0 <| i_bl <| i_ite (fun c7' => ?_) (fun c7' => ?_)
              ·
                refine i_asg <| i_op <| v5 <| i_c <| i_I0 <| nI5 (fun place' hplace' => ?_)
                exact ⟨_, rfl, (s4.trans s5), (by first | (exfalso; omega) | (rw [hplace', hplace]; exact (pl_hi e0 c1 (by omega) hcn hcd (by omega) (by omega) (by omega)).1 (by rw [← hsz, ← hplace, ← hpw]; assumption)) | (rw [hplace]; exact (pl_hi e0 c1 (by omega) hcn hcd (by omega) (by omega) (by omega)).2 (by rw [← hsz, ← hplace, ← hpw]; assumption)) | (rw [hplace', hplace]; exact (pl_lo e0 c1 (by omega) hcn hcd (by omega) (by omega) (by omega)).1 (by rw [← hsz, show -(cn - cd) = 0 - place by omega, ← hpv]; assumption)) | (rw [hplace]; exact (pl_lo e0 c1 (by omega) hcn hcd (by omega) (by omega) (by omega)).2 (by rw [← hsz, show -(cn - cd) = 0 - place by omega, ← hpv]; assumption))), (by first | rfl | assumption | omega), (by first | rfl | assumption | omega)⟩
              ·
                refine i_next <| ?_
                exact ⟨_, rfl, (s4.trans s5), (by first | (exfalso; omega) | (rw [hplace', hplace]; exact (pl_hi e0 c1 (by omega) hcn hcd (by omega) (by omega) (by omega)).1 (by rw [← hsz, ← hplace, ← hpw]; assumption)) | (rw [hplace]; exact (pl_hi e0 c1 (by omega) hcn hcd (by omega) (by omega) (by omega)).2 (by rw [← hsz, ← hplace, ← hpw]; assumption)) | (rw [hplace', hplace]; exact (pl_lo e0 c1 (by omega) hcn hcd (by omega) (by omega) (by omega)).1 (by rw [← hsz, show -(cn - cd) = 0 - place by omega, ← hpv]; assumption)) | (rw [hplace]; exact (pl_lo e0 c1 (by omega) hcn hcd (by omega) (by omega) (by omega)).2 (by rw [← hsz, show -(cn - cd) = 0 - place by omega, ← hpv]; assumption))), (by first | rfl | assumption | omega), (by first | rfl | assumption | omega)⟩
            ·
              refine i_iteF <| i_next <| ?_
              exact ⟨_, rfl, s4, (by first | (exfalso; omega) | (rw [hplace', hplace]; exact (pl_hi e0 c1 (by omega) hcn hcd (by omega) (by omega) (by omega)).1 (by rw [← hsz, ← hplace, ← hpw]; assumption)) | (rw [hplace]; exact (pl_hi e0 c1 (by omega) hcn hcd (by omega) (by omega) (by omega)).2 (by rw [← hsz, ← hplace, ← hpw]; assumption)) | (rw [hplace', hplace]; exact (pl_lo e0 c1 (by omega) hcn hcd (by omega) (by omega) (by omega)).1 (by rw [← hsz, show -(cn - cd) = 0 - place by omega, ← hpv]; assumption)) | (rw [hplace]; exact (pl_lo e0 c1 (by omega) hcn hcd (by omega) (by omega) (by omega)).2 (by rw [← hsz, show -(cn - cd) = 0 - place by omega, ← hpv]; assumption))), (by first | rfl | assumption | omega), (by first | rfl | assumption | omega)⟩
        ·
          refine i_iteF <| i_if <| i_and <| i_test <| i_op <| v5 <| i_c <| i_I0 <| i_bl <| i_ite (fun c7'' => ?_) (fun c7'' => ?_)
          ·
            refine i_test <| i_op <| i_op <| v6 <| i_call <| i_cons <| v0 <| i_cons <| i_op <| i_c <| v5 <| i_I0 <| i_nil <| ⟨_, _, rfl, (by first | assumption | omega | rfl | exact Sz.zero | exact Sz.sm (by omega) (by omega) (by decide) | exact Sz.mono (by assumption) (by decide)), (by first | assumption | omega | rfl | exact Sz.zero | exact Sz.sm (by omega) (by omega) (by decide) | exact Sz.mono (by assumption) (by decide)), (by unfold Sz; omega), fun pv H6 s6 hpv => ?_⟩
            refine i_I (by exact mulx (a := 600) (b := 6000) (e4.le (by omega)) (by rw [hpv]; exact zP _ (by omega))) <| v3 <| i_I0 <| i_bl <| i_ite (fun c7''' => ?_) (fun c7''' => ?_)
            ·
              refine i_asg <| i_op <| v5 <| i_c <| i_I0 <| nI5 (fun place' hplace' => ?_)
              exact ⟨_, rfl, s6, (by first | (exfalso; omega) | (rw [hplace', hplace]; exact (pl_hi e0 c1 (by omega) hcn hcd (by omega) (by omega) (by omega)).1 (by rw [← hsz, ← hplace, ← hpw]; assumption)) | (rw [hplace]; exact (pl_hi e0 c1 (by omega) hcn hcd (by omega) (by omega) (by omega)).2 (by rw [← hsz, ← hplace, ← hpw]; assumption)) | (rw [hplace', hplace]; exact (pl_lo e0 c1 (by omega) hcn hcd (by omega) (by omega) (by omega)).1 (by rw [← hsz, show -(cn - cd) = 0 - place by omega, ← hpv]; assumption)) | (rw [hplace]; exact (pl_lo e0 c1 (by omega) hcn hcd (by omega) (by omega) (by omega)).2 (by rw [← hsz, show -(cn - cd) = 0 - place by omega, ← hpv]; assumption))), (by first | rfl | assumption | omega), (by first | rfl | assumption | omega)⟩
            ·
              refine i_next <| ?_
              exact ⟨_, rfl, s6, (by first | (exfalso; omega) | (rw [hplace', hplace]; exact (pl_hi e0 c1 (by omega) hcn hcd (by omega) (by omega) (by omega)).1 (by rw [← hsz, ← hplace, ← hpw]; assumption)) | (rw [hplace]; exact (pl_hi e0 c1 (by omega) hcn hcd (by omega) (by omega) (by omega)).2 (by rw [← hsz, ← hplace, ← hpw]; assumption)) | (rw [hplace', hplace]; exact (pl_lo e0 c1 (by omega) hcn hcd (by omega) (by omega) (by omega)).1 (by rw [← hsz, show -(cn - cd) = 0 - place by omega, ← hpv]; assumption)) | (rw [hplace]; exact (pl_lo e0 c1 (by omega) hcn hcd (by omega) (by omega) (by omega)).2 (by rw [← hsz, show -(cn - cd) = 0 - place by omega, ← hpv]; assumption))), (by first | rfl | assumption | omega), (by first | rfl | assumption | omega)⟩
          ·
            refine i_iteF <| i_next <| ?_
            exact ⟨_, rfl, (Same.refl _), (by first | (exfalso; omega) | (rw [hplace', hplace]; exact (pl_hi e0 c1 (by omega) hcn hcd (by omega) (by omega) (by omega)).1 (by rw [← hsz, ← hplace, ← hpw]; assumption)) | (rw [hplace]; exact (pl_hi e0 c1 (by omega) hcn hcd (by omega) (by omega) (by omega)).2 (by rw [← hsz, ← hplace, ← hpw]; assumption)) | (rw [hplace', hplace]; exact (pl_lo e0 c1 (by omega) hcn hcd (by omega) (by omega) (by omega)).1 (by rw [← hsz, show -(cn - cd) = 0 - place by omega, ← hpv]; assumption)) | (rw [hplace]; exact (pl_lo e0 c1 (by omega) hcn hcd (by omega) (by omega) (by omega)).2 (by rw [← hsz, show -(cn - cd) = 0 - place by omega, ← hpv]; assumption))), (by first | rfl | assumption | omega), (by first | rfl | assumption | omega)⟩
      ·
        rintro σ H7 ⟨pl, rfl, s7, i0, i1, i2⟩
        refine i_seq <| i_asg <| i_op <| i_op <| v5 <| v1 <| i_I0 <| i_c <| i_I0 <| nI7 (fun unit hunit => ?_)
        refine i_nx <| i_seq <| i_if <| i_test <| i_op <| v7 <| i_c <| i_I0 <| i_bl <| i_ite (fun c10 => ?_) (fun c10 => ?_)
        ·
          refine i_ret <| i_call <| i_cons <| v0 <| i_cons <| i_call <| i_cons <| v2 <| i_cons <| i_op <| v3 <| i_call <| i_cons <| v0 <| i_cons <| v7 <| i_nil <| ⟨_, _, rfl, (by first | assumption | omega | rfl | exact Sz.zero | exact Sz.sm (by omega) (by omega) (by decide) | exact Sz.mono (by assumption) (by decide)), (by first | assumption | omega | rfl | exact Sz.zero | exact Sz.sm (by omega) (by omega) (by decide) | exact Sz.mono (by assumption) (by decide)), (by unfold Sz; omega), fun pu H8 s8 hpu => ?_⟩
          refine i_I (by exact mulx (a := 600) (b := 6000) e6 (by rw [hpu]; exact zP _ (by omega))) <| i_cons <| v4 <| i_nil <| ⟨_, _, _, rfl, (by rw [hpu]; exact Int.mul_pos (by omega) (by have := pow_pos' e0 unit.toNat; omega)), (by exact (Sz.mul e6 (by rw [hpu]; exact zP _ (by omega) : Sz 6000 pu)).mono (by decide)), (by exact e4.mono (by decide)), (by first | assumption | omega | rfl | exact Sz.zero | exact Sz.sm (by omega) (by omega) (by decide) | exact Sz.mono (by assumption) (by decide)), fun qa H9 s9 hqa => ?_⟩
          refine i_cons <| v7 <| i_nil <| ⟨_, _, _, rfl, (by first | assumption | omega | rfl | exact Sz.zero | exact Sz.sm (by omega) (by omega) (by decide) | exact Sz.mono (by assumption) (by decide)), (by first | assumption | omega | rfl | exact Sz.zero | exact Sz.sm (by omega) (by omega) (by decide) | exact Sz.mono (by assumption) (by decide)), fun laA la0 la1 H10 s10 f10_0 hla => ?_⟩
          exact k _ _ _ _ (s2.trans (s3.trans (s7.trans (s8.trans (s9.trans s10))))) f10_0 (by refine .inr ⟨c1, pl, i0, ?_⟩; rw [← hunit, hla]; unfold rqs; rw [if_pos (by assumption), hqa, hpu])
        ·
          refine i_next <| i_nx <| i_ret <| i_call <| i_cons <| v0 <| i_cons <| i_call <| i_cons <| i_op <| v2 <| i_call <| i_cons <| v0 <| i_cons <| i_op <| i_c <| v7 <| i_I0 <| i_nil <| ⟨_, _, rfl, (by first | assumption | omega | rfl | exact Sz.zero | exact Sz.sm (by omega) (by omega) (by decide) | exact Sz.mono (by assumption) (by decide)), (by first | assumption | omega | rfl | exact Sz.zero | exact Sz.sm (by omega) (by omega) (by decide) | exact Sz.mono (by assumption) (by decide)), (by unfold Sz; omega), fun pz H11 s11 hpz => ?_⟩
          refine i_I (by exact mulx (a := 600) (b := 6000) e4 (by rw [hpz]; exact zP _ (by omega))) <| i_cons <| v3 <| i_cons <| v4 <| i_nil <| ⟨_, _, _, rfl, (by omega), (by exact e6.mono (by decide)), (by exact (Sz.mul e4 (by rw [hpz]; exact zP _ (by omega) : Sz 6000 pz)).mono (by decide)), (by first | assumption | omega | rfl | exact Sz.zero | exact Sz.sm (by omega) (by omega) (by decide) | exact Sz.mono (by assumption) (by decide)), fun qb H12 s12 hqb => ?_⟩
          refine i_cons <| v7 <| i_nil <| ⟨_, _, _, rfl, (by first | assumption | omega | rfl | exact Sz.zero | exact Sz.sm (by omega) (by omega) (by decide) | exact Sz.mono (by assumption) (by decide)), (by first | assumption | omega | rfl | exact Sz.zero | exact Sz.sm (by omega) (by omega) (by decide) | exact Sz.mono (by assumption) (by decide)), fun lbA lb0 lb1 H13 s13 f13_0 hlb => ?_⟩
          exact k _ _ _ _ (s2.trans (s3.trans (s7.trans (s11.trans (s12.trans s13))))) f13_0 (by refine .inr ⟨c1, pl, i0, ?_⟩; rw [← hunit, hlb]; unfold rqs; rw [if_neg (by assumption), hqb, hpz, show 0 - unit = -unit by omega])

/-! _law_enough -/
def sp__law_enough (K : PySem.W.Frag) : Sp := fun vs H Q _ => ∃ (base : Int) (precision : Int) (other : Int), vs = [V.int base, V.int precision, V.int other] ∧ (2 ≤ base) ∧ (base ≤ 36) ∧ (3 ≤ precision) ∧ (precision ≤ 12) ∧ (2 ≤ other) ∧ (other ≤ 36) ∧ ∀ (r : Int) (H' : Hp), Same H H' → (IsDg other (base ^ precision.toNat) (r - 1)) → Q (V.int r) H'
abbrev s__law_enough : Stmt := top 64
theorem sc__law_enough : FnScope ["base", "precision", "other", "most", "count", "power_v"] ["base", "precision", "other"] (defScope s__law_enough) := ⟨rfl, rfl, rfl, by decide +kernel, rfl, by decide +kernel, by decide +kernel⟩
theorem vis__law_enough : visB ["base", "precision", "other", "most", "count", "power_v"] (defScope s__law_enough) = true := by decide +kernel
theorem gl__law_enough : glB ["_law_power"] (defScope s__law_enough) = true := by decide +kernel
theorem ok__law_enough {P : Program} {w : World} {K : PySem.W.Frag} {mg : Str → Option Value} {hp9 : Heap} (T : Txt P w K mg) : OkD P w K mg hp9 2 (He.fAd K ("_law_enough", none)) ["base", "precision", "other"] [] (sp__law_enough K) := by
  obtain ⟨fd, F⟩ := T.d__law_enough
  refine ⟨fd, [], F.kp, F.bindsN (fun _ _ _ _ _ _ us hl => match us, hl with | [_, _, _], _ => rfl), .nil, ?_⟩
  have sc := sc__law_enough; have vis := vis__law_enough; have gls := gl__law_enough
  refine F.ok sc (fun vs H Q E h => ?_) (fun cdv A outer s H0 vs Q E hr h => ?_)
  · obtain ⟨base, precision, other, rfl, _⟩ := h; rfl
  · obtain ⟨base, precision, other, rfl, e0, e1, e2, e3, e4, e5, k⟩ := h
    refine ⟨_, PSs.nox (pss_cons (ps_set (i := 3) sc.nd rfl (.inl rfl) (pcD (ok__law_power T) (hr.mono (by decide)) gls 0 T.g__law_power (pa_cons (pn vis 0) (pa_cons (pn vis 1) pa_nil)))) (pss_cons (ps_set (i := 4) sc.nd rfl (.inl rfl) pe_int) (pss_cons (ps_set (i := 5) sc.nd rfl (.inl rfl) pe_int) (pss_cons (ps_while PassesOwn.never (pt_cmpR op_le (pn vis 5) (pn vis 3) (nomark _)) (pss_cons (ps_set (i := 5) sc.nd rfl (.inl rfl) (pe_op op_mulX (pn vis 5) (pn vis 2))) (pss_one (ps_set (i := 4) sc.nd rfl (.inl rfl) (pe_op op_add (pn vis 4) pe_int))))) (pss_one (ps_ret (pn vis 4))))))), ?_⟩
    refine i_start (σ' := [some (V.int base), some (V.int precision), some (V.int other), none, none, none]) rfl ?_
    refine i_seq <| i_asg <| i_call <| i_cons <| v0 <| i_cons <| v1 <| i_nil <| ⟨_, _, rfl, (by first | assumption | omega | rfl | exact Sz.zero | exact Sz.sm (by omega) (by omega) (by decide) | exact Sz.mono (by assumption) (by decide)), (by first | assumption | omega | rfl | exact Sz.zero | exact Sz.sm (by omega) (by omega) (by decide) | exact Sz.mono (by assumption) (by decide)), (by unfold Sz; omega), fun pw H1 s1 hpw => ?_⟩
    refine n3 <| i_nx <| i_seq <| i_asg <| i_c <| n4 <| i_nx <| i_seq <| i_asg <| i_c <| n5 <| i_nx <| i_seq <| ?_
    have hp1 : 1 ≤ pw := by rw [hpw]; exact pow_pos' e0 _
    have hpz : Sz 73 pw := by rw [hpw]; exact (Sz.pow36 e0 e1 _).mono (by omega)
    refine i_while (fun m σ H' => ∃ (ct : Int) (pv : Int), σ = [some (V.int base), some (V.int precision), some (V.int other), some (V.int pw), some (V.int ct), some (V.int pv)] ∧ m = (pw + 1 - pv).toNat ∧ Same H1 H' ∧ (En other pw ct pv)) ?_ ?_
    ·
      exact ⟨_, _, _, rfl, rfl, (Same.refl _), (by exact ⟨0, rfl, by rw [Int.pow_zero], .inl rfl⟩)⟩
    ·
      rintro m σ H2 ⟨ct, pv, rfl, rfl, s2, i0⟩
      refine i_test <| i_op <| v5 <| v3 <| i_I0 <| i_bl <| i_ite (fun c4 => ?_) (fun c4 => ?_)
      ·
        refine i_turn <| i_seq <| i_asg <| i_op <| v5 <| v2 <| i_I (by exact mulx (a := 73) (b := 6) (hpz.le (by have := i0.pos e4; omega)) (by unfold Sz; omega)) <| n5 <| i_nx <| i_asg <| i_op <| v4 <| i_c <| i_I0 <| n4 <| ?_
        refine ⟨_, ?_, _, _, rfl, rfl, s2, (by exact i0.step c4)⟩
        have q := i0.pos e4; have w := Int.mul_le_mul_of_nonneg_left e4 (show 0 ≤ pv by omega); omega
      ·
        refine i_nx <| i_ret <| v4 <| ?_
        exact k _ _ (s1.trans s2) (by rw [← hpw]; exact i0.done e4 hp1 c4)

/-! _law_converted -/
def sp__law_converted (K : PySem.W.Frag) : Sp := fun vs H Q _ => ∃ (base : Int) (xA : Addr) (x0 : Int) (x1 : Int) (other : Int) (precision : Int) (mode : Str), vs = [V.int base, V.ref xA, V.int other, V.int precision, V.str mode] ∧ H xA = some (.tup [V.int x0, V.int x1]) ∧ (2 ≤ base) ∧ (base ≤ 36) ∧ (Nv base (⟨base, x0, x1⟩ : EN)) ∧ (2 ≤ other) ∧ (other ≤ 36) ∧ (3 ≤ precision) ∧ (precision ≤ 200) ∧ (mode ∈ modes9) ∧ ∀ (rA : Addr) (r0 : Int) (r1 : Int) (H' : Hp), Same H H' → H' rA = some (.tup [V.int r0, V.int r1]) → (Rt other precision (cnE (⟨base, x0, x1⟩ : EN)) (cdE (⟨base, x0, x1⟩ : EN)) mode ⟨other, r0, r1⟩) → Q (V.ref rA) H'
abbrev s__law_converted : Stmt := top 65
theorem sc__law_converted : FnScope ["base", "x", "other", "precision", "mode"] ["base", "x", "other", "precision", "mode"] (defScope s__law_converted) := ⟨rfl, rfl, rfl, by decide +kernel, rfl, by decide +kernel, by decide +kernel⟩
theorem vis__law_converted : visB ["base", "x", "other", "precision", "mode"] (defScope s__law_converted) = true := by decide +kernel
theorem gl__law_converted : glB ["_law_power", "_law_ratio"] (defScope s__law_converted) = true := by decide +kernel
theorem ok__law_converted {P : Program} {w : World} {K : PySem.W.Frag} {mg : Str → Option Value} {hp9 : Heap} (T : Txt P w K mg) : OkD P w K mg hp9 4 (He.fAd K ("_law_converted", none)) ["base", "x", "other", "precision", "mode"] [] (sp__law_converted K) := by
  obtain ⟨fd, F⟩ := T.d__law_converted
  refine ⟨fd, [], F.kp, F.bindsN (fun _ _ _ _ _ _ us hl => match us, hl with | [_, _, _, _, _], _ => rfl), .nil, ?_⟩
  have sc := sc__law_converted; have vis := vis__law_converted; have gls := gl__law_converted
  refine F.ok sc (fun vs H Q E h => ?_) (fun cdv A outer s H0 vs Q E hr h => ?_)
  · obtain ⟨base, xA, x0, x1, other, precision, mode, rfl, _⟩ := h; rfl
  · obtain ⟨base, xA, x0, x1, other, precision, mode, rfl, a0, e0, e1, e2, e3, e4, e5, e6, e7, k⟩ := h
    refine ⟨_, PSs.nox (pss_cons (ps_if (pt_cmpR op_ge (pe_ix ix_tup (pn vis 1) pe_int (fun _ _ => rfl)) pe_int (nomark _)) (pss_one (ps_ret (pcD (ok__law_ratio T) (hr.mono (by decide)) gls 1 T.g__law_ratio (pa_cons (pn vis 2) (pa_cons (pn vis 3) (pa_cons (pe_op op_mulX (pe_ix ix_tup (pn vis 1) pe_int (fun _ _ => rfl)) (pcD (ok__law_power T) (hr.mono (by decide)) gls 0 T.g__law_power (pa_cons (pn vis 0) (pa_cons (pe_ix ix_tup (pn vis 1) pe_int (fun _ _ => rfl)) pa_nil)))) (pa_cons pe_int (pa_cons (pn vis 4) pa_nil)))))))) pss_nil) (pss_one (ps_ret (pcD (ok__law_ratio T) (hr.mono (by decide)) gls 1 T.g__law_ratio (pa_cons (pn vis 2) (pa_cons (pn vis 3) (pa_cons (pe_ix ix_tup (pn vis 1) pe_int (fun _ _ => rfl)) (pa_cons (pcD (ok__law_power T) (hr.mono (by decide)) gls 0 T.g__law_power (pa_cons (pn vis 0) (pa_cons (pe_op op_sub pe_int (pe_ix ix_tup (pn vis 1) pe_int (fun _ _ => rfl))) pa_nil))) (pa_cons (pn vis 4) pa_nil))))))))), ?_⟩
    refine i_start (σ' := [some (V.int base), some (V.ref xA), some (V.int other), some (V.int precision), some (V.str mode)]) rfl ?_
    refine i_seq <| ?_
    have hxl : -40 ≤ x1 := e2.lo
    have hxh : x1 ≤ 60 := e2.hi
    have hxz : Sz 223 x0 := e2.szc e0 e1
    have hzn : Sz 590 (cnE (⟨base, x0, x1⟩ : EN)) := e2.szn e0 e1
    have hzd : Sz 250 (cdE (⟨base, x0, x1⟩ : EN)) := e2.szd e0 e1
    refine i_if <| i_test <| i_op <| i_op <| v1 <| i_c <| i_ixT (SqT.of a0) (atI_nat (j := 1) rfl) <| i_c <| i_I0 <| i_bl <| i_ite (fun c1 => ?_) (fun c1 => ?_)
    ·
      have hcn : cnE (⟨base, x0, x1⟩ : EN) = x0 * base ^ x1.toNat := by unfold cnE; exact if_pos (by assumption)
      have hcd : cdE (⟨base, x0, x1⟩ : EN) = 1 := by unfold cdE; exact if_pos (by assumption)
      refine i_ret <| i_call <| i_cons <| v2 <| i_cons <| v3 <| i_cons <| i_op <| i_op <| v1 <| i_c <| i_ixT (SqT.of a0) (atI_nat (j := 0) rfl) <| i_call <| i_cons <| v0 <| i_cons <| i_op <| v1 <| i_c <| i_ixT (SqT.of a0) (atI_nat (j := 1) rfl) <| i_nil <| ⟨_, _, rfl, (by first | assumption | omega | rfl | exact Sz.zero | exact Sz.sm (by omega) (by omega) (by decide) | exact Sz.mono (by assumption) (by decide)), (by omega), (by unfold Sz; omega), fun pw H1 s1 hpw => ?_⟩
      refine i_I (by exact mulx (a := 223) (b := 361) hxz (by rw [hpw]; exact (Sz.pow36 e0 e1 _).mono (by omega))) <| i_cons <| i_c <| i_cons <| v4 <| i_nil <| ⟨_, _, _, _, _, rfl, (by first | assumption | omega | rfl | exact Sz.zero | exact Sz.sm (by omega) (by omega) (by decide) | exact Sz.mono (by assumption) (by decide)), (by first | assumption | omega | rfl | exact Sz.zero | exact Sz.sm (by omega) (by omega) (by decide) | exact Sz.mono (by assumption) (by decide)), (by first | assumption | omega | rfl | exact Sz.zero | exact Sz.sm (by omega) (by omega) (by decide) | exact Sz.mono (by assumption) (by decide)), (by first | assumption | omega | rfl | exact Sz.zero | exact Sz.sm (by omega) (by omega) (by decide) | exact Sz.mono (by assumption) (by decide)), (by rw [hpw, ← hcn]; exact hzn.mono (by decide)), (by first | assumption | omega | rfl | exact Sz.zero | exact Sz.sm (by omega) (by omega) (by decide) | exact Sz.mono (by assumption) (by decide)), (by exact Sz.sm (by decide) (by decide) (by decide)), (by first | assumption | omega | rfl | exact Sz.zero | exact Sz.sm (by omega) (by omega) (by decide) | exact Sz.mono (by assumption) (by decide)), fun raA ra0 ra1 H2 s2 f2_0 hra => ?_⟩
      exact k _ _ _ _ (s1.trans s2) f2_0 (by rw [hcn, hcd, ← hpw]; exact hra)
    ·
      refine i_next <| i_nx <| ?_
      have hcn : cnE (⟨base, x0, x1⟩ : EN) = x0 := by unfold cnE; exact if_neg (by assumption)
      have hcd : cdE (⟨base, x0, x1⟩ : EN) = base ^ (0 - x1).toNat := by unfold cdE; rw [show 0 - x1 = -x1 by omega]; exact if_neg (by assumption)
      refine i_ret <| i_call <| i_cons <| v2 <| i_cons <| v3 <| i_cons <| i_op <| v1 <| i_c <| i_ixT (SqT.of a0) (atI_nat (j := 0) rfl) <| i_cons <| i_call <| i_cons <| v0 <| i_cons <| i_op <| i_c <| i_op <| v1 <| i_c <| i_ixT (SqT.of a0) (atI_nat (j := 1) rfl) <| i_I0 <| i_nil <| ⟨_, _, rfl, (by first | assumption | omega | rfl | exact Sz.zero | exact Sz.sm (by omega) (by omega) (by decide) | exact Sz.mono (by assumption) (by decide)), (by omega), (by unfold Sz; omega), fun pv H3 s3 hpv => ?_⟩
      refine i_cons <| v4 <| i_nil <| ⟨_, _, _, _, _, rfl, (by first | assumption | omega | rfl | exact Sz.zero | exact Sz.sm (by omega) (by omega) (by decide) | exact Sz.mono (by assumption) (by decide)), (by first | assumption | omega | rfl | exact Sz.zero | exact Sz.sm (by omega) (by omega) (by decide) | exact Sz.mono (by assumption) (by decide)), (by first | assumption | omega | rfl | exact Sz.zero | exact Sz.sm (by omega) (by omega) (by decide) | exact Sz.mono (by assumption) (by decide)), (by first | assumption | omega | rfl | exact Sz.zero | exact Sz.sm (by omega) (by omega) (by decide) | exact Sz.mono (by assumption) (by decide)), (by exact hxz.mono (by decide)), (by rw [hpv]; have := pow_pos' e0 (0 - x1).toNat; omega), (by rw [hpv, ← hcd]; exact hzd.mono (by decide)), (by first | assumption | omega | rfl | exact Sz.zero | exact Sz.sm (by omega) (by omega) (by decide) | exact Sz.mono (by assumption) (by decide)), fun rbA rb0 rb1 H4 s4 f4_0 hrb => ?_⟩
      exact k _ _ _ _ (s3.trans s4) f4_0 (by rw [hcn, hcd, ← hpv]; exact hrb)

/-! _law_numbers -/
def sp__law_numbers (K : PySem.W.Frag) : Sp := fun vs H Q _ => ∃ (sourceA : Addr) (base : Int) (precision : Int), vs = [V.ref sourceA, V.int base, V.int precision] ∧ IsSrc H sourceA ∧ (2 ≤ base) ∧ (base ≤ 36) ∧ (3 ≤ precision) ∧ (precision ≤ 12) ∧ ∀ (rA : Addr) (r0A : Addr) (r00 : Int) (r01 : Int) (r1A : Addr) (r10 : Int) (r11 : Int) (r2A : Addr) (r20 : Int) (r21 : Int) (H' : Hp), Z.Ext H H' → IsSrc H' sourceA → H' rA = some (.lst [V.ref r0A, V.ref r1A, V.ref r2A]) → H' r0A = some (.tup [V.int r00, V.int r01]) → H' r1A = some (.tup [V.int r10, V.int r11]) → H' r2A = some (.tup [V.int r20, V.int r21]) → (Nv base ⟨base, r00, r01⟩) → (Nv base ⟨base, r10, r11⟩) → (Nv base ⟨base, r20, r21⟩) → (Nm precision none ⟨base, r00, r01⟩) → (Nm precision none ⟨base, r10, r11⟩) → (Nm precision none ⟨base, r20, r21⟩) → (r20 = 1 ∨ r20 = -1) → Q (V.ref rA) H'
abbrev s__law_numbers : Stmt := top 66
theorem sc__law_numbers : FnScope ["source", "base", "precision", "sign", "far", "xs"] ["source", "base", "precision"] (defScope s__law_numbers) := ⟨rfl, rfl, rfl, by decide +kernel, rfl, by decide +kernel, by decide +kernel⟩
theorem vis__law_numbers : visB ["source", "base", "precision", "sign", "far", "xs"] (defScope s__law_numbers) = true := by decide +kernel
theorem gl__law_numbers : glB ["_law_draw", "_law_small", "_law_full", "_law_lowest", "_law_value"] (defScope s__law_numbers) = true := by decide +kernel
theorem ok__law_numbers {P : Program} {w : World} {K : PySem.W.Frag} {mg : Str → Option Value} {hp9 : Heap} (T : Txt P w K mg) : OkD P w K mg hp9 4 (He.fAd K ("_law_numbers", none)) ["source", "base", "precision"] [] (sp__law_numbers K) := by
  obtain ⟨fd, F⟩ := T.d__law_numbers
  refine ⟨fd, [], F.kp, F.bindsN (fun _ _ _ _ _ _ us hl => match us, hl with | [_, _, _], _ => rfl), .nil, ?_⟩
  have sc := sc__law_numbers; have vis := vis__law_numbers; have gls := gl__law_numbers
  refine F.ok sc (fun vs H Q E h => ?_) (fun cdv A outer s H0 vs Q E hr h => ?_)
  · obtain ⟨sourceA, base, precision, rfl, _⟩ := h; rfl
  · obtain ⟨sourceA, base, precision, rfl, a0, e0, e1, e2, e3, k⟩ := h
    refine ⟨_, PSs.nox (pss_cons (ps_set (i := 3) sc.nd rfl (.inl rfl) (pe_op op_sub pe_int (pe_op op_mul pe_int (pcD (ok__law_draw T) (hr.mono (by decide)) gls 0 T.g__law_draw (pa_cons (pn vis 0) (pa_cons pe_int pa_nil)))))) (pss_cons (ps_set (i := 4) sc.nd rfl (.inl rfl) (pe_op op_mulX (pcD (ok__law_small T) (hr.mono (by decide)) gls 1 T.g__law_small (pa_cons (pn vis 0) pa_nil)) (pe_op op_add pe_int (pcD (ok__law_draw T) (hr.mono (by decide)) gls 0 T.g__law_draw (pa_cons (pn vis 0) (pa_cons pe_int pa_nil)))))) (pss_cons (ps_set (i := 5) sc.nd rfl (.inl rfl) (pe_lst (pa_cons (pcD (ok__law_lowest T) (hr.mono (by decide)) gls 3 T.g__law_lowest (pa_cons (pn vis 1) (pa_cons (pe_op op_mulX (pn vis 3) (pcD (ok__law_full_m T) (hr.mono (by decide)) gls 2 T.g__law_full (pa_cons (pn vis 0) (pa_cons (pn vis 1) (pa_cons (pn vis 2) pa_nil))))) (pa_cons (pn vis 4) pa_nil)))) pa_nil))) (pss_cons (ps_expr (pe_bm PySem.F.plainAttrs_list PySem.F.slot_list_append PySem.F.type_list_append mt_append (pn vis 5) (pa_cons (pcD (ok__law_value_v T) (hr.mono (by decide)) gls 4 T.g__law_value (pa_cons (pn vis 0) (pa_cons (pn vis 1) (pa_cons (pn vis 2) pa_nil)))) pa_nil))) (pss_cons (ps_expr (pe_bm PySem.F.plainAttrs_list PySem.F.slot_list_append PySem.F.type_list_append mt_append (pn vis 5) (pa_cons (pe_tup (pa_cons (pn vis 3) (pa_cons (pcD (ok__law_small T) (hr.mono (by decide)) gls 1 T.g__law_small (pa_cons (pn vis 0) pa_nil)) pa_nil))) pa_nil))) (pss_one (ps_ret (pn vis 5)))))))), ?_⟩
    refine i_start (σ' := [some (V.ref sourceA), some (V.int base), some (V.int precision), none, none, none]) rfl ?_
    refine i_seq <| i_asg <| i_op <| i_c <| i_op <| i_c <| i_call <| i_cons <| v0 <| i_cons <| i_c <| i_nil <| ⟨_, _, rfl, a0, (by first | assumption | omega | rfl | exact Sz.zero | exact Sz.sm (by omega) (by omega) (by decide) | exact Sz.mono (by assumption) (by decide)), (by first | assumption | omega | rfl | exact Sz.zero | exact Sz.sm (by omega) (by omega) (by decide) | exact Sz.mono (by assumption) (by decide)), fun da H1 s1 g1 hda0 hda1 hda2 => ?_⟩
    refine i_I (by first | exact .inl ⟨by decide, by decide⟩ | exact .inr ⟨by decide, by decide⟩) <| i_I0 <| nI3 (fun sign hsign => ?_)
    refine i_nx <| i_seq <| i_asg <| i_op <| i_call <| i_cons <| v0 <| i_nil <| ⟨_, rfl, g1, fun sa H2 s2 g2 hsa0 hsa1 => ?_⟩
    refine i_op <| i_c <| i_call <| i_cons <| v0 <| i_cons <| i_c <| i_nil <| ⟨_, _, rfl, g2, (by first | assumption | omega | rfl | exact Sz.zero | exact Sz.sm (by omega) (by omega) (by decide) | exact Sz.mono (by assumption) (by decide)), (by first | assumption | omega | rfl | exact Sz.zero | exact Sz.sm (by omega) (by omega) (by decide) | exact Sz.mono (by assumption) (by decide)), fun db H3 s3 g3 hdb0 hdb1 hdb2 => ?_⟩
    refine i_I0 <| i_I (by exact mulx (a := 10) (b := 10) (Sz.sm (by omega) (by omega) (by decide)) (Sz.sm (by omega) (by omega) (by decide))) <| nI4 (fun far hfar => ?_)
    refine i_nx <| i_seq <| ?_
    have hfar1 : -40 ≤ far ∧ far ≤ 40 := by rcases (by omega : db = 0 ∨ db = 1) with q | q <;> rw [hfar, q] <;> omega
    have hsg : sign = 1 ∨ sign = -1 := by omega
    refine i_asg <| i_lst <| i_cons <| i_call <| i_cons <| v1 <| i_cons <| i_op <| v3 <| i_call <| i_cons <| v0 <| i_cons <| v1 <| i_cons <| v2 <| i_nil <| ⟨_, _, _, rfl, g3, (by first | assumption | omega | rfl | exact Sz.zero | exact Sz.sm (by omega) (by omega) (by decide) | exact Sz.mono (by assumption) (by decide)), (by first | assumption | omega | rfl | exact Sz.zero | exact Sz.sm (by omega) (by omega) (by decide) | exact Sz.mono (by assumption) (by decide)), (by first | assumption | omega | rfl | exact Sz.zero | exact Sz.sm (by omega) (by omega) (by decide) | exact Sz.mono (by assumption) (by decide)), (by first | assumption | omega | rfl | exact Sz.zero | exact Sz.sm (by omega) (by omega) (by decide) | exact Sz.mono (by assumption) (by decide)), fun fu H4 s4 g4 hfu0 hfu1 hfu2 => ?_⟩
    refine i_I (by exact mulx (a := 10) (b := 300) (Sz.sm (by omega) (by omega) (by decide)) (by assumption)) <| i_cons <| v4 <| i_nil <| ⟨_, _, _, rfl, (by first | assumption | omega | rfl | exact Sz.zero | exact Sz.sm (by omega) (by omega) (by decide) | exact Sz.mono (by assumption) (by decide)), (by first | assumption | omega | rfl | exact Sz.zero | exact Sz.sm (by omega) (by omega) (by decide) | exact Sz.mono (by assumption) (by decide)), fun loA lo0 lo1 H5 s5 f5_0 hlo => ?_⟩
    refine i_nil <| i_kLst (of_decide_eq_true rfl) (fun p6 H6 z6 s6 f6 => ?_)
    refine n5 <| i_nx <| i_seq <| ?_
    have hf0 : 1 ≤ fu := by have := pow_pos' e0 (precision - 1).toNat; omega
    refine i_drop <| i_bm <| v5 <| i_tyL (SqL.of f6) <| i_cons <| i_call <| i_cons <| v0 <| i_cons <| v1 <| i_cons <| v2 <| i_nil <| ⟨_, _, _, rfl, (same_src (s5.trans s6) g4), (by first | assumption | omega | rfl | exact Sz.zero | exact Sz.sm (by omega) (by omega) (by decide) | exact Sz.mono (by assumption) (by decide)), (by first | assumption | omega | rfl | exact Sz.zero | exact Sz.sm (by omega) (by omega) (by decide) | exact Sz.mono (by assumption) (by decide)), (by first | assumption | omega | rfl | exact Sz.zero | exact Sz.sm (by omega) (by omega) (by decide) | exact Sz.mono (by assumption) (by decide)), (by first | assumption | omega | rfl | exact Sz.zero | exact Sz.sm (by omega) (by omega) (by decide) | exact Sz.mono (by assumption) (by decide)), fun vaA va0 va1 H7 s7 g7 f7_0 hva0 hva1 => ?_⟩
    refine i_nil <| i_app (s7 _ _ (stab_len (of_decide_eq_true rfl)) f6) (by simp) (fun H8 w8 f8 => ?_)
    have s8 : Z.Ext H5 H8 := ext_app z6 ((ext_of s6).trans s7) w8
    have g8 : IsSrc H8 sourceA := src_app z6 (same_src s5 g4) w8 (s7 _ _ (stab_len (of_decide_eq_true rfl)) f6) g7
    have f7_0_8 := keep_tup w8 (s7 _ _ (stab_len (of_decide_eq_true rfl)) f6) f7_0
    refine i_nx <| i_seq <| i_drop <| i_bm <| v5 <| i_tyL (SqL.of f8) <| i_cons <| i_tup <| i_cons <| v3 <| i_cons <| i_call <| i_cons <| v0 <| i_nil <| ⟨_, rfl, g8, fun sb H9 s9 g9 hsb0 hsb1 => ?_⟩
    refine i_nil <| i_kTup (of_decide_eq_true rfl) (fun p10 H10 z10 s10 f10 => ?_)
    refine i_nil <| i_app ((s9.trans (ext_of s10)) _ _ (stab_len (of_decide_eq_true rfl)) f8) (by simp) (fun H11 w11 f11 => ?_)
    have s11 : Z.Ext H5 H11 := ext_app z6 (s8.trans (s9.trans (ext_of s10))) w11
    have g11 : IsSrc H11 sourceA := src_app z6 (same_src s5 g4) w11 ((s9.trans (ext_of s10)) _ _ (stab_len (of_decide_eq_true rfl)) f8) (same_src s10 g9)
    have f7_0_8_11 := keep_tup w11 ((s9.trans (ext_of s10)) _ _ (stab_len (of_decide_eq_true rfl)) f8) ((s9.trans (ext_of s10)) _ _ trivial f7_0_8)
    have f10_11 := keep_tup w11 ((s9.trans (ext_of s10)) _ _ (stab_len (of_decide_eq_true rfl)) f8) f10
    refine i_nx <| i_ret <| v5 <| ?_
    exact k _ _ _ _ _ _ _ _ _ _ _ (s1.trans (s2.trans (s3.trans (s4.trans ((ext_of s5).trans s11))))) g11 f11 (s11 _ _ trivial f5_0) f7_0_8_11 f10_11 (by exact nv_of (j := precision.toNat) e0 e1 (sg_lt hsg hf0 hfu1) (by omega) (by omega) (by omega) hlo) (by exact hva0) (by exact (nv_one e0 e1 hsg (by omega) (by omega)).1) (by exact nm_sg e0 (by omega) hsg hf0 hfu1 hlo) (by exact hva1) (by exact (nv_one e0 e1 hsg (by omega) (by omega)).2 _ (by omega)) (by exact hsg)

/-! _law_digits@told -/
def sp__law_digits_told (K : PySem.W.Frag) : Sp := fun vs H Q _ => ∃ (gridA : Addr) (grid : GR) (base : Int), vs = [V.ref gridA, V.int base] ∧ IsI (He.ga K "Grid") H gridA (grF grid) ∧ (2 ≤ grid.b) ∧ (grid.b ≤ 36) ∧ (3 ≤ grid.p) ∧ (grid.p ≤ 200) ∧ (grid.o = none) ∧ (grid.t = none) ∧ (2 ≤ base) ∧ (base ≤ 36) ∧ ∀ (rA : Addr) (r0 : Str) (r1 : Int) (H' : Hp), Same H H' → H' rA = some (.lst [V.str r0, V.int r1]) → (r0 = "told") → (IsDg base (grid.b ^ grid.p.toNat) (r1 - 1)) → Q (V.ref rA) H'
abbrev s__law_digits_told : Stmt := top 71
theorem sc__law_digits_told : FnScope ["grid", "base", "e"] ["grid", "base"] (defScope s__law_digits_told) := ⟨rfl, rfl, rfl, by decide +kernel, rfl, by decide +kernel, by decide +kernel⟩
theorem vis__law_digits_told : visB ["grid", "base", "e"] (defScope s__law_digits_told) = true := by decide +kernel
theorem gl__law_digits_told : glB ["digits_enough"] (defScope s__law_digits_told) = true := by decide +kernel
theorem ok__law_digits_told {P : Program} {w : World} {K : PySem.W.Frag} {mg : Str → Option Value} {hp9 : Heap} (T : Txt P w K mg) : OkD P w K mg hp9 4 (He.fAd K ("_law_digits", none)) ["grid", "base"] [] (sp__law_digits_told K) := by
  obtain ⟨fd, F⟩ := T.d__law_digits
  refine ⟨fd, [], F.kp, F.bindsN (fun _ _ _ _ _ _ us hl => match us, hl with | [_, _], _ => rfl), .nil, ?_⟩
  have sc := sc__law_digits_told; have vis := vis__law_digits_told; have gls := gl__law_digits_told
  refine F.ok sc (fun vs H Q E h => ?_) (fun cdv A outer s H0 vs Q E hr h => ?_)
  · obtain ⟨gridA, grid, base, rfl, _⟩ := h; rfl
  · obtain ⟨gridA, grid, base, rfl, a0, e0, e1, e2, e3, e4, e5, e6, e7, k⟩ := h
    refine ⟨_, PSs.nox (pss_one (ps_tryT (pss_one (ps_ret (pe_lst (pa_cons pe_str (pa_cons (pcD (ok_digits_enough T) (hr.mono (by decide)) gls 0 T.g_digits_enough (pa_cons (pn vis 0) (pa_cons (pn vis 1) pa_nil))) pa_nil))))))), ?_⟩
    refine i_start (σ' := [some (V.ref gridA), some (V.int base), none]) rfl ?_
    refine i_ret <| i_lst <| i_cons <| i_c <| i_cons <| i_call <| i_cons <| v0 <| i_cons <| v1 <| i_nil <| ⟨_, _, _, rfl, a0, (by first | assumption | omega | rfl | exact Sz.zero | exact Sz.sm (by omega) (by omega) (by decide) | exact Sz.mono (by assumption) (by decide)), (by first | assumption | omega | rfl | exact Sz.zero | exact Sz.sm (by omega) (by omega) (by decide) | exact Sz.mono (by assumption) (by decide)), (by first | assumption | omega | rfl | exact Sz.zero | exact Sz.sm (by omega) (by omega) (by decide) | exact Sz.mono (by assumption) (by decide)), (by first | assumption | omega | rfl | exact Sz.zero | exact Sz.sm (by omega) (by omega) (by decide) | exact Sz.mono (by assumption) (by decide)), (by first | assumption | omega | rfl | exact Sz.zero | exact Sz.sm (by omega) (by omega) (by decide) | exact Sz.mono (by assumption) (by decide)), (by first | assumption | omega | rfl | exact Sz.zero | exact Sz.sm (by omega) (by omega) (by decide) | exact Sz.mono (by assumption) (by decide)), (by first | assumption | omega | rfl | exact Sz.zero | exact Sz.sm (by omega) (by omega) (by decide) | exact Sz.mono (by assumption) (by decide)), (by first | assumption | omega | rfl | exact Sz.zero | exact Sz.sm (by omega) (by omega) (by decide) | exact Sz.mono (by assumption) (by decide)), fun de H1 s1 hde => ?_⟩
    refine i_nil <| i_kLst (of_decide_eq_true rfl) (fun p2 H2 z2 s2 f2 => ?_)
    exact k _ _ _ _ (s1.trans s2) f2 (by first | rfl | assumption | omega) (by first | rfl | assumption | omega)

/-! _law_digits@grid -/
def sp__law_digits_grid (K : PySem.W.Frag) : Sp := fun vs H Q _ => ∃ (gridA : Addr) (grid : GR) (base : Int), vs = [V.ref gridA, V.int base] ∧ IsI (He.ga K "Grid") H gridA (grF grid) ∧ (grid.o ≠ none ∨ grid.t ≠ none) ∧ ∀ (rA : Addr) (r0 : Str) (r1 : Str) (H' : Hp), Same H H' → H' rA = some (.lst [V.str r0, V.str r1]) → (r0 = "grid") → (r1 = "borders") → Q (V.ref rA) H'
abbrev s__law_digits_grid : Stmt := top 71
theorem sc__law_digits_grid : FnScope ["grid", "base", "e"] ["grid", "base"] (defScope s__law_digits_grid) := ⟨rfl, rfl, rfl, by decide +kernel, rfl, by decide +kernel, by decide +kernel⟩
theorem vis__law_digits_grid : visB ["grid", "base", "e"] (defScope s__law_digits_grid) = true := by decide +kernel
theorem gl__law_digits_grid : glB ["LostError", "digits_enough", "_law_error"] (defScope s__law_digits_grid) = true := by decide +kernel
theorem ok__law_digits_grid {P : Program} {w : World} {K : PySem.W.Frag} {mg : Str → Option Value} {hp9 : Heap} (T : Txt P w K mg) : OkD P w K mg hp9 4 (He.fAd K ("_law_digits", none)) ["grid", "base"] [] (sp__law_digits_grid K) := by
  obtain ⟨fd, F⟩ := T.d__law_digits
  refine ⟨fd, [], F.kp, F.bindsN (fun _ _ _ _ _ _ us hl => match us, hl with | [_, _], _ => rfl), .nil, ?_⟩
  have sc := sc__law_digits_grid; have vis := vis__law_digits_grid; have gls := gl__law_digits_grid
  refine F.ok sc (fun vs H Q E h => ?_) (fun cdv A outer s H0 vs Q E hr h => ?_)
  · obtain ⟨gridA, grid, base, rfl, _⟩ := h; rfl
  · obtain ⟨gridA, grid, base, rfl, a0, e0, k⟩ := h
    refine ⟨_, (pss_one (ps_tryA (i := 2) rfl rfl sc.nd rfl rfl (names_of gls 0 T.g_LostError) takes_cx (fun W8 pn8 xe8 tk1 po => (pss_one (ps_ret (pe_lst (pa_cons pe_str (pa_cons (pcW (ok_digits_enough_grid T) (hr.mono (by decide)) gls 1 T.g_digits_enough tk1 (pa_cons (pn vis 0) (pa_cons (pn vis 1) pa_nil))) pa_nil)))))) (fun a9 oe9 cls9 d9 pn9 hz9 hf9 => (pss_one (ps_ret (pcX (okx__law_error_grid T) (room_suite hr (by decide)) hz9 hf9 gls 2 T.g__law_error (pa_cons (pn vis 2) pa_nil))))))), ?_⟩
    refine i_start (σ' := [some (V.ref gridA), some (V.int base), none]) rfl ?_
    refine i_tryA <| i_ret <| i_lst <| i_cons <| i_c <| i_cons <| i_callW <| i_cons <| v0 <| i_cons <| v1 <| i_nil <| ⟨_, _, _, rfl, a0, (by first | assumption | omega | rfl | exact Sz.zero | exact Sz.sm (by omega) (by omega) (by decide) | exact Sz.mono (by assumption) (by decide)), fun d2 H2 s2 xf2 => ?_⟩
    refine cat2 T.exm_BadGrid_LostError (fun a3 na3 => ?_)
    refine i_ret <| i_call <| i_cons <| v2 <| i_nil <| ⟨_, _, rfl, rfl, rfl, xf2, fun r4A r40 r41 H5 s5 f5_0 hr40 hr41 => ?_⟩
    exact k _ _ _ _ (s2.trans s5) f5_0 (by first | rfl | assumption | omega) (by first | rfl | assumption | omega)

/-! _law_digits@base -/
def sp__law_digits_base (K : PySem.W.Frag) : Sp := fun vs H Q _ => ∃ (gridA : Addr) (grid : GR) (base : Int), vs = [V.ref gridA, V.int base] ∧ IsI (He.ga K "Grid") H gridA (grF grid) ∧ (grid.o = none) ∧ (grid.t = none) ∧ (¬ (2 ≤ base ∧ base ≤ 36)) ∧ ∀ (rA : Addr) (r0 : Str) (r1 : Int) (H' : Hp), Same H H' → H' rA = some (.lst [V.str r0, V.int r1]) → (r0 = "base") → (r1 = base) → Q (V.ref rA) H'
abbrev s__law_digits_base : Stmt := top 71
theorem sc__law_digits_base : FnScope ["grid", "base", "e"] ["grid", "base"] (defScope s__law_digits_base) := ⟨rfl, rfl, rfl, by decide +kernel, rfl, by decide +kernel, by decide +kernel⟩
theorem vis__law_digits_base : visB ["grid", "base", "e"] (defScope s__law_digits_base) = true := by decide +kernel
theorem gl__law_digits_base : glB ["LostError", "digits_enough", "_law_error"] (defScope s__law_digits_base) = true := by decide +kernel
theorem ok__law_digits_base {P : Program} {w : World} {K : PySem.W.Frag} {mg : Str → Option Value} {hp9 : Heap} (T : Txt P w K mg) : OkD P w K mg hp9 4 (He.fAd K ("_law_digits", none)) ["grid", "base"] [] (sp__law_digits_base K) := by
  obtain ⟨fd, F⟩ := T.d__law_digits
  refine ⟨fd, [], F.kp, F.bindsN (fun _ _ _ _ _ _ us hl => match us, hl with | [_, _], _ => rfl), .nil, ?_⟩
  have sc := sc__law_digits_base; have vis := vis__law_digits_base; have gls := gl__law_digits_base
  refine F.ok sc (fun vs H Q E h => ?_) (fun cdv A outer s H0 vs Q E hr h => ?_)
  · obtain ⟨gridA, grid, base, rfl, _⟩ := h; rfl
  · obtain ⟨gridA, grid, base, rfl, a0, e0, e1, e2, k⟩ := h
    refine ⟨_, (pss_one (ps_tryA (i := 2) rfl rfl sc.nd rfl rfl (names_of gls 0 T.g_LostError) takes_cx (fun W8 pn8 xe8 tk1 po => (pss_one (ps_ret (pe_lst (pa_cons pe_str (pa_cons (pcW (ok_digits_enough_base T) (hr.mono (by decide)) gls 1 T.g_digits_enough tk1 (pa_cons (pn vis 0) (pa_cons (pn vis 1) pa_nil))) pa_nil)))))) (fun a9 oe9 cls9 d9 pn9 hz9 hf9 => (pss_one (ps_ret (pcX (okx__law_error_base T) (room_suite hr (by decide)) hz9 hf9 gls 2 T.g__law_error (pa_cons (pn vis 2) pa_nil))))))), ?_⟩
    refine i_start (σ' := [some (V.ref gridA), some (V.int base), none]) rfl ?_
    refine i_tryA <| i_ret <| i_lst <| i_cons <| i_c <| i_cons <| i_callW <| i_cons <| v0 <| i_cons <| v1 <| i_nil <| ⟨_, _, _, rfl, a0, (by first | assumption | omega | rfl | exact Sz.zero | exact Sz.sm (by omega) (by omega) (by decide) | exact Sz.mono (by assumption) (by decide)), (by first | assumption | omega | rfl | exact Sz.zero | exact Sz.sm (by omega) (by omega) (by decide) | exact Sz.mono (by assumption) (by decide)), (by first | assumption | omega | rfl | exact Sz.zero | exact Sz.sm (by omega) (by omega) (by decide) | exact Sz.mono (by assumption) (by decide)), fun d2 H2 s2 xf2 => ?_⟩
    refine cat2 T.exm_BadBase_LostError (fun a3 na3 => ?_)
    refine i_ret <| i_call <| i_cons <| v2 <| i_nil <| ⟨_, _, rfl, rfl, rfl, xf2, fun r4A r40 r41 H5 s5 f5_0 hr40 hr41 => ?_⟩
    exact k _ _ _ _ (s2.trans s5) f5_0 (by first | rfl | assumption | omega) (by first | rfl | assumption | omega)

/-! _law_refused@mode -/
def sp__law_refused_mode (K : PySem.W.Frag) : Sp := fun vs H Q _ => ∃ (valueA : Addr) (value : EN) (gridA : Addr) (grid : GR) (mode : Str), vs = [V.ref valueA, V.ref gridA, V.str mode] ∧ IsI (He.ga K "Exact") H valueA (exF value) ∧ IsI (He.ga K "Grid") H gridA (grF grid) ∧ (mode ∉ modes9) ∧ ∀ (rA : Addr) (r0 : Str) (r1 : Str) (H' : Hp), Same H H' → H' rA = some (.lst [V.str r0, V.str r1]) → (r0 = "mode") → (r1 = mode) → Q (V.ref rA) H'
abbrev s__law_refused_mode : Stmt := top 70
theorem sc__law_refused_mode : FnScope ["value", "grid", "mode", "e"] ["value", "grid", "mode"] (defScope s__law_refused_mode) := ⟨rfl, rfl, rfl, by decide +kernel, rfl, by decide +kernel, by decide +kernel⟩
theorem vis__law_refused_mode : visB ["value", "grid", "mode", "e"] (defScope s__law_refused_mode) = true := by decide +kernel
theorem gl__law_refused_mode : glB ["LostError", "converted", "_law_error"] (defScope s__law_refused_mode) = true := by decide +kernel
theorem ok__law_refused_mode {P : Program} {w : World} {K : PySem.W.Frag} {mg : Str → Option Value} {hp9 : Heap} (T : Txt P w K mg) : OkD P w K mg hp9 4 (He.fAd K ("_law_refused", none)) ["value", "grid", "mode"] [] (sp__law_refused_mode K) := by
  obtain ⟨fd, F⟩ := T.d__law_refused
  refine ⟨fd, [], F.kp, F.bindsN (fun _ _ _ _ _ _ us hl => match us, hl with | [_, _, _], _ => rfl), .nil, ?_⟩
  have sc := sc__law_refused_mode; have vis := vis__law_refused_mode; have gls := gl__law_refused_mode
  refine F.ok sc (fun vs H Q E h => ?_) (fun cdv A outer s H0 vs Q E hr h => ?_)
  · obtain ⟨valueA, value, gridA, grid, mode, rfl, _⟩ := h; rfl
  · obtain ⟨valueA, value, gridA, grid, mode, rfl, a0, a1, e0, k⟩ := h
    refine ⟨_, (pss_cons (ps_tryA (i := 3) rfl rfl sc.nd rfl rfl (names_of gls 0 T.g_LostError) takes_cx (fun W8 pn8 xe8 tk1 po => (pss_one (ps_expr (pcW (ok_converted_mode T) (hr.mono (by decide)) gls 1 T.g_converted tk1 (pa_cons (pn vis 0) (pa_cons (pn vis 1) (pa_cons (pn vis 2) pa_nil))))))) (fun a9 oe9 cls9 d9 pn9 hz9 hf9 => (pss_one (ps_ret (pcX (okx__law_error_mode T) (room_suite hr (by decide)) hz9 hf9 gls 2 T.g__law_error (pa_cons (pn vis 3) pa_nil)))))) pss_never), ?_⟩
    refine i_start (σ' := [some (V.ref valueA), some (V.ref gridA), some (V.str mode), none]) rfl ?_
    refine i_seq <| i_tryA <| i_drop <| i_callW <| i_cons <| v0 <| i_cons <| v1 <| i_cons <| v2 <| i_nil <| ⟨_, _, _, _, _, rfl, a0, a1, (by first | assumption | omega | rfl | exact Sz.zero | exact Sz.sm (by omega) (by omega) (by decide) | exact Sz.mono (by assumption) (by decide)), fun d2 H2 s2 xf2 => ?_⟩
    refine cat3 T.exm_BadMode_LostError (fun a3 na3 => ?_)
    refine i_ret <| i_call <| i_cons <| v3 <| i_nil <| ⟨_, _, rfl, rfl, rfl, xf2, fun r4A r40 r41 H5 s5 f5_0 hr40 hr41 => ?_⟩
    exact k _ _ _ _ (s2.trans s5) f5_0 (by first | rfl | assumption | omega) (by first | rfl | assumption | omega)

/-! _law_refused@grid -/
def sp__law_refused_grid (K : PySem.W.Frag) : Sp := fun vs H Q _ => ∃ (valueA : Addr) (value : EN) (gridA : Addr) (grid : GR) (mode : Str), vs = [V.ref valueA, V.ref gridA, V.str mode] ∧ IsI (He.ga K "Exact") H valueA (exF value) ∧ IsI (He.ga K "Grid") H gridA (grF grid) ∧ (mode ∈ modes9) ∧ (grid.o ≠ none ∨ grid.t ≠ none) ∧ ∀ (rA : Addr) (r0 : Str) (r1 : Str) (H' : Hp), Same H H' → H' rA = some (.lst [V.str r0, V.str r1]) → (r0 = "grid") → (r1 = "borders") → Q (V.ref rA) H'
abbrev s__law_refused_grid : Stmt := top 70
theorem sc__law_refused_grid : FnScope ["value", "grid", "mode", "e"] ["value", "grid", "mode"] (defScope s__law_refused_grid) := ⟨rfl, rfl, rfl, by decide +kernel, rfl, by decide +kernel, by decide +kernel⟩
theorem vis__law_refused_grid : visB ["value", "grid", "mode", "e"] (defScope s__law_refused_grid) = true := by decide +kernel
theorem gl__law_refused_grid : glB ["LostError", "converted", "_law_error"] (defScope s__law_refused_grid) = true := by decide +kernel
theorem ok__law_refused_grid {P : Program} {w : World} {K : PySem.W.Frag} {mg : Str → Option Value} {hp9 : Heap} (T : Txt P w K mg) : OkD P w K mg hp9 4 (He.fAd K ("_law_refused", none)) ["value", "grid", "mode"] [] (sp__law_refused_grid K) := by
  obtain ⟨fd, F⟩ := T.d__law_refused
  refine ⟨fd, [], F.kp, F.bindsN (fun _ _ _ _ _ _ us hl => match us, hl with | [_, _, _], _ => rfl), .nil, ?_⟩
  have sc := sc__law_refused_grid; have vis := vis__law_refused_grid; have gls := gl__law_refused_grid
  refine F.ok sc (fun vs H Q E h => ?_) (fun cdv A outer s H0 vs Q E hr h => ?_)
  · obtain ⟨valueA, value, gridA, grid, mode, rfl, _⟩ := h; rfl
  · obtain ⟨valueA, value, gridA, grid, mode, rfl, a0, a1, e0, e1, k⟩ := h
    refine ⟨_, (pss_cons (ps_tryA (i := 3) rfl rfl sc.nd rfl rfl (names_of gls 0 T.g_LostError) takes_cx (fun W8 pn8 xe8 tk1 po => (pss_one (ps_expr (pcW (ok_converted_grid T) (hr.mono (by decide)) gls 1 T.g_converted tk1 (pa_cons (pn vis 0) (pa_cons (pn vis 1) (pa_cons (pn vis 2) pa_nil))))))) (fun a9 oe9 cls9 d9 pn9 hz9 hf9 => (pss_one (ps_ret (pcX (okx__law_error_grid T) (room_suite hr (by decide)) hz9 hf9 gls 2 T.g__law_error (pa_cons (pn vis 3) pa_nil)))))) pss_never), ?_⟩
    refine i_start (σ' := [some (V.ref valueA), some (V.ref gridA), some (V.str mode), none]) rfl ?_
    refine i_seq <| i_tryA <| i_drop <| i_callW <| i_cons <| v0 <| i_cons <| v1 <| i_cons <| v2 <| i_nil <| ⟨_, _, _, _, _, rfl, a0, a1, (by first | assumption | omega | rfl | exact Sz.zero | exact Sz.sm (by omega) (by omega) (by decide) | exact Sz.mono (by assumption) (by decide)), (by first | assumption | omega | rfl | exact Sz.zero | exact Sz.sm (by omega) (by omega) (by decide) | exact Sz.mono (by assumption) (by decide)), fun d2 H2 s2 xf2 => ?_⟩
    refine cat3 T.exm_BadGrid_LostError (fun a3 na3 => ?_)
    refine i_ret <| i_call <| i_cons <| v3 <| i_nil <| ⟨_, _, rfl, rfl, rfl, xf2, fun r4A r40 r41 H5 s5 f5_0 hr40 hr41 => ?_⟩
    exact k _ _ _ _ (s2.trans s5) f5_0 (by first | rfl | assumption | omega) (by first | rfl | assumption | omega)

/-! _law_back_right -/
def sp__law_back_right (K : PySem.W.Frag) : Sp := fun vs H Q _ => ∃ (base : Int) (precision : Int) (other : Int) (digits : Int) (xA : Addr) (x0 : Int) (x1 : Int) (modesA : Addr) (modes0 : Str) (modes1 : Str), vs = [V.int base, V.int precision, V.int other, V.int digits, V.ref xA, V.ref modesA] ∧ H xA = some (.tup [V.int x0, V.int x1]) ∧ H modesA = some (.lst [V.str modes0, V.str modes1]) ∧ (2 ≤ base) ∧ (base ≤ 36) ∧ (3 ≤ precision) ∧ (precision ≤ 12) ∧ (2 ≤ other) ∧ (other ≤ 36) ∧ (3 ≤ digits) ∧ (digits ≤ 80) ∧ (Sz 100 (other ^ digits.toNat)) ∧ (base ^ precision.toNat < other ^ (digits - 1).toNat) ∧ (Nv base (⟨base, x0, x1⟩ : EN)) ∧ (Nm precision none (⟨base, x0, x1⟩ : EN)) ∧ (modes0 ∈ near5) ∧ (modes1 ∈ near5) ∧ ∀  (H' : Hp), Same H H' → Q (V.bl true) H'
abbrev s__law_back_right : Stmt := top 67
theorem sc__law_back_right : FnScope ["base", "precision", "other", "digits", "x", "modes", "here", "there", "value", "middle", "due"] ["base", "precision", "other", "digits", "x", "modes"] (defScope s__law_back_right) := ⟨rfl, rfl, rfl, by decide +kernel, rfl, by decide +kernel, by decide +kernel⟩
theorem vis__law_back_right : visB ["base", "precision", "other", "digits", "x", "modes", "here", "there", "value", "middle", "due"] (defScope s__law_back_right) = true := by decide +kernel
theorem gl__law_back_right : glB ["Grid", "_law_make", "converted", "_law_converted", "_law_is"] (defScope s__law_back_right) = true := by decide +kernel
theorem ok__law_back_right {P : Program} {w : World} {K : PySem.W.Frag} {mg : Str → Option Value} {hp9 : Heap} (T : Txt P w K mg) : OkD P w K mg hp9 7 (He.fAd K ("_law_back_right", none)) ["base", "precision", "other", "digits", "x", "modes"] [] (sp__law_back_right K) := by
  obtain ⟨fd, F⟩ := T.d__law_back_right
  refine ⟨fd, [], F.kp, F.bindsN (fun _ _ _ _ _ _ us hl => match us, hl with | [_, _, _, _, _, _], _ => rfl), .nil, ?_⟩
  have sc := sc__law_back_right; have vis := vis__law_back_right; have gls := gl__law_back_right
  refine F.ok sc (fun vs H Q E h => ?_) (fun cdv A outer s H0 vs Q E hr h => ?_)
  · obtain ⟨base, precision, other, digits, xA, x0, x1, modesA, modes0, modes1, rfl, _⟩ := h; rfl
  · obtain ⟨base, precision, other, digits, xA, x0, x1, modesA, modes0, modes1, rfl, a0, a1, e0, e1, e2, e3, e4, e5, e6, e7, e8, e9, e10, e11, e12, e13, k⟩ := h
    refine ⟨_, PSs.nox (pss_cons (ps_set (i := 6) sc.nd rfl (.inl rfl) (pcM T.mk_Grid (ok_Grid___init___kw T) (hr.mono (by decide)) gls 0 T.g_Grid (pa_cons (pn vis 0) (pa_cons (pn vis 1) pa_nil)))) (pss_cons (ps_set (i := 7) sc.nd rfl (.inl rfl) (pcM T.mk_Grid (ok_Grid___init___kw T) (hr.mono (by decide)) gls 0 T.g_Grid (pa_cons (pn vis 2) (pa_cons (pn vis 3) pa_nil)))) (pss_cons (ps_set (i := 8) sc.nd rfl (.inl rfl) (pcD (ok__law_make T) (hr.mono (by decide)) gls 1 T.g__law_make (pa_cons (pn vis 0) (pa_cons (pn vis 4) pa_nil)))) (pss_cons (ps_set (i := 9) sc.nd rfl (.inl rfl) (pcD (ok_converted T) (hr.mono (by decide)) gls 2 T.g_converted (pa_cons (pn vis 8) (pa_cons (pn vis 7) (pa_cons (pe_ix ix_list (pn vis 5) pe_int (fun _ _ => rfl)) pa_nil))))) (pss_cons (ps_set (i := 10) sc.nd rfl (.inl rfl) (pcD (ok__law_converted T) (hr.mono (by decide)) gls 3 T.g__law_converted (pa_cons (pn vis 0) (pa_cons (pn vis 4) (pa_cons (pn vis 2) (pa_cons (pn vis 3) (pa_cons (pe_ix ix_list (pn vis 5) pe_int (fun _ _ => rfl)) pa_nil))))))) (pss_cons (ps_if (pt_not (pt_val (pcD (ok__law_is T) (hr.mono (by decide)) gls 4 T.g__law_is (pa_cons (pn vis 9) (pa_cons (pn vis 2) (pa_cons (pn vis 10) pa_nil)))))) pss_never pss_nil) (pss_cons (ps_if (pt_not (pt_val (pcD (ok__law_is T) (hr.mono (by decide)) gls 4 T.g__law_is (pa_cons (pcD (ok_converted T) (hr.mono (by decide)) gls 2 T.g_converted (pa_cons (pn vis 9) (pa_cons (pn vis 6) (pa_cons (pe_ix ix_list (pn vis 5) pe_int (fun _ _ => rfl)) pa_nil)))) (pa_cons (pn vis 0) (pa_cons (pn vis 4) pa_nil)))))) pss_never pss_nil) (pss_one (ps_ret (pcD (ok__law_is T) (hr.mono (by decide)) gls 4 T.g__law_is (pa_cons (pn vis 8) (pa_cons (pn vis 0) (pa_cons (pn vis 4) pa_nil))))))))))))), ?_⟩
    refine i_start (σ' := [some (V.int base), some (V.int precision), some (V.int other), some (V.int digits), some (V.ref xA), some (V.ref modesA), none, none, none, none, none]) rfl ?_
    refine i_seq <| i_asg <| i_make <| i_cons <| v0 <| i_cons <| v1 <| i_nil <| i_madeN (fun xo1 H1 hn1 k1 i1 => ?_)
    refine ⟨xo1, _, _, none, none, rfl, i1, (by first | assumption | omega | rfl | exact Sz.zero | exact Sz.sm (by omega) (by omega) (by decide) | exact Sz.mono (by assumption) (by decide)), (by first | assumption | omega | rfl | exact Sz.zero | exact Sz.sm (by omega) (by omega) (by decide) | exact Sz.mono (by assumption) (by decide)), (by first | assumption | omega | rfl | exact Sz.zero | exact Sz.sm (by omega) (by omega) (by decide) | exact Sz.mono (by assumption) (by decide)), (by first | assumption | omega | rfl | exact Sz.zero | exact Sz.sm (by omega) (by omega) (by decide) | exact Sz.mono (by assumption) (by decide)), (by exact True.intro), fun here G1 p1 q1 hhere => ⟨rfl, ?_⟩⟩
    refine n6 <| i_nx <| i_seq <| i_asg <| i_make <| i_cons <| v2 <| i_cons <| v3 <| i_nil <| i_madeN (fun xo2 H2 hn2 k2 i2 => ?_)
    refine ⟨xo2, _, _, none, none, rfl, i2, (by first | assumption | omega | rfl | exact Sz.zero | exact Sz.sm (by omega) (by omega) (by decide) | exact Sz.mono (by assumption) (by decide)), (by first | assumption | omega | rfl | exact Sz.zero | exact Sz.sm (by omega) (by omega) (by decide) | exact Sz.mono (by assumption) (by decide)), (by first | assumption | omega | rfl | exact Sz.zero | exact Sz.sm (by omega) (by omega) (by decide) | exact Sz.mono (by assumption) (by decide)), (by first | assumption | omega | rfl | exact Sz.zero | exact Sz.sm (by omega) (by omega) (by decide) | exact Sz.mono (by assumption) (by decide)), (by exact True.intro), fun there G2 p2 q2 hthere => ⟨rfl, ?_⟩⟩
    refine n7 <| i_nx <| i_seq <| ?_
    have hxz : Sz 223 x0 := e10.szc e0 e1
    refine i_asg <| i_call <| i_cons <| v0 <| i_cons <| v4 <| i_nil <| ⟨_, _, _, _, rfl, (((k1 _ p1).trans (k2 _ p2)) _ _ a0), (by first | assumption | omega | rfl | exact Sz.zero | exact Sz.sm (by omega) (by omega) (by decide) | exact Sz.mono (by assumption) (by decide)), (by first | assumption | omega | rfl | exact Sz.zero | exact Sz.sm (by omega) (by omega) (by decide) | exact Sz.mono (by assumption) (by decide)), (by exact hxz.mono (by decide)), fun valueA value H3 s3 f3_0 hvalue => ?_⟩
    refine n8 <| i_nx <| i_seq <| ?_
    have hv : value = (⟨base, x0, x1⟩ : EN) := by rw [hvalue]; exact nrm_low e10.low
    refine i_asg <| i_call <| i_cons <| v8 <| i_cons <| v7 <| i_cons <| i_op <| v5 <| i_c <| i_ixL (SqL.of (((k1 _ p1).trans ((k2 _ p2).trans s3)) _ _ a1)) (atI_nat (j := 0) rfl) <| i_nil <| ⟨_, _, _, _, _, rfl, f3_0, (same_ins s3 q2), (by rw [hv]; assumption), (by rw [hv]; assumption), (by rw [hv]; have := e10.lo; omega), (by rw [hv]; have := e10.hi; omega), (by rw [hv]; exact (e10.szc (by assumption) (by assumption)).mono (by decide)), (by rw [hv]; exact (e10.szn (by assumption) (by assumption)).mono (by decide)), (by rw [hv]; exact (e10.szd (by assumption) (by assumption)).mono (by decide)), (by rw [hthere]; assumption), (by rw [hthere]; assumption), (by rw [hthere]; dsimp only; omega), (by rw [hthere]; dsimp only; omega), (by rw [hthere]), (by rw [hthere]), (by exact near9 e12), fun middleA middle H4 s4 f4_0 hmiddle => ?_⟩
    refine n9 <| i_nx <| i_seq <| i_asg <| i_call <| i_cons <| v0 <| i_cons <| v4 <| i_cons <| v2 <| i_cons <| v3 <| i_cons <| i_op <| v5 <| i_c <| i_ixL (SqL.of (((k1 _ p1).trans ((k2 _ p2).trans (s3.trans s4))) _ _ a1)) (atI_nat (j := 0) rfl) <| i_nil <| ⟨_, _, _, _, _, _, _, rfl, (((k1 _ p1).trans ((k2 _ p2).trans (s3.trans s4))) _ _ a0), (by first | assumption | omega | rfl | exact Sz.zero | exact Sz.sm (by omega) (by omega) (by decide) | exact Sz.mono (by assumption) (by decide)), (by first | assumption | omega | rfl | exact Sz.zero | exact Sz.sm (by omega) (by omega) (by decide) | exact Sz.mono (by assumption) (by decide)), (by first | assumption | omega | rfl | exact Sz.zero | exact Sz.sm (by omega) (by omega) (by decide) | exact Sz.mono (by assumption) (by decide)), (by first | assumption | omega | rfl | exact Sz.zero | exact Sz.sm (by omega) (by omega) (by decide) | exact Sz.mono (by assumption) (by decide)), (by first | assumption | omega | rfl | exact Sz.zero | exact Sz.sm (by omega) (by omega) (by decide) | exact Sz.mono (by assumption) (by decide)), (by first | assumption | omega | rfl | exact Sz.zero | exact Sz.sm (by omega) (by omega) (by decide) | exact Sz.mono (by assumption) (by decide)), (by omega), (by exact near9 e12), fun dueA due0 due1 H5 s5 f5_0 hdue => ?_⟩
    refine n10 <| i_nx <| i_seq <| ?_
    have hmid : Rt other digits (cnE (⟨base, x0, x1⟩ : EN)) (cdE (⟨base, x0, x1⟩ : EN)) modes0 middle := by have q := hmiddle; rw [hthere, hv] at q; exact q
    obtain ⟨mb, mz, mn, md, ml, mh⟩ := mid_ok e4 e5 (by omega) e8 (cd_pos (x := (⟨base, x0, x1⟩ : EN)) e0) (e10.szn e0 e1) (e10.szd e0 e1) hmid
    have hmd : middle = ⟨other, due0, due1⟩ := rt_fun e4 (cd_pos (x := (⟨base, x0, x1⟩ : EN)) e0) hmid hdue
    have hlm : Low middle := by rcases hmid with ⟨_, e⟩ | ⟨_, k, _, e⟩ <;> rw [e]; exact ⟨e4, e5, fun _ => rfl, fun h => absurd rfl h⟩; exact low_nrm e4 e5
    refine i_if <| i_not <| i_tB <| i_call <| i_cons <| v9 <| i_cons <| v2 <| i_cons <| v10 <| i_nil <| ⟨_, _, _, _, _, _, rfl, (same_ins s5 f4_0), f5_0, (by first | assumption | omega | rfl | exact Sz.zero | exact Sz.sm (by omega) (by omega) (by decide) | exact Sz.mono (by assumption) (by decide)), (by first | assumption | omega | rfl | exact Sz.zero | exact Sz.sm (by omega) (by omega) (by decide) | exact Sz.mono (by assumption) (by decide)), (by rw [hmd] at hlm ⊢; exact (nrm_low hlm).symm), fun H7 s7 => ?_⟩
    refine i_bl <| i_iteNT <| i_next <| i_nx <| i_seq <| i_if <| i_not <| i_tB <| i_call <| i_cons <| i_call <| i_cons <| v9 <| i_cons <| v6 <| i_cons <| i_op <| v5 <| i_c <| i_ixL (SqL.of (((k1 _ p1).trans ((k2 _ p2).trans (s3.trans (s4.trans (s5.trans s7))))) _ _ a1)) (atI_nat (j := 1) rfl) <| i_nil <| ⟨_, _, _, _, _, rfl, (same_ins (s5.trans s7) f4_0), (same_ins ((k2 _ p2).trans (s3.trans (s4.trans (s5.trans s7)))) q1), (by rw [mb]; exact e4), (by rw [mb]; exact e5), (by omega), (by omega), (by exact mz), (by exact mn), (by exact md), (by rw [hhere]; exact e0), (by rw [hhere]; exact e1), (by rw [hhere]; exact e2), (by rw [hhere]; show precision ≤ 200; omega), (by rw [hhere]), (by rw [hhere]), (by exact near9 e13), fun bkA bk H8 s8 f8_0 hbk => ?_⟩
    refine i_cons <| v0 <| i_cons <| v4 <| i_nil <| ⟨_, _, _, _, _, _, rfl, f8_0, (((k1 _ p1).trans ((k2 _ p2).trans (s3.trans (s4.trans (s5.trans (s7.trans s8)))))) _ _ a0), (by first | assumption | omega | rfl | exact Sz.zero | exact Sz.sm (by omega) (by omega) (by decide) | exact Sz.mono (by assumption) (by decide)), (by first | assumption | omega | rfl | exact Sz.zero | exact Sz.sm (by omega) (by omega) (by decide) | exact Sz.mono (by assumption) (by decide)), (by have q := hbk; rw [hhere] at q; rw [back_ok e0 e4 ⟨by omega, by omega⟩ ⟨by omega, by omega⟩ e10.low rfl (by have := e10.lo; omega) e11 e12 e13 e9 hmid (by omega) q (fun k hk => pl_lo7 e4 (cd_pos (x := (⟨base, x0, x1⟩ : EN)) e0) ((e10.szn e0 e1).mono (by decide)) ((e10.szd e0 e1).mono (by decide)) hk) (fun k hk => pl_lo7 e0 (cd_pos (by rw [mb]; exact e4)) mn md hk)]; exact (nrm_low e10.low).symm), fun H10 s10 => ?_⟩
    refine i_bl <| i_iteNT <| i_next <| i_nx <| i_ret <| i_call <| i_cons <| v8 <| i_cons <| v0 <| i_cons <| v4 <| i_nil <| ⟨_, _, _, _, _, _, rfl, (same_ins (s4.trans (s5.trans (s7.trans (s8.trans s10)))) f3_0), (((k1 _ p1).trans ((k2 _ p2).trans (s3.trans (s4.trans (s5.trans (s7.trans (s8.trans s10))))))) _ _ a0), (by first | assumption | omega | rfl | exact Sz.zero | exact Sz.sm (by omega) (by omega) (by decide) | exact Sz.mono (by assumption) (by decide)), (by first | assumption | omega | rfl | exact Sz.zero | exact Sz.sm (by omega) (by omega) (by decide) | exact Sz.mono (by assumption) (by decide)), (by exact hvalue), fun H12 s12 => ?_⟩
    exact k _ ((k1 _ p1).trans ((k2 _ p2).trans (s3.trans (s4.trans (s5.trans (s7.trans (s8.trans (s10.trans s12))))))))

/-! _law_value_right -/
def sp__law_value_right (K : PySem.W.Frag) : Sp := fun vs H Q _ => ∃ (base : Int) (other : Int) (digits : Int) (xA : Addr) (x0 : Int) (x1 : Int), vs = [V.int base, V.int other, V.int digits, V.ref xA] ∧ H xA = some (.tup [V.int x0, V.int x1]) ∧ (2 ≤ base) ∧ (base ≤ 36) ∧ (3 ≤ digits) ∧ (digits ≤ 12) ∧ (2 ≤ other) ∧ (other ≤ 36) ∧ (Nv base (⟨base, x0, x1⟩ : EN)) ∧ ∀  (H' : Hp), Same H H' → Q (V.bl true) H'
abbrev s__law_value_right : Stmt := top 68
theorem sc__law_value_right : FnScope ["base", "other", "digits", "x", "there", "same", "value", "mode", "due"] ["base", "other", "digits", "x"] (defScope s__law_value_right) := ⟨rfl, rfl, rfl, by decide +kernel, rfl, by decide +kernel, by decide +kernel⟩
theorem vis__law_value_right : visB ["base", "other", "digits", "x", "there", "same", "value", "mode", "due"] (defScope s__law_value_right) = true := by decide +kernel
theorem gl__law_value_right : glB ["Grid", "_law_make", "_law_modes", "_law_converted", "converted", "_law_is", "_law_round"] (defScope s__law_value_right) = true := by decide +kernel
theorem ok__law_value_right {P : Program} {w : World} {K : PySem.W.Frag} {mg : Str → Option Value} {hp9 : Heap} (T : Txt P w K mg) : OkD P w K mg hp9 7 (He.fAd K ("_law_value_right", none)) ["base", "other", "digits", "x"] [] (sp__law_value_right K) := by
  obtain ⟨fd, F⟩ := T.d__law_value_right
  refine ⟨fd, [], F.kp, F.bindsN (fun _ _ _ _ _ _ us hl => match us, hl with | [_, _, _, _], _ => rfl), .nil, ?_⟩
  have sc := sc__law_value_right; have vis := vis__law_value_right; have gls := gl__law_value_right
  refine F.ok sc (fun vs H Q E h => ?_) (fun cdv A outer s H0 vs Q E hr h => ?_)
  · obtain ⟨base, other, digits, xA, x0, x1, rfl, _⟩ := h; rfl
  · obtain ⟨base, other, digits, xA, x0, x1, rfl, a0, e0, e1, e2, e3, e4, e5, e6, k⟩ := h
    refine ⟨_, PSs.nox (pss_cons (ps_set (i := 4) sc.nd rfl (.inl rfl) (pcM T.mk_Grid (ok_Grid___init___kw T) (hr.mono (by decide)) gls 0 T.g_Grid (pa_cons (pn vis 1) (pa_cons (pn vis 2) pa_nil)))) (pss_cons (ps_set (i := 5) sc.nd rfl (.inl rfl) (pcM T.mk_Grid (ok_Grid___init___kw T) (hr.mono (by decide)) gls 0 T.g_Grid (pa_cons (pn vis 0) (pa_cons (pn vis 2) pa_nil)))) (pss_cons (ps_set (i := 6) sc.nd rfl (.inl rfl) (pcD (ok__law_make T) (hr.mono (by decide)) gls 1 T.g__law_make (pa_cons (pn vis 0) (pa_cons (pn vis 3) pa_nil)))) (pss_cons (ps_for PassesOwn.never rfl (pi_list (pcD0 (ok__law_modes T) (hr.mono (by decide)) gls 2 T.g__law_modes)) (pg_name (i := 7) sc.nd rfl (.inl rfl)) (pss_cons (ps_set (i := 8) sc.nd rfl (.inl rfl) (pcD (ok__law_converted T) (hr.mono (by decide)) gls 3 T.g__law_converted (pa_cons (pn vis 0) (pa_cons (pn vis 3) (pa_cons (pn vis 1) (pa_cons (pn vis 2) (pa_cons (pn vis 7) pa_nil))))))) (pss_cons (ps_if (pt_not (pt_val (pcD (ok__law_is T) (hr.mono (by decide)) gls 5 T.g__law_is (pa_cons (pcD (ok_converted T) (hr.mono (by decide)) gls 4 T.g_converted (pa_cons (pn vis 6) (pa_cons (pn vis 4) (pa_cons (pn vis 7) pa_nil)))) (pa_cons (pn vis 1) (pa_cons (pn vis 8) pa_nil)))))) pss_never pss_nil) (pss_one (ps_if (pt_not (pt_val (pcD (ok__law_is T) (hr.mono (by decide)) gls 5 T.g__law_is (pa_cons (pcD (ok_converted T) (hr.mono (by decide)) gls 4 T.g_converted (pa_cons (pn vis 6) (pa_cons (pn vis 5) (pa_cons (pn vis 7) pa_nil)))) (pa_cons (pn vis 0) (pa_cons (pcD (ok__law_round T) (hr.mono (by decide)) gls 6 T.g__law_round (pa_cons (pn vis 0) (pa_cons (pn vis 2) (pa_cons (pn vis 3) (pa_cons (pn vis 7) pa_nil))))) pa_nil)))))) pss_never pss_nil))))) (pss_cons (ps_set (i := 8) sc.nd rfl (.inl rfl) (pcD (ok__law_converted T) (hr.mono (by decide)) gls 3 T.g__law_converted (pa_cons (pn vis 0) (pa_cons (pn vis 3) (pa_cons (pn vis 1) (pa_cons (pn vis 2) (pa_cons pe_str pa_nil))))))) (pss_one (ps_ret (pe_and (pcD (ok__law_is T) (hr.mono (by decide)) gls 5 T.g__law_is (pa_cons (pcD (ok_converted_d0 T) (hr.mono (by decide)) gls 4 T.g_converted (pa_cons (pn vis 6) (pa_cons (pn vis 4) pa_nil))) (pa_cons (pn vis 1) (pa_cons (pn vis 8) pa_nil)))) (pe_one (pcD (ok__law_is T) (hr.mono (by decide)) gls 5 T.g__law_is (pa_cons (pn vis 6) (pa_cons (pn vis 0) (pa_cons (pn vis 3) pa_nil))))))))))))), ?_⟩
    refine i_start (σ' := [some (V.int base), some (V.int other), some (V.int digits), some (V.ref xA), none, none, none, none, none]) rfl ?_
    refine i_seq <| i_asg <| i_make <| i_cons <| v1 <| i_cons <| v2 <| i_nil <| i_madeN (fun xo1 H1 hn1 k1 i1 => ?_)
    refine ⟨xo1, _, _, none, none, rfl, i1, (by first | assumption | omega | rfl | exact Sz.zero | exact Sz.sm (by omega) (by omega) (by decide) | exact Sz.mono (by assumption) (by decide)), (by first | assumption | omega | rfl | exact Sz.zero | exact Sz.sm (by omega) (by omega) (by decide) | exact Sz.mono (by assumption) (by decide)), (by first | assumption | omega | rfl | exact Sz.zero | exact Sz.sm (by omega) (by omega) (by decide) | exact Sz.mono (by assumption) (by decide)), (by first | assumption | omega | rfl | exact Sz.zero | exact Sz.sm (by omega) (by omega) (by decide) | exact Sz.mono (by assumption) (by decide)), (by exact True.intro), fun there G1 p1 q1 hthere => ⟨rfl, ?_⟩⟩
    refine n4 <| i_nx <| i_seq <| i_asg <| i_make <| i_cons <| v0 <| i_cons <| v2 <| i_nil <| i_madeN (fun xo2 H2 hn2 k2 i2 => ?_)
    refine ⟨xo2, _, _, none, none, rfl, i2, (by first | assumption | omega | rfl | exact Sz.zero | exact Sz.sm (by omega) (by omega) (by decide) | exact Sz.mono (by assumption) (by decide)), (by first | assumption | omega | rfl | exact Sz.zero | exact Sz.sm (by omega) (by omega) (by decide) | exact Sz.mono (by assumption) (by decide)), (by first | assumption | omega | rfl | exact Sz.zero | exact Sz.sm (by omega) (by omega) (by decide) | exact Sz.mono (by assumption) (by decide)), (by first | assumption | omega | rfl | exact Sz.zero | exact Sz.sm (by omega) (by omega) (by decide) | exact Sz.mono (by assumption) (by decide)), (by exact True.intro), fun same G2 p2 q2 hsame => ⟨rfl, ?_⟩⟩
    refine n5 <| i_nx <| i_seq <| ?_
    have hxz : Sz 223 x0 := e6.szc e0 e1
    refine i_asg <| i_call <| i_cons <| v0 <| i_cons <| v3 <| i_nil <| ⟨_, _, _, _, rfl, (((k1 _ p1).trans (k2 _ p2)) _ _ a0), (by first | assumption | omega | rfl | exact Sz.zero | exact Sz.sm (by omega) (by omega) (by decide) | exact Sz.mono (by assumption) (by decide)), (by first | assumption | omega | rfl | exact Sz.zero | exact Sz.sm (by omega) (by omega) (by decide) | exact Sz.mono (by assumption) (by decide)), (by exact hxz.mono (by decide)), fun valueA value H3 s3 f3_0 hvalue => ?_⟩
    refine n6 <| i_nx <| i_seq <| ?_
    have hv : value = (⟨base, x0, x1⟩ : EN) := by rw [hvalue]; exact nrm_low e6.low
    refine i_for <| i_lt <| i_call <| i_nil <| ⟨rfl, fun msA ms H4 s4 f4_0 hms => ?_⟩
    refine i_forL (fun i σ H' => ∃ (o_mode : Option V) (o_due : Option V), σ = [some (V.int base), some (V.int other), some (V.int digits), some (V.ref xA), some (V.ref xo1), some (V.ref xo2), some (V.ref valueA), o_mode, o_due] ∧ Same H4 H') (SqL.of f4_0) ?_ ?_ ?_ ?_
    ·
      exact ⟨_, _, rfl, (Same.refl _)⟩
    ·
      intro i σ' H'' _ hPv
      revert hPv
      rintro ⟨_, _, _, s5⟩
      exact (SqL.of (s5 _ _ f4_0))
    ·
      rintro i y σ H6 hy ⟨o_mode, o_due, rfl, s6⟩
      obtain ⟨mode, hm0, rfl⟩ := at_str hy
      have hm : mode ∈ modes9 := by rw [hms] at hm0; exact hm0
      refine n7 <| i_seq <| i_asg <| i_call <| i_cons <| v0 <| i_cons <| v3 <| i_cons <| v1 <| i_cons <| v2 <| i_cons <| v7 <| i_nil <| ⟨_, _, _, _, _, _, _, rfl, (((k1 _ p1).trans ((k2 _ p2).trans (s3.trans (s4.trans s6)))) _ _ a0), (by first | assumption | omega | rfl | exact Sz.zero | exact Sz.sm (by omega) (by omega) (by decide) | exact Sz.mono (by assumption) (by decide)), (by first | assumption | omega | rfl | exact Sz.zero | exact Sz.sm (by omega) (by omega) (by decide) | exact Sz.mono (by assumption) (by decide)), (by first | assumption | omega | rfl | exact Sz.zero | exact Sz.sm (by omega) (by omega) (by decide) | exact Sz.mono (by assumption) (by decide)), (by first | assumption | omega | rfl | exact Sz.zero | exact Sz.sm (by omega) (by omega) (by decide) | exact Sz.mono (by assumption) (by decide)), (by first | assumption | omega | rfl | exact Sz.zero | exact Sz.sm (by omega) (by omega) (by decide) | exact Sz.mono (by assumption) (by decide)), (by first | assumption | omega | rfl | exact Sz.zero | exact Sz.sm (by omega) (by omega) (by decide) | exact Sz.mono (by assumption) (by decide)), (by omega), (by exact hm), fun daA da0 da1 H7 s7 f7_0 hda => ?_⟩
      refine n8 <| i_nx <| i_seq <| i_if <| i_not <| i_tB <| i_call <| i_cons <| i_call <| i_cons <| v6 <| i_cons <| v4 <| i_cons <| v7 <| i_nil <| ⟨_, _, _, _, _, rfl, (same_ins (s4.trans (s6.trans s7)) f3_0), (same_ins ((k2 _ p2).trans (s3.trans (s4.trans (s6.trans s7)))) q1), (by rw [hv]; assumption), (by rw [hv]; assumption), (by rw [hv]; have := e6.lo; omega), (by rw [hv]; have := e6.hi; omega), (by rw [hv]; exact (e6.szc (by assumption) (by assumption)).mono (by decide)), (by rw [hv]; exact (e6.szn (by assumption) (by assumption)).mono (by decide)), (by rw [hv]; exact (e6.szd (by assumption) (by assumption)).mono (by decide)), (by rw [hthere]; assumption), (by rw [hthere]; assumption), (by rw [hthere]; dsimp only; omega), (by rw [hthere]; dsimp only; omega), (by rw [hthere]), (by rw [hthere]), (by exact hm), fun caA ca H8 s8 f8_0 hca => ?_⟩
      refine i_cons <| v1 <| i_cons <| v8 <| i_nil <| ⟨_, _, _, _, _, _, rfl, f8_0, (s8 _ _ f7_0), (by first | assumption | omega | rfl | exact Sz.zero | exact Sz.sm (by omega) (by omega) (by decide) | exact Sz.mono (by assumption) (by decide)), (by first | assumption | omega | rfl | exact Sz.zero | exact Sz.sm (by omega) (by omega) (by decide) | exact Sz.mono (by assumption) (by decide)), (by have q := hca; rw [hthere, hv] at q; have e := rt_fun e4 (cd_pos (x := (⟨base, x0, x1⟩ : EN)) e0) q hda; rw [e]; have l : Low (⟨other, da0, da1⟩ : EN) := (by rw [← e]; exact rt_low e4 e5 q); exact (nrm_low l).symm), fun H10 s10 => ?_⟩
      refine i_bl <| i_iteNT <| i_next <| i_nx <| i_if <| i_not <| i_tB <| i_call <| i_cons <| i_call <| i_cons <| v6 <| i_cons <| v5 <| i_cons <| v7 <| i_nil <| ⟨_, _, _, _, _, rfl, (same_ins (s4.trans (s6.trans (s7.trans (s8.trans s10)))) f3_0), (same_ins (s3.trans (s4.trans (s6.trans (s7.trans (s8.trans s10))))) q2), (by rw [hv]; assumption), (by rw [hv]; assumption), (by rw [hv]; have := e6.lo; omega), (by rw [hv]; have := e6.hi; omega), (by rw [hv]; exact (e6.szc (by assumption) (by assumption)).mono (by decide)), (by rw [hv]; exact (e6.szn (by assumption) (by assumption)).mono (by decide)), (by rw [hv]; exact (e6.szd (by assumption) (by assumption)).mono (by decide)), (by rw [hsame]; assumption), (by rw [hsame]; assumption), (by rw [hsame]; dsimp only; omega), (by rw [hsame]; dsimp only; omega), (by rw [hsame]), (by rw [hsame]), (by exact hm), fun cbA cb H11 s11 f11_0 hcb => ?_⟩
      refine i_cons <| v0 <| i_cons <| i_call <| i_cons <| v0 <| i_cons <| v2 <| i_cons <| v3 <| i_cons <| v7 <| i_nil <| ⟨_, _, _, _, _, _, rfl, (((k1 _ p1).trans ((k2 _ p2).trans (s3.trans (s4.trans (s6.trans (s7.trans (s8.trans (s10.trans s11)))))))) _ _ a0), (by first | assumption | omega | rfl | exact Sz.zero | exact Sz.sm (by omega) (by omega) (by decide) | exact Sz.mono (by assumption) (by decide)), (by first | assumption | omega | rfl | exact Sz.zero | exact Sz.sm (by omega) (by omega) (by decide) | exact Sz.mono (by assumption) (by decide)), (by first | assumption | omega | rfl | exact Sz.zero | exact Sz.sm (by omega) (by omega) (by decide) | exact Sz.mono (by assumption) (by decide)), (by exact e6.low), (by exact hxz.mono (by decide)), (by exact hm), fun rdA rd0 rd1 H12 s12 f12_0 hrd => ?_⟩
      refine i_nil <| ⟨_, _, _, _, _, _, rfl, (same_ins s12 f11_0), f12_0, (by first | assumption | omega | rfl | exact Sz.zero | exact Sz.sm (by omega) (by omega) (by decide) | exact Sz.mono (by assumption) (by decide)), (by first | assumption | omega | rfl | exact Sz.zero | exact Sz.sm (by omega) (by omega) (by decide) | exact Sz.mono (by assumption) (by decide)), (by have q := hcb; rw [hsame, hv] at q; have e := rt_same e0 ⟨by omega, by omega⟩ e6 hrd q; rw [e]; have l : Low (⟨base, rd0, rd1⟩ : EN) := (by rw [← e]; exact rt_low e0 e1 q); exact (nrm_low l).symm), fun H14 s14 => ?_⟩
      refine i_bl <| i_iteNT <| i_next <| ?_
      exact ⟨_, _, rfl, (s6.trans (s7.trans (s8.trans (s10.trans (s11.trans (s12.trans s14))))))⟩
    ·
      rintro σ H15 ⟨o_mode, o_due, rfl, s15⟩
      refine i_nx <| i_seq <| i_asg <| i_call <| i_cons <| v0 <| i_cons <| v3 <| i_cons <| v1 <| i_cons <| v2 <| i_cons <| i_c <| i_nil <| ⟨_, _, _, _, _, _, _, rfl, (((k1 _ p1).trans ((k2 _ p2).trans (s3.trans (s4.trans s15)))) _ _ a0), (by first | assumption | omega | rfl | exact Sz.zero | exact Sz.sm (by omega) (by omega) (by decide) | exact Sz.mono (by assumption) (by decide)), (by first | assumption | omega | rfl | exact Sz.zero | exact Sz.sm (by omega) (by omega) (by decide) | exact Sz.mono (by assumption) (by decide)), (by first | assumption | omega | rfl | exact Sz.zero | exact Sz.sm (by omega) (by omega) (by decide) | exact Sz.mono (by assumption) (by decide)), (by first | assumption | omega | rfl | exact Sz.zero | exact Sz.sm (by omega) (by omega) (by decide) | exact Sz.mono (by assumption) (by decide)), (by first | assumption | omega | rfl | exact Sz.zero | exact Sz.sm (by omega) (by omega) (by decide) | exact Sz.mono (by assumption) (by decide)), (by first | assumption | omega | rfl | exact Sz.zero | exact Sz.sm (by omega) (by omega) (by decide) | exact Sz.mono (by assumption) (by decide)), (by omega), (by decide +kernel), fun dbA db0 db1 H16 s16 f16_0 hdb => ?_⟩
      refine n8 <| i_nx <| i_ret <| i_andV <| i_call <| i_cons <| i_call <| i_cons <| v6 <| i_cons <| v4 <| i_nil <| ⟨_, _, _, _, _, rfl, (same_ins (s4.trans (s15.trans s16)) f3_0), (same_ins ((k2 _ p2).trans (s3.trans (s4.trans (s15.trans s16)))) q1), (by rw [hv]; assumption), (by rw [hv]; assumption), (by rw [hv]; have := e6.lo; omega), (by rw [hv]; have := e6.hi; omega), (by rw [hv]; exact (e6.szc (by assumption) (by assumption)).mono (by decide)), (by rw [hv]; exact (e6.szn (by assumption) (by assumption)).mono (by decide)), (by rw [hv]; exact (e6.szd (by assumption) (by assumption)).mono (by decide)), (by rw [hthere]; assumption), (by rw [hthere]; assumption), (by rw [hthere]; dsimp only; omega), (by rw [hthere]; dsimp only; omega), (by rw [hthere]), (by rw [hthere]), (by decide +kernel), fun ccA cc H17 s17 f17_0 hcc => ?_⟩
      refine i_cons <| v1 <| i_cons <| v8 <| i_nil <| ⟨_, _, _, _, _, _, rfl, f17_0, (s17 _ _ f16_0), (by first | assumption | omega | rfl | exact Sz.zero | exact Sz.sm (by omega) (by omega) (by decide) | exact Sz.mono (by assumption) (by decide)), (by first | assumption | omega | rfl | exact Sz.zero | exact Sz.sm (by omega) (by omega) (by decide) | exact Sz.mono (by assumption) (by decide)), (by have q := hcc; rw [hthere, hv] at q; have e := rt_fun e4 (cd_pos (x := (⟨base, x0, x1⟩ : EN)) e0) q hdb; rw [e]; have l : Low (⟨other, db0, db1⟩ : EN) := (by rw [← e]; exact rt_low e4 e5 q); exact (nrm_low l).symm), fun H19 s19 => ?_⟩
      refine i_blV <| i_iteT <| i_call <| i_cons <| v6 <| i_cons <| v0 <| i_cons <| v3 <| i_nil <| ⟨_, _, _, _, _, _, rfl, (same_ins (s4.trans (s15.trans (s16.trans (s17.trans s19)))) f3_0), (((k1 _ p1).trans ((k2 _ p2).trans (s3.trans (s4.trans (s15.trans (s16.trans (s17.trans s19))))))) _ _ a0), (by first | assumption | omega | rfl | exact Sz.zero | exact Sz.sm (by omega) (by omega) (by decide) | exact Sz.mono (by assumption) (by decide)), (by first | assumption | omega | rfl | exact Sz.zero | exact Sz.sm (by omega) (by omega) (by decide) | exact Sz.mono (by assumption) (by decide)), (by exact hvalue), fun H21 s21 => ?_⟩
      exact k _ ((k1 _ p1).trans ((k2 _ p2).trans (s3.trans (s4.trans (s15.trans (s16.trans (s17.trans (s19.trans s21))))))))

/-! _law_refused_right -/
def sp__law_refused_right (K : PySem.W.Frag) : Sp := fun vs H Q _ => ∃ (sourceA : Addr) (base : Int) (precision : Int) (other : Int), vs = [V.ref sourceA, V.int base, V.int precision, V.int other] ∧ IsSrc H sourceA ∧ (2 ≤ base) ∧ (base ≤ 36) ∧ (3 ≤ precision) ∧ (precision ≤ 12) ∧ (2 ≤ other) ∧ (other ≤ 36) ∧ ∀  (H' : Hp), Z.Ext H H' → IsSrc H' sourceA → Q (V.bl true) H'
abbrev s__law_refused_right : Stmt := top 72
theorem sc__law_refused_right : FnScope ["source", "base", "precision", "other", "faults", "grid", "mode", "due", "bad", "bordered", "each"] ["source", "base", "precision", "other"] (defScope s__law_refused_right) := ⟨rfl, rfl, rfl, by decide +kernel, rfl, by decide +kernel, by decide +kernel⟩
theorem vis__law_refused_right : visB ["source", "base", "precision", "other", "faults", "grid", "mode", "due", "bad", "bordered", "each"] (defScope s__law_refused_right) = true := by decide +kernel
theorem gl__law_refused_right : glB ["_law_draw", "Grid", "_law_mode", "_law_bordered", "int", "_law_bad_mode", "Exact", "_law_refused", "_law_equal", "_law_digits"] (defScope s__law_refused_right) = true := by decide +kernel
theorem ok__law_refused_right {P : Program} {w : World} {K : PySem.W.Frag} {mg : Str → Option Value} {hp9 : Heap} (T : Txt P w K mg) : OkD P w K mg hp9 5 (He.fAd K ("_law_refused_right", none)) ["source", "base", "precision", "other"] [] (sp__law_refused_right K) := by
  obtain ⟨fd, F⟩ := T.d__law_refused_right
  refine ⟨fd, [], F.kp, F.bindsN (fun _ _ _ _ _ _ us hl => match us, hl with | [_, _, _, _], _ => rfl), .nil, ?_⟩
  have sc := sc__law_refused_right; have vis := vis__law_refused_right; have gls := gl__law_refused_right
  refine F.ok sc (fun vs H Q E h => ?_) (fun cdv A outer s H0 vs Q E hr h => ?_)
  · obtain ⟨sourceA, base, precision, other, rfl, _⟩ := h; rfl
  · obtain ⟨sourceA, base, precision, other, rfl, a0, e0, e1, e2, e3, e4, e5, k⟩ := h
    refine ⟨_, PSs.nox (pss_cons (ps_set (i := 4) sc.nd rfl (.inl rfl) (pe_op op_add pe_int (pcD (ok__law_draw T) (hr.mono (by decide)) gls 0 T.g__law_draw (pa_cons (pn vis 0) (pa_cons pe_int pa_nil))))) (pss_cons (ps_set (i := 5) sc.nd rfl (.inl rfl) (pcM T.mk_Grid (ok_Grid___init___kw T) (hr.mono (by decide)) gls 1 T.g_Grid (pa_cons (pn vis 3) (pa_cons (pn vis 2) pa_nil)))) (pss_cons (ps_set (i := 6) sc.nd rfl (.inl rfl) (pcD (ok__law_mode T) (hr.mono (by decide)) gls 2 T.g__law_mode (pa_cons (pn vis 0) pa_nil))) (pss_cons (ps_set (i := 7) sc.nd rfl (.inl rfl) (pe_lst (pa_cons pe_str pa_nil))) (pss_cons (ps_if (pt_cmpR op_gt (pn vis 4) pe_int (nomark _)) (pss_cons (ps_set (i := 5) sc.nd rfl (.inl rfl) (pcD (ok__law_bordered T) (hr.mono (by decide)) gls 3 T.g__law_bordered (pa_cons (pn vis 0) (pa_cons (pn vis 3) (pa_cons (pn vis 2) pa_nil))))) (pss_one (ps_set (i := 7) sc.nd rfl (.inl rfl) (pe_lst (pa_cons pe_str (pa_cons pe_str pa_nil)))))) pss_nil) (pss_cons (ps_if (pt_cmpR op_eqI (pe_op op_mod (pcT call_intI gls 4 T.b_int boot_int (pa_cons (pn vis 4) pa_nil)) pe_int) pe_int (nomark _)) (pss_cons (ps_set (i := 6) sc.nd rfl (.inl rfl) (pcD (ok__law_bad_mode T) (hr.mono (by decide)) gls 5 T.g__law_bad_mode (pa_cons (pn vis 0) pa_nil))) (pss_one (ps_set (i := 7) sc.nd rfl (.inl rfl) (pe_lst (pa_cons pe_str (pa_cons (pn vis 6) pa_nil)))))) pss_nil) (pss_cons (ps_if (pt_not (pt_val (pcD (ok__law_equal_Mss T) (hr.mono (by decide)) gls 8 T.g__law_equal (pa_cons (pcDx (CallOk.or (OkD.co (ok__law_refused_mode T) (hr.mono (by decide))) (OkD.co (ok__law_refused_grid T) (hr.mono (by decide)))) (OkD.kp (ok__law_refused_mode (P := P) (w := w) (hp9 := hp9) T)) gls 7 T.g__law_refused (pa_cons (pcM T.mk_Exact (ok_Exact___init___d0 T) (hr.mono (by decide)) gls 6 T.g_Exact (pa_cons (pn vis 1) (pa_cons pe_int pa_nil))) (pa_cons (pn vis 5) (pa_cons (pn vis 6) pa_nil)))) (pa_cons (pn vis 7) pa_nil))))) pss_never pss_nil) (pss_cons (ps_set (i := 8) sc.nd rfl (.inl rfl) (pe_ix ix_list (pe_lst (pa_cons pe_int (pa_cons pe_int (pa_cons pe_int (pa_cons (pe_op op_sub pe_int (pcD (ok__law_draw T) (hr.mono (by decide)) gls 0 T.g__law_draw (pa_cons (pn vis 0) (pa_cons pe_int pa_nil)))) (pa_cons (pe_op op_add pe_int (pcD (ok__law_draw T) (hr.mono (by decide)) gls 0 T.g__law_draw (pa_cons (pn vis 0) (pa_cons pe_int pa_nil)))) pa_nil)))))) (pcD (ok__law_draw T) (hr.mono (by decide)) gls 0 T.g__law_draw (pa_cons (pn vis 0) (pa_cons pe_int pa_nil))) (fun _ _ => rfl))) (pss_cons (ps_if (pt_not (pt_val (pcD (ok__law_equal_Msi T) (hr.mono (by decide)) gls 8 T.g__law_equal (pa_cons (pcD (ok__law_digits_base T) (hr.mono (by decide)) gls 9 T.g__law_digits (pa_cons (pcM T.mk_Grid (ok_Grid___init___kw T) (hr.mono (by decide)) gls 1 T.g_Grid (pa_cons (pn vis 1) (pa_cons (pn vis 2) pa_nil))) (pa_cons (pn vis 8) pa_nil))) (pa_cons (pe_lst (pa_cons pe_str (pa_cons (pn vis 8) pa_nil))) pa_nil))))) pss_never pss_nil) (pss_cons (ps_set (i := 9) sc.nd rfl (.inl rfl) (pcD (ok__law_bordered T) (hr.mono (by decide)) gls 3 T.g__law_bordered (pa_cons (pn vis 0) (pa_cons (pn vis 1) (pa_cons (pn vis 2) pa_nil))))) (pss_cons (ps_for PassesOwn.never rfl (pi_list (pe_lst (pa_cons (pn vis 3) (pa_cons (pn vis 8) pa_nil)))) (pg_name (i := 10) sc.nd rfl (.inl rfl)) (pss_one (ps_if (pt_not (pt_val (pcD (ok__law_equal_Mss T) (hr.mono (by decide)) gls 8 T.g__law_equal (pa_cons (pcD (ok__law_digits_grid T) (hr.mono (by decide)) gls 9 T.g__law_digits (pa_cons (pn vis 9) (pa_cons (pn vis 10) pa_nil))) (pa_cons (pe_lst (pa_cons pe_str (pa_cons pe_str pa_nil))) pa_nil))))) pss_never pss_nil))) (pss_one (ps_ret pe_bl))))))))))))), ?_⟩
    refine i_start (σ' := [some (V.ref sourceA), some (V.int base), some (V.int precision), some (V.int other), none, none, none, none, none, none, none]) rfl ?_
    refine i_seq <| i_asg <| i_op <| i_c <| i_call <| i_cons <| v0 <| i_cons <| i_c <| i_nil <| ⟨_, _, rfl, a0, (by first | assumption | omega | rfl | exact Sz.zero | exact Sz.sm (by omega) (by omega) (by decide) | exact Sz.mono (by assumption) (by decide)), (by first | assumption | omega | rfl | exact Sz.zero | exact Sz.sm (by omega) (by omega) (by decide) | exact Sz.mono (by assumption) (by decide)), fun df H1 s1 g1 hdf0 hdf1 hdf2 => ?_⟩
    refine i_I0 <| nI4 (fun faults hfaults => ?_)
    refine i_nx <| i_seq <| i_asg <| i_make <| i_cons <| v3 <| i_cons <| v2 <| i_nil <| i_madeN (fun xo2 H2 hn2 k2 i2 => ?_)
    refine ⟨xo2, _, _, none, none, rfl, i2, (by first | assumption | omega | rfl | exact Sz.zero | exact Sz.sm (by omega) (by omega) (by decide) | exact Sz.mono (by assumption) (by decide)), (by first | assumption | omega | rfl | exact Sz.zero | exact Sz.sm (by omega) (by omega) (by decide) | exact Sz.mono (by assumption) (by decide)), (by first | assumption | omega | rfl | exact Sz.zero | exact Sz.sm (by omega) (by omega) (by decide) | exact Sz.mono (by assumption) (by decide)), (by first | assumption | omega | rfl | exact Sz.zero | exact Sz.sm (by omega) (by omega) (by decide) | exact Sz.mono (by assumption) (by decide)), (by exact True.intro), fun g0 G2 p2 q2 hg0 => ⟨rfl, ?_⟩⟩
    refine n5 <| i_nx <| i_seq <| i_asg <| i_call <| i_cons <| v0 <| i_nil <| ⟨_, rfl, (same_src (k2 _ p2) g1), fun md H3 s3 g3 hmd0 hmd1 => ?_⟩
    refine n6 <| i_nx <| i_seq <| i_asg <| i_lst <| i_cons <| i_c <| i_nil <| i_kLst (of_decide_eq_true rfl) (fun p4 H4 z4 s4 f4 => ?_)
    refine n7 <| i_nx <| i_seq <| i_if <| i_test <| i_op <| v4 <| i_c <| i_I0 <| i_bl <| i_ite (fun c5 => ?_) (fun c5 => ?_)
    ·
      refine i_seq <| i_asg <| i_call <| i_cons <| v0 <| i_cons <| v3 <| i_cons <| v2 <| i_nil <| ⟨_, _, _, rfl, (same_src s4 g3), (by first | assumption | omega | rfl | exact Sz.zero | exact Sz.sm (by omega) (by omega) (by decide) | exact Sz.mono (by assumption) (by decide)), (by first | assumption | omega | rfl | exact Sz.zero | exact Sz.sm (by omega) (by omega) (by decide) | exact Sz.mono (by assumption) (by decide)), (by first | assumption | omega | rfl | exact Sz.zero | exact Sz.sm (by omega) (by omega) (by decide) | exact Sz.mono (by assumption) (by decide)), (by first | assumption | omega | rfl | exact Sz.zero | exact Sz.sm (by omega) (by omega) (by decide) | exact Sz.mono (by assumption) (by decide)), fun gbA gb H5 s5 g5 f5_0 hgb0 hgb1 hgb2 => ?_⟩
      refine n5 <| i_nx <| i_asg <| i_lst <| i_cons <| i_c <| i_cons <| i_c <| i_nil <| i_kLst (of_decide_eq_true rfl) (fun p6 H6 z6 s6 f6 => ?_)
      refine n7 <| i_nx <| i_seq <| i_if <| i_test <| i_op <| i_op <| i_cb <| i_cons <| v4 <| i_nil <| i_int <| i_c <| i_I (by show (0 : Int) < _; first | decide | assumption | omega) <| i_c <| i_I0 <| i_bl <| i_ite (fun c8 => ?_) (fun c8 => ?_)
      ·
        refine i_seq <| i_asg <| i_call <| i_cons <| v0 <| i_nil <| ⟨_, rfl, (same_src s6 g5), fun bm H7 s7 g7 hbm => ?_⟩
        refine n6 <| i_nx <| i_asg <| i_lst <| i_cons <| i_c <| i_cons <| v6 <| i_nil <| i_kLst (of_decide_eq_true rfl) (fun p8 H8 z8 s8 f8 => ?_)
        refine n7 <| i_nx <| i_seq <| i_if <| i_not <| i_tB <| i_call <| i_cons <| i_call <| i_cons <| i_make <| i_cons <| v1 <| i_cons <| i_c <| i_nil <| i_madeN (fun xo9 H9 hn9 k9 i9 => ?_)
        refine ⟨xo9, _, _, _, rfl, i9, (by first | assumption | omega | rfl | exact Sz.zero | exact Sz.sm (by omega) (by omega) (by decide) | exact Sz.mono (by assumption) (by decide)), (by first | assumption | omega | rfl | exact Sz.zero | exact Sz.sm (by omega) (by omega) (by decide) | exact Sz.mono (by assumption) (by decide)), (by first | assumption | omega | rfl | exact Sz.zero | exact Sz.sm (by omega) (by omega) (by decide) | exact Sz.mono (by assumption) (by decide)), fun r10 G9 p9 q9 hr10 => ⟨rfl, ?_⟩⟩
        refine i_cons <| v5 <| i_cons <| v6 <| i_nil <| Or.inl <| ⟨_, _, _, _, _, rfl, q9, (ext_ins ((ext_of s6).trans (s7.trans ((ext_of s8).trans (ext_of (k9 _ p9))))) f5_0), (by exact hbm), fun rfA rf0 rf1 H11 s11 f11_0 hrf0 hrf1 => ?_⟩
        refine i_cons <| v7 <| i_nil <| ⟨_, _, _, _, _, _, rfl, f11_0, (((k9 _ p9).trans s11) _ _ f8), (by exact hrf0), (by exact hrf1), fun H13 s13 => ?_⟩
        refine i_bl <| i_iteNT <| i_next <| i_nx <| i_seq <| i_asg <| i_op <| i_lst <| i_cons <| i_c <| i_cons <| i_c <| i_cons <| i_c <| i_cons <| i_op <| i_c <| i_call <| i_cons <| v0 <| i_cons <| i_c <| i_nil <| ⟨_, _, rfl, (same_src (s8.trans ((k9 _ p9).trans (s11.trans s13))) g7), (by first | assumption | omega | rfl | exact Sz.zero | exact Sz.sm (by omega) (by omega) (by decide) | exact Sz.mono (by assumption) (by decide)), (by first | assumption | omega | rfl | exact Sz.zero | exact Sz.sm (by omega) (by omega) (by decide) | exact Sz.mono (by assumption) (by decide)), fun dn H14 s14 g14 hdn0 hdn1 hdn2 => ?_⟩
        refine i_I0 <| i_cons <| i_op <| i_c <| i_call <| i_cons <| v0 <| i_cons <| i_c <| i_nil <| ⟨_, _, rfl, g14, (by first | assumption | omega | rfl | exact Sz.zero | exact Sz.sm (by omega) (by omega) (by decide) | exact Sz.mono (by assumption) (by decide)), (by first | assumption | omega | rfl | exact Sz.zero | exact Sz.sm (by omega) (by omega) (by decide) | exact Sz.mono (by assumption) (by decide)), fun dp H15 s15 g15 hdp0 hdp1 hdp2 => ?_⟩
        refine i_I0 <| i_nil <| i_kLst (of_decide_eq_true rfl) (fun p16 H16 z16 s16 f16 => ?_)
        refine i_call <| i_cons <| v0 <| i_cons <| i_c <| i_nil <| ⟨_, _, rfl, (same_src s16 g15), (by first | assumption | omega | rfl | exact Sz.zero | exact Sz.sm (by omega) (by omega) (by decide) | exact Sz.mono (by assumption) (by decide)), (by first | assumption | omega | rfl | exact Sz.zero | exact Sz.sm (by omega) (by omega) (by decide) | exact Sz.mono (by assumption) (by decide)), fun dq H17 s17 g17 hdq0 hdq1 hdq2 => ?_⟩
        refine i_ixL (SqL.of (s17 _ _ (by intro z; exact z) f16)) (at_getD (xs := [1, 37, 0, 0 - dn, 38 + dp]) hdq0 hdq1) <| nI8 (fun bad hbad => ?_)
        refine i_nx <| i_seq <| ?_
        have hbb : ¬ (2 ≤ bad ∧ bad ≤ 36) := by rw [hbad]; exact bad_at hdq0 hdq1 (by assumption) (by assumption)
        refine i_if <| i_not <| i_tB <| i_call <| i_cons <| i_call <| i_cons <| i_make <| i_cons <| v1 <| i_cons <| v2 <| i_nil <| i_madeN (fun xo18 H18 hn18 k18 i18 => ?_)
        refine ⟨xo18, _, _, none, none, rfl, i18, (by first | assumption | omega | rfl | exact Sz.zero | exact Sz.sm (by omega) (by omega) (by decide) | exact Sz.mono (by assumption) (by decide)), (by first | assumption | omega | rfl | exact Sz.zero | exact Sz.sm (by omega) (by omega) (by decide) | exact Sz.mono (by assumption) (by decide)), (by first | assumption | omega | rfl | exact Sz.zero | exact Sz.sm (by omega) (by omega) (by decide) | exact Sz.mono (by assumption) (by decide)), (by first | assumption | omega | rfl | exact Sz.zero | exact Sz.sm (by omega) (by omega) (by decide) | exact Sz.mono (by assumption) (by decide)), (by exact True.intro), fun g1 G18 p18 q18 hg1 => ⟨rfl, ?_⟩⟩
        refine i_cons <| v8 <| i_nil <| ⟨_, _, _, rfl, q18, (by rw [hg1]), (by rw [hg1]), (by exact hbb), fun ldA ld0 ld1 H19 s19 f19_0 hld0 hld1 => ?_⟩
        refine i_cons <| i_lst <| i_cons <| i_c <| i_cons <| v8 <| i_nil <| i_kLst (of_decide_eq_true rfl) (fun p20 H20 z20 s20 f20 => ?_)
        refine i_nil <| ⟨_, _, _, _, _, _, rfl, (s20 _ _ f19_0), f20, (by exact hld0), (by exact hld1), fun H22 s22 => ?_⟩
        refine i_bl <| i_iteNT <| i_next <| i_nx <| i_seq <| i_asg <| i_call <| i_cons <| v0 <| i_cons <| v1 <| i_cons <| v2 <| i_nil <| ⟨_, _, _, rfl, (same_src ((k18 _ p18).trans (s19.trans (s20.trans s22))) g17), (by first | assumption | omega | rfl | exact Sz.zero | exact Sz.sm (by omega) (by omega) (by decide) | exact Sz.mono (by assumption) (by decide)), (by first | assumption | omega | rfl | exact Sz.zero | exact Sz.sm (by omega) (by omega) (by decide) | exact Sz.mono (by assumption) (by decide)), (by first | assumption | omega | rfl | exact Sz.zero | exact Sz.sm (by omega) (by omega) (by decide) | exact Sz.mono (by assumption) (by decide)), (by first | assumption | omega | rfl | exact Sz.zero | exact Sz.sm (by omega) (by omega) (by decide) | exact Sz.mono (by assumption) (by decide)), fun boA bo H23 s23 g23 f23_0 hbo0 hbo1 hbo2 => ?_⟩
        refine n9 <| i_nx <| i_seq <| i_for <| i_lt <| i_lst <| i_cons <| v3 <| i_cons <| v8 <| i_nil <| i_kLst (of_decide_eq_true rfl) (fun p24 H24 z24 s24 f24 => ?_)
        refine i_forL (fun i σ H' => ∃ (o_each : Option V), σ = [some (V.ref sourceA), some (V.int base), some (V.int precision), some (V.int other), some (V.int faults), some (V.ref gbA), some (V.str bm), some (V.ref p8), some (V.int bad), some (V.ref boA), o_each] ∧ Same H24 H') (SqL.of f24) ?_ ?_ ?_ ?_
        ·
          exact ⟨_, rfl, (Same.refl _)⟩
        ·
          intro i σ' H'' _ hPv
          revert hPv
          rintro ⟨_, _, s25⟩
          exact (SqL.of (s25 _ _ f24))
        ·
          rintro i y σ H26 hy ⟨o_each, rfl, s26⟩
          match i, hy with
          | 0, hy =>
            have e9 := Option.some.inj hy
            subst e9
            refine n10 <| i_if <| i_not <| i_tB <| i_call <| i_cons <| i_call <| i_cons <| v9 <| i_cons <| v10 <| i_nil <| ⟨_, _, _, rfl, (same_ins (s24.trans s26) f23_0), (by exact hbo2), fun leA le0 le1 H27 s27 f27_0 hle0 hle1 => ?_⟩
            refine i_cons <| i_lst <| i_cons <| i_c <| i_cons <| i_c <| i_nil <| i_kLst (of_decide_eq_true rfl) (fun p28 H28 z28 s28 f28 => ?_)
            refine i_nil <| ⟨_, _, _, _, _, _, rfl, (s28 _ _ f27_0), f28, (by exact hle0), (by exact hle1), fun H30 s30 => ?_⟩
            refine i_bl <| i_iteNT <| i_next <| ?_
            exact ⟨_, rfl, (s26.trans (s27.trans (s28.trans s30)))⟩
          | 1, hy =>
            have e9 := Option.some.inj hy
            subst e9
            refine n10 <| i_if <| i_not <| i_tB <| i_call <| i_cons <| i_call <| i_cons <| v9 <| i_cons <| v10 <| i_nil <| ⟨_, _, _, rfl, (same_ins (s24.trans s26) f23_0), (by exact hbo2), fun leA le0 le1 H31 s31 f31_0 hle0 hle1 => ?_⟩
            refine i_cons <| i_lst <| i_cons <| i_c <| i_cons <| i_c <| i_nil <| i_kLst (of_decide_eq_true rfl) (fun p32 H32 z32 s32 f32 => ?_)
            refine i_nil <| ⟨_, _, _, _, _, _, rfl, (s32 _ _ f31_0), f32, (by exact hle0), (by exact hle1), fun H34 s34 => ?_⟩
            refine i_bl <| i_iteNT <| i_next <| ?_
            exact ⟨_, rfl, (s26.trans (s31.trans (s32.trans s34)))⟩
          | n9 + 2, hy => exact absurd hy (by simp)
        ·
          rintro σ H35 ⟨o_each, rfl, s35⟩
          refine i_nx <| i_ret <| i_c <| ?_
          exact k _ (s1.trans ((ext_of (k2 _ p2)).trans (s3.trans ((ext_of s4).trans (s5.trans ((ext_of s6).trans (s7.trans ((ext_of s8).trans ((ext_of (k9 _ p9)).trans ((ext_of s11).trans ((ext_of s13).trans (s14.trans (s15.trans ((ext_of s16).trans (s17.trans ((ext_of (k18 _ p18)).trans ((ext_of s19).trans ((ext_of s20).trans ((ext_of s22).trans (s23.trans ((ext_of s24).trans (ext_of s35)))))))))))))))))))))) (same_src (s24.trans s35) g23)
      ·
        refine i_next <| i_nx <| i_seq <| i_if <| i_not <| i_tB <| i_call <| i_cons <| i_call <| i_cons <| i_make <| i_cons <| v1 <| i_cons <| i_c <| i_nil <| i_madeN (fun xo36 H36 hn36 k36 i36 => ?_)
        refine ⟨xo36, _, _, _, rfl, i36, (by first | assumption | omega | rfl | exact Sz.zero | exact Sz.sm (by omega) (by omega) (by decide) | exact Sz.mono (by assumption) (by decide)), (by first | assumption | omega | rfl | exact Sz.zero | exact Sz.sm (by omega) (by omega) (by decide) | exact Sz.mono (by assumption) (by decide)), (by first | assumption | omega | rfl | exact Sz.zero | exact Sz.sm (by omega) (by omega) (by decide) | exact Sz.mono (by assumption) (by decide)), fun r37 G36 p36 q36 hr37 => ⟨rfl, ?_⟩⟩
        refine i_cons <| v5 <| i_cons <| v6 <| i_nil <| Or.inr <| ⟨_, _, _, _, _, rfl, q36, (same_ins (s6.trans (k36 _ p36)) f5_0), (by exact hmd0), (by exact hgb2), fun rfA rf0 rf1 H38 s38 f38_0 hrf0 hrf1 => ?_⟩
        refine i_cons <| v7 <| i_nil <| ⟨_, _, _, _, _, _, rfl, f38_0, (((k36 _ p36).trans s38) _ _ f6), (by exact hrf0), (by exact hrf1), fun H40 s40 => ?_⟩
        refine i_bl <| i_iteNT <| i_next <| i_nx <| i_seq <| i_asg <| i_op <| i_lst <| i_cons <| i_c <| i_cons <| i_c <| i_cons <| i_c <| i_cons <| i_op <| i_c <| i_call <| i_cons <| v0 <| i_cons <| i_c <| i_nil <| ⟨_, _, rfl, (same_src (s6.trans ((k36 _ p36).trans (s38.trans s40))) g5), (by first | assumption | omega | rfl | exact Sz.zero | exact Sz.sm (by omega) (by omega) (by decide) | exact Sz.mono (by assumption) (by decide)), (by first | assumption | omega | rfl | exact Sz.zero | exact Sz.sm (by omega) (by omega) (by decide) | exact Sz.mono (by assumption) (by decide)), fun dn H41 s41 g41 hdn0 hdn1 hdn2 => ?_⟩
        refine i_I0 <| i_cons <| i_op <| i_c <| i_call <| i_cons <| v0 <| i_cons <| i_c <| i_nil <| ⟨_, _, rfl, g41, (by first | assumption | omega | rfl | exact Sz.zero | exact Sz.sm (by omega) (by omega) (by decide) | exact Sz.mono (by assumption) (by decide)), (by first | assumption | omega | rfl | exact Sz.zero | exact Sz.sm (by omega) (by omega) (by decide) | exact Sz.mono (by assumption) (by decide)), fun dp H42 s42 g42 hdp0 hdp1 hdp2 => ?_⟩
        refine i_I0 <| i_nil <| i_kLst (of_decide_eq_true rfl) (fun p43 H43 z43 s43 f43 => ?_)
        refine i_call <| i_cons <| v0 <| i_cons <| i_c <| i_nil <| ⟨_, _, rfl, (same_src s43 g42), (by first | assumption | omega | rfl | exact Sz.zero | exact Sz.sm (by omega) (by omega) (by decide) | exact Sz.mono (by assumption) (by decide)), (by first | assumption | omega | rfl | exact Sz.zero | exact Sz.sm (by omega) (by omega) (by decide) | exact Sz.mono (by assumption) (by decide)), fun dq H44 s44 g44 hdq0 hdq1 hdq2 => ?_⟩
        refine i_ixL (SqL.of (s44 _ _ (by intro z; exact z) f43)) (at_getD (xs := [1, 37, 0, 0 - dn, 38 + dp]) hdq0 hdq1) <| nI8 (fun bad hbad => ?_)
        refine i_nx <| i_seq <| ?_
        have hbb : ¬ (2 ≤ bad ∧ bad ≤ 36) := by rw [hbad]; exact bad_at hdq0 hdq1 (by assumption) (by assumption)
        refine i_if <| i_not <| i_tB <| i_call <| i_cons <| i_call <| i_cons <| i_make <| i_cons <| v1 <| i_cons <| v2 <| i_nil <| i_madeN (fun xo45 H45 hn45 k45 i45 => ?_)
        refine ⟨xo45, _, _, none, none, rfl, i45, (by first | assumption | omega | rfl | exact Sz.zero | exact Sz.sm (by omega) (by omega) (by decide) | exact Sz.mono (by assumption) (by decide)), (by first | assumption | omega | rfl | exact Sz.zero | exact Sz.sm (by omega) (by omega) (by decide) | exact Sz.mono (by assumption) (by decide)), (by first | assumption | omega | rfl | exact Sz.zero | exact Sz.sm (by omega) (by omega) (by decide) | exact Sz.mono (by assumption) (by decide)), (by first | assumption | omega | rfl | exact Sz.zero | exact Sz.sm (by omega) (by omega) (by decide) | exact Sz.mono (by assumption) (by decide)), (by exact True.intro), fun g1 G45 p45 q45 hg1 => ⟨rfl, ?_⟩⟩
        refine i_cons <| v8 <| i_nil <| ⟨_, _, _, rfl, q45, (by rw [hg1]), (by rw [hg1]), (by exact hbb), fun ldA ld0 ld1 H46 s46 f46_0 hld0 hld1 => ?_⟩
        refine i_cons <| i_lst <| i_cons <| i_c <| i_cons <| v8 <| i_nil <| i_kLst (of_decide_eq_true rfl) (fun p47 H47 z47 s47 f47 => ?_)
        refine i_nil <| ⟨_, _, _, _, _, _, rfl, (s47 _ _ f46_0), f47, (by exact hld0), (by exact hld1), fun H49 s49 => ?_⟩
        refine i_bl <| i_iteNT <| i_next <| i_nx <| i_seq <| i_asg <| i_call <| i_cons <| v0 <| i_cons <| v1 <| i_cons <| v2 <| i_nil <| ⟨_, _, _, rfl, (same_src ((k45 _ p45).trans (s46.trans (s47.trans s49))) g44), (by first | assumption | omega | rfl | exact Sz.zero | exact Sz.sm (by omega) (by omega) (by decide) | exact Sz.mono (by assumption) (by decide)), (by first | assumption | omega | rfl | exact Sz.zero | exact Sz.sm (by omega) (by omega) (by decide) | exact Sz.mono (by assumption) (by decide)), (by first | assumption | omega | rfl | exact Sz.zero | exact Sz.sm (by omega) (by omega) (by decide) | exact Sz.mono (by assumption) (by decide)), (by first | assumption | omega | rfl | exact Sz.zero | exact Sz.sm (by omega) (by omega) (by decide) | exact Sz.mono (by assumption) (by decide)), fun boA bo H50 s50 g50 f50_0 hbo0 hbo1 hbo2 => ?_⟩
        refine n9 <| i_nx <| i_seq <| i_for <| i_lt <| i_lst <| i_cons <| v3 <| i_cons <| v8 <| i_nil <| i_kLst (of_decide_eq_true rfl) (fun p51 H51 z51 s51 f51 => ?_)
        refine i_forL (fun i σ H' => ∃ (o_each : Option V), σ = [some (V.ref sourceA), some (V.int base), some (V.int precision), some (V.int other), some (V.int faults), some (V.ref gbA), some (V.str md), some (V.ref p6), some (V.int bad), some (V.ref boA), o_each] ∧ Same H51 H') (SqL.of f51) ?_ ?_ ?_ ?_
        ·
          exact ⟨_, rfl, (Same.refl _)⟩
        ·
          intro i σ' H'' _ hPv
          revert hPv
          rintro ⟨_, _, s52⟩
          exact (SqL.of (s52 _ _ f51))
        ·
          rintro i y σ H53 hy ⟨o_each, rfl, s53⟩
          match i, hy with
          | 0, hy =>
            have e9 := Option.some.inj hy
            subst e9
            refine n10 <| i_if <| i_not <| i_tB <| i_call <| i_cons <| i_call <| i_cons <| v9 <| i_cons <| v10 <| i_nil <| ⟨_, _, _, rfl, (same_ins (s51.trans s53) f50_0), (by exact hbo2), fun leA le0 le1 H54 s54 f54_0 hle0 hle1 => ?_⟩
            refine i_cons <| i_lst <| i_cons <| i_c <| i_cons <| i_c <| i_nil <| i_kLst (of_decide_eq_true rfl) (fun p55 H55 z55 s55 f55 => ?_)
            refine i_nil <| ⟨_, _, _, _, _, _, rfl, (s55 _ _ f54_0), f55, (by exact hle0), (by exact hle1), fun H57 s57 => ?_⟩
            refine i_bl <| i_iteNT <| i_next <| ?_
            exact ⟨_, rfl, (s53.trans (s54.trans (s55.trans s57)))⟩
          | 1, hy =>
            have e9 := Option.some.inj hy
            subst e9
            refine n10 <| i_if <| i_not <| i_tB <| i_call <| i_cons <| i_call <| i_cons <| v9 <| i_cons <| v10 <| i_nil <| ⟨_, _, _, rfl, (same_ins (s51.trans s53) f50_0), (by exact hbo2), fun leA le0 le1 H58 s58 f58_0 hle0 hle1 => ?_⟩
            refine i_cons <| i_lst <| i_cons <| i_c <| i_cons <| i_c <| i_nil <| i_kLst (of_decide_eq_true rfl) (fun p59 H59 z59 s59 f59 => ?_)
            refine i_nil <| ⟨_, _, _, _, _, _, rfl, (s59 _ _ f58_0), f59, (by exact hle0), (by exact hle1), fun H61 s61 => ?_⟩
            refine i_bl <| i_iteNT <| i_next <| ?_
            exact ⟨_, rfl, (s53.trans (s58.trans (s59.trans s61)))⟩
          | n9 + 2, hy => exact absurd hy (by simp)
        ·
          rintro σ H62 ⟨o_each, rfl, s62⟩
          refine i_nx <| i_ret <| i_c <| ?_
          exact k _ (s1.trans ((ext_of (k2 _ p2)).trans (s3.trans ((ext_of s4).trans (s5.trans ((ext_of s6).trans ((ext_of (k36 _ p36)).trans ((ext_of s38).trans ((ext_of s40).trans (s41.trans (s42.trans ((ext_of s43).trans (s44.trans ((ext_of (k45 _ p45)).trans ((ext_of s46).trans ((ext_of s47).trans ((ext_of s49).trans (s50.trans ((ext_of s51).trans (ext_of s62)))))))))))))))))))) (same_src (s51.trans s62) g50)
    ·
      refine i_next <| i_nx <| i_seq <| i_if <| i_test <| i_op <| i_op <| i_cb <| i_cons <| v4 <| i_nil <| i_int <| i_c <| i_I (by show (0 : Int) < _; first | decide | assumption | omega) <| i_c <| i_I0 <| i_bl <| i_ite (fun c8' => ?_) (fun c8' => ?_)
      ·
        refine i_seq <| i_asg <| i_call <| i_cons <| v0 <| i_nil <| ⟨_, rfl, (same_src s4 g3), fun bm H63 s63 g63 hbm => ?_⟩
        refine n6 <| i_nx <| i_asg <| i_lst <| i_cons <| i_c <| i_cons <| v6 <| i_nil <| i_kLst (of_decide_eq_true rfl) (fun p64 H64 z64 s64 f64 => ?_)
        refine n7 <| i_nx <| i_seq <| i_if <| i_not <| i_tB <| i_call <| i_cons <| i_call <| i_cons <| i_make <| i_cons <| v1 <| i_cons <| i_c <| i_nil <| i_madeN (fun xo65 H65 hn65 k65 i65 => ?_)
        refine ⟨xo65, _, _, _, rfl, i65, (by first | assumption | omega | rfl | exact Sz.zero | exact Sz.sm (by omega) (by omega) (by decide) | exact Sz.mono (by assumption) (by decide)), (by first | assumption | omega | rfl | exact Sz.zero | exact Sz.sm (by omega) (by omega) (by decide) | exact Sz.mono (by assumption) (by decide)), (by first | assumption | omega | rfl | exact Sz.zero | exact Sz.sm (by omega) (by omega) (by decide) | exact Sz.mono (by assumption) (by decide)), fun r66 G65 p65 q65 hr66 => ⟨rfl, ?_⟩⟩
        refine i_cons <| v5 <| i_cons <| v6 <| i_nil <| Or.inl <| ⟨_, _, _, _, _, rfl, q65, (ext_ins (s3.trans ((ext_of s4).trans (s63.trans ((ext_of s64).trans (ext_of (k65 _ p65)))))) q2), (by exact hbm), fun rfA rf0 rf1 H67 s67 f67_0 hrf0 hrf1 => ?_⟩
        refine i_cons <| v7 <| i_nil <| ⟨_, _, _, _, _, _, rfl, f67_0, (((k65 _ p65).trans s67) _ _ f64), (by exact hrf0), (by exact hrf1), fun H69 s69 => ?_⟩
        refine i_bl <| i_iteNT <| i_next <| i_nx <| i_seq <| i_asg <| i_op <| i_lst <| i_cons <| i_c <| i_cons <| i_c <| i_cons <| i_c <| i_cons <| i_op <| i_c <| i_call <| i_cons <| v0 <| i_cons <| i_c <| i_nil <| ⟨_, _, rfl, (same_src (s64.trans ((k65 _ p65).trans (s67.trans s69))) g63), (by first | assumption | omega | rfl | exact Sz.zero | exact Sz.sm (by omega) (by omega) (by decide) | exact Sz.mono (by assumption) (by decide)), (by first | assumption | omega | rfl | exact Sz.zero | exact Sz.sm (by omega) (by omega) (by decide) | exact Sz.mono (by assumption) (by decide)), fun dn H70 s70 g70 hdn0 hdn1 hdn2 => ?_⟩
        refine i_I0 <| i_cons <| i_op <| i_c <| i_call <| i_cons <| v0 <| i_cons <| i_c <| i_nil <| ⟨_, _, rfl, g70, (by first | assumption | omega | rfl | exact Sz.zero | exact Sz.sm (by omega) (by omega) (by decide) | exact Sz.mono (by assumption) (by decide)), (by first | assumption | omega | rfl | exact Sz.zero | exact Sz.sm (by omega) (by omega) (by decide) | exact Sz.mono (by assumption) (by decide)), fun dp H71 s71 g71 hdp0 hdp1 hdp2 => ?_⟩
        refine i_I0 <| i_nil <| i_kLst (of_decide_eq_true rfl) (fun p72 H72 z72 s72 f72 => ?_)
        refine i_call <| i_cons <| v0 <| i_cons <| i_c <| i_nil <| ⟨_, _, rfl, (same_src s72 g71), (by first | assumption | omega | rfl | exact Sz.zero | exact Sz.sm (by omega) (by omega) (by decide) | exact Sz.mono (by assumption) (by decide)), (by first | assumption | omega | rfl | exact Sz.zero | exact Sz.sm (by omega) (by omega) (by decide) | exact Sz.mono (by assumption) (by decide)), fun dq H73 s73 g73 hdq0 hdq1 hdq2 => ?_⟩
        refine i_ixL (SqL.of (s73 _ _ (by intro z; exact z) f72)) (at_getD (xs := [1, 37, 0, 0 - dn, 38 + dp]) hdq0 hdq1) <| nI8 (fun bad hbad => ?_)
        refine i_nx <| i_seq <| ?_
        have hbb : ¬ (2 ≤ bad ∧ bad ≤ 36) := by rw [hbad]; exact bad_at hdq0 hdq1 (by assumption) (by assumption)
        refine i_if <| i_not <| i_tB <| i_call <| i_cons <| i_call <| i_cons <| i_make <| i_cons <| v1 <| i_cons <| v2 <| i_nil <| i_madeN (fun xo74 H74 hn74 k74 i74 => ?_)
        refine ⟨xo74, _, _, none, none, rfl, i74, (by first | assumption | omega | rfl | exact Sz.zero | exact Sz.sm (by omega) (by omega) (by decide) | exact Sz.mono (by assumption) (by decide)), (by first | assumption | omega | rfl | exact Sz.zero | exact Sz.sm (by omega) (by omega) (by decide) | exact Sz.mono (by assumption) (by decide)), (by first | assumption | omega | rfl | exact Sz.zero | exact Sz.sm (by omega) (by omega) (by decide) | exact Sz.mono (by assumption) (by decide)), (by first | assumption | omega | rfl | exact Sz.zero | exact Sz.sm (by omega) (by omega) (by decide) | exact Sz.mono (by assumption) (by decide)), (by exact True.intro), fun g1 G74 p74 q74 hg1 => ⟨rfl, ?_⟩⟩
        refine i_cons <| v8 <| i_nil <| ⟨_, _, _, rfl, q74, (by rw [hg1]), (by rw [hg1]), (by exact hbb), fun ldA ld0 ld1 H75 s75 f75_0 hld0 hld1 => ?_⟩
        refine i_cons <| i_lst <| i_cons <| i_c <| i_cons <| v8 <| i_nil <| i_kLst (of_decide_eq_true rfl) (fun p76 H76 z76 s76 f76 => ?_)
        refine i_nil <| ⟨_, _, _, _, _, _, rfl, (s76 _ _ f75_0), f76, (by exact hld0), (by exact hld1), fun H78 s78 => ?_⟩
        refine i_bl <| i_iteNT <| i_next <| i_nx <| i_seq <| i_asg <| i_call <| i_cons <| v0 <| i_cons <| v1 <| i_cons <| v2 <| i_nil <| ⟨_, _, _, rfl, (same_src ((k74 _ p74).trans (s75.trans (s76.trans s78))) g73), (by first | assumption | omega | rfl | exact Sz.zero | exact Sz.sm (by omega) (by omega) (by decide) | exact Sz.mono (by assumption) (by decide)), (by first | assumption | omega | rfl | exact Sz.zero | exact Sz.sm (by omega) (by omega) (by decide) | exact Sz.mono (by assumption) (by decide)), (by first | assumption | omega | rfl | exact Sz.zero | exact Sz.sm (by omega) (by omega) (by decide) | exact Sz.mono (by assumption) (by decide)), (by first | assumption | omega | rfl | exact Sz.zero | exact Sz.sm (by omega) (by omega) (by decide) | exact Sz.mono (by assumption) (by decide)), fun boA bo H79 s79 g79 f79_0 hbo0 hbo1 hbo2 => ?_⟩
        refine n9 <| i_nx <| i_seq <| i_for <| i_lt <| i_lst <| i_cons <| v3 <| i_cons <| v8 <| i_nil <| i_kLst (of_decide_eq_true rfl) (fun p80 H80 z80 s80 f80 => ?_)
        refine i_forL (fun i σ H' => ∃ (o_each : Option V), σ = [some (V.ref sourceA), some (V.int base), some (V.int precision), some (V.int other), some (V.int faults), some (V.ref xo2), some (V.str bm), some (V.ref p64), some (V.int bad), some (V.ref boA), o_each] ∧ Same H80 H') (SqL.of f80) ?_ ?_ ?_ ?_
        ·
          exact ⟨_, rfl, (Same.refl _)⟩
        ·
          intro i σ' H'' _ hPv
          revert hPv
          rintro ⟨_, _, s81⟩
          exact (SqL.of (s81 _ _ f80))
        ·
          rintro i y σ H82 hy ⟨o_each, rfl, s82⟩
          match i, hy with
          | 0, hy =>
            have e9 := Option.some.inj hy
            subst e9
            refine n10 <| i_if <| i_not <| i_tB <| i_call <| i_cons <| i_call <| i_cons <| v9 <| i_cons <| v10 <| i_nil <| ⟨_, _, _, rfl, (same_ins (s80.trans s82) f79_0), (by exact hbo2), fun leA le0 le1 H83 s83 f83_0 hle0 hle1 => ?_⟩
            refine i_cons <| i_lst <| i_cons <| i_c <| i_cons <| i_c <| i_nil <| i_kLst (of_decide_eq_true rfl) (fun p84 H84 z84 s84 f84 => ?_)
            refine i_nil <| ⟨_, _, _, _, _, _, rfl, (s84 _ _ f83_0), f84, (by exact hle0), (by exact hle1), fun H86 s86 => ?_⟩
            refine i_bl <| i_iteNT <| i_next <| ?_
            exact ⟨_, rfl, (s82.trans (s83.trans (s84.trans s86)))⟩
          | 1, hy =>
            have e9 := Option.some.inj hy
            subst e9
            refine n10 <| i_if <| i_not <| i_tB <| i_call <| i_cons <| i_call <| i_cons <| v9 <| i_cons <| v10 <| i_nil <| ⟨_, _, _, rfl, (same_ins (s80.trans s82) f79_0), (by exact hbo2), fun leA le0 le1 H87 s87 f87_0 hle0 hle1 => ?_⟩
            refine i_cons <| i_lst <| i_cons <| i_c <| i_cons <| i_c <| i_nil <| i_kLst (of_decide_eq_true rfl) (fun p88 H88 z88 s88 f88 => ?_)
            refine i_nil <| ⟨_, _, _, _, _, _, rfl, (s88 _ _ f87_0), f88, (by exact hle0), (by exact hle1), fun H90 s90 => ?_⟩
            refine i_bl <| i_iteNT <| i_next <| ?_
            exact ⟨_, rfl, (s82.trans (s87.trans (s88.trans s90)))⟩
          | n9 + 2, hy => exact absurd hy (by simp)
        ·
          rintro σ H91 ⟨o_each, rfl, s91⟩
          refine i_nx <| i_ret <| i_c <| ?_
          exact k _ (s1.trans ((ext_of (k2 _ p2)).trans (s3.trans ((ext_of s4).trans (s63.trans ((ext_of s64).trans ((ext_of (k65 _ p65)).trans ((ext_of s67).trans ((ext_of s69).trans (s70.trans (s71.trans ((ext_of s72).trans (s73.trans ((ext_of (k74 _ p74)).trans ((ext_of s75).trans ((ext_of s76).trans ((ext_of s78).trans (s79.trans ((ext_of s80).trans (ext_of s91)))))))))))))))))))) (same_src (s80.trans s91) g79)
      ·
        refine i_next <| i_nx <| i_seq <| ?_
        exfalso; omega

/-! law -/
def sp_law (K : PySem.W.Frag) : Sp := fun vs H Q _ => ∃ (scriptA : Addr) (script : List Int), vs = [V.ref scriptA] ∧ SqL K H scriptA (script.map V.int) ∧ (script.length ≤ 63) ∧ ∀  (H' : Hp), Q (V.bl true) H'
abbrev s_law : Stmt := top 73
theorem sc_law : FnScope ["script", "source", "base", "precision", "other", "enough", "digits", "modes", "xs", "x", "long", "free"] ["script"] (defScope s_law) := ⟨rfl, rfl, rfl, by decide +kernel, rfl, by decide +kernel, by decide +kernel⟩
theorem vis_law : visB ["script", "source", "base", "precision", "other", "enough", "digits", "modes", "xs", "x", "long", "free"] (defScope s_law) = true := by decide +kernel
theorem gl_law : glB ["_law_source", "_law_base", "_law_precision", "_law_draw", "int", "_law_enough", "Grid", "_law_digits", "_law_equal", "_law_nearest", "_law_numbers", "_law_back_right", "_law_full", "_law_power", "_law_small", "_law_lowest", "_law_value_right", "_law_refused_right"] (defScope s_law) = true := by decide +kernel
theorem ok_law {P : Program} {w : World} {K : PySem.W.Frag} {mg : Str → Option Value} (T : Txt P w K mg) : ∃ fd : FuncData, (∀ (s : Shared) (v : Value), BindsTo s fd ⟨[v], []⟩ [("script", v)]) ∧ ∀ hp9 : Heap, FnOk P w K mg hp9 (L2N.CX P w) 8 (He.fAd K ("law", none)) fd ["script"] (sp_law K) := by
  obtain ⟨fd, F⟩ := T.d_law
  refine ⟨fd, fun s v => FunD.bindsA (ps := ["script"]) F (fun _ _ _ _ _ _ us hl => match us, hl with | [_], _ => rfl) s [v] rfl, fun hp9 => ?_⟩
  have sc := sc_law; have vis := vis_law; have gls := gl_law
  refine F.ok sc (fun vs H Q E h => ?_) (fun cdv A outer s H0 vs Q E hr h => ?_)
  · obtain ⟨scriptA, script, rfl, _⟩ := h; rfl
  · obtain ⟨scriptA, script, rfl, a0, e0, k⟩ := h
    refine ⟨_, PSs.nox (pss_cons (ps_set (i := 1) sc.nd rfl (.inl rfl) (pcD (ok__law_source T) (hr.mono (by decide)) gls 0 T.g__law_source (pa_cons (pn vis 0) pa_nil))) (pss_cons (ps_set (i := 2) sc.nd rfl (.inl rfl) (pcD (ok__law_base T) (hr.mono (by decide)) gls 1 T.g__law_base (pa_cons (pn vis 1) pa_nil))) (pss_cons (ps_set (i := 3) sc.nd rfl (.inl rfl) (pcD (ok__law_precision T) (hr.mono (by decide)) gls 2 T.g__law_precision (pa_cons (pn vis 1) (pa_cons pe_int pa_nil)))) (pss_cons (ps_set (i := 4) sc.nd rfl (.inl rfl) (pcD (ok__law_base T) (hr.mono (by decide)) gls 1 T.g__law_base (pa_cons (pn vis 1) pa_nil))) (C8.pss_cut (ps_if (PW.pt (pw_and (pt_cmpR op_eqI (pn vis 4) (pn vis 2) (nomark _)) (pw_and1 (pt_cmpR op_gt (pcD (ok__law_draw T) (hr.mono (by decide)) gls 3 T.g__law_draw (pa_cons (pn vis 1) (pa_cons pe_int pa_nil))) pe_int (nomark _))))) (pss_one (ps_set (i := 4) sc.nd rfl (.inl rfl) (pe_op op_add pe_int (pe_op op_mod (pcT call_intI gls 4 T.b_int boot_int (pa_cons (pe_op op_sub (pn vis 2) pe_int) pa_nil)) pe_int)))) pss_nil) (pss_cons (ps_set (i := 5) sc.nd rfl (.inl rfl) (pcD (ok__law_enough T) (hr.mono (by decide)) gls 5 T.g__law_enough (pa_cons (pn vis 2) (pa_cons (pn vis 3) (pa_cons (pn vis 4) pa_nil))))) (pss_cons (ps_if (pt_not (pt_val (pcD (ok__law_equal_Msi T) (hr.mono (by decide)) gls 8 T.g__law_equal (pa_cons (pcD (ok__law_digits_told T) (hr.mono (by decide)) gls 7 T.g__law_digits (pa_cons (pcM T.mk_Grid (ok_Grid___init___kw T) (hr.mono (by decide)) gls 6 T.g_Grid (pa_cons (pn vis 2) (pa_cons (pn vis 3) pa_nil))) (pa_cons (pn vis 4) pa_nil))) (pa_cons (pe_lst (pa_cons pe_str (pa_cons (pn vis 5) pa_nil))) pa_nil))))) pss_never pss_nil) (pss_cons (ps_set (i := 6) sc.nd rfl (.inl rfl) (pe_op op_add (pn vis 5) (pcD (ok__law_draw T) (hr.mono (by decide)) gls 3 T.g__law_draw (pa_cons (pn vis 1) (pa_cons pe_int pa_nil))))) (C8.pss_cut (ps_if (pt_cmpR op_lt (pn vis 6) pe_int (nomark _)) (pss_one (ps_set (i := 6) sc.nd rfl (.inl rfl) pe_int)) pss_nil) (pss_cons (ps_set (i := 7) sc.nd rfl (.inl rfl) (pe_lst (pa_cons (pcD (ok__law_nearest T) (hr.mono (by decide)) gls 9 T.g__law_nearest (pa_cons (pn vis 1) pa_nil)) (pa_cons (pcD (ok__law_nearest T) (hr.mono (by decide)) gls 9 T.g__law_nearest (pa_cons (pn vis 1) pa_nil)) pa_nil)))) (pss_cons (ps_set (i := 8) sc.nd rfl (.inl rfl) (pcD (ok__law_numbers T) (hr.mono (by decide)) gls 10 T.g__law_numbers (pa_cons (pn vis 1) (pa_cons (pn vis 2) (pa_cons (pn vis 3) pa_nil))))) (pss_cons (ps_for PassesOwn.never rfl (pi_list (pn vis 8)) (pg_name (i := 9) sc.nd rfl (.inl rfl)) (pss_one (ps_if (pt_not (pt_val (pcD (ok__law_back_right T) (hr.mono (by decide)) gls 11 T.g__law_back_right (pa_cons (pn vis 2) (pa_cons (pn vis 3) (pa_cons (pn vis 4) (pa_cons (pn vis 6) (pa_cons (pn vis 9) (pa_cons (pn vis 7) pa_nil))))))))) pss_never pss_nil))) (pss_cons (ps_set (i := 10) sc.nd rfl (.inl rfl) (pe_op op_mulX (pcD (ok__law_full_m T) (hr.mono (by decide)) gls 12 T.g__law_full (pa_cons (pn vis 1) (pa_cons (pn vis 2) (pa_cons (pn vis 3) pa_nil)))) (pcD (ok__law_power T) (hr.mono (by decide)) gls 13 T.g__law_power (pa_cons (pn vis 2) (pa_cons (pcD (ok__law_draw T) (hr.mono (by decide)) gls 3 T.g__law_draw (pa_cons (pn vis 1) (pa_cons (pe_op op_add (pe_op op_mul pe_int (pn vis 3)) pe_int) pa_nil))) pa_nil))))) (pss_cons (ps_set (i := 11) sc.nd rfl (.inl rfl) (pcD (ok__law_lowest T) (hr.mono (by decide)) gls 15 T.g__law_lowest (pa_cons (pn vis 2) (pa_cons (pe_op op_mulX (pe_op op_add (pn vis 10) (pcD (ok__law_draw T) (hr.mono (by decide)) gls 3 T.g__law_draw (pa_cons (pn vis 1) (pa_cons pe_int pa_nil)))) (pe_ix ix_tup (pe_ix ix_list (pn vis 8) pe_int (fun _ _ => rfl)) pe_int (fun _ _ => rfl))) (pa_cons (pcD (ok__law_small T) (hr.mono (by decide)) gls 14 T.g__law_small (pa_cons (pn vis 1) pa_nil)) pa_nil))))) (pss_cons (ps_for PassesOwn.never rfl (pi_list (pe_lst (pa_cons (pn vis 11) (pa_cons (pe_ix ix_list (pn vis 8) pe_int (fun _ _ => rfl)) pa_nil)))) (pg_name (i := 9) sc.nd rfl (.inl rfl)) (pss_one (ps_if (pt_not (pt_val (pcD (ok__law_value_right T) (hr.mono (by decide)) gls 16 T.g__law_value_right (pa_cons (pn vis 2) (pa_cons (pn vis 4) (pa_cons (pn vis 3) (pa_cons (pn vis 9) pa_nil))))))) pss_never pss_nil))) (pss_one (ps_ret (pcD (ok__law_refused_right T) (hr.mono (by decide)) gls 17 T.g__law_refused_right (pa_cons (pn vis 1) (pa_cons (pn vis 2) (pa_cons (pn vis 3) (pa_cons (pn vis 4) pa_nil)))))))))))))))))))))), ?_⟩
    refine i_start (σ' := [some (V.ref scriptA), none, none, none, none, none, none, none, none, none, none, none]) rfl ?_
    refine i_seq <| i_asg <| i_call <| i_cons <| v0 <| i_nil <| ⟨_, _, rfl, a0, (by first | assumption | omega | rfl | exact Sz.zero | exact Sz.sm (by omega) (by omega) (by decide) | exact Sz.mono (by assumption) (by decide)), fun sourceA H1 s1 f1_0 => ?_⟩
    refine n1 <| i_nx <| i_seq <| i_asg <| i_call <| i_cons <| v1 <| i_nil <| ⟨_, rfl, f1_0, fun base H2 s2 g2 hbase0 hbase1 => ?_⟩
    refine n2 <| i_nx <| i_seq <| i_asg <| i_call <| i_cons <| v1 <| i_cons <| i_c <| i_nil <| ⟨_, _, rfl, g2, (by first | assumption | omega | rfl | exact Sz.zero | exact Sz.sm (by omega) (by omega) (by decide) | exact Sz.mono (by assumption) (by decide)), (by first | assumption | omega | rfl | exact Sz.zero | exact Sz.sm (by omega) (by omega) (by decide) | exact Sz.mono (by assumption) (by decide)), fun precision H3 s3 g3 hprecision0 hprecision1 => ?_⟩
    refine n3 <| i_nx <| i_seq <| i_asg <| i_call <| i_cons <| v1 <| i_nil <| ⟨_, rfl, g3, fun ob H4 s4 g4 hob0 hob1 => ?_⟩
    refine n4 <| i_nx <| ?_
    refine i_cut (fun σ H' => ∃ (oc : Int), σ = [some (V.ref scriptA), some (V.ref sourceA), some (V.int base), some (V.int precision), some (V.int oc), none, none, none, none, none, none, none] ∧ Z.Ext H4 H' ∧ IsSrc H' sourceA ∧ (2 ≤ oc) ∧ (oc ≤ 36)) ?_ ?_
    ·
      refine i_if <| i_and <| i_test <| i_op <| v4 <| v2 <| i_I0 <| i_bl <| i_ite (fun c5 => ?_) (fun c5 => ?_)
      ·
        refine i_test <| i_op <| i_call <| i_cons <| v1 <| i_cons <| i_c <| i_nil <| ⟨_, _, rfl, g4, (by first | assumption | omega | rfl | exact Sz.zero | exact Sz.sm (by omega) (by omega) (by decide) | exact Sz.mono (by assumption) (by decide)), (by first | assumption | omega | rfl | exact Sz.zero | exact Sz.sm (by omega) (by omega) (by decide) | exact Sz.mono (by assumption) (by decide)), fun d4 H5 s5 g5 hd40 hd41 hd42 => ?_⟩
        refine i_c <| i_I0 <| i_bl <| i_ite (fun c5' => ?_) (fun c5' => ?_)
        ·
          refine i_asg <| i_op <| i_c <| i_op <| i_cb <| i_cons <| i_op <| v2 <| i_c <| i_I0 <| i_nil <| i_int <| i_c <| i_I (by show (0 : Int) < _; first | decide | assumption | omega) <| i_I0 <| nI4 (fun other hother => ?_)
          exact ⟨_, rfl, s5, g5, (by first | rfl | assumption | omega), (by first | rfl | assumption | omega)⟩
        ·
          refine i_next <| ?_
          exact ⟨_, rfl, s5, g5, (by first | rfl | assumption | omega), (by first | rfl | assumption | omega)⟩
      ·
        refine i_iteF <| i_next <| ?_
        exact ⟨_, rfl, (Z.Ext.refl _), g4, (by first | rfl | assumption | omega), (by first | rfl | assumption | omega)⟩
    ·
      rintro σ H6 ⟨oc, rfl, s6, g6, j0, j1⟩
      refine i_seq <| i_asg <| i_call <| i_cons <| v2 <| i_cons <| v3 <| i_cons <| v4 <| i_nil <| ⟨_, _, _, rfl, (by first | assumption | omega | rfl | exact Sz.zero | exact Sz.sm (by omega) (by omega) (by decide) | exact Sz.mono (by assumption) (by decide)), (by first | assumption | omega | rfl | exact Sz.zero | exact Sz.sm (by omega) (by omega) (by decide) | exact Sz.mono (by assumption) (by decide)), (by first | assumption | omega | rfl | exact Sz.zero | exact Sz.sm (by omega) (by omega) (by decide) | exact Sz.mono (by assumption) (by decide)), (by first | assumption | omega | rfl | exact Sz.zero | exact Sz.sm (by omega) (by omega) (by decide) | exact Sz.mono (by assumption) (by decide)), (by first | assumption | omega | rfl | exact Sz.zero | exact Sz.sm (by omega) (by omega) (by decide) | exact Sz.mono (by assumption) (by decide)), (by first | assumption | omega | rfl | exact Sz.zero | exact Sz.sm (by omega) (by omega) (by decide) | exact Sz.mono (by assumption) (by decide)), fun en H7 s7 hen => ?_⟩
      refine n5 <| i_nx <| i_seq <| ?_
      obtain ⟨n1, n2, n3, n4⟩ := enough_ok hbase0 hbase1 j0 j1 ⟨hprecision0, hprecision1⟩ hen
      refine i_if <| i_not <| i_tB <| i_call <| i_cons <| i_call <| i_cons <| i_make <| i_cons <| v2 <| i_cons <| v3 <| i_nil <| i_madeN (fun xo8 H8 hn8 k8 i8 => ?_)
      refine ⟨xo8, _, _, none, none, rfl, i8, (by first | assumption | omega | rfl | exact Sz.zero | exact Sz.sm (by omega) (by omega) (by decide) | exact Sz.mono (by assumption) (by decide)), (by first | assumption | omega | rfl | exact Sz.zero | exact Sz.sm (by omega) (by omega) (by decide) | exact Sz.mono (by assumption) (by decide)), (by first | assumption | omega | rfl | exact Sz.zero | exact Sz.sm (by omega) (by omega) (by decide) | exact Sz.mono (by assumption) (by decide)), (by first | assumption | omega | rfl | exact Sz.zero | exact Sz.sm (by omega) (by omega) (by decide) | exact Sz.mono (by assumption) (by decide)), (by exact True.intro), fun gd G8 p8 q8 hgd => ⟨rfl, ?_⟩⟩
      refine i_cons <| v4 <| i_nil <| ⟨_, _, _, rfl, q8, (by rw [hgd]; assumption), (by rw [hgd]; assumption), (by rw [hgd]; dsimp only; omega), (by rw [hgd]; dsimp only; omega), (by rw [hgd]), (by rw [hgd]), (by first | assumption | omega | rfl | exact Sz.zero | exact Sz.sm (by omega) (by omega) (by decide) | exact Sz.mono (by assumption) (by decide)), (by first | assumption | omega | rfl | exact Sz.zero | exact Sz.sm (by omega) (by omega) (by decide) | exact Sz.mono (by assumption) (by decide)), fun ldA ld0 ld1 H9 s9 f9_0 hld0 hld1 => ?_⟩
      refine i_cons <| i_lst <| i_cons <| i_c <| i_cons <| v5 <| i_nil <| i_kLst (of_decide_eq_true rfl) (fun p10 H10 z10 s10 f10 => ?_)
      refine i_nil <| ⟨_, _, _, _, _, _, rfl, (s10 _ _ f9_0), f10, (by exact hld0), (by have q := hld1; rw [hgd] at q; have w := dg_one j0 q hen; omega), fun H12 s12 => ?_⟩
      refine i_bl <| i_iteNT <| i_next <| i_nx <| i_seq <| i_asg <| i_op <| v5 <| i_call <| i_cons <| v1 <| i_cons <| i_c <| i_nil <| ⟨_, _, rfl, (same_src (s7.trans ((k8 _ p8).trans (s9.trans (s10.trans s12)))) g6), (by first | assumption | omega | rfl | exact Sz.zero | exact Sz.sm (by omega) (by omega) (by decide) | exact Sz.mono (by assumption) (by decide)), (by first | assumption | omega | rfl | exact Sz.zero | exact Sz.sm (by omega) (by omega) (by decide) | exact Sz.mono (by assumption) (by decide)), fun d3 H13 s13 g13 hd30 hd31 hd32 => ?_⟩
      refine i_I0 <| nI6 (fun digits hdigits => ?_)
      refine i_nx <| ?_
      refine i_cut (fun σ H' => ∃ (dg : Int), σ = [some (V.ref scriptA), some (V.ref sourceA), some (V.int base), some (V.int precision), some (V.int oc), some (V.int en), some (V.int dg), none, none, none, none, none] ∧ Same H13 H' ∧ (3 ≤ dg) ∧ (dg ≤ 80) ∧ (Sz 100 (oc ^ dg.toNat)) ∧ (base ^ precision.toNat < oc ^ (dg - 1).toNat)) ?_ ?_
      ·
        refine i_if <| i_test <| i_op <| v6 <| i_c <| i_I0 <| i_bl <| i_ite (fun c11 => ?_) (fun c11 => ?_)
        ·
          refine i_asg <| i_c <| nI6 (fun digits' hdigits' => ?_)
          exact ⟨_, rfl, (Same.refl _), (by omega), (by omega), (by first | (rw [hdigits']; exact small3 j0 j1) | (rw [hdigits]; exact dgs_ok j0 n4 (by omega) (by omega))), (by first | (rw [hdigits']; exact dgl_ok j0 (by omega) n3) | (rw [hdigits]; exact dgl_ok j0 (by omega) n3))⟩
        ·
          refine i_next <| ?_
          exact ⟨_, rfl, (Same.refl _), (by omega), (by omega), (by first | (rw [hdigits']; exact small3 j0 j1) | (rw [hdigits]; exact dgs_ok j0 n4 (by omega) (by omega))), (by first | (rw [hdigits']; exact dgl_ok j0 (by omega) n3) | (rw [hdigits]; exact dgl_ok j0 (by omega) n3))⟩
      ·
        rintro σ H14 ⟨dg, rfl, s14, l0, l1, l2, l3⟩
        refine i_seq <| i_asg <| i_lst <| i_cons <| i_call <| i_cons <| v1 <| i_nil <| ⟨_, rfl, (same_src s14 g13), fun na H15 s15 g15 hna => ?_⟩
        refine i_cons <| i_call <| i_cons <| v1 <| i_nil <| ⟨_, rfl, g15, fun nb H16 s16 g16 hnb => ?_⟩
        refine i_nil <| i_kLst (of_decide_eq_true rfl) (fun p17 H17 z17 s17 f17 => ?_)
        refine n7 <| i_nx <| i_seq <| i_asg <| i_call <| i_cons <| v1 <| i_cons <| v2 <| i_cons <| v3 <| i_nil <| ⟨_, _, _, rfl, (same_src s17 g16), (by first | assumption | omega | rfl | exact Sz.zero | exact Sz.sm (by omega) (by omega) (by decide) | exact Sz.mono (by assumption) (by decide)), (by first | assumption | omega | rfl | exact Sz.zero | exact Sz.sm (by omega) (by omega) (by decide) | exact Sz.mono (by assumption) (by decide)), (by first | assumption | omega | rfl | exact Sz.zero | exact Sz.sm (by omega) (by omega) (by decide) | exact Sz.mono (by assumption) (by decide)), (by first | assumption | omega | rfl | exact Sz.zero | exact Sz.sm (by omega) (by omega) (by decide) | exact Sz.mono (by assumption) (by decide)), fun xsA xs0A xs00 xs01 xs1A xs10 xs11 xs2A xs20 xs21 H18 s18 g18 f18_0 f18_1 f18_2 f18_3 hxs0 hxs1 hxs2 hxs3 hxs4 hxs5 hxs6 => ?_⟩
        refine n8 <| i_nx <| i_seq <| i_for <| i_lt <| v8 <| i_forL (fun i σ H' => ∃ (o_x : Option V), σ = [some (V.ref scriptA), some (V.ref sourceA), some (V.int base), some (V.int precision), some (V.int oc), some (V.int en), some (V.int dg), some (V.ref p17), some (V.ref xsA), o_x, none, none] ∧ Same H18 H') (SqL.of f18_0) ?_ ?_ ?_ ?_
        ·
          exact ⟨_, rfl, (Same.refl _)⟩
        ·
          intro i σ' H'' _ hPv
          revert hPv
          rintro ⟨_, _, s19⟩
          exact (SqL.of (s19 _ _ f18_0))
        ·
          rintro i y σ H20 hy ⟨o_x, rfl, s20⟩
          match i, hy with
          | 0, hy =>
            have e9 := Option.some.inj hy
            subst e9
            refine n9 <| i_if <| i_not <| i_tB <| i_call <| i_cons <| v2 <| i_cons <| v3 <| i_cons <| v4 <| i_cons <| v6 <| i_cons <| v9 <| i_cons <| v7 <| i_nil <| ⟨_, _, _, _, _, _, _, _, _, _, rfl, (s20 _ _ f18_1), ((s18.trans (ext_of s20)) _ _ (stab_len (of_decide_eq_true rfl)) f17), (by first | assumption | omega | rfl | exact Sz.zero | exact Sz.sm (by omega) (by omega) (by decide) | exact Sz.mono (by assumption) (by decide)), (by first | assumption | omega | rfl | exact Sz.zero | exact Sz.sm (by omega) (by omega) (by decide) | exact Sz.mono (by assumption) (by decide)), (by first | assumption | omega | rfl | exact Sz.zero | exact Sz.sm (by omega) (by omega) (by decide) | exact Sz.mono (by assumption) (by decide)), (by first | assumption | omega | rfl | exact Sz.zero | exact Sz.sm (by omega) (by omega) (by decide) | exact Sz.mono (by assumption) (by decide)), (by first | assumption | omega | rfl | exact Sz.zero | exact Sz.sm (by omega) (by omega) (by decide) | exact Sz.mono (by assumption) (by decide)), (by first | assumption | omega | rfl | exact Sz.zero | exact Sz.sm (by omega) (by omega) (by decide) | exact Sz.mono (by assumption) (by decide)), (by first | assumption | omega | rfl | exact Sz.zero | exact Sz.sm (by omega) (by omega) (by decide) | exact Sz.mono (by assumption) (by decide)), (by first | assumption | omega | rfl | exact Sz.zero | exact Sz.sm (by omega) (by omega) (by decide) | exact Sz.mono (by assumption) (by decide)), (by exact l2), (by exact l3), (by first | exact hxs0 | exact hxs1 | exact hxs2), (by first | exact hxs3 | exact hxs4 | exact hxs5), (by exact hna), (by exact hnb), fun H22 s22 => ?_⟩
            refine i_bl <| i_iteNT <| i_next <| ?_
            exact ⟨_, rfl, (s20.trans s22)⟩
          | 1, hy =>
            have e9 := Option.some.inj hy
            subst e9
            refine n9 <| i_if <| i_not <| i_tB <| i_call <| i_cons <| v2 <| i_cons <| v3 <| i_cons <| v4 <| i_cons <| v6 <| i_cons <| v9 <| i_cons <| v7 <| i_nil <| ⟨_, _, _, _, _, _, _, _, _, _, rfl, (s20 _ _ f18_2), ((s18.trans (ext_of s20)) _ _ (stab_len (of_decide_eq_true rfl)) f17), (by first | assumption | omega | rfl | exact Sz.zero | exact Sz.sm (by omega) (by omega) (by decide) | exact Sz.mono (by assumption) (by decide)), (by first | assumption | omega | rfl | exact Sz.zero | exact Sz.sm (by omega) (by omega) (by decide) | exact Sz.mono (by assumption) (by decide)), (by first | assumption | omega | rfl | exact Sz.zero | exact Sz.sm (by omega) (by omega) (by decide) | exact Sz.mono (by assumption) (by decide)), (by first | assumption | omega | rfl | exact Sz.zero | exact Sz.sm (by omega) (by omega) (by decide) | exact Sz.mono (by assumption) (by decide)), (by first | assumption | omega | rfl | exact Sz.zero | exact Sz.sm (by omega) (by omega) (by decide) | exact Sz.mono (by assumption) (by decide)), (by first | assumption | omega | rfl | exact Sz.zero | exact Sz.sm (by omega) (by omega) (by decide) | exact Sz.mono (by assumption) (by decide)), (by first | assumption | omega | rfl | exact Sz.zero | exact Sz.sm (by omega) (by omega) (by decide) | exact Sz.mono (by assumption) (by decide)), (by first | assumption | omega | rfl | exact Sz.zero | exact Sz.sm (by omega) (by omega) (by decide) | exact Sz.mono (by assumption) (by decide)), (by exact l2), (by exact l3), (by first | exact hxs0 | exact hxs1 | exact hxs2), (by first | exact hxs3 | exact hxs4 | exact hxs5), (by exact hna), (by exact hnb), fun H24 s24 => ?_⟩
            refine i_bl <| i_iteNT <| i_next <| ?_
            exact ⟨_, rfl, (s20.trans s24)⟩
          | 2, hy =>
            have e9 := Option.some.inj hy
            subst e9
            refine n9 <| i_if <| i_not <| i_tB <| i_call <| i_cons <| v2 <| i_cons <| v3 <| i_cons <| v4 <| i_cons <| v6 <| i_cons <| v9 <| i_cons <| v7 <| i_nil <| ⟨_, _, _, _, _, _, _, _, _, _, rfl, (s20 _ _ f18_3), ((s18.trans (ext_of s20)) _ _ (stab_len (of_decide_eq_true rfl)) f17), (by first | assumption | omega | rfl | exact Sz.zero | exact Sz.sm (by omega) (by omega) (by decide) | exact Sz.mono (by assumption) (by decide)), (by first | assumption | omega | rfl | exact Sz.zero | exact Sz.sm (by omega) (by omega) (by decide) | exact Sz.mono (by assumption) (by decide)), (by first | assumption | omega | rfl | exact Sz.zero | exact Sz.sm (by omega) (by omega) (by decide) | exact Sz.mono (by assumption) (by decide)), (by first | assumption | omega | rfl | exact Sz.zero | exact Sz.sm (by omega) (by omega) (by decide) | exact Sz.mono (by assumption) (by decide)), (by first | assumption | omega | rfl | exact Sz.zero | exact Sz.sm (by omega) (by omega) (by decide) | exact Sz.mono (by assumption) (by decide)), (by first | assumption | omega | rfl | exact Sz.zero | exact Sz.sm (by omega) (by omega) (by decide) | exact Sz.mono (by assumption) (by decide)), (by first | assumption | omega | rfl | exact Sz.zero | exact Sz.sm (by omega) (by omega) (by decide) | exact Sz.mono (by assumption) (by decide)), (by first | assumption | omega | rfl | exact Sz.zero | exact Sz.sm (by omega) (by omega) (by decide) | exact Sz.mono (by assumption) (by decide)), (by exact l2), (by exact l3), (by first | exact hxs0 | exact hxs1 | exact hxs2), (by first | exact hxs3 | exact hxs4 | exact hxs5), (by exact hna), (by exact hnb), fun H26 s26 => ?_⟩
            refine i_bl <| i_iteNT <| i_next <| ?_
            exact ⟨_, rfl, (s20.trans s26)⟩
          | n9 + 3, hy => exact absurd hy (by simp)
        ·
          rintro σ H27 ⟨o_x, rfl, s27⟩
          refine i_nx <| i_seq <| i_asg <| i_op <| i_call <| i_cons <| v1 <| i_cons <| v2 <| i_cons <| v3 <| i_nil <| ⟨_, _, _, rfl, (same_src s27 g18), (by first | assumption | omega | rfl | exact Sz.zero | exact Sz.sm (by omega) (by omega) (by decide) | exact Sz.mono (by assumption) (by decide)), (by first | assumption | omega | rfl | exact Sz.zero | exact Sz.sm (by omega) (by omega) (by decide) | exact Sz.mono (by assumption) (by decide)), (by first | assumption | omega | rfl | exact Sz.zero | exact Sz.sm (by omega) (by omega) (by decide) | exact Sz.mono (by assumption) (by decide)), (by first | assumption | omega | rfl | exact Sz.zero | exact Sz.sm (by omega) (by omega) (by decide) | exact Sz.mono (by assumption) (by decide)), fun fu H28 s28 g28 hfu0 hfu1 hfu2 => ?_⟩
          refine i_call <| i_cons <| v2 <| i_cons <| i_call <| i_cons <| v1 <| i_cons <| i_op <| i_op <| i_c <| v3 <| i_I (by first | exact .inl ⟨by decide, by decide⟩ | exact .inr ⟨by decide, by decide⟩) <| i_c <| i_I0 <| i_nil <| ⟨_, _, rfl, g28, (by first | assumption | omega | rfl | exact Sz.zero | exact Sz.sm (by omega) (by omega) (by decide) | exact Sz.mono (by assumption) (by decide)), (by first | assumption | omega | rfl | exact Sz.zero | exact Sz.sm (by omega) (by omega) (by decide) | exact Sz.mono (by assumption) (by decide)), fun dl H29 s29 g29 hdl0 hdl1 hdl2 => ?_⟩
          refine i_nil <| ⟨_, _, rfl, (by omega), (by omega), (by unfold Sz; omega), fun pg H30 s30 hpg => ?_⟩
          refine i_I (by exact mulx (a := 300) (b := 151) hfu2 (by rw [hpg]; exact (Sz.pow36 hbase0 hbase1 _).mono (by omega))) <| nI10 (fun long hlong => ?_)
          refine i_nx <| i_seq <| ?_
          have hlz : Sz 460 long := by rw [hlong]; exact (hfu2.mul (by rw [hpg]; exact (Sz.pow36 hbase0 hbase1 _).mono (by omega) : Sz 151 pg)).mono (by decide)
          refine i_asg <| i_call <| i_cons <| v2 <| i_cons <| i_op <| i_op <| v10 <| i_call <| i_cons <| v1 <| i_cons <| i_c <| i_nil <| ⟨_, _, rfl, (same_src s30 g29), (by first | assumption | omega | rfl | exact Sz.zero | exact Sz.sm (by omega) (by omega) (by decide) | exact Sz.mono (by assumption) (by decide)), (by first | assumption | omega | rfl | exact Sz.zero | exact Sz.sm (by omega) (by omega) (by decide) | exact Sz.mono (by assumption) (by decide)), fun dk H31 s31 g31 hdk0 hdk1 hdk2 => ?_⟩
          refine i_I0 <| i_op <| i_op <| v8 <| i_c <| i_ixL (SqL.of (((ext_of s27).trans (s28.trans (s29.trans ((ext_of s30).trans s31)))) _ _ (stab_len (of_decide_eq_true rfl)) f18_0)) (atI_nat (j := 2) rfl) <| i_c <| i_ixT (SqT.of (((ext_of s27).trans (s28.trans (s29.trans ((ext_of s30).trans s31)))) _ _ trivial f18_3)) (atI_nat (j := 0) rfl) <| i_I (by exact mulx (a := 461) (b := 10) (Sz.add (a := 460) hlz (Sz.sm (by omega) (by omega) (by decide))) (by rcases hxs6 with q | q <;> rw [q] <;> exact Sz.sm (by decide) (by decide) (by decide))) <| i_cons <| i_call <| i_cons <| v1 <| i_nil <| ⟨_, rfl, g31, fun sm H32 s32 g32 hsm0 hsm1 => ?_⟩
          refine i_nil <| ⟨_, _, _, rfl, (by first | assumption | omega | rfl | exact Sz.zero | exact Sz.sm (by omega) (by omega) (by decide) | exact Sz.mono (by assumption) (by decide)), (by first | assumption | omega | rfl | exact Sz.zero | exact Sz.sm (by omega) (by omega) (by decide) | exact Sz.mono (by assumption) (by decide)), fun frA fr0 fr1 H33 s33 f33_0 hfr => ?_⟩
          refine n11 <| i_nx <| i_seq <| i_for <| i_lt <| i_lst <| i_cons <| v11 <| i_cons <| i_op <| v8 <| i_c <| i_ixL (SqL.of (((ext_of s27).trans (s28.trans (s29.trans ((ext_of s30).trans (s31.trans (s32.trans (ext_of s33))))))) _ _ (stab_len (of_decide_eq_true rfl)) f18_0)) (atI_nat (j := 1) rfl) <| i_nil <| i_kLst (of_decide_eq_true rfl) (fun p34 H34 z34 s34 f34 => ?_)
          refine i_forL (fun i σ H' => ∃ (o_x : Option V), σ = [some (V.ref scriptA), some (V.ref sourceA), some (V.int base), some (V.int precision), some (V.int oc), some (V.int en), some (V.int dg), some (V.ref p17), some (V.ref xsA), o_x, some (V.int long), some (V.ref frA)] ∧ Same H34 H') (SqL.of f34) ?_ ?_ ?_ ?_
          ·
            exact ⟨_, rfl, (Same.refl _)⟩
          ·
            intro i σ' H'' _ hPv
            revert hPv
            rintro ⟨_, _, s35⟩
            exact (SqL.of (s35 _ _ f34))
          ·
            rintro i y σ H36 hy ⟨o_x, rfl, s36⟩
            match i, hy with
            | 0, hy =>
              have e9 := Option.some.inj hy
              subst e9
              refine n9 <| i_if <| i_not <| i_tB <| i_call <| i_cons <| v2 <| i_cons <| v4 <| i_cons <| v3 <| i_cons <| v9 <| i_nil <| ⟨_, _, _, _, _, _, rfl, ((s34.trans s36) _ _ f33_0), (by first | assumption | omega | rfl | exact Sz.zero | exact Sz.sm (by omega) (by omega) (by decide) | exact Sz.mono (by assumption) (by decide)), (by first | assumption | omega | rfl | exact Sz.zero | exact Sz.sm (by omega) (by omega) (by decide) | exact Sz.mono (by assumption) (by decide)), (by first | assumption | omega | rfl | exact Sz.zero | exact Sz.sm (by omega) (by omega) (by decide) | exact Sz.mono (by assumption) (by decide)), (by first | assumption | omega | rfl | exact Sz.zero | exact Sz.sm (by omega) (by omega) (by decide) | exact Sz.mono (by assumption) (by decide)), (by first | assumption | omega | rfl | exact Sz.zero | exact Sz.sm (by omega) (by omega) (by decide) | exact Sz.mono (by assumption) (by decide)), (by first | assumption | omega | rfl | exact Sz.zero | exact Sz.sm (by omega) (by omega) (by decide) | exact Sz.mono (by assumption) (by decide)), (by first | exact hxs1 | (refine nv_of (j := 37) hbase0 hbase1 ?_ (by decide) (by omega) (by omega) hfr; exact free_lt hbase0 hbase1 ⟨hprecision0, hprecision1⟩ hfu0 hfu1 hpg hdl0 (by omega) hlong (by assumption) (by assumption) hxs6)), fun H38 s38 => ?_⟩
              refine i_bl <| i_iteNT <| i_next <| ?_
              exact ⟨_, rfl, (s36.trans s38)⟩
            | 1, hy =>
              have e9 := Option.some.inj hy
              subst e9
              refine n9 <| i_if <| i_not <| i_tB <| i_call <| i_cons <| v2 <| i_cons <| v4 <| i_cons <| v3 <| i_cons <| v9 <| i_nil <| ⟨_, _, _, _, _, _, rfl, (((ext_of s27).trans (s28.trans (s29.trans ((ext_of s30).trans (s31.trans (s32.trans ((ext_of s33).trans ((ext_of s34).trans (ext_of s36))))))))) _ _ trivial f18_2), (by first | assumption | omega | rfl | exact Sz.zero | exact Sz.sm (by omega) (by omega) (by decide) | exact Sz.mono (by assumption) (by decide)), (by first | assumption | omega | rfl | exact Sz.zero | exact Sz.sm (by omega) (by omega) (by decide) | exact Sz.mono (by assumption) (by decide)), (by first | assumption | omega | rfl | exact Sz.zero | exact Sz.sm (by omega) (by omega) (by decide) | exact Sz.mono (by assumption) (by decide)), (by first | assumption | omega | rfl | exact Sz.zero | exact Sz.sm (by omega) (by omega) (by decide) | exact Sz.mono (by assumption) (by decide)), (by first | assumption | omega | rfl | exact Sz.zero | exact Sz.sm (by omega) (by omega) (by decide) | exact Sz.mono (by assumption) (by decide)), (by first | assumption | omega | rfl | exact Sz.zero | exact Sz.sm (by omega) (by omega) (by decide) | exact Sz.mono (by assumption) (by decide)), (by first | exact hxs1 | (refine nv_of (j := 37) hbase0 hbase1 ?_ (by decide) (by omega) (by omega) hfr; exact free_lt hbase0 hbase1 ⟨hprecision0, hprecision1⟩ hfu0 hfu1 hpg hdl0 (by omega) hlong (by assumption) (by assumption) hxs6)), fun H40 s40 => ?_⟩
              refine i_bl <| i_iteNT <| i_next <| ?_
              exact ⟨_, rfl, (s36.trans s40)⟩
            | n9 + 2, hy => exact absurd hy (by simp)
          ·
            rintro σ H41 ⟨o_x, rfl, s41⟩
            refine i_nx <| i_ret <| i_call <| i_cons <| v1 <| i_cons <| v2 <| i_cons <| v3 <| i_cons <| v4 <| i_nil <| ⟨_, _, _, _, rfl, (same_src (s33.trans (s34.trans s41)) g32), (by first | assumption | omega | rfl | exact Sz.zero | exact Sz.sm (by omega) (by omega) (by decide) | exact Sz.mono (by assumption) (by decide)), (by first | assumption | omega | rfl | exact Sz.zero | exact Sz.sm (by omega) (by omega) (by decide) | exact Sz.mono (by assumption) (by decide)), (by first | assumption | omega | rfl | exact Sz.zero | exact Sz.sm (by omega) (by omega) (by decide) | exact Sz.mono (by assumption) (by decide)), (by first | assumption | omega | rfl | exact Sz.zero | exact Sz.sm (by omega) (by omega) (by decide) | exact Sz.mono (by assumption) (by decide)), (by first | assumption | omega | rfl | exact Sz.zero | exact Sz.sm (by omega) (by omega) (by decide) | exact Sz.mono (by assumption) (by decide)), (by first | assumption | omega | rfl | exact Sz.zero | exact Sz.sm (by omega) (by omega) (by decide) | exact Sz.mono (by assumption) (by decide)), fun H43 s43 g43 => ?_⟩
            exact k _
/-! the head -/
def fn0 : List He.DefD := [⟨("power", none), "power", "power", defArgs (top 12), defBody (top 12), defScope (top 12), [], []⟩,
  ⟨("squares_up_to", none), "squares_up_to", "squares_up_to", defArgs (top 13), defBody (top 13), defScope (top 13), [], []⟩,
  ⟨("count_digits", none), "count_digits", "count_digits", defArgs (top 14), defBody (top 14), defScope (top 14), [], []⟩,
  ⟨("check_base", none), "check_base", "check_base", defArgs (top 16), defBody (top 16), defScope (top 16), [], []⟩,
  ⟨("Grid", some "__init__"), "__init__", "Grid.__init__", defArgs (inClass (top 32) 2), defBody (inClass (top 32) 2), defScope (inClass (top 32) 2), [], [("bottom", .non), ("top", .non)]⟩,
  ⟨("without_zeros", none), "without_zeros", "without_zeros", defArgs (top 15), defBody (top 15), defScope (top 15), [], []⟩,
  ⟨("Exact", some "__init__"), "__init__", "Exact.__init__", defArgs (inClass (top 17) 0), defBody (inClass (top 17) 0), defScope (inClass (top 17) 0), [.int 0], []⟩,
  ⟨("check_mode", none), "check_mode", "check_mode", defArgs (top 27), defBody (top 27), defScope (top 27), [], []⟩,
  ⟨("goes_up", none), "goes_up", "goes_up", defArgs (top 28), defBody (top 28), defScope (top 28), [], []⟩,
  ⟨("tie_goes_up", none), "tie_goes_up", "tie_goes_up", defArgs (top 29), defBody (top 29), defScope (top 29), [], []⟩,
  ⟨("round_quotient", none), "round_quotient", "round_quotient", defArgs (top 30), defBody (top 30), defScope (top 30), [], []⟩,
  ⟨("check_free", none), "check_free", "check_free", defArgs (top 34), defBody (top 34), defScope (top 34), [], []⟩]
def fn1 : List He.DefD := [⟨("ratio_place", none), "ratio_place", "ratio_place", defArgs (top 37), defBody (top 37), defScope (top 37), [], []⟩,
  ⟨("rounded_ratio", none), "rounded_ratio", "rounded_ratio", defArgs (top 38), defBody (top 38), defScope (top 38), [], []⟩,
  ⟨("converted", none), "converted", "converted", defArgs (top 40), defBody (top 40), defScope (top 40), [.str "nearest-even"], []⟩,
  ⟨("digits_enough", none), "digits_enough", "digits_enough", defArgs (top 41), defBody (top 41), defScope (top 41), [], []⟩,
  ⟨("_law_draw", none), "_law_draw", "_law_draw", defArgs (top 44), defBody (top 44), defScope (top 44), [], []⟩,
  ⟨("_law_source", none), "_law_source", "_law_source", defArgs (top 43), defBody (top 43), defScope (top 43), [], []⟩,
  ⟨("_law_modes", none), "_law_modes", "_law_modes", defArgs (top 45), defBody (top 45), defScope (top 45), [], []⟩,
  ⟨("_law_mode", none), "_law_mode", "_law_mode", defArgs (top 46), defBody (top 46), defScope (top 46), [], []⟩,
  ⟨("_law_nearest", none), "_law_nearest", "_law_nearest", defArgs (top 47), defBody (top 47), defScope (top 47), [], []⟩,
  ⟨("_law_base", none), "_law_base", "_law_base", defArgs (top 48), defBody (top 48), defScope (top 48), [], []⟩,
  ⟨("_law_precision", none), "_law_precision", "_law_precision", defArgs (top 49), defBody (top 49), defScope (top 49), [], []⟩,
  ⟨("_law_power", none), "_law_power", "_law_power", defArgs (top 50), defBody (top 50), defScope (top 50), [], []⟩]
def fn2 : List He.DefD := [⟨("_law_count", none), "_law_count", "_law_count", defArgs (top 51), defBody (top 51), defScope (top 51), [], []⟩,
  ⟨("_law_lowest", none), "_law_lowest", "_law_lowest", defArgs (top 52), defBody (top 52), defScope (top 52), [], []⟩,
  ⟨("_law_quotient", none), "_law_quotient", "_law_quotient", defArgs (top 53), defBody (top 53), defScope (top 53), [], []⟩,
  ⟨("_law_round", none), "_law_round", "_law_round", defArgs (top 54), defBody (top 54), defScope (top 54), [], []⟩,
  ⟨("_law_full", none), "_law_full", "_law_full", defArgs (top 55), defBody (top 55), defScope (top 55), [], []⟩,
  ⟨("_law_small", none), "_law_small", "_law_small", defArgs (top 56), defBody (top 56), defScope (top 56), [], []⟩,
  ⟨("_law_value", none), "_law_value", "_law_value", defArgs (top 57), defBody (top 57), defScope (top 57), [], []⟩,
  ⟨("_law_equal", none), "_law_equal", "_law_equal", defArgs (top 58), defBody (top 58), defScope (top 58), [], []⟩,
  ⟨("_law_make", none), "_law_make", "_law_make", defArgs (top 59), defBody (top 59), defScope (top 59), [], []⟩,
  ⟨("_law_is", none), "_law_is", "_law_is", defArgs (top 60), defBody (top 60), defScope (top 60), [], []⟩,
  ⟨("_law_bad_mode", none), "_law_bad_mode", "_law_bad_mode", defArgs (top 62), defBody (top 62), defScope (top 62), [], []⟩,
  ⟨("_law_bordered", none), "_law_bordered", "_law_bordered", defArgs (top 63), defBody (top 63), defScope (top 63), [], []⟩]
def fn3 : List He.DefD := [⟨("_law_error", none), "_law_error", "_law_error", defArgs (top 69), defBody (top 69), defScope (top 69), [], []⟩,
  ⟨("_law_ratio", none), "_law_ratio", "_law_ratio", defArgs (top 61), defBody (top 61), defScope (top 61), [], []⟩,
  ⟨("_law_enough", none), "_law_enough", "_law_enough", defArgs (top 64), defBody (top 64), defScope (top 64), [], []⟩,
  ⟨("_law_converted", none), "_law_converted", "_law_converted", defArgs (top 65), defBody (top 65), defScope (top 65), [], []⟩,
  ⟨("_law_numbers", none), "_law_numbers", "_law_numbers", defArgs (top 66), defBody (top 66), defScope (top 66), [], []⟩,
  ⟨("_law_digits", none), "_law_digits", "_law_digits", defArgs (top 71), defBody (top 71), defScope (top 71), [], []⟩,
  ⟨("_law_refused", none), "_law_refused", "_law_refused", defArgs (top 70), defBody (top 70), defScope (top 70), [], []⟩,
  ⟨("_law_back_right", none), "_law_back_right", "_law_back_right", defArgs (top 67), defBody (top 67), defScope (top 67), [], []⟩,
  ⟨("_law_value_right", none), "_law_value_right", "_law_value_right", defArgs (top 68), defBody (top 68), defScope (top 68), [], []⟩,
  ⟨("_law_refused_right", none), "_law_refused_right", "_law_refused_right", defArgs (top 72), defBody (top 72), defScope (top 72), [], []⟩,
  ⟨("law", none), "law", "law", defArgs (top 73), defBody (top 73), defScope (top 73), [], []⟩]
def fn : List He.DefD := fn0 ++ fn1 ++ fn2 ++ fn3
def fa0 : List He.Fa := [.glo "BadBase", .glo "BadGrid", .glo "BadMode", .glo "Exact", .glo "Grid", .glo "LostError", .glo "MODES", .glo "NEAREST", .glo "_law_back_right", .glo "_law_bad_mode", .glo "_law_base", .glo "_law_bordered", .glo "_law_converted", .glo "_law_count", .glo "_law_digits"]
def fa1 : List He.Fa := [.glo "_law_draw", .glo "_law_enough", .glo "_law_equal", .glo "_law_error", .glo "_law_full", .glo "_law_is", .glo "_law_lowest", .glo "_law_make", .glo "_law_mode", .glo "_law_modes", .glo "_law_nearest", .glo "_law_numbers", .glo "_law_power", .glo "_law_precision", .glo "_law_quotient"]
def fa2 : List He.Fa := [.glo "_law_ratio", .glo "_law_refused", .glo "_law_refused_right", .glo "_law_round", .glo "_law_small", .glo "_law_source", .glo "_law_value", .glo "_law_value_right", .free "abs", .free "bool", .glo "check_base", .glo "check_free", .glo "check_mode", .glo "converted", .glo "count_digits"]
def fa3 : List He.Fa := [.glo "digits_enough", .free "divmod", .glo "goes_up", .free "int", .free "isinstance", .glo "law", .free "len", .free "list", .glo "power", .free "range", .glo "ratio_place", .free "reversed", .glo "round_quotient", .glo "rounded_ratio", .glo "squares_up_to"]
def fa4 : List He.Fa := [.free "str", .free "super", .glo "tie_goes_up", .free "tuple", .glo "without_zeros", .cls "Exact", .noat "Exact" "base", .noat "Exact" "coefficient", .noat "Exact" "exponent", .cls "Grid", .noat "Grid" "base", .noat "Grid" "precision", .noat "Grid" "bottom", .noat "Grid" "top", .mkr "Exact"]
def fa5 : List He.Fa := [.cls "Exact", .mkr "Grid", .noat "BadMode" "mode", .noat "BadGrid" "what", .noat "BadBase" "base"]
def fa : List He.Fa := fa0 ++ fa1 ++ fa2 ++ fa3 ++ fa4 ++ fa5
def exl : List (PySem.W.Frag → Bool) := [fun K => He.tupB K "MODES" [.str "nearest-even", .str "nearest-out", .str "nearest-in", .str "nearest-up", .str "nearest-down", .str "inward", .str "outward", .str "upward", .str "downward"],
  fun K => He.tupB K "NEAREST" [.str "nearest-even", .str "nearest-out", .str "nearest-in", .str "nearest-up", .str "nearest-down"],
  fun K => cvalB K (He.ga K "Grid") "LEAST" 3,
  fun K => cvalB K (He.ga K "Grid") "MOST" 200,
  fun K => insB K (He.ga K "Exact"),
  fun K => excB K (He.ga K "BadMode"),
  fun K => decide (PySem.W.kitOne K (.ref (He.ga K "BadMode")) (.ref (He.ga K "BadMode")) = some true),
  fun K => decide (PySem.W.kitOne K (.ref (He.ga K "BadMode")) (.ref (He.ga K "BadGrid")) = some false),
  fun K => decide (PySem.W.kitOne K (.ref (He.ga K "BadMode")) (.ref (He.ga K "BadBase")) = some false),
  fun K => excB K (He.ga K "BadMode"),
  fun K => excB K (He.ga K "BadGrid"),
  fun K => decide (PySem.W.kitOne K (.ref (He.ga K "BadGrid")) (.ref (He.ga K "BadMode")) = some false),
  fun K => decide (PySem.W.kitOne K (.ref (He.ga K "BadGrid")) (.ref (He.ga K "BadGrid")) = some true),
  fun K => decide (PySem.W.kitOne K (.ref (He.ga K "BadGrid")) (.ref (He.ga K "BadBase")) = some false),
  fun K => excB K (He.ga K "BadGrid"),
  fun K => excB K (He.ga K "BadBase"),
  fun K => decide (PySem.W.kitOne K (.ref (He.ga K "BadBase")) (.ref (He.ga K "BadMode")) = some false),
  fun K => decide (PySem.W.kitOne K (.ref (He.ga K "BadBase")) (.ref (He.ga K "BadGrid")) = some false),
  fun K => decide (PySem.W.kitOne K (.ref (He.ga K "BadBase")) (.ref (He.ga K "BadBase")) = some true),
  fun K => excB K (He.ga K "BadBase"),
  fun K => decide (PySem.W.exmOne K (.ref (He.ga K "BadGrid")) (.ref (He.ga K "LostError")) = some true),
  fun K => decide (PySem.W.exmOne K (.ref (He.ga K "BadBase")) (.ref (He.ga K "LostError")) = some true),
  fun K => decide (PySem.W.exmOne K (.ref (He.ga K "BadMode")) (.ref (He.ga K "LostError")) = some true)]
def ex (K : PySem.W.Frag) : Bool := exl.all fun e => e K
def ts : List He.Tab := []
def gs : List DefG := [⟨"Exact", "digits", "Exact.digits", defArgs (inClass (top 17) 2), defBody (inClass (top 17) 2), defScope (inClass (top 17) 2)⟩,
  ⟨"Exact", "place", "Exact.place", defArgs (inClass (top 17) 3), defBody (inClass (top 17) 3), defScope (inClass (top 17) 3)⟩]
def es : List DefE := [⟨"BadBase", "BadBase.__init__", defArgs st_BadBase, defBody st_BadBase, defScope st_BadBase, "self", ff_BadBase⟩,
  ⟨"BadMode", "BadMode.__init__", defArgs st_BadMode, defBody st_BadMode, defScope st_BadMode, "self", ff_BadMode⟩,
  ⟨"BadGrid", "BadGrid.__init__", defArgs st_BadGrid, defBody st_BadGrid, defScope st_BadGrid, "self", ff_BadGrid⟩]
abbrev R : PySem.W.OpenRow := PySem.W.OpenLaw.row PySem.Challenge.rw_lostinrows_k47_whole_there_and_back
theorem txt_of {w : World} {K : PySem.W.Frag} {h : Heap} {mg : Str → Option Value} (X : K.In h) (G : h.Ns mainGlobals mg) (c : SaysW R.prog.main.file fa fn ts ex gs es w K) : Txt R.prog w K mg where
  d_power := c.t.d.def_ 0 rfl
  d_squares_up_to := c.t.d.def_ 1 rfl
  d_count_digits := c.t.d.def_ 2 rfl
  d_check_base := c.t.d.def_ 3 rfl
  d_Grid___init__ := c.t.d.def_ 4 rfl
  d_without_zeros := c.t.d.def_ 5 rfl
  d_Exact___init__ := c.t.d.def_ 6 rfl
  d_check_mode := c.t.d.def_ 7 rfl
  d_goes_up := c.t.d.def_ 8 rfl
  d_tie_goes_up := c.t.d.def_ 9 rfl
  d_round_quotient := c.t.d.def_ 10 rfl
  d_check_free := c.t.d.def_ 11 rfl
  d_ratio_place := c.t.d.def_ 12 rfl
  d_rounded_ratio := c.t.d.def_ 13 rfl
  d_converted := c.t.d.def_ 14 rfl
  d_digits_enough := c.t.d.def_ 15 rfl
  d__law_draw := c.t.d.def_ 16 rfl
  d__law_source := c.t.d.def_ 17 rfl
  d__law_modes := c.t.d.def_ 18 rfl
  d__law_mode := c.t.d.def_ 19 rfl
  d__law_nearest := c.t.d.def_ 20 rfl
  d__law_base := c.t.d.def_ 21 rfl
  d__law_precision := c.t.d.def_ 22 rfl
  d__law_power := c.t.d.def_ 23 rfl
  d__law_count := c.t.d.def_ 24 rfl
  d__law_lowest := c.t.d.def_ 25 rfl
  d__law_quotient := c.t.d.def_ 26 rfl
  d__law_round := c.t.d.def_ 27 rfl
  d__law_full := c.t.d.def_ 28 rfl
  d__law_small := c.t.d.def_ 29 rfl
  d__law_value := c.t.d.def_ 30 rfl
  d__law_equal := c.t.d.def_ 31 rfl
  d__law_make := c.t.d.def_ 32 rfl
  d__law_is := c.t.d.def_ 33 rfl
  d__law_bad_mode := c.t.d.def_ 34 rfl
  d__law_bordered := c.t.d.def_ 35 rfl
  d__law_error := c.t.d.def_ 36 rfl
  d__law_ratio := c.t.d.def_ 37 rfl
  d__law_enough := c.t.d.def_ 38 rfl
  d__law_converted := c.t.d.def_ 39 rfl
  d__law_numbers := c.t.d.def_ 40 rfl
  d__law_digits := c.t.d.def_ 41 rfl
  d__law_refused := c.t.d.def_ 42 rfl
  d__law_back_right := c.t.d.def_ 43 rfl
  d__law_value_right := c.t.d.def_ 44 rfl
  d__law_refused_right := c.t.d.def_ 45 rfl
  d_law := c.t.d.def_ 46 rfl
  d_Exact_digits := c.dg 0 _ rfl
  d_Exact_place := c.dg 1 _ rfl
  g_BadBase := He.glo_ok X G (c.t.d.fact 0 rfl)
  g_BadGrid := He.glo_ok X G (c.t.d.fact 1 rfl)
  g_BadMode := He.glo_ok X G (c.t.d.fact 2 rfl)
  g_Exact := He.glo_ok X G (c.t.d.fact 3 rfl)
  g_Grid := He.glo_ok X G (c.t.d.fact 4 rfl)
  g_LostError := He.glo_ok X G (c.t.d.fact 5 rfl)
  g_MODES := He.glo_ok X G (c.t.d.fact 6 rfl)
  t_MODES := fun H => He.tupB_ok (vs := [.str "nearest-even", .str "nearest-out", .str "nearest-in", .str "nearest-up", .str "nearest-down", .str "inward", .str "outward", .str "upward", .str "downward"]) (ex_at c.more 0 rfl) H
  g_NEAREST := He.glo_ok X G (c.t.d.fact 7 rfl)
  t_NEAREST := fun H => He.tupB_ok (vs := [.str "nearest-even", .str "nearest-out", .str "nearest-in", .str "nearest-up", .str "nearest-down"]) (ex_at c.more 1 rfl) H
  g__law_back_right := He.glo_ok X G (c.t.d.fact 8 rfl)
  g__law_bad_mode := He.glo_ok X G (c.t.d.fact 9 rfl)
  g__law_base := He.glo_ok X G (c.t.d.fact 10 rfl)
  g__law_bordered := He.glo_ok X G (c.t.d.fact 11 rfl)
  g__law_converted := He.glo_ok X G (c.t.d.fact 12 rfl)
  g__law_count := He.glo_ok X G (c.t.d.fact 13 rfl)
  g__law_digits := He.glo_ok X G (c.t.d.fact 14 rfl)
  g__law_draw := He.glo_ok X G (c.t.d.fact 15 rfl)
  g__law_enough := He.glo_ok X G (c.t.d.fact 16 rfl)
  g__law_equal := He.glo_ok X G (c.t.d.fact 17 rfl)
  g__law_error := He.glo_ok X G (c.t.d.fact 18 rfl)
  g__law_full := He.glo_ok X G (c.t.d.fact 19 rfl)
  g__law_is := He.glo_ok X G (c.t.d.fact 20 rfl)
  g__law_lowest := He.glo_ok X G (c.t.d.fact 21 rfl)
  g__law_make := He.glo_ok X G (c.t.d.fact 22 rfl)
  g__law_mode := He.glo_ok X G (c.t.d.fact 23 rfl)
  g__law_modes := He.glo_ok X G (c.t.d.fact 24 rfl)
  g__law_nearest := He.glo_ok X G (c.t.d.fact 25 rfl)
  g__law_numbers := He.glo_ok X G (c.t.d.fact 26 rfl)
  g__law_power := He.glo_ok X G (c.t.d.fact 27 rfl)
  g__law_precision := He.glo_ok X G (c.t.d.fact 28 rfl)
  g__law_quotient := He.glo_ok X G (c.t.d.fact 29 rfl)
  g__law_ratio := He.glo_ok X G (c.t.d.fact 30 rfl)
  g__law_refused := He.glo_ok X G (c.t.d.fact 31 rfl)
  g__law_refused_right := He.glo_ok X G (c.t.d.fact 32 rfl)
  g__law_round := He.glo_ok X G (c.t.d.fact 33 rfl)
  g__law_small := He.glo_ok X G (c.t.d.fact 34 rfl)
  g__law_source := He.glo_ok X G (c.t.d.fact 35 rfl)
  g__law_value := He.glo_ok X G (c.t.d.fact 36 rfl)
  g__law_value_right := He.glo_ok X G (c.t.d.fact 37 rfl)
  b_abs := He.free_ok X G (c.t.d.fact 38 rfl)
  b_bool := He.free_ok X G (c.t.d.fact 39 rfl)
  g_check_base := He.glo_ok X G (c.t.d.fact 40 rfl)
  g_check_free := He.glo_ok X G (c.t.d.fact 41 rfl)
  g_check_mode := He.glo_ok X G (c.t.d.fact 42 rfl)
  g_converted := He.glo_ok X G (c.t.d.fact 43 rfl)
  g_count_digits := He.glo_ok X G (c.t.d.fact 44 rfl)
  g_digits_enough := He.glo_ok X G (c.t.d.fact 45 rfl)
  b_divmod := He.free_ok X G (c.t.d.fact 46 rfl)
  g_goes_up := He.glo_ok X G (c.t.d.fact 47 rfl)
  b_int := He.free_ok X G (c.t.d.fact 48 rfl)
  b_isinstance := He.free_ok X G (c.t.d.fact 49 rfl)
  g_law := He.glo_ok X G (c.t.d.fact 50 rfl)
  b_len := He.free_ok X G (c.t.d.fact 51 rfl)
  b_list := He.free_ok X G (c.t.d.fact 52 rfl)
  g_power := He.glo_ok X G (c.t.d.fact 53 rfl)
  b_range := He.free_ok X G (c.t.d.fact 54 rfl)
  g_ratio_place := He.glo_ok X G (c.t.d.fact 55 rfl)
  b_reversed := He.free_ok X G (c.t.d.fact 56 rfl)
  g_round_quotient := He.glo_ok X G (c.t.d.fact 57 rfl)
  g_rounded_ratio := He.glo_ok X G (c.t.d.fact 58 rfl)
  g_squares_up_to := He.glo_ok X G (c.t.d.fact 59 rfl)
  b_str := He.free_ok X G (c.t.d.fact 60 rfl)
  b_super := He.free_ok X G (c.t.d.fact 61 rfl)
  g_tie_goes_up := He.glo_ok X G (c.t.d.fact 62 rfl)
  b_tuple := He.free_ok X G (c.t.d.fact 63 rfl)
  g_without_zeros := He.glo_ok X G (c.t.d.fact 64 rfl)
  cls_Exact := He.cls_ok (c.t.d.fact 65 rfl)
  na_Exact_base := He.noat_ok (c.t.d.fact 66 rfl)
  na_Exact_coefficient := He.noat_ok (c.t.d.fact 67 rfl)
  na_Exact_exponent := He.noat_ok (c.t.d.fact 68 rfl)
  sup_BadBase := supT_of (d := ⟨"BadBase", "BadBase.__init__", defArgs st_BadBase, defBody st_BadBase, defScope st_BadBase, "self", ff_BadBase⟩) (c.de 0 _ rfl).1 (c.de 0 _ rfl).2 (by kernel_rfl)
  cval_Grid_LEAST := cvalB_ok (ex_at c.more 2 rfl)
  cval_Grid_MOST := cvalB_ok (ex_at c.more 3 rfl)
  cls_Grid := He.cls_ok (c.t.d.fact 69 rfl)
  na_Grid_base := He.noat_ok (c.t.d.fact 70 rfl)
  na_Grid_precision := He.noat_ok (c.t.d.fact 71 rfl)
  na_Grid_bottom := He.noat_ok (c.t.d.fact 72 rfl)
  na_Grid_top := He.noat_ok (c.t.d.fact 73 rfl)
  sup_BadMode := supT_of (d := ⟨"BadMode", "BadMode.__init__", defArgs st_BadMode, defBody st_BadMode, defScope st_BadMode, "self", ff_BadMode⟩) (c.de 1 _ rfl).1 (c.de 1 _ rfl).2 (by kernel_rfl)
  sup_BadGrid := supT_of (d := ⟨"BadGrid", "BadGrid.__init__", defArgs st_BadGrid, defBody st_BadGrid, defScope st_BadGrid, "self", ff_BadGrid⟩) (c.de 2 _ rfl).1 (c.de 2 _ rfl).2 (by kernel_rfl)
  mk_Exact := He.mkr_ok (c.t.d.fact 74 rfl)
  ins_Exact := insB_ok (He.cls_ok (c.t.d.fact 75 rfl)) (ex_at c.more 4 rfl)
  mk_Grid := He.mkr_ok (c.t.d.fact 76 rfl)
  excC_BadMode := excB_ok (ex_at c.more 5 rfl)
  ekit_BadMode_BadMode := of_decide_eq_true (ex_at c.more 6 rfl)
  ekit_BadMode_BadGrid := of_decide_eq_true (ex_at c.more 7 rfl)
  ekit_BadMode_BadBase := of_decide_eq_true (ex_at c.more 8 rfl)
  xfC_BadMode := excX (excB_ok (ex_at c.more 9 rfl))
  na_BadMode_mode := He.noat_ok (c.t.d.fact 77 rfl)
  excC_BadGrid := excB_ok (ex_at c.more 10 rfl)
  ekit_BadGrid_BadMode := of_decide_eq_true (ex_at c.more 11 rfl)
  ekit_BadGrid_BadGrid := of_decide_eq_true (ex_at c.more 12 rfl)
  ekit_BadGrid_BadBase := of_decide_eq_true (ex_at c.more 13 rfl)
  xfC_BadGrid := excX (excB_ok (ex_at c.more 14 rfl))
  na_BadGrid_what := He.noat_ok (c.t.d.fact 78 rfl)
  excC_BadBase := excB_ok (ex_at c.more 15 rfl)
  ekit_BadBase_BadMode := of_decide_eq_true (ex_at c.more 16 rfl)
  ekit_BadBase_BadGrid := of_decide_eq_true (ex_at c.more 17 rfl)
  ekit_BadBase_BadBase := of_decide_eq_true (ex_at c.more 18 rfl)
  xfC_BadBase := excX (excB_ok (ex_at c.more 19 rfl))
  na_BadBase_base := He.noat_ok (c.t.d.fact 79 rfl)
  exm_BadGrid_LostError := of_decide_eq_true (ex_at c.more 20 rfl)
  exm_BadBase_LostError := of_decide_eq_true (ex_at c.more 21 rfl)
  exm_BadMode_LostError := of_decide_eq_true (ex_at c.more 22 rfl)
def lo0 : List PySem.Str := ["_wall", "LostError", "BadBase", "BadGrid", "BadMode", "MixedBases", "TooLarge", "NoPlace", "NoQuotient", "NoPower", "power", "squares_up_to", "count_digits", "without_zeros", "check_base"]
def lo1 : List PySem.Str := ["Exact", "taken", "aligned", "combined", "multiplied", "compared", "quotient", "MODES", "NEAREST", "check_mode", "goes_up", "tie_goes_up", "round_quotient", "Grid", "check_same_base"]
def lo2 : List PySem.Str := ["check_free", "beyond", "ratio_place", "rounded_ratio", "converted", "digits_enough", "_law_source", "_law_draw", "_law_modes", "_law_mode", "_law_nearest", "_law_base", "_law_precision", "_law_power", "_law_count"]
def lo3 : List PySem.Str := ["_law_lowest", "_law_quotient", "_law_round", "_law_full", "_law_small", "_law_value", "_law_equal", "_law_make", "_law_is", "_law_ratio", "_law_bad_mode", "_law_bordered", "_law_enough", "_law_converted", "_law_numbers"]
def lo4 : List PySem.Str := ["_law_back_right", "_law_value_right", "_law_error", "_law_refused", "_law_digits", "_law_refused_right"]
def lo : List PySem.Str := lo0 ++ lo1 ++ lo2 ++ lo3 ++ lo4
abbrev hk : PySem.W.Hook := hookW 5 R.prog.main.file fa fn ts ex gs es
def ob (s : PySem.W.SharedT) : AlW := obsW R.prog.main.file fa fn ts ex gs es 5 (HandSHeadRun.getT s)
theorem ob_eq (s : PySem.W.SharedT) : ob s = hk.obs s.abs := obsW_eq (HandSHeadRun.getT_eq s)
theorem run (w : World) : HandSHeadRun.RunEq R (PySem.W.view R.prog [73]) hk ob 12000 lo w := by
  intro os; kernel_rfl
end My
open PySem PySem.W PySem.Calls PyProof.Rows
set_option maxHeartbeats 0 in
theorem PySem.Challenge.cw_lostinrows_k47_whole_there_and_back_holds : PySem.Challenge.rw_lostinrows_k47_whole_there_and_back.Holds := by
  w_on; o_law
  refine HandSHeadRun.head_any (r := OpenLaw.row PySem.Challenge.rw_lostinrows_k47_whole_there_and_back) (q := view (OpenLaw.row PySem.Challenge.rw_lostinrows_k47_whole_there_and_back).prog [73]) (H := My.hk) (ob := My.ob) (M := 12000) (loose := My.lo) (d := HandSHeadRun.topDef (OpenLaw.row PySem.Challenge.rw_lostinrows_k47_whole_there_and_back).prog 73) (kwd := []) My.ob_eq
    (by kernel_rfl) (fun s => by kernel_rfl) My.run (by kernel_rfl) (by kernel_rfl) (by kernel_rfl) (by rfl) (by first | assumption | decide +kernel) (by decide +kernel) ⟨rfl, rfl, rfl, rfl, rfl, by decide +kernel⟩ ?hw ?hc
  case hw => w_witness2
  case hc =>
    refine L2.walk_ofE (l := PySem.Challenge.rw_lostinrows_k47_whole_there_and_back) (n := 63) (k := 8) (x := "script") (CX := L2.CX0) rfl (by decide) (by kernel_rfl) ⟨rfl, by decide, by decide⟩ ?F (fun _ _ _ _ z => z)
    intro w mg fa h Y G hmg0
    obtain ⟨K, KX, c⟩ := Y
    have hmg : mg ("law" : PySem.Str) = some (.ref fa) := by
      have e : (HandSHeadRun.topDef (OpenLaw.row PySem.Challenge.rw_lostinrows_k47_whole_there_and_back).prog 73).name = ("law" : PySem.Str) := by kernel_rfl
      rw [← e]
      exact hmg0
    have T := My.txt_of KX G c
    have e := hmg.symm.trans T.g_law
    cases e
    obtain ⟨fd, hb, hF⟩ := My.ok_law (P := (PySem.Challenge.rw_lostinrows_k47_whole_there_and_back).prog) T
    exact ⟨K, fd, My.sp_law K, KX, hb, fun H a ns hl _ hS => ⟨a, ns, rfl, hS, hl, fun _ => rfl⟩, fun base _ _ => Z.fn0 (hF base) fun _ _ _ _ z => z⟩

