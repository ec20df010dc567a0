import PyProof.Rows.All
import Wide.All
import OpenK.AllK
import Wide.FinOn
import HandS.ForMost
import HandS.ForExc
import HandS.Wide
import HandS.IsInst
import HandS.Defaults
import HandS.Flow
import HandS.Codes
import HandS.ExcIs
import HandS.ExcField
import HandS.ExcInit
import KE.KExcIs
import HandS.HotCalls
import HandS.HeadHook1
import HandS.HeadHook2
import HandS.HeadHook3
import HandS.HeadHook4
import KE.KStateDown
import HandS.Head0
import HandS.Head1
import HandS.Head2
import HandS.HeadEnd
import PySem.Challenge.RW_lastnamed_k23_ratios_crosswise
set_option Elab.async false
set_option linter.all false
set_option maxRecDepth 100000
set_option maxHeartbeats 1000000
set_option Elab.async false
set_option linter.all false
set_option maxRecDepth 100000
namespace LN
open PySem PySem.Spec PyProof.Rows L2
abbrev St := L2.St
/-! ### slots -/
inductive GetAt : St → Nat → V → Prop
  | zero {l v} : GetAt (some v :: l) 0 v
  | succ {l i v x} : GetAt l i v → GetAt (x :: l) (i + 1) v
theorem GetAt.eq {s i v} (h : GetAt s i v) : s[i]? = some (some v) := by
  induction h with
  | zero => rfl
  | succ _ ih => simpa using ih
inductive SetTo {A : Type} : List A → Nat → A → List A → Prop
  | zero {x l v} : SetTo (x :: l) 0 v (v :: l)
  | succ {l i v x r} : SetTo l i v r → SetTo (x :: l) (i + 1) v (x :: r)
theorem SetTo.eq {A : Type} {s : List A} {i v r} (h : SetTo s i v r) : s.set i v = r := by
  induction h with
  | zero => rfl
  | succ _ ih => simp [ih]
theorem SetTo.lt {A : Type} {s : List A} {i v r} (h : SetTo s i v r) : i < s.length := by
  induction h with
  | zero => simp
  | succ _ ih => simpa using ih
inductive StartTo : List Str → List V → St → Prop
  | nil : StartTo [] [] []
  | non {x N s} : StartTo N [] s → StartTo (x :: N) [] (none :: s)
  | cons {x N v vs s} : StartTo N vs s → StartTo (x :: N) (v :: vs) (some v :: s)
theorem StartTo.eq {N vs s} (h : StartTo N vs s) : L2.start N vs = s := by
  unfold L2.start
  induction h with
  | nil => rfl
  | @non x N s _ ih =>
    simp only [List.map_nil, List.length_nil, Nat.sub_zero, List.nil_append, List.length_cons] at ih ⊢
    rw [List.replicate_succ, ih]
  | @cons x N v vs s _ ih =>
    simp only [List.map_cons, List.length_cons, Nat.add_sub_add_right, List.cons_append]
    rw [ih]
/-! ### keeping: all but the objects of M stand as they stood -/
def Kp (M : List Addr) (H H' : Hp) : Prop := ∀ b o, b ∉ M → H b = some o → H' b = some o
theorem Kp.refl {M H} : Kp M H H := fun _ _ _ h => h
theorem Kp.trans {M H H1 H2} (a : Kp M H H1) (b : Kp M H1 H2) : Kp M H H2 := fun x o n h => b x o n (a x o n h)
theorem Kp.mono {M M' H H'} (a : Kp M H H') (s : ∀ x, x ∈ M → x ∈ M') : Kp M' H H' := fun x o n h => a x o (fun z => n (s x z)) h
theorem Kp.any {M H H'} (a : Kp [] H H') : Kp M H H' := fun x o _ h => a x o (by simp) h
theorem Kp.get {M H H' b o} (a : Kp M H H') (n : b ∉ M) (h : H b = some o) : H' b = some o := a b o n h
theorem Kp.new {M H p o} (h : H p = none) : Kp M H (upd H p o) := fun b u _ e => by
  rw [upd_ne (ne_of_none e h)]
  exact e
theorem Kp.put {M H p o} (h : p ∈ M) : Kp M H (upd H p o) := fun b u n e => by
  rw [upd_ne (fun z => n (by rw [z]; exact h))]
  exact e
/-- a change at an object that the first heap did not know -/
theorem Kp.mut {M H H' p o} (a : Kp M H H') (h : H p = none) : Kp M H (upd H' p o) := fun b u n e => by
  rw [upd_ne (ne_of_none e h)]
  exact a b u n e
theorem Kp.putR {M H H' p o} (a : Kp M H H') (h : p ∈ M) : Kp M H (upd H' p o) := a.trans (Kp.put h)
/-- free in the later heap: free in the elder one (where it is no object of M) -/
theorem Kp.free {M H H' p} (a : Kp M H H') (n : p ∉ M) (h : H' p = none) : H p = none := by
  cases e : H p with
  | none => rfl
  | some o =>
    rw [a p o n e] at h
    cases h
theorem Kp.freeS {M H H' p} (a : Kp M H H') (hM : ∀ x, x ∈ M → ∃ o, H' x = some o) (h : H' p = none) : H p = none :=
  a.free (fun z => by
    obtain ⟨o, e⟩ := hM p z
    rw [h] at e
    cases e) h
theorem Kp.sq {K M H H' a xs} (k : Kp M H H') (n : a ∉ M) (h : SqL K H a xs) : SqL K H' a xs := by
  rcases h with (h | ⟨o, h⟩) | h
  · exact .inl (.inl (k _ _ n h))
  · exact .inl (.inr ⟨o, k _ _ n h⟩)
  · exact .inr h
theorem Kp.st {K M H H' a xs} (k : Kp M H H') (n : a ∉ M) (h : SqT K H a xs) : SqT K H' a xs := by
  rcases h with (h | ⟨o, h⟩) | h
  · exact .inl (.inl (k _ _ n h))
  · exact .inl (.inr ⟨o, k _ _ n h⟩)
  · exact .inr h
theorem nil_mem {a : Addr} : a ∉ ([] : List Addr) := by simp
theorem one_mem {a b : Addr} (h : a ≠ b) : a ∉ ([b] : List Addr) := by simpa using h
theorem two_mem {a b c : Addr} (h : a ≠ b) (h' : a ≠ c) : a ∉ ([b, c] : List Addr) := by simp [h, h']
theorem at_upd {H : Hp} {a b : Addr} {o u : HO} (n : a ≠ b) (h : H a = some o) : upd H b u a = some o := by
  rw [upd_ne n]
  exact h
theorem free_upd {H : Hp} {a b : Addr} {u : HO} (h : upd H b u a = none) : H a = none ∧ a ≠ b := by
  by_cases e : a = b
  · subst e
    rw [upd_same] at h
    cases h
  · rw [upd_ne e] at h
    exact ⟨h, e⟩
theorem sq_new {K} {H : Hp} {a b : Addr} {u : HO} {xs} (n : H b = none) (h : SqL K H a xs) : SqL K (upd H b u) a xs := (Kp.new (M := []) n).sq nil_mem h
theorem st_new {K} {H : Hp} {a b : Addr} {u : HO} {xs} (n : H b = none) (h : SqT K H a xs) : SqT K (upd H b u) a xs := (Kp.new (M := []) n).st nil_mem h
theorem sq_upd {K} {H : Hp} {a b : Addr} {u : HO} {xs} (n : a ≠ b) (h : SqL K H a xs) : SqL K (upd H b u) a xs := (Kp.put (M := [b]) (by simp)).sq (one_mem n) h
theorem st_upd {K} {H : Hp} {a b : Addr} {u : HO} {xs} (n : a ≠ b) (h : SqT K H a xs) : SqT K (upd H b u) a xs := (Kp.put (M := [b]) (by simp)).st (one_mem n) h
theorem ne_new {H : Hp} {a b : Addr} {o : HO} (h : H b = none) (h' : H a = some o) : a ≠ b := ne_of_none h' h
theorem ne_new' {H : Hp} {a b : Addr} {o : HO} (h : H b = none) (h' : H a = some o) : b ≠ a := (ne_of_none h' h).symm
theorem ix_tupB {X : Cx} {K : PySem.W.Frag} (e : X.K = K := by rfl) : IxR X (rIxT K) := by subst e; exact ix_tup
theorem ix_listB {X : Cx} {K : PySem.W.Frag} (e : X.K = K := by rfl) : IxR X (rIxL K) := by subst e; exact ix_list
/-! ### a def of the text, as callers meet it -/
def Okk (P : Program) (w : World) (K : PySem.W.Frag) (mg : Str → Option Value) (base : Heap) (CX : CXT) (k : Nat) (x : Str) (ps : List Str) (sp : Sp) : Prop :=
  ∃ f fd, mg x = some (.ref f) ∧ PySem.W.keepIn K (.ref f) = true ∧ Binds K fd ps [] ∧ FnOk P w K mg base CX k f fd ps sp
def DefAt (K : PySem.W.Frag) (mg : Str → Option Value) (x : Str) (ps : List Str) (st : Stmt) : Prop :=
  ∃ f fd, mg x = some (.ref f) ∧ FunD K x x (defArgs st) (defBody st) (defScope st) [] [] f fd ∧ Binds K fd ps []
section
variable {P : Program} {w : World} {K : PySem.W.Frag} {mg : Str → Option Value} {base : Heap} {CX : CXT}
theorem Okk.mono {j k : Nat} {x : Str} {ps : List Str} {sp : Sp} (h : Okk P w K mg base CX j x ps sp) (l : j ≤ k) : Okk P w K mg base CX k x ps sp := by
  obtain ⟨f, fd, a, b, c, d⟩ := h
  exact ⟨f, fd, a, b, c, d.mono l⟩
theorem Okk.imp {k : Nat} {x : Str} {ps : List Str} {sp sp' : Sp} (h : Okk P w K mg base CX k x ps sp) (l : ∀ vs H Q E, sp' vs H Q E → sp vs H Q E) : Okk P w K mg base CX k x ps sp' := by
  obtain ⟨f, fd, a, b, c, d⟩ := h
  exact ⟨f, fd, a, b, c, d.imp l⟩
/-- THE RULE for a def's body, the slots written out -/
theorem DefAt.ok {x : Str} {ps N : List Str} {st : Stmt} {k : Nat} {sp : Sp} (h : DefAt K mg x ps st) (S : FnScope N ps (defScope st)) (len : ∀ vs H Q E, sp vs H Q E → vs.length = ps.length)
    (hb : ∀ (cdv : Value) (f : Addr) (A : Around) (outer : List Env) (s : Shared) (H : Hp) (vs : List V) (Q : VK) (E : XK), Room k (A.deeper (envOfC x (defScope st) s.heap.objs.size f cdv)) → sp vs H Q E →
      ∃ t, PSs (cxOf CX P w K mg base N x (defScope st) f cdv A outer s H E).nox (defBody st) t ∧ ∃ sg, StartTo N vs sg ∧ t { nx := fun _ H' => Q .non H', rt := Q } sg H) : Okk P w K mg base CX (k + 1) x ps sp := by
  obtain ⟨f, fd, a, F, c⟩ := h
  refine ⟨f, fd, a, F.kp, c, F.ok S len fun cdv A outer s H vs Q E hr hs => ?_⟩
  obtain ⟨t, h1, sg, h2, h3⟩ := hb cdv f A outer s H vs Q E hr hs
  exact ⟨t, h1.nox, h2.eq ▸ h3⟩
/-- .. of the law's own def, whose object the end names -/
theorem okL {x : Str} {ps N : List Str} {st : Stmt} {k : Nat} {sp : Sp} {f : Addr} {fd : FuncData} (F : FunD K x x (defArgs st) (defBody st) (defScope st) [] [] f fd) (S : FnScope N ps (defScope st)) (len : ∀ vs H Q E, sp vs H Q E → vs.length = ps.length)
    (hb : ∀ (cdv : Value) (f : Addr) (A : Around) (outer : List Env) (s : Shared) (H : Hp) (vs : List V) (Q : VK) (E : XK), Room k (A.deeper (envOfC x (defScope st) s.heap.objs.size f cdv)) → sp vs H Q E →
      ∃ t, PSs (cxOf CX P w K mg base N x (defScope st) f cdv A outer s H E).nox (defBody st) t ∧ ∃ sg, StartTo N vs sg ∧ t { nx := fun _ H' => Q .non H', rt := Q } sg H) : FnOk P w K mg base CX (k + 1) f fd ps sp :=
  F.ok S len fun cdv A outer s H vs Q E hr hs => by
    obtain ⟨t, h1, sg, h2, h3⟩ := hb cdv f A outer s H vs Q E hr hs
    exact ⟨t, h1.nox, h2.eq ▸ h3⟩
/-- .. of a def that may raise -/
theorem DefAt.okX {x : Str} {ps N : List Str} {st : Stmt} {k : Nat} {sp : Sp} (h : DefAt K mg x ps st) (S : FnScope N ps (defScope st)) (len : ∀ vs H Q E, sp vs H Q E → vs.length = ps.length)
    (hb : ∀ (cdv : Value) (f : Addr) (A : Around) (outer : List Env) (s : Shared) (H : Hp) (vs : List V) (Q : VK) (E : XK), Room k (A.deeper (envOfC x (defScope st) s.heap.objs.size f cdv)) → sp vs H Q E →
      ∃ t, PSs (cxOf (L2.CX P w) P w K mg base N x (defScope st) f cdv A outer s H E) (defBody st) t ∧ ∃ sg, StartTo N vs sg ∧ t { nx := fun _ H' => Q .non H', rt := Q } sg H) : Okk P w K mg base (L2.CX P w) (k + 1) x ps sp := by
  obtain ⟨f, fd, a, F, c⟩ := h
  refine ⟨f, fd, a, F.kp, c, F.ok S len fun cdv A outer s H vs Q E hr hs => ?_⟩
  obtain ⟨t, h1, sg, h2, h3⟩ := hb cdv f A outer s H vs Q E hr hs
  exact ⟨t, h1, h2.eq ▸ h3⟩
end
section
variable {X : Cx} {k : Nat} {x : Str} {ps : List Str} {sp : Sp} {e : Expr} {es : List Expr} {t : TA} {p pos : Pos} {E : XK} {CX : CXT}
theorem pe_own (D : Okk X.prog X.w X.K X.mg X.base CX0 k x ps sp) (hr : Room k X.A) (ha : PA X (e :: es) t) (hg : Gl X x := by rfl)
    (hdb : (x == ("__debug__" : Str)) = false := by decide) (he : starEach (e :: es) X.env = (false, eval e X.env) :: starEach es X.env := by rfl) (hpl : (backTo pos (starEach es X.env)).any (·.1) = false := by rfl) :
    PE X (.Call (.Name x p) (e :: es) [] pos) (tCall sp [] E0 t) := by
  obtain ⟨f, fd, a, b, c, d⟩ := D
  exact pe_call d hr hg a b c .nil pass0 ha hdb he hpl
theorem pe_own0 (D : Okk X.prog X.w X.K X.mg X.base CX0 k x ps sp) (hr : Room k X.A) (hg : Gl X x := by rfl) (hdb : (x == ("__debug__" : Str)) = false := by decide) :
    PE X (.Call (.Name x p) [] [] pos) (tCall sp [] E0 tNil) := by
  obtain ⟨f, fd, a, b, c, d⟩ := D
  exact pe_call0 d hr hg a b c .nil pass0 hdb
end
/-! ### operators, built-ins by named readings -/
section
variable {X : Cx}
theorem CallR.imp {f : Value} {r r' : List V → Hp → VK → Prop} (h : CallR X f r) (i : ∀ xs H Q, r' xs H Q → r xs H Q) : CallR X f r' :=
  fun pins s σ H xs us Q I rr hh => h pins s σ H xs us Q I rr (i xs H Q hh)
def rInt1 : List V → Hp → VK → Prop := fun xs H Q => ∃ i, xs = [.int i] ∧ Q (.int i) H
theorem cr_int : CallR X (.type "int") rInt1 := CallR.imp call_int1 fun _ _ _ h => .inl h
def absI (i : Int) : Int := if i < 0 then -i else i
def rAbs : List V → Hp → VK → Prop := fun xs H Q => ∃ i, xs = [.int i] ∧ Q (.int (absI i)) H
theorem cr_abs : CallR X (.builtin "abs") rAbs := call_abs
def rLenS (K : PySem.W.Frag) : List V → Hp → VK → Prop := fun xs H Q => ∃ p ys, xs = [.ref p] ∧ (SqL K H p ys ∨ SqT K H p ys) ∧ Q (.int ys.length) H
theorem cr_len : CallR X (.builtin "len") (rLenS X.K) := call_len_seq
def rListS (K : PySem.W.Frag) : List V → Hp → VK → Prop := fun xs H Q => ∃ p ys, xs = [.ref p] ∧ (SqL K H p ys ∨ SqT K H p ys) ∧ ∀ l, H l = none → Q (.ref l) (upd H l (.lst ys))
theorem cr_list : CallR X (.type "list") (rListS X.K) := call_list_of
def rMax2 : List V → Hp → VK → Prop := fun xs H Q => ∃ i j, xs = [.int i, .int j] ∧ Q (.int (if j > i then j else i)) H
theorem cr_max2 (hc : X.calm = true) : CallR X (.builtin "max") rMax2 := call_max2 hc
def rMin2 : List V → Hp → VK → Prop := fun xs H Q => ∃ i j, xs = [.int i, .int j] ∧ Q (.int (if j < i then j else i)) H
theorem cr_min2 (hc : X.calm = true) : CallR X (.builtin "min") rMin2 := call_min2 hc
def CPowW (i j : Int) : Prop := 0 ≤ j ∧ (Builtin.Int.intBits i : Int) * j ≤ 2 ^ 27
theorem op_powW : OpR X (binaryOp .Pow) (rI CPowW fun i j => .int (i ^ j.toNat)) := opI fun _ _ _ _ _ _ _ hc q => pow_int hc.1 hc.2 q
end
section
variable {X : Cx}
/-- // by any great divisor but 0 -/
def CDivZ (_ j : Int) : Prop := j ≠ 0 ∧ j.natAbs.log2 < 9000
theorem op_fdivZ : OpR X (binaryOp .FloorDiv) (rI CDivZ fun i j => .int (i.fdiv j)) := opI fun _ _ _ _ _ _ _ hc q => floordiv_int hc.1 q (.inl (PyProof.noPylong_of_log2 hc.2))
end
/-! ### readings, one step each -/
section
variable {K : PySem.W.Frag} {σ σ' : St} {H : Hp} {Q : VK} {QB : Bool → Hp → Prop} {QL : List V → Hp → Prop} {D : Ends} {ta tb te tx : TE} {tt tu : TT} {tr : TA} {t u : TS} {g : TG} {gs : TGs} {i j : Int} {v x y z : V} {r : R2} {n m : Nat} {a p : Addr} {xs ys : List V}
theorem x_start {N : List Str} {vs : List V} (h : StartTo N vs σ) (q : t D σ H) : ∃ sg, StartTo N vs sg ∧ t D sg H := ⟨σ, h, q⟩
theorem x_var (h : GetAt σ n v) (q : Q v H) : tVar n σ H Q := ⟨v, h.eq, q⟩
theorem x_c (q : Q v H) : tC v σ H Q := q
theorem x_op (q : ta σ H fun x H1 => tb σ H1 fun y H2 => r x y H2 Q) : tOp r ta tb σ H Q := q
theorem x_un {r : V → Hp → VK → Prop} (q : ta σ H fun x H1 => r x H1 Q) : tUn r ta σ H Q := q
theorem x_I0 {g : Int → Int → V} (q : Q (g i j) H) : rI0 g (.int i) (.int j) H Q := ⟨i, j, rfl, rfl, q⟩
theorem x_I {C : Int → Int → Prop} {g : Int → Int → V} (c : C i j) (q : Q (g i j) H) : rI C g (.int i) (.int j) H Q := ⟨i, j, rfl, rfl, c, q⟩
theorem x_powC {z : Int} (c : CPowW i j) (e : i ^ j.toNat = z) (q : Q (.int z) H) : rI CPowW (fun i j => .int (i ^ j.toNat)) (.int i) (.int j) H Q := ⟨i, j, rfl, rfl, c, by
  show Q (.int (i ^ j.toNat)) H
  rw [e]
  exact q⟩
theorem x_U {g : Int → V} (q : Q (g i) H) : rU g (.int i) H Q := ⟨i, rfl, q⟩
theorem dec_congr {a b : Prop} [Decidable a] [Decidable b] (h : a ↔ b) : decide a = decide b := by
  by_cases x : b
  · rw [decide_eq_true x, decide_eq_true (h.mpr x)]
  · rw [decide_eq_false x, decide_eq_false fun y => x (h.mp y)]
theorem x_eqI (q : Q (.bl (decide (i = j))) H) : rEq (.int i) (.int j) H Q := ⟨rfl, by
  rw [show decide ((V.int i : V) = .int j) = decide (i = j) from dec_congr ⟨fun h => V.int.inj h, fun h => h ▸ rfl⟩]
  exact q⟩
theorem x_neI (q : Q (.bl (!decide (i = j))) H) : rNe (.int i) (.int j) H Q := ⟨rfl, by
  rw [show decide ((V.int i : V) = .int j) = decide (i = j) from dec_congr ⟨fun h => V.int.inj h, fun h => h ▸ rfl⟩]
  exact q⟩
theorem x_eqS {a b : Str} (q : Q (.bl (decide (a = b))) H) : rEq (.str a) (.str b) H Q := ⟨rfl, by
  rw [show decide ((V.str a : V) = .str b) = decide (a = b) from dec_congr ⟨fun h => V.str.inj h, fun h => h ▸ rfl⟩]
  exact q⟩
theorem x_neS {a b : Str} (q : Q (.bl (!decide (a = b))) H) : rNe (.str a) (.str b) H Q := ⟨rfl, by
  rw [show decide ((V.str a : V) = .str b) = decide (a = b) from dec_congr ⟨fun h => V.str.inj h, fun h => h ▸ rfl⟩]
  exact q⟩
theorem x_eqB {a b : Bool} (q : Q (.bl (a == b)) H) : rEq (.bl a) (.bl b) H Q := ⟨rfl, by
  rw [show decide ((V.bl a : V) = .bl b) = (a == b) from by cases a <;> cases b <;> rfl]
  exact q⟩
theorem x_nil (q : QL [] H) : tNil σ H QL := q
theorem x_cons (q : ta σ H fun x H1 => tr σ H1 fun xs H2 => QL (x :: xs) H2) : tCons ta tr σ H QL := q
theorem x_cb {r : List V → Hp → VK → Prop} (q : tr σ H fun vs H1 => r vs H1 Q) : tCB r tr σ H Q := q
theorem x_call {sp : Sp} {E : XK} (q : tr σ H fun vs H1 => sp vs H1 Q E) : tCall sp [] E tr σ H Q := by
  have e : (fun (vs : List V) (H1 : Hp) => sp (vs ++ []) H1 Q E) = fun vs H1 => sp vs H1 Q E := by
    funext vs H1
    rw [List.append_nil]
  show tr σ H (fun vs H1 => sp (vs ++ []) H1 Q E)
  rw [e]
  exact q
theorem sz_of {n : Nat} (h : n ≤ 100000) : n ≤ sizeLine := Nat.le_trans h (by decide)
theorem sz_lt {n : Nat} (h : n < 100000) : n < sizeLine := Nat.lt_of_lt_of_le h (by decide)
theorem x_tup (q : tr σ H fun xs H1 => xs.length ≤ 100000 ∧ ∀ p, H1 p = none → Q (.ref p) (upd H1 p (.tup xs))) (m : ∀ xs H1, (xs.length ≤ 100000 ∧ ∀ p, H1 p = none → Q (.ref p) (upd H1 p (.tup xs))) → (xs.length ≤ sizeLine ∧ ∀ p, H1 p = none → Q (.ref p) (upd H1 p (.tup xs))) := fun _ _ h => ⟨sz_of h.1, h.2⟩) (mono : ∀ (Q1 Q2 : List V → Hp → Prop), (∀ xs H, Q1 xs H → Q2 xs H) → tr σ H Q1 → tr σ H Q2) : tTup tr σ H Q := mono _ _ m q
/-- a display: the items, then a new address -/
def Disp (f : List V → HO) (Q : VK) : List V → Hp → Prop := fun xs H1 => xs.length ≤ sizeLine ∧ ∀ p, H1 p = none → Q (.ref p) (upd H1 p (f xs))
theorem x_tup' (q : tr σ H (Disp HO.tup Q)) : tTup tr σ H Q := q
theorem x_lst' (q : tr σ H (Disp HO.lst Q)) : tLst tr σ H Q := q
theorem x_disp {f : List V → HO} (l : xs.length ≤ 100000) (q : ∀ p, H p = none → Q (.ref p) (upd H p (f xs))) : Disp f Q xs H := ⟨sz_of l, q⟩
theorem x_ixL (h : SqL K H p xs) (ha : atI xs i = some v) (q : Q v H) : rIxL K (.ref p) (.int i) H Q := ⟨p, xs, i, v, rfl, rfl, h, ha, q⟩
theorem x_ixT (h : SqT K H p xs) (ha : atI xs i = some v) (q : Q v H) : rIxT K (.ref p) (.int i) H Q := ⟨p, xs, i, v, rfl, rfl, h, ha, q⟩
theorem ixN_at {n j : Nat} (hj : j < n) : ixN n (j : Int) = some j := by
  unfold ixN
  rw [if_pos (by omega), if_pos (by omega)]
  simp
theorem x_setN {k : Int} {j : Nat} {qh : Hp → Prop} (h : H p = some (.lst xs)) (hk : k = (j : Int)) (hx : SetTo xs j v ys) (q : qh (upd H p (.lst ys))) : rSetL (.ref p) (.int k) v H qh := ⟨p, xs, k, j, rfl, rfl, h, by rw [hk]; exact ixN_at hx.lt, hx.eq ▸ q⟩
theorem x_setN2 {k : Int} {j : Nat} {qh : Hp → Prop} (hk : k = (j : Int)) (hx : SetTo xs j v ys) (q : qh (upd H p (.lst ys))) : rSetL (.ref p) (.int k) v (upd H p (.lst xs)) qh := ⟨p, xs, k, j, rfl, rfl, upd_same, by rw [hk]; exact ixN_at hx.lt, by
  rw [upd_upd, hx.eq]
  exact q⟩
theorem x_setL {k : Int} {jx : Nat} {qh : Hp → Prop} (h : H p = some (.lst xs)) (hj : ixN xs.length k = some jx) (hx : SetTo xs jx v ys) (q : qh (upd H p (.lst ys))) : rSetL (.ref p) (.int k) v H qh := ⟨p, xs, k, jx, rfl, rfl, h, hj, hx.eq ▸ q⟩
theorem x_setL2 {k : Int} {jx : Nat} {qh : Hp → Prop} (hj : ixN xs.length k = some jx) (hx : SetTo xs jx v ys) (q : qh (upd H p (.lst ys))) : rSetL (.ref p) (.int k) v (upd H p (.lst xs)) qh := ⟨p, xs, k, jx, rfl, rfl, upd_same, hj, by
  rw [upd_upd, hx.eq]
  exact q⟩
theorem x_int1 (q : Q (.int i) H) : rInt1 [.int i] H Q := ⟨i, rfl, q⟩
theorem x_abs (q : Q (.int (absI i)) H) : rAbs [.int i] H Q := ⟨i, rfl, q⟩
theorem x_lenL (h : SqL K H p xs) (q : Q (.int xs.length) H) : rLenS K [.ref p] H Q := ⟨p, xs, rfl, .inl h, q⟩
theorem x_lenT (h : SqT K H p xs) (q : Q (.int xs.length) H) : rLenS K [.ref p] H Q := ⟨p, xs, rfl, .inr h, q⟩
theorem x_listL (h : SqL K H p xs) (q : ∀ l, H l = none → Q (.ref l) (upd H l (.lst xs))) : rListS K [.ref p] H Q := ⟨p, xs, rfl, .inl h, q⟩
theorem x_listT (h : SqT K H p xs) (q : ∀ l, H l = none → Q (.ref l) (upd H l (.lst xs))) : rListS K [.ref p] H Q := ⟨p, xs, rfl, .inr h, q⟩
theorem x_max2 (q : Q (.int (if j > i then j else i)) H) : rMax2 [.int i, .int j] H Q := ⟨i, j, rfl, q⟩
theorem x_min2 (q : Q (.int (if j < i then j else i)) H) : rMin2 [.int i, .int j] H Q := ⟨i, j, rfl, q⟩
-- tests
theorem x_test (q : te σ H fun x H1 => ∃ c, x = .bl c ∧ QB c H1) : tTest te σ H QB := q
theorem x_tB (q : te σ H fun x H1 => ∃ c, x = .bl c ∧ QB c H1) : tB te σ H QB := q
theorem x_isb {b : Bool} {R : Bool → Prop} (q : R b) : ∃ c, V.bl b = .bl c ∧ R c := ⟨b, rfl, q⟩
theorem x_not (q : tt σ H fun c H1 => QB (!c) H1) : tNot tt σ H QB := q
theorem x_and (q : tt σ H fun c H1 => if c = true then tu σ H1 QB else QB false H1) : tAnd tt tu σ H QB := q
theorem x_or (q : tt σ H fun c H1 => if c = true then QB true H1 else tu σ H1 QB) : tOr tt tu σ H QB := q
theorem x_andV (q : ta σ H fun x H1 => ∃ c, x = .bl c ∧ if c = true then tb σ H1 Q else Q (.bl false) H1) : tAndV ta tb σ H Q := q
theorem x_orV (q : ta σ H fun x H1 => ∃ c, x = .bl c ∧ if c = true then Q (.bl true) H1 else tb σ H1 Q) : tOrV ta tb σ H Q := q
theorem x_notV (q : ta σ H fun x H1 => ∃ c, x = .bl c ∧ Q (.bl (!c)) H1) : tNotV ta σ H Q := q
theorem x_ifE (q : tt σ H fun c H1 => if c = true then ta σ H1 Q else tb σ H1 Q) : tIf tt ta tb σ H Q := q
theorem x_dec {c A B : Prop} [Decidable c] (h1 : c → A) (h2 : ¬ c → B) : if decide c = true then A else B := by
  by_cases h : c
  · rw [decide_eq_true h, if_pos rfl]
    exact h1 h
  · rw [decide_eq_false h, if_neg Bool.false_ne_true]
    exact h2 h
theorem x_decT {c A B : Prop} [Decidable c] (h : c) (q : A) : if decide c = true then A else B := by rw [decide_eq_true h, if_pos rfl]; exact q
theorem x_decF {c A B : Prop} [Decidable c] (h : ¬ c) (q : B) : if decide c = true then A else B := by rw [decide_eq_false h, if_neg Bool.false_ne_true]; exact q
theorem x_ndecT {c A B : Prop} [Decidable c] (h : ¬ c) (q : A) : if (!decide c) = true then A else B := by rw [decide_eq_false h, if_pos (by decide)]; exact q
theorem x_ndecF {c A B : Prop} [Decidable c] (h : c) (q : B) : if (!decide c) = true then A else B := by rw [decide_eq_true h, if_neg (by decide)]; exact q
theorem x_sset {i : Nat} {o : Option V} {T : St → Prop} (h : SetTo σ i o σ') (q : T σ') : T (σ.set i o) := h.eq ▸ q
theorem x_ndec {c A B : Prop} [Decidable c] (h1 : ¬ c → A) (h2 : c → B) : if (!decide c) = true then A else B := by
  by_cases h : c
  · rw [decide_eq_true h, if_neg (by decide)]
    exact h2 h
  · rw [decide_eq_false h, if_pos (by decide)]
    exact h1 h
theorem x_bool {c : Bool} {A B : Prop} (h1 : c = true → A) (h2 : c = false → B) : if c = true then A else B := by
  cases c with
  | true => exact (if_pos rfl : (if true = true then A else B) = A) ▸ h1 rfl
  | false => exact (if_neg Bool.false_ne_true : (if false = true then A else B) = B) ▸ h2 rfl
theorem x_iteT {A B : Prop} (q : A) : if true = true then A else B := by rw [if_pos rfl]; exact q
theorem x_iteF {A B : Prop} (q : B) : if false = true then A else B := by rw [if_neg Bool.false_ne_true]; exact q
theorem x_iteNT {A B : Prop} (q : A) : if (!false) = true then A else B := by rw [if_pos (by decide)]; exact q
theorem x_iteNF {A B : Prop} (q : B) : if (!true) = true then A else B := by rw [if_neg (by decide)]; exact q
-- statements
theorem x_seq (q : t { D with nx := u D } σ H) : tSeq t u D σ H := q
theorem x_next (q : D.nx σ H) : tNext D σ H := q
theorem x_brk (q : D.bk σ H) : tBreak D σ H := q
theorem x_cont (q : D.ct σ H) : tCont D σ H := q
theorem x_drop (q : te σ H fun _ H1 => D.nx σ H1) : tDrop te D σ H := q
theorem x_ret (q : te σ H D.rt) : tRet te D σ H := q
theorem x_retN (q : D.rt .non H) : tRetN D σ H := q
theorem x_ifS (q : tt σ H fun b H1 => if b = true then t D σ H1 else u D σ H1) : tIfS tt t u D σ H := q
theorem x_asg (q : te σ H fun x H1 => g x σ H1 D.nx) : tAsg te g D σ H := q
theorem x_par {a b : Nat} {ta : TA} (q : ta σ H fun vs H1 => ∃ v w, vs = [v, w] ∧ D.nx ((σ.set a (some v)).set b (some w)) H1) : tPar a b ta D σ H := q
theorem x_par2 {a b : Nat} {v w : V} {σ1 σ2 : St} {nx : St → Hp → Prop} (h1 : SetTo σ a (some v) σ1) (h2 : SetTo σ1 b (some w) σ2) (q : nx σ2 H) : ∃ v' w', [v, w] = [v', w'] ∧ nx ((σ.set a (some v')).set b (some w')) H := ⟨v, w, rfl, by rw [h1.eq, h2.eq]; exact q⟩
theorem x_name {qs : St → Hp → Prop} (h : SetTo σ n (some v) σ') (q : qs σ' H) : gName n v σ H qs := by
  show qs (σ.set n (some v)) H
  rw [h.eq]
  exact q
theorem x_sub {to ti : TE} {s : TSet} {qs : St → Hp → Prop} (q : to σ H fun o H1 => ti σ H1 fun i H2 => s o i v H2 fun H3 => qs σ H3) : gSub to ti s v σ H qs := q
theorem x_aug {ip : TIp} (h : GetAt σ n x) (q : te σ H fun y H1 => ip x y H1 fun z H2 => D.nx (σ.set n (some z)) H2) : tAug n te ip D σ H := ⟨x, h.eq, q⟩
theorem x_ipI {f : Int → Int → Int} {qs : St → Hp → Prop} (h : SetTo σ n (some (.int (f i j))) σ') (q : qs σ' H) : ipI f (.int i) (.int j) H (fun z H2 => qs (σ.set n (some z)) H2) := ⟨i, j, rfl, rfl, by
  show qs (σ.set n (some (.int (f i j)))) H
  rw [h.eq]
  exact q⟩
theorem x_gtup {k : Nat} {qs : St → Hp → Prop} (h : SqT K H a xs) (l : xs.length = k) (q : gs xs σ H qs) : gTup K k gs (.ref a) σ H qs := ⟨a, xs, rfl, h, l, q⟩
theorem x_gnil {qs : St → Hp → Prop} (q : qs σ H) : gNil [] σ H qs := ⟨rfl, q⟩
theorem x_gcons {qs : St → Hp → Prop} (q : g v σ H fun σ' H' => gs xs σ' H' qs) : gCons g gs (v :: xs) σ H qs := ⟨v, xs, rfl, q⟩
theorem x_bm {T : String} {r : V → List V → Hp → VK → Prop} {to : TE} (q : to σ H fun x H1 => tyV K T x H1 ∧ tr σ H1 fun xs H2 => r x xs H2 Q) : tBM K T r to tr σ H Q := q
theorem x_bm0 {T : String} {r : V → List V → Hp → VK → Prop} {to : TE} (q : to σ H fun x H1 => tyV K T x H1 ∧ r x [] H1 Q) : tBM0 K T r to σ H Q := q
theorem x_tyL {A : Prop} (h : SqL K H a xs) (q : A) : tyV K "list" (.ref a) H ∧ A := ⟨.inl ⟨rfl, xs, h⟩, q⟩
theorem x_append (h : H a = some (.lst xs)) (l : xs.length < 100000) (q : Q .non (upd H a (.lst (xs ++ [v])))) : rAppend (.ref a) [v] H Q := ⟨a, xs, v, rfl, rfl, h, sz_lt l, q⟩
theorem x_cat {b : Addr} (h : H a = some (.lst xs)) (h' : H b = some (.lst ys)) (l : xs.length + ys.length ≤ 100000) (q : ∀ p, H p = none → Q (.ref p) (upd H p (.lst (xs ++ ys)))) : rCat (.ref a) (.ref b) H Q := ⟨a, b, xs, ys, rfl, rfl, h, h', sz_of l, q⟩
theorem x_slL {lo hi : Option Int} (h : SqL K H a xs) (q : ∀ p, H p = none → Q (.ref p) (upd H p (.lst (cutV xs lo hi)))) : rSlL K (.ref a) lo hi H Q := ⟨a, xs, rfl, h, q⟩
theorem x_sl {r : V → Option Int → Option Int → Hp → VK → Prop} {tl th : TO} (q : te σ H fun x H1 => tl σ H1 fun l H2 => th σ H2 fun u H3 => r x l u H3 Q) : tSl r te tl th σ H Q := q
theorem x_nopart {qo : Option Int → Hp → Prop} (q : qo none H) : tNoPart σ H qo := q
theorem x_part {qo : Option Int → Hp → Prop} (q : te σ H fun x H1 => ∃ i, x = .int i ∧ qo (some i) H1) : tPart te σ H qo := q
theorem x_isk {R : Int → Prop} (q : R i) : ∃ k, V.int i = .int k ∧ R k := ⟨i, rfl, q⟩
end
/-! ### loops -/
section
variable {K : PySem.W.Frag} {σ : St} {H : Hp} {D : Ends} {te : TE} {ta : TA} {tb : TS} {g : TG} {p : Addr} {xs : List V} {wi : TI}
def ForG (J : It) (g : TG) (tb : TS) (D : Ends) (σ : St) (H1 : Hp) : Prop := ∃ W : Nat → Nat → St → Hp → Prop, (∃ m, W 0 m σ H1) ∧ ∀ i m σ H, W i m σ H →
  (J.stop i H ∧ D.nx σ H) ∨ (J.go i H ∧ ∃ N : St → Hp → Prop, (∀ σ' H', N σ' H' → ∃ m', m' < m ∧ W (i + 1) m' σ' H') ∧ ∀ x H', J.yld i H x H' → g x σ H' fun σ2 H2 => tb { D with nx := N, ct := N, bk := D.nx } σ2 H2)
theorem x_for (q : wi σ H fun J H1 => ForG J g tb D σ H1) : tFor wi g tb D σ H := q
def ItL (K : PySem.W.Frag) (R : It → Hp → Prop) : VK := fun x H1 => ∃ a, x = .ref a ∧ (∃ xs, SqL K H1 a xs) ∧ R (Itl K a) H1
def ItT (K : PySem.W.Frag) (R : It → Hp → Prop) : VK := fun x H1 => ∃ a, x = .ref a ∧ (∃ xs, SqT K H1 a xs) ∧ R (Itt K a) H1
def ItR (R : It → Hp → Prop) : List V → Hp → Prop := fun vs H1 => ∃ j : Int, vs = [.int j] ∧ -(2 ^ 62) ≤ j ∧ j < 2 ^ 62 ∧ R (Itr 0 j.toNat) H1
def ItR2 (R : It → Hp → Prop) : List V → Hp → Prop := fun vs H1 => ∃ i j : Int, vs = [.int i, .int j] ∧ (-(2 ^ 62) ≤ i ∧ i < 2 ^ 62 ∧ -(2 ^ 62) ≤ j ∧ j < 2 ^ 62) ∧ R (Itr i (j - i).toNat) H1
theorem x_itL {R : It → Hp → Prop} (q : te σ H (ItL K R)) : iList K te σ H R := q
theorem x_itT {R : It → Hp → Prop} (q : te σ H (ItT K R)) : iTup K te σ H R := q
theorem x_itR {R : It → Hp → Prop} (q : ta σ H (ItR R)) : iRng1 ta σ H R := q
theorem x_itR2 {R : It → Hp → Prop} (q : ta σ H (ItR2 R)) : iRng2 ta σ H R := q
theorem l_list (h : SqL K H p xs) (Pv : Nat → St → Hp → Prop) (h0 : Pv 0 σ H) (hl : ∀ i s' H', i ≤ xs.length → Pv i s' H' → SqL K H' p xs)
    (hs : ∀ i x s' H', xs[i]? = some x → Pv i s' H' → g x s' H' fun σ2 H2 => tb { D with nx := Pv (i + 1), ct := Pv (i + 1), bk := D.nx } σ2 H2) (hd : ∀ s' H', Pv xs.length s' H' → D.nx s' H') : ItL K (fun J H1 => ForG J g tb D σ H1) (.ref p) H :=
  ⟨p, rfl, ⟨xs, h⟩, for_list Pv h0 hl hs hd⟩
theorem l_tup (h : SqT K H p xs) (Pv : Nat → St → Hp → Prop) (h0 : Pv 0 σ H) (hl : ∀ i s' H', i ≤ xs.length → Pv i s' H' → SqT K H' p xs)
    (hs : ∀ i x s' H', xs[i]? = some x → Pv i s' H' → g x s' H' fun σ2 H2 => tb { D with nx := Pv (i + 1), ct := Pv (i + 1), bk := D.nx } σ2 H2) (hd : ∀ s' H', Pv xs.length s' H' → D.nx s' H') : ItT K (fun J H1 => ForG J g tb D σ H1) (.ref p) H :=
  ⟨p, rfl, ⟨xs, h⟩, for_tup Pv h0 hl hs hd⟩
theorem l_rng {n : Int} (hn : n < 2 ^ 62) (Pv : Nat → St → Hp → Prop) (h0 : Pv 0 σ H)
    (hs : ∀ (i : Nat) s' H', (i : Int) < n → Pv i s' H' → g (.int (i : Int)) s' H' fun σ2 H2 => tb { D with nx := Pv (i + 1), ct := Pv (i + 1), bk := D.nx } σ2 H2) (hd : ∀ s' H', Pv n.toNat s' H' → D.nx s' H') (hm : -(2 ^ 62) ≤ n := by omega) : ItR (fun J H1 => ForG J g tb D σ H1) [.int n] H :=
  ⟨n, rfl, by omega, by omega, for_range (lo := 0) (n := n.toNat) Pv h0 (fun i s' H' hi hp => by
    have e : (0 : Int) + (i : Int) = (i : Int) := Int.zero_add _
    rw [e]
    exact hs i s' H' (by omega) hp) hd⟩
theorem l_rng2 {lo n : Int} (hn : -100000 < lo ∧ lo < 100000 ∧ -100000 < n ∧ n < 100000) (Pv : Nat → St → Hp → Prop) (h0 : Pv 0 σ H)
    (hs : ∀ (i : Nat) s' H', lo + (i : Int) < n → Pv i s' H' → g (.int (lo + (i : Int))) s' H' fun σ2 H2 => tb { D with nx := Pv (i + 1), ct := Pv (i + 1), bk := D.nx } σ2 H2) (hd : ∀ s' H', Pv (n - lo).toNat s' H' → D.nx s' H') : ItR2 (fun J H1 => ForG J g tb D σ H1) [.int lo, .int n] H :=
  ⟨lo, n, rfl, ⟨by omega, by omega, by omega, by omega⟩, for_range (lo := lo) (n := (n - lo).toNat) Pv h0 (fun i s' H' hi hp => hs i s' H' (by omega) hp) hd⟩
theorem x_cut {t u : TS} (M : St → Hp → Prop) (h1 : t { D with nx := M } σ H) (h2 : ∀ s' H', M s' H' → u D s' H') : C8.tCut t u D σ H := ⟨M, h1, h2⟩
theorem x_while2 {tt : TT} (W : Nat → St → Hp → Prop) (m0 : Nat) (h0 : W m0 σ H)
    (hs : ∀ m s' H', W m s' H' → tt s' H' fun b H1 => if b = true then ∃ N : St → Hp → Prop, (∀ s2 H2, N s2 H2 → ∃ m', m' < m ∧ W m' s2 H2) ∧ tb { D with nx := N, ct := N, bk := D.nx } s' H1 else D.nx s' H1) : tWhile tt tb D σ H :=
  ⟨W, ⟨m0, h0⟩, hs⟩
theorem x_wturn {W : Nat → St → Hp → Prop} {m : Nat} {H1 : Hp} (z : tb { D with nx := fun s2 H2 => ∃ m', m' < m ∧ W m' s2 H2, ct := fun s2 H2 => ∃ m', m' < m ∧ W m' s2 H2, bk := D.nx } σ H1) : ∃ N : St → Hp → Prop, (∀ s2 H2, N s2 H2 → ∃ m', m' < m ∧ W m' s2 H2) ∧ tb { D with nx := N, ct := N, bk := D.nx } σ H1 := ⟨_, fun _ _ n => n, z⟩
theorem x_truI {i : Int} {R : Bool → Prop} (z : R (i != 0)) : ∃ k, TruV K (.int i) H k ∧ R k := ⟨_, rfl, z⟩
theorem x_bne {i : Int} {A B : Prop} (h1 : i ≠ 0 → A) (h2 : i = 0 → B) : if (i != 0) = true then A else B := by
  by_cases e : i = 0
  · rw [if_neg (by simp [e])]
    exact h2 e
  · rw [if_pos (by simpa using e)]
    exact h1 e
theorem x_while {tt : TT} (W : Nat → St → Hp → Prop) (m0 : Nat) (h0 : W m0 σ H)
    (hs : ∀ m s' H', W m s' H' → tt s' H' fun b H1 => if b = true then tb { D with nx := fun s2 H2 => ∃ m', m' < m ∧ W m' s2 H2, ct := fun s2 H2 => ∃ m', m' < m ∧ W m' s2 H2, bk := D.nx } s' H1 else D.nx s' H1)
    (mono : ∀ (s' : St) (H' : Hp) (q1 q2 : Bool → Hp → Prop), (∀ b h, q1 b h → q2 b h) → tt s' H' q1 → tt s' H' q2) : tWhile tt tb D σ H := by
  refine ⟨W, ⟨m0, h0⟩, fun m s' H' hw => mono s' H' _ _ (fun b h z => ?_) (hs m s' H' hw)⟩
  cases b with
  | true =>
    rw [if_pos rfl] at z ⊢
    exact ⟨_, fun _ _ n => n, z⟩
  | false =>
    rw [if_neg Bool.false_ne_true] at z ⊢
    exact z
/-! ### comprehensions -/
def LcG (J : It) (g : TG) (tt : TT) (te : TE) (vs : List Nat) (σ : St) (H1 : Hp) (Q : VK) : Prop := ∀ D, H1 D = none → ∃ W : Nat → Nat → Hp → Prop, (∃ m, W 0 m (upd H1 D (.lst []))) ∧ ∀ i m H, W i m H →
  (J.stop i H ∧ Q (.ref D) H) ∨ (J.go i H ∧ ∃ Nx : Hp → Prop, (∀ H', Nx H' → ∃ m', m' < m ∧ W (i + 1) m' H') ∧ ∀ x H', J.yld i H x H' → g x (wipe σ vs) H' fun σ2 H2 => wipe σ2 vs = wipe σ vs ∧ tt σ2 H2 fun b H3 =>
    if b = true then te σ2 H3 fun y H4 => ∃ acc, H4 D = some (.lst acc) ∧ acc.length < sizeLine ∧ Nx (upd H4 D (.lst (acc ++ [y]))) else Nx H3)
theorem x_lc {tt : TT} {vs : List Nat} {Q : VK} (q : wi σ H fun J H1 => LcG J g tt te vs σ H1 Q) : tLc wi g tt te vs σ H Q := q
/-- over a list: one item after the other, by an invariant -/
theorem l_lcL {tt : TT} {vs : List Nat} {Q : VK} {s0 : St} (hw : wipe σ vs = s0) (h : SqL K H p xs) (Pv : Addr → Nat → Hp → Prop) (h0 : ∀ Dl, H Dl = none → Pv Dl 0 (upd H Dl (.lst []))) (hl : ∀ Dl i H', H Dl = none → i ≤ xs.length → Pv Dl i H' → SqL K H' p xs)
    (hs : ∀ Dl i x H', H Dl = none → xs[i]? = some x → Pv Dl i H' → g x s0 H' fun σ2 H2 => wipe σ2 vs = s0 ∧ tt σ2 H2 fun b H3 =>
      if b = true then te σ2 H3 fun y H4 => ∃ acc, H4 Dl = some (.lst acc) ∧ acc.length < sizeLine ∧ Pv Dl (i + 1) (upd H4 Dl (.lst (acc ++ [y]))) else Pv Dl (i + 1) H3)
    (hd : ∀ Dl H', H Dl = none → Pv Dl xs.length H' → Q (.ref Dl) H') : ItL K (fun J H1 => LcG J g tt te vs σ H1 Q) (.ref p) H := by
  subst hw
  exact ⟨p, rfl, ⟨xs, h⟩, fun Dl hD => lc_list (xs := xs) (Pv Dl) (h0 Dl hD) (fun i H' => hl Dl i H' hD) (fun i x H' => hs Dl i x H' hD) (fun H' => hd Dl H' hD)⟩
theorem l_lcR {tt : TT} {vs : List Nat} {Q : VK} {s0 : St} (hw : wipe σ vs = s0) {n : Int} (hn : n < 2 ^ 62) (Pv : Addr → Nat → Hp → Prop) (h0 : ∀ Dl, H Dl = none → Pv Dl 0 (upd H Dl (.lst [])))
    (hs : ∀ Dl (i : Nat) H', H Dl = none → (i : Int) < n → Pv Dl i H' → g (.int (i : Int)) s0 H' fun σ2 H2 => wipe σ2 vs = s0 ∧ tt σ2 H2 fun b H3 =>
      if b = true then te σ2 H3 fun y H4 => ∃ acc, H4 Dl = some (.lst acc) ∧ acc.length < sizeLine ∧ Pv Dl (i + 1) (upd H4 Dl (.lst (acc ++ [y]))) else Pv Dl (i + 1) H3)
    (hd : ∀ Dl H', H Dl = none → Pv Dl n.toNat H' → Q (.ref Dl) H') (hm : -(2 ^ 62) ≤ n := by omega) : ItR (fun J H1 => LcG J g tt te vs σ H1 Q) [.int n] H := by
  subst hw
  exact ⟨n, rfl, hm, hn, fun Dl hD => lc_range (lo := 0) (n := n.toNat) (Pv Dl) (h0 Dl hD) (fun i H' hi hp => by
    have e : (0 : Int) + (i : Int) = (i : Int) := Int.zero_add _
    rw [e]
    exact hs Dl i H' hD (by omega) hp) (fun H' => hd Dl H' hD)⟩
/-- what stands at a comprehension's list behind i items -/
def Made (M : List Addr) (H : Hp) (f : Nat → V) (Dl : Addr) (i : Nat) (H' : Hp) : Prop := Kp M H H' ∧ H' Dl = some (.lst ((List.range i).map f))
theorem made_step {M : List Addr} {f : Nat → V} {Dl : Addr} {i : Nat} {H' H4 : Hp} (hD : H Dl = none) (hM : Dl ∉ M) (m : Made M H f Dl i H') (k : Kp M H' H4) (hi : i < 100000) :
    ∃ acc, H4 Dl = some (.lst acc) ∧ acc.length < sizeLine ∧ Made M H f Dl (i + 1) (upd H4 Dl (.lst (acc ++ [f i]))) := by
  refine ⟨_, k _ _ hM m.2, ?_, (m.1.trans k).mut hD, ?_⟩
  · rw [List.length_map, List.length_range]
    exact Nat.lt_of_lt_of_le hi (by decide)
  · rw [List.range_succ, List.map_append]
    exact upd_same
/-- over a list, each item to a value by itself (all items taken) -/
theorem l_lcLm {vs : List Nat} {Q : VK} {s0 : St} (hw : wipe σ vs = s0) (M : List Addr) (f : Nat → V) (h : SqL K H p xs) (hp : p ∉ M) (hM : ∀ a ∈ M, ∃ o, H a = some o) (hz : xs.length ≤ 100000)
    (hs : ∀ Dl i x H' (Z : VK), H Dl = none → xs[i]? = some x → Kp M H H' → (∀ H4, Kp M H' H4 → Z (f i) H4) → g x s0 H' fun σ2 H2 => wipe σ2 vs = s0 ∧ te σ2 H2 Z)
    (gm : ∀ x s' H' (q1 q2 : St → Hp → Prop), (∀ a b, q1 a b → q2 a b) → g x s' H' q1 → g x s' H' q2)
    (hd : ∀ Dl H', H Dl = none → Kp M H H' → H' Dl = some (.lst ((List.range xs.length).map f)) → Q (.ref Dl) H') : ItL K (fun J H1 => LcG J g tYes te vs σ H1 Q) (.ref p) H := by
  have hD : ∀ Dl, H Dl = none → Dl ∉ M := fun Dl h1 h2 => by
    obtain ⟨o, e⟩ := hM Dl h2
    rw [h1] at e
    cases e
  refine l_lcL hw h (Made M H f) (fun Dl h1 => ⟨Kp.new h1, upd_same⟩) (fun Dl i H' _ _ m => m.1.sq hp h) (fun Dl i x H' h1 hx m => ?_) (fun Dl H' h1 m => hd Dl H' h1 m.1 m.2)
  have hi : i < xs.length := (List.getElem?_eq_some_iff.mp hx).1
  refine gm _ _ _ _ _ (fun s2 H2 z => ⟨z.1, ?_⟩) (hs Dl i x H' (fun y H4 => ∃ acc, H4 Dl = some (.lst acc) ∧ acc.length < sizeLine ∧ Made M H f Dl (i + 1) (upd H4 Dl (.lst (acc ++ [y])))) h1 hx m.1 fun H4 k4 => made_step h1 (hD Dl h1) m k4 (by omega))
  unfold tYes
  dsimp only
  rw [if_pos rfl]
  exact z.2
theorem gname_mono {n : Nat} (x : V) (s' : St) (H' : Hp) (q1 q2 : St → Hp → Prop) (h : ∀ a b, q1 a b → q2 a b) (z : gName n x s' H' q1) : gName n x s' H' q2 := h _ _ z
/-- i has at most n bits -/
def Bt (n : Nat) (i : Int) : Prop := i.natAbs < 2 ^ n
theorem Bt.mono {a b : Nat} {i : Int} (h : Bt a i) (l : a ≤ b) : Bt b i := Nat.lt_of_lt_of_le h (Nat.pow_le_pow_right (by decide) l)
theorem Bt.mul {a b : Nat} {i j : Int} (h : Bt a i) (h' : Bt b j) : Bt (a + b) (i * j) := wide_lt h h'
theorem Bt.neg {a : Nat} {i : Int} (h : Bt a i) : Bt a (-i) := by unfold Bt at *; rw [Int.natAbs_neg]; exact h
theorem Bt.add {a : Nat} {i j : Int} (h : Bt a i) (h' : Bt a j) : Bt (a + 1) (i + j) := by
  unfold Bt at *
  rw [Nat.pow_succ]
  have := Int.natAbs_add_le i j
  omega
theorem Bt.sub {a : Nat} {i j : Int} (h : Bt a i) (h' : Bt a j) : Bt (a + 1) (i - j) := by
  rw [Int.sub_eq_add_neg]
  exact h.add h'.neg
theorem Bt.le {a : Nat} {i j : Int} (h : Bt a i) (l : j.natAbs ≤ i.natAbs) : Bt a j := Nat.lt_of_le_of_lt l h
theorem Bt.mulW {a b : Nat} {i j : Int} (h : Bt a i) (h' : Bt b j) (l : a + b ≤ 999998 := by decide) : CMulW i j := wide_mul (a := a + 1) (b := b + 1) (h.mono (by omega)) (h'.mono (by omega)) (by omega) (by omega) (by omega)
theorem Bt.divW {a : Nat} {i j : Int} (p : 0 < j) (h : Bt a j) (l : a ≤ 8999 := by decide) : CDivW i j := wide_div (b := a + 1) p (h.mono (by omega)) (by omega) (by omega)
theorem Bt.lit {a : Nat} {i : Int} (h : decide (i.natAbs < 2 ^ a) = true) : Bt a i := of_decide_eq_true (p := i.natAbs < 2 ^ a) h
theorem Bt.divZ {a : Nat} {i j : Int} (p : j ≠ 0) (h : Bt a j) (l : a ≤ 8999 := by decide) : CDivZ i j := by
  have z : j.natAbs < 2 ^ (a + 1) := h.mono (by omega)
  have y := PySem.Flt.log2_lt_of (Nat.succ_pos a) z
  exact ⟨p, by omega⟩
/-- a remainder of which only the bounds are kept -/
theorem x_modF {i j : Int} {Q : VK} (h : 0 < j) (q : ∀ r, 0 ≤ r → r < j → Q (.int r) H) : rI (fun _ j => 0 < j) (fun i j => .int (i % j)) (.int i) (.int j) H Q :=
  ⟨i, j, rfl, rfl, h, q _ (Int.emod_nonneg _ (by omega)) (Int.emod_lt_of_pos _ h)⟩
end
/-! ### data: what a value stands for; A: what is told of the addresses of its lists and tuples -/
mutual
inductive Rp (A : Addr → Prop) (K : PySem.W.Frag) (H : Hp) : V → PyData → Prop
  | non : Rp A K H .non .none
  | bl (b : Bool) : Rp A K H (.bl b) (.bool b)
  | int (i : Int) : Rp A K H (.int i) (.int i)
  | str (x : Str) : Rp A K H (.str x) (.str x)
  | lst {a xs ds} : A a → SqL K H a xs → RpAll A K H xs ds → Rp A K H (.ref a) (.list ds)
  | tup {a xs ds} : A a → SqT K H a xs → RpAll A K H xs ds → Rp A K H (.ref a) (.tuple ds)
inductive RpAll (A : Addr → Prop) (K : PySem.W.Frag) (H : Hp) : List V → List PyData → Prop
  | nil : RpAll A K H [] []
  | cons {v vs d ds} : Rp A K H v d → RpAll A K H vs ds → RpAll A K H (v :: vs) (d :: ds)
end
mutual
theorem Rp.kp {A B : Addr → Prop} {K M H H'} (k : Kp M H H') (hA : ∀ a, A a → a ∉ M) (hB : ∀ a, A a → B a) : ∀ {v : V} {d : PyData}, Rp A K H v d → Rp B K H' v d
  | _, _, .non => .non
  | _, _, .bl b => .bl b
  | _, _, .int i => .int i
  | _, _, .str x => .str x
  | _, _, .lst a s r => .lst (hB _ a) (k.sq (hA _ a) s) (RpAll.kp k hA hB r)
  | _, _, .tup a s r => .tup (hB _ a) (k.st (hA _ a) s) (RpAll.kp k hA hB r)
theorem RpAll.kp {A B : Addr → Prop} {K M H H'} (k : Kp M H H') (hA : ∀ a, A a → a ∉ M) (hB : ∀ a, A a → B a) : ∀ {vs : List V} {ds : List PyData}, RpAll A K H vs ds → RpAll B K H' vs ds
  | _, _, .nil => .nil
  | _, _, .cons r t => .cons (Rp.kp k hA hB r) (RpAll.kp k hA hB t)
end
/-- nothing told of the addresses -/
abbrev Rr (K : PySem.W.Frag) (H : Hp) (v : V) (d : PyData) : Prop := Rp (fun _ => True) K H v d
abbrev RrAll (K : PySem.W.Frag) (H : Hp) (v : List V) (d : List PyData) : Prop := RpAll (fun _ => True) K H v d
theorem Rp.rr {A K H v d} (h : Rp A K H v d) : Rr K H v d := h.kp (M := []) Kp.refl (fun _ _ => nil_mem) fun _ _ => trivial
theorem RpAll.rr {A K H v d} (h : RpAll A K H v d) : RrAll K H v d := h.kp (M := []) Kp.refl (fun _ _ => nil_mem) fun _ _ => trivial
theorem Rp.to {A K H H' v d} (k : Kp [] H H') (h : Rp A K H v d) : Rp A K H' v d := h.kp k (fun _ _ => nil_mem) fun _ z => z
theorem RpAll.to {A K H H' v d} (k : Kp [] H H') (h : RpAll A K H v d) : RpAll A K H' v d := h.kp k (fun _ _ => nil_mem) fun _ z => z
theorem Rp.mono {A B K H v d} (h : Rp A K H v d) (hB : ∀ a, A a → B a) : Rp B K H v d := h.kp (M := []) Kp.refl (fun _ _ => nil_mem) hB
theorem Rp.awayS {K H H' v d p} (k : Kp [p] H H') (h : Rp (fun a => a ≠ p) K H v d) : Rp (fun a => a ≠ p) K H' v d := h.kp k (fun _ n => one_mem n) fun _ z => z
theorem RpAll.length {A K H} : ∀ {vs : List V} {ds : List PyData}, RpAll A K H vs ds → vs.length = ds.length
  | _, _, .nil => rfl
  | _, _, .cons _ t => by rw [List.length_cons, List.length_cons, t.length]
theorem RpAll.get {A K H} : ∀ {vs : List V} {ds : List PyData} {i : Nat} {d : PyData}, RpAll A K H vs ds → ds[i]? = some d → ∃ v, vs[i]? = some v ∧ Rp A K H v d
  | _, _, _, _, .nil, e => by simp at e
  | _, _, 0, _, .cons r _, e => by simp at e; subst e; exact ⟨_, rfl, r⟩
  | _, _, i + 1, d, .cons _ t, e => by
    obtain ⟨u, h1, h2⟩ := RpAll.get (i := i) (d := d) t (by simpa using e)
    exact ⟨u, by simpa using h1, h2⟩
theorem RpAll.get' {A K H} : ∀ {vs : List V} {ds : List PyData} {i : Nat} {v : V}, RpAll A K H vs ds → vs[i]? = some v → ∃ d, ds[i]? = some d ∧ Rp A K H v d
  | _, _, _, _, .nil, e => by simp at e
  | _, _, 0, _, .cons r _, e => by simp at e; subst e; exact ⟨_, rfl, r⟩
  | _, _, i + 1, d, .cons _ t, e => by
    obtain ⟨u, h1, h2⟩ := RpAll.get' (i := i) (v := d) t (by simpa using e)
    exact ⟨u, by simpa using h1, h2⟩
theorem RpAll.append {A K H} : ∀ {vs : List V} {ds : List PyData} {us : List V} {es : List PyData}, RpAll A K H vs ds → RpAll A K H us es → RpAll A K H (vs ++ us) (ds ++ es)
  | _, _, _, _, .nil, s => s
  | _, _, _, _, .cons r t, s => .cons r (RpAll.append t s)
theorem RpAll.ints {A K H} : ∀ {vs : List V} {ns : List Int}, RpAll A K H vs (ns.map .int) → vs = ns.map V.int
  | _, [], .nil => rfl
  | _, n :: ns, .cons r t => by
    cases r
    rw [List.map_cons, RpAll.ints t]
theorem RpAll.of_ints {A K H} : ∀ {ns : List Int}, RpAll A K H (ns.map V.int) (ns.map .int)
  | [] => .nil
  | _ :: _ => .cons (.int _) RpAll.of_ints
theorem Rp.ints {A K H v} {ns : List Int} (h : Rp A K H v (.list (ns.map .int))) : ∃ a, v = .ref a ∧ A a ∧ SqL K H a (ns.map V.int) := by
  cases h with
  | lst a s r =>
    have e := r.ints
    subst e
    exact ⟨_, rfl, a, s⟩
theorem Rp.of_ints {A : Addr → Prop} {K H a} {ns : List Int} (h : SqL K H a (ns.map V.int)) (ha : A a) : Rp A K H (.ref a) (.list (ns.map .int)) := .lst ha h RpAll.of_ints
theorem Rp.intv {A K H v i} (h : Rp A K H v (.int i)) : v = .int i := by cases h; rfl
theorem Rp.blv {A K H v i} (h : Rp A K H v (.bool i)) : v = .bl i := by cases h; rfl
theorem Rp.strv {A K H v i} (h : Rp A K H v (.str i)) : v = .str i := by cases h; rfl
theorem Rp.nonv {A K H v} (h : Rp A K H v .none) : v = .non := by cases h; rfl
mutual
theorem Rp.dp {A K H} : ∀ {v : V} {d : PyData}, Rp A K H v d → Dp K H v d
  | _, _, .non => .non
  | _, _, .bl b => .bl b
  | _, _, .int i => .int i
  | _, _, .str x => .str x
  | _, _, .lst _ s r => .lst s (RpAll.dp r)
  | _, _, .tup _ s r => .tup s (RpAll.dp r)
theorem RpAll.dp {A K H} : ∀ {vs : List V} {ds : List PyData}, RpAll A K H vs ds → DpAll K H vs ds
  | _, _, .nil => .nil
  | _, _, .cons r t => .cons (Rp.dp r) (RpAll.dp t)
end
/-! ### isinstance of built-in classes -/
section
variable {K : PySem.W.Frag}
theorem kt_NoneType_bool : PySem.W.kitOne K (.type "NoneType") (.type "bool") = some false := by rfl
theorem kt_NoneType_int : PySem.W.kitOne K (.type "NoneType") (.type "int") = some false := by rfl
theorem kt_NoneType_str : PySem.W.kitOne K (.type "NoneType") (.type "str") = some false := by rfl
theorem kt_NoneType_list : PySem.W.kitOne K (.type "NoneType") (.type "list") = some false := by rfl
theorem kt_NoneType_tuple : PySem.W.kitOne K (.type "NoneType") (.type "tuple") = some false := by rfl
theorem kta_NoneType : PySem.W.kitAny K (.type "NoneType") [.type "list", .type "tuple"] = some false := by rfl
theorem kt_bool_bool : PySem.W.kitOne K (.type "bool") (.type "bool") = some true := by rfl
theorem kt_bool_int : PySem.W.kitOne K (.type "bool") (.type "int") = some true := by rfl
theorem kt_bool_str : PySem.W.kitOne K (.type "bool") (.type "str") = some false := by rfl
theorem kt_bool_list : PySem.W.kitOne K (.type "bool") (.type "list") = some false := by rfl
theorem kt_bool_tuple : PySem.W.kitOne K (.type "bool") (.type "tuple") = some false := by rfl
theorem kta_bool : PySem.W.kitAny K (.type "bool") [.type "list", .type "tuple"] = some false := by rfl
theorem kt_int_bool : PySem.W.kitOne K (.type "int") (.type "bool") = some false := by rfl
theorem kt_int_int : PySem.W.kitOne K (.type "int") (.type "int") = some true := by rfl
theorem kt_int_str : PySem.W.kitOne K (.type "int") (.type "str") = some false := by rfl
theorem kt_int_list : PySem.W.kitOne K (.type "int") (.type "list") = some false := by rfl
theorem kt_int_tuple : PySem.W.kitOne K (.type "int") (.type "tuple") = some false := by rfl
theorem kta_int : PySem.W.kitAny K (.type "int") [.type "list", .type "tuple"] = some false := by rfl
theorem kt_str_bool : PySem.W.kitOne K (.type "str") (.type "bool") = some false := by rfl
theorem kt_str_int : PySem.W.kitOne K (.type "str") (.type "int") = some false := by rfl
theorem kt_str_str : PySem.W.kitOne K (.type "str") (.type "str") = some true := by rfl
theorem kt_str_list : PySem.W.kitOne K (.type "str") (.type "list") = some false := by rfl
theorem kt_str_tuple : PySem.W.kitOne K (.type "str") (.type "tuple") = some false := by rfl
theorem kta_str : PySem.W.kitAny K (.type "str") [.type "list", .type "tuple"] = some false := by rfl
theorem kt_list_bool : PySem.W.kitOne K (.type "list") (.type "bool") = some false := by rfl
theorem kt_list_int : PySem.W.kitOne K (.type "list") (.type "int") = some false := by rfl
theorem kt_list_str : PySem.W.kitOne K (.type "list") (.type "str") = some false := by rfl
theorem kt_list_list : PySem.W.kitOne K (.type "list") (.type "list") = some true := by rfl
theorem kt_list_tuple : PySem.W.kitOne K (.type "list") (.type "tuple") = some false := by rfl
theorem kta_list : PySem.W.kitAny K (.type "list") [.type "list", .type "tuple"] = some true := by rfl
theorem kt_tuple_bool : PySem.W.kitOne K (.type "tuple") (.type "bool") = some false := by rfl
theorem kt_tuple_int : PySem.W.kitOne K (.type "tuple") (.type "int") = some false := by rfl
theorem kt_tuple_str : PySem.W.kitOne K (.type "tuple") (.type "str") = some false := by rfl
theorem kt_tuple_list : PySem.W.kitOne K (.type "tuple") (.type "list") = some false := by rfl
theorem kt_tuple_tuple : PySem.W.kitOne K (.type "tuple") (.type "tuple") = some true := by rfl
theorem kta_tuple : PySem.W.kitAny K (.type "tuple") [.type "list", .type "tuple"] = some true := by rfl
end
/-! ### isinstance -/
section
variable {K : PySem.W.Frag} {H : Hp} {Q : VK}
theorem tyx_l {a xs} (h : SqL K H a xs) : TyX K H (.ref a) (.type "list") := by
  rcases h with (h | ⟨o, h⟩) | ⟨o, its, n, h1, h2, _⟩
  · exact .base (.lst h)
  · exact .base (.frz h)
  · exact .kList h1 h2
theorem tyx_t {a xs} (h : SqT K H a xs) : TyX K H (.ref a) (.type "tuple") := by
  rcases h with (h | ⟨o, h⟩) | ⟨o, its, n, h1, h2, _⟩
  · exact .base (.tup h)
  · exact .fTuple h
  · exact .kTuple h1 h2
theorem x_isi {x : V} {T C : String} {b : Bool} (ht : TyX K H x (.type T)) (hk : PySem.W.kitOne K (.type T) (.type C) = some b) (q : Q (.bl b) H) : rIsi K [x, .ty C] H Q := ⟨x, .ty C, .type T, .type C, b, rfl, .ty C, ht, hk, q⟩
theorem x_isiT {x : V} {tp : Addr} {T C D : String} {b : Bool} (htp : H tp = some (.tup [.ty C, .ty D])) (ht : TyX K H x (.type T)) (hk : PySem.W.kitAny K (.type T) [.type C, .type D] = some b) (q : Q (.bl b) H) : rIsiT K [x, .ref tp] H Q :=
  ⟨x, tp, [.ty C, .ty D], .type T, [.type C, .type D], b, rfl, htp, .cons (.ty C) (.cons (.ty D) .nil), ht, hk, q⟩
theorem x_ixSL {p : Addr} {i : Int} {v : V} {xs : List V} (h : SqL K H p xs) (ha : atI xs i = some v) (q : Q v H) : rIx K (.ref p) (.int i) H Q := .inl (x_ixL h ha q)
theorem x_ixST {p : Addr} {i : Int} {v : V} {xs : List V} (h : SqT K H p xs) (ha : atI xs i = some v) (q : Q v H) : rIx K (.ref p) (.int i) H Q := .inr (.inl (x_ixT h ha q))
/-- told is None -/
def rIsN : R2 := fun x y H Q => y = .non ∧ Q (.bl (decide (x = .non))) H
theorem op_isN' {X : Cx} : OpR X (compareOp .Is) rIsN := op_isN
theorem x_isN {x : V} (q : Q (.bl (decide (x = .non))) H) : rIsN x .non H Q := ⟨rfl, q⟩
theorem x_isN0 (q : Q (.bl true) H) : rIsN .non .non H Q := ⟨rfl, q⟩
theorem x_isN1 {i : Int} (q : Q (.bl false) H) : rIsN (.int i) .non H Q := ⟨rfl, q⟩
theorem x_isN2 {i : Bool} (q : Q (.bl false) H) : rIsN (.bl i) .non H Q := ⟨rfl, q⟩
theorem x_isN3 {i : Str} (q : Q (.bl false) H) : rIsN (.str i) .non H Q := ⟨rfl, q⟩
theorem x_isN4 {i : Addr} (q : Q (.bl false) H) : rIsN (.ref i) .non H Q := ⟨rfl, q⟩
def rNotN : R2 := fun x y H Q => y = .non ∧ Q (.bl (!decide (x = .non))) H
theorem op_notN' {X : Cx} : OpR X (compareOp .IsNot) rNotN := op_notN
theorem x_notN {x : V} (q : Q (.bl (!decide (x = .non))) H) : rNotN x .non H Q := ⟨rfl, q⟩
end
/-- a def of which nothing is asked (a recursion's last level) -/
theorem DefAt.never {P : Program} {w : World} {K : PySem.W.Frag} {mg : Str → Option Value} {base : Heap} {CX : CXT} {k : Nat} {x : Str} {ps : List Str} {st : Stmt} (h : DefAt K mg x ps st) : Okk P w K mg base CX k x ps (fun _ _ _ _ => False) := by
  obtain ⟨f, fd, a, F, c⟩ := h
  exact ⟨f, fd, a, F.kp, c, ⟨fun _ _ _ _ z => z.elim, fun _ _ _ _ _ _ _ _ _ _ _ _ _ z => z.elim⟩⟩
end LN
namespace LN
open PySem PySem.Spec PyProof.Rows L2 L2H
/-! ### a def that is handed the exception which is being handled (p: its address, its object); nothing leaves it -/
structure FnE (P : Program) (w : World) (K : PySem.W.Frag) (mg : Str → Option Value) (base : Heap) (k : Nat) (f : Addr) (fd : FuncData) (ps : List Str) (sp : Addr × Obj → Sp) : Prop where
  len : ∀ p vs H Q E, sp p vs H Q E → vs.length = ps.length
  run : ∀ (A : Around) (outer : List Env) (s : Shared) (H : Hp) (args : Args) (us : List Value) (vs : List V) (Q : VK) (p : Addr × Obj), RoomH k A → PinOk outer H s p → Env0 P w K mg base A outer s H →
    BindsTo s fd args (ps.zip us) → Vals vs us → sp p vs H Q E0 → codeAny (model P w) A (.call (.ref f) args) (CR CX0 outer P w H s Q E0) s
theorem FnE.mono {P : Program} {w : World} {K : PySem.W.Frag} {mg : Str → Option Value} {base : Heap} {j k : Nat} {f : Addr} {fd : FuncData} {ps : List Str} {sp : Addr × Obj → Sp} (F : FnE P w K mg base j f fd ps sp) (h : j ≤ k) : FnE P w K mg base k f fd ps sp :=
  ⟨F.len, fun A outer s H args us vs Q p hr => F.run A outer s H args us vs Q p (hr.mono h)⟩
abbrev cxE (P : Program) (w : World) (K : PySem.W.Frag) (mg : Str → Option Value) (base : Heap) (N : List Str) (qual : Str) (scope : Scope) (f : Addr) (cd : Value) (A : Around) (outer : List Env) (s : Shared) (H : Hp) (p : Addr × Obj) : Cx := cxH CX0 P w K mg base N qual scope f cd A outer s H E0 p
section
variable {P : Program} {w : World} {K : PySem.W.Frag} {mg : Str → Option Value} {base : Heap}
theorem fnE_of {k : Nat} {f : Addr} {name qual : Str} {params : Arguments} {body : List Stmt} {scope : Scope} {dV kV doc pm cdv ct oc : Value} {an od : Option Addr} {osl : Array (Option Value)} {N ps : List Str} {sp : Addr × Obj → Sp}
    (lk : K.lookup f = some ⟨oc, od, .func (PySem.W.fnOf name qual params body scope dV kV doc pm an cdv ct), osl⟩) (hcd : PySem.W.codeIn K cdv qual = true) (S : FnScope N ps scope) (len : ∀ p vs H Q E, sp p vs H Q E → vs.length = ps.length)
    (hbody : ∀ (A : Around) (outer : List Env) (s : Shared) (H : Hp) (vs : List V) (Q : VK) (p : Addr × Obj), RoomH k (A.deeper (envOfC qual scope s.heap.objs.size f cdv)) → sp p vs H Q E0 →
      ∃ t, PSs (cxE P w K mg base N qual scope f cdv A outer s H p) body t ∧ t { nx := fun _ H' => Q .non H', rt := Q } (L2.start N vs) H) :
    FnE P w K mg base (k + 1) f (PySem.W.fnOf name qual params body scope dV kV doc pm an cdv ct) ps sp where
  len := len
  run := by
    intro A outer s H args us vs Q p hr hpin e0 hb rv hsp
    have hl := len _ _ _ _ _ hsp
    have kept : ∀ b o, base.get? b = some o → s.heap.get? b = some o := fun b o e => (e0.bs b o e).1
    have KX : K.In s.heap := e0.mod.kin.keeps kept
    have nolim : s.heap.NoLimit := e0.mod.nolimit.keeps kept
    refine codeAny_call_function hr.depth (KX _ _ lk) rfl S.co S.gen rfl (PySem.W.codeRec_of KX hcd) (hb _ _ _ _ ?_)
    refine wpAny_newFunctionEnv_cells S.kind ?hk fun env he s1 x => ?_
    case hk =>
      rintro ⟨n, v⟩ hy
      cases S.par n (List.of_mem_zip hy).1 with
      | inl q => exact .inl q
      | inr q => exact .inr ⟨q, PySem.W.cellsFrom_some _ _ _ (.inl q)⟩
    subst he
    refine ⟨nolim.keeps x.toInCall.keep, codeAny_func ?_⟩
    obtain ⟨t, ht, hq⟩ := hbody A outer s H vs Q p (hr.deeper _) hsp
    have J0 := inv_startH (CX := CX0) (E := E0) (N := N) (f := f) (cd := cdv) (qual := qual) S hpin e0 hl rv x
    refine wpAny_mono (ht.run [] s1 _ H _ J0 hq) (fun fl s' hs => ?_) fun e s' hs => hs
    cases fl with
    | brk => exact hs.elim fun _ z => z.elim fun _ y => y.2.elim
    | cont => exact hs.elim fun _ z => z.elim fun _ y => y.2.elim
    | next =>
      obtain ⟨sg, H', J, q⟩ := hs
      exact ⟨V.non, H', J.os, J.bare, J.base, J.hok, rfl, q⟩
    | ret u =>
      obtain ⟨v, sg, H', J, r, q⟩ := hs
      exact ⟨v, H', J.os, J.bare, J.base, J.hok, r, q⟩
end
section
variable {X : Cx} {k : Nat} {f : Addr} {fd : FuncData} {ps : List Str} {sp : Addr × Obj → Sp} {x : Str} {pos q : Pos} {e : Expr} {es : List Expr} {t : TA} {p : Addr × Obj}
theorem run_fnE {pins : List (Addr × Obj)} {σ : St} {H : Hp} {s : Shared} {Q : VK} {us : List Value} {vs : List V} (F : FnE X.prog X.w X.K X.mg X.base k f fd ps sp) (hr : RoomH k X.A) (hp : p ∈ X.pn) (hb : Binds X.K fd ps [])
    (J : Inv X pins σ H s) (rv : Vals vs us) (hh : sp p vs H Q E0) : wpAny (model X.prog X.w) X.A (call (.ref f) us) (EP X pins σ Q) X.xe s := by
  have hlen : us.length = ps.length := rv.length.symm.trans (F.len _ _ _ _ _ hh)
  have bnd := hb s us J.kIn (by simpa using hlen)
  rw [List.append_nil] at bnd
  obtain ⟨g1, g2, g3, g4, g5⟩ := J.pin p (List.mem_append_left _ hp)
  have hpin : PinOk X.stack H s p := ⟨g1, g2, fun hm => by
    rcases List.mem_cons.mp (J.stkSub p.1 hm) with z | z
    · exact g3 z
    · exact g4 z, g5⟩
  refine wpAny_call (codeAny_mono (F.run X.A X.stack s H ⟨us, []⟩ us vs Q p hr hpin J.env0 bnd rv hh) fun r s' hq => ?_)
  match r, hq with
  | .ok (.ret u), hq => exact J.after hq
  | .ok .next, hq => exact hq.elim
  | .ok .brk, hq => exact hq.elim
  | .ok .cont, hq => exact hq.elim
  | .error e, hq => exact hq.elim
def tCallE (sp : Addr × Obj → Sp) (p : Addr × Obj) (t : TA) : TE := fun σ H Q => t σ H fun vs H1 => sp p vs H1 Q E0
def OkE (P : Program) (w : World) (K : PySem.W.Frag) (mg : Str → Option Value) (base : Heap) (k : Nat) (x : Str) (ps : List Str) (sp : Addr × Obj → Sp) : Prop :=
  ∃ f fd, mg x = some (.ref f) ∧ PySem.W.keepIn K (.ref f) = true ∧ Binds K fd ps [] ∧ FnE P w K mg base k f fd ps sp
theorem OkE.mono {P : Program} {w : World} {K : PySem.W.Frag} {mg : Str → Option Value} {base : Heap} {j k : Nat} {x : Str} {ps : List Str} {sp : Addr × Obj → Sp} (h : OkE P w K mg base j x ps sp) (l : j ≤ k) : OkE P w K mg base k x ps sp := by
  obtain ⟨f, fd, a, b, c, d⟩ := h
  exact ⟨f, fd, a, b, c, d.mono l⟩
theorem pe_ownE (D : OkE X.prog X.w X.K X.mg X.base k x ps sp) (hr : RoomH k X.A) (hp : p ∈ X.pn) (ha : PA X (e :: es) t) (hg : Gl X x := by rfl)
    (hdb : (x == ("__debug__" : Str)) = false := by decide) (he : starEach (e :: es) X.env = (false, eval e X.env) :: starEach es X.env := by rfl) (hpl : (backTo pos (starEach es X.env)).any (·.1) = false := by rfl) :
    PE X (.Call (.Name x q) (e :: es) [] pos) (tCallE sp p t) := by
  obtain ⟨f, fd, a, b, c, d⟩ := D
  refine ⟨fun pins s σ H Q I h => ?_⟩
  refine wpAny_Call_Name_kw (ld_glob I hg a ?_ hdb)
  refine PySem.W.callWith_K (h₀ := X.base) I.ok.mod.kin b (thn (ha.run pos pins s σ H _ I h) fun us s1 hh => ?_) he hpl
  obtain ⟨vs, H1, I1, r, z⟩ := hh
  exact ⟨I1.kIn, run_fnE d hr hp c I1 r z⟩
theorem DefAt.okE {P : Program} {w : World} {K : PySem.W.Frag} {mg : Str → Option Value} {base : Heap} {N : List Str} {st : Stmt} (h : DefAt K mg x ps st) (S : FnScope N ps (defScope st)) (len : ∀ p vs H Q E, sp p vs H Q E → vs.length = ps.length)
    (hb : ∀ (cdv : Value) (f : Addr) (A : Around) (outer : List Env) (s : Shared) (H : Hp) (vs : List V) (Q : VK) (p : Addr × Obj), RoomH k (A.deeper (envOfC x (defScope st) s.heap.objs.size f cdv)) → sp p vs H Q E0 →
      ∃ t, PSs (cxE P w K mg base N x (defScope st) f cdv A outer s H p) (defBody st) t ∧ ∃ sg, StartTo N vs sg ∧ t { nx := fun _ H' => Q .non H', rt := Q } sg H) : OkE P w K mg base (k + 1) x ps sp := by
  obtain ⟨f, fd, a, F, c⟩ := h
  obtain ⟨oc, od, dV, kV, doc, pm, an, cdv, ct, osl, rfl, lk, hcd, _, _⟩ := F.ex
  refine ⟨f, _, a, F.kp, c, fnE_of lk hcd S len fun A outer s H vs Q p hr hs => ?_⟩
  obtain ⟨t, h1, sg, h2, h3⟩ := hb cdv f A outer s H vs Q p hr hs
  exact ⟨t, h1, h2.eq ▸ h3⟩
/-! ### isinstance of that exception -/
def rIsiE (K : PySem.W.Frag) (D : Addr) (a : Addr) : List V → Hp → VK → Prop := fun xs H Q => ∃ (c : V) (u : Value) (b : Bool), xs = [.ref a, c] ∧ ClsV c u ∧ PySem.W.kitOne K (.ref D) u = some b ∧ Q (.bl b) H
def rIsiET (K : PySem.W.Frag) (D : Addr) (a : Addr) : List V → Hp → VK → Prop := fun xs H Q => ∃ (tp : Addr) (cs : List V) (us : List Value) (b : Bool), xs = [.ref a, .ref tp] ∧ H tp = some (.tup cs) ∧ Paired ClsV cs us ∧ PySem.W.kitAny K (.ref D) us = some b ∧ Q (.bl b) H
/-- what the exception's object is: of the class D, with the dict d -/
structure ExAt (K : PySem.W.Frag) (D : Addr) (d : Option Addr) (oe : Obj) : Prop where
  z : Zc (.ref D) d oe
  f : ∃ vs, oe.data = .fields vs
/-- how it answers isinstance: for every heap in which it stands -/
def KitE (K : PySem.W.Frag) (D a : Addr) (oe : Obj) (d : Option Addr) : Prop := KitX' K D a oe d
where KitX' (K : PySem.W.Frag) (D a : Addr) (oe : Obj) (d : Option Addr) : Prop := ∃ Z : Heap → Prop, PySem.W.KitX K (.ref a) (.ref D) Z ∧ ∀ h : Heap, h.get? a = some oe → (∀ dd, d = some dd → ∃ od, h.get? dd = some od) → Z h
theorem kitE_none {K : PySem.W.Frag} {D a : Addr} {oe : Obj} (C : ExcC K D) (E : ExAt K D none oe) : KitE K D a oe none := by
  refine ⟨_, PySem.W.handS_kitx_exc (ox := oe) C.hg C.hk C.hs C.hd C.ha C.hn C.ht C.hm, fun h hg _ => ?_⟩
  obtain ⟨⟨h1, h2⟩, vs, hv⟩ := E
  obtain ⟨oc, od, oda, osl⟩ := oe
  dsimp only at h1 h2 hv
  subst h1 h2 hv
  exact ⟨hg, rfl, rfl, trivial⟩
theorem call_isiE {a D : Addr} {oe : Obj} (hp : (a, oe) ∈ X.pn) (Z : KitE X.K D a oe none) : CallR X (.builtin "isinstance") (rIsiE X.K D a) := by
  intro pins s σ H xs us Q I r h
  obtain ⟨c, u, b, rfl, hc, hk, z⟩ := h
  obtain ⟨u1, u2, rfl, r1, r2⟩ := vals2 r
  cases (show u1 = Value.ref a from r1)
  have e2 := hc.eq r2
  subst e2
  obtain ⟨Zp, kx, hz⟩ := Z
  obtain ⟨hget, _⟩ := I.pin (a, oe) (List.mem_append_left _ hp)
  exact PySem.W.kia_one kx I.kIn (hz _ hget fun _ z => nomatch z) hk (fun z => nomatch z) fun tk => ⟨.bl b, H, I.tok tk, rfl, z⟩
theorem call_isiET {a D : Addr} {oe : Obj} (hp : (a, oe) ∈ X.pn) (Z : KitE X.K D a oe none) : CallR X (.builtin "isinstance") (rIsiET X.K D a) := by
  intro pins s σ H xs us Q I r h
  obtain ⟨tp, cs, ws, b, rfl, hT, hc, hk, z⟩ := h
  obtain ⟨u1, u2, rfl, r1, r2⟩ := vals2 r
  cases (show u1 = Value.ref a from r1)
  cases (show u2 = Value.ref tp from r2)
  obtain ⟨Zp, kx, hz⟩ := Z
  obtain ⟨hget, _⟩ := I.pin (a, oe) (List.mem_append_left _ hp)
  obtain ⟨_, its, rv, o, g1, g2, n, g3⟩ := (show ObjOk X.prog X.w H s.heap tp (.tup cs) from I.hok tp _ hT)
  have e3 := ClsV.all hc rv
  subst e3
  obtain ⟨oc, od, dt, sl⟩ := o
  simp only at g2 g3
  subst g2 g3
  exact PySem.W.kia_tup kx I.kIn (hz _ hget fun _ z => nomatch z) g1 hk (fun z => nomatch z) fun tk => ⟨.bl b, H, I.tok tk, rfl, z⟩
end
/-! ### errors raised, calls that may raise -/
/-- an own error class without an __init__ of its own -/
structure Ex0 (K : PySem.W.Frag) (mg : Str → Option Value) (x : Str) (C : Addr) : Prop where
  g : mg x = some (.ref C)
  q : PySem.W.excIn K C He.veBase "ValueError.__new__" = true
  k : PySem.W.keepIn K (.ref C) = true
  e : PySem.W.subIn K (.ref C) (.type "BaseException") = some true
  t : PySem.W.typeIn K (.ref C) = some (.type "type")
def tRz (W : WX) (C : Addr) : TS := fun _ σ H => W (.ref C) none σ H
section
variable {X : Cx} {k : Nat} {ps : List Str} {sp : Sp} {x : Str} {pos q pos' : Pos} {e : Expr} {es : List Expr} {t : TA} {C : Addr} {W : WX}
theorem pmk_own0 (Y : Ex0 X.K X.mg x C) (hg : Gl X x) (hdb : (x == ("__debug__" : Str)) = false := by decide) : PMk X (.Call (.Name x q) [] [] pos) (fun _ H Q => Q (.ref C) none H) := by
  intro pins s σ H Q J h
  refine wpAny_Call_Name_kw (ld_glob J hg Y.g ?_ hdb)
  refine PySem.W.callWith_K0 J.kIn Y.k ?_
  obtain ⟨_, _, _, _, _, _, _, _, _, _, _, _, _, _, _, _, _, hC, hN, hni, T⟩ := exc_obj J.kIn Y.q
  exact wpAny_call_exc_subT PySem.F.excBase_ValueError T hC hN hni (fun h' e hm => mk_of J hm (raises_own Y.e Y.t) h (J.hok.gone hm.new)) (by show 0 ≤ sizeLine; omega)
theorem ps_raise0 (hc : X.calm = true) (tk : Takes X W) (Y : Ex0 X.K X.mg x C) (hg : Gl X x := by rfl) (hdb : (x == ("__debug__" : Str)) = false := by decide) : PS X (.Raise (some (.Call (.Name x q) [] [] pos)) none pos') (tRz W C) :=
  ps_raise hc tk (pmk_own0 Y hg hdb)
theorem x_rz {D : Ends} {σ : St} {H : Hp} (z : W (.ref C) none σ H) : tRz W C D σ H := z
/-- a call of a def that may raise, in a def that lets it out -/
theorem pe_ownX {E : XK} (D : Okk X.prog X.w X.K X.mg X.base (L2.CX X.prog X.w) k x ps sp) (hr : Room k X.A) (hx : Passes (L2.CX X.prog X.w) X E) (ha : PA X (e :: es) t) (hg : Gl X x := by rfl)
    (hdb : (x == ("__debug__" : Str)) = false := by decide) (he : starEach (e :: es) X.env = (false, eval e X.env) :: starEach es X.env := by rfl) (hpl : (backTo pos (starEach es X.env)).any (·.1) = false := by rfl) :
    PE X (.Call (.Name x q) (e :: es) [] pos) (tCall sp [] E t) := by
  obtain ⟨f, fd, a, b, c, d⟩ := D
  exact pe_call d hr hg a b c .nil hx ha hdb he hpl
/-- .. in a try -/
def tCallW (sp : Sp) (W : WX) (t : TA) : TE := fun σ H Q => t σ H fun vs H1 => sp vs H1 Q fun cls d H' => W cls d σ H'
theorem pe_ownS (D : Okk X.prog X.w X.K X.mg X.base (L2.CX X.prog X.w) k x ps sp) (hr : Room k X.A) (tk : Takes X W) (ha : PA X (e :: es) t) (hg : Gl X x := by rfl)
    (hdb : (x == ("__debug__" : Str)) = false := by decide) (he : starEach (e :: es) X.env = (false, eval e X.env) :: starEach es X.env := by rfl) (hpl : (backTo pos (starEach es X.env)).any (·.1) = false := by rfl) :
    PE X (.Call (.Name x q) (e :: es) [] pos) (tCallW sp W t) := by
  obtain ⟨f, fd, a, b, c, d⟩ := D
  exact pe_callS d hr hg a b c (fun σ => passAt tk σ) ha hdb he hpl
/-- in a suite: a def that is handed the caught exception (a: its address, cls, d: its class, its dict) -/
def tCallH (sp : Addr × Obj → Sp) (a : Addr) (cls : Value) (d : Option Addr) (t : TA) : TE := fun σ H Q => t σ H fun vs H1 => ∀ oe : Obj, Zc cls d oe → (∃ vs, oe.data = .fields vs) → sp (a, oe) vs H1 Q E0
theorem pe_ownH {sp : Addr × Obj → Sp} {a : Addr} {oe : Obj} {cls : Value} {d : Option Addr} (D : OkE X.prog X.w X.K X.mg X.base k x ps sp) (hr : RoomH k X.A) (hp : (a, oe) ∈ X.pn) (hz : Zc cls d oe) (hf : ∃ vs, oe.data = .fields vs) (ha : PA X (e :: es) t) (hg : Gl X x := by rfl)
    (hdb : (x == ("__debug__" : Str)) = false := by decide) (he : starEach (e :: es) X.env = (false, eval e X.env) :: starEach es X.env := by rfl) (hpl : (backTo pos (starEach es X.env)).any (·.1) = false := by rfl) :
    PE X (.Call (.Name x q) (e :: es) [] pos) (tCallH sp a cls d t) := by
  obtain ⟨f, fd, g1, g2, g3, F⟩ := D
  refine ⟨fun pins s σ H Q J h => ?_⟩
  refine wpAny_Call_Name_kw (ld_glob J hg g1 ?_ hdb)
  refine PySem.W.callWith_K (h₀ := X.base) J.ok.mod.kin g2 (thn (ha.run pos pins s σ H _ J h) fun us s1 hh => ?_) he hpl
  obtain ⟨vs, H1, J1, r, z⟩ := hh
  exact ⟨J1.kIn, run_fnE F hr hp g3 J1 r (z oe hz hf)⟩
theorem x_callW {σ : St} {H : Hp} {Q : VK} (z : t σ H fun vs H1 => sp vs H1 Q fun cls d H' => W cls d σ H') : tCallW sp W t σ H Q := z
theorem x_callH {sp : Addr × Obj → Sp} {a : Addr} {cls : Value} {d : Option Addr} {σ : St} {H : Hp} {Q : VK} (z : t σ H fun vs H1 => ∀ oe : Obj, Zc cls d oe → (∃ vs, oe.data = .fields vs) → sp (a, oe) vs H1 Q E0) : tCallH sp a cls d t σ H Q := z
end
section
variable {K : PySem.W.Frag} {H : Hp} {Q : VK} {D a C : Addr}
theorem x_isiE1 {b : Bool} (hk : PySem.W.kitOne K (.ref D) (.ref C) = some b) (q : Q (.bl b) H) : rIsiE K D a [.ref a, .ref C] H Q := ⟨_, _, b, rfl, .own C, hk, q⟩
theorem x_isiE2 {n : String} {b : Bool} (hk : PySem.W.kitOne K (.ref D) (.type n) = some b) (q : Q (.bl b) H) : rIsiE K D a [.ref a, .ty n] H Q := ⟨_, _, b, rfl, .ty n, hk, q⟩
theorem x_isiET {tp : Addr} {cs : List V} {us : List Value} {b : Bool} (ht : H tp = some (.tup cs)) (hc : Paired ClsV cs us) (hk : PySem.W.kitAny K (.ref D) us = some b) (q : Q (.bl b) H) : rIsiET K D a [.ref a, .ref tp] H Q := ⟨tp, cs, us, b, rfl, ht, hc, hk, q⟩
theorem x_was {c cls : Value} {i : Nat} {ts : Addr → Value → Option Addr → TS} {Wout : WX} {Ds : Ends} {d : Option Addr} {σ : St} (he : PySem.W.exmOne K cls c = some true)
    (q : ∀ a, H a = none → ts a cls d { nx := fun s' H' => Ds.nx (s'.set i none) H', rt := Ds.rt, bk := fun s' H' => Ds.bk (s'.set i none) H', ct := fun s' H' => Ds.ct (s'.set i none) H' } (σ.set i (some (.ref a))) H) : wAs K c i ts Wout Ds cls d σ H :=
  ⟨true, he, fun _ => q, fun z => nomatch z⟩
/-- facts of classes, by names -/
def kitNN (K : PySem.W.Frag) (x y : Str) (b : Bool) : Bool := decide (PySem.W.kitOne K (.ref (He.ga K x)) (.ref (He.ga K y)) = some b)
def kitNT (K : PySem.W.Frag) (x : Str) (n : String) (b : Bool) : Bool := decide (PySem.W.kitOne K (.ref (He.ga K x)) (.type n) = some b)
def kitNA (K : PySem.W.Frag) (x : Str) (ys : List Str) (b : Bool) : Bool := decide (PySem.W.kitAny K (.ref (He.ga K x)) (ys.map fun y => .ref (He.ga K y)) = some b)
def excB (K : PySem.W.Frag) (x : Str) : Bool :=
  decide (PySem.W.findIn K (.ref (He.ga K x)) "__getattribute__" = some (some (.builtin "BaseException.__getattribute__"))) && decide (PySem.W.findIn K (.ref (He.ga K x)) "__getattr__" = some none) &&
  decide (PySem.W.subIn K (.ref (He.ga K x)) (.type "BaseException") = some true) && PySem.W.hasDictIn K (He.ga K x) && decide (PySem.W.findIn K (.ref (He.ga K x)) "__class__" = some (some (.builtin "object.__class__"))) &&
  decide (PySem.W.specialIn K (.builtin "object.__class__") "__get__" = some (some (.builtin "getset_descriptor.__get__"))) && decide (PySem.W.takesIn K (.builtin "object.__class__") = some true) && decide (PySem.W.mroIn K (He.ga K x) (.type "object") = some true)
theorem excB_ok {x : Str} (h : excB K x = true) : ExcC K (He.ga K x) := by
  unfold excB at h
  simp only [Bool.and_eq_true, decide_eq_true_eq] at h
  obtain ⟨⟨⟨⟨⟨⟨⟨h1, h2⟩, h3⟩, h4⟩, h5⟩, h6⟩, h7⟩, h8⟩ := h
  exact ⟨h1, h2, h3, h4, h5, h6, h7, h8⟩
theorem ex0_ok {h : Heap} {mg : Str → Option Value} {x : Str} (X : K.In h) (G : h.Ns mainGlobals mg) (c : (He.Fa.exc x).ok K = true) (c2 : (He.Fa.glo x).ok K = true) : Ex0 K mg x (He.ga K x) := by
  obtain ⟨a1, a2, a3, a4⟩ := He.exc_ok c
  exact ⟨He.glo_ok X G c2, a1, a2, a3, a4⟩
end
end LN
local macro_rules | `(tactic| walk_at "get") => `(tactic| (repeat (first | exact LN.GetAt.zero | with_reducible apply LN.GetAt.succ)))
local macro_rules | `(tactic| walk_at "set") => `(tactic| (repeat (first | exact LN.SetTo.zero | with_reducible apply LN.SetTo.succ)))
local macro_rules | `(tactic| walk_at "start") => `(tactic| (repeat (first | exact LN.StartTo.nil | with_reducible apply LN.StartTo.cons | with_reducible apply LN.StartTo.non)))
local macro_rules | `(tactic| walk_at "ne") => `(tactic| first | assumption | (apply Ne.symm; assumption) | ((with_reducible apply LN.ne_new); (· assumption); walk_at "hp") | ((with_reducible apply LN.ne_new'); (· assumption); walk_at "hp"))
local macro_rules | `(tactic| walk_at "nm") => `(tactic| first | exact LN.nil_mem | ((with_reducible apply LN.one_mem); walk_at "ne") | ((with_reducible apply LN.two_mem) <;> walk_at "ne"))
local macro_rules | `(tactic| walk_at "hp") => `(tactic| first | assumption | exact L2.upd_same | ((with_reducible apply LN.at_upd); (· walk_at "ne"); walk_at "hp") | ((with_reducible apply LN.Kp.get); (· assumption); (· walk_at "nm"); walk_at "hp"))
local macro_rules | `(tactic| walk_at "sq") => `(tactic| first | assumption | ((with_reducible apply L2.SqL.of); walk_at "hp") | ((with_reducible apply LN.sq_new); (· assumption); walk_at "sq") | ((with_reducible apply LN.sq_upd); (· walk_at "ne"); walk_at "sq") | ((with_reducible apply LN.Kp.sq); (· assumption); (· walk_at "nm"); walk_at "sq"))
local macro_rules | `(tactic| walk_at "st") => `(tactic| first | assumption | ((with_reducible apply L2.SqT.of); walk_at "hp") | ((with_reducible apply LN.st_new); (· assumption); walk_at "st") | ((with_reducible apply LN.st_upd); (· walk_at "ne"); walk_at "st") | ((with_reducible apply LN.Kp.st); (· assumption); (· walk_at "nm"); walk_at "st"))
local macro_rules | `(tactic| walk_at "ty") => `(tactic| first | exact L2.TyX.base (L2.TyOf.int _) | exact L2.TyX.base (L2.TyOf.bl _) | exact L2.TyX.base (L2.TyOf.str _) | exact L2.TyX.base L2.TyOf.non | ((with_reducible apply LN.tyx_l); walk_at "sq") | ((with_reducible apply LN.tyx_t); walk_at "st"))
local macro_rules | `(tactic| walk_at "kit") => `(tactic| first | with_reducible exact LN.kt_NoneType_bool | with_reducible exact LN.kt_NoneType_int | with_reducible exact LN.kt_NoneType_str | with_reducible exact LN.kt_NoneType_list | with_reducible exact LN.kt_NoneType_tuple | with_reducible exact LN.kt_bool_bool | with_reducible exact LN.kt_bool_int | with_reducible exact LN.kt_bool_str | with_reducible exact LN.kt_bool_list | with_reducible exact LN.kt_bool_tuple | with_reducible exact LN.kt_int_bool | with_reducible exact LN.kt_int_int | with_reducible exact LN.kt_int_str | with_reducible exact LN.kt_int_list | with_reducible exact LN.kt_int_tuple | with_reducible exact LN.kt_str_bool | with_reducible exact LN.kt_str_int | with_reducible exact LN.kt_str_str | with_reducible exact LN.kt_str_list | with_reducible exact LN.kt_str_tuple | with_reducible exact LN.kt_list_bool | with_reducible exact LN.kt_list_int | with_reducible exact LN.kt_list_str | with_reducible exact LN.kt_list_list | with_reducible exact LN.kt_list_tuple | with_reducible exact LN.kt_tuple_bool | with_reducible exact LN.kt_tuple_int | with_reducible exact LN.kt_tuple_str | with_reducible exact LN.kt_tuple_list | with_reducible exact LN.kt_tuple_tuple | with_reducible exact LN.kta_NoneType | with_reducible exact LN.kta_bool | with_reducible exact LN.kta_int | with_reducible exact LN.kta_str | with_reducible exact LN.kta_list | with_reducible exact LN.kta_tuple)
local macro_rules | `(tactic| walk_at "go1") => `(tactic| first
  | (with_reducible apply LN.x_seq)
  | (with_reducible apply LN.x_asg)
  | (with_reducible apply LN.x_op)
  | ((with_reducible apply LN.x_var); · walk_at "get")
  | (with_reducible apply LN.x_c)
  | (with_reducible apply LN.x_I0)
  | (with_reducible apply LN.x_cons)
  | (with_reducible apply LN.x_nil)
  | (with_reducible apply LN.x_call)
  | ((with_reducible apply LN.x_name); · walk_at "set")
  | (with_reducible apply LN.x_cb)
  | (with_reducible apply LN.x_test)
  | (with_reducible apply LN.x_isb)
  | (with_reducible apply LN.x_ifS)
  | (with_reducible apply LN.x_ret)
  | (with_reducible apply LN.x_un)
  | (with_reducible apply LN.x_U)
  | (with_reducible apply LN.x_eqI)
  | (with_reducible apply LN.x_neI)
  | (with_reducible apply LN.x_int1)
  | (with_reducible apply LN.x_abs)
  | (with_reducible apply LN.x_tB)
  | (with_reducible apply LN.x_not)
  | (with_reducible apply LN.x_and)
  | (with_reducible apply LN.x_or)
  | (with_reducible apply LN.x_andV)
  | (with_reducible apply LN.x_orV)
  | (with_reducible apply LN.x_notV)
  | (with_reducible apply LN.x_ifE)
  | (with_reducible apply LN.x_drop)
  | (with_reducible apply LN.x_brk)
  | (with_reducible apply LN.x_cont)
  | (with_reducible apply LN.x_next)
  | (with_reducible apply LN.x_retN)
  | (with_reducible apply LN.x_sub)
  | (with_reducible refine LN.x_tup' ?_)
  | (with_reducible refine LN.x_lst' ?_)
  | ((with_reducible apply LN.x_ixL); (· walk_at "sq"); · rfl)
  | ((with_reducible apply LN.x_ixT); (· walk_at "st"); · rfl)
  | ((with_reducible apply LN.x_setN2); (· rfl); · walk_at "set")
  | ((with_reducible apply LN.x_setN); (· walk_at "hp"); (· rfl); · walk_at "set")
  | ((with_reducible apply LN.x_lenL); · walk_at "sq")
  | ((with_reducible apply LN.x_lenT); · walk_at "st")
  | (with_reducible apply LN.x_max2)
  | (with_reducible apply LN.x_min2)
  | (with_reducible apply LN.x_eqS)
  | (with_reducible apply LN.x_neS)
  | (with_reducible apply LN.x_eqB)
  | (with_reducible apply LN.x_iteT)
  | (with_reducible apply LN.x_iteF)
  | (with_reducible apply LN.x_iteNT)
  | (with_reducible apply LN.x_iteNF)
  | (with_reducible apply LN.x_par)
  | ((with_reducible apply LN.x_par2); (· walk_at "set"); · walk_at "set")
  | ((with_reducible apply LN.x_aug); · walk_at "get")
  | ((with_reducible apply LN.x_ipI); · walk_at "set")
  | (with_reducible apply LN.x_sl)
  | (with_reducible apply LN.x_nopart)
  | (with_reducible apply LN.x_part)
  | (with_reducible apply LN.x_isk)
  | (with_reducible apply LN.x_bm)
  | (with_reducible apply LN.x_bm0)
  | ((with_reducible apply LN.x_tyL); · walk_at "sq")
  | (with_reducible apply LN.x_gcons)
  | (with_reducible apply LN.x_gnil)
  | ((with_reducible apply LN.x_gtup); (· walk_at "st"); · rfl)
  | ((with_reducible apply LN.x_disp); · simp)
  | ((with_reducible apply LN.x_isi); (· walk_at "ty"); · walk_at "kit")
  | ((with_reducible apply LN.x_isiT); (· walk_at "hp"); (· walk_at "ty"); · walk_at "kit")
  | (with_reducible apply LN.x_isN0)
  | (with_reducible apply LN.x_isN1)
  | (with_reducible apply LN.x_isN2)
  | (with_reducible apply LN.x_isN3)
  | (with_reducible apply LN.x_isN4)
  | (with_reducible apply LN.x_isN)
  | (with_reducible apply LN.x_notN)
  | ((with_reducible apply LN.x_ixSL); (· walk_at "sq"); · rfl)
  | ((with_reducible apply LN.x_ixST); (· walk_at "st"); · rfl)
  | (with_reducible apply LN.x_truI)
  | ((with_reducible apply LN.x_decT); · first | decide | rfl)
  | ((with_reducible apply LN.x_decF); · decide)
  | ((with_reducible apply LN.x_ndecT); · decide)
  | ((with_reducible apply LN.x_ndecF); · first | decide | rfl)
  | (with_reducible apply LN.x_lc)
  | (with_reducible apply LN.x_callW)
  | (with_reducible apply LN.x_callH)
  | (with_reducible apply LN.x_rz)
  | (with_reducible apply LN.x_for)
  | (with_reducible apply LN.x_itL)
  | (with_reducible apply LN.x_itT)
  | (with_reducible apply LN.x_itR)
  | (with_reducible apply LN.x_itR2)
  | ((with_reducible apply LN.x_powC); (· first | exact ⟨by decide, by decide⟩ | exact ⟨by decide +kernel, by decide +kernel⟩); · (simp only [Int.reducePow, Int.reduceToNat]; rfl))
  | ((with_reducible apply LN.x_I); · first | omega | exact LN.Bt.mulW (by assumption) (by assumption) | exact LN.Bt.mulW (a := 4000) (b := 4000) (LN.Bt.lit (by decide +kernel)) (LN.Bt.lit (by decide +kernel)) | exact .inl ⟨by omega, by omega⟩ | exact .inr ⟨by omega, by omega⟩ | exact ⟨by decide, by decide⟩)
  | ((with_reducible apply LN.x_start); · walk_at "start"))
local macro_rules | `(tactic| walk_at "go") => `(tactic| repeat walk_at "go1")
local macro_rules | `(tactic| walk_at "start1") => `(tactic| ((with_reducible apply LN.x_start); · walk_at "start"))
local macro_rules | `(tactic| walk_at "goF") => `(tactic| repeat (first | ((with_reducible apply LN.x_modF); · omega) | walk_at "go1"))
local macro_rules | `(tactic| walk_at "num") => `(tactic| simp only [Int.reducePow, Int.reduceToNat])
local macro_rules | `(tactic| walk_at "wipe") => `(tactic| (simp only [L2.wipe, List.map_cons, List.map_nil, List.set_cons_zero, List.set_cons_succ]; rfl))
namespace LN
open PySem PySem.Spec PyProof.Rows L2
def topS (i : Nat) : Stmt := PySem.Challenge.pw_lastnamed_k23_ratios_crosswise.main.body.getD i (.Pass ⟨0, 0, 0, 0⟩)
end LN
namespace LNH
open PySem PySem.Spec PyProof.Rows L2
set_option maxHeartbeats 0
def d_law_mix : He.DefD := ⟨("_law_mix", none), "_law_mix", "_law_mix", defArgs (LN.topS 56), defBody (LN.topS 56), defScope (LN.topS 56), [], []⟩
def d_law_store : He.DefD := ⟨("_law_store", none), "_law_store", "_law_store", defArgs (LN.topS 57), defBody (LN.topS 57), defScope (LN.topS 57), [], []⟩
def d_law_take : He.DefD := ⟨("_law_take", none), "_law_take", "_law_take", defArgs (LN.topS 58), defBody (LN.topS 58), defScope (LN.topS 58), [], []⟩
def d_law_number : He.DefD := ⟨("_law_number", none), "_law_number", "_law_number", defArgs (LN.topS 59), defBody (LN.topS 59), defScope (LN.topS 59), [], []⟩
def d_law_between : He.DefD := ⟨("_law_between", none), "_law_between", "_law_between", defArgs (LN.topS 60), defBody (LN.topS 60), defScope (LN.topS 60), [], []⟩
def d_law_pick : He.DefD := ⟨("_law_pick", none), "_law_pick", "_law_pick", defArgs (LN.topS 61), defBody (LN.topS 61), defScope (LN.topS 61), [], []⟩
def d_greatest_divisor : He.DefD := ⟨("greatest_divisor", none), "greatest_divisor", "greatest_divisor", defArgs (LN.topS 46), defBody (LN.topS 46), defScope (LN.topS 46), [], []⟩
def d_ratio : He.DefD := ⟨("ratio", none), "ratio", "ratio", defArgs (LN.topS 47), defBody (LN.topS 47), defScope (LN.topS 47), [], []⟩
def d_plus : He.DefD := ⟨("plus", none), "plus", "plus", defArgs (LN.topS 48), defBody (LN.topS 48), defScope (LN.topS 48), [], []⟩
def d_minus : He.DefD := ⟨("minus", none), "minus", "minus", defArgs (LN.topS 49), defBody (LN.topS 49), defScope (LN.topS 49), [], []⟩
def d_times : He.DefD := ⟨("times", none), "times", "times", defArgs (LN.topS 50), defBody (LN.topS 50), defScope (LN.topS 50), [], []⟩
def d_divided : He.DefD := ⟨("divided", none), "divided", "divided", defArgs (LN.topS 51), defBody (LN.topS 51), defScope (LN.topS 51), [], []⟩
def d_is_less : He.DefD := ⟨("is_less", none), "is_less", "is_less", defArgs (LN.topS 52), defBody (LN.topS 52), defScope (LN.topS 52), [], []⟩
def d_is_whole : He.DefD := ⟨("is_whole", none), "is_whole", "is_whole", defArgs (LN.topS 53), defBody (LN.topS 53), defScope (LN.topS 53), [], []⟩
def d_floor_of : He.DefD := ⟨("floor_of", none), "floor_of", "floor_of", defArgs (LN.topS 54), defBody (LN.topS 54), defScope (LN.topS 54), [], []⟩
def d_law_gcd : He.DefD := ⟨("_law_gcd", none), "_law_gcd", "_law_gcd", defArgs (LN.topS 65), defBody (LN.topS 65), defScope (LN.topS 65), [], []⟩
def d_law_is_int : He.DefD := ⟨("_law_is_int", none), "_law_is_int", "_law_is_int", defArgs (LN.topS 63), defBody (LN.topS 63), defScope (LN.topS 63), [], []⟩
def d_law_is_ints : He.DefD := ⟨("_law_is_ints", none), "_law_is_ints", "_law_is_ints", defArgs (LN.topS 64), defBody (LN.topS 64), defScope (LN.topS 64), [], []⟩
def d_law_same : He.DefD := ⟨("_law_same", none), "_law_same", "_law_same", defArgs (LN.topS 62), defBody (LN.topS 62), defScope (LN.topS 62), [], []⟩
def d_law_lowest : He.DefD := ⟨("_law_lowest", none), "_law_lowest", "_law_lowest", defArgs (LN.topS 66), defBody (LN.topS 66), defScope (LN.topS 66), [], []⟩
def d_law_is_ratio : He.DefD := ⟨("_law_is_ratio", none), "_law_is_ratio", "_law_is_ratio", defArgs (LN.topS 67), defBody (LN.topS 67), defScope (LN.topS 67), [], []⟩
def d_law_ratio_pair : He.DefD := ⟨("_law_ratio_pair", none), "_law_ratio_pair", "_law_ratio_pair", defArgs (LN.topS 68), defBody (LN.topS 68), defScope (LN.topS 68), [], []⟩
def d_law_drawn_pair : He.DefD := ⟨("_law_drawn_pair", none), "_law_drawn_pair", "_law_drawn_pair", defArgs (LN.topS 69), defBody (LN.topS 69), defScope (LN.topS 69), [], []⟩
def d_law_near_pair : He.DefD := ⟨("_law_near_pair", none), "_law_near_pair", "_law_near_pair", defArgs (LN.topS 70), defBody (LN.topS 70), defScope (LN.topS 70), [], []⟩
def d_law_refused : He.DefD := ⟨("_law_refused", none), "_law_refused", "_law_refused", defArgs (LN.topS 76), defBody (LN.topS 76), defScope (LN.topS 76), [], []⟩
def d_law_ask : He.DefD := ⟨("_law_ask", none), "_law_ask", "_law_ask", defArgs (LN.topS 71), defBody (LN.topS 71), defScope (LN.topS 71), [], []⟩
def d_law_is_worth : He.DefD := ⟨("_law_is_worth", none), "_law_is_worth", "_law_is_worth", defArgs (LN.topS 72), defBody (LN.topS 72), defScope (LN.topS 72), [], []⟩
def d_law_is_floor : He.DefD := ⟨("_law_is_floor", none), "_law_is_floor", "_law_is_floor", defArgs (LN.topS 73), defBody (LN.topS 73), defScope (LN.topS 73), [], []⟩
def d_law_two_right : He.DefD := ⟨("_law_two_right", none), "_law_two_right", "_law_two_right", defArgs (LN.topS 74), defBody (LN.topS 74), defScope (LN.topS 74), [], []⟩
def d_law_one_right : He.DefD := ⟨("_law_one_right", none), "_law_one_right", "_law_one_right", defArgs (LN.topS 75), defBody (LN.topS 75), defScope (LN.topS 75), [], []⟩
def d_law : He.DefD := ⟨("law", none), "law", "law", defArgs (LN.topS 77), defBody (LN.topS 77), defScope (LN.topS 77), [], []⟩
def nm0 : List PySem.Str := ["OfficeError", "BadLine", "Empty", "TooMany", "BadWord", "Doubled", "BadShare", "BadRanking", "BadRange", "BadPlace", "Unequal", "Unknown", "Over", "Fallen", "BadChooser", "TiedRanks", "BadWeaving", "BadSet", "BadStages", "BadOrder", "BadSize", "BadTable", "TooMuch", "BadSum", "BadStrike", "Unfinished", "OutOfRank", "BadSpan", "NoBlock", "BadBargain"]
def nm1 : List PySem.Str := ["NoPairing", "NotLast", "NotObtainable", "NotNear", "NoBottom", "Clash", "Shared", "Different", "LastName", "NoPost", "BadDeed", "BadStamp", "StampTaken", "NoDeed", "greatest_divisor", "ratio", "plus", "minus", "times", "divided", "is_less", "is_whole", "floor_of", "_law_mix", "_law_store", "_law_take", "_law_number", "_law_between", "_law_pick", "_law_same"]
def nm2 : List PySem.Str := ["_law_is_int", "_law_is_ints", "_law_gcd", "_law_lowest", "_law_is_ratio", "_law_ratio_pair", "_law_drawn_pair", "_law_near_pair", "_law_ask", "_law_is_worth", "_law_is_floor", "_law_two_right", "_law_one_right", "_law_refused"]
def names : List PySem.Str := nm0 ++ nm1 ++ nm2
def fn : List He.DefD := [d_law_mix,
  d_law_store,
  d_law_take,
  d_law_number,
  d_law_between,
  d_law_pick,
  d_greatest_divisor,
  d_ratio,
  d_plus,
  d_minus,
  d_times,
  d_divided,
  d_is_less,
  d_is_whole,
  d_floor_of,
  d_law_gcd,
  d_law_is_int,
  d_law_is_ints,
  d_law_same,
  d_law_lowest,
  d_law_is_ratio,
  d_law_ratio_pair,
  d_law_drawn_pair,
  d_law_near_pair,
  d_law_refused,
  d_law_ask,
  d_law_is_worth,
  d_law_is_floor,
  d_law_two_right,
  d_law_one_right,
  d_law]
def fa0 : List He.Fa := [.glo "_law_mix", .glo "_law_store", .glo "_law_take", .glo "_law_number", .glo "_law_between", .glo "_law_pick", .glo "greatest_divisor", .glo "ratio", .glo "plus", .glo "minus", .glo "times", .glo "divided", .glo "is_less", .glo "is_whole", .glo "floor_of", .glo "_law_gcd", .glo "_law_is_int", .glo "_law_is_ints", .glo "_law_same", .glo "_law_lowest", .glo "_law_is_ratio", .glo "_law_ratio_pair", .glo "_law_drawn_pair", .glo "_law_near_pair", .glo "_law_refused", .glo "_law_ask", .glo "_law_is_worth", .glo "_law_is_floor", .glo "_law_two_right", .glo "_law_one_right"]
def fa1 : List He.Fa := [.glo "law", .glo "NoBottom", .glo "NoDeed", .glo "StampTaken", .glo "BadStamp", .glo "BadDeed", .glo "NoPost", .glo "LastName", .glo "Different", .glo "Shared", .glo "Clash", .glo "NotNear", .glo "NotObtainable", .glo "NotLast", .glo "NoPairing", .glo "BadBargain", .glo "NoBlock", .glo "BadSpan", .glo "OutOfRank", .glo "Unfinished", .glo "BadStrike", .glo "BadSum", .glo "TooMuch", .glo "BadTable", .glo "BadSize", .glo "BadOrder", .glo "BadStages", .glo "BadSet", .glo "BadWeaving", .glo "TiedRanks"]
def fa2 : List He.Fa := [.glo "BadChooser", .glo "Fallen", .glo "Over", .glo "Unknown", .glo "Unequal", .glo "BadPlace", .glo "BadRange", .glo "BadRanking", .glo "BadShare", .glo "Doubled", .glo "BadWord", .glo "TooMany", .glo "Empty", .glo "BadLine", .glo "OfficeError", .free "int", .free "len", .free "list", .free "abs", .free "range", .free "isinstance", .free "bool", .free "all", .free "str", .free "tuple", .free "max", .free "ValueError", .exc "NoBottom", .exm "NoBottom" "OfficeError" true]
def fa : List He.Fa := fa0 ++ fa1 ++ fa2
def ex : PySem.W.Frag → Bool := fun K => LN.kitNN K "NoBottom" "NoBottom" true && LN.kitNA K "NoBottom" ((["BadLine", "Empty", "TooMany", "BadWord", "Doubled", "BadShare", "BadRanking", "BadRange", "BadPlace", "Unequal", "Unknown", "Over"] : List PySem.Str) ++ (["Fallen", "BadChooser", "TiedRanks", "BadWeaving", "BadSet", "BadStages", "BadOrder", "BadSize", "BadTable", "TooMuch", "BadSum", "BadStrike"] : List PySem.Str) ++ (["Unfinished", "OutOfRank", "BadSpan", "NoBlock", "BadBargain", "NoPairing", "NotLast", "NotObtainable", "NotNear", "Clash", "Shared", "Different"] : List PySem.Str) ++ (["LastName", "NoPost", "BadDeed", "BadStamp", "StampTaken", "NoDeed"] : List PySem.Str)) false && LN.kitNN K "NoBottom" "OfficeError" true && LN.kitNT K "NoBottom" "ValueError" true && LN.excB K "NoBottom"
abbrev R : PySem.W.OpenRow := PySem.W.OpenLaw.row PySem.Challenge.rw_lastnamed_k23_ratios_crosswise
abbrev hk : PySem.W.Hook := He.hookX 2 fa fn [] [] ex
def ob (s : PySem.W.SharedT) : He.AlX := He.obsX 2 fa fn [] [] ex (HandSHeadRun.getT s)
theorem ob_eq (s : PySem.W.SharedT) : ob s = hk.obs s.abs := He.obsX_eq (HandSHeadRun.getT_eq s)
theorem run (w : World) : HandSHeadRun.RunEq R (PySem.W.view R.prog [77]) hk ob 20000 names w := by
  intro os
  kernel_rfl
end LNH
namespace LN
open PySem PySem.Spec PyProof.Rows L2
section
variable {P : Program} {w : World} {K : PySem.W.Frag} {mg : Str → Option Value} {base : Heap} {k : Nat}
abbrev s_law_mix : Stmt := topS 56
theorem sc_law_mix : FnScope ["one", "two", "worth"] ["one", "two"] (defScope s_law_mix) := ⟨rfl, rfl, rfl, by decide +kernel, rfl, by decide +kernel, by decide +kernel⟩
--DEF _law_mix
def spMix : Sp := fun vs H Q _ => ∃ a b, vs = [.int a, .int b] ∧ ∀ r, 0 ≤ r → r < 2147483563 → Q (.int r) H
theorem ok_law_mix (h : DefAt K mg "_law_mix" ["one", "two"] s_law_mix) (g_int : mg "int" = none) : Okk P w K mg base CX0 (k + 1) "_law_mix" ["one", "two"] spMix := by
  refine h.ok sc_law_mix ?_ ?_
  · rintro vs H Q E ⟨a, b, rfl, _⟩; rfl
  rintro cdv f A outer s H vs Q E hr ⟨a, b, rfl, q⟩
  refine ⟨_, (pss_cons (ps_set (i := 2) sc_law_mix.nd rfl (Or.inl rfl) (pe_op op_mod (pe_op op_add (pe_op op_add (pe_op op_mul (pe_op op_mod (pe_callTy cr_int (by rfl) g_int (by decide +kernel) (pa_cons (pv 0) pa_nil)) pe_int) pe_int) (pe_op op_mul (pe_op op_mod (pe_callTy cr_int (by rfl) g_int (by decide +kernel) (pa_cons (pv 1) pa_nil)) pe_int) pe_int)) pe_int) pe_int))
      (pss_cons (ps_set (i := 2) sc_law_mix.nd rfl (Or.inl rfl) (pe_op op_mod (pe_op op_add (pe_op op_add (pe_op op_mul (pv 2) (pv 2)) (pe_op op_mul (pv 2) pe_int)) pe_int) pe_int))
      (pss_cons (ps_set (i := 2) sc_law_mix.nd rfl (Or.inl rfl) (pe_op op_mod (pe_op op_add (pe_op op_add (pe_op op_mul (pv 2) pe_int) (pe_op op_mul (pe_op op_mod (pe_callTy cr_int (by rfl) g_int (by decide +kernel) (pa_cons (pv 1) pa_nil)) pe_int) pe_int)) pe_int) pe_int))
      (pss_one (ps_ret (pe_op op_mod (pe_op op_add (pe_op op_add (pe_op op_mul (pv 2) (pv 2)) (pe_op op_mul (pv 2) pe_int)) pe_int) pe_int)))))), ?_⟩
  walk_at "start1"
  walk_at "goF"
  intro r0 h0 h0'
  walk_at "goF"
  intro r1 h1 h1'
  walk_at "goF"
  intro w1 w1a w1b
  walk_at "goF"
  intro w2 w2a w2b
  walk_at "goF"
  intro r3 h3 h3'
  walk_at "goF"
  intro w3 w3a w3b
  walk_at "goF"
  exact fun r hr1 hr2 => q r hr1 hr2
/-! ### the store -/
theorem go_mix {a b : Int} {H : Hp} {Q : VK} {E : XK} (q : ∀ r, 0 ≤ r → r < 2147483563 → Q (.int r) H) : spMix [.int a, .int b] H Q E := ⟨a, b, rfl, q⟩
def StoreS (H : Hp) (p sl : Addr) : Prop := ∃ (ns : List Int) (i b c s : Int), H p = some (.lst [.ref sl, .int i, .int b, .int c, .int s]) ∧ H sl = some (.lst (ns.map V.int)) ∧ sl ≠ p ∧ 0 ≤ i ∧ 0 ≤ b
def StoreAt (H : Hp) (p : Addr) : Prop := ∃ sl, StoreS H p sl
theorem StoreAt.ex {H : Hp} {p : Addr} (h : StoreAt H p) : ∃ o, H p = some o := by
  obtain ⟨sl, ns, i, b, c, s, hp, _⟩ := h
  exact ⟨_, hp⟩
theorem StoreAt.new {H : Hp} {p q : Addr} {o : HO} (h : StoreAt H p) (hq : H q = none) : StoreAt (upd H q o) p := by
  obtain ⟨sl, ns, i, b, c, s, hp, hs, r⟩ := h
  exact ⟨sl, ns, i, b, c, s, at_upd (ne_new hq hp) hp, at_upd (ne_new hq hs) hs, r⟩
theorem StoreAt.kp {H H' : Hp} {p : Addr} (h : StoreAt H p) (k : Kp [] H H') : StoreAt H' p := by
  obtain ⟨sl, ns, i, b, c, s, hp, hs, r⟩ := h
  exact ⟨sl, ns, i, b, c, s, k _ _ nil_mem hp, k _ _ nil_mem hs, r⟩
theorem StoreAt.free {H H' : Hp} {p r : Addr} (h : StoreAt H' p) (k : Kp [p] H H') (hr : H' r = none) : H r = none := k.freeS (fun x hx => by
  rw [List.mem_singleton] at hx
  subst hx
  exact h.ex) hr
theorem StoreS.at {H : Hp} {p sl : Addr} (h : StoreS H p sl) : StoreAt H p := ⟨sl, h⟩
theorem StoreS.ex {H : Hp} {p sl : Addr} (h : StoreS H p sl) : ∃ o, H p = some o := h.at.ex
theorem StoreS.new {H : Hp} {p sl q : Addr} {o : HO} (h : StoreS H p sl) (hq : H q = none) : StoreS (upd H q o) p sl := by
  obtain ⟨ns, i, b, c, s, hp, hs, r⟩ := h
  exact ⟨ns, i, b, c, s, at_upd (ne_new hq hp) hp, at_upd (ne_new hq hs) hs, r⟩
theorem StoreS.kp {H H' : Hp} {p sl : Addr} (h : StoreS H p sl) (k : Kp [] H H') : StoreS H' p sl := by
  obtain ⟨ns, i, b, c, s, hp, hs, r⟩ := h
  exact ⟨ns, i, b, c, s, k _ _ nil_mem hp, k _ _ nil_mem hs, r⟩
theorem StoreS.put {H : Hp} {p sl q : Addr} {o : HO} (h : StoreS H p sl) (h1 : q ≠ p) (h2 : q ≠ sl) : StoreS (upd H q o) p sl := by
  obtain ⟨ns, i, b, c, s, hp, hs, r⟩ := h
  exact ⟨ns, i, b, c, s, at_upd h1.symm hp, at_upd h2.symm hs, r⟩
theorem StoreS.ne {H : Hp} {p sl q : Addr} (h : StoreS H p sl) (hq : H q = none) : q ≠ p ∧ q ≠ sl := by
  obtain ⟨ns, i, b, c, s, hp, hs, r⟩ := h
  exact ⟨ne_new' hq hp, ne_new' hq hs⟩
theorem StoreS.free {H H' : Hp} {p sl r : Addr} (h : StoreS H' p sl) (k : Kp [p] H H') (hr : H' r = none) : H r = none := h.at.free k hr
theorem of_map {ns : List Int} {i : Nat} {x : V} (h : (ns.map V.int)[i]? = some x) : ∃ n, x = .int n ∧ ns[i]? = some n := by
  rw [List.getElem?_map] at h
  cases e : ns[i]? with
  | none => rw [e] at h; cases h
  | some n => rw [e] at h; exact ⟨n, (Option.some.inj h).symm, rfl⟩
theorem at_map {ns : List Int} {i : Int} (h0 : 0 ≤ i) (h1 : i < ns.length) : atI (ns.map V.int) i = some (.int (ns.getD i.toNat 0)) := by
  obtain ⟨j, rfl⟩ := Int.eq_ofNat_of_zero_le h0
  have hj : j < ns.length := by omega
  refine atI_nat ?_
  rw [List.getElem?_map, List.getElem?_eq_getElem hj]
  simp [List.getD_eq_getElem?_getD, hj]
abbrev s_law_store : Stmt := topS 57
theorem sc_law_store : FnScope ["script", "seed", "cell"] ["script"] (defScope s_law_store) := ⟨rfl, rfl, rfl, by decide +kernel, rfl, by decide +kernel, by decide +kernel⟩
--DEF _law_store
def spStore (K : PySem.W.Frag) : Sp := fun vs H Q _ => ∃ (a : Addr) (ns : List Int), vs = [.ref a] ∧ SqL K H a (ns.map V.int) ∧ ∀ p H', Kp [] H H' → H p = none → StoreAt H' p → Q (.ref p) H'
theorem ok_law_store (h : DefAt K mg "_law_store" ["script"] s_law_store) (g_len : mg "len" = none) (g_list : mg "list" = none) (D_law_mix : Okk P w K mg base CX0 k "_law_mix" ["one", "two"] spMix) :
    Okk P w K mg base CX0 (k + 1) "_law_store" ["script"] (spStore K) := by
  refine h.ok sc_law_store ?_ ?_
  · rintro vs H Q E ⟨a, ns, rfl, _⟩; rfl
  rintro cdv f A outer s H vs Q E hr ⟨a, ns, rfl, hS, q⟩
  refine ⟨_, (pss_cons (ps_set (i := 1) sc_law_store.nd rfl (Or.inl rfl) (pe_own D_law_mix hr (pa_cons (pe_callB cr_len (by rfl) g_len (by decide +kernel) (pa_cons (pv 0) pa_nil)) (pa_cons pe_int pa_nil))))
      (pss_cons (ps_for PassesOwn.never rfl (pi_list (pv 0)) (pg_name (i := 2) sc_law_store.nd rfl (Or.inl rfl))
        (pss_one (ps_set (i := 1) sc_law_store.nd rfl (Or.inl rfl) (pe_own D_law_mix hr (pa_cons (pv 1) (pa_cons (pv 2) pa_nil))))))
      (pss_one (ps_ret (pe_lst (pa_cons (pe_callTy cr_list (by rfl) g_list (by decide +kernel) (pa_cons (pv 0) pa_nil)) (pa_cons pe_int (pa_cons pe_int (pa_cons pe_int (pa_cons (pv 1) pa_nil)))))))))), ?_⟩
  walk_at "go"
  refine go_mix fun r0 _ _ => ?_
  walk_at "go"
  refine l_list hS (fun i s' H' => ∃ sd c, s' = [some (.ref a), some (.int sd), c] ∧ H' = H) ⟨r0, none, rfl, rfl⟩ (fun i s' H' _ h => ?_) ?_ ?_
  · obtain ⟨_, _, _, rfl⟩ := h; exact hS
  · rintro i x s' H' hx ⟨sd, c, rfl, rfl⟩
    obtain ⟨n, rfl, _⟩ := of_map hx
    walk_at "go"
    refine go_mix fun r _ _ => ?_
    walk_at "go"
    exact ⟨r, some (.int n), rfl, rfl⟩
  · rintro s' H' ⟨sd, c, rfl, rfl⟩
    walk_at "go"
    refine x_listL hS fun l hl => ?_
    walk_at "go"
    intro p hp
    obtain ⟨hp1, hp2⟩ := free_upd hp
    exact q p _ ((Kp.new hl).mut hp1) hp1 ⟨l, ns, 0, 0, 0, sd, upd_same, by walk_at "hp", hp2.symm, by omega, by omega⟩
abbrev s_law_take : Stmt := topS 58
theorem sc_law_take : FnScope ["store", "many", "cell", "digit"] ["store", "many"] (defScope s_law_take) := ⟨rfl, rfl, rfl, by decide +kernel, rfl, by decide +kernel, by decide +kernel⟩
--DEF _law_take
def spTake : Sp := fun vs H Q _ => ∃ (p : Addr) (m : Int) (sl : Addr), vs = [.ref p, .int m] ∧ m < 2 ^ 63 ∧ StoreS H p sl ∧ ∀ d H', StoreS H' p sl → Kp [p] H H' → 0 ≤ d → (m ≤ 1 → d = 0) → (1 < m → d < m) → Q (.int d) H'
theorem go_takeS {p sl : Addr} {m : Int} {H : Hp} {Q : VK} {E : XK} (hs : StoreS H p sl) (q : ∀ d H', StoreS H' p sl → Kp [p] H H' → 0 ≤ d → (m ≤ 1 → d = 0) → (1 < m → d < m) → Q (.int d) H') (hm : m < 2 ^ 63 := by omega) : spTake [.ref p, .int m] H Q E := ⟨p, m, sl, rfl, hm, hs, q⟩
theorem go_take {p : Addr} {m : Int} {H : Hp} {Q : VK} {E : XK} (hs : StoreAt H p) (q : ∀ d H', StoreAt H' p → Kp [p] H H' → 0 ≤ d → (m ≤ 1 → d = 0) → (1 < m → d < m) → Q (.int d) H') (hm : m < 2 ^ 63 := by omega) : spTake [.ref p, .int m] H Q E := by
  obtain ⟨sl, hs⟩ := hs
  exact go_takeS hs (fun d H' a => q d H' a.at) hm
theorem divw_small {i m : Int} (h : 0 < m) (h' : m < 2 ^ 63) : CDivW i m := wide_div (b := 63) h (by omega) (by decide) (by decide)
theorem absI_nn (i : Int) : 0 ≤ absI i := by unfold absI; split <;> omega
theorem ok_law_take (h : DefAt K mg "_law_take" ["store", "many"] s_law_take) (g_len : mg "len" = none) (g_abs : mg "abs" = none) (g_int : mg "int" = none) (D_law_mix : Okk P w K mg base CX0 k "_law_mix" ["one", "two"] spMix) :
    Okk P w K mg base CX0 (k + 1) "_law_take" ["store", "many"] spTake := by
  refine h.ok sc_law_take ?_ ?_
  · rintro vs H Q E ⟨_, _, _, rfl, _⟩; rfl
  rintro cdv f A outer s H vs Q E hr ⟨p, m, sl, rfl, hm, ⟨ns, i, b, c, sd, hp, hsl, hne, hi, hb⟩, q⟩
  refine ⟨_, (pss_cons (ps_if (pt_cmpR op_le (pv 1) pe_int (nomark _)) (pss_one (ps_ret pe_int)) pss_nil)
      (pss_cons (ps_asg (pe_op op_add (pe_ix ix_list (pv 0) pe_int (fun _ _ => rfl)) pe_int) (pg_sub (pv 0) pe_int set_list))
      (C8.pss_cut (ps_if (PW.pt (pw_and (pt_cmpR op_eq (pe_ix ix_list (pv 0) pe_int (fun _ _ => rfl)) pe_int (nomark _)) (pw_and1 (pt_cmpR op_lt (pe_ix ix_list (pv 0) pe_int (fun _ _ => rfl)) (pe_callB cr_len (by rfl) g_len (by decide +kernel) (pa_cons (pe_ix ix_list (pv 0) pe_int (fun _ _ => rfl)) pa_nil)) (nomark _))))) (pss_cons (ps_set (i := 2) sc_law_take.nd rfl (Or.inl rfl) (pe_ix ix_list (pe_ix ix_list (pv 0) pe_int (fun _ _ => rfl)) (pe_ix ix_list (pv 0) pe_int (fun _ _ => rfl)) (fun _ _ => rfl)))
        (pss_cons (ps_asg (pe_op op_add (pe_ix ix_list (pv 0) pe_int (fun _ _ => rfl)) pe_int) (pg_sub (pv 0) pe_int set_list))
        (pss_cons (ps_if (pt_cmpR op_lt (pe_callB cr_abs (by rfl) g_abs (by decide +kernel) (pa_cons (pv 2) pa_nil)) (pe_op op_powW pe_int pe_int) (nomark _)) (pss_one (ps_ret (pe_op op_mod (pe_callTy cr_int (by rfl) g_int (by decide +kernel) (pa_cons (pe_own D_law_mix hr (pa_cons (pv 2) (pa_cons (pe_ix ix_list (pv 0) pe_int (fun _ _ => rfl)) pa_nil))) pa_nil)) (pv 1)))) pss_nil)
        (pss_one (ps_asg (pe_callB cr_abs (by rfl) g_abs (by decide +kernel) (pa_cons (pv 2) pa_nil)) (pg_sub (pv 0) pe_int set_list)))))) pss_nil)
      (pss_cons (ps_if (pt_cmpR op_gt (pe_ix ix_list (pv 0) pe_int (fun _ _ => rfl)) pe_int (nomark _)) (pss_cons (ps_set (i := 3) sc_law_take.nd rfl (Or.inl rfl) (pe_op op_mod (pe_callTy cr_int (by rfl) g_int (by decide +kernel) (pa_cons (pe_ix ix_list (pv 0) pe_int (fun _ _ => rfl)) pa_nil)) (pv 1)))
        (pss_cons (ps_asg (pe_op op_fdivW (pe_callTy cr_int (by rfl) g_int (by decide +kernel) (pa_cons (pe_ix ix_list (pv 0) pe_int (fun _ _ => rfl)) pa_nil)) (pv 1)) (pg_sub (pv 0) pe_int set_list))
        (pss_one (ps_ret (pv 3))))) pss_nil)
      (pss_one (ps_ret (pe_op op_mod (pe_callTy cr_int (by rfl) g_int (by decide +kernel) (pa_cons (pe_own D_law_mix hr (pa_cons (pe_ix ix_list (pv 0) pe_int (fun _ _ => rfl)) (pa_cons (pe_ix ix_list (pv 0) pe_int (fun _ _ => rfl)) pa_nil))) pa_nil)) (pv 1)))))))), ?_⟩
  walk_at "go"
  refine x_dec (fun h1 => ?_) (fun h1 => ?_)
  · walk_at "go"
    exact q 0 H ⟨ns, i, b, c, sd, hp, hsl, hne, hi, hb⟩ Kp.refl (by omega) (fun _ => rfl) (fun z => by omega)
  walk_at "go"
  refine x_cut (fun s' H' => ∃ i' b' c' x3, s' = [some (.ref p), some (.int m), x3, none] ∧ H' = upd H p (.lst [.ref sl, .int i', .int b', .int c', .int sd]) ∧ 0 ≤ i' ∧ 0 ≤ b') ?_ ?_
  · walk_at "go"
    refine x_dec (fun h2 => ?_) (fun h2 => ?_)
    · walk_at "go"
      refine x_dec (fun h3 => ?_) (fun h3 => ?_)
      · rw [List.length_map] at h3
        walk_at "go"
        refine x_ixL (by walk_at "sq") (at_map hi h3) ?_
        walk_at "go"
        refine x_dec (fun h4 => ?_) (fun h4 => ?_)
        · walk_at "go"
          refine go_mix fun r _ _ => ?_
          walk_at "go"
          exact q _ _ ⟨ns, _, _, _, sd, upd_same, at_upd hne hsl, hne, by omega, hb⟩ (Kp.put (by simp)) (Int.emod_nonneg _ (by omega)) (by omega) (fun _ => Int.emod_lt_of_pos _ (by omega))
        · walk_at "go"
          exact ⟨_, _, _, _, rfl, rfl, by omega, absI_nn _⟩
      · walk_at "go"
        exact ⟨_, _, _, _, rfl, rfl, hi, hb⟩
    · walk_at "go"
      exact ⟨_, _, _, _, rfl, rfl, hi, hb⟩
  · rintro s' H' ⟨i', b', c', x3, rfl, rfl, hi', hb'⟩
    walk_at "go"
    refine x_dec (fun h2 => ?_) (fun h2 => ?_)
    · walk_at "go"
      refine x_I (divw_small (by omega) hm) ?_
      walk_at "go"
      exact q _ _ ⟨ns, i', b' / m, c', sd, upd_same, at_upd hne hsl, hne, hi', Int.ediv_nonneg hb' (by omega)⟩ (Kp.put (by simp)) (Int.emod_nonneg _ (by omega)) (by omega) (fun _ => Int.emod_lt_of_pos _ (by omega))
    · walk_at "go"
      refine go_mix fun r _ _ => ?_
      walk_at "go"
      exact q _ _ ⟨ns, i', b', c', sd, upd_same, at_upd hne hsl, hne, hi', hb'⟩ (Kp.put (by simp)) (Int.emod_nonneg _ (by omega)) (by omega) (fun _ => Int.emod_lt_of_pos _ (by omega))
abbrev s_law_number : Stmt := topS 59
theorem sc_law_number : FnScope ["store", "many", "worth", "reach", "k"] ["store", "many"] (defScope s_law_number) := ⟨rfl, rfl, rfl, by decide +kernel, rfl, by decide +kernel, by decide +kernel⟩
--DEF _law_number
def spNumber : Sp := fun vs H Q _ => ∃ (p : Addr) (m : Int) (sl : Addr), vs = [.ref p, .int m] ∧ StoreS H p sl ∧ ∀ d H', StoreS H' p sl → Kp [p] H H' → 0 ≤ d → (m ≤ 1 → d = 0) → (1 < m → d < m) → Q (.int d) H'
theorem go_numberS {p sl : Addr} {m : Int} {H : Hp} {Q : VK} {E : XK} (hs : StoreS H p sl) (q : ∀ d H', StoreS H' p sl → Kp [p] H H' → 0 ≤ d → (m ≤ 1 → d = 0) → (1 < m → d < m) → Q (.int d) H') : spNumber [.ref p, .int m] H Q E := ⟨p, m, sl, rfl, hs, q⟩
theorem go_number {p : Addr} {m : Int} {H : Hp} {Q : VK} {E : XK} (hs : StoreAt H p) (q : ∀ d H', StoreAt H' p → Kp [p] H H' → 0 ≤ d → (m ≤ 1 → d = 0) → (1 < m → d < m) → Q (.int d) H') : spNumber [.ref p, .int m] H Q E := by
  obtain ⟨sl, hs⟩ := hs
  exact go_numberS hs (fun d H' a => q d H' a.at)
theorem ok_law_number (h : DefAt K mg "_law_number" ["store", "many"] s_law_number) (g_range : mg "range" = none) (D_law_take : Okk P w K mg base CX0 k "_law_take" ["store", "many"] spTake) :
    Okk P w K mg base CX0 (k + 1) "_law_number" ["store", "many"] spNumber := by
  refine h.ok sc_law_number ?_ ?_
  · rintro vs H Q E z; first | (obtain ⟨_, _, _, rfl, _⟩ := z; rfl) | (obtain ⟨_, _, _, _, rfl, _⟩ := z; rfl)
  rintro cdv f A outer s H vs Q E hr ⟨p, m, sl, rfl, hS, q⟩
  refine ⟨_, (pss_cons (ps_if (pt_cmpR op_le (pv 1) (pe_op op_powW pe_int pe_int) (nomark _)) (pss_one (ps_ret (pe_own D_law_take hr (pa_cons (pv 0) (pa_cons (pv 1) pa_nil))))) pss_nil)
      (pss_cons (ps_set (i := 2) sc_law_number.nd rfl (Or.inl rfl) pe_int)
      (pss_cons (ps_set (i := 3) sc_law_number.nd rfl (Or.inl rfl) pe_int)
      (pss_cons (ps_for PassesOwn.never rfl (pi_range1 rfl g_range (pa_cons pe_int pa_nil)) (pg_name (i := 4) sc_law_number.nd rfl (Or.inl rfl))
        (pss_cons (ps_if (pt_cmpR op_ge (pv 3) (pv 1) (nomark _)) (pss_one ps_break) pss_nil)
        (pss_cons (ps_set (i := 2) sc_law_number.nd rfl (Or.inl rfl) (pe_op op_add (pe_op op_mul (pv 2) (pe_op op_powW pe_int pe_int)) (pe_own D_law_take hr (pa_cons (pv 0) (pa_cons (pe_op op_powW pe_int pe_int) pa_nil)))))
        (pss_one (ps_set (i := 3) sc_law_number.nd rfl (Or.inl rfl) (pe_op op_mul (pv 3) (pe_op op_powW pe_int pe_int)))))))
      (pss_one (ps_ret (pe_op op_mod (pv 2) (pv 1)))))))), ?_⟩
  walk_at "go"
  refine x_dec (fun h1 => ?_) (fun h1 => ?_)
  · walk_at "go"
    exact go_takeS hS fun d H' a b c e g => q d H' a b c e g
  walk_at "go"
  refine l_rng (by omega) (fun i s' H' => ∃ w r z, s' = [some (.ref p), some (.int m), some (.int w), some (.int r), z] ∧ StoreS H' p sl ∧ Kp [p] H H') ⟨0, 1, none, rfl, hS, Kp.refl⟩ ?_ ?_
  · rintro i s' H' hi ⟨w0, r0, z, rfl, hS', k'⟩
    walk_at "go"
    refine x_dec (fun h2 => ?_) (fun h2 => ?_)
    · walk_at "go"
      exact q _ _ hS' k' (Int.emod_nonneg _ (by omega)) (by omega) (fun _ => Int.emod_lt_of_pos _ (by omega))
    · walk_at "go"
      refine go_takeS hS' fun d H2 a b c e g => ?_
      walk_at "go"
      exact ⟨_, _, _, rfl, a, k'.trans b⟩
  · rintro s' H' ⟨w0, r0, z, rfl, hS', k'⟩
    walk_at "go"
    exact q _ _ hS' k' (Int.emod_nonneg _ (by omega)) (by omega) (fun _ => Int.emod_lt_of_pos _ (by omega))
abbrev s_law_between : Stmt := topS 60
theorem sc_law_between : FnScope ["store", "low", "high"] ["store", "low", "high"] (defScope s_law_between) := ⟨rfl, rfl, rfl, by decide +kernel, rfl, by decide +kernel, by decide +kernel⟩
--DEF _law_between
def spBetween : Sp := fun vs H Q _ => ∃ (p : Addr) (l h : Int) (sl : Addr), vs = [.ref p, .int l, .int h] ∧ StoreS H p sl ∧ ∀ d H', StoreS H' p sl → Kp [p] H H' → l ≤ d → (l ≤ h → d ≤ h) → (h < l → d = l) → Q (.int d) H'
theorem go_betweenS {p sl : Addr} {l h : Int} {H : Hp} {Q : VK} {E : XK} (hs : StoreS H p sl) (q : ∀ d H', StoreS H' p sl → Kp [p] H H' → l ≤ d → (l ≤ h → d ≤ h) → (h < l → d = l) → Q (.int d) H') : spBetween [.ref p, .int l, .int h] H Q E := ⟨p, l, h, sl, rfl, hs, q⟩
theorem go_between {p : Addr} {l h : Int} {H : Hp} {Q : VK} {E : XK} (hs : StoreAt H p) (q : ∀ d H', StoreAt H' p → Kp [p] H H' → l ≤ d → (l ≤ h → d ≤ h) → (h < l → d = l) → Q (.int d) H') : spBetween [.ref p, .int l, .int h] H Q E := by
  obtain ⟨sl, hs⟩ := hs
  exact go_betweenS hs (fun d H' a => q d H' a.at)
theorem ok_law_between (h : DefAt K mg "_law_between" ["store", "low", "high"] s_law_between) (D_law_number : Okk P w K mg base CX0 k "_law_number" ["store", "many"] spNumber) :
    Okk P w K mg base CX0 (k + 1) "_law_between" ["store", "low", "high"] spBetween := by
  refine h.ok sc_law_between ?_ ?_
  · rintro vs H Q E z; first | (obtain ⟨_, _, _, rfl, _⟩ := z; rfl) | (obtain ⟨_, _, _, _, rfl, _⟩ := z; rfl)
  rintro cdv f A outer s H vs Q E hr ⟨p, l, hh, sl, rfl, hS, q⟩
  refine ⟨_, (pss_one (ps_ret (pe_op op_add (pv 1) (pe_own D_law_number hr (pa_cons (pv 0) (pa_cons (pe_op op_add (pe_op op_sub (pv 2) (pv 1)) pe_int) pa_nil)))))), ?_⟩
  walk_at "go"
  refine go_numberS hS fun d H' a b c e g => ?_
  walk_at "go"
  exact q _ _ a b (by omega) (by omega) (by omega)
abbrev s_law_pick : Stmt := topS 61
theorem sc_law_pick : FnScope ["store", "row"] ["store", "row"] (defScope s_law_pick) := ⟨rfl, rfl, rfl, by decide +kernel, rfl, by decide +kernel, by decide +kernel⟩
--DEF _law_pick
def spPick (K : PySem.W.Frag) : Sp := fun vs H Q _ => ∃ (p a : Addr) (xs : List V) (sl : Addr), vs = [.ref p, .ref a] ∧ StoreS H p sl ∧ SqL K H a xs ∧ a ≠ p ∧ 0 < xs.length ∧ xs.length < 100000 ∧ ∀ v H', StoreS H' p sl → Kp [p] H H' → v ∈ xs → Q v H'
theorem go_pickS {p a sl : Addr} {xs : List V} {H : Hp} {Q : VK} {E : XK} (hs : StoreS H p sl) (hx : SqL K H a xs) (hn : a ≠ p) (h0 : 0 < xs.length) (h1 : xs.length < 100000) (q : ∀ v H', StoreS H' p sl → Kp [p] H H' → v ∈ xs → Q v H') : spPick K [.ref p, .ref a] H Q E := ⟨p, a, xs, sl, rfl, hs, hx, hn, h0, h1, q⟩
theorem go_pick {p a : Addr} {xs : List V} {H : Hp} {Q : VK} {E : XK} (hs : StoreAt H p) (hx : SqL K H a xs) (hn : a ≠ p) (h0 : 0 < xs.length) (h1 : xs.length < 100000) (q : ∀ v H', StoreAt H' p → Kp [p] H H' → v ∈ xs → Q v H') : spPick K [.ref p, .ref a] H Q E := by
  obtain ⟨sl, hs⟩ := hs
  exact go_pickS hs hx hn h0 h1 (fun d H' a => q d H' a.at)
theorem ok_law_pick (h : DefAt K mg "_law_pick" ["store", "row"] s_law_pick) (g_len : mg "len" = none) (D_law_take : Okk P w K mg base CX0 k "_law_take" ["store", "many"] spTake) :
    Okk P w K mg base CX0 (k + 1) "_law_pick" ["store", "row"] (spPick K) := by
  refine h.ok sc_law_pick ?_ ?_
  · rintro vs H Q E z; first | (obtain ⟨_, _, _, rfl, _⟩ := z; rfl) | (obtain ⟨_, _, _, _, rfl, _⟩ := z; rfl)
  rintro cdv f A outer s H vs Q E hr ⟨p, a, xs, sl, rfl, hS, hx, hn, h0, h1, q⟩
  refine ⟨_, (pss_one (ps_ret (pe_ix ix_list (pv 1) (pe_own D_law_take hr (pa_cons (pv 0) (pa_cons (pe_callB cr_len (by rfl) g_len (by decide +kernel) (pa_cons (pv 1) pa_nil)) pa_nil))) (fun _ _ => rfl)))), ?_⟩
  walk_at "go"
  refine go_takeS hS fun d H' a1 b c e g => ?_
  have hd : d.toNat < xs.length := by omega
  refine x_ixL (b.sq (one_mem hn) hx) (at_of (j := d.toNat) (by omega) (List.getElem?_eq_getElem hd)) ?_
  exact q _ _ a1 b (List.getElem_mem hd)
abbrev s_greatest_divisor : Stmt := topS 46
theorem sc_greatest_divisor : FnScope ["one", "other"] ["one", "other"] (defScope s_greatest_divisor) := ⟨rfl, rfl, rfl, by decide +kernel, rfl, by decide +kernel, by decide +kernel⟩
--DEF greatest_divisor
def spGcdP : Sp := fun vs H Q _ => ∃ a b : Int, vs = [.int a, .int b] ∧ Q (.int ((Nat.gcd a.natAbs b.natAbs : Nat) : Int)) H
theorem go_gcdp {a b : Int} {H : Hp} {Q : VK} {E : XK} (q : Q (.int ((Nat.gcd a.natAbs b.natAbs : Nat) : Int)) H) : spGcdP [.int a, .int b] H Q E := ⟨a, b, rfl, q⟩
theorem absI_eq (i : Int) : absI i = ((i.natAbs : Nat) : Int) := by unfold absI; split <;> omega
theorem ok_greatest_divisor (h : DefAt K mg "greatest_divisor" ["one", "other"] s_greatest_divisor) (g_abs : mg "abs" = none) : Okk P w K mg base CX0 (k + 1) "greatest_divisor" ["one", "other"] spGcdP := by
  refine h.ok sc_greatest_divisor ?_ ?_
  · rintro vs H Q E ⟨a, b, rfl, _⟩; rfl
  rintro cdv f A outer s H vs Q E hr ⟨a, b, rfl, q⟩
  refine ⟨_, (pss_cons (ps_par (i := 0) (j := 1) (by rfl) sc_greatest_divisor.nd rfl rfl (by decide) rfl rfl (pa_cons (pe_callB cr_abs (by rfl) g_abs (by decide +kernel) (pa_cons (pv 0) pa_nil)) (pa_cons (pe_callB cr_abs (by rfl) g_abs (by decide +kernel) (pa_cons (pv 1) pa_nil)) pa_nil)) (by rfl))
      (pss_cons (ps_while PassesOwn.never (pt_truth (pv 1) (by intro _; rfl))
        (pss_one (ps_par (i := 0) (j := 1) (by rfl) sc_greatest_divisor.nd rfl rfl (by decide) rfl rfl (pa_cons (pv 1) (pa_cons (pe_op op_mod (pv 0) (pv 1)) pa_nil)) (by rfl))))
      (pss_one (ps_ret (pv 0))))), ?_⟩
  walk_at "go"
  rw [absI_eq, absI_eq]
  refine x_while2 (fun m s' H' => ∃ x y : Nat, s' = [some (.int (x : Int)), some (.int (y : Int))] ∧ H' = H ∧ m = y ∧ Nat.gcd x y = Nat.gcd a.natAbs b.natAbs) b.natAbs ⟨_, _, rfl, rfl, rfl, rfl⟩ ?_
  rintro m s' H' ⟨x, y, rfl, rfl, rfl, e⟩
  walk_at "go"
  refine x_bne (fun hy => x_wturn ?_) (fun hy => ?_)
  · have py : 0 < m := by omega
    walk_at "go"
    exact ⟨x % m, Nat.mod_lt _ py, m, x % m, by rw [Int.natCast_emod], rfl, rfl, by rw [← e, Nat.gcd_comm m, ← Nat.gcd_rec, Nat.gcd_comm]⟩
  · have : m = 0 := by omega
    subst this
    walk_at "go"
    rw [Nat.gcd_zero_right] at e
    rw [e]
    exact q
abbrev s_ratio : Stmt := topS 47
theorem sc_ratio : FnScope ["top", "bottom", "divisor"] ["top", "bottom"] (defScope s_ratio) := ⟨rfl, rfl, rfl, by decide +kernel, rfl, by decide +kernel, by decide +kernel⟩
--DEF ratio
def lowT (a b : Int) : Int := (if b < 0 then -a else a) / ((Nat.gcd a.natAbs b.natAbs : Nat) : Int)
def lowB (a b : Int) : Int := (if b < 0 then -b else b) / ((Nat.gcd a.natAbs b.natAbs : Nat) : Int)
/-- how a ratio is answered -/
def RatOut (C : Addr) (t b : Int) (H : Hp) (Q : VK) (E : XK) : Prop := (b = 0 → ∀ H', Kp [] H H' → E (.ref C) none H') ∧ (b ≠ 0 → ∀ p H', Kp [] H H' → H p = none → H' p = some (.tup [.int (lowT t b), .int (lowB t b)]) → Q (.ref p) H')
def spRatio (C : Addr) : Sp := fun vs H Q E => ∃ a b : Int, vs = [.int a, .int b] ∧ Bt 8999 b ∧ RatOut C a b H Q E
theorem go_ratio {C : Addr} {a b : Int} {H : Hp} {Q : VK} {E : XK} (h : Bt 8999 b) (q : RatOut C a b H Q E) : spRatio C [.int a, .int b] H Q E := ⟨a, b, rfl, h, q⟩
theorem gcd_pos {a b : Int} (h : b ≠ 0) : (0 : Int) < ((Nat.gcd a.natAbs b.natAbs : Nat) : Int) := by
  have := Nat.gcd_pos_of_pos_right a.natAbs (n := b.natAbs) (by omega)
  omega
theorem gcd_bt {n : Nat} {a b : Int} (h : b ≠ 0) (hb : Bt n b) : Bt n ((Nat.gcd a.natAbs b.natAbs : Nat) : Int) := hb.le (by
  have := Nat.gcd_le_right a.natAbs (n := b.natAbs) (by omega)
  omega)
theorem ok_ratio {C : Addr} (h : DefAt K mg "ratio" ["top", "bottom"] s_ratio) (X_NoBottom : Ex0 K mg "NoBottom" C) (D_greatest_divisor : Okk P w K mg base CX0 k "greatest_divisor" ["one", "other"] spGcdP) :
    Okk P w K mg base (L2.CX P w) (k + 1) "ratio" ["top", "bottom"] (spRatio C) := by
  refine h.okX sc_ratio ?_ ?_
  · rintro vs H Q E ⟨a, b, rfl, _⟩; rfl
  rintro cdv f A outer s H vs Q E hr ⟨a, b, rfl, hb, q0, q1⟩
  refine ⟨_, (pss_cons (ps_if (pt_cmpR op_eq (pv 1) pe_int (nomark _)) (pss_one (ps_raise0 rfl (takes_of rfl rfl rfl rfl) X_NoBottom)) pss_nil)
      (pss_cons (ps_if (pt_cmpR op_lt (pv 1) pe_int (nomark _)) (pss_one (ps_par (i := 0) (j := 1) (by rfl) sc_ratio.nd rfl rfl (by decide) rfl rfl (pa_cons (pe_un un_neg (pv 0)) (pa_cons (pe_un un_neg (pv 1)) pa_nil)) (by rfl))) pss_nil)
      (pss_cons (ps_set (i := 2) sc_ratio.nd rfl (Or.inl rfl) (pe_own D_greatest_divisor hr (pa_cons (pv 0) (pa_cons (pv 1) pa_nil))))
      (pss_one (ps_ret (pe_tup (pa_cons (pe_op op_fdivW (pv 0) (pv 2)) (pa_cons (pe_op op_fdivW (pv 1) (pv 2)) pa_nil)))))))), ?_⟩
  walk_at "go"
  refine x_dec (fun h0 => ?_) (fun h0 => ?_)
  · walk_at "go"
    exact q0 h0 H Kp.refl
  walk_at "go"
  have gp := gcd_pos (a := a) h0
  have gb := gcd_bt (a := a) h0 hb
  refine x_dec (fun h1 => ?_) (fun h1 => ?_)
  · walk_at "go"
    refine go_gcdp ?_
    rw [Int.natAbs_neg, Int.natAbs_neg]
    walk_at "go"
    refine x_I (gb.divW gp) ?_
    walk_at "go"
    refine x_I (gb.divW gp) ?_
    walk_at "go"
    intro p hp
    refine q1 h0 p _ (Kp.new hp) hp ?_
    unfold lowT lowB
    rw [if_pos h1, if_pos h1]
    exact upd_same
  · walk_at "go"
    refine go_gcdp ?_
    walk_at "go"
    refine x_I (gb.divW gp) ?_
    walk_at "go"
    refine x_I (gb.divW gp) ?_
    walk_at "go"
    intro p hp
    refine q1 h0 p _ (Kp.new hp) hp ?_
    unfold lowT lowB
    rw [if_neg h1, if_neg h1]
    exact upd_same
/-- two ratios in, one out -/
def spBin (K : PySem.W.Frag) (C : Addr) (T B : Int → Int → Int → Int → Int) : Sp := fun vs H Q E => ∃ (a b : Addr) (x y z w : Int), vs = [.ref a, .ref b] ∧ SqT K H a [.int x, .int y] ∧ SqT K H b [.int z, .int w] ∧ (Bt 3000 x ∧ Bt 3000 y ∧ Bt 3000 z ∧ Bt 3000 w) ∧ RatOut C (T x y z w) (B x y z w) H Q E
theorem go_bin {C : Addr} {T B : Int → Int → Int → Int → Int} {a b : Addr} {x y z w : Int} {H : Hp} {Q : VK} {E : XK} (h1 : SqT K H a [.int x, .int y]) (h2 : SqT K H b [.int z, .int w]) (h3 : Bt 3000 x ∧ Bt 3000 y ∧ Bt 3000 z ∧ Bt 3000 w) (q : RatOut C (T x y z w) (B x y z w) H Q E) : spBin K C T B [.ref a, .ref b] H Q E := ⟨a, b, x, y, z, w, rfl, h1, h2, h3, q⟩
abbrev s_plus : Stmt := topS 48
theorem sc_plus : FnScope ["first", "second"] ["first", "second"] (defScope s_plus) := ⟨rfl, rfl, rfl, by decide +kernel, rfl, by decide +kernel, by decide +kernel⟩
--DEF plus
abbrev t_plus : Int → Int → Int → Int → Int := fun x y z w => x * w + z * y
abbrev b_plus : Int → Int → Int → Int → Int := fun x y z w => y * w
theorem ok_plus {C : Addr} (h : DefAt K mg "plus" ["first", "second"] s_plus) (D_ratio : Okk P w K mg base (L2.CX P w) k "ratio" ["top", "bottom"] (spRatio C)) : Okk P w K mg base (L2.CX P w) (k + 1) "plus" ["first", "second"] (spBin K C t_plus b_plus) := by
  refine h.okX sc_plus ?_ ?_
  · rintro vs H Q E ⟨a, b, _, _, _, _, rfl, _⟩; rfl
  rintro cdv f A outer s H vs Q E hr ⟨a, b, x, y, z, w, rfl, ha, hb, ⟨hx, hy, hz, hw⟩, q⟩
  refine ⟨_, (pss_one (ps_ret (pe_ownX D_ratio hr (passes_call (takes_of rfl rfl rfl rfl) fun _ _ _ _ z => z) (pa_cons (pe_op op_add (pe_op op_mulW (pe_ix ix_tup (pv 0) pe_int (fun _ _ => rfl)) (pe_ix ix_tup (pv 1) pe_int (fun _ _ => rfl))) (pe_op op_mulW (pe_ix ix_tup (pv 1) pe_int (fun _ _ => rfl)) (pe_ix ix_tup (pv 0) pe_int (fun _ _ => rfl)))) (pa_cons (pe_op op_mulW (pe_ix ix_tup (pv 0) pe_int (fun _ _ => rfl)) (pe_ix ix_tup (pv 1) pe_int (fun _ _ => rfl))) pa_nil))))), ?_⟩
  walk_at "go"
  exact go_ratio ((Bt.mul hy hw).mono (by decide)) q
abbrev s_minus : Stmt := topS 49
theorem sc_minus : FnScope ["first", "second"] ["first", "second"] (defScope s_minus) := ⟨rfl, rfl, rfl, by decide +kernel, rfl, by decide +kernel, by decide +kernel⟩
--DEF minus
abbrev t_minus : Int → Int → Int → Int → Int := fun x y z w => x * w - z * y
abbrev b_minus : Int → Int → Int → Int → Int := fun x y z w => y * w
theorem ok_minus {C : Addr} (h : DefAt K mg "minus" ["first", "second"] s_minus) (D_ratio : Okk P w K mg base (L2.CX P w) k "ratio" ["top", "bottom"] (spRatio C)) : Okk P w K mg base (L2.CX P w) (k + 1) "minus" ["first", "second"] (spBin K C t_minus b_minus) := by
  refine h.okX sc_minus ?_ ?_
  · rintro vs H Q E ⟨a, b, _, _, _, _, rfl, _⟩; rfl
  rintro cdv f A outer s H vs Q E hr ⟨a, b, x, y, z, w, rfl, ha, hb, ⟨hx, hy, hz, hw⟩, q⟩
  refine ⟨_, (pss_one (ps_ret (pe_ownX D_ratio hr (passes_call (takes_of rfl rfl rfl rfl) fun _ _ _ _ z => z) (pa_cons (pe_op op_sub (pe_op op_mulW (pe_ix ix_tup (pv 0) pe_int (fun _ _ => rfl)) (pe_ix ix_tup (pv 1) pe_int (fun _ _ => rfl))) (pe_op op_mulW (pe_ix ix_tup (pv 1) pe_int (fun _ _ => rfl)) (pe_ix ix_tup (pv 0) pe_int (fun _ _ => rfl)))) (pa_cons (pe_op op_mulW (pe_ix ix_tup (pv 0) pe_int (fun _ _ => rfl)) (pe_ix ix_tup (pv 1) pe_int (fun _ _ => rfl))) pa_nil))))), ?_⟩
  walk_at "go"
  exact go_ratio ((Bt.mul hy hw).mono (by decide)) q
abbrev s_times : Stmt := topS 50
theorem sc_times : FnScope ["first", "second"] ["first", "second"] (defScope s_times) := ⟨rfl, rfl, rfl, by decide +kernel, rfl, by decide +kernel, by decide +kernel⟩
--DEF times
abbrev t_times : Int → Int → Int → Int → Int := fun x y z w => x * z
abbrev b_times : Int → Int → Int → Int → Int := fun x y z w => y * w
theorem ok_times {C : Addr} (h : DefAt K mg "times" ["first", "second"] s_times) (D_ratio : Okk P w K mg base (L2.CX P w) k "ratio" ["top", "bottom"] (spRatio C)) : Okk P w K mg base (L2.CX P w) (k + 1) "times" ["first", "second"] (spBin K C t_times b_times) := by
  refine h.okX sc_times ?_ ?_
  · rintro vs H Q E ⟨a, b, _, _, _, _, rfl, _⟩; rfl
  rintro cdv f A outer s H vs Q E hr ⟨a, b, x, y, z, w, rfl, ha, hb, ⟨hx, hy, hz, hw⟩, q⟩
  refine ⟨_, (pss_one (ps_ret (pe_ownX D_ratio hr (passes_call (takes_of rfl rfl rfl rfl) fun _ _ _ _ z => z) (pa_cons (pe_op op_mulW (pe_ix ix_tup (pv 0) pe_int (fun _ _ => rfl)) (pe_ix ix_tup (pv 1) pe_int (fun _ _ => rfl))) (pa_cons (pe_op op_mulW (pe_ix ix_tup (pv 0) pe_int (fun _ _ => rfl)) (pe_ix ix_tup (pv 1) pe_int (fun _ _ => rfl))) pa_nil))))), ?_⟩
  walk_at "go"
  exact go_ratio ((Bt.mul hy hw).mono (by decide)) q
abbrev s_divided : Stmt := topS 51
theorem sc_divided : FnScope ["first", "second"] ["first", "second"] (defScope s_divided) := ⟨rfl, rfl, rfl, by decide +kernel, rfl, by decide +kernel, by decide +kernel⟩
--DEF divided
abbrev t_divided : Int → Int → Int → Int → Int := fun x y z w => x * w
abbrev b_divided : Int → Int → Int → Int → Int := fun x y z w => y * z
theorem ok_divided {C : Addr} (h : DefAt K mg "divided" ["first", "second"] s_divided) (D_ratio : Okk P w K mg base (L2.CX P w) k "ratio" ["top", "bottom"] (spRatio C)) : Okk P w K mg base (L2.CX P w) (k + 1) "divided" ["first", "second"] (spBin K C t_divided b_divided) := by
  refine h.okX sc_divided ?_ ?_
  · rintro vs H Q E ⟨a, b, _, _, _, _, rfl, _⟩; rfl
  rintro cdv f A outer s H vs Q E hr ⟨a, b, x, y, z, w, rfl, ha, hb, ⟨hx, hy, hz, hw⟩, q⟩
  refine ⟨_, (pss_one (ps_ret (pe_ownX D_ratio hr (passes_call (takes_of rfl rfl rfl rfl) fun _ _ _ _ z => z) (pa_cons (pe_op op_mulW (pe_ix ix_tup (pv 0) pe_int (fun _ _ => rfl)) (pe_ix ix_tup (pv 1) pe_int (fun _ _ => rfl))) (pa_cons (pe_op op_mulW (pe_ix ix_tup (pv 0) pe_int (fun _ _ => rfl)) (pe_ix ix_tup (pv 1) pe_int (fun _ _ => rfl))) pa_nil))))), ?_⟩
  walk_at "go"
  exact go_ratio ((Bt.mul hy hz).mono (by decide)) q
abbrev s_is_less : Stmt := topS 52
theorem sc_is_less : FnScope ["first", "second"] ["first", "second"] (defScope s_is_less) := ⟨rfl, rfl, rfl, by decide +kernel, rfl, by decide +kernel, by decide +kernel⟩
--DEF is_less
def spLess (K : PySem.W.Frag) : Sp := fun vs H Q _ => ∃ (a b : Addr) (x y z w : Int), vs = [.ref a, .ref b] ∧ SqT K H a [.int x, .int y] ∧ SqT K H b [.int z, .int w] ∧ (Bt 3000 x ∧ Bt 3000 y ∧ Bt 3000 z ∧ Bt 3000 w) ∧ Q (.bl (decide (x * w < z * y))) H
theorem go_less {a b : Addr} {x y z w : Int} {H : Hp} {Q : VK} {E : XK} (h1 : SqT K H a [.int x, .int y]) (h2 : SqT K H b [.int z, .int w]) (h3 : Bt 3000 x ∧ Bt 3000 y ∧ Bt 3000 z ∧ Bt 3000 w) (q : Q (.bl (decide (x * w < z * y))) H) : spLess K [.ref a, .ref b] H Q E := ⟨a, b, x, y, z, w, rfl, h1, h2, h3, q⟩
theorem ok_is_less (h : DefAt K mg "is_less" ["first", "second"] s_is_less) : Okk P w K mg base CX0 (k + 1) "is_less" ["first", "second"] (spLess K) := by
  refine h.ok sc_is_less ?_ ?_
  · rintro vs H Q E ⟨a, b, _, _, _, _, rfl, _⟩; rfl
  rintro cdv f A outer s H vs Q E hr ⟨a, b, x, y, z, w, rfl, ha, hb, ⟨hx, hy, hz, hw⟩, q⟩
  refine ⟨_, (pss_one (ps_ret (pe_cmpR op_lt (pe_op op_mulW (pe_ix ix_tup (pv 0) pe_int (fun _ _ => rfl)) (pe_ix ix_tup (pv 1) pe_int (fun _ _ => rfl))) (pe_op op_mulW (pe_ix ix_tup (pv 1) pe_int (fun _ _ => rfl)) (pe_ix ix_tup (pv 0) pe_int (fun _ _ => rfl))) (nomark _)))), ?_⟩
  walk_at "go"
  exact q
abbrev s_is_whole : Stmt := topS 53
theorem sc_is_whole : FnScope ["first"] ["first"] (defScope s_is_whole) := ⟨rfl, rfl, rfl, by decide +kernel, rfl, by decide +kernel, by decide +kernel⟩
--DEF is_whole
def spWhole (K : PySem.W.Frag) : Sp := fun vs H Q _ => ∃ (a : Addr) (x y : Int), vs = [.ref a] ∧ SqT K H a [.int x, .int y] ∧ Q (.bl (decide (y = 1))) H
theorem ok_is_whole (h : DefAt K mg "is_whole" ["first"] s_is_whole) : Okk P w K mg base CX0 (k + 1) "is_whole" ["first"] (spWhole K) := by
  refine h.ok sc_is_whole ?_ ?_
  · rintro vs H Q E ⟨a, _, _, rfl, _⟩; rfl
  rintro cdv f A outer s H vs Q E hr ⟨a, x, y, rfl, ha, q⟩
  refine ⟨_, (pss_one (ps_ret (pe_cmpR op_eq (pe_ix ix_tup (pv 0) pe_int (fun _ _ => rfl)) pe_int (nomark _)))), ?_⟩
  walk_at "go"
  exact q
abbrev s_floor_of : Stmt := topS 54
theorem sc_floor_of : FnScope ["first"] ["first"] (defScope s_floor_of) := ⟨rfl, rfl, rfl, by decide +kernel, rfl, by decide +kernel, by decide +kernel⟩
--DEF floor_of
def spFloor (K : PySem.W.Frag) : Sp := fun vs H Q _ => ∃ (a : Addr) (x y : Int), vs = [.ref a] ∧ SqT K H a [.int x, .int y] ∧ 0 < y ∧ Bt 3000 y ∧ Q (.int (x / y)) H
theorem ok_floor_of (h : DefAt K mg "floor_of" ["first"] s_floor_of) : Okk P w K mg base CX0 (k + 1) "floor_of" ["first"] (spFloor K) := by
  refine h.ok sc_floor_of ?_ ?_
  · rintro vs H Q E ⟨a, _, _, rfl, _⟩; rfl
  rintro cdv f A outer s H vs Q E hr ⟨a, x, y, rfl, ha, hy, by_, q⟩
  refine ⟨_, (pss_one (ps_ret (pe_op op_fdivW (pe_ix ix_tup (pv 0) pe_int (fun _ _ => rfl)) (pe_ix ix_tup (pv 0) pe_int (fun _ _ => rfl))))), ?_⟩
  walk_at "go"
  refine x_I (by_.divW hy) ?_
  walk_at "go"
  exact q
/-! ### how far the law's own loop for the divisor has to go -/
def fib : Nat → Nat
  | 0 => 0
  | 1 => 1
  | n + 2 => fib (n + 1) + fib n
theorem fib_two (n : Nat) : fib (n + 2) = fib (n + 1) + fib n := rfl
theorem fib_rat : ∀ n, 8 * fib (n + 5) ≤ 5 * fib (n + 6) ∧ 3 * fib (n + 6) ≤ 5 * fib (n + 5)
  | 0 => by decide
  | n + 1 => by
    obtain ⟨h1, h2⟩ := fib_rat n
    have e : fib (n + 1 + 6) = fib (n + 6) + fib (n + 5) := fib_two (n + 5)
    have e2 : fib (n + 1 + 5) = fib (n + 6) := rfl
    omega
theorem fib_up (n : Nat) : 512 * fib (n + 5) ≤ fib (n + 18) := by
  obtain ⟨h1, h2⟩ := fib_rat n
  have e2 : fib (n + 7) = fib (n + 6) + fib (n + 5) := fib_two (n + 5)
  have e3 : fib (n + 8) = fib (n + 7) + fib (n + 6) := fib_two (n + 6)
  have e4 : fib (n + 9) = fib (n + 8) + fib (n + 7) := fib_two (n + 7)
  have e5 : fib (n + 10) = fib (n + 9) + fib (n + 8) := fib_two (n + 8)
  have e6 : fib (n + 11) = fib (n + 10) + fib (n + 9) := fib_two (n + 9)
  have e7 : fib (n + 12) = fib (n + 11) + fib (n + 10) := fib_two (n + 10)
  have e8 : fib (n + 13) = fib (n + 12) + fib (n + 11) := fib_two (n + 11)
  have e9 : fib (n + 14) = fib (n + 13) + fib (n + 12) := fib_two (n + 12)
  have e10 : fib (n + 15) = fib (n + 14) + fib (n + 13) := fib_two (n + 13)
  have e11 : fib (n + 16) = fib (n + 15) + fib (n + 14) := fib_two (n + 14)
  have e12 : fib (n + 17) = fib (n + 16) + fib (n + 15) := fib_two (n + 15)
  have e13 : fib (n + 18) = fib (n + 17) + fib (n + 16) := fib_two (n + 16)
  omega
theorem fib_big : ∀ j, 2 ^ (9 * j) ≤ fib (13 * j + 5)
  | 0 => by decide
  | j + 1 => by
    have h := fib_big j
    have u := fib_up (13 * j)
    have e : 13 * (j + 1) + 5 = 13 * j + 18 := by omega
    have e2 : 9 * (j + 1) = 9 * j + 9 := by omega
    rw [e, e2, Nat.pow_add]
    omega
theorem fib_mono : ∀ (n j : Nat), fib n ≤ fib (n + j)
  | n, 0 => Nat.le_refl _
  | n, j + 1 => by
    have h := fib_mono n j
    have e : fib (n + (j + 1)) ≥ fib (n + j) := by
      cases q : n + j with
      | zero => rw [show n + (j + 1) = 1 by omega]; decide
      | succ m =>
        rw [show n + (j + 1) = m + 2 by omega, fib_two]
        omega
    omega
theorem fib_4001 : 2 ^ 2760 ≤ fib 4001 := by
  have h := fib_big 307
  have m := fib_mono (13 * 307 + 5) 5
  have p : (2 : Nat) ^ 2760 ≤ 2 ^ (9 * 307) := Nat.pow_le_pow_right (by decide) (by decide)
  exact Nat.le_trans p (Nat.le_trans h m)
/-- the pair is far from its end -/
def Far (m x y : Nat) : Prop := fib (m + 1) ≤ y ∧ fib (m + 2) ≤ x
theorem far_back {m x y : Nat} (hy : 0 < y) (hxy : y ≤ x) (h : Far m y (x % y)) : Far (m + 1) x y := by
  obtain ⟨h1, h2⟩ := h
  refine ⟨h2, ?_⟩
  have e : fib (m + 1 + 2) = fib (m + 2) + fib (m + 1) := fib_two (m + 1)
  have d := Nat.div_add_mod x y
  have q : 1 ≤ x / y := (Nat.le_div_iff_mul_le hy).mpr (by omega)
  have z : y * 1 ≤ y * (x / y) := Nat.mul_le_mul_left _ q
  omega
abbrev s_law_gcd : Stmt := topS 65
theorem sc_law_gcd : FnScope ["one", "two", "k", "kept"] ["one", "two"] (defScope s_law_gcd) := ⟨rfl, rfl, rfl, by decide +kernel, rfl, by decide +kernel, by decide +kernel⟩
--DEF _law_gcd
def spGcdL : Sp := fun vs H Q _ => ∃ a b : Int, vs = [.int a, .int b] ∧ Bt 2760 b ∧ Q (.int ((Nat.gcd a.natAbs b.natAbs : Nat) : Int)) H
theorem go_gcdl {a b : Int} {H : Hp} {Q : VK} {E : XK} (hb : Bt 2760 b) (q : Q (.int ((Nat.gcd a.natAbs b.natAbs : Nat) : Int)) H) : spGcdL [.int a, .int b] H Q E := ⟨a, b, rfl, hb, q⟩
theorem absI_nat (i : Int) : absI i = ((i.natAbs : Nat) : Int) := by unfold absI; split <;> omega
theorem ok_law_gcd (h : DefAt K mg "_law_gcd" ["one", "two"] s_law_gcd) (g_abs : mg "abs" = none) (g_int : mg "int" = none) (g_range : mg "range" = none) : Okk P w K mg base CX0 (k + 1) "_law_gcd" ["one", "two"] spGcdL := by
  refine h.ok sc_law_gcd ?_ ?_
  · rintro vs H Q E ⟨a, b, rfl, _⟩; rfl
  rintro cdv f A outer s H vs Q E hr ⟨a, b, rfl, hb, q⟩
  refine ⟨_, (pss_cons (ps_set (i := 0) sc_law_gcd.nd rfl (Or.inl rfl) (pe_callB cr_abs (by rfl) g_abs (by decide +kernel) (pa_cons (pe_callTy cr_int (by rfl) g_int (by decide +kernel) (pa_cons (pv 0) pa_nil)) pa_nil)))
      (pss_cons (ps_set (i := 1) sc_law_gcd.nd rfl (Or.inl rfl) (pe_callB cr_abs (by rfl) g_abs (by decide +kernel) (pa_cons (pe_callTy cr_int (by rfl) g_int (by decide +kernel) (pa_cons (pv 1) pa_nil)) pa_nil)))
      (pss_cons (ps_for PassesOwn.never rfl (pi_range1 rfl g_range (pa_cons pe_int pa_nil)) (pg_name (i := 2) sc_law_gcd.nd rfl (Or.inl rfl))
        (pss_cons (ps_if (pt_cmpR op_eq (pv 1) pe_int (nomark _)) (pss_one ps_break) pss_nil)
        (pss_cons (ps_set (i := 3) sc_law_gcd.nd rfl (Or.inl rfl) (pe_op op_mod (pv 0) (pv 1)))
        (pss_cons (ps_set (i := 0) sc_law_gcd.nd rfl (Or.inl rfl) (pv 1))
        (pss_one (ps_set (i := 1) sc_law_gcd.nd rfl (Or.inl rfl) (pv 3)))))))
      (pss_one (ps_ret (pv 0)))))), ?_⟩
  walk_at "go"
  rw [absI_nat, absI_nat]
  have hb0 : ¬ Far 4000 a.natAbs b.natAbs := fun z => by
    have h1 : fib 4001 ≤ b.natAbs := z.1
    exact absurd (Nat.lt_of_lt_of_le hb (Nat.le_trans fib_4001 h1)) (Nat.lt_irrefl _)
  have hb1 : ¬ Far 3999 b.natAbs (a.natAbs % b.natAbs) := fun z => by
    have h1 : fib 4001 ≤ b.natAbs := z.2
    exact absurd (Nat.lt_of_lt_of_le hb (Nat.le_trans fib_4001 h1)) (Nat.lt_irrefl _)
  refine l_rng (by omega) (fun i s' H' => ∃ (x y : Nat) (z1 z2 : Option V), s' = [some (.int (x : Int)), some (.int (y : Int)), z1, z2] ∧ H' = H ∧ Nat.gcd x y = Nat.gcd a.natAbs b.natAbs ∧
    ((i = 0 ∧ x = a.natAbs ∧ y = b.natAbs) ∨ (0 < x ∧ y < x ∧ ∃ m, m + i = 4000 ∧ ¬ Far m x y))) ⟨_, _, none, none, rfl, rfl, rfl, .inl ⟨rfl, rfl, rfl⟩⟩ ?_ ?_
  · rintro i s' H' hi ⟨x, y, z1, z2, rfl, rfl, e, w⟩
    walk_at "go"
    refine x_dec (fun h0 => ?_) (fun h0 => ?_)
    · have ey : y = 0 := by omega
      subst ey
      walk_at "go"
      rw [Nat.gcd_zero_right] at e
      rw [e]
      exact q
    · have hy : 0 < y := by omega
      walk_at "go"
      refine ⟨y, x % y, _, _, rfl, rfl, ?_, .inr ⟨hy, Nat.mod_lt _ hy, ?_⟩⟩
      · rw [← e, Nat.gcd_comm y, ← Nat.gcd_rec, Nat.gcd_comm]
      · rcases w with ⟨e1, e2, e3⟩ | ⟨w1, w2, m, em, w3⟩
        · subst e1 e2 e3
          exact ⟨3999, rfl, hb1⟩
        · obtain ⟨n, rfl⟩ : ∃ n, m = n + 1 := ⟨m - 1, by omega⟩
          exact ⟨n, by omega, fun z => w3 (far_back hy (Nat.le_of_lt w2) z)⟩
  · rintro s' H' ⟨x, y, z1, z2, rfl, rfl, e, w⟩
    rcases w with ⟨e1, _, _⟩ | ⟨w1, w2, m, em, w3⟩
    · exact absurd e1 (by decide)
    have em' : m + 4000 = 4000 := em
    have e0 : m = 0 := by omega
    subst e0
    have ey : y = 0 := by
      rcases Nat.eq_zero_or_pos y with z | z
      · exact z
      · exact absurd ⟨z, w1⟩ w3
    subst ey
    walk_at "go"
    rw [Nat.gcd_zero_right] at e
    rw [e]
    exact q
abbrev s_law_is_int : Stmt := topS 63
theorem sc_law_is_int : FnScope ["told"] ["told"] (defScope s_law_is_int) := ⟨rfl, rfl, rfl, by decide +kernel, rfl, by decide +kernel, by decide +kernel⟩
--DEF _law_is_int
def isI : PyData → Bool
  | .int _ => true
  | _ => false
def spIsInt (K : PySem.W.Frag) : Sp := fun vs H Q _ => ∃ v d, vs = [v] ∧ Rr K H v d ∧ Q (.bl (isI d)) H
theorem go_isint {v : V} {d : PyData} {H : Hp} {Q : VK} {E : XK} (h : Rr K H v d) (q : Q (.bl (isI d)) H) : spIsInt K [v] H Q E := ⟨v, d, rfl, h, q⟩
theorem go_isint1 {i : Int} {H : Hp} {Q : VK} {E : XK} (q : Q (.bl true) H) : spIsInt K [.int i] H Q E := ⟨.int i, .int i, rfl, .int i, q⟩
theorem ok_law_is_int (h : DefAt K mg "_law_is_int" ["told"] s_law_is_int) (g_isinstance : mg "isinstance" = none) (g_int : mg "int" = none) (g_bool : mg "bool" = none) : Okk P w K mg base CX0 (k + 1) "_law_is_int" ["told"] (spIsInt K) := by
  refine h.ok sc_law_is_int ?_ ?_
  · rintro vs H Q E ⟨v, d, rfl, _⟩; rfl
  rintro cdv f A outer s H vs Q E hr ⟨v, d, rfl, hv, q⟩
  refine ⟨_, (pss_one (ps_ret (pe_and (pe_callB call_isi (by rfl) g_isinstance (by decide +kernel) (pa_cons (pv 0) (pa_cons (pe_bltn (v := .ty "int") (by rfl) g_int (by decide +kernel) rfl) pa_nil))) (pe_one (pe_not (pe_callB call_isi (by rfl) g_isinstance (by decide +kernel) (pa_cons (pv 0) (pa_cons (pe_bltn (v := .ty "bool") (by rfl) g_bool (by decide +kernel) rfl) pa_nil)))))))), ?_⟩
  cases hv <;> walk_at "go" <;> exact q
abbrev s_law_is_ints : Stmt := topS 64
theorem sc_law_is_ints : FnScope ["told", "part"] ["told"] (defScope s_law_is_ints) := ⟨rfl, rfl, rfl, by decide +kernel, rfl, by decide +kernel, by decide +kernel⟩
--DEF _law_is_ints
def isIs : PyData → Bool
  | .list ds => ds.all isI
  | _ => false
def spIsInts (K : PySem.W.Frag) : Sp := fun vs H Q _ => ∃ v d, vs = [v] ∧ Rr K H v d ∧ (∀ ds, d = .list ds → ds.length ≤ 100000) ∧ ∀ H', Kp [] H H' → Q (.bl (isIs d)) H'
theorem go_isints {v : V} {d : PyData} {H : Hp} {Q : VK} {E : XK} (h : Rr K H v d) (l : ∀ ds, d = .list ds → ds.length ≤ 100000) (q : ∀ H', Kp [] H H' → Q (.bl (isIs d)) H') : spIsInts K [v] H Q E := ⟨v, d, rfl, h, l, q⟩
theorem all_range {α : Type} (p : α → Bool) : ∀ l : List α, ((List.range l.length).map fun i => (l[i]?.map p).getD false).all id = l.all p := fun l => by
  rw [Bool.eq_iff_iff, List.all_eq_true, List.all_eq_true]
  constructor
  · intro h x hx
    obtain ⟨i, hi, e⟩ := List.getElem_of_mem hx
    have := h _ (List.mem_map.mpr ⟨i, List.mem_range.mpr hi, rfl⟩)
    rw [List.getElem?_eq_getElem hi] at this
    simpa [e] using this
  · intro h x hx
    obtain ⟨i, hi, rfl⟩ := List.mem_map.mp hx
    have hi := List.mem_range.mp hi
    rw [List.getElem?_eq_getElem hi]
    simpa using h _ (List.getElem_mem hi)
theorem ok_law_is_ints (h : DefAt K mg "_law_is_ints" ["told"] s_law_is_ints) (g_isinstance : mg "isinstance" = none) (g_list : mg "list" = none) (g_all : mg "all" = none) (D_law_is_int : Okk P w K mg base CX0 k "_law_is_int" ["told"] (spIsInt K)) : Okk P w K mg base CX0 (k + 1) "_law_is_ints" ["told"] (spIsInts K) := by
  refine h.ok sc_law_is_ints ?_ ?_
  · rintro vs H Q E ⟨v, d, rfl, _⟩; rfl
  rintro cdv f A outer s H vs Q E hr ⟨v, d, rfl, hv, hl, q⟩
  refine ⟨_, (pss_one (ps_ret (pe_and (pe_callB call_isi (by rfl) g_isinstance (by decide +kernel) (pa_cons (pv 0) (pa_cons (pe_bltn (v := .ty "list") (by rfl) g_list (by decide +kernel) rfl) pa_nil))) (pe_one (pe_callB (cr_all rfl) (by rfl) g_all (by decide +kernel) (pa_cons (pe_lc (own := [("part", 1)]) rfl sc_law_is_ints.nd (pi_list (pv 0)) (blkOk_by (own := [("part", 1)]) (N := ["told", "part"]) (sc := defScope s_law_is_ints) (by decide +kernel)) (fun _ _ _ _ _ => pg_name (i := 1) sc_law_is_ints.nd rfl (Or.inl rfl)) (fun _ _ _ _ _ => pts_nil) (fun _ _ _ _ _ => (pe_own D_law_is_int hr (pa_cons (pv 1) pa_nil)))) pa_nil)))))), ?_⟩
  cases hv with
  | @lst a xs ds _ hx hA =>
    have hlen := hA.length
    have hz := hl ds rfl
    walk_at "go"
    refine l_lcLm (by walk_at "wipe") [] (fun i => .bl ((ds[i]?.map isI).getD false)) hx nil_mem (by simp) (by omega) ?_ gname_mono ?_
    · intro Dl i x H' Z h1 hi kp hZ
      obtain ⟨d, gd, rd⟩ := hA.get' hi
      walk_at "go"
      refine ⟨rfl, ?_⟩
      walk_at "go"
      refine go_isint (rd.to kp) ?_
      have := hZ H' Kp.refl
      rw [gd] at this
      exact this
    · intro Dl H' h1 kp hD
      walk_at "go"
      refine ⟨Dl, (List.range xs.length).map fun i => (ds[i]?.map isI).getD false, rfl, SqL.of (by rw [hD, List.map_map]; rfl), ?_⟩
      rw [hlen, all_range]
      exact q H' kp
  | _ =>
    walk_at "go"
    exact q H Kp.refl
mutual
/-- how deep data goes -/
def dep : PyData → Nat
  | .list xs => depAll xs + 1
  | .tuple xs => depAll xs + 1
  | _ => 0
def depAll : List PyData → Nat
  | [] => 0
  | x :: r => max (dep x) (depAll r)
end
theorem dep_le : ∀ {ds : List PyData} {i : Nat} {d : PyData}, ds[i]? = some d → dep d ≤ depAll ds
  | [], _, _, h => by simp at h
  | x :: r, 0, d, h => by
    simp at h
    subst h
    show dep x ≤ max (dep x) (depAll r)
    omega
  | x :: r, i + 1, d, h => by
    have := dep_le (ds := r) (i := i) (d := d) (by simpa using h)
    show dep d ≤ max (dep x) (depAll r)
    omega
mutual
/-- the greatest length of a list within -/
def wid : PyData → Nat
  | .list xs => max xs.length (widAll xs)
  | .tuple xs => max xs.length (widAll xs)
  | _ => 0
def widAll : List PyData → Nat
  | [] => 0
  | x :: r => max (wid x) (widAll r)
end
theorem wid_le : ∀ {ds : List PyData} {i : Nat} {d : PyData}, ds[i]? = some d → wid d ≤ widAll ds
  | [], _, _, h => by simp at h
  | x :: r, 0, d, h => by
    simp at h
    subst h
    show wid x ≤ max (wid x) (widAll r)
    omega
  | x :: r, i + 1, d, h => by
    have := wid_le (ds := r) (i := i) (d := d) (by simpa using h)
    show wid d ≤ max (wid x) (widAll r)
    omega
theorem dep_ints (ns : List Int) : depAll (ns.map .int) = 0 := by
  induction ns with
  | nil => rfl
  | cons n r ih =>
    show max 0 (depAll (r.map .int)) = 0
    omega
theorem wid_ints (ns : List Int) : widAll (ns.map .int) = 0 := by
  induction ns with
  | nil => rfl
  | cons n r ih =>
    show max 0 (widAll (r.map .int)) = 0
    omega
abbrev s_law_same : Stmt := topS 62
theorem sc_law_same : FnScope ["told", "due", "k"] ["told", "due"] (defScope s_law_same) := ⟨rfl, rfl, rfl, by decide +kernel, rfl, by decide +kernel, by decide +kernel⟩
--DEF _law_same
def spSame (K : PySem.W.Frag) (n : Nat) : Sp := fun vs H Q _ => ∃ (x y : V) (d e : PyData), vs = [x, y] ∧ Rr K H x d ∧ Rr K H y e ∧ dep e ≤ n ∧ wid e < 100000 ∧ ∀ b H', Kp [] H H' → (b = true ↔ d = e) → Q (.bl b) H'
theorem go_same {n : Nat} {x y : V} {d e : PyData} {H : Hp} {Q : VK} {E : XK} (h1 : Rr K H x d) (h2 : Rr K H y e) (hn : dep e ≤ n) (hw : wid e < 100000) (q : ∀ b H', Kp [] H H' → (b = true ↔ d = e) → Q (.bl b) H') : spSame K n [x, y] H Q E := ⟨x, y, d, e, rfl, h1, h2, hn, hw, q⟩
theorem len_ne {ds es : List PyData} (h : ds.length ≠ es.length) : ds ≠ es := fun z => h (by rw [z])
set_option maxHeartbeats 4000000 in
theorem ok_law_same_step {n : Nat} (h : DefAt K mg "_law_same" ["told", "due"] s_law_same) (g_isinstance : mg "isinstance" = none) (g_bool : mg "bool" = none) (g_int : mg "int" = none) (g_str : mg "str" = none) (g_list : mg "list" = none) (g_tuple : mg "tuple" = none) (g_len : mg "len" = none) (g_range : mg "range" = none)
    {sp : Sp} (D_law_same : Okk P w K mg base CX0 k "_law_same" ["told", "due"] sp) (hs : ∀ m vs H Q E, m < n → spSame K m vs H Q E → sp vs H Q E) : Okk P w K mg base CX0 (k + 1) "_law_same" ["told", "due"] (spSame K n) := by
  refine h.ok sc_law_same ?_ ?_
  · rintro vs H Q E ⟨a, ns, _, _, rfl, _⟩; rfl
  rintro cdv f A outer s H vs Q E hr ⟨x, y, d, e, rfl, hx, hy, hn, hw, q⟩
  refine ⟨_, (pss_cons (ps_if (pt_cmpR op_isN' (pv 1) pe_non (nomark _)) (pss_one (ps_ret (pe_cmpR op_isN' (pv 0) pe_non (nomark _)))) pss_nil)
      (pss_cons (ps_if (pt_val (pe_callB call_isi (by rfl) g_isinstance (by decide +kernel) (pa_cons (pv 1) (pa_cons (pe_bltn (v := .ty "bool") (by rfl) g_bool (by decide +kernel) rfl) pa_nil)))) (pss_one (ps_ret (pe_and (pe_callB call_isi (by rfl) g_isinstance (by decide +kernel) (pa_cons (pv 0) (pa_cons (pe_bltn (v := .ty "bool") (by rfl) g_bool (by decide +kernel) rfl) pa_nil))) (pe_one (pe_cmpR op_eq (pv 0) (pv 1) (nomark _)))))) pss_nil)
      (pss_cons (ps_if (pt_val (pe_callB call_isi (by rfl) g_isinstance (by decide +kernel) (pa_cons (pv 1) (pa_cons (pe_bltn (v := .ty "int") (by rfl) g_int (by decide +kernel) rfl) pa_nil)))) (pss_one (ps_ret (pe_and (pe_callB call_isi (by rfl) g_isinstance (by decide +kernel) (pa_cons (pv 0) (pa_cons (pe_bltn (v := .ty "int") (by rfl) g_int (by decide +kernel) rfl) pa_nil))) (pe_and (pe_not (pe_callB call_isi (by rfl) g_isinstance (by decide +kernel) (pa_cons (pv 0) (pa_cons (pe_bltn (v := .ty "bool") (by rfl) g_bool (by decide +kernel) rfl) pa_nil)))) (pe_one (pe_cmpR op_eq (pv 0) (pv 1) (nomark _))))))) pss_nil)
      (pss_cons (ps_if (pt_val (pe_callB call_isi (by rfl) g_isinstance (by decide +kernel) (pa_cons (pv 1) (pa_cons (pe_bltn (v := .ty "str") (by rfl) g_str (by decide +kernel) rfl) pa_nil)))) (pss_one (ps_ret (pe_and (pe_callB call_isi (by rfl) g_isinstance (by decide +kernel) (pa_cons (pv 0) (pa_cons (pe_bltn (v := .ty "str") (by rfl) g_str (by decide +kernel) rfl) pa_nil))) (pe_one (pe_cmpR op_eq (pv 0) (pv 1) (nomark _)))))) pss_nil)
      (pss_cons (ps_if (PW.pt (pw_and (pt_val (pe_callB call_isi (by rfl) g_isinstance (by decide +kernel) (pa_cons (pv 1) (pa_cons (pe_bltn (v := .ty "list") (by rfl) g_list (by decide +kernel) rfl) pa_nil)))) (pw_and1 (pt_not (pt_val (pe_callB call_isi (by rfl) g_isinstance (by decide +kernel) (pa_cons (pv 0) (pa_cons (pe_bltn (v := .ty "list") (by rfl) g_list (by decide +kernel) rfl) pa_nil)))))))) (pss_one (ps_ret pe_bl)) pss_nil)
      (pss_cons (ps_if (PW.pt (pw_and (pt_val (pe_callB call_isi (by rfl) g_isinstance (by decide +kernel) (pa_cons (pv 1) (pa_cons (pe_bltn (v := .ty "tuple") (by rfl) g_tuple (by decide +kernel) rfl) pa_nil)))) (pw_and1 (pt_not (pt_val (pe_callB call_isi (by rfl) g_isinstance (by decide +kernel) (pa_cons (pv 0) (pa_cons (pe_bltn (v := .ty "tuple") (by rfl) g_tuple (by decide +kernel) rfl) pa_nil)))))))) (pss_one (ps_ret pe_bl)) pss_nil)
      (pss_cons (ps_if (PW.pt (pw_or (pt_not (pt_val (pe_callB call_isiT (by rfl) g_isinstance (by decide +kernel) (pa_cons (pv 1) (pa_cons (pe_tup (pa_cons (pe_bltn (v := .ty "list") (by rfl) g_list (by decide +kernel) rfl) (pa_cons (pe_bltn (v := .ty "tuple") (by rfl) g_tuple (by decide +kernel) rfl) pa_nil))) pa_nil))))) (pw_or1 (pt_cmpR op_ne (pe_callB cr_len (by rfl) g_len (by decide +kernel) (pa_cons (pv 0) pa_nil)) (pe_callB cr_len (by rfl) g_len (by decide +kernel) (pa_cons (pv 1) pa_nil)) (nomark _))))) (pss_one (ps_ret pe_bl)) pss_nil)
      (pss_cons (ps_for PassesOwn.never rfl (pi_range1 rfl g_range (pa_cons (pe_callB cr_len (by rfl) g_len (by decide +kernel) (pa_cons (pv 1) pa_nil)) pa_nil)) (pg_name (i := 2) sc_law_same.nd rfl (Or.inl rfl))
        (pss_one (ps_if (pt_not (pt_val (pe_own D_law_same hr (pa_cons (pe_ix ix_seq (pv 0) (pv 2) (fun _ _ => rfl)) (pa_cons (pe_ix ix_seq (pv 1) (pv 2) (fun _ _ => rfl)) pa_nil))))) (pss_one (ps_ret pe_bl)) pss_nil)))
      (pss_one (ps_ret pe_bl)))))))))), ?_⟩
  cases hy with
  | non =>
    walk_at "go"
    refine q _ _ Kp.refl ?_
    cases hx <;> simp
  | bl b =>
    cases hx <;> walk_at "go" <;> refine q _ _ Kp.refl ?_ <;> simp
  | int b =>
    cases hx <;> walk_at "go" <;> refine q _ _ Kp.refl ?_ <;> simp
  | str b =>
    cases hx <;> walk_at "go" <;> refine q _ _ Kp.refl ?_ <;> simp
  | @lst a ys es _ hL hA =>
    cases hx with
    | @lst a2 xs ds _ hL2 hA2 =>
      walk_at "go"
      intro t ht
      walk_at "go"
      refine x_ndec (fun z => ?_) (fun z => ?_)
      · walk_at "go"
        refine q _ _ (Kp.new ht) ⟨(fun y => by cases y), fun y => ?_⟩
        injection y with y
        subst y
        exact absurd (by rw [hA.length, hA2.length]) z
      · have el : ds.length = es.length := by rw [← hA.length, ← hA2.length]; omega
        have hn' : depAll es < n := hn
        have hz : ys.length = es.length := hA.length
        have hw' : max es.length (widAll es) < 100000 := hw
        have hsz : es.length < 100000 := by omega
        walk_at "go"
        refine l_rng (by omega) (fun i s' H' => ∃ z, s' = [some (.ref a2), some (.ref a), z] ∧ Kp [] H H' ∧ ∀ j, j < i → ds[j]? = es[j]?) ⟨none, rfl, Kp.new ht, fun j hj => absurd hj (Nat.not_lt_zero _)⟩ ?_ ?_
        · rintro i s' H' hi ⟨z0, rfl, k', hj⟩
          have i2 : i < es.length := by omega
          have i1 : i < ds.length := by omega
          obtain ⟨vy, gy, ry⟩ := hA.get (List.getElem?_eq_getElem i2)
          obtain ⟨vx, gx, rx⟩ := hA2.get (List.getElem?_eq_getElem i1)
          walk_at "go"
          refine x_ixSL (by walk_at "sq") (atI_nat gx) ?_
          walk_at "go"
          refine x_ixSL (by walk_at "sq") (atI_nat gy) ?_
          walk_at "go"
          refine hs (depAll es) _ _ _ _ hn' (go_same (rx.to k') (ry.to k') (dep_le (List.getElem?_eq_getElem i2)) (Nat.lt_of_le_of_lt (wid_le (List.getElem?_eq_getElem i2)) (by omega)) fun b H2 k2 hb => ?_)
          walk_at "go"
          cases b with
          | true =>
            walk_at "go"
            refine ⟨_, rfl, k'.trans k2, fun j hj' => ?_⟩
            by_cases e : j = i
            · subst e
              rw [List.getElem?_eq_getElem i1, List.getElem?_eq_getElem i2, hb.mp rfl]
            · exact hj j (by omega)
          | false =>
            walk_at "go"
            refine q _ _ (k'.trans k2) ⟨(fun y => by cases y), fun y => ?_⟩
            injection y with y
            subst y
            exact hb.mpr rfl
        · rintro s' H' ⟨z0, rfl, k', hj⟩
          walk_at "go"
          refine q _ _ k' ⟨fun _ => ?_, fun _ => rfl⟩
          have : ds = es := List.ext_getElem? fun j => by
            by_cases h : j < es.length
            · exact hj j (by omega)
            · rw [List.getElem?_eq_none (by omega), List.getElem?_eq_none (by omega)]
          rw [this]
    | non | bl _ | int _ | str _ | tup _ _ _ =>
      walk_at "go"
      refine q _ _ Kp.refl ?_
      simp
  | @tup a ys es _ hL hA =>
    cases hx with
    | @tup a2 xs ds _ hL2 hA2 =>
      walk_at "go"
      intro t ht
      walk_at "go"
      refine x_ndec (fun z => ?_) (fun z => ?_)
      · walk_at "go"
        refine q _ _ (Kp.new ht) ⟨(fun y => by cases y), fun y => ?_⟩
        injection y with y
        subst y
        exact absurd (by rw [hA.length, hA2.length]) z
      · have el : ds.length = es.length := by rw [← hA.length, ← hA2.length]; omega
        have hn' : depAll es < n := hn
        have hz : ys.length = es.length := hA.length
        have hw' : max es.length (widAll es) < 100000 := hw
        have hsz : es.length < 100000 := by omega
        walk_at "go"
        refine l_rng (by omega) (fun i s' H' => ∃ z, s' = [some (.ref a2), some (.ref a), z] ∧ Kp [] H H' ∧ ∀ j, j < i → ds[j]? = es[j]?) ⟨none, rfl, Kp.new ht, fun j hj => absurd hj (Nat.not_lt_zero _)⟩ ?_ ?_
        · rintro i s' H' hi ⟨z0, rfl, k', hj⟩
          have i2 : i < es.length := by omega
          have i1 : i < ds.length := by omega
          obtain ⟨vy, gy, ry⟩ := hA.get (List.getElem?_eq_getElem i2)
          obtain ⟨vx, gx, rx⟩ := hA2.get (List.getElem?_eq_getElem i1)
          walk_at "go"
          refine x_ixST (by walk_at "st") (atI_nat gx) ?_
          walk_at "go"
          refine x_ixST (by walk_at "st") (atI_nat gy) ?_
          walk_at "go"
          refine hs (depAll es) _ _ _ _ hn' (go_same (rx.to k') (ry.to k') (dep_le (List.getElem?_eq_getElem i2)) (Nat.lt_of_le_of_lt (wid_le (List.getElem?_eq_getElem i2)) (by omega)) fun b H2 k2 hb => ?_)
          walk_at "go"
          cases b with
          | true =>
            walk_at "go"
            refine ⟨_, rfl, k'.trans k2, fun j hj' => ?_⟩
            by_cases e : j = i
            · subst e
              rw [List.getElem?_eq_getElem i1, List.getElem?_eq_getElem i2, hb.mp rfl]
            · exact hj j (by omega)
          | false =>
            walk_at "go"
            refine q _ _ (k'.trans k2) ⟨(fun y => by cases y), fun y => ?_⟩
            injection y with y
            subst y
            exact hb.mpr rfl
        · rintro s' H' ⟨z0, rfl, k', hj⟩
          walk_at "go"
          refine q _ _ k' ⟨fun _ => ?_, fun _ => rfl⟩
          have : ds = es := List.ext_getElem? fun j => by
            by_cases h : j < es.length
            · exact hj j (by omega)
            · rw [List.getElem?_eq_none (by omega), List.getElem?_eq_none (by omega)]
          rw [this]
    | non | bl _ | int _ | str _ | lst _ _ _ =>
      walk_at "go"
      refine q _ _ Kp.refl ?_
      simp
theorem ok_law_same (h : DefAt K mg "_law_same" ["told", "due"] s_law_same) (g_isinstance : mg "isinstance" = none) (g_bool : mg "bool" = none) (g_int : mg "int" = none) (g_str : mg "str" = none) (g_list : mg "list" = none) (g_tuple : mg "tuple" = none) (g_len : mg "len" = none) (g_range : mg "range" = none) :
    ∀ n, Okk P w K mg base CX0 (n + 1) "_law_same" ["told", "due"] (spSame K n)
  | 0 => ok_law_same_step (k := 0) h g_isinstance g_bool g_int g_str g_list g_tuple g_len g_range h.never fun _ _ _ _ _ z => absurd z (Nat.not_lt_zero _)
  | n + 1 => ok_law_same_step h g_isinstance g_bool g_int g_str g_list g_tuple g_len g_range (ok_law_same h g_isinstance g_bool g_int g_str g_list g_tuple g_len g_range n) fun m vs H Q E hm z => by
    obtain ⟨x, y, d, e, h1, h2, h3, h4, h5, h6⟩ := z
    exact ⟨x, y, d, e, h1, h2, h3, by omega, h5, h6⟩
abbrev s_law_lowest : Stmt := topS 66
theorem sc_law_lowest : FnScope ["top", "bottom", "common"] ["top", "bottom"] (defScope s_law_lowest) := ⟨rfl, rfl, rfl, by decide +kernel, rfl, by decide +kernel, by decide +kernel⟩
--DEF _law_lowest
def spLowest : Sp := fun vs H Q _ => ∃ a b : Int, vs = [.int a, .int b] ∧ b ≠ 0 ∧ Bt 2760 b ∧ ∀ p H', Kp [] H H' → H p = none → H' p = some (.tup [.int (lowT a b), .int (lowB a b)]) → Q (.ref p) H'
theorem go_lowest {a b : Int} {H : Hp} {Q : VK} {E : XK} (h0 : b ≠ 0) (hb : Bt 2760 b) (q : ∀ p H', Kp [] H H' → H p = none → H' p = some (.tup [.int (lowT a b), .int (lowB a b)]) → Q (.ref p) H') : spLowest [.int a, .int b] H Q E := ⟨a, b, rfl, h0, hb, q⟩
theorem fdiv_neg_low {a g : Int} (h : 0 < g) : a.fdiv (-g) = (-a) / g := by
  rw [show a.fdiv (-g) = (-a).fdiv g by rw [← Int.neg_fdiv_neg, Int.neg_neg], Int.fdiv_eq_ediv_of_nonneg _ (by omega)]
theorem ok_law_lowest (h : DefAt K mg "_law_lowest" ["top", "bottom"] s_law_lowest) (D_law_gcd : Okk P w K mg base CX0 k "_law_gcd" ["one", "two"] spGcdL) : Okk P w K mg base CX0 (k + 1) "_law_lowest" ["top", "bottom"] spLowest := by
  refine h.ok sc_law_lowest ?_ ?_
  · rintro vs H Q E ⟨a, b, rfl, _⟩; rfl
  rintro cdv f A outer s H vs Q E hr ⟨a, b, rfl, h0, hb, q⟩
  refine ⟨_, (pss_cons (ps_set (i := 2) sc_law_lowest.nd rfl (Or.inl rfl) (pe_own D_law_gcd hr (pa_cons (pv 0) (pa_cons (pv 1) pa_nil))))
      (pss_cons (ps_if (pt_cmpR op_lt (pv 1) pe_int (nomark _)) (pss_one (ps_set (i := 2) sc_law_lowest.nd rfl (Or.inl rfl) (pe_un un_neg (pv 2)))) pss_nil)
      (pss_one (ps_ret (pe_tup (pa_cons (pe_op op_fdivZ (pv 0) (pv 2)) (pa_cons (pe_op op_fdivZ (pv 1) (pv 2)) pa_nil))))))), ?_⟩
  have gp := gcd_pos (a := a) h0
  have gb := gcd_bt (a := a) h0 hb
  walk_at "go"
  refine go_gcdl hb ?_
  walk_at "go"
  refine x_dec (fun h1 => ?_) (fun h1 => ?_)
  · walk_at "go"
    refine x_I (gb.neg.divZ (by omega)) ?_
    walk_at "go"
    refine x_I (gb.neg.divZ (by omega)) ?_
    walk_at "go"
    intro p hp
    refine q p _ (Kp.new hp) hp ?_
    rw [fdiv_neg_low gp, fdiv_neg_low gp]
    unfold lowT lowB
    rw [if_pos h1, if_pos h1]
    exact upd_same
  · walk_at "go"
    refine x_I (gb.divZ (by omega)) ?_
    walk_at "go"
    refine x_I (gb.divZ (by omega)) ?_
    walk_at "go"
    intro p hp
    refine q p _ (Kp.new hp) hp ?_
    rw [Int.fdiv_eq_ediv_of_nonneg _ (by omega), Int.fdiv_eq_ediv_of_nonneg _ (by omega)]
    unfold lowT lowB
    rw [if_neg h1, if_neg h1]
    exact upd_same
abbrev s_law_is_ratio : Stmt := topS 67
theorem sc_law_is_ratio : FnScope ["told"] ["told"] (defScope s_law_is_ratio) := ⟨rfl, rfl, rfl, by decide +kernel, rfl, by decide +kernel, by decide +kernel⟩
--DEF _law_is_ratio
def spIsRatio (K : PySem.W.Frag) : Sp := fun vs H Q _ => ∃ (p : Addr) (x y : Int), vs = [.ref p] ∧ SqT K H p [.int x, .int y] ∧ 1 ≤ y ∧ Nat.gcd x.natAbs y.natAbs = 1 ∧ Bt 2760 y ∧ ∀ H', Kp [] H H' → Q (.bl true) H'
theorem go_isratio {p : Addr} {x y : Int} {H : Hp} {Q : VK} {E : XK} (h : SqT K H p [.int x, .int y]) (h1 : 1 ≤ y) (h2 : Nat.gcd x.natAbs y.natAbs = 1) (hb : Bt 2760 y) (q : ∀ H', Kp [] H H' → Q (.bl true) H') : spIsRatio K [.ref p] H Q E := ⟨p, x, y, rfl, h, h1, h2, hb, q⟩
theorem ok_law_is_ratio (h : DefAt K mg "_law_is_ratio" ["told"] s_law_is_ratio) (g_isinstance : mg "isinstance" = none) (g_tuple : mg "tuple" = none) (g_len : mg "len" = none) (g_list : mg "list" = none) (D_law_is_ints : Okk P w K mg base CX0 k "_law_is_ints" ["told"] (spIsInts K)) (D_law_gcd : Okk P w K mg base CX0 k "_law_gcd" ["one", "two"] spGcdL) :
    Okk P w K mg base CX0 (k + 1) "_law_is_ratio" ["told"] (spIsRatio K) := by
  refine h.ok sc_law_is_ratio ?_ ?_
  · rintro vs H Q E ⟨p, _, _, rfl, _⟩; rfl
  rintro cdv f A outer s H vs Q E hr ⟨p, x, y, rfl, hp, h1, h2, hb, q⟩
  refine ⟨_, (pss_cons (ps_if (PW.pt (pw_or (pt_not (pt_val (pe_callB call_isi (by rfl) g_isinstance (by decide +kernel) (pa_cons (pv 0) (pa_cons (pe_bltn (v := .ty "tuple") (by rfl) g_tuple (by decide +kernel) rfl) pa_nil))))) (pw_or (pt_cmpR op_ne (pe_callB cr_len (by rfl) g_len (by decide +kernel) (pa_cons (pv 0) pa_nil)) pe_int (nomark _)) (pw_or1 (pt_not (pt_val (pe_own D_law_is_ints hr (pa_cons (pe_callTy cr_list (by rfl) g_list (by decide +kernel) (pa_cons (pv 0) pa_nil)) pa_nil)))))))) (pss_one (ps_ret pe_bl)) pss_nil)
      (pss_one (ps_ret (pe_and (pe_cmpR op_ge (pe_ix ix_tup (pv 0) pe_int (fun _ _ => rfl)) pe_int (nomark _)) (pe_one (pe_cmpR op_eq (pe_own D_law_gcd hr (pa_cons (pe_ix ix_tup (pv 0) pe_int (fun _ _ => rfl)) (pa_cons (pe_ix ix_tup (pv 0) pe_int (fun _ _ => rfl)) pa_nil))) pe_int (nomark _))))))), ?_⟩
  walk_at "go"
  refine x_listT hp fun l hl => ?_
  walk_at "go"
  refine go_isints (d := .list [.int x, .int y]) (.lst trivial (SqL.of upd_same) (.cons (.int x) (.cons (.int y) .nil))) (fun ds e => by cases e; simp) fun H1 k1 => ?_
  walk_at "go"
  have hp1 : SqT K H1 p [.int x, .int y] := k1.st nil_mem (st_new hl hp)
  refine x_iteNF ?_
  walk_at "go"
  refine x_dec (fun _ => ?_) (fun z => absurd h1 z)
  walk_at "go"
  refine go_gcdl hb ?_
  rw [h2]
  walk_at "go"
  exact q H1 ((Kp.new hl).trans k1)
abbrev s_law_ratio_pair : Stmt := topS 68
theorem sc_law_ratio_pair : FnScope ["store", "kind", "top", "bottom"] ["store"] (defScope s_law_ratio_pair) := ⟨rfl, rfl, rfl, by decide +kernel, rfl, by decide +kernel, by decide +kernel⟩
--DEF _law_ratio_pair
def spRPair (n : Nat) : Sp := fun vs H Q _ => ∃ p : Addr, vs = [.ref p] ∧ StoreAt H p ∧ ∀ (a b : Int) r H', StoreAt H' p → Kp [p] H H' → H r = none → H' r = some (.tup [.int a, .int b]) → b ≠ 0 → Bt n a → Bt n b → Q (.ref r) H'
theorem go_rpair {n : Nat} {p : Addr} {H : Hp} {Q : VK} {E : XK} (h : StoreAt H p) (q : ∀ (a b : Int) r H', StoreAt H' p → Kp [p] H H' → H r = none → H' r = some (.tup [.int a, .int b]) → b ≠ 0 → Bt n a → Bt n b → Q (.ref r) H') : spRPair n [.ref p] H Q E := ⟨p, rfl, h, q⟩
theorem bt_small {n : Nat} {i : Int} {m : Nat} (h : i.natAbs ≤ m) (hm : decide (m < 2 ^ n) = true) : Bt n i := Nat.lt_of_le_of_lt h (of_decide_eq_true hm)
theorem ok_law_ratio_pair (h : DefAt K mg "_law_ratio_pair" ["store"] s_law_ratio_pair) (D_law_take : Okk P w K mg base CX0 k "_law_take" ["store", "many"] spTake) (D_law_number : Okk P w K mg base CX0 k "_law_number" ["store", "many"] spNumber) (D_law_between : Okk P w K mg base CX0 k "_law_between" ["store", "low", "high"] spBetween) :
    Okk P w K mg base CX0 (k + 1) "_law_ratio_pair" ["store"] (spRPair 400) := by
  refine h.ok sc_law_ratio_pair ?_ ?_
  · rintro vs H Q E ⟨p, rfl, _⟩; rfl
  rintro cdv f A outer s H vs Q E hr ⟨p, rfl, hS, q⟩
  refine ⟨_, (pss_cons (ps_set (i := 1) sc_law_ratio_pair.nd rfl (Or.inl rfl) (pe_own D_law_take hr (pa_cons (pv 0) (pa_cons pe_int pa_nil))))
      (pss_cons (ps_set (i := 2) sc_law_ratio_pair.nd rfl (Or.inl rfl) (pe_op op_sub (pe_own D_law_take hr (pa_cons (pv 0) (pa_cons pe_int pa_nil))) pe_int))
      (pss_cons (ps_set (i := 3) sc_law_ratio_pair.nd rfl (Or.inl rfl) (pe_op op_add pe_int (pe_own D_law_take hr (pa_cons (pv 0) (pa_cons pe_int pa_nil)))))
      (C8.pss_cut (ps_if (pt_cmpR op_eq (pv 1) pe_int (nomark _)) (pss_one (ps_set (i := 2) sc_law_ratio_pair.nd rfl (Or.inl rfl) pe_int)) pss_nil)
      (C8.pss_cut (ps_if (pt_cmpR op_eq (pv 1) pe_int (nomark _)) (pss_one (ps_set (i := 2) sc_law_ratio_pair.nd rfl (Or.inl rfl) (pe_op op_mulW (pv 2) (pv 3)))) pss_nil)
      (C8.pss_cut (ps_if (pt_cmpR op_eq (pv 1) pe_int (nomark _)) (pss_cons (ps_set (i := 2) sc_law_ratio_pair.nd rfl (Or.inl rfl) (pe_own D_law_between hr (pa_cons (pv 0) (pa_cons (pe_op op_mulW (pe_un un_neg (pe_op op_powW pe_int pe_int)) (pe_op op_powW pe_int pe_int)) (pa_cons (pe_op op_mulW (pe_op op_powW pe_int pe_int) (pe_op op_powW pe_int pe_int)) pa_nil)))))
        (pss_one (ps_set (i := 3) sc_law_ratio_pair.nd rfl (Or.inl rfl) (pe_op op_add pe_int (pe_own D_law_number hr (pa_cons (pv 0) (pa_cons (pe_op op_mulW (pe_op op_powW pe_int pe_int) (pe_op op_powW pe_int pe_int)) pa_nil))))))) pss_nil)
      (C8.pss_cut (ps_if (pt_cmpR op_eq (pv 1) pe_int (nomark _)) (pss_one (ps_set (i := 3) sc_law_ratio_pair.nd rfl (Or.inl rfl) pe_int)) pss_nil)
      (pss_cons (ps_if (pt_cmpR op_ge (pv 1) pe_int (nomark _)) (pss_one (ps_set (i := 3) sc_law_ratio_pair.nd rfl (Or.inl rfl) (pe_un un_neg (pv 3)))) pss_nil)
      (pss_one (ps_ret (pe_tup (pa_cons (pv 2) (pa_cons (pv 3) pa_nil))))))))))))), ?_⟩
  walk_at "go"
  refine go_take hS fun d1 H1 s1 k1 a1 a2 a3 => ?_
  walk_at "go"
  refine go_take s1 fun d2 H2 s2 k2 b1 b2 b3 => ?_
  walk_at "go"
  refine go_take s2 fun d3 H3 s3 k3 c1 c2 c3 => ?_
  walk_at "go"
  have k03 := (k1.trans k2).trans k3
  refine x_cut (fun s' H' => ∃ t : Int, s' = [some (.ref p), some (.int d1), some (.int t), some (.int (1 + d3))] ∧ H3 = H' ∧ t.natAbs ≤ 12) ?_ ?_
  · refine x_ifS ?_
    walk_at "go"
    refine x_dec (fun _ => ?_) (fun _ => ?_) <;> walk_at "go"
    · exact ⟨0, rfl, rfl, by omega⟩
    · exact ⟨_, rfl, rfl, by omega⟩
  rintro s' H' ⟨t, rfl, rfl, ht⟩
  refine x_cut (fun s' H' => ∃ t : Int, s' = [some (.ref p), some (.int d1), some (.int t), some (.int (1 + d3))] ∧ H3 = H' ∧ t.natAbs ≤ 300) ?_ ?_
  · refine x_ifS ?_
    walk_at "go"
    refine x_dec (fun _ => ?_) (fun _ => ?_) <;> walk_at "go"
    · refine x_I (Bt.mulW (a := 400) (b := 400) (bt_small ht (by decide)) (bt_small (m := 12) (by omega) (by decide))) ?_
      walk_at "go"
      refine ⟨_, rfl, rfl, ?_⟩
      rw [Int.natAbs_mul]
      have : t.natAbs * (1 + d3).natAbs ≤ 12 * 12 := Nat.mul_le_mul ht (by omega)
      omega
    · exact ⟨_, rfl, rfl, by omega⟩
  rintro s' H' ⟨t, rfl, rfl, ht⟩
  have e100 : (10 ^ 50 * 10 ^ 50 : Nat) < 2 ^ 400 := by decide +kernel
  refine x_cut (fun s' H' => ∃ t b : Int, s' = [some (.ref p), some (.int d1), some (.int t), some (.int b)] ∧ StoreAt H' p ∧ Kp [p] H H' ∧ 0 < b ∧ Bt 400 t ∧ Bt 400 b) ?_ ?_
  · refine x_ifS ?_
    walk_at "go"
    refine x_dec (fun _ => ?_) (fun _ => ?_) <;> walk_at "go"
    · refine go_between s3 fun v1 H4 s4 k4 e1 e2 _ => ?_
      walk_at "go"
      refine go_number s4 fun v2 H5 s5 k5 f1 f2 f3 => ?_
      walk_at "go"
      refine ⟨_, _, rfl, s5, (k03.trans k4).trans k5, by omega, Nat.lt_of_le_of_lt ?_ e100, Nat.lt_of_le_of_lt ?_ e100⟩
      · have := e2 (by omega); omega
      · have := f3 (by omega); omega
    · exact ⟨_, _, rfl, s3, k03, by omega, bt_small ht (by decide), bt_small (m := 12) (by omega) (by decide)⟩
  rintro s' H' ⟨t, b, rfl, s4, k4, b0, bt, bb⟩
  refine x_cut (fun s' H2 => ∃ b : Int, s' = [some (.ref p), some (.int d1), some (.int t), some (.int b)] ∧ H' = H2 ∧ 0 < b ∧ Bt 400 b) ?_ ?_
  · refine x_ifS ?_
    walk_at "go"
    refine x_dec (fun _ => ?_) (fun _ => ?_) <;> walk_at "go"
    · exact ⟨1, rfl, rfl, by omega, bt_small (m := 1) (by omega) (by decide)⟩
    · exact ⟨_, rfl, rfl, b0, bb⟩
  rintro s' H2 ⟨b, rfl, rfl, b0, bb⟩
  walk_at "go"
  refine x_dec (fun _ => ?_) (fun _ => ?_) <;> walk_at "go" <;> intro r hr0
  · exact q _ _ r _ (s4.new hr0) (k4.mut (s4.free k4 hr0)) (s4.free k4 hr0) upd_same (by omega) bt bb.neg
  · exact q _ _ r _ (s4.new hr0) (k4.mut (s4.free k4 hr0)) (s4.free k4 hr0) upd_same (by omega) bt bb
abbrev s_law_drawn_pair : Stmt := topS 69
theorem sc_law_drawn_pair : FnScope ["store", "pair", "great", "top", "bottom"] ["store"] (defScope s_law_drawn_pair) := ⟨rfl, rfl, rfl, by decide +kernel, rfl, by decide +kernel, by decide +kernel⟩
--DEF _law_drawn_pair
theorem bt1 {n : Nat} (m : Int) (h : m = 1 ∨ m = -1) (hn : decide (1 < 2 ^ n) = true) : Bt n m := bt_small (m := 1) (by omega) hn
theorem ok_law_drawn_pair (h : DefAt K mg "_law_drawn_pair" ["store"] s_law_drawn_pair) (D_law_ratio_pair : Okk P w K mg base CX0 k "_law_ratio_pair" ["store"] (spRPair 400)) (D_law_take : Okk P w K mg base CX0 k "_law_take" ["store", "many"] spTake) (D_law_number : Okk P w K mg base CX0 k "_law_number" ["store", "many"] spNumber)
    (D_law_between : Okk P w K mg base CX0 k "_law_between" ["store", "low", "high"] spBetween) (D_law_pick : Okk P w K mg base CX0 k "_law_pick" ["store", "row"] (spPick K)) :
    Okk P w K mg base CX0 (k + 1) "_law_drawn_pair" ["store"] (spRPair 1332) := by
  refine h.ok sc_law_drawn_pair ?_ ?_
  · rintro vs H Q E ⟨p, rfl, _⟩; rfl
  rintro cdv f A outer s H vs Q E hr ⟨p, rfl, hS, q⟩
  refine ⟨_, (pss_cons (ps_set (i := 1) sc_law_drawn_pair.nd rfl (Or.inl rfl) (pe_own D_law_ratio_pair hr (pa_cons (pv 0) pa_nil)))
      (pss_cons (ps_set (i := 2) sc_law_drawn_pair.nd rfl (Or.inl rfl) (pe_op op_sub (pe_op op_powW (pe_op op_powW pe_int pe_int) pe_int) pe_int))
      (pss_cons (ps_if (pt_cmpR op_eq (pe_own D_law_take hr (pa_cons (pv 0) (pa_cons pe_int pa_nil))) pe_int (nomark _)) (pss_cons (ps_set (i := 3) sc_law_drawn_pair.nd rfl (Or.inl rfl) (pe_own D_law_pick hr (pa_cons (pv 0) (pa_cons (pe_lst (pa_cons (pv 2) (pa_cons (pe_un un_neg (pv 2)) (pa_cons (pe_own D_law_between hr (pa_cons (pv 0) (pa_cons (pe_un un_neg (pv 2)) (pa_cons (pv 2) pa_nil)))) pa_nil)))) pa_nil))))
        (pss_cons (ps_set (i := 4) sc_law_drawn_pair.nd rfl (Or.inl rfl) (pe_own D_law_pick hr (pa_cons (pv 0) (pa_cons (pe_lst (pa_cons (pv 2) (pa_cons (pe_op op_sub (pv 2) pe_int) (pa_cons pe_int (pa_cons (pe_op op_add pe_int (pe_own D_law_number hr (pa_cons (pv 0) (pa_cons (pv 2) pa_nil)))) pa_nil))))) pa_nil))))
        (pss_one (ps_set (i := 1) sc_law_drawn_pair.nd rfl (Or.inl rfl) (pe_tup (pa_cons (pv 3) (pa_cons (pe_op op_mulW (pv 4) (pe_own D_law_pick hr (pa_cons (pv 0) (pa_cons (pe_lst (pa_cons pe_int (pa_cons (pe_un un_neg pe_int) pa_nil))) pa_nil)))) pa_nil))))))) pss_nil)
      (pss_one (ps_ret (pv 1)))))), ?_⟩
  walk_at "go"
  refine go_rpair hS fun a b r H1 s1 k1 f1 e1 b0 ba bb => ?_
  walk_at "go"
  generalize hG : (_ : Int) - 1 = G
  have gb : Bt 1330 G := by rw [← hG]; exact Bt.lit (by decide +kernel)
  have gp : 2 < G := by rw [← hG]; decide +kernel
  clear hG
  refine go_take s1 fun d2 H2 s2 k2 _ _ _ => ?_
  walk_at "go"
  refine x_dec (fun _ => ?_) (fun _ => ?_)
  · walk_at "go"
    refine go_between s2 fun v3 H3 s3 k3 c1 c2 _ => ?_
    have c2 := c2 (by omega)
    walk_at "go"
    intro l4 f4
    walk_at "go"
    refine go_pick (s3.new f4) (SqL.of upd_same) (ne_new' f4 (s3.ex).choose_spec) (by simp) (by simp) fun v5 H5 s5 k5 m5 => ?_
    obtain ⟨t, rfl, bt⟩ : ∃ t, v5 = .int t ∧ Bt 1331 t := by
      simp only [List.mem_cons, List.not_mem_nil, or_false] at m5
      rcases m5 with e | e | e
      · exact ⟨_, e, gb.mono (by decide)⟩
      · exact ⟨_, e, gb.neg.mono (by decide)⟩
      · exact ⟨_, e, (gb.le (by omega)).mono (by decide)⟩
    walk_at "go"
    refine go_number s5 fun v6 H6 s6 k6 g1 _ g3 => ?_
    have g3 := g3 (by omega)
    walk_at "go"
    intro l7 f7
    walk_at "go"
    refine go_pick (s6.new f7) (SqL.of upd_same) (ne_new' f7 (s6.ex).choose_spec) (by simp) (by simp) fun v8 H8 s8 k8 m8 => ?_
    obtain ⟨d, rfl, d0, bd⟩ : ∃ d, v8 = .int d ∧ 0 < d ∧ Bt 1331 d := by
      simp only [List.mem_cons, List.not_mem_nil, or_false] at m8
      rcases m8 with e | e | e | e
      · exact ⟨_, e, by omega, gb.mono (by decide)⟩
      · exact ⟨_, e, by omega, (gb.le (by omega)).mono (by decide)⟩
      · exact ⟨_, e, by omega, bt_small (m := 1) (by omega) (by decide +kernel)⟩
      · exact ⟨_, e, by omega, (gb.le (by omega)).mono (by decide)⟩
    walk_at "go"
    intro l9 f9
    walk_at "go"
    refine go_pick (s8.new f9) (SqL.of upd_same) (ne_new' f9 (s8.ex).choose_spec) (by simp) (by simp) fun v10 H10 s10 k10 m10 => ?_
    obtain ⟨c, rfl, hc⟩ : ∃ c, v10 = .int c ∧ (c = 1 ∨ c = -1) := by
      simp only [List.mem_cons, List.not_mem_nil, or_false] at m10
      rcases m10 with e | e
      · exact ⟨_, e, .inl rfl⟩
      · exact ⟨_, e, .inr rfl⟩
    have bc := bt1 (n := 1) c hc (by decide)
    walk_at "go"
    intro r2 f2
    walk_at "go"
    have kk : Kp [p] H H10 := (((((((k1.trans k2).trans k3).trans (Kp.new f4)).trans k5).trans k6).trans (Kp.new f7)).trans k8).trans ((Kp.new f9).trans k10)
    refine q _ _ r2 _ (s10.new f2) (kk.mut (s10.free kk f2)) (s10.free kk f2) upd_same ?_ (bt.mono (by decide)) (bd.mul bc)
    rcases hc with e | e <;> subst e <;> omega
  · walk_at "go"
    exact q a b r H2 s2 (k1.trans k2) f1 (k2 _ _ (one_mem (fun z => by
      subst z
      obtain ⟨o, e⟩ := hS.ex
      rw [f1] at e
      cases e)) e1) b0 (ba.mono (by decide)) (bb.mono (by decide))
abbrev s_law_near_pair : Stmt := topS 70
theorem sc_law_near_pair : FnScope ["store", "pair", "many"] ["store", "pair"] (defScope s_law_near_pair) := ⟨rfl, rfl, rfl, by decide +kernel, rfl, by decide +kernel, by decide +kernel⟩
--DEF _law_near_pair
def spNearP (K : PySem.W.Frag) : Sp := fun vs H Q _ => ∃ (p r : Addr) (a b : Int), vs = [.ref p, .ref r] ∧ StoreAt H p ∧ SqT K H r [.int a, .int b] ∧ b ≠ 0 ∧ Bt 1332 a ∧ Bt 1332 b ∧ ∀ (a b : Int) r H', StoreAt H' p → Kp [p] H H' → H r = none → H' r = some (.tup [.int a, .int b]) → b ≠ 0 → Bt 1332 a → Bt 1332 b → Q (.ref r) H'
theorem go_nearp {p r : Addr} {a b : Int} {H : Hp} {Q : VK} {E : XK} (h : StoreAt H p) (h2 : SqT K H r [.int a, .int b]) (h3 : b ≠ 0) (h4 : Bt 1332 a) (h5 : Bt 1332 b) (q : ∀ (a b : Int) r H', StoreAt H' p → Kp [p] H H' → H r = none → H' r = some (.tup [.int a, .int b]) → b ≠ 0 → Bt 1332 a → Bt 1332 b → Q (.ref r) H') : spNearP K [.ref p, .ref r] H Q E := ⟨p, r, a, b, rfl, h, h2, h3, h4, h5, q⟩
theorem tup_ne {H : Hp} {p r : Addr} {xs : List V} (h : StoreAt H p) (h2 : H r = some (.tup xs)) : r ≠ p := fun z => by
  subst z
  obtain ⟨sl, ns, i, b, c, s, hp, _⟩ := h
  rw [hp] at h2
  cases h2
/-- a tuple stays through draws -/
theorem Kp.stS {K} {H H' : Hp} {p r : Addr} {xs : List V} (h : StoreAt H p) (k : Kp [p] H H') (h2 : SqT K H r xs) : SqT K H' r xs := by
  rcases h2 with (h2 | ⟨o, h2⟩) | h2
  · exact .inl (.inl (k _ _ (one_mem (tup_ne h h2)) h2))
  · refine .inl (.inr ⟨o, k _ _ (one_mem fun z => ?_) h2⟩)
    subst z
    obtain ⟨sl, ns, i, b, c, s, hp, _⟩ := h
    rw [hp] at h2
    cases h2
  · exact .inr h2
theorem ok_law_near_pair (h : DefAt K mg "_law_near_pair" ["store", "pair"] s_law_near_pair) (g_max : mg "max" = none) (g_abs : mg "abs" = none) (D_law_take : Okk P w K mg base CX0 k "_law_take" ["store", "many"] spTake) (D_law_drawn_pair : Okk P w K mg base CX0 k "_law_drawn_pair" ["store"] (spRPair 1332)) :
    Okk P w K mg base CX0 (k + 1) "_law_near_pair" ["store", "pair"] (spNearP K) := by
  refine h.ok sc_law_near_pair ?_ ?_
  · rintro vs H Q E ⟨p, r, _, _, rfl, _⟩; rfl
  rintro cdv f A outer s H vs Q E hr ⟨p, r, a, b, rfl, hS, hp, b0, ba, bb, q⟩
  refine ⟨_, (pss_cons (ps_set (i := 2) sc_law_near_pair.nd rfl (Or.inl rfl) (pe_op op_add pe_int (pe_own D_law_take hr (pa_cons (pv 0) (pa_cons pe_int pa_nil)))))
      (pss_cons (ps_if (PW.pt (pw_or (pt_cmpR op_gt (pe_callB (cr_max2 rfl) (by rfl) g_max (by decide +kernel) (pa_cons (pe_callB cr_abs (by rfl) g_abs (by decide +kernel) (pa_cons (pe_ix ix_tup (pv 1) pe_int (fun _ _ => rfl)) pa_nil)) (pa_cons (pe_callB cr_abs (by rfl) g_abs (by decide +kernel) (pa_cons (pe_ix ix_tup (pv 1) pe_int (fun _ _ => rfl)) pa_nil)) pa_nil))) (pe_op op_mulW (pe_op op_powW pe_int pe_int) (pe_op op_powW pe_int pe_int)) (nomark _)) (pw_or1 (pt_cmpR op_eq (pe_own D_law_take hr (pa_cons (pv 0) (pa_cons pe_int pa_nil))) pe_int (nomark _))))) (pss_one (ps_ret (pe_own D_law_drawn_pair hr (pa_cons (pv 0) pa_nil)))) pss_nil)
      (pss_one (ps_ret (pe_tup (pa_cons (pe_op op_sub (pe_op op_add (pe_op op_mulW (pe_ix ix_tup (pv 1) pe_int (fun _ _ => rfl)) (pv 2)) (pe_own D_law_take hr (pa_cons (pv 0) (pa_cons pe_int pa_nil)))) pe_int) (pa_cons (pe_op op_mulW (pe_ix ix_tup (pv 1) pe_int (fun _ _ => rfl)) (pv 2)) pa_nil))))))), ?_⟩
  walk_at "go"
  refine go_take hS fun d1 H1 s1 k1 _ _ c3 => ?_
  have hp1 := k1.stS hS hp
  have e128 : (10 ^ 64 * 10 ^ 64 : Nat) * 10 < 2 ^ 1331 := by decide +kernel
  walk_at "go"
  refine x_dec (fun h1 => ?_) (fun h1 => ?_)
  · walk_at "go"
    exact go_rpair s1 fun a b r H2 s2 k2 f2 e2 b0 ba bb => q a b r H2 s2 (k1.trans k2) (s1.free k1 f2) e2 b0 ba bb
  walk_at "go"
  refine go_take s1 fun d2 H2 s2 k2 _ _ _ => ?_
  have hp2 := k2.stS s1 hp1
  walk_at "go"
  refine x_dec (fun h2 => ?_) (fun h2 => ?_)
  · walk_at "go"
    exact go_rpair s2 fun a b r H3 s3 k3 f3 e3 b0 ba bb => q a b r H3 s3 ((k1.trans k2).trans k3) (s2.free (k1.trans k2) f3) e3 b0 ba bb
  have ha' : a.natAbs ≤ 10 ^ 64 * 10 ^ 64 ∧ b.natAbs ≤ 10 ^ 64 * 10 ^ 64 := by
    unfold absI at h1
    constructor <;> (split at h1 <;> split at h1 <;> split at h1 <;> omega)
  have bm : Bt 5 (1 + d1) := bt_small (m := 9) (by omega) (by decide)
  walk_at "go"
  refine go_take s2 fun d3 H3 s3 k3 c1 _ c3' => ?_
  have hp3 := k3.stS s2 hp2
  walk_at "go"
  intro r2 f2
  have k03 := (k1.trans k2).trans k3
  have hm : (a * (1 + d1)).natAbs ≤ 10 ^ 64 * 10 ^ 64 * 9 := by
    rw [Int.natAbs_mul]
    exact Nat.mul_le_mul ha'.1 (by omega)
  have hm2 : (b * (1 + d1)).natAbs ≤ 10 ^ 64 * 10 ^ 64 * 9 := by
    rw [Int.natAbs_mul]
    exact Nat.mul_le_mul ha'.2 (by omega)
  refine q _ _ r2 _ (s3.new f2) (k03.mut (s3.free k03 f2)) (s3.free k03 f2) upd_same ?_ ?_ ?_
  · exact Int.mul_ne_zero b0 (by omega)
  · exact (show Bt 1331 _ from Nat.lt_of_le_of_lt (by omega) e128).mono (by decide)
  · exact (show Bt 1331 _ from Nat.lt_of_le_of_lt (by omega) e128).mono (by decide)
abbrev s_law_refused : Stmt := topS 76
theorem sc_law_refused : FnScope ["caught", "told"] ["caught"] (defScope s_law_refused) := ⟨rfl, rfl, rfl, by decide +kernel, rfl, by decide +kernel, by decide +kernel⟩
--DEF _law_refused
def spRef (C : Addr) : Addr × Obj → Sp := fun p vs H Q _ => vs = [.ref p.1] ∧ Zc (.ref C) none p.2 ∧ (∃ fs, p.2.data = .fields fs) ∧ ∀ r H', Kp [] H H' → H r = none → H' r = some (.tup [.str "NoBottom"]) → Q (.ref r) H'
theorem ok_law_refused (h : DefAt K mg "_law_refused" ["caught"] s_law_refused) (g_isinstance : mg "isinstance" = none) (g_ValueError : mg "ValueError" = none) (g_len : mg "len" = none) {C_NoBottom C_NoDeed C_StampTaken C_BadStamp C_BadDeed C_NoPost C_LastName C_Different C_Shared C_Clash C_NotNear C_NotObtainable C_NotLast C_NoPairing C_BadBargain C_NoBlock C_BadSpan C_OutOfRank C_Unfinished C_BadStrike C_BadSum C_TooMuch C_BadTable C_BadSize C_BadOrder C_BadStages C_BadSet C_BadWeaving C_TiedRanks C_BadChooser C_Fallen C_Over C_Unknown C_Unequal C_BadPlace C_BadRange C_BadRanking C_BadShare C_Doubled C_BadWord C_TooMany C_Empty C_BadLine C_OfficeError : Addr} (g_NoBottom : mg "NoBottom" = some (.ref C_NoBottom)) (g_NoDeed : mg "NoDeed" = some (.ref C_NoDeed)) (g_StampTaken : mg "StampTaken" = some (.ref C_StampTaken)) (g_BadStamp : mg "BadStamp" = some (.ref C_BadStamp)) (g_BadDeed : mg "BadDeed" = some (.ref C_BadDeed)) (g_NoPost : mg "NoPost" = some (.ref C_NoPost)) (g_LastName : mg "LastName" = some (.ref C_LastName)) (g_Different : mg "Different" = some (.ref C_Different)) (g_Shared : mg "Shared" = some (.ref C_Shared)) (g_Clash : mg "Clash" = some (.ref C_Clash)) (g_NotNear : mg "NotNear" = some (.ref C_NotNear)) (g_NotObtainable : mg "NotObtainable" = some (.ref C_NotObtainable)) (g_NotLast : mg "NotLast" = some (.ref C_NotLast)) (g_NoPairing : mg "NoPairing" = some (.ref C_NoPairing)) (g_BadBargain : mg "BadBargain" = some (.ref C_BadBargain)) (g_NoBlock : mg "NoBlock" = some (.ref C_NoBlock)) (g_BadSpan : mg "BadSpan" = some (.ref C_BadSpan)) (g_OutOfRank : mg "OutOfRank" = some (.ref C_OutOfRank)) (g_Unfinished : mg "Unfinished" = some (.ref C_Unfinished)) (g_BadStrike : mg "BadStrike" = some (.ref C_BadStrike)) (g_BadSum : mg "BadSum" = some (.ref C_BadSum)) (g_TooMuch : mg "TooMuch" = some (.ref C_TooMuch)) (g_BadTable : mg "BadTable" = some (.ref C_BadTable)) (g_BadSize : mg "BadSize" = some (.ref C_BadSize)) (g_BadOrder : mg "BadOrder" = some (.ref C_BadOrder)) (g_BadStages : mg "BadStages" = some (.ref C_BadStages)) (g_BadSet : mg "BadSet" = some (.ref C_BadSet)) (g_BadWeaving : mg "BadWeaving" = some (.ref C_BadWeaving)) (g_TiedRanks : mg "TiedRanks" = some (.ref C_TiedRanks)) (g_BadChooser : mg "BadChooser" = some (.ref C_BadChooser)) (g_Fallen : mg "Fallen" = some (.ref C_Fallen)) (g_Over : mg "Over" = some (.ref C_Over)) (g_Unknown : mg "Unknown" = some (.ref C_Unknown)) (g_Unequal : mg "Unequal" = some (.ref C_Unequal)) (g_BadPlace : mg "BadPlace" = some (.ref C_BadPlace)) (g_BadRange : mg "BadRange" = some (.ref C_BadRange)) (g_BadRanking : mg "BadRanking" = some (.ref C_BadRanking)) (g_BadShare : mg "BadShare" = some (.ref C_BadShare)) (g_Doubled : mg "Doubled" = some (.ref C_Doubled)) (g_BadWord : mg "BadWord" = some (.ref C_BadWord)) (g_TooMany : mg "TooMany" = some (.ref C_TooMany)) (g_Empty : mg "Empty" = some (.ref C_Empty)) (g_BadLine : mg "BadLine" = some (.ref C_BadLine)) (g_OfficeError : mg "OfficeError" = some (.ref C_OfficeError))
    (XC : ExcC K C_NoBottom) (k1 : PySem.W.kitOne K (.ref C_NoBottom) (.ref C_NoBottom) = some true) (k2 : PySem.W.kitAny K (.ref C_NoBottom) [.ref C_BadLine, .ref C_Empty, .ref C_TooMany, .ref C_BadWord, .ref C_Doubled, .ref C_BadShare, .ref C_BadRanking, .ref C_BadRange, .ref C_BadPlace, .ref C_Unequal, .ref C_Unknown, .ref C_Over, .ref C_Fallen, .ref C_BadChooser, .ref C_TiedRanks, .ref C_BadWeaving, .ref C_BadSet, .ref C_BadStages, .ref C_BadOrder, .ref C_BadSize, .ref C_BadTable, .ref C_TooMuch, .ref C_BadSum, .ref C_BadStrike, .ref C_Unfinished, .ref C_OutOfRank, .ref C_BadSpan, .ref C_NoBlock, .ref C_BadBargain, .ref C_NoPairing, .ref C_NotLast, .ref C_NotObtainable, .ref C_NotNear, .ref C_Clash, .ref C_Shared, .ref C_Different, .ref C_LastName, .ref C_NoPost, .ref C_BadDeed, .ref C_BadStamp, .ref C_StampTaken, .ref C_NoDeed] = some false) (k3 : PySem.W.kitOne K (.ref C_NoBottom) (.ref C_OfficeError) = some true) (k4 : PySem.W.kitOne K (.ref C_NoBottom) (.type "ValueError") = some true) :
    OkE P w K mg base (k + 1) "_law_refused" ["caught"] (spRef C_NoBottom) := by
  refine h.okE sc_law_refused ?_ ?_
  · rintro p vs H Q E ⟨rfl, _⟩; rfl
  rintro cdv f A outer s H vs Q ⟨a, oe⟩ hr ⟨rfl, hz, hf, q⟩
  have kE : KitE K C_NoBottom a oe none := kitE_none XC ⟨hz, hf⟩
  refine ⟨_, (pss_cons (ps_set (i := 1) sc_law_refused.nd rfl (Or.inl rfl) (pe_lst pa_nil))
      (pss_cons (ps_if (pt_val (pe_callB (call_isiE (a := a) (oe := oe) List.mem_cons_self kE) (by rfl) g_isinstance (by decide +kernel) (pa_cons (pv 0) (pa_cons (pe_glob (v := .ref C_NoBottom) rfl g_NoBottom rfl) pa_nil)))) (pss_one (ps_expr (pe_bm PySem.F.plainAttrs_list PySem.F.slot_list_append PySem.F.type_list_append mt_append (pv 1) (pa_cons (pe_tup (pa_cons pe_str pa_nil)) pa_nil)))) pss_nil)
      (pss_cons (ps_if (pt_val (pe_callB (call_isiET (a := a) (oe := oe) List.mem_cons_self kE) (by rfl) g_isinstance (by decide +kernel) (pa_cons (pv 0) (pa_cons (pe_tup (pa_cons (pe_glob (v := .ref C_BadLine) rfl g_BadLine rfl) (pa_cons (pe_glob (v := .ref C_Empty) rfl g_Empty rfl) (pa_cons (pe_glob (v := .ref C_TooMany) rfl g_TooMany rfl) (pa_cons (pe_glob (v := .ref C_BadWord) rfl g_BadWord rfl) (pa_cons (pe_glob (v := .ref C_Doubled) rfl g_Doubled rfl) (pa_cons (pe_glob (v := .ref C_BadShare) rfl g_BadShare rfl) (pa_cons (pe_glob (v := .ref C_BadRanking) rfl g_BadRanking rfl) (pa_cons (pe_glob (v := .ref C_BadRange) rfl g_BadRange rfl) (pa_cons (pe_glob (v := .ref C_BadPlace) rfl g_BadPlace rfl) (pa_cons (pe_glob (v := .ref C_Unequal) rfl g_Unequal rfl) (pa_cons (pe_glob (v := .ref C_Unknown) rfl g_Unknown rfl) (pa_cons (pe_glob (v := .ref C_Over) rfl g_Over rfl) (pa_cons (pe_glob (v := .ref C_Fallen) rfl g_Fallen rfl) (pa_cons (pe_glob (v := .ref C_BadChooser) rfl g_BadChooser rfl) (pa_cons (pe_glob (v := .ref C_TiedRanks) rfl g_TiedRanks rfl) (pa_cons (pe_glob (v := .ref C_BadWeaving) rfl g_BadWeaving rfl) (pa_cons (pe_glob (v := .ref C_BadSet) rfl g_BadSet rfl) (pa_cons (pe_glob (v := .ref C_BadStages) rfl g_BadStages rfl) (pa_cons (pe_glob (v := .ref C_BadOrder) rfl g_BadOrder rfl) (pa_cons (pe_glob (v := .ref C_BadSize) rfl g_BadSize rfl) (pa_cons (pe_glob (v := .ref C_BadTable) rfl g_BadTable rfl) (pa_cons (pe_glob (v := .ref C_TooMuch) rfl g_TooMuch rfl) (pa_cons (pe_glob (v := .ref C_BadSum) rfl g_BadSum rfl) (pa_cons (pe_glob (v := .ref C_BadStrike) rfl g_BadStrike rfl) (pa_cons (pe_glob (v := .ref C_Unfinished) rfl g_Unfinished rfl) (pa_cons (pe_glob (v := .ref C_OutOfRank) rfl g_OutOfRank rfl) (pa_cons (pe_glob (v := .ref C_BadSpan) rfl g_BadSpan rfl) (pa_cons (pe_glob (v := .ref C_NoBlock) rfl g_NoBlock rfl) (pa_cons (pe_glob (v := .ref C_BadBargain) rfl g_BadBargain rfl) (pa_cons (pe_glob (v := .ref C_NoPairing) rfl g_NoPairing rfl) (pa_cons (pe_glob (v := .ref C_NotLast) rfl g_NotLast rfl) (pa_cons (pe_glob (v := .ref C_NotObtainable) rfl g_NotObtainable rfl) (pa_cons (pe_glob (v := .ref C_NotNear) rfl g_NotNear rfl) (pa_cons (pe_glob (v := .ref C_Clash) rfl g_Clash rfl) (pa_cons (pe_glob (v := .ref C_Shared) rfl g_Shared rfl) (pa_cons (pe_glob (v := .ref C_Different) rfl g_Different rfl) (pa_cons (pe_glob (v := .ref C_LastName) rfl g_LastName rfl) (pa_cons (pe_glob (v := .ref C_NoPost) rfl g_NoPost rfl) (pa_cons (pe_glob (v := .ref C_BadDeed) rfl g_BadDeed rfl) (pa_cons (pe_glob (v := .ref C_BadStamp) rfl g_BadStamp rfl) (pa_cons (pe_glob (v := .ref C_StampTaken) rfl g_StampTaken rfl) (pa_cons (pe_glob (v := .ref C_NoDeed) rfl g_NoDeed rfl) pa_nil))))))))))))))))))))))))))))))))))))))))))) pa_nil)))) (pss_one (ps_expr (pe_bm PySem.F.plainAttrs_list PySem.F.slot_list_append PySem.F.type_list_append mt_append (pv 1) (pa_cons pe_str pa_nil)))) pss_nil)
      (pss_cons (ps_if (PW.pt (pw_or (pt_cmpR op_ne (pe_callB cr_len (by rfl) g_len (by decide +kernel) (pa_cons (pv 1) pa_nil)) pe_int (nomark _)) (pw_or (pt_not (pt_val (pe_callB (call_isiE (a := a) (oe := oe) List.mem_cons_self kE) (by rfl) g_isinstance (by decide +kernel) (pa_cons (pv 0) (pa_cons (pe_glob (v := .ref C_OfficeError) rfl g_OfficeError rfl) pa_nil))))) (pw_or1 (pt_not (pt_val (pe_callB (call_isiE (a := a) (oe := oe) List.mem_cons_self kE) (by rfl) g_isinstance (by decide +kernel) (pa_cons (pv 0) (pa_cons (pe_bltn (v := .ty "ValueError") (by rfl) g_ValueError (by decide +kernel) rfl) pa_nil))))))))) (pss_one (ps_ret (pe_tup (pa_cons pe_str (pa_cons (pe_callB cr_len (by rfl) g_len (by decide +kernel) (pa_cons (pv 1) pa_nil)) pa_nil))))) pss_nil)
      (pss_one (ps_ret (pe_ix ix_list (pv 1) pe_int (fun _ _ => rfl)))))))), ?_⟩
  walk_at "go"
  intro l hl
  walk_at "go"
  refine x_isiE1 k1 ?_
  walk_at "go"
  intro t ht
  walk_at "go"
  refine x_append (by walk_at "hp") (by decide) ?_
  walk_at "go"
  intro t2 ht2
  walk_at "go"
  refine x_isiET upd_same (by repeat (first | exact .nil | refine .cons (.own _) ?_)) k2 ?_
  walk_at "go"
  refine x_isiE1 k3 ?_
  walk_at "go"
  refine x_isiE2 k4 ?_
  walk_at "go"
  obtain ⟨n1, n2⟩ := free_upd ht
  refine q t _ (((Kp.new hl).trans (Kp.new ht)).mut hl |>.mut ?_) n1 ?_
  · obtain ⟨m1, m2⟩ := free_upd ht2
    exact (free_upd (free_upd m1).1).1
  · walk_at "hp"
abbrev s_law_ask : Stmt := topS 71
theorem sc_law_ask : FnScope ["deed", "one", "two", "caught"] ["deed", "one", "two"] (defScope s_law_ask) := ⟨rfl, rfl, rfl, by decide +kernel, rfl, by decide +kernel, by decide +kernel⟩
--DEF _law_ask
def AskV (v : V) (H : Hp) (Q : VK) : Prop := ∀ p H', Kp [] H H' → H' p = some (.tup [.str "told", v]) → Q (.ref p) H'
def AskR (t b : Int) (H : Hp) (Q : VK) : Prop :=
  (b = 0 → ∀ p r H', Kp [] H H' → H' p = some (.tup [.str "refused", .ref r]) → H' r = some (.tup [.str "NoBottom"]) → Q (.ref p) H') ∧
  (b ≠ 0 → ∀ p r H', Kp [] H H' → H' p = some (.tup [.str "told", .ref r]) → H' r = some (.tup [.int (lowT t b), .int (lowB t b)]) → Q (.ref p) H')
structure TwoR (K : PySem.W.Frag) (H : Hp) (a b : Addr) (x y z w : Int) : Prop where
  one : SqT K H a [.int x, .int y]
  two : SqT K H b [.int z, .int w]
  bt : Bt 3000 x ∧ Bt 3000 y ∧ Bt 3000 z ∧ Bt 3000 w
def AskB (K : PySem.W.Frag) (d : Int) (v1 v2 : V) (H : Hp) (Q : VK) : Prop :=
  (∃ a b x y z w, v1 = .ref a ∧ v2 = .ref b ∧ TwoR K H a b x y z w ∧
    ((d = 0 ∧ AskR (x * w + z * y) (y * w) H Q) ∨ (d = 1 ∧ AskR (x * w - z * y) (y * w) H Q) ∨ (d = 2 ∧ AskR (x * z) (y * w) H Q) ∨ (d = 3 ∧ AskR (x * w) (y * z) H Q) ∨ (d = 4 ∧ AskV (.bl (decide (x * w < z * y))) H Q))) ∨
  (∃ a x y, v1 = .ref a ∧ SqT K H a [.int x, .int y] ∧ ((d = 5 ∧ AskV (.bl (decide (y = 1))) H Q) ∨ (d = 6 ∧ 0 < y ∧ Bt 3000 y ∧ AskV (.int (x / y)) H Q))) ∨
  (∃ t b, v1 = .int t ∧ v2 = .int b ∧ d = 7 ∧ Bt 8999 b ∧ AskR t b H Q)
def spAsk (K : PySem.W.Frag) : Sp := fun vs H Q _ => ∃ (d : Int) (v1 v2 : V), vs = [.int d, v1, v2] ∧ AskB K d v1 v2 H Q
theorem go_ask {d : Int} {v1 v2 : V} {H : Hp} {Q : VK} {E : XK} (q : AskB K d v1 v2 H Q) : spAsk K [.int d, v1, v2] H Q E := ⟨d, v1, v2, rfl, q⟩
set_option maxHeartbeats 4000000 in
theorem ok_law_ask (h : DefAt K mg "_law_ask" ["deed", "one", "two"] s_law_ask) {C_OfficeError C_NoBottom : Addr} (g_OfficeError : mg "OfficeError" = some (.ref C_OfficeError)) (hm : PySem.W.exmOne K (.ref C_NoBottom) (.ref C_OfficeError) = some true)
    (D_plus : Okk P w K mg base (L2.CX P w) k "plus" ["first", "second"] (spBin K C_NoBottom t_plus b_plus)) (D_minus : Okk P w K mg base (L2.CX P w) k "minus" ["first", "second"] (spBin K C_NoBottom t_minus b_minus))
    (D_times : Okk P w K mg base (L2.CX P w) k "times" ["first", "second"] (spBin K C_NoBottom t_times b_times)) (D_divided : Okk P w K mg base (L2.CX P w) k "divided" ["first", "second"] (spBin K C_NoBottom t_divided b_divided))
    (D_is_less : Okk P w K mg base CX0 k "is_less" ["first", "second"] (spLess K)) (D_is_whole : Okk P w K mg base CX0 k "is_whole" ["first"] (spWhole K)) (D_floor_of : Okk P w K mg base CX0 k "floor_of" ["first"] (spFloor K))
    (D_ratio : Okk P w K mg base (L2.CX P w) k "ratio" ["top", "bottom"] (spRatio C_NoBottom)) (D_law_refused : OkE P w K mg base k "_law_refused" ["caught"] (spRef C_NoBottom)) :
    Okk P w K mg base CX0 (k + 1) "_law_ask" ["deed", "one", "two"] (spAsk K) := by
  refine h.ok sc_law_ask ?_ ?_
  · rintro vs H Q E ⟨_, _, _, rfl, _⟩; rfl
  rintro cdv f A outer s H vs Q E hr ⟨d, v1, v2, rfl, q⟩
  refine ⟨_, (pss_one (ps_try_as (i := 3) rfl rfl sc_law_ask.nd rfl rfl ⟨rfl, by decide, .inl g_OfficeError⟩ takes0 (fun W pn xe tk hp => (pss_cons (ps_if (pt_cmpR op_eq (pv 0) pe_int (nomark _)) (pss_one (ps_ret (pe_tup (pa_cons pe_str (pa_cons (pe_ownS D_plus hr tk (pa_cons (pv 1) (pa_cons (pv 2) pa_nil))) pa_nil))))) pss_nil)
        (pss_cons (ps_if (pt_cmpR op_eq (pv 0) pe_int (nomark _)) (pss_one (ps_ret (pe_tup (pa_cons pe_str (pa_cons (pe_ownS D_minus hr tk (pa_cons (pv 1) (pa_cons (pv 2) pa_nil))) pa_nil))))) pss_nil)
        (pss_cons (ps_if (pt_cmpR op_eq (pv 0) pe_int (nomark _)) (pss_one (ps_ret (pe_tup (pa_cons pe_str (pa_cons (pe_ownS D_times hr tk (pa_cons (pv 1) (pa_cons (pv 2) pa_nil))) pa_nil))))) pss_nil)
        (pss_cons (ps_if (pt_cmpR op_eq (pv 0) pe_int (nomark _)) (pss_one (ps_ret (pe_tup (pa_cons pe_str (pa_cons (pe_ownS D_divided hr tk (pa_cons (pv 1) (pa_cons (pv 2) pa_nil))) pa_nil))))) pss_nil)
        (pss_cons (ps_if (pt_cmpR op_eq (pv 0) pe_int (nomark _)) (pss_one (ps_ret (pe_tup (pa_cons pe_str (pa_cons (pe_own D_is_less hr (pa_cons (pv 1) (pa_cons (pv 2) pa_nil))) pa_nil))))) pss_nil)
        (pss_cons (ps_if (pt_cmpR op_eq (pv 0) pe_int (nomark _)) (pss_one (ps_ret (pe_tup (pa_cons pe_str (pa_cons (pe_own D_is_whole hr (pa_cons (pv 1) pa_nil)) pa_nil))))) pss_nil)
        (pss_cons (ps_if (pt_cmpR op_eq (pv 0) pe_int (nomark _)) (pss_one (ps_ret (pe_tup (pa_cons pe_str (pa_cons (pe_own D_floor_of hr (pa_cons (pv 1) pa_nil)) pa_nil))))) pss_nil)
        (pss_one (ps_ret (pe_tup (pa_cons pe_str (pa_cons (pe_ownS D_ratio hr tk (pa_cons (pv 1) (pa_cons (pv 2) pa_nil))) pa_nil))))))))))))) (fun a oe cls d pn hz hf => (pss_one (ps_ret (pe_tup (pa_cons pe_str (pa_cons (pe_ownH D_law_refused ⟨hr.dp, hr.un⟩ List.mem_cons_self hz hf (pa_cons (pv 3) pa_nil)) pa_nil)))))))), ?_⟩
  rcases q with ⟨a, b, x, y, z, w', rfl, rfl, T, q⟩ | ⟨a, x, y, rfl, hp, q⟩ | ⟨t, b, rfl, rfl, rfl, hb, q0, q1⟩
  · have h1 := T.one
    have h2 := T.two
    rcases q with ⟨rfl, q0, q1⟩ | ⟨rfl, q0, q1⟩ | ⟨rfl, q0, q1⟩ | ⟨rfl, q0, q1⟩ | ⟨rfl, q⟩
    iterate 4
      · walk_at "go"
        refine go_bin h1 h2 T.bt ⟨fun e H1 k1 => ?_, fun e p H1 k1 f1 e1 => ?_⟩
        · refine x_was hm fun a9 f9 => ?_
          simp only [List.set_cons_zero, List.set_cons_succ]
          walk_at "go"
          refine fun oe hz hf => ⟨rfl, hz, hf, fun r H2 k2 f2 e2 => ?_⟩
          walk_at "go"
          intro p hp
          exact q0 e p r _ ((k1.trans k2).trans (Kp.new hp)) upd_same (at_upd (ne_new hp e2) e2)
        · walk_at "go"
          intro p2 hp2
          exact q1 e p2 p _ (k1.trans (Kp.new hp2)) upd_same (at_upd (ne_new hp2 e1) e1)
    · walk_at "go"
      refine go_less h1 h2 T.bt ?_
      walk_at "go"
      intro p2 hp2
      exact q p2 _ (Kp.new hp2) upd_same
  · rcases q with ⟨rfl, q⟩ | ⟨rfl, y0, yb, q⟩
    · walk_at "go"
      refine ⟨a, x, y, rfl, hp, ?_⟩
      walk_at "go"
      intro p2 hp2
      exact q p2 _ (Kp.new hp2) upd_same
    · walk_at "go"
      refine ⟨a, x, y, rfl, hp, y0, yb, ?_⟩
      walk_at "go"
      intro p2 hp2
      exact q p2 _ (Kp.new hp2) upd_same
  · walk_at "go"
    refine go_ratio hb ⟨fun e H1 k1 => ?_, fun e p H1 k1 f1 e1 => ?_⟩
    · refine x_was hm fun a9 f9 => ?_
      simp only [List.set_cons_zero, List.set_cons_succ]
      walk_at "go"
      refine fun oe hz hf => ⟨rfl, hz, hf, fun r H2 k2 f2 e2 => ?_⟩
      walk_at "go"
      intro p hp
      exact q0 e p r _ ((k1.trans k2).trans (Kp.new hp)) upd_same (at_upd (ne_new hp e2) e2)
    · walk_at "go"
      intro p2 hp2
      exact q1 e p2 p _ (k1.trans (Kp.new hp2)) upd_same (at_upd (ne_new hp2 e1) e1)
/-! ### the mathematics -/
theorem low_exact {a b : Int} (h : b ≠ 0) : ∃ (g u v : Int), 0 < g ∧ a = g * u ∧ b = g * v ∧ Nat.gcd u.natAbs v.natAbs = 1 ∧ lowT a b = (if b < 0 then -u else u) ∧ lowB a b = (if b < 0 then -v else v) := by
  have gp := gcd_pos (a := a) h
  have d1 : ((Nat.gcd a.natAbs b.natAbs : Nat) : Int) ∣ a := Int.ofNat_dvd_left.mpr (Nat.gcd_dvd_left _ _)
  have d2 : ((Nat.gcd a.natAbs b.natAbs : Nat) : Int) ∣ b := Int.ofNat_dvd_left.mpr (Nat.gcd_dvd_right _ _)
  obtain ⟨u, hu⟩ := d1
  obtain ⟨v, hv⟩ := d2
  refine ⟨_, u, v, gp, hu, hv, ?_, ?_, ?_⟩
  · have e : Nat.gcd a.natAbs b.natAbs = Nat.gcd a.natAbs b.natAbs * Nat.gcd u.natAbs v.natAbs := by
      have h1 : a.natAbs = Nat.gcd a.natAbs b.natAbs * u.natAbs := by
        have := congrArg Int.natAbs hu
        rwa [Int.natAbs_mul, Int.natAbs_natCast] at this
      have h2 : b.natAbs = Nat.gcd a.natAbs b.natAbs * v.natAbs := by
        have := congrArg Int.natAbs hv
        rwa [Int.natAbs_mul, Int.natAbs_natCast] at this
      have h3 := Nat.gcd_mul_left (Nat.gcd a.natAbs b.natAbs) u.natAbs v.natAbs
      rw [← h1, ← h2] at h3
      exact h3
    have p : 0 < Nat.gcd a.natAbs b.natAbs := by omega
    exact Nat.eq_of_mul_eq_mul_left p (by rw [← e, Nat.mul_one])
  · unfold lowT
    generalize ((Nat.gcd a.natAbs b.natAbs : Nat) : Int) = g at *
    split
    · rw [hu, ← Int.mul_neg, Int.mul_ediv_cancel_left _ (by omega)]
    · rw [hu, Int.mul_ediv_cancel_left _ (by omega)]
  · unfold lowB
    generalize ((Nat.gcd a.natAbs b.natAbs : Nat) : Int) = g at *
    split
    · rw [hv, ← Int.mul_neg, Int.mul_ediv_cancel_left _ (by omega)]
    · rw [hv, Int.mul_ediv_cancel_left _ (by omega)]
theorem low_pos {a b : Int} (h : b ≠ 0) : 1 ≤ lowB a b := by
  obtain ⟨g, u, v, hg, hu, hv, h1, h2, h3⟩ := low_exact (a := a) h
  rw [h3]
  split
  · have : v < 0 := by
      rcases Int.lt_or_le v 0 with z | z
      · exact z
      · have := Int.mul_nonneg (Int.le_of_lt hg) z
        omega
    omega
  · have hv0 : v ≠ 0 := fun z => h (by rw [hv, z, Int.mul_zero])
    have : 0 ≤ v := by
      rcases Int.lt_or_le v 0 with z | z
      · have := Int.mul_neg_of_pos_of_neg hg z
        omega
      · exact z
    omega
theorem low_gcd {a b : Int} (h : b ≠ 0) : Nat.gcd (lowT a b).natAbs (lowB a b).natAbs = 1 := by
  obtain ⟨g, u, v, hg, hu, hv, h1, h2, h3⟩ := low_exact (a := a) h
  rw [h2, h3]
  split
  · rw [Int.natAbs_neg, Int.natAbs_neg]; exact h1
  · exact h1
theorem low_cross {a b : Int} (h : b ≠ 0) : lowT a b * b = a * lowB a b := by
  obtain ⟨g, u, v, hg, hu, hv, h1, h2, h3⟩ := low_exact (a := a) h
  rw [h2, h3]
  subst hu hv
  split <;> grind
theorem low_leT {a b : Int} (h : b ≠ 0) : (lowT a b).natAbs ≤ a.natAbs := by
  obtain ⟨g, u, v, hg, hu, hv, h1, h2, h3⟩ := low_exact (a := a) h
  have e : a.natAbs = g.natAbs * u.natAbs := by rw [hu, Int.natAbs_mul]
  have : 1 * u.natAbs ≤ g.natAbs * u.natAbs := Nat.mul_le_mul_right _ (by omega)
  rw [h2]
  split
  · rw [Int.natAbs_neg]; omega
  · omega
theorem low_leB {a b : Int} (h : b ≠ 0) : (lowB a b).natAbs ≤ b.natAbs := by
  obtain ⟨g, u, v, hg, hu, hv, h1, h2, h3⟩ := low_exact (a := a) h
  have e : b.natAbs = g.natAbs * v.natAbs := by rw [hv, Int.natAbs_mul]
  have : 1 * v.natAbs ≤ g.natAbs * v.natAbs := Nat.mul_le_mul_right _ (by omega)
  rw [h3]
  split
  · rw [Int.natAbs_neg]; omega
  · omega
/-- two ratios in lowest terms that are crosswise alike are one -/
theorem low_uniq {x y u v : Int} (hy : 1 ≤ y) (hv : 1 ≤ v) (g1 : Nat.gcd x.natAbs y.natAbs = 1) (g2 : Nat.gcd u.natAbs v.natAbs = 1) (e : x * v = u * y) : x = u ∧ y = v := by
  have en : x.natAbs * v.natAbs = u.natAbs * y.natAbs := by rw [← Int.natAbs_mul, ← Int.natAbs_mul, e]
  have d1 : y.natAbs ∣ v.natAbs := (Nat.Coprime.symm g1).dvd_of_dvd_mul_left (by rw [en]; exact Nat.dvd_mul_left _ _)
  have d2 : v.natAbs ∣ y.natAbs := (Nat.Coprime.symm g2).dvd_of_dvd_mul_left (by rw [← en]; exact Nat.dvd_mul_left _ _)
  have e1 := Nat.dvd_antisymm d1 d2
  have e2 : y = v := by omega
  subst e2
  exact ⟨Int.eq_of_mul_eq_mul_right (by omega) e, rfl⟩
theorem low_is {t b x y : Int} (h : b ≠ 0) (hy : 1 ≤ y) (g : Nat.gcd x.natAbs y.natAbs = 1) (e : x * b = t * y) : lowT t b = x ∧ lowB t b = y := by
  have c := low_cross (a := t) h
  refine low_uniq (low_pos h) hy (low_gcd h) g ?_
  have : (lowT t b * y) * b = (x * lowB t b) * b := by grind
  exact Int.eq_of_mul_eq_mul_right h this
theorem rr_two {H : Hp} {p r : Addr} {s : Str} {x y : Int} (h1 : SqT K H p [.str s, .ref r]) (h2 : SqT K H r [.int x, .int y]) : Rr K H (.ref p) (.tuple [.str s, .tuple [.int x, .int y]]) :=
  .tup trivial h1 (.cons (.str s) (.cons (.tup trivial h2 (.cons (.int x) (.cons (.int y) .nil))) .nil))
theorem rr_nb {H : Hp} {p r : Addr} {s t : Str} (h1 : SqT K H p [.str s, .ref r]) (h2 : SqT K H r [.str t]) : Rr K H (.ref p) (.tuple [.str s, .tuple [.str t]]) :=
  .tup trivial h1 (.cons (.str s) (.cons (.tup trivial h2 (.cons (.str t) .nil)) .nil))
theorem rr_bl {H : Hp} {p : Addr} {s : Str} {b : Bool} (h1 : SqT K H p [.str s, .bl b]) : Rr K H (.ref p) (.tuple [.str s, .bool b]) :=
  .tup trivial h1 (.cons (.str s) (.cons (.bl b) .nil))
abbrev s_law_is_worth : Stmt := topS 72
theorem sc_law_is_worth : FnScope ["told", "top", "bottom"] ["told", "top", "bottom"] (defScope s_law_is_worth) := ⟨rfl, rfl, rfl, by decide +kernel, rfl, by decide +kernel, by decide +kernel⟩
--DEF _law_is_worth
def spWorth (K : PySem.W.Frag) : Sp := fun vs H Q _ => ∃ (p r : Addr) (x y t b : Int), vs = [.ref p, .int t, .int b] ∧ SqT K H p [.str "told", .ref r] ∧ SqT K H r [.int x, .int y] ∧ 1 ≤ y ∧ Nat.gcd x.natAbs y.natAbs = 1 ∧ (Bt 2760 y ∧ Bt 3000 x ∧ Bt 3000 t ∧ Bt 3000 b) ∧ x * b = t * y ∧ ∀ H', Kp [] H H' → Q (.bl true) H'
theorem go_worth {p r : Addr} {x y t b : Int} {H : Hp} {Q : VK} {E : XK} (h1 : SqT K H p [.str "told", .ref r]) (h2 : SqT K H r [.int x, .int y]) (h3 : 1 ≤ y) (h4 : Nat.gcd x.natAbs y.natAbs = 1) (h5 : Bt 2760 y ∧ Bt 3000 x ∧ Bt 3000 t ∧ Bt 3000 b) (h6 : x * b = t * y) (q : ∀ H', Kp [] H H' → Q (.bl true) H') : spWorth K [.ref p, .int t, .int b] H Q E := ⟨p, r, x, y, t, b, rfl, h1, h2, h3, h4, h5, h6, q⟩
theorem ok_law_is_worth (h : DefAt K mg "_law_is_worth" ["told", "top", "bottom"] s_law_is_worth) (D_law_is_ratio : Okk P w K mg base CX0 k "_law_is_ratio" ["told"] (spIsRatio K)) : Okk P w K mg base CX0 (k + 1) "_law_is_worth" ["told", "top", "bottom"] (spWorth K) := by
  refine h.ok sc_law_is_worth ?_ ?_
  · rintro vs H Q E ⟨p, _, _, _, _, _, rfl, _⟩; rfl
  rintro cdv f A outer s H vs Q E hr ⟨p, r, x, y, t, b, rfl, hp, hr', h1, h2, ⟨b1, b2, b3, b4⟩, e, q⟩
  refine ⟨_, (pss_cons (ps_if (PW.pt (pw_or (pt_cmpR op_ne (pe_ix ix_tup (pv 0) pe_int (fun _ _ => rfl)) pe_str (nomark _)) (pw_or1 (pt_not (pt_val (pe_own D_law_is_ratio hr (pa_cons (pe_ix ix_tup (pv 0) pe_int (fun _ _ => rfl)) pa_nil))))))) (pss_one (ps_ret pe_bl)) pss_nil)
      (pss_one (ps_ret (pe_cmpR op_eq (pe_op op_mulW (pe_ix ix_tup (pe_ix ix_tup (pv 0) pe_int (fun _ _ => rfl)) pe_int (fun _ _ => rfl)) (pv 2)) (pe_op op_mulW (pv 1) (pe_ix ix_tup (pe_ix ix_tup (pv 0) pe_int (fun _ _ => rfl)) pe_int (fun _ _ => rfl))) (nomark _))))), ?_⟩
  walk_at "go"
  refine go_isratio hr' h1 h2 b1 fun H1 k1 => ?_
  have hp1 := k1.st nil_mem hp
  have hr1 := k1.st nil_mem hr'
  have b1' := b1.mono (show 2760 ≤ 3000 by decide)
  walk_at "go"
  rw [decide_eq_true e]
  exact q H1 k1
abbrev s_law_is_floor : Stmt := topS 73
theorem sc_law_is_floor : FnScope ["told", "one"] ["told", "one"] (defScope s_law_is_floor) := ⟨rfl, rfl, rfl, by decide +kernel, rfl, by decide +kernel, by decide +kernel⟩
--DEF _law_is_floor
def spIsFloor (K : PySem.W.Frag) : Sp := fun vs H Q _ => ∃ (p r : Addr) (n x y : Int), vs = [.ref p, .ref r] ∧ SqT K H p [.str "told", .int n] ∧ SqT K H r [.int x, .int y] ∧ Bt 3000 n ∧ Bt 3000 y ∧ n * y ≤ x ∧ x < (n + 1) * y ∧ ∀ H', Kp [] H H' → Q (.bl true) H'
theorem go_isfloor {p r : Addr} {n x y : Int} {H : Hp} {Q : VK} {E : XK} (h1 : SqT K H p [.str "told", .int n]) (h2 : SqT K H r [.int x, .int y]) (h3 : Bt 3000 n) (h4 : Bt 3000 y) (h5 : n * y ≤ x) (h6 : x < (n + 1) * y) (q : ∀ H', Kp [] H H' → Q (.bl true) H') : spIsFloor K [.ref p, .ref r] H Q E := ⟨p, r, n, x, y, rfl, h1, h2, h3, h4, h5, h6, q⟩
theorem ok_law_is_floor (h : DefAt K mg "_law_is_floor" ["told", "one"] s_law_is_floor) (D_law_is_int : Okk P w K mg base CX0 k "_law_is_int" ["told"] (spIsInt K)) : Okk P w K mg base CX0 (k + 1) "_law_is_floor" ["told", "one"] (spIsFloor K) := by
  refine h.ok sc_law_is_floor ?_ ?_
  · rintro vs H Q E ⟨p, _, _, _, _, rfl, _⟩; rfl
  rintro cdv f A outer s H vs Q E hr ⟨p, r, n, x, y, rfl, hp, hr', b1, b2, e1, e2, q⟩
  refine ⟨_, (pss_cons (ps_if (PW.pt (pw_or (pt_cmpR op_ne (pe_ix ix_tup (pv 0) pe_int (fun _ _ => rfl)) pe_str (nomark _)) (pw_or1 (pt_not (pt_val (pe_own D_law_is_int hr (pa_cons (pe_ix ix_tup (pv 0) pe_int (fun _ _ => rfl)) pa_nil))))))) (pss_one (ps_ret pe_bl)) pss_nil)
      (pss_one (ps_ret (pe_and (pe_cmpR op_le (pe_op op_mulW (pe_ix ix_tup (pv 0) pe_int (fun _ _ => rfl)) (pe_ix ix_tup (pv 1) pe_int (fun _ _ => rfl))) (pe_ix ix_tup (pv 1) pe_int (fun _ _ => rfl)) (nomark _)) (pe_one (pe_cmpR op_lt (pe_ix ix_tup (pv 1) pe_int (fun _ _ => rfl)) (pe_op op_mulW (pe_op op_add (pe_ix ix_tup (pv 0) pe_int (fun _ _ => rfl)) pe_int) (pe_ix ix_tup (pv 1) pe_int (fun _ _ => rfl))) (nomark _))))))), ?_⟩
  have b3 : Bt 3001 (n + 1) := b1.add (bt_small (m := 1) (by omega) (by decide +kernel))
  walk_at "go"
  refine go_isint1 ?_
  walk_at "go"
  refine x_dec (fun _ => ?_) (fun z => absurd e1 z)
  walk_at "go"
  rw [decide_eq_true e2]
  exact q H Kp.refl
/-- a ratio in lowest terms, of at most n bits -/
structure Low (n : Nat) (x y : Int) : Prop where
  pos : 1 ≤ y
  gcd : Nat.gcd x.natAbs y.natAbs = 1
  bx : Bt n x
  by_ : Bt n y
theorem low_low {n : Nat} {t b : Int} (h : b ≠ 0) (ht : Bt n t) (hb : Bt n b) : Low n (lowT t b) (lowB t b) := ⟨low_pos h, low_gcd h, ht.le (low_leT h), hb.le (low_leB h)⟩
abbrev s_law_two_right : Stmt := topS 74
theorem sc_law_two_right : FnScope ["one", "two", "less", "part"] ["one", "two"] (defScope s_law_two_right) := ⟨rfl, rfl, rfl, by decide +kernel, rfl, by decide +kernel, by decide +kernel⟩
--DEF _law_two_right
def spTwoR (K : PySem.W.Frag) : Sp := fun vs H Q _ => ∃ (a b : Addr) (x y z w : Int), vs = [.ref a, .ref b] ∧ SqT K H a [.int x, .int y] ∧ SqT K H b [.int z, .int w] ∧ Low 1332 x y ∧ Low 1332 z w ∧ ∀ H', Kp [] H H' → Q (.bl true) H'
set_option maxHeartbeats 4000000 in
theorem ok_law_two_right (h : DefAt K mg "_law_two_right" ["one", "two"] s_law_two_right) (D_law_is_worth : Okk P w K mg base CX0 k "_law_is_worth" ["told", "top", "bottom"] (spWorth K)) (D_law_ask : Okk P w K mg base CX0 k "_law_ask" ["deed", "one", "two"] (spAsk K)) (D_law_same : Okk P w K mg base CX0 k "_law_same" ["told", "due"] (spSame K 3)) :
    Okk P w K mg base CX0 (k + 1) "_law_two_right" ["one", "two"] (spTwoR K) := by
  refine h.ok sc_law_two_right ?_ ?_
  · rintro vs H Q E ⟨p, _, _, _, _, _, rfl, _⟩; rfl
  rintro cdv f A outer s H vs Q E hr ⟨a, b, x, y, z, w', rfl, ha, hb, L1, L2', q⟩
  have y0 : y ≠ 0 := by have := L1.pos; omega
  have w0 : w' ≠ 0 := by have := L2'.pos; omega
  have bx := L1.bx
  have by_ := L1.by_
  have bz := L2'.bx
  have bw := L2'.by_
  have yw : y * w' ≠ 0 := Int.mul_ne_zero y0 w0
  have bxw := bx.mul bw
  have bzy := bz.mul by_
  have byw := by_.mul bw
  have bxz := bx.mul bz
  have byz := by_.mul bz
  have T : ∀ H', Kp [] H H' → TwoR K H' a b x y z w' := fun H' k' => ⟨k'.st nil_mem ha, k'.st nil_mem hb, bx.mono (by decide), by_.mono (by decide), bz.mono (by decide), bw.mono (by decide)⟩
  have M1 := low_low (n := 2665) yw ((bxw.add bzy).mono (by decide)) (byw.mono (by decide))
  have M2 := low_low (n := 2665) yw ((bxw.sub bzy).mono (by decide)) (byw.mono (by decide))
  have M3 := low_low (n := 2665) yw (bxz.mono (by decide)) (byw.mono (by decide))
  refine ⟨_, (pss_cons (ps_if (pt_not (pt_val (pe_own D_law_is_worth hr (pa_cons (pe_own D_law_ask hr (pa_cons pe_int (pa_cons (pv 0) (pa_cons (pv 1) pa_nil)))) (pa_cons (pe_op op_add (pe_op op_mulW (pe_ix ix_tup (pv 0) pe_int (fun _ _ => rfl)) (pe_ix ix_tup (pv 1) pe_int (fun _ _ => rfl))) (pe_op op_mulW (pe_ix ix_tup (pv 1) pe_int (fun _ _ => rfl)) (pe_ix ix_tup (pv 0) pe_int (fun _ _ => rfl)))) (pa_cons (pe_op op_mulW (pe_ix ix_tup (pv 0) pe_int (fun _ _ => rfl)) (pe_ix ix_tup (pv 1) pe_int (fun _ _ => rfl))) pa_nil)))))) (pss_one (ps_ret pe_bl)) pss_nil)
      (pss_cons (ps_set (i := 2) sc_law_two_right.nd rfl (Or.inl rfl) (pe_own D_law_ask hr (pa_cons pe_int (pa_cons (pv 0) (pa_cons (pv 1) pa_nil)))))
      (pss_cons (ps_if (pt_not (pt_val (pe_own D_law_is_worth hr (pa_cons (pv 2) (pa_cons (pe_op op_sub (pe_op op_mulW (pe_ix ix_tup (pv 0) pe_int (fun _ _ => rfl)) (pe_ix ix_tup (pv 1) pe_int (fun _ _ => rfl))) (pe_op op_mulW (pe_ix ix_tup (pv 1) pe_int (fun _ _ => rfl)) (pe_ix ix_tup (pv 0) pe_int (fun _ _ => rfl)))) (pa_cons (pe_op op_mulW (pe_ix ix_tup (pv 0) pe_int (fun _ _ => rfl)) (pe_ix ix_tup (pv 1) pe_int (fun _ _ => rfl))) pa_nil)))))) (pss_one (ps_ret pe_bl)) pss_nil)
      (pss_cons (ps_if (pt_not (pt_val (pe_own D_law_same hr (pa_cons (pe_own D_law_ask hr (pa_cons pe_int (pa_cons (pe_ix ix_tup (pv 2) pe_int (fun _ _ => rfl)) (pa_cons (pv 1) pa_nil)))) (pa_cons (pe_tup (pa_cons pe_str (pa_cons (pv 0) pa_nil))) pa_nil))))) (pss_one (ps_ret pe_bl)) pss_nil)
      (pss_cons (ps_if (pt_not (pt_val (pe_own D_law_is_worth hr (pa_cons (pe_own D_law_ask hr (pa_cons pe_int (pa_cons (pv 0) (pa_cons (pv 1) pa_nil)))) (pa_cons (pe_op op_mulW (pe_ix ix_tup (pv 0) pe_int (fun _ _ => rfl)) (pe_ix ix_tup (pv 1) pe_int (fun _ _ => rfl))) (pa_cons (pe_op op_mulW (pe_ix ix_tup (pv 0) pe_int (fun _ _ => rfl)) (pe_ix ix_tup (pv 1) pe_int (fun _ _ => rfl))) pa_nil)))))) (pss_one (ps_ret pe_bl)) pss_nil)
      (pss_cons (ps_set (i := 3) sc_law_two_right.nd rfl (Or.inl rfl) (pe_own D_law_ask hr (pa_cons pe_int (pa_cons (pv 0) (pa_cons (pv 1) pa_nil)))))
      (pss_cons (ps_if (pt_cmpR op_eq (pe_ix ix_tup (pv 1) pe_int (fun _ _ => rfl)) pe_int (nomark _)) (pss_one (ps_ret (pe_own D_law_same hr (pa_cons (pv 3) (pa_cons (pe_tup (pa_cons pe_str (pa_cons (pe_tup (pa_cons pe_str pa_nil)) pa_nil))) pa_nil))))) pss_nil)
      (pss_cons (ps_if (pt_not (pt_val (pe_own D_law_is_worth hr (pa_cons (pv 3) (pa_cons (pe_op op_mulW (pe_ix ix_tup (pv 0) pe_int (fun _ _ => rfl)) (pe_ix ix_tup (pv 1) pe_int (fun _ _ => rfl))) (pa_cons (pe_op op_mulW (pe_ix ix_tup (pv 0) pe_int (fun _ _ => rfl)) (pe_ix ix_tup (pv 1) pe_int (fun _ _ => rfl))) pa_nil)))))) (pss_one (ps_ret pe_bl)) pss_nil)
      (pss_one (ps_ret (pe_own D_law_same hr (pa_cons (pe_own D_law_ask hr (pa_cons pe_int (pa_cons (pe_ix ix_tup (pv 3) pe_int (fun _ _ => rfl)) (pa_cons (pv 1) pa_nil)))) (pa_cons (pe_tup (pa_cons pe_str (pa_cons (pv 0) pa_nil))) pa_nil))))))))))))), ?_⟩
  walk_at "go"
  refine go_ask (.inl ⟨a, b, x, y, z, w', rfl, rfl, T H Kp.refl, .inl ⟨rfl, fun e => absurd e yw, fun _ p1 r1 H1 k1 e1 e1' => ?_⟩⟩)
  have ha1 := k1.st nil_mem ha
  have hb1 := k1.st nil_mem hb
  walk_at "go"
  refine go_worth (SqT.of e1) (SqT.of e1') M1.pos M1.gcd ⟨M1.by_.mono (by decide), M1.bx.mono (by decide), (bxw.add bzy).mono (by decide), byw.mono (by decide)⟩ (low_cross yw) fun H2 k2 => ?_
  have k12 := k1.trans k2
  walk_at "go"
  refine go_ask (.inl ⟨a, b, x, y, z, w', rfl, rfl, T H2 k12, .inr (.inl ⟨rfl, fun e => absurd e yw, fun _ p3 r3 H3 k3 e3 e3' => ?_⟩)⟩)
  have k13 := k12.trans k3
  have ha3 := k13.st nil_mem ha
  have hb3 := k13.st nil_mem hb
  walk_at "go"
  refine go_worth (SqT.of e3) (SqT.of e3') M2.pos M2.gcd ⟨M2.by_.mono (by decide), M2.bx.mono (by decide), (bxw.sub bzy).mono (by decide), byw.mono (by decide)⟩ (low_cross yw) fun H4 k4 => ?_
  have k14 := k13.trans k4
  have e4 := k4 _ _ nil_mem e3
  have e4' := k4 _ _ nil_mem e3'
  have hb4 := k14.st nil_mem hb
  walk_at "go"
  have lb0 : lowB (x * w' - z * y) (y * w') * w' ≠ 0 := Int.mul_ne_zero (by have := M2.pos; omega) w0
  obtain ⟨u1, u2⟩ := low_is (t := lowT (x * w' - z * y) (y * w') * w' + z * lowB (x * w' - z * y) (y * w')) (x := x) (y := y) lb0 L1.pos L1.gcd (by
    have c := low_cross (a := x * w' - z * y) yw
    grind)
  refine go_ask (.inl ⟨r3, b, _, _, z, w', rfl, rfl, ⟨SqT.of e4', hb4, M2.bx.mono (by decide), M2.by_.mono (by decide), bz.mono (by decide), bw.mono (by decide)⟩, .inl ⟨rfl, fun e => absurd e lb0, fun _ p5 r5 H5 k5 e5 e5' => ?_⟩⟩)
  rw [u1, u2] at e5'
  have k15 := k14.trans k5
  have ha5 := k15.st nil_mem ha
  walk_at "go"
  intro t5 f5
  walk_at "go"
  refine go_same (e := .tuple [.str "told", .tuple [.int x, .int y]]) (rr_two (SqT.of (at_upd (ne_new f5 e5) e5)) (SqT.of (at_upd (ne_new f5 e5') e5'))) (rr_two (SqT.of upd_same) (st_new f5 ha5)) (by simp [dep, depAll]) (by simp [wid, widAll]) fun b6 H6 k6 hb6 => ?_
  have b6' : b6 = true := hb6.mpr rfl
  subst b6'
  have k16 := (k15.trans (Kp.new f5)).trans k6
  walk_at "go"
  refine go_ask (.inl ⟨a, b, x, y, z, w', rfl, rfl, T H6 k16, .inr (.inr (.inl ⟨rfl, fun e => absurd e yw, fun _ p7 r7 H7 k7 e7 e7' => ?_⟩))⟩)
  have k17 := k16.trans k7
  have ha7 := k17.st nil_mem ha
  have hb7 := k17.st nil_mem hb
  walk_at "go"
  refine go_worth (SqT.of e7) (SqT.of e7') M3.pos M3.gcd ⟨M3.by_.mono (by decide), M3.bx.mono (by decide), bxz.mono (by decide), byw.mono (by decide)⟩ (low_cross yw) fun H8 k8 => ?_
  have k18 := k17.trans k8
  have hb8 := k18.st nil_mem hb
  walk_at "go"
  refine go_ask (.inl ⟨a, b, x, y, z, w', rfl, rfl, T H8 k18, .inr (.inr (.inr (.inl ⟨rfl, fun e p9 r9 H9 k9 e9 e9' => ?_, fun e p9 r9 H9 k9 e9 e9' => ?_⟩)))⟩)
  · have z0 : z = 0 := by
      rcases Int.mul_eq_zero.mp e with c | c
      · exact absurd c y0
      · exact c
    have hb9 := (k18.trans k9).st nil_mem hb
    walk_at "go"
    refine x_decT z0 ?_
    walk_at "go"
    intro t1 f1
    walk_at "go"
    intro t2 f2
    walk_at "go"
    have g9 := (Kp.new (M := []) (o := .tup [V.str "NoBottom"]) f1).trans (Kp.new (o := .tup [V.str "refused", .ref t1]) f2)
    refine go_same (e := .tuple [.str "refused", .tuple [.str "NoBottom"]]) (rr_nb (SqT.of (g9 _ _ nil_mem e9)) (SqT.of (g9 _ _ nil_mem e9'))) (rr_nb (SqT.of upd_same) (SqT.of (at_upd (ne_new f2 upd_same) upd_same))) (by decide) (by decide) fun b6 H6 k6 hb6 => ?_
    have b6' : b6 = true := hb6.mpr rfl
    subst b6'
    exact q H6 (((k18.trans k9).trans g9).trans k6)
  · have z0 : z ≠ 0 := fun c => e (by rw [c, Int.mul_zero])
    have k19 := k18.trans k9
    have ha9 := k19.st nil_mem ha
    have hb9 := k19.st nil_mem hb
    have M4 := low_low (n := 2665) e (bxw.mono (by decide)) (byz.mono (by decide))
    walk_at "go"
    refine x_decF z0 ?_
    walk_at "go"
    refine go_worth (SqT.of e9) (SqT.of e9') M4.pos M4.gcd ⟨M4.by_.mono (by decide), M4.bx.mono (by decide), bxw.mono (by decide), byz.mono (by decide)⟩ (low_cross e) fun H10 k10 => ?_
    have k110 := k19.trans k10
    have e10 := k10 _ _ nil_mem e9
    have e10' := k10 _ _ nil_mem e9'
    have hb10 := k110.st nil_mem hb
    walk_at "go"
    have pb0 : lowB (x * w') (y * z) * w' ≠ 0 := Int.mul_ne_zero (by have := M4.pos; omega) w0
    obtain ⟨u1, u2⟩ := low_is (t := lowT (x * w') (y * z) * z) (x := x) (y := y) pb0 L1.pos L1.gcd (by
      have c := low_cross (a := x * w') e
      grind)
    refine go_ask (.inl ⟨r9, b, _, _, z, w', rfl, rfl, ⟨SqT.of e10', hb10, M4.bx.mono (by decide), M4.by_.mono (by decide), bz.mono (by decide), bw.mono (by decide)⟩, .inr (.inr (.inl ⟨rfl, fun e => absurd e pb0, fun _ p11 r11 H11 k11 e11 e11' => ?_⟩))⟩)
    rw [u1, u2] at e11'
    have k111 := k110.trans k11
    have ha11 := k111.st nil_mem ha
    walk_at "go"
    intro t5 f5
    walk_at "go"
    refine go_same (e := .tuple [.str "told", .tuple [.int x, .int y]]) (rr_two (SqT.of (at_upd (ne_new f5 e11) e11)) (SqT.of (at_upd (ne_new f5 e11') e11'))) (rr_two (SqT.of upd_same) (st_new f5 ha11)) (by simp [dep, depAll]) (by simp [wid, widAll]) fun b6 H6 k6 hb6 => ?_
    have b6' : b6 = true := hb6.mpr rfl
    subst b6'
    exact q H6 ((k111.trans (Kp.new f5)).trans k6)
abbrev s_law_one_right : Stmt := topS 75
theorem sc_law_one_right : FnScope ["pair", "one"] ["pair"] (defScope s_law_one_right) := ⟨rfl, rfl, rfl, by decide +kernel, rfl, by decide +kernel, by decide +kernel⟩
--DEF _law_one_right
def spOneR (K : PySem.W.Frag) : Sp := fun vs H Q _ => ∃ (p : Addr) (a b : Int), vs = [.ref p] ∧ SqT K H p [.int a, .int b] ∧ b ≠ 0 ∧ Bt 1332 a ∧ Bt 1332 b ∧ ∀ H', Kp [] H H' → Q (.bl true) H'
set_option maxHeartbeats 4000000 in
theorem ok_law_one_right (h : DefAt K mg "_law_one_right" ["pair"] s_law_one_right) (D_law_lowest : Okk P w K mg base CX0 k "_law_lowest" ["top", "bottom"] spLowest) (D_law_ask : Okk P w K mg base CX0 k "_law_ask" ["deed", "one", "two"] (spAsk K)) (D_law_same : Okk P w K mg base CX0 k "_law_same" ["told", "due"] (spSame K 3)) (D_law_is_floor : Okk P w K mg base CX0 k "_law_is_floor" ["told", "one"] (spIsFloor K)) :
    Okk P w K mg base CX0 (k + 1) "_law_one_right" ["pair"] (spOneR K) := by
  refine h.ok sc_law_one_right ?_ ?_
  · rintro vs H Q E ⟨p, _, _, rfl, _⟩; rfl
  rintro cdv f A outer s H vs Q E hr ⟨p, a, b, rfl, hp, b0, ba, bb, q⟩
  have M := low_low b0 ba bb
  refine ⟨_, (pss_cons (ps_set (i := 1) sc_law_one_right.nd rfl (Or.inl rfl) (pe_own D_law_lowest hr (pa_cons (pe_ix ix_tup (pv 0) pe_int (fun _ _ => rfl)) (pa_cons (pe_ix ix_tup (pv 0) pe_int (fun _ _ => rfl)) pa_nil))))
      (pss_cons (ps_if (pt_not (pt_val (pe_own D_law_same hr (pa_cons (pe_own D_law_ask hr (pa_cons pe_int (pa_cons (pe_ix ix_tup (pv 0) pe_int (fun _ _ => rfl)) (pa_cons (pe_ix ix_tup (pv 0) pe_int (fun _ _ => rfl)) pa_nil)))) (pa_cons (pe_tup (pa_cons pe_str (pa_cons (pv 1) pa_nil))) pa_nil))))) (pss_one (ps_ret pe_bl)) pss_nil)
      (pss_cons (ps_if (pt_not (pt_val (pe_own D_law_same hr (pa_cons (pe_own D_law_ask hr (pa_cons pe_int (pa_cons (pe_ix ix_tup (pv 0) pe_int (fun _ _ => rfl)) (pa_cons pe_int pa_nil)))) (pa_cons (pe_tup (pa_cons pe_str (pa_cons (pe_tup (pa_cons pe_str pa_nil)) pa_nil))) pa_nil))))) (pss_one (ps_ret pe_bl)) pss_nil)
      (pss_cons (ps_if (pt_not (pt_val (pe_own D_law_same hr (pa_cons (pe_own D_law_ask hr (pa_cons pe_int (pa_cons (pv 1) (pa_cons (pv 1) pa_nil)))) (pa_cons (pe_tup (pa_cons pe_str (pa_cons (pe_cmpR op_eq (pe_ix ix_tup (pv 1) pe_int (fun _ _ => rfl)) pe_int (nomark _)) pa_nil))) pa_nil))))) (pss_one (ps_ret pe_bl)) pss_nil)
      (pss_one (ps_ret (pe_own D_law_is_floor hr (pa_cons (pe_own D_law_ask hr (pa_cons pe_int (pa_cons (pv 1) (pa_cons (pv 1) pa_nil)))) (pa_cons (pv 1) pa_nil))))))))), ?_⟩
  walk_at "go"
  refine go_lowest b0 (bb.mono (by decide)) fun o H1 k1 f1 e1 => ?_
  have hp1 := k1.st nil_mem hp
  walk_at "go"
  refine go_ask (.inr (.inr ⟨a, b, rfl, rfl, rfl, bb.mono (by decide), fun e => absurd e b0, fun _ p2 r2 H2 k2 e2 e2' => ?_⟩))
  have o2 := k2 _ _ nil_mem e1
  walk_at "go"
  intro t f3
  walk_at "go"
  refine go_same (e := .tuple [.str "told", .tuple [.int (lowT a b), .int (lowB a b)]]) (rr_two (SqT.of (at_upd (ne_new f3 e2) e2)) (SqT.of (at_upd (ne_new f3 e2') e2'))) (rr_two (SqT.of upd_same) (SqT.of (at_upd (ne_new f3 o2) o2))) (by simp [dep, depAll]) (by simp [wid, widAll]) fun c H3 k3 hc => ?_
  have hc' : c = true := hc.mpr rfl
  subst hc'
  have k13 := (k1.trans k2).trans ((Kp.new f3).trans k3)
  have hp3 := k13.st nil_mem hp
  walk_at "go"
  refine go_ask (.inr (.inr ⟨a, 0, rfl, rfl, rfl, Nat.two_pow_pos _, fun _ p4 r4 H4 k4 e4 e4' => ?_, fun e => absurd rfl e⟩))
  walk_at "go"
  intro t1 f5
  walk_at "go"
  intro t2 f6
  walk_at "go"
  have g9 := (Kp.new (M := []) (o := .tup [V.str "NoBottom"]) f5).trans (Kp.new (o := .tup [V.str "refused", .ref t1]) f6)
  refine go_same (e := .tuple [.str "refused", .tuple [.str "NoBottom"]]) (rr_nb (SqT.of (g9 _ _ nil_mem e4)) (SqT.of (g9 _ _ nil_mem e4'))) (rr_nb (SqT.of upd_same) (SqT.of (at_upd (ne_new f6 upd_same) upd_same))) (by decide) (by decide) fun c H7 k7 hc => ?_
  have hc' : c = true := hc.mpr rfl
  subst hc'
  have k17 := k13.trans (k4.trans (g9.trans k7))
  have o7 := (((Kp.new (M := []) f3).trans k3).trans (k4.trans (g9.trans k7))) _ _ nil_mem o2
  walk_at "go"
  refine go_ask (.inr (.inl ⟨o, _, _, rfl, SqT.of o7, .inl ⟨rfl, fun p8 H8 k8 e8 => ?_⟩⟩))
  have o8 := k8 _ _ nil_mem o7
  walk_at "go"
  intro t9 f9
  walk_at "go"
  refine go_same (e := .tuple [.str "told", .bool (decide (lowB a b = 1))]) (rr_bl (SqT.of (at_upd (ne_new f9 e8) e8))) (rr_bl (SqT.of upd_same)) (by simp [dep, depAll]) (by simp [wid, widAll]) fun c H10 k10 hc => ?_
  have hc' : c = true := hc.mpr rfl
  subst hc'
  have k8' := k8.trans ((Kp.new f9).trans k10)
  have o10 := k8' _ _ nil_mem o7
  walk_at "go"
  refine go_ask (.inr (.inl ⟨o, _, _, rfl, SqT.of o10, .inr ⟨rfl, by have := M.pos; omega, M.by_.mono (by decide), fun p11 H11 k11 e11 => ?_⟩⟩))
  have o11 := k11 _ _ nil_mem o10
  have yp : 0 < lowB a b := by have := M.pos; omega
  walk_at "go"
  refine go_isfloor (SqT.of e11) (SqT.of o11) ((M.bx.mono (by decide)).le ?_) (M.by_.mono (by decide)) (Int.ediv_mul_le _ (by omega)) (Int.lt_ediv_add_one_mul_self _ yp) fun H12 k12 => ?_
  · exact Int.natAbs_ediv_le_natAbs _ _
  · exact q H12 ((k17.trans k8').trans (k11.trans k12))
theorem go_store {a : Addr} {ns : List Int} {H : Hp} {Q : VK} {E : XK} (h : SqL K H a (ns.map V.int)) (q : ∀ p H', Kp [] H H' → H p = none → StoreAt H' p → Q (.ref p) H') : spStore K [.ref a] H Q E := ⟨a, ns, rfl, h, q⟩
theorem go_oner {p : Addr} {a b : Int} {H : Hp} {Q : VK} {E : XK} (h : SqT K H p [.int a, .int b]) (h1 : b ≠ 0) (h2 : Bt 1332 a) (h3 : Bt 1332 b) (q : ∀ H', Kp [] H H' → Q (.bl true) H') : spOneR K [.ref p] H Q E := ⟨p, a, b, rfl, h, h1, h2, h3, q⟩
theorem go_twor {a b : Addr} {x y z w : Int} {H : Hp} {Q : VK} {E : XK} (h1 : SqT K H a [.int x, .int y]) (h2 : SqT K H b [.int z, .int w]) (h3 : Low 1332 x y) (h4 : Low 1332 z w) (q : ∀ H', Kp [] H H' → Q (.bl true) H') : spTwoR K [.ref a, .ref b] H Q E := ⟨a, b, x, y, z, w, rfl, h1, h2, h3, h4, q⟩
def Pr (H : Hp) (a : Addr) : Prop := ∃ x y : Int, H a = some (.tup [.int x, .int y]) ∧ y ≠ 0 ∧ Bt 1332 x ∧ Bt 1332 y
def Rt (H : Hp) (a : Addr) : Prop := ∃ x y : Int, H a = some (.tup [.int x, .int y]) ∧ Low 1332 x y
theorem Pr.kp {H H' : Hp} {a : Addr} (h : Pr H a) (k : Kp [] H H') : Pr H' a := by
  obtain ⟨x, y, e, r⟩ := h
  exact ⟨x, y, k _ _ nil_mem e, r⟩
theorem Rt.kp {H H' : Hp} {a : Addr} (h : Rt H a) (k : Kp [] H H') : Rt H' a := by
  obtain ⟨x, y, e, r⟩ := h
  exact ⟨x, y, k _ _ nil_mem e, r⟩
theorem Pr.kpS {H H' : Hp} {a p : Addr} (h : Pr H a) (s : StoreAt H p) (k : Kp [p] H H') : Pr H' a := by
  obtain ⟨x, y, e, r⟩ := h
  exact ⟨x, y, k _ _ (one_mem (tup_ne s e)) e, r⟩
theorem ref_of {as : List Addr} {i : Nat} {x : V} (h : (as.map V.ref)[i]? = some x) : ∃ a, x = .ref a ∧ a ∈ as := by
  rw [List.getElem?_map] at h
  cases e : as[i]? with
  | none => rw [e] at h; cases h
  | some a => rw [e] at h; exact ⟨a, (Option.some.inj h).symm, List.mem_of_getElem? e⟩
abbrev s_law : Stmt := topS 77
theorem sc_law : FnScope ["script", "store", "pairs", "pair", "ratios", "turn", "one", "two", "due", "k"] ["script"] (defScope s_law) := ⟨rfl, rfl, rfl, by decide +kernel, rfl, by decide +kernel, by decide +kernel⟩
--DEF law
def spLaw (K : PySem.W.Frag) : Sp := fun vs H Q _ => ∃ (a : Addr) (ns : List Int), vs = [.ref a] ∧ SqL K H a (ns.map V.int) ∧ ∀ H', Q (.bl true) H'
set_option maxHeartbeats 8000000 in
theorem ok_law {fL : Addr} {fdL : FuncData} (h : FunD K "law" "law" (defArgs s_law) (defBody s_law) (defScope s_law) [] [] fL fdL) (g_range : mg "range" = none) (D_law_store : Okk P w K mg base CX0 k "_law_store" ["script"] (spStore K)) (D_law_drawn_pair : Okk P w K mg base CX0 k "_law_drawn_pair" ["store"] (spRPair 1332)) (D_law_near_pair : Okk P w K mg base CX0 k "_law_near_pair" ["store", "pair"] (spNearP K))
    (D_law_lowest : Okk P w K mg base CX0 k "_law_lowest" ["top", "bottom"] spLowest) (D_law_one_right : Okk P w K mg base CX0 k "_law_one_right" ["pair"] (spOneR K)) (D_law_same : Okk P w K mg base CX0 k "_law_same" ["told", "due"] (spSame K 3)) (D_law_ask : Okk P w K mg base CX0 k "_law_ask" ["deed", "one", "two"] (spAsk K)) (D_law_two_right : Okk P w K mg base CX0 k "_law_two_right" ["one", "two"] (spTwoR K)) :
    FnOk P w K mg base CX0 (k + 1) fL fdL ["script"] (spLaw K) := by
  refine okL h sc_law ?_ ?_
  · rintro vs H Q E ⟨p, _, rfl, _⟩; rfl
  rintro cdv f A outer s H vs Q E hr ⟨a, ns, rfl, hS, q⟩
  refine ⟨_, (pss_cons (ps_set (i := 1) sc_law.nd rfl (Or.inl rfl) (pe_own D_law_store hr (pa_cons (pv 0) pa_nil)))
      (pss_cons (ps_set (i := 2) sc_law.nd rfl (Or.inl rfl) (pe_lst (pa_cons (pe_own D_law_drawn_pair hr (pa_cons (pv 1) pa_nil)) (pa_cons (pe_own D_law_drawn_pair hr (pa_cons (pv 1) pa_nil)) pa_nil))))
      (pss_cons (ps_expr (pe_bm PySem.F.plainAttrs_list PySem.F.slot_list_append PySem.F.type_list_append mt_append (pv 2) (pa_cons (pe_own D_law_near_pair hr (pa_cons (pv 1) (pa_cons (pe_ix ix_list (pv 2) pe_int (fun _ _ => rfl)) pa_nil))) pa_nil)))
      (pss_cons (ps_set (i := 4) sc_law.nd rfl (Or.inl rfl) (pe_op op_cat (pe_lc (own := [("pair", 3)]) rfl sc_law.nd (pi_list (pv 2)) (blkOk_by (own := [("pair", 3)]) (N := ["script", "store", "pairs", "pair", "ratios", "turn", "one", "two", "due", "k"]) (sc := defScope s_law) (by decide +kernel)) (fun _ _ _ _ _ => pg_name (i := 3) sc_law.nd rfl (Or.inl rfl)) (fun _ _ _ _ _ => pts_nil) (fun _ _ _ _ _ => (pe_own D_law_lowest hr (pa_cons (pe_ix (ix_tupB (K := K)) (pv 3) pe_int (fun _ _ => rfl)) (pa_cons (pe_ix (ix_tupB (K := K)) (pv 3) pe_int (fun _ _ => rfl)) pa_nil))))) (pe_lst (pa_cons (pe_tup (pa_cons pe_int (pa_cons pe_int pa_nil))) pa_nil))))
      (pss_cons (ps_for PassesOwn.never rfl (pi_range1 rfl g_range (pa_cons pe_int pa_nil)) (pg_name (i := 5) sc_law.nd rfl (Or.inl rfl))
        (pss_cons (ps_for PassesOwn.never rfl (pi_list (pe_op op_cat (pv 2) (pe_lst (pa_cons (pe_tup (pa_cons pe_int (pa_cons (pe_un un_neg pe_int) pa_nil))) pa_nil)))) (pg_name (i := 3) sc_law.nd rfl (Or.inl rfl))
          (pss_one (ps_if (pt_not (pt_val (pe_own D_law_one_right hr (pa_cons (pv 3) pa_nil)))) (pss_one (ps_ret pe_bl)) pss_nil)))
        (pss_cons (ps_for PassesOwn.never rfl (pi_list (pv 4)) (pg_name (i := 6) sc_law.nd rfl (Or.inl rfl))
          (pss_one (ps_for PassesOwn.never rfl (pi_list (pv 4)) (pg_name (i := 7) sc_law.nd rfl (Or.inl rfl))
            (pss_cons (ps_set (i := 8) sc_law.nd rfl (Or.inl rfl) (pe_cmpR op_lt (pe_op op_mulW (pe_ix ix_tup (pv 6) pe_int (fun _ _ => rfl)) (pe_ix ix_tup (pv 7) pe_int (fun _ _ => rfl))) (pe_op op_mulW (pe_ix ix_tup (pv 7) pe_int (fun _ _ => rfl)) (pe_ix ix_tup (pv 6) pe_int (fun _ _ => rfl))) (nomark _)))
            (pss_one (ps_if (pt_not (pt_val (pe_own D_law_same hr (pa_cons (pe_own D_law_ask hr (pa_cons pe_int (pa_cons (pv 6) (pa_cons (pv 7) pa_nil)))) (pa_cons (pe_tup (pa_cons pe_str (pa_cons (pv 8) pa_nil))) pa_nil))))) (pss_one (ps_ret pe_bl)) pss_nil))))))
        (pss_one (ps_for PassesOwn.never rfl (pi_range1 rfl g_range (pa_cons pe_int pa_nil)) (pg_name (i := 9) sc_law.nd rfl (Or.inl rfl))
          (pss_one (ps_if (pt_not (pt_val (pe_own D_law_two_right hr (pa_cons (pe_ix ix_list (pv 4) (pv 9) (fun _ _ => rfl)) (pa_cons (pe_ix ix_list (pv 4) (pe_op op_mod (pe_op op_add (pe_op op_add (pv 9) pe_int) (pv 5)) pe_int) (fun _ _ => rfl)) pa_nil))))) (pss_one (ps_ret pe_bl)) pss_nil)))))))
      (pss_one (ps_ret (pe_own D_law_two_right hr (pa_cons (pe_ix ix_list (pv 4) pe_int (fun _ _ => rfl)) (pa_cons (pe_ix ix_list (pv 4) pe_int (fun _ _ => rfl)) pa_nil)))))))))), ?_⟩
  walk_at "go"
  refine go_store hS fun p H1 k1 f1 s1 => ?_
  walk_at "go"
  refine go_rpair s1 fun a1 b1 r1 H2 s2 k2 f2 e2 n2 ba2 bb2 => ?_
  walk_at "go"
  refine go_rpair s2 fun a3 b3 r3 H3 s3 k3 f3 e3 n3 ba3 bb3 => ?_
  have P1 : Pr H3 r1 := Pr.kpS ⟨a1, b1, e2, n2, ba2, bb2⟩ s2 k3
  have P3 : Pr H3 r3 := ⟨a3, b3, e3, n3, ba3, bb3⟩
  walk_at "go"
  intro l fl
  walk_at "go"
  obtain ⟨x1, y1, g1, z1, w1, v1⟩ := id P1
  refine go_nearp (s3.new fl) (SqT.of (at_upd (ne_new fl g1) g1)) z1 w1 v1 fun a5 b5 r5 H5 s5 k5 f5 e5 n5 ba5 bb5 => ?_
  have lp : l ≠ p := ne_new' fl s3.ex.choose_spec
  have l5 : H5 l = some (.lst [.ref r1, .ref r3]) := k5 _ _ (one_mem lp) upd_same
  walk_at "go"
  refine x_append l5 (by simp) ?_
  walk_at "go"
  have Q1 : Pr (upd H5 l (.lst [.ref r1, .ref r3, .ref r5])) r1 := by
    obtain ⟨x, y, e, r⟩ := (P1.kp (Kp.new fl)).kpS (s3.new fl) k5
    exact ⟨x, y, at_upd (ne_of e l5 (by intro z; cases z)) e, r⟩
  have Q3 : Pr (upd H5 l (.lst [.ref r1, .ref r3, .ref r5])) r3 := by
    obtain ⟨x, y, e, r⟩ := (P3.kp (Kp.new fl)).kpS (s3.new fl) k5
    exact ⟨x, y, at_upd (ne_of e l5 (by intro z; cases z)) e, r⟩
  have Q5 : Pr (upd H5 l (.lst [.ref r1, .ref r3, .ref r5])) r5 := ⟨a5, b5, at_upd (ne_of e5 l5 (by intro z; cases z)) e5, n5, ba5, bb5⟩
  have L6 : (upd H5 l (.lst [.ref r1, .ref r3, .ref r5])) l = some (.lst [.ref r1, .ref r3, .ref r5]) := upd_same
  simp only [List.cons_append, List.nil_append]
  generalize upd H5 l (.lst [.ref r1, .ref r3, .ref r5]) = H6 at *
  have PA6 : ∀ x ∈ [r1, r3, r5], Pr H6 x := by
    intro x hx
    simp only [List.mem_cons, List.not_mem_nil, or_false] at hx
    rcases hx with rfl | rfl | rfl <;> assumption
  have L6' : H6 l = some (.lst ([r1, r3, r5].map V.ref)) := L6
  have lps : [r1, r3, r5].length = 3 := rfl
  generalize [r1, r3, r5] = ps at *
  walk_at "go"
  refine l_lcL (by walk_at "wipe") (SqL.of L6') (fun Dl i H' => Kp [] H6 H' ∧ ∃ as : List Addr, H' Dl = some (.lst (as.map V.ref)) ∧ as.length = i ∧ ∀ x ∈ as, Rt H' x) (fun Dl fD => ⟨Kp.new fD, [], upd_same, rfl, by simp⟩) (fun Dl i H' _ _ m => SqL.of (m.1 _ _ nil_mem L6')) ?_ ?_
  · rintro Dl i x H' fD hx ⟨kp, as, eD, el, hA⟩
    obtain ⟨o, rfl, ho⟩ := ref_of hx
    obtain ⟨u, v, eo, v0, bu, bv⟩ := (PA6 o ho).kp kp
    walk_at "go"
    refine ⟨rfl, ?_⟩
    unfold tYes
    refine x_iteT ?_
    walk_at "go"
    refine go_lowest v0 (bv.mono (by decide)) fun c H7 k7 f7 e7 => ?_
    have eD7 := k7 _ _ nil_mem eD
    refine ⟨_, eD7, ?_, (kp.trans k7).mut fD, as ++ [c], ?_, by simp [el], ?_⟩
    · have hi : i < (ps.map V.ref).length := (List.getElem?_eq_some_iff.mp hx).1
      rw [List.length_map, lps] at hi
      rw [List.length_map, el]
      exact Nat.lt_trans hi (by decide)
    · rw [List.map_append]; exact upd_same
    · intro x hx
      have nD : ∀ z : Addr, Rt H7 z → Rt (upd H7 Dl (.lst (as.map V.ref ++ [.ref c]))) z := fun z hz => by
        obtain ⟨x, y, e, r⟩ := hz
        exact ⟨x, y, at_upd (ne_of e eD7 (by intro z; cases z)) e, r⟩
      rcases List.mem_append.mp hx with hx | hx
      · exact nD x ((hA x hx).kp k7)
      · rw [List.mem_singleton] at hx
        subst hx
        exact nD x ⟨_, _, e7, low_low v0 bu bv⟩
  · rintro Dl H7 fD ⟨kp7, as, eD, el, hA⟩
    rw [List.length_map, lps] at el
    walk_at "go"
    intro c fc
    walk_at "go"
    intro l2 fl2
    walk_at "go"
    have eD2 : upd (upd H7 c (.tup [.int 0, .int 1])) l2 (.lst [.ref c]) Dl = some (.lst (as.map V.ref)) := at_upd (ne_new fl2 (at_upd (ne_new fc eD) eD)) (at_upd (ne_new fc eD) eD)
    refine x_cat eD2 upd_same (by simp [el]) fun p9 f9 => ?_
    walk_at "go"
    have c1 : upd (upd H7 c (.tup [.int 0, .int 1])) l2 (.lst [.ref c]) c = some (.tup [.int 0, .int 1]) := at_upd (ne_new fl2 upd_same) upd_same
    have kc : Kp [] H7 (upd (upd (upd H7 c (.tup [.int 0, .int 1])) l2 (.lst [.ref c])) p9 (.lst (as.map V.ref ++ [.ref c]))) := ((Kp.new fc).trans (Kp.new fl2)).trans (Kp.new f9)
    have c2 : upd (upd (upd H7 c (.tup [.int 0, .int 1])) l2 (.lst [.ref c])) p9 (.lst (as.map V.ref ++ [.ref c])) c = some (.tup [.int 0, .int 1]) := at_upd (ne_new f9 c1) c1
    have R8 : upd (upd (upd H7 c (.tup [.int 0, .int 1])) l2 (.lst [.ref c])) p9 (.lst (as.map V.ref ++ [.ref c])) p9 = some (.lst (as.map V.ref ++ [.ref c])) := upd_same
    generalize upd (upd (upd H7 c (.tup [.int 0, .int 1])) l2 (.lst [.ref c])) p9 (.lst (as.map V.ref ++ [.ref c])) = H8 at *
    have k8 := kp7.trans kc
    have R8' : H8 p9 = some (.lst ((as ++ [c]).map V.ref)) := by rw [R8, List.map_append]; rfl
    have RA8 : ∀ x ∈ as ++ [c], Rt H8 x := by
      intro x hx
      rcases List.mem_append.mp hx with hx | hx
      · exact (hA x hx).kp kc
      · rw [List.mem_singleton] at hx
        subst hx
        exact ⟨0, 1, c2, by decide, by decide, (show Bt 1 0 from (by decide : (0 : Nat) < 2 ^ 1)).mono (by decide), (show Bt 1 1 from (by decide : (1 : Nat) < 2 ^ 1)).mono (by decide)⟩
    have rl : (as ++ [c]).length = 4 := by simp [el]
    generalize as ++ [c] = rs at *
    have hget : ∀ j, j < 4 → ∃ o, (rs.map V.ref)[j]? = some (.ref o) ∧ o ∈ rs := fun j hj => by
      have hl : j < rs.length := by omega
      exact ⟨rs[j], by rw [List.getElem?_map, List.getElem?_eq_getElem hl]; rfl, List.getElem_mem hl⟩
    have L8 := k8 _ _ nil_mem L6'
    have PA8 : ∀ x ∈ ps, Pr H8 x := fun x hx => (PA6 x hx).kp k8
    refine l_rng (by decide) (fun _ s' H' => Kp [] H8 H' ∧ ∃ z3 z5 z6 z7 z8 z9, s' = [some (.ref a), some (.ref p), some (.ref l), z3, some (.ref p9), z5, z6, z7, z8, z9]) ⟨Kp.refl, _, _, _, _, _, _, rfl⟩ ?_ ?_
    · rintro turn s' H' ht ⟨kp, z3, z5, z6, z7, z8, z9, rfl⟩
      walk_at "go"
      intro c9 fc9
      walk_at "go"
      intro l9 fl9
      walk_at "go"
      have L9 : upd (upd H' c9 (.tup [.int 0, .int (-7)])) l9 (.lst [.ref c9]) l = some (.lst (ps.map V.ref)) := by
        have e := kp _ _ nil_mem L8
        have e1 : upd H' c9 (.tup [.int 0, .int (-7)]) l = some (.lst (ps.map V.ref)) := at_upd (ne_new fc9 e) e
        exact at_upd (ne_new fl9 e1) e1
      refine x_cat L9 upd_same (by simp [lps]) fun q9 fq9 => ?_
      have kc9 := ((Kp.new (M := []) (o := .tup [.int 0, .int (-7)]) fc9).trans (Kp.new (o := .lst [.ref c9]) fl9)).trans (Kp.new (o := .lst (ps.map V.ref ++ [.ref c9])) fq9)
      have c1 : upd (upd H' c9 (.tup [.int 0, .int (-7)])) l9 (.lst [.ref c9]) c9 = some (.tup [.int 0, .int (-7)]) := at_upd (ne_new fl9 upd_same) upd_same
      have Q9 : upd (upd (upd H' c9 (.tup [.int 0, .int (-7)])) l9 (.lst [.ref c9])) q9 (.lst (ps.map V.ref ++ [.ref c9])) q9 = some (.lst (ps.map V.ref ++ [.ref c9])) := upd_same
      have c2 : upd (upd (upd H' c9 (.tup [.int 0, .int (-7)])) l9 (.lst [.ref c9])) q9 (.lst (ps.map V.ref ++ [.ref c9])) c9 = some (.tup [.int 0, .int (-7)]) := at_upd (ne_new fq9 c1) c1
      generalize upd (upd (upd H' c9 (.tup [.int 0, .int (-7)])) l9 (.lst [.ref c9])) q9 (.lst (ps.map V.ref ++ [.ref c9])) = H9 at *
      have k9 := kp.trans kc9
      have Q9' : H9 q9 = some (.lst ((ps ++ [c9]).map V.ref)) := by rw [Q9, List.map_append]; rfl
      have PA9 : ∀ x ∈ ps ++ [c9], Pr H9 x := by
        intro x hx
        rcases List.mem_append.mp hx with hx | hx
        · exact (PA8 x hx).kp k9
        · rw [List.mem_singleton] at hx
          subst hx
          exact ⟨0, -7, c2, by decide, (show Bt 1 0 from (by decide : (0 : Nat) < 2 ^ 1)).mono (by decide), (show Bt 3 (-7) from (by decide : (7 : Nat) < 2 ^ 3)).mono (by decide)⟩
      generalize ps ++ [c9] = qs at *
      refine l_list (SqL.of Q9') (fun _ s' H' => Kp [] H9 H' ∧ ∃ z3 z6 z7 z8 z9, s' = [some (.ref a), some (.ref p), some (.ref l), z3, some (.ref p9), some (.int turn), z6, z7, z8, z9]) ⟨Kp.refl, _, _, _, _, _, rfl⟩ (fun _ _ _ _ m => SqL.of (m.1 _ _ nil_mem Q9')) ?_ ?_
      · rintro i x s' H' hx ⟨kp, z3, z6, z7, z8, z9, rfl⟩
        obtain ⟨o, rfl, ho⟩ := ref_of hx
        obtain ⟨u, v, eo, v0, bu, bv⟩ := (PA9 o ho).kp kp
        walk_at "go"
        refine go_oner (SqT.of eo) v0 bu bv fun H2 k2 => ?_
        walk_at "go"
        exact ⟨kp.trans k2, _, _, _, _, _, rfl⟩
      · rintro s' H' ⟨kp, z3, z6, z7, z8, z9, rfl⟩
        walk_at "go"
        have k10 := k9.trans kp
        refine l_list (SqL.of (k10 _ _ nil_mem R8')) (fun _ s' H' => Kp [] H8 H' ∧ ∃ z6 z7 z8 z9, s' = [some (.ref a), some (.ref p), some (.ref l), z3, some (.ref p9), some (.int turn), z6, z7, z8, z9]) ⟨k10, _, _, _, _, rfl⟩ (fun _ _ _ _ m => SqL.of (m.1 _ _ nil_mem R8')) ?_ ?_
        · rintro i x s' H' hx ⟨kp, z6, z7, z8, z9, rfl⟩
          obtain ⟨o, rfl, ho⟩ := ref_of hx
          walk_at "go"
          refine l_list (SqL.of (kp _ _ nil_mem R8')) (fun _ s' H' => Kp [] H8 H' ∧ ∃ z7 z8 z9, s' = [some (.ref a), some (.ref p), some (.ref l), z3, some (.ref p9), some (.int turn), some (.ref o), z7, z8, z9]) ⟨kp, _, _, _, rfl⟩ (fun _ _ _ _ m => SqL.of (m.1 _ _ nil_mem R8')) ?_ ?_
          · rintro i x s' H' hx ⟨kp, z7, z8, z9, rfl⟩
            obtain ⟨o2, rfl, ho2⟩ := ref_of hx
            obtain ⟨x1, y1, e1, h1⟩ := (RA8 o ho).kp kp
            obtain ⟨x2, y2, e2, h2⟩ := (RA8 o2 ho2).kp kp
            walk_at "go"
            refine x_I (Bt.mulW h1.bx h2.by_) ?_
            walk_at "go"
            refine x_I (Bt.mulW h2.bx h1.by_) ?_
            walk_at "go"
            refine go_ask (.inl ⟨o, o2, x1, y1, x2, y2, rfl, rfl, ⟨SqT.of e1, SqT.of e2, h1.bx.mono (by decide), h1.by_.mono (by decide), h2.bx.mono (by decide), h2.by_.mono (by decide)⟩, .inr (.inr (.inr (.inr ⟨rfl, fun p1 H2 k2 f2 => ?_⟩)))⟩)
            walk_at "go"
            intro t3 f3
            walk_at "go"
            refine go_same (e := .tuple [.str "told", .bool (decide (x1 * y2 < x2 * y1))]) (rr_bl (SqT.of (at_upd (ne_new f3 f2) f2))) (rr_bl (SqT.of upd_same)) (by simp [dep, depAll]) (by simp [wid, widAll]) fun b6 H6 k6 hb6 => ?_
            have b6' : b6 = true := hb6.mpr rfl
            subst b6'
            walk_at "go"
            exact ⟨((kp.trans k2).trans (Kp.new f3)).trans k6, _, _, _, rfl⟩
          · rintro s' H' ⟨kp, z7, z8, z9, rfl⟩
            walk_at "go"
            exact ⟨kp, _, _, _, _, rfl⟩
        · rintro s' H' ⟨kp, z6, z7, z8, z9, rfl⟩
          walk_at "go"
          refine l_rng (by decide) (fun _ s' H' => Kp [] H8 H' ∧ ∃ z6 z7 z8 z9, s' = [some (.ref a), some (.ref p), some (.ref l), z3, some (.ref p9), some (.int turn), z6, z7, z8, z9]) ⟨kp, _, _, _, _, rfl⟩ ?_ ?_
          · rintro kk s' H' hk ⟨kp, z6, z7, z8, z9, rfl⟩
            walk_at "go"
            obtain ⟨o1, g1, m1⟩ := hget kk (by omega)
            refine x_ixL (SqL.of (kp _ _ nil_mem R8')) (at_of (j := kk) rfl g1) ?_
            walk_at "go"
            obtain ⟨o2, g2, m2⟩ := hget (((kk : Int) + 1 + turn) % 4).toNat (by omega)
            refine x_ixL (SqL.of (kp _ _ nil_mem R8')) (at_of (by omega) g2) ?_
            walk_at "go"
            obtain ⟨x1, y1, e1, h1⟩ := (RA8 o1 m1).kp kp
            obtain ⟨x2, y2, e2, h2⟩ := (RA8 o2 m2).kp kp
            refine go_twor (SqT.of e1) (SqT.of e2) h1 h2 fun H2 k2 => ?_
            walk_at "go"
            exact ⟨kp.trans k2, _, _, _, _, rfl⟩
          · rintro s' H' ⟨kp, z6, z7, z8, z9, rfl⟩
            walk_at "go"
            exact ⟨kp, _, _, _, _, _, _, rfl⟩
    · rintro s' H' ⟨kp, z3, z5, z6, z7, z8, z9, rfl⟩
      walk_at "go"
      obtain ⟨o1, g1, m1⟩ := hget 0 (by decide)
      refine x_ixL (SqL.of (kp _ _ nil_mem R8')) (at_of (j := 0) rfl g1) ?_
      walk_at "go"
      refine x_ixL (SqL.of (kp _ _ nil_mem R8')) (at_of (j := 0) rfl g1) ?_
      walk_at "go"
      obtain ⟨x1, y1, e1, h1⟩ := (RA8 o1 m1).kp kp
      exact go_twor (SqT.of e1) (SqT.of e1) h1 h1 fun H2 _ => q H2
end
end LN
namespace LNH
open PySem PySem.Spec PyProof.Rows L2
theorem tops {P : Program} {w : World} {K : PySem.W.Frag} {h : Heap} {mg : Str → Option Value} {fl : Addr} (X : K.In h) (G : h.Ns mainGlobals mg) (hfa : mg ("law" : Str) = some (.ref fl)) (c : He.SaysX fa fn [] [] ex w h K) :
    ∃ fd : FuncData, (∀ (s : Shared) (v : Value), BindsTo s fd ⟨[v], []⟩ [("script", v)]) ∧ ∀ base : Heap, K.In base → base.Ns mainGlobals mg → FnOk P w K mg base CX0 8 fl fd ["script"] (LN.spLaw K) := by
  have d0 : He.SaysD fa fn K := c.t.d
  have g_NoBottom : mg "NoBottom" = some (.ref (He.ga K "NoBottom")) := He.glo_ok X G (d0.fact 31 (f := .glo "NoBottom") rfl)
  have g_NoDeed : mg "NoDeed" = some (.ref (He.ga K "NoDeed")) := He.glo_ok X G (d0.fact 32 (f := .glo "NoDeed") rfl)
  have g_StampTaken : mg "StampTaken" = some (.ref (He.ga K "StampTaken")) := He.glo_ok X G (d0.fact 33 (f := .glo "StampTaken") rfl)
  have g_BadStamp : mg "BadStamp" = some (.ref (He.ga K "BadStamp")) := He.glo_ok X G (d0.fact 34 (f := .glo "BadStamp") rfl)
  have g_BadDeed : mg "BadDeed" = some (.ref (He.ga K "BadDeed")) := He.glo_ok X G (d0.fact 35 (f := .glo "BadDeed") rfl)
  have g_NoPost : mg "NoPost" = some (.ref (He.ga K "NoPost")) := He.glo_ok X G (d0.fact 36 (f := .glo "NoPost") rfl)
  have g_LastName : mg "LastName" = some (.ref (He.ga K "LastName")) := He.glo_ok X G (d0.fact 37 (f := .glo "LastName") rfl)
  have g_Different : mg "Different" = some (.ref (He.ga K "Different")) := He.glo_ok X G (d0.fact 38 (f := .glo "Different") rfl)
  have g_Shared : mg "Shared" = some (.ref (He.ga K "Shared")) := He.glo_ok X G (d0.fact 39 (f := .glo "Shared") rfl)
  have g_Clash : mg "Clash" = some (.ref (He.ga K "Clash")) := He.glo_ok X G (d0.fact 40 (f := .glo "Clash") rfl)
  have g_NotNear : mg "NotNear" = some (.ref (He.ga K "NotNear")) := He.glo_ok X G (d0.fact 41 (f := .glo "NotNear") rfl)
  have g_NotObtainable : mg "NotObtainable" = some (.ref (He.ga K "NotObtainable")) := He.glo_ok X G (d0.fact 42 (f := .glo "NotObtainable") rfl)
  have g_NotLast : mg "NotLast" = some (.ref (He.ga K "NotLast")) := He.glo_ok X G (d0.fact 43 (f := .glo "NotLast") rfl)
  have g_NoPairing : mg "NoPairing" = some (.ref (He.ga K "NoPairing")) := He.glo_ok X G (d0.fact 44 (f := .glo "NoPairing") rfl)
  have g_BadBargain : mg "BadBargain" = some (.ref (He.ga K "BadBargain")) := He.glo_ok X G (d0.fact 45 (f := .glo "BadBargain") rfl)
  have g_NoBlock : mg "NoBlock" = some (.ref (He.ga K "NoBlock")) := He.glo_ok X G (d0.fact 46 (f := .glo "NoBlock") rfl)
  have g_BadSpan : mg "BadSpan" = some (.ref (He.ga K "BadSpan")) := He.glo_ok X G (d0.fact 47 (f := .glo "BadSpan") rfl)
  have g_OutOfRank : mg "OutOfRank" = some (.ref (He.ga K "OutOfRank")) := He.glo_ok X G (d0.fact 48 (f := .glo "OutOfRank") rfl)
  have g_Unfinished : mg "Unfinished" = some (.ref (He.ga K "Unfinished")) := He.glo_ok X G (d0.fact 49 (f := .glo "Unfinished") rfl)
  have g_BadStrike : mg "BadStrike" = some (.ref (He.ga K "BadStrike")) := He.glo_ok X G (d0.fact 50 (f := .glo "BadStrike") rfl)
  have g_BadSum : mg "BadSum" = some (.ref (He.ga K "BadSum")) := He.glo_ok X G (d0.fact 51 (f := .glo "BadSum") rfl)
  have g_TooMuch : mg "TooMuch" = some (.ref (He.ga K "TooMuch")) := He.glo_ok X G (d0.fact 52 (f := .glo "TooMuch") rfl)
  have g_BadTable : mg "BadTable" = some (.ref (He.ga K "BadTable")) := He.glo_ok X G (d0.fact 53 (f := .glo "BadTable") rfl)
  have g_BadSize : mg "BadSize" = some (.ref (He.ga K "BadSize")) := He.glo_ok X G (d0.fact 54 (f := .glo "BadSize") rfl)
  have g_BadOrder : mg "BadOrder" = some (.ref (He.ga K "BadOrder")) := He.glo_ok X G (d0.fact 55 (f := .glo "BadOrder") rfl)
  have g_BadStages : mg "BadStages" = some (.ref (He.ga K "BadStages")) := He.glo_ok X G (d0.fact 56 (f := .glo "BadStages") rfl)
  have g_BadSet : mg "BadSet" = some (.ref (He.ga K "BadSet")) := He.glo_ok X G (d0.fact 57 (f := .glo "BadSet") rfl)
  have g_BadWeaving : mg "BadWeaving" = some (.ref (He.ga K "BadWeaving")) := He.glo_ok X G (d0.fact 58 (f := .glo "BadWeaving") rfl)
  have g_TiedRanks : mg "TiedRanks" = some (.ref (He.ga K "TiedRanks")) := He.glo_ok X G (d0.fact 59 (f := .glo "TiedRanks") rfl)
  have g_BadChooser : mg "BadChooser" = some (.ref (He.ga K "BadChooser")) := He.glo_ok X G (d0.fact 60 (f := .glo "BadChooser") rfl)
  have g_Fallen : mg "Fallen" = some (.ref (He.ga K "Fallen")) := He.glo_ok X G (d0.fact 61 (f := .glo "Fallen") rfl)
  have g_Over : mg "Over" = some (.ref (He.ga K "Over")) := He.glo_ok X G (d0.fact 62 (f := .glo "Over") rfl)
  have g_Unknown : mg "Unknown" = some (.ref (He.ga K "Unknown")) := He.glo_ok X G (d0.fact 63 (f := .glo "Unknown") rfl)
  have g_Unequal : mg "Unequal" = some (.ref (He.ga K "Unequal")) := He.glo_ok X G (d0.fact 64 (f := .glo "Unequal") rfl)
  have g_BadPlace : mg "BadPlace" = some (.ref (He.ga K "BadPlace")) := He.glo_ok X G (d0.fact 65 (f := .glo "BadPlace") rfl)
  have g_BadRange : mg "BadRange" = some (.ref (He.ga K "BadRange")) := He.glo_ok X G (d0.fact 66 (f := .glo "BadRange") rfl)
  have g_BadRanking : mg "BadRanking" = some (.ref (He.ga K "BadRanking")) := He.glo_ok X G (d0.fact 67 (f := .glo "BadRanking") rfl)
  have g_BadShare : mg "BadShare" = some (.ref (He.ga K "BadShare")) := He.glo_ok X G (d0.fact 68 (f := .glo "BadShare") rfl)
  have g_Doubled : mg "Doubled" = some (.ref (He.ga K "Doubled")) := He.glo_ok X G (d0.fact 69 (f := .glo "Doubled") rfl)
  have g_BadWord : mg "BadWord" = some (.ref (He.ga K "BadWord")) := He.glo_ok X G (d0.fact 70 (f := .glo "BadWord") rfl)
  have g_TooMany : mg "TooMany" = some (.ref (He.ga K "TooMany")) := He.glo_ok X G (d0.fact 71 (f := .glo "TooMany") rfl)
  have g_Empty : mg "Empty" = some (.ref (He.ga K "Empty")) := He.glo_ok X G (d0.fact 72 (f := .glo "Empty") rfl)
  have g_BadLine : mg "BadLine" = some (.ref (He.ga K "BadLine")) := He.glo_ok X G (d0.fact 73 (f := .glo "BadLine") rfl)
  have g_OfficeError : mg "OfficeError" = some (.ref (He.ga K "OfficeError")) := He.glo_ok X G (d0.fact 74 (f := .glo "OfficeError") rfl)
  have g_int : mg "int" = none := He.free_ok X G (d0.fact 75 (f := .free "int") rfl)
  have g_len : mg "len" = none := He.free_ok X G (d0.fact 76 (f := .free "len") rfl)
  have g_list : mg "list" = none := He.free_ok X G (d0.fact 77 (f := .free "list") rfl)
  have g_abs : mg "abs" = none := He.free_ok X G (d0.fact 78 (f := .free "abs") rfl)
  have g_range : mg "range" = none := He.free_ok X G (d0.fact 79 (f := .free "range") rfl)
  have g_isinstance : mg "isinstance" = none := He.free_ok X G (d0.fact 80 (f := .free "isinstance") rfl)
  have g_bool : mg "bool" = none := He.free_ok X G (d0.fact 81 (f := .free "bool") rfl)
  have g_all : mg "all" = none := He.free_ok X G (d0.fact 82 (f := .free "all") rfl)
  have g_str : mg "str" = none := He.free_ok X G (d0.fact 83 (f := .free "str") rfl)
  have g_tuple : mg "tuple" = none := He.free_ok X G (d0.fact 84 (f := .free "tuple") rfl)
  have g_max : mg "max" = none := He.free_ok X G (d0.fact 85 (f := .free "max") rfl)
  have g_ValueError : mg "ValueError" = none := He.free_ok X G (d0.fact 86 (f := .free "ValueError") rfl)
  obtain ⟨fd_law_mix, F_law_mix⟩ := d0.def_ 0 (d := d_law_mix) rfl
  have h_law_mix : LN.DefAt K mg "_law_mix" ["one", "two"] LN.s_law_mix := ⟨_, fd_law_mix, He.glo_ok X G (d0.fact 0 (f := .glo "_law_mix") rfl), F_law_mix, F_law_mix.bindsN fun _ _ _ _ _ _ us hl => match us, hl with | [_, _], _ => rfl⟩
  obtain ⟨fd_law_store, F_law_store⟩ := d0.def_ 1 (d := d_law_store) rfl
  have h_law_store : LN.DefAt K mg "_law_store" ["script"] LN.s_law_store := ⟨_, fd_law_store, He.glo_ok X G (d0.fact 1 (f := .glo "_law_store") rfl), F_law_store, F_law_store.bindsN fun _ _ _ _ _ _ us hl => match us, hl with | [_], _ => rfl⟩
  obtain ⟨fd_law_take, F_law_take⟩ := d0.def_ 2 (d := d_law_take) rfl
  have h_law_take : LN.DefAt K mg "_law_take" ["store", "many"] LN.s_law_take := ⟨_, fd_law_take, He.glo_ok X G (d0.fact 2 (f := .glo "_law_take") rfl), F_law_take, F_law_take.bindsN fun _ _ _ _ _ _ us hl => match us, hl with | [_, _], _ => rfl⟩
  obtain ⟨fd_law_number, F_law_number⟩ := d0.def_ 3 (d := d_law_number) rfl
  have h_law_number : LN.DefAt K mg "_law_number" ["store", "many"] LN.s_law_number := ⟨_, fd_law_number, He.glo_ok X G (d0.fact 3 (f := .glo "_law_number") rfl), F_law_number, F_law_number.bindsN fun _ _ _ _ _ _ us hl => match us, hl with | [_, _], _ => rfl⟩
  obtain ⟨fd_law_between, F_law_between⟩ := d0.def_ 4 (d := d_law_between) rfl
  have h_law_between : LN.DefAt K mg "_law_between" ["store", "low", "high"] LN.s_law_between := ⟨_, fd_law_between, He.glo_ok X G (d0.fact 4 (f := .glo "_law_between") rfl), F_law_between, F_law_between.bindsN fun _ _ _ _ _ _ us hl => match us, hl with | [_, _, _], _ => rfl⟩
  obtain ⟨fd_law_pick, F_law_pick⟩ := d0.def_ 5 (d := d_law_pick) rfl
  have h_law_pick : LN.DefAt K mg "_law_pick" ["store", "row"] LN.s_law_pick := ⟨_, fd_law_pick, He.glo_ok X G (d0.fact 5 (f := .glo "_law_pick") rfl), F_law_pick, F_law_pick.bindsN fun _ _ _ _ _ _ us hl => match us, hl with | [_, _], _ => rfl⟩
  obtain ⟨fd_greatest_divisor, F_greatest_divisor⟩ := d0.def_ 6 (d := d_greatest_divisor) rfl
  have h_greatest_divisor : LN.DefAt K mg "greatest_divisor" ["one", "other"] LN.s_greatest_divisor := ⟨_, fd_greatest_divisor, He.glo_ok X G (d0.fact 6 (f := .glo "greatest_divisor") rfl), F_greatest_divisor, F_greatest_divisor.bindsN fun _ _ _ _ _ _ us hl => match us, hl with | [_, _], _ => rfl⟩
  obtain ⟨fd_ratio, F_ratio⟩ := d0.def_ 7 (d := d_ratio) rfl
  have h_ratio : LN.DefAt K mg "ratio" ["top", "bottom"] LN.s_ratio := ⟨_, fd_ratio, He.glo_ok X G (d0.fact 7 (f := .glo "ratio") rfl), F_ratio, F_ratio.bindsN fun _ _ _ _ _ _ us hl => match us, hl with | [_, _], _ => rfl⟩
  obtain ⟨fd_plus, F_plus⟩ := d0.def_ 8 (d := d_plus) rfl
  have h_plus : LN.DefAt K mg "plus" ["first", "second"] LN.s_plus := ⟨_, fd_plus, He.glo_ok X G (d0.fact 8 (f := .glo "plus") rfl), F_plus, F_plus.bindsN fun _ _ _ _ _ _ us hl => match us, hl with | [_, _], _ => rfl⟩
  obtain ⟨fd_minus, F_minus⟩ := d0.def_ 9 (d := d_minus) rfl
  have h_minus : LN.DefAt K mg "minus" ["first", "second"] LN.s_minus := ⟨_, fd_minus, He.glo_ok X G (d0.fact 9 (f := .glo "minus") rfl), F_minus, F_minus.bindsN fun _ _ _ _ _ _ us hl => match us, hl with | [_, _], _ => rfl⟩
  obtain ⟨fd_times, F_times⟩ := d0.def_ 10 (d := d_times) rfl
  have h_times : LN.DefAt K mg "times" ["first", "second"] LN.s_times := ⟨_, fd_times, He.glo_ok X G (d0.fact 10 (f := .glo "times") rfl), F_times, F_times.bindsN fun _ _ _ _ _ _ us hl => match us, hl with | [_, _], _ => rfl⟩
  obtain ⟨fd_divided, F_divided⟩ := d0.def_ 11 (d := d_divided) rfl
  have h_divided : LN.DefAt K mg "divided" ["first", "second"] LN.s_divided := ⟨_, fd_divided, He.glo_ok X G (d0.fact 11 (f := .glo "divided") rfl), F_divided, F_divided.bindsN fun _ _ _ _ _ _ us hl => match us, hl with | [_, _], _ => rfl⟩
  obtain ⟨fd_is_less, F_is_less⟩ := d0.def_ 12 (d := d_is_less) rfl
  have h_is_less : LN.DefAt K mg "is_less" ["first", "second"] LN.s_is_less := ⟨_, fd_is_less, He.glo_ok X G (d0.fact 12 (f := .glo "is_less") rfl), F_is_less, F_is_less.bindsN fun _ _ _ _ _ _ us hl => match us, hl with | [_, _], _ => rfl⟩
  obtain ⟨fd_is_whole, F_is_whole⟩ := d0.def_ 13 (d := d_is_whole) rfl
  have h_is_whole : LN.DefAt K mg "is_whole" ["first"] LN.s_is_whole := ⟨_, fd_is_whole, He.glo_ok X G (d0.fact 13 (f := .glo "is_whole") rfl), F_is_whole, F_is_whole.bindsN fun _ _ _ _ _ _ us hl => match us, hl with | [_], _ => rfl⟩
  obtain ⟨fd_floor_of, F_floor_of⟩ := d0.def_ 14 (d := d_floor_of) rfl
  have h_floor_of : LN.DefAt K mg "floor_of" ["first"] LN.s_floor_of := ⟨_, fd_floor_of, He.glo_ok X G (d0.fact 14 (f := .glo "floor_of") rfl), F_floor_of, F_floor_of.bindsN fun _ _ _ _ _ _ us hl => match us, hl with | [_], _ => rfl⟩
  obtain ⟨fd_law_gcd, F_law_gcd⟩ := d0.def_ 15 (d := d_law_gcd) rfl
  have h_law_gcd : LN.DefAt K mg "_law_gcd" ["one", "two"] LN.s_law_gcd := ⟨_, fd_law_gcd, He.glo_ok X G (d0.fact 15 (f := .glo "_law_gcd") rfl), F_law_gcd, F_law_gcd.bindsN fun _ _ _ _ _ _ us hl => match us, hl with | [_, _], _ => rfl⟩
  obtain ⟨fd_law_is_int, F_law_is_int⟩ := d0.def_ 16 (d := d_law_is_int) rfl
  have h_law_is_int : LN.DefAt K mg "_law_is_int" ["told"] LN.s_law_is_int := ⟨_, fd_law_is_int, He.glo_ok X G (d0.fact 16 (f := .glo "_law_is_int") rfl), F_law_is_int, F_law_is_int.bindsN fun _ _ _ _ _ _ us hl => match us, hl with | [_], _ => rfl⟩
  obtain ⟨fd_law_is_ints, F_law_is_ints⟩ := d0.def_ 17 (d := d_law_is_ints) rfl
  have h_law_is_ints : LN.DefAt K mg "_law_is_ints" ["told"] LN.s_law_is_ints := ⟨_, fd_law_is_ints, He.glo_ok X G (d0.fact 17 (f := .glo "_law_is_ints") rfl), F_law_is_ints, F_law_is_ints.bindsN fun _ _ _ _ _ _ us hl => match us, hl with | [_], _ => rfl⟩
  obtain ⟨fd_law_same, F_law_same⟩ := d0.def_ 18 (d := d_law_same) rfl
  have h_law_same : LN.DefAt K mg "_law_same" ["told", "due"] LN.s_law_same := ⟨_, fd_law_same, He.glo_ok X G (d0.fact 18 (f := .glo "_law_same") rfl), F_law_same, F_law_same.bindsN fun _ _ _ _ _ _ us hl => match us, hl with | [_, _], _ => rfl⟩
  obtain ⟨fd_law_lowest, F_law_lowest⟩ := d0.def_ 19 (d := d_law_lowest) rfl
  have h_law_lowest : LN.DefAt K mg "_law_lowest" ["top", "bottom"] LN.s_law_lowest := ⟨_, fd_law_lowest, He.glo_ok X G (d0.fact 19 (f := .glo "_law_lowest") rfl), F_law_lowest, F_law_lowest.bindsN fun _ _ _ _ _ _ us hl => match us, hl with | [_, _], _ => rfl⟩
  obtain ⟨fd_law_is_ratio, F_law_is_ratio⟩ := d0.def_ 20 (d := d_law_is_ratio) rfl
  have h_law_is_ratio : LN.DefAt K mg "_law_is_ratio" ["told"] LN.s_law_is_ratio := ⟨_, fd_law_is_ratio, He.glo_ok X G (d0.fact 20 (f := .glo "_law_is_ratio") rfl), F_law_is_ratio, F_law_is_ratio.bindsN fun _ _ _ _ _ _ us hl => match us, hl with | [_], _ => rfl⟩
  obtain ⟨fd_law_ratio_pair, F_law_ratio_pair⟩ := d0.def_ 21 (d := d_law_ratio_pair) rfl
  have h_law_ratio_pair : LN.DefAt K mg "_law_ratio_pair" ["store"] LN.s_law_ratio_pair := ⟨_, fd_law_ratio_pair, He.glo_ok X G (d0.fact 21 (f := .glo "_law_ratio_pair") rfl), F_law_ratio_pair, F_law_ratio_pair.bindsN fun _ _ _ _ _ _ us hl => match us, hl with | [_], _ => rfl⟩
  obtain ⟨fd_law_drawn_pair, F_law_drawn_pair⟩ := d0.def_ 22 (d := d_law_drawn_pair) rfl
  have h_law_drawn_pair : LN.DefAt K mg "_law_drawn_pair" ["store"] LN.s_law_drawn_pair := ⟨_, fd_law_drawn_pair, He.glo_ok X G (d0.fact 22 (f := .glo "_law_drawn_pair") rfl), F_law_drawn_pair, F_law_drawn_pair.bindsN fun _ _ _ _ _ _ us hl => match us, hl with | [_], _ => rfl⟩
  obtain ⟨fd_law_near_pair, F_law_near_pair⟩ := d0.def_ 23 (d := d_law_near_pair) rfl
  have h_law_near_pair : LN.DefAt K mg "_law_near_pair" ["store", "pair"] LN.s_law_near_pair := ⟨_, fd_law_near_pair, He.glo_ok X G (d0.fact 23 (f := .glo "_law_near_pair") rfl), F_law_near_pair, F_law_near_pair.bindsN fun _ _ _ _ _ _ us hl => match us, hl with | [_, _], _ => rfl⟩
  obtain ⟨fd_law_refused, F_law_refused⟩ := d0.def_ 24 (d := d_law_refused) rfl
  have h_law_refused : LN.DefAt K mg "_law_refused" ["caught"] LN.s_law_refused := ⟨_, fd_law_refused, He.glo_ok X G (d0.fact 24 (f := .glo "_law_refused") rfl), F_law_refused, F_law_refused.bindsN fun _ _ _ _ _ _ us hl => match us, hl with | [_], _ => rfl⟩
  obtain ⟨fd_law_ask, F_law_ask⟩ := d0.def_ 25 (d := d_law_ask) rfl
  have h_law_ask : LN.DefAt K mg "_law_ask" ["deed", "one", "two"] LN.s_law_ask := ⟨_, fd_law_ask, He.glo_ok X G (d0.fact 25 (f := .glo "_law_ask") rfl), F_law_ask, F_law_ask.bindsN fun _ _ _ _ _ _ us hl => match us, hl with | [_, _, _], _ => rfl⟩
  obtain ⟨fd_law_is_worth, F_law_is_worth⟩ := d0.def_ 26 (d := d_law_is_worth) rfl
  have h_law_is_worth : LN.DefAt K mg "_law_is_worth" ["told", "top", "bottom"] LN.s_law_is_worth := ⟨_, fd_law_is_worth, He.glo_ok X G (d0.fact 26 (f := .glo "_law_is_worth") rfl), F_law_is_worth, F_law_is_worth.bindsN fun _ _ _ _ _ _ us hl => match us, hl with | [_, _, _], _ => rfl⟩
  obtain ⟨fd_law_is_floor, F_law_is_floor⟩ := d0.def_ 27 (d := d_law_is_floor) rfl
  have h_law_is_floor : LN.DefAt K mg "_law_is_floor" ["told", "one"] LN.s_law_is_floor := ⟨_, fd_law_is_floor, He.glo_ok X G (d0.fact 27 (f := .glo "_law_is_floor") rfl), F_law_is_floor, F_law_is_floor.bindsN fun _ _ _ _ _ _ us hl => match us, hl with | [_, _], _ => rfl⟩
  obtain ⟨fd_law_two_right, F_law_two_right⟩ := d0.def_ 28 (d := d_law_two_right) rfl
  have h_law_two_right : LN.DefAt K mg "_law_two_right" ["one", "two"] LN.s_law_two_right := ⟨_, fd_law_two_right, He.glo_ok X G (d0.fact 28 (f := .glo "_law_two_right") rfl), F_law_two_right, F_law_two_right.bindsN fun _ _ _ _ _ _ us hl => match us, hl with | [_, _], _ => rfl⟩
  obtain ⟨fd_law_one_right, F_law_one_right⟩ := d0.def_ 29 (d := d_law_one_right) rfl
  have h_law_one_right : LN.DefAt K mg "_law_one_right" ["pair"] LN.s_law_one_right := ⟨_, fd_law_one_right, He.glo_ok X G (d0.fact 29 (f := .glo "_law_one_right") rfl), F_law_one_right, F_law_one_right.bindsN fun _ _ _ _ _ _ us hl => match us, hl with | [_], _ => rfl⟩
  obtain ⟨fd_law, F_law⟩ := d0.def_ 30 (d := d_law) rfl
  have e := hfa.symm.trans (He.glo_ok X G (d0.fact 30 (f := .glo "law") rfl))
  cases e
  have b_law := FunD.bindsA (ps := ["script"]) F_law fun _ _ _ _ _ _ us hl => match us, hl with | [_], _ => rfl
  have X_NoBottom := LN.ex0_ok X G (d0.fact 87 (f := .exc "NoBottom") rfl) (d0.fact 31 (f := .glo "NoBottom") rfl)
  have hm_NoBottom := He.exm_ok (d0.fact 88 (f := .exm "NoBottom" "OfficeError" true) rfl)
  have hx : (LN.kitNN K "NoBottom" "NoBottom" true && LN.kitNA K "NoBottom" ((["BadLine", "Empty", "TooMany", "BadWord", "Doubled", "BadShare", "BadRanking", "BadRange", "BadPlace", "Unequal", "Unknown", "Over"] : List PySem.Str) ++ (["Fallen", "BadChooser", "TiedRanks", "BadWeaving", "BadSet", "BadStages", "BadOrder", "BadSize", "BadTable", "TooMuch", "BadSum", "BadStrike"] : List PySem.Str) ++ (["Unfinished", "OutOfRank", "BadSpan", "NoBlock", "BadBargain", "NoPairing", "NotLast", "NotObtainable", "NotNear", "Clash", "Shared", "Different"] : List PySem.Str) ++ (["LastName", "NoPost", "BadDeed", "BadStamp", "StampTaken", "NoDeed"] : List PySem.Str)) false && LN.kitNN K "NoBottom" "OfficeError" true && LN.kitNT K "NoBottom" "ValueError" true && LN.excB K "NoBottom") = true := c.more
  simp only [Bool.and_eq_true] at hx
  obtain ⟨⟨⟨⟨k1_NoBottomb, k2_NoBottomb⟩, k3_NoBottomb⟩, k4_NoBottomb⟩, XC_NoBottomb⟩ := hx
  have k1_NoBottom := of_decide_eq_true k1_NoBottomb
  have k2_NoBottom := of_decide_eq_true k2_NoBottomb
  have k3_NoBottom := of_decide_eq_true k3_NoBottomb
  have k4_NoBottom := of_decide_eq_true k4_NoBottomb
  have XC_NoBottom := LN.excB_ok XC_NoBottomb
  refine ⟨fd_law, fun s v => b_law s [v] rfl, fun base _ _ => ?_⟩
  have D_law_mix := LN.ok_law_mix (P := P) (w := w) (K := K) (mg := mg) (base := base) (k := 0) (h := h_law_mix) (g_int := g_int)
  have D_law_store := LN.ok_law_store (P := P) (w := w) (K := K) (mg := mg) (base := base) (k := 1) (h := h_law_store) (g_len := g_len) (g_list := g_list) (D_law_mix := D_law_mix)
  have D_law_take := LN.ok_law_take (P := P) (w := w) (K := K) (mg := mg) (base := base) (k := 1) (h := h_law_take) (g_len := g_len) (g_abs := g_abs) (g_int := g_int) (D_law_mix := D_law_mix)
  have D_law_number := LN.ok_law_number (P := P) (w := w) (K := K) (mg := mg) (base := base) (k := 2) (h := h_law_number) (g_range := g_range) (D_law_take := D_law_take)
  have D_law_between := LN.ok_law_between (P := P) (w := w) (K := K) (mg := mg) (base := base) (k := 3) (h := h_law_between) (D_law_number := D_law_number)
  have D_law_pick := LN.ok_law_pick (P := P) (w := w) (K := K) (mg := mg) (base := base) (k := 2) (h := h_law_pick) (g_len := g_len) (D_law_take := D_law_take)
  have D_greatest_divisor := LN.ok_greatest_divisor (P := P) (w := w) (K := K) (mg := mg) (base := base) (k := 0) (h := h_greatest_divisor) (g_abs := g_abs)
  have D_ratio := LN.ok_ratio (P := P) (w := w) (K := K) (mg := mg) (base := base) (k := 1) (h := h_ratio) (X_NoBottom := X_NoBottom) (D_greatest_divisor := D_greatest_divisor)
  have D_plus := LN.ok_plus (P := P) (w := w) (K := K) (mg := mg) (base := base) (k := 2) (h := h_plus) (D_ratio := D_ratio)
  have D_minus := LN.ok_minus (P := P) (w := w) (K := K) (mg := mg) (base := base) (k := 2) (h := h_minus) (D_ratio := D_ratio)
  have D_times := LN.ok_times (P := P) (w := w) (K := K) (mg := mg) (base := base) (k := 2) (h := h_times) (D_ratio := D_ratio)
  have D_divided := LN.ok_divided (P := P) (w := w) (K := K) (mg := mg) (base := base) (k := 2) (h := h_divided) (D_ratio := D_ratio)
  have D_is_less := LN.ok_is_less (P := P) (w := w) (K := K) (mg := mg) (base := base) (k := 0) (h := h_is_less)
  have D_is_whole := LN.ok_is_whole (P := P) (w := w) (K := K) (mg := mg) (base := base) (k := 0) (h := h_is_whole)
  have D_floor_of := LN.ok_floor_of (P := P) (w := w) (K := K) (mg := mg) (base := base) (k := 0) (h := h_floor_of)
  have D_law_gcd := LN.ok_law_gcd (P := P) (w := w) (K := K) (mg := mg) (base := base) (k := 0) (h := h_law_gcd) (g_abs := g_abs) (g_int := g_int) (g_range := g_range)
  have D_law_is_int := LN.ok_law_is_int (P := P) (w := w) (K := K) (mg := mg) (base := base) (k := 0) (h := h_law_is_int) (g_isinstance := g_isinstance) (g_int := g_int) (g_bool := g_bool)
  have D_law_is_ints := LN.ok_law_is_ints (P := P) (w := w) (K := K) (mg := mg) (base := base) (k := 1) (h := h_law_is_ints) (g_isinstance := g_isinstance) (g_list := g_list) (g_all := g_all) (D_law_is_int := D_law_is_int)
  have D_law_same := LN.ok_law_same (P := P) (w := w) (K := K) (mg := mg) (base := base) h_law_same g_isinstance g_bool g_int g_str g_list g_tuple g_len g_range 3
  have D_law_lowest := LN.ok_law_lowest (P := P) (w := w) (K := K) (mg := mg) (base := base) (k := 1) (h := h_law_lowest) (D_law_gcd := D_law_gcd)
  have D_law_is_ratio := LN.ok_law_is_ratio (P := P) (w := w) (K := K) (mg := mg) (base := base) (k := 2) (h := h_law_is_ratio) (g_isinstance := g_isinstance) (g_tuple := g_tuple) (g_len := g_len) (g_list := g_list) (D_law_is_ints := D_law_is_ints) (D_law_gcd := D_law_gcd.mono (by decide))
  have D_law_ratio_pair := LN.ok_law_ratio_pair (P := P) (w := w) (K := K) (mg := mg) (base := base) (k := 4) (h := h_law_ratio_pair) (D_law_take := D_law_take.mono (by decide)) (D_law_number := D_law_number.mono (by decide)) (D_law_between := D_law_between)
  have D_law_drawn_pair := LN.ok_law_drawn_pair (P := P) (w := w) (K := K) (mg := mg) (base := base) (k := 5) (h := h_law_drawn_pair) (D_law_ratio_pair := D_law_ratio_pair) (D_law_take := D_law_take.mono (by decide)) (D_law_number := D_law_number.mono (by decide)) (D_law_between := D_law_between.mono (by decide)) (D_law_pick := D_law_pick.mono (by decide))
  have D_law_near_pair := LN.ok_law_near_pair (P := P) (w := w) (K := K) (mg := mg) (base := base) (k := 6) (h := h_law_near_pair) (g_max := g_max) (g_abs := g_abs) (D_law_take := D_law_take.mono (by decide)) (D_law_drawn_pair := D_law_drawn_pair)
  have D_law_refused := LN.ok_law_refused (P := P) (w := w) (K := K) (mg := mg) (base := base) (k := 3) (h := h_law_refused) (g_isinstance := g_isinstance) (g_ValueError := g_ValueError) (g_len := g_len) (g_NoBottom := g_NoBottom) (g_NoDeed := g_NoDeed) (g_StampTaken := g_StampTaken) (g_BadStamp := g_BadStamp) (g_BadDeed := g_BadDeed) (g_NoPost := g_NoPost) (g_LastName := g_LastName) (g_Different := g_Different) (g_Shared := g_Shared) (g_Clash := g_Clash) (g_NotNear := g_NotNear) (g_NotObtainable := g_NotObtainable) (g_NotLast := g_NotLast) (g_NoPairing := g_NoPairing) (g_BadBargain := g_BadBargain) (g_NoBlock := g_NoBlock) (g_BadSpan := g_BadSpan) (g_OutOfRank := g_OutOfRank) (g_Unfinished := g_Unfinished) (g_BadStrike := g_BadStrike) (g_BadSum := g_BadSum) (g_TooMuch := g_TooMuch) (g_BadTable := g_BadTable) (g_BadSize := g_BadSize) (g_BadOrder := g_BadOrder) (g_BadStages := g_BadStages) (g_BadSet := g_BadSet) (g_BadWeaving := g_BadWeaving) (g_TiedRanks := g_TiedRanks) (g_BadChooser := g_BadChooser) (g_Fallen := g_Fallen) (g_Over := g_Over) (g_Unknown := g_Unknown) (g_Unequal := g_Unequal) (g_BadPlace := g_BadPlace) (g_BadRange := g_BadRange) (g_BadRanking := g_BadRanking) (g_BadShare := g_BadShare) (g_Doubled := g_Doubled) (g_BadWord := g_BadWord) (g_TooMany := g_TooMany) (g_Empty := g_Empty) (g_BadLine := g_BadLine) (g_OfficeError := g_OfficeError) (XC := XC_NoBottom) (k1 := k1_NoBottom) (k2 := k2_NoBottom) (k3 := k3_NoBottom) (k4 := k4_NoBottom)
  have D_law_ask := LN.ok_law_ask (P := P) (w := w) (K := K) (mg := mg) (base := base) (k := 4) (h := h_law_ask) (g_OfficeError := g_OfficeError) (hm := hm_NoBottom) (D_plus := D_plus.mono (by decide)) (D_minus := D_minus.mono (by decide)) (D_times := D_times.mono (by decide)) (D_divided := D_divided.mono (by decide)) (D_is_less := D_is_less.mono (by decide)) (D_is_whole := D_is_whole.mono (by decide)) (D_floor_of := D_floor_of.mono (by decide)) (D_ratio := D_ratio.mono (by decide)) (D_law_refused := D_law_refused)
  have D_law_is_worth := LN.ok_law_is_worth (P := P) (w := w) (K := K) (mg := mg) (base := base) (k := 3) (h := h_law_is_worth) (D_law_is_ratio := D_law_is_ratio)
  have D_law_is_floor := LN.ok_law_is_floor (P := P) (w := w) (K := K) (mg := mg) (base := base) (k := 1) (h := h_law_is_floor) (D_law_is_int := D_law_is_int)
  have D_law_two_right := LN.ok_law_two_right (P := P) (w := w) (K := K) (mg := mg) (base := base) (k := 5) (h := h_law_two_right) (D_law_is_worth := D_law_is_worth.mono (by decide)) (D_law_ask := D_law_ask) (D_law_same := D_law_same.mono (by decide))
  have D_law_one_right := LN.ok_law_one_right (P := P) (w := w) (K := K) (mg := mg) (base := base) (k := 5) (h := h_law_one_right) (D_law_lowest := D_law_lowest.mono (by decide)) (D_law_ask := D_law_ask) (D_law_same := D_law_same.mono (by decide)) (D_law_is_floor := D_law_is_floor.mono (by decide))
  exact LN.ok_law (P := P) (w := w) (K := K) (mg := mg) (base := base) (k := 7) (h := F_law) (g_range := g_range) (D_law_store := D_law_store.mono (by decide)) (D_law_drawn_pair := D_law_drawn_pair.mono (by decide)) (D_law_near_pair := D_law_near_pair) (D_law_lowest := D_law_lowest.mono (by decide)) (D_law_one_right := D_law_one_right.mono (by decide)) (D_law_same := D_law_same.mono (by decide)) (D_law_ask := D_law_ask.mono (by decide)) (D_law_two_right := D_law_two_right.mono (by decide))
end LNH
open PySem PySem.W PySem.Calls PyProof.Rows
set_option maxHeartbeats 0
theorem PySem.Challenge.cw_lastnamed_k23_ratios_crosswise_holds : PySem.Challenge.rw_lastnamed_k23_ratios_crosswise.Holds := by
  w_on; o_law
  refine HandSHeadRun.head_any (r := OpenLaw.row PySem.Challenge.rw_lastnamed_k23_ratios_crosswise) (q := view (OpenLaw.row PySem.Challenge.rw_lastnamed_k23_ratios_crosswise).prog [77]) (H := LNH.hk) (ob := LNH.ob) (M := 20000) (loose := LNH.names) (d := HandSHeadRun.topDef (OpenLaw.row PySem.Challenge.rw_lastnamed_k23_ratios_crosswise).prog 77) (kwd := []) LNH.ob_eq
    (by kernel_rfl) (fun s => by kernel_rfl) LNH.run (by kernel_rfl) (by kernel_rfl) (by kernel_rfl) (by rfl) (by first | assumption | decide +kernel) (by decide +kernel) ⟨rfl, rfl, rfl, rfl, rfl, by decide +kernel⟩ ?hw ?hc
  case hw => w_witness2
  case hc =>
    refine L2.walk_ofE (l := PySem.Challenge.rw_lastnamed_k23_ratios_crosswise) (n := 63) (k := 8) (x := "script") (CX := L2.CX0) rfl (by decide) (by kernel_rfl) ⟨rfl, by decide, by decide⟩ ?F (fun _ _ _ _ z => z)
    intro w mg fa h Y G hmg0
    obtain ⟨K, KX, c⟩ := Y
    have hmg : mg ("law" : PySem.Str) = some (.ref fa) := by
      have e : (HandSHeadRun.topDef (OpenLaw.row PySem.Challenge.rw_lastnamed_k23_ratios_crosswise).prog 77).name = ("law" : PySem.Str) := by kernel_rfl
      rw [← e]
      exact hmg0
    obtain ⟨fd, hb, hF⟩ := LNH.tops (P := PySem.Challenge.rw_lastnamed_k23_ratios_crosswise.prog) (w := w) KX G hmg c
    exact ⟨K, fd, LN.spLaw K, KX, hb, fun H a ns hl _ hS => ⟨a, ns, rfl, hS, fun _ => rfl⟩, hF⟩
