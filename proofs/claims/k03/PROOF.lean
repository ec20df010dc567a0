import PyProof.Rows.All
import Wide.All
import OpenK.AllK
import Wide.FinOn
import HandS.ForMost
import HandS.ForExc
import HandS.Wide
import HandS.IsInst
import HandS.Defaults
import HandS.Flow
import HandS.Codes
import HandS.ExcIs
import HandS.ExcField
import HandS.ExcInit
import KE.KExcIs
import HandS.HotCalls
import HandS.SetFor
import HandS.HeadHook1
import HandS.HeadHook2
import HandS.HeadHook3
import HandS.HeadHook4
import KE.KStateDown
import HandS.Head0
import HandS.Head1
import HandS.Head2
import HandS.HeadEnd
import PySem.Challenge.RW_lastnamed_k03_evened
set_option Elab.async false
set_option linter.all false
set_option maxRecDepth 100000
set_option maxHeartbeats 1000000
set_option Elab.async false
set_option linter.all false
set_option maxRecDepth 100000
namespace LN
open PySem PySem.Spec PyProof.Rows L2
abbrev St := L2.St
/-! ### slots -/
inductive GetAt : St → Nat → V → Prop
  | zero {l v} : GetAt (some v :: l) 0 v
  | succ {l i v x} : GetAt l i v → GetAt (x :: l) (i + 1) v
theorem GetAt.eq {s i v} (h : GetAt s i v) : s[i]? = some (some v) := by
  induction h with
  | zero => rfl
  | succ _ ih => simpa using ih
inductive SetTo {A : Type} : List A → Nat → A → List A → Prop
  | zero {x l v} : SetTo (x :: l) 0 v (v :: l)
  | succ {l i v x r} : SetTo l i v r → SetTo (x :: l) (i + 1) v (x :: r)
theorem SetTo.eq {A : Type} {s : List A} {i v r} (h : SetTo s i v r) : s.set i v = r := by
  induction h with
  | zero => rfl
  | succ _ ih => simp [ih]
theorem SetTo.lt {A : Type} {s : List A} {i v r} (h : SetTo s i v r) : i < s.length := by
  induction h with
  | zero => simp
  | succ _ ih => simpa using ih
inductive StartTo : List Str → List V → St → Prop
  | nil : StartTo [] [] []
  | non {x N s} : StartTo N [] s → StartTo (x :: N) [] (none :: s)
  | cons {x N v vs s} : StartTo N vs s → StartTo (x :: N) (v :: vs) (some v :: s)
theorem StartTo.eq {N vs s} (h : StartTo N vs s) : L2.start N vs = s := by
  unfold L2.start
  induction h with
  | nil => rfl
  | @non x N s _ ih =>
    simp only [List.map_nil, List.length_nil, Nat.sub_zero, List.nil_append, List.length_cons] at ih ⊢
    rw [List.replicate_succ, ih]
  | @cons x N v vs s _ ih =>
    simp only [List.map_cons, List.length_cons, Nat.add_sub_add_right, List.cons_append]
    rw [ih]
/-! ### keeping: all but the objects of M stand as they stood -/
def Kp (M : List Addr) (H H' : Hp) : Prop := ∀ b o, b ∉ M → H b = some o → H' b = some o
theorem Kp.refl {M H} : Kp M H H := fun _ _ _ h => h
theorem Kp.trans {M H H1 H2} (a : Kp M H H1) (b : Kp M H1 H2) : Kp M H H2 := fun x o n h => b x o n (a x o n h)
theorem Kp.mono {M M' H H'} (a : Kp M H H') (s : ∀ x, x ∈ M → x ∈ M') : Kp M' H H' := fun x o n h => a x o (fun z => n (s x z)) h
theorem Kp.any {M H H'} (a : Kp [] H H') : Kp M H H' := fun x o _ h => a x o (by simp) h
theorem Kp.get {M H H' b o} (a : Kp M H H') (n : b ∉ M) (h : H b = some o) : H' b = some o := a b o n h
theorem Kp.new {M H p o} (h : H p = none) : Kp M H (upd H p o) := fun b u _ e => by
  rw [upd_ne (ne_of_none e h)]
  exact e
theorem Kp.put {M H p o} (h : p ∈ M) : Kp M H (upd H p o) := fun b u n e => by
  rw [upd_ne (fun z => n (by rw [z]; exact h))]
  exact e
/-- a change at an object that the first heap did not know -/
theorem Kp.mut {M H H' p o} (a : Kp M H H') (h : H p = none) : Kp M H (upd H' p o) := fun b u n e => by
  rw [upd_ne (ne_of_none e h)]
  exact a b u n e
theorem Kp.putR {M H H' p o} (a : Kp M H H') (h : p ∈ M) : Kp M H (upd H' p o) := a.trans (Kp.put h)
/-- free in the later heap: free in the elder one (where it is no object of M) -/
theorem Kp.free {M H H' p} (a : Kp M H H') (n : p ∉ M) (h : H' p = none) : H p = none := by
  cases e : H p with
  | none => rfl
  | some o =>
    rw [a p o n e] at h
    cases h
theorem Kp.freeS {M H H' p} (a : Kp M H H') (hM : ∀ x, x ∈ M → ∃ o, H' x = some o) (h : H' p = none) : H p = none :=
  a.free (fun z => by
    obtain ⟨o, e⟩ := hM p z
    rw [h] at e
    cases e) h
theorem Kp.sq {K M H H' a xs} (k : Kp M H H') (n : a ∉ M) (h : SqL K H a xs) : SqL K H' a xs := by
  rcases h with (h | ⟨o, h⟩) | h
  · exact .inl (.inl (k _ _ n h))
  · exact .inl (.inr ⟨o, k _ _ n h⟩)
  · exact .inr h
theorem Kp.st {K M H H' a xs} (k : Kp M H H') (n : a ∉ M) (h : SqT K H a xs) : SqT K H' a xs := by
  rcases h with (h | ⟨o, h⟩) | h
  · exact .inl (.inl (k _ _ n h))
  · exact .inl (.inr ⟨o, k _ _ n h⟩)
  · exact .inr h
theorem nil_mem {a : Addr} : a ∉ ([] : List Addr) := by simp
theorem one_mem {a b : Addr} (h : a ≠ b) : a ∉ ([b] : List Addr) := by simpa using h
theorem two_mem {a b c : Addr} (h : a ≠ b) (h' : a ≠ c) : a ∉ ([b, c] : List Addr) := by simp [h, h']
theorem at_upd {H : Hp} {a b : Addr} {o u : HO} (n : a ≠ b) (h : H a = some o) : upd H b u a = some o := by
  rw [upd_ne n]
  exact h
theorem free_upd {H : Hp} {a b : Addr} {u : HO} (h : upd H b u a = none) : H a = none ∧ a ≠ b := by
  by_cases e : a = b
  · subst e
    rw [upd_same] at h
    cases h
  · rw [upd_ne e] at h
    exact ⟨h, e⟩
theorem sq_new {K} {H : Hp} {a b : Addr} {u : HO} {xs} (n : H b = none) (h : SqL K H a xs) : SqL K (upd H b u) a xs := (Kp.new (M := []) n).sq nil_mem h
theorem st_new {K} {H : Hp} {a b : Addr} {u : HO} {xs} (n : H b = none) (h : SqT K H a xs) : SqT K (upd H b u) a xs := (Kp.new (M := []) n).st nil_mem h
theorem sq_upd {K} {H : Hp} {a b : Addr} {u : HO} {xs} (n : a ≠ b) (h : SqL K H a xs) : SqL K (upd H b u) a xs := (Kp.put (M := [b]) (by simp)).sq (one_mem n) h
theorem st_upd {K} {H : Hp} {a b : Addr} {u : HO} {xs} (n : a ≠ b) (h : SqT K H a xs) : SqT K (upd H b u) a xs := (Kp.put (M := [b]) (by simp)).st (one_mem n) h
theorem ne_new {H : Hp} {a b : Addr} {o : HO} (h : H b = none) (h' : H a = some o) : a ≠ b := ne_of_none h' h
theorem ne_new' {H : Hp} {a b : Addr} {o : HO} (h : H b = none) (h' : H a = some o) : b ≠ a := (ne_of_none h' h).symm
theorem ix_tupB {X : Cx} {K : PySem.W.Frag} (e : X.K = K := by rfl) : IxR X (rIxT K) := by subst e; exact ix_tup
theorem ix_listB {X : Cx} {K : PySem.W.Frag} (e : X.K = K := by rfl) : IxR X (rIxL K) := by subst e; exact ix_list
/-! ### a def of the text, as callers meet it -/
def Okk (P : Program) (w : World) (K : PySem.W.Frag) (mg : Str → Option Value) (base : Heap) (CX : CXT) (k : Nat) (x : Str) (ps : List Str) (sp : Sp) : Prop :=
  ∃ f fd, mg x = some (.ref f) ∧ PySem.W.keepIn K (.ref f) = true ∧ Binds K fd ps [] ∧ FnOk P w K mg base CX k f fd ps sp
def DefAt (K : PySem.W.Frag) (mg : Str → Option Value) (x : Str) (ps : List Str) (st : Stmt) : Prop :=
  ∃ f fd, mg x = some (.ref f) ∧ FunD K x x (defArgs st) (defBody st) (defScope st) [] [] f fd ∧ Binds K fd ps []
section
variable {P : Program} {w : World} {K : PySem.W.Frag} {mg : Str → Option Value} {base : Heap} {CX : CXT}
theorem Okk.mono {j k : Nat} {x : Str} {ps : List Str} {sp : Sp} (h : Okk P w K mg base CX j x ps sp) (l : j ≤ k) : Okk P w K mg base CX k x ps sp := by
  obtain ⟨f, fd, a, b, c, d⟩ := h
  exact ⟨f, fd, a, b, c, d.mono l⟩
theorem Okk.imp {k : Nat} {x : Str} {ps : List Str} {sp sp' : Sp} (h : Okk P w K mg base CX k x ps sp) (l : ∀ vs H Q E, sp' vs H Q E → sp vs H Q E) : Okk P w K mg base CX k x ps sp' := by
  obtain ⟨f, fd, a, b, c, d⟩ := h
  exact ⟨f, fd, a, b, c, d.imp l⟩
/-- THE RULE for a def's body, the slots written out -/
theorem DefAt.ok {x : Str} {ps N : List Str} {st : Stmt} {k : Nat} {sp : Sp} (h : DefAt K mg x ps st) (S : FnScope N ps (defScope st)) (len : ∀ vs H Q E, sp vs H Q E → vs.length = ps.length)
    (hb : ∀ (cdv : Value) (f : Addr) (A : Around) (outer : List Env) (s : Shared) (H : Hp) (vs : List V) (Q : VK) (E : XK), Room k (A.deeper (envOfC x (defScope st) s.heap.objs.size f cdv)) → sp vs H Q E →
      ∃ t, PSs (cxOf CX P w K mg base N x (defScope st) f cdv A outer s H E).nox (defBody st) t ∧ ∃ sg, StartTo N vs sg ∧ t { nx := fun _ H' => Q .non H', rt := Q } sg H) : Okk P w K mg base CX (k + 1) x ps sp := by
  obtain ⟨f, fd, a, F, c⟩ := h
  refine ⟨f, fd, a, F.kp, c, F.ok S len fun cdv A outer s H vs Q E hr hs => ?_⟩
  obtain ⟨t, h1, sg, h2, h3⟩ := hb cdv f A outer s H vs Q E hr hs
  exact ⟨t, h1.nox, h2.eq ▸ h3⟩
/-- .. of the law's own def, whose object the end names -/
theorem okL {x : Str} {ps N : List Str} {st : Stmt} {k : Nat} {sp : Sp} {f : Addr} {fd : FuncData} (F : FunD K x x (defArgs st) (defBody st) (defScope st) [] [] f fd) (S : FnScope N ps (defScope st)) (len : ∀ vs H Q E, sp vs H Q E → vs.length = ps.length)
    (hb : ∀ (cdv : Value) (f : Addr) (A : Around) (outer : List Env) (s : Shared) (H : Hp) (vs : List V) (Q : VK) (E : XK), Room k (A.deeper (envOfC x (defScope st) s.heap.objs.size f cdv)) → sp vs H Q E →
      ∃ t, PSs (cxOf CX P w K mg base N x (defScope st) f cdv A outer s H E).nox (defBody st) t ∧ ∃ sg, StartTo N vs sg ∧ t { nx := fun _ H' => Q .non H', rt := Q } sg H) : FnOk P w K mg base CX (k + 1) f fd ps sp :=
  F.ok S len fun cdv A outer s H vs Q E hr hs => by
    obtain ⟨t, h1, sg, h2, h3⟩ := hb cdv f A outer s H vs Q E hr hs
    exact ⟨t, h1.nox, h2.eq ▸ h3⟩
/-- .. of a def that may raise -/
theorem DefAt.okX {x : Str} {ps N : List Str} {st : Stmt} {k : Nat} {sp : Sp} (h : DefAt K mg x ps st) (S : FnScope N ps (defScope st)) (len : ∀ vs H Q E, sp vs H Q E → vs.length = ps.length)
    (hb : ∀ (cdv : Value) (f : Addr) (A : Around) (outer : List Env) (s : Shared) (H : Hp) (vs : List V) (Q : VK) (E : XK), Room k (A.deeper (envOfC x (defScope st) s.heap.objs.size f cdv)) → sp vs H Q E →
      ∃ t, PSs (cxOf (L2.CX P w) P w K mg base N x (defScope st) f cdv A outer s H E) (defBody st) t ∧ ∃ sg, StartTo N vs sg ∧ t { nx := fun _ H' => Q .non H', rt := Q } sg H) : Okk P w K mg base (L2.CX P w) (k + 1) x ps sp := by
  obtain ⟨f, fd, a, F, c⟩ := h
  refine ⟨f, fd, a, F.kp, c, F.ok S len fun cdv A outer s H vs Q E hr hs => ?_⟩
  obtain ⟨t, h1, sg, h2, h3⟩ := hb cdv f A outer s H vs Q E hr hs
  exact ⟨t, h1, h2.eq ▸ h3⟩
end
section
variable {X : Cx} {k : Nat} {x : Str} {ps : List Str} {sp : Sp} {e : Expr} {es : List Expr} {t : TA} {p pos : Pos} {E : XK} {CX : CXT}
theorem pe_own (D : Okk X.prog X.w X.K X.mg X.base CX0 k x ps sp) (hr : Room k X.A) (ha : PA X (e :: es) t) (hg : Gl X x := by rfl)
    (hdb : (x == ("__debug__" : Str)) = false := by decide) (he : starEach (e :: es) X.env = (false, eval e X.env) :: starEach es X.env := by rfl) (hpl : (backTo pos (starEach es X.env)).any (·.1) = false := by rfl) :
    PE X (.Call (.Name x p) (e :: es) [] pos) (tCall sp [] E0 t) := by
  obtain ⟨f, fd, a, b, c, d⟩ := D
  exact pe_call d hr hg a b c .nil pass0 ha hdb he hpl
theorem pe_own0 (D : Okk X.prog X.w X.K X.mg X.base CX0 k x ps sp) (hr : Room k X.A) (hg : Gl X x := by rfl) (hdb : (x == ("__debug__" : Str)) = false := by decide) :
    PE X (.Call (.Name x p) [] [] pos) (tCall sp [] E0 tNil) := by
  obtain ⟨f, fd, a, b, c, d⟩ := D
  exact pe_call0 d hr hg a b c .nil pass0 hdb
end
/-! ### operators, built-ins by named readings -/
section
variable {X : Cx}
theorem CallR.imp {f : Value} {r r' : List V → Hp → VK → Prop} (h : CallR X f r) (i : ∀ xs H Q, r' xs H Q → r xs H Q) : CallR X f r' :=
  fun pins s σ H xs us Q I rr hh => h pins s σ H xs us Q I rr (i xs H Q hh)
def rInt1 : List V → Hp → VK → Prop := fun xs H Q => ∃ i, xs = [.int i] ∧ Q (.int i) H
theorem cr_int : CallR X (.type "int") rInt1 := CallR.imp call_int1 fun _ _ _ h => .inl h
def absI (i : Int) : Int := if i < 0 then -i else i
def rAbs : List V → Hp → VK → Prop := fun xs H Q => ∃ i, xs = [.int i] ∧ Q (.int (absI i)) H
theorem cr_abs : CallR X (.builtin "abs") rAbs := call_abs
def rLenS (K : PySem.W.Frag) : List V → Hp → VK → Prop := fun xs H Q => ∃ p ys, xs = [.ref p] ∧ (SqL K H p ys ∨ SqT K H p ys) ∧ Q (.int ys.length) H
theorem cr_len : CallR X (.builtin "len") (rLenS X.K) := call_len_seq
def rListS (K : PySem.W.Frag) : List V → Hp → VK → Prop := fun xs H Q => ∃ p ys, xs = [.ref p] ∧ (SqL K H p ys ∨ SqT K H p ys) ∧ ∀ l, H l = none → Q (.ref l) (upd H l (.lst ys))
theorem cr_list : CallR X (.type "list") (rListS X.K) := call_list_of
def rMax2 : List V → Hp → VK → Prop := fun xs H Q => ∃ i j, xs = [.int i, .int j] ∧ Q (.int (if j > i then j else i)) H
theorem cr_max2 (hc : X.calm = true) : CallR X (.builtin "max") rMax2 := call_max2 hc
def rMin2 : List V → Hp → VK → Prop := fun xs H Q => ∃ i j, xs = [.int i, .int j] ∧ Q (.int (if j < i then j else i)) H
theorem cr_min2 (hc : X.calm = true) : CallR X (.builtin "min") rMin2 := call_min2 hc
def CPowW (i j : Int) : Prop := 0 ≤ j ∧ (Builtin.Int.intBits i : Int) * j ≤ 2 ^ 27
theorem op_powW : OpR X (binaryOp .Pow) (rI CPowW fun i j => .int (i ^ j.toNat)) := opI fun _ _ _ _ _ _ _ hc q => pow_int hc.1 hc.2 q
end
section
variable {X : Cx}
/-- // by any great divisor but 0 -/
def CDivZ (_ j : Int) : Prop := j ≠ 0 ∧ j.natAbs.log2 < 9000
theorem op_fdivZ : OpR X (binaryOp .FloorDiv) (rI CDivZ fun i j => .int (i.fdiv j)) := opI fun _ _ _ _ _ _ _ hc q => floordiv_int hc.1 q (.inl (PyProof.noPylong_of_log2 hc.2))
end
/-! ### readings, one step each -/
section
variable {K : PySem.W.Frag} {σ σ' : St} {H : Hp} {Q : VK} {QB : Bool → Hp → Prop} {QL : List V → Hp → Prop} {D : Ends} {ta tb te tx : TE} {tt tu : TT} {tr : TA} {t u : TS} {g : TG} {gs : TGs} {i j : Int} {v x y z : V} {r : R2} {n m : Nat} {a p : Addr} {xs ys : List V}
theorem x_start {N : List Str} {vs : List V} (h : StartTo N vs σ) (q : t D σ H) : ∃ sg, StartTo N vs sg ∧ t D sg H := ⟨σ, h, q⟩
theorem x_var (h : GetAt σ n v) (q : Q v H) : tVar n σ H Q := ⟨v, h.eq, q⟩
theorem x_c (q : Q v H) : tC v σ H Q := q
theorem x_op (q : ta σ H fun x H1 => tb σ H1 fun y H2 => r x y H2 Q) : tOp r ta tb σ H Q := q
theorem x_un {r : V → Hp → VK → Prop} (q : ta σ H fun x H1 => r x H1 Q) : tUn r ta σ H Q := q
theorem x_I0 {g : Int → Int → V} (q : Q (g i j) H) : rI0 g (.int i) (.int j) H Q := ⟨i, j, rfl, rfl, q⟩
theorem x_I {C : Int → Int → Prop} {g : Int → Int → V} (c : C i j) (q : Q (g i j) H) : rI C g (.int i) (.int j) H Q := ⟨i, j, rfl, rfl, c, q⟩
theorem x_powC {z : Int} (c : CPowW i j) (e : i ^ j.toNat = z) (q : Q (.int z) H) : rI CPowW (fun i j => .int (i ^ j.toNat)) (.int i) (.int j) H Q := ⟨i, j, rfl, rfl, c, by
  show Q (.int (i ^ j.toNat)) H
  rw [e]
  exact q⟩
theorem x_U {g : Int → V} (q : Q (g i) H) : rU g (.int i) H Q := ⟨i, rfl, q⟩
theorem dec_congr {a b : Prop} [Decidable a] [Decidable b] (h : a ↔ b) : decide a = decide b := by
  by_cases x : b
  · rw [decide_eq_true x, decide_eq_true (h.mpr x)]
  · rw [decide_eq_false x, decide_eq_false fun y => x (h.mp y)]
theorem x_eqI (q : Q (.bl (decide (i = j))) H) : rEq (.int i) (.int j) H Q := ⟨rfl, by
  rw [show decide ((V.int i : V) = .int j) = decide (i = j) from dec_congr ⟨fun h => V.int.inj h, fun h => h ▸ rfl⟩]
  exact q⟩
theorem x_neI (q : Q (.bl (!decide (i = j))) H) : rNe (.int i) (.int j) H Q := ⟨rfl, by
  rw [show decide ((V.int i : V) = .int j) = decide (i = j) from dec_congr ⟨fun h => V.int.inj h, fun h => h ▸ rfl⟩]
  exact q⟩
theorem x_eqS {a b : Str} (q : Q (.bl (decide (a = b))) H) : rEq (.str a) (.str b) H Q := ⟨rfl, by
  rw [show decide ((V.str a : V) = .str b) = decide (a = b) from dec_congr ⟨fun h => V.str.inj h, fun h => h ▸ rfl⟩]
  exact q⟩
theorem x_neS {a b : Str} (q : Q (.bl (!decide (a = b))) H) : rNe (.str a) (.str b) H Q := ⟨rfl, by
  rw [show decide ((V.str a : V) = .str b) = decide (a = b) from dec_congr ⟨fun h => V.str.inj h, fun h => h ▸ rfl⟩]
  exact q⟩
theorem x_eqB {a b : Bool} (q : Q (.bl (a == b)) H) : rEq (.bl a) (.bl b) H Q := ⟨rfl, by
  rw [show decide ((V.bl a : V) = .bl b) = (a == b) from by cases a <;> cases b <;> rfl]
  exact q⟩
theorem x_nil (q : QL [] H) : tNil σ H QL := q
theorem x_cons (q : ta σ H fun x H1 => tr σ H1 fun xs H2 => QL (x :: xs) H2) : tCons ta tr σ H QL := q
theorem x_cb {r : List V → Hp → VK → Prop} (q : tr σ H fun vs H1 => r vs H1 Q) : tCB r tr σ H Q := q
theorem x_call {sp : Sp} {E : XK} (q : tr σ H fun vs H1 => sp vs H1 Q E) : tCall sp [] E tr σ H Q := by
  have e : (fun (vs : List V) (H1 : Hp) => sp (vs ++ []) H1 Q E) = fun vs H1 => sp vs H1 Q E := by
    funext vs H1
    rw [List.append_nil]
  show tr σ H (fun vs H1 => sp (vs ++ []) H1 Q E)
  rw [e]
  exact q
theorem sz_of {n : Nat} (h : n ≤ 100000) : n ≤ sizeLine := Nat.le_trans h (by decide)
theorem sz_lt {n : Nat} (h : n < 100000) : n < sizeLine := Nat.lt_of_lt_of_le h (by decide)
theorem x_tup (q : tr σ H fun xs H1 => xs.length ≤ 100000 ∧ ∀ p, H1 p = none → Q (.ref p) (upd H1 p (.tup xs))) (m : ∀ xs H1, (xs.length ≤ 100000 ∧ ∀ p, H1 p = none → Q (.ref p) (upd H1 p (.tup xs))) → (xs.length ≤ sizeLine ∧ ∀ p, H1 p = none → Q (.ref p) (upd H1 p (.tup xs))) := fun _ _ h => ⟨sz_of h.1, h.2⟩) (mono : ∀ (Q1 Q2 : List V → Hp → Prop), (∀ xs H, Q1 xs H → Q2 xs H) → tr σ H Q1 → tr σ H Q2) : tTup tr σ H Q := mono _ _ m q
/-- a display: the items, then a new address -/
def Disp (f : List V → HO) (Q : VK) : List V → Hp → Prop := fun xs H1 => xs.length ≤ sizeLine ∧ ∀ p, H1 p = none → Q (.ref p) (upd H1 p (f xs))
theorem x_tup' (q : tr σ H (Disp HO.tup Q)) : tTup tr σ H Q := q
theorem x_lst' (q : tr σ H (Disp HO.lst Q)) : tLst tr σ H Q := q
theorem x_disp {f : List V → HO} (l : xs.length ≤ 100000) (q : ∀ p, H p = none → Q (.ref p) (upd H p (f xs))) : Disp f Q xs H := ⟨sz_of l, q⟩
theorem x_ixL (h : SqL K H p xs) (ha : atI xs i = some v) (q : Q v H) : rIxL K (.ref p) (.int i) H Q := ⟨p, xs, i, v, rfl, rfl, h, ha, q⟩
theorem x_ixT (h : SqT K H p xs) (ha : atI xs i = some v) (q : Q v H) : rIxT K (.ref p) (.int i) H Q := ⟨p, xs, i, v, rfl, rfl, h, ha, q⟩
theorem ixN_at {n j : Nat} (hj : j < n) : ixN n (j : Int) = some j := by
  unfold ixN
  rw [if_pos (by omega), if_pos (by omega)]
  simp
theorem x_setN {k : Int} {j : Nat} {qh : Hp → Prop} (h : H p = some (.lst xs)) (hk : k = (j : Int)) (hx : SetTo xs j v ys) (q : qh (upd H p (.lst ys))) : rSetL (.ref p) (.int k) v H qh := ⟨p, xs, k, j, rfl, rfl, h, by rw [hk]; exact ixN_at hx.lt, hx.eq ▸ q⟩
theorem x_setN2 {k : Int} {j : Nat} {qh : Hp → Prop} (hk : k = (j : Int)) (hx : SetTo xs j v ys) (q : qh (upd H p (.lst ys))) : rSetL (.ref p) (.int k) v (upd H p (.lst xs)) qh := ⟨p, xs, k, j, rfl, rfl, upd_same, by rw [hk]; exact ixN_at hx.lt, by
  rw [upd_upd, hx.eq]
  exact q⟩
theorem x_setL {k : Int} {jx : Nat} {qh : Hp → Prop} (h : H p = some (.lst xs)) (hj : ixN xs.length k = some jx) (hx : SetTo xs jx v ys) (q : qh (upd H p (.lst ys))) : rSetL (.ref p) (.int k) v H qh := ⟨p, xs, k, jx, rfl, rfl, h, hj, hx.eq ▸ q⟩
theorem x_setL2 {k : Int} {jx : Nat} {qh : Hp → Prop} (hj : ixN xs.length k = some jx) (hx : SetTo xs jx v ys) (q : qh (upd H p (.lst ys))) : rSetL (.ref p) (.int k) v (upd H p (.lst xs)) qh := ⟨p, xs, k, jx, rfl, rfl, upd_same, hj, by
  rw [upd_upd, hx.eq]
  exact q⟩
theorem x_int1 (q : Q (.int i) H) : rInt1 [.int i] H Q := ⟨i, rfl, q⟩
theorem x_abs (q : Q (.int (absI i)) H) : rAbs [.int i] H Q := ⟨i, rfl, q⟩
theorem x_lenL (h : SqL K H p xs) (q : Q (.int xs.length) H) : rLenS K [.ref p] H Q := ⟨p, xs, rfl, .inl h, q⟩
theorem x_lenT (h : SqT K H p xs) (q : Q (.int xs.length) H) : rLenS K [.ref p] H Q := ⟨p, xs, rfl, .inr h, q⟩
theorem x_listL (h : SqL K H p xs) (q : ∀ l, H l = none → Q (.ref l) (upd H l (.lst xs))) : rListS K [.ref p] H Q := ⟨p, xs, rfl, .inl h, q⟩
theorem x_listT (h : SqT K H p xs) (q : ∀ l, H l = none → Q (.ref l) (upd H l (.lst xs))) : rListS K [.ref p] H Q := ⟨p, xs, rfl, .inr h, q⟩
theorem x_max2 (q : Q (.int (if j > i then j else i)) H) : rMax2 [.int i, .int j] H Q := ⟨i, j, rfl, q⟩
theorem x_min2 (q : Q (.int (if j < i then j else i)) H) : rMin2 [.int i, .int j] H Q := ⟨i, j, rfl, q⟩
-- tests
theorem x_test (q : te σ H fun x H1 => ∃ c, x = .bl c ∧ QB c H1) : tTest te σ H QB := q
theorem x_tB (q : te σ H fun x H1 => ∃ c, x = .bl c ∧ QB c H1) : tB te σ H QB := q
theorem x_isb {b : Bool} {R : Bool → Prop} (q : R b) : ∃ c, V.bl b = .bl c ∧ R c := ⟨b, rfl, q⟩
theorem x_not (q : tt σ H fun c H1 => QB (!c) H1) : tNot tt σ H QB := q
theorem x_and (q : tt σ H fun c H1 => if c = true then tu σ H1 QB else QB false H1) : tAnd tt tu σ H QB := q
theorem x_or (q : tt σ H fun c H1 => if c = true then QB true H1 else tu σ H1 QB) : tOr tt tu σ H QB := q
theorem x_andV (q : ta σ H fun x H1 => ∃ c, x = .bl c ∧ if c = true then tb σ H1 Q else Q (.bl false) H1) : tAndV ta tb σ H Q := q
theorem x_orV (q : ta σ H fun x H1 => ∃ c, x = .bl c ∧ if c = true then Q (.bl true) H1 else tb σ H1 Q) : tOrV ta tb σ H Q := q
theorem x_notV (q : ta σ H fun x H1 => ∃ c, x = .bl c ∧ Q (.bl (!c)) H1) : tNotV ta σ H Q := q
theorem x_ifE (q : tt σ H fun c H1 => if c = true then ta σ H1 Q else tb σ H1 Q) : tIf tt ta tb σ H Q := q
theorem x_dec {c A B : Prop} [Decidable c] (h1 : c → A) (h2 : ¬ c → B) : if decide c = true then A else B := by
  by_cases h : c
  · rw [decide_eq_true h, if_pos rfl]
    exact h1 h
  · rw [decide_eq_false h, if_neg Bool.false_ne_true]
    exact h2 h
theorem x_decT {c A B : Prop} [Decidable c] (h : c) (q : A) : if decide c = true then A else B := by rw [decide_eq_true h, if_pos rfl]; exact q
theorem x_decF {c A B : Prop} [Decidable c] (h : ¬ c) (q : B) : if decide c = true then A else B := by rw [decide_eq_false h, if_neg Bool.false_ne_true]; exact q
theorem x_ndecT {c A B : Prop} [Decidable c] (h : ¬ c) (q : A) : if (!decide c) = true then A else B := by rw [decide_eq_false h, if_pos (by decide)]; exact q
theorem x_ndecF {c A B : Prop} [Decidable c] (h : c) (q : B) : if (!decide c) = true then A else B := by rw [decide_eq_true h, if_neg (by decide)]; exact q
theorem x_sset {i : Nat} {o : Option V} {T : St → Prop} (h : SetTo σ i o σ') (q : T σ') : T (σ.set i o) := h.eq ▸ q
theorem x_ndec {c A B : Prop} [Decidable c] (h1 : ¬ c → A) (h2 : c → B) : if (!decide c) = true then A else B := by
  by_cases h : c
  · rw [decide_eq_true h, if_neg (by decide)]
    exact h2 h
  · rw [decide_eq_false h, if_pos (by decide)]
    exact h1 h
theorem x_bool {c : Bool} {A B : Prop} (h1 : c = true → A) (h2 : c = false → B) : if c = true then A else B := by
  cases c with
  | true => exact (if_pos rfl : (if true = true then A else B) = A) ▸ h1 rfl
  | false => exact (if_neg Bool.false_ne_true : (if false = true then A else B) = B) ▸ h2 rfl
theorem x_iteT {A B : Prop} (q : A) : if true = true then A else B := by rw [if_pos rfl]; exact q
theorem x_iteF {A B : Prop} (q : B) : if false = true then A else B := by rw [if_neg Bool.false_ne_true]; exact q
theorem x_iteNT {A B : Prop} (q : A) : if (!false) = true then A else B := by rw [if_pos (by decide)]; exact q
theorem x_iteNF {A B : Prop} (q : B) : if (!true) = true then A else B := by rw [if_neg (by decide)]; exact q
-- statements
theorem x_seq (q : t { D with nx := u D } σ H) : tSeq t u D σ H := q
theorem x_next (q : D.nx σ H) : tNext D σ H := q
theorem x_brk (q : D.bk σ H) : tBreak D σ H := q
theorem x_cont (q : D.ct σ H) : tCont D σ H := q
theorem x_drop (q : te σ H fun _ H1 => D.nx σ H1) : tDrop te D σ H := q
theorem x_ret (q : te σ H D.rt) : tRet te D σ H := q
theorem x_retN (q : D.rt .non H) : tRetN D σ H := q
theorem x_ifS (q : tt σ H fun b H1 => if b = true then t D σ H1 else u D σ H1) : tIfS tt t u D σ H := q
theorem x_asg (q : te σ H fun x H1 => g x σ H1 D.nx) : tAsg te g D σ H := q
theorem x_par {a b : Nat} {ta : TA} (q : ta σ H fun vs H1 => ∃ v w, vs = [v, w] ∧ D.nx ((σ.set a (some v)).set b (some w)) H1) : tPar a b ta D σ H := q
theorem x_par2 {a b : Nat} {v w : V} {σ1 σ2 : St} {nx : St → Hp → Prop} (h1 : SetTo σ a (some v) σ1) (h2 : SetTo σ1 b (some w) σ2) (q : nx σ2 H) : ∃ v' w', [v, w] = [v', w'] ∧ nx ((σ.set a (some v')).set b (some w')) H := ⟨v, w, rfl, by rw [h1.eq, h2.eq]; exact q⟩
theorem x_name {qs : St → Hp → Prop} (h : SetTo σ n (some v) σ') (q : qs σ' H) : gName n v σ H qs := by
  show qs (σ.set n (some v)) H
  rw [h.eq]
  exact q
theorem x_sub {to ti : TE} {s : TSet} {qs : St → Hp → Prop} (q : to σ H fun o H1 => ti σ H1 fun i H2 => s o i v H2 fun H3 => qs σ H3) : gSub to ti s v σ H qs := q
theorem x_aug {ip : TIp} (h : GetAt σ n x) (q : te σ H fun y H1 => ip x y H1 fun z H2 => D.nx (σ.set n (some z)) H2) : tAug n te ip D σ H := ⟨x, h.eq, q⟩
theorem x_ipI {f : Int → Int → Int} {qs : St → Hp → Prop} (h : SetTo σ n (some (.int (f i j))) σ') (q : qs σ' H) : ipI f (.int i) (.int j) H (fun z H2 => qs (σ.set n (some z)) H2) := ⟨i, j, rfl, rfl, by
  show qs (σ.set n (some (.int (f i j)))) H
  rw [h.eq]
  exact q⟩
theorem x_gtup {k : Nat} {qs : St → Hp → Prop} (h : SqT K H a xs) (l : xs.length = k) (q : gs xs σ H qs) : gTup K k gs (.ref a) σ H qs := ⟨a, xs, rfl, h, l, q⟩
theorem x_gnil {qs : St → Hp → Prop} (q : qs σ H) : gNil [] σ H qs := ⟨rfl, q⟩
theorem x_gcons {qs : St → Hp → Prop} (q : g v σ H fun σ' H' => gs xs σ' H' qs) : gCons g gs (v :: xs) σ H qs := ⟨v, xs, rfl, q⟩
theorem x_bm {T : String} {r : V → List V → Hp → VK → Prop} {to : TE} (q : to σ H fun x H1 => tyV K T x H1 ∧ tr σ H1 fun xs H2 => r x xs H2 Q) : tBM K T r to tr σ H Q := q
theorem x_bm0 {T : String} {r : V → List V → Hp → VK → Prop} {to : TE} (q : to σ H fun x H1 => tyV K T x H1 ∧ r x [] H1 Q) : tBM0 K T r to σ H Q := q
theorem x_tyL {A : Prop} (h : SqL K H a xs) (q : A) : tyV K "list" (.ref a) H ∧ A := ⟨.inl ⟨rfl, xs, h⟩, q⟩
theorem x_append (h : H a = some (.lst xs)) (l : xs.length < 100000) (q : Q .non (upd H a (.lst (xs ++ [v])))) : rAppend (.ref a) [v] H Q := ⟨a, xs, v, rfl, rfl, h, sz_lt l, q⟩
theorem x_cat {b : Addr} (h : H a = some (.lst xs)) (h' : H b = some (.lst ys)) (l : xs.length + ys.length ≤ 100000) (q : ∀ p, H p = none → Q (.ref p) (upd H p (.lst (xs ++ ys)))) : rCat (.ref a) (.ref b) H Q := ⟨a, b, xs, ys, rfl, rfl, h, h', sz_of l, q⟩
theorem x_slL {lo hi : Option Int} (h : SqL K H a xs) (q : ∀ p, H p = none → Q (.ref p) (upd H p (.lst (cutV xs lo hi)))) : rSlL K (.ref a) lo hi H Q := ⟨a, xs, rfl, h, q⟩
theorem x_sl {r : V → Option Int → Option Int → Hp → VK → Prop} {tl th : TO} (q : te σ H fun x H1 => tl σ H1 fun l H2 => th σ H2 fun u H3 => r x l u H3 Q) : tSl r te tl th σ H Q := q
theorem x_nopart {qo : Option Int → Hp → Prop} (q : qo none H) : tNoPart σ H qo := q
theorem x_part {qo : Option Int → Hp → Prop} (q : te σ H fun x H1 => ∃ i, x = .int i ∧ qo (some i) H1) : tPart te σ H qo := q
theorem x_isk {R : Int → Prop} (q : R i) : ∃ k, V.int i = .int k ∧ R k := ⟨i, rfl, q⟩
end
/-! ### loops -/
section
variable {K : PySem.W.Frag} {σ : St} {H : Hp} {D : Ends} {te : TE} {ta : TA} {tb : TS} {g : TG} {p : Addr} {xs : List V} {wi : TI}
def ForG (J : It) (g : TG) (tb : TS) (D : Ends) (σ : St) (H1 : Hp) : Prop := ∃ W : Nat → Nat → St → Hp → Prop, (∃ m, W 0 m σ H1) ∧ ∀ i m σ H, W i m σ H →
  (J.stop i H ∧ D.nx σ H) ∨ (J.go i H ∧ ∃ N : St → Hp → Prop, (∀ σ' H', N σ' H' → ∃ m', m' < m ∧ W (i + 1) m' σ' H') ∧ ∀ x H', J.yld i H x H' → g x σ H' fun σ2 H2 => tb { D with nx := N, ct := N, bk := D.nx } σ2 H2)
theorem x_for (q : wi σ H fun J H1 => ForG J g tb D σ H1) : tFor wi g tb D σ H := q
def ItL (K : PySem.W.Frag) (R : It → Hp → Prop) : VK := fun x H1 => ∃ a, x = .ref a ∧ (∃ xs, SqL K H1 a xs) ∧ R (Itl K a) H1
def ItT (K : PySem.W.Frag) (R : It → Hp → Prop) : VK := fun x H1 => ∃ a, x = .ref a ∧ (∃ xs, SqT K H1 a xs) ∧ R (Itt K a) H1
def ItR (R : It → Hp → Prop) : List V → Hp → Prop := fun vs H1 => ∃ j : Int, vs = [.int j] ∧ -(2 ^ 62) ≤ j ∧ j < 2 ^ 62 ∧ R (Itr 0 j.toNat) H1
def ItR2 (R : It → Hp → Prop) : List V → Hp → Prop := fun vs H1 => ∃ i j : Int, vs = [.int i, .int j] ∧ (-(2 ^ 62) ≤ i ∧ i < 2 ^ 62 ∧ -(2 ^ 62) ≤ j ∧ j < 2 ^ 62) ∧ R (Itr i (j - i).toNat) H1
theorem x_itL {R : It → Hp → Prop} (q : te σ H (ItL K R)) : iList K te σ H R := q
theorem x_itT {R : It → Hp → Prop} (q : te σ H (ItT K R)) : iTup K te σ H R := q
theorem x_itR {R : It → Hp → Prop} (q : ta σ H (ItR R)) : iRng1 ta σ H R := q
theorem x_itR2 {R : It → Hp → Prop} (q : ta σ H (ItR2 R)) : iRng2 ta σ H R := q
theorem l_list (h : SqL K H p xs) (Pv : Nat → St → Hp → Prop) (h0 : Pv 0 σ H) (hl : ∀ i s' H', i ≤ xs.length → Pv i s' H' → SqL K H' p xs)
    (hs : ∀ i x s' H', xs[i]? = some x → Pv i s' H' → g x s' H' fun σ2 H2 => tb { D with nx := Pv (i + 1), ct := Pv (i + 1), bk := D.nx } σ2 H2) (hd : ∀ s' H', Pv xs.length s' H' → D.nx s' H') : ItL K (fun J H1 => ForG J g tb D σ H1) (.ref p) H :=
  ⟨p, rfl, ⟨xs, h⟩, for_list Pv h0 hl hs hd⟩
theorem l_tup (h : SqT K H p xs) (Pv : Nat → St → Hp → Prop) (h0 : Pv 0 σ H) (hl : ∀ i s' H', i ≤ xs.length → Pv i s' H' → SqT K H' p xs)
    (hs : ∀ i x s' H', xs[i]? = some x → Pv i s' H' → g x s' H' fun σ2 H2 => tb { D with nx := Pv (i + 1), ct := Pv (i + 1), bk := D.nx } σ2 H2) (hd : ∀ s' H', Pv xs.length s' H' → D.nx s' H') : ItT K (fun J H1 => ForG J g tb D σ H1) (.ref p) H :=
  ⟨p, rfl, ⟨xs, h⟩, for_tup Pv h0 hl hs hd⟩
theorem l_rng {n : Int} (hn : n < 2 ^ 62) (Pv : Nat → St → Hp → Prop) (h0 : Pv 0 σ H)
    (hs : ∀ (i : Nat) s' H', (i : Int) < n → Pv i s' H' → g (.int (i : Int)) s' H' fun σ2 H2 => tb { D with nx := Pv (i + 1), ct := Pv (i + 1), bk := D.nx } σ2 H2) (hd : ∀ s' H', Pv n.toNat s' H' → D.nx s' H') (hm : -(2 ^ 62) ≤ n := by omega) : ItR (fun J H1 => ForG J g tb D σ H1) [.int n] H :=
  ⟨n, rfl, by omega, by omega, for_range (lo := 0) (n := n.toNat) Pv h0 (fun i s' H' hi hp => by
    have e : (0 : Int) + (i : Int) = (i : Int) := Int.zero_add _
    rw [e]
    exact hs i s' H' (by omega) hp) hd⟩
theorem l_rng2 {lo n : Int} (hn : -100000 < lo ∧ lo < 100000 ∧ -100000 < n ∧ n < 100000) (Pv : Nat → St → Hp → Prop) (h0 : Pv 0 σ H)
    (hs : ∀ (i : Nat) s' H', lo + (i : Int) < n → Pv i s' H' → g (.int (lo + (i : Int))) s' H' fun σ2 H2 => tb { D with nx := Pv (i + 1), ct := Pv (i + 1), bk := D.nx } σ2 H2) (hd : ∀ s' H', Pv (n - lo).toNat s' H' → D.nx s' H') : ItR2 (fun J H1 => ForG J g tb D σ H1) [.int lo, .int n] H :=
  ⟨lo, n, rfl, ⟨by omega, by omega, by omega, by omega⟩, for_range (lo := lo) (n := (n - lo).toNat) Pv h0 (fun i s' H' hi hp => hs i s' H' (by omega) hp) hd⟩
theorem x_cut {t u : TS} (M : St → Hp → Prop) (h1 : t { D with nx := M } σ H) (h2 : ∀ s' H', M s' H' → u D s' H') : C8.tCut t u D σ H := ⟨M, h1, h2⟩
theorem x_while2 {tt : TT} (W : Nat → St → Hp → Prop) (m0 : Nat) (h0 : W m0 σ H)
    (hs : ∀ m s' H', W m s' H' → tt s' H' fun b H1 => if b = true then ∃ N : St → Hp → Prop, (∀ s2 H2, N s2 H2 → ∃ m', m' < m ∧ W m' s2 H2) ∧ tb { D with nx := N, ct := N, bk := D.nx } s' H1 else D.nx s' H1) : tWhile tt tb D σ H :=
  ⟨W, ⟨m0, h0⟩, hs⟩
theorem x_wturn {W : Nat → St → Hp → Prop} {m : Nat} {H1 : Hp} (z : tb { D with nx := fun s2 H2 => ∃ m', m' < m ∧ W m' s2 H2, ct := fun s2 H2 => ∃ m', m' < m ∧ W m' s2 H2, bk := D.nx } σ H1) : ∃ N : St → Hp → Prop, (∀ s2 H2, N s2 H2 → ∃ m', m' < m ∧ W m' s2 H2) ∧ tb { D with nx := N, ct := N, bk := D.nx } σ H1 := ⟨_, fun _ _ n => n, z⟩
theorem x_truI {i : Int} {R : Bool → Prop} (z : R (i != 0)) : ∃ k, TruV K (.int i) H k ∧ R k := ⟨_, rfl, z⟩
theorem x_bne {i : Int} {A B : Prop} (h1 : i ≠ 0 → A) (h2 : i = 0 → B) : if (i != 0) = true then A else B := by
  by_cases e : i = 0
  · rw [if_neg (by simp [e])]
    exact h2 e
  · rw [if_pos (by simpa using e)]
    exact h1 e
theorem x_while {tt : TT} (W : Nat → St → Hp → Prop) (m0 : Nat) (h0 : W m0 σ H)
    (hs : ∀ m s' H', W m s' H' → tt s' H' fun b H1 => if b = true then tb { D with nx := fun s2 H2 => ∃ m', m' < m ∧ W m' s2 H2, ct := fun s2 H2 => ∃ m', m' < m ∧ W m' s2 H2, bk := D.nx } s' H1 else D.nx s' H1)
    (mono : ∀ (s' : St) (H' : Hp) (q1 q2 : Bool → Hp → Prop), (∀ b h, q1 b h → q2 b h) → tt s' H' q1 → tt s' H' q2) : tWhile tt tb D σ H := by
  refine ⟨W, ⟨m0, h0⟩, fun m s' H' hw => mono s' H' _ _ (fun b h z => ?_) (hs m s' H' hw)⟩
  cases b with
  | true =>
    rw [if_pos rfl] at z ⊢
    exact ⟨_, fun _ _ n => n, z⟩
  | false =>
    rw [if_neg Bool.false_ne_true] at z ⊢
    exact z
/-! ### comprehensions -/
def LcG (J : It) (g : TG) (tt : TT) (te : TE) (vs : List Nat) (σ : St) (H1 : Hp) (Q : VK) : Prop := ∀ D, H1 D = none → ∃ W : Nat → Nat → Hp → Prop, (∃ m, W 0 m (upd H1 D (.lst []))) ∧ ∀ i m H, W i m H →
  (J.stop i H ∧ Q (.ref D) H) ∨ (J.go i H ∧ ∃ Nx : Hp → Prop, (∀ H', Nx H' → ∃ m', m' < m ∧ W (i + 1) m' H') ∧ ∀ x H', J.yld i H x H' → g x (wipe σ vs) H' fun σ2 H2 => wipe σ2 vs = wipe σ vs ∧ tt σ2 H2 fun b H3 =>
    if b = true then te σ2 H3 fun y H4 => ∃ acc, H4 D = some (.lst acc) ∧ acc.length < sizeLine ∧ Nx (upd H4 D (.lst (acc ++ [y]))) else Nx H3)
theorem x_lc {tt : TT} {vs : List Nat} {Q : VK} (q : wi σ H fun J H1 => LcG J g tt te vs σ H1 Q) : tLc wi g tt te vs σ H Q := q
/-- over a list: one item after the other, by an invariant -/
theorem l_lcL {tt : TT} {vs : List Nat} {Q : VK} {s0 : St} (hw : wipe σ vs = s0) (h : SqL K H p xs) (Pv : Addr → Nat → Hp → Prop) (h0 : ∀ Dl, H Dl = none → Pv Dl 0 (upd H Dl (.lst []))) (hl : ∀ Dl i H', H Dl = none → i ≤ xs.length → Pv Dl i H' → SqL K H' p xs)
    (hs : ∀ Dl i x H', H Dl = none → xs[i]? = some x → Pv Dl i H' → g x s0 H' fun σ2 H2 => wipe σ2 vs = s0 ∧ tt σ2 H2 fun b H3 =>
      if b = true then te σ2 H3 fun y H4 => ∃ acc, H4 Dl = some (.lst acc) ∧ acc.length < sizeLine ∧ Pv Dl (i + 1) (upd H4 Dl (.lst (acc ++ [y]))) else Pv Dl (i + 1) H3)
    (hd : ∀ Dl H', H Dl = none → Pv Dl xs.length H' → Q (.ref Dl) H') : ItL K (fun J H1 => LcG J g tt te vs σ H1 Q) (.ref p) H := by
  subst hw
  exact ⟨p, rfl, ⟨xs, h⟩, fun Dl hD => lc_list (xs := xs) (Pv Dl) (h0 Dl hD) (fun i H' => hl Dl i H' hD) (fun i x H' => hs Dl i x H' hD) (fun H' => hd Dl H' hD)⟩
theorem l_lcR {tt : TT} {vs : List Nat} {Q : VK} {s0 : St} (hw : wipe σ vs = s0) {n : Int} (hn : n < 2 ^ 62) (Pv : Addr → Nat → Hp → Prop) (h0 : ∀ Dl, H Dl = none → Pv Dl 0 (upd H Dl (.lst [])))
    (hs : ∀ Dl (i : Nat) H', H Dl = none → (i : Int) < n → Pv Dl i H' → g (.int (i : Int)) s0 H' fun σ2 H2 => wipe σ2 vs = s0 ∧ tt σ2 H2 fun b H3 =>
      if b = true then te σ2 H3 fun y H4 => ∃ acc, H4 Dl = some (.lst acc) ∧ acc.length < sizeLine ∧ Pv Dl (i + 1) (upd H4 Dl (.lst (acc ++ [y]))) else Pv Dl (i + 1) H3)
    (hd : ∀ Dl H', H Dl = none → Pv Dl n.toNat H' → Q (.ref Dl) H') (hm : -(2 ^ 62) ≤ n := by omega) : ItR (fun J H1 => LcG J g tt te vs σ H1 Q) [.int n] H := by
  subst hw
  exact ⟨n, rfl, hm, hn, fun Dl hD => lc_range (lo := 0) (n := n.toNat) (Pv Dl) (h0 Dl hD) (fun i H' hi hp => by
    have e : (0 : Int) + (i : Int) = (i : Int) := Int.zero_add _
    rw [e]
    exact hs Dl i H' hD (by omega) hp) (fun H' => hd Dl H' hD)⟩
/-- what stands at a comprehension's list behind i items -/
def Made (M : List Addr) (H : Hp) (f : Nat → V) (Dl : Addr) (i : Nat) (H' : Hp) : Prop := Kp M H H' ∧ H' Dl = some (.lst ((List.range i).map f))
theorem made_step {M : List Addr} {f : Nat → V} {Dl : Addr} {i : Nat} {H' H4 : Hp} (hD : H Dl = none) (hM : Dl ∉ M) (m : Made M H f Dl i H') (k : Kp M H' H4) (hi : i < 100000) :
    ∃ acc, H4 Dl = some (.lst acc) ∧ acc.length < sizeLine ∧ Made M H f Dl (i + 1) (upd H4 Dl (.lst (acc ++ [f i]))) := by
  refine ⟨_, k _ _ hM m.2, ?_, (m.1.trans k).mut hD, ?_⟩
  · rw [List.length_map, List.length_range]
    exact Nat.lt_of_lt_of_le hi (by decide)
  · rw [List.range_succ, List.map_append]
    exact upd_same
/-- over a list, each item to a value by itself (all items taken) -/
theorem l_lcLm {vs : List Nat} {Q : VK} {s0 : St} (hw : wipe σ vs = s0) (M : List Addr) (f : Nat → V) (h : SqL K H p xs) (hp : p ∉ M) (hM : ∀ a ∈ M, ∃ o, H a = some o) (hz : xs.length ≤ 100000)
    (hs : ∀ Dl i x H' (Z : VK), H Dl = none → xs[i]? = some x → Kp M H H' → (∀ H4, Kp M H' H4 → Z (f i) H4) → g x s0 H' fun σ2 H2 => wipe σ2 vs = s0 ∧ te σ2 H2 Z)
    (gm : ∀ x s' H' (q1 q2 : St → Hp → Prop), (∀ a b, q1 a b → q2 a b) → g x s' H' q1 → g x s' H' q2)
    (hd : ∀ Dl H', H Dl = none → Kp M H H' → H' Dl = some (.lst ((List.range xs.length).map f)) → Q (.ref Dl) H') : ItL K (fun J H1 => LcG J g tYes te vs σ H1 Q) (.ref p) H := by
  have hD : ∀ Dl, H Dl = none → Dl ∉ M := fun Dl h1 h2 => by
    obtain ⟨o, e⟩ := hM Dl h2
    rw [h1] at e
    cases e
  refine l_lcL hw h (Made M H f) (fun Dl h1 => ⟨Kp.new h1, upd_same⟩) (fun Dl i H' _ _ m => m.1.sq hp h) (fun Dl i x H' h1 hx m => ?_) (fun Dl H' h1 m => hd Dl H' h1 m.1 m.2)
  have hi : i < xs.length := (List.getElem?_eq_some_iff.mp hx).1
  refine gm _ _ _ _ _ (fun s2 H2 z => ⟨z.1, ?_⟩) (hs Dl i x H' (fun y H4 => ∃ acc, H4 Dl = some (.lst acc) ∧ acc.length < sizeLine ∧ Made M H f Dl (i + 1) (upd H4 Dl (.lst (acc ++ [y])))) h1 hx m.1 fun H4 k4 => made_step h1 (hD Dl h1) m k4 (by omega))
  unfold tYes
  dsimp only
  rw [if_pos rfl]
  exact z.2
theorem gname_mono {n : Nat} (x : V) (s' : St) (H' : Hp) (q1 q2 : St → Hp → Prop) (h : ∀ a b, q1 a b → q2 a b) (z : gName n x s' H' q1) : gName n x s' H' q2 := h _ _ z
/-- i has at most n bits -/
def Bt (n : Nat) (i : Int) : Prop := i.natAbs < 2 ^ n
theorem Bt.mono {a b : Nat} {i : Int} (h : Bt a i) (l : a ≤ b) : Bt b i := Nat.lt_of_lt_of_le h (Nat.pow_le_pow_right (by decide) l)
theorem Bt.mul {a b : Nat} {i j : Int} (h : Bt a i) (h' : Bt b j) : Bt (a + b) (i * j) := wide_lt h h'
theorem Bt.neg {a : Nat} {i : Int} (h : Bt a i) : Bt a (-i) := by unfold Bt at *; rw [Int.natAbs_neg]; exact h
theorem Bt.add {a : Nat} {i j : Int} (h : Bt a i) (h' : Bt a j) : Bt (a + 1) (i + j) := by
  unfold Bt at *
  rw [Nat.pow_succ]
  have := Int.natAbs_add_le i j
  omega
theorem Bt.sub {a : Nat} {i j : Int} (h : Bt a i) (h' : Bt a j) : Bt (a + 1) (i - j) := by
  rw [Int.sub_eq_add_neg]
  exact h.add h'.neg
theorem Bt.le {a : Nat} {i j : Int} (h : Bt a i) (l : j.natAbs ≤ i.natAbs) : Bt a j := Nat.lt_of_le_of_lt l h
theorem Bt.mulW {a b : Nat} {i j : Int} (h : Bt a i) (h' : Bt b j) (l : a + b ≤ 999998 := by decide) : CMulW i j := wide_mul (a := a + 1) (b := b + 1) (h.mono (by omega)) (h'.mono (by omega)) (by omega) (by omega) (by omega)
theorem Bt.divW {a : Nat} {i j : Int} (p : 0 < j) (h : Bt a j) (l : a ≤ 8999 := by decide) : CDivW i j := wide_div (b := a + 1) p (h.mono (by omega)) (by omega) (by omega)
theorem Bt.lit {a : Nat} {i : Int} (h : decide (i.natAbs < 2 ^ a) = true) : Bt a i := of_decide_eq_true (p := i.natAbs < 2 ^ a) h
theorem Bt.divZ {a : Nat} {i j : Int} (p : j ≠ 0) (h : Bt a j) (l : a ≤ 8999 := by decide) : CDivZ i j := by
  have z : j.natAbs < 2 ^ (a + 1) := h.mono (by omega)
  have y := PySem.Flt.log2_lt_of (Nat.succ_pos a) z
  exact ⟨p, by omega⟩
/-- a remainder of which only the bounds are kept -/
theorem x_modF {i j : Int} {Q : VK} (h : 0 < j) (q : ∀ r, 0 ≤ r → r < j → Q (.int r) H) : rI (fun _ j => 0 < j) (fun i j => .int (i % j)) (.int i) (.int j) H Q :=
  ⟨i, j, rfl, rfl, h, q _ (Int.emod_nonneg _ (by omega)) (Int.emod_lt_of_pos _ h)⟩
end
/-! ### data: what a value stands for; A: what is told of the addresses of its lists and tuples -/
mutual
inductive Rp (A : Addr → Prop) (K : PySem.W.Frag) (H : Hp) : V → PyData → Prop
  | non : Rp A K H .non .none
  | bl (b : Bool) : Rp A K H (.bl b) (.bool b)
  | int (i : Int) : Rp A K H (.int i) (.int i)
  | str (x : Str) : Rp A K H (.str x) (.str x)
  | lst {a xs ds} : A a → SqL K H a xs → RpAll A K H xs ds → Rp A K H (.ref a) (.list ds)
  | tup {a xs ds} : A a → SqT K H a xs → RpAll A K H xs ds → Rp A K H (.ref a) (.tuple ds)
inductive RpAll (A : Addr → Prop) (K : PySem.W.Frag) (H : Hp) : List V → List PyData → Prop
  | nil : RpAll A K H [] []
  | cons {v vs d ds} : Rp A K H v d → RpAll A K H vs ds → RpAll A K H (v :: vs) (d :: ds)
end
mutual
theorem Rp.kp {A B : Addr → Prop} {K M H H'} (k : Kp M H H') (hA : ∀ a, A a → a ∉ M) (hB : ∀ a, A a → B a) : ∀ {v : V} {d : PyData}, Rp A K H v d → Rp B K H' v d
  | _, _, .non => .non
  | _, _, .bl b => .bl b
  | _, _, .int i => .int i
  | _, _, .str x => .str x
  | _, _, .lst a s r => .lst (hB _ a) (k.sq (hA _ a) s) (RpAll.kp k hA hB r)
  | _, _, .tup a s r => .tup (hB _ a) (k.st (hA _ a) s) (RpAll.kp k hA hB r)
theorem RpAll.kp {A B : Addr → Prop} {K M H H'} (k : Kp M H H') (hA : ∀ a, A a → a ∉ M) (hB : ∀ a, A a → B a) : ∀ {vs : List V} {ds : List PyData}, RpAll A K H vs ds → RpAll B K H' vs ds
  | _, _, .nil => .nil
  | _, _, .cons r t => .cons (Rp.kp k hA hB r) (RpAll.kp k hA hB t)
end
/-- nothing told of the addresses -/
abbrev Rr (K : PySem.W.Frag) (H : Hp) (v : V) (d : PyData) : Prop := Rp (fun _ => True) K H v d
abbrev RrAll (K : PySem.W.Frag) (H : Hp) (v : List V) (d : List PyData) : Prop := RpAll (fun _ => True) K H v d
theorem Rp.rr {A K H v d} (h : Rp A K H v d) : Rr K H v d := h.kp (M := []) Kp.refl (fun _ _ => nil_mem) fun _ _ => trivial
theorem RpAll.rr {A K H v d} (h : RpAll A K H v d) : RrAll K H v d := h.kp (M := []) Kp.refl (fun _ _ => nil_mem) fun _ _ => trivial
theorem Rp.to {A K H H' v d} (k : Kp [] H H') (h : Rp A K H v d) : Rp A K H' v d := h.kp k (fun _ _ => nil_mem) fun _ z => z
theorem RpAll.to {A K H H' v d} (k : Kp [] H H') (h : RpAll A K H v d) : RpAll A K H' v d := h.kp k (fun _ _ => nil_mem) fun _ z => z
theorem Rp.mono {A B K H v d} (h : Rp A K H v d) (hB : ∀ a, A a → B a) : Rp B K H v d := h.kp (M := []) Kp.refl (fun _ _ => nil_mem) hB
theorem Rp.awayS {K H H' v d p} (k : Kp [p] H H') (h : Rp (fun a => a ≠ p) K H v d) : Rp (fun a => a ≠ p) K H' v d := h.kp k (fun _ n => one_mem n) fun _ z => z
theorem RpAll.length {A K H} : ∀ {vs : List V} {ds : List PyData}, RpAll A K H vs ds → vs.length = ds.length
  | _, _, .nil => rfl
  | _, _, .cons _ t => by rw [List.length_cons, List.length_cons, t.length]
theorem RpAll.get {A K H} : ∀ {vs : List V} {ds : List PyData} {i : Nat} {d : PyData}, RpAll A K H vs ds → ds[i]? = some d → ∃ v, vs[i]? = some v ∧ Rp A K H v d
  | _, _, _, _, .nil, e => by simp at e
  | _, _, 0, _, .cons r _, e => by simp at e; subst e; exact ⟨_, rfl, r⟩
  | _, _, i + 1, d, .cons _ t, e => by
    obtain ⟨u, h1, h2⟩ := RpAll.get (i := i) (d := d) t (by simpa using e)
    exact ⟨u, by simpa using h1, h2⟩
theorem RpAll.get' {A K H} : ∀ {vs : List V} {ds : List PyData} {i : Nat} {v : V}, RpAll A K H vs ds → vs[i]? = some v → ∃ d, ds[i]? = some d ∧ Rp A K H v d
  | _, _, _, _, .nil, e => by simp at e
  | _, _, 0, _, .cons r _, e => by simp at e; subst e; exact ⟨_, rfl, r⟩
  | _, _, i + 1, d, .cons _ t, e => by
    obtain ⟨u, h1, h2⟩ := RpAll.get' (i := i) (v := d) t (by simpa using e)
    exact ⟨u, by simpa using h1, h2⟩
theorem RpAll.append {A K H} : ∀ {vs : List V} {ds : List PyData} {us : List V} {es : List PyData}, RpAll A K H vs ds → RpAll A K H us es → RpAll A K H (vs ++ us) (ds ++ es)
  | _, _, _, _, .nil, s => s
  | _, _, _, _, .cons r t, s => .cons r (RpAll.append t s)
theorem RpAll.ints {A K H} : ∀ {vs : List V} {ns : List Int}, RpAll A K H vs (ns.map .int) → vs = ns.map V.int
  | _, [], .nil => rfl
  | _, n :: ns, .cons r t => by
    cases r
    rw [List.map_cons, RpAll.ints t]
theorem RpAll.of_ints {A K H} : ∀ {ns : List Int}, RpAll A K H (ns.map V.int) (ns.map .int)
  | [] => .nil
  | _ :: _ => .cons (.int _) RpAll.of_ints
theorem Rp.ints {A K H v} {ns : List Int} (h : Rp A K H v (.list (ns.map .int))) : ∃ a, v = .ref a ∧ A a ∧ SqL K H a (ns.map V.int) := by
  cases h with
  | lst a s r =>
    have e := r.ints
    subst e
    exact ⟨_, rfl, a, s⟩
theorem Rp.of_ints {A : Addr → Prop} {K H a} {ns : List Int} (h : SqL K H a (ns.map V.int)) (ha : A a) : Rp A K H (.ref a) (.list (ns.map .int)) := .lst ha h RpAll.of_ints
theorem Rp.intv {A K H v i} (h : Rp A K H v (.int i)) : v = .int i := by cases h; rfl
theorem Rp.blv {A K H v i} (h : Rp A K H v (.bool i)) : v = .bl i := by cases h; rfl
theorem Rp.strv {A K H v i} (h : Rp A K H v (.str i)) : v = .str i := by cases h; rfl
theorem Rp.nonv {A K H v} (h : Rp A K H v .none) : v = .non := by cases h; rfl
mutual
theorem Rp.dp {A K H} : ∀ {v : V} {d : PyData}, Rp A K H v d → Dp K H v d
  | _, _, .non => .non
  | _, _, .bl b => .bl b
  | _, _, .int i => .int i
  | _, _, .str x => .str x
  | _, _, .lst _ s r => .lst s (RpAll.dp r)
  | _, _, .tup _ s r => .tup s (RpAll.dp r)
theorem RpAll.dp {A K H} : ∀ {vs : List V} {ds : List PyData}, RpAll A K H vs ds → DpAll K H vs ds
  | _, _, .nil => .nil
  | _, _, .cons r t => .cons (Rp.dp r) (RpAll.dp t)
end
/-! ### isinstance of built-in classes -/
section
variable {K : PySem.W.Frag}
theorem kt_NoneType_bool : PySem.W.kitOne K (.type "NoneType") (.type "bool") = some false := by rfl
theorem kt_NoneType_int : PySem.W.kitOne K (.type "NoneType") (.type "int") = some false := by rfl
theorem kt_NoneType_str : PySem.W.kitOne K (.type "NoneType") (.type "str") = some false := by rfl
theorem kt_NoneType_list : PySem.W.kitOne K (.type "NoneType") (.type "list") = some false := by rfl
theorem kt_NoneType_tuple : PySem.W.kitOne K (.type "NoneType") (.type "tuple") = some false := by rfl
theorem kta_NoneType : PySem.W.kitAny K (.type "NoneType") [.type "list", .type "tuple"] = some false := by rfl
theorem kt_bool_bool : PySem.W.kitOne K (.type "bool") (.type "bool") = some true := by rfl
theorem kt_bool_int : PySem.W.kitOne K (.type "bool") (.type "int") = some true := by rfl
theorem kt_bool_str : PySem.W.kitOne K (.type "bool") (.type "str") = some false := by rfl
theorem kt_bool_list : PySem.W.kitOne K (.type "bool") (.type "list") = some false := by rfl
theorem kt_bool_tuple : PySem.W.kitOne K (.type "bool") (.type "tuple") = some false := by rfl
theorem kta_bool : PySem.W.kitAny K (.type "bool") [.type "list", .type "tuple"] = some false := by rfl
theorem kt_int_bool : PySem.W.kitOne K (.type "int") (.type "bool") = some false := by rfl
theorem kt_int_int : PySem.W.kitOne K (.type "int") (.type "int") = some true := by rfl
theorem kt_int_str : PySem.W.kitOne K (.type "int") (.type "str") = some false := by rfl
theorem kt_int_list : PySem.W.kitOne K (.type "int") (.type "list") = some false := by rfl
theorem kt_int_tuple : PySem.W.kitOne K (.type "int") (.type "tuple") = some false := by rfl
theorem kta_int : PySem.W.kitAny K (.type "int") [.type "list", .type "tuple"] = some false := by rfl
theorem kt_str_bool : PySem.W.kitOne K (.type "str") (.type "bool") = some false := by rfl
theorem kt_str_int : PySem.W.kitOne K (.type "str") (.type "int") = some false := by rfl
theorem kt_str_str : PySem.W.kitOne K (.type "str") (.type "str") = some true := by rfl
theorem kt_str_list : PySem.W.kitOne K (.type "str") (.type "list") = some false := by rfl
theorem kt_str_tuple : PySem.W.kitOne K (.type "str") (.type "tuple") = some false := by rfl
theorem kta_str : PySem.W.kitAny K (.type "str") [.type "list", .type "tuple"] = some false := by rfl
theorem kt_list_bool : PySem.W.kitOne K (.type "list") (.type "bool") = some false := by rfl
theorem kt_list_int : PySem.W.kitOne K (.type "list") (.type "int") = some false := by rfl
theorem kt_list_str : PySem.W.kitOne K (.type "list") (.type "str") = some false := by rfl
theorem kt_list_list : PySem.W.kitOne K (.type "list") (.type "list") = some true := by rfl
theorem kt_list_tuple : PySem.W.kitOne K (.type "list") (.type "tuple") = some false := by rfl
theorem kta_list : PySem.W.kitAny K (.type "list") [.type "list", .type "tuple"] = some true := by rfl
theorem kt_tuple_bool : PySem.W.kitOne K (.type "tuple") (.type "bool") = some false := by rfl
theorem kt_tuple_int : PySem.W.kitOne K (.type "tuple") (.type "int") = some false := by rfl
theorem kt_tuple_str : PySem.W.kitOne K (.type "tuple") (.type "str") = some false := by rfl
theorem kt_tuple_list : PySem.W.kitOne K (.type "tuple") (.type "list") = some false := by rfl
theorem kt_tuple_tuple : PySem.W.kitOne K (.type "tuple") (.type "tuple") = some true := by rfl
theorem kta_tuple : PySem.W.kitAny K (.type "tuple") [.type "list", .type "tuple"] = some true := by rfl
end
/-! ### isinstance -/
section
variable {K : PySem.W.Frag} {H : Hp} {Q : VK}
theorem tyx_l {a xs} (h : SqL K H a xs) : TyX K H (.ref a) (.type "list") := by
  rcases h with (h | ⟨o, h⟩) | ⟨o, its, n, h1, h2, _⟩
  · exact .base (.lst h)
  · exact .base (.frz h)
  · exact .kList h1 h2
theorem tyx_t {a xs} (h : SqT K H a xs) : TyX K H (.ref a) (.type "tuple") := by
  rcases h with (h | ⟨o, h⟩) | ⟨o, its, n, h1, h2, _⟩
  · exact .base (.tup h)
  · exact .fTuple h
  · exact .kTuple h1 h2
theorem x_isi {x : V} {T C : String} {b : Bool} (ht : TyX K H x (.type T)) (hk : PySem.W.kitOne K (.type T) (.type C) = some b) (q : Q (.bl b) H) : rIsi K [x, .ty C] H Q := ⟨x, .ty C, .type T, .type C, b, rfl, .ty C, ht, hk, q⟩
theorem x_isiT {x : V} {tp : Addr} {T C D : String} {b : Bool} (htp : H tp = some (.tup [.ty C, .ty D])) (ht : TyX K H x (.type T)) (hk : PySem.W.kitAny K (.type T) [.type C, .type D] = some b) (q : Q (.bl b) H) : rIsiT K [x, .ref tp] H Q :=
  ⟨x, tp, [.ty C, .ty D], .type T, [.type C, .type D], b, rfl, htp, .cons (.ty C) (.cons (.ty D) .nil), ht, hk, q⟩
theorem x_ixSL {p : Addr} {i : Int} {v : V} {xs : List V} (h : SqL K H p xs) (ha : atI xs i = some v) (q : Q v H) : rIx K (.ref p) (.int i) H Q := .inl (x_ixL h ha q)
theorem x_ixST {p : Addr} {i : Int} {v : V} {xs : List V} (h : SqT K H p xs) (ha : atI xs i = some v) (q : Q v H) : rIx K (.ref p) (.int i) H Q := .inr (.inl (x_ixT h ha q))
/-- told is None -/
def rIsN : R2 := fun x y H Q => y = .non ∧ Q (.bl (decide (x = .non))) H
theorem op_isN' {X : Cx} : OpR X (compareOp .Is) rIsN := op_isN
theorem x_isN {x : V} (q : Q (.bl (decide (x = .non))) H) : rIsN x .non H Q := ⟨rfl, q⟩
theorem x_isN0 (q : Q (.bl true) H) : rIsN .non .non H Q := ⟨rfl, q⟩
theorem x_isN1 {i : Int} (q : Q (.bl false) H) : rIsN (.int i) .non H Q := ⟨rfl, q⟩
theorem x_isN2 {i : Bool} (q : Q (.bl false) H) : rIsN (.bl i) .non H Q := ⟨rfl, q⟩
theorem x_isN3 {i : Str} (q : Q (.bl false) H) : rIsN (.str i) .non H Q := ⟨rfl, q⟩
theorem x_isN4 {i : Addr} (q : Q (.bl false) H) : rIsN (.ref i) .non H Q := ⟨rfl, q⟩
def rNotN : R2 := fun x y H Q => y = .non ∧ Q (.bl (!decide (x = .non))) H
theorem op_notN' {X : Cx} : OpR X (compareOp .IsNot) rNotN := op_notN
theorem x_notN {x : V} (q : Q (.bl (!decide (x = .non))) H) : rNotN x .non H Q := ⟨rfl, q⟩
end
/-- a def of which nothing is asked (a recursion's last level) -/
theorem DefAt.never {P : Program} {w : World} {K : PySem.W.Frag} {mg : Str → Option Value} {base : Heap} {CX : CXT} {k : Nat} {x : Str} {ps : List Str} {st : Stmt} (h : DefAt K mg x ps st) : Okk P w K mg base CX k x ps (fun _ _ _ _ => False) := by
  obtain ⟨f, fd, a, F, c⟩ := h
  exact ⟨f, fd, a, F.kp, c, ⟨fun _ _ _ _ z => z.elim, fun _ _ _ _ _ _ _ _ _ _ _ _ _ z => z.elim⟩⟩
end LN
namespace LN
open PySem PySem.Spec PyProof.Rows L2 L2H
/-! ### a def that is handed the exception which is being handled (p: its address, its object); nothing leaves it -/
structure FnE (P : Program) (w : World) (K : PySem.W.Frag) (mg : Str → Option Value) (base : Heap) (k : Nat) (f : Addr) (fd : FuncData) (ps : List Str) (sp : Addr × Obj → Sp) : Prop where
  len : ∀ p vs H Q E, sp p vs H Q E → vs.length = ps.length
  run : ∀ (A : Around) (outer : List Env) (s : Shared) (H : Hp) (args : Args) (us : List Value) (vs : List V) (Q : VK) (p : Addr × Obj), RoomH k A → PinOk outer H s p → Env0 P w K mg base A outer s H →
    BindsTo s fd args (ps.zip us) → Vals vs us → sp p vs H Q E0 → codeAny (model P w) A (.call (.ref f) args) (CR CX0 outer P w H s Q E0) s
theorem FnE.mono {P : Program} {w : World} {K : PySem.W.Frag} {mg : Str → Option Value} {base : Heap} {j k : Nat} {f : Addr} {fd : FuncData} {ps : List Str} {sp : Addr × Obj → Sp} (F : FnE P w K mg base j f fd ps sp) (h : j ≤ k) : FnE P w K mg base k f fd ps sp :=
  ⟨F.len, fun A outer s H args us vs Q p hr => F.run A outer s H args us vs Q p (hr.mono h)⟩
abbrev cxE (P : Program) (w : World) (K : PySem.W.Frag) (mg : Str → Option Value) (base : Heap) (N : List Str) (qual : Str) (scope : Scope) (f : Addr) (cd : Value) (A : Around) (outer : List Env) (s : Shared) (H : Hp) (p : Addr × Obj) : Cx := cxH CX0 P w K mg base N qual scope f cd A outer s H E0 p
section
variable {P : Program} {w : World} {K : PySem.W.Frag} {mg : Str → Option Value} {base : Heap}
theorem fnE_of {k : Nat} {f : Addr} {name qual : Str} {params : Arguments} {body : List Stmt} {scope : Scope} {dV kV doc pm cdv ct oc : Value} {an od : Option Addr} {osl : Array (Option Value)} {N ps : List Str} {sp : Addr × Obj → Sp}
    (lk : K.lookup f = some ⟨oc, od, .func (PySem.W.fnOf name qual params body scope dV kV doc pm an cdv ct), osl⟩) (hcd : PySem.W.codeIn K cdv qual = true) (S : FnScope N ps scope) (len : ∀ p vs H Q E, sp p vs H Q E → vs.length = ps.length)
    (hbody : ∀ (A : Around) (outer : List Env) (s : Shared) (H : Hp) (vs : List V) (Q : VK) (p : Addr × Obj), RoomH k (A.deeper (envOfC qual scope s.heap.objs.size f cdv)) → sp p vs H Q E0 →
      ∃ t, PSs (cxE P w K mg base N qual scope f cdv A outer s H p) body t ∧ t { nx := fun _ H' => Q .non H', rt := Q } (L2.start N vs) H) :
    FnE P w K mg base (k + 1) f (PySem.W.fnOf name qual params body scope dV kV doc pm an cdv ct) ps sp where
  len := len
  run := by
    intro A outer s H args us vs Q p hr hpin e0 hb rv hsp
    have hl := len _ _ _ _ _ hsp
    have kept : ∀ b o, base.get? b = some o → s.heap.get? b = some o := fun b o e => (e0.bs b o e).1
    have KX : K.In s.heap := e0.mod.kin.keeps kept
    have nolim : s.heap.NoLimit := e0.mod.nolimit.keeps kept
    refine codeAny_call_function hr.depth (KX _ _ lk) rfl S.co S.gen rfl (PySem.W.codeRec_of KX hcd) (hb _ _ _ _ ?_)
    refine wpAny_newFunctionEnv_cells S.kind ?hk fun env he s1 x => ?_
    case hk =>
      rintro ⟨n, v⟩ hy
      cases S.par n (List.of_mem_zip hy).1 with
      | inl q => exact .inl q
      | inr q => exact .inr ⟨q, PySem.W.cellsFrom_some _ _ _ (.inl q)⟩
    subst he
    refine ⟨nolim.keeps x.toInCall.keep, codeAny_func ?_⟩
    obtain ⟨t, ht, hq⟩ := hbody A outer s H vs Q p (hr.deeper _) hsp
    have J0 := inv_startH (CX := CX0) (E := E0) (N := N) (f := f) (cd := cdv) (qual := qual) S hpin e0 hl rv x
    refine wpAny_mono (ht.run [] s1 _ H _ J0 hq) (fun fl s' hs => ?_) fun e s' hs => hs
    cases fl with
    | brk => exact hs.elim fun _ z => z.elim fun _ y => y.2.elim
    | cont => exact hs.elim fun _ z => z.elim fun _ y => y.2.elim
    | next =>
      obtain ⟨sg, H', J, q⟩ := hs
      exact ⟨V.non, H', J.os, J.bare, J.base, J.hok, rfl, q⟩
    | ret u =>
      obtain ⟨v, sg, H', J, r, q⟩ := hs
      exact ⟨v, H', J.os, J.bare, J.base, J.hok, r, q⟩
end
section
variable {X : Cx} {k : Nat} {f : Addr} {fd : FuncData} {ps : List Str} {sp : Addr × Obj → Sp} {x : Str} {pos q : Pos} {e : Expr} {es : List Expr} {t : TA} {p : Addr × Obj}
theorem run_fnE {pins : List (Addr × Obj)} {σ : St} {H : Hp} {s : Shared} {Q : VK} {us : List Value} {vs : List V} (F : FnE X.prog X.w X.K X.mg X.base k f fd ps sp) (hr : RoomH k X.A) (hp : p ∈ X.pn) (hb : Binds X.K fd ps [])
    (J : Inv X pins σ H s) (rv : Vals vs us) (hh : sp p vs H Q E0) : wpAny (model X.prog X.w) X.A (call (.ref f) us) (EP X pins σ Q) X.xe s := by
  have hlen : us.length = ps.length := rv.length.symm.trans (F.len _ _ _ _ _ hh)
  have bnd := hb s us J.kIn (by simpa using hlen)
  rw [List.append_nil] at bnd
  obtain ⟨g1, g2, g3, g4, g5⟩ := J.pin p (List.mem_append_left _ hp)
  have hpin : PinOk X.stack H s p := ⟨g1, g2, fun hm => by
    rcases List.mem_cons.mp (J.stkSub p.1 hm) with z | z
    · exact g3 z
    · exact g4 z, g5⟩
  refine wpAny_call (codeAny_mono (F.run X.A X.stack s H ⟨us, []⟩ us vs Q p hr hpin J.env0 bnd rv hh) fun r s' hq => ?_)
  match r, hq with
  | .ok (.ret u), hq => exact J.after hq
  | .ok .next, hq => exact hq.elim
  | .ok .brk, hq => exact hq.elim
  | .ok .cont, hq => exact hq.elim
  | .error e, hq => exact hq.elim
def tCallE (sp : Addr × Obj → Sp) (p : Addr × Obj) (t : TA) : TE := fun σ H Q => t σ H fun vs H1 => sp p vs H1 Q E0
def OkE (P : Program) (w : World) (K : PySem.W.Frag) (mg : Str → Option Value) (base : Heap) (k : Nat) (x : Str) (ps : List Str) (sp : Addr × Obj → Sp) : Prop :=
  ∃ f fd, mg x = some (.ref f) ∧ PySem.W.keepIn K (.ref f) = true ∧ Binds K fd ps [] ∧ FnE P w K mg base k f fd ps sp
theorem OkE.mono {P : Program} {w : World} {K : PySem.W.Frag} {mg : Str → Option Value} {base : Heap} {j k : Nat} {x : Str} {ps : List Str} {sp : Addr × Obj → Sp} (h : OkE P w K mg base j x ps sp) (l : j ≤ k) : OkE P w K mg base k x ps sp := by
  obtain ⟨f, fd, a, b, c, d⟩ := h
  exact ⟨f, fd, a, b, c, d.mono l⟩
theorem pe_ownE (D : OkE X.prog X.w X.K X.mg X.base k x ps sp) (hr : RoomH k X.A) (hp : p ∈ X.pn) (ha : PA X (e :: es) t) (hg : Gl X x := by rfl)
    (hdb : (x == ("__debug__" : Str)) = false := by decide) (he : starEach (e :: es) X.env = (false, eval e X.env) :: starEach es X.env := by rfl) (hpl : (backTo pos (starEach es X.env)).any (·.1) = false := by rfl) :
    PE X (.Call (.Name x q) (e :: es) [] pos) (tCallE sp p t) := by
  obtain ⟨f, fd, a, b, c, d⟩ := D
  refine ⟨fun pins s σ H Q I h => ?_⟩
  refine wpAny_Call_Name_kw (ld_glob I hg a ?_ hdb)
  refine PySem.W.callWith_K (h₀ := X.base) I.ok.mod.kin b (thn (ha.run pos pins s σ H _ I h) fun us s1 hh => ?_) he hpl
  obtain ⟨vs, H1, I1, r, z⟩ := hh
  exact ⟨I1.kIn, run_fnE d hr hp c I1 r z⟩
theorem DefAt.okE {P : Program} {w : World} {K : PySem.W.Frag} {mg : Str → Option Value} {base : Heap} {N : List Str} {st : Stmt} (h : DefAt K mg x ps st) (S : FnScope N ps (defScope st)) (len : ∀ p vs H Q E, sp p vs H Q E → vs.length = ps.length)
    (hb : ∀ (cdv : Value) (f : Addr) (A : Around) (outer : List Env) (s : Shared) (H : Hp) (vs : List V) (Q : VK) (p : Addr × Obj), RoomH k (A.deeper (envOfC x (defScope st) s.heap.objs.size f cdv)) → sp p vs H Q E0 →
      ∃ t, PSs (cxE P w K mg base N x (defScope st) f cdv A outer s H p) (defBody st) t ∧ ∃ sg, StartTo N vs sg ∧ t { nx := fun _ H' => Q .non H', rt := Q } sg H) : OkE P w K mg base (k + 1) x ps sp := by
  obtain ⟨f, fd, a, F, c⟩ := h
  obtain ⟨oc, od, dV, kV, doc, pm, an, cdv, ct, osl, rfl, lk, hcd, _, _⟩ := F.ex
  refine ⟨f, _, a, F.kp, c, fnE_of lk hcd S len fun A outer s H vs Q p hr hs => ?_⟩
  obtain ⟨t, h1, sg, h2, h3⟩ := hb cdv f A outer s H vs Q p hr hs
  exact ⟨t, h1, h2.eq ▸ h3⟩
/-! ### isinstance of that exception -/
def rIsiE (K : PySem.W.Frag) (D : Addr) (a : Addr) : List V → Hp → VK → Prop := fun xs H Q => ∃ (c : V) (u : Value) (b : Bool), xs = [.ref a, c] ∧ ClsV c u ∧ PySem.W.kitOne K (.ref D) u = some b ∧ Q (.bl b) H
def rIsiET (K : PySem.W.Frag) (D : Addr) (a : Addr) : List V → Hp → VK → Prop := fun xs H Q => ∃ (tp : Addr) (cs : List V) (us : List Value) (b : Bool), xs = [.ref a, .ref tp] ∧ H tp = some (.tup cs) ∧ Paired ClsV cs us ∧ PySem.W.kitAny K (.ref D) us = some b ∧ Q (.bl b) H
/-- what the exception's object is: of the class D, with the dict d -/
structure ExAt (K : PySem.W.Frag) (D : Addr) (d : Option Addr) (oe : Obj) : Prop where
  z : Zc (.ref D) d oe
  f : ∃ vs, oe.data = .fields vs
/-- how it answers isinstance: for every heap in which it stands -/
def KitE (K : PySem.W.Frag) (D a : Addr) (oe : Obj) (d : Option Addr) : Prop := KitX' K D a oe d
where KitX' (K : PySem.W.Frag) (D a : Addr) (oe : Obj) (d : Option Addr) : Prop := ∃ Z : Heap → Prop, PySem.W.KitX K (.ref a) (.ref D) Z ∧ ∀ h : Heap, h.get? a = some oe → (∀ dd, d = some dd → ∃ od, h.get? dd = some od) → Z h
theorem kitE_none {K : PySem.W.Frag} {D a : Addr} {oe : Obj} (C : ExcC K D) (E : ExAt K D none oe) : KitE K D a oe none := by
  refine ⟨_, PySem.W.handS_kitx_exc (ox := oe) C.hg C.hk C.hs C.hd C.ha C.hn C.ht C.hm, fun h hg _ => ?_⟩
  obtain ⟨⟨h1, h2⟩, vs, hv⟩ := E
  obtain ⟨oc, od, oda, osl⟩ := oe
  dsimp only at h1 h2 hv
  subst h1 h2 hv
  exact ⟨hg, rfl, rfl, trivial⟩
theorem call_isiE {a D : Addr} {oe : Obj} (hp : (a, oe) ∈ X.pn) (Z : KitE X.K D a oe none) : CallR X (.builtin "isinstance") (rIsiE X.K D a) := by
  intro pins s σ H xs us Q I r h
  obtain ⟨c, u, b, rfl, hc, hk, z⟩ := h
  obtain ⟨u1, u2, rfl, r1, r2⟩ := vals2 r
  cases (show u1 = Value.ref a from r1)
  have e2 := hc.eq r2
  subst e2
  obtain ⟨Zp, kx, hz⟩ := Z
  obtain ⟨hget, _⟩ := I.pin (a, oe) (List.mem_append_left _ hp)
  exact PySem.W.kia_one kx I.kIn (hz _ hget fun _ z => nomatch z) hk (fun z => nomatch z) fun tk => ⟨.bl b, H, I.tok tk, rfl, z⟩
theorem call_isiET {a D : Addr} {oe : Obj} (hp : (a, oe) ∈ X.pn) (Z : KitE X.K D a oe none) : CallR X (.builtin "isinstance") (rIsiET X.K D a) := by
  intro pins s σ H xs us Q I r h
  obtain ⟨tp, cs, ws, b, rfl, hT, hc, hk, z⟩ := h
  obtain ⟨u1, u2, rfl, r1, r2⟩ := vals2 r
  cases (show u1 = Value.ref a from r1)
  cases (show u2 = Value.ref tp from r2)
  obtain ⟨Zp, kx, hz⟩ := Z
  obtain ⟨hget, _⟩ := I.pin (a, oe) (List.mem_append_left _ hp)
  obtain ⟨_, its, rv, o, g1, g2, n, g3⟩ := (show ObjOk X.prog X.w H s.heap tp (.tup cs) from I.hok tp _ hT)
  have e3 := ClsV.all hc rv
  subst e3
  obtain ⟨oc, od, dt, sl⟩ := o
  simp only at g2 g3
  subst g2 g3
  exact PySem.W.kia_tup kx I.kIn (hz _ hget fun _ z => nomatch z) g1 hk (fun z => nomatch z) fun tk => ⟨.bl b, H, I.tok tk, rfl, z⟩
end
/-! ### errors raised, calls that may raise -/
/-- an own error class without an __init__ of its own -/
structure Ex0 (K : PySem.W.Frag) (mg : Str → Option Value) (x : Str) (C : Addr) : Prop where
  g : mg x = some (.ref C)
  q : PySem.W.excIn K C He.veBase "ValueError.__new__" = true
  k : PySem.W.keepIn K (.ref C) = true
  e : PySem.W.subIn K (.ref C) (.type "BaseException") = some true
  t : PySem.W.typeIn K (.ref C) = some (.type "type")
def tRz (W : WX) (C : Addr) : TS := fun _ σ H => W (.ref C) none σ H
section
variable {X : Cx} {k : Nat} {ps : List Str} {sp : Sp} {x : Str} {pos q pos' : Pos} {e : Expr} {es : List Expr} {t : TA} {C : Addr} {W : WX}
theorem pmk_own0 (Y : Ex0 X.K X.mg x C) (hg : Gl X x) (hdb : (x == ("__debug__" : Str)) = false := by decide) : PMk X (.Call (.Name x q) [] [] pos) (fun _ H Q => Q (.ref C) none H) := by
  intro pins s σ H Q J h
  refine wpAny_Call_Name_kw (ld_glob J hg Y.g ?_ hdb)
  refine PySem.W.callWith_K0 J.kIn Y.k ?_
  obtain ⟨_, _, _, _, _, _, _, _, _, _, _, _, _, _, _, _, _, hC, hN, hni, T⟩ := exc_obj J.kIn Y.q
  exact wpAny_call_exc_subT PySem.F.excBase_ValueError T hC hN hni (fun h' e hm => mk_of J hm (raises_own Y.e Y.t) h (J.hok.gone hm.new)) (by show 0 ≤ sizeLine; omega)
theorem ps_raise0 (hc : X.calm = true) (tk : Takes X W) (Y : Ex0 X.K X.mg x C) (hg : Gl X x := by rfl) (hdb : (x == ("__debug__" : Str)) = false := by decide) : PS X (.Raise (some (.Call (.Name x q) [] [] pos)) none pos') (tRz W C) :=
  ps_raise hc tk (pmk_own0 Y hg hdb)
theorem x_rz {D : Ends} {σ : St} {H : Hp} (z : W (.ref C) none σ H) : tRz W C D σ H := z
/-- a call of a def that may raise, in a def that lets it out -/
theorem pe_ownX {E : XK} (D : Okk X.prog X.w X.K X.mg X.base (L2.CX X.prog X.w) k x ps sp) (hr : Room k X.A) (hx : Passes (L2.CX X.prog X.w) X E) (ha : PA X (e :: es) t) (hg : Gl X x := by rfl)
    (hdb : (x == ("__debug__" : Str)) = false := by decide) (he : starEach (e :: es) X.env = (false, eval e X.env) :: starEach es X.env := by rfl) (hpl : (backTo pos (starEach es X.env)).any (·.1) = false := by rfl) :
    PE X (.Call (.Name x q) (e :: es) [] pos) (tCall sp [] E t) := by
  obtain ⟨f, fd, a, b, c, d⟩ := D
  exact pe_call d hr hg a b c .nil hx ha hdb he hpl
/-- .. in a try -/
def tCallW (sp : Sp) (W : WX) (t : TA) : TE := fun σ H Q => t σ H fun vs H1 => sp vs H1 Q fun cls d H' => W cls d σ H'
theorem pe_ownS (D : Okk X.prog X.w X.K X.mg X.base (L2.CX X.prog X.w) k x ps sp) (hr : Room k X.A) (tk : Takes X W) (ha : PA X (e :: es) t) (hg : Gl X x := by rfl)
    (hdb : (x == ("__debug__" : Str)) = false := by decide) (he : starEach (e :: es) X.env = (false, eval e X.env) :: starEach es X.env := by rfl) (hpl : (backTo pos (starEach es X.env)).any (·.1) = false := by rfl) :
    PE X (.Call (.Name x q) (e :: es) [] pos) (tCallW sp W t) := by
  obtain ⟨f, fd, a, b, c, d⟩ := D
  exact pe_callS d hr hg a b c (fun σ => passAt tk σ) ha hdb he hpl
/-- in a suite: a def that is handed the caught exception (a: its address, cls, d: its class, its dict) -/
def tCallH (sp : Addr × Obj → Sp) (a : Addr) (cls : Value) (d : Option Addr) (t : TA) : TE := fun σ H Q => t σ H fun vs H1 => ∀ oe : Obj, Zc cls d oe → (∃ vs, oe.data = .fields vs) → sp (a, oe) vs H1 Q E0
theorem pe_ownH {sp : Addr × Obj → Sp} {a : Addr} {oe : Obj} {cls : Value} {d : Option Addr} (D : OkE X.prog X.w X.K X.mg X.base k x ps sp) (hr : RoomH k X.A) (hp : (a, oe) ∈ X.pn) (hz : Zc cls d oe) (hf : ∃ vs, oe.data = .fields vs) (ha : PA X (e :: es) t) (hg : Gl X x := by rfl)
    (hdb : (x == ("__debug__" : Str)) = false := by decide) (he : starEach (e :: es) X.env = (false, eval e X.env) :: starEach es X.env := by rfl) (hpl : (backTo pos (starEach es X.env)).any (·.1) = false := by rfl) :
    PE X (.Call (.Name x q) (e :: es) [] pos) (tCallH sp a cls d t) := by
  obtain ⟨f, fd, g1, g2, g3, F⟩ := D
  refine ⟨fun pins s σ H Q J h => ?_⟩
  refine wpAny_Call_Name_kw (ld_glob J hg g1 ?_ hdb)
  refine PySem.W.callWith_K (h₀ := X.base) J.ok.mod.kin g2 (thn (ha.run pos pins s σ H _ J h) fun us s1 hh => ?_) he hpl
  obtain ⟨vs, H1, J1, r, z⟩ := hh
  exact ⟨J1.kIn, run_fnE F hr hp g3 J1 r (z oe hz hf)⟩
theorem x_callW {σ : St} {H : Hp} {Q : VK} (z : t σ H fun vs H1 => sp vs H1 Q fun cls d H' => W cls d σ H') : tCallW sp W t σ H Q := z
theorem x_callH {sp : Addr × Obj → Sp} {a : Addr} {cls : Value} {d : Option Addr} {σ : St} {H : Hp} {Q : VK} (z : t σ H fun vs H1 => ∀ oe : Obj, Zc cls d oe → (∃ vs, oe.data = .fields vs) → sp (a, oe) vs H1 Q E0) : tCallH sp a cls d t σ H Q := z
end
section
variable {K : PySem.W.Frag} {H : Hp} {Q : VK} {D a C : Addr}
theorem x_isiE1 {b : Bool} (hk : PySem.W.kitOne K (.ref D) (.ref C) = some b) (q : Q (.bl b) H) : rIsiE K D a [.ref a, .ref C] H Q := ⟨_, _, b, rfl, .own C, hk, q⟩
theorem x_isiE2 {n : String} {b : Bool} (hk : PySem.W.kitOne K (.ref D) (.type n) = some b) (q : Q (.bl b) H) : rIsiE K D a [.ref a, .ty n] H Q := ⟨_, _, b, rfl, .ty n, hk, q⟩
theorem x_isiET {tp : Addr} {cs : List V} {us : List Value} {b : Bool} (ht : H tp = some (.tup cs)) (hc : Paired ClsV cs us) (hk : PySem.W.kitAny K (.ref D) us = some b) (q : Q (.bl b) H) : rIsiET K D a [.ref a, .ref tp] H Q := ⟨tp, cs, us, b, rfl, ht, hc, hk, q⟩
theorem x_was {c cls : Value} {i : Nat} {ts : Addr → Value → Option Addr → TS} {Wout : WX} {Ds : Ends} {d : Option Addr} {σ : St} (he : PySem.W.exmOne K cls c = some true)
    (q : ∀ a, H a = none → ts a cls d { nx := fun s' H' => Ds.nx (s'.set i none) H', rt := Ds.rt, bk := fun s' H' => Ds.bk (s'.set i none) H', ct := fun s' H' => Ds.ct (s'.set i none) H' } (σ.set i (some (.ref a))) H) : wAs K c i ts Wout Ds cls d σ H :=
  ⟨true, he, fun _ => q, fun z => nomatch z⟩
/-- facts of classes, by names -/
def kitNN (K : PySem.W.Frag) (x y : Str) (b : Bool) : Bool := decide (PySem.W.kitOne K (.ref (He.ga K x)) (.ref (He.ga K y)) = some b)
def kitNT (K : PySem.W.Frag) (x : Str) (n : String) (b : Bool) : Bool := decide (PySem.W.kitOne K (.ref (He.ga K x)) (.type n) = some b)
def kitNA (K : PySem.W.Frag) (x : Str) (ys : List Str) (b : Bool) : Bool := decide (PySem.W.kitAny K (.ref (He.ga K x)) (ys.map fun y => .ref (He.ga K y)) = some b)
def excB (K : PySem.W.Frag) (x : Str) : Bool :=
  decide (PySem.W.findIn K (.ref (He.ga K x)) "__getattribute__" = some (some (.builtin "BaseException.__getattribute__"))) && decide (PySem.W.findIn K (.ref (He.ga K x)) "__getattr__" = some none) &&
  decide (PySem.W.subIn K (.ref (He.ga K x)) (.type "BaseException") = some true) && PySem.W.hasDictIn K (He.ga K x) && decide (PySem.W.findIn K (.ref (He.ga K x)) "__class__" = some (some (.builtin "object.__class__"))) &&
  decide (PySem.W.specialIn K (.builtin "object.__class__") "__get__" = some (some (.builtin "getset_descriptor.__get__"))) && decide (PySem.W.takesIn K (.builtin "object.__class__") = some true) && decide (PySem.W.mroIn K (He.ga K x) (.type "object") = some true)
theorem excB_ok {x : Str} (h : excB K x = true) : ExcC K (He.ga K x) := by
  unfold excB at h
  simp only [Bool.and_eq_true, decide_eq_true_eq] at h
  obtain ⟨⟨⟨⟨⟨⟨⟨h1, h2⟩, h3⟩, h4⟩, h5⟩, h6⟩, h7⟩, h8⟩ := h
  exact ⟨h1, h2, h3, h4, h5, h6, h7, h8⟩
theorem ex0_ok {h : Heap} {mg : Str → Option Value} {x : Str} (X : K.In h) (G : h.Ns mainGlobals mg) (c : (He.Fa.exc x).ok K = true) (c2 : (He.Fa.glo x).ok K = true) : Ex0 K mg x (He.ga K x) := by
  obtain ⟨a1, a2, a3, a4⟩ := He.exc_ok c
  exact ⟨He.glo_ok X G c2, a1, a2, a3, a4⟩
end
end LN
namespace LN
open PySem PySem.Spec PyProof.Rows L2
section
variable {K : PySem.W.Frag} {σ : St} {H : Hp} {D : Ends} {g : TG} {tb : TS} {ta : TA}
/-- range(i, j, -1) -/
def ItD (R : It → Hp → Prop) : List V → Hp → Prop := fun vs H1 => ∃ (i j c : Int) (n : Nat), vs = [.int i, .int j, .int c] ∧ RgC i j c n ∧ R (Itc i c n) H1
theorem x_itR3 {R : It → Hp → Prop} (q : ta σ H (ItD R)) : iRng3 ta σ H R := q
theorem l_down {i j : Int} (hb : -100000 < i ∧ i < 100000 ∧ -100000 < j ∧ j < 100000) (Pv : Nat → St → Hp → Prop) (h0 : Pv 0 σ H)
    (hs : ∀ (m : Nat) s' H', (m : Int) < i - j → Pv m s' H' → g (.int (i - (m : Int))) s' H' fun σ2 H2 => tb { D with nx := Pv (m + 1), ct := Pv (m + 1), bk := D.nx } σ2 H2) (hd : ∀ s' H', Pv (i - j).toNat s' H' → D.nx s' H') : ItD (fun J H1 => ForG J g tb D σ H1) [.int i, .int j, .int (-1)] H :=
  ⟨i, j, -1, (i - j).toNat, rfl, RgC.neg (by omega) (by omega) (by omega) (by omega), for_rangeC (lo := i) (c := -1) (n := (i - j).toNat) Pv h0 (fun m s' H' hm hp => by
    have e : i + (m : Int) * (-1) = i - (m : Int) := by omega
    rw [e]
    exact hs m s' H' (by omega) hp) hd⟩
/-- enumerate(xs) -/
def ItE (K : PySem.W.Frag) (R : It → Hp → Prop) : List V → Hp → Prop := fun vs H1 => ∃ a xs, vs = [.ref a] ∧ SqL K H1 a xs ∧ R (Ite K a) H1
theorem x_itE {R : It → Hp → Prop} (q : ta σ H (ItE K R)) : iEnum K ta σ H R := q
theorem l_enum {p : Addr} {xs : List V} (h : SqL K H p xs) (Pv : Nat → St → Hp → Prop) (h0 : Pv 0 σ H) (hl : ∀ i s' H', i ≤ xs.length → Pv i s' H' → SqL K H' p xs)
    (hs : ∀ (i : Nat) x T s' H', xs[i]? = some x → H' T = none → Pv i s' H' → g (.ref T) s' (upd H' T (.tup [.int (i : Int), x])) fun σ2 H2 => tb { D with nx := Pv (i + 1), ct := Pv (i + 1), bk := D.nx } σ2 H2)
    (hd : ∀ s' H', Pv xs.length s' H' → D.nx s' H') : ItE K (fun J H1 => ForG J g tb D σ H1) [.ref p] H := by
  refine ⟨p, xs, rfl, h, fun i m s' H' => m = xs.length - i ∧ i ≤ xs.length ∧ Pv i s' H', ⟨xs.length, by simp, Nat.zero_le _, h0⟩, ?_⟩
  rintro i m s' H' ⟨rfl, hi, z⟩
  have sq := hl i s' H' hi z
  rcases Nat.lt_or_ge i xs.length with lt | ge
  · refine .inr ⟨⟨xs, xs[i], sq, List.getElem?_eq_getElem lt⟩, Pv (i + 1), fun s2 H2 z2 => ⟨_, by omega, rfl, lt, z2⟩, ?_⟩
    rintro _ _ ⟨T, y, rfl, fT, rfl, gy⟩
    exact hs i y T s' H' (gy xs sq) fT z
  · obtain rfl : i = xs.length := Nat.le_antisymm hi ge
    exact .inl ⟨⟨xs, sq, Nat.le_refl _⟩, hd s' H' z⟩
/-- a comprehension over a tuple -/
theorem l_lcT {p : Addr} {xs : List V} {tt : TT} {te : TE} {vs : List Nat} {Q : VK} {s0 : St} (hw : wipe σ vs = s0) (h : SqT K H p xs) (Pv : Addr → Nat → Hp → Prop) (h0 : ∀ Dl, H Dl = none → Pv Dl 0 (upd H Dl (.lst []))) (hl : ∀ Dl i H', H Dl = none → i ≤ xs.length → Pv Dl i H' → SqT K H' p xs)
    (hs : ∀ Dl i x H', H Dl = none → xs[i]? = some x → Pv Dl i H' → g x s0 H' fun σ2 H2 => wipe σ2 vs = s0 ∧ tt σ2 H2 fun b H3 =>
      if b = true then te σ2 H3 fun y H4 => ∃ acc, H4 Dl = some (.lst acc) ∧ acc.length < sizeLine ∧ Pv Dl (i + 1) (upd H4 Dl (.lst (acc ++ [y]))) else Pv Dl (i + 1) H3)
    (hd : ∀ Dl H', H Dl = none → Pv Dl xs.length H' → Q (.ref Dl) H') : ItT K (fun J H1 => LcG J g tt te vs σ H1 Q) (.ref p) H := by
  subst hw
  exact ⟨p, rfl, ⟨xs, h⟩, fun Dl hD => lc_tup (xs := xs) (Pv Dl) (h0 Dl hD) (fun i H' => hl Dl i H' hD) (fun i x H' => hs Dl i x H' hD) fun H' => hd Dl H' hD⟩
theorem x_append0 {a : Addr} {v : V} {Q : VK} (h : H a = some (.lst xs)) (l : xs.length < 100000) (q : Q .non (upd H a (.lst (xs ++ [v])))) : rAppend (.ref a) [v] H Q := x_append h l q
theorem SetTo.at {A : Type} {v : A} : ∀ {xs : List A} {i : Nat}, i < xs.length → SetTo xs i v (xs.set i v)
  | [], _, h => absurd h (Nat.not_lt_zero _)
  | _ :: _, 0, _ => .zero
  | _ :: _, _ + 1, h => .succ (SetTo.at (Nat.lt_of_succ_lt_succ h))
/-- bs.count(b) of a list of truth values -/
def eqb (b : Bool) : Value → Bool
  | .bool c => c == b
  | _ => false
def rCntB (K : PySem.W.Frag) : V → List V → Hp → VK → Prop := fun x xs H Q => ∃ (p : Addr) (bs : List Bool) (b : Bool), x = .ref p ∧ xs = [.bl b] ∧ SqL K H p (bs.map V.bl) ∧ Q (.int (bs.count b : Nat)) H
theorem bools_of : ∀ {bs : List Bool} {us : List Value}, Vals (bs.map V.bl) us → us = bs.map Value.bool
  | [], _, h => by cases h; rfl
  | b :: l, _, h => by
    cases h with
    | cons r t => rw [List.map_cons, ← bools_of t, (show _ = Value.bool b from r)]
theorem eqb_count (b : Bool) : ∀ bs : List Bool, (bs.map Value.bool).countP (eqb b) = bs.count b
  | [] => rfl
  | c :: l => by
    rw [List.map_cons, List.countP_cons, List.count_cons, eqb_count b l]
    rfl
theorem mt_bcount {X : Cx} : MtR X "list.count" (rCntB X.K) := fun pins s σ H x xs v us Q I rx rxs h => by
  obtain ⟨p, bs, b, rfl, rfl, hs, q⟩ := h; cases rx; obtain ⟨u, rfl, ru⟩ := rxs.one
  obtain rfl : u = Value.bool b := ru
  obtain ⟨its, rv, ⟨⟨cls, dd, data, sl⟩, n, ho, hc, hdn, hd⟩, hlen⟩ := I.list hs; dsimp only at hc hd; subst hc hd
  obtain rfl := bools_of rv
  refine call_meets PySem.F.slot_list_count ⟨_, ho, rfl⟩ PySem.F.entry_list_count (PySem.F.args_list_count_2 _ _) (SeqAt.list_countAt p _ n dd sl (.bool b) (eqb b)) ⟨ho, fun y hy => ?_, .int (bs.count b : Nat), H, I.tok _, ⟨s.toks, ?_⟩, q⟩
  · obtain ⟨c, _, rfl⟩ := List.mem_map.mp (List.mem_toArray.mp hy)
    exact SeqAt.EqAt.bool_bool c b
  · show Value.int ((((bs.map Value.bool).toArray.toList.countP (eqb b) : Nat)) : Int) s.toks = _
    rw [List.toList_toArray, eqb_count]
/-- a swap of two items -/
theorem swap_perm {xs : List V} {i j : Nat} {a b : V} (hi : xs[i]? = some a) (hj : xs[j]? = some b) : ((xs.set i b).set j a).Perm xs := by
  obtain ⟨h1, e1⟩ := List.getElem?_eq_some_iff.mp hi
  obtain ⟨h2, e2⟩ := List.getElem?_eq_some_iff.mp hj
  have h := Array.swap_perm (xs := xs.toArray) (i := i) (j := j) (by simpa using h1) (by simpa using h2)
  have e : (xs.toArray.swap i j (by simpa using h1) (by simpa using h2)).toList = (xs.set i b).set j a := by
    rw [Array.toList_swap]
    simp [e1, e2]
  have h' := Array.perm_iff_toList_perm.mp h
  rw [e] at h'
  simpa using h'
end
end LN
namespace LN
open PySem PySem.Spec PyProof.Rows L2 L2H
/-! ### errors with a field -/
theorem KitX.union {ι : Type} {K : PySem.W.Frag} {x t : Value} {Z : ι → Heap → Prop} (i0 : ι) (h : ∀ i, PySem.W.KitX K x t (Z i)) : PySem.W.KitX K x t (fun hp => ∃ i, Z i hp) where
  ty := fun M hp X ⟨i, z⟩ => (h i).ty M hp X z
  it := fun M hp X ⟨i, z⟩ => (h i).it M hp X z
  ne := (h i0).ne
  ca := fun X ⟨i, z⟩ q => (h i).ca X z q
theorem kitE_of {K : PySem.W.Frag} {D a : Addr} {oe : Obj} {d : Option Addr} (C : ExcC K D) (E : ExAt K D d oe) : KitE K D a oe d := by
  have hcl : (PySem.W.clsIn K D).isSome = true := by
    have h := C.hd
    unfold PySem.W.hasDictIn at h
    cases e : PySem.W.clsIn K D with
    | none => rw [e] at h; cases h
    | some cd => rfl
  refine ⟨_, KitX.union (ι := Option Obj) (Z := fun od hp => PySem.W.InstAt hp a oe D od) none fun od => PySem.W.kitx_exc hcl C.hg C.hk C.hs C.ha C.hn C.ht C.hm, fun hp hg hd => ?_⟩
  obtain ⟨⟨h1, h2⟩, vs, hv⟩ := E
  obtain ⟨oc, od, oda, osl⟩ := oe
  dsimp only at h1 h2 hv
  subst h1 h2 hv
  cases od with
  | none => exact ⟨none, hg, rfl, rfl, trivial⟩
  | some dd =>
    obtain ⟨od, e⟩ := hd dd rfl
    exact ⟨some od, hg, rfl, rfl, e⟩
/-- the error's own dict stands in the heap -/
def DictAt (H : Hp) (d : Option Addr) : Prop := ∀ dd, d = some dd → ∃ fs, H dd = some (.xd fs)
theorem DictAt.none {H : Hp} : DictAt H none := fun _ e => nomatch e
theorem DictAt.kp {H H' : Hp} {d : Option Addr} (h : DictAt H d) (k : Kp [] H H') : DictAt H' d := fun dd e => by
  obtain ⟨fs, z⟩ := h dd e
  exact ⟨fs, k _ _ nil_mem z⟩
def rIsiD (K : PySem.W.Frag) (D a : Addr) (d : Option Addr) : List V → Hp → VK → Prop := fun xs H Q => ∃ (c : V) (u : Value) (b : Bool), xs = [.ref a, c] ∧ ClsV c u ∧ PySem.W.kitOne K (.ref D) u = some b ∧ DictAt H d ∧ Q (.bl b) H
def rIsiDT (K : PySem.W.Frag) (D a : Addr) (d : Option Addr) : List V → Hp → VK → Prop := fun xs H Q => ∃ (tp : Addr) (cs : List V) (us : List Value) (b : Bool), xs = [.ref a, .ref tp] ∧ H tp = some (.tup cs) ∧ Paired ClsV cs us ∧ PySem.W.kitAny K (.ref D) us = some b ∧ DictAt H d ∧ Q (.bl b) H
section
variable {X : Cx} {a D : Addr} {oe : Obj} {d : Option Addr}
theorem dict_heap {pins : List (Addr × Obj)} {σ : St} {H : Hp} {s : Shared} (I : Inv X pins σ H s) (hd : DictAt H d) : ∀ dd, d = some dd → ∃ od, s.heap.get? dd = some od := fun dd e => by
  obtain ⟨fs, z⟩ := hd dd e
  have hx : ObjOk X.prog X.w H s.heap dd (.xd fs) := I.hok dd _ z
  obtain ⟨mA, hns, _⟩ := hx
  obtain ⟨od, ho, _⟩ := lookIn_ns hns
  exact ⟨od, ho⟩
theorem call_isiD (hp : (a, oe) ∈ X.pn) (Z : KitE X.K D a oe d) : CallR X (.builtin "isinstance") (rIsiD X.K D a d) := by
  intro pins s σ H xs us Q I r h
  obtain ⟨c, u, b, rfl, hc, hk, hd, z⟩ := h
  obtain ⟨v1, v2, rfl, q1, q2⟩ := vals2 r
  cases (show v1 = Value.ref a from q1)
  obtain rfl := hc.eq q2
  obtain ⟨Zp, kx, hz⟩ := Z
  exact PySem.W.kia_one kx I.kIn (hz _ (I.pin (a, oe) (List.mem_append_left _ hp)).1 (dict_heap I hd)) hk (fun z => nomatch z) fun tk => ⟨.bl b, H, I.tok tk, rfl, z⟩
theorem call_isiDT (hp : (a, oe) ∈ X.pn) (Z : KitE X.K D a oe d) : CallR X (.builtin "isinstance") (rIsiDT X.K D a d) := by
  intro pins s σ H xs us Q I r h
  obtain ⟨tp, cs, ws, b, rfl, hT, hc, hk, hd, z⟩ := h
  obtain ⟨v1, v2, rfl, q1, q2⟩ := vals2 r
  cases (show v1 = Value.ref a from q1)
  cases (show v2 = Value.ref tp from q2)
  obtain ⟨Zp, kx, hz⟩ := Z
  obtain ⟨_, its, rv, o, g1, g2, n, g3⟩ := (show ObjOk X.prog X.w H s.heap tp (.tup cs) from I.hok tp _ hT)
  obtain rfl := ClsV.all hc rv
  obtain ⟨oc, od, dt, sl⟩ := o
  dsimp only at g2 g3
  subst g2 g3
  exact PySem.W.kia_tup kx I.kIn (hz _ (I.pin (a, oe) (List.mem_append_left _ hp)).1 (dict_heap I hd)) g1 hk (fun z => nomatch z) fun tk => ⟨.bl b, H, I.tok tk, rfl, z⟩
/-- e.f, e the error that the def was handed -/
def tFld (a : Addr) (d : Option Addr) (f : Str) (te : TE) : TE := fun σ H Q => te σ H fun x H1 => x = .ref a ∧ ∃ (dd : Addr) (fs : List (Str × V)) (v : V), d = some dd ∧ H1 dd = some (.xd fs) ∧ fs.lookup f = some v ∧ Q v H1
theorem pe_fld {C : Addr} {e : Expr} {te : TE} {pos : Pos} {n : Str} (hp : (a, oe) ∈ X.pn) (T : ExcC X.K C) (hno : PySem.W.findIn X.K (.ref C) n = some none) (hE : ExAt X.K C d oe) (he : PE X e te)
    (hb : attributeBase e n X.env (eval e X.env) = eval e X.env := by rfl) : PE X (.Attribute e n pos) (tFld a d n te) := by
  refine ⟨fun pins s σ H Q I h => attr_of hb (thn (he.run pins s σ H _ I h) fun u s1 ⟨x, H1, I1, rx, ex, dd, fs, v, ed, ea, l, q⟩ => ?_)⟩
  subst ex ed
  obtain rfl : u = Value.ref a := rx
  obtain ⟨⟨z1, z2⟩, vs, hd⟩ := hE
  obtain ⟨mA, hns, hr⟩ := (show ObjOk X.prog X.w H1 s1.heap dd (.xd fs) from I1.hok dd _ ea)
  obtain ⟨od, ho, hl⟩ := lookIn_ns hns
  obtain ⟨u, hu, ru⟩ := RelO.some_of (v := v) (o := mA n) (by rw [← l]; exact hr n)
  have J : PySem.W.InstAt s1.heap a oe C (some od) := ⟨(I1.pin (a, oe) (List.mem_append_left _ hp)).1, z1, by unfold PySem.W.notCls; rw [hd] <;> rfl, by rw [z2]; exact ho⟩
  exact HandSPX.exc_get I1.kIn J T.hg T.hk T.hs (PySem.W.findObj_own T.hd hno rfl (by rw [hl, hu])) (handed_of ru) ⟨v, H1, I1.tok _, ru, q⟩
end
/-! ### .. raised -/
def spInit (C : Addr) (f : Str) : Sp := fun vs H Q _ => ∃ a v, vs = [.ref a, v] ∧ H a = some (exo a C none) ∧ ∀ dx, H dx = none → dx ≠ a → Q .non (upd (upd H dx (exd dx [(f, v)])) a (exo a C (some dx)))
/-- an own error class whose __init__ stores one value in the field f -/
structure Ex1 (P : Program) (w : World) (K : PySem.W.Frag) (mg : Str → Option Value) (base : Heap) (x : Str) (C : Addr) (f : Str) : Prop where
  g : mg x = some (.ref C)
  o : OexC K C
  i : ∃ fI fd, PySem.W.findIn K (.ref C) "__init__" = some (some (.ref fI)) ∧ PySem.W.typeIn K (.ref fI) = some (.type "function") ∧ Binds K fd ["self", f] [] ∧ FnOk P w K mg base CX0 1 fI fd ["self", f] (spInit C f)
/-- what is owed where the value v was made -/
def RzC (W : WX) (C : Addr) (f : Str) (σ : St) (v : V) (H1 : Hp) : Prop := [v].length ≤ 1000 ∧ ∀ a, H1 a = none → spInit C f (.ref a :: ([v] ++ [])) (upd H1 a (exo a C none))
  (fun u H2 => u = .non ∧ ∃ (d : Addr) (fs : List (Str × V)), H2 a = some (exo a C (some d)) ∧ H2 d = some (exd d fs) ∧ H1 d = none ∧ W (.ref C) (some d) σ (upd (del H2 a) d (.xd fs))) (fun _ _ _ => False)
def tRz1 (W : WX) (C : Addr) (f : Str) (te : TE) : TS := fun _ σ H => te σ H fun v H1 => RzC W C f σ v H1
theorem x_rz1 {W : WX} {C : Addr} {f : Str} {te : TE} {D : Ends} {σ : St} {H : Hp} (q : te σ H fun v H1 => RzC W C f σ v H1) : tRz1 W C f te D σ H := q
theorem x_rzc {W : WX} {C : Addr} {f : Str} {σ : St} {v : V} {H1 : Hp} (q : ∀ dx H2, Kp [] H1 H2 → H1 dx = none → H2 dx = some (.xd [(f, v)]) → W (.ref C) (some dx) σ H2) : RzC W C f σ v H1 :=
  ⟨by simp, fun a ha => ⟨a, v, rfl, upd_same, fun dx hd hn => ⟨rfl, dx, [(f, v)], upd_same, (upd_ne hn).trans upd_same, (free_upd hd).1, q dx _ (fun b o _ e => by
    rw [upd_ne (ne_of_none e (free_upd hd).1), del_ne (ne_of_none e ha), upd_ne (ne_of_none e ha), upd_ne (ne_of_none e (free_upd hd).1), upd_ne (ne_of_none e ha)]
    exact e) (free_upd hd).1 upd_same⟩⟩⟩
section
variable {X : Cx} {x : Str} {C : Addr} {f : Str} {W : WX} {pos q pos' : Pos} {e : Expr} {te : TE}
theorem ps_raise1 (hc : X.calm = true) (tk : Takes X W) (Y : Ex1 X.prog X.w X.K X.mg X.base x C f) (hr : Room 2 X.A) (he : PE X e te) (hg : Gl X x := by rfl) (hdb : (x == ("__debug__" : Str)) = false := by decide)
    (hst : starEach (e :: []) X.env = (false, eval e X.env) :: starEach [] X.env := by rfl) (hpl : (backTo pos (starEach [] X.env)).any (·.1) = false := by rfl) : PS X (.Raise (some (.Call (.Name x q) [e] [] pos)) none pos') (tRz1 W C f te) := by
  obtain ⟨fI, fd, h1, h2, hB, G⟩ := Y.i
  exact ps_raise hc tk (pmk_oex Y.o h1 h2 G hr hB .nil pass0 hg Y.g (pa_cons he pa_nil hst) hdb hst hpl)
end
/-- the walk of such an __init__ -/
theorem init_ok {P : Program} {w : World} {K : PySem.W.Frag} {mg : Str → Option Value} {base : Heap} {qn f : Str} {C fI : Addr} {fd : FuncData} {st : Stmt} (F : FunD K "__init__" qn (defArgs st) (defBody st) (defScope st) [] [] fI fd)
    (S : FnScope ["self", f] ["self", f] (defScope st)) (T : OexC K C) (no : PySem.W.findIn K (.ref C) f = some none)
    (hb : ∀ (cdv : Value) (A : Around) (outer : List Env) (s : Shared) (H : Hp) (E : XK), PSs (cxOf CX0 P w K mg base ["self", f] qn (defScope st) fI cdv A outer s H E) (defBody st) (tOst K f (tVar 0) (tVar 1))) : FnOk P w K mg base CX0 1 fI fd ["self", f] (spInit C f) := by
  refine F.ok S (fun vs H Q E z => ?_) fun cdv A outer s H vs Q E hr z => ⟨_, hb cdv A outer s H E, ?_⟩
  · obtain ⟨_, _, rfl, _⟩ := z
    rfl
  · obtain ⟨a, v, rfl, ha, q⟩ := z
    exact ⟨v, rfl, .ref a, rfl, a, C, rfl, T, no, .inl ⟨ha, fun dx h1 h2 => q dx h1 h2⟩⟩
end LN
namespace LN
open PySem PySem.Spec PyProof.Rows L2 L2H
/-! ### an own def that may raise, called by keywords alone in a try body -/
def DefAtK (K : PySem.W.Frag) (mg : Str → Option Value) (x : Str) (ps ks : List Str) (g : List Value → List Value → List Value) (gV : List V → List V → List V) (st : Stmt) : Prop :=
  ∃ f fd, mg x = some (.ref f) ∧ FunD K x x (defArgs st) (defBody st) (defScope st) [] [] f fd ∧ Binds K fd ps [] ∧ KBinds K fd ps ks g gV
def OkkK (P : Program) (w : World) (K : PySem.W.Frag) (mg : Str → Option Value) (base : Heap) (CX : CXT) (k : Nat) (x : Str) (ps ks : List Str) (g : List Value → List Value → List Value) (gV : List V → List V → List V) (sp : Sp) : Prop :=
  ∃ f fd, mg x = some (.ref f) ∧ PySem.W.keepIn K (.ref f) = true ∧ Binds K fd ps [] ∧ KBinds K fd ps ks g gV ∧ FnOk P w K mg base CX k f fd ps sp
section
variable {P : Program} {w : World} {K : PySem.W.Frag} {mg : Str → Option Value} {base : Heap} {CX : CXT} {k : Nat} {x : Str} {ps ks : List Str} {g : List Value → List Value → List Value} {gV : List V → List V → List V} {sp : Sp}
theorem OkkK.okk (h : OkkK P w K mg base CX k x ps ks g gV sp) : Okk P w K mg base CX k x ps sp := by
  obtain ⟨f, fd, a, b, c, _, d⟩ := h
  exact ⟨f, fd, a, b, c, d⟩
theorem OkkK.mono {j : Nat} (h : OkkK P w K mg base CX j x ps ks g gV sp) (l : j ≤ k) : OkkK P w K mg base CX k x ps ks g gV sp := by
  obtain ⟨f, fd, a, b, c, e, d⟩ := h
  exact ⟨f, fd, a, b, c, e, d.mono l⟩
theorem DefAtK.okX {N : List Str} {st : Stmt} (h : DefAtK K mg x ps ks g gV st) (S : FnScope N ps (defScope st)) (len : ∀ vs H Q E, sp vs H Q E → vs.length = ps.length)
    (hb : ∀ (cdv : Value) (f : Addr) (A : Around) (outer : List Env) (s : Shared) (H : Hp) (vs : List V) (Q : VK) (E : XK), Room k (A.deeper (envOfC x (defScope st) s.heap.objs.size f cdv)) → sp vs H Q E →
      ∃ t, PSs (cxOf (L2.CX P w) P w K mg base N x (defScope st) f cdv A outer s H E) (defBody st) t ∧ ∃ sg, StartTo N vs sg ∧ t { nx := fun _ H' => Q .non H', rt := Q } sg H) : OkkK P w K mg base (L2.CX P w) (k + 1) x ps ks g gV sp := by
  obtain ⟨f, fd, a, F, c, e⟩ := h
  refine ⟨f, fd, a, F.kp, c, e, F.ok S len fun cdv A outer s H vs Q E hr hs => ?_⟩
  obtain ⟨t, h1, sg, h2, h3⟩ := hb cdv f A outer s H vs Q E hr hs
  exact ⟨t, h1, h2.eq ▸ h3⟩
end
/-- two parameters, named in the other order -/
def gK : List Value → List Value → List Value
  | [], [b, a] => [a, b]
  | _, _ => []
def gVK : List V → List V → List V
  | [], [b, a] => [a, b]
  | _, _ => []
theorem kb2 {K : PySem.W.Frag} {x qual p1 p2 : Str} {params : Arguments} {body : List Stmt} {scope : Scope} {f : Addr} {fd : FuncData} (F : FunD K x qual params body scope [] [] f fd)
    (h : ∀ (kV doc pm : Value) (an : Option Addr) (cdv ct a b : Value), bindArgs (PySem.W.fnOf x qual params body scope .none kV doc pm an cdv ct) ⟨[], [(p2, b), (p1, a)]⟩ = pure [(p1, a), (p2, b)]) : KBinds K fd [p1, p2] [p2, p1] gK gVK where
  to := fun s us ws _ hl => by
    obtain ⟨oc, od, dV, kV, doc, pm, an, cdv, ct, osl, rfl, lk, hcd, hD, hK⟩ := F.ex
    rcases hD with ⟨_, rfl⟩ | ⟨e, _⟩
    · match us, ws, hl with
      | [], [b, a], _ => exact .of_eq (h kV doc pm an cdv ct a b)
    · exact absurd rfl e
  rel := fun {vs us zs ws} r1 r2 => by
    cases r1 with
    | nil =>
      cases r2 with
      | nil => exact .nil
      | cons q t =>
        cases t with
        | nil => exact .nil
        | cons q2 t2 =>
          cases t2 with
          | nil => exact .cons q2 (.cons q .nil)
          | cons _ _ => exact .nil
    | cons _ _ => exact .nil
section
variable {X : Cx} {k : Nat} {x : Str} {ps ks : List Str} {g : List Value → List Value → List Value} {gV : List V → List V → List V} {sp : Sp} {W : WX} {kws : List Keyword} {tk : TA} {p pos : Pos}
def tCallKW (sp : Sp) (gV : List V → List V → List V) (W : WX) (tk : TA) : TE := fun σ H Q => tk σ H fun zs H1 => sp (gV [] zs) H1 Q fun cls d H' => W cls d σ H'
theorem x_callKW {σ : St} {H : Hp} {Q : VK} (z : tk σ H fun zs H1 => sp (gV [] zs) H1 Q fun cls d H' => W cls d σ H') : tCallKW sp gV W tk σ H Q := z
theorem pe_ownSK (D : OkkK X.prog X.w X.K X.mg X.base (L2.CX X.prog X.w) k x ps ks g gV sp) (hr : Room k X.A) (tw : Takes X W) (hkw : PK X kws tk) (hg : Gl X x := by rfl)
    (hall : (backToKw pos (keywordEach kws X.env)).all (·.1.isSome) = true := by rfl) (hks : (backToKw pos (keywordEach kws X.env)).filterMap (·.1) = ks := by rfl) (hdb : (x == ("__debug__" : Str)) = false := by decide)
    (hpl : ((backTo pos (starEach [] X.env)).any (·.1) || (backToKw pos (keywordEach kws X.env)).any (·.1.isNone)) = false := by rfl) : PE X (.Call (.Name x p) [] kws pos) (tCallKW sp gV W tk) := by
  obtain ⟨f, fd, a, b, _, hb, F⟩ := D
  refine ⟨fun pins s σ H Q I h => wpAny_Call_Name_kw (ld_glob I hg a (PySem.W.callWith_KW0 (h₀ := X.base) I.ok.mod.kin b hall ?_ hpl) hdb)⟩
  refine thn (hkw.run pos pins s σ H _ I h) fun ws s2 ⟨zs, H2, I2, rz, q2⟩ => ⟨I2.kIn, ?_⟩
  rw [hks]
  have rr := hb.rel (vs := []) (us := []) .nil rz
  have hl : (g [] ws).length = ps.length := by rw [← rr.length]; exact F.len _ _ _ _ q2
  refine wpAny_call (codeAny_mono (F.run X.A X.stack s2 H2 ⟨[], ks.zip ws⟩ (g [] ws) (gV [] zs) Q _ hr I2.env0 (hb.to s2 [] ws I2.kIn hl) rr q2) fun r s' hq => ?_)
  match r, hq with
  | .error e, hq => exact passAt tw σ pins H2 s2 e s' I2 hq
  | .ok (.ret u), hq => exact I2.after hq
  | .ok .next, hq => exact False.elim hq
  | .ok .brk, hq => exact False.elim hq
  | .ok .cont, hq => exact False.elim hq
end
end LN
namespace LN
open PySem PySem.Spec PyProof.Rows L2 L2H
/-! ### facts of the error classes, by names -/
section
variable {K : PySem.W.Frag} {x y f : Str}
/-- x against each of the classes ys: it is itself and an OfficeError, nothing else -/
def clsRow (K : PySem.W.Frag) (x : Str) (ys : List Str) : Bool := ys.all fun y => decide (PySem.W.kitOne K (.ref (He.ga K x)) (.ref (He.ga K y)) = some (decide (y = x) || decide (y = "OfficeError")))
theorem clsRow_at {ys : List Str} (h : clsRow K x ys = true) (i : Nat) (e : ys[i]? = some y) : PySem.W.kitOne K (.ref (He.ga K x)) (.ref (He.ga K y)) = some (decide (y = x) || decide (y = "OfficeError")) :=
  of_decide_eq_true (List.all_eq_true.mp h y (List.mem_of_getElem? e))
def oexB (K : PySem.W.Frag) (x : Str) : Bool := (match K.lookup (He.ga K x) with
  | some ⟨.type t, _, .cls c, s⟩ => (match c.mro, s.toList with
    | .ref C' :: bm, [_, _, _, _, some (.builtin n), _] => t == "type" && (C' == He.ga K x && (n == "ValueError.__new__" && (!c.hasDel && (c.hasDict && PySem.HandSPX.refsVE bm))))
    | _, _ => false)
  | _ => false) && (decide (PySem.W.findIn K (.ref (He.ga K x)) "__setattr__" = some (some (.builtin "object.__setattr__"))) && (decide (PySem.W.subIn K (.ref (He.ga K x)) (.type "BaseException") = some true) &&
    (decide (PySem.W.typeIn K (.ref (He.ga K x)) = some (.type "type")) && PySem.W.keepIn K (.ref (He.ga K x)))))
theorem oexB_ok (h : oexB K x = true) : OexC K (He.ga K x) := by
  unfold oexB at h
  obtain ⟨h0, h⟩ := He.ba h
  obtain ⟨h1, h⟩ := He.ba h
  obtain ⟨h2, h⟩ := He.ba h
  obtain ⟨h3, h4⟩ := He.ba h
  refine ⟨?_, of_decide_eq_true h1, of_decide_eq_true h2, of_decide_eq_true h3, h4⟩
  split at h0
  · rename_i t od c s ho
    split at h0
    · rename_i C' bm a0 a1 a2 a3 n a5 e1 e2
      obtain ⟨z0, h0⟩ := He.ba h0
      obtain ⟨z1, h0⟩ := He.ba h0
      obtain ⟨z2, h0⟩ := He.ba h0
      obtain ⟨z3, h0⟩ := He.ba h0
      obtain ⟨z4, z5⟩ := He.ba h0
      obtain rfl := beq_iff_eq.mp z0
      obtain rfl := beq_iff_eq.mp z1
      obtain rfl := beq_iff_eq.mp z2
      obtain ⟨nm, bs, mro, ns, qn, hd, sn, sub, ab, col, del⟩ := c
      dsimp only at e1 z3 z4
      simp only [Bool.not_eq_true'] at z3
      subst e1 z3 z4
      obtain ⟨l⟩ := s
      dsimp only at e2
      subst e2
      exact ⟨nm, qn, ns, bs, bm, sn, sub, ab, col, od, a0, a1, a2, a3, a5, ho, z5⟩
    · cases h0
  · cases h0
theorem meth2 {m : Str} (c : (He.Fa.meth x m).ok K = true) : PySem.W.findIn K (.ref (He.ga K x)) m = some (some (.ref (He.ma K (He.ga K x) m))) ∧ PySem.W.typeIn K (.ref (He.ma K (He.ga K x) m)) = some (.type "function") := by
  obtain ⟨h1, h2⟩ := He.ba c
  exact ⟨He.eqO_ok h1, beq_iff_eq.mp (He.ba h2).1⟩
end
end LN
namespace LN
open PySem PySem.Spec PyProof.Rows L2
/-! ### what is looked at of the top: as, a list of addresses that the heap itself gives -/
abbrev Look : Type := (Addr → Option Obj) → List Addr
def grow1 (g : Addr → Option Obj) (as : List Addr) : List Addr := as.flatMap fun a => (g a).elim [] He.refsD
/-- the globals to depth 2; the classes xs to their methods and these one's codes -/
def lookM (xs : List Str) : Look := fun g =>
  let cs := xs.map (He.ga (He.frT g (He.asD g 1)))
  let a1 := grow1 g cs
  let a2 := grow1 g a1
  (He.asD g 2 ++ (a2 ++ grow1 g a2)).eraseDups
def obsY (as : Look) (fa : List He.Fa) (fn : List He.DefD) (ex : PySem.W.Frag → Bool) (g : Addr → Option Obj) : He.AlD × Bool := (He.obsD fa fn (He.frT g (as g)), ex (He.frT g (as g)))
structure SaysY (fa : List He.Fa) (fn : List He.DefD) (ex : PySem.W.Frag → Bool) (K : PySem.W.Frag) : Prop where
  d : He.SaysD fa fn K
  more : ex K = true
def hookY (as : Look) (fa : List He.Fa) (fn : List He.DefD) (ex : PySem.W.Frag → Bool) : PySem.W.Hook where
  α := He.AlD × Bool
  obs := fun s => obsY as fa fn ex s.heap.get?
  val := fun _ => (He.valD fn, true)
  says := fun _ h => ∃ K : PySem.W.Frag, K.In h ∧ SaysY fa fn ex K
  of := fun _ _ e => ⟨_, He.frT_in, congrArg (fun z : He.AlD × Bool => z.1) e, congrArg (fun z : He.AlD × Bool => z.2) e⟩
  keeps := fun _ _ _ ⟨K, hK, c⟩ k => ⟨K, PySem.W.Frag.In.keeps hK k, c⟩
theorem obsY_eq {as : Look} {fa : List He.Fa} {fn : List He.DefD} {ex : PySem.W.Frag → Bool} {g : Addr → Option Obj} {s : Shared} (h : ∀ a, g a = s.heap.get? a) : obsY as fa fn ex g = (hookY as fa fn ex).obs s := by
  obtain rfl : g = s.heap.get? := funext h
  rfl
end LN
local macro_rules | `(tactic| walk_at "get") => `(tactic| (repeat (first | exact LN.GetAt.zero | with_reducible apply LN.GetAt.succ)))
local macro_rules | `(tactic| walk_at "set") => `(tactic| (repeat (first | exact LN.SetTo.zero | with_reducible apply LN.SetTo.succ)))
local macro_rules | `(tactic| walk_at "start") => `(tactic| (repeat (first | exact LN.StartTo.nil | with_reducible apply LN.StartTo.cons | with_reducible apply LN.StartTo.non)))
local macro_rules | `(tactic| walk_at "ne") => `(tactic| first | assumption | (apply Ne.symm; assumption) | ((with_reducible apply LN.ne_new); (· assumption); walk_at "hp") | ((with_reducible apply LN.ne_new'); (· assumption); walk_at "hp"))
local macro_rules | `(tactic| walk_at "nm") => `(tactic| first | exact LN.nil_mem | ((with_reducible apply LN.one_mem); walk_at "ne") | ((with_reducible apply LN.two_mem) <;> walk_at "ne"))
local macro_rules | `(tactic| walk_at "hp") => `(tactic| first | assumption | exact L2.upd_same | ((with_reducible apply LN.at_upd); (· walk_at "ne"); walk_at "hp") | ((with_reducible apply LN.Kp.get); (· assumption); (· walk_at "nm"); walk_at "hp"))
local macro_rules | `(tactic| walk_at "sq") => `(tactic| first | assumption | ((with_reducible apply L2.SqL.of); walk_at "hp") | ((with_reducible apply LN.sq_new); (· assumption); walk_at "sq") | ((with_reducible apply LN.sq_upd); (· walk_at "ne"); walk_at "sq") | ((with_reducible apply LN.Kp.sq); (· assumption); (· walk_at "nm"); walk_at "sq"))
local macro_rules | `(tactic| walk_at "st") => `(tactic| first | assumption | ((with_reducible apply L2.SqT.of); walk_at "hp") | ((with_reducible apply LN.st_new); (· assumption); walk_at "st") | ((with_reducible apply LN.st_upd); (· walk_at "ne"); walk_at "st") | ((with_reducible apply LN.Kp.st); (· assumption); (· walk_at "nm"); walk_at "st"))
local macro_rules | `(tactic| walk_at "ty") => `(tactic| first | exact L2.TyX.base (L2.TyOf.int _) | exact L2.TyX.base (L2.TyOf.bl _) | exact L2.TyX.base (L2.TyOf.str _) | exact L2.TyX.base L2.TyOf.non | ((with_reducible apply LN.tyx_l); walk_at "sq") | ((with_reducible apply LN.tyx_t); walk_at "st"))
local macro_rules | `(tactic| walk_at "kit") => `(tactic| first | with_reducible exact LN.kt_NoneType_bool | with_reducible exact LN.kt_NoneType_int | with_reducible exact LN.kt_NoneType_str | with_reducible exact LN.kt_NoneType_list | with_reducible exact LN.kt_NoneType_tuple | with_reducible exact LN.kt_bool_bool | with_reducible exact LN.kt_bool_int | with_reducible exact LN.kt_bool_str | with_reducible exact LN.kt_bool_list | with_reducible exact LN.kt_bool_tuple | with_reducible exact LN.kt_int_bool | with_reducible exact LN.kt_int_int | with_reducible exact LN.kt_int_str | with_reducible exact LN.kt_int_list | with_reducible exact LN.kt_int_tuple | with_reducible exact LN.kt_str_bool | with_reducible exact LN.kt_str_int | with_reducible exact LN.kt_str_str | with_reducible exact LN.kt_str_list | with_reducible exact LN.kt_str_tuple | with_reducible exact LN.kt_list_bool | with_reducible exact LN.kt_list_int | with_reducible exact LN.kt_list_str | with_reducible exact LN.kt_list_list | with_reducible exact LN.kt_list_tuple | with_reducible exact LN.kt_tuple_bool | with_reducible exact LN.kt_tuple_int | with_reducible exact LN.kt_tuple_str | with_reducible exact LN.kt_tuple_list | with_reducible exact LN.kt_tuple_tuple | with_reducible exact LN.kta_NoneType | with_reducible exact LN.kta_bool | with_reducible exact LN.kta_int | with_reducible exact LN.kta_str | with_reducible exact LN.kta_list | with_reducible exact LN.kta_tuple)
local macro_rules | `(tactic| walk_at "go1") => `(tactic| first
  | (with_reducible apply LN.x_seq)
  | (with_reducible apply LN.x_asg)
  | (with_reducible apply LN.x_op)
  | ((with_reducible apply LN.x_var); · walk_at "get")
  | (with_reducible apply LN.x_c)
  | (with_reducible apply LN.x_I0)
  | (with_reducible apply LN.x_cons)
  | (with_reducible apply LN.x_nil)
  | (with_reducible apply LN.x_call)
  | ((with_reducible apply LN.x_name); · walk_at "set")
  | (with_reducible apply LN.x_cb)
  | (with_reducible apply LN.x_test)
  | (with_reducible apply LN.x_isb)
  | (with_reducible apply LN.x_ifS)
  | (with_reducible apply LN.x_ret)
  | (with_reducible apply LN.x_un)
  | (with_reducible apply LN.x_U)
  | (with_reducible apply LN.x_eqI)
  | (with_reducible apply LN.x_neI)
  | (with_reducible apply LN.x_int1)
  | (with_reducible apply LN.x_abs)
  | (with_reducible apply LN.x_tB)
  | (with_reducible apply LN.x_not)
  | (with_reducible apply LN.x_and)
  | (with_reducible apply LN.x_or)
  | (with_reducible apply LN.x_andV)
  | (with_reducible apply LN.x_orV)
  | (with_reducible apply LN.x_notV)
  | (with_reducible apply LN.x_ifE)
  | (with_reducible apply LN.x_drop)
  | (with_reducible apply LN.x_brk)
  | (with_reducible apply LN.x_cont)
  | (with_reducible apply LN.x_next)
  | (with_reducible apply LN.x_retN)
  | (with_reducible apply LN.x_sub)
  | (with_reducible refine LN.x_tup' ?_)
  | (with_reducible refine LN.x_lst' ?_)
  | ((with_reducible apply LN.x_ixL); (· walk_at "sq"); · rfl)
  | ((with_reducible apply LN.x_ixT); (· walk_at "st"); · rfl)
  | ((with_reducible apply LN.x_setN2); (· rfl); · walk_at "set")
  | ((with_reducible apply LN.x_setN); (· walk_at "hp"); (· rfl); · walk_at "set")
  | ((with_reducible apply LN.x_lenL); · walk_at "sq")
  | ((with_reducible apply LN.x_lenT); · walk_at "st")
  | (with_reducible apply LN.x_max2)
  | (with_reducible apply LN.x_min2)
  | (with_reducible apply LN.x_eqS)
  | (with_reducible apply LN.x_neS)
  | (with_reducible apply LN.x_eqB)
  | (with_reducible apply LN.x_iteT)
  | (with_reducible apply LN.x_iteF)
  | (with_reducible apply LN.x_iteNT)
  | (with_reducible apply LN.x_iteNF)
  | (with_reducible apply LN.x_par)
  | ((with_reducible apply LN.x_par2); (· walk_at "set"); · walk_at "set")
  | ((with_reducible apply LN.x_aug); · walk_at "get")
  | ((with_reducible apply LN.x_ipI); · walk_at "set")
  | (with_reducible apply LN.x_sl)
  | (with_reducible apply LN.x_nopart)
  | (with_reducible apply LN.x_part)
  | (with_reducible apply LN.x_isk)
  | (with_reducible apply LN.x_bm)
  | (with_reducible apply LN.x_bm0)
  | ((with_reducible apply LN.x_tyL); · walk_at "sq")
  | (with_reducible apply LN.x_gcons)
  | (with_reducible apply LN.x_gnil)
  | ((with_reducible apply LN.x_gtup); (· walk_at "st"); · rfl)
  | ((with_reducible apply LN.x_disp); · simp)
  | ((with_reducible apply LN.x_isi); (· walk_at "ty"); · walk_at "kit")
  | ((with_reducible apply LN.x_isiT); (· walk_at "hp"); (· walk_at "ty"); · walk_at "kit")
  | (with_reducible apply LN.x_isN0)
  | (with_reducible apply LN.x_isN1)
  | (with_reducible apply LN.x_isN2)
  | (with_reducible apply LN.x_isN3)
  | (with_reducible apply LN.x_isN4)
  | (with_reducible apply LN.x_isN)
  | (with_reducible apply LN.x_notN)
  | ((with_reducible apply LN.x_ixSL); (· walk_at "sq"); · rfl)
  | ((with_reducible apply LN.x_ixST); (· walk_at "st"); · rfl)
  | (with_reducible apply LN.x_truI)
  | ((with_reducible apply LN.x_decT); · first | decide | rfl)
  | ((with_reducible apply LN.x_decF); · decide)
  | ((with_reducible apply LN.x_ndecT); · decide)
  | ((with_reducible apply LN.x_ndecF); · first | decide | rfl)
  | (with_reducible apply LN.x_lc)
  | (with_reducible apply LN.x_callW)
  | (with_reducible apply LN.x_callH)
  | (with_reducible apply LN.x_rz)
  | (with_reducible apply LN.x_for)
  | (with_reducible apply LN.x_itL)
  | (with_reducible apply LN.x_itT)
  | (with_reducible apply LN.x_itR)
  | (with_reducible apply LN.x_itR2)
  | (with_reducible apply LN.x_itR3)
  | (with_reducible apply LN.x_itE)
  | (with_reducible apply LN.x_rz1)
  | ((with_reducible apply LN.x_powC); (· first | exact ⟨by decide, by decide⟩ | exact ⟨by decide +kernel, by decide +kernel⟩); · (simp only [Int.reducePow, Int.reduceToNat]; rfl))
  | ((with_reducible apply LN.x_I); · first | omega | exact LN.Bt.mulW (by assumption) (by assumption) | exact LN.Bt.mulW (a := 4000) (b := 4000) (LN.Bt.lit (by decide +kernel)) (LN.Bt.lit (by decide +kernel)) | exact .inl ⟨by omega, by omega⟩ | exact .inr ⟨by omega, by omega⟩ | exact ⟨by decide, by decide⟩)
  | ((with_reducible apply LN.x_start); · walk_at "start"))
local macro_rules | `(tactic| walk_at "go") => `(tactic| repeat walk_at "go1")
local macro_rules | `(tactic| walk_at "start1") => `(tactic| ((with_reducible apply LN.x_start); · walk_at "start"))
local macro_rules | `(tactic| walk_at "goF") => `(tactic| repeat (first | ((with_reducible apply LN.x_modF); · omega) | walk_at "go1"))
local macro_rules | `(tactic| walk_at "num") => `(tactic| simp only [Int.reducePow, Int.reduceToNat])
local macro_rules | `(tactic| walk_at "wipe") => `(tactic| (simp only [L2.wipe, List.map_cons, List.map_nil, List.set_cons_zero, List.set_cons_succ]; rfl))
namespace LN
open PySem PySem.Spec PyProof.Rows L2
def topS (i : Nat) : Stmt := PySem.Challenge.pw_lastnamed_k03_evened.main.body.getD i (.Pass ⟨0, 0, 0, 0⟩)
end LN
namespace LNH
open PySem PySem.Spec PyProof.Rows L2
set_option maxHeartbeats 0
def d_law_mix : He.DefD := ⟨("_law_mix", none), "_law_mix", "_law_mix", defArgs (LN.topS 53), defBody (LN.topS 53), defScope (LN.topS 53), [], []⟩
def d_law_store : He.DefD := ⟨("_law_store", none), "_law_store", "_law_store", defArgs (LN.topS 54), defBody (LN.topS 54), defScope (LN.topS 54), [], []⟩
def d_law_take : He.DefD := ⟨("_law_take", none), "_law_take", "_law_take", defArgs (LN.topS 55), defBody (LN.topS 55), defScope (LN.topS 55), [], []⟩
def d_law_number : He.DefD := ⟨("_law_number", none), "_law_number", "_law_number", defArgs (LN.topS 56), defBody (LN.topS 56), defScope (LN.topS 56), [], []⟩
def d_law_between : He.DefD := ⟨("_law_between", none), "_law_between", "_law_between", defArgs (LN.topS 57), defBody (LN.topS 57), defScope (LN.topS 57), [], []⟩
def d_law_near_ends : He.DefD := ⟨("_law_near_ends", none), "_law_near_ends", "_law_near_ends", defArgs (LN.topS 58), defBody (LN.topS 58), defScope (LN.topS 58), [], []⟩
def d_law_pick : He.DefD := ⟨("_law_pick", none), "_law_pick", "_law_pick", defArgs (LN.topS 59), defBody (LN.topS 59), defScope (LN.topS 59), [], []⟩
def d_law_size : He.DefD := ⟨("_law_size", none), "_law_size", "_law_size", defArgs (LN.topS 60), defBody (LN.topS 60), defScope (LN.topS 60), [], []⟩
def d_law_shuffled : He.DefD := ⟨("_law_shuffled", none), "_law_shuffled", "_law_shuffled", defArgs (LN.topS 61), defBody (LN.topS 61), defScope (LN.topS 61), [], []⟩
def d_law_is_int : He.DefD := ⟨("_law_is_int", none), "_law_is_int", "_law_is_int", defArgs (LN.topS 66), defBody (LN.topS 66), defScope (LN.topS 66), [], []⟩
def d_law_is_ints : He.DefD := ⟨("_law_is_ints", none), "_law_is_ints", "_law_is_ints", defArgs (LN.topS 67), defBody (LN.topS 67), defScope (LN.topS 67), [], []⟩
def d_law_gcd : He.DefD := ⟨("_law_gcd", none), "_law_gcd", "_law_gcd", defArgs (LN.topS 69), defBody (LN.topS 69), defScope (LN.topS 69), [], []⟩
def d_law_same : He.DefD := ⟨("_law_same", none), "_law_same", "_law_same", defArgs (LN.topS 63), defBody (LN.topS 63), defScope (LN.topS 63), [], []⟩
def d_common_divisor : He.DefD := ⟨("common_divisor", none), "common_divisor", "common_divisor", defArgs (LN.topS 49), defBody (LN.topS 49), defScope (LN.topS 49), [], []⟩
def d_check_amounts : He.DefD := ⟨("check_amounts", none), "check_amounts", "check_amounts", defArgs (LN.topS 46), defBody (LN.topS 46), defScope (LN.topS 46), [], []⟩
def d_check_shares : He.DefD := ⟨("check_shares", none), "check_shares", "check_shares", defArgs (LN.topS 50), defBody (LN.topS 50), defScope (LN.topS 50), [], []⟩
def d_evened : He.DefD := ⟨("evened", none), "evened", "evened", defArgs (LN.topS 51), defBody (LN.topS 51), defScope (LN.topS 51), [], []⟩
def d_law_due : He.DefD := ⟨("_law_due", none), "_law_due", "_law_due", defArgs (LN.topS 74), defBody (LN.topS 74), defScope (LN.topS 74), [], []⟩
def d_law_scaled : He.DefD := ⟨("_law_scaled", none), "_law_scaled", "_law_scaled", defArgs (LN.topS 75), defBody (LN.topS 75), defScope (LN.topS 75), [], []⟩
def d_law_strokes_right : He.DefD := ⟨("_law_strokes_right", none), "_law_strokes_right", "_law_strokes_right", defArgs (LN.topS 77), defBody (LN.topS 77), defScope (LN.topS 77), [], []⟩
def d_law_shares : He.DefD := ⟨("_law_shares", none), "_law_shares", "_law_shares", defArgs (LN.topS 68), defBody (LN.topS 68), defScope (LN.topS 68), [], []⟩
def d_law_side : He.DefD := ⟨("_law_side", none), "_law_side", "_law_side", defArgs (LN.topS 72), defBody (LN.topS 72), defScope (LN.topS 72), [], []⟩
def d_law_off : He.DefD := ⟨("_law_off", none), "_law_off", "_law_off", defArgs (LN.topS 62), defBody (LN.topS 62), defScope (LN.topS 62), [], []⟩
def d_law_bent : He.DefD := ⟨("_law_bent", none), "_law_bent", "_law_bent", defArgs (LN.topS 73), defBody (LN.topS 73), defScope (LN.topS 73), [], []⟩
def d_law_copy : He.DefD := ⟨("_law_copy", none), "_law_copy", "_law_copy", defArgs (LN.topS 64), defBody (LN.topS 64), defScope (LN.topS 64), [], []⟩
def d_law_spoil : He.DefD := ⟨("_law_spoil", none), "_law_spoil", "_law_spoil", defArgs (LN.topS 65), defBody (LN.topS 65), defScope (LN.topS 65), [], []⟩
def d_law_alone : He.DefD := ⟨("_law_alone", none), "_law_alone", "_law_alone", defArgs (LN.topS 70), defBody (LN.topS 70), defScope (LN.topS 70), [], []⟩
def d_law_refused : He.DefD := ⟨("_law_refused", none), "_law_refused", "_law_refused", defArgs (LN.topS 71), defBody (LN.topS 71), defScope (LN.topS 71), [], []⟩
def d_law_evened_right : He.DefD := ⟨("_law_evened_right", none), "_law_evened_right", "_law_evened_right", defArgs (LN.topS 76), defBody (LN.topS 76), defScope (LN.topS 76), [], []⟩
def d_law : He.DefD := ⟨("law", none), "law", "law", defArgs (LN.topS 78), defBody (LN.topS 78), defScope (LN.topS 78), [], []⟩
def d_init_BadShare : He.DefD := ⟨("BadShare", some "__init__"), "__init__", "BadShare.__init__", defArgs (L2.inClass (LN.topS 7) 0), defBody (L2.inClass (LN.topS 7) 0), defScope (L2.inClass (LN.topS 7) 0), [], []⟩
def rows : List PySem.Str := (["OfficeError", "BadLine", "Empty", "TooMany", "BadWord", "Doubled", "BadShare", "BadRanking", "BadRange", "BadPlace", "Unequal", "Unknown"] : List PySem.Str) ++ (["Over", "Fallen", "BadChooser", "TiedRanks", "BadWeaving", "BadSet", "BadStages", "BadOrder", "BadSize", "BadTable", "TooMuch", "BadSum"] : List PySem.Str) ++ (["BadStrike", "Unfinished", "OutOfRank", "BadSpan", "NoBlock", "BadBargain", "NoPairing", "NotLast", "NotObtainable", "NotNear", "NoBottom", "Clash"] : List PySem.Str) ++ (["Shared", "Different", "LastName", "NoPost", "BadDeed", "BadStamp", "StampTaken", "NoDeed"] : List PySem.Str)
def nm0 : List PySem.Str := ["OfficeError", "BadLine", "Empty", "TooMany", "BadWord", "Doubled", "BadShare", "BadRanking", "BadRange", "BadPlace", "Unequal", "Unknown", "Over", "Fallen", "BadChooser", "TiedRanks", "BadWeaving", "BadSet", "BadStages", "BadOrder", "BadSize", "BadTable", "TooMuch", "BadSum", "BadStrike", "Unfinished", "OutOfRank", "BadSpan", "NoBlock", "BadBargain"]
def nm1 : List PySem.Str := ["NoPairing", "NotLast", "NotObtainable", "NotNear", "NoBottom", "Clash", "Shared", "Different", "LastName", "NoPost", "BadDeed", "BadStamp", "StampTaken", "NoDeed", "check_amounts", "MOST_SHARE", "common_divisor", "check_shares", "evened", "_law_mix", "_law_store", "_law_take", "_law_number", "_law_between", "_law_near_ends", "_law_pick", "_law_size", "_law_shuffled", "_law_off", "_law_same"]
def nm2 : List PySem.Str := ["_law_copy", "_law_spoil", "_law_is_int", "_law_is_ints", "_law_shares", "_law_gcd", "_law_alone", "_law_refused", "_law_side", "_law_bent", "_law_due", "_law_scaled", "_law_evened_right", "_law_strokes_right"]
def names : List PySem.Str := nm0 ++ nm1 ++ nm2
def fn : List He.DefD := [d_law_mix,
  d_law_store,
  d_law_take,
  d_law_number,
  d_law_between,
  d_law_near_ends,
  d_law_pick,
  d_law_size,
  d_law_shuffled,
  d_law_is_int,
  d_law_is_ints,
  d_law_gcd,
  d_law_same,
  d_common_divisor,
  d_check_amounts,
  d_check_shares,
  d_evened,
  d_law_due,
  d_law_scaled,
  d_law_strokes_right,
  d_law_shares,
  d_law_side,
  d_law_off,
  d_law_bent,
  d_law_copy,
  d_law_spoil,
  d_law_alone,
  d_law_refused,
  d_law_evened_right,
  d_law,
  d_init_BadShare]
def fa0 : List He.Fa := [.glo "_law_mix", .glo "_law_store", .glo "_law_take", .glo "_law_number", .glo "_law_between", .glo "_law_near_ends", .glo "_law_pick", .glo "_law_size", .glo "_law_shuffled", .glo "_law_is_int", .glo "_law_is_ints", .glo "_law_gcd", .glo "_law_same", .glo "common_divisor", .glo "check_amounts", .glo "check_shares", .glo "evened", .glo "_law_due", .glo "_law_scaled", .glo "_law_strokes_right", .glo "_law_shares", .glo "_law_side", .glo "_law_off", .glo "_law_bent", .glo "_law_copy", .glo "_law_spoil", .glo "_law_alone", .glo "_law_refused", .glo "_law_evened_right", .glo "law"]
def fa1 : List He.Fa := [.glo "BadWord", .glo "TooMany", .glo "Empty", .glo "BadLine", .glo "BadRanking", .glo "BadShare", .glo "Doubled", .glo "Unknown", .glo "Unequal", .glo "BadPlace", .glo "BadRange", .glo "TiedRanks", .glo "BadChooser", .glo "Fallen", .glo "Over", .glo "BadStages", .glo "BadSet", .glo "BadWeaving", .glo "TooMuch", .glo "BadTable", .glo "BadSize", .glo "BadOrder", .glo "Unfinished", .glo "BadStrike", .glo "BadSum", .glo "NoBlock", .glo "BadSpan", .glo "OutOfRank", .glo "NotLast", .glo "NoPairing"]
def fa2 : List He.Fa := [.glo "BadBargain", .glo "NoBottom", .glo "NotNear", .glo "NotObtainable", .glo "LastName", .glo "Different", .glo "Shared", .glo "Clash", .glo "BadStamp", .glo "BadDeed", .glo "NoPost", .glo "NoDeed", .glo "StampTaken", .glo "OfficeError", .free "int", .free "len", .free "list", .free "abs", .free "range", .free "max", .free "min", .free "isinstance", .free "bool", .free "all", .free "str", .free "tuple", .free "enumerate", .free "sum", .free "ValueError", .exc "Empty"]
def fa3 : List He.Fa := [.exm "Empty" "OfficeError" true, .exm "BadShare" "OfficeError" true, .int "MOST_SHARE" 1000000, .meth "BadShare" "__init__", .noat "BadShare" "at", .noat "Empty" "at"]
def fa : List He.Fa := fa0 ++ fa1 ++ fa2 ++ fa3
def ex : PySem.W.Frag → Bool := fun K => LN.clsRow K "Empty" rows && LN.kitNT K "Empty" "ValueError" true && LN.excB K "Empty" && LN.clsRow K "BadShare" rows && LN.kitNT K "BadShare" "ValueError" true && LN.excB K "BadShare" && LN.oexB K "BadShare"
abbrev R : PySem.W.OpenRow := PySem.W.OpenLaw.row PySem.Challenge.rw_lastnamed_k03_evened
def look : LN.Look := LN.lookM ["BadShare"]
abbrev hk : PySem.W.Hook := LN.hookY look fa fn ex
def ob (s : PySem.W.SharedT) : He.AlD × Bool := LN.obsY look fa fn ex (HandSHeadRun.getT s)
theorem ob_eq (s : PySem.W.SharedT) : ob s = hk.obs s.abs := LN.obsY_eq (HandSHeadRun.getT_eq s)
theorem run (w : World) : HandSHeadRun.RunEq R (PySem.W.view R.prog [78]) hk ob 20000 names w := by
  intro os
  kernel_rfl
end LNH
namespace LN
open PySem PySem.Spec PyProof.Rows L2
section
variable {P : Program} {w : World} {K : PySem.W.Frag} {mg : Str → Option Value} {base : Heap} {k : Nat}
abbrev s_init_BadShare : Stmt := inClass (topS 7) 0
theorem sc_init_BadShare : FnScope ["self", "at"] ["self", "at"] (defScope s_init_BadShare) := ⟨rfl, rfl, rfl, by decide +kernel, rfl, by decide +kernel, by decide +kernel⟩
theorem ok_init_BadShare {C fI : Addr} {fd : FuncData} (F : FunD K "__init__" "BadShare.__init__" (defArgs s_init_BadShare) (defBody s_init_BadShare) (defScope s_init_BadShare) [] [] fI fd) (T : OexC K C) (no : PySem.W.findIn K (.ref C) "at" = some none) : FnOk P w K mg base CX0 1 fI fd ["self", "at"] (spInit C "at") :=
  init_ok F sc_init_BadShare T no fun cdv A outer s H E => pss_one (ps_ost (pv 0) (pv 1))
abbrev s_law_mix : Stmt := topS 53
theorem sc_law_mix : FnScope ["one", "two", "worth"] ["one", "two"] (defScope s_law_mix) := ⟨rfl, rfl, rfl, by decide +kernel, rfl, by decide +kernel, by decide +kernel⟩
--DEF _law_mix
def spMix : Sp := fun vs H Q _ => ∃ a b, vs = [.int a, .int b] ∧ ∀ r, 0 ≤ r → r < 2147483563 → Q (.int r) H
theorem ok_law_mix (h : DefAt K mg "_law_mix" ["one", "two"] s_law_mix) (g_int : mg "int" = none) : Okk P w K mg base CX0 (k + 1) "_law_mix" ["one", "two"] spMix := by
  refine h.ok sc_law_mix ?_ ?_
  · rintro vs H Q E ⟨a, b, rfl, _⟩; rfl
  rintro cdv f A outer s H vs Q E hr ⟨a, b, rfl, q⟩
  refine ⟨_, (pss_cons (ps_set (i := 2) sc_law_mix.nd rfl (Or.inl rfl) (pe_op op_mod (pe_op op_add (pe_op op_add (pe_op op_mul (pe_op op_mod (pe_callTy cr_int (by rfl) g_int (by decide +kernel) (pa_cons (pv 0) pa_nil)) pe_int) pe_int) (pe_op op_mul (pe_op op_mod (pe_callTy cr_int (by rfl) g_int (by decide +kernel) (pa_cons (pv 1) pa_nil)) pe_int) pe_int)) pe_int) pe_int))
      (pss_cons (ps_set (i := 2) sc_law_mix.nd rfl (Or.inl rfl) (pe_op op_mod (pe_op op_add (pe_op op_add (pe_op op_mul (pv 2) (pv 2)) (pe_op op_mul (pv 2) pe_int)) pe_int) pe_int))
      (pss_cons (ps_set (i := 2) sc_law_mix.nd rfl (Or.inl rfl) (pe_op op_mod (pe_op op_add (pe_op op_add (pe_op op_mul (pv 2) pe_int) (pe_op op_mul (pe_op op_mod (pe_callTy cr_int (by rfl) g_int (by decide +kernel) (pa_cons (pv 1) pa_nil)) pe_int) pe_int)) pe_int) pe_int))
      (pss_one (ps_ret (pe_op op_mod (pe_op op_add (pe_op op_add (pe_op op_mul (pv 2) (pv 2)) (pe_op op_mul (pv 2) pe_int)) pe_int) pe_int)))))), ?_⟩
  walk_at "start1"
  walk_at "goF"
  intro r0 h0 h0'
  walk_at "goF"
  intro r1 h1 h1'
  walk_at "goF"
  intro w1 w1a w1b
  walk_at "goF"
  intro w2 w2a w2b
  walk_at "goF"
  intro r3 h3 h3'
  walk_at "goF"
  intro w3 w3a w3b
  walk_at "goF"
  exact fun r hr1 hr2 => q r hr1 hr2
/-! ### the store -/
theorem go_mix {a b : Int} {H : Hp} {Q : VK} {E : XK} (q : ∀ r, 0 ≤ r → r < 2147483563 → Q (.int r) H) : spMix [.int a, .int b] H Q E := ⟨a, b, rfl, q⟩
def StoreS (H : Hp) (p sl : Addr) : Prop := ∃ (ns : List Int) (i b c s : Int), H p = some (.lst [.ref sl, .int i, .int b, .int c, .int s]) ∧ H sl = some (.lst (ns.map V.int)) ∧ sl ≠ p ∧ 0 ≤ i ∧ 0 ≤ b
def StoreAt (H : Hp) (p : Addr) : Prop := ∃ sl, StoreS H p sl
theorem StoreAt.ex {H : Hp} {p : Addr} (h : StoreAt H p) : ∃ o, H p = some o := by
  obtain ⟨sl, ns, i, b, c, s, hp, _⟩ := h
  exact ⟨_, hp⟩
theorem StoreAt.new {H : Hp} {p q : Addr} {o : HO} (h : StoreAt H p) (hq : H q = none) : StoreAt (upd H q o) p := by
  obtain ⟨sl, ns, i, b, c, s, hp, hs, r⟩ := h
  exact ⟨sl, ns, i, b, c, s, at_upd (ne_new hq hp) hp, at_upd (ne_new hq hs) hs, r⟩
theorem StoreAt.kp {H H' : Hp} {p : Addr} (h : StoreAt H p) (k : Kp [] H H') : StoreAt H' p := by
  obtain ⟨sl, ns, i, b, c, s, hp, hs, r⟩ := h
  exact ⟨sl, ns, i, b, c, s, k _ _ nil_mem hp, k _ _ nil_mem hs, r⟩
theorem StoreAt.free {H H' : Hp} {p r : Addr} (h : StoreAt H' p) (k : Kp [p] H H') (hr : H' r = none) : H r = none := k.freeS (fun x hx => by
  rw [List.mem_singleton] at hx
  subst hx
  exact h.ex) hr
theorem StoreS.at {H : Hp} {p sl : Addr} (h : StoreS H p sl) : StoreAt H p := ⟨sl, h⟩
theorem StoreS.ex {H : Hp} {p sl : Addr} (h : StoreS H p sl) : ∃ o, H p = some o := h.at.ex
theorem StoreS.new {H : Hp} {p sl q : Addr} {o : HO} (h : StoreS H p sl) (hq : H q = none) : StoreS (upd H q o) p sl := by
  obtain ⟨ns, i, b, c, s, hp, hs, r⟩ := h
  exact ⟨ns, i, b, c, s, at_upd (ne_new hq hp) hp, at_upd (ne_new hq hs) hs, r⟩
theorem StoreS.kp {H H' : Hp} {p sl : Addr} (h : StoreS H p sl) (k : Kp [] H H') : StoreS H' p sl := by
  obtain ⟨ns, i, b, c, s, hp, hs, r⟩ := h
  exact ⟨ns, i, b, c, s, k _ _ nil_mem hp, k _ _ nil_mem hs, r⟩
theorem StoreS.put {H : Hp} {p sl q : Addr} {o : HO} (h : StoreS H p sl) (h1 : q ≠ p) (h2 : q ≠ sl) : StoreS (upd H q o) p sl := by
  obtain ⟨ns, i, b, c, s, hp, hs, r⟩ := h
  exact ⟨ns, i, b, c, s, at_upd h1.symm hp, at_upd h2.symm hs, r⟩
theorem StoreS.ne {H : Hp} {p sl q : Addr} (h : StoreS H p sl) (hq : H q = none) : q ≠ p ∧ q ≠ sl := by
  obtain ⟨ns, i, b, c, s, hp, hs, r⟩ := h
  exact ⟨ne_new' hq hp, ne_new' hq hs⟩
theorem StoreS.free {H H' : Hp} {p sl r : Addr} (h : StoreS H' p sl) (k : Kp [p] H H') (hr : H' r = none) : H r = none := h.at.free k hr
theorem of_map {ns : List Int} {i : Nat} {x : V} (h : (ns.map V.int)[i]? = some x) : ∃ n, x = .int n ∧ ns[i]? = some n := by
  rw [List.getElem?_map] at h
  cases e : ns[i]? with
  | none => rw [e] at h; cases h
  | some n => rw [e] at h; exact ⟨n, (Option.some.inj h).symm, rfl⟩
theorem at_map {ns : List Int} {i : Int} (h0 : 0 ≤ i) (h1 : i < ns.length) : atI (ns.map V.int) i = some (.int (ns.getD i.toNat 0)) := by
  obtain ⟨j, rfl⟩ := Int.eq_ofNat_of_zero_le h0
  have hj : j < ns.length := by omega
  refine atI_nat ?_
  rw [List.getElem?_map, List.getElem?_eq_getElem hj]
  simp [List.getD_eq_getElem?_getD, hj]
abbrev s_law_store : Stmt := topS 54
theorem sc_law_store : FnScope ["script", "seed", "cell"] ["script"] (defScope s_law_store) := ⟨rfl, rfl, rfl, by decide +kernel, rfl, by decide +kernel, by decide +kernel⟩
--DEF _law_store
def spStore (K : PySem.W.Frag) : Sp := fun vs H Q _ => ∃ (a : Addr) (ns : List Int), vs = [.ref a] ∧ SqL K H a (ns.map V.int) ∧ ∀ p H', Kp [] H H' → H p = none → StoreAt H' p → Q (.ref p) H'
theorem ok_law_store (h : DefAt K mg "_law_store" ["script"] s_law_store) (g_len : mg "len" = none) (g_list : mg "list" = none) (D_law_mix : Okk P w K mg base CX0 k "_law_mix" ["one", "two"] spMix) :
    Okk P w K mg base CX0 (k + 1) "_law_store" ["script"] (spStore K) := by
  refine h.ok sc_law_store ?_ ?_
  · rintro vs H Q E ⟨a, ns, rfl, _⟩; rfl
  rintro cdv f A outer s H vs Q E hr ⟨a, ns, rfl, hS, q⟩
  refine ⟨_, (pss_cons (ps_set (i := 1) sc_law_store.nd rfl (Or.inl rfl) (pe_own D_law_mix hr (pa_cons (pe_callB cr_len (by rfl) g_len (by decide +kernel) (pa_cons (pv 0) pa_nil)) (pa_cons pe_int pa_nil))))
      (pss_cons (ps_for PassesOwn.never rfl (pi_list (pv 0)) (pg_name (i := 2) sc_law_store.nd rfl (Or.inl rfl))
        (pss_one (ps_set (i := 1) sc_law_store.nd rfl (Or.inl rfl) (pe_own D_law_mix hr (pa_cons (pv 1) (pa_cons (pv 2) pa_nil))))))
      (pss_one (ps_ret (pe_lst (pa_cons (pe_callTy cr_list (by rfl) g_list (by decide +kernel) (pa_cons (pv 0) pa_nil)) (pa_cons pe_int (pa_cons pe_int (pa_cons pe_int (pa_cons (pv 1) pa_nil)))))))))), ?_⟩
  walk_at "go"
  refine go_mix fun r0 _ _ => ?_
  walk_at "go"
  refine l_list hS (fun i s' H' => ∃ sd c, s' = [some (.ref a), some (.int sd), c] ∧ H' = H) ⟨r0, none, rfl, rfl⟩ (fun i s' H' _ h => ?_) ?_ ?_
  · obtain ⟨_, _, _, rfl⟩ := h; exact hS
  · rintro i x s' H' hx ⟨sd, c, rfl, rfl⟩
    obtain ⟨n, rfl, _⟩ := of_map hx
    walk_at "go"
    refine go_mix fun r _ _ => ?_
    walk_at "go"
    exact ⟨r, some (.int n), rfl, rfl⟩
  · rintro s' H' ⟨sd, c, rfl, rfl⟩
    walk_at "go"
    refine x_listL hS fun l hl => ?_
    walk_at "go"
    intro p hp
    obtain ⟨hp1, hp2⟩ := free_upd hp
    exact q p _ ((Kp.new hl).mut hp1) hp1 ⟨l, ns, 0, 0, 0, sd, upd_same, by walk_at "hp", hp2.symm, by omega, by omega⟩
abbrev s_law_take : Stmt := topS 55
theorem sc_law_take : FnScope ["store", "many", "cell", "digit"] ["store", "many"] (defScope s_law_take) := ⟨rfl, rfl, rfl, by decide +kernel, rfl, by decide +kernel, by decide +kernel⟩
--DEF _law_take
def spTake : Sp := fun vs H Q _ => ∃ (p : Addr) (m : Int) (sl : Addr), vs = [.ref p, .int m] ∧ m < 2 ^ 63 ∧ StoreS H p sl ∧ ∀ d H', StoreS H' p sl → Kp [p] H H' → 0 ≤ d → (m ≤ 1 → d = 0) → (1 < m → d < m) → Q (.int d) H'
theorem go_takeS {p sl : Addr} {m : Int} {H : Hp} {Q : VK} {E : XK} (hs : StoreS H p sl) (q : ∀ d H', StoreS H' p sl → Kp [p] H H' → 0 ≤ d → (m ≤ 1 → d = 0) → (1 < m → d < m) → Q (.int d) H') (hm : m < 2 ^ 63 := by omega) : spTake [.ref p, .int m] H Q E := ⟨p, m, sl, rfl, hm, hs, q⟩
theorem go_take {p : Addr} {m : Int} {H : Hp} {Q : VK} {E : XK} (hs : StoreAt H p) (q : ∀ d H', StoreAt H' p → Kp [p] H H' → 0 ≤ d → (m ≤ 1 → d = 0) → (1 < m → d < m) → Q (.int d) H') (hm : m < 2 ^ 63 := by omega) : spTake [.ref p, .int m] H Q E := by
  obtain ⟨sl, hs⟩ := hs
  exact go_takeS hs (fun d H' a => q d H' a.at) hm
theorem divw_small {i m : Int} (h : 0 < m) (h' : m < 2 ^ 63) : CDivW i m := wide_div (b := 63) h (by omega) (by decide) (by decide)
theorem absI_nn (i : Int) : 0 ≤ absI i := by unfold absI; split <;> omega
theorem ok_law_take (h : DefAt K mg "_law_take" ["store", "many"] s_law_take) (g_len : mg "len" = none) (g_abs : mg "abs" = none) (g_int : mg "int" = none) (D_law_mix : Okk P w K mg base CX0 k "_law_mix" ["one", "two"] spMix) :
    Okk P w K mg base CX0 (k + 1) "_law_take" ["store", "many"] spTake := by
  refine h.ok sc_law_take ?_ ?_
  · rintro vs H Q E ⟨_, _, _, rfl, _⟩; rfl
  rintro cdv f A outer s H vs Q E hr ⟨p, m, sl, rfl, hm, ⟨ns, i, b, c, sd, hp, hsl, hne, hi, hb⟩, q⟩
  refine ⟨_, (pss_cons (ps_if (pt_cmpR op_le (pv 1) pe_int (nomark _)) (pss_one (ps_ret pe_int)) pss_nil)
      (pss_cons (ps_asg (pe_op op_add (pe_ix ix_list (pv 0) pe_int (fun _ _ => rfl)) pe_int) (pg_sub (pv 0) pe_int set_list))
      (C8.pss_cut (ps_if (PW.pt (pw_and (pt_cmpR op_eq (pe_ix ix_list (pv 0) pe_int (fun _ _ => rfl)) pe_int (nomark _)) (pw_and1 (pt_cmpR op_lt (pe_ix ix_list (pv 0) pe_int (fun _ _ => rfl)) (pe_callB cr_len (by rfl) g_len (by decide +kernel) (pa_cons (pe_ix ix_list (pv 0) pe_int (fun _ _ => rfl)) pa_nil)) (nomark _))))) (pss_cons (ps_set (i := 2) sc_law_take.nd rfl (Or.inl rfl) (pe_ix ix_list (pe_ix ix_list (pv 0) pe_int (fun _ _ => rfl)) (pe_ix ix_list (pv 0) pe_int (fun _ _ => rfl)) (fun _ _ => rfl)))
        (pss_cons (ps_asg (pe_op op_add (pe_ix ix_list (pv 0) pe_int (fun _ _ => rfl)) pe_int) (pg_sub (pv 0) pe_int set_list))
        (pss_cons (ps_if (pt_cmpR op_lt (pe_callB cr_abs (by rfl) g_abs (by decide +kernel) (pa_cons (pv 2) pa_nil)) (pe_op op_powW pe_int pe_int) (nomark _)) (pss_one (ps_ret (pe_op op_mod (pe_callTy cr_int (by rfl) g_int (by decide +kernel) (pa_cons (pe_own D_law_mix hr (pa_cons (pv 2) (pa_cons (pe_ix ix_list (pv 0) pe_int (fun _ _ => rfl)) pa_nil))) pa_nil)) (pv 1)))) pss_nil)
        (pss_one (ps_asg (pe_callB cr_abs (by rfl) g_abs (by decide +kernel) (pa_cons (pv 2) pa_nil)) (pg_sub (pv 0) pe_int set_list)))))) pss_nil)
      (pss_cons (ps_if (pt_cmpR op_gt (pe_ix ix_list (pv 0) pe_int (fun _ _ => rfl)) pe_int (nomark _)) (pss_cons (ps_set (i := 3) sc_law_take.nd rfl (Or.inl rfl) (pe_op op_mod (pe_callTy cr_int (by rfl) g_int (by decide +kernel) (pa_cons (pe_ix ix_list (pv 0) pe_int (fun _ _ => rfl)) pa_nil)) (pv 1)))
        (pss_cons (ps_asg (pe_op op_fdivW (pe_callTy cr_int (by rfl) g_int (by decide +kernel) (pa_cons (pe_ix ix_list (pv 0) pe_int (fun _ _ => rfl)) pa_nil)) (pv 1)) (pg_sub (pv 0) pe_int set_list))
        (pss_one (ps_ret (pv 3))))) pss_nil)
      (pss_one (ps_ret (pe_op op_mod (pe_callTy cr_int (by rfl) g_int (by decide +kernel) (pa_cons (pe_own D_law_mix hr (pa_cons (pe_ix ix_list (pv 0) pe_int (fun _ _ => rfl)) (pa_cons (pe_ix ix_list (pv 0) pe_int (fun _ _ => rfl)) pa_nil))) pa_nil)) (pv 1)))))))), ?_⟩
  walk_at "go"
  refine x_dec (fun h1 => ?_) (fun h1 => ?_)
  · walk_at "go"
    exact q 0 H ⟨ns, i, b, c, sd, hp, hsl, hne, hi, hb⟩ Kp.refl (by omega) (fun _ => rfl) (fun z => by omega)
  walk_at "go"
  refine x_cut (fun s' H' => ∃ i' b' c' x3, s' = [some (.ref p), some (.int m), x3, none] ∧ H' = upd H p (.lst [.ref sl, .int i', .int b', .int c', .int sd]) ∧ 0 ≤ i' ∧ 0 ≤ b') ?_ ?_
  · walk_at "go"
    refine x_dec (fun h2 => ?_) (fun h2 => ?_)
    · walk_at "go"
      refine x_dec (fun h3 => ?_) (fun h3 => ?_)
      · rw [List.length_map] at h3
        walk_at "go"
        refine x_ixL (by walk_at "sq") (at_map hi h3) ?_
        walk_at "go"
        refine x_dec (fun h4 => ?_) (fun h4 => ?_)
        · walk_at "go"
          refine go_mix fun r _ _ => ?_
          walk_at "go"
          exact q _ _ ⟨ns, _, _, _, sd, upd_same, at_upd hne hsl, hne, by omega, hb⟩ (Kp.put (by simp)) (Int.emod_nonneg _ (by omega)) (by omega) (fun _ => Int.emod_lt_of_pos _ (by omega))
        · walk_at "go"
          exact ⟨_, _, _, _, rfl, rfl, by omega, absI_nn _⟩
      · walk_at "go"
        exact ⟨_, _, _, _, rfl, rfl, hi, hb⟩
    · walk_at "go"
      exact ⟨_, _, _, _, rfl, rfl, hi, hb⟩
  · rintro s' H' ⟨i', b', c', x3, rfl, rfl, hi', hb'⟩
    walk_at "go"
    refine x_dec (fun h2 => ?_) (fun h2 => ?_)
    · walk_at "go"
      refine x_I (divw_small (by omega) hm) ?_
      walk_at "go"
      exact q _ _ ⟨ns, i', b' / m, c', sd, upd_same, at_upd hne hsl, hne, hi', Int.ediv_nonneg hb' (by omega)⟩ (Kp.put (by simp)) (Int.emod_nonneg _ (by omega)) (by omega) (fun _ => Int.emod_lt_of_pos _ (by omega))
    · walk_at "go"
      refine go_mix fun r _ _ => ?_
      walk_at "go"
      exact q _ _ ⟨ns, i', b', c', sd, upd_same, at_upd hne hsl, hne, hi', hb'⟩ (Kp.put (by simp)) (Int.emod_nonneg _ (by omega)) (by omega) (fun _ => Int.emod_lt_of_pos _ (by omega))
abbrev s_law_number : Stmt := topS 56
theorem sc_law_number : FnScope ["store", "many", "worth", "reach", "k"] ["store", "many"] (defScope s_law_number) := ⟨rfl, rfl, rfl, by decide +kernel, rfl, by decide +kernel, by decide +kernel⟩
--DEF _law_number
def spNumber : Sp := fun vs H Q _ => ∃ (p : Addr) (m : Int) (sl : Addr), vs = [.ref p, .int m] ∧ StoreS H p sl ∧ ∀ d H', StoreS H' p sl → Kp [p] H H' → 0 ≤ d → (m ≤ 1 → d = 0) → (1 < m → d < m) → Q (.int d) H'
theorem go_numberS {p sl : Addr} {m : Int} {H : Hp} {Q : VK} {E : XK} (hs : StoreS H p sl) (q : ∀ d H', StoreS H' p sl → Kp [p] H H' → 0 ≤ d → (m ≤ 1 → d = 0) → (1 < m → d < m) → Q (.int d) H') : spNumber [.ref p, .int m] H Q E := ⟨p, m, sl, rfl, hs, q⟩
theorem go_number {p : Addr} {m : Int} {H : Hp} {Q : VK} {E : XK} (hs : StoreAt H p) (q : ∀ d H', StoreAt H' p → Kp [p] H H' → 0 ≤ d → (m ≤ 1 → d = 0) → (1 < m → d < m) → Q (.int d) H') : spNumber [.ref p, .int m] H Q E := by
  obtain ⟨sl, hs⟩ := hs
  exact go_numberS hs (fun d H' a => q d H' a.at)
theorem ok_law_number (h : DefAt K mg "_law_number" ["store", "many"] s_law_number) (g_range : mg "range" = none) (D_law_take : Okk P w K mg base CX0 k "_law_take" ["store", "many"] spTake) :
    Okk P w K mg base CX0 (k + 1) "_law_number" ["store", "many"] spNumber := by
  refine h.ok sc_law_number ?_ ?_
  · rintro vs H Q E z; first | (obtain ⟨_, _, _, rfl, _⟩ := z; rfl) | (obtain ⟨_, _, _, _, rfl, _⟩ := z; rfl)
  rintro cdv f A outer s H vs Q E hr ⟨p, m, sl, rfl, hS, q⟩
  refine ⟨_, (pss_cons (ps_if (pt_cmpR op_le (pv 1) (pe_op op_powW pe_int pe_int) (nomark _)) (pss_one (ps_ret (pe_own D_law_take hr (pa_cons (pv 0) (pa_cons (pv 1) pa_nil))))) pss_nil)
      (pss_cons (ps_set (i := 2) sc_law_number.nd rfl (Or.inl rfl) pe_int)
      (pss_cons (ps_set (i := 3) sc_law_number.nd rfl (Or.inl rfl) pe_int)
      (pss_cons (ps_for PassesOwn.never rfl (pi_range1 rfl g_range (pa_cons pe_int pa_nil)) (pg_name (i := 4) sc_law_number.nd rfl (Or.inl rfl))
        (pss_cons (ps_if (pt_cmpR op_ge (pv 3) (pv 1) (nomark _)) (pss_one ps_break) pss_nil)
        (pss_cons (ps_set (i := 2) sc_law_number.nd rfl (Or.inl rfl) (pe_op op_add (pe_op op_mul (pv 2) (pe_op op_powW pe_int pe_int)) (pe_own D_law_take hr (pa_cons (pv 0) (pa_cons (pe_op op_powW pe_int pe_int) pa_nil)))))
        (pss_one (ps_set (i := 3) sc_law_number.nd rfl (Or.inl rfl) (pe_op op_mul (pv 3) (pe_op op_powW pe_int pe_int)))))))
      (pss_one (ps_ret (pe_op op_mod (pv 2) (pv 1)))))))), ?_⟩
  walk_at "go"
  refine x_dec (fun h1 => ?_) (fun h1 => ?_)
  · walk_at "go"
    exact go_takeS hS fun d H' a b c e g => q d H' a b c e g
  walk_at "go"
  refine l_rng (by omega) (fun i s' H' => ∃ w r z, s' = [some (.ref p), some (.int m), some (.int w), some (.int r), z] ∧ StoreS H' p sl ∧ Kp [p] H H') ⟨0, 1, none, rfl, hS, Kp.refl⟩ ?_ ?_
  · rintro i s' H' hi ⟨w0, r0, z, rfl, hS', k'⟩
    walk_at "go"
    refine x_dec (fun h2 => ?_) (fun h2 => ?_)
    · walk_at "go"
      exact q _ _ hS' k' (Int.emod_nonneg _ (by omega)) (by omega) (fun _ => Int.emod_lt_of_pos _ (by omega))
    · walk_at "go"
      refine go_takeS hS' fun d H2 a b c e g => ?_
      walk_at "go"
      exact ⟨_, _, _, rfl, a, k'.trans b⟩
  · rintro s' H' ⟨w0, r0, z, rfl, hS', k'⟩
    walk_at "go"
    exact q _ _ hS' k' (Int.emod_nonneg _ (by omega)) (by omega) (fun _ => Int.emod_lt_of_pos _ (by omega))
abbrev s_law_between : Stmt := topS 57
theorem sc_law_between : FnScope ["store", "low", "high"] ["store", "low", "high"] (defScope s_law_between) := ⟨rfl, rfl, rfl, by decide +kernel, rfl, by decide +kernel, by decide +kernel⟩
--DEF _law_between
def spBetween : Sp := fun vs H Q _ => ∃ (p : Addr) (l h : Int) (sl : Addr), vs = [.ref p, .int l, .int h] ∧ StoreS H p sl ∧ ∀ d H', StoreS H' p sl → Kp [p] H H' → l ≤ d → (l ≤ h → d ≤ h) → (h < l → d = l) → Q (.int d) H'
theorem go_betweenS {p sl : Addr} {l h : Int} {H : Hp} {Q : VK} {E : XK} (hs : StoreS H p sl) (q : ∀ d H', StoreS H' p sl → Kp [p] H H' → l ≤ d → (l ≤ h → d ≤ h) → (h < l → d = l) → Q (.int d) H') : spBetween [.ref p, .int l, .int h] H Q E := ⟨p, l, h, sl, rfl, hs, q⟩
theorem go_between {p : Addr} {l h : Int} {H : Hp} {Q : VK} {E : XK} (hs : StoreAt H p) (q : ∀ d H', StoreAt H' p → Kp [p] H H' → l ≤ d → (l ≤ h → d ≤ h) → (h < l → d = l) → Q (.int d) H') : spBetween [.ref p, .int l, .int h] H Q E := by
  obtain ⟨sl, hs⟩ := hs
  exact go_betweenS hs (fun d H' a => q d H' a.at)
theorem ok_law_between (h : DefAt K mg "_law_between" ["store", "low", "high"] s_law_between) (D_law_number : Okk P w K mg base CX0 k "_law_number" ["store", "many"] spNumber) :
    Okk P w K mg base CX0 (k + 1) "_law_between" ["store", "low", "high"] spBetween := by
  refine h.ok sc_law_between ?_ ?_
  · rintro vs H Q E z; first | (obtain ⟨_, _, _, rfl, _⟩ := z; rfl) | (obtain ⟨_, _, _, _, rfl, _⟩ := z; rfl)
  rintro cdv f A outer s H vs Q E hr ⟨p, l, hh, sl, rfl, hS, q⟩
  refine ⟨_, (pss_one (ps_ret (pe_op op_add (pv 1) (pe_own D_law_number hr (pa_cons (pv 0) (pa_cons (pe_op op_add (pe_op op_sub (pv 2) (pv 1)) pe_int) pa_nil)))))), ?_⟩
  walk_at "go"
  refine go_numberS hS fun d H' a b c e g => ?_
  walk_at "go"
  exact q _ _ a b (by omega) (by omega) (by omega)
abbrev s_law_near_ends : Stmt := topS 58
theorem sc_law_near_ends : FnScope ["store", "low", "high", "kind"] ["store", "low", "high"] (defScope s_law_near_ends) := ⟨rfl, rfl, rfl, by decide +kernel, rfl, by decide +kernel, by decide +kernel⟩
--DEF _law_near_ends
def spNear : Sp := spBetween
theorem ok_law_near_ends (h : DefAt K mg "_law_near_ends" ["store", "low", "high"] s_law_near_ends) (g_max : mg "max" = none) (D_law_take : Okk P w K mg base CX0 k "_law_take" ["store", "many"] spTake) (D_law_between : Okk P w K mg base CX0 k "_law_between" ["store", "low", "high"] spBetween) :
    Okk P w K mg base CX0 (k + 1) "_law_near_ends" ["store", "low", "high"] spBetween := by
  refine h.ok sc_law_near_ends ?_ ?_
  · rintro vs H Q E z; first | (obtain ⟨_, _, _, rfl, _⟩ := z; rfl) | (obtain ⟨_, _, _, _, rfl, _⟩ := z; rfl)
  rintro cdv f A outer s H vs Q E hr ⟨p, l, hh, sl, rfl, hS, q⟩
  refine ⟨_, (pss_cons (ps_set (i := 3) sc_law_near_ends.nd rfl (Or.inl rfl) (pe_own D_law_take hr (pa_cons (pv 0) (pa_cons pe_int pa_nil))))
      (pss_cons (ps_if (pt_cmpR op_eq (pv 3) pe_int (nomark _)) (pss_one (ps_ret (pv 1))) pss_nil)
      (pss_cons (ps_if (pt_cmpR op_eq (pv 3) pe_int (nomark _)) (pss_one (ps_ret (pe_callB (cr_max2 rfl) (by rfl) g_max (by decide +kernel) (pa_cons (pv 1) (pa_cons (pv 2) pa_nil))))) pss_nil)
      (pss_one (ps_ret (pe_own D_law_between hr (pa_cons (pv 0) (pa_cons (pv 1) (pa_cons (pv 2) pa_nil))))))))), ?_⟩
  walk_at "go"
  refine go_takeS hS fun d H' a b c e g => ?_
  walk_at "go"
  refine x_dec (fun h2 => ?_) (fun h2 => ?_)
  · walk_at "go"
    exact q _ _ a b (by omega) (by omega) (by omega)
  walk_at "go"
  refine x_dec (fun h2 => ?_) (fun h2 => ?_)
  · walk_at "go"
    exact q _ _ a b (by split <;> omega) (by split <;> omega) (by split <;> omega)
  walk_at "go"
  exact go_betweenS a fun d2 H2 a2 b2 c2 e2 g2 => q d2 H2 a2 (b.trans b2) c2 e2 g2
abbrev s_law_pick : Stmt := topS 59
theorem sc_law_pick : FnScope ["store", "row"] ["store", "row"] (defScope s_law_pick) := ⟨rfl, rfl, rfl, by decide +kernel, rfl, by decide +kernel, by decide +kernel⟩
--DEF _law_pick
def spPick (K : PySem.W.Frag) : Sp := fun vs H Q _ => ∃ (p a : Addr) (xs : List V) (sl : Addr), vs = [.ref p, .ref a] ∧ StoreS H p sl ∧ SqL K H a xs ∧ a ≠ p ∧ 0 < xs.length ∧ xs.length < 100000 ∧ ∀ v H', StoreS H' p sl → Kp [p] H H' → v ∈ xs → Q v H'
theorem go_pickS {p a sl : Addr} {xs : List V} {H : Hp} {Q : VK} {E : XK} (hs : StoreS H p sl) (hx : SqL K H a xs) (hn : a ≠ p) (h0 : 0 < xs.length) (h1 : xs.length < 100000) (q : ∀ v H', StoreS H' p sl → Kp [p] H H' → v ∈ xs → Q v H') : spPick K [.ref p, .ref a] H Q E := ⟨p, a, xs, sl, rfl, hs, hx, hn, h0, h1, q⟩
theorem go_pick {p a : Addr} {xs : List V} {H : Hp} {Q : VK} {E : XK} (hs : StoreAt H p) (hx : SqL K H a xs) (hn : a ≠ p) (h0 : 0 < xs.length) (h1 : xs.length < 100000) (q : ∀ v H', StoreAt H' p → Kp [p] H H' → v ∈ xs → Q v H') : spPick K [.ref p, .ref a] H Q E := by
  obtain ⟨sl, hs⟩ := hs
  exact go_pickS hs hx hn h0 h1 (fun d H' a => q d H' a.at)
theorem ok_law_pick (h : DefAt K mg "_law_pick" ["store", "row"] s_law_pick) (g_len : mg "len" = none) (D_law_take : Okk P w K mg base CX0 k "_law_take" ["store", "many"] spTake) :
    Okk P w K mg base CX0 (k + 1) "_law_pick" ["store", "row"] (spPick K) := by
  refine h.ok sc_law_pick ?_ ?_
  · rintro vs H Q E z; first | (obtain ⟨_, _, _, rfl, _⟩ := z; rfl) | (obtain ⟨_, _, _, _, rfl, _⟩ := z; rfl)
  rintro cdv f A outer s H vs Q E hr ⟨p, a, xs, sl, rfl, hS, hx, hn, h0, h1, q⟩
  refine ⟨_, (pss_one (ps_ret (pe_ix ix_list (pv 1) (pe_own D_law_take hr (pa_cons (pv 0) (pa_cons (pe_callB cr_len (by rfl) g_len (by decide +kernel) (pa_cons (pv 1) pa_nil)) pa_nil))) (fun _ _ => rfl)))), ?_⟩
  walk_at "go"
  refine go_takeS hS fun d H' a1 b c e g => ?_
  have hd : d.toNat < xs.length := by omega
  refine x_ixL (b.sq (one_mem hn) hx) (at_of (j := d.toNat) (by omega) (List.getElem?_eq_getElem hd)) ?_
  exact q _ _ a1 b (List.getElem_mem hd)
abbrev s_law_size : Stmt := topS 60
theorem sc_law_size : FnScope ["store", "most", "kind"] ["store", "most"] (defScope s_law_size) := ⟨rfl, rfl, rfl, by decide +kernel, rfl, by decide +kernel, by decide +kernel⟩
--DEF _law_size
def spSize : Sp := fun vs H Q _ => ∃ (p : Addr) (m : Int) (sl : Addr), vs = [.ref p, .int m] ∧ 1 ≤ m ∧ m < 100000 ∧ StoreS H p sl ∧ ∀ d H', StoreS H' p sl → Kp [p] H H' → 1 ≤ d → d ≤ m → Q (.int d) H'
theorem go_sizeS {p sl : Addr} {m : Int} {H : Hp} {Q : VK} {E : XK} (hs : StoreS H p sl) (h1 : 1 ≤ m) (h2 : m < 100000) (q : ∀ d H', StoreS H' p sl → Kp [p] H H' → 1 ≤ d → d ≤ m → Q (.int d) H') : spSize [.ref p, .int m] H Q E := ⟨p, m, sl, rfl, h1, h2, hs, q⟩
theorem ok_law_size (h : DefAt K mg "_law_size" ["store", "most"] s_law_size) (g_min : mg "min" = none) (D_law_take : Okk P w K mg base CX0 k "_law_take" ["store", "many"] spTake) :
    Okk P w K mg base CX0 (k + 1) "_law_size" ["store", "most"] spSize := by
  refine h.ok sc_law_size ?_ ?_
  · rintro vs H Q E ⟨p, m, _, rfl, _⟩; rfl
  rintro cdv f A outer s H vs Q E hr ⟨p, m, sl, rfl, m1, m2, hS, q⟩
  refine ⟨_, (pss_cons (ps_set (i := 2) sc_law_size.nd rfl (Or.inl rfl) (pe_own D_law_take hr (pa_cons (pv 0) (pa_cons pe_int pa_nil))))
      (pss_cons (ps_if (pt_cmpR op_eq (pv 2) pe_int (nomark _)) (pss_one (ps_ret pe_int)) pss_nil)
      (pss_cons (ps_if (pt_cmpR op_eq (pv 2) pe_int (nomark _)) (pss_one (ps_ret (pv 1))) pss_nil)
      (pss_cons (ps_if (pt_cmpR op_eq (pv 2) pe_int (nomark _)) (pss_one (ps_ret (pe_op op_add pe_int (pe_own D_law_take hr (pa_cons (pv 0) (pa_cons (pv 1) pa_nil)))))) pss_nil)
      (pss_one (ps_ret (pe_op op_add pe_int (pe_own D_law_take hr (pa_cons (pv 0) (pa_cons (pe_callB (cr_min2 rfl) (by rfl) g_min (by decide +kernel) (pa_cons (pv 1) (pa_cons pe_int pa_nil))) pa_nil)))))))))), ?_⟩
  walk_at "go"
  refine go_takeS hS fun d H' a b c e g => ?_
  walk_at "go"
  refine x_dec (fun h1 => ?_) (fun h1 => ?_)
  · walk_at "go"
    exact q _ _ a b (by omega) (by omega)
  walk_at "go"
  refine x_dec (fun h2 => ?_) (fun h2 => ?_)
  · walk_at "go"
    exact q _ _ a b (by omega) (by omega)
  walk_at "go"
  refine x_dec (fun h3 => ?_) (fun h3 => ?_)
  · walk_at "go"
    refine go_takeS a fun d2 H2 a2 b2 c2 e2 g2 => ?_
    walk_at "go"
    exact q _ _ a2 (b.trans b2) (by omega) (by omega)
  walk_at "go"
  refine go_takeS a (fun d2 H2 a2 b2 c2 e2 g2 => ?_) (by split <;> omega)
  walk_at "go"
  refine q _ _ a2 (b.trans b2) (by omega) ?_
  by_cases h5 : (5 : Int) < m
  · rw [if_pos h5] at e2 g2; omega
  · rw [if_neg h5] at e2 g2; omega
abbrev s_law_shuffled : Stmt := topS 61
theorem sc_law_shuffled : FnScope ["store", "row", "work", "k", "at", "held"] ["store", "row"] (defScope s_law_shuffled) := ⟨rfl, rfl, rfl, by decide +kernel, rfl, by decide +kernel, by decide +kernel⟩
--DEF _law_shuffled
def spShuf (K : PySem.W.Frag) : Sp := fun vs H Q _ => ∃ (p a : Addr) (xs : List V) (sl : Addr), vs = [.ref p, .ref a] ∧ StoreS H p sl ∧ SqL K H a xs ∧ xs.length < 90000 ∧ ∀ l ys H', StoreS H' p sl → Kp [p] H H' → H l = none → H' l = some (.lst ys) → ys.Perm xs → Q (.ref l) H'
theorem go_shufS {p a sl : Addr} {xs : List V} {H : Hp} {Q : VK} {E : XK} (hs : StoreS H p sl) (hx : SqL K H a xs) (hl : xs.length < 90000) (q : ∀ l ys H', StoreS H' p sl → Kp [p] H H' → H l = none → H' l = some (.lst ys) → ys.Perm xs → Q (.ref l) H') : spShuf K [.ref p, .ref a] H Q E := ⟨p, a, xs, sl, rfl, hs, hx, hl, q⟩
theorem ok_law_shuffled (h : DefAt K mg "_law_shuffled" ["store", "row"] s_law_shuffled) (g_list : mg "list" = none) (g_range : mg "range" = none) (g_len : mg "len" = none) (D_law_take : Okk P w K mg base CX0 k "_law_take" ["store", "many"] spTake) :
    Okk P w K mg base CX0 (k + 1) "_law_shuffled" ["store", "row"] (spShuf K) := by
  refine h.ok sc_law_shuffled ?_ ?_
  · rintro vs H Q E ⟨p, a, xs, _, rfl, _⟩; rfl
  rintro cdv f A outer s H vs Q E hr ⟨p, a, xs, sl, rfl, hS, hx, hl, q⟩
  refine ⟨_, (pss_cons (ps_set (i := 2) sc_law_shuffled.nd rfl (Or.inl rfl) (pe_callTy cr_list (by rfl) g_list (by decide +kernel) (pa_cons (pv 1) pa_nil)))
      (pss_cons (ps_for PassesOwn.never rfl (pi_range3 rfl g_range (pa_cons (pe_op op_sub (pe_callB cr_len (by rfl) g_len (by decide +kernel) (pa_cons (pv 2) pa_nil)) pe_int) (pa_cons pe_int (pa_cons (pe_un un_neg pe_int) pa_nil)))) (pg_name (i := 3) sc_law_shuffled.nd rfl (Or.inl rfl))
        (pss_cons (ps_set (i := 4) sc_law_shuffled.nd rfl (Or.inl rfl) (pe_own D_law_take hr (pa_cons (pv 0) (pa_cons (pe_op op_add (pv 3) pe_int) pa_nil))))
        (pss_cons (ps_set (i := 5) sc_law_shuffled.nd rfl (Or.inl rfl) (pe_ix ix_list (pv 2) (pv 3) (fun _ _ => rfl)))
        (pss_cons (ps_asg (pe_ix ix_list (pv 2) (pv 4) (fun _ _ => rfl)) (pg_sub (pv 2) (pv 3) set_list))
        (pss_one (ps_asg (pv 5) (pg_sub (pv 2) (pv 4) set_list)))))))
      (pss_one (ps_ret (pv 2))))), ?_⟩
  walk_at "go"
  refine x_listL hx fun l fl => ?_
  walk_at "go"
  refine l_down ⟨by omega, by omega, by omega, by omega⟩ (fun i s' H' => StoreS H' p sl ∧ Kp [p] H H' ∧ (∃ ys, H' l = some (.lst ys) ∧ ys.Perm xs) ∧ ∃ z3 z4 z5, s' = [some (.ref p), some (.ref a), some (.ref l), z3, z4, z5]) ⟨hS.new fl, Kp.new fl, ⟨xs, upd_same, .refl _⟩, _, _, _, rfl⟩ ?_ ?_
  · rintro m s' H' hm ⟨hS1, k1, ⟨ys, e1, hp⟩, z3, z4, z5, rfl⟩
    have hlen := hp.length_eq
    walk_at "go"
    refine go_takeS hS1 (fun d H2 a2 b2 c2 d2 g2 => ?_)
    obtain ⟨hlp, hls⟩ := hS.ne fl
    have e2 := b2 _ _ (one_mem hlp) e1
    have h1 : (((xs.length : Int) - 1 - m)).toNat < ys.length := by omega
    have h2 : d.toNat < ys.length := by omega
    walk_at "go"
    refine x_ixL (SqL.of e2) (at_of (j := ((xs.length : Int) - 1 - m).toNat) (by omega) (List.getElem?_eq_getElem h1)) ?_
    walk_at "go"
    refine x_ixL (SqL.of e2) (at_of (j := d.toNat) (by omega) (List.getElem?_eq_getElem h2)) ?_
    walk_at "go"
    refine x_setN e2 (j := ((xs.length : Int) - 1 - m).toNat) (by omega) (SetTo.at h1) ?_
    walk_at "go"
    refine x_setN upd_same (j := d.toNat) (by omega) (SetTo.at (by rw [List.length_set]; exact h2)) ?_
    walk_at "go"
    refine ⟨(a2.put hlp hls).put hlp hls, ((k1.trans b2).mut fl).mut fl, ⟨_, upd_same, (swap_perm (List.getElem?_eq_getElem h1) (List.getElem?_eq_getElem h2)).trans hp⟩, _, _, _, rfl⟩
  · rintro s' H' ⟨hS1, k1, ⟨ys, e1, hp⟩, z3, z4, z5, rfl⟩
    walk_at "go"
    exact q l ys H' hS1 k1 fl e1 hp
abbrev s_law_is_int : Stmt := topS 66
theorem sc_law_is_int : FnScope ["told"] ["told"] (defScope s_law_is_int) := ⟨rfl, rfl, rfl, by decide +kernel, rfl, by decide +kernel, by decide +kernel⟩
--DEF _law_is_int
def isI : PyData → Bool
  | .int _ => true
  | _ => false
def spIsInt (K : PySem.W.Frag) : Sp := fun vs H Q _ => ∃ v d, vs = [v] ∧ Rr K H v d ∧ Q (.bl (isI d)) H
theorem go_isint {v : V} {d : PyData} {H : Hp} {Q : VK} {E : XK} (h : Rr K H v d) (q : Q (.bl (isI d)) H) : spIsInt K [v] H Q E := ⟨v, d, rfl, h, q⟩
theorem go_isint1 {i : Int} {H : Hp} {Q : VK} {E : XK} (q : Q (.bl true) H) : spIsInt K [.int i] H Q E := ⟨.int i, .int i, rfl, .int i, q⟩
theorem ok_law_is_int (h : DefAt K mg "_law_is_int" ["told"] s_law_is_int) (g_isinstance : mg "isinstance" = none) (g_int : mg "int" = none) (g_bool : mg "bool" = none) : Okk P w K mg base CX0 (k + 1) "_law_is_int" ["told"] (spIsInt K) := by
  refine h.ok sc_law_is_int ?_ ?_
  · rintro vs H Q E ⟨v, d, rfl, _⟩; rfl
  rintro cdv f A outer s H vs Q E hr ⟨v, d, rfl, hv, q⟩
  refine ⟨_, (pss_one (ps_ret (pe_and (pe_callB call_isi (by rfl) g_isinstance (by decide +kernel) (pa_cons (pv 0) (pa_cons (pe_bltn (v := .ty "int") (by rfl) g_int (by decide +kernel) rfl) pa_nil))) (pe_one (pe_not (pe_callB call_isi (by rfl) g_isinstance (by decide +kernel) (pa_cons (pv 0) (pa_cons (pe_bltn (v := .ty "bool") (by rfl) g_bool (by decide +kernel) rfl) pa_nil)))))))), ?_⟩
  cases hv <;> walk_at "go" <;> exact q
abbrev s_law_is_ints : Stmt := topS 67
theorem sc_law_is_ints : FnScope ["told", "part"] ["told"] (defScope s_law_is_ints) := ⟨rfl, rfl, rfl, by decide +kernel, rfl, by decide +kernel, by decide +kernel⟩
--DEF _law_is_ints
def isIs : PyData → Bool
  | .list ds => ds.all isI
  | _ => false
def spIsInts (K : PySem.W.Frag) : Sp := fun vs H Q _ => ∃ v d, vs = [v] ∧ Rr K H v d ∧ (∀ ds, d = .list ds → ds.length ≤ 100000) ∧ ∀ H', Kp [] H H' → Q (.bl (isIs d)) H'
theorem go_isints {v : V} {d : PyData} {H : Hp} {Q : VK} {E : XK} (h : Rr K H v d) (l : ∀ ds, d = .list ds → ds.length ≤ 100000) (q : ∀ H', Kp [] H H' → Q (.bl (isIs d)) H') : spIsInts K [v] H Q E := ⟨v, d, rfl, h, l, q⟩
theorem all_range {α : Type} (p : α → Bool) : ∀ l : List α, ((List.range l.length).map fun i => (l[i]?.map p).getD false).all id = l.all p := fun l => by
  rw [Bool.eq_iff_iff, List.all_eq_true, List.all_eq_true]
  constructor
  · intro h x hx
    obtain ⟨i, hi, e⟩ := List.getElem_of_mem hx
    have := h _ (List.mem_map.mpr ⟨i, List.mem_range.mpr hi, rfl⟩)
    rw [List.getElem?_eq_getElem hi] at this
    simpa [e] using this
  · intro h x hx
    obtain ⟨i, hi, rfl⟩ := List.mem_map.mp hx
    have hi := List.mem_range.mp hi
    rw [List.getElem?_eq_getElem hi]
    simpa using h _ (List.getElem_mem hi)
theorem ok_law_is_ints (h : DefAt K mg "_law_is_ints" ["told"] s_law_is_ints) (g_isinstance : mg "isinstance" = none) (g_list : mg "list" = none) (g_all : mg "all" = none) (D_law_is_int : Okk P w K mg base CX0 k "_law_is_int" ["told"] (spIsInt K)) : Okk P w K mg base CX0 (k + 1) "_law_is_ints" ["told"] (spIsInts K) := by
  refine h.ok sc_law_is_ints ?_ ?_
  · rintro vs H Q E ⟨v, d, rfl, _⟩; rfl
  rintro cdv f A outer s H vs Q E hr ⟨v, d, rfl, hv, hl, q⟩
  refine ⟨_, (pss_one (ps_ret (pe_and (pe_callB call_isi (by rfl) g_isinstance (by decide +kernel) (pa_cons (pv 0) (pa_cons (pe_bltn (v := .ty "list") (by rfl) g_list (by decide +kernel) rfl) pa_nil))) (pe_one (pe_callB (cr_all rfl) (by rfl) g_all (by decide +kernel) (pa_cons (pe_lc (own := [("part", 1)]) rfl sc_law_is_ints.nd (pi_list (pv 0)) (blkOk_by (own := [("part", 1)]) (N := ["told", "part"]) (sc := defScope s_law_is_ints) (by decide +kernel)) (fun _ _ _ _ _ => pg_name (i := 1) sc_law_is_ints.nd rfl (Or.inl rfl)) (fun _ _ _ _ _ => pts_nil) (fun _ _ _ _ _ => (pe_own D_law_is_int hr (pa_cons (pv 1) pa_nil)))) pa_nil)))))), ?_⟩
  cases hv with
  | @lst a xs ds _ hx hA =>
    have hlen := hA.length
    have hz := hl ds rfl
    walk_at "go"
    refine l_lcLm (by walk_at "wipe") [] (fun i => .bl ((ds[i]?.map isI).getD false)) hx nil_mem (by simp) (by omega) ?_ gname_mono ?_
    · intro Dl i x H' Z h1 hi kp hZ
      obtain ⟨d, gd, rd⟩ := hA.get' hi
      walk_at "go"
      refine ⟨rfl, ?_⟩
      walk_at "go"
      refine go_isint (rd.to kp) ?_
      have := hZ H' Kp.refl
      rw [gd] at this
      exact this
    · intro Dl H' h1 kp hD
      walk_at "go"
      refine ⟨Dl, (List.range xs.length).map fun i => (ds[i]?.map isI).getD false, rfl, SqL.of (by rw [hD, List.map_map]; rfl), ?_⟩
      rw [hlen, all_range]
      exact q H' kp
  | _ =>
    walk_at "go"
    exact q H Kp.refl
/-! ### how far the law's own loop for the divisor has to go -/
def fib : Nat → Nat
  | 0 => 0
  | 1 => 1
  | n + 2 => fib (n + 1) + fib n
theorem fib_two (n : Nat) : fib (n + 2) = fib (n + 1) + fib n := rfl
theorem fib_rat : ∀ n, 8 * fib (n + 5) ≤ 5 * fib (n + 6) ∧ 3 * fib (n + 6) ≤ 5 * fib (n + 5)
  | 0 => by decide
  | n + 1 => by
    obtain ⟨h1, h2⟩ := fib_rat n
    have e : fib (n + 1 + 6) = fib (n + 6) + fib (n + 5) := fib_two (n + 5)
    have e2 : fib (n + 1 + 5) = fib (n + 6) := rfl
    omega
theorem fib_up (n : Nat) : 512 * fib (n + 5) ≤ fib (n + 18) := by
  obtain ⟨h1, h2⟩ := fib_rat n
  have e2 : fib (n + 7) = fib (n + 6) + fib (n + 5) := fib_two (n + 5)
  have e3 : fib (n + 8) = fib (n + 7) + fib (n + 6) := fib_two (n + 6)
  have e4 : fib (n + 9) = fib (n + 8) + fib (n + 7) := fib_two (n + 7)
  have e5 : fib (n + 10) = fib (n + 9) + fib (n + 8) := fib_two (n + 8)
  have e6 : fib (n + 11) = fib (n + 10) + fib (n + 9) := fib_two (n + 9)
  have e7 : fib (n + 12) = fib (n + 11) + fib (n + 10) := fib_two (n + 10)
  have e8 : fib (n + 13) = fib (n + 12) + fib (n + 11) := fib_two (n + 11)
  have e9 : fib (n + 14) = fib (n + 13) + fib (n + 12) := fib_two (n + 12)
  have e10 : fib (n + 15) = fib (n + 14) + fib (n + 13) := fib_two (n + 13)
  have e11 : fib (n + 16) = fib (n + 15) + fib (n + 14) := fib_two (n + 14)
  have e12 : fib (n + 17) = fib (n + 16) + fib (n + 15) := fib_two (n + 15)
  have e13 : fib (n + 18) = fib (n + 17) + fib (n + 16) := fib_two (n + 16)
  omega
theorem fib_big : ∀ j, 2 ^ (9 * j) ≤ fib (13 * j + 5)
  | 0 => by decide
  | j + 1 => by
    have h := fib_big j
    have u := fib_up (13 * j)
    have e : 13 * (j + 1) + 5 = 13 * j + 18 := by omega
    have e2 : 9 * (j + 1) = 9 * j + 9 := by omega
    rw [e, e2, Nat.pow_add]
    omega
theorem fib_mono : ∀ (n j : Nat), fib n ≤ fib (n + j)
  | n, 0 => Nat.le_refl _
  | n, j + 1 => by
    have h := fib_mono n j
    have e : fib (n + (j + 1)) ≥ fib (n + j) := by
      cases q : n + j with
      | zero => rw [show n + (j + 1) = 1 by omega]; decide
      | succ m =>
        rw [show n + (j + 1) = m + 2 by omega, fib_two]
        omega
    omega
theorem fib_4001 : 2 ^ 2760 ≤ fib 4001 := by
  have h := fib_big 307
  have m := fib_mono (13 * 307 + 5) 5
  have p : (2 : Nat) ^ 2760 ≤ 2 ^ (9 * 307) := Nat.pow_le_pow_right (by decide) (by decide)
  exact Nat.le_trans p (Nat.le_trans h m)
/-- the pair is far from its end -/
def Far (m x y : Nat) : Prop := fib (m + 1) ≤ y ∧ fib (m + 2) ≤ x
theorem far_back {m x y : Nat} (hy : 0 < y) (hxy : y ≤ x) (h : Far m y (x % y)) : Far (m + 1) x y := by
  obtain ⟨h1, h2⟩ := h
  refine ⟨h2, ?_⟩
  have e : fib (m + 1 + 2) = fib (m + 2) + fib (m + 1) := fib_two (m + 1)
  have d := Nat.div_add_mod x y
  have q : 1 ≤ x / y := (Nat.le_div_iff_mul_le hy).mpr (by omega)
  have z : y * 1 ≤ y * (x / y) := Nat.mul_le_mul_left _ q
  omega
abbrev s_law_gcd : Stmt := topS 69
theorem sc_law_gcd : FnScope ["one", "two", "k", "kept"] ["one", "two"] (defScope s_law_gcd) := ⟨rfl, rfl, rfl, by decide +kernel, rfl, by decide +kernel, by decide +kernel⟩
--DEF _law_gcd
def spGcdL : Sp := fun vs H Q _ => ∃ a b : Int, vs = [.int a, .int b] ∧ Bt 2760 b ∧ Q (.int ((Nat.gcd a.natAbs b.natAbs : Nat) : Int)) H
theorem go_gcdl {a b : Int} {H : Hp} {Q : VK} {E : XK} (hb : Bt 2760 b) (q : Q (.int ((Nat.gcd a.natAbs b.natAbs : Nat) : Int)) H) : spGcdL [.int a, .int b] H Q E := ⟨a, b, rfl, hb, q⟩
theorem absI_nat (i : Int) : absI i = ((i.natAbs : Nat) : Int) := by unfold absI; split <;> omega
theorem ok_law_gcd (h : DefAt K mg "_law_gcd" ["one", "two"] s_law_gcd) (g_abs : mg "abs" = none) (g_int : mg "int" = none) (g_range : mg "range" = none) : Okk P w K mg base CX0 (k + 1) "_law_gcd" ["one", "two"] spGcdL := by
  refine h.ok sc_law_gcd ?_ ?_
  · rintro vs H Q E ⟨a, b, rfl, _⟩; rfl
  rintro cdv f A outer s H vs Q E hr ⟨a, b, rfl, hb, q⟩
  refine ⟨_, (pss_cons (ps_set (i := 0) sc_law_gcd.nd rfl (Or.inl rfl) (pe_callB cr_abs (by rfl) g_abs (by decide +kernel) (pa_cons (pe_callTy cr_int (by rfl) g_int (by decide +kernel) (pa_cons (pv 0) pa_nil)) pa_nil)))
      (pss_cons (ps_set (i := 1) sc_law_gcd.nd rfl (Or.inl rfl) (pe_callB cr_abs (by rfl) g_abs (by decide +kernel) (pa_cons (pe_callTy cr_int (by rfl) g_int (by decide +kernel) (pa_cons (pv 1) pa_nil)) pa_nil)))
      (pss_cons (ps_for PassesOwn.never rfl (pi_range1 rfl g_range (pa_cons pe_int pa_nil)) (pg_name (i := 2) sc_law_gcd.nd rfl (Or.inl rfl))
        (pss_cons (ps_if (pt_cmpR op_eq (pv 1) pe_int (nomark _)) (pss_one ps_break) pss_nil)
        (pss_cons (ps_set (i := 3) sc_law_gcd.nd rfl (Or.inl rfl) (pe_op op_mod (pv 0) (pv 1)))
        (pss_cons (ps_set (i := 0) sc_law_gcd.nd rfl (Or.inl rfl) (pv 1))
        (pss_one (ps_set (i := 1) sc_law_gcd.nd rfl (Or.inl rfl) (pv 3)))))))
      (pss_one (ps_ret (pv 0)))))), ?_⟩
  walk_at "go"
  rw [absI_nat, absI_nat]
  have hb0 : ¬ Far 4000 a.natAbs b.natAbs := fun z => by
    have h1 : fib 4001 ≤ b.natAbs := z.1
    exact absurd (Nat.lt_of_lt_of_le hb (Nat.le_trans fib_4001 h1)) (Nat.lt_irrefl _)
  have hb1 : ¬ Far 3999 b.natAbs (a.natAbs % b.natAbs) := fun z => by
    have h1 : fib 4001 ≤ b.natAbs := z.2
    exact absurd (Nat.lt_of_lt_of_le hb (Nat.le_trans fib_4001 h1)) (Nat.lt_irrefl _)
  refine l_rng (by omega) (fun i s' H' => ∃ (x y : Nat) (z1 z2 : Option V), s' = [some (.int (x : Int)), some (.int (y : Int)), z1, z2] ∧ H' = H ∧ Nat.gcd x y = Nat.gcd a.natAbs b.natAbs ∧
    ((i = 0 ∧ x = a.natAbs ∧ y = b.natAbs) ∨ (0 < x ∧ y < x ∧ ∃ m, m + i = 4000 ∧ ¬ Far m x y))) ⟨_, _, none, none, rfl, rfl, rfl, .inl ⟨rfl, rfl, rfl⟩⟩ ?_ ?_
  · rintro i s' H' hi ⟨x, y, z1, z2, rfl, rfl, e, w⟩
    walk_at "go"
    refine x_dec (fun h0 => ?_) (fun h0 => ?_)
    · have ey : y = 0 := by omega
      subst ey
      walk_at "go"
      rw [Nat.gcd_zero_right] at e
      rw [e]
      exact q
    · have hy : 0 < y := by omega
      walk_at "go"
      refine ⟨y, x % y, _, _, rfl, rfl, ?_, .inr ⟨hy, Nat.mod_lt _ hy, ?_⟩⟩
      · rw [← e, Nat.gcd_comm y, ← Nat.gcd_rec, Nat.gcd_comm]
      · rcases w with ⟨e1, e2, e3⟩ | ⟨w1, w2, m, em, w3⟩
        · subst e1 e2 e3
          exact ⟨3999, rfl, hb1⟩
        · obtain ⟨n, rfl⟩ : ∃ n, m = n + 1 := ⟨m - 1, by omega⟩
          exact ⟨n, by omega, fun z => w3 (far_back hy (Nat.le_of_lt w2) z)⟩
  · rintro s' H' ⟨x, y, z1, z2, rfl, rfl, e, w⟩
    rcases w with ⟨e1, _, _⟩ | ⟨w1, w2, m, em, w3⟩
    · exact absurd e1 (by decide)
    have em' : m + 4000 = 4000 := em
    have e0 : m = 0 := by omega
    subst e0
    have ey : y = 0 := by
      rcases Nat.eq_zero_or_pos y with z | z
      · exact z
      · exact absurd ⟨z, w1⟩ w3
    subst ey
    walk_at "go"
    rw [Nat.gcd_zero_right] at e
    rw [e]
    exact q
mutual
/-- how deep data goes -/
def dep : PyData → Nat
  | .list xs => depAll xs + 1
  | .tuple xs => depAll xs + 1
  | _ => 0
def depAll : List PyData → Nat
  | [] => 0
  | x :: r => max (dep x) (depAll r)
end
theorem dep_le : ∀ {ds : List PyData} {i : Nat} {d : PyData}, ds[i]? = some d → dep d ≤ depAll ds
  | [], _, _, h => by simp at h
  | x :: r, 0, d, h => by
    simp at h
    subst h
    show dep x ≤ max (dep x) (depAll r)
    omega
  | x :: r, i + 1, d, h => by
    have := dep_le (ds := r) (i := i) (d := d) (by simpa using h)
    show dep d ≤ max (dep x) (depAll r)
    omega
mutual
/-- the greatest length of a list within -/
def wid : PyData → Nat
  | .list xs => max xs.length (widAll xs)
  | .tuple xs => max xs.length (widAll xs)
  | _ => 0
def widAll : List PyData → Nat
  | [] => 0
  | x :: r => max (wid x) (widAll r)
end
theorem wid_le : ∀ {ds : List PyData} {i : Nat} {d : PyData}, ds[i]? = some d → wid d ≤ widAll ds
  | [], _, _, h => by simp at h
  | x :: r, 0, d, h => by
    simp at h
    subst h
    show wid x ≤ max (wid x) (widAll r)
    omega
  | x :: r, i + 1, d, h => by
    have := wid_le (ds := r) (i := i) (d := d) (by simpa using h)
    show wid d ≤ max (wid x) (widAll r)
    omega
theorem dep_ints (ns : List Int) : depAll (ns.map .int) = 0 := by
  induction ns with
  | nil => rfl
  | cons n r ih =>
    show max 0 (depAll (r.map .int)) = 0
    omega
theorem wid_ints (ns : List Int) : widAll (ns.map .int) = 0 := by
  induction ns with
  | nil => rfl
  | cons n r ih =>
    show max 0 (widAll (r.map .int)) = 0
    omega
abbrev s_law_same : Stmt := topS 63
theorem sc_law_same : FnScope ["told", "due", "k"] ["told", "due"] (defScope s_law_same) := ⟨rfl, rfl, rfl, by decide +kernel, rfl, by decide +kernel, by decide +kernel⟩
--DEF _law_same
def spSame (K : PySem.W.Frag) (n : Nat) : Sp := fun vs H Q _ => ∃ (x y : V) (d e : PyData), vs = [x, y] ∧ Rr K H x d ∧ Rr K H y e ∧ dep e ≤ n ∧ wid e < 100000 ∧ ∀ b H', Kp [] H H' → (b = true ↔ d = e) → Q (.bl b) H'
theorem go_same {n : Nat} {x y : V} {d e : PyData} {H : Hp} {Q : VK} {E : XK} (h1 : Rr K H x d) (h2 : Rr K H y e) (hn : dep e ≤ n) (hw : wid e < 100000) (q : ∀ b H', Kp [] H H' → (b = true ↔ d = e) → Q (.bl b) H') : spSame K n [x, y] H Q E := ⟨x, y, d, e, rfl, h1, h2, hn, hw, q⟩
theorem len_ne {ds es : List PyData} (h : ds.length ≠ es.length) : ds ≠ es := fun z => h (by rw [z])
set_option maxHeartbeats 4000000 in
theorem ok_law_same_step {n : Nat} (h : DefAt K mg "_law_same" ["told", "due"] s_law_same) (g_isinstance : mg "isinstance" = none) (g_bool : mg "bool" = none) (g_int : mg "int" = none) (g_str : mg "str" = none) (g_list : mg "list" = none) (g_tuple : mg "tuple" = none) (g_len : mg "len" = none) (g_range : mg "range" = none)
    {sp : Sp} (D_law_same : Okk P w K mg base CX0 k "_law_same" ["told", "due"] sp) (hs : ∀ m vs H Q E, m < n → spSame K m vs H Q E → sp vs H Q E) : Okk P w K mg base CX0 (k + 1) "_law_same" ["told", "due"] (spSame K n) := by
  refine h.ok sc_law_same ?_ ?_
  · rintro vs H Q E ⟨a, ns, _, _, rfl, _⟩; rfl
  rintro cdv f A outer s H vs Q E hr ⟨x, y, d, e, rfl, hx, hy, hn, hw, q⟩
  refine ⟨_, (pss_cons (ps_if (pt_cmpR op_isN' (pv 1) pe_non (nomark _)) (pss_one (ps_ret (pe_cmpR op_isN' (pv 0) pe_non (nomark _)))) pss_nil)
      (pss_cons (ps_if (pt_val (pe_callB call_isi (by rfl) g_isinstance (by decide +kernel) (pa_cons (pv 1) (pa_cons (pe_bltn (v := .ty "bool") (by rfl) g_bool (by decide +kernel) rfl) pa_nil)))) (pss_one (ps_ret (pe_and (pe_callB call_isi (by rfl) g_isinstance (by decide +kernel) (pa_cons (pv 0) (pa_cons (pe_bltn (v := .ty "bool") (by rfl) g_bool (by decide +kernel) rfl) pa_nil))) (pe_one (pe_cmpR op_eq (pv 0) (pv 1) (nomark _)))))) pss_nil)
      (pss_cons (ps_if (pt_val (pe_callB call_isi (by rfl) g_isinstance (by decide +kernel) (pa_cons (pv 1) (pa_cons (pe_bltn (v := .ty "int") (by rfl) g_int (by decide +kernel) rfl) pa_nil)))) (pss_one (ps_ret (pe_and (pe_callB call_isi (by rfl) g_isinstance (by decide +kernel) (pa_cons (pv 0) (pa_cons (pe_bltn (v := .ty "int") (by rfl) g_int (by decide +kernel) rfl) pa_nil))) (pe_and (pe_not (pe_callB call_isi (by rfl) g_isinstance (by decide +kernel) (pa_cons (pv 0) (pa_cons (pe_bltn (v := .ty "bool") (by rfl) g_bool (by decide +kernel) rfl) pa_nil)))) (pe_one (pe_cmpR op_eq (pv 0) (pv 1) (nomark _))))))) pss_nil)
      (pss_cons (ps_if (pt_val (pe_callB call_isi (by rfl) g_isinstance (by decide +kernel) (pa_cons (pv 1) (pa_cons (pe_bltn (v := .ty "str") (by rfl) g_str (by decide +kernel) rfl) pa_nil)))) (pss_one (ps_ret (pe_and (pe_callB call_isi (by rfl) g_isinstance (by decide +kernel) (pa_cons (pv 0) (pa_cons (pe_bltn (v := .ty "str") (by rfl) g_str (by decide +kernel) rfl) pa_nil))) (pe_one (pe_cmpR op_eq (pv 0) (pv 1) (nomark _)))))) pss_nil)
      (pss_cons (ps_if (PW.pt (pw_and (pt_val (pe_callB call_isi (by rfl) g_isinstance (by decide +kernel) (pa_cons (pv 1) (pa_cons (pe_bltn (v := .ty "list") (by rfl) g_list (by decide +kernel) rfl) pa_nil)))) (pw_and1 (pt_not (pt_val (pe_callB call_isi (by rfl) g_isinstance (by decide +kernel) (pa_cons (pv 0) (pa_cons (pe_bltn (v := .ty "list") (by rfl) g_list (by decide +kernel) rfl) pa_nil)))))))) (pss_one (ps_ret pe_bl)) pss_nil)
      (pss_cons (ps_if (PW.pt (pw_and (pt_val (pe_callB call_isi (by rfl) g_isinstance (by decide +kernel) (pa_cons (pv 1) (pa_cons (pe_bltn (v := .ty "tuple") (by rfl) g_tuple (by decide +kernel) rfl) pa_nil)))) (pw_and1 (pt_not (pt_val (pe_callB call_isi (by rfl) g_isinstance (by decide +kernel) (pa_cons (pv 0) (pa_cons (pe_bltn (v := .ty "tuple") (by rfl) g_tuple (by decide +kernel) rfl) pa_nil)))))))) (pss_one (ps_ret pe_bl)) pss_nil)
      (pss_cons (ps_if (PW.pt (pw_or (pt_not (pt_val (pe_callB call_isiT (by rfl) g_isinstance (by decide +kernel) (pa_cons (pv 1) (pa_cons (pe_tup (pa_cons (pe_bltn (v := .ty "list") (by rfl) g_list (by decide +kernel) rfl) (pa_cons (pe_bltn (v := .ty "tuple") (by rfl) g_tuple (by decide +kernel) rfl) pa_nil))) pa_nil))))) (pw_or1 (pt_cmpR op_ne (pe_callB cr_len (by rfl) g_len (by decide +kernel) (pa_cons (pv 0) pa_nil)) (pe_callB cr_len (by rfl) g_len (by decide +kernel) (pa_cons (pv 1) pa_nil)) (nomark _))))) (pss_one (ps_ret pe_bl)) pss_nil)
      (pss_cons (ps_for PassesOwn.never rfl (pi_range1 rfl g_range (pa_cons (pe_callB cr_len (by rfl) g_len (by decide +kernel) (pa_cons (pv 1) pa_nil)) pa_nil)) (pg_name (i := 2) sc_law_same.nd rfl (Or.inl rfl))
        (pss_one (ps_if (pt_not (pt_val (pe_own D_law_same hr (pa_cons (pe_ix ix_seq (pv 0) (pv 2) (fun _ _ => rfl)) (pa_cons (pe_ix ix_seq (pv 1) (pv 2) (fun _ _ => rfl)) pa_nil))))) (pss_one (ps_ret pe_bl)) pss_nil)))
      (pss_one (ps_ret pe_bl)))))))))), ?_⟩
  cases hy with
  | non =>
    walk_at "go"
    refine q _ _ Kp.refl ?_
    cases hx <;> simp
  | bl b =>
    cases hx <;> walk_at "go" <;> refine q _ _ Kp.refl ?_ <;> simp
  | int b =>
    cases hx <;> walk_at "go" <;> refine q _ _ Kp.refl ?_ <;> simp
  | str b =>
    cases hx <;> walk_at "go" <;> refine q _ _ Kp.refl ?_ <;> simp
  | @lst a ys es _ hL hA =>
    cases hx with
    | @lst a2 xs ds _ hL2 hA2 =>
      walk_at "go"
      intro t ht
      walk_at "go"
      refine x_ndec (fun z => ?_) (fun z => ?_)
      · walk_at "go"
        refine q _ _ (Kp.new ht) ⟨(fun y => by cases y), fun y => ?_⟩
        injection y with y
        subst y
        exact absurd (by rw [hA.length, hA2.length]) z
      · have el : ds.length = es.length := by rw [← hA.length, ← hA2.length]; omega
        have hn' : depAll es < n := hn
        have hz : ys.length = es.length := hA.length
        have hw' : max es.length (widAll es) < 100000 := hw
        have hsz : es.length < 100000 := by omega
        walk_at "go"
        refine l_rng (by omega) (fun i s' H' => ∃ z, s' = [some (.ref a2), some (.ref a), z] ∧ Kp [] H H' ∧ ∀ j, j < i → ds[j]? = es[j]?) ⟨none, rfl, Kp.new ht, fun j hj => absurd hj (Nat.not_lt_zero _)⟩ ?_ ?_
        · rintro i s' H' hi ⟨z0, rfl, k', hj⟩
          have i2 : i < es.length := by omega
          have i1 : i < ds.length := by omega
          obtain ⟨vy, gy, ry⟩ := hA.get (List.getElem?_eq_getElem i2)
          obtain ⟨vx, gx, rx⟩ := hA2.get (List.getElem?_eq_getElem i1)
          walk_at "go"
          refine x_ixSL (by walk_at "sq") (atI_nat gx) ?_
          walk_at "go"
          refine x_ixSL (by walk_at "sq") (atI_nat gy) ?_
          walk_at "go"
          refine hs (depAll es) _ _ _ _ hn' (go_same (rx.to k') (ry.to k') (dep_le (List.getElem?_eq_getElem i2)) (Nat.lt_of_le_of_lt (wid_le (List.getElem?_eq_getElem i2)) (by omega)) fun b H2 k2 hb => ?_)
          walk_at "go"
          cases b with
          | true =>
            walk_at "go"
            refine ⟨_, rfl, k'.trans k2, fun j hj' => ?_⟩
            by_cases e : j = i
            · subst e
              rw [List.getElem?_eq_getElem i1, List.getElem?_eq_getElem i2, hb.mp rfl]
            · exact hj j (by omega)
          | false =>
            walk_at "go"
            refine q _ _ (k'.trans k2) ⟨(fun y => by cases y), fun y => ?_⟩
            injection y with y
            subst y
            exact hb.mpr rfl
        · rintro s' H' ⟨z0, rfl, k', hj⟩
          walk_at "go"
          refine q _ _ k' ⟨fun _ => ?_, fun _ => rfl⟩
          have : ds = es := List.ext_getElem? fun j => by
            by_cases h : j < es.length
            · exact hj j (by omega)
            · rw [List.getElem?_eq_none (by omega), List.getElem?_eq_none (by omega)]
          rw [this]
    | non | bl _ | int _ | str _ | tup _ _ _ =>
      walk_at "go"
      refine q _ _ Kp.refl ?_
      simp
  | @tup a ys es _ hL hA =>
    cases hx with
    | @tup a2 xs ds _ hL2 hA2 =>
      walk_at "go"
      intro t ht
      walk_at "go"
      refine x_ndec (fun z => ?_) (fun z => ?_)
      · walk_at "go"
        refine q _ _ (Kp.new ht) ⟨(fun y => by cases y), fun y => ?_⟩
        injection y with y
        subst y
        exact absurd (by rw [hA.length, hA2.length]) z
      · have el : ds.length = es.length := by rw [← hA.length, ← hA2.length]; omega
        have hn' : depAll es < n := hn
        have hz : ys.length = es.length := hA.length
        have hw' : max es.length (widAll es) < 100000 := hw
        have hsz : es.length < 100000 := by omega
        walk_at "go"
        refine l_rng (by omega) (fun i s' H' => ∃ z, s' = [some (.ref a2), some (.ref a), z] ∧ Kp [] H H' ∧ ∀ j, j < i → ds[j]? = es[j]?) ⟨none, rfl, Kp.new ht, fun j hj => absurd hj (Nat.not_lt_zero _)⟩ ?_ ?_
        · rintro i s' H' hi ⟨z0, rfl, k', hj⟩
          have i2 : i < es.length := by omega
          have i1 : i < ds.length := by omega
          obtain ⟨vy, gy, ry⟩ := hA.get (List.getElem?_eq_getElem i2)
          obtain ⟨vx, gx, rx⟩ := hA2.get (List.getElem?_eq_getElem i1)
          walk_at "go"
          refine x_ixST (by walk_at "st") (atI_nat gx) ?_
          walk_at "go"
          refine x_ixST (by walk_at "st") (atI_nat gy) ?_
          walk_at "go"
          refine hs (depAll es) _ _ _ _ hn' (go_same (rx.to k') (ry.to k') (dep_le (List.getElem?_eq_getElem i2)) (Nat.lt_of_le_of_lt (wid_le (List.getElem?_eq_getElem i2)) (by omega)) fun b H2 k2 hb => ?_)
          walk_at "go"
          cases b with
          | true =>
            walk_at "go"
            refine ⟨_, rfl, k'.trans k2, fun j hj' => ?_⟩
            by_cases e : j = i
            · subst e
              rw [List.getElem?_eq_getElem i1, List.getElem?_eq_getElem i2, hb.mp rfl]
            · exact hj j (by omega)
          | false =>
            walk_at "go"
            refine q _ _ (k'.trans k2) ⟨(fun y => by cases y), fun y => ?_⟩
            injection y with y
            subst y
            exact hb.mpr rfl
        · rintro s' H' ⟨z0, rfl, k', hj⟩
          walk_at "go"
          refine q _ _ k' ⟨fun _ => ?_, fun _ => rfl⟩
          have : ds = es := List.ext_getElem? fun j => by
            by_cases h : j < es.length
            · exact hj j (by omega)
            · rw [List.getElem?_eq_none (by omega), List.getElem?_eq_none (by omega)]
          rw [this]
    | non | bl _ | int _ | str _ | lst _ _ _ =>
      walk_at "go"
      refine q _ _ Kp.refl ?_
      simp
theorem ok_law_same (h : DefAt K mg "_law_same" ["told", "due"] s_law_same) (g_isinstance : mg "isinstance" = none) (g_bool : mg "bool" = none) (g_int : mg "int" = none) (g_str : mg "str" = none) (g_list : mg "list" = none) (g_tuple : mg "tuple" = none) (g_len : mg "len" = none) (g_range : mg "range" = none) :
    ∀ n, Okk P w K mg base CX0 (n + 1) "_law_same" ["told", "due"] (spSame K n)
  | 0 => ok_law_same_step (k := 0) h g_isinstance g_bool g_int g_str g_list g_tuple g_len g_range h.never fun _ _ _ _ _ z => absurd z (Nat.not_lt_zero _)
  | n + 1 => ok_law_same_step h g_isinstance g_bool g_int g_str g_list g_tuple g_len g_range (ok_law_same h g_isinstance g_bool g_int g_str g_list g_tuple g_len g_range n) fun m vs H Q E hm z => by
    obtain ⟨x, y, d, e, h1, h2, h3, h4, h5, h6⟩ := z
    exact ⟨x, y, d, e, h1, h2, h3, by omega, h5, h6⟩
abbrev s_common_divisor : Stmt := topS 49
theorem sc_common_divisor : FnScope ["first", "second"] ["first", "second"] (defScope s_common_divisor) := ⟨rfl, rfl, rfl, by decide +kernel, rfl, by decide +kernel, by decide +kernel⟩
--DEF common_divisor
def spCommon : Sp := fun vs H Q _ => ∃ a b : Nat, vs = [.int (a : Int), .int (b : Int)] ∧ Q (.int ((Nat.gcd a b : Nat) : Int)) H
theorem go_common {a b : Nat} {H : Hp} {Q : VK} {E : XK} (q : Q (.int ((Nat.gcd a b : Nat) : Int)) H) : spCommon [.int (a : Int), .int (b : Int)] H Q E := ⟨a, b, rfl, q⟩
theorem ok_common_divisor (h : DefAt K mg "common_divisor" ["first", "second"] s_common_divisor) : Okk P w K mg base CX0 (k + 1) "common_divisor" ["first", "second"] spCommon := by
  refine h.ok sc_common_divisor ?_ ?_
  · rintro vs H Q E ⟨a, b, rfl, _⟩; rfl
  rintro cdv f A outer s H vs Q E hr ⟨a, b, rfl, q⟩
  refine ⟨_, (pss_cons (ps_while PassesOwn.never (pt_cmpR op_gt (pv 1) pe_int (nomark _))
        (pss_one (ps_par (i := 0) (j := 1) (by rfl) sc_common_divisor.nd rfl rfl (by decide) rfl rfl (pa_cons (pv 1) (pa_cons (pe_op op_mod (pv 0) (pv 1)) pa_nil)) (by rfl))))
      (pss_one (ps_ret (pv 0)))), ?_⟩
  walk_at "go"
  refine x_while2 (fun m s' H' => ∃ x y : Nat, s' = [some (.int (x : Int)), some (.int (y : Int))] ∧ H' = H ∧ m = y ∧ Nat.gcd x y = Nat.gcd a b) b ⟨_, _, rfl, rfl, rfl, rfl⟩ ?_
  rintro m s' H' ⟨x, y, rfl, rfl, rfl, e⟩
  walk_at "go"
  refine x_dec (fun hy => x_wturn ?_) (fun hy => ?_)
  · have py : 0 < m := by omega
    walk_at "go"
    exact ⟨x % m, Nat.mod_lt _ py, m, x % m, by rw [Int.natCast_emod], rfl, rfl, by rw [← e, Nat.gcd_comm m, ← Nat.gcd_rec, Nat.gcd_comm]⟩
  · have : m = 0 := by omega
    subst this
    walk_at "go"
    rw [Nat.gcd_zero_right] at e
    rw [e]
    exact q
abbrev s_check_amounts : Stmt := topS 46
theorem sc_check_amounts : FnScope ["amounts", "low", "high", "at", "amount"] ["amounts", "low", "high"] (defScope s_check_amounts) := ⟨rfl, rfl, rfl, by decide +kernel, rfl, by decide +kernel, by decide +kernel⟩
--DEF check_amounts
/-- the first place of a number out of lo .. hi -/
def firstOut (lo hi : Int) : List Int → Option Nat
  | [] => none
  | x :: l => if x < lo ∨ hi < x then some 0 else (firstOut lo hi l).map (· + 1)
theorem firstOut_take {lo hi : Int} : ∀ {ns : List Int} {i : Nat}, (∀ j x, j < i → ns[j]? = some x → lo ≤ x ∧ x ≤ hi) → ∀ {x : Int}, ns[i]? = some x → (x < lo ∨ hi < x) → firstOut lo hi ns = some i
  | [], _, _, _, e, _ => by cases e
  | y :: l, 0, _, x, e, o => by
    cases e
    unfold firstOut
    rw [if_pos o]
  | y :: l, i + 1, h, x, e, o => by
    have h0 := h 0 y (Nat.succ_pos _) rfl
    unfold firstOut
    rw [if_neg (by omega), firstOut_take (ns := l) (i := i) (fun j z hj ez => h (j + 1) z (Nat.succ_lt_succ hj) ez) (x := x) e o]
    rfl
theorem firstOut_none {lo hi : Int} : ∀ {ns : List Int}, (∀ x ∈ ns, lo ≤ x ∧ x ≤ hi) → firstOut lo hi ns = none
  | [], _ => rfl
  | y :: l, h => by
    have h0 := h y List.mem_cons_self
    unfold firstOut
    rw [if_neg (by omega), firstOut_none fun x hx => h x (List.mem_cons_of_mem _ hx)]
    rfl
theorem firstOut_all {lo hi : Int} : ∀ {ns : List Int}, firstOut lo hi ns = none → ∀ x ∈ ns, lo ≤ x ∧ x ≤ hi
  | [], _, _, hx => by cases hx
  | y :: l, h, x, hx => by
    unfold firstOut at h
    split at h
    · cases h
    · rename_i hn
      rcases List.mem_cons.mp hx with rfl | hx
      · omega
      · cases e : firstOut lo hi l with
        | none => exact firstOut_all e x hx
        | some j => rw [e] at h; cases h
/-- how a fault with one field is let out -/
def ErrAt (C : Addr) (f : Str) (v : V) (H : Hp) (E : XK) : Prop := ∀ dd H', Kp [] H H' → H dd = none → H' dd = some (.xd [(f, v)]) → E (.ref C) (some dd) H'
def AmOut (C : Addr) (lo hi : Int) (ns : List Int) (H : Hp) (Q : VK) (E : XK) : Prop := (firstOut lo hi ns = none → ∀ H', Kp [] H H' → Q .non H') ∧ (∀ i, firstOut lo hi ns = some i → ErrAt C "at" (.int (i : Int)) H E)
def spAmounts (K : PySem.W.Frag) (C : Addr) : Sp := fun vs H Q E => ∃ (a : Addr) (lo hi : Int) (ns : List Int), vs = [.ref a, .int lo, .int hi] ∧ SqL K H a (ns.map V.int) ∧ AmOut C lo hi ns H Q E
theorem go_amounts {C a : Addr} {lo hi : Int} {ns : List Int} {H : Hp} {Q : VK} {E : XK} (h : SqL K H a (ns.map V.int)) (q : AmOut C lo hi ns H Q E) : spAmounts K C [.ref a, .int lo, .int hi] H Q E := ⟨a, lo, hi, ns, rfl, h, q⟩
theorem ok_check_amounts {C_BadShare : Addr} (h : DefAt K mg "check_amounts" ["amounts", "low", "high"] s_check_amounts) (g_enumerate : mg "enumerate" = none) (X_BadShare : Ex1 P w K mg base "BadShare" C_BadShare "at") :
    Okk P w K mg base (L2.CX P w) (k + 2 + 1) "check_amounts" ["amounts", "low", "high"] (spAmounts K C_BadShare) := by
  refine h.okX sc_check_amounts ?_ ?_
  · rintro vs H Q E ⟨_, _, _, _, rfl, _⟩; rfl
  rintro cdv f A outer s H vs Q E hr ⟨a, lo, hi, ns, rfl, hx, q0, q1⟩
  refine ⟨_, (pss_one (ps_for (passes_of rfl) rfl (pi_enum (by rfl) g_enumerate (pa_cons (pv 0) pa_nil)) (pg_tup rfl (pgs_cons (pg_name (i := 3) sc_check_amounts.nd rfl (Or.inl rfl)) (pgs_cons (pg_name (i := 4) sc_check_amounts.nd rfl (Or.inl rfl)) pgs_nil)))
        (pss_one (ps_if (PW.pt (pw_or (pt_cmpR op_lt (pv 4) (pv 1) (nomark _)) (pw_or1 (pt_cmpR op_gt (pv 4) (pv 2) (nomark _))))) (pss_one (ps_raise1 rfl (takes_of rfl rfl rfl rfl) X_BadShare (hr.mono (by omega)) (pv 3))) pss_nil)))), ?_⟩
  walk_at "go"
  refine l_enum hx (fun i s' H' => Kp [] H H' ∧ (∀ j x, j < i → ns[j]? = some x → lo ≤ x ∧ x ≤ hi) ∧ ∃ z3 z4, s' = [some (.ref a), some (.int lo), some (.int hi), z3, z4]) ⟨Kp.refl, fun _ _ h => absurd h (Nat.not_lt_zero _), _, _, rfl⟩ (fun _ _ _ _ m => m.1.sq nil_mem hx) ?_ ?_
  · rintro i x T s' H' hi' fT ⟨k1, hA, z3, z4, rfl⟩
    obtain ⟨n, rfl, hn⟩ := of_map hi'
    walk_at "go"
    refine x_dec (fun hb => ?_) (fun hb => ?_)
    · walk_at "go"
      refine x_rzc fun dx H2 k2 f2 e2 => ?_
      have kk := k1.trans (Kp.new (o := .tup [V.int (i : Int), V.int n]) fT)
      exact q1 i (firstOut_take hA hn (.inl hb)) dx H2 (kk.trans k2) (kk.free nil_mem f2) e2
    · walk_at "go"
      refine x_dec (fun hc => ?_) (fun hc => ?_)
      · walk_at "go"
        refine x_rzc fun dx H2 k2 f2 e2 => ?_
        have kk := k1.trans (Kp.new (o := .tup [V.int (i : Int), V.int n]) fT)
        exact q1 i (firstOut_take hA hn (.inr hc)) dx H2 (kk.trans k2) (kk.free nil_mem f2) e2
      · walk_at "go"
        refine ⟨k1.trans (Kp.new fT), fun j x hj ex => ?_, _, _, rfl⟩
        rcases Nat.lt_or_ge j i with hl | hg
        · exact hA j x hl ex
        · obtain rfl : j = i := by omega
          rw [hn] at ex
          cases ex
          omega
  · rintro s' H' ⟨k1, hA, z3, z4, rfl⟩
    walk_at "go"
    refine q0 (firstOut_none fun x hx => ?_) H' k1
    obtain ⟨j, hj⟩ := List.getElem?_of_mem hx
    exact hA j x (by rw [List.length_map]; exact (List.getElem?_eq_some_iff.mp hj).1) hj
abbrev s_check_shares : Stmt := topS 50
theorem sc_check_shares : FnScope ["given", "borne"] ["given", "borne"] (defScope s_check_shares) := ⟨rfl, rfl, rfl, by decide +kernel, rfl, by decide +kernel, by decide +kernel⟩
--DEF check_shares
def spCkShares (K : PySem.W.Frag) (C : Addr) : Sp := fun vs H Q E => ∃ (a b : Addr) (ns ms : List Int), vs = [.ref a, .ref b] ∧ SqL K H a (ns.map V.int) ∧ SqL K H b (ms.map V.int) ∧ ns.length ≤ 1000 ∧ ms.length ≤ 1000 ∧ AmOut C 1 1000000 (ns ++ ms) H Q E
theorem ErrAt.kp {C : Addr} {f : Str} {v : V} {H H' : Hp} {E : XK} (h : ErrAt C f v H E) (k : Kp [] H H') : ErrAt C f v H' E := fun dd H2 k2 f2 e2 => h dd H2 (k.trans k2) (k.free nil_mem f2) e2
theorem AmOut.kp {C : Addr} {lo hi : Int} {ns : List Int} {H H' : Hp} {Q : VK} {E : XK} (h : AmOut C lo hi ns H Q E) (k : Kp [] H H') : AmOut C lo hi ns H' Q E := ⟨fun e H2 k2 => h.1 e H2 (k.trans k2), fun i e => (h.2 i e).kp k⟩
theorem ok_check_shares {C_BadShare : Addr} {tk : Tok} (h : DefAt K mg "check_shares" ["given", "borne"] s_check_shares) (g_list : mg "list" = none) (g_MOST_SHARE : mg "MOST_SHARE" = some (.int 1000000 tk)) (D_check_amounts : Okk P w K mg base (L2.CX P w) k "check_amounts" ["amounts", "low", "high"] (spAmounts K C_BadShare)) :
    Okk P w K mg base (L2.CX P w) (k + 1) "check_shares" ["given", "borne"] (spCkShares K C_BadShare) := by
  refine h.okX sc_check_shares ?_ ?_
  · rintro vs H Q E ⟨_, _, _, _, rfl, _⟩; rfl
  rintro cdv f A outer s H vs Q E hr ⟨a, b, ns, ms, rfl, hx, hy, l1, l2, q⟩
  refine ⟨_, (pss_one (ps_expr (pe_ownX D_check_amounts hr (passes_call (takes_of rfl rfl rfl rfl) fun _ _ _ _ z => z) (pa_cons (pe_op op_cat (pe_callTy cr_list (by rfl) g_list (by decide +kernel) (pa_cons (pv 0) pa_nil)) (pe_callTy cr_list (by rfl) g_list (by decide +kernel) (pa_cons (pv 1) pa_nil))) (pa_cons pe_int (pa_cons (pe_glob (v := .int 1000000) rfl g_MOST_SHARE ⟨_, rfl⟩) pa_nil)))))), ?_⟩
  walk_at "go"
  refine x_listL hx fun la fa => ?_
  walk_at "go"
  refine x_listL (sq_new fa hy) fun lb fb => ?_
  walk_at "go"
  refine x_cat (at_upd (ne_new fb upd_same) upd_same) upd_same (by simp; omega) fun lc fc => ?_
  walk_at "go"
  rw [← List.map_append]
  have kk := ((Kp.new (M := []) (o := .lst (ns.map V.int)) fa).trans (Kp.new (o := .lst (ms.map V.int)) fb)).trans (Kp.new (o := .lst ((ns ++ ms).map V.int)) fc)
  refine go_amounts (SqL.of upd_same) ⟨fun e H' k' => ?_, fun i e => ((q.2 i e).kp kk)⟩
  walk_at "go"
  exact q.1 e H' (kk.trans k')
abbrev s_evened : Stmt := topS 51
theorem sc_evened : FnScope ["given", "borne", "party_sum", "name_sum", "divisor", "party_times", "name_times", "share"] ["given", "borne"] (defScope s_evened) := ⟨rfl, rfl, rfl, by decide +kernel, rfl, by decide +kernel, by decide +kernel⟩
--DEF evened
def EvOut (C0 C1 : Addr) (ns ms : List Int) (H : Hp) (Q : VK) (E : XK) : Prop :=
  (ns = [] ∨ ms = [] → ∀ H', Kp [] H H' → E (.ref C0) none H') ∧
  (ns ≠ [] → ms ≠ [] → ∀ i, firstOut 1 1000000 (ns ++ ms) = some i → ErrAt C1 "at" (.int (i : Int)) H E) ∧
  (ns ≠ [] → ms ≠ [] → firstOut 1 1000000 (ns ++ ms) = none → ∀ p a b H', Kp [] H H' → H' p = some (.tup [.ref a, .ref b]) → H' a = some (.lst ((ns.map fun x => x * (ms.sum / ((Nat.gcd ns.sum.natAbs ms.sum.natAbs : Nat) : Int))).map V.int)) →
    H' b = some (.lst ((ms.map fun x => x * (ns.sum / ((Nat.gcd ns.sum.natAbs ms.sum.natAbs : Nat) : Int))).map V.int)) → H p = none → H a = none → H b = none → a ≠ b → Q (.ref p) H')
def spEvened (K : PySem.W.Frag) (C0 C1 : Addr) : Sp := fun vs H Q E => ∃ (a b : Addr) (ns ms : List Int), vs = [.ref a, .ref b] ∧ SqL K H a (ns.map V.int) ∧ SqL K H b (ms.map V.int) ∧ ns.length ≤ 1000 ∧ ms.length ≤ 1000 ∧ EvOut C0 C1 ns ms H Q E
theorem sum_pos : ∀ {ns : List Int}, ns ≠ [] → (∀ x ∈ ns, 1 ≤ x ∧ x ≤ 1000000) → 1 ≤ ns.sum ∧ ns.sum ≤ 1000000 * ns.length
  | [], h, _ => absurd rfl h
  | [x], _, h => by
    have h0 := h x List.mem_cons_self
    simp only [List.sum_cons, List.sum_nil, List.length_cons, List.length_nil]
    omega
  | x :: y :: l, _, h => by
    have h0 := h x List.mem_cons_self
    have h1 := sum_pos (ns := y :: l) (by simp) fun z hz => h z (List.mem_cons_of_mem _ hz)
    rw [List.sum_cons, List.length_cons]
    omega
theorem go_evened {C0 C1 a b : Addr} {ns ms : List Int} {H : Hp} {Q : VK} {E : XK} (hx : SqL K H a (ns.map V.int)) (hy : SqL K H b (ms.map V.int)) (h1 : ns.length ≤ 1000) (h2 : ms.length ≤ 1000) (q : EvOut C0 C1 ns ms H Q E) : spEvened K C0 C1 [.ref a, .ref b] H Q E := ⟨a, b, ns, ms, rfl, hx, hy, h1, h2, q⟩
theorem go_ckshares {C a b : Addr} {ns ms : List Int} {H : Hp} {Q : VK} {E : XK} (hx : SqL K H a (ns.map V.int)) (hy : SqL K H b (ms.map V.int)) (h1 : ns.length ≤ 1000) (h2 : ms.length ≤ 1000) (q : AmOut C 1 1000000 (ns ++ ms) H Q E) : spCkShares K C [.ref a, .ref b] H Q E := ⟨a, b, ns, ms, rfl, hx, hy, h1, h2, q⟩
theorem map_range {ns : List Int} {c : Int} : ((List.range (ns.map V.int).length).map fun i => V.int (ns.getD i 0 * c)) = (ns.map fun x => x * c).map V.int := by
  refine List.ext_getElem? fun i => ?_
  rw [List.length_map, List.getElem?_map, List.getElem?_map, List.getElem?_map]
  rcases Nat.lt_or_ge i ns.length with h | h
  · rw [List.getElem?_range h, List.getElem?_eq_getElem h]
    show some (V.int (ns.getD i 0 * c)) = some (V.int (ns[i] * c))
    rw [List.getD_eq_getElem?_getD, List.getElem?_eq_getElem h]
    rfl
  · rw [List.getElem?_eq_none (by simpa using h), List.getElem?_eq_none h]
    rfl
theorem ok_evened {C_BadShare C_Empty : Addr} (h : DefAtK K mg "evened" ["given", "borne"] ["borne", "given"] gK gVK s_evened) (g_len : mg "len" = none) (g_sum : mg "sum" = none) (X_Empty : Ex0 K mg "Empty" C_Empty) (D_check_shares : Okk P w K mg base (L2.CX P w) k "check_shares" ["given", "borne"] (spCkShares K C_BadShare))
    (D_common_divisor : Okk P w K mg base CX0 k "common_divisor" ["first", "second"] spCommon) : OkkK P w K mg base (L2.CX P w) (k + 1) "evened" ["given", "borne"] ["borne", "given"] gK gVK (spEvened K C_Empty C_BadShare) := by
  refine h.okX sc_evened ?_ ?_
  · rintro vs H Q E ⟨_, _, _, _, rfl, _⟩; rfl
  rintro cdv f A outer s H vs Q E hr ⟨a, b, ns, ms, rfl, hx, hy, l1, l2, q0, q1, q2⟩
  refine ⟨_, (pss_cons (ps_if (PW.pt (pw_or (pt_cmpR op_eq (pe_callB cr_len (by rfl) g_len (by decide +kernel) (pa_cons (pv 0) pa_nil)) pe_int (nomark _)) (pw_or1 (pt_cmpR op_eq (pe_callB cr_len (by rfl) g_len (by decide +kernel) (pa_cons (pv 1) pa_nil)) pe_int (nomark _))))) (pss_one (ps_raise0 rfl (takes_of rfl rfl rfl rfl) X_Empty)) pss_nil)
      (pss_cons (ps_expr (pe_ownX D_check_shares hr (passes_call (takes_of rfl rfl rfl rfl) fun _ _ _ _ z => z) (pa_cons (pv 0) (pa_cons (pv 1) pa_nil))))
      (pss_cons (ps_set (i := 2) sc_evened.nd rfl (Or.inl rfl) (pe_callB (cr_sum rfl) (by rfl) g_sum (by decide +kernel) (pa_cons (pv 0) pa_nil)))
      (pss_cons (ps_set (i := 3) sc_evened.nd rfl (Or.inl rfl) (pe_callB (cr_sum rfl) (by rfl) g_sum (by decide +kernel) (pa_cons (pv 1) pa_nil)))
      (pss_cons (ps_set (i := 4) sc_evened.nd rfl (Or.inl rfl) (pe_own D_common_divisor hr (pa_cons (pv 2) (pa_cons (pv 3) pa_nil))))
      (pss_cons (ps_set (i := 5) sc_evened.nd rfl (Or.inr rfl) (pe_op op_fdiv (pv 3) (pv 4)))
      (pss_cons (ps_set (i := 6) sc_evened.nd rfl (Or.inr rfl) (pe_op op_fdiv (pv 2) (pv 4)))
      (pss_one (ps_ret (pe_tup (pa_cons (pe_lc (own := [("share", 7)]) rfl sc_evened.nd (pi_list (pv 0)) (blkOk_by (own := [("share", 7)]) (N := ["given", "borne", "party_sum", "name_sum", "divisor", "party_times", "name_times", "share"]) (sc := defScope s_evened) (by decide +kernel)) (fun _ _ _ _ _ => pg_name (i := 7) sc_evened.nd rfl (Or.inl rfl)) (fun _ _ _ _ _ => pts_nil) (fun _ _ _ _ _ => (pe_op op_mul (pv 7) (pv 5)))) (pa_cons (pe_lc (own := [("share", 7)]) rfl sc_evened.nd (pi_list (pv 1)) (blkOk_by (own := [("share", 7)]) (N := ["given", "borne", "party_sum", "name_sum", "divisor", "party_times", "name_times", "share"]) (sc := defScope s_evened) (by decide +kernel)) (fun _ _ _ _ _ => pg_name (i := 7) sc_evened.nd rfl (Or.inl rfl)) (fun _ _ _ _ _ => pts_nil) (fun _ _ _ _ _ => (pe_op op_mul (pv 7) (pv 6)))) pa_nil)))))))))))), ?_⟩
  walk_at "go"
  refine x_dec (fun h0 => ?_) (fun h0 => ?_)
  · have e : ns = [] := by cases ns with
      | nil => rfl
      | cons x l => simp at h0; omega
    walk_at "go"
    exact q0 (.inl e) H Kp.refl
  have n1 : ns ≠ [] := fun z => h0 (by rw [z]; rfl)
  walk_at "go"
  refine x_dec (fun h0 => ?_) (fun h0 => ?_)
  · have e : ms = [] := by cases ms with
      | nil => rfl
      | cons x l => simp at h0; omega
    walk_at "go"
    exact q0 (.inr e) H Kp.refl
  have n2 : ms ≠ [] := fun z => h0 (by rw [z]; rfl)
  walk_at "go"
  refine go_ckshares hx hy l1 l2 ⟨fun e H1 k1 => ?_, q1 n1 n2⟩
  have hA := firstOut_all e
  have s1 := sum_pos n1 fun x hx => hA x (List.mem_append_left _ hx)
  have s2 := sum_pos n2 fun x hx => hA x (List.mem_append_right _ hx)
  have hx1 := k1.sq nil_mem hx
  have hy1 := k1.sq nil_mem hy
  obtain ⟨S, hS⟩ := Int.eq_ofNat_of_zero_le (a := ns.sum) (by omega)
  obtain ⟨T, hT⟩ := Int.eq_ofNat_of_zero_le (a := ms.sum) (by omega)
  have q3 := q2 n1 n2 e
  rw [hS, hT, Int.natAbs_natCast, Int.natAbs_natCast] at q3
  walk_at "go"
  refine ⟨_, ns, rfl, hx1, ?_⟩
  walk_at "go"
  refine ⟨_, ms, rfl, hy1, ?_⟩
  rw [hS, hT]
  walk_at "go"
  refine go_common ?_
  have g1 : 0 < Nat.gcd S T := Nat.gcd_pos_of_pos_left _ (by omega)
  have g2 : Nat.gcd S T ≤ S := Nat.gcd_le_left _ (by omega)
  walk_at "go"
  refine x_I ⟨by omega, by omega⟩ ?_
  walk_at "go"
  refine x_I ⟨by omega, by omega⟩ ?_
  walk_at "go"
  refine l_lcLm (by walk_at "wipe") [] (fun i => .int (ns.getD i 0 * ((T : Int) / ((Nat.gcd S T : Nat) : Int)))) hx1 nil_mem (by simp) (by rw [List.length_map]; omega) ?_ gname_mono ?_
  · intro Dl i x H' Z h1 hi kp hZ
    obtain ⟨n, rfl, hn⟩ := of_map hi
    have hb := hA n (List.mem_append_left _ (List.mem_of_getElem? hn))
    walk_at "go"
    refine ⟨rfl, ?_⟩
    walk_at "go"
    have z := hZ H' Kp.refl
    rw [List.getD_eq_getElem?_getD, hn] at z
    exact z
  · intro Da H2 fa k2 ea
    rw [map_range] at ea
    have hy2 := k2.sq nil_mem hy1
    walk_at "go"
    refine l_lcLm (by walk_at "wipe") [] (fun i => .int (ms.getD i 0 * ((S : Int) / ((Nat.gcd S T : Nat) : Int)))) hy2 nil_mem (by simp) (by rw [List.length_map]; omega) ?_ gname_mono ?_
    · intro Dl i x H' Z h1 hi kp hZ
      obtain ⟨n, rfl, hn⟩ := of_map hi
      have hb := hA n (List.mem_append_right _ (List.mem_of_getElem? hn))
      walk_at "go"
      refine ⟨rfl, ?_⟩
      walk_at "go"
      have z := hZ H' Kp.refl
      rw [List.getD_eq_getElem?_getD, hn] at z
      exact z
    · intro Db H3 fb k3 eb
      rw [map_range] at eb
      have ea3 := k3 _ _ nil_mem ea
      walk_at "go"
      intro p fp
      have kk := (k1.trans k2).trans k3
      exact q3 p Da Db _ (kk.trans (Kp.new fp)) upd_same (at_upd (ne_new fp ea3) ea3) (at_upd (ne_new fp eb) eb) (kk.free nil_mem fp) (k1.free nil_mem fa) ((k1.trans k2).free nil_mem fb) (fun z => by rw [z, fb] at ea; cases ea)
theorem dp_ints {H : Hp} : ∀ ns : List Int, DpAll K H (ns.map V.int) (ns.map PyData.int)
  | [] => .nil
  | x :: l => .cons (.int x) (dp_ints l)
theorem can_ints : ∀ ns : List Int, PyData.canLayAll0 (ns.map PyData.int) = true
  | [] => by simp [PyData.canLayAll0]
  | x :: l => by
    rw [List.map_cons]
    unfold PyData.canLayAll0
    rw [can_ints l]
    simp [PyData.canLay0]
theorem depth_ints : ∀ ns : List Int, PyData.depthAll (ns.map PyData.int) = 0
  | [] => by simp [PyData.depthAll]
  | x :: l => by
    rw [List.map_cons]
    unfold PyData.depthAll
    rw [depth_ints l]
    simp [PyData.depth]
theorem shaped_ints (ns : List Int) : SeqAt.shaped (.list (ns.map PyData.int)) = true := by
  unfold SeqAt.shaped PyData.canLay0 PyData.depth
  rw [can_ints, depth_ints]
  rfl
theorem eqv_ints : ∀ ns ms : List Int, PyData.eqvAll (ns.map PyData.int) (ms.map PyData.int) = decide (ns = ms)
  | [], [] => by simp [PyData.eqvAll]
  | [], _ :: _ => by simp [PyData.eqvAll]
  | _ :: _, [] => by simp [PyData.eqvAll]
  | x :: l, y :: m => by
    rw [List.map_cons, List.map_cons]
    unfold PyData.eqvAll
    rw [eqv_ints l m]
    unfold PyData.eqv
    rw [Bool.eq_iff_iff]
    simp
theorem x_eqL {a b : Addr} {ns ms : List Int} {H : Hp} {Q : VK} (h1 : SqL K H a (ns.map V.int)) (h2 : SqL K H b (ms.map V.int)) (q : Q (.bl (decide (ns = ms))) H) : rEqD K (.ref a) (.ref b) H Q :=
  ⟨_, _, .lst h1 (dp_ints ns), .lst h2 (dp_ints ms), shaped_ints ns, shaped_ints ms, by
    unfold PyData.eqv
    rw [eqv_ints]
    exact q⟩
theorem x_neL {a b : Addr} {ns ms : List Int} {H : Hp} {Q : VK} (h1 : SqL K H a (ns.map V.int)) (h2 : SqL K H b (ms.map V.int)) (q : Q (.bl (!decide (ns = ms))) H) : rNeD K (.ref a) (.ref b) H Q :=
  ⟨_, _, .lst h1 (dp_ints ns), .lst h2 (dp_ints ms), shaped_ints ns, shaped_ints ms, by
    unfold PyData.eqv
    rw [eqv_ints]
    exact q⟩
abbrev s_law_due : Stmt := topS 74
theorem sc_law_due : FnScope ["one", "two", "row", "k"] ["one", "two"] (defScope s_law_due) := ⟨rfl, rfl, rfl, by decide +kernel, rfl, by decide +kernel, by decide +kernel⟩
--DEF _law_due
/-- what _law_due hands back: a refusal of the class named, with its place -/
def DueOut (ns ms : List Int) (H : Hp) (Q : VK) : Prop :=
  (ns = [] ∨ ms = [] → ∀ p r H', Kp [] H H' → H' p = some (.tup [.str "refused", .ref r]) → H' r = some (.tup [.str "Empty"]) → Q (.ref p) H') ∧
  (ns ≠ [] → ms ≠ [] → ∀ i, firstOut 1 1000000 (ns ++ ms) = some i → ∀ p r H', Kp [] H H' → H' p = some (.tup [.str "refused", .ref r]) → H' r = some (.tup [.str "BadShare", .int (i : Int)]) → Q (.ref p) H') ∧
  (ns ≠ [] → ms ≠ [] → firstOut 1 1000000 (ns ++ ms) = none → ∀ H', Kp [] H H' → Q .non H')
def spDue03 (K : PySem.W.Frag) : Sp := fun vs H Q _ => ∃ (a b : Addr) (ns ms : List Int), vs = [.ref a, .ref b] ∧ H a = some (.lst (ns.map V.int)) ∧ H b = some (.lst (ms.map V.int)) ∧ ns.length ≤ 1000 ∧ ms.length ≤ 1000 ∧ DueOut ns ms H Q
theorem ok_law_due (h : DefAt K mg "_law_due" ["one", "two"] s_law_due) (g_range : mg "range" = none) (g_len : mg "len" = none) : Okk P w K mg base CX0 (k + 1) "_law_due" ["one", "two"] (spDue03 K) := by
  refine h.ok sc_law_due ?_ ?_
  · rintro vs H Q E ⟨_, _, _, _, rfl, _⟩; rfl
  rintro cdv f A outer s H vs Q E hr ⟨a, b, ns, ms, rfl, hx, hy, l1, l2, q0, q1, q2⟩
  refine ⟨_, (pss_cons (ps_if (PW.pt (pw_or (pt_cmpR (op_eqD hr.units) (pv 0) (pe_lst pa_nil) (nomark _)) (pw_or1 (pt_cmpR (op_eqD hr.units) (pv 1) (pe_lst pa_nil) (nomark _))))) (pss_one (ps_ret (pe_tup (pa_cons pe_str (pa_cons (pe_tup (pa_cons pe_str pa_nil)) pa_nil))))) pss_nil)
      (pss_cons (ps_set (i := 2) sc_law_due.nd rfl (Or.inl rfl) (pe_op op_cat (pv 0) (pv 1)))
      (pss_cons (ps_for PassesOwn.never rfl (pi_range1 rfl g_range (pa_cons (pe_callB cr_len (by rfl) g_len (by decide +kernel) (pa_cons (pv 2) pa_nil)) pa_nil)) (pg_name (i := 3) sc_law_due.nd rfl (Or.inl rfl))
        (pss_one (ps_if (PW.pt (pw_or (pt_cmpR op_lt (pe_ix ix_list (pv 2) (pv 3) (fun _ _ => rfl)) pe_int (nomark _)) (pw_or1 (pt_cmpR op_gt (pe_ix ix_list (pv 2) (pv 3) (fun _ _ => rfl)) pe_int (nomark _))))) (pss_one (ps_ret (pe_tup (pa_cons pe_str (pa_cons (pe_tup (pa_cons pe_str (pa_cons (pv 3) pa_nil))) pa_nil))))) pss_nil)))
      (pss_one (ps_ret pe_non))))), ?_⟩
  walk_at "go"
  intro e1 f1
  walk_at "go"
  have hx1 := (Kp.new (M := []) (o := .lst []) f1) _ _ nil_mem hx
  have hy1 := (Kp.new (M := []) (o := .lst []) f1) _ _ nil_mem hy
  refine x_eqL (ms := []) (SqL.of hx1) (SqL.of upd_same) ?_
  walk_at "go"
  refine x_dec (fun h0 => ?_) (fun h0 => ?_)
  · walk_at "go"
    intro t1 ft1
    walk_at "go"
    intro t2 ft2
    exact q0 (.inl h0) t2 t1 _ (((Kp.new f1).trans (Kp.new ft1)).trans (Kp.new ft2)) upd_same (at_upd (ne_new ft2 upd_same) upd_same)
  walk_at "go"
  intro e2 f2
  walk_at "go"
  have k2 := (Kp.new (M := []) (o := .lst []) f1).trans (Kp.new (o := .lst []) f2)
  refine x_eqL (ms := []) (SqL.of (k2 _ _ nil_mem hy)) (SqL.of upd_same) ?_
  walk_at "go"
  refine x_dec (fun h3 => ?_) (fun h3 => ?_)
  · walk_at "go"
    intro t1 ft1
    walk_at "go"
    intro t2 ft2
    exact q0 (.inr h3) t2 t1 _ ((k2.trans (Kp.new ft1)).trans (Kp.new ft2)) upd_same (at_upd (ne_new ft2 upd_same) upd_same)
  walk_at "go"
  refine x_cat (k2 _ _ nil_mem hx) (k2 _ _ nil_mem hy) (by simp; omega) fun lc fc => ?_
  walk_at "go"
  rw [← List.map_append]
  have k3 := k2.trans (Kp.new (o := .lst ((ns ++ ms).map V.int)) fc)
  have c3 : upd (upd (upd H e1 (.lst [])) e2 (.lst [])) lc (.lst ((ns ++ ms).map V.int)) lc = some (.lst ((ns ++ ms).map V.int)) := upd_same
  have hl : (ns ++ ms).length ≤ 2000 := by simp; omega
  generalize upd (upd (upd H e1 (.lst [])) e2 (.lst [])) lc (.lst ((ns ++ ms).map V.int)) = H3 at *
  generalize ns ++ ms = rs at *
  refine l_rng (by rw [List.length_map]; omega) (fun i s' H' => Kp [] H3 H' ∧ (∀ j x, j < i → rs[j]? = some x → 1 ≤ x ∧ x ≤ 1000000) ∧ ∃ z3, s' = [some (.ref a), some (.ref b), some (.ref lc), z3]) ⟨Kp.refl, fun _ _ h => absurd h (Nat.not_lt_zero _), _, rfl⟩ ?_ ?_ (by rw [List.length_map]; omega)
  · rintro i s' H' hi ⟨k4, hA, z3, rfl⟩
    rw [List.length_map] at hi
    have hi' : i < rs.length := by omega
    have hg : (rs.map V.int)[i]? = some (.int rs[i]) := by rw [List.getElem?_map, List.getElem?_eq_getElem hi']; rfl
    have c4 := k4 _ _ nil_mem c3
    walk_at "go"
    refine x_ixL (SqL.of c4) (at_of (j := i) rfl hg) ?_
    walk_at "go"
    refine x_dec (fun hb => ?_) (fun hb => ?_)
    · walk_at "go"
      intro t1 ft1
      walk_at "go"
      intro t2 ft2
      exact q1 h0 h3 i (firstOut_take hA (List.getElem?_eq_getElem hi') (.inl hb)) t2 t1 _ (((k3.trans k4).trans (Kp.new ft1)).trans (Kp.new ft2)) upd_same (at_upd (ne_new ft2 upd_same) upd_same)
    walk_at "go"
    refine x_ixL (SqL.of c4) (at_of (j := i) rfl hg) ?_
    walk_at "go"
    refine x_dec (fun hb => ?_) (fun hb => ?_)
    · walk_at "go"
      intro t1 ft1
      walk_at "go"
      intro t2 ft2
      exact q1 h0 h3 i (firstOut_take hA (List.getElem?_eq_getElem hi') (.inr hb)) t2 t1 _ (((k3.trans k4).trans (Kp.new ft1)).trans (Kp.new ft2)) upd_same (at_upd (ne_new ft2 upd_same) upd_same)
    walk_at "go"
    refine ⟨k4, fun j x hj ex => ?_, _, rfl⟩
    rcases Nat.lt_or_ge j i with hl | hg
    · exact hA j x hl ex
    · obtain rfl : j = i := by omega
      rw [List.getElem?_eq_getElem hi'] at ex
      cases ex
      omega
  · rintro s' H' ⟨k4, hA, z3, rfl⟩
    walk_at "go"
    refine q2 h0 h3 (firstOut_none fun x hx => ?_) H' (k3.trans k4)
    obtain ⟨j, hj⟩ := List.getElem?_of_mem hx
    refine hA j x ?_ hj
    have := (List.getElem?_eq_some_iff.mp hj).1
    rw [List.length_map]
    omega
theorem bt_le {n : Nat} {i : Int} {m : Nat} (h : i.natAbs ≤ m) (hm : decide (m < 2 ^ n) = true) : Bt n i := Nat.lt_of_le_of_lt h (of_decide_eq_true hm)
theorem isIs_ints (ns : List Int) : isIs (.list (ns.map PyData.int)) = true := by
  unfold isIs
  simp [List.all_eq_true, isI]
theorem rr_all_ints {H : Hp} : ∀ ns : List Int, RrAll K H (ns.map V.int) (ns.map PyData.int)
  | [] => .nil
  | x :: l => .cons (.int x) (rr_all_ints l)
theorem rr_ints {H : Hp} {a : Addr} {ns : List Int} (h : SqL K H a (ns.map V.int)) : Rr K H (.ref a) (.list (ns.map PyData.int)) := .lst trivial h (rr_all_ints ns)
theorem sum_mul {c : Int} : ∀ ns : List Int, (ns.map fun x => x * c).sum = ns.sum * c
  | [] => by simp
  | x :: l => by rw [List.map_cons, List.sum_cons, List.sum_cons, sum_mul l, Int.add_mul]
abbrev s_law_scaled : Stmt := topS 75
theorem sc_law_scaled : FnScope ["told", "row", "factor", "share"] ["told", "row"] (defScope s_law_scaled) := ⟨rfl, rfl, rfl, by decide +kernel, rfl, by decide +kernel, by decide +kernel⟩
--DEF _law_scaled
def spScaled (K : PySem.W.Frag) : Sp := fun vs H Q _ => ∃ (a b : Addr) (ns : List Int) (c : Int), vs = [.ref a, .ref b] ∧ SqL K H a ((ns.map fun x => x * c).map V.int) ∧ SqL K H b (ns.map V.int) ∧ ns ≠ [] ∧ ns.length ≤ 1000 ∧ (∀ x ∈ ns, 1 ≤ x ∧ x ≤ 1000000) ∧ 1 ≤ c ∧ c ≤ 2 ^ 40 ∧ ∀ H', Kp [] H H' → Q (.int c) H'
theorem go_scaled {a b : Addr} {ns : List Int} {c : Int} {H : Hp} {Q : VK} {E : XK} (h1 : SqL K H a ((ns.map fun x => x * c).map V.int)) (h2 : SqL K H b (ns.map V.int)) (h3 : ns ≠ []) (h4 : ns.length ≤ 1000) (h5 : ∀ x ∈ ns, 1 ≤ x ∧ x ≤ 1000000) (h6 : 1 ≤ c) (h7 : c ≤ 2 ^ 40)
    (q : ∀ H', Kp [] H H' → Q (.int c) H') : spScaled K [.ref a, .ref b] H Q E := ⟨a, b, ns, c, rfl, h1, h2, h3, h4, h5, h6, h7, q⟩
theorem ok_law_scaled (h : DefAt K mg "_law_scaled" ["told", "row"] s_law_scaled) (g_len : mg "len" = none) (D_law_is_ints : Okk P w K mg base CX0 k "_law_is_ints" ["told"] (spIsInts K)) : Okk P w K mg base CX0 (k + 1) "_law_scaled" ["told", "row"] (spScaled K) := by
  refine h.ok sc_law_scaled ?_ ?_
  · rintro vs H Q E ⟨_, _, _, _, rfl, _⟩; rfl
  rintro cdv f A outer s H vs Q E hr ⟨a, b, ns, c, rfl, hx, hy, n0, l1, hA, c1, c2, q⟩
  refine ⟨_, (pss_cons (ps_if (PW.pt (pw_or (pt_not (pt_val (pe_own D_law_is_ints hr (pa_cons (pv 0) pa_nil)))) (pw_or1 (pt_cmpR op_ne (pe_callB cr_len (by rfl) g_len (by decide +kernel) (pa_cons (pv 0) pa_nil)) (pe_callB cr_len (by rfl) g_len (by decide +kernel) (pa_cons (pv 1) pa_nil)) (nomark _))))) (pss_one (ps_ret pe_int)) pss_nil)
      (pss_cons (ps_set (i := 2) sc_law_scaled.nd rfl (Or.inr rfl) (pe_op op_fdiv (pe_ix ix_list (pv 0) pe_int (fun _ _ => rfl)) (pe_ix ix_list (pv 1) pe_int (fun _ _ => rfl))))
      (pss_cons (ps_if (PW.pt (pw_or (pt_cmpR op_lt (pv 2) pe_int (nomark _)) (pw_or1 (pt_cmpR (op_neD hr.units) (pv 0) (pe_lc (own := [("share", 3)]) rfl sc_law_scaled.nd (pi_list (pv 1)) (blkOk_by (own := [("share", 3)]) (N := ["told", "row", "factor", "share"]) (sc := defScope s_law_scaled) (by decide +kernel)) (fun _ _ _ _ _ => pg_name (i := 3) sc_law_scaled.nd rfl (Or.inl rfl)) (fun _ _ _ _ _ => pts_nil) (fun _ _ _ _ _ => (pe_op op_mul (pv 3) (pv 2)))) (nomark _))))) (pss_one (ps_ret pe_int)) pss_nil)
      (pss_one (ps_ret (pv 2)))))), ?_⟩
  walk_at "go"
  refine go_isints (rr_ints hx) (fun ds e => by cases e; simp; omega) fun H1 k1 => ?_
  rw [isIs_ints]
  have hx1 := k1.sq nil_mem hx
  have hy1 := k1.sq nil_mem hy
  walk_at "go"
  refine x_ndecF (by simp) ?_
  have hl : 0 < ns.length := List.length_pos_iff.mpr n0
  have h0 := hA ns[0] (List.getElem_mem hl)
  walk_at "go"
  refine x_ixL hx1 (at_of (j := 0) (v := .int (ns[0] * c)) rfl (by rw [List.getElem?_map, List.getElem?_map, List.getElem?_eq_getElem hl]; rfl)) ?_
  walk_at "go"
  refine x_ixL hy1 (at_of (j := 0) (v := .int ns[0]) rfl (by rw [List.getElem?_map, List.getElem?_eq_getElem hl]; rfl)) ?_
  walk_at "go"
  refine x_I ⟨by omega, by omega⟩ ?_
  rw [Int.mul_ediv_cancel_left c (by omega : ns[0] ≠ 0)]
  walk_at "go"
  refine x_decF (by omega) ?_
  walk_at "go"
  refine l_lcLm (by walk_at "wipe") [] (fun i => .int (ns.getD i 0 * c)) hy1 nil_mem (by simp) (by rw [List.length_map]; omega) ?_ gname_mono ?_
  · intro Dl i x H' Z h1 hi kp hZ
    obtain ⟨n, rfl, hn⟩ := of_map hi
    have hb := hA n (List.mem_of_getElem? hn)
    walk_at "go"
    refine ⟨rfl, ?_⟩
    walk_at "go"
    have z := hZ H' Kp.refl
    rw [List.getD_eq_getElem?_getD, hn] at z
    exact z
  · intro Da H2 fa k2 ea
    rw [map_range] at ea
    walk_at "go"
    refine x_neL (k2.sq nil_mem hx1) (SqL.of ea) ?_
    walk_at "go"
    exact q H2 (k1.trans k2)
abbrev s_law_strokes_right : Stmt := topS 77
theorem sc_law_strokes_right : FnScope ["told", "one", "two", "high", "low"] ["told", "one", "two"] (defScope s_law_strokes_right) := ⟨rfl, rfl, rfl, by decide +kernel, rfl, by decide +kernel, by decide +kernel⟩
--DEF _law_strokes_right
def spStrokes (K : PySem.W.Frag) : Sp := fun vs H Q _ => ∃ (tp pr a b o t : Addr) (ns ms : List Int), vs = [.ref tp, .ref o, .ref t] ∧ SqT K H tp [.str "told", .ref pr] ∧ SqT K H pr [.ref a, .ref b] ∧
  SqL K H a ((ns.map fun x => x * (ms.sum / ((Nat.gcd ns.sum.natAbs ms.sum.natAbs : Nat) : Int))).map V.int) ∧ SqL K H b ((ms.map fun x => x * (ns.sum / ((Nat.gcd ns.sum.natAbs ms.sum.natAbs : Nat) : Int))).map V.int) ∧
  SqL K H o (ns.map V.int) ∧ SqL K H t (ms.map V.int) ∧ ns ≠ [] ∧ ms ≠ [] ∧ ns.length ≤ 1000 ∧ ms.length ≤ 1000 ∧ (∀ x ∈ ns, 1 ≤ x ∧ x ≤ 1000000) ∧ (∀ x ∈ ms, 1 ≤ x ∧ x ≤ 1000000) ∧ ∀ H', Kp [] H H' → Q (.bl true) H'
theorem gcd_swap {S T : Nat} : S * (T / Nat.gcd S T) = T * (S / Nat.gcd S T) := by
  rw [← Nat.mul_div_assoc _ (Nat.gcd_dvd_right S T), ← Nat.mul_div_assoc _ (Nat.gcd_dvd_left S T), Nat.mul_comm]
theorem ok_law_strokes_right (h : DefAt K mg "_law_strokes_right" ["told", "one", "two"] s_law_strokes_right) (g_len : mg "len" = none) (g_isinstance : mg "isinstance" = none) (g_tuple : mg "tuple" = none) (g_sum : mg "sum" = none)
    (D_law_scaled : Okk P w K mg base CX0 k "_law_scaled" ["told", "row"] (spScaled K)) (D_law_gcd : Okk P w K mg base CX0 k "_law_gcd" ["one", "two"] spGcdL) : Okk P w K mg base CX0 (k + 1) "_law_strokes_right" ["told", "one", "two"] (spStrokes K) := by
  refine h.ok sc_law_strokes_right ?_ ?_
  · rintro vs H Q E ⟨_, _, _, _, _, _, _, _, rfl, _⟩; rfl
  rintro cdv f A outer s H vs Q E hr ⟨tp, pr, a, b, o, t, ns, ms, rfl, e1, e2, ha, hb, ho, ht, n1, n2, l1, l2, A1, A2, q⟩
  have s1 := sum_pos n1 A1
  have s2 := sum_pos n2 A2
  obtain ⟨S, hS⟩ := Int.eq_ofNat_of_zero_le (a := ns.sum) (by omega)
  obtain ⟨T, hT⟩ := Int.eq_ofNat_of_zero_le (a := ms.sum) (by omega)
  have S0 : 0 < S := by omega
  have T0 : 0 < T := by omega
  have g1 : 0 < Nat.gcd S T := Nat.gcd_pos_of_pos_left _ S0
  have d1 : 0 < S / Nat.gcd S T := Nat.div_pos (Nat.gcd_le_left _ S0) g1
  have d2 : 0 < T / Nat.gcd S T := Nat.div_pos (Nat.gcd_le_right _ T0) g1
  have b1 : S / Nat.gcd S T ≤ S := Nat.div_le_self _ _
  have b2 : T / Nat.gcd S T ≤ T := Nat.div_le_self _ _
  have cp : Nat.gcd (T / Nat.gcd S T) (S / Nat.gcd S T) = 1 := by
    rw [Nat.gcd_comm]
    exact Nat.coprime_div_gcd_div_gcd g1
  have sw := gcd_swap (S := S) (T := T)
  have m1 := sum_mul (c := (T : Int) / ((Nat.gcd S T : Nat) : Int)) ns
  have m2 := sum_mul (c := (S : Int) / ((Nat.gcd S T : Nat) : Int)) ms
  rw [hS, hT, Int.natAbs_natCast, Int.natAbs_natCast] at ha hb
  rw [← Int.natCast_ediv] at ha hb m1 m2
  have sd : S = T → S / Nat.gcd S T = 1 ∧ T / Nat.gcd S T = 1 := by
    rintro rfl
    rw [Nat.gcd_self, Nat.div_self S0]
    exact ⟨rfl, rfl⟩
  generalize S / Nat.gcd S T = x at *
  generalize T / Nat.gcd S T = y at *
  refine ⟨_, (pss_cons (ps_if (PW.pt (pw_or (pt_cmpR op_ne (pe_ix ix_tup (pv 0) pe_int (fun _ _ => rfl)) pe_str (nomark _)) (pw_or (pt_not (pt_val (pe_callB call_isi (by rfl) g_isinstance (by decide +kernel) (pa_cons (pe_ix ix_tup (pv 0) pe_int (fun _ _ => rfl)) (pa_cons (pe_bltn (v := .ty "tuple") (by rfl) g_tuple (by decide +kernel) rfl) pa_nil))))) (pw_or1 (pt_cmpR op_ne (pe_callB cr_len (by rfl) g_len (by decide +kernel) (pa_cons (pe_ix ix_tup (pv 0) pe_int (fun _ _ => rfl)) pa_nil)) pe_int (nomark _)))))) (pss_one (ps_ret pe_bl)) pss_nil)
      (pss_cons (ps_set (i := 3) sc_law_strokes_right.nd rfl (Or.inl rfl) (pe_own D_law_scaled hr (pa_cons (pe_ix ix_tup (pe_ix ix_tup (pv 0) pe_int (fun _ _ => rfl)) pe_int (fun _ _ => rfl)) (pa_cons (pv 1) pa_nil))))
      (pss_cons (ps_set (i := 4) sc_law_strokes_right.nd rfl (Or.inl rfl) (pe_own D_law_scaled hr (pa_cons (pe_ix ix_tup (pe_ix ix_tup (pv 0) pe_int (fun _ _ => rfl)) pe_int (fun _ _ => rfl)) (pa_cons (pv 2) pa_nil))))
      (pss_cons (ps_if (PW.pt (pw_or (pt_cmpR op_eq (pv 3) pe_int (nomark _)) (pw_or (pt_cmpR op_eq (pv 4) pe_int (nomark _)) (pw_or (pt_cmpR op_ne (pe_own D_law_gcd hr (pa_cons (pv 3) (pa_cons (pv 4) pa_nil))) pe_int (nomark _)) (pw_or1 (pt_cmpR op_ne (pe_callB (cr_sum rfl) (by rfl) g_sum (by decide +kernel) (pa_cons (pe_ix ix_tup (pe_ix ix_tup (pv 0) pe_int (fun _ _ => rfl)) pe_int (fun _ _ => rfl)) pa_nil)) (pe_callB (cr_sum rfl) (by rfl) g_sum (by decide +kernel) (pa_cons (pe_ix ix_tup (pe_ix ix_tup (pv 0) pe_int (fun _ _ => rfl)) pe_int (fun _ _ => rfl)) pa_nil)) (nomark _))))))) (pss_one (ps_ret pe_bl)) pss_nil)
      (pss_one (ps_ret (pe_or (pe_cmpR op_ne (pe_callB (cr_sum rfl) (by rfl) g_sum (by decide +kernel) (pa_cons (pv 1) pa_nil)) (pe_callB (cr_sum rfl) (by rfl) g_sum (by decide +kernel) (pa_cons (pv 2) pa_nil)) (nomark _)) (pe_one (pe_and (pe_cmpR op_eq (pv 3) pe_int (nomark _)) (pe_one (pe_cmpR op_eq (pv 4) pe_int (nomark _)))))))))))), ?_⟩
  walk_at "go"
  refine go_scaled (c := (y : Int)) ha ho n1 l1 A1 (by omega) (by omega) fun H1 k1 => ?_
  walk_at "go"
  refine go_scaled (c := (x : Int)) (k1.sq nil_mem hb) (k1.sq nil_mem ht) n2 l2 A2 (by omega) (by omega) fun H2 k2 => ?_
  have k12 := k1.trans k2
  have e1' := k12.st nil_mem e1
  have e2' := k12.st nil_mem e2
  walk_at "go"
  refine x_decF (by omega) ?_
  walk_at "go"
  refine x_decF (by omega) ?_
  walk_at "go"
  refine go_gcdl (bt_le (m := 2 ^ 40) (by omega) (by decide +kernel)) ?_
  rw [Int.natAbs_natCast, Int.natAbs_natCast, cp]
  walk_at "go"
  refine ⟨a, _, rfl, k12.sq nil_mem ha, ?_⟩
  walk_at "go"
  refine ⟨b, _, rfl, k12.sq nil_mem hb, ?_⟩
  rw [m1, m2, hS, hT]
  walk_at "go"
  refine x_ndecF (by rw [← Int.natCast_mul, ← Int.natCast_mul, sw]) ?_
  walk_at "go"
  refine ⟨o, ns, rfl, k12.sq nil_mem ho, ?_⟩
  walk_at "go"
  refine ⟨t, ms, rfl, k12.sq nil_mem ht, ?_⟩
  rw [hS, hT]
  walk_at "go"
  refine x_ndec (fun _ => q H2 k12) (fun e => ?_)
  obtain ⟨x1, y1⟩ := sd (by omega)
  rw [x1, y1]
  walk_at "go"
  exact q H2 k12
abbrev s_law_shares : Stmt := topS 68
theorem sc_law_shares : FnScope ["store", "many", "most", "row", "k"] ["store", "many", "most"] (defScope s_law_shares) := ⟨rfl, rfl, rfl, by decide +kernel, rfl, by decide +kernel, by decide +kernel⟩
--DEF _law_shares
def spShares : Sp := fun vs H Q _ => ∃ (p : Addr) (m t : Int) (sl : Addr), vs = [.ref p, .int m, .int t] ∧ 0 ≤ m ∧ m ≤ 1000 ∧ StoreS H p sl ∧ ∀ (l : Addr) (ns : List Int) H', StoreS H' p sl → Kp [p] H H' → H l = none → H' l = some (.lst (ns.map V.int)) → (ns.length : Int) = m → (∀ x ∈ ns, 1 ≤ x ∧ (1 ≤ t → x ≤ t)) → Q (.ref l) H'
theorem go_sharesS {p sl : Addr} {m t : Int} {H : Hp} {Q : VK} {E : XK} (hs : StoreS H p sl) (h0 : 0 ≤ m) (h1 : m ≤ 1000) (q : ∀ (l : Addr) (ns : List Int) H', StoreS H' p sl → Kp [p] H H' → H l = none → H' l = some (.lst (ns.map V.int)) → (ns.length : Int) = m → (∀ x ∈ ns, 1 ≤ x ∧ (1 ≤ t → x ≤ t)) → Q (.ref l) H') : spShares [.ref p, .int m, .int t] H Q E := ⟨p, m, t, sl, rfl, h0, h1, hs, q⟩
theorem x_rep {l : Addr} {k : Int} {xs : List V} {H : Hp} {Q : VK} (h : H l = some (.lst xs)) (h1 : 0 ≤ k) (h2 : k ≤ 100000) (h3 : xs.length * k.toNat ≤ 100000) (q : ∀ p, H p = none → Q (.ref p) (upd H p (.lst (List.replicate k.toNat xs).flatten))) : rRep (.ref l) (.int k) H Q :=
  ⟨l, k, xs, rfl, rfl, h, by omega, by omega, sz_of h3, q⟩
theorem rep_one {x : V} {n : Nat} : (List.replicate n [x]).flatten = List.replicate n x := by
  induction n with
  | zero => rfl
  | succ n ih => rw [List.replicate_succ, List.flatten_cons, ih, List.replicate_succ]; rfl
theorem ok_law_shares (h : DefAt K mg "_law_shares" ["store", "many", "most"] s_law_shares) (g_range : mg "range" = none) (D_law_take : Okk P w K mg base CX0 k "_law_take" ["store", "many"] spTake) (D_law_near_ends : Okk P w K mg base CX0 k "_law_near_ends" ["store", "low", "high"] spBetween) :
    Okk P w K mg base CX0 (k + 1) "_law_shares" ["store", "many", "most"] spShares := by
  refine h.ok sc_law_shares ?_ ?_
  · rintro vs H Q E ⟨p, m, t, _, rfl, _⟩; rfl
  rintro cdv f A outer s H vs Q E hr ⟨p, m, t, sl, rfl, h0, h1, hS, q⟩
  refine ⟨_, (pss_cons (ps_setLc (i := 3) (own := [("k", 4)]) rfl sc_law_shares.nd rfl rfl (sw_true rfl rfl rfl (by decide +kernel)) (pi_range1 rfl g_range (pa_cons (pv 1) pa_nil)) (blkOk_by (own := [("k", 4)]) (N := ["store", "many", "most", "row", "k"]) (sc := defScope s_law_shares) (by decide +kernel)) (fun _ _ _ _ _ => pg_name (i := 4) sc_law_shares.nd rfl (Or.inl rfl)) (fun _ _ _ _ _ => pts_nil) (fun _ _ _ _ _ => (pe_own D_law_near_ends hr (pa_cons (pv 0) (pa_cons pe_int (pa_cons (pv 2) pa_nil))))))
      (pss_cons (ps_if (PW.pt (pw_and (pt_cmpR op_gt (pv 1) pe_int (nomark _)) (pw_and1 (pt_cmpR op_eq (pe_own D_law_take hr (pa_cons (pv 0) (pa_cons pe_int pa_nil))) pe_int (nomark _))))) (pss_one (ps_set (i := 3) sc_law_shares.nd rfl (Or.inl rfl) (pe_op op_rep (pe_lst (pa_cons (pe_ix ix_list (pv 3) pe_int (fun _ _ => rfl)) pa_nil)) (pv 1)))) pss_nil)
      (pss_one (ps_ret (pv 3))))), ?_⟩
  walk_at "go"
  refine l_lcR (by walk_at "wipe") (by omega) (fun Dl i H' => StoreS H' p sl ∧ Kp [p] H H' ∧ ∃ ns : List Int, H' Dl = some (.lst (ns.map V.int)) ∧ ns.length = i ∧ ∀ x ∈ ns, 1 ≤ x ∧ (1 ≤ t → x ≤ t)) (fun Dl fD => ⟨hS.new fD, Kp.new fD, [], upd_same, rfl, by simp⟩) ?_ ?_
  · rintro Dl i H' fD hi ⟨hS1, k1, ns, e1, el, hA⟩
    obtain ⟨n1, n2⟩ := hS.ne fD
    walk_at "go"
    refine ⟨rfl, ?_⟩
    unfold tYes
    refine x_iteT ?_
    walk_at "go"
    refine go_betweenS hS1 fun d H2 a2 b2 c2 d2 g2 => ?_
    have e2 := b2 _ _ (one_mem n1) e1
    refine ⟨_, e2, Nat.lt_of_lt_of_le (m := 1001) (by rw [List.length_map]; omega) (by decide), a2.put n1 n2, (k1.trans b2).mut fD, ns ++ [d], by rw [List.map_append]; exact upd_same, by simp [el], ?_⟩
    intro x hx
    rcases List.mem_append.mp hx with hx | hx
    · exact hA x hx
    · rw [List.mem_singleton] at hx
      subst hx
      exact ⟨c2, d2⟩
  · rintro Dl H1 fD ⟨hS1, k1, ns, e1, el, hA⟩
    obtain ⟨n1, n2⟩ := hS.ne fD
    have el' : (ns.length : Int) = m := by omega
    walk_at "go"
    refine x_dec (fun hm => ?_) (fun hm => ?_)
    · walk_at "go"
      refine go_takeS hS1 fun d H2 a2 b2 c2 d2 g2 => ?_
      have e2 := b2 _ _ (one_mem n1) e1
      walk_at "go"
      refine x_dec (fun hd => ?_) (fun hd => ?_)
      · walk_at "go"
        have hl : 0 < ns.length := by omega
        refine x_ixL (SqL.of e2) (at_of (j := 0) rfl (by rw [List.getElem?_map, List.getElem?_eq_getElem hl]; rfl)) ?_
        walk_at "go"
        intro o fo
        walk_at "go"
        refine x_rep upd_same h0 (by omega) (by rw [List.length_cons, List.length_nil, Nat.zero_add, Nat.one_mul]; omega) fun r fr => ?_
        walk_at "go"
        rw [rep_one]
        obtain ⟨fr1, fr2⟩ := free_upd fr
        refine q r (List.replicate m.toNat ns[0]) _ ((a2.new fo).new fr) (((k1.trans b2).trans (Kp.new fo)).trans (Kp.new fr)) (a2.free (k1.trans b2) fr1) ?_ (by simp; omega) ?_
        · rw [List.map_replicate]
          exact upd_same
        · intro x hx
          rw [(List.mem_replicate.mp hx).2]
          exact hA _ (List.getElem_mem hl)
      · walk_at "go"
        exact q Dl ns H2 a2 (k1.trans b2) fD e2 el' hA
    · walk_at "go"
      exact q Dl ns H1 hS1 k1 fD e1 el' hA
abbrev s_law_side : Stmt := topS 72
theorem sc_law_side : FnScope ["store", "many", "factor", "top", "share"] ["store"] (defScope s_law_side) := ⟨rfl, rfl, rfl, by decide +kernel, rfl, by decide +kernel, by decide +kernel⟩
--DEF _law_side
def spSide : Sp := fun vs H Q _ => ∃ (p : Addr) (sl : Addr), vs = [.ref p] ∧ StoreS H p sl ∧ ∀ (l : Addr) (ns : List Int) H', StoreS H' p sl → Kp [p] H H' → H l = none → H' l = some (.lst (ns.map V.int)) → 1 ≤ ns.length → ns.length ≤ 8 → Q (.ref l) H'
theorem go_sideS {p sl : Addr} {H : Hp} {Q : VK} {E : XK} (hs : StoreS H p sl) (q : ∀ (l : Addr) (ns : List Int) H', StoreS H' p sl → Kp [p] H H' → H l = none → H' l = some (.lst (ns.map V.int)) → 1 ≤ ns.length → ns.length ≤ 8 → Q (.ref l) H') : spSide [.ref p] H Q E := ⟨p, sl, rfl, hs, q⟩
theorem ok_law_side (h : DefAt K mg "_law_side" ["store"] s_law_side) (g_min : mg "min" = none) (D_law_size : Okk P w K mg base CX0 k "_law_size" ["store", "most"] spSize) (D_law_pick : Okk P w K mg base CX0 k "_law_pick" ["store", "row"] (spPick K))
    (D_law_take : Okk P w K mg base CX0 k "_law_take" ["store", "many"] spTake) (D_law_shares : Okk P w K mg base CX0 k "_law_shares" ["store", "many", "most"] spShares) : Okk P w K mg base CX0 (k + 1) "_law_side" ["store"] spSide := by
  refine h.ok sc_law_side ?_ ?_
  · rintro vs H Q E ⟨p, _, rfl, _⟩; rfl
  rintro cdv f A outer s H vs Q E hr ⟨p, sl, rfl, hS, q⟩
  refine ⟨_, (pss_cons (ps_set (i := 1) sc_law_side.nd rfl (Or.inl rfl) (pe_own D_law_size hr (pa_cons (pv 0) (pa_cons pe_int pa_nil))))
      (pss_cons (ps_set (i := 2) sc_law_side.nd rfl (Or.inr rfl) (pe_own D_law_pick hr (pa_cons (pv 0) (pa_cons (pe_lst (pa_cons pe_int (pa_cons pe_int (pa_cons pe_int (pa_cons pe_int (pa_cons pe_int (pa_cons pe_int (pa_cons pe_int (pa_cons pe_int (pa_cons pe_int pa_nil)))))))))) pa_nil))))
      (pss_cons (ps_set (i := 3) sc_law_side.nd rfl (Or.inl rfl) (pe_op op_fdiv pe_int (pv 2)))
      (C8.pss_cut (ps_if (pt_cmpR op_eq (pe_own D_law_take hr (pa_cons (pv 0) (pa_cons pe_int pa_nil))) pe_int (nomark _)) (pss_one (ps_set (i := 3) sc_law_side.nd rfl (Or.inl rfl) (pe_callB (cr_min2 rfl) (by rfl) g_min (by decide +kernel) (pa_cons (pv 3) (pa_cons pe_int pa_nil))))) pss_nil)
      (pss_one (ps_ret (pe_lc (own := [("share", 4)]) rfl sc_law_side.nd (pi_list (pe_own D_law_shares hr (pa_cons (pv 0) (pa_cons (pv 1) (pa_cons (pv 3) pa_nil))))) (blkOk_by (own := [("share", 4)]) (N := ["store", "many", "factor", "top", "share"]) (sc := defScope s_law_side) (by decide +kernel)) (fun _ _ _ _ _ => pg_name (i := 4) sc_law_side.nd rfl (Or.inl rfl)) (fun _ _ _ _ _ => pts_nil) (fun _ _ _ _ _ => (pe_op op_mul (pv 2) (pv 4)))))))))), ?_⟩
  walk_at "go"
  refine go_sizeS hS (by decide) (by decide) fun m H1 a1 b1 c1 d1 => ?_
  walk_at "go"
  intro l9 f9
  walk_at "go"
  refine go_pickS (a1.new f9) (SqL.of upd_same) (a1.ne f9).1 (by decide) (by decide) fun v H2 a2 b2 hv => ?_
  have hv' : ∃ i : Int, v = .int i ∧ 1 ≤ i ∧ i ≤ 500000 := by
    simp only [List.mem_cons, List.not_mem_nil, or_false] at hv
    rcases hv with rfl | rfl | rfl | rfl | rfl | rfl | rfl | rfl | rfl <;> exact ⟨_, rfl, by decide, by decide⟩
  obtain ⟨fc, rfl, fc1, fc2⟩ := hv'
  have k2 := (b1.trans (Kp.new f9)).trans b2
  walk_at "go"
  refine x_I ⟨by omega, by omega⟩ ?_
  walk_at "go"
  refine x_cut (fun s' H' => ∃ t : Int, s' = [some (.ref p), some (.int m), some (.int fc), some (.int t), none] ∧ StoreS H' p sl ∧ Kp [p] H H') ?_ ?_
  · walk_at "go"
    refine go_takeS a2 fun d H3 a3 b3 c3 d3 g3 => ?_
    walk_at "go"
    refine x_dec (fun hd => ?_) (fun hd => ?_)
    · walk_at "go"
      exact ⟨_, rfl, a3, k2.trans b3⟩
    · walk_at "go"
      exact ⟨_, rfl, a3, k2.trans b3⟩
  · rintro s' H3 ⟨t, rfl, a3, k3⟩
    walk_at "go"
    refine go_sharesS a3 (by omega) (by omega) fun l ns H4 a4 b4 f4 e4 l4 hA => ?_
    walk_at "go"
    have k4 := k3.trans b4
    refine l_lcLm (by walk_at "wipe") [] (fun i => .int (fc * ns.getD i 0)) (SqL.of e4) nil_mem (by simp) (by rw [List.length_map]; omega) ?_ gname_mono ?_
    · intro Dl i x H' Z h1 hi kp hZ
      obtain ⟨n, rfl, hn⟩ := of_map hi
      walk_at "go"
      refine ⟨rfl, ?_⟩
      walk_at "go"
      have z := hZ H' Kp.refl
      rw [List.getD_eq_getElem?_getD, hn] at z
      exact z
    · intro Dl H' h1 kp hD
      refine q Dl ((List.range ns.length).map fun i => fc * ns.getD i 0) H' (a4.kp kp) (k4.trans kp.any) ?_ (by rw [hD, List.length_map, List.map_map]; rfl) (by simp; omega) (by simp; omega)
      exact a4.free k4 h1
abbrev s_law_off : Stmt := topS 62
theorem sc_law_off : FnScope ["store", "low", "high", "kind"] ["store", "low", "high"] (defScope s_law_off) := ⟨rfl, rfl, rfl, by decide +kernel, rfl, by decide +kernel, by decide +kernel⟩
--DEF _law_off
def spOff : Sp := fun vs H Q _ => ∃ (p : Addr) (a b : Int) (sl : Addr), vs = [.ref p, .int a, .int b] ∧ StoreS H p sl ∧ ∀ (d : Int) H', StoreS H' p sl → Kp [p] H H' → (d < a ∨ b < d) → Q (.int d) H'
theorem go_offS {p sl : Addr} {a b : Int} {H : Hp} {Q : VK} {E : XK} (hs : StoreS H p sl) (q : ∀ (d : Int) H', StoreS H' p sl → Kp [p] H H' → (d < a ∨ b < d) → Q (.int d) H') : spOff [.ref p, .int a, .int b] H Q E := ⟨p, a, b, sl, rfl, hs, q⟩
theorem ok_law_off (h : DefAt K mg "_law_off" ["store", "low", "high"] s_law_off) (D_law_take : Okk P w K mg base CX0 k "_law_take" ["store", "many"] spTake) : Okk P w K mg base CX0 (k + 1) "_law_off" ["store", "low", "high"] spOff := by
  refine h.ok sc_law_off ?_ ?_
  · rintro vs H Q E ⟨p, _, _, _, rfl, _⟩; rfl
  rintro cdv f A outer s H vs Q E hr ⟨p, a, b, sl, rfl, hS, q⟩
  refine ⟨_, (pss_cons (ps_set (i := 3) sc_law_off.nd rfl (Or.inl rfl) (pe_own D_law_take hr (pa_cons (pv 0) (pa_cons pe_int pa_nil))))
      (pss_cons (ps_if (pt_cmpR op_eq (pv 3) pe_int (nomark _)) (pss_one (ps_ret (pe_op op_add (pv 2) pe_int))) pss_nil)
      (pss_cons (ps_if (pt_cmpR op_eq (pv 3) pe_int (nomark _)) (pss_one (ps_ret (pe_op op_sub (pv 1) pe_int))) pss_nil)
      (pss_cons (ps_if (pt_cmpR op_eq (pv 3) pe_int (nomark _)) (pss_one (ps_ret (pe_op op_add (pe_op op_add (pv 2) pe_int) (pe_own D_law_take hr (pa_cons (pv 0) (pa_cons (pe_op op_powW pe_int pe_int) pa_nil)))))) pss_nil)
      (pss_cons (ps_if (pt_cmpR op_eq (pv 3) pe_int (nomark _)) (pss_one (ps_ret (pe_op op_sub (pe_op op_sub (pv 1) pe_int) (pe_own D_law_take hr (pa_cons (pv 0) (pa_cons (pe_op op_powW pe_int pe_int) pa_nil)))))) pss_nil)
      (pss_cons (ps_if (pt_cmpR op_eq (pv 3) pe_int (nomark _)) (pss_one (ps_ret (pe_op op_add (pv 2) (pe_op op_powW pe_int pe_int)))) pss_nil)
      (pss_one (ps_ret (pe_op op_sub (pv 1) (pe_op op_fdiv (pe_op op_powW (pe_op op_powW pe_int pe_int) pe_int) (pe_op op_powW pe_int pe_int))))))))))), ?_⟩
  walk_at "go"
  refine go_takeS hS fun d H1 a1 b1 c1 d1 g1 => ?_
  walk_at "go"
  refine x_dec (fun h0 => ?_) (fun h0 => ?_)
  · walk_at "go"
    exact q _ _ a1 b1 (by omega)
  walk_at "go"
  refine x_dec (fun h0 => ?_) (fun h0 => ?_)
  · walk_at "go"
    exact q _ _ a1 b1 (by omega)
  walk_at "go"
  refine x_dec (fun h0 => ?_) (fun h0 => ?_)
  · walk_at "go"
    refine go_takeS a1 fun d H2 a2 b2 c2 d2 g2 => ?_
    walk_at "go"
    exact q _ _ a2 (b1.trans b2) (by omega)
  walk_at "go"
  refine x_dec (fun h0 => ?_) (fun h0 => ?_)
  · walk_at "go"
    refine go_takeS a1 fun d H2 a2 b2 c2 d2 g2 => ?_
    walk_at "go"
    exact q _ _ a2 (b1.trans b2) (by omega)
  walk_at "go"
  refine x_dec (fun h0 => ?_) (fun h0 => ?_)
  · walk_at "go"
    exact q _ _ a1 b1 (by omega)
  walk_at "go"
  exact q _ _ a1 b1 (by omega)
abbrev s_law_bent : Stmt := topS 73
theorem sc_law_bent : FnScope ["store", "row", "work", "k", "at"] ["store", "row"] (defScope s_law_bent) := ⟨rfl, rfl, rfl, by decide +kernel, rfl, by decide +kernel, by decide +kernel⟩
--DEF _law_bent
def spBent (K : PySem.W.Frag) : Sp := fun vs H Q _ => ∃ (p a : Addr) (ns : List Int) (sl : Addr), vs = [.ref p, .ref a] ∧ StoreS H p sl ∧ SqL K H a (ns.map V.int) ∧ 0 < ns.length ∧ ns.length < 90000 ∧ ∀ (l : Addr) (ms : List Int) H', StoreS H' p sl → Kp [p] H H' → H l = none → H' l = some (.lst (ms.map V.int)) → ms.length = ns.length → Q (.ref l) H'
theorem go_bentS {p a sl : Addr} {ns : List Int} {H : Hp} {Q : VK} {E : XK} (hs : StoreS H p sl) (hx : SqL K H a (ns.map V.int)) (h0 : 0 < ns.length) (h1 : ns.length < 90000) (q : ∀ (l : Addr) (ms : List Int) H', StoreS H' p sl → Kp [p] H H' → H l = none → H' l = some (.lst (ms.map V.int)) → ms.length = ns.length → Q (.ref l) H') : spBent K [.ref p, .ref a] H Q E := ⟨p, a, ns, sl, rfl, hs, hx, h0, h1, q⟩
theorem ok_law_bent (h : DefAt K mg "_law_bent" ["store", "row"] s_law_bent) (g_list : mg "list" = none) (g_range : mg "range" = none) (g_len : mg "len" = none) (D_law_take : Okk P w K mg base CX0 k "_law_take" ["store", "many"] spTake)
    (D_law_off : Okk P w K mg base CX0 k "_law_off" ["store", "low", "high"] spOff) : Okk P w K mg base CX0 (k + 1) "_law_bent" ["store", "row"] (spBent K) := by
  refine h.ok sc_law_bent ?_ ?_
  · rintro vs H Q E ⟨p, a, _, _, rfl, _⟩; rfl
  rintro cdv f A outer s H vs Q E hr ⟨p, a, ns, sl, rfl, hS, hx, h0, h1, q⟩
  refine ⟨_, (pss_cons (ps_set (i := 2) sc_law_bent.nd rfl (Or.inl rfl) (pe_callTy cr_list (by rfl) g_list (by decide +kernel) (pa_cons (pv 1) pa_nil)))
      (pss_cons (ps_for PassesOwn.never rfl (pi_range1 rfl g_range (pa_cons (pe_own D_law_take hr (pa_cons (pv 0) (pa_cons pe_int pa_nil))) pa_nil)) (pg_name (i := 3) sc_law_bent.nd rfl (Or.inl rfl))
        (pss_cons (ps_set (i := 4) sc_law_bent.nd rfl (Or.inl rfl) (pe_own D_law_take hr (pa_cons (pv 0) (pa_cons (pe_callB cr_len (by rfl) g_len (by decide +kernel) (pa_cons (pv 2) pa_nil)) pa_nil))))
        (pss_one (ps_asg (pe_own D_law_off hr (pa_cons (pv 0) (pa_cons pe_int (pa_cons pe_int pa_nil)))) (pg_sub (pv 2) (pv 4) set_list)))))
      (pss_one (ps_ret (pv 2))))), ?_⟩
  walk_at "go"
  refine x_listL hx fun l fl => ?_
  obtain ⟨n1, n2⟩ := hS.ne fl
  walk_at "go"
  refine go_takeS (hS.new fl) fun d H1 a1 b1 c1 d1 g1 => ?_
  walk_at "go"
  refine l_rng (by omega) (fun _ s' H' => StoreS H' p sl ∧ Kp [p] H H' ∧ (∃ ms : List Int, H' l = some (.lst (ms.map V.int)) ∧ ms.length = ns.length) ∧ ∃ z3 z4, s' = [some (.ref p), some (.ref a), some (.ref l), z3, z4]) ⟨a1, (Kp.new fl).trans b1, ⟨ns, b1 _ _ (one_mem n1) upd_same, rfl⟩, _, _, rfl⟩ ?_ ?_
  · rintro i s' H' hi ⟨a2, k2, ⟨ms, e2, hl⟩, z3, z4, rfl⟩
    walk_at "go"
    refine go_takeS a2 (fun d H3 a3 b3 c3 d3 g3 => ?_) (by rw [List.length_map]; omega)
    have e3 := b3 _ _ (one_mem n1) e2
    rw [List.length_map] at d3 g3
    walk_at "go"
    refine go_offS a3 fun y H4 a4 b4 _ => ?_
    have e4 := b4 _ _ (one_mem n1) e3
    walk_at "go"
    refine x_setN e4 (j := d.toNat) (by omega) (SetTo.at (by rw [List.length_map]; omega)) ?_
    walk_at "go"
    exact ⟨a4.put n1 n2, ((k2.trans b3).trans b4).mut fl, ⟨ms.set d.toNat y, by rw [List.map_set]; exact upd_same, by rw [List.length_set]; exact hl⟩, _, _, rfl⟩
  · rintro s' H' ⟨a2, k2, ⟨ms, e2, hl⟩, z3, z4, rfl⟩
    walk_at "go"
    exact q l ms H' a2 k2 fl e2 hl
abbrev s_law_copy : Stmt := topS 64
theorem sc_law_copy : FnScope ["thing", "part"] ["thing"] (defScope s_law_copy) := ⟨rfl, rfl, rfl, by decide +kernel, rfl, by decide +kernel, by decide +kernel⟩
--DEF _law_copy
/-- the copy's own objects are new, and there -/
def New (H H' : Hp) (a : Addr) : Prop := H a = none ∧ ∃ o, H' a = some o
def spCopy (K : PySem.W.Frag) (n : Nat) : Sp := fun vs H Q _ => ∃ v d, vs = [v] ∧ Rr K H v d ∧ dep d ≤ n ∧ wid d < 90000 ∧ ∀ u H', Kp [] H H' → Rp (New H H') K H' u d → Q u H'
theorem go_copy {n : Nat} {v : V} {d : PyData} {H : Hp} {Q : VK} {E : XK} (h : Rr K H v d) (hn : dep d ≤ n) (hw : wid d < 90000) (q : ∀ u H', Kp [] H H' → Rp (New H H') K H' u d → Q u H') : spCopy K n [v] H Q E := ⟨v, d, rfl, h, hn, hw, q⟩
theorem RpAll.snoc {A : Addr → Prop} {H : Hp} : ∀ {vs : List V} {ds : List PyData} {v : V} {d : PyData}, RpAll A K H vs ds → Rp A K H v d → RpAll A K H (vs ++ [v]) (ds ++ [d])
  | _, _, _, _, .nil, h => .cons h .nil
  | _, _, _, _, .cons a t, h => .cons a (RpAll.snoc t h)
theorem New.put {H H4 : Hp} {a Dl : Addr} {o : HO} (h : New H H4 a) : New H (upd H4 Dl o) a := ⟨h.1, by
  by_cases z : a = Dl
  · subst z
    exact ⟨o, upd_same⟩
  · obtain ⟨u, e⟩ := h.2
    exact ⟨u, at_upd z e⟩⟩
theorem New.kp {H H1 H2 : Hp} {a : Addr} (h : New H H1 a) (k : Kp [] H1 H2) : New H H2 a := ⟨h.1, by
  obtain ⟨u, e⟩ := h.2
  exact ⟨u, k _ _ nil_mem e⟩⟩
theorem copy_turn {H H' H4 : Hp} {Dl : Addr} {us : List V} {es : List PyData} {y : V} {d : PyData} (k : Kp [] H' H4) (a : RpAll (fun b => New H H' b ∧ b ≠ Dl) K H' us es) (b : Rp (fun b => New H H4 b ∧ b ≠ Dl) K H4 y d) (o : HO) : RpAll (fun b => New H (upd H4 Dl o) b ∧ b ≠ Dl) K (upd H4 Dl o) (us ++ [y]) (es ++ [d]) :=
  ((a.kp k (fun _ _ => nil_mem) fun _ z => ⟨z.1.kp k, z.2⟩).snoc b).kp (Kp.put (M := [Dl]) (by simp)) (fun _ z => one_mem z.2) fun _ z => ⟨z.1.put, z.2⟩
theorem ok_law_copy_step {n : Nat} (h : DefAt K mg "_law_copy" ["thing"] s_law_copy) (g_isinstance : mg "isinstance" = none) (g_list : mg "list" = none) (g_tuple : mg "tuple" = none)
    {sp : Sp} (D_law_copy : Okk P w K mg base CX0 k "_law_copy" ["thing"] sp) (hs : ∀ m vs H Q E, m < n → spCopy K m vs H Q E → sp vs H Q E) : Okk P w K mg base CX0 (k + 1) "_law_copy" ["thing"] (spCopy K n) := by
  refine h.ok sc_law_copy ?_ ?_
  · rintro vs H Q E ⟨_, _, rfl, _⟩; rfl
  rintro cdv f A outer s H vs Q E hr ⟨v, d, rfl, hv, hn, hw, q⟩
  refine ⟨_, (pss_cons (ps_if (pt_val (pe_callB call_isi (by rfl) g_isinstance (by decide +kernel) (pa_cons (pv 0) (pa_cons (pe_bltn (v := .ty "list") (by rfl) g_list (by decide +kernel) rfl) pa_nil)))) (pss_one (ps_ret (pe_lc (own := [("part", 1)]) rfl sc_law_copy.nd (pi_list (pv 0)) (blkOk_by (own := [("part", 1)]) (N := ["thing", "part"]) (sc := defScope s_law_copy) (by decide +kernel)) (fun _ _ _ _ _ => pg_name (i := 1) sc_law_copy.nd rfl (Or.inl rfl)) (fun _ _ _ _ _ => pts_nil) (fun _ _ _ _ _ => (pe_own D_law_copy hr (pa_cons (pv 1) pa_nil)))))) pss_nil)
      (pss_cons (ps_if (pt_val (pe_callB call_isi (by rfl) g_isinstance (by decide +kernel) (pa_cons (pv 0) (pa_cons (pe_bltn (v := .ty "tuple") (by rfl) g_tuple (by decide +kernel) rfl) pa_nil)))) (pss_one (ps_ret (pe_callTy call_tuple_of (by rfl) g_tuple (by decide +kernel) (pa_cons (pe_lc (own := [("part", 1)]) rfl sc_law_copy.nd (pi_tup (pv 0)) (blkOk_by (own := [("part", 1)]) (N := ["thing", "part"]) (sc := defScope s_law_copy) (by decide +kernel)) (fun _ _ _ _ _ => pg_name (i := 1) sc_law_copy.nd rfl (Or.inl rfl)) (fun _ _ _ _ _ => pts_nil) (fun _ _ _ _ _ => (pe_own D_law_copy hr (pa_cons (pv 1) pa_nil)))) pa_nil)))) pss_nil)
      (pss_one (ps_ret (pv 0))))), ?_⟩
  cases hv with
  | @lst a xs ds _ hx hA =>
    have hlen := hA.length
    have hn' : depAll ds < n := hn
    have hw' : max ds.length (widAll ds) < 90000 := hw
    walk_at "go"
    refine l_lcL (by walk_at "wipe") hx (fun Dl i H' => Kp [] H H' ∧ ∃ us, H' Dl = some (.lst us) ∧ us.length = i ∧ RpAll (fun b => New H H' b ∧ b ≠ Dl) K H' us (ds.take i)) (fun Dl fD => ⟨Kp.new fD, [], upd_same, rfl, .nil⟩) (fun Dl i H' _ _ m => m.1.sq nil_mem hx) ?_ ?_
    · rintro Dl i x H' fD hi ⟨k1, us, e1, el, hU⟩
      obtain ⟨e, ge, re⟩ := hA.get' hi
      have hil : i < ds.length := (List.getElem?_eq_some_iff.mp ge).1
      walk_at "go"
      refine ⟨rfl, ?_⟩
      unfold tYes
      refine x_iteT ?_
      walk_at "go"
      refine hs (depAll ds) _ _ _ _ hn' (go_copy (re.to k1) (dep_le ge) (Nat.lt_of_le_of_lt (wid_le ge) (by omega)) fun y H2 k2 hy => ?_)
      have e2 := k2 _ _ nil_mem e1
      refine ⟨us, e2, Nat.lt_of_lt_of_le (m := 90000) (by omega) (by decide), (k1.trans k2).mut fD, us ++ [y], upd_same, by simp [el], ?_⟩
      rw [List.take_succ, ge]
      exact copy_turn k2 hU (hy.kp (M := []) Kp.refl (fun _ _ => nil_mem) fun b z => ⟨⟨k1.free nil_mem z.1, z.2⟩, ne_new' z.1 e1⟩) _
    · rintro Dl H' fD ⟨k1, us, e1, el, hU⟩
      rw [hlen, List.take_length] at hU
      walk_at "go"
      exact q _ _ k1 (.lst ⟨fD, _, e1⟩ (SqL.of e1) (hU.kp (M := []) Kp.refl (fun _ _ => nil_mem) fun b z => z.1))
  | @tup a xs ds _ hx hA =>
    have hlen := hA.length
    have hn' : depAll ds < n := hn
    have hw' : max ds.length (widAll ds) < 90000 := hw
    walk_at "go"
    refine l_lcT (by walk_at "wipe") hx (fun Dl i H' => Kp [] H H' ∧ ∃ us, H' Dl = some (.lst us) ∧ us.length = i ∧ RpAll (fun b => New H H' b ∧ b ≠ Dl) K H' us (ds.take i)) (fun Dl fD => ⟨Kp.new fD, [], upd_same, rfl, .nil⟩) (fun Dl i H' _ _ m => m.1.st nil_mem hx) ?_ ?_
    · rintro Dl i x H' fD hi ⟨k1, us, e1, el, hU⟩
      obtain ⟨e, ge, re⟩ := hA.get' hi
      have hil : i < ds.length := (List.getElem?_eq_some_iff.mp ge).1
      walk_at "go"
      refine ⟨rfl, ?_⟩
      unfold tYes
      refine x_iteT ?_
      walk_at "go"
      refine hs (depAll ds) _ _ _ _ hn' (go_copy (re.to k1) (dep_le ge) (Nat.lt_of_le_of_lt (wid_le ge) (by omega)) fun y H2 k2 hy => ?_)
      have e2 := k2 _ _ nil_mem e1
      refine ⟨us, e2, Nat.lt_of_lt_of_le (m := 90000) (by omega) (by decide), (k1.trans k2).mut fD, us ++ [y], upd_same, by simp [el], ?_⟩
      rw [List.take_succ, ge]
      exact copy_turn k2 hU (hy.kp (M := []) Kp.refl (fun _ _ => nil_mem) fun b z => ⟨⟨k1.free nil_mem z.1, z.2⟩, ne_new' z.1 e1⟩) _
    · rintro Dl H' fD ⟨k1, us, e1, el, hU⟩
      rw [hlen, List.take_length] at hU
      walk_at "go"
      refine ⟨Dl, us, rfl, .inl ⟨SqL.of e1, fun p fp => ?_⟩⟩
      exact q _ _ (k1.trans (Kp.new fp)) (.tup ⟨k1.free nil_mem fp, _, upd_same⟩ (SqT.of upd_same) (hU.kp (M := []) (Kp.new fp) (fun _ _ => nil_mem) fun b z => z.1.put))
  | non => walk_at "go"; exact q _ _ Kp.refl .non
  | bl b => walk_at "go"; exact q _ _ Kp.refl (.bl b)
  | int b => walk_at "go"; exact q _ _ Kp.refl (.int b)
  | str b => walk_at "go"; exact q _ _ Kp.refl (.str b)
theorem ok_law_copy (h : DefAt K mg "_law_copy" ["thing"] s_law_copy) (g_isinstance : mg "isinstance" = none) (g_list : mg "list" = none) (g_tuple : mg "tuple" = none) : ∀ n, Okk P w K mg base CX0 (n + 1) "_law_copy" ["thing"] (spCopy K n)
  | 0 => ok_law_copy_step (k := 0) h g_isinstance g_list g_tuple h.never fun _ _ _ _ _ z => absurd z (Nat.not_lt_zero _)
  | n + 1 => ok_law_copy_step h g_isinstance g_list g_tuple (ok_law_copy h g_isinstance g_list g_tuple n) fun m vs H Q E hm z => by
    obtain ⟨x, d, h1, h2, h3, h4, h5⟩ := z
    exact ⟨x, d, h1, h2, by omega, h4, h5⟩
mutual
/-- v stands for d, its own objects (each met once) are fs -/
inductive Fp (H : Hp) : V → PyData → List Addr → Prop
  | non : Fp H .non .none []
  | bl (b : Bool) : Fp H (.bl b) (.bool b) []
  | int (i : Int) : Fp H (.int i) (.int i) []
  | str (x : Str) : Fp H (.str x) (.str x) []
  | lst {a xs ds fs} : H a = some (.lst xs) → FpAll H xs ds fs → a ∉ fs → Fp H (.ref a) (.list ds) (a :: fs)
  | tup {a xs ds fs} : H a = some (.tup xs) → FpAll H xs ds fs → a ∉ fs → Fp H (.ref a) (.tuple ds) (a :: fs)
inductive FpAll (H : Hp) : List V → List PyData → List Addr → Prop
  | nil : FpAll H [] [] []
  | cons {v vs d ds f g} : Fp H v d f → FpAll H vs ds g → (∀ a ∈ f, a ∉ g) → FpAll H (v :: vs) (d :: ds) (f ++ g)
end
mutual
theorem Fp.kp {M : List Addr} {H H' : Hp} (k : Kp M H H') : ∀ {v : V} {d : PyData} {fs : List Addr}, Fp H v d fs → (∀ a ∈ fs, a ∉ M) → Fp H' v d fs
  | _, _, _, .non, _ => .non
  | _, _, _, .bl b, _ => .bl b
  | _, _, _, .int i, _ => .int i
  | _, _, _, .str x, _ => .str x
  | _, _, _, .lst e r n, h => .lst (k _ _ (h _ List.mem_cons_self) e) (FpAll.kp k r fun a z => h a (List.mem_cons_of_mem _ z)) n
  | _, _, _, .tup e r n, h => .tup (k _ _ (h _ List.mem_cons_self) e) (FpAll.kp k r fun a z => h a (List.mem_cons_of_mem _ z)) n
theorem FpAll.kp {M : List Addr} {H H' : Hp} (k : Kp M H H') : ∀ {vs : List V} {ds : List PyData} {fs : List Addr}, FpAll H vs ds fs → (∀ a ∈ fs, a ∉ M) → FpAll H' vs ds fs
  | _, _, _, .nil, _ => .nil
  | _, _, _, .cons r t n, h => .cons (Fp.kp k r fun a z => h a (List.mem_append_left _ z)) (FpAll.kp k t fun a z => h a (List.mem_append_right _ z)) n
end
mutual
theorem Fp.ex {H : Hp} : ∀ {v : V} {d : PyData} {fs : List Addr}, Fp H v d fs → ∀ a ∈ fs, ∃ o, H a = some o
  | _, _, _, .non, _, h => by cases h
  | _, _, _, .bl _, _, h => by cases h
  | _, _, _, .int _, _, h => by cases h
  | _, _, _, .str _, _, h => by cases h
  | _, _, _, .lst e r _, a, h => by
    rcases List.mem_cons.mp h with rfl | h
    · exact ⟨_, e⟩
    · exact FpAll.ex r a h
  | _, _, _, .tup e r _, a, h => by
    rcases List.mem_cons.mp h with rfl | h
    · exact ⟨_, e⟩
    · exact FpAll.ex r a h
theorem FpAll.ex {H : Hp} : ∀ {vs : List V} {ds : List PyData} {fs : List Addr}, FpAll H vs ds fs → ∀ a ∈ fs, ∃ o, H a = some o
  | _, _, _, .nil, _, h => by cases h
  | _, _, _, .cons r t _, a, h => by
    rcases List.mem_append.mp h with h | h
    · exact Fp.ex r a h
    · exact FpAll.ex t a h
end
/-- all but the lists of fs as it was, and these are lists still -/
structure KpS (fs : List Addr) (H H' : Hp) : Prop where
  kp : Kp fs H H'
  lst : ∀ b xs, H b = some (.lst xs) → ∃ ys, H' b = some (.lst ys)
  tup : ∀ b xs, H b = some (.tup xs) → H' b = some (.tup xs)
theorem KpS.refl {fs : List Addr} {H : Hp} : KpS fs H H := ⟨Kp.refl, fun _ xs e => ⟨xs, e⟩, fun _ _ e => e⟩
theorem KpS.trans {fs : List Addr} {H H1 H2 : Hp} (a : KpS fs H H1) (b : KpS fs H1 H2) : KpS fs H H2 := ⟨a.kp.trans b.kp, fun x xs e => by
  obtain ⟨ys, e1⟩ := a.lst x xs e
  exact b.lst x ys e1, fun x xs e => b.tup x xs (a.tup x xs e)⟩
theorem KpS.mono {fs gs : List Addr} {H H' : Hp} (a : KpS fs H H') (h : ∀ x, x ∈ fs → x ∈ gs) : KpS gs H H' := ⟨a.kp.mono h, a.lst, a.tup⟩
theorem KpS.new {fs : List Addr} {H : Hp} {p : Addr} {o : HO} (h : H p = none) : KpS fs H (upd H p o) := ⟨Kp.new h, fun b xs e => ⟨xs, at_upd (ne_new h e) e⟩, fun b xs e => at_upd (ne_new h e) e⟩
theorem KpS.put {fs : List Addr} {H : Hp} {p : Addr} {xs ys : List V} (hp : p ∈ fs) (h : H p = some (.lst xs)) : KpS fs H (upd H p (.lst ys)) := ⟨Kp.put hp, fun b zs e => by
  by_cases z : b = p
  · subst z
    exact ⟨ys, upd_same⟩
  · exact ⟨zs, at_upd z e⟩, fun b zs e => at_upd (fun z => by rw [z, h] at e; cases e) e⟩
abbrev s_law_spoil : Stmt := topS 65
theorem sc_law_spoil : FnScope ["thing", "part"] ["thing"] (defScope s_law_spoil) := ⟨rfl, rfl, rfl, by decide +kernel, rfl, by decide +kernel, by decide +kernel⟩
--DEF _law_spoil
def spSpoil (n : Nat) : Sp := fun vs H Q _ => ∃ v d fs, vs = [v] ∧ Fp H v d fs ∧ dep d ≤ n ∧ wid d < 90000 ∧ ∀ H', KpS fs H H' → Q .non H'
theorem go_spoil {n : Nat} {v : V} {d : PyData} {fs : List Addr} {H : Hp} {Q : VK} {E : XK} (h : Fp H v d fs) (hn : dep d ≤ n) (hw : wid d < 90000) (q : ∀ H', KpS fs H H' → Q .non H') : spSpoil n [v] H Q E := ⟨v, d, fs, rfl, h, hn, hw, q⟩
theorem FpAll.len {H : Hp} : ∀ {vs : List V} {ds : List PyData} {fs : List Addr}, FpAll H vs ds fs → vs.length = ds.length
  | _, _, _, .nil => rfl
  | _, _, _, .cons _ t _ => congrArg Nat.succ (FpAll.len t)
theorem FpAll.drop {H : Hp} {xs : List V} {es : List PyData} {gs : List Addr} {i : Nat} {x : V} (h : FpAll H (xs.drop i) es gs) (hx : xs[i]? = some x) : ∃ d ds f g, es = d :: ds ∧ gs = f ++ g ∧ Fp H x d f ∧ FpAll H (xs.drop (i + 1)) ds g ∧ ∀ a ∈ f, a ∉ g := by
  obtain ⟨hl, e⟩ := List.getElem?_eq_some_iff.mp hx
  rw [List.drop_eq_getElem_cons hl, e] at h
  cases h with
  | cons r t n => exact ⟨_, _, _, _, rfl, rfl, r, t, n⟩
theorem wid_mem {d : PyData} {ds : List PyData} (h : d ∈ ds) : wid d ≤ widAll ds ∧ dep d ≤ depAll ds := by
  obtain ⟨i, e⟩ := List.getElem?_of_mem h
  exact ⟨wid_le e, dep_le e⟩
theorem ok_law_spoil_step {n : Nat} (h : DefAt K mg "_law_spoil" ["thing"] s_law_spoil) (g_isinstance : mg "isinstance" = none) (g_list : mg "list" = none) (g_tuple : mg "tuple" = none) (g_len : mg "len" = none)
    {sp : Sp} (D_law_spoil : Okk P w K mg base CX0 k "_law_spoil" ["thing"] sp) (hs : ∀ m vs H Q E, m < n → spSpoil m vs H Q E → sp vs H Q E) : Okk P w K mg base CX0 (k + 1) "_law_spoil" ["thing"] (spSpoil n) := by
  refine h.ok sc_law_spoil ?_ ?_
  · rintro vs H Q E ⟨_, _, _, rfl, _⟩; rfl
  rintro cdv f A outer s H vs Q E hr ⟨v, d, fs, rfl, hv, hn, hw, q⟩
  refine ⟨_, (pss_cons (ps_if (pt_val (pe_callB call_isiT (by rfl) g_isinstance (by decide +kernel) (pa_cons (pv 0) (pa_cons (pe_tup (pa_cons (pe_bltn (v := .ty "list") (by rfl) g_list (by decide +kernel) rfl) (pa_cons (pe_bltn (v := .ty "tuple") (by rfl) g_tuple (by decide +kernel) rfl) pa_nil))) pa_nil)))) (pss_one (ps_for PassesOwn.never rfl (pi_list (pe_callTy cr_list (by rfl) g_list (by decide +kernel) (pa_cons (pv 0) pa_nil))) (pg_name (i := 1) sc_law_spoil.nd rfl (Or.inl rfl))
          (pss_one (ps_expr (pe_own D_law_spoil hr (pa_cons (pv 1) pa_nil)))))) pss_nil)
      (pss_one (ps_if (pt_val (pe_callB call_isi (by rfl) g_isinstance (by decide +kernel) (pa_cons (pv 0) (pa_cons (pe_bltn (v := .ty "list") (by rfl) g_list (by decide +kernel) rfl) pa_nil)))) (pss_cons (ps_if (PW.pt (pw_and (pt_cmpR op_gt (pe_callB cr_len (by rfl) g_len (by decide +kernel) (pa_cons (pv 0) pa_nil)) pe_int (nomark _)) (pw_and1 (pt_not (pt_val (pe_callB call_isiT (by rfl) g_isinstance (by decide +kernel) (pa_cons (pe_ix ix_list (pv 0) pe_int (fun _ _ => rfl)) (pa_cons (pe_tup (pa_cons (pe_bltn (v := .ty "list") (by rfl) g_list (by decide +kernel) rfl) (pa_cons (pe_bltn (v := .ty "tuple") (by rfl) g_tuple (by decide +kernel) rfl) pa_nil))) pa_nil)))))))) (pss_one (ps_asg pe_int (pg_sub (pv 0) pe_int set_list))) pss_nil)
        (pss_one (ps_expr (pe_bm PySem.F.plainAttrs_list PySem.F.slot_list_append PySem.F.type_list_append mt_append (pv 0) (pa_cons pe_int pa_nil))))) pss_nil))), ?_⟩
  cases hv with
  | @lst a xs ds gs hx hA ha =>
    have hn' : depAll ds < n := hn
    have hw' : max ds.length (widAll ds) < 90000 := hw
    have hlen := hA.len
    have hlx : xs.length < 90000 := by omega
    walk_at "go"
    intro tt ftt
    walk_at "go"
    have fresh : ∀ b ∈ gs, b ≠ tt := fun b hb z => by
      obtain ⟨o, e⟩ := hA.ex b hb
      rw [z, ftt] at e
      cases e
    have hx1 : upd H tt (.tup [.ty "list", .ty "tuple"]) a = some (.lst xs) := at_upd (ne_new ftt hx) hx
    refine x_listL (SqL.of hx1) fun l fl => ?_
    obtain ⟨fl1, fl2⟩ := free_upd fl
    have lng : l ∉ gs := fun hb => by
      obtain ⟨o, e⟩ := hA.ex l hb
      rw [fl1] at e
      cases e
    have kk : Kp [] H (upd (upd H tt (.tup [.ty "list", .ty "tuple"])) l (.lst xs)) := (Kp.new ftt).trans (Kp.new fl)
    have ks : KpS gs H (upd (upd H tt (.tup [.ty "list", .ty "tuple"])) l (.lst xs)) := (KpS.new ftt).trans (KpS.new fl)
    have e2 : upd (upd H tt (.tup [.ty "list", .ty "tuple"])) l (.lst xs) l = some (.lst xs) := upd_same
    walk_at "go"
    generalize upd (upd H tt (.tup [.ty "list", .ty "tuple"])) l (.lst xs) = H2 at *
    refine l_list (SqL.of e2) (fun i s' H' => KpS gs H2 H' ∧ (∃ es gs', FpAll H' (xs.drop i) es gs' ∧ (∀ e ∈ es, e ∈ ds) ∧ (∀ b ∈ gs', b ∈ gs)) ∧ ∃ z1, s' = [some (.ref a), z1]) ⟨KpS.refl, ⟨ds, gs, hA.kp kk (fun _ _ => nil_mem), fun _ z => z, fun _ z => z⟩, _, rfl⟩ (fun i s' H' _ m => SqL.of (m.1.kp _ _ lng e2)) ?_ ?_
    · rintro i x s' H' hi ⟨kS, ⟨es, gs', hF, he, hg⟩, z1, rfl⟩
      obtain ⟨d, es', f, g, rfl, rfl, hv, ht, hd⟩ := hF.drop hi
      have hw1 := wid_mem (he d List.mem_cons_self)
      walk_at "go"
      refine hs (depAll ds) _ _ _ _ hn' (go_spoil hv hw1.2 (by omega) fun H3 k3 => ?_)
      walk_at "go"
      exact ⟨kS.trans (k3.mono fun b z => hg b (List.mem_append_left _ z)), ⟨es', g, ht.kp k3.kp (fun b z w => hd b w z), fun e z => he e (List.mem_cons_of_mem _ z), fun b z => hg b (List.mem_append_right _ z)⟩, _, rfl⟩
    · rintro s' H' ⟨kS, _, z1, rfl⟩
      have ea : H' a = some (.lst xs) := kS.kp _ _ ha (kk _ _ nil_mem hx)
      have kA : KpS (a :: gs) H H' := (ks.trans kS).mono fun b z => List.mem_cons_of_mem _ z
      cases xs with
      | nil =>
        walk_at "go"
        refine x_append ea (by simp) ?_
        walk_at "go"
        exact q _ (kA.trans (KpS.put List.mem_cons_self ea))
      | cons x0 xt =>
        walk_at "go"
        refine x_decT (by simp) ?_
        cases hA with
        | cons r0 t0 d0 =>
        cases r0 with
        | non =>
          walk_at "go"
          refine x_ixL (SqL.of ea) (at_of (j := 0) rfl rfl) ?_
          walk_at "go"
          intro t2 f2
          walk_at "go"
          have ea2 := (Kp.new (M := []) (o := .tup [V.ty "list", V.ty "tuple"]) f2) _ _ nil_mem ea
          have kB := kA.trans (KpS.new (o := .tup [V.ty "list", V.ty "tuple"]) f2)
          refine x_append upd_same (by simp at hlx ⊢; omega) ?_
          walk_at "go"
          exact q _ ((kB.trans (KpS.put List.mem_cons_self ea2)).trans (KpS.put List.mem_cons_self upd_same))
        | bl _ =>
          walk_at "go"
          refine x_ixL (SqL.of ea) (at_of (j := 0) rfl rfl) ?_
          walk_at "go"
          intro t2 f2
          walk_at "go"
          have ea2 := (Kp.new (M := []) (o := .tup [V.ty "list", V.ty "tuple"]) f2) _ _ nil_mem ea
          have kB := kA.trans (KpS.new (o := .tup [V.ty "list", V.ty "tuple"]) f2)
          refine x_append upd_same (by simp at hlx ⊢; omega) ?_
          walk_at "go"
          exact q _ ((kB.trans (KpS.put List.mem_cons_self ea2)).trans (KpS.put List.mem_cons_self upd_same))
        | int _ =>
          walk_at "go"
          refine x_ixL (SqL.of ea) (at_of (j := 0) rfl rfl) ?_
          walk_at "go"
          intro t2 f2
          walk_at "go"
          have ea2 := (Kp.new (M := []) (o := .tup [V.ty "list", V.ty "tuple"]) f2) _ _ nil_mem ea
          have kB := kA.trans (KpS.new (o := .tup [V.ty "list", V.ty "tuple"]) f2)
          refine x_append upd_same (by simp at hlx ⊢; omega) ?_
          walk_at "go"
          exact q _ ((kB.trans (KpS.put List.mem_cons_self ea2)).trans (KpS.put List.mem_cons_self upd_same))
        | str _ =>
          walk_at "go"
          refine x_ixL (SqL.of ea) (at_of (j := 0) rfl rfl) ?_
          walk_at "go"
          intro t2 f2
          walk_at "go"
          have ea2 := (Kp.new (M := []) (o := .tup [V.ty "list", V.ty "tuple"]) f2) _ _ nil_mem ea
          have kB := kA.trans (KpS.new (o := .tup [V.ty "list", V.ty "tuple"]) f2)
          refine x_append upd_same (by simp at hlx ⊢; omega) ?_
          walk_at "go"
          exact q _ ((kB.trans (KpS.put List.mem_cons_self ea2)).trans (KpS.put List.mem_cons_self upd_same))
        | @lst b ys es' g' hb _ _ =>
          have hb1 := kk _ _ nil_mem hb
          obtain ⟨zs, eb⟩ := kS.lst _ _ hb1
          walk_at "go"
          refine x_ixL (SqL.of ea) (at_of (j := 0) rfl rfl) ?_
          walk_at "go"
          intro t2 f2
          have ea2 := (Kp.new (M := []) (o := .tup [V.ty "list", V.ty "tuple"]) f2) _ _ nil_mem ea
          have eb2 := (Kp.new (M := []) (o := .tup [V.ty "list", V.ty "tuple"]) f2) _ _ nil_mem eb
          have kB := kA.trans (KpS.new (o := .tup [V.ty "list", V.ty "tuple"]) f2)
          walk_at "go"
          refine x_append ea2 (by simp at hlx ⊢; omega) ?_
          walk_at "go"
          exact q _ (kB.trans (KpS.put List.mem_cons_self ea2))
        | @tup b ys es' g' hb _ _ =>
          have hb1 := kk _ _ nil_mem hb
          have eb := kS.tup _ _ hb1
          walk_at "go"
          refine x_ixL (SqL.of ea) (at_of (j := 0) rfl rfl) ?_
          walk_at "go"
          intro t2 f2
          have ea2 := (Kp.new (M := []) (o := .tup [V.ty "list", V.ty "tuple"]) f2) _ _ nil_mem ea
          have eb2 := (Kp.new (M := []) (o := .tup [V.ty "list", V.ty "tuple"]) f2) _ _ nil_mem eb
          have kB := kA.trans (KpS.new (o := .tup [V.ty "list", V.ty "tuple"]) f2)
          walk_at "go"
          refine x_append ea2 (by simp at hlx ⊢; omega) ?_
          walk_at "go"
          exact q _ (kB.trans (KpS.put List.mem_cons_self ea2))
  | @tup a xs ds gs hx hA ha =>
    have hn' : depAll ds < n := hn
    have hw' : max ds.length (widAll ds) < 90000 := hw
    have hlen := hA.len
    walk_at "go"
    intro tt ftt
    walk_at "go"
    have hx1 : upd H tt (.tup [.ty "list", .ty "tuple"]) a = some (.tup xs) := at_upd (ne_new ftt hx) hx
    refine x_listT (SqT.of hx1) fun l fl => ?_
    obtain ⟨fl1, fl2⟩ := free_upd fl
    have lng : l ∉ gs := fun hb => by
      obtain ⟨o, e⟩ := hA.ex l hb
      rw [fl1] at e
      cases e
    have kk : Kp [] H (upd (upd H tt (.tup [.ty "list", .ty "tuple"])) l (.lst xs)) := (Kp.new ftt).trans (Kp.new fl)
    have ks : KpS gs H (upd (upd H tt (.tup [.ty "list", .ty "tuple"])) l (.lst xs)) := (KpS.new ftt).trans (KpS.new fl)
    have e2 : upd (upd H tt (.tup [.ty "list", .ty "tuple"])) l (.lst xs) l = some (.lst xs) := upd_same
    walk_at "go"
    generalize upd (upd H tt (.tup [.ty "list", .ty "tuple"])) l (.lst xs) = H2 at *
    refine l_list (SqL.of e2) (fun i s' H' => KpS gs H2 H' ∧ (∃ es gs', FpAll H' (xs.drop i) es gs' ∧ (∀ e ∈ es, e ∈ ds) ∧ (∀ b ∈ gs', b ∈ gs)) ∧ ∃ z1, s' = [some (.ref a), z1]) ⟨KpS.refl, ⟨ds, gs, hA.kp kk (fun _ _ => nil_mem), fun _ z => z, fun _ z => z⟩, _, rfl⟩ (fun i s' H' _ m => SqL.of (m.1.kp _ _ lng e2)) ?_ ?_
    · rintro i x s' H' hi ⟨kS, ⟨es, gs', hF, he, hg⟩, z1, rfl⟩
      obtain ⟨d, es', f, g, rfl, rfl, hv, ht, hd⟩ := hF.drop hi
      have hw1 := wid_mem (he d List.mem_cons_self)
      walk_at "go"
      refine hs (depAll ds) _ _ _ _ hn' (go_spoil hv hw1.2 (by omega) fun H3 k3 => ?_)
      walk_at "go"
      exact ⟨kS.trans (k3.mono fun b z => hg b (List.mem_append_left _ z)), ⟨es', g, ht.kp k3.kp (fun b z w => hd b w z), fun e z => he e (List.mem_cons_of_mem _ z), fun b z => hg b (List.mem_append_right _ z)⟩, _, rfl⟩
    · rintro s' H' ⟨kS, _, z1, rfl⟩
      have ea : H' a = some (.tup xs) := kS.tup _ _ (kk _ _ nil_mem hx)
      have kA : KpS (a :: gs) H H' := (ks.trans kS).mono fun b z => List.mem_cons_of_mem _ z
      walk_at "go"
      exact q _ kA
  | non =>
    walk_at "go"
    intro tt ftt
    walk_at "go"
    exact q _ (KpS.new ftt)
  | bl b =>
    walk_at "go"
    intro tt ftt
    walk_at "go"
    exact q _ (KpS.new ftt)
  | int b =>
    walk_at "go"
    intro tt ftt
    walk_at "go"
    exact q _ (KpS.new ftt)
  | str b =>
    walk_at "go"
    intro tt ftt
    walk_at "go"
    exact q _ (KpS.new ftt)
theorem ok_law_spoil (h : DefAt K mg "_law_spoil" ["thing"] s_law_spoil) (g_isinstance : mg "isinstance" = none) (g_list : mg "list" = none) (g_tuple : mg "tuple" = none) (g_len : mg "len" = none) : ∀ n, Okk P w K mg base CX0 (n + 1) "_law_spoil" ["thing"] (spSpoil n)
  | 0 => ok_law_spoil_step (k := 0) h g_isinstance g_list g_tuple g_len h.never fun _ _ _ _ _ z => absurd z (Nat.not_lt_zero _)
  | n + 1 => ok_law_spoil_step h g_isinstance g_list g_tuple g_len (ok_law_spoil h g_isinstance g_list g_tuple g_len n) fun m vs H Q E hm z => by
    obtain ⟨x, d, fs, h1, h2, h3, h4, h5⟩ := z
    exact ⟨x, d, fs, h1, h2, by omega, h4, h5⟩
abbrev s_law_alone : Stmt := topS 70
theorem sc_law_alone : FnScope ["e", "found"] ["e"] (defScope s_law_alone) := ⟨rfl, rfl, rfl, by decide +kernel, rfl, by decide +kernel, by decide +kernel⟩
--DEF _law_alone
theorem DictAt.new {H : Hp} {d : Option Addr} {p : Addr} {o : HO} (h : DictAt H d) (f : H p = Option.none) : DictAt (upd H p o) d := h.kp (Kp.new f)
theorem x_isiD1 {D a C : Addr} {d : Option Addr} {H : Hp} {Q : VK} {b : Bool} (hk : PySem.W.kitOne K (.ref D) (.ref C) = some b) (hd : DictAt H d) (q : Q (.bl b) H) : rIsiD K D a d [.ref a, .ref C] H Q := ⟨_, _, b, rfl, .own C, hk, hd, q⟩
theorem x_isiD2 {D a : Addr} {d : Option Addr} {H : Hp} {Q : VK} {n : String} {b : Bool} (hk : PySem.W.kitOne K (.ref D) (.type n) = some b) (hd : DictAt H d) (q : Q (.bl b) H) : rIsiD K D a d [.ref a, .ty n] H Q := ⟨_, _, b, rfl, .ty n, hk, hd, q⟩
theorem x_catG {a b : Addr} {xs ys : List V} {H : Hp} {Q : VK} (h : H a = some (.lst xs)) (h' : H b = some (.lst ys)) (l : xs.length + ys.length ≤ 100000) (q : ∀ p H', Kp [] H H' → H' p = some (.lst (xs ++ ys)) → Q (.ref p) H') : rCat (.ref a) (.ref b) H Q := x_cat h h' l fun p hp => q p _ (Kp.new hp) upd_same
def spAlone (C : Addr) : Addr × Obj → Sp := fun p vs H Q _ => vs = [.ref p.1] ∧ ∃ d, ExAt K C d p.2 ∧ DictAt H d ∧ ∀ H', Kp [] H H' → Q (.bl true) H'
set_option maxHeartbeats 8000000 in
theorem ok_law_alone {C : Addr} (h : DefAt K mg "_law_alone" ["e"] s_law_alone) (g_isinstance : mg "isinstance" = none) (g_ValueError : mg "ValueError" = none) {C_BadWord C_TooMany C_Empty C_BadLine C_BadRanking C_BadShare C_Doubled C_Unknown C_Unequal C_BadPlace C_BadRange C_TiedRanks C_BadChooser C_Fallen C_Over C_BadStages C_BadSet C_BadWeaving C_TooMuch C_BadTable C_BadSize C_BadOrder C_Unfinished C_BadStrike C_BadSum C_NoBlock C_BadSpan C_OutOfRank C_NotLast C_NoPairing C_BadBargain C_NoBottom C_NotNear C_NotObtainable C_LastName C_Different C_Shared C_Clash C_BadStamp C_BadDeed C_NoPost C_NoDeed C_StampTaken C_OfficeError : Addr} (g_BadWord : mg "BadWord" = some (.ref C_BadWord)) (g_TooMany : mg "TooMany" = some (.ref C_TooMany)) (g_Empty : mg "Empty" = some (.ref C_Empty)) (g_BadLine : mg "BadLine" = some (.ref C_BadLine)) (g_BadRanking : mg "BadRanking" = some (.ref C_BadRanking)) (g_BadShare : mg "BadShare" = some (.ref C_BadShare)) (g_Doubled : mg "Doubled" = some (.ref C_Doubled)) (g_Unknown : mg "Unknown" = some (.ref C_Unknown)) (g_Unequal : mg "Unequal" = some (.ref C_Unequal)) (g_BadPlace : mg "BadPlace" = some (.ref C_BadPlace)) (g_BadRange : mg "BadRange" = some (.ref C_BadRange)) (g_TiedRanks : mg "TiedRanks" = some (.ref C_TiedRanks)) (g_BadChooser : mg "BadChooser" = some (.ref C_BadChooser)) (g_Fallen : mg "Fallen" = some (.ref C_Fallen)) (g_Over : mg "Over" = some (.ref C_Over)) (g_BadStages : mg "BadStages" = some (.ref C_BadStages)) (g_BadSet : mg "BadSet" = some (.ref C_BadSet)) (g_BadWeaving : mg "BadWeaving" = some (.ref C_BadWeaving)) (g_TooMuch : mg "TooMuch" = some (.ref C_TooMuch)) (g_BadTable : mg "BadTable" = some (.ref C_BadTable)) (g_BadSize : mg "BadSize" = some (.ref C_BadSize)) (g_BadOrder : mg "BadOrder" = some (.ref C_BadOrder)) (g_Unfinished : mg "Unfinished" = some (.ref C_Unfinished)) (g_BadStrike : mg "BadStrike" = some (.ref C_BadStrike)) (g_BadSum : mg "BadSum" = some (.ref C_BadSum)) (g_NoBlock : mg "NoBlock" = some (.ref C_NoBlock)) (g_BadSpan : mg "BadSpan" = some (.ref C_BadSpan)) (g_OutOfRank : mg "OutOfRank" = some (.ref C_OutOfRank)) (g_NotLast : mg "NotLast" = some (.ref C_NotLast)) (g_NoPairing : mg "NoPairing" = some (.ref C_NoPairing)) (g_BadBargain : mg "BadBargain" = some (.ref C_BadBargain)) (g_NoBottom : mg "NoBottom" = some (.ref C_NoBottom)) (g_NotNear : mg "NotNear" = some (.ref C_NotNear)) (g_NotObtainable : mg "NotObtainable" = some (.ref C_NotObtainable)) (g_LastName : mg "LastName" = some (.ref C_LastName)) (g_Different : mg "Different" = some (.ref C_Different)) (g_Shared : mg "Shared" = some (.ref C_Shared)) (g_Clash : mg "Clash" = some (.ref C_Clash)) (g_BadStamp : mg "BadStamp" = some (.ref C_BadStamp)) (g_BadDeed : mg "BadDeed" = some (.ref C_BadDeed)) (g_NoPost : mg "NoPost" = some (.ref C_NoPost)) (g_NoDeed : mg "NoDeed" = some (.ref C_NoDeed)) (g_StampTaken : mg "StampTaken" = some (.ref C_StampTaken)) (g_OfficeError : mg "OfficeError" = some (.ref C_OfficeError)) (XC : ExcC K C) {b_BadLine b_Empty b_TooMany b_BadWord b_OfficeError b_Doubled b_BadShare b_BadRanking b_BadRange b_BadPlace b_Unequal b_Unknown b_Over b_Fallen b_BadChooser b_TiedRanks b_BadWeaving b_BadSet b_BadStages b_BadOrder b_BadSize b_BadTable b_TooMuch b_BadSum b_BadStrike b_Unfinished b_OutOfRank b_BadSpan b_NoBlock b_BadBargain b_NoPairing b_NotLast b_NotObtainable b_NotNear b_NoBottom b_Clash b_Shared b_Different b_LastName b_NoPost b_BadDeed b_BadStamp b_StampTaken b_NoDeed : Bool} (k_BadLine : PySem.W.kitOne K (.ref C) (.ref C_BadLine) = some b_BadLine) (k_Empty : PySem.W.kitOne K (.ref C) (.ref C_Empty) = some b_Empty) (k_TooMany : PySem.W.kitOne K (.ref C) (.ref C_TooMany) = some b_TooMany) (k_BadWord : PySem.W.kitOne K (.ref C) (.ref C_BadWord) = some b_BadWord) (k_OfficeError : PySem.W.kitOne K (.ref C) (.ref C_OfficeError) = some b_OfficeError) (k_Doubled : PySem.W.kitOne K (.ref C) (.ref C_Doubled) = some b_Doubled) (k_BadShare : PySem.W.kitOne K (.ref C) (.ref C_BadShare) = some b_BadShare) (k_BadRanking : PySem.W.kitOne K (.ref C) (.ref C_BadRanking) = some b_BadRanking) (k_BadRange : PySem.W.kitOne K (.ref C) (.ref C_BadRange) = some b_BadRange) (k_BadPlace : PySem.W.kitOne K (.ref C) (.ref C_BadPlace) = some b_BadPlace) (k_Unequal : PySem.W.kitOne K (.ref C) (.ref C_Unequal) = some b_Unequal) (k_Unknown : PySem.W.kitOne K (.ref C) (.ref C_Unknown) = some b_Unknown) (k_Over : PySem.W.kitOne K (.ref C) (.ref C_Over) = some b_Over) (k_Fallen : PySem.W.kitOne K (.ref C) (.ref C_Fallen) = some b_Fallen) (k_BadChooser : PySem.W.kitOne K (.ref C) (.ref C_BadChooser) = some b_BadChooser) (k_TiedRanks : PySem.W.kitOne K (.ref C) (.ref C_TiedRanks) = some b_TiedRanks) (k_BadWeaving : PySem.W.kitOne K (.ref C) (.ref C_BadWeaving) = some b_BadWeaving) (k_BadSet : PySem.W.kitOne K (.ref C) (.ref C_BadSet) = some b_BadSet) (k_BadStages : PySem.W.kitOne K (.ref C) (.ref C_BadStages) = some b_BadStages) (k_BadOrder : PySem.W.kitOne K (.ref C) (.ref C_BadOrder) = some b_BadOrder) (k_BadSize : PySem.W.kitOne K (.ref C) (.ref C_BadSize) = some b_BadSize) (k_BadTable : PySem.W.kitOne K (.ref C) (.ref C_BadTable) = some b_BadTable) (k_TooMuch : PySem.W.kitOne K (.ref C) (.ref C_TooMuch) = some b_TooMuch) (k_BadSum : PySem.W.kitOne K (.ref C) (.ref C_BadSum) = some b_BadSum) (k_BadStrike : PySem.W.kitOne K (.ref C) (.ref C_BadStrike) = some b_BadStrike) (k_Unfinished : PySem.W.kitOne K (.ref C) (.ref C_Unfinished) = some b_Unfinished) (k_OutOfRank : PySem.W.kitOne K (.ref C) (.ref C_OutOfRank) = some b_OutOfRank) (k_BadSpan : PySem.W.kitOne K (.ref C) (.ref C_BadSpan) = some b_BadSpan) (k_NoBlock : PySem.W.kitOne K (.ref C) (.ref C_NoBlock) = some b_NoBlock) (k_BadBargain : PySem.W.kitOne K (.ref C) (.ref C_BadBargain) = some b_BadBargain) (k_NoPairing : PySem.W.kitOne K (.ref C) (.ref C_NoPairing) = some b_NoPairing) (k_NotLast : PySem.W.kitOne K (.ref C) (.ref C_NotLast) = some b_NotLast) (k_NotObtainable : PySem.W.kitOne K (.ref C) (.ref C_NotObtainable) = some b_NotObtainable) (k_NotNear : PySem.W.kitOne K (.ref C) (.ref C_NotNear) = some b_NotNear) (k_NoBottom : PySem.W.kitOne K (.ref C) (.ref C_NoBottom) = some b_NoBottom) (k_Clash : PySem.W.kitOne K (.ref C) (.ref C_Clash) = some b_Clash) (k_Shared : PySem.W.kitOne K (.ref C) (.ref C_Shared) = some b_Shared) (k_Different : PySem.W.kitOne K (.ref C) (.ref C_Different) = some b_Different) (k_LastName : PySem.W.kitOne K (.ref C) (.ref C_LastName) = some b_LastName) (k_NoPost : PySem.W.kitOne K (.ref C) (.ref C_NoPost) = some b_NoPost) (k_BadDeed : PySem.W.kitOne K (.ref C) (.ref C_BadDeed) = some b_BadDeed) (k_BadStamp : PySem.W.kitOne K (.ref C) (.ref C_BadStamp) = some b_BadStamp) (k_StampTaken : PySem.W.kitOne K (.ref C) (.ref C_StampTaken) = some b_StampTaken) (k_NoDeed : PySem.W.kitOne K (.ref C) (.ref C_NoDeed) = some b_NoDeed)
    (hc : ([b_BadLine, b_Empty, b_TooMany, b_BadWord, b_Doubled, b_BadShare, b_BadRanking, b_BadRange, b_BadPlace, b_Unequal, b_Unknown, b_Over, b_Fallen, b_BadChooser, b_TiedRanks, b_BadWeaving, b_BadSet, b_BadStages, b_BadOrder, b_BadSize, b_BadTable, b_TooMuch, b_BadSum, b_BadStrike, b_Unfinished, b_OutOfRank, b_BadSpan, b_NoBlock, b_BadBargain, b_NoPairing, b_NotLast, b_NotObtainable, b_NotNear, b_NoBottom, b_Clash, b_Shared, b_Different, b_LastName, b_NoPost, b_BadDeed, b_BadStamp, b_StampTaken, b_NoDeed]).count true = 1) (ho : b_OfficeError = true) (kv : PySem.W.kitOne K (.ref C) (.type "ValueError") = some true) :
    OkE P w K mg base (k + 1) "_law_alone" ["e"] (spAlone (K := K) C) := by
  refine h.okE sc_law_alone ?_ ?_
  · rintro p vs H Q E ⟨rfl, _⟩; rfl
  rintro cdv f A outer s H vs Q ⟨a, oe⟩ hr ⟨rfl, d, hE, hD, q⟩
  have kE : KitE K C a oe d := kitE_of XC hE
  subst ho
  refine ⟨_, (pss_cons (ps_set (i := 1) sc_law_alone.nd rfl (Or.inl rfl) (pe_lst (pa_cons (pe_callB (call_isiD (a := a) (oe := oe) List.mem_cons_self kE) (by rfl) g_isinstance (by decide +kernel) (pa_cons (pv 0) (pa_cons (pe_glob (v := .ref C_BadLine) rfl g_BadLine rfl) pa_nil))) (pa_cons (pe_callB (call_isiD (a := a) (oe := oe) List.mem_cons_self kE) (by rfl) g_isinstance (by decide +kernel) (pa_cons (pv 0) (pa_cons (pe_glob (v := .ref C_Empty) rfl g_Empty rfl) pa_nil))) (pa_cons (pe_callB (call_isiD (a := a) (oe := oe) List.mem_cons_self kE) (by rfl) g_isinstance (by decide +kernel) (pa_cons (pv 0) (pa_cons (pe_glob (v := .ref C_TooMany) rfl g_TooMany rfl) pa_nil))) (pa_cons (pe_callB (call_isiD (a := a) (oe := oe) List.mem_cons_self kE) (by rfl) g_isinstance (by decide +kernel) (pa_cons (pv 0) (pa_cons (pe_glob (v := .ref C_BadWord) rfl g_BadWord rfl) pa_nil))) pa_nil))))))
      (pss_cons (ps_set (i := 1) sc_law_alone.nd rfl (Or.inl rfl) (pe_op op_cat (pv 1) (pe_lst (pa_cons (pe_callB (call_isiD (a := a) (oe := oe) List.mem_cons_self kE) (by rfl) g_isinstance (by decide +kernel) (pa_cons (pv 0) (pa_cons (pe_glob (v := .ref C_Doubled) rfl g_Doubled rfl) pa_nil))) (pa_cons (pe_callB (call_isiD (a := a) (oe := oe) List.mem_cons_self kE) (by rfl) g_isinstance (by decide +kernel) (pa_cons (pv 0) (pa_cons (pe_glob (v := .ref C_BadShare) rfl g_BadShare rfl) pa_nil))) (pa_cons (pe_callB (call_isiD (a := a) (oe := oe) List.mem_cons_self kE) (by rfl) g_isinstance (by decide +kernel) (pa_cons (pv 0) (pa_cons (pe_glob (v := .ref C_BadRanking) rfl g_BadRanking rfl) pa_nil))) pa_nil))))))
      (pss_cons (ps_set (i := 1) sc_law_alone.nd rfl (Or.inl rfl) (pe_op op_cat (pv 1) (pe_lst (pa_cons (pe_callB (call_isiD (a := a) (oe := oe) List.mem_cons_self kE) (by rfl) g_isinstance (by decide +kernel) (pa_cons (pv 0) (pa_cons (pe_glob (v := .ref C_BadRange) rfl g_BadRange rfl) pa_nil))) (pa_cons (pe_callB (call_isiD (a := a) (oe := oe) List.mem_cons_self kE) (by rfl) g_isinstance (by decide +kernel) (pa_cons (pv 0) (pa_cons (pe_glob (v := .ref C_BadPlace) rfl g_BadPlace rfl) pa_nil))) (pa_cons (pe_callB (call_isiD (a := a) (oe := oe) List.mem_cons_self kE) (by rfl) g_isinstance (by decide +kernel) (pa_cons (pv 0) (pa_cons (pe_glob (v := .ref C_Unequal) rfl g_Unequal rfl) pa_nil))) (pa_cons (pe_callB (call_isiD (a := a) (oe := oe) List.mem_cons_self kE) (by rfl) g_isinstance (by decide +kernel) (pa_cons (pv 0) (pa_cons (pe_glob (v := .ref C_Unknown) rfl g_Unknown rfl) pa_nil))) pa_nil)))))))
      (pss_cons (ps_set (i := 1) sc_law_alone.nd rfl (Or.inl rfl) (pe_op op_cat (pv 1) (pe_lst (pa_cons (pe_callB (call_isiD (a := a) (oe := oe) List.mem_cons_self kE) (by rfl) g_isinstance (by decide +kernel) (pa_cons (pv 0) (pa_cons (pe_glob (v := .ref C_Over) rfl g_Over rfl) pa_nil))) (pa_cons (pe_callB (call_isiD (a := a) (oe := oe) List.mem_cons_self kE) (by rfl) g_isinstance (by decide +kernel) (pa_cons (pv 0) (pa_cons (pe_glob (v := .ref C_Fallen) rfl g_Fallen rfl) pa_nil))) (pa_cons (pe_callB (call_isiD (a := a) (oe := oe) List.mem_cons_self kE) (by rfl) g_isinstance (by decide +kernel) (pa_cons (pv 0) (pa_cons (pe_glob (v := .ref C_BadChooser) rfl g_BadChooser rfl) pa_nil))) (pa_cons (pe_callB (call_isiD (a := a) (oe := oe) List.mem_cons_self kE) (by rfl) g_isinstance (by decide +kernel) (pa_cons (pv 0) (pa_cons (pe_glob (v := .ref C_TiedRanks) rfl g_TiedRanks rfl) pa_nil))) pa_nil)))))))
      (pss_cons (ps_set (i := 1) sc_law_alone.nd rfl (Or.inl rfl) (pe_op op_cat (pv 1) (pe_lst (pa_cons (pe_callB (call_isiD (a := a) (oe := oe) List.mem_cons_self kE) (by rfl) g_isinstance (by decide +kernel) (pa_cons (pv 0) (pa_cons (pe_glob (v := .ref C_BadWeaving) rfl g_BadWeaving rfl) pa_nil))) (pa_cons (pe_callB (call_isiD (a := a) (oe := oe) List.mem_cons_self kE) (by rfl) g_isinstance (by decide +kernel) (pa_cons (pv 0) (pa_cons (pe_glob (v := .ref C_BadSet) rfl g_BadSet rfl) pa_nil))) (pa_cons (pe_callB (call_isiD (a := a) (oe := oe) List.mem_cons_self kE) (by rfl) g_isinstance (by decide +kernel) (pa_cons (pv 0) (pa_cons (pe_glob (v := .ref C_BadStages) rfl g_BadStages rfl) pa_nil))) pa_nil))))))
      (pss_cons (ps_set (i := 1) sc_law_alone.nd rfl (Or.inl rfl) (pe_op op_cat (pv 1) (pe_lst (pa_cons (pe_callB (call_isiD (a := a) (oe := oe) List.mem_cons_self kE) (by rfl) g_isinstance (by decide +kernel) (pa_cons (pv 0) (pa_cons (pe_glob (v := .ref C_BadOrder) rfl g_BadOrder rfl) pa_nil))) (pa_cons (pe_callB (call_isiD (a := a) (oe := oe) List.mem_cons_self kE) (by rfl) g_isinstance (by decide +kernel) (pa_cons (pv 0) (pa_cons (pe_glob (v := .ref C_BadSize) rfl g_BadSize rfl) pa_nil))) (pa_cons (pe_callB (call_isiD (a := a) (oe := oe) List.mem_cons_self kE) (by rfl) g_isinstance (by decide +kernel) (pa_cons (pv 0) (pa_cons (pe_glob (v := .ref C_BadTable) rfl g_BadTable rfl) pa_nil))) (pa_cons (pe_callB (call_isiD (a := a) (oe := oe) List.mem_cons_self kE) (by rfl) g_isinstance (by decide +kernel) (pa_cons (pv 0) (pa_cons (pe_glob (v := .ref C_TooMuch) rfl g_TooMuch rfl) pa_nil))) pa_nil)))))))
      (pss_cons (ps_set (i := 1) sc_law_alone.nd rfl (Or.inl rfl) (pe_op op_cat (pv 1) (pe_lst (pa_cons (pe_callB (call_isiD (a := a) (oe := oe) List.mem_cons_self kE) (by rfl) g_isinstance (by decide +kernel) (pa_cons (pv 0) (pa_cons (pe_glob (v := .ref C_BadSum) rfl g_BadSum rfl) pa_nil))) (pa_cons (pe_callB (call_isiD (a := a) (oe := oe) List.mem_cons_self kE) (by rfl) g_isinstance (by decide +kernel) (pa_cons (pv 0) (pa_cons (pe_glob (v := .ref C_BadStrike) rfl g_BadStrike rfl) pa_nil))) (pa_cons (pe_callB (call_isiD (a := a) (oe := oe) List.mem_cons_self kE) (by rfl) g_isinstance (by decide +kernel) (pa_cons (pv 0) (pa_cons (pe_glob (v := .ref C_Unfinished) rfl g_Unfinished rfl) pa_nil))) pa_nil))))))
      (pss_cons (ps_set (i := 1) sc_law_alone.nd rfl (Or.inl rfl) (pe_op op_cat (pv 1) (pe_lst (pa_cons (pe_callB (call_isiD (a := a) (oe := oe) List.mem_cons_self kE) (by rfl) g_isinstance (by decide +kernel) (pa_cons (pv 0) (pa_cons (pe_glob (v := .ref C_OutOfRank) rfl g_OutOfRank rfl) pa_nil))) (pa_cons (pe_callB (call_isiD (a := a) (oe := oe) List.mem_cons_self kE) (by rfl) g_isinstance (by decide +kernel) (pa_cons (pv 0) (pa_cons (pe_glob (v := .ref C_BadSpan) rfl g_BadSpan rfl) pa_nil))) (pa_cons (pe_callB (call_isiD (a := a) (oe := oe) List.mem_cons_self kE) (by rfl) g_isinstance (by decide +kernel) (pa_cons (pv 0) (pa_cons (pe_glob (v := .ref C_NoBlock) rfl g_NoBlock rfl) pa_nil))) pa_nil))))))
      (pss_cons (ps_set (i := 1) sc_law_alone.nd rfl (Or.inl rfl) (pe_op op_cat (pv 1) (pe_lst (pa_cons (pe_callB (call_isiD (a := a) (oe := oe) List.mem_cons_self kE) (by rfl) g_isinstance (by decide +kernel) (pa_cons (pv 0) (pa_cons (pe_glob (v := .ref C_BadBargain) rfl g_BadBargain rfl) pa_nil))) (pa_cons (pe_callB (call_isiD (a := a) (oe := oe) List.mem_cons_self kE) (by rfl) g_isinstance (by decide +kernel) (pa_cons (pv 0) (pa_cons (pe_glob (v := .ref C_NoPairing) rfl g_NoPairing rfl) pa_nil))) (pa_cons (pe_callB (call_isiD (a := a) (oe := oe) List.mem_cons_self kE) (by rfl) g_isinstance (by decide +kernel) (pa_cons (pv 0) (pa_cons (pe_glob (v := .ref C_NotLast) rfl g_NotLast rfl) pa_nil))) pa_nil))))))
      (pss_cons (ps_set (i := 1) sc_law_alone.nd rfl (Or.inl rfl) (pe_op op_cat (pv 1) (pe_lst (pa_cons (pe_callB (call_isiD (a := a) (oe := oe) List.mem_cons_self kE) (by rfl) g_isinstance (by decide +kernel) (pa_cons (pv 0) (pa_cons (pe_glob (v := .ref C_NotObtainable) rfl g_NotObtainable rfl) pa_nil))) (pa_cons (pe_callB (call_isiD (a := a) (oe := oe) List.mem_cons_self kE) (by rfl) g_isinstance (by decide +kernel) (pa_cons (pv 0) (pa_cons (pe_glob (v := .ref C_NotNear) rfl g_NotNear rfl) pa_nil))) (pa_cons (pe_callB (call_isiD (a := a) (oe := oe) List.mem_cons_self kE) (by rfl) g_isinstance (by decide +kernel) (pa_cons (pv 0) (pa_cons (pe_glob (v := .ref C_NoBottom) rfl g_NoBottom rfl) pa_nil))) pa_nil))))))
      (pss_cons (ps_set (i := 1) sc_law_alone.nd rfl (Or.inl rfl) (pe_op op_cat (pv 1) (pe_lst (pa_cons (pe_callB (call_isiD (a := a) (oe := oe) List.mem_cons_self kE) (by rfl) g_isinstance (by decide +kernel) (pa_cons (pv 0) (pa_cons (pe_glob (v := .ref C_Clash) rfl g_Clash rfl) pa_nil))) (pa_cons (pe_callB (call_isiD (a := a) (oe := oe) List.mem_cons_self kE) (by rfl) g_isinstance (by decide +kernel) (pa_cons (pv 0) (pa_cons (pe_glob (v := .ref C_Shared) rfl g_Shared rfl) pa_nil))) (pa_cons (pe_callB (call_isiD (a := a) (oe := oe) List.mem_cons_self kE) (by rfl) g_isinstance (by decide +kernel) (pa_cons (pv 0) (pa_cons (pe_glob (v := .ref C_Different) rfl g_Different rfl) pa_nil))) (pa_cons (pe_callB (call_isiD (a := a) (oe := oe) List.mem_cons_self kE) (by rfl) g_isinstance (by decide +kernel) (pa_cons (pv 0) (pa_cons (pe_glob (v := .ref C_LastName) rfl g_LastName rfl) pa_nil))) pa_nil)))))))
      (pss_cons (ps_set (i := 1) sc_law_alone.nd rfl (Or.inl rfl) (pe_op op_cat (pv 1) (pe_lst (pa_cons (pe_callB (call_isiD (a := a) (oe := oe) List.mem_cons_self kE) (by rfl) g_isinstance (by decide +kernel) (pa_cons (pv 0) (pa_cons (pe_glob (v := .ref C_NoPost) rfl g_NoPost rfl) pa_nil))) (pa_cons (pe_callB (call_isiD (a := a) (oe := oe) List.mem_cons_self kE) (by rfl) g_isinstance (by decide +kernel) (pa_cons (pv 0) (pa_cons (pe_glob (v := .ref C_BadDeed) rfl g_BadDeed rfl) pa_nil))) (pa_cons (pe_callB (call_isiD (a := a) (oe := oe) List.mem_cons_self kE) (by rfl) g_isinstance (by decide +kernel) (pa_cons (pv 0) (pa_cons (pe_glob (v := .ref C_BadStamp) rfl g_BadStamp rfl) pa_nil))) pa_nil))))))
      (pss_cons (ps_set (i := 1) sc_law_alone.nd rfl (Or.inl rfl) (pe_op op_cat (pv 1) (pe_lst (pa_cons (pe_callB (call_isiD (a := a) (oe := oe) List.mem_cons_self kE) (by rfl) g_isinstance (by decide +kernel) (pa_cons (pv 0) (pa_cons (pe_glob (v := .ref C_StampTaken) rfl g_StampTaken rfl) pa_nil))) (pa_cons (pe_callB (call_isiD (a := a) (oe := oe) List.mem_cons_self kE) (by rfl) g_isinstance (by decide +kernel) (pa_cons (pv 0) (pa_cons (pe_glob (v := .ref C_NoDeed) rfl g_NoDeed rfl) pa_nil))) pa_nil)))))
      (pss_one (ps_ret (pe_and (pe_cmpR op_eq (pe_bm PySem.F.plainAttrs_list PySem.F.slot_list_count PySem.F.type_list_count mt_bcount (pv 1) (pa_cons pe_bl pa_nil)) pe_int (nomark _)) (pe_and (pe_callB (call_isiD (a := a) (oe := oe) List.mem_cons_self kE) (by rfl) g_isinstance (by decide +kernel) (pa_cons (pv 0) (pa_cons (pe_glob (v := .ref C_OfficeError) rfl g_OfficeError rfl) pa_nil))) (pe_one (pe_callB (call_isiD (a := a) (oe := oe) List.mem_cons_self kE) (by rfl) g_isinstance (by decide +kernel) (pa_cons (pv 0) (pa_cons (pe_bltn (v := .ty "ValueError") (by rfl) g_ValueError (by decide +kernel) rfl) pa_nil))))))))))))))))))))), ?_⟩
  walk_at "go"
  refine x_isiD1 k_BadLine hD ?_
  walk_at "go"
  refine x_isiD1 k_Empty hD ?_
  walk_at "go"
  refine x_isiD1 k_TooMany hD ?_
  walk_at "go"
  refine x_isiD1 k_BadWord hD ?_
  walk_at "go"
  intro l0 f0
  walk_at "go"
  have ka0 := Kp.new (M := []) (o := .lst [.bl b_BadLine, .bl b_Empty, .bl b_TooMany, .bl b_BadWord]) f0
  have hD0 := DictAt.new (o := .lst [.bl b_BadLine, .bl b_Empty, .bl b_TooMany, .bl b_BadWord]) hD f0
  have e0 := @upd_same H l0 (.lst [.bl b_BadLine, .bl b_Empty, .bl b_TooMany, .bl b_BadWord])
  generalize upd H l0 (.lst [.bl b_BadLine, .bl b_Empty, .bl b_TooMany, .bl b_BadWord]) = H0 at *
  refine x_isiD1 k_Doubled hD0 ?_
  walk_at "go"
  refine x_isiD1 k_BadShare hD0 ?_
  walk_at "go"
  refine x_isiD1 k_BadRanking hD0 ?_
  walk_at "go"
  intro l1 f1
  walk_at "go"
  refine x_catG (at_upd (ne_new f1 e0) e0) upd_same (by simp) fun p1 H1 kk1 e1 => ?_
  simp only [List.cons_append, List.nil_append] at e1
  have hD1 := (DictAt.new (o := .lst [.bl b_Doubled, .bl b_BadShare, .bl b_BadRanking]) hD0 f1).kp kk1
  have ka1 := (ka0.trans (Kp.new (o := .lst [.bl b_Doubled, .bl b_BadShare, .bl b_BadRanking]) f1)).trans kk1
  walk_at "go"
  refine x_isiD1 k_BadRange hD1 ?_
  walk_at "go"
  refine x_isiD1 k_BadPlace hD1 ?_
  walk_at "go"
  refine x_isiD1 k_Unequal hD1 ?_
  walk_at "go"
  refine x_isiD1 k_Unknown hD1 ?_
  walk_at "go"
  intro l2 f2
  walk_at "go"
  refine x_catG (at_upd (ne_new f2 e1) e1) upd_same (by simp) fun p2 H2 kk2 e2 => ?_
  simp only [List.cons_append, List.nil_append] at e2
  have hD2 := (DictAt.new (o := .lst [.bl b_BadRange, .bl b_BadPlace, .bl b_Unequal, .bl b_Unknown]) hD1 f2).kp kk2
  have ka2 := (ka1.trans (Kp.new (o := .lst [.bl b_BadRange, .bl b_BadPlace, .bl b_Unequal, .bl b_Unknown]) f2)).trans kk2
  walk_at "go"
  refine x_isiD1 k_Over hD2 ?_
  walk_at "go"
  refine x_isiD1 k_Fallen hD2 ?_
  walk_at "go"
  refine x_isiD1 k_BadChooser hD2 ?_
  walk_at "go"
  refine x_isiD1 k_TiedRanks hD2 ?_
  walk_at "go"
  intro l3 f3
  walk_at "go"
  refine x_catG (at_upd (ne_new f3 e2) e2) upd_same (by simp) fun p3 H3 kk3 e3 => ?_
  simp only [List.cons_append, List.nil_append] at e3
  have hD3 := (DictAt.new (o := .lst [.bl b_Over, .bl b_Fallen, .bl b_BadChooser, .bl b_TiedRanks]) hD2 f3).kp kk3
  have ka3 := (ka2.trans (Kp.new (o := .lst [.bl b_Over, .bl b_Fallen, .bl b_BadChooser, .bl b_TiedRanks]) f3)).trans kk3
  walk_at "go"
  refine x_isiD1 k_BadWeaving hD3 ?_
  walk_at "go"
  refine x_isiD1 k_BadSet hD3 ?_
  walk_at "go"
  refine x_isiD1 k_BadStages hD3 ?_
  walk_at "go"
  intro l4 f4
  walk_at "go"
  refine x_catG (at_upd (ne_new f4 e3) e3) upd_same (by simp) fun p4 H4 kk4 e4 => ?_
  simp only [List.cons_append, List.nil_append] at e4
  have hD4 := (DictAt.new (o := .lst [.bl b_BadWeaving, .bl b_BadSet, .bl b_BadStages]) hD3 f4).kp kk4
  have ka4 := (ka3.trans (Kp.new (o := .lst [.bl b_BadWeaving, .bl b_BadSet, .bl b_BadStages]) f4)).trans kk4
  walk_at "go"
  refine x_isiD1 k_BadOrder hD4 ?_
  walk_at "go"
  refine x_isiD1 k_BadSize hD4 ?_
  walk_at "go"
  refine x_isiD1 k_BadTable hD4 ?_
  walk_at "go"
  refine x_isiD1 k_TooMuch hD4 ?_
  walk_at "go"
  intro l5 f5
  walk_at "go"
  refine x_catG (at_upd (ne_new f5 e4) e4) upd_same (by simp) fun p5 H5 kk5 e5 => ?_
  simp only [List.cons_append, List.nil_append] at e5
  have hD5 := (DictAt.new (o := .lst [.bl b_BadOrder, .bl b_BadSize, .bl b_BadTable, .bl b_TooMuch]) hD4 f5).kp kk5
  have ka5 := (ka4.trans (Kp.new (o := .lst [.bl b_BadOrder, .bl b_BadSize, .bl b_BadTable, .bl b_TooMuch]) f5)).trans kk5
  walk_at "go"
  refine x_isiD1 k_BadSum hD5 ?_
  walk_at "go"
  refine x_isiD1 k_BadStrike hD5 ?_
  walk_at "go"
  refine x_isiD1 k_Unfinished hD5 ?_
  walk_at "go"
  intro l6 f6
  walk_at "go"
  refine x_catG (at_upd (ne_new f6 e5) e5) upd_same (by simp) fun p6 H6 kk6 e6 => ?_
  simp only [List.cons_append, List.nil_append] at e6
  have hD6 := (DictAt.new (o := .lst [.bl b_BadSum, .bl b_BadStrike, .bl b_Unfinished]) hD5 f6).kp kk6
  have ka6 := (ka5.trans (Kp.new (o := .lst [.bl b_BadSum, .bl b_BadStrike, .bl b_Unfinished]) f6)).trans kk6
  walk_at "go"
  refine x_isiD1 k_OutOfRank hD6 ?_
  walk_at "go"
  refine x_isiD1 k_BadSpan hD6 ?_
  walk_at "go"
  refine x_isiD1 k_NoBlock hD6 ?_
  walk_at "go"
  intro l7 f7
  walk_at "go"
  refine x_catG (at_upd (ne_new f7 e6) e6) upd_same (by simp) fun p7 H7 kk7 e7 => ?_
  simp only [List.cons_append, List.nil_append] at e7
  have hD7 := (DictAt.new (o := .lst [.bl b_OutOfRank, .bl b_BadSpan, .bl b_NoBlock]) hD6 f7).kp kk7
  have ka7 := (ka6.trans (Kp.new (o := .lst [.bl b_OutOfRank, .bl b_BadSpan, .bl b_NoBlock]) f7)).trans kk7
  walk_at "go"
  refine x_isiD1 k_BadBargain hD7 ?_
  walk_at "go"
  refine x_isiD1 k_NoPairing hD7 ?_
  walk_at "go"
  refine x_isiD1 k_NotLast hD7 ?_
  walk_at "go"
  intro l8 f8
  walk_at "go"
  refine x_catG (at_upd (ne_new f8 e7) e7) upd_same (by simp) fun p8 H8 kk8 e8 => ?_
  simp only [List.cons_append, List.nil_append] at e8
  have hD8 := (DictAt.new (o := .lst [.bl b_BadBargain, .bl b_NoPairing, .bl b_NotLast]) hD7 f8).kp kk8
  have ka8 := (ka7.trans (Kp.new (o := .lst [.bl b_BadBargain, .bl b_NoPairing, .bl b_NotLast]) f8)).trans kk8
  walk_at "go"
  refine x_isiD1 k_NotObtainable hD8 ?_
  walk_at "go"
  refine x_isiD1 k_NotNear hD8 ?_
  walk_at "go"
  refine x_isiD1 k_NoBottom hD8 ?_
  walk_at "go"
  intro l9 f9
  walk_at "go"
  refine x_catG (at_upd (ne_new f9 e8) e8) upd_same (by simp) fun p9 H9 kk9 e9 => ?_
  simp only [List.cons_append, List.nil_append] at e9
  have hD9 := (DictAt.new (o := .lst [.bl b_NotObtainable, .bl b_NotNear, .bl b_NoBottom]) hD8 f9).kp kk9
  have ka9 := (ka8.trans (Kp.new (o := .lst [.bl b_NotObtainable, .bl b_NotNear, .bl b_NoBottom]) f9)).trans kk9
  walk_at "go"
  refine x_isiD1 k_Clash hD9 ?_
  walk_at "go"
  refine x_isiD1 k_Shared hD9 ?_
  walk_at "go"
  refine x_isiD1 k_Different hD9 ?_
  walk_at "go"
  refine x_isiD1 k_LastName hD9 ?_
  walk_at "go"
  intro l10 f10
  walk_at "go"
  refine x_catG (at_upd (ne_new f10 e9) e9) upd_same (by simp) fun p10 H10 kk10 e10 => ?_
  simp only [List.cons_append, List.nil_append] at e10
  have hD10 := (DictAt.new (o := .lst [.bl b_Clash, .bl b_Shared, .bl b_Different, .bl b_LastName]) hD9 f10).kp kk10
  have ka10 := (ka9.trans (Kp.new (o := .lst [.bl b_Clash, .bl b_Shared, .bl b_Different, .bl b_LastName]) f10)).trans kk10
  walk_at "go"
  refine x_isiD1 k_NoPost hD10 ?_
  walk_at "go"
  refine x_isiD1 k_BadDeed hD10 ?_
  walk_at "go"
  refine x_isiD1 k_BadStamp hD10 ?_
  walk_at "go"
  intro l11 f11
  walk_at "go"
  refine x_catG (at_upd (ne_new f11 e10) e10) upd_same (by simp) fun p11 H11 kk11 e11 => ?_
  simp only [List.cons_append, List.nil_append] at e11
  have hD11 := (DictAt.new (o := .lst [.bl b_NoPost, .bl b_BadDeed, .bl b_BadStamp]) hD10 f11).kp kk11
  have ka11 := (ka10.trans (Kp.new (o := .lst [.bl b_NoPost, .bl b_BadDeed, .bl b_BadStamp]) f11)).trans kk11
  walk_at "go"
  refine x_isiD1 k_StampTaken hD11 ?_
  walk_at "go"
  refine x_isiD1 k_NoDeed hD11 ?_
  walk_at "go"
  intro l12 f12
  walk_at "go"
  refine x_catG (at_upd (ne_new f12 e11) e11) upd_same (by simp) fun p12 H12 kk12 e12 => ?_
  simp only [List.cons_append, List.nil_append] at e12
  have hD12 := (DictAt.new (o := .lst [.bl b_StampTaken, .bl b_NoDeed]) hD11 f12).kp kk12
  have ka12 := (ka11.trans (Kp.new (o := .lst [.bl b_StampTaken, .bl b_NoDeed]) f12)).trans kk12
  walk_at "go"
  refine ⟨p12, [b_BadLine, b_Empty, b_TooMany, b_BadWord, b_Doubled, b_BadShare, b_BadRanking, b_BadRange, b_BadPlace, b_Unequal, b_Unknown, b_Over, b_Fallen, b_BadChooser, b_TiedRanks, b_BadWeaving, b_BadSet, b_BadStages, b_BadOrder, b_BadSize, b_BadTable, b_TooMuch, b_BadSum, b_BadStrike, b_Unfinished, b_OutOfRank, b_BadSpan, b_NoBlock, b_BadBargain, b_NoPairing, b_NotLast, b_NotObtainable, b_NotNear, b_NoBottom, b_Clash, b_Shared, b_Different, b_LastName, b_NoPost, b_BadDeed, b_BadStamp, b_StampTaken, b_NoDeed], true, rfl, rfl, SqL.of e12, ?_⟩
  rw [hc]
  walk_at "go"
  refine x_isiD1 k_OfficeError hD12 ?_
  walk_at "go"
  refine x_isiD2 kv hD12 ?_
  walk_at "go"
  exact q H12 ka12
abbrev s_law_refused : Stmt := topS 71
theorem sc_law_refused : FnScope ["e"] ["e"] (defScope s_law_refused) := ⟨rfl, rfl, rfl, by decide +kernel, rfl, by decide +kernel, by decide +kernel⟩
--DEF _law_refused
theorem x_fld {a dd : Addr} {f : Str} {te : TE} {fs : List (Str × V)} {v : V} {σ : St} {H : Hp} {Q : VK} (q : te σ H fun x H1 => x = .ref a ∧ H1 dd = some (.xd fs) ∧ fs.lookup f = some v ∧ Q v H1) (mono : ∀ A B : VK, (∀ x H1, A x H1 → B x H1) → te σ H A → te σ H B) : tFld a (some dd) f te σ H Q :=
  mono _ _ (fun x H1 ⟨h1, h2, h3, h4⟩ => ⟨h1, dd, fs, v, rfl, h2, h3, h4⟩) q
theorem x_callE {sp : Addr × Obj → Sp} {p : Addr × Obj} {t : TA} {σ : St} {H : Hp} {Q : VK} (z : t σ H fun vs H1 => sp p vs H1 Q E0) : tCallE sp p t σ H Q := z
def spRef03 (C0 C1 : Addr) : Addr × Obj → Sp := fun p vs H Q _ => vs = [.ref p.1] ∧
  ((ExAt K C0 none p.2 ∧ ∀ r H', Kp [] H H' → H r = none → H' r = some (.tup [.str "Empty"]) → Q (.ref r) H') ∨
   ∃ dd v, ExAt K C1 (some dd) p.2 ∧ H dd = some (.xd [("at", v)]) ∧ ∀ r H', Kp [] H H' → H r = none → H' r = some (.tup [.str "BadShare", v]) → Q (.ref r) H')
theorem ok_law_refused (h : DefAt K mg "_law_refused" ["e"] s_law_refused) (g_isinstance : mg "isinstance" = none) {C_Empty C_BadShare : Addr} (g_Empty : mg "Empty" = some (.ref C_Empty)) (g_BadShare : mg "BadShare" = some (.ref C_BadShare)) (X0 : ExcC K C_Empty) (X1 : ExcC K C_BadShare) (n0 : PySem.W.findIn K (.ref C_Empty) "at" = some none) (n1 : PySem.W.findIn K (.ref C_BadShare) "at" = some none)
    (k00 : PySem.W.kitOne K (.ref C_Empty) (.ref C_Empty) = some true) (k10 : PySem.W.kitOne K (.ref C_BadShare) (.ref C_Empty) = some false) (k11 : PySem.W.kitOne K (.ref C_BadShare) (.ref C_BadShare) = some true)
    (A0 : OkE P w K mg base k "_law_alone" ["e"] (spAlone (K := K) C_Empty)) (A1 : OkE P w K mg base k "_law_alone" ["e"] (spAlone (K := K) C_BadShare)) :
    OkE P w K mg base (k + 1) "_law_refused" ["e"] (spRef03 (K := K) C_Empty C_BadShare) := by
  refine h.okE sc_law_refused ?_ ?_
  · rintro p vs H Q E ⟨rfl, _⟩; rfl
  rintro cdv f A outer s H vs Q ⟨a, oe⟩ hr ⟨rfl, ⟨hE, q⟩ | ⟨dd, v, hE, hd, q⟩⟩
  · have kE : KitE K C_Empty a oe none := kitE_of X0 hE
    have D_law_alone := A0
    have hC := X0
    have no_at := n0
    refine ⟨_, (pss_cons (ps_if (pt_not (pt_val (pe_ownE (p := (a, oe)) D_law_alone hr List.mem_cons_self (pa_cons (pv 0) pa_nil)))) (pss_one (ps_ret (pe_tup (pa_cons pe_str pa_nil)))) pss_nil)
      (pss_cons (ps_if (pt_val (pe_callB (call_isiD (a := a) (oe := oe) List.mem_cons_self kE) (by rfl) g_isinstance (by decide +kernel) (pa_cons (pv 0) (pa_cons (pe_glob (v := .ref C_Empty) rfl g_Empty rfl) pa_nil)))) (pss_one (ps_ret (pe_tup (pa_cons pe_str pa_nil)))) pss_nil)
      (pss_cons (ps_if (pt_val (pe_callB (call_isiD (a := a) (oe := oe) List.mem_cons_self kE) (by rfl) g_isinstance (by decide +kernel) (pa_cons (pv 0) (pa_cons (pe_glob (v := .ref C_BadShare) rfl g_BadShare rfl) pa_nil)))) (pss_one (ps_ret (pe_tup (pa_cons pe_str (pa_cons (pe_fld (a := a) (oe := oe) List.mem_cons_self hC no_at hE (pv 0)) pa_nil))))) pss_nil)
      (pss_one (ps_ret (pe_tup (pa_cons pe_str pa_nil))))))), ?_⟩
    walk_at "go"
    refine x_callE ?_
    walk_at "go"
    refine ⟨rfl, none, hE, DictAt.none, fun H1 k1 => ?_⟩
    walk_at "go"
    refine x_isiD1 k00 DictAt.none ?_
    walk_at "go"
    intro r hr
    exact q r _ (k1.trans (Kp.new hr)) (k1.free nil_mem hr) upd_same
  · have kE : KitE K C_BadShare a oe (some dd) := kitE_of X1 hE
    have D_law_alone := A1
    have hC := X1
    have no_at := n1
    have hD : DictAt H (some dd) := fun d e => by
      cases e
      exact ⟨_, hd⟩
    refine ⟨_, (pss_cons (ps_if (pt_not (pt_val (pe_ownE (p := (a, oe)) D_law_alone hr List.mem_cons_self (pa_cons (pv 0) pa_nil)))) (pss_one (ps_ret (pe_tup (pa_cons pe_str pa_nil)))) pss_nil)
      (pss_cons (ps_if (pt_val (pe_callB (call_isiD (a := a) (oe := oe) List.mem_cons_self kE) (by rfl) g_isinstance (by decide +kernel) (pa_cons (pv 0) (pa_cons (pe_glob (v := .ref C_Empty) rfl g_Empty rfl) pa_nil)))) (pss_one (ps_ret (pe_tup (pa_cons pe_str pa_nil)))) pss_nil)
      (pss_cons (ps_if (pt_val (pe_callB (call_isiD (a := a) (oe := oe) List.mem_cons_self kE) (by rfl) g_isinstance (by decide +kernel) (pa_cons (pv 0) (pa_cons (pe_glob (v := .ref C_BadShare) rfl g_BadShare rfl) pa_nil)))) (pss_one (ps_ret (pe_tup (pa_cons pe_str (pa_cons (pe_fld (a := a) (oe := oe) List.mem_cons_self hC no_at hE (pv 0)) pa_nil))))) pss_nil)
      (pss_one (ps_ret (pe_tup (pa_cons pe_str pa_nil))))))), ?_⟩
    walk_at "go"
    refine x_callE ?_
    walk_at "go"
    refine ⟨rfl, some dd, hE, hD, fun H1 k1 => ?_⟩
    have hd1 := k1 _ _ nil_mem hd
    have hD1 := hD.kp k1
    walk_at "go"
    refine x_isiD1 k10 hD1 ?_
    walk_at "go"
    refine x_isiD1 k11 hD1 ?_
    walk_at "go"
    refine x_fld (fs := [("at", v)]) (v := v) ?_ ?_
    · walk_at "go"
      refine ⟨rfl, hd1, rfl, ?_⟩
      walk_at "go"
      intro r hr
      exact q r _ (k1.trans (Kp.new hr)) (k1.free nil_mem hr) upd_same
    · rintro A B hAB ⟨x, e, z⟩
      exact ⟨x, e, hAB _ _ z⟩
mutual
theorem Fp.rr {H : Hp} : ∀ {v : V} {d : PyData} {fs : List Addr}, Fp H v d fs → Rr K H v d
  | _, _, _, .non => .non
  | _, _, _, .bl b => .bl b
  | _, _, _, .int i => .int i
  | _, _, _, .str x => .str x
  | _, _, _, .lst e r _ => .lst trivial (SqL.of e) (FpAll.rr r)
  | _, _, _, .tup e r _ => .tup trivial (SqT.of e) (FpAll.rr r)
theorem FpAll.rr {H : Hp} : ∀ {vs : List V} {ds : List PyData} {fs : List Addr}, FpAll H vs ds fs → RrAll K H vs ds
  | _, _, _, .nil => .nil
  | _, _, _, .cons r t _ => .cons (Fp.rr r) (FpAll.rr t)
end
theorem fp_ints {H : Hp} : ∀ ns : List Int, FpAll H (ns.map V.int) (ns.map PyData.int) []
  | [] => .nil
  | x :: l => FpAll.cons (f := []) (g := []) (.int x) (fp_ints l) (by simp)
theorem ints_fp {H : Hp} : ∀ {ns : List Int} {xs : List V} {fs : List Addr}, FpAll H xs (ns.map PyData.int) fs → xs = ns.map V.int
  | [], _, _, h => by cases h; rfl
  | x :: l, _, _, h => by
    cases h with
    | cons r t _ =>
      cases r
      rw [ints_fp t]
      rfl
def evA (ns ms : List Int) : List Int := ns.map fun x => x * (ms.sum / ((Nat.gcd ns.sum.natAbs ms.sum.natAbs : Nat) : Int))
def evB (ns ms : List Int) : List Int := ms.map fun x => x * (ns.sum / ((Nat.gcd ns.sum.natAbs ms.sum.natAbs : Nat) : Int))
/-- what must be told of the two rows -/
def dEv (ns ms : List Int) : PyData := if ns = [] ∨ ms = [] then .tuple [.str "refused", .tuple [.str "Empty"]] else match firstOut 1 1000000 (ns ++ ms) with
  | some i => .tuple [.str "refused", .tuple [.str "BadShare", .int (i : Int)]]
  | none => .tuple [.str "told", .tuple [.list ((evA ns ms).map PyData.int), .list ((evB ns ms).map PyData.int)]]
/-- told, with its own objects -/
theorem fp_ref1 {H : Hp} {p r : Addr} {s t : Str} (h1 : H p = some (.tup [.str s, .ref r])) (h2 : H r = some (.tup [.str t])) (n : p ≠ r) : Fp H (.ref p) (.tuple [.str s, .tuple [.str t]]) [p, r] :=
  .tup h1 (FpAll.cons (f := []) (g := [r]) (.str s) (FpAll.cons (f := [r]) (g := []) (.tup h2 (FpAll.cons (f := []) (g := []) (.str t) .nil (by simp)) (by simp)) .nil (by simp)) (by simp)) (by simpa using n)
theorem fp_ref2 {H : Hp} {p r : Addr} {s t : Str} {i : Int} (h1 : H p = some (.tup [.str s, .ref r])) (h2 : H r = some (.tup [.str t, .int i])) (n : p ≠ r) : Fp H (.ref p) (.tuple [.str s, .tuple [.str t, .int i]]) [p, r] :=
  .tup h1 (FpAll.cons (f := []) (g := [r]) (.str s) (FpAll.cons (f := [r]) (g := []) (.tup h2 (FpAll.cons (f := []) (g := []) (.str t) (FpAll.cons (f := []) (g := []) (.int i) .nil (by simp)) (by simp)) (by simp)) .nil (by simp)) (by simp)) (by simpa using n)
theorem fp_told {H : Hp} {p r a b : Addr} {s : Str} {ns ms : List Int} (h1 : H p = some (.tup [.str s, .ref r])) (h2 : H r = some (.tup [.ref a, .ref b])) (h3 : H a = some (.lst (ns.map V.int))) (h4 : H b = some (.lst (ms.map V.int))) (n1 : p ≠ r) (n2 : a ≠ b) : Fp H (.ref p) (.tuple [.str s, .tuple [.list (ns.map PyData.int), .list (ms.map PyData.int)]]) [p, r, a, b] := by
  have hpa : p ≠ a := fun z => by rw [z, h3] at h1; cases h1
  have hpb : p ≠ b := fun z => by rw [z, h4] at h1; cases h1
  have hra : r ≠ a := fun z => by rw [z, h3] at h2; cases h2
  have hrb : r ≠ b := fun z => by rw [z, h4] at h2; cases h2
  exact .tup h1 (FpAll.cons (f := []) (g := [r, a, b]) (.str s) (FpAll.cons (f := [r, a, b]) (g := []) (.tup h2 (FpAll.cons (f := [a]) (g := [b]) (.lst h3 (fp_ints ns) (by simp)) (FpAll.cons (f := [b]) (g := []) (.lst h4 (fp_ints ms) (by simp)) .nil (by simp)) (by simpa using n2)) (by simp [hra, hrb])) .nil (by simp)) (by simp)) (by simp [n1, hpa, hpb])
def isT (ns ms : List Int) : Prop := ns ≠ [] ∧ ms ≠ [] ∧ firstOut 1 1000000 (ns ++ ms) = none
theorem dEv_T {ns ms : List Int} (h : isT ns ms) : dEv ns ms = .tuple [.str "told", .tuple [.list ((evA ns ms).map PyData.int), .list ((evB ns ms).map PyData.int)]] := by
  unfold dEv
  rw [if_neg (by rintro (z | z); exact h.1 z; exact h.2.1 z), h.2.2]
theorem dEv_E {ns ms : List Int} (h : ns = [] ∨ ms = []) : dEv ns ms = .tuple [.str "refused", .tuple [.str "Empty"]] := by
  unfold dEv
  rw [if_pos h]
theorem dEv_B {ns ms : List Int} {i : Nat} (h1 : ns ≠ []) (h2 : ms ≠ []) (h : firstOut 1 1000000 (ns ++ ms) = some i) : dEv ns ms = .tuple [.str "refused", .tuple [.str "BadShare", .int (i : Int)]] := by
  unfold dEv
  rw [if_neg (by rintro (z | z); exact h1 z; exact h2 z), h]
def DueV (K : PySem.W.Frag) (ns ms : List Int) (v : V) (H : Hp) : Prop := (isT ns ms ∧ v = .non) ∨ (¬ isT ns ms ∧ ∃ p, v = .ref p ∧ Rr K H v (dEv ns ms))
theorem go_due03 {a b : Addr} {ns ms : List Int} {H : Hp} {Q : VK} {E : XK} (h1 : H a = some (.lst (ns.map V.int))) (h2 : H b = some (.lst (ms.map V.int))) (l1 : ns.length ≤ 1000) (l2 : ms.length ≤ 1000) (q : ∀ v H', Kp [] H H' → DueV K ns ms v H' → Q v H') : spDue03 K [.ref a, .ref b] H Q E := by
  refine ⟨a, b, ns, ms, rfl, h1, h2, l1, l2, fun e p r H' k e1 e2 => ?_, fun n1 n2 i e p r H' k e1 e2 => ?_, fun n1 n2 e H' k => q _ _ k (.inl ⟨⟨n1, n2, e⟩, rfl⟩)⟩
  · refine q _ _ k (.inr ⟨fun z => ?_, p, rfl, ?_⟩)
    · rcases e with e | e
      · exact z.1 e
      · exact z.2.1 e
    · rw [dEv_E e]
      exact .tup trivial (SqT.of e1) (.cons (.str _) (.cons (.tup trivial (SqT.of e2) (.cons (.str _) .nil)) .nil))
  · refine q _ _ k (.inr ⟨fun z => ?_, p, rfl, ?_⟩)
    · rw [z.2.2] at e
      cases e
    · rw [dEv_B n1 n2 e]
      exact .tup trivial (SqT.of e1) (.cons (.str _) (.cons (.tup trivial (SqT.of e2) (.cons (.str _) (.cons (.int _) .nil))) .nil))
def spEvR (K : PySem.W.Frag) : Sp := fun vs H Q _ => ∃ (a b : Addr) (ns ms : List Int), vs = [.ref a, .ref b] ∧ H a = some (.lst (ns.map V.int)) ∧ H b = some (.lst (ms.map V.int)) ∧ ns.length ≤ 1000 ∧ ms.length ≤ 1000 ∧ ∀ H', Kp [] H H' → Q (.bl true) H'
theorem go_evr {a b : Addr} {ns ms : List Int} {H : Hp} {Q : VK} {E : XK} (h1 : H a = some (.lst (ns.map V.int))) (h2 : H b = some (.lst (ms.map V.int))) (l1 : ns.length ≤ 1000) (l2 : ms.length ≤ 1000) (q : ∀ H', Kp [] H H' → Q (.bl true) H') : spEvR K [.ref a, .ref b] H Q E := ⟨a, b, ns, ms, rfl, h1, h2, l1, l2, q⟩
/-- what was kept of the first answer -/
def Kept (K : PySem.W.Frag) (d : PyData) (v : V) (H : Hp) : Prop := v = .non ∨ ∃ p, v = .ref p ∧ Rp (fun x => ∃ o, H x = some o) K H v d
theorem dep_ev {ns ms : List Int} : dep (dEv ns ms) ≤ 3 := by
  have h : ∀ l : List Int, depAll (l.map PyData.int) = 0 := fun l => by
    induction l with
    | nil => rfl
    | cons x l ih => rw [List.map_cons]; show max (dep (.int x)) (depAll (l.map PyData.int)) = 0; rw [ih]; rfl
  unfold dEv
  split
  · simp [dep, depAll]
  · split
    · simp [dep, depAll]
    · simp [dep, depAll, h]
theorem wid_ev {ns ms : List Int} (l1 : ns.length ≤ 1000) (l2 : ms.length ≤ 1000) : wid (dEv ns ms) < 90000 := by
  have h : ∀ l : List Int, widAll (l.map PyData.int) = 0 := fun l => by
    induction l with
    | nil => rfl
    | cons x l ih => rw [List.map_cons]; show max (wid (.int x)) (widAll (l.map PyData.int)) = 0; rw [ih]; rfl
  unfold dEv
  split
  · simp [wid, widAll]
  · split
    · simp [wid, widAll]
    · have hA : (evA ns ms).length = ns.length := by simp [evA]
      have hB : (evB ns ms).length = ms.length := by simp [evB]
      simp [wid, widAll, h, hA, hB]
      omega
theorem go_sameT {n : Nat} {x y : V} {d : PyData} {H : Hp} {Q : VK} {E : XK} (h1 : Rr K H x d) (h2 : Rr K H y d) (hn : dep d ≤ n) (hw : wid d < 100000) (q : ∀ H', Kp [] H H' → Q (.bl true) H') : spSame K n [x, y] H Q E := go_same h1 h2 hn hw fun b H' k e => by rw [e.mpr rfl]; exact q H' k
theorem Kp.hide {M H H1 H2} (a : Kp [] H H1) (b : Kp M H1 H2) (n : ∀ x ∈ M, H x = none) : Kp [] H H2 := fun x o _ e => b x o (fun z => by rw [n x z] at e; cases e) (a x o nil_mem e)
theorem dEv_tup {ns ms : List Int} : ∃ ds, dEv ns ms = .tuple ds := by
  unfold dEv
  split
  · exact ⟨_, rfl⟩
  · split <;> exact ⟨_, rfl⟩
abbrev s_law_evened_right : Stmt := topS 76
theorem sc_law_evened_right : FnScope ["one", "two", "due", "kept", "k", "work", "other", "told", "e"] ["one", "two"] (defScope s_law_evened_right) := ⟨rfl, rfl, rfl, by decide +kernel, rfl, by decide +kernel, by decide +kernel⟩
--DEF _law_evened_right
set_option maxHeartbeats 8000000 in
theorem ok_law_evened_right {C_OfficeError C_Empty C_BadShare : Addr} (h : DefAt K mg "_law_evened_right" ["one", "two"] s_law_evened_right) (g_list : mg "list" = none) (g_range : mg "range" = none) (g_OfficeError : mg "OfficeError" = some (.ref C_OfficeError))
    (m0 : PySem.W.exmOne K (.ref C_Empty) (.ref C_OfficeError) = some true) (m1 : PySem.W.exmOne K (.ref C_BadShare) (.ref C_OfficeError) = some true)
    (D_law_due : Okk P w K mg base CX0 k "_law_due" ["one", "two"] (spDue03 K)) (D_evened_kw : OkkK P w K mg base (L2.CX P w) k "evened" ["given", "borne"] ["borne", "given"] gK gVK (spEvened K C_Empty C_BadShare))
    (D_law_refused : OkE P w K mg base k "_law_refused" ["e"] (spRef03 (K := K) C_Empty C_BadShare)) (D_law_same : Okk P w K mg base CX0 k "_law_same" ["told", "due"] (spSame K 3)) (D_law_copy : Okk P w K mg base CX0 k "_law_copy" ["thing"] (spCopy K 3))
    (D_law_strokes_right : Okk P w K mg base CX0 k "_law_strokes_right" ["told", "one", "two"] (spStrokes K)) (D_law_spoil : Okk P w K mg base CX0 k "_law_spoil" ["thing"] (spSpoil 3)) : Okk P w K mg base CX0 (k + 1) "_law_evened_right" ["one", "two"] (spEvR K) := by
  have D_evened := D_evened_kw.okk
  refine h.ok sc_law_evened_right ?_ ?_
  · rintro vs H Q E ⟨_, _, _, _, rfl, _⟩; rfl
  rintro cdv f A outer s H vs Q E hr ⟨a, b, ns, ms, rfl, hx, hy, l1, l2, q⟩
  refine ⟨_, (pss_cons (ps_set (i := 2) sc_law_evened_right.nd rfl (Or.inl rfl) (pe_own D_law_due hr (pa_cons (pv 0) (pa_cons (pv 1) pa_nil))))
      (pss_cons (ps_set (i := 3) sc_law_evened_right.nd rfl (Or.inl rfl) pe_non)
      (pss_cons (ps_for PassesOwn.never rfl (pi_range1 rfl g_range (pa_cons pe_int pa_nil)) (pg_name (i := 4) sc_law_evened_right.nd rfl (Or.inl rfl))
        (pss_cons (ps_set (i := 5) sc_law_evened_right.nd rfl (Or.inl rfl) (pe_callTy cr_list (by rfl) g_list (by decide +kernel) (pa_cons (pv 0) pa_nil)))
        (pss_cons (ps_set (i := 6) sc_law_evened_right.nd rfl (Or.inl rfl) (pe_callTy cr_list (by rfl) g_list (by decide +kernel) (pa_cons (pv 1) pa_nil)))
        (C8.pss_cut (ps_try_as (i := 8) rfl rfl sc_law_evened_right.nd rfl rfl ⟨rfl, by decide, .inl g_OfficeError⟩ takes0 (fun W pn xe tk hp => (pss_one (ps_if (pt_cmpR op_eq (pv 4) pe_int (nomark _)) (pss_one (ps_set (i := 7) sc_law_evened_right.nd rfl (Or.inl rfl) (pe_tup (pa_cons pe_str (pa_cons (pe_ownSK D_evened_kw hr tk (pk_cons (pv 6) (pk_cons (pv 5) pk_nil))) pa_nil))))) (pss_one (ps_set (i := 7) sc_law_evened_right.nd rfl (Or.inl rfl) (pe_tup (pa_cons pe_str (pa_cons (pe_ownS D_evened hr tk (pa_cons (pv 5) (pa_cons (pv 6) pa_nil))) pa_nil)))))))) (fun a oe cls d pn hz hf => (pss_one (ps_set (i := 7) sc_law_evened_right.nd rfl (Or.inl rfl) (pe_tup (pa_cons pe_str (pa_cons (pe_ownH D_law_refused ⟨hr.dp, hr.un⟩ List.mem_cons_self hz hf (pa_cons (pv 8) pa_nil)) pa_nil)))))))
        (pss_cons (ps_if (PW.pt (pw_or (pt_not (pt_val (pe_own D_law_same hr (pa_cons (pv 5) (pa_cons (pv 0) pa_nil))))) (pw_or1 (pt_not (pt_val (pe_own D_law_same hr (pa_cons (pv 6) (pa_cons (pv 1) pa_nil)))))))) (pss_one (ps_ret pe_bl)) pss_nil)
        (C8.pss_cut (ps_if (pt_cmpR op_isN' (pv 3) pe_non (nomark _)) (pss_one (ps_set (i := 3) sc_law_evened_right.nd rfl (Or.inl rfl) (pe_own D_law_copy hr (pa_cons (pv 7) pa_nil)))) pss_nil)
        (pss_cons (ps_if (PW.pt (pw_or (pt_not (pt_val (pe_own D_law_same hr (pa_cons (pv 7) (pa_cons (pv 3) pa_nil))))) (pw_or1 (PW.pt (pw_and (pt_cmpR op_notN' (pv 2) pe_non (nomark _)) (pw_and1 (pt_not (pt_val (pe_own D_law_same hr (pa_cons (pv 7) (pa_cons (pv 2) pa_nil))))))))))) (pss_one (ps_ret pe_bl)) pss_nil)
        (pss_cons (ps_if (PW.pt (pw_and (pt_cmpR op_isN' (pv 2) pe_non (nomark _)) (pw_and1 (pt_not (pt_val (pe_own D_law_strokes_right hr (pa_cons (pv 7) (pa_cons (pv 0) (pa_cons (pv 1) pa_nil))))))))) (pss_one (ps_ret pe_bl)) pss_nil)
        (pss_cons (ps_expr (pe_own D_law_spoil hr (pa_cons (pv 7) pa_nil)))
        (pss_cons (ps_expr (pe_own D_law_spoil hr (pa_cons (pv 5) pa_nil)))
        (pss_one (ps_expr (pe_own D_law_spoil hr (pa_cons (pv 6) pa_nil))))))))))))))
      (pss_one (ps_ret pe_bl))))), ?_⟩
  walk_at "go"
  refine go_due03 hx hy l1 l2 fun dv H1 k1 hdv => ?_
  have hx1 := k1 _ _ nil_mem hx
  have hy1 := k1 _ _ nil_mem hy
  walk_at "go"
  refine l_rng (by decide) (fun i s' H' => Kp [] H1 H' ∧ ∃ kv z4 z5 z6 z7 z8, s' = [some (.ref a), some (.ref b), some dv, some kv, z4, z5, z6, z7, z8] ∧ Kept K (dEv ns ms) kv H') ⟨Kp.refl, _, _, _, _, _, _, rfl, .inl rfl⟩ ?_ ?_
  · rintro i s' H2 hi ⟨k2, kv, z4, z5, z6, z7, z8, rfl, hkv⟩
    have hx2 := k2 _ _ nil_mem hx1
    have hy2 := k2 _ _ nil_mem hy1
    walk_at "go"
    refine x_listL (SqL.of hx2) fun l5 f5 => ?_
    walk_at "go"
    have hy3 := (Kp.new (M := []) (o := .lst (ns.map V.int)) f5) _ _ nil_mem hy2
    refine x_listL (SqL.of hy3) fun l6 f6 => ?_
    walk_at "go"
    have w4 : upd (upd H2 l5 (.lst (ns.map V.int))) l6 (.lst (ms.map V.int)) l5 = some (.lst (ns.map V.int)) := at_upd (ne_new f6 upd_same) upd_same
    have o4 : upd (upd H2 l5 (.lst (ns.map V.int))) l6 (.lst (ms.map V.int)) l6 = some (.lst (ms.map V.int)) := upd_same
    have k4 : Kp [] H2 (upd (upd H2 l5 (.lst (ns.map V.int))) l6 (.lst (ms.map V.int))) := (Kp.new f5).trans (Kp.new f6)
    have n56 : l5 ≠ l6 := ne_new f6 upd_same
    have nw5 : H2 l5 = none := f5
    have nw6 : H2 l6 = none := (Kp.new (M := []) f5).free nil_mem f6
    generalize upd (upd H2 l5 (.lst (ns.map V.int))) l6 (.lst (ms.map V.int)) = H4 at *
    dsimp only
    refine x_cut (fun s' H' => ∃ tv fs z8, s' = [some (.ref a), some (.ref b), some dv, some kv, some (.int (i : Int)), some (.ref l5), some (.ref l6), some tv, z8] ∧ Kp [] H4 H' ∧ Fp H' tv (dEv ns ms) fs ∧ ∀ x ∈ fs, H4 x = none) ?_ ?_
    · walk_at "go"
      refine x_dec (fun _ => ?_) (fun _ => ?_)
      · walk_at "go"
        refine x_callKW ?_
        walk_at "go"
        show spEvened K _ _ [.ref l5, .ref l6] _ _ _
        refine go_evened (SqL.of w4) (SqL.of o4) l1 l2 ⟨fun e H5 k5 => ?_, fun n1 n2 i0 e dd H5 k5 fd ed => ?_, fun n1 n2 e p x y H5 k5 ep ea eb fp fa fb nab => ?_⟩
        · refine x_was m0 fun a' fa' => ?_
          simp only [List.set_cons_succ, List.set_cons_zero]
          walk_at "go"
          refine fun oe hz hf => ⟨rfl, .inl ⟨⟨hz, hf⟩, fun r H6 k6 fr er => ?_⟩⟩
          walk_at "go"
          intro p fp
          walk_at "go"
          refine ⟨_, _, _, rfl, (k5.trans k6).trans (Kp.new fp), by rw [dEv_E e]; exact fp_ref1 upd_same (at_upd (ne_new fp er) er) (ne_new' fp er), fun x hx => ?_⟩
          rcases List.mem_cons.mp hx with rfl | hx
          · exact (k5.trans k6).free nil_mem fp
          · obtain rfl := List.mem_singleton.mp hx
            exact k5.free nil_mem fr
        · refine x_was m1 fun a' fa' => ?_
          simp only [List.set_cons_succ, List.set_cons_zero]
          walk_at "go"
          refine fun oe hz hf => ⟨rfl, .inr ⟨dd, _, ⟨hz, hf⟩, ed, fun r H6 k6 fr er => ?_⟩⟩
          walk_at "go"
          intro p fp
          walk_at "go"
          refine ⟨_, _, _, rfl, (k5.trans k6).trans (Kp.new fp), by rw [dEv_B n1 n2 e]; exact fp_ref2 upd_same (at_upd (ne_new fp er) er) (ne_new' fp er), fun x hx => ?_⟩
          rcases List.mem_cons.mp hx with rfl | hx
          · exact (k5.trans k6).free nil_mem fp
          · obtain rfl := List.mem_singleton.mp hx
            exact k5.free nil_mem fr
        · walk_at "go"
          intro p2 fp2
          walk_at "go"
          refine ⟨_, _, _, rfl, k5.trans (Kp.new fp2), by rw [dEv_T ⟨n1, n2, e⟩]; exact fp_told upd_same (at_upd (ne_new fp2 ep) ep) (at_upd (ne_new fp2 ea) ea) (at_upd (ne_new fp2 eb) eb) (ne_new' fp2 ep) nab, fun z hz => ?_⟩
          rcases List.mem_cons.mp hz with rfl | hz
          · exact k5.free nil_mem fp2
          rcases List.mem_cons.mp hz with rfl | hz
          · exact fp
          rcases List.mem_cons.mp hz with rfl | hz
          · exact fa
          · obtain rfl := List.mem_singleton.mp hz
            exact fb
      · walk_at "go"
        refine go_evened (SqL.of w4) (SqL.of o4) l1 l2 ⟨fun e H5 k5 => ?_, fun n1 n2 i0 e dd H5 k5 fd ed => ?_, fun n1 n2 e p x y H5 k5 ep ea eb fp fa fb nab => ?_⟩
        · refine x_was m0 fun a' fa' => ?_
          simp only [List.set_cons_succ, List.set_cons_zero]
          walk_at "go"
          refine fun oe hz hf => ⟨rfl, .inl ⟨⟨hz, hf⟩, fun r H6 k6 fr er => ?_⟩⟩
          walk_at "go"
          intro p fp
          walk_at "go"
          refine ⟨_, _, _, rfl, (k5.trans k6).trans (Kp.new fp), by rw [dEv_E e]; exact fp_ref1 upd_same (at_upd (ne_new fp er) er) (ne_new' fp er), fun x hx => ?_⟩
          rcases List.mem_cons.mp hx with rfl | hx
          · exact (k5.trans k6).free nil_mem fp
          · obtain rfl := List.mem_singleton.mp hx
            exact k5.free nil_mem fr
        · refine x_was m1 fun a' fa' => ?_
          simp only [List.set_cons_succ, List.set_cons_zero]
          walk_at "go"
          refine fun oe hz hf => ⟨rfl, .inr ⟨dd, _, ⟨hz, hf⟩, ed, fun r H6 k6 fr er => ?_⟩⟩
          walk_at "go"
          intro p fp
          walk_at "go"
          refine ⟨_, _, _, rfl, (k5.trans k6).trans (Kp.new fp), by rw [dEv_B n1 n2 e]; exact fp_ref2 upd_same (at_upd (ne_new fp er) er) (ne_new' fp er), fun x hx => ?_⟩
          rcases List.mem_cons.mp hx with rfl | hx
          · exact (k5.trans k6).free nil_mem fp
          · obtain rfl := List.mem_singleton.mp hx
            exact k5.free nil_mem fr
        · walk_at "go"
          intro p2 fp2
          walk_at "go"
          refine ⟨_, _, _, rfl, k5.trans (Kp.new fp2), by rw [dEv_T ⟨n1, n2, e⟩]; exact fp_told upd_same (at_upd (ne_new fp2 ep) ep) (at_upd (ne_new fp2 ea) ea) (at_upd (ne_new fp2 eb) eb) (ne_new' fp2 ep) nab, fun z hz => ?_⟩
          rcases List.mem_cons.mp hz with rfl | hz
          · exact k5.free nil_mem fp2
          rcases List.mem_cons.mp hz with rfl | hz
          · exact fp
          rcases List.mem_cons.mp hz with rfl | hz
          · exact fa
          · obtain rfl := List.mem_singleton.mp hz
            exact fb
    · rintro s' H5 ⟨tv, fs, z8, rfl, k5, hf, hn⟩
      have kx := (k2.trans k4).trans k5
      walk_at "go"
      refine go_sameT (rr_ints (SqL.of (k5 _ _ nil_mem w4))) (rr_ints (SqL.of (kx _ _ nil_mem hx1))) (by show depAll _ < 3; rw [dep_ints]; decide) (by show max _ (widAll _) < 100000; rw [wid_ints]; simp; omega) fun H6 k6 => ?_
      walk_at "go"
      refine go_sameT (rr_ints (SqL.of (k6 _ _ nil_mem (k5 _ _ nil_mem o4)))) (rr_ints (SqL.of (k6 _ _ nil_mem (kx _ _ nil_mem hy1)))) (by show depAll _ < 3; rw [dep_ints]; decide) (by show max _ (widAll _) < 100000; rw [wid_ints]; simp; omega) fun H7 k7 => ?_
      walk_at "go"
      have k57 := k6.trans k7
      have hf7 : Fp H7 tv (dEv ns ms) fs := hf.kp k57 fun _ _ => nil_mem
      have live : ∀ x ∈ fs, ∃ o, H7 x = some o := hf7.ex
      have w7 := (k5.trans k57) _ _ nil_mem w4
      have o7 := (k5.trans k57) _ _ nil_mem o4
      dsimp only
      refine x_cut (fun s' H' => ∃ kv', s' = [some (.ref a), some (.ref b), some dv, some kv', some (.int (i : Int)), some (.ref l5), some (.ref l6), some tv, z8] ∧ Kp [] H7 H' ∧ (∃ p, kv' = .ref p) ∧ Rp (fun x => (∃ o, H' x = some o) ∧ x ∉ fs ∧ x ≠ l5 ∧ x ≠ l6) K H' kv' (dEv ns ms)) ?_ ?_
      · rcases hkv with rfl | ⟨kp, rfl, hk⟩
        · walk_at "go"
          refine go_copy hf7.rr dep_ev (wid_ev l1 l2) fun u H8 k8 hu => ?_
          walk_at "go"
          refine ⟨u, rfl, k8, ?_, hu.mono fun x z => ⟨z.2, fun y => ?_, fun y => ?_, fun y => ?_⟩⟩
          · obtain ⟨ds, e⟩ := dEv_tup (ns := ns) (ms := ms)
            rw [e] at hu
            cases hu
            exact ⟨_, rfl⟩
          · obtain ⟨o, e⟩ := live x y
            rw [z.1] at e
            cases e
          · have z1 := z.1
            rw [y, w7] at z1
            cases z1
          · have z1 := z.1
            rw [y, o7] at z1
            cases z1
        · walk_at "go"
          have k27 := (k4.trans k5).trans k57
          refine ⟨_, rfl, Kp.refl, ⟨kp, rfl⟩, hk.kp (M := []) k27 (fun _ _ => nil_mem) fun x z => ?_⟩
          obtain ⟨o, e⟩ := z
          refine ⟨⟨o, k27 _ _ nil_mem e⟩, fun y => ?_, fun y => ?_, fun y => ?_⟩
          · have e4 := k4 _ _ nil_mem e
            rw [hn x y] at e4
            cases e4
          · rw [y, nw5] at e
            cases e
          · rw [y, nw6] at e
            cases e
      · rintro s' H8 ⟨kv', rfl, k8, ⟨kp, rfl⟩, hk8⟩
        have k18 := kx.trans (k57.trans k8)
        have hf8 : Fp H8 tv (dEv ns ms) fs := hf7.kp k8 fun _ _ => nil_mem
        walk_at "go"
        refine go_sameT hf8.rr hk8.rr dep_ev (Nat.lt_trans (wid_ev l1 l2) (by decide)) fun H9 k9 => ?_
        walk_at "go"
        have k19 := k18.trans k9
        have hf9 : Fp H9 tv (dEv ns ms) fs := hf8.kp k9 fun _ _ => nil_mem
        rcases hdv with ⟨hT, rfl⟩ | ⟨hT, dp, rfl, hd⟩
        · walk_at "go"
          have hf9' := hf9
          rw [dEv_T hT] at hf9'
          cases hf9' with
          | tup e1 r1 _ =>
            cases r1 with
            | cons s1 r1 _ =>
              cases s1
              cases r1 with
              | cons s2 r2 _ =>
                cases r2
                cases s2 with
                | tup e2 r3 _ =>
                  cases r3 with
                  | cons s3 r3 _ =>
                    cases r3 with
                    | cons s4 r4 _ =>
                      cases r4
                      cases s3 with
                      | lst e3 r3 _ =>
                        cases s4 with
                        | lst e4 r4 _ =>
                          rw [ints_fp r3] at e3
                          rw [ints_fp r4] at e4
                          have A1 := firstOut_all hT.2.2
                          refine ⟨_, _, _, _, _, _, ns, ms, rfl, SqT.of e1, SqT.of e2, SqL.of e3, SqL.of e4, SqL.of (k19 _ _ nil_mem hx1), SqL.of (k19 _ _ nil_mem hy1), hT.1, hT.2.1, l1, l2, fun x z => A1 x (List.mem_append_left _ z), fun x z => A1 x (List.mem_append_right _ z), fun H10 k10 => ?_⟩
                          walk_at "go"
                          have kA : Kp [] H4 H10 := (((k5.trans k57).trans k8).trans k9).trans k10
                          refine go_spoil (hf9.kp k10 fun _ _ => nil_mem) dep_ev (wid_ev l1 l2) fun Ha ka => ?_
                          have kB : Kp [] H4 Ha := kA.hide ka.kp hn
                          walk_at "go"
                          refine go_spoil (.lst (kB _ _ nil_mem w4) (fp_ints ns) (by simp)) (by show depAll _ < 3; rw [dep_ints]; decide) (by show max _ (widAll _) < 90000; rw [wid_ints]; simp; omega) fun Hb kb => ?_
                          have kC : Kp [] H2 Hb := (k4.trans kB).hide kb.kp fun x hx => by rw [List.mem_singleton.mp hx]; exact nw5
                          walk_at "go"
                          refine go_spoil (.lst (kb.kp _ _ (by simpa using Ne.symm n56) (kB _ _ nil_mem o4)) (fp_ints ms) (by simp)) (by show depAll _ < 3; rw [dep_ints]; decide) (by show max _ (widAll _) < 90000; rw [wid_ints]; simp; omega) fun Hc kc => ?_
                          have kD : Kp [] H2 Hc := kC.hide kc.kp fun x hx => by rw [List.mem_singleton.mp hx]; exact nw6
                          walk_at "go"
                          refine ⟨k2.trans kD, _, _, _, _, _, _, rfl, .inr ⟨kp, rfl, ?_⟩⟩
                          have h1 := hk8.kp (B := fun x => (∃ o, Ha x = some o) ∧ x ≠ l5 ∧ x ≠ l6) ((k9.trans k10).any.trans ka.kp) (fun x z => z.2.1) fun x z => ⟨by obtain ⟨⟨o, e⟩, n, _⟩ := z; exact ⟨o, ka.kp _ _ n ((k9.trans k10) _ _ nil_mem e)⟩, z.2.2⟩
                          have h2 := h1.kp (B := fun x => (∃ o, Hb x = some o) ∧ x ≠ l6) kb.kp (fun x z => by simpa using z.2.1) fun x z => ⟨by obtain ⟨⟨o, e⟩, n, _⟩ := z; exact ⟨o, kb.kp _ _ (by simpa using n) e⟩, z.2.2⟩
                          exact h2.kp kc.kp (fun x z => by simpa using z.2) fun x z => by obtain ⟨⟨o, e⟩, n⟩ := z; exact ⟨o, kc.kp _ _ (by simpa using n) e⟩
        · walk_at "go"
          refine x_ndecT (fun z => nomatch z) ?_
          walk_at "go"
          refine go_sameT hf9.rr (hd.to k19) dep_ev (Nat.lt_trans (wid_ev l1 l2) (by decide)) fun H10 k10 => ?_
          walk_at "go"
          have kA : Kp [] H4 H10 := (((k5.trans k57).trans k8).trans k9).trans k10
          refine go_spoil (hf9.kp k10 fun _ _ => nil_mem) dep_ev (wid_ev l1 l2) fun Ha ka => ?_
          have kB : Kp [] H4 Ha := kA.hide ka.kp hn
          walk_at "go"
          refine go_spoil (.lst (kB _ _ nil_mem w4) (fp_ints ns) (by simp)) (by show depAll _ < 3; rw [dep_ints]; decide) (by show max _ (widAll _) < 90000; rw [wid_ints]; simp; omega) fun Hb kb => ?_
          have kC : Kp [] H2 Hb := (k4.trans kB).hide kb.kp fun x hx => by rw [List.mem_singleton.mp hx]; exact nw5
          walk_at "go"
          refine go_spoil (.lst (kb.kp _ _ (by simpa using Ne.symm n56) (kB _ _ nil_mem o4)) (fp_ints ms) (by simp)) (by show depAll _ < 3; rw [dep_ints]; decide) (by show max _ (widAll _) < 90000; rw [wid_ints]; simp; omega) fun Hc kc => ?_
          have kD : Kp [] H2 Hc := kC.hide kc.kp fun x hx => by rw [List.mem_singleton.mp hx]; exact nw6
          walk_at "go"
          refine ⟨k2.trans kD, _, _, _, _, _, _, rfl, .inr ⟨kp, rfl, ?_⟩⟩
          have h1 := hk8.kp (B := fun x => (∃ o, Ha x = some o) ∧ x ≠ l5 ∧ x ≠ l6) ((k9.trans k10).any.trans ka.kp) (fun x z => z.2.1) fun x z => ⟨by obtain ⟨⟨o, e⟩, n, _⟩ := z; exact ⟨o, ka.kp _ _ n ((k9.trans k10) _ _ nil_mem e)⟩, z.2.2⟩
          have h2 := h1.kp (B := fun x => (∃ o, Hb x = some o) ∧ x ≠ l6) kb.kp (fun x z => by simpa using z.2.1) fun x z => ⟨by obtain ⟨⟨o, e⟩, n, _⟩ := z; exact ⟨o, kb.kp _ _ (by simpa using n) e⟩, z.2.2⟩
          exact h2.kp kc.kp (fun x z => by simpa using z.2) fun x z => by obtain ⟨⟨o, e⟩, n⟩ := z; exact ⟨o, kc.kp _ _ (by simpa using n) e⟩
  · rintro s' H' ⟨k2, kv, z4, z5, z6, z7, z8, rfl, _⟩
    walk_at "go"
    exact q H' (k1.trans k2)
def L8 (H : Hp) (p a : Addr) : Prop := ∃ ns : List Int, H a = some (.lst (ns.map V.int)) ∧ 1 ≤ ns.length ∧ ns.length ≤ 8 ∧ a ≠ p
theorem L8.kp {H H' : Hp} {p a : Addr} (h : L8 H p a) (k : Kp [] H H') : L8 H' p a := by
  obtain ⟨ns, e, r⟩ := h
  exact ⟨ns, k _ _ nil_mem e, r⟩
theorem L8.kpS {H H' : Hp} {p a : Addr} (h : L8 H p a) (k : Kp [p] H H') : L8 H' p a := by
  obtain ⟨ns, e, a, b, n⟩ := h
  exact ⟨ns, k _ _ (one_mem n) e, a, b, n⟩
theorem all_ints : ∀ {ys : List V}, (∀ y ∈ ys, ∃ i, y = V.int i) → ∃ ms : List Int, ys = ms.map V.int
  | [], _ => ⟨[], rfl⟩
  | y :: l, h => by
    obtain ⟨i, rfl⟩ := h y List.mem_cons_self
    obtain ⟨ms, rfl⟩ := all_ints fun z hz => h z (List.mem_cons_of_mem _ hz)
    exact ⟨i :: ms, rfl⟩
theorem go_evrL {p a b : Addr} {H : Hp} {Q : VK} {E : XK} (h1 : L8 H p a) (h2 : L8 H p b) (q : ∀ H', Kp [] H H' → Q (.bl true) H') : spEvR K [.ref a, .ref b] H Q E := by
  obtain ⟨ns, e1, _, l1, _⟩ := h1
  obtain ⟨ms, e2, _, l2, _⟩ := h2
  exact go_evr e1 e2 (by omega) (by omega) q
theorem go_evrN {p a b : Addr} {H : Hp} {Q : VK} {E : XK} (h1 : H a = some (.lst [])) (h2 : L8 H p b) (q : ∀ H', Kp [] H H' → Q (.bl true) H') : spEvR K [.ref a, .ref b] H Q E := by
  obtain ⟨ms, e2, _, l2, _⟩ := h2
  exact go_evr (ns := []) h1 e2 (by simp) (by omega) q
theorem go_evrM {p a b : Addr} {H : Hp} {Q : VK} {E : XK} (h1 : L8 H p a) (h2 : H b = some (.lst [])) (q : ∀ H', Kp [] H H' → Q (.bl true) H') : spEvR K [.ref a, .ref b] H Q E := by
  obtain ⟨ms, e2, _, l2, _⟩ := h1
  exact go_evr (ms := []) e2 h2 (by omega) (by simp) q
theorem go_sideL {p sl : Addr} {H : Hp} {Q : VK} {E : XK} (hs : StoreS H p sl) (q : ∀ l H', StoreS H' p sl → Kp [p] H H' → H l = none → L8 H' p l → Q (.ref l) H') : spSide [.ref p] H Q E :=
  go_sideS hs fun l ns H' s k f e a b => q l H' s k f ⟨ns, e, a, b, (hs.ne f).1⟩
theorem go_bentL {p sl a : Addr} {H : Hp} {Q : VK} {E : XK} (hs : StoreS H p sl) (h : L8 H p a) (q : ∀ l H', StoreS H' p sl → Kp [p] H H' → L8 H' p l → Q (.ref l) H') : spBent K [.ref p, .ref a] H Q E := by
  obtain ⟨ns, e1, l0, l1, n1⟩ := h
  exact go_bentS hs (SqL.of e1) (by omega) (by omega) fun l ms H' s k f e m => q l H' s k ⟨ms, e, by omega, by omega, (hs.ne f).1⟩
abbrev s_law : Stmt := topS 78
theorem sc_law : FnScope ["script", "store", "one", "two", "kind", "bent", "other"] ["script"] (defScope s_law) := ⟨rfl, rfl, rfl, by decide +kernel, rfl, by decide +kernel, by decide +kernel⟩
--DEF law
def spLaw (K : PySem.W.Frag) : Sp := fun vs H Q _ => ∃ (a : Addr) (ns : List Int), vs = [.ref a] ∧ SqL K H a (ns.map V.int) ∧ ∀ H', Q (.bl true) H'
set_option maxHeartbeats 8000000 in
theorem ok_law {fL : Addr} {fdL : FuncData} (h : FunD K "law" "law" (defArgs s_law) (defBody s_law) (defScope s_law) [] [] fL fdL) (g_sum : mg "sum" = none) (D_law_store : Okk P w K mg base CX0 k "_law_store" ["script"] (spStore K)) (D_law_side : Okk P w K mg base CX0 k "_law_side" ["store"] spSide) (D_law_take : Okk P w K mg base CX0 k "_law_take" ["store", "many"] spTake)
    (D_law_shuffled : Okk P w K mg base CX0 k "_law_shuffled" ["store", "row"] (spShuf K)) (D_law_bent : Okk P w K mg base CX0 k "_law_bent" ["store", "row"] (spBent K)) (D_law_evened_right : Okk P w K mg base CX0 k "_law_evened_right" ["one", "two"] (spEvR K)) :
    FnOk P w K mg base CX0 (k + 1) fL fdL ["script"] (spLaw K) := by
  refine okL h sc_law ?_ ?_
  · rintro vs H Q E ⟨p, _, rfl, _⟩; rfl
  rintro cdv f A outer s H vs Q E hr ⟨a, ns, rfl, hS, q⟩
  refine ⟨_, (pss_cons (ps_set (i := 1) sc_law.nd rfl (Or.inl rfl) (pe_own D_law_store hr (pa_cons (pv 0) pa_nil)))
      (pss_cons (ps_set (i := 2) sc_law.nd rfl (Or.inl rfl) (pe_own D_law_side hr (pa_cons (pv 1) pa_nil)))
      (pss_cons (ps_set (i := 3) sc_law.nd rfl (Or.inl rfl) (pe_own D_law_side hr (pa_cons (pv 1) pa_nil)))
      (pss_cons (ps_set (i := 4) sc_law.nd rfl (Or.inl rfl) (pe_own D_law_take hr (pa_cons (pv 1) (pa_cons pe_int pa_nil))))
      (C8.pss_cut (ps_if (pt_cmpR op_eq (pv 4) pe_int (nomark _)) (pss_one (ps_set (i := 3) sc_law.nd rfl (Or.inl rfl) (pe_own D_law_shuffled hr (pa_cons (pv 1) (pa_cons (pv 2) pa_nil))))) pss_nil)
      (C8.pss_cut (ps_if (PW.pt (pw_and (pt_cmpR op_eq (pv 4) pe_int (nomark _)) (pw_and1 (pt_cmpR op_le (pe_callB (cr_sum rfl) (by rfl) g_sum (by decide +kernel) (pa_cons (pv 2) pa_nil)) pe_int (nomark _))))) (pss_one (ps_set (i := 3) sc_law.nd rfl (Or.inl rfl) (pe_lst (pa_cons (pe_callB (cr_sum rfl) (by rfl) g_sum (by decide +kernel) (pa_cons (pv 2) pa_nil)) pa_nil)))) pss_nil)
      (pss_cons (ps_if (PW.pt (pw_or (pt_not (pt_val (pe_own D_law_evened_right hr (pa_cons (pv 2) (pa_cons (pv 3) pa_nil))))) (pw_or1 (pt_not (pt_val (pe_own D_law_evened_right hr (pa_cons (pv 3) (pa_cons (pv 2) pa_nil)))))))) (pss_one (ps_ret pe_bl)) pss_nil)
      (pss_cons (ps_set (i := 5) sc_law.nd rfl (Or.inl rfl) (pe_own D_law_bent hr (pa_cons (pv 1) (pa_cons (pv 2) pa_nil))))
      (pss_cons (ps_set (i := 6) sc_law.nd rfl (Or.inl rfl) (pe_own D_law_bent hr (pa_cons (pv 1) (pa_cons (pv 3) pa_nil))))
      (pss_cons (ps_if (PW.pt (pw_or (pt_not (pt_val (pe_own D_law_evened_right hr (pa_cons (pv 5) (pa_cons (pv 6) pa_nil))))) (pw_or (pt_not (pt_val (pe_own D_law_evened_right hr (pa_cons (pv 2) (pa_cons (pv 6) pa_nil))))) (pw_or1 (pt_not (pt_val (pe_own D_law_evened_right hr (pa_cons (pv 5) (pa_cons (pv 3) pa_nil))))))))) (pss_one (ps_ret pe_bl)) pss_nil)
      (pss_cons (ps_if (PW.pt (pw_or (pt_not (pt_val (pe_own D_law_evened_right hr (pa_cons (pe_lst pa_nil) (pa_cons (pv 6) pa_nil))))) (pw_or (pt_not (pt_val (pe_own D_law_evened_right hr (pa_cons (pv 5) (pa_cons (pe_lst pa_nil) pa_nil))))) (pw_or1 (pt_not (pt_val (pe_own D_law_evened_right hr (pa_cons (pe_lst pa_nil) (pa_cons (pe_lst pa_nil) pa_nil))))))))) (pss_one (ps_ret pe_bl)) pss_nil)
      (pss_one (ps_ret (pe_and (pe_own D_law_evened_right hr (pa_cons (pe_op op_rep (pe_lst (pa_cons pe_int pa_nil)) pe_int) (pa_cons (pv 3) pa_nil))) (pe_one (pe_own D_law_evened_right hr (pa_cons (pv 2) (pa_cons (pv 3) pa_nil)))))))))))))))))), ?_⟩
  walk_at "go"
  refine ⟨a, ns, rfl, hS, fun p H1 k1 f1 s1 => ?_⟩
  obtain ⟨sl, s1⟩ := s1
  walk_at "go"
  refine go_sideL s1 fun l1 H2 s2 k2 f2 h1 => ?_
  walk_at "go"
  refine go_sideL s2 fun l2 H3 s3 k3 f3 h2 => ?_
  have h1 := h1.kpS k3
  walk_at "go"
  refine go_takeS s3 fun d H4 s4 k4 _ _ _ => ?_
  have h1 := h1.kpS k4
  have h2 := h2.kpS k4
  walk_at "go"
  dsimp only
  refine x_cut (fun s' H' => ∃ b, s' = [some (.ref a), some (.ref p), some (.ref l1), some (.ref b), some (.int d), none, none] ∧ StoreS H' p sl ∧ L8 H' p l1 ∧ L8 H' p b) ?_ ?_
  · walk_at "go"
    refine x_dec (fun _ => ?_) (fun _ => ?_)
    · walk_at "go"
      obtain ⟨ns, e1, m1, m2, m3⟩ := id h1
      refine go_shufS s4 (SqL.of e1) (by simp; omega) fun l ys H5 s5 k5 f5 e5 pe => ?_
      have hl := pe.length_eq
      obtain ⟨ms, rfl⟩ := all_ints (ys := ys) fun y hy => by
        obtain ⟨i, _, rfl⟩ := List.mem_map.mp (pe.mem_iff.mp hy)
        exact ⟨i, rfl⟩
      simp only [List.length_map] at hl
      walk_at "go"
      exact ⟨l, rfl, s5, h1.kpS k5, ms, e5, by omega, by omega, (s4.ne f5).1⟩
    · walk_at "go"
      exact ⟨l2, rfl, s4, h1, h2⟩
  rintro s' H5 ⟨b, rfl, s5, h1, h2⟩
  walk_at "go"
  refine x_cut (fun s' H' => ∃ b, s' = [some (.ref a), some (.ref p), some (.ref l1), some (.ref b), some (.int d), none, none] ∧ StoreS H' p sl ∧ L8 H' p l1 ∧ L8 H' p b) ?_ ?_
  · walk_at "go"
    refine x_dec (fun _ => ?_) (fun _ => ?_)
    · walk_at "go"
      obtain ⟨ns, e1, m1, m2, m3⟩ := id h1
      refine ⟨_, ns, rfl, SqL.of e1, ?_⟩
      walk_at "go"
      refine x_dec (fun _ => ?_) (fun _ => ?_)
      · walk_at "go"
        refine ⟨_, ns, rfl, SqL.of e1, ?_⟩
        walk_at "go"
        intro l fl
        walk_at "go"
        exact ⟨l, rfl, s5.new fl, h1.kp (Kp.new fl), [ns.sum], upd_same, by simp, by simp, (s5.ne fl).1⟩
      · walk_at "go"
        exact ⟨b, rfl, s5, h1, h2⟩
    · walk_at "go"
      exact ⟨b, rfl, s5, h1, h2⟩
  rintro s' H6 ⟨b, rfl, s6, h1, h2⟩
  walk_at "go"
  refine go_evrL h1 h2 fun H7 k7 => ?_
  have h1 := h1.kp k7
  have h2 := h2.kp k7
  walk_at "go"
  refine go_evrL h2 h1 fun H8 k8 => ?_
  have h1 := h1.kp k8
  have h2 := h2.kp k8
  have s8 := (s6.kp k7).kp k8
  walk_at "go"
  refine go_bentL s8 h1 fun lb H9 s9 k9 h3 => ?_
  have h1 := h1.kpS k9
  have h2 := h2.kpS k9
  walk_at "go"
  refine go_bentL s9 h2 fun lo H10 s10 k10 h4 => ?_
  have h1 := h1.kpS k10
  have h2 := h2.kpS k10
  have h3 := h3.kpS k10
  walk_at "go"
  refine go_evrL h3 h4 fun H11 k11 => ?_
  walk_at "go"
  refine go_evrL (h1.kp k11) (h4.kp k11) fun H12 k12 => ?_
  have k12 := k11.trans k12
  walk_at "go"
  refine go_evrL (h3.kp k12) (h2.kp k12) fun H13 k13 => ?_
  have k13 := k12.trans k13
  walk_at "go"
  intro e1 g1
  walk_at "go"
  have k14 := k13.trans (Kp.new (o := .lst []) g1)
  refine go_evrN upd_same (h4.kp k14) fun H15 k15 => ?_
  have k15 := k14.trans k15
  walk_at "go"
  intro e2 g2
  walk_at "go"
  have k16 := k15.trans (Kp.new (o := .lst []) g2)
  refine go_evrM (h3.kp k16) upd_same fun H17 k17 => ?_
  have k17 := k16.trans k17
  walk_at "go"
  intro e3 g3
  walk_at "go"
  intro e4 g4
  walk_at "go"
  have k18 := (k17.trans (Kp.new (o := .lst []) g3)).trans (Kp.new (o := .lst []) g4)
  refine go_evr (ns := []) (ms := []) (at_upd (ne_new g4 upd_same) upd_same) upd_same (by simp) (by simp) fun H19 k19 => ?_
  have k19 := k18.trans k19
  walk_at "go"
  intro e5 g5
  walk_at "go"
  refine ⟨_, _, _, rfl, rfl, upd_same, by decide, by decide, by decide, fun p5 fp5 => ?_⟩
  walk_at "go"
  have k20 := (k19.trans (Kp.new (o := .lst [.int 1000000]) g5)).trans (Kp.new (o := .lst (List.replicate 8 [V.int 1000000]).flatten) fp5)
  obtain ⟨ms, e2, _, l2, _⟩ := h2.kp k20
  refine go_evr (ns := [1000000, 1000000, 1000000, 1000000, 1000000, 1000000, 1000000, 1000000]) upd_same e2 (by simp) (by omega) fun H21 k21 => ?_
  have k21 := k20.trans k21
  walk_at "go"
  refine go_evrL (h1.kp k21) (h2.kp k21) fun H22 k22 => ?_
  walk_at "go"
  exact q H22
end
end LN
namespace LNH
open PySem PySem.Spec PyProof.Rows L2
theorem tops {P : Program} {w : World} {K : PySem.W.Frag} {h : Heap} {mg : Str → Option Value} {fl : Addr} (X : K.In h) (G : h.Ns mainGlobals mg) (hfa : mg ("law" : Str) = some (.ref fl)) (c : LN.SaysY fa fn ex K) :
    ∃ fd : FuncData, (∀ (s : Shared) (v : Value), BindsTo s fd ⟨[v], []⟩ [("script", v)]) ∧ ∀ base : Heap, K.In base → base.Ns mainGlobals mg → FnOk P w K mg base CX0 8 fl fd ["script"] (LN.spLaw K) := by
  have d0 : He.SaysD fa fn K := c.d
  have g_BadWord : mg "BadWord" = some (.ref (He.ga K "BadWord")) := He.glo_ok X G (d0.fact 30 (f := .glo "BadWord") rfl)
  have g_TooMany : mg "TooMany" = some (.ref (He.ga K "TooMany")) := He.glo_ok X G (d0.fact 31 (f := .glo "TooMany") rfl)
  have g_Empty : mg "Empty" = some (.ref (He.ga K "Empty")) := He.glo_ok X G (d0.fact 32 (f := .glo "Empty") rfl)
  have g_BadLine : mg "BadLine" = some (.ref (He.ga K "BadLine")) := He.glo_ok X G (d0.fact 33 (f := .glo "BadLine") rfl)
  have g_BadRanking : mg "BadRanking" = some (.ref (He.ga K "BadRanking")) := He.glo_ok X G (d0.fact 34 (f := .glo "BadRanking") rfl)
  have g_BadShare : mg "BadShare" = some (.ref (He.ga K "BadShare")) := He.glo_ok X G (d0.fact 35 (f := .glo "BadShare") rfl)
  have g_Doubled : mg "Doubled" = some (.ref (He.ga K "Doubled")) := He.glo_ok X G (d0.fact 36 (f := .glo "Doubled") rfl)
  have g_Unknown : mg "Unknown" = some (.ref (He.ga K "Unknown")) := He.glo_ok X G (d0.fact 37 (f := .glo "Unknown") rfl)
  have g_Unequal : mg "Unequal" = some (.ref (He.ga K "Unequal")) := He.glo_ok X G (d0.fact 38 (f := .glo "Unequal") rfl)
  have g_BadPlace : mg "BadPlace" = some (.ref (He.ga K "BadPlace")) := He.glo_ok X G (d0.fact 39 (f := .glo "BadPlace") rfl)
  have g_BadRange : mg "BadRange" = some (.ref (He.ga K "BadRange")) := He.glo_ok X G (d0.fact 40 (f := .glo "BadRange") rfl)
  have g_TiedRanks : mg "TiedRanks" = some (.ref (He.ga K "TiedRanks")) := He.glo_ok X G (d0.fact 41 (f := .glo "TiedRanks") rfl)
  have g_BadChooser : mg "BadChooser" = some (.ref (He.ga K "BadChooser")) := He.glo_ok X G (d0.fact 42 (f := .glo "BadChooser") rfl)
  have g_Fallen : mg "Fallen" = some (.ref (He.ga K "Fallen")) := He.glo_ok X G (d0.fact 43 (f := .glo "Fallen") rfl)
  have g_Over : mg "Over" = some (.ref (He.ga K "Over")) := He.glo_ok X G (d0.fact 44 (f := .glo "Over") rfl)
  have g_BadStages : mg "BadStages" = some (.ref (He.ga K "BadStages")) := He.glo_ok X G (d0.fact 45 (f := .glo "BadStages") rfl)
  have g_BadSet : mg "BadSet" = some (.ref (He.ga K "BadSet")) := He.glo_ok X G (d0.fact 46 (f := .glo "BadSet") rfl)
  have g_BadWeaving : mg "BadWeaving" = some (.ref (He.ga K "BadWeaving")) := He.glo_ok X G (d0.fact 47 (f := .glo "BadWeaving") rfl)
  have g_TooMuch : mg "TooMuch" = some (.ref (He.ga K "TooMuch")) := He.glo_ok X G (d0.fact 48 (f := .glo "TooMuch") rfl)
  have g_BadTable : mg "BadTable" = some (.ref (He.ga K "BadTable")) := He.glo_ok X G (d0.fact 49 (f := .glo "BadTable") rfl)
  have g_BadSize : mg "BadSize" = some (.ref (He.ga K "BadSize")) := He.glo_ok X G (d0.fact 50 (f := .glo "BadSize") rfl)
  have g_BadOrder : mg "BadOrder" = some (.ref (He.ga K "BadOrder")) := He.glo_ok X G (d0.fact 51 (f := .glo "BadOrder") rfl)
  have g_Unfinished : mg "Unfinished" = some (.ref (He.ga K "Unfinished")) := He.glo_ok X G (d0.fact 52 (f := .glo "Unfinished") rfl)
  have g_BadStrike : mg "BadStrike" = some (.ref (He.ga K "BadStrike")) := He.glo_ok X G (d0.fact 53 (f := .glo "BadStrike") rfl)
  have g_BadSum : mg "BadSum" = some (.ref (He.ga K "BadSum")) := He.glo_ok X G (d0.fact 54 (f := .glo "BadSum") rfl)
  have g_NoBlock : mg "NoBlock" = some (.ref (He.ga K "NoBlock")) := He.glo_ok X G (d0.fact 55 (f := .glo "NoBlock") rfl)
  have g_BadSpan : mg "BadSpan" = some (.ref (He.ga K "BadSpan")) := He.glo_ok X G (d0.fact 56 (f := .glo "BadSpan") rfl)
  have g_OutOfRank : mg "OutOfRank" = some (.ref (He.ga K "OutOfRank")) := He.glo_ok X G (d0.fact 57 (f := .glo "OutOfRank") rfl)
  have g_NotLast : mg "NotLast" = some (.ref (He.ga K "NotLast")) := He.glo_ok X G (d0.fact 58 (f := .glo "NotLast") rfl)
  have g_NoPairing : mg "NoPairing" = some (.ref (He.ga K "NoPairing")) := He.glo_ok X G (d0.fact 59 (f := .glo "NoPairing") rfl)
  have g_BadBargain : mg "BadBargain" = some (.ref (He.ga K "BadBargain")) := He.glo_ok X G (d0.fact 60 (f := .glo "BadBargain") rfl)
  have g_NoBottom : mg "NoBottom" = some (.ref (He.ga K "NoBottom")) := He.glo_ok X G (d0.fact 61 (f := .glo "NoBottom") rfl)
  have g_NotNear : mg "NotNear" = some (.ref (He.ga K "NotNear")) := He.glo_ok X G (d0.fact 62 (f := .glo "NotNear") rfl)
  have g_NotObtainable : mg "NotObtainable" = some (.ref (He.ga K "NotObtainable")) := He.glo_ok X G (d0.fact 63 (f := .glo "NotObtainable") rfl)
  have g_LastName : mg "LastName" = some (.ref (He.ga K "LastName")) := He.glo_ok X G (d0.fact 64 (f := .glo "LastName") rfl)
  have g_Different : mg "Different" = some (.ref (He.ga K "Different")) := He.glo_ok X G (d0.fact 65 (f := .glo "Different") rfl)
  have g_Shared : mg "Shared" = some (.ref (He.ga K "Shared")) := He.glo_ok X G (d0.fact 66 (f := .glo "Shared") rfl)
  have g_Clash : mg "Clash" = some (.ref (He.ga K "Clash")) := He.glo_ok X G (d0.fact 67 (f := .glo "Clash") rfl)
  have g_BadStamp : mg "BadStamp" = some (.ref (He.ga K "BadStamp")) := He.glo_ok X G (d0.fact 68 (f := .glo "BadStamp") rfl)
  have g_BadDeed : mg "BadDeed" = some (.ref (He.ga K "BadDeed")) := He.glo_ok X G (d0.fact 69 (f := .glo "BadDeed") rfl)
  have g_NoPost : mg "NoPost" = some (.ref (He.ga K "NoPost")) := He.glo_ok X G (d0.fact 70 (f := .glo "NoPost") rfl)
  have g_NoDeed : mg "NoDeed" = some (.ref (He.ga K "NoDeed")) := He.glo_ok X G (d0.fact 71 (f := .glo "NoDeed") rfl)
  have g_StampTaken : mg "StampTaken" = some (.ref (He.ga K "StampTaken")) := He.glo_ok X G (d0.fact 72 (f := .glo "StampTaken") rfl)
  have g_OfficeError : mg "OfficeError" = some (.ref (He.ga K "OfficeError")) := He.glo_ok X G (d0.fact 73 (f := .glo "OfficeError") rfl)
  have g_int : mg "int" = none := He.free_ok X G (d0.fact 74 (f := .free "int") rfl)
  have g_len : mg "len" = none := He.free_ok X G (d0.fact 75 (f := .free "len") rfl)
  have g_list : mg "list" = none := He.free_ok X G (d0.fact 76 (f := .free "list") rfl)
  have g_abs : mg "abs" = none := He.free_ok X G (d0.fact 77 (f := .free "abs") rfl)
  have g_range : mg "range" = none := He.free_ok X G (d0.fact 78 (f := .free "range") rfl)
  have g_max : mg "max" = none := He.free_ok X G (d0.fact 79 (f := .free "max") rfl)
  have g_min : mg "min" = none := He.free_ok X G (d0.fact 80 (f := .free "min") rfl)
  have g_isinstance : mg "isinstance" = none := He.free_ok X G (d0.fact 81 (f := .free "isinstance") rfl)
  have g_bool : mg "bool" = none := He.free_ok X G (d0.fact 82 (f := .free "bool") rfl)
  have g_all : mg "all" = none := He.free_ok X G (d0.fact 83 (f := .free "all") rfl)
  have g_str : mg "str" = none := He.free_ok X G (d0.fact 84 (f := .free "str") rfl)
  have g_tuple : mg "tuple" = none := He.free_ok X G (d0.fact 85 (f := .free "tuple") rfl)
  have g_enumerate : mg "enumerate" = none := He.free_ok X G (d0.fact 86 (f := .free "enumerate") rfl)
  have g_sum : mg "sum" = none := He.free_ok X G (d0.fact 87 (f := .free "sum") rfl)
  have g_ValueError : mg "ValueError" = none := He.free_ok X G (d0.fact 88 (f := .free "ValueError") rfl)
  obtain ⟨fd_law_mix, F_law_mix⟩ := d0.def_ 0 (d := d_law_mix) rfl
  have h_law_mix : LN.DefAt K mg "_law_mix" ["one", "two"] LN.s_law_mix := ⟨_, fd_law_mix, He.glo_ok X G (d0.fact 0 (f := .glo "_law_mix") rfl), F_law_mix, F_law_mix.bindsN fun _ _ _ _ _ _ us hl => match us, hl with | [_, _], _ => rfl⟩
  obtain ⟨fd_law_store, F_law_store⟩ := d0.def_ 1 (d := d_law_store) rfl
  have h_law_store : LN.DefAt K mg "_law_store" ["script"] LN.s_law_store := ⟨_, fd_law_store, He.glo_ok X G (d0.fact 1 (f := .glo "_law_store") rfl), F_law_store, F_law_store.bindsN fun _ _ _ _ _ _ us hl => match us, hl with | [_], _ => rfl⟩
  obtain ⟨fd_law_take, F_law_take⟩ := d0.def_ 2 (d := d_law_take) rfl
  have h_law_take : LN.DefAt K mg "_law_take" ["store", "many"] LN.s_law_take := ⟨_, fd_law_take, He.glo_ok X G (d0.fact 2 (f := .glo "_law_take") rfl), F_law_take, F_law_take.bindsN fun _ _ _ _ _ _ us hl => match us, hl with | [_, _], _ => rfl⟩
  obtain ⟨fd_law_number, F_law_number⟩ := d0.def_ 3 (d := d_law_number) rfl
  have h_law_number : LN.DefAt K mg "_law_number" ["store", "many"] LN.s_law_number := ⟨_, fd_law_number, He.glo_ok X G (d0.fact 3 (f := .glo "_law_number") rfl), F_law_number, F_law_number.bindsN fun _ _ _ _ _ _ us hl => match us, hl with | [_, _], _ => rfl⟩
  obtain ⟨fd_law_between, F_law_between⟩ := d0.def_ 4 (d := d_law_between) rfl
  have h_law_between : LN.DefAt K mg "_law_between" ["store", "low", "high"] LN.s_law_between := ⟨_, fd_law_between, He.glo_ok X G (d0.fact 4 (f := .glo "_law_between") rfl), F_law_between, F_law_between.bindsN fun _ _ _ _ _ _ us hl => match us, hl with | [_, _, _], _ => rfl⟩
  obtain ⟨fd_law_near_ends, F_law_near_ends⟩ := d0.def_ 5 (d := d_law_near_ends) rfl
  have h_law_near_ends : LN.DefAt K mg "_law_near_ends" ["store", "low", "high"] LN.s_law_near_ends := ⟨_, fd_law_near_ends, He.glo_ok X G (d0.fact 5 (f := .glo "_law_near_ends") rfl), F_law_near_ends, F_law_near_ends.bindsN fun _ _ _ _ _ _ us hl => match us, hl with | [_, _, _], _ => rfl⟩
  obtain ⟨fd_law_pick, F_law_pick⟩ := d0.def_ 6 (d := d_law_pick) rfl
  have h_law_pick : LN.DefAt K mg "_law_pick" ["store", "row"] LN.s_law_pick := ⟨_, fd_law_pick, He.glo_ok X G (d0.fact 6 (f := .glo "_law_pick") rfl), F_law_pick, F_law_pick.bindsN fun _ _ _ _ _ _ us hl => match us, hl with | [_, _], _ => rfl⟩
  obtain ⟨fd_law_size, F_law_size⟩ := d0.def_ 7 (d := d_law_size) rfl
  have h_law_size : LN.DefAt K mg "_law_size" ["store", "most"] LN.s_law_size := ⟨_, fd_law_size, He.glo_ok X G (d0.fact 7 (f := .glo "_law_size") rfl), F_law_size, F_law_size.bindsN fun _ _ _ _ _ _ us hl => match us, hl with | [_, _], _ => rfl⟩
  obtain ⟨fd_law_shuffled, F_law_shuffled⟩ := d0.def_ 8 (d := d_law_shuffled) rfl
  have h_law_shuffled : LN.DefAt K mg "_law_shuffled" ["store", "row"] LN.s_law_shuffled := ⟨_, fd_law_shuffled, He.glo_ok X G (d0.fact 8 (f := .glo "_law_shuffled") rfl), F_law_shuffled, F_law_shuffled.bindsN fun _ _ _ _ _ _ us hl => match us, hl with | [_, _], _ => rfl⟩
  obtain ⟨fd_law_is_int, F_law_is_int⟩ := d0.def_ 9 (d := d_law_is_int) rfl
  have h_law_is_int : LN.DefAt K mg "_law_is_int" ["told"] LN.s_law_is_int := ⟨_, fd_law_is_int, He.glo_ok X G (d0.fact 9 (f := .glo "_law_is_int") rfl), F_law_is_int, F_law_is_int.bindsN fun _ _ _ _ _ _ us hl => match us, hl with | [_], _ => rfl⟩
  obtain ⟨fd_law_is_ints, F_law_is_ints⟩ := d0.def_ 10 (d := d_law_is_ints) rfl
  have h_law_is_ints : LN.DefAt K mg "_law_is_ints" ["told"] LN.s_law_is_ints := ⟨_, fd_law_is_ints, He.glo_ok X G (d0.fact 10 (f := .glo "_law_is_ints") rfl), F_law_is_ints, F_law_is_ints.bindsN fun _ _ _ _ _ _ us hl => match us, hl with | [_], _ => rfl⟩
  obtain ⟨fd_law_gcd, F_law_gcd⟩ := d0.def_ 11 (d := d_law_gcd) rfl
  have h_law_gcd : LN.DefAt K mg "_law_gcd" ["one", "two"] LN.s_law_gcd := ⟨_, fd_law_gcd, He.glo_ok X G (d0.fact 11 (f := .glo "_law_gcd") rfl), F_law_gcd, F_law_gcd.bindsN fun _ _ _ _ _ _ us hl => match us, hl with | [_, _], _ => rfl⟩
  obtain ⟨fd_law_same, F_law_same⟩ := d0.def_ 12 (d := d_law_same) rfl
  have h_law_same : LN.DefAt K mg "_law_same" ["told", "due"] LN.s_law_same := ⟨_, fd_law_same, He.glo_ok X G (d0.fact 12 (f := .glo "_law_same") rfl), F_law_same, F_law_same.bindsN fun _ _ _ _ _ _ us hl => match us, hl with | [_, _], _ => rfl⟩
  obtain ⟨fd_common_divisor, F_common_divisor⟩ := d0.def_ 13 (d := d_common_divisor) rfl
  have h_common_divisor : LN.DefAt K mg "common_divisor" ["first", "second"] LN.s_common_divisor := ⟨_, fd_common_divisor, He.glo_ok X G (d0.fact 13 (f := .glo "common_divisor") rfl), F_common_divisor, F_common_divisor.bindsN fun _ _ _ _ _ _ us hl => match us, hl with | [_, _], _ => rfl⟩
  obtain ⟨fd_check_amounts, F_check_amounts⟩ := d0.def_ 14 (d := d_check_amounts) rfl
  have h_check_amounts : LN.DefAt K mg "check_amounts" ["amounts", "low", "high"] LN.s_check_amounts := ⟨_, fd_check_amounts, He.glo_ok X G (d0.fact 14 (f := .glo "check_amounts") rfl), F_check_amounts, F_check_amounts.bindsN fun _ _ _ _ _ _ us hl => match us, hl with | [_, _, _], _ => rfl⟩
  obtain ⟨fd_check_shares, F_check_shares⟩ := d0.def_ 15 (d := d_check_shares) rfl
  have h_check_shares : LN.DefAt K mg "check_shares" ["given", "borne"] LN.s_check_shares := ⟨_, fd_check_shares, He.glo_ok X G (d0.fact 15 (f := .glo "check_shares") rfl), F_check_shares, F_check_shares.bindsN fun _ _ _ _ _ _ us hl => match us, hl with | [_, _], _ => rfl⟩
  obtain ⟨fd_evened, F_evened⟩ := d0.def_ 16 (d := d_evened) rfl
  have h_evened : LN.DefAtK K mg "evened" ["given", "borne"] ["borne", "given"] LN.gK LN.gVK LN.s_evened := ⟨_, fd_evened, He.glo_ok X G (d0.fact 16 (f := .glo "evened") rfl), F_evened, F_evened.bindsN fun _ _ _ _ _ _ us hl => match us, hl with | [_, _], _ => rfl, LN.kb2 F_evened fun _ _ _ _ _ _ _ _ => rfl⟩
  obtain ⟨fd_law_due, F_law_due⟩ := d0.def_ 17 (d := d_law_due) rfl
  have h_law_due : LN.DefAt K mg "_law_due" ["one", "two"] LN.s_law_due := ⟨_, fd_law_due, He.glo_ok X G (d0.fact 17 (f := .glo "_law_due") rfl), F_law_due, F_law_due.bindsN fun _ _ _ _ _ _ us hl => match us, hl with | [_, _], _ => rfl⟩
  obtain ⟨fd_law_scaled, F_law_scaled⟩ := d0.def_ 18 (d := d_law_scaled) rfl
  have h_law_scaled : LN.DefAt K mg "_law_scaled" ["told", "row"] LN.s_law_scaled := ⟨_, fd_law_scaled, He.glo_ok X G (d0.fact 18 (f := .glo "_law_scaled") rfl), F_law_scaled, F_law_scaled.bindsN fun _ _ _ _ _ _ us hl => match us, hl with | [_, _], _ => rfl⟩
  obtain ⟨fd_law_strokes_right, F_law_strokes_right⟩ := d0.def_ 19 (d := d_law_strokes_right) rfl
  have h_law_strokes_right : LN.DefAt K mg "_law_strokes_right" ["told", "one", "two"] LN.s_law_strokes_right := ⟨_, fd_law_strokes_right, He.glo_ok X G (d0.fact 19 (f := .glo "_law_strokes_right") rfl), F_law_strokes_right, F_law_strokes_right.bindsN fun _ _ _ _ _ _ us hl => match us, hl with | [_, _, _], _ => rfl⟩
  obtain ⟨fd_law_shares, F_law_shares⟩ := d0.def_ 20 (d := d_law_shares) rfl
  have h_law_shares : LN.DefAt K mg "_law_shares" ["store", "many", "most"] LN.s_law_shares := ⟨_, fd_law_shares, He.glo_ok X G (d0.fact 20 (f := .glo "_law_shares") rfl), F_law_shares, F_law_shares.bindsN fun _ _ _ _ _ _ us hl => match us, hl with | [_, _, _], _ => rfl⟩
  obtain ⟨fd_law_side, F_law_side⟩ := d0.def_ 21 (d := d_law_side) rfl
  have h_law_side : LN.DefAt K mg "_law_side" ["store"] LN.s_law_side := ⟨_, fd_law_side, He.glo_ok X G (d0.fact 21 (f := .glo "_law_side") rfl), F_law_side, F_law_side.bindsN fun _ _ _ _ _ _ us hl => match us, hl with | [_], _ => rfl⟩
  obtain ⟨fd_law_off, F_law_off⟩ := d0.def_ 22 (d := d_law_off) rfl
  have h_law_off : LN.DefAt K mg "_law_off" ["store", "low", "high"] LN.s_law_off := ⟨_, fd_law_off, He.glo_ok X G (d0.fact 22 (f := .glo "_law_off") rfl), F_law_off, F_law_off.bindsN fun _ _ _ _ _ _ us hl => match us, hl with | [_, _, _], _ => rfl⟩
  obtain ⟨fd_law_bent, F_law_bent⟩ := d0.def_ 23 (d := d_law_bent) rfl
  have h_law_bent : LN.DefAt K mg "_law_bent" ["store", "row"] LN.s_law_bent := ⟨_, fd_law_bent, He.glo_ok X G (d0.fact 23 (f := .glo "_law_bent") rfl), F_law_bent, F_law_bent.bindsN fun _ _ _ _ _ _ us hl => match us, hl with | [_, _], _ => rfl⟩
  obtain ⟨fd_law_copy, F_law_copy⟩ := d0.def_ 24 (d := d_law_copy) rfl
  have h_law_copy : LN.DefAt K mg "_law_copy" ["thing"] LN.s_law_copy := ⟨_, fd_law_copy, He.glo_ok X G (d0.fact 24 (f := .glo "_law_copy") rfl), F_law_copy, F_law_copy.bindsN fun _ _ _ _ _ _ us hl => match us, hl with | [_], _ => rfl⟩
  obtain ⟨fd_law_spoil, F_law_spoil⟩ := d0.def_ 25 (d := d_law_spoil) rfl
  have h_law_spoil : LN.DefAt K mg "_law_spoil" ["thing"] LN.s_law_spoil := ⟨_, fd_law_spoil, He.glo_ok X G (d0.fact 25 (f := .glo "_law_spoil") rfl), F_law_spoil, F_law_spoil.bindsN fun _ _ _ _ _ _ us hl => match us, hl with | [_], _ => rfl⟩
  obtain ⟨fd_law_alone, F_law_alone⟩ := d0.def_ 26 (d := d_law_alone) rfl
  have h_law_alone : LN.DefAt K mg "_law_alone" ["e"] LN.s_law_alone := ⟨_, fd_law_alone, He.glo_ok X G (d0.fact 26 (f := .glo "_law_alone") rfl), F_law_alone, F_law_alone.bindsN fun _ _ _ _ _ _ us hl => match us, hl with | [_], _ => rfl⟩
  obtain ⟨fd_law_refused, F_law_refused⟩ := d0.def_ 27 (d := d_law_refused) rfl
  have h_law_refused : LN.DefAt K mg "_law_refused" ["e"] LN.s_law_refused := ⟨_, fd_law_refused, He.glo_ok X G (d0.fact 27 (f := .glo "_law_refused") rfl), F_law_refused, F_law_refused.bindsN fun _ _ _ _ _ _ us hl => match us, hl with | [_], _ => rfl⟩
  obtain ⟨fd_law_evened_right, F_law_evened_right⟩ := d0.def_ 28 (d := d_law_evened_right) rfl
  have h_law_evened_right : LN.DefAt K mg "_law_evened_right" ["one", "two"] LN.s_law_evened_right := ⟨_, fd_law_evened_right, He.glo_ok X G (d0.fact 28 (f := .glo "_law_evened_right") rfl), F_law_evened_right, F_law_evened_right.bindsN fun _ _ _ _ _ _ us hl => match us, hl with | [_, _], _ => rfl⟩
  obtain ⟨fd_law, F_law⟩ := d0.def_ 29 (d := d_law) rfl
  have e := hfa.symm.trans (He.glo_ok X G (d0.fact 29 (f := .glo "law") rfl))
  cases e
  have b_law := FunD.bindsA (ps := ["script"]) F_law fun _ _ _ _ _ _ us hl => match us, hl with | [_], _ => rfl
  refine ⟨fd_law, fun s v => b_law s [v] rfl, fun base _ _ => ?_⟩
  obtain ⟨tk_MOST_SHARE, g_MOST_SHARE⟩ := He.int_ok X G (d0.fact 92 (f := .int "MOST_SHARE" 1000000) rfl)
  have X_Empty := LN.ex0_ok X G (d0.fact 89 (f := .exc "Empty") rfl) (d0.fact 32 (f := .glo "Empty") rfl)
  have hm_Empty := He.exm_ok (d0.fact 90 (f := .exm "Empty" "OfficeError" true) rfl)
  have hm_BadShare := He.exm_ok (d0.fact 91 (f := .exm "BadShare" "OfficeError" true) rfl)
  have no_BadShare_at : PySem.W.findIn K (.ref (He.ga K "BadShare")) "at" = some none := He.eqO_ok (d0.fact 94 (f := .noat "BadShare" "at") rfl)
  have no_Empty_at : PySem.W.findIn K (.ref (He.ga K "Empty")) "at" = some none := He.eqO_ok (d0.fact 95 (f := .noat "Empty" "at") rfl)
  have hx : (LN.clsRow K "Empty" rows && LN.kitNT K "Empty" "ValueError" true && LN.excB K "Empty" && LN.clsRow K "BadShare" rows && LN.kitNT K "BadShare" "ValueError" true && LN.excB K "BadShare" && LN.oexB K "BadShare") = true := c.more
  simp only [Bool.and_eq_true] at hx
  obtain ⟨⟨⟨⟨⟨⟨row_Emptyb, kv_Emptyb⟩, XC_Emptyb⟩, row_BadShareb⟩, kv_BadShareb⟩, XC_BadShareb⟩, XO_BadShareb⟩ := hx
  have row_Empty := id row_Emptyb
  have kv_Empty := of_decide_eq_true kv_Emptyb
  have XC_Empty := LN.excB_ok XC_Emptyb
  have row_BadShare := id row_BadShareb
  have kv_BadShare := of_decide_eq_true kv_BadShareb
  have XC_BadShare := LN.excB_ok XC_BadShareb
  have XO_BadShare := LN.oexB_ok XO_BadShareb
  obtain ⟨fd_init_BadShare, F_init_BadShare⟩ := d0.def_ 30 (d := d_init_BadShare) rfl
  have X_BadShare : LN.Ex1 P w K mg base "BadShare" (He.ga K "BadShare") "at" := ⟨g_BadShare, XO_BadShare, _, fd_init_BadShare, (LN.meth2 (d0.fact 93 (f := .meth "BadShare" "__init__") rfl)).1, (LN.meth2 (d0.fact 93 (f := .meth "BadShare" "__init__") rfl)).2, F_init_BadShare.bindsN fun _ _ _ _ _ _ us hl => match us, hl with | [_, _], _ => rfl, LN.ok_init_BadShare F_init_BadShare XO_BadShare no_BadShare_at⟩
  have D_law_mix := LN.ok_law_mix (P := P) (w := w) (K := K) (mg := mg) (base := base) (k := 0) (h := h_law_mix) (g_int := g_int)
  have D_law_store := LN.ok_law_store (P := P) (w := w) (K := K) (mg := mg) (base := base) (k := 1) (h := h_law_store) (g_len := g_len) (g_list := g_list) (D_law_mix := D_law_mix)
  have D_law_take := LN.ok_law_take (P := P) (w := w) (K := K) (mg := mg) (base := base) (k := 1) (h := h_law_take) (g_len := g_len) (g_abs := g_abs) (g_int := g_int) (D_law_mix := D_law_mix)
  have D_law_number := LN.ok_law_number (P := P) (w := w) (K := K) (mg := mg) (base := base) (k := 2) (h := h_law_number) (g_range := g_range) (D_law_take := D_law_take)
  have D_law_between := LN.ok_law_between (P := P) (w := w) (K := K) (mg := mg) (base := base) (k := 3) (h := h_law_between) (D_law_number := D_law_number)
  have D_law_near_ends := LN.ok_law_near_ends (P := P) (w := w) (K := K) (mg := mg) (base := base) (k := 4) (h := h_law_near_ends) (g_max := g_max) (D_law_take := D_law_take.mono (by decide)) (D_law_between := D_law_between)
  have D_law_pick := LN.ok_law_pick (P := P) (w := w) (K := K) (mg := mg) (base := base) (k := 2) (h := h_law_pick) (g_len := g_len) (D_law_take := D_law_take)
  have D_law_size := LN.ok_law_size (P := P) (w := w) (K := K) (mg := mg) (base := base) (k := 2) (h := h_law_size) (g_min := g_min) (D_law_take := D_law_take)
  have D_law_shuffled := LN.ok_law_shuffled (P := P) (w := w) (K := K) (mg := mg) (base := base) (k := 2) (h := h_law_shuffled) (g_list := g_list) (g_range := g_range) (g_len := g_len) (D_law_take := D_law_take)
  have D_law_is_int := LN.ok_law_is_int (P := P) (w := w) (K := K) (mg := mg) (base := base) (k := 0) (h := h_law_is_int) (g_isinstance := g_isinstance) (g_int := g_int) (g_bool := g_bool)
  have D_law_is_ints := LN.ok_law_is_ints (P := P) (w := w) (K := K) (mg := mg) (base := base) (k := 1) (h := h_law_is_ints) (g_isinstance := g_isinstance) (g_list := g_list) (g_all := g_all) (D_law_is_int := D_law_is_int)
  have D_law_gcd := LN.ok_law_gcd (P := P) (w := w) (K := K) (mg := mg) (base := base) (k := 0) (h := h_law_gcd) (g_abs := g_abs) (g_int := g_int) (g_range := g_range)
  have D_law_same := LN.ok_law_same (P := P) (w := w) (K := K) (mg := mg) (base := base) h_law_same g_isinstance g_bool g_int g_str g_list g_tuple g_len g_range 3
  have D_common_divisor := LN.ok_common_divisor (P := P) (w := w) (K := K) (mg := mg) (base := base) (k := 0) (h := h_common_divisor)
  have D_check_amounts := LN.ok_check_amounts (P := P) (w := w) (K := K) (mg := mg) (base := base) (k := 0) (h := h_check_amounts) (g_enumerate := g_enumerate) (X_BadShare := X_BadShare)
  have D_check_shares := LN.ok_check_shares (P := P) (w := w) (K := K) (mg := mg) (base := base) (k := 3) (h := h_check_shares) (g_list := g_list) (g_MOST_SHARE := g_MOST_SHARE) (D_check_amounts := D_check_amounts)
  have D_evened_kw := LN.ok_evened (P := P) (w := w) (K := K) (mg := mg) (base := base) (k := 4) (h := h_evened) (g_len := g_len) (g_sum := g_sum) (X_Empty := X_Empty) (D_check_shares := D_check_shares) (D_common_divisor := D_common_divisor.mono (by decide))
  have D_law_due := LN.ok_law_due (P := P) (w := w) (K := K) (mg := mg) (base := base) (k := 0) (h := h_law_due) (g_range := g_range) (g_len := g_len)
  have D_law_scaled := LN.ok_law_scaled (P := P) (w := w) (K := K) (mg := mg) (base := base) (k := 2) (h := h_law_scaled) (g_len := g_len) (D_law_is_ints := D_law_is_ints)
  have D_law_strokes_right := LN.ok_law_strokes_right (P := P) (w := w) (K := K) (mg := mg) (base := base) (k := 3) (h := h_law_strokes_right) (g_len := g_len) (g_isinstance := g_isinstance) (g_tuple := g_tuple) (g_sum := g_sum) (D_law_scaled := D_law_scaled) (D_law_gcd := D_law_gcd.mono (by decide))
  have D_law_shares := LN.ok_law_shares (P := P) (w := w) (K := K) (mg := mg) (base := base) (k := 5) (h := h_law_shares) (g_range := g_range) (D_law_take := D_law_take.mono (by decide)) (D_law_near_ends := D_law_near_ends)
  have D_law_side := LN.ok_law_side (P := P) (w := w) (K := K) (mg := mg) (base := base) (k := 6) (h := h_law_side) (g_min := g_min) (D_law_size := D_law_size.mono (by decide)) (D_law_pick := D_law_pick.mono (by decide)) (D_law_take := D_law_take.mono (by decide)) (D_law_shares := D_law_shares)
  have D_law_off := LN.ok_law_off (P := P) (w := w) (K := K) (mg := mg) (base := base) (k := 2) (h := h_law_off) (D_law_take := D_law_take)
  have D_law_bent := LN.ok_law_bent (P := P) (w := w) (K := K) (mg := mg) (base := base) (k := 3) (h := h_law_bent) (g_list := g_list) (g_range := g_range) (g_len := g_len) (D_law_take := D_law_take.mono (by decide)) (D_law_off := D_law_off)
  have D_law_copy := LN.ok_law_copy (P := P) (w := w) (K := K) (mg := mg) (base := base) h_law_copy g_isinstance g_list g_tuple 3
  have D_law_spoil := LN.ok_law_spoil (P := P) (w := w) (K := K) (mg := mg) (base := base) h_law_spoil g_isinstance g_list g_tuple g_len 3
  have A_Empty := LN.ok_law_alone (P := P) (w := w) (K := K) (mg := mg) (base := base) (k := 0) (C := He.ga K "Empty") (h := h_law_alone) (g_isinstance := g_isinstance) (g_ValueError := g_ValueError) (g_BadWord := g_BadWord) (g_TooMany := g_TooMany) (g_Empty := g_Empty) (g_BadLine := g_BadLine) (g_BadRanking := g_BadRanking) (g_BadShare := g_BadShare) (g_Doubled := g_Doubled) (g_Unknown := g_Unknown) (g_Unequal := g_Unequal) (g_BadPlace := g_BadPlace) (g_BadRange := g_BadRange) (g_TiedRanks := g_TiedRanks) (g_BadChooser := g_BadChooser) (g_Fallen := g_Fallen) (g_Over := g_Over) (g_BadStages := g_BadStages) (g_BadSet := g_BadSet) (g_BadWeaving := g_BadWeaving) (g_TooMuch := g_TooMuch) (g_BadTable := g_BadTable) (g_BadSize := g_BadSize) (g_BadOrder := g_BadOrder) (g_Unfinished := g_Unfinished) (g_BadStrike := g_BadStrike) (g_BadSum := g_BadSum) (g_NoBlock := g_NoBlock) (g_BadSpan := g_BadSpan) (g_OutOfRank := g_OutOfRank) (g_NotLast := g_NotLast) (g_NoPairing := g_NoPairing) (g_BadBargain := g_BadBargain) (g_NoBottom := g_NoBottom) (g_NotNear := g_NotNear) (g_NotObtainable := g_NotObtainable) (g_LastName := g_LastName) (g_Different := g_Different) (g_Shared := g_Shared) (g_Clash := g_Clash) (g_BadStamp := g_BadStamp) (g_BadDeed := g_BadDeed) (g_NoPost := g_NoPost) (g_NoDeed := g_NoDeed) (g_StampTaken := g_StampTaken) (g_OfficeError := g_OfficeError) (XC := XC_Empty) (k_BadLine := LN.clsRow_at row_Empty 1 rfl) (k_Empty := LN.clsRow_at row_Empty 2 rfl) (k_TooMany := LN.clsRow_at row_Empty 3 rfl) (k_BadWord := LN.clsRow_at row_Empty 4 rfl) (k_OfficeError := LN.clsRow_at row_Empty 0 rfl) (k_Doubled := LN.clsRow_at row_Empty 5 rfl) (k_BadShare := LN.clsRow_at row_Empty 6 rfl) (k_BadRanking := LN.clsRow_at row_Empty 7 rfl) (k_BadRange := LN.clsRow_at row_Empty 8 rfl) (k_BadPlace := LN.clsRow_at row_Empty 9 rfl) (k_Unequal := LN.clsRow_at row_Empty 10 rfl) (k_Unknown := LN.clsRow_at row_Empty 11 rfl) (k_Over := LN.clsRow_at row_Empty 12 rfl) (k_Fallen := LN.clsRow_at row_Empty 13 rfl) (k_BadChooser := LN.clsRow_at row_Empty 14 rfl) (k_TiedRanks := LN.clsRow_at row_Empty 15 rfl) (k_BadWeaving := LN.clsRow_at row_Empty 16 rfl) (k_BadSet := LN.clsRow_at row_Empty 17 rfl) (k_BadStages := LN.clsRow_at row_Empty 18 rfl) (k_BadOrder := LN.clsRow_at row_Empty 19 rfl) (k_BadSize := LN.clsRow_at row_Empty 20 rfl) (k_BadTable := LN.clsRow_at row_Empty 21 rfl) (k_TooMuch := LN.clsRow_at row_Empty 22 rfl) (k_BadSum := LN.clsRow_at row_Empty 23 rfl) (k_BadStrike := LN.clsRow_at row_Empty 24 rfl) (k_Unfinished := LN.clsRow_at row_Empty 25 rfl) (k_OutOfRank := LN.clsRow_at row_Empty 26 rfl) (k_BadSpan := LN.clsRow_at row_Empty 27 rfl) (k_NoBlock := LN.clsRow_at row_Empty 28 rfl) (k_BadBargain := LN.clsRow_at row_Empty 29 rfl) (k_NoPairing := LN.clsRow_at row_Empty 30 rfl) (k_NotLast := LN.clsRow_at row_Empty 31 rfl) (k_NotObtainable := LN.clsRow_at row_Empty 32 rfl) (k_NotNear := LN.clsRow_at row_Empty 33 rfl) (k_NoBottom := LN.clsRow_at row_Empty 34 rfl) (k_Clash := LN.clsRow_at row_Empty 35 rfl) (k_Shared := LN.clsRow_at row_Empty 36 rfl) (k_Different := LN.clsRow_at row_Empty 37 rfl) (k_LastName := LN.clsRow_at row_Empty 38 rfl) (k_NoPost := LN.clsRow_at row_Empty 39 rfl) (k_BadDeed := LN.clsRow_at row_Empty 40 rfl) (k_BadStamp := LN.clsRow_at row_Empty 41 rfl) (k_StampTaken := LN.clsRow_at row_Empty 42 rfl) (k_NoDeed := LN.clsRow_at row_Empty 43 rfl) (hc := by decide +kernel) (ho := by decide +kernel) (kv := kv_Empty)
  have A_BadShare := LN.ok_law_alone (P := P) (w := w) (K := K) (mg := mg) (base := base) (k := 0) (C := He.ga K "BadShare") (h := h_law_alone) (g_isinstance := g_isinstance) (g_ValueError := g_ValueError) (g_BadWord := g_BadWord) (g_TooMany := g_TooMany) (g_Empty := g_Empty) (g_BadLine := g_BadLine) (g_BadRanking := g_BadRanking) (g_BadShare := g_BadShare) (g_Doubled := g_Doubled) (g_Unknown := g_Unknown) (g_Unequal := g_Unequal) (g_BadPlace := g_BadPlace) (g_BadRange := g_BadRange) (g_TiedRanks := g_TiedRanks) (g_BadChooser := g_BadChooser) (g_Fallen := g_Fallen) (g_Over := g_Over) (g_BadStages := g_BadStages) (g_BadSet := g_BadSet) (g_BadWeaving := g_BadWeaving) (g_TooMuch := g_TooMuch) (g_BadTable := g_BadTable) (g_BadSize := g_BadSize) (g_BadOrder := g_BadOrder) (g_Unfinished := g_Unfinished) (g_BadStrike := g_BadStrike) (g_BadSum := g_BadSum) (g_NoBlock := g_NoBlock) (g_BadSpan := g_BadSpan) (g_OutOfRank := g_OutOfRank) (g_NotLast := g_NotLast) (g_NoPairing := g_NoPairing) (g_BadBargain := g_BadBargain) (g_NoBottom := g_NoBottom) (g_NotNear := g_NotNear) (g_NotObtainable := g_NotObtainable) (g_LastName := g_LastName) (g_Different := g_Different) (g_Shared := g_Shared) (g_Clash := g_Clash) (g_BadStamp := g_BadStamp) (g_BadDeed := g_BadDeed) (g_NoPost := g_NoPost) (g_NoDeed := g_NoDeed) (g_StampTaken := g_StampTaken) (g_OfficeError := g_OfficeError) (XC := XC_BadShare) (k_BadLine := LN.clsRow_at row_BadShare 1 rfl) (k_Empty := LN.clsRow_at row_BadShare 2 rfl) (k_TooMany := LN.clsRow_at row_BadShare 3 rfl) (k_BadWord := LN.clsRow_at row_BadShare 4 rfl) (k_OfficeError := LN.clsRow_at row_BadShare 0 rfl) (k_Doubled := LN.clsRow_at row_BadShare 5 rfl) (k_BadShare := LN.clsRow_at row_BadShare 6 rfl) (k_BadRanking := LN.clsRow_at row_BadShare 7 rfl) (k_BadRange := LN.clsRow_at row_BadShare 8 rfl) (k_BadPlace := LN.clsRow_at row_BadShare 9 rfl) (k_Unequal := LN.clsRow_at row_BadShare 10 rfl) (k_Unknown := LN.clsRow_at row_BadShare 11 rfl) (k_Over := LN.clsRow_at row_BadShare 12 rfl) (k_Fallen := LN.clsRow_at row_BadShare 13 rfl) (k_BadChooser := LN.clsRow_at row_BadShare 14 rfl) (k_TiedRanks := LN.clsRow_at row_BadShare 15 rfl) (k_BadWeaving := LN.clsRow_at row_BadShare 16 rfl) (k_BadSet := LN.clsRow_at row_BadShare 17 rfl) (k_BadStages := LN.clsRow_at row_BadShare 18 rfl) (k_BadOrder := LN.clsRow_at row_BadShare 19 rfl) (k_BadSize := LN.clsRow_at row_BadShare 20 rfl) (k_BadTable := LN.clsRow_at row_BadShare 21 rfl) (k_TooMuch := LN.clsRow_at row_BadShare 22 rfl) (k_BadSum := LN.clsRow_at row_BadShare 23 rfl) (k_BadStrike := LN.clsRow_at row_BadShare 24 rfl) (k_Unfinished := LN.clsRow_at row_BadShare 25 rfl) (k_OutOfRank := LN.clsRow_at row_BadShare 26 rfl) (k_BadSpan := LN.clsRow_at row_BadShare 27 rfl) (k_NoBlock := LN.clsRow_at row_BadShare 28 rfl) (k_BadBargain := LN.clsRow_at row_BadShare 29 rfl) (k_NoPairing := LN.clsRow_at row_BadShare 30 rfl) (k_NotLast := LN.clsRow_at row_BadShare 31 rfl) (k_NotObtainable := LN.clsRow_at row_BadShare 32 rfl) (k_NotNear := LN.clsRow_at row_BadShare 33 rfl) (k_NoBottom := LN.clsRow_at row_BadShare 34 rfl) (k_Clash := LN.clsRow_at row_BadShare 35 rfl) (k_Shared := LN.clsRow_at row_BadShare 36 rfl) (k_Different := LN.clsRow_at row_BadShare 37 rfl) (k_LastName := LN.clsRow_at row_BadShare 38 rfl) (k_NoPost := LN.clsRow_at row_BadShare 39 rfl) (k_BadDeed := LN.clsRow_at row_BadShare 40 rfl) (k_BadStamp := LN.clsRow_at row_BadShare 41 rfl) (k_StampTaken := LN.clsRow_at row_BadShare 42 rfl) (k_NoDeed := LN.clsRow_at row_BadShare 43 rfl) (hc := by decide +kernel) (ho := by decide +kernel) (kv := kv_BadShare)
  have D_law_refused := LN.ok_law_refused (P := P) (w := w) (K := K) (mg := mg) (base := base) (k := 1) (h := h_law_refused) (g_isinstance := g_isinstance) (g_Empty := g_Empty) (g_BadShare := g_BadShare) (X0 := XC_Empty) (X1 := XC_BadShare) (n0 := no_Empty_at) (n1 := no_BadShare_at) (k00 := LN.clsRow_at row_Empty 2 rfl) (k10 := LN.clsRow_at row_BadShare 2 rfl) (k11 := LN.clsRow_at row_BadShare 6 rfl) (A0 := A_Empty) (A1 := A_BadShare)
  have D_law_evened_right := LN.ok_law_evened_right (P := P) (w := w) (K := K) (mg := mg) (base := base) (k := 5) (h := h_law_evened_right) (g_list := g_list) (g_range := g_range) (g_OfficeError := g_OfficeError) (m0 := hm_Empty) (m1 := hm_BadShare) (D_law_due := D_law_due.mono (by decide)) (D_evened_kw := D_evened_kw) (D_law_refused := D_law_refused.mono (by decide)) (D_law_same := D_law_same.mono (by decide)) (D_law_copy := D_law_copy.mono (by decide)) (D_law_strokes_right := D_law_strokes_right.mono (by decide)) (D_law_spoil := D_law_spoil.mono (by decide))
  exact LN.ok_law (P := P) (w := w) (K := K) (mg := mg) (base := base) (k := 7) (h := F_law) (g_sum := g_sum) (D_law_store := D_law_store.mono (by decide)) (D_law_side := D_law_side) (D_law_take := D_law_take.mono (by decide)) (D_law_shuffled := D_law_shuffled.mono (by decide)) (D_law_bent := D_law_bent.mono (by decide)) (D_law_evened_right := D_law_evened_right.mono (by decide))
end LNH
open PySem PySem.W PySem.Calls PyProof.Rows
set_option maxHeartbeats 0
theorem PySem.Challenge.cw_lastnamed_k03_evened_holds : PySem.Challenge.rw_lastnamed_k03_evened.Holds := by
  w_on; o_law
  refine HandSHeadRun.head_any (r := OpenLaw.row PySem.Challenge.rw_lastnamed_k03_evened) (q := view (OpenLaw.row PySem.Challenge.rw_lastnamed_k03_evened).prog [78]) (H := LNH.hk) (ob := LNH.ob) (M := 20000) (loose := LNH.names) (d := HandSHeadRun.topDef (OpenLaw.row PySem.Challenge.rw_lastnamed_k03_evened).prog 78) (kwd := []) LNH.ob_eq
    (by kernel_rfl) (fun s => by kernel_rfl) LNH.run (by kernel_rfl) (by kernel_rfl) (by kernel_rfl) (by rfl) (by first | assumption | decide +kernel) (by decide +kernel) ⟨rfl, rfl, rfl, rfl, rfl, by decide +kernel⟩ ?hw ?hc
  case hw => w_witness2
  case hc =>
    refine L2.walk_ofE (l := PySem.Challenge.rw_lastnamed_k03_evened) (n := 63) (k := 8) (x := "script") (CX := L2.CX0) rfl (by decide) (by kernel_rfl) ⟨rfl, by decide, by decide⟩ ?F (fun _ _ _ _ z => z)
    intro w mg fa h Y G hmg0
    obtain ⟨K, KX, c⟩ := Y
    have hmg : mg ("law" : PySem.Str) = some (.ref fa) := by
      have e : (HandSHeadRun.topDef (OpenLaw.row PySem.Challenge.rw_lastnamed_k03_evened).prog 78).name = ("law" : PySem.Str) := by kernel_rfl
      rw [← e]
      exact hmg0
    obtain ⟨fd, hb, hF⟩ := LNH.tops (P := PySem.Challenge.rw_lastnamed_k03_evened.prog) (w := w) KX G hmg c
    exact ⟨K, fd, LN.spLaw K, KX, hb, fun H a ns hl _ hS => ⟨a, ns, rfl, hS, fun _ => rfl⟩, hF⟩
