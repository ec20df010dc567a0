import PyProof.Rows.All
import Wide.All
import OpenK.AllK
import Wide.FinOn
import HandS.ForMost
import HandS.ForExc
import HandS.Wide
import HandS.IsInst
import HandS.Defaults
import HandS.Flow
import HandS.Codes
import HandS.ExcIs
import HandS.ExcField
import HandS.ExcInit
import KE.KExcIs
import HandS.HotCalls
import HandS.SetFor
import HandS.SortInts
import HandS.Conv
import HandS.Property
import HandS.HeadHook1
import HandS.HeadHook2
import HandS.HeadHook3
import HandS.HeadHook4
import KE.KStateDown
import HandS.Head0
import HandS.Head1
import HandS.Head2
import HandS.HeadEnd
import HandS.HeadNt
import PySem.Challenge.RW_lastnamed_k17_widest_block_holds_every_s
set_option Elab.async false
set_option linter.all false
set_option maxRecDepth 100000
set_option maxHeartbeats 1000000
set_option Elab.async false
set_option linter.all false
set_option maxRecDepth 100000
namespace LN
open PySem PySem.Spec PyProof.Rows L2
abbrev St := L2.St
/-! ### slots -/
inductive GetAt : St → Nat → V → Prop
  | zero {l v} : GetAt (some v :: l) 0 v
  | succ {l i v x} : GetAt l i v → GetAt (x :: l) (i + 1) v
theorem GetAt.eq {s i v} (h : GetAt s i v) : s[i]? = some (some v) := by
  induction h with
  | zero => rfl
  | succ _ ih => simpa using ih
inductive SetTo {A : Type} : List A → Nat → A → List A → Prop
  | zero {x l v} : SetTo (x :: l) 0 v (v :: l)
  | succ {l i v x r} : SetTo l i v r → SetTo (x :: l) (i + 1) v (x :: r)
theorem SetTo.eq {A : Type} {s : List A} {i v r} (h : SetTo s i v r) : s.set i v = r := by
  induction h with
  | zero => rfl
  | succ _ ih => simp [ih]
theorem SetTo.lt {A : Type} {s : List A} {i v r} (h : SetTo s i v r) : i < s.length := by
  induction h with
  | zero => simp
  | succ _ ih => simpa using ih
inductive StartTo : List Str → List V → St → Prop
  | nil : StartTo [] [] []
  | non {x N s} : StartTo N [] s → StartTo (x :: N) [] (none :: s)
  | cons {x N v vs s} : StartTo N vs s → StartTo (x :: N) (v :: vs) (some v :: s)
theorem StartTo.eq {N vs s} (h : StartTo N vs s) : L2.start N vs = s := by
  unfold L2.start
  induction h with
  | nil => rfl
  | @non x N s _ ih =>
    simp only [List.map_nil, List.length_nil, Nat.sub_zero, List.nil_append, List.length_cons] at ih ⊢
    rw [List.replicate_succ, ih]
  | @cons x N v vs s _ ih =>
    simp only [List.map_cons, List.length_cons, Nat.add_sub_add_right, List.cons_append]
    rw [ih]
/-! ### keeping: all but the objects of M stand as they stood -/
def Kp (M : List Addr) (H H' : Hp) : Prop := ∀ b o, b ∉ M → H b = some o → H' b = some o
theorem Kp.refl {M H} : Kp M H H := fun _ _ _ h => h
theorem Kp.trans {M H H1 H2} (a : Kp M H H1) (b : Kp M H1 H2) : Kp M H H2 := fun x o n h => b x o n (a x o n h)
theorem Kp.mono {M M' H H'} (a : Kp M H H') (s : ∀ x, x ∈ M → x ∈ M') : Kp M' H H' := fun x o n h => a x o (fun z => n (s x z)) h
theorem Kp.any {M H H'} (a : Kp [] H H') : Kp M H H' := fun x o _ h => a x o (by simp) h
theorem Kp.get {M H H' b o} (a : Kp M H H') (n : b ∉ M) (h : H b = some o) : H' b = some o := a b o n h
theorem Kp.new {M H p o} (h : H p = none) : Kp M H (upd H p o) := fun b u _ e => by
  rw [upd_ne (ne_of_none e h)]
  exact e
theorem Kp.put {M H p o} (h : p ∈ M) : Kp M H (upd H p o) := fun b u n e => by
  rw [upd_ne (fun z => n (by rw [z]; exact h))]
  exact e
/-- a change at an object that the first heap did not know -/
theorem Kp.mut {M H H' p o} (a : Kp M H H') (h : H p = none) : Kp M H (upd H' p o) := fun b u n e => by
  rw [upd_ne (ne_of_none e h)]
  exact a b u n e
theorem Kp.putR {M H H' p o} (a : Kp M H H') (h : p ∈ M) : Kp M H (upd H' p o) := a.trans (Kp.put h)
/-- free in the later heap: free in the elder one (where it is no object of M) -/
theorem Kp.free {M H H' p} (a : Kp M H H') (n : p ∉ M) (h : H' p = none) : H p = none := by
  cases e : H p with
  | none => rfl
  | some o =>
    rw [a p o n e] at h
    cases h
theorem Kp.freeS {M H H' p} (a : Kp M H H') (hM : ∀ x, x ∈ M → ∃ o, H' x = some o) (h : H' p = none) : H p = none :=
  a.free (fun z => by
    obtain ⟨o, e⟩ := hM p z
    rw [h] at e
    cases e) h
theorem Kp.sq {K M H H' a xs} (k : Kp M H H') (n : a ∉ M) (h : SqL K H a xs) : SqL K H' a xs := by
  rcases h with (h | ⟨o, h⟩) | h
  · exact .inl (.inl (k _ _ n h))
  · exact .inl (.inr ⟨o, k _ _ n h⟩)
  · exact .inr h
theorem Kp.st {K M H H' a xs} (k : Kp M H H') (n : a ∉ M) (h : SqT K H a xs) : SqT K H' a xs := by
  rcases h with (h | ⟨o, h⟩) | h
  · exact .inl (.inl (k _ _ n h))
  · exact .inl (.inr ⟨o, k _ _ n h⟩)
  · exact .inr h
theorem nil_mem {a : Addr} : a ∉ ([] : List Addr) := by simp
theorem one_mem {a b : Addr} (h : a ≠ b) : a ∉ ([b] : List Addr) := by simpa using h
theorem two_mem {a b c : Addr} (h : a ≠ b) (h' : a ≠ c) : a ∉ ([b, c] : List Addr) := by simp [h, h']
theorem at_upd {H : Hp} {a b : Addr} {o u : HO} (n : a ≠ b) (h : H a = some o) : upd H b u a = some o := by
  rw [upd_ne n]
  exact h
theorem free_upd {H : Hp} {a b : Addr} {u : HO} (h : upd H b u a = none) : H a = none ∧ a ≠ b := by
  by_cases e : a = b
  · subst e
    rw [upd_same] at h
    cases h
  · rw [upd_ne e] at h
    exact ⟨h, e⟩
theorem sq_new {K} {H : Hp} {a b : Addr} {u : HO} {xs} (n : H b = none) (h : SqL K H a xs) : SqL K (upd H b u) a xs := (Kp.new (M := []) n).sq nil_mem h
theorem st_new {K} {H : Hp} {a b : Addr} {u : HO} {xs} (n : H b = none) (h : SqT K H a xs) : SqT K (upd H b u) a xs := (Kp.new (M := []) n).st nil_mem h
theorem sq_upd {K} {H : Hp} {a b : Addr} {u : HO} {xs} (n : a ≠ b) (h : SqL K H a xs) : SqL K (upd H b u) a xs := (Kp.put (M := [b]) (by simp)).sq (one_mem n) h
theorem st_upd {K} {H : Hp} {a b : Addr} {u : HO} {xs} (n : a ≠ b) (h : SqT K H a xs) : SqT K (upd H b u) a xs := (Kp.put (M := [b]) (by simp)).st (one_mem n) h
theorem ne_new {H : Hp} {a b : Addr} {o : HO} (h : H b = none) (h' : H a = some o) : a ≠ b := ne_of_none h' h
theorem ne_new' {H : Hp} {a b : Addr} {o : HO} (h : H b = none) (h' : H a = some o) : b ≠ a := (ne_of_none h' h).symm
theorem ix_tupB {X : Cx} {K : PySem.W.Frag} (e : X.K = K := by rfl) : IxR X (rIxT K) := by subst e; exact ix_tup
theorem ix_listB {X : Cx} {K : PySem.W.Frag} (e : X.K = K := by rfl) : IxR X (rIxL K) := by subst e; exact ix_list
/-! ### a def of the text, as callers meet it -/
def Okk (P : Program) (w : World) (K : PySem.W.Frag) (mg : Str → Option Value) (base : Heap) (CX : CXT) (k : Nat) (x : Str) (ps : List Str) (sp : Sp) : Prop :=
  ∃ f fd, mg x = some (.ref f) ∧ PySem.W.keepIn K (.ref f) = true ∧ Binds K fd ps [] ∧ FnOk P w K mg base CX k f fd ps sp
def DefAt (K : PySem.W.Frag) (mg : Str → Option Value) (x : Str) (ps : List Str) (st : Stmt) : Prop :=
  ∃ f fd, mg x = some (.ref f) ∧ FunD K x x (defArgs st) (defBody st) (defScope st) [] [] f fd ∧ Binds K fd ps []
section
variable {P : Program} {w : World} {K : PySem.W.Frag} {mg : Str → Option Value} {base : Heap} {CX : CXT}
theorem Okk.mono {j k : Nat} {x : Str} {ps : List Str} {sp : Sp} (h : Okk P w K mg base CX j x ps sp) (l : j ≤ k) : Okk P w K mg base CX k x ps sp := by
  obtain ⟨f, fd, a, b, c, d⟩ := h
  exact ⟨f, fd, a, b, c, d.mono l⟩
theorem Okk.imp {k : Nat} {x : Str} {ps : List Str} {sp sp' : Sp} (h : Okk P w K mg base CX k x ps sp) (l : ∀ vs H Q E, sp' vs H Q E → sp vs H Q E) : Okk P w K mg base CX k x ps sp' := by
  obtain ⟨f, fd, a, b, c, d⟩ := h
  exact ⟨f, fd, a, b, c, d.imp l⟩
/-- THE RULE for a def's body, the slots written out -/
theorem DefAt.ok {x : Str} {ps N : List Str} {st : Stmt} {k : Nat} {sp : Sp} (h : DefAt K mg x ps st) (S : FnScope N ps (defScope st)) (len : ∀ vs H Q E, sp vs H Q E → vs.length = ps.length)
    (hb : ∀ (cdv : Value) (f : Addr) (A : Around) (outer : List Env) (s : Shared) (H : Hp) (vs : List V) (Q : VK) (E : XK), Room k (A.deeper (envOfC x (defScope st) s.heap.objs.size f cdv)) → sp vs H Q E →
      ∃ t, PSs (cxOf CX P w K mg base N x (defScope st) f cdv A outer s H E).nox (defBody st) t ∧ ∃ sg, StartTo N vs sg ∧ t { nx := fun _ H' => Q .non H', rt := Q } sg H) : Okk P w K mg base CX (k + 1) x ps sp := by
  obtain ⟨f, fd, a, F, c⟩ := h
  refine ⟨f, fd, a, F.kp, c, F.ok S len fun cdv A outer s H vs Q E hr hs => ?_⟩
  obtain ⟨t, h1, sg, h2, h3⟩ := hb cdv f A outer s H vs Q E hr hs
  exact ⟨t, h1.nox, h2.eq ▸ h3⟩
/-- .. of the law's own def, whose object the end names -/
theorem okL {x : Str} {ps N : List Str} {st : Stmt} {k : Nat} {sp : Sp} {f : Addr} {fd : FuncData} (F : FunD K x x (defArgs st) (defBody st) (defScope st) [] [] f fd) (S : FnScope N ps (defScope st)) (len : ∀ vs H Q E, sp vs H Q E → vs.length = ps.length)
    (hb : ∀ (cdv : Value) (f : Addr) (A : Around) (outer : List Env) (s : Shared) (H : Hp) (vs : List V) (Q : VK) (E : XK), Room k (A.deeper (envOfC x (defScope st) s.heap.objs.size f cdv)) → sp vs H Q E →
      ∃ t, PSs (cxOf CX P w K mg base N x (defScope st) f cdv A outer s H E).nox (defBody st) t ∧ ∃ sg, StartTo N vs sg ∧ t { nx := fun _ H' => Q .non H', rt := Q } sg H) : FnOk P w K mg base CX (k + 1) f fd ps sp :=
  F.ok S len fun cdv A outer s H vs Q E hr hs => by
    obtain ⟨t, h1, sg, h2, h3⟩ := hb cdv f A outer s H vs Q E hr hs
    exact ⟨t, h1.nox, h2.eq ▸ h3⟩
/-- .. of a def that may raise -/
theorem DefAt.okX {x : Str} {ps N : List Str} {st : Stmt} {k : Nat} {sp : Sp} (h : DefAt K mg x ps st) (S : FnScope N ps (defScope st)) (len : ∀ vs H Q E, sp vs H Q E → vs.length = ps.length)
    (hb : ∀ (cdv : Value) (f : Addr) (A : Around) (outer : List Env) (s : Shared) (H : Hp) (vs : List V) (Q : VK) (E : XK), Room k (A.deeper (envOfC x (defScope st) s.heap.objs.size f cdv)) → sp vs H Q E →
      ∃ t, PSs (cxOf (L2.CX P w) P w K mg base N x (defScope st) f cdv A outer s H E) (defBody st) t ∧ ∃ sg, StartTo N vs sg ∧ t { nx := fun _ H' => Q .non H', rt := Q } sg H) : Okk P w K mg base (L2.CX P w) (k + 1) x ps sp := by
  obtain ⟨f, fd, a, F, c⟩ := h
  refine ⟨f, fd, a, F.kp, c, F.ok S len fun cdv A outer s H vs Q E hr hs => ?_⟩
  obtain ⟨t, h1, sg, h2, h3⟩ := hb cdv f A outer s H vs Q E hr hs
  exact ⟨t, h1, h2.eq ▸ h3⟩
end
section
variable {X : Cx} {k : Nat} {x : Str} {ps : List Str} {sp : Sp} {e : Expr} {es : List Expr} {t : TA} {p pos : Pos} {E : XK} {CX : CXT}
theorem pe_own (D : Okk X.prog X.w X.K X.mg X.base CX0 k x ps sp) (hr : Room k X.A) (ha : PA X (e :: es) t) (hg : Gl X x := by rfl)
    (hdb : (x == ("__debug__" : Str)) = false := by decide) (he : starEach (e :: es) X.env = (false, eval e X.env) :: starEach es X.env := by rfl) (hpl : (backTo pos (starEach es X.env)).any (·.1) = false := by rfl) :
    PE X (.Call (.Name x p) (e :: es) [] pos) (tCall sp [] E0 t) := by
  obtain ⟨f, fd, a, b, c, d⟩ := D
  exact pe_call d hr hg a b c .nil pass0 ha hdb he hpl
theorem pe_own0 (D : Okk X.prog X.w X.K X.mg X.base CX0 k x ps sp) (hr : Room k X.A) (hg : Gl X x := by rfl) (hdb : (x == ("__debug__" : Str)) = false := by decide) :
    PE X (.Call (.Name x p) [] [] pos) (tCall sp [] E0 tNil) := by
  obtain ⟨f, fd, a, b, c, d⟩ := D
  exact pe_call0 d hr hg a b c .nil pass0 hdb
end
/-! ### operators, built-ins by named readings -/
section
variable {X : Cx}
theorem CallR.imp {f : Value} {r r' : List V → Hp → VK → Prop} (h : CallR X f r) (i : ∀ xs H Q, r' xs H Q → r xs H Q) : CallR X f r' :=
  fun pins s σ H xs us Q I rr hh => h pins s σ H xs us Q I rr (i xs H Q hh)
def rInt1 : List V → Hp → VK → Prop := fun xs H Q => ∃ i, xs = [.int i] ∧ Q (.int i) H
theorem cr_int : CallR X (.type "int") rInt1 := CallR.imp call_int1 fun _ _ _ h => .inl h
def absI (i : Int) : Int := if i < 0 then -i else i
def rAbs : List V → Hp → VK → Prop := fun xs H Q => ∃ i, xs = [.int i] ∧ Q (.int (absI i)) H
theorem cr_abs : CallR X (.builtin "abs") rAbs := call_abs
def rLenS (K : PySem.W.Frag) : List V → Hp → VK → Prop := fun xs H Q => ∃ p ys, xs = [.ref p] ∧ (SqL K H p ys ∨ SqT K H p ys) ∧ Q (.int ys.length) H
theorem cr_len : CallR X (.builtin "len") (rLenS X.K) := call_len_seq
def rListS (K : PySem.W.Frag) : List V → Hp → VK → Prop := fun xs H Q => ∃ p ys, xs = [.ref p] ∧ (SqL K H p ys ∨ SqT K H p ys) ∧ ∀ l, H l = none → Q (.ref l) (upd H l (.lst ys))
theorem cr_list : CallR X (.type "list") (rListS X.K) := call_list_of
def rMax2 : List V → Hp → VK → Prop := fun xs H Q => ∃ i j, xs = [.int i, .int j] ∧ Q (.int (if j > i then j else i)) H
theorem cr_max2 (hc : X.calm = true) : CallR X (.builtin "max") rMax2 := call_max2 hc
def rMin2 : List V → Hp → VK → Prop := fun xs H Q => ∃ i j, xs = [.int i, .int j] ∧ Q (.int (if j < i then j else i)) H
theorem cr_min2 (hc : X.calm = true) : CallR X (.builtin "min") rMin2 := call_min2 hc
def CPowW (i j : Int) : Prop := 0 ≤ j ∧ (Builtin.Int.intBits i : Int) * j ≤ 2 ^ 27
theorem op_powW : OpR X (binaryOp .Pow) (rI CPowW fun i j => .int (i ^ j.toNat)) := opI fun _ _ _ _ _ _ _ hc q => pow_int hc.1 hc.2 q
end
section
variable {X : Cx}
/-- // by any great divisor but 0 -/
def CDivZ (_ j : Int) : Prop := j ≠ 0 ∧ j.natAbs.log2 < 9000
theorem op_fdivZ : OpR X (binaryOp .FloorDiv) (rI CDivZ fun i j => .int (i.fdiv j)) := opI fun _ _ _ _ _ _ _ hc q => floordiv_int hc.1 q (.inl (PyProof.noPylong_of_log2 hc.2))
end
/-! ### readings, one step each -/
section
variable {K : PySem.W.Frag} {σ σ' : St} {H : Hp} {Q : VK} {QB : Bool → Hp → Prop} {QL : List V → Hp → Prop} {D : Ends} {ta tb te tx : TE} {tt tu : TT} {tr : TA} {t u : TS} {g : TG} {gs : TGs} {i j : Int} {v x y z : V} {r : R2} {n m : Nat} {a p : Addr} {xs ys : List V}
theorem x_start {N : List Str} {vs : List V} (h : StartTo N vs σ) (q : t D σ H) : ∃ sg, StartTo N vs sg ∧ t D sg H := ⟨σ, h, q⟩
theorem x_var (h : GetAt σ n v) (q : Q v H) : tVar n σ H Q := ⟨v, h.eq, q⟩
theorem x_c (q : Q v H) : tC v σ H Q := q
theorem x_op (q : ta σ H fun x H1 => tb σ H1 fun y H2 => r x y H2 Q) : tOp r ta tb σ H Q := q
theorem x_un {r : V → Hp → VK → Prop} (q : ta σ H fun x H1 => r x H1 Q) : tUn r ta σ H Q := q
theorem x_I0 {g : Int → Int → V} (q : Q (g i j) H) : rI0 g (.int i) (.int j) H Q := ⟨i, j, rfl, rfl, q⟩
theorem x_I {C : Int → Int → Prop} {g : Int → Int → V} (c : C i j) (q : Q (g i j) H) : rI C g (.int i) (.int j) H Q := ⟨i, j, rfl, rfl, c, q⟩
theorem x_powC {z : Int} (c : CPowW i j) (e : i ^ j.toNat = z) (q : Q (.int z) H) : rI CPowW (fun i j => .int (i ^ j.toNat)) (.int i) (.int j) H Q := ⟨i, j, rfl, rfl, c, by
  show Q (.int (i ^ j.toNat)) H
  rw [e]
  exact q⟩
theorem x_U {g : Int → V} (q : Q (g i) H) : rU g (.int i) H Q := ⟨i, rfl, q⟩
theorem dec_congr {a b : Prop} [Decidable a] [Decidable b] (h : a ↔ b) : decide a = decide b := by
  by_cases x : b
  · rw [decide_eq_true x, decide_eq_true (h.mpr x)]
  · rw [decide_eq_false x, decide_eq_false fun y => x (h.mp y)]
theorem x_eqI (q : Q (.bl (decide (i = j))) H) : rEq (.int i) (.int j) H Q := ⟨rfl, by
  rw [show decide ((V.int i : V) = .int j) = decide (i = j) from dec_congr ⟨fun h => V.int.inj h, fun h => h ▸ rfl⟩]
  exact q⟩
theorem x_neI (q : Q (.bl (!decide (i = j))) H) : rNe (.int i) (.int j) H Q := ⟨rfl, by
  rw [show decide ((V.int i : V) = .int j) = decide (i = j) from dec_congr ⟨fun h => V.int.inj h, fun h => h ▸ rfl⟩]
  exact q⟩
theorem x_eqS {a b : Str} (q : Q (.bl (decide (a = b))) H) : rEq (.str a) (.str b) H Q := ⟨rfl, by
  rw [show decide ((V.str a : V) = .str b) = decide (a = b) from dec_congr ⟨fun h => V.str.inj h, fun h => h ▸ rfl⟩]
  exact q⟩
theorem x_neS {a b : Str} (q : Q (.bl (!decide (a = b))) H) : rNe (.str a) (.str b) H Q := ⟨rfl, by
  rw [show decide ((V.str a : V) = .str b) = decide (a = b) from dec_congr ⟨fun h => V.str.inj h, fun h => h ▸ rfl⟩]
  exact q⟩
theorem x_eqB {a b : Bool} (q : Q (.bl (a == b)) H) : rEq (.bl a) (.bl b) H Q := ⟨rfl, by
  rw [show decide ((V.bl a : V) = .bl b) = (a == b) from by cases a <;> cases b <;> rfl]
  exact q⟩
theorem x_nil (q : QL [] H) : tNil σ H QL := q
theorem x_cons (q : ta σ H fun x H1 => tr σ H1 fun xs H2 => QL (x :: xs) H2) : tCons ta tr σ H QL := q
theorem x_cb {r : List V → Hp → VK → Prop} (q : tr σ H fun vs H1 => r vs H1 Q) : tCB r tr σ H Q := q
theorem x_call {sp : Sp} {E : XK} (q : tr σ H fun vs H1 => sp vs H1 Q E) : tCall sp [] E tr σ H Q := by
  have e : (fun (vs : List V) (H1 : Hp) => sp (vs ++ []) H1 Q E) = fun vs H1 => sp vs H1 Q E := by
    funext vs H1
    rw [List.append_nil]
  show tr σ H (fun vs H1 => sp (vs ++ []) H1 Q E)
  rw [e]
  exact q
theorem sz_of {n : Nat} (h : n ≤ 100000) : n ≤ sizeLine := Nat.le_trans h (by decide)
theorem sz_lt {n : Nat} (h : n < 100000) : n < sizeLine := Nat.lt_of_lt_of_le h (by decide)
theorem x_tup (q : tr σ H fun xs H1 => xs.length ≤ 100000 ∧ ∀ p, H1 p = none → Q (.ref p) (upd H1 p (.tup xs))) (m : ∀ xs H1, (xs.length ≤ 100000 ∧ ∀ p, H1 p = none → Q (.ref p) (upd H1 p (.tup xs))) → (xs.length ≤ sizeLine ∧ ∀ p, H1 p = none → Q (.ref p) (upd H1 p (.tup xs))) := fun _ _ h => ⟨sz_of h.1, h.2⟩) (mono : ∀ (Q1 Q2 : List V → Hp → Prop), (∀ xs H, Q1 xs H → Q2 xs H) → tr σ H Q1 → tr σ H Q2) : tTup tr σ H Q := mono _ _ m q
/-- a display: the items, then a new address -/
def Disp (f : List V → HO) (Q : VK) : List V → Hp → Prop := fun xs H1 => xs.length ≤ sizeLine ∧ ∀ p, H1 p = none → Q (.ref p) (upd H1 p (f xs))
theorem x_tup' (q : tr σ H (Disp HO.tup Q)) : tTup tr σ H Q := q
theorem x_lst' (q : tr σ H (Disp HO.lst Q)) : tLst tr σ H Q := q
theorem x_disp {f : List V → HO} (l : xs.length ≤ 100000) (q : ∀ p, H p = none → Q (.ref p) (upd H p (f xs))) : Disp f Q xs H := ⟨sz_of l, q⟩
theorem x_ixL (h : SqL K H p xs) (ha : atI xs i = some v) (q : Q v H) : rIxL K (.ref p) (.int i) H Q := ⟨p, xs, i, v, rfl, rfl, h, ha, q⟩
theorem x_ixT (h : SqT K H p xs) (ha : atI xs i = some v) (q : Q v H) : rIxT K (.ref p) (.int i) H Q := ⟨p, xs, i, v, rfl, rfl, h, ha, q⟩
theorem ixN_at {n j : Nat} (hj : j < n) : ixN n (j : Int) = some j := by
  unfold ixN
  rw [if_pos (by omega), if_pos (by omega)]
  simp
theorem x_setN {k : Int} {j : Nat} {qh : Hp → Prop} (h : H p = some (.lst xs)) (hk : k = (j : Int)) (hx : SetTo xs j v ys) (q : qh (upd H p (.lst ys))) : rSetL (.ref p) (.int k) v H qh := ⟨p, xs, k, j, rfl, rfl, h, by rw [hk]; exact ixN_at hx.lt, hx.eq ▸ q⟩
theorem x_setN2 {k : Int} {j : Nat} {qh : Hp → Prop} (hk : k = (j : Int)) (hx : SetTo xs j v ys) (q : qh (upd H p (.lst ys))) : rSetL (.ref p) (.int k) v (upd H p (.lst xs)) qh := ⟨p, xs, k, j, rfl, rfl, upd_same, by rw [hk]; exact ixN_at hx.lt, by
  rw [upd_upd, hx.eq]
  exact q⟩
theorem x_setL {k : Int} {jx : Nat} {qh : Hp → Prop} (h : H p = some (.lst xs)) (hj : ixN xs.length k = some jx) (hx : SetTo xs jx v ys) (q : qh (upd H p (.lst ys))) : rSetL (.ref p) (.int k) v H qh := ⟨p, xs, k, jx, rfl, rfl, h, hj, hx.eq ▸ q⟩
theorem x_setL2 {k : Int} {jx : Nat} {qh : Hp → Prop} (hj : ixN xs.length k = some jx) (hx : SetTo xs jx v ys) (q : qh (upd H p (.lst ys))) : rSetL (.ref p) (.int k) v (upd H p (.lst xs)) qh := ⟨p, xs, k, jx, rfl, rfl, upd_same, hj, by
  rw [upd_upd, hx.eq]
  exact q⟩
theorem x_int1 (q : Q (.int i) H) : rInt1 [.int i] H Q := ⟨i, rfl, q⟩
theorem x_abs (q : Q (.int (absI i)) H) : rAbs [.int i] H Q := ⟨i, rfl, q⟩
theorem x_lenL (h : SqL K H p xs) (q : Q (.int xs.length) H) : rLenS K [.ref p] H Q := ⟨p, xs, rfl, .inl h, q⟩
theorem x_lenT (h : SqT K H p xs) (q : Q (.int xs.length) H) : rLenS K [.ref p] H Q := ⟨p, xs, rfl, .inr h, q⟩
theorem x_listL (h : SqL K H p xs) (q : ∀ l, H l = none → Q (.ref l) (upd H l (.lst xs))) : rListS K [.ref p] H Q := ⟨p, xs, rfl, .inl h, q⟩
theorem x_listT (h : SqT K H p xs) (q : ∀ l, H l = none → Q (.ref l) (upd H l (.lst xs))) : rListS K [.ref p] H Q := ⟨p, xs, rfl, .inr h, q⟩
theorem x_max2 (q : Q (.int (if j > i then j else i)) H) : rMax2 [.int i, .int j] H Q := ⟨i, j, rfl, q⟩
theorem x_min2 (q : Q (.int (if j < i then j else i)) H) : rMin2 [.int i, .int j] H Q := ⟨i, j, rfl, q⟩
-- tests
theorem x_test (q : te σ H fun x H1 => ∃ c, x = .bl c ∧ QB c H1) : tTest te σ H QB := q
theorem x_tB (q : te σ H fun x H1 => ∃ c, x = .bl c ∧ QB c H1) : tB te σ H QB := q
theorem x_isb {b : Bool} {R : Bool → Prop} (q : R b) : ∃ c, V.bl b = .bl c ∧ R c := ⟨b, rfl, q⟩
theorem x_not (q : tt σ H fun c H1 => QB (!c) H1) : tNot tt σ H QB := q
theorem x_and (q : tt σ H fun c H1 => if c = true then tu σ H1 QB else QB false H1) : tAnd tt tu σ H QB := q
theorem x_or (q : tt σ H fun c H1 => if c = true then QB true H1 else tu σ H1 QB) : tOr tt tu σ H QB := q
theorem x_andV (q : ta σ H fun x H1 => ∃ c, x = .bl c ∧ if c = true then tb σ H1 Q else Q (.bl false) H1) : tAndV ta tb σ H Q := q
theorem x_orV (q : ta σ H fun x H1 => ∃ c, x = .bl c ∧ if c = true then Q (.bl true) H1 else tb σ H1 Q) : tOrV ta tb σ H Q := q
theorem x_notV (q : ta σ H fun x H1 => ∃ c, x = .bl c ∧ Q (.bl (!c)) H1) : tNotV ta σ H Q := q
theorem x_ifE (q : tt σ H fun c H1 => if c = true then ta σ H1 Q else tb σ H1 Q) : tIf tt ta tb σ H Q := q
theorem x_dec {c A B : Prop} [Decidable c] (h1 : c → A) (h2 : ¬ c → B) : if decide c = true then A else B := by
  by_cases h : c
  · rw [decide_eq_true h, if_pos rfl]
    exact h1 h
  · rw [decide_eq_false h, if_neg Bool.false_ne_true]
    exact h2 h
theorem x_decT {c A B : Prop} [Decidable c] (h : c) (q : A) : if decide c = true then A else B := by rw [decide_eq_true h, if_pos rfl]; exact q
theorem x_decF {c A B : Prop} [Decidable c] (h : ¬ c) (q : B) : if decide c = true then A else B := by rw [decide_eq_false h, if_neg Bool.false_ne_true]; exact q
theorem x_ndecT {c A B : Prop} [Decidable c] (h : ¬ c) (q : A) : if (!decide c) = true then A else B := by rw [decide_eq_false h, if_pos (by decide)]; exact q
theorem x_ndecF {c A B : Prop} [Decidable c] (h : c) (q : B) : if (!decide c) = true then A else B := by rw [decide_eq_true h, if_neg (by decide)]; exact q
theorem x_sset {i : Nat} {o : Option V} {T : St → Prop} (h : SetTo σ i o σ') (q : T σ') : T (σ.set i o) := h.eq ▸ q
theorem x_ndec {c A B : Prop} [Decidable c] (h1 : ¬ c → A) (h2 : c → B) : if (!decide c) = true then A else B := by
  by_cases h : c
  · rw [decide_eq_true h, if_neg (by decide)]
    exact h2 h
  · rw [decide_eq_false h, if_pos (by decide)]
    exact h1 h
theorem x_bool {c : Bool} {A B : Prop} (h1 : c = true → A) (h2 : c = false → B) : if c = true then A else B := by
  cases c with
  | true => exact (if_pos rfl : (if true = true then A else B) = A) ▸ h1 rfl
  | false => exact (if_neg Bool.false_ne_true : (if false = true then A else B) = B) ▸ h2 rfl
theorem x_iteT {A B : Prop} (q : A) : if true = true then A else B := by rw [if_pos rfl]; exact q
theorem x_iteF {A B : Prop} (q : B) : if false = true then A else B := by rw [if_neg Bool.false_ne_true]; exact q
theorem x_iteNT {A B : Prop} (q : A) : if (!false) = true then A else B := by rw [if_pos (by decide)]; exact q
theorem x_iteNF {A B : Prop} (q : B) : if (!true) = true then A else B := by rw [if_neg (by decide)]; exact q
-- statements
theorem x_seq (q : t { D with nx := u D } σ H) : tSeq t u D σ H := q
theorem x_next (q : D.nx σ H) : tNext D σ H := q
theorem x_brk (q : D.bk σ H) : tBreak D σ H := q
theorem x_cont (q : D.ct σ H) : tCont D σ H := q
theorem x_drop (q : te σ H fun _ H1 => D.nx σ H1) : tDrop te D σ H := q
theorem x_ret (q : te σ H D.rt) : tRet te D σ H := q
theorem x_retN (q : D.rt .non H) : tRetN D σ H := q
theorem x_ifS (q : tt σ H fun b H1 => if b = true then t D σ H1 else u D σ H1) : tIfS tt t u D σ H := q
theorem x_asg (q : te σ H fun x H1 => g x σ H1 D.nx) : tAsg te g D σ H := q
theorem x_par {a b : Nat} {ta : TA} (q : ta σ H fun vs H1 => ∃ v w, vs = [v, w] ∧ D.nx ((σ.set a (some v)).set b (some w)) H1) : tPar a b ta D σ H := q
theorem x_par2 {a b : Nat} {v w : V} {σ1 σ2 : St} {nx : St → Hp → Prop} (h1 : SetTo σ a (some v) σ1) (h2 : SetTo σ1 b (some w) σ2) (q : nx σ2 H) : ∃ v' w', [v, w] = [v', w'] ∧ nx ((σ.set a (some v')).set b (some w')) H := ⟨v, w, rfl, by rw [h1.eq, h2.eq]; exact q⟩
theorem x_name {qs : St → Hp → Prop} (h : SetTo σ n (some v) σ') (q : qs σ' H) : gName n v σ H qs := by
  show qs (σ.set n (some v)) H
  rw [h.eq]
  exact q
theorem x_sub {to ti : TE} {s : TSet} {qs : St → Hp → Prop} (q : to σ H fun o H1 => ti σ H1 fun i H2 => s o i v H2 fun H3 => qs σ H3) : gSub to ti s v σ H qs := q
theorem x_aug {ip : TIp} (h : GetAt σ n x) (q : te σ H fun y H1 => ip x y H1 fun z H2 => D.nx (σ.set n (some z)) H2) : tAug n te ip D σ H := ⟨x, h.eq, q⟩
theorem x_ipI {f : Int → Int → Int} {qs : St → Hp → Prop} (h : SetTo σ n (some (.int (f i j))) σ') (q : qs σ' H) : ipI f (.int i) (.int j) H (fun z H2 => qs (σ.set n (some z)) H2) := ⟨i, j, rfl, rfl, by
  show qs (σ.set n (some (.int (f i j)))) H
  rw [h.eq]
  exact q⟩
theorem x_gtup {k : Nat} {qs : St → Hp → Prop} (h : SqT K H a xs) (l : xs.length = k) (q : gs xs σ H qs) : gTup K k gs (.ref a) σ H qs := ⟨a, xs, rfl, h, l, q⟩
theorem x_gnil {qs : St → Hp → Prop} (q : qs σ H) : gNil [] σ H qs := ⟨rfl, q⟩
theorem x_gcons {qs : St → Hp → Prop} (q : g v σ H fun σ' H' => gs xs σ' H' qs) : gCons g gs (v :: xs) σ H qs := ⟨v, xs, rfl, q⟩
theorem x_bm {T : String} {r : V → List V → Hp → VK → Prop} {to : TE} (q : to σ H fun x H1 => tyV K T x H1 ∧ tr σ H1 fun xs H2 => r x xs H2 Q) : tBM K T r to tr σ H Q := q
theorem x_bm0 {T : String} {r : V → List V → Hp → VK → Prop} {to : TE} (q : to σ H fun x H1 => tyV K T x H1 ∧ r x [] H1 Q) : tBM0 K T r to σ H Q := q
theorem x_tyL {A : Prop} (h : SqL K H a xs) (q : A) : tyV K "list" (.ref a) H ∧ A := ⟨.inl ⟨rfl, xs, h⟩, q⟩
theorem x_append (h : H a = some (.lst xs)) (l : xs.length < 100000) (q : Q .non (upd H a (.lst (xs ++ [v])))) : rAppend (.ref a) [v] H Q := ⟨a, xs, v, rfl, rfl, h, sz_lt l, q⟩
theorem x_cat {b : Addr} (h : H a = some (.lst xs)) (h' : H b = some (.lst ys)) (l : xs.length + ys.length ≤ 100000) (q : ∀ p, H p = none → Q (.ref p) (upd H p (.lst (xs ++ ys)))) : rCat (.ref a) (.ref b) H Q := ⟨a, b, xs, ys, rfl, rfl, h, h', sz_of l, q⟩
theorem x_slL {lo hi : Option Int} (h : SqL K H a xs) (q : ∀ p, H p = none → Q (.ref p) (upd H p (.lst (cutV xs lo hi)))) : rSlL K (.ref a) lo hi H Q := ⟨a, xs, rfl, h, q⟩
theorem x_sl {r : V → Option Int → Option Int → Hp → VK → Prop} {tl th : TO} (q : te σ H fun x H1 => tl σ H1 fun l H2 => th σ H2 fun u H3 => r x l u H3 Q) : tSl r te tl th σ H Q := q
theorem x_nopart {qo : Option Int → Hp → Prop} (q : qo none H) : tNoPart σ H qo := q
theorem x_part {qo : Option Int → Hp → Prop} (q : te σ H fun x H1 => ∃ i, x = .int i ∧ qo (some i) H1) : tPart te σ H qo := q
theorem x_isk {R : Int → Prop} (q : R i) : ∃ k, V.int i = .int k ∧ R k := ⟨i, rfl, q⟩
end
/-! ### loops -/
section
variable {K : PySem.W.Frag} {σ : St} {H : Hp} {D : Ends} {te : TE} {ta : TA} {tb : TS} {g : TG} {p : Addr} {xs : List V} {wi : TI}
def ForG (J : It) (g : TG) (tb : TS) (D : Ends) (σ : St) (H1 : Hp) : Prop := ∃ W : Nat → Nat → St → Hp → Prop, (∃ m, W 0 m σ H1) ∧ ∀ i m σ H, W i m σ H →
  (J.stop i H ∧ D.nx σ H) ∨ (J.go i H ∧ ∃ N : St → Hp → Prop, (∀ σ' H', N σ' H' → ∃ m', m' < m ∧ W (i + 1) m' σ' H') ∧ ∀ x H', J.yld i H x H' → g x σ H' fun σ2 H2 => tb { D with nx := N, ct := N, bk := D.nx } σ2 H2)
theorem x_for (q : wi σ H fun J H1 => ForG J g tb D σ H1) : tFor wi g tb D σ H := q
def ItL (K : PySem.W.Frag) (R : It → Hp → Prop) : VK := fun x H1 => ∃ a, x = .ref a ∧ (∃ xs, SqL K H1 a xs) ∧ R (Itl K a) H1
def ItT (K : PySem.W.Frag) (R : It → Hp → Prop) : VK := fun x H1 => ∃ a, x = .ref a ∧ (∃ xs, SqT K H1 a xs) ∧ R (Itt K a) H1
def ItR (R : It → Hp → Prop) : List V → Hp → Prop := fun vs H1 => ∃ j : Int, vs = [.int j] ∧ -(2 ^ 62) ≤ j ∧ j < 2 ^ 62 ∧ R (Itr 0 j.toNat) H1
def ItR2 (R : It → Hp → Prop) : List V → Hp → Prop := fun vs H1 => ∃ i j : Int, vs = [.int i, .int j] ∧ (-(2 ^ 62) ≤ i ∧ i < 2 ^ 62 ∧ -(2 ^ 62) ≤ j ∧ j < 2 ^ 62) ∧ R (Itr i (j - i).toNat) H1
theorem x_itL {R : It → Hp → Prop} (q : te σ H (ItL K R)) : iList K te σ H R := q
theorem x_itT {R : It → Hp → Prop} (q : te σ H (ItT K R)) : iTup K te σ H R := q
theorem x_itR {R : It → Hp → Prop} (q : ta σ H (ItR R)) : iRng1 ta σ H R := q
theorem x_itR2 {R : It → Hp → Prop} (q : ta σ H (ItR2 R)) : iRng2 ta σ H R := q
theorem l_list (h : SqL K H p xs) (Pv : Nat → St → Hp → Prop) (h0 : Pv 0 σ H) (hl : ∀ i s' H', i ≤ xs.length → Pv i s' H' → SqL K H' p xs)
    (hs : ∀ i x s' H', xs[i]? = some x → Pv i s' H' → g x s' H' fun σ2 H2 => tb { D with nx := Pv (i + 1), ct := Pv (i + 1), bk := D.nx } σ2 H2) (hd : ∀ s' H', Pv xs.length s' H' → D.nx s' H') : ItL K (fun J H1 => ForG J g tb D σ H1) (.ref p) H :=
  ⟨p, rfl, ⟨xs, h⟩, for_list Pv h0 hl hs hd⟩
theorem l_tup (h : SqT K H p xs) (Pv : Nat → St → Hp → Prop) (h0 : Pv 0 σ H) (hl : ∀ i s' H', i ≤ xs.length → Pv i s' H' → SqT K H' p xs)
    (hs : ∀ i x s' H', xs[i]? = some x → Pv i s' H' → g x s' H' fun σ2 H2 => tb { D with nx := Pv (i + 1), ct := Pv (i + 1), bk := D.nx } σ2 H2) (hd : ∀ s' H', Pv xs.length s' H' → D.nx s' H') : ItT K (fun J H1 => ForG J g tb D σ H1) (.ref p) H :=
  ⟨p, rfl, ⟨xs, h⟩, for_tup Pv h0 hl hs hd⟩
theorem l_rng {n : Int} (hn : n < 2 ^ 62) (Pv : Nat → St → Hp → Prop) (h0 : Pv 0 σ H)
    (hs : ∀ (i : Nat) s' H', (i : Int) < n → Pv i s' H' → g (.int (i : Int)) s' H' fun σ2 H2 => tb { D with nx := Pv (i + 1), ct := Pv (i + 1), bk := D.nx } σ2 H2) (hd : ∀ s' H', Pv n.toNat s' H' → D.nx s' H') (hm : -(2 ^ 62) ≤ n := by omega) : ItR (fun J H1 => ForG J g tb D σ H1) [.int n] H :=
  ⟨n, rfl, by omega, by omega, for_range (lo := 0) (n := n.toNat) Pv h0 (fun i s' H' hi hp => by
    have e : (0 : Int) + (i : Int) = (i : Int) := Int.zero_add _
    rw [e]
    exact hs i s' H' (by omega) hp) hd⟩
theorem l_rng2 {lo n : Int} (hn : -100000 < lo ∧ lo < 100000 ∧ -100000 < n ∧ n < 100000) (Pv : Nat → St → Hp → Prop) (h0 : Pv 0 σ H)
    (hs : ∀ (i : Nat) s' H', lo + (i : Int) < n → Pv i s' H' → g (.int (lo + (i : Int))) s' H' fun σ2 H2 => tb { D with nx := Pv (i + 1), ct := Pv (i + 1), bk := D.nx } σ2 H2) (hd : ∀ s' H', Pv (n - lo).toNat s' H' → D.nx s' H') : ItR2 (fun J H1 => ForG J g tb D σ H1) [.int lo, .int n] H :=
  ⟨lo, n, rfl, ⟨by omega, by omega, by omega, by omega⟩, for_range (lo := lo) (n := (n - lo).toNat) Pv h0 (fun i s' H' hi hp => hs i s' H' (by omega) hp) hd⟩
theorem x_cut {t u : TS} (M : St → Hp → Prop) (h1 : t { D with nx := M } σ H) (h2 : ∀ s' H', M s' H' → u D s' H') : C8.tCut t u D σ H := ⟨M, h1, h2⟩
theorem x_while2 {tt : TT} (W : Nat → St → Hp → Prop) (m0 : Nat) (h0 : W m0 σ H)
    (hs : ∀ m s' H', W m s' H' → tt s' H' fun b H1 => if b = true then ∃ N : St → Hp → Prop, (∀ s2 H2, N s2 H2 → ∃ m', m' < m ∧ W m' s2 H2) ∧ tb { D with nx := N, ct := N, bk := D.nx } s' H1 else D.nx s' H1) : tWhile tt tb D σ H :=
  ⟨W, ⟨m0, h0⟩, hs⟩
theorem x_wturn {W : Nat → St → Hp → Prop} {m : Nat} {H1 : Hp} (z : tb { D with nx := fun s2 H2 => ∃ m', m' < m ∧ W m' s2 H2, ct := fun s2 H2 => ∃ m', m' < m ∧ W m' s2 H2, bk := D.nx } σ H1) : ∃ N : St → Hp → Prop, (∀ s2 H2, N s2 H2 → ∃ m', m' < m ∧ W m' s2 H2) ∧ tb { D with nx := N, ct := N, bk := D.nx } σ H1 := ⟨_, fun _ _ n => n, z⟩
theorem x_truI {i : Int} {R : Bool → Prop} (z : R (i != 0)) : ∃ k, TruV K (.int i) H k ∧ R k := ⟨_, rfl, z⟩
theorem x_bne {i : Int} {A B : Prop} (h1 : i ≠ 0 → A) (h2 : i = 0 → B) : if (i != 0) = true then A else B := by
  by_cases e : i = 0
  · rw [if_neg (by simp [e])]
    exact h2 e
  · rw [if_pos (by simpa using e)]
    exact h1 e
theorem x_while {tt : TT} (W : Nat → St → Hp → Prop) (m0 : Nat) (h0 : W m0 σ H)
    (hs : ∀ m s' H', W m s' H' → tt s' H' fun b H1 => if b = true then tb { D with nx := fun s2 H2 => ∃ m', m' < m ∧ W m' s2 H2, ct := fun s2 H2 => ∃ m', m' < m ∧ W m' s2 H2, bk := D.nx } s' H1 else D.nx s' H1)
    (mono : ∀ (s' : St) (H' : Hp) (q1 q2 : Bool → Hp → Prop), (∀ b h, q1 b h → q2 b h) → tt s' H' q1 → tt s' H' q2) : tWhile tt tb D σ H := by
  refine ⟨W, ⟨m0, h0⟩, fun m s' H' hw => mono s' H' _ _ (fun b h z => ?_) (hs m s' H' hw)⟩
  cases b with
  | true =>
    rw [if_pos rfl] at z ⊢
    exact ⟨_, fun _ _ n => n, z⟩
  | false =>
    rw [if_neg Bool.false_ne_true] at z ⊢
    exact z
/-! ### comprehensions -/
def LcG (J : It) (g : TG) (tt : TT) (te : TE) (vs : List Nat) (σ : St) (H1 : Hp) (Q : VK) : Prop := ∀ D, H1 D = none → ∃ W : Nat → Nat → Hp → Prop, (∃ m, W 0 m (upd H1 D (.lst []))) ∧ ∀ i m H, W i m H →
  (J.stop i H ∧ Q (.ref D) H) ∨ (J.go i H ∧ ∃ Nx : Hp → Prop, (∀ H', Nx H' → ∃ m', m' < m ∧ W (i + 1) m' H') ∧ ∀ x H', J.yld i H x H' → g x (wipe σ vs) H' fun σ2 H2 => wipe σ2 vs = wipe σ vs ∧ tt σ2 H2 fun b H3 =>
    if b = true then te σ2 H3 fun y H4 => ∃ acc, H4 D = some (.lst acc) ∧ acc.length < sizeLine ∧ Nx (upd H4 D (.lst (acc ++ [y]))) else Nx H3)
theorem x_lc {tt : TT} {vs : List Nat} {Q : VK} (q : wi σ H fun J H1 => LcG J g tt te vs σ H1 Q) : tLc wi g tt te vs σ H Q := q
/-- over a list: one item after the other, by an invariant -/
theorem l_lcL {tt : TT} {vs : List Nat} {Q : VK} {s0 : St} (hw : wipe σ vs = s0) (h : SqL K H p xs) (Pv : Addr → Nat → Hp → Prop) (h0 : ∀ Dl, H Dl = none → Pv Dl 0 (upd H Dl (.lst []))) (hl : ∀ Dl i H', H Dl = none → i ≤ xs.length → Pv Dl i H' → SqL K H' p xs)
    (hs : ∀ Dl i x H', H Dl = none → xs[i]? = some x → Pv Dl i H' → g x s0 H' fun σ2 H2 => wipe σ2 vs = s0 ∧ tt σ2 H2 fun b H3 =>
      if b = true then te σ2 H3 fun y H4 => ∃ acc, H4 Dl = some (.lst acc) ∧ acc.length < sizeLine ∧ Pv Dl (i + 1) (upd H4 Dl (.lst (acc ++ [y]))) else Pv Dl (i + 1) H3)
    (hd : ∀ Dl H', H Dl = none → Pv Dl xs.length H' → Q (.ref Dl) H') : ItL K (fun J H1 => LcG J g tt te vs σ H1 Q) (.ref p) H := by
  subst hw
  exact ⟨p, rfl, ⟨xs, h⟩, fun Dl hD => lc_list (xs := xs) (Pv Dl) (h0 Dl hD) (fun i H' => hl Dl i H' hD) (fun i x H' => hs Dl i x H' hD) (fun H' => hd Dl H' hD)⟩
theorem l_lcR {tt : TT} {vs : List Nat} {Q : VK} {s0 : St} (hw : wipe σ vs = s0) {n : Int} (hn : n < 2 ^ 62) (Pv : Addr → Nat → Hp → Prop) (h0 : ∀ Dl, H Dl = none → Pv Dl 0 (upd H Dl (.lst [])))
    (hs : ∀ Dl (i : Nat) H', H Dl = none → (i : Int) < n → Pv Dl i H' → g (.int (i : Int)) s0 H' fun σ2 H2 => wipe σ2 vs = s0 ∧ tt σ2 H2 fun b H3 =>
      if b = true then te σ2 H3 fun y H4 => ∃ acc, H4 Dl = some (.lst acc) ∧ acc.length < sizeLine ∧ Pv Dl (i + 1) (upd H4 Dl (.lst (acc ++ [y]))) else Pv Dl (i + 1) H3)
    (hd : ∀ Dl H', H Dl = none → Pv Dl n.toNat H' → Q (.ref Dl) H') (hm : -(2 ^ 62) ≤ n := by omega) : ItR (fun J H1 => LcG J g tt te vs σ H1 Q) [.int n] H := by
  subst hw
  exact ⟨n, rfl, hm, hn, fun Dl hD => lc_range (lo := 0) (n := n.toNat) (Pv Dl) (h0 Dl hD) (fun i H' hi hp => by
    have e : (0 : Int) + (i : Int) = (i : Int) := Int.zero_add _
    rw [e]
    exact hs Dl i H' hD (by omega) hp) (fun H' => hd Dl H' hD)⟩
/-- what stands at a comprehension's list behind i items -/
def Made (M : List Addr) (H : Hp) (f : Nat → V) (Dl : Addr) (i : Nat) (H' : Hp) : Prop := Kp M H H' ∧ H' Dl = some (.lst ((List.range i).map f))
theorem made_step {M : List Addr} {f : Nat → V} {Dl : Addr} {i : Nat} {H' H4 : Hp} (hD : H Dl = none) (hM : Dl ∉ M) (m : Made M H f Dl i H') (k : Kp M H' H4) (hi : i < 100000) :
    ∃ acc, H4 Dl = some (.lst acc) ∧ acc.length < sizeLine ∧ Made M H f Dl (i + 1) (upd H4 Dl (.lst (acc ++ [f i]))) := by
  refine ⟨_, k _ _ hM m.2, ?_, (m.1.trans k).mut hD, ?_⟩
  · rw [List.length_map, List.length_range]
    exact Nat.lt_of_lt_of_le hi (by decide)
  · rw [List.range_succ, List.map_append]
    exact upd_same
/-- over a list, each item to a value by itself (all items taken) -/
theorem l_lcLm {vs : List Nat} {Q : VK} {s0 : St} (hw : wipe σ vs = s0) (M : List Addr) (f : Nat → V) (h : SqL K H p xs) (hp : p ∉ M) (hM : ∀ a ∈ M, ∃ o, H a = some o) (hz : xs.length ≤ 100000)
    (hs : ∀ Dl i x H' (Z : VK), H Dl = none → xs[i]? = some x → Kp M H H' → (∀ H4, Kp M H' H4 → Z (f i) H4) → g x s0 H' fun σ2 H2 => wipe σ2 vs = s0 ∧ te σ2 H2 Z)
    (gm : ∀ x s' H' (q1 q2 : St → Hp → Prop), (∀ a b, q1 a b → q2 a b) → g x s' H' q1 → g x s' H' q2)
    (hd : ∀ Dl H', H Dl = none → Kp M H H' → H' Dl = some (.lst ((List.range xs.length).map f)) → Q (.ref Dl) H') : ItL K (fun J H1 => LcG J g tYes te vs σ H1 Q) (.ref p) H := by
  have hD : ∀ Dl, H Dl = none → Dl ∉ M := fun Dl h1 h2 => by
    obtain ⟨o, e⟩ := hM Dl h2
    rw [h1] at e
    cases e
  refine l_lcL hw h (Made M H f) (fun Dl h1 => ⟨Kp.new h1, upd_same⟩) (fun Dl i H' _ _ m => m.1.sq hp h) (fun Dl i x H' h1 hx m => ?_) (fun Dl H' h1 m => hd Dl H' h1 m.1 m.2)
  have hi : i < xs.length := (List.getElem?_eq_some_iff.mp hx).1
  refine gm _ _ _ _ _ (fun s2 H2 z => ⟨z.1, ?_⟩) (hs Dl i x H' (fun y H4 => ∃ acc, H4 Dl = some (.lst acc) ∧ acc.length < sizeLine ∧ Made M H f Dl (i + 1) (upd H4 Dl (.lst (acc ++ [y])))) h1 hx m.1 fun H4 k4 => made_step h1 (hD Dl h1) m k4 (by omega))
  unfold tYes
  dsimp only
  rw [if_pos rfl]
  exact z.2
theorem gname_mono {n : Nat} (x : V) (s' : St) (H' : Hp) (q1 q2 : St → Hp → Prop) (h : ∀ a b, q1 a b → q2 a b) (z : gName n x s' H' q1) : gName n x s' H' q2 := h _ _ z
/-- i has at most n bits -/
def Bt (n : Nat) (i : Int) : Prop := i.natAbs < 2 ^ n
theorem Bt.mono {a b : Nat} {i : Int} (h : Bt a i) (l : a ≤ b) : Bt b i := Nat.lt_of_lt_of_le h (Nat.pow_le_pow_right (by decide) l)
theorem Bt.mul {a b : Nat} {i j : Int} (h : Bt a i) (h' : Bt b j) : Bt (a + b) (i * j) := wide_lt h h'
theorem Bt.neg {a : Nat} {i : Int} (h : Bt a i) : Bt a (-i) := by unfold Bt at *; rw [Int.natAbs_neg]; exact h
theorem Bt.add {a : Nat} {i j : Int} (h : Bt a i) (h' : Bt a j) : Bt (a + 1) (i + j) := by
  unfold Bt at *
  rw [Nat.pow_succ]
  have := Int.natAbs_add_le i j
  omega
theorem Bt.sub {a : Nat} {i j : Int} (h : Bt a i) (h' : Bt a j) : Bt (a + 1) (i - j) := by
  rw [Int.sub_eq_add_neg]
  exact h.add h'.neg
theorem Bt.le {a : Nat} {i j : Int} (h : Bt a i) (l : j.natAbs ≤ i.natAbs) : Bt a j := Nat.lt_of_le_of_lt l h
theorem Bt.mulW {a b : Nat} {i j : Int} (h : Bt a i) (h' : Bt b j) (l : a + b ≤ 999998 := by decide) : CMulW i j := wide_mul (a := a + 1) (b := b + 1) (h.mono (by omega)) (h'.mono (by omega)) (by omega) (by omega) (by omega)
theorem Bt.divW {a : Nat} {i j : Int} (p : 0 < j) (h : Bt a j) (l : a ≤ 8999 := by decide) : CDivW i j := wide_div (b := a + 1) p (h.mono (by omega)) (by omega) (by omega)
theorem Bt.lit {a : Nat} {i : Int} (h : decide (i.natAbs < 2 ^ a) = true) : Bt a i := of_decide_eq_true (p := i.natAbs < 2 ^ a) h
theorem Bt.divZ {a : Nat} {i j : Int} (p : j ≠ 0) (h : Bt a j) (l : a ≤ 8999 := by decide) : CDivZ i j := by
  have z : j.natAbs < 2 ^ (a + 1) := h.mono (by omega)
  have y := PySem.Flt.log2_lt_of (Nat.succ_pos a) z
  exact ⟨p, by omega⟩
/-- a remainder of which only the bounds are kept -/
theorem x_modF {i j : Int} {Q : VK} (h : 0 < j) (q : ∀ r, 0 ≤ r → r < j → Q (.int r) H) : rI (fun _ j => 0 < j) (fun i j => .int (i % j)) (.int i) (.int j) H Q :=
  ⟨i, j, rfl, rfl, h, q _ (Int.emod_nonneg _ (by omega)) (Int.emod_lt_of_pos _ h)⟩
end
/-! ### data: what a value stands for; A: what is told of the addresses of its lists and tuples -/
mutual
inductive Rp (A : Addr → Prop) (K : PySem.W.Frag) (H : Hp) : V → PyData → Prop
  | non : Rp A K H .non .none
  | bl (b : Bool) : Rp A K H (.bl b) (.bool b)
  | int (i : Int) : Rp A K H (.int i) (.int i)
  | str (x : Str) : Rp A K H (.str x) (.str x)
  | lst {a xs ds} : A a → SqL K H a xs → RpAll A K H xs ds → Rp A K H (.ref a) (.list ds)
  | tup {a xs ds} : A a → SqT K H a xs → RpAll A K H xs ds → Rp A K H (.ref a) (.tuple ds)
inductive RpAll (A : Addr → Prop) (K : PySem.W.Frag) (H : Hp) : List V → List PyData → Prop
  | nil : RpAll A K H [] []
  | cons {v vs d ds} : Rp A K H v d → RpAll A K H vs ds → RpAll A K H (v :: vs) (d :: ds)
end
mutual
theorem Rp.kp {A B : Addr → Prop} {K M H H'} (k : Kp M H H') (hA : ∀ a, A a → a ∉ M) (hB : ∀ a, A a → B a) : ∀ {v : V} {d : PyData}, Rp A K H v d → Rp B K H' v d
  | _, _, .non => .non
  | _, _, .bl b => .bl b
  | _, _, .int i => .int i
  | _, _, .str x => .str x
  | _, _, .lst a s r => .lst (hB _ a) (k.sq (hA _ a) s) (RpAll.kp k hA hB r)
  | _, _, .tup a s r => .tup (hB _ a) (k.st (hA _ a) s) (RpAll.kp k hA hB r)
theorem RpAll.kp {A B : Addr → Prop} {K M H H'} (k : Kp M H H') (hA : ∀ a, A a → a ∉ M) (hB : ∀ a, A a → B a) : ∀ {vs : List V} {ds : List PyData}, RpAll A K H vs ds → RpAll B K H' vs ds
  | _, _, .nil => .nil
  | _, _, .cons r t => .cons (Rp.kp k hA hB r) (RpAll.kp k hA hB t)
end
/-- nothing told of the addresses -/
abbrev Rr (K : PySem.W.Frag) (H : Hp) (v : V) (d : PyData) : Prop := Rp (fun _ => True) K H v d
abbrev RrAll (K : PySem.W.Frag) (H : Hp) (v : List V) (d : List PyData) : Prop := RpAll (fun _ => True) K H v d
theorem Rp.rr {A K H v d} (h : Rp A K H v d) : Rr K H v d := h.kp (M := []) Kp.refl (fun _ _ => nil_mem) fun _ _ => trivial
theorem RpAll.rr {A K H v d} (h : RpAll A K H v d) : RrAll K H v d := h.kp (M := []) Kp.refl (fun _ _ => nil_mem) fun _ _ => trivial
theorem Rp.to {A K H H' v d} (k : Kp [] H H') (h : Rp A K H v d) : Rp A K H' v d := h.kp k (fun _ _ => nil_mem) fun _ z => z
theorem RpAll.to {A K H H' v d} (k : Kp [] H H') (h : RpAll A K H v d) : RpAll A K H' v d := h.kp k (fun _ _ => nil_mem) fun _ z => z
theorem Rp.mono {A B K H v d} (h : Rp A K H v d) (hB : ∀ a, A a → B a) : Rp B K H v d := h.kp (M := []) Kp.refl (fun _ _ => nil_mem) hB
theorem Rp.awayS {K H H' v d p} (k : Kp [p] H H') (h : Rp (fun a => a ≠ p) K H v d) : Rp (fun a => a ≠ p) K H' v d := h.kp k (fun _ n => one_mem n) fun _ z => z
theorem RpAll.length {A K H} : ∀ {vs : List V} {ds : List PyData}, RpAll A K H vs ds → vs.length = ds.length
  | _, _, .nil => rfl
  | _, _, .cons _ t => by rw [List.length_cons, List.length_cons, t.length]
theorem RpAll.get {A K H} : ∀ {vs : List V} {ds : List PyData} {i : Nat} {d : PyData}, RpAll A K H vs ds → ds[i]? = some d → ∃ v, vs[i]? = some v ∧ Rp A K H v d
  | _, _, _, _, .nil, e => by simp at e
  | _, _, 0, _, .cons r _, e => by simp at e; subst e; exact ⟨_, rfl, r⟩
  | _, _, i + 1, d, .cons _ t, e => by
    obtain ⟨u, h1, h2⟩ := RpAll.get (i := i) (d := d) t (by simpa using e)
    exact ⟨u, by simpa using h1, h2⟩
theorem RpAll.get' {A K H} : ∀ {vs : List V} {ds : List PyData} {i : Nat} {v : V}, RpAll A K H vs ds → vs[i]? = some v → ∃ d, ds[i]? = some d ∧ Rp A K H v d
  | _, _, _, _, .nil, e => by simp at e
  | _, _, 0, _, .cons r _, e => by simp at e; subst e; exact ⟨_, rfl, r⟩
  | _, _, i + 1, d, .cons _ t, e => by
    obtain ⟨u, h1, h2⟩ := RpAll.get' (i := i) (v := d) t (by simpa using e)
    exact ⟨u, by simpa using h1, h2⟩
theorem RpAll.append {A K H} : ∀ {vs : List V} {ds : List PyData} {us : List V} {es : List PyData}, RpAll A K H vs ds → RpAll A K H us es → RpAll A K H (vs ++ us) (ds ++ es)
  | _, _, _, _, .nil, s => s
  | _, _, _, _, .cons r t, s => .cons r (RpAll.append t s)
theorem RpAll.ints {A K H} : ∀ {vs : List V} {ns : List Int}, RpAll A K H vs (ns.map .int) → vs = ns.map V.int
  | _, [], .nil => rfl
  | _, n :: ns, .cons r t => by
    cases r
    rw [List.map_cons, RpAll.ints t]
theorem RpAll.of_ints {A K H} : ∀ {ns : List Int}, RpAll A K H (ns.map V.int) (ns.map .int)
  | [] => .nil
  | _ :: _ => .cons (.int _) RpAll.of_ints
theorem Rp.ints {A K H v} {ns : List Int} (h : Rp A K H v (.list (ns.map .int))) : ∃ a, v = .ref a ∧ A a ∧ SqL K H a (ns.map V.int) := by
  cases h with
  | lst a s r =>
    have e := r.ints
    subst e
    exact ⟨_, rfl, a, s⟩
theorem Rp.of_ints {A : Addr → Prop} {K H a} {ns : List Int} (h : SqL K H a (ns.map V.int)) (ha : A a) : Rp A K H (.ref a) (.list (ns.map .int)) := .lst ha h RpAll.of_ints
theorem Rp.intv {A K H v i} (h : Rp A K H v (.int i)) : v = .int i := by cases h; rfl
theorem Rp.blv {A K H v i} (h : Rp A K H v (.bool i)) : v = .bl i := by cases h; rfl
theorem Rp.strv {A K H v i} (h : Rp A K H v (.str i)) : v = .str i := by cases h; rfl
theorem Rp.nonv {A K H v} (h : Rp A K H v .none) : v = .non := by cases h; rfl
mutual
theorem Rp.dp {A K H} : ∀ {v : V} {d : PyData}, Rp A K H v d → Dp K H v d
  | _, _, .non => .non
  | _, _, .bl b => .bl b
  | _, _, .int i => .int i
  | _, _, .str x => .str x
  | _, _, .lst _ s r => .lst s (RpAll.dp r)
  | _, _, .tup _ s r => .tup s (RpAll.dp r)
theorem RpAll.dp {A K H} : ∀ {vs : List V} {ds : List PyData}, RpAll A K H vs ds → DpAll K H vs ds
  | _, _, .nil => .nil
  | _, _, .cons r t => .cons (Rp.dp r) (RpAll.dp t)
end
/-! ### isinstance of built-in classes -/
section
variable {K : PySem.W.Frag}
theorem kt_NoneType_bool : PySem.W.kitOne K (.type "NoneType") (.type "bool") = some false := by rfl
theorem kt_NoneType_int : PySem.W.kitOne K (.type "NoneType") (.type "int") = some false := by rfl
theorem kt_NoneType_str : PySem.W.kitOne K (.type "NoneType") (.type "str") = some false := by rfl
theorem kt_NoneType_list : PySem.W.kitOne K (.type "NoneType") (.type "list") = some false := by rfl
theorem kt_NoneType_tuple : PySem.W.kitOne K (.type "NoneType") (.type "tuple") = some false := by rfl
theorem kta_NoneType : PySem.W.kitAny K (.type "NoneType") [.type "list", .type "tuple"] = some false := by rfl
theorem kt_bool_bool : PySem.W.kitOne K (.type "bool") (.type "bool") = some true := by rfl
theorem kt_bool_int : PySem.W.kitOne K (.type "bool") (.type "int") = some true := by rfl
theorem kt_bool_str : PySem.W.kitOne K (.type "bool") (.type "str") = some false := by rfl
theorem kt_bool_list : PySem.W.kitOne K (.type "bool") (.type "list") = some false := by rfl
theorem kt_bool_tuple : PySem.W.kitOne K (.type "bool") (.type "tuple") = some false := by rfl
theorem kta_bool : PySem.W.kitAny K (.type "bool") [.type "list", .type "tuple"] = some false := by rfl
theorem kt_int_bool : PySem.W.kitOne K (.type "int") (.type "bool") = some false := by rfl
theorem kt_int_int : PySem.W.kitOne K (.type "int") (.type "int") = some true := by rfl
theorem kt_int_str : PySem.W.kitOne K (.type "int") (.type "str") = some false := by rfl
theorem kt_int_list : PySem.W.kitOne K (.type "int") (.type "list") = some false := by rfl
theorem kt_int_tuple : PySem.W.kitOne K (.type "int") (.type "tuple") = some false := by rfl
theorem kta_int : PySem.W.kitAny K (.type "int") [.type "list", .type "tuple"] = some false := by rfl
theorem kt_str_bool : PySem.W.kitOne K (.type "str") (.type "bool") = some false := by rfl
theorem kt_str_int : PySem.W.kitOne K (.type "str") (.type "int") = some false := by rfl
theorem kt_str_str : PySem.W.kitOne K (.type "str") (.type "str") = some true := by rfl
theorem kt_str_list : PySem.W.kitOne K (.type "str") (.type "list") = some false := by rfl
theorem kt_str_tuple : PySem.W.kitOne K (.type "str") (.type "tuple") = some false := by rfl
theorem kta_str : PySem.W.kitAny K (.type "str") [.type "list", .type "tuple"] = some false := by rfl
theorem kt_list_bool : PySem.W.kitOne K (.type "list") (.type "bool") = some false := by rfl
theorem kt_list_int : PySem.W.kitOne K (.type "list") (.type "int") = some false := by rfl
theorem kt_list_str : PySem.W.kitOne K (.type "list") (.type "str") = some false := by rfl
theorem kt_list_list : PySem.W.kitOne K (.type "list") (.type "list") = some true := by rfl
theorem kt_list_tuple : PySem.W.kitOne K (.type "list") (.type "tuple") = some false := by rfl
theorem kta_list : PySem.W.kitAny K (.type "list") [.type "list", .type "tuple"] = some true := by rfl
theorem kt_tuple_bool : PySem.W.kitOne K (.type "tuple") (.type "bool") = some false := by rfl
theorem kt_tuple_int : PySem.W.kitOne K (.type "tuple") (.type "int") = some false := by rfl
theorem kt_tuple_str : PySem.W.kitOne K (.type "tuple") (.type "str") = some false := by rfl
theorem kt_tuple_list : PySem.W.kitOne K (.type "tuple") (.type "list") = some false := by rfl
theorem kt_tuple_tuple : PySem.W.kitOne K (.type "tuple") (.type "tuple") = some true := by rfl
theorem kta_tuple : PySem.W.kitAny K (.type "tuple") [.type "list", .type "tuple"] = some true := by rfl
end
/-! ### isinstance -/
section
variable {K : PySem.W.Frag} {H : Hp} {Q : VK}
theorem tyx_l {a xs} (h : SqL K H a xs) : TyX K H (.ref a) (.type "list") := by
  rcases h with (h | ⟨o, h⟩) | ⟨o, its, n, h1, h2, _⟩
  · exact .base (.lst h)
  · exact .base (.frz h)
  · exact .kList h1 h2
theorem tyx_t {a xs} (h : SqT K H a xs) : TyX K H (.ref a) (.type "tuple") := by
  rcases h with (h | ⟨o, h⟩) | ⟨o, its, n, h1, h2, _⟩
  · exact .base (.tup h)
  · exact .fTuple h
  · exact .kTuple h1 h2
theorem x_isi {x : V} {T C : String} {b : Bool} (ht : TyX K H x (.type T)) (hk : PySem.W.kitOne K (.type T) (.type C) = some b) (q : Q (.bl b) H) : rIsi K [x, .ty C] H Q := ⟨x, .ty C, .type T, .type C, b, rfl, .ty C, ht, hk, q⟩
theorem x_isiT {x : V} {tp : Addr} {T C D : String} {b : Bool} (htp : H tp = some (.tup [.ty C, .ty D])) (ht : TyX K H x (.type T)) (hk : PySem.W.kitAny K (.type T) [.type C, .type D] = some b) (q : Q (.bl b) H) : rIsiT K [x, .ref tp] H Q :=
  ⟨x, tp, [.ty C, .ty D], .type T, [.type C, .type D], b, rfl, htp, .cons (.ty C) (.cons (.ty D) .nil), ht, hk, q⟩
theorem x_ixSL {p : Addr} {i : Int} {v : V} {xs : List V} (h : SqL K H p xs) (ha : atI xs i = some v) (q : Q v H) : rIx K (.ref p) (.int i) H Q := .inl (x_ixL h ha q)
theorem x_ixST {p : Addr} {i : Int} {v : V} {xs : List V} (h : SqT K H p xs) (ha : atI xs i = some v) (q : Q v H) : rIx K (.ref p) (.int i) H Q := .inr (.inl (x_ixT h ha q))
/-- told is None -/
def rIsN : R2 := fun x y H Q => y = .non ∧ Q (.bl (decide (x = .non))) H
theorem op_isN' {X : Cx} : OpR X (compareOp .Is) rIsN := op_isN
theorem x_isN {x : V} (q : Q (.bl (decide (x = .non))) H) : rIsN x .non H Q := ⟨rfl, q⟩
theorem x_isN0 (q : Q (.bl true) H) : rIsN .non .non H Q := ⟨rfl, q⟩
theorem x_isN1 {i : Int} (q : Q (.bl false) H) : rIsN (.int i) .non H Q := ⟨rfl, q⟩
theorem x_isN2 {i : Bool} (q : Q (.bl false) H) : rIsN (.bl i) .non H Q := ⟨rfl, q⟩
theorem x_isN3 {i : Str} (q : Q (.bl false) H) : rIsN (.str i) .non H Q := ⟨rfl, q⟩
theorem x_isN4 {i : Addr} (q : Q (.bl false) H) : rIsN (.ref i) .non H Q := ⟨rfl, q⟩
def rNotN : R2 := fun x y H Q => y = .non ∧ Q (.bl (!decide (x = .non))) H
theorem op_notN' {X : Cx} : OpR X (compareOp .IsNot) rNotN := op_notN
theorem x_notN {x : V} (q : Q (.bl (!decide (x = .non))) H) : rNotN x .non H Q := ⟨rfl, q⟩
end
/-- a def of which nothing is asked (a recursion's last level) -/
theorem DefAt.never {P : Program} {w : World} {K : PySem.W.Frag} {mg : Str → Option Value} {base : Heap} {CX : CXT} {k : Nat} {x : Str} {ps : List Str} {st : Stmt} (h : DefAt K mg x ps st) : Okk P w K mg base CX k x ps (fun _ _ _ _ => False) := by
  obtain ⟨f, fd, a, F, c⟩ := h
  exact ⟨f, fd, a, F.kp, c, ⟨fun _ _ _ _ z => z.elim, fun _ _ _ _ _ _ _ _ _ _ _ _ _ z => z.elim⟩⟩
end LN
namespace LN
open PySem PySem.Spec PyProof.Rows L2 L2H
/-! ### a def that is handed the exception which is being handled (p: its address, its object); nothing leaves it -/
structure FnE (P : Program) (w : World) (K : PySem.W.Frag) (mg : Str → Option Value) (base : Heap) (k : Nat) (f : Addr) (fd : FuncData) (ps : List Str) (sp : Addr × Obj → Sp) : Prop where
  len : ∀ p vs H Q E, sp p vs H Q E → vs.length = ps.length
  run : ∀ (A : Around) (outer : List Env) (s : Shared) (H : Hp) (args : Args) (us : List Value) (vs : List V) (Q : VK) (p : Addr × Obj), RoomH k A → PinOk outer H s p → Env0 P w K mg base A outer s H →
    BindsTo s fd args (ps.zip us) → Vals vs us → sp p vs H Q E0 → codeAny (model P w) A (.call (.ref f) args) (CR CX0 outer P w H s Q E0) s
theorem FnE.mono {P : Program} {w : World} {K : PySem.W.Frag} {mg : Str → Option Value} {base : Heap} {j k : Nat} {f : Addr} {fd : FuncData} {ps : List Str} {sp : Addr × Obj → Sp} (F : FnE P w K mg base j f fd ps sp) (h : j ≤ k) : FnE P w K mg base k f fd ps sp :=
  ⟨F.len, fun A outer s H args us vs Q p hr => F.run A outer s H args us vs Q p (hr.mono h)⟩
abbrev cxE (P : Program) (w : World) (K : PySem.W.Frag) (mg : Str → Option Value) (base : Heap) (N : List Str) (qual : Str) (scope : Scope) (f : Addr) (cd : Value) (A : Around) (outer : List Env) (s : Shared) (H : Hp) (p : Addr × Obj) : Cx := cxH CX0 P w K mg base N qual scope f cd A outer s H E0 p
section
variable {P : Program} {w : World} {K : PySem.W.Frag} {mg : Str → Option Value} {base : Heap}
theorem fnE_of {k : Nat} {f : Addr} {name qual : Str} {params : Arguments} {body : List Stmt} {scope : Scope} {dV kV doc pm cdv ct oc : Value} {an od : Option Addr} {osl : Array (Option Value)} {N ps : List Str} {sp : Addr × Obj → Sp}
    (lk : K.lookup f = some ⟨oc, od, .func (PySem.W.fnOf name qual params body scope dV kV doc pm an cdv ct), osl⟩) (hcd : PySem.W.codeIn K cdv qual = true) (S : FnScope N ps scope) (len : ∀ p vs H Q E, sp p vs H Q E → vs.length = ps.length)
    (hbody : ∀ (A : Around) (outer : List Env) (s : Shared) (H : Hp) (vs : List V) (Q : VK) (p : Addr × Obj), RoomH k (A.deeper (envOfC qual scope s.heap.objs.size f cdv)) → sp p vs H Q E0 →
      ∃ t, PSs (cxE P w K mg base N qual scope f cdv A outer s H p) body t ∧ t { nx := fun _ H' => Q .non H', rt := Q } (L2.start N vs) H) :
    FnE P w K mg base (k + 1) f (PySem.W.fnOf name qual params body scope dV kV doc pm an cdv ct) ps sp where
  len := len
  run := by
    intro A outer s H args us vs Q p hr hpin e0 hb rv hsp
    have hl := len _ _ _ _ _ hsp
    have kept : ∀ b o, base.get? b = some o → s.heap.get? b = some o := fun b o e => (e0.bs b o e).1
    have KX : K.In s.heap := e0.mod.kin.keeps kept
    have nolim : s.heap.NoLimit := e0.mod.nolimit.keeps kept
    refine codeAny_call_function hr.depth (KX _ _ lk) rfl S.co S.gen rfl (PySem.W.codeRec_of KX hcd) (hb _ _ _ _ ?_)
    refine wpAny_newFunctionEnv_cells S.kind ?hk fun env he s1 x => ?_
    case hk =>
      rintro ⟨n, v⟩ hy
      cases S.par n (List.of_mem_zip hy).1 with
      | inl q => exact .inl q
      | inr q => exact .inr ⟨q, PySem.W.cellsFrom_some _ _ _ (.inl q)⟩
    subst he
    refine ⟨nolim.keeps x.toInCall.keep, codeAny_func ?_⟩
    obtain ⟨t, ht, hq⟩ := hbody A outer s H vs Q p (hr.deeper _) hsp
    have J0 := inv_startH (CX := CX0) (E := E0) (N := N) (f := f) (cd := cdv) (qual := qual) S hpin e0 hl rv x
    refine wpAny_mono (ht.run [] s1 _ H _ J0 hq) (fun fl s' hs => ?_) fun e s' hs => hs
    cases fl with
    | brk => exact hs.elim fun _ z => z.elim fun _ y => y.2.elim
    | cont => exact hs.elim fun _ z => z.elim fun _ y => y.2.elim
    | next =>
      obtain ⟨sg, H', J, q⟩ := hs
      exact ⟨V.non, H', J.os, J.bare, J.base, J.hok, rfl, q⟩
    | ret u =>
      obtain ⟨v, sg, H', J, r, q⟩ := hs
      exact ⟨v, H', J.os, J.bare, J.base, J.hok, r, q⟩
end
section
variable {X : Cx} {k : Nat} {f : Addr} {fd : FuncData} {ps : List Str} {sp : Addr × Obj → Sp} {x : Str} {pos q : Pos} {e : Expr} {es : List Expr} {t : TA} {p : Addr × Obj}
theorem run_fnE {pins : List (Addr × Obj)} {σ : St} {H : Hp} {s : Shared} {Q : VK} {us : List Value} {vs : List V} (F : FnE X.prog X.w X.K X.mg X.base k f fd ps sp) (hr : RoomH k X.A) (hp : p ∈ X.pn) (hb : Binds X.K fd ps [])
    (J : Inv X pins σ H s) (rv : Vals vs us) (hh : sp p vs H Q E0) : wpAny (model X.prog X.w) X.A (call (.ref f) us) (EP X pins σ Q) X.xe s := by
  have hlen : us.length = ps.length := rv.length.symm.trans (F.len _ _ _ _ _ hh)
  have bnd := hb s us J.kIn (by simpa using hlen)
  rw [List.append_nil] at bnd
  obtain ⟨g1, g2, g3, g4, g5⟩ := J.pin p (List.mem_append_left _ hp)
  have hpin : PinOk X.stack H s p := ⟨g1, g2, fun hm => by
    rcases List.mem_cons.mp (J.stkSub p.1 hm) with z | z
    · exact g3 z
    · exact g4 z, g5⟩
  refine wpAny_call (codeAny_mono (F.run X.A X.stack s H ⟨us, []⟩ us vs Q p hr hpin J.env0 bnd rv hh) fun r s' hq => ?_)
  match r, hq with
  | .ok (.ret u), hq => exact J.after hq
  | .ok .next, hq => exact hq.elim
  | .ok .brk, hq => exact hq.elim
  | .ok .cont, hq => exact hq.elim
  | .error e, hq => exact hq.elim
def tCallE (sp : Addr × Obj → Sp) (p : Addr × Obj) (t : TA) : TE := fun σ H Q => t σ H fun vs H1 => sp p vs H1 Q E0
def OkE (P : Program) (w : World) (K : PySem.W.Frag) (mg : Str → Option Value) (base : Heap) (k : Nat) (x : Str) (ps : List Str) (sp : Addr × Obj → Sp) : Prop :=
  ∃ f fd, mg x = some (.ref f) ∧ PySem.W.keepIn K (.ref f) = true ∧ Binds K fd ps [] ∧ FnE P w K mg base k f fd ps sp
theorem OkE.mono {P : Program} {w : World} {K : PySem.W.Frag} {mg : Str → Option Value} {base : Heap} {j k : Nat} {x : Str} {ps : List Str} {sp : Addr × Obj → Sp} (h : OkE P w K mg base j x ps sp) (l : j ≤ k) : OkE P w K mg base k x ps sp := by
  obtain ⟨f, fd, a, b, c, d⟩ := h
  exact ⟨f, fd, a, b, c, d.mono l⟩
theorem pe_ownE (D : OkE X.prog X.w X.K X.mg X.base k x ps sp) (hr : RoomH k X.A) (hp : p ∈ X.pn) (ha : PA X (e :: es) t) (hg : Gl X x := by rfl)
    (hdb : (x == ("__debug__" : Str)) = false := by decide) (he : starEach (e :: es) X.env = (false, eval e X.env) :: starEach es X.env := by rfl) (hpl : (backTo pos (starEach es X.env)).any (·.1) = false := by rfl) :
    PE X (.Call (.Name x q) (e :: es) [] pos) (tCallE sp p t) := by
  obtain ⟨f, fd, a, b, c, d⟩ := D
  refine ⟨fun pins s σ H Q I h => ?_⟩
  refine wpAny_Call_Name_kw (ld_glob I hg a ?_ hdb)
  refine PySem.W.callWith_K (h₀ := X.base) I.ok.mod.kin b (thn (ha.run pos pins s σ H _ I h) fun us s1 hh => ?_) he hpl
  obtain ⟨vs, H1, I1, r, z⟩ := hh
  exact ⟨I1.kIn, run_fnE d hr hp c I1 r z⟩
theorem DefAt.okE {P : Program} {w : World} {K : PySem.W.Frag} {mg : Str → Option Value} {base : Heap} {N : List Str} {st : Stmt} (h : DefAt K mg x ps st) (S : FnScope N ps (defScope st)) (len : ∀ p vs H Q E, sp p vs H Q E → vs.length = ps.length)
    (hb : ∀ (cdv : Value) (f : Addr) (A : Around) (outer : List Env) (s : Shared) (H : Hp) (vs : List V) (Q : VK) (p : Addr × Obj), RoomH k (A.deeper (envOfC x (defScope st) s.heap.objs.size f cdv)) → sp p vs H Q E0 →
      ∃ t, PSs (cxE P w K mg base N x (defScope st) f cdv A outer s H p) (defBody st) t ∧ ∃ sg, StartTo N vs sg ∧ t { nx := fun _ H' => Q .non H', rt := Q } sg H) : OkE P w K mg base (k + 1) x ps sp := by
  obtain ⟨f, fd, a, F, c⟩ := h
  obtain ⟨oc, od, dV, kV, doc, pm, an, cdv, ct, osl, rfl, lk, hcd, _, _⟩ := F.ex
  refine ⟨f, _, a, F.kp, c, fnE_of lk hcd S len fun A outer s H vs Q p hr hs => ?_⟩
  obtain ⟨t, h1, sg, h2, h3⟩ := hb cdv f A outer s H vs Q p hr hs
  exact ⟨t, h1, h2.eq ▸ h3⟩
/-! ### isinstance of that exception -/
def rIsiE (K : PySem.W.Frag) (D : Addr) (a : Addr) : List V → Hp → VK → Prop := fun xs H Q => ∃ (c : V) (u : Value) (b : Bool), xs = [.ref a, c] ∧ ClsV c u ∧ PySem.W.kitOne K (.ref D) u = some b ∧ Q (.bl b) H
def rIsiET (K : PySem.W.Frag) (D : Addr) (a : Addr) : List V → Hp → VK → Prop := fun xs H Q => ∃ (tp : Addr) (cs : List V) (us : List Value) (b : Bool), xs = [.ref a, .ref tp] ∧ H tp = some (.tup cs) ∧ Paired ClsV cs us ∧ PySem.W.kitAny K (.ref D) us = some b ∧ Q (.bl b) H
/-- what the exception's object is: of the class D, with the dict d -/
structure ExAt (K : PySem.W.Frag) (D : Addr) (d : Option Addr) (oe : Obj) : Prop where
  z : Zc (.ref D) d oe
  f : ∃ vs, oe.data = .fields vs
/-- how it answers isinstance: for every heap in which it stands -/
def KitE (K : PySem.W.Frag) (D a : Addr) (oe : Obj) (d : Option Addr) : Prop := KitX' K D a oe d
where KitX' (K : PySem.W.Frag) (D a : Addr) (oe : Obj) (d : Option Addr) : Prop := ∃ Z : Heap → Prop, PySem.W.KitX K (.ref a) (.ref D) Z ∧ ∀ h : Heap, h.get? a = some oe → (∀ dd, d = some dd → ∃ od, h.get? dd = some od) → Z h
theorem kitE_none {K : PySem.W.Frag} {D a : Addr} {oe : Obj} (C : ExcC K D) (E : ExAt K D none oe) : KitE K D a oe none := by
  refine ⟨_, PySem.W.handS_kitx_exc (ox := oe) C.hg C.hk C.hs C.hd C.ha C.hn C.ht C.hm, fun h hg _ => ?_⟩
  obtain ⟨⟨h1, h2⟩, vs, hv⟩ := E
  obtain ⟨oc, od, oda, osl⟩ := oe
  dsimp only at h1 h2 hv
  subst h1 h2 hv
  exact ⟨hg, rfl, rfl, trivial⟩
theorem call_isiE {a D : Addr} {oe : Obj} (hp : (a, oe) ∈ X.pn) (Z : KitE X.K D a oe none) : CallR X (.builtin "isinstance") (rIsiE X.K D a) := by
  intro pins s σ H xs us Q I r h
  obtain ⟨c, u, b, rfl, hc, hk, z⟩ := h
  obtain ⟨u1, u2, rfl, r1, r2⟩ := vals2 r
  cases (show u1 = Value.ref a from r1)
  have e2 := hc.eq r2
  subst e2
  obtain ⟨Zp, kx, hz⟩ := Z
  obtain ⟨hget, _⟩ := I.pin (a, oe) (List.mem_append_left _ hp)
  exact PySem.W.kia_one kx I.kIn (hz _ hget fun _ z => nomatch z) hk (fun z => nomatch z) fun tk => ⟨.bl b, H, I.tok tk, rfl, z⟩
theorem call_isiET {a D : Addr} {oe : Obj} (hp : (a, oe) ∈ X.pn) (Z : KitE X.K D a oe none) : CallR X (.builtin "isinstance") (rIsiET X.K D a) := by
  intro pins s σ H xs us Q I r h
  obtain ⟨tp, cs, ws, b, rfl, hT, hc, hk, z⟩ := h
  obtain ⟨u1, u2, rfl, r1, r2⟩ := vals2 r
  cases (show u1 = Value.ref a from r1)
  cases (show u2 = Value.ref tp from r2)
  obtain ⟨Zp, kx, hz⟩ := Z
  obtain ⟨hget, _⟩ := I.pin (a, oe) (List.mem_append_left _ hp)
  obtain ⟨_, its, rv, o, g1, g2, n, g3⟩ := (show ObjOk X.prog X.w H s.heap tp (.tup cs) from I.hok tp _ hT)
  have e3 := ClsV.all hc rv
  subst e3
  obtain ⟨oc, od, dt, sl⟩ := o
  simp only at g2 g3
  subst g2 g3
  exact PySem.W.kia_tup kx I.kIn (hz _ hget fun _ z => nomatch z) g1 hk (fun z => nomatch z) fun tk => ⟨.bl b, H, I.tok tk, rfl, z⟩
end
/-! ### errors raised, calls that may raise -/
/-- an own error class without an __init__ of its own -/
structure Ex0 (K : PySem.W.Frag) (mg : Str → Option Value) (x : Str) (C : Addr) : Prop where
  g : mg x = some (.ref C)
  q : PySem.W.excIn K C He.veBase "ValueError.__new__" = true
  k : PySem.W.keepIn K (.ref C) = true
  e : PySem.W.subIn K (.ref C) (.type "BaseException") = some true
  t : PySem.W.typeIn K (.ref C) = some (.type "type")
def tRz (W : WX) (C : Addr) : TS := fun _ σ H => W (.ref C) none σ H
section
variable {X : Cx} {k : Nat} {ps : List Str} {sp : Sp} {x : Str} {pos q pos' : Pos} {e : Expr} {es : List Expr} {t : TA} {C : Addr} {W : WX}
theorem pmk_own0 (Y : Ex0 X.K X.mg x C) (hg : Gl X x) (hdb : (x == ("__debug__" : Str)) = false := by decide) : PMk X (.Call (.Name x q) [] [] pos) (fun _ H Q => Q (.ref C) none H) := by
  intro pins s σ H Q J h
  refine wpAny_Call_Name_kw (ld_glob J hg Y.g ?_ hdb)
  refine PySem.W.callWith_K0 J.kIn Y.k ?_
  obtain ⟨_, _, _, _, _, _, _, _, _, _, _, _, _, _, _, _, _, hC, hN, hni, T⟩ := exc_obj J.kIn Y.q
  exact wpAny_call_exc_subT PySem.F.excBase_ValueError T hC hN hni (fun h' e hm => mk_of J hm (raises_own Y.e Y.t) h (J.hok.gone hm.new)) (by show 0 ≤ sizeLine; omega)
theorem ps_raise0 (hc : X.calm = true) (tk : Takes X W) (Y : Ex0 X.K X.mg x C) (hg : Gl X x := by rfl) (hdb : (x == ("__debug__" : Str)) = false := by decide) : PS X (.Raise (some (.Call (.Name x q) [] [] pos)) none pos') (tRz W C) :=
  ps_raise hc tk (pmk_own0 Y hg hdb)
theorem x_rz {D : Ends} {σ : St} {H : Hp} (z : W (.ref C) none σ H) : tRz W C D σ H := z
/-- a call of a def that may raise, in a def that lets it out -/
theorem pe_ownX {E : XK} (D : Okk X.prog X.w X.K X.mg X.base (L2.CX X.prog X.w) k x ps sp) (hr : Room k X.A) (hx : Passes (L2.CX X.prog X.w) X E) (ha : PA X (e :: es) t) (hg : Gl X x := by rfl)
    (hdb : (x == ("__debug__" : Str)) = false := by decide) (he : starEach (e :: es) X.env = (false, eval e X.env) :: starEach es X.env := by rfl) (hpl : (backTo pos (starEach es X.env)).any (·.1) = false := by rfl) :
    PE X (.Call (.Name x q) (e :: es) [] pos) (tCall sp [] E t) := by
  obtain ⟨f, fd, a, b, c, d⟩ := D
  exact pe_call d hr hg a b c .nil hx ha hdb he hpl
/-- .. in a try -/
def tCallW (sp : Sp) (W : WX) (t : TA) : TE := fun σ H Q => t σ H fun vs H1 => sp vs H1 Q fun cls d H' => W cls d σ H'
theorem pe_ownS (D : Okk X.prog X.w X.K X.mg X.base (L2.CX X.prog X.w) k x ps sp) (hr : Room k X.A) (tk : Takes X W) (ha : PA X (e :: es) t) (hg : Gl X x := by rfl)
    (hdb : (x == ("__debug__" : Str)) = false := by decide) (he : starEach (e :: es) X.env = (false, eval e X.env) :: starEach es X.env := by rfl) (hpl : (backTo pos (starEach es X.env)).any (·.1) = false := by rfl) :
    PE X (.Call (.Name x q) (e :: es) [] pos) (tCallW sp W t) := by
  obtain ⟨f, fd, a, b, c, d⟩ := D
  exact pe_callS d hr hg a b c (fun σ => passAt tk σ) ha hdb he hpl
/-- in a suite: a def that is handed the caught exception (a: its address, cls, d: its class, its dict) -/
def tCallH (sp : Addr × Obj → Sp) (a : Addr) (cls : Value) (d : Option Addr) (t : TA) : TE := fun σ H Q => t σ H fun vs H1 => ∀ oe : Obj, Zc cls d oe → (∃ vs, oe.data = .fields vs) → sp (a, oe) vs H1 Q E0
theorem pe_ownH {sp : Addr × Obj → Sp} {a : Addr} {oe : Obj} {cls : Value} {d : Option Addr} (D : OkE X.prog X.w X.K X.mg X.base k x ps sp) (hr : RoomH k X.A) (hp : (a, oe) ∈ X.pn) (hz : Zc cls d oe) (hf : ∃ vs, oe.data = .fields vs) (ha : PA X (e :: es) t) (hg : Gl X x := by rfl)
    (hdb : (x == ("__debug__" : Str)) = false := by decide) (he : starEach (e :: es) X.env = (false, eval e X.env) :: starEach es X.env := by rfl) (hpl : (backTo pos (starEach es X.env)).any (·.1) = false := by rfl) :
    PE X (.Call (.Name x q) (e :: es) [] pos) (tCallH sp a cls d t) := by
  obtain ⟨f, fd, g1, g2, g3, F⟩ := D
  refine ⟨fun pins s σ H Q J h => ?_⟩
  refine wpAny_Call_Name_kw (ld_glob J hg g1 ?_ hdb)
  refine PySem.W.callWith_K (h₀ := X.base) J.ok.mod.kin g2 (thn (ha.run pos pins s σ H _ J h) fun us s1 hh => ?_) he hpl
  obtain ⟨vs, H1, J1, r, z⟩ := hh
  exact ⟨J1.kIn, run_fnE F hr hp g3 J1 r (z oe hz hf)⟩
theorem x_callW {σ : St} {H : Hp} {Q : VK} (z : t σ H fun vs H1 => sp vs H1 Q fun cls d H' => W cls d σ H') : tCallW sp W t σ H Q := z
theorem x_callH {sp : Addr × Obj → Sp} {a : Addr} {cls : Value} {d : Option Addr} {σ : St} {H : Hp} {Q : VK} (z : t σ H fun vs H1 => ∀ oe : Obj, Zc cls d oe → (∃ vs, oe.data = .fields vs) → sp (a, oe) vs H1 Q E0) : tCallH sp a cls d t σ H Q := z
end
section
variable {K : PySem.W.Frag} {H : Hp} {Q : VK} {D a C : Addr}
theorem x_isiE1 {b : Bool} (hk : PySem.W.kitOne K (.ref D) (.ref C) = some b) (q : Q (.bl b) H) : rIsiE K D a [.ref a, .ref C] H Q := ⟨_, _, b, rfl, .own C, hk, q⟩
theorem x_isiE2 {n : String} {b : Bool} (hk : PySem.W.kitOne K (.ref D) (.type n) = some b) (q : Q (.bl b) H) : rIsiE K D a [.ref a, .ty n] H Q := ⟨_, _, b, rfl, .ty n, hk, q⟩
theorem x_isiET {tp : Addr} {cs : List V} {us : List Value} {b : Bool} (ht : H tp = some (.tup cs)) (hc : Paired ClsV cs us) (hk : PySem.W.kitAny K (.ref D) us = some b) (q : Q (.bl b) H) : rIsiET K D a [.ref a, .ref tp] H Q := ⟨tp, cs, us, b, rfl, ht, hc, hk, q⟩
theorem x_was {c cls : Value} {i : Nat} {ts : Addr → Value → Option Addr → TS} {Wout : WX} {Ds : Ends} {d : Option Addr} {σ : St} (he : PySem.W.exmOne K cls c = some true)
    (q : ∀ a, H a = none → ts a cls d { nx := fun s' H' => Ds.nx (s'.set i none) H', rt := Ds.rt, bk := fun s' H' => Ds.bk (s'.set i none) H', ct := fun s' H' => Ds.ct (s'.set i none) H' } (σ.set i (some (.ref a))) H) : wAs K c i ts Wout Ds cls d σ H :=
  ⟨true, he, fun _ => q, fun z => nomatch z⟩
/-- facts of classes, by names -/
def kitNN (K : PySem.W.Frag) (x y : Str) (b : Bool) : Bool := decide (PySem.W.kitOne K (.ref (He.ga K x)) (.ref (He.ga K y)) = some b)
def kitNT (K : PySem.W.Frag) (x : Str) (n : String) (b : Bool) : Bool := decide (PySem.W.kitOne K (.ref (He.ga K x)) (.type n) = some b)
def kitNA (K : PySem.W.Frag) (x : Str) (ys : List Str) (b : Bool) : Bool := decide (PySem.W.kitAny K (.ref (He.ga K x)) (ys.map fun y => .ref (He.ga K y)) = some b)
def excB (K : PySem.W.Frag) (x : Str) : Bool :=
  decide (PySem.W.findIn K (.ref (He.ga K x)) "__getattribute__" = some (some (.builtin "BaseException.__getattribute__"))) && decide (PySem.W.findIn K (.ref (He.ga K x)) "__getattr__" = some none) &&
  decide (PySem.W.subIn K (.ref (He.ga K x)) (.type "BaseException") = some true) && PySem.W.hasDictIn K (He.ga K x) && decide (PySem.W.findIn K (.ref (He.ga K x)) "__class__" = some (some (.builtin "object.__class__"))) &&
  decide (PySem.W.specialIn K (.builtin "object.__class__") "__get__" = some (some (.builtin "getset_descriptor.__get__"))) && decide (PySem.W.takesIn K (.builtin "object.__class__") = some true) && decide (PySem.W.mroIn K (He.ga K x) (.type "object") = some true)
theorem excB_ok {x : Str} (h : excB K x = true) : ExcC K (He.ga K x) := by
  unfold excB at h
  simp only [Bool.and_eq_true, decide_eq_true_eq] at h
  obtain ⟨⟨⟨⟨⟨⟨⟨h1, h2⟩, h3⟩, h4⟩, h5⟩, h6⟩, h7⟩, h8⟩ := h
  exact ⟨h1, h2, h3, h4, h5, h6, h7, h8⟩
theorem ex0_ok {h : Heap} {mg : Str → Option Value} {x : Str} (X : K.In h) (G : h.Ns mainGlobals mg) (c : (He.Fa.exc x).ok K = true) (c2 : (He.Fa.glo x).ok K = true) : Ex0 K mg x (He.ga K x) := by
  obtain ⟨a1, a2, a3, a4⟩ := He.exc_ok c
  exact ⟨He.glo_ok X G c2, a1, a2, a3, a4⟩
end
end LN
namespace LN
open PySem PySem.Spec PyProof.Rows L2
section
variable {K : PySem.W.Frag} {σ : St} {H : Hp} {D : Ends} {g : TG} {tb : TS} {ta : TA}
/-- range(i, j, -1) -/
def ItD (R : It → Hp → Prop) : List V → Hp → Prop := fun vs H1 => ∃ (i j c : Int) (n : Nat), vs = [.int i, .int j, .int c] ∧ RgC i j c n ∧ R (Itc i c n) H1
theorem x_itR3 {R : It → Hp → Prop} (q : ta σ H (ItD R)) : iRng3 ta σ H R := q
theorem l_down {i j : Int} (hb : -100000 < i ∧ i < 100000 ∧ -100000 < j ∧ j < 100000) (Pv : Nat → St → Hp → Prop) (h0 : Pv 0 σ H)
    (hs : ∀ (m : Nat) s' H', (m : Int) < i - j → Pv m s' H' → g (.int (i - (m : Int))) s' H' fun σ2 H2 => tb { D with nx := Pv (m + 1), ct := Pv (m + 1), bk := D.nx } σ2 H2) (hd : ∀ s' H', Pv (i - j).toNat s' H' → D.nx s' H') : ItD (fun J H1 => ForG J g tb D σ H1) [.int i, .int j, .int (-1)] H :=
  ⟨i, j, -1, (i - j).toNat, rfl, RgC.neg (by omega) (by omega) (by omega) (by omega), for_rangeC (lo := i) (c := -1) (n := (i - j).toNat) Pv h0 (fun m s' H' hm hp => by
    have e : i + (m : Int) * (-1) = i - (m : Int) := by omega
    rw [e]
    exact hs m s' H' (by omega) hp) hd⟩
/-- enumerate(xs) -/
def ItE (K : PySem.W.Frag) (R : It → Hp → Prop) : List V → Hp → Prop := fun vs H1 => ∃ a xs, vs = [.ref a] ∧ SqL K H1 a xs ∧ R (Ite K a) H1
theorem x_itE {R : It → Hp → Prop} (q : ta σ H (ItE K R)) : iEnum K ta σ H R := q
theorem l_enum {p : Addr} {xs : List V} (h : SqL K H p xs) (Pv : Nat → St → Hp → Prop) (h0 : Pv 0 σ H) (hl : ∀ i s' H', i ≤ xs.length → Pv i s' H' → SqL K H' p xs)
    (hs : ∀ (i : Nat) x T s' H', xs[i]? = some x → H' T = none → Pv i s' H' → g (.ref T) s' (upd H' T (.tup [.int (i : Int), x])) fun σ2 H2 => tb { D with nx := Pv (i + 1), ct := Pv (i + 1), bk := D.nx } σ2 H2)
    (hd : ∀ s' H', Pv xs.length s' H' → D.nx s' H') : ItE K (fun J H1 => ForG J g tb D σ H1) [.ref p] H := by
  refine ⟨p, xs, rfl, h, fun i m s' H' => m = xs.length - i ∧ i ≤ xs.length ∧ Pv i s' H', ⟨xs.length, by simp, Nat.zero_le _, h0⟩, ?_⟩
  rintro i m s' H' ⟨rfl, hi, z⟩
  have sq := hl i s' H' hi z
  rcases Nat.lt_or_ge i xs.length with lt | ge
  · refine .inr ⟨⟨xs, xs[i], sq, List.getElem?_eq_getElem lt⟩, Pv (i + 1), fun s2 H2 z2 => ⟨_, by omega, rfl, lt, z2⟩, ?_⟩
    rintro _ _ ⟨T, y, rfl, fT, rfl, gy⟩
    exact hs i y T s' H' (gy xs sq) fT z
  · obtain rfl : i = xs.length := Nat.le_antisymm hi ge
    exact .inl ⟨⟨xs, sq, Nat.le_refl _⟩, hd s' H' z⟩
/-- a comprehension over a tuple -/
theorem l_lcT {p : Addr} {xs : List V} {tt : TT} {te : TE} {vs : List Nat} {Q : VK} {s0 : St} (hw : wipe σ vs = s0) (h : SqT K H p xs) (Pv : Addr → Nat → Hp → Prop) (h0 : ∀ Dl, H Dl = none → Pv Dl 0 (upd H Dl (.lst []))) (hl : ∀ Dl i H', H Dl = none → i ≤ xs.length → Pv Dl i H' → SqT K H' p xs)
    (hs : ∀ Dl i x H', H Dl = none → xs[i]? = some x → Pv Dl i H' → g x s0 H' fun σ2 H2 => wipe σ2 vs = s0 ∧ tt σ2 H2 fun b H3 =>
      if b = true then te σ2 H3 fun y H4 => ∃ acc, H4 Dl = some (.lst acc) ∧ acc.length < sizeLine ∧ Pv Dl (i + 1) (upd H4 Dl (.lst (acc ++ [y]))) else Pv Dl (i + 1) H3)
    (hd : ∀ Dl H', H Dl = none → Pv Dl xs.length H' → Q (.ref Dl) H') : ItT K (fun J H1 => LcG J g tt te vs σ H1 Q) (.ref p) H := by
  subst hw
  exact ⟨p, rfl, ⟨xs, h⟩, fun Dl hD => lc_tup (xs := xs) (Pv Dl) (h0 Dl hD) (fun i H' => hl Dl i H' hD) (fun i x H' => hs Dl i x H' hD) fun H' => hd Dl H' hD⟩
theorem x_append0 {a : Addr} {v : V} {Q : VK} (h : H a = some (.lst xs)) (l : xs.length < 100000) (q : Q .non (upd H a (.lst (xs ++ [v])))) : rAppend (.ref a) [v] H Q := x_append h l q
theorem SetTo.at {A : Type} {v : A} : ∀ {xs : List A} {i : Nat}, i < xs.length → SetTo xs i v (xs.set i v)
  | [], _, h => absurd h (Nat.not_lt_zero _)
  | _ :: _, 0, _ => .zero
  | _ :: _, _ + 1, h => .succ (SetTo.at (Nat.lt_of_succ_lt_succ h))
/-- bs.count(b) of a list of truth values -/
def eqb (b : Bool) : Value → Bool
  | .bool c => c == b
  | _ => false
def rCntB (K : PySem.W.Frag) : V → List V → Hp → VK → Prop := fun x xs H Q => ∃ (p : Addr) (bs : List Bool) (b : Bool), x = .ref p ∧ xs = [.bl b] ∧ SqL K H p (bs.map V.bl) ∧ Q (.int (bs.count b : Nat)) H
theorem bools_of : ∀ {bs : List Bool} {us : List Value}, Vals (bs.map V.bl) us → us = bs.map Value.bool
  | [], _, h => by cases h; rfl
  | b :: l, _, h => by
    cases h with
    | cons r t => rw [List.map_cons, ← bools_of t, (show _ = Value.bool b from r)]
theorem eqb_count (b : Bool) : ∀ bs : List Bool, (bs.map Value.bool).countP (eqb b) = bs.count b
  | [] => rfl
  | c :: l => by
    rw [List.map_cons, List.countP_cons, List.count_cons, eqb_count b l]
    rfl
theorem mt_bcount {X : Cx} : MtR X "list.count" (rCntB X.K) := fun pins s σ H x xs v us Q I rx rxs h => by
  obtain ⟨p, bs, b, rfl, rfl, hs, q⟩ := h; cases rx; obtain ⟨u, rfl, ru⟩ := rxs.one
  obtain rfl : u = Value.bool b := ru
  obtain ⟨its, rv, ⟨⟨cls, dd, data, sl⟩, n, ho, hc, hdn, hd⟩, hlen⟩ := I.list hs; dsimp only at hc hd; subst hc hd
  obtain rfl := bools_of rv
  refine call_meets PySem.F.slot_list_count ⟨_, ho, rfl⟩ PySem.F.entry_list_count (PySem.F.args_list_count_2 _ _) (SeqAt.list_countAt p _ n dd sl (.bool b) (eqb b)) ⟨ho, fun y hy => ?_, .int (bs.count b : Nat), H, I.tok _, ⟨s.toks, ?_⟩, q⟩
  · obtain ⟨c, _, rfl⟩ := List.mem_map.mp (List.mem_toArray.mp hy)
    exact SeqAt.EqAt.bool_bool c b
  · show Value.int ((((bs.map Value.bool).toArray.toList.countP (eqb b) : Nat)) : Int) s.toks = _
    rw [List.toList_toArray, eqb_count]
/-- a swap of two items -/
theorem swap_perm {xs : List V} {i j : Nat} {a b : V} (hi : xs[i]? = some a) (hj : xs[j]? = some b) : ((xs.set i b).set j a).Perm xs := by
  obtain ⟨h1, e1⟩ := List.getElem?_eq_some_iff.mp hi
  obtain ⟨h2, e2⟩ := List.getElem?_eq_some_iff.mp hj
  have h := Array.swap_perm (xs := xs.toArray) (i := i) (j := j) (by simpa using h1) (by simpa using h2)
  have e : (xs.toArray.swap i j (by simpa using h1) (by simpa using h2)).toList = (xs.set i b).set j a := by
    rw [Array.toList_swap]
    simp [e1, e2]
  have h' := Array.perm_iff_toList_perm.mp h
  rw [e] at h'
  simpa using h'
end
end LN
namespace LN
open PySem PySem.Spec PyProof.Rows L2 L2H
/-! ### errors with a field -/
theorem KitX.union {ι : Type} {K : PySem.W.Frag} {x t : Value} {Z : ι → Heap → Prop} (i0 : ι) (h : ∀ i, PySem.W.KitX K x t (Z i)) : PySem.W.KitX K x t (fun hp => ∃ i, Z i hp) where
  ty := fun M hp X ⟨i, z⟩ => (h i).ty M hp X z
  it := fun M hp X ⟨i, z⟩ => (h i).it M hp X z
  ne := (h i0).ne
  ca := fun X ⟨i, z⟩ q => (h i).ca X z q
theorem kitE_of {K : PySem.W.Frag} {D a : Addr} {oe : Obj} {d : Option Addr} (C : ExcC K D) (E : ExAt K D d oe) : KitE K D a oe d := by
  have hcl : (PySem.W.clsIn K D).isSome = true := by
    have h := C.hd
    unfold PySem.W.hasDictIn at h
    cases e : PySem.W.clsIn K D with
    | none => rw [e] at h; cases h
    | some cd => rfl
  refine ⟨_, KitX.union (ι := Option Obj) (Z := fun od hp => PySem.W.InstAt hp a oe D od) none fun od => PySem.W.kitx_exc hcl C.hg C.hk C.hs C.ha C.hn C.ht C.hm, fun hp hg hd => ?_⟩
  obtain ⟨⟨h1, h2⟩, vs, hv⟩ := E
  obtain ⟨oc, od, oda, osl⟩ := oe
  dsimp only at h1 h2 hv
  subst h1 h2 hv
  cases od with
  | none => exact ⟨none, hg, rfl, rfl, trivial⟩
  | some dd =>
    obtain ⟨od, e⟩ := hd dd rfl
    exact ⟨some od, hg, rfl, rfl, e⟩
/-- the error's own dict stands in the heap -/
def DictAt (H : Hp) (d : Option Addr) : Prop := ∀ dd, d = some dd → ∃ fs, H dd = some (.xd fs)
theorem DictAt.none {H : Hp} : DictAt H none := fun _ e => nomatch e
theorem DictAt.kp {H H' : Hp} {d : Option Addr} (h : DictAt H d) (k : Kp [] H H') : DictAt H' d := fun dd e => by
  obtain ⟨fs, z⟩ := h dd e
  exact ⟨fs, k _ _ nil_mem z⟩
def rIsiD (K : PySem.W.Frag) (D a : Addr) (d : Option Addr) : List V → Hp → VK → Prop := fun xs H Q => ∃ (c : V) (u : Value) (b : Bool), xs = [.ref a, c] ∧ ClsV c u ∧ PySem.W.kitOne K (.ref D) u = some b ∧ DictAt H d ∧ Q (.bl b) H
def rIsiDT (K : PySem.W.Frag) (D a : Addr) (d : Option Addr) : List V → Hp → VK → Prop := fun xs H Q => ∃ (tp : Addr) (cs : List V) (us : List Value) (b : Bool), xs = [.ref a, .ref tp] ∧ H tp = some (.tup cs) ∧ Paired ClsV cs us ∧ PySem.W.kitAny K (.ref D) us = some b ∧ DictAt H d ∧ Q (.bl b) H
section
variable {X : Cx} {a D : Addr} {oe : Obj} {d : Option Addr}
theorem dict_heap {pins : List (Addr × Obj)} {σ : St} {H : Hp} {s : Shared} (I : Inv X pins σ H s) (hd : DictAt H d) : ∀ dd, d = some dd → ∃ od, s.heap.get? dd = some od := fun dd e => by
  obtain ⟨fs, z⟩ := hd dd e
  have hx : ObjOk X.prog X.w H s.heap dd (.xd fs) := I.hok dd _ z
  obtain ⟨mA, hns, _⟩ := hx
  obtain ⟨od, ho, _⟩ := lookIn_ns hns
  exact ⟨od, ho⟩
theorem call_isiD (hp : (a, oe) ∈ X.pn) (Z : KitE X.K D a oe d) : CallR X (.builtin "isinstance") (rIsiD X.K D a d) := by
  intro pins s σ H xs us Q I r h
  obtain ⟨c, u, b, rfl, hc, hk, hd, z⟩ := h
  obtain ⟨v1, v2, rfl, q1, q2⟩ := vals2 r
  cases (show v1 = Value.ref a from q1)
  obtain rfl := hc.eq q2
  obtain ⟨Zp, kx, hz⟩ := Z
  exact PySem.W.kia_one kx I.kIn (hz _ (I.pin (a, oe) (List.mem_append_left _ hp)).1 (dict_heap I hd)) hk (fun z => nomatch z) fun tk => ⟨.bl b, H, I.tok tk, rfl, z⟩
theorem call_isiDT (hp : (a, oe) ∈ X.pn) (Z : KitE X.K D a oe d) : CallR X (.builtin "isinstance") (rIsiDT X.K D a d) := by
  intro pins s σ H xs us Q I r h
  obtain ⟨tp, cs, ws, b, rfl, hT, hc, hk, hd, z⟩ := h
  obtain ⟨v1, v2, rfl, q1, q2⟩ := vals2 r
  cases (show v1 = Value.ref a from q1)
  cases (show v2 = Value.ref tp from q2)
  obtain ⟨Zp, kx, hz⟩ := Z
  obtain ⟨_, its, rv, o, g1, g2, n, g3⟩ := (show ObjOk X.prog X.w H s.heap tp (.tup cs) from I.hok tp _ hT)
  obtain rfl := ClsV.all hc rv
  obtain ⟨oc, od, dt, sl⟩ := o
  dsimp only at g2 g3
  subst g2 g3
  exact PySem.W.kia_tup kx I.kIn (hz _ (I.pin (a, oe) (List.mem_append_left _ hp)).1 (dict_heap I hd)) g1 hk (fun z => nomatch z) fun tk => ⟨.bl b, H, I.tok tk, rfl, z⟩
/-- e.f, e the error that the def was handed -/
def tFld (a : Addr) (d : Option Addr) (f : Str) (te : TE) : TE := fun σ H Q => te σ H fun x H1 => x = .ref a ∧ ∃ (dd : Addr) (fs : List (Str × V)) (v : V), d = some dd ∧ H1 dd = some (.xd fs) ∧ fs.lookup f = some v ∧ Q v H1
theorem pe_fld {C : Addr} {e : Expr} {te : TE} {pos : Pos} {n : Str} (hp : (a, oe) ∈ X.pn) (T : ExcC X.K C) (hno : PySem.W.findIn X.K (.ref C) n = some none) (hE : ExAt X.K C d oe) (he : PE X e te)
    (hb : attributeBase e n X.env (eval e X.env) = eval e X.env := by rfl) : PE X (.Attribute e n pos) (tFld a d n te) := by
  refine ⟨fun pins s σ H Q I h => attr_of hb (thn (he.run pins s σ H _ I h) fun u s1 ⟨x, H1, I1, rx, ex, dd, fs, v, ed, ea, l, q⟩ => ?_)⟩
  subst ex ed
  obtain rfl : u = Value.ref a := rx
  obtain ⟨⟨z1, z2⟩, vs, hd⟩ := hE
  obtain ⟨mA, hns, hr⟩ := (show ObjOk X.prog X.w H1 s1.heap dd (.xd fs) from I1.hok dd _ ea)
  obtain ⟨od, ho, hl⟩ := lookIn_ns hns
  obtain ⟨u, hu, ru⟩ := RelO.some_of (v := v) (o := mA n) (by rw [← l]; exact hr n)
  have J : PySem.W.InstAt s1.heap a oe C (some od) := ⟨(I1.pin (a, oe) (List.mem_append_left _ hp)).1, z1, by unfold PySem.W.notCls; rw [hd] <;> rfl, by rw [z2]; exact ho⟩
  exact HandSPX.exc_get I1.kIn J T.hg T.hk T.hs (PySem.W.findObj_own T.hd hno rfl (by rw [hl, hu])) (handed_of ru) ⟨v, H1, I1.tok _, ru, q⟩
end
/-! ### .. raised -/
def spInit (C : Addr) (f : Str) : Sp := fun vs H Q _ => ∃ a v, vs = [.ref a, v] ∧ H a = some (exo a C none) ∧ ∀ dx, H dx = none → dx ≠ a → Q .non (upd (upd H dx (exd dx [(f, v)])) a (exo a C (some dx)))
/-- an own error class whose __init__ stores one value in the field f -/
structure Ex1 (P : Program) (w : World) (K : PySem.W.Frag) (mg : Str → Option Value) (base : Heap) (x : Str) (C : Addr) (f : Str) : Prop where
  g : mg x = some (.ref C)
  o : OexC K C
  i : ∃ fI fd, PySem.W.findIn K (.ref C) "__init__" = some (some (.ref fI)) ∧ PySem.W.typeIn K (.ref fI) = some (.type "function") ∧ Binds K fd ["self", f] [] ∧ FnOk P w K mg base CX0 1 fI fd ["self", f] (spInit C f)
/-- what is owed where the value v was made -/
def RzC (W : WX) (C : Addr) (f : Str) (σ : St) (v : V) (H1 : Hp) : Prop := [v].length ≤ 1000 ∧ ∀ a, H1 a = none → spInit C f (.ref a :: ([v] ++ [])) (upd H1 a (exo a C none))
  (fun u H2 => u = .non ∧ ∃ (d : Addr) (fs : List (Str × V)), H2 a = some (exo a C (some d)) ∧ H2 d = some (exd d fs) ∧ H1 d = none ∧ W (.ref C) (some d) σ (upd (del H2 a) d (.xd fs))) (fun _ _ _ => False)
def tRz1 (W : WX) (C : Addr) (f : Str) (te : TE) : TS := fun _ σ H => te σ H fun v H1 => RzC W C f σ v H1
theorem x_rz1 {W : WX} {C : Addr} {f : Str} {te : TE} {D : Ends} {σ : St} {H : Hp} (q : te σ H fun v H1 => RzC W C f σ v H1) : tRz1 W C f te D σ H := q
theorem x_rzc {W : WX} {C : Addr} {f : Str} {σ : St} {v : V} {H1 : Hp} (q : ∀ dx H2, Kp [] H1 H2 → H1 dx = none → H2 dx = some (.xd [(f, v)]) → W (.ref C) (some dx) σ H2) : RzC W C f σ v H1 :=
  ⟨by simp, fun a ha => ⟨a, v, rfl, upd_same, fun dx hd hn => ⟨rfl, dx, [(f, v)], upd_same, (upd_ne hn).trans upd_same, (free_upd hd).1, q dx _ (fun b o _ e => by
    rw [upd_ne (ne_of_none e (free_upd hd).1), del_ne (ne_of_none e ha), upd_ne (ne_of_none e ha), upd_ne (ne_of_none e (free_upd hd).1), upd_ne (ne_of_none e ha)]
    exact e) (free_upd hd).1 upd_same⟩⟩⟩
section
variable {X : Cx} {x : Str} {C : Addr} {f : Str} {W : WX} {pos q pos' : Pos} {e : Expr} {te : TE}
theorem ps_raise1 (hc : X.calm = true) (tk : Takes X W) (Y : Ex1 X.prog X.w X.K X.mg X.base x C f) (hr : Room 2 X.A) (he : PE X e te) (hg : Gl X x := by rfl) (hdb : (x == ("__debug__" : Str)) = false := by decide)
    (hst : starEach (e :: []) X.env = (false, eval e X.env) :: starEach [] X.env := by rfl) (hpl : (backTo pos (starEach [] X.env)).any (·.1) = false := by rfl) : PS X (.Raise (some (.Call (.Name x q) [e] [] pos)) none pos') (tRz1 W C f te) := by
  obtain ⟨fI, fd, h1, h2, hB, G⟩ := Y.i
  exact ps_raise hc tk (pmk_oex Y.o h1 h2 G hr hB .nil pass0 hg Y.g (pa_cons he pa_nil hst) hdb hst hpl)
end
/-- the walk of such an __init__ -/
theorem init_ok {P : Program} {w : World} {K : PySem.W.Frag} {mg : Str → Option Value} {base : Heap} {qn f : Str} {C fI : Addr} {fd : FuncData} {st : Stmt} (F : FunD K "__init__" qn (defArgs st) (defBody st) (defScope st) [] [] fI fd)
    (S : FnScope ["self", f] ["self", f] (defScope st)) (T : OexC K C) (no : PySem.W.findIn K (.ref C) f = some none)
    (hb : ∀ (cdv : Value) (A : Around) (outer : List Env) (s : Shared) (H : Hp) (E : XK), PSs (cxOf CX0 P w K mg base ["self", f] qn (defScope st) fI cdv A outer s H E) (defBody st) (tOst K f (tVar 0) (tVar 1))) : FnOk P w K mg base CX0 1 fI fd ["self", f] (spInit C f) := by
  refine F.ok S (fun vs H Q E z => ?_) fun cdv A outer s H vs Q E hr z => ⟨_, hb cdv A outer s H E, ?_⟩
  · obtain ⟨_, _, rfl, _⟩ := z
    rfl
  · obtain ⟨a, v, rfl, ha, q⟩ := z
    exact ⟨v, rfl, .ref a, rfl, a, C, rfl, T, no, .inl ⟨ha, fun dx h1 h2 => q dx h1 h2⟩⟩
end LN
namespace LN
open PySem PySem.Spec PyProof.Rows L2 L2H
/-! ### an own def that may raise, called by keywords alone in a try body -/
def DefAtK (K : PySem.W.Frag) (mg : Str → Option Value) (x : Str) (ps ks : List Str) (g : List Value → List Value → List Value) (gV : List V → List V → List V) (st : Stmt) : Prop :=
  ∃ f fd, mg x = some (.ref f) ∧ FunD K x x (defArgs st) (defBody st) (defScope st) [] [] f fd ∧ Binds K fd ps [] ∧ KBinds K fd ps ks g gV
def OkkK (P : Program) (w : World) (K : PySem.W.Frag) (mg : Str → Option Value) (base : Heap) (CX : CXT) (k : Nat) (x : Str) (ps ks : List Str) (g : List Value → List Value → List Value) (gV : List V → List V → List V) (sp : Sp) : Prop :=
  ∃ f fd, mg x = some (.ref f) ∧ PySem.W.keepIn K (.ref f) = true ∧ Binds K fd ps [] ∧ KBinds K fd ps ks g gV ∧ FnOk P w K mg base CX k f fd ps sp
section
variable {P : Program} {w : World} {K : PySem.W.Frag} {mg : Str → Option Value} {base : Heap} {CX : CXT} {k : Nat} {x : Str} {ps ks : List Str} {g : List Value → List Value → List Value} {gV : List V → List V → List V} {sp : Sp}
theorem OkkK.okk (h : OkkK P w K mg base CX k x ps ks g gV sp) : Okk P w K mg base CX k x ps sp := by
  obtain ⟨f, fd, a, b, c, _, d⟩ := h
  exact ⟨f, fd, a, b, c, d⟩
theorem OkkK.mono {j : Nat} (h : OkkK P w K mg base CX j x ps ks g gV sp) (l : j ≤ k) : OkkK P w K mg base CX k x ps ks g gV sp := by
  obtain ⟨f, fd, a, b, c, e, d⟩ := h
  exact ⟨f, fd, a, b, c, e, d.mono l⟩
theorem DefAtK.okX {N : List Str} {st : Stmt} (h : DefAtK K mg x ps ks g gV st) (S : FnScope N ps (defScope st)) (len : ∀ vs H Q E, sp vs H Q E → vs.length = ps.length)
    (hb : ∀ (cdv : Value) (f : Addr) (A : Around) (outer : List Env) (s : Shared) (H : Hp) (vs : List V) (Q : VK) (E : XK), Room k (A.deeper (envOfC x (defScope st) s.heap.objs.size f cdv)) → sp vs H Q E →
      ∃ t, PSs (cxOf (L2.CX P w) P w K mg base N x (defScope st) f cdv A outer s H E) (defBody st) t ∧ ∃ sg, StartTo N vs sg ∧ t { nx := fun _ H' => Q .non H', rt := Q } sg H) : OkkK P w K mg base (L2.CX P w) (k + 1) x ps ks g gV sp := by
  obtain ⟨f, fd, a, F, c, e⟩ := h
  refine ⟨f, fd, a, F.kp, c, e, F.ok S len fun cdv A outer s H vs Q E hr hs => ?_⟩
  obtain ⟨t, h1, sg, h2, h3⟩ := hb cdv f A outer s H vs Q E hr hs
  exact ⟨t, h1, h2.eq ▸ h3⟩
end
/-- two parameters, named in the other order -/
def gK : List Value → List Value → List Value
  | [], [b, a] => [a, b]
  | _, _ => []
def gVK : List V → List V → List V
  | [], [b, a] => [a, b]
  | _, _ => []
theorem kb2 {K : PySem.W.Frag} {x qual p1 p2 : Str} {params : Arguments} {body : List Stmt} {scope : Scope} {f : Addr} {fd : FuncData} (F : FunD K x qual params body scope [] [] f fd)
    (h : ∀ (kV doc pm : Value) (an : Option Addr) (cdv ct a b : Value), bindArgs (PySem.W.fnOf x qual params body scope .none kV doc pm an cdv ct) ⟨[], [(p2, b), (p1, a)]⟩ = pure [(p1, a), (p2, b)]) : KBinds K fd [p1, p2] [p2, p1] gK gVK where
  to := fun s us ws _ hl => by
    obtain ⟨oc, od, dV, kV, doc, pm, an, cdv, ct, osl, rfl, lk, hcd, hD, hK⟩ := F.ex
    rcases hD with ⟨_, rfl⟩ | ⟨e, _⟩
    · match us, ws, hl with
      | [], [b, a], _ => exact .of_eq (h kV doc pm an cdv ct a b)
    · exact absurd rfl e
  rel := fun {vs us zs ws} r1 r2 => by
    cases r1 with
    | nil =>
      cases r2 with
      | nil => exact .nil
      | cons q t =>
        cases t with
        | nil => exact .nil
        | cons q2 t2 =>
          cases t2 with
          | nil => exact .cons q2 (.cons q .nil)
          | cons _ _ => exact .nil
    | cons _ _ => exact .nil
section
variable {X : Cx} {k : Nat} {x : Str} {ps ks : List Str} {g : List Value → List Value → List Value} {gV : List V → List V → List V} {sp : Sp} {W : WX} {kws : List Keyword} {tk : TA} {p pos : Pos}
def tCallKW (sp : Sp) (gV : List V → List V → List V) (W : WX) (tk : TA) : TE := fun σ H Q => tk σ H fun zs H1 => sp (gV [] zs) H1 Q fun cls d H' => W cls d σ H'
theorem x_callKW {σ : St} {H : Hp} {Q : VK} (z : tk σ H fun zs H1 => sp (gV [] zs) H1 Q fun cls d H' => W cls d σ H') : tCallKW sp gV W tk σ H Q := z
theorem pe_ownSK (D : OkkK X.prog X.w X.K X.mg X.base (L2.CX X.prog X.w) k x ps ks g gV sp) (hr : Room k X.A) (tw : Takes X W) (hkw : PK X kws tk) (hg : Gl X x := by rfl)
    (hall : (backToKw pos (keywordEach kws X.env)).all (·.1.isSome) = true := by rfl) (hks : (backToKw pos (keywordEach kws X.env)).filterMap (·.1) = ks := by rfl) (hdb : (x == ("__debug__" : Str)) = false := by decide)
    (hpl : ((backTo pos (starEach [] X.env)).any (·.1) || (backToKw pos (keywordEach kws X.env)).any (·.1.isNone)) = false := by rfl) : PE X (.Call (.Name x p) [] kws pos) (tCallKW sp gV W tk) := by
  obtain ⟨f, fd, a, b, _, hb, F⟩ := D
  refine ⟨fun pins s σ H Q I h => wpAny_Call_Name_kw (ld_glob I hg a (PySem.W.callWith_KW0 (h₀ := X.base) I.ok.mod.kin b hall ?_ hpl) hdb)⟩
  refine thn (hkw.run pos pins s σ H _ I h) fun ws s2 ⟨zs, H2, I2, rz, q2⟩ => ⟨I2.kIn, ?_⟩
  rw [hks]
  have rr := hb.rel (vs := []) (us := []) .nil rz
  have hl : (g [] ws).length = ps.length := by rw [← rr.length]; exact F.len _ _ _ _ q2
  refine wpAny_call (codeAny_mono (F.run X.A X.stack s2 H2 ⟨[], ks.zip ws⟩ (g [] ws) (gV [] zs) Q _ hr I2.env0 (hb.to s2 [] ws I2.kIn hl) rr q2) fun r s' hq => ?_)
  match r, hq with
  | .error e, hq => exact passAt tw σ pins H2 s2 e s' I2 hq
  | .ok (.ret u), hq => exact I2.after hq
  | .ok .next, hq => exact False.elim hq
  | .ok .brk, hq => exact False.elim hq
  | .ok .cont, hq => exact False.elim hq
end
end LN
namespace LN
open PySem PySem.Spec PyProof.Rows L2 L2H
/-! ### facts of the error classes, by names -/
section
variable {K : PySem.W.Frag} {x y f : Str}
/-- x against each of the classes ys: it is itself and an OfficeError, nothing else -/
def clsRow (K : PySem.W.Frag) (x : Str) (ys : List Str) : Bool := ys.all fun y => decide (PySem.W.kitOne K (.ref (He.ga K x)) (.ref (He.ga K y)) = some (decide (y = x) || decide (y = "OfficeError")))
theorem clsRow_at {ys : List Str} (h : clsRow K x ys = true) (i : Nat) (e : ys[i]? = some y) : PySem.W.kitOne K (.ref (He.ga K x)) (.ref (He.ga K y)) = some (decide (y = x) || decide (y = "OfficeError")) :=
  of_decide_eq_true (List.all_eq_true.mp h y (List.mem_of_getElem? e))
def oexB (K : PySem.W.Frag) (x : Str) : Bool := (match K.lookup (He.ga K x) with
  | some ⟨.type t, _, .cls c, s⟩ => (match c.mro, s.toList with
    | .ref C' :: bm, [_, _, _, _, some (.builtin n), _] => t == "type" && (C' == He.ga K x && (n == "ValueError.__new__" && (!c.hasDel && (c.hasDict && PySem.HandSPX.refsVE bm))))
    | _, _ => false)
  | _ => false) && (decide (PySem.W.findIn K (.ref (He.ga K x)) "__setattr__" = some (some (.builtin "object.__setattr__"))) && (decide (PySem.W.subIn K (.ref (He.ga K x)) (.type "BaseException") = some true) &&
    (decide (PySem.W.typeIn K (.ref (He.ga K x)) = some (.type "type")) && PySem.W.keepIn K (.ref (He.ga K x)))))
theorem oexB_ok (h : oexB K x = true) : OexC K (He.ga K x) := by
  unfold oexB at h
  obtain ⟨h0, h⟩ := He.ba h
  obtain ⟨h1, h⟩ := He.ba h
  obtain ⟨h2, h⟩ := He.ba h
  obtain ⟨h3, h4⟩ := He.ba h
  refine ⟨?_, of_decide_eq_true h1, of_decide_eq_true h2, of_decide_eq_true h3, h4⟩
  split at h0
  · rename_i t od c s ho
    split at h0
    · rename_i C' bm a0 a1 a2 a3 n a5 e1 e2
      obtain ⟨z0, h0⟩ := He.ba h0
      obtain ⟨z1, h0⟩ := He.ba h0
      obtain ⟨z2, h0⟩ := He.ba h0
      obtain ⟨z3, h0⟩ := He.ba h0
      obtain ⟨z4, z5⟩ := He.ba h0
      obtain rfl := beq_iff_eq.mp z0
      obtain rfl := beq_iff_eq.mp z1
      obtain rfl := beq_iff_eq.mp z2
      obtain ⟨nm, bs, mro, ns, qn, hd, sn, sub, ab, col, del⟩ := c
      dsimp only at e1 z3 z4
      simp only [Bool.not_eq_true'] at z3
      subst e1 z3 z4
      obtain ⟨l⟩ := s
      dsimp only at e2
      subst e2
      exact ⟨nm, qn, ns, bs, bm, sn, sub, ab, col, od, a0, a1, a2, a3, a5, ho, z5⟩
    · cases h0
  · cases h0
theorem meth2 {m : Str} (c : (He.Fa.meth x m).ok K = true) : PySem.W.findIn K (.ref (He.ga K x)) m = some (some (.ref (He.ma K (He.ga K x) m))) ∧ PySem.W.typeIn K (.ref (He.ma K (He.ga K x) m)) = some (.type "function") := by
  obtain ⟨h1, h2⟩ := He.ba c
  exact ⟨He.eqO_ok h1, beq_iff_eq.mp (He.ba h2).1⟩
end
end LN
namespace LN
open PySem PySem.Spec PyProof.Rows L2 L2H
/-- of a class: != is object's -/
def neB (K : PySem.W.Frag) (x : Str) : Bool := He.eqO (PySem.W.findIn K (.ref (He.ga K x)) "__ne__") (some (some (.builtin "object.__ne__"))) && decide (PySem.W.mroIn K (He.ga K x) (.type "object") = some true)
abbrev OwnNe (K : PySem.W.Frag) (C : Addr) : Prop := PySem.W.findIn K (.ref C) "__ne__" = some (some (.builtin "object.__ne__")) ∧ PySem.W.mroIn K C (.type "object") = some true
theorem neB_ok {K : PySem.W.Frag} {x : Str} (h : neB K x = true) : OwnNe K (He.ga K x) := by
  obtain ⟨h1, h2⟩ := He.ba h
  exact ⟨He.eqO_ok h1, of_decide_eq_true h2⟩
/-- what isinstance asks of a class; ints and tuples are none of it -/
structure IsiC (K : PySem.W.Frag) (C : Addr) : Prop where
  cl : Cls K C
  ha : PySem.W.findIn K (.ref C) "__class__" = some (some (.builtin "object.__class__"))
  hn : PySem.W.specialIn K (.builtin "object.__class__") "__get__" = some (some (.builtin "getset_descriptor.__get__"))
  htk : PySem.W.takesIn K (.builtin "object.__class__") = some true
  hm : PySem.W.mroIn K C (.type "object") = some true
  ki : PySem.W.kitOne K (.type "int") (.ref C) = some false
  kt : PySem.W.kitOne K (.type "tuple") (.ref C) = some false
def isiB (K : PySem.W.Frag) (x : Str) : Bool := He.eqO (PySem.W.findIn K (.ref (He.ga K x)) "__class__") (some (some (.builtin "object.__class__"))) && (He.eqO (PySem.W.specialIn K (.builtin "object.__class__") "__get__") (some (some (.builtin "getset_descriptor.__get__"))) && (decide (PySem.W.takesIn K (.builtin "object.__class__") = some true) &&
  (decide (PySem.W.mroIn K (He.ga K x) (.type "object") = some true) && (decide (PySem.W.kitOne K (.type "int") (.ref (He.ga K x)) = some false) && decide (PySem.W.kitOne K (.type "tuple") (.ref (He.ga K x)) = some false)))))
theorem isiB_ok {K : PySem.W.Frag} {x : Str} (h : isiB K x = true) (c : Cls K (He.ga K x)) : IsiC K (He.ga K x) := by
  obtain ⟨h1, h⟩ := He.ba h
  obtain ⟨h2, h⟩ := He.ba h
  obtain ⟨h3, h⟩ := He.ba h
  obtain ⟨h4, h⟩ := He.ba h
  obtain ⟨h5, h6⟩ := He.ba h
  exact ⟨c, He.eqO_ok h1, He.eqO_ok h2, of_decide_eq_true h3, of_decide_eq_true h4, of_decide_eq_true h5, of_decide_eq_true h6⟩
end LN
namespace LN
open PySem PySem.Spec PyProof.Rows L2
/-! ### what is looked at of the top: as, a list of addresses that the heap itself gives -/
abbrev Look : Type := (Addr → Option Obj) → List Addr
def grow1 (g : Addr → Option Obj) (as : List Addr) : List Addr := as.flatMap fun a => (g a).elim [] He.refsD
/-- the globals to depth 2; the classes xs to their methods and these one's codes -/
def lookM (xs : List Str) : Look := fun g =>
  let cs := xs.map (He.ga (He.frT g (He.asD g 1)))
  let a1 := grow1 g cs
  let a2 := grow1 g a1
  (He.asD g 2 ++ (a2 ++ grow1 g a2)).eraseDups
def obsY (as : Look) (fa : List He.Fa) (fn : List He.DefD) (ex : PySem.W.Frag → Bool) (g : Addr → Option Obj) : He.AlD × Bool := (He.obsD fa fn (He.frT g (as g)), ex (He.frT g (as g)))
structure SaysY (fa : List He.Fa) (fn : List He.DefD) (ex : PySem.W.Frag → Bool) (K : PySem.W.Frag) : Prop where
  d : He.SaysD fa fn K
  more : ex K = true
def hookY (as : Look) (fa : List He.Fa) (fn : List He.DefD) (ex : PySem.W.Frag → Bool) : PySem.W.Hook where
  α := He.AlD × Bool
  obs := fun s => obsY as fa fn ex s.heap.get?
  val := fun _ => (He.valD fn, true)
  says := fun _ h => ∃ K : PySem.W.Frag, K.In h ∧ SaysY fa fn ex K
  of := fun _ _ e => ⟨_, He.frT_in, congrArg (fun z : He.AlD × Bool => z.1) e, congrArg (fun z : He.AlD × Bool => z.2) e⟩
  keeps := fun _ _ _ ⟨K, hK, c⟩ k => ⟨K, PySem.W.Frag.In.keeps hK k, c⟩
theorem obsY_eq {as : Look} {fa : List He.Fa} {fn : List He.DefD} {ex : PySem.W.Frag → Bool} {g : Addr → Option Obj} {s : Shared} (h : ∀ a, g a = s.heap.get? a) : obsY as fa fn ex g = (hookY as fa fn ex).obs s := by
  obtain rfl : g = s.heap.get? := funext h
  rfl
end LN
namespace LN
open PySem PySem.Spec PyProof.Rows L2
/-! ### the look at the top, with functions at any address (a property's getter too) -/
/-- the globals to depth 2; the classes xs to their methods, a property's getter, and these one's codes -/
def lookP (xs : List Str) : Look := fun g =>
  let cs := xs.map (He.ga (He.frT g (He.asD g 1)))
  let a1 := grow1 g cs
  let a2 := grow1 g a1
  let a3 := grow1 g a2
  (He.asD g 2 ++ (a2 ++ (a3 ++ grow1 g a3))).eraseDups
def obsP (as : Look) (fa : List He.Fa) (fn : List He5.DefA) (ex : PySem.W.Frag → Bool) (g : Addr → Option Obj) : He.AlD × Bool := (He5.obsA fa fn (He.frT g (as g)), ex (He.frT g (as g)))
structure SaysP (fa : List He.Fa) (fn : List He5.DefA) (ex : PySem.W.Frag → Bool) (K : PySem.W.Frag) : Prop where
  d : He5.SaysA fa fn K
  more : ex K = true
def hookP (as : Look) (fa : List He.Fa) (fn : List He5.DefA) (ex : PySem.W.Frag → Bool) : PySem.W.Hook where
  α := He.AlD × Bool
  obs := fun s => obsP as fa fn ex s.heap.get?
  val := fun _ => (He5.valA fn, true)
  says := fun _ h => ∃ K : PySem.W.Frag, K.In h ∧ SaysP fa fn ex K
  of := fun _ _ e => ⟨_, He.frT_in, congrArg (fun z : He.AlD × Bool => z.1) e, congrArg (fun z : He.AlD × Bool => z.2) e⟩
  keeps := fun _ _ _ ⟨K, hK, c⟩ k => ⟨K, PySem.W.Frag.In.keeps hK k, c⟩
theorem obsP_eq {as : Look} {fa : List He.Fa} {fn : List He5.DefA} {ex : PySem.W.Frag → Bool} {g : Addr → Option Obj} {s : Shared} (h : ∀ a, g a = s.heap.get? a) : obsP as fa fn ex g = (hookP as fa fn ex).obs s := by
  obtain rfl : g = s.heap.get? := funext h
  rfl
/-- the getter of a class's property -/
def propG (K : PySem.W.Frag) (x f : Str) : Addr := match PySem.W.recIn K (He.ma K (He.ga K x) f) "property" with
  | some (.ref g :: _) => g
  | _ => 0
def propB (K : PySem.W.Frag) (x f : Str) : Bool := He.eqO (PySem.W.findIn K (.ref (He.ga K x)) f) (some (some (.ref (He.ma K (He.ga K x) f)))) && (He.eqO (PySem.W.specialIn K (.ref (He.ma K (He.ga K x) f)) "__get__") (some (some (.builtin "property.__get__"))) && (decide (PySem.W.takesIn K (.ref (He.ma K (He.ga K x) f)) = some true) && match PySem.W.recIn K (He.ma K (He.ga K x) f) "property" with
  | some (.ref _ :: _) => true
  | _ => false))
theorem propB_ok {K : PySem.W.Frag} {x f : Str} (h : propB K x f = true) : PropOf K (He.ga K x) f (He.ma K (He.ga K x) f) (propG K x f) := by
  obtain ⟨h1, h⟩ := He.ba h
  obtain ⟨h2, h⟩ := He.ba h
  obtain ⟨h3, h4⟩ := He.ba h
  refine ⟨He.eqO_ok h1, He.eqO_ok h2, of_decide_eq_true h3, ?_⟩
  unfold propG
  split at h4
  · rename_i g r e
    exact ⟨r, e⟩
  · cases h4
end LN
local macro_rules | `(tactic| walk_at "get") => `(tactic| (repeat (first | exact LN.GetAt.zero | with_reducible apply LN.GetAt.succ)))
local macro_rules | `(tactic| walk_at "set") => `(tactic| (repeat (first | exact LN.SetTo.zero | with_reducible apply LN.SetTo.succ)))
local macro_rules | `(tactic| walk_at "start") => `(tactic| (repeat (first | exact LN.StartTo.nil | with_reducible apply LN.StartTo.cons | with_reducible apply LN.StartTo.non)))
local macro_rules | `(tactic| walk_at "ne") => `(tactic| first | assumption | (apply Ne.symm; assumption) | ((with_reducible apply LN.ne_new); (· assumption); walk_at "hp") | ((with_reducible apply LN.ne_new'); (· assumption); walk_at "hp"))
local macro_rules | `(tactic| walk_at "nm") => `(tactic| first | exact LN.nil_mem | ((with_reducible apply LN.one_mem); walk_at "ne") | ((with_reducible apply LN.two_mem) <;> walk_at "ne"))
local macro_rules | `(tactic| walk_at "hp") => `(tactic| first | assumption | exact L2.upd_same | ((with_reducible apply LN.at_upd); (· walk_at "ne"); walk_at "hp") | ((with_reducible apply LN.Kp.get); (· assumption); (· walk_at "nm"); walk_at "hp"))
local macro_rules | `(tactic| walk_at "sq") => `(tactic| first | assumption | ((with_reducible apply L2.SqL.of); walk_at "hp") | ((with_reducible apply LN.sq_new); (· assumption); walk_at "sq") | ((with_reducible apply LN.sq_upd); (· walk_at "ne"); walk_at "sq") | ((with_reducible apply LN.Kp.sq); (· assumption); (· walk_at "nm"); walk_at "sq"))
local macro_rules | `(tactic| walk_at "st") => `(tactic| first | assumption | ((with_reducible apply L2.SqT.of); walk_at "hp") | ((with_reducible apply LN.st_new); (· assumption); walk_at "st") | ((with_reducible apply LN.st_upd); (· walk_at "ne"); walk_at "st") | ((with_reducible apply LN.Kp.st); (· assumption); (· walk_at "nm"); walk_at "st"))
local macro_rules | `(tactic| walk_at "ty") => `(tactic| first | exact L2.TyX.base (L2.TyOf.int _) | exact L2.TyX.base (L2.TyOf.bl _) | exact L2.TyX.base (L2.TyOf.str _) | exact L2.TyX.base L2.TyOf.non | ((with_reducible apply LN.tyx_l); walk_at "sq") | ((with_reducible apply LN.tyx_t); walk_at "st"))
local macro_rules | `(tactic| walk_at "kit") => `(tactic| first | with_reducible exact LN.kt_NoneType_bool | with_reducible exact LN.kt_NoneType_int | with_reducible exact LN.kt_NoneType_str | with_reducible exact LN.kt_NoneType_list | with_reducible exact LN.kt_NoneType_tuple | with_reducible exact LN.kt_bool_bool | with_reducible exact LN.kt_bool_int | with_reducible exact LN.kt_bool_str | with_reducible exact LN.kt_bool_list | with_reducible exact LN.kt_bool_tuple | with_reducible exact LN.kt_int_bool | with_reducible exact LN.kt_int_int | with_reducible exact LN.kt_int_str | with_reducible exact LN.kt_int_list | with_reducible exact LN.kt_int_tuple | with_reducible exact LN.kt_str_bool | with_reducible exact LN.kt_str_int | with_reducible exact LN.kt_str_str | with_reducible exact LN.kt_str_list | with_reducible exact LN.kt_str_tuple | with_reducible exact LN.kt_list_bool | with_reducible exact LN.kt_list_int | with_reducible exact LN.kt_list_str | with_reducible exact LN.kt_list_list | with_reducible exact LN.kt_list_tuple | with_reducible exact LN.kt_tuple_bool | with_reducible exact LN.kt_tuple_int | with_reducible exact LN.kt_tuple_str | with_reducible exact LN.kt_tuple_list | with_reducible exact LN.kt_tuple_tuple | with_reducible exact LN.kta_NoneType | with_reducible exact LN.kta_bool | with_reducible exact LN.kta_int | with_reducible exact LN.kta_str | with_reducible exact LN.kta_list | with_reducible exact LN.kta_tuple)
local macro_rules | `(tactic| walk_at "go1") => `(tactic| first
  | (with_reducible apply LN.x_seq)
  | (with_reducible apply LN.x_asg)
  | (with_reducible apply LN.x_op)
  | ((with_reducible apply LN.x_var); · walk_at "get")
  | (with_reducible apply LN.x_c)
  | (with_reducible apply LN.x_I0)
  | (with_reducible apply LN.x_cons)
  | (with_reducible apply LN.x_nil)
  | (with_reducible apply LN.x_call)
  | ((with_reducible apply LN.x_name); · walk_at "set")
  | (with_reducible apply LN.x_cb)
  | (with_reducible apply LN.x_test)
  | (with_reducible apply LN.x_isb)
  | (with_reducible apply LN.x_ifS)
  | (with_reducible apply LN.x_ret)
  | (with_reducible apply LN.x_un)
  | (with_reducible apply LN.x_U)
  | (with_reducible apply LN.x_eqI)
  | (with_reducible apply LN.x_neI)
  | (with_reducible apply LN.x_int1)
  | (with_reducible apply LN.x_abs)
  | (with_reducible apply LN.x_tB)
  | (with_reducible apply LN.x_not)
  | (with_reducible apply LN.x_and)
  | (with_reducible apply LN.x_or)
  | (with_reducible apply LN.x_andV)
  | (with_reducible apply LN.x_orV)
  | (with_reducible apply LN.x_notV)
  | (with_reducible apply LN.x_ifE)
  | (with_reducible apply LN.x_drop)
  | (with_reducible apply LN.x_brk)
  | (with_reducible apply LN.x_cont)
  | (with_reducible apply LN.x_next)
  | (with_reducible apply LN.x_retN)
  | (with_reducible apply LN.x_sub)
  | (with_reducible refine LN.x_tup' ?_)
  | (with_reducible refine LN.x_lst' ?_)
  | ((with_reducible apply LN.x_ixL); (· walk_at "sq"); · rfl)
  | ((with_reducible apply LN.x_ixT); (· walk_at "st"); · rfl)
  | ((with_reducible apply LN.x_setN2); (· rfl); · walk_at "set")
  | ((with_reducible apply LN.x_setN); (· walk_at "hp"); (· rfl); · walk_at "set")
  | ((with_reducible apply LN.x_lenL); · walk_at "sq")
  | ((with_reducible apply LN.x_lenT); · walk_at "st")
  | (with_reducible apply LN.x_max2)
  | (with_reducible apply LN.x_min2)
  | (with_reducible apply LN.x_eqS)
  | (with_reducible apply LN.x_neS)
  | (with_reducible apply LN.x_eqB)
  | (with_reducible apply LN.x_iteT)
  | (with_reducible apply LN.x_iteF)
  | (with_reducible apply LN.x_iteNT)
  | (with_reducible apply LN.x_iteNF)
  | (with_reducible apply LN.x_par)
  | ((with_reducible apply LN.x_par2); (· walk_at "set"); · walk_at "set")
  | ((with_reducible apply LN.x_aug); · walk_at "get")
  | ((with_reducible apply LN.x_ipI); · walk_at "set")
  | (with_reducible apply LN.x_sl)
  | (with_reducible apply LN.x_nopart)
  | (with_reducible apply LN.x_part)
  | (with_reducible apply LN.x_isk)
  | (with_reducible apply LN.x_bm)
  | (with_reducible apply LN.x_bm0)
  | ((with_reducible apply LN.x_tyL); · walk_at "sq")
  | (with_reducible apply LN.x_gcons)
  | (with_reducible apply LN.x_gnil)
  | ((with_reducible apply LN.x_gtup); (· walk_at "st"); · rfl)
  | ((with_reducible apply LN.x_disp); · simp)
  | ((with_reducible apply LN.x_isi); (· walk_at "ty"); · walk_at "kit")
  | ((with_reducible apply LN.x_isiT); (· walk_at "hp"); (· walk_at "ty"); · walk_at "kit")
  | (with_reducible apply LN.x_isN0)
  | (with_reducible apply LN.x_isN1)
  | (with_reducible apply LN.x_isN2)
  | (with_reducible apply LN.x_isN3)
  | (with_reducible apply LN.x_isN4)
  | (with_reducible apply LN.x_isN)
  | (with_reducible apply LN.x_notN)
  | ((with_reducible apply LN.x_ixSL); (· walk_at "sq"); · rfl)
  | ((with_reducible apply LN.x_ixST); (· walk_at "st"); · rfl)
  | (with_reducible apply LN.x_truI)
  | ((with_reducible apply LN.x_decT); · first | decide | rfl)
  | ((with_reducible apply LN.x_decF); · decide)
  | ((with_reducible apply LN.x_ndecT); · decide)
  | ((with_reducible apply LN.x_ndecF); · first | decide | rfl)
  | (with_reducible apply LN.x_lc)
  | (with_reducible apply LN.x_callW)
  | (with_reducible apply LN.x_callH)
  | (with_reducible apply LN.x_rz)
  | (with_reducible apply LN.x_for)
  | (with_reducible apply LN.x_itL)
  | (with_reducible apply LN.x_itT)
  | (with_reducible apply LN.x_itR)
  | (with_reducible apply LN.x_itR2)
  | (with_reducible apply LN.x_itR3)
  | (with_reducible apply LN.x_itE)
  | (with_reducible apply LN.x_rz1)
  | ((with_reducible apply LN.x_powC); (· first | exact ⟨by decide, by decide⟩ | exact ⟨by decide +kernel, by decide +kernel⟩); · (simp only [Int.reducePow, Int.reduceToNat]; rfl))
  | ((with_reducible apply LN.x_I); · first | omega | exact LN.Bt.mulW (by assumption) (by assumption) | exact LN.Bt.mulW (a := 4000) (b := 4000) (LN.Bt.lit (by decide +kernel)) (LN.Bt.lit (by decide +kernel)) | exact .inl ⟨by omega, by omega⟩ | exact .inr ⟨by omega, by omega⟩ | exact ⟨by decide, by decide⟩)
  | ((with_reducible apply LN.x_start); · walk_at "start"))
local macro_rules | `(tactic| walk_at "go") => `(tactic| repeat walk_at "go1")
local macro_rules | `(tactic| walk_at "start1") => `(tactic| ((with_reducible apply LN.x_start); · walk_at "start"))
local macro_rules | `(tactic| walk_at "goF") => `(tactic| repeat (first | ((with_reducible apply LN.x_modF); · omega) | walk_at "go1"))
local macro_rules | `(tactic| walk_at "num") => `(tactic| simp only [Int.reducePow, Int.reduceToNat])
local macro_rules | `(tactic| walk_at "wipe") => `(tactic| (simp only [L2.wipe, List.map_cons, List.map_nil, List.set_cons_zero, List.set_cons_succ]; rfl))
namespace LN
open PySem PySem.Spec PyProof.Rows L2
def topS (i : Nat) : Stmt := PySem.Challenge.pw_lastnamed_k17_widest_block_holds_every_s.main.body.getD i (.Pass ⟨0, 0, 0, 0⟩)
end LN
namespace LNH
open PySem PySem.Spec PyProof.Rows L2
set_option maxHeartbeats 0
def d_law_mix : He5.DefA := ⟨fun K => He.fAd K ("_law_mix", none), "_law_mix", "_law_mix", defArgs (LN.topS 61), defBody (LN.topS 61), defScope (LN.topS 61), [], []⟩
def d_law_store : He5.DefA := ⟨fun K => He.fAd K ("_law_store", none), "_law_store", "_law_store", defArgs (LN.topS 62), defBody (LN.topS 62), defScope (LN.topS 62), [], []⟩
def d_law_take : He5.DefA := ⟨fun K => He.fAd K ("_law_take", none), "_law_take", "_law_take", defArgs (LN.topS 63), defBody (LN.topS 63), defScope (LN.topS 63), [], []⟩
def d_law_number : He5.DefA := ⟨fun K => He.fAd K ("_law_number", none), "_law_number", "_law_number", defArgs (LN.topS 64), defBody (LN.topS 64), defScope (LN.topS 64), [], []⟩
def d_law_between : He5.DefA := ⟨fun K => He.fAd K ("_law_between", none), "_law_between", "_law_between", defArgs (LN.topS 65), defBody (LN.topS 65), defScope (LN.topS 65), [], []⟩
def d_law_near_ends : He5.DefA := ⟨fun K => He.fAd K ("_law_near_ends", none), "_law_near_ends", "_law_near_ends", defArgs (LN.topS 66), defBody (LN.topS 66), defScope (LN.topS 66), [], []⟩
def d_law_pick : He5.DefA := ⟨fun K => He.fAd K ("_law_pick", none), "_law_pick", "_law_pick", defArgs (LN.topS 67), defBody (LN.topS 67), defScope (LN.topS 67), [], []⟩
def d_law_shuffled : He5.DefA := ⟨fun K => He.fAd K ("_law_shuffled", none), "_law_shuffled", "_law_shuffled", defArgs (LN.topS 68), defBody (LN.topS 68), defScope (LN.topS 68), [], []⟩
def d_law_copy : He5.DefA := ⟨fun K => He.fAd K ("_law_copy", none), "_law_copy", "_law_copy", defArgs (LN.topS 71), defBody (LN.topS 71), defScope (LN.topS 71), [], []⟩
def d_law_same : He5.DefA := ⟨fun K => He.fAd K ("_law_same", none), "_law_same", "_law_same", defArgs (LN.topS 70), defBody (LN.topS 70), defScope (LN.topS 70), [], []⟩
def d_law_spoil : He5.DefA := ⟨fun K => He.fAd K ("_law_spoil", none), "_law_spoil", "_law_spoil", defArgs (LN.topS 72), defBody (LN.topS 72), defScope (LN.topS 72), [], []⟩
def d_law_standing : He5.DefA := ⟨fun K => He.fAd K ("_law_standing", none), "_law_standing", "_law_standing", defArgs (LN.topS 74), defBody (LN.topS 74), defScope (LN.topS 74), [], []⟩
def d_law_order : He5.DefA := ⟨fun K => He.fAd K ("_law_order", none), "_law_order", "_law_order", defArgs (LN.topS 69), defBody (LN.topS 69), defScope (LN.topS 69), [], []⟩
def d_law_stages : He5.DefA := ⟨fun K => He.fAd K ("_law_stages", none), "_law_stages", "_law_stages", defArgs (LN.topS 75), defBody (LN.topS 75), defScope (LN.topS 75), [], []⟩
def d_law_web : He5.DefA := ⟨fun K => He.fAd K ("_law_web", none), "_law_web", "_law_web", defArgs (LN.topS 76), defBody (LN.topS 76), defScope (LN.topS 76), [], []⟩
def d_law_any_web : He5.DefA := ⟨fun K => He.fAd K ("_law_any_web", none), "_law_any_web", "_law_any_web", defArgs (LN.topS 77), defBody (LN.topS 77), defScope (LN.topS 77), [], []⟩
def d_law_parts : He5.DefA := ⟨fun K => He.fAd K ("_law_parts", none), "_law_parts", "_law_parts", defArgs (LN.topS 73), defBody (LN.topS 73), defScope (LN.topS 73), [], []⟩
def d_law_pairing : He5.DefA := ⟨fun K => He.fAd K ("_law_pairing", none), "_law_pairing", "_law_pairing", defArgs (LN.topS 78), defBody (LN.topS 78), defScope (LN.topS 78), [], []⟩
def d_law_full_table : He5.DefA := ⟨fun K => He.fAd K ("_law_full_table", none), "_law_full_table", "_law_full_table", defArgs (LN.topS 79), defBody (LN.topS 79), defScope (LN.topS 79), [], []⟩
def d_law_web_with : He5.DefA := ⟨fun K => He.fAd K ("_law_web_with", none), "_law_web_with", "_law_web_with", defArgs (LN.topS 80), defBody (LN.topS 80), defScope (LN.topS 80), [], []⟩
def d_law_ranks : He5.DefA := ⟨fun K => He.fAd K ("_law_ranks", none), "_law_ranks", "_law_ranks", defArgs (LN.topS 83), defBody (LN.topS 83), defScope (LN.topS 83), [], []⟩
def d_law_world : He5.DefA := ⟨fun K => He.fAd K ("_law_world", none), "_law_world", "_law_world", defArgs (LN.topS 84), defBody (LN.topS 84), defScope (LN.topS 84), [], []⟩
def d_law_drawn_web : He5.DefA := ⟨fun K => He.fAd K ("_law_drawn_web", none), "_law_drawn_web", "_law_drawn_web", defArgs (LN.topS 85), defBody (LN.topS 85), defScope (LN.topS 85), [], []⟩
def d_law_three_webs : He5.DefA := ⟨fun K => He.fAd K ("_law_three_webs", none), "_law_three_webs", "_law_three_webs", defArgs (LN.topS 86), defBody (LN.topS 86), defScope (LN.topS 86), [], []⟩
def d_law_robbed : He5.DefA := ⟨fun K => He.fAd K ("_law_robbed", none), "_law_robbed", "_law_robbed", defArgs (LN.topS 87), defBody (LN.topS 87), defScope (LN.topS 87), [], []⟩
def d_law_excesses : He5.DefA := ⟨fun K => He.fAd K ("_law_excesses", none), "_law_excesses", "_law_excesses", defArgs (LN.topS 81), defBody (LN.topS 81), defScope (LN.topS 81), [], []⟩
def d_law_band_of : He5.DefA := ⟨fun K => He.fAd K ("_law_band_of", none), "_law_band_of", "_law_band_of", defArgs (LN.topS 82), defBody (LN.topS 82), defScope (LN.topS 82), [], []⟩
def d_law_due : He5.DefA := ⟨fun K => He.fAd K ("_law_due", none), "_law_due", "_law_due", defArgs (LN.topS 88), defBody (LN.topS 88), defScope (LN.topS 88), [], []⟩
def d_check_sides : He5.DefA := ⟨fun K => He.fAd K ("check_sides", none), "check_sides", "check_sides", defArgs (LN.topS 50), defBody (LN.topS 50), defScope (LN.topS 50), [], []⟩
def d_init_TooMany : He5.DefA := ⟨fun K => He.fAd K ("TooMany", some "__init__"), "__init__", "TooMany.__init__", defArgs (L2.inClass (LN.topS 5) 0), defBody (L2.inClass (LN.topS 5) 0), defScope (L2.inClass (LN.topS 5) 0), [], []⟩
def d_check_amounts : He5.DefA := ⟨fun K => He.fAd K ("check_amounts", none), "check_amounts", "check_amounts", defArgs (LN.topS 51), defBody (LN.topS 51), defScope (LN.topS 51), [], []⟩
def d_init_BadShare : He5.DefA := ⟨fun K => He.fAd K ("BadShare", some "__init__"), "__init__", "BadShare.__init__", defArgs (L2.inClass (LN.topS 8) 0), defBody (L2.inClass (LN.topS 8) 0), defScope (L2.inClass (LN.topS 8) 0), [], []⟩
def d_Moment_init : He5.DefA := ⟨fun K => He.fAd K ("Moment", some "__init__"), "__init__", "Moment.__init__", defArgs (L2.inClass (LN.topS 53) 0), defBody (L2.inClass (LN.topS 53) 0), defScope (L2.inClass (LN.topS 53) 0), [], []⟩
def d_init_BadRanking : He5.DefA := ⟨fun K => He.fAd K ("BadRanking", some "__init__"), "__init__", "BadRanking.__init__", defArgs (L2.inClass (LN.topS 9) 0), defBody (L2.inClass (LN.topS 9) 0), defScope (L2.inClass (LN.topS 9) 0), [], []⟩
def d_init_Unequal : He5.DefA := ⟨fun K => He.fAd K ("Unequal", some "__init__"), "__init__", "Unequal.__init__", defArgs (L2.inClass (LN.topS 12) 0), defBody (L2.inClass (LN.topS 12) 0), defScope (L2.inClass (LN.topS 12) 0), [], []⟩
def d_Moment_ranks : He5.DefA := ⟨fun K => LN.propG K "Moment" "ranks", "ranks", "Moment.ranks", defArgs (L2.inClass (LN.topS 53) 3), defBody (L2.inClass (LN.topS 53) 3), defScope (L2.inClass (LN.topS 53) 3), [], []⟩
def d_Moment_left : He5.DefA := ⟨fun K => LN.propG K "Moment" "left", "left", "Moment.left", defArgs (L2.inClass (LN.topS 53) 4), defBody (L2.inClass (LN.topS 53) 4), defScope (L2.inClass (LN.topS 53) 4), [], []⟩
def d_Moment_bears : He5.DefA := ⟨fun K => LN.propG K "Moment" "bears", "bears", "Moment.bears", defArgs (L2.inClass (LN.topS 53) 5), defBody (L2.inClass (LN.topS 53) 5), defScope (L2.inClass (LN.topS 53) 5), [], []⟩
def d_Moment_standing : He5.DefA := ⟨fun K => LN.propG K "Moment" "standing", "standing", "Moment.standing", defArgs (L2.inClass (LN.topS 53) 7), defBody (L2.inClass (LN.topS 53) 7), defScope (L2.inClass (LN.topS 53) 7), [], []⟩
def d_Moment_is_over : He5.DefA := ⟨fun K => LN.propG K "Moment" "is_over", "is_over", "Moment.is_over", defArgs (L2.inClass (LN.topS 53) 8), defBody (L2.inClass (LN.topS 53) 8), defScope (L2.inClass (LN.topS 53) 8), [], []⟩
def d_check_open : He5.DefA := ⟨fun K => He.fAd K ("check_open", none), "check_open", "check_open", defArgs (LN.topS 56), defBody (LN.topS 56), defScope (LN.topS 56), [], []⟩
def d_Block_init : He5.DefA := ⟨fun K => He.fAd K ("Block", some "__init__"), "__init__", "Block.__init__", defArgs (L2.inClass (LN.topS 55) 0), defBody (L2.inClass (LN.topS 55) 0), defScope (L2.inClass (LN.topS 55) 0), [], []⟩
def d_Block_band : He5.DefA := ⟨fun K => LN.propG K "Block" "band", "band", "Block.band", defArgs (L2.inClass (LN.topS 55) 1), defBody (L2.inClass (LN.topS 55) 1), defScope (L2.inClass (LN.topS 55) 1), [], []⟩
def d_Block_names : He5.DefA := ⟨fun K => LN.propG K "Block" "names", "names", "Block.names", defArgs (L2.inClass (LN.topS 55) 2), defBody (L2.inClass (LN.topS 55) 2), defScope (L2.inClass (LN.topS 55) 2), [], []⟩
def d_Block_excess : He5.DefA := ⟨fun K => LN.propG K "Block" "excess", "excess", "Block.excess", defArgs (L2.inClass (LN.topS 55) 3), defBody (L2.inClass (LN.topS 55) 3), defScope (L2.inClass (LN.topS 55) 3), [], []⟩
def d_band_rows : He5.DefA := ⟨fun K => He.fAd K ("band_rows", none), "band_rows", "band_rows", defArgs (LN.topS 57), defBody (LN.topS 57), defScope (LN.topS 57), [], []⟩
def d_block_of : He5.DefA := ⟨fun K => He.fAd K ("block_of", none), "block_of", "block_of", defArgs (LN.topS 58), defBody (LN.topS 58), defScope (LN.topS 58), [], []⟩
def d_widest_block : He5.DefA := ⟨fun K => He.fAd K ("widest_block", none), "widest_block", "widest_block", defArgs (LN.topS 59), defBody (LN.topS 59), defScope (LN.topS 59), [], []⟩
def d_law_refused : He5.DefA := ⟨fun K => He.fAd K ("_law_refused", none), "_law_refused", "_law_refused", defArgs (LN.topS 91), defBody (LN.topS 91), defScope (LN.topS 91), [], []⟩
def d_law_ask : He5.DefA := ⟨fun K => He.fAd K ("_law_ask", none), "_law_ask", "_law_ask", defArgs (LN.topS 89), defBody (LN.topS 89), defScope (LN.topS 89), [], []⟩
def d_law_right : He5.DefA := ⟨fun K => He.fAd K ("_law_right", none), "_law_right", "_law_right", defArgs (LN.topS 90), defBody (LN.topS 90), defScope (LN.topS 90), [], []⟩
def d_law : He5.DefA := ⟨fun K => He.fAd K ("law", none), "law", "law", defArgs (LN.topS 92), defBody (LN.topS 92), defScope (LN.topS 92), [], []⟩
def rows : List PySem.Str := (["OfficeError", "BadLine", "Empty", "TooMany", "BadWord", "Doubled", "BadShare", "BadRanking", "BadRange", "BadPlace", "Unequal", "Unknown"] : List PySem.Str) ++ (["Over", "Fallen", "BadChooser", "TiedRanks", "BadWeaving", "BadSet", "BadStages", "BadOrder", "BadSize", "BadTable", "TooMuch", "BadSum"] : List PySem.Str) ++ (["BadStrike", "Unfinished", "OutOfRank", "BadSpan", "NoBlock", "BadBargain", "NoPairing", "NotLast", "NotObtainable", "NotNear", "NoBottom", "Clash"] : List PySem.Str) ++ (["Shared", "Different", "LastName", "NoPost", "BadDeed", "BadStamp", "StampTaken", "NoDeed", "Moment", "Block"] : List PySem.Str)
def nm0 : List PySem.Str := ["_wall", "OfficeError", "BadLine", "Empty", "TooMany", "BadWord", "Doubled", "BadShare", "BadRanking", "BadRange", "BadPlace", "Unequal", "Unknown", "Over", "Fallen", "BadChooser", "TiedRanks", "BadWeaving", "BadSet", "BadStages", "BadOrder", "BadSize", "BadTable", "TooMuch", "BadSum", "BadStrike", "Unfinished", "OutOfRank", "BadSpan", "NoBlock"]
def nm1 : List PySem.Str := ["BadBargain", "NoPairing", "NotLast", "NotObtainable", "NotNear", "NoBottom", "Clash", "Shared", "Different", "LastName", "NoPost", "BadDeed", "BadStamp", "StampTaken", "NoDeed", "MOST_SIDE", "MOST_RANK", "MOST_STROKES", "check_sides", "check_amounts", "check_number", "Moment", "Block", "check_open", "band_rows", "block_of", "widest_block", "_law_mix", "_law_store", "_law_take"]
def nm2 : List PySem.Str := ["_law_number", "_law_between", "_law_near_ends", "_law_pick", "_law_shuffled", "_law_order", "_law_same", "_law_copy", "_law_spoil", "_law_parts", "_law_standing", "_law_stages", "_law_web", "_law_any_web", "_law_pairing", "_law_full_table", "_law_web_with", "_law_excesses", "_law_band_of", "_law_ranks", "_law_world", "_law_drawn_web", "_law_three_webs", "_law_robbed", "_law_due", "_law_ask", "_law_right", "_law_refused"]
def names : List PySem.Str := nm0 ++ nm1 ++ nm2
def fn : List He5.DefA := [d_law_mix,
  d_law_store,
  d_law_take,
  d_law_number,
  d_law_between,
  d_law_near_ends,
  d_law_pick,
  d_law_shuffled,
  d_law_copy,
  d_law_same,
  d_law_spoil,
  d_law_standing,
  d_law_order,
  d_law_stages,
  d_law_web,
  d_law_any_web,
  d_law_parts,
  d_law_pairing,
  d_law_full_table,
  d_law_web_with,
  d_law_ranks,
  d_law_world,
  d_law_drawn_web,
  d_law_three_webs,
  d_law_robbed,
  d_law_excesses,
  d_law_band_of,
  d_law_due,
  d_check_sides,
  d_init_TooMany,
  d_check_amounts,
  d_init_BadShare,
  d_Moment_init,
  d_init_BadRanking,
  d_init_Unequal,
  d_Moment_ranks,
  d_Moment_left,
  d_Moment_bears,
  d_Moment_standing,
  d_Moment_is_over,
  d_check_open,
  d_Block_init,
  d_Block_band,
  d_Block_names,
  d_Block_excess,
  d_band_rows,
  d_block_of,
  d_widest_block,
  d_law_refused,
  d_law_ask,
  d_law_right,
  d_law]
def fa0 : List He.Fa := [.glo "_law_mix", .free "int", .glo "_law_store", .free "len", .free "list", .glo "_law_take", .free "abs", .glo "_law_number", .free "range", .glo "_law_between", .glo "_law_near_ends", .free "max", .glo "_law_pick", .glo "_law_shuffled", .free "isinstance", .free "tuple", .glo "_law_copy", .free "bool", .free "str", .glo "_law_same", .glo "_law_spoil", .glo "_law_standing", .glo "_law_order", .glo "_law_stages", .free "sorted", .glo "_law_web", .free "all", .glo "_law_any_web", .glo "_law_parts", .free "min"]
def fa1 : List He.Fa := [.glo "_law_pairing", .glo "_law_full_table", .glo "_law_web_with", .glo "_law_ranks", .glo "_law_world", .free "sum", .glo "_law_drawn_web", .glo "_law_three_webs", .glo "_law_robbed", .glo "_law_excesses", .glo "_law_band_of", .glo "_law_due", .free "any", .glo "check_sides", .exc "Empty", .glo "Empty", .glo "TooMany", .noat "TooMany" "limit", .meth "TooMany" "__init__", .int "MOST_SIDE" 8, .glo "check_amounts", .free "enumerate", .glo "BadShare", .noat "BadShare" "at", .meth "BadShare" "__init__", .int "MOST_STROKES" 100000000000000, .int "MOST_RANK" 1000000, .glo "BadRanking", .noat "BadRanking" "at", .meth "BadRanking" "__init__"]
def fa2 : List He.Fa := [.glo "Unequal", .noat "Unequal" "one", .noat "Unequal" "other", .meth "Unequal" "__init__", .cls "Moment", .noat "Moment" "own_ranks", .noat "Moment" "own_left", .noat "Moment" "own_bears", .noat "Moment" "own_total", .noat "Moment" "own_standing", .glo "Moment", .mkr "Moment", .glo "check_open", .exc "Over", .glo "Over", .cls "Block", .noat "Block" "own_band", .noat "Block" "own_names", .noat "Block" "own_excess", .glo "Block", .mkr "Block", .glo "band_rows", .glo "block_of", .glo "widest_block", .glo "_law_refused", .free "ValueError", .glo "NoDeed", .glo "StampTaken", .glo "BadStamp", .glo "BadDeed"]
def fa3 : List He.Fa := [.glo "NoPost", .glo "LastName", .glo "Different", .glo "Shared", .glo "Clash", .glo "NoBottom", .glo "NotNear", .glo "NotObtainable", .glo "NotLast", .glo "NoPairing", .glo "BadBargain", .glo "NoBlock", .glo "BadSpan", .glo "OutOfRank", .glo "Unfinished", .glo "BadStrike", .glo "BadSum", .glo "TooMuch", .glo "BadTable", .glo "BadSize", .glo "BadOrder", .glo "BadStages", .glo "BadSet", .glo "BadWeaving", .glo "TiedRanks", .glo "BadChooser", .glo "Fallen", .glo "Unknown", .glo "BadPlace", .glo "BadRange"]
def fa4 : List He.Fa := [.glo "Doubled", .glo "BadWord", .glo "BadLine", .glo "OfficeError", .glo "_law_ask", .exm "Over" "OfficeError" true, .glo "_law_right", .glo "law"]
def fa : List He.Fa := fa0 ++ fa1 ++ fa2 ++ fa3 ++ fa4
def ex : PySem.W.Frag → Bool := fun K => LN.oexB K "TooMany" && LN.oexB K "BadShare" && LN.oexB K "BadRanking" && LN.oexB K "Unequal" && LN.propB K "Moment" "ranks" && LN.propB K "Moment" "left" && LN.propB K "Moment" "bears" && LN.propB K "Moment" "standing" && LN.propB K "Moment" "is_over" && LN.propB K "Block" "band" && LN.propB K "Block" "names" && LN.propB K "Block" "excess" && LN.excB K "Over" && LN.clsRow K "Over" rows && LN.kitNT K "Over" "ValueError" true && LN.isiB K "Block"
abbrev R : PySem.W.OpenRow := PySem.W.OpenLaw.row PySem.Challenge.rw_lastnamed_k17_widest_block_holds_every_s
def look : LN.Look := LN.lookP ["TooMany", "BadShare", "BadRanking", "Unequal", "Moment", "Block"]
abbrev hk : PySem.W.Hook := LN.hookP look fa fn ex
def ob (s : PySem.W.SharedT) : He.AlD × Bool := LN.obsP look fa fn ex (HandSHeadRun.getT s)
theorem ob_eq (s : PySem.W.SharedT) : ob s = hk.obs s.abs := LN.obsP_eq (HandSHeadRun.getT_eq s)
abbrev vq : Program := PySem.W.view R.prog [92]
noncomputable abbrev eF (w : World) (os : OsState) : Option PySem.W.SharedT := HandSHeadRun.endF (HandSHeadRun.stepQ (HandSHeadRun.denQ HandSHeadRun.tabQ) R.prog w) 20000 R.prog w os
theorem run0 (w : World) (os : OsState) : (eF w os).map (fun s => (HandSHeadRun.looksF R.prog (PySem.W.boot_heap w.params) s.abs, HandSHeadRun.seenQ vq names (importedModules R.prog.main.body) (fun s => PySem.W.xlAt vq [] s && PySem.W.recOk R.toRowW.records s) s.abs)) = some (true, PySem.W.openGood vq names) := by
  kernel_rfl
theorem run1 (w : World) (os : OsState) : (eF w os).map (fun s => He5.obsA fa fn (He.frT (HandSHeadRun.getT s) (look (HandSHeadRun.getT s)))) = some (He5.valA fn) := by
  kernel_rfl
theorem run2 (w : World) (os : OsState) : (eF w os).map (fun s => ex (He.frT (HandSHeadRun.getT s) (look (HandSHeadRun.getT s)))) = some true := by
  kernel_rfl
theorem comb3 {α β γ δ ε : Type} {x : Option α} {f : α → β} {g : α → γ} {h : α → δ} {i : α → ε} {b : β} {c : γ} {d : δ} {e : ε} (h0 : x.map (fun s => (f s, g s)) = some (b, c)) (h1 : x.map h = some d) (h2 : x.map i = some e) : x.map (fun s => (f s, g s, (h s, i s))) = some (b, c, (d, e)) := by
  cases x with
  | none => cases h0
  | some y => cases h0; cases h1; cases h2; rfl
theorem run (w : World) : HandSHeadRun.RunEq R (PySem.W.view R.prog [92]) hk ob 20000 names w := fun os => comb3 (run0 w os) (run1 w os) (run2 w os)
end LNH
open PySem PySem.W PySem.Calls PyProof.Rows in
set_option maxHeartbeats 0 in
theorem LNH.close (hc : WalkO (view (OpenLaw.row PySem.Challenge.rw_lastnamed_k17_widest_block_holds_every_s).prog [92]) LNH.names (XL (view (OpenLaw.row PySem.Challenge.rw_lastnamed_k17_widest_block_holds_every_s).prog [92]) []) LNH.hk.says (OpenLaw.row PySem.Challenge.rw_lastnamed_k17_widest_block_holds_every_s).toRowW (HandSHeadRun.topDef (OpenLaw.row PySem.Challenge.rw_lastnamed_k17_widest_block_holds_every_s).prog 92) [] fun f vs => PySem.call f vs) : PySem.Challenge.rw_lastnamed_k17_widest_block_holds_every_s.Holds := by
  w_on; o_law
  refine HandSHeadRun.head_any (r := OpenLaw.row PySem.Challenge.rw_lastnamed_k17_widest_block_holds_every_s) (q := view (OpenLaw.row PySem.Challenge.rw_lastnamed_k17_widest_block_holds_every_s).prog [92]) (H := LNH.hk) (ob := LNH.ob) (M := 20000) (loose := LNH.names) (d := HandSHeadRun.topDef (OpenLaw.row PySem.Challenge.rw_lastnamed_k17_widest_block_holds_every_s).prog 92) (kwd := []) LNH.ob_eq
    (by kernel_rfl) (fun s => by kernel_rfl) LNH.run (by kernel_rfl) (by kernel_rfl) (by kernel_rfl) (by rfl) (by first | assumption | decide +kernel) (by decide +kernel) ⟨rfl, rfl, rfl, rfl, rfl, by decide +kernel⟩ ?hw hc
  case hw => w_witness2
namespace LN
open PySem PySem.Spec PyProof.Rows L2
section
variable {P : Program} {w : World} {K : PySem.W.Frag} {mg : Str → Option Value} {base : Heap} {k : Nat}
--PLAIN
def spMix : Sp := fun vs H Q _ => ∃ a b, vs = [.int a, .int b] ∧ ∀ r, 0 ≤ r → r < 2147483563 → Q (.int r) H
abbrev s_law_mix : Stmt := topS 61
theorem sc_law_mix : FnScope ["one", "two", "worth"] ["one", "two"] (defScope s_law_mix) := ⟨rfl, rfl, rfl, by decide +kernel, rfl, by decide +kernel, by decide +kernel⟩
--DEF _law_mix
theorem ok_law_mix (h : DefAt K mg "_law_mix" ["one", "two"] s_law_mix) (g_int : mg "int" = none) : Okk P w K mg base CX0 (k + 1) "_law_mix" ["one", "two"] spMix := by
  refine h.ok sc_law_mix ?_ ?_
  · rintro vs H Q E ⟨a, b, rfl, _⟩; rfl
  rintro cdv f A outer s H vs Q E hr ⟨a, b, rfl, q⟩
  refine ⟨_, (pss_cons (ps_set (i := 2) sc_law_mix.nd rfl (Or.inl rfl) (pe_op op_mod (pe_op op_add (pe_op op_add (pe_op op_mul (pe_op op_mod (pe_callTy cr_int (by rfl) g_int (by decide +kernel) (pa_cons (pv 0) pa_nil)) pe_int) pe_int) (pe_op op_mul (pe_op op_mod (pe_callTy cr_int (by rfl) g_int (by decide +kernel) (pa_cons (pv 1) pa_nil)) pe_int) pe_int)) pe_int) pe_int))
      (pss_cons (ps_set (i := 2) sc_law_mix.nd rfl (Or.inl rfl) (pe_op op_mod (pe_op op_add (pe_op op_add (pe_op op_mul (pv 2) (pv 2)) (pe_op op_mul (pv 2) pe_int)) pe_int) pe_int))
      (pss_cons (ps_set (i := 2) sc_law_mix.nd rfl (Or.inl rfl) (pe_op op_mod (pe_op op_add (pe_op op_add (pe_op op_mul (pv 2) pe_int) (pe_op op_mul (pe_op op_mod (pe_callTy cr_int (by rfl) g_int (by decide +kernel) (pa_cons (pv 1) pa_nil)) pe_int) pe_int)) pe_int) pe_int))
      (pss_one (ps_ret (pe_op op_mod (pe_op op_add (pe_op op_add (pe_op op_mul (pv 2) (pv 2)) (pe_op op_mul (pv 2) pe_int)) pe_int) pe_int)))))), ?_⟩
  walk_at "start1"
  walk_at "goF"
  intro r0 h0 h0'
  walk_at "goF"
  intro r1 h1 h1'
  walk_at "goF"
  intro w1 w1a w1b
  walk_at "goF"
  intro w2 w2a w2b
  walk_at "goF"
  intro r3 h3 h3'
  walk_at "goF"
  intro w3 w3a w3b
  walk_at "goF"
  exact fun r hr1 hr2 => q r hr1 hr2
/-! ### the store -/
theorem go_mix {a b : Int} {H : Hp} {Q : VK} {E : XK} (q : ∀ r, 0 ≤ r → r < 2147483563 → Q (.int r) H) : spMix [.int a, .int b] H Q E := ⟨a, b, rfl, q⟩
def StoreS (H : Hp) (p sl : Addr) : Prop := ∃ (ns : List Int) (i b c s : Int), H p = some (.lst [.ref sl, .int i, .int b, .int c, .int s]) ∧ H sl = some (.lst (ns.map V.int)) ∧ sl ≠ p ∧ 0 ≤ i ∧ 0 ≤ b
def StoreAt (H : Hp) (p : Addr) : Prop := ∃ sl, StoreS H p sl
theorem StoreAt.ex {H : Hp} {p : Addr} (h : StoreAt H p) : ∃ o, H p = some o := by
  obtain ⟨sl, ns, i, b, c, s, hp, _⟩ := h
  exact ⟨_, hp⟩
theorem StoreAt.new {H : Hp} {p q : Addr} {o : HO} (h : StoreAt H p) (hq : H q = none) : StoreAt (upd H q o) p := by
  obtain ⟨sl, ns, i, b, c, s, hp, hs, r⟩ := h
  exact ⟨sl, ns, i, b, c, s, at_upd (ne_new hq hp) hp, at_upd (ne_new hq hs) hs, r⟩
theorem StoreAt.kp {H H' : Hp} {p : Addr} (h : StoreAt H p) (k : Kp [] H H') : StoreAt H' p := by
  obtain ⟨sl, ns, i, b, c, s, hp, hs, r⟩ := h
  exact ⟨sl, ns, i, b, c, s, k _ _ nil_mem hp, k _ _ nil_mem hs, r⟩
theorem StoreAt.free {H H' : Hp} {p r : Addr} (h : StoreAt H' p) (k : Kp [p] H H') (hr : H' r = none) : H r = none := k.freeS (fun x hx => by
  rw [List.mem_singleton] at hx
  subst hx
  exact h.ex) hr
theorem StoreS.at {H : Hp} {p sl : Addr} (h : StoreS H p sl) : StoreAt H p := ⟨sl, h⟩
theorem StoreS.ex {H : Hp} {p sl : Addr} (h : StoreS H p sl) : ∃ o, H p = some o := h.at.ex
theorem StoreS.new {H : Hp} {p sl q : Addr} {o : HO} (h : StoreS H p sl) (hq : H q = none) : StoreS (upd H q o) p sl := by
  obtain ⟨ns, i, b, c, s, hp, hs, r⟩ := h
  exact ⟨ns, i, b, c, s, at_upd (ne_new hq hp) hp, at_upd (ne_new hq hs) hs, r⟩
theorem StoreS.kp {H H' : Hp} {p sl : Addr} (h : StoreS H p sl) (k : Kp [] H H') : StoreS H' p sl := by
  obtain ⟨ns, i, b, c, s, hp, hs, r⟩ := h
  exact ⟨ns, i, b, c, s, k _ _ nil_mem hp, k _ _ nil_mem hs, r⟩
theorem StoreS.put {H : Hp} {p sl q : Addr} {o : HO} (h : StoreS H p sl) (h1 : q ≠ p) (h2 : q ≠ sl) : StoreS (upd H q o) p sl := by
  obtain ⟨ns, i, b, c, s, hp, hs, r⟩ := h
  exact ⟨ns, i, b, c, s, at_upd h1.symm hp, at_upd h2.symm hs, r⟩
theorem StoreS.ne {H : Hp} {p sl q : Addr} (h : StoreS H p sl) (hq : H q = none) : q ≠ p ∧ q ≠ sl := by
  obtain ⟨ns, i, b, c, s, hp, hs, r⟩ := h
  exact ⟨ne_new' hq hp, ne_new' hq hs⟩
theorem StoreS.free {H H' : Hp} {p sl r : Addr} (h : StoreS H' p sl) (k : Kp [p] H H') (hr : H' r = none) : H r = none := h.at.free k hr
theorem of_map {ns : List Int} {i : Nat} {x : V} (h : (ns.map V.int)[i]? = some x) : ∃ n, x = .int n ∧ ns[i]? = some n := by
  rw [List.getElem?_map] at h
  cases e : ns[i]? with
  | none => rw [e] at h; cases h
  | some n => rw [e] at h; exact ⟨n, (Option.some.inj h).symm, rfl⟩
theorem at_map {ns : List Int} {i : Int} (h0 : 0 ≤ i) (h1 : i < ns.length) : atI (ns.map V.int) i = some (.int (ns.getD i.toNat 0)) := by
  obtain ⟨j, rfl⟩ := Int.eq_ofNat_of_zero_le h0
  have hj : j < ns.length := by omega
  refine atI_nat ?_
  rw [List.getElem?_map, List.getElem?_eq_getElem hj]
  simp [List.getD_eq_getElem?_getD, hj]
--PLAIN
def spStore (K : PySem.W.Frag) : Sp := fun vs H Q _ => ∃ (a : Addr) (ns : List Int), vs = [.ref a] ∧ SqL K H a (ns.map V.int) ∧ ∀ p H', Kp [] H H' → H p = none → StoreAt H' p → Q (.ref p) H'
abbrev s_law_store : Stmt := topS 62
theorem sc_law_store : FnScope ["script", "seed", "cell"] ["script"] (defScope s_law_store) := ⟨rfl, rfl, rfl, by decide +kernel, rfl, by decide +kernel, by decide +kernel⟩
--DEF _law_store
theorem ok_law_store (h : DefAt K mg "_law_store" ["script"] s_law_store) (g_len : mg "len" = none) (g_list : mg "list" = none) (D_law_mix : Okk P w K mg base CX0 k "_law_mix" ["one", "two"] spMix) :
    Okk P w K mg base CX0 (k + 1) "_law_store" ["script"] (spStore K) := by
  refine h.ok sc_law_store ?_ ?_
  · rintro vs H Q E ⟨a, ns, rfl, _⟩; rfl
  rintro cdv f A outer s H vs Q E hr ⟨a, ns, rfl, hS, q⟩
  refine ⟨_, (pss_cons (ps_set (i := 1) sc_law_store.nd rfl (Or.inl rfl) (pe_own D_law_mix hr (pa_cons (pe_callB cr_len (by rfl) g_len (by decide +kernel) (pa_cons (pv 0) pa_nil)) (pa_cons pe_int pa_nil))))
      (pss_cons (ps_for PassesOwn.never rfl (pi_list (pv 0)) (pg_name (i := 2) sc_law_store.nd rfl (Or.inl rfl))
        (pss_one (ps_set (i := 1) sc_law_store.nd rfl (Or.inl rfl) (pe_own D_law_mix hr (pa_cons (pv 1) (pa_cons (pv 2) pa_nil))))))
      (pss_one (ps_ret (pe_lst (pa_cons (pe_callTy cr_list (by rfl) g_list (by decide +kernel) (pa_cons (pv 0) pa_nil)) (pa_cons pe_int (pa_cons pe_int (pa_cons pe_int (pa_cons (pv 1) pa_nil)))))))))), ?_⟩
  walk_at "go"
  refine go_mix fun r0 _ _ => ?_
  walk_at "go"
  refine l_list hS (fun i s' H' => ∃ sd c, s' = [some (.ref a), some (.int sd), c] ∧ H' = H) ⟨r0, none, rfl, rfl⟩ (fun i s' H' _ h => ?_) ?_ ?_
  · obtain ⟨_, _, _, rfl⟩ := h; exact hS
  · rintro i x s' H' hx ⟨sd, c, rfl, rfl⟩
    obtain ⟨n, rfl, _⟩ := of_map hx
    walk_at "go"
    refine go_mix fun r _ _ => ?_
    walk_at "go"
    exact ⟨r, some (.int n), rfl, rfl⟩
  · rintro s' H' ⟨sd, c, rfl, rfl⟩
    walk_at "go"
    refine x_listL hS fun l hl => ?_
    walk_at "go"
    intro p hp
    obtain ⟨hp1, hp2⟩ := free_upd hp
    exact q p _ ((Kp.new hl).mut hp1) hp1 ⟨l, ns, 0, 0, 0, sd, upd_same, by walk_at "hp", hp2.symm, by omega, by omega⟩
--PLAIN
def spTake : Sp := fun vs H Q _ => ∃ (p : Addr) (m : Int) (sl : Addr), vs = [.ref p, .int m] ∧ m < 2 ^ 63 ∧ StoreS H p sl ∧ ∀ d H', StoreS H' p sl → Kp [p] H H' → 0 ≤ d → (m ≤ 1 → d = 0) → (1 < m → d < m) → Q (.int d) H'
theorem go_takeS {p sl : Addr} {m : Int} {H : Hp} {Q : VK} {E : XK} (hs : StoreS H p sl) (q : ∀ d H', StoreS H' p sl → Kp [p] H H' → 0 ≤ d → (m ≤ 1 → d = 0) → (1 < m → d < m) → Q (.int d) H') (hm : m < 2 ^ 63 := by omega) : spTake [.ref p, .int m] H Q E := ⟨p, m, sl, rfl, hm, hs, q⟩
theorem go_take {p : Addr} {m : Int} {H : Hp} {Q : VK} {E : XK} (hs : StoreAt H p) (q : ∀ d H', StoreAt H' p → Kp [p] H H' → 0 ≤ d → (m ≤ 1 → d = 0) → (1 < m → d < m) → Q (.int d) H') (hm : m < 2 ^ 63 := by omega) : spTake [.ref p, .int m] H Q E := by
  obtain ⟨sl, hs⟩ := hs
  exact go_takeS hs (fun d H' a => q d H' a.at) hm
theorem divw_small {i m : Int} (h : 0 < m) (h' : m < 2 ^ 63) : CDivW i m := wide_div (b := 63) h (by omega) (by decide) (by decide)
theorem absI_nn (i : Int) : 0 ≤ absI i := by unfold absI; split <;> omega
abbrev s_law_take : Stmt := topS 63
theorem sc_law_take : FnScope ["store", "many", "cell", "digit"] ["store", "many"] (defScope s_law_take) := ⟨rfl, rfl, rfl, by decide +kernel, rfl, by decide +kernel, by decide +kernel⟩
--DEF _law_take
theorem ok_law_take (h : DefAt K mg "_law_take" ["store", "many"] s_law_take) (g_len : mg "len" = none) (g_abs : mg "abs" = none) (g_int : mg "int" = none) (D_law_mix : Okk P w K mg base CX0 k "_law_mix" ["one", "two"] spMix) :
    Okk P w K mg base CX0 (k + 1) "_law_take" ["store", "many"] spTake := by
  refine h.ok sc_law_take ?_ ?_
  · rintro vs H Q E ⟨_, _, _, rfl, _⟩; rfl
  rintro cdv f A outer s H vs Q E hr ⟨p, m, sl, rfl, hm, ⟨ns, i, b, c, sd, hp, hsl, hne, hi, hb⟩, q⟩
  refine ⟨_, (pss_cons (ps_if (pt_cmpR op_le (pv 1) pe_int (nomark _)) (pss_one (ps_ret pe_int)) pss_nil)
      (pss_cons (ps_asg (pe_op op_add (pe_ix ix_list (pv 0) pe_int (fun _ _ => rfl)) pe_int) (pg_sub (pv 0) pe_int set_list))
      (C8.pss_cut (ps_if (PW.pt (pw_and (pt_cmpR op_eq (pe_ix ix_list (pv 0) pe_int (fun _ _ => rfl)) pe_int (nomark _)) (pw_and1 (pt_cmpR op_lt (pe_ix ix_list (pv 0) pe_int (fun _ _ => rfl)) (pe_callB cr_len (by rfl) g_len (by decide +kernel) (pa_cons (pe_ix ix_list (pv 0) pe_int (fun _ _ => rfl)) pa_nil)) (nomark _))))) (pss_cons (ps_set (i := 2) sc_law_take.nd rfl (Or.inl rfl) (pe_ix ix_list (pe_ix ix_list (pv 0) pe_int (fun _ _ => rfl)) (pe_ix ix_list (pv 0) pe_int (fun _ _ => rfl)) (fun _ _ => rfl)))
        (pss_cons (ps_asg (pe_op op_add (pe_ix ix_list (pv 0) pe_int (fun _ _ => rfl)) pe_int) (pg_sub (pv 0) pe_int set_list))
        (pss_cons (ps_if (pt_cmpR op_lt (pe_callB cr_abs (by rfl) g_abs (by decide +kernel) (pa_cons (pv 2) pa_nil)) (pe_op op_powW pe_int pe_int) (nomark _)) (pss_one (ps_ret (pe_op op_mod (pe_callTy cr_int (by rfl) g_int (by decide +kernel) (pa_cons (pe_own D_law_mix hr (pa_cons (pv 2) (pa_cons (pe_ix ix_list (pv 0) pe_int (fun _ _ => rfl)) pa_nil))) pa_nil)) (pv 1)))) pss_nil)
        (pss_one (ps_asg (pe_callB cr_abs (by rfl) g_abs (by decide +kernel) (pa_cons (pv 2) pa_nil)) (pg_sub (pv 0) pe_int set_list)))))) pss_nil)
      (pss_cons (ps_if (pt_cmpR op_gt (pe_ix ix_list (pv 0) pe_int (fun _ _ => rfl)) pe_int (nomark _)) (pss_cons (ps_set (i := 3) sc_law_take.nd rfl (Or.inl rfl) (pe_op op_mod (pe_callTy cr_int (by rfl) g_int (by decide +kernel) (pa_cons (pe_ix ix_list (pv 0) pe_int (fun _ _ => rfl)) pa_nil)) (pv 1)))
        (pss_cons (ps_asg (pe_op op_fdivW (pe_callTy cr_int (by rfl) g_int (by decide +kernel) (pa_cons (pe_ix ix_list (pv 0) pe_int (fun _ _ => rfl)) pa_nil)) (pv 1)) (pg_sub (pv 0) pe_int set_list))
        (pss_one (ps_ret (pv 3))))) pss_nil)
      (pss_one (ps_ret (pe_op op_mod (pe_callTy cr_int (by rfl) g_int (by decide +kernel) (pa_cons (pe_own D_law_mix hr (pa_cons (pe_ix ix_list (pv 0) pe_int (fun _ _ => rfl)) (pa_cons (pe_ix ix_list (pv 0) pe_int (fun _ _ => rfl)) pa_nil))) pa_nil)) (pv 1)))))))), ?_⟩
  walk_at "go"
  refine x_dec (fun h1 => ?_) (fun h1 => ?_)
  · walk_at "go"
    exact q 0 H ⟨ns, i, b, c, sd, hp, hsl, hne, hi, hb⟩ Kp.refl (by omega) (fun _ => rfl) (fun z => by omega)
  walk_at "go"
  refine x_cut (fun s' H' => ∃ i' b' c' x3, s' = [some (.ref p), some (.int m), x3, none] ∧ H' = upd H p (.lst [.ref sl, .int i', .int b', .int c', .int sd]) ∧ 0 ≤ i' ∧ 0 ≤ b') ?_ ?_
  · walk_at "go"
    refine x_dec (fun h2 => ?_) (fun h2 => ?_)
    · walk_at "go"
      refine x_dec (fun h3 => ?_) (fun h3 => ?_)
      · rw [List.length_map] at h3
        walk_at "go"
        refine x_ixL (by walk_at "sq") (at_map hi h3) ?_
        walk_at "go"
        refine x_dec (fun h4 => ?_) (fun h4 => ?_)
        · walk_at "go"
          refine go_mix fun r _ _ => ?_
          walk_at "go"
          exact q _ _ ⟨ns, _, _, _, sd, upd_same, at_upd hne hsl, hne, by omega, hb⟩ (Kp.put (by simp)) (Int.emod_nonneg _ (by omega)) (by omega) (fun _ => Int.emod_lt_of_pos _ (by omega))
        · walk_at "go"
          exact ⟨_, _, _, _, rfl, rfl, by omega, absI_nn _⟩
      · walk_at "go"
        exact ⟨_, _, _, _, rfl, rfl, hi, hb⟩
    · walk_at "go"
      exact ⟨_, _, _, _, rfl, rfl, hi, hb⟩
  · rintro s' H' ⟨i', b', c', x3, rfl, rfl, hi', hb'⟩
    walk_at "go"
    refine x_dec (fun h2 => ?_) (fun h2 => ?_)
    · walk_at "go"
      refine x_I (divw_small (by omega) hm) ?_
      walk_at "go"
      exact q _ _ ⟨ns, i', b' / m, c', sd, upd_same, at_upd hne hsl, hne, hi', Int.ediv_nonneg hb' (by omega)⟩ (Kp.put (by simp)) (Int.emod_nonneg _ (by omega)) (by omega) (fun _ => Int.emod_lt_of_pos _ (by omega))
    · walk_at "go"
      refine go_mix fun r _ _ => ?_
      walk_at "go"
      exact q _ _ ⟨ns, i', b', c', sd, upd_same, at_upd hne hsl, hne, hi', hb'⟩ (Kp.put (by simp)) (Int.emod_nonneg _ (by omega)) (by omega) (fun _ => Int.emod_lt_of_pos _ (by omega))
--PLAIN
def spNumber : Sp := fun vs H Q _ => ∃ (p : Addr) (m : Int) (sl : Addr), vs = [.ref p, .int m] ∧ StoreS H p sl ∧ ∀ d H', StoreS H' p sl → Kp [p] H H' → 0 ≤ d → (m ≤ 1 → d = 0) → (1 < m → d < m) → Q (.int d) H'
theorem go_numberS {p sl : Addr} {m : Int} {H : Hp} {Q : VK} {E : XK} (hs : StoreS H p sl) (q : ∀ d H', StoreS H' p sl → Kp [p] H H' → 0 ≤ d → (m ≤ 1 → d = 0) → (1 < m → d < m) → Q (.int d) H') : spNumber [.ref p, .int m] H Q E := ⟨p, m, sl, rfl, hs, q⟩
theorem go_number {p : Addr} {m : Int} {H : Hp} {Q : VK} {E : XK} (hs : StoreAt H p) (q : ∀ d H', StoreAt H' p → Kp [p] H H' → 0 ≤ d → (m ≤ 1 → d = 0) → (1 < m → d < m) → Q (.int d) H') : spNumber [.ref p, .int m] H Q E := by
  obtain ⟨sl, hs⟩ := hs
  exact go_numberS hs (fun d H' a => q d H' a.at)
abbrev s_law_number : Stmt := topS 64
theorem sc_law_number : FnScope ["store", "many", "worth", "reach", "k"] ["store", "many"] (defScope s_law_number) := ⟨rfl, rfl, rfl, by decide +kernel, rfl, by decide +kernel, by decide +kernel⟩
--DEF _law_number
theorem ok_law_number (h : DefAt K mg "_law_number" ["store", "many"] s_law_number) (g_range : mg "range" = none) (D_law_take : Okk P w K mg base CX0 k "_law_take" ["store", "many"] spTake) :
    Okk P w K mg base CX0 (k + 1) "_law_number" ["store", "many"] spNumber := by
  refine h.ok sc_law_number ?_ ?_
  · rintro vs H Q E z; first | (obtain ⟨_, _, _, rfl, _⟩ := z; rfl) | (obtain ⟨_, _, _, _, rfl, _⟩ := z; rfl)
  rintro cdv f A outer s H vs Q E hr ⟨p, m, sl, rfl, hS, q⟩
  refine ⟨_, (pss_cons (ps_if (pt_cmpR op_le (pv 1) (pe_op op_powW pe_int pe_int) (nomark _)) (pss_one (ps_ret (pe_own D_law_take hr (pa_cons (pv 0) (pa_cons (pv 1) pa_nil))))) pss_nil)
      (pss_cons (ps_set (i := 2) sc_law_number.nd rfl (Or.inl rfl) pe_int)
      (pss_cons (ps_set (i := 3) sc_law_number.nd rfl (Or.inl rfl) pe_int)
      (pss_cons (ps_for PassesOwn.never rfl (pi_range1 rfl g_range (pa_cons pe_int pa_nil)) (pg_name (i := 4) sc_law_number.nd rfl (Or.inl rfl))
        (pss_cons (ps_if (pt_cmpR op_ge (pv 3) (pv 1) (nomark _)) (pss_one ps_break) pss_nil)
        (pss_cons (ps_set (i := 2) sc_law_number.nd rfl (Or.inl rfl) (pe_op op_add (pe_op op_mul (pv 2) (pe_op op_powW pe_int pe_int)) (pe_own D_law_take hr (pa_cons (pv 0) (pa_cons (pe_op op_powW pe_int pe_int) pa_nil)))))
        (pss_one (ps_set (i := 3) sc_law_number.nd rfl (Or.inl rfl) (pe_op op_mul (pv 3) (pe_op op_powW pe_int pe_int)))))))
      (pss_one (ps_ret (pe_op op_mod (pv 2) (pv 1)))))))), ?_⟩
  walk_at "go"
  refine x_dec (fun h1 => ?_) (fun h1 => ?_)
  · walk_at "go"
    exact go_takeS hS fun d H' a b c e g => q d H' a b c e g
  walk_at "go"
  refine l_rng (by omega) (fun i s' H' => ∃ w r z, s' = [some (.ref p), some (.int m), some (.int w), some (.int r), z] ∧ StoreS H' p sl ∧ Kp [p] H H') ⟨0, 1, none, rfl, hS, Kp.refl⟩ ?_ ?_
  · rintro i s' H' hi ⟨w0, r0, z, rfl, hS', k'⟩
    walk_at "go"
    refine x_dec (fun h2 => ?_) (fun h2 => ?_)
    · walk_at "go"
      exact q _ _ hS' k' (Int.emod_nonneg _ (by omega)) (by omega) (fun _ => Int.emod_lt_of_pos _ (by omega))
    · walk_at "go"
      refine go_takeS hS' fun d H2 a b c e g => ?_
      walk_at "go"
      exact ⟨_, _, _, rfl, a, k'.trans b⟩
  · rintro s' H' ⟨w0, r0, z, rfl, hS', k'⟩
    walk_at "go"
    exact q _ _ hS' k' (Int.emod_nonneg _ (by omega)) (by omega) (fun _ => Int.emod_lt_of_pos _ (by omega))
--PLAIN
def spBetween : Sp := fun vs H Q _ => ∃ (p : Addr) (l h : Int) (sl : Addr), vs = [.ref p, .int l, .int h] ∧ StoreS H p sl ∧ ∀ d H', StoreS H' p sl → Kp [p] H H' → l ≤ d → (l ≤ h → d ≤ h) → (h < l → d = l) → Q (.int d) H'
theorem go_betweenS {p sl : Addr} {l h : Int} {H : Hp} {Q : VK} {E : XK} (hs : StoreS H p sl) (q : ∀ d H', StoreS H' p sl → Kp [p] H H' → l ≤ d → (l ≤ h → d ≤ h) → (h < l → d = l) → Q (.int d) H') : spBetween [.ref p, .int l, .int h] H Q E := ⟨p, l, h, sl, rfl, hs, q⟩
theorem go_between {p : Addr} {l h : Int} {H : Hp} {Q : VK} {E : XK} (hs : StoreAt H p) (q : ∀ d H', StoreAt H' p → Kp [p] H H' → l ≤ d → (l ≤ h → d ≤ h) → (h < l → d = l) → Q (.int d) H') : spBetween [.ref p, .int l, .int h] H Q E := by
  obtain ⟨sl, hs⟩ := hs
  exact go_betweenS hs (fun d H' a => q d H' a.at)
abbrev s_law_between : Stmt := topS 65
theorem sc_law_between : FnScope ["store", "low", "high"] ["store", "low", "high"] (defScope s_law_between) := ⟨rfl, rfl, rfl, by decide +kernel, rfl, by decide +kernel, by decide +kernel⟩
--DEF _law_between
theorem ok_law_between (h : DefAt K mg "_law_between" ["store", "low", "high"] s_law_between) (D_law_number : Okk P w K mg base CX0 k "_law_number" ["store", "many"] spNumber) :
    Okk P w K mg base CX0 (k + 1) "_law_between" ["store", "low", "high"] spBetween := by
  refine h.ok sc_law_between ?_ ?_
  · rintro vs H Q E z; first | (obtain ⟨_, _, _, rfl, _⟩ := z; rfl) | (obtain ⟨_, _, _, _, rfl, _⟩ := z; rfl)
  rintro cdv f A outer s H vs Q E hr ⟨p, l, hh, sl, rfl, hS, q⟩
  refine ⟨_, (pss_one (ps_ret (pe_op op_add (pv 1) (pe_own D_law_number hr (pa_cons (pv 0) (pa_cons (pe_op op_add (pe_op op_sub (pv 2) (pv 1)) pe_int) pa_nil)))))), ?_⟩
  walk_at "go"
  refine go_numberS hS fun d H' a b c e g => ?_
  walk_at "go"
  exact q _ _ a b (by omega) (by omega) (by omega)
--PLAIN
def spNear : Sp := spBetween
abbrev s_law_near_ends : Stmt := topS 66
theorem sc_law_near_ends : FnScope ["store", "low", "high", "kind"] ["store", "low", "high"] (defScope s_law_near_ends) := ⟨rfl, rfl, rfl, by decide +kernel, rfl, by decide +kernel, by decide +kernel⟩
--DEF _law_near_ends
theorem ok_law_near_ends (h : DefAt K mg "_law_near_ends" ["store", "low", "high"] s_law_near_ends) (g_max : mg "max" = none) (D_law_take : Okk P w K mg base CX0 k "_law_take" ["store", "many"] spTake) (D_law_between : Okk P w K mg base CX0 k "_law_between" ["store", "low", "high"] spBetween) :
    Okk P w K mg base CX0 (k + 1) "_law_near_ends" ["store", "low", "high"] spBetween := by
  refine h.ok sc_law_near_ends ?_ ?_
  · rintro vs H Q E z; first | (obtain ⟨_, _, _, rfl, _⟩ := z; rfl) | (obtain ⟨_, _, _, _, rfl, _⟩ := z; rfl)
  rintro cdv f A outer s H vs Q E hr ⟨p, l, hh, sl, rfl, hS, q⟩
  refine ⟨_, (pss_cons (ps_set (i := 3) sc_law_near_ends.nd rfl (Or.inl rfl) (pe_own D_law_take hr (pa_cons (pv 0) (pa_cons pe_int pa_nil))))
      (pss_cons (ps_if (pt_cmpR op_eq (pv 3) pe_int (nomark _)) (pss_one (ps_ret (pv 1))) pss_nil)
      (pss_cons (ps_if (pt_cmpR op_eq (pv 3) pe_int (nomark _)) (pss_one (ps_ret (pe_callB (cr_max2 rfl) (by rfl) g_max (by decide +kernel) (pa_cons (pv 1) (pa_cons (pv 2) pa_nil))))) pss_nil)
      (pss_one (ps_ret (pe_own D_law_between hr (pa_cons (pv 0) (pa_cons (pv 1) (pa_cons (pv 2) pa_nil))))))))), ?_⟩
  walk_at "go"
  refine go_takeS hS fun d H' a b c e g => ?_
  walk_at "go"
  refine x_dec (fun h2 => ?_) (fun h2 => ?_)
  · walk_at "go"
    exact q _ _ a b (by omega) (by omega) (by omega)
  walk_at "go"
  refine x_dec (fun h2 => ?_) (fun h2 => ?_)
  · walk_at "go"
    exact q _ _ a b (by split <;> omega) (by split <;> omega) (by split <;> omega)
  walk_at "go"
  exact go_betweenS a fun d2 H2 a2 b2 c2 e2 g2 => q d2 H2 a2 (b.trans b2) c2 e2 g2
--PLAIN
def spPick (K : PySem.W.Frag) : Sp := fun vs H Q _ => ∃ (p a : Addr) (xs : List V) (sl : Addr), vs = [.ref p, .ref a] ∧ StoreS H p sl ∧ SqL K H a xs ∧ a ≠ p ∧ 0 < xs.length ∧ xs.length < 100000 ∧ ∀ v H', StoreS H' p sl → Kp [p] H H' → v ∈ xs → Q v H'
theorem go_pickS {p a sl : Addr} {xs : List V} {H : Hp} {Q : VK} {E : XK} (hs : StoreS H p sl) (hx : SqL K H a xs) (hn : a ≠ p) (h0 : 0 < xs.length) (h1 : xs.length < 100000) (q : ∀ v H', StoreS H' p sl → Kp [p] H H' → v ∈ xs → Q v H') : spPick K [.ref p, .ref a] H Q E := ⟨p, a, xs, sl, rfl, hs, hx, hn, h0, h1, q⟩
theorem go_pick {p a : Addr} {xs : List V} {H : Hp} {Q : VK} {E : XK} (hs : StoreAt H p) (hx : SqL K H a xs) (hn : a ≠ p) (h0 : 0 < xs.length) (h1 : xs.length < 100000) (q : ∀ v H', StoreAt H' p → Kp [p] H H' → v ∈ xs → Q v H') : spPick K [.ref p, .ref a] H Q E := by
  obtain ⟨sl, hs⟩ := hs
  exact go_pickS hs hx hn h0 h1 (fun d H' a => q d H' a.at)
abbrev s_law_pick : Stmt := topS 67
theorem sc_law_pick : FnScope ["store", "row"] ["store", "row"] (defScope s_law_pick) := ⟨rfl, rfl, rfl, by decide +kernel, rfl, by decide +kernel, by decide +kernel⟩
--DEF _law_pick
theorem ok_law_pick (h : DefAt K mg "_law_pick" ["store", "row"] s_law_pick) (g_len : mg "len" = none) (D_law_take : Okk P w K mg base CX0 k "_law_take" ["store", "many"] spTake) :
    Okk P w K mg base CX0 (k + 1) "_law_pick" ["store", "row"] (spPick K) := by
  refine h.ok sc_law_pick ?_ ?_
  · rintro vs H Q E z; first | (obtain ⟨_, _, _, rfl, _⟩ := z; rfl) | (obtain ⟨_, _, _, _, rfl, _⟩ := z; rfl)
  rintro cdv f A outer s H vs Q E hr ⟨p, a, xs, sl, rfl, hS, hx, hn, h0, h1, q⟩
  refine ⟨_, (pss_one (ps_ret (pe_ix ix_list (pv 1) (pe_own D_law_take hr (pa_cons (pv 0) (pa_cons (pe_callB cr_len (by rfl) g_len (by decide +kernel) (pa_cons (pv 1) pa_nil)) pa_nil))) (fun _ _ => rfl)))), ?_⟩
  walk_at "go"
  refine go_takeS hS fun d H' a1 b c e g => ?_
  have hd : d.toNat < xs.length := by omega
  refine x_ixL (b.sq (one_mem hn) hx) (at_of (j := d.toNat) (by omega) (List.getElem?_eq_getElem hd)) ?_
  exact q _ _ a1 b (List.getElem_mem hd)
--PLAIN
def spSize : Sp := fun vs H Q _ => ∃ (p : Addr) (m : Int) (sl : Addr), vs = [.ref p, .int m] ∧ 1 ≤ m ∧ m < 100000 ∧ StoreS H p sl ∧ ∀ d H', StoreS H' p sl → Kp [p] H H' → 1 ≤ d → d ≤ m → Q (.int d) H'
theorem go_sizeS {p sl : Addr} {m : Int} {H : Hp} {Q : VK} {E : XK} (hs : StoreS H p sl) (h1 : 1 ≤ m) (h2 : m < 100000) (q : ∀ d H', StoreS H' p sl → Kp [p] H H' → 1 ≤ d → d ≤ m → Q (.int d) H') : spSize [.ref p, .int m] H Q E := ⟨p, m, sl, rfl, h1, h2, hs, q⟩
--PLAIN
def spShuf (K : PySem.W.Frag) : Sp := fun vs H Q _ => ∃ (p a : Addr) (xs : List V) (sl : Addr), vs = [.ref p, .ref a] ∧ StoreS H p sl ∧ SqL K H a xs ∧ xs.length < 90000 ∧ ∀ l ys H', StoreS H' p sl → Kp [p] H H' → H l = none → H' l = some (.lst ys) → ys.Perm xs → Q (.ref l) H'
theorem go_shufS {p a sl : Addr} {xs : List V} {H : Hp} {Q : VK} {E : XK} (hs : StoreS H p sl) (hx : SqL K H a xs) (hl : xs.length < 90000) (q : ∀ l ys H', StoreS H' p sl → Kp [p] H H' → H l = none → H' l = some (.lst ys) → ys.Perm xs → Q (.ref l) H') : spShuf K [.ref p, .ref a] H Q E := ⟨p, a, xs, sl, rfl, hs, hx, hl, q⟩
abbrev s_law_shuffled : Stmt := topS 68
theorem sc_law_shuffled : FnScope ["store", "row", "work", "k", "at", "held"] ["store", "row"] (defScope s_law_shuffled) := ⟨rfl, rfl, rfl, by decide +kernel, rfl, by decide +kernel, by decide +kernel⟩
--DEF _law_shuffled
theorem ok_law_shuffled (h : DefAt K mg "_law_shuffled" ["store", "row"] s_law_shuffled) (g_list : mg "list" = none) (g_range : mg "range" = none) (g_len : mg "len" = none) (D_law_take : Okk P w K mg base CX0 k "_law_take" ["store", "many"] spTake) :
    Okk P w K mg base CX0 (k + 1) "_law_shuffled" ["store", "row"] (spShuf K) := by
  refine h.ok sc_law_shuffled ?_ ?_
  · rintro vs H Q E ⟨p, a, xs, _, rfl, _⟩; rfl
  rintro cdv f A outer s H vs Q E hr ⟨p, a, xs, sl, rfl, hS, hx, hl, q⟩
  refine ⟨_, (pss_cons (ps_set (i := 2) sc_law_shuffled.nd rfl (Or.inl rfl) (pe_callTy cr_list (by rfl) g_list (by decide +kernel) (pa_cons (pv 1) pa_nil)))
      (pss_cons (ps_for PassesOwn.never rfl (pi_range3 rfl g_range (pa_cons (pe_op op_sub (pe_callB cr_len (by rfl) g_len (by decide +kernel) (pa_cons (pv 2) pa_nil)) pe_int) (pa_cons pe_int (pa_cons (pe_un un_neg pe_int) pa_nil)))) (pg_name (i := 3) sc_law_shuffled.nd rfl (Or.inl rfl))
        (pss_cons (ps_set (i := 4) sc_law_shuffled.nd rfl (Or.inl rfl) (pe_own D_law_take hr (pa_cons (pv 0) (pa_cons (pe_op op_add (pv 3) pe_int) pa_nil))))
        (pss_cons (ps_set (i := 5) sc_law_shuffled.nd rfl (Or.inl rfl) (pe_ix ix_list (pv 2) (pv 3) (fun _ _ => rfl)))
        (pss_cons (ps_asg (pe_ix ix_list (pv 2) (pv 4) (fun _ _ => rfl)) (pg_sub (pv 2) (pv 3) set_list))
        (pss_one (ps_asg (pv 5) (pg_sub (pv 2) (pv 4) set_list)))))))
      (pss_one (ps_ret (pv 2))))), ?_⟩
  walk_at "go"
  refine x_listL hx fun l fl => ?_
  walk_at "go"
  refine l_down ⟨by omega, by omega, by omega, by omega⟩ (fun i s' H' => StoreS H' p sl ∧ Kp [p] H H' ∧ (∃ ys, H' l = some (.lst ys) ∧ ys.Perm xs) ∧ ∃ z3 z4 z5, s' = [some (.ref p), some (.ref a), some (.ref l), z3, z4, z5]) ⟨hS.new fl, Kp.new fl, ⟨xs, upd_same, .refl _⟩, _, _, _, rfl⟩ ?_ ?_
  · rintro m s' H' hm ⟨hS1, k1, ⟨ys, e1, hp⟩, z3, z4, z5, rfl⟩
    have hlen := hp.length_eq
    walk_at "go"
    refine go_takeS hS1 (fun d H2 a2 b2 c2 d2 g2 => ?_)
    obtain ⟨hlp, hls⟩ := hS.ne fl
    have e2 := b2 _ _ (one_mem hlp) e1
    have h1 : (((xs.length : Int) - 1 - m)).toNat < ys.length := by omega
    have h2 : d.toNat < ys.length := by omega
    walk_at "go"
    refine x_ixL (SqL.of e2) (at_of (j := ((xs.length : Int) - 1 - m).toNat) (by omega) (List.getElem?_eq_getElem h1)) ?_
    walk_at "go"
    refine x_ixL (SqL.of e2) (at_of (j := d.toNat) (by omega) (List.getElem?_eq_getElem h2)) ?_
    walk_at "go"
    refine x_setN e2 (j := ((xs.length : Int) - 1 - m).toNat) (by omega) (SetTo.at h1) ?_
    walk_at "go"
    refine x_setN upd_same (j := d.toNat) (by omega) (SetTo.at (by rw [List.length_set]; exact h2)) ?_
    walk_at "go"
    refine ⟨(a2.put hlp hls).put hlp hls, ((k1.trans b2).mut fl).mut fl, ⟨_, upd_same, (swap_perm (List.getElem?_eq_getElem h1) (List.getElem?_eq_getElem h2)).trans hp⟩, _, _, _, rfl⟩
  · rintro s' H' ⟨hS1, k1, ⟨ys, e1, hp⟩, z3, z4, z5, rfl⟩
    walk_at "go"
    exact q l ys H' hS1 k1 fl e1 hp
--PLAIN
def isI : PyData → Bool
  | .int _ => true
  | _ => false
def spIsInt (K : PySem.W.Frag) : Sp := fun vs H Q _ => ∃ v d, vs = [v] ∧ Rr K H v d ∧ Q (.bl (isI d)) H
theorem go_isint {v : V} {d : PyData} {H : Hp} {Q : VK} {E : XK} (h : Rr K H v d) (q : Q (.bl (isI d)) H) : spIsInt K [v] H Q E := ⟨v, d, rfl, h, q⟩
theorem go_isint1 {i : Int} {H : Hp} {Q : VK} {E : XK} (q : Q (.bl true) H) : spIsInt K [.int i] H Q E := ⟨.int i, .int i, rfl, .int i, q⟩
--PLAIN
def isIs : PyData → Bool
  | .list ds => ds.all isI
  | _ => false
def spIsInts (K : PySem.W.Frag) : Sp := fun vs H Q _ => ∃ v d, vs = [v] ∧ Rr K H v d ∧ (∀ ds, d = .list ds → ds.length ≤ 100000) ∧ ∀ H', Kp [] H H' → Q (.bl (isIs d)) H'
theorem go_isints {v : V} {d : PyData} {H : Hp} {Q : VK} {E : XK} (h : Rr K H v d) (l : ∀ ds, d = .list ds → ds.length ≤ 100000) (q : ∀ H', Kp [] H H' → Q (.bl (isIs d)) H') : spIsInts K [v] H Q E := ⟨v, d, rfl, h, l, q⟩
theorem all_range {α : Type} (p : α → Bool) : ∀ l : List α, ((List.range l.length).map fun i => (l[i]?.map p).getD false).all id = l.all p := fun l => by
  rw [Bool.eq_iff_iff, List.all_eq_true, List.all_eq_true]
  constructor
  · intro h x hx
    obtain ⟨i, hi, e⟩ := List.getElem_of_mem hx
    have := h _ (List.mem_map.mpr ⟨i, List.mem_range.mpr hi, rfl⟩)
    rw [List.getElem?_eq_getElem hi] at this
    simpa [e] using this
  · intro h x hx
    obtain ⟨i, hi, rfl⟩ := List.mem_map.mp hx
    have hi := List.mem_range.mp hi
    rw [List.getElem?_eq_getElem hi]
    simpa using h _ (List.getElem_mem hi)
/-! ### how far the law's own loop for the divisor has to go -/
def fib : Nat → Nat
  | 0 => 0
  | 1 => 1
  | n + 2 => fib (n + 1) + fib n
theorem fib_two (n : Nat) : fib (n + 2) = fib (n + 1) + fib n := rfl
theorem fib_rat : ∀ n, 8 * fib (n + 5) ≤ 5 * fib (n + 6) ∧ 3 * fib (n + 6) ≤ 5 * fib (n + 5)
  | 0 => by decide
  | n + 1 => by
    obtain ⟨h1, h2⟩ := fib_rat n
    have e : fib (n + 1 + 6) = fib (n + 6) + fib (n + 5) := fib_two (n + 5)
    have e2 : fib (n + 1 + 5) = fib (n + 6) := rfl
    omega
theorem fib_up (n : Nat) : 512 * fib (n + 5) ≤ fib (n + 18) := by
  obtain ⟨h1, h2⟩ := fib_rat n
  have e2 : fib (n + 7) = fib (n + 6) + fib (n + 5) := fib_two (n + 5)
  have e3 : fib (n + 8) = fib (n + 7) + fib (n + 6) := fib_two (n + 6)
  have e4 : fib (n + 9) = fib (n + 8) + fib (n + 7) := fib_two (n + 7)
  have e5 : fib (n + 10) = fib (n + 9) + fib (n + 8) := fib_two (n + 8)
  have e6 : fib (n + 11) = fib (n + 10) + fib (n + 9) := fib_two (n + 9)
  have e7 : fib (n + 12) = fib (n + 11) + fib (n + 10) := fib_two (n + 10)
  have e8 : fib (n + 13) = fib (n + 12) + fib (n + 11) := fib_two (n + 11)
  have e9 : fib (n + 14) = fib (n + 13) + fib (n + 12) := fib_two (n + 12)
  have e10 : fib (n + 15) = fib (n + 14) + fib (n + 13) := fib_two (n + 13)
  have e11 : fib (n + 16) = fib (n + 15) + fib (n + 14) := fib_two (n + 14)
  have e12 : fib (n + 17) = fib (n + 16) + fib (n + 15) := fib_two (n + 15)
  have e13 : fib (n + 18) = fib (n + 17) + fib (n + 16) := fib_two (n + 16)
  omega
theorem fib_big : ∀ j, 2 ^ (9 * j) ≤ fib (13 * j + 5)
  | 0 => by decide
  | j + 1 => by
    have h := fib_big j
    have u := fib_up (13 * j)
    have e : 13 * (j + 1) + 5 = 13 * j + 18 := by omega
    have e2 : 9 * (j + 1) = 9 * j + 9 := by omega
    rw [e, e2, Nat.pow_add]
    omega
theorem fib_mono : ∀ (n j : Nat), fib n ≤ fib (n + j)
  | n, 0 => Nat.le_refl _
  | n, j + 1 => by
    have h := fib_mono n j
    have e : fib (n + (j + 1)) ≥ fib (n + j) := by
      cases q : n + j with
      | zero => rw [show n + (j + 1) = 1 by omega]; decide
      | succ m =>
        rw [show n + (j + 1) = m + 2 by omega, fib_two]
        omega
    omega
theorem fib_4001 : 2 ^ 2760 ≤ fib 4001 := by
  have h := fib_big 307
  have m := fib_mono (13 * 307 + 5) 5
  have p : (2 : Nat) ^ 2760 ≤ 2 ^ (9 * 307) := Nat.pow_le_pow_right (by decide) (by decide)
  exact Nat.le_trans p (Nat.le_trans h m)
/-- the pair is far from its end -/
def Far (m x y : Nat) : Prop := fib (m + 1) ≤ y ∧ fib (m + 2) ≤ x
theorem far_back {m x y : Nat} (hy : 0 < y) (hxy : y ≤ x) (h : Far m y (x % y)) : Far (m + 1) x y := by
  obtain ⟨h1, h2⟩ := h
  refine ⟨h2, ?_⟩
  have e : fib (m + 1 + 2) = fib (m + 2) + fib (m + 1) := fib_two (m + 1)
  have d := Nat.div_add_mod x y
  have q : 1 ≤ x / y := (Nat.le_div_iff_mul_le hy).mpr (by omega)
  have z : y * 1 ≤ y * (x / y) := Nat.mul_le_mul_left _ q
  omega
--PLAIN
def spGcdL : Sp := fun vs H Q _ => ∃ a b : Int, vs = [.int a, .int b] ∧ Bt 2760 b ∧ Q (.int ((Nat.gcd a.natAbs b.natAbs : Nat) : Int)) H
theorem go_gcdl {a b : Int} {H : Hp} {Q : VK} {E : XK} (hb : Bt 2760 b) (q : Q (.int ((Nat.gcd a.natAbs b.natAbs : Nat) : Int)) H) : spGcdL [.int a, .int b] H Q E := ⟨a, b, rfl, hb, q⟩
theorem absI_nat (i : Int) : absI i = ((i.natAbs : Nat) : Int) := by unfold absI; split <;> omega
mutual
/-- how deep data goes -/
def dep : PyData → Nat
  | .list xs => depAll xs + 1
  | .tuple xs => depAll xs + 1
  | _ => 0
def depAll : List PyData → Nat
  | [] => 0
  | x :: r => max (dep x) (depAll r)
end
theorem dep_le : ∀ {ds : List PyData} {i : Nat} {d : PyData}, ds[i]? = some d → dep d ≤ depAll ds
  | [], _, _, h => by simp at h
  | x :: r, 0, d, h => by
    simp at h
    subst h
    show dep x ≤ max (dep x) (depAll r)
    omega
  | x :: r, i + 1, d, h => by
    have := dep_le (ds := r) (i := i) (d := d) (by simpa using h)
    show dep d ≤ max (dep x) (depAll r)
    omega
mutual
/-- the greatest length of a list within -/
def wid : PyData → Nat
  | .list xs => max xs.length (widAll xs)
  | .tuple xs => max xs.length (widAll xs)
  | _ => 0
def widAll : List PyData → Nat
  | [] => 0
  | x :: r => max (wid x) (widAll r)
end
theorem wid_le : ∀ {ds : List PyData} {i : Nat} {d : PyData}, ds[i]? = some d → wid d ≤ widAll ds
  | [], _, _, h => by simp at h
  | x :: r, 0, d, h => by
    simp at h
    subst h
    show wid x ≤ max (wid x) (widAll r)
    omega
  | x :: r, i + 1, d, h => by
    have := wid_le (ds := r) (i := i) (d := d) (by simpa using h)
    show wid d ≤ max (wid x) (widAll r)
    omega
theorem dep_ints (ns : List Int) : depAll (ns.map .int) = 0 := by
  induction ns with
  | nil => rfl
  | cons n r ih =>
    show max 0 (depAll (r.map .int)) = 0
    omega
theorem wid_ints (ns : List Int) : widAll (ns.map .int) = 0 := by
  induction ns with
  | nil => rfl
  | cons n r ih =>
    show max 0 (widAll (r.map .int)) = 0
    omega
abbrev s_law_same : Stmt := topS 70
theorem sc_law_same : FnScope ["told", "due", "k"] ["told", "due"] (defScope s_law_same) := ⟨rfl, rfl, rfl, by decide +kernel, rfl, by decide +kernel, by decide +kernel⟩
--DEF _law_same
def spSame (K : PySem.W.Frag) (n : Nat) : Sp := fun vs H Q _ => ∃ (x y : V) (d e : PyData), vs = [x, y] ∧ Rr K H x d ∧ Rr K H y e ∧ dep e ≤ n ∧ wid e < 100000 ∧ ∀ b H', Kp [] H H' → (b = true ↔ d = e) → Q (.bl b) H'
theorem go_same {n : Nat} {x y : V} {d e : PyData} {H : Hp} {Q : VK} {E : XK} (h1 : Rr K H x d) (h2 : Rr K H y e) (hn : dep e ≤ n) (hw : wid e < 100000) (q : ∀ b H', Kp [] H H' → (b = true ↔ d = e) → Q (.bl b) H') : spSame K n [x, y] H Q E := ⟨x, y, d, e, rfl, h1, h2, hn, hw, q⟩
theorem len_ne {ds es : List PyData} (h : ds.length ≠ es.length) : ds ≠ es := fun z => h (by rw [z])
set_option maxHeartbeats 4000000 in
theorem ok_law_same_step {n : Nat} (h : DefAt K mg "_law_same" ["told", "due"] s_law_same) (g_isinstance : mg "isinstance" = none) (g_bool : mg "bool" = none) (g_int : mg "int" = none) (g_str : mg "str" = none) (g_list : mg "list" = none) (g_tuple : mg "tuple" = none) (g_len : mg "len" = none) (g_range : mg "range" = none)
    {sp : Sp} (D_law_same : Okk P w K mg base CX0 k "_law_same" ["told", "due"] sp) (hs : ∀ m vs H Q E, m < n → spSame K m vs H Q E → sp vs H Q E) : Okk P w K mg base CX0 (k + 1) "_law_same" ["told", "due"] (spSame K n) := by
  refine h.ok sc_law_same ?_ ?_
  · rintro vs H Q E ⟨a, ns, _, _, rfl, _⟩; rfl
  rintro cdv f A outer s H vs Q E hr ⟨x, y, d, e, rfl, hx, hy, hn, hw, q⟩
  refine ⟨_, (pss_cons (ps_if (pt_cmpR op_isN' (pv 1) pe_non (nomark _)) (pss_one (ps_ret (pe_cmpR op_isN' (pv 0) pe_non (nomark _)))) pss_nil)
      (pss_cons (ps_if (pt_val (pe_callB call_isi (by rfl) g_isinstance (by decide +kernel) (pa_cons (pv 1) (pa_cons (pe_bltn (v := .ty "bool") (by rfl) g_bool (by decide +kernel) rfl) pa_nil)))) (pss_one (ps_ret (pe_and (pe_callB call_isi (by rfl) g_isinstance (by decide +kernel) (pa_cons (pv 0) (pa_cons (pe_bltn (v := .ty "bool") (by rfl) g_bool (by decide +kernel) rfl) pa_nil))) (pe_one (pe_cmpR op_eq (pv 0) (pv 1) (nomark _)))))) pss_nil)
      (pss_cons (ps_if (pt_val (pe_callB call_isi (by rfl) g_isinstance (by decide +kernel) (pa_cons (pv 1) (pa_cons (pe_bltn (v := .ty "int") (by rfl) g_int (by decide +kernel) rfl) pa_nil)))) (pss_one (ps_ret (pe_and (pe_callB call_isi (by rfl) g_isinstance (by decide +kernel) (pa_cons (pv 0) (pa_cons (pe_bltn (v := .ty "int") (by rfl) g_int (by decide +kernel) rfl) pa_nil))) (pe_and (pe_not (pe_callB call_isi (by rfl) g_isinstance (by decide +kernel) (pa_cons (pv 0) (pa_cons (pe_bltn (v := .ty "bool") (by rfl) g_bool (by decide +kernel) rfl) pa_nil)))) (pe_one (pe_cmpR op_eq (pv 0) (pv 1) (nomark _))))))) pss_nil)
      (pss_cons (ps_if (pt_val (pe_callB call_isi (by rfl) g_isinstance (by decide +kernel) (pa_cons (pv 1) (pa_cons (pe_bltn (v := .ty "str") (by rfl) g_str (by decide +kernel) rfl) pa_nil)))) (pss_one (ps_ret (pe_and (pe_callB call_isi (by rfl) g_isinstance (by decide +kernel) (pa_cons (pv 0) (pa_cons (pe_bltn (v := .ty "str") (by rfl) g_str (by decide +kernel) rfl) pa_nil))) (pe_one (pe_cmpR op_eq (pv 0) (pv 1) (nomark _)))))) pss_nil)
      (pss_cons (ps_if (PW.pt (pw_and (pt_val (pe_callB call_isi (by rfl) g_isinstance (by decide +kernel) (pa_cons (pv 1) (pa_cons (pe_bltn (v := .ty "list") (by rfl) g_list (by decide +kernel) rfl) pa_nil)))) (pw_and1 (pt_not (pt_val (pe_callB call_isi (by rfl) g_isinstance (by decide +kernel) (pa_cons (pv 0) (pa_cons (pe_bltn (v := .ty "list") (by rfl) g_list (by decide +kernel) rfl) pa_nil)))))))) (pss_one (ps_ret pe_bl)) pss_nil)
      (pss_cons (ps_if (PW.pt (pw_and (pt_val (pe_callB call_isi (by rfl) g_isinstance (by decide +kernel) (pa_cons (pv 1) (pa_cons (pe_bltn (v := .ty "tuple") (by rfl) g_tuple (by decide +kernel) rfl) pa_nil)))) (pw_and1 (pt_not (pt_val (pe_callB call_isi (by rfl) g_isinstance (by decide +kernel) (pa_cons (pv 0) (pa_cons (pe_bltn (v := .ty "tuple") (by rfl) g_tuple (by decide +kernel) rfl) pa_nil)))))))) (pss_one (ps_ret pe_bl)) pss_nil)
      (pss_cons (ps_if (PW.pt (pw_or (pt_not (pt_val (pe_callB call_isiT (by rfl) g_isinstance (by decide +kernel) (pa_cons (pv 1) (pa_cons (pe_tup (pa_cons (pe_bltn (v := .ty "list") (by rfl) g_list (by decide +kernel) rfl) (pa_cons (pe_bltn (v := .ty "tuple") (by rfl) g_tuple (by decide +kernel) rfl) pa_nil))) pa_nil))))) (pw_or1 (pt_cmpR op_ne (pe_callB cr_len (by rfl) g_len (by decide +kernel) (pa_cons (pv 0) pa_nil)) (pe_callB cr_len (by rfl) g_len (by decide +kernel) (pa_cons (pv 1) pa_nil)) (nomark _))))) (pss_one (ps_ret pe_bl)) pss_nil)
      (pss_cons (ps_for PassesOwn.never rfl (pi_range1 rfl g_range (pa_cons (pe_callB cr_len (by rfl) g_len (by decide +kernel) (pa_cons (pv 1) pa_nil)) pa_nil)) (pg_name (i := 2) sc_law_same.nd rfl (Or.inl rfl))
        (pss_one (ps_if (pt_not (pt_val (pe_own D_law_same hr (pa_cons (pe_ix ix_seq (pv 0) (pv 2) (fun _ _ => rfl)) (pa_cons (pe_ix ix_seq (pv 1) (pv 2) (fun _ _ => rfl)) pa_nil))))) (pss_one (ps_ret pe_bl)) pss_nil)))
      (pss_one (ps_ret pe_bl)))))))))), ?_⟩
  cases hy with
  | non =>
    walk_at "go"
    refine q _ _ Kp.refl ?_
    cases hx <;> simp
  | bl b =>
    cases hx <;> walk_at "go" <;> refine q _ _ Kp.refl ?_ <;> simp
  | int b =>
    cases hx <;> walk_at "go" <;> refine q _ _ Kp.refl ?_ <;> simp
  | str b =>
    cases hx <;> walk_at "go" <;> refine q _ _ Kp.refl ?_ <;> simp
  | @lst a ys es _ hL hA =>
    cases hx with
    | @lst a2 xs ds _ hL2 hA2 =>
      walk_at "go"
      intro t ht
      walk_at "go"
      refine x_ndec (fun z => ?_) (fun z => ?_)
      · walk_at "go"
        refine q _ _ (Kp.new ht) ⟨(fun y => by cases y), fun y => ?_⟩
        injection y with y
        subst y
        exact absurd (by rw [hA.length, hA2.length]) z
      · have el : ds.length = es.length := by rw [← hA.length, ← hA2.length]; omega
        have hn' : depAll es < n := hn
        have hz : ys.length = es.length := hA.length
        have hw' : max es.length (widAll es) < 100000 := hw
        have hsz : es.length < 100000 := by omega
        walk_at "go"
        refine l_rng (by omega) (fun i s' H' => ∃ z, s' = [some (.ref a2), some (.ref a), z] ∧ Kp [] H H' ∧ ∀ j, j < i → ds[j]? = es[j]?) ⟨none, rfl, Kp.new ht, fun j hj => absurd hj (Nat.not_lt_zero _)⟩ ?_ ?_
        · rintro i s' H' hi ⟨z0, rfl, k', hj⟩
          have i2 : i < es.length := by omega
          have i1 : i < ds.length := by omega
          obtain ⟨vy, gy, ry⟩ := hA.get (List.getElem?_eq_getElem i2)
          obtain ⟨vx, gx, rx⟩ := hA2.get (List.getElem?_eq_getElem i1)
          walk_at "go"
          refine x_ixSL (by walk_at "sq") (atI_nat gx) ?_
          walk_at "go"
          refine x_ixSL (by walk_at "sq") (atI_nat gy) ?_
          walk_at "go"
          refine hs (depAll es) _ _ _ _ hn' (go_same (rx.to k') (ry.to k') (dep_le (List.getElem?_eq_getElem i2)) (Nat.lt_of_le_of_lt (wid_le (List.getElem?_eq_getElem i2)) (by omega)) fun b H2 k2 hb => ?_)
          walk_at "go"
          cases b with
          | true =>
            walk_at "go"
            refine ⟨_, rfl, k'.trans k2, fun j hj' => ?_⟩
            by_cases e : j = i
            · subst e
              rw [List.getElem?_eq_getElem i1, List.getElem?_eq_getElem i2, hb.mp rfl]
            · exact hj j (by omega)
          | false =>
            walk_at "go"
            refine q _ _ (k'.trans k2) ⟨(fun y => by cases y), fun y => ?_⟩
            injection y with y
            subst y
            exact hb.mpr rfl
        · rintro s' H' ⟨z0, rfl, k', hj⟩
          walk_at "go"
          refine q _ _ k' ⟨fun _ => ?_, fun _ => rfl⟩
          have : ds = es := List.ext_getElem? fun j => by
            by_cases h : j < es.length
            · exact hj j (by omega)
            · rw [List.getElem?_eq_none (by omega), List.getElem?_eq_none (by omega)]
          rw [this]
    | non | bl _ | int _ | str _ | tup _ _ _ =>
      walk_at "go"
      refine q _ _ Kp.refl ?_
      simp
  | @tup a ys es _ hL hA =>
    cases hx with
    | @tup a2 xs ds _ hL2 hA2 =>
      walk_at "go"
      intro t ht
      walk_at "go"
      refine x_ndec (fun z => ?_) (fun z => ?_)
      · walk_at "go"
        refine q _ _ (Kp.new ht) ⟨(fun y => by cases y), fun y => ?_⟩
        injection y with y
        subst y
        exact absurd (by rw [hA.length, hA2.length]) z
      · have el : ds.length = es.length := by rw [← hA.length, ← hA2.length]; omega
        have hn' : depAll es < n := hn
        have hz : ys.length = es.length := hA.length
        have hw' : max es.length (widAll es) < 100000 := hw
        have hsz : es.length < 100000 := by omega
        walk_at "go"
        refine l_rng (by omega) (fun i s' H' => ∃ z, s' = [some (.ref a2), some (.ref a), z] ∧ Kp [] H H' ∧ ∀ j, j < i → ds[j]? = es[j]?) ⟨none, rfl, Kp.new ht, fun j hj => absurd hj (Nat.not_lt_zero _)⟩ ?_ ?_
        · rintro i s' H' hi ⟨z0, rfl, k', hj⟩
          have i2 : i < es.length := by omega
          have i1 : i < ds.length := by omega
          obtain ⟨vy, gy, ry⟩ := hA.get (List.getElem?_eq_getElem i2)
          obtain ⟨vx, gx, rx⟩ := hA2.get (List.getElem?_eq_getElem i1)
          walk_at "go"
          refine x_ixST (by walk_at "st") (atI_nat gx) ?_
          walk_at "go"
          refine x_ixST (by walk_at "st") (atI_nat gy) ?_
          walk_at "go"
          refine hs (depAll es) _ _ _ _ hn' (go_same (rx.to k') (ry.to k') (dep_le (List.getElem?_eq_getElem i2)) (Nat.lt_of_le_of_lt (wid_le (List.getElem?_eq_getElem i2)) (by omega)) fun b H2 k2 hb => ?_)
          walk_at "go"
          cases b with
          | true =>
            walk_at "go"
            refine ⟨_, rfl, k'.trans k2, fun j hj' => ?_⟩
            by_cases e : j = i
            · subst e
              rw [List.getElem?_eq_getElem i1, List.getElem?_eq_getElem i2, hb.mp rfl]
            · exact hj j (by omega)
          | false =>
            walk_at "go"
            refine q _ _ (k'.trans k2) ⟨(fun y => by cases y), fun y => ?_⟩
            injection y with y
            subst y
            exact hb.mpr rfl
        · rintro s' H' ⟨z0, rfl, k', hj⟩
          walk_at "go"
          refine q _ _ k' ⟨fun _ => ?_, fun _ => rfl⟩
          have : ds = es := List.ext_getElem? fun j => by
            by_cases h : j < es.length
            · exact hj j (by omega)
            · rw [List.getElem?_eq_none (by omega), List.getElem?_eq_none (by omega)]
          rw [this]
    | non | bl _ | int _ | str _ | lst _ _ _ =>
      walk_at "go"
      refine q _ _ Kp.refl ?_
      simp
theorem ok_law_same (h : DefAt K mg "_law_same" ["told", "due"] s_law_same) (g_isinstance : mg "isinstance" = none) (g_bool : mg "bool" = none) (g_int : mg "int" = none) (g_str : mg "str" = none) (g_list : mg "list" = none) (g_tuple : mg "tuple" = none) (g_len : mg "len" = none) (g_range : mg "range" = none) :
    ∀ n, Okk P w K mg base CX0 (n + 1) "_law_same" ["told", "due"] (spSame K n)
  | 0 => ok_law_same_step (k := 0) h g_isinstance g_bool g_int g_str g_list g_tuple g_len g_range h.never fun _ _ _ _ _ z => absurd z (Nat.not_lt_zero _)
  | n + 1 => ok_law_same_step h g_isinstance g_bool g_int g_str g_list g_tuple g_len g_range (ok_law_same h g_isinstance g_bool g_int g_str g_list g_tuple g_len g_range n) fun m vs H Q E hm z => by
    obtain ⟨x, y, d, e, h1, h2, h3, h4, h5, h6⟩ := z
    exact ⟨x, y, d, e, h1, h2, h3, by omega, h5, h6⟩
end
end LN
namespace LN
open PySem PySem.Spec PyProof.Rows L2
/-! ### data, and who owns its lists -/
inductive D where
  | non | bl (b : Bool) | int (i : Int) | str (x : Str) | lst (l : List D) | tup (l : List D) | obj (C : Addr) (fs : List (Str × D))
def live (H : Hp) (a : Addr) : Prop := ∃ o, H a = some o
theorem live.kp {M : List Addr} {H H' : Hp} {a : Addr} (h : live H a) (k : Kp M H H') (n : a ∉ M) : live H' a := by
  obtain ⟨o, e⟩ := h
  exact ⟨o, k _ _ n e⟩
def Hz : Hp := fun _ => none
theorem kp_empty {M : List Addr} {H : Hp} : Kp M Hz H := fun _ _ _ e => nomatch e
mutual
/-- v stands for d; A: what is told of the addresses of what is tracked -/
inductive Dt (A : Addr → Prop) (K : PySem.W.Frag) (H : Hp) : V → D → Prop
  | non : Dt A K H .non .non
  | bl (b : Bool) : Dt A K H (.bl b) (.bl b)
  | int (i : Int) : Dt A K H (.int i) (.int i)
  | str (x : Str) : Dt A K H (.str x) (.str x)
  | lst {a vs l} : A a → H a = some (.lst vs) → DtL A K H vs l → Dt A K H (.ref a) (.lst l)
  | tup {a vs l} : (A a ∧ H a = some (.tup vs)) ∨ SqT K Hz a vs → DtL A K H vs l → Dt A K H (.ref a) (.tup l)
  | obj {a dx C vs fs} : A a → A dx → H a = some (.ins C dx vs) → H dx = some (.own a) → DtF A K H vs fs → Dt A K H (.ref a) (.obj C fs)
inductive DtL (A : Addr → Prop) (K : PySem.W.Frag) (H : Hp) : List V → List D → Prop
  | nil : DtL A K H [] []
  | cons {v vs d ds} : Dt A K H v d → DtL A K H vs ds → DtL A K H (v :: vs) (d :: ds)
inductive DtF (A : Addr → Prop) (K : PySem.W.Frag) (H : Hp) : List (Str × V) → List (Str × D) → Prop
  | nil : DtF A K H [] []
  | cons {n v vs d ds} : Dt A K H v d → DtF A K H vs ds → DtF A K H ((n, v) :: vs) ((n, d) :: ds)
end
section
variable {K : PySem.W.Frag} {A B : Addr → Prop} {M : List Addr} {H H' : Hp}
mutual
theorem Dt.kp (k : Kp M H H') (h : ∀ a, A a → live H a → a ∉ M ∧ B a) : ∀ {v : V} {d : D}, Dt A K H v d → Dt B K H' v d
  | _, _, .non => .non
  | _, _, .bl b => .bl b
  | _, _, .int i => .int i
  | _, _, .str x => .str x
  | _, _, .lst a e r => .lst (h _ a ⟨_, e⟩).2 (k _ _ (h _ a ⟨_, e⟩).1 e) (DtL.kp k h r)
  | _, _, .tup (.inl s) r => .tup (.inl ⟨(h _ s.1 ⟨_, s.2⟩).2, k _ _ (h _ s.1 ⟨_, s.2⟩).1 s.2⟩) (DtL.kp k h r)
  | _, _, .tup (.inr s) r => .tup (.inr s) (DtL.kp k h r)
  | _, _, .obj a x e z r => .obj (h _ a ⟨_, e⟩).2 (h _ x ⟨_, z⟩).2 (k _ _ (h _ a ⟨_, e⟩).1 e) (k _ _ (h _ x ⟨_, z⟩).1 z) (DtF.kp k h r)
theorem DtL.kp (k : Kp M H H') (h : ∀ a, A a → live H a → a ∉ M ∧ B a) : ∀ {vs : List V} {ds : List D}, DtL A K H vs ds → DtL B K H' vs ds
  | _, _, .nil => .nil
  | _, _, .cons r t => .cons (Dt.kp k h r) (DtL.kp k h t)
theorem DtF.kp (k : Kp M H H') (h : ∀ a, A a → live H a → a ∉ M ∧ B a) : ∀ {vs : List (Str × V)} {ds : List (Str × D)}, DtF A K H vs ds → DtF B K H' vs ds
  | _, _, .nil => .nil
  | _, _, .cons r t => .cons (Dt.kp k h r) (DtF.kp k h t)
end
theorem Dt.mono {v d} (r : Dt A K H v d) (h : ∀ a, A a → live H a → B a) : Dt B K H v d := r.kp (M := []) Kp.refl fun a x y => ⟨nil_mem, h a x y⟩
theorem DtL.mono {v d} (r : DtL A K H v d) (h : ∀ a, A a → live H a → B a) : DtL B K H v d := r.kp (M := []) Kp.refl fun a x y => ⟨nil_mem, h a x y⟩
theorem sqT_of {a vs} (h : (A a ∧ H a = some (.tup vs)) ∨ SqT K Hz a vs) : SqT K H a vs := by
  rcases h with h | h
  · exact SqT.of h.2
  · exact (kp_empty (M := [])).st nil_mem h
theorem DtL.length : ∀ {vs : List V} {ds : List D}, DtL A K H vs ds → vs.length = ds.length
  | _, _, .nil => rfl
  | _, _, .cons _ t => congrArg Nat.succ t.length
theorem DtL.get : ∀ {vs : List V} {ds : List D} {i : Nat} {d : D}, DtL A K H vs ds → ds[i]? = some d → ∃ v, vs[i]? = some v ∧ Dt A K H v d
  | _, _, _, _, .nil, e => by cases e
  | _, _, 0, _, .cons r _, e => by cases e; exact ⟨_, rfl, r⟩
  | _, _, _ + 1, _, .cons _ t, e => t.get e
theorem DtL.get' : ∀ {vs : List V} {ds : List D} {i : Nat} {v : V}, DtL A K H vs ds → vs[i]? = some v → ∃ d, ds[i]? = some d ∧ Dt A K H v d
  | _, _, _, _, .nil, e => by cases e
  | _, _, 0, _, .cons r _, e => by cases e; exact ⟨_, rfl, r⟩
  | _, _, _ + 1, _, .cons _ t, e => t.get' e
theorem DtL.append : ∀ {vs : List V} {ds : List D} {us : List V} {es : List D}, DtL A K H vs ds → DtL A K H us es → DtL A K H (vs ++ us) (ds ++ es)
  | _, _, _, _, .nil, s => s
  | _, _, _, _, .cons r t, s => .cons r (t.append s)
theorem DtF.look : ∀ {vs : List (Str × V)} {ds : List (Str × D)} {n : Str} {d : D}, DtF A K H vs ds → ds.lookup n = some d → ∃ v, vs.lookup n = some v ∧ Dt A K H v d
  | _, _, _, _, .nil, e => by cases e
  | _, _, n, d, .cons (n := m) r t, e => by
    rw [List.lookup_cons] at e ⊢
    cases q : (n == m) with
    | true => rw [q] at e; cases e; exact ⟨_, rfl, r⟩
    | false => rw [q] at e; exact t.look e
theorem DtL.ints : ∀ {vs : List V} {ns : List Int}, DtL A K H vs (ns.map .int) → vs = ns.map V.int
  | _, [], .nil => rfl
  | _, n :: ns, .cons r t => by
    cases r
    rw [List.map_cons, DtL.ints t]
theorem DtL.of_ints : ∀ {ns : List Int}, DtL A K H (ns.map V.int) (ns.map .int)
  | [] => .nil
  | _ :: _ => .cons (.int _) DtL.of_ints
end
/-- a value: data that nobody changes any more (d), or a list, a tuple that is one's own -/
inductive T where
  | d (x : D) | lst (l : List T) | tup (l : List T)
mutual
inductive Own (A : Addr → Prop) (K : PySem.W.Frag) (H : Hp) : V → T → List Addr → Prop
  | d {v x} : Dt A K H v x → Own A K H v (.d x) []
  | lst {a vs l F} : H a = some (.lst vs) → OwnL A K H vs l F → a ∉ F → Own A K H (.ref a) (.lst l) (a :: F)
  | tup {a vs l F} : H a = some (.tup vs) → OwnL A K H vs l F → a ∉ F → Own A K H (.ref a) (.tup l) (a :: F)
inductive OwnL (A : Addr → Prop) (K : PySem.W.Frag) (H : Hp) : List V → List T → List Addr → Prop
  | nil : OwnL A K H [] [] []
  | cons {v vs t ts F G} : Own A K H v t F → OwnL A K H vs ts G → (∀ a ∈ F, a ∉ G) → OwnL A K H (v :: vs) (t :: ts) (F ++ G)
end
mutual
def T.data : T → D
  | .d x => x
  | .lst l => .lst (T.datas l)
  | .tup l => .tup (T.datas l)
def T.datas : List T → List D
  | [] => []
  | t :: l => t.data :: T.datas l
end
theorem T.datas_map : ∀ l : List T, T.datas l = l.map T.data
  | [] => rfl
  | t :: l => by rw [T.datas, T.datas_map l, List.map_cons]
section
variable {K : PySem.W.Frag} {A B : Addr → Prop} {M : List Addr} {H H' : Hp}
mutual
theorem Own.kp (k : Kp M H H') (h : ∀ a, A a → live H a → a ∉ M ∧ B a) : ∀ {v : V} {t : T} {F : List Addr}, Own A K H v t F → (∀ a ∈ F, a ∉ M) → Own B K H' v t F
  | _, _, _, .d r, _ => .d (r.kp k h)
  | _, _, _, .lst e r n, f => .lst (k _ _ (f _ List.mem_cons_self) e) (OwnL.kp k h r fun a z => f a (List.mem_cons_of_mem _ z)) n
  | _, _, _, .tup e r n, f => .tup (k _ _ (f _ List.mem_cons_self) e) (OwnL.kp k h r fun a z => f a (List.mem_cons_of_mem _ z)) n
theorem OwnL.kp (k : Kp M H H') (h : ∀ a, A a → live H a → a ∉ M ∧ B a) : ∀ {v : List V} {t : List T} {F : List Addr}, OwnL A K H v t F → (∀ a ∈ F, a ∉ M) → OwnL B K H' v t F
  | _, _, _, .nil, _ => .nil
  | _, _, _, .cons r t n, f => .cons (Own.kp k h r fun a z => f a (List.mem_append_left _ z)) (OwnL.kp k h t fun a z => f a (List.mem_append_right _ z)) n
end
theorem Own.mono {v t F} (r : Own A K H v t F) (h : ∀ a, A a → live H a → B a) : Own B K H v t F := r.kp (M := []) Kp.refl (fun a x y => ⟨nil_mem, h a x y⟩) fun _ _ => nil_mem
theorem OwnL.mono {v t F} (r : OwnL A K H v t F) (h : ∀ a, A a → live H a → B a) : OwnL B K H v t F := r.kp (M := []) Kp.refl (fun a x y => ⟨nil_mem, h a x y⟩) fun _ _ => nil_mem
mutual
theorem Own.live : ∀ {v : V} {t : T} {F : List Addr}, Own A K H v t F → ∀ a ∈ F, LN.live H a
  | _, _, _, .d _, _, z => by cases z
  | _, _, _, .lst e r _, a, z => by
    rcases List.mem_cons.mp z with rfl | z
    · exact ⟨_, e⟩
    · exact OwnL.live r a z
  | _, _, _, .tup e r _, a, z => by
    rcases List.mem_cons.mp z with rfl | z
    · exact ⟨_, e⟩
    · exact OwnL.live r a z
theorem OwnL.live : ∀ {v : List V} {t : List T} {F : List Addr}, OwnL A K H v t F → ∀ a ∈ F, LN.live H a
  | _, _, _, .nil, _, z => by cases z
  | _, _, _, .cons r t _, a, z => by
    rcases List.mem_append.mp z with z | z
    · exact Own.live r a z
    · exact OwnL.live t a z
end
mutual
/-- as plain data -/
theorem Own.dt (h : ∀ a, A a → B a) : ∀ {v : V} {t : T} {F : List Addr}, Own A K H v t F → (∀ a ∈ F, B a) → Dt B K H v t.data
  | _, _, _, .d r, _ => r.mono fun a x _ => h a x
  | _, _, _, .lst e r _, f => .lst (f _ List.mem_cons_self) e (OwnL.dt h r fun a z => f a (List.mem_cons_of_mem _ z))
  | _, _, _, .tup e r _, f => .tup (.inl ⟨f _ List.mem_cons_self, e⟩) (OwnL.dt h r fun a z => f a (List.mem_cons_of_mem _ z))
theorem OwnL.dt (h : ∀ a, A a → B a) : ∀ {v : List V} {t : List T} {F : List Addr}, OwnL A K H v t F → (∀ a ∈ F, B a) → DtL B K H v (T.datas t)
  | _, _, _, .nil, _ => .nil
  | _, _, _, .cons r t _, f => .cons (Own.dt h r fun a z => f a (List.mem_append_left _ z)) (OwnL.dt h t fun a z => f a (List.mem_append_right _ z))
end
theorem OwnL.length : ∀ {vs : List V} {ts : List T} {F}, OwnL A K H vs ts F → vs.length = ts.length
  | _, _, _, .nil => rfl
  | _, _, _, .cons _ t _ => congrArg Nat.succ t.length
theorem OwnL.append : ∀ {vs us : List V} {ts ss : List T} {F G : List Addr}, OwnL A K H vs ts F → OwnL A K H us ss G → (∀ a ∈ F, a ∉ G) → OwnL A K H (vs ++ us) (ts ++ ss) (F ++ G)
  | _, _, _, _, _, _, .nil, s, _ => s
  | _, _, _, _, _, G, .cons (F := F1) (G := G1) r t n, s, h => by
    rw [List.append_assoc]
    refine .cons r (t.append s fun a z => h a (List.mem_append_right _ z)) fun a z y => ?_
    rcases List.mem_append.mp y with y | y
    · exact n a z y
    · exact h a (List.mem_append_left _ z) y
theorem OwnL.one {v t F} (h : Own A K H v t F) : OwnL A K H [v] [t] F := by
  have := OwnL.cons h .nil fun a _ z => nomatch z
  rwa [List.append_nil] at this
/-- an item, taken out and put back changed -/
theorem OwnL.split : ∀ {vs : List V} {ts : List T} {F : List Addr} {k : Nat} {t : T}, OwnL A K H vs ts F → ts[k]? = some t → ∃ v G, vs[k]? = some v ∧ Own A K H v t G ∧ (∀ b ∈ G, b ∈ F) ∧
    ∀ (N : Addr → Prop) (v' : V) (t' : T) (G' : List Addr) (H' : Hp) (M : List Addr), Kp M H H' → (∀ b ∈ F, b ∉ G → b ∉ M) → (∀ a, A a → LN.live H a → a ∉ M) → Own A K H' v' t' G' → (∀ b ∈ G', b ∈ G ∨ N b) → (∀ b, N b → b ∉ F) →
      ∃ F', OwnL A K H' (vs.set k v') (ts.set k t') F' ∧ ∀ b ∈ F', b ∈ F ∨ N b
  | _, _, _, _, _, .nil, e => by cases e
  | _ :: vs, _ :: ts, _, 0, _, .cons (F := F) (G := G) r q n, e => by
    cases e
    refine ⟨_, F, rfl, r, fun b z => List.mem_append_left _ z, fun N v' t' G' H' M k hM hA o h1 h2 => ⟨G' ++ G, .cons o (q.kp k (fun a x y => ⟨hA a x y, x⟩) fun a z => hM a (List.mem_append_right _ z) fun y => n a y z) fun a z y => ?_, fun b z => ?_⟩⟩
    · rcases h1 a z with z | z
      · exact n a z y
      · exact h2 a z (List.mem_append_right _ y)
    · rcases List.mem_append.mp z with z | z
      · exact (h1 b z).imp_left fun y => List.mem_append_left _ y
      · exact .inl (List.mem_append_right _ z)
  | _ :: vs, _ :: ts, _, k + 1, _, .cons (F := F) (G := G) r q n, e => by
    obtain ⟨v, G1, ev, o1, s1, z1⟩ := q.split (k := k) e
    refine ⟨v, G1, ev, o1, fun b z => List.mem_append_right _ (s1 b z), fun N v' t' G' H' M kk hM hA o h1 h2 => ?_⟩
    obtain ⟨F', o2, s2⟩ := z1 N v' t' G' H' M kk (fun b z y => hM b (List.mem_append_right _ z) y) hA o h1 fun b z y => h2 b z (List.mem_append_right _ y)
    refine ⟨F ++ F', .cons (r.kp kk (fun a x y => ⟨hA a x y, x⟩) fun a z => hM a (List.mem_append_left _ z) fun y => n a z (s1 a y)) o2 fun a z y => ?_, fun b z => ?_⟩
    · rcases s2 a y with y | y
      · exact n a z y
      · exact h2 a y (List.mem_append_left _ z)
    · rcases List.mem_append.mp z with z | z
      · exact .inl (List.mem_append_left _ z)
      · exact (s2 b z).imp_left fun y => List.mem_append_right _ y
end
/-! ### places within one's own -/
def T.at : T → List Nat → Option T
  | t, [] => some t
  | .d _, _ :: _ => none
  | .lst l, k :: p => match l[k]? with
    | some s => s.at p
    | none => none
  | .tup l, k :: p => match l[k]? with
    | some s => s.at p
    | none => none
def T.put : T → List Nat → T → T
  | _, [], s => s
  | .d x, _ :: _, _ => .d x
  | .lst l, k :: p, s => match l[k]? with
    | some u => .lst (l.set k (u.put p s))
    | none => .lst l
  | .tup l, k :: p, s => match l[k]? with
    | some u => .tup (l.set k (u.put p s))
    | none => .tup l
def Walk (H : Hp) : V → List Nat → V → Prop
  | v, [], w => v = w
  | v, k :: p, w => ∃ a vs u, v = .ref a ∧ (H a = some (.lst vs) ∨ H a = some (.tup vs)) ∧ vs[k]? = some u ∧ Walk H u p w
section
variable {K : PySem.W.Frag} {A B : Addr → Prop} {M : List Addr} {H H' : Hp}
theorem Own.walk : ∀ {p : List Nat} {v : V} {t s : T} {F : List Addr}, Own A K H v t F → t.at p = some s → ∃ w G, Walk H v p w ∧ Own A K H w s G ∧ (∀ a ∈ G, a ∈ F) ∧ ∀ H' : Hp, (∀ a ∈ F, H' a = H a) → Walk H' v p w
  | [], v, t, s, F, h, e => by
    cases e
    exact ⟨v, F, rfl, h, fun _ z => z, fun _ _ => rfl⟩
  | k :: p, _, _, s, _, .lst (a := a) (vs := vs) (l := l) (F := F) e1 r n, e => by
    unfold T.at at e
    split at e
    · rename_i u hu
      obtain ⟨v, G, ev, o, sG, _⟩ := r.split hu
      obtain ⟨w, G2, w1, o2, s2, w2⟩ := o.walk e
      exact ⟨w, G2, ⟨a, vs, v, rfl, .inl e1, ev, w1⟩, o2, fun b z => List.mem_cons_of_mem _ (sG b (s2 b z)), fun H' h => ⟨a, vs, v, rfl, .inl ((h a List.mem_cons_self).trans e1), ev, w2 H' fun b z => h b (List.mem_cons_of_mem _ (sG b z))⟩⟩
    · cases e
  | k :: p, _, _, s, _, .tup (a := a) (vs := vs) (l := l) (F := F) e1 r n, e => by
    unfold T.at at e
    split at e
    · rename_i u hu
      obtain ⟨v, G, ev, o, sG, _⟩ := r.split hu
      obtain ⟨w, G2, w1, o2, s2, w2⟩ := o.walk e
      exact ⟨w, G2, ⟨a, vs, v, rfl, .inr e1, ev, w1⟩, o2, fun b z => List.mem_cons_of_mem _ (sG b (s2 b z)), fun H' h => ⟨a, vs, v, rfl, .inr ((h a List.mem_cons_self).trans e1), ev, w2 H' fun b z => h b (List.mem_cons_of_mem _ (sG b z))⟩⟩
    · cases e
  | _ :: _, _, _, _, _, .d _, e => by cases e
theorem Walk.uniq : ∀ {p : List Nat} {v w w' : V}, Walk H v p w → Walk H v p w' → w = w'
  | [], _, _, _, h, h' => h.symm.trans h'
  | _ :: _, _, _, _, ⟨a, vs, u, e1, e2, e3, r⟩, ⟨a', vs', u', e1', e2', e3', r'⟩ => by
    subst e1
    cases e1'
    have e : vs = vs' := by
      rcases e2 with e2 | e2 <;> rcases e2' with e2' | e2' <;> rw [e2] at e2' <;> cases e2' <;> rfl
    subst e
    rw [e3] at e3'
    cases e3'
    exact r.uniq r'
theorem set_self {α : Type} {l : List α} {k : Nat} {x : α} (h : l[k]? = some x) : l.set k x = l := by
  apply List.ext_getElem?
  intro i
  rw [List.getElem?_set]
  split
  · rename_i e
    subst e
    split
    · exact h.symm
    · rename_i n
      rw [List.getElem?_eq_none (Nat.not_lt.mp n)]
  · rfl
/-- a list of one's own, at the place p, changed -/
theorem Own.put : ∀ {p : List Nat} {v : V} {t : T} {l : List T} {F : List Addr} {a : Addr}, Own A K H v t F → t.at p = some (.lst l) → Walk H v p (.ref a) → ¬ A a → ∃ vs G, H a = some (.lst vs) ∧ OwnL A K H vs l G ∧ a ∉ G ∧ a ∈ F ∧ (∀ b ∈ G, b ∈ F) ∧
    ∀ (vs' : List V) (l' : List T) (G' : List Addr) (N : Addr → Prop), OwnL A K H vs' l' G' → a ∉ G' → (∀ b ∈ G', b ∈ G ∨ N b) → (∀ b, N b → b ∉ F) →
      ∃ F', Own A K (upd H a (.lst vs')) v (t.put p (.lst l')) F' ∧ ∀ b ∈ F', b ∈ F ∨ N b
  | [], _, _, l, _, a, h, e, w, nA => by
    cases e
    cases w
    cases h with
    | lst e1 r n =>
      rename_i vs F
      refine ⟨vs, F, e1, r, n, List.mem_cons_self, fun b z => List.mem_cons_of_mem _ z, fun vs' l' G' N o n' h1 h2 => ⟨a :: G', .lst upd_same (o.kp (M := [a]) (Kp.put (by simp)) (fun b x _ => ⟨one_mem fun z => nA (z ▸ x), x⟩) fun b z => one_mem fun y => n' (y ▸ z)) n', fun b z => ?_⟩⟩
      rcases List.mem_cons.mp z with rfl | z
      · exact .inl List.mem_cons_self
      · exact (h1 b z).imp_left fun y => List.mem_cons_of_mem _ y
  | k :: p, _, _, l, _, a, .lst (a := c) (vs := us) (l := ls) (F := F) e1 r n, e, w, nA => by
    unfold T.at at e
    split at e
    · rename_i s hs
      obtain ⟨u, G0, eu, o, sG, re⟩ := r.split hs
      obtain ⟨c', us', u', z1, z2, z3, w⟩ := w
      cases z1
      rw [e1] at z2
      have : us' = us := by rcases z2 with z2 | z2 <;> cases z2; rfl
      subst this
      rw [eu] at z3
      cases z3
      obtain ⟨vs, G, q1, q2, q3, q4, q5, q6⟩ := o.put e w nA
      have ca : c ≠ a := fun z => n (z ▸ sG _ q4)
      refine ⟨vs, G, q1, q2, q3, List.mem_cons_of_mem _ (sG _ q4), fun b z => List.mem_cons_of_mem _ (sG b (q5 b z)), fun vs' l' G' N o' n' h1 h2 => ?_⟩
      obtain ⟨F2, o2, s2⟩ := q6 vs' l' G' N o' n' h1 fun b z y => h2 b z (List.mem_cons_of_mem _ (sG b y))
      obtain ⟨F3, o3, s3⟩ := re N u _ F2 _ [a] (Kp.put (by simp)) (fun b z y => one_mem fun x => y (x ▸ q4)) (fun b x _ => one_mem fun z => nA (z ▸ x)) o2 s2 fun b z y => h2 b z (List.mem_cons_of_mem _ y)
      rw [set_self eu] at o3
      refine ⟨c :: F3, ?_, fun b z => ?_⟩
      · unfold T.put
        rw [hs]
        refine .lst (at_upd ca e1) o3 fun z => ?_
        rcases s3 c z with z | z
        · exact n z
        · exact h2 c z List.mem_cons_self
      · rcases List.mem_cons.mp z with rfl | z
        · exact .inl List.mem_cons_self
        · exact (s3 b z).imp_left fun y => List.mem_cons_of_mem _ y
    · cases e
  | k :: p, _, _, l, _, a, .tup (a := c) (vs := us) (l := ls) (F := F) e1 r n, e, w, nA => by
    unfold T.at at e
    split at e
    · rename_i s hs
      obtain ⟨u, G0, eu, o, sG, re⟩ := r.split hs
      obtain ⟨c', us', u', z1, z2, z3, w⟩ := w
      cases z1
      rw [e1] at z2
      have : us' = us := by rcases z2 with z2 | z2 <;> cases z2; rfl
      subst this
      rw [eu] at z3
      cases z3
      obtain ⟨vs, G, q1, q2, q3, q4, q5, q6⟩ := o.put e w nA
      have ca : c ≠ a := fun z => n (z ▸ sG _ q4)
      refine ⟨vs, G, q1, q2, q3, List.mem_cons_of_mem _ (sG _ q4), fun b z => List.mem_cons_of_mem _ (sG b (q5 b z)), fun vs' l' G' N o' n' h1 h2 => ?_⟩
      obtain ⟨F2, o2, s2⟩ := q6 vs' l' G' N o' n' h1 fun b z y => h2 b z (List.mem_cons_of_mem _ (sG b y))
      obtain ⟨F3, o3, s3⟩ := re N u _ F2 _ [a] (Kp.put (by simp)) (fun b z y => one_mem fun x => y (x ▸ q4)) (fun b x _ => one_mem fun z => nA (z ▸ x)) o2 s2 fun b z y => h2 b z (List.mem_cons_of_mem _ y)
      rw [set_self eu] at o3
      refine ⟨c :: F3, ?_, fun b z => ?_⟩
      · unfold T.put
        rw [hs]
        refine .tup (at_upd ca e1) o3 fun z => ?_
        rcases s3 c z with z | z
        · exact n z
        · exact h2 c z List.mem_cons_self
      · rcases List.mem_cons.mp z with rfl | z
        · exact .inl List.mem_cons_self
        · exact (s3 b z).imp_left fun y => List.mem_cons_of_mem _ y
    · cases e
  | _ :: _, _, _, _, _, _, .d _, e, _, _ => by cases e
end
end LN
namespace LN
open PySem PySem.Spec PyProof.Rows L2
/-! ### a def's slots and passing values, as data -/
inductive Cell where
  | t (x : T) | pl (j : Nat) (p : List Nat) | sto | dead | exc (a : Addr) (d : Option Addr) (fs : List (Str × V)) | ins (a dx C : Addr) (fs : List (Str × D))
/-- what stays through a def: the store (at p; its things M), what was handed over (A), the heap at the start, n slots; how errors are taken, and which may come -/
structure Fr where
  K : PySem.W.Frag
  M : List Addr
  A : Addr → Prop
  H0 : Hp
  S : Hp → Prop
  p : Addr
  n : Nat
  W : WX
  xc : Addr → List (Str × V) → List Cell → Prop
/-- S speaks of M's things and of what stood at the start -/
def Fr.Ok (f : Fr) : Prop := ∀ H H' : Hp, f.S H → (∀ b, b ∈ f.M ∨ live f.H0 b → H' b = H b) → f.S H'
def Fz (f : Fr) (g : Addr → Nat) (a : Addr) : Prop := g a = 0 ∧ a ∉ f.M ∧ (f.A a ∨ f.H0 a = none)
/-- .. and new since the start -/
def FzN (f : Fr) (g : Addr → Nat) (a : Addr) : Prop := Fz f g a ∧ f.H0 a = none
def T.node : T → Bool
  | .d _ => false
  | _ => true
def CellAt (f : Fr) (g : Addr → Nat) (cs : List Cell) (us : List (Option V)) (H : Hp) (i : Nat) : Cell → Option V → Prop
  | .t x, some v => ∃ F, Own (Fz f g) f.K H v x F ∧ ∀ a ∈ F, g a = i + 1
  | .pl j p, some v => j < f.n ∧ ∃ x s w, cs[j]? = some (.t x) ∧ x.at p = some s ∧ s.node = true ∧ us[j]? = some (some w) ∧ Walk H w p v
  | .sto, some v => v = .ref f.p
  | .exc a d fs, some v => v = .ref a ∧ ((fs = [] ∧ d = none) ∨ (fs ≠ [] ∧ ∃ dd, d = some dd ∧ g dd = 0 ∧ dd ∉ f.M ∧ H dd = some (.xd fs)))
  | .exc _ _ _, none => False
  | .ins a dx C fs, some v => ∃ vs, v = .ref a ∧ a ≠ dx ∧ H a = some (.ins C dx vs) ∧ H dx = some (.own a) ∧ DtF (FzN f g) f.K H vs fs ∧ g a = i + 1 ∧ g dx = i + 1
  | .ins _ _ _ _, none => False
  | .dead, _ => True
  | .t _, none => False
  | .pl _ _, none => False
  | .sto, none => False
structure RepG (f : Fr) (g : Addr → Nat) (cs : List Cell) (us : List (Option V)) (H : Hp) : Prop where
  kp : Kp f.M f.H0 H
  ml : ∀ b ∈ f.M, live H b
  st : f.S H
  gg : ∀ a, g a ≠ 0 → f.H0 a = none ∧ a ∉ f.M ∧ live H a
  len : cs.length = us.length
  at_ : ∀ i c u, cs[i]? = some c → us[i]? = some u → CellAt f g cs us H i c u
def Rep (f : Fr) (cs : List Cell) (us : List (Option V)) (H : Hp) : Prop := ∃ g, RepG f g cs us H
/-- no place within slot i is held -/
def noPl (i : Nat) (cs : List Cell) : Prop := ∀ c ∈ cs, ∀ j p, c = .pl j p → j ≠ i
section
variable {f : Fr} {g : Addr → Nat} {cs : List Cell} {us : List (Option V)} {H H' : Hp}
theorem RepG.cell (R : RepG f g cs us H) {i : Nat} {c : Cell} (e : cs[i]? = some c) : ∃ u, us[i]? = some u ∧ CellAt f g cs us H i c u := by
  have hi : i < us.length := R.len ▸ (List.getElem?_eq_some_iff.mp e).1
  exact ⟨us[i], List.getElem?_eq_getElem hi, R.at_ _ _ _ e (List.getElem?_eq_getElem hi)⟩
theorem RepG.tcell (R : RepG f g cs us H) {i : Nat} {x : T} (e : cs[i]? = some (.t x)) : ∃ v F, us[i]? = some (some v) ∧ Own (Fz f g) f.K H v x F ∧ ∀ a ∈ F, g a = i + 1 := by
  obtain ⟨u, e1, h⟩ := R.cell e
  cases u with
  | none => cases h
  | some v =>
    obtain ⟨F, h1, h2⟩ := h
    exact ⟨v, F, e1, h1, h2⟩
theorem RepG.own_nM (R : RepG f g cs us H) {i : Nat} {F : List Addr} (h : ∀ a ∈ F, g a = i + 1) : ∀ a ∈ F, a ∉ f.M := fun a z => (R.gg a (by rw [h a z]; omega)).2.1
/-- the heap grows, or the store is asked: what is held stays -/
theorem CellAt.step {g' : Addr → Nat} (R : RepG f g cs us H) (k : Kp f.M H H') (hg : ∀ a, live H a → g a ≤ cs.length → g' a = g a) {i : Nat} {c : Cell} {u : Option V} (hi : i < cs.length) (h : CellAt f g cs us H i c u) : CellAt f g' cs us H' i c u := by
  match c, u, h with
  | .t x, some v, ⟨F, h1, h2⟩ =>
    exact ⟨F, h1.kp k (fun a z l => ⟨z.2.1, (hg a l (by rw [z.1]; omega)).trans z.1, z.2⟩) (R.own_nM h2), fun a z => (hg a (h1.live a z) (by rw [h2 a z]; omega)).trans (h2 a z)⟩
  | .pl j p, some v, ⟨jn, x, s, w, e1, e2, e3, e4, e5⟩ =>
    obtain ⟨v', F, z1, z2, z3⟩ := R.tcell e1
    rw [e4] at z1
    cases z1
    obtain ⟨w', G, y1, y2, y3, y4⟩ := z2.walk e2
    refine ⟨jn, x, s, w, e1, e2, e3, e4, ?_⟩
    rw [Walk.uniq e5 y1]
    refine y4 H' fun a z => ?_
    obtain ⟨o, eo⟩ := z2.live a z
    rw [eo]
    exact k _ _ (R.own_nM z3 a z) eo
  | .sto, some v, h => exact h
  | .exc a d fs, some v, ⟨h1, h2⟩ =>
    refine ⟨h1, h2.imp id fun ⟨n, dd, e, z1, z2, z3⟩ => ⟨n, dd, e, (hg dd ⟨_, z3⟩ (by rw [z1]; omega)).trans z1, z2, k _ _ z2 z3⟩⟩
  | .ins a dx C fs, some v, ⟨vs, e, ne, h1, h2, r, ga, gd⟩ =>
    exact ⟨vs, e, ne, k _ _ (R.gg a (by omega)).2.1 h1, k _ _ (R.gg dx (by omega)).2.1 h2, r.kp k fun b z l => ⟨z.1.2.1, ⟨(hg b l (by rw [z.1.1]; omega)).trans z.1.1, z.1.2⟩, z.2⟩, (hg a ⟨_, h1⟩ (by omega)).trans ga, (hg dx ⟨_, h2⟩ (by omega)).trans gd⟩
  | .dead, _, _ => exact trivial
theorem RepG.step {g' : Addr → Nat} (R : RepG f g cs us H) (k : Kp f.M H H') (ml : ∀ b ∈ f.M, live H' b) (st : f.S H') (hg : ∀ a, live H a → g a ≤ cs.length → g' a = g a) (hn : ∀ a, g' a ≠ 0 → g a ≠ 0 ∨ (H a = none ∧ a ∉ f.M ∧ live H' a)) : RepG f g' cs us H' where
  kp := R.kp.trans k
  ml := ml
  st := st
  gg := fun a z => by
    rcases hn a z with l | ⟨e, n, l⟩
    · have := R.gg a l
      exact ⟨this.1, this.2.1, this.2.2.kp k this.2.1⟩
    · exact ⟨R.kp.free n e, n, l⟩
  len := R.len
  at_ := fun i c u e1 e2 => (R.at_ i c u e1 e2).step R k hg (List.getElem?_eq_some_iff.mp e1).1
/-- a new object at p (nobody's) -/
theorem RepG.new (ok : f.Ok) (R : RepG f g cs us H) {p : Addr} {o : HO} (hp : H p = none) : RepG f g cs us (upd H p o) :=
  R.step (Kp.new hp) (fun b z => (R.ml b z).kp (Kp.new (M := []) hp) nil_mem) (ok _ _ R.st fun b z => upd_ne fun e => by
    have : live H b := by
      rcases z with z | z
      · exact R.ml b z
      · by_cases m : b ∈ f.M
        · exact R.ml b m
        · exact z.kp R.kp m
    obtain ⟨u, eu⟩ := this
    rw [e, hp] at eu
    cases eu) (fun _ _ _ => rfl) fun a z => .inl z
theorem CellAt.grow {i : Nat} {c : Cell} {u : Option V} {c' : List Cell} {u' : List (Option V)} (h : CellAt f g cs us H i c u) : CellAt f g (cs ++ c') (us ++ u') H i c u := by
  match c, u, h with
  | .t x, some v, h => exact h
  | .pl j p, some v, ⟨jn, x, s, w, e1, e2, e3, e4, e5⟩ => exact ⟨jn, x, s, w, by rw [List.getElem?_append_left (List.getElem?_eq_some_iff.mp e1).1]; exact e1, e2, e3, by rw [List.getElem?_append_left (List.getElem?_eq_some_iff.mp e4).1]; exact e4, e5⟩
  | .sto, some v, h => exact h
  | .exc _ _ _, some v, h => exact h
  | .ins _ _ _ _, some v, h => exact h
  | .dead, _, _ => exact trivial
theorem CellAt.cut {i : Nat} {c : Cell} {u : Option V} {c' : List Cell} {u' : List (Option V)} (hn : f.n ≤ cs.length) (hl : cs.length = us.length) (h : CellAt f g (cs ++ c') (us ++ u') H i c u) : CellAt f g cs us H i c u := by
  match c, u, h with
  | .t x, some v, h => exact h
  | .pl j p, some v, ⟨jn, x, s, w, e1, e2, e3, e4, e5⟩ =>
    rw [List.getElem?_append_left (by omega)] at e1 e4
    exact ⟨jn, x, s, w, e1, e2, e3, e4, e5⟩
  | .sto, some v, h => exact h
  | .exc _ _ _, some v, h => exact h
  | .ins _ _ _ _, some v, h => exact h
  | .dead, _, _ => exact trivial
theorem RepG.push (R : RepG f g cs us H) {c : Cell} {v : V} (h : CellAt f g cs us H cs.length c (some v)) : RepG f g (cs ++ [c]) (us ++ [some v]) H where
  kp := R.kp
  ml := R.ml
  st := R.st
  gg := R.gg
  len := by simp [R.len]
  at_ := fun i d u e1 e2 => by
    rcases Nat.lt_or_ge i cs.length with l | l
    · rw [List.getElem?_append_left l] at e1
      rw [List.getElem?_append_left (R.len ▸ l)] at e2
      exact (R.at_ i d u e1 e2).grow
    · have : i = cs.length := by
        have := (List.getElem?_eq_some_iff.mp e1).1
        simp at this
        omega
      subst this
      rw [List.getElem?_append_right (Nat.le_refl _), Nat.sub_self] at e1
      rw [R.len, List.getElem?_append_right (Nat.le_refl _), Nat.sub_self] at e2
      cases e1
      cases e2
      exact h.grow
theorem RepG.cut {c' : List Cell} {u' : List (Option V)} (hl : cs.length = us.length) (hn : f.n ≤ cs.length) (R : RepG f g (cs ++ c') (us ++ u') H) : RepG f g cs us H where
  kp := R.kp
  ml := R.ml
  st := R.st
  gg := R.gg
  len := hl
  at_ := fun i d u e1 e2 => (R.at_ i d u (by rw [List.getElem?_append_left (List.getElem?_eq_some_iff.mp e1).1]; exact e1) (by rw [List.getElem?_append_left (List.getElem?_eq_some_iff.mp e2).1]; exact e2)).cut hn hl
/-- slot i gets another cell (g changes only at the old one's things and at those of the new one) -/
theorem RepG.set {g' : Addr → Nat} (R : RepG f g cs us H) {i : Nat} {c : Cell} {u : Option V} (np : noPl i cs) (hi : i < cs.length) (hg : ∀ a, g' a ≠ g a → g a = i + 1 ∨ g a = 0) (hz : ∀ a, g' a ≠ 0 → f.H0 a = none ∧ a ∉ f.M ∧ live H a) (hf : ∀ a, g a = 0 → live H a → g' a = 0)
    (h : CellAt f g' (cs.set i c) (us.set i u) H i c u) : RepG f g' (cs.set i c) (us.set i u) H where
  kp := R.kp
  ml := R.ml
  st := R.st
  gg := hz
  len := by simp [R.len]
  at_ := fun j d w e1 e2 => by
    by_cases e : i = j
    · subst e
      rw [List.getElem?_set_self hi] at e1
      rw [List.getElem?_set_self (R.len ▸ hi)] at e2
      cases e1
      cases e2
      exact h
    · rw [List.getElem?_set_ne e] at e1 e2
      have h0 := R.at_ j d w e1 e2
      match d, w, h0 with
      | .t x, some v, ⟨F, h1, h2⟩ =>
        refine ⟨F, h1.mono fun a z l => ⟨hf a z.1 l, z.2⟩, fun a z => ?_⟩
        have h3 := h2 a z
        by_cases q : g' a = g a
        · exact q.trans h3
        · rcases hg a q with y | y <;> omega
      | .pl j' p, some v, ⟨jn, x, s, w', q1, q2, q3, q4, q5⟩ =>
        have ne := np _ (List.mem_of_getElem? e1) j' p rfl
        exact ⟨jn, x, s, w', by rw [List.getElem?_set_ne (Ne.symm ne)]; exact q1, q2, q3, by rw [List.getElem?_set_ne (Ne.symm ne)]; exact q4, q5⟩
      | .sto, some v, h => exact h
      | .exc a d fs, some v, ⟨h1, h2⟩ => exact ⟨h1, h2.imp id fun ⟨n, dd, e, z1, z2, z3⟩ => ⟨n, dd, e, hf dd z1 ⟨_, z3⟩, z2, z3⟩⟩
      | .ins a dx C fs, some v, ⟨vs, e', ne, h1, h2, r, ga, gd⟩ =>
        have same : ∀ b, g b = j + 1 → g' b = j + 1 := fun b h3 => by
          by_cases q : g' b = g b
          · exact q.trans h3
          · rcases hg b q with y | y <;> omega
        exact ⟨vs, e', ne, h1, h2, r.kp (M := []) Kp.refl fun b z l => ⟨nil_mem, ⟨hf b z.1.1 l, z.1.2⟩, z.2⟩, same a ga, same dx gd⟩
      | .dead, _, _ => exact trivial
/-- slot i's things are nobody's any more -/
theorem RepG.freeze (R : RepG f g cs us H) {i : Nat} {x : T} (np : noPl i cs) (e : cs[i]? = some (.t x)) : Rep f (cs.set i (.t (.d x.data))) us H := by
  obtain ⟨v, F, e1, h1, h2⟩ := R.tcell e
  have hi := (List.getElem?_eq_some_iff.mp e).1
  have hs : us.set i (some v) = us := set_self e1
  refine ⟨fun a => if g a = i + 1 then 0 else g a, hs ▸ R.set (c := .t (.d x.data)) (u := some v) np hi (fun a z => ?_) (fun a z => ?_) (fun a z _ => by rw [if_neg (by omega)]; exact z) ⟨[], .d (h1.dt (fun a z => ⟨?_, z.2⟩) fun a z => ?_), fun a z => by cases z⟩⟩
  · by_cases q : g a = i + 1
    · exact .inl q
    · rw [if_neg q] at z
      exact absurd rfl z
  · by_cases q : g a = i + 1
    · rw [if_pos q] at z
      exact absurd rfl z
    · rw [if_neg q] at z
      exact R.gg a z
  · have q := h2 a z
    have y := R.gg a (by omega)
    exact ⟨if_pos q, y.2.1, .inr y.1⟩
  · have q : ¬ g a = i + 1 := by rw [z.1]; omega
    exact (if_neg q).trans z.1
theorem RepG.kill (R : RepG f g cs us H) {i : Nat} (np : noPl i cs) (hi : i < cs.length) : RepG f g (cs.set i .dead) us H := by
  have hu : i < us.length := R.len ▸ hi
  have hs : us.set i us[i] = us := set_self (List.getElem?_eq_getElem hu)
  exact hs ▸ R.set (c := .dead) (u := us[i]) np hi (fun a z => absurd rfl z) R.gg (fun _ z _ => z) trivial
/-- the last value moves to slot i -/
theorem RepG.move (R : RepG f g (cs ++ [.t x]) (us ++ [some v]) H) (hl : cs.length = us.length) {i : Nat} (hn : f.n ≤ cs.length) (np : noPl i cs) (hi : i < cs.length) : Rep f (cs.set i (.t x)) (us.set i (some v)) H := by
  obtain ⟨v', F, e1, h1, h2⟩ := R.tcell (i := cs.length) (x := x) (by rw [List.getElem?_append_right (Nat.le_refl _), Nat.sub_self]; rfl)
  rw [hl, List.getElem?_append_right (Nat.le_refl _), Nat.sub_self] at e1
  cases e1
  have R0 := R.cut hl hn
  -- first the old things of slot i are left, then the new ones get i's mark
  have key : ∀ a, g a = cs.length + 1 → g a ≠ i + 1 := fun a z => by omega
  let g1 : Addr → Nat := fun a => if g a = cs.length + 1 then 0 else if g a = i + 1 then 0 else g a
  let g2 : Addr → Nat := fun a => if g a = cs.length + 1 then i + 1 else if g a = i + 1 then 0 else g a
  refine ⟨g2, ?_⟩
  have len2 : (cs.set i (.t x)).length = (us.set i (some v)).length := by simp [hl]
  refine ⟨R.kp, R.ml, R.st, fun a z => ?_, len2, fun j d w q1 q2 => ?_⟩
  · refine R.gg a fun y => z ?_
    show (if g a = cs.length + 1 then i + 1 else if g a = i + 1 then 0 else g a) = 0
    rw [if_neg (by omega), if_neg (by omega)]
    exact y
  · have fz : ∀ a, Fz f g a → live H a → Fz f g2 a := fun a z _ => ⟨by
      show (if g a = cs.length + 1 then i + 1 else if g a = i + 1 then 0 else g a) = 0
      rw [if_neg (by rw [z.1]; omega), if_neg (by rw [z.1]; omega)]
      exact z.1, z.2⟩
    by_cases e : i = j
    · subst e
      rw [List.getElem?_set_self hi] at q1
      rw [List.getElem?_set_self (hl ▸ hi)] at q2
      cases q1
      cases q2
      exact ⟨F, h1.mono fz, fun a z => by
        show (if g a = cs.length + 1 then i + 1 else if g a = i + 1 then 0 else g a) = i + 1
        rw [if_pos (h2 a z)]⟩
    · rw [List.getElem?_set_ne e] at q1 q2
      have hj : j < cs.length := (List.getElem?_eq_some_iff.mp q1).1
      have h0 := R0.at_ j d w q1 q2
      match d, w, h0 with
      | .t y, some u, ⟨G, o1, o2⟩ =>
        exact ⟨G, o1.mono fz, fun a z => by
          show (if g a = cs.length + 1 then i + 1 else if g a = i + 1 then 0 else g a) = j + 1
          rw [if_neg (by rw [o2 a z]; omega), if_neg (by rw [o2 a z]; omega)]
          exact o2 a z⟩
      | .pl j' p, some u, ⟨jn, y, s, w', y1, y2, y3, y4, y5⟩ =>
        have ne := np _ (List.mem_of_getElem? q1) j' p rfl
        exact ⟨jn, y, s, w', by rw [List.getElem?_set_ne (Ne.symm ne)]; exact y1, y2, y3, by rw [List.getElem?_set_ne (Ne.symm ne)]; exact y4, y5⟩
      | .sto, some u, h => exact h
      | .exc a d fs, some u, ⟨y1, y2⟩ => exact ⟨y1, y2.imp id fun ⟨n, dd, e, z1, z2, z3⟩ => ⟨n, dd, e, by
          show (if g dd = cs.length + 1 then i + 1 else if g dd = i + 1 then 0 else g dd) = 0
          rw [if_neg (by omega), if_neg (by omega)]
          exact z1, z2, z3⟩⟩
      | .ins a dx C fs, some u, ⟨vs, e', ne, h1, h2, r, ga, gd⟩ =>
        have same : ∀ b, g b = j + 1 → g2 b = j + 1 := fun b h3 => by
          show (if g b = cs.length + 1 then i + 1 else if g b = i + 1 then 0 else g b) = j + 1
          rw [if_neg (by omega), if_neg (by omega)]
          exact h3
        exact ⟨vs, e', ne, h1, h2, r.kp (M := []) Kp.refl fun b z l => ⟨nil_mem, fz b z.1 l, z.2⟩, same a ga, same dx gd⟩
      | .dead, _, _ => exact trivial
/-- slot i's value becomes the last one -/
theorem RepG.out (R : RepG f g cs us H) {i : Nat} {x : T} (np : noPl i cs) (e : cs[i]? = some (.t x)) : ∃ v, us[i]? = some (some v) ∧ Rep f (cs.set i .dead ++ [.t x]) (us ++ [some v]) H := by
  obtain ⟨v, F, e1, h1, h2⟩ := R.tcell e
  have hi := (List.getElem?_eq_some_iff.mp e).1
  refine ⟨v, e1, fun a => if g a = i + 1 then cs.length + 1 else g a, ?_⟩
  have fz : ∀ a, Fz f g a → live H a → Fz f (fun a => if g a = i + 1 then cs.length + 1 else g a) a := fun a z _ => ⟨by dsimp only; rw [if_neg (by rw [z.1]; omega)]; exact z.1, z.2⟩
  refine ⟨R.kp, R.ml, R.st, fun a z => R.gg a fun y => z ?_, by simp [R.len], fun j d w q1 q2 => ?_⟩
  · rw [if_neg (by omega)]
    exact y
  · rcases Nat.lt_or_ge j cs.length with l | l
    · rw [List.getElem?_append_left (by simpa using l)] at q1
      rw [List.getElem?_append_left (R.len ▸ l)] at q2
      by_cases ij : i = j
      · subst ij
        rw [List.getElem?_set_self hi] at q1
        cases q1
        exact trivial
      · rw [List.getElem?_set_ne ij] at q1
        have h0 := R.at_ j d w q1 q2
        match d, w, h0 with
        | .t y, some u, ⟨G, o1, o2⟩ =>
          exact ⟨G, o1.mono fz, fun a z => by
            dsimp only
            rw [if_neg (by rw [o2 a z]; omega)]
            exact o2 a z⟩
        | .pl j' p, some u, ⟨jn, y, s, w', y1, y2, y3, y4, y5⟩ =>
          have ne := np _ (List.mem_of_getElem? q1) j' p rfl
          exact ⟨jn, y, s, w', by rw [List.getElem?_append_left (by simpa using (List.getElem?_eq_some_iff.mp y1).1), List.getElem?_set_ne (Ne.symm ne)]; exact y1, y2, y3, by rw [List.getElem?_append_left (List.getElem?_eq_some_iff.mp y4).1]; exact y4, y5⟩
        | .sto, some u, h => exact h
        | .exc a d fs, some u, ⟨y1, y2⟩ => exact ⟨y1, y2.imp id fun ⟨n, dd, e, z1, z2, z3⟩ => ⟨n, dd, e, by
            show (if g dd = i + 1 then cs.length + 1 else g dd) = 0
            rw [if_neg (by omega)]
            exact z1, z2, z3⟩⟩
        | .ins a dx C fs, some u, ⟨vs, e', ne, h1, h2, r, ga, gd⟩ =>
          have same : ∀ b, g b = j + 1 → (if g b = i + 1 then cs.length + 1 else g b) = j + 1 := fun b h3 => by
            rw [if_neg (by omega)]
            exact h3
          exact ⟨vs, e', ne, h1, h2, r.kp (M := []) Kp.refl fun b z l => ⟨nil_mem, fz b z.1 l, z.2⟩, same a ga, same dx gd⟩
        | .dead, _, _ => exact trivial
    · have : j = cs.length := by
        have := (List.getElem?_eq_some_iff.mp q1).1
        simp at this
        omega
      subst this
      rw [List.getElem?_append_right (by simp), List.length_set, Nat.sub_self] at q1
      rw [R.len, List.getElem?_append_right (Nat.le_refl _), Nat.sub_self] at q2
      cases q1
      cases q2
      exact ⟨F, h1.mono fz, fun a z => by
        dsimp only
        rw [if_pos (h2 a z)]⟩
/-- the last values, all one's own, as one row -/
theorem RepG.args : ∀ {xs : List T} {cs : List Cell} {us : List (Option V)} {vs : List V}, RepG f g (cs ++ xs.map Cell.t) (us ++ vs.map some) H → cs.length = us.length → ∃ F, OwnL (Fz f g) f.K H vs xs F ∧ ∀ a ∈ F, cs.length < g a
  | [], cs, us, vs, R, hl => by
    have := R.len
    simp only [List.map_nil, List.append_nil, List.length_append, List.length_map] at this
    have : vs = [] := List.length_eq_zero_iff.mp (by omega)
    subst this
    exact ⟨[], .nil, fun _ z => nomatch z⟩
  | x :: xs, cs, us, [], R, hl => by
    have := R.len
    simp at this
    omega
  | x :: xs, cs, us, v :: vs, R, hl => by
    have R' : RepG f g ((cs ++ [.t x]) ++ xs.map Cell.t) ((us ++ [some v]) ++ vs.map some) H := by
      rw [List.append_assoc, List.append_assoc]
      exact R
    obtain ⟨G, o2, h2⟩ := R'.args (by simp [hl])
    obtain ⟨v', F, e1, o1, h1⟩ := R.tcell (i := cs.length) (x := x) (by rw [List.getElem?_append_right (Nat.le_refl _), Nat.sub_self]; rfl)
    rw [hl, List.getElem?_append_right (Nat.le_refl _), Nat.sub_self] at e1
    cases e1
    simp only [List.length_append, List.length_cons, List.length_nil] at h2
    refine ⟨F ++ G, .cons o1 o2 fun a z y => ?_, fun a z => ?_⟩
    · have q1 := h1 a z
      have q2 := h2 a y
      omega
    · rcases List.mem_append.mp z with z | z
      · have := h1 a z
        omega
      · have := h2 a z
        omega
/-- .. packed into a new object -/
theorem RepG.pack (ok : f.Ok) {xs : List T} {vs : List V} {p : Addr} (R : RepG f g (cs ++ xs.map Cell.t) (us ++ vs.map some) H) (hl : cs.length = us.length) (hn : f.n ≤ cs.length) (hp : H p = none) (b : Bool) :
    Rep f (cs ++ [.t (if b then .lst xs else .tup xs)]) (us ++ [some (.ref p)]) (upd H p (if b then .lst vs else .tup vs)) := by
  obtain ⟨F, o, hF⟩ := R.args hl
  have R0 := R.cut hl hn
  let g' : Addr → Nat := fun a => if a = p then cs.length + 1 else if cs.length < g a then cs.length + 1 else g a
  have kn := Kp.new (M := f.M) (o := if b then .lst vs else .tup vs) hp
  have Rn := R0.new ok (o := if b then .lst vs else .tup vs) hp
  have np : ∀ a, live H a → a ≠ p := fun a ⟨o, e⟩ z => by rw [z, hp] at e; cases e
  have R1 : RepG f g' cs us (upd H p (if b then .lst vs else .tup vs)) := R0.step kn Rn.ml Rn.st (fun a l z => by
    show (if a = p then cs.length + 1 else if cs.length < g a then cs.length + 1 else g a) = g a
    rw [if_neg (np a l), if_neg (by omega)]) fun a z => by
      by_cases q : a = p
      · subst q
        refine .inr ⟨hp, fun m => ?_, _, upd_same⟩
        obtain ⟨o, e⟩ := R.ml a m
        rw [hp] at e
        cases e
      · refine .inl fun y => z ?_
        show (if a = p then cs.length + 1 else if cs.length < g a then cs.length + 1 else g a) = 0
        rw [if_neg q, if_neg (by omega)]
        exact y
  refine ⟨g', R1.push ?_⟩
  have o' : OwnL (Fz f g') f.K (upd H p (if b then .lst vs else .tup vs)) vs xs F := o.kp (M := []) (Kp.new hp) (fun a z l => ⟨nil_mem, by
    show (if a = p then cs.length + 1 else if cs.length < g a then cs.length + 1 else g a) = 0
    rw [if_neg (np a l), if_neg (by rw [z.1]; omega)]
    exact z.1, z.2⟩) fun _ _ => nil_mem
  have pF : p ∉ F := fun z => np p (o.live p z) rfl
  refine ⟨p :: F, ?_, fun a z => ?_⟩
  · cases b with
    | true => exact .lst upd_same o' pF
    | false => exact .tup upd_same o' pF
  · show (if a = p then cs.length + 1 else if cs.length < g a then cs.length + 1 else g a) = _
    rcases List.mem_cons.mp z with rfl | z
    · rw [if_pos rfl]
    · rw [if_neg (fun (q : a = p) => pF (q ▸ z)), if_pos (hF a z)]
/-- how a list's change looks from both sides: with one more value v (x) -/
def LOp (opV : List V → List V) (opT : List T → List T) (v : V) (x : T) : Prop := ∀ (A : Addr → Prop) (K : PySem.W.Frag) (H : Hp) (vs : List V) (l : List T) (G F : List Addr), OwnL A K H vs l G → Own A K H v x F → (∀ a ∈ G, a ∉ F) → ∃ G', OwnL A K H (opV vs) (opT l) G' ∧ ∀ b ∈ G', b ∈ G ∨ b ∈ F
theorem RepG.mutate (ok : f.Ok) {x y : T} {v w : V} {i : Nat} {p : List Nat} {l : List T} {a : Addr} {opV : List V → List V} {opT : List T → List T} {mid : List Cell} {mu : List (Option V)} (R : RepG f g ((cs ++ mid) ++ [.t x]) ((us ++ mu) ++ [some v]) H) (hl : cs.length = us.length) (hm : mid.length = mu.length) (hn : f.n ≤ cs.length) (np : noPl i cs)
    (e : cs[i]? = some (.t y)) (ea : y.at p = some (.lst l)) (ew : us[i]? = some (some w)) (wk : Walk H w p (.ref a)) (op : LOp opV opT v x) : ∃ vs, H a = some (.lst vs) ∧ vs.length = l.length ∧ Rep f (cs.set i (.t (y.put p (.lst (opT l))))) us (upd H a (.lst (opV vs))) := by
  have hlm : (cs ++ mid).length = (us ++ mu).length := by simp [hl, hm]
  have R0 : RepG f g cs us H := RepG.cut (c' := mid ++ [.t x]) (u' := mu ++ [some v]) hl hn (by rw [← List.append_assoc, ← List.append_assoc]; exact R)
  have hle : cs.length ≤ (cs ++ mid).length := by simp
  obtain ⟨v', Fx, e1, ox, hx⟩ := R.tcell (i := (cs ++ mid).length) (x := x) (by rw [List.getElem?_append_right (Nat.le_refl _), Nat.sub_self]; rfl)
  rw [hlm, List.getElem?_append_right (Nat.le_refl _), Nat.sub_self] at e1
  cases e1
  obtain ⟨w', F, e2, oy, hy⟩ := R0.tcell e
  rw [ew] at e2
  cases e2
  have hi : i < cs.length := (List.getElem?_eq_some_iff.mp e).1
  have yz : ∀ b ∈ F, ¬ Fz f g b := fun b z q => by have := hy b z; have := q.1; omega
  have nF : ∀ b ∈ Fx, b ∉ F := fun b z y => by have := hx b z; have := hy b y; omega
  have aF : a ∈ F := by
    obtain ⟨w1, G1, q1, q2, q3, _⟩ := oy.walk ea
    have := Walk.uniq wk q1
    subst this
    cases q2 with
    | lst _ _ _ => exact q3 _ List.mem_cons_self
  obtain ⟨vs, G, z1, z2, z3, z4, z5, z6⟩ := oy.put ea wk (yz a aF)
  obtain ⟨G', o3, s3⟩ := op _ _ _ _ _ _ _ z2 ox fun b z y => nF b y (z5 b z)
  obtain ⟨F', o4, s4⟩ := z6 (opV vs) (opT l) G' (fun b => b ∈ Fx) o3 (fun z => (s3 a z).elim z3 fun y => nF a y aF) s3 fun b z => nF b z
  have ga := R0.gg a (by rw [hy a aF]; omega)
  refine ⟨vs, z1, z2.length, fun b => if g b = (cs ++ mid).length + 1 then i + 1 else g b, ?_⟩
  have fz : ∀ b, Fz f g b → Fz f (fun b => if g b = (cs ++ mid).length + 1 then i + 1 else g b) b := fun b z => ⟨by
    have q : ¬ g b = (cs ++ mid).length + 1 := by rw [z.1]; omega
    exact (if_neg q).trans z.1, z.2⟩
  have lv : ∀ b, live H b → live (upd H a (.lst (opV vs))) b := fun b ⟨o, q⟩ => by
    by_cases z : b = a
    · subst z
      exact ⟨_, upd_same⟩
    · exact ⟨o, at_upd z q⟩
  refine ⟨fun b o m q => at_upd (fun z => by rw [z, ga.1] at q; cases q) (R0.kp b o m q), fun b z => lv b (R0.ml b z), ok _ _ R0.st fun b z => upd_ne fun q => ?_, fun b z => ?_, by simp [hl], fun j d u q1 q2 => ?_⟩
  · rcases z with z | ⟨o, z⟩
    · exact ga.2.1 (q ▸ z)
    · rw [q, ga.1] at z
      cases z
  · have h0 : g b ≠ 0 := fun q => z (by
      have q' : ¬ g b = (cs ++ mid).length + 1 := by omega
      exact (if_neg q').trans q)
    have := R0.gg b h0
    exact ⟨this.1, this.2.1, lv b this.2.2⟩
  · by_cases ij : i = j
    · subst ij
      rw [List.getElem?_set_self hi] at q1
      cases q1
      rw [ew] at q2
      cases q2
      refine ⟨F', o4.mono fun b z _ => fz b z, fun b z => ?_⟩
      rcases s4 b z with z | z
      · have q := hy b z
        have q' : ¬ g b = (cs ++ mid).length + 1 := by omega
        exact (if_neg q').trans q
      · exact if_pos (hx b z)
    · rw [List.getElem?_set_ne ij] at q1
      have hj : j < cs.length := (List.getElem?_eq_some_iff.mp q1).1
      have h0 := R0.at_ j d u q1 q2
      match d, u, h0 with
      | .t y', some u', ⟨F2, o5, h5⟩ =>
        have n5 : a ∉ F2 := fun z => by have := h5 a z; have := hy a aF; omega
        refine ⟨F2, o5.kp (M := [a]) (Kp.put (by simp)) (fun b z _ => ⟨one_mem fun q => yz a aF (q ▸ z), fz b z⟩) fun b z => one_mem fun q => n5 (q ▸ z), fun b z => ?_⟩
        have q := h5 b z
        have q' : ¬ g b = (cs ++ mid).length + 1 := by omega
        exact (if_neg q').trans q
      | .pl j' p', some u', ⟨jn, y', s, w', y1, y2, y3, y4, y5⟩ =>
        have ne := np _ (List.mem_of_getElem? q1) j' p' rfl
        obtain ⟨v2, F2, r1, r2, r3⟩ := R0.tcell y1
        rw [y4] at r1
        cases r1
        obtain ⟨w2, G2, t1, t2, t3, t4⟩ := r2.walk y2
        have n5 : a ∉ F2 := fun z => by have := r3 a z; have := hy a aF; omega
        refine ⟨jn, y', s, w', by rw [List.getElem?_set_ne (Ne.symm ne)]; exact y1, y2, y3, y4, ?_⟩
        rw [Walk.uniq y5 t1]
        exact t4 _ fun b z => upd_ne fun q => n5 (q ▸ z)
      | .sto, some u', h => exact h
      | .exc a' d' fs, some u', ⟨y1, y2⟩ => exact ⟨y1, y2.imp id fun ⟨n, dd, e, z1, z2, z3⟩ => ⟨n, dd, e, by
          show (if g dd = (cs ++ mid).length + 1 then i + 1 else g dd) = 0
          rw [if_neg (by omega)]
          exact z1, z2, at_upd (fun q => by have := hy a aF; rw [q] at z1; omega) z3⟩⟩
      | .ins a' dx C fs, some u', ⟨vs', e', ne, h1, h2, r, ga', gd⟩ =>
        have haF := hy a aF
        have same : ∀ b, g b = j + 1 → (if g b = (cs ++ mid).length + 1 then i + 1 else g b) = j + 1 := fun b h3 => by
          rw [if_neg (by omega)]
          exact h3
        exact ⟨vs', e', ne, at_upd (fun q => by rw [q] at ga'; omega) h1, at_upd (fun q => by rw [q] at gd; omega) h2, r.kp (M := [a]) (Kp.put (by simp)) fun b z _ => ⟨one_mem fun q => yz a aF (q ▸ z.1), fz b z.1, z.2⟩, same a' ga', same dx gd⟩
      | .dead, _, _ => exact trivial
/-- what a cell says, for reading -/
inductive Lk (cs : List Cell) : Cell → D → Prop
  | t {x d} : x.data = d → Lk cs (.t x) d
  | pl {j p x s d} : cs[j]? = some (.t x) → x.at p = some s → s.data = d → Lk cs (.pl j p) d
theorem RepG.look (R : RepG f g cs us H) {i : Nat} {c : Cell} {d : D} (e : cs[i]? = some c) (l : Lk cs c d) : ∃ v, us[i]? = some (some v) ∧ Dt (fun a => a ∉ f.M) f.K H v d := by
  cases l with
  | t hd =>
    obtain ⟨v, F, e1, o, h⟩ := R.tcell e
    subst hd
    exact ⟨v, e1, o.dt (fun a z => z.2.1) fun a z => R.own_nM h a z⟩
  | pl h1 h2 h3 =>
    rename_i j p x s
    obtain ⟨u, e1, h⟩ := R.cell e
    cases u with
    | none => cases h
    | some v =>
      obtain ⟨jn, x', s', w, y1, y2, y3, y4, y5⟩ := h
      rw [h1] at y1
      cases y1
      rw [h2] at y2
      cases y2
      obtain ⟨v2, F2, r1, r2, r3⟩ := R.tcell h1
      rw [y4] at r1
      cases r1
      obtain ⟨w2, G2, t1, t2, t3, t4⟩ := r2.walk h2
      have := Walk.uniq y5 t1
      subst this
      subst h3
      exact ⟨v, e1, t2.dt (fun a z => z.2.1) fun a z => R.own_nM r3 a (t3 a z)⟩
end
end LN
namespace LN
open PySem PySem.Spec PyProof.Rows L2
/-! ### slots (ρ), what a loop holds (φ), passing values (τ) -/
/-- an error of the class C, with the fields fs (none: it has no dict) -/
def ErrC (W : WX) (C : Addr) (fs : List (Str × V)) (σ : St) (H : Hp) : Prop := (fs = [] → W (.ref C) none σ H) ∧ (fs ≠ [] → ∀ dd, H dd = some (.xd fs) → W (.ref C) (some dd) σ H)
structure Wx (f : Fr) (φ : List Cell) (us : List (Option V)) (ρ : List Cell) (σ : St) (H : Hp) : Prop where
  l1 : ρ.length = f.n
  l2 : σ.length = f.n
  l3 : φ.length = us.length
  fz : ∀ c ∈ φ, ∃ x, c = .t (.d x)
  rep : Rep f (ρ ++ φ) (σ ++ us) H
/-- errors that may come are taken -/
def XLink (f : Fr) (φ : List Cell) (us : List (Option V)) : Prop := ∀ C fs ρ σ H, f.xc C fs ρ → Wx f φ us ρ σ H → ErrC f.W C fs σ H
structure Wd (f : Fr) (φ : List Cell) (us : List (Option V)) (ρ τ : List Cell) (σ : St) (ws : List (Option V)) (H : Hp) : Prop where
  l1 : ρ.length = f.n
  l2 : σ.length = f.n
  l3 : φ.length = us.length
  l4 : τ.length = ws.length
  fz : ∀ c ∈ φ, ∃ x, c = .t (.d x)
  lk_ : XLink f φ us
  rep : Rep f ((ρ ++ φ) ++ τ) ((σ ++ us) ++ ws) H
section
variable {f : Fr} {φ ρ τ : List Cell} {us ws : List (Option V)} {σ : St} {H H' : Hp} {i : Nat} {v : V} {x : T}
theorem Wd.base (W : Wd f φ us ρ τ σ ws H) : (ρ ++ φ).length = (σ ++ us).length := by
  have := W.l1; have := W.l2; have := W.l3
  simp only [List.length_append]
  omega
theorem Wd.hn (W : Wd f φ us ρ τ σ ws H) : f.n ≤ (ρ ++ φ).length := by
  have := W.l1
  simp only [List.length_append]
  omega
theorem at3 {α : Type} {a b c : List α} {i : Nat} {x : α} (h : a[i]? = some x) : ((a ++ b) ++ c)[i]? = some x := by
  have := (List.getElem?_eq_some_iff.mp h).1
  rw [List.append_assoc, List.getElem?_append_left this]
  exact h
theorem at3' {α : Type} {a b c : List α} {i : Nat} {x : α} (hi : i < a.length) (h : ((a ++ b) ++ c)[i]? = some x) : a[i]? = some x := by
  rw [List.append_assoc, List.getElem?_append_left hi] at h
  exact h
theorem Wd.mk' (W : Wd f φ us ρ τ σ ws H) {τ' : List Cell} {ws' : List (Option V)} (l : τ'.length = ws'.length) (R : Rep f ((ρ ++ φ) ++ τ') ((σ ++ us) ++ ws') H') : Wd f φ us ρ τ' σ ws' H' := ⟨W.l1, W.l2, W.l3, l, W.fz, W.lk_, R⟩
theorem Wd.toX (W : Wd f φ us ρ [] σ [] H) : Wx f φ us ρ σ H := ⟨W.l1, W.l2, W.l3, W.fz, by
  have R := W.rep
  rw [List.append_nil, List.append_nil] at R
  exact R⟩
theorem Wx.toD (W : Wx f φ us ρ σ H) (k : XLink f φ us) : Wd f φ us ρ [] σ [] H := ⟨W.l1, W.l2, W.l3, rfl, W.fz, k, by
  rw [List.append_nil, List.append_nil]
  exact W.rep⟩
/-- a value that is the same in every heap -/
theorem Wd.scal (W : Wd f φ us ρ τ σ ws H) {d : D} (h : ∀ A H, Dt A f.K H v d) : Wd f φ us ρ (τ ++ [.t (.d d)]) σ (ws ++ [some v]) H := by
  obtain ⟨g, R⟩ := W.rep
  refine W.mk' (by simp [W.l4]) ⟨g, ?_⟩
  rw [← List.append_assoc, ← List.append_assoc]
  exact R.push ⟨[], .d (h _ _), fun _ z => nomatch z⟩
theorem Wd.copy (W : Wd f φ us ρ τ σ ws H) {d : D} (e : ρ[i]? = some (.t (.d d))) : ∃ v, σ[i]? = some (some v) ∧ Wd f φ us ρ (τ ++ [.t (.d d)]) σ (ws ++ [some v]) H := by
  obtain ⟨g, R⟩ := W.rep
  obtain ⟨v, F, e1, o, h⟩ := R.tcell (at3 e)
  have hi : i < σ.length := by have := (List.getElem?_eq_some_iff.mp e).1; have := W.l1; have := W.l2; omega
  refine ⟨v, at3' hi e1, W.mk' (by simp [W.l4]) ⟨g, ?_⟩⟩
  rw [← List.append_assoc, ← List.append_assoc]
  cases o with
  | d o => exact R.push ⟨[], .d o, fun _ z => nomatch z⟩
theorem Wd.place (W : Wd f φ us ρ τ σ ws H) (e : ρ[i]? = some (.t x)) (n : x.node = true) : ∃ v, σ[i]? = some (some v) ∧ Wd f φ us ρ (τ ++ [.pl i []]) σ (ws ++ [some v]) H := by
  obtain ⟨g, R⟩ := W.rep
  obtain ⟨v, F, e1, o, h⟩ := R.tcell (at3 e)
  have hl := (List.getElem?_eq_some_iff.mp e).1
  have hi : i < σ.length := by have := W.l1; have := W.l2; omega
  refine ⟨v, at3' hi e1, W.mk' (by simp [W.l4]) ⟨g, ?_⟩⟩
  rw [← List.append_assoc, ← List.append_assoc]
  exact R.push ⟨by have := W.l1; omega, x, x, v, at3 e, by unfold T.at; rfl, n, e1, rfl⟩
theorem noPl_fz (W : Wd f φ us ρ τ σ ws H) (h1 : noPl i ρ) (h2 : noPl i τ) : noPl i ((ρ ++ φ) ++ τ) := fun c hc j p e => by
  rcases List.mem_append.mp hc with hc | hc
  · rcases List.mem_append.mp hc with hc | hc
    · exact h1 c hc j p e
    · obtain ⟨y, hy⟩ := W.fz c hc
      rw [e] at hy
      cases hy
  · exact h2 c hc j p e
theorem set3 {α : Type} {a b c : List α} {i : Nat} {x : α} (hi : i < a.length) : ((a ++ b) ++ c).set i x = (a.set i x ++ b) ++ c := by
  rw [List.append_assoc, List.set_append_left _ _ hi, List.append_assoc]
theorem Wd.frz (W : Wd f φ us ρ τ σ ws H) (e : ρ[i]? = some (.t x)) (h1 : noPl i ρ) (h2 : noPl i τ) : ∃ v, σ[i]? = some (some v) ∧ Wd f φ us (ρ.set i (.t (.d x.data))) (τ ++ [.t (.d x.data)]) σ (ws ++ [some v]) H := by
  obtain ⟨g, R⟩ := W.rep
  have hl := (List.getElem?_eq_some_iff.mp e).1
  have R2 := R.freeze (noPl_fz W h1 h2) (at3 e)
  rw [set3 hl] at R2
  have W2 : Wd f φ us (ρ.set i (.t (.d x.data))) τ σ ws H := ⟨by simp [W.l1], W.l2, W.l3, W.l4, W.fz, W.lk_, R2⟩
  exact W2.copy (List.getElem?_set_self hl)
theorem Wd.mv (W : Wd f φ us ρ τ σ ws H) (e : ρ[i]? = some (.t x)) (h1 : noPl i ρ) (h2 : noPl i τ) : ∃ v, σ[i]? = some (some v) ∧ Wd f φ us (ρ.set i .dead) (τ ++ [.t x]) σ (ws ++ [some v]) H := by
  obtain ⟨g, R⟩ := W.rep
  have hl := (List.getElem?_eq_some_iff.mp e).1
  have hi : i < σ.length := by have := W.l1; have := W.l2; omega
  obtain ⟨v, e1, R2⟩ := R.out (noPl_fz W h1 h2) (at3 e)
  rw [set3 hl] at R2
  refine ⟨v, at3' hi e1, ⟨by simp [W.l1], W.l2, W.l3, by simp [W.l4], W.fz, W.lk_, ?_⟩⟩
  rw [← List.append_assoc, ← List.append_assoc]
  exact R2
theorem Wd.kill (W : Wd f φ us ρ τ σ ws H) (hi : i < ρ.length) (h1 : noPl i ρ) (h2 : noPl i τ) : Wd f φ us (ρ.set i .dead) τ σ ws H := by
  obtain ⟨g, R⟩ := W.rep
  have R2 := R.kill (i := i) (noPl_fz W h1 h2) (by simp; omega)
  rw [set3 hi] at R2
  exact ⟨by simp [W.l1], W.l2, W.l3, W.l4, W.fz, W.lk_, g, R2⟩
theorem Wd.storeV (W : Wd f φ us ρ τ σ ws H) (e : ρ[i]? = some .sto) : σ[i]? = some (some (.ref f.p)) ∧ Wd f φ us ρ (τ ++ [.sto]) σ (ws ++ [some (.ref f.p)]) H := by
  obtain ⟨g, R⟩ := W.rep
  obtain ⟨u, e1, h⟩ := R.cell (at3 e)
  have hi : i < σ.length := by have := (List.getElem?_eq_some_iff.mp e).1; have := W.l1; have := W.l2; omega
  cases u with
  | none => cases h
  | some v =>
    cases h
    refine ⟨at3' hi e1, W.mk' (by simp [W.l4]) ⟨g, ?_⟩⟩
    rw [← List.append_assoc, ← List.append_assoc]
    exact R.push rfl
theorem Wd.pop {cs : List Cell} {vs : List (Option V)} (W : Wd f φ us ρ (τ ++ cs) σ (ws ++ vs) H) (l : τ.length = ws.length) : Wd f φ us ρ τ σ ws H := by
  obtain ⟨g, R⟩ := W.rep
  rw [← List.append_assoc, ← List.append_assoc] at R
  exact W.mk' l ⟨g, R.cut (by have := W.base; simp at this ⊢; omega) (by have := W.hn; simp at this ⊢; omega)⟩
/-- what a passing value says -/
theorem Wd.lk {c : Cell} {k : Nat} {d : D} (W : Wd f φ us ρ τ σ ws H) (e : τ[k]? = some c) (l : Lk ρ c d) : ∃ v, ws[k]? = some (some v) ∧ Dt (fun a => a ∉ f.M) f.K H v d := by
  obtain ⟨g, R⟩ := W.rep
  have l' : Lk ((ρ ++ φ) ++ τ) c d := by
    cases l with
    | t h => exact .t h
    | pl h1 h2 h3 => exact .pl (at3 h1) h2 h3
  have hb := W.base
  obtain ⟨v, e1, h⟩ := R.look (i := (ρ ++ φ).length + k) (by rw [List.getElem?_append_right (by omega), Nat.add_sub_cancel_left]; exact e) l'
  rw [hb, List.getElem?_append_right (by omega), Nat.add_sub_cancel_left] at e1
  exact ⟨v, e1, h⟩
theorem Wd.lkS {c : Cell} {d : D} (W : Wd f φ us ρ τ σ ws H) (e : ρ[i]? = some c) (l : Lk ρ c d) : ∃ v, σ[i]? = some (some v) ∧ Dt (fun a => a ∉ f.M) f.K H v d := by
  obtain ⟨g, R⟩ := W.rep
  have l' : Lk ((ρ ++ φ) ++ τ) c d := by
    cases l with
    | t h => exact .t h
    | pl h1 h2 h3 => exact .pl (at3 h1) h2 h3
  obtain ⟨v, e1, h⟩ := R.look (at3 e) l'
  have hi : i < σ.length := by have := (List.getElem?_eq_some_iff.mp e).1; have := W.l1; have := W.l2; omega
  exact ⟨v, at3' hi e1, h⟩
theorem Wd.new (ok : f.Ok) (W : Wd f φ us ρ τ σ ws H) {p : Addr} {o : HO} (hp : H p = none) : Wd f φ us ρ τ σ ws (upd H p o) := by
  obtain ⟨g, R⟩ := W.rep
  exact W.mk' W.l4 ⟨g, R.new ok hp⟩
/-- what a call leaves: the heap's new things, the store asked -/
theorem Wd.step (W : Wd f φ us ρ τ σ ws H) (k : Kp f.M H H') (st : f.S H') (ml : ∀ b ∈ f.M, live H' b) : Wd f φ us ρ τ σ ws H' := by
  obtain ⟨g, R⟩ := W.rep
  exact W.mk' W.l4 ⟨g, R.step k ml st (fun _ _ _ => rfl) fun a z => .inl z⟩
theorem Wd.kp0 (W : Wd f φ us ρ τ σ ws H) : Kp f.M f.H0 H ∧ f.S H ∧ ∀ b ∈ f.M, live H b := by
  obtain ⟨g, R⟩ := W.rep
  exact ⟨R.kp, R.st, R.ml⟩
/-- .. and its answer -/
theorem Wd.res (W : Wd f φ us ρ τ σ ws H) (k : Kp f.M H H') (st : f.S H') (ml : ∀ b ∈ f.M, live H' b) {F : List Addr} (hF : ∀ a ∈ F, H a = none) (h : Own (fun a => H a = none ∧ a ∉ F) f.K H' v x F) : Wd f φ us ρ (τ ++ [.t x]) σ (ws ++ [some v]) H' := by
  obtain ⟨g, R⟩ := W.rep
  have nl : ∀ a, live H a → H a ≠ none := fun a ⟨o, e⟩ => by rw [e]; exact fun z => nomatch z
  have nM : ∀ a, H a = none → a ∉ f.M := fun a z m => nl a (R.ml a m) z
  have g0 : ∀ a, H a = none → g a = 0 := fun a z => Decidable.byContradiction fun q => nl a (R.gg a q).2.2 z
  let n := ((ρ ++ φ) ++ τ).length
  let g' : Addr → Nat := fun a => if a ∈ F then n + 1 else g a
  have R1 : RepG f g' ((ρ ++ φ) ++ τ) ((σ ++ us) ++ ws) H' := R.step k ml st (fun a l _ => if_neg fun z => nl a l (hF a z)) fun a z => by
    by_cases q : a ∈ F
    · exact .inr ⟨hF a q, nM a (hF a q), h.live a q⟩
    · exact .inl fun y => z ((if_neg q).trans y)
  refine W.mk' (by simp [W.l4]) ⟨g', ?_⟩
  rw [← List.append_assoc, ← List.append_assoc]
  exact R1.push ⟨F, h.mono fun a z _ => ⟨(if_neg z.2).trans (g0 a z.1), nM a z.1, .inr (R.kp.free (nM a z.1) z.1)⟩, fun a z => if_pos z⟩
/-- .. an answer that may share what was handed over (all of it nobody's) -/
theorem Wd.resA {cs : List Cell} {vs : List V} {ds : List D} (W : Wd f φ us ρ (τ ++ cs) σ (ws ++ vs.map some) H) (l : τ.length = ws.length) (hc : cs = ds.map fun d => .t (.d d)) (k : Kp f.M H H') (st : f.S H') (ml : ∀ b ∈ f.M, live H' b) {F : List Addr} (hF : ∀ a ∈ F, H a = none)
    (h : ∀ A : Addr → Prop, DtL A f.K H vs ds → (∀ a, A a → a ∉ f.M) → Own (fun a => (A a ∨ H a = none) ∧ a ∉ F) f.K H' v x F) : Wd f φ us ρ (τ ++ [.t x]) σ (ws ++ [some v]) H' := by
  obtain ⟨g, R⟩ := W.rep
  rw [← List.append_assoc, ← List.append_assoc, hc, show (ds.map fun d => Cell.t (.d d)) = (ds.map T.d).map Cell.t from by rw [List.map_map]; rfl] at R
  have hb : ((ρ ++ φ) ++ τ).length = ((σ ++ us) ++ ws).length := by have := W.base; simp at this ⊢; omega
  have R0 := R.cut hb (by have := W.hn; simp at this ⊢; omega)
  obtain ⟨F0, o, _⟩ := R.args hb
  have hd : ∀ {vs : List V} {ds : List D} {F : List Addr}, OwnL (Fz f g) f.K H vs (ds.map T.d) F → DtL (Fz f g) f.K H vs ds := by
    intro vs ds F o
    induction ds generalizing vs F with
    | nil => cases o; exact .nil
    | cons d ds ih =>
      cases o with
      | cons r t _ => cases r with | d r => exact .cons r (ih t)
  have h := h (Fz f g) (hd o) fun a z => z.2.1
  have nl : ∀ a, live H a → H a ≠ none := fun a ⟨o, e⟩ => by rw [e]; exact fun z => nomatch z
  have nM : ∀ a, H a = none → a ∉ f.M := fun a z m => nl a (R.ml a m) z
  have g0 : ∀ a, H a = none → g a = 0 := fun a z => Decidable.byContradiction fun q => nl a (R.gg a q).2.2 z
  let n := ((ρ ++ φ) ++ τ).length
  let g' : Addr → Nat := fun a => if a ∈ F then n + 1 else g a
  have R1 : RepG f g' ((ρ ++ φ) ++ τ) ((σ ++ us) ++ ws) H' := R0.step k ml st (fun a l _ => if_neg fun z => nl a l (hF a z)) fun a z => by
    by_cases q : a ∈ F
    · exact .inr ⟨hF a q, nM a (hF a q), h.live a q⟩
    · exact .inl fun y => z ((if_neg q).trans y)
  refine W.mk' (by simp [l]) ⟨g', ?_⟩
  rw [← List.append_assoc, ← List.append_assoc]
  refine R1.push ⟨F, h.mono fun a z _ => ?_, fun a z => if_pos z⟩
  rcases z.1 with y | y
  · exact ⟨(if_neg z.2).trans y.1, y.2⟩
  · exact ⟨(if_neg z.2).trans (g0 a y), nM a y, .inr (R.kp.free (nM a y) y)⟩
theorem Wd.pack (ok : f.Ok) {xs : List T} {vs : List V} {p : Addr} (W : Wd f φ us ρ (τ ++ xs.map Cell.t) σ (ws ++ vs.map some) H) (l : τ.length = ws.length) (hp : H p = none) (b : Bool) :
    Wd f φ us ρ (τ ++ [.t (if b then .lst xs else .tup xs)]) σ (ws ++ [some (.ref p)]) (upd H p (if b then .lst vs else .tup vs)) := by
  obtain ⟨g, R⟩ := W.rep
  rw [← List.append_assoc, ← List.append_assoc] at R
  refine W.mk' (by simp [l]) ?_
  rw [← List.append_assoc, ← List.append_assoc]
  exact R.pack ok (by have := W.base; simp at this ⊢; omega) (by have := W.hn; simp at this ⊢; omega) hp b
theorem Wd.set (W : Wd f φ us ρ (τ ++ [.t x]) σ (ws ++ [some v]) H) (hl : τ.length = ws.length) (hi : i < ρ.length) (h1 : noPl i ρ) (h2 : noPl i τ) : Wd f φ us (ρ.set i (.t x)) τ (σ.set i (some v)) ws H := by
  obtain ⟨g, R⟩ := W.rep
  rw [← List.append_assoc, ← List.append_assoc] at R
  have R2 := R.move (by have := W.base; simp at this ⊢; omega) (by have := W.hn; simp at this ⊢; omega) (i := i) (noPl_fz (W.pop hl) h1 h2) (by simp; omega)
  rw [set3 hi, set3 (by have := W.l1; have := W.l2; omega)] at R2
  exact ⟨by simp [W.l1], by simp [W.l2], W.l3, hl, W.fz, W.lk_, R2⟩
/-- the last value's things are nobody's any more -/
theorem Wd.fzTop (W : Wd f φ us ρ (τ ++ [.t x]) σ (ws ++ [some v]) H) : Wd f φ us ρ (τ ++ [.t (.d x.data)]) σ (ws ++ [some v]) H := by
  obtain ⟨g, R⟩ := W.rep
  have np : noPl ((ρ ++ φ) ++ τ).length ((ρ ++ φ) ++ (τ ++ [.t x])) := fun c hc j p e z => by
    obtain ⟨i, hi⟩ := List.getElem?_of_mem hc
    obtain ⟨u, _, h⟩ := R.cell hi
    subst e
    cases u with
    | none => cases h
    | some w =>
      have := h.1
      have := W.hn
      simp at z this
      omega
  have R2 := R.freeze (x := x) np (by rw [← List.append_assoc, List.getElem?_append_right (Nat.le_refl _), Nat.sub_self]; rfl)
  rw [← List.append_assoc, List.set_append_right _ _ (Nat.le_refl _), Nat.sub_self, List.append_assoc] at R2
  exact ⟨W.l1, W.l2, W.l3, by simpa using W.l4, W.fz, W.lk_, R2⟩
/-- a dead slot may hold anything -/
theorem Wd.any (W : Wd f φ us ρ τ σ ws H) (e : ρ[i]? = some .dead) (u : Option V) : Wd f φ us ρ τ (σ.set i u) ws H := by
  obtain ⟨g, R⟩ := W.rep
  have hi := (List.getElem?_eq_some_iff.mp e).1
  have hs : i < σ.length := by have := W.l1; have := W.l2; omega
  refine ⟨W.l1, by simp [W.l2], W.l3, W.l4, W.fz, W.lk_, g, R.kp, R.ml, R.st, R.gg, by have := R.len; simp at this ⊢; omega, fun j c w q1 q2 => ?_⟩
  rw [← set3 hs] at q2 ⊢
  by_cases ij : i = j
  · subst ij
    rw [at3 e] at q1
    cases q1
    exact trivial
  · rw [List.getElem?_set_ne ij] at q2
    have h0 := R.at_ j c w q1 q2
    match c, w, h0 with
    | .t y, some u', h => exact h
    | .pl j' p, some u', ⟨jn, y, s, w', y1, y2, y3, y4, y5⟩ =>
      have ne : i ≠ j' := fun z => by
        subst z
        rw [at3 e] at y1
        cases y1
      exact ⟨jn, y, s, w', y1, y2, y3, by rw [List.getElem?_set_ne ne]; exact y4, y5⟩
    | .sto, some u', h => exact h
    | .exc _ _ _, some u', h => exact h
    | .ins _ _ _ _, some u', h => exact h
    | .dead, _, _ => exact trivial
theorem Wx.less {φ' : List Cell} {us' : List (Option V)} (W : Wx f (φ ++ φ') (us ++ us') ρ σ H) (h : φ.length = us.length) : Wx f φ us ρ σ H := by
  obtain ⟨g, R⟩ := W.rep
  rw [← List.append_assoc, ← List.append_assoc] at R
  exact ⟨W.l1, W.l2, h, fun c hc => W.fz c (List.mem_append_left _ hc), g, R.cut (by have := W.l1; have := W.l2; simp; omega) (by have := W.l1; simp; omega)⟩
theorem XLink.more {φ' : List Cell} {us' : List (Option V)} (k : XLink f φ us) (h : φ.length = us.length) : XLink f (φ ++ φ') (us ++ us') := fun C fs ρ σ H x W => k C fs ρ σ H x (W.less h)
/-- what a loop holds -/
theorem Wd.hold {d : D} (W : Wd f φ us ρ [.t (.d d)] σ [some v] H) : Wd f (φ ++ [.t (.d d)]) (us ++ [some v]) ρ [] σ [] H :=
  ⟨W.l1, W.l2, by simp [W.l3], rfl, fun c hc => (List.mem_append.mp hc).elim (W.fz c) fun z => ⟨d, List.mem_singleton.mp z⟩, W.lk_.more W.l3, by
    have R := W.rep
    rw [List.append_nil, List.append_nil, ← List.append_assoc, ← List.append_assoc]
    exact R⟩
theorem Wd.unhold {φ' : List Cell} {us' : List (Option V)} (W : Wd f (φ ++ φ') (us ++ us') ρ τ σ ws H) (h : φ.length = us.length) (k : XLink f φ us) : Wd f φ us ρ [] σ [] H := by
  obtain ⟨g, R⟩ := W.rep
  have R' : RepG f g ((ρ ++ φ) ++ (φ' ++ τ)) ((σ ++ us) ++ (us' ++ ws)) H := by
    have := R
    simp only [List.append_assoc] at this ⊢
    exact this
  exact ⟨W.l1, W.l2, h, rfl, fun c hc => W.fz c (List.mem_append_left _ hc), k, g, by
    rw [List.append_nil, List.append_nil]
    exact R'.cut (by have := W.l1; have := W.l2; simp; omega) (by have := W.l1; simp; omega)⟩
/-- a list that holds only what is nobody's: for reading -/
def DtN (A : Addr → Prop) (K : PySem.W.Frag) (H : Hp) (v : V) : D → Prop
  | .lst l => ∃ a vs, v = .ref a ∧ H a = some (.lst vs) ∧ DtL A K H vs l
  | .tup l => ∃ a vs, v = .ref a ∧ SqT K H a vs ∧ DtL A K H vs l
  | d => Dt A K H v d
theorem Dt.n {A K H v d} (h : Dt A K H v d) : DtN A K H v d := by
  cases h with
  | lst a e r => exact ⟨_, _, rfl, e, r⟩
  | tup s r => exact ⟨_, _, rfl, sqT_of s, r⟩
  | non => exact .non
  | bl b => exact .bl b
  | int i => exact .int i
  | str x => exact .str x
  | obj a b c d e => exact .obj a b c d e
inductive DtNL (A : Addr → Prop) (K : PySem.W.Frag) (H : Hp) : List V → List D → Prop
  | nil : DtNL A K H [] []
  | cons {v vs d ds} : DtN A K H v d → DtNL A K H vs ds → DtNL A K H (v :: vs) (d :: ds)
inductive Leaf (ρ : List Cell) : Cell → D → Prop
  | fz {d} : Leaf ρ (.t (.d d)) d
  | own {l : List D} : Leaf ρ (.t (.lst (l.map .d))) (.lst l)
  | ownT {l : List D} : Leaf ρ (.t (.tup (l.map .d))) (.tup l)
  | pl {j p x} {l : List D} : ρ[j]? = some (.t x) → x.at p = some (.lst (l.map .d)) → Leaf ρ (.pl j p) (.lst l)
  | plT {j p x} {l : List D} : ρ[j]? = some (.t x) → x.at p = some (.tup (l.map .d)) → Leaf ρ (.pl j p) (.tup l)
inductive LeafL (ρ : List Cell) : List Cell → List D → Prop
  | nil : LeafL ρ [] []
  | cons {c cs d ds} : Leaf ρ c d → LeafL ρ cs ds → LeafL ρ (c :: cs) (d :: ds)
theorem OwnL.ds {A K H} : ∀ {vs : List V} {ds : List D} {F : List Addr}, OwnL A K H vs (ds.map T.d) F → DtL A K H vs ds
  | _, [], _, .nil => .nil
  | _, _ :: _, _, .cons (.d r) t _ => .cons r t.ds
theorem DtL.own {A K H} : ∀ {vs : List V} {ds : List D}, DtL A K H vs ds → OwnL A K H vs (ds.map T.d) []
  | _, _, .nil => .nil
  | _, _, .cons r t => OwnL.cons (F := []) (G := []) (.d r) t.own fun _ z => nomatch z
theorem Own.n {A K H v F} {l : List D} (h : Own A K H v (.lst (l.map .d)) F) : DtN A K H v (.lst l) := by
  cases h with
  | lst e r n => exact ⟨_, _, rfl, e, r.ds⟩
theorem Own.nT {A K H v F} {l : List D} (h : Own A K H v (.tup (l.map .d)) F) : DtN A K H v (.tup l) := by
  cases h with
  | tup e r n => exact ⟨_, _, rfl, SqT.of e, r.ds⟩
theorem RepG.leaf {g : Addr → Nat} {cs : List Cell} {us : List (Option V)} {c : Cell} {d : D} (R : RepG f g cs us H) (e : cs[i]? = some c) (l : Leaf cs c d) : ∃ v, us[i]? = some (some v) ∧ DtN (Fz f g) f.K H v d := by
  cases l with
  | fz =>
    obtain ⟨v, F, e1, o, _⟩ := R.tcell e
    cases o with
    | d o => exact ⟨v, e1, o.n⟩
  | own =>
    obtain ⟨v, F, e1, o, _⟩ := R.tcell e
    exact ⟨v, e1, o.n⟩
  | ownT =>
    obtain ⟨v, F, e1, o, _⟩ := R.tcell e
    exact ⟨v, e1, o.nT⟩
  | pl h1 h2 =>
    obtain ⟨u, e1, h⟩ := R.cell e
    cases u with
    | none => cases h
    | some v =>
      obtain ⟨jn, x', s', w, y1, y2, y3, y4, y5⟩ := h
      obtain ⟨v2, F2, r1, r2, r3⟩ := R.tcell h1
      rw [y4] at r1
      cases r1
      obtain ⟨w2, G2, t1, t2, t3, t4⟩ := r2.walk h2
      have := Walk.uniq y5 t1
      subst this
      exact ⟨v, e1, t2.n⟩
  | plT h1 h2 =>
    obtain ⟨u, e1, h⟩ := R.cell e
    cases u with
    | none => cases h
    | some v =>
      obtain ⟨jn, x', s', w, y1, y2, y3, y4, y5⟩ := h
      obtain ⟨v2, F2, r1, r2, r3⟩ := R.tcell h1
      rw [y4] at r1
      cases r1
      obtain ⟨w2, G2, t1, t2, t3, t4⟩ := r2.walk h2
      have := Walk.uniq y5 t1
      subst this
      exact ⟨v, e1, t2.nT⟩
theorem RepG.pushL {g : Addr → Nat} : ∀ {vs : List V} {ds : List D} {cs : List Cell} {us : List (Option V)}, RepG f g cs us H → DtL (Fz f g) f.K H vs ds → RepG f g (cs ++ (ds.map T.d).map Cell.t) (us ++ vs.map some) H
  | _, _, _, _, R, .nil => by
    rw [List.map_nil, List.map_nil, List.map_nil, List.append_nil, List.append_nil]
    exact R
  | _, _, cs, us, R, .cons (v := v) (d := d) r t => by
    have := RepG.pushL (R.push (c := .t (.d d)) (v := v) ⟨[], .d r, fun _ z => nomatch z⟩) t
    rw [List.append_assoc, List.append_assoc] at this
    exact this
/-- what may be made of values that are read -/
structure Make (f : Fr) (φ : List Cell) (us : List (Option V)) (ρ τ : List Cell) (σ : St) (ws : List (Option V)) (H : Hp) (A : Addr → Prop) : Prop where
  nM : ∀ a, A a → a ∉ f.M
  many : ∀ vs l, DtL A f.K H vs l → Wd f φ us ρ (τ ++ (l.map T.d).map Cell.t) σ (ws ++ vs.map some) H
  one : ∀ v y, Dt A f.K H v y → Wd f φ us ρ (τ ++ [.t (.d y)]) σ (ws ++ [some v]) H
  row : f.Ok → ∀ (p : Addr) (vs : List V) (l : List D) (b : Bool), H p = none → DtL A f.K H vs l → Wd f φ us ρ (τ ++ [.t (if b then .lst (l.map .d) else .tup (l.map .d))]) σ (ws ++ [some (.ref p)]) (upd H p (if b then .lst vs else .tup vs))
theorem RepG.make {g : Addr → Nat} (W : Wd f φ us ρ τ σ ws H) (R : RepG f g ((ρ ++ φ) ++ τ) ((σ ++ us) ++ ws) H) : Make f φ us ρ τ σ ws H (Fz f g) where
  nM := fun a z => z.2.1
  many := fun vs l h => W.mk' (by simp [W.l4, h.length]) ⟨g, by
    rw [← List.append_assoc, ← List.append_assoc]
    exact R.pushL h⟩
  one := fun v y h => W.mk' (by simp [W.l4]) ⟨g, by
    rw [← List.append_assoc, ← List.append_assoc]
    exact R.push ⟨[], .d h, fun _ z => nomatch z⟩⟩
  row := fun ok p vs l b hp h => W.mk' (by simp [W.l4]) (by
    rw [← List.append_assoc, ← List.append_assoc]
    exact (R.pushL h).pack ok (by have := W.base; have := W.l4; simp at *; omega) (by have := W.hn; simp at *; omega) hp b)
theorem Wd.items : ∀ {cs : List Cell} {ds : List D} {vs : List V}, Wd f φ us ρ (τ ++ cs) σ (ws ++ vs.map some) H → τ.length = ws.length → vs.length = cs.length → LeafL ρ cs ds → ∃ A, DtNL A f.K H vs ds ∧ Make f φ us ρ τ σ ws H A := by
  intro cs ds vs W hl vl ls
  obtain ⟨g, R⟩ := W.rep
  have hb : ((ρ ++ φ) ++ τ).length = ((σ ++ us) ++ ws).length := by have := W.base; simp at this ⊢; omega
  have R0 : RepG f g ((ρ ++ φ) ++ τ) ((σ ++ us) ++ ws) H := RepG.cut (c' := cs) (u' := vs.map some) hb (by have := W.hn; simp at this ⊢; omega) (by rw [List.append_assoc, List.append_assoc (σ ++ us)]; exact R)
  refine ⟨Fz f g, ?_, R0.make (W.pop hl)⟩
  have key : ∀ {cs : List Cell} {ds : List D} {vs : List V} {τ : List Cell} {ws : List (Option V)}, RepG f g ((ρ ++ φ) ++ (τ ++ cs)) ((σ ++ us) ++ (ws ++ vs.map some)) H → ((ρ ++ φ) ++ τ).length = ((σ ++ us) ++ ws).length → vs.length = cs.length → LeafL ρ cs ds → DtNL (Fz f g) f.K H vs ds := by
    intro cs
    induction cs with
    | nil =>
      intro ds vs τ ws R hb vl ls
      cases ls
      obtain rfl := List.length_eq_zero_iff.mp vl
      exact .nil
    | cons c cs ih =>
      intro ds vs τ ws R hb vl ls
      cases ls with
      | @cons _ _ d ds l ls =>
        cases vs with
        | nil => cases vl
        | cons v vs =>
          have l' : Leaf ((ρ ++ φ) ++ (τ ++ c :: cs)) c d := by
            cases l with
            | fz => exact .fz
            | own => exact .own
            | ownT => exact .ownT
            | pl h1 h2 => exact .pl (at3 h1) h2
            | plT h1 h2 => exact .plT (at3 h1) h2
          obtain ⟨v', e, h⟩ := R.leaf (i := ((ρ ++ φ) ++ τ).length) (by rw [← List.append_assoc, List.getElem?_append_right (Nat.le_refl _), Nat.sub_self]; rfl) l'
          rw [hb, ← List.append_assoc, List.getElem?_append_right (Nat.le_refl _), Nat.sub_self] at e
          cases e
          refine .cons h (ih (τ := τ ++ [c]) (ws := ws ++ [some v]) ?_ (by simp at hb ⊢; omega) (Nat.succ.inj vl) ls)
          rw [List.append_assoc τ, List.append_assoc ws]
          exact R
  exact key R hb vl ls
/-- what a loop holds, read -/
theorem Wd.held {d : D} (W : Wd f (φ ++ [.t (.d d)]) (us ++ [some v]) ρ τ σ ws H) (h : φ.length = us.length) : ∃ A, DtN A f.K H v d ∧ Make f (φ ++ [.t (.d d)]) (us ++ [some v]) ρ τ σ ws H A := by
  obtain ⟨g, R⟩ := W.rep
  refine ⟨Fz f g, ?_, R.make W⟩
  have hb : ρ.length = σ.length := by have := W.l1; have := W.l2; omega
  obtain ⟨v', e, hd⟩ := R.leaf (i := (ρ ++ φ).length) (c := .t (.d d)) (by rw [← List.append_assoc, List.getElem?_append_left (by simp), List.getElem?_append_right (Nat.le_refl _), Nat.sub_self]; rfl) .fz
  rw [show (ρ ++ φ).length = (σ ++ us).length by simp; omega, ← List.append_assoc, List.getElem?_append_left (by simp), List.getElem?_append_right (Nat.le_refl _), Nat.sub_self] at e
  cases e
  exact hd
/-- the last value comes down over others -/
theorem Wd.down {mid : List Cell} {mu : List (Option V)} (W : Wd f φ us ρ ((τ ++ mid) ++ [.t x]) σ ((ws ++ mu) ++ [some v]) H) (hl : τ.length = ws.length) : Wd f φ us ρ (τ ++ [.t x]) σ (ws ++ [some v]) H := by
  obtain ⟨g, R⟩ := W.rep
  have hb : ((ρ ++ φ) ++ τ).length = ((σ ++ us) ++ ws).length := by have := W.base; simp at *; omega
  have hm : mid.length = mu.length := by have := W.l4; simp at this; omega
  have R' : RepG f g (((ρ ++ φ) ++ τ) ++ (mid ++ [.t x])) (((σ ++ us) ++ ws) ++ (mu ++ [some v])) H := by
    have := R
    simp only [List.append_assoc] at this ⊢
    exact this
  have R3 : RepG f g ((((ρ ++ φ) ++ τ) ++ mid) ++ [.t x]) ((((σ ++ us) ++ ws) ++ mu) ++ [some v]) H := by
    have := R
    simp only [List.append_assoc] at this ⊢
    exact this
  have R0 := R'.cut hb (by have := W.hn; simp at this ⊢; omega)
  obtain ⟨u, F, e1, o, hF⟩ := R3.tcell (i := (((ρ ++ φ) ++ τ) ++ mid).length) (x := x) (by rw [List.getElem?_append_right (Nat.le_refl _), Nat.sub_self]; rfl)
  rw [show (((ρ ++ φ) ++ τ) ++ mid).length = (((σ ++ us) ++ ws) ++ mu).length by rw [List.length_append, hb, hm, ← List.length_append], List.getElem?_append_right (Nat.le_refl _), Nat.sub_self] at e1
  cases e1
  let B := ((ρ ++ φ) ++ τ).length
  have hB : B ≤ (((ρ ++ φ) ++ τ) ++ mid).length := by simp [B]; omega
  let g' : Addr → Nat := fun a => if g a = (((ρ ++ φ) ++ τ) ++ mid).length + 1 then B + 1 else if B < g a then 0 else g a
  have gs : ∀ a, g a ≤ B → g' a = g a := fun a z => by
    show (if g a = (((ρ ++ φ) ++ τ) ++ mid).length + 1 then B + 1 else if B < g a then 0 else g a) = g a
    rw [if_neg (by omega), if_neg (by omega)]
  have R1 : RepG f g' ((ρ ++ φ) ++ τ) ((σ ++ us) ++ ws) H := R0.step Kp.refl R0.ml R0.st (fun a _ z => gs a z) fun a z => .inl fun y => z ((gs a (by omega)).trans y)
  refine ⟨W.l1, W.l2, W.l3, by simp [hl], W.fz, W.lk_, g', ?_⟩
  rw [← List.append_assoc, ← List.append_assoc]
  exact R1.push ⟨F, o.mono fun a z _ => ⟨(gs a (by rw [z.1]; omega)).trans z.1, z.2⟩, fun a z => if_pos (hF a z)⟩
/-- what stands among the passing values, read -/
theorem Wd.heldT {d : D} {τ2 : List Cell} {w2 : List (Option V)} (W : Wd f φ us ρ ((τ ++ [.t (.d d)]) ++ τ2) σ ((ws ++ [some v]) ++ w2) H) (hl : τ.length = ws.length) : ∃ A, DtN A f.K H v d ∧ Make f φ us ρ ((τ ++ [.t (.d d)]) ++ τ2) σ ((ws ++ [some v]) ++ w2) H A := by
  obtain ⟨g, R⟩ := W.rep
  refine ⟨Fz f g, ?_, R.make W⟩
  have hb := W.base
  obtain ⟨v', e, hd⟩ := R.leaf (i := ((ρ ++ φ) ++ τ).length) (c := .t (.d d)) (by rw [← List.append_assoc, ← List.append_assoc, List.getElem?_append_left (by simp), List.getElem?_append_right (Nat.le_refl _), Nat.sub_self]; rfl) .fz
  rw [show ((ρ ++ φ) ++ τ).length = ((σ ++ us) ++ ws).length by simp at hb ⊢; omega, ← List.append_assoc, ← List.append_assoc, List.getElem?_append_left (by simp), List.getElem?_append_right (Nat.le_refl _), Nat.sub_self] at e
  cases e
  exact hd
/-- one more item for a list that is being made (the value ahead of the last) -/
theorem Wd.acc (ok : f.Ok) {l : List T} {D : Addr} (W : Wd f φ us ρ ((τ ++ [.t (.lst l)]) ++ [.t x]) σ ((ws ++ [some (.ref D)]) ++ [some v]) H) (hl : τ.length = ws.length) : ∃ vs, H D = some (.lst vs) ∧ vs.length = l.length ∧ Wd f φ us ρ (τ ++ [.t (.lst (l ++ [x]))]) σ (ws ++ [some (.ref D)]) (upd H D (.lst (vs ++ [v]))) := by
  obtain ⟨g, R⟩ := W.rep
  have hb := W.base
  rw [← List.append_assoc, ← List.append_assoc (σ ++ us)] at R
  have i0 : ((ρ ++ φ) ++ (τ ++ [.t (.lst l)]))[((ρ ++ φ) ++ τ).length]? = some (.t (.lst l)) := by rw [← List.append_assoc, List.getElem?_append_right (Nat.le_refl _), Nat.sub_self]; rfl
  have np : noPl ((ρ ++ φ) ++ τ).length ((ρ ++ φ) ++ (τ ++ [.t (.lst l)])) := fun c hc j p e z => by
    obtain ⟨i, hi⟩ := List.getElem?_of_mem hc
    obtain ⟨u, _, h⟩ := R.cell (i := i) (c := c) (by rw [List.getElem?_append_left (List.getElem?_eq_some_iff.mp hi).1]; exact hi)
    subst e
    cases u with
    | none => cases h
    | some w =>
      have := h.1
      have := W.hn
      simp at z this
      omega
  obtain ⟨vs, e1, e2, R2⟩ := RepG.mutate ok (mid := []) (mu := []) (cs := (ρ ++ φ) ++ (τ ++ [.t (.lst l)])) (us := (σ ++ us) ++ (ws ++ [some (.ref D)])) (opV := fun vs => vs ++ [v]) (opT := fun l => l ++ [x]) (p := []) (w := .ref D) (a := D) (by rw [List.append_nil, List.append_nil]; exact R) (by simp at hb ⊢; omega) rfl (by have := W.hn; simp at this ⊢; omega) np i0 (by unfold T.at; rfl) (by rw [show ((ρ ++ φ) ++ τ).length = ((σ ++ us) ++ ws).length by simp at hb ⊢; omega, ← List.append_assoc, List.getElem?_append_right (Nat.le_refl _), Nat.sub_self]; rfl) rfl
    fun A K H vs l G F o1 o2 h => ⟨G ++ F, o1.append (.one o2) h, fun b z => List.mem_append.mp z⟩
  refine ⟨vs, e1, e2, ⟨W.l1, W.l2, W.l3, by simp [hl], W.fz, W.lk_, ?_⟩⟩
  rw [← List.append_assoc, List.set_append_right _ _ (Nat.le_refl _), Nat.sub_self, List.append_assoc] at R2
  exact R2
theorem Wd.mut (ok : f.Ok) {y : T} {w : V} {p : List Nat} {l : List T} {a : Addr} {opV : List V → List V} {opT : List T → List T} {mid : List Cell} {mu : List (Option V)} (W : Wd f φ us ρ ((τ ++ mid) ++ [.t x]) σ ((ws ++ mu) ++ [some v]) H) (ht : τ.length = ws.length) (hm : mid.length = mu.length) (h1 : noPl i ρ) (h2 : noPl i τ)
    (e : ρ[i]? = some (.t y)) (ea : y.at p = some (.lst l)) (ew : σ[i]? = some (some w)) (wk : Walk H w p (.ref a)) (op : LOp opV opT v x) : ∃ vs, H a = some (.lst vs) ∧ vs.length = l.length ∧ Wd f φ us (ρ.set i (.t (y.put p (.lst (opT l))))) τ σ ws (upd H a (.lst (opV vs))) := by
  obtain ⟨g, R⟩ := W.rep
  have R' : RepG f g ((((ρ ++ φ) ++ τ) ++ mid) ++ [.t x]) ((((σ ++ us) ++ ws) ++ mu) ++ [some v]) H := by
    have := R
    simp only [List.append_assoc] at this ⊢
    exact this
  have hb : ((ρ ++ φ) ++ τ).length = ((σ ++ us) ++ ws).length := by have := W.base; simp at this ⊢; omega
  have hi := (List.getElem?_eq_some_iff.mp e).1
  obtain ⟨vs, e1, e2, R2⟩ := R'.mutate ok hb hm (by have := W.hn; simp at this ⊢; omega) (noPl_fz (Wd.pop (cs := mid ++ [.t x]) (vs := mu ++ [some v]) (by rw [← List.append_assoc, ← List.append_assoc]; exact W) ht) h1 h2) (at3 e) ea (at3 ew) wk op
  rw [set3 hi] at R2
  exact ⟨vs, e1, e2, ⟨by simp [W.l1], W.l2, W.l3, ht, W.fz, W.lk_, R2⟩⟩
/-- a place's address -/
theorem Wd.plc {j : Nat} {p : List Nat} {k : Nat} (W : Wd f φ us ρ τ σ ws H) (e : τ[k]? = some (.pl j p)) : ∃ v x s w, ws[k]? = some (some v) ∧ ρ[j]? = some (.t x) ∧ x.at p = some s ∧ s.node = true ∧ σ[j]? = some (some w) ∧ Walk H w p v := by
  obtain ⟨g, R⟩ := W.rep
  have hb := W.base
  obtain ⟨u, e1, h⟩ := R.cell (i := (ρ ++ φ).length + k) (by rw [List.getElem?_append_right (by omega), Nat.add_sub_cancel_left]; exact e)
  cases u with
  | none => cases h
  | some v =>
    obtain ⟨jn, x, s, w, y1, y2, y3, y4, y5⟩ := h
    rw [hb, List.getElem?_append_right (by omega), Nat.add_sub_cancel_left] at e1
    have := W.l1; have := W.l2
    exact ⟨v, x, s, w, e1, at3' (by omega) y1, y2, y3, at3' (by omega) y4, y5⟩
end
end LN
namespace LN
open PySem PySem.Spec PyProof.Rows L2
abbrev cI (i : Int) : Cell := .t (.d (.int i))
abbrev cB (b : Bool) : Cell := .t (.d (.bl b))
abbrev cS (x : Str) : Cell := .t (.d (.str x))
abbrev cN : Cell := .t (.d .non)
abbrev cD (d : D) : Cell := .t (.d d)
abbrev dI (i : Int) : D := .int i
/-- ints, as data -/
abbrev dIs (ns : List Int) : D := .lst (ns.map .int)
/-- a list of one's own, its items nobody's -/
abbrev T.row (l : List D) : T := .lst (l.map .d)
abbrev T.rows (ls : List (List D)) : T := .lst (ls.map T.row)
theorem T.datas_d (l : List D) : T.datas (l.map .d) = l := by
  rw [T.datas_map, List.map_map]
  exact (List.map_congr_left fun x _ => (rfl : (T.data ∘ T.d) x = x)).trans (List.map_id'' (fun _ => rfl) l)
theorem T.data_row (l : List D) : (T.row l).data = .lst l := by
  show D.lst (T.datas (l.map .d)) = _
  rw [T.datas_d]
theorem T.data_rows (ls : List (List D)) : (T.rows ls).data = .lst (ls.map .lst) := by
  show D.lst (T.datas (ls.map T.row)) = _
  rw [T.datas_map, List.map_map]
  congr 1
  exact List.map_congr_left fun x _ => T.data_row x
/-! ### judgements -/
def Ev (f : Fr) (m : Bool) (ρ τ : List Cell) (t : TE) (Φ : Cell → List Cell → Prop) : Prop := ∀ φ us σ ws H Q, Wd f φ us ρ τ σ ws H → (∀ c ρ' v H', Φ c ρ' → Wd f φ us ρ' (τ ++ [c]) σ (ws ++ [some v]) H' → Q v H') → t σ H Q
def EvA (f : Fr) (m : Bool) (ρ τ : List Cell) (t : TA) (Φ : List Cell → List Cell → Prop) : Prop := ∀ φ us σ ws H Q, Wd f φ us ρ τ σ ws H → (∀ cs ρ' vs H', vs.length = cs.length → Φ cs ρ' → Wd f φ us ρ' (τ ++ cs) σ (ws ++ vs.map some) H' → Q vs H') → t σ H Q
def Et (f : Fr) (ρ τ : List Cell) (t : TT) (Φ : Bool → List Cell → Prop) : Prop := ∀ φ us σ ws H Q, Wd f φ us ρ τ σ ws H → (∀ b ρ' H', Φ b ρ' → Wd f φ us ρ' τ σ ws H' → Q b H') → t σ H Q
/-- values cs (behind τ), then R of them -/
def Vo (f : Fr) (ρ τ : List Cell) (R : List V → Hp → VK → Prop) (cs : List Cell) (Φ : Cell → List Cell → Prop) : Prop := ∀ φ us σ ws H Q vs, vs.length = cs.length → τ.length = ws.length → Wd f φ us ρ (τ ++ cs) σ (ws ++ vs.map some) H → (∀ c ρ' v H', Φ c ρ' → Wd f φ us ρ' (τ ++ [c]) σ (ws ++ [some v]) H' → Q v H') → R vs H Q
structure Pn where
  nx : List Cell → Prop
  rt : Cell → List Cell → Prop
  bk : List Cell → Prop := fun _ => False
  ct : List Cell → Prop := fun _ => False
def Es (f : Fr) (ρ : List Cell) (t : TS) (D : Pn) : Prop := ∀ φ us σ H (E : Ends), Wd f φ us ρ [] σ [] H → (∀ ρ' σ' H', D.nx ρ' → Wd f φ us ρ' [] σ' [] H' → E.nx σ' H') → (∀ ρ' σ' H', D.bk ρ' → Wd f φ us ρ' [] σ' [] H' → E.bk σ' H') → (∀ ρ' σ' H', D.ct ρ' → Wd f φ us ρ' [] σ' [] H' → E.ct σ' H') →
  (∀ c ρ' v σ' H', D.rt c ρ' → Wd f φ us ρ' [c] σ' [some v] H' → E.rt v H') → t E σ H
/-- the value c is put to a target -/
def Eg (f : Fr) (ρ : List Cell) (c : Cell) (g : TG) (Ψ : List Cell → Prop) : Prop := ∀ φ us σ H v qs, Wd f φ us ρ ([] ++ [c]) σ ([] ++ [some v]) H → (∀ ρ' σ' H', Ψ ρ' → Wd f φ us ρ' [] σ' [] H' → qs σ' H') → g v σ H qs
def r1v (r : V → Hp → VK → Prop) : List V → Hp → VK → Prop := fun vs H Q => ∀ a, vs = [a] → r a H Q
def r2v (r : R2) : List V → Hp → VK → Prop := fun vs H Q => ∀ a b, vs = [a, b] → r a b H Q
def rMv (r : V → List V → Hp → VK → Prop) : List V → Hp → VK → Prop := fun vs H Q => ∀ x xs, vs = x :: xs → r x xs H Q
/-- the cell c stands at i -/
inductive CAt : List Cell → Nat → Cell → Prop
  | zero {l c} : CAt (c :: l) 0 c
  | succ {l i c x} : CAt l i c → CAt (x :: l) (i + 1) c
theorem CAt.eq {ρ i c} (h : CAt ρ i c) : ρ[i]? = some c := by
  induction h with
  | zero => rfl
  | succ _ ih => simpa using ih
inductive CSet : List Cell → Nat → Cell → List Cell → Prop
  | zero {x l c} : CSet (x :: l) 0 c (c :: l)
  | succ {l i c x r} : CSet l i c r → CSet (x :: l) (i + 1) c (x :: r)
theorem CSet.eq {ρ i c r} (h : CSet ρ i c r) : ρ.set i c = r := by
  induction h with
  | zero => rfl
  | succ _ ih => simp [ih]
theorem CSet.lt {ρ i c r} (h : CSet ρ i c r) : i < ρ.length := by
  induction h with
  | zero => simp
  | succ _ ih => simpa using ih
/-- no places are held (a test that computes) -/
def noP : List Cell → Bool
  | [] => true
  | .pl _ _ :: _ => false
  | _ :: l => noP l
theorem noP_ok {i : Nat} : ∀ {cs : List Cell}, noP cs = true → noPl i cs
  | [], _, _, h, _, _, _ => by cases h
  | .t _ :: l, h, c, hc, j, p, e => by
    rcases List.mem_cons.mp hc with rfl | hc
    · cases e
    · exact noP_ok (cs := l) h c hc j p e
  | .sto :: l, h, c, hc, j, p, e => by
    rcases List.mem_cons.mp hc with rfl | hc
    · cases e
    · exact noP_ok (cs := l) h c hc j p e
  | .exc _ _ _ :: l, h, c, hc, j, p, e => by
    rcases List.mem_cons.mp hc with rfl | hc
    · cases e
    · exact noP_ok (cs := l) h c hc j p e
  | .ins _ _ _ _ :: l, h, c, hc, j, p, e => by
    rcases List.mem_cons.mp hc with rfl | hc
    · cases e
    · exact noP_ok (cs := l) h c hc j p e
  | .dead :: l, h, c, hc, j, p, e => by
    rcases List.mem_cons.mp hc with rfl | hc
    · cases e
    · exact noP_ok (cs := l) h c hc j p e
inductive Scl : V → D → Prop
  | int (i : Int) : Scl (.int i) (.int i)
  | bl (b : Bool) : Scl (.bl b) (.bl b)
  | str (x : Str) : Scl (.str x) (.str x)
  | non : Scl .non .non
theorem Scl.dt {A K H v d} (h : Scl v d) : Dt A K H v d := by cases h <;> constructor
inductive LkL (ρ : List Cell) : List Cell → List D → Prop
  | nil : LkL ρ [] []
  | cons {c cs d ds} : Lk ρ c d → LkL ρ cs ds → LkL ρ (c :: cs) (d :: ds)
section
variable {f : Fr} {m : Bool} {φ ρ ρ' ρ1 τ : List Cell} {us ws : List (Option V)} {σ : St} {H H' : Hp} {i : Nat} {v : V} {x : T} {d : D} {c c1 c2 : Cell} {Φ : Cell → List Cell → Prop} {Ψ : List Cell → Prop} {Φb : Bool → List Cell → Prop} {ΦA : List Cell → List Cell → Prop} {ta tb te to ti : TE} {tr : TA} {tt tu : TT} {t u : TS} {Dn : Pn} {g : TG}
theorem Wd.args : ∀ {cs : List Cell} {ds : List D} {vs : List V} {τ : List Cell} {ws : List (Option V)}, Wd f φ us ρ (τ ++ cs) σ (ws ++ vs.map some) H → τ.length = ws.length → vs.length = cs.length → LkL ρ cs ds → DtL (fun a => a ∉ f.M) f.K H vs ds
  | [], _, vs, _, _, _, _, l, .nil => by
    have : vs = [] := List.length_eq_zero_iff.mp l
    subst this
    exact .nil
  | c :: cs, _, [], _, _, _, _, l, _ => by cases l
  | c :: cs, _, v :: vs, τ, ws, W, h, l, .cons k ks => by
    obtain ⟨v', e, hd⟩ := W.lk (k := τ.length) (by rw [List.getElem?_append_right (Nat.le_refl _), Nat.sub_self]; rfl) k
    rw [h, List.getElem?_append_right (Nat.le_refl _), Nat.sub_self] at e
    cases e
    refine .cons hd (Wd.args (τ := τ ++ [c]) (ws := ws ++ [some v]) ?_ (by simp [h]) (Nat.succ.inj l) ks)
    rw [List.append_assoc, List.append_assoc]
    exact W
/-! ### names, constants -/
theorem ev_var_d (e : CAt ρ i (.t (.d d))) (q : Φ (.t (.d d)) ρ) : Ev f m ρ τ (tVar i) Φ := fun φ us σ ws H Q W k => by
  obtain ⟨v, e1, W1⟩ := W.copy e.eq
  exact ⟨v, e1, k _ _ _ _ q W1⟩
theorem ev_var_pl (e : CAt ρ i (.t x)) (n : x.node = true) (q : Φ (.pl i []) ρ) : Ev f false ρ τ (tVar i) Φ := fun φ us σ ws H Q W k => by
  obtain ⟨v, e1, W1⟩ := W.place e.eq n
  exact ⟨v, e1, k _ _ _ _ q W1⟩
theorem ev_var_sto (e : CAt ρ i .sto) (q : Φ .sto ρ) : Ev f m ρ τ (tVar i) Φ := fun φ us σ ws H Q W k => by
  obtain ⟨e1, W1⟩ := W.storeV e.eq
  exact ⟨_, e1, k _ _ _ _ q W1⟩
theorem ev_var_fz (e : CAt ρ i (.t x)) (hd : x.data = d) (s : CSet ρ i (.t (.d d)) ρ') (n1 : noP ρ = true) (n2 : noP τ = true) (q : Φ (.t (.d d)) ρ') : Ev f true ρ τ (tVar i) Φ := fun φ us σ ws H Q W k => by
  subst hd
  obtain ⟨v, e1, W1⟩ := W.frz e.eq (noP_ok n1) (noP_ok n2)
  rw [s.eq] at W1
  exact ⟨v, e1, k _ _ _ _ q W1⟩
/-- a slot of which the proof says that it hands its value on -/
inductive Mv : Nat → Prop
  | mk {i : Nat} : Mv i
theorem ev_var_mv (_ : Mv i) (e : CAt ρ i (.t x)) (s : CSet ρ i .dead ρ') (n1 : noP ρ = true) (n2 : noP τ = true) (q : Φ (.t x) ρ') : Ev f true ρ τ (tVar i) Φ := fun φ us σ ws H Q W k => by
  obtain ⟨v, e1, W1⟩ := W.mv e.eq (noP_ok n1) (noP_ok n2)
  rw [s.eq] at W1
  exact ⟨v, e1, k _ _ _ _ q W1⟩
theorem ev_c (s : Scl v d) (q : Φ (.t (.d d)) ρ) : Ev f m ρ τ (tC v) Φ := fun _ _ _ _ _ _ W k => k _ _ _ _ q (W.scal fun _ _ => s.dt)
/-! ### operators -/
theorem ev_op {r : R2} (q : Ev f false ρ τ ta fun c1 ρ1 => Ev f false ρ1 (τ ++ [c1]) tb fun c2 ρ2 => Vo f ρ2 τ (r2v r) [c1, c2] Φ) : Ev f m ρ τ (tOp r ta tb) Φ := fun φ us σ ws H Q W k =>
  q φ us σ ws H _ W fun c1 ρ1 v1 H1 q1 W1 => q1 φ us σ _ H1 _ W1 fun c2 ρ2 v2 H2 q2 W2 => q2 φ us σ ws H2 Q [v1, v2] rfl W.l4 (by rw [List.append_assoc, List.append_assoc] at W2; exact W2) k _ _ rfl
theorem ev_un {r : V → Hp → VK → Prop} (q : Ev f false ρ τ ta fun c1 ρ1 => Vo f ρ1 τ (r1v r) [c1] Φ) : Ev f m ρ τ (tUn r ta) Φ := fun φ us σ ws H Q W k =>
  q φ us σ ws H _ W fun c1 ρ1 v1 H1 q1 W1 => q1 φ us σ ws H1 Q [v1] rfl W.l4 W1 k _ rfl
/-- an answer that is the same whatever the heap is -/
theorem vo_scal {R : List V → Hp → VK → Prop} {cs : List Cell} {ds : List D} {w : V} (ls : LkL ρ cs ds) (s : Scl w d) (h : ∀ (vs : List V) (H : Hp) (Q : VK), DtL (fun a => a ∉ f.M) f.K H vs ds → Q w H → R vs H Q) (q : Φ (.t (.d d)) ρ) : Vo f ρ τ R cs Φ := fun φ us σ ws H Q vs l hl W k =>
  h vs H Q (W.args hl l ls) (k _ _ _ _ q ((W.pop hl).scal fun _ _ => s.dt))
theorem lkI {a : Int} : Lk ρ (cI a) (.int a) := .t rfl
theorem vo_int2 {R : List V → Hp → VK → Prop} {a b : Int} {w : V} (s : Scl w d) (h : ∀ (H : Hp) (Q : VK), Q w H → R [.int a, .int b] H Q) (q : Φ (.t (.d d)) ρ) : Vo f ρ τ R [cI a, cI b] Φ := vo_scal (.cons lkI (.cons lkI .nil)) s (fun vs H Q hd z => by
  cases hd with
  | cons h1 t => cases t with
    | cons h2 t => cases t; cases h1; cases h2; exact h H Q z) q
theorem vo_int1 {R : List V → Hp → VK → Prop} {a : Int} {w : V} (s : Scl w d) (h : ∀ (H : Hp) (Q : VK), Q w H → R [.int a] H Q) (q : Φ (.t (.d d)) ρ) : Vo f ρ τ R [cI a] Φ := vo_scal (.cons lkI .nil) s (fun vs H Q hd z => by
  cases hd with
  | cons h1 t => cases t; cases h1; exact h H Q z) q
theorem r2v_of {r : R2} {a b : V} {H : Hp} {Q : VK} (h : r a b H Q) : r2v r [a, b] H Q := fun _ _ e => by cases e; exact h
theorem r1v_of {r : V → Hp → VK → Prop} {a : V} {H : Hp} {Q : VK} (h : r a H Q) : r1v r [a] H Q := fun _ e => by cases e; exact h
theorem vo_I0 {g : Int → Int → V} {a b : Int} (s : Scl (g a b) d) (q : Φ (.t (.d d)) ρ) : Vo f ρ τ (r2v (rI0 g)) [cI a, cI b] Φ := vo_int2 s (fun _ _ z => r2v_of (x_I0 z)) q
theorem vo_I {C : Int → Int → Prop} {g : Int → Int → V} {a b : Int} (cc : C a b) (s : Scl (g a b) d) (q : Φ (.t (.d d)) ρ) : Vo f ρ τ (r2v (rI C g)) [cI a, cI b] Φ := vo_int2 s (fun _ _ z => r2v_of (x_I cc z)) q
theorem vo_U {g : Int → V} {a : Int} (s : Scl (g a) d) (q : Φ (.t (.d d)) ρ) : Vo f ρ τ (r1v (rU g)) [cI a] Φ := vo_int1 s (fun _ _ z => r1v_of (x_U z)) q
theorem vo_eqI {a b : Int} (q : Φ (cB (decide (a = b))) ρ) : Vo f ρ τ (r2v rEq) [cI a, cI b] Φ := vo_int2 (.bl _) (fun _ _ z => r2v_of (x_eqI z)) q
theorem vo_neI {a b : Int} (q : Φ (cB (!decide (a = b))) ρ) : Vo f ρ τ (r2v rNe) [cI a, cI b] Φ := vo_int2 (.bl _) (fun _ _ z => r2v_of (x_neI z)) q
theorem vo_str2 {R : List V → Hp → VK → Prop} {a b : Str} {w : V} (s : Scl w d) (h : ∀ (H : Hp) (Q : VK), Q w H → R [.str a, .str b] H Q) (q : Φ (.t (.d d)) ρ) : Vo f ρ τ R [cS a, cS b] Φ := vo_scal (.cons (.t rfl) (.cons (.t rfl) .nil)) s (fun vs H Q hd z => by
  cases hd with
  | cons h1 t => cases t with
    | cons h2 t => cases t; cases h1; cases h2; exact h H Q z) q
theorem vo_eqS {a b : Str} (q : Φ (cB (decide (a = b))) ρ) : Vo f ρ τ (r2v rEq) [cS a, cS b] Φ := vo_str2 (.bl _) (fun _ _ z => r2v_of (x_eqS z)) q
theorem vo_neS {a b : Str} (q : Φ (cB (!decide (a = b))) ρ) : Vo f ρ τ (r2v rNe) [cS a, cS b] Φ := vo_str2 (.bl _) (fun _ _ z => r2v_of (x_neS z)) q
theorem vo_eqB {a b : Bool} (q : Φ (cB (a == b)) ρ) : Vo f ρ τ (r2v rEq) [cB a, cB b] Φ := vo_scal (.cons (.t rfl) (.cons (.t rfl) .nil)) (.bl _) (fun vs H Q hd z => by
  cases hd with
  | cons h1 t => cases t with
    | cons h2 t => cases t; cases h1; cases h2; exact r2v_of (x_eqB z)) q
/-! ### what is None -/
def D.isN : D → Bool
  | .non => true
  | _ => false
theorem Dt.isN {A K H v d} (h : Dt A K H v d) : decide (v = .non) = d.isN := by cases h <;> rfl
theorem vo_isN (l : Lk ρ c1 d) (q : Φ (cB d.isN) ρ) : Vo f ρ τ (r2v rIsN) [c1, cN] Φ := vo_scal (.cons l (.cons (.t rfl) .nil)) (.bl _) (fun vs H Q hd z => by
  cases hd with
  | cons h1 t => cases t with
    | cons h2 t =>
      cases t
      cases h2
      rw [← h1.isN] at z
      exact r2v_of (x_isN z)) q
theorem vo_notN (l : Lk ρ c1 d) (q : Φ (cB (!d.isN)) ρ) : Vo f ρ τ (r2v rNotN) [c1, cN] Φ := vo_scal (.cons l (.cons (.t rfl) .nil)) (.bl _) (fun vs H Q hd z => by
  cases hd with
  | cons h1 t => cases t with
    | cons h2 t =>
      cases t
      cases h2
      rw [← h1.isN] at z
      exact r2v_of (x_notN z)) q
/-! ### tests -/
theorem et_test (q : Ev f false ρ τ te fun c ρ1 => ∃ b, c = cB b ∧ Φb b ρ1) : Et f ρ τ (tTest te) Φb := fun φ us σ ws H Q W k =>
  q φ us σ ws H _ W fun c ρ1 v1 H1 ⟨b, ec, q1⟩ W1 => by
    subst ec
    obtain ⟨_, e, hd⟩ := W1.lk (k := τ.length) (by rw [List.getElem?_append_right (Nat.le_refl _), Nat.sub_self]; rfl) (.t rfl)
    rw [W.l4, List.getElem?_append_right (Nat.le_refl _), Nat.sub_self] at e
    cases e
    cases hd
    exact ⟨b, rfl, k _ _ _ q1 (W1.pop W.l4)⟩
theorem et_b {b : Bool} {P : Bool → Prop} (q : P b) : ∃ b', cB b = cB b' ∧ P b' := ⟨b, rfl, q⟩
theorem et_B (q : Ev f false ρ τ te fun c ρ1 => ∃ b, c = cB b ∧ Φb b ρ1) : Et f ρ τ (tB te) Φb := et_test q
theorem et_not (q : Et f ρ τ tt fun b ρ1 => Φb (!b) ρ1) : Et f ρ τ (tNot tt) Φb := fun φ us σ ws H Q W k => q φ us σ ws H _ W fun b ρ1 H1 q1 W1 => k _ _ _ q1 W1
theorem et_and (q : Et f ρ τ tt fun b ρ1 => if b = true then Et f ρ1 τ tu Φb else Φb false ρ1) : Et f ρ τ (tAnd tt tu) Φb := fun φ us σ ws H Q W k => q φ us σ ws H _ W fun b ρ1 H1 q1 W1 => by
  cases b with
  | true => exact (if_pos rfl : (if true = true then tu σ H1 Q else Q false H1) = _) ▸ q1 φ us σ ws H1 Q W1 k
  | false => exact (if_neg Bool.false_ne_true : (if false = true then tu σ H1 Q else Q false H1) = _) ▸ k _ _ _ q1 W1
theorem et_or (q : Et f ρ τ tt fun b ρ1 => if b = true then Φb true ρ1 else Et f ρ1 τ tu Φb) : Et f ρ τ (tOr tt tu) Φb := fun φ us σ ws H Q W k => q φ us σ ws H _ W fun b ρ1 H1 q1 W1 => by
  cases b with
  | true => exact (if_pos rfl : (if true = true then Q true H1 else tu σ H1 Q) = _) ▸ k _ _ _ q1 W1
  | false => exact (if_neg Bool.false_ne_true : (if false = true then Q true H1 else tu σ H1 Q) = _) ▸ q1 φ us σ ws H1 Q W1 k
theorem ev_ifE (q : Et f ρ τ tt fun b ρ1 => if b = true then Ev f m ρ1 τ ta Φ else Ev f m ρ1 τ tb Φ) : Ev f m ρ τ (tIf tt ta tb) Φ := fun φ us σ ws H Q W k => q φ us σ ws H _ W fun b ρ1 H1 q1 W1 => by
  cases b with
  | true => exact (if_pos rfl : (if true = true then ta σ H1 Q else tb σ H1 Q) = _) ▸ q1 φ us σ ws H1 Q W1 k
  | false => exact (if_neg Bool.false_ne_true : (if false = true then ta σ H1 Q else tb σ H1 Q) = _) ▸ q1 φ us σ ws H1 Q W1 k
theorem ev_boolv {W1 : Wd f φ us ρ (τ ++ [cB b]) σ (ws ++ [some v]) H} (l : τ.length = ws.length) : v = .bl b := by
  obtain ⟨_, e, hd⟩ := W1.lk (k := τ.length) (by rw [List.getElem?_append_right (Nat.le_refl _), Nat.sub_self]; rfl) (.t rfl)
  rw [l, List.getElem?_append_right (Nat.le_refl _), Nat.sub_self] at e
  cases e
  cases hd
  rfl
theorem ev_andV (q : Ev f false ρ τ ta fun c ρ1 => ∃ b, c = cB b ∧ if b = true then Ev f m ρ1 τ tb Φ else Φ (cB false) ρ1) : Ev f m ρ τ (tAndV ta tb) Φ := fun φ us σ ws H Q W k => q φ us σ ws H _ W fun c ρ1 v1 H1 ⟨b, ec, q1⟩ W1 => by
  subst ec
  obtain rfl := ev_boolv (W1 := W1) W.l4
  refine ⟨b, rfl, ?_⟩
  cases b with
  | true => exact (if_pos rfl : (if true = true then tb σ H1 Q else Q (.bl false) H1) = _) ▸ q1 φ us σ ws H1 Q (W1.pop W.l4) k
  | false => exact (if_neg Bool.false_ne_true : (if false = true then tb σ H1 Q else Q (.bl false) H1) = _) ▸ k _ _ _ _ q1 W1
theorem ev_orV (q : Ev f false ρ τ ta fun c ρ1 => ∃ b, c = cB b ∧ if b = true then Φ (cB true) ρ1 else Ev f m ρ1 τ tb Φ) : Ev f m ρ τ (tOrV ta tb) Φ := fun φ us σ ws H Q W k => q φ us σ ws H _ W fun c ρ1 v1 H1 ⟨b, ec, q1⟩ W1 => by
  subst ec
  obtain rfl := ev_boolv (W1 := W1) W.l4
  refine ⟨b, rfl, ?_⟩
  cases b with
  | true => exact (if_pos rfl : (if true = true then Q (.bl true) H1 else tb σ H1 Q) = _) ▸ k _ _ _ _ q1 W1
  | false => exact (if_neg Bool.false_ne_true : (if false = true then Q (.bl true) H1 else tb σ H1 Q) = _) ▸ q1 φ us σ ws H1 Q (W1.pop W.l4) k
theorem ev_notV (q : Ev f false ρ τ ta fun c ρ1 => ∃ b, c = cB b ∧ Φ (cB (!b)) ρ1) : Ev f m ρ τ (tNotV ta) Φ := fun φ us σ ws H Q W k => q φ us σ ws H _ W fun c ρ1 v1 H1 ⟨b, ec, q1⟩ W1 => by
  subst ec
  obtain rfl := ev_boolv (W1 := W1) W.l4
  exact ⟨b, rfl, k _ _ _ _ q1 ((W1.pop W.l4).scal fun _ _ => .bl _)⟩
/-! ### arguments, displays -/
theorem ea_nil (q : ΦA [] ρ) : EvA f m ρ τ tNil ΦA := fun φ us σ ws H Q W k => k [] ρ [] H rfl q (by rw [List.append_nil, List.map_nil, List.append_nil]; exact W)
theorem ea_cons (q : Ev f m ρ τ ta fun c ρ1 => EvA f m ρ1 (τ ++ [c]) tr fun cs ρ2 => ΦA (c :: cs) ρ2) : EvA f m ρ τ (tCons ta tr) ΦA := fun φ us σ ws H Q W k =>
  q φ us σ ws H _ W fun c ρ1 v1 H1 q1 W1 => q1 φ us σ _ H1 _ W1 fun cs ρ2 vs H2 l q2 W2 => k (c :: cs) ρ2 (v1 :: vs) H2 (congrArg Nat.succ l) q2 (by rw [List.append_assoc, List.append_assoc] at W2; exact W2)
inductive TsOf : List Cell → List T → Prop
  | nil : TsOf [] []
  | cons {x cs xs} : TsOf cs xs → TsOf (.t x :: cs) (x :: xs)
theorem TsOf.eq {cs xs} (h : TsOf cs xs) : cs = xs.map Cell.t := by
  induction h with
  | nil => rfl
  | cons _ ih => rw [List.map_cons, ← ih]
theorem ev_disp (ok : f.Ok) (b : Bool) (q : EvA f true ρ τ tr fun cs ρ1 => ∃ xs, TsOf cs xs ∧ xs.length ≤ 100000 ∧ Φ (.t (if b then .lst xs else .tup xs)) ρ1) (φ us σ ws H) (Q : VK) (W : Wd f φ us ρ τ σ ws H) (k : ∀ c ρ' v H', Φ c ρ' → Wd f φ us ρ' (τ ++ [c]) σ (ws ++ [some v]) H' → Q v H') :
    tr σ H (Disp (fun vs => if b then HO.lst vs else HO.tup vs) Q) := q φ us σ ws H _ W fun cs ρ1 vs H1 l ⟨xs, e, hl, q1⟩ W1 => by
  obtain rfl := e.eq
  rw [List.length_map] at l
  exact ⟨sz_of (by omega), fun p hp => k _ _ _ _ q1 (W1.pack ok W.l4 hp b)⟩
theorem ev_lst (ok : f.Ok) (q : EvA f true ρ τ tr fun cs ρ1 => ∃ xs, TsOf cs xs ∧ xs.length ≤ 100000 ∧ Φ (.t (.lst xs)) ρ1) : Ev f m ρ τ (tLst tr) Φ := fun φ us σ ws H Q W k => ev_disp ok true q φ us σ ws H Q W k
theorem ev_tup (ok : f.Ok) (q : EvA f true ρ τ tr fun cs ρ1 => ∃ xs, TsOf cs xs ∧ xs.length ≤ 100000 ∧ Φ (.t (.tup xs)) ρ1) : Ev f m ρ τ (tTup tr) Φ := fun φ us σ ws H Q W k => ev_disp ok false q φ us σ ws H Q W k
theorem ts_done {cs : List Cell} {xs : List T} {P : List T → Prop} (e : TsOf cs xs) (h : xs.length ≤ 100000) (q : P xs) : ∃ xs, TsOf cs xs ∧ xs.length ≤ 100000 ∧ P xs := ⟨xs, e, h, q⟩
/-! ### statements -/
theorem es_seq (q : Es f ρ t { Dn with nx := fun ρ1 => Es f ρ1 u Dn }) : Es f ρ (tSeq t u) Dn := fun φ us σ H E W k1 k2 k3 k4 =>
  q φ us σ H { E with nx := u E } W (fun ρ1 σ1 H1 q1 W1 => q1 φ us σ1 H1 E W1 k1 k2 k3 k4) k2 k3 k4
theorem es_next (q : Dn.nx ρ) : Es f ρ tNext Dn := fun _ _ _ _ _ W k1 _ _ _ => k1 _ _ _ q W
theorem es_brk (q : Dn.bk ρ) : Es f ρ tBreak Dn := fun _ _ _ _ _ W _ k2 _ _ => k2 _ _ _ q W
theorem es_cont (q : Dn.ct ρ) : Es f ρ tCont Dn := fun _ _ _ _ _ W _ _ k3 _ => k3 _ _ _ q W
theorem es_drop (q : Ev f false ρ [] te fun _ ρ1 => Dn.nx ρ1) : Es f ρ (tDrop te) Dn := fun φ us σ H E W k1 _ _ _ => q φ us σ [] H _ W fun _ _ _ _ q1 W1 => k1 _ _ _ q1 (W1.pop (τ := []) (ws := []) rfl)
theorem es_ret (q : Ev f true ρ [] te fun c ρ1 => Dn.rt c ρ1) : Es f ρ (tRet te) Dn := fun φ us σ H E W _ _ _ k4 => q φ us σ [] H _ W fun _ _ _ _ q1 W1 => k4 _ _ _ _ _ q1 W1
/-- return x, x of one's own: handed on -/
theorem es_retV (e : CAt ρ i (.t x)) (s : CSet ρ i .dead ρ') (n1 : noP ρ = true) (q : Dn.rt (.t x) ρ') : Es f ρ (tRet (tVar i)) Dn := es_ret (ev_var_mv .mk e s n1 rfl q)
theorem es_retN (q : Dn.rt cN ρ) : Es f ρ tRetN Dn := fun φ us σ H E W _ _ _ k4 => k4 _ _ _ _ _ q (W.scal (v := .non) fun _ _ => .non)
theorem es_if (q : Et f ρ [] tt fun b ρ1 => if b = true then Es f ρ1 t Dn else Es f ρ1 u Dn) : Es f ρ (tIfS tt t u) Dn := fun φ us σ H E W k1 k2 k3 k4 => q φ us σ [] H _ W fun b ρ1 H1 q1 W1 => by
  cases b with
  | true => exact (if_pos rfl : (if true = true then t E σ H1 else u E σ H1) = _) ▸ q1 φ us σ H1 E W1 k1 k2 k3 k4
  | false => exact (if_neg Bool.false_ne_true : (if false = true then t E σ H1 else u E σ H1) = _) ▸ q1 φ us σ H1 E W1 k1 k2 k3 k4
theorem es_asg (q : Ev f true ρ [] te fun c ρ1 => Eg f ρ1 c g Dn.nx) : Es f ρ (tAsg te g) Dn := fun φ us σ H E W k1 _ _ _ => q φ us σ [] H _ W fun c ρ1 v1 H1 q1 W1 => q1 φ us σ H1 v1 _ W1 k1
theorem eg_name (s : CSet ρ i (.t x) ρ') (n : noP ρ = true) (q : Ψ ρ') : Eg f ρ (.t x) (gName i) Ψ := fun φ us σ H v qs W k => by
  have W1 := W.set rfl s.lt (noP_ok n) (fun _ z => nomatch z)
  rw [s.eq] at W1
  exact k _ _ _ q W1
theorem slotI {a : Int} (W : Wd f φ us ρ τ σ ws H) (e : CAt ρ i (cI a)) : σ[i]? = some (some (.int a)) := by
  obtain ⟨v, e1, hd⟩ := W.lkS e.eq (.t rfl)
  cases hd
  exact e1
/-- i += e, ints -/
theorem es_augI {g : Int → Int → Int} {a : Int} (e : CAt ρ i (cI a)) (q : Ev f false ρ [] te fun c2 ρ1 => ∃ b ρ', c2 = cI b ∧ CSet ρ1 i (cI (g a b)) ρ' ∧ noP ρ1 = true ∧ Dn.nx ρ') : Es f ρ (tAug i te (ipI g)) Dn := fun φ us σ H E W k1 _ _ _ => by
  refine ⟨_, slotI W e, q φ us σ [] H _ W fun c2 ρ1 v2 H1 ⟨b, ρ', ec, s, n, q1⟩ W1 => ?_⟩
  subst ec
  obtain ⟨_, e2, hd⟩ := W1.lk (k := 0) rfl (.t rfl)
  cases e2
  cases hd
  have W2 := ((W1.pop (τ := []) (ws := []) rfl).scal (v := .int (g a b)) (d := .int (g a b)) fun _ _ => .int _).set rfl s.lt (noP_ok n) (fun _ z => nomatch z)
  rw [s.eq] at W2
  exact ⟨a, b, rfl, rfl, k1 _ _ _ q1 W2⟩
/-- a slot's things are nobody's from here on -/
theorem es_fz (e : CAt ρ i (.t x)) (hd : x.data = d) (s : CSet ρ i (.t (.d d)) ρ') (n1 : noP ρ = true) (q : Es f ρ' t Dn) : Es f ρ t Dn := fun φ us σ H E W k1 k2 k3 k4 => by
  subst hd
  obtain ⟨v, _, W1⟩ := W.frz e.eq (noP_ok n1) (fun _ z => nomatch z)
  rw [s.eq] at W1
  exact q φ us σ H E (W1.pop (τ := []) (ws := []) rfl) k1 k2 k3 k4
theorem es_kill (s : CSet ρ i .dead ρ') (n1 : noP ρ = true) (q : Es f ρ' t Dn) : Es f ρ t Dn := fun φ us σ H E W k1 k2 k3 k4 => by
  have W1 := W.kill s.lt (noP_ok n1) (fun _ z => nomatch z)
  rw [s.eq] at W1
  exact q φ us σ H E W1 k1 k2 k3 k4
theorem es_mono {D1 : Pn} (h : Es f ρ t D1) (h1 : ∀ ρ, D1.nx ρ → Dn.nx ρ) (h2 : ∀ ρ, D1.bk ρ → Dn.bk ρ) (h3 : ∀ ρ, D1.ct ρ → Dn.ct ρ) (h4 : ∀ c ρ, D1.rt c ρ → Dn.rt c ρ) : Es f ρ t Dn := fun φ us σ H E W k1 k2 k3 k4 =>
  h φ us σ H E W (fun _ _ _ z => k1 _ _ _ (h1 _ z)) (fun _ _ _ z => k2 _ _ _ (h2 _ z)) (fun _ _ _ z => k3 _ _ _ (h3 _ z)) fun _ _ _ _ _ z => k4 _ _ _ _ _ (h4 _ _ z)
/-- a joint behind a statement -/
theorem es_cut (M : List Cell → Prop) (h1 : Es f ρ t { Dn with nx := M }) (h2 : ∀ ρ1, M ρ1 → Es f ρ1 u Dn) : Es f ρ (tSeq t u) Dn := es_seq (es_mono h1 h2 (fun _ z => z) (fun _ z => z) fun _ _ z => z)
end
end LN
namespace LN
open PySem PySem.Spec PyProof.Rows L2
section
variable {f : Fr} {m : Bool} {φ ρ ρ' ρ1 τ : List Cell} {us ws : List (Option V)} {σ : St} {H H' : Hp} {i : Nat} {v : V} {x : T} {d : D} {c c1 c2 : Cell} {Φ : Cell → List Cell → Prop} {Ψ : List Cell → Prop} {Φb : Bool → List Cell → Prop} {ΦA : List Cell → List Cell → Prop} {ta tb te to ti : TE} {tr : TA} {tt tu : TT} {t u : TS} {Dn : Pn} {g : TG}
/-! ### reading lists, tuples -/
/-- values read, something made of them -/
theorem vo_make {R : List V → Hp → VK → Prop} {cs : List Cell} {ds : List D} (ls : LeafL ρ cs ds) (h : ∀ (φ : List Cell) us σ ws H vs A (Q : VK), DtNL A f.K H vs ds → Make f φ us ρ τ σ ws H A → (∀ c v H', Φ c ρ → Wd f φ us ρ (τ ++ [c]) σ (ws ++ [some v]) H' → Q v H') → R vs H Q) : Vo f ρ τ R cs Φ := fun φ us σ ws H Q vs l hl W k => by
  obtain ⟨A, hd, mk⟩ := W.items hl l ls
  exact h φ us σ ws H vs A Q hd mk fun c v H' z W' => k c ρ v H' z W'
theorem DtL.at' {A K H} {vs : List V} {l : List D} {k : Int} {y : D} (h : DtL A K H vs l) (e : atI l k = some y) : ∃ v, atI vs k = some v ∧ Dt A K H v y := by
  unfold atI at e ⊢
  rw [h.length]
  cases q : ixN l.length k with
  | none => rw [q] at e; cases e
  | some j => rw [q] at e; exact h.get e
theorem vo_ixL {l : List D} {k : Int} {y : D} (lf : Leaf ρ c1 (.lst l)) (e : atI l k = some y) (q : Φ (.t (.d y)) ρ) : Vo f ρ τ (r2v (rIxL f.K)) [c1, cI k] Φ := vo_make (.cons lf (.cons .fz .nil)) fun φ us σ ws H vs A Q hd mk kk => by
  cases hd with
  | cons h1 t =>
    cases t with
    | cons h2 t =>
      cases t
      cases h2
      obtain ⟨a, xs, rfl, e1, r⟩ := h1
      obtain ⟨w, e2, h3⟩ := r.at' e
      exact r2v_of ⟨a, xs, k, w, rfl, rfl, SqL.of e1, e2, kk _ _ _ q (mk.one _ _ h3)⟩
theorem vo_ixT {l : List D} {k : Int} {y : D} (lf : Leaf ρ c1 (.tup l)) (e : atI l k = some y) (q : Φ (.t (.d y)) ρ) : Vo f ρ τ (r2v (rIxT f.K)) [c1, cI k] Φ := vo_make (.cons lf (.cons .fz .nil)) fun φ us σ ws H vs A Q hd mk kk => by
  cases hd with
  | cons h1 t =>
    cases t with
    | cons h2 t =>
      cases t
      cases h2
      obtain ⟨a, xs, rfl, e1, r⟩ := h1
      obtain ⟨w, e2, h3⟩ := r.at' e
      exact r2v_of ⟨a, xs, k, w, rfl, rfl, e1, e2, kk _ _ _ q (mk.one _ _ h3)⟩
theorem at_nat {α : Type} {l : List α} {j : Nat} {y : α} (e : l[j]? = some y) : atI l (j : Int) = some y := by
  unfold atI
  rw [ixN_at (List.getElem?_eq_some_iff.mp e).1]
  exact e
/-- one's own list within one's own -/
theorem vo_ixPl {j : Nat} {p : List Nat} {x s : T} {l : List T} {k : Int} {n : Nat} (e : CAt ρ j (.t x)) (ea : x.at p = some (.lst l)) (hk : ixN l.length k = some n) (es : l[n]? = some s) (hs : s.node = true) (q : Φ (.pl j (p ++ [n])) ρ) : Vo f ρ τ (r2v (rIxL f.K)) [.pl j p, cI k] Φ := fun φ us σ ws H Q vs lv hl W kk => by
  match vs, lv with
  | [v1, v2], _ =>
    have W' := W
    obtain ⟨u1, x', s', w, z1, z2, z3, z4, z5, z6⟩ := W.plc (k := τ.length) (by rw [List.getElem?_append_right (Nat.le_refl _), Nat.sub_self]; rfl)
    obtain ⟨u2, y1, y2⟩ := W.lk (k := τ.length + 1) (c := cI k) (by rw [List.getElem?_append_right (by omega), Nat.add_sub_cancel_left]; rfl) (.t rfl)
    rw [hl, List.getElem?_append_right (Nat.le_refl _), Nat.sub_self] at z1
    rw [hl, List.getElem?_append_right (by omega), Nat.add_sub_cancel_left] at y1
    cases z1
    cases y1
    cases y2
    rw [e.eq] at z2
    cases z2
    rw [ea] at z3
    cases z3
    obtain ⟨g, R⟩ := W.rep
    obtain ⟨v0, F, r1, r2, r3⟩ := R.tcell (at3 e.eq)
    rw [at3 z5] at r1
    cases r1
    obtain ⟨w2, G2, t1, t2, t3, t4⟩ := r2.walk ea
    have := Walk.uniq z6 t1
    subst this
    cases t2 with
    | @lst a vsl _ G e1 r n1 =>
      obtain ⟨sv, G3, ev, o3, _, _⟩ := r.split es
      refine r2v_of ⟨a, vsl, k, sv, rfl, rfl, SqL.of e1, ?_, ?_⟩
      · unfold atI
        rw [r.length, hk]
        exact ev
      · have W0 := W.pop hl
        have hat : x.at (p ++ [n]) = some s := by
          clear z6 t1 t4 q
          have key : ∀ {p : List Nat} {x : T}, x.at p = some (.lst l) → x.at (p ++ [n]) = some s := by
            intro p
            induction p with
            | nil =>
              intro x e
              cases e
              show (match l[n]? with | some s => T.at s [] | none => none) = some s
              rw [es]
              rfl
            | cons k p ih =>
              intro x e
              cases x with
              | d _ => cases e
              | lst l' =>
                show (match l'[k]? with | some s => s.at (p ++ [n]) | none => none) = some s
                have e' : (match l'[k]? with | some s => s.at p | none => none) = some (.lst l) := e
                cases q : l'[k]? with
                | none => rw [q] at e'; cases e'
                | some u => rw [q] at e'; exact ih e'
              | tup l' =>
                show (match l'[k]? with | some s => s.at (p ++ [n]) | none => none) = some s
                have e' : (match l'[k]? with | some s => s.at p | none => none) = some (.lst l) := e
                cases q : l'[k]? with
                | none => rw [q] at e'; cases e'
                | some u => rw [q] at e'; exact ih e'
          exact key ea
        obtain ⟨w4, G4, k1, _, _, _⟩ := r2.walk hat
        have : w4 = sv := by
          have key : ∀ {p : List Nat} {w : V}, Walk H w p (.ref a) → Walk H w (p ++ [n]) sv := by
            intro p
            induction p with
            | nil =>
              intro w h
              cases h
              exact ⟨a, vsl, sv, rfl, .inl e1, ev, rfl⟩
            | cons k p ih =>
              intro w ⟨b, ys, u, g1, g2, g3, g4⟩
              exact ⟨b, ys, u, g1, g2, g3, ih g4⟩
          exact k1.uniq (key z6)
        subst this
        refine kk _ _ _ _ q (W0.mk' (by simp [hl]) ⟨g, ?_⟩)
        have hb : ((ρ ++ φ) ++ τ).length = ((σ ++ us) ++ ws).length := by have := W0.base; have := W0.l4; simp at *; omega
        have R0 : RepG f g ((ρ ++ φ) ++ τ) ((σ ++ us) ++ ws) H := RepG.cut (c' := [.pl j p, cI k]) (u' := [V.ref a, V.int k].map some) hb (by have := W0.hn; simp at *; omega) (by rw [List.append_assoc, List.append_assoc (σ ++ us)]; exact R)
        rw [← List.append_assoc, ← List.append_assoc]
        exact R0.push ⟨by have := (List.getElem?_eq_some_iff.mp e.eq).1; have := W0.l1; omega, x, s, _, at3 e.eq, hat, hs, at3 z5, k1⟩
theorem DtN.seq {A K H} {v : V} {l : List D} (h : DtN A K H v (.lst l)) : ∃ a vs, v = .ref a ∧ SqL K H a vs ∧ vs.length = l.length := by
  obtain ⟨a, vs, e, h1, h2⟩ := h
  exact ⟨a, vs, e, SqL.of h1, h2.length⟩
theorem vo_lenL {l : List D} (lk : Lk ρ c1 (.lst l)) (q : Φ (cI l.length) ρ) : Vo f ρ τ (rLenS f.K) [c1] Φ := vo_scal (.cons lk .nil) (.int _) (fun vs H Q hd z => by
  cases hd with
  | cons h1 t =>
    cases t
    obtain ⟨a, xs, rfl, e1, r⟩ := h1.n
    rw [← r.length] at z
    exact x_lenL (SqL.of e1) z) q
theorem vo_lenT {l : List D} (lk : Lk ρ c1 (.tup l)) (q : Φ (cI l.length) ρ) : Vo f ρ τ (rLenS f.K) [c1] Φ := vo_scal (.cons lk .nil) (.int _) (fun vs H Q hd z => by
  cases hd with
  | cons h1 t =>
    cases t
    obtain ⟨a, xs, rfl, e1, r⟩ := h1.n
    rw [← r.length] at z
    exact x_lenT e1 z) q
theorem ev_cb {r : List V → Hp → VK → Prop} (q : EvA f false ρ τ tr fun cs ρ1 => Vo f ρ1 τ r cs Φ) : Ev f m ρ τ (tCB r tr) Φ := fun φ us σ ws H Q W k =>
  q φ us σ ws H _ W fun cs ρ1 vs H1 l q1 W1 => q1 φ us σ ws H1 Q vs l W.l4 W1 k
theorem vo_abs {a : Int} (q : Φ (cI (absI a)) ρ) : Vo f ρ τ rAbs [cI a] Φ := vo_int1 (.int _) (fun _ _ z => x_abs z) q
theorem vo_int {a : Int} (q : Φ (cI a) ρ) : Vo f ρ τ rInt1 [cI a] Φ := vo_int1 (.int _) (fun _ _ z => x_int1 z) q
theorem vo_max2 {a b : Int} (q : Φ (cI (if b > a then b else a)) ρ) : Vo f ρ τ rMax2 [cI a, cI b] Φ := vo_int2 (.int _) (fun _ _ z => x_max2 z) q
theorem vo_min2 {a b : Int} (q : Φ (cI (if b < a then b else a)) ρ) : Vo f ρ τ rMin2 [cI a, cI b] Φ := vo_int2 (.int _) (fun _ _ z => x_min2 z) q
theorem vo_sum {ns : List Int} (lk : Lk ρ c1 (dIs ns)) (q : Φ (cI ns.sum) ρ) : Vo f ρ τ (rSum f.K) [c1] Φ := vo_scal (.cons lk .nil) (.int _) (fun vs H Q hd z => by
  cases hd with
  | cons h1 t =>
    cases t
    obtain ⟨a, xs, rfl, e1, r⟩ := h1.n
    rw [r.ints] at e1
    exact ⟨a, ns, rfl, SqL.of e1, z⟩) q
theorem vo_maxL {ns : List Int} (lk : Lk ρ c1 (dIs ns)) (h0 : 0 < ns.length) (q : ∀ m, m ∈ ns → (∀ y, y ∈ ns → y ≤ m) → Φ (cI m) ρ) : Vo f ρ τ (rMax f.K) [c1] Φ := fun φ us σ ws H Q vs l hl W k => by
  have hd := W.args hl l (.cons lk .nil)
  cases hd with
  | cons h1 t =>
    cases t
    obtain ⟨a, xs, rfl, e1, r⟩ := h1.n
    rw [r.ints] at e1
    exact ⟨a, ns, rfl, SqL.of e1, h0, fun m h2 h3 => k _ _ _ _ (q m h2 h3) ((W.pop hl).scal fun _ _ => .int _)⟩
theorem vo_minL {ns : List Int} (lk : Lk ρ c1 (dIs ns)) (h0 : 0 < ns.length) (q : ∀ m, m ∈ ns → (∀ y, y ∈ ns → m ≤ y) → Φ (cI m) ρ) : Vo f ρ τ (rMin f.K) [c1] Φ := fun φ us σ ws H Q vs l hl W k => by
  have hd := W.args hl l (.cons lk .nil)
  cases hd with
  | cons h1 t =>
    cases t
    obtain ⟨a, xs, rfl, e1, r⟩ := h1.n
    rw [r.ints] at e1
    exact ⟨a, ns, rfl, SqL.of e1, h0, fun m h2 h3 => k _ _ _ _ (q m h2 h3) ((W.pop hl).scal fun _ _ => .int _)⟩
/-- list(xs) -/
theorem vo_listL (ok : f.Ok) {l : List D} (lf : Leaf ρ c1 (.lst l)) (q : Φ (.t (.row l)) ρ) : Vo f ρ τ (rListS f.K) [c1] Φ := vo_make (.cons lf .nil) fun φ us σ ws H vs A Q hd mk kk => by
  cases hd with
  | cons h1 t =>
    cases t
    obtain ⟨a, xs, rfl, e1, r⟩ := h1
    exact x_listL (SqL.of e1) fun p hp => kk _ _ _ q (mk.row ok p xs l true hp r)
theorem vo_listT (ok : f.Ok) {l : List D} (lf : Leaf ρ c1 (.tup l)) (q : Φ (.t (.row l)) ρ) : Vo f ρ τ (rListS f.K) [c1] Φ := vo_make (.cons lf .nil) fun φ us σ ws H vs A Q hd mk kk => by
  cases hd with
  | cons h1 t =>
    cases t
    obtain ⟨a, xs, rfl, e1, r⟩ := h1
    exact x_listT e1 fun p hp => kk _ _ _ q (mk.row ok p xs l true hp r)
/-- xs + ys -/
theorem vo_cat (ok : f.Ok) {l1 l2 : List D} (lf1 : Leaf ρ c1 (.lst l1)) (lf2 : Leaf ρ c2 (.lst l2)) (hl : l1.length + l2.length ≤ 100000) (q : Φ (.t (.row (l1 ++ l2))) ρ) : Vo f ρ τ (r2v rCat) [c1, c2] Φ := vo_make (.cons lf1 (.cons lf2 .nil)) fun φ us σ ws H vs A Q hd mk kk => by
  cases hd with
  | cons h1 t =>
    cases t with
    | cons h2 t =>
      cases t
      obtain ⟨a, xs, rfl, e1, r1⟩ := h1
      obtain ⟨b, ys, rfl, e2, r2⟩ := h2
      exact r2v_of (x_cat e1 e2 (by rw [r1.length, r2.length]; exact hl) fun p hp => kk _ _ _ q (mk.row ok p _ _ true hp (r1.append r2)))
/-- xs * n -/
theorem dtl_rep {A K H} {vs : List V} {l : List D} (h : DtL A K H vs l) : ∀ n : Nat, DtL A K H (List.replicate n vs).flatten (List.replicate n l).flatten
  | 0 => .nil
  | n + 1 => by
    rw [List.replicate_succ, List.replicate_succ, List.flatten_cons, List.flatten_cons]
    exact h.append (dtl_rep h n)
theorem vo_rep (ok : f.Ok) {l : List D} {n : Int} (lf : Leaf ρ c1 (.lst l)) (h1 : -100000 ≤ n) (h2 : n ≤ 100000) (hl : l.length * n.toNat ≤ 100000) (q : Φ (.t (.row (List.replicate n.toNat l).flatten)) ρ) : Vo f ρ τ (r2v rRep) [c1, cI n] Φ := vo_make (.cons lf (.cons .fz .nil)) fun φ us σ ws H vs A Q hd mk kk => by
  cases hd with
  | cons h0 t =>
    cases t with
    | cons h2' t =>
      cases t
      cases h2'
      obtain ⟨a, xs, rfl, e1, r1⟩ := h0
      exact r2v_of ⟨a, n, xs, rfl, rfl, e1, by omega, by omega, sz_of (by rw [r1.length]; exact hl), fun p hp => kk _ _ _ q (mk.row ok p _ _ true hp (dtl_rep r1 n.toNat))⟩
/-- xs[lo:hi] -/
def cutD (l : List D) (lo hi : Option Int) : List D := (l.drop (HT.sIx l.length 0 lo)).take (HT.sIx l.length l.length hi - HT.sIx l.length 0 lo)
theorem DtL.drop {A K H} : ∀ {vs : List V} {l : List D} (n : Nat), DtL A K H vs l → DtL A K H (vs.drop n) (l.drop n)
  | _, _, 0, h => h
  | _, _, _ + 1, .nil => .nil
  | _, _, n + 1, .cons _ t => t.drop n
theorem DtL.take {A K H} : ∀ {vs : List V} {l : List D} (n : Nat), DtL A K H vs l → DtL A K H (vs.take n) (l.take n)
  | _, _, 0, _ => .nil
  | _, _, _ + 1, .nil => .nil
  | _, _, n + 1, .cons r t => .cons r (t.take n)
theorem DtL.cut {A K H} {vs : List V} {l : List D} {lo hi : Option Int} (h : DtL A K H vs l) : DtL A K H (cutV vs lo hi) (cutD l lo hi) := by
  unfold cutV cutD
  rw [h.length]
  exact (h.drop _).take _
/-- an optional part of a slice -/
def Eo (f : Fr) (ρ τ : List Cell) (t : TO) (Φo : Option Int → List Cell → Prop) : Prop := ∀ φ us σ ws H Q, Wd f φ us ρ τ σ ws H → (∀ o ρ' H', Φo o ρ' → Wd f φ us ρ' τ σ ws H' → Q o H') → t σ H Q
theorem eo_no {Φo : Option Int → List Cell → Prop} (q : Φo none ρ) : Eo f ρ τ tNoPart Φo := fun _ _ _ _ _ _ W k => k _ _ _ q W
theorem eo_part {Φo : Option Int → List Cell → Prop} (q : Ev f false ρ τ te fun c ρ1 => ∃ n, c = cI n ∧ Φo (some n) ρ1) : Eo f ρ τ (tPart te) Φo := fun φ us σ ws H Q W k => q φ us σ ws H _ W fun c ρ1 v1 H1 ⟨n, ec, q1⟩ W1 => by
  subst ec
  obtain ⟨_, e, hd⟩ := W1.lk (k := τ.length) (by rw [List.getElem?_append_right (Nat.le_refl _), Nat.sub_self]; rfl) (.t rfl)
  rw [W.l4, List.getElem?_append_right (Nat.le_refl _), Nat.sub_self] at e
  cases e
  cases hd
  exact ⟨n, rfl, k _ _ _ q1 (W1.pop W.l4)⟩
theorem eo_n {n : Int} {P : Int → Prop} (q : P n) : ∃ n', cI n = cI n' ∧ P n' := ⟨n, rfl, q⟩
theorem ev_sl {r : V → Option Int → Option Int → Hp → VK → Prop} {tl th : TO} (q : Ev f false ρ τ te fun c ρ1 => Eo f ρ1 (τ ++ [c]) tl fun lo ρ2 => Eo f ρ2 (τ ++ [c]) th fun hi ρ3 => Vo f ρ3 τ (fun vs H Q => ∀ a, vs = [a] → r a lo hi H Q) [c] Φ) : Ev f m ρ τ (tSl r te tl th) Φ := fun φ us σ ws H Q W k =>
  q φ us σ ws H _ W fun c ρ1 v1 H1 q1 W1 => q1 φ us σ _ H1 _ W1 fun lo ρ2 H2 q2 W2 => q2 φ us σ _ H2 _ W2 fun hi ρ3 H3 q3 W3 => q3 φ us σ ws H3 Q [v1] rfl W.l4 W3 k v1 rfl
theorem vo_slL (ok : f.Ok) {l : List D} {lo hi : Option Int} (lf : Leaf ρ c1 (.lst l)) (q : Φ (.t (.row (cutD l lo hi))) ρ) : Vo f ρ τ (fun vs H Q => ∀ a, vs = [a] → rSlL f.K a lo hi H Q) [c1] Φ := vo_make (.cons lf .nil) fun φ us σ ws H vs A Q hd mk kk => by
  cases hd with
  | cons h1 t =>
    cases t
    obtain ⟨a, xs, rfl, e1, r⟩ := h1
    intro a' e
    cases e
    exact x_slL (SqL.of e1) fun p hp => kk _ _ _ q (mk.row ok p _ _ true hp r.cut)
/-- sorted(xs), ints -/
theorem vo_sortedI (ok : f.Ok) {ns : List Int} (lk : Lk ρ c1 (dIs ns)) (q : ∀ ms : List Int, ms.Perm ns → ms.Pairwise (· ≤ ·) → Φ (.t (.row (ms.map .int))) ρ) : Vo f ρ τ (rSortedI f.K) [c1] Φ := fun φ us σ ws H Q vs l hl W k => by
  have hd := W.args hl l (.cons lk .nil)
  cases hd with
  | cons h1 t =>
    cases t
    obtain ⟨a, xs, rfl, e1, r⟩ := h1.n
    rw [r.ints] at e1
    refine ⟨a, ns, rfl, SqL.of e1, fun ms p h2 h3 hp => ?_⟩
    have W0 := W.pop hl
    obtain ⟨g, R⟩ := W0.rep
    exact k _ _ _ _ (q ms h2 h3) ((R.make W0).row ok p _ _ true hp DtL.of_ints)
/-! ### changes of one's own lists -/
theorem LOp.app {v : V} {x : T} : LOp (fun vs => vs ++ [v]) (fun l => l ++ [x]) v x := fun A K H vs l G F o1 o2 h => ⟨G ++ F, o1.append (.one o2) h, fun b z => List.mem_append.mp z⟩
theorem LOp.set {v : V} {x : T} {k : Nat} : LOp (fun vs => vs.set k v) (fun l => l.set k x) v x := fun A K H vs l G F o1 o2 h => by
  cases e : l[k]? with
  | none =>
    have h1 : l.set k x = l := List.set_eq_of_length_le (by simpa using e)
    have h2 : vs.set k v = vs := List.set_eq_of_length_le (by rw [o1.length]; simpa using e)
    dsimp only
    rw [h1, h2]
    exact ⟨G, o1, fun b z => .inl z⟩
  | some t =>
    obtain ⟨w, G0, e1, o, s, z⟩ := o1.split e
    obtain ⟨F', o', s'⟩ := z (fun b => b ∈ F) v x F H [] Kp.refl (fun _ _ _ => nil_mem) (fun _ _ _ => nil_mem) o2 (fun b z => .inr z) fun b z y => h b y z
    exact ⟨F', o', s'⟩
theorem OwnL.take {A K H} : ∀ {vs : List V} {ts : List T} {F : List Addr} (k : Nat), OwnL A K H vs ts F → ∃ G1 G2, OwnL A K H (vs.take k) (ts.take k) G1 ∧ OwnL A K H (vs.drop k) (ts.drop k) G2 ∧ (∀ a ∈ G1, a ∉ G2) ∧ (∀ a ∈ G1, a ∈ F) ∧ ∀ a ∈ G2, a ∈ F
  | _, _, _, 0, h => ⟨[], _, .nil, h, fun _ z => absurd z List.not_mem_nil, fun _ z => absurd z List.not_mem_nil, fun _ z => z⟩
  | _, _, _, _ + 1, .nil => ⟨[], [], .nil, .nil, fun _ z => absurd z List.not_mem_nil, fun _ z => absurd z List.not_mem_nil, fun _ z => z⟩
  | _, _, _, k + 1, .cons (F := F) (G := G) r t n => by
    obtain ⟨G1, G2, h1, h2, h3, h4, h5⟩ := t.take k
    refine ⟨F ++ G1, G2, .cons r h1 fun a z y => n a z (h4 a y), h2, fun a z y => ?_, fun a z => ?_, fun a z => List.mem_append_right _ (h5 a z)⟩
    · rcases List.mem_append.mp z with z | z
      · exact n a z (h5 a y)
      · exact h3 a z y
    · rcases List.mem_append.mp z with z | z
      · exact List.mem_append_left _ z
      · exact List.mem_append_right _ (h4 a z)
theorem LOp.ins {v : V} {x : T} {k : Nat} : LOp (fun vs => vs.take k ++ v :: vs.drop k) (fun l => l.take k ++ x :: l.drop k) v x := fun A K H vs l G F o1 o2 h => by
  obtain ⟨G1, G2, h1, h2, h3, h4, h5⟩ := o1.take k
  refine ⟨G1 ++ (F ++ G2), h1.append (.cons o2 h2 fun a z y => h a (h5 a y) z) fun a z y => ?_, fun b z => ?_⟩
  · rcases List.mem_append.mp y with y | y
    · exact h a (h4 a z) y
    · exact h3 a z y
  · rcases List.mem_append.mp z with z | z
    · exact .inl (h4 b z)
    · rcases List.mem_append.mp z with z | z
      · exact .inr z
      · exact .inl (h5 b z)
/-- a cell that is a list, for a method's sake -/
inductive IsL (ρ : List Cell) : Cell → Prop
  | of {c l} : Lk ρ c (.lst l) → IsL ρ c
theorem ev_bm {r : V → List V → Hp → VK → Prop} (mm : Bool) (q : Ev f false ρ τ to fun c ρ1 => IsL ρ1 c ∧ EvA f mm ρ1 (τ ++ [c]) tr fun cs ρ2 => Vo f ρ2 τ (rMv r) (c :: cs) Φ) : Ev f m ρ τ (tBM f.K "list" r to tr) Φ := fun φ us σ ws H Q W k =>
  q φ us σ ws H _ W fun c ρ1 v1 H1 ⟨il, q1⟩ W1 => by
    cases il with
    | of lk =>
      obtain ⟨v', e, hd⟩ := W1.lk (k := τ.length) (by rw [List.getElem?_append_right (Nat.le_refl _), Nat.sub_self]; rfl) lk
      rw [W.l4, List.getElem?_append_right (Nat.le_refl _), Nat.sub_self] at e
      cases e
      obtain ⟨a, xs, rfl, e1, r1⟩ := hd.n
      refine x_tyL (SqL.of e1) (q1 φ us σ _ H1 _ W1 fun cs ρ2 vs H2 l q2 W2 => q2 φ us σ ws H2 Q (_ :: vs) (congrArg Nat.succ l) W.l4 ?_ k _ _ rfl)
      rw [List.append_assoc, List.append_assoc] at W2
      exact W2
/-- the change at a place: what the op asks, and what it leaves -/
theorem vo_mut (ok : f.Ok) {j : Nat} {p : List Nat} {y : T} {l : List T} {opT : List T → List T} (opV : V → List V → List V) {R : List V → Hp → VK → Prop} (e : CAt ρ j (.t y)) (ea : y.at p = some (.lst l)) (s : CSet ρ j (.t (y.put p (.lst (opT l)))) ρ') (n1 : noP ρ = true) (n2 : noP τ = true) (op : ∀ v, LOp (opV v) opT v x)
    (h : ∀ a vs v H Q, H a = some (.lst vs) → vs.length = l.length → (Q .non (upd H a (.lst (opV v vs)))) → R [.ref a, v] H Q) (q : Φ cN ρ') : Vo f ρ τ R [.pl j p, .t x] Φ := fun φ us σ ws H Q vs lv hl W k => by
  match vs, lv with
  | [v1, v2], _ =>
    obtain ⟨u1, x', s', w, z1, z2, z3, z4, z5, z6⟩ := W.plc (k := τ.length) (by rw [List.getElem?_append_right (Nat.le_refl _), Nat.sub_self]; rfl)
    rw [hl, List.getElem?_append_right (Nat.le_refl _), Nat.sub_self] at z1
    cases z1
    rw [e.eq] at z2
    cases z2
    rw [ea] at z3
    cases z3
    obtain ⟨g, R0⟩ := W.rep
    obtain ⟨v0, F, r1, r2, r3⟩ := R0.tcell (at3 e.eq)
    rw [at3 z5] at r1
    cases r1
    obtain ⟨w2, G2, t1, t2, t3, t4⟩ := r2.walk ea
    obtain rfl := Walk.uniq z6 t1
    cases t2 with
    | @lst a vsl _ G e1 rr nn =>
      have hb : ((ρ ++ φ) ++ τ).length = ((σ ++ us) ++ ws).length := by have := (W.pop hl).base; simp at *; omega
      obtain ⟨vs', e2, e3, W2⟩ := Wd.mut ok (mid := [.pl j p]) (mu := [some (.ref a)]) (by rw [List.append_assoc, List.append_assoc]; exact W) hl rfl (noP_ok n1) (noP_ok n2) e.eq ea z5 z6 (op v2)
      rw [s.eq] at W2
      exact h a vs' v2 H Q e2 e3 (k _ _ _ _ q (W2.scal fun _ _ => .non))
end
end LN
namespace LN
open PySem PySem.Spec PyProof.Rows L2
/-! ### contracts of defs over data -/
def D.sc : D → Bool
  | .lst _ => false
  | .tup _ => false
  | .obj _ _ => false
  | _ => true
mutual
/-- all its lists and tuples are its own -/
def T.full : T → Bool
  | .d x => x.sc
  | .lst l => T.fullL l
  | .tup l => T.fullL l
def T.fullL : List T → Bool
  | [] => true
  | t :: l => t.full && T.fullL l
end
theorem T.fullL_all : ∀ {l : List T}, (∀ t ∈ l, t.full = true) → T.fullL l = true
  | [], _ => rfl
  | t :: l, h => by
    unfold T.fullL
    rw [h t List.mem_cons_self, T.fullL_all fun x z => h x (List.mem_cons_of_mem _ z)]
    rfl
theorem full_row {l : List D} (h : ∀ d ∈ l, d.sc = true) : (T.row l).full = true := T.fullL_all fun t z => by
  obtain ⟨d, hd, rfl⟩ := List.mem_map.mp z
  exact h d hd
theorem full_ints {ns : List Int} : (T.row (ns.map .int)).full = true := full_row fun d z => by
  obtain ⟨i, _, rfl⟩ := List.mem_map.mp z
  rfl
theorem full_rows {ls : List (List Int)} : (T.lst (ls.map fun ns => T.row (ns.map .int))).full = true := T.fullL_all fun t z => by
  obtain ⟨i, _, rfl⟩ := List.mem_map.mp z
  exact full_ints
section
variable {K : PySem.W.Frag} {A B : Addr → Prop} {H H' : Hp}
theorem Dt.sc {v d} (h : Dt A K H v d) (s : d.sc = true) : Dt B K H v d := by
  cases h with
  | non => exact .non
  | bl b => exact .bl b
  | int i => exact .int i
  | str x => exact .str x
  | lst _ _ _ => exact absurd s Bool.false_ne_true
  | tup _ _ => exact absurd s Bool.false_ne_true
  | obj _ _ _ _ _ => exact absurd s Bool.false_ne_true
mutual
theorem Own.hard : ∀ {v : V} {t : T} {F : List Addr}, Own A K H v t F → t.full = true → Own B K H v t F
  | _, .d x, _, .d h, s => .d (h.sc s)
  | _, _, _, .lst e r n, s => .lst e (OwnL.hard r s) n
  | _, _, _, .tup e r n, s => .tup e (OwnL.hard r s) n
theorem OwnL.hard : ∀ {v : List V} {t : List T} {F : List Addr}, OwnL A K H v t F → T.fullL t = true → OwnL B K H v t F
  | _, _, _, .nil, _ => .nil
  | _, _, _, .cons (t := t) (ts := ts) r q n, s => by
    have h : (t.full && T.fullL ts) = true := s
    obtain ⟨h1, h2⟩ := Bool.and_eq_true_iff.mp h
    exact .cons (Own.hard r h1) (OwnL.hard q h2) n
end
end
/-- args are read; the answer is new -/
def PF {α : Type} (K : PySem.W.Frag) (enc : α → List D) (pre : α → Prop) (post : α → T → Prop) : Sp := fun vs H Q _ => ∃ ds : α, DtL (fun _ => True) K H vs (enc ds) ∧ pre ds ∧ ∀ r v H' F, post ds r → Kp [] H H' → (∀ a ∈ F, H a = none) → Own (fun _ => False) K H' v r F → Q v H'
/-- .. the answer may share with the args -/
def PFA {α : Type} (K : PySem.W.Frag) (enc : α → List D) (pre : α → Prop) (post : α → T → Prop) : Sp := fun vs H Q _ => ∃ (A : Addr → Prop) (ds : α), DtL A K H vs (enc ds) ∧ pre ds ∧ ∀ r v H' F, post ds r → Kp [] H H' → (∀ a ∈ F, H a = none) → Own (fun a => (A a ∨ H a = none) ∧ a ∉ F) K H' v r F → Q v H'
/-- the first arg is the store -/
def PFS {α : Type} (K : PySem.W.Frag) (enc : α → List D) (pre : α → Prop) (post : α → T → Prop) : Sp := fun vs H Q _ => ∃ (p sl : Addr) (us : List V) (ds : α), vs = .ref p :: us ∧ StoreS H p sl ∧ DtL (fun a => a ≠ p) K H us (enc ds) ∧ pre ds ∧ ∀ r v H' F, post ds r → Kp [p] H H' → StoreS H' p sl → (∀ a ∈ F, H a = none) → Own (fun _ => False) K H' v r F → Q v H'
abbrev frN (K : PySem.W.Frag) (A : Addr → Prop) (H0 : Hp) (n : Nat) : Fr := ⟨K, [], A, H0, fun _ => True, 0, n, fun _ _ _ _ => False, fun _ _ _ => False⟩
abbrev frS (K : PySem.W.Frag) (A : Addr → Prop) (H0 : Hp) (p sl : Addr) (n : Nat) : Fr := ⟨K, [p], A, H0, fun H => StoreS H p sl, p, n, fun _ _ _ _ => False, fun _ _ _ => False⟩
theorem okN {K A H0 n} : (frN K A H0 n).Ok := fun _ _ _ _ => trivial
theorem storeS_eq {H H' : Hp} {p sl : Addr} (s : StoreS H p sl) (e1 : H' p = H p) (e2 : H' sl = H sl) : StoreS H' p sl := by
  obtain ⟨ns, i, b, c, z, h1, h2, r⟩ := s
  exact ⟨ns, i, b, c, z, e1.trans h1, e2.trans h2, r⟩
theorem StoreS.sl_live {H : Hp} {p sl : Addr} (s : StoreS H p sl) : live H sl := by
  obtain ⟨ns, i, b, c, z, h1, h2, r⟩ := s
  exact ⟨_, h2⟩
theorem StoreS.p_live {H : Hp} {p sl : Addr} (s : StoreS H p sl) : live H p := s.ex
/-- the store stood at the start -/
class StOk (f : Fr) : Prop where
  ok : f.Ok
theorem okS {K A H0 p sl n} (h : StoreS H0 p sl) : (frS K A H0 p sl n).Ok := fun _ _ s e => storeS_eq s (e _ (.inr h.p_live)) (e _ (.inr h.sl_live))
def startC : List Str → List D → List Cell
  | [], _ => []
  | _ :: N, [] => .dead :: startC N []
  | _ :: N, d :: ds => .t (.d d) :: startC N ds
def startS : List Str → List V → St
  | [], _ => []
  | _ :: N, [] => none :: startS N []
  | _ :: N, v :: vs => some v :: startS N vs
theorem startS_ok : ∀ {N : List Str} {vs : List V}, vs.length ≤ N.length → StartTo N vs (startS N vs)
  | [], [], _ => .nil
  | [], _ :: _, h => by cases h
  | _ :: N, [], _ => .non (startS_ok (Nat.zero_le _))
  | _ :: N, v :: vs, h => .cons (startS_ok (Nat.le_of_succ_le_succ h))
theorem startC_len : ∀ (N : List Str) (ds : List D), (startC N ds).length = N.length
  | [], _ => rfl
  | _ :: N, [] => congrArg Nat.succ (startC_len N [])
  | _ :: N, _ :: ds => congrArg Nat.succ (startC_len N ds)
theorem startS_len : ∀ (N : List Str) (ds : List V), (startS N ds).length = N.length
  | [], _ => rfl
  | _ :: N, [] => congrArg Nat.succ (startS_len N [])
  | _ :: N, _ :: ds => congrArg Nat.succ (startS_len N ds)
theorem start_cell {f : Fr} {g : Addr → Nat} {H : Hp} : ∀ {N : List Str} {vs : List V} {ds : List D} {i : Nat} {c : Cell} {u : Option V}, DtL (Fz f g) f.K H vs ds → (startC N ds)[i]? = some c → (startS N vs)[i]? = some u → ∀ cs us k, CellAt f g cs us H k c u
  | [], _, _, _, _, _, _, e, _ => by cases e
  | _ :: N, _, _, 0, _, _, .nil, e1, e2 => by cases e1; intro _ _ _; exact trivial
  | _ :: N, _, _, i + 1, _, _, .nil, e1, e2 => start_cell (N := N) .nil e1 e2
  | _ :: N, _, _, 0, _, _, .cons r t, e1, e2 => by
    cases e1
    cases e2
    intro _ _ _
    exact ⟨[], .d r, fun _ z => nomatch z⟩
  | _ :: N, _, _, i + 1, _, _, .cons r t, e1, e2 => start_cell (N := N) t e1 e2
theorem Wd.init {K A H} {N : List Str} {vs : List V} {ds : List D} (h : DtL A K H vs ds) : Wd (frN K A H N.length) [] [] (startC N ds) [] (startS N vs) [] H where
  l1 := startC_len _ _
  l2 := startS_len _ _
  l3 := rfl
  l4 := rfl
  fz := fun _ z => nomatch z
  lk_ := fun _ _ _ _ _ z => z.elim
  rep := by
    refine ⟨fun _ => 0, { kp := Kp.refl, ml := fun b z => (nomatch z), st := trivial, gg := fun _ z => absurd rfl z, len := ?_, at_ := fun i c u e1 e2 => ?_ }⟩
    · simp [startC_len, startS_len]
    · rw [List.append_nil, List.append_nil] at e1 e2
      exact start_cell (h.mono fun a z _ => ⟨rfl, nil_mem, .inl z⟩) e1 e2 _ _ _
theorem Wd.initS {K A H p sl} {x : Str} {N : List Str} {vs : List V} {ds : List D} (s : StoreS H p sl) (hA : ∀ a, A a → a ≠ p) (h : DtL A K H vs ds) : Wd (frS K A H p sl (x :: N).length) [] [] (.sto :: startC N ds) [] (startS (x :: N) (.ref p :: vs)) [] H where
  l1 := congrArg Nat.succ (startC_len _ _)
  l2 := startS_len _ _
  l3 := rfl
  l4 := rfl
  fz := fun _ z => nomatch z
  lk_ := fun _ _ _ _ _ z => z.elim
  rep := by
    refine ⟨fun _ => 0, { kp := Kp.refl, ml := fun b z => ?_, st := s, gg := fun _ z => absurd rfl z, len := ?_, at_ := fun i c u e1 e2 => ?_ }⟩
    · rw [List.mem_singleton.mp z]
      exact s.p_live
    · simp [startC_len, startS, startS_len]
    · rw [List.append_nil, List.append_nil] at e1 e2
      cases i with
      | zero =>
        cases e1
        cases e2
        exact rfl
      | succ i => exact start_cell (f := frS K A H p sl (x :: N).length) (N := N) (h.mono fun a z _ => ⟨rfl, one_mem (hA a z), .inl z⟩) e1 e2 _ _ _
section
variable {P : Program} {w : World} {K : PySem.W.Frag} {mg : Str → Option Value} {base : Heap} {k : Nat} {x : Str} {ps N : List Str} {st : Stmt} {α : Type} {enc : α → List D} {pre : α → Prop} {post : α → T → Prop}
/-- what a def's end must say -/
abbrev fin (post : T → Prop) : Pn := ⟨fun _ => post (.d .non), fun c _ => ∃ r, c = .t r ∧ post r, fun _ => False, fun _ => False⟩
theorem DtL.top {K A H vs ds} (h : DtL A K H vs ds) : DtL (fun _ => True) K H vs ds := h.mono fun _ _ _ => trivial
theorem Wd.last {f : Fr} {φ ρ : List Cell} {us : List (Option V)} {σ : St} {H : Hp} {v : V} {r : T} (W : Wd f φ us ρ [.t r] σ [some v] H) : ∃ F, (∀ a ∈ F, f.H0 a = none) ∧ Own (fun a => (f.A a ∨ f.H0 a = none) ∧ a ∉ F) f.K H v r F := by
  obtain ⟨g, R⟩ := W.rep
  obtain ⟨v', F, e, o, h⟩ := R.tcell (i := (ρ ++ φ).length) (x := r) (by rw [List.getElem?_append_right (Nat.le_refl _), Nat.sub_self]; rfl)
  rw [W.base, List.getElem?_append_right (Nat.le_refl _), Nat.sub_self] at e
  cases e
  exact ⟨F, fun a z => (R.gg a (by rw [h a z]; omega)).1, o.mono fun a z _ => ⟨z.2.2, fun y => by have := h a y; have := z.1; omega⟩⟩
theorem DefAt.pf (h : DefAt K mg x ps st) (S : FnScope N ps (defScope st)) (len : ∀ ds, pre ds → (enc ds).length = ps.length) (full : ∀ ds r, pre ds → post ds r → r.full = true)
    (hb : ∀ (cdv : Value) (f : Addr) (A : Around) (outer : List Env) (s : Shared) (H : Hp) (E : XK), Room k (A.deeper (envOfC x (defScope st) s.heap.objs.size f cdv)) →
      ∃ t, PSs (cxOf CX0 P w K mg base N x (defScope st) f cdv A outer s H E).nox (defBody st) t ∧ ∀ ds, pre ds → Es (frN K (fun _ => True) H N.length) (startC N (enc ds)) t (fin (post ds))) (hN : ps.length ≤ N.length := by decide) : Okk P w K mg base CX0 (k + 1) x ps (PF K enc pre post) := by
  refine h.ok S (fun vs H Q E ⟨ds, hd, hp, _⟩ => hd.length.trans (len ds hp)) fun cdv f A outer s H vs Q E hr ⟨ds, hd, hp, q⟩ => ?_
  obtain ⟨t, h1, h2⟩ := hb cdv f A outer s H E hr
  refine ⟨t, h1, _, startS_ok (by rw [hd.length, len ds hp]; exact hN), h2 ds hp [] [] _ _ _ (Wd.init hd) (fun ρ' σ' H' z W => ?_) (fun _ _ _ z => z.elim) (fun _ _ _ z => z.elim) fun c ρ' v σ' H' ⟨r, ec, z⟩ W => ?_⟩
  · exact q _ _ _ [] z W.kp0.1 (fun _ z => nomatch z) (.d .non)
  · subst ec
    obtain ⟨F, hF, o⟩ := W.last
    exact q _ _ _ F z (W.kp0.1) hF (o.hard (full ds r hp z))
theorem DefAt.pfa (h : DefAt K mg x ps st) (S : FnScope N ps (defScope st)) (len : ∀ ds, pre ds → (enc ds).length = ps.length)
    (hb : ∀ (cdv : Value) (f : Addr) (A : Around) (outer : List Env) (s : Shared) (H : Hp) (E : XK), Room k (A.deeper (envOfC x (defScope st) s.heap.objs.size f cdv)) →
      ∃ t, PSs (cxOf CX0 P w K mg base N x (defScope st) f cdv A outer s H E).nox (defBody st) t ∧ ∀ ds, pre ds → ∀ B, Es (frN K B H N.length) (startC N (enc ds)) t (fin (post ds))) (hN : ps.length ≤ N.length := by decide) : Okk P w K mg base CX0 (k + 1) x ps (PFA K enc pre post) := by
  refine h.ok S (fun vs H Q E ⟨B, ds, hd, hp, _⟩ => hd.length.trans (len ds hp)) fun cdv f A outer s H vs Q E hr ⟨B, ds, hd, hp, q⟩ => ?_
  obtain ⟨t, h1, h2⟩ := hb cdv f A outer s H E hr
  refine ⟨t, h1, _, startS_ok (by rw [hd.length, len ds hp]; exact hN), h2 ds hp B [] [] _ _ _ (Wd.init hd) (fun ρ' σ' H' z W => ?_) (fun _ _ _ z => z.elim) (fun _ _ _ z => z.elim) fun c ρ' v σ' H' ⟨r, ec, z⟩ W => ?_⟩
  · exact q _ _ _ [] z W.kp0.1 (fun _ z => nomatch z) (.d .non)
  · subst ec
    obtain ⟨F, hF, o⟩ := W.last
    exact q _ _ _ F z (W.kp0.1) hF o
theorem DefAt.pfs {y : Str} (h : DefAt K mg x (y :: ps) st) (S : FnScope (y :: N) (y :: ps) (defScope st)) (len : ∀ ds, pre ds → (enc ds).length = ps.length) (full : ∀ ds r, pre ds → post ds r → r.full = true)
    (hb : ∀ (cdv : Value) (f : Addr) (A : Around) (outer : List Env) (s : Shared) (H : Hp) (E : XK), Room k (A.deeper (envOfC x (defScope st) s.heap.objs.size f cdv)) →
      ∃ t, PSs (cxOf CX0 P w K mg base (y :: N) x (defScope st) f cdv A outer s H E).nox (defBody st) t ∧ ∀ ds, pre ds → ∀ p sl, StoreS H p sl → Es (frS K (fun a => a ≠ p) H p sl (y :: N).length) (.sto :: startC N (enc ds)) t (fin (post ds))) (hN : ps.length ≤ N.length := by decide) : Okk P w K mg base CX0 (k + 1) x (y :: ps) (PFS K enc pre post) := by
  refine h.ok S (fun vs H Q E ⟨p, sl, us, ds, ev, _, hd, hp, _⟩ => by rw [ev]; exact congrArg Nat.succ (hd.length.trans (len ds hp))) fun cdv f A outer s H vs Q E hr ⟨p, sl, us, ds, ev, hs, hd, hp, q⟩ => ?_
  subst ev
  obtain ⟨t, h1, h2⟩ := hb cdv f A outer s H E hr
  refine ⟨t, h1, _, startS_ok (Nat.succ_le_succ (by rw [hd.length, len ds hp]; exact hN)), h2 ds hp p sl hs [] [] _ _ _ (Wd.initS hs (fun _ z => z) hd) (fun ρ' σ' H' z W => ?_) (fun _ _ _ z => z.elim) (fun _ _ _ z => z.elim) fun c ρ' v σ' H' ⟨r, ec, z⟩ W => ?_⟩
  · exact q _ _ _ [] z W.kp0.1 W.kp0.2.1 (fun _ z => nomatch z) (.d .non)
  · subst ec
    obtain ⟨F, hF, o⟩ := W.last
    exact q _ _ _ F z W.kp0.1 W.kp0.2.1 hF (o.hard (full ds r hp z))
end
/-! ### calls -/
section
variable {f : Fr} {m : Bool} {φ ρ ρ' ρ1 τ : List Cell} {us ws : List (Option V)} {σ : St} {H H' : Hp} {i : Nat} {v : V} {x : T} {d : D} {c c1 c2 : Cell} {Φ : Cell → List Cell → Prop} {Ψ : List Cell → Prop} {Φb : Bool → List Cell → Prop} {ΦA : List Cell → List Cell → Prop} {ta tb te to ti : TE} {tr : TA} {tt tu : TT} {t u : TS} {Dn : Pn} {g : TG} {E : XK} {α : Type} {enc : α → List D} {pre : α → Prop} {post : α → T → Prop}
theorem Wd.ok0 (ok : f.Ok) (W : Wd f φ us ρ τ σ ws H) (k : Kp [] H H') : f.S H' ∧ ∀ b ∈ f.M, live H' b := by
  obtain ⟨k0, s, ml⟩ := W.kp0
  have lv : ∀ b, live H b → H' b = H b := fun b ⟨o, e⟩ => by rw [e]; exact k b o nil_mem e
  refine ⟨ok H H' s fun b z => lv b ?_, fun b z => (ml b z).kp k nil_mem⟩
  rcases z with z | z
  · exact ml b z
  · by_cases y : b ∈ f.M
    · exact ml b y
    · exact z.kp k0 y
theorem ev_call (ok : f.Ok) (q : EvA f false ρ τ tr fun cs ρ1 => ∃ ds, LkL ρ1 cs (enc ds) ∧ pre ds ∧ ∀ r, post ds r → Φ (.t r) ρ1) : Ev f m ρ τ (tCall (PF f.K enc pre post) [] E tr) Φ := fun φ us σ ws H Q W k => by
  refine x_call (q φ us σ ws H _ W fun cs ρ1 vs H1 l ⟨ds, lk, hp, q1⟩ W1 => ⟨ds, (W1.args W.l4 l lk).mono fun _ _ _ => trivial, hp, fun r v H' F z kk hF o => ?_⟩)
  have W2 := W1.pop W.l4
  obtain ⟨s, ml⟩ := W2.ok0 ok kk
  exact k _ _ _ _ (q1 r z) (W2.res kk.any s ml hF (o.mono fun _ z _ => z.elim))
inductive FzL : List Cell → List D → Prop
  | nil : FzL [] []
  | cons {d cs ds} : FzL cs ds → FzL (.t (.d d) :: cs) (d :: ds)
theorem FzL.eq {cs ds} (h : FzL cs ds) : cs = ds.map fun d => .t (.d d) := by
  induction h with
  | nil => rfl
  | cons _ ih => rw [List.map_cons, ← ih]
theorem ev_callA (ok : f.Ok) (q : EvA f true ρ τ tr fun cs ρ1 => ∃ ds, FzL cs (enc ds) ∧ pre ds ∧ ∀ r, post ds r → Φ (.t r) ρ1) : Ev f m ρ τ (tCall (PFA f.K enc pre post) [] E tr) Φ := fun φ us σ ws H Q W k => by
  refine x_call (q φ us σ ws H _ W fun cs ρ1 vs H1 l ⟨ds, lk, hp, q1⟩ W1 => ?_)
  have e := lk.eq
  obtain ⟨g, R⟩ := W1.rep
  rw [← List.append_assoc, ← List.append_assoc, e, show ((enc ds).map fun d => Cell.t (.d d)) = ((enc ds).map T.d).map Cell.t from by rw [List.map_map]; rfl] at R
  have hb : ((ρ1 ++ φ) ++ τ).length = ((σ ++ us) ++ ws).length := by have := W1.base; have := W.l4; simp at *; omega
  obtain ⟨F0, o, _⟩ := R.args hb
  refine ⟨Fz f g, ds, o.ds, hp, fun r v H' F z kk hF oo => ?_⟩
  have W2 := W1.pop W.l4
  obtain ⟨s, ml⟩ := W2.ok0 ok kk
  have R0 := R.cut hb (by have := W1.hn; simp at *; omega)
  have nl : ∀ a, live H1 a → H1 a ≠ none := fun a ⟨o, e⟩ => by rw [e]; exact fun z => nomatch z
  have nM : ∀ a, H1 a = none → a ∉ f.M := fun a z m => nl a (R.ml a m) z
  have g0 : ∀ a, H1 a = none → g a = 0 := fun a z => Decidable.byContradiction fun q => nl a (R.gg a q).2.2 z
  let n := ((ρ1 ++ φ) ++ τ).length
  let g' : Addr → Nat := fun a => if a ∈ F then n + 1 else g a
  have R1 : RepG f g' ((ρ1 ++ φ) ++ τ) ((σ ++ us) ++ ws) H' := R0.step kk.any ml s (fun a l _ => if_neg fun z => nl a l (hF a z)) fun a z => by
    by_cases q : a ∈ F
    · exact .inr ⟨hF a q, nM a (hF a q), oo.live a q⟩
    · exact .inl fun y => z ((if_neg q).trans y)
  refine k _ _ _ _ (q1 r z) (W2.mk' (by simp [W.l4]) ⟨g', ?_⟩)
  rw [← List.append_assoc, ← List.append_assoc]
  refine R1.push ⟨F, oo.mono fun a z _ => ?_, fun a z => if_pos z⟩
  rcases z.1 with y | y
  · exact ⟨(if_neg z.2).trans y.1, y.2⟩
  · exact ⟨(if_neg z.2).trans (g0 a y), nM a y, .inr (R.kp.free (nM a y) y)⟩
end
section
variable {K : PySem.W.Frag} {A : Addr → Prop} {H0 : Hp} {p sl : Addr} {nS : Nat} {m : Bool} {φ ρ ρ' ρ1 τ : List Cell} {us ws : List (Option V)} {σ : St} {H H' : Hp} {Φ : Cell → List Cell → Prop} {tr : TA} {E : XK} {α : Type} {enc : α → List D} {pre : α → Prop} {post : α → T → Prop}
theorem Wd.draw (W : Wd (frS K A H0 p sl nS) φ us ρ τ σ ws H) (k : Kp [p] H H') (s : StoreS H' p sl) : Wd (frS K A H0 p sl nS) φ us ρ τ σ ws H' := W.step k s fun b z => by rw [List.mem_singleton.mp z]; exact s.p_live
theorem ev_callS (q : EvA (frS K A H0 p sl nS) false ρ τ tr fun cs ρ1 => ∃ cs' ds, cs = .sto :: cs' ∧ LkL ρ1 cs' (enc ds) ∧ pre ds ∧ ∀ r, post ds r → Φ (.t r) ρ1) : Ev (frS K A H0 p sl nS) m ρ τ (tCall (PFS K enc pre post) [] E tr) Φ := fun φ us σ ws H Q W k => by
  refine x_call (q φ us σ ws H _ W fun cs ρ1 vs H1 l ⟨cs', ds, ec, lk, hp, q1⟩ W1 => ?_)
  subst ec
  match vs, l with
  | v :: vs, l =>
    have W1' : Wd (frS K A H0 p sl nS) φ us ρ1 ((τ ++ [.sto]) ++ cs') σ ((ws ++ [some v]) ++ vs.map some) H1 := by
      rw [List.append_assoc, List.append_assoc]
      exact W1
    have Wv := W1'.pop (by simp [W.l4])
    obtain ⟨g, R⟩ := Wv.rep
    obtain ⟨u, e1, h⟩ := R.cell (i := ((ρ1 ++ φ) ++ τ).length) (c := .sto) (by rw [← List.append_assoc, List.getElem?_append_right (Nat.le_refl _), Nat.sub_self]; rfl)
    have hb : ((ρ1 ++ φ) ++ τ).length = ((σ ++ us) ++ ws).length := by have := Wv.base; have := W.l4; simp at *; omega
    rw [hb, ← List.append_assoc, List.getElem?_append_right (Nat.le_refl _), Nat.sub_self] at e1
    cases e1
    cases h
    have hd := W1'.args (by simp [W.l4]) (Nat.succ.inj l) lk
    refine ⟨p, sl, vs, ds, rfl, W1.kp0.2.1, hd.mono fun a z _ => by simpa using z, hp, fun r v H' F z kk hs hF o => ?_⟩
    have W2 := W1.pop W.l4
    exact k _ _ _ _ (q1 r z) (W2.res kk hs (fun b z => by rw [List.mem_singleton.mp z]; exact hs.p_live) hF (o.mono fun _ z _ => z.elim))
end
end LN
namespace LN
open PySem PySem.Spec PyProof.Rows L2
section
variable {f : Fr} {m : Bool} {φ ρ ρ' ρ1 τ : List Cell} {us ws : List (Option V)} {σ : St} {H H' : Hp} {i : Nat} {v : V} {x : T} {d : D} {c c1 c2 : Cell} {Φ : Cell → List Cell → Prop} {Ψ : List Cell → Prop} {Φb : Bool → List Cell → Prop} {ΦA : List Cell → List Cell → Prop} {ta tb te to ti : TE} {tr : TA} {tt tu : TT} {t u tbd : TS} {Dn : Pn} {g : TG} {E : Ends}
/-! ### loops -/
/-- what a turn's value is; hJ: how the iterator goes on, whatever the slots hold -/
theorem loop_gen {J : It} {n : Nat} {IC : Nat → Cell → Prop} {φ' : List Cell} {us' : List (Option V)} (IV : Nat → List Cell → Prop) (h0 : IV 0 ρ) (W : Wd f (φ ++ φ') (us ++ us') ρ [] σ [] H) (hl : φ.length = us.length) (lk : XLink f φ us)
    (hJ : ∀ i s' H' ρ', Wd f (φ ++ φ') (us ++ us') ρ' [] s' [] H' → (i < n → J.go i H' ∧ ∀ x H'', J.yld i H' x H'' → ∃ c, IC i c ∧ Wd f (φ ++ φ') (us ++ us') ρ' ([] ++ [c]) s' ([] ++ [some x]) H'') ∧ (n ≤ i → J.stop i H'))
    (hs : ∀ i ρ' c, i < n → IV i ρ' → IC i c → Eg f ρ' c g fun ρ2 => Es f ρ2 tbd { Dn with nx := IV (i + 1), ct := IV (i + 1), bk := Dn.nx }) (hd : ∀ ρ', IV n ρ' → Dn.nx ρ')
    (k1 : ∀ ρ' σ' H', Dn.nx ρ' → Wd f φ us ρ' [] σ' [] H' → E.nx σ' H') (k4 : ∀ c ρ' v σ' H', Dn.rt c ρ' → Wd f φ us ρ' [c] σ' [some v] H' → E.rt v H') : ForG J g tbd E σ H := by
  have unh : ∀ {ρ' s' H'}, Wd f (φ ++ φ') (us ++ us') ρ' [] s' [] H' → Wd f φ us ρ' [] s' [] H' := fun W => W.unhold hl lk
  have unh1 : ∀ {c : Cell} {v : V} {ρ' s' H'}, Wd f (φ ++ φ') (us ++ us') ρ' [c] s' [some v] H' → Dn.rt c ρ' → E.rt v H' := fun {c v ρ' s' H'} W z => by
    refine k4 c ρ' v s' H' z ?_
    obtain ⟨g, R⟩ := W.rep
    have l1 := W.l1
    have l2 := W.l2
    have l3 := W.l3
    have hb : (ρ' ++ φ).length = (s' ++ us).length := by simp; omega
    have R' : RepG f g ((ρ' ++ φ) ++ (φ' ++ [c])) ((s' ++ us) ++ (us' ++ [some v])) H' := by
      have := R
      simp only [List.append_assoc] at this ⊢
      exact this
    -- the value moves down over what was held
    have R0 := R'.cut hb (by simp; omega)
    have fzu : ∀ c ∈ φ, ∃ x, c = .t (.d x) := fun c hc => W.fz c (List.mem_append_left _ hc)
    have lb : φ'.length = us'.length := by simp at l3; omega
    have R3 : RepG f g (((ρ' ++ φ) ++ φ') ++ [c]) (((s' ++ us) ++ us') ++ [some v]) H' := by
      have := R
      simp only [List.append_assoc] at this ⊢
      exact this
    obtain ⟨u, e1, h⟩ := R3.cell (i := ((ρ' ++ φ) ++ φ').length) (c := c) (by rw [List.getElem?_append_right (Nat.le_refl _), Nat.sub_self]; rfl)
    rw [show ((ρ' ++ φ) ++ φ').length = ((s' ++ us) ++ us').length by simp; omega, List.getElem?_append_right (Nat.le_refl _), Nat.sub_self] at e1
    cases e1
    match c, h with
    | .t x, ⟨F, o, hF⟩ =>
      have hx : ((ρ' ++ φ) ++ φ').length = ((s' ++ us) ++ us').length := by simp; omega
      let g' : Addr → Nat := fun a => if g a = ((ρ' ++ φ) ++ φ').length + 1 then (ρ' ++ φ).length + 1 else if (ρ' ++ φ).length < g a then 0 else g a
      have R1 : RepG f g' (ρ' ++ φ) (s' ++ us) H' := R0.step Kp.refl R0.ml R0.st (fun a _ z => by
        show (if g a = ((ρ' ++ φ) ++ φ').length + 1 then (ρ' ++ φ).length + 1 else if (ρ' ++ φ).length < g a then 0 else g a) = g a
        have : (ρ' ++ φ).length ≤ ((ρ' ++ φ) ++ φ').length := by simp
        rw [if_neg (by omega), if_neg (by omega)]) fun a z => by
          refine .inl fun y => z ?_
          show (if g a = ((ρ' ++ φ) ++ φ').length + 1 then (ρ' ++ φ).length + 1 else if (ρ' ++ φ).length < g a then 0 else g a) = 0
          rw [if_neg (by omega), if_neg (by omega)]
          exact y
      refine ⟨l1, l2, by simp at l3; omega, rfl, fzu, lk, g', R1.push ⟨F, o.mono fun a z _ => ⟨?_, z.2⟩, fun a z => if_pos (hF a z)⟩⟩
      show (if g a = ((ρ' ++ φ) ++ φ').length + 1 then (ρ' ++ φ).length + 1 else if (ρ' ++ φ).length < g a then 0 else g a) = 0
      have := z.1
      rw [if_neg (by omega), if_neg (by omega)]
      exact this
    | .pl j p, ⟨jn, x, s, w, y1, y2, y3, y4, y5⟩ =>
      have h1 : (ρ' ++ φ)[j]? = some (.t x) := by
        rw [List.append_assoc, List.getElem?_append_left (by simp; omega)] at y1
        exact y1
      have h2 : (s' ++ us)[j]? = some (some w) := by
        rw [List.append_assoc, List.getElem?_append_left (by simp; omega)] at y4
        exact y4
      exact ⟨l1, l2, by simp at l3; omega, rfl, fzu, lk, g, R0.push ⟨jn, x, s, w, h1, y2, y3, h2, y5⟩⟩
    | .sto, h => exact ⟨l1, l2, by simp at l3; omega, rfl, fzu, lk, g, R0.push h⟩
    | .ins a dx C fs, ⟨vs, e', ne, h1, h2, r, ga, gd⟩ =>
      let B := (ρ' ++ φ).length
      have hB : B ≤ ((ρ' ++ φ) ++ φ').length := by simp [B]
      let g' : Addr → Nat := fun a => if g a = ((ρ' ++ φ) ++ φ').length + 1 then B + 1 else if B < g a then 0 else g a
      have gs : ∀ a, g a ≤ B → g' a = g a := fun a z => by
        show (if g a = ((ρ' ++ φ) ++ φ').length + 1 then B + 1 else if B < g a then 0 else g a) = g a
        rw [if_neg (by omega), if_neg (by omega)]
      have R1 : RepG f g' (ρ' ++ φ) (s' ++ us) H' := R0.step Kp.refl R0.ml R0.st (fun a _ z => gs a z) fun a z => .inl fun y => z ((gs a (by omega)).trans y)
      exact ⟨l1, l2, by simp at l3; omega, rfl, fzu, lk, g', R1.push ⟨vs, e', ne, h1, h2, r.kp (M := []) Kp.refl fun b z l => ⟨nil_mem, ⟨(gs b (by rw [z.1.1]; omega)).trans z.1.1, z.1.2⟩, z.2⟩, if_pos ga, if_pos gd⟩⟩
    | .exc _ _ _, h => exact ⟨l1, l2, by simp at l3; omega, rfl, fzu, lk, g, R0.push h⟩
    | .dead, h => exact ⟨l1, l2, by simp at l3; omega, rfl, fzu, lk, g, R0.push trivial⟩
  refine ⟨fun i m s' H' => m = n - i ∧ i ≤ n ∧ ∃ ρ', IV i ρ' ∧ Wd f (φ ++ φ') (us ++ us') ρ' [] s' [] H', ⟨n, by simp, Nat.zero_le _, ρ, h0, W⟩, ?_⟩
  rintro i m s' H1 ⟨rfl, hi, ρ', hI, W1⟩
  obtain ⟨hgo, hst⟩ := hJ i s' H1 ρ' W1
  rcases Nat.lt_or_ge i n with lt | ge
  · obtain ⟨g1, g2⟩ := hgo lt
    refine .inr ⟨g1, fun s2 H2 => ∃ ρ2, IV (i + 1) ρ2 ∧ Wd f (φ ++ φ') (us ++ us') ρ2 [] s2 [] H2, fun s2 H2 ⟨ρ2, z1, z2⟩ => ⟨n - (i + 1), by omega, rfl, lt, ρ2, z1, z2⟩, fun y H2 hy => ?_⟩
    obtain ⟨c, hc, W2⟩ := g2 y H2 hy
    refine hs i ρ' c lt hI hc _ _ _ _ _ _ W2 fun ρ2 s2 H3 q2 W3 => q2 _ _ _ _ _ W3 (fun ρ3 s3 H4 z W4 => ⟨ρ3, z, W4⟩) (fun ρ3 s3 H4 z W4 => k1 _ _ _ z (unh W4)) (fun ρ3 s3 H4 z W4 => ⟨ρ3, z, W4⟩) fun c ρ3 v3 s3 H4 z W4 => unh1 W4 z
  · obtain rfl : i = n := Nat.le_antisymm hi ge
    exact .inl ⟨hst (Nat.le_refl _), k1 _ _ _ (hd _ hI) (unh W1)⟩
/-- a loop's law: its invariant; IC: the value of turn i -/
def Loop (f : Fr) (ρ : List Cell) (n : Nat) (IC : Nat → Cell) (g : TG) (tb : TS) (Dn : Pn) : Prop := ∃ IV : Nat → List Cell → Prop, IV 0 ρ ∧ (∀ i ρ', i < n → IV i ρ' → Eg f ρ' (IC i) g fun ρ2 => Es f ρ2 tb { Dn with nx := IV (i + 1), ct := IV (i + 1), bk := Dn.nx }) ∧ ∀ ρ', IV n ρ' → Dn.nx ρ'
theorem loop {n : Nat} {IC : Nat → Cell} (IV : Nat → List Cell → Prop) (h0 : IV 0 ρ) (hs : ∀ i ρ', i < n → IV i ρ' → Eg f ρ' (IC i) g fun ρ2 => Es f ρ2 tb' { Dn with nx := IV (i + 1), ct := IV (i + 1), bk := Dn.nx }) (hd : ∀ ρ', IV n ρ' → Dn.nx ρ') : Loop f ρ n IC g tb' Dn := ⟨IV, h0, hs, hd⟩
theorem argI {n : Int} {vs : List V} (W : Wd f φ us ρ (τ ++ [cI n]) σ (ws ++ vs.map some) H) (hl : τ.length = ws.length) (l : vs.length = 1) : vs = [.int n] := by
  have h := W.args hl l (.cons lkI .nil)
  cases h with
  | cons h1 t => cases t; cases h1; rfl
theorem argI2 {a b : Int} {vs : List V} (W : Wd f φ us ρ (τ ++ [cI a, cI b]) σ (ws ++ vs.map some) H) (hl : τ.length = ws.length) (l : vs.length = 2) : vs = [.int a, .int b] := by
  have h := W.args hl l (.cons lkI (.cons lkI .nil))
  cases h with
  | cons h1 t =>
    cases t with
    | cons h2 t => cases t; cases h1; cases h2; rfl
theorem argI3 {a b e : Int} {vs : List V} (W : Wd f φ us ρ (τ ++ [cI a, cI b, cI e]) σ (ws ++ vs.map some) H) (hl : τ.length = ws.length) (l : vs.length = 3) : vs = [.int a, .int b, .int e] := by
  have h := W.args hl l (.cons lkI (.cons lkI (.cons lkI .nil)))
  cases h with
  | cons h1 t =>
    cases t with
    | cons h2 t =>
      cases t with
      | cons h3 t => cases t; cases h1; cases h2; cases h3; rfl
theorem nil_app {α : Type} {l : List α} : ([] ++ l) = l := rfl
/-- for .. in range(n) -/
theorem es_rng (q : EvA f false ρ [] tr fun cs ρ1 => ∃ n : Int, cs = [cI n] ∧ (-(2 ^ 62) ≤ n ∧ n < 2 ^ 62) ∧ Loop f ρ1 n.toNat (fun k => cI (k : Int)) g tbd Dn) : Es f ρ (tFor (iRng1 tr) g tbd) Dn := fun φ us σ H E W k1 _ _ k4 => x_for (x_itR (q φ us σ [] H _ W fun cs ρ1 vs H1 l ⟨n, ec, hn, IV, h0, hs, hd⟩ W1 => by
  subst ec
  obtain rfl := argI W1 rfl l
  refine ⟨n, rfl, hn.1, hn.2, loop_gen (n := n.toNat) (IC := fun k c => c = cI (k : Int)) (φ' := []) (us' := []) IV h0 (by rw [List.append_nil, List.append_nil]; exact W1.pop rfl) W1.l3 W1.lk_ (fun i s' H' ρ' W2 => ⟨fun hi => ⟨hi, fun x H2 ⟨e1, e2⟩ => ⟨_, rfl, ?_⟩⟩, fun hi => hi⟩) (fun i ρ' c hi hI hc => hc ▸ hs i ρ' hi hI) hd k1 k4⟩
  subst e1 e2
  exact (W2.scal fun _ _ => by rw [Int.zero_add]; exact .int _)))
/-- for .. in range(a, b) -/
theorem es_rng2 (q : EvA f false ρ [] tr fun cs ρ1 => ∃ a b : Int, cs = [cI a, cI b] ∧ (-(2 ^ 62) ≤ a ∧ a < 2 ^ 62 ∧ -(2 ^ 62) ≤ b ∧ b < 2 ^ 62) ∧ Loop f ρ1 (b - a).toNat (fun k => cI (a + (k : Int))) g tbd Dn) : Es f ρ (tFor (iRng2 tr) g tbd) Dn := fun φ us σ H E W k1 _ _ k4 => x_for (x_itR2 (q φ us σ [] H _ W fun cs ρ1 vs H1 l ⟨a, b, ec, hn, IV, h0, hs, hd⟩ W1 => by
  subst ec
  obtain rfl := argI2 W1 rfl l
  refine ⟨a, b, rfl, hn, loop_gen (n := (b - a).toNat) (IC := fun k c => c = cI (a + (k : Int))) (φ' := []) (us' := []) IV h0 (by rw [List.append_nil, List.append_nil]; exact W1.pop rfl) W1.l3 W1.lk_ (fun i s' H' ρ' W2 => ⟨fun hi => ⟨hi, fun x H2 ⟨e1, e2⟩ => ⟨_, rfl, ?_⟩⟩, fun hi => hi⟩) (fun i ρ' c hi hI hc => hc ▸ hs i ρ' hi hI) hd k1 k4⟩
  subst e1 e2
  exact (W2.scal fun _ _ => .int _)))
/-- for .. in range(a, b, -1) -/
theorem es_rngD (q : EvA f false ρ [] tr fun cs ρ1 => ∃ a b : Int, cs = [cI a, cI b, cI (-1)] ∧ (-100000 < a ∧ a < 100000 ∧ -100000 < b ∧ b < 100000) ∧ Loop f ρ1 (a - b).toNat (fun k => cI (a - (k : Int))) g tbd Dn) : Es f ρ (tFor (iRng3 tr) g tbd) Dn := fun φ us σ H E W k1 _ _ k4 => x_for (x_itR3 (q φ us σ [] H _ W fun cs ρ1 vs H1 l ⟨a, b, ec, hn, IV, h0, hs, hd⟩ W1 => by
  subst ec
  obtain rfl := argI3 W1 rfl l
  refine ⟨a, b, -1, (a - b).toNat, rfl, RgC.neg (by omega) (by omega) (by omega) (by omega), loop_gen (n := (a - b).toNat) (IC := fun k c => c = cI (a - (k : Int))) (φ' := []) (us' := []) IV h0 (by rw [List.append_nil, List.append_nil]; exact W1.pop rfl) W1.l3 W1.lk_ (fun i s' H' ρ' W2 => ⟨fun hi => ⟨hi, fun x H2 ⟨e1, e2⟩ => ⟨_, rfl, ?_⟩⟩, fun hi => hi⟩) (fun i ρ' c hi hI hc => hc ▸ hs i ρ' hi hI) hd k1 k4⟩
  subst e1 e2
  exact (W2.scal fun _ _ => by
    have : a + (i : Int) * (-1) = a - (i : Int) := by omega
    rw [this]
    exact .int _)))
/-- for .. in xs, a list (its things are nobody's) -/
theorem es_list (q : Ev f true ρ [] te fun c ρ1 => ∃ x l, c = .t x ∧ x.data = .lst l ∧ Loop f ρ1 l.length (fun k => .t (.d (l.getD k .non))) g tbd Dn) : Es f ρ (tFor (iList f.K te) g tbd) Dn := fun φ us σ H E W k1 _ _ k4 => x_for (x_itL (q φ us σ [] H _ W fun c ρ1 v H1 ⟨x, l, ec, ex, IV, h0, hs, hd⟩ W1 => by
  subst ec
  have W2 := W1.fzTop
  rw [ex] at W2
  have W3 := Wd.hold W2
  have hh : ∀ {ρ' s' H'}, Wd f (φ ++ [.t (.d (.lst l))]) (us ++ [some v]) ρ' [] s' [] H' → ∃ A a vs, v = .ref a ∧ H' a = some (.lst vs) ∧ DtL A f.K H' vs l ∧ Make f (φ ++ [.t (.d (.lst l))]) (us ++ [some v]) ρ' [] s' [] H' A := fun W => by
    obtain ⟨A, ⟨a, vs, e1, e2, r⟩, mk⟩ := W.held W1.l3
    exact ⟨A, a, vs, e1, e2, r, mk⟩
  obtain ⟨A, a, vs, ev, e2, r, _⟩ := hh W3
  subst ev
  refine ⟨a, rfl, ⟨vs, SqL.of e2⟩, loop_gen (n := l.length) (IC := fun k c => c = .t (.d (l.getD k .non))) IV h0 W3 W1.l3 W1.lk_ (fun i s' H' ρ' W4 => ?_) (fun i ρ' c hi hI hc => hc ▸ hs i ρ' hi hI) hd k1 k4⟩
  obtain ⟨A', a', vs', e1', e2', r', mk⟩ := hh W4
  cases e1'
  refine ⟨fun hi => ?_, fun hi => ⟨vs', SqL.of e2', by rw [r'.length]; exact hi⟩⟩
  obtain ⟨w, hw, hd'⟩ := r'.get (List.getElem?_eq_getElem hi)
  refine ⟨⟨vs', w, SqL.of e2', hw⟩, fun y H2 ⟨e3, e4⟩ => ⟨_, rfl, ?_⟩⟩
  subst e3
  have := e4 vs' (SqL.of e2')
  rw [hw] at this
  cases this
  rw [show l.getD i .non = l[i] by rw [List.getD_eq_getElem?_getD, List.getElem?_eq_getElem hi]; rfl]
  exact mk.one _ _ hd'))
/-- .. a tuple -/
theorem es_tupl (q : Ev f true ρ [] te fun c ρ1 => ∃ x l, c = .t x ∧ x.data = .tup l ∧ Loop f ρ1 l.length (fun k => .t (.d (l.getD k .non))) g tbd Dn) : Es f ρ (tFor (iTup f.K te) g tbd) Dn := fun φ us σ H E W k1 _ _ k4 => x_for (x_itT (q φ us σ [] H _ W fun c ρ1 v H1 ⟨x, l, ec, ex, IV, h0, hs, hd⟩ W1 => by
  subst ec
  have W2 := W1.fzTop
  rw [ex] at W2
  have W3 := Wd.hold W2
  have hh : ∀ {ρ' s' H'}, Wd f (φ ++ [.t (.d (.tup l))]) (us ++ [some v]) ρ' [] s' [] H' → ∃ A a vs, v = .ref a ∧ SqT f.K H' a vs ∧ DtL A f.K H' vs l ∧ Make f (φ ++ [.t (.d (.tup l))]) (us ++ [some v]) ρ' [] s' [] H' A := fun W => by
    obtain ⟨A, ⟨a, vs, e1, e2, r⟩, mk⟩ := W.held W1.l3
    exact ⟨A, a, vs, e1, e2, r, mk⟩
  obtain ⟨A, a, vs, ev, e2, r, _⟩ := hh W3
  subst ev
  refine ⟨a, rfl, ⟨vs, e2⟩, loop_gen (n := l.length) (IC := fun k c => c = .t (.d (l.getD k .non))) IV h0 W3 W1.l3 W1.lk_ (fun i s' H' ρ' W4 => ?_) (fun i ρ' c hi hI hc => hc ▸ hs i ρ' hi hI) hd k1 k4⟩
  obtain ⟨A', a', vs', e1', e2', r', mk⟩ := hh W4
  cases e1'
  refine ⟨fun hi => ?_, fun hi => ⟨vs', e2', by rw [r'.length]; exact hi⟩⟩
  obtain ⟨w, hw, hd'⟩ := r'.get (List.getElem?_eq_getElem hi)
  refine ⟨⟨vs', w, e2', hw⟩, fun y H2 ⟨e3, e4⟩ => ⟨_, rfl, ?_⟩⟩
  subst e3
  have := e4 vs' e2'
  rw [hw] at this
  cases this
  rw [show l.getD i .non = l[i] by rw [List.getD_eq_getElem?_getD, List.getElem?_eq_getElem hi]; rfl]
  exact mk.one _ _ hd'))
/-- for i, x in enumerate(xs) -/
theorem es_enum (ok : f.Ok) (q : EvA f true ρ [] tr fun cs ρ1 => ∃ x l, cs = [.t x] ∧ x.data = .lst l ∧ Loop f ρ1 l.length (fun k => .t (.tup [.d (.int (k : Int)), .d (l.getD k .non)])) g tbd Dn) : Es f ρ (tFor (iEnum f.K tr) g tbd) Dn := fun φ us σ H E W k1 _ _ k4 => x_for (x_itE (q φ us σ [] H _ W fun cs ρ1 vs H1 ln ⟨x, l, ec, ex, IV, h0, hs, hd⟩ W1 => by
  subst ec
  match vs, ln with
  | [v], _ =>
  have W2 := Wd.fzTop (τ := []) (ws := []) W1
  rw [ex] at W2
  have W3 := Wd.hold W2
  have hh : ∀ {ρ' s' H'}, Wd f (φ ++ [.t (.d (.lst l))]) (us ++ [some v]) ρ' [] s' [] H' → ∃ A a vs, v = .ref a ∧ H' a = some (.lst vs) ∧ DtL A f.K H' vs l ∧ Make f (φ ++ [.t (.d (.lst l))]) (us ++ [some v]) ρ' [] s' [] H' A := fun W => by
    obtain ⟨A, ⟨a, vs, e1, e2, r⟩, mk⟩ := W.held W1.l3
    exact ⟨A, a, vs, e1, e2, r, mk⟩
  obtain ⟨A, a, vs, ev, e2, r, _⟩ := hh W3
  subst ev
  refine ⟨a, vs, rfl, SqL.of e2, loop_gen (n := l.length) (IC := fun k c => c = .t (.tup [.d (.int (k : Int)), .d (l.getD k .non)])) IV h0 W3 W1.l3 W1.lk_ (fun i s' H' ρ' W4 => ?_) (fun i ρ' c hi hI hc => hc ▸ hs i ρ' hi hI) hd k1 k4⟩
  obtain ⟨A', a', vs', e1', e2', r', mk⟩ := hh W4
  cases e1'
  refine ⟨fun hi => ?_, fun hi => ⟨vs', SqL.of e2', by rw [r'.length]; exact hi⟩⟩
  obtain ⟨w, hw, hd'⟩ := r'.get (List.getElem?_eq_getElem hi)
  refine ⟨⟨vs', w, SqL.of e2', hw⟩, fun y H2 ⟨T, z, e3, e5, e6, e4⟩ => ⟨_, rfl, ?_⟩⟩
  subst e3 e6
  have := e4 vs' (SqL.of e2')
  rw [hw] at this
  cases this
  rw [show l.getD i .non = l[i] by rw [List.getD_eq_getElem?_getD, List.getElem?_eq_getElem hi]; rfl]
  exact mk.row ok T [.int (i : Int), w] [.int (i : Int), l[i]] false e5 (.cons (.int _) (.cons hd' .nil))))
/-- a tuple is taken apart (two items) -/
theorem eg_tup2 {n1 n2 kk : Nat} {d1 d2 : D} {ρ2 : List Cell} (hk : kk = 2) (n : noP ρ = true) (lf : Leaf ρ c (.tup [d1, d2])) (s1 : CSet ρ n1 (.t (.d d1)) ρ1) (n' : noP ρ1 = true) (s2 : CSet ρ1 n2 (.t (.d d2)) ρ2) (q : Ψ ρ2) : Eg f ρ c (gTup f.K kk (gCons (gName n1) (gCons (gName n2) gNil))) Ψ := fun φ us σ H v qs W k => by
  subst hk
  obtain ⟨A, hd, mk⟩ := Wd.items (cs := [c]) (vs := [v]) (τ := []) (ws := []) W rfl rfl (.cons lf .nil)
  cases hd with
  | cons h1 t =>
    cases t
    obtain ⟨a, xs, rfl, e1, r⟩ := h1
    cases r with
    | cons r1 r =>
      cases r with
      | cons r2 r =>
        cases r
        rename_i v1 v2
        refine ⟨a, [v1, v2], rfl, e1, rfl, v1, [v2], rfl, v2, [], rfl, rfl, ?_⟩
        have W1 := mk.many [v2, v1] [d2, d1] (.cons r2 (.cons r1 .nil))
        have W2 := Wd.set (τ := [.t (.d d2)]) (ws := [some v2]) (x := .d d1) (v := v1) W1 rfl s1.lt (noP_ok n) (noP_ok rfl)
        rw [s1.eq] at W2
        have W3 := Wd.set (τ := []) (ws := []) (x := .d d2) (v := v2) W2 rfl s2.lt (noP_ok n') (fun _ z => nomatch z)
        rw [s2.eq] at W3
        exact k _ _ _ q W3
end
end LN
namespace LN
open PySem PySem.Spec PyProof.Rows L2
section
variable {f : Fr} {m : Bool} {φ ρ ρ' ρ1 τ : List Cell} {us ws : List (Option V)} {σ : St} {H H' : Hp} {i : Nat} {v : V} {x : T} {d : D} {c c1 c2 : Cell} {Φ : Cell → List Cell → Prop} {Ψ : List Cell → Prop} {Φb : Bool → List Cell → Prop} {ΦA : List Cell → List Cell → Prop} {ta tb te to ti : TE} {tr : TA} {tt tu : TT} {t u tbd : TS} {Dn : Pn} {g : TG} {E : Ends} {vl : List Nat}
theorem es_while (IV : Nat → List Cell → Prop) (m0 : Nat) (h0 : IV m0 ρ) (hs : ∀ m ρ', IV m ρ' → Et f ρ' [] tt fun b ρ2 => if b = true then Es f ρ2 tbd { Dn with nx := fun ρ3 => ∃ m', m' < m ∧ IV m' ρ3, ct := fun ρ3 => ∃ m', m' < m ∧ IV m' ρ3, bk := Dn.nx } else Dn.nx ρ2) : Es f ρ (tWhile tt tbd) Dn := fun φ us σ H E W k1 _ _ k4 => by
  refine ⟨fun m s' H' => ∃ ρ', IV m ρ' ∧ Wd f φ us ρ' [] s' [] H', ⟨m0, ρ, h0, W⟩, fun m s' H' ⟨ρ', hI, W1⟩ => hs m ρ' hI φ us s' [] H' _ W1 fun b ρ2 H2 q W2 => ?_⟩
  cases b with
  | true =>
    rw [if_pos rfl] at q ⊢
    exact ⟨fun s3 H3 => ∃ m', m' < m ∧ ∃ ρ3, IV m' ρ3 ∧ Wd f φ us ρ3 [] s3 [] H3, fun s3 H3 z => z, q φ us s' H2 _ W2 (fun ρ3 s3 H3 ⟨m', h1, h2⟩ W3 => ⟨m', h1, ρ3, h2, W3⟩) k1 (fun ρ3 s3 H3 ⟨m', h1, h2⟩ W3 => ⟨m', h1, ρ3, h2, W3⟩) k4⟩
  | false =>
    rw [if_neg Bool.false_ne_true] at q ⊢
    exact k1 _ _ _ q W2
/-! ### comprehensions -/
theorem noP_app : ∀ {a b : List Cell}, noP a = true → noP b = true → noP (a ++ b) = true
  | [], _, _, h => h
  | .t _ :: a, _, h, h' => noP_app (a := a) h h'
  | .sto :: a, _, h, h' => noP_app (a := a) h h'
  | .dead :: a, _, h, h' => noP_app (a := a) h h'
  | .ins _ _ _ _ :: a, _, h, h' => noP_app (a := a) h h'
  | .exc _ _ _ :: a, _, h, h' => noP_app (a := a) h h'
inductive KillC : List Nat → List Cell → List Cell → Prop
  | nil {ρ : List Cell} : KillC [] ρ ρ
  | cons {v : Nat} {vs : List Nat} {ρ ρ1 ρ2 : List Cell} : KillC vs ρ ρ1 → CSet ρ1 v .dead ρ2 → KillC (v :: vs) ρ ρ2
theorem Wd.wipe : ∀ {vl : List Nat} {ρ ρ' : List Cell}, Wd f φ us ρ τ σ ws H → KillC vl ρ ρ' → noP ρ = true → noP τ = true → Wd f φ us ρ' τ (L2.wipe σ vl) ws H ∧ noP ρ' = true
  | [], _, _, W, .nil, h, _ => ⟨W, h⟩
  | v :: vl, ρ, _, W, .cons (ρ1 := ρ1) k s, h, h' => by
    obtain ⟨W1, n1⟩ := W.wipe k h h'
    have W2 := W1.kill s.lt (noP_ok n1) (noP_ok h')
    rw [s.eq] at W2
    refine ⟨W2.any (by rw [← s.eq]; exact List.getElem?_set_self s.lt) none, ?_⟩
    rw [← s.eq]
    clear W W1 W2 k
    have key : ∀ {l : List Cell} {i : Nat}, noP l = true → noP (l.set i .dead) = true := by
      intro l
      induction l with
      | nil => intro i _; rfl
      | cons c l ih =>
        intro i h
        cases i with
        | zero => cases c <;> first | exact h | cases h
        | succ i => cases c <;> first | exact ih h | cases h
    exact key n1
/-- the slots of a comprehension's names are dead -/
theorem Wd.unwipe : ∀ {vl : List Nat}, Wd f φ us ρ τ (L2.wipe σ vl) ws H → (∀ v ∈ vl, ρ[v]? = some .dead) → σ.length = f.n → Wd f φ us ρ τ σ ws H
  | [], W, _, _ => W
  | v :: vl, W, h, hl => by
    have e := W.any (h v List.mem_cons_self) ((L2.wipe σ vl).getD v none)
    have hv : v < (L2.wipe σ vl).length := by
      rw [wipe_length]
      have := (List.getElem?_eq_some_iff.mp (h v List.mem_cons_self)).1
      have := W.l1
      omega
    have : ((L2.wipe σ vl).set v none).set v ((L2.wipe σ vl).getD v none) = L2.wipe σ vl := by
      rw [List.set_set]
      exact set_self (by rw [List.getD_eq_getElem?_getD, List.getElem?_eq_getElem hv]; rfl)
    have e' : Wd f φ us ρ τ (((L2.wipe σ vl).set v none).set v ((L2.wipe σ vl).getD v none)) ws H := e
    rw [this] at e'
    exact e'.unwipe (fun w z => h w (List.mem_cons_of_mem _ z)) hl
theorem Wd.wipe0 : ∀ {vl : List Nat}, Wd f φ us ρ τ σ ws H → (∀ v ∈ vl, ρ[v]? = some .dead) → Wd f φ us ρ τ (L2.wipe σ vl) ws H
  | [], W, _ => W
  | v :: vl, W, h => (W.wipe0 (vl := vl) fun w z => h w (List.mem_cons_of_mem _ z)).any (h v List.mem_cons_self) none
/-- a turn's value goes to a comprehension's names -/
def EgC (f : Fr) (ρ τ : List Cell) (c : Cell) (g : TG) (vl : List Nat) (Ψ : List Cell → Prop) : Prop := ∀ φ us σ ws H v qs, τ.length = ws.length → Wd f φ us ρ (τ ++ [c]) (L2.wipe σ vl) (ws ++ [some v]) H → (∀ ρ' σ2 H', Ψ ρ' → L2.wipe σ2 vl = L2.wipe σ vl → Wd f φ us ρ' τ σ2 ws H' → qs σ2 H') → g v (L2.wipe σ vl) H qs
theorem egc_name (s : CSet ρ i (.t x) ρ') (n : noP ρ = true) (n' : noP τ = true) (q : Ψ ρ') : EgC f ρ τ (.t x) (gName i) [i] Ψ := fun φ us σ ws H v qs l W k => by
  have W1 := W.set l s.lt (noP_ok n) (noP_ok n')
  rw [s.eq] at W1
  refine k _ _ _ q ?_ W1
  show ((σ.set i none).set i (some v)).set i none = σ.set i none
  rw [List.set_set, List.set_set]
theorem egc_tup2 {n1 n2 kk : Nat} {d1 d2 : D} {ρ2 : List Cell} (hk : kk = 2) (n : noP ρ = true) (nt : noP τ = true) (ne : n1 ≠ n2) (lf : Leaf ρ c (.tup [d1, d2])) (s1 : CSet ρ n1 (.t (.d d1)) ρ1) (n' : noP ρ1 = true) (s2 : CSet ρ1 n2 (.t (.d d2)) ρ2) (q : Ψ ρ2) : EgC f ρ τ c (gTup f.K kk (gCons (gName n1) (gCons (gName n2) gNil))) [n1, n2] Ψ := fun φ us σ ws H v qs l W k => by
  subst hk
  obtain ⟨A, hd, mk⟩ := Wd.items (cs := [c]) (vs := [v]) W l rfl (.cons lf .nil)
  cases hd with
  | cons h1 t =>
    cases t
    obtain ⟨a, xs, rfl, e1, r⟩ := h1
    cases r with
    | cons r1 r =>
      cases r with
      | cons r2 r =>
        cases r
        rename_i v1 v2
        refine ⟨a, [v1, v2], rfl, e1, rfl, v1, [v2], rfl, v2, [], rfl, rfl, ?_⟩
        have W1 := mk.many [v2, v1] [d2, d1] (.cons r2 (.cons r1 .nil))
        have nt2 : noP (τ ++ [.t (.d d2)]) = true := noP_app nt rfl
        have W2 := Wd.set (τ := τ ++ [.t (.d d2)]) (ws := ws ++ [some v2]) (x := .d d1) (v := v1) (by rw [List.append_assoc, List.append_assoc]; exact W1) (by simp [l]) s1.lt (noP_ok n) (noP_ok nt2)
        rw [s1.eq] at W2
        have W3 := Wd.set (x := .d d2) (v := v2) W2 l s2.lt (noP_ok n') (noP_ok nt)
        rw [s2.eq] at W3
        refine k _ _ _ q ?_ W3
        show ((((((σ.set n2 none).set n1 none).set n1 (some v1)).set n2 (some v2)).set n2 none).set n1 none) = (σ.set n2 none).set n1 none
        have w2 : ((σ.set n2 none).set n1 none).set n2 none = (σ.set n2 none).set n1 none := by
          rw [List.set_comm _ _ (Ne.symm ne), List.set_set]
        have w1 : ((σ.set n2 none).set n1 none).set n1 none = (σ.set n2 none).set n1 none := by rw [List.set_set]
        generalize (σ.set n2 none).set n1 none = w at *
        rw [List.set_set, List.set_comm _ _ ne, List.set_set, w2, w1]
/-- a comprehension's law -/
def LcL (f : Fr) (ρ τ : List Cell) (n : Nat) (IC : Nat → Cell) (g : TG) (vl : List Nat) (tt : TT) (te : TE) (Φ : Cell → List Cell → Prop) : Prop := ∃ IV : Nat → List T → Prop, (∀ v ∈ vl, ρ[v]? = some .dead) ∧ IV 0 [] ∧ (∀ i acc, i < n → IV i acc → acc.length ≤ i → EgC f ρ (τ ++ [.t (.lst acc)]) (IC i) g vl fun ρ2 => Et f ρ2 (τ ++ [.t (.lst acc)]) tt fun b ρ3 =>
  if b = true then Ev f true ρ3 (τ ++ [.t (.lst acc)]) te fun c ρ4 => ∃ x, c = .t x ∧ noP ρ4 = true ∧ KillC vl ρ4 ρ ∧ IV (i + 1) (acc ++ [x]) else noP ρ3 = true ∧ KillC vl ρ3 ρ ∧ IV (i + 1) acc) ∧ ∀ acc, IV n acc → acc.length ≤ n → Φ (.t (.lst acc)) ρ
theorem lc_gen (ok : f.Ok) {J : It} {n : Nat} {IC : Nat → Cell} {hd : List Cell} {hv : List (Option V)} (np : noP τ = true) (nh : noP hd = true) (W : Wd f φ us ρ (τ ++ hd) σ (ws ++ hv) H) (hl : τ.length = ws.length) (hn : n ≤ 100000)
    (hJ : ∀ i s' H' ρ' c v, Wd f φ us ρ' ((τ ++ hd) ++ [c]) s' ((ws ++ hv) ++ [some v]) H' → (i < n → J.go i H' ∧ ∀ x H'', J.yld i H' x H'' → Wd f φ us ρ' (((τ ++ hd) ++ [c]) ++ [IC i]) s' (((ws ++ hv) ++ [some v]) ++ [some x]) H'') ∧ (n ≤ i → J.stop i H'))
    (q : LcL f ρ (τ ++ hd) n IC g vl tt te Φ) (Q : VK) (k : ∀ c ρ' v H', Φ c ρ' → Wd f φ us ρ' (τ ++ [c]) σ (ws ++ [some v]) H' → Q v H') : LcG J g tt te vl σ H Q := by
  obtain ⟨IV, hdead, h0, hs, hd'⟩ := q
  intro D hD
  have hl2 : (τ ++ hd).length = (ws ++ hv).length := W.l4
  have np2 := noP_app np nh
  refine ⟨fun i m H' => m = n - i ∧ i ≤ n ∧ ∃ acc, IV i acc ∧ acc.length ≤ i ∧ Wd f φ us ρ ((τ ++ hd) ++ [.t (.lst acc)]) (L2.wipe σ vl) ((ws ++ hv) ++ [some (.ref D)]) H', ⟨n, by simp, Nat.zero_le _, [], h0, Nat.le_refl _, ?_⟩, ?_⟩
  · have W0 : Wd f φ us ρ ((τ ++ hd) ++ ([] : List T).map Cell.t) σ ((ws ++ hv) ++ ([] : List V).map some) H := by
      rw [List.map_nil, List.append_nil, List.map_nil, List.append_nil]
      exact W
    exact (W0.pack ok hl2 hD true).wipe0 hdead
  rintro i m H1 ⟨rfl, hi, acc, hI, ha, W1⟩
  obtain ⟨hgo, hst⟩ := hJ i _ H1 ρ _ _ W1
  rcases Nat.lt_or_ge i n with lt | ge
  · obtain ⟨g1, g2⟩ := hgo lt
    refine .inr ⟨g1, fun H2 => ∃ acc, IV (i + 1) acc ∧ acc.length ≤ i + 1 ∧ Wd f φ us ρ ((τ ++ hd) ++ [.t (.lst acc)]) (L2.wipe σ vl) ((ws ++ hv) ++ [some (.ref D)]) H2, fun H2 z => ⟨n - (i + 1), by omega, rfl, lt, z⟩, fun y H2 hy => ?_⟩
    have W2 := g2 y H2 hy
    refine hs i acc lt hI ha φ us σ _ H2 y _ (by simp at hl2 ⊢; omega) W2 fun ρ2 s2 H3 q2 es W3 => ⟨es, q2 _ _ _ _ _ _ W3 fun b ρ3 H4 q3 W4 => ?_⟩
    have na : noP ((τ ++ hd) ++ [.t (.lst acc)]) = true := noP_app np2 rfl
    cases b with
    | true =>
      rw [if_pos rfl] at q3 ⊢
      refine q3 _ _ _ _ _ _ W4 fun c ρ4 v4 H5 ⟨x, ec, n4, kl, hI'⟩ W5 => ?_
      subst ec
      obtain ⟨vs, e1, e2, W6⟩ := W5.acc ok hl2
      obtain ⟨W7, _⟩ := W6.wipe kl n4 (noP_app np2 rfl)
      rw [es] at W7
      exact ⟨vs, e1, sz_lt (by omega), _, hI', by simp; omega, W7⟩
    | false =>
      rw [if_neg Bool.false_ne_true] at q3 ⊢
      obtain ⟨n4, kl, hI'⟩ := q3
      obtain ⟨W7, _⟩ := W4.wipe kl n4 na
      rw [es] at W7
      exact ⟨_, hI', by omega, W7⟩
  · obtain rfl : i = n := Nat.le_antisymm hi ge
    refine .inl ⟨hst (Nat.le_refl _), k _ _ _ _ (hd' acc hI ha) ?_⟩
    exact (W1.unwipe hdead W.l2).down hl
theorem lcl {n : Nat} {IC : Nat → Cell} (IV : Nat → List T → Prop) (hdead : ∀ v ∈ vl, ρ[v]? = some .dead) (h0 : IV 0 []) (hs : ∀ i acc, i < n → IV i acc → acc.length ≤ i → EgC f ρ (τ ++ [.t (.lst acc)]) (IC i) g vl fun ρ2 => Et f ρ2 (τ ++ [.t (.lst acc)]) tt fun b ρ3 =>
  if b = true then Ev f true ρ3 (τ ++ [.t (.lst acc)]) te fun c ρ4 => ∃ x, c = .t x ∧ noP ρ4 = true ∧ KillC vl ρ4 ρ ∧ IV (i + 1) (acc ++ [x]) else noP ρ3 = true ∧ KillC vl ρ3 ρ ∧ IV (i + 1) acc) (hd : ∀ acc, IV n acc → acc.length ≤ n → Φ (.t (.lst acc)) ρ) : LcL f ρ τ n IC g vl tt te Φ := ⟨IV, hdead, h0, hs, hd⟩
theorem et_yes (q : Φb true ρ) : Et f ρ τ tYes Φb := fun _ _ _ _ _ _ W k => k _ _ _ q W
/-- [.. for .. in range(n)] -/
theorem ev_lcR (ok : f.Ok) (np : noP τ = true) (q : EvA f false ρ τ tr fun cs ρ1 => ∃ n : Int, cs = [cI n] ∧ (-(2 ^ 62) ≤ n ∧ n ≤ 100000) ∧ LcL f ρ1 τ n.toNat (fun k => cI (k : Int)) g vl tt te Φ) : Ev f m ρ τ (tLc (iRng1 tr) g tt te vl) Φ := fun φ us σ ws H Q W k => x_lc (x_itR (q φ us σ ws H _ W fun cs ρ1 vs H1 l ⟨n, ec, hn, q1⟩ W1 => by
  subst ec
  obtain rfl := argI W1 W.l4 l
  have W2 := W1.pop W.l4
  refine ⟨n, rfl, hn.1, by omega, lc_gen ok (J := Itr 0 n.toNat) (hd := []) (hv := []) np rfl (by rw [List.append_nil, List.append_nil]; exact W2) W.l4 (n := n.toNat) (IC := fun k => cI (k : Int)) (by omega) (fun i s' H' ρ' c v W3 => ⟨fun hi => ⟨hi, fun x H2 ⟨e1, e2⟩ => ?_⟩, fun hi => hi⟩) (by rw [List.append_nil]; exact q1) Q k⟩
  subst e1 e2
  exact W3.scal fun _ _ => by rw [Int.zero_add]; exact .int _))
/-- [.. for .. in xs] -/
theorem ev_lcL (ok : f.Ok) (np : noP τ = true) (q : Ev f true ρ τ ta fun c ρ1 => ∃ x l, c = .t x ∧ x.data = .lst l ∧ l.length ≤ 100000 ∧ LcL f ρ1 (τ ++ [.t (.d (.lst l))]) l.length (fun k => .t (.d (l.getD k .non))) g vl tt te Φ) : Ev f m ρ τ (tLc (iList f.K ta) g tt te vl) Φ := fun φ us σ ws H Q W k => x_lc (x_itL (q φ us σ ws H _ W fun c ρ1 v H1 ⟨x, l, ec, ex, hz, q1⟩ W1 => by
  subst ec
  have W2 := W1.fzTop
  rw [ex] at W2
  have hh : ∀ {ρ' s' H' τ2 w2}, Wd f φ us ρ' ((τ ++ [.t (.d (.lst l))]) ++ τ2) s' ((ws ++ [some v]) ++ w2) H' → ∃ A a vs, v = .ref a ∧ H' a = some (.lst vs) ∧ DtL A f.K H' vs l ∧ Make f φ us ρ' ((τ ++ [.t (.d (.lst l))]) ++ τ2) s' ((ws ++ [some v]) ++ w2) H' A := fun W' => by
    obtain ⟨A, ⟨a, vs, e1, e2, r⟩, mk⟩ := W'.heldT W.l4
    exact ⟨A, a, vs, e1, e2, r, mk⟩
  obtain ⟨A, a, vs, ev, e2, r, _⟩ := hh (τ2 := []) (w2 := []) (by rw [List.append_nil, List.append_nil]; exact W2)
  subst ev
  refine ⟨a, rfl, ⟨vs, SqL.of e2⟩, lc_gen ok np rfl W2 W.l4 (n := l.length) (IC := fun k => .t (.d (l.getD k .non))) hz (fun i s' H' ρ' c v W3 => ?_) q1 Q k⟩
  obtain ⟨A', a', vs', e1', e2', r', mk⟩ := hh W3
  cases e1'
  refine ⟨fun hi => ?_, fun hi => ⟨vs', SqL.of e2', by rw [r'.length]; exact hi⟩⟩
  obtain ⟨w, hw, hd'⟩ := r'.get (List.getElem?_eq_getElem hi)
  refine ⟨⟨vs', w, SqL.of e2', hw⟩, fun y H2 ⟨e3, e4⟩ => ?_⟩
  subst e3
  have := e4 vs' (SqL.of e2')
  rw [hw] at this
  cases this
  rw [show l.getD i .non = l[i] by rw [List.getD_eq_getElem?_getD, List.getElem?_eq_getElem hi]; rfl]
  exact mk.one _ _ hd'))
/-- [.. for i, x in enumerate(xs)] -/
theorem ev_lcE (ok : f.Ok) (np : noP τ = true) (q : EvA f true ρ τ tr fun cs ρ1 => ∃ x l, cs = [.t x] ∧ x.data = .lst l ∧ l.length ≤ 100000 ∧ LcL f ρ1 (τ ++ [.t (.d (.lst l))]) l.length (fun k => .t (.tup [.d (.int (k : Int)), .d (l.getD k .non)])) g vl tt te Φ) : Ev f m ρ τ (tLc (iEnum f.K tr) g tt te vl) Φ := fun φ us σ ws H Q W k => x_lc (x_itE (q φ us σ ws H _ W fun cs ρ1 vs H1 ln ⟨x, l, ec, ex, hz, q1⟩ W1 => by
  subst ec
  match vs, ln with
  | [v], _ =>
  have W2 := Wd.fzTop W1
  rw [ex] at W2
  have hh : ∀ {ρ' s' H' τ2 w2}, Wd f φ us ρ' ((τ ++ [.t (.d (.lst l))]) ++ τ2) s' ((ws ++ [some v]) ++ w2) H' → ∃ A a vs, v = .ref a ∧ H' a = some (.lst vs) ∧ DtL A f.K H' vs l ∧ Make f φ us ρ' ((τ ++ [.t (.d (.lst l))]) ++ τ2) s' ((ws ++ [some v]) ++ w2) H' A := fun W' => by
    obtain ⟨A, ⟨a, vs, e1, e2, r⟩, mk⟩ := W'.heldT W.l4
    exact ⟨A, a, vs, e1, e2, r, mk⟩
  obtain ⟨A, a, vs, ev, e2, r, _⟩ := hh (τ2 := []) (w2 := []) (by rw [List.append_nil, List.append_nil]; exact W2)
  subst ev
  refine ⟨a, vs, rfl, SqL.of e2, lc_gen ok np rfl W2 W.l4 (n := l.length) (IC := fun k => .t (.tup [.d (.int (k : Int)), .d (l.getD k .non)])) hz (fun i s' H' ρ' c v W3 => ?_) q1 Q k⟩
  obtain ⟨A', a', vs', e1', e2', r', mk⟩ := hh W3
  cases e1'
  refine ⟨fun hi => ?_, fun hi => ⟨vs', SqL.of e2', by rw [r'.length]; exact hi⟩⟩
  obtain ⟨w, hw, hd'⟩ := r'.get (List.getElem?_eq_getElem hi)
  refine ⟨⟨vs', w, SqL.of e2', hw⟩, fun y H2 ⟨T, z, e3, e5, e6, e4⟩ => ?_⟩
  subst e3 e6
  have := e4 vs' (SqL.of e2')
  rw [hw] at this
  cases this
  rw [show l.getD i .non = l[i] by rw [List.getD_eq_getElem?_getD, List.getElem?_eq_getElem hi]; rfl]
  exact mk.row ok T [.int (i : Int), w] [.int (i : Int), l[i]] false e5 (.cons (.int _) (.cons hd' .nil))))
/-! ### changes -/
theorem lk_pl {j : Nat} {p : List Nat} {y s : T} (e : CAt ρ j (.t y)) (ea : y.at p = some s) (h : s.data = d) : Lk ρ (.pl j p) d := .pl e.eq ea h
theorem leaf_pl {j : Nat} {p : List Nat} {y : T} {l : List D} (e : CAt ρ j (.t y)) (ea : y.at p = some (.lst (l.map .d))) : Leaf ρ (.pl j p) (.lst l) := .pl e.eq ea
theorem rMv_of {r : V → List V → Hp → VK → Prop} {a b : V} {H : Hp} {Q : VK} (h : r a [b] H Q) : rMv r [a, b] H Q := fun _ _ e => by cases e; exact h
/-- xs.append(e), xs anywhere within one's own -/
theorem vo_append (ok : f.Ok) {j : Nat} {p : List Nat} {y : T} {l : List T} (e : CAt ρ j (.t y)) (ea : y.at p = some (.lst l)) (n1 : noP ρ = true) (n2 : noP τ = true) (hl : l.length < 100000) (s : CSet ρ j (.t (y.put p (.lst (l ++ [x])))) ρ') (q : Φ cN ρ') : Vo f ρ τ (rMv rAppend) [.pl j p, .t x] Φ :=
  vo_mut ok (fun v vs => vs ++ [v]) e ea (opT := fun l => l ++ [x]) s n1 n2 (fun _ => .app) (fun a vs v H Q h1 h2 h3 => rMv_of (x_append h1 (by omega) h3)) q
/-- xs[k] = e -/
theorem eg_sub (ok : f.Ok) (q : Ev f false ρ [c] to fun o ρ1 => Ev f false ρ1 ([c] ++ [o]) ti fun k ρ2 => ∃ j p y l n kk x, c = .t x ∧ o = .pl j p ∧ k = cI kk ∧ CAt ρ2 j (.t y) ∧ y.at p = some (.lst l) ∧ ixN l.length kk = some n ∧ noP ρ2 = true ∧ ∃ ρ', CSet ρ2 j (.t (y.put p (.lst (l.set n x)))) ρ' ∧ Ψ ρ') : Eg f ρ c (gSub to ti rSetL) Ψ := fun φ us σ H v qs W kq => q φ us σ _ H _ W fun o ρ1 v1 H1 q1 W1 => q1 φ us σ _ H1 _ W1 fun k ρ2 v2 H2 ⟨j, p, y, l, n, kk, x, ec, eo, ek, e, ea, hk, n1, ρ', s, q2⟩ W2 => by
  subst ec eo ek
  have W3 : Wd f φ us ρ2 ([.t x, .pl j p] ++ [cI kk]) σ ([some v, some v1] ++ [some v2]) H2 := W2
  obtain ⟨u2, y1, y2⟩ := W3.lk (k := 2) (c := cI kk) rfl (.t rfl)
  cases y1
  cases y2
  have W4 := W3.pop (τ := [.t x, .pl j p]) (ws := [some v, some v1]) rfl
  obtain ⟨u1, x', s', w, z1, z2, z3, z4, z5, z6⟩ := W4.plc (k := 1) rfl
  cases z1
  rw [e.eq] at z2
  cases z2
  rw [ea] at z3
  cases z3
  obtain ⟨g, R0⟩ := W4.rep
  obtain ⟨v0, F, r1, r2, r3⟩ := R0.tcell (at3 e.eq)
  rw [at3 z5] at r1
  cases r1
  obtain ⟨w2, G2, t1, t2, t3, t4⟩ := r2.walk ea
  obtain rfl := Walk.uniq z6 t1
  cases t2 with
  | @lst a vsl _ G e1 rr nn =>
    have W5 : Wd f φ us ρ2 (([] ++ []) ++ [.t x]) σ (([] ++ []) ++ [some v]) H2 := W4.pop (τ := [.t x]) (ws := [some v]) (cs := [.pl j p]) (vs := [some (.ref a)]) rfl
    obtain ⟨vs', e2, e3, W6⟩ := Wd.mut ok W5 rfl rfl (noP_ok n1) (fun _ z => nomatch z) e.eq ea z5 z6 (LOp.set (k := n))
    rw [s.eq] at W6
    exact ⟨a, vs', kk, n, rfl, rfl, e2, by rw [e3]; exact hk, kq _ _ _ q2 W6⟩
end
/-! ### the store asked (the old contracts) -/
section
variable {K : PySem.W.Frag} {A : Addr → Prop} {H0 : Hp} {p sl : Addr} {nS : Nat} {m : Bool} {φ ρ ρ' ρ1 τ : List Cell} {us ws : List (Option V)} {σ : St} {H H' : Hp} {Φ : Cell → List Cell → Prop} {tr : TA} {E : XK} {c : Cell} {l : List D}
theorem argS {cs : List Cell} {vs : List V} (W : Wd (frS K A H0 p sl nS) φ us ρ (τ ++ .sto :: cs) σ (ws ++ vs.map some) H) (hl : τ.length = ws.length) (l : vs.length = cs.length + 1) : ∃ vs', vs = .ref p :: vs' ∧ Wd (frS K A H0 p sl nS) φ us ρ ((τ ++ [.sto]) ++ cs) σ ((ws ++ [some (.ref p)]) ++ vs'.map some) H ∧ StoreS H p sl := by
  match vs, l with
  | v :: vs, l =>
    have W1' : Wd (frS K A H0 p sl nS) φ us ρ ((τ ++ [.sto]) ++ cs) σ ((ws ++ [some v]) ++ vs.map some) H := by
      rw [List.append_assoc, List.append_assoc]
      exact W
    have Wv := W1'.pop (by simp [hl])
    obtain ⟨g, R⟩ := Wv.rep
    obtain ⟨u, e1, h⟩ := R.cell (i := ((ρ ++ φ) ++ τ).length) (c := .sto) (by rw [← List.append_assoc, List.getElem?_append_right (Nat.le_refl _), Nat.sub_self]; rfl)
    have hb : ((ρ ++ φ) ++ τ).length = ((σ ++ us) ++ ws).length := by have := Wv.base; simp at *; omega
    rw [hb, ← List.append_assoc, List.getElem?_append_right (Nat.le_refl _), Nat.sub_self] at e1
    cases e1
    cases h
    exact ⟨vs, rfl, W1', W1'.kp0.2.1⟩
theorem ev_take (q : EvA (frS K A H0 p sl nS) false ρ τ tr fun cs ρ1 => ∃ n : Int, cs = [.sto, cI n] ∧ n < 2 ^ 63 ∧ ∀ d : Int, 0 ≤ d → (n ≤ 1 → d = 0) → (1 < n → d < n) → Φ (cI d) ρ1) : Ev (frS K A H0 p sl nS) m ρ τ (tCall spTake [] E tr) Φ := fun φ us σ ws H Q W k => by
  refine x_call (q φ us σ ws H _ W fun cs ρ1 vs H1 l ⟨n, ec, hn, q1⟩ W1 => ?_)
  subst ec
  obtain ⟨vs', rfl, W2, s⟩ := argS W1 W.l4 l
  obtain rfl := argI W2 (by simp [W.l4]) (by simpa using l)
  exact go_takeS s (fun d H' s' k' h1 h2 h3 => k _ _ _ _ (q1 d h1 h2 h3) (((W1.pop W.l4).draw k' s').scal fun _ _ => .int _)) hn
theorem ev_number (q : EvA (frS K A H0 p sl nS) false ρ τ tr fun cs ρ1 => ∃ n : Int, cs = [.sto, cI n] ∧ ∀ d : Int, 0 ≤ d → (n ≤ 1 → d = 0) → (1 < n → d < n) → Φ (cI d) ρ1) : Ev (frS K A H0 p sl nS) m ρ τ (tCall spNumber [] E tr) Φ := fun φ us σ ws H Q W k => by
  refine x_call (q φ us σ ws H _ W fun cs ρ1 vs H1 l ⟨n, ec, q1⟩ W1 => ?_)
  subst ec
  obtain ⟨vs', rfl, W2, s⟩ := argS W1 W.l4 l
  obtain rfl := argI W2 (by simp [W.l4]) (by simpa using l)
  exact go_numberS s (fun d H' s' k' h1 h2 h3 => k _ _ _ _ (q1 d h1 h2 h3) (((W1.pop W.l4).draw k' s').scal fun _ _ => .int _))
theorem ev_between (q : EvA (frS K A H0 p sl nS) false ρ τ tr fun cs ρ1 => ∃ a b : Int, cs = [.sto, cI a, cI b] ∧ ∀ d : Int, a ≤ d → (a ≤ b → d ≤ b) → (b < a → d = a) → Φ (cI d) ρ1) : Ev (frS K A H0 p sl nS) m ρ τ (tCall spBetween [] E tr) Φ := fun φ us σ ws H Q W k => by
  refine x_call (q φ us σ ws H _ W fun cs ρ1 vs H1 l ⟨a, b, ec, q1⟩ W1 => ?_)
  subst ec
  obtain ⟨vs', rfl, W2, s⟩ := argS W1 W.l4 l
  obtain rfl := argI2 W2 (by simp [W.l4]) (by simpa using l)
  exact go_betweenS s (fun d H' s' k' h1 h2 h3 => k _ _ _ _ (q1 d h1 h2 h3) (((W1.pop W.l4).draw k' s').scal fun _ _ => .int _))
theorem ev_near (q : EvA (frS K A H0 p sl nS) false ρ τ tr fun cs ρ1 => ∃ a b : Int, cs = [.sto, cI a, cI b] ∧ ∀ d : Int, a ≤ d → (a ≤ b → d ≤ b) → (b < a → d = a) → Φ (cI d) ρ1) : Ev (frS K A H0 p sl nS) m ρ τ (tCall spNear [] E tr) Φ := ev_between q
theorem ev_pick (q : EvA (frS K A H0 p sl nS) false ρ τ tr fun cs ρ1 => ∃ c l, cs = [.sto, c] ∧ Leaf ρ1 c (.lst l) ∧ 0 < l.length ∧ l.length < 100000 ∧ ∀ y ∈ l, Φ (.t (.d y)) ρ1) : Ev (frS K A H0 p sl nS) m ρ τ (tCall (spPick K) [] E tr) Φ := fun φ us σ ws H Q W k => by
  refine x_call (q φ us σ ws H _ W fun cs ρ1 vs H1 ln ⟨c, l, ec, lf, h0, h1, q1⟩ W1 => ?_)
  subst ec
  obtain ⟨vs', rfl, W2, s⟩ := argS W1 W.l4 ln
  match vs', ln with
  | [v], _ =>
    obtain ⟨B, hd, mk⟩ := Wd.items (cs := [c]) (vs := [v]) W2 (by simp [W.l4]) rfl (.cons lf .nil)
    obtain ⟨g, R⟩ := (W1.pop W.l4).rep
    have ab : ∀ a vs, v = .ref a → H1 a = some (.lst vs) → a ≠ p := fun a vs ev e z => by
      obtain ⟨w, e1, hw⟩ := W2.lk (c := c) (k := τ.length + 1) (d := .lst l) (by rw [List.getElem?_append_right (by simp)]; simp) (by
        cases lf with
        | fz => exact .t rfl
        | own => exact .t (by show D.lst (T.datas _) = _; rw [T.datas_d])
        | pl h1 h2 => exact .pl h1 h2 (by show D.lst (T.datas _) = _; rw [T.datas_d]))
      rw [W.l4, List.getElem?_append_right (by simp)] at e1
      simp at e1
      subst e1 ev
      obtain ⟨a', vs', q1, q2, q3⟩ := hw.n
      cases hw with
      | lst m1 _ _ => exact m1 (by simp [z])
    cases hd with
    | cons h1' t =>
      cases t
      obtain ⟨a, xs, rfl, e1, r⟩ := h1'
      refine go_pickS s (SqL.of e1) (ab a xs rfl e1) (by rw [r.length]; exact h0) (by rw [r.length]; exact h1) fun v H' s' k' hv => ?_
      obtain ⟨j, hj⟩ := List.getElem?_of_mem hv
      obtain ⟨y, hy, hd⟩ := r.get' hj
      have W3 := ((mk.one v y hd).draw k' s')
      have W4 : Wd (frS K A H0 p sl nS) φ us ρ1 ((τ ++ [.sto]) ++ [.t (.d y)]) σ ((ws ++ [some (.ref p)]) ++ [some v]) H' := W3
      exact k _ _ _ _ (q1 y (List.mem_of_getElem? hy)) (W4.down W.l4)
end
end LN
namespace LN
open PySem PySem.Spec PyProof.Rows L2
section
variable {f : Fr} {m : Bool} {ρ ρ' ρ1 τ : List Cell} {cs : List Cell} {ds : List D} {c c1 c2 : Cell} {Φ : Cell → List Cell → Prop}
theorem dr_take {n : Int} {P : Int → Prop} (h : n < 2 ^ 63) (q : P n) : ∃ n', [Cell.sto, cI n] = [Cell.sto, cI n'] ∧ n' < 2 ^ 63 ∧ P n' := ⟨n, rfl, h, q⟩
theorem dr_one {n : Int} {P : Int → Prop} (q : P n) : ∃ n', [Cell.sto, cI n] = [Cell.sto, cI n'] ∧ P n' := ⟨n, rfl, q⟩
theorem dr_two {a b : Int} {P : Int → Int → Prop} (q : P a b) : ∃ a' b', [Cell.sto, cI a, cI b] = [Cell.sto, cI a', cI b'] ∧ P a' b' := ⟨a, b, rfl, q⟩
theorem dr_pick {l : List D} {P : List D → Prop} (lf : Leaf ρ c (.lst l)) (q : P l) : ∃ c' l', [Cell.sto, c] = [Cell.sto, c'] ∧ Leaf ρ c' (.lst l') ∧ P l' := ⟨c, l, rfl, lf, q⟩
theorem cl_done {α : Type} {enc : α → List D} {a : α} {P : α → Prop} (lk : LkL ρ cs (enc a)) (q : P a) : ∃ ds, LkL ρ cs (enc ds) ∧ P ds := ⟨a, lk, q⟩
theorem cl_doneA {α : Type} {enc : α → List D} {a : α} {P : α → Prop} (lk : FzL cs (enc a)) (q : P a) : ∃ ds, FzL cs (enc ds) ∧ P ds := ⟨a, lk, q⟩
theorem cl_doneS {α : Type} {enc : α → List D} {a : α} {P : α → Prop} (lk : LkL ρ cs (enc a)) (q : P a) : ∃ cs' ds, Cell.sto :: cs = .sto :: cs' ∧ LkL ρ cs' (enc ds) ∧ P ds := ⟨cs, a, rfl, lk, q⟩
theorem rg_one {n : Int} {P : Int → Prop} (h : -(2 ^ 62) ≤ n ∧ n < 2 ^ 62) (q : P n) : ∃ n', [cI n] = [cI n'] ∧ (-(2 ^ 62) ≤ n' ∧ n' < 2 ^ 62) ∧ P n' := ⟨n, rfl, h, q⟩
theorem rg_lc {n : Int} {P : Int → Prop} (h : -(2 ^ 62) ≤ n ∧ n ≤ 100000) (q : P n) : ∃ n', [cI n] = [cI n'] ∧ (-(2 ^ 62) ≤ n' ∧ n' ≤ 100000) ∧ P n' := ⟨n, rfl, h, q⟩
theorem rg_two {a b : Int} {P : Int → Int → Prop} (h : -(2 ^ 62) ≤ a ∧ a < 2 ^ 62 ∧ -(2 ^ 62) ≤ b ∧ b < 2 ^ 62) (q : P a b) : ∃ a' b', [cI a, cI b] = [cI a', cI b'] ∧ (-(2 ^ 62) ≤ a' ∧ a' < 2 ^ 62 ∧ -(2 ^ 62) ≤ b' ∧ b' < 2 ^ 62) ∧ P a' b' := ⟨a, b, rfl, h, q⟩
theorem rg_dn {a b : Int} {P : Int → Int → Prop} (h : -100000 < a ∧ a < 100000 ∧ -100000 < b ∧ b < 100000) (q : P a b) : ∃ a' b', [cI a, cI b, cI (-1)] = [cI a', cI b', cI (-1)] ∧ (-100000 < a' ∧ a' < 100000 ∧ -100000 < b' ∧ b' < 100000) ∧ P a' b' := ⟨a, b, rfl, h, q⟩
theorem it_l {x : T} {l : List D} {P : T → List D → Prop} (e : x.data = .lst l) (q : P x l) : ∃ x' l', Cell.t x = .t x' ∧ x'.data = .lst l' ∧ P x' l' := ⟨x, l, rfl, e, q⟩
theorem it_t {x : T} {l : List D} {P : T → List D → Prop} (e : x.data = .tup l) (q : P x l) : ∃ x' l', Cell.t x = .t x' ∧ x'.data = .tup l' ∧ P x' l' := ⟨x, l, rfl, e, q⟩
theorem it_e {x : T} {l : List D} {P : T → List D → Prop} (e : x.data = .lst l) (q : P x l) : ∃ x' l', [Cell.t x] = [.t x'] ∧ x'.data = .lst l' ∧ P x' l' := ⟨x, l, rfl, e, q⟩
theorem au_i {n : Int} {P : Int → List Cell → Prop} (q : ∃ ρ', P n ρ') : ∃ b ρ', cI n = cI b ∧ P b ρ' := by
  obtain ⟨ρ', h⟩ := q
  exact ⟨n, ρ', rfl, h⟩
theorem au_s {a : Int} {g : Int → Int → Int} {i : Nat} {Ψ : List Cell → Prop} {b : Int} (s : CSet ρ i (cI (g a b)) ρ') (n : noP ρ = true) (q : Ψ ρ') : ∃ b' ρ', cI b = cI b' ∧ CSet ρ i (cI (g a b')) ρ' ∧ noP ρ = true ∧ Ψ ρ' := ⟨b, ρ', rfl, s, n, q⟩
theorem isl {l : List D} {P : Prop} (lk : Lk ρ c (.lst l)) (q : P) : IsL ρ c ∧ P := ⟨.of lk, q⟩
theorem lc_tt {x : T} {vl : List Nat} {IV : List T → Prop} {acc : List T} (n : noP ρ = true) (k : KillC vl ρ ρ') (q : IV (acc ++ [x])) : ∃ x', Cell.t x = .t x' ∧ noP ρ = true ∧ KillC vl ρ ρ' ∧ IV (acc ++ [x']) := ⟨x, rfl, n, k, q⟩
theorem rt_t {x : T} {P : T → Prop} (q : P x) : ∃ r, Cell.t x = .t r ∧ P r := ⟨x, rfl, q⟩
end
end LN
namespace LN
open PySem PySem.Spec PyProof.Rows L2
/-! ### list(range(i, j, -1)) -/
def downto (i j : Int) : List Int := (List.range (i - j).toNat).map fun k => i - ((k : Nat) : Int)
def tLstDn (ta : TA) : TE := fun σ H Q => ta σ H fun vs H1 => ∃ i j : Int, vs = [.int i, .int j, .int (-1)] ∧ (-100000 ≤ i ∧ i ≤ 100000 ∧ -100000 ≤ j ∧ j ≤ 100000) ∧ ∀ q, H1 q = none → Q (.ref q) (upd H1 q (.lst ((downto i j).map V.int)))
theorem pe_listDn {X : Cx} {a b c : Expr} {ta : TA} {p pos p' pos' : Pos} (hc : X.calm = true) (hg : Gl X "list") (hm : X.mg "list" = none) (hg' : Gl X "range") (hm' : X.mg "range" = none) (ha : PA X [a, b, c] ta)
    (na : starEach [.Call (.Name "range" p) [a, b, c] [] pos] X.env = (false, eval (.Call (.Name "range" p) [a, b, c] [] pos) X.env) :: starEach [] X.env := by rfl)
    (hs : starEach [a, b, c] X.env = (false, eval a X.env) :: starEach [b, c] X.env := by rfl) (hpl : (backTo pos (starEach [b, c] X.env)).any (·.1) = false := by rfl) : PE X (.Call (.Name "list" p') [.Call (.Name "range" p) [a, b, c] [] pos] [] pos') (tLstDn ta) := by
  refine ⟨fun pins s σ H Q I h => Call_ (ld_blt I hg hm boot_list (PyProof.Rows.callWith_type1 (args_cons ?_ na) na))⟩
  refine Call_ (ld_blt I hg' hm' boot_range (PyProof.Rows.callWith_type1 (thn (ha.run pos pins s σ H _ I h) fun us s1 ⟨vs, H1, I1, r1, i, j, e, hb, q⟩ => ?_) hs hpl))
  subst e
  obtain ⟨b1, b2, b3, b4⟩ := hb
  obtain ⟨c0, c1, c2, c3⟩ := RgC.neg (i := i) (j := j) (by omega) (by omega) (by omega) (by omega)
  cases r1 with
  | cons r rr =>
    cases rr with
    | cons r' rr =>
      cases rr with
      | cons r'' rr =>
        cases rr
        obtain ⟨t, rfl⟩ := r
        obtain ⟨t', rfl⟩ := r'
        obtain ⟨t'', rfl⟩ := r''
        refine call_range_3 c0 ?_ (.inl (PyProof.noPylong_small c1))
        have I2 : Inv X pins σ H1 { s1 with heap := s1.heap.push { cls := .type "range", data := .fields #[.int i t, .int j t', .int (-1) t''] } } := I1.kept (t' := s1.toks) fun b o e => Heap.get?_push_of_some _ e
        refine args_nil (call_list_range (n := (i - j).toNat) (I2.ok.hd hc) (IsRange.new _ _ _ _ _ _ _) c2 c3 (by omega) fun h' tk acc c' hk e' hi => ?_)
        refine ⟨.ref _, upd H1 _ (.lst ((downto i j).map V.int)), I2.laid hk (Nat.le_refl _) (show ObjOk X.prog X.w _ _ _ (.lst ((downto i j).map V.int)) from ⟨?_, acc.toList, c', ?_, ?_⟩), rfl, q _ (I2.hok.fresh (Nat.le_refl _))⟩
        · unfold downto
          rw [List.length_map, List.length_map, List.length_range, sizeLine_eq]
          omega
        · have e : acc.toList.length = (i - j).toNat := by rw [Array.length_toList]; exact hi.1
          unfold downto
          rw [List.map_map, ← e]
          refine vals_of_get acc.toList _ fun k u hk => ?_
          obtain ⟨t, rfl⟩ := hi.2 k u (by rw [← hk, Array.getElem?_toList])
          exact ⟨t, by
            show Value.int (i + (k : Int) * -1) t = Value.int (i - (k : Int)) t
            rw [show i + (k : Int) * -1 = i - (k : Int) by omega]⟩
        · rw [Array.toArray_toList]
          exact e'
section
variable {f : Fr} {m : Bool} {ρ ρ' ρ1 τ : List Cell} {i : Nat} {v : V} {x : T} {d : D} {c c1 c2 : Cell} {Φ : Cell → List Cell → Prop} {Φb : Bool → List Cell → Prop} {te ta : TE} {tr : TA} {g : TG} {Dn : Pn}
/-- the ints a .. b - 1 -/
def upto (a b : Int) : List Int := (List.range (b - a).toNat).map fun i => a + ((i : Nat) : Int)
theorem rgV_eq (a b : Int) : L2.rgV a b = (upto a b).map V.int := by
  unfold L2.rgV upto
  rw [List.map_map]
  rfl
theorem ev_listRg1 (ok : f.Ok) (q : Ev f false ρ τ ta fun c ρ1 => ∃ n, c = cI n ∧ (-100000 < n ∧ n ≤ 100000) ∧ Φ (.t (.row ((upto 0 n).map .int))) ρ1) : Ev f m ρ τ (tLstRg (tRg1 ta)) Φ := fun φ us σ ws H Q W k => q φ us σ ws H _ W fun c ρ1 v H1 ⟨n, ec, hn, q1⟩ W1 => by
  subst ec
  obtain ⟨_, e, hd⟩ := W1.lk (k := τ.length) (by rw [List.getElem?_append_right (Nat.le_refl _), Nat.sub_self]; rfl) (.t rfl)
  rw [W.l4, List.getElem?_append_right (Nat.le_refl _), Nat.sub_self] at e
  cases e
  cases hd
  have W2 := W1.pop W.l4
  obtain ⟨g, R⟩ := W2.rep
  refine ⟨n, rfl, ⟨by omega, by omega, by omega, by omega, by omega⟩, fun p hp => ?_⟩
  rw [rgV_eq]
  exact k _ _ _ _ q1 ((R.make W2).row ok p _ _ true hp DtL.of_ints)
theorem ev_listDn (ok : f.Ok) (q : EvA f false ρ τ tr fun cs ρ1 => ∃ a b : Int, cs = [cI a, cI b, cI (-1)] ∧ (-100000 < a ∧ a < 100000 ∧ -100000 < b ∧ b < 100000) ∧ Φ (.t (.row ((downto a b).map .int))) ρ1) : Ev f m ρ τ (tLstDn tr) Φ := fun φ us σ ws H Q W k => q φ us σ ws H _ W fun cs ρ1 vs H1 l ⟨a, b, ec, hn, q1⟩ W1 => by
  subst ec
  obtain rfl := argI3 W1 W.l4 l
  have W2 := W1.pop W.l4
  obtain ⟨g, R⟩ := W2.rep
  exact ⟨a, b, rfl, ⟨by omega, by omega, by omega, by omega⟩, fun p hp => k _ _ _ _ q1 ((R.make W2).row ok p _ _ true hp DtL.of_ints)⟩
theorem lr_n {n : Int} {P : Int → Prop} (h : -100000 < n ∧ n ≤ 100000) (q : P n) : ∃ n', cI n = cI n' ∧ (-100000 < n' ∧ n' ≤ 100000) ∧ P n' := ⟨n, rfl, h, q⟩
/-- x in ns -/
theorem inV_ints (x : Int) : ∀ ns : List Int, inV (.int x) (ns.map V.int) = decide (x ∈ ns)
  | [] => by simp [inV]
  | y :: l => by
    have h := inV_ints x l
    unfold inV at h ⊢
    rw [List.map_cons, List.any_cons, h]
    show ((y == x) || decide (x ∈ l)) = _
    rw [Bool.eq_iff_iff]
    simp only [Bool.or_eq_true, beq_iff_eq, decide_eq_true_eq, List.mem_cons]
    exact ⟨fun h => h.imp Eq.symm id, fun h => h.imp Eq.symm id⟩
theorem flat_ints (ns : List Int) : (ns.map V.int).all flatV = true := by
  rw [List.all_eq_true]
  intro y hy
  obtain ⟨i, _, rfl⟩ := List.mem_map.mp hy
  rfl
theorem vo_in {a : Int} {ns : List Int} (lk : Lk ρ c (dIs ns)) (q : Φ (cB (decide (a ∈ ns))) ρ) : Vo f ρ τ (r2v (rIn f.K false)) [cI a, c] Φ := vo_scal (.cons lkI (.cons lk .nil)) (.bl _) (fun vs H Q hd z => by
  cases hd with
  | cons h1 t =>
    cases t with
    | cons h2 t =>
      cases t
      cases h1
      obtain ⟨b, xs, rfl, e1, r⟩ := h2.n
      rw [r.ints] at e1
      refine r2v_of ⟨b, _, rfl, .inl (SqL.of e1), rfl, flat_ints ns, ?_⟩
      rw [if_neg Bool.false_ne_true, inV_ints]
      exact z) q
theorem vo_notIn {a : Int} {ns : List Int} (lk : Lk ρ c (dIs ns)) (q : Φ (cB (!decide (a ∈ ns))) ρ) : Vo f ρ τ (r2v (rIn f.K true)) [cI a, c] Φ := vo_scal (.cons lkI (.cons lk .nil)) (.bl _) (fun vs H Q hd z => by
  cases hd with
  | cons h1 t =>
    cases t with
    | cons h2 t =>
      cases t
      cases h1
      obtain ⟨b, xs, rfl, e1, r⟩ := h2.n
      rw [r.ints] at e1
      refine r2v_of ⟨b, _, rfl, .inl (SqL.of e1), rfl, flat_ints ns, ?_⟩
      rw [if_pos rfl, inV_ints]
      exact z) q
/-- a list's truth -/
theorem et_truL (q : Ev f false ρ τ ta fun c ρ1 => ∃ l, Lk ρ1 c (.lst l) ∧ Φb (!l.isEmpty) ρ1) : Et f ρ τ (fun σ H Q => ta σ H fun x H' => ∃ k, TruV f.K x H' k ∧ Q k H') Φb := fun φ us σ ws H Q W k => q φ us σ ws H _ W fun c ρ1 v H1 ⟨l, lk, q1⟩ W1 => by
  obtain ⟨v', e, hd⟩ := W1.lk (k := τ.length) (by rw [List.getElem?_append_right (Nat.le_refl _), Nat.sub_self]; rfl) lk
  rw [W.l4, List.getElem?_append_right (Nat.le_refl _), Nat.sub_self] at e
  cases e
  obtain ⟨b, xs, rfl, e1, r⟩ := hd.n
  refine ⟨!l.isEmpty, .inl ⟨xs, SqL.of e1, ?_⟩, k _ _ _ q1 (W1.pop W.l4)⟩
  cases r <;> rfl
theorem tr_l {l : List D} {P : List D → Prop} (lk : Lk ρ c (.lst l)) (q : P l) : ∃ l, Lk ρ c (.lst l) ∧ P l := ⟨l, lk, q⟩
/-- xs == ys, lists of ints -/
theorem dp_of_ints {A K H a xs} {ns : List Int} (e : H a = some (.lst xs)) (r : DtL A K H xs (ns.map .int)) : SqL K H a (ns.map V.int) := by
  rw [r.ints] at e
  exact SqL.of e
end
section
variable {K : PySem.W.Frag} {A : Addr → Prop} {H0 : Hp} {p sl : Addr} {nS : Nat} {m : Bool} {φ ρ ρ' ρ1 τ : List Cell} {us ws : List (Option V)} {σ : St} {H H' : Hp} {Φ : Cell → List Cell → Prop} {tr : TA} {E : XK} {c : Cell} {l : List D}
theorem DtL.perm {A K H} {vs us : List V} {l : List D} (h : DtL A K H vs l) (pe : us.Perm vs) : ∃ l', l'.Perm l ∧ DtL A K H us l' := by
  induction pe generalizing l with
  | nil => exact ⟨l, .refl _, h⟩
  | cons v _ ih =>
    cases h with
    | cons r t =>
      obtain ⟨l', p, h'⟩ := ih t
      exact ⟨_ :: l', p.cons _, .cons r h'⟩
  | swap v w _ =>
    cases h with
    | cons r t =>
      cases t with
      | cons r' t => exact ⟨_, .swap _ _ _, .cons r' (.cons r t)⟩
  | trans _ _ ih1 ih2 =>
    obtain ⟨l1, p1, h1⟩ := ih2 h
    obtain ⟨l2, p2, h2⟩ := ih1 h1
    exact ⟨l2, p2.trans p1, h2⟩
end
end LN
namespace LN
open PySem PySem.Spec PyProof.Rows L2
section
variable {K : PySem.W.Frag} {A : Addr → Prop} {H0 : Hp} {p sl : Addr} {nS : Nat} {m : Bool} {φ ρ ρ' ρ1 τ : List Cell} {us ws : List (Option V)} {σ : St} {H H' : Hp} {Φ : Cell → List Cell → Prop} {tr : TA} {E : XK} {c : Cell} {l : List D}
theorem ev_size (q : EvA (frS K A H0 p sl nS) false ρ τ tr fun cs ρ1 => ∃ n : Int, cs = [.sto, cI n] ∧ (1 ≤ n ∧ n < 100000) ∧ ∀ d : Int, 1 ≤ d → d ≤ n → Φ (cI d) ρ1) : Ev (frS K A H0 p sl nS) m ρ τ (tCall spSize [] E tr) Φ := fun φ us σ ws H Q W k => by
  refine x_call (q φ us σ ws H _ W fun cs ρ1 vs H1 l ⟨n, ec, hn, q1⟩ W1 => ?_)
  subst ec
  obtain ⟨vs', rfl, W2, s⟩ := argS W1 W.l4 l
  obtain rfl := argI W2 (by simp [W.l4]) (by simpa using l)
  exact go_sizeS s hn.1 hn.2 (fun d H' s' k' h1 h2 => k _ _ _ _ (q1 d h1 h2) (((W1.pop W.l4).draw k' s').scal fun _ _ => .int _))
theorem dr_size {n : Int} {P : Int → Prop} (h : 1 ≤ n ∧ n < 100000) (q : P n) : ∃ n', [Cell.sto, cI n] = [Cell.sto, cI n'] ∧ (1 ≤ n' ∧ n' < 100000) ∧ P n' := ⟨n, rfl, h, q⟩
/-- _law_shuffled of a list of ints -/
theorem ev_shuf (hs0 : StoreS H0 p sl) (q : EvA (frS K A H0 p sl nS) false ρ τ tr fun cs ρ1 => ∃ c ns, cs = [.sto, c] ∧ Lk ρ1 c (dIs ns) ∧ ns.length < 90000 ∧ ∀ ms : List Int, ms.Perm ns → Φ (.t (.row (ms.map .int))) ρ1) : Ev (frS K A H0 p sl nS) m ρ τ (tCall (spShuf K) [] E tr) Φ := fun φ us σ ws H Q W k => by
  refine x_call (q φ us σ ws H _ W fun cs ρ1 vs H1 ln ⟨c, ns, ec, lk, h1, q1⟩ W1 => ?_)
  subst ec
  obtain ⟨vs', rfl, W2, s⟩ := argS W1 W.l4 ln
  match vs', ln with
  | [v], _ =>
    have hd := W2.args (by simp [W.l4]) rfl (.cons lk .nil)
    cases hd with
    | cons h1' t =>
      cases t
      obtain ⟨a, xs, rfl, e1, r⟩ := h1'.n
      rw [r.ints] at e1
      refine go_shufS s (SqL.of e1) (by rw [List.length_map]; exact h1) fun l ys H' s' k' f' e' pe => ?_
      have W3 := (W1.pop W.l4)
      obtain ⟨ms, rfl⟩ : ∃ ms : List Int, ys = ms.map V.int := by
        have : ∀ {ys : List V}, (∀ y ∈ ys, ∃ i, y = V.int i) → ∃ ms : List Int, ys = ms.map V.int := by
          intro ys
          induction ys with
          | nil => exact fun _ => ⟨[], rfl⟩
          | cons y l ih =>
            intro h
            obtain ⟨i, rfl⟩ := h y List.mem_cons_self
            obtain ⟨ms, rfl⟩ := ih fun z hz => h z (List.mem_cons_of_mem _ hz)
            exact ⟨i :: ms, rfl⟩
        refine this fun y hy => ?_
        obtain ⟨i, _, rfl⟩ := List.mem_map.mp (pe.mem_iff.mp hy)
        exact ⟨i, rfl⟩
      have pe' : ms.Perm ns := by
        have h := pe.map (fun v : V => match v with | .int i => i | _ => 0)
        rw [List.map_map, List.map_map, show ((fun v : V => match v with | .int i => i | _ => 0) ∘ V.int) = id from rfl, List.map_id, List.map_id] at h
        exact h
      refine k _ _ _ _ (q1 ms pe') (W3.res k' s' (fun b z => by rw [List.mem_singleton.mp z]; exact s'.p_live) (F := [l]) (fun b z => by rw [List.mem_singleton.mp z]; exact f') ?_)
      exact .lst e' (DtL.own DtL.of_ints) (fun z => nomatch z)
theorem dr_shuf {ns : List Int} {P : List Int → Prop} (lk : Lk ρ c (dIs ns)) (h : ns.length < 90000) (q : P ns) : ∃ c' ns', [Cell.sto, c] = [Cell.sto, c'] ∧ Lk ρ c' (dIs ns') ∧ ns'.length < 90000 ∧ P ns' := ⟨c, ns, rfl, lk, h, q⟩
end
end LN
namespace LN
open PySem PySem.Spec PyProof.Rows L2
@[simp] theorem upto_length (a b : Int) : (upto a b).length = (b - a).toNat := by unfold upto; rw [List.length_map, List.length_range]
@[simp] theorem downto_length (a b : Int) : (downto a b).length = (a - b).toNat := by unfold downto; rw [List.length_map, List.length_range]
theorem upto_succ (i : Nat) : upto 0 ((i + 1 : Nat) : Int) = upto 0 (i : Int) ++ [(i : Int)] := by
  unfold upto
  have h1 : (((i + 1 : Nat) : Int) - 0).toNat = i + 1 := by omega
  have h2 : ((i : Int) - 0).toNat = i := by omega
  rw [h1, h2, List.range_succ, List.map_append]
  simp
theorem upto_zero : upto 0 0 = [] := rfl
theorem row_map {α : Type} (g : α → D) (l : List α) : T.lst (l.map fun x => T.d (g x)) = T.row (l.map g) := by
  show T.lst _ = T.lst _
  rw [List.map_map]
  rfl
theorem dIs_get {ns : List Int} {i : Nat} {x : Int} (h : ns[i]? = some x) : (ns.map D.int)[i]? = some (.int x) := by rw [List.getElem?_map, h]; rfl
theorem dIs_at {ns : List Int} {i : Nat} (h : i < ns.length) : atI (ns.map D.int) (i : Int) = some (.int ns[i]) := at_nat (dIs_get (List.getElem?_eq_getElem h))
theorem getD_ints {ns : List Int} {i : Nat} (h : i < ns.length) : (ns.map D.int).getD i .non = .int ns[i] := by
  rw [List.getD_eq_getElem?_getD, List.getElem?_map, List.getElem?_eq_getElem h]
  rfl
theorem getD_at {ns : List Int} {i : Nat} (h : i < ns.length) : ns.getD i 0 = ns[i] := by
  rw [List.getD_eq_getElem?_getD, List.getElem?_eq_getElem h]
  rfl
abbrev e1I : Int → List D := fun n => [.int n]
abbrev e1L : List Int → List D := fun n => [dIs n]
def inR (lo hi : Int) : Int → Prop := fun n => lo ≤ n ∧ n ≤ hi
def anyI {α : Type} : α → T → Prop := fun _ r => ∃ i : Int, r = .d (.int i)
end LN
namespace LN
open PySem PySem.Spec PyProof.Rows L2
section
variable {f : Fr} {ρ ρ' ρ1 : List Cell} {t tb' : TS} {Dn : Pn} {g : TG} {dl : List Nat} {n : Nat} {IC : Nat → Cell}
theorem Wd.kills {φ τ : List Cell} {us ws : List (Option V)} {σ : St} {H : Hp} : ∀ {vl : List Nat} {ρ ρ' : List Cell}, Wd f φ us ρ τ σ ws H → KillC vl ρ ρ' → noP ρ = true → noP τ = true → Wd f φ us ρ' τ σ ws H ∧ noP ρ' = true
  | [], _, _, W, .nil, h, _ => ⟨W, h⟩
  | v :: vl, ρ, _, W, .cons (ρ1 := ρ1) k s, h, h' => by
    obtain ⟨W1, n1⟩ := W.kills k h h'
    obtain ⟨_, n2⟩ := W.wipe (.cons k s) h h'
    have W2 := W1.kill s.lt (noP_ok n1) (noP_ok h')
    rw [s.eq] at W2
    exact ⟨W2, n2⟩
/-- behind it some slots do not matter any more -/
def Kl (dl : List Nat) (N : List Cell → Prop) (ρ : List Cell) : Prop := ∃ ρ', noP ρ = true ∧ KillC dl ρ ρ' ∧ N ρ'
theorem es_kl (dl : List Nat) (h : Es f ρ t { Dn with nx := Kl dl Dn.nx, ct := Kl dl Dn.ct, bk := Kl dl Dn.bk }) : Es f ρ t Dn := fun φ us σ H E W k1 k2 k3 k4 =>
  h φ us σ H E W (fun ρ1 s1 H1 ⟨ρ2, n, kc, z⟩ W1 => k1 _ _ _ z (W1.kills kc n rfl).1) (fun ρ1 s1 H1 ⟨ρ2, n, kc, z⟩ W1 => k2 _ _ _ z (W1.kills kc n rfl).1) (fun ρ1 s1 H1 ⟨ρ2, n, kc, z⟩ W1 => k3 _ _ _ z (W1.kills kc n rfl).1) k4
theorem eg_mono {c : Cell} {Ψ Ψ' : List Cell → Prop} (h : Eg f ρ c g Ψ) (i : ∀ ρ, Ψ ρ → Ψ' ρ) : Eg f ρ c g Ψ' := fun φ us σ H v qs W k => h φ us σ H v qs W fun ρ' σ' H' z W' => k ρ' σ' H' (i _ z) W'
theorem loopK (dl : List Nat) (IV : Nat → List Cell → Prop) (h0 : IV 0 ρ) (hs : ∀ i ρ', i < n → IV i ρ' → Eg f ρ' (IC i) g fun ρ2 => Es f ρ2 tb' { Dn with nx := Kl dl (IV (i + 1)), ct := Kl dl (IV (i + 1)), bk := Kl dl Dn.nx }) (hd : ∀ ρ', IV n ρ' → Dn.nx ρ') : Loop f ρ n IC g tb' Dn :=
  ⟨IV, h0, fun i ρ' hi hI => eg_mono (hs i ρ' hi hI) fun ρ2 h => es_kl (Dn := { Dn with nx := IV (i + 1), ct := IV (i + 1), bk := Dn.nx }) dl h, hd⟩
theorem es_cutK (dl : List Nat) (M : List Cell → Prop) {u : TS} (h1 : Es f ρ t { Dn with nx := Kl dl M, bk := Kl dl Dn.bk, ct := Kl dl Dn.ct }) (h2 : ∀ ρ1, M ρ1 → Es f ρ1 u Dn) : Es f ρ (tSeq t u) Dn := es_cut M (es_kl (Dn := { Dn with nx := M }) dl h1) h2
end
end LN
namespace LN
open PySem PySem.Spec PyProof.Rows L2
section
variable {f : Fr} {ρ ρ' τ : List Cell} {Φ : Cell → List Cell → Prop} {Ψ : List Cell → Prop} {d : D} {x : T} {c : Cell} {to ti : TE}
theorem vo_app0 (ok : f.Ok) {j : Nat} {l : List D} (e : CAt ρ j (.t (.row l))) (n1 : noP ρ = true) (n2 : noP τ = true) (hl : l.length < 100000) (s : CSet ρ j (.t (.row (l ++ [d]))) ρ') (q : Φ cN ρ') : Vo f ρ τ (rMv rAppend) [.pl j [], .t (.d d)] Φ :=
  vo_append ok e (l := l.map .d) rfl n1 n2 (by rw [List.length_map]; exact hl) (by
    have h : (T.row l).put [] (.lst (l.map .d ++ [.d d])) = T.row (l ++ [d]) := by
      show T.lst _ = T.lst _
      rw [List.map_append (l₂ := [d])]
      rfl
    rw [h]
    exact s) q
/-- the list itself is a list of one's own -/
theorem vo_appL (ok : f.Ok) {j : Nat} {l : List T} (e : CAt ρ j (.t (.lst l))) (n1 : noP ρ = true) (n2 : noP τ = true) (hl : l.length < 100000) (s : CSet ρ j (.t (.lst (l ++ [x]))) ρ') (q : Φ cN ρ') : Vo f ρ τ (rMv rAppend) [.pl j [], .t x] Φ :=
  vo_append ok e (l := l) rfl n1 n2 hl s q
/-- xs[k] = d, xs a slot's list -/
theorem st_0 {j : Nat} {l : List D} {kk : Int} {n : Nat} (e : CAt ρ j (.t (.row l))) (hk : ixN l.length kk = some n) (n1 : noP ρ = true) (s : CSet ρ j (.t (.row (l.set n d))) ρ') (q : Ψ ρ') : ∃ j' p y l' n' kk' x', Cell.t (.d d) = .t x' ∧ Cell.pl j [] = .pl j' p ∧ cI kk = cI kk' ∧ CAt ρ j' (.t y) ∧ y.at p = some (.lst l') ∧ ixN l'.length kk' = some n' ∧ noP ρ = true ∧ ∃ ρ', CSet ρ j' (.t (y.put p (.lst (l'.set n' x')))) ρ' ∧ Ψ ρ' :=
  ⟨j, [], _, l.map .d, n, kk, _, rfl, rfl, rfl, e, rfl, by rw [List.length_map]; exact hk, n1, ρ', by
    have h : (T.row l).put [] (.lst ((l.map .d).set n (.d d))) = T.row (l.set n d) := by
      show T.lst _ = T.lst _
      rw [List.map_set]
    rw [h]
    exact s, q⟩
end
end LN
namespace LN
theorem x_ifp {c A B : Prop} [Decidable c] (h : c) (q : A) : if c then A else B := by rw [if_pos h]; exact q
theorem x_ifn {c A B : Prop} [Decidable c] (h : ¬ c) (q : B) : if c then A else B := by rw [if_neg h]; exact q
end LN
namespace LN
open PySem PySem.Spec PyProof.Rows L2 L2H
/-! ### errors -/
def tTryAs (K : PySem.W.Frag) (c : Value) (i : Nat) (ts : Addr → Value → Option Addr → TS) (Wout : WX) (tb : WX → TS) : TS := fun D σ H => tb (wAs K c i ts Wout D) D σ H
theorem ps_tryE {X : Cx} {st : Stmt} {K : PySem.W.Frag} {c : Value} {i : Nat} {ts : Addr → Value → Option Addr → TS} {Wout : WX} {tb : WX → TS} (h : PS X st fun D σ H => tb (wAs K c i ts Wout D) D σ H) : PS X st (tTryAs K c i ts Wout tb) := h
/-- args are read; the answer is new; or an error exc comes -/
def PFX {α : Type} (K : PySem.W.Frag) (enc : α → List D) (pre : α → Prop) (post : α → T → Prop) (exc : α → Addr → List (Str × V) → Prop) : Sp := fun vs H Q E => ∃ ds : α, DtL (fun _ => True) K H vs (enc ds) ∧ pre ds ∧ (∀ r v H' F, post ds r → Kp [] H H' → (∀ a ∈ F, H a = none) → Own (fun _ => False) K H' v r F → Q v H') ∧
  ∀ C fs H', exc ds C fs → Kp [] H H' → (fs = [] → E (.ref C) none H') ∧ (fs ≠ [] → ∀ dd, H' dd = some (.xd fs) → E (.ref C) (some dd) H')
abbrev frX (K : PySem.W.Frag) (A : Addr → Prop) (H0 : Hp) (n : Nat) (W : WX) (xc : Addr → List (Str × V) → List Cell → Prop) : Fr := ⟨K, [], A, H0, fun _ => True, 0, n, W, xc⟩
theorem okX {K A H0 n W xc} : (frX K A H0 n W xc).Ok := fun _ _ _ _ => trivial
section
variable {P : Program} {w : World} {K : PySem.W.Frag} {mg : Str → Option Value} {base : Heap} {k : Nat} {x : Str} {ps N : List Str} {st : Stmt} {α : Type} {enc : α → List D} {pre : α → Prop} {post : α → T → Prop} {exc : α → Addr → List (Str × V) → Prop}
theorem Wd.initX {K A H W xc} {N : List Str} {vs : List V} {ds : List D} (h : DtL A K H vs ds) (lk : XLink (frX K A H N.length W xc) [] []) : Wd (frX K A H N.length W xc) [] [] (startC N ds) [] (startS N vs) [] H where
  l1 := startC_len _ _
  l2 := startS_len _ _
  l3 := rfl
  l4 := rfl
  fz := fun _ z => nomatch z
  lk_ := lk
  rep := by
    refine ⟨fun _ => 0, { kp := Kp.refl, ml := fun b z => (nomatch z), st := trivial, gg := fun _ z => absurd rfl z, len := ?_, at_ := fun i c u e1 e2 => ?_ }⟩
    · simp [startC_len, startS_len]
    · rw [List.append_nil, List.append_nil] at e1 e2
      exact start_cell (f := frX K A H N.length W xc) (h.mono fun a z _ => ⟨rfl, nil_mem, .inl z⟩) e1 e2 _ _ _
theorem DefAt.pfx (h : DefAt K mg x ps st) (S : FnScope N ps (defScope st)) (len : ∀ ds, pre ds → (enc ds).length = ps.length) (full : ∀ ds r, pre ds → post ds r → r.full = true)
    (hb : ∀ (cdv : Value) (f : Addr) (A : Around) (outer : List Env) (s : Shared) (H : Hp) (E : XK), Room k (A.deeper (envOfC x (defScope st) s.heap.objs.size f cdv)) →
      ∃ t, PSs (cxOf (L2.CX P w) P w K mg base N x (defScope st) f cdv A outer s H E) (defBody st) t ∧ ∀ ds, pre ds → Es (frX K (fun _ => True) H N.length (fun cls d _ H' => E cls d H') fun C fs _ => exc ds C fs) (startC N (enc ds)) t (fin (post ds))) (hN : ps.length ≤ N.length := by decide) : Okk P w K mg base (L2.CX P w) (k + 1) x ps (PFX K enc pre post exc) := by
  refine h.okX S (fun vs H Q E ⟨ds, hd, hp, _⟩ => hd.length.trans (len ds hp)) fun cdv f A outer s H vs Q E hr ⟨ds, hd, hp, q, qx⟩ => ?_
  obtain ⟨t, h1, h2⟩ := hb cdv f A outer s H E hr
  refine ⟨t, h1, _, startS_ok (by rw [hd.length, len ds hp]; exact hN), h2 ds hp [] [] _ _ _ (Wd.initX hd fun C fs ρ σ H' z W => ?_) (fun ρ' σ' H' z W => ?_) (fun _ _ _ z => z.elim) (fun _ _ _ z => z.elim) fun c ρ' v σ' H' ⟨r, ec, z⟩ W => ?_⟩
  · obtain ⟨g, R⟩ := W.rep
    exact qx C fs H' z R.kp
  · exact q _ _ _ [] z W.kp0.1 (fun _ z => nomatch z) (.d .non)
  · subst ec
    obtain ⟨F, hF, o⟩ := W.last
    exact q _ _ _ F z (W.kp0.1) hF (o.hard (full ds r hp z))
end
section
variable {f : Fr} {m : Bool} {φ ρ ρ' ρ1 τ : List Cell} {us ws : List (Option V)} {σ : St} {H H' : Hp} {i : Nat} {v : V} {x : T} {d : D} {c c1 c2 : Cell} {Φ : Cell → List Cell → Prop} {ΦA : List Cell → List Cell → Prop} {te : TE} {tr : TA} {Dn : Pn} {E : XK} {α : Type} {enc : α → List D} {pre : α → Prop} {post : α → T → Prop} {exc : α → Addr → List (Str × V) → Prop} {C : Addr}
theorem es_rz0 (q : f.xc C [] ρ) : Es f ρ (tRz f.W C) Dn := fun φ us σ H E W _ _ _ _ => (W.lk_ C [] ρ σ H q W.toX).1 rfl
theorem es_rz1 (ok : f.Ok) {fl : Str} (q : Ev f false ρ [] te fun c ρ1 => ∃ d v, c = .t (.d d) ∧ Scl v d ∧ f.xc C [(fl, v)] ρ1) : Es f ρ (tRz1 f.W C fl te) Dn := fun φ us σ H E W _ _ _ _ => q φ us σ [] H _ W fun c ρ1 v H1 ⟨d, v', ec, sc, q1⟩ W1 => by
  subst ec
  obtain ⟨u, e, hd⟩ := W1.lk (k := 0) rfl (.t rfl)
  cases e
  have ev : v' = v := by cases sc <;> cases hd <;> rfl
  subst ev
  refine x_rzc fun dx H2 k f0 e2 => ?_
  have W2 := W1.pop (τ := []) (ws := []) rfl
  obtain ⟨s, ml⟩ := W2.ok0 ok k
  exact (W2.lk_ C _ ρ1 σ H2 q1 (W2.step k.any s ml).toX).2 (by simp) dx e2
theorem ev_callX (ok : f.Ok) (hE : (fun cls d (_ : St) H => E cls d H) = f.W) (q : EvA f false ρ τ tr fun cs ρ1 => ∃ ds, LkL ρ1 cs (enc ds) ∧ pre ds ∧ (∀ r, post ds r → Φ (.t r) ρ1) ∧ ∀ C fs, exc ds C fs → f.xc C fs ρ1) : Ev f m ρ τ (tCall (PFX f.K enc pre post exc) [] E tr) Φ := fun φ us σ ws H Q W k => by
  refine x_call (q φ us σ ws H _ W fun cs ρ1 vs H1 l ⟨ds, lk, hp, q1, q2⟩ W1 => ⟨ds, (W1.args W.l4 l lk).mono fun _ _ _ => trivial, hp, fun r v H' F z kk hF o => ?_, fun C fs H' z kk => ?_⟩)
  · have W2 := W1.pop W.l4
    obtain ⟨s, ml⟩ := W2.ok0 ok kk
    exact k _ _ _ _ (q1 r z) (W2.res kk.any s ml hF (o.mono fun _ z _ => z.elim))
  · have W2 := (W1.pop W.l4).pop (τ := []) (ws := []) (cs := τ) (vs := ws) rfl
    obtain ⟨s, ml⟩ := W2.ok0 ok kk
    have h := W2.lk_ C fs ρ1 σ H' (q2 C fs z) (W2.step kk.any s ml).toX
    rw [← hE] at h
    exact h
theorem ev_callW (ok : f.Ok) (q : EvA f false ρ τ tr fun cs ρ1 => ∃ ds, LkL ρ1 cs (enc ds) ∧ pre ds ∧ (∀ r, post ds r → Φ (.t r) ρ1) ∧ ∀ C fs, exc ds C fs → f.xc C fs ρ1) : Ev f m ρ τ (tCallW (PFX f.K enc pre post exc) f.W tr) Φ := fun φ us σ ws H Q W k => by
  refine x_callW (q φ us σ ws H _ W fun cs ρ1 vs H1 l ⟨ds, lk, hp, q1, q2⟩ W1 => ⟨ds, (W1.args W.l4 l lk).mono fun _ _ _ => trivial, hp, fun r v H' F z kk hF o => ?_, fun C fs H' z kk => ?_⟩)
  · have W2 := W1.pop W.l4
    obtain ⟨s, ml⟩ := W2.ok0 ok kk
    exact k _ _ _ _ (q1 r z) (W2.res kk.any s ml hF (o.mono fun _ z _ => z.elim))
  · have W2 := (W1.pop W.l4).pop (τ := []) (ws := []) (cs := τ) (vs := ws) rfl
    obtain ⟨s, ml⟩ := W2.ok0 ok kk
    exact W2.lk_ C fs ρ1 σ H' (q2 C fs z) (W2.step kk.any s ml).toX
/-! ### try .. except X as n -/
theorem RepG.chg {g : Addr → Nat} {cs : List Cell} {us : List (Option V)} (f' : Fr) (R : RepG f g cs us H) (h : f'.K = f.K ∧ f'.M = f.M ∧ f'.A = f.A ∧ f'.H0 = f.H0 ∧ f'.S = f.S ∧ f'.p = f.p ∧ f'.n = f.n) : RepG f' g cs us H := by
  obtain ⟨K', M', A', H0', S', p', n', W', x'⟩ := f'
  obtain ⟨K, M, A, H0, S, p, n, W0, x0⟩ := f
  obtain ⟨rfl, rfl, rfl, rfl, rfl, rfl, rfl⟩ := h
  refine ⟨R.kp, R.ml, R.st, R.gg, R.len, fun i c u e1 e2 => ?_⟩
  have h := R.at_ i c u e1 e2
  cases c <;> cases u <;> exact h
theorem Wx.chg {f' : Fr} (W : Wx f φ us ρ σ H) (h : f'.K = f.K ∧ f'.M = f.M ∧ f'.A = f.A ∧ f'.H0 = f.H0 ∧ f'.S = f.S ∧ f'.p = f.p ∧ f'.n = f.n) : Wx f' φ us ρ σ H := by
  obtain ⟨g, R⟩ := W.rep
  exact ⟨by rw [W.l1, h.2.2.2.2.2.2], by rw [W.l2, h.2.2.2.2.2.2], W.l3, W.fz, g, R.chg f' h⟩
mutual
theorem Own.seq {A K H} : ∀ {v : V} {t : T} {F : List Addr}, Own A K H v t F → ∀ a ∈ F, ∃ vs, H a = some (.lst vs) ∨ H a = some (.tup vs)
  | _, _, _, .d _, _, z => by cases z
  | _, _, _, .lst e r _, a, z => by
    rcases List.mem_cons.mp z with rfl | z
    · exact ⟨_, .inl e⟩
    · exact OwnL.seq r a z
  | _, _, _, .tup e r _, a, z => by
    rcases List.mem_cons.mp z with rfl | z
    · exact ⟨_, .inr e⟩
    · exact OwnL.seq r a z
theorem OwnL.seq {A K H} : ∀ {v : List V} {t : List T} {F : List Addr}, OwnL A K H v t F → ∀ a ∈ F, ∃ vs, H a = some (.lst vs) ∨ H a = some (.tup vs)
  | _, _, _, .nil, _, z => by cases z
  | _, _, _, .cons r t _, a, z => by
    rcases List.mem_append.mp z with z | z
    · exact Own.seq r a z
    · exact OwnL.seq t a z
end
/-- an error's dict is nobody's -/
theorem RepG.free0 {g : Addr → Nat} {cs : List Cell} {us : List (Option V)} {dd : Addr} {fs : List (Str × V)} (R : RepG f g cs us H) (e : H dd = some (.xd fs)) : RepG f (fun a => if a = dd then 0 else g a) cs us H := by
  have g0 : ∀ a, g a = 0 → (if a = dd then 0 else g a) = 0 := fun a z => by split <;> first | rfl | exact z
  refine ⟨R.kp, R.ml, R.st, fun a z => R.gg a fun y => z (g0 a y), R.len, fun i c u e1 e2 => ?_⟩
  have h := R.at_ i c u e1 e2
  match c, u, h with
  | .t x, some v, ⟨F, o, hF⟩ =>
    refine ⟨F, o.mono fun a z _ => ⟨g0 a z.1, z.2⟩, fun a z => ?_⟩
    have ne : a ≠ dd := fun y => by
      obtain ⟨vs, q | q⟩ := o.seq a z <;> rw [y, e] at q <;> cases q
    exact (if_neg ne).trans (hF a z)
  | .pl j p, some v, h => exact h
  | .sto, some v, h => exact h
  | .dead, _, _ => exact trivial
  | .ins a dx C fs', some v, ⟨vs, e', ne, h1, h2, r, ga, gd⟩ =>
    exact ⟨vs, e', ne, h1, h2, r.kp (M := []) Kp.refl fun b z l => ⟨nil_mem, ⟨g0 b z.1.1, z.1.2⟩, z.2⟩, (if_neg (show a ≠ dd from fun y => by rw [y, e] at h1; cases h1)).trans ga, (if_neg (show dx ≠ dd from fun y => by rw [y, e] at h2; cases h2)).trans gd⟩
  | .exc a d fs', some v, ⟨h1, h2⟩ => exact ⟨h1, h2.imp id fun ⟨n, d2, e3, z1, z2⟩ => ⟨n, d2, e3, g0 d2 z1, z2⟩⟩
def ExD (H : Hp) (d : Option Addr) (fs : List (Str × V)) : Prop := (fs = [] ∧ d = none) ∨ (fs ≠ [] ∧ ∃ dd, d = some dd ∧ H dd = some (.xd fs))
theorem Wx.caught {a : Addr} {dd : Option Addr} {fs : List (Str × V)} (W : Wx f φ us ρ σ H) (np : noP ρ = true) (hi : i < ρ.length) (h : ExD H dd fs) (hx : ∀ b ∈ f.M, ∀ fs, H b ≠ some (.xd fs)) : Wx f φ us (ρ.set i (.exc a dd fs)) (σ.set i (some (.ref a))) H := by
  obtain ⟨g, R⟩ := W.rep
  have npl : noPl i (ρ ++ φ) := fun c hc j p e => by
    rcases List.mem_append.mp hc with hc | hc
    · exact noP_ok np c hc j p e
    · obtain ⟨y, hy⟩ := W.fz c hc
      rw [e] at hy
      cases hy
  have hs : i < σ.length := by have := W.l1; have := W.l2; omega
  have key : ∀ g, RepG f g (ρ ++ φ) (σ ++ us) H → (∀ d, dd = some d → g d = 0 ∧ d ∉ f.M) → Rep f (ρ.set i (.exc a dd fs) ++ φ) (σ.set i (some (.ref a)) ++ us) H := fun g R hg => by
    have R2 := R.set (g' := g) (c := .exc a dd fs) (u := some (.ref a)) npl (by simp; omega) (fun a z => absurd rfl z) R.gg (fun _ z _ => z) ⟨rfl, h.imp id fun ⟨n, d, e, z⟩ => ⟨n, d, e, (hg d e).1, (hg d e).2, z⟩⟩
    rw [List.set_append_left _ _ hi, List.set_append_left _ _ hs] at R2
    exact ⟨g, R2⟩
  refine ⟨by simp [W.l1], by simp [W.l2], W.l3, W.fz, ?_⟩
  rcases h with ⟨_, rfl⟩ | ⟨_, d, rfl, e⟩
  · exact key g R fun _ z => nomatch z
  · exact key _ (R.free0 e) fun d' z => by
      cases z
      exact ⟨if_pos rfl, fun m => hx d m fs e⟩
theorem es_try {c : Value} {i : Nat} {ts : Addr → Value → Option Addr → TS} {Wout : WX} {tb : WX → TS} (xcI : Addr → List (Str × V) → List Cell → Prop) (hx : ∀ H, f.S H → ∀ b ∈ f.M, ∀ fs, H b ≠ some (.xd fs)) (hb : ∀ W', Es { f with W := W', xc := xcI } ρ (tb W') Dn)
    (hh : ∀ C fs ρ1, xcI C fs ρ1 → PySem.W.exmOne f.K (.ref C) c = some true ∧ noP ρ1 = true ∧ ∀ a d, Es f (ρ1.set i (.exc a d fs)) (ts a (.ref C) d) { Dn with nx := Kl [i] Dn.nx, bk := Kl [i] Dn.bk, ct := Kl [i] Dn.ct }) (hi : i < f.n) : Es f ρ (tTryAs f.K c i ts Wout tb) Dn := fun φ us σ H E W k1 k2 k3 k4 => by
  have cv : ∀ {W' ρ' τ' σ' ws' H'}, Wd { f with W := W', xc := xcI } φ us ρ' τ' σ' ws' H' → Wd f φ us ρ' τ' σ' ws' H' := fun W1 => by
    obtain ⟨g, R⟩ := W1.rep
    exact ⟨W1.l1, W1.l2, W1.l3, W1.l4, W1.fz, W.lk_, g, R.chg f ⟨rfl, rfl, rfl, rfl, rfl, rfl, rfl⟩⟩
  refine hb (wAs f.K c i ts Wout E) φ us σ H E ?_ (fun _ _ _ z W1 => k1 _ _ _ z (cv W1)) (fun _ _ _ z W1 => k2 _ _ _ z (cv W1)) (fun _ _ _ z W1 => k3 _ _ _ z (cv W1)) fun _ _ _ _ _ z W1 => k4 _ _ _ _ _ z (cv W1)
  obtain ⟨g, R⟩ := W.rep
  refine ⟨W.l1, W.l2, W.l3, W.l4, W.fz, fun C fs ρ1 σ1 H1 z W1 => ?_, g, R.chg _ ⟨rfl, rfl, rfl, rfl, rfl, rfl, rfl⟩⟩
  obtain ⟨he, np, hE⟩ := hh C fs ρ1 z
  have W2 : Wx f φ us ρ1 σ1 H1 := W1.chg ⟨rfl, rfl, rfl, rfl, rfl, rfl, rfl⟩
  have S1 : f.S H1 := by
    obtain ⟨g, R⟩ := W2.rep
    exact R.st
  have run : ∀ d, ExD H1 d fs → wAs f.K c i ts Wout E (.ref C) d σ1 H1 := fun d hd => x_was he fun a fa => by
    have W3 := (W2.caught (a := a) np (by rw [W2.l1]; exact hi) hd (hx H1 S1)).toD W.lk_
    have back : ∀ {N : List Cell → Prop} {K : St → Hp → Prop}, (∀ ρ' σ' H', N ρ' → Wd f φ us ρ' [] σ' [] H' → K σ' H') → ∀ ρ' σ' H', Kl [i] N ρ' → Wd f φ us ρ' [] σ' [] H' → K (σ'.set i none) H' := fun kk ρ' σ' H' ⟨ρ2, n2, kc, z⟩ W4 => by
      have W5 := (W4.kills kc n2 rfl).1
      cases kc with
      | cons kc s => exact kk _ _ _ z (W5.any (by rw [← s.eq]; exact List.getElem?_set_self s.lt) none)
    exact hE a d φ us _ H1 _ W3 (back k1) (back k2) (back k3) k4
  exact ⟨fun e => run none (.inl ⟨e, rfl⟩), fun e dd hd => run (some dd) (.inr ⟨e, dd, rfl, hd⟩)⟩
theorem ev_var_exc {a : Addr} {dd : Option Addr} {fs : List (Str × V)} (e : CAt ρ i (.exc a dd fs)) (q : Φ (.exc a dd fs) ρ) : Ev f m ρ τ (tVar i) Φ := fun φ us σ ws H Q W k => by
  obtain ⟨g, R⟩ := W.rep
  obtain ⟨u, e1, h⟩ := R.cell (at3 e.eq)
  have hi : i < σ.length := by have := (List.getElem?_eq_some_iff.mp e.eq).1; have := W.l1; have := W.l2; omega
  cases u with
  | none => cases h
  | some v =>
    refine ⟨v, at3' hi e1, k _ _ _ _ q (W.mk' (by simp [W.l4]) ⟨g, ?_⟩)⟩
    rw [← List.append_assoc, ← List.append_assoc]
    exact R.push h
/-- a def that is handed the caught error -/
def PFR (K : PySem.W.Frag) (dom : Addr → List (Str × V) → Prop) (rf : Addr → List (Str × V) → T → Prop) : Addr × Obj → Sp := fun p vs H Q _ => vs = [.ref p.1] ∧ ∃ C d fs, dom C fs ∧ ExAt K C d p.2 ∧ ExD H d fs ∧ ∀ r v H' F, rf C fs r → Kp [] H H' → (∀ a ∈ F, H a = none) → Own (fun _ => False) K H' v r F → Q v H'
theorem ev_callH (ok : f.Ok) {dom : Addr → List (Str × V) → Prop} {rf : Addr → List (Str × V) → T → Prop} {a : Addr} {d : Option Addr} (q : EvA f false ρ τ tr fun cs ρ1 => ∃ fs, cs = [.exc a d fs] ∧ dom C fs ∧ ∀ r, rf C fs r → Φ (.t r) ρ1) : Ev f m ρ τ (tCallH (PFR f.K dom rf) a (.ref C) d tr) Φ := fun φ us σ ws H Q W k => by
  refine x_callH (q φ us σ ws H _ W fun cs ρ1 vs H1 l ⟨fs, ec, hd, q1⟩ W1 oe hz hf => ?_)
  subst ec
  match vs, l with
  | [v], _ =>
    obtain ⟨g, R⟩ := W1.rep
    have hb := W1.base
    obtain ⟨u, e1, h⟩ := R.cell (i := ((ρ1 ++ φ) ++ τ).length) (c := .exc a d fs) (by rw [← List.append_assoc, List.getElem?_append_right (Nat.le_refl _), Nat.sub_self]; rfl)
    rw [show ((ρ1 ++ φ) ++ τ).length = ((σ ++ us) ++ ws).length by have := W.l4; simp at *; omega, ← List.append_assoc, List.getElem?_append_right (Nat.le_refl _), Nat.sub_self] at e1
    cases e1
    obtain ⟨h1, h2⟩ := h
    subst h1
    refine ⟨rfl, C, d, fs, hd, ⟨hz, hf⟩, h2.imp id fun ⟨n, dd, e, _, _, z⟩ => ⟨n, dd, e, z⟩, fun r v H' F z kk hF o => ?_⟩
    have W2 := W1.pop W.l4
    obtain ⟨s, ml⟩ := W2.ok0 ok kk
    exact k _ _ _ _ (q1 r z) (W2.res kk.any s ml hF (o.mono fun _ z _ => z.elim))
end
end LN
namespace LN
open PySem PySem.Spec PyProof.Rows L2 L2H
/-! ### instances -/
def putD (f : Str) (d : D) : List (Str × D) → List (Str × D)
  | [] => [(f, d)]
  | (k, u) :: l => if k = f then (f, d) :: l else (k, u) :: putD f d l
section
variable {f : Fr} {m : Bool} {φ ρ ρ' ρ1 τ : List Cell} {us ws : List (Option V)} {σ : St} {H H' : Hp} {i : Nat} {v : V} {x : T} {d : D} {c c1 c2 : Cell} {Φ : Cell → List Cell → Prop} {ΦA : List Cell → List Cell → Prop} {te ta tv : TE} {tr : TA} {Dn : Pn} {E : XK} {α : Type} {enc : α → List D} {pre : α → Prop} {post : α → T → Prop} {exc : α → Addr → List (Str × V) → Prop} {C : Addr}
theorem DtF.put {A K H} {n : Str} {v : V} {d : D} (h : Dt A K H v d) : ∀ {vs : List (Str × V)} {fs : List (Str × D)}, DtF A K H vs fs → DtF A K H (putF n v vs) (putD n d fs)
  | _, _, .nil => .cons h .nil
  | _, _, .cons (n := k) r t => by
    unfold putF putD
    by_cases e : k = n
    · subst e
      simp only [beq_self_eq_true, if_true]
      exact .cons h t
    · first
        | (rw [if_neg e, if_neg e]; exact .cons r (DtF.put h t))
        | (rw [if_neg (by simpa using e), if_neg e]; exact .cons r (DtF.put h t))
theorem DtF.length {A K H} : ∀ {vs : List (Str × V)} {fs : List (Str × D)}, DtF A K H vs fs → vs.length = fs.length
  | _, _, .nil => rfl
  | _, _, .cons _ t => congrArg Nat.succ t.length
theorem DtF.none {A K H} {n : Str} : ∀ {vs : List (Str × V)} {fs : List (Str × D)}, DtF A K H vs fs → fs.lookup n = none → vs.lookup n = none
  | _, _, .nil, _ => rfl
  | _, _, .cons (n := k) r t, e => by
    rw [List.lookup_cons] at e ⊢
    cases q : (n == k) with
    | true => rw [q] at e; cases e
    | false => rw [q] at e; exact t.none e
/-- an object that slot i owns changes -/
theorem RepG.poke {g : Addr → Nat} {cs : List Cell} {us : List (Option V)} (ok : f.Ok) (R : RepG f g cs us H) {a : Addr} {o : HO} {c' : Cell} {u : Option V} (ga : g a = i + 1) (hi : i < cs.length) (np : noPl i cs) (hu : us[i]? = some u) (hc : CellAt f g (cs.set i c') us (upd H a o) i c' u) : RepG f g (cs.set i c') us (upd H a o) := by
  have gA := R.gg a (by omega)
  have lv : ∀ b, live H b → live (upd H a o) b := fun b ⟨u, q⟩ => by
    by_cases z : b = a
    · subst z
      exact ⟨_, upd_same⟩
    · exact ⟨u, at_upd z q⟩
  refine ⟨fun b u m q => at_upd (fun z => by rw [z, gA.1] at q; cases q) (R.kp b u m q), fun b z => lv b (R.ml b z), ok _ _ R.st fun b z => upd_ne fun q => ?_, fun b z => ?_, by simp [R.len], fun j d w q1 q2 => ?_⟩
  · rcases z with z | ⟨u, z⟩
    · exact gA.2.1 (q ▸ z)
    · rw [q, gA.1] at z
      cases z
  · have := R.gg b z
    exact ⟨this.1, this.2.1, lv b this.2.2⟩
  · by_cases ij : i = j
    · subst ij
      rw [List.getElem?_set_self hi] at q1
      cases q1
      rw [hu] at q2
      cases q2
      exact hc
    · rw [List.getElem?_set_ne ij] at q1
      have h0 := R.at_ j d w q1 q2
      have fzn : ∀ b, Fz f g b → b ≠ a := fun b z q => by rw [q] at z; have := z.1; omega
      match d, w, h0 with
      | .t y', some u', ⟨F2, o5, h5⟩ =>
        exact ⟨F2, o5.kp (M := [a]) (Kp.put (by simp)) (fun b z _ => ⟨one_mem (fzn b z), z⟩) fun b z => one_mem fun q => by have := h5 b z; rw [q] at this; omega, h5⟩
      | .pl j' p', some u', ⟨jn, y', s, w', y1, y2, y3, y4, y5⟩ =>
        have ne := np _ (List.mem_of_getElem? q1) j' p' rfl
        obtain ⟨v2, F2, r1, r2, r3⟩ := R.tcell y1
        rw [y4] at r1
        cases r1
        obtain ⟨w2, G2, t1, t2, t3, t4⟩ := r2.walk y2
        refine ⟨jn, y', s, w', by rw [List.getElem?_set_ne (Ne.symm ne)]; exact y1, y2, y3, y4, ?_⟩
        rw [Walk.uniq y5 t1]
        exact t4 _ fun b z => upd_ne fun q => by have := r3 b z; rw [q] at this; omega
      | .sto, some u', h => exact h
      | .dead, _, _ => exact trivial
      | .exc a' d' fs, some u', ⟨y1, y2⟩ => exact ⟨y1, y2.imp id fun ⟨n, dd, e, z1, z2, z3⟩ => ⟨n, dd, e, z1, z2, at_upd (fun q => by rw [q] at z1; omega) z3⟩⟩
      | .ins a' dx C fs, some u', ⟨vs', e', ne, h1, h2, r, ga', gd⟩ =>
        exact ⟨vs', e', ne, at_upd (fun q => by rw [q] at ga'; omega) h1, at_upd (fun q => by rw [q] at gd; omega) h2, r.kp (M := [a]) (Kp.put (by simp)) fun b z _ => ⟨one_mem (fzn b z.1), z⟩, ga', gd⟩
/-- the last value, all of it new, becomes nobody's -/
theorem Wd.fzTopN {x : T} {v : V} (W : Wd f φ us ρ (τ ++ [.t x]) σ (ws ++ [some v]) H) (hx : x.full = true) : ∃ g, RepG f g ((ρ ++ φ) ++ (τ ++ [.t (.d x.data)])) ((σ ++ us) ++ (ws ++ [some v])) H ∧ Dt (FzN f g) f.K H v x.data := by
  obtain ⟨g, R⟩ := W.rep
  have np : noPl ((ρ ++ φ) ++ τ).length ((ρ ++ φ) ++ (τ ++ [.t x])) := fun c hc j p e z => by
    obtain ⟨i, hi⟩ := List.getElem?_of_mem hc
    obtain ⟨u, _, h⟩ := R.cell hi
    subst e
    cases u with
    | none => cases h
    | some w =>
      have := h.1
      have := W.hn
      simp at z this
      omega
  have e : ((ρ ++ φ) ++ (τ ++ [Cell.t x]))[((ρ ++ φ) ++ τ).length]? = some (.t x) := by rw [← List.append_assoc, List.getElem?_append_right (Nat.le_refl _), Nat.sub_self]; rfl
  have hb : ((ρ ++ φ) ++ τ).length = ((σ ++ us) ++ ws).length := by
    have := W.base
    have := W.l4
    simp at *
    omega
  obtain ⟨v', F, e1, h1, h2⟩ := R.tcell e
  rw [← List.append_assoc, hb, List.getElem?_append_right (Nat.le_refl _), Nat.sub_self] at e1
  cases e1
  have hi := (List.getElem?_eq_some_iff.mp e).1
  let n := ((ρ ++ φ) ++ τ).length
  have new : ∀ a ∈ F, FzN f (fun a => if g a = n + 1 then 0 else g a) a := fun a z => by
    have q := h2 a z
    have y := R.gg a (by omega)
    exact ⟨⟨if_pos q, y.2.1, .inr y.1⟩, y.1⟩
  have hs : ((σ ++ us) ++ (ws ++ [some v])).set n (some v) = ((σ ++ us) ++ (ws ++ [some v])) := set_self (by
    show ((σ ++ us) ++ (ws ++ [some v]))[((ρ ++ φ) ++ τ).length]? = _
    rw [← List.append_assoc, hb, List.getElem?_append_right (Nat.le_refl _), Nat.sub_self]
    rfl)
  have hc : ((ρ ++ φ) ++ (τ ++ [Cell.t x])).set n (.t (.d x.data)) = ((ρ ++ φ) ++ (τ ++ [.t (.d x.data)])) := by
    show ((ρ ++ φ) ++ (τ ++ [Cell.t x])).set ((ρ ++ φ) ++ τ).length (.t (.d x.data)) = _
    rw [← List.append_assoc, List.set_append_right _ _ (Nat.le_refl _), Nat.sub_self, ← List.append_assoc]
    rfl
  refine ⟨fun a => if g a = n + 1 then 0 else g a, ?_, (h1.hard (B := fun _ => False) hx).dt (fun a z => z.elim) new⟩
  have R2 := R.set (g' := fun a => if g a = n + 1 then 0 else g a) (c := .t (.d x.data)) (u := some v) np hi (fun a z => ?_) (fun a z => ?_) (fun a z _ => by rw [if_neg (by omega)]; exact z) ⟨[], .d ((h1.hard (B := fun _ => False) hx).dt (fun a z => z.elim) fun a z => (new a z).1), fun a z => by cases z⟩
  · rw [hs, hc] at R2
    exact R2
  · by_cases q : g a = n + 1
    · exact .inl q
    · rw [if_neg q] at z
      exact absurd rfl z
  · by_cases q : g a = n + 1
    · rw [if_pos q] at z
      exact absurd rfl z
    · rw [if_neg q] at z
      exact R.gg a z
/-- self.f = e, in an __init__ -/
theorem es_fld (ok : f.Ok) {fl : Str} (q : Ev f true ρ [] tv fun c ρ1 => ∃ x d a dx C fs ρ', c = .t x ∧ x.full = true ∧ x.data = d ∧ CAt ρ1 i (.ins a dx C fs) ∧ Cls f.K C ∧ NoAttr f.K C fl ∧ fs.length < 1000 ∧ noP ρ1 = true ∧ CSet ρ1 i (.ins a dx C (putD fl d fs)) ρ' ∧ Dn.nx ρ') : Es f ρ (sFld f.K (tVar i) tv fl) Dn := fun φ us σ H E W k1 _ _ _ => q φ us σ [] H _ W fun c ρ1 y H1 ⟨x, d, a, dx, C, fs, ρ', ec, xf, ed, ei, hc, hn, hl, np, s, q1⟩ W1 => by
  subst ec ed
  obtain ⟨g, R, hd⟩ := Wd.fzTopN (τ := []) (ws := []) W1 xf
  have W2 : Wd f φ us ρ1 ([] ++ [.t (.d x.data)]) σ ([] ++ [some y]) H1 := ⟨W1.l1, W1.l2, W1.l3, rfl, W1.fz, W1.lk_, g, R⟩
  have hb := W2.base
  have R' : RepG f g ((ρ1 ++ φ) ++ [.t (.d x.data)]) ((σ ++ us) ++ [some y]) H1 := R
  have R0 := R'.cut hb W2.hn
  have hi := s.lt
  have hi2 : i < σ.length := by have := W2.l1; have := W2.l2; omega
  obtain ⟨u, e2, h⟩ := R0.cell (i := i) (c := .ins a dx C fs) (by rw [List.getElem?_append_left hi]; exact ei.eq)
  cases u with
  | none => cases h
  | some v =>
    obtain ⟨vs, ev, ne, h1, h2, r, ga, gd⟩ := h
    subst ev
    rw [List.getElem?_append_left hi2] at e2
    refine ⟨.ref a, e2, a, C, dx, vs, rfl, h1, hc, hn, by rw [r.length]; exact hl, ?_⟩
    have npl : noPl i (ρ1 ++ φ) := fun c hc j p e => by
      rcases List.mem_append.mp hc with hc | hc
      · exact noP_ok np c hc j p e
      · obtain ⟨z, hz⟩ := W2.fz c hc
        rw [e] at hz
        cases hz
    · have fzn : ∀ b, FzN f g b → b ≠ a := fun b z q => by rw [q] at z; have := z.1.1; omega
      have R2 := R0.poke ok (o := .ins C dx (putF fl y vs)) (c' := .ins a dx C (putD fl x.data fs)) (u := some (.ref a)) ga (by simp; omega) npl (by rw [List.getElem?_append_left hi2]; exact e2)
        ⟨_, rfl, ne, upd_same, at_upd (Ne.symm ne) h2, DtF.put (hd.kp (M := [a]) (Kp.put (by simp)) fun b z _ => ⟨one_mem (fzn b z), z⟩) (r.kp (M := [a]) (Kp.put (by simp)) fun b z _ => ⟨one_mem (fzn b z), z⟩), ga, gd⟩
      rw [List.set_append_left _ _ hi, s.eq] at R2
      refine k1 _ _ _ q1 ⟨by rw [← s.eq]; simp [W2.l1], W2.l2, W2.l3, rfl, W2.fz, W2.lk_, g, ?_⟩
      rw [List.append_nil, List.append_nil]
      exact R2
/-- o.f, o data -/
theorem ev_fldO {fl : Str} (q : Ev f false ρ τ ta fun c ρ1 => ∃ C fs d, c = .t (.d (.obj C fs)) ∧ Cls f.K C ∧ NoAttr f.K C fl ∧ fs.lookup fl = some d ∧ Φ (.t (.d d)) ρ1) : Ev f m ρ τ (L2.tFld f.K ta fl) Φ := fun φ us σ ws H Q W k => q φ us σ ws H _ W fun c ρ1 v H1 ⟨C, fs, d, ec, hc, hn, hl, q1⟩ W1 => by
  subst ec
  obtain ⟨A, hd, mk⟩ := Wd.items (cs := [.t (.d (.obj C fs))]) (vs := [v]) W1 W.l4 rfl (.cons .fz .nil)
  cases hd with
  | cons h1 t =>
    cases t
    cases (show Dt A f.K H1 v (.obj C fs) from h1) with
    | obj a1 a2 e1 e2 r =>
      obtain ⟨w, e3, h3⟩ := r.look hl
      exact ⟨_, C, _, _, w, rfl, e1, hc, hn, e3, k _ _ _ _ q1 (mk.one _ _ h3)⟩
theorem fo {C : Addr} {fs : List (Str × D)} {fl : Str} {K : PySem.W.Frag} {P : D → Prop} (hc : Cls K C) (hn : NoAttr K C fl) (hl : fs.lookup fl = some d) (q : P d) : ∃ C' fs' d', Cell.t (.d (.obj C fs)) = .t (.d (.obj C' fs')) ∧ Cls K C' ∧ NoAttr K C' fl ∧ fs'.lookup fl = some d' ∧ P d' := ⟨C, fs, d, rfl, hc, hn, hl, q⟩
/-- o.f, a property -/
theorem ev_prop (ok : f.Ok) (q : Ev f false ρ τ ta fun c ρ1 => ∃ ds fs, enc ds = [.obj C fs] ∧ c = .t (.d (.obj C fs)) ∧ pre ds ∧ ∀ r, post ds r → Φ (.t r) ρ1) : Ev f m ρ τ (tProp C (PF f.K enc pre post) [] E ta) Φ := fun φ us σ ws H Q W k => q φ us σ ws H _ W fun c ρ1 v H1 ⟨ds, fs, ee, ec, hp, q1⟩ W1 => by
  subst ec
  have hd := Wd.args (cs := [.t (.d (.obj C fs))]) (vs := [v]) W1 W.l4 rfl (.cons (.t rfl) .nil)
  rw [show [(T.d (D.obj C fs)).data] = enc ds from ee.symm] at hd
  have hd0 := hd
  rw [ee] at hd0
  cases hd0 with
  | cons h1 t =>
    cases t
    cases h1 with
    | obj a1 a2 e1 e2 r =>
      refine ⟨_, _, _, rfl, e1, ds, hd.mono fun _ _ _ => trivial, hp, fun r v H' F z kk hF o => ?_⟩
      have W2 := W1.pop W.l4
      obtain ⟨s, ml⟩ := W2.ok0 ok kk
      exact k _ _ _ _ (q1 r z) (W2.res kk.any s ml hF (o.mono fun _ z _ => z.elim))
end
end LN
namespace LN
open PySem PySem.Spec PyProof.Rows L2 L2H
theorem DtF.mono {K : PySem.W.Frag} {A B : Addr → Prop} {H : Hp} {v : List (Str × V)} {d : List (Str × D)} (r : DtF A K H v d) (h : ∀ a, A a → live H a → B a) : DtF B K H v d := r.kp (M := []) Kp.refl fun a x y => ⟨nil_mem, h a x y⟩
/-- marker: what is made may be made of things that are changed later -/
inductive MkN : Prop | mk
/-- an __init__: the new instance at a (its dict at dx) gets its fields -/
def PFI {α : Type} (K : PySem.W.Frag) (C : Addr) (enc : α → List D) (pre : α → Prop) (post : α → List (Str × D) → Prop) (exc : α → Addr → List (Str × V) → Prop) : Sp := fun vs H Q E => ∃ (a dx : Addr) (us : List V) (A : Addr → Prop) (ds : α), vs = .ref a :: us ∧ a ≠ dx ∧ H a = some (.ins C dx []) ∧ H dx = some (.own a) ∧ (∀ b, A b → b ≠ a ∧ b ≠ dx) ∧ DtL A K H us (enc ds) ∧ pre ds ∧
  (∀ fs vs' H', post ds fs → Kp [a, dx] H H' → H' a = some (.ins C dx vs') → H' dx = some (.own a) → DtF (fun b => H b = none ∧ b ≠ a ∧ b ≠ dx) K H' vs' fs → Q .non H') ∧
  ∀ C' fs H', exc ds C' fs → Kp [a, dx] H H' → (fs = [] → E (.ref C') none H') ∧ (fs ≠ [] → ∀ dd, H' dd = some (.xd fs) → E (.ref C') (some dd) H')
def less (H : Hp) (a dx : Addr) : Hp := fun b => if b = a ∨ b = dx then none else H b
theorem less_some {H : Hp} {a dx b : Addr} {o : HO} (h : less H a dx b = some o) : H b = some o ∧ b ≠ a ∧ b ≠ dx := by
  unfold less at h
  by_cases e : b = a ∨ b = dx
  · rw [if_pos e] at h
    cases h
  · rw [if_neg e] at h
    exact ⟨h, fun z => e (.inl z), fun z => e (.inr z)⟩
section
variable {P : Program} {w : World} {K : PySem.W.Frag} {mg : Str → Option Value} {base : Heap} {k : Nat} {x qual : Str} {ps N : List Str} {st : Stmt} {α : Type} {enc : α → List D} {pre : α → Prop} {exc : α → Addr → List (Str × V) → Prop} {C : Addr}
theorem initWd {A H W xc} {y : Str} {a dx : Addr} {N : List Str} {vs : List V} {ds : List D} (ne : a ≠ dx) (h1 : H a = some (.ins C dx [])) (h2 : H dx = some (.own a)) (hA : ∀ b, A b → b ≠ a ∧ b ≠ dx) (h : DtL A K H vs ds) (lk : XLink (frX K A (less H a dx) (y :: N).length W xc) [] []) :
    Wd (frX K A (less H a dx) (y :: N).length W xc) [] [] (.ins a dx C [] :: startC N ds) [] (startS (y :: N) (.ref a :: vs)) [] H where
  l1 := congrArg Nat.succ (startC_len _ _)
  l2 := startS_len _ _
  l3 := rfl
  l4 := rfl
  fz := fun _ z => nomatch z
  lk_ := lk
  rep := by
    let g : Addr → Nat := fun b => if b = a ∨ b = dx then 1 else 0
    refine ⟨g, { kp := fun b o _ e => (less_some e).1, ml := fun b z => (nomatch z), st := trivial, gg := fun b z => ?_, len := ?_, at_ := fun i c u e1 e2 => ?_ }⟩
    · by_cases e : b = a ∨ b = dx
      · refine ⟨if_pos e, nil_mem, ?_⟩
        rcases e with rfl | rfl
        · exact ⟨_, h1⟩
        · exact ⟨_, h2⟩
      · exact absurd (if_neg e) z
    · simp [startC_len, startS, startS_len]
    · rw [List.append_nil, List.append_nil] at e1 e2
      cases i with
      | zero =>
        cases e1
        cases e2
        exact ⟨[], rfl, ne, h1, h2, .nil, if_pos (.inl rfl), if_pos (.inr rfl)⟩
      | succ i =>
        exact start_cell (f := frX K A (less H a dx) (y :: N).length W xc) (N := N) (h.mono fun b z _ => ⟨if_neg fun e => by have := hA b z; rcases e with e | e; exact this.1 e; exact this.2 e, nil_mem, .inl z⟩) e1 e2 _ _ _
theorem FunD.pfi {f : Addr} {fd : FuncData} {y : Str} {dvs : List V} {kws : List (Str × V)} {post : α → List (Str × D) → Prop} (F : FunD K x qual (defArgs st) (defBody st) (defScope st) dvs kws f fd) (S : FnScope (y :: N) (y :: ps) (defScope st)) (len : ∀ ds, pre ds → (enc ds).length = ps.length)
    (hb : ∀ (cdv : Value) (A : Around) (outer : List Env) (s : Shared) (H : Hp) (E : XK), Room k (A.deeper (envOfC qual (defScope st) s.heap.objs.size f cdv)) →
      ∃ t, PSs (cxOf (L2.CX P w) P w K mg base (y :: N) qual (defScope st) f cdv A outer s H E) (defBody st) t ∧ ∀ ds, pre ds → ∀ B H0 a dx, Es (frX K B H0 (y :: N).length (fun cls d _ H' => E cls d H') fun C fs _ => exc ds C fs) (.ins a dx C [] :: startC N (enc ds)) t ⟨fun ρ => ∃ fs, CAt ρ 0 (.ins a dx C fs) ∧ post ds fs, fun _ _ => False, fun _ => False, fun _ => False⟩) (hN : ps.length ≤ N.length := by decide) : FnOk P w K mg base (L2.CX P w) (k + 1) f fd (y :: ps) (PFI K C enc pre post exc) := by
  refine F.ok S (fun vs H Q E ⟨a, dx, us, A, ds, ev, _, _, _, _, hd, hp, _⟩ => by rw [ev]; exact congrArg Nat.succ (hd.length.trans (len ds hp))) fun cdv A outer s H vs Q E hr ⟨a, dx, us, B, ds, ev, ne, h1, h2, hA, hd, hp, q, qx⟩ => ?_
  subst ev
  obtain ⟨t, ht, h3⟩ := hb cdv A outer s H E hr
  have kp2 : ∀ {H' : Hp}, Kp [] (less H a dx) H' → Kp [a, dx] H H' := fun k b o m e => by
    have m' : ¬ (b = a ∨ b = dx) := by simpa using m
    exact k b o nil_mem ((if_neg m').trans e)
  refine ⟨t, ht, ?_⟩
  rw [(startS_ok (N := y :: N) (vs := .ref a :: us) (Nat.succ_le_succ (by rw [hd.length, len ds hp]; exact hN))).eq]
  refine h3 ds hp B (less H a dx) a dx [] [] _ _ _ (initWd ne h1 h2 hA hd fun C' fs ρ σ H' z W => ?_) (fun ρ' σ' H' z W => ?_) (fun _ _ _ z => z.elim) (fun _ _ _ z => z.elim) fun c ρ' v σ' H' z W => z.elim
  · obtain ⟨g, R⟩ := W.rep
    exact qx C' fs H' z (kp2 R.kp)
  · obtain ⟨fs, e0, hp'⟩ := z
    obtain ⟨g, R⟩ := W.rep
    obtain ⟨u, e1, h⟩ := R.cell (at3 e0.eq)
    cases u with
    | none => cases h
    | some v =>
      obtain ⟨vs', ev, ne', g1, g2, r, ga, gd⟩ := h
      refine q fs vs' H' hp' (kp2 R.kp) g1 g2 (r.mono fun b z _ => ?_)
      have nb : b ≠ a ∧ b ≠ dx := ⟨fun q => by rw [q] at z; have := z.1.1; omega, fun q => by rw [q] at z; have := z.1.1; omega⟩
      refine ⟨?_, nb⟩
      have q' : (if b = a ∨ b = dx then none else H b) = none := z.2
      rw [if_neg (by rintro (y | y); exact nb.1 y; exact nb.2 y)] at q'
      exact q'
/-- a getter, a method that only reads -/
theorem FunD.pf {f : Addr} {fd : FuncData} {dvs : List V} {kws : List (Str × V)} {post : α → T → Prop} (F : FunD K x qual (defArgs st) (defBody st) (defScope st) dvs kws f fd) (S : FnScope N ps (defScope st)) (len : ∀ ds, pre ds → (enc ds).length = ps.length) (full : ∀ ds r, pre ds → post ds r → r.full = true)
    (hb : ∀ (cdv : Value) (A : Around) (outer : List Env) (s : Shared) (H : Hp) (E : XK), Room k (A.deeper (envOfC qual (defScope st) s.heap.objs.size f cdv)) →
      ∃ t, PSs (cxOf CX0 P w K mg base N qual (defScope st) f cdv A outer s H E).nox (defBody st) t ∧ ∀ ds, pre ds → Es (frN K (fun _ => True) H N.length) (startC N (enc ds)) t (fin (post ds))) (hN : ps.length ≤ N.length := by decide) : FnOk P w K mg base CX0 (k + 1) f fd ps (PF K enc pre post) := by
  refine F.ok S (fun vs H Q E ⟨ds, hd, hp, _⟩ => hd.length.trans (len ds hp)) fun cdv A outer s H vs Q E hr ⟨ds, hd, hp, q⟩ => ?_
  obtain ⟨t, h1, h2⟩ := hb cdv A outer s H E hr
  refine ⟨t, h1.nox, ?_⟩
  rw [(startS_ok (N := N) (vs := vs) (by rw [hd.length, len ds hp]; exact hN)).eq]
  refine h2 ds hp [] [] _ _ _ (Wd.init hd) (fun ρ' σ' H' z W => ?_) (fun _ _ _ z => z.elim) (fun _ _ _ z => z.elim) fun c ρ' v σ' H' ⟨r, ec, z⟩ W => ?_
  · exact q _ _ _ [] z W.kp0.1 (fun _ z => nomatch z) (.d .non)
  · subst ec
    obtain ⟨F, hF, o⟩ := W.last
    exact q _ _ _ F z (W.kp0.1) hF (o.hard (full ds r hp z))
/-- args are read; the answer may share with them; or an error comes -/
def PFXA (K : PySem.W.Frag) (enc : α → List D) (pre : α → Prop) (post : α → T → Prop) (exc : α → Addr → List (Str × V) → Prop) : Sp := fun vs H Q E => ∃ (A : Addr → Prop) (ds : α), DtL A K H vs (enc ds) ∧ pre ds ∧ (∀ r v H' F, post ds r → Kp [] H H' → (∀ a ∈ F, H a = none) → Own (fun a => (A a ∨ H a = none) ∧ a ∉ F) K H' v r F → Q v H') ∧
  ∀ C fs H', exc ds C fs → Kp [] H H' → (fs = [] → E (.ref C) none H') ∧ (fs ≠ [] → ∀ dd, H' dd = some (.xd fs) → E (.ref C) (some dd) H')
theorem FunD.pfxa {f : Addr} {fd : FuncData} {dvs : List V} {kws : List (Str × V)} {post : α → T → Prop} (F : FunD K x qual (defArgs st) (defBody st) (defScope st) dvs kws f fd) (S : FnScope N ps (defScope st)) (len : ∀ ds, pre ds → (enc ds).length = ps.length)
    (hb : ∀ (cdv : Value) (A : Around) (outer : List Env) (s : Shared) (H : Hp) (E : XK), Room k (A.deeper (envOfC qual (defScope st) s.heap.objs.size f cdv)) →
      ∃ t, PSs (cxOf (L2.CX P w) P w K mg base N qual (defScope st) f cdv A outer s H E) (defBody st) t ∧ ∀ ds, pre ds → ∀ B, Es (frX K B H N.length (fun cls d _ H' => E cls d H') fun C fs _ => exc ds C fs) (startC N (enc ds)) t (fin (post ds))) (hN : ps.length ≤ N.length := by decide) : FnOk P w K mg base (L2.CX P w) (k + 1) f fd ps (PFXA K enc pre post exc) := by
  refine F.ok S (fun vs H Q E ⟨B, ds, hd, hp, _⟩ => hd.length.trans (len ds hp)) fun cdv A outer s H vs Q E hr ⟨B, ds, hd, hp, q, qx⟩ => ?_
  obtain ⟨t, h1, h2⟩ := hb cdv A outer s H E hr
  refine ⟨t, h1, ?_⟩
  rw [(startS_ok (N := N) (vs := vs) (by rw [hd.length, len ds hp]; exact hN)).eq]
  refine h2 ds hp B [] [] _ _ _ (Wd.initX hd fun C fs ρ σ H' z W => ?_) (fun ρ' σ' H' z W => ?_) (fun _ _ _ z => z.elim) (fun _ _ _ z => z.elim) fun c ρ' v σ' H' ⟨r, ec, z⟩ W => ?_
  · obtain ⟨g, R⟩ := W.rep
    exact qx C fs H' z R.kp
  · exact q _ _ _ [] z W.kp0.1 (fun _ z => nomatch z) (.d .non)
  · subst ec
    obtain ⟨F, hF, o⟩ := W.last
    exact q _ _ _ F z (W.kp0.1) hF o
end
section
variable {f : Fr} {m : Bool} {φ ρ ρ' ρ1 τ : List Cell} {us ws : List (Option V)} {σ : St} {H H' : Hp} {Φ : Cell → List Cell → Prop} {te ta : TE} {tr : TA} {Dn : Pn} {E : XK} {α : Type} {enc : α → List D} {pre : α → Prop} {exc : α → Addr → List (Str × V) → Prop} {C : Addr}
/-- frozen args of a call, and what may be made of an answer that shares with them -/
theorem Wd.shares {cs : List Cell} {ds : List D} {vs : List V} (W : Wd f φ us ρ (τ ++ cs) σ (ws ++ vs.map some) H) (hl : τ.length = ws.length) (lk : FzL cs ds) : ∃ A : Addr → Prop, DtL A f.K H vs ds ∧ (∀ a, A a → a ∉ f.M) ∧ ∀ (x : T) (v : V) (F : List Addr) (H' : Hp), Kp f.M H H' → f.S H' → (∀ b ∈ f.M, live H' b) → (∀ a ∈ F, H a = none) → Own (fun a => (A a ∨ H a = none) ∧ a ∉ F) f.K H' v x F → Wd f φ us ρ (τ ++ [.t x]) σ (ws ++ [some v]) H' := by
  have e := lk.eq
  obtain ⟨g, R⟩ := W.rep
  rw [← List.append_assoc, ← List.append_assoc, e, show (ds.map fun d => Cell.t (.d d)) = (ds.map T.d).map Cell.t from by rw [List.map_map]; rfl] at R
  have hb : ((ρ ++ φ) ++ τ).length = ((σ ++ us) ++ ws).length := by have := W.base; simp at *; omega
  obtain ⟨F0, o, _⟩ := R.args hb
  refine ⟨Fz f g, o.ds, fun a z => z.2.1, fun x v F H' kk s ml hF oo => ?_⟩
  have W2 := W.pop hl
  have R0 := R.cut hb (by have := W.hn; simp at *; omega)
  have nl : ∀ a, live H a → H a ≠ none := fun a ⟨o, e⟩ => by rw [e]; exact fun z => nomatch z
  have nM : ∀ a, H a = none → a ∉ f.M := fun a z m => nl a (R.ml a m) z
  have g0 : ∀ a, H a = none → g a = 0 := fun a z => Decidable.byContradiction fun q => nl a (R.gg a q).2.2 z
  let n := ((ρ ++ φ) ++ τ).length
  let g' : Addr → Nat := fun a => if a ∈ F then n + 1 else g a
  have R1 : RepG f g' ((ρ ++ φ) ++ τ) ((σ ++ us) ++ ws) H' := R0.step kk ml s (fun a l _ => if_neg fun z => nl a l (hF a z)) fun a z => by
    by_cases q : a ∈ F
    · exact .inr ⟨hF a q, nM a (hF a q), oo.live a q⟩
    · exact .inl fun y => z ((if_neg q).trans y)
  refine W2.mk' (by simp [hl]) ⟨g', ?_⟩
  rw [← List.append_assoc, ← List.append_assoc]
  refine R1.push ⟨F, oo.mono fun a z _ => ?_, fun a z => if_pos z⟩
  rcases z.1 with y | y
  · exact ⟨(if_neg z.2).trans y.1, y.2⟩
  · exact ⟨(if_neg z.2).trans (g0 a y), nM a y, .inr (R.kp.free (nM a y) y)⟩
/-- C(..) -/
theorem ev_make (ok : f.Ok) {post : α → List (Str × D) → Prop} (hE : (fun cls d (_ : St) H => E cls d H) = f.W) (q : EvA f true ρ τ tr fun cs ρ1 => ∃ ds, FzL cs (enc ds) ∧ pre ds ∧ (∀ fs, post ds fs → Φ (.t (.d (.obj C fs))) ρ1) ∧ ∀ C' fs, exc ds C' fs → f.xc C' fs ρ1) : Ev f m ρ τ (tMake C (PFI f.K C enc pre post exc) [] E tr) Φ := fun φ us σ ws H Q W k => by
  refine q φ us σ ws H _ W fun cs ρ1 vs H1 l ⟨ds, lk, hp, q1, q2⟩ W1 => ?_
  obtain ⟨A, hd, nM, mk⟩ := W1.shares W.l4 lk
  intro x dx fx fdx ne
  have k1 : Kp [] H1 (upd (upd H1 dx (.own x)) x (.ins C dx [])) := (Kp.new fdx).mut fx
  have nA : ∀ b, live H1 b → b ≠ x ∧ b ≠ dx := fun b ⟨o, e⟩ => ⟨fun z => (by rw [z, fx] at e; cases e), fun z => (by rw [z, fdx] at e; cases e)⟩
  refine ⟨x, dx, vs, fun b => A b ∧ b ≠ x ∧ b ≠ dx, ds, by rw [List.append_nil], Ne.symm ne, upd_same, at_upd ne upd_same, fun b z => z.2, hd.kp k1 fun b z lv => ⟨nil_mem, z, nA b lv⟩, hp, fun fs vs' H' hpo kk e1 e2 r => ⟨rfl, ?_⟩, fun C' fs H' z kk => ?_⟩
  · have kk' : Kp [] H1 H' := fun b o _ e => kk b o (by have := nA b ⟨o, e⟩; simp [this.1, this.2]) (k1 b o nil_mem e)
    have W2 := W1.pop W.l4
    obtain ⟨s, ml⟩ := W2.ok0 ok kk'
    have fr : ∀ b, (upd (upd H1 dx (.own x)) x (.ins C dx [])) b = none → H1 b = none := fun b z => k1.free nil_mem z
    exact k _ _ _ _ (q1 fs hpo) (mk _ _ [] H' kk'.any s ml (fun _ z => nomatch z) (.d (.obj ⟨.inr fx, nil_mem⟩ ⟨.inr fdx, nil_mem⟩ e1 e2 (r.mono fun b z _ => ⟨.inr (fr b z.1), nil_mem⟩))))
  · have kk' : Kp [] H1 H' := fun b o _ e => kk b o (by have := nA b ⟨o, e⟩; simp [this.1, this.2]) (k1 b o nil_mem e)
    have W2 := (W1.pop W.l4).pop (τ := []) (ws := []) (cs := τ) (vs := ws) rfl
    obtain ⟨s, ml⟩ := W2.ok0 ok kk'
    have h := W2.lk_ C' fs ρ1 σ H' (q2 C' fs z) (W2.step kk'.any s ml).toX
    rw [← hE] at h
    exact h
/-- C(..), its arguments one's own -/
theorem ev_makeN (_ : MkN) (ok : f.Ok) {post : α → List (Str × D) → Prop} (hE : (fun cls d (_ : St) H => E cls d H) = f.W) (q : EvA f false ρ τ tr fun cs ρ1 => ∃ ds, LkL ρ1 cs (enc ds) ∧ pre ds ∧ (∀ fs, post ds fs → Φ (.t (.d (.obj C fs))) ρ1) ∧ ∀ C' fs, exc ds C' fs → f.xc C' fs ρ1) : Ev f m ρ τ (tMake C (PFI f.K C enc pre post exc) [] E tr) Φ := fun φ us σ ws H Q W k => by
  refine q φ us σ ws H _ W fun cs ρ1 vs H1 l ⟨ds, lk, hp, q1, q2⟩ W1 => ?_
  have hd := W1.args W.l4 l lk
  intro x dx fx fdx ne
  have k1 : Kp [] H1 (upd (upd H1 dx (.own x)) x (.ins C dx [])) := (Kp.new fdx).mut fx
  have nA : ∀ b, live H1 b → b ≠ x ∧ b ≠ dx := fun b ⟨o, e⟩ => ⟨fun z => (by rw [z, fx] at e; cases e), fun z => (by rw [z, fdx] at e; cases e)⟩
  refine ⟨x, dx, vs, fun b => b ≠ x ∧ b ≠ dx, ds, by rw [List.append_nil], Ne.symm ne, upd_same, at_upd ne upd_same, fun b z => z, hd.kp k1 fun b z lv => ⟨nil_mem, nA b lv⟩, hp, fun fs vs' H' hpo kk e1 e2 r => ⟨rfl, ?_⟩, fun C' fs H' z kk => ?_⟩
  · have kk' : Kp [] H1 H' := fun b o _ e => kk b o (by have := nA b ⟨o, e⟩; simp [this.1, this.2]) (k1 b o nil_mem e)
    have W2 := W1.pop W.l4
    obtain ⟨s, ml⟩ := W2.ok0 ok kk'
    have fr : ∀ b, (upd (upd H1 dx (.own x)) x (.ins C dx [])) b = none → H1 b = none := fun b z => k1.free nil_mem z
    exact k _ _ _ _ (q1 fs hpo) (W2.res kk'.any s ml (F := []) (fun _ z => nomatch z) (.d (.obj ⟨fx, nil_mem⟩ ⟨fdx, nil_mem⟩ e1 e2 (r.mono fun b z _ => ⟨fr b z.1, nil_mem⟩))))
  · have kk' : Kp [] H1 H' := fun b o _ e => kk b o (by have := nA b ⟨o, e⟩; simp [this.1, this.2]) (k1 b o nil_mem e)
    have W2 := (W1.pop W.l4).pop (τ := []) (ws := []) (cs := τ) (vs := ws) rfl
    obtain ⟨s, ml⟩ := W2.ok0 ok kk'
    have h := W2.lk_ C' fs ρ1 σ H' (q2 C' fs z) (W2.step kk'.any s ml).toX
    rw [← hE] at h
    exact h
/-- o.m(..), a method whose answer may share with its args; dvs: defaults -/
theorem ev_methA (ok : f.Ok) {post : α → T → Prop} {mn : Str} {dvs : List V} {dds : List D} (hE : (fun cls d (_ : St) H => E cls d H) = f.W) (sd : ∀ A H, DtL A f.K H dvs dds) (q : Ev f true ρ τ ta fun c ρ1 => ∃ fs, c = .t (.d (.obj C fs)) ∧ fs.lookup mn = none ∧ EvA f true ρ1 (τ ++ [c]) tr fun cs ρ2 => ∃ ds ds', FzL cs ds' ∧ enc ds = .obj C fs :: (ds' ++ dds) ∧ pre ds ∧ (∀ r, post ds r → Φ (.t r) ρ2) ∧ ∀ C' fs, exc ds C' fs → f.xc C' fs ρ2) : Ev f m ρ τ (tMeth C mn (PFXA f.K enc pre post exc) dvs E ta tr) Φ := fun φ us σ ws H Q W k => by
  refine q φ us σ ws H _ W fun c ρ1 v H1 ⟨fs, ec, hl, q1⟩ W1 => ?_
  subst ec
  obtain ⟨A0, hd0, _⟩ := Wd.items (cs := [.t (.d (.obj C fs))]) (vs := [v]) W1 W.l4 rfl (.cons .fz .nil)
  cases hd0 with
  | cons h1 t =>
    cases t
    cases (show Dt A0 f.K H1 v (.obj C fs) from h1) with
    | @obj a dx _ vs0 _ a1 a2 e1 e2 r =>
      refine ⟨_, _, _, rfl, e1, r.none hl, q1 φ us σ _ H1 _ W1 fun cs ρ2 vs H2 l ⟨ds, ds', lk, ee, hp, q2, q3⟩ W2 => ?_⟩
      have W3 : Wd f φ us ρ2 (τ ++ (.t (.d (.obj C fs)) :: cs)) σ (ws ++ (V.ref a :: vs).map some) H2 := by
        rw [List.append_assoc, List.append_assoc] at W2
        exact W2
      obtain ⟨A, hd, nM, mk⟩ := W3.shares W.l4 (.cons lk)
      refine ⟨A, ds, by rw [ee]; exact hd.append (sd A H2), hp, fun r v H' F z kk hF o => ?_, fun C' fs H' z kk => ?_⟩
      · have W4 := W3.pop W.l4
        obtain ⟨s, ml⟩ := W4.ok0 ok kk
        exact k _ _ _ _ (q2 r z) (mk r v F H' kk.any s ml hF o)
      · have W4 := (W3.pop W.l4).pop (τ := []) (ws := []) (cs := τ) (vs := ws) rfl
        obtain ⟨s, ml⟩ := W4.ok0 ok kk
        have h := W4.lk_ C' fs ρ2 σ H' (q3 C' fs z) (W4.step kk.any s ml).toX
        rw [← hE] at h
        exact h
end
end LN
namespace LN
open PySem PySem.Spec PyProof.Rows L2 L2H
theorem passF {P : Program} {w : World} {X : Cx} : Passes (L2.CX P w) X (fun _ _ _ => False) := fun _ _ _ _ _ _ _ h => by
  obtain ⟨_, _, _, _, _, _, _, _, _, _, _, _, z⟩ := h
  exact z.elim
/-! ### properties, methods, making, as callers meet them -/
def PropAt (P : Program) (w : World) (K : PySem.W.Frag) (mg : Str → Option Value) (base : Heap) (k : Nat) (C : Addr) (x : Str) (sp : Sp) : Prop := Cls K C ∧ ∃ p g fd, PropOf K C x p g ∧ Binds K fd ["self"] [] ∧ FnOk P w K mg base CX0 k g fd ["self"] sp
def MethAt (P : Program) (w : World) (K : PySem.W.Frag) (mg : Str → Option Value) (base : Heap) (CX : CXT) (k : Nat) (C : Addr) (m : Str) (ps : List Str) (dvs : List V) (sp : Sp) : Prop := Cls K C ∧ ∃ g fd ds, Meth K C m g ∧ Binds K fd ps ds ∧ Vals dvs ds ∧ FnOk P w K mg base CX k g fd ps sp
def MakeAt (P : Program) (w : World) (K : PySem.W.Frag) (mg : Str → Option Value) (base : Heap) (CX : CXT) (k : Nat) (x : Str) (C : Addr) (ps : List Str) (sp : Sp) : Prop := mg x = some (.ref C) ∧ ∃ g fd, Mk K C g ∧ Binds K fd ps [] ∧ FnOk P w K mg base CX k g fd ps sp
section
variable {P : Program} {w : World} {K : PySem.W.Frag} {mg : Str → Option Value} {base : Heap} {CX : CXT} {j k : Nat} {C : Addr} {x m : Str} {ps : List Str} {dvs : List V} {sp : Sp}
theorem PropAt.mono (h : PropAt P w K mg base j C x sp) (l : j ≤ k) : PropAt P w K mg base k C x sp := by
  obtain ⟨c, p, g, fd, a, b, d⟩ := h
  exact ⟨c, p, g, fd, a, b, d.mono l⟩
theorem MethAt.mono (h : MethAt P w K mg base CX j C m ps dvs sp) (l : j ≤ k) : MethAt P w K mg base CX k C m ps dvs sp := by
  obtain ⟨c, g, fd, ds, a, b, d, e⟩ := h
  exact ⟨c, g, fd, ds, a, b, d, e.mono l⟩
theorem MakeAt.mono (h : MakeAt P w K mg base CX j x C ps sp) (l : j ≤ k) : MakeAt P w K mg base CX k x C ps sp := by
  obtain ⟨c, g, fd, a, b, e⟩ := h
  exact ⟨c, g, fd, a, b, e.mono l⟩
end
section
variable {X : Cx} {CX : CXT} {k : Nat} {C : Addr} {x m : Str} {ps : List Str} {dvs : List V} {sp : Sp} {e o : Expr} {es : List Expr} {ta : TE} {t : TA} {p pos apos : Pos} {E : XK}
theorem pe_propL (D : PropAt X.prog X.w X.K X.mg X.base k C x sp) (hr : Room (k + 1) X.A) (he : PE X e ta) (hab : attributeBase e x X.env (eval e X.env) = eval e X.env := by rfl) : PE X (.Attribute e x pos) (tProp C sp [] E0 ta) := by
  obtain ⟨c, p, g, fd, hp, hb, F⟩ := D
  exact pe_prop he c hp F hr hb .nil pass0 hab
theorem pe_methL {pl : Sem Bool} (D : MethAt X.prog X.w X.K X.mg X.base CX k C m ps dvs sp) (hr : Room k X.A) (hx : Passes CX X E) (he : PE X o ta) (ha : PA X (e :: es) t)
    (hst : starEach (e :: es) X.env = (false, eval e X.env) :: starEach es X.env := by rfl) (hpl : (backTo pos (starEach es X.env)).any (·.1) = false := by rfl)
    (ht : eval (.Call (.Attribute o m apos) (e :: es) [] pos) X.env = (do
      let x ← eval o X.env
      standAt apos.atName
      let (y, z) ← holding [x] (getMethod x m pl)
      callWith pos y z (backTo pos (starEach (e :: es) X.env)) (backToKw pos (keywordEach [] X.env))) := by rfl) : PE X (.Call (.Attribute o m apos) (e :: es) [] pos) (tMeth C m sp dvs E ta t) := by
  obtain ⟨c, g, fd, ds, hm, hb, hd, F⟩ := D
  exact pe_meth (pl := pl) he c hm F hr hb hd hx ha hst hpl ht
theorem pe_makeL (D : MakeAt X.prog X.w X.K X.mg X.base CX k x C ps sp) (hr : Room (k + 1) X.A) (hx : Passes CX X E) (ha : PA X (e :: es) t) (hg : Gl X x := by rfl) (hdb : (x == ("__debug__" : Str)) = false := by decide)
    (he : starEach (e :: es) X.env = (false, eval e X.env) :: starEach es X.env := by rfl) (hpl : (backTo pos (starEach es X.env)).any (·.1) = false := by rfl) : PE X (.Call (.Name x p) (e :: es) [] pos) (tMake C sp [] E t) := by
  obtain ⟨hm, g, fd, M, hb, F⟩ := D
  exact pe_make M F hr hg hm hb .nil hx ha hdb he hpl
end
/-! ### errors with two fields -/
def spInit2 (C : Addr) (f1 f2 : Str) : Sp := fun vs H Q _ => ∃ a v1 v2, vs = [.ref a, v1, v2] ∧ H a = some (exo a C none) ∧ ∀ dx, H dx = none → dx ≠ a → Q .non (upd (upd (upd H dx (exd dx [(f1, v1)])) a (exo a C (some dx))) dx (exd dx [(f2, v2), (f1, v1)]))
structure Ex2 (P : Program) (w : World) (K : PySem.W.Frag) (mg : Str → Option Value) (base : Heap) (x : Str) (C : Addr) (f1 f2 : Str) : Prop where
  g : mg x = some (.ref C)
  o : OexC K C
  i : ∃ fI fd, PySem.W.findIn K (.ref C) "__init__" = some (some (.ref fI)) ∧ PySem.W.typeIn K (.ref fI) = some (.type "function") ∧ Binds K fd ["self", f1, f2] [] ∧ FnOk P w K mg base CX0 1 fI fd ["self", f1, f2] (spInit2 C f1 f2)
def RzC2 (W : WX) (C : Addr) (f1 f2 : Str) (σ : St) (v1 v2 : V) (H1 : Hp) : Prop := [v1, v2].length ≤ 1000 ∧ ∀ a, H1 a = none → spInit2 C f1 f2 (.ref a :: ([v1, v2] ++ [])) (upd H1 a (exo a C none))
  (fun u H2 => u = .non ∧ ∃ (d : Addr) (fs : List (Str × V)), H2 a = some (exo a C (some d)) ∧ H2 d = some (exd d fs) ∧ H1 d = none ∧ W (.ref C) (some d) σ (upd (del H2 a) d (.xd fs))) (fun _ _ _ => False)
def tRz2 (W : WX) (C : Addr) (f1 f2 : Str) (t1 t2 : TE) : TS := fun _ σ H => t1 σ H fun v1 H1 => t2 σ H1 fun v2 H2 => RzC2 W C f1 f2 σ v1 v2 H2
theorem x_rzc2 {W : WX} {C : Addr} {f1 f2 : Str} {σ : St} {v1 v2 : V} {H1 : Hp} (q : ∀ dx H2, Kp [] H1 H2 → H1 dx = none → H2 dx = some (.xd [(f2, v2), (f1, v1)]) → W (.ref C) (some dx) σ H2) : RzC2 W C f1 f2 σ v1 v2 H1 :=
  ⟨by simp, fun a ha => ⟨a, v1, v2, rfl, upd_same, fun dx hd hn => ⟨rfl, dx, [(f2, v2), (f1, v1)], at_upd (Ne.symm hn) upd_same, upd_same, (free_upd hd).1, q dx _ (fun b o _ e => by
    have n1 := ne_of_none e (free_upd hd).1
    have n2 := ne_of_none e ha
    rw [upd_ne n1, del_ne n2, upd_ne n1, upd_ne n2, upd_ne n1, upd_ne n2]
    exact e) (free_upd hd).1 upd_same⟩⟩⟩
section
variable {X : Cx} {x : Str} {C : Addr} {f1 f2 : Str} {W : WX} {pos q pos' : Pos} {e1 e2 : Expr} {t1 t2 : TE}
theorem ps_raise2 (hc : X.calm = true) (tk : Takes X W) (Y : Ex2 X.prog X.w X.K X.mg X.base x C f1 f2) (hr : Room 2 X.A) (h1 : PE X e1 t1) (h2 : PE X e2 t2) (hg : Gl X x := by rfl) (hdb : (x == ("__debug__" : Str)) = false := by decide)
    (hst : starEach (e1 :: [e2]) X.env = (false, eval e1 X.env) :: starEach [e2] X.env := by rfl) (hs2 : starEach (e2 :: []) X.env = (false, eval e2 X.env) :: starEach [] X.env := by rfl) (hpl : (backTo pos (starEach [e2] X.env)).any (·.1) = false := by rfl) : PS X (.Raise (some (.Call (.Name x q) [e1, e2] [] pos)) none pos') (tRz2 W C f1 f2 t1 t2) := by
  obtain ⟨fI, fd, i1, i2, hB, G⟩ := Y.i
  exact ps_raise hc tk (pmk_oex Y.o i1 i2 G hr hB .nil pass0 hg Y.g (pa_cons h1 (pa_cons h2 pa_nil hs2) hst) hdb hst hpl)
end
theorem init_ok2 {P : Program} {w : World} {K : PySem.W.Frag} {mg : Str → Option Value} {base : Heap} {qn f1 f2 : Str} {C fI : Addr} {fd : FuncData} {st : Stmt} (F : FunD K "__init__" qn (defArgs st) (defBody st) (defScope st) [] [] fI fd)
    (S : FnScope ["self", f1, f2] ["self", f1, f2] (defScope st)) (T : OexC K C) (no1 : PySem.W.findIn K (.ref C) f1 = some none) (no2 : PySem.W.findIn K (.ref C) f2 = some none)
    (hb : ∀ (cdv : Value) (A : Around) (outer : List Env) (s : Shared) (H : Hp) (E : XK), PSs (cxOf CX0 P w K mg base ["self", f1, f2] qn (defScope st) fI cdv A outer s H E) (defBody st) (tSeq (tOst K f1 (tVar 0) (tVar 1)) (tOst K f2 (tVar 0) (tVar 2)))) : FnOk P w K mg base CX0 1 fI fd ["self", f1, f2] (spInit2 C f1 f2) := by
  refine F.ok S (fun vs H Q E z => ?_) fun cdv A outer s H vs Q E hr z => ⟨_, hb cdv A outer s H E, ?_⟩
  · obtain ⟨_, _, _, rfl, _⟩ := z
    rfl
  · obtain ⟨a, v1, v2, rfl, ha, q⟩ := z
    exact ⟨v1, rfl, .ref a, rfl, a, C, rfl, T, no1, .inl ⟨ha, fun dx h1 h2 => ⟨v2, rfl, .ref a, rfl, a, C, rfl, T, no2, .inr ⟨dx, [(f1, v1)], upd_same, at_upd h2 upd_same, by simp, q dx h1 h2⟩⟩⟩⟩
section
variable {f : Fr} {ρ : List Cell} {C : Addr} {Dn : Pn} {t1 t2 : TE}
theorem es_rz2 (ok : f.Ok) {f1 f2 : Str} (q : Ev f false ρ [] t1 fun c1 ρ1 => Ev f false ρ1 [c1] t2 fun c2 ρ2 => ∃ d1 d2 v1 v2, c1 = .t (.d d1) ∧ c2 = .t (.d d2) ∧ Scl v1 d1 ∧ Scl v2 d2 ∧ f.xc C [(f2, v2), (f1, v1)] ρ2) : Es f ρ (tRz2 f.W C f1 f2 t1 t2) Dn := fun φ us σ H E W _ _ _ _ => q φ us σ [] H _ W fun c1 ρ1 u1 H1 q1 W1 => q1 φ us σ [some u1] H1 _ W1 fun c2 ρ2 u2 H2 ⟨d1, d2, v1, v2, ec1, ec2, s1, s2, q2⟩ W2 => by
  subst ec1 ec2
  obtain ⟨w1, g1, hd1⟩ := W2.lk (k := 0) rfl (.t rfl)
  obtain ⟨w2, g2, hd2⟩ := W2.lk (k := 1) rfl (.t rfl)
  cases g1
  cases g2
  obtain rfl : v1 = u1 := by cases s1 <;> cases hd1 <;> rfl
  obtain rfl : v2 = u2 := by cases s2 <;> cases hd2 <;> rfl
  refine x_rzc2 fun dx H3 k f0 e2 => ?_
  have W3 := (W2.pop (τ := [.t (.d d1)]) (ws := [some v1]) rfl).pop (τ := []) (ws := []) (cs := [.t (.d d1)]) (vs := [some v1]) rfl
  obtain ⟨s, ml⟩ := W3.ok0 ok k
  exact (W3.lk_ C _ ρ2 σ H3 q2 (W3.step k.any s ml).toX).2 (by simp) dx e2
end
end LN
namespace LN
open PySem PySem.Spec PyProof.Rows L2 L2H
section
variable {K : PySem.W.Frag} {ρ ρ' : List Cell} {x : T} {d : D} {v : V} {C a dx : Addr} {fs : List (Str × D)} {i : Nat} {fl : Str}
theorem rz_one {P : V → Prop} (s : Scl v d) (q : P v) : ∃ d' v', Cell.t (.d d) = .t (.d d') ∧ Scl v' d' ∧ P v' := ⟨d, v, rfl, s, q⟩
theorem rz_two {P : V → V → Prop} {d2 : D} {v2 : V} (s : Scl v d) (s2 : Scl v2 d2) (q : P v v2) : ∃ d' d2' v' v2', Cell.t (.d d) = .t (.d d') ∧ Cell.t (.d d2) = .t (.d d2') ∧ Scl v' d' ∧ Scl v2' d2' ∧ P v' v2' := ⟨d, d2, v, v2, rfl, rfl, s, s2, q⟩
theorem fl_done {P : List Cell → Prop} (xf : x.full = true) (ed : x.data = d) (ei : CAt ρ i (.ins a dx C fs)) (hc : Cls K C) (hn : NoAttr K C fl) (hl : fs.length < 1000) (np : noP ρ = true) (s : CSet ρ i (.ins a dx C (putD fl d fs)) ρ') (q : P ρ') : ∃ x' d' a' dx' C' fs' ρ', Cell.t x = .t x' ∧ x'.full = true ∧ x'.data = d' ∧ CAt ρ i (.ins a' dx' C' fs') ∧ Cls K C' ∧ NoAttr K C' fl ∧ fs'.length < 1000 ∧ noP ρ = true ∧ CSet ρ i (.ins a' dx' C' (putD fl d' fs')) ρ' ∧ P ρ' :=
  ⟨x, d, a, dx, C, fs, ρ', rfl, xf, ed, ei, hc, hn, hl, np, s, q⟩
end
/-- the first place of what is out of lo .. hi -/
def fOut (lo hi : Int) : List Int → Option Nat
  | [] => none
  | x :: l => if x < lo ∨ hi < x then some 0 else (fOut lo hi l).map (· + 1)
theorem fOut_take {lo hi : Int} : ∀ {ns : List Int} {i : Nat}, (∀ x ∈ ns.take i, lo ≤ x ∧ x ≤ hi) → ∀ {x : Int}, ns[i]? = some x → (x < lo ∨ hi < x) → fOut lo hi ns = some i
  | [], _, _, _, e, _ => by cases e
  | y :: l, 0, _, x, e, o => by
    cases e
    unfold fOut
    rw [if_pos o]
  | y :: l, i + 1, h, x, e, o => by
    have h0 := h y (by rw [List.take_succ_cons]; exact List.mem_cons_self)
    unfold fOut
    rw [if_neg (by omega), fOut_take (ns := l) (i := i) (fun z hz => h z (by rw [List.take_succ_cons]; exact List.mem_cons_of_mem _ hz)) (x := x) e o]
    rfl
theorem fOut_none {lo hi : Int} : ∀ {ns : List Int}, (∀ x ∈ ns, lo ≤ x ∧ x ≤ hi) → fOut lo hi ns = none
  | [], _ => rfl
  | y :: l, h => by
    have h0 := h y List.mem_cons_self
    unfold fOut
    rw [if_neg (by omega), fOut_none fun x hx => h x (List.mem_cons_of_mem _ hx)]
    rfl
theorem take_snoc {α : Type} {l : List α} {i : Nat} (h : i < l.length) : l.take (i + 1) = l.take i ++ [l[i]] := by rw [List.take_succ, List.getElem?_eq_getElem h]; rfl
theorem forall_take {α : Type} {p : α → Prop} {l : List α} {i : Nat} (h : i < l.length) (a : ∀ x ∈ l.take i, p x) (b : p l[i]) : ∀ x ∈ l.take (i + 1), p x := fun x hx => by
  rw [take_snoc h] at hx
  rcases List.mem_append.mp hx with hx | hx
  · exact a x hx
  · rw [List.mem_singleton.mp hx]
    exact b
end LN
namespace LN
open PySem PySem.Spec PyProof.Rows L2
/-! ### rules whose text names K outside (for use under a comprehension's binders) -/
section
variable {X : Cx} {K : PySem.W.Frag}
theorem cr_listB (e : X.K = K := by rfl) : CallR X (.type "list") (rListS K) := by subst e; exact cr_list
theorem cr_lenB (e : X.K = K := by rfl) : CallR X (.builtin "len") (rLenS K) := by subst e; exact cr_len
theorem cr_sumB (hc : X.calm = true) (e : X.K = K := by rfl) : CallR X (.builtin "sum") (rSum K) := by subst e; exact cr_sum hc
theorem op_in_seqB (e : X.K = K := by rfl) : OpR X (compareOp .In) (rIn K false) := by subst e; exact op_in_seq
theorem op_notIn_seqB (e : X.K = K := by rfl) : OpR X (compareOp .NotIn) (rIn K true) := by subst e; exact op_notIn_seq
theorem pg_tupB {es : List Expr} {k : Nat} {t : TGs} {n : Nat} {pos : Pos} (hc : X.calm = true) (h : PGs X es t) (e : X.K = K := by rfl) (hn : (assignEach es X.env).length = n := by rfl) (hst : (assignEach es X.env).findIdx? (·.1) = none := by rfl) : PG X (.Tuple es k pos) (gTup K n t) := by
  subst e
  exact pg_tup hc h hn hst
theorem pe_fldB {e : Expr} {ta : TE} {f : Str} {pos : Pos} (he : PE X e ta) (hb : attributeBase e f X.env (eval e X.env) = eval e X.env) (ek : X.K = K := by rfl) : PE X (.Attribute e f pos) (L2.tFld K ta f) := by
  subst ek
  exact L2.pe_fld he hb
end
end LN
namespace LN
open PySem PySem.Spec PyProof.Rows L2
/-! ### data as the kit's plain data -/
mutual
def D.py : D → PyData
  | .non => .none
  | .bl b => .bool b
  | .int i => .int i
  | .str x => .str x
  | .lst l => .list (D.pys l)
  | .tup l => .tuple (D.pys l)
  | .obj _ _ => .dict []
def D.pys : List D → List PyData
  | [] => []
  | d :: l => d.py :: D.pys l
end
mutual
/-- no objects within -/
def D.plain : D → Bool
  | .obj _ _ => false
  | .lst l => D.plains l
  | .tup l => D.plains l
  | _ => true
def D.plains : List D → Bool
  | [] => true
  | d :: l => d.plain && D.plains l
end
mutual
/-- neither objects nor truth values within -/
def D.clean : D → Bool
  | .obj _ _ => false
  | .bl _ => false
  | .str x => PyData.strOk x
  | .lst l => D.cleans l
  | .tup l => D.cleans l
  | _ => true
def D.cleans : List D → Bool
  | [] => true
  | d :: l => d.clean && D.cleans l
end
theorem andB {a b : Bool} (h : (a && b) = true) : a = true ∧ b = true := by simpa using h
mutual
theorem D.plain_of : ∀ {d : D}, d.clean = true → d.plain = true
  | .non, _ => rfl
  | .int _, _ => rfl
  | .str _, _ => rfl
  | .lst _, h => D.plains_of h
  | .tup _, h => D.plains_of h
theorem D.plains_of : ∀ {l : List D}, D.cleans l = true → D.plains l = true
  | [], _ => rfl
  | d :: l, h => by
    have h := andB h
    show (d.plain && D.plains l) = true
    rw [D.plain_of h.1, D.plains_of h.2]
    rfl
end
section
variable {A : Addr → Prop} {K : PySem.W.Frag} {H : Hp}
mutual
theorem Dt.rp : ∀ {v : V} {d : D}, d.plain = true → Dt A K H v d → Rp (fun _ => True) K H v d.py
  | _, _, _, .non => .non
  | _, _, _, .bl b => .bl b
  | _, _, _, .int i => .int i
  | _, _, _, .str x => .str x
  | _, _, p, .lst _ e r => .lst trivial (SqL.of e) (DtL.rp p r)
  | _, _, p, .tup s r => .tup trivial (sqT_of s) (DtL.rp p r)
theorem DtL.rp : ∀ {v : List V} {d : List D}, D.plains d = true → DtL A K H v d → RpAll (fun _ => True) K H v (D.pys d)
  | _, _, _, .nil => .nil
  | _, _, p, .cons r t => .cons (Dt.rp (andB p).1 r) (DtL.rp (andB p).2 t)
end
end
mutual
theorem D.py_inj : ∀ {d e : D}, d.plain = true → e.plain = true → d.py = e.py → d = e
  | .non, e, _, q, h => by cases e <;> first | rfl | cases h | cases q
  | .bl _, e, _, q, h => by cases e <;> first | (cases h; rfl) | cases h | cases q
  | .int _, e, _, q, h => by cases e <;> first | (cases h; rfl) | cases h | cases q
  | .str _, e, _, q, h => by cases e <;> first | (cases h; rfl) | cases h | cases q
  | .lst l, e, p, q, h => by
    cases e with
    | lst m => exact congrArg D.lst (D.pys_inj p q (PyData.list.inj h))
    | _ => first | cases h | cases q
  | .tup l, e, p, q, h => by
    cases e with
    | tup m => exact congrArg D.tup (D.pys_inj p q (PyData.tuple.inj h))
    | _ => first | cases h | cases q
theorem D.pys_inj : ∀ {d e : List D}, D.plains d = true → D.plains e = true → D.pys d = D.pys e → d = e
  | [], [], _, _, _ => rfl
  | [], _ :: _, _, _, h => by cases h
  | _ :: _, [], _, _, h => by cases h
  | d :: l, e :: m, p, q, h => by
    have h := List.cons.inj h
    rw [D.py_inj (andB p).1 (andB q).1 h.1, D.pys_inj (andB p).2 (andB q).2 h.2]
end
mutual
theorem D.eqv_py : ∀ {d e : D}, d.clean = true → e.clean = true → (PyData.eqv d.py e.py = true ↔ d = e)
  | .non, e, _, q => by cases e <;> simp [D.py, PyData.eqv] <;> cases q
  | .int _, e, _, q => by cases e <;> simp [D.py, PyData.eqv] <;> cases q
  | .str _, e, _, q => by cases e <;> simp [D.py, PyData.eqv]
  | .lst l, e, p, q => by
    cases e with
    | lst m =>
      show PyData.eqv (.list (D.pys l)) (.list (D.pys m)) = true ↔ _
      rw [PyData.eqv, D.eqvs_py p q]
      exact ⟨fun h => congrArg D.lst h, fun h => D.lst.inj h⟩
    | _ => simp [D.py, PyData.eqv]
  | .tup l, e, p, q => by
    cases e with
    | tup m =>
      show PyData.eqv (.tuple (D.pys l)) (.tuple (D.pys m)) = true ↔ _
      rw [PyData.eqv, D.eqvs_py p q]
      exact ⟨fun h => congrArg D.tup h, fun h => D.tup.inj h⟩
    | _ => simp [D.py, PyData.eqv]
theorem D.eqvs_py : ∀ {d e : List D}, D.cleans d = true → D.cleans e = true → (PyData.eqvAll (D.pys d) (D.pys e) = true ↔ d = e)
  | [], [], _, _ => by simp [D.pys, PyData.eqvAll]
  | [], _ :: _, _, _ => by simp [D.pys, PyData.eqvAll]
  | _ :: _, [], _, _ => by simp [D.pys, PyData.eqvAll]
  | d :: l, e :: m, p, q => by
    show PyData.eqvAll (d.py :: D.pys l) (e.py :: D.pys m) = true ↔ _
    rw [PyData.eqvAll, Bool.and_eq_true, D.eqv_py (andB p).1 (andB q).1, D.eqvs_py (andB p).2 (andB q).2, List.cons.injEq]
end
mutual
theorem D.canLay : ∀ {d : D}, d.clean = true → d.py.canLay0 = true
  | .non, _ => by simp only [D.py, PyData.canLay0]
  | .int _, _ => by simp only [D.py, PyData.canLay0]
  | .str _, h => by
    simp only [D.py, PyData.canLay0]
    exact h
  | .lst l, h => by
    simp only [D.py, PyData.canLay0]
    exact D.canLays h
  | .tup l, h => by
    simp only [D.py, PyData.canLay0]
    exact D.canLays h
theorem D.canLays : ∀ {d : List D}, D.cleans d = true → PyData.canLayAll0 (D.pys d) = true
  | [], _ => by simp only [D.pys, PyData.canLayAll0]
  | d :: l, h => by
    simp only [D.pys, PyData.canLayAll0]
    rw [D.canLay (andB h).1, D.canLays (andB h).2]
    rfl
end
theorem pys_ints (ns : List Int) : D.pys (ns.map .int) = ns.map PyData.int := by
  induction ns with
  | nil => rfl
  | cons n l ih => show _ :: D.pys _ = _ :: _; rw [ih]; rfl
theorem clean_ints (ns : List Int) : (dIs ns).clean = true := by
  show D.cleans _ = true
  induction ns with
  | nil => rfl
  | cons n l ih => show (true && D.cleans _) = true; rw [ih]; rfl
theorem clean_rows (rs : List (List Int)) : D.cleans (rs.map dIs) = true := by
  induction rs with
  | nil => rfl
  | cons n l ih => show ((dIs n).clean && D.cleans _) = true; rw [ih, clean_ints]; rfl
theorem depth_ints (ns : List Int) : PyData.depthAll (D.pys (ns.map .int)) = 0 := by
  induction ns with
  | nil => rfl
  | cons n l ih =>
    show PyData.depthAll (.int n :: D.pys (l.map .int)) = 0
    rw [PyData.depthAll, ih, PyData.depth]
    rfl
theorem depth_rows (rs : List (List Int)) : PyData.depthAll (D.pys (rs.map dIs)) ≤ 1 := by
  induction rs with
  | nil => exact Nat.zero_le _
  | cons n l ih =>
    show PyData.depthAll (.list (D.pys (n.map .int)) :: D.pys (l.map dIs)) ≤ 1
    rw [PyData.depthAll, PyData.depth, depth_ints]
    omega
/-- what == may be asked of -/
structure Eqd (d : D) : Prop where
  c : d.clean = true
  l : d.py.depth ≤ 64
theorem Eqd.shaped {d : D} (h : Eqd d) : SeqAt.shaped d.py = true := by
  unfold SeqAt.shaped
  rw [D.canLay h.c, decide_eq_true h.l]
  rfl
theorem eqd_ints (ns : List Int) : Eqd (dIs ns) := ⟨clean_ints ns, by
  show PyData.depth (.list _) ≤ 64
  rw [PyData.depth, depth_ints]
  omega⟩
theorem eqd_rows (rs : List (List Int)) : Eqd (.lst (rs.map dIs)) := ⟨clean_rows rs, by
  show PyData.depth (.list _) ≤ 64
  have := depth_rows rs
  rw [PyData.depth]
  omega⟩
theorem eqd_nil : Eqd (.lst []) := eqd_ints []
section
variable {f : Fr} {m : Bool} {φ ρ ρ' ρ1 τ : List Cell} {us ws : List (Option V)} {σ : St} {H H' : Hp} {i : Nat} {c1 c2 : Cell} {Φ : Cell → List Cell → Prop} {Dn : Pn} {d1 d2 : D}
theorem vo_eqD (lk1 : Lk ρ c1 d1) (lk2 : Lk ρ c2 d2) (h1 : Eqd d1) (h2 : Eqd d2) (q : ∀ b : Bool, (b = true ↔ d1 = d2) → Φ (cB b) ρ) : Vo f ρ τ (r2v (rEqD f.K)) [c1, c2] Φ := vo_scal (.cons lk1 (.cons lk2 .nil)) (.bl _) (fun vs H Q hd z => by
  cases hd with
  | cons a1 t =>
    cases t with
    | cons a2 t =>
      cases t
      exact r2v_of ⟨_, _, (a1.rp (D.plain_of h1.c)).dp, (a2.rp (D.plain_of h2.c)).dp, h1.shaped, h2.shaped, z⟩) (q _ (D.eqv_py h1.c h2.c))
theorem vo_neD (lk1 : Lk ρ c1 d1) (lk2 : Lk ρ c2 d2) (h1 : Eqd d1) (h2 : Eqd d2) (q : ∀ b : Bool, (b = true ↔ d1 ≠ d2) → Φ (cB b) ρ) : Vo f ρ τ (r2v (rNeD f.K)) [c1, c2] Φ := vo_scal (.cons lk1 (.cons lk2 .nil)) (.bl _) (fun vs H Q hd z => by
  cases hd with
  | cons a1 t =>
    cases t with
    | cons a2 t =>
      cases t
      exact r2v_of ⟨_, _, (a1.rp (D.plain_of h1.c)).dp, (a2.rp (D.plain_of h2.c)).dp, h1.shaped, h2.shaped, z⟩) (q _ (by
        rw [Bool.not_eq_true', ← Bool.not_eq_true]
        exact not_congr (D.eqv_py h1.c h2.c)))
theorem ints_ne {ns : List Int} : dIs ns ≠ D.lst [] ↔ ns ≠ [] := by cases ns <;> simp
theorem rows_ne {ns : List (List Int)} : D.lst (ns.map dIs) ≠ D.lst [] ↔ ns ≠ [] := by cases ns <;> simp
/-- what slot i owns changes, and is dead then -/
theorem RepG.pokes {g : Addr → Nat} {cs : List Cell} {us : List (Option V)} (ok : f.Ok) (R : RepG f g cs us H) {F : List Addr} (gF : ∀ a ∈ F, g a = i + 1) (hi : i < cs.length) (np : noPl i cs) (k : Kp F H H') (kl : ∀ a ∈ F, live H' a) : RepG f g (cs.set i .dead) us H' := by
  have nF : ∀ a, g a ≠ i + 1 → a ∉ F := fun a z y => z (gF a y)
  have gA : ∀ a ∈ F, f.H0 a = none ∧ a ∉ f.M := fun a z => by
    have := R.gg a (by rw [gF a z]; omega)
    exact ⟨this.1, this.2.1⟩
  have lv : ∀ b, live H b → live H' b := fun b z => by
    by_cases y : b ∈ F
    · exact kl b y
    · exact z.kp k y
  have kb : ∀ b, live H b → b ∉ F → H' b = H b := fun b ⟨o, e⟩ n => by rw [e]; exact k b o n e
  refine ⟨fun b u m q => k b u (fun z => by rw [(gA b z).1] at q; cases q) (R.kp b u m q), fun b z => lv b (R.ml b z), ok _ _ R.st fun b z => ?_, fun b z => ?_, by simp [R.len], fun j d w q1 q2 => ?_⟩
  · rcases z with z | z
    · exact kb b (R.ml b z) fun y => (gA b y).2 z
    · have nb : b ∉ F := fun y => by
        obtain ⟨o, e⟩ := z
        rw [(gA b y).1] at e
        cases e
      by_cases bm : b ∈ f.M
      · exact kb b (R.ml b bm) nb
      · exact kb b (z.kp R.kp bm) nb
  · have := R.gg b z
    exact ⟨this.1, this.2.1, lv b this.2.2⟩
  · by_cases ij : i = j
    · subst ij
      rw [List.getElem?_set_self hi] at q1
      cases q1
      exact trivial
    · rw [List.getElem?_set_ne ij] at q1
      have h0 := R.at_ j d w q1 q2
      have fzn : ∀ b, Fz f g b → b ∉ F := fun b z => nF b (by rw [z.1]; omega)
      match d, w, h0 with
      | .t y', some u', ⟨F2, o5, h5⟩ =>
        exact ⟨F2, o5.kp k (fun b z _ => ⟨fzn b z, z⟩) fun b z => nF b (by rw [h5 b z]; omega), h5⟩
      | .pl j' p', some u', ⟨jn, y', s, w', y1, y2, y3, y4, y5⟩ =>
        have ne := np _ (List.mem_of_getElem? q1) j' p' rfl
        obtain ⟨v2, F2, r1, r2, r3⟩ := R.tcell y1
        rw [y4] at r1
        cases r1
        obtain ⟨w2, G2, t1, t2, t3, t4⟩ := r2.walk y2
        refine ⟨jn, y', s, w', by rw [List.getElem?_set_ne (Ne.symm ne)]; exact y1, y2, y3, y4, ?_⟩
        rw [Walk.uniq y5 t1]
        exact t4 _ fun b z => kb b (r2.live b z) (nF b (by rw [r3 b z]; omega))
      | .sto, some u', h => exact h
      | .dead, _, _ => exact trivial
      | .exc a' d' fs, some u', ⟨y1, y2⟩ => exact ⟨y1, y2.imp id fun ⟨n, dd, e, z1, z2, z3⟩ => ⟨n, dd, e, z1, z2, k _ _ (nF dd (by rw [z1]; omega)) z3⟩⟩
      | .ins a' dx C fs, some u', ⟨vs', e', ne, h1, h2, r, ga', gd⟩ =>
        exact ⟨vs', e', ne, k _ _ (nF a' (by rw [ga']; omega)) h1, k _ _ (nF dx (by rw [gd]; omega)) h2, r.kp k fun b z _ => ⟨fzn b z.1, z⟩, ga', gd⟩
end
end LN
namespace LN
open PySem PySem.Spec PyProof.Rows L2
section
variable {f : Fr} {g : Addr → Nat} {cs ρ ρ' τ φ : List Cell} {us ws : List (Option V)} {σ : St} {H H' : Hp} {i : Nat} {t : TS} {Dn : Pn}
/-- the items of slot i's list are nobody's any more, the list itself stays one's own -/
theorem RepG.freezeI (R : RepG f g cs us H) {i : Nat} {l : List T} (np : noPl i cs) (e : cs[i]? = some (.t (.lst l))) : Rep f (cs.set i (.t (.row (T.datas l)))) us H := by
  obtain ⟨v, F, e1, h1, h2⟩ := R.tcell e
  have hi := (List.getElem?_eq_some_iff.mp e).1
  have hs : us.set i (some v) = us := set_self e1
  cases h1 with
  | @lst a vs _ F' e0 r n =>
    have ga := h2 a List.mem_cons_self
    refine ⟨fun b => if g b = i + 1 ∧ b ≠ a then 0 else g b, hs ▸ R.set (c := .t (.row (T.datas l))) (u := some (.ref a)) np hi (fun b z => ?_) (fun b z => ?_) (fun b z _ => by rw [if_neg (by omega)]; exact z) ⟨[a], .lst e0 (DtL.own (r.dt (fun b z => ⟨?_, z.2⟩) fun b z => ?_)) (fun z => nomatch z), fun b z => ?_⟩⟩
    · by_cases q : g b = i + 1
      · exact .inl q
      · rw [if_neg (fun y => q y.1)] at z
        exact absurd rfl z
    · by_cases q : g b = i + 1 ∧ b ≠ a
      · rw [if_pos q] at z
        exact absurd rfl z
      · rw [if_neg q] at z
        exact R.gg b z
    · have q := h2 b (List.mem_cons_of_mem _ z)
      have y := R.gg b (by omega)
      exact ⟨if_pos ⟨q, fun w => n (w ▸ z)⟩, y.2.1, .inr y.1⟩
    · have q : ¬ (g b = i + 1 ∧ b ≠ a) := fun y => by have := z.1; omega
      exact (if_neg q).trans z.1
    · rw [List.mem_singleton.mp z]
      exact (if_neg (fun y => y.2 rfl)).trans ga
theorem es_fzI {l : List T} {ds : List D} (e : CAt ρ i (.t (.lst l))) (hd : T.datas l = ds) (s : CSet ρ i (.t (.row ds)) ρ') (n1 : noP ρ = true) (q : Es f ρ' t Dn) : Es f ρ t Dn := fun φ us σ H E W k1 k2 k3 k4 => by
  subst hd
  obtain ⟨g, R⟩ := W.rep
  have hl := s.lt
  have R2 := R.freezeI (noPl_fz W (noP_ok n1) (fun _ z => nomatch z)) (at3 e.eq)
  rw [set3 hl, s.eq] at R2
  exact q φ us σ H E ⟨by rw [← s.eq]; simp [W.l1], W.l2, W.l3, W.l4, W.fz, W.lk_, R2⟩ k1 k2 k3 k4
end
/-- the first arg is the store; the answer may share with the other args -/
def PFSA {α : Type} (K : PySem.W.Frag) (enc : α → List D) (pre : α → Prop) (post : α → T → Prop) : Sp := fun vs H Q _ => ∃ (p sl : Addr) (us : List V) (A : Addr → Prop) (ds : α), vs = .ref p :: us ∧ StoreS H p sl ∧ (∀ a, A a → a ≠ p) ∧ DtL A K H us (enc ds) ∧ pre ds ∧ ∀ r v H' F, post ds r → Kp [p] H H' → StoreS H' p sl → (∀ a ∈ F, H a = none) → Own (fun a => (A a ∨ H a = none) ∧ a ∉ F) K H' v r F → Q v H'
section
variable {P : Program} {w : World} {K : PySem.W.Frag} {mg : Str → Option Value} {base : Heap} {k : Nat} {x : Str} {ps N : List Str} {st : Stmt} {α : Type} {enc : α → List D} {pre : α → Prop} {post : α → T → Prop}
theorem DefAt.pfsa {y : Str} (h : DefAt K mg x (y :: ps) st) (S : FnScope (y :: N) (y :: ps) (defScope st)) (len : ∀ ds, pre ds → (enc ds).length = ps.length)
    (hb : ∀ (cdv : Value) (f : Addr) (A : Around) (outer : List Env) (s : Shared) (H : Hp) (E : XK), Room k (A.deeper (envOfC x (defScope st) s.heap.objs.size f cdv)) →
      ∃ t, PSs (cxOf CX0 P w K mg base (y :: N) x (defScope st) f cdv A outer s H E).nox (defBody st) t ∧ ∀ ds, pre ds → ∀ p sl B, StoreS H p sl → Es (frS K B H p sl (y :: N).length) (.sto :: startC N (enc ds)) t (fin (post ds))) (hN : ps.length ≤ N.length := by decide) : Okk P w K mg base CX0 (k + 1) x (y :: ps) (PFSA K enc pre post) := by
  refine h.ok S (fun vs H Q E ⟨p, sl, us, B, ds, ev, _, _, hd, hp, _⟩ => by rw [ev]; exact congrArg Nat.succ (hd.length.trans (len ds hp))) fun cdv f A outer s H vs Q E hr ⟨p, sl, us, B, ds, ev, hs, hB, hd, hp, q⟩ => ?_
  subst ev
  obtain ⟨t, h1, h2⟩ := hb cdv f A outer s H E hr
  refine ⟨t, h1, _, startS_ok (Nat.succ_le_succ (by rw [hd.length, len ds hp]; exact hN)), h2 ds hp p sl B hs [] [] _ _ _ (Wd.initS hs hB hd) (fun ρ' σ' H' z W => ?_) (fun _ _ _ z => z.elim) (fun _ _ _ z => z.elim) fun c ρ' v σ' H' ⟨r, ec, z⟩ W => ?_⟩
  · exact q _ _ _ [] z W.kp0.1 W.kp0.2.1 (fun _ z => nomatch z) (.d .non)
  · subst ec
    obtain ⟨F, hF, o⟩ := W.last
    exact q _ _ _ F z W.kp0.1 W.kp0.2.1 hF o
end
section
variable {K : PySem.W.Frag} {A : Addr → Prop} {H0 : Hp} {p sl : Addr} {nS : Nat} {m : Bool} {φ ρ ρ' ρ1 τ : List Cell} {us ws : List (Option V)} {σ : St} {H H' : Hp} {Φ : Cell → List Cell → Prop} {tr : TA} {E : XK} {α : Type} {enc : α → List D} {pre : α → Prop} {post : α → T → Prop}
theorem ev_callSA (q : EvA (frS K A H0 p sl nS) true ρ τ tr fun cs ρ1 => ∃ cs' ds, cs = .sto :: cs' ∧ FzL cs' (enc ds) ∧ pre ds ∧ ∀ r, post ds r → Φ (.t r) ρ1) : Ev (frS K A H0 p sl nS) m ρ τ (tCall (PFSA K enc pre post) [] E tr) Φ := fun φ us σ ws H Q W k => by
  refine x_call (q φ us σ ws H _ W fun cs ρ1 vs H1 l ⟨cs', ds, ec, lk, hp, q1⟩ W1 => ?_)
  subst ec
  match vs, l with
  | v :: vs, l =>
    have W1' : Wd (frS K A H0 p sl nS) φ us ρ1 ((τ ++ [.sto]) ++ cs') σ ((ws ++ [some v]) ++ vs.map some) H1 := by
      rw [List.append_assoc, List.append_assoc]
      exact W1
    have Wv := W1'.pop (by simp [W.l4])
    obtain ⟨g, R⟩ := Wv.rep
    obtain ⟨u, e1, h⟩ := R.cell (i := ((ρ1 ++ φ) ++ τ).length) (c := .sto) (by rw [← List.append_assoc, List.getElem?_append_right (Nat.le_refl _), Nat.sub_self]; rfl)
    have hb : ((ρ1 ++ φ) ++ τ).length = ((σ ++ us) ++ ws).length := by have := Wv.base; have := W.l4; simp at *; omega
    rw [hb, ← List.append_assoc, List.getElem?_append_right (Nat.le_refl _), Nat.sub_self] at e1
    cases e1
    cases h
    obtain ⟨B, hd, nM, mk⟩ := W1'.shares (by simp [W.l4]) lk
    refine ⟨p, sl, vs, B, ds, rfl, W1.kp0.2.1, fun a z => by simpa using nM a z, hd, hp, fun r v H' F z kk hs hF o => ?_⟩
    have W2 := mk r v F H' kk hs (fun b z => by rw [List.mem_singleton.mp z]; exact hs.p_live) hF o
    exact k _ _ _ _ (q1 r z) (Wd.down W2 W.l4)
theorem cl_doneSA {cs : List Cell} {a : α} {P : α → Prop} (lk : FzL cs (enc a)) (q : P a) : ∃ cs' ds, Cell.sto :: cs = .sto :: cs' ∧ FzL cs' (enc ds) ∧ P ds := ⟨cs, a, rfl, lk, q⟩
theorem eva_fz2 {f : Fr} {ΦA : List Cell → List Cell → Prop} (q : EvA f m ρ τ tr fun cs ρ1 => ∃ c0 x, cs = [c0, .t x] ∧ ΦA [c0, .t (.d x.data)] ρ1) : EvA f m ρ τ tr ΦA := fun φ us σ ws H Q W k => q φ us σ ws H Q W fun cs ρ1 vs H1 l ⟨c0, x, ec, q1⟩ W1 => by
  subst ec
  match vs, l with
  | [v0, v1], _ =>
    have W2 : Wd f φ us ρ1 ((τ ++ [c0]) ++ [.t x]) σ ((ws ++ [some v0]) ++ [some v1]) H1 := by
      rw [List.append_assoc, List.append_assoc]
      exact W1
    have W3 := W2.fzTop
    rw [List.append_assoc, List.append_assoc] at W3
    exact k _ _ _ _ rfl q1 W3
/-- the rows of picks here are used up -/
inductive PickF : Prop
  | mk
theorem ev_pickF (_ : PickF) (q : EvA (frS K A H0 p sl nS) false ρ τ tr fun cs ρ1 => ∃ x l, cs = [.sto, .t x] ∧ x.data = .lst l ∧ 0 < l.length ∧ l.length < 100000 ∧ ∀ y ∈ l, Φ (.t (.d y)) ρ1) : Ev (frS K A H0 p sl nS) m ρ τ (tCall (spPick K) [] E tr) Φ := ev_pick (eva_fz2 (ΦA := fun cs ρ1 => ∃ c l, cs = [.sto, c] ∧ Leaf ρ1 c (.lst l) ∧ 0 < l.length ∧ l.length < 100000 ∧ ∀ y ∈ l, Φ (.t (.d y)) ρ1) (fun φ us σ ws H Q W k => q φ us σ ws H Q W fun cs ρ1 vs H1 l ⟨x, l', ec, ed, h0, h1, q1⟩ W1 => k _ _ _ _ l ⟨.sto, x, ec, _, l', rfl, by rw [ed]; exact .fz, h0, h1, q1⟩ W1))
/-- what displays and comprehensions make here is nobody's at once -/
inductive FzM : Prop
  | mk
theorem ev_fzT {f : Fr} {t : TE} (q : Ev f m ρ τ t fun c ρ1 => ∃ x, c = .t x ∧ Φ (.t (.d x.data)) ρ1) : Ev f m ρ τ t Φ := fun φ us σ ws H Q W k => q φ us σ ws H Q W fun c ρ1 v H1 ⟨x, ec, q1⟩ W1 => by
  subst ec
  exact k _ _ _ _ q1 W1.fzTop
theorem ev_lstF {f : Fr} (_ : FzM) (ok : f.Ok) (q : EvA f true ρ τ tr fun cs ρ1 => ∃ xs, TsOf cs xs ∧ xs.length ≤ 100000 ∧ Φ (.t (.d (.lst (T.datas xs)))) ρ1) : Ev f m ρ τ (tLst tr) Φ := ev_fzT (ev_lst ok fun φ us σ ws H Q W k => q φ us σ ws H Q W fun cs ρ1 vs H1 l ⟨xs, h1, h2, q1⟩ W1 => k _ _ _ _ l ⟨xs, h1, h2, _, rfl, q1⟩ W1)
end
end LN
namespace LN
open PySem PySem.Spec PyProof.Rows L2
section
variable {X : Cx} {K : PySem.W.Frag}
theorem op_eqDB (hu : X.A.units + 64 < cLine) (e : X.K = K := by rfl) : OpR X (compareOp .Eq) (rEqD K) := by subst e; exact op_eqD hu
theorem op_neDB (hu : X.A.units + 64 < cLine) (e : X.K = K := by rfl) : OpR X (compareOp .NotEq) (rNeD K) := by subst e; exact op_neD hu
theorem pi_listB {tg l : Expr} {tl : TE} (hl : PE X l tl) (e : X.K = K := by rfl) : PI X tg l (iList K tl) := by subst e; exact pi_list hl
end
/-- the law's own def enters the layer behind _law_store -/
theorem Wd.enter {K : PySem.W.Frag} {A : Addr → Prop} {H : Hp} {p sl : Addr} {ρ : List Cell} {σ : St} {n : Nat} (s : StoreS H p sl) (l1 : ρ.length = n) (l2 : σ.length = n) (h : ∀ (i : Nat) (c : Cell), ρ[i]? = some c → c = Cell.dead ∨ (c = Cell.sto ∧ σ[i]? = some (some (V.ref p)))) : Wd (frS K A H p sl n) [] [] ρ [] σ [] H where
  l1 := l1
  l2 := l2
  l3 := rfl
  l4 := rfl
  fz := fun _ z => nomatch z
  lk_ := fun _ _ _ _ _ z => z.elim
  rep := by
    refine ⟨fun _ => 0, { kp := Kp.refl, ml := fun b z => ?_, st := s, gg := fun _ z => absurd rfl z, len := by simp [l1, l2], at_ := fun i c u e1 e2 => ?_ }⟩
    · rw [List.mem_singleton.mp z]
      exact s.p_live
    · rw [List.append_nil, List.append_nil] at e1 e2
      rcases h i c e1 with rfl | ⟨rfl, e⟩
      · cases u <;> exact trivial
      · rw [e] at e2
        cases e2
        exact rfl
theorem es_enter {K : PySem.W.Frag} {A : Addr → Prop} {H : Hp} {p sl : Addr} {ρ : List Cell} {σ : St} {n : Nat} {t : TS} {E : Ends} {Dn : Pn} (s : StoreS H p sl) (l1 : ρ.length = n) (l2 : σ.length = n) (h : ∀ (i : Nat) (c : Cell), ρ[i]? = some c → c = Cell.dead ∨ (c = Cell.sto ∧ σ[i]? = some (some (V.ref p)))) (hn : ∀ ρ, ¬ Dn.nx ρ) (hb : ∀ ρ, ¬ Dn.bk ρ) (hc : ∀ ρ, ¬ Dn.ct ρ) (hr : ∀ (c : Cell) (ρ : List Cell) (v : V) (H' : Hp), Dn.rt c ρ → ∃ x, c = Cell.t (T.d (D.bl x)) ∧ (v = V.bl x → E.rt v H')) (q : Es (frS K A H p sl n) ρ t Dn) : t E σ H :=
  q [] [] σ H E (Wd.enter s l1 l2 h) (fun ρ' σ' H' z _ => absurd z (hn ρ')) (fun ρ' _ _ z _ => absurd z (hb ρ')) (fun ρ' _ _ z _ => absurd z (hc ρ')) fun c ρ' v σ' H' z W => by
    obtain ⟨x, rfl, k⟩ := hr c ρ' v H' z
    obtain ⟨u, e, hd⟩ := W.lk (k := 0) rfl (.t rfl)
    cases e
    cases hd
    exact k rfl
end LN
namespace LN
open PySem PySem.Spec PyProof.Rows L2
/-- what calls answer here is nobody's at once -/
inductive FzA : Prop
  | mk
section
variable {f : Fr} {m : Bool} {ρ τ : List Cell} {Φ : Cell → List Cell → Prop} {tr : TA} {E : XK} {α : Type} {enc : α → List D} {pre : α → Prop} {post : α → T → Prop}
theorem ev_cbF (_ : FzA) {r : List V → Hp → VK → Prop} (q : EvA f false ρ τ tr fun cs ρ1 => Vo f ρ1 τ r cs fun c ρ2 => ∃ x, c = .t x ∧ Φ (.t (.d x.data)) ρ2) : Ev f true ρ τ (tCB r tr) Φ := ev_fzT (ev_cb q)
theorem ev_callF (_ : FzA) (ok : f.Ok) (q : EvA f false ρ τ tr fun cs ρ1 => ∃ ds, LkL ρ1 cs (enc ds) ∧ pre ds ∧ ∀ r, post ds r → Φ (.t (.d r.data)) ρ1) : Ev f true ρ τ (tCall (PF f.K enc pre post) [] E tr) Φ :=
  ev_fzT (ev_call ok fun φ us σ ws H Q W k => q φ us σ ws H Q W fun cs ρ1 vs H1 l ⟨ds, a, b, c⟩ W1 => k cs ρ1 vs H1 l ⟨ds, a, b, fun r z => ⟨r, rfl, c r z⟩⟩ W1)
end
theorem pos_of_sum : ∀ {ns : List Int}, 0 < ns.sum → ∃ (i : Nat) (h : i < ns.length), 0 < ns[i]
  | [], z => by simp at z
  | x :: l, z => by
    by_cases hx : 0 < x
    · exact ⟨0, by simp, hx⟩
    · rw [List.sum_cons] at z
      obtain ⟨i, h, p⟩ := pos_of_sum (ns := l) (by omega)
      exact ⟨i + 1, by simp; omega, p⟩
theorem sum_nn : ∀ {ns : List Int}, (∀ x ∈ ns, 0 ≤ x) → 0 ≤ ns.sum
  | [], _ => by simp
  | x :: l, h => by
    rw [List.sum_cons]
    have := sum_nn (ns := l) fun y hy => h y (List.mem_cons_of_mem _ hy)
    have := h x List.mem_cons_self
    omega
theorem sum_pos : ∀ {ns : List Int}, (∀ x ∈ ns, 0 ≤ x) → ∀ {i : Nat} (h : i < ns.length), 0 < ns[i] → 0 < ns.sum
  | x :: l, h, 0, _, p => by
    rw [List.sum_cons]
    have := sum_nn (ns := l) fun y hy => h y (List.mem_cons_of_mem _ hy)
    have p : 0 < x := p
    omega
  | x :: l, h, i + 1, hi, p => by
    rw [List.sum_cons]
    have := sum_pos (ns := l) (fun y hy => h y (List.mem_cons_of_mem _ hy)) (i := i) (by simpa using hi) (by simpa using p)
    have := h x List.mem_cons_self
    omega
end LN
namespace LN
open PySem PySem.Spec PyProof.Rows L2
section
variable {f : Fr} {ρ : List Cell} {tr : TA} {tbd : TS} {Dn : Pn} {g : TG}
/-- for x in reversed(xs) -/
theorem es_rev (q : EvA f true ρ [] tr fun cs ρ1 => ∃ x l, cs = [.t x] ∧ x.data = .lst l ∧ Loop f ρ1 l.length (fun k => .t (.d (l.getD (l.length - 1 - k) .non))) g tbd Dn) : Es f ρ (tFor (iRev f.K tr) g tbd) Dn := fun φ us σ H E W k1 _ _ k4 => x_for (show iRev f.K tr σ H _ from (q φ us σ [] H _ W fun cs ρ1 vs H1 ln ⟨x, l, ec, ex, IV, h0, hs, hd⟩ W1 => by
  subst ec
  match vs, ln with
  | [v], _ =>
  have W2 := Wd.fzTop (τ := []) (ws := []) W1
  rw [ex] at W2
  have W3 := Wd.hold W2
  have hh : ∀ {ρ' s' H'}, Wd f (φ ++ [.t (.d (.lst l))]) (us ++ [some v]) ρ' [] s' [] H' → ∃ A a vs, v = .ref a ∧ H' a = some (.lst vs) ∧ DtL A f.K H' vs l ∧ Make f (φ ++ [.t (.d (.lst l))]) (us ++ [some v]) ρ' [] s' [] H' A := fun W => by
    obtain ⟨A, ⟨a, vs, e1, e2, r⟩, mk⟩ := W.held W1.l3
    exact ⟨A, a, vs, e1, e2, r, mk⟩
  obtain ⟨A, a, vs, ev, e2, r, _⟩ := hh W3
  subst ev
  have lv := r.length
  refine ⟨a, vs, rfl, SqL.of e2, loop_gen (n := l.length) (IC := fun k c => c = .t (.d (l.getD (l.length - 1 - k) .non))) IV h0 W3 W1.l3 W1.lk_ (fun i s' H' ρ' W4 => ?_) (fun i ρ' c hi hI hc => hc ▸ hs i ρ' hi hI) hd k1 k4⟩
  obtain ⟨A', a', vs', e1', e2', r', mk⟩ := hh W4
  cases e1'
  refine ⟨fun hi => ?_, fun hi => by show vs.length ≤ i; omega⟩
  obtain ⟨w, hw, hd'⟩ := r'.get (List.getElem?_eq_getElem (show l.length - 1 - i < l.length by omega))
  refine ⟨⟨by show i < vs.length; omega, vs', w, SqL.of e2', by show vs'[vs.length - 1 - i]? = some w; rw [lv]; exact hw⟩, fun y H2 ⟨e3, e4⟩ => ⟨_, rfl, ?_⟩⟩
  subst e3
  have := e4 vs' (SqL.of e2')
  rw [show vs.length - 1 - i = l.length - 1 - i by omega, hw] at this
  cases this
  rw [show l.getD (l.length - 1 - i) .non = l[l.length - 1 - i] by rw [List.getD_eq_getElem?_getD, List.getElem?_eq_getElem (show l.length - 1 - i < l.length by omega)]; rfl]
  exact mk.one _ _ hd'))
end
/-- a place that holds a tuple of values that are nobody's -/
theorem leaf_plT2 {ρ : List Cell} {j : Nat} {a b : D} (e : CAt ρ j (.t (.tup [.d a, .d b]))) : Leaf ρ (.pl j []) (.tup [a, b]) := .plT (l := [a, b]) e.eq rfl
theorem leaf_plT3 {ρ : List Cell} {j : Nat} {a b c : D} (e : CAt ρ j (.t (.tup [.d a, .d b, .d c]))) : Leaf ρ (.pl j []) (.tup [a, b, c]) := .plT (l := [a, b, c]) e.eq rfl
end LN
namespace LN
open PySem PySem.Spec PyProof.Rows L2
section
variable {f : Fr} {m : Bool} {ρ ρ' ρ1 τ : List Cell} {i : Nat} {c c1 c2 : Cell} {Φ : Cell → List Cell → Prop} {Ψ : List Cell → Prop} {te ta : TE} {tr : TA} {tt : TT} {g : TG} {Dn : Pn} {vl : List Nat}
/-- a tuple is taken apart (three items) -/
theorem eg_tup3 {n1 n2 n3 kk : Nat} {d1 d2 d3 : D} {ρ2 ρ3 : List Cell} (hk : kk = 3) (n : noP ρ = true) (lf : Leaf ρ c (.tup [d1, d2, d3])) (s1 : CSet ρ n1 (.t (.d d1)) ρ1) (n' : noP ρ1 = true) (s2 : CSet ρ1 n2 (.t (.d d2)) ρ2) (n'' : noP ρ2 = true) (s3 : CSet ρ2 n3 (.t (.d d3)) ρ3) (q : Ψ ρ3) : Eg f ρ c (gTup f.K kk (gCons (gName n1) (gCons (gName n2) (gCons (gName n3) gNil)))) Ψ := fun φ us σ H v qs W k => by
  subst hk
  obtain ⟨A, hd, mk⟩ := Wd.items (cs := [c]) (vs := [v]) (τ := []) (ws := []) W rfl rfl (.cons lf .nil)
  cases hd with
  | cons h1 t =>
    cases t
    obtain ⟨a, xs, rfl, e1, r⟩ := h1
    cases r with
    | cons r1 r =>
      cases r with
      | cons r2 r =>
        cases r with
        | cons r3 r =>
          cases r
          rename_i v1 v2 v3
          refine ⟨a, [v1, v2, v3], rfl, e1, rfl, v1, [v2, v3], rfl, v2, [v3], rfl, v3, [], rfl, rfl, ?_⟩
          have W1 := mk.many [v3, v2, v1] [d3, d2, d1] (.cons r3 (.cons r2 (.cons r1 .nil)))
          have W2 := Wd.set (τ := [.t (.d d3), .t (.d d2)]) (ws := [some v3, some v2]) (x := .d d1) (v := v1) W1 rfl s1.lt (noP_ok n) (noP_ok rfl)
          rw [s1.eq] at W2
          have W3 := Wd.set (τ := [.t (.d d3)]) (ws := [some v3]) (x := .d d2) (v := v2) W2 rfl s2.lt (noP_ok n') (noP_ok rfl)
          rw [s2.eq] at W3
          have W4 := Wd.set (τ := []) (ws := []) (x := .d d3) (v := v3) W3 rfl s3.lt (noP_ok n'') (fun _ z => nomatch z)
          rw [s3.eq] at W4
          exact k _ _ _ q W4
theorem DtL.bools {A : Addr → Prop} {K : PySem.W.Frag} {H : Hp} : ∀ {vs : List V} {bs : List Bool}, DtL A K H vs (bs.map .bl) → vs = bs.map V.bl
  | _, [], .nil => rfl
  | _, b :: bs, .cons r t => by
    cases r
    rw [List.map_cons, DtL.bools t]
theorem vo_any {bs : List Bool} (lk : Lk ρ c1 (.lst (bs.map .bl))) (q : Φ (cB (bs.any id)) ρ) : Vo f ρ τ (rAny f.K) [c1] Φ := vo_scal (.cons lk .nil) (.bl _) (fun vs H Q hd z => by
  cases hd with
  | cons r t =>
    cases t
    cases r with
    | lst a e r =>
      have := DtL.bools r
      subst this
      exact ⟨_, bs, rfl, SqL.of e, z⟩) q
theorem vo_all {bs : List Bool} (lk : Lk ρ c1 (.lst (bs.map .bl))) (q : Φ (cB (bs.all id)) ρ) : Vo f ρ τ (rAll f.K) [c1] Φ := vo_scal (.cons lk .nil) (.bl _) (fun vs H Q hd z => by
  cases hd with
  | cons r t =>
    cases t
    cases r with
    | lst a e r =>
      have := DtL.bools r
      subst this
      exact ⟨_, bs, rfl, SqL.of e, z⟩) q
/-- [.. for x, y in zip(xs, ys)] -/
theorem ev_lcZ (ok : f.Ok) (np : noP τ = true) (q : EvA f true ρ τ tr fun cs ρ1 => ∃ l r, cs = [.t (.d (.lst l)), .t (.d (.lst r))] ∧ l.length = r.length ∧ l.length ≤ 100000 ∧ LcL f ρ1 (τ ++ [.t (.d (.lst l)), .t (.d (.lst r))]) l.length (fun k => .t (.tup [.d (l.getD k .non), .d (r.getD k .non)])) g vl tt te Φ) : Ev f m ρ τ (tLc (iZip f.K tr) g tt te vl) Φ := fun φ us σ ws H Q W k => x_lc (show iZip f.K tr σ H _ from (q φ us σ ws H _ W fun cs ρ1 vs H1 ln ⟨l, r, ec, el, hz, q1⟩ W1 => by
  subst ec
  match vs, ln with
  | [v1, v2], _ =>
  have hh : ∀ {ρ' s' H' τ2 w2}, Wd f φ us ρ' ((τ ++ [.t (.d (.lst l)), .t (.d (.lst r))]) ++ τ2) s' ((ws ++ [some v1, some v2]) ++ w2) H' → ∃ A a b xs ys, v1 = .ref a ∧ v2 = .ref b ∧ H' a = some (.lst xs) ∧ H' b = some (.lst ys) ∧ DtL A f.K H' xs l ∧ DtL A f.K H' ys r ∧ Make f φ us ρ' ((τ ++ [.t (.d (.lst l)), .t (.d (.lst r))]) ++ τ2) s' ((ws ++ [some v1, some v2]) ++ w2) H' A := @fun ρ' s' H' τ2 w2 W' => by
    obtain ⟨g', R⟩ := W'.rep
    have mk := R.make W'
    have hb := W'.base
    have hl := W.l4
    obtain ⟨u1, e1, d1⟩ := R.leaf (i := (ρ' ++ φ).length + τ.length) (c := .t (.d (.lst l))) (by
      rw [List.getElem?_append_right (by omega), Nat.add_sub_cancel_left, List.append_assoc, List.getElem?_append_right (Nat.le_refl _), Nat.sub_self]
      rfl) .fz
    obtain ⟨u2, e2, d2⟩ := R.leaf (i := (ρ' ++ φ).length + (τ.length + 1)) (c := .t (.d (.lst r))) (by
      rw [List.getElem?_append_right (by omega), Nat.add_sub_cancel_left, List.append_assoc, List.getElem?_append_right (by omega), show τ.length + 1 - τ.length = 1 by omega]
      rfl) .fz
    rw [hb, List.getElem?_append_right (by omega), Nat.add_sub_cancel_left, hl, List.append_assoc, List.getElem?_append_right (Nat.le_refl _), Nat.sub_self] at e1
    rw [hb, List.getElem?_append_right (by omega), Nat.add_sub_cancel_left, hl, List.append_assoc, List.getElem?_append_right (by omega), show ws.length + 1 - ws.length = 1 by omega] at e2
    cases e1
    cases e2
    obtain ⟨a, xs, h1, h2, h3⟩ := d1
    obtain ⟨b, ys, h4, h5, h6⟩ := d2
    exact ⟨_, a, b, xs, ys, h1, h4, h2, h5, h3, h6, mk⟩
  obtain ⟨A, a, b, xs, ys, ev1, ev2, e2, e3, r1, r2, _⟩ := hh (τ2 := []) (w2 := []) (by rw [List.append_nil, List.append_nil]; exact W1)
  subst ev1 ev2
  refine ⟨a, b, xs, ys, rfl, SqL.of e2, SqL.of e3, lc_gen (hd := [.t (.d (.lst l)), .t (.d (.lst r))]) (hv := [some (.ref a), some (.ref b)]) ok np rfl W1 W.l4 (n := l.length) (IC := fun k => .t (.tup [.d (l.getD k .non), .d (r.getD k .non)])) hz (fun i s' H' ρ' c v W3 => ?_) q1 Q k⟩
  obtain ⟨A', a', b', xs', ys', y1, y2, y3, y4, y5, y6, mk⟩ := hh W3
  cases y1
  cases y2
  refine ⟨fun hi => ?_, fun hi => ⟨xs', ys', SqL.of y3, SqL.of y4, .inl (by rw [y5.length]; exact hi)⟩⟩
  obtain ⟨w1, hw1, hd1⟩ := y5.get (List.getElem?_eq_getElem hi)
  obtain ⟨w2, hw2, hd2⟩ := y6.get (List.getElem?_eq_getElem (show i < r.length by omega))
  refine ⟨⟨xs', ys', w1, w2, SqL.of y3, SqL.of y4, hw1, hw2⟩, fun y H2 ⟨T, z1, z2, e4, e5, e6, e7, e8⟩ => ?_⟩
  subst e4 e6
  have q1 := e7 xs' (SqL.of y3)
  have q2 := e8 ys' (SqL.of y4)
  rw [hw1] at q1
  rw [hw2] at q2
  cases q1
  cases q2
  rw [show l.getD i .non = l[i] by rw [List.getD_eq_getElem?_getD, List.getElem?_eq_getElem hi]; rfl, show r.getD i .non = r[i]'(by omega) by rw [List.getD_eq_getElem?_getD, List.getElem?_eq_getElem (show i < r.length by omega)]; rfl]
  exact mk.row ok T [w1, w2] [l[i], r[i]'(by omega)] false e5 (.cons hd1 (.cons hd2 .nil))))
theorem zp_l {l r : List D} {P : List D → List D → Prop} (q : P l r) : ∃ l' r', [Cell.t (.d (.lst l)), Cell.t (.d (.lst r))] = [.t (.d (.lst l')), .t (.d (.lst r'))] ∧ P l' r' := ⟨l, r, rfl, q⟩
end
section
variable {f : Fr} {ρ τ : List Cell} {Φ : Cell → List Cell → Prop} {te : TE}
theorem ev_slF (_ : FzA) {r : V → Option Int → Option Int → Hp → VK → Prop} {tl th : TO} (q : Ev f false ρ τ te fun c ρ1 => Eo f ρ1 (τ ++ [c]) tl fun lo ρ2 => Eo f ρ2 (τ ++ [c]) th fun hi ρ3 => Vo f ρ3 τ (fun vs H Q => ∀ a, vs = [a] → r a lo hi H Q) [c] fun c ρ4 => ∃ x, c = .t x ∧ Φ (.t (.d x.data)) ρ4) : Ev f true ρ τ (tSl r te tl th) Φ := ev_fzT (ev_sl q)
end
/-! ### a def that takes strokes out of two lists of its caller -/
def giveTo (l : List Int) (i : Nat) (c : Int) : List Int := l.set i (l.getD i 0 - c)
def spTk (K : PySem.W.Frag) : Sp := fun vs H Q _ => ∃ (a b t : Addr) (ls bs : List Int) (p x : Nat) (c : Int), vs = [.ref a, .ref b, .ref t] ∧ a ≠ b ∧ H a = some (.lst (ls.map V.int)) ∧ H b = some (.lst (bs.map V.int)) ∧ SqT K H t [.int (p : Int), .int (x : Int), .int c] ∧ p < ls.length ∧ x < bs.length ∧
  Q .non (upd (upd H a (.lst ((giveTo ls p c).map V.int))) b (.lst ((giveTo bs x c).map V.int)))
theorem sqT_put {K : PySem.W.Frag} {H : Hp} {t a : Addr} {vs xs ys : List V} (h : SqT K H t vs) (e : H a = some (.lst xs)) : SqT K (upd H a (.lst ys)) t vs := by
  rcases h with (h | ⟨o, h⟩) | h
  · exact .inl (.inl (at_upd (fun z => by rw [z, e] at h; cases h) h))
  · exact .inl (.inr ⟨o, at_upd (fun z => by rw [z, e] at h; cases h) h⟩)
  · exact .inr h
theorem Own.row {A : Addr → Prop} {K : PySem.W.Frag} {H : Hp} {v : V} {ns : List Int} {F : List Addr} (h : Own A K H v (T.row (ns.map .int)) F) : ∃ a, v = .ref a ∧ H a = some (.lst (ns.map V.int)) ∧ a ∈ F := by
  cases h with
  | lst e r n =>
    have := OwnL.ds r
    rw [DtL.ints this] at e
    exact ⟨_, rfl, e, List.mem_cons_self⟩
theorem put_ints {ns : List Int} {p : Nat} {x : Int} : ((ns.map D.int).map T.d).set p (.d (.int x)) = ((ns.set p x).map D.int).map T.d := by rw [List.map_set, List.map_set]
section
variable {f : Fr} {ρ ρ2 ρ3 : List Cell} {i j : Nat} {Dn : Pn} {E : XK} {t3 : TE}
theorem es_take2 (ok : f.Ok) (ne : i ≠ j) {ls bs : List Int} (e1 : CAt ρ i (.t (.row (ls.map .int)))) (e2 : CAt ρ j (.t (.row (bs.map .int)))) (np : noP ρ = true)
    (q : Ev f false ρ [.pl i [], .pl j []] t3 fun c ρ1 => ρ1 = ρ ∧ ∃ (p x : Nat) (n : Int), Leaf ρ c (.tup [.int (p : Int), .int (x : Int), .int n]) ∧ p < ls.length ∧ x < bs.length ∧ ∃ ρ2 ρ3, CSet ρ i (.t (.row ((giveTo ls p n).map .int))) ρ2 ∧ CSet ρ2 j (.t (.row ((giveTo bs x n).map .int))) ρ3 ∧ Dn.nx ρ3) :
    Es f ρ (tDrop (tCall (spTk f.K) [] E (tCons (tVar i) (tCons (tVar j) (tCons t3 tNil))))) Dn := fun φ us σ H E' W k1 _ _ _ => by
  obtain ⟨v1, y1, W1⟩ := W.place e1.eq rfl
  obtain ⟨v2, y2, W2⟩ := W1.place e2.eq rfl
  refine x_call ⟨v1, y1, v2, y2, ?_⟩
  refine q φ us σ _ H _ W2 fun c ρ1 v3 H3 ⟨er, p, x, n, lf, hp, hx, ρ2, ρ3, s1, s2, q1⟩ W3 => ?_
  subst er
  have W3 : Wd f φ us ρ1 [.pl i [], .pl j [], c] σ [some v1, some v2, some v3] H3 := W3
  obtain ⟨u1, x1, s1', w1, z1, z2, z3, z4, z5, z6⟩ := W3.plc (k := 0) rfl
  cases z1
  obtain rfl : w1 = v1 := z6
  obtain ⟨u2, x2, s2', w2, y1', y2', y3', y4', y5', y6'⟩ := W3.plc (k := 1) rfl
  cases y1'
  obtain rfl : w2 = v2 := y6'
  obtain ⟨A, hd, mk⟩ := Wd.items (cs := [c]) (vs := [v3]) (τ := [.pl i [], .pl j []]) (ws := [some w1, some w2]) W3 rfl rfl (.cons lf .nil)
  cases hd with
  | cons h1 tl =>
  cases tl
  obtain ⟨ta, xs, rfl, st, rx⟩ := h1
  have ex : xs = [.int (p : Int), .int (x : Int), .int n] := DtL.ints (ns := [(p : Int), (x : Int), n]) rx
  subst ex
  obtain ⟨g, R⟩ := W3.rep
  obtain ⟨q1v, F1, r1, r2, r3⟩ := R.tcell (at3 e1.eq)
  rw [at3 z5] at r1
  cases r1
  obtain ⟨q2v, F2, t1, t2, t3'⟩ := R.tcell (at3 e2.eq)
  rw [at3 y5'] at t1
  cases t1
  obtain ⟨a, rfl, ha, fa⟩ := r2.row
  obtain ⟨b, rfl, hb, fb⟩ := t2.row
  have ab : a ≠ b := fun z => by
    have h1 := r3 a fa
    have h2 := t3' b fb
    rw [z] at h1
    omega
  have W4 : Wd f φ us ρ1 [] σ [] H3 := W3.pop (τ := []) (ws := []) rfl
  have W5 := W4.scal (v := .int (ls.getD p 0 - n)) (d := .int (ls.getD p 0 - n)) fun _ _ => .int _
  obtain ⟨vs1, k1', k2', W6⟩ := Wd.mut (τ := []) (ws := []) (mid := []) (mu := []) (i := i) (p := []) ok W5 rfl rfl (noP_ok np) (fun _ z => nomatch z) e1.eq rfl z5 rfl (LOp.set (k := p))
  rw [ha] at k1'
  cases k1'
  have c1 : (T.row (ls.map .int)).put [] (.lst (((ls.map D.int).map T.d).set p (.d (.int (ls.getD p 0 - n))))) = T.row ((giveTo ls p n).map .int) := by
    rw [put_ints]
    rfl
  rw [c1, s1.eq] at W6
  have W7 := W6.scal (v := .int (bs.getD x 0 - n)) (d := .int (bs.getD x 0 - n)) fun _ _ => .int _
  have e2' : ρ2[j]? = some (.t (.row (bs.map .int))) := by
    rw [← s1.eq, List.getElem?_set, if_neg ne]
    exact e2.eq
  have np2 : noPl j ρ2 := fun d hd j' p' ed => by
    rw [← s1.eq] at hd
    rcases List.mem_or_eq_of_mem_set hd with hd | hd
    · exact noP_ok np d hd j' p' ed
    · rw [ed] at hd
      cases hd
  obtain ⟨vs2, k3', k4', W8⟩ := Wd.mut (τ := []) (ws := []) (mid := []) (mu := []) (i := j) (p := []) ok W7 rfl rfl np2 (fun _ z => nomatch z) e2' rfl y5' rfl (LOp.set (k := x))
  rw [at_upd (Ne.symm ab) hb] at k3'
  cases k3'
  have c2 : (T.row (bs.map .int)).put [] (.lst (((bs.map D.int).map T.d).set x (.d (.int (bs.getD x 0 - n))))) = T.row ((giveTo bs x n).map .int) := by
    rw [put_ints]
    rfl
  rw [c2, s2.eq] at W8
  refine ⟨a, b, ta, ls, bs, p, x, n, rfl, ab, ha, hb, st, hp, hx, ?_⟩
  have f1 : (ls.map V.int).set p (.int (ls.getD p 0 - n)) = (giveTo ls p n).map V.int := by rw [giveTo, List.map_set]
  have f2 : (bs.map V.int).set x (.int (bs.getD x 0 - n)) = (giveTo bs x n).map V.int := by rw [giveTo, List.map_set]
  rw [f1, f2] at W8
  exact k1 _ _ _ q1 W8
end
end LN
namespace LN
open PySem PySem.Spec PyProof.Rows L2 L2H
/-! ### in a try body: an instance is made, a method called -/
def tMakeW (C : Addr) (sp : Sp) (W : WX) (t : TA) : TE := fun σ H Q => t σ H fun vs H1 => ∀ x dx, H1 x = none → H1 dx = none → dx ≠ x → sp (.ref x :: vs) (upd (upd H1 dx (.own x)) x (.ins C dx [])) (fun v H2 => v = .non ∧ Q (.ref x) H2) fun cls d H' => W cls d σ H'
def tMethW (C : Addr) (m : Str) (sp : Sp) (W : WX) (ta : TE) (t : TA) : TE := fun σ H Q => ta σ H fun x H1 => ∃ a dx fs, x = .ref a ∧ H1 a = some (.ins C dx fs) ∧ fs.lookup m = none ∧ t σ H1 fun vs H2 => sp (x :: vs) H2 Q fun cls d H' => W cls d σ H'
section
variable {X : Cx} {k : Nat} {f C : Addr} {fd : FuncData} {ps : List Str} {sp : Sp} {W : WX} {x m : Str} {p pos apos : Pos} {e o : Expr} {es : List Expr} {ta : TE} {t : TA}
theorem run_makeS {pins : List (Addr × Obj)} {σ : St} {H : Hp} {s : Shared} {Q : VK} {us : List Value} {vs : List V} {E : XK} (M : Mk X.K C f) (F : FnOk X.prog X.w X.K X.mg X.base (L2.CX X.prog X.w) k f fd ps sp) (hr : Room (k + 1) X.A) (hb : Binds X.K fd ps [])
    (hx : PassesAt (L2.CX X.prog X.w) X σ E) (I : Inv X pins σ H s) (r : Vals vs us)
    (h : ∀ x dx, H x = none → H dx = none → dx ≠ x → sp (.ref x :: vs) (upd (upd H dx (.own x)) x (.ins C dx [])) (fun v H2 => v = .non ∧ Q (.ref x) H2) E) :
    wpAny (model X.prog X.w) X.A (call (.ref C) us) (EP X pins σ Q) X.xe s := by
  have hq := h (s.heap.objs.size + 1) s.heap.objs.size (I.hok.fresh (Nat.le_succ _)) (I.hok.fresh (Nat.le_refl _)) (Nat.ne_of_lt (Nat.lt_succ_self _))
  have I2 := Inv.made (C := C) I
  have r2 : Vals (V.ref (s.heap.objs.size + 1) :: vs) (Value.ref (s.heap.objs.size + 1) :: us) := .cons rfl r
  have hl : (Value.ref (s.heap.objs.size + 1) :: us).length = ps.length := by
    have e := r2.length
    rw [F.len _ _ _ _ hq] at e
    exact e.symm
  have b := hb _ (Value.ref (s.heap.objs.size + 1) :: us) I2.kIn (by rw [List.append_nil]; exact hl)
  rw [List.append_nil] at b
  refine wpAny_call (make_map (f := f) I.kIn M.makes M.init (beq_iff_eq.mp M.fn) (codeAny_mono (F.run _ X.stack _ _ ⟨Value.ref (s.heap.objs.size + 1) :: us, []⟩ (Value.ref (s.heap.objs.size + 1) :: us) _ _ E (hr.make C us [])
    (I2.env0.make C us []) b r2 hq) fun r s' hq' => ?_))
  cases r with
  | error e => exact hx pins _ _ e s' I2 hq'
  | ok fl =>
    cases fl with
    | ret u =>
      obtain ⟨v, H', I3, rv, ev, q3⟩ := I2.after hq'
      subst ev
      exact ⟨rv, ⟨V.ref (s.heap.objs.size + 1), H', I3, rfl, q3⟩⟩
    | next => exact False.elim hq'
    | brk => exact False.elim hq'
    | cont => exact False.elim hq'
theorem pe_makeW (D : MakeAt X.prog X.w X.K X.mg X.base (L2.CX X.prog X.w) k x C ps sp) (hr : Room (k + 1) X.A) (tk : Takes X W) (ha : PA X (e :: es) t) (hg : Gl X x := by rfl) (hdb : (x == ("__debug__" : Str)) = false := by decide)
    (he : starEach (e :: es) X.env = (false, eval e X.env) :: starEach es X.env := by rfl) (hpl : (backTo pos (starEach es X.env)).any (·.1) = false := by rfl) : PE X (.Call (.Name x p) (e :: es) [] pos) (tMakeW C sp W t) := by
  obtain ⟨hm, g, fd, M, hb, F⟩ := D
  refine ⟨fun pins s σ H Q I h => ?_⟩
  refine wpAny_Call_Name_kw (ld_glob I hg hm ?_ hdb)
  refine PySem.W.callWith_K (h₀ := X.base) I.ok.mod.kin M.kp (thn (ha.run pos pins s σ H _ I h) fun us s1 ⟨vs, H1, I1, r, q⟩ => ⟨I1.kIn, ?_⟩) he hpl
  exact run_makeS M F hr hb (passAt tk σ) I1 r q
theorem pe_methW {pl : Sem Bool} (D : MethAt X.prog X.w X.K X.mg X.base (L2.CX X.prog X.w) k C m ps [] sp) (hr : Room k X.A) (tk : Takes X W) (he : PE X o ta) (ha : PA X (e :: es) t)
    (hst : starEach (e :: es) X.env = (false, eval e X.env) :: starEach es X.env := by rfl) (hpl : (backTo pos (starEach es X.env)).any (·.1) = false := by rfl)
    (ht : eval (.Call (.Attribute o m apos) (e :: es) [] pos) X.env = (do
      let ov ← eval o X.env
      standAt apos.atName
      let (f, first) ← holding [ov] (getMethod ov m pl)
      callWith pos f first (backTo pos (starEach (e :: es) X.env)) (backToKw pos (keywordEach [] X.env))) := by rfl) :
    PE X (.Call (.Attribute o m apos) (e :: es) [] pos) (tMethW C m sp W ta t) := by
  obtain ⟨c, f, fd, ds, hm, hb, hd, F⟩ := D
  cases hd
  refine ⟨fun pins s σ H Q I h => ?_⟩
  refine PySem.W.methodCall_KW (pl := pl) (thn (he.run pins s σ H _ I h) fun u s1 ⟨x, H1, I1, rx, a, dx, fs, ex, ea, l, q⟩ => ?_) ht
  subst ex
  obtain rfl : u = Value.ref a := rx
  refine getmeth_ok I1 ea c hm l ?_
  refine PySem.W.callWith_K (first := [.ref a]) (h₀ := X.base) I.ok.mod.kin hm.kp (thn (ha.run pos pins s1 σ H1 _ I1 q) fun us s2 ⟨vs, H2, I2, r, q2⟩ => ⟨I2.kIn, ?_⟩) hst hpl
  exact run_fnS (E := WE W) (us := .ref a :: us) (vs := .ref a :: vs) F hr hb (passAt tk σ) I2 (.cons rfl r) q2
end
section
variable {f : Fr} {m : Bool} {φ ρ ρ' ρ1 τ : List Cell} {us ws : List (Option V)} {σ : St} {H H' : Hp} {Φ : Cell → List Cell → Prop} {te ta : TE} {tr : TA} {Dn : Pn} {E : XK} {α : Type} {enc : α → List D} {pre : α → Prop} {exc : α → Addr → List (Str × V) → Prop} {C : Addr}
theorem ev_makeW (ok : f.Ok) {post : α → List (Str × D) → Prop} (q : EvA f true ρ τ tr fun cs ρ1 => ∃ ds, FzL cs (enc ds) ∧ pre ds ∧ (∀ fs, post ds fs → Φ (.t (.d (.obj C fs))) ρ1) ∧ ∀ C' fs, exc ds C' fs → f.xc C' fs ρ1) : Ev f m ρ τ (tMakeW C (PFI f.K C enc pre post exc) f.W tr) Φ := fun φ us σ ws H Q W k => by
  refine q φ us σ ws H _ W fun cs ρ1 vs H1 l ⟨ds, lk, hp, q1, q2⟩ W1 => ?_
  obtain ⟨A, hd, nM, mk⟩ := W1.shares W.l4 lk
  intro x dx fx fdx ne
  have k1 : Kp [] H1 (upd (upd H1 dx (.own x)) x (.ins C dx [])) := (Kp.new fdx).mut fx
  have nA : ∀ b, live H1 b → b ≠ x ∧ b ≠ dx := fun b ⟨o, e⟩ => ⟨fun z => (by rw [z, fx] at e; cases e), fun z => (by rw [z, fdx] at e; cases e)⟩
  refine ⟨x, dx, vs, fun b => A b ∧ b ≠ x ∧ b ≠ dx, ds, rfl, Ne.symm ne, upd_same, at_upd ne upd_same, fun b z => z.2, hd.kp k1 fun b z lv => ⟨nil_mem, z, nA b lv⟩, hp, fun fs vs' H' hpo kk e1 e2 r => ⟨rfl, ?_⟩, fun C' fs H' z kk => ?_⟩
  · have kk' : Kp [] H1 H' := fun b o _ e => kk b o (by have := nA b ⟨o, e⟩; simp [this.1, this.2]) (k1 b o nil_mem e)
    have W2 := W1.pop W.l4
    obtain ⟨s, ml⟩ := W2.ok0 ok kk'
    have fr : ∀ b, (upd (upd H1 dx (.own x)) x (.ins C dx [])) b = none → H1 b = none := fun b z => k1.free nil_mem z
    exact k _ _ _ _ (q1 fs hpo) (mk _ _ [] H' kk'.any s ml (fun _ z => nomatch z) (.d (.obj ⟨.inr fx, nil_mem⟩ ⟨.inr fdx, nil_mem⟩ e1 e2 (r.mono fun b z _ => ⟨.inr (fr b z.1), nil_mem⟩))))
  · have kk' : Kp [] H1 H' := fun b o _ e => kk b o (by have := nA b ⟨o, e⟩; simp [this.1, this.2]) (k1 b o nil_mem e)
    have W2 := (W1.pop W.l4).pop (τ := []) (ws := []) (cs := τ) (vs := ws) rfl
    obtain ⟨s, ml⟩ := W2.ok0 ok kk'
    exact W2.lk_ C' fs ρ1 σ H' (q2 C' fs z) (W2.step kk'.any s ml).toX
theorem ev_makeNW (_ : MkN) (ok : f.Ok) {post : α → List (Str × D) → Prop} (q : EvA f false ρ τ tr fun cs ρ1 => ∃ ds, LkL ρ1 cs (enc ds) ∧ pre ds ∧ (∀ fs, post ds fs → Φ (.t (.d (.obj C fs))) ρ1) ∧ ∀ C' fs, exc ds C' fs → f.xc C' fs ρ1) : Ev f m ρ τ (tMakeW C (PFI f.K C enc pre post exc) f.W tr) Φ := fun φ us σ ws H Q W k => by
  refine q φ us σ ws H _ W fun cs ρ1 vs H1 l ⟨ds, lk, hp, q1, q2⟩ W1 => ?_
  have hd := W1.args W.l4 l lk
  intro x dx fx fdx ne
  have k1 : Kp [] H1 (upd (upd H1 dx (.own x)) x (.ins C dx [])) := (Kp.new fdx).mut fx
  have nA : ∀ b, live H1 b → b ≠ x ∧ b ≠ dx := fun b ⟨o, e⟩ => ⟨fun z => (by rw [z, fx] at e; cases e), fun z => (by rw [z, fdx] at e; cases e)⟩
  refine ⟨x, dx, vs, fun b => b ≠ x ∧ b ≠ dx, ds, rfl, Ne.symm ne, upd_same, at_upd ne upd_same, fun b z => z, hd.kp k1 fun b z lv => ⟨nil_mem, nA b lv⟩, hp, fun fs vs' H' hpo kk e1 e2 r => ⟨rfl, ?_⟩, fun C' fs H' z kk => ?_⟩
  · have kk' : Kp [] H1 H' := fun b o _ e => kk b o (by have := nA b ⟨o, e⟩; simp [this.1, this.2]) (k1 b o nil_mem e)
    have W2 := W1.pop W.l4
    obtain ⟨s, ml⟩ := W2.ok0 ok kk'
    have fr : ∀ b, (upd (upd H1 dx (.own x)) x (.ins C dx [])) b = none → H1 b = none := fun b z => k1.free nil_mem z
    exact k _ _ _ _ (q1 fs hpo) (W2.res kk'.any s ml (F := []) (fun _ z => nomatch z) (.d (.obj ⟨fx, nil_mem⟩ ⟨fdx, nil_mem⟩ e1 e2 (r.mono fun b z _ => ⟨fr b z.1, nil_mem⟩))))
  · have kk' : Kp [] H1 H' := fun b o _ e => kk b o (by have := nA b ⟨o, e⟩; simp [this.1, this.2]) (k1 b o nil_mem e)
    have W2 := (W1.pop W.l4).pop (τ := []) (ws := []) (cs := τ) (vs := ws) rfl
    obtain ⟨s, ml⟩ := W2.ok0 ok kk'
    exact W2.lk_ C' fs ρ1 σ H' (q2 C' fs z) (W2.step kk'.any s ml).toX
theorem ev_methAW (ok : f.Ok) {post : α → T → Prop} {mn : Str} (q : Ev f true ρ τ ta fun c ρ1 => ∃ fs, c = .t (.d (.obj C fs)) ∧ fs.lookup mn = none ∧ EvA f true ρ1 (τ ++ [c]) tr fun cs ρ2 => ∃ ds ds', FzL cs ds' ∧ enc ds = .obj C fs :: ds' ∧ pre ds ∧ (∀ r, post ds r → Φ (.t r) ρ2) ∧ ∀ C' fs, exc ds C' fs → f.xc C' fs ρ2) : Ev f m ρ τ (tMethW C mn (PFXA f.K enc pre post exc) f.W ta tr) Φ := fun φ us σ ws H Q W k => by
  refine q φ us σ ws H _ W fun c ρ1 v H1 ⟨fs, ec, hl, q1⟩ W1 => ?_
  subst ec
  obtain ⟨A0, hd0, _⟩ := Wd.items (cs := [.t (.d (.obj C fs))]) (vs := [v]) W1 W.l4 rfl (.cons .fz .nil)
  cases hd0 with
  | cons h1 t =>
    cases t
    cases (show Dt A0 f.K H1 v (.obj C fs) from h1) with
    | @obj a dx _ vs0 _ a1 a2 e1 e2 r =>
      refine ⟨_, _, _, rfl, e1, r.none hl, q1 φ us σ _ H1 _ W1 fun cs ρ2 vs H2 l ⟨ds, ds', lk, ee, hp, q2, q3⟩ W2 => ?_⟩
      have W3 : Wd f φ us ρ2 (τ ++ (.t (.d (.obj C fs)) :: cs)) σ (ws ++ (V.ref a :: vs).map some) H2 := by
        rw [List.append_assoc, List.append_assoc] at W2
        exact W2
      obtain ⟨A, hd, nM, mk⟩ := W3.shares W.l4 (.cons lk)
      refine ⟨A, ds, by rw [ee]; exact hd, hp, fun r v H' F z kk hF o => ?_, fun C' fs H' z kk => ?_⟩
      · have W4 := W3.pop W.l4
        obtain ⟨s, ml⟩ := W4.ok0 ok kk
        exact k _ _ _ _ (q2 r z) (mk r v F H' kk.any s ml hF o)
      · have W4 := (W3.pop W.l4).pop (τ := []) (ws := []) (cs := τ) (vs := ws) rfl
        obtain ⟨s, ml⟩ := W4.ok0 ok kk
        exact W4.lk_ C' fs ρ2 σ H' (q3 C' fs z) (W4.step kk.any s ml).toX
/-- f(b = .., a = ..), two parameters, in a try body -/
theorem ev_callKW (ok : f.Ok) {post : α → T → Prop} (q : EvA f false ρ τ tr fun cs ρ1 => ∃ c1 c2 ds, cs = [c1, c2] ∧ LkL ρ1 [c2, c1] (enc ds) ∧ pre ds ∧ (∀ r, post ds r → Φ (.t r) ρ1) ∧ ∀ C fs, exc ds C fs → f.xc C fs ρ1) : Ev f m ρ τ (tCallKW (PFX f.K enc pre post exc) gVK f.W tr) Φ := fun φ us σ ws H Q W k => by
  refine x_callKW (q φ us σ ws H _ W fun cs ρ1 vs H1 l ⟨c1, c2, ds, ec, lk, hp, q1, q2⟩ W1 => ?_)
  subst ec
  match vs, l with
  | [v1, v2], _ =>
  have a1 : DtL (fun a => a ∉ f.M) f.K H1 [v2, v1] (enc ds) := by
    generalize enc ds = es at lk
    cases lk with
    | cons l2 t =>
      cases t with
      | cons l1 t =>
        cases t
        have := W1.args W.l4 rfl (.cons l1 (.cons l2 .nil))
        cases this with
        | cons r1 t =>
          cases t with
          | cons r2 t => exact .cons r2 (.cons r1 .nil)
  refine ⟨ds, a1.mono fun _ _ _ => trivial, hp, fun r v H' F z kk hF o => ?_, fun C fs H' z kk => ?_⟩
  · have W2 := W1.pop W.l4
    obtain ⟨s, ml⟩ := W2.ok0 ok kk
    exact k _ _ _ _ (q1 r z) (W2.res kk.any s ml hF (o.mono fun _ z _ => z.elim))
  · have W2 := (W1.pop W.l4).pop (τ := []) (ws := []) (cs := τ) (vs := ws) rfl
    obtain ⟨s, ml⟩ := W2.ok0 ok kk
    exact W2.lk_ C fs ρ1 σ H' (q2 C fs z) (W2.step kk.any s ml).toX
end
section
variable {f : Fr} {ρ ρ1 : List Cell} {c : Cell} {Ψ : List Cell → Prop}
/-- a, (b, c) = .. -/
theorem eg_tup12 {n1 n2 n3 kk k2 : Nat} {d1 d2 d3 : D} {ρ2 ρ3 : List Cell} (hk : kk = 2) (hk2 : k2 = 2) (n : noP ρ = true) (lf : Leaf ρ c (.tup [d1, .tup [d2, d3]])) (s1 : CSet ρ n1 (.t (.d d1)) ρ1) (n' : noP ρ1 = true) (s2 : CSet ρ1 n2 (.t (.d d2)) ρ2) (n'' : noP ρ2 = true) (s3 : CSet ρ2 n3 (.t (.d d3)) ρ3) (q : Ψ ρ3) : Eg f ρ c (gTup f.K kk (gCons (gName n1) (gCons (gTup f.K k2 (gCons (gName n2) (gCons (gName n3) gNil))) gNil))) Ψ := fun φ us σ H v qs W k => by
  subst hk hk2
  obtain ⟨A, hd, mk⟩ := Wd.items (cs := [c]) (vs := [v]) (τ := []) (ws := []) W rfl rfl (.cons lf .nil)
  cases hd with
  | cons h1 t =>
    cases t
    obtain ⟨a, xs, rfl, e1, r⟩ := h1
    cases r with
    | cons r1 r =>
      cases r with
      | cons r2 r =>
        cases r
        obtain ⟨b, ys, rfl, e2, r'⟩ := r2.n
        cases r' with
        | cons r3 r' =>
          cases r' with
          | cons r4 r' =>
            cases r'
            rename_i v1 v2 v3
            refine ⟨a, [v1, .ref b], rfl, e1, rfl, v1, [.ref b], rfl, .ref b, [], rfl, b, [v2, v3], rfl, e2, rfl, v2, [v3], rfl, v3, [], rfl, rfl, rfl, ?_⟩
            have W1 := mk.many [v3, v2, v1] [d3, d2, d1] (.cons r4 (.cons r3 (.cons r1 .nil)))
            have W2 := Wd.set (τ := [.t (.d d3), .t (.d d2)]) (ws := [some v3, some v2]) (x := .d d1) (v := v1) W1 rfl s1.lt (noP_ok n) (noP_ok rfl)
            rw [s1.eq] at W2
            have W3 := Wd.set (τ := [.t (.d d3)]) (ws := [some v3]) (x := .d d2) (v := v2) W2 rfl s2.lt (noP_ok n') (noP_ok rfl)
            rw [s2.eq] at W3
            have W4 := Wd.set (τ := []) (ws := []) (x := .d d3) (v := v3) W3 rfl s3.lt (noP_ok n'') (fun _ z => nomatch z)
            rw [s3.eq] at W4
            exact k _ _ _ q W4
end
end LN
namespace LN
open PySem PySem.Spec PyProof.Rows L2 L2H
/-! ### a raising def whose answer may share with its arguments -/
section
variable {P : Program} {w : World} {K : PySem.W.Frag} {mg : Str → Option Value} {base : Heap} {k : Nat} {x : Str} {ps N : List Str} {st : Stmt} {α : Type} {enc : α → List D} {pre : α → Prop} {post : α → T → Prop} {exc : α → Addr → List (Str × V) → Prop}
theorem DefAt.pfxa (h : DefAt K mg x ps st) (S : FnScope N ps (defScope st)) (len : ∀ ds, pre ds → (enc ds).length = ps.length)
    (hb : ∀ (cdv : Value) (f : Addr) (A : Around) (outer : List Env) (s : Shared) (H : Hp) (E : XK), Room k (A.deeper (envOfC x (defScope st) s.heap.objs.size f cdv)) →
      ∃ t, PSs (cxOf (L2.CX P w) P w K mg base N x (defScope st) f cdv A outer s H E) (defBody st) t ∧ ∀ ds, pre ds → ∀ B, Es (frX K B H N.length (fun cls d _ H' => E cls d H') fun C fs _ => exc ds C fs) (startC N (enc ds)) t (fin (post ds))) (hN : ps.length ≤ N.length := by decide) : Okk P w K mg base (L2.CX P w) (k + 1) x ps (PFXA K enc pre post exc) := by
  refine h.okX S (fun vs H Q E ⟨B, ds, hd, hp, _⟩ => hd.length.trans (len ds hp)) fun cdv f A outer s H vs Q E hr ⟨B, ds, hd, hp, q, qx⟩ => ?_
  obtain ⟨t, h1, h2⟩ := hb cdv f A outer s H E hr
  refine ⟨t, h1, _, startS_ok (by rw [hd.length, len ds hp]; exact hN), h2 ds hp B [] [] _ _ _ (Wd.initX hd fun C fs ρ σ H' z W => ?_) (fun ρ' σ' H' z W => ?_) (fun _ _ _ z => z.elim) (fun _ _ _ z => z.elim) fun c ρ' v σ' H' ⟨r, ec, z⟩ W => ?_⟩
  · obtain ⟨g, R⟩ := W.rep
    exact qx C fs H' z R.kp
  · exact q _ _ _ [] z W.kp0.1 (fun _ z => nomatch z) (.d .non)
  · subst ec
    obtain ⟨F, hF, o⟩ := W.last
    exact q _ _ _ F z (W.kp0.1) hF o
end
section
variable {f : Fr} {m : Bool} {φ ρ ρ1 τ : List Cell} {us ws : List (Option V)} {σ : St} {H H' : Hp} {Φ : Cell → List Cell → Prop} {tr : TA} {E : XK} {α : Type} {enc : α → List D} {pre : α → Prop} {post : α → T → Prop} {exc : α → Addr → List (Str × V) → Prop}
/-- called in a try body -/
theorem ev_callAW (ok : f.Ok) (q : EvA f true ρ τ tr fun cs ρ1 => ∃ ds, FzL cs (enc ds) ∧ pre ds ∧ (∀ r, post ds r → Φ (.t r) ρ1) ∧ ∀ C fs, exc ds C fs → f.xc C fs ρ1) : Ev f m ρ τ (tCallW (PFXA f.K enc pre post exc) f.W tr) Φ := fun φ us σ ws H Q W k => by
  refine x_callW (q φ us σ ws H _ W fun cs ρ1 vs H1 l ⟨ds, lk, hp, q1, q2⟩ W1 => ?_)
  obtain ⟨A, hd, nM, mk⟩ := W1.shares W.l4 lk
  refine ⟨A, ds, hd, hp, fun r v H' F z kk hF o => ?_, fun C fs H' z kk => ?_⟩
  · have W4 := W1.pop W.l4
    obtain ⟨s, ml⟩ := W4.ok0 ok kk
    exact k _ _ _ _ (q1 r z) (mk r v F H' kk.any s ml hF o)
  · have W4 := (W1.pop W.l4).pop (τ := []) (ws := []) (cs := τ) (vs := ws) rfl
    obtain ⟨s, ml⟩ := W4.ok0 ok kk
    exact W4.lk_ C fs ρ1 σ H' (q2 C fs z) (W4.step kk.any s ml).toX
/-- called where errors pass on -/
theorem ev_callAX (ok : f.Ok) (hE : (fun cls d (_ : St) H => E cls d H) = f.W) (q : EvA f true ρ τ tr fun cs ρ1 => ∃ ds, FzL cs (enc ds) ∧ pre ds ∧ (∀ r, post ds r → Φ (.t r) ρ1) ∧ ∀ C fs, exc ds C fs → f.xc C fs ρ1) : Ev f m ρ τ (tCall (PFXA f.K enc pre post exc) [] E tr) Φ := fun φ us σ ws H Q W k => by
  refine x_call (q φ us σ ws H _ W fun cs ρ1 vs H1 l ⟨ds, lk, hp, q1, q2⟩ W1 => ?_)
  obtain ⟨A, hd, nM, mk⟩ := W1.shares W.l4 lk
  refine ⟨A, ds, hd, hp, fun r v H' F z kk hF o => ?_, fun C fs H' z kk => ?_⟩
  · have W4 := W1.pop W.l4
    obtain ⟨s, ml⟩ := W4.ok0 ok kk
    exact k _ _ _ _ (q1 r z) (mk r v F H' kk.any s ml hF o)
  · have W4 := (W1.pop W.l4).pop (τ := []) (ws := []) (cs := τ) (vs := ws) rfl
    obtain ⟨s, ml⟩ := W4.ok0 ok kk
    have h := W4.lk_ C fs ρ1 σ H' (q2 C fs z) (W4.step kk.any s ml).toX
    rw [← hE] at h
    exact h
end
section
variable {f : Fr} {ρ τ : List Cell} {H : Hp} {Φ : Cell → List Cell → Prop} {ta : TE} {E : XK} {α : Type} {enc : α → List D} {pre : α → Prop} {post : α → T → Prop} {C : Addr}
/-- a property's answer is frozen at once -/
theorem ev_propF (_ : FzA) (ok : f.Ok) (q : Ev f false ρ τ ta fun c ρ1 => ∃ ds fs, enc ds = [.obj C fs] ∧ c = .t (.d (.obj C fs)) ∧ pre ds ∧ ∀ r, post ds r → Φ (.t (.d r.data)) ρ1) : Ev f true ρ τ (tProp C (PF f.K enc pre post) [] E ta) Φ :=
  ev_fzT (ev_prop ok fun φ us σ ws H Q W k => q φ us σ ws H Q W fun c ρ1 v H1 ⟨ds, fs, a, b, p, e⟩ W1 => k c ρ1 v H1 ⟨ds, fs, a, b, p, fun r z => ⟨r, rfl, e r z⟩⟩ W1)
end
end LN
namespace LN
open PySem PySem.Spec PyProof.Rows L2 L2H
/-! ### ==, != and in by a class's own __eq__, __contains__ -/
section
variable {M : Model} {prog : Program} {w : World} {A : Around} {E : Value → Shared → Prop} {s : Shared} {K : PySem.W.Frag} {x C f L : Addr} {ox : Obj} {od : Option Obj} {h₀ : Heap} {m : Str → Option Value} {b tb : Value}
theorem ifBound_objNe {args : List Value} {Q : Option Value → Shared → Prop} (X : K.In s.heap) (I : PySem.W.InstAt s.heap x ox C od) (hs : PySem.W.findIn K (.ref C) "__ne__" = some (some (.builtin "object.__ne__")))
    (h : wpAny M A (call (.builtin "object.__ne__") (.ref x :: args)) (fun v => Q (some v)) E s) : wpAny M A (callSpecialIfBound? (.ref x) "__ne__" args) Q E s := by
  simp only [callSpecialIfBound?, bindSpecialIfBound?]
  refine wpAny_holding (wpAny_bind (wpAny_bind (wpAny_bind (I.type.here ((PySem.W.looks_findIn X hs).here ?_)))))
  refine wpAny_bind (wpAny_askSetting (wpAny_ite ?_))
  have fin : wpAny M A (call (.builtin "object.__ne__") ([.ref x] ++ args) >>= fun v => pure (some v)) Q E s := wpAny_bind (wpAny_mono h (fun v s' h' => wpAny_pure h') fun _ _ h' => h')
  split
  · exact wpAny_bind (wpAny_of_eq (F.cmp_object.ne.bind _) (wpAny_pure (by exact fin)))
  · exact wpAny_tryCatch (wpAny_bind (wpAny_of_eq (F.cmp_object.ne.bind _) (wpAny_pure (by exact fin))))
theorem entry_objNe (X : K.In s.heap) (I : PySem.W.InstAt s.heap x ox C od) (hs : PySem.W.findIn K (.ref C) "__eq__" = some (some (.ref f))) (hf : PySem.W.isFn K (.ref f) = true) (hu : A.units < cLine) {Q : Fin → Shared → Prop}
    (hcall : wpAny (model prog w) A (call (.ref f) [.ref x, b]) (fun v s' => ∃ r, v = .bool r ∧ Q (.done (.ret (.bool (!r)))) s') E s) :
    wpAny (model prog w) A (Builtin.«object.__ne__» ⟨[.ref x, b], []⟩) Q E s := by
  unfold Builtin.«object.__ne__»
  repeat (first
    | with_reducible refine wpAny_cRoomFor hu ?_
    | (refine wpAny_bind (m := callSpecialIfBound? (.ref x) (Str.ofString "__eq__") [b])
        (PySem.W.ifBound_K X I hs hf (wpAny_mono hcall (fun r s' hr => by
          obtain ⟨r, rfl, hq⟩ := hr
          repeat (first | exact hq | exact wpAny_pure hq | exact wpAny_truthy_bool hq | (refine wpAny_bind (m := truthy (.bool _)) (wpAny_truthy_bool ?_)) | wp_step)) fun _ _ e => e)))
    | wp_step)
theorem call_objNe {Q : Value → Shared → Prop} (X : K.In s.heap) (I : PySem.W.InstAt s.heap x ox C od) (hm : PySem.W.mroIn K C (.type "object") = some true) (hs : PySem.W.findIn K (.ref C) "__eq__" = some (some (.ref f))) (hf : PySem.W.isFn K (.ref f) = true) (hu : A.units + 1 < cLine)
    (hcall : wpAny (model prog w) A.in1 (call (.ref f) [.ref x, b]) (fun v s' => ∃ r, v = .bool r ∧ Q (.bool (!r)) s') E s) :
    wpAny (model prog w) A (call (.builtin "object.__ne__") [.ref x, b]) Q E s :=
  wpAny_call (codeAny_call_builtin F.cmp_object.ne.plain F.cmpEntry_ne (PySem.W.check_slot F.cmpKind_ne F.cmpSplit_ne (I.type.andThen (PySem.W.looks_mroIn X hm)) (F.cmpArgs_ne _ _)
    (entry_objNe (A := A.in1) X I hs hf hu (wpAny_mono hcall (fun v s' hv => by obtain ⟨r, rfl, hq⟩ := hv; exact ⟨r, rfl, hq⟩) fun _ _ e => e))))
theorem rc_neK {Q : Value → Shared → Prop} (hu : A.units + 1 < cLine) (X : K.In s.heap) (I : PySem.W.InstAt s.heap x ox C od) (hb : PySem.W.Looks (model prog w) s.heap (typeOf b) tb) (hn : PySem.W.notFirst K C tb = true)
    (hm : PySem.W.mroIn K C (.type "object") = some true) (hne : PySem.W.findIn K (.ref C) "__ne__" = some (some (.builtin "object.__ne__"))) (hs : PySem.W.findIn K (.ref C) "__eq__" = some (some (.ref f))) (hf : PySem.W.isFn K (.ref f) = true)
    (hcall : wpAny (model prog w) A.in1 (call (.ref f) [.ref x, b]) (fun v s' => ∃ r, v = .bool r ∧ Q (.bool (!r)) s') E s) : wpAny (model prog w) A (richCompare .NotEq (.ref x) b) Q E s := by
  have one : wpAny (model prog w) A (tryCompare (.ref x) "__ne__" b) (fun r s' => ∃ v, r = some v ∧ Q v s') E s := by
    unfold tryCompare
    refine wpAny_bind (ifBound_objNe X I hne (call_objNe X I hm hs hf hu (wpAny_mono hcall (fun v s' hv => ?_) fun _ _ e => e)))
    obtain ⟨r, rfl, hq⟩ := hv
    exact ⟨r, rfl, wpAny_pure ⟨_, rfl, hq⟩⟩
  unfold richCompare
  simp only [oneThing_ref, cmpInfo_NotEq]
  refine wpAny_holding (wpAny_bind (wpAny_cRoomFor (Nat.lt_of_succ_lt hu) ?_))
  refine wpAny_bind (I.type.here (wpAny_bind (hb.here ?_)))
  split
  · rename_i q
    have e : PySem.W.subIn K tb (.ref C) = some false := by
      rcases Bool.or_eq_true_iff.mp hn with e | e
      · rw [beq_iff_eq.mp e] at q; simp at q
      · exact beq_iff_eq.mp e
    refine wpAny_bind ((PySem.W.looks_subIn X e).here ?_)
    simp only [Bool.false_eq_true, if_false]
    refine wpAny_bind (m := tryCompare (.ref x) _ b) (wpAny_mono one (fun r s' z => ?_) fun _ _ e => e)
    obtain ⟨v, rfl, hq⟩ := z
    exact wpAny_pure hq
  · refine wpAny_bind (wpAny_pure ?_)
    simp only [Bool.false_eq_true, if_false]
    refine wpAny_bind (m := tryCompare (.ref x) _ b) (wpAny_mono one (fun r s' z => ?_) fun _ _ e => e)
    obtain ⟨v, rfl, hq⟩ := z
    exact wpAny_pure hq
end
/-- the other side: an instance of the class, an int, a tuple -/
def Oth (K : PySem.W.Frag) (C : Addr) (H : Hp) (y : V) : Prop := (∃ b dy gs, y = .ref b ∧ H b = some (.ins C dy gs)) ∨ (∃ i : Int, y = .int i) ∨ ∃ b ys, y = .ref b ∧ SqT K H b ys
theorem sub_int {K : PySem.W.Frag} {C : Addr} : PySem.W.subIn K (.type "int") (.ref C) = some false := by
  have e : fastBuiltinMro "int" = some [.type "int", .type "object"] := by decide +kernel
  show (fastBuiltinMro "int").map (·.contains (.ref C)) = some false
  rw [e]
  first
    | rfl
    | simp
theorem sub_tuple {K : PySem.W.Frag} {C : Addr} : PySem.W.subIn K (.type "tuple") (.ref C) = some false := by
  have e : fastBuiltinMro "tuple" = some [.type "tuple", .type "object"] := by decide +kernel
  show (fastBuiltinMro "tuple").map (·.contains (.ref C)) = some false
  rw [e]
  first
    | rfl
    | simp
section
variable {X : Cx} {pins : List (Addr × Obj)} {σ : St} {H : Hp} {s : Shared} {C : Addr} {y : V} {u : Value}
theorem Oth.type (o : Oth X.K C H y) (I : Inv X pins σ H s) (r : RelV y u) : ∃ tb, PySem.W.Looks (model X.prog X.w) s.heap (typeOf u) tb ∧ PySem.W.notFirst X.K C tb = true := by
  rcases o with ⟨b, dy, gs, rfl, hb⟩ | ⟨i, rfl⟩ | ⟨b, ys, rfl, hb⟩
  · cases r
    obtain ⟨mB, J, _⟩ := ins_get I.hok hb
    obtain ⟨od, J, _⟩ := J.look
    exact ⟨_, J.type, by simp [PySem.W.notFirst]⟩
  · obtain ⟨t, rfl⟩ := r
    refine ⟨.type "int", PySem.W.Looks.now, ?_⟩
    unfold PySem.W.notFirst
    rw [sub_int]
    simp
  · cases r
    obtain ⟨its, r, ⟨o, e, hc, _⟩, _⟩ := I.tuple hb
    refine ⟨.type "tuple", hc ▸ (PySem.W.Looks.ld (part := none) e).andThen PySem.W.Looks.now, ?_⟩
    unfold PySem.W.notFirst
    rw [sub_tuple]
    simp
end
def rOwnEq (K : PySem.W.Frag) (C : Addr) (sp : Sp) : R2 := fun x y H Q => ∃ a dx fs, x = .ref a ∧ H a = some (.ins C dx fs) ∧ Oth K C H y ∧ sp [x, y] H (fun v H' => ∃ b, v = .bl b ∧ Q v H') E0
def rOwnNe (K : PySem.W.Frag) (C : Addr) (sp : Sp) : R2 := fun x y H Q => ∃ a dx fs, x = .ref a ∧ H a = some (.ins C dx fs) ∧ Oth K C H y ∧ sp [x, y] H (fun v H' => ∃ b, v = .bl b ∧ Q (.bl (!b)) H') E0
def rOwnIn (C : Addr) (sp : Sp) : R2 := fun x y H Q => ∃ a dx fs, y = .ref a ∧ H a = some (.ins C dx fs) ∧ sp [y, x] H (fun v H' => ∃ b, v = .bl b ∧ Q v H') E0
section
variable {X : Cx} {k : Nat} {C : Addr} {sp : Sp} {ps : List Str}
/-- somewhere below the running body X, with room -/
structure SubA (X : Cx) (n : Nat) (A : Around) : Prop where
  room : Room n A
  fr : A.frames = X.A.frames
theorem SubA.in1 {X : Cx} {n : Nat} {A : Around} (s : SubA X (n + 1) A) : SubA X n A.in1 := ⟨s.room.in1, s.fr⟩
theorem own_run {A : Around} {n : Nat} {g : Addr} {fd : FuncData} {pins : List (Addr × Obj)} {s : Shared} {σ : St} {H : Hp} {vs : List V} {us : List Value} {Q : VK} (F : FnOk X.prog X.w X.K X.mg X.base CX0 n g fd ps sp) (hb : Binds X.K fd ps []) (sb : SubA X n A) (I : Inv X pins σ H s) (r2 : Vals vs us) (hsp : sp vs H Q E0) :
    wpAny (model X.prog X.w) A (call (.ref g) us) (fun r s' => ∃ v H', Inv X pins σ H' s' ∧ RelV v r ∧ Q v H') X.xe s := by
  have e0 : Env0 X.prog X.w X.K X.mg X.base A X.stack s H := by
    have e := I.env0
    exact ⟨by rw [sb.fr]; exact e.frames, e.mod, e.bs, e.bsz, e.funs, e.frf, e.hok, e.bare⟩
  have hl := F.len _ _ _ _ hsp
  refine wpAny_call (codeAny_mono (F.run A X.stack s H ⟨us, []⟩ us vs _ E0 sb.room e0 (by
    have := hb s us I.kIn (by rw [List.append_nil, ← r2.length]; exact hl)
    simpa using this) r2 hsp) fun r s' hq => ?_)
  cases r with
  | error e => exact (pass0 (X := X)) pins σ H s e s' I hq
  | ok fl =>
    cases fl with
    | ret w =>
      obtain ⟨z, H', I', rz, ez⟩ := I.after hq
      exact ⟨z, H', I', rz, ez⟩
    | next => exact False.elim hq
    | brk => exact False.elim hq
    | cont => exact False.elim hq
theorem op_ownEq (D : MethAt X.prog X.w X.K X.mg X.base CX0 k C "__eq__" ps [] sp) (hr : Room (k + 1) X.A) : OpR X (compareOp .Eq) (rOwnEq X.K C sp) := by
  intro pins s σ H x y v u Q I rx ry hq
  obtain ⟨_, g, fd, ds, hm, hb, hd, F⟩ := D
  cases hd
  obtain ⟨a, dx, fs, rfl, ha, o, hsp⟩ := hq
  obtain ⟨tb, lt, nf⟩ := o.type I ry
  cases rx
  obtain ⟨mA, J, _⟩ := ins_get I.hok ha
  obtain ⟨od, J, _⟩ := J.look
  obtain ⟨m, hF⟩ := I.fr
  have sb : SubA X k X.A := ⟨hr.mono (Nat.le_succ k), rfl⟩
  show wpAny (model X.prog X.w) X.A (richCompare .Eq (.ref a) u) (EP X pins σ Q) X.xe s
  refine PySem.W.cmp_K (op := .Eq) (tb := tb) sb.room.units0 hF I.ok.mod.kin J lt nf hm.at_ hm.fn (wpAny_mono (own_run F hb sb I (.cons (show L2.RelV (V.ref a) (Value.ref a) from rfl) (.cons ry .nil)) hsp) (fun r s' z => ?_) fun _ _ e => e)
  obtain ⟨v, H', I', rz, b, rfl, q⟩ := z
  cases rz
  exact ⟨V.bl b, H', I', rfl, q⟩
theorem op_ownNe (D : MethAt X.prog X.w X.K X.mg X.base CX0 k C "__eq__" ps [] sp) (hne : PySem.W.findIn X.K (.ref C) "__ne__" = some (some (.builtin "object.__ne__")) ∧ PySem.W.mroIn X.K C (.type "object") = some true) (hr : Room (k + 1) X.A) : OpR X (compareOp .NotEq) (rOwnNe X.K C sp) := by
  intro pins s σ H x y v u Q I rx ry hq
  obtain ⟨_, g, fd, ds, hm, hb, hd, F⟩ := D
  cases hd
  obtain ⟨a, dx, fs, rfl, ha, o, hsp⟩ := hq
  obtain ⟨tb, lt, nf⟩ := o.type I ry
  cases rx
  obtain ⟨mA, J, _⟩ := ins_get I.hok ha
  obtain ⟨od, J, _⟩ := J.look
  have sb : SubA X (k + 1) X.A := ⟨hr, rfl⟩
  show wpAny (model X.prog X.w) X.A (richCompare .NotEq (.ref a) u) (EP X pins σ Q) X.xe s
  refine rc_neK (tb := tb) sb.in1.room.units0 I.kIn J lt nf hne.2 hne.1 hm.at_ hm.fn (wpAny_mono (own_run F hb sb.in1 I (.cons (show L2.RelV (V.ref a) (Value.ref a) from rfl) (.cons ry .nil)) hsp) (fun r s' z => ?_) fun _ _ e => e)
  obtain ⟨v, H', I', rz, b, rfl, q⟩ := z
  cases rz
  exact ⟨_, rfl, V.bl (!b), H', I', rfl, q⟩
theorem op_ownIn (D : MethAt X.prog X.w X.K X.mg X.base CX0 k C "__contains__" ps [] sp) (hr : Room (k + 1) X.A) : OpR X (compareOp .In) (rOwnIn C sp) := by
  intro pins s σ H x y v u Q I rx ry hq
  obtain ⟨_, g, fd, ds, hm, hb, hd, F⟩ := D
  cases hd
  obtain ⟨a, dx, fs, rfl, ha, hsp⟩ := hq
  cases ry
  obtain ⟨mA, J, _⟩ := ins_get I.hok ha
  obtain ⟨od, J, _⟩ := J.look
  obtain ⟨m, hF⟩ := I.fr
  have sb : SubA X k X.A := ⟨hr.mono (Nat.le_succ k), rfl⟩
  refine PySem.W.in_K hF I.ok.mod.kin J hm.at_ hm.fn (wpAny_mono (own_run F hb sb I (.cons (show L2.RelV (V.ref a) (Value.ref a) from rfl) (.cons rx .nil)) hsp) (fun r s' z => ?_) fun _ _ e => e)
  obtain ⟨v, H', I', rz, b, rfl, q⟩ := z
  cases rz
  exact wpAny_truthy_bool ⟨V.bl b, H', I', rfl, q⟩
end
/-! ### over data -/
section
variable {f : Fr} {ρ τ : List Cell} {Φ : Cell → List Cell → Prop} {α : Type} {enc : α → List D} {pre : α → Prop} {post : α → T → Prop} {C : Addr} {c1 c2 : Cell} {d2 : D} {fs : List (Str × D)}
/-- what may stand at the other side -/
def othD (C : Addr) : D → Prop
  | .obj C' _ => C' = C
  | .int _ => True
  | .tup _ => True
  | _ => False
theorem Dt.oth {A : Addr → Prop} {K : PySem.W.Frag} {H : Hp} {v : V} {d : D} (r : Dt A K H v d) (o : othD C d) : Oth K C H v := by
  cases r with
  | obj _ _ e _ _ => cases o; exact .inl ⟨_, _, _, rfl, e⟩
  | int i => exact .inr (.inl ⟨i, rfl⟩)
  | tup s _ => exact .inr (.inr ⟨_, _, rfl, sqT_of s⟩)
  | _ => cases o
theorem Dt.insE {A : Addr → Prop} {K : PySem.W.Frag} {H : Hp} {v : V} {fs : List (Str × D)} (r : Dt A K H v (.obj C fs)) : ∃ a dx vs, v = .ref a ∧ H a = some (.ins C dx vs) := by
  cases r with
  | obj _ _ e _ _ => exact ⟨_, _, _, rfl, e⟩
theorem vo_own2 {R : R2} (ok : f.Ok) {ds : α} {ea eb : D} (lk : LkL ρ [c1, c2] [ea, eb]) (hp : pre ds)
    (hR : ∀ (x y : V) (H : Hp) (Q : VK), DtL (fun a => a ∉ f.M) f.K H [x, y] [ea, eb] → (∀ r b v H' F, post ds r → r = .d (.bl b) → Kp [] H H' → (∀ a ∈ F, H a = none) → Own (fun _ => False) f.K H' v r F → Q v H') → R x y H Q)
    (q : ∀ r, post ds r → ∃ b, r = .d (.bl b) ∧ Φ (cB b) ρ) : Vo f ρ τ (r2v R) [c1, c2] Φ := fun φ us σ ws H Q vs l hl W k => by
  match vs, l with
  | [x, y], _ =>
    refine r2v_of (hR x y H Q (W.args hl rfl lk) fun r b v H' F z er kk hF o => ?_)
    have W2 := W.pop hl
    obtain ⟨s, ml⟩ := W2.ok0 ok kk
    obtain ⟨b', e', q'⟩ := q r z
    subst e'
    exact k _ _ _ _ q' (W2.res kk.any s ml hF (o.mono fun _ z _ => z.elim))
theorem own_bl {A : Addr → Prop} {K : PySem.W.Frag} {H : Hp} {v : V} {b : Bool} {F : List Addr} (o : Own A K H v (.d (.bl b)) F) : v = .bl b := by
  cases o with
  | d h => cases h; rfl
theorem vo_ownEq (ok : f.Ok) {ds : α} (he : enc ds = [.obj C fs, d2]) (l1 : Lk ρ c1 (.obj C fs)) (l2 : Lk ρ c2 d2) (o : othD C d2) (hp : pre ds) (q : ∀ r, post ds r → ∃ b, r = .d (.bl b) ∧ Φ (cB b) ρ) : Vo f ρ τ (r2v (rOwnEq f.K C (PF f.K enc pre post))) [c1, c2] Φ :=
  vo_own2 ok (.cons l1 (.cons l2 .nil)) hp (fun x y H Q hd k => by
    cases hd with
    | cons h1 t => cases t with
      | cons h2 t =>
        cases t
        obtain ⟨a, dx, vs, rfl, e⟩ := h1.insE
        refine ⟨a, dx, vs, rfl, e, h2.oth o, ds, by rw [he]; exact .cons (h1.mono fun _ _ _ => trivial) (.cons (h2.mono fun _ _ _ => trivial) .nil), hp, fun r v H' F z kk hF o => ?_⟩
        obtain ⟨b, rfl, _⟩ := q r z
        obtain rfl := own_bl o
        exact ⟨b, rfl, k _ b _ H' F z rfl kk hF o⟩) q
theorem vo_ownNe (ok : f.Ok) {ds : α} (he : enc ds = [.obj C fs, d2]) (l1 : Lk ρ c1 (.obj C fs)) (l2 : Lk ρ c2 d2) (o : othD C d2) (hp : pre ds) (q : ∀ r, post ds r → ∃ b, r = .d (.bl b) ∧ Φ (cB (!b)) ρ) : Vo f ρ τ (r2v (rOwnNe f.K C (PF f.K enc pre post))) [c1, c2] Φ := fun φ us σ ws H Q vs l hl W k => by
  match vs, l with
  | [x, y], _ =>
    have hd := W.args hl rfl (.cons l1 (.cons l2 .nil))
    cases hd with
    | cons h1 t => cases t with
      | cons h2 t =>
        cases t
        obtain ⟨a, dx, vs, rfl, e⟩ := h1.insE
        refine r2v_of ⟨a, dx, vs, rfl, e, h2.oth o, ds, by rw [he]; exact .cons (h1.mono fun _ _ _ => trivial) (.cons (h2.mono fun _ _ _ => trivial) .nil), hp, fun r v H' F z kk hF o => ?_⟩
        obtain ⟨b, rfl, q'⟩ := q r z
        obtain rfl := own_bl o
        have W2 := W.pop hl
        obtain ⟨s, ml⟩ := W2.ok0 ok kk
        exact ⟨b, rfl, k _ _ _ _ q' ((W2.step kk.any s ml).scal fun _ _ => .bl _)⟩
theorem vo_ownIn (ok : f.Ok) {ds : α} {dx : D} (he : enc ds = [.obj C fs, dx]) (l1 : Lk ρ c1 dx) (l2 : Lk ρ c2 (.obj C fs)) (hp : pre ds) (q : ∀ r, post ds r → ∃ b, r = .d (.bl b) ∧ Φ (cB b) ρ) : Vo f ρ τ (r2v (rOwnIn C (PF f.K enc pre post))) [c1, c2] Φ :=
  vo_own2 ok (.cons l1 (.cons l2 .nil)) hp (fun x y H Q hd k => by
    cases hd with
    | cons h1 t => cases t with
      | cons h2 t =>
        cases t
        obtain ⟨a, dx, vs, rfl, e⟩ := h2.insE
        refine ⟨a, dx, vs, rfl, e, ds, by rw [he]; exact .cons (h2.mono fun _ _ _ => trivial) (.cons (h1.mono fun _ _ _ => trivial) .nil), hp, fun r v H' F z kk hF o => ?_⟩
        obtain ⟨b, rfl, _⟩ := q r z
        obtain rfl := own_bl o
        exact ⟨b, rfl, k _ b _ H' F z rfl kk hF o⟩) q
end
inductive IsiD (C : Addr) : D → Bool → Prop
  | obj (fs) : IsiD C (.obj C fs) true
  | int (i) : IsiD C (.int i) false
  | tup (l) : IsiD C (.tup l) false
theorem ev_isiO {f : Fr} {m : Bool} {ρ τ : List Cell} {ta : TE} {C : Addr} {Φ : Cell → List Cell → Prop} (Z : IsiC f.K C) (q : Ev f false ρ τ ta fun c ρ1 => ∃ d b, Lk ρ1 c d ∧ IsiD C d b ∧ Φ (cB b) ρ1) : Ev f m ρ τ (tCB (rIsi f.K) (tCons ta (tCons (tC (.ref C)) tNil))) Φ := fun φ us σ ws H Q W k => by
  refine x_cb (x_cons (q φ us σ ws H _ W fun c ρ1 v1 H1 ⟨d, b, lk, hi, q1⟩ W1 => x_cons (x_c (x_nil ?_))))
  have hd := W1.args (cs := [c]) (ds := [d]) (vs := [v1]) W.l4 rfl (.cons lk .nil)
  cases hd with
  | cons h1 _ =>
    have fin := k _ _ _ _ q1 ((W1.pop W.l4).scal (v := .bl b) fun _ _ => .bl _)
    cases hi with
    | obj fs =>
      cases h1 with
      | obj _ _ e _ _ => exact ⟨_, _, .ref C, .ref C, true, rfl, .own C, .base (.ins e Z.cl Z.ha Z.hn Z.htk Z.hm), by unfold PySem.W.kitOne; rw [if_pos (by simp)], fin⟩
    | int i =>
      cases h1
      exact ⟨_, _, .type "int", .ref C, false, rfl, .own C, .base (.int _), Z.ki, fin⟩
    | tup l =>
      cases h1 with
      | tup s _ => exact ⟨_, _, .type "tuple", .ref C, false, rfl, .own C, tyx_t (sqT_of (A := fun a => a ∉ f.M) s), Z.kt, fin⟩
end LN
namespace LN
open PySem PySem.Spec PyProof.Rows L2 L2H
/-! ### a name for a list that stands within one's own -/
def noQ (i : Nat) : List Cell → Bool
  | [] => true
  | .pl j _ :: l => (j != i) && noQ i l
  | _ :: l => noQ i l
theorem noQ_ok {i : Nat} : ∀ {cs : List Cell}, noQ i cs = true → noPl i cs
  | [], _, _, h, _, _, _ => by cases h
  | .pl j p :: l, h, c, hc, j', p', e => by
    obtain ⟨h1, h2⟩ := Bool.and_eq_true_iff.mp (show ((j != i) && noQ i l) = true from h)
    rcases List.mem_cons.mp hc with rfl | hc
    · cases e
      simpa using h1
    · exact noQ_ok h2 c hc j' p' e
  | .t x :: l, h, c, hc, j', p', e => by
    rcases List.mem_cons.mp hc with rfl | hc
    · cases e
    · exact noQ_ok (cs := l) h c hc j' p' e
  | .sto :: l, h, c, hc, j', p', e => by
    rcases List.mem_cons.mp hc with rfl | hc
    · cases e
    · exact noQ_ok (cs := l) h c hc j' p' e
  | .dead :: l, h, c, hc, j', p', e => by
    rcases List.mem_cons.mp hc with rfl | hc
    · cases e
    · exact noQ_ok (cs := l) h c hc j' p' e
  | .exc _ _ _ :: l, h, c, hc, j', p', e => by
    rcases List.mem_cons.mp hc with rfl | hc
    · cases e
    · exact noQ_ok (cs := l) h c hc j' p' e
  | .ins _ _ _ _ :: l, h, c, hc, j', p', e => by
    rcases List.mem_cons.mp hc with rfl | hc
    · cases e
    · exact noQ_ok (cs := l) h c hc j' p' e
theorem T.at_app : ∀ {p : List Nat} {x : T} {l : List T} {i : Nat} {t : T}, x.at p = some (.lst l) → l[i]? = some t → x.at (p ++ [i]) = some t
  | [], x, l, i, t, h, e => by
    cases h
    show (match l[i]? with | some s => s.at [] | none => none) = _
    rw [e]
    rfl
  | k :: p, .d _, _, _, _, h, _ => by cases h
  | k :: p, .lst L, l, i, t, h, e => by
    show (match L[k]? with | some s => s.at (p ++ [i]) | none => none) = _
    have h : (match L[k]? with | some s => s.at p | none => none) = some (T.lst l) := h
    split at h
    · exact T.at_app h e
    · cases h
  | k :: p, .tup L, l, i, t, h, e => by
    show (match L[k]? with | some s => s.at (p ++ [i]) | none => none) = _
    have h : (match L[k]? with | some s => s.at p | none => none) = some (T.lst l) := h
    split at h
    · exact T.at_app h e
    · cases h
theorem Walk.app {H : Hp} : ∀ {p : List Nat} {v w : V} {a : Addr} {vs : List V} {i : Nat}, Walk H v p (.ref a) → H a = some (.lst vs) → vs[i]? = some w → Walk H v (p ++ [i]) w
  | [], v, w, a, vs, i, h, e, g => ⟨a, vs, w, h, .inl e, g, rfl⟩
  | k :: p, v, w, a, vs, i, ⟨b, us, u, h1, h2, h3, h4⟩, e, g => ⟨b, us, u, h1, h2, h3, h4.app e g⟩
section
variable {f : Fr} {g : Addr → Nat} {cs : List Cell} {us : List (Option V)} {H H' : Hp} {i j : Nat} {p : List Nat} {v : V}
theorem RepG.moveP (R : RepG f g (cs ++ [.pl j p]) (us ++ [some v]) H) (hl : cs.length = us.length) (hn : f.n ≤ cs.length) (np : noPl i cs) (hi : i < cs.length) (ij : i ≠ j) : RepG f g (cs.set i (.pl j p)) (us.set i (some v)) H := by
  have R0 := R.cut hl hn
  obtain ⟨u, e1, h⟩ := R.cell (i := cs.length) (c := .pl j p) (by rw [List.getElem?_append_right (Nat.le_refl _), Nat.sub_self]; rfl)
  rw [hl, List.getElem?_append_right (Nat.le_refl _), Nat.sub_self] at e1
  cases e1
  obtain ⟨jn, x, s, w, y1, y2, y3, y4, y5⟩ := h
  rw [List.getElem?_append_left (by omega)] at y1 y4
  exact R0.set np hi (fun a z => absurd rfl z) R.gg (fun _ z _ => z) ⟨jn, x, s, w, by rw [List.getElem?_set_ne ij]; exact y1, y2, y3, by rw [List.getElem?_set_ne ij]; exact y4, y5⟩
end
section
variable {f : Fr} {m : Bool} {φ ρ ρ' ρ1 τ : List Cell} {us ws : List (Option V)} {σ : St} {H H' : Hp} {i j : Nat} {p : List Nat} {v : V} {x : T} {Φ : Cell → List Cell → Prop} {Ψ : List Cell → Prop} {tr : TA} {E : XK}
/-- name = a list within one's own -/
theorem eg_nameP (s : CSet ρ i (.pl j p) ρ') (n : noQ i ρ = true) (ij : i ≠ j) (q : Ψ ρ') : Eg f ρ (.pl j p) (gName i) Ψ := fun φ us σ H v qs W k => by
  obtain ⟨g, R⟩ := W.rep
  have hi := s.lt
  have R1 : RepG f g ((ρ ++ φ) ++ [.pl j p]) ((σ ++ us) ++ [some v]) H := R
  have np : noPl i (ρ ++ φ) := fun c hc j p e => by
    rcases List.mem_append.mp hc with hc | hc
    · exact noQ_ok n c hc j p e
    · obtain ⟨y, hy⟩ := W.fz c hc
      rw [e] at hy
      cases hy
  have hs : i < σ.length := by have := W.l1; have := W.l2; omega
  have R2 := R1.moveP W.base W.hn np (by simp; omega) ij
  rw [List.set_append_left _ _ hi, List.set_append_left _ _ hs, s.eq] at R2
  refine k _ _ _ q ⟨by rw [← s.eq]; simp [W.l1], by simp [W.l2], W.l3, rfl, W.fz, W.lk_, g, ?_⟩
  rw [List.append_nil, List.append_nil]
  exact R2
/-- name = .., while other names stand for lists within one's own -/
theorem eg_nameQ (s : CSet ρ i (.t x) ρ') (n : noQ i ρ = true) (q : Ψ ρ') : Eg f ρ (.t x) (gName i) Ψ := fun φ us σ H v qs W k => by
  have W1 := W.set rfl s.lt (noQ_ok n) (fun _ z => nomatch z)
  rw [s.eq] at W1
  exact k _ _ _ q W1
theorem Wd.plv (W : Wd f φ us ρ τ σ ws H) (e : ρ[i]? = some (.pl j p)) : ∃ v, σ[i]? = some (some v) ∧ Wd f φ us ρ (τ ++ [.pl j p]) σ (ws ++ [some v]) H := by
  obtain ⟨g, R⟩ := W.rep
  obtain ⟨u, e1, h⟩ := R.cell (at3 e)
  have hi : i < σ.length := by have := (List.getElem?_eq_some_iff.mp e).1; have := W.l1; have := W.l2; omega
  cases u with
  | none => cases h
  | some v =>
    refine ⟨v, at3' hi e1, W.mk' (by simp [W.l4]) ⟨g, ?_⟩⟩
    rw [← List.append_assoc, ← List.append_assoc]
    exact R.push h
theorem ev_var_plc (e : CAt ρ i (.pl j p)) (q : Φ (.pl j p) ρ) : Ev f false ρ τ (tVar i) Φ := fun φ us σ ws H Q W k => by
  obtain ⟨v, e1, W1⟩ := W.plv e.eq
  exact ⟨v, e1, k _ _ _ _ q W1⟩
/-- .. the name is read for the last time -/
theorem ev_var_plm (e : CAt ρ i (.pl j p)) (s : CSet ρ i .dead ρ') (n1 : noQ i ρ = true) (n2 : noQ i τ = true) (q : Φ (.pl j p) ρ') : Ev f m ρ τ (tVar i) Φ := fun φ us σ ws H Q W k => by
  obtain ⟨v, e1, W1⟩ := W.plv e.eq
  have ij : j ≠ i := fun z => by
    obtain ⟨v', x, s', w, z1, z2, _⟩ := W1.plc (k := τ.length) (by rw [List.getElem?_append_right (Nat.le_refl _), Nat.sub_self]; rfl)
    rw [z, e.eq] at z2
    cases z2
  have W2 := W1.kill s.lt (noQ_ok n1) (fun c hc j' p' z => by
    rcases List.mem_append.mp hc with hc | hc
    · exact noQ_ok n2 c hc j' p' z
    · rw [List.mem_singleton.mp hc] at z
      cases z
      exact ij)
  rw [s.eq] at W2
  exact ⟨v, e1, k _ _ _ _ q W2⟩
end
section
variable {K : PySem.W.Frag} {A : Addr → Prop} {H0 : Hp} {p sl : Addr} {nS : Nat} {m : Bool} {ρ τ : List Cell} {Φ : Cell → List Cell → Prop} {tr : TA} {E : XK}
/-- a pick from one's own list of lists: a place in it -/
theorem ev_pickP (q : EvA (frS K A H0 p sl nS) false ρ τ tr fun cs ρ1 => ∃ j pp x l, cs = [.sto, .pl j pp] ∧ CAt ρ1 j (.t x) ∧ x.at pp = some (.lst l) ∧ (∀ t ∈ l, t.node = true) ∧ 0 < l.length ∧ l.length < 100000 ∧ ∀ i, i < l.length → Φ (.pl j (pp ++ [i])) ρ1) : Ev (frS K A H0 p sl nS) m ρ τ (tCall (spPick K) [] E tr) Φ := fun φ us σ ws H Q W k => by
  refine x_call (q φ us σ ws H _ W fun cs ρ1 vs H1 ln ⟨j, pp, x, l, ec, e, ea, hn, h0, h1, q1⟩ W1 => ?_)
  subst ec
  obtain ⟨vs', rfl, W2, s⟩ := argS W1 W.l4 ln
  match vs', ln with
  | [v], _ =>
    obtain ⟨v', x', s', w, z1, z2, z3, z4, z5, z6⟩ := W2.plc (j := j) (p := pp) (k := τ.length + 1) (by rw [List.getElem?_append_right (by simp)]; simp)
    rw [W.l4, List.getElem?_append_right (by simp)] at z1
    simp at z1
    subst z1
    rw [e.eq] at z2
    cases z2
    rw [ea] at z3
    cases z3
    obtain ⟨g, R⟩ := (W1.pop W.l4).rep
    obtain ⟨v0, F, r1, r2, r3⟩ := R.tcell (at3 e.eq)
    rw [at3 z5] at r1
    cases r1
    have nM := R.own_nM r3
    obtain ⟨w2, G2, t1, t2, t3, t4⟩ := r2.walk ea
    obtain rfl := Walk.uniq z6 t1
    cases t2 with
    | @lst a vsl _ G e1 rr nn =>
      refine go_pickS s (SqL.of e1) (fun z => nM a (t3 a List.mem_cons_self) (by simp [z])) (by rw [rr.length]; exact h0) (by rw [rr.length]; exact h1) fun v H' s' k' hv => ?_
      obtain ⟨i, hi⟩ := List.getElem?_of_mem hv
      have il : i < l.length := by rw [← rr.length]; exact (List.getElem?_eq_some_iff.mp hi).1
      have ei := List.getElem?_eq_getElem il
      have W3 := (W1.pop W.l4).draw k' s'
      obtain ⟨w3, G3, y1, y2, y3, y4⟩ := r2.walk (T.at_app ea ei)
      obtain rfl := Walk.uniq (z6.app e1 hi) y1
      have wk : Walk H' w (pp ++ [i]) v := y4 H' fun b hb => by
        obtain ⟨o, eo⟩ := r2.live b hb
        rw [eo]
        exact k' b o (nM b hb) eo
      obtain ⟨g', R'⟩ := W3.rep
      refine k _ _ _ _ (q1 i il) (W3.mk' (by simp [W3.l4]) ⟨g', ?_⟩)
      rw [← List.append_assoc, ← List.append_assoc]
      have jl := (List.getElem?_eq_some_iff.mp e.eq).1
      exact R'.push ⟨by have := W3.l1; omega, x, _, w, at3 e.eq, T.at_app ea ei, hn _ (List.getElem_mem il), at3 z5, wk⟩
end
section
variable {X : Cx} {K : PySem.W.Frag}
theorem cr_maxB (hc : X.calm = true) (e : X.K = K := by rfl) : CallR X (.builtin "max") (rMax K) := by subst e; exact cr_max hc
theorem cr_anyB (hc : X.calm = true) (e : X.K = K := by rfl) : CallR X (.builtin "any") (rAny K) := by subst e; exact cr_any hc
theorem cr_allB (hc : X.calm = true) (e : X.K = K := by rfl) : CallR X (.builtin "all") (rAll K) := by subst e; exact cr_all hc
theorem cr_minB (hc : X.calm = true) (e : X.K = K := by rfl) : CallR X (.builtin "min") (rMin K) := by subst e; exact cr_min hc
end
section
variable {f : Fr} {m : Bool} {ρ τ : List Cell} {ta tb tc : TE} {g g' : Int → Int → V} {Φ : Cell → List Cell → Prop}
/-- a < b < c, ints -/
theorem ev_chainI (q : Ev f false ρ τ ta fun c1 ρ1 => Ev f false ρ1 (τ ++ [c1]) tb fun c2 ρ2 => ∃ a b k, c1 = cI a ∧ c2 = cI b ∧ g a b = .bl k ∧ if k = true then Ev f false ρ2 τ tc fun c3 ρ3 => ∃ c d, c3 = cI c ∧ Scl (g' b c) d ∧ Φ (.t (.d d)) ρ3 else Φ (cB false) ρ2) : Ev f m ρ τ (tChain (rI0 g) (rI0 g') ta tb tc) Φ := fun φ us σ ws H Q W k => by
  refine q φ us σ ws H _ W fun c1 ρ1 v1 H1 q1 W1 => q1 φ us σ _ H1 _ W1 fun c2 ρ2 v2 H2 ⟨a, b, kk, e1, e2, eg, q2⟩ W2 => ?_
  subst e1 e2
  have hd := Wd.args (cs := [cI a, cI b]) (ds := [.int a, .int b]) (vs := [v1, v2]) (by rw [List.append_assoc, List.append_assoc] at W2; exact W2) W.l4 rfl (.cons lkI (.cons lkI .nil))
  have W3 := (W2.pop (by simp [W.l4])).pop W.l4
  cases hd with
  | cons h1 t =>
    cases t with
    | cons h2 t =>
      cases t
      cases h1
      cases h2
      refine ⟨a, b, rfl, rfl, kk, eg, ?_⟩
      cases kk with
      | false =>
        rw [if_neg Bool.false_ne_true]
        rw [if_neg Bool.false_ne_true] at q2
        exact k _ _ _ _ q2 (W3.scal fun _ _ => .bl _)
      | true =>
        rw [if_pos rfl]
        rw [if_pos rfl] at q2
        refine q2 φ us σ ws H2 _ W3 fun c3 ρ3 v3 H3 ⟨c, d, e3, sc, q3⟩ W4 => ?_
        subst e3
        have hd := Wd.args (cs := [cI c]) (ds := [.int c]) (vs := [v3]) W4 W.l4 rfl (.cons lkI .nil)
        cases hd with
        | cons h3 t =>
          cases h3
          exact ⟨b, c, rfl, rfl, k _ _ _ _ q3 ((W4.pop W.l4).scal fun _ _ => sc.dt)⟩
theorem ch_one {a b : Int} {k : Bool} {P : Int → Bool → Prop} (e : g a b = .bl k) (q : P b k) : ∃ a' b' k', cI a = cI a' ∧ cI b = cI b' ∧ g a' b' = .bl k' ∧ P b' k' := ⟨a, b, k, rfl, rfl, e, q⟩
theorem ch_two {c : Int} {F : Int → Bool} {P : D → Prop} (q : P (.bl (F c))) : ∃ c' d', cI c = cI c' ∧ Scl (.bl (F c')) d' ∧ P d' := ⟨c, _, rfl, .bl _, q⟩
end
end LN
namespace LN
open PySem PySem.Spec PyProof.Rows L2 L2H
/-! ### int of a truth value -/
section
variable {X : Cx} {f : Fr} {ρ : List Cell} {τ : List Cell} {Φ : Cell → List Cell → Prop} {H : Hp} {Q : VK}
def rIntB : List V → Hp → VK → Prop := fun xs H Q => ∃ k, xs = [.bl k] ∧ Q (.int (if k then 1 else 0)) H
theorem cr_intB : CallR X (.type "int") rIntB := CallR.imp call_int1 fun _ _ _ h => .inr h
theorem vo_intB {b : Bool} (q : Φ (cI (if b then 1 else 0)) ρ) : Vo f ρ τ rIntB [cB b] Φ := vo_scal (ds := [.bl b]) (.cons (.t rfl) .nil) (.int _) (fun vs H Q hd z => by
  cases hd with
  | cons h1 t =>
    cases t
    cases h1
    exact ⟨b, rfl, z⟩) q
end
end LN
namespace LN
open PySem PySem.Spec PyProof.Rows L2
/-! ### a comprehension of two clauses, both over lists -/
section
variable {f : Fr} {m : Bool} {φ ρ ρ' ρ1 τ : List Cell} {us ws : List (Option V)} {σ : St} {H H' : Hp} {i : Nat} {v : V} {x : T} {d : D} {c : Cell} {Φ : Cell → List Cell → Prop} {Ψ : List Cell → Prop} {ta te : TE} {g g1 : TG} {vl vl1 : List Nat}
theorem wipe_get {σ : St} {k : Nat} : ∀ {vl : List Nat}, (L2.wipe σ vl)[k]? = if k ∈ vl then σ[k]?.map fun _ => none else σ[k]?
  | [] => by simp [L2.wipe]
  | v :: vl => by
    unfold L2.wipe
    rw [List.getElem?_set, wipe_length, wipe_get (vl := vl)]
    by_cases e : v = k
    · subst e
      rw [if_pos rfl, if_pos List.mem_cons_self]
      by_cases h : v < σ.length
      · rw [if_pos h, List.getElem?_eq_getElem h]
        rfl
      · rw [if_neg h, List.getElem?_eq_none (by omega)]
        rfl
    · rw [if_neg e]
      simp only [List.mem_cons, show (k = v) = False from eq_false fun z => e z.symm, false_or]
theorem wipe_in {σ σ2 : St} (h : ∀ k, k ∉ vl → σ2[k]? = σ[k]?) (l : σ2.length = σ.length) : L2.wipe σ2 vl = L2.wipe σ vl := by
  refine List.ext_getElem? fun k => ?_
  rw [wipe_get, wipe_get]
  by_cases z : k ∈ vl
  · rw [if_pos z, if_pos z]
    by_cases q : k < σ.length
    · rw [List.getElem?_eq_getElem q, List.getElem?_eq_getElem (by omega)]
      rfl
    · rw [List.getElem?_eq_none (by omega), List.getElem?_eq_none (by omega)]
  · rw [if_neg z, if_neg z, h k z]
theorem wipe_wipe (h : ∀ k ∈ vl1, k ∈ vl) : L2.wipe (L2.wipe σ vl1) vl = L2.wipe σ vl := wipe_in (fun k z => by rw [wipe_get, if_neg fun y => z (h k y)]) (wipe_length _ _)
/-- a turn's value goes to one of the comprehension's names -/
theorem egc_nameV (hi : i ∈ vl) (s : CSet ρ i (.t x) ρ') (n : noP ρ = true) (n' : noP τ = true) (q : Ψ ρ') : EgC f ρ τ (.t x) (gName i) vl Ψ := fun φ us σ ws H v qs l W k => by
  have W1 := W.set l s.lt (noP_ok n) (noP_ok n')
  rw [s.eq] at W1
  refine k _ _ _ q ?_ W1
  refine (wipe_in (vl := vl) (σ2 := (L2.wipe σ vl).set i (some v)) (σ := L2.wipe σ vl) (fun k z => ?_) (List.length_set)).trans (wipe_wipe fun k z => z)
  rw [List.getElem?_set_ne (fun e => z (by rw [← e]; exact hi))]
/-- its law -/
def Lc2 (f : Fr) (ρ τ : List Cell) (n : Nat) (IC : Nat → Cell) (g : TG) (vl : List Nat) (k1 : Nat) (g1 : TG) (vl1 : List Nat) (te : TE) (Φ : Cell → List Cell → Prop) : Prop := ∃ (B : Nat) (IV : Nat → List T → Prop), (∀ v ∈ vl, ρ[v]? = some .dead) ∧ n * B < 100000 ∧ IV 0 [] ∧
  (∀ i acc, i < n → IV i acc → EgC f ρ (τ ++ [.t (.lst acc)]) (IC i) g vl fun ρ2 => ∃ l1, CAt ρ2 k1 (.t (.d (.lst l1))) ∧ l1.length ≤ B ∧ noP ρ2 = true ∧ (∀ v ∈ vl1, ρ2[v]? = some .dead) ∧ ∃ IW : Nat → List T → Prop, IW 0 acc ∧
    (∀ j acc', j < l1.length → IW j acc' → EgC f ρ2 (τ ++ [.t (.lst acc')]) (.t (.d (l1.getD j .non))) g1 vl1 fun ρ4 => Ev f true ρ4 (τ ++ [.t (.lst acc')]) te fun c ρ5 => ∃ x, c = .t x ∧ noP ρ5 = true ∧ KillC vl1 ρ5 ρ2 ∧ IW (j + 1) (acc' ++ [x])) ∧
    ∀ acc', IW l1.length acc' → KillC vl ρ2 ρ ∧ IV (i + 1) acc') ∧
  ∀ acc, IV n acc → Φ (.t (.lst acc)) ρ
theorem lc2 {n : Nat} {IC : Nat → Cell} {k1 : Nat} (B : Nat) (IV : Nat → List T → Prop) (hdead : ∀ v ∈ vl, ρ[v]? = some .dead) (hB : n * B < 100000) (h0 : IV 0 [])
    (hs : ∀ i acc, i < n → IV i acc → EgC f ρ (τ ++ [.t (.lst acc)]) (IC i) g vl fun ρ2 => ∃ l1, CAt ρ2 k1 (.t (.d (.lst l1))) ∧ l1.length ≤ B ∧ noP ρ2 = true ∧ (∀ v ∈ vl1, ρ2[v]? = some .dead) ∧ ∃ IW : Nat → List T → Prop, IW 0 acc ∧
      (∀ j acc', j < l1.length → IW j acc' → EgC f ρ2 (τ ++ [.t (.lst acc')]) (.t (.d (l1.getD j .non))) g1 vl1 fun ρ4 => Ev f true ρ4 (τ ++ [.t (.lst acc')]) te fun c ρ5 => ∃ x, c = .t x ∧ noP ρ5 = true ∧ KillC vl1 ρ5 ρ2 ∧ IW (j + 1) (acc' ++ [x])) ∧
      ∀ acc', IW l1.length acc' → KillC vl ρ2 ρ ∧ IV (i + 1) acc')
    (hd : ∀ acc, IV n acc → Φ (.t (.lst acc)) ρ) : Lc2 f ρ τ n IC g vl k1 g1 vl1 te Φ := ⟨B, IV, hdead, hB, h0, hs, hd⟩
theorem ev_lc2 (ok : f.Ok) (np : noP τ = true) {k1 : Nat} (hk : k1 ∉ vl1) (hv : ∀ k ∈ vl1, k ∈ vl) (q : Ev f true ρ τ ta fun c ρ1 => ∃ x l, c = .t x ∧ x.data = .lst l ∧ Lc2 f ρ1 (τ ++ [.t (.d (.lst l))]) l.length (fun k => .t (.d (l.getD k .non))) g vl k1 g1 vl1 te Φ) : Ev f m ρ τ (tLc2 (iList f.K ta) g tYes (iList f.K (tVar k1)) g1 tYes te vl vl1) Φ := fun φ us σ ws H Q W k => by
  refine q φ us σ ws H _ W fun c ρ1 v H1 ⟨x, l, ec, ex, B, IV, hdead, hB, h0, hs, hd'⟩ W1 => ?_
  subst ec
  have W2 := W1.fzTop
  rw [ex] at W2
  have hh : ∀ {ρ' s' H' τ2 w2}, Wd f φ us ρ' ((τ ++ [.t (.d (.lst l))]) ++ τ2) s' ((ws ++ [some v]) ++ w2) H' → ∃ A a vs, v = .ref a ∧ H' a = some (.lst vs) ∧ DtL A f.K H' vs l ∧ Make f φ us ρ' ((τ ++ [.t (.d (.lst l))]) ++ τ2) s' ((ws ++ [some v]) ++ w2) H' A := fun W' => by
    obtain ⟨A, ⟨a, vs, e1, e2, r⟩, mk⟩ := W'.heldT W.l4
    exact ⟨A, a, vs, e1, e2, r, mk⟩
  obtain ⟨A, a, vs, ev, e2, r, _⟩ := hh (τ2 := []) (w2 := []) (by rw [List.append_nil, List.append_nil]; exact W2)
  subst ev
  refine ⟨a, rfl, ⟨vs, SqL.of e2⟩, fun D hD => ?_⟩
  have hl2 : (τ ++ [Cell.t (.d (.lst l))]).length = (ws ++ [some (V.ref a)]).length := W2.l4
  have np2 : noP (τ ++ [Cell.t (.d (.lst l))]) = true := noP_app np rfl
  refine ⟨fun i m H' => m = l.length - i ∧ i ≤ l.length ∧ ∃ acc, IV i acc ∧ acc.length ≤ i * B ∧ Wd f φ us ρ1 ((τ ++ [.t (.d (.lst l))]) ++ [.t (.lst acc)]) (L2.wipe σ vl) ((ws ++ [some (.ref a)]) ++ [some (.ref D)]) H', ⟨l.length, by simp, Nat.zero_le _, [], h0, Nat.zero_le _, ?_⟩, ?_⟩
  · have W0 : Wd f φ us ρ1 ((τ ++ [.t (.d (.lst l))]) ++ ([] : List T).map Cell.t) σ ((ws ++ [some (.ref a)]) ++ ([] : List V).map some) H1 := by
      rw [List.map_nil, List.append_nil, List.map_nil, List.append_nil]
      exact W2
    exact (W0.pack ok hl2 hD true).wipe0 hdead
  rintro i m H2 ⟨rfl, hi, acc, hI, ha, W3⟩
  obtain ⟨A', a', vs', e1', e2', r', mk⟩ := hh W3
  cases e1'
  rcases Nat.lt_or_ge i l.length with lt | ge
  · obtain ⟨w, hw, hdw⟩ := r'.get (List.getElem?_eq_getElem lt)
    refine .inr ⟨⟨vs', w, SqL.of e2', hw⟩, fun H3 => ∃ acc, IV (i + 1) acc ∧ acc.length ≤ (i + 1) * B ∧ Wd f φ us ρ1 ((τ ++ [.t (.d (.lst l))]) ++ [.t (.lst acc)]) (L2.wipe σ vl) ((ws ++ [some (.ref a)]) ++ [some (.ref D)]) H3, fun H3 z => ⟨l.length - (i + 1), by omega, rfl, lt, z⟩, fun y H3 hy => ?_⟩
    obtain ⟨e3, e4⟩ := hy
    subst e3
    have := e4 vs' (SqL.of e2')
    rw [hw] at this
    cases this
    have W4 := mk.one _ _ hdw
    rw [show l[i] = l.getD i .non by rw [List.getD_eq_getElem?_getD, List.getElem?_eq_getElem lt]; rfl] at W4
    refine hs i acc lt hI φ us σ _ H3 w _ (by simp at hl2 ⊢; omega) W4 fun ρ2 s2 H4 ⟨l1, cl, lb, n2, dead1, IW, w0, ws1, wd⟩ es W5 => ⟨es, ?_⟩
    unfold tYes
    refine x_iteT ?_
    -- the inner list
    have W6 := W5.wipe0 dead1
    have hsl : ∀ {τ2 w2 H'}, Wd f φ us ρ2 τ2 (L2.wipe s2 vl1) w2 H' → ∃ b A us1, s2[k1]? = some (some (.ref b)) ∧ H' b = some (.lst us1) ∧ DtL A f.K H' us1 l1 ∧ Make f φ us ρ2 ((τ2 ++ [.t (.d (.lst l1))]) ++ []) (L2.wipe s2 vl1) ((w2 ++ [some (V.ref b)]) ++ []) H' A := fun {τ2 w2 H'} W' => by
      obtain ⟨u, eu, W''⟩ := W'.copy cl.eq
      rw [wipe_get, if_neg hk] at eu
      obtain ⟨A, ⟨b, us1, e1, e2, r⟩, mk⟩ := Wd.heldT (τ2 := []) (w2 := []) (by rw [List.append_nil, List.append_nil]; exact W'') W'.l4
      subst e1
      exact ⟨b, A, us1, eu, e2, r, mk⟩
    obtain ⟨b, A1, us1, eb, hb1, r1, _⟩ := hsl W6
    refine ⟨.ref b, eb, b, rfl, ⟨us1, SqL.of hb1⟩, ?_⟩
    refine ⟨fun j k H' => k = l1.length - j ∧ j ≤ l1.length ∧ ∃ acc', IW j acc' ∧ acc'.length ≤ i * B + j ∧ Wd f φ us ρ2 ((τ ++ [.t (.d (.lst l))]) ++ [.t (.lst acc')]) (L2.wipe s2 vl1) ((ws ++ [some (.ref a)]) ++ [some (.ref D)]) H', ⟨l1.length, by simp, Nat.zero_le _, acc, w0, by omega, W6⟩, ?_⟩
    rintro j k2 H5 ⟨rfl, hj, acc', hJ, hb, W7⟩
    obtain ⟨b', A2, us2, eb', hb2, r2, mk2⟩ := hsl W7
    rw [eb] at eb'
    cases eb'
    rcases Nat.lt_or_ge j l1.length with lt1 | ge1
    · obtain ⟨w1, hw1, hdw1⟩ := r2.get (List.getElem?_eq_getElem lt1)
      refine .inr ⟨⟨us2, w1, SqL.of hb2, hw1⟩, fun H6 => ∃ acc', IW (j + 1) acc' ∧ acc'.length ≤ i * B + (j + 1) ∧ Wd f φ us ρ2 ((τ ++ [.t (.d (.lst l))]) ++ [.t (.lst acc')]) (L2.wipe s2 vl1) ((ws ++ [some (.ref a)]) ++ [some (.ref D)]) H6, fun H6 z => ⟨l1.length - (j + 1), by omega, rfl, lt1, z⟩, fun y H6 hy => ?_⟩
      obtain ⟨e3, e4⟩ := hy
      subst e3
      have := e4 us2 (SqL.of hb2)
      rw [hw1] at this
      cases this
      have W8 := mk2.one _ _ hdw1
      rw [List.append_nil, List.append_nil] at W8
      have W9 := W8.down W7.l4
      rw [show l1[j] = l1.getD j .non by rw [List.getD_eq_getElem?_getD, List.getElem?_eq_getElem lt1]; rfl] at W9
      refine ws1 j acc' lt1 hJ φ us s2 _ H6 w1 _ (by simp at hl2 ⊢; omega) W9 fun ρ4 s4 H7 q4 es4 W10 => ⟨es4, ?_⟩
      refine x_iteT ?_
      refine q4 _ _ _ _ _ _ W10 fun c ρ5 v5 H8 ⟨x5, ec5, n5, kl, hI'⟩ W11 => ?_
      subst ec5
      obtain ⟨vs5, e5, l5, W12⟩ := W11.acc ok hl2
      obtain ⟨W13, _⟩ := W12.wipe kl n5 (noP_app np2 rfl)
      rw [es4] at W13
      have hm : (i + 1) * B ≤ l.length * B := Nat.mul_le_mul_right _ lt
      rw [Nat.succ_mul] at hm
      exact ⟨vs5, e5, sz_lt (by omega), _, hI', by simp; omega, W13⟩
    · obtain rfl : j = l1.length := Nat.le_antisymm hj ge1
      refine .inl ⟨⟨us2, SqL.of hb2, by rw [r2.length]; exact Nat.le_refl _⟩, ?_⟩
      obtain ⟨kl, hI'⟩ := wd acc' hJ
      obtain ⟨W8, _⟩ := W7.wipe kl n2 (noP_app np2 rfl)
      rw [wipe_wipe hv, es] at W8
      exact ⟨acc', hI', by rw [Nat.succ_mul]; omega, W8⟩
  · obtain rfl : i = l.length := Nat.le_antisymm hi ge
    refine .inl ⟨⟨vs', SqL.of e2', by rw [r'.length]; exact Nat.le_refl _⟩, k _ _ _ _ (hd' acc hI) ?_⟩
    exact (W3.unwipe hdead W2.l2).down W.l4
end
end LN
namespace LN
open PySem PySem.Spec PyProof.Rows L2
/-! ### defs whose answer is new, an instance too -/
section
variable {α : Type}
def PFN (K : PySem.W.Frag) (enc : α → List D) (pre : α → Prop) (post : α → T → Prop) : Sp := fun vs H Q _ => ∃ ds : α, DtL (fun _ => True) K H vs (enc ds) ∧ pre ds ∧ ∀ r v H', post ds r → Kp [] H H' → Own (fun a => H a = none) K H' v r [] → Q v H'
def PFNX (K : PySem.W.Frag) (enc : α → List D) (pre : α → Prop) (post : α → T → Prop) (exc : α → Addr → List (Str × V) → Prop) : Sp := fun vs H Q E => ∃ ds : α, DtL (fun _ => True) K H vs (enc ds) ∧ pre ds ∧ (∀ r v H', post ds r → Kp [] H H' → Own (fun a => H a = none) K H' v r [] → Q v H') ∧
  ∀ C fs H', exc ds C fs → Kp [] H H' → (fs = [] → E (.ref C) none H') ∧ (fs ≠ [] → ∀ dd, H' dd = some (.xd fs) → E (.ref C) (some dd) H')
/-- a body whose answer is new -/
def EsN (f : Fr) (ρ : List Cell) (t : TS) (post : T → Prop) : Prop := ∀ φ us σ H (E : Ends), Wd f φ us ρ [] σ [] H → (∀ r v H', post r → Kp f.M f.H0 H' → Own (fun a => f.H0 a = none) f.K H' v r [] → E.rt v H') → t E σ H
end
section
variable {f : Fr} {m : Bool} {φ ρ ρ' ρ1 τ : List Cell} {us ws : List (Option V)} {σ : St} {H H' : Hp} {Φ : Cell → List Cell → Prop} {te : TE} {tr : TA} {t u : TS} {E : XK} {α : Type} {enc : α → List D} {pre : α → Prop} {post' : α → T → Prop} {exc : α → Addr → List (Str × V) → Prop} {C : Addr} {post : T → Prop}
theorem esn_seq (q : Es f ρ t ⟨fun ρ1 => EsN f ρ1 u post, fun c _ => ∃ d, c = .t (.d d) ∧ d.sc = true ∧ post (.d d), fun _ => False, fun _ => False⟩) : EsN f ρ (tSeq t u) post := fun φ us σ H E W k => q φ us σ H { E with nx := u E } W (fun ρ1 σ1 H1 q1 W1 => q1 φ us σ1 H1 E W1 k) (fun _ _ _ z => z.elim) (fun _ _ _ z => z.elim) fun c ρ' v σ' H' ⟨d, ec, hs, hp⟩ W1 => by
  subst ec
  obtain ⟨F, hF, o⟩ := W1.last
  cases o with
  | d r => exact k _ _ _ hp W1.kp0.1 (.d (r.sc hs))
theorem Wd.newer (W : Wd f φ us ρ τ σ ws H) {a : Addr} (h : H a = none) : f.H0 a = none := by
  obtain ⟨k0, _, ml⟩ := W.kp0
  refine k0.free (fun z => ?_) h
  obtain ⟨o, e⟩ := ml a z
  rw [h] at e
  cases e
theorem esn_retCall (q : EvA f false ρ [] tr fun cs ρ1 => ∃ ds, LkL ρ1 cs (enc ds) ∧ pre ds ∧ ∀ r, post' ds r → post r) : EsN f ρ (tRet (tCall (PFN f.K enc pre post') [] E tr)) post := fun φ us σ H E W k =>
  x_call (q φ us σ [] H _ W fun cs ρ1 vs H1 l ⟨ds, lk, hp, q1⟩ W1 => ⟨ds, (Wd.args (τ := []) (ws := []) W1 rfl l lk).mono fun _ _ _ => trivial, hp, fun r v H' z kk o => k r v H' (q1 r z) (W1.kp0.1.trans kk.any) (o.mono fun a z _ => W1.newer z)⟩)
theorem esn_retMk {post1 : α → List (Str × D) → Prop} (q : EvA f true ρ [] tr fun cs ρ1 => ∃ ds, LkL ρ1 cs (enc ds) ∧ pre ds ∧ (∀ fs, post1 ds fs → post (.d (.obj C fs))) ∧ ∀ C' fs, ¬ exc ds C' fs) : EsN f ρ (tRet (tMake C (PFI f.K C enc pre post1 exc) [] E tr)) post := fun φ us σ H E W k => by
  refine q φ us σ [] H _ W fun cs ρ1 vs H1 l ⟨ds, lk, hp, q1, q2⟩ W1 => ?_
  have hd := Wd.args (τ := []) (ws := []) W1 rfl l lk
  intro x dx fx fdx ne
  have k1 : Kp [] H1 (upd (upd H1 dx (.own x)) x (.ins C dx [])) := (Kp.new fdx).mut fx
  have nA : ∀ b, live H1 b → b ≠ x ∧ b ≠ dx := fun b ⟨o, e⟩ => ⟨fun z => (by rw [z, fx] at e; cases e), fun z => (by rw [z, fdx] at e; cases e)⟩
  refine ⟨x, dx, vs, fun b => b ≠ x ∧ b ≠ dx, ds, by rw [List.append_nil], Ne.symm ne, upd_same, at_upd ne upd_same, fun b z => z, hd.kp k1 fun b z lv => ⟨nil_mem, nA b lv⟩, hp, fun fs vs' H' hpo kk e1 e2 r => ⟨rfl, ?_⟩, fun C' fs H' z kk => absurd z (q2 C' fs)⟩
  have kk' : Kp [] H1 H' := fun b o _ e => kk b o (by have := nA b ⟨o, e⟩; simp [this.1, this.2]) (k1 b o nil_mem e)
  have fr : ∀ b, (upd (upd H1 dx (.own x)) x (.ins C dx [])) b = none → H1 b = none := fun b z => k1.free nil_mem z
  exact k _ _ _ (q1 fs hpo) (W1.kp0.1.trans kk'.any) (.d (.obj (W1.newer fx) (W1.newer fdx) e1 e2 (r.mono fun b z _ => W1.newer (fr b z.1))))
/-- in a try body -/
theorem ev_callNW (ok : f.Ok) (q : EvA f false ρ τ tr fun cs ρ1 => ∃ ds, LkL ρ1 cs (enc ds) ∧ pre ds ∧ (∀ r, post' ds r → Φ (.t r) ρ1) ∧ ∀ C fs, exc ds C fs → f.xc C fs ρ1) : Ev f m ρ τ (tCallW (PFNX f.K enc pre post' exc) f.W tr) Φ := fun φ us σ ws H Q W k => by
  refine x_callW (q φ us σ ws H _ W fun cs ρ1 vs H1 l ⟨ds, lk, hp, q1, q2⟩ W1 => ⟨ds, (W1.args W.l4 l lk).mono fun _ _ _ => trivial, hp, fun r v H' z kk o => ?_, fun C fs H' z kk => ?_⟩)
  · have W2 := W1.pop W.l4
    obtain ⟨s, ml⟩ := W2.ok0 ok kk
    exact k _ _ _ _ (q1 r z) (W2.res kk.any s ml (F := []) (fun _ z => nomatch z) (o.mono fun _ z _ => ⟨z, nil_mem⟩))
  · have W2 := (W1.pop W.l4).pop (τ := []) (ws := []) (cs := τ) (vs := ws) rfl
    obtain ⟨s, ml⟩ := W2.ok0 ok kk
    exact W2.lk_ C fs ρ1 σ H' (q2 C fs z) (W2.step kk.any s ml).toX
end
section
variable {P : Program} {w : World} {K : PySem.W.Frag} {mg : Str → Option Value} {base : Heap} {k : Nat} {x : Str} {ps N : List Str} {st : Stmt} {α : Type} {enc : α → List D} {pre : α → Prop} {post : α → T → Prop} {exc : α → Addr → List (Str × V) → Prop}
theorem DefAt.pfn (h : DefAt K mg x ps st) (S : FnScope N ps (defScope st)) (len : ∀ ds, pre ds → (enc ds).length = ps.length)
    (hb : ∀ (cdv : Value) (f : Addr) (A : Around) (outer : List Env) (s : Shared) (H : Hp) (E : XK), Room k (A.deeper (envOfC x (defScope st) s.heap.objs.size f cdv)) →
      ∃ t, PSs (cxOf CX0 P w K mg base N x (defScope st) f cdv A outer s H E).nox (defBody st) t ∧ ∀ ds, pre ds → EsN (frN K (fun _ => True) H N.length) (startC N (enc ds)) t (post ds)) (hN : ps.length ≤ N.length := by decide) : Okk P w K mg base CX0 (k + 1) x ps (PFN K enc pre post) := by
  refine h.ok S (fun vs H Q E ⟨ds, hd, hp, _⟩ => hd.length.trans (len ds hp)) fun cdv f A outer s H vs Q E hr ⟨ds, hd, hp, q⟩ => ?_
  obtain ⟨t, h1, h2⟩ := hb cdv f A outer s H E hr
  exact ⟨t, h1, _, startS_ok (by rw [hd.length, len ds hp]; exact hN), h2 ds hp [] [] _ _ _ (Wd.init hd) fun r v H' z kk o => q r v H' z kk o⟩
theorem DefAt.pfnx (h : DefAt K mg x ps st) (S : FnScope N ps (defScope st)) (len : ∀ ds, pre ds → (enc ds).length = ps.length)
    (hb : ∀ (cdv : Value) (f : Addr) (A : Around) (outer : List Env) (s : Shared) (H : Hp) (E : XK), Room k (A.deeper (envOfC x (defScope st) s.heap.objs.size f cdv)) →
      ∃ t, PSs (cxOf (L2.CX P w) P w K mg base N x (defScope st) f cdv A outer s H E) (defBody st) t ∧ ∀ ds, pre ds → EsN (frX K (fun _ => True) H N.length (fun cls d _ H' => E cls d H') fun C fs _ => exc ds C fs) (startC N (enc ds)) t (post ds)) (hN : ps.length ≤ N.length := by decide) : Okk P w K mg base (L2.CX P w) (k + 1) x ps (PFNX K enc pre post exc) := by
  refine h.okX S (fun vs H Q E ⟨ds, hd, hp, _⟩ => hd.length.trans (len ds hp)) fun cdv f A outer s H vs Q E hr ⟨ds, hd, hp, q, qx⟩ => ?_
  obtain ⟨t, h1, h2⟩ := hb cdv f A outer s H E hr
  refine ⟨t, h1, _, startS_ok (by rw [hd.length, len ds hp]; exact hN), h2 ds hp [] [] _ _ _ (Wd.initX hd fun C fs ρ σ H' z W => ?_) fun r v H' z kk o => q r v H' z kk o⟩
  obtain ⟨g, R⟩ := W.rep
  exact qx C fs H' z R.kp
end
end LN
local macro_rules | `(tactic| walk_at "cat") => `(tactic| (repeat (first | exact LN.CAt.zero | with_reducible apply LN.CAt.succ)))
local macro_rules | `(tactic| walk_at "cset") => `(tactic| (repeat (first | exact LN.CSet.zero | with_reducible apply LN.CSet.succ)))
local macro_rules | `(tactic| walk_at "dat") => `(tactic| first | exact LN.T.data_row _ | exact LN.T.data_rows _ | rfl)
local macro_rules | `(tactic| walk_at "lk") => `(tactic| first | with_reducible exact LN.Lk.t (LN.T.data_row _) | exact LN.Lk.t rfl | exact LN.Lk.t (LN.T.data_row _) | exact LN.Lk.t (LN.T.data_rows _) | ((with_reducible apply LN.lk_pl); (· walk_at "cat"); (· rfl); · walk_at "dat"))
local macro_rules | `(tactic| walk_at "lkl") => `(tactic| (repeat (first | exact LN.LkL.nil | ((with_reducible apply LN.LkL.cons); · walk_at "lk"))))
local macro_rules | `(tactic| walk_at "leaf") => `(tactic| first | with_reducible exact LN.Leaf.fz | with_reducible exact LN.Leaf.own | with_reducible exact LN.Leaf.ownT | ((with_reducible apply LN.leaf_pl); (· walk_at "cat"); · rfl) | exact LN.Leaf.ownT (l := [_, _]) | ((with_reducible apply LN.leaf_plT2); walk_at "cat") | ((with_reducible apply LN.leaf_plT3); walk_at "cat") | exact LN.Leaf.ownT (l := [_, _, _]))
local macro_rules | `(tactic| walk_at "fzl") => `(tactic| (repeat (first | exact LN.FzL.nil | with_reducible apply LN.FzL.cons)))
local macro_rules | `(tactic| walk_at "ts") => `(tactic| (repeat (first | exact LN.TsOf.nil | with_reducible apply LN.TsOf.cons)))
local macro_rules | `(tactic| walk_at "scl") => `(tactic| first | exact LN.Scl.int _ | exact LN.Scl.bl _ | exact LN.Scl.str _ | exact LN.Scl.non)
local macro_rules | `(tactic| walk_at "kill") => `(tactic| (repeat (first | exact LN.KillC.nil | ((with_reducible apply LN.KillC.cons); (· walk_at "kill"); · walk_at "cset"))))
local macro_rules | `(tactic| walk_at "eg") => `(tactic| ((with_reducible apply LN.eg_name); (· walk_at "cset"); · rfl))
local macro_rules | `(tactic| walk_at "ev1") => `(tactic| first
  | (with_reducible apply LN.es_seq)
  | (with_reducible apply LN.es_asg)
  | (with_reducible apply LN.es_if)
  | (with_reducible apply LN.ev_op)
  | (with_reducible apply LN.ea_cons)
  | (with_reducible apply LN.ea_nil)
  | ((with_reducible apply LN.ev_var_d); · walk_at "cat")
  | ((with_reducible apply LN.ev_c); · walk_at "scl")
  | ((with_reducible apply LN.eg_name); (· walk_at "cset"); · rfl)
  | ((with_reducible apply LN.eg_nameP); (· walk_at "cset"); (· rfl); · decide)
  | ((with_reducible apply LN.eg_nameQ); (· walk_at "cset"); · rfl)
  | ((with_reducible apply LN.vo_I0); · walk_at "scl")
  | (with_reducible apply LN.vo_eqI)
  | (with_reducible apply LN.vo_neI)
  | (with_reducible apply LN.et_test)
  | (with_reducible apply LN.et_b)
  | (with_reducible apply LN.et_not)
  | (with_reducible apply LN.et_and)
  | (with_reducible apply LN.et_or)
  | (with_reducible apply LN.et_B)
  | (with_reducible apply LN.et_yes)
  | ((with_reducible apply LN.ev_var_sto); · walk_at "cat")
  | ((with_reducible apply LN.ev_var_mv); (· assumption); (· walk_at "cat"); (· walk_at "cset"); (· rfl); · rfl)
  | ((with_reducible apply LN.es_retV); (· walk_at "cat"); (· walk_at "cset"); · rfl)
  | ((with_reducible apply LN.ev_var_pl); (· walk_at "cat"); · rfl)
  | ((with_reducible apply LN.ev_var_plc); · walk_at "cat")
  | ((with_reducible apply LN.ev_var_fz); (· walk_at "cat"); (· walk_at "dat"); (· walk_at "cset"); (· rfl); · rfl)
  | (with_reducible apply LN.ev_un)
  | ((with_reducible apply LN.ev_cbF); · assumption)
  | (with_reducible apply LN.ev_cb)
  | (with_reducible apply LN.es_next)
  | (with_reducible apply LN.es_ret)
  | (with_reducible apply LN.es_retN)
  | ((with_reducible apply LN.es_take2); (· assumption); (· decide); (· walk_at "cat"); (· walk_at "cat"); · rfl)
  | (with_reducible apply LN.es_drop)
  | (with_reducible apply LN.es_brk)
  | (with_reducible apply LN.es_cont)
  | (with_reducible apply LN.ev_ifE)
  | (with_reducible apply LN.ev_andV)
  | (with_reducible apply LN.ev_orV)
  | (with_reducible apply LN.ev_notV)
  | (with_reducible apply LN.eo_no)
  | (with_reducible apply LN.eo_part)
  | ((with_reducible apply LN.lr_n); · first | decide | omega | (simp only [List.length_map]; omega))
  | (with_reducible apply LN.eo_n)
  | ((with_reducible apply LN.ev_slF); · assumption)
  | (with_reducible apply LN.ev_sl)
  | ((with_reducible apply LN.vo_U); · walk_at "scl")
  | (with_reducible apply LN.vo_abs)
  | (with_reducible apply LN.vo_int)
  | (with_reducible apply LN.vo_intB)
  | (with_reducible apply LN.vo_max2)
  | (with_reducible apply LN.vo_min2)
  | (with_reducible apply LN.vo_eqS)
  | (with_reducible apply LN.vo_neS)
  | (with_reducible apply LN.vo_eqB)
  | ((with_reducible apply LN.vo_isN); · walk_at "lk")
  | ((with_reducible apply LN.vo_notN); · walk_at "lk")
  | ((with_reducible apply LN.ev_lstF); (· assumption); · assumption)
  | ((with_reducible apply LN.ev_lst); · assumption)
  | ((with_reducible apply LN.ev_tup); · assumption)
  | ((with_reducible apply LN.ts_done); (· walk_at "ts"); · exact Nat.le_of_ble_eq_true rfl)
  | ((with_reducible apply LN.vo_lenL); · walk_at "lk")
  | ((with_reducible apply LN.vo_lenT); · walk_at "lk")
  | ((with_reducible apply LN.vo_ixL); (· walk_at "leaf"); · rfl)
  | ((with_reducible apply LN.vo_ixT); (· walk_at "leaf"); · rfl)
  | ((with_reducible apply LN.vo_sum); · walk_at "lk")
  | ((with_reducible apply LN.vo_listL); (· assumption); · walk_at "leaf")
  | ((with_reducible apply LN.vo_listT); (· assumption); · walk_at "leaf")
  | ((with_reducible apply LN.vo_slL); (· assumption); · walk_at "leaf")
  | ((with_reducible apply LN.ev_take))
  | (with_reducible apply LN.ev_number)
  | (with_reducible apply LN.ev_between)
  | (with_reducible apply LN.ev_near)
  | ((with_reducible apply LN.ev_pickF); · assumption)
  | (with_reducible apply LN.ev_pick)
  | ((with_reducible apply LN.dr_take); · first | decide | omega | (simp only [List.length_map]; omega))
  | (with_reducible apply LN.dr_one)
  | (with_reducible apply LN.dr_two)
  | ((with_reducible apply LN.dr_pick); · walk_at "leaf")
  | ((with_reducible apply LN.ev_callF); (· assumption); · assumption)
  | ((with_reducible apply LN.ev_call); · assumption)
  | ((with_reducible apply LN.ev_callA); · assumption)
  | (with_reducible apply LN.ev_callS)
  | (with_reducible apply LN.ev_callSA)
  | ((with_reducible apply LN.cl_doneSA); · walk_at "fzl")
  | ((with_reducible apply LN.cl_done); · walk_at "lkl")
  | ((with_reducible apply LN.cl_doneA); · walk_at "fzl")
  | ((with_reducible apply LN.cl_doneS); · walk_at "lkl")
  | (with_reducible apply LN.es_rng)
  | (with_reducible apply LN.es_rng2)
  | (with_reducible apply LN.es_rngD)
  | (with_reducible apply LN.es_list)
  | (with_reducible apply LN.es_tupl)
  | ((with_reducible apply LN.es_enum); · assumption)
  | (with_reducible apply LN.es_rev)
  | ((with_reducible apply LN.rg_one); · first | decide | omega | (simp only [List.length_map]; omega))
  | ((with_reducible apply LN.rg_lc); · first | decide | omega | (simp only [List.length_map]; omega))
  | ((with_reducible apply LN.rg_two); · first | decide | omega | (simp only [List.length_map]; omega))
  | ((with_reducible apply LN.rg_dn); · first | decide | omega | (simp only [List.length_map]; omega))
  | ((with_reducible apply LN.it_l); · walk_at "dat")
  | ((with_reducible apply LN.it_t); · walk_at "dat")
  | ((with_reducible apply LN.it_e); · walk_at "dat")
  | ((with_reducible apply LN.ev_lcR); (· assumption); · rfl)
  | ((with_reducible apply LN.ev_lcL); (· assumption); · rfl)
  | ((with_reducible apply LN.ev_lcE); (· assumption); · rfl)
  | ((with_reducible apply LN.ev_lcZ); (· assumption); · rfl)
  | (with_reducible apply LN.zp_l)
  | ((with_reducible apply LN.egc_tup2); (· rfl); (· rfl); (· rfl); (· decide); (· walk_at "leaf"); (· walk_at "cset"); (· rfl); · walk_at "cset")
  | ((with_reducible apply LN.egc_name); (· walk_at "cset"); (· rfl); · rfl)
  | ((with_reducible apply LN.lc_tt); (· rfl); · walk_at "kill")
  | ((with_reducible refine LN.ev_bm true ?_))
  | ((with_reducible apply LN.isl); · walk_at "lk")
  | ((with_reducible apply LN.vo_app0); (· assumption); (· walk_at "cat"); (· rfl); (· rfl); (· walk_at "len"); · walk_at "cset")
  | ((with_reducible apply LN.vo_appL); (· assumption); (· walk_at "cat"); (· rfl); (· rfl); (· walk_at "len"); · walk_at "cset")
  | ((with_reducible apply LN.eg_sub); · assumption)
  | ((with_reducible apply LN.eg_tup12); (· rfl); (· rfl); (· rfl); (· walk_at "leaf"); (· walk_at "cset"); (· rfl); (· walk_at "cset"); (· rfl); · walk_at "cset")
  | ((with_reducible apply LN.eg_tup3); (· rfl); (· rfl); (· walk_at "leaf"); (· walk_at "cset"); (· rfl); (· walk_at "cset"); (· rfl); · walk_at "cset")
  | ((with_reducible apply LN.eg_tup2); (· rfl); (· rfl); (· walk_at "leaf"); (· walk_at "cset"); (· rfl); · walk_at "cset")
  | ((with_reducible apply LN.es_augI); · walk_at "cat")
  | ((with_reducible apply LN.au_s); (· walk_at "cset"); · rfl)
  | (with_reducible apply LN.x_iteT)
  | (with_reducible apply LN.x_iteF)
  | (with_reducible apply LN.x_iteNT)
  | (with_reducible apply LN.x_iteNF)
  | ((with_reducible apply LN.x_decT); · first | decide | rfl)
  | ((with_reducible apply LN.x_decF); · decide)
  | ((with_reducible apply LN.x_ndecT); · decide)
  | ((with_reducible apply LN.x_ndecF); · first | decide | rfl)
  | (with_reducible apply LN.rt_t)
  | ((with_reducible apply LN.ev_callX); (· assumption); · rfl)
  | ((with_reducible apply LN.ev_callW); · assumption)
  | ((with_reducible apply LN.ev_callNW); · assumption)
  | ((with_reducible apply LN.ev_callAX); (· assumption); · rfl)
  | ((with_reducible apply LN.ev_callAW); · assumption)
  | ((with_reducible apply LN.ev_isiO); · assumption)
  | ((with_reducible apply LN.ev_callKW); · assumption)
  | ((with_reducible apply LN.ev_makeNW); (· assumption); · assumption)
  | ((with_reducible apply LN.ev_makeW); · assumption)
  | (with_reducible apply LN.es_rz0)
  | ((with_reducible apply LN.es_rz1); · assumption)
  | ((with_reducible apply LN.es_rz2); · assumption)
  | ((with_reducible apply LN.rz_one); · walk_at "scl")
  | ((with_reducible apply LN.rz_two); (· walk_at "scl"); · walk_at "scl")
  | ((with_reducible apply LN.es_fld); · assumption)
  | ((with_reducible apply LN.fl_done); (· first | rfl | exact LN.full_ints | exact LN.full_rows); (· walk_at "dat"); (· walk_at "cat"); (· assumption); (· assumption); (· exact Nat.lt_of_sub_eq_succ rfl); (· rfl); · walk_at "cset")
  | (with_reducible apply LN.ev_fldO)
  | ((with_reducible apply LN.fo); (· assumption); (· assumption); · rfl)
  | ((with_reducible apply LN.ev_propF); (· assumption); · assumption)
  | ((with_reducible apply LN.ev_prop); · assumption)
  | ((with_reducible apply LN.ev_makeN); (· assumption); (· assumption); · rfl)
  | ((with_reducible apply LN.ev_make); (· assumption); · rfl)
  | ((with_reducible apply LN.ev_var_exc); · walk_at "cat")
  | ((with_reducible apply LN.ev_callH); · assumption)
  | ((with_reducible apply LN.ev_listDn); · assumption)
  | ((with_reducible apply LN.ev_listRg1); · assumption)
  | ((with_reducible apply LN.vo_in); · walk_at "lk")
  | ((with_reducible apply LN.vo_notIn); · walk_at "lk")
  | (with_reducible apply LN.et_truL)
  | (with_reducible apply LN.ev_chainI)
  | ((with_reducible apply LN.ch_one); · rfl)
  | (with_reducible apply LN.ch_two)
  | ((with_reducible apply LN.tr_l); · walk_at "lk")
  | (with_reducible apply LN.ev_size)
  | ((with_reducible apply LN.dr_size); · first | decide | omega | (simp only [List.length_map]; omega))
  | ((with_reducible apply LN.ev_shuf); · assumption)
  | ((with_reducible apply LN.dr_shuf); (· walk_at "lk"); · first | assumption | omega | (simp; omega) | (simp only [LN.upto_length, LN.downto_length, List.length_map]; omega))
  | ((with_reducible apply LN.vo_I); (· first | omega | exact .inl ⟨by omega, by omega⟩ | exact .inr ⟨by omega, by omega⟩ | exact ⟨by decide, by decide⟩); · walk_at "scl"))
local macro_rules | `(tactic| walk_at "ev") => `(tactic| repeat walk_at "ev1")
local macro_rules | `(tactic| walk_at "ev0") => `(tactic| (simp only [LN.startC, List.length_cons, List.length_nil, Nat.reduceAdd, L2.cxOf, L2.Cx.nox, List.map_cons, List.map_nil]; walk_at "ev"))
local macro_rules | `(tactic| walk_at "kk") => `(tactic| refine ⟨rfl, by walk_at "kill", ?_⟩)
local macro_rules | `(tactic| walk_at "kl") => `(tactic| refine ⟨_, rfl, by walk_at "kill", ?_⟩)
local macro_rules | `(tactic| walk_at "len") => `(tactic| first | omega | (simp only [List.length_map, List.length_append, List.length_cons, List.length_nil, List.length_set, LN.upto_length, LN.downto_length, List.length_replicate]; omega))
namespace LN
open PySem PySem.Spec PyProof.Rows L2
section
variable {P : Program} {w : World} {K : PySem.W.Frag} {mg : Str → Option Value} {base : Heap} {k : Nat}
abbrev s_init_TooMany : Stmt := inClass (topS 5) 0
theorem sc_init_TooMany : FnScope ["self", "limit"] ["self", "limit"] (defScope s_init_TooMany) := ⟨rfl, rfl, rfl, by decide +kernel, rfl, by decide +kernel, by decide +kernel⟩
theorem ok_init_TooMany {C fI : Addr} {fd : FuncData} (F : FunD K "__init__" "TooMany.__init__" (defArgs s_init_TooMany) (defBody s_init_TooMany) (defScope s_init_TooMany) [] [] fI fd) (T : OexC K C) (no0 : PySem.W.findIn K (.ref C) "limit" = some none) : FnOk P w K mg base CX0 1 fI fd ["self", "limit"] (spInit C "limit") :=
  init_ok F sc_init_TooMany T no0 fun cdv A outer s H E => pss_one (ps_ost (pv 0) (pv 1))
abbrev s_init_BadShare : Stmt := inClass (topS 8) 0
theorem sc_init_BadShare : FnScope ["self", "at"] ["self", "at"] (defScope s_init_BadShare) := ⟨rfl, rfl, rfl, by decide +kernel, rfl, by decide +kernel, by decide +kernel⟩
theorem ok_init_BadShare {C fI : Addr} {fd : FuncData} (F : FunD K "__init__" "BadShare.__init__" (defArgs s_init_BadShare) (defBody s_init_BadShare) (defScope s_init_BadShare) [] [] fI fd) (T : OexC K C) (no0 : PySem.W.findIn K (.ref C) "at" = some none) : FnOk P w K mg base CX0 1 fI fd ["self", "at"] (spInit C "at") :=
  init_ok F sc_init_BadShare T no0 fun cdv A outer s H E => pss_one (ps_ost (pv 0) (pv 1))
abbrev s_init_BadRanking : Stmt := inClass (topS 9) 0
theorem sc_init_BadRanking : FnScope ["self", "at"] ["self", "at"] (defScope s_init_BadRanking) := ⟨rfl, rfl, rfl, by decide +kernel, rfl, by decide +kernel, by decide +kernel⟩
theorem ok_init_BadRanking {C fI : Addr} {fd : FuncData} (F : FunD K "__init__" "BadRanking.__init__" (defArgs s_init_BadRanking) (defBody s_init_BadRanking) (defScope s_init_BadRanking) [] [] fI fd) (T : OexC K C) (no0 : PySem.W.findIn K (.ref C) "at" = some none) : FnOk P w K mg base CX0 1 fI fd ["self", "at"] (spInit C "at") :=
  init_ok F sc_init_BadRanking T no0 fun cdv A outer s H E => pss_one (ps_ost (pv 0) (pv 1))
abbrev s_init_Unequal : Stmt := inClass (topS 12) 0
theorem sc_init_Unequal : FnScope ["self", "one", "other"] ["self", "one", "other"] (defScope s_init_Unequal) := ⟨rfl, rfl, rfl, by decide +kernel, rfl, by decide +kernel, by decide +kernel⟩
theorem ok_init_Unequal {C fI : Addr} {fd : FuncData} (F : FunD K "__init__" "Unequal.__init__" (defArgs s_init_Unequal) (defBody s_init_Unequal) (defScope s_init_Unequal) [] [] fI fd) (T : OexC K C) (no0 : PySem.W.findIn K (.ref C) "one" = some none) (no1 : PySem.W.findIn K (.ref C) "other" = some none) : FnOk P w K mg base CX0 1 fI fd ["self", "one", "other"] (spInit2 C "one" "other") :=
  init_ok2 F sc_init_Unequal T no0 no1 fun cdv A outer s H E => (pss_cons (ps_ost (pv 0) (pv 1)) (pss_one (ps_ost (pv 0) (pv 2))))
/-- the places of what is above 0 -/
def standing (ns : List Int) : List Int := (upto 0 ns.length).filter fun x => 0 < ns.getD x.toNat 0
theorem standing_step {ns : List Int} {i : Nat} (h : i < ns.length) : ((upto 0 i ++ [(i : Int)]).filter fun x => 0 < ns.getD x.toNat 0) = ((upto 0 i).filter fun x => 0 < ns.getD x.toNat 0) ++ if 0 < ns[i] then [(i : Int)] else [] := by
  rw [List.filter_append]
  congr 1
  simp only [List.filter_cons, List.filter_nil, Int.toNat_natCast]
  have e : ns[i]?.getD 0 = ns[i] := by rw [List.getElem?_eq_getElem h]; rfl
  by_cases z : 0 < ns[i] <;> simp [e, z]
abbrev s_law_standing : Stmt := topS 74
theorem sc_law_standing : FnScope ["bears", "x"] ["bears"] (defScope s_law_standing) := ⟨rfl, rfl, rfl, by decide +kernel, rfl, by decide +kernel, by decide +kernel⟩
--DEF _law_standing
theorem ok_law_standing (h : DefAt K mg "_law_standing" ["bears"] s_law_standing) (g_len : mg "len" = none) (g_range : mg "range" = none) : Okk P w K mg base CX0 (k + 1) "_law_standing" ["bears"] (PF K e1L (fun ns => ns.length ≤ 1000) fun ns r => r = T.row ((standing ns).map .int)) := by
  refine DefAt.pf h sc_law_standing ?_ ?_ fun cdv f A outer s H E hr => ⟨_, (pss_one (ps_ret (pe_lc (own := [("x", 1)]) rfl sc_law_standing.nd (pi_range1 rfl g_range (pa_cons (pe_callB cr_len (by rfl) g_len (by decide +kernel) (pa_cons (pv 0) pa_nil)) pa_nil)) (blkOk_by (own := [("x", 1)]) (N := ["bears", "x"]) (sc := defScope s_law_standing) (by decide +kernel)) (fun _ _ _ _ _ => pg_name (i := 1) sc_law_standing.nd rfl (Or.inl rfl)) (fun _ _ _ _ _ => pts_one (pt_cmpR op_gt (pe_ix (ix_listB (K := K)) (pv 0) (pv 1) (fun _ _ => rfl)) pe_int (nomark _))) (fun _ _ _ _ _ => (pv 1))))), ?_⟩
  · rintro ns _; rfl
  · rintro ns r _ rfl; exact full_ints
  intro ns hl
  have ok := okN (K := K) (A := fun _ => True) (H0 := H) (n := 2)
  walk_at "ev0"
  simp only [List.length_map, Int.toNat_natCast]
  refine lcl (fun i acc => acc = ((upto 0 i).filter fun x => 0 < ns.getD x.toNat 0).map fun x => T.d (.int x)) (by simp) rfl (fun i acc hi hI ha => ?_) fun acc hI _ => ?_
  · walk_at "ev"
    refine vo_ixL (by walk_at "leaf") (dIs_at hi) ?_
    walk_at "ev"
    refine x_dec (fun z => ?_) (fun z => ?_)
    · walk_at "ev"
      walk_at "kk"
      rw [upto_succ, standing_step hi, if_pos z, hI, List.map_append]
      rfl
    · refine ⟨rfl, by walk_at "kill", ?_⟩
      rw [upto_succ, standing_step hi, if_neg z, List.append_nil, hI]
  · walk_at "ev"
    rw [hI]
    unfold standing
    exact row_map _ _
theorem filter_snoc {α : Type} {p : α → Bool} {l : List α} {i : Nat} (h : i < l.length) : (l.take (i + 1)).filter p = (l.take i).filter p ++ if p l[i] = true then [l[i]] else [] := by
  rw [take_snoc h, List.filter_append]
  congr 1
  by_cases z : p l[i] = true
  · rw [if_pos z, List.filter_cons_of_pos z, List.filter_nil]
  · rw [if_neg z, List.filter_cons_of_neg z, List.filter_nil]
theorem nodup_le : ∀ {l l' : List Int}, l.Nodup → (∀ x ∈ l, x ∈ l') → l.length ≤ l'.length
  | [], _, _, _ => Nat.zero_le _
  | x :: l, l', n, s => by
    have hx := s x List.mem_cons_self
    have n' := List.nodup_cons.mp n
    have := nodup_le (l := l) (l' := l'.erase x) n'.2 fun y hy => (List.mem_erase_of_ne (fun e => n'.1 (by rw [← e]; exact hy))).mpr (s y (List.mem_cons_of_mem _ hy))
    rw [List.length_erase_of_mem hx] at this
    have := List.length_pos_of_mem hx
    rw [List.length_cons]
    omega
theorem mem_upto {n : Nat} {x : Int} : x ∈ upto 0 n ↔ 0 ≤ x ∧ x < n := by
  unfold upto
  rw [List.mem_map]
  constructor
  · rintro ⟨j, hj, rfl⟩
    have := List.mem_range.mp hj
    omega
  · rintro ⟨h1, h2⟩
    exact ⟨x.toNat, List.mem_range.mpr (by omega), by omega⟩
theorem nodup_upto (n : Nat) : (upto 0 n).Nodup := by
  unfold upto
  refine List.nodup_iff_pairwise_ne.mpr ?_
  rw [List.pairwise_map]
  exact List.Pairwise.imp (fun h => by omega) (List.nodup_iff_pairwise_ne.mp List.nodup_range)
theorem mem_standing {ns : List Int} {x : Int} : x ∈ standing ns ↔ 0 ≤ x ∧ x < ns.length ∧ 0 < ns.getD x.toNat 0 := by
  unfold standing
  rw [List.mem_filter, mem_upto, decide_eq_true_eq, and_assoc]
theorem nodup_standing (ns : List Int) : (standing ns).Nodup := (nodup_upto _).filter _
theorem ints_eq {ns : List Int} : dIs ns = D.lst [] ↔ ns = [] := by cases ns <;> simp
theorem filter_none {ns : List Int} : ns.filter (fun x => decide (x ∉ ([] : List Int))) = ns := List.filter_eq_self.mpr fun x _ => by simp
theorem standing_length (ns : List Int) : (standing ns).length ≤ ns.length := by
  unfold standing
  refine Nat.le_trans (List.length_filter_le _ _) ?_
  rw [upto_length]
  omega
def goodStage (st wt : List Int) : Prop := st ≠ [] ∧ st.Pairwise (· < ·) ∧ (∀ x ∈ st, -1 < x ∧ x ∈ wt)
abbrev e2L : List Int × List Int → List D := fun a => [dIs a.1, dIs a.2]
abbrev s_check_sides : Stmt := topS 50
theorem sc_check_sides : FnScope ["parties", "names"] ["parties", "names"] (defScope s_check_sides) := ⟨rfl, rfl, rfl, by decide +kernel, rfl, by decide +kernel, by decide +kernel⟩
--DEF check_sides
abbrev e2I : Int × Int → List D := fun a => [.int a.1, .int a.2]
def excSides (C0 C1 : Addr) : Int × Int → Addr → List (Str × V) → Prop := fun a C fs => ((a.1 = 0 ∨ a.2 = 0) ∧ C = C0 ∧ fs = []) ∨ (¬ (a.1 = 0 ∨ a.2 = 0) ∧ (8 < a.1 ∨ 8 < a.2) ∧ C = C1 ∧ fs = [(("limit" : Str), V.int 8)])
theorem ok_check_sides {C_Empty C_TooMany : Addr} {tk : Tok} (h : DefAt K mg "check_sides" ["parties", "names"] s_check_sides) (X_Empty : Ex0 K mg "Empty" C_Empty) (X_TooMany : Ex1 P w K mg base "TooMany" C_TooMany "limit") (g_MOST_SIDE : mg "MOST_SIDE" = some (.int 8 tk)) :
    Okk P w K mg base (L2.CX P w) (k + 2 + 1) "check_sides" ["parties", "names"] (PFX K e2I (fun _ => True) (fun a r => r = .d .non ∧ a.1 ≠ 0 ∧ a.2 ≠ 0 ∧ a.1 ≤ 8 ∧ a.2 ≤ 8) (excSides C_Empty C_TooMany)) := by
  refine DefAt.pfx h sc_check_sides ?_ ?_ fun cdv f A outer s H E hr => ⟨_, (pss_cons (ps_if (PW.pt (pw_or (pt_cmpR op_eq (pv 0) pe_int (nomark _)) (pw_or1 (pt_cmpR op_eq (pv 1) pe_int (nomark _))))) (pss_one (ps_raise0 rfl (takes_of rfl rfl rfl rfl) X_Empty)) pss_nil)
      (pss_one (ps_if (PW.pt (pw_or (pt_cmpR op_gt (pv 0) (pe_glob (v := .int 8) rfl g_MOST_SIDE ⟨_, rfl⟩) (nomark _)) (pw_or1 (pt_cmpR op_gt (pv 1) (pe_glob (v := .int 8) rfl g_MOST_SIDE ⟨_, rfl⟩) (nomark _))))) (pss_one (ps_raise1 rfl (takes_of rfl rfl rfl rfl) X_TooMany (hr.mono (by omega)) (pe_glob (v := .int 8) rfl g_MOST_SIDE ⟨_, rfl⟩))) pss_nil))), ?_⟩
  · rintro ns _; rfl
  · rintro ns r _ ⟨rfl, _⟩; rfl
  rintro ⟨a, b⟩ _
  have ok := okX (K := K) (A := fun _ => True) (H0 := H) (n := 2) (W := fun cls d _ H' => E cls d H') (xc := fun C fs _ => excSides C_Empty C_TooMany (a, b) C fs)
  walk_at "ev0"
  refine x_dec (fun z => ?_) (fun z => ?_)
  · walk_at "ev"
    exact .inl ⟨.inl z, rfl, rfl⟩
  walk_at "ev"
  refine x_dec (fun y => ?_) (fun y => ?_)
  · walk_at "ev"
    exact .inl ⟨.inr y, rfl, rfl⟩
  walk_at "ev"
  refine x_dec (fun u => ?_) (fun u => ?_)
  · walk_at "ev"
    exact .inr ⟨fun q => q.elim z y, .inl u, rfl, rfl⟩
  walk_at "ev"
  refine x_dec (fun t => ?_) (fun t => ?_)
  · walk_at "ev"
    exact .inr ⟨fun q => q.elim z y, .inr t, rfl, rfl⟩
  · walk_at "ev"
    exact ⟨rfl, z, y, by show a ≤ 8; omega, by show b ≤ 8; omega⟩
abbrev s_check_number : Stmt := topS 52
theorem sc_check_number : FnScope ["number", "many"] ["number", "many"] (defScope s_check_number) := ⟨rfl, rfl, rfl, by decide +kernel, rfl, by decide +kernel, by decide +kernel⟩
--DEF check_number
abbrev s_check_amounts : Stmt := topS 51
theorem sc_check_amounts : FnScope ["amounts", "low", "high", "at", "amount"] ["amounts", "low", "high"] (defScope s_check_amounts) := ⟨rfl, rfl, rfl, by decide +kernel, rfl, by decide +kernel, by decide +kernel⟩
--DEF check_amounts
abbrev eAm : List Int × Int × Int → List D := fun a => [dIs a.1, .int a.2.1, .int a.2.2]
theorem ok_check_amountsV {C_BadShare : Addr} (h : DefAt K mg "check_amounts" ["amounts", "low", "high"] s_check_amounts) (g_enumerate : mg "enumerate" = none) (X_BadShare : Ex1 P w K mg base "BadShare" C_BadShare "at") :
    Okk P w K mg base (L2.CX P w) (k + 2 + 1) "check_amounts" ["amounts", "low", "high"] (PFX K eAm (fun _ => True) (fun a r => r = .d .non ∧ ∀ x ∈ a.1, a.2.1 ≤ x ∧ x ≤ a.2.2) fun a C fs => ∃ i : Nat, fOut a.2.1 a.2.2 a.1 = some i ∧ C = C_BadShare ∧ fs = [(("at" : Str), V.int (i : Int))]) := by
  refine DefAt.pfx h sc_check_amounts ?_ ?_ fun cdv f A outer s H E hr => ⟨_, (pss_one (ps_for (passes_of rfl) rfl (pi_enum (by rfl) g_enumerate (pa_cons (pv 0) pa_nil)) (pg_tup rfl (pgs_cons (pg_name (i := 3) sc_check_amounts.nd rfl (Or.inl rfl)) (pgs_cons (pg_name (i := 4) sc_check_amounts.nd rfl (Or.inl rfl)) pgs_nil)))
        (pss_one (ps_if (PW.pt (pw_or (pt_cmpR op_lt (pv 4) (pv 1) (nomark _)) (pw_or1 (pt_cmpR op_gt (pv 4) (pv 2) (nomark _))))) (pss_one (ps_raise1 rfl (takes_of rfl rfl rfl rfl) X_BadShare (hr.mono (by omega)) (pv 3))) pss_nil)))), ?_⟩
  · rintro ns _; rfl
  · rintro ns r _ ⟨rfl, _⟩; rfl
  rintro ⟨ns, lo, hi⟩ _
  have ok := okX (K := K) (A := fun _ => True) (H0 := H) (n := 5) (W := fun cls d _ H' => E cls d H') (xc := fun C fs _ => ∃ i : Nat, fOut lo hi ns = some i ∧ C = C_BadShare ∧ fs = [(("at" : Str), V.int (i : Int))])
  walk_at "ev0"
  refine loopK [3, 4] (fun i ρ => ρ = [cD (dIs ns), cI lo, cI hi, .dead, .dead] ∧ ∀ x ∈ ns.take i, lo ≤ x ∧ x ≤ hi) ⟨rfl, by simp⟩ ?_ ?_
  · rintro i ρ hi' ⟨rfl, h1⟩
    rw [List.length_map] at hi'
    rw [getD_ints hi']
    walk_at "ev"
    refine x_dec (fun z => ?_) (fun z => ?_)
    · walk_at "ev"
      exact ⟨i, fOut_take h1 (List.getElem?_eq_getElem hi') (.inl z), rfl, rfl⟩
    walk_at "ev"
    refine x_dec (fun y => ?_) (fun y => ?_)
    · walk_at "ev"
      exact ⟨i, fOut_take h1 (List.getElem?_eq_getElem hi') (.inr y), rfl, rfl⟩
    · walk_at "ev"
      walk_at "kl"
      exact ⟨rfl, forall_take hi' h1 ⟨by omega, by omega⟩⟩
  · rintro ρ ⟨rfl, h1⟩
    rw [List.length_map, List.take_length] at h1
    exact ⟨rfl, h1⟩
/-- a moment's lists -/
structure Mo where
  ranks : List (List Int)
  left : List Int
  bears : List Int
abbrev dIss (rs : List (List Int)) : D := .lst (rs.map dIs)
def Mo.fields (m : Mo) : List (Str × D) := [("own_ranks", dIss m.ranks), ("own_left", dIs m.left), ("own_bears", dIs m.bears), ("own_total", .int m.left.sum), ("own_standing", dIs (standing m.bears))]
abbrev Mo.args (m : Mo) : List D := [dIss m.ranks, dIs m.left, dIs m.bears]
/-- the first row with a rank out of range -/
def rowOut : List (List Int) → Option Nat
  | [] => none
  | r :: l => if fOut 0 1000000 r ≠ none then some 0 else (rowOut l).map (· + 1)
theorem rowOut_take : ∀ {rs : List (List Int)} {i : Nat}, (∀ r ∈ rs.take i, fOut 0 1000000 r = none) → ∀ {r : List Int}, rs[i]? = some r → fOut 0 1000000 r ≠ none → rowOut rs = some i
  | [], _, _, _, e, _ => by cases e
  | y :: l, 0, _, x, e, o => by
    cases e
    unfold rowOut
    rw [if_pos o]
  | y :: l, i + 1, h, x, e, o => by
    have h0 := h y (by rw [List.take_succ_cons]; exact List.mem_cons_self)
    unfold rowOut
    rw [if_neg (fun z => z h0), rowOut_take (rs := l) (i := i) (fun z hz => h z (by rw [List.take_succ_cons]; exact List.mem_cons_of_mem _ hz)) (r := x) e o]
    rfl
theorem rowOut_none : ∀ {rs : List (List Int)}, (∀ r ∈ rs, fOut 0 1000000 r = none) → rowOut rs = none
  | [], _ => rfl
  | y :: l, h => by
    unfold rowOut
    rw [if_neg (fun z => z (h y List.mem_cons_self)), rowOut_none fun x hx => h x (List.mem_cons_of_mem _ hx)]
    rfl
theorem fOut_iff {lo hi : Int} {ns : List Int} : fOut lo hi ns = none ↔ ∀ x ∈ ns, lo ≤ x ∧ x ≤ hi := by
  refine ⟨fun h => ?_, fOut_none⟩
  induction ns with
  | nil => simp
  | cons y l ih =>
    unfold fOut at h
    by_cases z : y < lo ∨ hi < y
    · rw [if_pos z] at h
      cases h
    · rw [if_neg z, Option.map_eq_none_iff] at h
      intro x hx
      rcases List.mem_cons.mp hx with rfl | hx
      · omega
      · exact ih h x hx
theorem rows_data {rs : List (List Int)} : (T.lst (rs.map fun ns => T.row (ns.map .int))).data = dIss rs := by
  show D.lst _ = _
  congr 1
  induction rs with
  | nil => rfl
  | cons r l ih =>
    show T.data _ :: T.datas _ = dIs r :: l.map dIs
    rw [ih, T.data_row]
/-- what a moment's lists are refused for -/
inductive MoBad (C0 C1 C2 C3 C4 : Addr) (m : Mo) : Addr → List (Str × V) → Prop
  | side {C fs} : excSides C0 C1 ((m.ranks.length : Int), (m.bears.length : Int)) C fs → MoBad C0 C1 C2 C3 C4 m C fs
  | amt (i : Nat) : fOut 0 100000000000000 (m.left ++ m.bears) = some i → MoBad C0 C1 C2 C3 C4 m C2 [(("at" : Str), V.int (i : Int))]
  | row (i : Nat) : fOut 0 100000000000000 (m.left ++ m.bears) = none → rowOut m.ranks = some i → MoBad C0 C1 C2 C3 C4 m C3 [(("at" : Str), V.int (i : Int))]
  | sum : fOut 0 100000000000000 (m.left ++ m.bears) = none → rowOut m.ranks = none → m.left.sum ≠ m.bears.sum → MoBad C0 C1 C2 C3 C4 m C4 [(("other" : Str), V.int m.bears.sum), (("one" : Str), V.int m.left.sum)]
/-- lists that make a moment -/
structure Mo.Ok (m : Mo) : Prop where
  r1 : 1 ≤ m.ranks.length ∧ m.ranks.length ≤ 8
  b1 : 1 ≤ m.bears.length ∧ m.bears.length ≤ 8
  am : ∀ x ∈ m.left ++ m.bears, 0 ≤ x ∧ x ≤ 100000000000000
  rk : ∀ r ∈ m.ranks, ∀ x ∈ r, 0 ≤ x ∧ x ≤ 1000000
  su : m.left.sum = m.bears.sum
theorem dIss_get {rs : List (List Int)} {i : Nat} (h : i < rs.length) : (rs.map dIs).getD i .non = dIs rs[i] := by
  rw [List.getD_eq_getElem?_getD, List.getElem?_map, List.getElem?_eq_getElem h]
  rfl
abbrev s_Moment_init : Stmt := inClass (topS 53) 0
theorem sc_Moment_init : FnScope ["self", "ranks", "left", "bears", "party", "row", "name", "strokes"] ["self", "ranks", "left", "bears"] (defScope s_Moment_init) := ⟨rfl, rfl, rfl, by decide +kernel, rfl, by decide +kernel, by decide +kernel⟩
--DEF __init__ Moment
set_option maxHeartbeats 4000000 in
theorem ok_Moment_init {C_Moment C_Empty C_TooMany C_BadShare C_BadRanking C_Unequal fI : Addr} {fd : FuncData} {tk1 tk2 : Tok} (h : FunD K "__init__" "Moment.__init__" (defArgs s_Moment_init) (defBody s_Moment_init) (defScope s_Moment_init) [] [] fI fd) (g_len : mg "len" = none) (g_list : mg "list" = none) (g_enumerate : mg "enumerate" = none) (g_min : mg "min" = none) (g_max : mg "max" = none) (g_sum : mg "sum" = none)
    (g_MOST_STROKES : mg "MOST_STROKES" = some (.int 100000000000000 tk1)) (g_MOST_RANK : mg "MOST_RANK" = some (.int 1000000 tk2)) (X_BadRanking : Ex1 P w K mg base "BadRanking" C_BadRanking "at") (X_Unequal : Ex2 P w K mg base "Unequal" C_Unequal "one" "other")
    (c_M : Cls K C_Moment) (n1 : NoAttr K C_Moment "own_ranks") (n2 : NoAttr K C_Moment "own_left") (n3 : NoAttr K C_Moment "own_bears") (n4 : NoAttr K C_Moment "own_total") (n5 : NoAttr K C_Moment "own_standing")
    (D_check_sides : Okk P w K mg base (L2.CX P w) k "check_sides" ["parties", "names"] (PFX K e2I (fun _ => True) (fun a r => r = .d .non ∧ a.1 ≠ 0 ∧ a.2 ≠ 0 ∧ a.1 ≤ 8 ∧ a.2 ≤ 8) (excSides C_Empty C_TooMany)))
    (D_check_amounts : Okk P w K mg base (L2.CX P w) k "check_amounts" ["amounts", "low", "high"] (PFX K eAm (fun _ => True) (fun a r => r = .d .non ∧ ∀ x ∈ a.1, a.2.1 ≤ x ∧ x ≤ a.2.2) fun a C fs => ∃ i : Nat, fOut a.2.1 a.2.2 a.1 = some i ∧ C = C_BadShare ∧ fs = [(("at" : Str), V.int (i : Int))])) (hk : 2 ≤ k) :
    FnOk P w K mg base (L2.CX P w) (k + 1) fI fd ["self", "ranks", "left", "bears"] (PFI K C_Moment Mo.args (fun m => (∀ r ∈ m.ranks, r ≠ []) ∧ m.left.length ≤ 1000 ∧ m.bears.length ≤ 1000 ∧ m.ranks.length ≤ 1000 ∧ ∀ r ∈ m.ranks, r.length ≤ 1000) (fun m fs => m.Ok ∧ fs = m.fields) (MoBad C_Empty C_TooMany C_BadShare C_BadRanking C_Unequal)) := by
  refine FunD.pfi h sc_Moment_init ?_ fun cdv A outer s H E hr => ⟨_, (pss_cons (ps_expr (pe_ownX D_check_sides hr (passes_call (takes_of rfl rfl rfl rfl) fun _ _ _ _ z => z) (pa_cons (pe_callB cr_len (by rfl) g_len (by decide +kernel) (pa_cons (pv 1) pa_nil)) (pa_cons (pe_callB cr_len (by rfl) g_len (by decide +kernel) (pa_cons (pv 3) pa_nil)) pa_nil))))
      (pss_cons (ps_expr (pe_ownX D_check_amounts hr (passes_call (takes_of rfl rfl rfl rfl) fun _ _ _ _ z => z) (pa_cons (pe_op op_cat (pe_callTy cr_list (by rfl) g_list (by decide +kernel) (pa_cons (pv 2) pa_nil)) (pe_callTy cr_list (by rfl) g_list (by decide +kernel) (pa_cons (pv 3) pa_nil))) (pa_cons pe_int (pa_cons (pe_glob (v := .int 100000000000000) rfl g_MOST_STROKES ⟨_, rfl⟩) pa_nil)))))
      (pss_cons (ps_for (passes_of rfl) rfl (pi_enum (by rfl) g_enumerate (pa_cons (pv 1) pa_nil)) (pg_tup rfl (pgs_cons (pg_name (i := 4) sc_Moment_init.nd rfl (Or.inl rfl)) (pgs_cons (pg_name (i := 5) sc_Moment_init.nd rfl (Or.inl rfl)) pgs_nil)))
        (pss_one (ps_if (PW.pt (pw_or (pt_cmpR op_lt (pe_callB (cr_min rfl) (by rfl) g_min (by decide +kernel) (pa_cons (pv 5) pa_nil)) pe_int (nomark _)) (pw_or1 (pt_cmpR op_gt (pe_callB (cr_max rfl) (by rfl) g_max (by decide +kernel) (pa_cons (pv 5) pa_nil)) (pe_glob (v := .int 1000000) rfl g_MOST_RANK ⟨_, rfl⟩) (nomark _))))) (pss_one (ps_raise1 rfl (takes_of rfl rfl rfl rfl) X_BadRanking (hr.mono (by omega)) (pv 4))) pss_nil)))
      (pss_cons (ps_if (pt_cmpR op_ne (pe_callB (cr_sum rfl) (by rfl) g_sum (by decide +kernel) (pa_cons (pv 2) pa_nil)) (pe_callB (cr_sum rfl) (by rfl) g_sum (by decide +kernel) (pa_cons (pv 3) pa_nil)) (nomark _)) (pss_one (ps_raise2 rfl (takes_of rfl rfl rfl rfl) X_Unequal (hr.mono (by omega)) (pe_callB (cr_sum rfl) (by rfl) g_sum (by decide +kernel) (pa_cons (pv 2) pa_nil)) (pe_callB (cr_sum rfl) (by rfl) g_sum (by decide +kernel) (pa_cons (pv 3) pa_nil)))) pss_nil)
      (pss_cons (L2.ps_fld (pv 0) (pe_lc (own := [("row", 5)]) rfl sc_Moment_init.nd (pi_list (pv 1)) (blkOk_by (own := [("row", 5)]) (N := ["self", "ranks", "left", "bears", "party", "row", "name", "strokes"]) (sc := defScope s_Moment_init) (by decide +kernel)) (fun _ _ _ _ _ => pg_name (i := 5) sc_Moment_init.nd rfl (Or.inl rfl)) (fun _ _ _ _ _ => pts_nil) (fun _ _ _ _ _ => (pe_callTy (cr_listB (K := K)) (by rfl) g_list (by decide +kernel) (pa_cons (pv 5) pa_nil)))) rfl)
      (pss_cons (L2.ps_fld (pv 0) (pe_callTy cr_list (by rfl) g_list (by decide +kernel) (pa_cons (pv 2) pa_nil)) rfl)
      (pss_cons (L2.ps_fld (pv 0) (pe_callTy cr_list (by rfl) g_list (by decide +kernel) (pa_cons (pv 3) pa_nil)) rfl)
      (pss_cons (L2.ps_fld (pv 0) (pe_callB (cr_sum rfl) (by rfl) g_sum (by decide +kernel) (pa_cons (pv 2) pa_nil)) rfl)
      (pss_one (L2.ps_fld (pv 0) (pe_lc (own := [("name", 6), ("strokes", 7)]) rfl sc_Moment_init.nd (pi_enum (by rfl) g_enumerate (pa_cons (pv 3) pa_nil)) (blkOk_by (own := [("name", 6), ("strokes", 7)]) (N := ["self", "ranks", "left", "bears", "party", "row", "name", "strokes"]) (sc := defScope s_Moment_init) (by decide +kernel)) (fun _ _ _ _ _ => (pg_tupB (K := K) (n := 2) rfl (pgs_cons (pg_name (i := 6) sc_Moment_init.nd rfl (Or.inl rfl)) (pgs_cons (pg_name (i := 7) sc_Moment_init.nd rfl (Or.inl rfl)) pgs_nil)))) (fun _ _ _ _ _ => pts_one (pt_cmpR op_gt (pv 7) pe_int (nomark _))) (fun _ _ _ _ _ => (pv 6))) rfl)))))))))), ?_⟩
  · rintro ns _; rfl
  rintro m ⟨h1, h2, h3, h4, h5⟩ B H0 a dx
  have ok := okX (K := K) (A := B) (H0 := H0) (n := 8) (W := fun cls d _ H' => E cls d H') (xc := fun C fs _ => MoBad C_Empty C_TooMany C_BadShare C_BadRanking C_Unequal m C fs)
  walk_at "ev0"
  refine ⟨((m.ranks.map dIs).length, (m.bears.map D.int).length), by walk_at "lkl", trivial, ?_, ?_⟩
  · rintro r ⟨rfl, b1, b2, b3, b4⟩
    simp only [List.length_map] at b1 b2 b3 b4
    walk_at "ev"
    refine vo_cat ok (by walk_at "leaf") (by walk_at "leaf") (by simp only [List.length_map]; omega) ?_
    rw [← List.map_append]
    walk_at "ev"
    refine ⟨(m.left ++ m.bears, 0, 100000000000000), by walk_at "lkl", trivial, ?_, ?_⟩
    · rintro r ⟨rfl, am⟩
      walk_at "ev"
      refine loopK [4, 5] (fun i ρ => ρ = [.ins a dx C_Moment [], cD (dIss m.ranks), cD (dIs m.left), cD (dIs m.bears), .dead, .dead, .dead, .dead] ∧ ∀ r ∈ m.ranks.take i, fOut 0 1000000 r = none) ⟨rfl, by simp⟩ ?_ ?_
      · rintro i ρ hi ⟨rfl, hr⟩
        rw [List.length_map] at hi
        rw [dIss_get hi]
        walk_at "ev"
        have hm : m.ranks[i] ∈ m.ranks := List.getElem_mem hi
        have hn := List.length_pos_iff.mpr (h1 _ hm)
        have bad : ∀ x ∈ m.ranks[i], (x < 0 ∨ 1000000 < x) → rowOut m.ranks = some i := fun x hx o => by
          refine rowOut_take hr (List.getElem?_eq_getElem hi) fun e => ?_
          have := fOut_iff.mp e x hx
          omega
        refine vo_minL (by walk_at "lk") hn fun mn k1 k2 => ?_
        walk_at "ev"
        refine x_dec (fun z => ?_) (fun z => ?_)
        · walk_at "ev"
          exact .row i (fOut_none am) (bad mn k1 (.inl z))
        walk_at "ev"
        refine vo_maxL (by walk_at "lk") hn fun mx k3 k4 => ?_
        walk_at "ev"
        refine x_dec (fun y => ?_) (fun y => ?_)
        · walk_at "ev"
          exact .row i (fOut_none am) (bad mx k3 (.inr y))
        · walk_at "ev"
          walk_at "kl"
          exact ⟨rfl, forall_take hi hr (fOut_none fun x hx => ⟨by have := k2 x hx; omega, by have := k4 x hx; omega⟩)⟩
      · rintro ρ ⟨rfl, hr⟩
        rw [List.length_map, List.take_length] at hr
        have hr' := rowOut_none hr
        have hrr := hr
        walk_at "ev"
        refine x_ndec (fun z => ?_) (fun z => ?_)
        · walk_at "ev"
          exact .sum (fOut_none am) hr' z
        walk_at "ev"
        refine ⟨by rw [List.length_map]; omega, ?_⟩
        rw [List.length_map]
        refine lcl (fun i acc => acc = (m.ranks.take i).map fun ns => T.row (ns.map .int)) (by simp) rfl (fun i acc hi hI ha => ?_) fun acc hI _ => ?_
        · rw [dIss_get hi]
          walk_at "ev"
          walk_at "kk"
          rw [take_snoc hi, hI, List.map_append]
          rfl
        · rw [List.take_length] at hI
          subst hI
          refine fl_done full_rows rows_data (by walk_at "cat") c_M n1 (by simp) rfl (by walk_at "cset") ?_
          walk_at "ev"
          refine ⟨by rw [List.length_map]; omega, ?_⟩
          rw [List.length_map]
          refine lcl (fun i acc => acc = ((upto 0 i).filter fun x => 0 < m.bears.getD x.toNat 0).map fun x => T.d (.int x)) (by simp) rfl (fun i acc hi hI ha => ?_) fun acc hI _ => ?_
          · rw [getD_ints hi]
            walk_at "ev"
            refine x_dec (fun z => ?_) (fun z => ?_)
            · walk_at "ev"
              walk_at "kk"
              rw [upto_succ, standing_step hi, if_pos z, hI, List.map_append]
              rfl
            · refine ⟨rfl, by walk_at "kill", ?_⟩
              rw [upto_succ, standing_step hi, if_neg z, List.append_nil, hI]
          · have es : T.lst acc = T.row ((standing m.bears).map .int) := by
              rw [hI]
              unfold standing
              exact row_map _ _
            rw [es]
            refine fl_done full_ints (T.data_row _) (by walk_at "cat") c_M n5 (Nat.le_of_ble_eq_true rfl) rfl (by walk_at "cset") ?_
            walk_at "ev"
            refine ⟨_, by walk_at "cat", ⟨⟨?_, ?_⟩, ⟨?_, ?_⟩, am, ?_, z⟩, rfl⟩
            · omega
            · omega
            · omega
            · omega
            · exact fun r hr x hx => fOut_iff.mp (hrr r hr) x hx
    · rintro C fs ⟨i, e, rfl, rfl⟩
      exact .amt i e
  · rintro C fs z
    simp only [List.length_map] at z
    exact .side z
abbrev s_Moment_left : Stmt := inClass (topS 53) 4
theorem sc_Moment_left : FnScope ["self"] ["self"] (defScope s_Moment_left) := ⟨rfl, rfl, rfl, by decide +kernel, rfl, by decide +kernel, by decide +kernel⟩
--DEF left Moment
theorem ok_Moment_left {C_Moment f : Addr} {fd : FuncData} (h : FunD K "left" "Moment.left" (defArgs s_Moment_left) (defBody s_Moment_left) (defScope s_Moment_left) [] [] f fd) (g_list : mg "list" = none) (c_M : Cls K C_Moment) (n2 : NoAttr K C_Moment "own_left") :
    FnOk P w K mg base CX0 (k + 1) f fd ["self"] (PF K (fun m : Mo => [.obj C_Moment m.fields]) (fun _ => True) fun m r => r = T.row (m.left.map .int)) := by
  refine FunD.pf h sc_Moment_left ?_ ?_ fun cdv A outer s H E hr => ⟨_, (pss_one (ps_ret (pe_callTy cr_list (by rfl) g_list (by decide +kernel) (pa_cons (L2.pe_fld (pv 0) rfl) pa_nil)))), ?_⟩
  · rintro ns _; rfl
  · rintro ns r _ rfl; exact full_ints
  intro m _
  have ok := okN (K := K) (A := fun _ => True) (H0 := H) (n := 1)
  walk_at "ev0"
  rfl
abbrev s_Moment_ranks : Stmt := inClass (topS 53) 3
theorem sc_Moment_ranks : FnScope ["self", "row"] ["self"] (defScope s_Moment_ranks) := ⟨rfl, rfl, rfl, by decide +kernel, rfl, by decide +kernel, by decide +kernel⟩
--DEF ranks Moment
theorem ok_Moment_ranks {C_Moment f : Addr} {fd : FuncData} (h : FunD K "ranks" "Moment.ranks" (defArgs s_Moment_ranks) (defBody s_Moment_ranks) (defScope s_Moment_ranks) [] [] f fd) (g_list : mg "list" = none) (c_M : Cls K C_Moment) (n2 : NoAttr K C_Moment "own_ranks") :
    FnOk P w K mg base CX0 (k + 1) f fd ["self"] (PF K (fun m : Mo => [.obj C_Moment m.fields]) (fun m => m.ranks.length ≤ 1000) fun m r => r = T.lst (m.ranks.map fun ns => T.row (ns.map .int))) := by
  refine FunD.pf h sc_Moment_ranks ?_ ?_ fun cdv A outer s H E hr => ⟨_, (pss_one (ps_ret (pe_lc (own := [("row", 1)]) rfl sc_Moment_ranks.nd (pi_list (L2.pe_fld (pv 0) rfl)) (blkOk_by (own := [("row", 1)]) (N := ["self", "row"]) (sc := defScope s_Moment_ranks) (by decide +kernel)) (fun _ _ _ _ _ => pg_name (i := 1) sc_Moment_ranks.nd rfl (Or.inl rfl)) (fun _ _ _ _ _ => pts_nil) (fun _ _ _ _ _ => (pe_callTy (cr_listB (K := K)) (by rfl) g_list (by decide +kernel) (pa_cons (pv 1) pa_nil)))))), ?_⟩
  · rintro ns _; rfl
  · rintro ns r _ rfl; exact full_rows
  intro m hm
  have ok := okN (K := K) (A := fun _ => True) (H0 := H) (n := 2)
  walk_at "ev0"
  refine ⟨by rw [List.length_map]; omega, ?_⟩
  rw [List.length_map]
  refine lcl (fun i acc => acc = (m.ranks.take i).map fun ns => T.row (ns.map .int)) (by simp) rfl (fun i acc hi hI ha => ?_) fun acc hI _ => ?_
  · rw [dIss_get hi]
    walk_at "ev"
    walk_at "kk"
    rw [take_snoc hi, hI, List.map_append]
    rfl
  · walk_at "ev"
    rw [hI, List.take_length]
abbrev s_Moment_bears : Stmt := inClass (topS 53) 5
theorem sc_Moment_bears : FnScope ["self"] ["self"] (defScope s_Moment_bears) := ⟨rfl, rfl, rfl, by decide +kernel, rfl, by decide +kernel, by decide +kernel⟩
--DEF bears Moment
theorem ok_Moment_bears {C_Moment f : Addr} {fd : FuncData} (h : FunD K "bears" "Moment.bears" (defArgs s_Moment_bears) (defBody s_Moment_bears) (defScope s_Moment_bears) [] [] f fd) (g_list : mg "list" = none) (c_M : Cls K C_Moment) (n2 : NoAttr K C_Moment "own_bears") :
    FnOk P w K mg base CX0 (k + 1) f fd ["self"] (PF K (fun m : Mo => [.obj C_Moment m.fields]) (fun _ => True) fun m r => r = T.row (m.bears.map .int)) := by
  refine FunD.pf h sc_Moment_bears ?_ ?_ fun cdv A outer s H E hr => ⟨_, (pss_one (ps_ret (pe_callTy cr_list (by rfl) g_list (by decide +kernel) (pa_cons (L2.pe_fld (pv 0) rfl) pa_nil)))), ?_⟩
  · rintro ns _; rfl
  · rintro ns r _ rfl; exact full_ints
  intro m _
  have ok := okN (K := K) (A := fun _ => True) (H0 := H) (n := 1)
  walk_at "ev0"
  rfl
abbrev s_Moment_total : Stmt := inClass (topS 53) 6
theorem sc_Moment_total : FnScope ["self"] ["self"] (defScope s_Moment_total) := ⟨rfl, rfl, rfl, by decide +kernel, rfl, by decide +kernel, by decide +kernel⟩
--DEF total Moment
theorem ok_Moment_total {C_Moment f : Addr} {fd : FuncData} (h : FunD K "total" "Moment.total" (defArgs s_Moment_total) (defBody s_Moment_total) (defScope s_Moment_total) [] [] f fd) (c_M : Cls K C_Moment) (n2 : NoAttr K C_Moment "own_total") :
    FnOk P w K mg base CX0 (k + 1) f fd ["self"] (PF K (fun m : Mo => [.obj C_Moment m.fields]) (fun _ => True) fun m r => r = T.d (.int m.left.sum)) := by
  refine FunD.pf h sc_Moment_total ?_ ?_ fun cdv A outer s H E hr => ⟨_, (pss_one (ps_ret (L2.pe_fld (pv 0) rfl))), ?_⟩
  · rintro ns _; rfl
  · rintro ns r _ rfl; exact rfl
  intro m _
  have ok := okN (K := K) (A := fun _ => True) (H0 := H) (n := 1)
  walk_at "ev0"
  rfl
abbrev s_Moment_standing : Stmt := inClass (topS 53) 7
theorem sc_Moment_standing : FnScope ["self"] ["self"] (defScope s_Moment_standing) := ⟨rfl, rfl, rfl, by decide +kernel, rfl, by decide +kernel, by decide +kernel⟩
--DEF standing Moment
theorem ok_Moment_standing {C_Moment f : Addr} {fd : FuncData} (h : FunD K "standing" "Moment.standing" (defArgs s_Moment_standing) (defBody s_Moment_standing) (defScope s_Moment_standing) [] [] f fd) (g_list : mg "list" = none) (c_M : Cls K C_Moment) (n2 : NoAttr K C_Moment "own_standing") :
    FnOk P w K mg base CX0 (k + 1) f fd ["self"] (PF K (fun m : Mo => [.obj C_Moment m.fields]) (fun _ => True) fun m r => r = T.row ((standing m.bears).map .int)) := by
  refine FunD.pf h sc_Moment_standing ?_ ?_ fun cdv A outer s H E hr => ⟨_, (pss_one (ps_ret (pe_callTy cr_list (by rfl) g_list (by decide +kernel) (pa_cons (L2.pe_fld (pv 0) rfl) pa_nil)))), ?_⟩
  · rintro ns _; rfl
  · rintro ns r _ rfl; exact full_ints
  intro m _
  have ok := okN (K := K) (A := fun _ => True) (H0 := H) (n := 1)
  walk_at "ev0"
  rfl
abbrev s_Moment_is_over : Stmt := inClass (topS 53) 8
theorem sc_Moment_is_over : FnScope ["self"] ["self"] (defScope s_Moment_is_over) := ⟨rfl, rfl, rfl, by decide +kernel, rfl, by decide +kernel, by decide +kernel⟩
--DEF is_over Moment
theorem ok_Moment_is_over {C_Moment f : Addr} {fd : FuncData} (h : FunD K "is_over" "Moment.is_over" (defArgs s_Moment_is_over) (defBody s_Moment_is_over) (defScope s_Moment_is_over) [] [] f fd) (c_M : Cls K C_Moment) (n2 : NoAttr K C_Moment "own_total") :
    FnOk P w K mg base CX0 (k + 1) f fd ["self"] (PF K (fun m : Mo => [.obj C_Moment m.fields]) (fun _ => True) fun m r => r = T.d (.bl (decide (m.left.sum = 0)))) := by
  refine FunD.pf h sc_Moment_is_over ?_ ?_ fun cdv A outer s H E hr => ⟨_, (pss_one (ps_ret (pe_cmpR op_eq (L2.pe_fld (pv 0) rfl) pe_int (nomark _)))), ?_⟩
  · rintro ns _; rfl
  · rintro ns r _ rfl; exact rfl
  intro m _
  have ok := okN (K := K) (A := fun _ => True) (H0 := H) (n := 1)
  walk_at "ev0"
  rfl
/-- the moment behind a strike -/
def Mo.after (m : Mo) (p x : Nat) (c : Int) : Mo := ⟨m.ranks, m.left.set p (m.left.getD p 0 - c), m.bears.set x (m.bears.getD x 0 - c)⟩
abbrev eAft (C : Addr) : Mo × Int × Int × Int → List D := fun a => [.obj C a.1.fields, .int a.2.1, .int a.2.2.1, .int a.2.2.2]
/-- what a strike is refused for -/
def badStrike (CU CS : Addr) : Mo × Int × Int × Int → Addr → List (Str × V) → Prop := fun a C fs =>
  ((a.2.1 < 0 ∨ (a.1.left.length : Int) ≤ a.2.1) ∧ C = CU ∧ fs = [(("number" : Str), V.int a.2.1)]) ∨
  (¬ (a.2.1 < 0 ∨ (a.1.left.length : Int) ≤ a.2.1) ∧ (a.2.2.1 < 0 ∨ (a.1.bears.length : Int) ≤ a.2.2.1) ∧ C = CU ∧ fs = [(("number" : Str), V.int a.2.2.1)]) ∨
  (¬ (a.2.1 < 0 ∨ (a.1.left.length : Int) ≤ a.2.1) ∧ ¬ (a.2.2.1 < 0 ∨ (a.1.bears.length : Int) ≤ a.2.2.1) ∧ (a.2.2.2 < 1 ∨ a.1.left.getD a.2.1.toNat 0 < a.2.2.2 ∨ a.1.bears.getD a.2.2.1.toNat 0 < a.2.2.2) ∧ C = CS ∧ fs = [(("at" : Str), V.int 0)])
theorem sum_set : ∀ {ns : List Int} {i : Nat} {v : Int}, i < ns.length → (ns.set i v).sum = ns.sum - ns.getD i 0 + v
  | [], _, _, h => by cases h
  | y :: l, 0, v, _ => by
    show (v :: l).sum = _
    rw [List.sum_cons, List.sum_cons]
    show _ = y + l.sum - y + v
    omega
  | y :: l, i + 1, v, h => by
    have ih := sum_set (ns := l) (i := i) (v := v) (Nat.lt_of_succ_lt_succ h)
    show (y :: l.set i v).sum = _
    rw [List.sum_cons, List.sum_cons, ih]
    show _ = y + l.sum - l.getD i 0 + v
    omega
theorem mem_set {ns : List Int} {i : Nat} {v x : Int} (h : x ∈ ns.set i v) : x ∈ ns ∨ x = v := List.mem_or_eq_of_mem_set h
theorem Mo.Ok.after {m : Mo} (h : m.Ok) {p x : Nat} {c : Int} (hp : p < m.left.length) (hx : x < m.bears.length) (h1 : 1 ≤ c) (h2 : c ≤ m.left[p]) (h3 : c ≤ m.bears[x]) : (m.after p x c).Ok := by
  have gp : m.left.getD p 0 = m.left[p] := getD_at hp
  have gx : m.bears.getD x 0 = m.bears[x] := getD_at hx
  have a1 := h.am _ (List.mem_append_left _ (List.getElem_mem hp))
  have a2 := h.am _ (List.mem_append_right _ (List.getElem_mem hx))
  refine ⟨h.r1, ?_, fun y hy => ?_, h.rk, ?_⟩
  · show 1 ≤ (m.bears.set _ _).length ∧ (m.bears.set _ _).length ≤ 8
    rw [List.length_set]
    exact h.b1
  · rcases List.mem_append.mp hy with hy | hy
    · rcases mem_set hy with hy | rfl
      · exact h.am y (List.mem_append_left _ hy)
      · rw [gp]
        omega
    · rcases mem_set hy with hy | rfl
      · exact h.am y (List.mem_append_right _ hy)
      · rw [gx]
        omega
  · show (m.left.set _ _).sum = (m.bears.set _ _).sum
    rw [sum_set hp, sum_set hx, h.su]
    omega
theorem Mo.Ok.no_bad {m : Mo} (h : m.Ok) {C0 C1 C2 C3 C4 C : Addr} {fs : List (Str × V)} (z : MoBad C0 C1 C2 C3 C4 m C fs) : False := by
  have r := h.r1
  have b := h.b1
  have ro : rowOut m.ranks = none := rowOut_none fun r hr => fOut_none fun x hx => h.rk r hr x hx
  have ao : fOut 0 100000000000000 (m.left ++ m.bears) = none := fOut_none h.am
  cases z with
  | side z =>
    rcases z with z | z
    · have := z.1
      dsimp only at this
      omega
    · have := z.2.1
      dsimp only at this
      omega
  | amt i z => rw [ao] at z; cases z
  | row i _ z => rw [ro] at z; cases z
  | sum _ _ z => exact z h.su
abbrev s_Moment_after : Stmt := inClass (topS 53) 12
theorem sc_Moment_after : FnScope ["self", "party", "name", "many", "left", "bears"] ["self", "party", "name", "many"] (defScope s_Moment_after) := ⟨rfl, rfl, rfl, by decide +kernel, rfl, by decide +kernel, by decide +kernel⟩
--DEF after Moment
instance {st wt : List Int} : Decidable (goodStage st wt) := by unfold goodStage; infer_instance
/-- the first place of what is no stage of the names that wait -/
def stFault (w : List Int) : List (List Int) → Option Nat
  | [] => if w = [] then none else some 0
  | s :: l => if goodStage s w then (stFault (w.filter fun x => decide (x ∉ s)) l).map (· + 1) else some 0
theorem stFault_bad {w : List Int} {l : List (List Int)} {i : Nat} (h : i < l.length) (b : ¬ goodStage l[i] w) : stFault w (l.drop i) = some 0 := by
  rw [List.drop_eq_getElem_cons h]
  unfold stFault
  rw [if_neg b]
theorem stFault_good {w : List Int} {l : List (List Int)} {i : Nat} (h : i < l.length) (b : goodStage l[i] w) : stFault w (l.drop i) = (stFault (w.filter fun x => decide (x ∉ l[i])) (l.drop (i + 1))).map (· + 1) := by
  rw [List.drop_eq_getElem_cons h, stFault, if_pos b]
theorem map_add {o : Option Nat} {i : Nat} : (o.map (· + 1)).map (· + i) = o.map (· + (i + 1)) := by
  cases o with
  | none => rfl
  | some j => exact congrArg some (by show j + 1 + i = j + (i + 1); omega)
abbrev eStg (C : Addr) : Mo × List (List Int) → List D := fun a => [.obj C a.1.fields, dIss a.2]
def excStg (CO CB : Addr) : Mo × List (List Int) → Addr → List (Str × V) → Prop := fun a C fs =>
  (a.1.left.sum = 0 ∧ C = CO ∧ fs = []) ∨ (a.1.left.sum ≠ 0 ∧ ∃ i : Nat, stFault (standing a.1.bears) a.2 = some i ∧ C = CB ∧ fs = [(("at" : Str), V.int (i : Int))])
theorem mem_upto0 {n : Nat} {x : Int} (h : x ∈ upto 0 (n : Int)) : 0 ≤ x ∧ x < n := by
  unfold upto at h
  rw [List.mem_map] at h
  obtain ⟨j, hj, rfl⟩ := h
  have := List.mem_range.mp hj
  omega
theorem noPl_one {i j : Nat} {p : List Nat} (h : j ≠ i) : noPl i [Cell.pl j p] := fun c hc j' p' e => by
  rw [List.mem_singleton.mp hc] at e
  cases e
  exact h
theorem ev_var_mvP {f : Fr} {ρ ρ' τ : List Cell} {i : Nat} {x : T} {Φ : Cell → List Cell → Prop} (e : CAt ρ i (.t x)) (s : CSet ρ i .dead ρ') (n1 : noP ρ = true) (n2 : noPl i τ) (q : Φ (.t x) ρ') : Ev f true ρ τ (tVar i) Φ := fun φ us σ ws H Q W k => by
  obtain ⟨v, e1, W1⟩ := W.mv e.eq (noP_ok n1) n2
  rw [s.eq] at W1
  exact ⟨v, e1, k _ _ _ _ q W1⟩
/-- a moment's lists, and a row's length -/
structure Mo.Sh (m : Mo) : Prop where
  ok : m.Ok
  l : m.left.length = m.ranks.length
  r : ∀ r ∈ m.ranks, r.length = m.bears.length
def Mo.tup (m : Mo) : T := .tup [T.lst (m.ranks.map fun ns => T.row (ns.map .int)), T.row (m.left.map .int), T.row (m.bears.map .int)]
theorem Mo.tup_full (m : Mo) : m.tup.full = true := by
  show (T.full _ && (T.full _ && (T.full _ && true))) = true
  rw [full_rows, full_ints, full_ints]
  rfl
abbrev e0U : Unit → List D := fun _ => []
mutual
/-- v stands for d, its own objects (each met once) are fs -/
inductive Fp (H : Hp) : V → PyData → List Addr → Prop
  | non : Fp H .non .none []
  | bl (b : Bool) : Fp H (.bl b) (.bool b) []
  | int (i : Int) : Fp H (.int i) (.int i) []
  | str (x : Str) : Fp H (.str x) (.str x) []
  | lst {a xs ds fs} : H a = some (.lst xs) → FpAll H xs ds fs → a ∉ fs → Fp H (.ref a) (.list ds) (a :: fs)
  | tup {a xs ds fs} : H a = some (.tup xs) → FpAll H xs ds fs → a ∉ fs → Fp H (.ref a) (.tuple ds) (a :: fs)
inductive FpAll (H : Hp) : List V → List PyData → List Addr → Prop
  | nil : FpAll H [] [] []
  | cons {v vs d ds f g} : Fp H v d f → FpAll H vs ds g → (∀ a ∈ f, a ∉ g) → FpAll H (v :: vs) (d :: ds) (f ++ g)
end
mutual
theorem Fp.kp {M : List Addr} {H H' : Hp} (k : Kp M H H') : ∀ {v : V} {d : PyData} {fs : List Addr}, Fp H v d fs → (∀ a ∈ fs, a ∉ M) → Fp H' v d fs
  | _, _, _, .non, _ => .non
  | _, _, _, .bl b, _ => .bl b
  | _, _, _, .int i, _ => .int i
  | _, _, _, .str x, _ => .str x
  | _, _, _, .lst e r n, h => .lst (k _ _ (h _ List.mem_cons_self) e) (FpAll.kp k r fun a z => h a (List.mem_cons_of_mem _ z)) n
  | _, _, _, .tup e r n, h => .tup (k _ _ (h _ List.mem_cons_self) e) (FpAll.kp k r fun a z => h a (List.mem_cons_of_mem _ z)) n
theorem FpAll.kp {M : List Addr} {H H' : Hp} (k : Kp M H H') : ∀ {vs : List V} {ds : List PyData} {fs : List Addr}, FpAll H vs ds fs → (∀ a ∈ fs, a ∉ M) → FpAll H' vs ds fs
  | _, _, _, .nil, _ => .nil
  | _, _, _, .cons r t n, h => .cons (Fp.kp k r fun a z => h a (List.mem_append_left _ z)) (FpAll.kp k t fun a z => h a (List.mem_append_right _ z)) n
end
mutual
theorem Fp.ex {H : Hp} : ∀ {v : V} {d : PyData} {fs : List Addr}, Fp H v d fs → ∀ a ∈ fs, ∃ o, H a = some o
  | _, _, _, .non, _, h => by cases h
  | _, _, _, .bl _, _, h => by cases h
  | _, _, _, .int _, _, h => by cases h
  | _, _, _, .str _, _, h => by cases h
  | _, _, _, .lst e r _, a, h => by
    rcases List.mem_cons.mp h with rfl | h
    · exact ⟨_, e⟩
    · exact FpAll.ex r a h
  | _, _, _, .tup e r _, a, h => by
    rcases List.mem_cons.mp h with rfl | h
    · exact ⟨_, e⟩
    · exact FpAll.ex r a h
theorem FpAll.ex {H : Hp} : ∀ {vs : List V} {ds : List PyData} {fs : List Addr}, FpAll H vs ds fs → ∀ a ∈ fs, ∃ o, H a = some o
  | _, _, _, .nil, _, h => by cases h
  | _, _, _, .cons r t _, a, h => by
    rcases List.mem_append.mp h with h | h
    · exact Fp.ex r a h
    · exact FpAll.ex t a h
end
/-- all but the lists of fs as it was, and these are lists still -/
structure KpS (fs : List Addr) (H H' : Hp) : Prop where
  kp : Kp fs H H'
  lst : ∀ b xs, H b = some (.lst xs) → ∃ ys, H' b = some (.lst ys)
  tup : ∀ b xs, H b = some (.tup xs) → H' b = some (.tup xs)
theorem KpS.refl {fs : List Addr} {H : Hp} : KpS fs H H := ⟨Kp.refl, fun _ xs e => ⟨xs, e⟩, fun _ _ e => e⟩
theorem KpS.trans {fs : List Addr} {H H1 H2 : Hp} (a : KpS fs H H1) (b : KpS fs H1 H2) : KpS fs H H2 := ⟨a.kp.trans b.kp, fun x xs e => by
  obtain ⟨ys, e1⟩ := a.lst x xs e
  exact b.lst x ys e1, fun x xs e => b.tup x xs (a.tup x xs e)⟩
theorem KpS.mono {fs gs : List Addr} {H H' : Hp} (a : KpS fs H H') (h : ∀ x, x ∈ fs → x ∈ gs) : KpS gs H H' := ⟨a.kp.mono h, a.lst, a.tup⟩
theorem KpS.new {fs : List Addr} {H : Hp} {p : Addr} {o : HO} (h : H p = none) : KpS fs H (upd H p o) := ⟨Kp.new h, fun b xs e => ⟨xs, at_upd (ne_new h e) e⟩, fun b xs e => at_upd (ne_new h e) e⟩
theorem KpS.put {fs : List Addr} {H : Hp} {p : Addr} {xs ys : List V} (hp : p ∈ fs) (h : H p = some (.lst xs)) : KpS fs H (upd H p (.lst ys)) := ⟨Kp.put hp, fun b zs e => by
  by_cases z : b = p
  · subst z
    exact ⟨ys, upd_same⟩
  · exact ⟨zs, at_upd z e⟩, fun b zs e => at_upd (fun z => by rw [z, h] at e; cases e) e⟩
abbrev s_law_spoil : Stmt := topS 72
theorem sc_law_spoil : FnScope ["thing", "part"] ["thing"] (defScope s_law_spoil) := ⟨rfl, rfl, rfl, by decide +kernel, rfl, by decide +kernel, by decide +kernel⟩
--DEF _law_spoil
def spSpoil (n : Nat) : Sp := fun vs H Q _ => ∃ v d fs, vs = [v] ∧ Fp H v d fs ∧ dep d ≤ n ∧ wid d < 90000 ∧ ∀ H', KpS fs H H' → Q .non H'
theorem go_spoil {n : Nat} {v : V} {d : PyData} {fs : List Addr} {H : Hp} {Q : VK} {E : XK} (h : Fp H v d fs) (hn : dep d ≤ n) (hw : wid d < 90000) (q : ∀ H', KpS fs H H' → Q .non H') : spSpoil n [v] H Q E := ⟨v, d, fs, rfl, h, hn, hw, q⟩
theorem FpAll.len {H : Hp} : ∀ {vs : List V} {ds : List PyData} {fs : List Addr}, FpAll H vs ds fs → vs.length = ds.length
  | _, _, _, .nil => rfl
  | _, _, _, .cons _ t _ => congrArg Nat.succ (FpAll.len t)
theorem FpAll.drop {H : Hp} {xs : List V} {es : List PyData} {gs : List Addr} {i : Nat} {x : V} (h : FpAll H (xs.drop i) es gs) (hx : xs[i]? = some x) : ∃ d ds f g, es = d :: ds ∧ gs = f ++ g ∧ Fp H x d f ∧ FpAll H (xs.drop (i + 1)) ds g ∧ ∀ a ∈ f, a ∉ g := by
  obtain ⟨hl, e⟩ := List.getElem?_eq_some_iff.mp hx
  rw [List.drop_eq_getElem_cons hl, e] at h
  cases h with
  | cons r t n => exact ⟨_, _, _, _, rfl, rfl, r, t, n⟩
theorem wid_mem {d : PyData} {ds : List PyData} (h : d ∈ ds) : wid d ≤ widAll ds ∧ dep d ≤ depAll ds := by
  obtain ⟨i, e⟩ := List.getElem?_of_mem h
  exact ⟨wid_le e, dep_le e⟩
theorem FpAll.snoc {H : Hp} : ∀ {us : List V} {ds : List PyData} {gs : List Addr} {v : V} {d : PyData} {f : List Addr}, FpAll H us ds gs → Fp H v d f → (∀ a ∈ gs, a ∉ f) → FpAll H (us ++ [v]) (ds ++ [d]) (gs ++ f)
  | _, _, _, v, d, f, .nil, h, _ => by
    have := FpAll.cons h .nil fun a _ z => nomatch z
    rwa [List.append_nil] at this
  | _, _, _, v, d, f, .cons (f := f1) (g := g1) r t n, h, z => by
    rw [List.append_assoc]
    refine .cons r (FpAll.snoc t h fun a y => z a (List.mem_append_right _ y)) fun a y q => ?_
    rcases List.mem_append.mp q with q | q
    · exact n a y q
    · exact z a (List.mem_append_left _ y) q
abbrev s_law_copy : Stmt := topS 71
theorem sc_law_copy : FnScope ["thing", "part"] ["thing"] (defScope s_law_copy) := ⟨rfl, rfl, rfl, by decide +kernel, rfl, by decide +kernel, by decide +kernel⟩
--DEF _law_copy
/-- the copy is one's own, all of it -/
def spCopyF (K : PySem.W.Frag) (n : Nat) : Sp := fun vs H Q _ => ∃ v d, vs = [v] ∧ Rr K H v d ∧ dep d ≤ n ∧ wid d < 90000 ∧ ∀ u fs H', Kp [] H H' → Fp H' u d fs → (∀ b ∈ fs, H b = none) → Q u H'
theorem go_copyF {n : Nat} {v : V} {d : PyData} {H : Hp} {Q : VK} {E : XK} (h : Rr K H v d) (hn : dep d ≤ n) (hw : wid d < 90000) (q : ∀ u fs H', Kp [] H H' → Fp H' u d fs → (∀ b ∈ fs, H b = none) → Q u H') : spCopyF K n [v] H Q E := ⟨v, d, rfl, h, hn, hw, q⟩
theorem copy_turnF {H H1 H2 : Hp} {Dl : Addr} {us : List V} {es : List PyData} {y : V} {d : PyData} {gs f : List Addr} {o : HO} (k0 : Kp [] H H1) (k : Kp [] H1 H2) (a : FpAll H1 us es gs) (g : ∀ b ∈ gs, H b = none ∧ b ≠ Dl) (b : Fp H2 y d f) (n : ∀ b ∈ f, H1 b = none) (e1 : H1 Dl = some o) (o' : HO) :
    FpAll (upd H2 Dl o') (us ++ [y]) (es ++ [d]) (gs ++ f) ∧ ∀ b ∈ gs ++ f, H b = none ∧ b ≠ Dl := by
  have nf : ∀ b ∈ f, b ≠ Dl := fun b z q => by rw [← q, n b z] at e1; cases e1
  refine ⟨FpAll.snoc (((a.kp k fun _ _ => nil_mem)).kp (Kp.put (M := [Dl]) (by simp)) fun b z => one_mem (g b z).2) (b.kp (Kp.put (M := [Dl]) (by simp)) fun b z => one_mem (nf b z)) fun b z y => ?_, fun b z => ?_⟩
  · obtain ⟨o, e⟩ := a.ex b z
    rw [n b y] at e
    cases e
  · rcases List.mem_append.mp z with z | z
    · exact g b z
    · exact ⟨k0.free nil_mem (n b z), nf b z⟩
theorem ok_law_copyF_step {n : Nat} (h : DefAt K mg "_law_copy" ["thing"] s_law_copy) (g_isinstance : mg "isinstance" = none) (g_list : mg "list" = none) (g_tuple : mg "tuple" = none)
    {sp : Sp} (D_law_copy : Okk P w K mg base CX0 k "_law_copy" ["thing"] sp) (hs : ∀ m vs H Q E, m < n → spCopyF K m vs H Q E → sp vs H Q E) : Okk P w K mg base CX0 (k + 1) "_law_copy" ["thing"] (spCopyF K n) := by
  refine h.ok sc_law_copy ?_ ?_
  · rintro vs H Q E ⟨_, _, rfl, _⟩; rfl
  rintro cdv f A outer s H vs Q E hr ⟨v, d, rfl, hv, hn, hw, q⟩
  refine ⟨_, (pss_cons (ps_if (pt_val (pe_callB call_isi (by rfl) g_isinstance (by decide +kernel) (pa_cons (pv 0) (pa_cons (pe_bltn (v := .ty "list") (by rfl) g_list (by decide +kernel) rfl) pa_nil)))) (pss_one (ps_ret (pe_lc (own := [("part", 1)]) rfl sc_law_copy.nd (pi_list (pv 0)) (blkOk_by (own := [("part", 1)]) (N := ["thing", "part"]) (sc := defScope s_law_copy) (by decide +kernel)) (fun _ _ _ _ _ => pg_name (i := 1) sc_law_copy.nd rfl (Or.inl rfl)) (fun _ _ _ _ _ => pts_nil) (fun _ _ _ _ _ => (pe_own D_law_copy hr (pa_cons (pv 1) pa_nil)))))) pss_nil)
      (pss_cons (ps_if (pt_val (pe_callB call_isi (by rfl) g_isinstance (by decide +kernel) (pa_cons (pv 0) (pa_cons (pe_bltn (v := .ty "tuple") (by rfl) g_tuple (by decide +kernel) rfl) pa_nil)))) (pss_one (ps_ret (pe_callTy call_tuple_of (by rfl) g_tuple (by decide +kernel) (pa_cons (pe_lc (own := [("part", 1)]) rfl sc_law_copy.nd (pi_tup (pv 0)) (blkOk_by (own := [("part", 1)]) (N := ["thing", "part"]) (sc := defScope s_law_copy) (by decide +kernel)) (fun _ _ _ _ _ => pg_name (i := 1) sc_law_copy.nd rfl (Or.inl rfl)) (fun _ _ _ _ _ => pts_nil) (fun _ _ _ _ _ => (pe_own D_law_copy hr (pa_cons (pv 1) pa_nil)))) pa_nil)))) pss_nil)
      (pss_one (ps_ret (pv 0))))), ?_⟩
  cases hv with
  | @lst a xs ds _ hx hA =>
    have hlen := hA.length
    have hn' : depAll ds < n := hn
    have hw' : max ds.length (widAll ds) < 90000 := hw
    walk_at "go"
    refine l_lcL (by walk_at "wipe") hx (fun Dl i H' => Kp [] H H' ∧ ∃ us gs, H' Dl = some (.lst us) ∧ us.length = i ∧ FpAll H' us (ds.take i) gs ∧ ∀ b ∈ gs, H b = none ∧ b ≠ Dl) (fun Dl fD => ⟨Kp.new fD, [], [], upd_same, rfl, .nil, fun _ z => nomatch z⟩) (fun Dl i H' _ _ m => m.1.sq nil_mem hx) ?_ ?_
    · rintro Dl i x H' fD hi ⟨k1, us, gs, e1, el, hU, hG⟩
      obtain ⟨e, ge, re⟩ := hA.get' hi
      have hil : i < ds.length := (List.getElem?_eq_some_iff.mp ge).1
      walk_at "go"
      refine ⟨rfl, ?_⟩
      unfold tYes
      refine x_iteT ?_
      walk_at "go"
      refine hs (depAll ds) _ _ _ _ hn' (go_copyF (re.to k1) (dep_le ge) (Nat.lt_of_le_of_lt (wid_le ge) (by omega)) fun y fs H2 k2 hy hf => ?_)
      have e2 := k2 _ _ nil_mem e1
      have tt := copy_turnF k1 k2 hU hG hy hf e1 (.lst (us ++ [y]))
      refine ⟨us, e2, Nat.lt_of_lt_of_le (m := 90000) (by omega) (by decide), (k1.trans k2).mut fD, us ++ [y], gs ++ fs, upd_same, by simp [el], ?_, tt.2⟩
      rw [List.take_succ, ge]
      exact tt.1
    · rintro Dl H' fD ⟨k1, us, gs, e1, el, hU, hG⟩
      rw [hlen, List.take_length] at hU
      walk_at "go"
      exact q _ _ _ k1 (.lst e1 hU fun z => (hG Dl z).2 rfl) fun b z => by
        rcases List.mem_cons.mp z with rfl | z
        · exact fD
        · exact (hG b z).1
  | @tup a xs ds _ hx hA =>
    have hlen := hA.length
    have hn' : depAll ds < n := hn
    have hw' : max ds.length (widAll ds) < 90000 := hw
    walk_at "go"
    refine l_lcT (by walk_at "wipe") hx (fun Dl i H' => Kp [] H H' ∧ ∃ us gs, H' Dl = some (.lst us) ∧ us.length = i ∧ FpAll H' us (ds.take i) gs ∧ ∀ b ∈ gs, H b = none ∧ b ≠ Dl) (fun Dl fD => ⟨Kp.new fD, [], [], upd_same, rfl, .nil, fun _ z => nomatch z⟩) (fun Dl i H' _ _ m => m.1.st nil_mem hx) ?_ ?_
    · rintro Dl i x H' fD hi ⟨k1, us, gs, e1, el, hU, hG⟩
      obtain ⟨e, ge, re⟩ := hA.get' hi
      have hil : i < ds.length := (List.getElem?_eq_some_iff.mp ge).1
      walk_at "go"
      refine ⟨rfl, ?_⟩
      unfold tYes
      refine x_iteT ?_
      walk_at "go"
      refine hs (depAll ds) _ _ _ _ hn' (go_copyF (re.to k1) (dep_le ge) (Nat.lt_of_le_of_lt (wid_le ge) (by omega)) fun y fs H2 k2 hy hf => ?_)
      have e2 := k2 _ _ nil_mem e1
      have tt := copy_turnF k1 k2 hU hG hy hf e1 (.lst (us ++ [y]))
      refine ⟨us, e2, Nat.lt_of_lt_of_le (m := 90000) (by omega) (by decide), (k1.trans k2).mut fD, us ++ [y], gs ++ fs, upd_same, by simp [el], ?_, tt.2⟩
      rw [List.take_succ, ge]
      exact tt.1
    · rintro Dl H' fD ⟨k1, us, gs, e1, el, hU, hG⟩
      rw [hlen, List.take_length] at hU
      walk_at "go"
      refine ⟨Dl, us, rfl, .inl ⟨SqL.of e1, fun p fp => ?_⟩⟩
      refine q _ _ _ (k1.trans (Kp.new fp)) (.tup upd_same (hU.kp (Kp.new fp) fun _ _ => nil_mem) fun z => ?_) fun b z => ?_
      · obtain ⟨o, e⟩ := hU.ex p z
        rw [fp] at e
        cases e
      · rcases List.mem_cons.mp z with rfl | z
        · exact k1.free nil_mem fp
        · exact (hG b z).1
  | non => walk_at "go"; exact q _ _ _ Kp.refl .non fun _ z => nomatch z
  | bl b => walk_at "go"; exact q _ _ _ Kp.refl (.bl b) fun _ z => nomatch z
  | int b => walk_at "go"; exact q _ _ _ Kp.refl (.int b) fun _ z => nomatch z
  | str b => walk_at "go"; exact q _ _ _ Kp.refl (.str b) fun _ z => nomatch z
theorem ok_law_copyF (h : DefAt K mg "_law_copy" ["thing"] s_law_copy) (g_isinstance : mg "isinstance" = none) (g_list : mg "list" = none) (g_tuple : mg "tuple" = none) : ∀ n, Okk P w K mg base CX0 (n + 1) "_law_copy" ["thing"] (spCopyF K n)
  | 0 => ok_law_copyF_step (k := 0) h g_isinstance g_list g_tuple h.never fun _ _ _ _ _ z => absurd z (Nat.not_lt_zero _)
  | n + 1 => ok_law_copyF_step h g_isinstance g_list g_tuple (ok_law_copyF h g_isinstance g_list g_tuple n) fun m vs H Q E hm z => by
    obtain ⟨x, d, h1, h2, h3, h4, h5⟩ := z
    exact ⟨x, d, h1, h2, by omega, h4, h5⟩
mutual
/-- data, all of it one's own -/
def D.thaw : D → T
  | .lst l => .lst (D.thaws l)
  | .tup l => .tup (D.thaws l)
  | .non => .d .non
  | .bl b => .d (.bl b)
  | .int i => .d (.int i)
  | .str x => .d (.str x)
  | .obj C fs => .d (.obj C fs)
def D.thaws : List D → List T
  | [] => []
  | d :: l => d.thaw :: D.thaws l
end
mutual
theorem D.thaw_full : ∀ {d : D}, d.plain = true → d.thaw.full = true
  | .non, _ => rfl
  | .bl _, _ => rfl
  | .int _, _ => rfl
  | .str _, _ => rfl
  | .lst _, h => D.thaws_full h
  | .tup _, h => D.thaws_full h
theorem D.thaws_full : ∀ {l : List D}, D.plains l = true → T.fullL (D.thaws l) = true
  | [], _ => rfl
  | d :: l, h => by
    show (d.thaw.full && T.fullL (D.thaws l)) = true
    rw [D.thaw_full (andB h).1, D.thaws_full (andB h).2]
    rfl
end
mutual
theorem D.thaw_data : ∀ d : D, d.thaw.data = d
  | .non => rfl
  | .bl _ => rfl
  | .int _ => rfl
  | .str _ => rfl
  | .lst l => congrArg D.lst (D.thaws_data l)
  | .tup l => congrArg D.tup (D.thaws_data l)
  | .obj _ _ => rfl
theorem D.thaws_data : ∀ l : List D, T.datas (D.thaws l) = l
  | [] => rfl
  | d :: l => by
    show d.thaw.data :: T.datas (D.thaws l) = d :: l
    rw [D.thaw_data d, D.thaws_data l]
end
theorem thaws_ints (ns : List Int) : D.thaws (ns.map .int) = (ns.map D.int).map T.d := by
  induction ns with
  | nil => rfl
  | cons n l ih => show _ :: D.thaws _ = _ :: _; rw [ih]; rfl
theorem thaw_ints (ns : List Int) : (dIs ns).thaw = T.row (ns.map .int) := congrArg T.lst (thaws_ints ns)
theorem thaw_rows (rs : List (List Int)) : (D.lst (rs.map dIs)).thaw = T.lst (rs.map fun ns => T.row (ns.map .int)) := by
  show T.lst (D.thaws _) = _
  congr 1
  induction rs with
  | nil => rfl
  | cons n l ih => show (dIs n).thaw :: D.thaws _ = _ :: _; rw [ih, thaw_ints]
section
variable {A : Addr → Prop} {H : Hp}
mutual
theorem Fp.own : ∀ {d : D} {v : V} {fs : List Addr}, d.plain = true → Fp H v d.py fs → Own A K H v d.thaw fs
  | .non, _, _, _, .non => .d .non
  | .bl _, _, _, _, .bl b => .d (.bl b)
  | .int _, _, _, _, .int i => .d (.int i)
  | .str _, _, _, _, .str x => .d (.str x)
  | .lst _, _, _, p, .lst e r n => .lst e (FpAll.own p r) n
  | .tup _, _, _, p, .tup e r n => .tup e (FpAll.own p r) n
theorem FpAll.own : ∀ {d : List D} {v : List V} {fs : List Addr}, D.plains d = true → FpAll H v (D.pys d) fs → OwnL A K H v (D.thaws d) fs
  | [], _, _, _, .nil => .nil
  | _ :: _, _, _, p, .cons r t n => .cons (Fp.own (andB p).1 r) (FpAll.own (andB p).2 t) n
end
theorem Dt.scFp {v : V} {x : D} (h : Dt A K H v x) (s : x.sc = true) : Fp H v x.py [] := by
  cases h with
  | non => exact .non
  | bl b => exact .bl b
  | int i => exact .int i
  | str x => exact .str x
  | lst _ _ _ => exact absurd s Bool.false_ne_true
  | tup _ _ => exact absurd s Bool.false_ne_true
  | obj _ _ _ _ _ => exact absurd s Bool.false_ne_true
mutual
theorem Own.fp : ∀ {v : V} {t : T} {F : List Addr}, Own A K H v t F → t.full = true → Fp H v t.data.py F
  | _, .d x, _, .d h, s => h.scFp s
  | _, _, _, .lst e r n, s => .lst e (OwnL.fp r s) n
  | _, _, _, .tup e r n, s => .tup e (OwnL.fp r s) n
theorem OwnL.fp : ∀ {v : List V} {t : List T} {F : List Addr}, OwnL A K H v t F → T.fullL t = true → FpAll H v (D.pys (T.datas t)) F
  | _, _, _, .nil, _ => .nil
  | _, _, _, .cons r q n, s => .cons (Own.fp r (andB s).1) (OwnL.fp q (andB s).2) n
end
end
/-- data that _law_copy, _law_same go into -/
structure PrD (n m : Nat) (x : D) : Prop where
  p : x.plain = true
  d : dep x.py ≤ n
  w : wid x.py < m
theorem prD_ints {n m : Nat} {ns : List Int} (h : 1 ≤ n) (hm : ns.length < m) : PrD n m (dIs ns) := ⟨D.plain_of (clean_ints ns), by
  show depAll (D.pys (ns.map .int)) + 1 ≤ n
  rw [pys_ints, dep_ints]
  exact h, by
  show max (D.pys (ns.map .int)).length (widAll (D.pys (ns.map .int))) < m
  rw [pys_ints, wid_ints, List.length_map]
  omega⟩
theorem dep_rows (rs : List (List Int)) : depAll (D.pys (rs.map dIs)) ≤ 1 := by
  induction rs with
  | nil => exact Nat.zero_le _
  | cons r l ih =>
    show max (depAll (D.pys (r.map .int)) + 1) (depAll (D.pys (l.map dIs))) ≤ 1
    rw [pys_ints, dep_ints]
    omega
theorem wid_rows {m : Nat} (rs : List (List Int)) (h : ∀ r ∈ rs, r.length < m) (hm : 0 < m) : widAll (D.pys (rs.map dIs)) < m := by
  induction rs with
  | nil => exact hm
  | cons r l ih =>
    show max (max (D.pys (r.map .int)).length (widAll (D.pys (r.map .int)))) (widAll (D.pys (l.map dIs))) < m
    have := ih fun x hx => h x (List.mem_cons_of_mem _ hx)
    have := h r List.mem_cons_self
    rw [pys_ints, wid_ints, List.length_map]
    omega
theorem pys_length (l : List D) : (D.pys l).length = l.length := by
  induction l with
  | nil => rfl
  | cons d l ih => exact congrArg Nat.succ ih
theorem prD_rows {n m : Nat} {rs : List (List Int)} (h : 2 ≤ n) (hm : rs.length < m) (hr : ∀ r ∈ rs, r.length < m) : PrD n m (.lst (rs.map dIs)) := ⟨D.plain_of (clean_rows rs), by
  show depAll (D.pys (rs.map dIs)) + 1 ≤ n
  have := dep_rows rs
  omega, by
  show max (D.pys (rs.map dIs)).length (widAll (D.pys (rs.map dIs))) < m
  have := wid_rows rs hr (by omega)
  rw [pys_length, List.length_map]
  omega⟩
abbrev e1D : D → List D := fun d => [d]
abbrev e2D : D × D → List D := fun a => [a.1, a.2]
abbrev spCopyV (K : PySem.W.Frag) (n : Nat) : Sp := PF K e1D (PrD n 90000) fun d r => r = d.thaw
abbrev spSameV (K : PySem.W.Frag) (n : Nat) : Sp := PF K e2D (fun a => a.1.plain = true ∧ PrD n 100000 a.2) fun a r => ∃ b : Bool, r = .d (.bl b) ∧ (b = true ↔ a.1 = a.2)
theorem copyV {n : Nat} (h : Okk P w K mg base CX0 k "_law_copy" ["thing"] (spCopyF K n)) : Okk P w K mg base CX0 k "_law_copy" ["thing"] (spCopyV K n) := h.imp fun vs H Q E ⟨d, hd, hp, q⟩ => by
  cases hd with
  | cons r t =>
    cases t
    exact go_copyF (r.rp hp.p) hp.d hp.w fun u fs H' k f hf => q _ _ _ fs rfl k hf (f.own hp.p)
theorem sameV {n : Nat} (h : Okk P w K mg base CX0 k "_law_same" ["told", "due"] (spSame K n)) : Okk P w K mg base CX0 k "_law_same" ["told", "due"] (spSameV K n) := h.imp fun vs H Q E ⟨d, hd, hp, q⟩ => by
  cases hd with
  | cons r t =>
    cases t with
    | cons r2 t =>
      cases t
      exact go_same (r.rp hp.1) (r2.rp hp.2.p) hp.2.d hp.2.w fun b H' k hb => q _ _ _ [] ⟨b, rfl, hb.trans ⟨D.py_inj hp.1 hp.2.p, fun e => congrArg D.py e⟩⟩ k (fun _ z => nomatch z) (.d (.bl b))
section
variable {f : Fr} {ρ ρ' : List Cell} {i : Nat} {x : T} {Dn : Pn}
/-- _law_spoil(x): x is lost -/
theorem es_spoil (ok : f.Ok) {n : Nat} {E : XK} (e : CAt ρ i (.t x)) (hx : x.full = true) (hn : dep x.data.py ≤ n) (hw : wid x.data.py < 90000) (n1 : noP ρ = true) (s : CSet ρ i .dead ρ') (q : Dn.nx ρ') : Es f ρ (tDrop (tCall (spSpoil n) [] E (tCons (tVar i) tNil))) Dn := fun φ us σ H E' W k1 _ _ _ => by
  obtain ⟨g, R⟩ := W.rep
  rw [List.append_nil, List.append_nil] at R
  have hi := s.lt
  have hi2 : i < σ.length := by have := W.l1; have := W.l2; omega
  obtain ⟨v, F, e1, o, hF⟩ := R.tcell (i := i) (x := x) (by rw [List.getElem?_append_left hi]; exact e.eq)
  rw [List.getElem?_append_left hi2] at e1
  have npl : noPl i (ρ ++ φ) := fun c hc j p e => by
    rcases List.mem_append.mp hc with hc | hc
    · exact noP_ok n1 c hc j p e
    · obtain ⟨z, hz⟩ := W.fz c hc
      rw [e] at hz
      cases hz
  refine x_call ⟨v, e1, ?_⟩
  show spSpoil n [v] H (fun _ H1 => E'.nx σ H1) E
  refine go_spoil (o.fp hx) hn hw fun H' ks => ?_
  have R2 := R.pokes ok hF (by simp; omega) npl ks.kp fun a z => by
    obtain ⟨vs, y | y⟩ := o.seq a z
    · obtain ⟨ys, y'⟩ := ks.lst a vs y
      exact ⟨_, y'⟩
    · exact ⟨_, ks.tup a vs y⟩
  rw [List.set_append_left _ _ hi, s.eq] at R2
  refine k1 _ _ _ q ⟨by rw [← s.eq]; simp [W.l1], W.l2, W.l3, rfl, W.fz, W.lk_, g, ?_⟩
  rw [List.append_nil, List.append_nil]
  exact R2
end
theorem mo_prD {m : Mo} (h1 : m.ranks.length ≤ 1000) (h2 : ∀ r ∈ m.ranks, r.length ≤ 1000) (h3 : m.left.length ≤ 1000) (h4 : m.bears.length ≤ 1000) : PrD 3 100000 (.tup [dIss m.ranks, dIs m.left, dIs m.bears]) := by
  have a := prD_rows (n := 2) (m := 100000) (rs := m.ranks) (by decide) (by omega) fun r hr => by have := h2 r hr; omega
  have b := prD_ints (n := 2) (m := 100000) (ns := m.left) (by decide) (by omega)
  have c := prD_ints (n := 2) (m := 100000) (ns := m.bears) (by decide) (by omega)
  refine ⟨?_, ?_, ?_⟩
  · show (D.plain _ && (D.plain _ && (D.plain _ && true))) = true
    rw [a.p, b.p, c.p]
    rfl
  · exact Nat.succ_le_succ (Nat.max_le.mpr ⟨a.d, Nat.max_le.mpr ⟨b.d, Nat.max_le.mpr ⟨c.d, Nat.zero_le _⟩⟩⟩)
  · exact Nat.max_lt.mpr ⟨(show 3 < 100000 by decide), Nat.max_lt.mpr ⟨a.w, Nat.max_lt.mpr ⟨b.w, Nat.max_lt.mpr ⟨c.w, (show 0 < 100000 by decide)⟩⟩⟩⟩
theorem Mo.tup_data (m : Mo) : m.tup.data = .tup [dIss m.ranks, dIs m.left, dIs m.bears] := by
  show D.tup [T.data _, T.data _, T.data _] = _
  rw [rows_data, T.data_row, T.data_row]
abbrev moD (m : Mo) : D := .tup [dIss m.ranks, dIs m.left, dIs m.bears]
theorem Mo.Sh.pre {m : Mo} (s : m.Sh) : (∀ r ∈ m.ranks, r ≠ []) ∧ m.left.length ≤ 1000 ∧ m.bears.length ≤ 1000 ∧ m.ranks.length ≤ 1000 ∧ ∀ r ∈ m.ranks, r.length ≤ 1000 := by
  have := s.ok.r1
  have := s.ok.b1
  have := s.l
  refine ⟨fun r hr e => ?_, by omega, by omega, by omega, fun r hr => by have := s.r r hr; omega⟩
  have := s.r r hr
  rw [e] at this
  simp at this
  omega
theorem Mo.Sh.prD {m : Mo} (s : m.Sh) : PrD 3 90000 (dIss m.ranks) := prD_rows (by decide) (by have := s.ok.r1; omega) fun r hr => by have := s.r r hr; have := s.ok.b1; omega
theorem standing_ne {ns : List Int} (h : 0 < ns.sum) : 0 < (standing ns).length := by
  obtain ⟨i, hi, p⟩ := pos_of_sum h
  have : (i : Int) ∈ standing ns := mem_standing.mpr ⟨by omega, by omega, by rw [Int.toNat_natCast, getD_at hi]; exact p⟩
  exact List.length_pos_of_mem this
theorem getD_mapD {α : Type} {g : α → D} {l : List α} {i : Nat} (h : i < l.length) : (l.map g).getD i .non = g l[i] := by
  rw [List.getD_eq_getElem?_getD, List.getElem?_map, List.getElem?_eq_getElem h]
  rfl
theorem rows_data' (rows : List (List Int)) : T.datas (rows.map fun ns => T.row (ns.map .int)) = rows.map dIs := by
  have h : (T.lst (rows.map fun ns => T.row (ns.map .int))).data = dIss rows := rows_data
  exact D.lst.inj h
theorem at_neg {ns : List Int} {j : Nat} (h : j < ns.length) : atI (ns.map D.int) (-1 - (j : Int)) = some (.int (ns.getD (ns.length - 1 - j) 0)) := by
  have e : ixN (ns.map D.int).length (-1 - (j : Int)) = some (ns.length - 1 - j) := by
    unfold ixN
    rw [List.length_map, if_neg (by omega), if_pos (by omega)]
    congr 1
    omega
  have hl : ns.length - 1 - j < ns.length := by omega
  unfold atI
  rw [e]
  show (ns.map D.int)[ns.length - 1 - j]? = _
  rw [List.getElem?_map, List.getElem?_eq_getElem hl, getD_at hl]
  rfl
def cutI {α : Type} (l : List α) (lo hi : Option Int) : List α := (l.drop (HT.sIx l.length 0 lo)).take (HT.sIx l.length l.length hi - HT.sIx l.length 0 lo)
theorem cutD_map {α : Type} (g : α → D) (l : List α) (lo hi : Option Int) : cutD (l.map g) lo hi = (cutI l lo hi).map g := by
  unfold cutD cutI
  rw [List.length_map, List.map_take, List.map_drop]
theorem cutI_mem {α : Type} {l : List α} {lo hi : Option Int} {x : α} (h : x ∈ cutI l lo hi) : x ∈ l := List.mem_of_mem_drop (List.mem_of_mem_take h)
theorem cutI_length {α : Type} (l : List α) (lo hi : Option Int) : (cutI l lo hi).length ≤ l.length := by
  unfold cutI
  rw [List.length_take, List.length_drop]
  omega
theorem at_negG {α : Type} {g : α → D} {l : List α} {j : Nat} (h : j < l.length) : ∃ x, x ∈ l ∧ atI (l.map g) (-1 - (j : Int)) = some (g x) := by
  have hl : l.length - 1 - j < l.length := by omega
  refine ⟨l[l.length - 1 - j], List.getElem_mem hl, ?_⟩
  have e : ixN (l.map g).length (-1 - (j : Int)) = some (l.length - 1 - j) := by
    unfold ixN
    rw [List.length_map, if_neg (by omega), if_pos (by omega)]
    congr 1
    omega
  unfold atI
  rw [e]
  show (l.map g)[l.length - 1 - j]? = _
  rw [List.getElem?_map, List.getElem?_eq_getElem hl]
  rfl
theorem datas_len {l : List T} {α : Type} {g : α → D} {rs : List α} (h : T.datas l = rs.map g) : l.length = rs.length := by
  have := congrArg List.length h
  rwa [T.datas_map, List.length_map, List.length_map] at this
theorem datas_snoc (l : List T) (x : T) : T.datas (l ++ [x]) = T.datas l ++ [x.data] := by
  rw [T.datas_map, List.map_append, ← T.datas_map]
  rfl
theorem ixN_last {n : Nat} (h : 0 < n) : ixN n (-1) = some (n - 1) := by
  unfold ixN
  simp
  omega
theorem st_L {ρ ρ' : List Cell} {Ψ : List Cell → Prop} {x : T} {j : Nat} {l : List T} {kk : Int} {n : Nat} (e : CAt ρ j (.t (.lst l))) (hk : ixN l.length kk = some n) (n1 : noP ρ = true) (s : CSet ρ j (.t (.lst (l.set n x))) ρ') (q : Ψ ρ') : ∃ j' p y l' n' kk' x', Cell.t x = .t x' ∧ Cell.pl j [] = .pl j' p ∧ cI kk = cI kk' ∧ CAt ρ j' (.t y) ∧ y.at p = some (.lst l') ∧ ixN l'.length kk' = some n' ∧ noP ρ = true ∧ ∃ ρ', CSet ρ j' (.t (y.put p (.lst (l'.set n' x')))) ρ' ∧ Ψ ρ' :=
  ⟨j, [], _, l, n, kk, _, rfl, rfl, rfl, e, rfl, hk, n1, ρ', s, q⟩
theorem datas_set (l : List T) (n : Nat) (x : T) : T.datas (l.set n x) = (T.datas l).set n x.data := by
  rw [T.datas_map, T.datas_map, List.map_set]
/-- the first member that does not ascend or is no number below many -/
def mbFault (many : Int) : Int → List Int → Option Nat
  | _, [] => none
  | b, x :: l => if x ≤ b ∨ many ≤ x then some 0 else (mbFault many x l).map (· + 1)
theorem mbFault_bad {many b : Int} {ms : List Int} {i : Nat} (h : i < ms.length) (z : ms[i] ≤ b ∨ many ≤ ms[i]) : mbFault many b (ms.drop i) = some 0 := by
  rw [List.drop_eq_getElem_cons h]
  unfold mbFault
  rw [if_pos z]
theorem mbFault_good {many b : Int} {ms : List Int} {i : Nat} (h : i < ms.length) (z : ¬ (ms[i] ≤ b ∨ many ≤ ms[i])) : mbFault many b (ms.drop i) = (mbFault many ms[i] (ms.drop (i + 1))).map (· + 1) := by
  rw [List.drop_eq_getElem_cons h, mbFault, if_neg z]
theorem mbFault_asc {many : Int} : ∀ {ms : List Int} {b : Int}, mbFault many b ms = none → ms.Pairwise (· < ·) ∧ ∀ x ∈ ms, b < x ∧ x < many
  | [], _, _ => ⟨List.Pairwise.nil, fun _ h => by cases h⟩
  | x :: l, b, h => by
    unfold mbFault at h
    by_cases z : x ≤ b ∨ many ≤ x
    · rw [if_pos z] at h
      cases h
    · rw [if_neg z, Option.map_eq_none_iff] at h
      obtain ⟨h1, h2⟩ := mbFault_asc h
      refine ⟨List.pairwise_cons.mpr ⟨fun y hy => (h2 y hy).1, h1⟩, fun y hy => ?_⟩
      rcases List.mem_cons.mp hy with rfl | hy
      · omega
      · have := h2 y hy
        omega
def excMb (CB : Addr) (many : Int) (ms : List Int) (C : Addr) (fs : List (Str × V)) : Prop := ∃ i : Nat, mbFault many (-1) ms = some i ∧ C = CB ∧ fs = [(("at" : Str), V.int (i : Int))]
/-- what a party's row says of x -/
def rk (row : List Int) (x : Int) : Int := row.getD x.toNat 0
/-- all of these are ranked at most r -/
def capped (row : List Int) (r : Int) (l : List (List Int)) : Bool := l.all fun t => t.all fun y => decide (rk row y ≤ r)
/-- a cell of the web of stages -/
def webCell (row : List Int) : List (List Int) → Int → Bool
  | [], _ => false
  | s :: l, x => if x ∈ s then capped row (rk row x) l else webCell row l x
def webRow (row : List Int) (st : List (List Int)) (n : Nat) : List Bool := (upto 0 n).map (webCell row st)
abbrev dBs (bs : List Bool) : D := .lst (bs.map .bl)
abbrev eWr : List Int × List (List Int) × Nat → List D := fun a => [dIs a.1, dIss a.2.1, .int (a.2.2 : Int)]
theorem rep_one {α : Type} (n : Nat) (d : α) : (List.replicate n [d]).flatten = List.replicate n d := by
  induction n with
  | zero => rfl
  | succ n ih => rw [List.replicate_succ, List.flatten_cons, ih]; rfl
theorem rk_at {row : List Int} {x : Nat} (h : x < row.length) : rk row (x : Int) = row[x] := by
  unfold rk
  rw [Int.toNat_natCast]
  exact getD_at h
/-- the bound over what stands behind -/
def Bnd (row : List Int) (l : List (List Int)) : D → Prop
  | .non => l = []
  | .int b => l ≠ [] ∧ ∀ r : Int, decide (b ≤ r) = capped row r l
  | _ => False
theorem capped_nil {row : List Int} {r : Int} : capped row r [] = true := rfl
theorem capped_cons {row : List Int} {r : Int} {s : List Int} {l : List (List Int)} : capped row r (s :: l) = ((s.all fun y => decide (rk row y ≤ r)) && capped row r l) := rfl
theorem set_map_upto {α : Type} {n i : Nat} {f g : Int → α} (h : i < n) (e : ∀ x, x ≠ (i : Int) → g x = f x) : ((upto 0 n).map f).set i (g i) = (upto 0 n).map g := by
  apply List.ext_getElem?
  intro j
  rw [List.getElem?_set]
  by_cases hj : i = j
  · subst hj
    have hl : i < ((upto 0 n).map f).length := by rw [List.length_map, upto_length]; omega
    rw [if_pos rfl, if_pos hl, List.getElem?_map, List.getElem?_eq_getElem (by rw [upto_length]; omega)]
    unfold upto
    rw [List.getElem_map, List.getElem_range]
    simp
  · rw [if_neg hj, List.getElem?_map, List.getElem?_map]
    by_cases hn : j < n
    · rw [List.getElem?_eq_getElem (by rw [upto_length]; omega)]
      simp only [Option.map_some, Option.some.injEq]
      unfold upto
      rw [List.getElem_map, List.getElem_range]
      exact (e _ (by omega)).symm
    · rw [List.getElem?_eq_none (by rw [upto_length]; omega)]
      rfl
/-- what is due for stages -/
def stDue (bears : List Int) (st : List (List Int)) : T := if bears.sum = 0 then .tup [.d (.str "refused"), .tup [.d (.str "Over")]] else match stFault (standing bears) st with
  | some i => .tup [.d (.str "refused"), .tup [.d (.str "BadStages"), .d (.int (i : Int))]]
  | none => .tup [.d (.str "told"), .d .non]
theorem stDue_full (b : List Int) (st : List (List Int)) : (stDue b st).full = true := by
  unfold stDue
  split
  · rfl
  · split <;> rfl
theorem stFault_mem : ∀ {l : List (List Int)} {wt : List Int}, stFault wt l = none → ∀ s ∈ l, s ≠ [] ∧ s.Pairwise (· < ·) ∧ ∀ x ∈ s, x ∈ wt
  | [], _, _, _, h => by cases h
  | s0 :: l, wt, e, s, h => by
    unfold stFault at e
    by_cases g : goodStage s0 wt
    · rw [if_pos g, Option.map_eq_none_iff] at e
      rcases List.mem_cons.mp h with rfl | h
      · exact ⟨g.1, g.2.1, fun x hx => (g.2.2 x hx).2⟩
      · have := stFault_mem e s h
        exact ⟨this.1, this.2.1, fun x hx => (List.mem_filter.mp (this.2.2 x hx)).1⟩
    · rw [if_neg g] at e
      cases e
theorem asc_length : ∀ {l : List Int} {a : Int} {n : Nat}, l.Pairwise (· < ·) → (∀ x ∈ l, a ≤ x ∧ x < a + n) → l.length ≤ n
  | [], _, _, _, _ => Nat.zero_le _
  | x :: l, a, n, p, h => by
    have h0 := h x List.mem_cons_self
    rw [List.pairwise_cons] at p
    have := asc_length (l := l) (a := x + 1) (n := (a + n - (x + 1)).toNat) p.2 fun y hy => by
      have := p.1 y hy
      have := h y (List.mem_cons_of_mem _ hy)
      omega
    rw [List.length_cons]
    omega
theorem stFault_len {m : List Int} {l : List (List Int)} (e : stFault (standing m) l = none) : ∀ s ∈ l, s.length ≤ m.length := fun s hs => by
  have := stFault_mem e s hs
  exact asc_length (a := 0) this.2.1 fun x hx => by
    have := mem_standing.mp (this.2.2 x hx)
    omega
def Mo.web (m : Mo) (st : List (List Int)) : List (List Bool) := m.ranks.map fun row => webRow row st m.bears.length
/-- a web of so many columns -/
structure Wb (ws : List (List Bool)) (n : Nat) : Prop where
  l : 1 ≤ ws.length ∧ ws.length ≤ 8
  c : 1 ≤ n ∧ n ≤ 8
  r : ∀ row ∈ ws, row.length = n
def cellW (ws : List (List Bool)) (v x : Int) : Bool := (ws.getD v.toNat []).getD x.toNat false
/-- the names that the band allows; the parties that allow one of the names -/
def namesD (ws : List (List Bool)) (n : Nat) (band : List Int) : List Int := (upto 0 n).filter fun x => band.any fun v => cellW ws v x
def partiesD (ws : List (List Bool)) (names : List Int) : List Int := (upto 0 ws.length).filter fun v => names.any fun x => cellW ws v x
theorem cellW_at {ws : List (List Bool)} {v x : Nat} (h : v < ws.length) (h2 : x < ws[v].length) : cellW ws (v : Int) (x : Int) = ws[v][x] := by
  unfold cellW
  rw [Int.toNat_natCast, Int.toNat_natCast, List.getD_eq_getElem?_getD, List.getD_eq_getElem?_getD, List.getElem?_eq_getElem h]
  show (ws[v][x]?).getD false = _
  rw [List.getElem?_eq_getElem h2]
  rfl
theorem dBss_at {ws : List (List Bool)} {v : Nat} (h : v < ws.length) : atI (ws.map dBs) (v : Int) = some (dBs ws[v]) := at_nat (by rw [List.getElem?_map, List.getElem?_eq_getElem h]; rfl)
theorem dBs_at {bs : List Bool} {v : Nat} (h : v < bs.length) : atI (bs.map D.bl) (v : Int) = some (.bl bs[v]) := at_nat (by rw [List.getElem?_map, List.getElem?_eq_getElem h]; rfl)
theorem anyU_eq {α : Type} {f : α → Bool} {l : List α} : (l.map f).any id = l.any f := by
  rw [List.any_map]
  rfl
theorem uptoF {p : Int → Bool} {i : Nat} : (upto 0 ((i + 1 : Nat) : Int)).filter p = (upto 0 (i : Int)).filter p ++ if p (i : Int) then [(i : Int)] else [] := by
  rw [upto_succ, List.filter_append]
  congr 1
  cases e : p (i : Int) <;> simp [e]
theorem rowB {ys : List Int} {f : Int → Bool} : T.lst (ys.map fun y => T.d (.bl (f y))) = T.row ((ys.map f).map .bl) := by
  show _ = T.lst (List.map _ (List.map _ (List.map _ _)))
  rw [List.map_map, List.map_map]
  rfl
theorem mb_len {many : Nat} {ms : List Int} (h : mbFault many (-1) ms = none) : ms.length ≤ many := by
  obtain ⟨h1, h2⟩ := mbFault_asc h
  exact asc_length (a := 0) h1 fun x hx => by have := h2 x hx; omega
abbrev eUn : List (List Bool) × Nat × List Int → List D := fun a => [.lst (a.1.map dBs), dIs a.2.2]
abbrev s_check_open : Stmt := topS 56
theorem sc_check_open : FnScope ["moment"] ["moment"] (defScope s_check_open) := ⟨rfl, rfl, rfl, by decide +kernel, rfl, by decide +kernel, by decide +kernel⟩
--DEF check_open
theorem ok_check_open {C_Moment C_Over : Addr} (h : DefAt K mg "check_open" ["moment"] s_check_open) (X_Over : Ex0 K mg "Over" C_Over)
    (P_Moment_is_over : PropAt P w K mg base k C_Moment "is_over" (PF K (fun m : Mo => [.obj C_Moment m.fields]) (fun _ => True) fun m r => r = .d (.bl (decide (m.left.sum = 0))))) :
    Okk P w K mg base (L2.CX P w) (k + 1 + 1) "check_open" ["moment"] (PFX K (fun m : Mo => [.obj C_Moment m.fields]) (fun _ => True) (fun m r => r = .d .non ∧ m.left.sum ≠ 0) fun m C fs => m.left.sum = 0 ∧ C = C_Over ∧ fs = []) := by
  refine DefAt.pfx h sc_check_open ?_ ?_ fun cdv f A outer s H E hr => ⟨_, (pss_one (ps_if (pt_val (pe_propL P_Moment_is_over hr (pv 0))) (pss_one (ps_raise0 rfl (takes_of rfl rfl rfl rfl) X_Over)) pss_nil)), ?_⟩
  · rintro n _; rfl
  · rintro n r _ ⟨rfl, _⟩; rfl
  rintro m _
  have ok := okX (K := K) (A := fun _ => True) (H0 := H) (n := 1) (W := fun cls d _ H' => E cls d H') (xc := fun C fs _ => m.left.sum = 0 ∧ C = C_Over ∧ fs = [])
  walk_at "ev0"
  refine ⟨m, m.fields, rfl, rfl, trivial, ?_⟩
  rintro r rfl
  refine ⟨_, rfl, ?_⟩
  refine x_dec (fun z => ?_) (fun z => ?_)
  · walk_at "ev"
    exact ⟨z, rfl, rfl⟩
  · walk_at "ev"
    exact ⟨rfl, z⟩
theorem rowI {ys : List Int} {f : Int → Int} : T.lst (ys.map fun y => T.d (.int (f y))) = T.row ((ys.map f).map .int) := by
  show _ = T.lst (List.map _ (List.map _ (List.map _ _)))
  rw [List.map_map, List.map_map]
  rfl
/-- what these have of a row -/
def sumAt (row ms : List Int) : Int := (ms.map fun v => row.getD v.toNat 0).sum
def excessD (m : Mo) (ws : List (List Bool)) (ms : List Int) : Int := sumAt m.left ms - sumAt m.bears (namesD ws m.bears.length ms)
def ExPre (a : Mo × List (List Bool) × List Int) : Prop := a.1.Sh ∧ Wb a.2.1 a.1.bears.length ∧ a.2.1.length = a.1.left.length ∧ a.2.2.length ≤ 100000
def excEx (CO CB : Addr) (a : Mo × List (List Bool) × List Int) (C : Addr) (fs : List (Str × V)) : Prop := (a.1.left.sum = 0 ∧ C = CO ∧ fs = []) ∨ (a.1.left.sum ≠ 0 ∧ excMb CB a.2.1.length a.2.2 C fs)
/-- a set of parties, in order -/
def Asc (n : Nat) (B : List Int) : Prop := B.Pairwise (· < ·) ∧ ∀ v ∈ B, 0 ≤ v ∧ v < (n : Int)
/-- the names that no party of the band allows; the band's excess -/
def freeOf (ws : List (List Bool)) (st band : List Int) : List Int := st.filter fun x => !(band.any fun v => cellW ws v x)
def bandE (m : Mo) (ws : List (List Bool)) (band : List Int) : Int := sumAt m.left band + sumAt m.bears (freeOf ws (standing m.bears) band) - sumAt m.bears (standing m.bears)
structure Br where
  band : List Int
  free : List Int
  exc : Int
abbrev Br.d (r : Br) : D := .tup [dIs r.band, dIs r.free, .int r.exc]
def brS (band : List Int) : Nat := match band.getLast? with
  | none => 0
  | some v => (v + 1).toNat
def brKid (m : Mo) (ws : List (List Bool)) (r : Br) (p : Nat) : Br := ⟨r.band ++ [(p : Int)], r.free.filter fun x => !(cellW ws (p : Int) x), r.exc + m.left.getD p 0 - sumAt m.bears (r.free.filter fun x => cellW ws (p : Int) x)⟩
def brKids (m : Mo) (ws : List (List Bool)) (r : Br) : List Br := (List.range (m.left.length - brS r.band)).map fun j => brKid m ws r (brS r.band + j)
def brRoot (m : Mo) : Br := ⟨[], standing m.bears, 0⟩
theorem sumAt_filter {row : List Int} {p : Int → Bool} : ∀ {l : List Int}, sumAt row (l.filter p) + sumAt row (l.filter fun x => !(p x)) = sumAt row l
  | [] => rfl
  | x :: l => by
    have ih := sumAt_filter (row := row) (p := p) (l := l)
    unfold sumAt at ih ⊢
    cases e : p x with
    | true =>
      rw [List.filter_cons_of_pos e, List.filter_cons_of_neg (by rw [e]; decide), List.map_cons, List.sum_cons, List.map_cons, List.sum_cons]
      omega
    | false =>
      rw [List.filter_cons_of_neg (by rw [e]; decide), List.filter_cons_of_pos (by rw [e]; rfl), List.map_cons, List.sum_cons, List.map_cons, List.sum_cons]
      omega
theorem freeOf_snoc {ws : List (List Bool)} {st band : List Int} {p : Int} : freeOf ws st (band ++ [p]) = (freeOf ws st band).filter fun x => !(cellW ws p x) := by
  unfold freeOf
  rw [List.filter_filter]
  congr 1
  funext x
  rw [List.any_append, Bool.not_or, Bool.and_comm]
  simp
theorem sumAt_snoc {row band : List Int} {p : Nat} : sumAt row (band ++ [(p : Int)]) = sumAt row band + row.getD p 0 := by
  unfold sumAt
  rw [List.map_append, List.sum_append, List.map_singleton, List.sum_singleton, Int.toNat_natCast]
theorem asc_ext : ∀ {A B : List Int}, A.Pairwise (· < ·) → B.Pairwise (· < ·) → (∀ v, v ∈ A ↔ v ∈ B) → A = B
  | [], [], _, _, _ => rfl
  | [], b :: B, _, _, h => by have := (h b).mpr List.mem_cons_self; cases this
  | a :: A, [], _, _, h => by have := (h a).mp List.mem_cons_self; cases this
  | a :: A, b :: B, hA, hB, h => by
    have pa := List.pairwise_cons.mp hA
    have pb := List.pairwise_cons.mp hB
    have ab : a = b := by
      rcases List.mem_cons.mp ((h a).mp List.mem_cons_self) with e | e
      · exact e
      · rcases List.mem_cons.mp ((h b).mpr List.mem_cons_self) with e2 | e2
        · exact e2.symm
        · have := pb.1 a e
          have := pa.1 b e2
          omega
    subst ab
    rw [asc_ext pa.2 pb.2 fun v => ?_]
    have hv := h v
    rw [List.mem_cons, List.mem_cons] at hv
    refine ⟨fun z => ?_, fun z => ?_⟩
    · rcases hv.mp (.inr z) with e | e
      · have := pa.1 v z
        omega
      · exact e
    · rcases hv.mpr (.inr z) with e | e
      · have := pb.1 v z
        omega
      · exact e
theorem upto_ascB (n : Nat) : (upto 0 (n : Int)).Pairwise (· < ·) := by
  unfold upto
  exact List.Pairwise.map _ (R := fun a b : Nat => a < b) (fun a b h => by omega) List.pairwise_lt_range
theorem asc_filter {n : Nat} {B : List Int} (h : Asc n B) : B = (upto 0 (n : Int)).filter fun v => decide (v ∈ B) := asc_ext h.1 ((upto_ascB n).filter _) fun v => by
  rw [List.mem_filter, mem_upto, decide_eq_true_eq]
  exact ⟨fun z => ⟨h.2 v z, z⟩, fun z => z.2⟩
/-- what a row of the program says -/
structure BrOk (m : Mo) (ws : List (List Bool)) (r : Br) : Prop where
  asc : Asc m.left.length r.band
  free : r.free = freeOf ws (standing m.bears) r.band
  exc : r.exc = bandE m ws r.band
theorem brS_nil : brS [] = 0 := rfl
theorem brS_snoc {band : List Int} {p : Nat} : brS (band ++ [(p : Int)]) = p + 1 := by
  unfold brS
  rw [List.getLast?_append]
  simp
theorem Asc.lt {n : Nat} {B : List Int} (h : Asc n B) : ∀ v ∈ B, v < (brS B : Int) := by
  intro v hv
  unfold brS
  cases e : B.getLast? with
  | none =>
    rw [List.getLast?_eq_none_iff] at e
    subst e
    cases hv
  | some u =>
    obtain ⟨ys, rfl⟩ := List.getLast?_eq_some_iff.mp e
    have hu := (h.2 u (by simp)).1
    rw [Int.toNat_of_nonneg (by omega)]
    rcases List.mem_append.mp hv with hv | hv
    · have := (List.pairwise_append.mp h.1).2.2 v hv u (by simp)
      omega
    · rw [List.mem_singleton.mp hv]
      omega
theorem Asc.le {n : Nat} {B : List Int} (h : Asc n B) : brS B ≤ n := by
  unfold brS
  cases e : B.getLast? with
  | none => exact Nat.zero_le _
  | some u =>
    have := h.2 u (List.mem_of_getLast? e)
    dsimp only
    omega
theorem Asc.snoc {n : Nat} {B : List Int} (h : Asc n B) {p : Nat} (h1 : brS B ≤ p) (h2 : p < n) : Asc n (B ++ [(p : Int)]) := ⟨List.pairwise_append.mpr ⟨h.1, List.pairwise_singleton _ _, fun a ha b hb => by
  rw [List.mem_singleton.mp hb]
  have := h.lt a ha
  omega⟩, fun v hv => by
  rcases List.mem_append.mp hv with hv | hv
  · exact h.2 v hv
  · rw [List.mem_singleton.mp hv]
    omega⟩
theorem BrOk.root {m : Mo} {ws : List (List Bool)} : BrOk m ws (brRoot m) := by
  have e : freeOf ws (standing m.bears) [] = standing m.bears := by
    unfold freeOf
    simp
  refine ⟨⟨List.Pairwise.nil, fun v hv => by cases hv⟩, e.symm, ?_⟩
  show (0 : Int) = bandE m ws []
  unfold bandE
  rw [e]
  show (0 : Int) = sumAt m.left [] + _ - _
  have : sumAt m.left [] = 0 := rfl
  omega
theorem BrOk.kid {m : Mo} {ws : List (List Bool)} {r : Br} (h : BrOk m ws r) {p : Nat} (h1 : brS r.band ≤ p) (h2 : p < m.left.length) : BrOk m ws (brKid m ws r p) := by
  refine ⟨h.asc.snoc h1 h2, ?_, ?_⟩
  · show r.free.filter _ = freeOf ws _ (r.band ++ [(p : Int)])
    rw [freeOf_snoc, h.free]
  · show r.exc + _ - _ = bandE m ws (r.band ++ [(p : Int)])
    have := sumAt_filter (row := m.bears) (p := fun x => cellW ws (p : Int) x) (l := freeOf ws (standing m.bears) r.band)
    unfold bandE
    rw [freeOf_snoc, sumAt_snoc, h.exc, h.free]
    unfold bandE
    omega
def brW (n : Nat) (r : Br) : Nat := 2 ^ (n - brS r.band)
theorem pow_sum (k : Nat) : ∀ i, i ≤ k → ((List.range i).map fun j => 2 ^ (k - 1 - j)).sum + 2 ^ (k - i) = 2 ^ k
  | 0, _ => by simp
  | i + 1, h => by
    have ih := pow_sum k i (by omega)
    rw [List.range_succ, List.map_append, List.sum_append, List.map_singleton, List.sum_singleton]
    have e : 2 ^ (k - i) = 2 ^ (k - 1 - i) + 2 ^ (k - 1 - i) := by
      rw [show k - i = (k - 1 - i) + 1 by omega, Nat.pow_succ]
      omega
    rw [show k - (i + 1) = k - 1 - i by omega]
    omega
theorem kids_w {m : Mo} {ws : List (List Bool)} {r : Br} (h : BrOk m ws r) : ((brKids m ws r).map (brW m.left.length)).sum + 1 = brW m.left.length r := by
  have hl := h.asc.le
  have := pow_sum (m.left.length - brS r.band) (m.left.length - brS r.band) (Nat.le_refl _)
  rw [Nat.sub_self, Nat.pow_zero] at this
  unfold brKids brW
  rw [List.map_map, ← this]
  congr 2
  refine List.map_congr_left fun j hj => ?_
  have hj := List.mem_range.mp hj
  show 2 ^ (m.left.length - brS (r.band ++ [((brS r.band + j : Nat) : Int)])) = _
  rw [brS_snoc]
  congr 1
  omega
/-- the walk's state -/
structure BandInv (m : Mo) (ws : List (List Bool)) (rows : List Br) (at_ : Nat) : Prop where
  ok : ∀ r ∈ rows, BrOk m ws r
  hd : rows.head? = some (brRoot m)
  le : at_ ≤ rows.length
  srt : rows.Pairwise fun a b => a.band.length ≤ b.band.length
  top : ∀ h : at_ < rows.length, ∀ r ∈ rows, r.band.length ≤ rows[at_].band.length + 1
  kids : ∀ r ∈ rows.take at_, ∀ q ∈ brKids m ws r, q ∈ rows
  wt : at_ + ((rows.drop at_).map (brW m.left.length)).sum = 2 ^ m.left.length
theorem BandInv.init {m : Mo} {ws : List (List Bool)} : BandInv m ws [brRoot m] 0 := by
  refine ⟨fun r hr => ?_, rfl, Nat.zero_le _, List.pairwise_singleton _ _, fun h r hr => ?_, fun r hr => ?_, ?_⟩
  · rw [List.mem_singleton.mp hr]
    exact .root
  · rw [List.mem_singleton.mp hr]
    exact Nat.le_succ _
  · cases hr
  · show 0 + (2 ^ (m.left.length - 0) + 0) = _
    rw [Nat.sub_zero]
    omega
theorem sum_ge : ∀ {l : List Br} {n : Nat}, l.length ≤ (l.map (brW n)).sum
  | [], _ => Nat.le_refl _
  | r :: l, n => by
    have ih := sum_ge (l := l) (n := n)
    have : 0 < brW n r := Nat.two_pow_pos _
    rw [List.map_cons, List.sum_cons, List.length_cons]
    omega
theorem BandInv.len {m : Mo} {ws : List (List Bool)} {rows : List Br} {a : Nat} (h : BandInv m ws rows a) : rows.length ≤ 2 ^ m.left.length := by
  have := h.wt
  have := sum_ge (l := rows.drop a) (n := m.left.length)
  have := h.le
  rw [List.length_drop] at *
  omega
theorem BandInv.step {m : Mo} {ws : List (List Bool)} {rows : List Br} {a : Nat} (h : BandInv m ws rows a) (ha : a < rows.length) : BandInv m ws (rows ++ brKids m ws rows[a]) (a + 1) := by
  have hr := h.ok _ (List.getElem_mem ha)
  have kl : ∀ q ∈ brKids m ws rows[a], BrOk m ws q ∧ q.band.length = rows[a].band.length + 1 := fun q hq => by
    obtain ⟨j, hj, rfl⟩ := List.mem_map.mp hq
    have hj := List.mem_range.mp hj
    exact ⟨hr.kid (by omega) (by omega), by show (rows[a].band ++ [_]).length = _; rw [List.length_append]; rfl⟩
  have sorted : (rows ++ brKids m ws rows[a]).Pairwise fun a b => a.band.length ≤ b.band.length := by
    refine List.pairwise_append.mpr ⟨h.srt, List.pairwise_of_forall_mem_list fun x hx y hy => ?_, fun x hx y hy => ?_⟩
    · have := (kl x hx).2
      have := (kl y hy).2
      omega
    · have := h.top ha x hx
      have := (kl y hy).2
      omega
  refine ⟨fun r hr => ?_, ?_, ?_, sorted, fun h2 r hr2 => ?_, fun r hr2 q hq => ?_, ?_⟩
  · rcases List.mem_append.mp hr with hr | hr
    · exact h.ok r hr
    · exact (kl r hr).1
  · rw [List.head?_append, h.hd]
    rfl
  · rw [List.length_append]
    omega
  · have g : rows[a].band.length ≤ (rows ++ brKids m ws rows[a])[a + 1].band.length := by
      have e : rows[a] = (rows ++ brKids m ws rows[a])[a]'(by rw [List.length_append]; omega) := by rw [List.getElem_append_left]
      have := (List.pairwise_iff_getElem.mp sorted) a (a + 1) (by rw [List.length_append]; omega) h2 (by omega)
      rw [← e] at this
      exact this
    rcases List.mem_append.mp hr2 with hr2 | hr2
    · have := h.top ha r hr2
      omega
    · have := (kl r hr2).2
      omega
  · rw [List.take_append_of_le_length (by omega), take_snoc ha] at hr2
    rcases List.mem_append.mp hr2 with hr2 | hr2
    · exact List.mem_append_left _ (h.kids r hr2 q hq)
    · rw [List.mem_singleton.mp hr2] at hq
      exact List.mem_append_right _ hq
  · have w := h.wt
    have kw := kids_w hr
    rw [List.drop_eq_getElem_cons ha, List.map_cons, List.sum_cons] at w
    rw [List.drop_append_of_le_length (by omega), List.map_append, List.sum_append]
    omega
/-- all bands with what they leave, by number of parties -/
structure BandRows (m : Mo) (ws : List (List Bool)) (rows : List Br) : Prop where
  ok : ∀ r ∈ rows, BrOk m ws r
  hd : rows.head? = some (brRoot m)
  srt : rows.Pairwise fun a b => a.band.length ≤ b.band.length
  all : ∀ B, Asc m.left.length B → ∃ r ∈ rows, r.band = B
  len : rows.length ≤ 2 ^ m.left.length
theorem BandInv.done {m : Mo} {ws : List (List Bool)} {rows : List Br} (h : BandInv m ws rows rows.length) : BandRows m ws rows := by
  refine ⟨h.ok, h.hd, h.srt, fun B hB => ?_, h.len⟩
  have kids := h.kids
  rw [List.take_length] at kids
  have main : ∀ k (B : List Int), B.length = k → Asc m.left.length B → ∃ r ∈ rows, r.band = B := by
    intro k
    induction k with
    | zero =>
      intro B hl _
      obtain rfl := List.length_eq_zero_iff.mp hl
      exact ⟨_, List.mem_of_mem_head? (by rw [h.hd]; rfl), rfl⟩
    | succ k ih =>
      intro B hl hB
      have ne : B ≠ [] := fun e => by rw [e] at hl; cases hl
      have eB := List.dropLast_concat_getLast ne
      generalize B.dropLast = C at *
      generalize B.getLast ne = v at *
      subst eB
      have hv := hB.2 v (by simp)
      obtain ⟨p, rfl⟩ := Int.eq_ofNat_of_zero_le hv.1
      have hC : Asc m.left.length C := ⟨(List.pairwise_append.mp hB.1).1, fun w hw => hB.2 w (List.mem_append_left _ hw)⟩
      obtain ⟨r, hr, er⟩ := ih C (by rw [List.length_append] at hl; simpa using hl) hC
      have hs : brS C ≤ p := by
        unfold brS
        cases e : C.getLast? with
        | none => exact Nat.zero_le _
        | some u =>
          have := (List.pairwise_append.mp hB.1).2.2 u (List.mem_of_getLast? e) (p : Int) (by simp)
          dsimp only
          omega
      refine ⟨brKid m ws r p, kids r hr _ (List.mem_map.mpr ⟨p - brS C, List.mem_range.mpr (by rw [er]; omega), ?_⟩), by show r.band ++ _ = _; rw [er]⟩
      rw [er]
      congr 1
      omega
  exact main _ B rfl hB
theorem rows_put {rs : List (List Int)} {v x : Nat} {c : Int} (h : v < rs.length) : (T.lst (rs.map fun ns : List Int => T.row (ns.map .int))).put ([] ++ [v]) (.lst (((rs[v].map D.int).map T.d).set x (.d (.int c)))) = T.lst ((rs.set v (rs[v].set x c)).map fun ns => T.row (ns.map .int)) := by
  have gv : (rs.map fun ns : List Int => T.row (ns.map .int))[v]? = some (T.row (rs[v].map .int)) := by rw [List.getElem?_map, List.getElem?_eq_getElem h]; rfl
  show (match (rs.map fun ns : List Int => T.row (ns.map .int))[v]? with | some u => T.lst ((rs.map fun ns : List Int => T.row (ns.map .int)).set v (u.put [] _)) | none => T.lst (rs.map fun ns : List Int => T.row (ns.map .int))) = _
  rw [gv, List.map_set]
  show T.lst _ = T.lst _
  congr 2
  show T.lst _ = T.lst (List.map _ (List.map _ _))
  rw [List.map_set, List.map_set]
theorem dBss_at' {ws : List (List Bool)} {v : Nat} (h : v < ws.length) : atI (ws.map dBs) (v : Int) = some (dBs ws[v]) := at_nat (by rw [List.getElem?_map, List.getElem?_eq_getElem h]; rfl)
theorem dBs_at' {bs : List Bool} {v : Nat} (h : v < bs.length) : atI (bs.map D.bl) (v : Int) = some (.bl bs[v]) := at_nat (by rw [List.getElem?_map, List.getElem?_eq_getElem h]; rfl)
/-- a table of so many rows and columns -/
def Tbl (a b : Nat) (tb : List (List Int)) : Prop := tb.length = a ∧ ∀ row ∈ tb, row.length = b
theorem Tbl.set {a b v x : Nat} {c : Int} {tb : List (List Int)} (t : Tbl a b tb) (h : v < tb.length) : Tbl a b (tb.set v (tb[v].set x c)) := ⟨by rw [List.length_set]; exact t.1, fun row hr => by
  rcases List.mem_or_eq_of_mem_set hr with hr | hr
  · exact t.2 row hr
  · rw [hr, List.length_set]
    exact t.2 _ (List.getElem_mem h)⟩
def PaPre (a : List (List Bool) × List Int × List Int × Bool) : Prop := (1 ≤ a.2.1.length ∧ a.2.1.length ≤ 8) ∧ (1 ≤ a.2.2.1.length ∧ a.2.2.1.length ≤ 8) ∧ a.1.length = a.2.1.length ∧ (∀ row ∈ a.1, row.length = a.2.2.1.length) ∧ (∀ x ∈ a.2.1, 0 ≤ x) ∧ ∀ x ∈ a.2.2.1, 0 ≤ x
abbrev s_law_pairing : Stmt := topS 78
theorem sc_law_pairing : FnScope ["store", "web", "left", "bears", "greedy", "give", "bear", "v", "table", "cell", "x", "many", "row"] ["store", "web", "left", "bears", "greedy"] (defScope s_law_pairing) := ⟨rfl, rfl, rfl, by decide +kernel, rfl, by decide +kernel, by decide +kernel⟩
--DEF _law_pairing
abbrev ePa : List (List Bool) × List Int × List Int × Bool → List D := fun a => [.lst (a.1.map dBs), dIs a.2.1, dIs a.2.2.1, .bl a.2.2.2]
set_option maxHeartbeats 8000000 in
theorem ok_law_pairing (h : DefAt K mg "_law_pairing" ["store", "web", "left", "bears", "greedy"] s_law_pairing) (g_list : mg "list" = none) (g_len : mg "len" = none) (g_range : mg "range" = none) (g_min : mg "min" = none)
    (D_law_shuffled : Okk P w K mg base CX0 k "_law_shuffled" ["store", "row"] (spShuf K)) (D_law_near_ends : Okk P w K mg base CX0 k "_law_near_ends" ["store", "low", "high"] spNear) :
    Okk P w K mg base CX0 (k + 1) "_law_pairing" ["store", "web", "left", "bears", "greedy"] (PFS K ePa PaPre fun a r => ∃ tb : List (List Int), r = T.lst (tb.map fun ns => T.row (ns.map .int)) ∧ Tbl a.2.1.length a.2.2.1.length tb) := by
  refine DefAt.pfs (N := ["web", "left", "bears", "greedy", "give", "bear", "v", "table", "cell", "x", "many", "row"]) h sc_law_pairing ?_ ?_ fun cdv f A outer s H E hr => ⟨_, (pss_cons (ps_set (i := 5) sc_law_pairing.nd rfl (Or.inl rfl) (pe_callTy cr_list (by rfl) g_list (by decide +kernel) (pa_cons (pv 2) pa_nil)))
      (pss_cons (ps_set (i := 6) sc_law_pairing.nd rfl (Or.inl rfl) (pe_callTy cr_list (by rfl) g_list (by decide +kernel) (pa_cons (pv 3) pa_nil)))
      (pss_cons (ps_setLc (i := 8) (own := [("v", 7)]) rfl sc_law_pairing.nd rfl rfl (sw_true rfl rfl rfl (by decide +kernel)) (pi_range1 rfl g_range (pa_cons (pe_callB cr_len (by rfl) g_len (by decide +kernel) (pa_cons (pv 2) pa_nil)) pa_nil)) (blkOk_by (own := [("v", 7)]) (N := ["store", "web", "left", "bears", "greedy", "give", "bear", "v", "table", "cell", "x", "many", "row"]) (sc := defScope s_law_pairing) (by decide +kernel)) (fun _ _ _ _ _ => pg_name (i := 7) sc_law_pairing.nd rfl (Or.inl rfl)) (fun _ _ _ _ _ => pts_nil) (fun _ _ _ _ _ => (pe_op op_rep (pe_lst (pa_cons pe_int pa_nil)) (pe_callB (cr_lenB (K := K)) (by rfl) g_len (by decide +kernel) (pa_cons (pv 3) pa_nil)))))
      (pss_cons (ps_for PassesOwn.never rfl (pi_list (pe_own D_law_shuffled hr (pa_cons (pv 0) (pa_cons (pe_listRg rfl (by rfl) g_list (prg_1 (by rfl) g_range (pe_op op_mul (pe_callB cr_len (by rfl) g_len (by decide +kernel) (pa_cons (pv 2) pa_nil)) (pe_callB cr_len (by rfl) g_len (by decide +kernel) (pa_cons (pv 3) pa_nil))))) pa_nil)))) (pg_name (i := 9) sc_law_pairing.nd rfl (Or.inl rfl))
        (pss_cons (ps_set (i := 7) sc_law_pairing.nd rfl (Or.inl rfl) (pe_op op_fdiv (pv 9) (pe_callB cr_len (by rfl) g_len (by decide +kernel) (pa_cons (pv 3) pa_nil))))
        (pss_cons (ps_set (i := 10) sc_law_pairing.nd rfl (Or.inl rfl) (pe_op op_mod (pv 9) (pe_callB cr_len (by rfl) g_len (by decide +kernel) (pa_cons (pv 3) pa_nil))))
        (pss_cons (ps_set (i := 11) sc_law_pairing.nd rfl (Or.inl rfl) (pe_callB (cr_min2 rfl) (by rfl) g_min (by decide +kernel) (pa_cons (pe_ix ix_list (pv 5) (pv 7) (fun _ _ => rfl)) (pa_cons (pe_ix ix_list (pv 6) (pv 10) (fun _ _ => rfl)) pa_nil))))
        (pss_one (ps_if (PW.pt (pw_and (pt_val (pe_ix ix_list (pe_ix ix_list (pv 1) (pv 7) (fun _ _ => rfl)) (pv 10) (fun _ _ => rfl))) (pw_and1 (pt_cmpR op_gt (pv 11) pe_int (nomark _))))) (pss_cons (ps_if (pt_not (pt_val (pv 4))) (pss_one (ps_set (i := 11) sc_law_pairing.nd rfl (Or.inl rfl) (pe_own D_law_near_ends hr (pa_cons (pv 0) (pa_cons pe_int (pa_cons (pv 11) pa_nil)))))) pss_nil)
          (pss_cons (ps_set (i := 12) sc_law_pairing.nd rfl (Or.inl rfl) (pe_ix ix_list (pv 8) (pv 7) (fun _ _ => rfl)))
          (pss_cons (ps_asg (pv 11) (pg_sub (pv 12) (pv 10) set_list))
          (pss_cons (ps_asg (pe_op op_sub (pe_ix ix_list (pv 5) (pv 7) (fun _ _ => rfl)) (pv 11)) (pg_sub (pv 5) (pv 7) set_list))
          (pss_one (ps_asg (pe_op op_sub (pe_ix ix_list (pv 6) (pv 10) (fun _ _ => rfl)) (pv 11)) (pg_sub (pv 6) (pv 10) set_list))))))) pss_nil))))))
      (pss_one (ps_ret (pv 8))))))), ?_⟩
  · rintro n _; rfl
  · rintro n r _ ⟨rs, rfl, _⟩; exact full_rows
  rintro ⟨ws, le, be, gr⟩ ⟨l8, b8, hw, hc, hl, hb⟩ p sl hs
  dsimp only at l8 b8 hw hc hl hb
  have ok := okS (n := 13) (A := fun a => a ≠ p) (K := K) hs
  have lle : (le.map D.int).length = le.length := List.length_map _
  have lbe : (be.map D.int).length = be.length := List.length_map _
  walk_at "ev0"
  have rep : ∀ n : Nat, (List.replicate (n : Int).toNat [D.int 0]).flatten = (List.replicate n (0 : Int)).map D.int := fun n => by
    rw [Int.toNat_natCast, rep_one, List.map_replicate]
  rw [lle, Int.toNat_natCast]
  refine lcl (fun i acc => acc = (List.replicate i (List.replicate be.length (0 : Int))).map fun ns => T.row (ns.map .int)) (by simp) rfl (fun i acc hi hI ha => ?_) fun acc hI _ => ?_
  · walk_at "ev"
    rw [lbe]
    refine vo_rep ok (.own (l := [.int 0])) (by omega) (by omega) (by show 1 * _ ≤ _; omega) ?_
    rw [rep]
    walk_at "ev"
    walk_at "kk"
    rw [hI, List.replicate_succ', List.map_append]
    rfl
  subst hI
  walk_at "eg"
  obtain ⟨tb0, e0⟩ : ∃ tb0, List.replicate le.length (List.replicate be.length (0 : Int)) = tb0 := ⟨_, rfl⟩
  have t0 : Tbl le.length be.length tb0 := by
    rw [← e0]
    refine ⟨List.length_replicate, fun row hr => ?_⟩
    rw [(List.mem_replicate.mp hr).2]
    exact List.length_replicate
  rw [e0]
  walk_at "ev"
  rw [lle, lbe]
  have hm : le.length * be.length ≤ 64 := Nat.mul_le_mul l8.2 b8.2
  have hmz : ((le.length : Int) * (be.length : Int)) = ((le.length * be.length : Nat) : Int) := by rw [Int.natCast_mul]
  rw [hmz]
  refine ⟨⟨by omega, by omega⟩, ?_⟩
  walk_at "ev"
  intro ms pe
  refine ⟨_, _, rfl, T.data_row _, ?_⟩
  rw [List.length_map]
  refine loopK [7, 9, 10, 11, 12] (fun i ρ => ∃ (gv bv : List Int) (tb : List (List Int)), ρ = [.sto, cD (.lst (ws.map dBs)), cD (dIs le), cD (dIs be), cD (.bl gr), .t (.row (gv.map .int)), .t (.row (bv.map .int)), .dead, .t (.lst (tb.map fun ns : List Int => T.row (ns.map .int))), .dead, .dead, .dead, .dead] ∧ gv.length = le.length ∧ bv.length = be.length ∧ Tbl le.length be.length tb ∧ (∀ x ∈ gv, 0 ≤ x) ∧ ∀ x ∈ bv, 0 ≤ x) ⟨le, be, tb0, rfl, rfl, rfl, t0, hl, hb⟩ ?_ ?_
  · rintro i ρ hi ⟨gv, bv, tb, rfl, g1, b1, tt, gn, bn⟩
    rw [getD_ints hi]
    have mr := mem_upto.mp (pe.mem_iff.mp (List.getElem_mem hi))
    generalize ms[i] = ce at *
    rw [← hmz] at mr
    obtain ⟨v, ev, vl⟩ : ∃ v : Nat, ce / (be.length : Int) = (v : Int) ∧ v < le.length := by
      have h1 : 0 ≤ ce / (be.length : Int) := Int.ediv_nonneg mr.1 (by omega)
      have h2 : ce / (be.length : Int) < (le.length : Int) := Int.ediv_lt_of_lt_mul (by omega) mr.2
      exact ⟨(ce / (be.length : Int)).toNat, by omega, by omega⟩
    obtain ⟨x, ex, xl⟩ : ∃ x : Nat, ce % (be.length : Int) = (x : Int) ∧ x < be.length := by
      have h1 := Int.emod_nonneg ce (show (be.length : Int) ≠ 0 by omega)
      have h2 := Int.emod_lt_of_pos ce (show (0 : Int) < (be.length : Int) by omega)
      exact ⟨(ce % (be.length : Int)).toNat, by omega, by omega⟩
    walk_at "ev"
    have vg : v < gv.length := by omega
    have xb : x < bv.length := by omega
    have vw : v < ws.length := by omega
    have vt : v < tb.length := by have := tt.1; omega
    have rv := hc _ (List.getElem_mem vw)
    have rt := tt.2 _ (List.getElem_mem vt)
    have g0 := gn _ (List.getElem_mem vg)
    have bb0 := bn _ (List.getElem_mem xb)
    rw [lbe]
    refine vo_I (d := .int (v : Int)) ⟨by omega, by omega⟩ (by rw [ev]; exact .int _) ?_
    walk_at "ev"
    rw [lbe, ex]
    refine vo_ixL (by walk_at "leaf") (dIs_at vg) ?_
    walk_at "ev"
    refine vo_ixL (by walk_at "leaf") (dIs_at xb) ?_
    walk_at "ev"
    obtain ⟨mn, em, m0, m1, m2⟩ : ∃ mn : Int, (if bv[x] < gv[v] then bv[x] else gv[v]) = mn ∧ 0 ≤ mn ∧ mn ≤ gv[v] ∧ mn ≤ bv[x] := ⟨_, rfl, by split <;> omega, by split <;> omega, by split <;> omega⟩
    rw [em]
    refine vo_ixL (by walk_at "leaf") (dBss_at' vw) ?_
    walk_at "ev"
    refine vo_ixL (by walk_at "leaf") (dBs_at' (show x < ws[v].length by omega)) ?_
    refine ⟨_, rfl, ?_⟩
    cases e : ws[v][x] with
    | false =>
      refine x_ifn (fun z => nomatch z) ?_
      walk_at "ev"
      walk_at "kl"
      exact ⟨gv, bv, tb, rfl, g1, b1, tt, gn, bn⟩
    | true =>
      refine x_ifp rfl ?_
      walk_at "ev"
      refine x_dec (fun z => ?_) (fun z => ?_)
      · refine es_cut (fun ρ => ∃ c : Int, ρ = [.sto, cD (.lst (ws.map dBs)), cD (dIs le), cD (dIs be), cD (.bl gr), .t (.row (gv.map .int)), .t (.row (bv.map .int)), cI (v : Int), .t (.lst (tb.map fun ns : List Int => T.row (ns.map .int))), cI ce, cI (x : Int), cI c, .dead] ∧ 0 ≤ c ∧ c ≤ mn) ?_ ?_
        · walk_at "ev"
          cases gr with
          | true =>
            walk_at "ev"
            exact ⟨mn, rfl, m0, Int.le_refl _⟩
          | false =>
            walk_at "ev"
            intro c c0 c1 c2
            walk_at "ev"
            exact ⟨c, rfl, c0, c1 m0⟩
        rintro ρ ⟨c, rfl, c0, c1⟩
        have gt : (tb.map fun ns : List Int => T.row (ns.map .int))[v]? = some (T.row (tb[v].map .int)) := by rw [List.getElem?_map, List.getElem?_eq_getElem vt]; rfl
        have att : (T.lst (tb.map fun ns : List Int => T.row (ns.map .int))).at ([] ++ [v]) = some (T.row (tb[v].map .int)) := T.at_app (p := []) (x := T.lst (tb.map fun ns : List Int => T.row (ns.map .int))) (i := v) rfl gt
        walk_at "ev"
        refine vo_ixPl (n := v) (by walk_at "cat") rfl (by rw [List.length_map]; exact ixN_at vt) gt rfl ?_
        refine eg_nameP (by walk_at "cset") rfl (by decide) ?_
        refine es_seq (es_asg ?_)
        refine ev_var_d (by walk_at "cat") ?_
        refine eg_sub ok ?_
        refine ev_var_plm (by walk_at "cat") (by walk_at "cset") rfl rfl ?_
        walk_at "ev"
        refine ⟨8, _, _, _, x, (x : Int), _, rfl, rfl, rfl, by walk_at "cat", att, by rw [List.length_map, List.length_map]; exact ixN_at (by omega), rfl, _, by walk_at "cset", ?_⟩
        rw [rows_put vt]
        have tt2 := tt.set (x := x) (c := c) vt
        walk_at "ev"
        refine vo_ixL (by walk_at "leaf") (dIs_at vg) ?_
        walk_at "ev"
        refine st_0 (n := v) (by walk_at "cat") (by rw [List.length_map]; exact ixN_at vg) rfl (by walk_at "cset") ?_
        rw [show ((gv.map D.int).set v (.int (gv[v] - c))) = (gv.set v (gv[v] - c)).map D.int by rw [List.map_set]]
        walk_at "ev"
        refine vo_ixL (by walk_at "leaf") (dIs_at xb) ?_
        walk_at "ev"
        refine st_0 (n := x) (by walk_at "cat") (by rw [List.length_map]; exact ixN_at xb) rfl (by walk_at "cset") ?_
        rw [show ((bv.map D.int).set x (.int (bv[x] - c))) = (bv.set x (bv[x] - c)).map D.int by rw [List.map_set]]
        walk_at "kl"
        refine ⟨gv.set v (gv[v] - c), bv.set x (bv[x] - c), _, rfl, by rw [List.length_set]; exact g1, by rw [List.length_set]; exact b1, tt2, fun y hy => ?_, fun y hy => ?_⟩
        · rcases List.mem_or_eq_of_mem_set hy with hy | rfl
          · exact gn y hy
          · omega
        · rcases List.mem_or_eq_of_mem_set hy with hy | rfl
          · exact bn y hy
          · omega
      · walk_at "ev"
        walk_at "kl"
        exact ⟨gv, bv, tb, rfl, g1, b1, tt, gn, bn⟩
  · rintro ρ ⟨gv, bv, tb, rfl, _, _, tt, _⟩
    have m8 : Mv 8 := .mk
    walk_at "ev"
    exact ⟨tb, rfl, tt⟩
/-- the sums of all subsets, by their numbers; the sets reached -/
def subS (l : List Int) : List Int := l.foldl (fun acc a => acc ++ acc.map (· + a)) [0]
def rchS (l : List Nat) : List Nat := l.foldl (fun acc o => acc ++ acc.map (· ||| o)) [0]
def ownF (row : List Bool) (i : Nat) : List Nat := (List.range i).filter fun x => row.getD x false
def ownN (row : List Bool) : Nat := ((ownF row row.length).map fun x => 2 ^ x).sum
def excD (ws : List (List Bool)) (le be : List Int) : List Int := (List.range (subS le).length).map fun b => (subS le).getD b 0 - (subS be).getD ((rchS (ws.map ownN)).getD b 0) 0
theorem subS_snoc {l : List Int} {i : Nat} (h : i < l.length) : subS (l.take (i + 1)) = subS (l.take i) ++ (subS (l.take i)).map (· + l[i]) := by
  unfold subS
  rw [take_snoc h, List.foldl_append]
  rfl
theorem rchS_snoc {l : List Nat} {i : Nat} (h : i < l.length) : rchS (l.take (i + 1)) = rchS (l.take i) ++ (rchS (l.take i)).map (· ||| l[i]) := by
  unfold rchS
  rw [take_snoc h, List.foldl_append]
  rfl
theorem dbl_len {α β : Type} {f : α → β → α} : ∀ {l : List β} {acc : List α}, (l.foldl (fun acc a => acc ++ acc.map (f · a)) acc).length = acc.length * 2 ^ l.length
  | [], acc => by simp
  | a :: l, acc => by
    rw [List.foldl_cons, dbl_len (f := f), List.length_append, List.length_map, List.length_cons, Nat.pow_succ, ← Nat.mul_two, Nat.mul_assoc]
    congr 1
    exact Nat.mul_comm _ _
theorem subS_len {l : List Int} : (subS l).length = 2 ^ l.length := (dbl_len (f := (· + ·)) (l := l) (acc := [0])).trans (Nat.one_mul _)
theorem rchS_len {l : List Nat} : (rchS l).length = 2 ^ l.length := (dbl_len (f := (· ||| ·)) (l := l) (acc := [0])).trans (Nat.one_mul _)
theorem rch_lt {n : Nat} : ∀ {l : List Nat} {acc : List Nat}, (∀ o ∈ l, o < 2 ^ n) → (∀ m ∈ acc, m < 2 ^ n) → ∀ m ∈ l.foldl (fun acc o => acc ++ acc.map (· ||| o)) acc, m < 2 ^ n
  | [], _, _, h => h
  | o :: l, acc, ho, h => rch_lt (l := l) (acc := acc ++ acc.map (· ||| o)) (fun x hx => ho x (List.mem_cons_of_mem _ hx)) fun m hm => by
    rcases List.mem_append.mp hm with hm | hm
    · exact h m hm
    · obtain ⟨y, hy, rfl⟩ := List.mem_map.mp hm
      exact Nat.or_lt_two_pow (h y hy) (ho o List.mem_cons_self)
theorem rchS_lt {n : Nat} {l : List Nat} (ho : ∀ o ∈ l, o < 2 ^ n) : ∀ m ∈ rchS l, m < 2 ^ n := rch_lt ho fun m hm => by
  rw [List.mem_singleton.mp hm]
  exact Nat.two_pow_pos n
theorem ownF_succ {row : List Bool} {i : Nat} : ownF row (i + 1) = ownF row i ++ (if row.getD i false = true then [i] else []) := by
  unfold ownF
  rw [List.range_succ, List.filter_append, List.filter_cons, List.filter_nil]
theorem ownF_lt {row : List Bool} : ∀ i, ((ownF row i).map fun x => 2 ^ x).sum < 2 ^ i
  | 0 => by simp [ownF]
  | i + 1 => by
    have ih := ownF_lt (row := row) i
    rw [ownF_succ, List.map_append, List.sum_append, Nat.pow_succ]
    split
    · simp only [List.map_cons, List.map_nil, List.sum_cons, List.sum_nil]
      omega
    · simp only [List.map_nil, List.sum_nil]
      omega
theorem ownN_lt {row : List Bool} {n : Nat} (h : row.length = n) : ownN row < 2 ^ n := by
  unfold ownN
  rw [h]
  exact ownF_lt n
theorem pow_at {x : Nat} (h : x < 8) : atI [D.int 1, .int 2, .int 4, .int 8, .int 16, .int 32, .int 64, .int 128] (x : Int) = some (.int ((2 ^ x : Nat) : Int)) := by
  match x, h with
  | 0, _ => rfl
  | 1, _ => rfl
  | 2, _ => rfl
  | 3, _ => rfl
  | 4, _ => rfl
  | 5, _ => rfl
  | 6, _ => rfl
  | 7, _ => rfl
theorem sum_cast : ∀ {l : List Nat}, (l.map fun m : Nat => (m : Int)).sum = ((l.sum : Nat) : Int)
  | [] => rfl
  | a :: l => by
    rw [List.map_cons, List.sum_cons, List.sum_cons, sum_cast, Int.natCast_add]
abbrev dNs (l : List Nat) : List D := l.map fun m : Nat => D.int (m : Int)
theorem dNs_at {l : List Nat} {i : Nat} (h : i < l.length) : atI (dNs l) (i : Int) = some (.int (l[i] : Int)) := at_nat (by rw [List.getElem?_map, List.getElem?_eq_getElem h]; rfl)
theorem getD_nats {l : List Nat} {i : Nat} (h : i < l.length) : (dNs l).getD i .non = .int (l[i] : Int) := by
  rw [List.getD_eq_getElem?_getD, List.getElem?_map, List.getElem?_eq_getElem h]
  rfl
theorem bit_two (z : Int) : Builtin.bitNot (Builtin.bitNot z) = z := by unfold Builtin.bitNot; omega
theorem bit_or {a b : Nat} : Builtin.bitOr (a : Int) (b : Int) = ((a ||| b : Nat) : Int) := by
  have h1 : ∀ c : Nat, decide (0 ≤ Builtin.bitNot (c : Int)) = false := fun c => decide_eq_false (by unfold Builtin.bitNot; omega)
  unfold Builtin.bitOr Builtin.bitAnd
  rw [h1, h1]
  dsimp only
  rw [bit_two, bit_two, bit_two, Int.toNat_natCast, Int.toNat_natCast]
theorem rowN {l : List Nat} : T.lst (l.map fun m : Nat => T.d (.int (m : Int))) = T.row (dNs l) := by
  show _ = T.lst (List.map _ (List.map _ _))
  rw [List.map_map]
  rfl
theorem bls_at {row : List Bool} {j : Nat} (h : j < row.length) : row.getD j false = row[j] := by rw [List.getD_eq_getElem?_getD, List.getElem?_eq_getElem h, Option.getD_some]
abbrev pows : List D := [.int 1, .int 2, .int 4, .int 8, .int 16, .int 32, .int 64, .int 128]
abbrev s_law_excesses : Stmt := topS 81
theorem sc_law_excesses : FnScope ["web", "left", "bears", "loads", "x", "powers", "reach", "gives", "v", "own", "b", "load", "number", "give"] ["web", "left", "bears"] (defScope s_law_excesses) := ⟨rfl, rfl, rfl, by decide +kernel, rfl, by decide +kernel, by decide +kernel⟩
--DEF _law_excesses
abbrev eExs : List (List Bool) × List Int × List Int → List D := fun a => [.lst (a.1.map dBs), dIs a.2.1, dIs a.2.2]
set_option maxHeartbeats 8000000 in
theorem ok_law_excesses (h : DefAt K mg "_law_excesses" ["web", "left", "bears"] s_law_excesses) (g_range : mg "range" = none) (g_len : mg "len" = none) (g_sum : mg "sum" = none) :
    Okk P w K mg base CX0 (k + 1) "_law_excesses" ["web", "left", "bears"] (PF K eExs (fun a => a.2.1.length ≤ 8 ∧ a.2.2.length ≤ 8 ∧ a.1.length = a.2.1.length ∧ ∀ row ∈ a.1, row.length = a.2.2.length) fun a r => r = T.row ((excD a.1 a.2.1 a.2.2).map .int)) := by
  refine DefAt.pf h sc_law_excesses ?_ ?_ fun cdv f A outer s H E hr => ⟨_, (pss_cons (ps_set (i := 3) sc_law_excesses.nd rfl (Or.inr rfl) (pe_lst (pa_cons pe_int pa_nil)))
      (pss_cons (ps_for PassesOwn.never rfl (pi_range1 rfl g_range (pa_cons (pe_callB cr_len (by rfl) g_len (by decide +kernel) (pa_cons (pv 2) pa_nil)) pa_nil)) (pg_name (i := 4) sc_law_excesses.nd rfl (Or.inr rfl))
        (pss_one (ps_set (i := 3) sc_law_excesses.nd rfl (Or.inr rfl) (pe_op op_cat (pv 3) (pe_lc (own := [("load", 11)]) rfl sc_law_excesses.nd (pi_list (pv 3)) (blkOk_by (own := [("load", 11)]) (N := ["web", "left", "bears", "loads", "x", "powers", "reach", "gives", "v", "own", "b", "load", "number", "give"]) (sc := defScope s_law_excesses) (by decide +kernel)) (fun _ _ _ _ _ => pg_name (i := 11) sc_law_excesses.nd rfl (Or.inl rfl)) (fun _ _ _ _ _ => pts_nil) (fun _ _ _ _ _ => (pe_op op_add (pv 11) (pe_ix (ix_listB (K := K)) (pv 2) (pv 4) (fun _ _ => rfl)))))))))
      (pss_cons (ps_set (i := 5) sc_law_excesses.nd rfl (Or.inr rfl) (pe_lst (pa_cons pe_int (pa_cons pe_int (pa_cons pe_int (pa_cons pe_int (pa_cons pe_int (pa_cons pe_int (pa_cons pe_int (pa_cons pe_int pa_nil))))))))))
      (pss_cons (ps_set (i := 6) sc_law_excesses.nd rfl (Or.inr rfl) (pe_lst (pa_cons pe_int pa_nil)))
      (pss_cons (ps_set (i := 7) sc_law_excesses.nd rfl (Or.inr rfl) (pe_lst (pa_cons pe_int pa_nil)))
      (pss_cons (ps_for PassesOwn.never rfl (pi_range1 rfl g_range (pa_cons (pe_callB cr_len (by rfl) g_len (by decide +kernel) (pa_cons (pv 1) pa_nil)) pa_nil)) (pg_name (i := 8) sc_law_excesses.nd rfl (Or.inr rfl))
        (pss_cons (ps_set (i := 9) sc_law_excesses.nd rfl (Or.inr rfl) (pe_callB (cr_sum rfl) (by rfl) g_sum (by decide +kernel) (pa_cons (pe_lc (own := [("x", 4)]) rfl sc_law_excesses.nd (pi_range1 rfl g_range (pa_cons (pe_callB cr_len (by rfl) g_len (by decide +kernel) (pa_cons (pv 2) pa_nil)) pa_nil)) (blkOk_by (own := [("x", 4)]) (N := ["web", "left", "bears", "loads", "x", "powers", "reach", "gives", "v", "own", "b", "load", "number", "give"]) (sc := defScope s_law_excesses) (by decide +kernel)) (fun _ _ _ _ _ => pg_name (i := 4) sc_law_excesses.nd rfl (Or.inl rfl)) (fun _ _ _ _ _ => pts_one (pt_val (pe_ix (ix_listB (K := K)) (pe_ix (ix_listB (K := K)) (pv 0) (pv 8) (fun _ _ => rfl)) (pv 4) (fun _ _ => rfl)))) (fun _ _ _ _ _ => (pe_ix (ix_listB (K := K)) (pv 5) (pv 4) (fun _ _ => rfl)))) pa_nil)))
        (pss_cons (ps_set (i := 6) sc_law_excesses.nd rfl (Or.inr rfl) (pe_op op_cat (pv 6) (pe_lc (own := [("number", 12)]) rfl sc_law_excesses.nd (pi_list (pv 6)) (blkOk_by (own := [("number", 12)]) (N := ["web", "left", "bears", "loads", "x", "powers", "reach", "gives", "v", "own", "b", "load", "number", "give"]) (sc := defScope s_law_excesses) (by decide +kernel)) (fun _ _ _ _ _ => pg_name (i := 12) sc_law_excesses.nd rfl (Or.inl rfl)) (fun _ _ _ _ _ => pts_nil) (fun _ _ _ _ _ => (pe_op op_or (pv 12) (pv 9))))))
        (pss_one (ps_set (i := 7) sc_law_excesses.nd rfl (Or.inr rfl) (pe_op op_cat (pv 7) (pe_lc (own := [("give", 13)]) rfl sc_law_excesses.nd (pi_list (pv 7)) (blkOk_by (own := [("give", 13)]) (N := ["web", "left", "bears", "loads", "x", "powers", "reach", "gives", "v", "own", "b", "load", "number", "give"]) (sc := defScope s_law_excesses) (by decide +kernel)) (fun _ _ _ _ _ => pg_name (i := 13) sc_law_excesses.nd rfl (Or.inl rfl)) (fun _ _ _ _ _ => pts_nil) (fun _ _ _ _ _ => (pe_op op_add (pv 13) (pe_ix (ix_listB (K := K)) (pv 1) (pv 8) (fun _ _ => rfl)))))))))))
      (pss_one (ps_ret (pe_lc (own := [("b", 10)]) rfl sc_law_excesses.nd (pi_range1 rfl g_range (pa_cons (pe_callB cr_len (by rfl) g_len (by decide +kernel) (pa_cons (pv 7) pa_nil)) pa_nil)) (blkOk_by (own := [("b", 10)]) (N := ["web", "left", "bears", "loads", "x", "powers", "reach", "gives", "v", "own", "b", "load", "number", "give"]) (sc := defScope s_law_excesses) (by decide +kernel)) (fun _ _ _ _ _ => pg_name (i := 10) sc_law_excesses.nd rfl (Or.inl rfl)) (fun _ _ _ _ _ => pts_nil) (fun _ _ _ _ _ => (pe_op op_sub (pe_ix (ix_listB (K := K)) (pv 7) (pv 10) (fun _ _ => rfl)) (pe_ix (ix_listB (K := K)) (pv 3) (pe_ix (ix_listB (K := K)) (pv 6) (pv 10) (fun _ _ => rfl)) (fun _ _ => rfl))))))))))))), ?_⟩
  · rintro n _; rfl
  · rintro n r _ rfl; exact full_ints
  rintro ⟨ws, le, be⟩ ⟨l8, b8, hw, hc⟩
  dsimp only at l8 b8 hw hc
  have ok := okN (K := K) (A := fun _ => True) (H0 := H) (n := 14)
  have lle : (le.map D.int).length = le.length := List.length_map _
  have lbe : (be.map D.int).length = be.length := List.length_map _
  have p8 : ∀ i, i ≤ 8 → 2 ^ i ≤ 256 := fun i hi => Nat.le_trans (Nat.pow_le_pow_right (by decide) hi) (by decide)
  walk_at "ev0"
  rw [lbe]
  refine loopK [4, 11] (fun i ρ => ρ = [cD (.lst (ws.map dBs)), cD (dIs le), cD (dIs be), .t (.row ((subS (be.take i)).map .int)), .dead, .dead, .dead, .dead, .dead, .dead, .dead, .dead, .dead, .dead]) rfl ?_ ?_
  · rintro i ρ hi rfl
    have li : (subS (be.take i)).length ≤ 256 := by rw [subS_len, List.length_take]; exact p8 _ (by omega)
    have es := subS_snoc hi
    generalize subS (be.take i) = lo at *
    walk_at "eg"
    refine es_fz (i := 3) (d := dIs lo) (by walk_at "cat") (T.data_row _) (by walk_at "cset") rfl ?_
    walk_at "ev"
    refine ⟨by rw [List.length_map]; omega, ?_⟩
    refine lcl (fun j acc => acc = ((lo.map (· + be[i])).take j).map (fun y => T.d (.int y))) (by simp) rfl (fun j acc hj hI ha => ?_) fun acc hI _ => ?_
    · rw [List.length_map] at hj
      rw [getD_ints hj]
      walk_at "ev"
      refine vo_ixL (by walk_at "leaf") (dIs_at hi) ?_
      walk_at "ev"
      walk_at "kk"
      rw [hI, take_snoc (show j < (lo.map (· + be[i])).length by rw [List.length_map]; exact hj), List.getElem_map, List.map_append]
      rfl
    rw [List.length_map, List.take_of_length_le (by rw [List.length_map]; exact Nat.le_refl _)] at hI
    subst hI
    rw [row_map]
    refine vo_cat (l1 := lo.map .int) (l2 := (lo.map (· + be[i])).map .int) ok .fz .own (by simp only [List.length_map]; omega) ?_
    rw [← List.map_append, ← es]
    walk_at "ev"
    walk_at "kl"
    rfl
  rintro ρ rfl
  dsimp only
  rw [Int.toNat_natCast, List.take_length]
  refine es_cut (fun ρ => ρ = [cD (.lst (ws.map dBs)), cD (dIs le), cD (dIs be), .t (.row ((subS be).map .int)), .dead, .t (.row pows), .dead, .dead, .dead, .dead, .dead, .dead, .dead, .dead]) (by walk_at "ev"; rfl) ?_
  rintro ρ rfl
  refine es_fz (i := 5) (d := .lst pows) (by walk_at "cat") (T.data_row _) (by walk_at "cset") rfl ?_
  walk_at "ev"
  rw [lle]
  have wl : (ws.map ownN).length = le.length := by rw [List.length_map]; exact hw
  refine loopK [4, 8, 9, 12, 13] (fun i ρ => ρ = [cD (.lst (ws.map dBs)), cD (dIs le), cD (dIs be), .t (.row ((subS be).map .int)), .dead, cD (.lst pows), .t (.row (dNs (rchS ((ws.map ownN).take i)))), .t (.row ((subS (le.take i)).map .int)), .dead, .dead, .dead, .dead, .dead, .dead]) rfl ?_ ?_
  · rintro i ρ hi rfl
    have iw : i < ws.length := by omega
    have rl := hc _ (List.getElem_mem iw)
    have lg : (subS (le.take i)).length ≤ 256 := by rw [subS_len, List.length_take]; exact p8 _ (by omega)
    have lr : (rchS ((ws.map ownN).take i)).length ≤ 256 := by rw [rchS_len, List.length_take]; exact p8 _ (by omega)
    have es := subS_snoc hi
    have er := rchS_snoc (l := ws.map ownN) (i := i) (by omega)
    rw [List.getElem_map] at er
    rw [er, es]
    generalize subS (le.take i) = gi at *
    generalize rchS ((ws.map ownN).take i) = rc at *
    walk_at "eg"
    refine es_fz (i := 6) (d := .lst (dNs rc)) (by walk_at "cat") (T.data_row _) (by walk_at "cset") rfl ?_
    refine es_fz (i := 7) (d := dIs gi) (by walk_at "cat") (T.data_row _) (by walk_at "cset") rfl ?_
    walk_at "ev"
    rw [lbe, Int.toNat_natCast]
    refine lcl (fun j acc => acc = ((ownF ws[i] j).map fun x => ((2 ^ x : Nat) : Int)).map fun y => T.d (.int y)) (by simp) rfl (fun j acc hj hI ha => ?_) fun acc hI _ => ?_
    · have jw : j < ws[i].length := by omega
      have ef := ownF_succ (row := ws[i]) (i := j)
      rw [bls_at jw] at ef
      walk_at "ev"
      refine vo_ixL (by walk_at "leaf") (dBss_at' iw) ?_
      walk_at "ev"
      refine vo_ixL (by walk_at "leaf") (dBs_at' jw) ?_
      refine ⟨_, rfl, ?_⟩
      cases eb : ws[i][j] with
      | true =>
        rw [eb, if_pos rfl] at ef
        refine x_ifp rfl ?_
        walk_at "ev"
        refine vo_ixL (by walk_at "leaf") (pow_at (show j < 8 by omega)) ?_
        walk_at "ev"
        walk_at "kk"
        rw [ef, hI, List.map_append, List.map_append]
        rfl
      | false =>
        rw [eb, if_neg (fun z => nomatch z), List.append_nil] at ef
        refine x_ifn (fun z => nomatch z) ?_
        refine ⟨rfl, by walk_at "kill", ?_⟩
        rw [ef, hI]
    subst hI
    rw [row_map]
    have eo : ((ownF ws[i] be.length).map fun x => ((2 ^ x : Nat) : Int)).sum = ((ownN ws[i] : Nat) : Int) := by
      unfold ownN
      rw [rl, ← sum_cast, List.map_map]
      rfl
    walk_at "ev"
    rw [eo]
    generalize ownN ws[i] = o at *
    refine ⟨by rw [List.length_map]; omega, ?_⟩
    refine lcl (fun j acc => acc = ((rc.map (· ||| o)).take j).map fun m : Nat => T.d (.int (m : Int))) (by simp) rfl (fun j acc hj hI ha => ?_) fun acc hI _ => ?_
    · rw [List.length_map] at hj
      rw [getD_nats hj]
      walk_at "ev"
      rw [bit_or]
      walk_at "kk"
      rw [hI, take_snoc (show j < (rc.map (· ||| o)).length by rw [List.length_map]; exact hj), List.getElem_map, List.map_append]
      rfl
    rw [List.length_map, List.take_of_length_le (by rw [List.length_map]; exact Nat.le_refl _)] at hI
    subst hI
    rw [rowN]
    refine vo_cat (l1 := dNs rc) (l2 := dNs (rc.map (· ||| o))) ok .fz .own (by simp only [List.length_map]; omega) ?_
    rw [show dNs rc ++ dNs (rc.map (· ||| o)) = dNs (rc ++ rc.map (· ||| o)) from List.map_append.symm]
    walk_at "ev"
    refine ⟨by rw [List.length_map]; omega, ?_⟩
    refine lcl (fun j acc => acc = ((gi.map (· + le[i])).take j).map (fun y => T.d (.int y))) (by simp) rfl (fun j acc hj hI ha => ?_) fun acc hI _ => ?_
    · rw [List.length_map] at hj
      rw [getD_ints hj]
      walk_at "ev"
      refine vo_ixL (by walk_at "leaf") (dIs_at hi) ?_
      walk_at "ev"
      walk_at "kk"
      rw [hI, take_snoc (show j < (gi.map (· + le[i])).length by rw [List.length_map]; exact hj), List.getElem_map, List.map_append]
      rfl
    rw [List.length_map, List.take_of_length_le (by rw [List.length_map]; exact Nat.le_refl _)] at hI
    subst hI
    rw [row_map]
    refine vo_cat (l1 := gi.map .int) (l2 := (gi.map (· + le[i])).map .int) ok .fz .own (by simp only [List.length_map]; omega) ?_
    rw [← List.map_append]
    walk_at "ev"
    walk_at "kl"
    rfl
  rintro ρ rfl
  dsimp only
  rw [Int.toNat_natCast, List.take_length, List.take_of_length_le (by omega)]
  have lt : ∀ m ∈ rchS (ws.map ownN), m < (subS be).length := by
    rw [subS_len]
    refine rchS_lt fun o ho => ?_
    obtain ⟨row, hr, rfl⟩ := List.mem_map.mp ho
    exact ownN_lt (hc row hr)
  have lr : (rchS (ws.map ownN)).length = (subS le).length := by rw [rchS_len, subS_len, wl]
  have lg : (subS le).length ≤ 256 := by rw [subS_len]; exact p8 _ l8
  walk_at "ev"
  rw [List.length_map, Int.toNat_natCast]
  have el : (excD ws le be).length = (subS le).length := by unfold excD; rw [List.length_map, List.length_range]
  refine lcl (fun j acc => acc = ((excD ws le be).take j).map (fun y => T.d (.int y))) (by simp) rfl (fun j acc hj hI ha => ?_) fun acc hI _ => ?_
  · have jr : j < (rchS (ws.map ownN)).length := by omega
    have jl := lt _ (List.getElem_mem jr)
    have je : j < (excD ws le be).length := by omega
    have ee : (excD ws le be)[j] = (subS le)[j] - (subS be)[(rchS (ws.map ownN))[j]] := by
      simp only [excD, List.getElem_map, List.getElem_range, List.getD_eq_getElem?_getD, List.getElem?_eq_getElem hj, List.getElem?_eq_getElem jr, Option.getD_some, List.getElem?_eq_getElem jl]
    walk_at "ev"
    refine vo_ixL (by walk_at "leaf") (dIs_at hj) ?_
    walk_at "ev"
    refine vo_ixL (by walk_at "leaf") (dNs_at jr) ?_
    walk_at "ev"
    refine vo_ixL (by walk_at "leaf") (dIs_at jl) ?_
    walk_at "ev"
    walk_at "kk"
    rw [hI, take_snoc je, ee, List.map_append]
    rfl
  rw [List.take_of_length_le (by omega)] at hI
  subst hI
  rw [row_map]
  walk_at "ev"
  rfl
/-- the band of a number -/
def bandOf (b : Int) (n : Nat) : List Int := (upto 0 (n : Int)).filter fun v => decide (b / ((2 ^ v.toNat : Nat) : Int) % 2 = 1)
abbrev s_law_band_of : Stmt := topS 82
theorem sc_law_band_of : FnScope ["number", "parties", "powers", "v"] ["number", "parties"] (defScope s_law_band_of) := ⟨rfl, rfl, rfl, by decide +kernel, rfl, by decide +kernel, by decide +kernel⟩
--DEF _law_band_of
abbrev eBo : Int × Nat → List D := fun a => [.int a.1, .int (a.2 : Int)]
set_option maxHeartbeats 4000000 in
theorem ok_law_band_of (h : DefAt K mg "_law_band_of" ["number", "parties"] s_law_band_of) (g_range : mg "range" = none) :
    Okk P w K mg base CX0 (k + 1) "_law_band_of" ["number", "parties"] (PF K eBo (fun a => 0 ≤ a.1 ∧ a.1 ≤ 1000 ∧ a.2 ≤ 8) fun a r => r = T.row ((bandOf a.1 a.2).map .int)) := by
  refine DefAt.pf h sc_law_band_of ?_ ?_ fun cdv f A outer s H E hr => ⟨_, (pss_cons (ps_set (i := 2) sc_law_band_of.nd rfl (Or.inr rfl) (pe_lst (pa_cons pe_int (pa_cons pe_int (pa_cons pe_int (pa_cons pe_int (pa_cons pe_int (pa_cons pe_int (pa_cons pe_int (pa_cons pe_int pa_nil))))))))))
      (pss_one (ps_ret (pe_lc (own := [("v", 3)]) rfl sc_law_band_of.nd (pi_range1 rfl g_range (pa_cons (pv 1) pa_nil)) (blkOk_by (own := [("v", 3)]) (N := ["number", "parties", "powers", "v"]) (sc := defScope s_law_band_of) (by decide +kernel)) (fun _ _ _ _ _ => pg_name (i := 3) sc_law_band_of.nd rfl (Or.inl rfl)) (fun _ _ _ _ _ => pts_one (pt_cmpR op_eq (pe_op op_mod (pe_op op_fdiv (pv 0) (pe_ix (ix_listB (K := K)) (pv 2) (pv 3) (fun _ _ => rfl))) pe_int) pe_int (nomark _))) (fun _ _ _ _ _ => (pv 3)))))), ?_⟩
  · rintro n _; rfl
  · rintro n r _ rfl; exact full_ints
  rintro ⟨b, n⟩ ⟨b0, b1, n8⟩
  dsimp only at b0 b1 n8
  have ok := okN (K := K) (A := fun _ => True) (H0 := H) (n := 4)
  walk_at "ev0"
  rw [Int.toNat_natCast]
  refine lcl (fun i acc => acc = (bandOf b i).map fun y => T.d (.int y)) (by simp) rfl (fun i acc hi hI ha => ?_) fun acc hI _ => ?_
  · have i8 : i < 8 := by omega
    have ef : bandOf b (i + 1) = bandOf b i ++ (if decide (b / ((2 ^ i : Nat) : Int) % 2 = 1) = true then [(i : Int)] else []) := uptoF (p := fun v => decide (b / ((2 ^ v.toNat : Nat) : Int) % 2 = 1)) (i := i)
    walk_at "ev"
    refine vo_ixL (by walk_at "leaf") (pow_at i8) ?_
    have q1 : 0 < 2 ^ i := Nat.two_pow_pos i
    have q2 : 2 ^ i ≤ 2 ^ 8 := Nat.pow_le_pow_right (by decide) (by omega)
    generalize 2 ^ i = pw at *
    refine vo_I (d := .int (b / (pw : Int))) ⟨by omega, by omega⟩ (.int _) ?_
    walk_at "ev"
    refine x_dec (fun z => ?_) (fun z => ?_)
    · walk_at "ev"
      walk_at "kk"
      rw [ef, hI, if_pos (decide_eq_true z), List.map_append]
      rfl
    · refine ⟨rfl, by walk_at "kill", ?_⟩
      rw [ef, hI, if_neg (by simpa using z), List.append_nil]
  · subst hI
    rw [row_map]
    walk_at "ev"
    rfl
def Br.fields (r : Br) : List (Str × D) := [("own_band", dIs r.band), ("own_names", dIs r.free), ("own_excess", .int r.exc)]
abbrev Br.args (r : Br) : List D := [dIs r.band, dIs r.free, .int r.exc]
abbrev s_Block_init : Stmt := inClass (topS 55) 0
theorem sc_Block_init : FnScope ["self", "band", "names", "excess"] ["self", "band", "names", "excess"] (defScope s_Block_init) := ⟨rfl, rfl, rfl, by decide +kernel, rfl, by decide +kernel, by decide +kernel⟩
--DEF __init__ Block
set_option maxHeartbeats 4000000 in
theorem ok_Block_init {C_Block fI : Addr} {fd : FuncData} (h : FunD K "__init__" "Block.__init__" (defArgs s_Block_init) (defBody s_Block_init) (defScope s_Block_init) [] [] fI fd) (g_list : mg "list" = none)
    (c_B : Cls K C_Block) (n1 : NoAttr K C_Block "own_band") (n2 : NoAttr K C_Block "own_names") (n3 : NoAttr K C_Block "own_excess") :
    FnOk P w K mg base (L2.CX P w) (k + 1) fI fd ["self", "band", "names", "excess"] (PFI K C_Block Br.args (fun r => r.band.length ≤ 1000 ∧ r.free.length ≤ 1000) (fun r fs => fs = r.fields) fun _ _ _ => False) := by
  refine FunD.pfi h sc_Block_init ?_ fun cdv A outer s H E hr => ⟨_, (pss_cons (L2.ps_fld (pv 0) (pe_callTy cr_list (by rfl) g_list (by decide +kernel) (pa_cons (pv 1) pa_nil)) rfl)
      (pss_cons (L2.ps_fld (pv 0) (pe_callTy cr_list (by rfl) g_list (by decide +kernel) (pa_cons (pv 2) pa_nil)) rfl)
      (pss_one (L2.ps_fld (pv 0) (pv 3) rfl)))), ?_⟩
  · rintro ns _; rfl
  rintro r ⟨h1, h2⟩ B H0 a dx
  have ok := okX (K := K) (A := B) (H0 := H0) (n := 4) (W := fun cls d _ H' => E cls d H') (xc := fun C fs _ => False)
  walk_at "ev0"
  exact ⟨_, by walk_at "cat", rfl⟩
abbrev s_Block_band : Stmt := inClass (topS 55) 1
theorem sc_Block_band : FnScope ["self"] ["self"] (defScope s_Block_band) := ⟨rfl, rfl, rfl, by decide +kernel, rfl, by decide +kernel, by decide +kernel⟩
--DEF band Block
theorem ok_Block_band {C_Block f : Addr} {fd : FuncData} (h : FunD K "band" "Block.band" (defArgs s_Block_band) (defBody s_Block_band) (defScope s_Block_band) [] [] f fd) (g_list : mg "list" = none) (c_B : Cls K C_Block) (n2 : NoAttr K C_Block "own_band") :
    FnOk P w K mg base CX0 (k + 1) f fd ["self"] (PF K (fun r : Br => [.obj C_Block r.fields]) (fun _ => True) fun r v => v = T.row (r.band.map .int)) := by
  refine FunD.pf h sc_Block_band ?_ ?_ fun cdv A outer s H E hr => ⟨_, (pss_one (ps_ret (pe_callTy cr_list (by rfl) g_list (by decide +kernel) (pa_cons (L2.pe_fld (pv 0) rfl) pa_nil)))), ?_⟩
  · rintro ns _; rfl
  · rintro ns r _ rfl; exact full_ints
  intro m _
  have ok := okN (K := K) (A := fun _ => True) (H0 := H) (n := 1)
  walk_at "ev0"
  rfl
abbrev s_Block_names : Stmt := inClass (topS 55) 2
theorem sc_Block_names : FnScope ["self"] ["self"] (defScope s_Block_names) := ⟨rfl, rfl, rfl, by decide +kernel, rfl, by decide +kernel, by decide +kernel⟩
--DEF names Block
theorem ok_Block_names {C_Block f : Addr} {fd : FuncData} (h : FunD K "names" "Block.names" (defArgs s_Block_names) (defBody s_Block_names) (defScope s_Block_names) [] [] f fd) (g_list : mg "list" = none) (c_B : Cls K C_Block) (n2 : NoAttr K C_Block "own_names") :
    FnOk P w K mg base CX0 (k + 1) f fd ["self"] (PF K (fun r : Br => [.obj C_Block r.fields]) (fun _ => True) fun r v => v = T.row (r.free.map .int)) := by
  refine FunD.pf h sc_Block_names ?_ ?_ fun cdv A outer s H E hr => ⟨_, (pss_one (ps_ret (pe_callTy cr_list (by rfl) g_list (by decide +kernel) (pa_cons (L2.pe_fld (pv 0) rfl) pa_nil)))), ?_⟩
  · rintro ns _; rfl
  · rintro ns r _ rfl; exact full_ints
  intro m _
  have ok := okN (K := K) (A := fun _ => True) (H0 := H) (n := 1)
  walk_at "ev0"
  rfl
abbrev s_Block_excess : Stmt := inClass (topS 55) 3
theorem sc_Block_excess : FnScope ["self"] ["self"] (defScope s_Block_excess) := ⟨rfl, rfl, rfl, by decide +kernel, rfl, by decide +kernel, by decide +kernel⟩
--DEF excess Block
theorem ok_Block_excess {C_Block f : Addr} {fd : FuncData} (h : FunD K "excess" "Block.excess" (defArgs s_Block_excess) (defBody s_Block_excess) (defScope s_Block_excess) [] [] f fd) (c_B : Cls K C_Block) (n2 : NoAttr K C_Block "own_excess") :
    FnOk P w K mg base CX0 (k + 1) f fd ["self"] (PF K (fun r : Br => [.obj C_Block r.fields]) (fun _ => True) fun r v => v = .d (.int r.exc)) := by
  refine FunD.pf h sc_Block_excess ?_ ?_ fun cdv A outer s H E hr => ⟨_, (pss_one (ps_ret (L2.pe_fld (pv 0) rfl))), ?_⟩
  · rintro ns _; rfl
  · rintro ns r _ rfl; rfl
  intro m _
  have ok := okN (K := K) (A := fun _ => True) (H0 := H) (n := 1)
  walk_at "ev0"
  rfl
def brBlk (C : Addr) (r : Br) : D := if r.exc ≤ 0 then .non else .obj C r.fields
abbrev s_block_of : Stmt := topS 58
theorem sc_block_of : FnScope ["row", "band", "free", "excess"] ["row"] (defScope s_block_of) := ⟨rfl, rfl, rfl, by decide +kernel, rfl, by decide +kernel, by decide +kernel⟩
--DEF block_of
abbrev eBr1 : Br → List D := fun r => [r.d]
set_option maxHeartbeats 4000000 in
theorem ok_block_of {C_Block : Addr} (h : DefAt K mg "block_of" ["row"] s_block_of)
    (K_Block : MakeAt P w K mg base (L2.CX P w) k "Block" C_Block ["self", "band", "names", "excess"] (PFI K C_Block Br.args (fun r => r.band.length ≤ 1000 ∧ r.free.length ≤ 1000) (fun r fs => fs = r.fields) fun _ _ _ => False)) :
    Okk P w K mg base CX0 (k + 1 + 1) "block_of" ["row"] (PFN K eBr1 (fun r => r.band.length ≤ 1000 ∧ r.free.length ≤ 1000) fun r v => v = .d (brBlk C_Block r)) := by
  refine DefAt.pfn h sc_block_of ?_ fun cdv f A outer s H E hr => ⟨_, (pss_cons (ps_asg (pv 0) (pg_tup rfl (pgs_cons (pg_name (i := 1) sc_block_of.nd rfl (Or.inl rfl)) (pgs_cons (pg_name (i := 2) sc_block_of.nd rfl (Or.inl rfl)) (pgs_cons (pg_name (i := 3) sc_block_of.nd rfl (Or.inl rfl)) pgs_nil)))))
      (pss_cons (ps_if (pt_cmpR op_le (pv 3) pe_int (nomark _)) (pss_one (ps_ret pe_non)) pss_nil)
      (pss_one (ps_ret (pe_makeL K_Block hr passF (pa_cons (pv 1) (pa_cons (pv 2) (pa_cons (pv 3) pa_nil)))))))), ?_⟩
  · rintro n _; rfl
  rintro r pre
  have ok := okN (K := K) (A := fun _ => True) (H0 := H) (n := 4)
  simp only [LN.startC, List.length_cons, List.length_nil, Nat.reduceAdd, L2.cxOf, L2.Cx.nox, List.map_cons, List.map_nil]
  refine esn_seq ?_
  walk_at "ev"
  refine esn_seq ?_
  walk_at "ev"
  refine x_dec (fun z => ?_) (fun z => ?_)
  · walk_at "ev"
    exact ⟨.non, rfl, rfl, by unfold brBlk; rw [if_pos z]⟩
  · walk_at "ev"
    refine esn_retMk ?_
    walk_at "ev"
    exact ⟨pre, fun fs e => by unfold brBlk; rw [if_neg z, e], fun _ _ z => z⟩
abbrev s_band_rows : Stmt := topS 57
theorem sc_band_rows : FnScope ["moment", "web", "left", "bears", "rows", "at", "band", "free", "excess", "start", "party", "cells", "lost", "kept", "name"] ["moment", "web"] (defScope s_band_rows) := ⟨rfl, rfl, rfl, by decide +kernel, rfl, by decide +kernel, by decide +kernel⟩
--DEF band_rows
abbrev eBw (C : Addr) : Mo × List (List Bool) → List D := fun a => [.obj C a.1.fields, .lst (a.2.map dBs)]
set_option maxHeartbeats 8000000 in
theorem ok_band_rows {C_Moment : Addr} (h : DefAt K mg "band_rows" ["moment", "web"] s_band_rows) (g_len : mg "len" = none) (g_range : mg "range" = none) (g_sum : mg "sum" = none)
    (P_Moment_left : PropAt P w K mg base k C_Moment "left" (PF K (fun m : Mo => [.obj C_Moment m.fields]) (fun _ => True) fun m r => r = T.row (m.left.map .int)))
    (P_Moment_bears : PropAt P w K mg base k C_Moment "bears" (PF K (fun m : Mo => [.obj C_Moment m.fields]) (fun _ => True) fun m r => r = T.row (m.bears.map .int)))
    (P_Moment_standing : PropAt P w K mg base k C_Moment "standing" (PF K (fun m : Mo => [.obj C_Moment m.fields]) (fun _ => True) fun m r => r = T.row ((standing m.bears).map .int))) :
    Okk P w K mg base CX0 (k + 1 + 1) "band_rows" ["moment", "web"] (PFA K (eBw C_Moment) (fun a => a.1.Sh ∧ Wb a.2 a.1.bears.length ∧ a.2.length = a.1.left.length) fun a r => ∃ rows : List Br, r.data = .lst (rows.map Br.d) ∧ BandRows a.1 a.2 rows) := by
  refine DefAt.pfa h sc_band_rows ?_ fun cdv f A outer s H E hr => ⟨_, (pss_cons (ps_set (i := 2) sc_band_rows.nd rfl (Or.inl rfl) (pe_propL P_Moment_left hr (pv 0)))
      (pss_cons (ps_set (i := 3) sc_band_rows.nd rfl (Or.inr rfl) (pe_propL P_Moment_bears hr (pv 0)))
      (pss_cons (ps_set (i := 4) sc_band_rows.nd rfl (Or.inl rfl) (pe_lst (pa_cons (pe_tup (pa_cons (pe_lst pa_nil) (pa_cons (pe_propL P_Moment_standing hr (pv 0)) (pa_cons pe_int pa_nil)))) pa_nil)))
      (pss_cons (ps_set (i := 5) sc_band_rows.nd rfl (Or.inl rfl) pe_int)
      (pss_cons (ps_while PassesOwn.never (pt_cmpR op_lt (pv 5) (pe_callB cr_len (by rfl) g_len (by decide +kernel) (pa_cons (pv 4) pa_nil)) (nomark _))
        (pss_cons (ps_asg (pe_ix ix_list (pv 4) (pv 5) (fun _ _ => rfl)) (pg_tup rfl (pgs_cons (pg_name (i := 6) sc_band_rows.nd rfl (Or.inl rfl)) (pgs_cons (pg_name (i := 7) sc_band_rows.nd rfl (Or.inl rfl)) (pgs_cons (pg_name (i := 8) sc_band_rows.nd rfl (Or.inl rfl)) pgs_nil)))))
        (pss_cons (ps_set (i := 9) sc_band_rows.nd rfl (Or.inl rfl) (pe_ifExp (pt_truth (pv 6) (by intro _; rfl)) (pe_op op_add (pe_ix ix_list (pv 6) (pe_un un_neg pe_int) (fun _ _ => rfl)) pe_int) pe_int))
        (pss_cons (ps_for PassesOwn.never rfl (pi_range2 rfl g_range (pa_cons (pv 9) (pa_cons (pe_callB cr_len (by rfl) g_len (by decide +kernel) (pa_cons (pv 2) pa_nil)) pa_nil))) (pg_name (i := 10) sc_band_rows.nd rfl (Or.inl rfl))
          (pss_cons (ps_set (i := 11) sc_band_rows.nd rfl (Or.inr rfl) (pe_ix ix_list (pv 1) (pv 10) (fun _ _ => rfl)))
          (pss_cons (ps_set (i := 12) sc_band_rows.nd rfl (Or.inl rfl) (pe_callB (cr_sum rfl) (by rfl) g_sum (by decide +kernel) (pa_cons (pe_lc (own := [("name", 14)]) rfl sc_band_rows.nd (pi_list (pv 7)) (blkOk_by (own := [("name", 14)]) (N := ["moment", "web", "left", "bears", "rows", "at", "band", "free", "excess", "start", "party", "cells", "lost", "kept", "name"]) (sc := defScope s_band_rows) (by decide +kernel)) (fun _ _ _ _ _ => pg_name (i := 14) sc_band_rows.nd rfl (Or.inl rfl)) (fun _ _ _ _ _ => pts_one (pt_val (pe_ix (ix_listB (K := K)) (pv 11) (pv 14) (fun _ _ => rfl)))) (fun _ _ _ _ _ => (pe_ix (ix_listB (K := K)) (pv 3) (pv 14) (fun _ _ => rfl)))) pa_nil)))
          (pss_cons (ps_setLc (i := 13) (own := [("name", 14)]) rfl sc_band_rows.nd rfl rfl (sw_true rfl rfl rfl (by decide +kernel)) (pi_list (pv 7)) (blkOk_by (own := [("name", 14)]) (N := ["moment", "web", "left", "bears", "rows", "at", "band", "free", "excess", "start", "party", "cells", "lost", "kept", "name"]) (sc := defScope s_band_rows) (by decide +kernel)) (fun _ _ _ _ _ => pg_name (i := 14) sc_band_rows.nd rfl (Or.inl rfl)) (fun _ _ _ _ _ => pts_one (pt_not (pt_val (pe_ix (ix_listB (K := K)) (pv 11) (pv 14) (fun _ _ => rfl))))) (fun _ _ _ _ _ => (pv 14)))
          (pss_one (ps_expr (pe_bm PySem.F.plainAttrs_list PySem.F.slot_list_append PySem.F.type_list_append mt_append (pv 4) (pa_cons (pe_tup (pa_cons (pe_op op_cat (pv 6) (pe_lst (pa_cons (pv 10) pa_nil))) (pa_cons (pv 13) (pa_cons (pe_op op_sub (pe_op op_add (pv 8) (pe_ix ix_list (pv 2) (pv 10) (fun _ _ => rfl))) (pv 12)) pa_nil)))) pa_nil))))))))
        (pss_one (ps_aug (i := 5) sc_band_rows.nd rfl (Or.inl rfl) pe_int ip_add))))))
      (pss_one (ps_ret (pv 4)))))))), ?_⟩
  · rintro n _; rfl
  rintro ⟨m, ws⟩ ⟨sh, wb, hw⟩ B
  dsimp only at sh wb hw
  have ok := okN (K := K) (A := B) (H0 := H) (n := 15)
  have l8 := wb.l
  have b8 := sh.ok.b1
  walk_at "ev0"
  refine ⟨m, m.fields, rfl, rfl, trivial, ?_⟩
  rintro r rfl
  walk_at "eg"
  refine es_fz (i := 2) (d := dIs m.left) (by walk_at "cat") (T.data_row _) (by walk_at "cset") rfl ?_
  walk_at "ev"
  refine ⟨m, m.fields, rfl, rfl, trivial, ?_⟩
  rintro r rfl
  walk_at "eg"
  refine es_fz (i := 3) (d := dIs m.bears) (by walk_at "cat") (T.data_row _) (by walk_at "cset") rfl ?_
  walk_at "ev"
  refine ⟨m, m.fields, rfl, rfl, trivial, ?_⟩
  rintro r rfl
  walk_at "ev"
  have n8 : 2 ^ m.left.length ≤ 256 := Nat.le_trans (Nat.pow_le_pow_right (by decide) (show m.left.length ≤ 8 by omega)) (by decide)
  refine es_while (fun c ρ => ∃ (rows : List Br) (l : List T) (a : Nat), ρ = [cD (.obj C_Moment m.fields), cD (.lst (ws.map dBs)), cD (dIs m.left), cD (dIs m.bears), .t (.lst l), cI (a : Int), .dead, .dead, .dead, .dead, .dead, .dead, .dead, .dead, .dead] ∧ T.datas l = rows.map Br.d ∧ BandInv m ws rows a ∧ c = 2 ^ m.left.length - a) (2 ^ m.left.length) ⟨[brRoot m], _, 0, rfl, ?_, .init, rfl⟩ ?_
  · show [D.tup [_, T.data _, _]] = _
    rw [T.data_row]
    rfl
  · rintro c ρ ⟨rows, l, a, rfl, el, inv, rfl⟩
    have ll : (T.datas l).length = rows.length := by rw [el, List.length_map]
    have rl := inv.len
    walk_at "ev"
    rw [ll]
    refine x_dec (fun z => ?_) (fun z => ?_)
    · have ha : a < rows.length := by omega
      have inv2 := inv.step ha
      have rok := inv.ok _ (List.getElem_mem ha)
      have ga : atI (rows.map Br.d) (a : Int) = some (rows[a]).d := at_nat (by rw [List.getElem?_map, List.getElem?_eq_getElem ha]; rfl)
      generalize rows[a] = r at *
      refine es_fzI (i := 4) (by walk_at "cat") el (by walk_at "cset") rfl ?_
      walk_at "ev"
      refine vo_ixL (by walk_at "leaf") ga ?_
      refine eg_tup3 rfl rfl (by walk_at "leaf") (by walk_at "cset") rfl (by walk_at "cset") rfl (by walk_at "cset") ?_
      have hs := rok.asc.le
      have fm : ∀ x ∈ r.free, 0 ≤ x ∧ x < m.bears.length := fun x hx => by
        rw [rok.free] at hx
        have := mem_standing.mp (List.mem_filter.mp hx).1
        exact ⟨this.1, this.2.1⟩
      have fl : r.free.length ≤ 8 := by
        rw [rok.free]
        have := List.length_filter_le (fun x => !(r.band.any fun v => cellW ws v x)) (standing m.bears)
        have := standing_length m.bears
        show ((standing m.bears).filter _).length ≤ 8
        omega
      have bl : r.band.length ≤ 8 := by
        have e : r.band = (upto 0 (m.left.length : Int)).filter fun v => decide (v ∈ r.band) := asc_filter rok.asc
        have := List.length_filter_le (fun v => decide (v ∈ r.band)) (upto 0 (m.left.length : Int))
        rw [← e, upto_length] at this
        omega
      refine es_cut (fun ρ => ρ = [cD (.obj C_Moment m.fields), cD (.lst (ws.map dBs)), cD (dIs m.left), cD (dIs m.bears), .t (.row (rows.map Br.d)), cI (a : Int), cD (dIs r.band), cD (dIs r.free), cI r.exc, cI (brS r.band : Int), .dead, .dead, .dead, .dead, .dead]) ?_ ?_
      · walk_at "ev"
        rcases List.eq_nil_or_concat r.band with eb | ⟨C, v, eb⟩
        · rw [eb]
          refine x_ifn (by simp) ?_
          walk_at "ev"
          rfl
        · rw [List.concat_eq_append] at eb
          have hv := (rok.asc.2 v (by rw [eb]; simp)).1
          obtain ⟨p, rfl⟩ := Int.eq_ofNat_of_zero_le hv
          rw [eb, brS_snoc]
          refine x_ifp (by simp) ?_
          walk_at "ev"
          have e1 : atI ((C ++ [(p : Int)]).map D.int) (-1) = some (.int (p : Int)) := by
            unfold atI
            rw [ixN_last (by simp)]
            simp
          refine vo_ixL (by walk_at "leaf") e1 ?_
          walk_at "ev"
          rfl
      rintro ρ rfl
      have lle : (m.left.map D.int).length = m.left.length := List.length_map _
      walk_at "ev"
      rw [lle, show ((m.left.length : Int) - (brS r.band : Int)).toNat = m.left.length - brS r.band by omega]
      have kl : (brKids m ws r).length = m.left.length - brS r.band := by unfold brKids; rw [List.length_map, List.length_range]
      refine loopK [10, 11, 12, 13, 14] (fun j ρ => ∃ l : List T, ρ = [cD (.obj C_Moment m.fields), cD (.lst (ws.map dBs)), cD (dIs m.left), cD (dIs m.bears), .t (.lst l), cI (a : Int), cD (dIs r.band), cD (dIs r.free), cI r.exc, cI (brS r.band : Int), .dead, .dead, .dead, .dead, .dead] ∧ T.datas l = (rows ++ (brKids m ws r).take j).map Br.d) ⟨_, rfl, by rw [T.datas_d, List.take_zero, List.append_nil]⟩ ?_ ?_
      · rintro j ρ hj ⟨l', rfl, el'⟩
        have jk : j < (brKids m ws r).length := by omega
        have ek := take_snoc jk
        have e0 : (brKids m ws r)[j] = brKid m ws r (brS r.band + j) := by simp [brKids]
        rw [e0] at ek
        have pc : (brS r.band : Int) + (j : Int) = ((brS r.band + j : Nat) : Int) := rfl
        rw [pc]
        have pl : brS r.band + j < m.left.length := by omega
        rw [ek]
        generalize brS r.band + j = p at *
        have pw : p < ws.length := by omega
        have rw0 := wb.r _ (List.getElem_mem pw)
        walk_at "eg"
        refine es_fzI (i := 4) (by walk_at "cat") el' (by walk_at "cset") rfl ?_
        walk_at "ev"
        refine vo_ixL (by walk_at "leaf") (dBss_at pw) ?_
        walk_at "ev"
        refine ⟨by rw [List.length_map]; omega, ?_⟩
        refine lcl (fun c acc => acc = ((r.free.take c).filter fun x => cellW ws (p : Int) x).map fun x => T.d (.int (m.bears.getD x.toNat 0))) (by simp) rfl (fun c acc hc hI ha => ?_) fun acc hI _ => ?_
        · have hc' : c < r.free.length := by first | exact hc | simpa using hc
          rw [getD_ints hc']
          have ec := take_snoc hc'
          have xr := fm _ (List.getElem_mem hc')
          generalize r.free[c] = x' at *
          obtain ⟨x, rfl⟩ := Int.eq_ofNat_of_zero_le xr.1
          have xl : x < m.bears.length := by omega
          have xw : x < ws[p].length := by omega
          have ecw := cellW_at pw xw
          walk_at "ev"
          refine vo_ixL (by walk_at "leaf") (dBs_at xw) ?_
          refine ⟨_, rfl, ?_⟩
          cases e : ws[p][x] with
          | true =>
            rw [e] at ecw
            refine x_ifp rfl ?_
            walk_at "ev"
            refine vo_ixL (by walk_at "leaf") (dIs_at xl) ?_
            walk_at "ev"
            walk_at "kk"
            rw [ec, hI, List.filter_append, List.filter_cons_of_pos ecw, List.filter_nil, List.map_append, List.map_singleton, Int.toNat_natCast, List.getD_eq_getElem?_getD, List.getElem?_eq_getElem xl, Option.getD_some]
          | false =>
            rw [e] at ecw
            refine x_ifn (fun z => nomatch z) ?_
            refine ⟨rfl, by walk_at "kill", ?_⟩
            rw [ec, hI, List.filter_append, List.filter_cons_of_neg (by rw [ecw]; decide), List.filter_nil, List.append_nil]
        rw [List.length_map, List.take_length] at hI
        subst hI
        rw [rowI]
        walk_at "ev"
        refine ⟨by rw [List.length_map]; omega, ?_⟩
        refine lcl (fun c acc => acc = ((r.free.take c).filter fun x => !(cellW ws (p : Int) x)).map fun x => T.d (.int x)) (by simp) rfl (fun c acc hc hI ha => ?_) fun acc hI _ => ?_
        · have hc' : c < r.free.length := by first | exact hc | simpa using hc
          rw [getD_ints hc']
          have ec := take_snoc hc'
          have xr := fm _ (List.getElem_mem hc')
          generalize r.free[c] = x' at *
          obtain ⟨x, rfl⟩ := Int.eq_ofNat_of_zero_le xr.1
          have xw : x < ws[p].length := by omega
          have ecw := cellW_at pw xw
          walk_at "ev"
          refine vo_ixL (by walk_at "leaf") (dBs_at xw) ?_
          refine ⟨_, rfl, ?_⟩
          cases e : ws[p][x] with
          | true =>
            rw [e] at ecw
            refine x_ifn (fun z => nomatch z) ?_
            refine ⟨rfl, by walk_at "kill", ?_⟩
            rw [ec, hI, List.filter_append, List.filter_cons_of_neg (by rw [ecw]; decide), List.filter_nil, List.append_nil]
          | false =>
            rw [e] at ecw
            refine x_ifp rfl ?_
            walk_at "ev"
            walk_at "kk"
            rw [ec, hI, List.filter_append, List.filter_cons_of_pos (by rw [ecw]; rfl), List.filter_nil, List.map_append, List.map_singleton]
        rw [List.length_map, List.take_length] at hI
        subst hI
        rw [row_map]
        walk_at "eg"
        refine es_fz (i := 13) (d := dIs (r.free.filter fun x => !(cellW ws (p : Int) x))) (by walk_at "cat") (T.data_row _) (by walk_at "cset") rfl ?_
        have lt : ((brKids m ws r).take j).length ≤ 8 := by rw [List.length_take]; omega
        walk_at "ev"
        refine vo_cat (l1 := r.band.map .int) (l2 := [.int (p : Int)]) ok .fz (.own (l := [.int (p : Int)])) (by rw [List.length_map]; show _ + 1 ≤ _; omega) ?_
        rw [show r.band.map D.int ++ [D.int (p : Int)] = (r.band ++ [(p : Int)]).map D.int by rw [List.map_append]; rfl]
        walk_at "ev"
        refine vo_ixL (by walk_at "leaf") (dIs_at pl) ?_
        walk_at "ev"
        walk_at "kl"
        refine ⟨_, rfl, ?_⟩
        have e5 : ((rows ++ (brKids m ws r).take j) ++ [brKid m ws r p]).map Br.d = (rows ++ (brKids m ws r).take j).map Br.d ++ [(brKid m ws r p).d] := List.map_append
        rw [T.datas_map, List.map_append, ← T.datas_map, T.datas_d, ← List.append_assoc, e5]
        congr 1
        show [D.tup [T.data (T.row _), _, _]] = [(brKid m ws r p).d]
        rw [T.data_row, show m.left[p] = m.left.getD p 0 by rw [List.getD_eq_getElem?_getD, List.getElem?_eq_getElem pl, Option.getD_some]]
        rfl
      · rintro ρ ⟨l', rfl, el'⟩
        rw [List.take_of_length_le (by omega)] at el'
        dsimp only
        refine es_kill (i := 6) (by walk_at "cset") rfl ?_
        refine es_kill (i := 7) (by walk_at "cset") rfl ?_
        refine es_kill (i := 8) (by walk_at "cset") rfl ?_
        refine es_kill (i := 9) (by walk_at "cset") rfl ?_
        walk_at "ev"
        exact ⟨2 ^ m.left.length - (a + 1), by omega, _, l', a + 1, rfl, el', inv2, rfl⟩
    · have : a = rows.length := by have := inv.le; omega
      subst this
      have m4 : Mv 4 := .mk
      walk_at "ev"
      exact ⟨rows, by show D.lst (T.datas l) = _; rw [el], inv.done⟩
/-- the last row of the greatest excess -/
def lastMax : Br → List Br → Br
  | b, [] => b
  | b, r :: l => lastMax (if r.exc ≥ b.exc then r else b) l
theorem lastMax_take {b : Br} : ∀ {l : List Br} {i : Nat} (h : i < l.length), lastMax b (l.take (i + 1)) = if l[i].exc ≥ (lastMax b (l.take i)).exc then l[i] else lastMax b (l.take i)
  | [], _, h => by cases h
  | r :: l, 0, _ => rfl
  | r :: l, i + 1, h => by
    show lastMax _ (l.take (i + 1)) = _
    rw [lastMax_take (l := l) (i := i) (by simpa using h)]
    rfl
theorem lastMax_mem {b : Br} : ∀ {l : List Br}, lastMax b l = b ∨ lastMax b l ∈ l
  | [] => .inl rfl
  | r :: l => by
    show lastMax (if r.exc ≥ b.exc then r else b) l = b ∨ lastMax (if r.exc ≥ b.exc then r else b) l ∈ r :: l
    split
    · rcases lastMax_mem (b := r) (l := l) with e | e
      · exact .inr (by rw [e]; exact List.mem_cons_self)
      · exact .inr (List.mem_cons_of_mem _ e)
    · rcases lastMax_mem (b := b) (l := l) with e | e
      · exact .inl e
      · exact .inr (List.mem_cons_of_mem _ e)
theorem BrOk.bl {m : Mo} {ws : List (List Bool)} {r : Br} (h : BrOk m ws r) : r.band.length ≤ m.left.length := by
  have e := asc_filter h.asc
  have := List.length_filter_le (fun v => decide (v ∈ r.band)) (upto 0 (m.left.length : Int))
  rw [← e, upto_length] at this
  omega
theorem BrOk.fl {m : Mo} {ws : List (List Bool)} {r : Br} (h : BrOk m ws r) : r.free.length ≤ m.bears.length := by
  rw [h.free]
  have := List.length_filter_le (fun x => !(r.band.any fun v => cellW ws v x)) (standing m.bears)
  have := standing_length m.bears
  show ((standing m.bears).filter _).length ≤ _
  omega
def excOv (CO : Addr) (a : Mo × List (List Bool)) (C : Addr) (fs : List (Str × V)) : Prop := a.1.left.sum = 0 ∧ C = CO ∧ fs = []
abbrev s_widest_block : Stmt := topS 59
theorem sc_widest_block : FnScope ["moment", "web", "rows", "best", "row"] ["moment", "web"] (defScope s_widest_block) := ⟨rfl, rfl, rfl, by decide +kernel, rfl, by decide +kernel, by decide +kernel⟩
--DEF widest_block
set_option maxHeartbeats 4000000 in
theorem ok_widest_block {C_Moment C_Block C_Over : Addr} (h : DefAt K mg "widest_block" ["moment", "web"] s_widest_block)
    (D_check_open : Okk P w K mg base (L2.CX P w) (k + 1) "check_open" ["moment"] (PFX K (fun m : Mo => [.obj C_Moment m.fields]) (fun _ => True) (fun m r => r = .d .non ∧ m.left.sum ≠ 0) fun m C fs => m.left.sum = 0 ∧ C = C_Over ∧ fs = []))
    (D_band_rows : Okk P w K mg base CX0 (k + 1) "band_rows" ["moment", "web"] (PFA K (eBw C_Moment) (fun a => a.1.Sh ∧ Wb a.2 a.1.bears.length ∧ a.2.length = a.1.left.length) fun a r => ∃ rows : List Br, r.data = .lst (rows.map Br.d) ∧ BandRows a.1 a.2 rows))
    (D_block_of : Okk P w K mg base CX0 (k + 1) "block_of" ["row"] (PFN K eBr1 (fun r => r.band.length ≤ 1000 ∧ r.free.length ≤ 1000) fun r v => v = .d (brBlk C_Block r))) :
    Okk P w K mg base (L2.CX P w) (k + 1 + 1) "widest_block" ["moment", "web"] (PFNX K (eBw C_Moment) (fun a => a.1.Sh ∧ Wb a.2 a.1.bears.length ∧ a.2.length = a.1.left.length) (fun a v => a.1.left.sum ≠ 0 ∧ ∃ rows, BandRows a.1 a.2 rows ∧ v = .d (brBlk C_Block (lastMax (brRoot a.1) rows))) (excOv C_Over)) := by
  refine DefAt.pfnx h sc_widest_block ?_ fun cdv f A outer s H E hr => ⟨_, (pss_cons (ps_expr (pe_ownX D_check_open hr (passes_call (takes_of rfl rfl rfl rfl) fun _ _ _ _ z => z) (pa_cons (pv 0) pa_nil)))
      (pss_cons (ps_set (i := 2) sc_widest_block.nd rfl (Or.inl rfl) (pe_own D_band_rows hr (pa_cons (pv 0) (pa_cons (pv 1) pa_nil))))
      (pss_cons (ps_set (i := 3) sc_widest_block.nd rfl (Or.inl rfl) (pe_ix ix_list (pv 2) pe_int (fun _ _ => rfl)))
      (pss_cons (ps_for (passes_of rfl) rfl (pi_list (pv 2)) (pg_name (i := 4) sc_widest_block.nd rfl (Or.inl rfl))
        (pss_one (ps_if (pt_cmpR op_ge (pe_ix ix_tup (pv 4) pe_int (fun _ _ => rfl)) (pe_ix ix_tup (pv 3) pe_int (fun _ _ => rfl)) (nomark _)) (pss_one (ps_set (i := 3) sc_widest_block.nd rfl (Or.inl rfl) (pv 4))) pss_nil)))
      (pss_one (ps_ret (pe_own D_block_of hr (pa_cons (pv 3) pa_nil)))))))), ?_⟩
  · rintro n _; rfl
  rintro ⟨m, ws⟩ ⟨sh, wb, hw⟩
  dsimp only at sh wb hw
  have ok := okX (K := K) (A := fun _ => True) (H0 := H) (n := 5) (W := fun cls d _ H' => E cls d H') (xc := fun C fs _ => excOv C_Over (m, ws) C fs)
  simp only [LN.startC, List.length_cons, List.length_nil, Nat.reduceAdd, L2.cxOf, L2.Cx.nox, List.map_cons, List.map_nil]
  refine esn_seq ?_
  walk_at "ev"
  refine ⟨trivial, ?_, fun C fs z => z⟩
  rintro r ⟨rfl, h0⟩
  walk_at "ev"
  refine esn_seq ?_
  walk_at "ev"
  refine ⟨(m, ws), .cons (.cons .nil), ⟨sh, wb, hw⟩, ?_⟩
  rintro r ⟨rows, er, br⟩
  walk_at "eg"
  refine esn_seq ?_
  refine es_fz (i := 2) (d := .lst (rows.map Br.d)) (by walk_at "cat") er (by walk_at "cset") rfl ?_
  clear er r
  have hd := br.hd
  obtain ⟨l, rfl⟩ : ∃ l, rows = brRoot m :: l := by
    cases rows with
    | nil => cases hd
    | cons a l =>
      cases hd
      exact ⟨l, rfl⟩
  generalize el : brRoot m :: l = rows at *
  have r0 : 0 < rows.length := by rw [← el]; exact Nat.succ_pos _
  have a0 : atI (rows.map Br.d) ((0 : Nat) : Int) = some (brRoot m).d := at_nat (by rw [← el]; rfl)
  walk_at "ev"
  refine vo_ixL (by walk_at "leaf") a0 ?_
  walk_at "ev"
  refine esn_seq ?_
  walk_at "ev"
  refine loopK [4] (fun i ρ => ρ = [cD (.obj C_Moment m.fields), cD (.lst (ws.map dBs)), cD (.lst (rows.map Br.d)), cD (lastMax (brRoot m) (rows.take i)).d, .dead]) rfl ?_ ?_
  · rintro i ρ hi rfl
    rw [List.length_map] at hi
    have em := lastMax_take (b := brRoot m) hi
    have eg : (rows.map Br.d).getD i .non = rows[i].d := by
      rw [List.getD_eq_getElem?_getD, List.getElem?_map, List.getElem?_eq_getElem hi]
      rfl
    rw [eg, em]
    generalize rows[i] = r at *
    generalize lastMax (brRoot m) (rows.take i) = b at *
    walk_at "ev"
    refine x_dec (fun z => ?_) (fun z => ?_)
    · walk_at "ev"
      walk_at "kl"
      rw [if_pos z]
    · walk_at "ev"
      walk_at "kl"
      rw [if_neg z]
  rintro ρ rfl
  rw [List.length_map, List.take_length]
  refine esn_retCall ?_
  walk_at "ev"
  have ok2 : BrOk m ws (lastMax (brRoot m) rows) := by
    rcases lastMax_mem (b := brRoot m) (l := rows) with e | e
    · rw [e]
      exact .root
    · exact br.ok _ e
  have := ok2.bl
  have := ok2.fl
  have := wb.l
  have := wb.c
  exact ⟨⟨by omega, by omega⟩, fun r e => ⟨h0, rows, br, e⟩⟩
/-- the band of a number, by its bits -/
def bandB (b n : Nat) : List Int := (upto 0 (n : Int)).filter fun v => b.testBit v.toNat
theorem bandOf_bit {b n : Nat} : bandOf (b : Int) n = bandB b n := by
  unfold bandOf bandB
  congr 1
  funext v
  rw [Nat.testBit_eq_decide_div_mod_eq, ← Int.natCast_ediv]
  refine decide_eq_decide.mpr ?_
  omega
theorem bandB_succ {b i : Nat} : bandB b (i + 1) = bandB b i ++ if b.testBit i = true then [(i : Int)] else [] := by
  have := uptoF (p := fun v => b.testBit v.toNat) (i := i)
  rw [Int.toNat_natCast] at this
  exact this
theorem bandB_low {b i : Nat} (h : b < 2 ^ i) : bandB b (i + 1) = bandB b i := by
  rw [bandB_succ, Nat.testBit_lt_two_pow h, if_neg (fun z => nomatch z), List.append_nil]
theorem bandB_high {b i : Nat} (h : b < 2 ^ i) : bandB (2 ^ i + b) (i + 1) = bandB b i ++ [(i : Int)] := by
  rw [bandB_succ, Nat.testBit_two_pow_add_eq, Nat.testBit_lt_two_pow h, Bool.not_false, if_pos rfl]
  congr 1
  unfold bandB
  refine List.filter_congr fun v hv => ?_
  have := mem_upto.mp hv
  exact Nat.testBit_two_pow_add_gt (by omega) b
theorem getD_left {α : Type} {S R : List α} {b : Nat} {d : α} (h : b < S.length) : (S ++ R).getD b d = S.getD b d := by
  rw [List.getD_eq_getElem?_getD, List.getElem?_append_left h, List.getD_eq_getElem?_getD]
theorem getD_right {α : Type} {S R : List α} {b : Nat} {d : α} : (S ++ R).getD (S.length + b) d = R.getD b d := by
  rw [List.getD_eq_getElem?_getD, List.getElem?_append_right (by omega), Nat.add_sub_cancel_left, List.getD_eq_getElem?_getD]
theorem getD_map {α β : Type} {f : α → β} {S : List α} {b : Nat} {d : α} {e : β} (h : b < S.length) : (S.map f).getD b e = f (S.getD b d) := by
  rw [List.getD_eq_getElem?_getD, List.getElem?_map, List.getElem?_eq_getElem h, List.getD_eq_getElem?_getD, List.getElem?_eq_getElem h]
  rfl
theorem subS_take {l : List Int} : ∀ i, i ≤ l.length → ∀ b, b < 2 ^ i → (subS (l.take i)).getD b 0 = sumAt l (bandB b i)
  | 0, _, b, hb => by
    obtain rfl : b = 0 := by simpa using hb
    rfl
  | i + 1, hi, b, hb => by
    have ih := subS_take (l := l) i (by omega)
    have il : i < l.length := by omega
    have sl : (subS (l.take i)).length = 2 ^ i := by rw [subS_len, List.length_take, Nat.min_eq_left (by omega)]
    rw [subS_snoc il]
    by_cases z : b < 2 ^ i
    · rw [getD_left (by omega), ih b z, bandB_low z]
    · obtain ⟨c, rfl⟩ : ∃ c, b = 2 ^ i + c := ⟨b - 2 ^ i, by omega⟩
      have hc : c < 2 ^ i := by rw [Nat.pow_succ] at hb; omega
      rw [← sl, getD_right, getD_map (d := 0) (by omega), sl, ih c hc, bandB_high hc, sumAt_snoc, List.getD_eq_getElem?_getD, List.getElem?_eq_getElem il, Option.getD_some]
theorem subS_at {l : List Int} {b : Nat} (h : b < 2 ^ l.length) : (subS l).getD b 0 = sumAt l (bandB b l.length) := by
  have := subS_take (l := l) l.length (Nat.le_refl _) b h
  rw [List.take_length] at this
  exact this
theorem rchS_take {l : List Nat} {x : Nat} : ∀ i, i ≤ l.length → ∀ b, b < 2 ^ i → ((rchS (l.take i)).getD b 0).testBit x = (bandB b i).any fun v => (l.getD v.toNat 0).testBit x
  | 0, _, b, hb => by
    obtain rfl : b = 0 := by simpa using hb
    exact Nat.zero_testBit x
  | i + 1, hi, b, hb => by
    have ih := rchS_take (l := l) (x := x) i (by omega)
    have il : i < l.length := by omega
    have sl : (rchS (l.take i)).length = 2 ^ i := by rw [rchS_len, List.length_take, Nat.min_eq_left (by omega)]
    rw [rchS_snoc il]
    by_cases z : b < 2 ^ i
    · rw [getD_left (by omega), ih b z, bandB_low z]
    · obtain ⟨c, rfl⟩ : ∃ c, b = 2 ^ i + c := ⟨b - 2 ^ i, by omega⟩
      have hc : c < 2 ^ i := by rw [Nat.pow_succ] at hb; omega
      rw [← sl, getD_right, getD_map (d := 0) (by omega), sl, Nat.testBit_or, ih c hc, bandB_high hc, List.any_append]
      simp [List.getD_eq_getElem?_getD, List.getElem?_eq_getElem il]
theorem rchS_at {l : List Nat} {b x : Nat} (h : b < 2 ^ l.length) : ((rchS l).getD b 0).testBit x = (bandB b l.length).any fun v => (l.getD v.toNat 0).testBit x := by
  have := rchS_take (l := l) (x := x) l.length (Nat.le_refl _) b h
  rw [List.take_length] at this
  exact this
theorem ownF_bit {row : List Bool} {x : Nat} : ∀ i, (((ownF row i).map fun y => 2 ^ y).sum).testBit x = (decide (x < i) && row.getD x false)
  | 0 => by simp [ownF]
  | i + 1 => by
    have ih := ownF_bit (row := row) (x := x) i
    have lt := ownF_lt (row := row) i
    rw [ownF_succ, List.map_append, List.sum_append]
    cases e : row.getD i false with
    | true =>
      rw [if_pos rfl, List.map_singleton, List.sum_singleton, Nat.add_comm]
      by_cases z : x = i
      · subst z
        rw [Nat.testBit_two_pow_add_eq, Nat.testBit_lt_two_pow lt, e]
        simp
      · by_cases z2 : x < i
        · rw [Nat.testBit_two_pow_add_gt z2, ih, decide_eq_true z2, decide_eq_true (show x < i + 1 by omega)]
        · rw [Nat.testBit_lt_two_pow, decide_eq_false (show ¬ x < i + 1 by omega), Bool.false_and]
          have : 2 ^ (i + 1) ≤ 2 ^ x := Nat.pow_le_pow_right (by decide) (by omega)
          rw [Nat.pow_succ] at this
          omega
    | false =>
      rw [if_neg (fun z => nomatch z), List.map_nil, List.sum_nil, Nat.add_zero, ih]
      by_cases z : x = i
      · subst z
        rw [e, Bool.and_false, Bool.and_false]
      · congr 1
        exact decide_eq_decide.mpr (by omega)
theorem own_bit {row : List Bool} {x : Nat} : (ownN row).testBit x = row.getD x false := by
  unfold ownN
  rw [ownF_bit]
  by_cases z : x < row.length
  · rw [decide_eq_true z, Bool.true_and]
  · rw [decide_eq_false z, Bool.false_and, List.getD_eq_getElem?_getD, List.getElem?_eq_none (by omega)]
    rfl
/-- sums over filtered lists -/
theorem sumAt_ite {row : List Int} {p : Int → Bool} : ∀ {l : List Int}, sumAt row (l.filter p) = (l.map fun v => if p v = true then row.getD v.toNat 0 else 0).sum
  | [] => rfl
  | x :: l => by
    have ih := sumAt_ite (row := row) (p := p) (l := l)
    rw [List.map_cons, List.sum_cons, ← ih]
    cases e : p x with
    | true =>
      rw [List.filter_cons_of_pos e, if_pos rfl]
      rfl
    | false =>
      rw [List.filter_cons_of_neg (by rw [e]; decide), if_neg (fun z => nomatch z)]
      omega
theorem sum_le2 {f g f' g' : Int → Int} : ∀ {l : List Int}, (∀ x ∈ l, f x + g x ≤ f' x + g' x) → (l.map f).sum + (l.map g).sum ≤ (l.map f').sum + (l.map g').sum
  | [], _ => Int.le_refl _
  | x :: l, h => by
    have ih := sum_le2 (f := f) (g := g) (f' := f') (g' := g') (l := l) fun y hy => h y (List.mem_cons_of_mem _ hy)
    have := h x List.mem_cons_self
    simp only [List.map_cons, List.sum_cons]
    omega
def uni (n : Nat) (A B : List Int) : List Int := (upto 0 (n : Int)).filter fun v => decide (v ∈ A) || decide (v ∈ B)
def ins (n : Nat) (A B : List Int) : List Int := (upto 0 (n : Int)).filter fun v => decide (v ∈ A) && decide (v ∈ B)
theorem asc_of_filter {n : Nat} {p : Int → Bool} : Asc n ((upto 0 (n : Int)).filter p) := ⟨(upto_ascB n).filter _, fun v hv => mem_upto.mp (List.mem_filter.mp hv).1⟩
theorem mem_uni {n : Nat} {A B : List Int} (hA : Asc n A) (hB : Asc n B) {v : Int} : v ∈ uni n A B ↔ v ∈ A ∨ v ∈ B := by
  unfold uni
  rw [List.mem_filter, Bool.or_eq_true, decide_eq_true_eq, decide_eq_true_eq, mem_upto]
  exact ⟨fun z => z.2, fun z => ⟨z.elim (hA.2 v) (hB.2 v), z⟩⟩
theorem mem_ins {n : Nat} {A B : List Int} {v : Int} (h : v ∈ ins n A B) : v ∈ A ∧ v ∈ B := by
  unfold ins at h
  rw [List.mem_filter, Bool.and_eq_true, decide_eq_true_eq, decide_eq_true_eq] at h
  exact h.2
theorem nn_getD {l : List Int} (h : ∀ x ∈ l, 0 ≤ x) (i : Nat) : 0 ≤ l.getD i 0 := by
  rw [List.getD_eq_getElem?_getD]
  cases e : l[i]? with
  | none => exact Int.le_refl _
  | some y => exact h y (List.mem_of_getElem? e)
theorem bandE_super {m : Mo} {ws : List (List Bool)} (hb : ∀ x ∈ m.bears, 0 ≤ x) {A B : List Int} (hA : Asc m.left.length A) (hB : Asc m.left.length B) : bandE m ws A + bandE m ws B ≤ bandE m ws (uni m.left.length A B) + bandE m ws (ins m.left.length A B) := by
  have h1 : sumAt m.left A + sumAt m.left B ≤ sumAt m.left (uni m.left.length A B) + sumAt m.left (ins m.left.length A B) := by
    rw [show sumAt m.left A = sumAt m.left ((upto 0 (m.left.length : Int)).filter fun v => decide (v ∈ A)) by rw [← asc_filter hA], show sumAt m.left B = sumAt m.left ((upto 0 (m.left.length : Int)).filter fun v => decide (v ∈ B)) by rw [← asc_filter hB]]
    unfold uni ins
    rw [sumAt_ite, sumAt_ite, sumAt_ite, sumAt_ite]
    refine sum_le2 fun v _ => ?_
    by_cases a : v ∈ A <;> by_cases b : v ∈ B <;> simp [a, b]
  have h2 : sumAt m.bears (freeOf ws (standing m.bears) A) + sumAt m.bears (freeOf ws (standing m.bears) B) ≤ sumAt m.bears (freeOf ws (standing m.bears) (uni m.left.length A B)) + sumAt m.bears (freeOf ws (standing m.bears) (ins m.left.length A B)) := by
    unfold freeOf
    rw [sumAt_ite, sumAt_ite, sumAt_ite, sumAt_ite]
    refine sum_le2 fun x _ => ?_
    have nn := nn_getD hb x.toNat
    have eu : ((uni m.left.length A B).any fun v => cellW ws v x) = ((A.any fun v => cellW ws v x) || (B.any fun v => cellW ws v x)) := by
      rw [Bool.eq_iff_iff, Bool.or_eq_true, List.any_eq_true, List.any_eq_true, List.any_eq_true]
      constructor
      · rintro ⟨v, hv, e⟩
        rcases (mem_uni hA hB).mp hv with z | z
        · exact .inl ⟨v, z, e⟩
        · exact .inr ⟨v, z, e⟩
      · rintro (⟨v, hv, e⟩ | ⟨v, hv, e⟩)
        · exact ⟨v, (mem_uni hA hB).mpr (.inl hv), e⟩
        · exact ⟨v, (mem_uni hA hB).mpr (.inr hv), e⟩
    have ei : ((ins m.left.length A B).any fun v => cellW ws v x) = true → (A.any fun v => cellW ws v x) = true ∧ (B.any fun v => cellW ws v x) = true := by
      rw [List.any_eq_true, List.any_eq_true, List.any_eq_true]
      rintro ⟨v, hv, e⟩
      exact ⟨⟨v, (mem_ins hv).1, e⟩, ⟨v, (mem_ins hv).2, e⟩⟩
    have nn' : 0 ≤ m.bears[x.toNat]?.getD 0 := by rw [← List.getD_eq_getElem?_getD]; exact nn
    rw [eu]
    cases c : ((ins m.left.length A B).any fun v => cellW ws v x) with
    | true =>
      obtain ⟨a1, b1⟩ := ei c
      rw [a1, b1]
      simp
    | false =>
      cases a : (A.any fun v => cellW ws v x) <;> cases b : (B.any fun v => cellW ws v x) <;> simp <;> omega
  unfold bandE
  omega
/-- the sums of the law are the excesses of the bands -/
theorem namesD_sum {m : Mo} {ws : List (List Bool)} (hb : ∀ x ∈ m.bears, 0 ≤ x) {B : List Int} : sumAt m.bears (namesD ws m.bears.length B) = sumAt m.bears (standing m.bears) - sumAt m.bears (freeOf ws (standing m.bears) B) := by
  have h1 := sumAt_filter (row := m.bears) (p := fun x => B.any fun v => cellW ws v x) (l := standing m.bears)
  have h2 : sumAt m.bears (namesD ws m.bears.length B) = sumAt m.bears ((standing m.bears).filter fun x => B.any fun v => cellW ws v x) := by
    unfold namesD standing
    rw [List.filter_filter, sumAt_ite, sumAt_ite]
    congr 1
    refine List.map_congr_left fun x hx => ?_
    have nn := nn_getD hb x.toNat
    cases e : (B.any fun v => cellW ws v x) with
    | false => simp
    | true =>
      by_cases z : 0 < m.bears.getD x.toNat 0
      · rw [if_pos rfl, if_pos (by rw [decide_eq_true z]; rfl)]
      · rw [if_pos rfl, if_neg (by rw [decide_eq_false z]; decide)]
        omega
  unfold freeOf
  omega
theorem exc_at {m : Mo} {ws : List (List Bool)} (hb : ∀ x ∈ m.bears, 0 ≤ x) (hw : ws.length = m.left.length) (hc : ∀ row ∈ ws, row.length = m.bears.length) {b : Nat} (h : b < 2 ^ m.left.length) : (excD ws m.left m.bears).getD b 0 = bandE m ws (bandB b m.left.length) := by
  have wl : (ws.map ownN).length = m.left.length := by rw [List.length_map]; exact hw
  have sl : b < (subS m.left).length := by rw [subS_len]; exact h
  have br : b < (rchS (ws.map ownN)).length := by rw [rchS_len, wl]; exact h
  have rl : (rchS (ws.map ownN)).getD b 0 < 2 ^ m.bears.length := by
    rw [List.getD_eq_getElem?_getD, List.getElem?_eq_getElem br, Option.getD_some]
    refine rchS_lt (fun o ho => ?_) _ (List.getElem_mem br)
    obtain ⟨row, hr, rfl⟩ := List.mem_map.mp ho
    exact ownN_lt (hc row hr)
  have e1 : (excD ws m.left m.bears).getD b 0 = (subS m.left).getD b 0 - (subS m.bears).getD ((rchS (ws.map ownN)).getD b 0) 0 := by
    unfold excD
    rw [getD_map (d := 0) (by rw [List.length_range]; exact sl), List.getD_eq_getElem?_getD (l := List.range _), List.getElem?_range sl]
    rfl
  rw [e1, subS_at h, subS_at rl]
  have e2 : bandB ((rchS (ws.map ownN)).getD b 0) m.bears.length = namesD ws m.bears.length (bandB b m.left.length) := by
    unfold namesD
    show (upto 0 (m.bears.length : Int)).filter _ = _
    refine List.filter_congr fun x hx => ?_
    rw [rchS_at (by rw [wl]; exact h), wl]
    rw [Bool.eq_iff_iff, List.any_eq_true, List.any_eq_true]
    have key : ∀ v ∈ bandB b m.left.length, ((ws.map ownN).getD v.toNat 0).testBit x.toNat = cellW ws v x := fun v hv => by
      have hv' := mem_upto.mp (List.mem_filter.mp hv).1
      have vl : v.toNat < ws.length := by omega
      rw [getD_map (d := []) vl, own_bit]
      rfl
    constructor
    · rintro ⟨v, hv, e⟩
      exact ⟨v, hv, by rw [← key v hv]; exact e⟩
    · rintro ⟨v, hv, e⟩
      exact ⟨v, hv, by rw [key v hv]; exact e⟩
  rw [e2, namesD_sum hb]
  unfold bandE
  omega
theorem bandB_surj {n : Nat} {B : List Int} (h : Asc n B) : ∃ b, b < 2 ^ n ∧ bandB b n = B := by
  have rl : ((List.range n).map fun v : Nat => decide ((v : Int) ∈ B)).length = n := by rw [List.length_map, List.length_range]
  refine ⟨ownN ((List.range n).map fun v : Nat => decide ((v : Int) ∈ B)), ownN_lt rl, ?_⟩
  rw [asc_filter h]
  unfold bandB
  refine List.filter_congr fun v hv => ?_
  have hv' := mem_upto.mp hv
  rw [own_bit, getD_map (d := 0) (by rw [List.length_range]; omega), List.getD_eq_getElem?_getD, List.getElem?_range (by omega), Option.getD_some, Int.toNat_of_nonneg hv'.1, ← asc_filter h]
theorem lastMax_spec : ∀ {l : List Br} {b : Br}, b.exc ≤ (lastMax b l).exc ∧ (∀ r ∈ l, r.exc ≤ (lastMax b l).exc) ∧ ((b :: l).Pairwise (fun x y => x.band.length ≤ y.band.length) → ∀ r ∈ b :: l, r.exc = (lastMax b l).exc → r.band.length ≤ (lastMax b l).band.length)
  | [], b => ⟨Int.le_refl _, (fun r hr => by cases hr), fun _ r hr _ => (by
    rw [List.mem_singleton.mp hr]
    exact Nat.le_refl _)⟩
  | r :: l, b => by
    show b.exc ≤ (lastMax (if r.exc ≥ b.exc then r else b) l).exc ∧ (∀ q ∈ r :: l, q.exc ≤ (lastMax (if r.exc ≥ b.exc then r else b) l).exc) ∧ _
    have e : lastMax b (r :: l) = lastMax (if r.exc ≥ b.exc then r else b) l := rfl
    rw [e]
    by_cases z : r.exc ≥ b.exc
    · rw [if_pos z]
      obtain ⟨h1, h2, h3⟩ := lastMax_spec (l := l) (b := r)
      refine ⟨by omega, fun q hq => ?_, fun hp q hq eq => ?_⟩
      · rcases List.mem_cons.mp hq with rfl | hq
        · exact h1
        · exact h2 q hq
      · have hp' := List.pairwise_cons.mp hp
        rcases List.mem_cons.mp hq with rfl | hq
        · have := hp'.1 r List.mem_cons_self
          have := h3 hp'.2 r List.mem_cons_self (by omega)
          omega
        · exact h3 hp'.2 q hq eq
    · rw [if_neg z]
      obtain ⟨h1, h2, h3⟩ := lastMax_spec (l := l) (b := b)
      refine ⟨h1, fun q hq => ?_, fun hp q hq eq => ?_⟩
      · rcases List.mem_cons.mp hq with rfl | hq
        · omega
        · exact h2 q hq
      · have hp' := List.pairwise_cons.mp hp
        have hp2 := List.pairwise_cons.mp hp'.2
        have pw : (b :: l).Pairwise (fun x y => x.band.length ≤ y.band.length) := List.pairwise_cons.mpr ⟨fun y hy => hp'.1 y (List.mem_cons_of_mem _ hy), hp2.2⟩
        rcases List.mem_cons.mp hq with rfl | hq
        · exact h3 pw q List.mem_cons_self eq
        · rcases List.mem_cons.mp hq with rfl | hq
          · omega
          · exact h3 pw q (List.mem_cons_of_mem _ hq) eq
/-- the widest row is the union of the greatest bands -/
theorem widest_law {m : Mo} {ws : List (List Bool)} {rows : List Br} (hb : ∀ x ∈ m.bears, 0 ≤ x) (hw : ws.length = m.left.length) (hc : ∀ row ∈ ws, row.length = m.bears.length) (br : BandRows m ws rows) :
    BrOk m ws (lastMax (brRoot m) rows) ∧ (∀ b, b < 2 ^ m.left.length → (excD ws m.left m.bears).getD b 0 ≤ (lastMax (brRoot m) rows).exc) ∧ (∃ b, b < 2 ^ m.left.length ∧ (excD ws m.left m.bears).getD b 0 = (lastMax (brRoot m) rows).exc ∧ bandB b m.left.length = (lastMax (brRoot m) rows).band) ∧
      ∀ b, b < 2 ^ m.left.length → (excD ws m.left m.bears).getD b 0 = (lastMax (brRoot m) rows).exc → ∀ v ∈ bandB b m.left.length, v ∈ (lastMax (brRoot m) rows).band := by
  obtain ⟨s1, s2, s3⟩ := lastMax_spec (l := rows) (b := brRoot m)
  have ok : BrOk m ws (lastMax (brRoot m) rows) := by
    rcases lastMax_mem (b := brRoot m) (l := rows) with e | e
    · rw [e]
      exact .root
    · exact br.ok _ e
  have s3 := s3 (List.pairwise_cons.mpr ⟨fun y _ => Nat.zero_le _, br.srt⟩)
  generalize lastMax (brRoot m) rows = best at *
  have top : ∀ B, Asc m.left.length B → bandE m ws B ≤ best.exc := fun B hB => by
    obtain ⟨r, hr, rfl⟩ := br.all B hB
    rw [← (br.ok r hr).exc]
    exact s2 r hr
  have ab : ∀ b, Asc m.left.length (bandB b m.left.length) := fun b => asc_of_filter
  refine ⟨ok, fun b h => ?_, ?_, fun b h e v hv => ?_⟩
  · rw [exc_at hb hw hc h]
    exact top _ (ab b)
  · obtain ⟨b, h, e⟩ := bandB_surj ok.asc
    exact ⟨b, h, by rw [exc_at hb hw hc h, e, ok.exc], e⟩
  · rw [exc_at hb hw hc h] at e
    have su := bandE_super (ws := ws) hb (ab b) ok.asc
    have t1 := top _ (asc_of_filter (n := m.left.length) (p := fun v => decide (v ∈ bandB b m.left.length) || decide (v ∈ best.band)))
    have t2 := top _ (asc_of_filter (n := m.left.length) (p := fun v => decide (v ∈ bandB b m.left.length) && decide (v ∈ best.band)))
    have t1 : bandE m ws (uni m.left.length (bandB b m.left.length) best.band) ≤ best.exc := t1
    have t2 : bandE m ws (ins m.left.length (bandB b m.left.length) best.band) ≤ best.exc := t2
    rw [e, ← ok.exc] at su
    obtain ⟨r, hr, er⟩ := br.all _ (asc_of_filter (n := m.left.length) (p := fun v => decide (v ∈ bandB b m.left.length) || decide (v ∈ best.band)))
    have er : r.band = uni m.left.length (bandB b m.left.length) best.band := er
    have el := s3 r (List.mem_cons_of_mem _ hr) (by rw [(br.ok r hr).exc, er]; omega)
    have ss : best.band.Sublist (uni m.left.length (bandB b m.left.length) best.band) := by
      have e1 : best.band = (uni m.left.length (bandB b m.left.length) best.band).filter fun v => decide (v ∈ best.band) := asc_ext ok.asc.1 ((asc_of_filter (n := m.left.length)).1.filter _) fun v => by
        rw [List.mem_filter, mem_uni (ab b) ok.asc, decide_eq_true_eq]
        exact ⟨fun z => ⟨.inr z, z⟩, fun z => z.2⟩
      have fs := List.filter_sublist (p := fun v => decide (v ∈ best.band)) (l := uni m.left.length (bandB b m.left.length) best.band)
      rw [← e1] at fs
      exact fs
    have ee := ss.eq_of_length_le (by rw [← er]; exact el)
    rw [ee]
    exact (mem_uni (ab b) ok.asc).mpr (.inl hv)
theorem tBw_full (ws : List (List Bool)) : (T.lst (ws.map fun bs => T.row (bs.map .bl))).full = true := T.fullL_all fun t ht => by
  obtain ⟨bs, _, rfl⟩ := List.mem_map.mp ht
  exact full_row fun d hd => by obtain ⟨b, _, rfl⟩ := List.mem_map.mp hd; rfl
theorem tBw_data (ws : List (List Bool)) : (T.lst (ws.map fun bs => T.row (bs.map .bl))).data = .lst (ws.map dBs) := by
  show D.lst (T.datas _) = _
  rw [T.datas_map, List.map_map]
  congr 1
  exact List.map_congr_left fun bs _ => T.data_row _
theorem bls_put {rs : List (List Bool)} {v x : Nat} {c : Bool} (h : v < rs.length) : (T.lst (rs.map fun bs : List Bool => T.row (bs.map .bl))).put ([] ++ [v]) (.lst (((rs[v].map D.bl).map T.d).set x (.d (.bl c)))) = T.lst ((rs.set v (rs[v].set x c)).map fun bs => T.row (bs.map .bl)) := by
  have gv : (rs.map fun bs : List Bool => T.row (bs.map .bl))[v]? = some (T.row (rs[v].map .bl)) := by rw [List.getElem?_map, List.getElem?_eq_getElem h]; rfl
  show (match (rs.map fun bs : List Bool => T.row (bs.map .bl))[v]? with | some u => T.lst ((rs.map fun bs : List Bool => T.row (bs.map .bl)).set v (u.put [] _)) | none => T.lst (rs.map fun bs : List Bool => T.row (bs.map .bl))) = _
  rw [gv, List.map_set]
  show T.lst _ = T.lst _
  congr 2
  show T.lst _ = T.lst (List.map _ (List.map _ _))
  rw [List.map_set, List.map_set]
theorem downto_perm {n : Int} (h : 0 ≤ n) : (downto (n - 1) (-1)).Perm (upto 0 n) := by
  have e : downto (n - 1) (-1) = (upto 0 n).reverse := by
    unfold downto upto
    have h1 : (n - 1 - -1).toNat = n.toNat := by omega
    have h2 : (n - 0).toNat = n.toNat := by omega
    rw [h1, h2]
    apply List.ext_getElem
    · simp
    · intro i a b
      simp at a b
      simp
      omega
  rw [e]
  exact List.reverse_perm _
abbrev s_law_order : Stmt := topS 69
theorem sc_law_order : FnScope ["store", "many", "kind"] ["store", "many"] (defScope s_law_order) := ⟨rfl, rfl, rfl, by decide +kernel, rfl, by decide +kernel, by decide +kernel⟩
--DEF _law_order
theorem ok_law_order (h : DefAt K mg "_law_order" ["store", "many"] s_law_order) (g_list : mg "list" = none) (g_range : mg "range" = none) (D_law_take : Okk P w K mg base CX0 k "_law_take" ["store", "many"] spTake) (D_law_shuffled : Okk P w K mg base CX0 k "_law_shuffled" ["store", "row"] (spShuf K)) :
    Okk P w K mg base CX0 (k + 1) "_law_order" ["store", "many"] (PFS K e1I (inR 0 1300) fun n r => ∃ ms : List Int, r = T.row (ms.map .int) ∧ ms.Perm (upto 0 n)) := by
  refine DefAt.pfs (N := ["many", "kind"]) h sc_law_order ?_ ?_ fun cdv f A outer s H E hr => ⟨_, (pss_cons (ps_set (i := 2) sc_law_order.nd rfl (Or.inl rfl) (pe_own D_law_take hr (pa_cons (pv 0) (pa_cons pe_int pa_nil))))
      (pss_cons (ps_if (pt_cmpR op_eq (pv 2) pe_int (nomark _)) (pss_one (ps_ret (pe_listRg rfl (by rfl) g_list (prg_1 (by rfl) g_range (pv 1))))) pss_nil)
      (pss_cons (ps_if (pt_cmpR op_eq (pv 2) pe_int (nomark _)) (pss_one (ps_ret (pe_listDn rfl (by rfl) g_list (by rfl) g_range (pa_cons (pe_op op_sub (pv 1) pe_int) (pa_cons (pe_un un_neg pe_int) (pa_cons (pe_un un_neg pe_int) pa_nil)))))) pss_nil)
      (pss_one (ps_ret (pe_own D_law_shuffled hr (pa_cons (pv 0) (pa_cons (pe_listRg rfl (by rfl) g_list (prg_1 (by rfl) g_range (pv 1))) pa_nil)))))))), ?_⟩
  · rintro n _; rfl
  · rintro n r _ ⟨ms, rfl, _⟩; exact full_ints
  rintro n ⟨h1, h2⟩ p sl hs
  have ok := okS (n := 3) (A := fun a => a ≠ p) (K := K) hs
  walk_at "ev0"
  intro d _ _ _
  walk_at "ev"
  refine x_dec (fun _ => ?_) (fun _ => ?_)
  · walk_at "ev"
    exact ⟨_, rfl, .refl _⟩
  walk_at "ev"
  refine x_dec (fun _ => ?_) (fun _ => ?_)
  · walk_at "ev"
    exact ⟨_, rfl, downto_perm h1⟩
  walk_at "ev"
  intro ms pe
  walk_at "ev"
  exact ⟨_, rfl, pe⟩
abbrev s_law_any_web : Stmt := topS 77
theorem sc_law_any_web : FnScope ["store", "parties", "bears", "kind", "order", "web", "v", "high", "line", "x", "cell"] ["store", "parties", "bears"] (defScope s_law_any_web) := ⟨rfl, rfl, rfl, by decide +kernel, rfl, by decide +kernel, by decide +kernel⟩
--DEF _law_any_web
abbrev eAw : Nat × List Int → List D := fun a => [.int (a.1 : Int), dIs a.2]
set_option maxHeartbeats 4000000 in
theorem ok_law_any_web (h : DefAt K mg "_law_any_web" ["store", "parties", "bears"] s_law_any_web) (g_len : mg "len" = none) (g_range : mg "range" = none) (D_law_take : Okk P w K mg base CX0 k "_law_take" ["store", "many"] spTake)
    (D_law_order : Okk P w K mg base CX0 k "_law_order" ["store", "many"] (PFS K e1I (inR 0 1300) fun n r => ∃ ms : List Int, r = T.row (ms.map .int) ∧ ms.Perm (upto 0 n))) :
    Okk P w K mg base CX0 (k + 1) "_law_any_web" ["store", "parties", "bears"] (PFS K eAw (fun a => 1 ≤ a.1 ∧ a.1 ≤ 8 ∧ 1 ≤ a.2.length ∧ a.2.length ≤ 8) fun a r => ∃ ws : List (List Bool), r = T.lst (ws.map fun bs => T.row (bs.map .bl)) ∧ ws.length = a.1 ∧ ∀ row ∈ ws, row.length = a.2.length) := by
  refine DefAt.pfs (N := ["parties", "bears", "kind", "order", "web", "v", "high", "line", "x", "cell"]) h sc_law_any_web ?_ ?_ fun cdv f A outer s H E hr => ⟨_, (pss_cons (ps_set (i := 3) sc_law_any_web.nd rfl (Or.inl rfl) (pe_own D_law_take hr (pa_cons (pv 0) (pa_cons pe_int pa_nil))))
      (pss_cons (ps_set (i := 4) sc_law_any_web.nd rfl (Or.inl rfl) (pe_own D_law_order hr (pa_cons (pv 0) (pa_cons (pe_callB cr_len (by rfl) g_len (by decide +kernel) (pa_cons (pv 2) pa_nil)) pa_nil))))
      (pss_cons (ps_set (i := 5) sc_law_any_web.nd rfl (Or.inl rfl) (pe_lst pa_nil))
      (pss_cons (ps_for PassesOwn.never rfl (pi_range1 rfl g_range (pa_cons (pv 1) pa_nil)) (pg_name (i := 6) sc_law_any_web.nd rfl (Or.inl rfl))
        (pss_cons (ps_set (i := 7) sc_law_any_web.nd rfl (Or.inl rfl) (pe_own D_law_take hr (pa_cons (pv 0) (pa_cons (pe_op op_add (pe_callB cr_len (by rfl) g_len (by decide +kernel) (pa_cons (pv 2) pa_nil)) pe_int) pa_nil))))
        (pss_cons (ps_set (i := 8) sc_law_any_web.nd rfl (Or.inl rfl) (pe_lst pa_nil))
        (pss_cons (ps_for PassesOwn.never rfl (pi_range1 rfl g_range (pa_cons (pe_callB cr_len (by rfl) g_len (by decide +kernel) (pa_cons (pv 2) pa_nil)) pa_nil)) (pg_name (i := 9) sc_law_any_web.nd rfl (Or.inl rfl))
          (pss_cons (ps_set (i := 10) sc_law_any_web.nd rfl (Or.inl rfl) (pe_or (pe_cmpR op_eq (pv 3) pe_int (nomark _)) (pe_one (pe_and (pe_cmpR op_eq (pv 3) pe_int (nomark _)) (pe_one (pe_cmpR op_ge (pe_ix ix_list (pv 4) (pv 9) (fun _ _ => rfl)) (pv 7) (nomark _)))))))
          (pss_cons (ps_if (pt_cmpR op_eq (pv 3) pe_int (nomark _)) (pss_one (ps_set (i := 10) sc_law_any_web.nd rfl (Or.inl rfl) (pe_cmpR op_gt (pe_own D_law_take hr (pa_cons (pv 0) (pa_cons pe_int pa_nil))) pe_int (nomark _)))) pss_nil)
          (pss_cons (ps_if (pt_cmpR op_ge (pv 3) pe_int (nomark _)) (pss_one (ps_set (i := 10) sc_law_any_web.nd rfl (Or.inl rfl) (pe_cmpR op_eq (pe_own D_law_take hr (pa_cons (pv 0) (pa_cons pe_int pa_nil))) pe_int (nomark _)))) pss_nil)
          (pss_one (ps_expr (pe_bm PySem.F.plainAttrs_list PySem.F.slot_list_append PySem.F.type_list_append mt_append (pv 8) (pa_cons (pe_and (pv 10) (pe_one (pe_cmpR op_gt (pe_ix ix_list (pv 2) (pv 9) (fun _ _ => rfl)) pe_int (nomark _)))) pa_nil))))))))
        (pss_one (ps_expr (pe_bm PySem.F.plainAttrs_list PySem.F.slot_list_append PySem.F.type_list_append mt_append (pv 5) (pa_cons (pv 8) pa_nil))))))))
      (pss_one (ps_ret (pv 5))))))), ?_⟩
  · rintro n _; rfl
  · rintro n r _ ⟨ws, rfl, _⟩
    exact T.fullL_all fun t ht => by
      obtain ⟨bs, _, rfl⟩ := List.mem_map.mp ht
      exact full_row fun d hd => by obtain ⟨b, _, rfl⟩ := List.mem_map.mp hd; rfl
  rintro ⟨np, be⟩ ⟨n1, n2, n3, n4⟩ p sl hs
  dsimp only at n1 n2 n3 n4
  have ok := okS (n := 11) (A := fun a => a ≠ p) (K := K) hs
  have lbe : (be.map D.int).length = be.length := List.length_map _
  walk_at "ev0"
  intro kd k0 _ k1
  walk_at "ev"
  rw [lbe]
  refine ⟨by show (0 : Int) ≤ _ ∧ _; omega, ?_⟩
  rintro r ⟨od, rfl, hp⟩
  have lo : od.length = be.length := by rw [hp.length_eq, upto_length]; omega
  walk_at "eg"
  refine es_fz (i := 4) (d := dIs od) (by walk_at "cat") (T.data_row _) (by walk_at "cset") rfl ?_
  walk_at "ev"
  refine loopK [6, 7, 8, 9, 10] (fun i ρ => ∃ ws : List (List Bool), ρ = [.sto, cI np, cD (dIs be), cI kd, cD (dIs od), .t (.lst (ws.map fun bs => T.row (bs.map .bl))), .dead, .dead, .dead, .dead, .dead] ∧ ws.length = i ∧ ∀ row ∈ ws, row.length = be.length) ⟨[], rfl, rfl, by simp⟩ ?_ ?_
  · rintro i ρ hi ⟨ws, rfl, w1, w2⟩
    have i8 : i < 8 := by omega
    walk_at "ev"
    rw [lbe]
    intro hg g0 _ g1
    walk_at "ev"
    rw [lbe]
    refine loopK [9, 10] (fun j ρ => ∃ bs : List Bool, ρ = [.sto, cI np, cD (dIs be), cI kd, cD (dIs od), .t (.lst (ws.map fun bs => T.row (bs.map .bl))), cI (i : Int), cI hg, .t (.row (bs.map .bl)), .dead, .dead] ∧ bs.length = j) ⟨[], rfl, rfl⟩ ?_ ?_
    · rintro j ρ hj ⟨bs, rfl, b1⟩
      have j8 : j < be.length := by omega
      walk_at "eg"
      refine es_cut (fun ρ => ∃ b : Bool, ρ = [.sto, cI np, cD (dIs be), cI kd, cD (dIs od), .t (.lst (ws.map fun bs => T.row (bs.map .bl))), cI (i : Int), cI hg, .t (.row (bs.map .bl)), cI (j : Int), cB b]) ?_ ?_
      · walk_at "ev"
        refine x_dec (fun _ => ?_) (fun _ => ?_)
        · walk_at "ev"
          exact ⟨_, rfl⟩
        walk_at "ev"
        refine x_dec (fun _ => ?_) (fun _ => ?_)
        · walk_at "ev"
          refine vo_ixL (by walk_at "leaf") (dIs_at (show j < od.length by omega)) ?_
          walk_at "ev"
          exact ⟨_, rfl⟩
        · walk_at "ev"
          exact ⟨_, rfl⟩
      rintro ρ ⟨b, rfl⟩
      refine es_cut (fun ρ => ∃ b : Bool, ρ = [.sto, cI np, cD (dIs be), cI kd, cD (dIs od), .t (.lst (ws.map fun bs => T.row (bs.map .bl))), cI (i : Int), cI hg, .t (.row (bs.map .bl)), cI (j : Int), cB b]) ?_ ?_
      · walk_at "ev"
        refine x_dec (fun _ => ?_) (fun _ => ?_)
        · walk_at "ev"
          intro c c0 _ c1
          walk_at "ev"
          exact ⟨_, rfl⟩
        · walk_at "ev"
          exact ⟨_, rfl⟩
      rintro ρ ⟨b, rfl⟩
      refine es_cut (fun ρ => ∃ b : Bool, ρ = [.sto, cI np, cD (dIs be), cI kd, cD (dIs od), .t (.lst (ws.map fun bs => T.row (bs.map .bl))), cI (i : Int), cI hg, .t (.row (bs.map .bl)), cI (j : Int), cB b]) ?_ ?_
      · walk_at "ev"
        refine x_dec (fun _ => ?_) (fun _ => ?_)
        · walk_at "ev"
          intro c c0 _ c1
          walk_at "ev"
          exact ⟨_, rfl⟩
        · walk_at "ev"
          exact ⟨_, rfl⟩
      rintro ρ ⟨b, rfl⟩
      cases b with
      | true =>
        walk_at "ev"
        refine vo_ixL (by walk_at "leaf") (dIs_at j8) ?_
        walk_at "ev"
        walk_at "kl"
        exact ⟨bs ++ [_], by rw [List.map_append]; rfl, by rw [List.length_append, b1]; rfl⟩
      | false =>
        walk_at "ev"
        walk_at "kl"
        exact ⟨bs ++ [_], by rw [List.map_append]; rfl, by rw [List.length_append, b1]; rfl⟩
    · rintro ρ ⟨bs, rfl, b1⟩
      have m8 : Mv 8 := .mk
      walk_at "ev"
      refine ev_var_mvP (by walk_at "cat") (by walk_at "cset") rfl (noPl_one (by decide)) ?_
      walk_at "ev"
      walk_at "kl"
      refine ⟨ws ++ [bs], by rw [List.map_append]; rfl, by rw [List.length_append, w1]; rfl, fun row hr => ?_⟩
      rcases List.mem_append.mp hr with hr | hr
      · exact w2 row hr
      · rw [List.mem_singleton.mp hr]
        omega
  · rintro ρ ⟨ws, rfl, w1, w2⟩
    have m5 : Mv 5 := .mk
    walk_at "ev"
    exact ⟨ws, rfl, by omega, w2⟩
theorem stFault_dis : ∀ {l : List (List Int)} {wt : List Int}, stFault wt l = none → ∀ {i j : Nat} (hi : i < l.length) (hj : j < l.length), i < j → ∀ {x : Int}, x ∈ l[i] → x ∉ l[j]
  | s0 :: l, wt, e, i, j, hi, hj, ij, x, h, h' => by
    unfold stFault at e
    by_cases g : goodStage s0 wt
    · rw [if_pos g, Option.map_eq_none_iff] at e
      match j, ij with
      | j + 1, ij =>
      have hj' : j < l.length := by simpa using hj
      have h' : x ∈ l[j] := h'
      match i with
      | 0 =>
        have := (stFault_mem e l[j] (List.getElem_mem hj')).2.2 x h'
        have := (List.mem_filter.mp this).2
        simp at this
        exact this h
      | i + 1 => exact stFault_dis e (i := i) (by simpa using hi) hj' (by omega) h h'
    · rw [if_neg g] at e
      cases e
theorem webCell_no {row : List Int} {x : Int} : ∀ {l : List (List Int)}, (∀ s ∈ l, x ∉ s) → webCell row l x = false
  | [], _ => rfl
  | s :: l, h => by
    unfold webCell
    rw [if_neg (h s List.mem_cons_self)]
    exact webCell_no fun s hs => h s (List.mem_cons_of_mem _ hs)
theorem webCell_at {row : List Int} {x : Int} : ∀ {l : List (List Int)} {j : Nat} (hj : j < l.length), x ∈ l[j] → (∀ i (hi : i < l.length), i < j → x ∉ l[i]) → webCell row l x = capped row (rk row x) (l.drop (j + 1))
  | s :: l, 0, _, h, _ => by
    unfold webCell
    rw [if_pos (show x ∈ s from h)]
    rfl
  | s :: l, j + 1, hj, h, n => by
    unfold webCell
    rw [if_neg (show x ∉ s from n 0 (by simp) (by omega)), webCell_at (l := l) (j := j) (by simpa using hj) h fun i hi ij => n (i + 1) (by simpa using hi) (by omega)]
    rfl
/-- where the first i stages put the names -/
def Placed (n : Nat) (st : List (List Int)) (i : Nat) (pl : List Int) : Prop := pl.length = n ∧ ∀ x : Nat, x < n → (pl.getD x 0 = -1 ∧ ∀ j (h : j < st.length), j < i → (x : Int) ∉ st[j]) ∨ ∃ (j : Nat) (h : j < st.length), j < i ∧ pl.getD x 0 = (j : Int) ∧ (x : Int) ∈ st[j]
theorem web_place {row pl wt : List Int} {st : List (List Int)} {n x : Nat} (e : stFault wt st = none) (wn : ∀ y ∈ wt, 0 ≤ y ∧ y < n) (P : Placed n st st.length pl) (hx : x < n) : webCell row st (x : Int) = true ↔ 0 ≤ pl.getD x 0 ∧ ∀ y : Nat, y < n → pl.getD x 0 < pl.getD y 0 → rk row (y : Int) ≤ rk row (x : Int) := by
  rcases P.2 x hx with ⟨p1, p2⟩ | ⟨j, hj, _, p1, p2⟩
  · rw [webCell_no fun s hs => by
      obtain ⟨j, hj, rfl⟩ := List.getElem_of_mem hs
      exact p2 j hj hj, p1]
    constructor
    · intro z; cases z
    · rintro ⟨z, _⟩; omega
  · rw [webCell_at hj p2 fun i hi ij z => stFault_dis e hi hj ij z p2, p1]
    unfold capped
    rw [List.all_eq_true]
    constructor
    · intro h
      refine ⟨by omega, fun y hy z => ?_⟩
      rcases P.2 y hy with ⟨q1, q2⟩ | ⟨j', hj', _, q1, q2⟩
      · omega
      · have := h st[j'] (by
          rw [List.mem_iff_getElem]
          exact ⟨j' - (j + 1), by rw [List.length_drop]; omega, by rw [List.getElem_drop]; congr 1; omega⟩)
        rw [List.all_eq_true] at this
        exact of_decide_eq_true (this _ q2)
    · rintro ⟨_, h⟩ t ht
      rw [List.all_eq_true]
      intro y hy
      obtain ⟨k', hk, rfl⟩ := List.getElem_of_mem ht
      rw [List.length_drop] at hk
      rw [List.getElem_drop] at hy
      have yr := wn y ((stFault_mem e _ (List.getElem_mem _)).2.2 y hy)
      obtain ⟨y, rfl⟩ := Int.eq_ofNat_of_zero_le yr.1
      refine decide_eq_true (h y (by omega) ?_)
      rcases P.2 y (by omega) with ⟨_, q2⟩ | ⟨j', hj', _, q1, q2⟩
      · exact absurd hy (q2 _ (by omega) (by omega))
      · rw [q1]
        have : ¬ j' ≤ j := fun le => stFault_dis e hj' (by omega) (show j' < j + 1 + k' by omega) q2 hy
        omega
/-- what is due for a web -/
def webDue (m : Mo) (st : List (List Int)) : D := if m.bears.sum = 0 ∨ stFault (standing m.bears) st ≠ none then (stDue m.bears st).data else .tup [.str "told", .lst ((m.web st).map dBs)]
abbrev eWd : Mo × List (List Int) → List D := fun a => [.tup [dIss a.1.ranks, dIs a.1.left, dIs a.1.bears], dIss a.2]
/-- a strike: party, name, strokes -/
abbrev S3 : Type := Int × Int × Int
abbrev dSt (s : S3) : D := .tup [.int s.1, .int s.2.1, .int s.2.2]
abbrev dSts (ss : List S3) : D := .lst (ss.map dSt)
/-- a strike that can be done -/
def Can (l b : List Int) (s : S3) : Prop := (0 ≤ s.1 ∧ s.1 < l.length ∧ 0 ≤ s.2.1 ∧ s.2.1 < b.length) ∧ 1 ≤ s.2.2 ∧ s.2.2 ≤ l.getD s.1.toNat 0 ∧ s.2.2 ≤ b.getD s.2.1.toNat 0
instance {l b : List Int} {s : S3} : Decidable (Can l b s) := by unfold Can; infer_instance
theorem can_iff {l b : List Int} {v x c : Int} : Can l b (v, x, c) ↔ (0 ≤ v ∧ v < l.length ∧ 0 ≤ x ∧ x < b.length) ∧ 1 ≤ c ∧ c ≤ l.getD v.toNat 0 ∧ c ≤ b.getD x.toNat 0 := Iff.rfl
def outs (row bears : List Int) (x : Int) (n : Nat) : List Bool := (upto 0 n).map fun y => decide (0 < bears.getD y.toNat 0) && decide (row.getD x.toNat 0 < row.getD y.toNat 0)
/-- some standing name is ranked behind x -/
def isOut (row bears : List Int) (x : Int) : Bool := (outs row bears x bears.length).any id
theorem giveTo_len (l : List Int) (i : Nat) (c : Int) : (giveTo l i c).length = l.length := List.length_set
abbrev takeL (l : List Int) (s : S3) : List Int := giveTo l s.1.toNat s.2.2
abbrev takeB (b : List Int) (s : S3) : List Int := giveTo b s.2.1.toNat s.2.2
/-- the first strike that cannot be done -/
def wBad : List Int → List Int → List S3 → Option Nat
  | _, _, [] => none
  | l, b, s :: ss => if Can l b s then (wBad (takeL l s) (takeB b s) ss).map (· + 1) else some 0
/-- which strikes are out of rank -/
def wMk (ranks : List (List Int)) : List Int → List S3 → List Bool
  | _, [] => []
  | b, s :: ss => isOut (ranks.getD s.1.toNat []) b s.2.1 :: wMk ranks (takeB b s) ss
def wL (l : List Int) (ss : List S3) : List Int := ss.foldl takeL l
def wB (b : List Int) (ss : List S3) : List Int := ss.foldl takeB b
theorem wMk_length (ranks : List (List Int)) : ∀ (ss : List S3) (b : List Int), (wMk ranks b ss).length = ss.length
  | [], _ => rfl
  | s :: ss, b => congrArg Nat.succ (wMk_length ranks ss (takeB b s))
abbrev eCk : List Int × List Int × S3 × Int → List D := fun a => [dIs a.1, dIs a.2.1, dSt a.2.2.1, .int a.2.2.2]
def excCk (CS : Addr) : List Int × List Int × S3 × Int → Addr → List (Str × V) → Prop := fun a C fs => ¬ Can a.1 a.2.1 a.2.2.1 ∧ C = CS ∧ fs = [(("at" : Str), V.int a.2.2.2)]
theorem clean_sts : ∀ ss : List S3, D.cleans (ss.map dSt) = true
  | [] => rfl
  | _ :: ss => clean_sts ss
theorem depth_sts (ss : List S3) : PyData.depthAll (D.pys (ss.map dSt)) ≤ 1 := by
  induction ss with
  | nil => exact Nat.zero_le _
  | cons n l ih =>
    show PyData.depthAll (.tuple (D.pys [.int n.1, .int n.2.1, .int n.2.2]) :: D.pys (l.map dSt)) ≤ 1
    rw [PyData.depthAll, PyData.depth]
    have : PyData.depthAll (D.pys [.int n.1, .int n.2.1, .int n.2.2]) = 0 := depth_ints [n.1, n.2.1, n.2.2]
    omega
theorem eqd_sts (ss : List S3) : Eqd (dSts ss) := ⟨clean_sts ss, by
  show PyData.depth (.list _) ≤ 64
  have := depth_sts ss
  rw [PyData.depth]
  omega⟩
theorem sts_ne {ss : List S3} : dSts ss ≠ D.lst [] ↔ ss ≠ [] := by cases ss <;> simp
theorem cutI_to {α : Type} (l : List α) (n : Nat) : cutI l none (some (n : Int)) = l.take n := by
  unfold cutI
  rw [HT.sIx_none, HT.sIx_nat, List.drop_zero, Nat.sub_zero]
  rcases Nat.le_total n l.length with h | h
  · rw [Nat.min_eq_left h]
  · rw [Nat.min_eq_right h, List.take_of_length_le h, List.take_of_length_le (Nat.le_refl _)]
theorem cutI_from {α : Type} (l : List α) (n : Nat) : cutI l (some (n : Int)) none = l.drop n := by
  unfold cutI
  rw [HT.sIx_none, HT.sIx_nat]
  rcases Nat.le_total n l.length with h | h
  · rw [Nat.min_eq_left h, List.take_of_length_le (by rw [List.length_drop]; omega)]
  · rw [Nat.min_eq_right h, Nat.sub_self, List.take_zero, List.drop_of_length_le h]
theorem wBad_app : ∀ (ss : List S3) (l b : List Int) (ts : List S3), wBad l b (ss ++ ts) = none ↔ wBad l b ss = none ∧ wBad (wL l ss) (wB b ss) ts = none
  | [], _, _, _ => ⟨fun h => ⟨rfl, h⟩, fun h => h.2⟩
  | s :: ss, l, b, ts => by
    show (if Can l b s then (wBad (takeL l s) (takeB b s) (ss ++ ts)).map (· + 1) else some 0) = none ↔ (if Can l b s then (wBad (takeL l s) (takeB b s) ss).map (· + 1) else some 0) = none ∧ wBad (wL (takeL l s) ss) (wB (takeB b s) ss) ts = none
    by_cases z : Can l b s
    · rw [if_pos z, if_pos z, Option.map_eq_none_iff, Option.map_eq_none_iff]
      exact wBad_app ss _ _ ts
    · rw [if_neg z, if_neg z]
      exact ⟨fun h => (nomatch h), fun h => (nomatch h.1)⟩
theorem wBad_one {l b : List Int} {s : S3} : wBad l b [s] = none ↔ Can l b s := by
  unfold wBad
  by_cases z : Can l b s
  · rw [if_pos z]
    exact ⟨fun _ => z, fun _ => rfl⟩
  · rw [if_neg z]
    exact ⟨fun h => (nomatch h), fun h => absurd h z⟩
theorem wBad_take {l b : List Int} {ss : List S3} (n : Nat) (h : wBad l b ss = none) : wBad l b (ss.take n) = none := by
  rw [← List.take_append_drop n ss] at h
  exact ((wBad_app _ _ _ _).mp h).1
/-- as good as the strikes are -/
def AsGood (ss ts : List S3) : Prop := ∀ l b, wBad l b ss = none → wBad l b ts = none
/-- a line of the web where the names seen stand already -/
def seenL (row : List Int) (st : List (List Int)) (n : Nat) (seen : List Int) : List Bool := (upto 0 n).map fun x => decide (x ∈ seen) && webCell row st x
theorem seenL_all {row : List Int} {st : List (List Int)} {n : Nat} : seenL row st n st.flatten = webRow row st n := by
  unfold seenL webRow
  refine List.map_congr_left fun x _ => ?_
  by_cases z : x ∈ st.flatten
  · rw [decide_eq_true z, Bool.true_and]
  · rw [decide_eq_false z, Bool.false_and, webCell_no fun s hs hx => z (List.mem_flatten.mpr ⟨s, hs, hx⟩)]
theorem seenL_nil {row : List Int} {st : List (List Int)} {n : Nat} : seenL row st n [] = List.replicate n false := by
  unfold seenL
  rw [List.eq_replicate_iff]
  refine ⟨by rw [List.length_map, upto_length]; omega, fun b hb => ?_⟩
  obtain ⟨x, _, rfl⟩ := List.mem_map.mp hb
  simp
theorem seenL_len {row : List Int} {st : List (List Int)} {n : Nat} {seen : List Int} : (seenL row st n seen).length = n := by
  unfold seenL
  rw [List.length_map, upto_length]
  omega
theorem seenL_set {row : List Int} {st : List (List Int)} {n x : Nat} {seen : List Int} (h : x < n) : (seenL row st n seen).set x (webCell row st (x : Int)) = seenL row st n (seen ++ [(x : Int)]) := by
  have e := set_map_upto (f := fun y => decide (y ∈ seen) && webCell row st y) (g := fun y => decide (y ∈ seen ++ [(x : Int)]) && webCell row st y) h fun y hy => by
    have : (y ∈ seen ++ [(x : Int)]) ↔ y ∈ seen := by simp [hy]
    by_cases z : y ∈ seen
    · rw [decide_eq_true z, decide_eq_true (this.mpr z)]
    · rw [decide_eq_false z, decide_eq_false fun q => z (this.mp q)]
  have e2 : (decide ((x : Int) ∈ seen ++ [(x : Int)]) && webCell row st (x : Int)) = webCell row st (x : Int) := by simp
  rw [e2] at e
  exact e
theorem capped_flat {row : List Int} {r : Int} {l : List (List Int)} : (l.flatten.map fun y => decide (rk row y ≤ r)).all id = capped row r l := by
  unfold capped
  rw [List.all_map]
  show l.flatten.all (fun y => decide (rk row y ≤ r)) = _
  rw [List.all_flatten]
theorem dIss_at9 {rs : List (List Int)} {i : Nat} (h : i < rs.length) : atI (rs.map dIs) (i : Int) = some (dIs rs[i]) := at_nat (by rw [List.getElem?_map, List.getElem?_eq_getElem h]; rfl)
abbrev eWb : List (List Int) × List Int × List (List Int) → List D := fun a => [dIss a.1, dIs a.2.1, dIss a.2.2]
def webs (ranks : List (List Int)) (n : Nat) (st : List (List Int)) : List (List Bool) := ranks.map fun row => webRow row st n
abbrev tBss (ws : List (List Bool)) : T := T.lst (ws.map fun bs => T.row (bs.map .bl))
theorem tBss_full (ws : List (List Bool)) : (tBss ws).full = true := T.fullL_all fun t ht => by
  obtain ⟨bs, _, rfl⟩ := List.mem_map.mp ht
  exact full_row fun d hd => by obtain ⟨b, _, rfl⟩ := List.mem_map.mp hd; rfl
theorem tBss_data (ws : List (List Bool)) : (tBss ws).data = .lst (ws.map dBs) := by
  show D.lst (T.datas _) = _
  rw [T.datas_map, List.map_map]
  congr 1
  exact List.map_congr_left fun bs _ => T.data_row _
abbrev s_law_web : Stmt := topS 76
theorem sc_law_web : FnScope ["ranks", "bears", "stages", "web", "row", "line", "k", "later", "stage", "x", "y"] ["ranks", "bears", "stages"] (defScope s_law_web) := ⟨rfl, rfl, rfl, by decide +kernel, rfl, by decide +kernel, by decide +kernel⟩
--DEF _law_web
set_option maxHeartbeats 4000000 in
theorem ok_law_web (h : DefAt K mg "_law_web" ["ranks", "bears", "stages"] s_law_web) (g_len : mg "len" = none) (g_range : mg "range" = none) (g_all : mg "all" = none) :
    Okk P w K mg base CX0 (k + 1) "_law_web" ["ranks", "bears", "stages"] (PF K eWb (fun a => a.1.length ≤ 8 ∧ a.2.1.length ≤ 8 ∧ (∀ r ∈ a.1, r.length = a.2.1.length) ∧ a.2.2.length ≤ 100 ∧ stFault (standing a.2.1) a.2.2 = none) fun a r => r = tBss (webs a.1 a.2.1.length a.2.2)) := by
  refine DefAt.pf h sc_law_web ?_ ?_ fun cdv f A outer s H E hr => ⟨_, (pss_cons (ps_set (i := 3) sc_law_web.nd rfl (Or.inl rfl) (pe_lst pa_nil))
      (pss_cons (ps_for PassesOwn.never rfl (pi_list (pv 0)) (pg_name (i := 4) sc_law_web.nd rfl (Or.inr rfl))
        (pss_cons (ps_set (i := 5) sc_law_web.nd rfl (Or.inl rfl) (pe_op op_rep (pe_lst (pa_cons pe_bl pa_nil)) (pe_callB cr_len (by rfl) g_len (by decide +kernel) (pa_cons (pv 1) pa_nil))))
        (pss_cons (ps_for PassesOwn.never rfl (pi_range1 rfl g_range (pa_cons (pe_callB cr_len (by rfl) g_len (by decide +kernel) (pa_cons (pv 2) pa_nil)) pa_nil)) (pg_name (i := 6) sc_law_web.nd rfl (Or.inl rfl))
          (pss_cons (ps_set (i := 7) sc_law_web.nd rfl (Or.inl rfl) (pe_lst pa_nil))
          (pss_cons (ps_for PassesOwn.never rfl (pi_list (pe_slice sl_list (pv 2) (po_some (pe_op op_add (pv 6) pe_int)) po_none)) (pg_name (i := 8) sc_law_web.nd rfl (Or.inl rfl))
            (pss_one (ps_set (i := 7) sc_law_web.nd rfl (Or.inl rfl) (pe_op op_cat (pv 7) (pv 8)))))
          (pss_one (ps_for PassesOwn.never rfl (pi_list (pe_ix ix_list (pv 2) (pv 6) (fun _ _ => rfl))) (pg_name (i := 9) sc_law_web.nd rfl (Or.inr rfl))
            (pss_one (ps_asg (pe_callB (cr_all rfl) (by rfl) g_all (by decide +kernel) (pa_cons (pe_lc (own := [("y", 10)]) rfl sc_law_web.nd (pi_list (pv 7)) (blkOk_by (own := [("y", 10)]) (N := ["ranks", "bears", "stages", "web", "row", "line", "k", "later", "stage", "x", "y"]) (sc := defScope s_law_web) (by decide +kernel)) (fun _ _ _ _ _ => pg_name (i := 10) sc_law_web.nd rfl (Or.inl rfl)) (fun _ _ _ _ _ => pts_nil) (fun _ _ _ _ _ => (pe_cmpR op_ge (pe_ix (ix_listB (K := K)) (pv 4) (pv 9) (fun _ _ => rfl)) (pe_ix (ix_listB (K := K)) (pv 4) (pv 10) (fun _ _ => rfl)) (nomark _)))) pa_nil)) (pg_sub (pv 5) (pv 9) set_list))))))))
        (pss_one (ps_expr (pe_bm PySem.F.plainAttrs_list PySem.F.slot_list_append PySem.F.type_list_append mt_append (pv 3) (pa_cons (pv 5) pa_nil)))))))
      (pss_one (ps_ret (pv 3))))), ?_⟩
  · rintro n _; rfl
  · rintro n r _ rfl; exact tBss_full _
  rintro ⟨ranks, be, st⟩ ⟨h1, h2, h3, h4, h5⟩
  dsimp only at h1 h2 h3 h4 h5
  have ok := okN (K := K) (A := fun _ => True) (H0 := H) (n := 11)
  have mem : ∀ s ∈ st, ∀ x ∈ s, 0 ≤ x ∧ x < be.length := fun s hs x hx => by
    have := mem_standing.mp ((stFault_mem h5 s hs).2.2 x hx)
    omega
  have len8 : ∀ s ∈ st, s.length ≤ 8 := fun s hs => by have := stFault_len h5 s hs; omega
  walk_at "ev0"
  rw [List.length_map]
  refine loopK [4, 5, 6, 7, 8, 9, 10] (fun i ρ => ρ = [cD (dIss ranks), cD (dIs be), cD (dIss st), .t (tBss (webs (ranks.take i) be.length st)), .dead, .dead, .dead, .dead, .dead, .dead, .dead]) rfl ?_ ?_
  · rintro i ρ hi rfl
    have hrow := h3 _ (List.getElem_mem hi)
    have et := take_snoc hi
    rw [dIss_get hi]
    generalize ranks[i] = row at *
    walk_at "ev"
    refine vo_rep ok (.own (l := [.bl false])) (by rw [List.length_map]; omega) (by rw [List.length_map]; omega) (by rw [List.length_map]; show 1 * _ ≤ _; omega) ?_
    rw [Int.toNat_natCast, rep_one, List.length_map]
    have e0 : List.replicate be.length (D.bl false) = (seenL row st be.length []).map .bl := by
      rw [seenL_nil, List.map_replicate]
    rw [e0]
    clear e0
    walk_at "eg"
    refine es_cut (fun ρ => ρ = [cD (dIss ranks), cD (dIs be), cD (dIss st), .t (tBss (webs (ranks.take i) be.length st)), cD (dIs row), .t (.row ((webRow row st be.length).map .bl)), .dead, .dead, .dead, .dead, .dead]) ?_ ?_
    · walk_at "ev"
      refine loopK [6, 7, 8, 9, 10] (fun j ρ => ρ = [cD (dIss ranks), cD (dIs be), cD (dIss st), .t (tBss (webs (ranks.take i) be.length st)), cD (dIs row), .t (.row ((seenL row st be.length (st.take j).flatten).map .bl)), .dead, .dead, .dead, .dead, .dead]) rfl ?_ ?_
      · rintro j ρ hj rfl
        rw [List.length_map, Int.toNat_natCast] at hj
        have hj8 : j < 100 := by omega
        walk_at "eg"
        refine es_cut (fun ρ => ∃ ys : List Int, ρ = [cD (dIss ranks), cD (dIs be), cD (dIss st), .t (tBss (webs (ranks.take i) be.length st)), cD (dIs row), .t (.row ((seenL row st be.length (st.take j).flatten).map .bl)), cI j, .t (.row (ys.map .int)), .dead, .dead, .dead] ∧ ys = []) (by walk_at "ev"; exact ⟨[], rfl, rfl⟩) ?_
        rintro ρ ⟨ys, rfl, hys⟩
        have dl : (st.drop (j + 1)).flatten.length ≤ 800 := by
          have : ∀ l : List (List Int), (∀ s ∈ l, s.length ≤ 8) → l.flatten.length ≤ 8 * l.length := fun l => by
            induction l with
            | nil => intro _; exact Nat.zero_le _
            | cons s l ih =>
              intro hl
              rw [List.flatten_cons, List.length_append, List.length_cons]
              have := ih fun s hs => hl s (List.mem_cons_of_mem _ hs)
              have := hl s List.mem_cons_self
              omega
          have := this (st.drop (j + 1)) fun s hs => len8 s (List.mem_of_mem_drop hs)
          rw [List.length_drop] at this
          omega
        refine es_cut (fun ρ => ρ = [cD (dIss ranks), cD (dIs be), cD (dIss st), .t (tBss (webs (ranks.take i) be.length st)), cD (dIs row), .t (.row ((seenL row st be.length (st.take j).flatten).map .bl)), cI j, .t (.row ((st.drop (j + 1)).flatten.map .int)), .dead, .dead, .dead]) ?_ ?_
        · walk_at "ev"
          rw [show ((j : Int) + 1) = ((j + 1 : Nat) : Int) by omega, cutD_map, cutI_from]
          rw [List.length_map]
          subst hys
          refine loopK [8] (fun q ρ => ρ = [cD (dIss ranks), cD (dIs be), cD (dIss st), .t (tBss (webs (ranks.take i) be.length st)), cD (dIs row), .t (.row ((seenL row st be.length (st.take j).flatten).map .bl)), cI j, .t (.row ((((st.drop (j + 1)).take q).flatten).map .int)), .dead, .dead, .dead]) rfl ?_ ?_
          · rintro q ρ hq rfl
            rw [dIss_get hq]
            have eq := take_snoc hq
            have l1 : ((st.drop (j + 1)).take q).flatten.length + ((st.drop (j + 1))[q]).length ≤ 800 := by
              have e : (st.drop (j + 1)).flatten = ((st.drop (j + 1)).take (q + 1)).flatten ++ ((st.drop (j + 1)).drop (q + 1)).flatten := by rw [← List.flatten_append, List.take_append_drop]
              rw [e, eq, List.flatten_append, List.flatten_singleton, List.length_append, List.length_append] at dl
              omega
            walk_at "ev"
            refine vo_cat ok (by walk_at "leaf") (by walk_at "leaf") (by rw [List.length_map, List.length_map]; omega) ?_
            rw [← List.map_append]
            walk_at "eg"
            walk_at "kl"
            rw [eq, List.flatten_append, List.flatten_singleton]
          · rintro ρ rfl
            rw [List.take_length]
        rintro ρ rfl
        refine es_fz (i := 7) (d := dIs (st.drop (j + 1)).flatten) (by walk_at "cat") (T.data_row _) (by walk_at "cset") rfl ?_
        walk_at "ev"
        refine vo_ixL (by walk_at "leaf") (dIss_at9 hj) ?_
        have hm := mem _ (List.getElem_mem hj)
        have l8 := len8 _ (List.getElem_mem hj)
        walk_at "ev"
        rw [List.length_map]
        refine loopK [9, 10] (fun q ρ => ρ = [cD (dIss ranks), cD (dIs be), cD (dIss st), .t (tBss (webs (ranks.take i) be.length st)), cD (dIs row), .t (.row ((seenL row st be.length ((st.take j).flatten ++ st[j].take q)).map .bl)), cI j, cD (dIs (st.drop (j + 1)).flatten), .dead, .dead, .dead]) (by rw [List.take_zero, List.append_nil]) ?_ ?_
        · rintro q ρ hq rfl
          rw [getD_ints hq]
          have eq := take_snoc hq
          have xm := List.getElem_mem hq
          have cell : webCell row st st[j][q] = capped row (rk row st[j][q]) (st.drop (j + 1)) := webCell_at hj xm fun i' hi' ij z => stFault_dis h5 hi' hj ij z xm
          have xr := hm _ xm
          generalize st[j][q] = x' at *
          obtain ⟨x, rfl⟩ := Int.eq_ofNat_of_zero_le xr.1
          have xl : x < row.length := by omega
          walk_at "ev"
          refine ⟨by rw [List.length_map]; omega, ?_⟩
          rw [List.length_map]
          have ym : ∀ y ∈ (st.drop (j + 1)).flatten, 0 ≤ y ∧ y < be.length := fun y hy => by
            obtain ⟨s, hs, hy⟩ := List.mem_flatten.mp hy
            exact mem s (List.mem_of_mem_drop hs) y hy
          rw [← capped_flat] at cell
          generalize (st.drop (j + 1)).flatten = ys at *
          refine lcl (fun c acc => acc = (ys.take c).map fun y => T.d (.bl (decide (rk row y ≤ rk row (x : Int))))) (by simp) rfl (fun c acc hc hI ha => ?_) fun acc hI _ => ?_
          · rw [getD_ints hc]
            have ec := take_snoc hc
            have yr := ym _ (List.getElem_mem hc)
            generalize ys[c] = y' at *
            obtain ⟨y, rfl⟩ := Int.eq_ofNat_of_zero_le yr.1
            have yl : y < row.length := by omega
            walk_at "ev"
            refine vo_ixL (by walk_at "leaf") (dIs_at xl) ?_
            walk_at "ev"
            refine vo_ixL (by walk_at "leaf") (dIs_at yl) ?_
            walk_at "ev"
            walk_at "kk"
            rw [ec, hI, List.map_append, List.map_singleton, rk_at xl, rk_at yl]
          · rw [List.take_length] at hI
            subst hI
            rw [show T.lst (ys.map fun y => T.d (.bl (decide (rk row y ≤ rk row (x : Int))))) = T.row ((ys.map fun y => decide (rk row y ≤ rk row (x : Int))).map .bl) by show _ = T.lst (List.map _ (List.map _ (List.map _ _))); rw [List.map_map, List.map_map]; rfl]
            walk_at "ev"
            refine vo_all (by walk_at "lk") ?_
            rw [← cell]
            walk_at "ev"
            refine st_0 (n := x) (by walk_at "cat") (by rw [List.length_map, seenL_len]; exact ixN_at (by omega)) rfl (by walk_at "cset") ?_
            rw [← List.map_set, seenL_set (by omega)]
            walk_at "kl"
            rw [eq, List.append_assoc]
        · rintro ρ rfl
          walk_at "kl"
          rw [List.take_length, take_snoc hj, List.flatten_append, List.flatten_singleton]
      · rintro ρ rfl
        rw [List.length_map, Int.toNat_natCast, List.take_length, seenL_all]
    rintro ρ rfl
    have m5 : Mv 5 := .mk
    walk_at "ev"
    refine ev_var_mvP (by walk_at "cat") (by walk_at "cset") rfl (noPl_one (by decide)) ?_
    have wl : (webs (ranks.take i) be.length st).length ≤ 8 := by unfold webs; rw [List.length_map, List.length_take]; omega
    walk_at "ev"
    walk_at "kl"
    rw [et]
    unfold webs
    rw [List.map_append]
    show [_, _, _, Cell.t (T.lst (List.map _ _ ++ [_])), _, _, _, _, _, _, _] = [_, _, _, Cell.t (T.lst (List.map _ (_ ++ _))), _, _, _, _, _, _, _]
    rw [List.map_append]
    rfl
  · rintro ρ rfl
    rw [List.take_length]
    have m3 : Mv 3 := .mk
    walk_at "ev"
    rfl
theorem stFault_perm : ∀ {l : List (List Int)} {w : List Int}, (∀ s ∈ l, s ≠ [] ∧ s.Pairwise (· < ·)) → l.flatten.Perm w → w.Nodup → (∀ x ∈ w, 0 ≤ x) → stFault w l = none
  | [], w, _, p, _, _ => by
    unfold stFault
    rw [if_pos (List.nil_perm.mp p)]
  | s0 :: l, w, h, p, nd, w0 => by
    unfold stFault
    have h0 := h s0 List.mem_cons_self
    rw [List.flatten_cons] at p
    have ndp : (s0 ++ l.flatten).Nodup := p.nodup_iff.mpr nd
    rw [List.nodup_append] at ndp
    rw [if_pos ⟨h0.1, h0.2, fun x hx => by
      have : x ∈ w := p.mem_iff.mp (List.mem_append_left _ hx)
      have := w0 x this
      exact ⟨by omega, by assumption⟩⟩, Option.map_eq_none_iff]
    refine stFault_perm (fun s hs => h s (List.mem_cons_of_mem _ hs)) ?_ (nd.filter _) fun x hx => w0 x (List.mem_filter.mp hx).1
    have q := p.filter fun x => decide (x ∉ s0)
    rw [List.filter_append, List.filter_eq_nil_iff.mpr (fun x hx => by simp [hx]), List.nil_append, List.filter_eq_self.mpr (fun x hx => by
      simp only [decide_eq_true_eq]
      exact fun z => ndp.2.2 x z x hx rfl)] at q
    exact q
theorem set_last_flat {rows : List (List Int)} {sx : List Int} {x : Int} (h : rows.length - 1 < rows.length) (px : sx.Perm (rows[rows.length - 1] ++ [x])) : (rows.set (rows.length - 1) sx).flatten.Perm (rows.flatten ++ [x]) := by
  rcases List.eq_nil_or_concat rows with rfl | ⟨r, s, rfl⟩
  · exact absurd h (Nat.not_lt_zero _)
  · simp only [List.concat_eq_append, List.length_append, List.length_cons, List.length_nil, Nat.add_sub_cancel] at px ⊢
    rw [List.set_append_right _ _ (Nat.le_refl _), Nat.sub_self]
    simp only [List.set_cons_zero, List.flatten_append, List.flatten_singleton, List.append_assoc]
    refine List.Perm.append_left _ ?_
    have e : (r ++ [s])[r.length + 0] = s := by simp
    simpa using px
theorem strict_of {l : List Int} (h : l.Pairwise (· ≤ ·)) (n : l.Nodup) : l.Pairwise (· < ·) := (List.Pairwise.and h n).imp fun ⟨a, b⟩ => by omega
theorem dis_take {rows : List (List Int)} {ms : List Int} {i : Nat} {s : List Int} (hi : i < ms.length) (nd : ms.Nodup) (pf : rows.flatten.Perm (ms.take i)) (hs : s ∈ rows) (ps : s.Pairwise (· < ·)) : (s ++ [ms[i]]).Nodup := by
  rw [List.nodup_append]
  refine ⟨ps.imp fun h => by omega, List.pairwise_singleton _ _, fun a ha b hb e => ?_⟩
  rw [List.mem_singleton.mp hb] at e
  have : a ∈ ms.take i := pf.mem_iff.mp (List.mem_flatten.mpr ⟨s, hs, ha⟩)
  obtain ⟨j, hj, ej⟩ := List.getElem_of_mem this
  rw [List.length_take] at hj
  rw [List.getElem_take] at ej
  have := (List.pairwise_iff_getElem.mp nd) j i (by omega) hi (by omega)
  exact this (ej.trans e)
abbrev s_law_stages : Stmt := topS 75
theorem sc_law_stages : FnScope ["store", "bears", "kind", "stages", "x"] ["store", "bears"] (defScope s_law_stages) := ⟨rfl, rfl, rfl, by decide +kernel, rfl, by decide +kernel, by decide +kernel⟩
--DEF _law_stages
theorem ok_law_stages (h : DefAt K mg "_law_stages" ["store", "bears"] s_law_stages) (g_sorted : mg "sorted" = none) (D_law_take : Okk P w K mg base CX0 k "_law_take" ["store", "many"] spTake) (D_law_shuffled : Okk P w K mg base CX0 k "_law_shuffled" ["store", "row"] (spShuf K)) (D_law_standing : Okk P w K mg base CX0 k "_law_standing" ["bears"] (PF K e1L (fun ns => ns.length ≤ 1000) fun ns r => r = T.row ((standing ns).map .int))) :
    Okk P w K mg base CX0 (k + 1) "_law_stages" ["store", "bears"] (PFS K e1L (fun ns => ns.length ≤ 8) fun ns r => ∃ rows : List (List Int), r = T.lst (rows.map fun ns => T.row (ns.map .int)) ∧ rows.length ≤ 8 ∧ (∀ st ∈ rows, st.length ≤ 8) ∧ stFault (standing ns) rows = none) := by
  refine DefAt.pfs (N := ["bears", "kind", "stages", "x"]) h sc_law_stages ?_ ?_ fun cdv f A outer s H E hr => ⟨_, (pss_cons (ps_set (i := 2) sc_law_stages.nd rfl (Or.inl rfl) (pe_own D_law_take hr (pa_cons (pv 0) (pa_cons pe_int pa_nil))))
      (pss_cons (ps_set (i := 3) sc_law_stages.nd rfl (Or.inl rfl) (pe_lst pa_nil))
      (pss_cons (ps_for PassesOwn.never rfl (pi_list (pe_own D_law_shuffled hr (pa_cons (pv 0) (pa_cons (pe_own D_law_standing hr (pa_cons (pv 1) pa_nil)) pa_nil)))) (pg_name (i := 4) sc_law_stages.nd rfl (Or.inl rfl))
        (pss_one (ps_if (PW.pt (pw_and (pt_cmpR (op_neD hr.units) (pv 3) (pe_lst pa_nil) (nomark _)) (pw_and1 (PW.pt (pw_or (pt_cmpR op_eq (pv 2) pe_int (nomark _)) (pw_or1 (PW.pt (pw_and (pt_cmpR op_ge (pv 2) pe_int (nomark _)) (pw_and1 (pt_cmpR op_eq (pe_own D_law_take hr (pa_cons (pv 0) (pa_cons pe_int pa_nil))) pe_int (nomark _))))))))))) (pss_one (ps_asg (pe_callB cr_sortedI (by rfl) g_sorted (by decide +kernel) (pa_cons (pe_op op_cat (pe_ix ix_list (pv 3) (pe_un un_neg pe_int) (fun _ _ => rfl)) (pe_lst (pa_cons (pv 4) pa_nil))) pa_nil)) (pg_sub (pv 3) (pe_un un_neg pe_int) set_list))) (pss_one (ps_expr (pe_bm PySem.F.plainAttrs_list PySem.F.slot_list_append PySem.F.type_list_append mt_append (pv 3) (pa_cons (pe_lst (pa_cons (pv 4) pa_nil)) pa_nil)))))))
      (pss_one (ps_ret (pv 3)))))), ?_⟩
  · rintro n _; rfl
  · rintro n r _ ⟨ms, rfl, _⟩; exact full_rows
  intro ns hn p sl hs
  have ok := okS (n := 5) (A := fun a => a ≠ p) (K := K) hs
  walk_at "ev0"
  intro kind _ _ _
  walk_at "ev"
  refine ⟨by show ns.length ≤ 1000; omega, ?_⟩
  rintro r rfl
  walk_at "ev"
  have ls := standing_length ns
  refine dr_shuf (.t (T.data_row _)) (by omega) fun ms pe => ?_
  have lm := pe.length_eq
  refine (fun h => it_l (T.data_row _) h) ?_
  refine loopK [4] (fun i ρ => ∃ rows : List (List Int), ρ = [.sto, cD (dIs ns), cI kind, .t (.lst (rows.map fun ns => T.row (ns.map .int))), .dead] ∧ rows.length ≤ i ∧ (∀ st ∈ rows, st.length ≤ i) ∧ (∀ st ∈ rows, st ≠ [] ∧ st.Pairwise (· < ·)) ∧ rows.flatten.Perm (ms.take i)) ⟨[], rfl, by simp, by simp, by simp, by simp⟩ ?_ ?_
  · rintro i ρ hi ⟨rows, rfl, h1, h2, h3, h4⟩
    rw [List.length_map] at hi
    have nd : ms.Nodup := pe.nodup_iff.mpr (nodup_standing ns)
    have et := take_snoc hi
    rw [getD_ints hi]
    have app : ∃ rows' : List (List Int), T.lst (rows.map (fun ns => T.row (ns.map .int)) ++ [T.lst [T.d (D.int ms[i])]]) = T.lst (rows'.map fun ns => T.row (ns.map .int)) ∧ rows'.length ≤ i + 1 ∧ (∀ st ∈ rows', st.length ≤ i + 1) ∧ (∀ st ∈ rows', st ≠ [] ∧ st.Pairwise (· < ·)) ∧ rows'.flatten.Perm (ms.take (i + 1)) := ⟨rows ++ [[ms[i]]], by rw [List.map_append]; rfl, by rw [List.length_append]; simpa using h1, fun st hst => by
      rcases List.mem_append.mp hst with z | z
      · have := h2 st z; omega
      · rw [List.mem_singleton.mp z]; simp, fun st hst => by
      rcases List.mem_append.mp hst with z | z
      · exact h3 st z
      · rw [List.mem_singleton.mp z]; simp, by
      rw [et, List.flatten_append, List.flatten_singleton]
      exact h4.append_right _⟩
    walk_at "ev"
    refine vo_neD (d1 := .lst (rows.map dIs)) (d2 := .lst []) (.pl rfl rfl rows_data) (.t rfl) (eqd_rows _) eqd_nil fun b hb => ⟨_, rfl, ?_⟩
    cases b with
    | false =>
      refine x_ifn (fun z => nomatch z) ?_
      walk_at "ev"
      walk_at "kl"
      obtain ⟨rows', e', a1, a2, a3, a4⟩ := app
      exact ⟨rows', by rw [e'], a1, a2, a3, a4⟩
    | true =>
      refine x_ifp rfl ?_
      have hne := rows_ne.mp (hb.mp rfl)
      have hp := List.length_pos_iff.mpr hne
      have hl : rows.length - 1 < rows.length := by omega
      have hll := h2 _ (List.getElem_mem hl)
      have hat : (T.lst (rows.map fun ns => T.row (ns.map .int))).at [rows.length - 1] = some (T.row ((rows[rows.length - 1]).map .int)) := by
        unfold T.at
        rw [List.getElem?_map, List.getElem?_eq_getElem hl]
        rfl
      walk_at "ev"
      refine x_dec (fun _ => ?_) (fun _ => ?_)
      walk_at "ev"
      refine vo_ixPl (n := rows.length - 1) (by walk_at "cat") rfl (by rw [List.length_map]; exact ixN_last hp) (by rw [List.getElem?_map, List.getElem?_eq_getElem hl]; rfl) rfl ?_
      walk_at "ev"
      refine vo_cat ok (l1 := (rows[rows.length - 1]).map .int) (l2 := [.int ms[i]]) (leaf_pl (by walk_at "cat") hat) (Leaf.own (l := [.int ms[i]])) (by rw [List.length_map]; simp only [List.length_cons, List.length_nil]; omega) ?_
      rw [show (rows[rows.length - 1]).map D.int ++ [.int ms[i]] = (rows[rows.length - 1] ++ [ms[i]]).map D.int by rw [List.map_append]; rfl]
      walk_at "ev"
      refine vo_sortedI ok (.t (T.data_row _)) fun sx px psx => ?_
      walk_at "ev"
      refine st_L (by walk_at "cat") (by rw [List.length_map]; exact ixN_last hp) rfl (by walk_at "cset") ?_
      walk_at "kl"
      have hlm := h3 _ (List.getElem_mem hl)
      exact ⟨rows.set (rows.length - 1) sx, by rw [List.map_set], by rw [List.length_set]; omega, fun st hst => by
        rcases List.mem_or_eq_of_mem_set hst with z | rfl
        · have := h2 st z; omega
        · have := px.length_eq; rw [List.length_append] at this; simp only [List.length_cons, List.length_nil] at this; omega, fun st hst => by
        rcases List.mem_or_eq_of_mem_set hst with z | rfl
        · exact h3 st z
        · refine ⟨fun q => ?_, strict_of psx (px.nodup_iff.mpr (dis_take hi nd h4 (List.getElem_mem hl) hlm.2))⟩
          rw [q] at px
          have := px.length_eq
          rw [List.length_append] at this
          simp at this, by
        rw [et]
        exact (set_last_flat hl px).trans (h4.append_right _)⟩
      walk_at "ev"
      refine x_dec (fun _ => ?_) (fun _ => ?_)
      walk_at "ev"
      intro d _ _ _
      walk_at "ev"
      refine x_dec (fun _ => ?_) (fun _ => ?_)
      walk_at "ev"
      refine vo_ixPl (n := rows.length - 1) (by walk_at "cat") rfl (by rw [List.length_map]; exact ixN_last hp) (by rw [List.getElem?_map, List.getElem?_eq_getElem hl]; rfl) rfl ?_
      walk_at "ev"
      refine vo_cat ok (l1 := (rows[rows.length - 1]).map .int) (l2 := [.int ms[i]]) (leaf_pl (by walk_at "cat") hat) (Leaf.own (l := [.int ms[i]])) (by rw [List.length_map]; simp only [List.length_cons, List.length_nil]; omega) ?_
      rw [show (rows[rows.length - 1]).map D.int ++ [.int ms[i]] = (rows[rows.length - 1] ++ [ms[i]]).map D.int by rw [List.map_append]; rfl]
      walk_at "ev"
      refine vo_sortedI ok (.t (T.data_row _)) fun sx px psx => ?_
      walk_at "ev"
      refine st_L (by walk_at "cat") (by rw [List.length_map]; exact ixN_last hp) rfl (by walk_at "cset") ?_
      walk_at "kl"
      have hlm := h3 _ (List.getElem_mem hl)
      exact ⟨rows.set (rows.length - 1) sx, by rw [List.map_set], by rw [List.length_set]; omega, fun st hst => by
        rcases List.mem_or_eq_of_mem_set hst with z | rfl
        · have := h2 st z; omega
        · have := px.length_eq; rw [List.length_append] at this; simp only [List.length_cons, List.length_nil] at this; omega, fun st hst => by
        rcases List.mem_or_eq_of_mem_set hst with z | rfl
        · exact h3 st z
        · refine ⟨fun q => ?_, strict_of psx (px.nodup_iff.mpr (dis_take hi nd h4 (List.getElem_mem hl) hlm.2))⟩
          rw [q] at px
          have := px.length_eq
          rw [List.length_append] at this
          simp at this, by
        rw [et]
        exact (set_last_flat hl px).trans (h4.append_right _)⟩
      walk_at "ev"
      walk_at "kl"
      obtain ⟨rows', e', a1, a2, a3, a4⟩ := app
      exact ⟨rows', by rw [e'], a1, a2, a3, a4⟩
      walk_at "ev"
      walk_at "kl"
      obtain ⟨rows', e', a1, a2, a3, a4⟩ := app
      exact ⟨rows', by rw [e'], a1, a2, a3, a4⟩
  · rintro ρ ⟨rows, rfl, h1, h2, h3, h4⟩
    rw [List.length_map] at h1 h2 h4
    rw [List.take_length] at h4
    walk_at "ev"
    exact ⟨rows, rfl, by omega, fun st hst => by have := h2 st hst; omega, stFault_perm h3 (h4.trans pe) (nodup_standing ns) fun x hx => (mem_standing.mp hx).1⟩
abbrev s_law_full_table : Stmt := topS 79
theorem sc_law_full_table : FnScope ["store", "left", "bears", "web", "v"] ["store", "left", "bears"] (defScope s_law_full_table) := ⟨rfl, rfl, rfl, by decide +kernel, rfl, by decide +kernel, by decide +kernel⟩
--DEF _law_full_table
abbrev eFt : List Int × List Int → List D := fun a => [dIs a.1, dIs a.2]
set_option maxHeartbeats 4000000 in
theorem ok_law_full_table (h : DefAt K mg "_law_full_table" ["store", "left", "bears"] s_law_full_table) (g_len : mg "len" = none) (g_range : mg "range" = none)
    (D_law_pairing : Okk P w K mg base CX0 k "_law_pairing" ["store", "web", "left", "bears", "greedy"] (PFS K ePa PaPre fun a r => ∃ tb : List (List Int), r = T.lst (tb.map fun ns => T.row (ns.map .int)) ∧ Tbl a.2.1.length a.2.2.1.length tb)) :
    Okk P w K mg base CX0 (k + 1) "_law_full_table" ["store", "left", "bears"] (PFS K eFt (fun a => (1 ≤ a.1.length ∧ a.1.length ≤ 8) ∧ (1 ≤ a.2.length ∧ a.2.length ≤ 8) ∧ (∀ x ∈ a.1, 0 ≤ x) ∧ ∀ x ∈ a.2, 0 ≤ x) fun a r => ∃ tb : List (List Int), r = T.lst (tb.map fun ns => T.row (ns.map .int)) ∧ Tbl a.1.length a.2.length tb) := by
  refine DefAt.pfs (N := ["left", "bears", "web", "v"]) h sc_law_full_table ?_ ?_ fun cdv f A outer s H E hr => ⟨_, (pss_cons (ps_setLc (i := 3) (own := [("v", 4)]) rfl sc_law_full_table.nd rfl rfl (sw_true rfl rfl rfl (by decide +kernel)) (pi_range1 rfl g_range (pa_cons (pe_callB cr_len (by rfl) g_len (by decide +kernel) (pa_cons (pv 1) pa_nil)) pa_nil)) (blkOk_by (own := [("v", 4)]) (N := ["store", "left", "bears", "web", "v"]) (sc := defScope s_law_full_table) (by decide +kernel)) (fun _ _ _ _ _ => pg_name (i := 4) sc_law_full_table.nd rfl (Or.inl rfl)) (fun _ _ _ _ _ => pts_nil) (fun _ _ _ _ _ => (pe_op op_rep (pe_lst (pa_cons pe_bl pa_nil)) (pe_callB (cr_lenB (K := K)) (by rfl) g_len (by decide +kernel) (pa_cons (pv 2) pa_nil)))))
      (pss_one (ps_ret (pe_own D_law_pairing hr (pa_cons (pv 0) (pa_cons (pv 3) (pa_cons (pv 1) (pa_cons (pv 2) (pa_cons pe_bl pa_nil))))))))), ?_⟩
  · rintro n _; rfl
  · rintro n r _ ⟨rs, rfl, _⟩; exact full_rows
  rintro ⟨le, be⟩ ⟨l8, b8, hl, hb⟩ p sl hs
  dsimp only at l8 b8 hl hb
  have ok := okS (n := 5) (A := fun a => a ≠ p) (K := K) hs
  have lle : (le.map D.int).length = le.length := List.length_map _
  have lbe : (be.map D.int).length = be.length := List.length_map _
  walk_at "ev0"
  rw [lle, Int.toNat_natCast]
  refine lcl (fun i acc => acc = (List.replicate i (List.replicate be.length true)).map fun bs => T.row (bs.map .bl)) (by simp) rfl (fun i acc hi hI ha => ?_) fun acc hI _ => ?_
  · walk_at "ev"
    rw [lbe]
    refine vo_rep ok (.own (l := [.bl true])) (by omega) (by omega) (by show 1 * _ ≤ _; omega) ?_
    rw [show (List.replicate (be.length : Int).toNat [D.bl true]).flatten = (List.replicate be.length true).map D.bl by rw [Int.toNat_natCast, rep_one, List.map_replicate]]
    walk_at "ev"
    walk_at "kk"
    rw [hI, List.replicate_succ', List.map_append]
    rfl
  subst hI
  walk_at "eg"
  refine es_fz (i := 3) (d := .lst ((List.replicate le.length (List.replicate be.length true)).map dBs)) (by walk_at "cat") (by
    show D.lst (T.datas _) = _
    rw [T.datas_map, List.map_map]
    congr 1
    exact List.map_congr_left fun bs _ => T.data_row _) (by walk_at "cset") rfl ?_
  walk_at "ev"
  refine ⟨_, (List.replicate le.length (List.replicate be.length true), le, be, true), rfl, .cons (.t rfl) (.cons (.t rfl) (.cons (.t rfl) (.cons (.t rfl) .nil))), ⟨l8, b8, List.length_replicate, fun row hr => by rw [(List.mem_replicate.mp hr).2]; exact List.length_replicate, hl, hb⟩, ?_⟩
  rintro r ⟨tb, rfl, tt⟩
  walk_at "ev"
  exact ⟨tb, rfl, tt⟩
/-! a comprehension with places on the stack that are not of its names -/
section
variable {f : Fr} {m : Bool} {φ ρ ρ' ρ1 τ : List Cell} {us ws : List (Option V)} {σ : St} {H H' : Hp} {i : Nat} {v : V} {x : T} {d : D} {c c1 c2 : Cell} {Φ : Cell → List Cell → Prop} {Ψ : List Cell → Prop} {Φb : Bool → List Cell → Prop} {ΦA : List Cell → List Cell → Prop} {ta tb te to ti : TE} {tr : TA} {tt tu : TT} {t u tbd : TS} {Dn : Pn} {g : TG} {E : Ends} {vl : List Nat}
theorem noPl_app {a b : List Cell} (h : noPl i a) (h' : noPl i b) : noPl i (a ++ b) := fun c hc j p e => (List.mem_append.mp hc).elim (fun z => h c z j p e) fun z => h' c z j p e
theorem noPl_two {i j : Nat} {p : List Nat} {x : T} (h : j ≠ i) : noPl i [Cell.pl j p, .t x] := fun c hc j' p' e => by
  rcases List.mem_cons.mp hc with rfl | hc
  · cases e
    exact h
  · rw [List.mem_singleton.mp hc] at e
    cases e
theorem Wd.wipeP : ∀ {vl : List Nat} {ρ ρ' : List Cell}, Wd f φ us ρ τ σ ws H → KillC vl ρ ρ' → noP ρ = true → (∀ v ∈ vl, noPl v τ) → Wd f φ us ρ' τ (L2.wipe σ vl) ws H ∧ noP ρ' = true
  | [], _, _, W, .nil, h, _ => ⟨W, h⟩
  | v :: vl, ρ, _, W, .cons (ρ1 := ρ1) k s, h, h' => by
    obtain ⟨W1, n1⟩ := W.wipeP k h (fun w hw => h' w (List.mem_cons_of_mem _ hw))
    have W2 := W1.kill s.lt (noP_ok n1) (h' v List.mem_cons_self)
    rw [s.eq] at W2
    refine ⟨W2.any (by rw [← s.eq]; exact List.getElem?_set_self s.lt) none, ?_⟩
    rw [← s.eq]
    clear W W1 W2 k
    have key : ∀ {l : List Cell} {i : Nat}, noP l = true → noP (l.set i .dead) = true := by
      intro l
      induction l with
      | nil => intro i _; rfl
      | cons c l ih =>
        intro i h
        cases i with
        | zero => cases c <;> first | exact h | cases h
        | succ i => cases c <;> first | exact ih h | cases h
    exact key n1
theorem lc_genP (ok : f.Ok) {J : It} {n : Nat} {IC : Nat → Cell} {hd : List Cell} {hv : List (Option V)} (np : ∀ v ∈ vl, noPl v τ) (nh : ∀ v ∈ vl, noPl v hd) (W : Wd f φ us ρ (τ ++ hd) σ (ws ++ hv) H) (hl : τ.length = ws.length) (hn : n ≤ 100000)
    (hJ : ∀ i s' H' ρ' c v, Wd f φ us ρ' ((τ ++ hd) ++ [c]) s' ((ws ++ hv) ++ [some v]) H' → (i < n → J.go i H' ∧ ∀ x H'', J.yld i H' x H'' → Wd f φ us ρ' (((τ ++ hd) ++ [c]) ++ [IC i]) s' (((ws ++ hv) ++ [some v]) ++ [some x]) H'') ∧ (n ≤ i → J.stop i H'))
    (q : LcL f ρ (τ ++ hd) n IC g vl tt te Φ) (Q : VK) (k : ∀ c ρ' v H', Φ c ρ' → Wd f φ us ρ' (τ ++ [c]) σ (ws ++ [some v]) H' → Q v H') : LcG J g tt te vl σ H Q := by
  obtain ⟨IV, hdead, h0, hs, hd'⟩ := q
  intro D hD
  have hl2 : (τ ++ hd).length = (ws ++ hv).length := W.l4
  have np2 : ∀ v ∈ vl, noPl v (τ ++ hd) := fun v hv => noPl_app (np v hv) (nh v hv)
  have npt : ∀ (acc : List T) (v : Nat), v ∈ vl → noPl v ((τ ++ hd) ++ [.t (.lst acc)]) := fun acc v hv => noPl_app (np2 v hv) (noP_ok rfl)
  refine ⟨fun i m H' => m = n - i ∧ i ≤ n ∧ ∃ acc, IV i acc ∧ acc.length ≤ i ∧ Wd f φ us ρ ((τ ++ hd) ++ [.t (.lst acc)]) (L2.wipe σ vl) ((ws ++ hv) ++ [some (.ref D)]) H', ⟨n, by simp, Nat.zero_le _, [], h0, Nat.le_refl _, ?_⟩, ?_⟩
  · have W0 : Wd f φ us ρ ((τ ++ hd) ++ ([] : List T).map Cell.t) σ ((ws ++ hv) ++ ([] : List V).map some) H := by
      rw [List.map_nil, List.append_nil, List.map_nil, List.append_nil]
      exact W
    exact (W0.pack ok hl2 hD true).wipe0 hdead
  rintro i m H1 ⟨rfl, hi, acc, hI, ha, W1⟩
  obtain ⟨hgo, hst⟩ := hJ i _ H1 ρ _ _ W1
  rcases Nat.lt_or_ge i n with lt | ge
  · obtain ⟨g1, g2⟩ := hgo lt
    refine .inr ⟨g1, fun H2 => ∃ acc, IV (i + 1) acc ∧ acc.length ≤ i + 1 ∧ Wd f φ us ρ ((τ ++ hd) ++ [.t (.lst acc)]) (L2.wipe σ vl) ((ws ++ hv) ++ [some (.ref D)]) H2, fun H2 z => ⟨n - (i + 1), by omega, rfl, lt, z⟩, fun y H2 hy => ?_⟩
    have W2 := g2 y H2 hy
    refine hs i acc lt hI ha φ us σ _ H2 y _ (by simp at hl2 ⊢; omega) W2 fun ρ2 s2 H3 q2 es W3 => ⟨es, q2 _ _ _ _ _ _ W3 fun b ρ3 H4 q3 W4 => ?_⟩
    cases b with
    | true =>
      rw [if_pos rfl] at q3 ⊢
      refine q3 _ _ _ _ _ _ W4 fun c ρ4 v4 H5 ⟨x, ec, n4, kl, hI'⟩ W5 => ?_
      subst ec
      obtain ⟨vs, e1, e2, W6⟩ := W5.acc ok hl2
      obtain ⟨W7, _⟩ := W6.wipeP kl n4 (npt _)
      rw [es] at W7
      exact ⟨vs, e1, sz_lt (by omega), _, hI', by simp; omega, W7⟩
    | false =>
      rw [if_neg Bool.false_ne_true] at q3 ⊢
      obtain ⟨n4, kl, hI'⟩ := q3
      obtain ⟨W7, _⟩ := W4.wipeP kl n4 (npt acc)
      rw [es] at W7
      exact ⟨_, hI', by omega, W7⟩
  · obtain rfl : i = n := Nat.le_antisymm hi ge
    refine .inl ⟨hst (Nat.le_refl _), k _ _ _ _ (hd' acc hI ha) ?_⟩
    exact (W1.unwipe hdead W.l2).down hl
theorem ev_lcRP (ok : f.Ok) (np : ∀ v ∈ vl, noPl v τ) (q : EvA f false ρ τ tr fun cs ρ1 => ∃ n : Int, cs = [cI n] ∧ (-(2 ^ 62) ≤ n ∧ n ≤ 100000) ∧ LcL f ρ1 τ n.toNat (fun k => cI (k : Int)) g vl tt te Φ) : Ev f m ρ τ (tLc (iRng1 tr) g tt te vl) Φ := fun φ us σ ws H Q W k => x_lc (x_itR (q φ us σ ws H _ W fun cs ρ1 vs H1 l ⟨n, ec, hn, q1⟩ W1 => by
  subst ec
  obtain rfl := argI W1 W.l4 l
  have W2 := W1.pop W.l4
  refine ⟨n, rfl, hn.1, by omega, lc_genP ok (J := Itr 0 n.toNat) (hd := []) (hv := []) np (fun _ _ => noP_ok rfl) (by rw [List.append_nil, List.append_nil]; exact W2) W.l4 (n := n.toNat) (IC := fun k => cI (k : Int)) (by omega) (fun i s' H' ρ' c v W3 => ⟨fun hi => ⟨hi, fun x H2 ⟨e1, e2⟩ => ?_⟩, fun hi => hi⟩) (by rw [List.append_nil]; exact q1) Q k⟩
  subst e1 e2
  exact W3.scal fun _ _ => by rw [Int.zero_add]; exact .int _))
theorem egc_nameP (s : CSet ρ i (.t x) ρ') (n : noP ρ = true) (n' : noPl i τ) (q : Ψ ρ') : EgC f ρ τ (.t x) (gName i) [i] Ψ := fun φ us σ ws H v qs l W k => by
  have W1 := W.set l s.lt (noP_ok n) n'
  rw [s.eq] at W1
  refine k _ _ _ q ?_ W1
  show ((σ.set i none).set i (some v)).set i none = σ.set i none
  rw [List.set_set, List.set_set]
end
abbrev s_law_web_with : Stmt := topS 80
theorem sc_law_web_with : FnScope ["store", "table", "bears", "web", "row", "x"] ["store", "table", "bears"] (defScope s_law_web_with) := ⟨rfl, rfl, rfl, by decide +kernel, rfl, by decide +kernel, by decide +kernel⟩
--DEF _law_web_with
abbrev eWw : List (List Int) × List Int → List D := fun a => [dIss a.1, dIs a.2]
set_option maxHeartbeats 4000000 in
theorem ok_law_web_with (h : DefAt K mg "_law_web_with" ["store", "table", "bears"] s_law_web_with) (g_len : mg "len" = none) (g_range : mg "range" = none) (D_law_take : Okk P w K mg base CX0 k "_law_take" ["store", "many"] spTake) :
    Okk P w K mg base CX0 (k + 1) "_law_web_with" ["store", "table", "bears"] (PFS K eWw (fun a => a.1.length ≤ 8 ∧ a.2.length ≤ 8 ∧ ∀ row ∈ a.1, row.length = a.2.length) fun a r => ∃ ws : List (List Bool), r = T.lst (ws.map fun bs => T.row (bs.map .bl)) ∧ ws.length = a.1.length ∧ ∀ row ∈ ws, row.length = a.2.length) := by
  refine DefAt.pfs (N := ["table", "bears", "web", "row", "x"]) h sc_law_web_with ?_ ?_ fun cdv f A outer s H E hr => ⟨_, (pss_cons (ps_set (i := 3) sc_law_web_with.nd rfl (Or.inl rfl) (pe_lst pa_nil))
      (pss_cons (ps_for PassesOwn.never rfl (pi_list (pv 1)) (pg_name (i := 4) sc_law_web_with.nd rfl (Or.inr rfl))
        (pss_one (ps_expr (pe_bm PySem.F.plainAttrs_list PySem.F.slot_list_append PySem.F.type_list_append mt_append (pv 3) (pa_cons (pe_lc (own := [("x", 5)]) rfl sc_law_web_with.nd (pi_range1 rfl g_range (pa_cons (pe_callB cr_len (by rfl) g_len (by decide +kernel) (pa_cons (pv 4) pa_nil)) pa_nil)) (blkOk_by (own := [("x", 5)]) (N := ["store", "table", "bears", "web", "row", "x"]) (sc := defScope s_law_web_with) (by decide +kernel)) (fun _ _ _ _ _ => pg_name (i := 5) sc_law_web_with.nd rfl (Or.inl rfl)) (fun _ _ _ _ _ => pts_nil) (fun _ _ _ _ _ => (pe_or (pe_cmpR op_gt (pe_ix (ix_listB (K := K)) (pv 4) (pv 5) (fun _ _ => rfl)) pe_int (nomark _)) (pe_one (pe_and (pe_cmpR op_gt (pe_ix (ix_listB (K := K)) (pv 2) (pv 5) (fun _ _ => rfl)) pe_int (nomark _)) (pe_one (pe_cmpR op_eq (pe_own D_law_take hr (pa_cons (pv 0) (pa_cons pe_int pa_nil))) pe_int (nomark _)))))))) pa_nil)))))
      (pss_one (ps_ret (pv 3))))), ?_⟩
  · rintro n _; rfl
  · rintro n r _ ⟨ws, rfl, _⟩
    exact T.fullL_all fun t ht => by
      obtain ⟨bs, _, rfl⟩ := List.mem_map.mp ht
      exact full_row fun d hd => by obtain ⟨b, _, rfl⟩ := List.mem_map.mp hd; rfl
  rintro ⟨tb, be⟩ ⟨t8, b8, hc⟩ p sl hs
  dsimp only at t8 b8 hc
  have ok := okS (n := 6) (A := fun a => a ≠ p) (K := K) hs
  walk_at "ev0"
  rw [List.length_map]
  refine loopK [4, 5] (fun i ρ => ∃ ws : List (List Bool), ρ = [.sto, cD (dIss tb), cD (dIs be), .t (.lst (ws.map fun bs => T.row (bs.map .bl))), .dead, .dead] ∧ ws.length = i ∧ ∀ row ∈ ws, row.length = be.length) ⟨[], rfl, rfl, by simp⟩ ?_ ?_
  · rintro i ρ hi ⟨ws, rfl, w1, w2⟩
    rw [dIss_get hi]
    have rl := hc _ (List.getElem_mem hi)
    generalize tb[i] = row at *
    have i8 : i < 8 := by omega
    have n5 : ∀ v ∈ [5], noPl v [Cell.pl 3 []] := fun v hv => by rw [List.mem_singleton.mp hv]; exact noPl_one (by decide)
    walk_at "ev"
    refine ev_lcRP ok n5 ?_
    walk_at "ev"
    rw [List.length_map, Int.toNat_natCast]
    refine lcl (fun j acc => ∃ bs : List Bool, acc = bs.map (fun b => T.d (.bl b)) ∧ bs.length = j) (by simp) ⟨[], rfl, rfl⟩ (fun j acc hj hI ha => ?_) fun acc hI _ => ?_
    · obtain ⟨bs, rfl, q1⟩ := hI
      have jb : j < be.length := by omega
      have fin : ∀ b : Bool, ∃ bs' : List Bool, bs.map (fun b => T.d (.bl b)) ++ [T.d (.bl b)] = bs'.map (fun b => T.d (.bl b)) ∧ bs'.length = j + 1 := fun b => ⟨bs ++ [b], by rw [List.map_append]; rfl, by rw [List.length_append, q1]; rfl⟩
      refine egc_nameP (by walk_at "cset") rfl (noPl_two (by decide)) ?_
      walk_at "ev"
      refine vo_ixL (by walk_at "leaf") (dIs_at hj) ?_
      walk_at "ev"
      refine x_dec (fun z => ?_) (fun z => ?_)
      · walk_at "ev"
        walk_at "kk"
        exact fin _
      walk_at "ev"
      refine vo_ixL (by walk_at "leaf") (dIs_at jb) ?_
      walk_at "ev"
      refine x_dec (fun z => ?_) (fun z => ?_)
      · walk_at "ev"
        intro c c0 _ c1
        walk_at "ev"
        walk_at "kk"
        exact fin _
      · walk_at "ev"
        walk_at "kk"
        exact fin _
    · obtain ⟨bs, rfl, q1⟩ := hI
      rw [show T.lst (bs.map fun b => T.d (.bl b)) = T.row (bs.map .bl) by show _ = T.lst (List.map _ (List.map _ _)); rw [List.map_map]; rfl]
      walk_at "ev"
      walk_at "kl"
      refine ⟨ws ++ [bs], by rw [List.map_append]; rfl, by rw [List.length_append, w1]; rfl, fun r hr => ?_⟩
      rcases List.mem_append.mp hr with hr | hr
      · exact w2 r hr
      · rw [List.mem_singleton.mp hr]
        omega
  · rintro ρ ⟨ws, rfl, w1, w2⟩
    have m3 : Mv 3 := .mk
    walk_at "ev"
    exact ⟨ws, rfl, w1, w2⟩
/-- rows of ranks -/
def RkRows (a b : Nat) (rs : List (List Int)) : Prop := rs.length = a ∧ ∀ r ∈ rs, r.length = b ∧ ∀ x ∈ r, 0 ≤ x ∧ x ≤ 1000000
abbrev s_law_ranks : Stmt := topS 83
theorem sc_law_ranks : FnScope ["store", "parties", "names", "rows", "v", "kind", "row", "x"] ["store", "parties", "names"] (defScope s_law_ranks) := ⟨rfl, rfl, rfl, by decide +kernel, rfl, by decide +kernel, by decide +kernel⟩
--DEF _law_ranks
abbrev eRk : Nat × Nat → List D := fun a => [.int (a.1 : Int), .int (a.2 : Int)]
set_option maxHeartbeats 4000000 in
theorem ok_law_ranks (h : DefAt K mg "_law_ranks" ["store", "parties", "names"] s_law_ranks) (g_list : mg "list" = none) (g_range : mg "range" = none) (D_law_take : Okk P w K mg base CX0 k "_law_take" ["store", "many"] spTake) (D_law_near_ends : Okk P w K mg base CX0 k "_law_near_ends" ["store", "low", "high"] spNear)
    (D_law_order : Okk P w K mg base CX0 k "_law_order" ["store", "many"] (PFS K e1I (inR 0 1300) fun n r => ∃ ms : List Int, r = T.row (ms.map .int) ∧ ms.Perm (upto 0 n))) :
    Okk P w K mg base CX0 (k + 1) "_law_ranks" ["store", "parties", "names"] (PFS K eRk (fun a => (1 ≤ a.1 ∧ a.1 ≤ 8) ∧ 1 ≤ a.2 ∧ a.2 ≤ 8) fun a r => ∃ rs : List (List Int), r = T.lst (rs.map fun ns => T.row (ns.map .int)) ∧ RkRows a.1 a.2 rs) := by
  refine DefAt.pfs (N := ["parties", "names", "rows", "v", "kind", "row", "x"]) h sc_law_ranks ?_ ?_ fun cdv f A outer s H E hr => ⟨_, (pss_cons (ps_set (i := 3) sc_law_ranks.nd rfl (Or.inl rfl) (pe_lst pa_nil))
      (pss_cons (ps_for PassesOwn.never rfl (pi_range1 rfl g_range (pa_cons (pv 1) pa_nil)) (pg_name (i := 4) sc_law_ranks.nd rfl (Or.inl rfl))
        (pss_cons (ps_set (i := 5) sc_law_ranks.nd rfl (Or.inl rfl) (pe_own D_law_take hr (pa_cons (pv 0) (pa_cons pe_int pa_nil))))
        (pss_cons (ps_set (i := 6) sc_law_ranks.nd rfl (Or.inl rfl) (pe_own D_law_order hr (pa_cons (pv 0) (pa_cons (pv 2) pa_nil))))
        (pss_cons (ps_if (pt_cmpR op_eq (pv 5) pe_int (nomark _)) (pss_one (ps_setLc (i := 6) (own := [("x", 7)]) rfl sc_law_ranks.nd rfl rfl (sw_true rfl rfl rfl (by decide +kernel)) (pi_range1 rfl g_range (pa_cons (pv 2) pa_nil)) (blkOk_by (own := [("x", 7)]) (N := ["store", "parties", "names", "rows", "v", "kind", "row", "x"]) (sc := defScope s_law_ranks) (by decide +kernel)) (fun _ _ _ _ _ => pg_name (i := 7) sc_law_ranks.nd rfl (Or.inl rfl)) (fun _ _ _ _ _ => pts_nil) (fun _ _ _ _ _ => (pe_own D_law_take hr (pa_cons (pv 0) (pa_cons pe_int pa_nil)))))) pss_nil)
        (pss_cons (ps_if (pt_cmpR op_eq (pv 5) pe_int (nomark _)) (pss_one (ps_setLc (i := 6) (own := [("x", 7)]) rfl sc_law_ranks.nd rfl rfl (sw_true rfl rfl rfl (by decide +kernel)) (pi_range1 rfl g_range (pa_cons (pv 2) pa_nil)) (blkOk_by (own := [("x", 7)]) (N := ["store", "parties", "names", "rows", "v", "kind", "row", "x"]) (sc := defScope s_law_ranks) (by decide +kernel)) (fun _ _ _ _ _ => pg_name (i := 7) sc_law_ranks.nd rfl (Or.inl rfl)) (fun _ _ _ _ _ => pts_nil) (fun _ _ _ _ _ => (pe_own D_law_near_ends hr (pa_cons (pv 0) (pa_cons pe_int (pa_cons pe_int pa_nil))))))) pss_nil)
        (pss_cons (ps_if (PW.pt (pw_and (pt_cmpR op_eq (pv 5) pe_int (nomark _)) (pw_and1 (pt_cmpR op_gt (pv 4) pe_int (nomark _))))) (pss_one (ps_set (i := 6) sc_law_ranks.nd rfl (Or.inl rfl) (pe_callTy cr_list (by rfl) g_list (by decide +kernel) (pa_cons (pe_ix ix_list (pv 3) pe_int (fun _ _ => rfl)) pa_nil)))) pss_nil)
        (pss_one (ps_expr (pe_bm PySem.F.plainAttrs_list PySem.F.slot_list_append PySem.F.type_list_append mt_append (pv 3) (pa_cons (pv 6) pa_nil))))))))))
      (pss_one (ps_ret (pv 3))))), ?_⟩
  · rintro n _; rfl
  · rintro n r _ ⟨rs, rfl, _⟩; exact full_rows
  rintro ⟨np, nn⟩ ⟨p8, n1, n8⟩ p sl hs
  dsimp only at p8 n1 n8
  have ok := okS (n := 8) (A := fun a => a ≠ p) (K := K) hs
  walk_at "ev0"
  refine loopK [4, 5, 6, 7] (fun i ρ => ∃ rs : List (List Int), ρ = [.sto, cI np, cI nn, .t (.lst (rs.map fun ns : List Int => T.row (ns.map .int))), .dead, .dead, .dead, .dead] ∧ RkRows i nn rs) ⟨[], rfl, rfl, by simp⟩ ?_ ?_
  · rintro i ρ hi ⟨rs, rfl, q1, q2⟩
    have i8 : i < 8 := by omega
    walk_at "ev"
    intro kd k0 _ k1
    walk_at "ev"
    refine ⟨by show (0 : Int) ≤ _ ∧ _; omega, ?_⟩
    rintro r ⟨od, rfl, hp⟩
    have ol : od.length = nn := by rw [hp.length_eq, upto_length]; omega
    have ob : ∀ x ∈ od, 0 ≤ x ∧ x ≤ 1000000 := fun x hx => by have := mem_upto.mp (hp.mem_iff.mp hx); omega
    walk_at "eg"
    refine es_cut (fun ρ => ∃ row : List Int, ρ = [.sto, cI np, cI nn, .t (.lst (rs.map fun ns : List Int => T.row (ns.map .int))), cI (i : Int), cI kd, .t (.row (row.map .int)), .dead] ∧ row.length = nn ∧ ∀ x ∈ row, 0 ≤ x ∧ x ≤ 1000000) ?_ ?_
    · walk_at "ev"
      refine x_dec (fun z => ?_) (fun z => ?_)
      · walk_at "ev"
        rw [Int.toNat_natCast]
        refine lcl (fun j acc => ∃ row : List Int, acc = row.map (fun y => T.d (.int y)) ∧ row.length = j ∧ ∀ x ∈ row, 0 ≤ x ∧ x ≤ 1000000) (by simp) ⟨[], rfl, rfl, by simp⟩ (fun j acc hj hI ha => ?_) fun acc hI _ => ?_
        · obtain ⟨row, rfl, l1, l2⟩ := hI
          walk_at "ev"
          intro c c0 _ c1
          have c1 := c1 (by decide)
          walk_at "ev"
          walk_at "kk"
          refine ⟨row ++ [c], by rw [List.map_append]; rfl, by rw [List.length_append, l1]; rfl, fun x hx => ?_⟩
          rcases List.mem_append.mp hx with hx | hx
          · exact l2 x hx
          · rw [List.mem_singleton.mp hx]
            omega
        · obtain ⟨row, rfl, l1, l2⟩ := hI
          rw [row_map]
          walk_at "ev"
          exact ⟨row, rfl, l1, l2⟩
      · walk_at "ev"
        exact ⟨od, rfl, ol, ob⟩
    rintro ρ ⟨row, rfl, l1, l2⟩
    refine es_cut (fun ρ => ∃ row : List Int, ρ = [.sto, cI np, cI nn, .t (.lst (rs.map fun ns : List Int => T.row (ns.map .int))), cI (i : Int), cI kd, .t (.row (row.map .int)), .dead] ∧ row.length = nn ∧ ∀ x ∈ row, 0 ≤ x ∧ x ≤ 1000000) ?_ ?_
    · walk_at "ev"
      refine x_dec (fun z => ?_) (fun z => ?_)
      · walk_at "ev"
        rw [Int.toNat_natCast]
        refine lcl (fun j acc => ∃ row : List Int, acc = row.map (fun y => T.d (.int y)) ∧ row.length = j ∧ ∀ x ∈ row, 0 ≤ x ∧ x ≤ 1000000) (by simp) ⟨[], rfl, rfl, by simp⟩ (fun j acc hj hI ha => ?_) fun acc hI _ => ?_
        · obtain ⟨row, rfl, l1, l2⟩ := hI
          walk_at "ev"
          intro c c0 c1 _
          have c1 := c1 (by decide)
          walk_at "ev"
          walk_at "kk"
          refine ⟨row ++ [c], by rw [List.map_append]; rfl, by rw [List.length_append, l1]; rfl, fun x hx => ?_⟩
          rcases List.mem_append.mp hx with hx | hx
          · exact l2 x hx
          · rw [List.mem_singleton.mp hx]
            omega
        · obtain ⟨row, rfl, l1, l2⟩ := hI
          rw [row_map]
          walk_at "ev"
          exact ⟨row, rfl, l1, l2⟩
      · walk_at "ev"
        exact ⟨row, rfl, l1, l2⟩
    clear l1 l2 row
    rintro ρ ⟨row, rfl, l1, l2⟩
    refine es_cut (fun ρ => ∃ row : List Int, ρ = [.sto, cI np, cI nn, .t (.lst (rs.map fun ns : List Int => T.row (ns.map .int))), cI (i : Int), cI kd, .t (.row (row.map .int)), .dead] ∧ row.length = nn ∧ ∀ x ∈ row, 0 ≤ x ∧ x ≤ 1000000) ?_ ?_
    · walk_at "ev"
      refine x_dec (fun z => ?_) (fun z => ?_)
      · walk_at "ev"
        refine x_dec (fun z2 => ?_) (fun z2 => ?_)
        · have r0 : 0 < rs.length := by omega
          walk_at "ev"
          refine vo_ixPl (n := 0) (by walk_at "cat") rfl (by rw [List.length_map]; exact ixN_at r0) (by rw [List.getElem?_map, List.getElem?_eq_getElem r0]; rfl) rfl ?_
          walk_at "ev"
          refine vo_listL ok (l := rs[0].map .int) (.pl rfl (T.at_app (p := []) (x := T.lst (rs.map fun ns : List Int => T.row (ns.map .int))) (i := 0) rfl (by rw [List.getElem?_map, List.getElem?_eq_getElem r0]; rfl))) ?_
          walk_at "ev"
          exact ⟨rs[0], rfl, (q2 _ (List.getElem_mem r0)).1, (q2 _ (List.getElem_mem r0)).2⟩
        · walk_at "ev"
          exact ⟨row, rfl, l1, l2⟩
      · walk_at "ev"
        exact ⟨row, rfl, l1, l2⟩
    clear l1 l2 row
    rintro ρ ⟨row, rfl, l1, l2⟩
    have m6 : Mv 6 := .mk
    walk_at "ev"
    refine ev_var_mvP (by walk_at "cat") (by walk_at "cset") rfl (noPl_one (by decide)) ?_
    walk_at "ev"
    walk_at "kl"
    refine ⟨rs ++ [row], by rw [List.map_append]; rfl, by rw [List.length_append, q1]; rfl, fun r hr => ?_⟩
    rcases List.mem_append.mp hr with hr | hr
    · exact q2 r hr
    · rw [List.mem_singleton.mp hr]
      exact ⟨l1, l2⟩
  · rintro ρ ⟨rs, rfl, q⟩
    have m3 : Mv 3 := .mk
    walk_at "ev"
    exact ⟨rs, rfl, by simpa using q⟩
theorem sum_perm : ∀ {a b : List Int}, a.Perm b → a.sum = b.sum
  | _, _, .nil => rfl
  | _, _, .cons x h => by rw [List.sum_cons, List.sum_cons, sum_perm h]
  | _, _, .swap x y l => by simp only [List.sum_cons]; omega
  | _, _, .trans h h' => (sum_perm h).trans (sum_perm h')
abbrev s_law_parts : Stmt := topS 73
theorem sc_law_parts : FnScope ["store", "total", "many", "most", "kind", "rest_of", "row", "k", "low", "high", "part"] ["store", "total", "many", "most"] (defScope s_law_parts) := ⟨rfl, rfl, rfl, by decide +kernel, rfl, by decide +kernel, by decide +kernel⟩
--DEF _law_parts
abbrev e3I : Int × Int × Int → List D := fun n => [.int n.1, .int n.2.1, .int n.2.2]
theorem ok_law_parts (h : DefAt K mg "_law_parts" ["store", "total", "many", "most"] s_law_parts) (g_range : mg "range" = none) (g_max : mg "max" = none) (g_min : mg "min" = none) (D_law_take : Okk P w K mg base CX0 k "_law_take" ["store", "many"] spTake) (D_law_between : Okk P w K mg base CX0 k "_law_between" ["store", "low", "high"] spBetween) (D_law_shuffled : Okk P w K mg base CX0 k "_law_shuffled" ["store", "row"] (spShuf K)) :
    Okk P w K mg base CX0 (k + 1) "_law_parts" ["store", "total", "many", "most"] (PFS K e3I (fun a => 0 ≤ a.1 ∧ a.1 ≤ a.2.2 * a.2.1 ∧ 1 ≤ a.2.1 ∧ a.2.1 ≤ 1000 ∧ 0 ≤ a.2.2 ∧ a.2.2 ≤ 10 ^ 15) fun a r => ∃ ms : List Int, r = T.row (ms.map .int) ∧ (ms.length : Int) = a.2.1 ∧ ms.sum = a.1 ∧ ∀ x ∈ ms, 0 ≤ x ∧ x ≤ a.2.2) := by
  refine DefAt.pfs (N := ["total", "many", "most", "kind", "rest_of", "row", "k", "low", "high", "part"]) h sc_law_parts ?_ ?_ fun cdv f A outer s H E hr => ⟨_, (pss_cons (ps_set (i := 4) sc_law_parts.nd rfl (Or.inl rfl) (pe_own D_law_take hr (pa_cons (pv 0) (pa_cons pe_int pa_nil))))
      (pss_cons (ps_set (i := 5) sc_law_parts.nd rfl (Or.inl rfl) (pv 1))
      (pss_cons (ps_set (i := 6) sc_law_parts.nd rfl (Or.inl rfl) (pe_lst pa_nil))
      (pss_cons (ps_for PassesOwn.never rfl (pi_range1 rfl g_range (pa_cons (pv 2) pa_nil)) (pg_name (i := 7) sc_law_parts.nd rfl (Or.inl rfl))
        (pss_cons (ps_set (i := 8) sc_law_parts.nd rfl (Or.inl rfl) (pe_callB (cr_max2 rfl) (by rfl) g_max (by decide +kernel) (pa_cons pe_int (pa_cons (pe_op op_sub (pv 5) (pe_op op_mul (pv 3) (pe_op op_sub (pe_op op_sub (pv 2) pe_int) (pv 7)))) pa_nil))))
        (pss_cons (ps_set (i := 9) sc_law_parts.nd rfl (Or.inl rfl) (pe_callB (cr_min2 rfl) (by rfl) g_min (by decide +kernel) (pa_cons (pv 3) (pa_cons (pv 5) pa_nil))))
        (pss_cons (ps_set (i := 10) sc_law_parts.nd rfl (Or.inl rfl) (pv 9))
        (pss_cons (ps_if (pt_cmpR op_eq (pv 4) pe_int (nomark _)) (pss_one (ps_set (i := 10) sc_law_parts.nd rfl (Or.inl rfl) (pe_callB (cr_max2 rfl) (by rfl) g_max (by decide +kernel) (pa_cons (pv 8) (pa_cons (pe_callB (cr_min2 rfl) (by rfl) g_min (by decide +kernel) (pa_cons (pv 9) (pa_cons (pe_op op_fdiv (pv 5) (pe_op op_sub (pv 2) (pv 7))) pa_nil))) pa_nil))))) pss_nil)
        (pss_cons (ps_if (pt_cmpR op_eq (pv 4) pe_int (nomark _)) (pss_one (ps_set (i := 10) sc_law_parts.nd rfl (Or.inl rfl) (pe_own D_law_between hr (pa_cons (pv 0) (pa_cons (pv 8) (pa_cons (pv 9) pa_nil)))))) pss_nil)
        (pss_cons (ps_expr (pe_bm PySem.F.plainAttrs_list PySem.F.slot_list_append PySem.F.type_list_append mt_append (pv 6) (pa_cons (pv 10) pa_nil)))
        (pss_one (ps_set (i := 5) sc_law_parts.nd rfl (Or.inl rfl) (pe_op op_sub (pv 5) (pv 10)))))))))))
      (pss_one (ps_ret (pe_own D_law_shuffled hr (pa_cons (pv 0) (pa_cons (pv 6) pa_nil))))))))), ?_⟩
  · rintro n _; rfl
  · rintro n r _ ⟨ms, rfl, _⟩; exact full_ints
  rintro ⟨tot, many, most⟩ ⟨h1, h2, h3, h4, h5, h6⟩ p sl hs
  dsimp only at h1 h2 h3 h4 h5 h6
  have ok := okS (n := 11) (A := fun a => a ≠ p) (K := K) hs
  walk_at "ev0"
  intro kind _ _ _
  walk_at "ev"
  refine loopK [7, 8, 9, 10] (fun i ρ => ∃ (rest : Int) (ms : List Int), ρ = [.sto, cI tot, cI many, cI most, cI kind, cI rest, .t (.row (ms.map .int)), .dead, .dead, .dead, .dead] ∧ ms.length = i ∧ 0 ≤ rest ∧ rest ≤ most * (many - i) ∧ ms.sum + rest = tot ∧ ∀ x ∈ ms, 0 ≤ x ∧ x ≤ most) ⟨tot, [], rfl, rfl, h1, by simpa using h2, by simp, by simp⟩ ?_ ?_
  · rintro i ρ hi ⟨rest, ms, rfl, hl, r1, r2, r3, r4⟩
    have hi' : (i : Int) + 1 ≤ many := by omega
    have r5 : most * (many - i) = most * (many - 1 - i) + most := by
      rw [show many - (i : Int) = (many - 1 - i) + 1 by omega, Int.mul_add, Int.mul_one]
    have b0 : 0 ≤ most * (many - 1 - i) := Int.mul_nonneg h5 (by omega)
    have fin_ : ∀ part : Int, 0 ≤ part → part ≤ most → part ≤ rest → rest - most * (many - 1 - i) ≤ part → ∃ (rest' : Int) (ms' : List Int), [Cell.sto, cI tot, cI many, cI most, cI kind, cI (rest - part), .t (.row (ms.map .int ++ [.int part])), .dead, .dead, .dead, .dead] = [.sto, cI tot, cI many, cI most, cI kind, cI rest', .t (.row (ms'.map .int)), .dead, .dead, .dead, .dead] ∧ ms'.length = i + 1 ∧ 0 ≤ rest' ∧ rest' ≤ most * (many - ((i + 1 : Nat) : Int)) ∧ ms'.sum + rest' = tot ∧ ∀ x ∈ ms', 0 ≤ x ∧ x ≤ most := fun part p1 p2 p3 p4 => by
      refine ⟨rest - part, ms ++ [part], by rw [List.map_append]; rfl, by simp [hl], by omega, ?_, by rw [List.sum_append, List.sum_singleton]; omega, fun x hx => ?_⟩
      · rw [show many - ((i + 1 : Nat) : Int) = many - 1 - i by omega]
        omega
      · rcases List.mem_append.mp hx with hx | hx
        · exact r4 x hx
        · rw [List.mem_singleton.mp hx]
          exact ⟨p1, p2⟩
    walk_at "ev"
    generalize most * (many - 1 - (i : Int)) = need at *
    generalize most * (many - (i : Int)) = all at *
    have hlow : ∃ low : Int, (if rest - need > 0 then rest - need else 0) = low ∧ 0 ≤ low ∧ rest - need ≤ low ∧ low ≤ rest ∧ low ≤ most := ⟨_, rfl, by split <;> omega, by split <;> omega, by split <;> omega, by split <;> omega⟩
    obtain ⟨low, el, w1, w2, w3, w4⟩ := hlow
    have hhigh : ∃ high : Int, (if rest < most then rest else most) = high ∧ low ≤ high ∧ high ≤ rest ∧ high ≤ most := ⟨_, rfl, by split <;> omega, by split <;> omega, by split <;> omega⟩
    obtain ⟨high, eh, w5, w6, w7⟩ := hhigh
    rw [el, eh]
    refine x_dec (fun _ => ?_) (fun _ => ?_)
    · walk_at "ev"
      refine vo_I ⟨by omega, by omega⟩ (.int _) ?_
      generalize rest / (many - (i : Int)) = share
      walk_at "ev"
      have hp : ∃ part : Int, (if (if share < high then share else high) > low then (if share < high then share else high) else low) = part ∧ low ≤ part ∧ part ≤ high := ⟨_, rfl, by split <;> split <;> omega, by split <;> split <;> omega⟩
      obtain ⟨part, ep, p1, p2⟩ := hp
      rw [ep]
      refine x_dec (fun _ => ?_) (fun _ => ?_)
      · walk_at "ev"
        intro d d1 d2 d3
        walk_at "ev"
        walk_at "kl"
        exact fin_ d (by omega) (by omega) (by omega) (by omega)
      · walk_at "ev"
        walk_at "kl"
        exact fin_ part (by omega) (by omega) (by omega) (by omega)
    · walk_at "ev"
      refine x_dec (fun _ => ?_) (fun _ => ?_)
      · walk_at "ev"
        intro d d1 d2 d3
        walk_at "ev"
        walk_at "kl"
        exact fin_ d (by omega) (by omega) (by omega) (by omega)
      · walk_at "ev"
        walk_at "kl"
        exact fin_ high (by omega) (by omega) (by omega) (by omega)
  · rintro ρ ⟨rest, ms, rfl, hl, r1, r2, r3, r4⟩
    have e : rest = 0 := by
      rw [show many - ((many.toNat : Nat) : Int) = 0 by omega, Int.mul_zero] at r2
      omega
    walk_at "ev"
    intro ns pe
    walk_at "ev"
    refine ⟨_, rfl, ?_, ?_, fun x hx => r4 x (pe.mem_iff.mp hx)⟩
    · rw [pe.length_eq, hl]
      exact Int.toNat_of_nonneg (by omega)
    · rw [sum_perm pe]
      omega
theorem mem_le_sum : ∀ {ms : List Int}, (∀ x ∈ ms, 0 ≤ x) → ∀ x ∈ ms, x ≤ ms.sum
  | [], _, _, h => by cases h
  | y :: l, h, x, hx => by
    have hl : ∀ z ∈ l, 0 ≤ z := fun z hz => h z (List.mem_cons_of_mem _ hz)
    have hy := h y List.mem_cons_self
    have ih := mem_le_sum hl
    have s0 : 0 ≤ l.sum := by
      clear ih hx h hy
      induction l with
      | nil => exact Int.le_refl _
      | cons z m ihm =>
        have := ihm fun w hw => hl w (List.mem_cons_of_mem _ hw)
        have := hl z List.mem_cons_self
        rw [List.sum_cons]
        omega
    rw [List.sum_cons]
    rcases List.mem_cons.mp hx with rfl | hx
    · omega
    · have := ih x hx
      omega
theorem zip_sum : ∀ {a b : List Int}, a.length = b.length → (List.zipWith (· + ·) a b).sum = a.sum + b.sum
  | [], [], _ => rfl
  | [], _ :: _, h => by cases h
  | _ :: _, [], h => by cases h
  | x :: a, y :: b, h => by
    have ih := zip_sum (a := a) (b := b) (by simpa using h)
    show ((x + y) :: List.zipWith (· + ·) a b : List Int).sum = _
    rw [List.sum_cons, List.sum_cons, List.sum_cons, ih]
    omega
theorem mem_zip {a b : List Int} {x : Int} (h : x ∈ List.zipWith (· + ·) a b) : ∃ y ∈ a, ∃ z ∈ b, x = y + z := by
  obtain ⟨i, hi, rfl⟩ := List.mem_iff_getElem.mp h
  rw [List.length_zipWith] at hi
  rw [List.getElem_zipWith]
  exact ⟨_, List.getElem_mem (by omega), _, List.getElem_mem (by omega), rfl⟩
theorem set_ints {l : List Int} {j : Nat} {c : Int} : (l.map D.int).set j (.int c) = (l.set j c).map D.int := by rw [List.map_set]
theorem rep_zero (n : Nat) : (List.replicate (n : Int).toNat [D.int 0]).flatten = (List.replicate n (0 : Int)).map D.int := by rw [Int.toNat_natCast, rep_one, List.map_replicate]
theorem rep_false (n : Nat) : (List.replicate (n : Int).toNat [D.bl false]).flatten = (List.replicate n false).map D.bl := by rw [Int.toNat_natCast, rep_one, List.map_replicate]
theorem sum_small : ∀ {bs : List Int}, (∀ x ∈ bs, 0 ≤ x ∧ x ≤ 1) → 0 ≤ bs.sum ∧ bs.sum ≤ bs.length
  | [], _ => ⟨Int.le_refl _, Int.le_refl _⟩
  | y :: l, h => by
    have h1 := sum_small (bs := l) fun x hx => h x (List.mem_cons_of_mem y hx)
    have h2 := h y List.mem_cons_self
    rw [List.sum_cons, List.length_cons]
    omega
abbrev s_law_world : Stmt := topS 84
theorem sc_law_world : FnScope ["store", "kind", "parties", "names", "bears", "more", "top", "parts", "left", "x"] ["store"] (defScope s_law_world) := ⟨rfl, rfl, rfl, by decide +kernel, rfl, by decide +kernel, by decide +kernel⟩
--DEF _law_world
set_option maxHeartbeats 8000000 in
theorem ok_law_world (h : DefAt K mg "_law_world" ["store"] s_law_world) (g_range : mg "range" = none) (g_int : mg "int" = none) (g_min : mg "min" = none) (g_sum : mg "sum" = none) (D_law_take : Okk P w K mg base CX0 k "_law_take" ["store", "many"] spTake) (D_law_pick : Okk P w K mg base CX0 k "_law_pick" ["store", "row"] (spPick K)) (D_law_near_ends : Okk P w K mg base CX0 k "_law_near_ends" ["store", "low", "high"] spNear) (D_law_between : Okk P w K mg base CX0 k "_law_between" ["store", "low", "high"] spBetween)
    (D_law_parts : Okk P w K mg base CX0 k "_law_parts" ["store", "total", "many", "most"] (PFS K e3I (fun a => 0 ≤ a.1 ∧ a.1 ≤ a.2.2 * a.2.1 ∧ 1 ≤ a.2.1 ∧ a.2.1 ≤ 1000 ∧ 0 ≤ a.2.2 ∧ a.2.2 ≤ 10 ^ 15) fun a r => ∃ ms : List Int, r = T.row (ms.map .int) ∧ (ms.length : Int) = a.2.1 ∧ ms.sum = a.1 ∧ ∀ x ∈ ms, 0 ≤ x ∧ x ≤ a.2.2))
    (D_law_ranks : Okk P w K mg base CX0 k "_law_ranks" ["store", "parties", "names"] (PFS K eRk (fun a => (1 ≤ a.1 ∧ a.1 ≤ 8) ∧ 1 ≤ a.2 ∧ a.2 ≤ 8) fun a r => ∃ rs : List (List Int), r = T.lst (rs.map fun ns => T.row (ns.map .int)) ∧ RkRows a.1 a.2 rs)) :
    Okk P w K mg base CX0 (k + 1) "_law_world" ["store"] (PFSA K e0U (fun _ => True) fun _ r => ∃ m : Mo, m.Sh ∧ 1 ≤ m.left.sum ∧ r.data = moD m) := by
  refine DefAt.pfsa (N := ["kind", "parties", "names", "bears", "more", "top", "parts", "left", "x"]) h sc_law_world ?_ fun cdv f A outer s H E hr => ⟨_, (pss_cons (ps_set (i := 1) sc_law_world.nd rfl (Or.inl rfl) (pe_own D_law_take hr (pa_cons (pv 0) (pa_cons pe_int pa_nil))))
      (pss_cons (ps_set (i := 2) sc_law_world.nd rfl (Or.inl rfl) (pe_op op_add pe_int (pe_own D_law_take hr (pa_cons (pv 0) (pa_cons (pe_own D_law_pick hr (pa_cons (pv 0) (pa_cons (pe_lst (pa_cons pe_int (pa_cons pe_int (pa_cons pe_int pa_nil)))) pa_nil))) pa_nil)))))
      (pss_cons (ps_set (i := 3) sc_law_world.nd rfl (Or.inl rfl) (pe_op op_add pe_int (pe_own D_law_take hr (pa_cons (pv 0) (pa_cons (pe_own D_law_pick hr (pa_cons (pv 0) (pa_cons (pe_lst (pa_cons pe_int (pa_cons pe_int (pa_cons pe_int pa_nil)))) pa_nil))) pa_nil)))))
      (pss_cons (ps_if (pt_cmpR op_eq (pv 1) pe_int (nomark _)) (pss_cons (ps_set (i := 2) sc_law_world.nd rfl (Or.inl rfl) (pe_op op_sub pe_int (pe_own D_law_take hr (pa_cons (pv 0) (pa_cons pe_int pa_nil)))))
        (pss_one (ps_set (i := 3) sc_law_world.nd rfl (Or.inl rfl) (pe_op op_sub pe_int (pe_own D_law_take hr (pa_cons (pv 0) (pa_cons pe_int pa_nil))))))) pss_nil)
      (pss_cons (ps_set (i := 4) sc_law_world.nd rfl (Or.inr rfl) (pe_lc (own := [("x", 9)]) rfl sc_law_world.nd (pi_range1 rfl g_range (pa_cons (pv 3) pa_nil)) (blkOk_by (own := [("x", 9)]) (N := ["store", "kind", "parties", "names", "bears", "more", "top", "parts", "left", "x"]) (sc := defScope s_law_world) (by decide +kernel)) (fun _ _ _ _ _ => pg_name (i := 9) sc_law_world.nd rfl (Or.inl rfl)) (fun _ _ _ _ _ => pts_nil) (fun _ _ _ _ _ => (pe_callTy cr_intB (by rfl) g_int (by decide +kernel) (pa_cons (pe_cmpR op_gt (pe_own D_law_take hr (pa_cons (pv 0) (pa_cons pe_int pa_nil))) pe_int (nomark _)) pa_nil)))))
      (pss_cons (ps_asg pe_int (pg_sub (pv 4) (pe_own D_law_take hr (pa_cons (pv 0) (pa_cons (pv 3) pa_nil))) set_list))
      (pss_cons (ps_set (i := 5) sc_law_world.nd rfl (Or.inl rfl) (pe_own D_law_near_ends hr (pa_cons (pv 0) (pa_cons pe_int (pa_cons pe_int pa_nil)))))
      (pss_cons (ps_if (pt_cmpR op_eq (pe_own D_law_take hr (pa_cons (pv 0) (pa_cons pe_int pa_nil))) pe_int (nomark _)) (pss_cons (ps_set (i := 4) sc_law_world.nd rfl (Or.inr rfl) (pe_op op_rep (pe_lst (pa_cons pe_int pa_nil)) (pv 3)))
        (pss_cons (ps_set (i := 6) sc_law_world.nd rfl (Or.inl rfl) (pe_op op_mul (pe_op op_powW pe_int pe_int) (pe_callB (cr_min2 rfl) (by rfl) g_min (by decide +kernel) (pa_cons (pv 2) (pa_cons (pv 3) pa_nil)))))
        (pss_one (ps_set (i := 5) sc_law_world.nd rfl (Or.inl rfl) (pe_own D_law_pick hr (pa_cons (pv 0) (pa_cons (pe_lst (pa_cons pe_int (pa_cons (pe_op op_powW pe_int pe_int) (pa_cons (pv 6) (pa_cons (pe_op op_sub (pv 6) pe_int) (pa_cons (pe_own D_law_between hr (pa_cons (pv 0) (pa_cons pe_int (pa_cons (pv 6) pa_nil)))) pa_nil)))))) pa_nil))))))) pss_nil)
      (pss_cons (ps_set (i := 7) sc_law_world.nd rfl (Or.inr rfl) (pe_own D_law_parts hr (pa_cons (pv 0) (pa_cons (pv 5) (pa_cons (pv 3) (pa_cons (pe_op op_powW pe_int pe_int) pa_nil))))))
      (pss_cons (ps_set (i := 4) sc_law_world.nd rfl (Or.inr rfl) (pe_lc (own := [("x", 9)]) rfl sc_law_world.nd (pi_range1 rfl g_range (pa_cons (pv 3) pa_nil)) (blkOk_by (own := [("x", 9)]) (N := ["store", "kind", "parties", "names", "bears", "more", "top", "parts", "left", "x"]) (sc := defScope s_law_world) (by decide +kernel)) (fun _ _ _ _ _ => pg_name (i := 9) sc_law_world.nd rfl (Or.inl rfl)) (fun _ _ _ _ _ => pts_nil) (fun _ _ _ _ _ => (pe_op op_add (pe_ix (ix_listB (K := K)) (pv 4) (pv 9) (fun _ _ => rfl)) (pe_ix (ix_listB (K := K)) (pv 7) (pv 9) (fun _ _ => rfl))))))
      (pss_cons (ps_set (i := 8) sc_law_world.nd rfl (Or.inl rfl) (pe_own D_law_parts hr (pa_cons (pv 0) (pa_cons (pe_callB (cr_sum rfl) (by rfl) g_sum (by decide +kernel) (pa_cons (pv 4) pa_nil)) (pa_cons (pv 2) (pa_cons (pe_op op_powW pe_int pe_int) pa_nil))))))
      (pss_one (ps_ret (pe_tup (pa_cons (pe_own D_law_ranks hr (pa_cons (pv 0) (pa_cons (pv 2) (pa_cons (pv 3) pa_nil)))) (pa_cons (pv 8) (pa_cons (pv 4) pa_nil))))))))))))))))), ?_⟩
  · rintro n _; rfl
  rintro ⟨⟩ _ p sl B hs
  have ok := okS (n := 10) (A := B) (K := K) hs
  have e14 : (10 : Int) ^ Int.toNat 14 = 100000000000000 := by decide
  have five : ∀ y ∈ [D.int 5, .int 5, .int 8], ∃ c : Int, y = .int c ∧ 5 ≤ c ∧ c ≤ 8 := fun y hy => by
    simp only [List.mem_cons, List.not_mem_nil, or_false] at hy
    rcases hy with rfl | rfl | rfl <;> exact ⟨_, rfl, by omega, by omega⟩
  walk_at "ev0"
  intro kd k0 _ k1
  walk_at "ev"
  refine ⟨_, [.int 5, .int 5, .int 8], rfl, .own (l := [.int 5, .int 5, .int 8]), Nat.le_of_ble_eq_true rfl, Nat.le_of_ble_eq_true rfl, fun y hy => ?_⟩
  obtain ⟨c, rfl, c1, c2⟩ := five y hy
  clear hy
  walk_at "ev"
  intro np0 p0 _ p1
  have p1 := p1 (by omega)
  walk_at "ev"
  refine ⟨_, [.int 5, .int 5, .int 8], rfl, .own (l := [.int 5, .int 5, .int 8]), Nat.le_of_ble_eq_true rfl, Nat.le_of_ble_eq_true rfl, fun y hy => ?_⟩
  obtain ⟨d, rfl, d1, d2⟩ := five y hy
  clear hy five
  walk_at "ev"
  intro nn0 n0 _ n1
  have n1 := n1 (by omega)
  refine vo_I0 (by walk_at "scl") ?_
  walk_at "eg"
  refine es_cut (fun ρ => ∃ np nn : Nat, ρ = [.sto, cI kd, cI np, cI nn, .dead, .dead, .dead, .dead, .dead, .dead] ∧ (1 ≤ np ∧ np ≤ 8) ∧ 1 ≤ nn ∧ nn ≤ 8) ?_ ?_
  · have fin : ∀ a b : Int, 1 ≤ a ∧ a ≤ 8 → 1 ≤ b ∧ b ≤ 8 → ∃ np nn : Nat, [Cell.sto, cI kd, cI a, cI b, .dead, .dead, .dead, .dead, .dead, .dead] = [.sto, cI kd, cI np, cI nn, .dead, .dead, .dead, .dead, .dead, .dead] ∧ (1 ≤ np ∧ np ≤ 8) ∧ 1 ≤ nn ∧ nn ≤ 8 := fun a b h1 h2 => by
      obtain ⟨a', rfl⟩ := Int.eq_ofNat_of_zero_le (show 0 ≤ a by omega)
      obtain ⟨b', rfl⟩ := Int.eq_ofNat_of_zero_le (show 0 ≤ b by omega)
      exact ⟨a', b', rfl, by omega, by omega⟩
    walk_at "ev"
    refine x_dec (fun _ => ?_) (fun _ => ?_)
    · walk_at "ev"
      intro a a0 _ a1
      walk_at "ev"
      intro b b0 _ b1
      walk_at "ev"
      exact fin _ _ (by omega) (by omega)
    · walk_at "ev"
      exact fin _ _ (by omega) (by omega)
  rintro ρ ⟨q, n, rfl, q8, n8⟩
  walk_at "ev"
  rw [Int.toNat_natCast]
  refine lcl (fun i acc => ∃ bs : List Int, acc = bs.map (fun y => T.d (.int y)) ∧ bs.length = i ∧ ∀ x ∈ bs, 0 ≤ x ∧ x ≤ 1) (by first | omega | (rw [List.length_map]; omega) | (simp <;> omega)) ⟨[], rfl, rfl, by simp⟩ (fun i acc hi hI ha => ?_) fun acc hI _ => ?_
  · obtain ⟨bs, rfl, b1, b2⟩ := hI
    walk_at "ev"
    intro c c0 _ c1
    walk_at "ev"
    walk_at "kk"
    refine ⟨bs ++ [_], by rw [List.map_append]; rfl, by rw [List.length_append, b1]; rfl, fun x hx => ?_⟩
    rcases List.mem_append.mp hx with hx | hx
    · exact b2 x hx
    · rw [List.mem_singleton.mp hx]
      split <;> omega
  obtain ⟨bs0, rfl, b1, b2⟩ := hI
  rw [row_map]
  walk_at "ev"
  intro at0 a0 a1 a2
  have a3 : at0 < n := by
    by_cases z : (n : Int) ≤ 1
    · have := a1 z; omega
    · have := a2 (by omega); omega
  obtain ⟨j, rfl⟩ := Int.eq_ofNat_of_zero_le a0
  refine st_0 (n := j) (by walk_at "cat") (by rw [List.length_map]; exact ixN_at (by omega)) rfl (by walk_at "cset") ?_
  rw [set_ints]
  have b3 : (bs0.set j 1).length = n := by rw [List.length_set]; exact b1
  have b4 : ∀ x ∈ bs0.set j 1, 0 ≤ x ∧ x ≤ 1 := fun x hx => by
    rcases List.mem_or_eq_of_mem_set hx with hx | rfl
    · exact b2 x hx
    · omega
  generalize bs0.set j 1 = bs at *
  walk_at "ev"
  intro mo o0 o1 _
  have o1 := o1 (by decide)
  walk_at "eg"
  refine es_cutK [6] (fun ρ => ∃ (bs : List Int) (mo : Int), ρ = [.sto, cI kd, cI q, cI n, .t (.row (bs.map .int)), cI mo, .dead, .dead, .dead, .dead] ∧ bs.length = n ∧ (∀ x ∈ bs, 0 ≤ x ∧ x ≤ 1) ∧ 1 ≤ mo ∧ mo ≤ 100000000000000 * n ∧ bs.sum + mo ≤ 100000000000000 * q ∧ (mo ≤ 12 ∨ ∀ x ∈ bs, x = 0)) ?_ ?_
  · walk_at "ev"
    intro z z0 _ z1
    walk_at "ev"
    refine x_dec (fun _ => ?_) (fun _ => ?_)
    · walk_at "ev"
      refine vo_rep ok (.own (l := [.int 0])) (by omega) (by omega) (by show 1 * _ ≤ _; omega) ?_
      rw [rep_zero]
      walk_at "ev"
      rw [e14]
      obtain ⟨mn, em, m1, m2, m3⟩ : ∃ mn : Int, (if (n : Int) < q then (n : Int) else q) = mn ∧ 1 ≤ mn ∧ mn ≤ n ∧ mn ≤ q := ⟨_, rfl, by split <;> omega, by split <;> omega, by split <;> omega⟩
      rw [em]
      walk_at "ev"
      intro dr t0 t1 _
      have t1 := t1 (by omega)
      walk_at "ev"
      refine ⟨_, [.int 40, .int (10 ^ Int.toNat 12), .int (100000000000000 * mn), .int (100000000000000 * mn - 1), .int dr], rfl, .own (l := [.int 40, .int (10 ^ Int.toNat 12), .int (100000000000000 * mn), .int (100000000000000 * mn - 1), .int dr]), Nat.le_of_ble_eq_true rfl, Nat.le_of_ble_eq_true rfl, fun y hy => ?_⟩
      obtain ⟨c, rfl, c1, c2⟩ : ∃ c : Int, y = .int c ∧ 1 ≤ c ∧ c ≤ 100000000000000 * mn := by
        have e12 : (10 : Int) ^ Int.toNat 12 = 1000000000000 := by decide
        rw [e12] at hy
        simp only [List.mem_cons, List.not_mem_nil, or_false] at hy
        rcases hy with rfl | rfl | rfl | rfl | rfl <;> exact ⟨_, rfl, by omega, by omega⟩
      clear hy
      walk_at "ev"
      walk_at "kl"
      have z1 : ∀ x ∈ List.replicate n (0 : Int), x = 0 := fun x hx => (List.mem_replicate.mp hx).2
      have z2 : (List.replicate n (0 : Int)).sum = 0 := by
        have := sum_small (bs := List.replicate n 0) fun x hx => by rw [z1 x hx]; omega
        have : ∀ m : Nat, (List.replicate m (0 : Int)).sum = 0 := fun m => by
          induction m with
          | zero => rfl
          | succ m ih => rw [List.replicate_succ, List.sum_cons, ih]; rfl
        exact this n
      exact ⟨List.replicate n 0, c, rfl, List.length_replicate, fun x hx => by rw [z1 x hx]; omega, c1, by omega, by omega, .inr z1⟩
    · walk_at "ev"
      walk_at "kl"
      have := sum_small b4
      exact ⟨bs, mo, rfl, b3, b4, o0, by omega, by omega, .inl o1⟩
  rintro ρ ⟨bs, mo, rfl, b1, b2, o0, o1, o2, o3⟩
  have bsum := sum_small b2
  walk_at "ev"
  rw [e14]
  refine cl_doneS (a := (mo, (n : Int), 100000000000000)) (by walk_at "lkl") ⟨⟨by dsimp only; omega, by dsimp only; omega, by dsimp only; omega, by dsimp only; omega, by dsimp only; omega, by dsimp only; decide⟩, ?_⟩
  rintro r ⟨ms, rfl, l1, l2, l3⟩
  dsimp only at l1 l2 l3
  walk_at "ev"
  rw [Int.toNat_natCast]
  have ml : ms.length = n := by omega
  have zl : (List.zipWith (· + ·) bs ms).length = n := by rw [List.length_zipWith]; omega
  refine lcl (fun i acc => acc = ((List.zipWith (· + ·) bs ms).take i).map (fun y => T.d (.int y))) (by first | omega | (rw [List.length_map]; omega) | (simp <;> omega)) rfl (fun i acc hi hI ha => ?_) fun acc hI _ => ?_
  · have ib : i < bs.length := by omega
    have im : i < ms.length := by omega
    walk_at "ev"
    refine vo_ixL (by walk_at "leaf") (dIs_at ib) ?_
    walk_at "ev"
    refine vo_ixL (by walk_at "leaf") (dIs_at im) ?_
    walk_at "ev"
    walk_at "kk"
    rw [hI, take_snoc (show i < (List.zipWith (· + ·) bs ms).length by omega), List.getElem_zipWith, List.map_append]
    rfl
  rw [List.take_of_length_le (by omega)] at hI
  subst hI
  rw [row_map]
  have zs : (List.zipWith (· + ·) bs ms).sum = bs.sum + mo := by rw [zip_sum (by omega), l2]
  have zb : ∀ x ∈ List.zipWith (· + ·) bs ms, 0 ≤ x ∧ x ≤ 100000000000000 := fun x hx => by
    obtain ⟨y, hy, z, hz, rfl⟩ := mem_zip hx
    have h1 := b2 y hy
    have h2 := l3 z hz
    rcases o3 with o3 | o3
    · have := mem_le_sum (fun x hx => (l3 x hx).1) z hz
      omega
    · have := o3 y hy
      omega
  generalize List.zipWith (· + ·) bs ms = be at *
  walk_at "ev"
  rw [e14]
  refine cl_doneS (a := (be.sum, (q : Int), 100000000000000)) (by walk_at "lkl") ⟨⟨by dsimp only; omega, by dsimp only; omega, by dsimp only; omega, by dsimp only; omega, by dsimp only; omega, by dsimp only; decide⟩, ?_⟩
  rintro r ⟨le, rfl, j1, j2, j3⟩
  dsimp only at j1 j2 j3
  have m4 : Mv 4 := .mk
  have m8 : Mv 8 := .mk
  walk_at "ev"
  refine cl_doneS (a := (q, n)) (by walk_at "lkl") ⟨⟨q8, n8⟩, ?_⟩
  rintro r ⟨rs, rfl, r1, r2⟩
  dsimp only at r1 r2
  walk_at "ev"
  refine ⟨⟨rs, le, be⟩, ⟨⟨by show 1 ≤ rs.length ∧ rs.length ≤ 8; omega, by show 1 ≤ be.length ∧ be.length ≤ 8; omega, fun x hx => ?_, fun r hr => (r2 r hr).2, by show le.sum = be.sum; omega⟩, by show le.length = rs.length; omega, fun r hr => by show r.length = be.length; have := (r2 r hr).1; omega⟩, by show 1 ≤ le.sum; omega, ?_⟩
  · rcases List.mem_append.mp hx with hx | hx
    · exact j3 x hx
    · exact zb x hx
  · show D.tup [T.data _, T.data _, T.data _] = _
    rw [rows_data, T.data_row, T.data_row]
abbrev s_law_drawn_web : Stmt := topS 85
theorem sc_law_drawn_web : FnScope ["store", "ranks", "left", "bears", "kind", "order", "web", "v", "x"] ["store", "ranks", "left", "bears"] (defScope s_law_drawn_web) := ⟨rfl, rfl, rfl, by decide +kernel, rfl, by decide +kernel, by decide +kernel⟩
--DEF _law_drawn_web
abbrev eDw : List (List Int) × List Int × List Int → List D := fun a => [dIss a.1, dIs a.2.1, dIs a.2.2]
set_option maxHeartbeats 8000000 in
theorem ok_law_drawn_web (h : DefAt K mg "_law_drawn_web" ["store", "ranks", "left", "bears"] s_law_drawn_web) (g_len : mg "len" = none) (g_range : mg "range" = none) (D_law_take : Okk P w K mg base CX0 k "_law_take" ["store", "many"] spTake)
    (D_law_any_web : Okk P w K mg base CX0 k "_law_any_web" ["store", "parties", "bears"] (PFS K eAw (fun a => 1 ≤ a.1 ∧ a.1 ≤ 8 ∧ 1 ≤ a.2.length ∧ a.2.length ≤ 8) fun a r => ∃ ws : List (List Bool), r = T.lst (ws.map fun bs => T.row (bs.map .bl)) ∧ ws.length = a.1 ∧ ∀ row ∈ ws, row.length = a.2.length))
    (D_law_stages : Okk P w K mg base CX0 k "_law_stages" ["store", "bears"] (PFS K e1L (fun ns => ns.length ≤ 8) fun ns r => ∃ rows : List (List Int), r = T.lst (rows.map fun ns => T.row (ns.map .int)) ∧ rows.length ≤ 8 ∧ (∀ st ∈ rows, st.length ≤ 8) ∧ stFault (standing ns) rows = none))
    (D_law_web : Okk P w K mg base CX0 k "_law_web" ["ranks", "bears", "stages"] (PF K eWb (fun a => a.1.length ≤ 8 ∧ a.2.1.length ≤ 8 ∧ (∀ r ∈ a.1, r.length = a.2.1.length) ∧ a.2.2.length ≤ 100 ∧ stFault (standing a.2.1) a.2.2 = none) fun a r => r = tBss (webs a.1 a.2.1.length a.2.2)))
    (D_law_full_table : Okk P w K mg base CX0 k "_law_full_table" ["store", "left", "bears"] (PFS K eFt (fun a => (1 ≤ a.1.length ∧ a.1.length ≤ 8) ∧ (1 ≤ a.2.length ∧ a.2.length ≤ 8) ∧ (∀ x ∈ a.1, 0 ≤ x) ∧ ∀ x ∈ a.2, 0 ≤ x) fun a r => ∃ tb : List (List Int), r = T.lst (tb.map fun ns => T.row (ns.map .int)) ∧ Tbl a.1.length a.2.length tb))
    (D_law_web_with : Okk P w K mg base CX0 k "_law_web_with" ["store", "table", "bears"] (PFS K eWw (fun a => a.1.length ≤ 8 ∧ a.2.length ≤ 8 ∧ ∀ row ∈ a.1, row.length = a.2.length) fun a r => ∃ ws : List (List Bool), r = T.lst (ws.map fun bs => T.row (bs.map .bl)) ∧ ws.length = a.1.length ∧ ∀ row ∈ ws, row.length = a.2.length))
    (D_law_order : Okk P w K mg base CX0 k "_law_order" ["store", "many"] (PFS K e1I (inR 0 1300) fun n r => ∃ ms : List Int, r = T.row (ms.map .int) ∧ ms.Perm (upto 0 n))) :
    Okk P w K mg base CX0 (k + 1) "_law_drawn_web" ["store", "ranks", "left", "bears"] (PFS K eDw (fun a => (1 ≤ a.1.length ∧ a.1.length ≤ 8) ∧ (1 ≤ a.2.2.length ∧ a.2.2.length ≤ 8) ∧ a.2.1.length = a.1.length ∧ (∀ r ∈ a.1, r.length = a.2.2.length) ∧ (∀ x ∈ a.2.1, 0 ≤ x) ∧ ∀ x ∈ a.2.2, 0 ≤ x) fun a r => ∃ ws : List (List Bool), r = T.lst (ws.map fun bs => T.row (bs.map .bl)) ∧ ws.length = a.2.1.length ∧ ∀ row ∈ ws, row.length = a.2.2.length) := by
  refine DefAt.pfs (N := ["ranks", "left", "bears", "kind", "order", "web", "v", "x"]) h sc_law_drawn_web ?_ ?_ fun cdv f A outer s H E hr => ⟨_, (pss_cons (ps_set (i := 4) sc_law_drawn_web.nd rfl (Or.inl rfl) (pe_own D_law_take hr (pa_cons (pv 0) (pa_cons pe_int pa_nil))))
      (pss_cons (ps_if (pt_cmpR op_le (pv 4) pe_int (nomark _)) (pss_one (ps_ret (pe_own D_law_any_web hr (pa_cons (pv 0) (pa_cons (pe_callB cr_len (by rfl) g_len (by decide +kernel) (pa_cons (pv 2) pa_nil)) (pa_cons (pv 3) pa_nil)))))) pss_nil)
      (pss_cons (ps_if (pt_cmpR op_eq (pv 4) pe_int (nomark _)) (pss_one (ps_ret (pe_own D_law_web hr (pa_cons (pv 1) (pa_cons (pv 3) (pa_cons (pe_own D_law_stages hr (pa_cons (pv 0) (pa_cons (pv 3) pa_nil))) pa_nil)))))) pss_nil)
      (pss_cons (ps_if (pt_cmpR op_eq (pv 4) pe_int (nomark _)) (pss_one (ps_ret (pe_own D_law_web_with hr (pa_cons (pv 0) (pa_cons (pe_own D_law_full_table hr (pa_cons (pv 0) (pa_cons (pv 2) (pa_cons (pv 3) pa_nil)))) (pa_cons (pv 3) pa_nil)))))) pss_nil)
      (pss_cons (ps_set (i := 5) sc_law_drawn_web.nd rfl (Or.inr rfl) (pe_own D_law_order hr (pa_cons (pv 0) (pa_cons (pe_callB cr_len (by rfl) g_len (by decide +kernel) (pa_cons (pv 3) pa_nil)) pa_nil))))
      (pss_cons (ps_set (i := 6) sc_law_drawn_web.nd rfl (Or.inl rfl) (pe_lst pa_nil))
      (pss_cons (ps_for PassesOwn.never rfl (pi_range1 rfl g_range (pa_cons (pe_callB cr_len (by rfl) g_len (by decide +kernel) (pa_cons (pv 2) pa_nil)) pa_nil)) (pg_name (i := 7) sc_law_drawn_web.nd rfl (Or.inr rfl))
        (pss_one (ps_expr (pe_bm PySem.F.plainAttrs_list PySem.F.slot_list_append PySem.F.type_list_append mt_append (pv 6) (pa_cons (pe_lc (own := [("x", 8)]) rfl sc_law_drawn_web.nd (pi_range1 rfl g_range (pa_cons (pe_callB cr_len (by rfl) g_len (by decide +kernel) (pa_cons (pv 3) pa_nil)) pa_nil)) (blkOk_by (own := [("x", 8)]) (N := ["store", "ranks", "left", "bears", "kind", "order", "web", "v", "x"]) (sc := defScope s_law_drawn_web) (by decide +kernel)) (fun _ _ _ _ _ => pg_name (i := 8) sc_law_drawn_web.nd rfl (Or.inl rfl)) (fun _ _ _ _ _ => pts_nil) (fun _ _ _ _ _ => (pe_and (pe_cmpR op_gt (pe_ix (ix_listB (K := K)) (pv 3) (pv 8) (fun _ _ => rfl)) pe_int (nomark _)) (pe_one (pe_or (pe_cmpR op_eq (pe_ix (ix_listB (K := K)) (pv 5) (pv 8) (fun _ _ => rfl)) (pv 7) (nomark _)) (pe_one (pe_cmpR op_eq (pe_ix (ix_listB (K := K)) (pv 5) (pv 8) (fun _ _ => rfl)) (pe_op op_add (pv 7) pe_int) (nomark _)))))))) pa_nil)))))
      (pss_one (ps_ret (pv 6)))))))))), ?_⟩
  · rintro n _; rfl
  · rintro n r _ ⟨ws, rfl, _⟩
    exact tBss_full ws
  rintro ⟨rk, le, be⟩ ⟨r8, b8, hl, hc, hn, hb⟩ p sl hs
  dsimp only at r8 b8 hl hc hn hb
  have ok := okS (n := 9) (A := fun a => a ≠ p) (K := K) hs
  have lle : (le.map D.int).length = le.length := List.length_map _
  have lbe : (be.map D.int).length = be.length := List.length_map _
  walk_at "ev0"
  intro kd k0 _ k1
  walk_at "ev"
  refine x_dec (fun z => ?_) (fun z => ?_)
  · walk_at "ev"
    rw [lle]
    refine ⟨_, (le.length, be), rfl, by walk_at "lkl", ⟨by dsimp only; omega, by dsimp only; omega, by dsimp only; omega, by dsimp only; omega⟩, ?_⟩
    rintro r ⟨ws, rfl, w1, w2⟩
    walk_at "ev"
    exact ⟨ws, rfl, w1, w2⟩
  walk_at "ev"
  refine x_dec (fun z2 => ?_) (fun z2 => ?_)
  · walk_at "ev"
    refine ⟨by show be.length ≤ 8; omega, ?_⟩
    rintro r ⟨st, rfl, l1, l2, sf⟩
    walk_at "ev"
    refine ⟨(rk, be, st), .cons (.t rfl) (.cons (.t rfl) (.cons (.t rows_data) .nil)), ⟨by dsimp only; omega, by dsimp only; omega, hc, by dsimp only; omega, sf⟩, ?_⟩
    rintro r rfl
    walk_at "ev"
    refine ⟨webs rk be.length st, rfl, by unfold webs; rw [List.length_map]; exact hl.symm, fun row hr => ?_⟩
    obtain ⟨r0, _, rfl⟩ := List.mem_map.mp hr
    unfold webRow
    rw [List.length_map, upto_length]
    omega
  walk_at "ev"
  refine x_dec (fun z3 => ?_) (fun z3 => ?_)
  · walk_at "ev"
    refine ⟨_, (le, be), rfl, by walk_at "lkl", ⟨by dsimp only; omega, b8, hn, hb⟩, ?_⟩
    rintro r ⟨tb, rfl, tt⟩
    walk_at "ev"
    refine ⟨_, (tb, be), rfl, .cons (.t rows_data) (.cons (.t rfl) .nil), ⟨by have := tt.1; dsimp only at this ⊢; omega, by dsimp only; omega, tt.2⟩, ?_⟩
    rintro r ⟨ws, rfl, w1, w2⟩
    walk_at "ev"
    exact ⟨ws, rfl, w1.trans tt.1, w2⟩
  walk_at "ev"
  rw [lbe]
  refine ⟨by show (0 : Int) ≤ _ ∧ _; omega, ?_⟩
  rintro r ⟨od, rfl, hp⟩
  have lo : od.length = be.length := by rw [hp.length_eq, upto_length]; omega
  walk_at "eg"
  refine es_fz (i := 5) (d := dIs od) (by walk_at "cat") (T.data_row _) (by walk_at "cset") rfl ?_
  walk_at "ev"
  rw [lle]
  refine loopK [7, 8] (fun i ρ => ∃ ws : List (List Bool), ρ = [.sto, cD (dIss rk), cD (dIs le), cD (dIs be), cI kd, cD (dIs od), .t (.lst (ws.map fun bs => T.row (bs.map .bl))), .dead, .dead] ∧ ws.length = i ∧ ∀ row ∈ ws, row.length = be.length) ⟨[], rfl, rfl, by simp⟩ ?_ ?_
  · rintro i ρ hi ⟨ws, rfl, w1, w2⟩
    have i8 : i < 8 := by omega
    have n8 : ∀ v ∈ [8], noPl v [Cell.pl 6 []] := fun v hv => by rw [List.mem_singleton.mp hv]; exact noPl_one (by decide)
    walk_at "ev"
    refine ev_lcRP ok n8 ?_
    walk_at "ev"
    rw [lbe, Int.toNat_natCast]
    refine lcl (fun j acc => ∃ bs : List Bool, acc = bs.map (fun b => T.d (.bl b)) ∧ bs.length = j) (by simp) ⟨[], rfl, rfl⟩ (fun j acc hj hI ha => ?_) fun acc hI _ => ?_
    · obtain ⟨bs, rfl, q1⟩ := hI
      have jo : j < od.length := by omega
      have fin : ∀ b : Bool, ∃ bs' : List Bool, bs.map (fun b => T.d (.bl b)) ++ [T.d (.bl b)] = bs'.map (fun b => T.d (.bl b)) ∧ bs'.length = j + 1 := fun b => ⟨bs ++ [b], by rw [List.map_append]; rfl, by rw [List.length_append, q1]; rfl⟩
      refine egc_nameP (by walk_at "cset") rfl (noPl_two (by decide)) ?_
      walk_at "ev"
      refine vo_ixL (by walk_at "leaf") (dIs_at hj) ?_
      walk_at "ev"
      refine x_dec (fun z => ?_) (fun z => ?_)
      · walk_at "ev"
        refine vo_ixL (by walk_at "leaf") (dIs_at jo) ?_
        walk_at "ev"
        refine x_dec (fun z => ?_) (fun z => ?_)
        · walk_at "ev"
          walk_at "kk"
          exact fin _
        · walk_at "ev"
          refine vo_ixL (by walk_at "leaf") (dIs_at jo) ?_
          walk_at "ev"
          walk_at "kk"
          exact fin _
      · walk_at "ev"
        walk_at "kk"
        exact fin _
    · obtain ⟨bs, rfl, q1⟩ := hI
      rw [show T.lst (bs.map fun b => T.d (.bl b)) = T.row (bs.map .bl) by show _ = T.lst (List.map _ (List.map _ _)); rw [List.map_map]; rfl]
      walk_at "ev"
      walk_at "kl"
      refine ⟨ws ++ [bs], by rw [List.map_append]; rfl, by rw [List.length_append, w1]; rfl, fun r hr => ?_⟩
      rcases List.mem_append.mp hr with hr | hr
      · exact w2 r hr
      · rw [List.mem_singleton.mp hr]
        omega
  · rintro ρ ⟨ws, rfl, w1, w2⟩
    have m6 : Mv 6 := .mk
    walk_at "ev"
    exact ⟨ws, rfl, w1, w2⟩
theorem plains_all : ∀ {l : List D}, (∀ d ∈ l, d.plain = true) → D.plains l = true
  | [], _ => rfl
  | d :: l, h => by
    show (d.plain && D.plains l) = true
    rw [h d List.mem_cons_self, plains_all fun x hx => h x (List.mem_cons_of_mem _ hx)]
    rfl
theorem depAll_le {n : Nat} : ∀ {l : List D}, (∀ d ∈ l, dep d.py ≤ n) → depAll (D.pys l) ≤ n
  | [], _ => Nat.zero_le _
  | d :: l, h => Nat.max_le.mpr ⟨h d List.mem_cons_self, depAll_le fun x hx => h x (List.mem_cons_of_mem _ hx)⟩
theorem widAll_lt {m : Nat} (hm : 0 < m) : ∀ {l : List D}, (∀ d ∈ l, wid d.py < m) → widAll (D.pys l) < m
  | [], _ => hm
  | d :: l, h => Nat.max_lt.mpr ⟨h d List.mem_cons_self, widAll_lt hm fun x hx => h x (List.mem_cons_of_mem _ hx)⟩
theorem prD_sc {n m : Nat} {d : D} (h : d.sc = true) (hm : 0 < m) : PrD n m d := by
  cases d with
  | lst l => cases h
  | tup l => cases h
  | obj C fs => cases h
  | _ => exact ⟨rfl, Nat.zero_le _, hm⟩
theorem prD_lst {n m : Nat} {l : List D} (h : ∀ d ∈ l, PrD n m d) (hl : l.length < m) : PrD (n + 1) m (.lst l) := ⟨plains_all fun d hd => (h d hd).p, Nat.succ_le_succ (depAll_le fun d hd => (h d hd).d), Nat.max_lt.mpr ⟨by rw [pys_length]; exact hl, widAll_lt (by omega) fun d hd => (h d hd).w⟩⟩
theorem prD_tup {n m : Nat} {l : List D} (h : ∀ d ∈ l, PrD n m d) (hl : l.length < m) : PrD (n + 1) m (.tup l) := ⟨plains_all fun d hd => (h d hd).p, Nat.succ_le_succ (depAll_le fun d hd => (h d hd).d), Nat.max_lt.mpr ⟨by rw [pys_length]; exact hl, widAll_lt (by omega) fun d hd => (h d hd).w⟩⟩
theorem PrD.mono {n m n' m' : Nat} {d : D} (h : PrD n m d) (hn : n ≤ n') (hm : m ≤ m') : PrD n' m' d := ⟨h.p, Nat.le_trans h.d hn, Nat.lt_of_lt_of_le h.w hm⟩
theorem prD_two {n m : Nat} {a b : D} (h1 : PrD n m a) (h2 : PrD n m b) (hm : 2 < m) : PrD (n + 1) m (.tup [a, b]) := prD_tup (fun d hd => by
  simp only [List.mem_cons, List.not_mem_nil, or_false] at hd
  rcases hd with rfl | rfl
  · exact h1
  · exact h2) hm
theorem prD_bools {n m : Nat} {bs : List Bool} (hm : bs.length < m) : PrD (n + 1) m (.lst (bs.map .bl)) := prD_lst (fun d hd => by
  obtain ⟨b, _, rfl⟩ := List.mem_map.mp hd
  exact prD_sc rfl (by omega)) (by rw [List.length_map]; exact hm)
theorem thaws_bls17 (ns : List Bool) : D.thaws (ns.map .bl) = (ns.map .bl).map T.d := by
  induction ns with
  | nil => rfl
  | cons n l ih => show _ :: D.thaws _ = _ :: _; rw [ih]; rfl
theorem thaw_bss17 (ws : List (List Bool)) : (D.lst (ws.map dBs)).thaw = T.lst (ws.map fun bs => T.row (bs.map .bl)) := by
  show T.lst (D.thaws _) = _
  congr 1
  induction ws with
  | nil => rfl
  | cons n l ih =>
    show T.lst (D.thaws (n.map .bl)) :: D.thaws _ = _ :: _
    rw [ih, thaws_bls17]
theorem web_prD17 {ws : List (List Bool)} {n : Nat} (h1 : ws.length ≤ 8) (h2 : n ≤ 8) (hc : ∀ row ∈ ws, row.length = n) : PrD 3 90000 (D.lst (ws.map dBs)) := (prD_lst (n := 1) (m := 90000) (fun d hd => by
  obtain ⟨s, hs, rfl⟩ := List.mem_map.mp hd
  exact prD_bools (by have := hc s hs; omega)) (by rw [List.length_map]; omega)).mono (by decide) (by decide)
def WebOk (m : Mo) (ws : List (List Bool)) : Prop := ws.length = m.left.length ∧ ∀ row ∈ ws, row.length = m.bears.length
abbrev tBw (ws : List (List Bool)) : T := T.lst (ws.map fun bs => T.row (bs.map .bl))
abbrev s_law_three_webs : Stmt := topS 86
theorem sc_law_three_webs : FnScope ["store", "world", "first_web", "second_web", "third_web", "row"] ["store", "world"] (defScope s_law_three_webs) := ⟨rfl, rfl, rfl, by decide +kernel, rfl, by decide +kernel, by decide +kernel⟩
--DEF _law_three_webs
set_option maxHeartbeats 8000000 in
theorem ok_law_three_webs (h : DefAt K mg "_law_three_webs" ["store", "world"] s_law_three_webs) (g_len : mg "len" = none) (D_law_take : Okk P w K mg base CX0 k "_law_take" ["store", "many"] spTake) (D_law_pick : Okk P w K mg base CX0 k "_law_pick" ["store", "row"] (spPick K)) (D_law_copy : Okk P w K mg base CX0 k "_law_copy" ["thing"] (spCopyV K 3))
    (D_law_drawn_web : Okk P w K mg base CX0 k "_law_drawn_web" ["store", "ranks", "left", "bears"] (PFS K eDw (fun a => (1 ≤ a.1.length ∧ a.1.length ≤ 8) ∧ (1 ≤ a.2.2.length ∧ a.2.2.length ≤ 8) ∧ a.2.1.length = a.1.length ∧ (∀ r ∈ a.1, r.length = a.2.2.length) ∧ (∀ x ∈ a.2.1, 0 ≤ x) ∧ ∀ x ∈ a.2.2, 0 ≤ x) fun a r => ∃ ws : List (List Bool), r = T.lst (ws.map fun bs => T.row (bs.map .bl)) ∧ ws.length = a.2.1.length ∧ ∀ row ∈ ws, row.length = a.2.2.length))
    (D_law_full_table : Okk P w K mg base CX0 k "_law_full_table" ["store", "left", "bears"] (PFS K eFt (fun a => (1 ≤ a.1.length ∧ a.1.length ≤ 8) ∧ (1 ≤ a.2.length ∧ a.2.length ≤ 8) ∧ (∀ x ∈ a.1, 0 ≤ x) ∧ ∀ x ∈ a.2, 0 ≤ x) fun a r => ∃ tb : List (List Int), r = T.lst (tb.map fun ns => T.row (ns.map .int)) ∧ Tbl a.1.length a.2.length tb))
    (D_law_web_with : Okk P w K mg base CX0 k "_law_web_with" ["store", "table", "bears"] (PFS K eWw (fun a => a.1.length ≤ 8 ∧ a.2.length ≤ 8 ∧ ∀ row ∈ a.1, row.length = a.2.length) fun a r => ∃ ws : List (List Bool), r = T.lst (ws.map fun bs => T.row (bs.map .bl)) ∧ ws.length = a.1.length ∧ ∀ row ∈ ws, row.length = a.2.length)) :
    Okk P w K mg base CX0 (k + 1) "_law_three_webs" ["store", "world"] (PFS K (fun m : Mo => [moD m]) (fun m => m.Sh) fun m r => ∃ w1 w2 w3, r = T.lst [tBw w1, tBw w2, tBw w3] ∧ WebOk m w1 ∧ WebOk m w2 ∧ WebOk m w3) := by
  refine DefAt.pfs (N := ["world", "first_web", "second_web", "third_web", "row"]) h sc_law_three_webs ?_ ?_ fun cdv f A outer s H E hr => ⟨_, (pss_cons (ps_set (i := 2) sc_law_three_webs.nd rfl (Or.inl rfl) (pe_own D_law_drawn_web hr (pa_cons (pv 0) (pa_cons (pe_ix ix_tup (pv 1) pe_int (fun _ _ => rfl)) (pa_cons (pe_ix ix_tup (pv 1) pe_int (fun _ _ => rfl)) (pa_cons (pe_ix ix_tup (pv 1) pe_int (fun _ _ => rfl)) pa_nil))))))
      (pss_cons (ps_set (i := 3) sc_law_three_webs.nd rfl (Or.inl rfl) (pe_own D_law_web_with hr (pa_cons (pv 0) (pa_cons (pe_own D_law_full_table hr (pa_cons (pv 0) (pa_cons (pe_ix ix_tup (pv 1) pe_int (fun _ _ => rfl)) (pa_cons (pe_ix ix_tup (pv 1) pe_int (fun _ _ => rfl)) pa_nil)))) (pa_cons (pe_ix ix_tup (pv 1) pe_int (fun _ _ => rfl)) pa_nil)))))
      (pss_cons (ps_set (i := 4) sc_law_three_webs.nd rfl (Or.inl rfl) (pe_own D_law_copy hr (pa_cons (pv 3) pa_nil)))
      (pss_cons (ps_set (i := 5) sc_law_three_webs.nd rfl (Or.inl rfl) (pe_own D_law_pick hr (pa_cons (pv 0) (pa_cons (pv 4) pa_nil))))
      (pss_cons (ps_asg pe_bl (pg_sub (pv 5) (pe_own D_law_take hr (pa_cons (pv 0) (pa_cons (pe_callB cr_len (by rfl) g_len (by decide +kernel) (pa_cons (pv 5) pa_nil)) pa_nil))) set_list))
      (pss_one (ps_ret (pe_lst (pa_cons (pv 2) (pa_cons (pv 3) (pa_cons (pv 4) pa_nil))))))))))), ?_⟩
  · rintro n _; rfl
  · rintro n r _ ⟨w1, w2, w3, rfl, _⟩
    show (T.full _ && (T.full _ && (T.full _ && true))) = true
    rw [tBw_full, tBw_full, tBw_full]
    rfl
  rintro m sh p sl hs
  have ok := okS (n := 6) (A := fun a => a ≠ p) (K := K) hs
  have nn : (∀ x ∈ m.left, 0 ≤ x) ∧ ∀ x ∈ m.bears, 0 ≤ x := ⟨fun x hx => (sh.ok.am x (List.mem_append_left _ hx)).1, fun x hx => (sh.ok.am x (List.mem_append_right _ hx)).1⟩
  have r8 := sh.ok.r1
  have b8 := sh.ok.b1
  have ll := sh.l
  walk_at "ev0"
  refine ⟨_, (m.ranks, m.left, m.bears), rfl, by walk_at "lkl", ⟨r8, b8, ll, sh.r, nn.1, nn.2⟩, ?_⟩
  rintro r ⟨w1, rfl, w11, w12⟩
  walk_at "ev"
  refine ⟨_, (m.left, m.bears), rfl, by walk_at "lkl", ⟨by dsimp only; omega, b8, nn.1, nn.2⟩, ?_⟩
  rintro r ⟨tb, rfl, tt⟩
  walk_at "ev"
  refine ⟨_, (tb, m.bears), rfl, .cons (.t rows_data) (.cons (.t rfl) .nil), ⟨by have := tt.1; dsimp only at this ⊢; omega, by dsimp only; omega, tt.2⟩, ?_⟩
  rintro r ⟨ws, rfl, w21, w22⟩
  dsimp only at w11 w12 w21 w22
  have wl : ws.length = m.left.length := w21.trans tt.1
  have pw := web_prD17 (n := m.bears.length) (by omega) b8.2 w22
  walk_at "ev"
  refine ⟨by rw [tBw_data]; exact pw, ?_⟩
  rintro r rfl
  rw [tBw_data, thaw_bss17 ws]
  walk_at "eg"
  refine es_seq (es_asg ?_)
  refine ev_pickP ?_
  walk_at "ev"
  refine ⟨4, [], _, _, rfl, by walk_at "cat", rfl, fun t ht => ?_, by rw [List.length_map]; omega, by rw [List.length_map]; omega, fun v hv => ?_⟩
  · obtain ⟨ns, _, rfl⟩ := List.mem_map.mp ht
    rfl
  rw [List.length_map] at hv
  refine eg_nameP (by walk_at "cset") rfl (by decide) ?_
  have rv := w22 _ (List.getElem_mem hv)
  have gt : (ws.map fun bs : List Bool => T.row (bs.map .bl))[v]? = some (T.row (ws[v].map .bl)) := by rw [List.getElem?_map, List.getElem?_eq_getElem hv]; rfl
  have att : (T.lst (ws.map fun bs : List Bool => T.row (bs.map .bl))).at ([] ++ [v]) = some (T.row (ws[v].map .bl)) := T.at_app (p := []) (x := T.lst (ws.map fun bs : List Bool => T.row (bs.map .bl))) (i := v) rfl gt
  refine es_seq (es_asg ?_)
  refine ev_c (by walk_at "scl") ?_
  refine eg_sub ok ?_
  refine ev_var_plc (by walk_at "cat") ?_
  refine ev_take ?_
  refine ea_cons ?_
  refine ev_var_sto (by walk_at "cat") ?_
  refine ea_cons ?_
  refine ev_cb ?_
  refine ea_cons ?_
  refine ev_var_plm (by walk_at "cat") (by walk_at "cset") rfl rfl ?_
  refine ea_nil ?_
  refine vo_lenL (lk_pl (by walk_at "cat") att (T.data_row _)) ?_
  rw [List.length_map, rv]
  walk_at "ev"
  intro x' x0 x1 x2
  obtain ⟨x, rfl⟩ := Int.eq_ofNat_of_zero_le x0
  have xl : x < m.bears.length := by
    by_cases q : (m.bears.length : Int) ≤ 1
    · have := x1 q; omega
    · have := x2 (by omega); omega
  clear x1 x2
  refine ⟨4, _, _, _, x, (x : Int), _, rfl, rfl, rfl, by walk_at "cat", att, by rw [List.length_map, List.length_map]; exact ixN_at (by omega), rfl, _, by walk_at "cset", ?_⟩
  rw [bls_put hv]
  have m2 : Mv 2 := .mk
  have m3 : Mv 3 := .mk
  have m4 : Mv 4 := .mk
  walk_at "ev"
  refine ⟨w1, ws, _, rfl, ⟨w11, w12⟩, ⟨wl, w22⟩, by rw [List.length_set]; exact wl, fun row hr => ?_⟩
  rcases List.mem_or_eq_of_mem_set hr with hr | hr
  · exact w22 row hr
  · rw [hr, List.length_set]
    exact rv
def dueB (b : Br) : D := if b.exc ≤ 0 then .non else .tup [dIs b.band, dIs b.free, .int b.exc]
theorem bandB_mem {b n : Nat} {v : Int} (h : v ∈ bandB b n) : 0 ≤ v ∧ v < n := mem_upto.mp (List.mem_filter.mp h).1
theorem bandB_len {b n : Nat} : (bandB b n).length ≤ n := by
  have := List.length_filter_le (fun v : Int => b.testBit v.toNat) (upto 0 (n : Int))
  rw [upto_length] at this
  show ((upto 0 (n : Int)).filter _).length ≤ n
  omega
theorem bandB_nodup {b n : Nat} : (bandB b n).Nodup := ((upto_ascB n).filter _).imp fun h => by omega
theorem asc_of_sorted {l : List Int} (h : l.Pairwise (· ≤ ·)) (n : l.Nodup) : l.Pairwise (· < ·) := (h.and n).imp fun ⟨a, b⟩ => by omega
abbrev s_law_due : Stmt := topS 88
theorem sc_law_due : FnScope ["web", "left", "bears", "sums", "most", "band", "b", "names", "x", "v"] ["web", "left", "bears"] (defScope s_law_due) := ⟨rfl, rfl, rfl, by decide +kernel, rfl, by decide +kernel, by decide +kernel⟩
--DEF _law_due
abbrev eDu17 : Mo × List (List Bool) → List D := fun a => [.lst (a.2.map dBs), dIs a.1.left, dIs a.1.bears]
set_option maxHeartbeats 8000000 in
theorem ok_law_due (h : DefAt K mg "_law_due" ["web", "left", "bears"] s_law_due) (g_max : mg "max" = none) (g_range : mg "range" = none) (g_len : mg "len" = none) (g_any : mg "any" = none) (g_sorted : mg "sorted" = none)
    (D_law_excesses : Okk P w K mg base CX0 k "_law_excesses" ["web", "left", "bears"] (PF K eExs (fun a => a.2.1.length ≤ 8 ∧ a.2.2.length ≤ 8 ∧ a.1.length = a.2.1.length ∧ ∀ row ∈ a.1, row.length = a.2.2.length) fun a r => r = T.row ((excD a.1 a.2.1 a.2.2).map .int)))
    (D_law_band_of : Okk P w K mg base CX0 k "_law_band_of" ["number", "parties"] (PF K eBo (fun a => 0 ≤ a.1 ∧ a.1 ≤ 1000 ∧ a.2 ≤ 8) fun a r => r = T.row ((bandOf a.1 a.2).map .int)))
    (D_law_standing : Okk P w K mg base CX0 k "_law_standing" ["bears"] (PF K e1L (fun ns => ns.length ≤ 1000) fun ns r => r = T.row ((standing ns).map .int))) :
    Okk P w K mg base CX0 (k + 1) "_law_due" ["web", "left", "bears"] (PFA K eDu17 (fun a => a.1.Sh ∧ WebOk a.1 a.2) fun a r => ∀ rows, BandRows a.1 a.2 rows → r.data = dueB (lastMax (brRoot a.1) rows)) := by
  refine DefAt.pfa h sc_law_due ?_ fun cdv f A outer s H E hr => ⟨_, (pss_cons (ps_set (i := 3) sc_law_due.nd rfl (Or.inl rfl) (pe_own D_law_excesses hr (pa_cons (pv 0) (pa_cons (pv 1) (pa_cons (pv 2) pa_nil)))))
      (pss_cons (ps_set (i := 4) sc_law_due.nd rfl (Or.inl rfl) (pe_callB (cr_max rfl) (by rfl) g_max (by decide +kernel) (pa_cons (pv 3) pa_nil)))
      (pss_cons (ps_if (pt_cmpR op_le (pv 4) pe_int (nomark _)) (pss_one (ps_ret pe_non)) pss_nil)
      (pss_cons (ps_set (i := 5) sc_law_due.nd rfl (Or.inr rfl) (pe_lst pa_nil))
      (pss_cons (ps_for PassesOwn.never rfl (pi_range1 rfl g_range (pa_cons (pe_callB cr_len (by rfl) g_len (by decide +kernel) (pa_cons (pv 3) pa_nil)) pa_nil)) (pg_name (i := 6) sc_law_due.nd rfl (Or.inl rfl))
        (pss_one (ps_if (pt_cmpR op_eq (pe_ix ix_list (pv 3) (pv 6) (fun _ _ => rfl)) (pv 4) (nomark _)) (pss_one (ps_set (i := 5) sc_law_due.nd rfl (Or.inr rfl) (pe_op op_cat (pv 5) (pe_lc (own := [("v", 9)]) rfl sc_law_due.nd (pi_list (pe_own D_law_band_of hr (pa_cons (pv 6) (pa_cons (pe_callB cr_len (by rfl) g_len (by decide +kernel) (pa_cons (pv 1) pa_nil)) pa_nil)))) (blkOk_by (own := [("v", 9)]) (N := ["web", "left", "bears", "sums", "most", "band", "b", "names", "x", "v"]) (sc := defScope s_law_due) (by decide +kernel)) (fun _ _ _ _ _ => pg_name (i := 9) sc_law_due.nd rfl (Or.inl rfl)) (fun _ _ _ _ _ => pts_one (pt_cmpR (op_notIn_seqB (K := K)) (pv 9) (pv 5) rfl)) (fun _ _ _ _ _ => (pv 9)))))) pss_nil)))
      (pss_cons (ps_setLc (i := 7) (own := [("x", 8)]) rfl sc_law_due.nd rfl rfl (sw_true rfl rfl rfl (by decide +kernel)) (pi_list (pe_own D_law_standing hr (pa_cons (pv 2) pa_nil))) (blkOk_by (own := [("x", 8)]) (N := ["web", "left", "bears", "sums", "most", "band", "b", "names", "x", "v"]) (sc := defScope s_law_due) (by decide +kernel)) (fun _ _ _ _ _ => pg_name (i := 8) sc_law_due.nd rfl (Or.inr rfl)) (fun _ _ _ _ _ => pts_one (pt_not (pt_val (pe_callB (cr_anyB (K := K) rfl) (by rfl) g_any (by decide +kernel) (pa_cons (pe_lc (own := [("v", 9)]) rfl sc_law_due.nd (pi_listB (K := K) (pv 5)) (blkOk_by (by rfl)) (fun _ _ _ _ _ => pg_name (i := 9) sc_law_due.nd rfl (Or.inl rfl)) (fun _ _ _ _ _ => pts_nil) (fun _ _ _ _ _ => (pe_ix (ix_listB (K := K)) (pe_ix (ix_listB (K := K)) (pv 0) (pv 9) (fun _ _ => rfl)) (pv 8) (fun _ _ => rfl)))) pa_nil))))) (fun _ _ _ _ _ => (pv 8)))
      (pss_one (ps_ret (pe_tup (pa_cons (pe_callB cr_sortedI (by rfl) g_sorted (by decide +kernel) (pa_cons (pv 5) pa_nil)) (pa_cons (pv 7) (pa_cons (pv 4) pa_nil)))))))))))), ?_⟩
  · rintro n _; rfl
  rintro ⟨m, ws⟩ ⟨sh, hw, hc⟩ B
  dsimp only at sh hw hc
  have ok := okN (K := K) (A := B) (H0 := H) (n := 10)
  have l1 := sh.l
  have r8 := sh.ok.r1
  have b8 := sh.ok.b1
  have nb : ∀ x ∈ m.bears, 0 ≤ x := fun x hx => (sh.ok.am x (List.mem_append_right _ hx)).1
  have lle : (m.left.map D.int).length = m.left.length := List.length_map _
  have el : (excD ws m.left m.bears).length = 2 ^ m.left.length := by
    unfold excD
    rw [List.length_map, List.length_range, subS_len]
  have n8 : 2 ^ m.left.length ≤ 256 := Nat.le_trans (Nat.pow_le_pow_right (by decide) (show m.left.length ≤ 8 by omega)) (by decide)
  have n0 : 0 < 2 ^ m.left.length := Nat.two_pow_pos _
  have law := fun rows (br : BandRows m ws rows) => widest_law nb hw hc br
  walk_at "ev0"
  refine ⟨(ws, m.left, m.bears), by walk_at "lkl", ⟨by dsimp only; omega, by dsimp only; omega, hw, hc⟩, ?_⟩
  rintro r rfl
  dsimp only
  generalize excD ws m.left m.bears = su at *
  walk_at "eg"
  refine es_fz (i := 3) (d := dIs su) (by walk_at "cat") (T.data_row _) (by walk_at "cset") rfl ?_
  walk_at "ev"
  refine vo_maxL (by walk_at "lk") (by omega) fun mx hm hle => ?_
  have top : ∀ rows, BandRows m ws rows → (lastMax (brRoot m) rows).exc = mx := fun rows br => by
    obtain ⟨_, h1, ⟨b, h2, h3, _⟩, _⟩ := law rows br
    have a1 : mx ≤ (lastMax (brRoot m) rows).exc := by
      obtain ⟨j, hj, rfl⟩ := List.mem_iff_getElem.mp hm
      have := h1 j (by omega)
      rw [List.getD_eq_getElem?_getD, List.getElem?_eq_getElem hj, Option.getD_some] at this
      exact this
    have a2 : (lastMax (brRoot m) rows).exc ≤ mx := by
      rw [← h3, List.getD_eq_getElem?_getD, List.getElem?_eq_getElem (show b < su.length by omega), Option.getD_some]
      exact hle _ (List.getElem_mem _)
    omega
  walk_at "ev"
  refine x_dec (fun z => ?_) (fun z => ?_)
  · walk_at "ev"
    intro rows br
    unfold dueB
    rw [if_pos (by rw [top rows br]; exact z)]
    rfl
  walk_at "ev"
  rw [List.length_map]
  refine loopK [6, 9] (fun i ρ => ∃ (U : List Int) (t : T), ρ = [cD (.lst (ws.map dBs)), cD (dIs m.left), cD (dIs m.bears), cD (dIs su), cI mx, .t t, .dead, .dead, .dead, .dead] ∧ t.data = dIs U ∧ U.length ≤ 8 * i ∧ U.Nodup ∧ ∀ v, v ∈ U ↔ ∃ b, b < i ∧ su.getD b 0 = mx ∧ v ∈ bandB b m.left.length) ⟨[], _, rfl, rfl, Nat.zero_le _, List.nodup_nil, fun v => ⟨(fun z => by cases z), fun ⟨b, z, _⟩ => (by omega)⟩⟩ ?_ ?_
  · rintro i ρ hi ⟨U, t, rfl, et, u1, u2, u3⟩
    have i8 : i < 256 := by omega
    have gi : su.getD i 0 = su[i] := by rw [List.getD_eq_getElem?_getD, List.getElem?_eq_getElem hi, Option.getD_some]
    walk_at "eg"
    refine es_fz (i := 5) (d := dIs U) (by walk_at "cat") et (by walk_at "cset") rfl ?_
    walk_at "ev"
    refine vo_ixL (by walk_at "leaf") (dIs_at hi) ?_
    walk_at "ev"
    refine x_dec (fun z2 => ?_) (fun z2 => ?_)
    · walk_at "ev"
      rw [lle]
      refine ⟨((i : Int), m.left.length), by walk_at "lkl", ⟨by dsimp only; omega, by dsimp only; omega, by dsimp only; omega⟩, ?_⟩
      rintro r rfl
      dsimp only
      rw [bandOf_bit]
      have bl := bandB_len (b := i) (n := m.left.length)
      walk_at "ev"
      refine ⟨by rw [List.length_map]; omega, ?_⟩
      refine lcl (fun c acc => acc = (((bandB i m.left.length).take c).filter fun v => !(decide (v ∈ U))).map fun v => T.d (.int v)) (by simp) rfl (fun c acc hc' hI ha => ?_) fun acc hI _ => ?_
      · have hc' : c < (bandB i m.left.length).length := by first | exact hc' | simpa using hc'
        rw [getD_ints hc']
        have ec := take_snoc hc'
        generalize (bandB i m.left.length)[c] = v at *
        walk_at "ev"
        refine x_ndec (fun z3 => ?_) (fun z3 => ?_)
        · walk_at "ev"
          walk_at "kk"
          rw [ec, hI, List.filter_append, List.filter_cons_of_pos (by rw [decide_eq_false z3]; rfl), List.filter_nil, List.map_append, List.map_singleton]
        · refine ⟨rfl, by walk_at "kill", ?_⟩
          rw [ec, hI, List.filter_append, List.filter_cons_of_neg (by rw [decide_eq_true z3]; decide), List.filter_nil, List.append_nil]
      rw [List.length_map, List.take_length] at hI
      subst hI
      rw [row_map]
      have fl := List.length_filter_le (fun v => !(decide (v ∈ U))) (bandB i m.left.length)
      refine vo_cat (l1 := U.map .int) ok .fz .own (by rw [List.length_map, List.length_map]; omega) ?_
      rw [← List.map_append]
      walk_at "ev"
      walk_at "kl"
      refine ⟨_, _, rfl, T.data_row _, by rw [List.length_append]; omega, List.nodup_append.mpr ⟨u2, bandB_nodup.filter _, fun a ha b hb e => ?_⟩, fun v => ?_⟩
      · subst e
        have := (List.mem_filter.mp hb).2
        rw [decide_eq_true ha] at this
        cases this
      · rw [List.mem_append, List.mem_filter, Bool.not_eq_true', decide_eq_false_iff_not, u3 v]
        constructor
        · rintro (⟨b, h1, h2, h3⟩ | ⟨h1, _⟩)
          · exact ⟨b, by omega, h2, h3⟩
          · exact ⟨i, by omega, by rw [gi]; exact z2, h1⟩
        · rintro ⟨b, h1, h2, h3⟩
          by_cases q : ∃ b, b < i ∧ su.getD b 0 = mx ∧ v ∈ bandB b m.left.length
          · exact .inl q
          · by_cases q2 : b < i
            · exact absurd ⟨b, q2, h2, h3⟩ q
            · obtain rfl : b = i := by omega
              exact .inr ⟨h3, q⟩
    · walk_at "ev"
      walk_at "kl"
      refine ⟨U, _, rfl, rfl, by omega, u2, fun v => ?_⟩
      rw [u3 v]
      constructor
      · rintro ⟨b, h1, h2⟩
        exact ⟨b, by omega, h2⟩
      · rintro ⟨b, h1, h2, h3⟩
        by_cases q2 : b < i
        · exact ⟨b, q2, h2, h3⟩
        · obtain rfl : b = i := by omega
          rw [gi] at h2
          exact absurd h2 z2
  rintro ρ ⟨U, t, rfl, et, u1, u2, u3⟩
  dsimp only
  refine es_fz (i := 5) (d := dIs U) (by walk_at "cat") et (by walk_at "cset") rfl ?_
  have um : ∀ v ∈ U, 0 ≤ v ∧ v < m.left.length := fun v hv => by
    obtain ⟨b, _, _, h3⟩ := (u3 v).mp hv
    exact bandB_mem h3
  have ul : U.length ≤ 2048 := by
    have : (su.length : Int).toNat ≤ 256 := by omega
    omega
  walk_at "ev"
  refine ⟨by show m.bears.length ≤ 1000; omega, ?_⟩
  rintro r rfl
  have sl8 := standing_length m.bears
  walk_at "ev"
  refine ⟨by rw [List.length_map]; omega, ?_⟩
  refine lcl (fun i acc => acc = (((standing m.bears).take i).filter fun x => !(U.any fun v => cellW ws v x)).map fun x => T.d (.int x)) (by simp) rfl (fun i acc hi hI ha => ?_) fun acc hI _ => ?_
  · have hi' : i < (standing m.bears).length := by first | exact hi | simpa using hi
    rw [getD_ints hi']
    have ei := take_snoc hi'
    have xr := mem_standing.mp (List.getElem_mem hi')
    generalize (standing m.bears)[i] = x' at *
    obtain ⟨x, rfl⟩ := Int.eq_ofNat_of_zero_le (show 0 ≤ x' by omega)
    walk_at "ev"
    refine ⟨by rw [List.length_map]; omega, ?_⟩
    have hI0 := hI
    clear hI
    refine lcl (fun j acc => acc = ((U.map fun v => cellW ws v (x : Int)).take j).map fun b => T.d (.bl b)) (by simp) rfl (fun j acc hj hI ha => ?_) fun acc hI _ => ?_
    · have hj' : j < U.length := by first | exact hj | simpa using hj
      rw [getD_ints hj']
      have ej := take_snoc (show j < (U.map fun v => cellW ws v (x : Int)).length by rw [List.length_map]; exact hj')
      rw [List.getElem_map] at ej
      have vr := um _ (List.getElem_mem hj')
      generalize U[j] = v' at *
      obtain ⟨v, rfl⟩ := Int.eq_ofNat_of_zero_le (show 0 ≤ v' by omega)
      have vl : v < ws.length := by omega
      have rv := hc _ (List.getElem_mem vl)
      have xw : x < ws[v].length := by omega
      walk_at "ev"
      refine vo_ixL (by walk_at "leaf") (dBss_at vl) ?_
      walk_at "ev"
      refine vo_ixL (by walk_at "leaf") (dBs_at xw) ?_
      walk_at "ev"
      walk_at "kk"
      rw [hI, ej, List.map_append, cellW_at vl xw]
      rfl
    rw [List.length_map, List.take_of_length_le (by rw [List.length_map]; exact Nat.le_refl _)] at hI
    subst hI
    rw [show T.lst ((U.map fun v => cellW ws v (x : Int)).map fun b => T.d (.bl b)) = T.row ((U.map fun v => cellW ws v (x : Int)).map .bl) by show _ = T.lst (List.map _ (List.map _ _)); rw [List.map_map (f := D.bl)]; rfl]
    walk_at "ev"
    refine vo_any (by walk_at "lk") ?_
    rw [List.any_map, show (id ∘ fun v => cellW ws v (x : Int)) = fun v => cellW ws v (x : Int) from rfl]
    walk_at "ev"
    cases et : U.any fun v => cellW ws v (x : Int) with
    | true =>
      refine x_ifn (fun z => nomatch z) ?_
      refine ⟨rfl, by walk_at "kill", ?_⟩
      rw [ei, hI0, List.filter_append, List.filter_cons_of_neg (by rw [et]; decide), List.filter_nil, List.append_nil]
    | false =>
      refine x_ifp rfl ?_
      walk_at "ev"
      walk_at "kk"
      rw [ei, hI0, List.filter_append, List.filter_cons_of_pos (by rw [et]; rfl), List.filter_nil, List.map_append, List.map_singleton]
  rw [List.length_map, List.take_length] at hI
  subst hI
  rw [row_map]
  walk_at "ev"
  refine vo_sortedI ok (.t rfl) fun sx px psx => ?_
  walk_at "ev"
  intro rows br
  obtain ⟨bok, _, ⟨b0, b1, b2, b3⟩, b4⟩ := law rows br
  have te := top rows br
  have sln : su.length = 2 ^ m.left.length := el
  have mem : ∀ v, v ∈ U ↔ v ∈ (lastMax (brRoot m) rows).band := fun v => by
    rw [u3 v]
    constructor
    · rintro ⟨b, h1, h2, h3⟩
      exact b4 b (by omega) (by rw [h2, te]) v h3
    · intro hv
      exact ⟨b0, by omega, by rw [b2, te], by rw [b3]; exact hv⟩
  generalize lastMax (brRoot m) rows = best at *
  have e1 : sx = best.band := asc_ext (asc_of_sorted psx (px.nodup_iff.mpr u2)) bok.asc.1 fun v => by rw [px.mem_iff, mem v]
  have e2 : ((standing m.bears).filter fun x => !(U.any fun v => cellW ws v x)) = best.free := by
    rw [bok.free]
    unfold freeOf
    refine List.filter_congr fun x _ => ?_
    congr 1
    rw [Bool.eq_iff_iff, List.any_eq_true, List.any_eq_true]
    exact ⟨fun ⟨v, h1, h2⟩ => ⟨v, (mem v).mp h1, h2⟩, fun ⟨v, h1, h2⟩ => ⟨v, (mem v).mpr h1, h2⟩⟩
  unfold dueB
  rw [if_neg (by omega)]
  show D.tup [T.data (T.row (sx.map .int)), dIs ((standing m.bears).filter fun x => !(U.any fun v => cellW ws v x)), .int mx] = _
  rw [T.data_row, e2, e1, te]
mutual
/-- v stands for d, the lists within it (each met once) are fs; tuples may be shared -/
inductive Fq (K : PySem.W.Frag) (H : Hp) : V → PyData → List Addr → Prop
  | non : Fq K H .non .none []
  | bl (b : Bool) : Fq K H (.bl b) (.bool b) []
  | int (i : Int) : Fq K H (.int i) (.int i) []
  | str (x : Str) : Fq K H (.str x) (.str x) []
  | lst {a xs ds fs} : H a = some (.lst xs) → FqAll K H xs ds fs → a ∉ fs → Fq K H (.ref a) (.list ds) (a :: fs)
  | tup {a xs ds fs} : SqT K H a xs → FqAll K H xs ds fs → Fq K H (.ref a) (.tuple ds) fs
inductive FqAll (K : PySem.W.Frag) (H : Hp) : List V → List PyData → List Addr → Prop
  | nil : FqAll K H [] [] []
  | cons {v vs d ds f g} : Fq K H v d f → FqAll K H vs ds g → (∀ a ∈ f, a ∉ g) → FqAll K H (v :: vs) (d :: ds) (f ++ g)
end
structure KqS (fs : List Addr) (H H' : Hp) : Prop where
  kp : Kp fs H H'
  lst : ∀ b xs, H b = some (.lst xs) → ∃ ys, H' b = some (.lst ys)
  oth : ∀ b o, H b = some o → (∀ xs, o ≠ .lst xs) → H' b = some o
theorem KqS.refl {fs : List Addr} {H : Hp} : KqS fs H H := ⟨Kp.refl, fun _ xs e => ⟨xs, e⟩, fun _ _ e _ => e⟩
theorem KqS.trans {fs : List Addr} {H H1 H2 : Hp} (a : KqS fs H H1) (b : KqS fs H1 H2) : KqS fs H H2 := ⟨a.kp.trans b.kp, fun x xs e => by
  obtain ⟨ys, e1⟩ := a.lst x xs e
  exact b.lst x ys e1, fun x o e n => b.oth x o (a.oth x o e n) n⟩
theorem KqS.mono {fs gs : List Addr} {H H' : Hp} (a : KqS fs H H') (h : ∀ x, x ∈ fs → x ∈ gs) : KqS gs H H' := ⟨a.kp.mono h, a.lst, a.oth⟩
theorem KqS.new {fs : List Addr} {H : Hp} {p : Addr} {o : HO} (h : H p = none) : KqS fs H (upd H p o) := ⟨Kp.new h, fun b xs e => ⟨xs, at_upd (ne_new h e) e⟩, fun b o e _ => at_upd (ne_new h e) e⟩
theorem KqS.put {fs : List Addr} {H : Hp} {p : Addr} {xs ys : List V} (hp : p ∈ fs) (h : H p = some (.lst xs)) : KqS fs H (upd H p (.lst ys)) := ⟨Kp.put hp, fun b zs e => by
  by_cases z : b = p
  · subst z
    exact ⟨ys, upd_same⟩
  · exact ⟨zs, at_upd z e⟩, fun b o e n => at_upd (fun z => by rw [z, h] at e; cases e; exact n _ rfl) e⟩
theorem KqS.sqT {fs : List Addr} {H H' : Hp} {a : Addr} {xs : List V} (k : KqS fs H H') (h : SqT K H a xs) : SqT K H' a xs := by
  rcases h with (e | ⟨o, e⟩) | e
  · exact .inl (.inl (k.oth _ _ e fun _ z => nomatch z))
  · exact .inl (.inr ⟨o, k.oth _ _ e fun _ z => nomatch z⟩)
  · exact .inr e
mutual
theorem Fq.kp {M : List Addr} {H H' : Hp} (k : KqS M H H') : ∀ {v : V} {d : PyData} {fs : List Addr}, Fq K H v d fs → (∀ a ∈ fs, a ∉ M) → Fq K H' v d fs
  | _, _, _, .non, _ => .non
  | _, _, _, .bl b, _ => .bl b
  | _, _, _, .int i, _ => .int i
  | _, _, _, .str x, _ => .str x
  | _, _, _, .lst e r n, h => .lst (k.kp _ _ (h _ List.mem_cons_self) e) (FqAll.kp k r fun a z => h a (List.mem_cons_of_mem _ z)) n
  | _, _, _, .tup e r, h => .tup (k.sqT e) (FqAll.kp k r h)
theorem FqAll.kp {M : List Addr} {H H' : Hp} (k : KqS M H H') : ∀ {vs : List V} {ds : List PyData} {fs : List Addr}, FqAll K H vs ds fs → (∀ a ∈ fs, a ∉ M) → FqAll K H' vs ds fs
  | _, _, _, .nil, _ => .nil
  | _, _, _, .cons r t n, h => .cons (Fq.kp k r fun a z => h a (List.mem_append_left _ z)) (FqAll.kp k t fun a z => h a (List.mem_append_right _ z)) n
end
mutual
theorem Fq.kp0 {H H' : Hp} (k : Kp [] H H') : ∀ {v : V} {d : PyData} {fs : List Addr}, Fq K H v d fs → Fq K H' v d fs
  | _, _, _, .non => .non
  | _, _, _, .bl b => .bl b
  | _, _, _, .int i => .int i
  | _, _, _, .str x => .str x
  | _, _, _, .lst e r n => .lst (k _ _ nil_mem e) (FqAll.kp0 k r) n
  | _, _, _, .tup e r => .tup (k.st nil_mem e) (FqAll.kp0 k r)
theorem FqAll.kp0 {H H' : Hp} (k : Kp [] H H') : ∀ {vs : List V} {ds : List PyData} {fs : List Addr}, FqAll K H vs ds fs → FqAll K H' vs ds fs
  | _, _, _, .nil => .nil
  | _, _, _, .cons r t n => .cons (Fq.kp0 k r) (FqAll.kp0 k t) n
end
mutual
theorem Fq.ex {H : Hp} : ∀ {v : V} {d : PyData} {fs : List Addr}, Fq K H v d fs → ∀ a ∈ fs, ∃ o, H a = some o
  | _, _, _, .non, _, h => by cases h
  | _, _, _, .bl _, _, h => by cases h
  | _, _, _, .int _, _, h => by cases h
  | _, _, _, .str _, _, h => by cases h
  | _, _, _, .lst e r _, a, h => by
    rcases List.mem_cons.mp h with rfl | h
    · exact ⟨_, e⟩
    · exact FqAll.ex r a h
  | _, _, _, .tup e r, a, h => FqAll.ex r a h
theorem FqAll.ex {H : Hp} : ∀ {vs : List V} {ds : List PyData} {fs : List Addr}, FqAll K H vs ds fs → ∀ a ∈ fs, ∃ o, H a = some o
  | _, _, _, .nil, _, h => by cases h
  | _, _, _, .cons r t _, a, h => by
    rcases List.mem_append.mp h with h | h
    · exact Fq.ex r a h
    · exact FqAll.ex t a h
end
--REDEF _law_spoil
def spSpoilQ (K : PySem.W.Frag) (n : Nat) : Sp := fun vs H Q _ => ∃ v d fs, vs = [v] ∧ Fq K H v d fs ∧ dep d ≤ n ∧ wid d < 90000 ∧ ∀ H', KqS fs H H' → Q .non H'
theorem go_spoilQ {n : Nat} {v : V} {d : PyData} {fs : List Addr} {H : Hp} {Q : VK} {E : XK} (h : Fq K H v d fs) (hn : dep d ≤ n) (hw : wid d < 90000) (q : ∀ H', KqS fs H H' → Q .non H') : spSpoilQ K n [v] H Q E := ⟨v, d, fs, rfl, h, hn, hw, q⟩
theorem FqAll.len {H : Hp} : ∀ {vs : List V} {ds : List PyData} {fs : List Addr}, FqAll K H vs ds fs → vs.length = ds.length
  | _, _, _, .nil => rfl
  | _, _, _, .cons _ t _ => congrArg Nat.succ (FqAll.len t)
theorem FqAll.drop {H : Hp} {xs : List V} {es : List PyData} {gs : List Addr} {i : Nat} {x : V} (h : FqAll K H (xs.drop i) es gs) (hx : xs[i]? = some x) : ∃ d ds f g, es = d :: ds ∧ gs = f ++ g ∧ Fq K H x d f ∧ FqAll K H (xs.drop (i + 1)) ds g ∧ ∀ a ∈ f, a ∉ g := by
  obtain ⟨hl, e⟩ := List.getElem?_eq_some_iff.mp hx
  rw [List.drop_eq_getElem_cons hl, e] at h
  cases h with
  | cons r t n => exact ⟨_, _, _, _, rfl, rfl, r, t, n⟩
theorem ok_law_spoilQ_step {n : Nat} (h : DefAt K mg "_law_spoil" ["thing"] s_law_spoil) (g_isinstance : mg "isinstance" = none) (g_list : mg "list" = none) (g_tuple : mg "tuple" = none) (g_len : mg "len" = none)
    {sp : Sp} (D_law_spoil : Okk P w K mg base CX0 k "_law_spoil" ["thing"] sp) (hs : ∀ m vs H Q E, m < n → spSpoilQ K m vs H Q E → sp vs H Q E) : Okk P w K mg base CX0 (k + 1) "_law_spoil" ["thing"] (spSpoilQ K n) := by
  refine h.ok sc_law_spoil ?_ ?_
  · rintro vs H Q E ⟨_, _, _, rfl, _⟩; rfl
  rintro cdv f A outer s H vs Q E hr ⟨v, d, fs, rfl, hv, hn, hw, q⟩
  refine ⟨_, (pss_cons (ps_if (pt_val (pe_callB call_isiT (by rfl) g_isinstance (by decide +kernel) (pa_cons (pv 0) (pa_cons (pe_tup (pa_cons (pe_bltn (v := .ty "list") (by rfl) g_list (by decide +kernel) rfl) (pa_cons (pe_bltn (v := .ty "tuple") (by rfl) g_tuple (by decide +kernel) rfl) pa_nil))) pa_nil)))) (pss_one (ps_for PassesOwn.never rfl (pi_list (pe_callTy cr_list (by rfl) g_list (by decide +kernel) (pa_cons (pv 0) pa_nil))) (pg_name (i := 1) sc_law_spoil.nd rfl (Or.inl rfl))
          (pss_one (ps_expr (pe_own D_law_spoil hr (pa_cons (pv 1) pa_nil)))))) pss_nil)
      (pss_one (ps_if (pt_val (pe_callB call_isi (by rfl) g_isinstance (by decide +kernel) (pa_cons (pv 0) (pa_cons (pe_bltn (v := .ty "list") (by rfl) g_list (by decide +kernel) rfl) pa_nil)))) (pss_cons (ps_if (PW.pt (pw_and (pt_cmpR op_gt (pe_callB cr_len (by rfl) g_len (by decide +kernel) (pa_cons (pv 0) pa_nil)) pe_int (nomark _)) (pw_and1 (pt_not (pt_val (pe_callB call_isiT (by rfl) g_isinstance (by decide +kernel) (pa_cons (pe_ix ix_list (pv 0) pe_int (fun _ _ => rfl)) (pa_cons (pe_tup (pa_cons (pe_bltn (v := .ty "list") (by rfl) g_list (by decide +kernel) rfl) (pa_cons (pe_bltn (v := .ty "tuple") (by rfl) g_tuple (by decide +kernel) rfl) pa_nil))) pa_nil)))))))) (pss_one (ps_asg pe_int (pg_sub (pv 0) pe_int set_list))) pss_nil)
        (pss_one (ps_expr (pe_bm PySem.F.plainAttrs_list PySem.F.slot_list_append PySem.F.type_list_append mt_append (pv 0) (pa_cons pe_int pa_nil))))) pss_nil))), ?_⟩
  cases hv with
  | @lst a xs ds gs hx hA ha =>
    have hn' : depAll ds < n := hn
    have hw' : max ds.length (widAll ds) < 90000 := hw
    have hlen := hA.len
    have hlx : xs.length < 90000 := by omega
    walk_at "go"
    intro tt ftt
    walk_at "go"
    have fresh : ∀ b ∈ gs, b ≠ tt := fun b hb z => by
      obtain ⟨o, e⟩ := hA.ex b hb
      rw [z, ftt] at e
      cases e
    have hx1 : upd H tt (.tup [.ty "list", .ty "tuple"]) a = some (.lst xs) := at_upd (ne_new ftt hx) hx
    refine x_listL (SqL.of hx1) fun l fl => ?_
    obtain ⟨fl1, fl2⟩ := free_upd fl
    have lng : l ∉ gs := fun hb => by
      obtain ⟨o, e⟩ := hA.ex l hb
      rw [fl1] at e
      cases e
    have kk : Kp [] H (upd (upd H tt (.tup [.ty "list", .ty "tuple"])) l (.lst xs)) := (Kp.new ftt).trans (Kp.new fl)
    have ks : KqS gs H (upd (upd H tt (.tup [.ty "list", .ty "tuple"])) l (.lst xs)) := (KqS.new ftt).trans (KqS.new fl)
    have e2 : upd (upd H tt (.tup [.ty "list", .ty "tuple"])) l (.lst xs) l = some (.lst xs) := upd_same
    walk_at "go"
    generalize upd (upd H tt (.tup [.ty "list", .ty "tuple"])) l (.lst xs) = H2 at *
    refine l_list (SqL.of e2) (fun i s' H' => KqS gs H2 H' ∧ (∃ es gs', FqAll K H' (xs.drop i) es gs' ∧ (∀ e ∈ es, e ∈ ds) ∧ (∀ b ∈ gs', b ∈ gs)) ∧ ∃ z1, s' = [some (.ref a), z1]) ⟨KqS.refl, ⟨ds, gs, hA.kp0 kk, fun _ z => z, fun _ z => z⟩, _, rfl⟩ (fun i s' H' _ m => SqL.of (m.1.kp _ _ lng e2)) ?_ ?_
    · rintro i x s' H' hi ⟨kS, ⟨es, gs', hF, he, hg⟩, z1, rfl⟩
      obtain ⟨d, es', f, g, rfl, rfl, hv, ht, hd⟩ := hF.drop hi
      have hw1 := wid_mem (he d List.mem_cons_self)
      walk_at "go"
      refine hs (depAll ds) _ _ _ _ hn' (go_spoilQ hv hw1.2 (by omega) fun H3 k3 => ?_)
      walk_at "go"
      exact ⟨kS.trans (k3.mono fun b z => hg b (List.mem_append_left _ z)), ⟨es', g, ht.kp k3 (fun b z w => hd b w z), fun e z => he e (List.mem_cons_of_mem _ z), fun b z => hg b (List.mem_append_right _ z)⟩, _, rfl⟩
    · rintro s' H' ⟨kS, _, z1, rfl⟩
      have ea : H' a = some (.lst xs) := kS.kp _ _ ha (kk _ _ nil_mem hx)
      have kA : KqS (a :: gs) H H' := (ks.trans kS).mono fun b z => List.mem_cons_of_mem _ z
      cases xs with
      | nil =>
        walk_at "go"
        refine x_append ea (by simp) ?_
        walk_at "go"
        exact q _ (kA.trans (KqS.put List.mem_cons_self ea))
      | cons x0 xt =>
        walk_at "go"
        refine x_decT (by simp) ?_
        cases hA with
        | cons r0 t0 d0 =>
        cases r0 with
        | non =>
          walk_at "go"
          refine x_ixL (SqL.of ea) (at_of (j := 0) rfl rfl) ?_
          walk_at "go"
          intro t2 f2
          walk_at "go"
          have ea2 := (Kp.new (M := []) (o := .tup [V.ty "list", V.ty "tuple"]) f2) _ _ nil_mem ea
          have kB := kA.trans (KqS.new (o := .tup [V.ty "list", V.ty "tuple"]) f2)
          refine x_append upd_same (by simp at hlx ⊢; omega) ?_
          walk_at "go"
          exact q _ ((kB.trans (KqS.put List.mem_cons_self ea2)).trans (KqS.put List.mem_cons_self upd_same))
        | bl _ =>
          walk_at "go"
          refine x_ixL (SqL.of ea) (at_of (j := 0) rfl rfl) ?_
          walk_at "go"
          intro t2 f2
          walk_at "go"
          have ea2 := (Kp.new (M := []) (o := .tup [V.ty "list", V.ty "tuple"]) f2) _ _ nil_mem ea
          have kB := kA.trans (KqS.new (o := .tup [V.ty "list", V.ty "tuple"]) f2)
          refine x_append upd_same (by simp at hlx ⊢; omega) ?_
          walk_at "go"
          exact q _ ((kB.trans (KqS.put List.mem_cons_self ea2)).trans (KqS.put List.mem_cons_self upd_same))
        | int _ =>
          walk_at "go"
          refine x_ixL (SqL.of ea) (at_of (j := 0) rfl rfl) ?_
          walk_at "go"
          intro t2 f2
          walk_at "go"
          have ea2 := (Kp.new (M := []) (o := .tup [V.ty "list", V.ty "tuple"]) f2) _ _ nil_mem ea
          have kB := kA.trans (KqS.new (o := .tup [V.ty "list", V.ty "tuple"]) f2)
          refine x_append upd_same (by simp at hlx ⊢; omega) ?_
          walk_at "go"
          exact q _ ((kB.trans (KqS.put List.mem_cons_self ea2)).trans (KqS.put List.mem_cons_self upd_same))
        | str _ =>
          walk_at "go"
          refine x_ixL (SqL.of ea) (at_of (j := 0) rfl rfl) ?_
          walk_at "go"
          intro t2 f2
          walk_at "go"
          have ea2 := (Kp.new (M := []) (o := .tup [V.ty "list", V.ty "tuple"]) f2) _ _ nil_mem ea
          have kB := kA.trans (KqS.new (o := .tup [V.ty "list", V.ty "tuple"]) f2)
          refine x_append upd_same (by simp at hlx ⊢; omega) ?_
          walk_at "go"
          exact q _ ((kB.trans (KqS.put List.mem_cons_self ea2)).trans (KqS.put List.mem_cons_self upd_same))
        | @lst b ys es' g' hb _ _ =>
          have hb1 := kk _ _ nil_mem hb
          obtain ⟨zs, eb⟩ := kS.lst _ _ hb1
          walk_at "go"
          refine x_ixL (SqL.of ea) (at_of (j := 0) rfl rfl) ?_
          walk_at "go"
          intro t2 f2
          have ea2 := (Kp.new (M := []) (o := .tup [V.ty "list", V.ty "tuple"]) f2) _ _ nil_mem ea
          have eb2 := (Kp.new (M := []) (o := .tup [V.ty "list", V.ty "tuple"]) f2) _ _ nil_mem eb
          have kB := kA.trans (KqS.new (o := .tup [V.ty "list", V.ty "tuple"]) f2)
          walk_at "go"
          refine x_append ea2 (by simp at hlx ⊢; omega) ?_
          walk_at "go"
          exact q _ (kB.trans (KqS.put List.mem_cons_self ea2))
        | @tup b ys es' g' hb _ =>
          have hb1 := kk.st nil_mem hb
          have eb := kS.sqT hb1
          walk_at "go"
          refine x_ixL (SqL.of ea) (at_of (j := 0) rfl rfl) ?_
          walk_at "go"
          intro t2 f2
          have ea2 := (Kp.new (M := []) (o := .tup [V.ty "list", V.ty "tuple"]) f2) _ _ nil_mem ea
          have eb2 := (Kp.new (M := []) (o := .tup [V.ty "list", V.ty "tuple"]) f2).st nil_mem eb
          have kB := kA.trans (KqS.new (o := .tup [V.ty "list", V.ty "tuple"]) f2)
          walk_at "go"
          refine x_append ea2 (by simp at hlx ⊢; omega) ?_
          walk_at "go"
          exact q _ (kB.trans (KqS.put List.mem_cons_self ea2))
  | @tup a xs ds _ hx hA =>
    have hn' : depAll ds < n := hn
    have hw' : max ds.length (widAll ds) < 90000 := hw
    have hlen := hA.len
    walk_at "go"
    intro tt ftt
    walk_at "go"
    have hx1 := (Kp.new (M := []) (o := .tup [V.ty "list", V.ty "tuple"]) ftt).st nil_mem hx
    refine x_listT hx1 fun l fl => ?_
    obtain ⟨fl1, fl2⟩ := free_upd fl
    have lng : l ∉ fs := fun hb => by
      obtain ⟨o, e⟩ := hA.ex l hb
      rw [fl1] at e
      cases e
    have kk : Kp [] H (upd (upd H tt (.tup [.ty "list", .ty "tuple"])) l (.lst xs)) := (Kp.new ftt).trans (Kp.new fl)
    have ks : KqS fs H (upd (upd H tt (.tup [.ty "list", .ty "tuple"])) l (.lst xs)) := (KqS.new ftt).trans (KqS.new fl)
    have e2 : upd (upd H tt (.tup [.ty "list", .ty "tuple"])) l (.lst xs) l = some (.lst xs) := upd_same
    walk_at "go"
    generalize upd (upd H tt (.tup [.ty "list", .ty "tuple"])) l (.lst xs) = H2 at *
    refine l_list (SqL.of e2) (fun i s' H' => KqS fs H2 H' ∧ (∃ es gs', FqAll K H' (xs.drop i) es gs' ∧ (∀ e ∈ es, e ∈ ds) ∧ (∀ b ∈ gs', b ∈ fs)) ∧ ∃ z1, s' = [some (.ref a), z1]) ⟨KqS.refl, ⟨ds, fs, hA.kp0 kk, fun _ z => z, fun _ z => z⟩, _, rfl⟩ (fun i s' H' _ m => SqL.of (m.1.kp _ _ lng e2)) ?_ ?_
    · rintro i x s' H' hi ⟨kS, ⟨es, gs', hF, he, hg⟩, z1, rfl⟩
      obtain ⟨d, es', f, g, rfl, rfl, hv, ht, hd⟩ := hF.drop hi
      have hw1 := wid_mem (he d List.mem_cons_self)
      walk_at "go"
      refine hs (depAll ds) _ _ _ _ hn' (go_spoilQ hv hw1.2 (by omega) fun H3 k3 => ?_)
      walk_at "go"
      exact ⟨kS.trans (k3.mono fun b z => hg b (List.mem_append_left _ z)), ⟨es', g, ht.kp k3 (fun b z w => hd b w z), fun e z => he e (List.mem_cons_of_mem _ z), fun b z => hg b (List.mem_append_right _ z)⟩, _, rfl⟩
    · rintro s' H' ⟨kS, _, z1, rfl⟩
      have ea := kS.sqT (kk.st nil_mem hx)
      have kA : KqS fs H H' := ks.trans kS
      walk_at "go"
      exact q _ kA
  | non =>
    walk_at "go"
    intro tt ftt
    walk_at "go"
    exact q _ (KqS.new ftt)
  | bl b =>
    walk_at "go"
    intro tt ftt
    walk_at "go"
    exact q _ (KqS.new ftt)
  | int b =>
    walk_at "go"
    intro tt ftt
    walk_at "go"
    exact q _ (KqS.new ftt)
  | str b =>
    walk_at "go"
    intro tt ftt
    walk_at "go"
    exact q _ (KqS.new ftt)
theorem ok_law_spoilQ (h : DefAt K mg "_law_spoil" ["thing"] s_law_spoil) (g_isinstance : mg "isinstance" = none) (g_list : mg "list" = none) (g_tuple : mg "tuple" = none) (g_len : mg "len" = none) : ∀ n, Okk P w K mg base CX0 (n + 1) "_law_spoil" ["thing"] (spSpoilQ K n)
  | 0 => ok_law_spoilQ_step (k := 0) h g_isinstance g_list g_tuple g_len h.never fun _ _ _ _ _ z => absurd z (Nat.not_lt_zero _)
  | n + 1 => ok_law_spoilQ_step h g_isinstance g_list g_tuple g_len (ok_law_spoilQ h g_isinstance g_list g_tuple g_len n) fun m vs H Q E hm z => by
    obtain ⟨x, d, fs, h1, h2, h3, h4, h5⟩ := z
    exact ⟨x, d, fs, h1, h2, by omega, h4, h5⟩
mutual
/-- nothing within can be changed -/
def D.imm : D → Bool
  | .lst _ => false
  | .obj _ _ => false
  | .tup l => D.imms l
  | _ => true
def D.imms : List D → Bool
  | [] => true
  | d :: l => d.imm && D.imms l
end
mutual
/-- what can be changed within is one's own -/
def T.soft : T → Bool
  | .d x => x.imm
  | .lst l => T.softs l
  | .tup l => T.softs l
def T.softs : List T → Bool
  | [] => true
  | t :: l => t.soft && T.softs l
end
theorem T.softs_all : ∀ {l : List T}, (∀ t ∈ l, t.soft = true) → T.softs l = true
  | [], _ => rfl
  | t :: l, h => by
    show (t.soft && T.softs l) = true
    rw [h t List.mem_cons_self, T.softs_all fun x z => h x (List.mem_cons_of_mem _ z)]
    rfl
theorem soft_row {l : List D} (h : ∀ d ∈ l, d.imm = true) : (T.row l).soft = true := T.softs_all fun t z => by
  obtain ⟨d, hd, rfl⟩ := List.mem_map.mp z
  exact h d hd
theorem imms_all : ∀ {l : List D}, (∀ d ∈ l, d.imm = true) → D.imms l = true
  | [], _ => rfl
  | d :: l, h => by
    show (d.imm && D.imms l) = true
    rw [h d List.mem_cons_self, imms_all fun x z => h x (List.mem_cons_of_mem _ z)]
    rfl
mutual
theorem T.soft_of : ∀ {t : T}, t.full = true → t.soft = true
  | .d x, h => by
    cases x with
    | lst l => cases h
    | tup l => cases h
    | obj C fs => cases h
    | _ => rfl
  | .lst l, h => T.softs_of (l := l) h
  | .tup l, h => T.softs_of (l := l) h
theorem T.softs_of : ∀ {l : List T}, T.fullL l = true → T.softs l = true
  | [], _ => rfl
  | t :: l, h => by
    obtain ⟨h1, h2⟩ := andB (show (t.full && T.fullL l) = true from h)
    show (t.soft && T.softs l) = true
    rw [T.soft_of h1, T.softs_of h2]
    rfl
end
section
variable {A : Addr → Prop} {H : Hp}
mutual
theorem Dt.fq : ∀ {v : V} {x : D}, Dt A K H v x → x.imm = true → Fq K H v x.py []
  | _, _, .non, _ => .non
  | _, _, .bl b, _ => .bl b
  | _, _, .int i, _ => .int i
  | _, _, .str x, _ => .str x
  | _, _, .lst _ _ _, h => by cases h
  | _, _, .tup s r, h => .tup (sqT_of s) (DtL.fq r h)
  | _, _, .obj _ _ _ _ _, h => by cases h
theorem DtL.fq : ∀ {v : List V} {x : List D}, DtL A K H v x → D.imms x = true → FqAll K H v (D.pys x) []
  | _, _, .nil, _ => .nil
  | _, _, .cons (d := d) (ds := ds) r t, h => by
    obtain ⟨h1, h2⟩ := andB (show (d.imm && D.imms ds) = true from h)
    exact .cons (f := []) (g := []) (Dt.fq r h1) (DtL.fq t h2) fun _ z => nomatch z
end
mutual
theorem Own.fq : ∀ {v : V} {t : T} {F : List Addr}, Own A K H v t F → t.soft = true → ∃ G, Fq K H v t.data.py G ∧ ∀ a ∈ G, a ∈ F
  | _, _, _, .d r, h => ⟨[], r.fq h, fun _ z => nomatch z⟩
  | _, _, _, .lst e r n, h => by
    obtain ⟨G, r', s⟩ := OwnL.fq r h
    exact ⟨_ :: G, .lst e r' fun z => n (s _ z), fun a z => (List.mem_cons.mp z).elim (fun e => e ▸ List.mem_cons_self) fun z => List.mem_cons_of_mem _ (s a z)⟩
  | _, _, _, .tup e r n, h => by
    obtain ⟨G, r', s⟩ := OwnL.fq r h
    exact ⟨G, .tup (SqT.of e) r', fun a z => List.mem_cons_of_mem _ (s a z)⟩
theorem OwnL.fq : ∀ {v : List V} {t : List T} {F : List Addr}, OwnL A K H v t F → T.softs t = true → ∃ G, FqAll K H v (D.pys (T.datas t)) G ∧ ∀ a ∈ G, a ∈ F
  | _, _, _, .nil, _ => ⟨[], .nil, fun _ z => nomatch z⟩
  | _, _, _, .cons (t := t) (ts := ts) r q n, h => by
    obtain ⟨h1, h2⟩ := andB (show (t.soft && T.softs ts) = true from h)
    obtain ⟨G1, r1, s1⟩ := Own.fq r h1
    obtain ⟨G2, r2, s2⟩ := OwnL.fq q h2
    refine ⟨G1 ++ G2, .cons r1 r2 fun a z y => n a (s1 a z) (s2 a y), fun a z => ?_⟩
    rcases List.mem_append.mp z with z | z
    · exact List.mem_append_left _ (s1 a z)
    · exact List.mem_append_right _ (s2 a z)
end
end
section
variable {f : Fr} {ρ ρ' : List Cell} {i : Nat} {x : T} {Dn : Pn}
/-- _law_spoil(x), tuples within x may be shared: x is lost -/
theorem es_spoilQ (ok : f.Ok) {n : Nat} {E : XK} (e : CAt ρ i (.t x)) (hx : x.soft = true) (hn : dep x.data.py ≤ n) (hw : wid x.data.py < 90000) (n1 : noP ρ = true) (s : CSet ρ i .dead ρ') (q : Dn.nx ρ') : Es f ρ (tDrop (tCall (spSpoilQ f.K n) [] E (tCons (tVar i) tNil))) Dn := fun φ us σ H E' W k1 _ _ _ => by
  obtain ⟨g, R⟩ := W.rep
  rw [List.append_nil, List.append_nil] at R
  have hi := s.lt
  have hi2 : i < σ.length := by have := W.l1; have := W.l2; omega
  obtain ⟨v, F, e1, o, hF⟩ := R.tcell (i := i) (x := x) (by rw [List.getElem?_append_left hi]; exact e.eq)
  rw [List.getElem?_append_left hi2] at e1
  have npl : noPl i (ρ ++ φ) := fun c hc j p e => by
    rcases List.mem_append.mp hc with hc | hc
    · exact noP_ok n1 c hc j p e
    · obtain ⟨z, hz⟩ := W.fz c hc
      rw [e] at hz
      cases hz
  refine x_call ⟨v, e1, ?_⟩
  obtain ⟨G, hq, hG⟩ := o.fq hx
  show spSpoilQ f.K n [v] H (fun _ H1 => E'.nx σ H1) E
  refine go_spoilQ hq hn hw fun H' ks => ?_
  have ks := ks.mono hG
  have R2 := R.pokes ok hF (by simp; omega) npl ks.kp fun a z => by
    obtain ⟨vs, y | y⟩ := o.seq a z
    · obtain ⟨ys, y'⟩ := ks.lst a vs y
      exact ⟨_, y'⟩
    · exact ⟨_, ks.oth a _ y fun _ z => nomatch z⟩
  rw [List.set_append_left _ _ hi, s.eq] at R2
  refine k1 _ _ _ q ⟨by rw [← s.eq]; simp [W.l1], W.l2, W.l3, rfl, W.fz, W.lk_, g, ?_⟩
  rw [List.append_nil, List.append_nil]
  exact R2
end
section
variable {f : Fr} {ρ ρ' τ : List Cell} {Dn : Pn} {te : TE}
/-- _law_spoil of what was made for it -/
theorem es_spoilT (ok : f.Ok) {n : Nat} {E : XK} (q : Ev f true ρ [] te fun c ρ1 => ∃ x, c = .t x ∧ x.soft = true ∧ dep x.data.py ≤ n ∧ wid x.data.py < 90000 ∧ noP ρ1 = true ∧ Dn.nx ρ1) : Es f ρ (tDrop (tCall (spSpoilQ f.K n) [] E (tCons te tNil))) Dn := fun φ us σ H E' W k1 _ _ _ => by
  refine x_call (q φ us σ [] H _ W fun c ρ1 v H1 ⟨x, ec, hx, hn, hw, n1, q1⟩ W1 => ?_)
  subst ec
  obtain ⟨g, R⟩ := W1.rep
  have hb := W1.base
  obtain ⟨v', F, e1, o, hF⟩ := R.tcell (i := (ρ1 ++ φ).length) (x := x) (by rw [List.getElem?_append_right (Nat.le_refl _), Nat.sub_self]; rfl)
  rw [hb, List.getElem?_append_right (Nat.le_refl _), Nat.sub_self] at e1
  cases e1
  have npl : noPl (ρ1 ++ φ).length ((ρ1 ++ φ) ++ ([] ++ [.t x])) := fun c hc j p e => by
    rcases List.mem_append.mp hc with hc | hc
    · rcases List.mem_append.mp hc with hc | hc
      · exact noP_ok n1 c hc j p e
      · obtain ⟨z, hz⟩ := W1.fz c hc
        rw [e] at hz
        cases hz
    · rw [List.mem_singleton.mp hc] at e
      cases e
  obtain ⟨G, hq, hG⟩ := o.fq hx
  show spSpoilQ f.K n [v] H1 (fun _ H1 => E'.nx σ H1) E
  refine go_spoilQ hq hn hw fun H' ks => ?_
  have ks := ks.mono hG
  have R2 := R.pokes ok hF (by simp) npl ks.kp fun a z => by
    obtain ⟨vs, y | y⟩ := o.seq a z
    · obtain ⟨ys, y'⟩ := ks.lst a vs y
      exact ⟨_, y'⟩
    · exact ⟨_, ks.oth a _ y fun _ z => nomatch z⟩
  have W2 : Wd f φ us ρ1 ([] ++ [.dead]) σ ([] ++ [some v]) H' := by
    refine ⟨W1.l1, W1.l2, W1.l3, rfl, W1.fz, W1.lk_, g, ?_⟩
    rw [List.set_append_right _ _ (Nat.le_refl _), Nat.sub_self] at R2
    exact R2
  exact k1 _ _ _ q1 (W2.pop (τ := []) (ws := []) (cs := [.dead]) (vs := [some v]) rfl)
end
theorem row3_prD {r : Br} (h1 : r.band.length ≤ 100) (h2 : r.free.length ≤ 100) : PrD 3 90000 (.tup [dIs r.band, dIs r.free, .int r.exc]) := by
  refine prD_tup (n := 2) (fun d hd => ?_) (by show 3 < 90000; decide)
  simp only [List.mem_cons, List.not_mem_nil, or_false] at hd
  rcases hd with rfl | rfl | rfl
  · exact prD_ints (by decide) (by omega)
  · exact prD_ints (by decide) (by omega)
  · exact prD_sc rfl (by decide)
abbrev s_law_right : Stmt := topS 90
theorem sc_law_right : FnScope ["told", "due", "block"] ["told", "due"] (defScope s_law_right) := ⟨rfl, rfl, rfl, by decide +kernel, rfl, by decide +kernel, by decide +kernel⟩
--DEF _law_right
abbrev eRt17 (C : Addr) : Br → List D := fun r => [.tup [.str "told", brBlk C r], dueB r]
set_option maxHeartbeats 8000000 in
theorem ok_law_right {C_Block : Addr} (h : DefAt K mg "_law_right" ["told", "due"] s_law_right) (g_isinstance : mg "isinstance" = none) (g_Block : mg "Block" = some (.ref C_Block)) (iC : IsiC K C_Block)
    (P_Block_band : PropAt P w K mg base k C_Block "band" (PF K (fun r : Br => [.obj C_Block r.fields]) (fun _ => True) fun r v => v = T.row (r.band.map .int)))
    (P_Block_names : PropAt P w K mg base k C_Block "names" (PF K (fun r : Br => [.obj C_Block r.fields]) (fun _ => True) fun r v => v = T.row (r.free.map .int)))
    (P_Block_excess : PropAt P w K mg base k C_Block "excess" (PF K (fun r : Br => [.obj C_Block r.fields]) (fun _ => True) fun r v => v = .d (.int r.exc)))
    (D_law_same : Okk P w K mg base CX0 (k + 1) "_law_same" ["told", "due"] (spSameV K 4)) (D_law_spoil : Okk P w K mg base CX0 (k + 1) "_law_spoil" ["thing"] (spSpoilQ K 4)) :
    Okk P w K mg base CX0 (k + 1 + 1) "_law_right" ["told", "due"] (PF K (eRt17 C_Block) (fun r => r.band.length ≤ 100 ∧ r.free.length ≤ 100) fun _ v => v = .d (.bl true)) := by
  refine DefAt.pf h sc_law_right ?_ ?_ fun cdv f A outer s H E hr => ⟨_, (pss_cons (ps_if (PW.pt (pw_or (pt_cmpR op_ne (pe_ix ix_tup (pv 0) pe_int (fun _ _ => rfl)) pe_str (nomark _)) (pw_or1 (pt_cmpR op_isN' (pv 1) pe_non (nomark _))))) (pss_one (ps_ret (pe_own D_law_same hr (pa_cons (pv 0) (pa_cons (pe_tup (pa_cons pe_str (pa_cons (pv 1) pa_nil))) pa_nil))))) pss_nil)
      (pss_cons (ps_set (i := 2) sc_law_right.nd rfl (Or.inl rfl) (pe_ix ix_tup (pv 0) pe_int (fun _ _ => rfl)))
      (pss_cons (ps_if (PW.pt (pw_or (pt_not (pt_val (pe_callB call_isi (by rfl) g_isinstance (by decide +kernel) (pa_cons (pv 2) (pa_cons (pe_glob (v := .ref C_Block) rfl g_Block rfl) pa_nil))))) (pw_or1 (pt_not (pt_val (pe_own D_law_same hr (pa_cons (pe_tup (pa_cons (pe_propL P_Block_band hr (pv 2)) (pa_cons (pe_propL P_Block_names hr (pv 2)) (pa_cons (pe_propL P_Block_excess hr (pv 2)) pa_nil)))) (pa_cons (pv 1) pa_nil)))))))) (pss_one (ps_ret pe_bl)) pss_nil)
      (pss_cons (ps_expr (pe_own D_law_spoil hr (pa_cons (pe_tup (pa_cons (pe_propL P_Block_band hr (pv 2)) (pa_cons (pe_propL P_Block_names hr (pv 2)) pa_nil))) pa_nil)))
      (pss_one (ps_ret (pe_own D_law_same hr (pa_cons (pe_tup (pa_cons (pe_propL P_Block_band hr (pv 2)) (pa_cons (pe_propL P_Block_names hr (pv 2)) (pa_cons (pe_propL P_Block_excess hr (pv 2)) pa_nil)))) (pa_cons (pv 1) pa_nil))))))))), ?_⟩
  · rintro n _; rfl
  · rintro n r _ rfl; rfl
  rintro r ⟨h1, h2⟩
  have ok := okN (K := K) (A := fun _ => True) (H0 := H) (n := 3)
  have p3 := row3_prD h1 h2
  by_cases z : r.exc ≤ 0
  · have e1 : brBlk C_Block r = .non := by unfold brBlk; rw [if_pos z]
    have e2 : dueB r = .non := by unfold dueB; rw [if_pos z]
    dsimp only [eRt17]
    rw [e1, e2]
    have pn : PrD 3 90000 (.tup [.str "told", .non]) := prD_two (prD_sc rfl (by decide)) (prD_sc rfl (by decide)) (by decide)
    walk_at "ev0"
    refine x_ifp rfl ?_
    walk_at "ev"
    refine ⟨(.tup [.str "told", .non], .tup [.str "told", .non]), .cons (.t rfl) (.cons (.t rfl) .nil), ⟨pn.p, pn.mono (by decide) (by decide)⟩, ?_⟩
    rintro r ⟨b, rfl, hb⟩
    obtain rfl : b = true := hb.mpr rfl
    walk_at "ev"
    rfl
  · have e1 : brBlk C_Block r = .obj C_Block r.fields := by unfold brBlk; rw [if_neg z]
    have e2 : dueB r = .tup [dIs r.band, dIs r.free, .int r.exc] := by unfold dueB; rw [if_neg z]
    dsimp only [eRt17]
    rw [e1, e2]
    simp only [LN.startC, List.length_cons, List.length_nil, Nat.reduceAdd, L2.cxOf, L2.Cx.nox, List.map_cons, List.map_nil]
    refine es_cut (fun ρ => ρ = [cD (.tup [.str "told", .obj C_Block r.fields]), cD (.tup [dIs r.band, dIs r.free, .int r.exc]), .dead]) ?_ ?_
    · walk_at "ev"
      refine x_ifn (fun z => nomatch z) ?_
      walk_at "ev"
      rfl
    rintro ρ rfl
    refine es_cut (fun ρ => ρ = [cD (.tup [.str "told", .obj C_Block r.fields]), cD (.tup [dIs r.band, dIs r.free, .int r.exc]), cD (.obj C_Block r.fields)]) (by walk_at "ev"; rfl) ?_
    rintro ρ rfl
    have trip : D.tup (T.datas [T.row (r.band.map .int), T.row (r.free.map .int), T.d (.int r.exc)]) = .tup [dIs r.band, dIs r.free, .int r.exc] := by
      show D.tup [T.data _, T.data _, _] = _
      rw [T.data_row, T.data_row]
      rfl
    refine es_cut (fun ρ => ρ = [cD (.tup [.str "told", .obj C_Block r.fields]), cD (.tup [dIs r.band, dIs r.free, .int r.exc]), cD (.obj C_Block r.fields)]) ?_ ?_
    · walk_at "ev1"
      walk_at "ev1"
      walk_at "ev1"
      walk_at "ev1"
      refine ev_isiO iC ?_
      walk_at "ev"
      refine ⟨.obj C_Block r.fields, true, .t rfl, .obj _, ?_⟩
      walk_at "ev"
      refine ⟨r, r.fields, rfl, rfl, trivial, ?_⟩
      rintro v rfl
      walk_at "ev"
      refine ⟨r, r.fields, rfl, rfl, trivial, ?_⟩
      rintro v rfl
      walk_at "ev"
      refine ⟨r, r.fields, rfl, rfl, trivial, ?_⟩
      rintro v rfl
      walk_at "ev"
      refine ⟨(.tup [dIs r.band, dIs r.free, .int r.exc], .tup [dIs r.band, dIs r.free, .int r.exc]), .cons (.t trip) (.cons (.t rfl) .nil), ⟨p3.p, p3.mono (by decide) (by decide)⟩, ?_⟩
      rintro v ⟨b, rfl, hb⟩
      obtain rfl : b = true := hb.mpr rfl
      walk_at "ev"
      rfl
    rintro ρ rfl
    refine es_seq (es_spoilT ok ?_)
    walk_at "ev"
    refine ⟨r, r.fields, rfl, rfl, trivial, ?_⟩
    rintro v rfl
    walk_at "ev"
    refine ⟨r, r.fields, rfl, rfl, trivial, ?_⟩
    rintro v rfl
    have two : D.tup (T.datas [T.row (r.band.map .int), T.row (r.free.map .int)]) = .tup [dIs r.band, dIs r.free] := by
      show D.tup [T.data _, T.data _] = _
      rw [T.data_row, T.data_row]
    have p2 : PrD 2 90000 (.tup [dIs r.band, dIs r.free]) := prD_two (prD_ints (by decide) (by omega)) (prD_ints (by decide) (by omega)) (by decide)
    walk_at "ev"
    refine ⟨T.soft_of (by
      show (T.full _ && (T.full _ && true)) = true
      rw [full_ints, full_ints]
      rfl), by rw [show (T.tup [T.row (r.band.map .int), T.row (r.free.map .int)]).data = _ from two]; exact Nat.le_trans p2.d (by decide), by rw [show (T.tup [T.row (r.band.map .int), T.row (r.free.map .int)]).data = _ from two]; exact p2.w, rfl, ?_⟩
    walk_at "ev"
    refine ⟨r, r.fields, rfl, rfl, trivial, ?_⟩
    rintro v rfl
    walk_at "ev"
    refine ⟨r, r.fields, rfl, rfl, trivial, ?_⟩
    rintro v rfl
    walk_at "ev"
    refine ⟨r, r.fields, rfl, rfl, trivial, ?_⟩
    rintro v rfl
    walk_at "ev"
    refine ⟨(.tup [dIs r.band, dIs r.free, .int r.exc], .tup [dIs r.band, dIs r.free, .int r.exc]), .cons (.t trip) (.cons (.t rfl) .nil), ⟨p3.p, p3.mono (by decide) (by decide)⟩, ?_⟩
    rintro v ⟨b, rfl, hb⟩
    obtain rfl : b = true := hb.mpr rfl
    walk_at "ev"
    rfl
abbrev s_law_refused : Stmt := topS 91
theorem sc_law_refused : FnScope ["caught", "told"] ["caught"] (defScope s_law_refused) := ⟨rfl, rfl, rfl, by decide +kernel, rfl, by decide +kernel, by decide +kernel⟩
--DEF _law_refused
/-- what _law_refused tells of an error -/
inductive RefR (C_Over : Addr) : Addr → List (Str × V) → T → Prop
  | c_Over : RefR C_Over C_Over [] (.tup [.d (.str "Over")])
def refDom (C_Over : Addr) (C : Addr) (fs : List (Str × V)) : Prop := ∃ r, RefR C_Over C fs r
theorem kit_ne {C D : Addr} (h1 : PySem.W.kitOne K (.ref C) (.ref D) = some false) (h2 : PySem.W.kitOne K (.ref C) (.ref C) = some true) : C ≠ D := fun e => by rw [← e, h2] at h1; cases h1
theorem x_fldR {a dd : Addr} {f : Str} {te : TE} {fs : List (Str × V)} {v : V} {σ : St} {H : Hp} {Q : VK} (q : te σ H fun x H1 => x = .ref a ∧ H1 dd = some (.xd fs) ∧ fs.lookup f = some v ∧ Q v H1) (mono : ∀ A B : VK, (∀ x H1, A x H1 → B x H1) → te σ H A → te σ H B) : tFld a (some dd) f te σ H Q :=
  mono _ _ (fun x H1 ⟨h1, h2, h3, h4⟩ => ⟨h1, dd, fs, v, rfl, h2, h3, h4⟩) q
theorem x_isD1 {D a C : Addr} {d : Option Addr} {H : Hp} {Q : VK} {b : Bool} (hk : PySem.W.kitOne K (.ref D) (.ref C) = some b) (hd : DictAt H d) (q : Q (.bl b) H) : rIsiD K D a d [.ref a, .ref C] H Q := ⟨_, _, b, rfl, .own C, hk, hd, q⟩
theorem x_isD2 {D a : Addr} {d : Option Addr} {H : Hp} {Q : VK} {n : String} {b : Bool} (hk : PySem.W.kitOne K (.ref D) (.type n) = some b) (hd : DictAt H d) (q : Q (.bl b) H) : rIsiD K D a d [.ref a, .ty n] H Q := ⟨_, _, b, rfl, .ty n, hk, hd, q⟩
theorem x_isDT {D a tp : Addr} {d : Option Addr} {H : Hp} {Q : VK} {cs : List V} {us : List Value} {b : Bool} (ht : H tp = some (.tup cs)) (hc : Paired ClsV cs us) (hk : PySem.W.kitAny K (.ref D) us = some b) (hd : DictAt H d) (q : Q (.bl b) H) : rIsiDT K D a d [.ref a, .ref tp] H Q := ⟨tp, cs, us, b, rfl, ht, hc, hk, hd, q⟩
set_option maxHeartbeats 8000000 in
theorem ok_law_refused (h : DefAt K mg "_law_refused" ["caught"] s_law_refused) (g_isinstance : mg "isinstance" = none) (g_ValueError : mg "ValueError" = none) (g_len : mg "len" = none) {C_Over C_NoDeed C_StampTaken C_BadStamp C_BadDeed C_NoPost C_LastName C_Different C_Shared C_Clash C_NoBottom C_NotNear C_NotObtainable C_NotLast C_NoPairing C_BadBargain C_NoBlock C_BadSpan C_OutOfRank C_Unfinished C_BadStrike C_BadSum C_TooMuch C_BadTable C_BadSize C_BadOrder C_BadStages C_BadSet C_BadWeaving C_TiedRanks C_BadChooser C_Fallen C_Unknown C_Unequal C_BadPlace C_BadRange C_BadRanking C_BadShare C_Doubled C_BadWord C_TooMany C_Empty C_BadLine C_OfficeError : Addr} (g_Over : mg "Over" = some (.ref C_Over)) (g_NoDeed : mg "NoDeed" = some (.ref C_NoDeed)) (g_StampTaken : mg "StampTaken" = some (.ref C_StampTaken)) (g_BadStamp : mg "BadStamp" = some (.ref C_BadStamp)) (g_BadDeed : mg "BadDeed" = some (.ref C_BadDeed)) (g_NoPost : mg "NoPost" = some (.ref C_NoPost)) (g_LastName : mg "LastName" = some (.ref C_LastName)) (g_Different : mg "Different" = some (.ref C_Different)) (g_Shared : mg "Shared" = some (.ref C_Shared)) (g_Clash : mg "Clash" = some (.ref C_Clash)) (g_NoBottom : mg "NoBottom" = some (.ref C_NoBottom)) (g_NotNear : mg "NotNear" = some (.ref C_NotNear)) (g_NotObtainable : mg "NotObtainable" = some (.ref C_NotObtainable)) (g_NotLast : mg "NotLast" = some (.ref C_NotLast)) (g_NoPairing : mg "NoPairing" = some (.ref C_NoPairing)) (g_BadBargain : mg "BadBargain" = some (.ref C_BadBargain)) (g_NoBlock : mg "NoBlock" = some (.ref C_NoBlock)) (g_BadSpan : mg "BadSpan" = some (.ref C_BadSpan)) (g_OutOfRank : mg "OutOfRank" = some (.ref C_OutOfRank)) (g_Unfinished : mg "Unfinished" = some (.ref C_Unfinished)) (g_BadStrike : mg "BadStrike" = some (.ref C_BadStrike)) (g_BadSum : mg "BadSum" = some (.ref C_BadSum)) (g_TooMuch : mg "TooMuch" = some (.ref C_TooMuch)) (g_BadTable : mg "BadTable" = some (.ref C_BadTable)) (g_BadSize : mg "BadSize" = some (.ref C_BadSize)) (g_BadOrder : mg "BadOrder" = some (.ref C_BadOrder)) (g_BadStages : mg "BadStages" = some (.ref C_BadStages)) (g_BadSet : mg "BadSet" = some (.ref C_BadSet)) (g_BadWeaving : mg "BadWeaving" = some (.ref C_BadWeaving)) (g_TiedRanks : mg "TiedRanks" = some (.ref C_TiedRanks)) (g_BadChooser : mg "BadChooser" = some (.ref C_BadChooser)) (g_Fallen : mg "Fallen" = some (.ref C_Fallen)) (g_Unknown : mg "Unknown" = some (.ref C_Unknown)) (g_Unequal : mg "Unequal" = some (.ref C_Unequal)) (g_BadPlace : mg "BadPlace" = some (.ref C_BadPlace)) (g_BadRange : mg "BadRange" = some (.ref C_BadRange)) (g_BadRanking : mg "BadRanking" = some (.ref C_BadRanking)) (g_BadShare : mg "BadShare" = some (.ref C_BadShare)) (g_Doubled : mg "Doubled" = some (.ref C_Doubled)) (g_BadWord : mg "BadWord" = some (.ref C_BadWord)) (g_TooMany : mg "TooMany" = some (.ref C_TooMany)) (g_Empty : mg "Empty" = some (.ref C_Empty)) (g_BadLine : mg "BadLine" = some (.ref C_BadLine)) (g_OfficeError : mg "OfficeError" = some (.ref C_OfficeError)) (X_Over : ExcC K C_Over) (k_Over_Over : PySem.W.kitOne K (.ref C_Over) (.ref C_Over) = some true) (ko_Over : PySem.W.kitOne K (.ref C_Over) (.ref C_OfficeError) = some true) (kv_Over : PySem.W.kitOne K (.ref C_Over) (.type "ValueError") = some true) (a_Over_0 : PySem.W.kitAny K (.ref C_Over) [.ref C_BadLine, .ref C_Empty, .ref C_TooMany, .ref C_BadWord, .ref C_Doubled, .ref C_BadShare, .ref C_BadRanking, .ref C_BadRange, .ref C_BadPlace, .ref C_Unequal, .ref C_Unknown, .ref C_Fallen, .ref C_BadChooser, .ref C_TiedRanks, .ref C_BadWeaving, .ref C_BadSet, .ref C_BadStages, .ref C_BadOrder, .ref C_BadSize, .ref C_BadTable, .ref C_TooMuch, .ref C_BadSum, .ref C_BadStrike, .ref C_Unfinished, .ref C_OutOfRank, .ref C_BadSpan, .ref C_NoBlock, .ref C_BadBargain, .ref C_NoPairing, .ref C_NotLast, .ref C_NotObtainable, .ref C_NotNear, .ref C_NoBottom, .ref C_Clash, .ref C_Shared, .ref C_Different, .ref C_LastName, .ref C_NoPost, .ref C_BadDeed, .ref C_BadStamp, .ref C_StampTaken, .ref C_NoDeed] = some false) :
    OkE P w K mg base (k + 1) "_law_refused" ["caught"] (PFR K (refDom C_Over) (RefR C_Over)) := by
  refine h.okE sc_law_refused ?_ ?_
  · rintro p vs H Q E ⟨rfl, _⟩; rfl
  rintro cdv f A outer s H vs Q ⟨a, oe⟩ hr ⟨rfl, C, d, fs, ⟨r0, hR⟩, hE, hX, q⟩
  cases hR with
  | c_Over =>
    have kE : KitE K C_Over a oe d := kitE_of X_Over hE
    have hC := X_Over
    rcases hX with ⟨_, rfl⟩ | ⟨z, _⟩
    rotate_left
    · exact absurd rfl z
    have hD : DictAt H none := DictAt.none
    refine ⟨_, (pss_cons (ps_set (i := 1) sc_law_refused.nd rfl (Or.inl rfl) (pe_lst pa_nil))
      (pss_cons (ps_if (pt_val (pe_callB (call_isiD (a := a) (oe := oe) List.mem_cons_self kE) (by rfl) g_isinstance (by decide +kernel) (pa_cons (pv 0) (pa_cons (pe_glob (v := .ref C_Over) rfl g_Over rfl) pa_nil)))) (pss_one (ps_expr (pe_bm PySem.F.plainAttrs_list PySem.F.slot_list_append PySem.F.type_list_append mt_append (pv 1) (pa_cons (pe_tup (pa_cons pe_str pa_nil)) pa_nil)))) pss_nil)
      (pss_cons (ps_if (pt_val (pe_callB (call_isiDT (a := a) (oe := oe) List.mem_cons_self kE) (by rfl) g_isinstance (by decide +kernel) (pa_cons (pv 0) (pa_cons (pe_tup (pa_cons (pe_glob (v := .ref C_BadLine) rfl g_BadLine rfl) (pa_cons (pe_glob (v := .ref C_Empty) rfl g_Empty rfl) (pa_cons (pe_glob (v := .ref C_TooMany) rfl g_TooMany rfl) (pa_cons (pe_glob (v := .ref C_BadWord) rfl g_BadWord rfl) (pa_cons (pe_glob (v := .ref C_Doubled) rfl g_Doubled rfl) (pa_cons (pe_glob (v := .ref C_BadShare) rfl g_BadShare rfl) (pa_cons (pe_glob (v := .ref C_BadRanking) rfl g_BadRanking rfl) (pa_cons (pe_glob (v := .ref C_BadRange) rfl g_BadRange rfl) (pa_cons (pe_glob (v := .ref C_BadPlace) rfl g_BadPlace rfl) (pa_cons (pe_glob (v := .ref C_Unequal) rfl g_Unequal rfl) (pa_cons (pe_glob (v := .ref C_Unknown) rfl g_Unknown rfl) (pa_cons (pe_glob (v := .ref C_Fallen) rfl g_Fallen rfl) (pa_cons (pe_glob (v := .ref C_BadChooser) rfl g_BadChooser rfl) (pa_cons (pe_glob (v := .ref C_TiedRanks) rfl g_TiedRanks rfl) (pa_cons (pe_glob (v := .ref C_BadWeaving) rfl g_BadWeaving rfl) (pa_cons (pe_glob (v := .ref C_BadSet) rfl g_BadSet rfl) (pa_cons (pe_glob (v := .ref C_BadStages) rfl g_BadStages rfl) (pa_cons (pe_glob (v := .ref C_BadOrder) rfl g_BadOrder rfl) (pa_cons (pe_glob (v := .ref C_BadSize) rfl g_BadSize rfl) (pa_cons (pe_glob (v := .ref C_BadTable) rfl g_BadTable rfl) (pa_cons (pe_glob (v := .ref C_TooMuch) rfl g_TooMuch rfl) (pa_cons (pe_glob (v := .ref C_BadSum) rfl g_BadSum rfl) (pa_cons (pe_glob (v := .ref C_BadStrike) rfl g_BadStrike rfl) (pa_cons (pe_glob (v := .ref C_Unfinished) rfl g_Unfinished rfl) (pa_cons (pe_glob (v := .ref C_OutOfRank) rfl g_OutOfRank rfl) (pa_cons (pe_glob (v := .ref C_BadSpan) rfl g_BadSpan rfl) (pa_cons (pe_glob (v := .ref C_NoBlock) rfl g_NoBlock rfl) (pa_cons (pe_glob (v := .ref C_BadBargain) rfl g_BadBargain rfl) (pa_cons (pe_glob (v := .ref C_NoPairing) rfl g_NoPairing rfl) (pa_cons (pe_glob (v := .ref C_NotLast) rfl g_NotLast rfl) (pa_cons (pe_glob (v := .ref C_NotObtainable) rfl g_NotObtainable rfl) (pa_cons (pe_glob (v := .ref C_NotNear) rfl g_NotNear rfl) (pa_cons (pe_glob (v := .ref C_NoBottom) rfl g_NoBottom rfl) (pa_cons (pe_glob (v := .ref C_Clash) rfl g_Clash rfl) (pa_cons (pe_glob (v := .ref C_Shared) rfl g_Shared rfl) (pa_cons (pe_glob (v := .ref C_Different) rfl g_Different rfl) (pa_cons (pe_glob (v := .ref C_LastName) rfl g_LastName rfl) (pa_cons (pe_glob (v := .ref C_NoPost) rfl g_NoPost rfl) (pa_cons (pe_glob (v := .ref C_BadDeed) rfl g_BadDeed rfl) (pa_cons (pe_glob (v := .ref C_BadStamp) rfl g_BadStamp rfl) (pa_cons (pe_glob (v := .ref C_StampTaken) rfl g_StampTaken rfl) (pa_cons (pe_glob (v := .ref C_NoDeed) rfl g_NoDeed rfl) pa_nil))))))))))))))))))))))))))))))))))))))))))) pa_nil)))) (pss_one (ps_expr (pe_bm PySem.F.plainAttrs_list PySem.F.slot_list_append PySem.F.type_list_append mt_append (pv 1) (pa_cons pe_str pa_nil)))) pss_nil)
      (pss_cons (ps_if (PW.pt (pw_or (pt_cmpR op_ne (pe_callB cr_len (by rfl) g_len (by decide +kernel) (pa_cons (pv 1) pa_nil)) pe_int (nomark _)) (pw_or (pt_not (pt_val (pe_callB (call_isiD (a := a) (oe := oe) List.mem_cons_self kE) (by rfl) g_isinstance (by decide +kernel) (pa_cons (pv 0) (pa_cons (pe_glob (v := .ref C_OfficeError) rfl g_OfficeError rfl) pa_nil))))) (pw_or1 (pt_not (pt_val (pe_callB (call_isiD (a := a) (oe := oe) List.mem_cons_self kE) (by rfl) g_isinstance (by decide +kernel) (pa_cons (pv 0) (pa_cons (pe_bltn (v := .ty "ValueError") (by rfl) g_ValueError (by decide +kernel) rfl) pa_nil))))))))) (pss_one (ps_ret (pe_tup (pa_cons pe_str (pa_cons (pe_callB cr_len (by rfl) g_len (by decide +kernel) (pa_cons (pv 1) pa_nil)) pa_nil))))) pss_nil)
      (pss_one (ps_ret (pe_ix ix_list (pv 1) pe_int (fun _ _ => rfl)))))))), ?_⟩
    walk_at "go"
    intro l hl
    have kp := Kp.new (M := []) (o := .lst []) hl
    have hDa := hD.kp kp
    have el := @upd_same H l (.lst [])
    generalize upd H l (.lst []) = H0 at kp hDa el ⊢
    walk_at "go"
    refine x_isD1 k_Over_Over hDa ?_
    walk_at "go"
    intro t ht
    have ft := kp.free nil_mem ht
    have nlt := ne_new ht el
    have kp := (kp.trans (Kp.new (o := .tup [.str "Over"]) ht)).mut (o := .lst [.ref t]) hl
    have hDa := hD.kp kp
    walk_at "go"
    refine x_append (at_upd nlt el) (by decide) ?_
    have et := at_upd (u := .lst [.ref t]) nlt.symm (@upd_same H0 t (.tup [.str "Over"]))
    have el := @upd_same (upd H0 t (.tup [.str "Over"])) l (.lst [.ref t])
    simp only [List.nil_append]
    generalize upd (upd H0 t (.tup [.str "Over"])) l (.lst [.ref t]) = H1 at kp hDa el et ⊢
    walk_at "go"
    intro t0 ht0
    have kp := kp.trans (Kp.new (o := .tup [.ref C_BadLine, .ref C_Empty, .ref C_TooMany, .ref C_BadWord, .ref C_Doubled, .ref C_BadShare, .ref C_BadRanking, .ref C_BadRange, .ref C_BadPlace, .ref C_Unequal, .ref C_Unknown, .ref C_Fallen, .ref C_BadChooser, .ref C_TiedRanks, .ref C_BadWeaving, .ref C_BadSet, .ref C_BadStages, .ref C_BadOrder, .ref C_BadSize, .ref C_BadTable, .ref C_TooMuch, .ref C_BadSum, .ref C_BadStrike, .ref C_Unfinished, .ref C_OutOfRank, .ref C_BadSpan, .ref C_NoBlock, .ref C_BadBargain, .ref C_NoPairing, .ref C_NotLast, .ref C_NotObtainable, .ref C_NotNear, .ref C_NoBottom, .ref C_Clash, .ref C_Shared, .ref C_Different, .ref C_LastName, .ref C_NoPost, .ref C_BadDeed, .ref C_BadStamp, .ref C_StampTaken, .ref C_NoDeed]) ht0)
    have hDa := hD.kp kp
    walk_at "go"
    refine x_isDT upd_same (by repeat (first | exact .nil | refine .cons (.own _) ?_)) a_Over_0 hDa ?_
    have el := at_upd (u := .tup [.ref C_BadLine, .ref C_Empty, .ref C_TooMany, .ref C_BadWord, .ref C_Doubled, .ref C_BadShare, .ref C_BadRanking, .ref C_BadRange, .ref C_BadPlace, .ref C_Unequal, .ref C_Unknown, .ref C_Fallen, .ref C_BadChooser, .ref C_TiedRanks, .ref C_BadWeaving, .ref C_BadSet, .ref C_BadStages, .ref C_BadOrder, .ref C_BadSize, .ref C_BadTable, .ref C_TooMuch, .ref C_BadSum, .ref C_BadStrike, .ref C_Unfinished, .ref C_OutOfRank, .ref C_BadSpan, .ref C_NoBlock, .ref C_BadBargain, .ref C_NoPairing, .ref C_NotLast, .ref C_NotObtainable, .ref C_NotNear, .ref C_NoBottom, .ref C_Clash, .ref C_Shared, .ref C_Different, .ref C_LastName, .ref C_NoPost, .ref C_BadDeed, .ref C_BadStamp, .ref C_StampTaken, .ref C_NoDeed]) (ne_new ht0 el) el
    have et := at_upd (u := .tup [.ref C_BadLine, .ref C_Empty, .ref C_TooMany, .ref C_BadWord, .ref C_Doubled, .ref C_BadShare, .ref C_BadRanking, .ref C_BadRange, .ref C_BadPlace, .ref C_Unequal, .ref C_Unknown, .ref C_Fallen, .ref C_BadChooser, .ref C_TiedRanks, .ref C_BadWeaving, .ref C_BadSet, .ref C_BadStages, .ref C_BadOrder, .ref C_BadSize, .ref C_BadTable, .ref C_TooMuch, .ref C_BadSum, .ref C_BadStrike, .ref C_Unfinished, .ref C_OutOfRank, .ref C_BadSpan, .ref C_NoBlock, .ref C_BadBargain, .ref C_NoPairing, .ref C_NotLast, .ref C_NotObtainable, .ref C_NotNear, .ref C_NoBottom, .ref C_Clash, .ref C_Shared, .ref C_Different, .ref C_LastName, .ref C_NoPost, .ref C_BadDeed, .ref C_BadStamp, .ref C_StampTaken, .ref C_NoDeed]) (ne_new ht0 et) et
    generalize upd H1 t0 (.tup [.ref C_BadLine, .ref C_Empty, .ref C_TooMany, .ref C_BadWord, .ref C_Doubled, .ref C_BadShare, .ref C_BadRanking, .ref C_BadRange, .ref C_BadPlace, .ref C_Unequal, .ref C_Unknown, .ref C_Fallen, .ref C_BadChooser, .ref C_TiedRanks, .ref C_BadWeaving, .ref C_BadSet, .ref C_BadStages, .ref C_BadOrder, .ref C_BadSize, .ref C_BadTable, .ref C_TooMuch, .ref C_BadSum, .ref C_BadStrike, .ref C_Unfinished, .ref C_OutOfRank, .ref C_BadSpan, .ref C_NoBlock, .ref C_BadBargain, .ref C_NoPairing, .ref C_NotLast, .ref C_NotObtainable, .ref C_NotNear, .ref C_NoBottom, .ref C_Clash, .ref C_Shared, .ref C_Different, .ref C_LastName, .ref C_NoPost, .ref C_BadDeed, .ref C_BadStamp, .ref C_StampTaken, .ref C_NoDeed]) = H2 at kp hDa el et ⊢
    walk_at "go"
    refine x_isD1 ko_Over hDa ?_
    walk_at "go"
    refine x_isD2 kv_Over hDa ?_
    walk_at "go"
    exact q _ _ _ [t] (.c_Over) kp (fun b z => by
      obtain rfl := List.mem_singleton.mp z
      exact ft) (.tup (l := [.d (.str "Over")]) et (DtL.own (ds := [.str "Over"]) (.cons (.str _) .nil)) (fun z => nomatch z))
/-- what the question tells -/
def wAsk (C : Addr) (a : Mo × List (List Bool)) (d : D) : Prop := (a.1.left.sum = 0 ∧ d = .tup [.str "refused", .tup [.str "Over"]]) ∨ (a.1.left.sum ≠ 0 ∧ ∃ rows, BandRows a.1 a.2 rows ∧ d = .tup [.str "told", brBlk C (lastMax (brRoot a.1) rows)])
abbrev s_law_ask : Stmt := topS 89
theorem sc_law_ask : FnScope ["moment", "web", "handed", "told", "caught"] ["moment", "web"] (defScope s_law_ask) := ⟨rfl, rfl, rfl, by decide +kernel, rfl, by decide +kernel, by decide +kernel⟩
--DEF _law_ask
set_option maxHeartbeats 8000000 in
theorem ok_law_ask {C_Moment C_Block C_Over C_OfficeError : Addr} (h : DefAt K mg "_law_ask" ["moment", "web"] s_law_ask) (g_OfficeError : mg "OfficeError" = some (.ref C_OfficeError))
    (D_widest_block : Okk P w K mg base (L2.CX P w) (k + 1) "widest_block" ["moment", "web"] (PFNX K (eBw C_Moment) (fun a => a.1.Sh ∧ Wb a.2 a.1.bears.length ∧ a.2.length = a.1.left.length) (fun a v => a.1.left.sum ≠ 0 ∧ ∃ rows, BandRows a.1 a.2 rows ∧ v = .d (brBlk C_Block (lastMax (brRoot a.1) rows))) (excOv C_Over)))
    (D_law_refused : OkE P w K mg base (k + 1) "_law_refused" ["caught"] (PFR K (refDom C_Over) (RefR C_Over))) (x_Over : PySem.W.exmOne K (.ref C_Over) (.ref C_OfficeError) = some true)
    (D_law_copy : Okk P w K mg base CX0 (k + 1) "_law_copy" ["thing"] (spCopyV K 3)) (D_law_same : Okk P w K mg base CX0 (k + 1) "_law_same" ["told", "due"] (spSameV K 4)) (D_law_spoil : Okk P w K mg base CX0 (k + 1) "_law_spoil" ["thing"] (spSpoilQ K 4)) (hk : 2 ≤ k + 1) :
    Okk P w K mg base CX0 (k + 1 + 1) "_law_ask" ["moment", "web"] (PFA K (eBw C_Moment) (fun a => a.1.Sh ∧ WebOk a.1 a.2) fun a r => wAsk C_Block a r.data) := by
  refine DefAt.pfa h sc_law_ask ?_ fun cdv f A outer s H E hr => ⟨_, (pss_cons (ps_set (i := 2) sc_law_ask.nd rfl (Or.inl rfl) (pe_own D_law_copy hr (pa_cons (pv 1) pa_nil)))
      (pss_cons (ps_tryE (ps_try_as (i := 4) rfl rfl sc_law_ask.nd rfl rfl ⟨rfl, by decide, .inl g_OfficeError⟩ takes0 (fun W pn xe tk hp => (pss_one (ps_set (i := 3) sc_law_ask.nd rfl (Or.inl rfl) (pe_tup (pa_cons pe_str (pa_cons (pe_ownS D_widest_block hr tk (pa_cons (pv 0) (pa_cons (pv 2) pa_nil))) pa_nil)))))) (fun a oe cls d pn hz hf => (pss_one (ps_set (i := 3) sc_law_ask.nd rfl (Or.inl rfl) (pe_tup (pa_cons pe_str (pa_cons (pe_ownH D_law_refused ⟨hr.dp, hr.un⟩ List.mem_cons_self hz hf (pa_cons (pv 4) pa_nil)) pa_nil))))))))
      (pss_cons (ps_if (pt_not (pt_val (pe_own D_law_same hr (pa_cons (pv 2) (pa_cons (pv 1) pa_nil))))) (pss_one (ps_ret (pe_tup (pa_cons pe_str (pa_cons pe_non pa_nil))))) pss_nil)
      (pss_cons (ps_expr (pe_own D_law_spoil hr (pa_cons (pv 2) pa_nil)))
      (pss_one (ps_ret (pv 3))))))), ?_⟩
  · rintro n _; rfl
  rintro ⟨m, ws⟩ ⟨sh, hw, hc⟩ B
  dsimp only at sh hw hc
  have l1 := sh.l
  have r8 := sh.ok.r1
  have b8 := sh.ok.b1
  have pw := web_prD17 (n := m.bears.length) (by omega) b8.2 hc
  have ok := okN (K := K) (A := B) (H0 := H) (n := 5)
  simp only [LN.startC, List.length_cons, List.length_nil, Nat.reduceAdd, L2.cxOf, L2.Cx.nox, List.map_cons, List.map_nil]
  refine es_cut (fun ρ => ρ = [cD (.obj C_Moment m.fields), cD (.lst (ws.map dBs)), .t (tBw ws), .dead, .dead]) ?_ ?_
  · walk_at "ev"
    refine ⟨pw, ?_⟩
    rintro r rfl
    rw [show (T.d (.lst (ws.map dBs))).data.thaw = _ from thaw_bss17 ws]
    walk_at "ev"
    rfl
  rintro ρ rfl
  refine es_cut (fun ρ => ∃ t : T, ρ = [cD (.obj C_Moment m.fields), cD (.lst (ws.map dBs)), .t (tBw ws), .t t, .dead] ∧ wAsk C_Block (m, ws) t.data) (es_try (fun C fs ρ1 => excOv C_Over (m, ws) C fs ∧ ρ1 = [cD (.obj C_Moment m.fields), cD (.lst (ws.map dBs)), .t (tBw ws), .dead, .dead]) (fun _ _ _ z => nomatch z) (fun W' => ?_) (fun C fs ρ1 hx => ?_) (show 4 < 5 by decide)) ?_
  · have ok : (⟨K, [], B, H, fun _ => True, 0, 5, W', fun C fs ρ1 => excOv C_Over (m, ws) C fs ∧ ρ1 = [cD (.obj C_Moment m.fields), cD (.lst (ws.map dBs)), .t (tBw ws), .dead, .dead]⟩ : Fr).Ok := fun _ _ _ _ => trivial
    walk_at "ev"
    refine ⟨(m, ws), .cons (.t rfl) (.cons (.pl rfl rfl (tBw_data _)) .nil), ⟨sh, ⟨by dsimp only; omega, b8, hc⟩, hw⟩, ?_, fun C fs q => ⟨q, rfl⟩⟩
    rintro r ⟨h0, rows, br, rfl⟩
    walk_at "ev"
    exact ⟨_, rfl, .inr ⟨h0, rows, br, rfl⟩⟩
  · obtain ⟨⟨z, rfl, rfl⟩, rfl⟩ := hx
    refine ⟨x_Over, rfl, fun b d => ?_⟩
    change Es _ [cD (.obj C_Moment m.fields), cD (.lst (ws.map dBs)), .t (tBw ws), .dead, .exc b d []] _ _
    walk_at "ev"
    refine ⟨_, rfl, ⟨_, .c_Over⟩, ?_⟩
    rintro r hr'
    cases hr'
    walk_at "ev"
    refine ⟨_, rfl, by walk_at "kill", ?_⟩
    exact ⟨_, rfl, .inl ⟨z, rfl⟩⟩
  · rintro ρ ⟨t, rfl, et⟩
    refine es_cut (fun ρ => ρ = [cD (.obj C_Moment m.fields), cD (.lst (ws.map dBs)), .t (tBw ws), .t t, .dead]) ?_ ?_
    · walk_at "ev"
      refine ⟨(.lst (ws.map dBs), .lst (ws.map dBs)), .cons (.pl rfl rfl (tBw_data _)) (.cons (.t rfl) .nil), ⟨pw.p, pw.mono (by decide) (by decide)⟩, ?_⟩
      rintro r ⟨b, rfl, hb⟩
      obtain rfl : b = true := hb.mpr rfl
      walk_at "ev"
      rfl
    rintro ρ rfl
    refine es_seq (es_spoilQ ok (i := 2) (by walk_at "cat") (T.soft_of (tBw_full _)) (by rw [tBw_data]; exact Nat.le_trans pw.d (by decide)) (by rw [tBw_data]; exact pw.w) rfl (by walk_at "cset") ?_)
    have m3 : Mv 3 := .mk
    walk_at "ev"
    exact et
theorem sum_set17 : ∀ {ns : List Int} {i : Nat} {v : Int}, (h : i < ns.length) → (ns.set i v).sum = ns.sum - ns[i] + v
  | [], _, _, h => by cases h
  | x :: l, 0, v, h => by
    show (v :: l).sum = _
    rw [List.sum_cons, List.sum_cons]
    show _ = x + l.sum - x + v
    omega
  | x :: l, i + 1, v, h => by
    have ih := sum_set17 (ns := l) (i := i) (v := v) (by simpa using h)
    show (x :: l.set i v).sum = _
    rw [List.sum_cons, List.sum_cons, ih]
    have hi : i < l.length := by simpa using h
    show x + (l.sum - l[i] + v) = x + l.sum - l[i] + v
    omega
abbrev s_law_robbed : Stmt := topS 87
theorem sc_law_robbed : FnScope ["store", "left", "work", "one", "two"] ["store", "left"] (defScope s_law_robbed) := ⟨rfl, rfl, rfl, by decide +kernel, rfl, by decide +kernel, by decide +kernel⟩
--DEF _law_robbed
abbrev eRo : List Int → List D := fun l => [dIs l]
set_option maxHeartbeats 4000000 in
theorem ok_law_robbed (h : DefAt K mg "_law_robbed" ["store", "left"] s_law_robbed) (g_list : mg "list" = none) (g_len : mg "len" = none) (D_law_take : Okk P w K mg base CX0 k "_law_take" ["store", "many"] spTake) :
    Okk P w K mg base CX0 (k + 1) "_law_robbed" ["store", "left"] (PFS K eRo (fun l => (1 ≤ l.length ∧ l.length ≤ 8) ∧ ∀ x ∈ l, 0 ≤ x ∧ x ≤ 100000000000000) fun l r => ∃ ms : List Int, r = T.row (ms.map .int) ∧ ms.length = l.length ∧ ms.sum = l.sum ∧ ∀ x ∈ ms, 0 ≤ x ∧ x ≤ 100000000000000) := by
  refine DefAt.pfs (N := ["left", "work", "one", "two"]) h sc_law_robbed ?_ ?_ fun cdv f A outer s H E hr => ⟨_, (pss_cons (ps_set (i := 2) sc_law_robbed.nd rfl (Or.inl rfl) (pe_callTy cr_list (by rfl) g_list (by decide +kernel) (pa_cons (pv 1) pa_nil)))
      (pss_cons (ps_set (i := 3) sc_law_robbed.nd rfl (Or.inl rfl) (pe_own D_law_take hr (pa_cons (pv 0) (pa_cons (pe_callB cr_len (by rfl) g_len (by decide +kernel) (pa_cons (pv 1) pa_nil)) pa_nil))))
      (pss_cons (ps_set (i := 4) sc_law_robbed.nd rfl (Or.inl rfl) (pe_own D_law_take hr (pa_cons (pv 0) (pa_cons (pe_callB cr_len (by rfl) g_len (by decide +kernel) (pa_cons (pv 1) pa_nil)) pa_nil))))
      (pss_cons (ps_if (PW.pt (pw_and (pt_cmpR op_ne (pv 3) (pv 4) (nomark _)) (pw_and1 (pt_cmpR op_le (pe_op op_add (pe_ix ix_list (pv 2) (pv 3) (fun _ _ => rfl)) (pe_ix ix_list (pv 2) (pv 4) (fun _ _ => rfl))) (pe_op op_powW pe_int pe_int) (nomark _))))) (pss_cons (ps_asg (pe_op op_add (pe_ix ix_list (pv 2) (pv 3) (fun _ _ => rfl)) (pe_ix ix_list (pv 2) (pv 4) (fun _ _ => rfl))) (pg_sub (pv 2) (pv 4) set_list))
        (pss_one (ps_asg pe_int (pg_sub (pv 2) (pv 3) set_list)))) pss_nil)
      (pss_one (ps_ret (pv 2))))))), ?_⟩
  · rintro n _; rfl
  · rintro n r _ ⟨ms, rfl, _⟩; exact full_ints
  rintro le ⟨l8, hb⟩ p sl hs
  have ok := okS (n := 5) (A := fun a => a ≠ p) (K := K) hs
  have lle : (le.map D.int).length = le.length := List.length_map _
  have e14 : (10 : Int) ^ Int.toNat 14 = 100000000000000 := by decide
  have pick : ∀ d : Int, 0 ≤ d → ((le.length : Int) ≤ 1 → d = 0) → (1 < (le.length : Int) → d < le.length) → ∃ a : Nat, d = (a : Int) ∧ a < le.length := fun d d0 d1 d2 => by
    obtain ⟨a, rfl⟩ := Int.eq_ofNat_of_zero_le d0
    refine ⟨a, rfl, ?_⟩
    by_cases q : (le.length : Int) ≤ 1
    · have := d1 q; omega
    · have := d2 (by omega); omega
  walk_at "ev0"
  rw [lle]
  intro o' o0 o1 o2
  obtain ⟨o, rfl, ol⟩ := pick o' o0 o1 o2
  walk_at "ev"
  rw [lle]
  intro t' t0 t1 t2
  obtain ⟨t, rfl, tl⟩ := pick t' t0 t1 t2
  walk_at "eg"
  have ob := hb _ (List.getElem_mem ol)
  have tb := hb _ (List.getElem_mem tl)
  refine es_cut (fun ρ => ∃ ms : List Int, ρ = [.sto, cD (dIs le), .t (.row (ms.map .int)), cI (o : Int), cI (t : Int)] ∧ ms.length = le.length ∧ ms.sum = le.sum ∧ ∀ x ∈ ms, 0 ≤ x ∧ x ≤ 100000000000000) ?_ ?_
  · walk_at "ev"
    refine x_ndec (fun z => ?_) (fun z => ?_)
    · walk_at "ev"
      refine vo_ixL (by walk_at "leaf") (dIs_at ol) ?_
      walk_at "ev"
      refine vo_ixL (by walk_at "leaf") (dIs_at tl) ?_
      walk_at "ev"
      rw [e14]
      refine x_dec (fun z2 => ?_) (fun z2 => ?_)
      · walk_at "ev"
        refine vo_ixL (by walk_at "leaf") (dIs_at ol) ?_
        walk_at "ev"
        refine vo_ixL (by walk_at "leaf") (dIs_at tl) ?_
        walk_at "ev"
        refine st_0 (n := t) (by walk_at "cat") (by rw [List.length_map]; exact ixN_at tl) rfl (by walk_at "cset") ?_
        rw [show (le.map D.int).set t (.int (le[o] + le[t])) = (le.set t (le[o] + le[t])).map D.int by rw [List.map_set]]
        walk_at "ev"
        refine st_0 (n := o) (by walk_at "cat") (by rw [List.length_map, List.length_set]; exact ixN_at ol) rfl (by walk_at "cset") ?_
        rw [show ((le.set t (le[o] + le[t])).map D.int).set o (.int 0) = ((le.set t (le[o] + le[t])).set o 0).map D.int by rw [List.map_set, List.map_set, List.map_set]]
        walk_at "ev"
        have ne : t ≠ o := fun e => z (by rw [e])
        refine ⟨_, rfl, by rw [List.length_set, List.length_set], ?_, fun x hx => ?_⟩
        · rw [sum_set17 (by rw [List.length_set]; exact ol), sum_set17 tl, List.getElem_set_ne ne]
          omega
        · rcases List.mem_or_eq_of_mem_set hx with hx | rfl
          · rcases List.mem_or_eq_of_mem_set hx with hx | rfl
            · exact hb x hx
            · omega
          · omega
      · walk_at "ev"
        exact ⟨le, rfl, rfl, rfl, hb⟩
    · walk_at "ev"
      exact ⟨le, rfl, rfl, rfl, hb⟩
  rintro ρ ⟨ms, rfl, h1, h2, h3⟩
  have m2 : Mv 2 := .mk
  walk_at "ev"
  exact ⟨ms, rfl, h1, h2, h3⟩
abbrev e1Ds : List D → List D := fun l => [.lst l]
/-- _law_shuffled of a list of any data -/
theorem shufA {P : Program} {w : World} {K : PySem.W.Frag} {mg : Str → Option Value} {base : Heap} {k : Nat} (h : Okk P w K mg base CX0 k "_law_shuffled" ["store", "row"] (spShuf K)) : Okk P w K mg base CX0 k "_law_shuffled" ["store", "row"] (PFSA K e1Ds (fun l => l.length < 90000) fun l r => ∃ l', r = T.row l' ∧ l'.Perm l) := h.imp fun vs H Q E ⟨p, sl, us, A, ds, ev, hs, hA, hd, hp, q⟩ => by
  subst ev
  cases hd with
  | cons h1 t =>
    cases t
    cases h1 with
    | lst m1 e1 r =>
      refine go_shufS hs (SqL.of e1) (by rw [r.length]; exact hp) fun l ys H' s' k' f' e' pe => ?_
      obtain ⟨l', pl, r'⟩ := r.perm pe
      refine q (T.row l') (.ref l) H' [l] ⟨l', rfl, pl⟩ k' s' (fun b z => by rw [List.mem_singleton.mp z]; exact f') (.lst e' (DtL.own (r'.kp k' fun b hb lb => ⟨fun z => hA b hb (List.mem_singleton.mp z), .inl hb, fun z => ?_⟩)) (fun z => nomatch z))
      rw [List.mem_singleton.mp z] at lb
      obtain ⟨o, eo⟩ := lb
      rw [f'] at eo
      cases eo
/-- the moment with the same ranks that is over -/
def Mo.over (m : Mo) : Mo := ⟨m.ranks, List.replicate m.left.length 0, List.replicate m.bears.length 0⟩
theorem sum_zeros (n : Nat) : (List.replicate n (0 : Int)).sum = 0 := by
  induction n with
  | zero => rfl
  | succ n ih =>
    rw [List.replicate_succ, List.sum_cons, ih]
    rfl
theorem Mo.Sh.over {m : Mo} (s : m.Sh) : m.over.Sh := ⟨⟨s.ok.r1, by
    show 1 ≤ (List.replicate m.bears.length (0 : Int)).length ∧ (List.replicate m.bears.length (0 : Int)).length ≤ 8
    rw [List.length_replicate]
    exact s.ok.b1, fun x hx => by
    have : x = 0 := by
      rcases List.mem_append.mp hx with h | h
      · exact (List.mem_replicate.mp h).2
      · exact (List.mem_replicate.mp h).2
    omega, s.ok.rk, by
    show (List.replicate _ (0 : Int)).sum = (List.replicate _ (0 : Int)).sum
    rw [sum_zeros, sum_zeros]⟩, by
    show (List.replicate _ (0 : Int)).length = _
    rw [List.length_replicate]
    exact s.l, fun r hr => by
    show r.length = (List.replicate _ (0 : Int)).length
    rw [List.length_replicate]
    exact s.r r hr⟩
/-- none of these classes (of a class's row) -/
theorem kitAny_row {K : PySem.W.Frag} {x : Str} {ys : List Str} (h : LN.clsRow K x ys = true) : ∀ {zs : List Str}, (zs.all fun z => decide (z ∈ ys) && (!(decide (z = x) || decide (z = "OfficeError")))) = true → PySem.W.kitAny K (.ref (He.ga K x)) (zs.map fun y => .ref (He.ga K y)) = some false
  | [], _ => rfl
  | z :: zs, e => by
    rw [List.all_cons, Bool.and_eq_true, Bool.and_eq_true] at e
    obtain ⟨⟨e1, e2⟩, e3⟩ := e
    have ih := kitAny_row h e3
    obtain ⟨i, hi, ei⟩ := List.getElem_of_mem (of_decide_eq_true e1)
    have r := LN.clsRow_at h i (List.getElem?_eq_some_iff.mpr ⟨hi, ei⟩)
    rw [Bool.not_eq_true'] at e2
    rw [e2] at r
    rw [List.map_cons, PySem.W.kitAny, r]
    exact ih
theorem tup3_17 (m : Mo) : D.tup (T.datas [T.lst (m.ranks.map fun ns => T.row (ns.map .int)), T.row (m.left.map .int), T.row (m.bears.map .int)]) = moD m := by
  show D.tup [T.data _, T.data _, T.data _] = _
  rw [rows_data, T.data_row, T.data_row]
theorem moD_prD17 {m : Mo} (sh : m.Sh) : PrD 4 90000 (moD m) := by
  have r1 := sh.ok.r1
  have b1 := sh.ok.b1
  have l := sh.l
  refine prD_tup (n := 3) (fun d hd => ?_) (by show 3 < 90000; decide)
  simp only [List.mem_cons, List.not_mem_nil, or_false] at hd
  rcases hd with rfl | rfl | rfl
  · exact prD_rows (by decide) (by omega) fun r hr => by have := sh.r r hr; omega
  · exact prD_ints (by decide) (by omega)
  · exact prD_ints (by decide) (by omega)
theorem getD_mem {l : List D} {i : Nat} (h : i < l.length) : l.getD i .non ∈ l := by
  rw [List.getD_eq_getElem?_getD, List.getElem?_eq_getElem h, Option.getD_some]
  exact List.getElem_mem h
/-- a question -/
def QOk17 (C : Addr) (d : D) : Prop := ∃ (m : Mo) (ws : List (List Bool)) (due : D), d = .tup [.obj C m.fields, .lst (ws.map dBs), due, moD m] ∧ m.Sh ∧ 1 ≤ m.left.sum ∧ WebOk m ws ∧ ∀ rows, BandRows m ws rows → due = dueB (lastMax (brRoot m) rows)
abbrev dOver17 : D := .tup [.str "refused", .tup [.str "Over"]]
theorem dOver_prD17 : PrD 3 90000 dOver17 := prD_two (prD_sc rfl (by decide)) (prD_tup (n := 1) (fun d hd => by
  rw [List.mem_singleton.mp hd]
  exact prD_sc rfl (by decide)) (by decide)) (by decide)
theorem best_len {m : Mo} {ws : List (List Bool)} {rows : List Br} (br : BandRows m ws rows) : (lastMax (brRoot m) rows).band.length ≤ m.left.length ∧ (lastMax (brRoot m) rows).free.length ≤ m.bears.length := by
  have ok : BrOk m ws (lastMax (brRoot m) rows) := by
    rcases lastMax_mem (b := brRoot m) (l := rows) with e | e
    · rw [e]
      exact .root
    · exact br.ok _ e
  exact ⟨ok.bl, ok.fl⟩
theorem three_of {α : Type} {P : α → Prop} {a b c : α} {f : α → D} (h0 : P a) (h1 : P b) (h2 : P c) : ∀ j, j < 3 → ∃ x, [f a, f b, f c].getD j .non = f x ∧ P x := fun j hj => by
  match j, hj with
  | 0, _ => exact ⟨a, rfl, h0⟩
  | 1, _ => exact ⟨b, rfl, h1⟩
  | 2, _ => exact ⟨c, rfl, h2⟩
abbrev s_law : Stmt := topS 92
theorem sc_law : FnScope ["script", "store", "questions", "k", "world", "webs", "robbed", "moment", "second", "web", "question", "ranks", "over", "row"] ["script"] (defScope s_law) := ⟨rfl, rfl, rfl, by decide +kernel, rfl, by decide +kernel, by decide +kernel⟩
--DEF law
def spLaw (K : PySem.W.Frag) : Sp := fun vs H Q _ => ∃ (a : Addr) (ns : List Int), vs = [.ref a] ∧ SqL K H a (ns.map V.int) ∧ ∀ H', Q (.bl true) H'
set_option maxHeartbeats 16000000 in
theorem ok_law {C_Moment C_Block C_Empty C_TooMany C_BadShare C_BadRanking C_Unequal fL : Addr} {fdL : FuncData} (h : FunD K "law" "law" (defArgs s_law) (defBody s_law) (defScope s_law) [] [] fL fdL) (g_list : mg "list" = none) (g_range : mg "range" = none) (g_len : mg "len" = none)
    (D_law_store : Okk P w K mg base CX0 (k + 1) "_law_store" ["script"] (spStore K))
    (D_law_world : Okk P w K mg base CX0 (k + 1) "_law_world" ["store"] (PFSA K e0U (fun _ => True) fun _ r => ∃ m : Mo, m.Sh ∧ 1 ≤ m.left.sum ∧ r.data = moD m)) (D_law_copy : Okk P w K mg base CX0 (k + 1) "_law_copy" ["thing"] (spCopyV K 3))
    (D_law_three_webs : Okk P w K mg base CX0 (k + 1) "_law_three_webs" ["store", "world"] (PFS K (fun m : Mo => [moD m]) (fun m => m.Sh) fun m r => ∃ w1 w2 w3, r = T.lst [tBw w1, tBw w2, tBw w3] ∧ WebOk m w1 ∧ WebOk m w2 ∧ WebOk m w3))
    (D_law_robbed : Okk P w K mg base CX0 (k + 1) "_law_robbed" ["store", "left"] (PFS K eRo (fun l => (1 ≤ l.length ∧ l.length ≤ 8) ∧ ∀ x ∈ l, 0 ≤ x ∧ x ≤ 100000000000000) fun l r => ∃ ms : List Int, r = T.row (ms.map .int) ∧ ms.length = l.length ∧ ms.sum = l.sum ∧ ∀ x ∈ ms, 0 ≤ x ∧ x ≤ 100000000000000))
    (D_law_due : Okk P w K mg base CX0 (k + 1) "_law_due" ["web", "left", "bears"] (PFA K eDu17 (fun a => a.1.Sh ∧ WebOk a.1 a.2) fun a r => ∀ rows, BandRows a.1 a.2 rows → r.data = dueB (lastMax (brRoot a.1) rows)))
    (D_law_ask : Okk P w K mg base CX0 (k + 1) "_law_ask" ["moment", "web"] (PFA K (eBw C_Moment) (fun a => a.1.Sh ∧ WebOk a.1 a.2) fun a r => wAsk C_Block a r.data))
    (D_law_right : Okk P w K mg base CX0 (k + 1) "_law_right" ["told", "due"] (PF K (eRt17 C_Block) (fun r => r.band.length ≤ 100 ∧ r.free.length ≤ 100) fun _ v => v = .d (.bl true)))
    (D_law_shuffled : Okk P w K mg base CX0 (k + 1) "_law_shuffled" ["store", "row"] (spShuf K))
    (D_law_same : Okk P w K mg base CX0 (k + 1) "_law_same" ["told", "due"] (spSameV K 4))
    (P_Moment_ranks : PropAt P w K mg base k C_Moment "ranks" (PF K (fun m : Mo => [.obj C_Moment m.fields]) (fun m => m.ranks.length ≤ 1000) fun m r => r = T.lst (m.ranks.map fun ns => T.row (ns.map .int))))
    (P_Moment_left : PropAt P w K mg base k C_Moment "left" (PF K (fun m : Mo => [.obj C_Moment m.fields]) (fun _ => True) fun m r => r = T.row (m.left.map .int)))
    (P_Moment_bears : PropAt P w K mg base k C_Moment "bears" (PF K (fun m : Mo => [.obj C_Moment m.fields]) (fun _ => True) fun m r => r = T.row (m.bears.map .int)))
    (K_Moment : MakeAt P w K mg base (L2.CX P w) k "Moment" C_Moment ["self", "ranks", "left", "bears"] (PFI K C_Moment Mo.args (fun m => (∀ r ∈ m.ranks, r ≠ []) ∧ m.left.length ≤ 1000 ∧ m.bears.length ≤ 1000 ∧ m.ranks.length ≤ 1000 ∧ ∀ r ∈ m.ranks, r.length ≤ 1000) (fun m fs => m.Ok ∧ fs = m.fields) (MoBad C_Empty C_TooMany C_BadShare C_BadRanking C_Unequal))) :
    FnOk P w K mg base CX0 (k + 1 + 1) fL fdL ["script"] (spLaw K) := by
  have D_law_shuffled := shufA D_law_shuffled
  refine okL h sc_law ?_ ?_
  · rintro vs H Q E ⟨p, _, rfl, _⟩; rfl
  rintro cdv f A outer s H vs Q E hr ⟨a, ns, rfl, hS, q⟩
  refine ⟨_, (pss_cons (ps_set (i := 1) sc_law.nd rfl (Or.inl rfl) (pe_own D_law_store hr (pa_cons (pv 0) pa_nil)))
      (pss_cons (ps_set (i := 2) sc_law.nd rfl (Or.inl rfl) (pe_lst pa_nil))
      (pss_cons (ps_for PassesOwn.never rfl (pi_range1 rfl g_range (pa_cons pe_int pa_nil)) (pg_name (i := 3) sc_law.nd rfl (Or.inl rfl))
        (pss_cons (ps_set (i := 4) sc_law.nd rfl (Or.inl rfl) (pe_own D_law_world hr (pa_cons (pv 1) pa_nil)))
        (pss_cons (ps_set (i := 5) sc_law.nd rfl (Or.inl rfl) (pe_own D_law_three_webs hr (pa_cons (pv 1) (pa_cons (pv 4) pa_nil))))
        (pss_cons (ps_set (i := 6) sc_law.nd rfl (Or.inl rfl) (pe_tup (pa_cons (pe_ix ix_tup (pv 4) pe_int (fun _ _ => rfl)) (pa_cons (pe_own D_law_robbed hr (pa_cons (pv 1) (pa_cons (pe_ix ix_tup (pv 4) pe_int (fun _ _ => rfl)) pa_nil))) (pa_cons (pe_ix ix_tup (pv 4) pe_int (fun _ _ => rfl)) pa_nil)))))
        (pss_cons (ps_set (i := 7) sc_law.nd rfl (Or.inl rfl) (pe_makeL K_Moment hr passF (pa_cons (pe_own D_law_copy hr (pa_cons (pe_ix ix_tup (pv 4) pe_int (fun _ _ => rfl)) pa_nil)) (pa_cons (pe_callTy cr_list (by rfl) g_list (by decide +kernel) (pa_cons (pe_ix ix_tup (pv 4) pe_int (fun _ _ => rfl)) pa_nil)) (pa_cons (pe_callTy cr_list (by rfl) g_list (by decide +kernel) (pa_cons (pe_ix ix_tup (pv 4) pe_int (fun _ _ => rfl)) pa_nil)) pa_nil)))))
        (pss_cons (ps_set (i := 8) sc_law.nd rfl (Or.inl rfl) (pe_makeL K_Moment hr passF (pa_cons (pe_own D_law_copy hr (pa_cons (pe_ix ix_tup (pv 6) pe_int (fun _ _ => rfl)) pa_nil)) (pa_cons (pe_callTy cr_list (by rfl) g_list (by decide +kernel) (pa_cons (pe_ix ix_tup (pv 6) pe_int (fun _ _ => rfl)) pa_nil)) (pa_cons (pe_callTy cr_list (by rfl) g_list (by decide +kernel) (pa_cons (pe_ix ix_tup (pv 6) pe_int (fun _ _ => rfl)) pa_nil)) pa_nil)))))
        (pss_one (ps_for PassesOwn.never rfl (pi_list (pv 5)) (pg_name (i := 9) sc_law.nd rfl (Or.inl rfl))
          (pss_cons (ps_expr (pe_bm PySem.F.plainAttrs_list PySem.F.slot_list_append PySem.F.type_list_append mt_append (pv 2) (pa_cons (pe_tup (pa_cons (pv 7) (pa_cons (pv 9) (pa_cons (pe_own D_law_due hr (pa_cons (pv 9) (pa_cons (pe_ix ix_tup (pv 4) pe_int (fun _ _ => rfl)) (pa_cons (pe_ix ix_tup (pv 4) pe_int (fun _ _ => rfl)) pa_nil)))) (pa_cons (pv 4) pa_nil))))) pa_nil)))
          (pss_one (ps_expr (pe_bm PySem.F.plainAttrs_list PySem.F.slot_list_append PySem.F.type_list_append mt_append (pv 2) (pa_cons (pe_tup (pa_cons (pv 8) (pa_cons (pv 9) (pa_cons (pe_own D_law_due hr (pa_cons (pv 9) (pa_cons (pe_ix ix_tup (pv 6) pe_int (fun _ _ => rfl)) (pa_cons (pe_ix ix_tup (pv 6) pe_int (fun _ _ => rfl)) pa_nil)))) (pa_cons (pv 6) pa_nil))))) pa_nil)))))))))))))
      (pss_cons (ps_for PassesOwn.never rfl (pi_list (pe_op op_cat (pe_own D_law_shuffled hr (pa_cons (pv 1) (pa_cons (pv 2) pa_nil))) (pv 2))) (pg_name (i := 10) sc_law.nd rfl (Or.inl rfl))
        (pss_one (ps_if (pt_not (pt_val (pe_own D_law_right hr (pa_cons (pe_own D_law_ask hr (pa_cons (pe_ix ix_tup (pv 10) pe_int (fun _ _ => rfl)) (pa_cons (pe_ix ix_tup (pv 10) pe_int (fun _ _ => rfl)) pa_nil))) (pa_cons (pe_ix ix_tup (pv 10) pe_int (fun _ _ => rfl)) pa_nil))))) (pss_one (ps_ret pe_bl)) pss_nil)))
      (pss_cons (ps_for PassesOwn.never rfl (pi_list (pv 2)) (pg_name (i := 10) sc_law.nd rfl (Or.inl rfl))
        (pss_one (ps_if (pt_not (pt_val (pe_own D_law_same hr (pa_cons (pe_tup (pa_cons (pe_propL P_Moment_ranks hr (pe_ix ix_tup (pv 10) pe_int (fun _ _ => rfl))) (pa_cons (pe_propL P_Moment_left hr (pe_ix ix_tup (pv 10) pe_int (fun _ _ => rfl))) (pa_cons (pe_propL P_Moment_bears hr (pe_ix ix_tup (pv 10) pe_int (fun _ _ => rfl))) pa_nil)))) (pa_cons (pe_ix ix_tup (pv 10) pe_int (fun _ _ => rfl)) pa_nil))))) (pss_one (ps_ret pe_bl)) pss_nil)))
      (pss_cons (ps_set (i := 11) sc_law.nd rfl (Or.inr rfl) (pe_ix ix_tup (pe_ix ix_tup (pe_ix ix_list (pv 2) pe_int (fun _ _ => rfl)) pe_int (fun _ _ => rfl)) pe_int (fun _ _ => rfl)))
      (pss_cons (ps_set (i := 12) sc_law.nd rfl (Or.inl rfl) (pe_makeL K_Moment hr passF (pa_cons (pe_own D_law_copy hr (pa_cons (pv 11) pa_nil)) (pa_cons (pe_op op_rep (pe_lst (pa_cons pe_int pa_nil)) (pe_callB cr_len (by rfl) g_len (by decide +kernel) (pa_cons (pv 11) pa_nil))) (pa_cons (pe_op op_rep (pe_lst (pa_cons pe_int pa_nil)) (pe_callB cr_len (by rfl) g_len (by decide +kernel) (pa_cons (pe_ix ix_list (pv 11) pe_int (fun _ _ => rfl)) pa_nil))) pa_nil)))))
      (pss_one (ps_ret (pe_own D_law_same hr (pa_cons (pe_own D_law_ask hr (pa_cons (pv 12) (pa_cons (pe_lc (own := [("row", 13)]) rfl sc_law.nd (pi_list (pv 11)) (blkOk_by (own := [("row", 13)]) (N := ["script", "store", "questions", "k", "world", "webs", "robbed", "moment", "second", "web", "question", "ranks", "over", "row"]) (sc := defScope s_law) (by decide +kernel)) (fun _ _ _ _ _ => pg_name (i := 13) sc_law.nd rfl (Or.inl rfl)) (fun _ _ _ _ _ => pts_nil) (fun _ _ _ _ _ => (pe_op op_rep (pe_lst (pa_cons pe_bl pa_nil)) (pe_callB (cr_lenB (K := K)) (by rfl) g_len (by decide +kernel) (pa_cons (pe_ix (ix_listB (K := K)) (pv 11) pe_int (fun _ _ => rfl)) pa_nil))))) pa_nil))) (pa_cons (pe_tup (pa_cons pe_str (pa_cons (pe_tup (pa_cons pe_str pa_nil)) pa_nil))) pa_nil)))))))))))), ?_⟩
  simp only [L2.cxOf, L2.Cx.nox, List.map_cons, List.map_nil, List.length_cons, List.length_nil, Nat.reduceAdd]
  walk_at "go"
  refine ⟨a, ns, rfl, hS, fun p H1 k1 f1 s1 => ?_⟩
  obtain ⟨sl, hs⟩ := s1
  refine x_name (.succ .zero) ?_
  dsimp only
  refine es_enter (K := K) (t := tSeq _ _) (ρ := [.dead, .sto, .dead, .dead, .dead, .dead, .dead, .dead, .dead, .dead, .dead, .dead, .dead, .dead]) (n := 14) (A := fun a => a ≠ p) (Dn := ⟨fun _ => False, fun c _ => c = cB true, fun _ => False, fun _ => False⟩) hs rfl rfl ?_ (fun _ z => z) (fun _ z => z) (fun _ z => z) (fun c ρ v H' z => ⟨true, z, fun e => by rw [e]; exact q H'⟩) ?_
  · intro i c e
    match i, e with
    | 0, e => cases e; exact .inl rfl
    | 1, e => cases e; exact .inr ⟨rfl, rfl⟩
    | i + 2, e => exact .inl (by
        have := List.mem_of_getElem? (show ([.dead, .dead, .dead, .dead, .dead, .dead, .dead, .dead, .dead, .dead, .dead, .dead] : List Cell)[i]? = some c from e)
        simpa using this)
  have ok := okS (n := 14) (A := fun a => a ≠ p) (K := K) hs
  walk_at "ev"
  refine loopK [3, 4, 5, 6, 7, 8, 9] (fun i ρ => ∃ qs : List T, ρ = [.dead, .sto, .t (.lst qs), .dead, .dead, .dead, .dead, .dead, .dead, .dead, .dead, .dead, .dead, .dead] ∧ qs.length = 6 * i ∧ ∀ t ∈ qs, QOk17 C_Moment t.data) ⟨[], rfl, rfl, by simp⟩ ?_ ?_
  · rintro i ρ hi ⟨qs, rfl, ql, hq⟩
    have i2 : i < 2 := hi
    walk_at "ev"
    refine ⟨trivial, ?_⟩
    rintro r ⟨m, sh, s1, em⟩
    walk_at "eg"
    refine es_fz (i := 4) (d := moD m) (by walk_at "cat") em (by walk_at "cset") rfl ?_
    have r8 := sh.ok.r1
    have b8 := sh.ok.b1
    have ll := sh.l
    walk_at "ev"
    refine ⟨sh, ?_⟩
    rintro r ⟨w1, w2, w3, rfl, h1, h2, h3⟩
    walk_at "eg"
    refine es_fz (i := 5) (d := .lst [.lst (w1.map dBs), .lst (w2.map dBs), .lst (w3.map dBs)]) (by walk_at "cat") (by
      show D.lst [T.data _, T.data _, T.data _] = _
      rw [tBw_data, tBw_data, tBw_data]) (by walk_at "cset") rfl ?_
    have am := sh.ok.am
    refine es_cut (fun ρ => ∃ (le : List Int) (t : T), ρ = [.dead, .sto, .t (.lst qs), cI (i : Int), cD (moD m), cD (.lst [.lst (w1.map dBs), .lst (w2.map dBs), .lst (w3.map dBs)]), .t t, .dead, .dead, .dead, .dead, .dead, .dead, .dead] ∧ t.data = .tup [dIss m.ranks, dIs le, dIs m.bears] ∧ le.length = m.left.length ∧ le.sum = m.left.sum ∧ ∀ x ∈ le, 0 ≤ x ∧ x ≤ 100000000000000) ?_ ?_
    · walk_at "ev"
      refine ⟨⟨by omega, fun x hx => am x (List.mem_append_left _ hx)⟩, ?_⟩
      rintro r ⟨le, rfl, q1, q2, q3⟩
      walk_at "ev"
      refine ⟨le, _, rfl, ?_, q1, q2, q3⟩
      show D.tup [_, T.data _, _] = _
      rw [T.data_row]
      rfl
    rintro ρ ⟨le, t, rfl, et, q1, q2, q3⟩
    obtain ⟨m', em'⟩ : ∃ m' : Mo, m' = ⟨m.ranks, le, m.bears⟩ := ⟨_, rfl⟩
    have sh' : m'.Sh := by
      subst em'
      exact ⟨⟨sh.ok.r1, sh.ok.b1, fun x hx => (List.mem_append.mp hx).elim (q3 x) fun z => am x (List.mem_append_right _ z), sh.ok.rk, by show le.sum = m.bears.sum; rw [q2]; exact sh.ok.su⟩, by show le.length = m.ranks.length; omega, sh.r⟩
    have s1' : 1 ≤ m'.left.sum := by subst em'; show 1 ≤ le.sum; omega
    have wm' : ∀ ws, WebOk m ws → WebOk m' ws := fun ws hw => by subst em'; exact ⟨by rw [hw.1]; exact q1.symm, hw.2⟩
    have et' : t.data = moD m' := by subst em'; exact et
    refine es_fz (i := 6) (d := moD m') (by walk_at "cat") et' (by walk_at "cset") rfl ?_
    clear et et' em' q1 q2 q3 le t
    have mkn : MkN := .mk
    walk_at "ev"
    refine ⟨sh.prD, ?_⟩
    rintro r rfl
    rw [show (T.d (dIss m.ranks)).data.thaw = _ from thaw_rows m.ranks]
    walk_at "ev"
    refine ⟨m, .cons (.t rows_data) (.cons (.t (T.data_row _)) (.cons (.t (T.data_row _)) .nil)), sh.pre, ?_, fun _ _ z => sh.ok.no_bad z⟩
    rintro fs ⟨_, rfl⟩
    walk_at "ev"
    refine ⟨sh'.prD, ?_⟩
    rintro r rfl
    rw [show (T.d (dIss m'.ranks)).data.thaw = _ from thaw_rows m'.ranks]
    walk_at "ev"
    refine ⟨m', .cons (.t rows_data) (.cons (.t (T.data_row _)) (.cons (.t (T.data_row _)) .nil)), sh'.pre, ?_, fun _ _ z => sh'.ok.no_bad z⟩
    rintro fs ⟨_, rfl⟩
    walk_at "ev"
    refine loopK [9] (fun j ρ => ∃ qs : List T, ρ = [.dead, .sto, .t (.lst qs), cI (i : Int), cD (moD m), cD (.lst [.lst (w1.map dBs), .lst (w2.map dBs), .lst (w3.map dBs)]), cD (moD m'), cD (.obj C_Moment m.fields), cD (.obj C_Moment m'.fields), .dead, .dead, .dead, .dead, .dead] ∧ qs.length = 6 * i + 2 * j ∧ ∀ t ∈ qs, QOk17 C_Moment t.data) ⟨qs, rfl, ql, hq⟩ ?_ ?_
    · clear hq ql qs
      rintro j ρ hj ⟨qs, rfl, ql, hq⟩
      have j3 : j < 3 := hj
      obtain ⟨ws, ew, hw⟩ := three_of (f := fun ws : List (List Bool) => D.lst (ws.map dBs)) (P := WebOk m) h1 h2 h3 j j3
      rw [ew]
      walk_at "ev"
      refine ⟨(m, ws), .cons (.cons (.cons .nil)), ⟨sh, hw⟩, ?_⟩
      rintro r hr
      walk_at "ev"
      refine ⟨(m', ws), .cons (.cons (.cons .nil)), ⟨sh', wm' ws hw⟩, ?_⟩
      rintro r' hr'
      walk_at "ev"
      walk_at "kl"
      refine ⟨qs ++ [_] ++ [_], rfl, by rw [List.length_append, List.length_append, ql]; rfl, fun x hx => ?_⟩
      rcases List.mem_append.mp hx with hx | hx
      · rcases List.mem_append.mp hx with hx | hx
        · exact hq x hx
        · rw [List.mem_singleton.mp hx]
          exact ⟨m, ws, r.data, rfl, sh, s1, hw, hr⟩
      · rw [List.mem_singleton.mp hx]
        exact ⟨m', ws, r'.data, rfl, sh', s1', wm' ws hw, hr'⟩
    · clear hq ql qs
      rintro ρ ⟨qs, rfl, ql, hq⟩
      walk_at "kl"
      exact ⟨qs, rfl, by have : qs.length = 6 * i + 2 * 3 := ql; omega, hq⟩
    all_goals exact ()
  rintro ρ ⟨qs, rfl, ql, hq⟩
  have ql : qs.length = 12 := ql
  refine es_fz (i := 2) (d := .lst (T.datas qs)) (by walk_at "cat") rfl (by walk_at "cset") rfl ?_
  have dq : ∀ d ∈ T.datas qs, QOk17 C_Moment d := fun d hd => by
    rw [T.datas_map] at hd
    obtain ⟨t, ht, rfl⟩ := List.mem_map.mp hd
    exact hq t ht
  have dl : (T.datas qs).length = 12 := by rw [T.datas_map, List.length_map]; exact ql
  clear hq ql
  generalize T.datas qs = ds at *
  walk_at "ev"
  refine ⟨by omega, ?_⟩
  rintro r ⟨ds', rfl, pe⟩
  have dl' : ds'.length = 12 := by rw [pe.length_eq, dl]
  walk_at "ev"
  refine vo_cat (l1 := ds') (l2 := ds) ok .own .fz (by omega) ?_
  refine ⟨_, _, rfl, T.data_row _, ?_⟩
  refine loopK [10] (fun c ρ => ρ = [.dead, .sto, cD (.lst ds), .dead, .dead, .dead, .dead, .dead, .dead, .dead, .dead, .dead, .dead, .dead]) rfl ?_ ?_
  · rintro c ρ hc rfl
    obtain ⟨m, ws, due, ea, sh, s1, hweb, hd⟩ : QOk17 C_Moment ((ds' ++ ds).getD c .non) := by
      rcases List.mem_append.mp (getD_mem hc) with z | z
      · exact dq _ (pe.mem_iff.mp z)
      · exact dq _ z
    rw [ea]
    have r8 := sh.ok.r1
    have b8 := sh.ok.b1
    have ll := sh.l
    walk_at "ev"
    refine ⟨(m, ws), .cons (.cons .nil), ⟨sh, hweb⟩, ?_⟩
    rintro r hr
    obtain ⟨rows, br, er⟩ : ∃ rows, BandRows m ws rows ∧ r.data = .tup [.str "told", brBlk C_Block (lastMax (brRoot m) rows)] := by
      rcases hr with ⟨z, _⟩ | ⟨_, z⟩
      · dsimp only at z
        omega
      · exact z
    have ed := hd rows br
    subst ed
    have bl := best_len br
    walk_at "ev"
    refine ⟨lastMax (brRoot m) rows, .cons (.t er) (.cons (.t rfl) .nil), ⟨by omega, by omega⟩, ?_⟩
    rintro v rfl
    walk_at "ev"
    walk_at "kl"
    rfl
  rintro ρ rfl
  walk_at "ev"
  refine loopK [10] (fun c ρ => ρ = [.dead, .sto, cD (.lst ds), .dead, .dead, .dead, .dead, .dead, .dead, .dead, .dead, .dead, .dead, .dead]) rfl ?_ ?_
  · rintro c ρ hc rfl
    obtain ⟨m, ws, due, ea, sh, s1, hweb, hd⟩ := dq _ (getD_mem hc)
    rw [ea]
    have r8 := sh.ok.r1
    have pm := moD_prD17 sh
    walk_at "ev"
    refine ⟨m, m.fields, rfl, rfl, by omega, ?_⟩
    rintro r rfl
    walk_at "ev"
    refine ⟨m, m.fields, rfl, rfl, trivial, ?_⟩
    rintro r rfl
    walk_at "ev"
    refine ⟨m, m.fields, rfl, rfl, trivial, ?_⟩
    rintro r rfl
    walk_at "ev"
    refine ⟨(moD m, moD m), .cons (.t (tup3_17 _)) (.cons (.t rfl) .nil), ⟨pm.p, pm.mono (by decide) (by decide)⟩, ?_⟩
    rintro r ⟨b, rfl, hb⟩
    obtain rfl : b = true := hb.mpr rfl
    walk_at "ev"
    walk_at "kl"
    rfl
  rintro ρ rfl
  have h0 : 0 < ds.length := by omega
  obtain ⟨m, ws0, due0, ea, sh, s1, _, _⟩ := dq _ (List.getElem_mem h0)
  have at0 : atI ds ((0 : Nat) : Int) = some ds[0] := at_nat (List.getElem?_eq_getElem h0)
  rw [ea] at at0
  have so := sh.over
  have r8 := sh.ok.r1
  have b8 := sh.ok.b1
  have ll := sh.l
  have r0 : 0 < m.ranks.length := by omega
  have n0 := sh.r _ (List.getElem_mem r0)
  have rl : (m.ranks.map dIs).length = m.ranks.length := List.length_map _
  have ra : atI (m.ranks.map dIs) ((0 : Nat) : Int) = some (dIs m.ranks[0]) := at_nat (by rw [List.getElem?_map, List.getElem?_eq_getElem r0]; rfl)
  have mkn : MkN := .mk
  walk_at "ev"
  refine vo_ixL (by walk_at "leaf") at0 ?_
  walk_at "ev"
  refine ⟨sh.prD, ?_⟩
  rintro r rfl
  rw [show (T.d (dIss m.ranks)).data.thaw = _ from thaw_rows m.ranks]
  walk_at "ev"
  rw [rl]
  refine vo_rep ok (.own (l := [.int 0])) (by omega) (by omega) (by show 1 * _ ≤ _; omega) ?_
  rw [rep_zero]
  walk_at "ev"
  refine vo_ixL (by walk_at "leaf") ra ?_
  walk_at "ev"
  rw [List.length_map, n0]
  refine vo_rep ok (.own (l := [.int 0])) (by omega) (by omega) (by show 1 * _ ≤ _; omega) ?_
  rw [rep_zero]
  walk_at "ev"
  refine ⟨m.over, .cons (.t rows_data) (.cons (.t ((T.data_row _).trans (by rw [← ll]; rfl))) (.cons (.t (T.data_row _)) .nil)), so.pre, ?_, fun _ _ z => so.ok.no_bad z⟩
  rintro fs ⟨_, rfl⟩
  walk_at "eg"
  have eo : ∀ d, wAsk C_Block (m.over, List.replicate m.ranks.length (List.replicate m.bears.length false)) d → d = dOver17 := fun d hd => by
    rcases hd with ⟨_, e⟩ | ⟨z, _⟩
    · exact e
    · exact absurd (sum_zeros _) z
  have e1 : m.over.left.length = m.ranks.length := by show (List.replicate _ _).length = _; rw [List.length_replicate]; exact ll
  have e2 : m.over.bears.length = m.bears.length := by show (List.replicate _ _).length = _; rw [List.length_replicate]
  have po := dOver_prD17
  dsimp only
  refine es_ret ?_
  refine ev_call ok ?_
  refine ea_cons ?_
  refine ev_callA ok ?_
  refine ea_cons ?_
  refine ev_var_d (by walk_at "cat") ?_
  refine ea_cons ?_
  refine ev_fzT ?_
  walk_at "ev"
  refine ⟨by rw [rl]; omega, ?_⟩
  rw [rl]
  refine lcl (fun i acc => acc = (List.replicate i (List.replicate m.bears.length false)).map fun bs => T.row (bs.map .bl)) (by simp) rfl (fun i acc hi hI ha => ?_) fun acc hI _ => ?_
  · rw [dIss_get hi]
    walk_at "ev"
    refine vo_ixL (by walk_at "leaf") ra ?_
    walk_at "ev"
    rw [List.length_map, n0]
    refine vo_rep ok (.own (l := [.bl false])) (by omega) (by omega) (by show 1 * _ ≤ _; omega) ?_
    rw [rep_false]
    walk_at "ev"
    walk_at "kk"
    rw [hI, List.replicate_succ', List.map_append]
    rfl
  subst hI
  refine ⟨_, rfl, ?_⟩
  rw [tBw_data]
  refine ea_nil ?_
  refine ⟨(m.over, List.replicate m.ranks.length (List.replicate m.bears.length false)), .cons (.cons .nil), ⟨so, by dsimp only; rw [e1, List.length_replicate], fun row hr => by dsimp only; rw [e2, (List.mem_replicate.mp hr).2, List.length_replicate]⟩, ?_⟩
  rintro r hr
  have er := eo _ hr
  walk_at "ev"
  refine ⟨(dOver17, dOver17), .cons (.t er) (.cons (.t rfl) .nil), ⟨po.p, po.mono (by decide) (by decide)⟩, ?_⟩
  rintro r ⟨b, rfl, hb⟩
  obtain rfl : b = true := hb.mpr rfl
  walk_at "ev"
  rfl
end
end LN
namespace LNH
open PySem PySem.Spec PyProof.Rows L2
theorem tops {P : Program} {w : World} {K : PySem.W.Frag} {h : Heap} {mg : Str → Option Value} {fl : Addr} (X : K.In h) (G : h.Ns mainGlobals mg) (hfa : mg ("law" : Str) = some (.ref fl)) (c : LN.SaysP fa fn ex K) :
    ∃ fd : FuncData, (∀ (s : Shared) (v : Value), BindsTo s fd ⟨[v], []⟩ [("script", v)]) ∧ ∀ base : Heap, K.In base → base.Ns mainGlobals mg → FnOk P w K mg base CX0 10 fl fd ["script"] (LN.spLaw K) := by
  have d0 : He5.SaysA fa fn K := c.d
  have hx : (LN.oexB K "TooMany" && LN.oexB K "BadShare" && LN.oexB K "BadRanking" && LN.oexB K "Unequal" && LN.propB K "Moment" "ranks" && LN.propB K "Moment" "left" && LN.propB K "Moment" "bears" && LN.propB K "Moment" "standing" && LN.propB K "Moment" "is_over" && LN.propB K "Block" "band" && LN.propB K "Block" "names" && LN.propB K "Block" "excess" && LN.excB K "Over" && LN.clsRow K "Over" rows && LN.kitNT K "Over" "ValueError" true && LN.isiB K "Block") = true := c.more
  simp only [Bool.and_eq_true] at hx
  obtain ⟨⟨⟨⟨⟨⟨⟨⟨⟨⟨⟨⟨⟨⟨⟨XO_TooManyb, XO_BadShareb⟩, XO_BadRankingb⟩, XO_Unequalb⟩, pr_Moment_ranksb⟩, pr_Moment_leftb⟩, pr_Moment_bearsb⟩, pr_Moment_standingb⟩, pr_Moment_is_overb⟩, pr_Block_bandb⟩, pr_Block_namesb⟩, pr_Block_excessb⟩, XC_Overb⟩, row_Overb⟩, kv_Overb⟩, isi_Blockb⟩ := hx
  have XO_TooMany := LN.oexB_ok XO_TooManyb
  have XO_BadShare := LN.oexB_ok XO_BadShareb
  have XO_BadRanking := LN.oexB_ok XO_BadRankingb
  have XO_Unequal := LN.oexB_ok XO_Unequalb
  have pr_Moment_ranks := LN.propB_ok pr_Moment_ranksb
  have pr_Moment_left := LN.propB_ok pr_Moment_leftb
  have pr_Moment_bears := LN.propB_ok pr_Moment_bearsb
  have pr_Moment_standing := LN.propB_ok pr_Moment_standingb
  have pr_Moment_is_over := LN.propB_ok pr_Moment_is_overb
  have pr_Block_band := LN.propB_ok pr_Block_bandb
  have pr_Block_names := LN.propB_ok pr_Block_namesb
  have pr_Block_excess := LN.propB_ok pr_Block_excessb
  have XC_Over := LN.excB_ok XC_Overb
  have row_Over := id row_Overb
  have kv_Over := of_decide_eq_true kv_Overb
  have isi_Block := LN.isiB_ok isi_Blockb
  obtain ⟨fd_law_mix, F_law_mix⟩ := d0.def_ 0 (d := d_law_mix) rfl
  have h_law_mix : LN.DefAt K mg "_law_mix" ["one", "two"] LN.s_law_mix := ⟨_, fd_law_mix, He.glo_ok X G (d0.fact 0 (f := .glo "_law_mix") rfl), F_law_mix, F_law_mix.bindsN fun _ _ _ _ _ _ us hl => match us, hl with | [_, _], _ => rfl⟩
  have g_int : mg "int" = none := He.free_ok X G (d0.fact 1 (f := .free "int") rfl)
  obtain ⟨fd_law_store, F_law_store⟩ := d0.def_ 1 (d := d_law_store) rfl
  have h_law_store : LN.DefAt K mg "_law_store" ["script"] LN.s_law_store := ⟨_, fd_law_store, He.glo_ok X G (d0.fact 2 (f := .glo "_law_store") rfl), F_law_store, F_law_store.bindsN fun _ _ _ _ _ _ us hl => match us, hl with | [_], _ => rfl⟩
  have g_len : mg "len" = none := He.free_ok X G (d0.fact 3 (f := .free "len") rfl)
  have g_list : mg "list" = none := He.free_ok X G (d0.fact 4 (f := .free "list") rfl)
  obtain ⟨fd_law_take, F_law_take⟩ := d0.def_ 2 (d := d_law_take) rfl
  have h_law_take : LN.DefAt K mg "_law_take" ["store", "many"] LN.s_law_take := ⟨_, fd_law_take, He.glo_ok X G (d0.fact 5 (f := .glo "_law_take") rfl), F_law_take, F_law_take.bindsN fun _ _ _ _ _ _ us hl => match us, hl with | [_, _], _ => rfl⟩
  have g_abs : mg "abs" = none := He.free_ok X G (d0.fact 6 (f := .free "abs") rfl)
  obtain ⟨fd_law_number, F_law_number⟩ := d0.def_ 3 (d := d_law_number) rfl
  have h_law_number : LN.DefAt K mg "_law_number" ["store", "many"] LN.s_law_number := ⟨_, fd_law_number, He.glo_ok X G (d0.fact 7 (f := .glo "_law_number") rfl), F_law_number, F_law_number.bindsN fun _ _ _ _ _ _ us hl => match us, hl with | [_, _], _ => rfl⟩
  have g_range : mg "range" = none := He.free_ok X G (d0.fact 8 (f := .free "range") rfl)
  obtain ⟨fd_law_between, F_law_between⟩ := d0.def_ 4 (d := d_law_between) rfl
  have h_law_between : LN.DefAt K mg "_law_between" ["store", "low", "high"] LN.s_law_between := ⟨_, fd_law_between, He.glo_ok X G (d0.fact 9 (f := .glo "_law_between") rfl), F_law_between, F_law_between.bindsN fun _ _ _ _ _ _ us hl => match us, hl with | [_, _, _], _ => rfl⟩
  obtain ⟨fd_law_near_ends, F_law_near_ends⟩ := d0.def_ 5 (d := d_law_near_ends) rfl
  have h_law_near_ends : LN.DefAt K mg "_law_near_ends" ["store", "low", "high"] LN.s_law_near_ends := ⟨_, fd_law_near_ends, He.glo_ok X G (d0.fact 10 (f := .glo "_law_near_ends") rfl), F_law_near_ends, F_law_near_ends.bindsN fun _ _ _ _ _ _ us hl => match us, hl with | [_, _, _], _ => rfl⟩
  have g_max : mg "max" = none := He.free_ok X G (d0.fact 11 (f := .free "max") rfl)
  obtain ⟨fd_law_pick, F_law_pick⟩ := d0.def_ 6 (d := d_law_pick) rfl
  have h_law_pick : LN.DefAt K mg "_law_pick" ["store", "row"] LN.s_law_pick := ⟨_, fd_law_pick, He.glo_ok X G (d0.fact 12 (f := .glo "_law_pick") rfl), F_law_pick, F_law_pick.bindsN fun _ _ _ _ _ _ us hl => match us, hl with | [_, _], _ => rfl⟩
  obtain ⟨fd_law_shuffled, F_law_shuffled⟩ := d0.def_ 7 (d := d_law_shuffled) rfl
  have h_law_shuffled : LN.DefAt K mg "_law_shuffled" ["store", "row"] LN.s_law_shuffled := ⟨_, fd_law_shuffled, He.glo_ok X G (d0.fact 13 (f := .glo "_law_shuffled") rfl), F_law_shuffled, F_law_shuffled.bindsN fun _ _ _ _ _ _ us hl => match us, hl with | [_, _], _ => rfl⟩
  have g_isinstance : mg "isinstance" = none := He.free_ok X G (d0.fact 14 (f := .free "isinstance") rfl)
  have g_tuple : mg "tuple" = none := He.free_ok X G (d0.fact 15 (f := .free "tuple") rfl)
  obtain ⟨fd_law_copy, F_law_copy⟩ := d0.def_ 8 (d := d_law_copy) rfl
  have h_law_copy : LN.DefAt K mg "_law_copy" ["thing"] LN.s_law_copy := ⟨_, fd_law_copy, He.glo_ok X G (d0.fact 16 (f := .glo "_law_copy") rfl), F_law_copy, F_law_copy.bindsN fun _ _ _ _ _ _ us hl => match us, hl with | [_], _ => rfl⟩
  have g_bool : mg "bool" = none := He.free_ok X G (d0.fact 17 (f := .free "bool") rfl)
  have g_str : mg "str" = none := He.free_ok X G (d0.fact 18 (f := .free "str") rfl)
  obtain ⟨fd_law_same, F_law_same⟩ := d0.def_ 9 (d := d_law_same) rfl
  have h_law_same : LN.DefAt K mg "_law_same" ["told", "due"] LN.s_law_same := ⟨_, fd_law_same, He.glo_ok X G (d0.fact 19 (f := .glo "_law_same") rfl), F_law_same, F_law_same.bindsN fun _ _ _ _ _ _ us hl => match us, hl with | [_, _], _ => rfl⟩
  obtain ⟨fd_law_spoil, F_law_spoil⟩ := d0.def_ 10 (d := d_law_spoil) rfl
  have h_law_spoil : LN.DefAt K mg "_law_spoil" ["thing"] LN.s_law_spoil := ⟨_, fd_law_spoil, He.glo_ok X G (d0.fact 20 (f := .glo "_law_spoil") rfl), F_law_spoil, F_law_spoil.bindsN fun _ _ _ _ _ _ us hl => match us, hl with | [_], _ => rfl⟩
  obtain ⟨fd_law_standing, F_law_standing⟩ := d0.def_ 11 (d := d_law_standing) rfl
  have h_law_standing : LN.DefAt K mg "_law_standing" ["bears"] LN.s_law_standing := ⟨_, fd_law_standing, He.glo_ok X G (d0.fact 21 (f := .glo "_law_standing") rfl), F_law_standing, F_law_standing.bindsN fun _ _ _ _ _ _ us hl => match us, hl with | [_], _ => rfl⟩
  obtain ⟨fd_law_order, F_law_order⟩ := d0.def_ 12 (d := d_law_order) rfl
  have h_law_order : LN.DefAt K mg "_law_order" ["store", "many"] LN.s_law_order := ⟨_, fd_law_order, He.glo_ok X G (d0.fact 22 (f := .glo "_law_order") rfl), F_law_order, F_law_order.bindsN fun _ _ _ _ _ _ us hl => match us, hl with | [_, _], _ => rfl⟩
  obtain ⟨fd_law_stages, F_law_stages⟩ := d0.def_ 13 (d := d_law_stages) rfl
  have h_law_stages : LN.DefAt K mg "_law_stages" ["store", "bears"] LN.s_law_stages := ⟨_, fd_law_stages, He.glo_ok X G (d0.fact 23 (f := .glo "_law_stages") rfl), F_law_stages, F_law_stages.bindsN fun _ _ _ _ _ _ us hl => match us, hl with | [_, _], _ => rfl⟩
  have g_sorted : mg "sorted" = none := He.free_ok X G (d0.fact 24 (f := .free "sorted") rfl)
  obtain ⟨fd_law_web, F_law_web⟩ := d0.def_ 14 (d := d_law_web) rfl
  have h_law_web : LN.DefAt K mg "_law_web" ["ranks", "bears", "stages"] LN.s_law_web := ⟨_, fd_law_web, He.glo_ok X G (d0.fact 25 (f := .glo "_law_web") rfl), F_law_web, F_law_web.bindsN fun _ _ _ _ _ _ us hl => match us, hl with | [_, _, _], _ => rfl⟩
  have g_all : mg "all" = none := He.free_ok X G (d0.fact 26 (f := .free "all") rfl)
  obtain ⟨fd_law_any_web, F_law_any_web⟩ := d0.def_ 15 (d := d_law_any_web) rfl
  have h_law_any_web : LN.DefAt K mg "_law_any_web" ["store", "parties", "bears"] LN.s_law_any_web := ⟨_, fd_law_any_web, He.glo_ok X G (d0.fact 27 (f := .glo "_law_any_web") rfl), F_law_any_web, F_law_any_web.bindsN fun _ _ _ _ _ _ us hl => match us, hl with | [_, _, _], _ => rfl⟩
  obtain ⟨fd_law_parts, F_law_parts⟩ := d0.def_ 16 (d := d_law_parts) rfl
  have h_law_parts : LN.DefAt K mg "_law_parts" ["store", "total", "many", "most"] LN.s_law_parts := ⟨_, fd_law_parts, He.glo_ok X G (d0.fact 28 (f := .glo "_law_parts") rfl), F_law_parts, F_law_parts.bindsN fun _ _ _ _ _ _ us hl => match us, hl with | [_, _, _, _], _ => rfl⟩
  have g_min : mg "min" = none := He.free_ok X G (d0.fact 29 (f := .free "min") rfl)
  obtain ⟨fd_law_pairing, F_law_pairing⟩ := d0.def_ 17 (d := d_law_pairing) rfl
  have h_law_pairing : LN.DefAt K mg "_law_pairing" ["store", "web", "left", "bears", "greedy"] LN.s_law_pairing := ⟨_, fd_law_pairing, He.glo_ok X G (d0.fact 30 (f := .glo "_law_pairing") rfl), F_law_pairing, F_law_pairing.bindsN fun _ _ _ _ _ _ us hl => match us, hl with | [_, _, _, _, _], _ => rfl⟩
  obtain ⟨fd_law_full_table, F_law_full_table⟩ := d0.def_ 18 (d := d_law_full_table) rfl
  have h_law_full_table : LN.DefAt K mg "_law_full_table" ["store", "left", "bears"] LN.s_law_full_table := ⟨_, fd_law_full_table, He.glo_ok X G (d0.fact 31 (f := .glo "_law_full_table") rfl), F_law_full_table, F_law_full_table.bindsN fun _ _ _ _ _ _ us hl => match us, hl with | [_, _, _], _ => rfl⟩
  obtain ⟨fd_law_web_with, F_law_web_with⟩ := d0.def_ 19 (d := d_law_web_with) rfl
  have h_law_web_with : LN.DefAt K mg "_law_web_with" ["store", "table", "bears"] LN.s_law_web_with := ⟨_, fd_law_web_with, He.glo_ok X G (d0.fact 32 (f := .glo "_law_web_with") rfl), F_law_web_with, F_law_web_with.bindsN fun _ _ _ _ _ _ us hl => match us, hl with | [_, _, _], _ => rfl⟩
  obtain ⟨fd_law_ranks, F_law_ranks⟩ := d0.def_ 20 (d := d_law_ranks) rfl
  have h_law_ranks : LN.DefAt K mg "_law_ranks" ["store", "parties", "names"] LN.s_law_ranks := ⟨_, fd_law_ranks, He.glo_ok X G (d0.fact 33 (f := .glo "_law_ranks") rfl), F_law_ranks, F_law_ranks.bindsN fun _ _ _ _ _ _ us hl => match us, hl with | [_, _, _], _ => rfl⟩
  obtain ⟨fd_law_world, F_law_world⟩ := d0.def_ 21 (d := d_law_world) rfl
  have h_law_world : LN.DefAt K mg "_law_world" ["store"] LN.s_law_world := ⟨_, fd_law_world, He.glo_ok X G (d0.fact 34 (f := .glo "_law_world") rfl), F_law_world, F_law_world.bindsN fun _ _ _ _ _ _ us hl => match us, hl with | [_], _ => rfl⟩
  have g_sum : mg "sum" = none := He.free_ok X G (d0.fact 35 (f := .free "sum") rfl)
  obtain ⟨fd_law_drawn_web, F_law_drawn_web⟩ := d0.def_ 22 (d := d_law_drawn_web) rfl
  have h_law_drawn_web : LN.DefAt K mg "_law_drawn_web" ["store", "ranks", "left", "bears"] LN.s_law_drawn_web := ⟨_, fd_law_drawn_web, He.glo_ok X G (d0.fact 36 (f := .glo "_law_drawn_web") rfl), F_law_drawn_web, F_law_drawn_web.bindsN fun _ _ _ _ _ _ us hl => match us, hl with | [_, _, _, _], _ => rfl⟩
  obtain ⟨fd_law_three_webs, F_law_three_webs⟩ := d0.def_ 23 (d := d_law_three_webs) rfl
  have h_law_three_webs : LN.DefAt K mg "_law_three_webs" ["store", "world"] LN.s_law_three_webs := ⟨_, fd_law_three_webs, He.glo_ok X G (d0.fact 37 (f := .glo "_law_three_webs") rfl), F_law_three_webs, F_law_three_webs.bindsN fun _ _ _ _ _ _ us hl => match us, hl with | [_, _], _ => rfl⟩
  obtain ⟨fd_law_robbed, F_law_robbed⟩ := d0.def_ 24 (d := d_law_robbed) rfl
  have h_law_robbed : LN.DefAt K mg "_law_robbed" ["store", "left"] LN.s_law_robbed := ⟨_, fd_law_robbed, He.glo_ok X G (d0.fact 38 (f := .glo "_law_robbed") rfl), F_law_robbed, F_law_robbed.bindsN fun _ _ _ _ _ _ us hl => match us, hl with | [_, _], _ => rfl⟩
  obtain ⟨fd_law_excesses, F_law_excesses⟩ := d0.def_ 25 (d := d_law_excesses) rfl
  have h_law_excesses : LN.DefAt K mg "_law_excesses" ["web", "left", "bears"] LN.s_law_excesses := ⟨_, fd_law_excesses, He.glo_ok X G (d0.fact 39 (f := .glo "_law_excesses") rfl), F_law_excesses, F_law_excesses.bindsN fun _ _ _ _ _ _ us hl => match us, hl with | [_, _, _], _ => rfl⟩
  obtain ⟨fd_law_band_of, F_law_band_of⟩ := d0.def_ 26 (d := d_law_band_of) rfl
  have h_law_band_of : LN.DefAt K mg "_law_band_of" ["number", "parties"] LN.s_law_band_of := ⟨_, fd_law_band_of, He.glo_ok X G (d0.fact 40 (f := .glo "_law_band_of") rfl), F_law_band_of, F_law_band_of.bindsN fun _ _ _ _ _ _ us hl => match us, hl with | [_, _], _ => rfl⟩
  obtain ⟨fd_law_due, F_law_due⟩ := d0.def_ 27 (d := d_law_due) rfl
  have h_law_due : LN.DefAt K mg "_law_due" ["web", "left", "bears"] LN.s_law_due := ⟨_, fd_law_due, He.glo_ok X G (d0.fact 41 (f := .glo "_law_due") rfl), F_law_due, F_law_due.bindsN fun _ _ _ _ _ _ us hl => match us, hl with | [_, _, _], _ => rfl⟩
  have g_any : mg "any" = none := He.free_ok X G (d0.fact 42 (f := .free "any") rfl)
  obtain ⟨fd_check_sides, F_check_sides⟩ := d0.def_ 28 (d := d_check_sides) rfl
  have h_check_sides : LN.DefAt K mg "check_sides" ["parties", "names"] LN.s_check_sides := ⟨_, fd_check_sides, He.glo_ok X G (d0.fact 43 (f := .glo "check_sides") rfl), F_check_sides, F_check_sides.bindsN fun _ _ _ _ _ _ us hl => match us, hl with | [_, _], _ => rfl⟩
  have X_Empty := LN.ex0_ok X G (d0.fact 44 (f := .exc "Empty") rfl) (d0.fact 45 (f := .glo "Empty") rfl)
  have g_TooMany : mg "TooMany" = some (.ref (He.ga K "TooMany")) := He.glo_ok X G (d0.fact 46 (f := .glo "TooMany") rfl)
  have na_TooMany_limit : NoAttr K (He.ga K "TooMany") "limit" := He.noat_ok (d0.fact 47 (f := .noat "TooMany" "limit") rfl)
  obtain ⟨fd_init_TooMany, F_init_TooMany⟩ := d0.def_ 29 (d := d_init_TooMany) rfl
  obtain ⟨tk_MOST_SIDE, g_MOST_SIDE⟩ := He.int_ok X G (d0.fact 49 (f := .int "MOST_SIDE" 8) rfl)
  obtain ⟨fd_check_amounts, F_check_amounts⟩ := d0.def_ 30 (d := d_check_amounts) rfl
  have h_check_amounts : LN.DefAt K mg "check_amounts" ["amounts", "low", "high"] LN.s_check_amounts := ⟨_, fd_check_amounts, He.glo_ok X G (d0.fact 50 (f := .glo "check_amounts") rfl), F_check_amounts, F_check_amounts.bindsN fun _ _ _ _ _ _ us hl => match us, hl with | [_, _, _], _ => rfl⟩
  have g_enumerate : mg "enumerate" = none := He.free_ok X G (d0.fact 51 (f := .free "enumerate") rfl)
  have g_BadShare : mg "BadShare" = some (.ref (He.ga K "BadShare")) := He.glo_ok X G (d0.fact 52 (f := .glo "BadShare") rfl)
  have na_BadShare_at : NoAttr K (He.ga K "BadShare") "at" := He.noat_ok (d0.fact 53 (f := .noat "BadShare" "at") rfl)
  obtain ⟨fd_init_BadShare, F_init_BadShare⟩ := d0.def_ 31 (d := d_init_BadShare) rfl
  obtain ⟨fd_Moment_init, F_Moment_init⟩ := d0.def_ 32 (d := d_Moment_init) rfl
  obtain ⟨tk_MOST_STROKES, g_MOST_STROKES⟩ := He.int_ok X G (d0.fact 55 (f := .int "MOST_STROKES" 100000000000000) rfl)
  obtain ⟨tk_MOST_RANK, g_MOST_RANK⟩ := He.int_ok X G (d0.fact 56 (f := .int "MOST_RANK" 1000000) rfl)
  have g_BadRanking : mg "BadRanking" = some (.ref (He.ga K "BadRanking")) := He.glo_ok X G (d0.fact 57 (f := .glo "BadRanking") rfl)
  have na_BadRanking_at : NoAttr K (He.ga K "BadRanking") "at" := He.noat_ok (d0.fact 58 (f := .noat "BadRanking" "at") rfl)
  obtain ⟨fd_init_BadRanking, F_init_BadRanking⟩ := d0.def_ 33 (d := d_init_BadRanking) rfl
  have g_Unequal : mg "Unequal" = some (.ref (He.ga K "Unequal")) := He.glo_ok X G (d0.fact 60 (f := .glo "Unequal") rfl)
  have na_Unequal_one : NoAttr K (He.ga K "Unequal") "one" := He.noat_ok (d0.fact 61 (f := .noat "Unequal" "one") rfl)
  have na_Unequal_other : NoAttr K (He.ga K "Unequal") "other" := He.noat_ok (d0.fact 62 (f := .noat "Unequal" "other") rfl)
  obtain ⟨fd_init_Unequal, F_init_Unequal⟩ := d0.def_ 34 (d := d_init_Unequal) rfl
  have c_Moment : Cls K (He.ga K "Moment") := He.cls_ok (d0.fact 64 (f := .cls "Moment") rfl)
  have na_Moment_own_ranks : NoAttr K (He.ga K "Moment") "own_ranks" := He.noat_ok (d0.fact 65 (f := .noat "Moment" "own_ranks") rfl)
  have na_Moment_own_left : NoAttr K (He.ga K "Moment") "own_left" := He.noat_ok (d0.fact 66 (f := .noat "Moment" "own_left") rfl)
  have na_Moment_own_bears : NoAttr K (He.ga K "Moment") "own_bears" := He.noat_ok (d0.fact 67 (f := .noat "Moment" "own_bears") rfl)
  have na_Moment_own_total : NoAttr K (He.ga K "Moment") "own_total" := He.noat_ok (d0.fact 68 (f := .noat "Moment" "own_total") rfl)
  have na_Moment_own_standing : NoAttr K (He.ga K "Moment") "own_standing" := He.noat_ok (d0.fact 69 (f := .noat "Moment" "own_standing") rfl)
  have g_Moment : mg "Moment" = some (.ref (He.ga K "Moment")) := He.glo_ok X G (d0.fact 70 (f := .glo "Moment") rfl)
  obtain ⟨fd_Moment_ranks, F_Moment_ranks⟩ := d0.def_ 35 (d := d_Moment_ranks) rfl
  obtain ⟨fd_Moment_left, F_Moment_left⟩ := d0.def_ 36 (d := d_Moment_left) rfl
  obtain ⟨fd_Moment_bears, F_Moment_bears⟩ := d0.def_ 37 (d := d_Moment_bears) rfl
  obtain ⟨fd_Moment_standing, F_Moment_standing⟩ := d0.def_ 38 (d := d_Moment_standing) rfl
  obtain ⟨fd_Moment_is_over, F_Moment_is_over⟩ := d0.def_ 39 (d := d_Moment_is_over) rfl
  obtain ⟨fd_check_open, F_check_open⟩ := d0.def_ 40 (d := d_check_open) rfl
  have h_check_open : LN.DefAt K mg "check_open" ["moment"] LN.s_check_open := ⟨_, fd_check_open, He.glo_ok X G (d0.fact 72 (f := .glo "check_open") rfl), F_check_open, F_check_open.bindsN fun _ _ _ _ _ _ us hl => match us, hl with | [_], _ => rfl⟩
  have X_Over := LN.ex0_ok X G (d0.fact 73 (f := .exc "Over") rfl) (d0.fact 74 (f := .glo "Over") rfl)
  obtain ⟨fd_Block_init, F_Block_init⟩ := d0.def_ 41 (d := d_Block_init) rfl
  have c_Block : Cls K (He.ga K "Block") := He.cls_ok (d0.fact 75 (f := .cls "Block") rfl)
  have na_Block_own_band : NoAttr K (He.ga K "Block") "own_band" := He.noat_ok (d0.fact 76 (f := .noat "Block" "own_band") rfl)
  have na_Block_own_names : NoAttr K (He.ga K "Block") "own_names" := He.noat_ok (d0.fact 77 (f := .noat "Block" "own_names") rfl)
  have na_Block_own_excess : NoAttr K (He.ga K "Block") "own_excess" := He.noat_ok (d0.fact 78 (f := .noat "Block" "own_excess") rfl)
  have g_Block : mg "Block" = some (.ref (He.ga K "Block")) := He.glo_ok X G (d0.fact 79 (f := .glo "Block") rfl)
  obtain ⟨fd_Block_band, F_Block_band⟩ := d0.def_ 42 (d := d_Block_band) rfl
  obtain ⟨fd_Block_names, F_Block_names⟩ := d0.def_ 43 (d := d_Block_names) rfl
  obtain ⟨fd_Block_excess, F_Block_excess⟩ := d0.def_ 44 (d := d_Block_excess) rfl
  obtain ⟨fd_band_rows, F_band_rows⟩ := d0.def_ 45 (d := d_band_rows) rfl
  have h_band_rows : LN.DefAt K mg "band_rows" ["moment", "web"] LN.s_band_rows := ⟨_, fd_band_rows, He.glo_ok X G (d0.fact 81 (f := .glo "band_rows") rfl), F_band_rows, F_band_rows.bindsN fun _ _ _ _ _ _ us hl => match us, hl with | [_, _], _ => rfl⟩
  obtain ⟨fd_block_of, F_block_of⟩ := d0.def_ 46 (d := d_block_of) rfl
  have h_block_of : LN.DefAt K mg "block_of" ["row"] LN.s_block_of := ⟨_, fd_block_of, He.glo_ok X G (d0.fact 82 (f := .glo "block_of") rfl), F_block_of, F_block_of.bindsN fun _ _ _ _ _ _ us hl => match us, hl with | [_], _ => rfl⟩
  obtain ⟨fd_widest_block, F_widest_block⟩ := d0.def_ 47 (d := d_widest_block) rfl
  have h_widest_block : LN.DefAt K mg "widest_block" ["moment", "web"] LN.s_widest_block := ⟨_, fd_widest_block, He.glo_ok X G (d0.fact 83 (f := .glo "widest_block") rfl), F_widest_block, F_widest_block.bindsN fun _ _ _ _ _ _ us hl => match us, hl with | [_, _], _ => rfl⟩
  obtain ⟨fd_law_refused, F_law_refused⟩ := d0.def_ 48 (d := d_law_refused) rfl
  have h_law_refused : LN.DefAt K mg "_law_refused" ["caught"] LN.s_law_refused := ⟨_, fd_law_refused, He.glo_ok X G (d0.fact 84 (f := .glo "_law_refused") rfl), F_law_refused, F_law_refused.bindsN fun _ _ _ _ _ _ us hl => match us, hl with | [_], _ => rfl⟩
  have g_ValueError : mg "ValueError" = none := He.free_ok X G (d0.fact 85 (f := .free "ValueError") rfl)
  have g_Over : mg "Over" = some (.ref (He.ga K "Over")) := He.glo_ok X G (d0.fact 74 (f := .glo "Over") rfl)
  have g_NoDeed : mg "NoDeed" = some (.ref (He.ga K "NoDeed")) := He.glo_ok X G (d0.fact 86 (f := .glo "NoDeed") rfl)
  have g_StampTaken : mg "StampTaken" = some (.ref (He.ga K "StampTaken")) := He.glo_ok X G (d0.fact 87 (f := .glo "StampTaken") rfl)
  have g_BadStamp : mg "BadStamp" = some (.ref (He.ga K "BadStamp")) := He.glo_ok X G (d0.fact 88 (f := .glo "BadStamp") rfl)
  have g_BadDeed : mg "BadDeed" = some (.ref (He.ga K "BadDeed")) := He.glo_ok X G (d0.fact 89 (f := .glo "BadDeed") rfl)
  have g_NoPost : mg "NoPost" = some (.ref (He.ga K "NoPost")) := He.glo_ok X G (d0.fact 90 (f := .glo "NoPost") rfl)
  have g_LastName : mg "LastName" = some (.ref (He.ga K "LastName")) := He.glo_ok X G (d0.fact 91 (f := .glo "LastName") rfl)
  have g_Different : mg "Different" = some (.ref (He.ga K "Different")) := He.glo_ok X G (d0.fact 92 (f := .glo "Different") rfl)
  have g_Shared : mg "Shared" = some (.ref (He.ga K "Shared")) := He.glo_ok X G (d0.fact 93 (f := .glo "Shared") rfl)
  have g_Clash : mg "Clash" = some (.ref (He.ga K "Clash")) := He.glo_ok X G (d0.fact 94 (f := .glo "Clash") rfl)
  have g_NoBottom : mg "NoBottom" = some (.ref (He.ga K "NoBottom")) := He.glo_ok X G (d0.fact 95 (f := .glo "NoBottom") rfl)
  have g_NotNear : mg "NotNear" = some (.ref (He.ga K "NotNear")) := He.glo_ok X G (d0.fact 96 (f := .glo "NotNear") rfl)
  have g_NotObtainable : mg "NotObtainable" = some (.ref (He.ga K "NotObtainable")) := He.glo_ok X G (d0.fact 97 (f := .glo "NotObtainable") rfl)
  have g_NotLast : mg "NotLast" = some (.ref (He.ga K "NotLast")) := He.glo_ok X G (d0.fact 98 (f := .glo "NotLast") rfl)
  have g_NoPairing : mg "NoPairing" = some (.ref (He.ga K "NoPairing")) := He.glo_ok X G (d0.fact 99 (f := .glo "NoPairing") rfl)
  have g_BadBargain : mg "BadBargain" = some (.ref (He.ga K "BadBargain")) := He.glo_ok X G (d0.fact 100 (f := .glo "BadBargain") rfl)
  have g_NoBlock : mg "NoBlock" = some (.ref (He.ga K "NoBlock")) := He.glo_ok X G (d0.fact 101 (f := .glo "NoBlock") rfl)
  have g_BadSpan : mg "BadSpan" = some (.ref (He.ga K "BadSpan")) := He.glo_ok X G (d0.fact 102 (f := .glo "BadSpan") rfl)
  have g_OutOfRank : mg "OutOfRank" = some (.ref (He.ga K "OutOfRank")) := He.glo_ok X G (d0.fact 103 (f := .glo "OutOfRank") rfl)
  have g_Unfinished : mg "Unfinished" = some (.ref (He.ga K "Unfinished")) := He.glo_ok X G (d0.fact 104 (f := .glo "Unfinished") rfl)
  have g_BadStrike : mg "BadStrike" = some (.ref (He.ga K "BadStrike")) := He.glo_ok X G (d0.fact 105 (f := .glo "BadStrike") rfl)
  have g_BadSum : mg "BadSum" = some (.ref (He.ga K "BadSum")) := He.glo_ok X G (d0.fact 106 (f := .glo "BadSum") rfl)
  have g_TooMuch : mg "TooMuch" = some (.ref (He.ga K "TooMuch")) := He.glo_ok X G (d0.fact 107 (f := .glo "TooMuch") rfl)
  have g_BadTable : mg "BadTable" = some (.ref (He.ga K "BadTable")) := He.glo_ok X G (d0.fact 108 (f := .glo "BadTable") rfl)
  have g_BadSize : mg "BadSize" = some (.ref (He.ga K "BadSize")) := He.glo_ok X G (d0.fact 109 (f := .glo "BadSize") rfl)
  have g_BadOrder : mg "BadOrder" = some (.ref (He.ga K "BadOrder")) := He.glo_ok X G (d0.fact 110 (f := .glo "BadOrder") rfl)
  have g_BadStages : mg "BadStages" = some (.ref (He.ga K "BadStages")) := He.glo_ok X G (d0.fact 111 (f := .glo "BadStages") rfl)
  have g_BadSet : mg "BadSet" = some (.ref (He.ga K "BadSet")) := He.glo_ok X G (d0.fact 112 (f := .glo "BadSet") rfl)
  have g_BadWeaving : mg "BadWeaving" = some (.ref (He.ga K "BadWeaving")) := He.glo_ok X G (d0.fact 113 (f := .glo "BadWeaving") rfl)
  have g_TiedRanks : mg "TiedRanks" = some (.ref (He.ga K "TiedRanks")) := He.glo_ok X G (d0.fact 114 (f := .glo "TiedRanks") rfl)
  have g_BadChooser : mg "BadChooser" = some (.ref (He.ga K "BadChooser")) := He.glo_ok X G (d0.fact 115 (f := .glo "BadChooser") rfl)
  have g_Fallen : mg "Fallen" = some (.ref (He.ga K "Fallen")) := He.glo_ok X G (d0.fact 116 (f := .glo "Fallen") rfl)
  have g_Unknown : mg "Unknown" = some (.ref (He.ga K "Unknown")) := He.glo_ok X G (d0.fact 117 (f := .glo "Unknown") rfl)
  have g_BadPlace : mg "BadPlace" = some (.ref (He.ga K "BadPlace")) := He.glo_ok X G (d0.fact 118 (f := .glo "BadPlace") rfl)
  have g_BadRange : mg "BadRange" = some (.ref (He.ga K "BadRange")) := He.glo_ok X G (d0.fact 119 (f := .glo "BadRange") rfl)
  have g_Doubled : mg "Doubled" = some (.ref (He.ga K "Doubled")) := He.glo_ok X G (d0.fact 120 (f := .glo "Doubled") rfl)
  have g_BadWord : mg "BadWord" = some (.ref (He.ga K "BadWord")) := He.glo_ok X G (d0.fact 121 (f := .glo "BadWord") rfl)
  have g_Empty : mg "Empty" = some (.ref (He.ga K "Empty")) := He.glo_ok X G (d0.fact 45 (f := .glo "Empty") rfl)
  have g_BadLine : mg "BadLine" = some (.ref (He.ga K "BadLine")) := He.glo_ok X G (d0.fact 122 (f := .glo "BadLine") rfl)
  have g_OfficeError : mg "OfficeError" = some (.ref (He.ga K "OfficeError")) := He.glo_ok X G (d0.fact 123 (f := .glo "OfficeError") rfl)
  obtain ⟨fd_law_ask, F_law_ask⟩ := d0.def_ 49 (d := d_law_ask) rfl
  have h_law_ask : LN.DefAt K mg "_law_ask" ["moment", "web"] LN.s_law_ask := ⟨_, fd_law_ask, He.glo_ok X G (d0.fact 124 (f := .glo "_law_ask") rfl), F_law_ask, F_law_ask.bindsN fun _ _ _ _ _ _ us hl => match us, hl with | [_, _], _ => rfl⟩
  have hm_Over := He.exm_ok (d0.fact 125 (f := .exm "Over" "OfficeError" true) rfl)
  obtain ⟨fd_law_right, F_law_right⟩ := d0.def_ 50 (d := d_law_right) rfl
  have h_law_right : LN.DefAt K mg "_law_right" ["told", "due"] LN.s_law_right := ⟨_, fd_law_right, He.glo_ok X G (d0.fact 126 (f := .glo "_law_right") rfl), F_law_right, F_law_right.bindsN fun _ _ _ _ _ _ us hl => match us, hl with | [_, _], _ => rfl⟩
  obtain ⟨fd_law, F_law⟩ := d0.def_ 51 (d := d_law) rfl
  have e := hfa.symm.trans (He.glo_ok X G (d0.fact 127 (f := .glo "law") rfl))
  cases e
  have b_law := FunD.bindsA (ps := ["script"]) F_law fun _ _ _ _ _ _ us hl => match us, hl with | [_], _ => rfl
  refine ⟨fd_law, fun s v => b_law s [v] rfl, fun base _ _ => ?_⟩
  have X_TooMany : LN.Ex1 P w K mg base "TooMany" (He.ga K "TooMany") "limit" := ⟨g_TooMany, XO_TooMany, _, fd_init_TooMany, (LN.meth2 (d0.fact 48 (f := .meth "TooMany" "__init__") rfl)).1, (LN.meth2 (d0.fact 48 (f := .meth "TooMany" "__init__") rfl)).2, F_init_TooMany.bindsN fun _ _ _ _ _ _ us hl => match us, hl with | [_, _], _ => rfl, LN.ok_init_TooMany F_init_TooMany XO_TooMany na_TooMany_limit⟩
  have X_BadShare : LN.Ex1 P w K mg base "BadShare" (He.ga K "BadShare") "at" := ⟨g_BadShare, XO_BadShare, _, fd_init_BadShare, (LN.meth2 (d0.fact 54 (f := .meth "BadShare" "__init__") rfl)).1, (LN.meth2 (d0.fact 54 (f := .meth "BadShare" "__init__") rfl)).2, F_init_BadShare.bindsN fun _ _ _ _ _ _ us hl => match us, hl with | [_, _], _ => rfl, LN.ok_init_BadShare F_init_BadShare XO_BadShare na_BadShare_at⟩
  have X_BadRanking : LN.Ex1 P w K mg base "BadRanking" (He.ga K "BadRanking") "at" := ⟨g_BadRanking, XO_BadRanking, _, fd_init_BadRanking, (LN.meth2 (d0.fact 59 (f := .meth "BadRanking" "__init__") rfl)).1, (LN.meth2 (d0.fact 59 (f := .meth "BadRanking" "__init__") rfl)).2, F_init_BadRanking.bindsN fun _ _ _ _ _ _ us hl => match us, hl with | [_, _], _ => rfl, LN.ok_init_BadRanking F_init_BadRanking XO_BadRanking na_BadRanking_at⟩
  have X_Unequal : LN.Ex2 P w K mg base "Unequal" (He.ga K "Unequal") "one" "other" := ⟨g_Unequal, XO_Unequal, _, fd_init_Unequal, (LN.meth2 (d0.fact 63 (f := .meth "Unequal" "__init__") rfl)).1, (LN.meth2 (d0.fact 63 (f := .meth "Unequal" "__init__") rfl)).2, F_init_Unequal.bindsN fun _ _ _ _ _ _ us hl => match us, hl with | [_, _, _], _ => rfl, LN.ok_init_Unequal F_init_Unequal XO_Unequal na_Unequal_one na_Unequal_other⟩
  have D_law_mix := LN.ok_law_mix (P := P) (w := w) (K := K) (mg := mg) (base := base) (k := 0) (h := h_law_mix) (g_int := g_int)
  have D_law_store := LN.ok_law_store (P := P) (w := w) (K := K) (mg := mg) (base := base) (k := 1) (h := h_law_store) (g_len := g_len) (g_list := g_list) (D_law_mix := D_law_mix)
  have D_law_take := LN.ok_law_take (P := P) (w := w) (K := K) (mg := mg) (base := base) (k := 1) (h := h_law_take) (g_len := g_len) (g_abs := g_abs) (g_int := g_int) (D_law_mix := D_law_mix)
  have D_law_number := LN.ok_law_number (P := P) (w := w) (K := K) (mg := mg) (base := base) (k := 2) (h := h_law_number) (g_range := g_range) (D_law_take := D_law_take)
  have D_law_between := LN.ok_law_between (P := P) (w := w) (K := K) (mg := mg) (base := base) (k := 3) (h := h_law_between) (D_law_number := D_law_number)
  have D_law_near_ends := LN.ok_law_near_ends (P := P) (w := w) (K := K) (mg := mg) (base := base) (k := 4) (h := h_law_near_ends) (g_max := g_max) (D_law_take := D_law_take.mono (by decide)) (D_law_between := D_law_between)
  have D_law_pick := LN.ok_law_pick (P := P) (w := w) (K := K) (mg := mg) (base := base) (k := 2) (h := h_law_pick) (g_len := g_len) (D_law_take := D_law_take)
  have D_law_shuffled := LN.ok_law_shuffled (P := P) (w := w) (K := K) (mg := mg) (base := base) (k := 2) (h := h_law_shuffled) (g_list := g_list) (g_range := g_range) (g_len := g_len) (D_law_take := D_law_take)
  have D_law_copy := LN.copyV (LN.ok_law_copyF (P := P) (w := w) (K := K) (mg := mg) (base := base) h_law_copy g_isinstance g_list g_tuple 3)
  have D_law_same := LN.sameV (LN.ok_law_same (P := P) (w := w) (K := K) (mg := mg) (base := base) h_law_same g_isinstance g_bool g_int g_str g_list g_tuple g_len g_range 4)
  have D_law_spoil := LN.ok_law_spoilQ (P := P) (w := w) (K := K) (mg := mg) (base := base) h_law_spoil g_isinstance g_list g_tuple g_len 4
  have D_law_standing := LN.ok_law_standing (P := P) (w := w) (K := K) (mg := mg) (base := base) (k := 0) (h := h_law_standing) (g_len := g_len) (g_range := g_range)
  have D_law_order := LN.ok_law_order (P := P) (w := w) (K := K) (mg := mg) (base := base) (k := 3) (h := h_law_order) (g_list := g_list) (g_range := g_range) (D_law_take := D_law_take.mono (by decide)) (D_law_shuffled := D_law_shuffled)
  have D_law_stages := LN.ok_law_stages (P := P) (w := w) (K := K) (mg := mg) (base := base) (k := 3) (h := h_law_stages) (g_sorted := g_sorted) (D_law_take := D_law_take.mono (by decide)) (D_law_shuffled := D_law_shuffled) (D_law_standing := D_law_standing.mono (by decide))
  have D_law_web := LN.ok_law_web (P := P) (w := w) (K := K) (mg := mg) (base := base) (k := 0) (h := h_law_web) (g_len := g_len) (g_range := g_range) (g_all := g_all)
  have D_law_any_web := LN.ok_law_any_web (P := P) (w := w) (K := K) (mg := mg) (base := base) (k := 4) (h := h_law_any_web) (g_len := g_len) (g_range := g_range) (D_law_take := D_law_take.mono (by decide)) (D_law_order := D_law_order)
  have D_law_parts := LN.ok_law_parts (P := P) (w := w) (K := K) (mg := mg) (base := base) (k := 4) (h := h_law_parts) (g_range := g_range) (g_max := g_max) (g_min := g_min) (D_law_take := D_law_take.mono (by decide)) (D_law_between := D_law_between) (D_law_shuffled := D_law_shuffled.mono (by decide))
  have D_law_pairing := LN.ok_law_pairing (P := P) (w := w) (K := K) (mg := mg) (base := base) (k := 5) (h := h_law_pairing) (g_list := g_list) (g_len := g_len) (g_range := g_range) (g_min := g_min) (D_law_shuffled := D_law_shuffled.mono (by decide)) (D_law_near_ends := D_law_near_ends)
  have D_law_full_table := LN.ok_law_full_table (P := P) (w := w) (K := K) (mg := mg) (base := base) (k := 6) (h := h_law_full_table) (g_len := g_len) (g_range := g_range) (D_law_pairing := D_law_pairing)
  have D_law_web_with := LN.ok_law_web_with (P := P) (w := w) (K := K) (mg := mg) (base := base) (k := 2) (h := h_law_web_with) (g_len := g_len) (g_range := g_range) (D_law_take := D_law_take)
  have D_law_ranks := LN.ok_law_ranks (P := P) (w := w) (K := K) (mg := mg) (base := base) (k := 5) (h := h_law_ranks) (g_list := g_list) (g_range := g_range) (D_law_take := D_law_take.mono (by decide)) (D_law_near_ends := D_law_near_ends) (D_law_order := D_law_order.mono (by decide))
  have D_law_world := LN.ok_law_world (P := P) (w := w) (K := K) (mg := mg) (base := base) (k := 6) (h := h_law_world) (g_range := g_range) (g_int := g_int) (g_min := g_min) (g_sum := g_sum) (D_law_take := D_law_take.mono (by decide)) (D_law_pick := D_law_pick.mono (by decide)) (D_law_near_ends := D_law_near_ends.mono (by decide)) (D_law_between := D_law_between.mono (by decide)) (D_law_parts := D_law_parts.mono (by decide)) (D_law_ranks := D_law_ranks)
  have D_law_drawn_web := LN.ok_law_drawn_web (P := P) (w := w) (K := K) (mg := mg) (base := base) (k := 7) (h := h_law_drawn_web) (g_len := g_len) (g_range := g_range) (D_law_take := D_law_take.mono (by decide)) (D_law_any_web := D_law_any_web.mono (by decide)) (D_law_stages := D_law_stages.mono (by decide)) (D_law_web := D_law_web.mono (by decide)) (D_law_full_table := D_law_full_table) (D_law_web_with := D_law_web_with.mono (by decide)) (D_law_order := D_law_order.mono (by decide))
  have D_law_three_webs := LN.ok_law_three_webs (P := P) (w := w) (K := K) (mg := mg) (base := base) (k := 8) (h := h_law_three_webs) (g_len := g_len) (D_law_take := D_law_take.mono (by decide)) (D_law_pick := D_law_pick.mono (by decide)) (D_law_copy := D_law_copy.mono (by decide)) (D_law_drawn_web := D_law_drawn_web) (D_law_full_table := D_law_full_table.mono (by decide)) (D_law_web_with := D_law_web_with.mono (by decide))
  have D_law_robbed := LN.ok_law_robbed (P := P) (w := w) (K := K) (mg := mg) (base := base) (k := 2) (h := h_law_robbed) (g_list := g_list) (g_len := g_len) (D_law_take := D_law_take)
  have D_law_excesses := LN.ok_law_excesses (P := P) (w := w) (K := K) (mg := mg) (base := base) (k := 0) (h := h_law_excesses) (g_range := g_range) (g_len := g_len) (g_sum := g_sum)
  have D_law_band_of := LN.ok_law_band_of (P := P) (w := w) (K := K) (mg := mg) (base := base) (k := 0) (h := h_law_band_of) (g_range := g_range)
  have D_law_due := LN.ok_law_due (P := P) (w := w) (K := K) (mg := mg) (base := base) (k := 1) (h := h_law_due) (g_max := g_max) (g_range := g_range) (g_len := g_len) (g_any := g_any) (g_sorted := g_sorted) (D_law_excesses := D_law_excesses) (D_law_band_of := D_law_band_of) (D_law_standing := D_law_standing)
  have D_check_sides := LN.ok_check_sides (P := P) (w := w) (K := K) (mg := mg) (base := base) (k := 0) (h := h_check_sides) (X_Empty := X_Empty) (X_TooMany := X_TooMany) (g_MOST_SIDE := g_MOST_SIDE)
  have D_check_amounts := LN.ok_check_amountsV (P := P) (w := w) (K := K) (mg := mg) (base := base) (k := 0) (h := h_check_amounts) (g_enumerate := g_enumerate) (X_BadShare := X_BadShare)
  have K_Moment := (⟨g_Moment, _, fd_Moment_init, He.mkr_ok (d0.fact 71 (f := .mkr "Moment") rfl), F_Moment_init.bindsN fun _ _ _ _ _ _ us hl => match us, hl with | [_, _, _, _], _ => rfl, LN.ok_Moment_init (P := P) (w := w) (K := K) (mg := mg) (base := base) (k := 3) (h := F_Moment_init) (g_len := g_len) (g_list := g_list) (g_enumerate := g_enumerate) (g_min := g_min) (g_max := g_max) (g_sum := g_sum) (g_MOST_STROKES := g_MOST_STROKES) (g_MOST_RANK := g_MOST_RANK) (X_BadRanking := X_BadRanking) (X_Unequal := X_Unequal) (c_M := c_Moment) (n1 := na_Moment_own_ranks) (n2 := na_Moment_own_left) (n3 := na_Moment_own_bears) (n4 := na_Moment_own_total) (n5 := na_Moment_own_standing) (D_check_sides := D_check_sides) (D_check_amounts := D_check_amounts) (hk := by decide)⟩ : LN.MakeAt P w K mg base (L2.CX P w) 4 "Moment" (He.ga K "Moment") ["self", "ranks", "left", "bears"] _)
  have P_Moment_ranks := (⟨c_Moment, _, _, fd_Moment_ranks, pr_Moment_ranks, F_Moment_ranks.bindsN fun _ _ _ _ _ _ us hl => match us, hl with | [_], _ => rfl, LN.ok_Moment_ranks (P := P) (w := w) (K := K) (mg := mg) (base := base) (k := 0) (h := F_Moment_ranks) (g_list := g_list) (c_M := c_Moment) (n2 := na_Moment_own_ranks)⟩ : LN.PropAt P w K mg base 1 (He.ga K "Moment") "ranks" _)
  have P_Moment_left := (⟨c_Moment, _, _, fd_Moment_left, pr_Moment_left, F_Moment_left.bindsN fun _ _ _ _ _ _ us hl => match us, hl with | [_], _ => rfl, LN.ok_Moment_left (P := P) (w := w) (K := K) (mg := mg) (base := base) (k := 0) (h := F_Moment_left) (g_list := g_list) (c_M := c_Moment) (n2 := na_Moment_own_left)⟩ : LN.PropAt P w K mg base 1 (He.ga K "Moment") "left" _)
  have P_Moment_bears := (⟨c_Moment, _, _, fd_Moment_bears, pr_Moment_bears, F_Moment_bears.bindsN fun _ _ _ _ _ _ us hl => match us, hl with | [_], _ => rfl, LN.ok_Moment_bears (P := P) (w := w) (K := K) (mg := mg) (base := base) (k := 0) (h := F_Moment_bears) (g_list := g_list) (c_M := c_Moment) (n2 := na_Moment_own_bears)⟩ : LN.PropAt P w K mg base 1 (He.ga K "Moment") "bears" _)
  have P_Moment_standing := (⟨c_Moment, _, _, fd_Moment_standing, pr_Moment_standing, F_Moment_standing.bindsN fun _ _ _ _ _ _ us hl => match us, hl with | [_], _ => rfl, LN.ok_Moment_standing (P := P) (w := w) (K := K) (mg := mg) (base := base) (k := 0) (h := F_Moment_standing) (g_list := g_list) (c_M := c_Moment) (n2 := na_Moment_own_standing)⟩ : LN.PropAt P w K mg base 1 (He.ga K "Moment") "standing" _)
  have P_Moment_is_over := (⟨c_Moment, _, _, fd_Moment_is_over, pr_Moment_is_over, F_Moment_is_over.bindsN fun _ _ _ _ _ _ us hl => match us, hl with | [_], _ => rfl, LN.ok_Moment_is_over (P := P) (w := w) (K := K) (mg := mg) (base := base) (k := 0) (h := F_Moment_is_over) (c_M := c_Moment) (n2 := na_Moment_own_total)⟩ : LN.PropAt P w K mg base 1 (He.ga K "Moment") "is_over" _)
  have D_check_open := LN.ok_check_open (P := P) (w := w) (K := K) (mg := mg) (base := base) (k := 1) (h := h_check_open) (X_Over := X_Over) (P_Moment_is_over := P_Moment_is_over)
  have K_Block := (⟨g_Block, _, fd_Block_init, He.mkr_ok (d0.fact 80 (f := .mkr "Block") rfl), F_Block_init.bindsN fun _ _ _ _ _ _ us hl => match us, hl with | [_, _, _, _], _ => rfl, LN.ok_Block_init (P := P) (w := w) (K := K) (mg := mg) (base := base) (k := 0) (h := F_Block_init) (g_list := g_list) (c_B := c_Block) (n1 := na_Block_own_band) (n2 := na_Block_own_names) (n3 := na_Block_own_excess)⟩ : LN.MakeAt P w K mg base (L2.CX P w) 1 "Block" (He.ga K "Block") ["self", "band", "names", "excess"] _)
  have P_Block_band := (⟨c_Block, _, _, fd_Block_band, pr_Block_band, F_Block_band.bindsN fun _ _ _ _ _ _ us hl => match us, hl with | [_], _ => rfl, LN.ok_Block_band (P := P) (w := w) (K := K) (mg := mg) (base := base) (k := 0) (h := F_Block_band) (g_list := g_list) (c_B := c_Block) (n2 := na_Block_own_band)⟩ : LN.PropAt P w K mg base 1 (He.ga K "Block") "band" _)
  have P_Block_names := (⟨c_Block, _, _, fd_Block_names, pr_Block_names, F_Block_names.bindsN fun _ _ _ _ _ _ us hl => match us, hl with | [_], _ => rfl, LN.ok_Block_names (P := P) (w := w) (K := K) (mg := mg) (base := base) (k := 0) (h := F_Block_names) (g_list := g_list) (c_B := c_Block) (n2 := na_Block_own_names)⟩ : LN.PropAt P w K mg base 1 (He.ga K "Block") "names" _)
  have P_Block_excess := (⟨c_Block, _, _, fd_Block_excess, pr_Block_excess, F_Block_excess.bindsN fun _ _ _ _ _ _ us hl => match us, hl with | [_], _ => rfl, LN.ok_Block_excess (P := P) (w := w) (K := K) (mg := mg) (base := base) (k := 0) (h := F_Block_excess) (c_B := c_Block) (n2 := na_Block_own_excess)⟩ : LN.PropAt P w K mg base 1 (He.ga K "Block") "excess" _)
  have D_band_rows := LN.ok_band_rows (P := P) (w := w) (K := K) (mg := mg) (base := base) (k := 1) (h := h_band_rows) (g_len := g_len) (g_range := g_range) (g_sum := g_sum) (P_Moment_left := P_Moment_left) (P_Moment_bears := P_Moment_bears) (P_Moment_standing := P_Moment_standing)
  have D_block_of := LN.ok_block_of (P := P) (w := w) (K := K) (mg := mg) (base := base) (k := 1) (h := h_block_of) (K_Block := K_Block)
  have D_widest_block := LN.ok_widest_block (P := P) (w := w) (K := K) (mg := mg) (base := base) (k := 2) (h := h_widest_block) (D_check_open := D_check_open) (D_band_rows := D_band_rows) (D_block_of := D_block_of)
  have D_law_refused := LN.ok_law_refused (P := P) (w := w) (K := K) (mg := mg) (base := base) (k := 0) (h := h_law_refused) (g_isinstance := g_isinstance) (g_ValueError := g_ValueError) (g_len := g_len) (g_Over := g_Over) (g_NoDeed := g_NoDeed) (g_StampTaken := g_StampTaken) (g_BadStamp := g_BadStamp) (g_BadDeed := g_BadDeed) (g_NoPost := g_NoPost) (g_LastName := g_LastName) (g_Different := g_Different) (g_Shared := g_Shared) (g_Clash := g_Clash) (g_NoBottom := g_NoBottom) (g_NotNear := g_NotNear) (g_NotObtainable := g_NotObtainable) (g_NotLast := g_NotLast) (g_NoPairing := g_NoPairing) (g_BadBargain := g_BadBargain) (g_NoBlock := g_NoBlock) (g_BadSpan := g_BadSpan) (g_OutOfRank := g_OutOfRank) (g_Unfinished := g_Unfinished) (g_BadStrike := g_BadStrike) (g_BadSum := g_BadSum) (g_TooMuch := g_TooMuch) (g_BadTable := g_BadTable) (g_BadSize := g_BadSize) (g_BadOrder := g_BadOrder) (g_BadStages := g_BadStages) (g_BadSet := g_BadSet) (g_BadWeaving := g_BadWeaving) (g_TiedRanks := g_TiedRanks) (g_BadChooser := g_BadChooser) (g_Fallen := g_Fallen) (g_Unknown := g_Unknown) (g_Unequal := g_Unequal) (g_BadPlace := g_BadPlace) (g_BadRange := g_BadRange) (g_BadRanking := g_BadRanking) (g_BadShare := g_BadShare) (g_Doubled := g_Doubled) (g_BadWord := g_BadWord) (g_TooMany := g_TooMany) (g_Empty := g_Empty) (g_BadLine := g_BadLine) (g_OfficeError := g_OfficeError) (X_Over := XC_Over) (k_Over_Over := LN.clsRow_at row_Over 12 rfl) (ko_Over := LN.clsRow_at row_Over 0 rfl) (kv_Over := kv_Over) (a_Over_0 := LN.kitAny_row row_Over (zs := ("BadLine" :: "Empty" :: "TooMany" :: "BadWord" :: "Doubled" :: "BadShare" :: "BadRanking" :: "BadRange" :: "BadPlace" :: "Unequal" :: "Unknown" :: "Fallen" :: "BadChooser" :: "TiedRanks" :: "BadWeaving" :: "BadSet" :: "BadStages" :: "BadOrder" :: "BadSize" :: "BadTable" :: "TooMuch" :: "BadSum" :: "BadStrike" :: "Unfinished" :: "OutOfRank" :: "BadSpan" :: "NoBlock" :: "BadBargain" :: "NoPairing" :: "NotLast" :: "NotObtainable" :: "NotNear" :: "NoBottom" :: "Clash" :: "Shared" :: "Different" :: "LastName" :: "NoPost" :: "BadDeed" :: "BadStamp" :: "StampTaken" :: "NoDeed" :: [])) (by decide +kernel))
  have D_law_ask := LN.ok_law_ask (P := P) (w := w) (K := K) (mg := mg) (base := base) (k := 4) (h := h_law_ask) (g_OfficeError := g_OfficeError) (D_widest_block := D_widest_block.mono (by decide)) (D_law_refused := D_law_refused.mono (by decide)) (x_Over := hm_Over) (D_law_copy := D_law_copy.mono (by decide)) (D_law_same := D_law_same) (D_law_spoil := D_law_spoil) (hk := by decide)
  have D_law_right := LN.ok_law_right (P := P) (w := w) (K := K) (mg := mg) (base := base) (k := 4) (h := h_law_right) (g_isinstance := g_isinstance) (g_Block := g_Block) (iC := (isi_Block c_Block)) (P_Block_band := LN.PropAt.mono P_Block_band (by decide)) (P_Block_names := LN.PropAt.mono P_Block_names (by decide)) (P_Block_excess := LN.PropAt.mono P_Block_excess (by decide)) (D_law_same := D_law_same) (D_law_spoil := D_law_spoil)
  exact LN.ok_law (P := P) (w := w) (K := K) (mg := mg) (base := base) (k := 8) (h := F_law) (g_list := g_list) (g_range := g_range) (g_len := g_len) (D_law_store := D_law_store.mono (by decide)) (D_law_world := D_law_world.mono (by decide)) (D_law_copy := D_law_copy.mono (by decide)) (D_law_three_webs := D_law_three_webs) (D_law_robbed := D_law_robbed.mono (by decide)) (D_law_due := D_law_due.mono (by decide)) (D_law_ask := D_law_ask.mono (by decide)) (D_law_right := D_law_right.mono (by decide)) (D_law_shuffled := D_law_shuffled.mono (by decide)) (D_law_same := D_law_same.mono (by decide)) (P_Moment_ranks := LN.PropAt.mono P_Moment_ranks (by decide)) (P_Moment_left := LN.PropAt.mono P_Moment_left (by decide)) (P_Moment_bears := LN.PropAt.mono P_Moment_bears (by decide)) (K_Moment := LN.MakeAt.mono K_Moment (by decide))
end LNH
open PySem PySem.W PySem.Calls PyProof.Rows
set_option maxHeartbeats 0
theorem PySem.Challenge.cw_lastnamed_k17_widest_block_holds_every_s_holds : PySem.Challenge.rw_lastnamed_k17_widest_block_holds_every_s.Holds := by
  refine LNH.close ?_
  refine L2.walk_ofE (l := PySem.Challenge.rw_lastnamed_k17_widest_block_holds_every_s) (n := 63) (k := 10) (x := "script") (CX := L2.CX0) rfl (by decide) (by kernel_rfl) ⟨rfl, by decide, by decide⟩ ?F (fun _ _ _ _ z => z)
  intro w mg fa h Y G hmg0
  obtain ⟨K, KX, c⟩ := Y
  have hmg : mg ("law" : PySem.Str) = some (.ref fa) := by
    have e : (HandSHeadRun.topDef (OpenLaw.row PySem.Challenge.rw_lastnamed_k17_widest_block_holds_every_s).prog 92).name = ("law" : PySem.Str) := by kernel_rfl
    rw [← e]
    exact hmg0
  obtain ⟨fd, hb, hF⟩ := LNH.tops (P := PySem.Challenge.rw_lastnamed_k17_widest_block_holds_every_s.prog) (w := w) KX G hmg c
  exact ⟨K, fd, LN.spLaw K, KX, hb, fun H a ns hl _ hS => ⟨a, ns, rfl, hS, fun _ => rfl⟩, hF⟩
