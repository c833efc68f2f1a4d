import PyProof.Rows.All
import Wide.All
import OpenK.AllK
import Wide.FinOn
import PyProof.EqAt
import PyProof.EqKinds
import PyProof.TupleCall
import PyProof.ListStr
import PyProof.StrOps2
import KE.KItemsList
import KE.KDictItemsList
import KE.KRevSl
import KE.KEqSeq
import HandS.Base
import HandS.Call
import HandS.List
import HandS.Comp
import HandS.Ends
import HandS.Dict
import HandS.Iter
import HandS.Text
import HandS.Words
import HandS.WordsList
import HandS.Codes
import HandS.Walk
import HandS.Style
import HandS.IsInst
import HandS.SortInts
import HandS.Conv
import HandS.ListItems
import KE.KDictDisplayH
import HandS.TupLen
import PyProof.Draws
import PyProof.EnumMake
import PyProof.EnumFor
import KE.GoesMore
import KE.DataEq
import PyProof.StrLawsIn
import HandS.Replace
import KE.GoesZip
import KE.DatumOrd
import PyProof.Claim2Refuses
import HandS.NoneIn
import HandS.SetFor
import HandS.Strs
import HandS.More
import HandS.Exc
import HandS.TryOnly
import HandS.ExcOwn
import HandS.WordsExc
import HandS.ExcIs
import HandS.ExcValue
import HandS.DictTup
import HandS.TupAny
import PySem.Challenge.RW_wovenword_k23_first_ways_of_several
set_option Elab.async false
set_option linter.all false
set_option maxRecDepth 100000
set_option autoImplicit false
set_option maxHeartbeats 4000000

namespace Go
open PySem PySem.Spec PyProof.Rows L2

/-! judgements with their reading found on the way -/
structure eS (X : Cx) (e : Expr) (σ : L2.St) (H : Hp) (Q : VK) : Prop where
  ex : ∃ t, PE X e t ∧ t σ H Q
structure qS (X : Cx) (e : Expr) (σ : L2.St) (H : Hp) (Q : Bool → Hp → Prop) : Prop where
  ex : ∃ t, PT X e t ∧ t σ H Q
structure wS (X : Cx) (e : Expr) (σ : L2.St) (H : Hp) (Q : Bool → Hp → Prop) : Prop where
  ex : ∃ t, PW X e t ∧ t σ H Q
structure aS (X : Cx) (es : List Expr) (σ : L2.St) (H : Hp) (Q : List V → Hp → Prop) : Prop where
  ex : ∃ t, PA X es t ∧ t σ H Q
structure sS (X : Cx) (st : Stmt) (D : Ends) (σ : L2.St) (H : Hp) : Prop where
  ex : ∃ t, PS X st t ∧ t D σ H
structure bS (X : Cx) (sts : List Stmt) (D : Ends) (σ : L2.St) (H : Hp) : Prop where
  ex : ∃ t, PSs X sts t ∧ t D σ H
structure gS (X : Cx) (tg : Expr) (v : V) (σ : L2.St) (H : Hp) (Q : L2.St → Hp → Prop) : Prop where
  ex : ∃ t, PG X tg t ∧ t v σ H Q
structure gsS (X : Cx) (tg : List Expr) (v : List V) (σ : L2.St) (H : Hp) (Q : L2.St → Hp → Prop) : Prop where
  ex : ∃ t, PGs X tg t ∧ t v σ H Q
structure iS (X : Cx) (tg iter : Expr) (σ : L2.St) (H : Hp) (R : It → Hp → Prop) : Prop where
  ex : ∃ t, PI X tg iter t ∧ t σ H R
structure oS (X : Cx) (f : Value → Value → Sem Value) (x y : V) (H : Hp) (Q : VK) : Prop where
  ex : ∃ r, OpR X f r ∧ r x y H Q
structure uS (X : Cx) (f : Value → Sem Value) (x : V) (H : Hp) (Q : VK) : Prop where
  ex : ∃ r, UnR X f r ∧ r x H Q
structure cS (X : Cx) (f : Value) (vs : List V) (H : Hp) (Q : VK) : Prop where
  ex : ∃ r, CallR X f r ∧ r vs H Q
structure mS (X : Cx) (id : String) (x : V) (vs : List V) (H : Hp) (Q : VK) : Prop where
  ex : ∃ r, MtR X id r ∧ r x vs H Q
structure xS (X : Cx) (x y : V) (H : Hp) (Q : VK) : Prop where
  ex : ∃ r, IxR X r ∧ r x y H Q
structure lS (X : Cx) (x : V) (lo hi : Option Int) (H : Hp) (Q : VK) : Prop where
  ex : ∃ r, SlR X r ∧ r x lo hi H Q
structure tS (X : Cx) (x : V) (H : Hp) (Q : Bool → Hp → Prop) : Prop where
  ex : ∃ r, TruR X r ∧ r x H Q
structure pS (X : Cx) (o i v : V) (H : Hp) (Q : Hp → Prop) : Prop where
  ex : ∃ t, PSet X t ∧ t o i v H Q
structure poS (X : Cx) (e : Option Expr) (σ : L2.St) (H : Hp) (Q : Option Int → Hp → Prop) : Prop where
  ex : ∃ t, PO X e t ∧ t σ H Q

section
variable {X : Cx}
theorem eS_is {e : Expr} : PE X e (eS X e) := ⟨fun pins s σ H Q I ⟨_, p, h⟩ => p.run pins s σ H Q I h⟩
theorem qS_is {e : Expr} : PT X e (qS X e) := ⟨fun pins s σ H Q I ⟨_, p, h⟩ => p.run pins s σ H Q I h⟩
theorem wS_is {e : Expr} : PW X e (wS X e) := ⟨fun wh pins s σ H Q I ⟨_, p, h⟩ => p.run wh pins s σ H Q I h⟩
theorem aS_is {es : List Expr} : PA X es (aS X es) := ⟨fun pos pins s σ H Q I ⟨_, p, h⟩ => p.run pos pins s σ H Q I h⟩
theorem sS_is {st : Stmt} : PS X st (sS X st) := ⟨fun pins s σ H D I ⟨_, p, h⟩ => p.run pins s σ H D I h⟩
theorem bS_is {sts : List Stmt} : PSs X sts (bS X sts) := ⟨fun pins s σ H D I ⟨_, p, h⟩ => p.run pins s σ H D I h⟩
theorem gS_is {tg : Expr} : PG X tg (gS X tg) := ⟨fun pins s σ H v u Q I r ⟨_, p, h⟩ => p.run pins s σ H v u Q I r h⟩
theorem gsS_is {tg : List Expr} : PGs X tg (gsS X tg) := ⟨fun pins s σ H v u Q I r ⟨_, p, h⟩ => p.run pins s σ H v u Q I r h⟩
theorem iS_is {tg it : Expr} : PI X tg it (iS X tg it) := ⟨fun pins s σ H R I ⟨_, p, h⟩ => p.run pins s σ H R I h⟩
theorem oS_is {f : Value → Value → Sem Value} : OpR X f (oS X f) := fun pins s σ H x y v u Q I rx ry ⟨_, p, h⟩ => p pins s σ H x y v u Q I rx ry h
theorem uS_is {f : Value → Sem Value} : UnR X f (uS X f) := fun pins s σ H x v Q I rx ⟨_, p, h⟩ => p pins s σ H x v Q I rx h
theorem cS_is {f : Value} : CallR X f (cS X f) := fun pins s σ H xs us Q I r ⟨_, p, h⟩ => p pins s σ H xs us Q I r h
theorem mS_is {id : String} : MtR X id (mS X id) := fun pins s σ H x xs v us Q I r rs ⟨_, p, h⟩ => p pins s σ H x xs v us Q I r rs h
theorem xS_is : IxR X (xS X) := fun va sl pins s σ H x y v u Q I r rs ⟨_, p, h⟩ e => p va sl pins s σ H x y v u Q I r rs h e
theorem lS_is : SlR X (lS X) := fun pins s σ H x v vl vu lo hi sl Q I r a b c ⟨_, p, h⟩ => p pins s σ H x v vl vu lo hi sl Q I r a b c h
theorem tS_is : TruR X (tS X) := fun pins s σ H x v Q I r ⟨_, p, h⟩ => p pins s σ H x v Q I r h
theorem pS_is : PSet X (pS X) := fun pins s σ H o i v ov iv u Q I a b c ⟨_, p, h⟩ => p pins s σ H o i v ov iv u Q I a b c h
theorem poS_is {e : Option Expr} : PO X e (poS X e) := ⟨fun pins s σ H Q I ⟨_, p, h⟩ => p.run pins s σ H Q I h⟩
end

theorem eS_mono {X : Cx} {e : Expr} {σ : L2.St} {H : Hp} {Q Q' : VK} (h : eS X e σ H Q) (m : ∀ v H, Q v H → Q' v H) : eS X e σ H Q' := by
  obtain ⟨t, p, h⟩ := h
  exact ⟨fun σ H R => ∃ Q, t σ H Q ∧ ∀ v H, Q v H → R v H, ⟨fun pins s σ H R I ⟨Q, h, m⟩ => thn (p.run pins s σ H Q I h) fun u s' ⟨v, H', I', r, q⟩ => ⟨v, H', I', r, m v H' q⟩⟩, Q, h, m⟩
theorem aS_mono {X : Cx} {es : List Expr} {σ : L2.St} {H : Hp} {T T' : List V → Hp → Prop} (h : aS X es σ H T) (m : ∀ v H, T v H → T' v H) : aS X es σ H T' := by
  obtain ⟨t, p, h⟩ := h
  exact ⟨fun σ H R => ∃ Q, t σ H Q ∧ ∀ v H, Q v H → R v H, ⟨fun pos pins s σ H R I ⟨Q, h, m⟩ => thn (p.run pos pins s σ H Q I h) fun u s' ⟨v, H', I', r, q⟩ => ⟨v, H', I', r, m v H' q⟩⟩, T, h, m⟩
theorem qS_mono {X : Cx} {e : Expr} {σ : L2.St} {H : Hp} {R R' : Bool → Hp → Prop} (h : qS X e σ H R) (m : ∀ v H, R v H → R' v H) : qS X e σ H R' := by
  obtain ⟨t, p, h⟩ := h
  exact ⟨fun σ H R => ∃ Q, t σ H Q ∧ ∀ v H, Q v H → R v H, ⟨fun pins s σ H R I ⟨Q, h, m⟩ => thn (p.run pins s σ H Q I h) fun u s' ⟨H', I', q⟩ => ⟨H', I', m u H' q⟩⟩, R, h, m⟩
/-- H' is H with a new object o at p -/
structure New (H : Hp) (p : Addr) (o : HO) (H' : Hp) : Prop where
  nw : H p = none
  eq : H' = upd H p o
/-- a name's place -/
inductive Ix : List Str → Str → Nat → Prop
  | here {x : Str} {l : List Str} : Ix (x :: l) x 0
  | there {x y : Str} {l : List Str} {i : Nat} : Ix l x i → Ix (y :: l) x (i + 1)
theorem Ix.get : ∀ {l : List Str} {x : Str} {i : Nat}, Ix l x i → l[i]? = some x
  | _, _, _, .here => rfl
  | _, _, _, .there h => by simpa using h.get

def visB (nm : List (Str × NameKind)) (x : Str) : Bool := (nm.lookup x == some .local || nm.lookup x == some .cell || nm.lookup x == some .free) && !(x == "__debug__") && !(x == "__classdict__")
def locB (nm : List (Str × NameKind)) (x : Str) : Bool := nm.lookup x == some .local || nm.lookup x == some .cell
def glB (nm : List (Str × NameKind)) (x : Str) : Bool := nm.lookup x == some .globalImplicit && !(x == "__debug__") && !(x == "__name__")

def scOf (nm : List (Str × NameKind)) : Scope := { kind := .function, names := nm, isGenerator := false, isCoroutine := false }
/-- the place where one stands: nm tells the kinds of the names of the def or block -/
structure CI (X : Cx) (P : Program) (w : World) (K : PySem.W.Frag) (mg : Str → Option Value) (base : Heap) (N : List Str) (nm : List (Str × NameKind)) (j : Nat) : Prop where
  nd : N.Nodup
  lo : ∀ x, nm.lookup x = some NameKind.local → X.env.scope.names.lookup x = some NameKind.local
  ce : ∀ x, nm.lookup x = some NameKind.cell → X.env.scope.names.lookup x = some NameKind.cell ∧ X.fn x = true
  fr : ∀ x, nm.lookup x = some NameKind.free → X.env.scope.names.lookup x = some NameKind.cell ∨ X.env.scope.names.lookup x = some NameKind.free
  go : ∀ x, nm.lookup x = some NameKind.globalImplicit → X.env.scope.names.lookup x = some NameKind.globalImplicit
  N : X.N = N
  prog : X.prog = P
  w : X.w = w
  K : X.K = K
  mg : X.mg = mg
  base : X.base = base
  kind : X.env.scope.kind = ScopeKind.function
  calm : X.calm = true
  room : Room j X.A
  pass : PassesOwn (model X.prog X.w) X.A X.env X.xe

section
variable {X : Cx} {P : Program} {w : World} {K : PySem.W.Frag} {mg : Str → Option Value} {base : Heap} {N : List Str} {nm : List (Str × NameKind)} {j : Nat} {σ : L2.St} {H : Hp} {Q : VK} {D : Ends} {pos : Pos}

theorem CI.vis (c : CI X P w K mg base N nm j) {x : Str} (h : visB nm x = true) : Vis X.env.scope x := by
  unfold visB at h
  simp only [Bool.and_eq_true, Bool.or_eq_true, beq_iff_eq] at h
  rcases h with ⟨⟨(h | h) | h, _⟩, _⟩
  · exact .inl (c.lo x h)
  · exact .inr (.inl (c.ce x h).1)
  · exact .inr (c.fr x h)
theorem visB_d {x : Str} (h : visB nm x = true) : (x == ("__debug__" : Str)) = false := by
  unfold visB at h
  simp only [Bool.and_eq_true, Bool.not_eq_true'] at h
  exact h.1.2
theorem visB_c {x : Str} (h : visB nm x = true) : (x == ("__classdict__" : Str)) = false := by
  unfold visB at h
  simp only [Bool.and_eq_true, Bool.not_eq_true'] at h
  exact h.2
theorem CI.loc (c : CI X P w K mg base N nm j) {x : Str} (h : locB nm x = true) : L2.Loc X.env.scope x := by
  unfold locB at h
  simp only [Bool.or_eq_true, beq_iff_eq] at h
  rcases h with h | h
  · exact .inl (c.lo x h)
  · exact .inr (c.ce x h).1
theorem CI.fn (c : CI X P w K mg base N nm j) {x : Str} (h : locB nm x = true) : X.fn x = true ∨ X.env.scope.names.lookup x = some NameKind.local := by
  unfold locB at h
  simp only [Bool.or_eq_true, beq_iff_eq] at h
  rcases h with h | h
  · exact .inr (c.lo x h)
  · exact .inl (c.ce x h).2
theorem CI.gl (c : CI X P w K mg base N nm j) {x : Str} (h : glB nm x = true) : Gl X x := by
  unfold glB at h
  simp only [Bool.and_eq_true, beq_iff_eq] at h
  exact c.go x h.1.1
theorem CI.bok (c : CI X P w K mg base N nm j) {scope : Scope} {own : List (Str × Nat)} (h : BlkOk N (scOf nm) scope own) : BlkOk N X.env.scope scope own :=
  ⟨h.kind, h.uniq, h.ix, fun y hy e => (h.free y hy e).elim (fun q => .inl (c.ce _ q).1) fun q => c.fr _ q, h.own⟩
theorem glB_d {x : Str} (h : glB nm x = true) : (x == ("__debug__" : Str)) = false := by
  unfold glB at h
  simp only [Bool.and_eq_true, Bool.not_eq_true'] at h
  exact h.1.2
theorem glB_n {x : Str} (h : glB nm x = true) : x ≠ ("__name__" : Str) := by
  unfold glB at h
  simp only [Bool.and_eq_true, Bool.not_eq_true'] at h
  intro e
  subst e
  simp at h

/-! expressions -/
theorem g_name (c : CI X P w K mg base N nm j) {x : Str} {i : Nat} {v : V} (hi : Ix N x i) (hv : visB nm x = true) (hσ : σ[i]? = some (some v)) (h : Q v H) : eS X (.Name x pos) σ H Q :=
  ⟨_, pe_var (i := i) (by rw [c.N]; exact hi.get) (c.vis hv) (visB_d hv) (visB_c hv), v, hσ, h⟩
theorem g_int {i : Int} {k : Tok} (h : Q (.int i) H) : eS X (.Constant (.int i) k pos) σ H Q := ⟨_, pe_int, h⟩
theorem g_bool {b : Bool} {k} (h : Q (.bl b) H) : eS X (.Constant (.bool b) k pos) σ H Q := ⟨_, pe_bl, h⟩
theorem g_none {k} (h : Q .non H) : eS X (.Constant .none k pos) σ H Q := ⟨_, pe_non, h⟩
theorem g_str {x : Str} {k} (h : Q (.str x) H) : eS X (.Constant (.str x) k pos) σ H Q := ⟨_, pe_str, h⟩
theorem g_bin {a b : Expr} {op : Operator} (h : eS X a σ H fun x H1 => eS X b σ H1 fun y H2 => oS X (binaryOp op) x y H2 Q) : eS X (.BinOp a op b pos) σ H Q :=
  ⟨_, pe_op oS_is eS_is eS_is, h⟩
theorem g_cmp {a b : Expr} {op : CmpOp} (hm : behindInMarks op b = false) (h : eS X a σ H fun x H1 => eS X b σ H1 fun y H2 => oS X (compareOp op) x y H2 Q) : eS X (.Compare a [op] [b] pos) σ H Q :=
  ⟨_, pe_cmpR oS_is eS_is eS_is hm, h⟩
theorem g_ix {a b : Expr} (hs : PlainIx b) (h : eS X a σ H fun x H1 => eS X b σ H1 fun y H2 => xS X x y H2 Q) : eS X (.Subscript a b pos) σ H Q :=
  ⟨_, pe_ix xS_is eS_is eS_is hs, h⟩
theorem g_lst {es : List Expr} (h : aS X es σ H fun xs H1 => xs.length ≤ sizeLine ∧ ∀ p H2, New H1 p (.lst xs) H2 → Q (.ref p) H2) : eS X (.List es pos) σ H Q := ⟨_, pe_lst aS_is, aS_mono h fun xs H1 ⟨l, q⟩ => ⟨l, fun p hp => q p _ ⟨hp, rfl⟩⟩⟩
theorem g_tup {es : List Expr} {k} (h : aS X es σ H fun xs H1 => xs.length ≤ sizeLine ∧ ∀ p H2, New H1 p (.tup xs) H2 → Q (.ref p) H2) : eS X (.Tuple es k pos) σ H Q := ⟨_, pe_tup aS_is, aS_mono h fun xs H1 ⟨l, q⟩ => ⟨l, fun p hp => q p _ ⟨hp, rfl⟩⟩⟩
theorem g_nil {R : List V → Hp → Prop} (h : R [] H) : aS X [] σ H R := ⟨_, pa_nil, h⟩
theorem g_cons {R : List V → Hp → Prop} {e : Expr} {es : List Expr} (he : starEach (e :: es) X.env = (false, eval e X.env) :: starEach es X.env) (h : eS X e σ H fun x H1 => aS X es σ H1 fun xs H2 => R (x :: xs) H2) : aS X (e :: es) σ H R := ⟨_, pa_cons eS_is aS_is he, h⟩
/-! statements -/
theorem g_nx (h : D.nx σ H) : bS X [] D σ H := ⟨_, pss_nil, h⟩
theorem g_st {st : Stmt} {rest : List Stmt} (h : sS X st { D with nx := fun σ' H' => bS X rest D σ' H' } σ H) : bS X (st :: rest) D σ H := ⟨_, pss_cons sS_is bS_is, h⟩
theorem g_ret {e : Expr} (h : eS X e σ H D.rt) : sS X (.Return (some e) pos) D σ H := ⟨_, ps_ret eS_is, h⟩
theorem g_set (c : CI X P w K mg base N nm j) {x : Str} {i : Nat} {e : Expr} {pos' : Pos} (hs : swapsWith e (some (.Name x pos')) pos.line X.env = pure false) (hi : Ix N x i) (hl : locB nm x = true) (h : eS X e σ H fun v H1 => D.nx (σ.set i (some v)) H1) : sS X (.Assign [.Name x pos'] e pos) D σ H :=
  ⟨_, ps_set (i := i) (by rw [c.N]; exact c.nd) (by rw [c.N]; exact hi.get) (c.loc hl) eS_is hs (c.fn hl), h⟩
theorem g_asg {e tg : Expr} (h1 : List.map (fun x => x.snd) (assignEach [tg] X.env) = [assign tg X.env]) (hs : swapsWithSole [tg] e pos.line X.env = pure false) (hw : swappedStores [tg] e X.env = pure none) (h : eS X e σ H fun v H1 => gS X tg v σ H1 D.nx) : sS X (.Assign [tg] e pos) D σ H :=
  ⟨_, ps_asg eS_is gS_is hs hw h1, h⟩
def SubOk (X : Cx) (o i : Expr) (pos : Pos) : Prop := ∀ v, assign (.Subscript o i pos) X.env v = (do let ov ← holding [v] (eval o X.env); let iv ← holding [v, ov] (eval i X.env); standAt pos; holding [v, ov, iv] (setItem ov iv v); release [v, ov, iv] [])
theorem g_sub {o i : Expr} {v : V} {R : L2.St → Hp → Prop} (ha : SubOk X o i pos) (h : eS X o σ H fun x H1 => eS X i σ H1 fun y H2 => pS X x y v H2 fun H3 => R σ H3) : gS X (.Subscript o i pos) v σ H R :=
  ⟨_, pg_sub eS_is eS_is pS_is ha, h⟩
theorem g_if {t : Expr} {a b : List Stmt} (h : qS X t σ H fun k H1 => if k = true then bS X a D σ H1 else bS X b D σ H1) : sS X (.If t a b pos) D σ H := ⟨_, ps_if qS_is bS_is bS_is, h⟩
theorem g_qcmp {a b : Expr} {op : CmpOp} {R : Bool → Hp → Prop} (hm : behindInMarks op b = false) (h : eS X a σ H fun x H1 => eS X b σ H1 fun y H2 => oS X (compareOp op) x y H2 fun z H3 => ∃ k, z = .bl k ∧ R k H3) : qS X (.Compare a [op] [b] pos) σ H R :=
  ⟨_, pt_cmpR oS_is eS_is eS_is hm, h⟩
/-! operators by values -/
theorem o_add {i k : Int} (h : Q (.int (i + k)) H) : oS X (binaryOp .Add) (.int i) (.int k) H Q := ⟨_, op_add, _, _, rfl, rfl, h⟩
theorem o_sub {i k : Int} (h : Q (.int (i - k)) H) : oS X (binaryOp .Sub) (.int i) (.int k) H Q := ⟨_, op_sub, _, _, rfl, rfl, h⟩
theorem o_mulR {i k : Int} (hb : -(2 ^ 64) < k ∧ k < 2 ^ 64) (h : Q (.int (i * k)) H) : oS X (binaryOp .Mult) (.int i) (.int k) H Q := ⟨_, op_mul, _, _, rfl, rfl, .inr hb, h⟩
theorem o_mulL {i k : Int} (hb : -(2 ^ 64) < i ∧ i < 2 ^ 64) (h : Q (.int (i * k)) H) : oS X (binaryOp .Mult) (.int i) (.int k) H Q := ⟨_, op_mul, _, _, rfl, rfl, .inl hb, h⟩
theorem o_mod {i k : Int} (hk : 0 < k) (h : Q (.int (i % k)) H) : oS X (binaryOp .Mod) (.int i) (.int k) H Q := ⟨_, op_mod, _, _, rfl, rfl, hk, h⟩
theorem o_div {i k : Int} (h1 : 0 < k) (h2 : k < 1073741824) (h : Q (.int (i / k)) H) : oS X (binaryOp .FloorDiv) (.int i) (.int k) H Q := ⟨_, op_fdiv, _, _, rfl, rfl, ⟨h1, h2⟩, h⟩
theorem o_pow {i k : Int} (h1 : 0 ≤ k ∧ k ≤ 1000000 ∧ i.natAbs < 2 ^ 64) (h : Q (.int (i ^ k.toNat)) H) : oS X (binaryOp .Pow) (.int i) (.int k) H Q := ⟨_, op_pow, _, _, rfl, rfl, h1, h⟩
theorem o_lt {i k : Int} (h : Q (.bl (decide (i < k))) H) : oS X (compareOp .Lt) (.int i) (.int k) H Q := ⟨_, op_lt, _, _, rfl, rfl, h⟩
theorem o_gt {i k : Int} (h : Q (.bl (decide (k < i))) H) : oS X (compareOp .Gt) (.int i) (.int k) H Q := ⟨_, op_gt, _, _, rfl, rfl, h⟩
theorem o_le {i k : Int} (h : Q (.bl (decide (i ≤ k))) H) : oS X (compareOp .LtE) (.int i) (.int k) H Q := ⟨_, op_le, _, _, rfl, rfl, h⟩
theorem o_ge {i k : Int} (h : Q (.bl (decide (k ≤ i))) H) : oS X (compareOp .GtE) (.int i) (.int k) H Q := ⟨_, op_ge, _, _, rfl, rfl, h⟩
theorem k_bl {k : Bool} {R : Bool → Hp → Prop} (h : R k H) : ∃ k', V.bl k = .bl k' ∧ R k' H := ⟨k, rfl, h⟩
/-- a test that is open -/
theorem i_dec {p : Prop} [Decidable p] {A B : Prop} (h1 : p → A) (h2 : ¬ p → B) : if decide p = true then A else B := by
  by_cases h : p
  · rw [if_pos (decide_eq_true h)]; exact h1 h
  · rw [if_neg (by simpa using h)]; exact h2 h
theorem x_lst (c : CI X P w K mg base N nm j) {p : Addr} {xs : List V} {i : Int} {v : V} (hp : SqL K H p xs) (ha : atI xs i = some v) (h : Q v H) : xS X (.ref p) (.int i) H Q := by
  have e := c.K
  subst e
  exact ⟨_, ix_list, _, _, _, _, rfl, rfl, hp, ha, h⟩
theorem p_lst {p : Addr} {xs : List V} {i : Int} {v : V} {R : Hp → Prop} {m : Nat} (hp : H p = some (.lst xs)) (hm : ixN xs.length i = some m) (h : R (upd H p (.lst (xs.set m v)))) : pS X (.ref p) (.int i) v H R := by
  exact ⟨_, set_list, _, _, _, _, rfl, rfl, hp, hm, h⟩
end
end Go

namespace Go
open PySem PySem.Spec PyProof.Rows L2

/-- the value that a name holds -/
inductive Get : List Str → L2.St → Str → V → Prop
  | here {x : Str} {l : List Str} {v : V} {s : L2.St} : Get (x :: l) (some v :: s) x v
  | there {x y : Str} {l : List Str} {o : Option V} {v : V} {s : L2.St} : Get l s x v → Get (y :: l) (o :: s) x v
/-- the i-th place is given a value -/
inductive Put : L2.St → Nat → V → L2.St → Prop
  | here {v : V} {o : Option V} {s : L2.St} : Put (o :: s) 0 v (some v :: s)
  | there {o : Option V} {i : Nat} {v : V} {s s' : L2.St} : Put s i v s' → Put (o :: s) (i + 1) v (o :: s')
theorem Get.ix : ∀ {l : List Str} {s : L2.St} {x : Str} {v : V}, Get l s x v → ∃ i : Nat, l[i]? = some x ∧ s[i]? = some (some v)
  | _, _, _, _, .here => ⟨0, rfl, rfl⟩
  | _, _, _, _, .there h => by obtain ⟨i, a, b⟩ := h.ix; exact ⟨i + 1, by simpa using a, by simpa using b⟩
theorem Put.eq : ∀ {s s' : L2.St} {i : Nat} {v : V}, Put s i v s' → s.set i (some v) = s'
  | _, _, _, _, .here => rfl
  | _, _, _, _, .there h => by rw [List.set_cons_succ, h.eq]

/-- what stands: G, for ever; the cells C, which may be written -/
structure Own (G : Hp) (C : List (Addr × HO)) (H : Hp) : Prop where
  same : Same G H
  own : ∀ p ∈ C, H p.1 = some p.2 ∧ G p.1 = none
  nd : (C.map (·.1)).Nodup

section
variable {G H : Hp} {C : List (Addr × HO)} {p : Addr} {o o' : HO} {Q : VK}
theorem Own.frees (O : Own G C H) (h : H p = none) : G p = none ∧ p ∉ C.map (·.1) := by
  refine ⟨O.same.free h, fun hp => ?_⟩
  obtain ⟨q, hq, e⟩ := List.mem_map.mp hp
  have z := (O.own q hq).1
  rw [e, h] at z
  cases z
theorem same_new (h : G p = none) : Same G (upd G p o) := fun b u e => by rw [upd_ne (ne_of_none e h)]; exact e
theorem Own.fz (O : Own G C H) (h : H p = none) : Own (upd G p o) C (upd H p o) := by
  obtain ⟨g, nc⟩ := O.frees h
  refine ⟨fun b u e => ?_, fun q hq => ?_, O.nd⟩
  · by_cases hb : b = p
    · subst hb; rw [upd_same] at e ⊢; exact e
    · rw [upd_ne hb] at e ⊢; exact O.same b u e
  · have hne : q.1 ≠ p := fun e => nc (List.mem_map.mpr ⟨q, hq, e⟩)
    rw [upd_ne hne, upd_ne hne]; exact O.own q hq
theorem Own.cell (O : Own G C H) (h : H p = none) : Own G ((p, o) :: C) (upd H p o) := by
  obtain ⟨g, nc⟩ := O.frees h
  refine ⟨fun b u e => by rw [upd_ne (ne_of_none e g)]; exact O.same b u e, fun q hq => ?_, List.nodup_cons.mpr ⟨nc, O.nd⟩⟩
  rcases List.mem_cons.mp hq with rfl | hq
  · exact ⟨upd_same, g⟩
  · have hne : q.1 ≠ p := fun e => nc (List.mem_map.mpr ⟨q, hq, e⟩)
    rw [upd_ne hne]; exact O.own q hq
theorem Own.write (O : Own G ((p, o) :: C) H) : Own G ((p, o') :: C) (upd H p o') := by
  have g := (O.own _ List.mem_cons_self).2
  have nc : p ∉ C.map (·.1) := (List.nodup_cons.mp O.nd).1
  refine ⟨fun b u e => by rw [upd_ne (ne_of_none e g)]; exact O.same b u e, fun q hq => ?_, O.nd⟩
  rcases List.mem_cons.mp hq with rfl | hq
  · exact ⟨upd_same, g⟩
  · have hne : q.1 ≠ p := fun e => nc (List.mem_map.mpr ⟨q, hq, e⟩)
    rw [upd_ne hne]; exact O.own q (List.mem_cons_of_mem _ hq)
theorem Own.at (O : Own G ((p, o) :: C) H) : H p = some o := (O.own _ List.mem_cons_self).1
theorem Own.swap {a b : Addr × HO} (O : Own G (a :: b :: C) H) : Own G (b :: a :: C) H :=
  ⟨O.same, fun q hq => O.own q (by simp only [List.mem_cons] at hq ⊢; rcases hq with h | h | h <;> simp [h]), by
    have n := O.nd
    simp only [List.map_cons, List.nodup_cons, List.mem_cons, not_or] at n ⊢
    exact ⟨⟨fun e => n.1.1 e.symm, n.2.1⟩, n.1.2, n.2.2⟩⟩
theorem Own.drop {a : Addr × HO} (O : Own G (a :: C) H) : Own G C H :=
  ⟨O.same, fun q hq => O.own q (List.mem_cons_of_mem _ hq), (List.nodup_cons.mp (by simpa using O.nd)).2⟩
theorem Own.freeze (O : Own G ((p, o) :: C) H) : Own (upd G p o) C H ∧ Same G (upd G p o) := by
  have g := (O.own _ List.mem_cons_self).2
  have nc : p ∉ C.map (·.1) := (List.nodup_cons.mp O.nd).1
  refine ⟨⟨fun b u e => ?_, fun q hq => ?_, (List.nodup_cons.mp O.nd).2⟩, same_new g⟩
  · by_cases hb : b = p
    · subst hb; rw [upd_same] at e; rw [← e]; exact O.at
    · rw [upd_ne hb] at e; exact O.same b u e
  · have hne : q.1 ≠ p := fun e => nc (List.mem_map.mpr ⟨q, hq, e⟩)
    rw [upd_ne hne]; exact O.own q (List.mem_cons_of_mem _ hq)
/-- a new object for good | a new cell | .. behind the first one -/
theorem Own.fix {H' : Hp} (O : Own G C H) (n : New H p o H') : ∃ G', Same G G' ∧ G' p = some o ∧ Own G' C H' := by
  obtain ⟨h, rfl⟩ := n
  exact ⟨_, same_new (O.frees h).1, upd_same, O.fz h⟩
/-- many new objects for good -/
theorem Own.all {H' : Hp} (O : Own G C H) (s : Same H H') : ∃ G', Same G G' ∧ Own G' C H' ∧ ∀ b u, H b = none → H' b = some u → G' b = some u := by
  refine ⟨fun b => if b ∈ C.map (·.1) then none else H' b, fun b u e => ?_, ⟨fun b u e => ?_, fun q hq => ?_, O.nd⟩, fun b u e1 e2 => ?_⟩
  · have hn : b ∉ C.map (·.1) := fun h => by
      obtain ⟨q, hq, e1⟩ := List.mem_map.mp h
      have z := (O.own q hq).2
      rw [e1, e] at z
      cases z
    show (if b ∈ C.map (·.1) then none else H' b) = some u
    rw [if_neg hn]
    exact s _ _ (O.same _ _ e)
  · have e : (if b ∈ C.map (·.1) then none else H' b) = some u := e
    by_cases hb : b ∈ C.map (·.1)
    · rw [if_pos hb] at e; cases e
    · rw [if_neg hb] at e; exact e
  · refine ⟨s _ _ (O.own q hq).1, ?_⟩
    show (if q.1 ∈ C.map (·.1) then none else H' q.1) = none
    rw [if_pos (List.mem_map.mpr ⟨q, hq, rfl⟩)]
  · have hn : b ∉ C.map (·.1) := (O.frees e1).2
    show (if b ∈ C.map (·.1) then none else H' b) = some u
    rw [if_neg hn]
    exact e2
theorem Own.more {H' : Hp} (O : Own G C H) (n : New H p o H') : Own G ((p, o) :: C) H' := by
  obtain ⟨h, rfl⟩ := n
  exact O.cell h
theorem Own.more2 {H' : Hp} {a : Addr × HO} (O : Own G (a :: C) H) (n : New H p o H') : Own G (a :: (p, o) :: C) H' := (O.more n).swap
end

section
variable {X : Cx} {P : Program} {w : World} {K : PySem.W.Frag} {mg : Str → Option Value} {base : Heap} {N : List Str} {nm : List (Str × NameKind)} {j : Nat} {σ σ' : L2.St} {H : Hp} {Q : VK} {D : Ends} {pos : Pos}
theorem e_name (c : CI X P w K mg base N nm j) {x : Str} {v : V} (hv : visB nm x = true) (hg : Get N σ x v) (h : Q v H) : eS X (.Name x pos) σ H Q := by
  obtain ⟨i, a, b⟩ := hg.ix
  exact ⟨_, pe_var (i := i) (by rw [c.N]; exact a) (c.vis hv) (visB_d hv) (visB_c hv), v, b, h⟩
theorem s_set (c : CI X P w K mg base N nm j) {x : Str} {i : Nat} {e : Expr} {pos' : Pos} (hs : swapsWith e (some (.Name x pos')) pos.line X.env = pure false) (hi : Ix N x i) (hl : locB nm x = true) (h : eS X e σ H fun v H1 => D.nx (σ.set i (some v)) H1) : sS X (.Assign [.Name x pos'] e pos) D σ H :=
  ⟨_, ps_set (i := i) (by rw [c.N]; exact c.nd) (by rw [c.N]; exact hi.get) (c.loc hl) eS_is hs (c.fn hl), h⟩
theorem n_put {i : Nat} {v : V} {sts : List Stmt} (h : Put σ i v σ') (k : bS X sts D σ' H) : bS X sts D (σ.set i (some v)) H := by rw [h.eq]; exact k
/-- into a def -/
theorem enter {x qual : Str} {st : Stmt} {f : Addr} {fd : FuncData} {ps : List Str} {sp : Sp} {k : Nat} (F : Fun K x qual st f fd) (S : FnScope N ps (defScope st)) (hnm : (defScope st).names = nm) (len : ∀ vs H Q E, sp vs H Q E → vs.length = ps.length)
    (body : ∀ (X : Cx) (H : Hp) (vs : List V) (Q : VK) (E : XK), CI X P w K mg base N nm k → sp vs H Q E → bS X (defBody st) { nx := fun _ H' => Q .non H', rt := Q } (start N vs) H) : FnOk P w K mg base CX0 (k + 1) f fd ps sp :=
  F.ok S len fun cdv A outer s H vs Q E hr h => ⟨_, bS_is, body _ H vs Q E ⟨S.nd, fun _ h => by rw [← hnm] at h; exact h, fun _ h => ⟨by rw [← hnm] at h; exact h, rfl⟩, fun _ h => .inr (by rw [← hnm] at h; exact h), fun _ h => by rw [← hnm] at h; exact h, rfl, rfl, rfl, rfl, rfl, rfl, S.kind, rfl, hr, PassesOwn.never⟩ h⟩
end
end Go

namespace Go
open PySem PySem.Spec PyProof.Rows L2

/-- a text by its codes -/
def S (l : List Nat) : Str := ⟨l.toArray⟩
def cs (x : Str) : List Nat := x.cps.toList
theorem S_cs (x : Str) : S (cs x) = x := by cases x; simp [S, cs]
theorem cs_S (l : List Nat) : cs (S l) = l := by simp [S, cs]
theorem S_len (l : List Nat) : (S l).length = l.length := by simp [S, Str.length]
theorem S_inj {a b : List Nat} : S a = S b ↔ a = b := ⟨fun h => by have := congrArg cs h; rwa [cs_S, cs_S] at this, fun h => by rw [h]⟩
theorem S_app (a b : List Nat) : S a ++ S b = S (a ++ b) := by
  show (⟨a.toArray ++ b.toArray⟩ : Str) = ⟨(a ++ b).toArray⟩
  simp

section
variable {X : Cx} {P : Program} {w : World} {K : PySem.W.Frag} {mg : Str → Option Value} {base : Heap} {N : List Str} {nm : List (Str × NameKind)} {j : Nat} {σ σ' : L2.St} {H : Hp} {Q : VK} {D : Ends} {pos p p2 apos : Pos} {a b e : Expr} {es : List Expr} {R : Bool → Hp → Prop}

theorem CI.hu (c : CI X P w K mg base N nm j) : X.A.units + 1 < cLine := hu_of c.room
theorem CI.u0 (c : CI X P w K mg base N nm j) : X.A.units < cLine := Nat.lt_of_succ_lt c.hu
theorem CI.u64 (c : CI X P w K mg base N nm j) : X.A.units + 64 < cLine := by have := c.room.un; omega

/-! constants, names -/
theorem e_str {x : Str} {k} (h : Q (.str (S (cs x))) H) : eS X (.Constant (.str x) k pos) σ H Q := ⟨_, pe_str, by rw [← S_cs x]; exact h⟩
theorem e_bltn (c : CI X P w K mg base N nm j) {x : Str} {v : V} {u : Value} (hg : glB nm x = true) (hm : mg x = none) (hv : bootBuiltins x = some u) (r : RelV v u) (h : Q v H) : eS X (.Name x pos) σ H Q :=
  ⟨_, pe_bltn (c.gl hg) (by rw [c.mg]; exact hm) hv r (glB_n hg) (glB_d hg), h⟩
theorem e_glob (c : CI X P w K mg base N nm j) {x : Str} {v : V} {u : Value} (hg : glB nm x = true) (hm : mg x = some u) (r : RelV v u) (h : Q v H) : eS X (.Name x pos) σ H Q :=
  ⟨_, ⟨fun _ _ _ H _ I h => ld_glob I (c.gl hg) (by rw [c.mg]; exact hm) ⟨v, H, I, r, h⟩ (glB_d hg)⟩, h⟩
theorem e_neg (h : eS X a σ H fun x H1 => uS X (unaryOp .USub) x H1 Q) : eS X (.UnaryOp .USub a pos) σ H Q := ⟨_, pe_un uS_is eS_is, h⟩
theorem u_neg {i : Int} (h : Q (.int (-i)) H) : uS X (unaryOp .USub) (.int i) H Q := ⟨_, un_neg, _, rfl, h⟩
/-! and, or, not -/
theorem e_not (h : eS X a σ H fun x H1 => ∃ c, x = .bl c ∧ Q (.bl (!c)) H1) : eS X (.UnaryOp .Not a pos) σ H Q := ⟨_, pe_not eS_is, h⟩
theorem e_one {op} (h : eS X a σ H Q) : eS X (.BoolOp op [a] pos) σ H Q := ⟨_, pe_one eS_is, h⟩
theorem e_and (h : eS X a σ H fun x H1 => ∃ c, x = .bl c ∧ if c = true then eS X (.BoolOp .And (b :: es) pos) σ H1 Q else Q (.bl false) H1) : eS X (.BoolOp .And (a :: b :: es) pos) σ H Q := ⟨_, pe_and eS_is eS_is, h⟩
theorem e_or (h : eS X a σ H fun x H1 => ∃ c, x = .bl c ∧ if c = true then Q (.bl true) H1 else eS X (.BoolOp .Or (b :: es) pos) σ H1 Q) : eS X (.BoolOp .Or (a :: b :: es) pos) σ H Q := ⟨_, pe_or eS_is eS_is, h⟩
theorem q_w (h : wS X a σ H R) : qS X a σ H R := by obtain ⟨t, p, h⟩ := h; exact ⟨t, p.pt, h⟩
theorem w_and1 (h : qS X a σ H R) : wS X (.BoolOp .And [a] pos) σ H R := ⟨_, pw_and1 qS_is, h⟩
theorem w_or1 (h : qS X a σ H R) : wS X (.BoolOp .Or [a] pos) σ H R := ⟨_, pw_or1 qS_is, h⟩
theorem w_and (h : qS X a σ H fun c H1 => if c = true then wS X (.BoolOp .And (b :: es) pos) σ H1 R else R false H1) : wS X (.BoolOp .And (a :: b :: es) pos) σ H R := ⟨_, pw_and qS_is wS_is, h⟩
theorem w_or (h : qS X a σ H fun c H1 => if c = true then R true H1 else wS X (.BoolOp .Or (b :: es) pos) σ H1 R) : wS X (.BoolOp .Or (a :: b :: es) pos) σ H R := ⟨_, pw_or qS_is wS_is, h⟩
theorem q_not (h : qS X a σ H fun c H1 => R (!c) H1) : qS X (.UnaryOp .Not a pos) σ H R := ⟨_, pt_not qS_is, h⟩
def TruOk (X : Cx) (e : Expr) : Prop := ∀ whole, isTrue e X.env whole = (do let v ← whole; standAt e.pos; holding [v] (truthy v))
theorem q_val (he : TruOk X e) (h : eS X e σ H fun x H1 => ∃ c, x = .bl c ∧ R c H1) : qS X e σ H R := ⟨_, pt_val eS_is he, h⟩
theorem e_if {t : Expr} (h : qS X t σ H fun c H1 => if c = true then eS X a σ H1 Q else eS X b σ H1 Q) : eS X (.IfExp t a b pos) σ H Q := ⟨_, pe_ifExp qS_is eS_is eS_is, h⟩
/-! comparisons -/
theorem q_cmp {op : CmpOp} (hm : behindInMarks op b = false) (h : eS X a σ H fun x H1 => eS X b σ H1 fun y H2 => oS X (compareOp op) x y H2 fun z H3 => ∃ k, z = .bl k ∧ R k H3) : qS X (.Compare a [op] [b] pos) σ H R := g_qcmp hm h
theorem e_cmp {op : CmpOp} (hm : behindInMarks op b = false) (h : eS X a σ H fun x H1 => eS X b σ H1 fun y H2 => oS X (compareOp op) x y H2 Q) : eS X (.Compare a [op] [b] pos) σ H Q := g_cmp hm h
theorem e_chain {d : Expr} {op op' : CmpOp} (hm : lastMarks [op, op'] [b, d] = false) (h : eS X a σ H fun x H1 => eS X b σ H1 fun y H2 => oS X (compareOp op) x y H2 fun z H3 => ∃ k, z = .bl k ∧ if k = true then eS X d σ H3 fun w' H4 => oS X (compareOp op') y w' H4 Q else Q (.bl false) H3) :
    eS X (.Compare a [op, op'] [b, d] pos) σ H Q := ⟨_, pe_chain oS_is oS_is eS_is eS_is eS_is hm, h⟩
theorem q_chain {d : Expr} {op op' : CmpOp} (hm : lastMarks [op, op'] [b, d] = false) (h : eS X a σ H fun x H1 => eS X b σ H1 fun y H2 => oS X (compareOp op) x y H2 fun z H3 => ∃ k, z = .bl k ∧ if k = true then eS X d σ H3 fun w' H4 => oS X (compareOp op') y w' H4 fun z H3 => ∃ k, z = .bl k ∧ R k H3 else ∃ k', V.bl false = .bl k' ∧ R k' H3) :
    qS X (.Compare a [op, op'] [b, d] pos) σ H R := ⟨_, pt_chain oS_is oS_is eS_is eS_is eS_is hm, h⟩
/-! displays, subscripts, slices -/
theorem e_slice {lo hi : Option Expr} (h : eS X a σ H fun x H1 => poS X lo σ H1 fun l H2 => poS X hi σ H2 fun u H3 => lS X x l u H3 Q) : eS X (.Subscript a (.Slice lo hi none p2) pos) σ H Q := ⟨_, pe_slice lS_is eS_is poS_is poS_is, h⟩
theorem po_no {R : Option Int → Hp → Prop} (h : R none H) : poS X none σ H R := ⟨_, po_none, h⟩
theorem po_so {R : Option Int → Hp → Prop} (h : eS X e σ H fun x H1 => ∃ i, x = .int i ∧ R (some i) H1) : poS X (some e) σ H R := ⟨_, po_some eS_is, h⟩
theorem k_int {i : Int} {R : Int → Hp → Prop} (h : R i H) : ∃ i', V.int i = .int i' ∧ R i' H := ⟨i, rfl, h⟩
/-! calls -/
/-- a def of the module that may be called by its name, with its promise -/
structure Cal (P : Program) (w : World) (K : PySem.W.Frag) (mg : Str → Option Value) (base : Heap) (k : Nat) (x : Str) (sp : Sp) : Prop where
  ex : ∃ (f : Addr) (fd : FuncData) (ps : List Str), FnOk P w K mg base CX0 k f fd ps sp ∧ mg x = some (.ref f) ∧ PySem.W.keepIn K (.ref f) = true ∧ Binds K fd ps []
theorem e_call (c : CI X P w K mg base N nm j) {x : Str} {k : Nat} {sp : Sp} (C : Cal P w K mg base k x sp) (hk : k ≤ j) (hg : glB nm x = true) (he : starEach (e :: es) X.env = (false, eval e X.env) :: starEach es X.env) (hpl : (backTo pos (starEach es X.env)).any (·.1) = false)
    (h : aS X (e :: es) σ H fun vs H1 => sp vs H1 Q E0) : eS X (.Call (.Name x p) (e :: es) [] pos) σ H Q := by
  have h1 := c.prog; have h2 := c.w; have h3 := c.K; have h4 := c.mg; have h5 := c.base
  subst h1 h2 h3 h4 h5
  obtain ⟨f, fd, ps, F, h1, h2, h3⟩ := C.ex
  exact ⟨_, pe_call F (c.room.mono hk) (c.gl hg) h1 h2 h3 .nil pass0 aS_is (glB_d hg) he hpl, aS_mono h fun vs H1 q => by rw [List.append_nil]; exact q⟩
theorem e_callB (c : CI X P w K mg base N nm j) {x : Str} {id : String} (hg : glB nm x = true) (hm : mg x = none) (hv : bootBuiltins x = some (.builtin id)) (he : starEach (e :: es) X.env = (false, eval e X.env) :: starEach es X.env) (hpl : (backTo pos (starEach es X.env)).any (·.1) = false)
    (h : aS X (e :: es) σ H fun vs H1 => cS X (.builtin id) vs H1 Q) : eS X (.Call (.Name x p) (e :: es) [] pos) σ H Q :=
  ⟨_, pe_callB cS_is (c.gl hg) (by rw [c.mg]; exact hm) hv aS_is (glB_n hg) (glB_d hg) he hpl, h⟩
theorem e_callTy (c : CI X P w K mg base N nm j) {x : Str} {T : String} (hg : glB nm x = true) (hm : mg x = none) (hv : bootBuiltins x = some (.type T)) (he : starEach (e :: es) X.env = (false, eval e X.env) :: starEach es X.env) (hpl : (backTo pos (starEach es X.env)).any (·.1) = false)
    (h : aS X (e :: es) σ H fun vs H1 => cS X (.type T) vs H1 Q) : eS X (.Call (.Name x p) (e :: es) [] pos) σ H Q :=
  ⟨_, pe_callTy cS_is (c.gl hg) (by rw [c.mg]; exact hm) hv aS_is (glB_n hg) (glB_d hg) he hpl, h⟩
theorem e_meth (c : CI X P w K mg base N nm j) {T id : String} {name : Str} (pa : PlainAttrs T) (slot : Slot T name id) (hty : typeOf (.builtin id) = pure (.type "method_descriptor")) (hbase : attributeBase a name X.env (eval a X.env) = eval a X.env) (hline : (apos.endLine == pos.line) = true)
    (hs : starEach (e :: es) X.env = (false, eval e X.env) :: starEach es X.env) (hp : (backTo pos (starEach es X.env)).any (·.1) = false)
    (hf : ((backTo pos (starEach (e :: es) X.env)).all (fun x => !x.1) && (backToKw pos (keywordEach [] X.env)).all (fun x => x.1.isSome) && decide ((e :: es).length + ([] : List Keyword).length + (if ([] : List Keyword).isEmpty then 0 else 1) < 30)) = true)
    (h : eS X a σ H fun x H1 => tyV K T x H1 ∧ aS X (e :: es) σ H1 fun xs H2 => mS X id x xs H2 Q) : eS X (.Call (.Attribute a name apos) (e :: es) [] pos) σ H Q := by
  have h3 := c.K
  subst h3
  exact ⟨_, pe_bm pa slot hty mS_is eS_is aS_is hbase hf hline hs hp, h⟩
theorem e_meth0 (c : CI X P w K mg base N nm j) {T id : String} {name : Str} (pa : PlainAttrs T) (slot : Slot T name id) (hty : typeOf (.builtin id) = pure (.type "method_descriptor")) (hbase : attributeBase a name X.env (eval a X.env) = eval a X.env) (hline : (apos.endLine == pos.line) = true)
    (h : eS X a σ H fun x H1 => tyV K T x H1 ∧ mS X id x [] H1 Q) : eS X (.Call (.Attribute a name apos) [] [] pos) σ H Q := by
  have h3 := c.K
  subst h3
  exact ⟨_, pe_bm0 pa slot hty mS_is eS_is hbase hline, h⟩
theorem e_sm1 {id : String} {name : Str} (slot : Slot "str" name id) (ty : typeOf (.builtin id) = pure (.type "method_descriptor")) (hs : starEach [e] X.env = [(false, eval e X.env)]) (hbase : attributeBase a name X.env (eval a X.env) = eval a X.env) (hline : (apos.endLine == pos.line) = true)
    (h : eS X a σ H fun x H1 => (∃ z, x = .str z) ∧ eS X e σ H1 fun y H2 => mS X id x [y] H2 Q) : eS X (.Call (.Attribute a name apos) [e] [] pos) σ H Q := ⟨_, pe_m1 slot ty mS_is eS_is eS_is hs hbase hline, h⟩
theorem e_sm0 {id : String} {name : Str} (slot : Slot "str" name id) (ty : typeOf (.builtin id) = pure (.type "method_descriptor")) (hbase : attributeBase a name X.env (eval a X.env) = eval a X.env) (hline : (apos.endLine == pos.line) = true)
    (h : eS X a σ H fun x H1 => (∃ z, x = .str z) ∧ mS X id x [] H1 Q) : eS X (.Call (.Attribute a name apos) [] [] pos) σ H Q := ⟨_, pe_m0 slot ty mS_is eS_is hbase hline, h⟩
/-! statements -/
theorem s_expr (hs : swapsWith e none pos.line X.env = pure false) (h : eS X e σ H fun _ H1 => D.nx σ H1) : sS X (.Expr e pos) D σ H := ⟨_, ps_expr eS_is hs, h⟩
theorem s_retN (h : D.rt .non H) : sS X (.Return none pos) D σ H := ⟨_, ps_retN, h⟩
theorem s_pass (h : D.nx σ H) : sS X (.Pass pos) D σ H := ⟨_, ps_pass, h⟩
theorem s_break (h : D.bk σ H) : sS X (.Break pos) D σ H := ⟨_, ps_break, h⟩
theorem s_doc {x : Str} {k} (h : D.nx σ H) : sS X (.Expr (.Constant (.str x) k p) pos) D σ H := ⟨_, ps_doc, h⟩
theorem s_aug (c : CI X P w K mg base N nm j) {x : Str} {i : Nat} {v : V} {op : Operator} (hi : Ix N x i) (hl : locB nm x = true) (hg : Get N σ x v) (h : eS X e σ H fun y H1 => oS X (inplaceOp op) v y H1 fun z H2 => D.nx (σ.set i (some z)) H2) : sS X (.AugAssign (.Name x p) op e pos) D σ H := by
  obtain ⟨i', a, b⟩ := hg.ix
  have e1 : i' = i := nodup_ix c.nd a hi.get
  subst e1
  exact ⟨_, ps_aug (i := i') (by rw [c.N]; exact c.nd) (by rw [c.N]; exact a) (c.loc hl) eS_is (fun pins s σ H x y v u Q => oS_is pins s σ H x y v u Q) (c.fn hl), v, b, h⟩
/-! targets -/
theorem g_tgt (c : CI X P w K mg base N nm j) {x : Str} {i : Nat} {v : V} {R : L2.St → Hp → Prop} (hi : Ix N x i) (hl : locB nm x = true) (h : R (σ.set i (some v)) H) : gS X (.Name x pos) v σ H R :=
  ⟨_, pg_name (i := i) (by rw [c.N]; exact c.nd) (by rw [c.N]; exact hi.get) (c.loc hl) (c.fn hl), h⟩
theorem g_tgts (c : CI X P w K mg base N nm j) {k} {q : Addr} {vs : List V} {R : L2.St → Hp → Prop} (h1 : (assignEach es X.env).length = vs.length) (h2 : (assignEach es X.env).findIdx? (·.1) = none) (hq : SqT K H q vs) (h : gsS X es vs σ H R) : gS X (.Tuple es k pos) (.ref q) σ H R := by
  have e3 := c.K
  subst e3
  exact ⟨_, pg_tup c.calm gsS_is h1 h2, q, _, rfl, hq, rfl, h⟩
theorem gs_nil {R : L2.St → Hp → Prop} (h : R σ H) : gsS X [] [] σ H R := ⟨_, pgs_nil, rfl, h⟩
theorem gs_cons {v : V} {vs : List V} {R : L2.St → Hp → Prop} (hs : (assignEach (e :: es) X.env).map (·.2) = assign e X.env :: (assignEach es X.env).map (·.2)) (h : gS X e v σ H fun σ1 H1 => gsS X es vs σ1 H1 R) : gsS X (e :: es) (v :: vs) σ H R :=
  ⟨_, pgs_cons gS_is gsS_is hs, _, _, rfl, h⟩
end
end Go

namespace Go
open PySem PySem.Spec PyProof.Rows L2

structure tsS (X : Cx) (es : List Expr) (σ : L2.St) (H : Hp) (Q : Bool → Hp → Prop) : Prop where
  ex : ∃ t, PTs X es t ∧ t σ H Q
theorem tsS_is {X : Cx} {es : List Expr} : PTs X es (tsS X es) := ⟨fun pins s σ H Q I ⟨_, p, h⟩ => p.run pins s σ H Q I h⟩

theorem tsS_mono {X : Cx} {es : List Expr} {σ : L2.St} {H : Hp} {R R' : Bool → Hp → Prop} (h : tsS X es σ H R) (m : ∀ v H, R v H → R' v H) : tsS X es σ H R' := by
  obtain ⟨t, p, h⟩ := h
  exact ⟨fun σ H R => ∃ Q, t σ H Q ∧ ∀ v H, Q v H → R v H, ⟨fun pins s σ H R I ⟨Q, h, m⟩ => thn (p.run pins s σ H Q I h) fun u s' ⟨H', I', q⟩ => ⟨H', I', m u H' q⟩⟩, R, h, m⟩
/-- a loop over what J gives -/
def ForOn (X : Cx) (tg : Expr) (body : List Stmt) (D : Ends) (J : It) (σ : L2.St) (H : Hp) : Prop :=
  ∃ (n : Nat) (G : Hp → Prop) (Y : Nat → Hp → V → Hp → Prop), Walk J n G Y ∧ ∃ Pv : Nat → L2.St → Hp → Prop, Pv 0 σ H ∧ (∀ i σ H, i ≤ n → Pv i σ H → G H) ∧
    (∀ i x σ H H', i < n → Pv i σ H → Y i H x H' → gS X tg x σ H' fun σ2 H2 => bS X body { D with nx := Pv (i + 1), ct := Pv (i + 1), bk := D.nx } σ2 H2) ∧ ∀ σ H, Pv n σ H → D.nx σ H
/-- a block of a comprehension -/
def IsBlk (X X' : Cx) (scope : Scope) : Prop := ∃ s H C cl fp, X' = X.blk s H scope (compEnvC scope cl C X.env) fp
def LcOn (X : Cx) (scope : Scope) (tg : Expr) (ifs : List Expr) (elt : Expr) (vs : List Nat) (Qd : Addr → Hp → Prop) (J : It) (σ : L2.St) (H : Hp) : Prop := ∀ D, H D = none →
  ∃ (n : Nat) (G : Hp → Prop) (Y : Nat → Hp → V → Hp → Prop), Walk J n G Y ∧ ∃ Pv : Nat → Hp → Prop, Pv 0 (upd H D (.lst [])) ∧ (∀ i H, i ≤ n → Pv i H → G H) ∧
    (∀ i x H H', i < n → Pv i H → Y i H x H' → ∀ X', IsBlk X X' scope → gS X' tg x (wipe σ vs) H' fun σ2 H2 => wipe σ2 vs = wipe σ vs ∧ ∀ X', IsBlk X X' scope → tsS X' ifs σ2 H2 fun b H3 =>
      if b = true then ∀ X', IsBlk X X' scope → eS X' elt σ2 H3 fun y H4 => ∃ acc, H4 D = some (.lst acc) ∧ acc.length < sizeLine ∧ Pv (i + 1) (upd H4 D (.lst (acc ++ [y]))) else Pv (i + 1) H3) ∧ ∀ H, Pv n H → Qd D H

section
variable {X : Cx} {P : Program} {w : World} {K : PySem.W.Frag} {mg : Str → Option Value} {base : Heap} {N : List Str} {nm : List (Str × NameKind)} {j : Nat} {σ σ' : L2.St} {H : Hp} {Q : VK} {D : Ends} {pos p p2 apos : Pos} {a b e tg iter elt : Expr} {es ifs : List Expr} {body : List Stmt} {R : It → Hp → Prop} {scope : Scope}

theorem look_map {f : Str × NameKind → Bool} (hf : ∀ p, f p = true → p.2 = NameKind.free) : ∀ {l : List (Str × NameKind)} {x : Str} {k : NameKind}, l.lookup x = some k → (k ≠ NameKind.free → (l.map fun p => if f p = true then (p.1, NameKind.cell) else p).lookup x = some k) ∧ (k = NameKind.free → (l.map fun p => if f p = true then (p.1, NameKind.cell) else p).lookup x = some NameKind.cell ∨ (l.map fun p => if f p = true then (p.1, NameKind.cell) else p).lookup x = some NameKind.free)
  | [], x, k, h => by simp at h
  | (n, q) :: l, x, k, h => by
    have e1 : (if f (n, q) = true then (n, NameKind.cell) else (n, q)) = (n, if f (n, q) = true then NameKind.cell else q) := by split <;> rfl
    rw [List.map_cons, e1]
    simp only [List.lookup_cons] at h ⊢
    cases hx : x == n with
    | true =>
      rw [hx] at h
      simp only [Option.some.injEq] at h ⊢
      subst h
      refine ⟨fun hk => ?_, fun hk => ?_⟩
      · rw [if_neg (fun z => hk (hf _ z))]
      · by_cases hz : f (n, q) = true
        · rw [if_pos hz]; exact .inl rfl
        · rw [if_neg hz]; exact .inr hk
    | false =>
      rw [hx] at h
      simp only at h ⊢
      exact look_map hf h
theorem CI.blk (c : CI X P w K mg base N nm j) {X' : Cx} (h : IsBlk X X' scope) (hk : scope.kind = .function) : CI X' P w K mg base N scope.names j := by
  obtain ⟨s, H, C, cl, fp, rfl⟩ := h
  have q : ∀ {x : Str} {k : NameKind}, scope.names.lookup x = some k → (k ≠ NameKind.free → (relabel scope X.env).names.lookup x = some k) ∧ (k = NameKind.free → (relabel scope X.env).names.lookup x = some NameKind.cell ∨ (relabel scope X.env).names.lookup x = some NameKind.free) :=
    fun {x k} h => look_map (f := fun p => p.2 == NameKind.free && X.env.scope.kind == .function && X.env.kindOf p.1 == some NameKind.cell) (fun p hp => by simp only [Bool.and_eq_true, beq_iff_eq] at hp; exact hp.1.1) h
  exact ⟨c.nd, fun x h => (q h).1 (by decide), fun x h => ⟨(q h).1 (by decide), by show (scope.names.lookup x == some NameKind.cell) = true; rw [h]; rfl⟩, fun x h => (q h).2 rfl, fun x h => (q h).1 (by decide), c.N, c.prog, c.w, c.K, c.mg, c.base, hk, c.calm, c.room, PassesOwn.never⟩
theorem s_for (c : CI X P w K mg base N nm j) (hs : ∀ x, foldedSetIterable iter X.env x = pure x) (h : iS X tg iter σ H fun J H1 => ForOn X tg body D J σ H1) : sS X (.For tg iter body [] pos) D σ H := by
  obtain ⟨t, pi, h⟩ := h
  refine ⟨_, ps_for c.pass c.calm (wi := fun σ H R => ∃ R', t σ H R' ∧ ∀ J H, R' J H → R J H) ⟨fun pins s σ H R I ⟨R', h, m⟩ => thn (pi.run pins s σ H R' I h) fun v s1 q => thn q fun u s2 ⟨it, fp, tn, J, H', e, I2, T, t0, f, r⟩ => ⟨it, fp, tn, J, H', e, I2, T, t0, f, m J H' r⟩⟩ gS_is bS_is hs, _, h, ?_⟩
  rintro J H ⟨n, G, Y, W, Pv, h0, hG, hs, hd⟩
  exact for_it W Pv h0 hG hs hd
theorem e_lc (c : CI X P w K mg base N nm j) (own : List (Str × Nat)) (ok : BlkOk N (scOf nm) scope own) (hs : ∀ x, foldedSetIterable iter X.env x = pure x) (h : iS X tg iter σ H fun J H1 => LcOn X scope tg ifs elt (own.map (·.2)) (fun D H => Q (.ref D) H) J σ H1) : eS X (.ListComp elt [⟨tg, iter, ifs, 0⟩] scope pos) σ H Q := by
  obtain ⟨t, pi, h⟩ := h
  have eN := c.N
  refine ⟨_, pe_lc c.calm (by rw [eN]; exact c.nd) (wi := fun σ H R => ∃ R', t σ H R' ∧ ∀ J H, R' J H → R J H) ⟨fun pins s σ H R I ⟨R', h, m⟩ => thn (pi.run pins s σ H R' I h) fun v s1 q => thn q fun u s2 ⟨it, fp, tn, J, H', e, I2, T, t0, f, r⟩ => ⟨it, fp, tn, J, H', e, I2, T, t0, f, m J H' r⟩⟩ (by rw [eN]; exact c.bok ok)
    (g := fun v σ H R => ∀ X', IsBlk X X' scope → gS X' tg v σ H R) (tt := fun σ H R => ∀ X', IsBlk X X' scope → tsS X' ifs σ H R) (te := fun σ H R => ∀ X', IsBlk X X' scope → eS X' elt σ H R)
    (fun s H C cl fp => ⟨fun pins s1 σ1 H1 v u Q1 I r h => gS_is.run pins s1 σ1 H1 v u Q1 I r (h _ ⟨s, H, C, cl, fp, rfl⟩)⟩) (fun s H C cl fp => ⟨fun pins s1 σ1 H1 Q1 I h => tsS_is.run pins s1 σ1 H1 Q1 I (h _ ⟨s, H, C, cl, fp, rfl⟩)⟩) (fun s H C cl fp => ⟨fun pins s1 σ1 H1 Q1 I h => eS_is.run pins s1 σ1 H1 Q1 I (h _ ⟨s, H, C, cl, fp, rfl⟩)⟩) hs, _, h, ?_⟩
  intro J H q D hD
  obtain ⟨n, G, Y, W, Pv, h0, hG, hs, hd⟩ := q D hD
  exact lc_it (g := fun v σ H R => ∀ X', IsBlk X X' scope → gS X' tg v σ H R) (tt := fun σ H R => ∀ X', IsBlk X X' scope → tsS X' ifs σ H R) (te := fun σ H R => ∀ X', IsBlk X X' scope → eS X' elt σ H R) (σ := σ) (vs := own.map (·.2)) W Pv h0 hG hs hd
theorem s_setLc (c : CI X P w K mg base N nm j) {y : Str} {i : Nat} {spos : Pos} (own : List (Str × Nat)) (hi : Ix N y i) (hy : nm.lookup y = some NameKind.local) (hsw : swapsWith (.ListComp elt [⟨tg, iter, ifs, 0⟩] scope pos) (some (.Name y p)) spos.line X.env = pure true) (ok : BlkOk N (scOf nm) scope own) (hs : ∀ x, foldedSetIterable iter X.env x = pure x)
    (h : iS X tg iter σ H fun J H1 => LcOn X scope tg ifs elt (own.map (·.2)) (fun q H => D.nx (σ.set i (some (.ref q))) H) J σ H1) : sS X (.Assign [.Name y p] (.ListComp elt [⟨tg, iter, ifs, 0⟩] scope pos) spos) D σ H := by
  obtain ⟨t, pi, h⟩ := h
  have eN := c.N
  refine ⟨_, ps_setLc (i := i) c.calm (by rw [eN]; exact c.nd) (by rw [eN]; exact hi.get) (c.lo _ hy) hsw (wi := fun σ H R => ∃ R', t σ H R' ∧ ∀ J H, R' J H → R J H) ⟨fun pins s σ H R I ⟨R', h, m⟩ => thn (pi.run pins s σ H R' I h) fun v s1 q => thn q fun u s2 ⟨it, fp, tn, J, H', e, I2, T, t0, f, r⟩ => ⟨it, fp, tn, J, H', e, I2, T, t0, f, m J H' r⟩⟩ (by rw [eN]; exact c.bok ok)
    (g := fun v σ H R => ∀ X', IsBlk X X' scope → gS X' tg v σ H R) (tt := fun σ H R => ∀ X', IsBlk X X' scope → tsS X' ifs σ H R) (te := fun σ H R => ∀ X', IsBlk X X' scope → eS X' elt σ H R)
    (fun s H C cl fp => ⟨fun pins s1 σ1 H1 v u Q1 I r h => gS_is.run pins s1 σ1 H1 v u Q1 I r (h _ ⟨s, H, C, cl, fp, rfl⟩)⟩) (fun s H C cl fp => ⟨fun pins s1 σ1 H1 Q1 I h => tsS_is.run pins s1 σ1 H1 Q1 I (h _ ⟨s, H, C, cl, fp, rfl⟩)⟩) (fun s H C cl fp => ⟨fun pins s1 σ1 H1 Q1 I h => eS_is.run pins s1 σ1 H1 Q1 I (h _ ⟨s, H, C, cl, fp, rfl⟩)⟩) hs, _, h, ?_⟩
  intro J H q D' hD
  obtain ⟨n, G, Y, W, Pv, h0, hG, hs, hd⟩ := q D' hD
  exact lc_it (g := fun v σ H R => ∀ X', IsBlk X X' scope → gS X' tg v σ H R) (tt := fun σ H R => ∀ X', IsBlk X X' scope → tsS X' ifs σ H R) (te := fun σ H R => ∀ X', IsBlk X X' scope → eS X' elt σ H R) (σ := σ) (vs := own.map (·.2)) W Pv h0 hG hs hd
theorem ts_nil {R : Bool → Hp → Prop} (h : R true H) : tsS X [] σ H R := ⟨_, pts_nil, h⟩
theorem ts_one {R : Bool → Hp → Prop} (h : qS X e σ H R) : tsS X [e] σ H R := ⟨_, pts_one qS_is, h⟩

/-! what is walked -/
theorem i_list (h : eS X e σ H fun x H1 => ∃ p xs, x = .ref p ∧ SqL X.K H1 p xs ∧ R (Itl X.K p) H1) : iS X tg e σ H R :=
  ⟨_, pi_list eS_is, eS_mono h fun _ _ ⟨p, xs, e, hq, r⟩ => ⟨p, e, ⟨xs, hq⟩, r⟩⟩
theorem i_tup (h : eS X e σ H fun x H1 => ∃ p xs, x = .ref p ∧ SqT X.K H1 p xs ∧ R (Itt X.K p) H1) : iS X tg e σ H R :=
  ⟨_, pi_tup eS_is, eS_mono h fun _ _ ⟨p, xs, e, hq, r⟩ => ⟨p, e, ⟨xs, hq⟩, r⟩⟩
theorem i_str (h : eS X e σ H fun x H1 => ∃ z, x = .str (S z) ∧ R (Its (S z)) H1) : iS X tg e σ H R :=
  ⟨_, pi_str eS_is, eS_mono h fun _ _ ⟨z, e, r⟩ => ⟨_, e, r⟩⟩
theorem i_range1 (c : CI X P w K mg base N nm j) (hg : glB nm "range" = true) (hm : mg "range" = none) (hs : starEach [a] X.env = [(false, eval a X.env)]) (h : eS X a σ H fun x H1 => ∃ n : Int, x = .int n ∧ -(2 ^ 62) ≤ n ∧ n < 2 ^ 62 ∧ R (Itr 0 n.toNat) H1) :
    iS X tg (.Call (.Name "range" p) [a] [] pos) σ H R :=
  ⟨_, pi_range1 (c.gl hg) (by rw [c.mg]; exact hm) (pa_cons eS_is pa_nil hs) hs, eS_mono h fun _ _ ⟨n, e, h1, h2, r⟩ => ⟨n, by rw [e], h1, h2, r⟩⟩
theorem i_range2 (c : CI X P w K mg base N nm j) (hg : glB nm "range" = true) (hm : mg "range" = none) (hs : starEach [a, b] X.env = [(false, eval a X.env), (false, eval b X.env)]) (hs2 : starEach [b] X.env = [(false, eval b X.env)])
    (h : eS X a σ H fun x H1 => eS X b σ H1 fun y H2 => ∃ i k : Int, x = .int i ∧ y = .int k ∧ (-(2 ^ 62) ≤ i ∧ i < 2 ^ 62 ∧ -(2 ^ 62) ≤ k ∧ k < 2 ^ 62) ∧ R (Itr i (k - i).toNat) H2) : iS X tg (.Call (.Name "range" p) [a, b] [] pos) σ H R :=
  ⟨_, pi_range2 (c.gl hg) (by rw [c.mg]; exact hm) (pa_cons eS_is (pa_cons eS_is pa_nil hs2) (by rw [hs2]; exact hs)) hs hs2, eS_mono h fun _ _ h => eS_mono h fun _ _ ⟨i, k, e1, e2, h1, r⟩ => ⟨i, k, by rw [e1, e2], h1, r⟩⟩
theorem i_down (c : CI X P w K mg base N nm j) {d : Expr} (hg : glB nm "range" = true) (hm : mg "range" = none) (hs : starEach [a, b, d] X.env = (false, eval a X.env) :: starEach [b, d] X.env) (hpl : (backTo pos (starEach [b, d] X.env)).any (·.1) = false) (hs1 : starEach [b, d] X.env = (false, eval b X.env) :: starEach [d] X.env) (hs2 : starEach [d] X.env = (false, eval d X.env) :: starEach [] X.env)
    (h : eS X a σ H fun x H1 => eS X b σ H1 fun y H2 => eS X d σ H2 fun z H3 => z = .int (-1) ∧ ∃ i k : Int, x = .int i ∧ y = .int k ∧ (-(2 ^ 62) ≤ i ∧ i < 2 ^ 62 ∧ -(2 ^ 62) ≤ k ∧ k < 2 ^ 62) ∧ R (Itc i (-1) (i - k).toNat) H3) : iS X tg (.Call (.Name "range" p) [a, b, d] [] pos) σ H R :=
  ⟨_, pi_range3 (c.gl hg) (by rw [c.mg]; exact hm) (pa_cons eS_is (pa_cons eS_is (pa_cons eS_is pa_nil hs2) hs1) hs) hs hpl, eS_mono h fun _ _ h => eS_mono h fun _ _ h => eS_mono h fun _ _ ⟨e, i, k, e1, e2, ⟨h1, h2, h3, h4⟩, r⟩ => ⟨i, k, -1, _, by rw [e, e1, e2], RgC.neg h1 h2 h3 h4, r⟩⟩
/-! loops by what is walked -/
theorem on_list {q : Addr} {xs : List V} (Pv : Nat → L2.St → Hp → Prop) (h0 : Pv 0 σ H) (hl : ∀ i σ H, i ≤ xs.length → Pv i σ H → SqL X.K H q xs) (hs : ∀ i x σ H, xs[i]? = some x → Pv i σ H → gS X tg x σ H fun σ2 H2 => bS X body { D with nx := Pv (i + 1), ct := Pv (i + 1), bk := D.nx } σ2 H2) (hd : ∀ σ H, Pv xs.length σ H → D.nx σ H) :
    ForOn X tg body D (Itl X.K q) σ H := ⟨_, _, _, walk_list (xs := xs), Pv, h0, hl, fun i x σ H H' _ p ⟨e, hx⟩ => by subst e; exact hs i x σ _ hx p, hd⟩
theorem on_tup {q : Addr} {xs : List V} (Pv : Nat → L2.St → Hp → Prop) (h0 : Pv 0 σ H) (hl : ∀ i σ H, i ≤ xs.length → Pv i σ H → SqT X.K H q xs) (hs : ∀ i x σ H, xs[i]? = some x → Pv i σ H → gS X tg x σ H fun σ2 H2 => bS X body { D with nx := Pv (i + 1), ct := Pv (i + 1), bk := D.nx } σ2 H2) (hd : ∀ σ H, Pv xs.length σ H → D.nx σ H) :
    ForOn X tg body D (Itt X.K q) σ H := ⟨_, _, _, walk_tup (xs := xs), Pv, h0, hl, fun i x σ H H' _ p ⟨e, hx⟩ => by subst e; exact hs i x σ _ hx p, hd⟩
theorem on_range {lo : Int} {n : Nat} (Pv : Nat → L2.St → Hp → Prop) (h0 : Pv 0 σ H) (hs : ∀ i σ H, i < n → Pv i σ H → gS X tg (.int (lo + i)) σ H fun σ2 H2 => bS X body { D with nx := Pv (i + 1), ct := Pv (i + 1), bk := D.nx } σ2 H2) (hd : ∀ σ H, Pv n σ H → D.nx σ H) :
    ForOn X tg body D (Itr lo n) σ H := ⟨_, _, _, walk_range, Pv, h0, fun _ _ _ _ _ => True.intro, fun i x σ H H' hi p ⟨e, hx⟩ => by subst e hx; exact hs i σ _ hi p, hd⟩
theorem on_down {lo : Int} {n : Nat} (Pv : Nat → L2.St → Hp → Prop) (h0 : Pv 0 σ H) (hs : ∀ i σ H, i < n → Pv i σ H → gS X tg (.int (lo - i)) σ H fun σ2 H2 => bS X body { D with nx := Pv (i + 1), ct := Pv (i + 1), bk := D.nx } σ2 H2) (hd : ∀ σ H, Pv n σ H → D.nx σ H) :
    ForOn X tg body D (Itc lo (-1) n) σ H := ⟨_, _, _, walk_rangeC, Pv, h0, fun _ _ _ _ _ => True.intro, fun i x σ H H' hi p ⟨e, hx⟩ => by
      subst e
      have e2 : lo + (i : Int) * -1 = lo - i := by omega
      have hx' : x = V.int (lo + (i : Int) * -1) := hx
      rw [e2] at hx'
      subst hx'
      exact hs i σ _ hi p, hd⟩
theorem on_str {z : List Nat} (Pv : Nat → L2.St → Hp → Prop) (h0 : Pv 0 σ H) (hs : ∀ i x σ H, z[i]? = some x → Pv i σ H → gS X tg (.str (S [x])) σ H fun σ2 H2 => bS X body { D with nx := Pv (i + 1), ct := Pv (i + 1), bk := D.nx } σ2 H2) (hd : ∀ σ H, Pv z.length σ H → D.nx σ H) :
    ForOn X tg body D (Its (S z)) σ H := ⟨_, _, _, walk_str, Pv, h0, fun _ _ _ _ _ => True.intro, fun i x σ H H' hi p ⟨e, y, hy, hx⟩ => by
      subst e hx
      exact hs i y σ _ (by simpa [S] using hy) p, fun σ H p => hd σ H (by simpa [S] using p)⟩
/-! comprehensions by what is walked: the target one name (slot i); no tests or one -/
theorem lc_name {y : Str} {i n : Nat} {G : Hp → Prop} {Y : Nat → Hp → V → Hp → Prop} {J : It} {Qd : Addr → Hp → Prop} (c : CI X P w K mg base N nm j) (hi : Ix N y i) (hl : locB scope.names y = true) (hk : scope.kind = .function) (W : Walk J n G Y)
    (k : ∀ D, H D = none → ∃ Pv : Nat → Hp → Prop, Pv 0 (upd H D (.lst [])) ∧ (∀ m H, m ≤ n → Pv m H → G H) ∧ (∀ m x H H', m < n → Pv m H → Y m H x H' → ∀ X', IsBlk X X' scope → CI X' P w K mg base N scope.names j → tsS X' ifs (σ.set i (some x)) H' fun b H3 =>
      if b = true then ∀ X', IsBlk X X' scope → CI X' P w K mg base N scope.names j → eS X' elt (σ.set i (some x)) H3 fun y H4 => ∃ acc, H4 D = some (.lst acc) ∧ acc.length < sizeLine ∧ Pv (m + 1) (upd H4 D (.lst (acc ++ [y]))) else Pv (m + 1) H3) ∧ ∀ H, Pv n H → Qd D H) :
    LcOn X scope (.Name y p) ifs elt [i] Qd J σ H := by
  intro D hD
  obtain ⟨Pv, h0, hG, hs, hd⟩ := k D hD
  refine ⟨n, G, Y, W, Pv, h0, hG, fun m x H H' hm pv y X' hb => ?_, hd⟩
  refine g_tgt (c.blk hb hk) hi hl ?_
  have e1 : (wipe σ [i]).set i (some x) = σ.set i (some x) := by show (σ.set i none).set i (some x) = _; rw [List.set_set]
  rw [e1]
  refine ⟨by show (σ.set i (some x)).set i none = σ.set i none; rw [List.set_set], fun X' hb => ?_⟩
  refine tsS_mono (hs m x H H' hm pv y X' hb (c.blk hb hk)) fun b H q => ?_
  cases b with
  | true => exact fun X' hb => q X' hb (c.blk hb hk)
  | false => exact q
end
end Go

namespace Go
open PySem PySem.Spec PyProof.Rows L2

theorem sz_le {n : Nat} (h : n ≤ 1000000) : n ≤ sizeLine := Nat.le_trans h (by decide)
theorem sz_lt {n : Nat} (h : n < 1000000) : n < sizeLine := Nat.lt_of_lt_of_le h (by decide)

section
variable {X : Cx} {P : Program} {w : World} {K : PySem.W.Frag} {mg : Str → Option Value} {base : Heap} {N : List Str} {nm : List (Str × NameKind)} {j : Nat} {σ σ' : L2.St} {H G : Hp} {Q : VK} {C : List (Addr × HO)}

/-! operators by values -/
theorem o_addS {a b : List Nat} (hl : a.length + b.length ≤ 1000000) (h : Q (.str (S (a ++ b))) H) : oS X (binaryOp .Add) (.str (S a)) (.str (S b)) H Q := ⟨_, op_add_str, _, _, rfl, rfl, by rw [S_len, S_len]; exact sz_le hl, by rw [S_app]; exact h⟩
theorem o_iaddS {a b : List Nat} (hl : a.length + b.length ≤ 1000000) (h : Q (.str (S (a ++ b))) H) : oS X (inplaceOp .Add) (.str (S a)) (.str (S b)) H Q := ⟨_, iop_add_str, _, _, rfl, rfl, by rw [S_len, S_len]; exact sz_le hl, by rw [S_app]; exact h⟩
theorem o_iadd {a b : Int} (h : Q (.int (a + b)) H) : oS X (inplaceOp .Add) (.int a) (.int b) H Q := ⟨_, iop_add, _, _, rfl, rfl, h⟩
theorem o_isub {a b : Int} (h : Q (.int (a - b)) H) : oS X (inplaceOp .Sub) (.int a) (.int b) H Q := ⟨_, iop_sub, _, _, rfl, rfl, h⟩
theorem o_addB {a : Int} {b : Bool} (h : Q (.int (a + b2i b)) H) : oS X (binaryOp .Add) (.int a) (.bl b) H Q := ⟨_, op_add_ib, _, _, rfl, rfl, h⟩
theorem o_cat {p q : Addr} {xs ys : List V} (hp : H p = some (.lst xs)) (hq : H q = some (.lst ys)) (hl : xs.length + ys.length ≤ 1000000) (h : ∀ r H', New H r (.lst (xs ++ ys)) H' → Q (.ref r) H') : oS X (binaryOp .Add) (.ref p) (.ref q) H Q := ⟨_, op_cat, _, _, _, _, rfl, rfl, hp, hq, sz_le hl, fun r hr => h r _ ⟨hr, rfl⟩⟩
theorem o_rep {p : Addr} {xs : List V} {n : Int} (hp : H p = some (.lst xs)) (h1 : 0 ≤ n) (h2 : xs.length * n.toNat ≤ 1000000) (h3 : n ≤ 1000000) (h : ∀ r H', New H r (.lst (List.replicate n.toNat xs).flatten) H' → Q (.ref r) H') : oS X (binaryOp .Mult) (.ref p) (.int n) H Q :=
  ⟨_, op_rep, _, _, _, rfl, rfl, hp, by omega, by omega, sz_le h2, fun r hr => h r _ ⟨hr, rfl⟩⟩
theorem o_eqI {a b : Int} (h : Q (.bl (decide (a = b))) H) : oS X (compareOp .Eq) (.int a) (.int b) H Q := ⟨_, op_eq, rfl, by rw [show decide (V.int a = V.int b) = decide (a = b) by simp]; exact h⟩
theorem o_neI {a b : Int} (h : Q (.bl (!decide (a = b))) H) : oS X (compareOp .NotEq) (.int a) (.int b) H Q := ⟨_, op_ne, rfl, by rw [show decide (V.int a = V.int b) = decide (a = b) by simp]; exact h⟩
theorem o_eqS {a b : List Nat} (h : Q (.bl (decide (a = b))) H) : oS X (compareOp .Eq) (.str (S a)) (.str (S b)) H Q := ⟨_, op_eq, rfl, by rw [show decide (V.str (S a) = V.str (S b)) = decide (a = b) by simp [S_inj]]; exact h⟩
theorem o_neS {a b : List Nat} (h : Q (.bl (!decide (a = b))) H) : oS X (compareOp .NotEq) (.str (S a)) (.str (S b)) H Q := ⟨_, op_ne, rfl, by rw [show decide (V.str (S a) = V.str (S b)) = decide (a = b) by simp [S_inj]]; exact h⟩
theorem o_eqB {a b : Bool} (h : Q (.bl (decide (a = b))) H) : oS X (compareOp .Eq) (.bl a) (.bl b) H Q := ⟨_, op_eq, rfl, by rw [show decide (V.bl a = V.bl b) = decide (a = b) by simp]; exact h⟩
theorem o_neB {a b : Bool} (h : Q (.bl (!decide (a = b))) H) : oS X (compareOp .NotEq) (.bl a) (.bl b) H Q := ⟨_, op_ne, rfl, by rw [show decide (V.bl a = V.bl b) = decide (a = b) by simp]; exact h⟩
theorem o_ltS {a b : List Nat} (h : Q (.bl (decide (a < b))) H) : oS X (compareOp .Lt) (.str (S a)) (.str (S b)) H Q := ⟨_, op_lt_str, _, _, rfl, rfl, by refine cast (congrArg (fun b => Q (V.bl b) H) ?_) h; exact decide_eq_decide.mpr (by simp [S])⟩
theorem o_leS {a b : List Nat} (h : Q (.bl (!decide (b < a))) H) : oS X (compareOp .LtE) (.str (S a)) (.str (S b)) H Q := ⟨_, op_le_str, _, _, rfl, rfl, by refine cast (congrArg (fun b => Q (V.bl !b) H) ?_) h; exact decide_eq_decide.mpr (by simp [S])⟩
theorem o_gtS {a b : List Nat} (h : Q (.bl (decide (b < a))) H) : oS X (compareOp .Gt) (.str (S a)) (.str (S b)) H Q := ⟨_, op_gt_str, _, _, rfl, rfl, by refine cast (congrArg (fun b => Q (V.bl b) H) ?_) h; exact decide_eq_decide.mpr (by simp [S])⟩
theorem o_isN {x : V} (h : Q (.bl (decide (x = .non))) H) : oS X (compareOp .Is) x .non H Q := ⟨_, op_isN, rfl, h⟩
theorem o_notN {x : V} (h : Q (.bl (!decide (x = .non))) H) : oS X (compareOp .IsNot) x .non H Q := ⟨_, op_notN, rfl, h⟩
theorem o_isB {a b : Bool} (h : Q (.bl (decide (a = b))) H) : oS X (compareOp .Is) (.bl a) (.bl b) H Q := ⟨_, op_isBl, _, _, rfl, rfl, h⟩
theorem o_notB {a b : Bool} (h : Q (.bl (!decide (a = b))) H) : oS X (compareOp .IsNot) (.bl a) (.bl b) H Q := ⟨_, op_notBl, _, _, rfl, rfl, h⟩
theorem o_in1 {c : Nat} {z : List Nat} (h : Q (.bl (decide (c ∈ z))) H) : oS X (compareOp .In) (.str (S [c])) (.str (S z)) H Q := ⟨_, op_in_sign, c, _, rfl, rfl, by refine cast (congrArg (fun b => Q (V.bl b) H) ?_) h; exact decide_eq_decide.mpr (by simp [S])⟩
theorem o_notIn1 {c : Nat} {z : List Nat} (h : Q (.bl (!decide (c ∈ z))) H) : oS X (compareOp .NotIn) (.str (S [c])) (.str (S z)) H Q := ⟨_, op_notIn_sign, c, _, rfl, rfl, by refine cast (congrArg (fun b => Q (V.bl !b) H) ?_) h; exact decide_eq_decide.mpr (by simp [S])⟩
theorem o_inQ (c : CI X P w K mg base N nm j) {x : V} {p : Addr} {xs : List V} (hp : SqL K H p xs ∨ SqT K H p xs) (h1 : flatV x = true) (h2 : xs.all flatV = true) (h : Q (.bl (inV x xs)) H) : oS X (compareOp .In) x (.ref p) H Q := by
  have e := c.K
  subst e
  exact ⟨_, op_in_seq, _, _, rfl, hp, h1, h2, h⟩
theorem o_notInQ (c : CI X P w K mg base N nm j) {x : V} {p : Addr} {xs : List V} (hp : SqL K H p xs ∨ SqT K H p xs) (h1 : flatV x = true) (h2 : xs.all flatV = true) (h : Q (.bl (!inV x xs)) H) : oS X (compareOp .NotIn) x (.ref p) H Q := by
  have e := c.K
  subst e
  exact ⟨_, op_notIn_seq, _, _, rfl, hp, h1, h2, h⟩
theorem o_eqD (c : CI X P w K mg base N nm j) {x y : V} {d e : PyData} (hx : Dp K H x d) (hy : Dp K H y e) (h1 : SeqAt.shaped d = true) (h2 : SeqAt.shaped e = true) (h : Q (.bl (PyData.eqv d e)) H) : oS X (compareOp .Eq) x y H Q := by
  have e := c.K
  subst e
  exact ⟨_, op_eqD c.u64, _, _, hx, hy, h1, h2, h⟩
theorem o_neD (c : CI X P w K mg base N nm j) {x y : V} {d e : PyData} (hx : Dp K H x d) (hy : Dp K H y e) (h1 : SeqAt.shaped d = true) (h2 : SeqAt.shaped e = true) (h : Q (.bl (!PyData.eqv d e)) H) : oS X (compareOp .NotEq) x y H Q := by
  have e := c.K
  subst e
  exact ⟨_, op_neD c.u64, _, _, hx, hy, h1, h2, h⟩
/-! subscripts -/
theorem x_tup (c : CI X P w K mg base N nm j) {p : Addr} {xs : List V} {i : Int} {v : V} (hp : SqT K H p xs) (ha : atI xs i = some v) (h : Q v H) : xS X (.ref p) (.int i) H Q := by
  have e := c.K
  subst e
  exact ⟨_, ix_tup, _, _, _, _, rfl, rfl, hp, ha, h⟩
theorem x_str {z : List Nat} {i : Int} {y : Nat} (hz : z.length ≤ 1000000) (ha : atI z i = some y) (h : Q (.str (S [y])) H) : xS X (.str (S z)) (.int i) H Q :=
  ⟨_, ix_str, _, _, _, rfl, rfl, by rw [S_len]; exact sz_le hz, by simpa [S] using ha, h⟩
theorem x_dict (c : CI X P w K mg base N nm j) {p : Addr} {y v : V} (g : DGet H p y (some v)) (h : Q v H) : xS X (.ref p) y H Q := by
  refine ⟨fun x y H Q => ∃ a v, x = .ref a ∧ DGet H a y (some v) ∧ Q v H, ?_, _, _, rfl, g, h⟩
  intro va sl pins s σ H x y v u Q I rx ry h hs
  obtain ⟨a, z, rfl, g, q⟩ := h
  obtain rfl : v = Value.ref a := rx
  have T := dict_typeIs I g
  unfold subscriptTail
  refine wpAny_bind ?_
  rw [getitemInPython_of_ne T.not_modules]
  refine wpAny_bind (wpAny_specialOf T PySem.F.slot_dict_getitem.lookup ?_)
  have fin : wpAny (model X.prog X.w) X.A (subscripted sl false (.ref a) u) (fun r s₃ => wpAny (model X.prog X.w) X.A (letTemporaryGo va (.ref a) r >>= fun _ => pure r) (EP X pins σ Q) X.xe s₃) X.xe s := by
    rw [hs]
    exact wpAny_operating (d_getItem c.hu I g ry fun w' s3 I3 rw' => wpAny_bind (wpAny_letTemporaryGo (wpAny_pure ⟨z, H, I3, rw', q⟩)))
  first
    | exact wpAny_pure (wpAny_bind fin)
    | exact wpAny_bind (wpAny_pure (wpAny_bind fin))
    | exact wpAny_bind fin
theorem p_dict (c : CI X P w K mg base N nm j) {p : Addr} {y v : V} {H' : Hp} {R : Hp → Prop} (g : DPut H p y v H') (h : R H') : pS X (.ref p) y v H R := by
  refine ⟨fun o i v H R => ∃ a H', o = .ref a ∧ DPut H a i v H' ∧ R H', ?_, _, _, rfl, g, h⟩
  intro pins s σ H o i v ov iv u R I r1 r2 r3 h
  obtain ⟨a, H', rfl, g, q⟩ := h
  obtain rfl : ov = Value.ref a := r1
  exact d_setItem c.hu I g r2 r3 fun s4 I4 => ⟨H', I4, q⟩
theorem o_inD (c : CI X P w K mg base N nm j) {p : Addr} {y : V} {r : Option V} (g : DGet H p y r) (h : Q (.bl r.isSome) H) : oS X (compareOp .In) y (.ref p) H Q := by
  refine ⟨fun y x H Q => ∃ a o, x = .ref a ∧ DGet H a y o ∧ Q (.bl o.isSome) H, ?_, _, _, rfl, g, h⟩
  intro pins s σ H y x v u Q I ry rx h
  obtain ⟨a, o, rfl, g, q⟩ := h
  obtain rfl : u = Value.ref a := rx
  exact d_in c.hu I g ry fun s3 I3 => ⟨.bl o.isSome, H, I3, rfl, q⟩
theorem o_notInD (c : CI X P w K mg base N nm j) {p : Addr} {y : V} {r : Option V} (g : DGet H p y r) (h : Q (.bl (!r.isSome)) H) : oS X (compareOp .NotIn) y (.ref p) H Q := by
  refine ⟨fun y x H Q => ∃ a o, x = .ref a ∧ DGet H a y o ∧ Q (.bl (!o.isSome)) H, ?_, _, _, rfl, g, h⟩
  intro pins s σ H y x v u Q I ry rx h
  obtain ⟨a, o, rfl, g, q⟩ := h
  obtain rfl : u = Value.ref a := rx
  exact d_notIn c.hu I g ry fun s3 I3 => ⟨.bl (!o.isSome), H, I3, rfl, q⟩
/-! slices -/
def cut {α : Type} (z : List α) (lo hi : Option Int) : List α := (z.drop (HT.sIx z.length 0 lo)).take (HT.sIx z.length z.length hi - HT.sIx z.length 0 lo)
theorem l_lst (c : CI X P w K mg base N nm j) {p : Addr} {xs : List V} {lo hi : Option Int} (hp : SqL K H p xs) (h : ∀ r H', New H r (.lst (cut xs lo hi)) H' → Q (.ref r) H') : lS X (.ref p) lo hi H Q := by
  have e := c.K
  subst e
  exact ⟨_, sl_list, _, _, rfl, hp, fun r hr => h r _ ⟨hr, rfl⟩⟩
theorem l_str {z : List Nat} {lo hi : Option Int} (hz : z.length ≤ 1000000) (h : Q (.str (S (cut z lo hi))) H) : lS X (.str (S z)) lo hi H Q :=
  ⟨_, sl_str, _, rfl, by rw [S_len]; exact sz_le hz, by
    have e : cutS (S z) lo hi = S (cut z lo hi) := by simp [cutS, S, cut, Str.length]
    rw [e]; exact h⟩
theorem e_revL (c : CI X P w K mg base N nm j) {e : Expr} {k : Nat} {p1 p2 p3 pos : Pos} (h : eS X e σ H fun x H1 => ∃ a xs, x = .ref a ∧ SqL K H1 a xs ∧ ∀ p H2, New H1 p (.lst xs.reverse) H2 → Q (.ref p) H2) : eS X (.Subscript e (.Slice none none (some (.UnaryOp .USub (.Constant (.int 1) k p1) p2)) p3) pos) σ H Q := by
  have e := c.K
  subst e
  exact ⟨_, pe_revL eS_is, eS_mono h fun x H1 ⟨a, xs, e, hq, k⟩ => ⟨a, xs, e, hq, fun p hp => k p _ ⟨hp, rfl⟩⟩⟩
/-! built-ins -/
theorem c_lenL (c : CI X P w K mg base N nm j) {p : Addr} {xs : List V} (hp : SqL K H p xs) (h : Q (.int xs.length) H) : cS X (.builtin "len") [.ref p] H Q := by
  have e := c.K
  subst e
  exact ⟨_, call_len, _, _, rfl, .inl ⟨_, hp, rfl⟩, h⟩
theorem c_lenT (c : CI X P w K mg base N nm j) {p : Addr} {xs : List V} (hp : SqT K H p xs) (h : Q (.int xs.length) H) : cS X (.builtin "len") [.ref p] H Q := by
  have e := c.K
  subst e
  exact ⟨_, call_len, _, _, rfl, .inr ⟨_, hp, rfl⟩, h⟩
theorem c_lenS {z : List Nat} (hz : z.length ≤ 1000000) (h : Q (.int z.length) H) : cS X (.builtin "len") [.str (S z)] H Q := ⟨_, call_len, _, _, rfl, ⟨by rw [S_len]; exact sz_le hz, rfl⟩, by rw [S_len]; exact h⟩
theorem c_intI {i : Int} (h : Q (.int i) H) : cS X (.type "int") [.int i] H Q := ⟨_, call_int1, .inl ⟨_, rfl, h⟩⟩
theorem c_intB {b : Bool} (h : Q (.int (if b then 1 else 0)) H) : cS X (.type "int") [.bl b] H Q := ⟨_, call_int1, .inr ⟨_, rfl, h⟩⟩
theorem c_intS {z : List Nat} {n : Int} (hn : PySem.intText? (S z) = some n) (hl : z.length ≤ 640) (h : Q (.int n) H) : cS X (.type "int") [.str (S z)] H Q := ⟨_, call_int_str, _, _, rfl, hn, by rw [S_len]; exact hl, h⟩
theorem c_strI {i : Int} (hz : i.natAbs.log2 < 1920) (h : Q (.str (S (cs (toString i : String)))) H) : cS X (.type "str") [.int i] H Q := ⟨_, call_str_int, _, rfl, hz, by rw [← S_cs ((toString i : String) : Str)]; exact h⟩
theorem c_sum (c : CI X P w K mg base N nm j) {p : Addr} {ns : List Int} (hp : SqL K H p (ns.map V.int)) (h : Q (.int ns.sum) H) : cS X (.builtin "sum") [.ref p] H Q := by
  have e := c.K
  subst e
  exact ⟨_, cr_sum c.calm, _, _, rfl, hp, h⟩
theorem c_max2 (c : CI X P w K mg base N nm j) {a b : Int} (h : Q (.int (max a b)) H) : cS X (.builtin "max") [.int a, .int b] H Q := ⟨_, call_max2 c.calm, _, _, rfl, by rw [show (if b > a then b else a) = max a b by omega]; exact h⟩
theorem c_min2 (c : CI X P w K mg base N nm j) {a b : Int} (h : Q (.int (min a b)) H) : cS X (.builtin "min") [.int a, .int b] H Q := ⟨_, call_min2 c.calm, _, _, rfl, by rw [show (if b < a then b else a) = min a b by omega]; exact h⟩
theorem c_abs {a : Int} (h : Q (.int (if a < 0 then -a else a)) H) : cS X (.builtin "abs") [.int a] H Q := ⟨_, call_abs, _, rfl, h⟩
theorem c_listL (c : CI X P w K mg base N nm j) {p : Addr} {xs : List V} (hp : SqL K H p xs) (h : ∀ r H', New H r (.lst xs) H' → Q (.ref r) H') : cS X (.type "list") [.ref p] H Q := by
  have e := c.K
  subst e
  exact ⟨_, call_list_of, _, _, rfl, .inl hp, fun r hr => h r _ ⟨hr, rfl⟩⟩
theorem c_listT (c : CI X P w K mg base N nm j) {p : Addr} {xs : List V} (hp : SqT K H p xs) (h : ∀ r H', New H r (.lst xs) H' → Q (.ref r) H') : cS X (.type "list") [.ref p] H Q := by
  have e := c.K
  subst e
  exact ⟨_, call_list_of, _, _, rfl, .inr hp, fun r hr => h r _ ⟨hr, rfl⟩⟩
theorem c_tupleL (c : CI X P w K mg base N nm j) {p : Addr} {xs : List V} (hp : SqL K H p xs) (h : ∀ r H', New H r (.tup xs) H' → Q (.ref r) H') : cS X (.type "tuple") [.ref p] H Q := by
  have e := c.K
  subst e
  exact ⟨_, call_tuple_of, _, _, rfl, .inl ⟨hp, fun r hr => h r _ ⟨hr, rfl⟩⟩⟩
/-! methods -/
theorem ty_lst {p : Addr} {xs : List V} (hp : SqL K H p xs) : tyV K "list" (.ref p) H := .inl ⟨rfl, _, hp⟩
theorem m_append {p : Addr} {xs : List V} {y : V} (hp : H p = some (.lst xs)) (hl : xs.length < 1000000) (h : Q .non (upd H p (.lst (xs ++ [y])))) : mS X "list.append" (.ref p) [y] H Q := ⟨_, mt_append, _, _, _, rfl, rfl, hp, sz_lt hl, h⟩
theorem m_pop {p : Addr} {xs : List V} {y : V} (hp : H p = some (.lst xs)) (hy : xs[xs.length - 1]? = some y) (h : Q y (upd H p (.lst xs.dropLast))) : mS X "list.pop" (.ref p) [] H Q := ⟨_, mt_pop, _, _, _, rfl, rfl, hp, hy, h⟩
theorem m_reverse {p : Addr} {xs : List V} (hp : H p = some (.lst xs)) (h : Q .non (upd H p (.lst xs.reverse))) : mS X "list.reverse" (.ref p) [] H Q := ⟨_, mt_reverse, _, _, rfl, rfl, hp, h⟩
end
end Go

namespace Enu
open PySem PySem.Spec PyProof.Rows L2 PySem.W

theorem no_len : typeLookup (.type "enumerate") "__len__" = pure none := by rw [typeLookup_type, builtinLookup_eq_fast]; kernel_rfl
theorem no_hint : typeLookup (.type "enumerate") "__length_hint__" = pure none := by rw [typeLookup_type, builtinLookup_eq_fast]; kernel_rfl

/-- an enumerate that has handed out a tuple which still lives, or none yet -/
def EnG (h : Heap) (e it : Addr) (i : Int) (old o0 : Value) (f : Bool) : Prop :=
  h.get? e = some { cls := .type "enumerate", dict := none, data := .fields #[o0, .bool f, .ref it, rawInt i, .none, old], slots := #[] }
def EnSt (h : Heap) (e it l : Addr) (S : Addr) (i : Nat) : Prop :=
  h.IsListIter it l i ∧ (IsEnum h e it i .none ∨ ∃ (x : Value) (T : Addr) (f : Bool) (oT : Obj), EnG h e it i x (rawInt T) f ∧ h.get? T = some oT ∧ T ≠ e ∧ T ≠ it ∧ T ≠ S)

section
variable {prog : Program} {w : World} {A : Around} {E : Value → Shared → Prop} {s : Shared}

theorem next_out {e it l T : Addr} {i : Nat} {items : Array Value} {x old : Value} {f : Bool} {oT : Obj} {Q : Value → Shared → Prop} (he : EnG s.heap e it i old (rawInt T) f) (hit : s.heap.IsListIter it l i) (hl : s.heap.IsList l items) (hx : items[i]? = some x) (hne : e ≠ it)
    (hT : s.heap.get? T = some oT) (hTe : T ≠ e) (hTi : T ≠ it)
    (hQ : ∀ h', EnG h' e it ((i : Int) + 1) old (rawInt T) true → h'.IsListIter it l (i + 1) → h'.get? s.heap.objs.size = some { cls := .type "tuple", data := .seq #[.int i s.toks, x] } → h'.objs.size = s.heap.objs.size + 1 →
      (∀ b o, b ≠ e → b ≠ it → s.heap.get? b = some o → h'.get? b = some o) → Q (.ref s.heap.objs.size) { s with heap := h', toks := s.toks + 1 }) :
    wpAny (model prog w) A (Builtin.«enumerate.__next__» ⟨[.ref e], []⟩) (fun fin s' => ∃ v, fin = .done (.ret v) ∧ Q v s') E s := by
  obtain ⟨hp, g, d, tk, os⟩ := s
  show wpAny _ _ (field (.ref e) 2 >>= _) _ _ _
  refine wpAny_bind (wpAny_field he rfl (x := .ref it) rfl ?_)
  refine wpAny_bind (wpAny_nextOf_list_item hit hl hx fun h1 hit1 hs1 => ?_)
  replace hs1 : Heap.SameBut it hp h1 := hs1
  have he1 : EnG h1 e it i old (rawInt T) f := (hs1.2 e hne).trans he
  have hT1 : h1.get? T = some oT := (hs1.2 T hTi).trans hT
  show wpAny _ _ (field (.ref e) 3 >>= _) _ _ ⟨h1, g, d, tk, os⟩
  refine wpAny_bind (wpAny_field he1 rfl (x := rawInt i) rfl ?_)
  show wpAny _ _ (field (.ref e) 4 >>= _) _ _ ⟨h1, g, d, tk, os⟩
  refine wpAny_bind (wpAny_field he1 rfl (x := .none) rfl ?_)
  show wpAny _ _ (mkInt i >>= _) _ _ ⟨h1, g, d, tk, os⟩
  refine wpAny_bind (wpAny_mkInt ?_)
  show wpAny _ _ (setField (.ref e) 3 (rawInt ((i : Int) + 1)) >>= _) _ _ ⟨h1, g, d, tk + 1, os⟩
  refine wpAny_bind (wpAny_setField_rec he1 (by simp) fun h2 he2 hs2 => ?_)
  replace hs2 : Heap.SameBut e h1 h2 := hs2
  replace he2 : EnG h2 e it ((i : Int) + 1) old (rawInt T) f := he2
  show wpAny _ _ (setField (.ref e) 4 .none >>= _) _ _ ⟨h2, g, d, tk + 1, os⟩
  refine wpAny_bind (wpAny_setField_rec he2 (by simp) fun h3 he3 hs3 => ?_)
  replace hs3 : Heap.SameBut e h2 h3 := hs3
  replace he3 : EnG h3 e it ((i : Int) + 1) old (rawInt T) f := he3
  have hT3 : h3.get? T = some oT := (hs3.2 T hTe).trans ((hs2.2 T hTe).trans hT1)
  show wpAny _ _ (newTuple [.int i tk, x] >>= _) _ _ ⟨h3, g, d, tk + 1, os⟩
  refine wpAny_bind (wpAny_newTuple ?_)
  have he4 : EnG (h3.push { cls := .type "tuple", data := .seq #[.int i tk, x] }) e it ((i : Int) + 1) old (rawInt T) f := Heap.get?_push_of_some _ he3
  have hT4 : (h3.push { cls := .type "tuple", data := .seq #[.int i tk, x] }).get? T = some oT := Heap.get?_push_of_some _ hT3
  generalize hh4 : h3.push { cls := .type "tuple", data := .seq #[.int i tk, x] } = h4 at he4 hT4
  have hsz : h3.objs.size = hp.objs.size := by rw [hs3.1, hs2.1, hs1.1]
  have hel : e < hp.objs.size := Heap.lt_size he
  have ht4 : h4.get? hp.objs.size = some { cls := .type "tuple", data := .seq #[.int i tk, x] } := by rw [← hh4, ← hsz]; exact Heap.get?_push_size _ rfl
  have hz4 : h4.objs.size = hp.objs.size + 1 := by rw [← hh4, Heap.size_push, hsz]
  have hk4 : ∀ b o, b ≠ e → b ≠ it → hp.get? b = some o → h4.get? b = some o := fun b o hbe hbi hb => by
    rw [← hh4]; exact Heap.get?_push_of_some _ (hs3.extBut b o hbe (hs2.extBut b o hbe (hs1.extBut b o hbi hb)))
  have hit4 : h4.IsListIter it l (i + 1) := by
    rw [← hh4]; obtain ⟨o, ho, r⟩ := (hit1.extBut hs2.extBut (Ne.symm hne)).extBut hs3.extBut (Ne.symm hne); exact ⟨o, Heap.get?_push_of_some _ ho, r⟩
  show wpAny _ _ (Builtin.SmallTypes.ownedTupleIsFree (.ref e) >>= _) _ _ ⟨h4, g, d, tk + 1, os⟩
  rw [hsz]
  clear hh4 he3 hs3 he2 hs2 he1 hs1 hit1 hsz hT3 hT1
  refine wpAny_bind ?_
  unfold Builtin.SmallTypes.ownedTupleIsFree
  refine wpAny_bind (wpAny_field he4 rfl (x := rawInt T) rfl ?_)
  show wpAny _ _ (loadIfAlive ((T : Int).toNat) >>= _) _ _ _
  rw [Int.toNat_natCast]
  refine wpAny_bind (kdx_alive hT4 ?_)
  simp only [Option.isNone_some, Bool.false_eq_true, if_false]
  refine wpAny_bind (wpAny_field he4 rfl (x := .bool f) rfl ?_)
  cases f with
  | true =>
    rw [if_neg (show ¬ ((Value.bool true != Value.bool true) = true) from Bool.false_ne_true)]
    refine wpAny_pure ?_
    simp only [Bool.false_eq_true, if_false]
    exact wpAny_pure (⟨_, rfl, hQ h4 he4 hit4 ht4 hz4 hk4⟩)
  | false =>
    rw [if_pos (show (Value.bool false != Value.bool true) = true from rfl)]
    refine wpAny_bind (wpAny_setField_rec he4 (by simp) fun h5 he5 hs5 => ?_)
    replace hs5 : Heap.SameBut e h4 h5 := hs5
    replace he5 : EnG h5 e it ((i : Int) + 1) old (rawInt T) true := he5
    refine wpAny_pure ?_
    simp only [Bool.false_eq_true, if_false]
    exact wpAny_pure (⟨_, rfl, hQ h5 he5 (hit4.extBut hs5.extBut (Ne.symm hne)) (hs5.extBut _ _ (Nat.ne_of_gt hel) ht4) (by rw [hs5.1, hz4]) fun b o hbe hbi hb => hs5.extBut b o hbe (hk4 b o hbe hbi hb)⟩)
theorem pn_out {e it l T : Addr} {i : Nat} {items : Array Value} {x old : Value} {f : Bool} {oT : Obj} {Q : Option Value → Shared → Prop} (he : EnG s.heap e it i old (rawInt T) f) (hit : s.heap.IsListIter it l i) (hl : s.heap.IsList l items) (hx : items[i]? = some x) (hne : e ≠ it)
    (hT : s.heap.get? T = some oT) (hTe : T ≠ e) (hTi : T ≠ it)
    (hQ : ∀ h', EnG h' e it ((i : Int) + 1) old (rawInt T) true → h'.IsListIter it l (i + 1) → h'.get? s.heap.objs.size = some { cls := .type "tuple", data := .seq #[.int i s.toks, x] } → h'.objs.size = s.heap.objs.size + 1 →
      (∀ b o, b ≠ e → b ≠ it → s.heap.get? b = some o → h'.get? b = some o) → Q (some (.ref s.heap.objs.size)) { s with heap := h', toks := s.toks + 1 }) :
    wpAny (model prog w) A (pyNext (.ref e)) Q E s := by
  have hTy : s.TypeIs (.ref e) "enumerate" := ⟨_, he, rfl⟩
  unfold pyNext
  exact wpAny_bind (wpAny_attempt (wpAny_callSpecial?_slot (name := Str.ofString "__next__") hTy F.slot_enumerate_next
    (wpAny_call_entry F.slot_enumerate_next hTy F.entry_enumerate_next (next_out he hit hl hx hne hT hTe hTi fun h' a b c d k => wpAny_pure (hQ h' a b c d k)) (F.args_enumerate_next_1 _))))
theorem pn_end {e it l : Addr} {i : Nat} {items : Array Value} {o0 old : Value} {f : Bool} {Q : Option Value → Shared → Prop} (hh : A.handled = none) (he : EnG s.heap e it i old o0 f) (hit : s.heap.IsListIter it l i) (hl : s.heap.IsList l items) (hx : items[i]? = none)
    (hQ : ∀ h', Heap.ExtBut it s.heap h' → Q none { s with heap := h' }) : wpAny (model prog w) A (pyNext (.ref e)) Q E s := by
  have hT : s.TypeIs (.ref e) "enumerate" := ⟨_, he, rfl⟩
  unfold pyNext
  refine wpAny_bind (wpAny_attempt (wpAny_callSpecial?_slot (name := Str.ofString "__next__") hT F.slot_enumerate_next (wpAny_call_entry F.slot_enumerate_next hT F.entry_enumerate_next ?_ (F.args_enumerate_next_1 _))))
  show wpAny _ _ (field (.ref e) 2 >>= _) _ _ _
  refine wpAny_bind (wpAny_field he rfl (x := .ref it) rfl ?_)
  refine wpAny_bind (wpAny_nextOf_list_end hh hit hl hx fun h' x he' hx' => ?_)
  obtain ⟨o, ho, hc⟩ := hx'
  refine wpAny_bind (wpAny_isInstance (T := "StopIteration") (b := true) ⟨o, ho, hc⟩ isSubtype_stop ?_)
  exact wpAny_pure (hQ _ he')
theorem st_item {e it l S : Addr} {i : Nat} {items : Array Value} {x : Value} {Q : Option Value → Shared → Prop} (hst : EnSt s.heap e it l S i) (hl : s.heap.IsList l items) (hx : items[i]? = some x) (hne : e ≠ it) (hS : S < s.heap.objs.size)
    (hQ : ∀ h' tk, EnSt h' e it l S (i + 1) → (∃ t, h'.get? s.heap.objs.size = some { cls := .type "tuple", data := .seq #[.int i t, x] }) → h'.objs.size = s.heap.objs.size + 1 →
      (∀ b o, b ≠ e → b ≠ it → s.heap.get? b = some o → h'.get? b = some o) → Q (some (.ref s.heap.objs.size)) { s with heap := h', toks := tk }) :
    wpAny (model prog w) A (pyNext (.ref e)) Q E s := by
  have c1 : ((i + 1 : Nat) : Int) = (i : Int) + 1 := by omega
  obtain ⟨hit, he | ⟨y, T, f, oT, he, hT, hTe, hTi, hTS⟩⟩ := hst
  · have hel : e < s.heap.objs.size := Heap.lt_size he
    have hil : it < s.heap.objs.size := by obtain ⟨_, q, _⟩ := hit; exact Heap.lt_size q
    refine wpAny_pyNext_enum_item he hit hl hx hne fun h' ho hit' ht hz hk => hQ h' _ ⟨hit', .inr ⟨x, s.heap.objs.size, false, _, ?_, ht, Nat.ne_of_gt hel, Nat.ne_of_gt hil, Nat.ne_of_gt hS⟩⟩ ⟨_, ht⟩ hz hk
    unfold EnG; rw [c1]; exact ho
  · refine pn_out he hit hl hx hne hT hTe hTi fun h' ho hit' ht hz hk => hQ h' _ ⟨hit', .inr ⟨y, T, true, oT, ?_, hk T oT hTe hTi hT, hTe, hTi, hTS⟩⟩ ⟨_, ht⟩ hz hk
    unfold EnG; rw [c1]; exact ho
theorem st_done {e it l S : Addr} {i : Nat} {items : Array Value} {Q : Option Value → Shared → Prop} (hh : A.handled = none) (hst : EnSt s.heap e it l S i) (hl : s.heap.IsList l items) (hx : items[i]? = none)
    (hQ : ∀ h', Heap.ExtBut it s.heap h' → Q none { s with heap := h' }) : wpAny (model prog w) A (pyNext (.ref e)) Q E s := by
  obtain ⟨hit, he | ⟨y, T, f, oT, he, hT, hTe, hTi, hTS⟩⟩ := hst
  · exact wpAny_pyNext_enum_end hh he hit hl hx hQ
  · exact pn_end hh he hit hl hx hQ
theorem EnSt.keep {h h' : Heap} {e it l S : Addr} {i : Nat} (hst : EnSt h e it l S i) (k : ∀ b o, b ≠ S → h.get? b = some o → h'.get? b = some o) (hne : e ≠ S) (hni : it ≠ S) : EnSt h' e it l S i := by
  obtain ⟨hit, he | ⟨y, T, f, oT, he, hT, hTe, hTi, hTS⟩⟩ := hst
  · exact ⟨hit.at fun o q => k it o hni q, .inl (k e _ hne he)⟩
  · exact ⟨hit.at fun o q => k it o hni q, .inr ⟨y, T, f, oT, k e _ hne he, k T _ hTS hT, hTe, hTi, hTS⟩⟩
end

/-- the pairs (0, x0), (1, x1) .. at the addresses as, which lie above lo and rise -/
structure EnL (items : Array Value) (lo : Addr) (h : Heap) (as : List Addr) : Prop where
  rise : as.Pairwise (· < ·)
  above : ∀ a ∈ as, lo < a
  pairs : ∀ (j : Nat) (a : Addr), as[j]? = some a → ∃ (hj : j < items.size) (t : Tok), h.get? a = some { cls := .type "tuple", data := .seq #[.int j t, items[j]] }
theorem EnL.there {items : Array Value} {lo : Addr} {h : Heap} {as : List Addr} (g : EnL items lo h as) {a : Addr} (ha : a ∈ as) : a < h.objs.size := by
  obtain ⟨j, hj⟩ := List.mem_iff_getElem?.mp ha
  obtain ⟨_, _, e⟩ := g.pairs j a hj
  exact Heap.lt_size e

section
variable {prog : Program} {w : World} {A : Around} {s : Shared} {R : Result → Shared → Prop} {items : Array Value}
theorem loop {S e it l : Addr} (hh : A.handled = none) (hSe : e ≠ S) (hSi : it ≠ S) (hSl : l ≠ S) (hle : l ≠ e) (hli : l ≠ it) (hne : e ≠ it) (hn : items.size ≤ sizeLine) (res : Value) {h1 : Heap} (lo : Addr) (hloS : S ≤ lo) (hloe : e ≤ lo) (hloi : it ≤ lo)
    (hR : ∀ h' tk acc c as, (∀ b o, b ≠ S → b ≠ e → b ≠ it → h1.get? b = some o → h'.get? b = some o) → h'.get? S = some { cls := .type "list", dict := none, data := .seq acc c, slots := #[] } → as.length = items.size → EnL items lo h' as →
      acc.toList = as.map Value.ref → R (.ok (.ret res)) { s with heap := h', toks := tk }) :
    ∀ (k i : Nat) (h : Heap) (tk c : Nat) (acc : Array Value) (as : List Addr), items.size - i = k → i ≤ items.size → EnSt h e it l S i → h.IsList l items → (∀ b o, b ≠ S → b ≠ e → b ≠ it → h1.get? b = some o → h.get? b = some o) →
      h.get? S = some { cls := .type "list", dict := none, data := .seq acc c, slots := #[] } → acc.toList = as.map Value.ref → as.length = i → EnL items lo h as → lo < h.objs.size →
      codeAny (model prog w) A (.builtin "list.extend.loop" ⟨[.ref S, .ref e, res], []⟩) R { s with heap := h, toks := tk } := by
  intro k
  induction k with
  | zero =>
    intro i h tk c acc as hk hi hst hL hkeep hS hacc hal hG hIs
    refine codeAny_builtin PySem.F.entry_extend_loop ?_
    rw [Around.under_plainId PySem.F.plain_extend_loop _]
    show wpAny _ A.in1 (pyNext (.ref e) >>= _) _ _ _
    refine wpAny_bind (st_done (s := { s with heap := h, toks := tk }) (A := A.in1) hh hst hL (Array.getElem?_eq_none (by omega)) fun h' he => ?_)
    refine wpAny_pure (hR h' tk acc c as (fun b o h1 h2 h3 e => he b o h3 (hkeep b o h1 h2 h3 e)) (he S _ (Ne.symm hSi) hS) (by omega) ⟨hG.rise, hG.above, fun j a hj => ?_⟩ hacc)
    obtain ⟨hj', t, e3⟩ := hG.pairs j a hj
    exact ⟨hj', t, he a _ (Nat.ne_of_gt (Nat.lt_of_le_of_lt hloi (hG.above a (List.mem_of_getElem? hj)))) e3⟩
  | succ k ih =>
    intro i h tk c acc as hk hi hst hL hkeep hS hacc hal hG hIs
    have hlt : i < items.size := by omega
    have hsz : acc.size = i := by rw [← Array.length_toList, hacc, List.length_map, hal]
    refine codeAny_builtin PySem.F.entry_extend_loop ?_
    rw [Around.under_plainId PySem.F.plain_extend_loop _]
    show wpAny _ A.in1 (pyNext (.ref e) >>= _) _ _ _
    refine wpAny_bind (st_item (s := { s with heap := h, toks := tk }) (S := S) hst hL (Array.getElem?_eq_getElem hlt) hne (Heap.lt_size hS) fun h' tk' hst' ht hz hkp => ?_)
    obtain ⟨t, ht⟩ := ht
    dsimp only at ht hz hkp ⊢
    have hS' := hkp S _ (Ne.symm hSe) (Ne.symm hSi) hS
    have up : ∀ b o, b ≠ S → h'.get? b = some o → (h'.update S (Obj.mapSeq (·.push (Value.ref h.objs.size)))).get? b = some o := fun b o hb e => (Heap.get?_update_other _ _ (Ne.symm hb)).trans e
    have hSlt : S < h.objs.size := Heap.lt_size hS
    show wpAny _ A.in1 (updateSeq S (·.push (Value.ref h.objs.size)) >>= _) _ _ _
    refine wpAny_bind ?_
    refine wpAny_updateSeq hS' rfl (wpAny_pure ⟨plainId_quiet PySem.F.plain_extend_loop _, ih (i + 1) _ tk' _ (acc.push (Value.ref h.objs.size)) (as ++ [h.objs.size]) (by omega) hlt (hst'.keep up hSe hSi) (hL.at fun o q => up l o hSl (hkp l o hle hli q))
      (fun b o h1 h2 h3 q => up b o h1 (hkp b o h2 h3 (hkeep b o h1 h2 h3 q))) (Heap.get?_update_self _ hS' rfl) (by rw [Array.toList_push, hacc, List.map_append]; rfl) (by rw [List.length_append, hal]; rfl) ⟨?_, ?_, ?_⟩ ?_⟩) (by rw [hsz]; omega) (by show (acc.push (Value.ref h.objs.size)).size ≤ sizeLine + 1; rw [Array.size_push, hsz]; omega)
    · refine List.pairwise_append.mpr ⟨hG.rise, List.pairwise_singleton _ _, fun a ha b hb => ?_⟩
      rw [List.mem_singleton.mp hb]
      exact hG.there ha
    · intro a ha
      rcases List.mem_append.mp ha with ha | ha
      · exact hG.above a ha
      · rw [List.mem_singleton.mp ha]; exact hIs
    · intro j b hj
      rcases Nat.lt_trichotomy j as.length with h1 | h1 | h1
      · rw [List.getElem?_append_left h1] at hj
        obtain ⟨hj', t', e3⟩ := hG.pairs j b hj
        have hb := hG.above b (List.mem_of_getElem? hj)
        exact ⟨hj', t', up b _ (Nat.ne_of_gt (Nat.lt_of_le_of_lt hloS hb)) (hkp b _ (Nat.ne_of_gt (Nat.lt_of_le_of_lt hloe hb)) (Nat.ne_of_gt (Nat.lt_of_le_of_lt hloi hb)) e3)⟩
      · subst h1
        have hb : h.objs.size = b := by simpa using hj
        subst hb
        exact ⟨by omega, t, by subst hal; exact up _ _ (Nat.ne_of_gt hSlt) ht⟩
      · have hnone : (as ++ [h.objs.size])[j]? = none := List.getElem?_eq_none (by rw [List.length_append, List.length_singleton]; omega)
        rw [hnone] at hj; cases hj
    · have e : (h'.update S (Obj.mapSeq (·.push (Value.ref h.objs.size)))).get? h.objs.size = _ := up _ _ (Nat.ne_of_gt hSlt) ht
      exact Nat.lt_trans hIs (Heap.lt_size e)
end
section
variable {prog : Program} {w : World} {A : Around} {E : Value → Shared → Prop} {s : Shared} {e it l : Addr} {items : Array Value}
theorem extend {R : Result → Shared → Prop} (hh : A.handled = none) (he : IsEnum s.heap e it 0 .none) (hit : s.heap.IsListIter it l 0) (hl : s.heap.IsList l items) (hne : e ≠ it) (hle : l ≠ e) (hli : l ≠ it) (S : Addr) (hSe : e ≠ S) (hSi : it ≠ S) (hSl : l ≠ S) (heS : e < S) (hiS : it < S) (hS : s.heap.get? S = some { cls := .type "list", data := .seq #[] })
    (hR : ∀ h' tk acc c as, (∀ b o, b ≠ S → b ≠ e → b ≠ it → s.heap.get? b = some o → h'.get? b = some o) → h'.get? S = some { cls := .type "list", dict := none, data := .seq acc c, slots := #[] } → as.length = items.size → EnL items S h' as →
      acc.toList = as.map Value.ref → R (.ok (.ret .none)) { s with heap := h', toks := tk }) (hn : items.size ≤ sizeLine) (c0 : Nat) (hS : s.heap.get? S = some { cls := .type "list", data := .seq #[] c0 }) :
    wpAny (model prog w) A.in1 (Builtin.List.listExtendWith (.ref S) (.ref e) .none)
      (fun fin s' => match fin with | .done f => R (.ok f) s' | .again c' => c'.quiet = true ∧ codeAny (model prog w) A c' R s') (fun e s' => R (.error e) s') s := by
  have hT : s.TypeIs (.ref e) "enumerate" := ⟨_, he, rfl⟩
  unfold Builtin.List.listExtendWith
  refine wpAny_bind (wpAny_typeOf hT ?_)
  have h1 : Builtin.List.listSameRef (.ref S) (.ref e) = false := by simp [Builtin.List.listSameRef, Ne.symm hSe]
  have h2 : (Value.type "enumerate" == Value.type "list") = false := by decide
  have h3 : (Value.type "enumerate" == Value.type "tuple") = false := by decide
  simp only [h1, h2, h3, Bool.or_false, Bool.false_eq_true, if_false]
  refine wpAny_bind (wpAny_pyIter_enum he ?_)
  refine wpAny_bind (wpAny_holding ?_)
  unfold Builtin.List.listLengthHint
  refine wpAny_bind (wpAny_specialOf hT no_len ?_)
  show wpAny _ A.in1 (specialOf (Value.ref e) (Str.ofString "__length_hint__") >>= _) _ _ _
  refine wpAny_bind (wpAny_specialOf hT no_hint ?_)
  refine wpAny_pure ?_
  show wpAny _ A.in1 (rule "list.extend.makes-room" >>= fun _ => Builtin.List.listTouch (.ref S) >>= fun _ => again (.builtin "list.extend.loop" ⟨[.ref S, .ref e, .none], []⟩)) _ _ _
  refine wpAny_bind (wpAny_rule ?_)
  refine wpAny_bind ?_
  show wpAny _ A.in1 (updateSeq S (·.push .none) >>= fun _ => updateSeq S (·.pop)) _ _ _
  refine wpAny_bind (wpAny_updateSeq hS rfl ?_)
  have hS2 := Heap.get?_update_self (Obj.mapSeq (·.push Value.none)) hS rfl
  refine wpAny_updateSeq (hz := by seq_fits) hS2 rfl ?_
  have hS3 := Heap.get?_update_self (Obj.mapSeq (·.pop)) hS2 rfl
  have oth : ∀ b o, b ≠ S → s.heap.get? b = some o → ((s.heap.update S (Obj.mapSeq (·.push Value.none))).update S (Obj.mapSeq (·.pop))).get? b = some o :=
    fun b o hb e => (Heap.get?_update_other _ _ (Ne.symm hb)).trans ((Heap.get?_update_other _ _ (Ne.symm hb)).trans e)
  refine wpAny_pure ⟨plainId_quiet F.plain_extend_loop _, loop (s := s) (h1 := s.heap) (items := items) hh hSe hSi hSl hle hli hne hn .none S (Nat.le_refl _) (Nat.le_of_lt heS) (Nat.le_of_lt hiS) hR items.size 0 _ _ _ #[] [] (Nat.sub_zero _) (Nat.zero_le _) ?_ (hl.at fun o q => oth l o hSl q)
    (fun b o hb _ _ q => oth b o hb q) hS3 rfl rfl ⟨List.Pairwise.nil, (fun _ ha => nomatch ha), (fun j a hj => by simp at hj)⟩ (Heap.lt_size hS3)⟩
  exact EnSt.keep (h := s.heap) ⟨hit, .inl he⟩ oth hSe hSi
theorem init {R : Result → Shared → Prop} (hh : A.handled = none) (he : IsEnum s.heap e it 0 .none) (hit : s.heap.IsListIter it l 0) (hl : s.heap.IsList l items) (hne : e ≠ it) (hle : l ≠ e) (hli : l ≠ it) (S : Addr) (hSe : e ≠ S) (hSi : it ≠ S) (hSl : l ≠ S) (heS : e < S) (hiS : it < S) (hS : s.heap.get? S = some { cls := .type "list", data := .seq #[] })
    (hR : ∀ h' tk acc c as, (∀ b o, b ≠ S → b ≠ e → b ≠ it → s.heap.get? b = some o → h'.get? b = some o) → h'.get? S = some { cls := .type "list", dict := none, data := .seq acc c, slots := #[] } → as.length = items.size → EnL items S h' as →
      acc.toList = as.map Value.ref → R (.ok (.ret .none)) { s with heap := h', toks := tk }) (hn : items.size ≤ sizeLine) :
    wpAny (model prog w) A.in1 (Builtin.«list.__init__» ⟨[.ref S, .ref e], []⟩)
      (fun fin s' => match fin with | .done f => R (.ok f) s' | .again c' => c'.quiet = true ∧ codeAny (model prog w) A c' R s') (fun e s' => R (.error e) s') s := by
  show wpAny _ _ (do let old ← Builtin.List.listItems (.ref S); Builtin.List.listUpdate (.ref S) (fun _ => #[]); letGo old.toList.reverse; Builtin.List.listExtendWith (.ref S) (.ref e) .none) _ _ s
  refine wpAny_bind ?_
  unfold Builtin.List.listItems
  refine wpAny_bind (wpAny_seqItems hS rfl (wpAny_pure ?_))
  show wpAny _ _ (updateSeq S (fun _ => #[]) >>= fun _ => letGo (#[] : Array Value).toList.reverse >>= fun _ => Builtin.List.listExtendWith (.ref S) (.ref e) .none) _ _ s
  refine wpAny_bind (wpAny_updateSeq hS rfl ?_)
  have hS2 := Heap.get?_update_self (Obj.mapSeq (fun _ => (#[] : Array Value))) hS rfl
  have oth : ∀ b o, b ≠ S → s.heap.get? b = some o → (s.heap.update S (Obj.mapSeq (fun _ => (#[] : Array Value)))).get? b = some o :=
    fun b o hb e => (Heap.get?_update_other _ _ (Ne.symm hb)).trans e
  refine wpAny_bind (wpAny_letGo ?_)
  exact extend hh (oth e _ hSe he) (hit.at fun o q => oth it o hSi q) (hl.at fun o q => oth l o hSl q) hne hle hli S hSe hSi hSl heS hiS hS2 (fun h' tk acc c as hk hS' hl hG hacc => hR h' tk acc c as (fun b o hb h2 h3 e => hk b o hb h2 h3 (oth b o hb e)) hS' hl hG hacc) hn _ hS2
/-- list(enumerate(l)), the enumerate object just made -/
theorem call_list {Q : Value → Shared → Prop} (hh : A.handled = none) (he : IsEnum s.heap e it 0 .none) (hit : s.heap.IsListIter it l 0) (hl : s.heap.IsList l items) (hne : e ≠ it) (hle : l ≠ e) (hli : l ≠ it) (hn : items.size ≤ sizeLine)
    (hQ : ∀ h' tk acc c as, (∀ b o, b ≠ e → b ≠ it → s.heap.get? b = some o → h'.get? b = some o) → h'.get? s.heap.objs.size = some { cls := .type "list", dict := none, data := .seq acc c, slots := #[] } → as.length = items.size → EnL items s.heap.objs.size h' as →
      acc.toList = as.map Value.ref → Q (.ref s.heap.objs.size) { s with heap := h', toks := tk }) :
    wpAny (model prog w) A (call (.type "list") [.ref e]) Q E s := by
  refine callType_codes (Q₁ := fun obj s₁ => obj = .ref s.heap.objs.size ∧ s₁ = { s with heap := s.heap.push { cls := .type "list", data := .seq #[] } }) PySem.F.called_list (PySem.F.typeCall_list_1 _) PySem.F.entry_list_init
    (code_list_new _ ⟨rfl, rfl⟩) fun obj s₁ h₁ => ?_
  obtain ⟨rfl, rfl⟩ := h₁
  have hS : (s.heap.push { cls := .type "list", data := .seq #[] }).get? s.heap.objs.size = some { cls := .type "list", data := .seq #[] } := Heap.get?_push_size _ rfl
  have h1 : e < s.heap.objs.size := Heap.lt_size he
  have h2 : it < s.heap.objs.size := let ⟨_, ho, _⟩ := hit; Heap.lt_size ho
  have h3 : l < s.heap.objs.size := let ⟨_, ho, _⟩ := hl; Heap.lt_size ho
  refine ⟨⟨_, hS, rfl⟩, PySem.F.args_list_init_2 _ _, init (items := items) (A := A.in1) hh (Heap.get?_push_of_some _ he) (hit.at fun o q => Heap.get?_push_of_some _ q) (hl.at fun o q => Heap.get?_push_of_some _ q) hne hle hli _ (Nat.ne_of_lt h1) (Nat.ne_of_lt h2) (Nat.ne_of_lt h3) h1 h2 hS (fun h' tk acc c as hk hS' hl hG hacc => ?_) hn⟩
  exact ⟨rfl, hQ h' tk acc c as (fun b o g1 g2 e => hk b o (Nat.ne_of_lt (Heap.lt_size e)) g1 g2 (Heap.get?_push_of_some _ e)) hS' hl hG hacc⟩
end
end Enu

namespace Go
open PySem PySem.Spec PyProof.Rows L2

theorem strs_vals (l : List Nat) {acc : Array Value} (h : ItemsOf (SignAt (S l)) acc l.length) : Vals (l.map fun c => V.str (S [c])) acc.toList := by
  have key : ∀ (n : Nat) (l : List Nat) (vs : List Value), vs.length = l.length → (∀ (j : Nat) v, vs[j]? = some v → ∃ c u, l[j]? = some c ∧ v = Value.str ⟨#[c]⟩ u) → l.length = n → Vals (l.map fun c => V.str (S [c])) vs := by
    intro n
    induction n with
    | zero =>
      intro l vs h1 h2 h3
      cases l with
      | nil =>
        cases vs with
        | nil => exact .nil
        | cons a b => simp at h1
      | cons a b => simp at h3
    | succ n ih =>
      intro l vs h1 h2 h3
      cases l with
      | nil => simp at h3
      | cons c l =>
        cases vs with
        | nil => simp at h1
        | cons v vs =>
          obtain ⟨c', u, e1, e2⟩ := h2 0 v rfl
          have e1 : c = c' := Option.some.inj e1
          subst e1
          refine .cons ⟨u, e2⟩ (ih l vs (by simpa using h1) (fun j v hv => h2 (j + 1) v hv) (by simpa using h3))
  refine key l.length l acc.toList (by rw [Array.length_toList]; exact h.1) (fun j v hv => ?_) rfl
  obtain ⟨c, u, e1, e2⟩ := h.2 j v (by simpa using hv)
  exact ⟨c, u, by simpa [S] using e1, e2⟩
theorem S_size (l : List Nat) : (S l).cps.size = l.length := by simp [S]
theorem repFold (n : Nat) (l : List Nat) : (List.replicate n (S l).cps).foldl (· ++ ·) #[] = (List.replicate n l).flatten.toArray := by
  have key : ∀ (n : Nat) (a : List Nat), (List.replicate n (S l).cps).foldl (· ++ ·) a.toArray = (a ++ (List.replicate n l).flatten).toArray := by
    intro n
    induction n with
    | zero => intro a; simp
    | succ n ih =>
      intro a
      rw [List.replicate_succ, List.foldl_cons]
      have e : (a.toArray ++ (S l).cps) = (a ++ l).toArray := by simp [S]
      rw [e, ih (a ++ l), List.replicate_succ, List.flatten_cons, List.append_assoc]
  simpa using key n []

section
variable {X : Cx} {P : Program} {w : World} {K : PySem.W.Frag} {mg : Str → Option Value} {base : Heap} {N : List Str} {nm : List (Str × NameKind)} {j : Nat} {σ σ' : L2.St} {H G : Hp} {Q : VK} {C : List (Addr × HO)} {pos p p2 : Pos} {e : Expr}

/-- list of a text -/
theorem c_listS (c : CI X P w K mg base N nm j) {z : List Nat} (hz : z.length ≤ 1000000) (h : ∀ r H', New H r (.lst (z.map fun c => V.str (S [c]))) H' → Q (.ref r) H') : cS X (.type "list") [.str (S z)] H Q := by
  refine ⟨fun vs H Q => ∃ z : List Nat, z.length ≤ 1000000 ∧ vs = [.str (S z)] ∧ ∀ r, H r = none → Q (.ref r) (upd H r (.lst (z.map fun c => V.str (S [c])))), ?_, z, hz, rfl, fun r hr => h r _ ⟨hr, rfl⟩⟩
  intro pins s σ H xs us Q I r h
  obtain ⟨z, hz, rfl, q⟩ := h
  cases r with
  | cons r rr =>
    cases rr
    obtain ⟨t, rfl⟩ := r
    have hs : (S z).cps.size ≤ sizeLine := by rw [S_size]; exact sz_le hz
    refine call_list_str (hn := hs) (I.ok.hd c.calm) (S z) t fun h' tk acc c' hk hS hacc => ?_
    rw [S_size] at hacc
    have v := strs_vals z hacc
    refine ⟨.ref _, _, I.laid (t' := tk) (o := .lst (z.map fun c => V.str (S [c]))) hk (Nat.le_refl _) ⟨?_, acc.toList, c', v, ?_⟩, rfl, q _ (I.hok.fresh (Nat.le_refl _))⟩
    · rw [List.length_map]; exact sz_le hz
    · rw [Array.toArray_toList]; exact hS
/-- a text so many times -/
theorem o_repS {z : List Nat} {n : Int} (h1 : 0 ≤ n) (h2 : z.length * n.toNat ≤ 1000000) (h3 : n ≤ 1000000) (h : Q (.str (S (List.replicate n.toNat z).flatten)) H) : oS X (binaryOp .Mult) (.str (S z)) (.int n) H Q := by
  refine ⟨fun x y H Q => ∃ (z : List Nat) (n : Int), x = .str (S z) ∧ y = .int n ∧ 0 ≤ n ∧ z.length * n.toNat ≤ 1000000 ∧ n ≤ 1000000 ∧ Q (.str (S (List.replicate n.toNat z).flatten)) H, ?_, z, n, rfl, rfl, h1, h2, h3, h⟩
  intro pins s σ H x y v u Q I rx ry h
  obtain ⟨z, n, rfl, rfl, h1, h2, h3, q⟩ := h
  obtain ⟨t, rfl⟩ := rx
  obtain ⟨t', rfl⟩ := ry
  have hlen : (S z).length = z.length := S_len z
  have fin : ∀ (y : Str) t' s', y = S (List.replicate n.toNat z).flatten → Inv X pins σ H s' → EP X pins σ Q (.str y t') s' := fun y t' s' e I' => ⟨.str _, H, I', ⟨t', by rw [e]⟩, q⟩
  refine P.mul_str ?_ (fun a b => ?_) (fun a b => ?_) ?_
  · rw [decide_eq_false (by omega), decide_eq_false (by omega)]; rfl
  · rw [hlen]
    have hn : 0 < n := by omega
    intro hgt
    have h4 : ((2 ^ 63 - 1 : Int)) / n < (z.length : Int) := hgt
    have h5 := (Int.ediv_lt_iff_lt_mul hn).mp h4
    have h6 : (z.length : Int) * n ≤ 1000000 := by
      have : ((z.length * n.toNat : Nat) : Int) ≤ 1000000 := by omega
      rw [Int.natCast_mul, Int.toNat_of_nonneg h1] at this
      exact this
    omega
  · rw [hlen]
    have : ¬ (z.length * n.toNat > sizeLine) := by have := sz_le h2; omega
    exact decide_eq_false this
  · by_cases hn : n < 1
    · rw [if_pos hn]
      have e : n = 0 := by omega
      subst e
      exact ⟨by decide, fin _ _ _ (by rfl) (I.tok _)⟩
    · rw [if_neg hn]
      by_cases hc : (n == 1 || (S z).length == 0) = true
      · rw [if_pos hc]
        refine fin _ _ _ ?_ I
        simp only [Bool.or_eq_true, beq_iff_eq] at hc
        rcases hc with hc | hc
        · subst hc; simp
        · rw [hlen] at hc
          have : z = [] := List.length_eq_zero_iff.mp hc
          subst this
          simp
      · rw [if_neg hc, repFold]
        exact ⟨by
          show (S ((List.replicate n.toNat z).flatten)).length ≤ sizeLine
          rw [S_len, List.length_flatten, List.map_replicate, List.sum_replicate_nat, Nat.mul_comm]
          exact sz_le h2, fin _ _ _ rfl (I.tok _)⟩
/-- what list(enumerate(x)) asks: a new list at r of new pairs at ts -/
def EnumK (K : PySem.W.Frag) (H1 : Hp) (x : V) (Q : VK) : Prop := ∃ q xs, x = .ref q ∧ SqL K H1 q xs ∧ ∀ (H' : Hp) (r : Addr) (ts : List Addr), Same H1 H' → ts.length = xs.length → H1 r = none → (∀ t ∈ ts, H1 t = none) → H' r = some (.lst (ts.map V.ref)) → (∀ (i : Nat) (t : Addr) (x : V), ts[i]? = some t → xs[i]? = some x → H' t = some (.tup [.int (i : Nat), x])) → r ∉ ts → Q (.ref r) H'
/-- tuples laid at their addresses -/
def putE : Hp → List Addr → List V → Nat → Hp
  | H, a :: as, x :: xs, i => putE (upd H a (.tup [.int (i : Nat), x])) as xs (i + 1)
  | H, _, _, _ => H
theorem putE_off {b : Addr} : ∀ (as : List Addr) (xs : List V) (i : Nat) (H : Hp), b ∉ as → putE H as xs i b = H b
  | [], _, _, _, _ => rfl
  | _ :: _, [], _, _, _ => rfl
  | a :: as, x :: xs, i, H, h => by
    show putE (upd H a (.tup [.int (i : Nat), x])) as xs (i + 1) b = H b
    rw [putE_off as xs _ _ (fun z => h (List.mem_cons_of_mem _ z)), upd_ne (fun z => h (by rw [z]; exact List.mem_cons_self))]
theorem putE_at : ∀ (as : List Addr) (xs : List V) (i : Nat) (H : Hp), as.Nodup → ∀ (k : Nat) (t : Addr) (x : V), as[k]? = some t → xs[k]? = some x → putE H as xs i t = some (.tup [.int ((i + k : Nat) : Int), x])
  | [], _, _, _, _, k, t, x, h, _ => by simp at h
  | _ :: _, [], _, _, _, k, t, x, _, h => by simp at h
  | a :: as, y :: xs, i, H, hn, 0, t, x, h1, h2 => by
    have e1 : a = t := Option.some.inj h1
    have e2 : y = x := Option.some.inj h2
    subst e1 e2
    show putE (upd H a (.tup [.int (i : Nat), y])) as xs (i + 1) a = _
    rw [putE_off as xs _ _ (List.nodup_cons.mp hn).1, upd_same]
    rfl
  | a :: as, y :: xs, i, H, hn, k + 1, t, x, h1, h2 => by
    show putE (upd H a (.tup [.int (i : Nat), y])) as xs (i + 1) t = _
    rw [putE_at as xs (i + 1) _ (List.nodup_cons.mp hn).2 k t x h1 h2, show i + 1 + k = i + (k + 1) by omega]
theorem vals_refs : ∀ as : List Addr, Vals (as.map V.ref) (as.map Value.ref)
  | [] => .nil
  | _ :: as => .cons rfl (vals_refs as)
/-- list(enumerate(l)) -/
theorem e_listEnum (c : CI X P w K mg base N nm j) {pe : Pos} (g1 : glB nm "list" = true) (m1 : mg "list" = none) (g2 : glB nm "enumerate" = true) (m2 : mg "enumerate" = none) (hs : starEach [e] X.env = [(false, eval e X.env)])
    (hs2 : starEach [.Call (.Name "enumerate" p2) [e] [] pe] X.env = (false, eval (.Call (.Name "enumerate" p2) [e] [] pe) X.env) :: starEach [] X.env)
    (h : eS X e σ H fun x H1 => EnumK K H1 x Q) : eS X (.Call (.Name "list" p) [.Call (.Name "enumerate" p2) [e] [] pe] [] pos) σ H Q := by
  refine ⟨fun σ H Q => eS X e σ H fun x H1 => EnumK K H1 x Q, ⟨fun pins s σ H Q I hq => ?_⟩, h⟩
  have eK := c.K
  subst eK
  refine wpAny_Call_Name_kw (ld_blt I (c.gl g1) (by rw [c.mg]; exact m1) (u := .type "list") (by decide +kernel) ?_)
  refine PyProof.Rows.callWith_type1 ?_ hs2 rfl
  rw [hs2]
  show wpAny _ _ (spliced ((false, eval (.Call (.Name "enumerate" p2) [e] [] pe) X.env) :: backTo pos (starEach [] X.env))) _ _ s
  refine Calls.spliced_cons ?_
  refine Call_ (ld_blt I (c.gl g2) (by rw [c.mg]; exact m2) boot_enumerate (PyProof.Rows.callWith_type1 (thn ((pa_cons eS_is pa_nil hs).run pe pins s σ H (fun vs H1 => ∃ x, vs = [x] ∧ EnumK X.K H1 x Q) I (eS_mono hq fun x H1 q => ⟨x, rfl, q⟩)) fun us s1 q1 => ?_) hs rfl))
  obtain ⟨vs, H1, I1, r1, x, rfl, q, xs, rfl, hqx, k⟩ := q1
  cases r1 with
  | cons r rr =>
    cases rr
    cases r
    obtain ⟨its, rv, pl, hz⟩ := I1.list hqx
    have lx := rv.length
    refine call_enumerate_list pl.isList fun h' he hit hsz hk => ?_
    refine Calls.spliced_nil ?_
    have I2 : Inv X pins σ H1 { s1 with heap := h' } := I1.kept (t' := s1.toks) hk
    have ql : q < s1.heap.objs.size := by obtain ⟨_, e, _⟩ := pl.isList; exact Heap.lt_size e
    refine Enu.call_list (s := { s1 with heap := h' }) (I2.ok.hd c.calm) (by simpa using he) (by simpa using hit) (pl.isList.at fun o z => hk q o z) (Nat.succ_ne_self _) (Nat.ne_of_lt (Nat.lt_succ_of_lt ql)) (Nat.ne_of_lt ql) (by rw [List.size_toArray, ← lx]; exact hz) fun h2 tk acc c2 as hk2 hS hl hG hacc => ?_
    have hS0 : h'.objs.size = s1.heap.objs.size + 2 := hsz
    have hl' : as.length = xs.length := by rw [hl, List.size_toArray, lx]
    have hSn : h'.objs.size ∉ as := fun z => Nat.lt_irrefl _ (hG.above _ z)
    have nd : as.Nodup := List.Pairwise.imp (fun {a b} (h : a < b) => Nat.ne_of_lt h) hG.rise
    have hk3 : ∀ b o, s1.heap.get? b = some o → h2.get? b = some o := fun b o z => hk2 b o (Nat.ne_of_lt (Nat.lt_succ_of_lt (Heap.lt_size z))) (Nat.ne_of_lt (Heap.lt_size z)) (hk b o z)
    have hle : s1.heap.objs.size ≤ h'.objs.size := by omega
    have new : ∀ t ∈ as, H1 t = none := fun t ht => I1.hok.fresh (Nat.le_of_lt (Nat.lt_of_le_of_lt hle (hG.above t ht)))
    have newS : H1 h'.objs.size = none := I1.hok.fresh (by omega)
    have atP := putE_at as xs 0 (upd H1 h'.objs.size (.lst (as.map V.ref))) nd
    have off : ∀ b, b ∉ as → b ≠ h'.objs.size → putE (upd H1 h'.objs.size (.lst (as.map V.ref))) as xs 0 b = H1 b := fun b h1 h2 => by rw [putE_off as xs _ _ h1, upd_ne h2]
    have kp : ∀ b u, H1 b = some u → (putE (upd H1 h'.objs.size (.lst (as.map V.ref))) as xs 0) b = some u := fun b u e => by
      rw [off b (fun z => by rw [new b z] at e; cases e) (fun z => by rw [z, newS] at e; cases e)]
      exact e
    have eS' : putE (upd H1 h'.objs.size (.lst (as.map V.ref))) as xs 0 h'.objs.size = some (.lst (as.map V.ref)) := by rw [putE_off as xs _ _ hSn, upd_same]
    refine ⟨.ref _, putE (upd H1 h'.objs.size (.lst (as.map V.ref))) as xs 0, ?_, rfl, k _ _ as kp hl' newS new eS' (fun i t x h1 h2 => by have := atP i t x h1 h2; rwa [Nat.zero_add] at this) hSn⟩
    refine I1.call' (ch := []) rfl ⟨fun b o q _ _ _ => hk3 b o q, fun b o q _ _ _ => ⟨o.slots, hk3 b o q⟩, fun b o q n _ => ?_, fun b o q _ => ⟨o, hk3 b o q⟩, fun b xs q => kp b _ q, fun b o u q => kp b _ q, fun b ps q => ⟨#[], by rw [kp b _ q]; simp⟩⟩ (fun b u q => ?_) I1.bare fun b z => by simp at z
    · have z1 : b ∉ as := fun z => absurd (Nat.lt_trans (Heap.lt_size q) (Nat.lt_of_le_of_lt hle (hG.above b z))) (Nat.lt_irrefl _)
      have z2 : b ≠ h'.objs.size := fun z => absurd (Nat.lt_of_lt_of_le (Heap.lt_size q) hle) (by rw [z]; exact Nat.lt_irrefl _)
      rw [off b z1 z2]
      exact n
    · by_cases hb : b ∈ as
      · obtain ⟨jx, hj⟩ := List.mem_iff_getElem?.mp hb
        obtain ⟨hj', t, f1⟩ := hG.pairs jx b hj
        have hjx : jx < xs.length := by rw [← hl']; exact (List.getElem?_eq_some_iff.mp hj).1
        have e3 := atP jx b xs[jx] hj (List.getElem?_eq_getElem hjx)
        rw [e3] at q
        cases q
        obtain ⟨qv, g1, g2⟩ := rv.get (List.getElem?_eq_getElem hjx)
        have g3 : its.toArray[jx] = qv := by
          have := List.getElem?_eq_some_iff.mp g1
          simpa using this.2
        rw [g3] at f1
        refine ⟨by show 2 ≤ sizeLine; decide, [.int jx t, qv], .cons ⟨t, by rw [Nat.zero_add]⟩ (.cons g2 .nil), ⟨_, f1, rfl, _, rfl⟩⟩
      · by_cases hb2 : b = h'.objs.size
        · rw [hb2] at q ⊢
          rw [eS'] at q
          cases q
          refine ⟨by rw [List.length_map]; omega, acc.toList, c2, by rw [hacc]; exact vals_refs as, ?_⟩
          rw [Array.toArray_toList]
          exact hS
        · rw [off b hb hb2] at q
          exact (I1.hok b u q).stay (fun d v _ y => hk3 d v y) (fun d y => kp d _ y) fun d xs y => kp d _ y
end
end Go

namespace Go
open PySem PySem.Spec PyProof.Rows L2

/-- texts put one behind another with sep between -/
def joinL (sep : List Nat) : List (List Nat) → List Nat
  | [] => []
  | [x] => x
  | x :: y :: r => x ++ sep ++ joinL sep (y :: r)
theorem joinL_nil : ∀ l : List (List Nat), joinL [] l = l.flatten
  | [] => rfl
  | [x] => by simp [joinL]
  | x :: y :: r => by rw [joinL, joinL_nil (y :: r)]; simp
theorem join_S (sep : List Nat) : ∀ l : List (List Nat), Str.join (S sep) (l.map S) = S (joinL sep l)
  | [] => by rfl
  | [x] => by rfl
  | x :: y :: r => by
    show S x ++ S sep ++ Str.join (S sep) ((y :: r).map S) = S (joinL sep (x :: y :: r))
    rw [join_S sep (y :: r), S_app, S_app]
    rfl
theorem glued_S (sep : List Nat) (l : List (List Nat)) : Txt.join (S sep) (l.map S) = S (joinL sep l) := by
  have e : Txt.join (S sep) (l.map S) = Str.join (S sep) (l.map S) := by
    first
    | rfl
    | exact PySem.StrLaws.glued_eq_join _ _
    | exact PySem.glued_eq_join _ _
  rw [e, join_S]

section
variable {X : Cx} {P : Program} {w : World} {K : PySem.W.Frag} {mg : Str → Option Value} {base : Heap} {N : List Str} {nm : List (Str × NameKind)} {j : Nat} {σ σ' : L2.St} {H G : Hp} {Q : VK} {C : List (Addr × HO)} {pos p p2 : Pos} {e : Expr}
theorem m_join (c : CI X P w K mg base N nm j) {sep : List Nat} {ls : List (List Nat)} {q : Addr} (hq : SqL K H q (ls.map fun l => V.str (S l))) (hl : (ls.map (·.length)).sum + ls.length * sep.length ≤ 1000000) (h : Q (.str (S (joinL sep ls))) H) : mS X "str.join" (.str (S sep)) [.ref q] H Q := by
  have eK := c.K
  subst eK
  refine ⟨_, mt_join, S sep, q, ls.map S, rfl, rfl, .inl (by rw [List.map_map]; exact hq), ?_, by rw [glued_S]; exact h⟩
  have e : (ls.map S).map (·.length) = ls.map (·.length) := by rw [List.map_map]; exact List.map_congr_left fun x _ => S_len x
  rw [e, List.length_map, S_len]
  exact Nat.le_trans hl (by decide)
theorem pick_rev (z : List Nat) : (Builtin.Str.strSliceIndices none none (-1) (S z).length).filterMap ((S z).cps[·]?) = z.reverse := by
  have e1 : Builtin.Str.strSliceIndices none none (-1) (S z).length = sliceRange (((S z).length : Int) - 1) (-1) (-1) := rfl
  rw [e1, PySem.W.krv_sliceRange, S_len]
  have h := PySem.W.krv_all (S z).cps
  have h2 := PySem.W.krv_range z.length
  rw [S_size] at h
  rw [h2, List.filterMap_reverse, h]
  simp [S]
/-- e[::-1], a list or a text -/
def RevK (K : PySem.W.Frag) (H1 : Hp) (x : V) (Q : VK) : Prop := (∃ a xs, x = .ref a ∧ SqL K H1 a xs ∧ ∀ p, H1 p = none → Q (.ref p) (upd H1 p (.lst xs.reverse))) ∨ ∃ z : List Nat, x = .str (S z) ∧ z.length ≤ 1000000 ∧ Q (.str (S z.reverse)) H1
theorem e_revS {k : Nat} {p1 p2 p3 pos : Pos} (h : eS X e σ H fun x H1 => ∃ z : List Nat, x = .str (S z) ∧ z.length ≤ 1000000 ∧ Q (.str (S z.reverse)) H1) : eS X (.Subscript e (.Slice none none (some (.UnaryOp .USub (.Constant (.int 1) k p1) p2)) p3) pos) σ H Q := by
  refine ⟨fun σ H Q => eS X e σ H fun x H1 => ∃ z : List Nat, x = .str (S z) ∧ z.length ≤ 1000000 ∧ Q (.str (S z.reverse)) H1, ⟨fun pins s σ H Q I h => ?_⟩, h⟩
  refine Subscript_ (thn (eS_is.run pins s σ H _ I h) fun v s1 ⟨x, H1, I1, r1, z, ex, hz, q⟩ => ?_)
  subst ex
  obtain ⟨t, rfl⟩ := r1
  have hst : PO X (some (.UnaryOp .USub (.Constant (.int 1) k p1) p2)) (tPart (tUn (rU fun i => .int (-i)) (tC (.int 1)))) := po_some (pe_un un_neg pe_int)
  refine wpAny_Slice (thn (po_none.run pins s1 σ H1 (fun o H2 => o = none ∧ H2 = H1) I1 ⟨rfl, rfl⟩) fun vl s2 ⟨l, H2, I2, pl, el, e2⟩ => ?_)
  subst el e2
  refine thn (po_none.run pins s2 σ H2 (fun o H3 => o = none ∧ H3 = H2) I2 ⟨rfl, rfl⟩) fun vu s3 ⟨u, H3, I3, pu, eu, e3⟩ => ?_
  subst eu e3
  refine thn (hst.run pins s3 σ H3 (fun o H4 => o = some (-1) ∧ H4 = H3) I3 ⟨1, rfl, -1, rfl, rfl, rfl⟩) fun vs s4 ⟨o, H4, I4, ps, eo, e4⟩ => ?_
  subst eo e4
  have I5 : Inv X pins σ H4 { s4 with heap := s4.heap.push { cls := .type "slice", data := .fields #[vl, vu, vs] } } := I4.kept (t' := s4.toks) fun b ob q => Heap.get?_push_of_some _ q
  show wpAny (model X.prog X.w) X.A (subscriptTail e (.Slice none none (some (.UnaryOp .USub (.Constant (.int 1) k p1) p2)) p3) (.str (S z) t) (.ref s4.heap.objs.size)) (EP X pins σ Q) X.xe { s4 with heap := s4.heap.push { cls := .type "slice", data := .fields #[vl, vu, vs] } }
  refine tail_any (ops := [.ref s4.heap.objs.size, .str (S z) t]) (typeIs_str _ _ _) PySem.F.slot_str_getitem.lookup ?_ (by with_unfolding_all rfl)
  obtain ⟨l', rfl, hl'⟩ := IsPart.raw pl
  obtain ⟨u', rfl, hu'⟩ := IsPart.raw pu
  obtain ⟨s', rfl, hs'⟩ := IsPart.raw ps
  cases l' with
  | some a => cases hl'
  | none =>
    cases u' with
    | some a => cases hu'
    | none =>
      cases s' with
      | none => cases hs'
      | some a =>
        have ha : a.1 = -1 := Option.some.inj hs'
        refine wpAny_getItem_str_slice (l := none) (u := none) (st := some a) ⟨_, Heap.get?_push_size _ rfl, rfl, rfl⟩ (by show (a.1 == 0) = false; rw [ha]; rfl) ?_
        show Made.post (if (a.1 == 1 && (Builtin.Str.strSliceIndices none none a.1 (S z).length).length == (S z).length) = true then Made.val (.str (S z) t) else Made.str ⟨((Builtin.Str.strSliceIndices none none a.1 (S z).length).filterMap ((S z).cps[·]?)).toArray⟩) (EP X pins σ Q) _
        rw [ha, if_neg (by simp), pick_rev]
        refine ⟨?_, .str _, H4, I5.tok _, ⟨_, rfl⟩, q⟩
        show (S z.reverse).length ≤ sizeLine
        rw [S_len, List.length_reverse]
        exact sz_le hz
end
end Go

namespace Go
open PySem PySem.Spec PyProof.Rows L2

section
variable {G H : Hp} {C : List (Addr × HO)} {p : Addr} {o : HO} {a b : Addr × HO} {K : PySem.W.Frag} {xs : List V}
theorem Own.at2 (O : Own G (a :: (p, o) :: C) H) : H p = some o := (O.own _ (List.mem_cons_of_mem _ List.mem_cons_self)).1
theorem Own.at3 (O : Own G (a :: b :: (p, o) :: C) H) : H p = some o := (O.own _ (List.mem_cons_of_mem _ (List.mem_cons_of_mem _ List.mem_cons_self))).1
theorem same_sqt {G H : Hp} (s : Same G H) (h : SqT K G p xs) : SqT K H p xs := by
  rcases h with (h | ⟨o, h⟩) | h
  · exact .inl (.inl (s _ _ h))
  · exact .inl (.inr ⟨o, s _ _ h⟩)
  · exact .inr h
theorem k_b {k : Bool} {R : Bool → Prop} (h : R k) : ∃ k', V.bl k = .bl k' ∧ R k' := ⟨k, rfl, h⟩
theorem k_i {i : Int} {R : Int → Prop} (h : R i) : ∃ i', V.int i = .int i' ∧ R i' := ⟨i, rfl, h⟩
theorem k_s {z : List Nat} {R : Prop} (h : R) : (∃ z', V.str (S z) = .str z') ∧ R := ⟨⟨_, rfl⟩, h⟩
/-- an item of a list is changed -/
inductive SetV : List V → Nat → V → List V → Prop
  | here {x v : V} {s : List V} : SetV (x :: s) 0 v (v :: s)
  | there {x v : V} {i : Nat} {s s' : List V} : SetV s i v s' → SetV (x :: s) (i + 1) v (x :: s')
theorem SetV.eq : ∀ {s s' : List V} {i : Nat} {v : V}, SetV s i v s' → s.set i v = s'
  | _, _, _, _, .here => rfl
  | _, _, _, _, .there h => by rw [List.set_cons_succ, h.eq]
theorem p_cell {X : Cx} {ys : List V} {i : Int} {v : V} {R : Hp → Prop} {m : Nat} (O : Own G ((p, .lst xs) :: C) H) (hm : ixN xs.length i = some m) (hs : SetV xs m v ys) (h : ∀ H', Own G ((p, .lst ys) :: C) H' → R H') : pS X (.ref p) (.int i) v H R :=
  p_lst O.at hm (by rw [hs.eq]; exact h _ O.write)
theorem p_cell0 {X : Cx} {x v : V} {R : Hp → Prop} (O : Own G ((p, .lst (x :: xs)) :: C) H) (h : ∀ H', Own G ((p, .lst (v :: xs)) :: C) H' → R H') : pS X (.ref p) (.int 0) v H R :=
  p_cell O (m := 0) (by simp [ixN]) .here h
theorem p_cell1 {X : Cx} {x y v : V} {R : Hp → Prop} (O : Own G ((p, .lst (x :: y :: xs)) :: C) H) (h : ∀ H', Own G ((p, .lst (x :: v :: xs)) :: C) H' → R H') : pS X (.ref p) (.int 1) v H R :=
  p_cell O (m := 1) (by simp [ixN]; omega) (.there .here) h
theorem gp_up {G0 : Hp} (s : Same G0 G) (h : G0 p = some o) : G p = some o := s _ _ h
theorem hp_up (O : Own G C H) (h : G p = some o) : H p = some o := O.same _ _ h
theorem sql_up (O : Own G C H) (h : SqL K G p xs) : SqL K H p xs := O.same.seq h
theorem sqt_up (O : Own G C H) (h : SqT K G p xs) : SqT K H p xs := same_sqt O.same h
theorem i_not {k : Bool} {A B : Prop} (h : if k = true then B else A) : if (!k) = true then A else B := by cases k <;> exact h
theorem i_cases {k : Bool} {A B : Prop} (h1 : k = true → A) (h2 : k = false → B) : if k = true then A else B := by
  cases k
  · exact h2 rfl
  · exact h1 rfl
end
def startL : List Str → List V → L2.St
  | [], _ => []
  | _ :: N, [] => none :: startL N []
  | _ :: N, v :: vs => some v :: startL N vs
theorem startL_eq : ∀ (N : List Str) (vs : List V), vs.length ≤ N.length → start N vs = startL N vs
  | [], [], _ => rfl
  | [], _ :: _, h => by simp at h
  | _ :: N, [], _ => by
    have e := startL_eq N [] (Nat.zero_le _)
    show [] ++ List.replicate (N.length + 1) none = none :: startL N []
    rw [← e]
    simp [L2.start, List.replicate_succ]
  | _ :: N, v :: vs, h => by
    have e := startL_eq N vs (by simpa using h)
    show some v :: (vs.map some ++ List.replicate (N.length + 1 - (vs.length + 1)) none) = some v :: startL N vs
    rw [← e, Nat.add_sub_add_right]
    rfl

/-- a def of the module -/
def Df (K : PySem.W.Frag) (mg : Str → Option Value) (x : Str) (st : Stmt) (ps : List Str) : Prop := ∃ (f : Addr) (fd : FuncData), Fun K x x st f fd ∧ mg x = some (.ref f) ∧ Binds K fd ps [] ∧ ∀ (s : Shared) (us : List Value), us.length = ps.length → BindsTo s fd ⟨us, []⟩ (ps.zip us)
theorem df_mk {K : PySem.W.Frag} {h : Heap} {mg : Str → Option Value} {f : Addr} {x : Str} {st : Stmt} {ps : List Str} {od an : Option Addr} {sl : Array (Option Value)} {oc kV dc pm cd ct : Value} (X : K.In h) (G : h.Ns mainGlobals mg)
    (a : PySem.W.nsIn K mainGlobals x = some (some (.ref f))) (l : K.lookup f = some ⟨oc, od, .func (PySem.W.fnOf x x (defArgs st) (defBody st) (defScope st) .none kV dc pm an cd ct), sl⟩) (c : PySem.W.codeIn K cd x = true) (k : PySem.W.keepIn K (.ref f) = true)
    (b : ∀ (kV doc pm : Value) (an : Option Addr) (cdv ct : Value) (us : List Value), us.length = ps.length → bindArgs (PySem.W.fnOf x x (defArgs st) (defBody st) (defScope st) .none kV doc pm an cdv ct) ⟨us, []⟩ = pure (ps.zip us)) : Df K mg x st ps :=
  ⟨f, _, fun_mk l c k, PySem.W.mg_of X G a, (fun_mk l c k).binds b, fun s us hu => .of_eq (b _ _ _ _ _ _ us hu)⟩

section
variable {P : Program} {w : World} {K : PySem.W.Frag} {mg : Str → Option Value} {base : Heap} {N : List Str}
theorem into {x : Str} {st : Stmt} {f : Addr} {fd : FuncData} {ps : List Str} {sp : Sp} {k : Nat} (F : Fun K x x st f fd) {nm : List (Str × NameKind)} (S : FnScope N ps (defScope st)) (hnm : (defScope st).names = nm) (len : ∀ vs H Q E, sp vs H Q E → vs.length = ps.length) (hl : ps.length ≤ N.length)
    (body : ∀ (X : Cx) (H : Hp) (vs : List V) (Q : VK) (E : XK), CI X P w K mg base N nm k → sp vs H Q E → bS X (defBody st) { nx := fun _ H' => Q .non H', rt := Q } (startL N vs) H) : FnOk P w K mg base CX0 (k + 1) f fd ps sp :=
  enter F S hnm len fun X H vs Q E c h => by
    rw [startL_eq N vs (by rw [len vs H Q E h]; exact hl)]
    exact body X H vs Q E c h
theorem cal_of {x : Str} {st : Stmt} {ps : List Str} {sp : Sp} {k : Nat} (D : Df K mg x st ps) (h : ∀ {f : Addr} {fd : FuncData}, Fun K x x st f fd → FnOk P w K mg base CX0 k f fd ps sp) : Cal P w K mg base k x sp := by
  obtain ⟨f, fd, F, m, b, _⟩ := D
  exact ⟨f, fd, ps, h F, m, F.kp, b⟩
theorem law_fn {x : Str} {st : Stmt} {y : Str} {sp : Sp} {k : Nat} {fa : Addr} (D : Df K mg x st [y]) (hf : mg x = some (.ref fa)) (h : ∀ {base : Heap} {f : Addr} {fd : FuncData}, Fun K x x st f fd → FnOk P w K mg base CX0 k f fd [y] sp) :
    ∃ fd : FuncData, (∀ (s : Shared) (u : Value), BindsTo s fd ⟨[u], []⟩ [(y, u)]) ∧ ∀ base : Heap, K.In base → base.Ns mainGlobals mg → FnOk P w K mg base CX0 k fa fd [y] sp := by
  obtain ⟨f, fd, F, m, b, b2⟩ := D
  rw [m] at hf
  cases hf
  exact ⟨fd, fun s u => b2 s [u] rfl, fun base _ _ => h F⟩
end
end Go

namespace Go
open PySem PySem.Spec PyProof.Rows L2

theorem dp_ints {K : PySem.W.Frag} {H : Hp} : ∀ ns : List Int, DpAll K H (ns.map V.int) (ns.map PyData.int)
  | [] => .nil
  | n :: ns => .cons (.int n) (dp_ints ns)
theorem eqv_ints : ∀ ns ms : List Int, PyData.eqvAll (ns.map PyData.int) (ms.map PyData.int) = decide (ns = ms)
  | [], [] => by simp [PyData.eqvAll]
  | [], _ :: _ => by simp [PyData.eqvAll]
  | _ :: _, [] => by simp [PyData.eqvAll]
  | n :: ns, m :: ms => by
    show (PyData.eqv (.int n) (.int m) && PyData.eqvAll (ns.map PyData.int) (ms.map PyData.int)) = _
    rw [eqv_ints ns ms]
    show ((n == m) && decide (ns = ms)) = _
    by_cases h1 : n = m <;> by_cases h2 : ns = ms <;> simp [h1, h2]
section
variable {X : Cx} {P : Program} {w : World} {K : PySem.W.Frag} {mg : Str → Option Value} {base : Heap} {N : List Str} {nm : List (Str × NameKind)} {j : Nat} {σ σ' : L2.St} {H G : Hp} {Q : VK}
theorem o_eqLI (c : CI X P w K mg base N nm j) {p q : Addr} {ns ms : List Int} (hp : SqL K H p (ns.map V.int)) (hq : SqL K H q (ms.map V.int)) (h : Q (.bl (decide (ns = ms))) H) : oS X (compareOp .Eq) (.ref p) (.ref q) H Q :=
  o_eqD c (.lst hp (dp_ints ns)) (.lst hq (dp_ints ms)) (PySem.W.ke_shaped_ints ns) (PySem.W.ke_shaped_ints ms) (by
    show Q (.bl (PyData.eqvAll (ns.map PyData.int) (ms.map PyData.int))) H
    rw [eqv_ints]; exact h)
theorem o_neLI (c : CI X P w K mg base N nm j) {p q : Addr} {ns ms : List Int} (hp : SqL K H p (ns.map V.int)) (hq : SqL K H q (ms.map V.int)) (h : Q (.bl (!decide (ns = ms))) H) : oS X (compareOp .NotEq) (.ref p) (.ref q) H Q :=
  o_neD c (.lst hp (dp_ints ns)) (.lst hq (dp_ints ms)) (PySem.W.ke_shaped_ints ns) (PySem.W.ke_shaped_ints ms) (by
    show Q (.bl (!PyData.eqvAll (ns.map PyData.int) (ms.map PyData.int))) H
    rw [eqv_ints]; exact h)
theorem cut_to {α : Type} (z : List α) (n : Int) (h : 0 ≤ n) : cut z none (some n) = z.take n.toNat := by
  unfold cut
  obtain ⟨k, rfl⟩ := Int.eq_ofNat_of_zero_le h
  rw [HT.sIx_none, HT.sIx_nat]
  simp only [List.drop_zero, Nat.sub_zero, Int.toNat_natCast]
  rcases Nat.le_total k z.length with h | h
  · rw [Nat.min_eq_left h]
  · rw [Nat.min_eq_right h, List.take_of_length_le (Nat.le_refl _), List.take_of_length_le h]
theorem cut_from {α : Type} (z : List α) (n : Int) (h : 0 ≤ n) : cut z (some n) none = z.drop n.toNat := by
  unfold cut
  obtain ⟨k, rfl⟩ := Int.eq_ofNat_of_zero_le h
  rw [HT.sIx_none, HT.sIx_nat]
  rcases Nat.le_total k z.length with h | h
  · rw [Nat.min_eq_left h, Int.toNat_natCast, List.take_of_length_le (by rw [List.length_drop]; exact Nat.le_refl _)]
  · rw [Nat.min_eq_right h, Int.toNat_natCast, List.drop_of_length_le (Nat.le_refl _), List.drop_of_length_le h]; simp
theorem map_cut {α β : Type} (f : α → β) (z : List α) (lo hi : Option Int) : cut (z.map f) lo hi = (cut z lo hi).map f := by
  unfold cut
  rw [List.length_map, List.map_take, List.map_drop]
end
end Go

namespace Go
open PySem PySem.Spec PyProof.Rows L2

/-- a hand: two numbers -/
def HandO (o : HO) : Prop := ∃ d m : Int, o = .lst [.int d, .int m] ∧ 0 ≤ d ∧ 0 ≤ m ∧ m < 2147483587
theorem abc_at (i : Int) (h0 : 0 ≤ i) (h1 : i < 26) : atI (cs "abcdefghijklmnopqrstuvwxyz") i = some (97 + i.toNat) := by
  obtain ⟨k, rfl⟩ := Int.eq_ofNat_of_zero_le h0
  have h : ∀ k : Fin 26, atI (cs "abcdefghijklmnopqrstuvwxyz") (k.val : Int) = some (97 + k.val) := by decide +kernel
  exact h ⟨k, by omega⟩
theorem Own.frz {G H : Hp} {C : List (Addr × HO)} {p : Addr} {o : HO} (O : Own G ((p, o) :: C) H) : ∃ G', Same G G' ∧ G' p = some o ∧ Own G' C H := ⟨_, O.freeze.2, upd_same, O.freeze.1⟩
theorem atI_get {α : Type} {z : List α} {i : Nat} {v : α} (e : z[i]? = some v) : atI z (i : Int) = some v := by
  have hi : i < z.length := (List.getElem?_eq_some_iff.mp e).1
  unfold atI ixN
  rw [if_pos (by omega), if_pos (by omega)]
  simpa using e
theorem atI_drop {α : Type} {z r : List α} {i : Nat} {v : α} (h : z.drop i = v :: r) : atI z (i : Int) = some v := by
  have e : z[i]? = some v := by
    have := congrArg (fun l : List α => l[0]?) h
    simpa using this
  have hi : i < z.length := (List.getElem?_eq_some_iff.mp e).1
  unfold atI ixN
  rw [if_pos (by omega), if_pos (by omega)]
  simpa using e
theorem drop_succ {α : Type} {z r : List α} {i : Nat} {v : α} (h : z.drop i = v :: r) : z.drop (i + 1) = r := by
  rw [← List.drop_drop, h]; rfl
theorem same_rfl {G : Hp} : Same G G := fun _ _ e => e
theorem same_tr {A B C : Hp} (h : Same A B) (s : Same B C) : Same A C := fun _ _ e => s _ _ (h _ _ e)
section
variable {X : Cx} {P : Program} {w : World} {K : PySem.W.Frag} {mg : Str → Option Value} {base : Heap} {N : List Str} {nm : List (Str × NameKind)} {j : Nat} {σ σ' : L2.St} {H G : Hp} {Q : VK} {D : Ends} {pos p : Pos} {C : List (Addr × HO)} {scope : Scope} {elt tg : Expr} {ifs : List Expr}
theorem bS_join {sts : List Stmt} (Iv : L2.St → Hp → Prop) (h : bS X sts { D with nx := Iv } σ H) (k : ∀ σ' H', Iv σ' H' → D.nx σ' H') : bS X sts D σ H := by
  obtain ⟨t, p, h⟩ := h
  exact ⟨fun D' σ H => ∃ Iv, t { D' with nx := Iv } σ H ∧ ∀ σ' H', Iv σ' H' → D'.nx σ' H', ⟨fun pins s σ H D' I ⟨Iv, h, m⟩ => thn (p.run pins s σ H _ I h) fun f s' q => by
    cases f with
    | next =>
      obtain ⟨σ', H', I', q⟩ := q
      exact ⟨σ', H', I', m _ _ q⟩
    | _ => exact q⟩, Iv, h, k⟩
/-- a branch whose ends meet -/
theorem i_join {q : Bool} {a b : List Stmt} (Iv : L2.St → Hp → Prop) (h1 : q = true → bS X a { D with nx := Iv } σ H) (h2 : q = false → bS X b { D with nx := Iv } σ H) (k : ∀ σ' H', Iv σ' H' → D.nx σ' H') : if q = true then bS X a D σ H else bS X b D σ H := by
  cases q with
  | true => exact bS_join Iv (h1 rfl) k
  | false => exact bS_join Iv (h2 rfl) k
theorem i_joinD {q : Prop} [Decidable q] {a b : List Stmt} (Iv : L2.St → Hp → Prop) (h1 : q → bS X a { D with nx := Iv } σ H) (h2 : ¬ q → bS X b { D with nx := Iv } σ H) (k : ∀ σ' H', Iv σ' H' → D.nx σ' H') : if decide q = true then bS X a D σ H else bS X b D σ H :=
  i_join Iv (fun e => h1 (of_decide_eq_true e)) (fun e => h2 (of_decide_eq_false e)) k
theorem e_join {q : Bool} {a b : Expr} (Iv : VK) (h1 : q = true → eS X a σ H Iv) (h2 : q = false → eS X b σ H Iv) (k : ∀ v H', Iv v H' → Q v H') : if q = true then eS X a σ H Q else eS X b σ H Q := by
  cases q with
  | true => exact eS_mono (h1 rfl) k
  | false => exact eS_mono (h2 rfl) k
theorem Own.swap2 {a b e : Addr × HO} (O : Own G (a :: b :: e :: C) H) : Own G (a :: e :: b :: C) H :=
  ⟨O.same, fun q hq => O.own q (by simp only [List.mem_cons] at hq ⊢; rcases hq with h | h | h | h <;> simp [h]), by
    have n := O.nd
    simp only [List.map_cons, List.nodup_cons, List.mem_cons, not_or] at n ⊢
    exact ⟨⟨n.1.2.1, n.1.1, n.1.2.2⟩, ⟨fun e => n.2.1.1 e.symm, n.2.2.1⟩, n.2.1.2, n.2.2.2⟩⟩
theorem s_while (c : CI X P w K mg base N nm j) {t : Expr} {body : List Stmt} (W : Nat → L2.St → Hp → Prop) (m : Nat) (h0 : W m σ H)
    (h : ∀ m σ H, W m σ H → qS X t σ H fun b H1 => if b = true then bS X body { D with nx := fun σ' H' => ∃ m', m' < m ∧ W m' σ' H', ct := fun σ' H' => ∃ m', m' < m ∧ W m' σ' H', bk := D.nx } σ H1 else D.nx σ H1) : sS X (.While t body [] pos) D σ H :=
  ⟨_, ps_while c.pass qS_is bS_is, W, ⟨m, h0⟩, fun m σ H v => qS_mono (h m σ H v) fun b H1 q => by
    cases b with
    | true => exact ⟨_, fun _ _ z => z, q⟩
    | false => exact q⟩
theorem e_lc1 (c : CI X P w K mg base N nm j) {y : Str} {i : Nat} {iter : Expr} (hi : Ix N y i) (ok : blkC N (scOf nm) scope [(y, i)] = true) (hs : ∀ x, foldedSetIterable iter X.env x = pure x) (h : iS X (.Name y p) iter σ H fun J H1 => LcOn X scope (.Name y p) ifs elt [i] (fun D H => Q (.ref D) H) J σ H1) : eS X (.ListComp elt [⟨.Name y p, iter, ifs, 0⟩] scope pos) σ H Q :=
  e_lc c [(y, i)] (blkOk_by ok) hs h
theorem s_setLc1 (c : CI X P w K mg base N nm j) {y z : Str} {i k : Nat} {p2 spos : Pos} {iter : Expr} (hz : Ix N z k) (hzl : nm.lookup z = some NameKind.local) (hline : (p2.line == pos.line) = true) (ha : (scope.names.any fun (n, k) => n == z && (k == .local || k == .cell)) = false) (hi : Ix N y i) (ok : blkC N (scOf nm) scope [(y, i)] = true) (hs : ∀ x, foldedSetIterable iter X.env x = pure x)
    (h : iS X (.Name y p) iter σ H fun J H1 => LcOn X scope (.Name y p) ifs elt [i] (fun q H => D.nx (σ.set k (some (.ref q))) H) J σ H1) : sS X (.Assign [.Name z p2] (.ListComp elt [⟨.Name y p, iter, ifs, 0⟩] scope pos) spos) D σ H :=
  s_setLc c [(y, i)] hz hzl (sw_true c.kind (c.lo _ hzl) hline ha) (blkOk_by ok) hs h
theorem k_r {i : Int} {R : Int → Prop} (h1 : -(2 ^ 62) ≤ i) (h2 : i < 2 ^ 62) (h : R i) : ∃ n : Int, V.int i = .int n ∧ -(2 ^ 62) ≤ n ∧ n < 2 ^ 62 ∧ R n := ⟨i, rfl, h1, h2, h⟩
theorem i_listK (c : CI X P w K mg base N nm j) {e : Expr} {R : It → Hp → Prop} (h : eS X e σ H fun x H1 => ∃ p xs, x = .ref p ∧ SqL K H1 p xs ∧ R (Itl X.K p) H1) : iS X tg e σ H R := by
  have e := c.K
  subst e
  exact i_list h
theorem i_tupK (c : CI X P w K mg base N nm j) {e : Expr} {R : It → Hp → Prop} (h : eS X e σ H fun x H1 => ∃ p xs, x = .ref p ∧ SqT K H1 p xs ∧ R (Itt X.K p) H1) : iS X tg e σ H R := by
  have e := c.K
  subst e
  exact i_tup h
theorem m_joinC (c : CI X P w K mg base N nm j) {zs : List Nat} {q : Addr} (hq : SqL K H q (zs.map fun x => V.str (S [x]))) (hl : zs.length ≤ 1000000) (h : Q (.str (S zs)) H) : mS X "str.join" (.str (S (cs ""))) [.ref q] H Q := by
  have e : ∀ zs : List Nat, (zs.map fun x => [x]).flatten = zs ∧ (zs.map fun _ => 1).sum = zs.length := fun zs => by
    induction zs with
    | nil => exact ⟨rfl, rfl⟩
    | cons x zs ih => exact ⟨by rw [List.map_cons, List.flatten_cons, ih.1]; rfl, by rw [List.map_cons, List.sum_cons, ih.2, List.length_cons]; omega⟩
  refine m_join c (ls := zs.map fun x => [x]) (by rw [List.map_map]; exact hq) ?_ (by rw [show joinL (cs "") (zs.map fun x => [x]) = zs from (joinL_nil _).trans (e zs).1]; exact h)
  rw [List.map_map, show ((fun l : List Nat => l.length) ∘ fun x => [x]) = fun _ => 1 from rfl, (e zs).2]
  show _ + _ * 0 ≤ _
  omega
theorem rep_len {α : Type} (n : Nat) (z : List α) : (List.replicate n z).flatten.length = n * z.length := by
  induction n with
  | zero => simp
  | succ n ih => rw [List.replicate_succ, List.flatten_cons, List.length_append, ih, Nat.succ_mul]; omega
theorem rep_mem {α : Type} {n : Nat} {z : List α} {x : α} (h : x ∈ (List.replicate n z).flatten) : x ∈ z := by
  obtain ⟨l, hl, hx⟩ := List.mem_flatten.mp h
  rw [(List.mem_replicate.mp hl).2] at hx
  exact hx
theorem o_repT {z : List Nat} {n : Int} (h1 : 0 ≤ n) (h2 : z.length ≤ 1000) (h3 : n ≤ 1000) (h : (List.replicate n.toNat z).flatten.length = n.toNat * z.length → n.toNat * z.length ≤ 1000000 → Q (.str (S (List.replicate n.toNat z).flatten)) H) : oS X (binaryOp .Mult) (.str (S z)) (.int n) H Q := by
  have e : n.toNat * z.length ≤ 1000 * 1000 := Nat.mul_le_mul (by omega) h2
  exact o_repS h1 (by rw [Nat.mul_comm]; omega) (by omega) (h (rep_len _ _) (by omega))
theorem c_int0 (h : Q (.int 0) H) : cS X (.type "int") [.str (S [48])] H Q := c_intS (by decide +kernel) (by decide) h
theorem c_int1 (h : Q (.int 1) H) : cS X (.type "int") [.str (S [49])] H Q := c_intS (by decide +kernel) (by decide) h
theorem c_str0 (h : Q (.str (S [48])) H) : cS X (.type "str") [.int 0] H Q := by
  have e : cs (toString (0 : Int) : String) = [48] := by decide +kernel
  exact c_strI (by decide) (by rw [e]; exact h)
theorem c_str1 (h : Q (.str (S [49])) H) : cS X (.type "str") [.int 1] H Q := by
  have e : cs (toString (1 : Int) : String) = [49] := by decide +kernel
  exact c_strI (by decide +kernel) (by rw [e]; exact h)
theorem p_cell02 {C : List (Addr × HO)} {q : Addr × HO} {x v : V} {xs : List V} {p : Addr} {R : Hp → Prop} (O : Own G (q :: (p, .lst (x :: xs)) :: C) H) (h : ∀ H', Own G (q :: (p, .lst (v :: xs)) :: C) H' → R H') : pS X (.ref p) (.int 0) v H R :=
  p_cell0 O.swap fun H' O' => h H' O'.swap
theorem p_cell12 {C : List (Addr × HO)} {q : Addr × HO} {x y v : V} {xs : List V} {p : Addr} {R : Hp → Prop} (O : Own G (q :: (p, .lst (x :: y :: xs)) :: C) H) (h : ∀ H', Own G (q :: (p, .lst (x :: v :: xs)) :: C) H' → R H') : pS X (.ref p) (.int 1) v H R :=
  p_cell1 O.swap fun H' O' => h H' O'.swap
theorem m_popR {C : List (Addr × HO)} {f : Nat → V} {x : Nat} {r : List Nat} {p : Addr} (O : Own G ((p, .lst (((x :: r).map f).reverse)) :: C) H) (h : ∀ H', Own G ((p, .lst ((r.map f).reverse)) :: C) H' → Q (f x) H') : mS X "list.pop" (.ref p) [] H Q := by
  refine m_pop (y := f x) O.at ?_ ?_
  · simp
  · have e : (((x :: r).map f).reverse).dropLast = (r.map f).reverse := by simp
    rw [e]
    exact h _ O.write
theorem c_isi (c : CI X P w K mg base N nm j) {x : V} {T n : String} {b : Bool} (t : TyX K H x (.type T)) (e : PySem.W.kitOne K (.type T) (.type n) = some b) (h : Q (.bl b) H) : cS X (.builtin "isinstance") [x, .ty n] H Q := by
  have eK := c.K
  subst eK
  exact ⟨_, call_isi, x, .ty n, _, _, b, rfl, .ty n, t, e, h⟩
theorem c_isS (c : CI X P w K mg base N nm j) {z : Str} (h : Q (.bl true) H) : cS X (.builtin "isinstance") [.str z, .ty "str"] H Q := c_isi c (.base (.str z)) rfl h
/-- a branch of an and, whose ends meet -/
theorem ea_join {q : Bool} {e : Expr} {v0 : V} (Iv : VK) (h1 : q = true → eS X e σ H Iv) (h2 : q = false → Iv v0 H) (k : ∀ v H', Iv v H' → Q v H') : if q = true then eS X e σ H Q else Q v0 H := by
  cases q with
  | true => exact eS_mono (h1 rfl) k
  | false => exact k _ _ (h2 rfl)
theorem on_listK (c : CI X P w K mg base N nm j) {body : List Stmt} {q : Addr} {xs : List V} (Pv : Nat → L2.St → Hp → Prop) (h0 : Pv 0 σ H) (hl : ∀ i σ H, i ≤ xs.length → Pv i σ H → SqL K H q xs) (hs : ∀ i x σ H, xs[i]? = some x → Pv i σ H → gS X tg x σ H fun σ2 H2 => bS X body { D with nx := Pv (i + 1), ct := Pv (i + 1), bk := D.nx } σ2 H2) (hd : ∀ σ H, Pv xs.length σ H → D.nx σ H) : ForOn X tg body D (Itl X.K q) σ H := by
  have eK := c.K
  subst eK
  exact on_list Pv h0 hl hs hd
theorem on_tupK (c : CI X P w K mg base N nm j) {body : List Stmt} {q : Addr} {xs : List V} (Pv : Nat → L2.St → Hp → Prop) (h0 : Pv 0 σ H) (hl : ∀ i σ H, i ≤ xs.length → Pv i σ H → SqT K H q xs) (hs : ∀ i x σ H, xs[i]? = some x → Pv i σ H → gS X tg x σ H fun σ2 H2 => bS X body { D with nx := Pv (i + 1), ct := Pv (i + 1), bk := D.nx } σ2 H2) (hd : ∀ σ H, Pv xs.length σ H → D.nx σ H) : ForOn X tg body D (Itt X.K q) σ H := by
  have eK := c.K
  subst eK
  exact on_tup Pv h0 hl hs hd
theorem rep_one (n c : Nat) : (List.replicate n [c]).flatten = List.replicate n c := by
  induction n with
  | zero => rfl
  | succ n ih => rw [List.replicate_succ, List.flatten_cons, ih]; rfl
theorem o_rep0 {n : Nat} (hn : n ≤ 1000) (h : Q (.str (S (List.replicate n 48))) H) : oS X (binaryOp .Mult) (.str (S (cs "0"))) (.int (n : Nat)) H Q :=
  o_repT (by omega) (by decide) (by omega) fun _ _ => by
    rw [show cs "0" = [48] by decide +kernel, Int.toNat_natCast, rep_one]; exact h
theorem o_rep1 {n : Nat} (hn : n ≤ 1000) (h : Q (.str (S (List.replicate n 49))) H) : oS X (binaryOp .Mult) (.str (S (cs "1"))) (.int (n : Nat)) H Q :=
  o_repT (by omega) (by decide) (by omega) fun _ _ => by
    rw [show cs "1" = [49] by decide +kernel, Int.toNat_natCast, rep_one]; exact h
def ixB : Expr → Bool
  | .Slice .. => false
  | _ => true
theorem e_ix {a b : Expr} (hn : ixB b = true) (hs : PlainIx b) (h : eS X a σ H fun x H1 => eS X b σ H1 fun y H2 => xS X x y H2 Q) : eS X (.Subscript a b pos) σ H Q := g_ix hs h
theorem gs_put {i : Nat} {v : V} {es : List Expr} {vs : List V} {R : L2.St → Hp → Prop} (h : Put σ i v σ') (k : gsS X es vs σ' H R) : gsS X es vs (σ.set i (some v)) H R := by rw [h.eq]; exact k
theorem e_put {i : Nat} {v : V} {e : Expr} (h : Put σ i v σ') (k : eS X e σ' H Q) : eS X e (σ.set i (some v)) H Q := by rw [h.eq]; exact k
/-- a comprehension that may write its own cells: Inv by the turn, the list so far, what is frozen, what is owned -/
theorem lr_own {y : Str} {i n : Nat} {Gw : Hp → Prop} {Y : Nat → Hp → V → Hp → Prop} {J : It} {Qd : Addr → Hp → Prop} (Inv : Nat → List V → Hp → List (Addr × HO) → Prop) (c : CI X P w K mg base N nm j) (hi : Ix N y i) (hl : locB scope.names y = true) (hk : scope.kind = .function) (W : Walk J n Gw Y) (hn : n ≤ 1000000) (O : Own G C H) (h0 : Inv 0 [] G C)
    (hG : ∀ G' C' H', Same G G' → Own G' C' H' → Gw H') (hY : ∀ m H x H', Y m H x H' → H' = H)
    (hs : ∀ m x acc G' C' A H', m < n → Inv m acc G' C' → Y m H' x H' → Own G' ((A, .lst acc) :: C') H' → Same G G' → ∀ X', CI X' P w K mg base N scope.names j → eS X' elt (σ.set i (some x)) H' fun y H4 => ∃ G4 C4, Own G4 ((A, .lst acc) :: C4) H4 ∧ Same G' G4 ∧ Inv (m + 1) (acc ++ [y]) G4 C4)
    (hd : ∀ acc G' C' A H', acc.length = n → Inv n acc G' C' → Own G' ((A, .lst acc) :: C') H' → Same G G' → Qd A H') : LcOn X scope (.Name y p) [] elt [i] Qd J σ H := by
  refine lc_name c hi hl hk W fun A hA => ⟨fun m H => ∃ acc G' C', acc.length = m ∧ Inv m acc G' C' ∧ Own G' ((A, .lst acc) :: C') H ∧ Same G G', ⟨[], G, C, rfl, h0, O.cell hA, same_rfl⟩, ?_, ?_, ?_⟩
  · rintro m H' hm ⟨acc, G', C', _, _, O', s⟩
    exact hG _ _ _ s O'
  · rintro m x H1 H2 hm ⟨acc, G', C', hl, iv, O', s⟩ hy X' _ _
    refine ts_nil ?_
    rw [if_pos rfl]
    intro X2 _ c2
    have e := hY _ _ _ _ hy
    subst e
    refine eS_mono (hs m x acc G' C' A H2 hm iv hy O' s X2 c2) fun y H4 ⟨G4, C4, O4, s4, iv4⟩ => ?_
    exact ⟨acc, O4.at, sz_lt (by omega), acc ++ [y], G4, C4, by simp [hl], iv4, O4.write, same_tr s s4⟩
  · rintro H' ⟨acc, G', C', hl, iv, O', s⟩
    exact hd _ _ _ _ _ hl iv O' s
section
variable {y : Str} {i : Nat} {Qd : Addr → Hp → Prop} (Inv : Nat → List V → Hp → List (Addr × HO) → Prop) (c : CI X P w K mg base N nm j) (hi : Ix N y i) (hl : locB scope.names y = true) (hk : scope.kind = .function)
include c hi hl hk
theorem lr_range {lo : Int} {n : Nat} (hn : n ≤ 1000000) (O : Own G C H) (h0 : Inv 0 [] G C)
    (hs : ∀ m acc G' C' A H', m < n → Inv m acc G' C' → Own G' ((A, .lst acc) :: C') H' → Same G G' → ∀ X', CI X' P w K mg base N scope.names j → eS X' elt (σ.set i (some (.int (lo + m)))) H' fun y H4 => ∃ G4 C4, Own G4 ((A, .lst acc) :: C4) H4 ∧ Same G' G4 ∧ Inv (m + 1) (acc ++ [y]) G4 C4)
    (hd : ∀ acc G' C' A H', acc.length = n → Inv n acc G' C' → Own G' ((A, .lst acc) :: C') H' → Same G G' → Qd A H') : LcOn X scope (.Name y p) [] elt [i] Qd (Itr lo n) σ H :=
  lr_own Inv c hi hl hk walk_range hn O h0 (fun _ _ _ _ _ => True.intro) (fun _ _ _ _ h => h.1) (fun m x acc G' C' A H' hm iv hy O' s X' c' => by
    obtain ⟨_, rfl⟩ := hy
    exact hs m acc G' C' A H' hm iv O' s X' c') hd
theorem lr_str {z : List Nat} (hn : z.length ≤ 1000000) (O : Own G C H) (h0 : Inv 0 [] G C)
    (hs : ∀ m ch acc G' C' A H', z[m]? = some ch → Inv m acc G' C' → Own G' ((A, .lst acc) :: C') H' → Same G G' → ∀ X', CI X' P w K mg base N scope.names j → eS X' elt (σ.set i (some (.str (S [ch])))) H' fun y H4 => ∃ G4 C4, Own G4 ((A, .lst acc) :: C4) H4 ∧ Same G' G4 ∧ Inv (m + 1) (acc ++ [y]) G4 C4)
    (hd : ∀ acc G' C' A H', acc.length = z.length → Inv z.length acc G' C' → Own G' ((A, .lst acc) :: C') H' → Same G G' → Qd A H') : LcOn X scope (.Name y p) [] elt [i] Qd (Its (S z)) σ H := by
  have e : (S z).cps.size = z.length := by simp [S]
  refine lr_own Inv c hi hl hk walk_str (by rw [e]; exact hn) O h0 (fun _ _ _ _ _ => True.intro) (fun _ _ _ _ h => h.1) (fun m x acc G' C' A H' hm iv hy O' s X' c' => ?_) (fun acc G' C' A H' h1 h2 => hd acc G' C' A H' (by rw [h1, e]) (by rw [← e]; exact h2))
  obtain ⟨_, ch, hc, rfl⟩ := hy
  exact hs m ch acc G' C' A H' (by simpa [S] using hc) iv O' s X' c'
theorem lr_list {a : Addr} {xs : List V} (hq : SqL K G a xs) (hn : xs.length ≤ 1000000) (O : Own G C H) (h0 : Inv 0 [] G C)
    (hs : ∀ m x acc G' C' A H', xs[m]? = some x → Inv m acc G' C' → Own G' ((A, .lst acc) :: C') H' → Same G G' → ∀ X', CI X' P w K mg base N scope.names j → eS X' elt (σ.set i (some x)) H' fun y H4 => ∃ G4 C4, Own G4 ((A, .lst acc) :: C4) H4 ∧ Same G' G4 ∧ Inv (m + 1) (acc ++ [y]) G4 C4)
    (hd : ∀ acc G' C' A H', acc.length = xs.length → Inv xs.length acc G' C' → Own G' ((A, .lst acc) :: C') H' → Same G G' → Qd A H') : LcOn X scope (.Name y p) [] elt [i] Qd (Itl X.K a) σ H := by
  rw [c.K]
  exact lr_own Inv c hi hl hk (walk_list (xs := xs)) hn O h0 (fun G' C' H' s O' => sql_up O' (s.seq hq)) (fun _ _ _ _ h => h.1) (fun m x acc G' C' A H' hm iv hy O' s X' c' => hs m x acc G' C' A H' hy.2 iv O' s X' c') hd
theorem lr_tup {a : Addr} {xs : List V} (hq : SqT K G a xs) (hn : xs.length ≤ 1000000) (O : Own G C H) (h0 : Inv 0 [] G C)
    (hs : ∀ m x acc G' C' A H', xs[m]? = some x → Inv m acc G' C' → Own G' ((A, .lst acc) :: C') H' → Same G G' → ∀ X', CI X' P w K mg base N scope.names j → eS X' elt (σ.set i (some x)) H' fun y H4 => ∃ G4 C4, Own G4 ((A, .lst acc) :: C4) H4 ∧ Same G' G4 ∧ Inv (m + 1) (acc ++ [y]) G4 C4)
    (hd : ∀ acc G' C' A H', acc.length = xs.length → Inv xs.length acc G' C' → Own G' ((A, .lst acc) :: C') H' → Same G G' → Qd A H') : LcOn X scope (.Name y p) [] elt [i] Qd (Itt X.K a) σ H := by
  rw [c.K]
  exact lr_own Inv c hi hl hk (walk_tup (xs := xs)) hn O h0 (fun G' C' H' s O' => sqt_up O' (same_sqt s hq)) (fun _ _ _ _ h => h.1) (fun m x acc G' C' A H' hm iv hy O' s X' c' => hs m x acc G' C' A H' hy.2 iv O' s X' c') hd
end
end
end Go

namespace Go
open PySem PySem.Spec PyProof.Rows L2

section
variable {X : Cx} {P : Program} {w : World} {K : PySem.W.Frag} {mg : Str → Option Value} {base : Heap} {N : List Str} {nm : List (Str × NameKind)} {j : Nat} {σ σ' : L2.St} {H G : Hp} {Q : VK} {D : Ends} {pos p : Pos} {C : List (Addr × HO)} {tk tv : TE}
/-- {k: v}, the key a tuple -/
def tDisp1T (tk tv : TE) : TE := fun σ H Q => ∀ p, H p = none → tk σ (upd H p (.dT [])) fun x H1 => tv σ H1 fun y H2 => ∃ (b : Addr) (ks : List Key), x = .ref b ∧ H2 b = some (.tup (ks.map kV)) ∧ H2 p = some (.dT []) ∧ Q (.ref p) (upd H2 p (.dT [(ks, y)]))
theorem pe_disp1T {k v : Expr} (hu : X.A.units + 1 < cLine) (hk : PE X k tk) (hv : PE X v tv) : PE X (.Dict [some k] [v] pos) (tDisp1T tk tv) := by
  refine ⟨fun pins s σ H Q I q => ?_⟩
  have hn := I.hok.fresh (Nat.le_refl s.heap.objs.size)
  have I1 := I.laid (a := s.heap.objs.size) (o := .dT []) (h' := s.heap.push { cls := .type "dict", data := .dict #[] }) (t' := s.toks) (fun _ _ q => Heap.get?_push_of_some _ q) (Nat.le_refl _) (dt_empty s.heap I.big)
  rw [arm_eval_Dict, zip_pairTrees [some k] [v] X.env pos rfl rfl, dictDisplay_pairs (pairTrees [some k] [v] X.env pos) (fun z => nomatch z) (show (1 : Nat) < 17 by omega)]
  refine wpAny_bind (wpAny_standAt (wpAny_bind (wpAny_subDictH (knd := tupleKind (mixKind X.prog X.w)) (show X.A.units < cLine from Nat.lt_of_succ_lt hu) (show (1 : Nat) ≤ 15 by omega) ?_)))
  refine pairTrees_cons_walk (thn (hk.run pins _ σ _ _ I1 (q _ hn)) fun u s1 ⟨x, H1, I1, rx, q1⟩ => thn (hv.run pins s1 σ H1 _ I1 q1) fun w2 s2 ⟨y, H2, I2, ry, b, ks, ex, eb, ep, q2⟩ => ?_)
  refine pairTrees_nil_walk ?_
  subst ex
  obtain rfl : u = Value.ref b := rx
  obtain ⟨z, hd, xs, rel, dd⟩ := dt_of I2.hok ep
  cases rel
  refine ⟨[(ks, b, w2)], ⟨rfl, rfl, key_of I2.hok eb, True.intro⟩, dd, fun h' t' dd' hs => ?_⟩
  refine wpAny_pure ⟨.ref s.heap.objs.size, _, ?_, rfl, q2⟩
  obtain ⟨q, es, ep', hq, h2, h3, h4, _, h5⟩ := dd'
  refine d_write I2 (by rw [ep]; exact True.intro) hs ⟨q, hq⟩ ⟨by rw [sizeLine_eq]; show (1 : Nat) ≤ _; omega, hd, _, .cons ⟨rfl, ?_, ry⟩ .nil, q, es, ep', hq, h2, h3, h4, h5⟩
  rw [upd_ne (ne_of eb ep (fun z => nomatch z))]
  exact eb
theorem e_disp1T (c : CI X P w K mg base N nm j) {k v : Expr} (h : ∀ p H0, New H p (.dT []) H0 → eS X k σ H0 fun x H1 => eS X v σ H1 fun y H2 => ∃ (b : Addr) (ks : List Key), x = .ref b ∧ H2 b = some (.tup (ks.map kV)) ∧ H2 p = some (.dT []) ∧ Q (.ref p) (upd H2 p (.dT [(ks, y)]))) : eS X (.Dict [some k] [v] pos) σ H Q :=
  ⟨_, pe_disp1T c.hu eS_is eS_is, fun p hp => h p _ ⟨hp, rfl⟩⟩
theorem e_dictT (h : ∀ p H2, New H p (.dT []) H2 → Q (.ref p) H2) : eS X (.Dict [] [] pos) σ H Q := ⟨_, pe_dnewT, fun p hp => h p _ ⟨hp, rfl⟩⟩
theorem e_dictK (h : ∀ p H2, New H p (.dK []) H2 → Q (.ref p) H2) : eS X (.Dict [] [] pos) σ H Q := ⟨_, pe_dnewK, fun p hp => h p _ ⟨hp, rfl⟩⟩
theorem o_inT (c : CI X P w K mg base N nm j) {p b : Addr} {kvs : List (List Key × V)} {i k : Int} (hp : H p = some (.dT kvs)) (hb : H b = some (.tup [.int i, .int k])) (h : Q (.bl (valV kvs [.inl i, .inl k]).isSome) H) : oS X (compareOp .In) (.ref b) (.ref p) H Q :=
  o_inD c (DGet.t (k := [.inl i, .inl k]) hp hb) h
theorem o_notInT (c : CI X P w K mg base N nm j) {p b : Addr} {kvs : List (List Key × V)} {i k : Int} (hp : H p = some (.dT kvs)) (hb : H b = some (.tup [.int i, .int k])) (h : Q (.bl (!(valV kvs [.inl i, .inl k]).isSome)) H) : oS X (compareOp .NotIn) (.ref b) (.ref p) H Q :=
  o_notInD c (DGet.t (k := [.inl i, .inl k]) hp hb) h
theorem x_dT (c : CI X P w K mg base N nm j) {p b : Addr} {kvs : List (List Key × V)} {i k : Int} {v : V} (hp : H p = some (.dT kvs)) (hb : H b = some (.tup [.int i, .int k])) (hv : valV kvs [.inl i, .inl k] = some v) (h : Q v H) : xS X (.ref p) (.ref b) H Q :=
  x_dict c (by rw [← hv]; exact DGet.t (k := [.inl i, .inl k]) hp hb) h
theorem p_dT (c : CI X P w K mg base N nm j) {p b : Addr} {kvs : List (List Key × V)} {i k : Int} {v : V} {R : Hp → Prop} (O : Own G ((p, .dT kvs) :: C) H) (hb : H b = some (.tup [.int i, .int k])) (hl : kvs.length < 1000000) (h : ∀ H', Own G ((p, .dT (putK kvs [.inl i, .inl k] v)) :: C) H' → R H') : pS X (.ref p) (.ref b) v H R :=
  p_dict c (DPut.t (k := [.inl i, .inl k]) O.at hb (sz_lt hl)) (h _ O.write)
theorem wS_mono {e : Expr} {R R' : Bool → Hp → Prop} (h : wS X e σ H R) (m : ∀ v H, R v H → R' v H) : wS X e σ H R' := by
  obtain ⟨t, p, h⟩ := h
  exact ⟨fun σ H R => ∃ Q, t σ H Q ∧ ∀ v H, Q v H → R v H, ⟨fun wh pins s σ H R I ⟨Q, h, m⟩ => thn (p.run wh pins s σ H Q I h) fun u s' ⟨H', I', q⟩ => ⟨H', I', m u H' q⟩⟩, R, h, m⟩
/-- a branch within an and / an or of a test, whose ends meet -/
theorem wa_join {q : Bool} {e : Expr} {b0 : Bool} {R : Bool → Hp → Prop} (Iv : Bool → Hp → Prop) (h1 : q = true → wS X e σ H Iv) (h2 : q = false → Iv b0 H) (k : ∀ v H', Iv v H' → R v H') : if q = true then wS X e σ H R else R b0 H := by
  cases q with
  | true => exact wS_mono (h1 rfl) k
  | false => exact k _ _ (h2 rfl)
theorem k_r2 {a b : Int} {R : Int → Int → Prop} (h1 : -(2 ^ 62) ≤ a ∧ a < 2 ^ 62 ∧ -(2 ^ 62) ≤ b ∧ b < 2 ^ 62) (h : R a b) : ∃ i k : Int, V.int a = .int i ∧ V.int b = .int k ∧ (-(2 ^ 62) ≤ i ∧ i < 2 ^ 62 ∧ -(2 ^ 62) ≤ k ∧ k < 2 ^ 62) ∧ R i k := ⟨a, b, rfl, rfl, h1, h⟩
theorem k_r3 {a b : Int} {R : Int → Int → Prop} (h1 : -(2 ^ 62) ≤ a ∧ a < 2 ^ 62 ∧ -(2 ^ 62) ≤ b ∧ b < 2 ^ 62) (h : R a b) : V.int (-1) = .int (-1) ∧ ∃ i k : Int, V.int a = .int i ∧ V.int b = .int k ∧ (-(2 ^ 62) ≤ i ∧ i < 2 ^ 62 ∧ -(2 ^ 62) ≤ k ∧ k < 2 ^ 62) ∧ R i k := ⟨rfl, a, b, rfl, rfl, h1, h⟩
theorem if_pair {q r : Bool} {α : Type} {a b : α} : (if q = true then (if r = true then a else b) else b) = if (q && r) = true then a else b := by cases q <;> rfl
theorem cut_mid {α : Type} (z : List α) (a b : Int) (ha : 0 ≤ a) (hb : 0 ≤ b) : cut z (some a) (some b) = (z.drop a.toNat).take (b.toNat - a.toNat) := by
  obtain ⟨a, rfl⟩ := Int.eq_ofNat_of_zero_le ha
  obtain ⟨b, rfl⟩ := Int.eq_ofNat_of_zero_le hb
  have e : ∀ (d k : Nat), HT.sIx z.length d (some (k : Int)) = min k z.length := fun d k => by
    unfold HT.sIx
    first | (simp only []; split <;> omega) | (split <;> omega) | omega | (simp; omega)
  unfold cut
  rw [e, e, Int.toNat_natCast, Int.toNat_natCast]
  apply List.ext_getElem?
  intro i
  rw [List.getElem?_take, List.getElem?_take, List.getElem?_drop, List.getElem?_drop]
  by_cases h : i < b - a
  · rw [if_pos h]
    by_cases h2 : i < min b z.length - min a z.length
    · rw [if_pos h2, show min a z.length = a by omega]
    · rw [if_neg h2, List.getElem?_eq_none (by omega)]
  · rw [if_neg h, if_neg (by omega)]
theorem l_to {z : List Nat} {n : Int} (h0 : 0 ≤ n) (hz : z.length ≤ 1000000) (h : Q (.str (S (z.take n.toNat))) H) : lS X (.str (S z)) none (some n) H Q := l_str hz (by rw [cut_to _ _ h0]; exact h)
theorem l_from {z : List Nat} {n : Int} (h0 : 0 ≤ n) (hz : z.length ≤ 1000000) (h : Q (.str (S (z.drop n.toNat))) H) : lS X (.str (S z)) (some n) none H Q := l_str hz (by rw [cut_from _ _ h0]; exact h)
theorem l_mid {z : List Nat} {a b : Int} (ha : 0 ≤ a) (hb : 0 ≤ b) (hz : z.length ≤ 1000000) (h : Q (.str (S ((z.drop a.toNat).take (b.toNat - a.toNat)))) H) : lS X (.str (S z)) (some a) (some b) H Q := l_str hz (by rw [cut_mid _ _ _ ha hb]; exact h)
theorem c_listI (c : CI X P w K mg base N nm j) {p : Addr} {xs : List V} (hp : SqL K H p xs) (h : ∀ r H', New H r (.lst xs) H' → Q (.ref r) H') : cS X (.type "list") [.ref p] H Q := c_listL c hp h
theorem inV_int (i : Int) : ∀ xs : List Int, inV (.int i) (xs.map V.int) = decide (i ∈ xs)
  | [] => by simp [inV]
  | x :: xs => by
    have ih := inV_int i xs
    have e : eqV (.int x) (.int i) = decide (x = i) := by show (x == i) = _; rw [Bool.eq_iff_iff]; simp
    show (eqV (.int x) (.int i) || inV (.int i) (xs.map V.int)) = _
    rw [ih, e]
    by_cases q : x = i
    · subst q; simp
    · have q' : ¬ i = x := fun z => q z.symm
      simp [q, q']
theorem o_inI (c : CI X P w K mg base N nm j) {i : Int} {p : Addr} {xs : List Int} (hp : SqL K H p (xs.map V.int)) (h : Q (.bl (decide (i ∈ xs))) H) : oS X (compareOp .In) (.int i) (.ref p) H Q :=
  o_inQ c (.inl hp) rfl (by simp [flatV]) (by rw [inV_int]; exact h)
theorem m_appendC {p : Addr} {xs : List V} {y : V} (O : Own G ((p, .lst xs) :: C) H) (hl : xs.length < 1000000) (h : ∀ H', Own G ((p, .lst (xs ++ [y])) :: C) H' → Q .non H') : mS X "list.append" (.ref p) [y] H Q :=
  m_append O.at hl (h _ O.write)
theorem o_addSl {a : List Nat} {x : Str} (h0 : (cs x).length ≤ 1000) (hl : a.length ≤ 900000) (h : Q (.str (S (a ++ cs x))) H) : oS X (binaryOp .Add) (.str (S a)) (.str (S (cs x))) H Q := o_addS (by omega) h
theorem o_addSr {a : List Nat} {x : Str} (h0 : (cs x).length ≤ 1000) (hl : a.length ≤ 900000) (h : Q (.str (S (cs x ++ a))) H) : oS X (binaryOp .Add) (.str (S (cs x))) (.str (S a)) H Q := o_addS (by omega) h
theorem o_iaddSl {a : List Nat} {x : Str} (h0 : (cs x).length ≤ 1000) (hl : a.length ≤ 900000) (h : Q (.str (S (a ++ cs x))) H) : oS X (inplaceOp .Add) (.str (S a)) (.str (S (cs x))) H Q := o_iaddS (by omega) h
theorem Own.frzAll : ∀ (L : List (Addr × HO)) {G : Hp}, Own G (L ++ C) H → ∃ G', Same G G' ∧ (∀ e ∈ L, G' e.1 = some e.2) ∧ Own G' C H
  | [], G, O => ⟨G, same_rfl, by simp, O⟩
  | e :: L, G, O => by
    obtain ⟨G1, s1, e1, O1⟩ := Own.frz (p := e.1) (o := e.2) O
    obtain ⟨G2, s2, e2, O2⟩ := Own.frzAll L O1
    refine ⟨G2, same_tr s1 s2, fun x hx => ?_, O2⟩
    rcases List.mem_cons.mp hx with rfl | hx
    · exact s2 _ _ e1
    · exact e2 x hx
theorem Own.dropAll : ∀ (L : List (Addr × HO)), Own G (L ++ C) H → Own G C H
  | [], O => O
  | _ :: L, O => Own.dropAll L O.drop
theorem k_ty {p : Addr} {xs : List V} {B : Prop} (hp : SqL K H p xs) (h : B) : tyV K "list" (.ref p) H ∧ B := ⟨ty_lst hp, h⟩
theorem take_succ_map {α β : Type} {ps : List α} {k : Nat} {x : α} (f : α → β) (h : ps[k]? = some x) : ((ps.take (k + 1)).map f).reverse = f x :: ((ps.take k).map f).reverse := by
  rw [List.take_add_one, h]; simp
/-- a text, once or not at all -/
theorem o_repB {z : List Nat} {b : Bool} (hz : z.length ≤ 1000) (h : Q (.str (S (if b = true then z else []))) H) : oS X (binaryOp .Mult) (.str (S z)) (.int (if b = true then 1 else 0)) H Q := by
  cases b with
  | true =>
    refine o_repT (by decide) hz (by decide) fun _ _ => ?_
    have e : (List.replicate (if true = true then (1 : Int) else 0).toNat z).flatten = z := by simp
    rw [e]; exact h
  | false => exact o_repT (by decide) hz (by decide) fun _ _ => h
theorem c_isB (c : CI X P w K mg base N nm j) {b : Bool} (h : Q (.bl true) H) : cS X (.builtin "isinstance") [.bl b, .ty "bool"] H Q := c_isi c (.base (.bl b)) rfl h
theorem c_isI (c : CI X P w K mg base N nm j) {i : Int} (h : Q (.bl true) H) : cS X (.builtin "isinstance") [.int i, .ty "int"] H Q := c_isi c (.base (.int i)) rfl h
theorem c_isIB (c : CI X P w K mg base N nm j) {i : Int} (h : Q (.bl false) H) : cS X (.builtin "isinstance") [.int i, .ty "bool"] H Q := c_isi c (.base (.int i)) rfl h
theorem p_dK {p : Addr} {kvs : List (Key × V)} {i : Int} {v : V} {R : Hp → Prop} (c : CI X P w K mg base N nm j) (O : Own G ((p, .dK kvs) :: C) H) (hl : kvs.length < 1000000) (h : ∀ H', Own G ((p, .dK (putK kvs (.inl i) v)) :: C) H' → R H') : pS X (.ref p) (.int i) v H R :=
  p_dict c (DPut.k (k := .inl i) O.at (sz_lt hl)) (h _ O.write)
theorem x_dK (c : CI X P w K mg base N nm j) {p : Addr} {kvs : List (Key × V)} {i : Int} {v : V} (hp : H p = some (.dK kvs)) (hv : valV kvs (.inl i) = some v) (h : Q v H) : xS X (.ref p) (.int i) H Q :=
  x_dict c (by rw [← hv]; exact DGet.k (k := .inl i) hp) h
/-- d.get(y, z): the dict, the key, the other value -/
structure getS (H : Hp) (x y z : V) (Q : VK) : Prop where
  ex : ∃ a o, x = .ref a ∧ DGet H a y o ∧ Q (o.getD z) H
theorem e_get2 (c : CI X P w K mg base N nm j) {o e f : Expr} {apos cpos : Pos} (m : M2 X o "get" apos e f cpos) (h : eS X o σ H fun x H1 => (∃ a, x = .ref a ∧ IsD H1 a) ∧ eS X e σ H1 fun y H2 => eS X f σ H2 fun z H3 => getS H3 x y z Q) : eS X (.Call (.Attribute o "get" apos) [e, f] [] cpos) σ H Q :=
  ⟨_, pe_dget2 c.hu eS_is eS_is eS_is m, eS_mono h fun x H1 ⟨⟨a, ea, d⟩, q⟩ => ⟨a, ea, d, eS_mono q fun y H2 q => eS_mono q fun z H3 ⟨a', o, e1, g, q⟩ => by
    rw [ea] at e1
    cases e1
    exact ⟨o, g, q⟩⟩⟩
theorem k_isK {p : Addr} {kvs : List (Key × V)} {B : Prop} (hp : H p = some (.dK kvs)) (h : B) : (∃ a, V.ref p = .ref a ∧ IsD H a) ∧ B := ⟨⟨p, rfl, .inl ⟨kvs, .inl hp⟩⟩, h⟩
theorem k_isT {p : Addr} {kvs : List (List Key × V)} {B : Prop} (hp : H p = some (.dT kvs)) (h : B) : (∃ a, V.ref p = .ref a ∧ IsD H a) ∧ B := ⟨⟨p, rfl, .inr ⟨kvs, .inl hp⟩⟩, h⟩
theorem get_K {p : Addr} {kvs : List (Key × V)} {i : Int} {z : V} (hp : H p = some (.dK kvs)) (h : Q ((valV kvs (.inl i)).getD z) H) : getS H (.ref p) (.int i) z Q := ⟨p, _, rfl, DGet.k (k := .inl i) hp, h⟩
theorem e_disp1K (c : CI X P w K mg base N nm j) {k v : Expr} (h : ∀ p H0, New H p (.dK []) H0 → eS X k σ H0 fun x H1 => eS X v σ H1 fun y H2 => ∃ (i : Int), x = .int i ∧ H2 p = some (.dK []) ∧ Q (.ref p) (upd H2 p (.dK [(.inl i, y)]))) : eS X (.Dict [some k] [v] pos) σ H Q :=
  ⟨_, pe_disp (pps_cons eS_is eS_is pps_nil) rfl rfl (fun z => nomatch z) (show (1 : Nat) ≤ 15 by decide), fun p hp => eS_mono (h p _ ⟨hp, rfl⟩) fun x H1 q => eS_mono q fun y H2 ⟨i, e1, e2, q⟩ => ⟨e2, [(.inl i, y)], by rw [e1]; rfl, (show (1 : Nat) ≤ 15 by decide), q⟩⟩
end
end Go

namespace Go
open PySem PySem.Spec PyProof.Rows L2

/-- the signs of a text with their places, each in a new pair -/
def Itn (z : Str) : It := ⟨fun i _ => i < z.cps.size, fun i H v H' => ∃ T c, v = .ref T ∧ H T = none ∧ H' = upd H T (.tup [.int (i : Nat), .str ⟨#[c]⟩]) ∧ z.cps[i]? = some c, fun i _ => z.cps.size ≤ i⟩
theorem turn_enumS {P : Program} {w : World} {K : PySem.W.Frag} {elts : List Expr} {kk : Nat} {tpos : Pos} (e it : Addr) (x : Str) (t : Tok) :
    Turn P w K (.Tuple elts kk tpos) (Itn x) [e, it] e (fun i h => i ≤ x.cps.size ∧ (∃ old, IsEnum h e it ((i : Nat) : Int) old) ∧ h.IsStrIter it (strIterType x) x t i ∧ e ≠ it) where
  mem := by simp
  obj := fun i h st b hb => by
    obtain ⟨_, ⟨old, he⟩, ⟨o, ho, hc, hd⟩, _⟩ := st
    have e' : b = e ∨ b = it := by simpa using hb
    rcases e' with z | z
    · rw [z]; exact ⟨_, he, fun v q => nomatch q⟩
    · rw [z]; exact ⟨o, ho, fun v q => by rw [hd] at q; cases q⟩
  keep := fun i h h' st k => let ⟨hl, ⟨old, he⟩, ⟨o, ho, r⟩, hne⟩ := st; ⟨hl, ⟨old, k e (by simp) _ he⟩, ⟨o, k it (by simp) o ho, r⟩, hne⟩
  item := by
    intro X hP hw hK hc i pins s σ H E I hf st hg
    subst hP hw hK
    obtain ⟨hl, ⟨old, he⟩, hit, hne⟩ := st
    have hel : e < s.heap.objs.size := Heap.lt_size he
    have hil : it < s.heap.objs.size := by obtain ⟨_, q, _⟩ := hit; exact Heap.lt_size q
    have D : Draws X.prog X.w X.A.in1 it [it] x.cps.size (fun i v => ∃ c u, x.cps[i]? = some c ∧ v = .str ⟨#[c]⟩ u) (fun i h => h.IsStrIter it (strIterType x) x t i) := Draws.text (show X.A.in1.handled = none from I.ok.hd hc) it x t
    refine wpAny_pyNext_enum_itemD (St := fun i h => h.IsStrIter it (strIterType x) x t i) D he hit hg hne (by simpa using hne) fun u h' tk hP ho hit' hT hsz hk => ?_
    obtain ⟨ch, tu, hch, rfl⟩ := hP
    refine ⟨_, rfl, wpAny_letOwnedTupleGo_enum (s := { s with heap := h', toks := tk + 1 }) ho fun h'' he' sb => ?_⟩
    have hT2 : h''.get? s.heap.objs.size = some { cls := .type "tuple", data := .seq #[.int i tk, .str ⟨#[ch]⟩ tu] } := (sb.2 _ (Nat.ne_of_gt hel)).trans hT
    have new : ObjOk X.prog X.w (upd H s.heap.objs.size (.tup [.int (i : Nat), .str ⟨#[ch]⟩])) h'' s.heap.objs.size (.tup [.int (i : Nat), .str ⟨#[ch]⟩]) :=
      ⟨by show 2 ≤ sizeLine; decide, [.int i tk, .str ⟨#[ch]⟩ tu], .cons ⟨_, rfl⟩ (.cons ⟨_, rfl⟩ .nil), ⟨_, hT2, rfl, _, rfl⟩⟩
    have I1 : Inv X pins σ (upd H s.heap.objs.size (.tup [.int (i : Nat), .str ⟨#[ch]⟩])) { s with heap := h'', toks := tk + 1 } :=
      I.turnedNew (ch := [e, it]) (fun b ob hb q => (sb.2 b (fun z => hb (by simp [z]))).trans (hk b ob (fun z => hb (by simp [z])) (fun z => hb (by simp [z])) q)) hf (Nat.le_refl _) new
    refine ⟨.ref s.heap.objs.size, _, I1, rfl, ⟨_, ch, rfl, I.hok.fresh (Nat.le_refl _), rfl, hch⟩, ⟨hg, ⟨.str ⟨#[ch]⟩ tu, ?_⟩, ?_, hne⟩, fun b hb => ?_⟩
    · have e1 : ((i + 1 : Nat) : Int) = (i : Int) + 1 := by omega
      rw [e1]; exact he'
    · obtain ⟨o, ho2, r⟩ := hit'
      exact ⟨o, (sb.2 it (Ne.symm hne)).trans ho2, r⟩
    · have hb' : b < s.heap.objs.size := by
        have e' : b = e ∨ b = it := by simpa using hb
        rcases e' with z | z
        · rw [z]; exact hel
        · rw [z]; exact hil
      rw [upd_ne (Nat.ne_of_lt hb')]
      exact (hf b hb).1
  done := by
    intro X hP hw hK hc i pins s σ H E I hf st hg
    subst hP hw hK
    obtain ⟨hl, ⟨old, he⟩, hit, hne⟩ := st
    have ei : i = x.cps.size := Nat.le_antisymm hl hg
    subst ei
    obtain ⟨f0, f1, f2, f3, f4, f5⟩ := hf it (by simp)
    have D : Draws X.prog X.w X.A.in1 it [it] x.cps.size (fun i v => ∃ c u, x.cps[i]? = some c ∧ v = .str ⟨#[c]⟩ u) (fun i h => h.IsStrIter it (strIterType x) x t i) := Draws.text (show X.A.in1.handled = none from I.ok.hd hc) it x t
    exact wpAny_pyNext_enum_endD (St := fun i h => h.IsStrIter it (strIterType x) x t i) D he hit fun h' eb => ⟨rfl, I.turned (t' := s.toks) (fun b o hb q => eb b o hb q) f0 f1 f3 f4 f5⟩
  self := fun A i s Q E st h => let ⟨_, ⟨_, he⟩, _⟩ := st; wpAny_pyIter_enum he h
def iEnumS (ta : TA) : TI := fun σ H R => ta σ H fun vs H1 => ∃ z, vs = [.str z] ∧ R (Itn z) H1
theorem pi_enumS {X : Cx} {e : Expr} {ta : TA} {p pos tpos : Pos} {elts : List Expr} {kk : Nat} (hg : Gl X "enumerate") (hm : X.mg "enumerate" = none) (ha : PA X [e] ta) (hs : starEach [e] X.env = [(false, eval e X.env)] := by rfl) :
    PI X (.Tuple elts kk tpos) (.Call (.Name "enumerate" p) [e] [] pos) (iEnumS ta) := by
  refine ⟨fun pins s σ H R I h => ?_⟩
  refine Call_ (ld_blt I hg hm boot_enumerate (PyProof.Rows.callWith_type1 (thn (ha.run pos pins s σ H _ I h) fun us s1 ⟨vs, H1, I1, r1, q1⟩ => ?_) hs rfl))
  obtain ⟨z, ex, q⟩ := q1
  subst ex
  cases r1 with
  | cons r rr =>
    cases rr
    obtain ⟨t, rfl⟩ := r
    refine call_enumerate_str fun h' he hit hsz hk => wpAny_pyIter_enum he ?_
    have I2 : Inv X pins σ H1 { s1 with heap := h' } := I1.kept (t' := s1.toks) hk
    refine ⟨s1.heap.objs.size + 1, [s1.heap.objs.size + 1, s1.heap.objs.size], _, _, H1, rfl, I2, turn_enumS (s1.heap.objs.size + 1) s1.heap.objs.size z t, ⟨Nat.zero_le _, ⟨.none, he⟩, hit, Nat.succ_ne_self _⟩, fun b hb => ?_, q⟩
    have e' : b = s1.heap.objs.size + 1 ∨ b = s1.heap.objs.size := by simpa using hb
    have hle : s1.heap.objs.size ≤ b := by
      rcases e' with z | z
      · rw [z]; exact Nat.le_add_right _ _
      · rw [z]; exact Nat.le_refl _
    exact I1.fpOk hle (I1.hok.fresh hle)
theorem walk_enumS {z : Str} : Walk (Itn z) z.cps.size (fun _ => True) (fun i H v H' => ∃ T c, v = .ref T ∧ H T = none ∧ H' = upd H T (.tup [.int (i : Nat), .str ⟨#[c]⟩]) ∧ z.cps[i]? = some c) :=
  ⟨fun _ _ h _ => h, fun _ _ => Nat.le_refl _, fun _ _ _ _ _ _ y => y⟩
section
variable {X : Cx} {P : Program} {w : World} {K : PySem.W.Frag} {mg : Str → Option Value} {base : Heap} {N : List Str} {nm : List (Str × NameKind)} {j : Nat} {σ σ' : L2.St} {H G : Hp} {Q : VK} {D : Ends} {pos p tpos : Pos} {C : List (Addr × HO)} {elts : List Expr} {kk : Nat} {a : Expr} {body : List Stmt}
theorem i_enumS (c : CI X P w K mg base N nm j) {R : It → Hp → Prop} (hg : glB nm "enumerate" = true) (hm : mg "enumerate" = none) (hs : starEach [a] X.env = [(false, eval a X.env)]) (h : eS X a σ H fun x H1 => ∃ z, x = .str (S z) ∧ R (Itn (S z)) H1) :
    iS X (.Tuple elts kk tpos) (.Call (.Name "enumerate" p) [a] [] pos) σ H R :=
  ⟨_, pi_enumS (c.gl hg) (by rw [c.mg]; exact hm) (pa_cons eS_is pa_nil hs) hs, eS_mono h fun _ _ ⟨z, e, r⟩ => ⟨_, by rw [e], r⟩⟩
/-- for (k, sign) in enumerate(text): each turn a new pair, frozen -/
theorem on_enumS {z : List Nat} (Pv : Nat → L2.St → Hp → Prop) (h0 : Pv 0 σ H)
    (hs : ∀ i x σ H T H', z[i]? = some x → Pv i σ H → New H T (.tup [.int (i : Nat), .str (S [x])]) H' → gS X (.Tuple elts kk tpos) (.ref T) σ H' fun σ2 H2 => bS X body { D with nx := Pv (i + 1), ct := Pv (i + 1), bk := D.nx } σ2 H2) (hd : ∀ σ H, Pv z.length σ H → D.nx σ H) :
    ForOn X (.Tuple elts kk tpos) body D (Itn (S z)) σ H := ⟨_, _, _, walk_enumS, Pv, h0, fun _ _ _ _ _ => True.intro, fun i x σ H H' hi p ⟨T, ch, e1, e2, e3, hc⟩ => by
      subst e1
      exact hs i ch σ _ T H' (by simpa [S] using hc) p ⟨e2, e3⟩, fun σ H p => hd σ H (by simpa [S] using p)⟩
theorem swapped_folded {ts vs : List Expr} {k k' : Nat} {q q' : Pos} {env : Env} (h : vs.all (foldedForSure 8) = true) : swappedStores [.Tuple ts k q] (.Tuple vs k' q') env = pure none := by
  unfold swappedStores
  simp only [h, if_true]
  repeat (first | rfl | split)
/-- i, j = 0, 0: constants to names -/
theorem g_asgF {ts vs : List Expr} {k k' : Nat} {q q' : Pos} (h1 : List.map (fun x => x.snd) (assignEach [.Tuple ts k q] X.env) = [assign (.Tuple ts k q) X.env]) (hs : swapsWithSole [.Tuple ts k q] (.Tuple vs k' q') pos.line X.env = pure false) (h : vs.all (foldedForSure 8) = true) (hh : eS X (.Tuple vs k' q') σ H fun v H1 => gS X (.Tuple ts k q) v σ H1 D.nx) : sS X (.Assign [.Tuple ts k q] (.Tuple vs k' q') pos) D σ H :=
  g_asg h1 hs (swapped_folded h) hh
end
end Go

namespace Go
open PySem PySem.Spec PyProof.Rows L2

/-! an Int is a Nat -/
theorem nat_id (n : Nat) : (n : Int) = (n : Int) := rfl
theorem nat_0 : (0 : Int) = ((0 : Nat) : Int) := rfl
theorem nat_1 : (1 : Int) = ((1 : Nat) : Int) := rfl
theorem nat_2 : (2 : Int) = ((2 : Nat) : Int) := rfl
theorem nat_add {a b : Int} {n m : Nat} (h1 : a = n) (h2 : b = m) : a + b = ((n + m : Nat) : Int) := by omega
theorem nat_sub {a b : Int} {n m : Nat} (h1 : a = n) (h2 : b = m) (h : m ≤ n) : a - b = ((n - m : Nat) : Int) := by omega
theorem nat_any {a : Int} (h : 0 ≤ a) : a = ((a.toNat : Nat) : Int) := by omega
section
variable {X : Cx} {P : Program} {w : World} {K : PySem.W.Frag} {mg : Str → Option Value} {base : Heap} {N : List Str} {nm : List (Str × NameKind)} {j : Nat} {σ σ' : L2.St} {H G : Hp} {Q : VK} {D : Ends} {pos p tpos : Pos} {C : List (Addr × HO)} {e : Expr} {R : Bool → Hp → Prop}
theorem gd_get {z : List Nat} {n : Nat} (h : n < z.length) : z[n]? = some (z.getD n 0) := by
  rw [List.getElem?_eq_getElem h, List.getD_eq_getElem?_getD, List.getElem?_eq_getElem h]; rfl
theorem x_strN {z : List Nat} {i : Int} {n : Nat} (hi : i = n) (hn : n < z.length) (hz : z.length ≤ 1000000) (h : Q (.str (S [z.getD n 0])) H) : xS X (.str (S z)) (.int i) H Q := by
  subst hi
  exact x_str hz (atI_get (gd_get hn)) h
theorem o_eqS1 {a b : Nat} (h : Q (.bl (decide (a = b))) H) : oS X (compareOp .Eq) (.str (S [a])) (.str (S [b])) H Q := o_eqS (by rw [decide_eq_decide.mpr (show [a] = [b] ↔ a = b from List.singleton_inj)]; exact h)
theorem o_neS1 {a b : Nat} (h : Q (.bl (!decide (a = b))) H) : oS X (compareOp .NotEq) (.str (S [a])) (.str (S [b])) H Q := o_neS (by rw [decide_eq_decide.mpr (show [a] = [b] ↔ a = b from List.singleton_inj)]; exact h)
/-- i is a place of y and its sign there is that of t at k -/
theorem gd_and {y t : List Nat} {i k : Nat} (hk : k < t.length) : (decide ((i : Int) < (y.length : Int)) && decide (y.getD i 0 = t.getD k 0)) = decide (y[i]? = t[k]?) := by
  rw [gd_get hk]
  by_cases h : i < y.length
  · rw [decide_eq_true (show (i : Int) < (y.length : Int) by omega), Bool.true_and, gd_get h]
    exact decide_eq_decide.mpr ⟨fun e => by rw [e], fun e => Option.some.inj e⟩
  · rw [decide_eq_false (show ¬ (i : Int) < (y.length : Int) by omega), Bool.false_and, List.getElem?_eq_none (by omega)]
    exact (decide_eq_false (fun z => nomatch z)).symm
theorem gd_some {y : List Nat} {i x : Nat} : (decide ((i : Int) < (y.length : Int)) && decide (y.getD i 0 = x)) = decide (y[i]? = some x) := by
  by_cases h : i < y.length
  · rw [decide_eq_true (show (i : Int) < (y.length : Int) by omega), Bool.true_and, gd_get h]
    exact decide_eq_decide.mpr ⟨fun e => by rw [e], fun e => Option.some.inj e⟩
  · rw [decide_eq_false (show ¬ (i : Int) < (y.length : Int) by omega), Bool.false_and, List.getElem?_eq_none (by omega)]
    exact (decide_eq_false (fun z => nomatch z)).symm
/-! and, or whose ends meet: what they give is a Bool -/
theorem e_andJ {q r : Bool} (O : Own G C H) (h1 : q = true → eS X e σ H fun v H' => v = .bl r ∧ ∃ G', Own G' C H' ∧ Same G G') (k : ∀ H' G', Same G G' → Own G' C H' → Q (.bl (q && r)) H') : if q = true then eS X e σ H Q else Q (.bl false) H := by
  cases q with
  | true => exact eS_mono (h1 rfl) fun v H' ⟨e, G', O', s⟩ => by subst e; exact k H' G' s O'
  | false => exact k H G same_rfl O
theorem e_orJ {q r : Bool} {T : Prop} (O : Own G C H) (h1 : q = false → eS X e σ H fun v H' => v = .bl r ∧ ∃ G', Own G' C H' ∧ Same G G') (eT : Q (.bl true) H = T) (k : ∀ H' G', Same G G' → Own G' C H' → Q (.bl (q || r)) H') : if q = true then T else eS X e σ H Q := by
  subst eT
  cases q with
  | false => exact eS_mono (h1 rfl) fun v H' ⟨e, G', O', s⟩ => by subst e; exact k H' G' s O'
  | true => exact k H G same_rfl O
theorem w_andJ {q r : Bool} (O : Own G C H) (h1 : q = true → wS X e σ H fun v H' => v = r ∧ ∃ G', Own G' C H' ∧ Same G G') (k : ∀ H' G', Same G G' → Own G' C H' → R (q && r) H') : if q = true then wS X e σ H R else R false H := by
  cases q with
  | true => exact wS_mono (h1 rfl) fun v H' ⟨e, G', O', s⟩ => by subst e; exact k H' G' s O'
  | false => exact k H G same_rfl O
theorem w_orJ {q r : Bool} {T : Prop} (O : Own G C H) (h1 : q = false → wS X e σ H fun v H' => v = r ∧ ∃ G', Own G' C H' ∧ Same G G') (eT : R true H = T) (k : ∀ H' G', Same G G' → Own G' C H' → R (q || r) H') : if q = true then T else wS X e σ H R := by
  subst eT
  cases q with
  | false => exact wS_mono (h1 rfl) fun v H' ⟨e, G', O', s⟩ => by subst e; exact k H' G' s O'
  | true => exact k H G same_rfl O
theorem o_notInI (c : CI X P w K mg base N nm j) {i : Int} {p : Addr} {xs : List Int} (hp : SqL K H p (xs.map V.int)) (h : Q (.bl (!decide (i ∈ xs))) H) : oS X (compareOp .NotIn) (.int i) (.ref p) H Q :=
  o_notInQ c (.inl hp) rfl (by simp [flatV]) (by rw [inV_int]; exact h)
theorem c_isiT (c : CI X P w K mg base N nm j) {x : V} {T n : String} {b : Bool} (t : TyOf K H x (.type T)) (e : PySem.W.kitOne K (.type T) (.type n) = some b) (h : Q (.bl b) H) : cS X (.builtin "isinstance") [x, .ty n] H Q := c_isi c (.base t) e h
theorem x_lstR (c : CI X P w K mg base N nm j) {r p : Addr} {ps : List Addr} {i : Int} {k : Nat} (hr : SqL K H r (ps.map V.ref)) (hi : i = k) (hp : ps[k]? = some p) (h : Q (.ref p) H) : xS X (.ref r) (.int i) H Q := by
  subst hi
  exact x_lst c hr (atI_get (by rw [List.getElem?_map, hp]; rfl)) h
/-! objects by what they are of -/
/-- at ts stand the objects f x of the xs -/
def Rp {α : Type} (f : α → HO) (G : Hp) (ts : List Addr) (xs : List α) : Prop := ts.map G = xs.map fun x => some (f x)
section
variable {α : Type} {f : α → HO} {G' : Hp} {ts : List Addr} {xs : List α}
theorem Rp.len (h : Rp f G ts xs) : ts.length = xs.length := by have := congrArg List.length h; simpa using this
theorem Rp.nil : Rp f G [] [] := rfl
theorem Rp.up (h : Rp f G ts xs) (s : Same G G') : Rp f G' ts xs := by
  unfold Rp at h ⊢
  induction ts generalizing xs with
  | nil => cases xs with
    | nil => rfl
    | cons _ _ => simp at h
  | cons t ts ih =>
    cases xs with
    | nil => simp at h
    | cons x xs =>
      simp only [List.map_cons, List.cons.injEq] at h ⊢
      exact ⟨s _ _ h.1, ih h.2⟩
theorem Rp.app {ts' : List Addr} {xs' : List α} (h : Rp f G ts xs) (h' : Rp f G ts' xs') : Rp f G (ts ++ ts') (xs ++ xs') := by
  unfold Rp at h h' ⊢
  rw [List.map_append, List.map_append, h, h']
theorem Rp.one {t : Addr} {x : α} (h : G t = some (f x)) : Rp f G [t] [x] := by unfold Rp; simp [h]
theorem Rp.get (h : Rp f G ts xs) {i : Nat} {t : Addr} (ht : ts[i]? = some t) : ∃ x, xs[i]? = some x ∧ G t = some (f x) := by
  unfold Rp at h
  have e := congrArg (fun l : List (Option HO) => l[i]?) h
  simp only [List.getElem?_map, ht, Option.map_some] at e
  cases hx : xs[i]? with
  | none => rw [hx] at e; cases e
  | some x => rw [hx] at e; exact ⟨x, rfl, Option.some.inj e⟩
end
theorem map_ref {ts : List Addr} {i : Nat} {x : V} (h : (ts.map V.ref)[i]? = some x) : ∃ t, ts[i]? = some t ∧ x = .ref t := by
  rw [List.getElem?_map] at h
  obtain ⟨t, h1, h2⟩ := Option.map_eq_some_iff.mp h
  exact ⟨t, h1, h2.symm⟩
/-! comprehensions whose target is a pair of names -/
theorem e_lc2 (c : CI X P w K mg base N nm j) {y1 y2 : Str} {i1 i2 : Nat} {p1 p2 tp : Pos} {kk : Nat} {iter elt : Expr} {ifs : List Expr} {scope : Scope} (h1 : Ix N y1 i1) (h2 : Ix N y2 i2) (ok : blkC N (scOf nm) scope [(y1, i1), (y2, i2)] = true) (hs : ∀ x, foldedSetIterable iter X.env x = pure x)
    (h : iS X (.Tuple [.Name y1 p1, .Name y2 p2] kk tp) iter σ H fun J H1 => LcOn X scope (.Tuple [.Name y1 p1, .Name y2 p2] kk tp) ifs elt [i1, i2] (fun D H => Q (.ref D) H) J σ H1) : eS X (.ListComp elt [⟨.Tuple [.Name y1 p1, .Name y2 p2] kk tp, iter, ifs, 0⟩] scope pos) σ H Q :=
  e_lc c [(y1, i1), (y2, i2)] (blkOk_by ok) hs h
/-- a comprehension of any target and tests, that may write its own cells -/
theorem lc_own {tg elt : Expr} {ifs : List Expr} {scope : Scope} {vs : List Nat} {n : Nat} {Gw : Hp → Prop} {Y : Nat → Hp → V → Hp → Prop} {J : It} {Qd : Addr → Hp → Prop} (Inv : Nat → List V → Hp → List (Addr × HO) → Prop) (c : CI X P w K mg base N nm j) (hk : scope.kind = .function) (W : Walk J n Gw Y) (hn : n ≤ 1000000) (O : Own G C H) (h0 : Inv 0 [] G C)
    (hG : ∀ G' C' H', Same G G' → Own G' C' H' → Gw H')
    (hs : ∀ m x acc G' C' A H1 H2, m < n → Inv m acc G' C' → Y m H1 x H2 → Own G' ((A, .lst acc) :: C') H1 → Same G G' → ∀ X', CI X' P w K mg base N scope.names j → gS X' tg x (wipe σ vs) H2 fun σ2 H3 => wipe σ2 vs = wipe σ vs ∧ ∀ X', CI X' P w K mg base N scope.names j → tsS X' ifs σ2 H3 fun b H4 =>
      if b = true then ∀ X', CI X' P w K mg base N scope.names j → eS X' elt σ2 H4 fun y H5 => ∃ G4 C4, Own G4 ((A, .lst acc) :: C4) H5 ∧ Same G' G4 ∧ Inv (m + 1) (acc ++ [y]) G4 C4 else ∃ G4 C4, Own G4 ((A, .lst acc) :: C4) H4 ∧ Same G' G4 ∧ Inv (m + 1) acc G4 C4)
    (hd : ∀ acc G' C' A H', acc.length ≤ n → Inv n acc G' C' → Own G' ((A, .lst acc) :: C') H' → Same G G' → Qd A H') : LcOn X scope tg ifs elt vs Qd J σ H := by
  intro A hA
  refine ⟨n, Gw, Y, W, fun m H => ∃ acc G' C', acc.length ≤ m ∧ Inv m acc G' C' ∧ Own G' ((A, .lst acc) :: C') H ∧ Same G G', ⟨[], G, C, Nat.le_refl _, h0, O.cell hA, same_rfl⟩, ?_, ?_, ?_⟩
  · rintro m H' hm ⟨acc, G', C', _, _, O', s⟩
    exact hG _ _ _ s O'
  · rintro m x H1 H2 hm ⟨acc, G', C', hl, iv, O', s⟩ hy X' hb
    obtain ⟨t, p, q⟩ := hs m x acc G' C' A H1 H2 hm iv hy O' s X' (c.blk hb hk)
    refine ⟨fun v σ H R => ∃ Q, t v σ H Q ∧ ∀ σ H, Q σ H → R σ H, ⟨fun pins s σ H v u Q I r ⟨Q', h, m⟩ => thn (p.run pins s σ H v u Q' I r h) fun _ s' q => ?_⟩, _, q, ?_⟩
    · obtain ⟨σ', H', I', q⟩ := q
      exact ⟨σ', H', I', m σ' H' q⟩
    · rintro σ2 H3 ⟨hw, q⟩
      refine ⟨hw, fun X2 hb2 => tsS_mono (q X2 (c.blk hb2 hk)) fun b H4 q => ?_⟩
      cases b with
      | false =>
        obtain ⟨G4, C4, O4, s4, iv4⟩ := q
        exact ⟨acc, G4, C4, by omega, iv4, O4, same_tr s s4⟩
      | true =>
        intro X3 hb3
        refine eS_mono (q X3 (c.blk hb3 hk)) fun y H5 ⟨G4, C4, O4, s4, iv4⟩ => ?_
        exact ⟨acc, O4.at, sz_lt (by omega), acc ++ [y], G4, C4, by simp [hl], iv4, O4.write, same_tr s s4⟩
  · rintro H' ⟨acc, G', C', hl, iv, O', s⟩
    exact hd _ _ _ _ _ hl iv O' s
/-- .. over a frozen list -/
theorem lc_list {tg elt : Expr} {ifs : List Expr} {scope : Scope} {vs : List Nat} {a : Addr} {xs : List V} {Qd : Addr → Hp → Prop} (Inv : Nat → List V → Hp → List (Addr × HO) → Prop) (c : CI X P w K mg base N nm j) (hk : scope.kind = .function) (hq : SqL K G a xs) (hn : xs.length ≤ 1000000) (O : Own G C H) (h0 : Inv 0 [] G C)
    (hs : ∀ m x acc G' C' A H1, xs[m]? = some x → Inv m acc G' C' → Own G' ((A, .lst acc) :: C') H1 → Same G G' → ∀ X', CI X' P w K mg base N scope.names j → gS X' tg x (wipe σ vs) H1 fun σ2 H3 => wipe σ2 vs = wipe σ vs ∧ ∀ X', CI X' P w K mg base N scope.names j → tsS X' ifs σ2 H3 fun b H4 =>
      if b = true then ∀ X', CI X' P w K mg base N scope.names j → eS X' elt σ2 H4 fun y H5 => ∃ G4 C4, Own G4 ((A, .lst acc) :: C4) H5 ∧ Same G' G4 ∧ Inv (m + 1) (acc ++ [y]) G4 C4 else ∃ G4 C4, Own G4 ((A, .lst acc) :: C4) H4 ∧ Same G' G4 ∧ Inv (m + 1) acc G4 C4)
    (hd : ∀ acc G' C' A H', acc.length ≤ xs.length → Inv xs.length acc G' C' → Own G' ((A, .lst acc) :: C') H' → Same G G' → Qd A H') : LcOn X scope tg ifs elt vs Qd (Itl X.K a) σ H := by
  rw [c.K]
  exact lc_own Inv c hk (walk_list (xs := xs)) hn O h0 (fun G' C' H' s O' => sql_up O' (s.seq hq)) (fun m x acc G' C' A H1 H2 hm iv hy O' s X' c' => by
    obtain ⟨rfl, hx⟩ := hy
    exact hs m x acc G' C' A _ hx iv O' s X' c') hd
theorem take_flat {α β : Type} {f : α → List β} {ws : List α} {m : Nat} {p : α} (h : ws[m]? = some p) : (ws.take (m + 1)).flatMap f = (ws.take m).flatMap f ++ f p := by
  rw [List.take_add_one, h, List.flatMap_append]; simp
theorem take_filt {α : Type} {P : α → Bool} {ws : List α} {m : Nat} {p : α} (h : ws[m]? = some p) : (ws.take (m + 1)).filter P = (ws.take m).filter P ++ (if P p = true then [p] else []) := by
  rw [List.take_add_one, h, List.filter_append]
  cases e : P p <;> simp [e]
theorem take_map {α β : Type} {f : α → β} {ws : List α} {m : Nat} {p : α} (h : ws[m]? = some p) : (ws.take (m + 1)).map f = (ws.take m).map f ++ [f p] := by
  rw [List.take_add_one, h, List.map_append]; rfl
theorem own_now (O : Own G C H) {G0 : Hp} (s : Same G0 G) : ∃ G', Own G' C H ∧ Same G0 G' := ⟨G, O, s⟩
end
end Go

namespace Go
open PySem PySem.Spec PyProof.Rows L2

/-! data: what is equal -/
def Shal (n : Nat) (d : PyData) : Prop := d.plain = true ∧ d.depth ≤ n
theorem shal_non {n : Nat} : Shal (n + 1) .none := ⟨rfl, by simp [PyData.depth]⟩
theorem shal_bl {n : Nat} {b : Bool} : Shal (n + 1) (.bool b) := ⟨rfl, by simp [PyData.depth]⟩
theorem shal_int {n : Nat} {i : Int} : Shal (n + 1) (.int i) := ⟨rfl, by simp [PyData.depth]⟩
theorem shal_str {n : Nat} {x : Str} : Shal (n + 1) (.str x) := ⟨rfl, by simp [PyData.depth]⟩
theorem shal_all {n : Nat} : ∀ {xs : List PyData}, (∀ x ∈ xs, Shal n x) → PyData.plainAll xs = true ∧ PyData.depthAll xs ≤ n
  | [], _ => ⟨rfl, by simp [PyData.depthAll]⟩
  | x :: xs, h => by
    obtain ⟨h1, h2⟩ := h x List.mem_cons_self
    obtain ⟨h3, h4⟩ := shal_all (xs := xs) fun y hy => h y (List.mem_cons_of_mem _ hy)
    exact ⟨by rw [PyData.plainAll, h1, h3]; rfl, by rw [PyData.depthAll]; omega⟩
theorem shal_list {n : Nat} {xs : List PyData} (h : ∀ x ∈ xs, Shal n x) : Shal (n + 1) (.list xs) := by
  obtain ⟨h1, h2⟩ := shal_all h
  exact ⟨h1, by rw [PyData.depth]; omega⟩
theorem shal_tup {n : Nat} {xs : List PyData} (h : ∀ x ∈ xs, Shal n x) : Shal (n + 1) (.tuple xs) := by
  obtain ⟨h1, h2⟩ := shal_all h
  exact ⟨h1, by rw [PyData.depth]; omega⟩
theorem Shal.up {n m : Nat} {d : PyData} (h : Shal n d) (k : n ≤ m) : Shal m d := ⟨h.1, Nat.le_trans h.2 k⟩
theorem all_nil {p : PyData → Prop} : ∀ x ∈ ([] : List PyData), p x := fun _ h => nomatch h
theorem all_cons {p : PyData → Prop} {d : PyData} {ds : List PyData} (h : p d) (t : ∀ x ∈ ds, p x) : ∀ x ∈ d :: ds, p x := fun x hx => by
  rcases List.mem_cons.mp hx with rfl | hx
  · exact h
  · exact t x hx
theorem all_map {α : Type} {p : PyData → Prop} {f : α → PyData} (h : ∀ a, p (f a)) (l : List α) : ∀ x ∈ l.map f, p x := fun x hx => by
  obtain ⟨a, _, rfl⟩ := List.mem_map.mp hx
  exact h a
theorem dp_map {α : Type} {K : PySem.W.Frag} {H : Hp} {f : α → V} {g : α → PyData} (h : ∀ a, Dp K H (f a) (g a)) : ∀ l : List α, DpAll K H (l.map f) (l.map g)
  | [] => .nil
  | a :: l => .cons (h a) (dp_map h l)
section
variable {X : Cx} {P : Program} {w : World} {K : PySem.W.Frag} {mg : Str → Option Value} {base : Heap} {N : List Str} {nm : List (Str × NameKind)} {j : Nat} {σ σ' : L2.St} {H G : Hp} {Q : VK}
theorem o_eqP (c : CI X P w K mg base N nm j) {x y : V} {d e : PyData} (hx : Dp K H x d) (hy : Dp K H y e) (h1 : Shal 64 d) (h2 : Shal 64 e) (h : Q (.bl (PyData.eqv d e)) H) : oS X (compareOp .Eq) x y H Q := by
  refine ⟨fun x y H Q => ∃ d e, Dp X.K H x d ∧ Dp X.K H y e ∧ Shal 64 d ∧ Shal 64 e ∧ Q (.bl (PyData.eqv d e)) H, ?_, d, e, by rw [c.K]; exact hx, by rw [c.K]; exact hy, h1, h2, h⟩
  intro pins s σ H x y v u Q I rx ry h
  obtain ⟨d, e, hd, he, sd, se, q⟩ := h
  obtain ⟨as, r1⟩ := Dp.reads I d x v hd rx
  obtain ⟨bs, r2⟩ := Dp.reads I e y u he ry
  have := c.u64
  have := sd.2
  exact PySem.SeqAt.eq_plain r1 r2 sd.1 se.1 (by omega) ⟨.bl _, H, I, rfl, q⟩
theorem o_neP (c : CI X P w K mg base N nm j) {x y : V} {d e : PyData} (hx : Dp K H x d) (hy : Dp K H y e) (h1 : Shal 64 d) (h2 : Shal 64 e) (h : Q (.bl (!PyData.eqv d e)) H) : oS X (compareOp .NotEq) x y H Q := by
  refine ⟨fun x y H Q => ∃ d e, Dp X.K H x d ∧ Dp X.K H y e ∧ Shal 64 d ∧ Shal 64 e ∧ Q (.bl (!PyData.eqv d e)) H, ?_, d, e, by rw [c.K]; exact hx, by rw [c.K]; exact hy, h1, h2, h⟩
  intro pins s σ H x y v u Q I rx ry h
  obtain ⟨d, e, hd, he, sd, se, q⟩ := h
  obtain ⟨as, r1⟩ := Dp.reads I d x v hd rx
  obtain ⟨bs, r2⟩ := Dp.reads I e y u he ry
  have := c.u64
  have := sd.2
  exact PySem.SeqAt.ne_plain r1 r2 sd.1 se.1 (by omega) ⟨.bl _, H, I, rfl, q⟩
theorem o_eqSame (c : CI X P w K mg base N nm j) {x y : V} {d : PyData} (hx : Dp K H x d) (hy : Dp K H y d) (h1 : Shal 64 d) (h : Q (.bl true) H) : oS X (compareOp .Eq) x y H Q :=
  o_eqP c hx hy h1 h1 (by rw [PySem.SeqAt.eqv_refl_plain _ h1.1]; exact h)
theorem o_neSame (c : CI X P w K mg base N nm j) {x y : V} {d : PyData} (hx : Dp K H x d) (hy : Dp K H y d) (h1 : Shal 64 d) (h : Q (.bl false) H) : oS X (compareOp .NotEq) x y H Q :=
  o_neP c hx hy h1 h1 (by rw [PySem.SeqAt.eqv_refl_plain _ h1.1]; exact h)
end
end Go

namespace Go
open PySem PySem.Spec PyProof.Rows L2

theorem i_true {p : Prop} [Decidable p] {A B : Prop} (h : p) (k : A) : if decide p = true then A else B := by rw [if_pos (decide_eq_true h)]; exact k
theorem i_false {p : Prop} [Decidable p] {A B : Prop} (h : ¬ p) (k : B) : if decide p = true then A else B := by rw [if_neg (by simpa using h)]; exact k
/-! how often a sign is in a text -/
theorem sub_one (w : List Nat) (c i : Nat) : Builtin.Str.subAt (S w) (S [c]) i = decide (w[i]? = some c) := by
  have e1 : (S w).cps = w.toArray := rfl
  have e2 : (S [c]).cps = #[c] := rfl
  have e3 : (S [c]).length = 1 := rfl
  unfold Builtin.Str.subAt
  rw [e1, e2, e3, Bool.eq_iff_iff, beq_iff_eq, decide_eq_true_eq]
  have e4 : (w.toArray.extract i (i + 1)) = ((w.drop i).take 1).toArray := by
    simp [List.extract_toArray, List.extract_eq_drop_take]
  rw [e4]
  constructor
  · intro h
    have h : (w.drop i).take 1 = [c] := by simpa using congrArg Array.toList h
    have := congrArg (fun l : List Nat => l[0]?) h
    simpa [List.getElem?_take, List.getElem?_drop] using this
  · intro h
    have hi := (List.getElem?_eq_some_iff.mp h)
    obtain ⟨hl, hv⟩ := hi
    rw [List.drop_eq_getElem_cons hl, hv]; rfl
theorem occ_cnt (w : List Nat) (c : Nat) : ∀ (k i : Nat) (st : Array Nat × Nat), i + k = w.length + 1 → st.2 ≤ i → st.1.size ≤ i → (forIn (List.range' i k) st (StrLaws.occBody (S w) (S [c]) w.length (w.length + 1))).run.fst.size = st.1.size + (w.drop i).count c
  | 0, i, st, h, _, _ => by
    rw [List.drop_eq_nil_of_le (by omega)]
    show st.1.size = _
    simp
  | k + 1, i, st, h, h1, h2 => by
    rw [List.range'_succ, List.forIn_cons]
    unfold StrLaws.occBody
    rw [sub_one, show (S [c]).length = 1 from rfl]
    by_cases e : w[i]? = some c
    · obtain ⟨hl, hv⟩ := List.getElem?_eq_some_iff.mp e
      rw [if_pos ⟨⟨⟨by omega, h1⟩, by omega⟩, decide_eq_true e⟩]
      have ih := occ_cnt w c k (i + 1) (st.1.push i, i + 1) (by omega) (Nat.le_refl _) (by simp; omega)
      refine Eq.trans ih ?_
      rw [List.drop_eq_getElem_cons hl, hv]
      simp; omega
    · rw [if_neg (fun q => e (of_decide_eq_true q.2))]
      have ih := occ_cnt w c k (i + 1) (st.1, st.2) (by omega) (by simp; omega) (by simp; omega)
      refine Eq.trans ih ?_
      by_cases hl : i < w.length
      · rw [List.drop_eq_getElem_cons hl]
        have hv : w[i] ≠ c := fun q => e (by rw [List.getElem?_eq_getElem hl, q])
        rw [List.count_cons_of_ne hv]
      · rw [List.drop_eq_nil_of_le (by omega), List.drop_eq_nil_of_le (by omega)]
theorem txt_count (w : List Nat) (c : Nat) : Txt.count (S w) (S [c]) = ((w.count c : Nat) : Int) := by
  unfold Txt.count
  rw [StrLaws.occ_eq, S_len]
  have := occ_cnt w c (w.length + 1) 0 (#[], 0) (by omega) (Nat.le_refl _) (Nat.le_refl _)
  rw [Array.length_toList, show w.length + 1 - 0 = w.length + 1 by omega, this]
  simp
theorem occ_abc : ∀ k : Fin 26, Builtin.Str.occurrences (S (cs "abcdefghijklmnopqrstuvwxyza")) (S [97 + k.val]) 0 (S (cs "abcdefghijklmnopqrstuvwxyza")).length 1 = [k.val] := by decide +kernel
section
variable {X : Cx} {P : Program} {w : World} {K : PySem.W.Frag} {mg : Str → Option Value} {base : Heap} {N : List Str} {nm : List (Str × NameKind)} {j : Nat} {σ σ' : L2.St} {H G : Hp} {Q : VK} {pos p p2 pe : Pos} {a b e : Expr}
theorem m_count1 {w : List Nat} {c : Nat} (h : Q (.int (w.count c : Nat)) H) : mS X "str.count" (.str (S w)) [.str (S [c])] H Q := ⟨_, mt_count, _, _, rfl, rfl, by rw [txt_count]; exact h⟩
theorem m_count0 {w : List Nat} (h : Q (.int (w.count 48 : Nat)) H) : mS X "str.count" (.str (S w)) [.str (S (cs "0"))] H Q := by rw [show cs "0" = [48] by decide +kernel]; exact m_count1 h
theorem m_countI {w : List Nat} (h : Q (.int (w.count 49 : Nat)) H) : mS X "str.count" (.str (S w)) [.str (S (cs "1"))] H Q := by rw [show cs "1" = [49] by decide +kernel]; exact m_count1 h
theorem m_indexA {x : Nat} (h1 : 97 ≤ x ∧ x ≤ 122) (h : Q (.int (x - 97 : Nat)) H) : mS X "str.index" (.str (S (cs "abcdefghijklmnopqrstuvwxyza"))) [.str (S [x])] H Q := by
  have e := occ_abc ⟨x - 97, by omega⟩
  simp only [show 97 + (x - 97) = x by omega] at e
  exact ⟨_, mt_sindex, _, _, _, _, rfl, rfl, e, h⟩
theorem sw_cell {elt : Expr} {gs : List Comprehension} {scope : Scope} {pos py : Pos} {y : Str} {l : Nat} {env : Env} (hy : env.scope.names.lookup y = some .cell) : swapsWith (.ListComp elt gs scope pos) (some (.Name y py)) l env = pure false := by
  have ky : env.kindOf y = some .cell := hy
  unfold swapsWith
  simp only [ky, show (some NameKind.cell == some NameKind.local) = false from rfl, Bool.and_false, Bool.false_and]
theorem s_setC {D : Ends} {elt : Expr} {gs : List Comprehension} {scope : Scope} {spos : Pos} (c : CI X P w K mg base N nm j) {y : Str} {i : Nat} (hi : Ix N y i) (hy : nm.lookup y = some NameKind.cell) (h : eS X (.ListComp elt gs scope pos) σ H fun v H1 => D.nx (σ.set i (some v)) H1) : sS X (.Assign [.Name y p] (.ListComp elt gs scope pos) spos) D σ H :=
  s_set c (sw_cell (c.ce _ hy).1) hi (by unfold locB; rw [hy]; rfl) h
/-- list(range(a)) -/
def rgL (n : Nat) : List Int := (List.range n).map fun i => ((i : Nat) : Int)
theorem e_listRg1 (c : CI X P w K mg base N nm j) (g1 : glB nm "list" = true) (m1 : mg "list" = none) (g2 : glB nm "range" = true) (m2 : mg "range" = none) (hs : starEach [a] X.env = [(false, eval a X.env)])
    (hs2 : starEach [.Call (.Name "range" p2) [a] [] pe] X.env = (false, eval (.Call (.Name "range" p2) [a] [] pe) X.env) :: starEach [] X.env)
    (h : eS X a σ H fun x H1 => ∃ n : Int, x = .int n ∧ 0 ≤ n ∧ n ≤ 1000000 ∧ ∀ q H', New H1 q (.lst ((rgL n.toNat).map V.int)) H' → Q (.ref q) H') : eS X (.Call (.Name "list" p) [.Call (.Name "range" p2) [a] [] pe] [] pos) σ H Q :=
  ⟨_, pe_listRg c.calm (c.gl g1) (by rw [c.mg]; exact m1) (prg_1 (c.gl g2) (by rw [c.mg]; exact m2) eS_is hs) hs2, eS_mono h fun x H1 ⟨n, e, h0, h1, q⟩ => ⟨n, e, RgOk.of_le (by omega) (by omega) (by omega) (by omega), fun q' hq => q q' _ ⟨hq, by
    have e : rgV 0 n = (rgL n.toNat).map V.int := by
      unfold rgV rgL
      rw [List.map_map, show (n - 0).toNat = n.toNat by omega]
      exact List.map_congr_left fun i _ => by show V.int (0 + (i : Int)) = V.int i; rw [Int.zero_add]
    rw [e]⟩⟩⟩
end
end Go

namespace Go
open PySem PySem.Spec PyProof.Rows L2

/-- the signs of two texts side by side, in new pairs -/
def Itzs (x y : Str) : It := ⟨fun i _ => i < x.cps.size ∧ i < y.cps.size, fun i H v H' => ∃ T c d, v = .ref T ∧ H T = none ∧ H' = upd H T (.tup [.str ⟨#[c]⟩, .str ⟨#[d]⟩]) ∧ x.cps[i]? = some c ∧ y.cps[i]? = some d, fun i _ => x.cps.size ≤ i ∨ y.cps.size ≤ i⟩
theorem turn_zipS {P : Program} {w : World} {K : PySem.W.Frag} {elts : List Expr} {kk : Nat} {tpos : Pos} (z TI TO i1 i2 : Addr) (x y : Str) (t u : Tok) (S : ZipSep2 z TI TO i1 i2 [i1] [i2]) :
    Turn P w K (.Tuple elts kk tpos) (Itzs x y) [z, TI, TO, i1, i2] z (fun i h => (i ≤ x.cps.size ∧ i ≤ y.cps.size) ∧ IsZip h z TI TO .none ∧ IsTupOf2 h TI (.ref i1) (.ref i2) ∧ (∃ a b, IsTupOf2 h TO a b) ∧ h.IsStrIter i1 (strIterType x) x t i ∧ h.IsStrIter i2 (strIterType y) y u i) where
  mem := by simp
  obj := fun i h st c hc => by
    obtain ⟨_, hz, hTI, ⟨a, b, hTO⟩, ⟨o1, e1, _, d1⟩, ⟨o2, e2, _, d2⟩⟩ := st
    have e' : c = z ∨ c = TI ∨ c = TO ∨ c = i1 ∨ c = i2 := by simpa using hc
    rcases e' with q | q | q | q | q
    · rw [q]; exact ⟨_, hz, fun v q => nomatch q⟩
    · rw [q]; exact ⟨_, hTI, fun v q => nomatch q⟩
    · rw [q]; exact ⟨_, hTO, fun v q => nomatch q⟩
    · rw [q]; exact ⟨o1, e1, fun v q => by rw [d1] at q; cases q⟩
    · rw [q]; exact ⟨o2, e2, fun v q => by rw [d2] at q; cases q⟩
  keep := fun i h h' st k => by
    obtain ⟨hl, hz, hTI, ⟨a, b, hTO⟩, ⟨o1, e1, r1⟩, ⟨o2, e2, r2⟩⟩ := st
    exact ⟨hl, k z (by simp) _ hz, k TI (by simp) _ hTI, ⟨a, b, k TO (by simp) _ hTO⟩, ⟨o1, k i1 (by simp) _ e1, r1⟩, ⟨o2, k i2 (by simp) _ e2, r2⟩⟩
  item := by
    intro X hP hw hK hc i pins s σ H E I hf st hg
    subst hP hw hK
    obtain ⟨hl, hz, hTI, ⟨a0, b0, hTO⟩, h1, h2⟩ := st
    have D1 : Draws X.prog X.w X.A.in1 i1 [i1] x.cps.size (fun i v => ∃ c u, x.cps[i]? = some c ∧ v = .str ⟨#[c]⟩ u) (fun i h => h.IsStrIter i1 (strIterType x) x t i) := Draws.text (show X.A.in1.handled = none from I.ok.hd hc) i1 x t
    have D2 : Draws X.prog X.w X.A.in1 i2 [i2] y.cps.size (fun i v => ∃ c u, y.cps[i]? = some c ∧ v = .str ⟨#[c]⟩ u) (fun i h => h.IsStrIter i2 (strIterType y) y u i) := Draws.text (show X.A.in1.handled = none from I.ok.hd hc) i2 y u
    have hzl : z < s.heap.objs.size := Heap.lt_size hz
    refine wpAny_pyNext_zipD2_item S D1 D2 hz hTI hTO h1 h2 hg.1 hg.2 fun x1 x2 h' tk p1 p2 z' TO' h1' h2' hT hsz hk => ?_
    obtain ⟨c1, u1, hc1, rfl⟩ := p1
    obtain ⟨c2, u2, hc2, rfl⟩ := p2
    refine ⟨_, rfl, wpAny_letOwnedTupleGo_zip (s := { s with heap := h', toks := tk }) z' fun h'' z'' sb => ?_⟩
    have hT2 : h''.get? s.heap.objs.size = some { cls := .type "tuple", data := .seq #[.str ⟨#[c1]⟩ u1, .str ⟨#[c2]⟩ u2] } := (sb.2 _ (Nat.ne_of_gt hzl)).trans hT
    have new : ObjOk X.prog X.w (upd H s.heap.objs.size (.tup [.str ⟨#[c1]⟩, .str ⟨#[c2]⟩])) h'' s.heap.objs.size (.tup [.str ⟨#[c1]⟩, .str ⟨#[c2]⟩]) :=
      ⟨by show 2 ≤ sizeLine; decide, [.str ⟨#[c1]⟩ u1, .str ⟨#[c2]⟩ u2], .cons ⟨_, rfl⟩ (.cons ⟨_, rfl⟩ .nil), ⟨_, hT2, rfl, _, rfl⟩⟩
    have I1 : Inv X pins σ (upd H s.heap.objs.size (.tup [.str ⟨#[c1]⟩, .str ⟨#[c2]⟩])) { s with heap := h'', toks := tk } :=
      I.turnedNew (ch := [z, TI, TO, i1, i2]) (fun c o hb q => (sb.2 c (fun q' => hb (by simp [q']))).trans (hk c o (fun q' => hb (by simp [q'])) (fun q' => hb (by simp [q'])) (fun q' => hb (by simp [q'])) (fun q' => hb (by simp [q'])) q)) hf (Nat.le_refl _) new
    refine ⟨.ref s.heap.objs.size, _, I1, rfl, ⟨_, c1, c2, rfl, I.hok.fresh (Nat.le_refl _), rfl, hc1, hc2⟩, ⟨hg, z'', ?_, ⟨.str ⟨#[c1]⟩ u1, .str ⟨#[c2]⟩ u2, ?_⟩, ?_, ?_⟩, fun c hcm => ?_⟩
    · exact (sb.2 _ S.TIz).trans (hk _ _ S.TIz S.TITO S.TIi1 S.TIi2 hTI)
    · exact (sb.2 _ S.TOz).trans TO'
    · obtain ⟨o, ho, r⟩ := h1'
      exact ⟨o, (sb.2 _ S.zi1.symm).trans ho, r⟩
    · obtain ⟨o, ho, r⟩ := h2'
      exact ⟨o, (sb.2 _ S.zi2.symm).trans ho, r⟩
    · have hlt : c < s.heap.objs.size := by
        have e' : c = z ∨ c = TI ∨ c = TO ∨ c = i1 ∨ c = i2 := by simpa using hcm
        rcases e' with q | q | q | q | q
        · rw [q]; exact hzl
        · rw [q]; exact Heap.lt_size hTI
        · rw [q]; exact Heap.lt_size hTO
        · rw [q]; obtain ⟨_, e1, _⟩ := h1; exact Heap.lt_size e1
        · rw [q]; obtain ⟨_, e2, _⟩ := h2; exact Heap.lt_size e2
      rw [upd_ne (Nat.ne_of_lt hlt)]
      exact (hf c hcm).1
  done := by
    intro X hP hw hK hc i pins s σ H E I hf st hg
    subst hP hw hK
    obtain ⟨hl, hz, hTI, ⟨a0, b0, hTO⟩, h1, h2⟩ := st
    have D1 : Draws X.prog X.w X.A.in1 i1 [i1] x.cps.size (fun i v => ∃ c u, x.cps[i]? = some c ∧ v = .str ⟨#[c]⟩ u) (fun i h => h.IsStrIter i1 (strIterType x) x t i) := Draws.text (show X.A.in1.handled = none from I.ok.hd hc) i1 x t
    have D2 : Draws X.prog X.w X.A.in1 i2 [i2] y.cps.size (fun i v => ∃ c u, y.cps[i]? = some c ∧ v = .str ⟨#[c]⟩ u) (fun i h => h.IsStrIter i2 (strIterType y) y u i) := Draws.text (show X.A.in1.handled = none from I.ok.hd hc) i2 y u
    have he : i = x.cps.size ∨ i = y.cps.size := by
      have hg : x.cps.size ≤ i ∨ y.cps.size ≤ i := hg
      omega
    exact wpAny_pyNext_zipD2_end S D1 D2 hz hTI hTO h1 h2 hl.1 hl.2 he fun h' tk hk => ⟨rfl, I.turnedL (ch := [z, TI, TO, i1, i2]) (fun c o hb q =>
      hk c o (fun q' => hb (by simp [q'])) (fun q' => hb (by simp [q'])) (fun q' => hb (by simp [q'])) (fun q' => hb (by simp [q'])) q) hf⟩
  self := fun A i s Q E st h => wpAny_pyIter_zip st.2.1 h
def iZipS (ta : TA) : TI := fun σ H R => ta σ H fun vs H1 => ∃ x y, vs = [.str x, .str y] ∧ R (Itzs x y) H1
theorem pi_zipS {X : Cx} {e e2 : Expr} {ta : TA} {p pos tpos : Pos} {elts : List Expr} {kk : Nat} (hg : Gl X "zip") (hm : X.mg "zip" = none) (ha : PA X [e, e2] ta)
    (hs : starEach [e, e2] X.env = (false, eval e X.env) :: starEach [e2] X.env := by rfl) (hpl : (backTo pos (starEach [e2] X.env)).any (·.1) = false := by rfl) :
    PI X (.Tuple elts kk tpos) (.Call (.Name "zip" p) [e, e2] [] pos) (iZipS ta) := by
  refine ⟨fun pins s σ H R I h => ?_⟩
  refine Call_ (ld_blt I hg hm PyProof.Rows.boot_zip (PyProof.Rows.callWith_type1 (thn (ha.run pos pins s σ H _ I h) fun us s1 ⟨vs, H1, I1, r1, q1⟩ => ?_) hs hpl))
  obtain ⟨x, y, ex, q⟩ := q1
  subst ex
  cases r1 with
  | cons r rr =>
    cases rr with
    | cons r' rr =>
      cases rr
      obtain ⟨t, rfl⟩ := r
      obtain ⟨u, rfl⟩ := r'
      refine zip_begins2 (begins_text x t) (begins_text y u) trivial trivial fun h' hz hTI hTO h1 h2 hsz hk => wpAny_pyIter_zip hz ?_
      have I2 : Inv X pins σ H1 { s1 with heap := h' } := I1.kept (t' := s1.toks) hk
      have S : ZipSep2 (s1.heap.objs.size + 4) (s1.heap.objs.size + 2) (s1.heap.objs.size + 3) s1.heap.objs.size (s1.heap.objs.size + 1) [s1.heap.objs.size] [s1.heap.objs.size + 1] := by
        constructor <;> (first | simp | omega | (simp; omega))
      refine ⟨s1.heap.objs.size + 4, [s1.heap.objs.size + 4, s1.heap.objs.size + 2, s1.heap.objs.size + 3, s1.heap.objs.size, s1.heap.objs.size + 1], _, _, H1, rfl, I2, turn_zipS _ _ _ _ _ x y t u S, ⟨⟨Nat.zero_le _, Nat.zero_le _⟩, hz, hTI, ⟨_, _, hTO⟩, ⟨_, h1, rfl, rfl⟩, ⟨_, h2, rfl, rfl⟩⟩, fun c hcm => ?_, q⟩
      have e' : c = s1.heap.objs.size + 4 ∨ c = s1.heap.objs.size + 2 ∨ c = s1.heap.objs.size + 3 ∨ c = s1.heap.objs.size ∨ c = s1.heap.objs.size + 1 := by simpa using hcm
      have hle : s1.heap.objs.size ≤ c := by
        rcases e' with z | z | z | z | z
        · rw [z]; exact Nat.le_add_right _ _
        · rw [z]; exact Nat.le_add_right _ _
        · rw [z]; exact Nat.le_add_right _ _
        · rw [z]; exact Nat.le_refl _
        · rw [z]; exact Nat.le_add_right _ _
      exact I1.fpOk hle (I1.hok.fresh hle)
theorem walk_zipS {x y : Str} : Walk (Itzs x y) (min x.cps.size y.cps.size) (fun _ => True) (fun i H v H' => ∃ T c d, v = .ref T ∧ H T = none ∧ H' = upd H T (.tup [.str ⟨#[c]⟩, .str ⟨#[d]⟩]) ∧ x.cps[i]? = some c ∧ y.cps[i]? = some d) :=
  ⟨fun _ _ h _ => ⟨by omega, by omega⟩, fun _ _ => by show _ ≤ _ ∨ _ ≤ _; omega, fun _ _ _ _ _ _ y => y⟩
section
variable {X : Cx} {P : Program} {w : World} {K : PySem.W.Frag} {mg : Str → Option Value} {base : Heap} {N : List Str} {nm : List (Str × NameKind)} {j : Nat} {σ σ' : L2.St} {H G : Hp} {Q : VK} {D : Ends} {pos p tpos : Pos} {C : List (Addr × HO)} {elts : List Expr} {kk : Nat} {a b : Expr} {body : List Stmt}
theorem i_zipS (c : CI X P w K mg base N nm j) {R : It → Hp → Prop} (hg : glB nm "zip" = true) (hm : mg "zip" = none) (hs : starEach [a, b] X.env = (false, eval a X.env) :: starEach [b] X.env) (hpl : (backTo pos (starEach [b] X.env)).any (·.1) = false) (hs2 : starEach [b] X.env = (false, eval b X.env) :: starEach [] X.env)
    (h : eS X a σ H fun x H1 => eS X b σ H1 fun y H2 => ∃ z1 z2, x = .str (S z1) ∧ y = .str (S z2) ∧ R (Itzs (S z1) (S z2)) H2) :
    iS X (.Tuple elts kk tpos) (.Call (.Name "zip" p) [a, b] [] pos) σ H R :=
  ⟨_, pi_zipS (c.gl hg) (by rw [c.mg]; exact hm) (pa_cons eS_is (pa_cons eS_is pa_nil hs2) hs) hs hpl, eS_mono h fun _ _ h => eS_mono h fun _ _ ⟨z1, z2, e1, e2, r⟩ => ⟨_, _, by rw [e1, e2], r⟩⟩
/-- for (x, y) in zip(text, text): each turn a new pair -/
theorem on_zipS {z1 z2 : List Nat} (Pv : Nat → L2.St → Hp → Prop) (h0 : Pv 0 σ H)
    (hs : ∀ i x y σ H T H', z1[i]? = some x → z2[i]? = some y → Pv i σ H → New H T (.tup [.str (S [x]), .str (S [y])]) H' → gS X (.Tuple elts kk tpos) (.ref T) σ H' fun σ2 H2 => bS X body { D with nx := Pv (i + 1), ct := Pv (i + 1), bk := D.nx } σ2 H2) (hd : ∀ σ H, Pv (min z1.length z2.length) σ H → D.nx σ H) :
    ForOn X (.Tuple elts kk tpos) body D (Itzs (S z1) (S z2)) σ H := ⟨_, _, _, walk_zipS, Pv, h0, fun _ _ _ _ _ => True.intro, fun i x σ H H' hi p ⟨T, c1, c2, e1, e2, e3, hc1, hc2⟩ => by
      subst e1
      exact hs i c1 c2 σ _ T H' (by simpa [S] using hc1) (by simpa [S] using hc2) p ⟨e2, e3⟩, fun σ H p => hd σ H (by simpa [S] using p)⟩
/-- a comprehension over zip(text, text) -/
theorem lc_zipS {tg elt : Expr} {ifs : List Expr} {scope : Scope} {vs : List Nat} {z1 z2 : List Nat} {Qd : Addr → Hp → Prop} (Inv : Nat → List V → Hp → List (Addr × HO) → Prop) (c : CI X P w K mg base N nm j) (hk : scope.kind = .function) (hn : z1.length ≤ 1000000) (O : Own G C H) (h0 : Inv 0 [] G C)
    (hs : ∀ m x y acc G' C' A H1 T H2, z1[m]? = some x → z2[m]? = some y → Inv m acc G' C' → Own G' ((A, .lst acc) :: C') H1 → New H1 T (.tup [.str (S [x]), .str (S [y])]) H2 → Same G G' → ∀ X', CI X' P w K mg base N scope.names j → gS X' tg (.ref T) (wipe σ vs) H2 fun σ2 H3 => wipe σ2 vs = wipe σ vs ∧ ∀ X', CI X' P w K mg base N scope.names j → tsS X' ifs σ2 H3 fun b H4 =>
      if b = true then ∀ X', CI X' P w K mg base N scope.names j → eS X' elt σ2 H4 fun y H5 => ∃ G4 C4, Own G4 ((A, .lst acc) :: C4) H5 ∧ Same G' G4 ∧ Inv (m + 1) (acc ++ [y]) G4 C4 else ∃ G4 C4, Own G4 ((A, .lst acc) :: C4) H4 ∧ Same G' G4 ∧ Inv (m + 1) acc G4 C4)
    (hd : ∀ acc G' C' A H', acc.length ≤ min z1.length z2.length → Inv (min z1.length z2.length) acc G' C' → Own G' ((A, .lst acc) :: C') H' → Same G G' → Qd A H') : LcOn X scope tg ifs elt vs Qd (Itzs (S z1) (S z2)) σ H := by
  have e1 : (S z1).cps.size = z1.length := by simp [S]
  have e2 : (S z2).cps.size = z2.length := by simp [S]
  refine lc_own Inv c hk walk_zipS (by rw [e1, e2]; omega) O h0 (fun _ _ _ _ _ => True.intro) (fun m x acc G' C' A H1 H2 hm iv hy O' s X' c' => ?_) (fun acc G' C' A H' h1 h2 => hd acc G' C' A H' (by rw [← e1, ← e2]; exact h1) (by rw [← e1, ← e2]; exact h2))
  obtain ⟨T, c1, c2, rfl, f1, f2, hc1, hc2⟩ := hy
  exact hs m c1 c2 acc G' C' A H1 T H2 (by simpa [S] using hc1) (by simpa [S] using hc2) iv O' ⟨f1, f2⟩ s X' c'
/-- .. over a text -/
theorem lc_str {tg elt : Expr} {ifs : List Expr} {scope : Scope} {vs : List Nat} {z : List Nat} {Qd : Addr → Hp → Prop} (Inv : Nat → List V → Hp → List (Addr × HO) → Prop) (c : CI X P w K mg base N nm j) (hk : scope.kind = .function) (hn : z.length ≤ 1000000) (O : Own G C H) (h0 : Inv 0 [] G C)
    (hs : ∀ m x acc G' C' A H1, z[m]? = some x → Inv m acc G' C' → Own G' ((A, .lst acc) :: C') H1 → Same G G' → ∀ X', CI X' P w K mg base N scope.names j → gS X' tg (.str (S [x])) (wipe σ vs) H1 fun σ2 H3 => wipe σ2 vs = wipe σ vs ∧ ∀ X', CI X' P w K mg base N scope.names j → tsS X' ifs σ2 H3 fun b H4 =>
      if b = true then ∀ X', CI X' P w K mg base N scope.names j → eS X' elt σ2 H4 fun y H5 => ∃ G4 C4, Own G4 ((A, .lst acc) :: C4) H5 ∧ Same G' G4 ∧ Inv (m + 1) (acc ++ [y]) G4 C4 else ∃ G4 C4, Own G4 ((A, .lst acc) :: C4) H4 ∧ Same G' G4 ∧ Inv (m + 1) acc G4 C4)
    (hd : ∀ acc G' C' A H', acc.length ≤ z.length → Inv z.length acc G' C' → Own G' ((A, .lst acc) :: C') H' → Same G G' → Qd A H') : LcOn X scope tg ifs elt vs Qd (Its (S z)) σ H := by
  have e1 : (S z).cps.size = z.length := by simp [S]
  refine lc_own Inv c hk walk_str (by rw [e1]; exact hn) O h0 (fun _ _ _ _ _ => True.intro) (fun m x acc G' C' A H1 H2 hm iv hy O' s X' c' => ?_) (fun acc G' C' A H' h1 h2 => hd acc G' C' A H' (by rw [← e1]; exact h1) (by rw [← e1]; exact h2))
  obtain ⟨rfl, ch, hc, rfl⟩ := hy
  exact hs m ch acc G' C' A _ (by simpa [S] using hc) iv O' s X' c'
theorem o_eqNil (c : CI X P w K mg base N nm j) {p q : Addr} {zs : List Nat} (hp : SqL K H p (zs.map fun x => V.str (S [x]))) (hq : SqL K H q []) (h : Q (.bl (decide (zs = []))) H) : oS X (compareOp .Eq) (.ref p) (.ref q) H Q :=
  o_eqP c (.lst hp (dp_map (g := fun x => PyData.str (S [x])) (fun _ => .str _) zs)) (.lst hq .nil) (shal_list (all_map (fun _ => shal_str) zs)) (shal_list all_nil) (by
    have e : PyData.eqv (.list (zs.map fun x => PyData.str (S [x]))) (.list []) = decide (zs = []) := by cases zs <;> simp [PyData.eqv, PyData.eqvAll]
    rw [e]; exact h)
end
end Go

namespace Go
open PySem PySem.Spec PyProof.Rows L2

section
variable {X : Cx} {P : Program} {w : World} {K : PySem.W.Frag} {mg : Str → Option Value} {base : Heap} {N : List Str} {nm : List (Str × NameKind)} {j : Nat} {σ σ' : L2.St} {H G : Hp} {Q : VK} {pos p : Pos}
/-! a module's constants -/
theorem e_gstr {x : Str} {z : List Nat} {t : Tok} (c : CI X P w K mg base N nm j) (hm : mg x = some (.str (S z) t)) (hg : glB nm x = true) (h : Q (.str (S z)) H) : eS X (.Name x pos) σ H Q :=
  ⟨_, pe_glob (c.gl hg) (by rw [c.mg]; exact hm) (show RelV (.str (S z)) _ from ⟨t, rfl⟩) (glB_d hg), h⟩
theorem e_gint {x : Str} {i : Int} {t : Tok} (c : CI X P w K mg base N nm j) (hm : mg x = some (.int i t)) (hg : glB nm x = true) (h : Q (.int i) H) : eS X (.Name x pos) σ H Q :=
  ⟨_, pe_glob (c.gl hg) (by rw [c.mg]; exact hm) (show RelV (.int i) _ from ⟨t, rfl⟩) (glB_d hg), h⟩
/-! the least, the greatest of data -/
theorem vals_get {xs : List V} {us : List Value} (r : Vals xs us) : ∀ (i : Nat) (u : Value), us[i]? = some u → ∃ x, xs[i]? = some x ∧ RelV x u := by
  induction r with
  | nil => intro i u h; simp at h
  | cons r rs ih =>
    intro i u h
    cases i with
    | zero => exact ⟨_, rfl, by have e := Option.some.inj h; rw [← e]; exact r⟩
    | succ i => exact ih i u h
theorem reads_get {h : Heap} {us : List Value} {ds : List PyData} {as : List Addr} (r : ReadsAll h us ds as) : ∀ (i : Nat) (u : Value), us[i]? = some u → ∃ d bs, ds[i]? = some d ∧ Reads h u d bs := by
  induction us generalizing ds as with
  | nil => intro i u h; simp at h
  | cons v vs ih =>
    intro i u h
    cases r with
    | cons r rs =>
      cases i with
      | zero => exact ⟨_, _, rfl, by have e := Option.some.inj h; rw [← e]; exact r⟩
      | succ i => exact ih rs i u h
theorem c_minP (c : CI X P w K mg base N nm j) {p : Addr} {xs : List V} {d : PyData} {ds : List PyData} (hp : SqL K H p xs) (hd : DpAll K H xs (d :: ds)) (ha : PySem.W.AlikeAll (d :: ds)) (hs : ∀ e ∈ d :: ds, Shal 16 e)
    (h : ∀ (i : Nat) (x : V), xs[i]? = some x → (d :: ds)[i]? = some (PySem.W.minD d ds) → Q x H) : cS X (.builtin "min") [.ref p] H Q := by
  refine ⟨fun vs H Q => ∃ (p : Addr) (xs : List V) (d : PyData) (ds : List PyData), vs = [.ref p] ∧ SqL X.K H p xs ∧ DpAll X.K H xs (d :: ds) ∧ PySem.W.AlikeAll (d :: ds) ∧ (∀ e ∈ d :: ds, Shal 16 e) ∧ ∀ (i : Nat) (x : V), xs[i]? = some x → (d :: ds)[i]? = some (PySem.W.minD d ds) → Q x H, ?_, p, xs, d, ds, rfl, by rw [c.K]; exact hp, by rw [c.K]; exact hd, ha, hs, h⟩
  intro pins s σ H vs us Q I r h
  obtain ⟨p, xs, d, ds, rfl, hp, hd, ha, hs, q⟩ := h
  obtain ⟨its, rv, hl, _⟩ := I.list hp
  rw [Vals.ref1 r]
  obtain ⟨as, rs⟩ := Dp.readsAll I _ _ _ hd rv
  have hu := c.u64
  have hdep := (shal_all hs).2
  refine PySem.W.min_list_data (I.ok.hd c.calm) hl.isList (by simpa using rs) ha (by omega) fun i v h' tk bs hi r2 hk => ?_
  have hi : its[i]? = some v := by simpa using hi
  obtain ⟨x, hx, rx⟩ := vals_get rv i v hi
  obtain ⟨e, cs, he, r3⟩ := reads_get rs i v hi
  have r4 := PyProof.Rows.Reads.keeps hk r3
  obtain ⟨e2, _⟩ := r4.unique _ _ r2
  exact ⟨x, H, I.kept (t' := tk) hk, rx, q i x hx (by rw [he, e2])⟩
theorem c_maxP (c : CI X P w K mg base N nm j) {p : Addr} {xs : List V} {d : PyData} {ds : List PyData} (hp : SqL K H p xs) (hd : DpAll K H xs (d :: ds)) (ha : PySem.W.AlikeAll (d :: ds)) (hs : ∀ e ∈ d :: ds, Shal 16 e)
    (h : ∀ (i : Nat) (x : V), xs[i]? = some x → (d :: ds)[i]? = some (PySem.W.maxD d ds) → Q x H) : cS X (.builtin "max") [.ref p] H Q := by
  refine ⟨fun vs H Q => ∃ (p : Addr) (xs : List V) (d : PyData) (ds : List PyData), vs = [.ref p] ∧ SqL X.K H p xs ∧ DpAll X.K H xs (d :: ds) ∧ PySem.W.AlikeAll (d :: ds) ∧ (∀ e ∈ d :: ds, Shal 16 e) ∧ ∀ (i : Nat) (x : V), xs[i]? = some x → (d :: ds)[i]? = some (PySem.W.maxD d ds) → Q x H, ?_, p, xs, d, ds, rfl, by rw [c.K]; exact hp, by rw [c.K]; exact hd, ha, hs, h⟩
  intro pins s σ H vs us Q I r h
  obtain ⟨p, xs, d, ds, rfl, hp, hd, ha, hs, q⟩ := h
  obtain ⟨its, rv, hl, _⟩ := I.list hp
  rw [Vals.ref1 r]
  obtain ⟨as, rs⟩ := Dp.readsAll I _ _ _ hd rv
  have hu := c.u64
  have hdep := (shal_all hs).2
  refine PySem.W.max_list_data (I.ok.hd c.calm) hl.isList (by simpa using rs) ha (by omega) fun i v h' tk bs hi r2 hk => ?_
  have hi : its[i]? = some v := by simpa using hi
  obtain ⟨x, hx, rx⟩ := vals_get rv i v hi
  obtain ⟨e, cs, he, r3⟩ := reads_get rs i v hi
  have r4 := PyProof.Rows.Reads.keeps hk r3
  obtain ⟨e2, _⟩ := r4.unique _ _ r2
  exact ⟨x, H, I.kept (t' := tk) hk, rx, q i x hx (by rw [he, e2])⟩
theorem S_list (z : List Nat) : (S z).cps.toList = z := by simp [S]
theorem alike_strs (zs : List Str) : PySem.W.AlikeAll (zs.map PyData.str) := PySem.W.alikeAll_datum zs
theorem lt_strs (a b : List Nat) : PySem.W.dataLt (.str (S a)) (.str (S b)) = decide (a < b) := by
  rw [PySem.W.dataLt_str, S_list, S_list]
/-- .. of one text, of two -/
theorem c_minS1 (c : CI X P w K mg base N nm j) {p : Addr} {a : List Nat} (hp : SqL K H p [.str (S a)]) (h : Q (.str (S a)) H) : cS X (.builtin "min") [.ref p] H Q :=
  c_minP c hp (.cons (.str _) .nil) (alike_strs [S a]) (all_cons shal_str all_nil) fun i x hx _ => by
    cases i with
    | zero => have e := Option.some.inj hx; rw [← e]; exact h
    | succ i => simp at hx
theorem c_maxS1 (c : CI X P w K mg base N nm j) {p : Addr} {a : List Nat} (hp : SqL K H p [.str (S a)]) (h : Q (.str (S a)) H) : cS X (.builtin "max") [.ref p] H Q :=
  c_maxP c hp (.cons (.str _) .nil) (alike_strs [S a]) (all_cons shal_str all_nil) fun i x hx _ => by
    cases i with
    | zero => have e := Option.some.inj hx; rw [← e]; exact h
    | succ i => simp at hx
theorem c_minS2 (c : CI X P w K mg base N nm j) {p : Addr} {a b : List Nat} (hp : SqL K H p [.str (S a), .str (S b)]) (h : Q (.str (S (if b < a then b else a))) H) : cS X (.builtin "min") [.ref p] H Q :=
  c_minP c hp (.cons (.str _) (.cons (.str _) .nil)) (alike_strs [S a, S b]) (all_cons shal_str (all_cons shal_str all_nil)) fun i x hx he => by
    have em : PySem.W.minD (.str (S a)) [.str (S b)] = .str (S (if b < a then b else a)) := by
      show (if PySem.W.dataLt (.str (S b)) (.str (S a)) = true then PyData.str (S b) else PyData.str (S a)) = _
      rw [lt_strs]
      by_cases q : b < a
      · rw [if_pos (decide_eq_true q), if_pos q]
      · rw [if_neg (by simpa using q), if_neg q]
    rw [em] at he
    match i, hx, he with
    | 0, hx, he =>
      have e1 := Option.some.inj hx
      have e2 : PyData.str (S a) = _ := Option.some.inj he
      rw [← e1, PyData.str.inj e2]; exact h
    | 1, hx, he =>
      have e1 := Option.some.inj hx
      have e2 : PyData.str (S b) = _ := Option.some.inj he
      rw [← e1, PyData.str.inj e2]; exact h
    | i + 2, hx, _ => simp at hx
theorem c_maxS2 (c : CI X P w K mg base N nm j) {p : Addr} {a b : List Nat} (hp : SqL K H p [.str (S a), .str (S b)]) (h : Q (.str (S (if a < b then b else a))) H) : cS X (.builtin "max") [.ref p] H Q :=
  c_maxP c hp (.cons (.str _) (.cons (.str _) .nil)) (alike_strs [S a, S b]) (all_cons shal_str (all_cons shal_str all_nil)) fun i x hx he => by
    have em : PySem.W.maxD (.str (S a)) [.str (S b)] = .str (S (if a < b then b else a)) := by
      show (if PySem.W.dataLt (.str (S a)) (.str (S b)) = true then PyData.str (S b) else PyData.str (S a)) = _
      rw [lt_strs]
      by_cases q : a < b
      · rw [if_pos (decide_eq_true q), if_pos q]
      · rw [if_neg (by simpa using q), if_neg q]
    rw [em] at he
    match i, hx, he with
    | 0, hx, he =>
      have e1 := Option.some.inj hx
      have e2 : PyData.str (S a) = _ := Option.some.inj he
      rw [← e1, PyData.str.inj e2]; exact h
    | 1, hx, he =>
      have e1 := Option.some.inj hx
      have e2 : PyData.str (S b) = _ := Option.some.inj he
      rw [← e1, PyData.str.inj e2]; exact h
    | i + 2, hx, _ => simp at hx
/-- .. of one pair of a number and a text, of two -/
def pairD (a : Int × List Nat) : PyData := .tuple [.int a.1, .str (S a.2)]
def pairO (a : Int × List Nat) : HO := .tup [.int a.1, .str (S a.2)]
theorem pairD_inj {a b : Int × List Nat} (h : pairD a = pairD b) : a = b := by
  unfold pairD at h
  simp only [PyData.tuple.injEq, List.cons.injEq, PyData.int.injEq, PyData.str.injEq, and_true] at h
  exact Prod.ext h.1 (S_inj.mp h.2)
theorem dp_pair {p : Addr} {a : Int × List Nat} (h : SqT K H p [.int a.1, .str (S a.2)]) : Dp K H (.ref p) (pairD a) := .tup h (.cons (.int _) (.cons (.str _) .nil))
theorem shal_pair {a : Int × List Nat} : Shal 16 (pairD a) := shal_tup (all_cons shal_int (all_cons shal_str all_nil))
def toTS (a : Int × List Nat) : Int × Str := (a.1, S a.2)
theorem alike_pairs (l : List (Int × List Nat)) : PySem.W.AlikeAll (l.map pairD) := by
  have h := PySem.W.alikeAll_datum (l.map toTS)
  rw [List.map_map] at h
  exact h
theorem lt_pairs (a b : Int × List Nat) : PySem.W.dataLt (pairD a) (pairD b) = decide (a.1 < b.1 ∨ (a.1 = b.1 ∧ a.2 < b.2)) := by
  have h := PySem.W.DatumOrd.lt_eq (toTS a) (toTS b)
  refine Eq.trans h ?_
  show (if a.1 = b.1 then decide ((S a.2).cps.toList < (S b.2).cps.toList) else decide (a.1 < b.1)) = _
  rw [S_list, S_list]
  by_cases e : a.1 = b.1
  · rw [if_pos e]; exact decide_eq_decide.mpr ⟨fun q => .inr ⟨e, q⟩, fun q => q.elim (fun z => by omega) fun z => z.2⟩
  · rw [if_neg e]; exact decide_eq_decide.mpr ⟨.inl, fun q => q.elim id fun z => absurd z.1 e⟩
theorem c_minT1 (c : CI X P w K mg base N nm j) {p t : Addr} (hp : SqL K H p [.ref t]) {a : Int × List Nat} (ha : SqT K H t [.int a.1, .str (S a.2)]) (h : Q (.ref t) H) : cS X (.builtin "min") [.ref p] H Q :=
  c_minP c hp (.cons (dp_pair ha) .nil) (alike_pairs [a]) (all_cons shal_pair all_nil) fun i x hx _ => by
    cases i with
    | zero => have e := Option.some.inj hx; rw [← e]; exact h
    | succ i => simp at hx
theorem c_minT2 (c : CI X P w K mg base N nm j) {p t u : Addr} (hp : SqL K H p [.ref t, .ref u]) {a b : Int × List Nat} (ha : SqT K H t [.int a.1, .str (S a.2)]) (hb : SqT K H u [.int b.1, .str (S b.2)])
    (h1 : a = (if b.1 < a.1 ∨ (b.1 = a.1 ∧ b.2 < a.2) then b else a) → Q (.ref t) H) (h2 : b = (if b.1 < a.1 ∨ (b.1 = a.1 ∧ b.2 < a.2) then b else a) → Q (.ref u) H) : cS X (.builtin "min") [.ref p] H Q :=
  c_minP c hp (.cons (dp_pair ha) (.cons (dp_pair hb) .nil)) (alike_pairs [a, b]) (all_cons shal_pair (all_cons shal_pair all_nil)) fun i x hx he => by
    have em : PySem.W.minD (pairD a) [pairD b] = pairD (if b.1 < a.1 ∨ (b.1 = a.1 ∧ b.2 < a.2) then b else a) := by
      show (if PySem.W.dataLt (pairD b) (pairD a) = true then pairD b else pairD a) = _
      rw [lt_pairs]
      by_cases q : b.1 < a.1 ∨ (b.1 = a.1 ∧ b.2 < a.2)
      · rw [if_pos (decide_eq_true q), if_pos q]
      · rw [if_neg (by rw [decide_eq_true_eq]; exact q), if_neg q]
    rw [em] at he
    match i, hx, he with
    | 0, hx, he =>
      have e1 := Option.some.inj hx
      have e2 : pairD a = _ := Option.some.inj he
      rw [← e1]; exact h1 (pairD_inj e2)
    | 1, hx, he =>
      have e1 := Option.some.inj hx
      have e2 : pairD b = _ := Option.some.inj he
      rw [← e1]; exact h2 (pairD_inj e2)
    | i + 2, hx, _ => simp at hx
/-! lists of texts -/
theorem eqv_strs : ∀ xs ys : List (List Nat), PyData.eqvAll (xs.map fun z => PyData.str (S z)) (ys.map fun z => PyData.str (S z)) = decide (xs = ys)
  | [], [] => by simp [PyData.eqvAll]
  | [], _ :: _ => by simp [PyData.eqvAll]
  | _ :: _, [] => by simp [PyData.eqvAll]
  | x :: xs, y :: ys => by
    show (PyData.eqv (.str (S x)) (.str (S y)) && PyData.eqvAll (xs.map fun z => PyData.str (S z)) (ys.map fun z => PyData.str (S z))) = _
    rw [eqv_strs xs ys]
    show ((S x == S y) && decide (xs = ys)) = _
    have e : (S x == S y) = decide (x = y) := by rw [Bool.eq_iff_iff, beq_iff_eq, decide_eq_true_eq]; exact S_inj
    rw [e]
    by_cases h1 : x = y <;> by_cases h2 : xs = ys <;> simp [h1, h2]
theorem dp_strs {K : PySem.W.Frag} {H : Hp} (xs : List (List Nat)) : DpAll K H (xs.map fun z => V.str (S z)) (xs.map fun z => PyData.str (S z)) := dp_map (f := fun z => V.str (S z)) (fun z => .str (S z)) xs
theorem o_eqSL (c : CI X P w K mg base N nm j) {p q : Addr} {xs ys : List (List Nat)} (hp : SqL K H p (xs.map fun z => V.str (S z))) (hq : SqL K H q (ys.map fun z => V.str (S z))) (h : Q (.bl (decide (xs = ys))) H) : oS X (compareOp .Eq) (.ref p) (.ref q) H Q :=
  o_eqP c (.lst hp (dp_strs xs)) (.lst hq (dp_strs ys)) (shal_list (all_map (fun _ => shal_str) xs)) (shal_list (all_map (fun _ => shal_str) ys)) (by
    show Q (.bl (PyData.eqvAll (xs.map fun z => PyData.str (S z)) (ys.map fun z => PyData.str (S z)))) H
    rw [eqv_strs]; exact h)
theorem o_neSL (c : CI X P w K mg base N nm j) {p q : Addr} {xs ys : List (List Nat)} (hp : SqL K H p (xs.map fun z => V.str (S z))) (hq : SqL K H q (ys.map fun z => V.str (S z))) (h : Q (.bl (!decide (xs = ys))) H) : oS X (compareOp .NotEq) (.ref p) (.ref q) H Q :=
  o_neP c (.lst hp (dp_strs xs)) (.lst hq (dp_strs ys)) (shal_list (all_map (fun _ => shal_str) xs)) (shal_list (all_map (fun _ => shal_str) ys)) (by
    show Q (.bl (!PyData.eqvAll (xs.map fun z => PyData.str (S z)) (ys.map fun z => PyData.str (S z)))) H
    rw [eqv_strs]; exact h)
/-- the last item -/
theorem atI_last {α : Type} {z : List α} {v : α} (h : z.getLast? = some v) : atI z (-1) = some v := by
  rw [List.getLast?_eq_getElem?] at h
  have hl := (List.getElem?_eq_some_iff.mp h).1
  show (ixN z.length (-1)).bind _ = _
  unfold ixN
  rw [if_neg (by omega), if_pos (by omega), Option.bind_some, show (-1 + (z.length : Int)).toNat = z.length - 1 by omega]
  exact h
/-- a, b = a list -/
theorem g_tgtsL {es : List Expr} (c : CI X P w K mg base N nm j) {k} {q : Addr} {vs : List V} {R : L2.St → Hp → Prop} (h1 : (assignEach es X.env).length = vs.length) (h2 : (assignEach es X.env).findIdx? (·.1) = none) (hq : SqL K H q vs) (h : gsS X es vs σ H R) : gS X (.Tuple es k pos) (.ref q) σ H R := by
  have e3 := c.K
  subst e3
  exact ⟨_, pg_unl c.calm gsS_is h1 h2, q, _, rfl, hq, rfl, h⟩
end
end Go

namespace Go
open PySem PySem.Spec PyProof.Rows L2

/-! a table of cells: at ps the objects f 0, f 1, .. -/
def tabC (ps : List Addr) (f : Nat → HO) : List (Addr × HO) := ps.mapIdx fun i p => (p, f i)
theorem tabC_get {ps : List Addr} {f : Nat → HO} {i : Nat} {p : Addr} (h : ps[i]? = some p) : (p, f i) ∈ tabC ps f := by
  unfold tabC
  obtain ⟨hl, e⟩ := List.getElem?_eq_some_iff.mp h
  exact List.mem_of_getElem? (i := i) (by rw [List.getElem?_mapIdx, h]; rfl)
theorem tabC_mem {ps : List Addr} {f : Nat → HO} {e : Addr × HO} (h : e ∈ tabC ps f) : ∃ i, ps[i]? = some e.1 ∧ e.2 = f i := by
  unfold tabC at h
  obtain ⟨i, hi⟩ := List.mem_iff_getElem?.mp h
  rw [List.getElem?_mapIdx] at hi
  obtain ⟨p, hp, rfl⟩ := Option.map_eq_some_iff.mp hi
  exact ⟨i, hp, rfl⟩
theorem tabC_fst (ps : List Addr) (f : Nat → HO) : (tabC ps f).map (·.1) = ps := by
  unfold tabC
  apply List.ext_getElem?
  intro i
  rw [List.getElem?_map, List.getElem?_mapIdx]
  cases ps[i]? <;> rfl
theorem tabC_snoc (ps : List Addr) (p : Addr) (f : Nat → HO) : tabC (ps ++ [p]) f = tabC ps f ++ [(p, f ps.length)] := by
  unfold tabC
  rw [List.mapIdx_append]
  simp
theorem tabC_congr {ps : List Addr} {f g : Nat → HO} (h : ∀ i, i < ps.length → f i = g i) : tabC ps f = tabC ps g := by
  unfold tabC
  apply List.ext_getElem?
  intro i
  rw [List.getElem?_mapIdx, List.getElem?_mapIdx]
  cases hp : ps[i]? with
  | none => rfl
  | some p => rw [Option.map_some, Option.map_some, h i (List.getElem?_eq_some_iff.mp hp).1]
section
variable {X : Cx} {P : Program} {w : World} {K : PySem.W.Frag} {mg : Str → Option Value} {base : Heap} {N : List Str} {nm : List (Str × NameKind)} {j : Nat} {σ σ' : L2.St} {H G : Hp} {Q : VK} {pos p : Pos} {C : List (Addr × HO)} {ps : List Addr} {f g : Nat → HO}
/-- the cells in another order -/
theorem Own.perm {C' : List (Addr × HO)} (O : Own G C H) (h : C'.Perm C) : Own G C' H :=
  ⟨O.same, fun q hq => O.own q (h.mem_iff.mp hq), (h.map (·.1)).nodup_iff.mpr O.nd⟩
theorem Own.tabG (O : Own G (tabC ps f ++ C) H) {i : Nat} {p : Addr} (h : ps[i]? = some p) : H p = some (f i) := (O.own _ (List.mem_append_left _ (tabC_get h))).1
theorem Own.tabW (O : Own G (tabC ps f ++ C) H) {i : Nat} {p : Addr} (h : ps[i]? = some p) (hg : ∀ k, k ≠ i → g k = f k) : Own G (tabC ps g ++ C) (upd H p (g i)) := by
  have nd := O.nd
  rw [List.map_append, tabC_fst] at nd
  obtain ⟨n1, n2, n3⟩ := List.nodup_append.mp nd
  have pm : p ∈ ps := List.mem_of_getElem? h
  have hn : G p = none := (O.own _ (List.mem_append_left _ (tabC_get h))).2
  refine ⟨fun b u e => by rw [upd_ne (ne_of_none e hn)]; exact O.same b u e, fun q hq => ?_, by rw [List.map_append, tabC_fst]; exact nd⟩
  rcases List.mem_append.mp hq with hq | hq
  · obtain ⟨k, hk, e⟩ := tabC_mem hq
    have hn2 := (O.own _ (List.mem_append_left _ (tabC_get (f := f) hk))).2
    refine ⟨?_, hn2⟩
    by_cases e1 : k = i
    · subst e1
      rw [h] at hk
      cases hk
      rw [upd_same, e]
    · have hne : q.1 ≠ p := fun z => by
        rw [z] at hk
        exact e1 ((List.getElem?_inj (List.getElem?_eq_some_iff.mp hk).1 n1).mp (hk.trans h.symm))
      rw [upd_ne hne, e, hg k e1]
      exact O.tabG hk
  · have hne : q.1 ≠ p := fun z => n3 _ pm _ (List.mem_map.mpr ⟨q, hq, rfl⟩) z.symm
    rw [upd_ne hne]
    exact O.own q (List.mem_append_right _ hq)
/-- .. all frozen -/
theorem Own.tabF (O : Own G (tabC ps f ++ C) H) : ∃ G', Same G G' ∧ (∀ i p, ps[i]? = some p → G' p = some (f i)) ∧ Own G' C H := by
  obtain ⟨G', s, e, O'⟩ := Own.frzAll (tabC ps f) O
  exact ⟨G', s, fun i p h => e _ (tabC_get h), O'⟩
theorem c_minI (c : CI X P w K mg base N nm j) {p : Addr} {ns : List Int} (hp : SqL K H p (ns.map V.int)) (hn : 0 < ns.length) (h : ∀ m, m ∈ ns → (∀ y ∈ ns, m ≤ y) → Q (.int m) H) : cS X (.builtin "min") [.ref p] H Q := by
  have eK := c.K
  subst eK
  exact ⟨_, cr_min c.calm, _, _, rfl, hp, hn, h⟩
theorem c_maxI (c : CI X P w K mg base N nm j) {p : Addr} {ns : List Int} (hp : SqL K H p (ns.map V.int)) (hn : 0 < ns.length) (h : ∀ m, m ∈ ns → (∀ y ∈ ns, y ≤ m) → Q (.int m) H) : cS X (.builtin "max") [.ref p] H Q := by
  have eK := c.K
  subst eK
  exact ⟨_, cr_max c.calm, _, _, rfl, hp, hn, h⟩
/-- a list is [] -/
theorem eqv_nil (ds : List PyData) : PyData.eqv (.list ds) (.list []) = decide (ds = []) := by cases ds <;> simp [PyData.eqv, PyData.eqvAll]
theorem o_eqNilP (c : CI X P w K mg base N nm j) {p q : Addr} {xs : List V} {ds : List PyData} (hp : SqL K H p xs) (hd : DpAll K H xs ds) (hs : ∀ e ∈ ds, Shal 63 e) (hq : SqL K H q []) (h : Q (.bl (decide (ds = []))) H) : oS X (compareOp .Eq) (.ref p) (.ref q) H Q :=
  o_eqP c (.lst hp hd) (.lst hq .nil) (shal_list hs) (shal_list all_nil) (by rw [eqv_nil]; exact h)
theorem o_neNilP (c : CI X P w K mg base N nm j) {p q : Addr} {xs : List V} {ds : List PyData} (hp : SqL K H p xs) (hd : DpAll K H xs ds) (hs : ∀ e ∈ ds, Shal 63 e) (hq : SqL K H q []) (h : Q (.bl (!decide (ds = []))) H) : oS X (compareOp .NotEq) (.ref p) (.ref q) H Q :=
  o_neP c (.lst hp hd) (.lst hq .nil) (shal_list hs) (shal_list all_nil) (by rw [eqv_nil]; exact h)
/-- an item of a row of a table of cells -/
theorem p_tab {xs : List V} {i j : Nat} {p : Addr} {v : V} {R : Hp → Prop} (O : Own G (tabC ps f ++ C) H) (hp : ps[i]? = some p) (hf : f i = .lst xs) (hj : j < xs.length) (hg : g i = .lst (xs.set j v)) (hk : ∀ k, k ≠ i → g k = f k) (h : ∀ H', Own G (tabC ps g ++ C) H' → R H') : pS X (.ref p) (.int (j : Nat)) v H R :=
  p_lst (by rw [O.tabG hp, hf]) (m := j) (by unfold ixN; rw [if_pos (by omega), if_pos (by omega)]; simp) (by have := h _ (O.tabW hp hk); rw [hg] at this; exact this)
end
end Go

namespace Go
open PySem PySem.Spec PyProof.Rows L2

/-! set(l), l a list of ints -/
/-- a new set, as the model makes it -/
def seO (w : World) : Obj := { cls := .type "set", dict := none, data := .set #[] 0 (.fresh 0 0 (!w.params.followText "set-order")) }
section
variable {P : Program} {w : World} {A : Around} {E : Value → Shared → Prop}
set_option maxHeartbeats 4000000 in
theorem set_of_ints {s : Shared} {l : Addr} {us : Array Value} (ns : List Int) {Q : Value → Shared → Prop} (noH : A.handled = none) (L : s.heap.IsList l us) (iA : IntsAre us.toList ns) (few : ns.length + 1 < scanBound)
    (k : ∀ (h2 : Heap) (tk c : Nat), SetR w h2 s.heap.objs.size (fun j => decide (j ∈ ns)) c → c ≤ ns.length → (∀ b o, s.heap.get? b = some o → h2.get? b = some o) → Q (.ref s.heap.objs.size) { s with heap := h2, toks := tk }) :
    wpAny (model P w) A (call (.type "set") [.ref l]) Q E s := by
  have sz : us.size = ns.length := by have q := IntsAre.length iA; rwa [Array.length_toList] at q
  obtain ⟨mc, mt, mro⟩ := F.called_set.mro
  have r1 := F.called_set.made
  have r2 := F.called_set.sub
  have r3 := F.called_set.notType
  have r4 := F.called_set.canCreate
  have r5 := F.typeCall_set_1 (.ref l)
  refine wpAny_call (codeAny_of_tree (show wpAny _ _ (callAny (.type "set") _) _ _ _ from wpAny_pure ⟨Code.quiet_builtin _ (by decide +kernel), codeAny_builtin F.entry_type_call ?_⟩))
  rw [Around.under_plain (weight_type_call_type "set" [.ref l] []) rfl]
  repeat (any_goals (first | assumption | wp_step))
  refine codeAny_mono (code_set_led1 (w := w) (.ref l) (E := E) (Q₁ := fun ob s1 => ob = .ref s.heap.objs.size ∧ s1 = { s with heap := s.heap.push (seO w) }) ⟨rfl, rfl⟩) fun res s1 hres => ?_
  match res, hres with
  | .error e, hres => exact hres
  | .ok (.ret ob), hres =>
    obtain ⟨rfl, rfl⟩ := hres
    have atS : (s.heap.push (seO w)).get? s.heap.objs.size = some (seO w) := Heap.get?_push_size _ rfl
    have tyS : Shared.TypeIs { s with heap := s.heap.push (seO w) } (.ref s.heap.objs.size) "set" := ⟨_, atS, rfl⟩
    have r6 := F.called_set.init.lookup
    have r7 := F.called_set.init.bind (.ref s.heap.objs.size)
    repeat (any_goals (first | assumption | wp_step))
    refine codeAny_mono (codeAny_call_builtin (R := wants (fun r s2 => r = .none ∧ ∃ h2 tk c, s2 = { s with heap := h2, toks := tk } ∧ SetR w h2 s.heap.objs.size (fun j => decide (j ∈ ns)) c ∧ c ≤ ns.length ∧ ∀ b o, s.heap.get? b = some o → h2.get? b = some o) E) F.called_set.init.plain F.entry_set_init (check_set_init_1 tyS ?_)) fun res2 s2 hres2 => ?_
    · obtain ⟨⟨oc, od, oda, osl⟩, gl, ec, m, ed⟩ := L
      simp only at ec ed
      subst ec ed
      have gl' : (s.heap.push (seO w)).get? l = some { cls := .type "list", dict := od, data := .seq us m, slots := osl } := Heap.get?_push_of_some _ gl
      have L1 : (s.heap.push (seO w)).IsList l us := ⟨_, gl', rfl, m, rfl⟩
      have q1 := F.sub_list_set
      have q2 := F.sub_list_frozenset
      have q3 : (Value.type "list" == Value.type "dict") = false := by decide
      have lt : l < s.heap.objs.size := Heap.lt_size gl
      have noH3 : A.in1.in1.in1.handled = none := by simp [noH]
      have psz : (s.heap.push (seO w)).objs.size = s.heap.objs.size + 1 := Heap.size_push ..
      unfold Builtin.«set.__init__» noKeywords Builtin.Frozenset.updateFrom
      generalize hpi : pyIter = it
      wp_walk
      subst hpi
      refine wpAny_pyIter_list L1 (wpAny_bind (wpAny_runValue ?_))
      have lI : l ≠ (s.heap.push (seO w)).objs.size := Nat.ne_of_lt (by rw [psz]; exact Nat.lt_succ_of_lt lt)
      have off : s.heap.objs.size ∉ [(s.heap.push (seO w)).objs.size, l] := by
        rw [psz]
        simp only [List.mem_cons, List.not_mem_nil, or_false, not_or]
        exact ⟨Nat.ne_of_lt (Nat.lt_succ_self _), Nat.ne_of_gt lt⟩
      have val : ∀ (i : Nat) (v : Value), us[i]? = some v → ∃ z t, ns[i]? = some z ∧ v = .int z t := fun i v hv => by
        have hi : i < ns.length := by rw [← sz]; exact (Array.getElem?_eq_some_iff.mp hv).1
        obtain ⟨t, e⟩ := PyProof.Rows.IntsAre.int_at iA i v (by rw [Array.getElem?_toList]; exact hv)
        exact ⟨ns[i], t, List.getElem?_eq_getElem hi, by rw [e, List.getD_eq_getElem?_getD, List.getElem?_eq_getElem hi]; rfl⟩
      refine set_update_ints (Walks.list noH3 _ l lI us).toS s.heap.objs.size off ns sz few val us.size 0 _ (by omega) (Nat.zero_le _) ⟨⟨_, Heap.get?_push_size _ rfl, rfl, rfl⟩, L1.push _⟩ ⟨0, Nat.le_refl 0, setR_new_at (Heap.get?_push_of_some _ atS)⟩ fun s3 c mv hc R3 => ?_
      obtain ⟨h3, g3, d3, tk3, os3⟩ := s3
      have z1 : g3 = s.gens := mv.gens
      have z2 : d3 = s.drawn := mv.drawn
      have z3 : os3 = s.os := mv.os
      subst z1 z2 z3
      refine wpAny_pure (show wpAny _ _ (ret Value.none) _ _ _ from wpAny_pure ⟨rfl, h3, tk3, c, rfl, R3, by omega, fun b o e => ?_⟩)
      have hb := Heap.lt_size e
      refine mv.heap b o ?_ (Heap.get?_push_of_some _ (Heap.get?_push_of_some _ e))
      rw [psz]
      simp only [List.mem_cons, List.not_mem_nil, or_false, not_or]
      exact ⟨Nat.ne_of_lt hb, Nat.ne_of_lt (Nat.lt_succ_of_lt hb)⟩
    · match res2, hres2 with
      | .error e, hres2 => exact hres2
      | .ok (.ret r), hres2 =>
        obtain ⟨rfl, h2, tk, c, rfl, R2, hc, kp⟩ := hres2
        repeat (any_goals (first | assumption | wp_step))
        exact k _ _ _ R2 hc kp
end
section
variable {X : Cx} {P : Program} {w : World} {K : PySem.W.Frag} {mg : Str → Option Value} {base : Heap} {N : List Str} {nm : List (Str × NameKind)} {j : Nat} {σ σ' : L2.St} {H G : Hp} {Q : VK} {C : List (Addr × HO)}
theorem setR_keys {w : World} {h : Heap} {a : Addr} {S : Int → Bool} {n : Nat} (R : SetR w h a S n) : ∃ ks : List Int, ks.Nodup ∧ ks.length = n ∧ ∀ k, S k = true ↔ k ∈ ks := by
  obtain ⟨o, es, ep, t, _, _, _, _, nd, hS, _, _, hn, _⟩ := R
  exact ⟨_, nd, by rw [List.length_map, Array.length_toList]; exact hn, hS⟩
theorem c_setL (c : CI X P w K mg base N nm j) {p : Addr} {ns : List Int} (hp : SqL K H p (ns.map V.int)) (hl : ns.length ≤ 200) (h : ∀ q n H' (ks : List Int), ks.Nodup → ks.length = n → (∀ k, k ∈ ks ↔ k ∈ ns) → New H q (SetO w q (fun j => decide (j ∈ ns)) n) H' → Q (.ref q) H') : cS X (.type "set") [.ref p] H Q := by
  refine ⟨fun vs H Q => ∃ (p : Addr) (ns : List Int), vs = [.ref p] ∧ SqL X.K H p (ns.map V.int) ∧ ns.length ≤ 200 ∧ ∀ q n H' (ks : List Int), ks.Nodup → ks.length = n → (∀ k, k ∈ ks ↔ k ∈ ns) → New H q (SetO X.w q (fun j => decide (j ∈ ns)) n) H' → Q (.ref q) H', ?_, p, ns, rfl, by rw [c.K]; exact hp, hl, by rw [c.w]; exact h⟩
  intro pins s σ H vs us Q I r h
  obtain ⟨p, ns, rfl, hp, hl, q⟩ := h
  obtain ⟨its, rv, hl2, _⟩ := I.list hp
  rw [Vals.ref1 r]
  refine set_of_ints ns (I.ok.hd c.calm) hl2.isList (by simpa using rv.ints) (by have : (300 : Nat) < scanBound := by decide +kernel
                                                                                 omega) fun h2 tk cn R hc kp => ?_
  obtain ⟨ks, k1, k2, k3⟩ := setR_keys R
  exact ⟨.ref _, upd H s.heap.objs.size (SetO X.w s.heap.objs.size (fun j => decide (j ∈ ns)) cn), I.laid (t' := tk) kp (Nat.le_refl _) (setO_new R), rfl, q _ cn _ ks k1 k2 (fun k => by rw [← k3, decide_eq_true_eq]) ⟨I.hok.fresh (Nat.le_refl _), rfl⟩⟩
theorem c_sortedSet (c : CI X P w K mg base N nm j) {p : Addr} {S : Int → Bool} {n : Nat} (hp : H p = some (SetO w p S n)) (hl : n < 64) (h : ∀ (ns : List Int) q H', ns.Pairwise (· < ·) → (∀ k : Int, k ∈ ns ↔ S k = true) → New H q (.lst (ns.map V.int)) H' → Q (.ref q) H') : cS X (.builtin "sorted") [.ref p] H Q := by
  have ew := c.w
  subst ew
  exact ⟨_, cr_sortedSet c.calm, p, S, n, rfl, hp, hl, fun ns q h1 h2 _ hn => h ns q _ h1 h2 ⟨hn, rfl⟩⟩
theorem m_pop0 {p : Addr} {x : V} {xs : List V} (O : Own G ((p, .lst (x :: xs)) :: C) H) (h : ∀ H', Own G ((p, .lst xs) :: C) H' → Q x H') : mS X "list.pop" (.ref p) [.int 0] H Q :=
  ⟨_, mt_popAt, p, x :: xs, 0, 0, x, rfl, rfl, O.at, by decide, by decide, by unfold seqIndex?; simp <;> omega, rfl, h _ O.write⟩
theorem i_trueD {p : Prop} {d : Decidable p} {A B : Prop} (h : p) (k : A) : if decide p = true then A else B := by rw [if_pos (decide_eq_true h)]; exact k
theorem i_falseD {p : Prop} {d : Decidable p} {A B : Prop} (h : ¬ p) (k : B) : if decide p = true then A else B := by rw [if_neg (by rw [decide_eq_true_eq]; exact h)]; exact k
theorem i_decD {p : Prop} {d : Decidable p} {A B : Prop} (h1 : p → A) (h2 : ¬ p → B) : if decide p = true then A else B := by
  by_cases h : p
  · exact i_trueD h (h1 h)
  · exact i_falseD h (h2 h)
end
end Go

namespace Go
open PySem PySem.Spec PyProof.Rows L2
section
variable {X : Cx} {P : Program} {w : World} {K : PySem.W.Frag} {mg : Str → Option Value} {base : Heap} {N : List Str} {nm : List (Str × NameKind)} {j : Nat} {σ σ' : L2.St} {H G : Hp} {Q : VK} {D : Ends} {pos p tpos : Pos} {C : List (Addr × HO)} {elts : List Expr} {kk : Nat} {a : Expr} {body : List Stmt}
/-! enumerate(list) -/
theorem i_enumL (c : CI X P w K mg base N nm j) {R : It → Hp → Prop} (hg : glB nm "enumerate" = true) (hm : mg "enumerate" = none) (hs : starEach [a] X.env = [(false, eval a X.env)]) (h : eS X a σ H fun x H1 => ∃ q xs, x = .ref q ∧ SqL K H1 q xs ∧ R (Ite K q) H1) :
    iS X (.Tuple elts kk tpos) (.Call (.Name "enumerate" p) [a] [] pos) σ H R := by
  have e := c.K
  subst e
  exact ⟨_, pi_enum (c.gl hg) (by rw [c.mg]; exact hm) (pa_cons eS_is pa_nil hs) hs, eS_mono h fun _ _ ⟨q, xs, e, hq, r⟩ => ⟨q, xs, by rw [e], hq, r⟩⟩
/-- for (k, item) in enumerate(list): each turn a new pair -/
theorem on_enumL (c : CI X P w K mg base N nm j) {q : Addr} {xs : List V} (Pv : Nat → L2.St → Hp → Prop) (h0 : Pv 0 σ H) (hl : ∀ i σ H, i ≤ xs.length → Pv i σ H → SqL K H q xs)
    (hs : ∀ i x σ H T H', xs[i]? = some x → Pv i σ H → New H T (.tup [.int (i : Nat), x]) H' → gS X (.Tuple elts kk tpos) (.ref T) σ H' fun σ2 H2 => bS X body { D with nx := Pv (i + 1), ct := Pv (i + 1), bk := D.nx } σ2 H2) (hd : ∀ σ H, Pv xs.length σ H → D.nx σ H) :
    ForOn X (.Tuple elts kk tpos) body D (Ite K q) σ H := ⟨_, _, _, walk_enum (xs := xs), Pv, h0, hl, fun i x σ H H' hi p ⟨T, u, v, e1, e2, e3, hu, hv⟩ => by
      subst e1
      cases hu
      exact hs i v σ _ T H' hv p ⟨e2, e3⟩, hd⟩
/-- a comprehension over enumerate(list) -/
theorem lc_enumL {tg elt : Expr} {ifs : List Expr} {scope : Scope} {vs : List Nat} {a : Addr} {xs : List V} {Qd : Addr → Hp → Prop} (Inv : Nat → List V → Hp → List (Addr × HO) → Prop) (c : CI X P w K mg base N nm j) (hk : scope.kind = .function) (hq : SqL K G a xs) (hn : xs.length ≤ 1000000) (O : Own G C H) (h0 : Inv 0 [] G C)
    (hs : ∀ m x acc G' C' A H1 T H2, xs[m]? = some x → Inv m acc G' C' → Own G' ((A, .lst acc) :: C') H1 → New H1 T (.tup [.int (m : Nat), x]) H2 → Same G G' → ∀ X', CI X' P w K mg base N scope.names j → gS X' tg (.ref T) (wipe σ vs) H2 fun σ2 H3 => wipe σ2 vs = wipe σ vs ∧ ∀ X', CI X' P w K mg base N scope.names j → tsS X' ifs σ2 H3 fun b H4 =>
      if b = true then ∀ X', CI X' P w K mg base N scope.names j → eS X' elt σ2 H4 fun y H5 => ∃ G4 C4, Own G4 ((A, .lst acc) :: C4) H5 ∧ Same G' G4 ∧ Inv (m + 1) (acc ++ [y]) G4 C4 else ∃ G4 C4, Own G4 ((A, .lst acc) :: C4) H4 ∧ Same G' G4 ∧ Inv (m + 1) acc G4 C4)
    (hd : ∀ acc G' C' A H', acc.length ≤ xs.length → Inv xs.length acc G' C' → Own G' ((A, .lst acc) :: C') H' → Same G G' → Qd A H') : LcOn X scope tg ifs elt vs Qd (Ite K a) σ H :=
  lc_own Inv c hk (walk_enum (xs := xs)) hn O h0 (fun G' C' H' s O' => sql_up O' (s.seq hq)) (fun m x acc G' C' A H1 H2 hm iv hy O' s X' c' => by
    obtain ⟨T, u, v, rfl, f1, f2, hu, hv⟩ := hy
    cases hu
    exact hs m v acc G' C' A H1 T H2 hv iv O' ⟨f1, f2⟩ s X' c') hd
theorem s_setLc2 (c : CI X P w K mg base N nm j) {y1 y2 z : Str} {i1 i2 k : Nat} {p1 p2 p3 tp spos pos : Pos} {kk : Nat} {iter elt : Expr} {ifs : List Expr} {scope : Scope} (hz : Ix N z k) (hzl : nm.lookup z = some NameKind.local) (hline : (p3.line == pos.line) = true) (ha : (scope.names.any fun (n, k) => n == z && (k == .local || k == .cell)) = false) (h1 : Ix N y1 i1) (h2 : Ix N y2 i2) (ok : blkC N (scOf nm) scope [(y1, i1), (y2, i2)] = true) (hs : ∀ x, foldedSetIterable iter X.env x = pure x)
    (h : iS X (.Tuple [.Name y1 p1, .Name y2 p2] kk tp) iter σ H fun J H1 => LcOn X scope (.Tuple [.Name y1 p1, .Name y2 p2] kk tp) ifs elt [i1, i2] (fun q H => D.nx (σ.set k (some (.ref q))) H) J σ H1) : sS X (.Assign [.Name z p3] (.ListComp elt [⟨.Tuple [.Name y1 p1, .Name y2 p2] kk tp, iter, ifs, 0⟩] scope pos) spos) D σ H :=
  s_setLc c [(y1, i1), (y2, i2)] hz hzl (sw_true c.kind (c.lo _ hzl) hline ha) (blkOk_by ok) hs h
/-- sorted(dict) of a dict with whole numbers as keys -/
theorem c_sortedDI (c : CI X P w K mg base N nm j) {p : Addr} {kvs : List (Key × V)} {ks : List Int} (hp : H p = some (.dK kvs)) (hk : kvs.map (·.1) = ks.map Sum.inl) (hl : ks.length < 64) (h : ∀ (ys : List Int) q H', ys.Perm ks → ys.Pairwise (· ≤ ·) → New H q (.lst (ys.map V.int)) H' → Q (.ref q) H') : cS X (.builtin "sorted") [.ref p] H Q :=
  ⟨_, call_sortedDI c.calm, p, kvs, ks, rfl, .of hp, hk, hl, fun ys q h1 h2 hq => h ys q _ h1 h2 ⟨hq, rfl⟩⟩
/-! zip(list, list) -/
theorem i_zipL (c : CI X P w K mg base N nm j) {b : Expr} {R : It → Hp → Prop} (hg : glB nm "zip" = true) (hm : mg "zip" = none) (hs : starEach [a, b] X.env = (false, eval a X.env) :: starEach [b] X.env) (hpl : (backTo pos (starEach [b] X.env)).any (·.1) = false) (hs2 : starEach [b] X.env = (false, eval b X.env) :: starEach [] X.env)
    (h : eS X a σ H fun x H1 => eS X b σ H1 fun y H2 => ∃ q1 q2 xs ys, x = .ref q1 ∧ y = .ref q2 ∧ SqL K H2 q1 xs ∧ SqL K H2 q2 ys ∧ R (Itz K q1 q2) H2) :
    iS X (.Tuple elts kk tpos) (.Call (.Name "zip" p) [a, b] [] pos) σ H R := by
  have e := c.K
  subst e
  exact ⟨_, pi_zip (c.gl hg) (by rw [c.mg]; exact hm) (pa_cons eS_is (pa_cons eS_is pa_nil hs2) hs) hs hpl, eS_mono h fun _ _ h => eS_mono h fun _ _ ⟨q1, q2, xs, ys, e1, e2, h1, h2, r⟩ => ⟨q1, q2, xs, ys, by rw [e1, e2], h1, h2, r⟩⟩
theorem on_zipL (c : CI X P w K mg base N nm j) {q1 q2 : Addr} {xs ys : List V} (Pv : Nat → L2.St → Hp → Prop) (h0 : Pv 0 σ H) (hl : ∀ i σ H, i ≤ min xs.length ys.length → Pv i σ H → SqL K H q1 xs ∧ SqL K H q2 ys)
    (hs : ∀ i x y σ H T H', xs[i]? = some x → ys[i]? = some y → Pv i σ H → New H T (.tup [x, y]) H' → gS X (.Tuple elts kk tpos) (.ref T) σ H' fun σ2 H2 => bS X body { D with nx := Pv (i + 1), ct := Pv (i + 1), bk := D.nx } σ2 H2) (hd : ∀ σ H, Pv (min xs.length ys.length) σ H → D.nx σ H) :
    ForOn X (.Tuple elts kk tpos) body D (Itz K q1 q2) σ H := ⟨_, _, _, walk_zip rfl, Pv, h0, hl, fun i x σ H H' hi p ⟨T, u, v, e1, e2, e3, hu, hv⟩ => by
      subst e1
      exact hs i u v σ _ T H' hu hv p ⟨e2, e3⟩, hd⟩
/-- a comprehension of any target and tests; what is walked may be a cell, by what Inv says -/
theorem lc_cell {tg elt : Expr} {ifs : List Expr} {scope : Scope} {vs : List Nat} {n : Nat} {Gw : Hp → Prop} {Y : Nat → Hp → V → Hp → Prop} {J : It} {Qd : Addr → Hp → Prop} (Inv : Nat → List V → Hp → List (Addr × HO) → Prop) (c : CI X P w K mg base N nm j) (hk : scope.kind = .function) (W : Walk J n Gw Y) (hn : n ≤ 1000000) (O : Own G C H) (h0 : Inv 0 [] G C)
    (hG : ∀ m acc G' C' A H', Inv m acc G' C' → Own G' ((A, .lst acc) :: C') H' → Same G G' → Gw H')
    (hs : ∀ m x acc G' C' A H1 H2, m < n → Inv m acc G' C' → Y m H1 x H2 → Own G' ((A, .lst acc) :: C') H1 → Same G G' → ∀ X', CI X' P w K mg base N scope.names j → gS X' tg x (wipe σ vs) H2 fun σ2 H3 => wipe σ2 vs = wipe σ vs ∧ ∀ X', CI X' P w K mg base N scope.names j → tsS X' ifs σ2 H3 fun b H4 =>
      if b = true then ∀ X', CI X' P w K mg base N scope.names j → eS X' elt σ2 H4 fun y H5 => ∃ G4 C4, Own G4 ((A, .lst acc) :: C4) H5 ∧ Same G' G4 ∧ Inv (m + 1) (acc ++ [y]) G4 C4 else ∃ G4 C4, Own G4 ((A, .lst acc) :: C4) H4 ∧ Same G' G4 ∧ Inv (m + 1) acc G4 C4)
    (hd : ∀ acc G' C' A H', acc.length ≤ n → Inv n acc G' C' → Own G' ((A, .lst acc) :: C') H' → Same G G' → Qd A H') : LcOn X scope tg ifs elt vs Qd J σ H := by
  intro A hA
  refine ⟨n, Gw, Y, W, fun m H => ∃ acc G' C', acc.length ≤ m ∧ Inv m acc G' C' ∧ Own G' ((A, .lst acc) :: C') H ∧ Same G G', ⟨[], G, C, Nat.le_refl _, h0, O.cell hA, same_rfl⟩, ?_, ?_, ?_⟩
  · rintro m H' hm ⟨acc, G', C', _, iv, O', s⟩
    exact hG _ _ _ _ _ _ iv O' s
  · rintro m x H1 H2 hm ⟨acc, G', C', hl, iv, O', s⟩ hy X' hb
    obtain ⟨t, p, q⟩ := hs m x acc G' C' A H1 H2 hm iv hy O' s X' (c.blk hb hk)
    refine ⟨fun v σ H R => ∃ Q, t v σ H Q ∧ ∀ σ H, Q σ H → R σ H, ⟨fun pins s σ H v u R I r ⟨Q', h, m⟩ => thn (p.run pins s σ H v u Q' I r h) fun _ s' q => ?_⟩, _, q, ?_⟩
    · obtain ⟨σ', H', I', q⟩ := q
      exact ⟨σ', H', I', m σ' H' q⟩
    · rintro σ2 H3 ⟨hw, q⟩
      refine ⟨hw, fun X2 hb2 => tsS_mono (q X2 (c.blk hb2 hk)) fun b H4 q => ?_⟩
      cases b with
      | false =>
        obtain ⟨G4, C4, O4, s4, iv4⟩ := q
        exact ⟨acc, G4, C4, by omega, iv4, O4, same_tr s s4⟩
      | true =>
        intro X3 hb3
        refine eS_mono (q X3 (c.blk hb3 hk)) fun y H5 ⟨G4, C4, O4, s4, iv4⟩ => ?_
        exact ⟨acc, O4.at, sz_lt (by omega), acc ++ [y], G4, C4, by simp [hl], iv4, O4.write, same_tr s s4⟩
  · rintro H' ⟨acc, G', C', hl, iv, O', s⟩
    exact hd _ _ _ _ _ hl iv O' s
/-- a list of lists of numbers -/
structure LL (H : Hp) (p : Addr) (qs : List Addr) (ls : List (List Int)) : Prop where
  lst : H p = some (.lst (qs.map V.ref))
  len : qs.length = ls.length
  it : ∀ (i : Nat) q ns, qs[i]? = some q → ls[i]? = some ns → H q = some (.lst (ns.map V.int))
end
end Go

namespace Go
open PySem PySem.Spec PyProof.Rows L2
/-! cells brought to the front -/
section
variable {G H : Hp} {C : List (Addr × HO)} {a b d e f g x y z : Addr × HO}
theorem Own.front (A B : List (Addr × HO)) (O : Own G (A ++ (B ++ C)) H) : Own G (B ++ (A ++ C)) H := O.perm (by
  rw [← List.append_assoc, ← List.append_assoc]
  exact List.Perm.append_right C List.perm_append_comm)
theorem Own.f1 (O : Own G (a :: x :: C) H) : Own G (x :: a :: C) H := Own.front [a] [x] O
theorem Own.f2 (O : Own G (a :: b :: x :: C) H) : Own G (x :: a :: b :: C) H := Own.front [a, b] [x] O
theorem Own.f3 (O : Own G (a :: b :: d :: x :: C) H) : Own G (x :: a :: b :: d :: C) H := Own.front [a, b, d] [x] O
theorem Own.f4 (O : Own G (a :: b :: d :: e :: x :: C) H) : Own G (x :: a :: b :: d :: e :: C) H := Own.front [a, b, d, e] [x] O
theorem Own.f5 (O : Own G (a :: b :: d :: e :: f :: x :: C) H) : Own G (x :: a :: b :: d :: e :: f :: C) H := Own.front [a, b, d, e, f] [x] O
theorem Own.f6 (O : Own G (a :: b :: d :: e :: f :: g :: x :: C) H) : Own G (x :: a :: b :: d :: e :: f :: g :: C) H := Own.front [a, b, d, e, f, g] [x] O
theorem Own.t1 (O : Own G (a :: x :: y :: z :: C) H) : Own G (x :: y :: z :: a :: C) H := Own.front [a] [x, y, z] O
theorem Own.t2 (O : Own G (a :: b :: x :: y :: z :: C) H) : Own G (x :: y :: z :: a :: b :: C) H := Own.front [a, b] [x, y, z] O
theorem Own.t3 (O : Own G (a :: b :: d :: x :: y :: z :: C) H) : Own G (x :: y :: z :: a :: b :: d :: C) H := Own.front [a, b, d] [x, y, z] O
theorem Own.t4 (O : Own G (a :: b :: d :: e :: x :: y :: z :: C) H) : Own G (x :: y :: z :: a :: b :: d :: e :: C) H := Own.front [a, b, d, e] [x, y, z] O
theorem Own.t5 (O : Own G (a :: b :: d :: e :: f :: x :: y :: z :: C) H) : Own G (x :: y :: z :: a :: b :: d :: e :: f :: C) H := Own.front [a, b, d, e, f] [x, y, z] O
theorem Own.t6 (O : Own G (a :: b :: d :: e :: f :: g :: x :: y :: z :: C) H) : Own G (x :: y :: z :: a :: b :: d :: e :: f :: g :: C) H := Own.front [a, b, d, e, f, g] [x, y, z] O
theorem Own.r3 (O : Own G (a :: b :: d :: C) H) : Own G (b :: d :: a :: C) H := Own.front [a] [b, d] O
theorem Own.v3 (O : Own G (a :: b :: d :: C) H) : Own G (d :: b :: a :: C) H := O.swap.f2
theorem Own.at4 {p : Addr} {o : HO} (O : Own G (a :: b :: d :: (p, o) :: C) H) : H p = some o := (O.own (p, o) (by simp)).1
theorem Own.at5 {p : Addr} {o : HO} (O : Own G (a :: b :: d :: e :: (p, o) :: C) H) : H p = some o := (O.own (p, o) (by simp)).1
theorem Own.at6 {p : Addr} {o : HO} (O : Own G (a :: b :: d :: e :: f :: (p, o) :: C) H) : H p = some o := (O.own (p, o) (by simp)).1
theorem Own.at7 {p : Addr} {o : HO} (O : Own G (a :: b :: d :: e :: f :: g :: (p, o) :: C) H) : H p = some o := (O.own (p, o) (by simp)).1
end
/-! the attributes of an instance -/
inductive Fld : List (Str × V) → Str → V → Prop
  | here {f : Str} {v : V} {r : List (Str × V)} : Fld ((f, v) :: r) f v
  | there {f g : Str} {v u : V} {r : List (Str × V)} (h : Fld r f v) (n : (f == g) = false) : Fld ((g, u) :: r) f v
theorem Fld.look : ∀ {fs : List (Str × V)} {f : Str} {v : V}, Fld fs f v → fs.lookup f = some v
  | _, f, _, .here => by simp [List.lookup]
  | _, _, _, .there h n => by rw [List.lookup, n]; exact h.look
inductive NoFld : List (Str × V) → Str → Prop
  | nil {f : Str} : NoFld [] f
  | cons {f g : Str} {u : V} {r : List (Str × V)} (n : (f == g) = false) (h : NoFld r f) : NoFld ((g, u) :: r) f
theorem NoFld.look : ∀ {fs : List (Str × V)} {f : Str}, NoFld fs f → fs.lookup f = none
  | _, _, .nil => rfl
  | _, _, .cons n h => by rw [List.lookup, n]; exact h.look
inductive FPut : List (Str × V) → Str → V → List (Str × V) → Prop
  | new {f : Str} {v : V} : FPut [] f v [(f, v)]
  | here {f : Str} {v u : V} {r : List (Str × V)} : FPut ((f, u) :: r) f v ((f, v) :: r)
  | there {f g : Str} {v u : V} {r r' : List (Str × V)} (h : FPut r f v r') (n : (g == f) = false) : FPut ((g, u) :: r) f v ((g, u) :: r')
theorem FPut.eq : ∀ {fs : List (Str × V)} {f : Str} {v : V} {fs' : List (Str × V)}, FPut fs f v fs' → putF f v fs = fs'
  | _, _, _, _, .new => rfl
  | _, _, _, _, .here => by unfold putF; rw [if_pos rfl]
  | _, _, _, _, .there h n => by
    unfold putF
    rw [if_neg (fun e => by rw [e] at n; simp at n), h.eq]
/-- a class of the module, by its name -/
def clsK (K : PySem.W.Frag) (x : Str) : Addr := match PySem.W.nsIn K mainGlobals x with | some (some (.ref C)) => C | _ => 0
theorem clsK_of {K : PySem.W.Frag} {x : Str} {C : Addr} (h : PySem.W.nsIn K mainGlobals x = some (some (.ref C))) : clsK K x = C := by unfold clsK; rw [h]
/-- a method that may be called -/
structure MCal (P : Program) (w : World) (K : PySem.W.Frag) (mg : Str → Option Value) (base : Heap) (k : Nat) (x m : Str) (sp : Sp) : Prop where
  ex : ∃ (f : Addr) (fd : FuncData) (ps : List Str), FnOk P w K mg base CX0 k f fd ps sp ∧ Meth K (clsK K x) m f ∧ Binds K fd ps []
/-- a class that may be called -/
structure MkCal (P : Program) (w : World) (K : PySem.W.Frag) (mg : Str → Option Value) (base : Heap) (k : Nat) (x : Str) (sp : Sp) : Prop where
  ex : ∃ (f : Addr) (fd : FuncData) (ps : List Str), FnOk P w K mg base CX0 k f fd ps sp ∧ Mk K (clsK K x) f ∧ mg x = some (.ref (clsK K x)) ∧ Binds K fd ps []
/-- a method of a class of the module -/
structure Mf (K : PySem.W.Frag) (cl m qual : Str) (st : Stmt) (ps : List Str) : Prop where
  ex : ∃ (f : Addr) (fd : FuncData), Fun K m qual st f fd ∧ Meth K (clsK K cl) m f ∧ Binds K fd ps []
theorem mcal_of {P : Program} {w : World} {K : PySem.W.Frag} {mg : Str → Option Value} {base : Heap} {cl m qual : Str} {st : Stmt} {ps : List Str} {sp : Sp} {k : Nat} (D : Mf K cl m qual st ps) (h : ∀ {f : Addr} {fd : FuncData}, Fun K m qual st f fd → FnOk P w K mg base CX0 k f fd ps sp) : MCal P w K mg base k cl m sp := by
  obtain ⟨f, fd, F, M, b⟩ := D.ex
  exact ⟨f, fd, ps, h F, M, b⟩
theorem mkcal_of {P : Program} {w : World} {K : PySem.W.Frag} {mg : Str → Option Value} {base : Heap} {cl qual : Str} {st : Stmt} {ps : List Str} {sp : Sp} {k : Nat} (D : Mf K cl "__init__" qual st ps) (h : ∀ {f : Addr} {fd : FuncData}, Fun K "__init__" qual st f fd → FnOk P w K mg base CX0 k f fd ps sp)
    (hm : PySem.W.makesIn K (clsK K cl) = true) (hk : PySem.W.keepIn K (.ref (clsK K cl)) = true) (hg : mg cl = some (.ref (clsK K cl))) : MkCal P w K mg base k cl sp := by
  obtain ⟨f, fd, F, M, b⟩ := D.ex
  exact ⟨f, fd, ps, h F, ⟨hm, M.at_, M.fn, hk⟩, hg, b⟩
theorem mf_mk {K : PySem.W.Frag} {cl m qual : Str} {C f : Addr} {st : Stmt} {ps : List Str} {od an : Option Addr} {sl : Array (Option Value)} {oc kV dc pm cd ct : Value} (aC : PySem.W.nsIn K mainGlobals cl = some (some (.ref C)))
    (a : PySem.W.findIn K (.ref C) m = some (some (.ref f))) (i : PySem.W.isFn K (.ref f) = true) (l : K.lookup f = some ⟨oc, od, .func (PySem.W.fnOf m qual (defArgs st) (defBody st) (defScope st) .none kV dc pm an cd ct), sl⟩) (c : PySem.W.codeIn K cd qual = true) (k : PySem.W.keepIn K (.ref f) = true)
    (hb : ∀ (us : List Value), us.length = ps.length → bindArgs (PySem.W.fnOf m qual (defArgs st) (defBody st) (defScope st) .none kV dc pm an cd ct) ⟨us, []⟩ = pure (ps.zip us)) : Mf K cl m qual st ps := by
  refine ⟨f, _, fun_mk (st := st) l c k, ⟨by rw [clsK_of aC]; exact a, i, k⟩, Binds.all hb⟩
section
variable {X : Cx} {P : Program} {w : World} {K : PySem.W.Frag} {mg : Str → Option Value} {base : Heap} {N : List Str} {nm : List (Str × NameKind)} {j : Nat} {σ σ' : L2.St} {H G : Hp} {Q : VK} {D : Ends} {pos pos' p tpos apos : Pos} {C : List (Addr × HO)} {e o i value : Expr} {es : List Expr}
/-- o.f -/
theorem e_fld (c : CI X P w K mg base N nm j) {f : Str} (hb : attributeBase e f X.env (eval e X.env) = eval e X.env) (h : eS X e σ H fun x H1 => ∃ a C dx fs v, x = .ref a ∧ H1 a = some (.ins C dx fs) ∧ Cls K C ∧ NoAttr K C f ∧ Fld fs f v ∧ Q v H1) : eS X (.Attribute e f pos) σ H Q := by
  have eK := c.K
  subst eK
  exact ⟨_, pe_fld eS_is hb, eS_mono h fun x H1 ⟨a, C, dx, fs, v, h1, h2, h3, h4, h5, q⟩ => ⟨a, C, dx, fs, v, h1, h2, h3, h4, h5.look, q⟩⟩
theorem k_fld {a C0 dx : Addr} {fs : List (Str × V)} {v : V} {f : Str} {R : V → Prop} (h1 : H a = some (.ins C0 dx fs)) (h2 : Cls K C0) (h3 : NoAttr K C0 f) (h4 : Fld fs f v) (h : R v) : ∃ a' C dx fs v, V.ref a = .ref a' ∧ H a' = some (.ins C dx fs) ∧ Cls K C ∧ NoAttr K C f ∧ Fld fs f v ∧ R v :=
  ⟨a, C0, dx, fs, v, rfl, h1, h2, h3, h4, h⟩
/-- o.f = value -/
theorem s_fld (c : CI X P w K mg base N nm j) {f : Str} (hs : swapsWith value (some (.Attribute o f pos')) pos.line X.env = pure false)
    (h : eS X value σ H fun y H1 => eS X o σ H1 fun x H2 => ∃ a C dx fs fs', x = .ref a ∧ H2 a = some (.ins C dx fs) ∧ Cls K C ∧ NoAttr K C f ∧ fs.length < 1000 ∧ FPut fs f y fs' ∧ D.nx σ (upd H2 a (.ins C dx fs'))) : sS X (.Assign [.Attribute o f pos'] value pos) D σ H := by
  have eK := c.K
  subst eK
  exact ⟨_, ps_fld eS_is eS_is hs, eS_mono h fun y H1 h => eS_mono h fun x H2 ⟨a, C, dx, fs, fs', h1, h2, h3, h4, h5, h6, q⟩ => ⟨a, C, dx, fs, h1, h2, h3, h4, h5, by rw [h6.eq]; exact q⟩⟩
theorem k_fput {a C0 dx : Addr} {fs fs' : List (Str × V)} {y : V} {f : Str} {R : Hp → Prop} (O : Own G ((a, .ins C0 dx fs) :: C) H) (h2 : Cls K C0) (h3 : NoAttr K C0 f) (h5 : fs.length < 1000) (h4 : FPut fs f y fs') (h : ∀ H', Own G ((a, .ins C0 dx fs') :: C) H' → R H') : ∃ a' C dx fs fs', V.ref a = .ref a' ∧ H a' = some (.ins C dx fs) ∧ Cls K C ∧ NoAttr K C f ∧ fs.length < 1000 ∧ FPut fs f y fs' ∧ R (upd H a' (.ins C dx fs')) :=
  ⟨a, C0, dx, fs, fs', rfl, O.at, h2, h3, h5, h4, h _ O.write⟩
/-- o.m(e, ..), o an instance of a class of the module -/
theorem e_mth (c : CI X P w K mg base N nm j) {k : Nat} {cl m : Str} {sp : Sp} {pl : Sem Bool} (M : MCal P w K mg base k cl m sp) (T : Cls K (clsK K cl)) (hk : k ≤ j) (hst : starEach (e :: es) X.env = (false, eval e X.env) :: starEach es X.env) (hpl : (backTo pos (starEach es X.env)).any (·.1) = false)
    (ht : eval (.Call (.Attribute o m apos) (e :: es) [] pos) X.env = (do
      let ov ← eval o X.env
      standAt apos.atName
      let (f, first) ← holding [ov] (getMethod ov m pl)
      callWith pos f first (backTo pos (starEach (e :: es) X.env)) (backToKw pos (keywordEach [] X.env))))
    (h : eS X o σ H fun x H1 => ∃ a dx fs, x = .ref a ∧ H1 a = some (.ins (clsK K cl) dx fs) ∧ NoFld fs m ∧ aS X (e :: es) σ H1 fun vs H2 => sp (x :: vs) H2 Q E0) : eS X (.Call (.Attribute o m apos) (e :: es) [] pos) σ H Q := by
  have h1 := c.prog; have h2 := c.w; have h3 := c.K; have h4 := c.mg; have h5 := c.base
  subst h1 h2 h3 h4 h5
  obtain ⟨f, fd, ps, F, M, b⟩ := M.ex
  exact ⟨_, pe_meth eS_is T M F (c.room.mono hk) b .nil pass0 aS_is hst hpl ht, eS_mono h fun x H1 ⟨a, dx, fs, g1, g2, g3, q⟩ => ⟨a, dx, fs, g1, g2, g3.look, aS_mono q fun vs H2 q => by rw [List.append_nil]; exact q⟩⟩
theorem e_mth0 (c : CI X P w K mg base N nm j) {k : Nat} {cl m : Str} {sp : Sp} {pl : Sem Bool} (M : MCal P w K mg base k cl m sp) (T : Cls K (clsK K cl)) (hk : k ≤ j)
    (ht : eval (.Call (.Attribute o m apos) [] [] pos) X.env = (do
      let ov ← eval o X.env
      standAt apos.atName
      let (f, first) ← holding [ov] (getMethod ov m pl)
      callWith pos f first (backTo pos (starEach [] X.env)) (backToKw pos (keywordEach [] X.env))))
    (h : eS X o σ H fun x H1 => ∃ a dx fs, x = .ref a ∧ H1 a = some (.ins (clsK K cl) dx fs) ∧ NoFld fs m ∧ sp [x] H1 Q E0) : eS X (.Call (.Attribute o m apos) [] [] pos) σ H Q := by
  have h1 := c.prog; have h2 := c.w; have h3 := c.K; have h4 := c.mg; have h5 := c.base
  subst h1 h2 h3 h4 h5
  obtain ⟨f, fd, ps, F, M, b⟩ := M.ex
  exact ⟨_, pe_meth0 eS_is T M F (c.room.mono hk) b .nil pass0 ht, eS_mono h fun x H1 ⟨a, dx, fs, g1, g2, g3, q⟩ => ⟨a, dx, fs, g1, g2, g3.look, q⟩⟩
theorem k_mth {a dx : Addr} {C0 : Addr} {fs : List (Str × V)} {m : Str} {R : Prop} (h1 : H a = some (.ins C0 dx fs)) (h4 : NoFld fs m) (h : R) : ∃ a' dx fs, V.ref a = .ref a' ∧ H a' = some (.ins C0 dx fs) ∧ NoFld fs m ∧ R := ⟨a, dx, fs, rfl, h1, h4, h⟩
/-- x(), x a class of the module -/
theorem e_make0 (c : CI X P w K mg base N nm j) {k : Nat} {x : Str} {sp : Sp} (M : MkCal P w K mg base k x sp) (hk : k + 1 ≤ j) (hg : glB nm x = true)
    (O : Own G C H) (h : ∀ q dx G' H', Same G G' → G' dx = some (.own q) → Own G' ((q, .ins (clsK K x) dx []) :: C) H' → sp [.ref q] H' (fun v H2 => v = .non ∧ Q (.ref q) H2) E0) : eS X (.Call (.Name x p) [] [] pos) σ H Q := by
  have h1 := c.prog; have h2 := c.w; have h3 := c.K; have h4 := c.mg; have h5 := c.base
  subst h1 h2 h3 h4 h5
  obtain ⟨f, fd, ps, F, M, hm, b⟩ := M.ex
  refine ⟨_, pe_make0 M F (c.room.mono hk) (c.gl hg) hm b .nil pass0 (glB_d hg), fun q dx n1 n2 ne => ?_⟩
  have O1 := O.fz (o := .own q) n2
  have O2 := O1.cell (o := .ins (clsK X.K x) dx []) (by rw [upd_ne ne.symm]; exact n1)
  exact h q dx _ _ (same_new (O.frees n2).1) upd_same O2
/-- a list's item, as a value -/
theorem get_list : PGet X (rIxL X.K) := by
  intro pins s σ H x y v u Q I rx ry h
  obtain ⟨p, xs, i, z, rfl, rfl, hq, he, q⟩ := h
  cases rx
  obtain ⟨t, rfl⟩ := ry
  obtain ⟨its, r, pl, hz⟩ := I.list hq
  obtain ⟨j, h1, h2, h3, h4, h5⟩ := L2.atI_get he
  obtain ⟨w, ew, rw'⟩ := r.get h2
  have hl := r.length
  have hn := line63
  have fin : EP X pins σ Q w s := ⟨z, H, I, rw', q⟩
  by_cases h0 : 0 ≤ i
  · have hj : i.toNat = j := by
      rw [seqIndex_of h0 h5] at h1
      exact Option.some.inj h1
    exact wpAny_getItem_list pl.isList h0 (by omega) (by rw [hj]; simpa using ew) fin
  · have hj : (i + (its.toArray.size : Int)).toNat = j := by
      rw [seqIndex_neg (by omega) h4] at h1
      rw [List.size_toArray, ← hl]
      exact Option.some.inj h1
    exact wpAny_getItem_list_neg pl.isList (by omega) (by rw [List.size_toArray] <;> omega) (by omega) (by rw [hj]; simpa using ew) fin
/-- xs[i] op= e -/
theorem s_augL (c : CI X P w K mg base N nm j) {op : Operator} (ha : ∀ ov iv new, augStore i ov iv new = (do holding [new, ov, iv] (setItem ov iv new); release [new, ov, iv] []; pure .next))
    (h : eS X o σ H fun x H1 => eS X i σ H1 fun y H2 => ∃ p xs k v, x = .ref p ∧ y = .int k ∧ SqL K H2 p xs ∧ atI xs k = some v ∧ eS X e σ H2 fun z H3 => oS X (inplaceOp op) v z H3 fun r H4 => pS X x y r H4 fun H5 => D.nx σ H5) : sS X (.AugAssign (.Subscript o i tpos) op e pos) D σ H := by
  have eK := c.K
  subst eK
  exact ⟨_, ps_augS eS_is eS_is get_list eS_is (fun pins s σ H x y v u Q => oS_is pins s σ H x y v u Q) pS_is ha, h⟩
/-- a cell that is a list, written at a place -/
theorem e_gref {x : Str} {q : Addr} (c : CI X P w K mg base N nm j) (hm : mg x = some (.ref q)) (hg : glB nm x = true) (h : Q (.ref q) H) : eS X (.Name x pos) σ H Q := e_glob c hg hm (show L2.RelV (.ref q) (.ref q) from rfl) h
theorem i_falseB {b : Bool} {A B : Prop} (h : b = false) (k : B) : if b = true then A else B := by rw [h]; exact k
theorem i_trueB {b : Bool} {A B : Prop} (h : b = true) (k : A) : if b = true then A else B := by rw [h]; exact k
/-- xs.pop() of a cell that is a mapped list -/
theorem m_popC {α : Type} {f : α → V} {a : α} {l : List α} {q : Addr} (O : Own G ((q, .lst ((l ++ [a]).map f)) :: C) H) (h : ∀ H', Own G ((q, .lst (l.map f)) :: C) H' → Q (f a) H') : mS X "list.pop" (.ref q) [] H Q :=
  m_pop (y := f a) O.at (by simp) (by
    have e : ((l ++ [a]).map f).dropLast = l.map f := by rw [List.map_append]; simp
    rw [e]
    exact h _ O.write)
theorem p_cellN {xs : List V} {k : Int} {n : Nat} {q : Addr} {v : V} {R : Hp → Prop} (O : Own G ((q, .lst xs) :: C) H) (hk : k = n) (hn : n < xs.length) (h : ∀ H', Own G ((q, .lst (xs.set n v)) :: C) H' → R H') : pS X (.ref q) (.int k) v H R := by
  subst hk
  refine p_lst O.at ?_ (h _ O.write)
  unfold ixN
  rw [if_pos (Int.natCast_nonneg _), if_pos (by omega)]
  simp
theorem atI_nat' {α : Type} {z : List α} {k : Int} {n : Nat} {v : α} (hk : k = n) (e : z[n]? = some v) : atI z k = some v := by
  subst hk; exact Go.atI_get e
end
section
variable {P : Program} {w : World} {K : PySem.W.Frag} {mg : Str → Option Value} {base : Heap} {N : List Str}
theorem intoQ {x qual : Str} {st : Stmt} {f : Addr} {fd : FuncData} {ps : List Str} {sp : Sp} {k : Nat} (F : Fun K x qual st f fd) {nm : List (Str × NameKind)} (S : FnScope N ps (defScope st)) (hnm : (defScope st).names = nm) (len : ∀ vs H Q E, sp vs H Q E → vs.length = ps.length) (hl : ps.length ≤ N.length)
    (body : ∀ (X : Cx) (H : Hp) (vs : List V) (Q : VK) (E : XK), CI X P w K mg base N nm k → sp vs H Q E → bS X (defBody st) { nx := fun _ H' => Q .non H', rt := Q } (startL N vs) H) : FnOk P w K mg base CX0 (k + 1) f fd ps sp :=
  enter F S hnm len fun X H vs Q E c h => by
    rw [startL_eq N vs (by rw [len vs H Q E h]; exact hl)]
    exact body X H vs Q E c h
end
end Go

namespace Go
open PySem PySem.Spec PyProof.Rows L2
/-! cells in another order -/
inductive Pull {α : Type} (x : α) : List α → List α → Prop
  | here {L : List α} : Pull x (x :: L) L
  | there {y : α} {L L' : List α} (h : Pull x L L') : Pull x (y :: L) (y :: L')
inductive Pl {α : Type} : List α → List α → Prop
  | refl {L : List α} : Pl L L
  | cons {x : α} {L L' A : List α} (h : Pull x L L') (k : Pl L' A) : Pl L (x :: A)
theorem Pull.perm {α : Type} {x : α} : ∀ {L L' : List α}, Pull x L L' → L.Perm (x :: L')
  | _, _, .here => List.Perm.refl _
  | _, _, .there h => (List.Perm.cons _ h.perm).trans (List.Perm.swap _ _ _)
theorem Pl.perm {α : Type} : ∀ {L A : List α}, Pl L A → L.Perm A
  | _, _, .refl => List.Perm.refl _
  | _, _, .cons h k => h.perm.trans (List.Perm.cons _ k.perm)
theorem Own.pl {G H : Hp} {C D : List (Addr × HO)} (O : Own G C H) (h : Pl C D) : Own G D H := O.perm h.perm.symm
/-- what is frozen, or one of the cells -/
theorem sq_or {K : PySem.W.Frag} {G G' H' : Hp} {C0 C : List (Addr × HO)} {p : Addr} {xs : List V} (h : G p = some (.lst xs) ∨ (p, HO.lst xs) ∈ C) (O : Own G' C0 H') (hs : ∀ z ∈ C, z ∈ C0) (s : Same G G') : SqL K H' p xs :=
  h.elim (fun h => .of (hp_up O (s _ _ h))) (fun h => .of (O.own _ (hs _ h)).1)
section
variable {X : Cx} {G H : Hp} {C : List (Addr × HO)} {Q : VK}
/-- xs.pop(k) of a cell -/
theorem m_popI {p : Addr} {xs : List V} {k : Int} {n : Nat} (O : Own G ((p, .lst xs) :: C) H) (hk : k = (n : Nat)) (hn : n < xs.length) (hm : xs.length ≤ 1000000) (h : ∀ x H', xs[n]? = some x → Own G ((p, .lst (xs.eraseIdx n)) :: C) H' → Q x H') : mS X "list.pop" (.ref p) [.int k] H Q := by
  subst hk
  exact ⟨_, mt_popAt, p, xs, (n : Int), n, xs[n], rfl, rfl, O.at, by omega, by omega, by
    unfold seqIndex?
    show (if (decide (0 ≤ (if (n : Int) < 0 then (n : Int) + (xs.length : Int) else (n : Int))) && decide ((if (n : Int) < 0 then (n : Int) + (xs.length : Int) else (n : Int)) < (xs.length : Int))) = true then some (if (n : Int) < 0 then (n : Int) + (xs.length : Int) else (n : Int)).toNat else none) = some n
    rw [if_neg (show ¬ (n : Int) < 0 by omega), decide_eq_true (show (0 : Int) ≤ (n : Int) by omega), decide_eq_true (show (n : Int) < (xs.length : Int) by omega)]
    rfl, List.getElem?_eq_getElem hn, h _ _ (List.getElem?_eq_getElem hn) O.write⟩
end
end Go

namespace Go
open PySem PySem.Spec PyProof.Rows L2

/-! exceptions of the module's own classes, over ValueError -/
/-- one that was caught and is kept -/
def ExcO (cls : Value) (a : Addr) : HO := .ext fun h => ∃ (oe : Obj) (vs : Array Value), h.get? a = some oe ∧ Zc cls none oe ∧ oe.data = .fields vs
theorem excO_ok {P : Program} {w : World} {H : Hp} {h : Heap} {a : Addr} {cls : Value} {oe : Obj} {vs : Array Value} (e : h.get? a = some oe) (z : Zc cls none oe) (d : oe.data = .fields vs) : ObjOk P w H h a (ExcO cls a) :=
  ⟨⟨oe, vs, e, z, d⟩, ⟨oe, e⟩, fun _ _ ⟨o, v, q, r⟩ k => ⟨o, v, k o q, r⟩⟩
/-- what was pinned in a suite is tracked from now on -/
theorem adopt {X : Cx} {pins : List (Addr × Obj)} {σ : L2.St} {H : Hp} {s : Shared} {a : Addr} {oe : Obj} {o : HO} (I : Inv X ((a, oe) :: pins) σ H s) (n0 : X.s_0.heap.get? a = none) (hp : ∀ p ∈ X.pn ++ pins, p.1 ≠ a) (new : ObjOk X.prog X.w (upd H a o) s.heap a o) : Inv X pins σ (upd H a o) s := by
  obtain ⟨ha, na, nL, nF, nc⟩ := I.pin (a, oe) (List.mem_append_right _ List.mem_cons_self)
  have off : ∀ {b : Addr}, b ≠ a → upd H a o b = H b := fun h => upd_ne h
  refine ⟨I.ok, I.os, I.bare, ⟨I.base.keep, I.base.slot, fun b u e n hx => ?_, I.base.there, fun b xs e => ?_, fun b u xs e => ?_, fun b ps e => ?_⟩, I.loc, I.cell, (off (Ne.symm nL)).trans I.free, fun x c e => ?_, fun p hm => ?_, I.hok.laidN (fun _ _ q => q) na new, I.len⟩
  · exact (off (fun z => by rw [z, n0] at e; cases e)).trans (I.base.free b u e n hx)
  · have q := I.base.tups b xs e
    exact (off (ne_of_none q na)).trans q
  · have q := I.base.frzs b u xs e
    exact (off (ne_of_none q na)).trans q
  · obtain ⟨more, q⟩ := I.base.tbls b ps e
    exact ⟨more, (off (ne_of_none q na)).trans q⟩
  · refine (off (fun z => ?_)).trans (I.freeC x c e)
    obtain ⟨v, ob, h1, h2⟩ := I.cell x c e
    rw [z] at h1
    have h3 : s.heap.get? a = some oe := ha
    rw [h3] at h1
    cases h1
    exact nc _ h2
  · have hm' : p ∈ X.pn ++ (a, oe) :: pins := by
      rcases List.mem_append.mp hm with h | h
      · exact List.mem_append_left _ h
      · exact List.mem_append_right _ (List.mem_cons_of_mem _ h)
    obtain ⟨h1, h2, h3⟩ := I.pin p hm'
    exact ⟨h1, (off (hp p hm)).trans h2, h3⟩
/-- what a try wishes whose one clause is 'except W as n: y = n', the slots i of n, k of y -/
abbrev wKept (K : PySem.W.Frag) (c : Value) (i k : Nat) (D : Ends) : WX := fun cls d σ H => d = none ∧ PySem.W.exmOne K cls c = some true ∧ ∀ a, H a = none → D.nx (((σ.set i (some (.ref a))).set k (some (.ref a))).set i none) (upd H a (ExcO cls a))
section
variable {X : Cx} {x n y : Str} {c : Value} {i k : Nat} {body : List Stmt} {np np2 yp ap hp pos : Pos} {tb : WX → TS}
/-- the clause at work -/
theorem kept_catch {pins : List (Addr × Obj)} {D : Ends} {xe : Value → Shared → Prop} {u : Value} {s' : Shared} (ok : X.Ok) (hs : X.stack = X.env :: X.outer) (hf : X.env.frame = some X.env.locals) (hx : X.ex = []) (hN : X.N.Nodup) (hi : X.N[i]? = some n) (hln : X.env.kindOf n = some .local) (hk : X.N[k]? = some y) (hlk : X.env.kindOf y = some .local)
    (hd : (n == ("__debug__" : Str)) = false) (hcd : (n == ("__classdict__" : Str)) = false) (hc : Names X x c) (hsw : swapsWith (.Name n np2) (some (.Name y yp)) ap.line X.env = pure false) (xx : XE (X.tr (X.pn ++ pins) xe) (wKept X.K c i k D) u s') :
    wpAny (model X.prog X.w) X.A (noteFrame u X.env) (fun _ s₂ => wpAny (model X.prog X.w) X.A (setFlight u none) (fun _ s₃ => wpAny (model X.prog X.w) X.A (handleBy u X.env [.ExceptHandler (some (.Name x np)) (some n) [.Assign [.Name y yp] (.Name n np2) ap] hp]) (SP X pins D) X.xe s₃) X.xe s₂) X.xe s' := by
  obtain ⟨a, B, sI, pins', σ', H', cls, d, rfl, J', nb, up, sky, na, os, ag, rfl, hm, hq⟩ := xx
  have J : Inv X pins σ' H' sI := J'.ofTry ok
  have fr : X.A.frames = some (X.env :: X.outer) := ok.frames.trans (by rw [hs])
  have sky' : Sky B (X.env :: X.outer) a (Zc cls none) X.env.locals s'.heap := hs ▸ sky
  refine Sky.land Zc.steady fr hf sky' fun g fl upg => ?_
  have J3 : Inv X pins σ' H' { s' with heap := g } := J.landed nb fl.1 (up.trans upg) os ag
  obtain ⟨oe, vs, he, hz, hv⟩ := fl.there
  have nB : B.get? a = none := fl.2.1
  have nS : a ∉ frs (X.env :: X.outer) := fun hm => by
    obtain ⟨_, o', e', hnf⟩ := fl.2.2.1.mem hm
    have he' := he
    rw [e'] at he'
    cases he'
    exact hnf _ hv
  have nL : a ≠ X.env.locals := fun z => nS (List.mem_filterMap.mpr ⟨X.env, List.mem_cons_self, by rw [hf, z]⟩)
  have nF : a ∉ X.fs := fun hm => by
    obtain ⟨e, h1, h2⟩ := List.mem_filterMap.mp hm
    exact nS (List.mem_filterMap.mpr ⟨e, List.mem_cons_of_mem _ h1, h2⟩)
  have sub : ∀ {b : Addr} {o : Obj}, sI.heap.get? b = some o → b ∉ frs (X.env :: X.outer) → b ≠ a := fun {b o} e hb z => by
    have := nb b o e (by rw [show (X.tr (X.pn ++ pins) xe).stack = X.stack from rfl, hs]; exact hb)
    rw [z, nB] at this
    cases this
  have n0 : X.s_0.heap.get? a = none := by
    cases e : X.s_0.heap.get? a with
    | none => rfl
    | some o =>
      obtain ⟨o', e'⟩ := J.base.there a o e (by rw [hx]; exact List.not_mem_nil)
      exact absurd rfl (sub e' nS)
  have hpn : ∀ p ∈ X.pn ++ pins, p.1 ≠ a := fun p hp => by
    obtain ⟨h1, _, h3, h4, _⟩ := J.pin p hp
    refine sub h1 fun hm => ?_
    obtain ⟨e, h5, h6⟩ := List.mem_filterMap.mp hm
    rcases List.mem_cons.mp h5 with rfl | h5
    · rw [hf] at h6
      exact h3 (Option.some.inj h6).symm
    · exact h4 (List.mem_filterMap.mpr ⟨e, h5, h6⟩)
  have S3 := J3.suite he hv na nL nF
  refine wpAny_handleBy_cons (codeAny_handlers_test ?_) (fun q => nomatch q)
  have LT : PySem.W.Looks (model X.prog X.w) g (typeOf (.ref a)) cls := fun _ _ _ _ st q => wpAny_typeOf_ref (st _ _ he) (by rw [hz.1]; exact q)
  have LM := PySem.W.exm_one (M := model X.prog X.w) J3.kIn LT hm
  have named : ∀ {Q E : Value → Shared → Prop}, Q c { s' with heap := g } → wpAny (model X.prog X.w) (X.A.mark (some (.ref a))) (eval (.Name x np) X.env) Q E { s' with heap := g } := fun {Q E} q => by
    obtain ⟨hg, hdb, hm | ⟨hm, hv, hnn⟩⟩ := hc
    · exact ld_glob S3 hg hm q hdb
    · exact ld_blt S3 hg hm hv q hnn hdb
  refine named (LM.here (codeAny_handlers_suite_as (HandSPX.lands_againZ fl fun g4 fl4 up4 => ?_)))
  have J4 : Inv X pins σ' H' { s' with heap := g4 } := J.landed nb fl4.1 ((up.trans upg).trans up4) os ag
  obtain ⟨oe4, vs4, he4, hz4, hv4⟩ := fl4.there
  have S4 := J4.suite he4 hv4 na nL nF
  have one : PSs (X.suite a ((a, oe4) :: (X.pn ++ pins))) [.Assign [.Name y yp] (.Name n np2) ap] _ := pss_one (ps_set (i := k) hN hk (.inl hlk) (pe_var (i := i) hi (.inl hln) hd hcd) hsw (.inr hlk))
  refine store_ok (X := X.suite a ((a, oe4) :: (X.pn ++ pins))) (v := .ref a) S4 hN hi (.inl hln) rfl (fun s5 S5 => ?_) (.inr hln)
  have hlt : i < σ'.length := by
    have h1 : σ'.length = X.N.length := S4.len
    rw [h1]
    exact (List.getElem?_eq_some_iff.mp hi).1
  refine wpAny_mono (one.run [] s5 _ H' ⟨fun σ6 H6 => σ6 = (σ'.set i (some (.ref a))).set k (some (.ref a)) ∧ H6 = H', fun _ _ => False, fun _ _ => False, fun _ _ => False⟩ S5 ⟨.ref a, by rw [List.getElem?_set_self hlt], rfl, rfl⟩) (fun f s6 hsp => ?_) fun _ _ z => False.elim z
  cases f with
  | next =>
    obtain ⟨σ6, H6, S6, rfl, rfl⟩ := hsp
    have J6 : Inv X ((a, oe4) :: pins) ((σ'.set i (some (.ref a))).set k (some (.ref a))) H6 s6 := ⟨ok, S6.os, S6.bare, S6.base, S6.loc, S6.cell, S6.free, S6.freeC, fun p hp => S6.pin p (List.mem_append_left _ (by
      rcases List.mem_append.mp hp with h | h
      · exact List.mem_cons_of_mem _ (List.mem_append_left _ h)
      · rcases List.mem_cons.mp h with h | h
        · rw [h]; exact List.mem_cons_self
        · exact List.mem_cons_of_mem _ (List.mem_append_right _ h))), S6.hok, S6.len⟩
    exact gone_ok J6 hN hi hln fun s7 J7 => ⟨_, _, adopt J7 n0 hpn (excO_ok (J7.pin (a, oe4) (List.mem_append_right _ List.mem_cons_self)).1 hz4 hv4), hq a na⟩
  | ret v => obtain ⟨_, _, _, _, _, z⟩ := hsp; exact z.elim
  | brk => obtain ⟨_, _, _, z⟩ := hsp; exact z.elim
  | cont => obtain ⟨_, _, _, z⟩ := hsp; exact z.elim
theorem ps_kept (hs : X.stack = X.env :: X.outer) (hf : X.env.frame = some X.env.locals) (hx : X.ex = []) (hN : X.N.Nodup) (hi : X.N[i]? = some n) (hln : X.env.kindOf n = some .local) (hk : X.N[k]? = some y) (hlk : X.env.kindOf y = some .local)
    (hd : (n == ("__debug__" : Str)) = false) (hcd : (n == ("__classdict__" : Str)) = false) (hc : Names X x c) (hsw : swapsWith (.Name n np2) (some (.Name y yp)) ap.line X.env = pure false)
    (hb : ∀ (W : WX) (pn : List (Addr × Obj)) (xe : Value → Shared → Prop), Takes (X.tr pn xe) W → PassesOwn (model X.prog X.w) X.A X.env xe → PSs (X.tr pn xe) body (tb W)) :
    PS X (.Try body [.ExceptHandler (some (.Name x np)) (some n) [.Assign [.Name y yp] (.Name n np2) ap] hp] [] [] pos) (fun D σ H => tb (wKept X.K c i k D) D σ H) := by
  refine ⟨fun pins s σ H D I h => wpAny_Try_except (wpAny_mono ((hb (wKept X.K c i k D) (X.pn ++ pins) _ (fun u s' xx => ?_) PassesOwn.looking).run [] s σ H D (I.toTry _) h) (fun f s1 hsp => ?_) fun _ _ z => z)⟩
  · exact kept_catch (np := np) (hp := hp) I.ok hs hf hx hN hi hln hk hlk hd hcd hc hsw xx
  · cases f with
    | next => obtain ⟨σ1, H1, J, q⟩ := hsp; exact wpAny_execs_nil ⟨σ1, H1, J.ofTry I.ok, q⟩
    | ret v => obtain ⟨x, σ1, H1, J, r, q⟩ := hsp; exact ⟨x, σ1, H1, J.ofTry I.ok, r, q⟩
    | brk => obtain ⟨σ1, H1, J, q⟩ := hsp; exact ⟨σ1, H1, J.ofTry I.ok, q⟩
    | cont => obtain ⟨σ1, H1, J, q⟩ := hsp; exact ⟨σ1, H1, J.ofTry I.ok, q⟩
end

/-- a def's own frame, no comprehension's -/
structure Top (X : Cx) : Prop where
  hs : X.stack = X.env :: X.outer
  hf : X.env.frame = some X.env.locals
  hx : X.ex = []
/-- what leaves a def -/
abbrev outE (E : XK) : WX := fun cls d _ H => E cls d H
/-- a class of exceptions of the module, over ValueError, without own __init__ -/
structure ExcK (K : PySem.W.Frag) (mg : Str → Option Value) (x : Str) : Prop where
  mg : mg x = some (.ref (clsK K x))
  ex : PySem.W.excIn K (clsK K x) PySem.HandSPX.veTail "ValueError.__new__" = true
  kp : PySem.W.keepIn K (.ref (clsK K x)) = true
  sb : PySem.W.subIn K (.ref (clsK K x)) (.type "BaseException") = some true
  ty : PySem.W.typeIn K (.ref (clsK K x)) = some (.type "type")
  ec : ExcC K (clsK K x)
/-- a def that may raise -/
structure CalX (P : Program) (w : World) (K : PySem.W.Frag) (mg : Str → Option Value) (base : Heap) (k : Nat) (x : Str) (sp : Sp) : Prop where
  ex : ∃ (f : Addr) (fd : FuncData) (ps : List Str), FnOk P w K mg base (L2.CX P w) k f fd ps sp ∧ mg x = some (.ref f) ∧ PySem.W.keepIn K (.ref f) = true ∧ Binds K fd ps []
/-- a method that may raise -/
structure MCalX (P : Program) (w : World) (K : PySem.W.Frag) (mg : Str → Option Value) (base : Heap) (k : Nat) (x m : Str) (sp : Sp) : Prop where
  ex : ∃ (f : Addr) (fd : FuncData) (ps : List Str), FnOk P w K mg base (L2.CX P w) k f fd ps sp ∧ Meth K (clsK K x) m f ∧ Binds K fd ps []
section
variable {P : Program} {w : World} {K : PySem.W.Frag} {mg : Str → Option Value} {base : Heap} {N : List Str} {k : Nat} {sp : Sp}
/-- where it raises nothing -/
theorem fn_calm {f : Addr} {fd : FuncData} {ps : List Str} (F : FnOk P w K mg base (L2.CX P w) k f fd ps sp) : FnOk P w K mg base CX0 k f fd ps (fun vs H Q _ => sp vs H Q E0) :=
  ⟨fun vs H Q _ h => F.len vs H Q E0 h, fun A outer s H args us vs Q E hr he hb hv hsp => codeAny_mono (F.run A outer s H args us vs Q E0 hr he hb hv hsp) fun r s' hq => by
    cases r with
    | ok fl => cases fl <;> exact hq
    | error e =>
      obtain ⟨_, _, _, _, _, _, _, _, _, _, _, _, z⟩ := hq
      exact z.elim⟩
theorem CalX.cal {x : Str} (C : CalX P w K mg base k x sp) : Cal P w K mg base k x (fun vs H Q _ => sp vs H Q E0) := by
  obtain ⟨f, fd, ps, F, h⟩ := C.ex
  exact ⟨f, fd, ps, fn_calm F, h⟩
theorem MCalX.cal {x m : Str} (C : MCalX P w K mg base k x m sp) : MCal P w K mg base k x m (fun vs H Q _ => sp vs H Q E0) := by
  obtain ⟨f, fd, ps, F, h⟩ := C.ex
  exact ⟨f, fd, ps, fn_calm F, h⟩
theorem calX_of {x : Str} {st : Stmt} {ps : List Str} (D : Df K mg x st ps) (h : ∀ {f : Addr} {fd : FuncData}, Fun K x x st f fd → FnOk P w K mg base (L2.CX P w) k f fd ps sp) : CalX P w K mg base k x sp := by
  obtain ⟨f, fd, F, m, b, _⟩ := D
  exact ⟨f, fd, ps, h F, m, F.kp, b⟩
theorem mcalX_of {cl m qual : Str} {st : Stmt} {ps : List Str} (D : Mf K cl m qual st ps) (h : ∀ {f : Addr} {fd : FuncData}, Fun K m qual st f fd → FnOk P w K mg base (L2.CX P w) k f fd ps sp) : MCalX P w K mg base k cl m sp := by
  obtain ⟨f, fd, F, M, b⟩ := D.ex
  exact ⟨f, fd, ps, h F, M, b⟩
/-- into a def that has a try -/
theorem intoT {x qual : Str} {st : Stmt} {f : Addr} {fd : FuncData} {ps : List Str} (F : Fun K x qual st f fd) {nm : List (Str × NameKind)} (S : FnScope N ps (defScope st)) (hnm : (defScope st).names = nm) (len : ∀ vs H Q E, sp vs H Q E → vs.length = ps.length) (hl : ps.length ≤ N.length)
    (body : ∀ (X : Cx) (H : Hp) (vs : List V) (Q : VK) (E : XK), CI X P w K mg base N nm k → Top X → sp vs H Q E → bS X (defBody st) { nx := fun _ H' => Q .non H', rt := Q } (startL N vs) H) : FnOk P w K mg base CX0 (k + 1) f fd ps sp :=
  F.ok S len fun cdv A outer s H vs Q E hr h => ⟨_, bS_is, by
    rw [startL_eq N vs (by rw [len vs H Q E h]; exact hl)]
    exact body _ H vs Q E ⟨S.nd, fun _ h => by rw [← hnm] at h; exact h, fun _ h => ⟨by rw [← hnm] at h; exact h, rfl⟩, fun _ h => .inr (by rw [← hnm] at h; exact h), fun _ h => by rw [← hnm] at h; exact h, rfl, rfl, rfl, rfl, rfl, rfl, S.kind, rfl, hr, PassesOwn.never⟩ ⟨rfl, rfl, rfl⟩ h⟩
/-- into a def that may raise -/
theorem intoX {x qual : Str} {st : Stmt} {f : Addr} {fd : FuncData} {ps : List Str} (F : Fun K x qual st f fd) {nm : List (Str × NameKind)} (S : FnScope N ps (defScope st)) (hnm : (defScope st).names = nm) (len : ∀ vs H Q E, sp vs H Q E → vs.length = ps.length) (hl : ps.length ≤ N.length)
    (body : ∀ (X : Cx) (H : Hp) (vs : List V) (Q : VK) (E : XK), CI X P w K mg base N nm k → Takes X (outE E) → sp vs H Q E → bS X (defBody st) { nx := fun _ H' => Q .non H', rt := Q } (startL N vs) H) : FnOk P w K mg base (L2.CX P w) (k + 1) f fd ps sp :=
  F.okX S len fun cdv A outer s H vs Q E hr h => ⟨_, bS_is, by
    rw [startL_eq N vs (by rw [len vs H Q E h]; exact hl)]
    exact body _ H vs Q E ⟨S.nd, fun _ h => by rw [← hnm] at h; exact h, fun _ h => ⟨by rw [← hnm] at h; exact h, rfl⟩, fun _ h => .inr (by rw [← hnm] at h; exact h), fun _ h => by rw [← hnm] at h; exact h, rfl, rfl, rfl, rfl, rfl, rfl, S.kind, rfl, hr, passes_of rfl⟩ (takes_of rfl rfl rfl rfl) h⟩
end
section
variable {X : Cx} {P : Program} {w : World} {K : PySem.W.Frag} {mg : Str → Option Value} {base : Heap} {N : List Str} {nm : List (Str × NameKind)} {j : Nat} {σ σ' : L2.St} {H G : Hp} {Q : VK} {D : Ends} {pos pos' p p2 apos np np2 yp ap hp : Pos} {C : List (Addr × HO)} {e o : Expr} {es : List Expr} {W : WX} {body : List Stmt}
theorem CI.tr (c : CI X P w K mg base N nm j) {pn : List (Addr × Obj)} {xe : Value → Shared → Prop} (h : PassesOwn (model X.prog X.w) X.A X.env xe) : CI (X.tr pn xe) P w K mg base N nm j :=
  ⟨c.nd, c.lo, c.ce, c.fr, c.go, c.N, c.prog, c.w, c.K, c.mg, c.base, c.kind, c.calm, c.room, h⟩
/-- try: body / except W as n: y = n -/
theorem s_try (c : CI X P w K mg base N nm j) (tp : Top X) {wn n y : Str} {cv : Value} {i k : Nat} (hi : Ix N n i) (hn : nm.lookup n = some .local) (hk : Ix N y k) (hy : nm.lookup y = some .local) (hW : glB nm wn = true) (hm : mg wn = some cv) (hd : (n == ("__debug__" : Str)) = false) (hcd : (n == ("__classdict__" : Str)) = false)
    (hsw : swapsWith (.Name n np2) (some (.Name y yp)) ap.line X.env = pure false) (h : ∀ X', CI X' P w K mg base N nm j → Takes X' (wKept K cv i k D) → bS X' body D σ H) :
    sS X (.Try body [.ExceptHandler (some (.Name wn np)) (some n) [.Assign [.Name y yp] (.Name n np2) ap] hp] [] [] pos) D σ H := by
  have h1 := c.K
  subst h1
  refine ⟨_, ps_kept (tb := fun W D σ H => ∀ pn xe, Takes (X.tr pn xe) W → PassesOwn (model X.prog X.w) X.A X.env xe → bS (X.tr pn xe) body D σ H) tp.hs tp.hf tp.hx (by rw [c.N]; exact c.nd) (by rw [c.N]; exact hi.get) (c.lo _ hn) (by rw [c.N]; exact hk.get) (c.lo _ hy) hd hcd ⟨c.gl hW, glB_d hW, .inl (by rw [c.mg]; exact hm)⟩ hsw (fun W pn xe tk ps => ⟨fun pins s σ H D I h => bS_is.run pins s σ H D I (h pn xe tk ps)⟩), fun pn xe tk ps => h _ (c.tr ps) tk⟩
/-- raise x('m') -/
theorem s_raise (c : CI X P w K mg base N nm j) (tk : Takes X W) {x m : Str} {t : Nat} (e : ExcK K mg x) (hg : glB nm x = true) (h : W (.ref (clsK K x)) none σ H) : sS X (.Raise (some (.Call (.Name x p) [.Constant (.str m) t p2] [] pos)) none pos') D σ H := by
  have h1 := c.K
  subst h1
  exact ⟨_, ps_raise c.calm tk (pmk_own PySem.F.excBase_ValueError e.ex (by rw [c.mg]; exact e.mg) e.kp (raises_own e.sb e.ty) (c.gl hg) (glB_d hg)), h⟩
theorem e_callX (c : CI X P w K mg base N nm j) {x : Str} {k : Nat} {sp : Sp} (R : CalX P w K mg base k x sp) (tk : Takes X W) (hk : k ≤ j) (hg : glB nm x = true) (he : starEach (e :: es) X.env = (false, eval e X.env) :: starEach es X.env) (hpl : (backTo pos (starEach es X.env)).any (·.1) = false)
    (h : aS X (e :: es) σ H fun vs H1 => sp vs H1 Q (fun cls d H' => W cls d σ H')) : eS X (.Call (.Name x p) (e :: es) [] pos) σ H Q := by
  have h1 := c.prog; have h2 := c.w; have h3 := c.K; have h4 := c.mg; have h5 := c.base
  subst h1 h2 h3 h4 h5
  obtain ⟨f, fd, ps, F, h1, h2, h3⟩ := R.ex
  exact ⟨_, pe_callS F (c.room.mono hk) (c.gl hg) h1 h2 h3 (passAt tk) aS_is (glB_d hg) he hpl, h⟩
/-- o.m(e, ..) that may raise: what the caller wishes hangs on its slots -/
theorem e_mthX (c : CI X P w K mg base N nm j) {k : Nat} {cl m : Str} {sp : Sp} {pl : Sem Bool} (R : MCalX P w K mg base k cl m sp) (T : Cls K (clsK K cl)) (tk : Takes X W) (hk : k ≤ j) (hst : starEach (e :: es) X.env = (false, eval e X.env) :: starEach es X.env) (hpl : (backTo pos (starEach es X.env)).any (·.1) = false)
    (ht : eval (.Call (.Attribute o m apos) (e :: es) [] pos) X.env = (do
      let ov ← eval o X.env
      standAt apos.atName
      let (f, first) ← holding [ov] (getMethod ov m pl)
      callWith pos f first (backTo pos (starEach (e :: es) X.env)) (backToKw pos (keywordEach [] X.env))))
    (h : eS X o σ H fun x H1 => ∃ a dx fs, x = .ref a ∧ H1 a = some (.ins (clsK K cl) dx fs) ∧ NoFld fs m ∧ aS X (e :: es) σ H1 fun vs H2 => sp (x :: vs) H2 Q (fun cls d H' => W cls d σ H')) : eS X (.Call (.Attribute o m apos) (e :: es) [] pos) σ H Q := by
  have h1 := c.prog; have h2 := c.w; have h3 := c.K; have h4 := c.mg; have h5 := c.base
  subst h1 h2 h3 h4 h5
  obtain ⟨f, fd, ps, F, M, b⟩ := R.ex
  refine ⟨fun σ H Q => eS X o σ H fun x H1 => ∃ a dx fs, x = .ref a ∧ H1 a = some (.ins (clsK X.K cl) dx fs) ∧ NoFld fs m ∧ aS X (e :: es) σ H1 fun vs H2 => sp (x :: vs) H2 Q (fun cls d H' => W cls d σ H'), ⟨fun pins s σ H Q I hq => ?_⟩, h⟩
  refine PySem.W.methodCall_KW (pl := pl) (thn (eS_is.run pins s σ H _ I hq) fun u s1 ⟨x, H1, I1, rx, a, dx, fs, ex, ea, nf, q⟩ => ?_) ht
  subst ex
  obtain rfl : u = Value.ref a := rx
  refine getmeth_ok I1 ea T M nf.look (PySem.W.callWith_K (first := [.ref a]) (h₀ := X.base) I.ok.mod.kin M.kp (thn (aS_is.run pos pins s1 σ H1 _ I1 q) fun us s2 ⟨vs, H2, I2, r, q2⟩ => ⟨I2.kIn, ?_⟩) hst hpl)
  exact run_fnS (E := WE W) (us := .ref a :: us) (vs := .ref a :: vs) F (c.room.mono hk) b (passAt tk σ) I2 (.cons rfl r) q2
/-- isinstance of a kept exception -/
theorem c_isE (c : CI X P w K mg base N nm j) {a D0 : Addr} {v : V} {cv : Value} {b : Bool} (h1 : H a = some (ExcO (.ref D0) a)) (h2 : ExcC K D0) (h3 : ClsV v cv) (h4 : PySem.W.kitOne K (.ref D0) cv = some b) (h : Q (.bl b) H) : cS X (.builtin "isinstance") [.ref a, v] H Q := by
  have eK := c.K
  subst eK
  refine ⟨fun vs H Q => ∃ (a D0 : Addr) (v : V) (cv : Value) (b : Bool), vs = [.ref a, v] ∧ H a = some (ExcO (.ref D0) a) ∧ ExcC X.K D0 ∧ ClsV v cv ∧ PySem.W.kitOne X.K (.ref D0) cv = some b ∧ Q (.bl b) H, ?_, a, D0, v, cv, b, rfl, h1, h2, h3, h4, h⟩
  intro pins s σ H xs us Q I r h
  obtain ⟨a, D0, v, cv, b, rfl, e, C, hv, hk, q⟩ := h
  obtain ⟨u1, u2, rfl, r1, r2⟩ := vals2 r
  have e2 := hv.eq r2
  subst e2
  cases (show u1 = Value.ref a from r1)
  obtain ⟨⟨oe, vs, hget, hz, hd⟩, _⟩ := (show ObjOk X.prog X.w H s.heap a (ExcO (.ref D0) a) from I.hok a _ e)
  have J : PySem.W.InstAt s.heap a oe D0 none := by
    obtain ⟨oc, od, oda, osl⟩ := oe
    obtain ⟨h1, h2⟩ := hz
    dsimp only at h1 h2 hd
    subst h1 h2 hd
    exact ⟨hget, rfl, rfl, trivial⟩
  exact PySem.W.kia_one (PySem.W.handS_kitx_exc C.hg C.hk C.hs C.hd C.ha C.hn C.ht C.hm) I.kIn J hk (fun z => nomatch z) fun tk => ⟨.bl b, H, I.tok tk, rfl, q⟩
/-- .. by a tuple of classes -/
theorem c_isET (c : CI X P w K mg base N nm j) {a D0 tp : Addr} {cs : List V} {ws : List Value} {b : Bool} (h1 : H a = some (ExcO (.ref D0) a)) (h2 : ExcC K D0) (ht : H tp = some (.tup cs)) (h3 : Paired ClsV cs ws) (h4 : PySem.W.kitAny K (.ref D0) ws = some b) (h : Q (.bl b) H) : cS X (.builtin "isinstance") [.ref a, .ref tp] H Q := by
  have eK := c.K
  subst eK
  refine ⟨fun vs H Q => ∃ (a D0 tp : Addr) (cs : List V) (ws : List Value) (b : Bool), vs = [.ref a, .ref tp] ∧ H a = some (ExcO (.ref D0) a) ∧ ExcC X.K D0 ∧ H tp = some (.tup cs) ∧ Paired ClsV cs ws ∧ PySem.W.kitAny X.K (.ref D0) ws = some b ∧ Q (.bl b) H, ?_, a, D0, tp, cs, ws, b, rfl, h1, h2, ht, h3, h4, h⟩
  intro pins s σ H xs us Q I r h
  obtain ⟨a, D0, tp, cs, ws, b, rfl, e, C, ht, hp, hk, q⟩ := h
  obtain ⟨u1, u2, rfl, r1, r2⟩ := vals2 r
  cases (show u1 = Value.ref a from r1)
  cases (show u2 = Value.ref tp from r2)
  obtain ⟨⟨oe, vs, hget, hz, hd⟩, _⟩ := (show ObjOk X.prog X.w H s.heap a (ExcO (.ref D0) a) from I.hok a _ e)
  have J : PySem.W.InstAt s.heap a oe D0 none := by
    obtain ⟨oc, od, oda, osl⟩ := oe
    obtain ⟨h1, h2⟩ := hz
    dsimp only at h1 h2 hd
    subst h1 h2 hd
    exact ⟨hget, rfl, rfl, trivial⟩
  obtain ⟨_, its, rv, o, h1, h2, n, h3⟩ := (show ObjOk X.prog X.w H s.heap tp (.tup cs) from I.hok tp _ ht)
  have e3 := ClsV.all hp rv
  subst e3
  obtain ⟨oc, od, dt, sl⟩ := o
  simp only at h2 h3
  subst h2 h3
  exact PySem.W.kia_tup (PySem.W.handS_kitx_exc C.hg C.hk C.hs C.hd C.ha C.hn C.ht C.hm) I.kIn J h1 hk (fun z => nomatch z) fun tk => ⟨.bl b, H, I.tok tk, rfl, q⟩
/-- isinstance of a plain value by an own class -/
theorem c_isR (c : CI X P w K mg base N nm j) {x : V} {T : String} {C0 : Addr} {b : Bool} (t : TyOf K H x (.type T)) (e : PySem.W.kitOne K (.type T) (.ref C0) = some b) (h : Q (.bl b) H) : cS X (.builtin "isinstance") [x, .ref C0] H Q := by
  have eK := c.K
  subst eK
  exact ⟨_, call_isi, x, .ref C0, _, _, b, rfl, .own C0, .base t, e, h⟩
theorem kit_ref {A B : Addr} {b : Bool} (hd : PySem.W.hasDictIn K B = true) (ht : PySem.W.typeIn K (.ref B) = some (.type "type")) (hs : PySem.W.subIn K (.ref A) (.ref B) = some b) (ha : PySem.W.subIn K (.ref A) (.ref A) = some true) : PySem.W.kitOne K (.ref A) (.ref B) = some b := by
  obtain ⟨cd, hc, _⟩ := PySem.W.any_some hd
  unfold PySem.W.kitOne
  by_cases e : A = B
  · subst e
    rw [hs] at ha
    rw [if_pos (by simp), ha]
  · rw [if_neg (by simp [e])]
    unfold PySem.W.kitCls
    show (if ((PySem.W.clsIn K B).isSome && PySem.W.typeIn K (.ref B) == some (.type "type")) = true then PySem.W.subIn K (.ref A) (.ref B) else none) = some b
    rw [if_pos (by rw [hc, ht]; rfl), hs]
theorem kit_ve {A : Addr} {b : Bool} (hs : PySem.W.subIn K (.ref A) (.type "ValueError") = some b) : PySem.W.kitOne K (.ref A) (.type "ValueError") = some b := by
  unfold PySem.W.kitOne
  rw [if_neg (by simp)]
  unfold PySem.W.kitCls
  show (if PySem.W.kitMeta "ValueError" = true then PySem.W.subIn K (.ref A) (.type "ValueError") else none) = some b
  rw [if_pos (by decide +kernel), hs]
theorem kit_any {t c0 : Value} {cs : List Value} {b r : Bool} (h : PySem.W.kitOne K t c0 = some b) (hr : PySem.W.kitAny K t cs = some r) : PySem.W.kitAny K t (c0 :: cs) = some (b || r) := by
  cases b with
  | true => exact kitAny_cons h (fun z => nomatch z) fun _ => rfl
  | false => exact kitAny_cons h (fun _ => hr) fun z => nomatch z
end
end Go

namespace Go
open PySem PySem.Spec PyProof.Rows L2
/-! for k, v in d.items(), the keys of d tuples -/
/-- the pairs, each a new tuple -/
def ItiT (d : Addr) (o : Obj) (kvs : List (List Key × V)) : It :=
  ⟨fun i H => H d = some (.frz o (.dT kvs)) ∧ i < kvs.length, fun i H x H' => ∃ T k v q, kvs[i]? = some (k, v) ∧ x = .ref T ∧ H q = some (.tup (k.map kV)) ∧ H T = none ∧ H' = upd H T (.tup [.ref q, v]), fun i H => H d = some (.frz o (.dT kvs)) ∧ kvs.length ≤ i⟩
section
variable {X : Cx} {pins : List (Addr × Obj)} {σ : L2.St} {H : Hp} {s : Shared} {d : Addr} {o : Obj}
theorem frzT2 {kvs : List (List Key × V)} (I : Inv X pins σ H s) (h : H d = some (.frz o (.dT kvs))) :
    (d == sysModules) = false ∧ s.heap.get? d = some o ∧ o.ExactDict ∧ ∃ (es : Array DictEntry) (ep : Nat), o.data = .dict es ep ∧ es.size = kvs.length ∧
      ∀ (i : Nat) (k : List Key) (v : V), kvs[i]? = some (k, v) → ∃ (en : DictEntry) (q : Addr), es[i]? = some en ∧ en.key = .ref q ∧ H q = some (.tup (k.map kV)) ∧ RelV v en.val := by
  obtain ⟨hd, z, hs, xs, pr, o', es, ep, ho, hx, hdt, he, _⟩ := I.hok d _ h
  rw [hd] at ho
  cases ho
  refine ⟨hs, hd, hx, es, ep, hdt, ?_, fun i k v e => ?_⟩
  · have l1 : es.size = xs.length := size_of_entries he
    have l2 : kvs.length = xs.length := Paired.length pr
    omega
  · obtain ⟨b, hb, e1, e2, e3⟩ := paired_get pr e
    have q := entry_at he i
    rw [hb] at q
    exact ⟨_, b.2.1, q, rfl, e2, e3⟩
end
section
variable {P : Program} {w : World} {K : PySem.W.Frag} {d : Addr} {o : Obj} {es : Array DictEntry} {ep : Nat}
theorem turn_itemsT {kvs : List (List Key × V)} {elts : List Expr} {kk : Nat} {tpos : Pos} (it : Addr) (hod : o.data = .dict es ep) :
    Turn P w K (.Tuple elts kk tpos) (ItiT d o kvs) [it] it (fun i h => ∃ ok ov, IsItemIter h it d i kvs.length ep ok ov) where
  mem := by simp
  obj := fun i h st b hb => by
    have e : b = it := by simpa using hb
    subst e
    obtain ⟨ok, ov, e⟩ := st
    exact ⟨_, e, fun v z => nomatch z⟩
  keep := fun i h h' st k => let ⟨ok, ov, e⟩ := st; ⟨ok, ov, k it (by simp) _ e⟩
  item := by
    intro X hP hw hK hc i pins s σ H E I hf st hg
    subst hP hw hK
    obtain ⟨hd, hi⟩ := hg
    obtain ⟨hs, hgd, hx, es', ep', hdt, hsz, ent⟩ := frzT2 I hd
    obtain ⟨rfl, rfl⟩ := dict_ep hod hdt
    obtain ⟨⟨k, v⟩, hkv⟩ : ∃ p, kvs[i]? = some p := ⟨kvs[i], List.getElem?_eq_getElem hi⟩
    obtain ⟨en, q, hen, hkey, hq, hval⟩ := ent i k v hkv
    obtain ⟨ok, ov, he⟩ := st
    rw [← hsz] at he
    have hlt : it < s.heap.objs.size := Heap.lt_size he
    have hi2 : i < es'.size := by omega
    have hen2 : es'[i] = en := by rw [Array.getElem?_eq_getElem hi2] at hen; exact Option.some.inj hen
    refine DT.nextI he ⟨o, hgd, hx, hdt⟩ hi2 fun h' ho hT hz hk => ?_
    rw [hen2] at ho hT
    refine ⟨_, rfl, PySem.wpAny_letOwnedTupleGo_items (s := { s with heap := h' }) ho fun h'' he' sb => ?_⟩
    have hT2 : h''.get? s.heap.objs.size = some { cls := .type "tuple", data := .seq #[en.key, en.val] } := (sb.2 _ (Nat.ne_of_gt hlt)).trans hT
    have new : ObjOk X.prog X.w (upd H s.heap.objs.size (.tup [.ref q, v])) h'' s.heap.objs.size (.tup [.ref q, v]) :=
      ⟨by show 2 ≤ sizeLine; decide, [en.key, en.val], .cons hkey (.cons hval .nil), ⟨_, hT2, rfl, _, rfl⟩⟩
    have I1 : Inv X pins σ (upd H s.heap.objs.size (.tup [.ref q, v])) { s with heap := h'' } :=
      I.turnedNew (t' := s.toks) (ch := [it]) (fun b ob hb e => (sb.2 b (by simpa using hb)).trans (hk b ob (by simpa using hb) e)) hf (Nat.le_refl _) new
    refine ⟨.ref s.heap.objs.size, _, I1, rfl, ⟨_, k, v, q, hkv, rfl, hq, I.hok.fresh (Nat.le_refl _), rfl⟩, ⟨en.key, en.val, ?_⟩, fun b hb => ?_⟩
    · rw [← hsz]; exact he'
    · have e : b = it := by simpa using hb
      rw [e, upd_ne (Nat.ne_of_lt hlt)]
      exact (hf it (by simp)).1
  done := by
    intro X hP hw hK hc i pins s σ H E I hf st hg
    subst hP hw hK
    obtain ⟨hd, hi⟩ := hg
    obtain ⟨f0, f1, f2, f3, f4, f5⟩ := hf it (by simp)
    obtain ⟨hs, hgd, hx, es', ep', hdt, hsz, ent⟩ := frzT2 I hd
    obtain ⟨rfl, rfl⟩ := dict_ep hod hdt
    obtain ⟨ok, ov, he⟩ := st
    rw [← hsz] at he
    exact DT.endI (I.ok.hd hc) he ⟨o, hgd, hx, hdt⟩ (by omega) fun h' eb => ⟨rfl, I.turned (t' := s.toks) (fun b ob hb e => eb b ob hb e) f0 f1 f3 f4 f5⟩
  self := fun A i s Q E st h => let ⟨_, _, e⟩ := st; PySem.W.kcp_self e h
end
def iItemsT (td : TE) : TI := fun σ H R => td σ H fun x H1 => ∃ d o kvs, x = .ref d ∧ H1 d = some (.frz o (.dT kvs)) ∧ R (ItiT d o kvs) H1
theorem pi_itemsT {X : Cx} {e : Expr} {td : TE} {apos cpos : Pos} {elts : List Expr} {kk : Nat} {tpos : Pos} (he : PE X e td) (hbase : attributeBase e "items" X.env (eval e X.env) = eval e X.env := by rfl) (hline : (apos.endLine == cpos.line) = true := by rfl) :
    PI X (.Tuple elts kk tpos) (.Call (.Attribute e "items" apos) [] [] cpos) (iItemsT td) := by
  refine ⟨fun pins s σ H R I h => ?_⟩
  refine wpAny_Call_method (T := "dict") (id := "dict.items") hbase rfl hline F.plainAttrs_dict F.slot_dict_items F.type_dict_items (thn (he.run pins s σ H _ I h) fun u s1 ⟨x, H1, I1, rx, d, o, kvs, ex, hd, q⟩ => ?_)
  subst ex
  obtain rfl : u = Value.ref d := rx
  obtain ⟨hs, hgd, hx, es, ep, hdt, hsz, ent⟩ := frzT2 I1 hd
  have raw : DT.Raw s1.heap d es ep := ⟨o, hgd, hx, hdt⟩
  refine ⟨raw.typeIs, ?_, ?_⟩
  · exact fun a e => by cases e; exact ⟨o, hgd, hx.2.1⟩
  have I2 : Inv X pins σ H1 { s1 with heap := s1.heap.push { cls := .type "dict_items", data := .fields #[.ref d] } } := I1.kept (t' := s1.toks) fun b ob q => Heap.get?_push_of_some _ q
  have fin : wpAny (model X.prog X.w) X.A (pyIter (.ref s1.heap.objs.size)) (PIE X pins σ (.Tuple elts kk tpos) R) X.xe { s1 with heap := s1.heap.push { cls := .type "dict_items", data := .fields #[.ref d] } } := by
    refine DT.iterI (d := d) ⟨_, Heap.get?_push_size _ rfl, rfl, rfl⟩ (raw.push _) (pi_one (tk := s1.toks) I2 _ (turn_itemsT _ hdt) ⟨.none, .none, ?_⟩ q)
    rw [← hsz]
    exact Heap.get?_push_size _ rfl
  show wpAny _ _ (callWith cpos (.builtin "dict.items") [.ref d] [] []) _ X.xe s1
  exact method_meetsIn F.slot_dict_items F.entry_dict_items rfl (PySem.evalArgs_none ⟨rfl, raw.typeIs, F.args_dict_items_1 _, _, DT.meetsItems (es := es) (ep := ep) hs, ⟨raw, fin⟩⟩)
section
variable {X : Cx} {P : Program} {w : World} {K : PySem.W.Frag} {mg : Str → Option Value} {base : Heap} {N : List Str} {nm : List (Str × NameKind)} {j : Nat} {σ σ' : L2.St} {H G : Hp} {Q : VK} {D : Ends} {pos p tpos apos cpos : Pos} {C : List (Addr × HO)} {elts : List Expr} {kk : Nat} {e : Expr} {body : List Stmt} {d : Addr} {o : Obj}
theorem walk_itemsT {kvs : List (List Key × V)} : Walk (ItiT d o kvs) kvs.length (fun H => H d = some (.frz o (.dT kvs))) (fun i H x H' => ∃ T k v q, kvs[i]? = some (k, v) ∧ x = .ref T ∧ H q = some (.tup (k.map kV)) ∧ H T = none ∧ H' = upd H T (.tup [.ref q, v])) :=
  ⟨fun _ _ hi q => ⟨q, hi⟩, fun _ q => ⟨q, Nat.le_refl _⟩, fun _ _ _ _ _ _ y => y⟩
theorem walk_itemsK {kvs : List (Key × V)} : Walk (Iti d o kvs) kvs.length (fun H => H d = some (.frz o (.dK kvs))) (fun i H x H' => ∃ T k v, kvs[i]? = some (k, v) ∧ x = .ref T ∧ H T = none ∧ H' = upd H T (.tup [kV k, v])) :=
  ⟨fun _ _ hi q => ⟨q, hi⟩, fun _ q => ⟨q, Nat.le_refl _⟩, fun _ _ _ _ _ _ y => y⟩
theorem i_itemsT (hbase : attributeBase e "items" X.env (eval e X.env) = eval e X.env) (hline : (apos.endLine == cpos.line) = true) {R : It → Hp → Prop} (h : eS X e σ H fun x H1 => ∃ d o kvs, x = .ref d ∧ H1 d = some (.frz o (.dT kvs)) ∧ R (ItiT d o kvs) H1) :
    iS X (.Tuple elts kk tpos) (.Call (.Attribute e "items" apos) [] [] cpos) σ H R := ⟨_, pi_itemsT eS_is hbase hline, h⟩
theorem i_itemsK (hbase : attributeBase e "items" X.env (eval e X.env) = eval e X.env) (hline : (apos.endLine == cpos.line) = true) {R : It → Hp → Prop} (h : eS X e σ H fun x H1 => ∃ d o kvs, x = .ref d ∧ H1 d = some (.frz o (.dK kvs)) ∧ R (Iti d o kvs) H1) :
    iS X (.Tuple elts kk tpos) (.Call (.Attribute e "items" apos) [] [] cpos) σ H R := ⟨_, pi_items eS_is hbase hline, h⟩
theorem on_itemsT {kvs : List (List Key × V)} (Pv : Nat → L2.St → Hp → Prop) (h0 : Pv 0 σ H) (hl : ∀ i σ H, i ≤ kvs.length → Pv i σ H → H d = some (.frz o (.dT kvs)))
    (hs : ∀ i k v q σ H T H', kvs[i]? = some (k, v) → Pv i σ H → H q = some (.tup (k.map kV)) → New H T (.tup [.ref q, v]) H' → gS X (.Tuple elts kk tpos) (.ref T) σ H' fun σ2 H2 => bS X body { D with nx := Pv (i + 1), ct := Pv (i + 1), bk := D.nx } σ2 H2) (hd : ∀ σ H, Pv kvs.length σ H → D.nx σ H) :
    ForOn X (.Tuple elts kk tpos) body D (ItiT d o kvs) σ H := ⟨_, _, _, walk_itemsT, Pv, h0, hl, fun i x σ H H' hi p ⟨T, k, v, q, e0, e1, e2, e3, e4⟩ => by
      subst e1
      exact hs i k v q σ _ T H' e0 p e2 ⟨e3, e4⟩, hd⟩
theorem on_itemsK {kvs : List (Key × V)} (Pv : Nat → L2.St → Hp → Prop) (h0 : Pv 0 σ H) (hl : ∀ i σ H, i ≤ kvs.length → Pv i σ H → H d = some (.frz o (.dK kvs)))
    (hs : ∀ i k v σ H T H', kvs[i]? = some (k, v) → Pv i σ H → New H T (.tup [kV k, v]) H' → gS X (.Tuple elts kk tpos) (.ref T) σ H' fun σ2 H2 => bS X body { D with nx := Pv (i + 1), ct := Pv (i + 1), bk := D.nx } σ2 H2) (hd : ∀ σ H, Pv kvs.length σ H → D.nx σ H) :
    ForOn X (.Tuple elts kk tpos) body D (Iti d o kvs) σ H := ⟨_, _, _, walk_itemsK, Pv, h0, hl, fun i x σ H H' hi p ⟨T, k, v, e0, e1, e3, e4⟩ => by
      subst e1
      exact hs i k v σ _ T H' e0 p ⟨e3, e4⟩, hd⟩
theorem Own.relock {u v : HO} (O : Own G C H) (hd : G d = some u) : Own (upd G d v) C (upd H d v) := by
  refine ⟨fun b x e => ?_, fun q hq => ?_, O.nd⟩
  · by_cases hb : b = d
    · subst hb; rw [upd_same] at e ⊢; exact e
    · rw [upd_ne hb] at e ⊢; exact O.same b x e
  · have h := O.own q hq
    have hb : q.1 ≠ d := fun z => by rw [z, hd] at h; cases h.2
    rw [upd_ne hb, upd_ne hb]; exact h
/-- what is known stands in a loop over d locked -/
theorem s_lockG {st : Stmt} (O : Own G C H) {u : HO} (hd : G d = some u) (mu : Mut (some u)) (h : ∀ od G1 H1, G1 = upd G d (.frz od u) → Own G1 C H1 → H1 d = some (.frz od u) → G1 d = some (.frz od u) → (∀ b x, b ≠ d → G b = some x → G1 b = some x) →
      (∀ b x, (∀ od u, x ≠ .frz od u) → x ≠ u → G b = some x → G1 b = some x) →
      sS X st ⟨fun σ' H' => H' d = some (.frz od u) ∧ D.nx σ' (upd H' d u), fun v H' => H' d = some (.frz od u) ∧ D.rt v (upd H' d u), fun σ' H' => H' d = some (.frz od u) ∧ D.bk σ' (upd H' d u), fun σ' H' => H' d = some (.frz od u) ∧ D.ct σ' (upd H' d u)⟩ σ H1) : sS X st D σ H :=
  ⟨tLock (sS X st), ps_lock sS_is, d, u, O.same _ _ hd, mu, fun od => h od _ _ rfl (O.relock hd) upd_same upd_same (fun b x hb e => by rw [upd_ne hb]; exact e) fun b x _ hu e => by
    have hb : b ≠ d := fun z => by rw [z, hd] at e; exact hu (Option.some.inj e).symm
    rw [upd_ne hb]; exact e⟩
/-- .. behind it -/
theorem Own.thaw {G1 G' H' : Hp} {C' : List (Addr × HO)} {u : HO} {od : Obj} (O : Own G' C' H') (hd : G d = some u) (e : G1 = upd G d (.frz od u)) (s : Same G1 G') : H' d = some (.frz od u) ∧ Own (upd G' d u) C' (upd H' d u) ∧ Same G (upd G' d u) := by
  subst e
  have h1 : G' d = some (.frz od u) := s _ _ upd_same
  refine ⟨O.same _ _ h1, O.relock h1, fun b x e => ?_⟩
  by_cases hb : b = d
  · subst hb; rw [hd] at e; rw [upd_same]; exact e
  · rw [upd_ne hb]; exact s _ _ (by rw [upd_ne hb]; exact e)
theorem get_T {q b : Addr} {kvs : List (List Key × V)} {k : List Key} {z : V} (hp : H q = some (.dT kvs)) (hb : H b = some (.tup (k.map kV))) (h : Q ((valV kvs k).getD z) H) : getS H (.ref q) (.ref b) z Q := ⟨q, _, rfl, DGet.t hp hb, h⟩
theorem x_dKL (c : CI X P w K mg base N nm j) {q : Addr} {kvs : List (Key × V)} {i : Int} {v : V} (hp : Rd H q (.dK kvs)) (hv : valV kvs (.inl i) = some v) (h : Q v H) : xS X (.ref q) (.int i) H Q :=
  x_dict c (by rw [← hv]; exact .inl ⟨kvs, .inl i, hp, rfl, rfl⟩) h
theorem i_keysK {tg : Expr} {R : It → Hp → Prop} (h : eS X e σ H fun x H1 => ∃ d o kvs, x = .ref d ∧ H1 d = some (.frz o (.dK kvs)) ∧ R (Itk d o kvs) H1) : iS X tg e σ H R :=
  ⟨_, pi_keys eS_is, eS_mono h fun _ _ ⟨d, o, kvs, e, h1, r⟩ => ⟨d, o, e, .inl ⟨kvs, h1, r⟩⟩⟩
end
end Go

namespace Go
open PySem PySem.Spec PyProof.Rows L2
/-! tuples cut and added, what comes out frozen -/
section
variable {X : Cx} {P : Program} {w : World} {K : PySem.W.Frag} {mg : Str → Option Value} {base : Heap} {N : List Str} {nm : List (Str × NameKind)} {j : Nat} {σ σ' : L2.St} {H G : Hp} {Q : VK} {C : List (Addr × HO)}
theorem cut_whole {xs : List V} {lo hi : Option Int} (h : HT.sIx xs.length 0 lo = 0 ∧ HT.sIx xs.length xs.length hi = xs.length) : cut xs lo hi = xs := by
  unfold cut
  rw [h.1, h.2, List.drop_zero, Nat.sub_zero, List.take_length]
/-- known: frozen, or a cell that is not written -/
def Kn (G : Hp) (C : List (Addr × HO)) (p : Addr) (o : HO) : Prop := G p = some o ∨ (p, o) ∈ C
theorem Kn.at {p : Addr} {o : HO} (k : Kn G C p o) (O : Own G C H) : H p = some o := k.elim (fun h => O.same _ _ h) fun h => (O.own _ h).1
theorem Kn.up {G' : Hp} {p : Addr} {o : HO} (k : Kn G C p o) (s : Same G G') : Kn G' C p o := k.elim (fun h => .inl (s _ _ h)) .inr
theorem Kn.cons {p : Addr} {o : HO} {e : Addr × HO} (k : Kn G C p o) : Kn G (e :: C) p o := k.elim .inl fun h => .inr (List.mem_cons_of_mem _ h)
theorem Kn.head {p q : Addr} {a b : HO} {xs : List V} (k : Kn G ((q, a) :: C) p (.tup xs)) (ha : ∀ ys, a ≠ .tup ys) : Kn G ((q, b) :: C) p (.tup xs) := k.elim .inl fun h => .inr (by
  rcases List.mem_cons.mp h with h | h
  · rw [Prod.mk.injEq] at h; exact absurd h.2.symm (ha xs)
  · exact List.mem_cons_of_mem _ h)
/-- what stands in the heap is made known -/
theorem Own.learn {p : Addr} {o : HO} (O : Own G C H) (h : H p = some o) : ∃ G', Same G G' ∧ Own G' C H ∧ Kn G' C p o := by
  by_cases hc : p ∈ C.map (·.1)
  · obtain ⟨e, he, ee⟩ := List.mem_map.mp hc
    have := (O.own e he).1
    rw [ee, h] at this
    refine ⟨G, same_rfl, O, .inr ?_⟩
    rw [← ee, Option.some.inj this]
    exact he
  · cases hg : G p with
    | some x =>
      have := O.same _ _ hg
      rw [h] at this
      exact ⟨G, same_rfl, O, .inl (by rw [hg, ← this])⟩
    | none =>
      refine ⟨upd G p o, fun b x e => ?_, ⟨fun b x e => ?_, fun q hq => ?_, O.nd⟩, .inl upd_same⟩
      · have hb : b ≠ p := fun z => by rw [z, hg] at e; cases e
        rw [upd_ne hb]; exact e
      · by_cases hb : b = p
        · subst hb; rw [upd_same] at e; rw [h]; exact e
        · rw [upd_ne hb] at e; exact O.same b x e
      · have hb : q.1 ≠ p := fun z => hc (List.mem_map.mpr ⟨q, hq, z⟩)
        rw [upd_ne hb]; exact O.own q hq
theorem l_tupK (c : CI X P w K mg base N nm j) (O : Own G C H) {p : Addr} {xs : List V} {lo hi : Option Int} (hp : Kn G C p (.tup xs)) (h : ∀ r G' H', Same G G' → Own G' C H' → Kn G' C r (.tup (cut xs lo hi)) → Q (.ref r) H') : lS X (.ref p) lo hi H Q := by
  have e := c.K
  subst e
  refine ⟨_, sl_tupA, p, xs, rfl, .of (hp.at O), fun hw => h p G H same_rfl O (by rw [cut_whole hw]; exact hp), fun _ r hr => ?_⟩
  obtain ⟨G', s, e', O'⟩ := O.fix (p := r) (o := .tup (cut xs lo hi)) ⟨hr, rfl⟩
  exact h r G' _ s O' (.inl e')
theorem o_catK (c : CI X P w K mg base N nm j) (O : Own G C H) {p q : Addr} {xs ys : List V} (hp : Kn G C p (.tup xs)) (hq : Kn G C q (.tup ys)) (hl : xs.length + ys.length ≤ 1000000) (h : ∀ r G' H', Same G G' → Own G' C H' → Kn G' C r (.tup (xs ++ ys)) → Q (.ref r) H') : oS X (binaryOp .Add) (.ref p) (.ref q) H Q := by
  have e := c.K
  subst e
  refine ⟨_, op_catA, p, q, xs, ys, rfl, rfl, .of (hp.at O), .of (hq.at O), sz_le hl, fun e => h q G H same_rfl O (by rw [e]; exact hq), fun _ e => h p G H same_rfl O (by rw [e, List.append_nil]; exact hp), fun _ _ r hr => ?_⟩
  obtain ⟨G', s, e', O'⟩ := O.fix (p := r) (o := .tup (xs ++ ys)) ⟨hr, rfl⟩
  exact h r G' _ s O' (.inl e')
/-- d[t] = v, `t in d`, d[t], the key t a tuple of any length -/
theorem p_dTL (c : CI X P w K mg base N nm j) {p b : Addr} {kvs : List (List Key × V)} {k : List Key} {v : V} {R : Hp → Prop} (O : Own G ((p, .dT kvs) :: C) H) (hb : H b = some (.tup (k.map kV))) (hl : kvs.length < 1000000) (h : ∀ H', Own G ((p, .dT (putK kvs k v)) :: C) H' → R H') : pS X (.ref p) (.ref b) v H R :=
  p_dict c (DPut.t (k := k) O.at hb (sz_lt hl)) (h _ O.write)
theorem x_dTL (c : CI X P w K mg base N nm j) {p b : Addr} {kvs : List (List Key × V)} {k : List Key} {v : V} (hp : H p = some (.dT kvs)) (hb : H b = some (.tup (k.map kV))) (hv : valV kvs k = some v) (h : Q v H) : xS X (.ref p) (.ref b) H Q :=
  x_dict c (by rw [← hv]; exact DGet.t hp hb) h
theorem o_inTL (c : CI X P w K mg base N nm j) {p b : Addr} {kvs : List (List Key × V)} {k : List Key} (hp : H p = some (.dT kvs)) (hb : H b = some (.tup (k.map kV))) (h : Q (.bl (valV kvs k).isSome) H) : oS X (compareOp .In) (.ref b) (.ref p) H Q := o_inD c (DGet.t hp hb) h
theorem o_notInTL (c : CI X P w K mg base N nm j) {p b : Addr} {kvs : List (List Key × V)} {k : List Key} (hp : H p = some (.dT kvs)) (hb : H b = some (.tup (k.map kV))) (h : Q (.bl (!(valV kvs k).isSome)) H) : oS X (compareOp .NotIn) (.ref b) (.ref p) H Q := o_notInD c (DGet.t hp hb) h
end
end Go

namespace Go
open PySem PySem.Spec PyProof.Rows L2
/-! for k in d, the keys of d tuples -/
section
variable {X : Cx} {P : Program} {w : World} {K : PySem.W.Frag} {mg : Str → Option Value} {base : Heap} {N : List Str} {nm : List (Str × NameKind)} {j : Nat} {σ σ' : L2.St} {H G : Hp} {Q : VK} {D : Ends} {C : List (Addr × HO)} {tg e : Expr} {body : List Stmt} {d : Addr} {o : Obj}
theorem walk_keysT {kvs : List (List Key × V)} : Walk (Itkt d o kvs) kvs.length (fun H => H d = some (.frz o (.dT kvs))) (fun i H x H' => H' = H ∧ ∃ (k : List Key) (v : V) (q : Addr), kvs[i]? = some (k, v) ∧ x = .ref q ∧ H q = some (.tup (k.map kV))) :=
  ⟨fun _ _ hi q => ⟨q, hi⟩, fun _ q => ⟨q, Nat.le_refl _⟩, fun _ _ _ _ _ _ y => y⟩
theorem i_keysT {R : It → Hp → Prop} (h : eS X e σ H fun x H1 => ∃ d o kvs, x = .ref d ∧ H1 d = some (.frz o (.dT kvs)) ∧ R (Itkt d o kvs) H1) : iS X tg e σ H R :=
  ⟨_, pi_keys eS_is, eS_mono h fun _ _ ⟨d, o, kvs, e, h1, r⟩ => ⟨d, o, e, .inr ⟨kvs, h1, r⟩⟩⟩
theorem on_keysT {kvs : List (List Key × V)} (Pv : Nat → L2.St → Hp → Prop) (h0 : Pv 0 σ H) (hl : ∀ i σ H, i ≤ kvs.length → Pv i σ H → H d = some (.frz o (.dT kvs)))
    (hs : ∀ i k v q σ H, kvs[i]? = some (k, v) → Pv i σ H → H q = some (.tup (k.map kV)) → gS X tg (.ref q) σ H fun σ2 H2 => bS X body { D with nx := Pv (i + 1), ct := Pv (i + 1), bk := D.nx } σ2 H2) (hd : ∀ σ H, Pv kvs.length σ H → D.nx σ H) :
    ForOn X tg body D (Itkt d o kvs) σ H := ⟨_, _, _, walk_keysT, Pv, h0, hl, fun i x σ H H' hi p ⟨e0, k, v, q, e1, e2, e3⟩ => by
      subst e0 e2
      exact hs i k v q σ _ e1 p e3, hd⟩
end
end Go

local macro_rules | `(tactic| walk_at "get") => `(tactic| repeat (first | with_reducible exact Go.Get.here | with_reducible apply Go.Get.there))
local macro_rules | `(tactic| walk_at "ix") => `(tactic| repeat (first | with_reducible exact Go.Ix.here | with_reducible apply Go.Ix.there))
local macro_rules | `(tactic| walk_at "put") => `(tactic| repeat (first | with_reducible exact Go.Put.here | with_reducible apply Go.Put.there))
local macro_rules | `(tactic| walk_at "putv") => `(tactic| repeat (first | with_reducible exact Go.SetV.here | with_reducible apply Go.SetV.there))
local macro_rules | `(tactic| walk_at "bm") => `(tactic| first | exact L2.nobehind _ (by decide) (by decide) | rfl | with_unfolding_all rfl)
local macro_rules | `(tactic| walk_at "dk") => `(tactic| decide +kernel)
local macro_rules | `(tactic| walk_at "as") => `(tactic| with_reducible assumption)
local macro_rules | `(tactic| walk_at "gp") => `(tactic| ((repeat (first | (with_reducible assumption) | (refine' Go.gp_up ?s ?_; (case s => (with_reducible assumption)); (first | with_reducible show (_ : Option L2.HO) = _ | (rotate_left; with_reducible show (_ : Option L2.HO) = _) | (rotate_left; rotate_left; with_reducible show (_ : Option L2.HO) = _))) | fail)); done))
local macro_rules | `(tactic| walk_at "hp") => `(tactic| first | (refine' Go.Own.at ?s; (case s => (with_reducible assumption))) | (refine' Go.Own.at2 ?s; (case s => (with_reducible assumption))) | (refine' Go.Own.at3 ?s; (case s => (with_reducible assumption))) | (refine' Go.Own.at4 ?s; (case s => (with_reducible assumption))) | (refine' Go.Own.at5 ?s; (case s => (with_reducible assumption))) | (refine' Go.Own.at6 ?s; (case s => (with_reducible assumption))) | (refine' Go.Own.at7 ?s; (case s => (with_reducible assumption))) | (refine' Go.hp_up ?s ?h; (case s => (with_reducible assumption)); (case h => (((repeat (first | (with_reducible assumption) | (refine' Go.gp_up ?s ?_; (case s => (with_reducible assumption)); (first | with_reducible show (_ : Option L2.HO) = _ | (rotate_left; with_reducible show (_ : Option L2.HO) = _) | (rotate_left; rotate_left; with_reducible show (_ : Option L2.HO) = _))) | fail)); done)))) | (with_reducible assumption) | fail)
local macro_rules | `(tactic| walk_at "pu") => `(tactic| ((repeat (first | with_reducible exact Go.Pull.here | with_reducible apply Go.Pull.there | fail)); done))
local macro_rules | `(tactic| walk_at "pc") => `(tactic| ((repeat (first | with_reducible exact Go.Pl.refl | ((with_reducible refine' Go.Pl.cons ?p ?_); (case p => (((repeat (first | with_reducible exact Go.Pull.here | with_reducible apply Go.Pull.there | fail)); done))); (first | with_reducible show Go.Pl _ _ | (rotate_left; with_reducible show Go.Pl _ _) | (rotate_left; rotate_left; with_reducible show Go.Pl _ _))) | fail)); done))
local macro_rules | `(tactic| walk_at "pl") => `(tactic| ((with_reducible refine' Go.Own.pl ?O ?h); (case O => (with_reducible assumption)); (case h => (((repeat (first | with_reducible exact Go.Pl.refl | ((with_reducible refine' Go.Pl.cons ?p ?_); (case p => (((repeat (first | with_reducible exact Go.Pull.here | with_reducible apply Go.Pull.there | fail)); done))); (first | with_reducible show Go.Pl _ _ | (rotate_left; with_reducible show Go.Pl _ _) | (rotate_left; rotate_left; with_reducible show Go.Pl _ _))) | fail)); done)))))
local macro_rules | `(tactic| walk_at "own") => `(tactic| first | (with_reducible assumption) | ((with_reducible refine' Go.Own.f1 ?s); (case s => (with_reducible assumption))) | ((with_reducible refine' Go.Own.f2 ?s); (case s => (with_reducible assumption))) | ((with_reducible refine' Go.Own.swap2 ?s); (case s => (with_reducible assumption))) | ((with_reducible refine' Go.Own.r3 ?s); (case s => (with_reducible assumption))) | ((with_reducible refine' Go.Own.v3 ?s); (case s => (with_reducible assumption))) | ((with_reducible refine' Go.Own.f3 ?s); (case s => (with_reducible assumption))) | ((with_reducible refine' Go.Own.t1 ?s); (case s => (with_reducible assumption))) | ((with_reducible refine' Go.Own.t2 ?s); (case s => (with_reducible assumption))) | ((with_reducible refine' Go.Own.t3 ?s); (case s => (with_reducible assumption))) | ((with_reducible refine' Go.Own.f4 ?s); (case s => (with_reducible assumption))) | ((with_reducible refine' Go.Own.f5 ?s); (case s => (with_reducible assumption))) | ((with_reducible refine' Go.Own.f6 ?s); (case s => (with_reducible assumption))) | ((with_reducible refine' Go.Own.t4 ?s); (case s => (with_reducible assumption))) | ((with_reducible refine' Go.Own.t5 ?s); (case s => (with_reducible assumption))) | ((with_reducible refine' Go.Own.t6 ?s); (case s => (with_reducible assumption))) | (((with_reducible refine' Go.Own.pl ?O ?h); (case O => (with_reducible assumption)); (case h => (((repeat (first | with_reducible exact Go.Pl.refl | ((with_reducible refine' Go.Pl.cons ?p ?_); (case p => (((repeat (first | with_reducible exact Go.Pull.here | with_reducible apply Go.Pull.there | fail)); done))); (first | with_reducible show Go.Pl _ _ | (rotate_left; with_reducible show Go.Pl _ _) | (rotate_left; rotate_left; with_reducible show Go.Pl _ _))) | fail)); done))))) | fail)
local macro_rules | `(tactic| walk_at "fld") => `(tactic| ((repeat (first | with_reducible exact Go.Fld.here | ((with_reducible refine' Go.Fld.there ?_ ?n); (case n => decide +kernel); (first | with_reducible show Go.Fld _ _ _ | (rotate_left; with_reducible show Go.Fld _ _ _) | (rotate_left; rotate_left; with_reducible show Go.Fld _ _ _))) | fail)); done))
local macro_rules | `(tactic| walk_at "nofld") => `(tactic| ((repeat (first | with_reducible exact Go.NoFld.nil | ((with_reducible refine' Go.NoFld.cons ?n ?_); (case n => decide +kernel)) | fail)); done))
local macro_rules | `(tactic| walk_at "fput") => `(tactic| ((repeat (first | with_reducible exact Go.FPut.new | with_reducible exact Go.FPut.here | ((with_reducible refine' Go.FPut.there ?_ ?n); (case n => decide +kernel); (first | with_reducible show Go.FPut _ _ _ _ | (rotate_left; with_reducible show Go.FPut _ _ _ _) | (rotate_left; rotate_left; with_reducible show Go.FPut _ _ _ _))) | fail)); done))
local macro_rules | `(tactic| walk_at "gsl") => `(tactic| ((repeat (first | (with_reducible assumption) | (refine' L2.Same.seq ?s ?_; (case s => (with_reducible assumption)); (first | with_reducible show L2.SqL _ _ _ _ | (rotate_left; with_reducible show L2.SqL _ _ _ _) | (rotate_left; rotate_left; with_reducible show L2.SqL _ _ _ _))) | fail)); done))
local macro_rules | `(tactic| walk_at "gst") => `(tactic| ((repeat (first | (with_reducible assumption) | (refine' Go.same_sqt ?s ?_; (case s => (with_reducible assumption)); (first | with_reducible show L2.SqT _ _ _ _ | (rotate_left; with_reducible show L2.SqT _ _ _ _) | (rotate_left; rotate_left; with_reducible show L2.SqT _ _ _ _))) | fail)); done))
local macro_rules | `(tactic| walk_at "sql") => `(tactic| first | (with_reducible assumption) | (refine' L2.SqL.of ?h; (case h => walk_at "hp")) | (refine' Go.sql_up ?s ?h; (case s => (with_reducible assumption)); (case h => (((repeat (first | (with_reducible assumption) | (refine' L2.Same.seq ?s ?_; (case s => (with_reducible assumption)); (first | with_reducible show L2.SqL _ _ _ _ | (rotate_left; with_reducible show L2.SqL _ _ _ _) | (rotate_left; rotate_left; with_reducible show L2.SqL _ _ _ _))) | fail)); done)))) | (((repeat (first | (with_reducible assumption) | (refine' L2.Same.seq ?s ?_; (case s => (with_reducible assumption)); (first | with_reducible show L2.SqL _ _ _ _ | (rotate_left; with_reducible show L2.SqL _ _ _ _) | (rotate_left; rotate_left; with_reducible show L2.SqL _ _ _ _))) | fail)); done)) | fail)
local macro_rules | `(tactic| walk_at "sqt") => `(tactic| first | (with_reducible assumption) | (refine' L2.SqT.of ?h; (case h => walk_at "hp")) | (refine' Go.sqt_up ?s ?h; (case s => (with_reducible assumption)); (case h => (((repeat (first | (with_reducible assumption) | (refine' Go.same_sqt ?s ?_; (case s => (with_reducible assumption)); (first | with_reducible show L2.SqT _ _ _ _ | (rotate_left; with_reducible show L2.SqT _ _ _ _) | (rotate_left; rotate_left; with_reducible show L2.SqT _ _ _ _))) | fail)); done)))) | (((repeat (first | (with_reducible assumption) | (refine' Go.same_sqt ?s ?_; (case s => (with_reducible assumption)); (first | with_reducible show L2.SqT _ _ _ _ | (rotate_left; with_reducible show L2.SqT _ _ _ _) | (rotate_left; rotate_left; with_reducible show L2.SqT _ _ _ _))) | fail)); done)) | fail)
local macro_rules | `(tactic| walk_at "num") => `(tactic| first | omega | (simp only [List.length_append, List.length_cons, List.length_nil, List.length_reverse, List.length_map, List.length_replicate, List.length_take, List.length_drop] at *; omega) | fail)
local macro_rules | `(tactic| walk_at "few") => `(tactic| exact Go.sz_le (by simp only [List.length_cons, List.length_nil]; decide))
local macro_rules | `(tactic| walk_at "sm") => `(tactic| ((repeat (first | (with_reducible assumption) | exact Go.same_rfl | (refine' Go.same_tr ?_ ?s; (case s => (with_reducible assumption)); (first | with_reducible show L2.Same _ _ | (rotate_left; with_reducible show L2.Same _ _) | (rotate_left; rotate_left; with_reducible show L2.Same _ _))) | fail)); done))
local macro_rules | `(tactic| walk_at "st") => `(tactic| first | ((with_reducible refine' Go.e_put ?k1 ?_); (case k1 => (repeat (first | with_reducible exact Go.Put.here | with_reducible apply Go.Put.there)))) | ((with_reducible show Go.eS _ _ _ _ _); (first | ((with_reducible show Go.eS _ (PySem.Expr.Name _ _) _ _ _); (first | ((with_reducible refine' Go.e_name ?k1 ?vis ?k2 ?_); (case k1 => (with_reducible assumption)); (case k2 => (repeat (first | with_reducible exact Go.Get.here | with_reducible apply Go.Get.there))); (case vis => (decide +kernel))) | ((with_reducible refine' Go.e_gstr ?k1 ?k2 ?hg ?_); (case k1 => (with_reducible assumption)); (case k2 => (with_reducible assumption)); (case hg => (decide +kernel))) | ((with_reducible refine' Go.e_gint ?k1 ?k2 ?hg ?_); (case k1 => (with_reducible assumption)); (case k2 => (with_reducible assumption)); (case hg => (decide +kernel))) | ((with_reducible refine' Go.e_gref ?k1 ?k2 ?hg ?_); (case k1 => (with_reducible assumption)); (case k2 => (with_reducible assumption)); (case hg => (decide +kernel))) | ((with_reducible refine' Go.e_bltn (x := "ValueError") (u := .type "ValueError") (v := .ty "ValueError") ?k1 ?hg ?k2 ?hv ?r ?_); (case k1 => (with_reducible assumption)); (case k2 => (with_reducible assumption)); (case hg => (decide +kernel)); (case hv => (decide +kernel)); (case r => rfl)) | ((with_reducible refine' Go.e_bltn (x := "str") (u := .type "str") (v := .ty "str") ?k1 ?hg ?k2 ?hv ?r ?_); (case k1 => (with_reducible assumption)); (case k2 => (with_reducible assumption)); (case hg => (decide +kernel)); (case hv => (decide +kernel)); (case r => rfl)) | ((with_reducible refine' Go.e_bltn (x := "int") (u := .type "int") (v := .ty "int") ?k1 ?hg ?k2 ?hv ?r ?_); (case k1 => (with_reducible assumption)); (case k2 => (with_reducible assumption)); (case hg => (decide +kernel)); (case hv => (decide +kernel)); (case r => rfl)) | ((with_reducible refine' Go.e_bltn (x := "bool") (u := .type "bool") (v := .ty "bool") ?k1 ?hg ?k2 ?hv ?r ?_); (case k1 => (with_reducible assumption)); (case k2 => (with_reducible assumption)); (case hg => (decide +kernel)); (case hv => (decide +kernel)); (case r => rfl)) | ((with_reducible refine' Go.e_bltn (x := "list") (u := .type "list") (v := .ty "list") ?k1 ?hg ?k2 ?hv ?r ?_); (case k1 => (with_reducible assumption)); (case k2 => (with_reducible assumption)); (case hg => (decide +kernel)); (case hv => (decide +kernel)); (case r => rfl)) | ((with_reducible refine' Go.e_bltn (x := "tuple") (u := .type "tuple") (v := .ty "tuple") ?k1 ?hg ?k2 ?hv ?r ?_); (case k1 => (with_reducible assumption)); (case k2 => (with_reducible assumption)); (case hg => (decide +kernel)); (case hv => (decide +kernel)); (case r => rfl)) | fail)) | with_reducible refine Go.g_int ?_ | with_reducible refine Go.e_str ?_ | with_reducible refine Go.g_bin ?_ | ((with_reducible refine Go.e_cmp ?hm ?_); (case hm => (first | exact L2.nobehind _ (by decide) (by decide) | rfl | with_unfolding_all rfl))) | ((with_reducible show Go.eS _ (PySem.Expr.Call (PySem.Expr.Name _ _) _ _ _) _ _ _); (first | ((with_reducible refine' Go.e_listRg1 ?k1 ?g1 ?k2 ?g2 ?k3 ?h1 ?h2 ?_); (case k1 => (with_reducible assumption)); (case k2 => (with_reducible assumption)); (case k3 => (with_reducible assumption)); (case g1 => (decide +kernel)); (case g2 => (decide +kernel)); (case h1 => rfl); (case h2 => rfl)) | ((with_reducible refine' Go.e_listEnum ?k1 ?g1 ?k2 ?g2 ?k3 ?h1 ?h2 ?_); (case k1 => (with_reducible assumption)); (case k2 => (with_reducible assumption)); (case k3 => (with_reducible assumption)); (case g1 => (decide +kernel)); (case g2 => (decide +kernel)); (case h1 => rfl); (case h2 => rfl)) | ((with_reducible refine' Go.e_call ?k1 ?k2 ?hk ?hg ?he ?hp ?_); (case k1 => (with_reducible assumption)); (case k2 => (with_reducible assumption)); (case hk => decide); (case hg => (decide +kernel)); (case he => rfl); (case hp => rfl)) | ((with_reducible refine' Go.e_callX ?k1 ?k2 ?k3 ?hk ?hg ?he ?hp ?_); (case k1 => (with_reducible assumption)); (case k2 => (with_reducible assumption)); (case k3 => (with_reducible assumption)); (case hk => decide); (case hg => (decide +kernel)); (case he => rfl); (case hp => rfl)) | ((with_reducible refine' Go.e_callB (x := "len") (id := "len") ?k1 ?hg ?k2 ?hv ?he ?hp ?_); (case k1 => (with_reducible assumption)); (case k2 => (with_reducible assumption)); (case hg => (decide +kernel)); (case hv => (decide +kernel)); (case he => rfl); (case hp => rfl)) | ((with_reducible refine' Go.e_callB (x := "sum") (id := "sum") ?k1 ?hg ?k2 ?hv ?he ?hp ?_); (case k1 => (with_reducible assumption)); (case k2 => (with_reducible assumption)); (case hg => (decide +kernel)); (case hv => (decide +kernel)); (case he => rfl); (case hp => rfl)) | ((with_reducible refine' Go.e_callB (x := "isinstance") (id := "isinstance") ?k1 ?hg ?k2 ?hv ?he ?hp ?_); (case k1 => (with_reducible assumption)); (case k2 => (with_reducible assumption)); (case hg => (decide +kernel)); (case hv => (decide +kernel)); (case he => rfl); (case hp => rfl)) | ((with_reducible refine' Go.e_callB (x := "max") (id := "max") ?k1 ?hg ?k2 ?hv ?he ?hp ?_); (case k1 => (with_reducible assumption)); (case k2 => (with_reducible assumption)); (case hg => (decide +kernel)); (case hv => (decide +kernel)); (case he => rfl); (case hp => rfl)) | ((with_reducible refine' Go.e_callB (x := "min") (id := "min") ?k1 ?hg ?k2 ?hv ?he ?hp ?_); (case k1 => (with_reducible assumption)); (case k2 => (with_reducible assumption)); (case hg => (decide +kernel)); (case hv => (decide +kernel)); (case he => rfl); (case hp => rfl)) | ((with_reducible refine' Go.e_callB (x := "abs") (id := "abs") ?k1 ?hg ?k2 ?hv ?he ?hp ?_); (case k1 => (with_reducible assumption)); (case k2 => (with_reducible assumption)); (case hg => (decide +kernel)); (case hv => (decide +kernel)); (case he => rfl); (case hp => rfl)) | ((with_reducible refine' Go.e_callB (x := "sorted") (id := "sorted") ?k1 ?hg ?k2 ?hv ?he ?hp ?_); (case k1 => (with_reducible assumption)); (case k2 => (with_reducible assumption)); (case hg => (decide +kernel)); (case hv => (decide +kernel)); (case he => rfl); (case hp => rfl)) | ((with_reducible refine' Go.e_callB (x := "repr") (id := "repr") ?k1 ?hg ?k2 ?hv ?he ?hp ?_); (case k1 => (with_reducible assumption)); (case k2 => (with_reducible assumption)); (case hg => (decide +kernel)); (case hv => (decide +kernel)); (case he => rfl); (case hp => rfl)) | ((with_reducible refine' Go.e_callB (x := "all") (id := "all") ?k1 ?hg ?k2 ?hv ?he ?hp ?_); (case k1 => (with_reducible assumption)); (case k2 => (with_reducible assumption)); (case hg => (decide +kernel)); (case hv => (decide +kernel)); (case he => rfl); (case hp => rfl)) | ((with_reducible refine' Go.e_callTy (x := "int") (T := "int") ?k1 ?hg ?k2 ?hv ?he ?hp ?_); (case k1 => (with_reducible assumption)); (case k2 => (with_reducible assumption)); (case hg => (decide +kernel)); (case hv => (decide +kernel)); (case he => rfl); (case hp => rfl)) | ((with_reducible refine' Go.e_callTy (x := "str") (T := "str") ?k1 ?hg ?k2 ?hv ?he ?hp ?_); (case k1 => (with_reducible assumption)); (case k2 => (with_reducible assumption)); (case hg => (decide +kernel)); (case hv => (decide +kernel)); (case he => rfl); (case hp => rfl)) | ((with_reducible refine' Go.e_callTy (x := "list") (T := "list") ?k1 ?hg ?k2 ?hv ?he ?hp ?_); (case k1 => (with_reducible assumption)); (case k2 => (with_reducible assumption)); (case hg => (decide +kernel)); (case hv => (decide +kernel)); (case he => rfl); (case hp => rfl)) | ((with_reducible refine' Go.e_callTy (x := "tuple") (T := "tuple") ?k1 ?hg ?k2 ?hv ?he ?hp ?_); (case k1 => (with_reducible assumption)); (case k2 => (with_reducible assumption)); (case hg => (decide +kernel)); (case hv => (decide +kernel)); (case he => rfl); (case hp => rfl)) | ((with_reducible refine' Go.e_callTy (x := "set") (T := "set") ?k1 ?hg ?k2 ?hv ?he ?hp ?_); (case k1 => (with_reducible assumption)); (case k2 => (with_reducible assumption)); (case hg => (decide +kernel)); (case hv => (decide +kernel)); (case he => rfl); (case hp => rfl)) | ((with_reducible refine' Go.e_make0 ?k1 ?k2 ?hk ?hg ?O ?_); (case k1 => (with_reducible assumption)); (case k2 => (with_reducible assumption)); (case hk => decide); (case hg => (decide +kernel)); (case O => (with_reducible assumption))) | fail)) | ((with_reducible show Go.eS _ (PySem.Expr.Call (PySem.Expr.Attribute _ _ _) _ _ _) _ _ _); (first | ((with_reducible refine' Go.e_get2 ?k1 ⟨?a1, ?a2, ?a3, ?a4⟩ ?_); (case k1 => (with_reducible assumption)); (case a1 => rfl); (case a2 => rfl); (case a3 => rfl); (case a4 => rfl)) | ((with_reducible refine' Go.e_meth (T := "list") (id := "list.append") (name := "append") ?k1 PySem.F.plainAttrs_list PySem.F.slot_list_append PySem.F.type_list_append ?a1 ?a2 ?a3 ?a4 ?a5 ?_); (case k1 => (with_reducible assumption)); (case a1 => rfl); (case a2 => rfl); (case a3 => rfl); (case a4 => rfl); (case a5 => rfl)) | ((with_reducible refine' Go.e_meth (T := "list") (id := "list.pop") (name := "pop") ?k1 PySem.F.plainAttrs_list PySem.F.slot_list_pop PySem.F.type_list_pop ?a1 ?a2 ?a3 ?a4 ?a5 ?_); (case k1 => (with_reducible assumption)); (case a1 => rfl); (case a2 => rfl); (case a3 => rfl); (case a4 => rfl); (case a5 => rfl)) | ((with_reducible refine' Go.e_meth0 (T := "list") (id := "list.pop") (name := "pop") ?k1 PySem.F.plainAttrs_list PySem.F.slot_list_pop PySem.F.type_list_pop ?a1 ?a2 ?_); (case k1 => (with_reducible assumption)); (case a1 => rfl); (case a2 => rfl)) | ((with_reducible refine' Go.e_meth0 (T := "list") (id := "list.reverse") (name := "reverse") ?k1 PySem.F.plainAttrs_list PySem.F.slot_list_reverse PySem.F.type_list_reverse ?a1 ?a2 ?_); (case k1 => (with_reducible assumption)); (case a1 => rfl); (case a2 => rfl)) | ((with_reducible refine Go.e_sm1 (id := "str.count") (name := "count") PySem.F.slot_str_count PySem.F.type_str_count ?a1 ?a2 ?a3 ?_); (case a1 => rfl); (case a2 => rfl); (case a3 => rfl)) | ((with_reducible refine Go.e_sm1 (id := "str.index") (name := "index") PySem.F.slot_str_index PySem.F.type_str_index ?a1 ?a2 ?a3 ?_); (case a1 => rfl); (case a2 => rfl); (case a3 => rfl)) | ((with_reducible refine Go.e_sm1 (id := "str.join") (name := "join") PySem.F.slot_str_join PySem.F.type_str_join ?a1 ?a2 ?a3 ?_); (case a1 => rfl); (case a2 => rfl); (case a3 => rfl)) | ((with_reducible refine' Go.e_mthX ?k1 ?k2 ?k3 ?k4 ?hk ?h1 ?h2 ?h3 ?_); (case k1 => (with_reducible assumption)); (case k2 => (with_reducible assumption)); (case k3 => (with_reducible assumption)); (case k4 => (with_reducible assumption)); (case hk => decide); (case h1 => rfl); (case h2 => rfl); (case h3 => rfl)) | ((with_reducible refine' Go.e_mth ?k1 ?k2 ?k3 ?hk ?h1 ?h2 ?h3 ?_); (case k1 => (with_reducible assumption)); (case k2 => (with_reducible assumption)); (case k3 => (with_reducible assumption)); (case hk => decide); (case h1 => rfl); (case h2 => rfl); (case h3 => rfl)) | ((with_reducible refine' Go.e_mth0 ?k1 ?k2 ?k3 ?hk ?h3 ?_); (case k1 => (with_reducible assumption)); (case k2 => (with_reducible assumption)); (case k3 => (with_reducible assumption)); (case hk => decide); (case h3 => rfl)) | fail)) | ((with_reducible show Go.eS _ (PySem.Expr.Attribute _ _ _) _ _ _); (with_reducible refine' Go.e_fld ?k1 ?hb ?_); (case k1 => (with_reducible assumption)); (case hb => rfl)) | with_reducible refine Go.e_slice ?_ | ((with_reducible refine Go.e_ix ?hn ?hs ?_); (case hn => rfl); (case hs => exact fun _ _ => rfl)) | ((with_reducible refine' Go.e_lc1 ?k1 ?k2 ?k3 ?hs ?_); (case k1 => (with_reducible assumption)); (case k2 => (repeat (first | with_reducible exact Go.Ix.here | with_reducible apply Go.Ix.there))); (case k3 => (decide +kernel)); (case hs => exact fun _ => rfl)) | ((with_reducible refine' Go.e_lc2 ?k1 ?k2 ?k3 ?k4 ?hs ?_); (case k1 => (with_reducible assumption)); (case k2 => (repeat (first | with_reducible exact Go.Ix.here | with_reducible apply Go.Ix.there))); (case k3 => (repeat (first | with_reducible exact Go.Ix.here | with_reducible apply Go.Ix.there))); (case k4 => (decide +kernel)); (case hs => exact fun _ => rfl)) | with_reducible refine Go.g_lst ?_ | with_reducible refine Go.g_tup ?_ | with_reducible refine Go.e_and ?_ | with_reducible refine Go.e_or ?_ | with_reducible refine Go.e_one ?_ | with_reducible refine Go.e_not ?_ | with_reducible refine Go.e_neg ?_ | with_reducible refine Go.e_if ?_ | with_reducible refine Go.g_bool ?_ | with_reducible refine Go.g_none ?_ | ((with_reducible refine Go.e_chain ?hm ?_); (case hm => with_unfolding_all rfl)) | fail)) | ((with_reducible show Go.oS _ _ _ _ _ _); (first | with_reducible refine Go.o_add ?_ | with_reducible refine Go.o_sub ?_ | with_reducible refine Go.o_lt ?_ | with_reducible refine Go.o_eqI ?_ | with_reducible refine Go.o_eqS ?_ | with_reducible refine Go.o_neI ?_ | with_reducible refine Go.o_neS ?_ | with_reducible refine Go.o_gt ?_ | with_reducible refine Go.o_le ?_ | with_reducible refine Go.o_ge ?_ | ((with_reducible refine Go.o_mod ?hk ?_); (case hk => first | decide | omega)) | ((with_reducible refine Go.o_div ?h1 ?h2 ?_); (case h1 => first | decide | omega); (case h2 => first | decide | omega)) | ((with_reducible refine Go.o_rep0 ?hk ?_); (case hk => walk_at "num")) | ((with_reducible refine Go.o_rep1 ?hk ?_); (case hk => walk_at "num")) | ((with_reducible refine Go.o_mulR ?hk ?_); (case hk => first | decide | omega)) | ((with_reducible refine Go.o_mulL ?hk ?_); (case hk => first | decide | omega)) | ((with_reducible refine Go.o_pow ?hk ?_); (case hk => first | decide | omega)) | ((with_reducible refine Go.o_addSl ?h0 ?hl ?_); (case h0 => decide +kernel); (case hl => walk_at "num")) | ((with_reducible refine Go.o_addSr ?h0 ?hl ?_); (case h0 => decide +kernel); (case hl => walk_at "num")) | ((with_reducible refine Go.o_iaddSl ?h0 ?hl ?_); (case h0 => decide +kernel); (case hl => walk_at "num")) | ((with_reducible refine Go.o_addS ?hl ?_); (case hl => walk_at "num")) | ((with_reducible refine Go.o_iaddS ?hl ?_); (case hl => walk_at "num")) | with_reducible refine Go.o_iadd ?_ | with_reducible refine Go.o_isub ?_ | with_reducible refine Go.o_eqB ?_ | with_reducible refine Go.o_neB ?_ | with_reducible refine Go.o_ltS ?_ | with_reducible refine Go.o_leS ?_ | with_reducible refine Go.o_gtS ?_ | with_reducible refine Go.o_isN ?_ | with_reducible refine Go.o_notN ?_ | with_reducible refine Go.o_isB ?_ | with_reducible refine Go.o_notB ?_ | with_reducible refine Go.o_in1 ?_ | ((with_reducible refine' Go.o_inT ?k1 ?k2 ?k3 ?_); (case k1 => (with_reducible assumption)); (case k2 => walk_at "hp"); (case k3 => walk_at "hp")) | ((with_reducible refine' Go.o_notInT ?k1 ?k2 ?k3 ?_); (case k1 => (with_reducible assumption)); (case k2 => walk_at "hp"); (case k3 => walk_at "hp")) | with_reducible refine Go.o_notIn1 ?_ | fail)) | ((with_reducible show Go.bS _ _ _ _ _); (first | ((with_reducible refine' Go.n_put ?k1 ?_); (case k1 => (repeat (first | with_reducible exact Go.Put.here | with_reducible apply Go.Put.there)))) | with_reducible refine Go.g_st ?_ | with_reducible refine Go.g_nx ?_ | fail)) | ((with_reducible show Go.sS _ _ _ _ _); (first | ((with_reducible refine' Go.s_setLc1 ?k1 ?k2 ?hl ?hs ?ha ?k3 ?k4 ?hf ?_); (case k1 => (with_reducible assumption)); (case k2 => (repeat (first | with_reducible exact Go.Ix.here | with_reducible apply Go.Ix.there))); (case hl => rfl); (case hs => rfl); (case ha => (decide +kernel)); (case k3 => (repeat (first | with_reducible exact Go.Ix.here | with_reducible apply Go.Ix.there))); (case k4 => (decide +kernel)); (case hf => exact fun _ => rfl)) | ((with_reducible refine' Go.s_setLc2 ?k1 ?k2 ?hl ?hs ?ha ?k3 ?k5 ?k4 ?hf ?_); (case k1 => (with_reducible assumption)); (case k2 => (repeat (first | with_reducible exact Go.Ix.here | with_reducible apply Go.Ix.there))); (case hl => rfl); (case hs => rfl); (case ha => (decide +kernel)); (case k3 => (repeat (first | with_reducible exact Go.Ix.here | with_reducible apply Go.Ix.there))); (case k5 => (repeat (first | with_reducible exact Go.Ix.here | with_reducible apply Go.Ix.there))); (case k4 => (decide +kernel)); (case hf => exact fun _ => rfl)) | ((with_reducible refine' Go.s_setC ?k1 ?k2 ?hl ?_); (case k1 => (with_reducible assumption)); (case k2 => (repeat (first | with_reducible exact Go.Ix.here | with_reducible apply Go.Ix.there))); (case hl => rfl)) | ((with_reducible refine' Go.s_set ?k1 ?hs ?k2 ?hl ?_); (case k1 => (with_reducible assumption)); (case k2 => (repeat (first | with_reducible exact Go.Ix.here | with_reducible apply Go.Ix.there))); (case hs => rfl); (case hl => (decide +kernel))) | with_reducible refine Go.g_ret ?_ | with_reducible refine Go.g_if ?_ | ((with_reducible refine' Go.s_aug ?k1 ?k2 ?hl ?k3 ?_); (case k1 => (with_reducible assumption)); (case k2 => (repeat (first | with_reducible exact Go.Ix.here | with_reducible apply Go.Ix.there))); (case k3 => (repeat (first | with_reducible exact Go.Get.here | with_reducible apply Go.Get.there))); (case hl => (decide +kernel))) | with_reducible refine Go.s_doc ?_ | ((with_reducible refine Go.s_expr ?hs ?_); (case hs => rfl)) | ((with_reducible refine' Go.s_raise ?k1 ?k2 ?k3 ?hg ?_); (case k1 => (with_reducible assumption)); (case k2 => (with_reducible assumption)); (case k3 => (with_reducible assumption)); (case hg => (decide +kernel))) | with_reducible refine Go.s_break ?_ | with_reducible refine Go.s_pass ?_ | with_reducible refine Go.s_retN ?_ | ((with_reducible refine' Go.s_fld ?k1 ?hs ?_); (case k1 => (with_reducible assumption)); (case hs => rfl)) | ((with_reducible refine' Go.s_augL ?k1 ?hs ?_); (case k1 => (with_reducible assumption)); (case hs => exact fun _ _ _ => rfl)) | ((with_reducible refine Go.g_asgF ?h1 ?h2 ?h3 ?_); (case h1 => rfl); (case h2 => rfl); (case h3 => (decide +kernel))) | ((with_reducible refine Go.g_asg ?h1 ?h2 ?h3 ?_); (case h1 => rfl); (case h2 => rfl); (case h3 => rfl)) | fail)) | ((with_reducible show Go.qS _ _ _ _ _); (first | ((with_reducible refine Go.q_cmp ?hm ?_); (case hm => (first | exact L2.nobehind _ (by decide) (by decide) | rfl | with_unfolding_all rfl))) | with_reducible refine Go.q_not ?_ | with_reducible refine Go.q_w (Go.w_and ?_) | with_reducible refine Go.q_w (Go.w_or ?_) | ((with_reducible refine Go.q_chain ?hm ?_); (case hm => with_unfolding_all rfl)) | ((with_reducible refine Go.q_val ?hs ?_); (case hs => exact fun _ => rfl)) | fail)) | ((with_reducible show Go.wS _ _ _ _ _); (first | with_reducible refine Go.w_and1 ?_ | with_reducible refine Go.w_or1 ?_ | with_reducible refine Go.w_and ?_ | with_reducible refine Go.w_or ?_ | fail)) | ((with_reducible show Go.aS _ _ _ _ _); first | with_reducible refine Go.g_nil ?_ | ((with_reducible refine Go.g_cons ?he ?_); (case he => rfl))) | ((with_reducible show Go.xS _ _ _ _ _); (first | ((refine' Go.x_lst ?k1 ?k2 ?k3 ?_); (case k1 => (with_reducible assumption)); (case k2 => walk_at "sql"); (case k3 => rfl)) | ((refine' Go.x_tup ?k1 ?k2 ?k3 ?_); (case k1 => (with_reducible assumption)); (case k2 => walk_at "sqt"); (case k3 => rfl)) | fail)) | ((with_reducible show Go.cS _ _ _ _ _); (first | ((with_reducible refine Go.c_lenS ?hl ?_); (case hl => walk_at "num")) | ((refine' Go.c_lenL ?k1 ?k2 ?_); (case k1 => (with_reducible assumption)); (case k2 => walk_at "sql")) | ((refine' Go.c_lenT ?k1 ?k2 ?_); (case k1 => (with_reducible assumption)); (case k2 => walk_at "sqt")) | ((with_reducible refine' Go.c_isS ?k1 ?_); (case k1 => (with_reducible assumption))) | ((with_reducible refine' Go.c_isB ?k1 ?_); (case k1 => (with_reducible assumption))) | ((with_reducible refine' Go.c_isI ?k1 ?_); (case k1 => (with_reducible assumption))) | ((with_reducible refine' Go.c_isIB ?k1 ?_); (case k1 => (with_reducible assumption))) | ((with_reducible refine' Go.c_isE ?k1 ?k2 ?k3 ?k4 ?k5 ?_); (case k1 => (with_reducible assumption)); (case k2 => walk_at "hp"); (case k3 => (with_reducible assumption)); (case k4 => first | exact L2.ClsV.ty _ | exact L2.ClsV.own _); (case k5 => (with_reducible assumption))) | with_reducible refine Go.c_intI ?_ | with_reducible refine Go.c_int0 ?_ | with_reducible refine Go.c_int1 ?_ | with_reducible refine Go.c_str0 ?_ | with_reducible refine Go.c_str1 ?_ | ((refine' Go.c_sum ?k1 ?k2 ?_); (case k1 => (with_reducible assumption)); (case k2 => walk_at "sql")) | with_reducible refine Go.c_intB ?_ | ((with_reducible refine' Go.c_max2 ?k1 ?_); (case k1 => (with_reducible assumption))) | ((with_reducible refine' Go.c_min2 ?k1 ?_); (case k1 => (with_reducible assumption))) | fail)) | ((with_reducible show Go.poS _ _ _ _ _); first | with_reducible refine Go.po_no ?_ | with_reducible refine Go.po_so ?_) | ((with_reducible show Go.gS _ _ _ _ _ _); (first | ((with_reducible refine' Go.g_tgt ?k1 ?k2 ?hl ?_); (case k1 => (with_reducible assumption)); (case k2 => (repeat (first | with_reducible exact Go.Ix.here | with_reducible apply Go.Ix.there))); (case hl => (decide +kernel))) | ((with_reducible refine Go.g_sub ?hs ?_); (case hs => exact fun _ => rfl)) | ((refine' Go.g_tgts ?k1 ?h1 ?h2 ?k2 ?_); (case k1 => (with_reducible assumption)); (case k2 => walk_at "sqt"); (case h1 => rfl); (case h2 => rfl)) | ((refine' Go.g_tgtsL ?k1 ?h1 ?h2 ?k2 ?_); (case k1 => (with_reducible assumption)); (case k2 => walk_at "sql"); (case h1 => rfl); (case h2 => rfl)) | fail)) | ((with_reducible show Go.gsS _ _ _ _ _ _); (first | ((with_reducible refine' Go.gs_put ?k1 ?_); (case k1 => (repeat (first | with_reducible exact Go.Put.here | with_reducible apply Go.Put.there)))) | with_reducible refine Go.gs_nil ?_ | ((with_reducible refine Go.gs_cons ?hs ?_); (case hs => rfl)) | fail)) | ((with_reducible show Go.lS _ _ _ _ _ _); first | ((with_reducible refine Go.l_to ?h0 ?hz ?_); (case h0 => omega); (case hz => walk_at "num")) | ((with_reducible refine Go.l_from ?h0 ?hz ?_); (case h0 => omega); (case hz => walk_at "num")) | ((with_reducible refine Go.l_mid ?h0 ?h1 ?hz ?_); (case h0 => omega); (case h1 => omega); (case hz => walk_at "num"))) | ((with_reducible show Go.pS _ _ _ _ _ _); (first | ((refine' Go.p_cell0 ?k1 (fun _ _ => ?_)); (case k1 => (with_reducible assumption))) | ((refine' Go.p_cell1 ?k2 (fun _ _ => ?_)); (case k2 => (with_reducible assumption))) | ((refine' Go.p_cell02 ?k2 (fun _ _ => ?_)); (case k2 => (with_reducible assumption))) | ((refine' Go.p_cell12 ?k2 (fun _ _ => ?_)); (case k2 => (with_reducible assumption))) | ((refine' Go.p_dK ?k1 ?k2 ?k4 (fun _ _ => ?_)); (case k1 => (with_reducible assumption)); (case k2 => (with_reducible assumption)); (case k4 => walk_at "num")) | ((refine' Go.p_dT ?k1 ?k2 ?k3 ?k4 (fun _ _ => ?_)); (case k1 => (with_reducible assumption)); (case k2 => (with_reducible assumption)); (case k3 => walk_at "hp"); (case k4 => walk_at "num")))) | ((with_reducible show Go.uS _ _ _ _ _); with_reducible refine Go.u_neg ?_) | ((with_reducible show Go.getS _ _ _ _ _); (with_reducible refine' Go.get_K ?k1 ?_); (case k1 => walk_at "hp")) | ((with_reducible show Go.iS _ _ _ _ _ _); ((with_reducible refine' Go.i_range1 ?k1 ?hg ?k2 ?hs ?_); (case k1 => (with_reducible assumption)); (case k2 => (with_reducible assumption)); (case hg => (decide +kernel)); (case hs => rfl))) | ((with_reducible show Go.iS _ _ (PySem.Expr.Call _ [PySem.Expr.Name _ _] _ _) _ _ _); ((with_reducible refine' Go.i_enumS ?k1 ?hg ?k2 ?hs ?_); (case k1 => (with_reducible assumption)); (case k2 => (with_reducible assumption)); (case hg => (decide +kernel)); (case hs => rfl))) | ((with_reducible show Go.iS _ _ _ _ _ _); ((with_reducible refine' Go.i_range2 ?k1 ?hg ?k2 ?hs ?hs2 ?_); (case k1 => (with_reducible assumption)); (case k2 => (with_reducible assumption)); (case hg => (decide +kernel)); (case hs => rfl); (case hs2 => rfl))) | ((with_reducible show Go.iS _ _ _ _ _ _); ((with_reducible refine' Go.i_down ?k1 ?hg ?k2 ?hs ?h1 ?h2 ?h3 ?_); (case k1 => (with_reducible assumption)); (case k2 => (with_reducible assumption)); (case hg => (decide +kernel)); (case hs => rfl); (case h1 => rfl); (case h2 => rfl); (case h3 => rfl))) | (first | with_reducible refine Go.k_b ?_ | ((with_reducible refine' Go.k_isK ?k1 ?_); (case k1 => walk_at "hp")) | ((with_reducible refine' Go.k_isT ?k1 ?_); (case k1 => walk_at "hp")) | ((with_reducible refine' Go.k_ty ?k1 ?_); (case k1 => walk_at "sql")) | ((with_reducible refine' Go.k_fld ?h1 ?h2 ?h3 ?h4 ?_); (case h1 => walk_at "hp"); (case h2 => (with_reducible assumption)); (case h3 => (with_reducible assumption)); (case h4 => (((repeat (first | with_reducible exact Go.Fld.here | ((with_reducible refine' Go.Fld.there ?_ ?n); (case n => decide +kernel); (first | with_reducible show Go.Fld _ _ _ | (rotate_left; with_reducible show Go.Fld _ _ _) | (rotate_left; rotate_left; with_reducible show Go.Fld _ _ _))) | fail)); done)))) | ((with_reducible refine' Go.k_fput ?O ?h2 ?h3 ?h5 ?h4 (fun H' O' => ?_)); (case O => walk_at "own"); (case h2 => (with_reducible assumption)); (case h3 => (with_reducible assumption)); (case h5 => exact of_decide_eq_true rfl); (case h4 => (((repeat (first | with_reducible exact Go.FPut.new | with_reducible exact Go.FPut.here | ((with_reducible refine' Go.FPut.there ?_ ?n); (case n => decide +kernel); (first | with_reducible show Go.FPut _ _ _ _ | (rotate_left; with_reducible show Go.FPut _ _ _ _) | (rotate_left; rotate_left; with_reducible show Go.FPut _ _ _ _))) | fail)); done)))) | ((with_reducible refine' Go.k_mth ?h1 ?h4 ?_); (case h1 => walk_at "hp"); (case h4 => (((repeat (first | with_reducible exact Go.NoFld.nil | ((with_reducible refine' Go.NoFld.cons ?n ?_); (case n => decide +kernel)) | fail)); done)))) | ((with_reducible refine Go.k_r2 ?h1 ?_); (case h1 => walk_at "num")) | ((with_reducible refine Go.k_r3 ?h1 ?_); (case h1 => walk_at "num")) | ((with_reducible refine Go.k_r ?h1 ?h2 ?_); (case h1 => walk_at "num"); (case h2 => walk_at "num")) | with_reducible refine Go.k_i ?_ | with_reducible refine Go.k_s ?_ | with_reducible refine Go.i_not ?_ | with_reducible refine L2.iteT ?_ | with_reducible refine L2.iteF ?_ | ((refine' And.intro ?k1 ?_); (case k1 => (exact Go.sz_le (by simp only [List.length_cons, List.length_nil]; decide)))) | fail) | fail)
local macro_rules | `(tactic| walk_at "go") => `(tactic| repeat walk_at "st")
local macro_rules | `(tactic| walk_at "in") => `(tactic| (dsimp only [Go.startL]; refine Go.g_st ?_; walk_at "go"))
local macro_rules | `(tactic| walk_at "ar") => `(tactic| first | (with_reducible assumption) | omega | (((repeat (first | (with_reducible assumption) | (refine' Go.gp_up ?s ?_; (case s => (with_reducible assumption)); (first | with_reducible show (_ : Option L2.HO) = _ | (rotate_left; with_reducible show (_ : Option L2.HO) = _) | (rotate_left; rotate_left; with_reducible show (_ : Option L2.HO) = _))) | fail)); done)) | (simp only [List.length_append, List.length_cons, List.length_nil, List.length_reverse, List.length_map, List.length_replicate, List.length_take, List.length_drop]; omega) | walk_at "sql" | walk_at "sqt" | walk_at "hp" | walk_at "num" | decide | fail)
local macro_rules | `(tactic| walk_at "ow") => `(tactic| first | (with_reducible assumption) | (((with_reducible refine' Go.Own.pl ?O ?h); (case O => (with_reducible assumption)); (case h => (((repeat (first | with_reducible exact Go.Pl.refl | ((with_reducible refine' Go.Pl.cons ?p ?_); (case p => (((repeat (first | with_reducible exact Go.Pull.here | with_reducible apply Go.Pull.there | fail)); done))); (first | with_reducible show Go.Pl _ _ | (rotate_left; with_reducible show Go.Pl _ _) | (rotate_left; rotate_left; with_reducible show Go.Pl _ _))) | fail)); done))))) | (simp only [List.map_append, List.map_cons, List.map_nil, List.append_nil, List.append_assoc, List.cons_append, List.nil_append]; (with_reducible assumption)) | (simp only [List.map_append, List.map_cons, List.map_nil, List.append_nil, List.append_assoc, List.cons_append, List.nil_append] at *; (with_reducible assumption)) | assumption | fail)
local macro_rules | `(tactic| walk_at "nat") => `(tactic| first | with_reducible exact Go.nat_id _ | with_reducible exact Go.nat_0 | with_reducible exact Go.nat_1 | with_reducible exact Go.nat_2 | ((with_reducible refine' Go.nat_add ?a ?b); (case a => walk_at "nat"); (case b => walk_at "nat")) | ((with_reducible refine' Go.nat_sub ?a ?b ?h); (case a => walk_at "nat"); (case b => walk_at "nat"); (case h => omega)) | ((with_reducible refine' Go.nat_any ?h); (case h => omega)) | fail)
local macro_rules | `(tactic| walk_at "dp") => `(tactic| first | exact L2.Dp.non | exact L2.Dp.bl _ | exact L2.Dp.int _ | exact L2.Dp.str _ | ((refine' L2.Dp.lst ?h ?k); (case h => walk_at "sql"); (case k => walk_at "da")) | ((refine' L2.Dp.tup ?h ?k); (case h => walk_at "sqt"); (case k => walk_at "da")) | (with_reducible assumption) | fail)
local macro_rules | `(tactic| walk_at "da") => `(tactic| first | exact L2.DpAll.nil | ((refine' L2.DpAll.cons ?h ?k); (case h => walk_at "dp"); (case k => walk_at "da")) | (with_reducible assumption) | fail)
local macro_rules | `(tactic| walk_at "sh") => `(tactic| first | exact Go.shal_non | exact Go.shal_bl | exact Go.shal_int | exact Go.shal_str | ((refine' Go.shal_list ?h); (case h => walk_at "sl")) | ((refine' Go.shal_tup ?h); (case h => walk_at "sl")) | (with_reducible assumption) | fail)
local macro_rules | `(tactic| walk_at "sl") => `(tactic| first | exact Go.all_nil | ((refine' Go.all_cons ?h ?k); (case h => walk_at "sh"); (case k => walk_at "sl")) | (with_reducible assumption) | fail)
local macro_rules | `(tactic| walk_at "au") => `(tactic| repeat (first | (first | ((with_reducible show Go.xS _ (L2.V.str _) _ _ _); (with_reducible refine' Go.x_strN ?hi ?hn ?hz ?_); (case hi => walk_at "nat"); (case hn => walk_at "num"); (case hz => walk_at "num")) | with_reducible refine Go.o_eqS1 ?_ | with_reducible refine Go.o_neS1 ?_ | ((with_reducible show Go.cS _ (PySem.Value.builtin "isinstance") _ _ _); (with_reducible refine' Go.c_isiT (b := true) ?c ?t ?e ?_); (case c => (with_reducible assumption)); (case t => (first | exact L2.TyOf.non | exact L2.TyOf.str _ | exact L2.TyOf.int _ | exact L2.TyOf.bl _ | ((refine' L2.TyOf.lst ?h); (case h => walk_at "hp")) | ((refine' L2.TyOf.tup ?h); (case h => walk_at "hp")) | ((refine' L2.TyOf.dK ?h); (case h => walk_at "hp")) | ((refine' L2.TyOf.dT ?h); (case h => walk_at "hp")) | fail)); (case e => rfl)) | ((with_reducible show Go.cS _ (PySem.Value.builtin "isinstance") _ _ _); (with_reducible refine' Go.c_isiT (b := false) ?c ?t ?e ?_); (case c => (with_reducible assumption)); (case t => (first | exact L2.TyOf.non | exact L2.TyOf.str _ | exact L2.TyOf.int _ | exact L2.TyOf.bl _ | ((refine' L2.TyOf.lst ?h); (case h => walk_at "hp")) | ((refine' L2.TyOf.tup ?h); (case h => walk_at "hp")) | ((refine' L2.TyOf.dK ?h); (case h => walk_at "hp")) | ((refine' L2.TyOf.dT ?h); (case h => walk_at "hp")) | fail)); (case e => rfl)) | ((with_reducible refine' Go.x_lstR ?c ?hr ?hi ?hp ?_); (case c => (with_reducible assumption)); (case hr => walk_at "sql"); (case hi => walk_at "nat"); (case hp => (with_reducible assumption))) | ((with_reducible refine' Go.o_inI ?c ?hp ?_); (case c => (with_reducible assumption)); (case hp => walk_at "sql")) | ((with_reducible refine' Go.o_notInI ?c ?hp ?_); (case c => (with_reducible assumption)); (case hp => walk_at "sql")) | ((with_reducible refine' Go.x_dK ?c ?hp ?hv ?_); (case c => (with_reducible assumption)); (case hv => (with_reducible assumption)); (case hp => walk_at "hp")) | ((with_reducible refine' Go.x_dT ?c ?hp ?hb ?hv ?_); (case c => (with_reducible assumption)); (case hv => (with_reducible assumption)); (case hp => walk_at "hp"); (case hb => walk_at "hp")) | ((with_reducible refine' Go.m_indexA ?h1 ?_); (case h1 => first | (with_reducible assumption) | omega)) | with_reducible refine Go.m_count0 ?_ | with_reducible refine Go.m_countI ?_ | with_reducible refine Go.m_count1 ?_ | ((with_reducible refine' Go.m_appendC ?O ?hl (fun H' O' => ?_)); (case O => (with_reducible assumption)); (case hl => walk_at "num")) | (first | ((with_reducible refine' Go.e_andJ ?O ?h1 (fun H' G' s' O' => ?_)); (case O => (with_reducible assumption)); (case h1 => (intro hq; (try replace hq := of_decide_eq_true hq); walk_at "au"))) | ((with_reducible refine' Go.e_orJ ?O ?h1 ?eT (fun H' G' s' O' => ?_)); (case O => (with_reducible assumption)); (case eT => rfl); (case h1 => (intro hq; (try replace hq := of_decide_eq_false hq); walk_at "au"))) | ((with_reducible refine' Go.w_andJ ?O ?h1 (fun H' G' s' O' => ?_)); (case O => (with_reducible assumption)); (case h1 => (intro hq; (try replace hq := of_decide_eq_true hq); walk_at "au"))) | ((with_reducible refine' Go.w_orJ ?O ?h1 ?eT (fun H' G' s' O' => ?_)); (case O => (with_reducible assumption)); (case eT => rfl); (case h1 => (intro hq; (try replace hq := of_decide_eq_false hq); walk_at "au"))) | fail) | (first | ((with_reducible show ∀ (p : _) (H' : _), Go.New _ p (L2.HO.tup _) H' → _); intro p H' n'; obtain ⟨G', s', e', O'⟩ := Go.Own.fix (by (with_reducible assumption)) n') | ((with_reducible show ∀ (p : _) (H' : _), Go.New _ p (L2.HO.lst _) H' → _); intro p H' n'; (with_reducible show Go.eS _ _ _ _ (fun y H => Go.xS _ _ y H _)); obtain ⟨G', s', e', O'⟩ := Go.Own.fix (by (with_reducible assumption)) n') | fail) | (((refine' ⟨rfl, _, ?o, ?s⟩); (case o => (with_reducible assumption)); (case s => walk_at "sm"))) | ((with_reducible refine' Go.i_true ?h ?_); (case h => first | with_reducible rfl | omega)) | ((with_reducible refine' Go.i_false ?h ?_); (case h => first | omega | (intro hf; cases hf; done))) | fail) | walk_at "st"))
local macro_rules | `(tactic| walk_at "ax") => `(tactic| repeat (first | (first | ((with_reducible refine' Go.i_trueD ?h ?_); (case h => (with_reducible assumption))) | ((with_reducible refine' Go.i_falseD ?h ?_); (case h => (with_reducible assumption))) | ((with_reducible refine' Go.i_trueD ?h ?_); (case h => first | with_reducible rfl | omega)) | ((with_reducible refine' Go.i_falseD ?h ?_); (case h => first | omega | (intro hf; cases hf; done))) | fail) | (first | ((with_reducible show Go.xS _ (L2.V.str _) _ _ _); (with_reducible refine' Go.x_strN ?hi ?hn ?hz ?_); (case hi => walk_at "nat"); (case hn => walk_at "num"); (case hz => walk_at "num")) | with_reducible refine Go.o_eqS1 ?_ | with_reducible refine Go.o_neS1 ?_ | ((with_reducible show Go.cS _ (PySem.Value.builtin "isinstance") _ _ _); (with_reducible refine' Go.c_isiT (b := true) ?c ?t ?e ?_); (case c => (with_reducible assumption)); (case t => (first | exact L2.TyOf.non | exact L2.TyOf.str _ | exact L2.TyOf.int _ | exact L2.TyOf.bl _ | ((refine' L2.TyOf.lst ?h); (case h => walk_at "hp")) | ((refine' L2.TyOf.tup ?h); (case h => walk_at "hp")) | ((refine' L2.TyOf.dK ?h); (case h => walk_at "hp")) | ((refine' L2.TyOf.dT ?h); (case h => walk_at "hp")) | fail)); (case e => rfl)) | ((with_reducible show Go.cS _ (PySem.Value.builtin "isinstance") _ _ _); (with_reducible refine' Go.c_isiT (b := false) ?c ?t ?e ?_); (case c => (with_reducible assumption)); (case t => (first | exact L2.TyOf.non | exact L2.TyOf.str _ | exact L2.TyOf.int _ | exact L2.TyOf.bl _ | ((refine' L2.TyOf.lst ?h); (case h => walk_at "hp")) | ((refine' L2.TyOf.tup ?h); (case h => walk_at "hp")) | ((refine' L2.TyOf.dK ?h); (case h => walk_at "hp")) | ((refine' L2.TyOf.dT ?h); (case h => walk_at "hp")) | fail)); (case e => rfl)) | ((with_reducible refine' Go.x_lstR ?c ?hr ?hi ?hp ?_); (case c => (with_reducible assumption)); (case hr => walk_at "sql"); (case hi => walk_at "nat"); (case hp => (with_reducible assumption))) | ((with_reducible refine' Go.o_inI ?c ?hp ?_); (case c => (with_reducible assumption)); (case hp => walk_at "sql")) | ((with_reducible refine' Go.o_notInI ?c ?hp ?_); (case c => (with_reducible assumption)); (case hp => walk_at "sql")) | ((with_reducible refine' Go.x_dK ?c ?hp ?hv ?_); (case c => (with_reducible assumption)); (case hv => (with_reducible assumption)); (case hp => walk_at "hp")) | ((with_reducible refine' Go.x_dT ?c ?hp ?hb ?hv ?_); (case c => (with_reducible assumption)); (case hv => (with_reducible assumption)); (case hp => walk_at "hp"); (case hb => walk_at "hp")) | ((with_reducible refine' Go.m_indexA ?h1 ?_); (case h1 => first | (with_reducible assumption) | omega)) | with_reducible refine Go.m_count0 ?_ | with_reducible refine Go.m_countI ?_ | with_reducible refine Go.m_count1 ?_ | ((with_reducible refine' Go.m_appendC ?O ?hl (fun H' O' => ?_)); (case O => (with_reducible assumption)); (case hl => walk_at "num")) | (first | ((with_reducible refine' Go.e_andJ ?O ?h1 (fun H' G' s' O' => ?_)); (case O => (with_reducible assumption)); (case h1 => (intro hq; (try replace hq := of_decide_eq_true hq); walk_at "au"))) | ((with_reducible refine' Go.e_orJ ?O ?h1 ?eT (fun H' G' s' O' => ?_)); (case O => (with_reducible assumption)); (case eT => rfl); (case h1 => (intro hq; (try replace hq := of_decide_eq_false hq); walk_at "au"))) | ((with_reducible refine' Go.w_andJ ?O ?h1 (fun H' G' s' O' => ?_)); (case O => (with_reducible assumption)); (case h1 => (intro hq; (try replace hq := of_decide_eq_true hq); walk_at "au"))) | ((with_reducible refine' Go.w_orJ ?O ?h1 ?eT (fun H' G' s' O' => ?_)); (case O => (with_reducible assumption)); (case eT => rfl); (case h1 => (intro hq; (try replace hq := of_decide_eq_false hq); walk_at "au"))) | fail) | (first | ((with_reducible show ∀ (p : _) (H' : _), Go.New _ p (L2.HO.tup _) H' → _); intro p H' n'; obtain ⟨G', s', e', O'⟩ := Go.Own.fix (by (with_reducible assumption)) n') | ((with_reducible show ∀ (p : _) (H' : _), Go.New _ p (L2.HO.lst _) H' → _); intro p H' n'; (with_reducible show Go.eS _ _ _ _ (fun y H => Go.xS _ _ y H _)); obtain ⟨G', s', e', O'⟩ := Go.Own.fix (by (with_reducible assumption)) n') | fail) | (((refine' ⟨rfl, _, ?o, ?s⟩); (case o => (with_reducible assumption)); (case s => walk_at "sm"))) | ((with_reducible refine' Go.i_true ?h ?_); (case h => first | with_reducible rfl | omega)) | ((with_reducible refine' Go.i_false ?h ?_); (case h => first | omega | (intro hf; cases hf; done))) | fail) | walk_at "st"))
local macro_rules | `(tactic| walk_at "ay") => `(tactic| repeat (first | (first | ((with_reducible refine' Go.m_appendC ?O ?hl (fun H' O' => ?_)); (case O => walk_at "own"); (case hl => walk_at "num")) | fail) | (first | ((with_reducible refine' Go.i_trueD ?h ?_); (case h => (with_reducible assumption))) | ((with_reducible refine' Go.i_falseD ?h ?_); (case h => (with_reducible assumption))) | ((with_reducible refine' Go.i_trueD ?h ?_); (case h => first | with_reducible rfl | omega)) | ((with_reducible refine' Go.i_falseD ?h ?_); (case h => first | omega | (intro hf; cases hf; done))) | fail) | (first | ((with_reducible show Go.xS _ (L2.V.str _) _ _ _); (with_reducible refine' Go.x_strN ?hi ?hn ?hz ?_); (case hi => walk_at "nat"); (case hn => walk_at "num"); (case hz => walk_at "num")) | with_reducible refine Go.o_eqS1 ?_ | with_reducible refine Go.o_neS1 ?_ | ((with_reducible show Go.cS _ (PySem.Value.builtin "isinstance") _ _ _); (with_reducible refine' Go.c_isiT (b := true) ?c ?t ?e ?_); (case c => (with_reducible assumption)); (case t => (first | exact L2.TyOf.non | exact L2.TyOf.str _ | exact L2.TyOf.int _ | exact L2.TyOf.bl _ | ((refine' L2.TyOf.lst ?h); (case h => walk_at "hp")) | ((refine' L2.TyOf.tup ?h); (case h => walk_at "hp")) | ((refine' L2.TyOf.dK ?h); (case h => walk_at "hp")) | ((refine' L2.TyOf.dT ?h); (case h => walk_at "hp")) | fail)); (case e => rfl)) | ((with_reducible show Go.cS _ (PySem.Value.builtin "isinstance") _ _ _); (with_reducible refine' Go.c_isiT (b := false) ?c ?t ?e ?_); (case c => (with_reducible assumption)); (case t => (first | exact L2.TyOf.non | exact L2.TyOf.str _ | exact L2.TyOf.int _ | exact L2.TyOf.bl _ | ((refine' L2.TyOf.lst ?h); (case h => walk_at "hp")) | ((refine' L2.TyOf.tup ?h); (case h => walk_at "hp")) | ((refine' L2.TyOf.dK ?h); (case h => walk_at "hp")) | ((refine' L2.TyOf.dT ?h); (case h => walk_at "hp")) | fail)); (case e => rfl)) | ((with_reducible refine' Go.x_lstR ?c ?hr ?hi ?hp ?_); (case c => (with_reducible assumption)); (case hr => walk_at "sql"); (case hi => walk_at "nat"); (case hp => (with_reducible assumption))) | ((with_reducible refine' Go.o_inI ?c ?hp ?_); (case c => (with_reducible assumption)); (case hp => walk_at "sql")) | ((with_reducible refine' Go.o_notInI ?c ?hp ?_); (case c => (with_reducible assumption)); (case hp => walk_at "sql")) | ((with_reducible refine' Go.x_dK ?c ?hp ?hv ?_); (case c => (with_reducible assumption)); (case hv => (with_reducible assumption)); (case hp => walk_at "hp")) | ((with_reducible refine' Go.x_dT ?c ?hp ?hb ?hv ?_); (case c => (with_reducible assumption)); (case hv => (with_reducible assumption)); (case hp => walk_at "hp"); (case hb => walk_at "hp")) | ((with_reducible refine' Go.m_indexA ?h1 ?_); (case h1 => first | (with_reducible assumption) | omega)) | with_reducible refine Go.m_count0 ?_ | with_reducible refine Go.m_countI ?_ | with_reducible refine Go.m_count1 ?_ | ((with_reducible refine' Go.m_appendC ?O ?hl (fun H' O' => ?_)); (case O => (with_reducible assumption)); (case hl => walk_at "num")) | (first | ((with_reducible refine' Go.e_andJ ?O ?h1 (fun H' G' s' O' => ?_)); (case O => (with_reducible assumption)); (case h1 => (intro hq; (try replace hq := of_decide_eq_true hq); walk_at "au"))) | ((with_reducible refine' Go.e_orJ ?O ?h1 ?eT (fun H' G' s' O' => ?_)); (case O => (with_reducible assumption)); (case eT => rfl); (case h1 => (intro hq; (try replace hq := of_decide_eq_false hq); walk_at "au"))) | ((with_reducible refine' Go.w_andJ ?O ?h1 (fun H' G' s' O' => ?_)); (case O => (with_reducible assumption)); (case h1 => (intro hq; (try replace hq := of_decide_eq_true hq); walk_at "au"))) | ((with_reducible refine' Go.w_orJ ?O ?h1 ?eT (fun H' G' s' O' => ?_)); (case O => (with_reducible assumption)); (case eT => rfl); (case h1 => (intro hq; (try replace hq := of_decide_eq_false hq); walk_at "au"))) | fail) | (first | ((with_reducible show ∀ (p : _) (H' : _), Go.New _ p (L2.HO.tup _) H' → _); intro p H' n'; obtain ⟨G', s', e', O'⟩ := Go.Own.fix (by (with_reducible assumption)) n') | ((with_reducible show ∀ (p : _) (H' : _), Go.New _ p (L2.HO.lst _) H' → _); intro p H' n'; (with_reducible show Go.eS _ _ _ _ (fun y H => Go.xS _ _ y H _)); obtain ⟨G', s', e', O'⟩ := Go.Own.fix (by (with_reducible assumption)) n') | fail) | (((refine' ⟨rfl, _, ?o, ?s⟩); (case o => (with_reducible assumption)); (case s => walk_at "sm"))) | ((with_reducible refine' Go.i_true ?h ?_); (case h => first | with_reducible rfl | omega)) | ((with_reducible refine' Go.i_false ?h ?_); (case h => first | omega | (intro hf; cases hf; done))) | fail) | walk_at "st"))

/-! the defs of the text, by their places -/
namespace Law
open PySem PySem.Spec PyProof.Rows L2 Go
def top (i : Nat) : Stmt := PySem.Challenge.pw_wovenword_k23_first_ways_of_several.main.body.getD i (.Pass ⟨0, 0, 0, 0⟩)
abbrev st_taken_so : Stmt := top 1
def nm_taken_so : List (Str × NameKind) := [("rows", .local), ("text", .local), ("found", .local), ("letter", .local), ("further", .local), ("taken", .local), ("count", .local), ("at", .local), ("row", .local), ("more", .local), ("tuple", .globalImplicit), ("len", .globalImplicit), ("enumerate", .globalImplicit)]
theorem ne_taken_so : (defScope st_taken_so).names = nm_taken_so := rfl
theorem sc_taken_so : FnScope ["rows", "text", "found", "letter", "further", "taken", "count", "at", "row", "more"] ["rows", "text"] (defScope st_taken_so) := ⟨rfl, rfl, rfl, by decide +kernel, rfl, by decide +kernel, by decide +kernel⟩
abbrev st_way_of : Stmt := top 2
def nm_way_of : List (Str × NameKind) := [("rows", .local), ("text", .local), ("row", .local), ("layers", .local), ("left", .local), ("found", .local), ("place", .local), ("at", .local), ("fewer", .local), ("taken_so", .globalImplicit), ("tuple", .globalImplicit), ("range", .globalImplicit), ("len", .globalImplicit), ("enumerate", .globalImplicit)]
theorem ne_way_of : (defScope st_way_of).names = nm_way_of := rfl
theorem sc_way_of : FnScope ["rows", "text", "layers", "left", "found", "place", "at", "row", "fewer"] ["rows", "text"] (defScope st_way_of) := ⟨rfl, rfl, rfl, by decide +kernel, rfl, by decide +kernel, by decide +kernel⟩
abbrev st_law_hand : Stmt := top 4
def nm_law_hand : List (Str × NameKind) := [("cell", .local), ("k", .local), ("digits", .local)]
theorem ne_law_hand : (defScope st_law_hand).names = nm_law_hand := rfl
theorem sc_law_hand : FnScope ["cell", "k", "digits"] ["cell", "k"] (defScope st_law_hand) := ⟨rfl, rfl, rfl, by decide +kernel, rfl, by decide +kernel, by decide +kernel⟩
abbrev st_law_draw : Stmt := top 5
def nm_law_draw : List (Str × NameKind) := [("hand", .local), ("limit", .local), ("got", .local)]
theorem ne_law_draw : (defScope st_law_draw).names = nm_law_draw := rfl
theorem sc_law_draw : FnScope ["hand", "limit", "got"] ["hand", "limit"] (defScope st_law_draw) := ⟨rfl, rfl, rfl, by decide +kernel, rfl, by decide +kernel, by decide +kernel⟩
abbrev st_law_cells : Stmt := top 6
def nm_law_cells : List (Str × NameKind) := [("script", .local), ("many", .local), ("list", .globalImplicit), ("enumerate", .globalImplicit), ("int", .globalImplicit)]
theorem ne_law_cells : (defScope st_law_cells).names = nm_law_cells := rfl
theorem sc_law_cells : FnScope ["script", "many"] ["script", "many"] (defScope st_law_cells) := ⟨rfl, rfl, rfl, by decide +kernel, rfl, by decide +kernel, by decide +kernel⟩
abbrev st_law_pool : Stmt := top 7
def nm_law_pool : List (Str × NameKind) := [("hand", .local), ("small", .cell), ("many", .local), ("first", .cell), ("step", .cell), ("_law_draw", .globalImplicit), ("range", .globalImplicit)]
theorem ne_law_pool : (defScope st_law_pool).names = nm_law_pool := rfl
theorem sc_law_pool : FnScope ["hand", "small", "many", "first", "step", "k"] ["hand"] (defScope st_law_pool) := ⟨rfl, rfl, rfl, by decide +kernel, rfl, by decide +kernel, by decide +kernel⟩
abbrev st_law_row : Stmt := top 8
def nm_law_row : List (Str × NameKind) := [("hand", .cell), ("pool", .cell), ("many", .local), ("way", .local), ("piece", .cell), ("found", .local), ("turn", .local), ("_law_draw", .globalImplicit), ("range", .globalImplicit), ("int", .globalImplicit), ("len", .globalImplicit)]
theorem ne_law_row : (defScope st_law_row).names = nm_law_row := rfl
theorem sc_law_row : FnScope ["hand", "pool", "many", "way", "piece", "found", "turn", "k"] ["hand", "pool", "many"] (defScope st_law_row) := ⟨rfl, rfl, rfl, by decide +kernel, rfl, by decide +kernel, by decide +kernel⟩
abbrev st_law_rows : Stmt := top 9
def nm_law_rows : List (Str × NameKind) := [("hand", .local), ("k", .local), ("pool", .local), ("great", .local), ("found", .local), ("at", .local), ("row", .local), ("_law_pool", .globalImplicit), ("int", .globalImplicit), ("_law_draw", .globalImplicit), ("range", .globalImplicit), ("_law_row", .globalImplicit), ("len", .globalImplicit)]
theorem ne_law_rows : (defScope st_law_rows).names = nm_law_rows := rfl
theorem sc_law_rows : FnScope ["hand", "k", "pool", "great", "found", "at", "row"] ["hand", "k"] (defScope st_law_rows) := ⟨rfl, rfl, rfl, by decide +kernel, rfl, by decide +kernel, by decide +kernel⟩
abbrev st_law_text : Stmt := top 10
def nm_law_text : List (Str × NameKind) := [("hand", .local), ("rows", .local), ("left", .cell), ("text", .local), ("at", .local), ("some", .local), ("way", .local), ("letter", .local), ("spoilt", .local), ("list", .globalImplicit), ("range", .globalImplicit), ("len", .globalImplicit), ("_law_draw", .globalImplicit)]
theorem ne_law_text : (defScope st_law_text).names = nm_law_text := rfl
theorem sc_law_text : FnScope ["hand", "rows", "left", "text", "some", "at", "way", "letter", "spoilt"] ["hand", "rows"] (defScope st_law_text) := ⟨rfl, rfl, rfl, by decide +kernel, rfl, by decide +kernel, by decide +kernel⟩
abbrev st_law_layers : Stmt := top 11
def nm_law_layers : List (Str × NameKind) := [("rows", .local), ("text", .local), ("found", .local), ("place", .local), ("here", .local), ("left", .local), ("at", .local), ("row", .local), ("more", .local), ("tuple", .globalImplicit), ("len", .globalImplicit), ("range", .globalImplicit), ("enumerate", .globalImplicit), ("list", .globalImplicit)]
theorem ne_law_layers : (defScope st_law_layers).names = nm_law_layers := rfl
theorem sc_law_layers : FnScope ["rows", "text", "found", "place", "here", "left", "at", "row", "more"] ["rows", "text"] (defScope st_law_layers) := ⟨rfl, rfl, rfl, by decide +kernel, rfl, by decide +kernel, by decide +kernel⟩
abbrev st_law_due : Stmt := top 12
def nm_law_due : List (Str × NameKind) := [("rows", .local), ("text", .local), ("layers", .local), ("left", .local), ("found", .local), ("place", .local), ("letter", .local), ("best", .local), ("at", .local), ("fewer", .local), ("here", .local), ("_law_layers", .globalImplicit), ("tuple", .globalImplicit), ("enumerate", .globalImplicit), ("range", .globalImplicit), ("len", .globalImplicit)]
theorem ne_law_due : (defScope st_law_due).names = nm_law_due := rfl
theorem sc_law_due : FnScope ["rows", "text", "layers", "left", "found", "place", "letter", "best", "at", "fewer", "here", "row"] ["rows", "text"] (defScope st_law_due) := ⟨rfl, rfl, rfl, by decide +kernel, rfl, by decide +kernel, by decide +kernel⟩
abbrev st_law_right : Stmt := top 13
def nm_law_right : List (Str × NameKind) := [("rows", .local), ("text", .local), ("held", .local), ("due", .local), ("handed", .local), ("found", .local), ("_law_due", .globalImplicit), ("list", .globalImplicit), ("way_of", .globalImplicit), ("isinstance", .globalImplicit)]
theorem ne_law_right : (defScope st_law_right).names = nm_law_right := rfl
theorem sc_law_right : FnScope ["rows", "text", "held", "due", "handed", "found", "one"] ["rows", "text", "held"] (defScope st_law_right) := ⟨rfl, rfl, rfl, by decide +kernel, rfl, by decide +kernel, by decide +kernel⟩
abbrev st_law : Stmt := top 14
def nm_law : List (Str × NameKind) := [("script", .local), ("held", .local), ("k", .local), ("cell", .local), ("hand", .local), ("rows", .local), ("turn", .local), ("_law_cells", .globalImplicit), ("_law_hand", .globalImplicit), ("_law_rows", .globalImplicit), ("range", .globalImplicit), ("_law_right", .globalImplicit), ("_law_text", .globalImplicit), ("way_of", .globalImplicit)]
theorem ne_law : (defScope st_law).names = nm_law := rfl
theorem sc_law : FnScope ["script", "held", "k", "cell", "hand", "rows", "turn", "one"] ["script"] (defScope st_law) := ⟨rfl, rfl, rfl, by decide +kernel, rfl, by decide +kernel, by decide +kernel⟩
structure Env (K : PySem.W.Frag) (mg : Str → Option Value) : Prop where
  d_taken_so : Df K mg "taken_so" st_taken_so ["rows", "text"]
  d_way_of : Df K mg "way_of" st_way_of ["rows", "text"]
  d_law_hand : Df K mg "_law_hand" st_law_hand ["cell", "k"]
  d_law_draw : Df K mg "_law_draw" st_law_draw ["hand", "limit"]
  d_law_cells : Df K mg "_law_cells" st_law_cells ["script", "many"]
  d_law_pool : Df K mg "_law_pool" st_law_pool ["hand"]
  d_law_row : Df K mg "_law_row" st_law_row ["hand", "pool", "many"]
  d_law_rows : Df K mg "_law_rows" st_law_rows ["hand", "k"]
  d_law_text : Df K mg "_law_text" st_law_text ["hand", "rows"]
  d_law_layers : Df K mg "_law_layers" st_law_layers ["rows", "text"]
  d_law_due : Df K mg "_law_due" st_law_due ["rows", "text"]
  d_law_right : Df K mg "_law_right" st_law_right ["rows", "text", "held"]
  d_law : Df K mg "law" st_law ["script"]
  b_bool : mg "bool" = none
  b_enumerate : mg "enumerate" = none
  b_int : mg "int" = none
  b_isinstance : mg "isinstance" = none
  b_len : mg "len" = none
  b_list : mg "list" = none
  b_range : mg "range" = none
  b_tuple : mg "tuple" = none
/-! an ok_ theorem by way of a discharger: what its steps leave behind is dropped at its end (memory) -/
theorem fn_ok {P : Program} {w : World} {K : PySem.W.Frag} {mg : Str → Option Value} {base : Heap} {CX k f fd xs} {sp} (fnOkProof : FnOk P w K mg base CX k f fd xs sp) : FnOk P w K mg base CX k f fd xs sp = True := eq_true fnOkProof
end Law

namespace Law
open PySem PySem.Spec PyProof.Rows L2 Go
/-! texts woven of several rows -/
/-- the sum of what each row gives -/
def sumR (n : Nat) (f : Nat → Nat) : Nat := ((List.range n).map f).sum
theorem sumR_succ (n : Nat) (f : Nat → Nat) : sumR (n + 1) f = sumR n f + f n := by
  unfold sumR
  rw [List.range_succ, List.map_append, List.sum_append]; simp
theorem sumR_congr {f g : Nat → Nat} : ∀ {n : Nat}, (∀ i, i < n → f i = g i) → sumR n f = sumR n g
  | 0, _ => rfl
  | n + 1, h => by rw [sumR_succ, sumR_succ, sumR_congr fun i hi => h i (by omega), h n (by omega)]
theorem sumR_zero : ∀ n : Nat, sumR n (fun _ => 0) = 0
  | 0 => rfl
  | n + 1 => by rw [sumR_succ, sumR_zero n]
theorem sumR_add (f g : Nat → Nat) : ∀ n : Nat, sumR n (fun i => f i + g i) = sumR n f + sumR n g
  | 0 => rfl
  | n + 1 => by rw [sumR_succ, sumR_succ, sumR_succ, sumR_add f g n]; omega
theorem sumR_swap (f : Nat → Nat → Nat) (m : Nat) : ∀ n : Nat, sumR n (fun i => sumR m (f i)) = sumR m (fun j => sumR n fun i => f i j)
  | 0 => by rw [show (fun j => sumR 0 fun i => f i j) = fun _ => 0 from rfl, sumR_zero]; rfl
  | n + 1 => by
    rw [sumR_succ, sumR_swap f m n, ← sumR_add]
    exact sumR_congr fun j _ => (sumR_succ n fun i => f i j).symm
theorem sumR_if (c : Prop) [Decidable c] (n : Nat) (f : Nat → Nat) : (if c then sumR n f else 0) = sumR n fun j => if c then f j else 0 := by
  by_cases h : c
  · rw [if_pos h]; exact sumR_congr fun j _ => (if_pos h).symm
  · rw [if_neg h, show (fun j => if c then f j else 0) = fun _ => 0 from funext fun j => if_neg h, sumR_zero]
/-- the i-th row -/
def rw' (rows : List (List Nat)) (i : Nat) : List Nat := rows.getD i []
theorem rw_set (rows : List (List Nat)) (i j : Nat) (r : List Nat) (hi : i < rows.length) : rw' (rows.set i r) j = if j = i then r else rw' rows j := by
  unfold rw'
  rw [List.getD_eq_getElem?_getD, List.getD_eq_getElem?_getD, List.getElem?_set]
  by_cases e : i = j
  · subst e; rw [if_pos rfl, if_pos hi, if_pos rfl]; rfl
  · rw [if_neg e, if_neg (fun z => e z.symm)]
/-- how many ways weave the text of the rows, letter by letter -/
def wavN : List Nat → List (List Nat) → Nat
  | [], rows => if (∀ i, i < rows.length → rw' rows i = []) then 1 else 0
  | c :: t, rows => sumR rows.length fun i => if (rw' rows i).head? = some c then wavN t (rows.set i (rw' rows i).tail) else 0
theorem wavN_last : ∀ (t : List Nat) (c : Nat) (rows : List (List Nat)), wavN (t ++ [c]) rows = sumR rows.length fun i => if (rw' rows i).getLast? = some c then wavN t (rows.set i (rw' rows i).dropLast) else 0
  | [], c, rows => by
    rw [List.nil_append, wavN]
    refine sumR_congr fun i hi => ?_
    unfold wavN
    generalize hr : rw' rows i = r
    match r, hr with
    | [], _ => rfl
    | [x], _ => rfl
    | x :: y :: r, _ => 
      have h1 : ¬ ∀ k, k < (rows.set i (x :: y :: r).tail).length → rw' (rows.set i (x :: y :: r).tail) k = [] := fun h => by
        have := h i (by rw [List.length_set]; exact hi)
        rw [rw_set _ _ _ _ hi, if_pos rfl] at this
        cases this
      have h2 : ¬ ∀ k, k < (rows.set i (x :: y :: r).dropLast).length → rw' (rows.set i (x :: y :: r).dropLast) k = [] := fun h => by
        have := h i (by rw [List.length_set]; exact hi)
        rw [rw_set _ _ _ _ hi, if_pos rfl] at this
        cases this
      rw [if_neg h1, if_neg h2]
      simp
  | a :: t, c, rows => by
    rw [List.cons_append, wavN]
    have e1 : (fun i => if (rw' rows i).head? = some a then wavN (t ++ [c]) (rows.set i (rw' rows i).tail) else 0) = fun i => sumR rows.length fun j => if (rw' rows i).head? = some a then (if (rw' (rows.set i (rw' rows i).tail) j).getLast? = some c then wavN t ((rows.set i (rw' rows i).tail).set j (rw' (rows.set i (rw' rows i).tail) j).dropLast) else 0) else 0 := funext fun i => by
      rw [wavN_last t c, List.length_set, sumR_if]
    have e2 : (fun j => if (rw' rows j).getLast? = some c then wavN (a :: t) (rows.set j (rw' rows j).dropLast) else 0) = fun j => sumR rows.length fun i => if (rw' rows j).getLast? = some c then (if (rw' (rows.set j (rw' rows j).dropLast) i).head? = some a then wavN t ((rows.set j (rw' rows j).dropLast).set i (rw' (rows.set j (rw' rows j).dropLast) i).tail) else 0) else 0 := funext fun j => by
      rw [wavN, List.length_set, sumR_if]
    rw [e1, e2, sumR_swap]
    refine sumR_congr fun j hj => sumR_congr fun i hi => ?_
    rw [rw_set _ _ _ _ hi, rw_set _ _ _ _ hj]
    by_cases e : j = i
    · subst e
      rw [if_pos rfl, if_pos rfl, List.set_set, List.set_set]
      generalize rw' rows j = r
      match r with
      | [] => rfl
      | [x] => simp
      | x :: y :: r =>
        rw [List.tail_cons, show (x :: y :: r).dropLast = x :: (y :: r).dropLast from rfl, List.tail_cons, List.head?_cons, List.head?_cons, List.getLast?_cons_cons]
        by_cases q1 : some x = some a <;> by_cases q2 : (y :: r).getLast? = some c <;> simp only [q1, q2, if_true, if_false]
    · have e' : ¬ i = j := fun z => e z.symm
      simp only [e, e', if_false]
      rw [List.set_comm _ _ e']
      by_cases q1 : (rw' rows i).head? = some a <;> by_cases q2 : (rw' rows j).getLast? = some c <;> simp only [q1, q2, if_true, if_false]
theorem rw_map {rows : List (List Nat)} (i : Nat) (f : List Nat → List Nat) (h0 : f [] = []) : rw' (rows.map f) i = f (rw' rows i) := by
  unfold rw'
  rw [List.getD_eq_getElem?_getD, List.getD_eq_getElem?_getD, List.getElem?_map]
  cases rows[i]? with
  | none => exact h0.symm
  | some r => rfl
/-- turned round as many -/
theorem wavN_rev : ∀ (t : List Nat) (rows : List (List Nat)), wavN t.reverse (rows.map List.reverse) = wavN t rows
  | [], rows => by
    rw [List.reverse_nil, wavN, wavN, List.length_map]
    have e : (∀ i, i < rows.length → rw' (rows.map List.reverse) i = []) ↔ ∀ i, i < rows.length → rw' rows i = [] := by
      constructor
      · intro h i hi
        have := h i hi
        rw [rw_map i List.reverse rfl] at this
        exact List.reverse_eq_nil_iff.mp this
      · intro h i hi
        rw [rw_map i List.reverse rfl, h i hi]; rfl
    by_cases q : ∀ i, i < rows.length → rw' rows i = []
    · rw [if_pos q, if_pos (e.mpr q)]
    · rw [if_neg q, if_neg fun z => q (e.mp z)]
  | a :: t, rows => by
    rw [List.reverse_cons, wavN_last, wavN, List.length_map]
    refine sumR_congr fun i hi => ?_
    rw [rw_map i List.reverse rfl, List.getLast?_reverse]
    by_cases q : (rw' rows i).head? = some a
    · rw [if_pos q, if_pos q, List.dropLast_reverse, ← List.map_set, wavN_rev t]
    · rw [if_neg q, if_neg q]
/-- of the first m letters, so many taken of each row -/
def headsR (rows : List (List Nat)) (v : List Nat) : List (List Nat) := (List.range rows.length).map fun i => ((rw' rows i).take (v.getD i 0)).reverse
def wavM (rows : List (List Nat)) (t : List Nat) (m : Nat) (v : List Nat) : Nat := wavN (t.take m).reverse (headsR rows v)
theorem rw_heads {rows : List (List Nat)} {v : List Nat} {i : Nat} (hi : i < rows.length) : rw' (headsR rows v) i = ((rw' rows i).take (v.getD i 0)).reverse := by
  unfold headsR
  rw [show ∀ l, rw' l i = l.getD i [] from fun _ => rfl, List.getD_eq_getElem?_getD, List.getElem?_map, List.getElem?_range hi]; rfl
theorem heads_len (rows : List (List Nat)) (v : List Nat) : (headsR rows v).length = rows.length := by simp [headsR]
theorem heads_set {rows : List (List Nat)} {v : List Nat} {i k : Nat} (hi : i < rows.length) (hv : v.length = rows.length) : headsR rows (v.set i k) = (headsR rows v).set i ((rw' rows i).take k).reverse := by
  apply List.ext_getElem?
  intro j
  unfold headsR
  rw [List.getElem?_set, List.getElem?_map, List.getElem?_map, List.length_map, List.length_range]
  by_cases e : i = j
  · subst e
    rw [if_pos rfl, if_pos hi, List.getElem?_range hi]
    show some (((rw' rows i).take ((v.set i k).getD i 0)).reverse) = some _
    rw [List.getD_eq_getElem?_getD, List.getElem?_set, if_pos rfl, if_pos (by omega)]; rfl
  · rw [if_neg e]
    cases hr : (List.range rows.length)[j]? with
    | none => rfl
    | some x =>
      have : x = j := by
        have := List.getElem?_eq_some_iff.mp hr
        obtain ⟨_, h⟩ := this
        rw [List.getElem_range] at h
        exact h.symm
      subst this
      show some (((rw' rows x).take ((v.set i k).getD x 0)).reverse) = some (((rw' rows x).take (v.getD x 0)).reverse)
      rw [List.getD_eq_getElem?_getD, List.getElem?_set, if_neg e, ← List.getD_eq_getElem?_getD]
/-- by the last letter -/
theorem wavM_succ {rows : List (List Nat)} {t v : List Nat} {m : Nat} (hm : m < t.length) (hv : v.length = rows.length) (hl : ∀ i, i < rows.length → v.getD i 0 ≤ (rw' rows i).length) :
    wavM rows t (m + 1) v = sumR rows.length fun i => if 0 < v.getD i 0 ∧ (rw' rows i).getD (v.getD i 0 - 1) 0 = t.getD m 0 then wavM rows t m (v.set i (v.getD i 0 - 1)) else 0 := by
  have ht : (t.take (m + 1)).reverse = t.getD m 0 :: (t.take m).reverse := by
    rw [List.take_succ, List.reverse_append, List.getD_eq_getElem?_getD, List.getElem?_eq_getElem hm]; rfl
  unfold wavM
  rw [ht, wavN, heads_len]
  refine sumR_congr fun i hi => ?_
  rw [rw_heads hi, heads_set hi hv]
  have hli := hl i hi
  cases hk : v.getD i 0 with
  | zero => rw [List.take_zero, List.reverse_nil]; simp
  | succ k =>
    have hr : ((rw' rows i).take (k + 1)).reverse = (rw' rows i).getD k 0 :: ((rw' rows i).take k).reverse := by
      rw [List.take_succ, List.reverse_append, List.getD_eq_getElem?_getD, List.getElem?_eq_getElem (show k < (rw' rows i).length by omega)]; rfl
    rw [hr, List.head?_cons, List.tail_cons, Nat.add_sub_cancel]
    by_cases q : (rw' rows i).getD k 0 = t.getD m 0
    · rw [if_pos (by rw [q]), if_pos ⟨by omega, q⟩]
    · rw [if_neg (fun z => q (Option.some.inj z)), if_neg fun z => q z.2]

end Law

namespace Law
open PySem PySem.Spec PyProof.Rows L2 Go
/-- at how many places two texts are unlike -/
def wrongZ (l : List (Nat × Nat)) : Nat := (l.filter fun p => !decide (p.1 = p.2)).length
def wrongN (a b : List Nat) : Nat := wrongZ (a.zip b)
theorem zip_get2 {a b : List Nat} {m x y : Nat} (h1 : a[m]? = some x) (h2 : b[m]? = some y) : (a.zip b)[m]? = some (x, y) := by
  rw [List.getElem?_zip_eq_some]; exact ⟨h1, h2⟩
theorem wrongZ_app (l : List (Nat × Nat)) (p : Nat × Nat) : wrongZ (l ++ [p]) = wrongZ l + (if p.1 = p.2 then 0 else 1) := by
  unfold wrongZ
  rw [List.filter_append, List.length_append]
  by_cases e : p.1 = p.2
  · simp [e]
  · simp [e]
theorem wrongZ_take {l : List (Nat × Nat)} {m x y : Nat} (h : l[m]? = some (x, y)) : wrongZ (l.take (m + 1)) = wrongZ (l.take m) + (if x = y then 0 else 1) := by
  rw [List.take_add_one, h]
  exact wrongZ_app _ _
theorem wrongN_nil (b : List Nat) : wrongN [] b = 0 := rfl
theorem wrongN_nil2 (a : List Nat) : wrongN a [] = 0 := by unfold wrongN; rw [List.zip_nil_right]; rfl
theorem wrongN_cons (x y : Nat) (a b : List Nat) : wrongN (x :: a) (y :: b) = (if x = y then 0 else 1) + wrongN a b := by
  unfold wrongN wrongZ
  rw [List.zip_cons_cons, List.filter_cons]
  by_cases e : x = y
  · simp [e]
  · simp [e]; omega
theorem wrongN_comm : ∀ a b : List Nat, wrongN a b = wrongN b a
  | [], b => by rw [wrongN_nil, wrongN_nil2]
  | _ :: _, [] => by rw [wrongN_nil, wrongN_nil2]
  | x :: a, y :: b => by
    rw [wrongN_cons, wrongN_cons, wrongN_comm a b]
    by_cases e : x = y
    · rw [if_pos e, if_pos e.symm]
    · rw [if_neg e, if_neg (fun q => e q.symm)]
theorem wrongN_self : ∀ a : List Nat, wrongN a a = 0
  | [] => rfl
  | x :: a => by rw [wrongN_cons, if_pos rfl, wrongN_self a]

end Law

namespace Law
open PySem PySem.Spec PyProof.Rows L2 Go
--# math wrong
/-- 1 of a wrong letter -/
def wr (a c : Nat) : Nat := if a = c then 0 else 1
/-- the fewest wrong letters of any way -/
def few : List Nat → List Nat → List Nat → Nat
  | _, _, [] => 0
  | a :: y, b :: z, c :: t => min (few y (b :: z) t + wr a c) (few (a :: y) z t + wr b c)
  | a :: y, [], c :: t => few y [] t + wr a c
  | [], b :: z, c :: t => few [] z t + wr b c
  | [], [], _ :: _ => 0
/-- the less of two pairs, a number and a text -/
def mnP (a b : Int × List Nat) : Int × List Nat := if b.1 < a.1 ∨ (b.1 = a.1 ∧ b.2 < a.2) then b else a
/-- .. with the first way that has so few -/
def best : List Nat → List Nat → List Nat → Int × List Nat
  | _, _, [] => (0, [])
  | a :: y, b :: z, c :: t => mnP ((best y (b :: z) t).1 + wr a c, 48 :: (best y (b :: z) t).2) ((best (a :: y) z t).1 + wr b c, 49 :: (best (a :: y) z t).2)
  | a :: y, [], c :: t => ((best y [] t).1 + wr a c, 48 :: (best y [] t).2)
  | [], b :: z, c :: t => ((best [] z t).1 + wr b c, 49 :: (best [] z t).2)
  | [], [], _ :: _ => (0, [])
/-- by the table: a 0 wherever the rest has so few then -/
def fewW : List Nat → List Nat → List Nat → List Nat
  | _, _, [] => []
  | a :: y, b :: z, c :: t => if few y (b :: z) t + wr a c = few (a :: y) (b :: z) (c :: t) then 48 :: fewW y (b :: z) t else 49 :: fewW (a :: y) z t
  | a :: y, [], _ :: t => 48 :: fewW y [] t
  | [], b :: z, _ :: t => 49 :: fewW [] z t
  | [], [], _ :: _ => []
theorem best_eq : ∀ (t y z : List Nat), best y z t = (((few y z t : Nat) : Int), fewW y z t)
  | [], y, z => by unfold best few fewW; rfl
  | c :: t, a :: y, b :: z => by
    rw [best, best_eq t y (b :: z), best_eq t (a :: y) z, fewW, few]
    have hm := Nat.min_le_left (few y (b :: z) t + wr a c) (few (a :: y) z t + wr b c)
    have hm2 := Nat.min_le_right (few y (b :: z) t + wr a c) (few (a :: y) z t + wr b c)
    unfold mnP
    by_cases h : few (a :: y) z t + wr b c < few y (b :: z) t + wr a c
    · rw [if_pos (Or.inl (by show ((few (a :: y) z t : Nat) : Int) + (wr b c : Nat) < ((few y (b :: z) t : Nat) : Int) + (wr a c : Nat); omega)), if_neg (by omega)]
      simp only [Prod.mk.injEq, and_true]
      omega
    · rw [if_neg, if_pos (by omega)]
      · simp only [Prod.mk.injEq, and_true]
        omega
      · rintro (k | ⟨_, k⟩)
        · have k : ((few (a :: y) z t : Nat) : Int) + (wr b c : Nat) < ((few y (b :: z) t : Nat) : Int) + (wr a c : Nat) := k
          omega
        · rw [List.cons_lt_cons_iff] at k
          omega
  | c :: t, a :: y, [] => by rw [best, best_eq t y [], fewW, few]; simp
  | c :: t, [], b :: z => by rw [best, best_eq t [] z, fewW, few]; simp
  | _ :: _, [], [] => by unfold best few fewW; rfl
def fewT (y z t : List Nat) (i j : Nat) : Nat := few (y.drop i) (z.drop j) (t.drop (i + j))
def bestT (y z t : List Nat) (i j : Nat) : Int × List Nat := best (y.drop i) (z.drop j) (t.drop (i + j))
def fewWT (y z t : List Nat) (i j : Nat) : List Nat := fewW (y.drop i) (z.drop j) (t.drop (i + j))
section
variable {y z t : List Nat} {i j : Nat}
theorem drop_gd {z : List Nat} {j : Nat} (h : j < z.length) : z.drop j = z.getD j 0 :: z.drop (j + 1) := by
  rw [List.drop_eq_getElem_cons h, List.getD_eq_getElem?_getD, List.getElem?_eq_getElem h]; rfl
theorem fewT_both (h : t.length = y.length + z.length) (hi : i < y.length) (hj : j < z.length) : fewT y z t i j = min (fewT y z t (i + 1) j + wr (y.getD i 0) (t.getD (i + j) 0)) (fewT y z t i (j + 1) + wr (z.getD j 0) (t.getD (i + j) 0)) := by
  unfold fewT
  rw [drop_gd hi, drop_gd hj, drop_gd (z := t) (j := i + j) (by omega), few, ← drop_gd hi, ← drop_gd hj, show i + 1 + j = i + j + 1 by omega, show i + (j + 1) = i + j + 1 by omega]
theorem fewT_one (h : t.length = y.length + z.length) (hi : i < y.length) (hj : j = z.length) : fewT y z t i j = fewT y z t (i + 1) j + wr (y.getD i 0) (t.getD (i + j) 0) := by
  subst hj
  unfold fewT
  rw [drop_gd hi, List.drop_length, drop_gd (z := t) (j := i + z.length) (by omega), few, show i + 1 + z.length = i + z.length + 1 by omega]
theorem fewT_two (h : t.length = y.length + z.length) (hi : i = y.length) (hj : j < z.length) : fewT y z t i j = fewT y z t i (j + 1) + wr (z.getD j 0) (t.getD (i + j) 0) := by
  subst hi
  unfold fewT
  rw [drop_gd hj, List.drop_length, drop_gd (z := t) (j := y.length + j) (by omega), few, show y.length + (j + 1) = y.length + j + 1 by omega]
theorem fewT_end (h : t.length = y.length + z.length) (hi : i = y.length) (hj : j = z.length) : fewT y z t i j = 0 := by
  subst hi hj
  unfold fewT
  rw [show t.drop (y.length + z.length) = [] by rw [← h]; exact List.drop_length]
  unfold few; rfl
theorem bestT_both (h : t.length = y.length + z.length) (hi : i < y.length) (hj : j < z.length) : bestT y z t i j = mnP ((bestT y z t (i + 1) j).1 + wr (y.getD i 0) (t.getD (i + j) 0), 48 :: (bestT y z t (i + 1) j).2) ((bestT y z t i (j + 1)).1 + wr (z.getD j 0) (t.getD (i + j) 0), 49 :: (bestT y z t i (j + 1)).2) := by
  unfold bestT
  rw [drop_gd hi, drop_gd hj, drop_gd (z := t) (j := i + j) (by omega), best, ← drop_gd hi, ← drop_gd hj, show i + 1 + j = i + j + 1 by omega, show i + (j + 1) = i + j + 1 by omega]
theorem bestT_one (h : t.length = y.length + z.length) (hi : i < y.length) (hj : j = z.length) : bestT y z t i j = ((bestT y z t (i + 1) j).1 + wr (y.getD i 0) (t.getD (i + j) 0), 48 :: (bestT y z t (i + 1) j).2) := by
  subst hj
  unfold bestT
  rw [drop_gd hi, List.drop_length, drop_gd (z := t) (j := i + z.length) (by omega), best, show i + 1 + z.length = i + z.length + 1 by omega]
theorem bestT_two (h : t.length = y.length + z.length) (hi : i = y.length) (hj : j < z.length) : bestT y z t i j = ((bestT y z t i (j + 1)).1 + wr (z.getD j 0) (t.getD (i + j) 0), 49 :: (bestT y z t i (j + 1)).2) := by
  subst hi
  unfold bestT
  rw [drop_gd hj, List.drop_length, drop_gd (z := t) (j := y.length + j) (by omega), best, show y.length + (j + 1) = y.length + j + 1 by omega]
theorem bestT_end (h : t.length = y.length + z.length) (hi : i = y.length) (hj : j = z.length) : bestT y z t i j = (0, []) := by
  subst hi hj
  unfold bestT
  rw [show t.drop (y.length + z.length) = [] by rw [← h]; exact List.drop_length]
  unfold best; rfl
theorem fewWT_both (h : t.length = y.length + z.length) (hi : i < y.length) (hj : j < z.length) : fewWT y z t i j = if fewT y z t (i + 1) j + wr (y.getD i 0) (t.getD (i + j) 0) = fewT y z t i j then 48 :: fewWT y z t (i + 1) j else 49 :: fewWT y z t i (j + 1) := by
  unfold fewWT fewT
  rw [drop_gd hi, drop_gd hj, drop_gd (z := t) (j := i + j) (by omega), fewW, ← drop_gd hi, ← drop_gd hj, show i + 1 + j = i + j + 1 by omega, show i + (j + 1) = i + j + 1 by omega]
theorem fewWT_one (h : t.length = y.length + z.length) (hi : i < y.length) (hj : j = z.length) : fewWT y z t i j = 48 :: fewWT y z t (i + 1) j := by
  subst hj
  unfold fewWT
  rw [drop_gd hi, List.drop_length, drop_gd (z := t) (j := i + z.length) (by omega), fewW, show i + 1 + z.length = i + z.length + 1 by omega]
theorem fewWT_two (h : t.length = y.length + z.length) (hi : i = y.length) (hj : j < z.length) : fewWT y z t i j = 49 :: fewWT y z t i (j + 1) := by
  subst hi
  unfold fewWT
  rw [drop_gd hj, List.drop_length, drop_gd (z := t) (j := y.length + j) (by omega), fewW, show y.length + (j + 1) = y.length + j + 1 by omega]
theorem fewWT_end (hk : t.length ≤ i + j) : fewWT y z t i j = [] := by
  unfold fewWT
  rw [List.drop_eq_nil_of_le hk]
  unfold fewW; rfl
end
theorem few_le : ∀ (t y z : List Nat), few y z t ≤ t.length
  | [], y, z => by unfold few; exact Nat.le_refl _
  | c :: t, a :: y, b :: z => by
    have h1 := few_le t y (b :: z)
    have : wr a c ≤ 1 := by unfold wr; split <;> omega
    rw [few, List.length_cons]; omega
  | c :: t, a :: y, [] => by
    have h1 := few_le t y []
    have : wr a c ≤ 1 := by unfold wr; split <;> omega
    rw [few, List.length_cons]; omega
  | c :: t, [], b :: z => by
    have h1 := few_le t [] z
    have : wr b c ≤ 1 := by unfold wr; split <;> omega
    rw [few, List.length_cons]; omega
  | _ :: _, [], [] => by unfold few; omega
theorem fewW_len : ∀ (t y z : List Nat), (fewW y z t).length ≤ t.length
  | [], y, z => by unfold fewW; exact Nat.le_refl _
  | c :: t, a :: y, b :: z => by
    rw [fewW]; split
    · have := fewW_len t y (b :: z); simp; omega
    · have := fewW_len t (a :: y) z; simp; omega
  | c :: t, a :: y, [] => by have := fewW_len t y []; rw [fewW]; simp; omega
  | c :: t, [], b :: z => by have := fewW_len t [] z; rw [fewW]; simp; omega
  | _ :: _, [], [] => by unfold fewW; simp
theorem int_wr (a c : Nat) : (if (!decide (a = c)) = true then (1 : Int) else 0) = (wr a c : Nat) := by
  unfold wr
  by_cases e : a = c
  · rw [if_pos e, decide_eq_true e]; rfl
  · rw [if_neg e, decide_eq_false e]; rfl

end Law

namespace Law
open PySem PySem.Spec PyProof.Rows L2 Go
--# math few
/-- counts as values -/
def cnV (k : Nat) : V := .int (k : Nat)
/-- so many more -/
def sh (w : Nat) (f : Nat → Nat) (k : Nat) : Nat := if k < w then 0 else f (k - w)
/-- of m letters, i of the first row, in how many ways are k wrong -/
def wcm (y z t : List Nat) : Nat → Nat → Nat → Nat
  | 0, i, k => if i = 0 ∧ k = 0 then 1 else 0
  | m + 1, i, k => (if 0 < i then sh (wr (y.getD (i - 1) 0) (t.getD m 0)) (wcm y z t m (i - 1)) k else 0) + (if i ≤ m then sh (wr (z.getD (m - i) 0) (t.getD m 0)) (wcm y z t m i) k else 0)
theorem wr_le (a c : Nat) : wr a c ≤ 1 := by unfold wr; split <;> omega
theorem wcm_zero (y z t : List Nat) : ∀ (m i k : Nat), m < k → wcm y z t m i k = 0
  | 0, i, k, h => by unfold wcm; rw [if_neg (by omega)]
  | m + 1, i, k, h => by
    have h1 := wr_le (y.getD (i - 1) 0) (t.getD m 0)
    have h2 := wr_le (z.getD (m - i) 0) (t.getD m 0)
    unfold wcm sh
    rw [if_neg (show ¬ k < wr (y.getD (i - 1) 0) (t.getD m 0) by omega), if_neg (show ¬ k < wr (z.getD (m - i) 0) (t.getD m 0) by omega), wcm_zero y z t m _ _ (by omega), wcm_zero y z t m _ _ (by omega)]
    simp
/-- a list of counts -/
def CtsL (cs : List Nat) (f : Nat → Nat) : Prop := ∀ k, cs.getD k 0 = f k
theorem getD_app (a b : List Nat) (k : Nat) : (a ++ b).getD k 0 = if k < a.length then a.getD k 0 else b.getD (k - a.length) 0 := by
  rw [List.getD_eq_getElem?_getD, List.getElem?_append]
  split
  · rw [List.getD_eq_getElem?_getD]
  · rw [List.getD_eq_getElem?_getD]
theorem getD_rep0 (n k : Nat) : (List.replicate n 0).getD k 0 = 0 := by
  rw [List.getD_eq_getElem?_getD, List.getElem?_replicate]
  split <;> rfl
theorem CtsL.more {cs : List Nat} {f : Nat → Nat} (h : CtsL cs f) (w : Nat) : CtsL (List.replicate w 0 ++ cs) (sh w f) := fun k => by
  rw [getD_app, List.length_replicate, getD_rep0]
  unfold sh
  split
  · rfl
  · exact h _
/-- two rows of counts added -/
def togL (a b : List Nat) : List Nat := (List.range (max a.length b.length)).map fun k => a.getD k 0 + b.getD k 0
theorem togL_len (a b : List Nat) : (togL a b).length = max a.length b.length := by simp [togL]
theorem getD_out {a : List Nat} {k : Nat} (h : a.length ≤ k) : a.getD k 0 = 0 := by
  rw [List.getD_eq_getElem?_getD, List.getElem?_eq_none h]; rfl
theorem togL_get (a b : List Nat) (k : Nat) : (togL a b).getD k 0 = a.getD k 0 + b.getD k 0 := by
  by_cases h : k < max a.length b.length
  · unfold togL
    rw [List.getD_eq_getElem?_getD, List.getElem?_map, List.getElem?_range h]; rfl
  · rw [getD_out (by rw [togL_len]; omega), getD_out (by omega), getD_out (by omega)]
theorem CtsL.tog {a b : List Nat} {f g : Nat → Nat} (h : CtsL a f) (k : CtsL b g) : CtsL (togL a b) (fun n => f n + g n) := fun n => by rw [togL_get, h n, k n]
/-- at most so many -/
def withinN (f : Nat → Nat) (n : Nat) (most : Int) : Nat := (((List.range n).filter fun (k : Nat) => decide ((k : Int) ≤ most)).map f).sum
theorem withinN_succ (f : Nat → Nat) (n : Nat) (most : Int) : withinN f (n + 1) most = withinN f n most + (if (n : Int) ≤ most then f n else 0) := by
  unfold withinN
  rw [List.range_succ, List.filter_append, List.map_append, List.sum_append]
  by_cases h : (n : Int) ≤ most
  · rw [if_pos h]; simp [h]
  · rw [if_neg h]; simp [h]
theorem withinN_ext {f g : Nat → Nat} {most : Int} : ∀ {n : Nat}, (∀ k, k < n → f k = g k) → withinN f n most = withinN g n most
  | 0, _ => rfl
  | n + 1, h => by rw [withinN_succ, withinN_succ, withinN_ext fun k hk => h k (by omega), h n (by omega)]
theorem withinN_far {f : Nat → Nat} {n m : Nat} {most : Int} (h : ∀ k, n ≤ k → f k = 0) (hm : n ≤ m) : withinN f m most = withinN f n most := by
  induction m with
  | zero => rw [show n = 0 by omega]
  | succ m ih =>
    by_cases e : n = m + 1
    · rw [e]
    · rw [withinN_succ, ih (by omega), h m (by omega)]; simp
/-- the ways with at most so many wrong letters -/
def wnW (y z t : List Nat) (most : Int) : Nat := withinN (wcm y z t (y.length + z.length) y.length) (y.length + z.length + 1) most
theorem wnW_of {y z t : List Nat} {most : Int} {cs : List Nat} (h : CtsL cs (wcm y z t (y.length + z.length) y.length)) : withinN (fun k => cs.getD k 0) cs.length most = wnW y z t most := by
  have e : (fun k => cs.getD k 0) = wcm y z t (y.length + z.length) y.length := funext h
  rw [e]
  unfold wnW
  rcases Nat.le_total cs.length (y.length + z.length + 1) with k | k
  · exact (withinN_far (fun n hn => by rw [← h n, getD_out hn]) k).symm
  · exact withinN_far (fun n hn => wcm_zero _ _ _ _ _ _ (by omega)) k
/-- a row of the table -/
def CtsR (G : Hp) (ts : List Addr) (f : Nat → Nat → Nat) (n b : Nat) : Prop := ts.length = n ∧ ∀ j p, ts[j]? = some p → ∃ cs : List Nat, G p = some (.lst (cs.map cnV)) ∧ CtsL cs (f j) ∧ cs.length ≤ b + j + 1
theorem CtsR.up {G G' : Hp} {ts : List Addr} {f : Nat → Nat → Nat} {n b : Nat} (h : CtsR G ts f n b) (s : Same G G') : CtsR G' ts f n b := ⟨h.1, fun j p hp => by
  obtain ⟨cs, e, k⟩ := h.2 j p hp
  exact ⟨cs, s _ _ e, k⟩⟩
theorem CtsR.nil (G : Hp) (f : Nat → Nat → Nat) (b : Nat) : CtsR G [] f 0 b := ⟨rfl, fun j p h => by simp at h⟩
theorem CtsR.app {G : Hp} {ts : List Addr} {f : Nat → Nat → Nat} {n b : Nat} {p : Addr} {cs : List Nat} (h : CtsR G ts f n b) (e : G p = some (.lst (cs.map cnV))) (hc : CtsL cs (f n)) (hl : cs.length ≤ b + n + 1) : CtsR G (ts ++ [p]) f (n + 1) b := by
  refine ⟨by simp [h.1], fun j q hq => ?_⟩
  by_cases hj : j < ts.length
  · rw [List.getElem?_append_left hj] at hq
    exact h.2 j q hq
  · have hj2 := (List.getElem?_eq_some_iff.mp hq).1
    rw [List.length_append, List.length_singleton] at hj2
    obtain rfl : j = n := by have := h.1; omega
    rw [List.getElem?_append_right (by omega), h.1, Nat.sub_self] at hq
    obtain rfl := Option.some.inj hq
    exact ⟨cs, e, hc, hl⟩
def wnB (a b k : Nat) : Nat := if a + b = 0 ∧ k = 0 then 1 else 0
def wnA (y z t : List Nat) (a b k : Nat) : Nat := if 0 < a then sh (wr (y.getD (a - 1) 0) (t.getD (a + b - 1) 0)) (wcm y z t (a - 1 + b) (a - 1)) k else 0
def wnC (y z t : List Nat) (a b k : Nat) : Nat := if 0 < b then sh (wr (z.getD (b - 1) 0) (t.getD (a + b - 1) 0)) (wcm y z t (a + (b - 1)) a) k else 0
theorem wcm_ab (y z t : List Nat) (a b k : Nat) : wnB a b k + wnA y z t a b k + wnC y z t a b k = wcm y z t (a + b) a k := by
  unfold wnB wnA wnC
  cases hm : a + b with
  | zero =>
    have e1 : a = 0 := by omega
    have e2 : b = 0 := by omega
    subst e1 e2
    simp [wcm]
  | succ m =>
    rw [if_neg (by omega), wcm]
    by_cases ha : 0 < a
    · rw [if_pos ha, if_pos ha, show a - 1 + b = m by omega, show m + 1 - 1 = m by omega]
      by_cases hb : 0 < b
      · rw [if_pos hb, if_pos (by omega), show a + (b - 1) = m by omega, show b - 1 = m - a by omega]; omega
      · rw [if_neg hb, if_neg (by omega)]; omega
    · rw [if_neg ha, if_neg ha, if_pos (by omega), if_pos (by omega), show a + (b - 1) = m by omega, show b - 1 = m - a by omega, show m + 1 - 1 = m by omega]
theorem CtsL.one (a b : Nat) : CtsL [if a + b = 0 then 1 else 0] (wnB a b) := fun k => by
  unfold wnB
  cases k with
  | zero => by_cases h : a + b = 0 <;> simp [h]
  | succ k => simp
theorem withinV (f : Nat → Nat) (n : Nat) (most : Int) : ((((List.range n).filter fun (k : Nat) => decide ((k : Int) ≤ most)).map fun k => ((f k : Nat) : Int)).sum) = ((withinN f n most : Nat) : Int) := by
  unfold withinN
  generalize ((List.range n).filter fun (k : Nat) => decide ((k : Int) ≤ most)) = l
  induction l with
  | nil => rfl
  | cons x l ih => rw [List.map_cons, List.map_cons, List.sum_cons, List.sum_cons, ih]; omega

end Law

namespace Law
open PySem PySem.Spec PyProof.Rows L2 Go
--# math within
/-! a dict of counts, its keys whole numbers -/
theorem putK_old {κ : Type} [DecidableEq κ] {kvs : List (κ × V)} {k : κ} (v : V) {x : V} (h : valV kvs k = some x) : (putK kvs k v).map (·.1) = kvs.map (·.1) := by
  unfold putK
  rw [if_pos (by rw [valV_any, h]; rfl), List.map_map]
  apply List.map_congr_left
  intro e _
  show (if e.1 = k then (e.1, v) else e).1 = e.1
  split <;> rfl
theorem val_of_mem {κ : Type} [DecidableEq κ] : ∀ {kvs : List (κ × V)} {k : κ} {v : V}, (kvs.map (·.1)).Nodup → (k, v) ∈ kvs → valV kvs k = some v
  | [], k, v, _, h => by cases h
  | e :: l, k, v, hn, h => by
    have hn : (e.1 :: l.map (·.1)).Nodup := hn
    obtain ⟨h1, h2⟩ := List.nodup_cons.mp hn
    rcases List.mem_cons.mp h with rfl | h
    · exact valV_pos rfl
    · have : ¬ e.1 = k := fun z => h1 (by rw [z]; exact List.mem_map.mpr ⟨_, h, rfl⟩)
      rw [valV_neg this]
      exact val_of_mem h2 h
theorem mem_of_val {κ : Type} [DecidableEq κ] : ∀ {kvs : List (κ × V)} {k : κ} {v : V}, valV kvs k = some v → (k, v) ∈ kvs
  | [], k, v, h => by cases h
  | e :: l, k, v, h => by
    by_cases z : e.1 = k
    · rw [valV_pos z] at h
      cases h
      rw [← z]; exact List.mem_cons_self
    · rw [valV_neg z] at h
      exact List.mem_cons_of_mem _ (mem_of_val h)
theorem key_of_val {κ : Type} [DecidableEq κ] {kvs : List (κ × V)} {k : κ} {v : V} (h : valV kvs k = some v) : k ∈ kvs.map (·.1) := List.mem_map.mpr ⟨_, mem_of_val h, rfl⟩
theorem nd_put2 {κ : Type} [DecidableEq κ] {kvs : List (κ × V)} (k : κ) (v : V) (hn : (kvs.map (·.1)).Nodup) : ((putK kvs k v).map (·.1)).Nodup := by
  cases h : valV kvs k with
  | none =>
    rw [putK_new v h, List.map_append]
    refine List.nodup_append.mpr ⟨hn, by simp, fun x hx y hy z => ?_⟩
    have hy : y = k := by simpa using hy
    obtain ⟨e, he, ex⟩ := List.mem_map.mp hx
    have := val_of_mem (k := e.1) (v := e.2) hn he
    rw [ex, z, hy, h] at this
    cases this
  | some x => rw [putK_old v h]; exact hn
theorem mem_putK {κ : Type} [DecidableEq κ] {kvs : List (κ × V)} {k : κ} {v : V} {e : κ × V} (h : e ∈ putK kvs k v) : e = (k, v) ∨ (e ∈ kvs ∧ e.1 ≠ k) := by
  unfold putK at h
  split at h
  · obtain ⟨x, hx, rfl⟩ := List.mem_map.mp h
    by_cases e : x.1 = k
    · rw [if_pos e]; exact .inl (by rw [e])
    · rw [if_neg e]; exact .inr ⟨hx, e⟩
  · rename_i hk
    rcases List.mem_append.mp h with h | h
    · refine .inr ⟨h, fun z => hk (List.any_eq_true.mpr ⟨e, h, decide_eq_true z⟩)⟩
    · exact .inl (List.mem_singleton.mp h)
theorem putK_ne {κ : Type} [DecidableEq κ] (kvs : List (κ × V)) (k : κ) (v : V) : putK kvs k v ≠ [] := fun h => by
  have := valV_put kvs k k v
  rw [h, if_pos rfl] at this
  cases this
structure RowD (kvs : List (Key × V)) (g : Nat → Nat) (M : Nat) : Prop where
  nd : (kvs.map (·.1)).Nodup
  val : ∀ k : Nat, (valV kvs (.inl (k : Int))).getD (.int 0) = .int (g k : Nat)
  key : ∀ e ∈ kvs, ∃ k n : Nat, e = (.inl (k : Int), .int (n : Nat)) ∧ k ≤ M
theorem RowD.nil (M : Nat) : RowD [] (fun _ => 0) M := ⟨List.nodup_nil, fun k => rfl, fun e h => nomatch h⟩
theorem RowD.put {kvs : List (Key × V)} {g : Nat → Nat} {M k0 : Nat} (h : RowD kvs g M) (hk : k0 ≤ M) (n : Nat) : RowD (putK kvs (.inl (k0 : Int)) (.int (n : Nat))) (fun k => if k = k0 then n else g k) M := by
  refine ⟨nd_put2 _ _ h.nd, fun k => ?_, fun e he => ?_⟩
  · rw [valV_put]
    by_cases e : k = k0
    · subst e; rw [if_pos rfl, if_pos rfl]; rfl
    · rw [if_neg (by rw [Sum.inl.injEq]; omega), if_neg e]; exact h.val k
  · rcases mem_putK he with rfl | ⟨he, _⟩
    · exact ⟨k0, n, rfl, hk⟩
    · exact h.key e he
theorem RowD.congr {kvs : List (Key × V)} {g g' : Nat → Nat} {M : Nat} (h : RowD kvs g M) (e : ∀ k, g' k = g k) : RowD kvs g' M := ⟨h.nd, fun k => by rw [e]; exact h.val k, h.key⟩
theorem nodup_le : ∀ (n : Nat) (l : List Nat), l.Nodup → (∀ x ∈ l, x < n) → l.length ≤ n
  | 0, l, _, h => by
    cases l with
    | nil => exact Nat.le_refl _
    | cons x l => exact absurd (h x List.mem_cons_self) (by omega)
  | n + 1, l, hn, h => by
    have h1 := nodup_le n (l.filter fun x => decide (x ≠ n)) (hn.filter _) fun x hx => by
      have := List.mem_filter.mp hx
      have h2 := h x this.1
      have h3 := of_decide_eq_true this.2
      omega
    have h2 : ∀ l : List Nat, l.Nodup → l.length ≤ (l.filter fun x => decide (x ≠ n)).length + 1 := by
      intro l
      induction l with
      | nil => intro _; simp
      | cons x l ih =>
        intro hl
        obtain ⟨a, b⟩ := List.nodup_cons.mp hl
        rw [List.filter_cons]
        by_cases e : x = n
        · rw [if_neg (by simp [e])]
          have : l.filter (fun x => decide (x ≠ n)) = l := List.filter_eq_self.mpr fun y hy => by
            rw [decide_eq_true_eq]
            intro z
            exact a (by rw [e, ← z]; exact hy)
          rw [this, List.length_cons]; omega
        · rw [if_pos (by simp [e]), List.length_cons, List.length_cons]
          have := ih b
          omega
    have := h2 l hn
    omega
theorem RowD.len {kvs : List (Key × V)} {g : Nat → Nat} {M : Nat} (h : RowD kvs g M) : kvs.length ≤ M + 1 := by
  have : (kvs.map fun e => match e.1 with | .inl i => i.toNat | .inr _ => 0).length ≤ M + 1 := by
    refine nodup_le _ _ ?_ fun x hx => ?_
    · have hn := h.nd
      have hk := h.key
      clear h
      induction kvs with
      | nil => exact List.nodup_nil
      | cons e l ih =>
        have hn : (e.1 :: l.map (·.1)).Nodup := hn
        obtain ⟨h1, h2⟩ := List.nodup_cons.mp hn
        rw [List.map_cons, List.nodup_cons]
        refine ⟨fun hm => ?_, ih h2 fun x hx => hk x (List.mem_cons_of_mem _ hx)⟩
        obtain ⟨x, hx, ex⟩ := List.mem_map.mp hm
        obtain ⟨a, n, e1, _⟩ := hk x (List.mem_cons_of_mem _ hx)
        obtain ⟨b, n2, e2, _⟩ := hk e List.mem_cons_self
        rw [e1, e2] at ex
        have ex : ((a : Int)).toNat = ((b : Int)).toNat := ex
        refine h1 (List.mem_map.mpr ⟨x, hx, ?_⟩)
        rw [e1, e2]
        show (Sum.inl (a : Int) : Key) = Sum.inl (b : Int)
        rw [show a = b by omega]
    · obtain ⟨e, he, rfl⟩ := List.mem_map.mp hx
      obtain ⟨k, n, e1, hk⟩ := h.key e he
      rw [e1]
      show ((k : Int)).toNat < _
      omega
  rwa [List.length_map] at this
theorem RowD.at {kvs : List (Key × V)} {g : Nat → Nat} {M i : Nat} {k : Key} {v : V} (h : RowD kvs g M) (hi : kvs[i]? = some (k, v)) : ∃ a : Nat, k = .inl (a : Int) ∧ v = .int (g a : Nat) ∧ a ≤ M ∧ ∀ j, j < i → ∀ e, kvs[j]? = some e → e.1 ≠ .inl (a : Int) := by
  have hm := List.mem_of_getElem? hi
  obtain ⟨a, n, e, ha⟩ := h.key _ hm
  cases e
  have hv := h.val a
  rw [val_of_mem h.nd hm] at hv
  refine ⟨a, rfl, hv, ha, fun j hj e he z => ?_⟩
  have n1 := h.nd
  have h1 : (kvs.map (·.1))[j]? = some (.inl (a : Int)) := by rw [List.getElem?_map, he, ← z]; rfl
  have h2 : (kvs.map (·.1))[i]? = some (.inl (a : Int)) := by rw [List.getElem?_map, hi]; rfl
  have := (List.getElem?_inj (List.getElem?_eq_some_iff.mp h1).1 n1).mp (h1.trans h2.symm)
  omega
open Classical in
/-- behind the first i entries: what they gave, w further -/
noncomputable def gave (kvs : List (Key × V)) (f : Nat → Nat) (w i k : Nat) : Nat := if w ≤ k ∧ (Sum.inl ((k - w : Nat) : Int) : Key) ∈ (kvs.take i).map (·.1) then f (k - w) else 0
theorem gave_0 (kvs : List (Key × V)) (f : Nat → Nat) (w k : Nat) : gave kvs f w 0 k = 0 := by
  unfold gave; rw [if_neg (by simp)]
theorem gave_step {kvs : List (Key × V)} {f : Nat → Nat} {M w i a : Nat} {v : V} (h : RowD kvs f M) (hi : kvs[i]? = some (.inl (a : Int), v)) (g : Nat → Nat) (k : Nat) : (if k = a + w then (g (a + w) + gave kvs f w i (a + w)) + f a else g k + gave kvs f w i k) = g k + gave kvs f w (i + 1) k := by
  obtain ⟨b, e1, _, _, e4⟩ := h.at hi
  have e1 : a = b := by have := Sum.inl.inj e1; omega
  subst e1
  have ht : (kvs.take (i + 1)).map (·.1) = (kvs.take i).map (·.1) ++ [.inl (a : Int)] := by
    rw [List.take_add_one, hi, List.map_append]; rfl
  have hno : ¬ (Sum.inl (a : Int) : Key) ∈ (kvs.take i).map (·.1) := fun hm => by
    obtain ⟨e, he, z⟩ := List.mem_map.mp hm
    obtain ⟨j, hj⟩ := List.mem_iff_getElem?.mp he
    rw [List.getElem?_take] at hj
    split at hj
    · exact e4 j (by assumption) e hj z
    · cases hj
  unfold gave
  rw [ht]
  by_cases e : k = a + w
  · subst e
    rw [if_pos rfl, if_neg (by rw [Nat.add_sub_cancel]; exact fun q => hno q.2), if_pos ⟨by omega, by rw [Nat.add_sub_cancel]; simp⟩, Nat.add_sub_cancel]
    omega
  · rw [if_neg e]
    by_cases q : w ≤ k ∧ (Sum.inl ((k - w : Nat) : Int) : Key) ∈ (kvs.take i).map (·.1)
    · rw [if_pos q, if_pos ⟨q.1, List.mem_append_left _ q.2⟩]
    · rw [if_neg q, if_neg (fun z => q ⟨z.1, (List.mem_append.mp z.2).resolve_right fun y => e (by have := Sum.inl.inj (List.mem_singleton.mp y); have := z.1; omega)⟩)]
theorem gave_all {kvs : List (Key × V)} {f : Nat → Nat} {M w : Nat} (h : RowD kvs f M) (k : Nat) : gave kvs f w kvs.length k = sh w f k := by
  unfold gave sh
  rw [List.take_length]
  by_cases hw : k < w
  · rw [if_neg (fun q => by omega), if_pos hw]
  · rw [if_neg hw]
    split
    · rfl
    · rename_i hn
      have hv := h.val (k - w)
      cases e : valV kvs (.inl ((k - w : Nat) : Int)) with
      | none =>
        rw [e] at hv
        have hv : V.int 0 = V.int (f (k - w) : Nat) := hv
        have := V.int.inj hv
        omega
      | some x => exact absurd ⟨by omega, key_of_val e⟩ hn
/-! the values of the keys that are small enough -/
def keyI : Key → Int
  | .inl i => i
  | .inr _ => 0
def smallV (kvs : List (Key × V)) (f : Nat → Nat) (most : Int) : List Int := (kvs.filter fun e => decide (keyI e.1 ≤ most)).map fun e => ((f (keyI e.1).toNat : Nat) : Int)
theorem smallV_snoc {kvs : List (Key × V)} {f : Nat → Nat} {most : Int} {m a : Nat} {v : V} (h : kvs[m]? = some (.inl (a : Int), v)) : smallV (kvs.take (m + 1)) f most = smallV (kvs.take m) f most ++ (if (a : Int) ≤ most then [((f a : Nat) : Int)] else []) := by
  unfold smallV
  rw [List.take_add_one, h, List.filter_append, List.map_append]
  congr 1
  by_cases e : (a : Int) ≤ most
  · rw [if_pos e]
    simp [keyI, e]
  · rw [if_neg e]
    simp [keyI, e]
theorem sum_off : ∀ (n : Nat) (l : List Nat) (g : Nat → Nat), l.Nodup → (∀ x ∈ l, x < n) → (∀ k, k < n → k ∉ l → g k = 0) → (l.map g).sum = ((List.range n).map g).sum
  | 0, l, g, _, h, _ => by
    cases l with
    | nil => rfl
    | cons x l => exact absurd (h x List.mem_cons_self) (by omega)
  | n + 1, l, g, hn, h, ho => by
    have split : ∀ l : List Nat, l.Nodup → (l.map g).sum = ((l.filter fun x => decide (x ≠ n)).map g).sum + (if n ∈ l then g n else 0) := by
      intro l
      induction l with
      | nil => intro _; simp
      | cons x l ih =>
        intro hl
        obtain ⟨a, b⟩ := List.nodup_cons.mp hl
        have := ih b
        rw [List.map_cons, List.sum_cons, this, List.filter_cons]
        by_cases e : x = n
        · subst e
          rw [if_neg (show ¬ decide (x ≠ x) = true by simp), if_neg a, if_pos List.mem_cons_self]; omega
        · rw [if_pos (show decide (x ≠ n) = true from decide_eq_true e), List.map_cons, List.sum_cons]
          by_cases q : n ∈ l
          · rw [if_pos q, if_pos (List.mem_cons_of_mem _ q)]; omega
          · rw [if_neg q, if_neg (fun z => (List.mem_cons.mp z).elim (fun z => e z.symm) q)]; omega
    have ih := sum_off n (l.filter fun x => decide (x ≠ n)) g (hn.filter _) (fun x hx => by
      have := List.mem_filter.mp hx
      have h2 := h x this.1
      have h3 := of_decide_eq_true this.2
      omega) (fun k hk hm => ho k (by omega) fun z => hm (List.mem_filter.mpr ⟨z, decide_eq_true (by omega)⟩))
    rw [split l hn, ih, List.range_succ, List.map_append, List.sum_append]
    congr 1
    by_cases q : n ∈ l
    · rw [if_pos q]; simp
    · rw [if_neg q, List.map_cons, List.map_nil, List.sum_cons, ho n (by omega) q]; rfl
theorem within_sum (f : Nat → Nat) (most : Int) : ∀ n : Nat, ((List.range n).map fun (k : Nat) => if (k : Int) ≤ most then f k else 0).sum = withinN f n most
  | 0 => rfl
  | n + 1 => by
    rw [List.range_succ, List.map_append, List.sum_append, within_sum f most n, withinN_succ]
    simp
theorem smallV_sum {kvs : List (Key × V)} {f : Nat → Nat} {M : Nat} (h : RowD kvs f M) (most : Int) : (smallV kvs f most).sum = ((withinN f (M + 1) most : Nat) : Int) := by
  have a1 : ∀ l : List (Key × V), (∀ e ∈ l, ∃ k n : Nat, e = (.inl (k : Int), .int (n : Nat)) ∧ k ≤ M) → (smallV l f most).sum = (((l.map fun e => (keyI e.1).toNat).map fun (k : Nat) => if (k : Int) ≤ most then f k else 0).sum : Nat) := by
    intro l
    induction l with
    | nil => intro _; rfl
    | cons e l ih =>
      intro hk
      obtain ⟨k, n, rfl, _⟩ := hk e List.mem_cons_self
      have := ih fun x hx => hk x (List.mem_cons_of_mem _ hx)
      unfold smallV at this ⊢
      rw [List.filter_cons, List.map_cons, List.map_cons, List.sum_cons]
      by_cases q : (k : Int) ≤ most
      · rw [if_pos (show decide (keyI (((Sum.inl (k : Int), V.int (n : Nat)) : Key × V)).1 ≤ most) = true from decide_eq_true q), List.map_cons, List.sum_cons, this]
        show ((f ((k : Int)).toNat : Nat) : Int) + _ = ((( if (((k : Int)).toNat : Int) ≤ most then f ((k : Int)).toNat else 0) + _ : Nat) : Int)
        rw [Int.toNat_natCast, if_pos q]; omega
      · rw [if_neg (show ¬ decide (keyI (((Sum.inl (k : Int), V.int (n : Nat)) : Key × V)).1 ≤ most) = true from fun z => q (of_decide_eq_true z)), this]
        show _ = ((( if (((k : Int)).toNat : Int) ≤ most then f ((k : Int)).toNat else 0) + _ : Nat) : Int)
        rw [Int.toNat_natCast, if_neg q]; omega
  rw [a1 kvs h.key, sum_off (M + 1) _ _ ?_ ?_ ?_, within_sum]
  · have hn := h.nd
    have hk := h.key
    clear h a1
    induction kvs with
    | nil => exact List.nodup_nil
    | cons e l ih =>
      have hn : (e.1 :: l.map (·.1)).Nodup := hn
      obtain ⟨h1, h2⟩ := List.nodup_cons.mp hn
      rw [List.map_cons, List.nodup_cons]
      refine ⟨fun hm => ?_, ih h2 fun x hx => hk x (List.mem_cons_of_mem _ hx)⟩
      obtain ⟨x, hx, ex⟩ := List.mem_map.mp hm
      obtain ⟨a, n, e1, _⟩ := hk x (List.mem_cons_of_mem _ hx)
      obtain ⟨b, n2, e2, _⟩ := hk e List.mem_cons_self
      rw [e1, e2] at ex
      have ex : ((a : Int)).toNat = ((b : Int)).toNat := ex
      refine h1 (List.mem_map.mpr ⟨x, hx, ?_⟩)
      rw [e1, e2]
      show (Sum.inl (a : Int) : Key) = Sum.inl (b : Int)
      rw [show a = b by omega]
  · intro x hx
    obtain ⟨e, he, rfl⟩ := List.mem_map.mp hx
    obtain ⟨k, n, e1, hk⟩ := h.key e he
    rw [e1]
    show ((k : Int)).toNat < _
    omega
  · intro k hk hm
    have hv := h.val k
    cases e : valV kvs (.inl (k : Int)) with
    | none =>
      rw [e] at hv
      have hv : V.int 0 = V.int (f k : Nat) := hv
      have := V.int.inj hv
      rw [show f k = 0 by omega]
      split <;> rfl
    | some x => exact absurd (List.mem_map.mpr ⟨_, mem_of_val e, by show ((k : Int)).toNat = k; omega⟩) hm

end Law

namespace Law
open PySem PySem.Spec PyProof.Rows L2 Go
--# math multi
--# math rowd
/-! the dicts of the layers: by how many are taken of each row, in how many ways -/
/-- a list of texts -/
def txR (rows : List (List Nat)) : List V := rows.map fun z => V.str (S z)
def keyV (v : List Nat) : List Key := v.map fun (k : Nat) => (Sum.inl ((k : Nat) : Int) : Key)
theorem keyV_inj : ∀ {v w : List Nat}, keyV v = keyV w → v = w
  | [], [], _ => rfl
  | [], _ :: _, h => by cases h
  | _ :: _, [], h => by cases h
  | a :: v, b :: w, h => by
    have h : (Sum.inl (a : Int) : Key) :: keyV v = Sum.inl (b : Int) :: keyV w := h
    rw [List.cons.injEq, Sum.inl.injEq] at h
    rw [keyV_inj h.2, show a = b by omega]
theorem keyV_map (v : List Nat) : (keyV v).map kV = v.map fun k => V.int ((k : Nat) : Int) := by
  unfold keyV
  rw [List.map_map]; rfl
/-- so many taken of each row, and no more than there are -/
def OkV (rows : List (List Nat)) (v : List Nat) : Prop := v.length = rows.length ∧ ∀ i, i < rows.length → v.getD i 0 ≤ (rw' rows i).length
theorem getD_set (v : List Nat) (i j k : Nat) (hi : i < v.length) : (v.set i k).getD j 0 = if j = i then k else v.getD j 0 := by
  rw [List.getD_eq_getElem?_getD, List.getElem?_set]
  by_cases e : i = j
  · subst e; rw [if_pos rfl, if_pos hi, if_pos rfl]; rfl
  · rw [if_neg e, if_neg (fun z => e z.symm), List.getD_eq_getElem?_getD]
theorem OkV.set {rows : List (List Nat)} {v : List Nat} {i k : Nat} (h : OkV rows v) (hi : i < rows.length) (hk : k ≤ (rw' rows i).length) : OkV rows (v.set i k) := by
  refine ⟨by rw [List.length_set]; exact h.1, fun j hj => ?_⟩
  rw [getD_set _ _ _ _ (by rw [h.1]; exact hi)]
  split
  · rename_i e; rw [e]; exact hk
  · exact h.2 j hj
/-- a layer: F counts, and only what counts is there -/
structure TabT (rows : List (List Nat)) (F : List Nat → Nat) (kvs : List (List Key × V)) : Prop where
  nd : (kvs.map (·.1)).Nodup
  key : ∀ e ∈ kvs, ∃ v : List Nat, e = (keyV v, .int (F v : Nat)) ∧ OkV rows v ∧ 0 < F v
  full : ∀ v, OkV rows v → 0 < F v → keyV v ∈ kvs.map (·.1)
theorem TabT.val {rows : List (List Nat)} {F : List Nat → Nat} {kvs : List (List Key × V)} (h : TabT rows F kvs) {v : List Nat} (hv : OkV rows v) : (valV kvs (keyV v)).getD (.int 0) = .int (F v : Nat) := by
  by_cases q : 0 < F v
  · obtain ⟨e, he, ex⟩ := List.mem_map.mp (h.full v hv q)
    obtain ⟨w, e1, _⟩ := h.key e he
    rw [e1] at ex he
    have ex : keyV w = keyV v := ex
    have := keyV_inj ex
    subst this
    rw [val_of_mem h.nd he]; rfl
  · cases e : valV kvs (keyV v) with
    | none => rw [show F v = 0 by omega]; rfl
    | some x =>
      have hm := mem_of_val e
      obtain ⟨w, e1, _, hp⟩ := h.key _ hm
      rw [Prod.mk.injEq] at e1
      have := keyV_inj e1.1
      subst this
      exact absurd hp q
theorem TabT.nil (rows : List (List Nat)) : TabT rows (fun _ => 0) [] := ⟨List.nodup_nil, (fun _ h => nomatch h), fun _ _ h => absurd h (by decide)⟩
theorem TabT.congr {rows : List (List Nat)} {F F' : List Nat → Nat} {kvs : List (List Key × V)} (h : TabT rows F kvs) (e : ∀ v, OkV rows v → F' v = F v) : TabT rows F' kvs :=
  ⟨h.nd, fun x hx => by
    obtain ⟨v, e1, e2, e3⟩ := h.key x hx
    exact ⟨v, by rw [e v e2]; exact e1, e2, by rw [e v e2]; exact e3⟩, fun v hv hp => h.full v hv (by rw [← e v hv]; exact hp)⟩
/-- so many more put at w -/
theorem TabT.put {rows : List (List Nat)} {F : List Nat → Nat} {kvs : List (List Key × V)} (h : TabT rows F kvs) {w : List Nat} (hw : OkV rows w) {n : Nat} (hn : 0 < n) : TabT rows (fun v => if v = w then F v + n else F v) (putK kvs (keyV w) (.int (F w + n : Nat))) := by
  refine ⟨nd_put2 _ _ h.nd, fun e he => ?_, fun v hv hp => ?_⟩
  · rcases mem_putK he with rfl | ⟨he, hne⟩
    · refine ⟨w, ?_, hw, ?_⟩
      · show _ = (keyV w, V.int (((if w = w then F w + n else F w) : Nat) : Int))
        rw [if_pos rfl]
      · show 0 < if w = w then F w + n else F w
        rw [if_pos rfl]; omega
    · obtain ⟨v, e1, e2, e3⟩ := h.key e he
      have : ¬ v = w := fun z => hne (by rw [e1, z])
      refine ⟨v, ?_, e2, ?_⟩
      · show _ = (keyV v, V.int (((if v = w then F v + n else F v) : Nat) : Int))
        rw [if_neg this]; exact e1
      · show 0 < if v = w then F v + n else F v
        rw [if_neg this]; exact e3
  · by_cases q : v = w
    · subst q
      exact key_of_val (v := .int (F v + n : Nat)) (by rw [valV_put, if_pos rfl])
    · have hp : 0 < if v = w then F v + n else F v := hp
      rw [if_neg q] at hp
      obtain ⟨e, he, ex⟩ := List.mem_map.mp (h.full v hv hp)
      have hv2 : valV kvs (keyV v) = some e.2 := by rw [← ex]; exact val_of_mem h.nd he
      exact key_of_val (v := e.2) (by rw [valV_put, if_neg fun z => q (keyV_inj z)]; exact hv2)
/-- the bound of a layer's length, the rows' lengths and one multiplied -/
def boxN : List (List Nat) → Nat
  | [] => 1
  | r :: rows => (r.length + 1) * boxN rows
def codeV : List (List Nat) → List Nat → Nat
  | r :: rows, k :: v => k + (r.length + 1) * codeV rows v
  | _, _ => 0
theorem okV_cons {r : List Nat} {rows : List (List Nat)} {k : Nat} {v : List Nat} (h : OkV (r :: rows) (k :: v)) : k ≤ r.length ∧ OkV rows v := by
  refine ⟨h.2 0 (by simp), by have := h.1; simpa using this, fun i hi => ?_⟩
  have := h.2 (i + 1) (by simpa using hi)
  exact this
theorem code_lt : ∀ (rows : List (List Nat)) (v : List Nat), OkV rows v → codeV rows v < boxN rows
  | [], v, h => by unfold codeV boxN; omega
  | r :: rows, [], h => by have := h.1; simp at this
  | r :: rows, k :: v, h => by
    obtain ⟨h1, h2⟩ := okV_cons h
    have ih := code_lt rows v h2
    unfold codeV boxN
    have : (r.length + 1) * (codeV rows v + 1) ≤ (r.length + 1) * boxN rows := Nat.mul_le_mul_left _ ih
    rw [Nat.mul_add, Nat.mul_one] at this
    omega
theorem code_inj : ∀ (rows : List (List Nat)) (v w : List Nat), OkV rows v → OkV rows w → codeV rows v = codeV rows w → v = w
  | [], v, w, h, k, _ => by
    rw [List.length_eq_zero_iff.mp h.1, List.length_eq_zero_iff.mp k.1]
  | r :: rows, [], w, h, _, _ => by have := h.1; simp at this
  | r :: rows, _ :: _, [], _, h, _ => by have := h.1; simp at this
  | r :: rows, a :: v, b :: w, h, k, e => by
    obtain ⟨h1, h2⟩ := okV_cons h
    obtain ⟨k1, k2⟩ := okV_cons k
    unfold codeV at e
    have m1 := congrArg (· % (r.length + 1)) e
    simp only [Nat.add_mul_mod_self_left] at m1
    rw [Nat.mod_eq_of_lt (by omega), Nat.mod_eq_of_lt (by omega)] at m1
    subst m1
    have : codeV rows v = codeV rows w := Nat.eq_of_mul_eq_mul_left (show 0 < r.length + 1 by omega) (by omega)
    rw [code_inj rows v w h2 k2 this]
theorem TabT.len {rows : List (List Nat)} {F : List Nat → Nat} {kvs : List (List Key × V)} (h : TabT rows F kvs) : kvs.length ≤ boxN rows := by
  have : (kvs.map fun e => codeV rows (e.1.map fun k => match k with | .inl i => i.toNat | .inr _ => 0)).length ≤ boxN rows := by
    have unk : ∀ v : List Nat, ((keyV v).map fun k => match k with | .inl i => i.toNat | .inr _ => 0) = v := fun v => by
      unfold keyV
      rw [List.map_map]
      exact (List.map_congr_left fun (k : Nat) _ => (show (((k : Nat) : Int)).toNat = k by omega)).trans (List.map_id' v)
    refine nodup_le _ _ ?_ fun x hx => ?_
    · have hn := h.nd
      have hk := h.key
      clear h
      induction kvs with
      | nil => exact List.nodup_nil
      | cons e l ih =>
        have hn : (e.1 :: l.map (·.1)).Nodup := hn
        obtain ⟨h1, h2⟩ := List.nodup_cons.mp hn
        rw [List.map_cons, List.nodup_cons]
        refine ⟨fun hm => ?_, ih h2 fun x hx => hk x (List.mem_cons_of_mem _ hx)⟩
        obtain ⟨x, hx, ex⟩ := List.mem_map.mp hm
        obtain ⟨v, e1, o1, _⟩ := hk x (List.mem_cons_of_mem _ hx)
        obtain ⟨w, e2, o2, _⟩ := hk e List.mem_cons_self
        rw [e1, e2] at ex
        simp only [unk] at ex
        refine h1 (List.mem_map.mpr ⟨x, hx, ?_⟩)
        rw [e1, e2]
        show keyV v = keyV w
        rw [code_inj rows v w o1 o2 ex]
    · obtain ⟨e, he, rfl⟩ := List.mem_map.mp hx
      obtain ⟨v, e1, o1, _⟩ := h.key e he
      rw [e1]
      simp only [unk]
      exact code_lt rows v o1
  rwa [List.length_map] at this
theorem rep_keyV (n : Nat) : (List.replicate n [V.int 0]).flatten = (keyV (List.replicate n 0)).map kV := by
  rw [keyV_map]
  induction n with
  | zero => rfl
  | succ n ih => rw [List.replicate_succ, List.flatten_cons, ih, List.replicate_succ]; rfl
theorem okV_zero (rows : List (List Nat)) : OkV rows (List.replicate rows.length 0) := ⟨by simp, fun i hi => by
  rw [List.getD_eq_getElem?_getD, List.getElem?_replicate]
  split <;> exact Nat.zero_le _⟩
theorem okV_zeros {rows : List (List Nat)} {v : List Nat} (h : OkV rows v) (hz : ∀ i, i < rows.length → v.getD i 0 = 0) : v = List.replicate rows.length 0 := by
  apply List.ext_getElem
  · rw [List.length_replicate]; exact h.1
  · intro i h1 h2
    have := hz i (by rw [← h.1]; exact h1)
    rw [List.getD_eq_getElem?_getD, List.getElem?_eq_getElem h1] at this
    rw [List.getElem_replicate]; exact this
/-- of no letter: the empty way -/
theorem wavM_zero {rows : List (List Nat)} {v : List Nat} (t : List Nat) (h : OkV rows v) : wavM rows t 0 v = if v = List.replicate rows.length 0 then 1 else 0 := by
  unfold wavM
  rw [List.take_zero, List.reverse_nil, wavN, heads_len]
  by_cases e : v = List.replicate rows.length 0
  · rw [if_pos e, if_pos]
    intro i hi
    rw [rw_heads hi, e, List.getD_eq_getElem?_getD, List.getElem?_replicate, if_pos hi]; simp
  · rw [if_neg e, if_neg]
    intro q
    refine e (okV_zeros h fun i hi => ?_)
    have := q i hi
    rw [rw_heads hi, List.reverse_eq_nil_iff, List.take_eq_nil_iff] at this
    have h2 := h.2 i hi
    rcases this with h3 | h3
    · exact h3
    · rw [h3] at h2; simpa using h2
theorem TabT.first (rows : List (List Nat)) (t : List Nat) : TabT rows (wavM rows t 0) [(keyV (List.replicate rows.length 0), .int 1)] := by
  have := (TabT.nil rows).put (okV_zero rows) (n := 1) (by decide)
  refine TabT.congr this fun v hv => ?_
  rw [wavM_zero t hv]
/-- what one entry gives: u taken so far, cnt ways; to v, by the letter c -/
def giveR (rows : List (List Nat)) (c : Nat) (u : List Nat) (cnt n : Nat) (v : List Nat) : Nat := sumR n fun i => if u.getD i 0 < (rw' rows i).length ∧ (rw' rows i).getD (u.getD i 0) 0 = c ∧ v = u.set i (u.getD i 0 + 1) then cnt else 0
theorem giveR_succ (rows : List (List Nat)) (c : Nat) (u : List Nat) (cnt n : Nat) (v : List Nat) : giveR rows c u cnt (n + 1) v = giveR rows c u cnt n v + if u.getD n 0 < (rw' rows n).length ∧ (rw' rows n).getD (u.getD n 0) 0 = c ∧ v = u.set n (u.getD n 0 + 1) then cnt else 0 := sumR_succ _ _
/-- how many are taken, by the key -/
def unkey (k : List Key) : List Nat := k.map fun x => match x with | .inl i => i.toNat | .inr _ => 0
theorem unkey_keyV (v : List Nat) : unkey (keyV v) = v := by
  unfold unkey keyV
  rw [List.map_map]
  exact (List.map_congr_left fun (k : Nat) _ => (show (((k : Nat) : Int)).toNat = k by omega)).trans (List.map_id' v)
/-- what the entries give -/
def giveL (rows : List (List Nat)) (c : Nat) (F : List Nat → Nat) (l : List (List Key × V)) (v : List Nat) : Nat := (l.map fun e => giveR rows c (unkey e.1) (F (unkey e.1)) rows.length v).sum
theorem giveL_nil (rows : List (List Nat)) (c : Nat) (F : List Nat → Nat) (v : List Nat) : giveL rows c F [] v = 0 := rfl
theorem giveL_step {rows : List (List Nat)} {c : Nat} {F : List Nat → Nat} {kvs : List (List Key × V)} {n : Nat} {u : List Nat} {x : V} (h : kvs[n]? = some (keyV u, x)) (v : List Nat) : giveL rows c F (kvs.take (n + 1)) v = giveL rows c F (kvs.take n) v + giveR rows c u (F u) rows.length v := by
  unfold giveL
  rw [List.take_add_one, h, List.map_append, List.sum_append]
  show _ + (List.map _ [(keyV u, x)]).sum = _
  rw [List.map_cons, List.map_nil, List.sum_cons, List.sum_nil, unkey_keyV, Nat.add_zero]
theorem pick_one (w : List Nat) (x : Nat) : ∀ l : List (List Key × V), (l.map (·.1)).Nodup → (∀ e ∈ l, ∃ u, e.1 = keyV u) → (keyV w ∈ l.map (·.1) ∨ x = 0) → (l.map fun e => if unkey e.1 = w then x else 0).sum = x
  | [], _, _, h => by
    rcases h with h | h
    · cases h
    · rw [h]; rfl
  | e :: l, hn, hk, h => by
    have hn : (e.1 :: l.map (·.1)).Nodup := hn
    obtain ⟨h1, h2⟩ := List.nodup_cons.mp hn
    obtain ⟨u, eu⟩ := hk e List.mem_cons_self
    rw [List.map_cons, List.sum_cons, eu, unkey_keyV]
    by_cases q : u = w
    · subst q
      rw [if_pos rfl]
      have : ∀ l : List (List Key × V), keyV u ∉ l.map (·.1) → (∀ e ∈ l, ∃ u, e.1 = keyV u) → (l.map fun e => if unkey e.1 = u then x else 0).sum = 0 := by
        intro l
        induction l with
        | nil => intro _ _; rfl
        | cons a l ih =>
          intro hm hk
          obtain ⟨b, eb⟩ := hk a List.mem_cons_self
          rw [List.map_cons, List.sum_cons, ih (fun z => hm (List.mem_cons_of_mem _ z)) fun y hy => hk y (List.mem_cons_of_mem _ hy), eb, unkey_keyV, if_neg]
          intro z
          exact hm (List.mem_map.mpr ⟨a, List.mem_cons_self, by rw [eb, z]⟩)
      rw [this l (by rw [← eu]; exact h1) fun y hy => hk y (List.mem_cons_of_mem _ hy), Nat.add_zero]
    · rw [if_neg q, Nat.zero_add]
      refine pick_one w x l h2 (fun y hy => hk y (List.mem_cons_of_mem _ hy)) ?_
      rcases h with h | h
      · rcases List.mem_cons.mp h with h | h
        · have h : keyV w = e.1 := h
          rw [eu] at h; exact absurd (keyV_inj h).symm q
        · exact .inl h
      · exact .inr h
theorem set_getD (v : List Nat) (i : Nat) : v.set i (v.getD i 0) = v := by
  apply List.ext_getElem?
  intro j
  rw [List.getElem?_set]
  by_cases e : i = j
  · subst e
    rw [if_pos rfl]
    by_cases hi : i < v.length
    · rw [if_pos hi, List.getD_eq_getElem?_getD, List.getElem?_eq_getElem hi]; rfl
    · rw [if_neg hi, List.getElem?_eq_none (by omega)]
  · rw [if_neg e]
theorem back_iff {rows : List (List Nat)} {u v : List Nat} {i c : Nat} (hu : OkV rows u) (hv : OkV rows v) (hi : i < rows.length) :
    (u.getD i 0 < (rw' rows i).length ∧ (rw' rows i).getD (u.getD i 0) 0 = c ∧ v = u.set i (u.getD i 0 + 1)) ↔ ((0 < v.getD i 0 ∧ (rw' rows i).getD (v.getD i 0 - 1) 0 = c) ∧ u = v.set i (v.getD i 0 - 1)) := by
  constructor
  · rintro ⟨h1, h2, h3⟩
    have e : v.getD i 0 = u.getD i 0 + 1 := by rw [h3, getD_set _ _ _ _ (by rw [hu.1]; exact hi), if_pos rfl]
    refine ⟨⟨by omega, by rw [e, Nat.add_sub_cancel]; exact h2⟩, ?_⟩
    rw [e, Nat.add_sub_cancel, h3, List.set_set, set_getD]
  · rintro ⟨⟨h1, h2⟩, h3⟩
    have e : u.getD i 0 = v.getD i 0 - 1 := by rw [h3, getD_set _ _ _ _ (by rw [hv.1]; exact hi), if_pos rfl]
    have := hv.2 i hi
    refine ⟨by omega, by rw [e]; exact h2, ?_⟩
    rw [e, h3, List.set_set, show v.getD i 0 - 1 + 1 = v.getD i 0 by omega, set_getD]
/-- all entries of a layer give the next layer -/
theorem giveL_all {rows : List (List Nat)} {t v : List Nat} {m c : Nat} {kvs : List (List Key × V)} (h : TabT rows (wavM rows t m) kvs) (hm : m < t.length) (hc : t.getD m 0 = c) (hv : OkV rows v) : wavM rows t (m + 1) v = giveL rows c (wavM rows t m) kvs v := by
  have one : ∀ i, i < rows.length → (kvs.map fun e => if (unkey e.1).getD i 0 < (rw' rows i).length ∧ (rw' rows i).getD ((unkey e.1).getD i 0) 0 = c ∧ v = (unkey e.1).set i ((unkey e.1).getD i 0 + 1) then wavM rows t m (unkey e.1) else 0).sum = if 0 < v.getD i 0 ∧ (rw' rows i).getD (v.getD i 0 - 1) 0 = t.getD m 0 then wavM rows t m (v.set i (v.getD i 0 - 1)) else 0 := by
    intro i hi
    have hk : ∀ e ∈ kvs, ∃ u, e.1 = keyV u ∧ OkV rows u := fun e he => by
      obtain ⟨u, e1, o, _⟩ := h.key e he
      exact ⟨u, by rw [e1], o⟩
    by_cases q : 0 < v.getD i 0 ∧ (rw' rows i).getD (v.getD i 0 - 1) 0 = c
    · rw [if_pos (by rw [hc]; exact q)]
      have hw : OkV rows (v.set i (v.getD i 0 - 1)) := hv.set hi (by have := hv.2 i hi; omega)
      have e1 : (kvs.map fun e => if (unkey e.1).getD i 0 < (rw' rows i).length ∧ (rw' rows i).getD ((unkey e.1).getD i 0) 0 = c ∧ v = (unkey e.1).set i ((unkey e.1).getD i 0 + 1) then wavM rows t m (unkey e.1) else 0) = kvs.map fun e => if unkey e.1 = v.set i (v.getD i 0 - 1) then wavM rows t m (v.set i (v.getD i 0 - 1)) else 0 := by
        apply List.map_congr_left
        intro e he
        obtain ⟨u, eu, ou⟩ := hk e he
        rw [eu, unkey_keyV]
        have b := back_iff (c := c) ou hv hi
        by_cases z : u = v.set i (v.getD i 0 - 1)
        · rw [if_pos z, if_pos (b.mpr ⟨q, z⟩), ← z]
        · rw [if_neg z, if_neg fun y => z (b.mp y).2]
      rw [e1]
      refine pick_one _ _ kvs h.nd (fun e he => by obtain ⟨u, eu, _⟩ := hk e he; exact ⟨u, eu⟩) ?_
      by_cases p : 0 < wavM rows t m (v.set i (v.getD i 0 - 1))
      · exact .inl (h.full _ hw p)
      · exact .inr (by omega)
    · rw [if_neg (by rw [hc]; exact q)]
      have e1 : (kvs.map fun e => if (unkey e.1).getD i 0 < (rw' rows i).length ∧ (rw' rows i).getD ((unkey e.1).getD i 0) 0 = c ∧ v = (unkey e.1).set i ((unkey e.1).getD i 0 + 1) then wavM rows t m (unkey e.1) else 0) = kvs.map fun _ => 0 := by
        apply List.map_congr_left
        intro e he
        obtain ⟨u, eu, ou⟩ := hk e he
        rw [eu, unkey_keyV, if_neg fun y => q ((back_iff ou hv hi).mp y).1]
      rw [e1]
      clear e1 hk h
      induction kvs with
      | nil => rfl
      | cons e l ih => rw [List.map_cons, List.sum_cons, ih]
  have sw : ∀ (l : List (List Key × V)) (n : Nat), (l.map fun e => giveR rows c (unkey e.1) (wavM rows t m (unkey e.1)) n v).sum = sumR n fun i => (l.map fun e => if (unkey e.1).getD i 0 < (rw' rows i).length ∧ (rw' rows i).getD ((unkey e.1).getD i 0) 0 = c ∧ v = (unkey e.1).set i ((unkey e.1).getD i 0 + 1) then wavM rows t m (unkey e.1) else 0).sum := by
    intro l n
    induction l with
    | nil => rw [show (fun i => (([] : List (List Key × V)).map fun e => if (unkey e.1).getD i 0 < (rw' rows i).length ∧ (rw' rows i).getD ((unkey e.1).getD i 0) 0 = c ∧ v = (unkey e.1).set i ((unkey e.1).getD i 0 + 1) then wavM rows t m (unkey e.1) else 0).sum) = fun _ => 0 from rfl, sumR_zero]; rfl
    | cons e l ih =>
      rw [List.map_cons, List.sum_cons, ih]
      unfold giveR
      rw [← sumR_add]
      exact sumR_congr fun i _ => by rw [List.map_cons, List.sum_cons]
  unfold giveL
  rw [sw, wavM_succ hm hv.1 hv.2]
  exact sumR_congr fun i hi => (one i hi).symm
theorem more_keyV (u : List Nat) {i : Nat} (hi : i < u.length) : (((keyV u).map kV).take i ++ [V.int ((u.getD i 0 : Nat) + 1)]) ++ ((keyV u).map kV).drop (i + 1) = (keyV (u.set i (u.getD i 0 + 1))).map kV := by
  rw [keyV_map, keyV_map, List.set_eq_take_append_cons_drop, if_pos hi, List.map_append, List.map_cons, List.map_take, List.map_drop, List.append_assoc]
  rfl
/-- as many as there are of each row -/
def lensR (rows : List (List Nat)) : List Nat := rows.map List.length
theorem okV_lens (rows : List (List Nat)) : OkV rows (lensR rows) := ⟨by unfold lensR; rw [List.length_map], fun i hi => by
  unfold lensR rw'
  rw [List.getD_eq_getElem?_getD, List.getD_eq_getElem?_getD, List.getElem?_map, List.getElem?_eq_getElem hi]
  exact Nat.le_refl _⟩
theorem heads_lens (rows : List (List Nat)) : headsR rows (lensR rows) = rows.map List.reverse := by
  apply List.ext_getElem?
  intro i
  unfold headsR
  rw [List.getElem?_map, List.getElem?_map]
  by_cases hi : i < rows.length
  · rw [List.getElem?_range hi, List.getElem?_eq_getElem hi]
    show some (((rw' rows i).take ((lensR rows).getD i 0)).reverse) = some (rows[i].reverse)
    unfold lensR rw'
    rw [List.getD_eq_getElem?_getD, List.getD_eq_getElem?_getD, List.getElem?_map, List.getElem?_eq_getElem hi]
    show some ((rows[i].take rows[i].length).reverse) = _
    rw [List.take_length]
  · rw [List.getElem?_eq_none (by rw [List.length_range]; omega), List.getElem?_eq_none (by omega)]; rfl
theorem wavM_all (rows : List (List Nat)) (t : List Nat) : wavM rows t t.length (lensR rows) = wavN t rows := by
  unfold wavM
  rw [List.take_length, heads_lens, wavN_rev]
theorem revR_len (rows : List (List Nat)) : (rows.map List.reverse).length = rows.length := List.length_map _
theorem revR_rw (rows : List (List Nat)) (i : Nat) : rw' (rows.map List.reverse) i = (rw' rows i).reverse := rw_map i List.reverse rfl
theorem lensR_rev (rows : List (List Nat)) : lensR (rows.map List.reverse) = lensR rows := by
  unfold lensR
  rw [List.map_map]
  exact List.map_congr_left fun z _ => List.length_reverse
theorem rev_getD {z : List Nat} {k : Nat} (h : k < z.length) : z.reverse.getD k 0 = z.getD (z.length - 1 - k) 0 := by
  rw [List.getD_eq_getElem?_getD, List.getD_eq_getElem?_getD, List.getElem?_reverse h]
theorem boxN_rev : ∀ rows : List (List Nat), boxN (rows.map List.reverse) = boxN rows
  | [] => rfl
  | r :: rows => by rw [List.map_cons, boxN, boxN, List.length_reverse, boxN_rev rows]

end Law

namespace Law
open PySem PySem.Spec PyProof.Rows L2 Go
--# math multi
/-! several rows: in another order, one of none, one alone, two alike -/
def stepR (c : Nat) (g : List (List Nat) → Nat) : List (List Nat) → Nat
  | [] => 0
  | r :: rows => (if r.head? = some c then g (r.tail :: rows) else 0) + stepR c (fun m => g (r :: m)) rows
theorem sumR_front (f : Nat → Nat) : ∀ n : Nat, sumR (n + 1) f = f 0 + sumR n fun i => f (i + 1)
  | 0 => by rw [sumR_succ]; show 0 + f 0 = f 0 + 0; omega
  | n + 1 => by rw [sumR_succ, sumR_front f n, sumR_succ]; omega
theorem stepR_eq (c : Nat) : ∀ (rows : List (List Nat)) (g : List (List Nat) → Nat), sumR rows.length (fun i => if (rw' rows i).head? = some c then g (rows.set i (rw' rows i).tail) else 0) = stepR c g rows
  | [], g => rfl
  | r :: rows, g => by
    rw [List.length_cons, sumR_front, stepR, ← stepR_eq c rows]
    rfl
theorem wavN_cons (c : Nat) (t : List Nat) (rows : List (List Nat)) : wavN (c :: t) rows = stepR c (wavN t) rows := by
  rw [wavN, stepR_eq]
theorem wavN_nil (rows : List (List Nat)) : wavN [] rows = if ∀ r ∈ rows, r = [] then 1 else 0 := by
  unfold wavN
  have e : (∀ i, i < rows.length → rw' rows i = []) ↔ ∀ r ∈ rows, r = [] := by
    constructor
    · intro h r hr
      obtain ⟨i, hi, rfl⟩ := List.mem_iff_getElem.mp hr
      have := h i hi
      unfold rw' at this
      rw [List.getD_eq_getElem?_getD, List.getElem?_eq_getElem hi] at this
      exact this
    · intro h i hi
      unfold rw'
      rw [List.getD_eq_getElem?_getD, List.getElem?_eq_getElem hi]
      exact h _ (List.getElem_mem hi)
  by_cases q : ∀ r ∈ rows, r = []
  · rw [if_pos q, if_pos (e.mpr q)]
  · rw [if_neg q, if_neg fun z => q (e.mp z)]
theorem stepR_perm {rows rows' : List (List Nat)} (h : rows.Perm rows') (c : Nat) : ∀ (g : List (List Nat) → Nat), (∀ a b, a.Perm b → g a = g b) → stepR c g rows = stepR c g rows' := by
  induction h with
  | nil => intro g _; rfl
  | @cons r l l' p ih =>
    intro g hg
    rw [stepR, stepR, hg _ _ (p.cons r.tail), ih (fun m => g (r :: m)) fun a b q => hg _ _ (q.cons r)]
  | swap x y l =>
    intro g hg
    simp only [stepR]
    rw [hg (y.tail :: x :: l) (x :: y.tail :: l) (.swap ..), hg (y :: x.tail :: l) (x.tail :: y :: l) (.swap ..), show (fun m => g (y :: x :: m)) = fun m => g (x :: y :: m) from funext fun m => hg _ _ (.swap ..)]
    omega
  | trans _ _ h1 h2 => intro g hg; rw [h1 g hg, h2 g hg]
theorem wavN_perm : ∀ (t : List Nat) {rows rows' : List (List Nat)}, rows.Perm rows' → wavN t rows = wavN t rows'
  | [], rows, rows', h => by
    rw [wavN_nil, wavN_nil]
    have e : (∀ r ∈ rows, r = []) ↔ ∀ r ∈ rows', r = [] := ⟨fun q r hr => q r (h.mem_iff.mpr hr), fun q r hr => q r (h.mem_iff.mp hr)⟩
    by_cases q : ∀ r ∈ rows, r = []
    · rw [if_pos q, if_pos (e.mp q)]
    · rw [if_neg q, if_neg fun z => q (e.mpr z)]
  | c :: t, rows, rows', h => by
    rw [wavN_cons, wavN_cons]
    exact stepR_perm h c _ fun a b p => wavN_perm t p
theorem wavN_none : ∀ (t : List Nat) (rows : List (List Nat)), wavN t ([] :: rows) = wavN t rows
  | [], rows => by
    rw [wavN_nil, wavN_nil]
    by_cases q : ∀ r ∈ rows, r = []
    · rw [if_pos q, if_pos fun r hr => (List.mem_cons.mp hr).elim id (q r)]
    · rw [if_neg q, if_neg fun z => q fun r hr => z r (List.mem_cons_of_mem _ hr)]
  | c :: t, rows => by
    rw [wavN_cons, wavN_cons, stepR, show (fun m => wavN t ([] :: m)) = wavN t from funext (wavN_none t)]
    simp
theorem wavN_put (t : List Nat) (a b : List (List Nat)) : wavN t (a ++ [[]] ++ b) = wavN t (a ++ b) := by
  rw [List.append_assoc, List.singleton_append, wavN_perm t (List.perm_middle), wavN_none]
theorem wavN_one : ∀ (t r : List Nat), wavN t [r] = if t = r then 1 else 0
  | [], r => by
    rw [wavN_nil]
    cases r <;> simp
  | c :: t, [] => by rw [wavN_cons]; simp [stepR]
  | c :: t, a :: r => by
    rw [wavN_cons]
    simp only [stepR, List.head?_cons, List.tail_cons, Nat.add_zero, wavN_one t r, List.cons.injEq, Option.some.injEq]
    by_cases q : a = c
    · subst q
      by_cases z : t = r <;> simp [z]
    · have q' : ¬ c = a := fun z => q z.symm
      simp [q, q']
theorem stepR_even (c : Nat) : ∀ (rows : List (List Nat)) (g : List (List Nat) → Nat), (∀ m, g m % 2 = 0) → stepR c g rows % 2 = 0
  | [], g, h => rfl
  | r :: rows, g, h => by
    have h1 := stepR_even c rows (fun m => g (r :: m)) fun m => h _
    have h2 := h (r.tail :: rows)
    rw [stepR]
    split <;> omega
theorem wavN_twins : ∀ (t r : List Nat) (rows : List (List Nat)), r ≠ [] → wavN t (r :: r :: rows) % 2 = 0
  | [], r, rows, h => by
    rw [wavN_nil, if_neg fun z => h (z r List.mem_cons_self)]
  | c :: t, r, rows, h => by
    rw [wavN_cons]
    simp only [stepR]
    have h1 := stepR_even c rows (fun m => wavN t (r :: r :: m)) fun m => wavN_twins t r m h
    rw [wavN_perm t (.swap r r.tail rows)]
    split <;> omega
theorem wavN_alike (t : List Nat) {rows : List (List Nat)} {i j : Nat} {r : List Nat} (hj : j < i) (hi : rows[i]? = some r) (hr : rows[j]? = some r) (h : r ≠ []) : wavN t rows % 2 = 0 := by
  have p1 : rows.Perm (r :: rows.eraseIdx j) := by
    obtain ⟨h1, h2⟩ := List.getElem?_eq_some_iff.mp hr
    rw [← h2, List.eraseIdx_eq_take_drop_succ]
    have e : rows = rows.take j ++ rows[j] :: rows.drop (j + 1) := by rw [← List.drop_eq_getElem_cons h1, List.take_append_drop]
    exact (List.Perm.of_eq e).trans List.perm_middle
  have m : r ∈ rows.eraseIdx j := by
    refine List.mem_of_getElem? (i := i - 1) ?_
    rw [List.getElem?_eraseIdx]
    rw [if_neg (by omega), show i - 1 + 1 = i by omega, hi]
  rw [wavN_perm t (p1.trans ((List.perm_cons_erase m).cons r))]
  exact wavN_twins t r _ h

end Law

namespace Law
open PySem PySem.Spec PyProof.Rows L2 Go
--# math permr
/-! the first way of several rows -/
/-- whether a letter of the i-th row may go ahead -/
def stpB (c : Nat) (t : List Nat) (rows : List (List Nat)) (i : Nat) : Bool := decide ((rw' rows i).head? = some c ∧ 0 < wavN t (rows.set i (rw' rows i).tail))
def fstN : List Nat → List (List Nat) → List Nat
  | [], _ => []
  | c :: t, rows => match (List.range rows.length).find? (stpB c t rows) with
    | some i => i :: fstN t (rows.set i (rw' rows i).tail)
    | none => []
theorem sumR_pos {f : Nat → Nat} : ∀ {n : Nat}, 0 < sumR n f → ∃ i, i < n ∧ 0 < f i
  | 0, h => by simp [sumR] at h
  | n + 1, h => by
    rw [sumR_succ] at h
    by_cases q : 0 < f n
    · exact ⟨n, by omega, q⟩
    · obtain ⟨i, h1, h2⟩ := sumR_pos (n := n) (f := f) (by omega)
      exact ⟨i, by omega, h2⟩
theorem sumR_le {f : Nat → Nat} {n i : Nat} (hi : i < n) : f i ≤ sumR n f := by
  induction n with
  | zero => omega
  | succ n ih =>
    rw [sumR_succ]
    by_cases q : i = n
    · subst q; omega
    · have := ih (by omega); omega
theorem wav_some {c : Nat} {t : List Nat} {rows : List (List Nat)} (h : 0 < wavN (c :: t) rows) : ∃ i, i < rows.length ∧ stpB c t rows i = true := by
  rw [wavN] at h
  obtain ⟨i, hi, hp⟩ := sumR_pos h
  refine ⟨i, hi, ?_⟩
  unfold stpB
  split at hp
  · rename_i e; exact decide_eq_true ⟨e, hp⟩
  · omega
theorem wav_of {c : Nat} {t : List Nat} {rows : List (List Nat)} {i : Nat} (hi : i < rows.length) (h : stpB c t rows i = true) : 0 < wavN (c :: t) rows := by
  have h := of_decide_eq_true h
  rw [wavN]
  have := sumR_le (f := fun i => if (rw' rows i).head? = some c then wavN t (rows.set i (rw' rows i).tail) else 0) hi
  simp only [if_pos h.1] at this
  omega
theorem fst_at {c : Nat} {t : List Nat} {rows : List (List Nat)} {i : Nat} (hi : i < rows.length) (h : stpB c t rows i = true) (hn : ∀ j, j < i → stpB c t rows j = false) : fstN (c :: t) rows = i :: fstN t (rows.set i (rw' rows i).tail) := by
  rw [fstN]
  have e : (List.range rows.length).find? (stpB c t rows) = some i := by
    rw [List.find?_eq_some_iff_getElem]
    refine ⟨h, i, by rw [List.length_range]; exact hi, by rw [List.getElem_range], fun j hj => ?_⟩
    rw [List.getElem_range, hn j hj]; rfl
  rw [e]
theorem fst_some {c : Nat} {t : List Nat} {rows : List (List Nat)} (h : 0 < wavN (c :: t) rows) : ∃ i, i < rows.length ∧ stpB c t rows i = true ∧ (∀ j, j < i → stpB c t rows j = false) ∧ fstN (c :: t) rows = i :: fstN t (rows.set i (rw' rows i).tail) := by
  obtain ⟨k, hk, hs⟩ := wav_some h
  cases e : (List.range rows.length).find? (stpB c t rows) with
  | none =>
    have := List.find?_eq_none.mp e k (List.mem_range.mpr hk)
    exact absurd hs this
  | some i =>
    obtain ⟨h1, j, hj, e2, h3⟩ := List.find?_eq_some_iff_getElem.mp e
    rw [List.getElem_range] at e2
    subst e2
    rw [List.length_range] at hj
    have hn : ∀ k, k < j → stpB c t rows k = false := fun k hk => by
      have := h3 k hk
      rw [List.getElem_range] at this
      simpa using this
    exact ⟨j, hj, h1, hn, fst_at hj h1 hn⟩
theorem fst_len : ∀ (t : List Nat) (rows : List (List Nat)), 0 < wavN t rows → (fstN t rows).length = t.length ∧ ∀ i ∈ fstN t rows, i < rows.length
  | [], rows, _ => ⟨rfl, fun _ h => nomatch h⟩
  | c :: t, rows, h => by
    obtain ⟨i, hi, hs, _, e⟩ := fst_some h
    have h2 := (of_decide_eq_true hs).2
    obtain ⟨l1, l2⟩ := fst_len t _ h2
    rw [e]
    refine ⟨by rw [List.length_cons, List.length_cons, l1], fun j hj => ?_⟩
    rcases List.mem_cons.mp hj with rfl | hj
    · exact hi
    · have := l2 j hj
      rwa [List.length_set] at this
/-- the letters that are the k-th row's -/
def pickN (k : Nat) (l : List (Nat × Nat)) : List Nat := (l.filter fun p => decide (p.2 = k)).map (·.1)
theorem fst_pick : ∀ (t : List Nat) (rows : List (List Nat)), 0 < wavN t rows → ∀ k, k < rows.length → pickN k (t.zip (fstN t rows)) = rw' rows k
  | [], rows, h, k, hk => by
    rw [wavN_nil] at h
    split at h
    · rename_i q
      have : rw' rows k = [] := by
        unfold rw'
        rw [List.getD_eq_getElem?_getD, List.getElem?_eq_getElem hk]
        exact q _ (List.getElem_mem hk)
      rw [this]; rfl
    · omega
  | c :: t, rows, h, k, hk => by
    obtain ⟨i, hi, hs, _, e⟩ := fst_some h
    obtain ⟨h1, h2⟩ := of_decide_eq_true hs
    have ih := fst_pick t _ h2 k (by rw [List.length_set]; exact hk)
    rw [rw_set _ _ _ _ hi] at ih
    rw [e, List.zip_cons_cons]
    unfold pickN at ih ⊢
    by_cases q : i = k
    · subst q
      rw [if_pos rfl] at ih
      rw [List.filter_cons_of_pos (by simp), List.map_cons, ih]
      cases hr : rw' rows i with
      | nil => rw [hr] at h1; cases h1
      | cons a u => rw [hr] at h1; rw [Option.some.inj h1]; rfl
    · rw [if_neg fun z => q z.symm] at ih
      rw [List.filter_cons_of_neg (by simpa using q), ih]

end Law

namespace Law
open PySem PySem.Spec PyProof.Rows L2 Go
--# math fstn
--# math tabt
/-! the layers from the end and the first way -/
def tailsR (rows : List (List Nat)) (v : List Nat) : List (List Nat) := headsR (rows.map List.reverse) v
theorem tails_rw {rows : List (List Nat)} {v : List Nat} {i : Nat} (hi : i < rows.length) : rw' (tailsR rows v) i = (rw' rows i).drop ((rw' rows i).length - v.getD i 0) := by
  unfold tailsR
  rw [rw_heads (by rw [List.length_map]; exact hi), revR_rw, List.take_reverse, List.reverse_reverse]
theorem tails_len (rows : List (List Nat)) (v : List Nat) : (tailsR rows v).length = rows.length := by unfold tailsR; rw [heads_len, List.length_map]
theorem wavM_tails (rows : List (List Nat)) (t v : List Nat) (m : Nat) : wavM (rows.map List.reverse) t.reverse m v = wavN (t.drop (t.length - m)) (tailsR rows v) := by
  unfold wavM tailsR
  rw [List.take_reverse, List.reverse_reverse]
theorem tails_all (rows : List (List Nat)) : tailsR rows (lensR rows) = rows := by
  unfold tailsR
  rw [← lensR_rev, heads_lens, List.map_map]
  exact (List.map_congr_left fun z _ => List.reverse_reverse z).trans (List.map_id' rows)
theorem okV_rev {rows : List (List Nat)} {v : List Nat} : OkV (rows.map List.reverse) v ↔ OkV rows v := by
  unfold OkV
  rw [List.length_map]
  constructor
  · rintro ⟨h1, h2⟩
    exact ⟨h1, fun i hi => by have := h2 i hi; rwa [revR_rw, List.length_reverse] at this⟩
  · rintro ⟨h1, h2⟩
    exact ⟨h1, fun i hi => by rw [revR_rw, List.length_reverse]; exact h2 i hi⟩
theorem tails_set {rows : List (List Nat)} {v : List Nat} {i : Nat} (hv : OkV rows v) (hi : i < rows.length) (h0 : 0 < v.getD i 0) : tailsR rows (v.set i (v.getD i 0 - 1)) = (tailsR rows v).set i (rw' (tailsR rows v) i).tail := by
  have hl := hv.2 i hi
  rw [tails_rw hi, List.tail_drop]
  unfold tailsR
  rw [heads_set (by rw [List.length_map]; exact hi) (by rw [List.length_map]; exact hv.1), revR_rw, List.take_reverse, List.reverse_reverse, show (rw' rows i).length - (v.getD i 0 - 1) = (rw' rows i).length - v.getD i 0 + 1 by omega]
theorem tails_head {rows : List (List Nat)} {v : List Nat} {i c : Nat} (hv : OkV rows v) (hi : i < rows.length) : (rw' (tailsR rows v) i).head? = some c ↔ 0 < v.getD i 0 ∧ (rw' rows i).getD ((rw' rows i).length - v.getD i 0) 0 = c := by
  have hl := hv.2 i hi
  rw [tails_rw hi, List.head?_drop]
  by_cases q : 0 < v.getD i 0
  · rw [gd_get (by omega)]
    exact ⟨fun h => ⟨q, Option.some.inj h⟩, fun h => by rw [h.2]⟩
  · rw [List.getElem?_eq_none (by omega)]
    exact ⟨(fun h => nomatch h), fun h => absurd h.1 q⟩
/-- whether the i-th row's letter may go ahead, by the layer behind -/
theorem stp_key {rows : List (List Nat)} {t v : List Nat} {m i p : Nat} (hv : OkV rows v) (hi : i < rows.length) (hp : p < t.length) (hm : m = t.length - 1 - p) :
    stpB (t.getD p 0) (t.drop (p + 1)) (tailsR rows v) i = decide (0 < v.getD i 0 ∧ (rw' rows i).getD ((rw' rows i).length - v.getD i 0) 0 = t.getD p 0 ∧ 0 < wavM (rows.map List.reverse) t.reverse m (v.set i (v.getD i 0 - 1))) := by
  unfold stpB
  rw [decide_eq_decide, tails_head hv hi, and_assoc]
  by_cases q : 0 < v.getD i 0
  · rw [wavM_tails, tails_set hv hi q, show t.length - m = p + 1 by omega]
  · exact ⟨fun h => absurd h.1 q, fun h => absurd h.1 q⟩
theorem drop_cons {t : List Nat} {p : Nat} (hp : p < t.length) : t.drop p = t.getD p 0 :: t.drop (p + 1) := by
  rw [List.drop_eq_getElem_cons hp, List.getD_eq_getElem?_getD, List.getElem?_eq_getElem hp]; rfl
/-- what is taken so far, what is left of each row -/
structure Fst (rows : List (List Nat)) (t : List Nat) (p : Nat) (v found : List Nat) : Prop where
  ok : OkV rows v
  pos : 0 < wavM (rows.map List.reverse) t.reverse (t.length - p) v
  so : found ++ fstN (t.drop p) (tailsR rows v) = fstN t rows
theorem Fst.first {rows : List (List Nat)} {t : List Nat} (h : 0 < wavN t rows) : Fst rows t 0 (lensR rows) [] := by
  refine ⟨okV_lens rows, ?_, by rw [tails_all]; rfl⟩
  rw [wavM_tails, tails_all, Nat.sub_zero, Nat.sub_self]; exact h
theorem Fst.last {rows : List (List Nat)} {t v found : List Nat} (h : Fst rows t t.length v found) : found = fstN t rows := by
  have := h.so
  rw [List.drop_length] at this
  rwa [show fstN [] (tailsR rows v) = [] from rfl, List.append_nil] at this
theorem Fst.ex {rows : List (List Nat)} {t v found : List Nat} {p : Nat} (h : Fst rows t p v found) (hp : p < t.length) : ∃ i, i < rows.length ∧ stpB (t.getD p 0) (t.drop (p + 1)) (tailsR rows v) i = true := by
  have := h.pos
  rw [wavM_tails, show t.length - (t.length - p) = p by omega, drop_cons hp] at this
  obtain ⟨i, h1, h2⟩ := wav_some this
  exact ⟨i, by rwa [tails_len] at h1, h2⟩
theorem Fst.next {rows : List (List Nat)} {t v found : List Nat} {p i : Nat} (h : Fst rows t p v found) (hp : p < t.length) (hi : i < rows.length) (hs : stpB (t.getD p 0) (t.drop (p + 1)) (tailsR rows v) i = true) (hn : ∀ j, j < i → stpB (t.getD p 0) (t.drop (p + 1)) (tailsR rows v) j = false) :
    0 < v.getD i 0 ∧ Fst rows t (p + 1) (v.set i (v.getD i 0 - 1)) (found ++ [i]) := by
  have hk := hs
  rw [stp_key h.ok hi hp (m := t.length - (p + 1)) (by omega)] at hk
  obtain ⟨h1, h2, h3⟩ := of_decide_eq_true hk
  refine ⟨h1, h.ok.set hi (by have := h.ok.2 i hi; omega), h3, ?_⟩
  have := h.so
  rw [drop_cons hp, fst_at (by rw [tails_len]; exact hi) hs hn] at this
  rw [tails_set h.ok hi h1, List.append_assoc, List.singleton_append]
  exact this
theorem TabT.has {rows : List (List Nat)} {F : List Nat → Nat} {kvs : List (List Key × V)} (h : TabT rows F kvs) {v : List Nat} (hv : OkV rows v) : (valV kvs (keyV v)).isSome = decide (0 < F v) := by
  by_cases q : 0 < F v
  · obtain ⟨e, he, ex⟩ := List.mem_map.mp (h.full v hv q)
    rw [← ex, val_of_mem h.nd he, decide_eq_true q]; rfl
  · rw [decide_eq_false q]
    cases e : valV kvs (keyV v) with
    | none => rfl
    | some x =>
      obtain ⟨w, e1, _, hp⟩ := h.key _ (mem_of_val e)
      rw [Prod.mk.injEq] at e1
      have := keyV_inj e1.1
      subst this
      exact absurd hp q
/-- so many taken, of the i-th row one fewer, or -1 -/
def fewK (u : List Nat) (i : Nat) : List Key := ((keyV u).take i ++ [Sum.inl (((u.getD i 0 : Nat) : Int) - 1)]) ++ (keyV u).drop (i + 1)
theorem fewK_map (u : List Nat) (i : Nat) : (((keyV u).map kV).take i ++ [V.int (((u.getD i 0 : Nat) : Int) - 1)]) ++ ((keyV u).map kV).drop (i + 1) = (fewK u i).map kV := by
  unfold fewK
  rw [List.map_append, List.map_append, List.map_take, List.map_drop]; rfl
theorem fewK_set {u : List Nat} {i : Nat} (hi : i < u.length) (h : 0 < u.getD i 0) : fewK u i = keyV (u.set i (u.getD i 0 - 1)) := by
  unfold fewK
  rw [List.set_eq_take_append_cons_drop, if_pos hi, List.append_assoc, show (Sum.inl (((u.getD i 0 : Nat) : Int) - 1) : Key) = Sum.inl (((u.getD i 0 - 1 : Nat)) : Int) by rw [show (((u.getD i 0 : Nat) : Int) - 1) = (((u.getD i 0 - 1 : Nat)) : Int) by omega]]
  unfold keyV
  rw [List.map_append, List.map_cons, List.map_take, List.map_drop]; rfl
theorem keyV_nat {v : List Nat} {k : Int} (h : (Sum.inl k : Key) ∈ keyV v) : 0 ≤ k := by
  unfold keyV at h
  obtain ⟨n, _, e⟩ := List.mem_map.mp h
  rw [Sum.inl.injEq] at e
  omega
theorem TabT.few {rows : List (List Nat)} {F : List Nat → Nat} {kvs : List (List Key × V)} (h : TabT rows F kvs) {u : List Nat} {i : Nat} (hu : OkV rows u) (hi : i < rows.length) : (valV kvs (fewK u i)).isSome = decide (0 < u.getD i 0 ∧ 0 < F (u.set i (u.getD i 0 - 1))) := by
  by_cases q : 0 < u.getD i 0
  · rw [fewK_set (by rw [hu.1]; exact hi) q, h.has (hu.set hi (by have := hu.2 i hi; omega)), decide_eq_decide]
    exact ⟨fun z => ⟨q, z⟩, fun z => z.2⟩
  · rw [decide_eq_false fun z => q z.1]
    cases e : valV kvs (fewK u i) with
    | none => rfl
    | some x =>
      obtain ⟨w, e1, _⟩ := h.key _ (mem_of_val e)
      rw [Prod.mk.injEq] at e1
      have : (Sum.inl (((u.getD i 0 : Nat) : Int) - 1) : Key) ∈ keyV w := by rw [← e1.1]; unfold fewK; simp
      have := keyV_nat this
      omega

end Law

namespace Law
open PySem PySem.Spec PyProof.Rows L2 Go
/-- signs of letters -/
abbrev sgn (x : Nat) : V := .str (S [x])
def LetL (l : List Nat) : Prop := ∀ x ∈ l, 97 ≤ x ∧ x ≤ 122
theorem LetL.app {a b : List Nat} (h : LetL a) (k : LetL b) : LetL (a ++ b) := fun x hx => (List.mem_append.mp hx).elim (h x) (k x)
theorem LetL.one {x : Nat} (h : 97 ≤ x ∧ x ≤ 122) : LetL [x] := fun y hy => by rw [List.mem_singleton.mp hy]; exact h
theorem LetL.nil : LetL [] := fun _ h => nomatch h
theorem atI_ls {ls : List Nat} {i : Int} (h0 : 0 ≤ i) (h1 : i < (ls.length : Int)) : ∃ x, x ∈ ls ∧ atI (ls.map sgn) i = some (sgn x) := by
  obtain ⟨k, rfl⟩ := Int.eq_ofNat_of_zero_le h0
  have hk : k < ls.length := by omega
  exact ⟨ls[k], List.getElem_mem hk, atI_get (by rw [List.getElem?_map, List.getElem?_eq_getElem hk]; rfl)⟩
theorem p_cellI {X : Cx} {G H : Hp} {C : List (Addr × HO)} {p : Addr} {xs : List V} {i : Int} {v : V} {R : Hp → Prop} (O : Own G ((p, .lst xs) :: C) H) (h0 : 0 ≤ i) (h1 : i < (xs.length : Int)) (h : ∀ H', Own G ((p, .lst (xs.set i.toNat v)) :: C) H' → R H') : pS X (.ref p) (.int i) v H R :=
  p_lst O.at (m := i.toNat) (by unfold ixN; rw [if_pos h0, if_pos (by omega)]) (h _ O.write)
theorem LetL.set {zs : List Nat} {i x : Nat} (h : LetL zs) (hx : 97 ≤ x ∧ x ≤ 122) : LetL (zs.set i x) := fun y hy => by
  rcases List.mem_or_eq_of_mem_set hy with h1 | rfl
  · exact h y h1
  · exact hx
theorem LetL.rep {n x : Nat} (hx : 97 ≤ x ∧ x ≤ 122) : LetL (List.replicate n x) := fun y hy => by rw [(List.mem_replicate.mp hy).2]; exact hx

end Law

namespace Law
open PySem PySem.Spec PyProof.Rows L2 Go
--# math fstm
/-! the layers' dicts with truths -/
structure TabB (rows : List (List Nat)) (P : List Nat → Prop) (kvs : List (List Key × V)) : Prop where
  nd : (kvs.map (·.1)).Nodup
  key : ∀ e ∈ kvs, ∃ v : List Nat, e = (keyV v, .bl true) ∧ OkV rows v ∧ P v
  full : ∀ v, OkV rows v → P v → keyV v ∈ kvs.map (·.1)
theorem TabB.nil (rows : List (List Nat)) : TabB rows (fun _ => False) [] := ⟨List.nodup_nil, (fun _ h => nomatch h), fun _ _ h => h.elim⟩
theorem TabB.congr {rows : List (List Nat)} {P P' : List Nat → Prop} {kvs : List (List Key × V)} (h : TabB rows P kvs) (e : ∀ v, OkV rows v → (P' v ↔ P v)) : TabB rows P' kvs :=
  ⟨h.nd, fun x hx => by
    obtain ⟨v, e1, e2, e3⟩ := h.key x hx
    exact ⟨v, e1, e2, (e v e2).mpr e3⟩, fun v hv hp => h.full v hv ((e v hv).mp hp)⟩
theorem TabB.put {rows : List (List Nat)} {P : List Nat → Prop} {kvs : List (List Key × V)} (h : TabB rows P kvs) {w : List Nat} (hw : OkV rows w) : TabB rows (fun v => P v ∨ v = w) (putK kvs (keyV w) (.bl true)) := by
  refine ⟨nd_put2 _ _ h.nd, fun e he => ?_, fun v hv hp => ?_⟩
  · rcases mem_putK he with rfl | ⟨he, hne⟩
    · exact ⟨w, rfl, hw, .inr rfl⟩
    · obtain ⟨v, e1, e2, e3⟩ := h.key e he
      exact ⟨v, e1, e2, .inl e3⟩
  · by_cases q : v = w
    · subst q
      exact key_of_val (v := .bl true) (by rw [valV_put, if_pos rfl])
    · have hp : P v := hp.elim id fun z => absurd z q
      obtain ⟨e, he, ex⟩ := List.mem_map.mp (h.full v hv hp)
      have hv2 : valV kvs (keyV v) = some e.2 := by rw [← ex]; exact val_of_mem h.nd he
      exact key_of_val (v := e.2) (by rw [valV_put, if_neg fun z => q (keyV_inj z)]; exact hv2)
/-- the same keys, with counts -/
def cntK (F : List Nat → Nat) (kvs : List (List Key × V)) : List (List Key × V) := kvs.map fun e => (e.1, V.int (F (unkey e.1) : Nat))
theorem cntK_keys (F : List Nat → Nat) (kvs : List (List Key × V)) : (cntK F kvs).map (·.1) = kvs.map (·.1) := by unfold cntK; rw [List.map_map]; rfl
theorem TabB.tab {rows : List (List Nat)} {F : List Nat → Nat} {kvs : List (List Key × V)} (h : TabB rows (fun v => 0 < F v) kvs) : TabT rows F (cntK F kvs) := by
  refine ⟨by rw [cntK_keys]; exact h.nd, fun e he => ?_, fun v hv hp => by rw [cntK_keys]; exact h.full v hv hp⟩
  obtain ⟨x, hx, rfl⟩ := List.mem_map.mp he
  obtain ⟨v, e1, e2, e3⟩ := h.key x hx
  refine ⟨v, ?_, e2, e3⟩
  rw [e1]
  show (keyV v, V.int (F (unkey (keyV v)) : Nat)) = _
  rw [unkey_keyV]
theorem giveL_cnt (rows : List (List Nat)) (c : Nat) (F : List Nat → Nat) (kvs : List (List Key × V)) (v : List Nat) : giveL rows c F (cntK F kvs) v = giveL rows c F kvs v := by
  unfold giveL cntK
  rw [List.map_map]; rfl
theorem TabB.all {rows : List (List Nat)} {t v : List Nat} {m c : Nat} {kvs : List (List Key × V)} (h : TabB rows (fun v => 0 < wavM rows t m v) kvs) (hm : m < t.length) (hc : t.getD m 0 = c) (hv : OkV rows v) : wavM rows t (m + 1) v = giveL rows c (wavM rows t m) kvs v := by
  rw [giveL_all h.tab hm hc hv, giveL_cnt]
theorem TabB.has {rows : List (List Nat)} {F : List Nat → Nat} {kvs : List (List Key × V)} (h : TabB rows (fun v => 0 < F v) kvs) {v : List Nat} (hv : OkV rows v) : (valV kvs (keyV v)).isSome = decide (0 < F v) := by
  by_cases q : 0 < F v
  · obtain ⟨e, he, ex⟩ := List.mem_map.mp (h.full v hv q)
    rw [← ex, val_of_mem h.nd he, decide_eq_true q]; rfl
  · rw [decide_eq_false q]
    cases e : valV kvs (keyV v) with
    | none => rfl
    | some x =>
      obtain ⟨w, e1, _, hp⟩ := h.key _ (mem_of_val e)
      rw [Prod.mk.injEq] at e1
      have := keyV_inj e1.1
      subst this
      exact absurd hp q
theorem TabB.len {rows : List (List Nat)} {F : List Nat → Nat} {kvs : List (List Key × V)} (h : TabB rows (fun v => 0 < F v) kvs) : kvs.length ≤ boxN rows := by
  have := h.tab.len
  unfold cntK at this
  rwa [List.length_map] at this
theorem TabB.first (rows : List (List Nat)) (t : List Nat) : TabB rows (fun v => 0 < wavM rows t 0 v) [(keyV (List.replicate rows.length 0), .bl true)] := by
  have := (TabB.nil rows).put (okV_zero rows)
  refine TabB.congr this fun v hv => ?_
  rw [wavM_zero t hv]
  by_cases q : v = List.replicate rows.length 0
  · rw [if_pos q]; exact ⟨fun _ => .inr q, fun _ => by decide⟩
  · rw [if_neg q]; exact ⟨fun h => absurd h (by decide), fun h => h.elim (fun z => z.elim) fun z => absurd z q⟩
theorem TabB.box {rows : List (List Nat)} {P : List Nat → Prop} {kvs : List (List Key × V)} (h : TabB rows P kvs) (hb : boxN rows < 900000) : kvs.length < 1000000 := by
  classical
  have h2 : TabB rows (fun v => 0 < (fun v => if P v then 1 else 0) v) kvs := h.congr fun v _ => by
    show 0 < (if P v then 1 else 0) ↔ P v
    split
    · rename_i p; exact ⟨fun _ => p, fun _ => by decide⟩
    · rename_i p; exact ⟨fun h => absurd h (by decide), fun h => absurd h p⟩
  have := h2.len
  omega

end Law

namespace Law
open PySem PySem.Spec PyProof.Rows L2 Go
/-- what is no side of a loom -/
inductive SideBad (G : Hp) : V → Prop
  | non : SideBad G .non
  | bl (b : Bool) : SideBad G (.bl b)
  | int {i : Int} (h : ¬ (0 ≤ i ∧ i ≤ 2)) : SideBad G (.int i)
  | str (z : List Nat) : SideBad G (.str (S z))
  | lst {p : Addr} {xs : List V} (h : G p = some (.lst xs)) : SideBad G (.ref p)
  | tup {p : Addr} {xs : List V} (h : G p = some (.tup xs)) : SideBad G (.ref p)
  | dK {p : Addr} {kvs : List (Key × V)} (h : G p = some (.dK kvs)) : SideBad G (.ref p)
theorem SideBad.up {G G' : Hp} {v : V} (h : SideBad G v) (s : Same G G') : SideBad G' v := by
  cases h with
  | non => exact .non
  | bl b => exact .bl b
  | int h => exact .int h
  | str z => exact .str z
  | lst h => exact .lst (s _ _ h)
  | tup h => exact .tup (s _ _ h)
  | dK h => exact .dK (s _ _ h)
/-- what is no small letter -/
inductive LetBad (G : Hp) : V → Prop
  | non : LetBad G .non
  | bl (b : Bool) : LetBad G (.bl b)
  | int (i : Int) : LetBad G (.int i)
  | str {z : List Nat} (h : ¬ z.length = 1) (hl : z.length ≤ 1000) : LetBad G (.str (S z))
  | one {x : Nat} (h : ¬ (97 ≤ x ∧ x ≤ 122)) : LetBad G (.str (S [x]))
  | lst {p : Addr} {xs : List V} (h : G p = some (.lst xs)) : LetBad G (.ref p)
  | tup {p : Addr} {xs : List V} (h : G p = some (.tup xs)) : LetBad G (.ref p)
  | dK {p : Addr} {kvs : List (Key × V)} (h : G p = some (.dK kvs)) : LetBad G (.ref p)
theorem LetBad.up {G G' : Hp} {v : V} (h : LetBad G v) (s : Same G G') : LetBad G' v := by
  cases h with
  | non => exact .non
  | bl b => exact .bl b
  | int i => exact .int i
  | str h hl => exact .str h hl
  | one h => exact .one h
  | lst h => exact .lst (s _ _ h)
  | tup h => exact .tup (s _ _ h)
  | dK h => exact .dK (s _ _ h)
theorem atI_all {p : V → Prop} {xs : List V} {k : Int} (h : ∀ v ∈ xs, p v) (h0 : 0 ≤ k) (h1 : k < xs.length) : ∃ v, atI xs k = some v ∧ p v := by
  obtain ⟨n, rfl⟩ := Int.eq_ofNat_of_zero_le h0
  have hn : n < xs.length := by omega
  exact ⟨xs[n], atI_get (List.getElem?_eq_getElem hn), h _ (List.getElem_mem hn)⟩
def badB (z : List Nat) : Bool := decide (z.length ≤ 1000) && (!decide (z.length = 1) || z.all fun x => !(decide (97 ≤ x) && decide (x ≤ 122)))
theorem LetBad.ofB {G : Hp} {z : List Nat} (h : badB z = true) : LetBad G (.str (S z)) := by
  unfold badB at h
  simp only [Bool.and_eq_true, Bool.or_eq_true, Bool.not_eq_true', decide_eq_true_eq, decide_eq_false_iff_not] at h
  obtain ⟨h1, h2⟩ := h
  by_cases e : z.length = 1
  · obtain ⟨x, rfl⟩ := List.length_eq_one_iff.mp e
    rcases h2 with h2 | h2
    · exact absurd e h2
    · exact .one (by simp at h2; omega)
  · exact .str e h1

end Law

namespace Law
open PySem PySem.Spec PyProof.Rows L2 Go
/-- a known thing taken out as a cell -/
def dropG (G : Hp) (r : Addr) : Hp := fun b => if b = r then none else G b
theorem Own.melt {G H : Hp} {C : List (Addr × HO)} {r : Addr} {o : HO} (O : Own G C H) (hr : G r = some o) : Own (dropG G r) ((r, o) :: C) H := by
  refine ⟨fun b x e => ?_, fun q hq => ?_, ?_⟩
  · unfold dropG at e
    split at e
    · cases e
    · exact O.same b x e
  · rcases List.mem_cons.mp hq with rfl | hq
    · exact ⟨O.same _ _ hr, by unfold dropG; rw [if_pos rfl]⟩
    · have := O.own q hq
      refine ⟨this.1, ?_⟩
      unfold dropG
      split
      · rfl
      · exact this.2
  · rw [List.map_cons, List.nodup_cons]
    refine ⟨fun hm => ?_, O.nd⟩
    obtain ⟨q, hq, e⟩ := List.mem_map.mp hm
    have := (O.own q hq).2
    rw [e, hr] at this
    cases this
theorem dropG_ne {G : Hp} {r p : Addr} {x : HO} (h : p ≠ r) (e : G p = some x) : dropG G r p = some x := by unfold dropG; rw [if_neg h]; exact e
theorem same_melt {G0 G1 G H1 H2 : Hp} {C1 : List (Addr × HO)} {r : Addr} {o : HO} (O : Own G1 C1 H1) (n : New H1 r o H2) (s0 : Same G0 G1) (s1 : Same G0 G) : Same G0 (dropG G r) := fun b u e => dropG_ne (fun z => by
  subst z
  have := O.same _ _ (s0 _ _ e)
  rw [n.nw] at this; cases this) (s1 _ _ e)

end Law

namespace Law
open PySem PySem.Spec PyProof.Rows L2 Go
/-- whether t is woven of y and z -/
def canB : List Nat → List Nat → List Nat → Bool
  | y, z, [] => y.isEmpty && z.isEmpty
  | y, z, c :: t => (y.head? == some c && canB y.tail z t) || (z.head? == some c && canB y z.tail t)
/-- .. of the rests behind i and j letters -/
def canT (y z t : List Nat) (i j : Nat) : Bool := canB (y.drop i) (z.drop j) (t.drop (i + j))
theorem canT_end {y z t : List Nat} (h : t.length = y.length + z.length) : canT y z t y.length z.length = true := by
  unfold canT
  rw [List.drop_length, List.drop_length, ← h, List.drop_length]
  rfl
theorem canT_step {y z t : List Nat} {i j : Nat} (h : t.length = y.length + z.length) (hi : i ≤ y.length) (hj : j ≤ z.length) (hn : ¬ (i = y.length ∧ j = z.length)) :
    canT y z t i j = ((decide (i < y.length) && decide (y[i]? = t[i + j]?) && canT y z t (i + 1) j) || (decide (j < z.length) && decide (z[j]? = t[i + j]?) && canT y z t i (j + 1))) := by
  have hk : i + j < t.length := by omega
  unfold canT
  rw [List.drop_eq_getElem_cons hk, canB, List.head?_drop, List.head?_drop, List.tail_drop, List.tail_drop, List.getElem?_eq_getElem hk, show i + 1 + j = i + j + 1 by omega, show i + (j + 1) = i + j + 1 by omega]
  have be : ∀ a b : Option Nat, (a == b) = decide (a = b) := fun a b => by rw [Bool.eq_iff_iff]; simp
  have e1 : (y[i]? == some t[i + j]) = (decide (i < y.length) && decide (y[i]? = some t[i + j])) := by
    by_cases hl : i < y.length
    · rw [decide_eq_true hl, Bool.true_and, be]
    · rw [decide_eq_false hl, List.getElem?_eq_none (by omega)]; rfl
  have e2 : (z[j]? == some t[i + j]) = (decide (j < z.length) && decide (z[j]? = some t[i + j])) := by
    by_cases hl : j < z.length
    · rw [decide_eq_true hl, Bool.true_and, be]
    · rw [decide_eq_false hl, List.getElem?_eq_none (by omega)]; rfl
  rw [e1, e2]
/-- the key of a table -/
abbrev ij (i j : Nat) : List Key := [.inl (i : Int), .inl (j : Int)]
theorem ij_inj {i j i' j' : Nat} : ij i j = ij i' j' ↔ i = i' ∧ j = j' := by
  constructor
  · intro h
    simp only [ij, List.cons.injEq, Sum.inl.injEq, and_true] at h
    omega
  · rintro ⟨rfl, rfl⟩; rfl
/-- what a table holds when a whole rows, from behind, and b places of the next are done -/
def Done (n m a b i j : Nat) : Prop := n < i + a ∨ (i + a = n ∧ m < j + b)
instance {n m a b i j : Nat} : Decidable (Done n m a b i j) := inferInstanceAs (Decidable (_ ∨ _))
def CanTab (y z t : List Nat) (kvs : List (List Key × V)) (a b : Nat) : Prop := ∀ i j, i ≤ y.length → j ≤ z.length →
  (valV kvs (ij i j)).isSome = if Done y.length z.length a b i j then canT y z t i j else decide (i = y.length ∧ j = z.length)
theorem CanTab.first (y z t : List Nat) (v : V) : CanTab y z t [(ij y.length z.length, v)] 0 0 := by
  intro i j hi hj
  rw [if_neg (by unfold Done; omega)]
  by_cases h : i = y.length ∧ j = z.length
  · obtain ⟨rfl, rfl⟩ := h
    rw [valV_pos rfl]; simp
  · rw [valV_neg (fun e => h (by have := ij_inj.mp e; exact ⟨this.1.symm, this.2.symm⟩)), decide_eq_false h]; rfl
theorem CanTab.row {y z t : List Nat} {kvs : List (List Key × V)} {a : Nat} (h : CanTab y z t kvs a (z.length + 1)) : CanTab y z t kvs (a + 1) 0 := by
  intro i j hi hj
  rw [h i j hi hj]
  have e : Done y.length z.length a (z.length + 1) i j ↔ Done y.length z.length (a + 1) 0 i j := by unfold Done; omega
  simp only [e]
theorem CanTab.all {y z t : List Nat} {kvs : List (List Key × V)} (h : CanTab y z t kvs (y.length + 1) 0) : ∀ i j, i ≤ y.length → j ≤ z.length → (valV kvs (ij i j)).isSome = canT y z t i j := by
  intro i j hi hj
  rw [h i j hi hj, if_pos (by unfold Done; omega)]
theorem CanTab.step {y z t : List Nat} {kvs k1 k2 : List (List Key × V)} {a b : Nat} {v1 v2 : V} (ht : t.length = y.length + z.length) (h : CanTab y z t kvs a b) (ha : a ≤ y.length) (hb : b ≤ z.length)
    (h1 : k1 = if (decide (y.length - a < y.length) && decide (y[y.length - a]? = t[y.length - a + (z.length - b)]?) && (valV kvs (ij (y.length - a + 1) (z.length - b))).isSome) = true then putK kvs (ij (y.length - a) (z.length - b)) v1 else kvs)
    (h2 : k2 = if (decide (z.length - b < z.length) && decide (z[z.length - b]? = t[y.length - a + (z.length - b)]?) && (valV k1 (ij (y.length - a) (z.length - b + 1))).isSome) = true then putK k1 (ij (y.length - a) (z.length - b)) v2 else k1) :
    CanTab y z t k2 a (b + 1) := by
  generalize hi : y.length - a = i at *
  generalize hj : z.length - b = j at *
  have o1 : ∀ k v i' j', (valV (putK k (ij i j) v) (ij i' j')).isSome = if i' = i ∧ j' = j then true else (valV k (ij i' j')).isSome := by
    intro k v i' j'
    rw [valV_put]
    by_cases e : i' = i ∧ j' = j
    · rw [if_pos (ij_inj.mpr e), if_pos e]; rfl
    · rw [if_neg (fun z => e (ij_inj.mp z)), if_neg e]
  have v1e : ∀ i' j', (valV k1 (ij i' j')).isSome = if i' = i ∧ j' = j then ((decide (i < y.length) && decide (y[i]? = t[i + j]?) && (valV kvs (ij (i + 1) j)).isSome) || (valV kvs (ij i j)).isSome) else (valV kvs (ij i' j')).isSome := by
    intro i' j'
    rw [h1]
    split
    · rename_i hc
      rw [o1 kvs v1, hc]; rfl
    · rename_i hc
      rw [Bool.not_eq_true] at hc
      rw [hc]
      split
      · rename_i e; rw [e.1, e.2]; rfl
      · rfl
  have v2e : ∀ i' j', (valV k2 (ij i' j')).isSome = if i' = i ∧ j' = j then ((decide (j < z.length) && decide (z[j]? = t[i + j]?) && (valV k1 (ij i (j + 1))).isSome) || (valV k1 (ij i j)).isSome) else (valV k1 (ij i' j')).isSome := by
    intro i' j'
    rw [h2]
    split
    · rename_i hc
      rw [o1 k1 v2, hc]; rfl
    · rename_i hc
      rw [Bool.not_eq_true] at hc
      rw [hc]
      split
      · rename_i e; rw [e.1, e.2]; rfl
      · rfl
  intro i' j' hi' hj'
  rw [v2e]
  by_cases e : i' = i ∧ j' = j
  · obtain ⟨rfl, rfl⟩ := e
    rw [if_pos ⟨rfl, rfl⟩, if_pos (by unfold Done; omega), v1e, if_neg (by omega), v1e, if_pos ⟨rfl, rfl⟩, h i' j' hi' hj', if_neg (by unfold Done; omega)]
    by_cases q : i' = y.length ∧ j' = z.length
    · rw [q.1, q.2, canT_end ht]; simp
    · rw [canT_step ht hi' hj' q, decide_eq_false q]
      have e1 : (decide (i' < y.length) && decide (y[i']? = t[i' + j']?) && (valV kvs (ij (i' + 1) j')).isSome) = (decide (i' < y.length) && decide (y[i']? = t[i' + j']?) && canT y z t (i' + 1) j') := by
        by_cases hl : i' < y.length
        · rw [h (i' + 1) j' (by omega) hj', if_pos (by unfold Done; omega)]
        · rw [decide_eq_false hl]; rfl
      have e2 : (decide (j' < z.length) && decide (z[j']? = t[i' + j']?) && (valV kvs (ij i' (j' + 1))).isSome) = (decide (j' < z.length) && decide (z[j']? = t[i' + j']?) && canT y z t i' (j' + 1)) := by
        by_cases hl : j' < z.length
        · rw [h i' (j' + 1) hi' (by omega), if_pos (by unfold Done; omega)]
        · rw [decide_eq_false hl]; rfl
      rw [e1, e2, Bool.or_false, Bool.or_comm]
  · rw [if_neg e, v1e, if_neg e, h i' j' hi' hj']
    have e3 : Done y.length z.length a b i' j' ↔ Done y.length z.length a (b + 1) i' j' := by unfold Done; omega
    simp only [e3]
/-- is_woven -/
def canW (y z t : List Nat) : Bool := decide (t.length = y.length + z.length) && canB y z t
theorem canW_zero {y z t : List Nat} (h : t.length = y.length + z.length) : canW y z t = canT y z t 0 0 := by
  unfold canW canT
  rw [decide_eq_true h, Bool.true_and]
  rfl
theorem canW_no {y z t : List Nat} (h : ¬ t.length = y.length + z.length) : canW y z t = false := by
  unfold canW
  rw [decide_eq_false h]; rfl
/-- a letters of y, k - a of z are taken behind k signs of the text -/
def Back (y z t : List Nat) (k a : Nat) : Prop := t.length = y.length + z.length ∧ a ≤ y.length ∧ a ≤ k ∧ k - a ≤ z.length ∧ canT y z t a (k - a) = true
theorem Back.zero {y z t : List Nat} : Back y z t 0 0 ↔ canW y z t = true := by
  unfold Back canW
  rw [Bool.and_eq_true, decide_eq_true_eq]
  constructor
  · rintro ⟨h, _, _, _, e⟩; exact ⟨h, e⟩
  · rintro ⟨h, e⟩; exact ⟨h, Nat.zero_le _, Nat.le_refl _, Nat.zero_le _, e⟩
theorem Back.last {y z t : List Nat} (h : t.length = y.length + z.length) (a : Nat) : Back y z t t.length a ↔ a = y.length := by
  unfold Back
  constructor
  · rintro ⟨_, h1, h2, h3, _⟩; omega
  · rintro rfl
    refine ⟨h, Nat.le_refl _, by omega, by omega, ?_⟩
    rw [show t.length - y.length = z.length by omega]; exact canT_end h
theorem Back.step {y z t : List Nat} {k a : Nat} (h : t.length = y.length + z.length) (hk : k < t.length) (h1 : a ≤ y.length) (h2 : a ≤ k) (h3 : k - a ≤ z.length) :
    Back y z t k a ↔ ((a < y.length ∧ y[a]? = t[k]? ∧ Back y z t (k + 1) (a + 1)) ∨ (k - a < z.length ∧ z[k - a]? = t[k]? ∧ Back y z t (k + 1) a)) := by
  have e0 : Back y z t k a ↔ canT y z t a (k - a) = true := ⟨fun z => z.2.2.2.2, fun z => ⟨h, h1, h2, h3, z⟩⟩
  rw [e0, canT_step h h1 h3 (by omega), show a + (k - a) = k by omega]
  simp only [Bool.or_eq_true, Bool.and_eq_true, decide_eq_true_eq]
  constructor
  · rintro (⟨⟨p, q⟩, r⟩ | ⟨⟨p, q⟩, r⟩)
    · exact .inl ⟨p, q, h, by omega, by omega, by omega, by rw [show k + 1 - (a + 1) = k - a by omega]; exact r⟩
    · exact .inr ⟨p, q, h, by omega, by omega, by omega, by rw [show k + 1 - a = k - a + 1 by omega]; exact r⟩
  · rintro (⟨p, q, r⟩ | ⟨p, q, r⟩)
    · have r := r.2.2.2.2
      rw [show k + 1 - (a + 1) = k - a by omega] at r
      exact .inl ⟨⟨p, q⟩, r⟩
    · have r := r.2.2.2.2
      rw [show k + 1 - a = k - a + 1 by omega] at r
      exact .inr ⟨⟨p, q⟩, r⟩
/-- a list of the places of the first row, behind k signs -/
def BackL (y z t : List Nat) (k : Nat) (xs : List Int) : Prop := ∀ i : Int, i ∈ xs ↔ ∃ a : Nat, i = (a : Int) ∧ Back y z t k a
theorem BackL.zero {y z t : List Nat} {xs : List Int} (h : BackL y z t 0 xs) : decide ((0 : Int) ∈ xs) = canW y z t := by
  rw [Bool.eq_iff_iff, decide_eq_true_eq, h, ← Back.zero]
  constructor
  · rintro ⟨a, e, b⟩
    rw [show a = 0 by omega] at b
    exact b
  · intro b; exact ⟨0, rfl, b⟩

end Law

namespace Law
open PySem PySem.Spec PyProof.Rows L2 Go
--# math can
/-- the way that takes of the row that goes ahead wherever it can -/
def greedy (a0 : Bool) : List Nat → List Nat → List Nat → List Nat
  | _, _, [] => []
  | y, z, c :: t => if ((y.head? == some c && canB y.tail z t) && (a0 || !(z.head? == some c && canB y z.tail t))) = true then 48 :: greedy a0 y.tail z t else 49 :: greedy a0 y z.tail t
def greedT (a0 : Bool) (y z t : List Nat) (i j : Nat) : List Nat := greedy a0 (y.drop i) (z.drop j) (t.drop (i + j))
/-- a text or None -/
def optV : Option (List Nat) → V
  | none => .non
  | some z => .str (S z)
def endW (a0 : Bool) (y z t : List Nat) : Option (List Nat) := if canW y z t = true then some (greedy a0 y z t) else none
theorem greedT_step {a0 : Bool} {y z t : List Nat} {i j : Nat} (h : t.length = y.length + z.length) (hi : i ≤ y.length) (hj : j ≤ z.length) (hk : i + j < t.length) :
    greedT a0 y z t i j = if ((decide (i < y.length) && decide (y[i]? = t[i + j]?) && canT y z t (i + 1) j) && (a0 || !(decide (j < z.length) && decide (z[j]? = t[i + j]?) && canT y z t i (j + 1)))) = true then 48 :: greedT a0 y z t (i + 1) j else 49 :: greedT a0 y z t i (j + 1) := by
  unfold greedT canT
  rw [List.drop_eq_getElem_cons hk, greedy, List.head?_drop, List.head?_drop, List.tail_drop, List.tail_drop, List.getElem?_eq_getElem hk, show i + 1 + j = i + j + 1 by omega, show i + (j + 1) = i + j + 1 by omega]
  have be : ∀ a b : Option Nat, (a == b) = decide (a = b) := fun a b => by rw [Bool.eq_iff_iff]; simp
  have e1 : (y[i]? == some t[i + j]) = (decide (i < y.length) && decide (y[i]? = some t[i + j])) := by
    by_cases hl : i < y.length
    · rw [decide_eq_true hl, Bool.true_and, be]
    · rw [decide_eq_false hl, List.getElem?_eq_none (by omega)]; rfl
  have e2 : (z[j]? == some t[i + j]) = (decide (j < z.length) && decide (z[j]? = some t[i + j])) := by
    by_cases hl : j < z.length
    · rw [decide_eq_true hl, Bool.true_and, be]
    · rw [decide_eq_false hl, List.getElem?_eq_none (by omega)]; rfl
  rw [e1, e2]
theorem greedT_end {a0 : Bool} {y z t : List Nat} {i j : Nat} (hk : t.length ≤ i + j) : greedT a0 y z t i j = [] := by
  unfold greedT
  rw [List.drop_eq_nil_of_le hk]
  unfold greedy; rfl
/-- by the places that go: the tests of a turn -/
theorem back_one {y z t : List Nat} {i j : Nat} {xn : List Int} (h : t.length = y.length + z.length) (hx : BackL y z t (i + j + 1) xn) (hj : j ≤ z.length) (hk : i + j < t.length) :
    (decide ((i : Int) < (y.length : Int)) && (decide (y.getD i 0 = t.getD (i + j) 0) && decide ((i : Int) + 1 ∈ xn))) = (decide (i < y.length) && decide (y[i]? = t[i + j]?) && canT y z t (i + 1) j) := by
  rw [← Bool.and_assoc, gd_and hk]
  by_cases hi : i < y.length
  · rw [decide_eq_true hi, Bool.true_and]
    congr 1
    rw [Bool.eq_iff_iff, decide_eq_true_eq, hx]
    constructor
    · rintro ⟨a, e, b⟩
      have e : a = i + 1 := by omega
      subst e
      have := b.2.2.2.2
      rwa [show i + j + 1 - (i + 1) = j by omega] at this
    · intro e
      exact ⟨i + 1, by omega, h, by omega, by omega, by omega, by rwa [show i + j + 1 - (i + 1) = j by omega]⟩
  · rw [decide_eq_false hi, List.getElem?_eq_none (by omega), List.getElem?_eq_getElem hk]; rfl
theorem back_two {y z t : List Nat} {i j : Nat} {xn : List Int} (h : t.length = y.length + z.length) (hx : BackL y z t (i + j + 1) xn) (hi : i ≤ y.length) (hk : i + j < t.length) :
    (decide ((j : Int) < (z.length : Int)) && (decide (z.getD j 0 = t.getD (i + j) 0) && decide ((i : Int) ∈ xn))) = (decide (j < z.length) && decide (z[j]? = t[i + j]?) && canT y z t i (j + 1)) := by
  rw [← Bool.and_assoc, gd_and hk]
  by_cases hj : j < z.length
  · rw [decide_eq_true hj, Bool.true_and]
    congr 1
    rw [Bool.eq_iff_iff, decide_eq_true_eq, hx]
    constructor
    · rintro ⟨a, e, b⟩
      have e : a = i := by omega
      subst e
      have := b.2.2.2.2
      rwa [show a + j + 1 - a = j + 1 by omega] at this
    · intro e
      exact ⟨i, rfl, h, by omega, by omega, by omega, by rwa [show i + j + 1 - i = j + 1 by omega]⟩
  · rw [decide_eq_false hj, List.getElem?_eq_none (by omega), List.getElem?_eq_getElem hk]; rfl

end Law

namespace Law
open PySem PySem.Spec PyProof.Rows L2 Go
--# math ends
/-- all ways that weave, in order -/
def allA : List Nat → List Nat → List Nat → List (List Nat)
  | y, z, [] => if y = [] ∧ z = [] then [[]] else []
  | y, z, c :: t => (if y.head? = some c then (allA y.tail z t).map (48 :: ·) else []) ++ (if z.head? = some c then (allA y z.tail t).map (49 :: ·) else [])
theorem canB_all : ∀ (t y z : List Nat), canB y z t = true ↔ allA y z t ≠ []
  | [], y, z => by unfold canB allA; cases y <;> cases z <;> simp
  | c :: t, y, z => by
    have h1 := canB_all t y.tail z
    have h2 := canB_all t y z.tail
    unfold canB allA
    rw [Bool.or_eq_true, Bool.and_eq_true, Bool.and_eq_true, h1, h2, beq_iff_eq, beq_iff_eq]
    by_cases e1 : y.head? = some c <;> by_cases e2 : z.head? = some c <;> simp [e1, e2]
    constructor
    · rintro (h | h) <;> intro h' <;> first | exact absurd h' h | (intro h2; exact h h2)
    · intro h
      by_cases q : allA y.tail z t = []
      · exact .inr (h q)
      · exact .inl q
theorem all_head : ∀ (t y z : List Nat), (allA y z t).head? = if canB y z t = true then some (greedy true y z t) else none
  | [], y, z => by unfold canB allA greedy; cases y <;> cases z <;> simp
  | c :: t, y, z => by
    have h1 := all_head t y.tail z
    have h2 := all_head t y z.tail
    unfold canB allA greedy
    by_cases e1 : y.head? = some c
    · by_cases k1 : canB y.tail z t = true
      · rw [if_pos k1] at h1
        have g : (y.head? == some c && canB y.tail z t) = true := by rw [beq_iff_eq.mpr e1, k1]; rfl
        rw [g, if_pos e1, List.head?_append, List.head?_map, h1]
        rfl
      · have n1 : allA y.tail z t = [] := by
          have := mt (canB_all t y.tail z).mpr k1
          simpa using this
        have g : (y.head? == some c && canB y.tail z t) = false := by rw [Bool.eq_false_iff.mpr k1, Bool.and_false]
        rw [g, if_pos e1, n1, List.map_nil, List.nil_append]
        by_cases e2 : z.head? = some c
        · rw [if_pos e2, List.head?_map, h2, beq_iff_eq.mpr e2]
          cases canB y z.tail t <;> simp
        · rw [if_neg e2, beq_eq_false_iff_ne.mpr e2]; rfl
    · have g : (y.head? == some c && canB y.tail z t) = false := by rw [beq_eq_false_iff_ne.mpr e1, Bool.false_and]
      rw [g, if_neg e1, List.nil_append]
      by_cases e2 : z.head? = some c
      · rw [if_pos e2, List.head?_map, h2, beq_iff_eq.mpr e2]
        cases canB y z.tail t <;> simp
      · rw [if_neg e2, beq_eq_false_iff_ne.mpr e2]; rfl
theorem all_last : ∀ (t y z : List Nat), (allA y z t).getLast? = if canB y z t = true then some (greedy false y z t) else none
  | [], y, z => by unfold canB allA greedy; cases y <;> cases z <;> simp
  | c :: t, y, z => by
    have h1 := all_last t y.tail z
    have h2 := all_last t y z.tail
    unfold canB allA greedy
    by_cases e2 : z.head? = some c
    · by_cases k2 : canB y z.tail t = true
      · rw [if_pos k2] at h2
        have g : (z.head? == some c && canB y z.tail t) = true := by rw [beq_iff_eq.mpr e2, k2]; rfl
        rw [g, if_pos e2, List.getLast?_append, List.getLast?_map, h2, Bool.or_true, if_pos rfl]
        simp
      · have n1 : allA y z.tail t = [] := by
          have := mt (canB_all t y z.tail).mpr k2
          simpa using this
        have g : (z.head? == some c && canB y z.tail t) = false := by rw [Bool.eq_false_iff.mpr k2, Bool.and_false]
        rw [g, if_pos e2, n1, List.map_nil, List.append_nil, Bool.or_false]
        by_cases e1 : y.head? = some c
        · rw [if_pos e1, List.getLast?_map, h1, beq_iff_eq.mpr e1]
          cases canB y.tail z t <;> simp
        · rw [if_neg e1, beq_eq_false_iff_ne.mpr e1]; rfl
    · have g : (z.head? == some c && canB y z.tail t) = false := by rw [beq_eq_false_iff_ne.mpr e2, Bool.false_and]
      rw [g, if_neg e2, List.append_nil, Bool.or_false]
      by_cases e1 : y.head? = some c
      · rw [if_pos e1, List.getLast?_map, h1, beq_iff_eq.mpr e1]
        cases canB y.tail z t <;> simp
      · rw [if_neg e1, beq_eq_false_iff_ne.mpr e1]; rfl
theorem canB_len : ∀ (t y z : List Nat), canB y z t = true → t.length = y.length + z.length
  | [], y, z => by unfold canB; cases y <;> cases z <;> simp
  | c :: t, y, z => by
    intro h
    unfold canB at h
    rw [Bool.or_eq_true, Bool.and_eq_true, Bool.and_eq_true, beq_iff_eq, beq_iff_eq] at h
    rcases h with ⟨e, h⟩ | ⟨e, h⟩
    · have := canB_len _ _ _ h
      cases y with
      | nil => cases e
      | cons a y => simp at this ⊢; omega
    · have := canB_len _ _ _ h
      cases z with
      | nil => cases e
      | cons a z => simp at this ⊢; omega
theorem canW_B {y z t : List Nat} : canW y z t = canB y z t := by
  unfold canW
  by_cases h : canB y z t = true
  · rw [h, decide_eq_true (canB_len _ _ _ h)]; rfl
  · rw [Bool.eq_false_iff.mpr h, Bool.and_false]
theorem all_first {y z t : List Nat} : (allA y z t).head? = endW true y z t := by unfold endW; rw [all_head, canW_B]
theorem all_end {y z t : List Nat} : (allA y z t).getLast? = endW false y z t := by unfold endW; rw [all_last, canW_B]
/-! the ways by layers -/
def stepA (y z : List Nat) (k c : Nat) (p : List Nat × Nat) : List (List Nat × Nat) := (if y[p.2]? = some c then [(p.1 ++ [48], p.2 + 1)] else []) ++ (if z[k - p.2]? = some c then [(p.1 ++ [49], p.2)] else [])
def restA (y z t : List Nat) (k : Nat) (p : List Nat × Nat) : List (List Nat) := (allA (y.drop p.2) (z.drop (k - p.2)) (t.drop k)).map (p.1 ++ ·)
theorem rest_step {y z t : List Nat} {k c : Nat} {p : List Nat × Nat} (h : p.2 ≤ k) (hc : t[k]? = some c) : restA y z t k p = (stepA y z k c p).flatMap (restA y z t (k + 1)) := by
  obtain ⟨w, i⟩ := p
  have hk : k < t.length := (List.getElem?_eq_some_iff.mp hc).1
  have e : t[k] = c := (List.getElem?_eq_some_iff.mp hc).2
  unfold restA stepA
  simp only at h ⊢
  rw [List.drop_eq_getElem_cons hk, e, allA, List.head?_drop, List.head?_drop, List.tail_drop, List.tail_drop, show k - i + 1 = k + 1 - i by omega]
  by_cases e1 : y[i]? = some c <;> by_cases e2 : z[k - i]? = some c <;> simp [e1, e2, List.map_map, Function.comp_def]
structure LayA (y z t : List Nat) (k : Nat) (ws : List (List Nat × Nat)) : Prop where
  tot : ws.flatMap (restA y z t k) = allA y z t
  sz : ws.length ≤ 2 ^ k
  mem : ∀ p ∈ ws, p.2 ≤ k ∧ p.2 ≤ y.length ∧ k - p.2 ≤ z.length ∧ p.1.length = k
theorem LayA.first (y z t : List Nat) : LayA y z t 0 [([], 0)] := ⟨by simp [restA], by simp, by simp⟩
theorem stepA_len {y z : List Nat} {k c : Nat} (p : List Nat × Nat) : (stepA y z k c p).length ≤ 2 := by
  unfold stepA
  split <;> split <;> simp
theorem flatMap_len {α β : Type} {f : α → List β} {m : Nat} (h : ∀ a, (f a).length ≤ m) : ∀ l : List α, (l.flatMap f).length ≤ m * l.length
  | [] => by simp
  | a :: l => by
    have := flatMap_len h l
    have := h a
    rw [List.flatMap_cons, List.length_append, List.length_cons, Nat.mul_succ]; omega
theorem LayA.step {y z t : List Nat} {k c : Nat} {ws : List (List Nat × Nat)} (h : LayA y z t k ws) (hc : t[k]? = some c) : LayA y z t (k + 1) (ws.flatMap (stepA y z k c)) := by
  refine ⟨?_, ?_, ?_⟩
  · rw [← h.tot, List.flatMap_assoc]
    have : ∀ l : List (List Nat × Nat), (∀ p ∈ l, p ∈ ws) → (l.flatMap fun p => (stepA y z k c p).flatMap (restA y z t (k + 1))) = l.flatMap (restA y z t k) := by
      intro l
      induction l with
      | nil => intro _; rfl
      | cons p l ih =>
        intro hl
        rw [List.flatMap_cons, List.flatMap_cons, ih fun q hq => hl q (List.mem_cons_of_mem _ hq), ← rest_step (h.mem p (hl p List.mem_cons_self)).1 hc]
    exact this ws fun _ h => h
  · have := flatMap_len (stepA_len (y := y) (z := z) (k := k) (c := c)) ws
    have := h.sz
    rw [Nat.pow_succ]; omega
  · intro p hp
    obtain ⟨q, hq, hp⟩ := List.mem_flatMap.mp hp
    obtain ⟨m1, m2, m3, m4⟩ := h.mem q hq
    unfold stepA at hp
    rcases List.mem_append.mp hp with hp | hp
    · split at hp
      · rename_i e
        have := (List.getElem?_eq_some_iff.mp e).1
        rw [List.mem_singleton.mp hp]
        simp; omega
      · simp at hp
    · split at hp
      · rename_i e
        have := (List.getElem?_eq_some_iff.mp e).1
        rw [List.mem_singleton.mp hp]
        simp; omega
      · simp at hp
theorem LayA.few {y z t : List Nat} {k : Nat} {ws : List (List Nat × Nat)} (h : LayA y z t k ws) (hy : y.length ≤ 5) (hz : z.length ≤ 5) : ws.length ≤ 1024 := by
  by_cases hk : k ≤ 10
  · exact Nat.le_trans h.sz (Nat.pow_le_pow_right (by decide) hk)
  · cases ws with
    | nil => simp
    | cons p ws =>
      obtain ⟨m1, m2, m3, m4⟩ := h.mem p List.mem_cons_self
      omega
theorem LayA.done {y z t : List Nat} {ws : List (List Nat × Nat)} (h : LayA y z t t.length ws) : (ws.filter fun p => decide (p.2 = y.length) && decide (t.length = y.length + z.length)).map (·.1) = allA y z t := by
  rw [← h.tot]
  have er : restA y z t t.length = fun p => (allA (y.drop p.2) (z.drop (t.length - p.2)) []).map (p.1 ++ ·) := by funext p; unfold restA; rw [List.drop_length]
  rw [er]
  have : ∀ l : List (List Nat × Nat), (∀ p ∈ l, p ∈ ws) → (l.filter fun p => decide (p.2 = y.length) && decide (t.length = y.length + z.length)).map (·.1) = l.flatMap (fun p => (allA (y.drop p.2) (z.drop (t.length - p.2)) []).map (p.1 ++ ·)) := by
    intro l
    induction l with
    | nil => intro _; rfl
    | cons p l ih =>
      intro hl
      obtain ⟨m1, m2, m3, m4⟩ := h.mem p (hl p List.mem_cons_self)
      have ih := ih fun q hq => hl q (List.mem_cons_of_mem _ hq)
      rw [List.flatMap_cons, List.filter_cons]
      show _ = (allA (y.drop p.2) (z.drop (t.length - p.2)) []).map (p.1 ++ ·) ++ _
      rw [allA]
      have iff : (List.drop p.2 y = [] ∧ List.drop (t.length - p.2) z = []) ↔ (p.2 = y.length ∧ t.length = y.length + z.length) := by
        rw [List.drop_eq_nil_iff, List.drop_eq_nil_iff]; omega
      by_cases e : p.2 = y.length ∧ t.length = y.length + z.length
      · rw [if_pos (by simp [e.1, e.2]), if_pos (iff.mpr e), List.map_cons, ih]
        simp
      · rw [if_neg (by simp; omega), if_neg (fun q => e (iff.mp q)), ih]
        simp
  exact this ws fun _ h => h
theorem all_pow : ∀ t y z : List Nat, (allA y z t).length ≤ 2 ^ t.length
  | [], y, z => by unfold allA; split <;> simp
  | c :: t, y, z => by
    have h1 := all_pow t y.tail z
    have h2 := all_pow t y z.tail
    unfold allA
    rw [List.length_append, List.length_cons, Nat.pow_succ]
    have a1 : (if y.head? = some c then (allA y.tail z t).map (48 :: ·) else []).length ≤ 2 ^ t.length := by
      split
      · rw [List.length_map]; exact h1
      · simp
    have a2 : (if z.head? = some c then (allA y z.tail t).map (49 :: ·) else []).length ≤ 2 ^ t.length := by
      split
      · rw [List.length_map]; exact h2
      · simp
    omega
theorem all_few {y z t : List Nat} (hy : y.length ≤ 5) (hz : z.length ≤ 5) : (allA y z t).length ≤ 1024 := by
  by_cases h : allA y z t = []
  · rw [h]; simp
  · have := canB_len _ _ _ ((canB_all t y z).mpr h)
    exact Nat.le_trans (all_pow t y z) (Nat.pow_le_pow_right (by decide) (show t.length ≤ 10 by omega))
theorem at_head (l : List (List Nat)) : atI ((l.map fun w => V.str (S w)) ++ [V.non]) 0 = some (optV l.head?) := by
  cases l with
  | nil => rfl
  | cons a l => exact atI_get (i := 0) rfl
theorem at_last (l : List (List Nat)) : atI ([V.non] ++ (l.map fun w => V.str (S w))) (-1) = some (optV l.getLast?) := by
  rcases List.eq_nil_or_concat l with rfl | ⟨r, a, rfl⟩
  · rfl
  · unfold atI ixN
    rw [if_neg (by omega), if_pos (by simp; omega)]
    simp only [List.singleton_append, List.length_cons, List.length_map, List.length_append, List.length_nil]
    rw [show ((-1 : Int) + (((r.concat a).length + 1 : Nat) : Int)).toNat = r.length + 1 by rw [List.length_concat]; omega]
    simp [optV]

end Law

namespace Law
open PySem PySem.Spec PyProof.Rows L2 Go
/-- the two woven by the way: at a 0 the next of the first, at a 1 the next of the second -/
def weave : List Nat → List Nat → List Nat → List Nat
  | _, _, [] => []
  | y, z, c :: t => if c = 48 then y.take 1 ++ weave (y.drop 1) z t else z.take 1 ++ weave y (z.drop 1) t
/-- the way is of signs 0 and 1, as many as the two are long -/
def Fits (y z t : List Nat) : Prop := (∀ x ∈ t, x = 48 ∨ x = 49) ∧ t.count 48 = y.length ∧ t.count 49 = z.length
theorem Fits.zero {y z t : List Nat} (h : Fits y z (48 :: t)) : ∃ a y', y = a :: y' ∧ Fits y' z t ∧ weave y z (48 :: t) = a :: weave y' z t := by
  obtain ⟨h1, h2, h3⟩ := h
  cases y with
  | nil => simp at h2
  | cons a y => exact ⟨a, y, rfl, ⟨fun x hx => h1 x (List.mem_cons_of_mem _ hx), by simpa using h2, by simpa using h3⟩, rfl⟩
theorem Fits.one {y z t : List Nat} (h : Fits y z (49 :: t)) : ∃ a z', z = a :: z' ∧ Fits y z' t ∧ weave y z (49 :: t) = a :: weave y z' t := by
  obtain ⟨h1, h2, h3⟩ := h
  cases z with
  | nil => simp at h3
  | cons a z => exact ⟨a, z, rfl, ⟨fun x hx => h1 x (List.mem_cons_of_mem _ hx), by simpa using h2, by simpa using h3⟩, rfl⟩
theorem Fits.len {y z t : List Nat} (h : Fits y z t) : t.length = y.length + z.length := by
  obtain ⟨h1, h2, h3⟩ := h
  rw [← h2, ← h3]
  clear h2 h3
  induction t with
  | nil => rfl
  | cons c t ih =>
    have := ih fun x hx => h1 x (List.mem_cons_of_mem _ hx)
    rcases h1 c List.mem_cons_self with rfl | rfl
    · simp; omega
    · simp; omega
theorem Fits.weave_len : ∀ {t y z : List Nat}, Fits y z t → (weave y z t).length = t.length
  | [], y, z, h => by unfold weave; rfl
  | c :: t, y, z, h => by
    rcases h.1 c List.mem_cons_self with rfl | rfl
    · obtain ⟨a, y', _, g, e⟩ := h.zero
      rw [e, List.length_cons, List.length_cons, g.weave_len]
    · obtain ⟨a, z', _, g, e⟩ := h.one
      rw [e, List.length_cons, List.length_cons, g.weave_len]
theorem Fits.ends (y z : List Nat) : Fits y z (List.replicate y.length 48 ++ List.replicate z.length 49) := by
  refine ⟨fun x hx => ?_, by simp [List.count_append, List.count_replicate], by simp [List.count_append, List.count_replicate]⟩
  rcases List.mem_append.mp hx with h | h
  · exact .inl (List.mem_replicate.mp h).2
  · exact .inr (List.mem_replicate.mp h).2
theorem Fits.ends2 (y z : List Nat) : Fits y z (List.replicate z.length 49 ++ List.replicate y.length 48) := by
  refine ⟨fun x hx => ?_, by simp [List.count_append, List.count_replicate], by simp [List.count_append, List.count_replicate]⟩
  rcases List.mem_append.mp hx with h | h
  · exact .inr (List.mem_replicate.mp h).2
  · exact .inl (List.mem_replicate.mp h).2
theorem weave_mem {x : Nat} : ∀ (t y z : List Nat), x ∈ weave y z t → x ∈ y ∨ x ∈ z
  | [], _, _, h => by unfold weave at h; simp at h
  | c :: t, y, z, h => by
    unfold weave at h
    split at h
    · rcases List.mem_append.mp h with h | h
      · exact .inl (List.mem_of_mem_take h)
      · rcases weave_mem t _ _ h with h | h
        · exact .inl (List.mem_of_mem_drop h)
        · exact .inr h
    · rcases List.mem_append.mp h with h | h
      · exact .inr (List.mem_of_mem_take h)
      · rcases weave_mem t _ _ h with h | h
        · exact .inl h
        · exact .inr (List.mem_of_mem_drop h)
/-- at a 0 the first row goes on, at a 1 the second -/
theorem Fits.drop0 {y z w : List Nat} {i j k : Nat} (h : Fits (y.drop i) (z.drop j) (w.drop k)) (hk : w[k]? = some 48) : i < y.length ∧ Fits (y.drop (i + 1)) (z.drop j) (w.drop (k + 1)) := by
  obtain ⟨hl, e⟩ := List.getElem?_eq_some_iff.mp hk
  rw [List.drop_eq_getElem_cons hl, e] at h
  obtain ⟨a, y', ey, g, _⟩ := h.zero
  have hi : i < y.length := by
    by_cases hi : i < y.length
    · exact hi
    · rw [List.drop_eq_nil_of_le (by omega)] at ey; cases ey
  rw [List.drop_eq_getElem_cons hi, List.cons.injEq] at ey
  exact ⟨hi, by rw [ey.2]; exact g⟩
theorem Fits.drop1 {y z w : List Nat} {i j k : Nat} (h : Fits (y.drop i) (z.drop j) (w.drop k)) (hk : w[k]? = some 49) : j < z.length ∧ Fits (y.drop i) (z.drop (j + 1)) (w.drop (k + 1)) := by
  obtain ⟨hl, e⟩ := List.getElem?_eq_some_iff.mp hk
  rw [List.drop_eq_getElem_cons hl, e] at h
  obtain ⟨a, z', ez, g, _⟩ := h.one
  have hj : j < z.length := by
    by_cases hj : j < z.length
    · exact hj
    · rw [List.drop_eq_nil_of_le (by omega)] at ez; cases ez
  rw [List.drop_eq_getElem_cons hj, List.cons.injEq] at ez
  exact ⟨hj, by rw [ez.2]; exact g⟩

end Law

namespace Law
open PySem PySem.Spec PyProof.Rows L2 Go
--# math can
/-- how many ways weave t of y and z -/
def ways : List Nat → List Nat → List Nat → Nat
  | y, z, [] => if y = [] ∧ z = [] then 1 else 0
  | y, z, c :: t => (if y.head? = some c then ways y.tail z t else 0) + (if z.head? = some c then ways y z.tail t else 0)
def wayT (y z t : List Nat) (i j : Nat) : Nat := ways (y.drop i) (z.drop j) (t.drop (i + j))
def waysW (y z t : List Nat) : Nat := if t.length = y.length + z.length then ways y z t else 0
theorem wayT_end {y z t : List Nat} (h : t.length = y.length + z.length) : wayT y z t y.length z.length = 1 := by
  unfold wayT
  rw [List.drop_length, List.drop_length, ← h, List.drop_length]
  rfl
theorem wayT_step {y z t : List Nat} {i j : Nat} (h : t.length = y.length + z.length) (hi : i ≤ y.length) (hj : j ≤ z.length) (hn : ¬ (i = y.length ∧ j = z.length)) :
    wayT y z t i j = (if i < y.length ∧ y[i]? = t[i + j]? then wayT y z t (i + 1) j else 0) + (if j < z.length ∧ z[j]? = t[i + j]? then wayT y z t i (j + 1) else 0) := by
  have hk : i + j < t.length := by omega
  unfold wayT
  rw [List.drop_eq_getElem_cons hk, ways, List.head?_drop, List.head?_drop, List.tail_drop, List.tail_drop, List.getElem?_eq_getElem hk, show i + 1 + j = i + j + 1 by omega, show i + (j + 1) = i + j + 1 by omega]
  have e1 : (y[i]? = some t[i + j]) ↔ (i < y.length ∧ y[i]? = some t[i + j]) := ⟨fun e => ⟨(List.getElem?_eq_some_iff.mp e).1, e⟩, fun e => e.2⟩
  have e2 : (z[j]? = some t[i + j]) ↔ (j < z.length ∧ z[j]? = some t[i + j]) := ⟨fun e => ⟨(List.getElem?_eq_some_iff.mp e).1, e⟩, fun e => e.2⟩
  simp only [← e1, ← e2]
/-- a whole rows from behind and b places of the next are told -/
def WaysTab (y z t : List Nat) (kvs : List (List Key × V)) (a b : Nat) : Prop := ∀ i j, i ≤ y.length → j ≤ z.length → Done y.length z.length a b i j → valV kvs (ij i j) = some (.int (wayT y z t i j : Nat))
theorem WaysTab.first (y z t : List Nat) : WaysTab y z t [] 0 0 := fun i j hi hj d => by unfold Done at d; omega
theorem WaysTab.row {y z t : List Nat} {kvs : List (List Key × V)} {a : Nat} (h : WaysTab y z t kvs a (z.length + 1)) : WaysTab y z t kvs (a + 1) 0 := fun i j hi hj d => h i j hi hj (by unfold Done at d ⊢; omega)
theorem WaysTab.all {y z t : List Nat} {kvs : List (List Key × V)} (h : WaysTab y z t kvs (y.length + 1) 0) : ∀ i j, i ≤ y.length → j ≤ z.length → valV kvs (ij i j) = some (.int (wayT y z t i j : Nat)) := fun i j hi hj => h i j hi hj (by unfold Done; omega)
theorem WaysTab.step {y z t : List Nat} {kvs : List (List Key × V)} {a b : Nat} (h : WaysTab y z t kvs a b) (ha : a ≤ y.length) (hb : b ≤ z.length) : WaysTab y z t (putK kvs (ij (y.length - a) (z.length - b)) (.int (wayT y z t (y.length - a) (z.length - b) : Nat))) a (b + 1) := by
  intro i j hi hj d
  rw [valV_put]
  by_cases e : i = y.length - a ∧ j = z.length - b
  · rw [if_pos (ij_inj.mpr e), e.1, e.2]
  · rw [if_neg (fun z => e (ij_inj.mp z))]
    exact h i j hi hj (by unfold Done at d ⊢; omega)
theorem waysW_zero {y z t : List Nat} (h : t.length = y.length + z.length) : wayT y z t 0 0 = waysW y z t := by
  unfold waysW; rw [if_pos h]; rfl
theorem waysW_no {y z t : List Nat} (h : ¬ t.length = y.length + z.length) : waysW y z t = 0 := by
  unfold waysW; rw [if_neg h]
/-- behind k signs: by how many letters of the first row are taken, how many ways -/
def CntL (y z t : List Nat) (k : Nat) (kvs : List (Key × V)) : Prop := if t.length = y.length + z.length then ∀ a : Nat, a ≤ y.length → a ≤ k → k - a ≤ z.length → valV kvs (.inl (a : Int)) = some (.int (wayT y z t a (k - a) : Nat)) else kvs = []
theorem CntL.zero {y z t : List Nat} {kvs : List (Key × V)} (h : CntL y z t 0 kvs) : (valV kvs (.inl (0 : Int))).getD (.int 0) = .int (waysW y z t : Nat) := by
  unfold CntL at h
  split at h
  · rename_i e
    have := h 0 (Nat.zero_le _) (Nat.le_refl _) (Nat.zero_le _)
    rw [show (.inl (0 : Int) : Key) = .inl ((0 : Nat) : Int) from rfl, this, waysW_zero e]; rfl
  · rename_i e
    rw [h, waysW_no e]; rfl

end Law

namespace Law
open PySem PySem.Spec PyProof.Rows L2 Go
--# math ways
/-- the so-manieth way -/
def aheadH (y z : List Nat) (c : Nat) (t : List Nat) : Nat := if y.head? = some c then ways y.tail z t else 0
def wayN : List Nat → List Nat → List Nat → Nat → List Nat
  | _, _, [], _ => []
  | y, z, c :: t, n => if n < aheadH y z c t then 48 :: wayN y.tail z t n else 49 :: wayN y z.tail t (n - aheadH y z c t)
def wayNT (y z t : List Nat) (i j n : Nat) : List Nat := wayN (y.drop i) (z.drop j) (t.drop (i + j)) n
def aheadT (y z t : List Nat) (i j : Nat) : Nat := if y[i]? = t[i + j]? then wayT y z t (i + 1) j else 0
theorem aheadT_H {y z t : List Nat} {i j : Nat} (hk : i + j < t.length) : aheadH (y.drop i) (z.drop j) t[i + j] (t.drop (i + j + 1)) = aheadT y z t i j := by
  unfold aheadH aheadT wayT
  rw [List.head?_drop, List.tail_drop, List.getElem?_eq_getElem hk, show i + 1 + j = i + j + 1 by omega]
theorem wayNT_step {y z t : List Nat} {i j n : Nat} (hk : i + j < t.length) : wayNT y z t i j n = if n < aheadT y z t i j then 48 :: wayNT y z t (i + 1) j n else 49 :: wayNT y z t i (j + 1) (n - aheadT y z t i j) := by
  rw [← aheadT_H hk]
  unfold wayNT
  rw [List.drop_eq_getElem_cons hk, wayN, List.tail_drop, List.tail_drop, show i + 1 + j = i + j + 1 by omega, show i + (j + 1) = i + j + 1 by omega]
theorem wayNT_end {y z t : List Nat} {i j n : Nat} (hk : t.length ≤ i + j) : wayNT y z t i j n = [] := by
  unfold wayNT
  rw [List.drop_eq_nil_of_le hk]; unfold wayN; rfl
theorem wayT_split {y z t : List Nat} {i j : Nat} (h : t.length = y.length + z.length) (hi : i ≤ y.length) (hj : j ≤ z.length) (hk : i + j < t.length) :
    wayT y z t i j = aheadT y z t i j + (if z[j]? = t[i + j]? then wayT y z t i (j + 1) else 0) := by
  rw [wayT_step h hi hj (by omega)]
  unfold aheadT
  rw [List.getElem?_eq_getElem hk]
  congr 1
  · by_cases e : y[i]? = some t[i + j]
    · rw [if_pos e, if_pos ⟨(List.getElem?_eq_some_iff.mp e).1, e⟩]
    · rw [if_neg e, if_neg (fun z => e z.2)]
  · by_cases e : z[j]? = some t[i + j]
    · rw [if_pos e, if_pos ⟨(List.getElem?_eq_some_iff.mp e).1, e⟩]
    · rw [if_neg e, if_neg (fun z => e z.2)]
theorem ahead_lt {y z t : List Nat} {i j n : Nat} (hk : i + j < t.length) (hn : n < aheadT y z t i j) : i < y.length ∧ n < wayT y z t (i + 1) j := by
  unfold aheadT at hn
  rw [List.getElem?_eq_getElem hk] at hn
  split at hn
  · rename_i e
    exact ⟨(List.getElem?_eq_some_iff.mp e).1, hn⟩
  · omega
theorem ahead_ge {y z t : List Nat} {i j n : Nat} (h : t.length = y.length + z.length) (hi : i ≤ y.length) (hj : j ≤ z.length) (hk : i + j < t.length) (hw : n < wayT y z t i j) (hn : ¬ n < aheadT y z t i j) : j < z.length ∧ n - aheadT y z t i j < wayT y z t i (j + 1) := by
  rw [wayT_split h hi hj hk] at hw
  rw [List.getElem?_eq_getElem hk] at hw
  split at hw
  · rename_i e
    exact ⟨(List.getElem?_eq_some_iff.mp e).1, by omega⟩
  · omega
/-- the place of a way -/
def placeN : List Nat → List Nat → List Nat → List Nat → Nat
  | y, z, c :: t, d :: w => if d = 48 then placeN y.tail z t w else aheadH y z c t + placeN y z.tail t w
  | _, _, _, _ => 0
def placeT (y z t w : List Nat) (i j : Nat) : Nat := placeN (y.drop i) (z.drop j) (t.drop (i + j)) (w.drop (i + j))
theorem placeT_step {y z t w : List Nat} {i j d : Nat} (hk : i + j < t.length) (hd : w[i + j]? = some d) : placeT y z t w i j = if d = 48 then placeT y z t w (i + 1) j else aheadT y z t i j + placeT y z t w i (j + 1) := by
  obtain ⟨hl, e⟩ := List.getElem?_eq_some_iff.mp hd
  rw [← aheadT_H hk]
  unfold placeT
  rw [List.drop_eq_getElem_cons hk, List.drop_eq_getElem_cons hl, e, placeN, List.tail_drop, List.tail_drop, show i + 1 + j = i + j + 1 by omega, show i + (j + 1) = i + j + 1 by omega]
theorem placeT_end {y z t w : List Nat} {i j : Nat} (hk : w.length ≤ i + j) : placeT y z t w i j = 0 := by
  unfold placeT
  rw [List.drop_eq_nil_of_le (as := w) hk]
  unfold placeN
  split
  · rename_i h; cases h
  · rfl

end Law

namespace Law
open PySem PySem.Spec PyProof.Rows L2 Go
--# math ways
def fact : Nat → Nat
  | 0 => 1
  | n + 1 => (n + 1) * fact n
theorem ways_l (y z t : List Nat) (c : Nat) (hz : z.head? ≠ some c) : ways (c :: y) z (c :: t) = ways y z t := by
  rw [ways, if_neg hz, List.head?_cons, if_pos rfl]; rfl
theorem ways_r (y z t : List Nat) (c : Nat) (hy : y.head? ≠ some c) : ways y (c :: z) (c :: t) = ways y z t := by
  rw [ways, if_neg hy, List.head?_cons, if_pos rfl, Nat.zero_add]; rfl
theorem ways_b (y z t : List Nat) (c : Nat) : ways (c :: y) (c :: z) (c :: t) = ways y (c :: z) t + ways (c :: y) z t := by
  rw [ways, List.head?_cons, List.head?_cons, if_pos rfl, if_pos rfl]; rfl
/-- rows of one letter: the ways are as many as the picks -/
theorem ways_rep (c : Nat) : ∀ k n m, n + m = k → ways (List.replicate n c) (List.replicate m c) (List.replicate k c) * (fact n * fact m) = fact k
  | 0, n, m, h => by
    have e1 : n = 0 := by omega
    have e2 : m = 0 := by omega
    subst e1 e2
    rfl
  | k + 1, 0, m, h => by
    have e : m = k + 1 := by omega
    subst e
    have ih := ways_rep c k 0 k (by omega)
    show ways [] (c :: List.replicate k c) (c :: List.replicate k c) * (1 * ((k + 1) * fact k)) = (k + 1) * fact k
    rw [ways_r _ _ _ _ (by simp)]
    have ih : ways [] (List.replicate k c) (List.replicate k c) * (1 * fact k) = fact k := ih
    rw [Nat.one_mul] at ih ⊢
    rw [Nat.mul_left_comm, ih]
  | k + 1, n + 1, 0, h => by
    have e : n = k := by omega
    subst e
    have ih := ways_rep c n n 0 (by omega)
    show ways (c :: List.replicate n c) [] (c :: List.replicate n c) * (((n + 1) * fact n) * 1) = (n + 1) * fact n
    rw [ways_l _ _ _ _ (by simp)]
    have ih : ways (List.replicate n c) [] (List.replicate n c) * (fact n * 1) = fact n := ih
    rw [Nat.mul_one] at ih ⊢
    rw [Nat.mul_left_comm, ih]
  | k + 1, n + 1, m + 1, h => by
    have ih1 := ways_rep c k n (m + 1) (by omega)
    have ih2 := ways_rep c k (n + 1) m (by omega)
    have e1 : ways (List.replicate (n + 1) c) (List.replicate (m + 1) c) (List.replicate (k + 1) c) = ways (List.replicate n c) (List.replicate (m + 1) c) (List.replicate k c) + ways (List.replicate (n + 1) c) (List.replicate m c) (List.replicate k c) := ways_b _ _ _ _
    rw [e1, Nat.add_mul]
    generalize ways (List.replicate n c) (List.replicate (m + 1) c) (List.replicate k c) = u at *
    generalize ways (List.replicate (n + 1) c) (List.replicate m c) (List.replicate k c) = v at *
    have f1 : fact (n + 1) = (n + 1) * fact n := rfl
    have f2 : fact (m + 1) = (m + 1) * fact m := rfl
    have f3 : fact (k + 1) = (k + 1) * fact k := rfl
    have a1 : u * (fact (n + 1) * fact (m + 1)) = (n + 1) * fact k := by
      rw [f1, Nat.mul_assoc (n + 1), Nat.mul_left_comm, ih1]
    have a2 : v * (fact (n + 1) * fact (m + 1)) = (m + 1) * fact k := by
      rw [f2, Nat.mul_left_comm (fact (n + 1)), Nat.mul_left_comm, ih2]
    rw [a1, a2, f3, ← Nat.add_mul, show n + 1 + (m + 1) = k + 1 by omega]
theorem ways_60 (c : Nat) : waysW (List.replicate 60 c) (List.replicate 60 c) (List.replicate 120 c) = 96614908840363322603893139521372656 := by
  unfold waysW
  rw [List.length_replicate, List.length_replicate, if_pos rfl]
  have h := ways_rep c 120 60 60 rfl
  have p : 0 < fact 60 * fact 60 := by decide +kernel
  refine Nat.eq_of_mul_eq_mul_right p (h.trans ?_)
  decide +kernel

end Law

namespace Law
open PySem PySem.Spec PyProof.Rows L2 Go
--# math weave
--# math wayn
--# math fact
theorem Fits.nil : Fits [] [] [] := ⟨by simp, rfl, rfl⟩
theorem Fits.cons0 {y z w : List Nat} {c : Nat} (h : Fits y z w) : Fits (c :: y) z (48 :: w) := by
  obtain ⟨h1, h2, h3⟩ := h
  refine ⟨fun x hx => ?_, by simp [h2], by simp [h3]⟩
  rcases List.mem_cons.mp hx with rfl | hx
  · exact .inl rfl
  · exact h1 x hx
theorem Fits.cons1 {y z w : List Nat} {c : Nat} (h : Fits y z w) : Fits y (c :: z) (49 :: w) := by
  obtain ⟨h1, h2, h3⟩ := h
  refine ⟨fun x hx => ?_, by simp [h2], by simp [h3]⟩
  rcases List.mem_cons.mp hx with rfl | hx
  · exact .inr rfl
  · exact h1 x hx
theorem head_cons {y : List Nat} {c : Nat} (h : y.head? = some c) : y = c :: y.tail := by
  cases y with
  | nil => cases h
  | cons a y => rw [show a = c from Option.some.inj h]; rfl
theorem way_num : ∀ (t y z : List Nat) (n : Nat), n < ways y z t → Fits y z (wayN y z t n) ∧ weave y z (wayN y z t n) = t ∧ placeN y z t (wayN y z t n) = n
  | [], y, z, n, h => by
    unfold ways at h
    split at h
    · rename_i e
      obtain ⟨rfl, rfl⟩ := e
      unfold wayN
      refine ⟨Fits.nil, by unfold weave; rfl, ?_⟩
      unfold placeN
      omega
    · omega
  | c :: t, y, z, n, h => by
    unfold ways at h
    unfold wayN
    unfold aheadH
    by_cases hn : n < (if y.head? = some c then ways y.tail z t else 0)
    · rw [if_pos hn]
      split at hn
      · rename_i e
        obtain ⟨f, g, k⟩ := way_num t y.tail z n hn
        have ey := head_cons e
        generalize wayN y.tail z t n = w at f g k
        refine ⟨by rw [ey]; exact f.cons0, ?_, ?_⟩
        · rw [ey]
          unfold weave
          rw [if_pos rfl]
          show c :: weave y.tail z w = _
          rw [g]
        · unfold placeN
          rw [if_pos rfl]; exact k
      · omega
    · rw [if_neg hn]
      have hz : z.head? = some c := by
        by_cases e : z.head? = some c
        · exact e
        · rw [if_neg e] at h; omega
      rw [if_pos hz] at h
      have h2 : n - (if y.head? = some c then ways y.tail z t else 0) < ways y z.tail t := by omega
      obtain ⟨f, g, k⟩ := way_num t y z.tail _ h2
      have ez := head_cons hz
      generalize ea : (if y.head? = some c then ways y.tail z t else 0) = a at *
      generalize wayN y z.tail t (n - a) = w at f g k
      refine ⟨by rw [ez]; exact f.cons1, ?_, ?_⟩
      · rw [ez]
        unfold weave
        rw [if_neg (by decide)]
        show c :: weave y z.tail w = _
        rw [g]
      · unfold placeN aheadH
        rw [if_neg (by decide), k, ea]
        omega
theorem ways_pos : ∀ (w y z : List Nat), Fits y z w → 0 < ways y z (weave y z w)
  | [], y, z, h => by
    obtain ⟨_, h2, h3⟩ := h
    have e1 : y = [] := List.length_eq_zero_iff.mp (by rw [← h2]; rfl)
    have e2 : z = [] := List.length_eq_zero_iff.mp (by rw [← h3]; rfl)
    subst e1 e2
    decide
  | c :: w, y, z, h => by
    rcases h.1 c List.mem_cons_self with rfl | rfl
    · obtain ⟨a, y', rfl, g, e⟩ := h.zero
      have := ways_pos w y' z g
      rw [e, ways, List.head?_cons, if_pos rfl]
      show 0 < ways y' z (weave y' z w) + _
      omega
    · obtain ⟨a, z', rfl, g, e⟩ := h.one
      have := ways_pos w y z' g
      rw [e, ways, List.head?_cons (a := a) (l := z'), if_pos (rfl : some a = some a)]
      show 0 < _ + ways y z' (weave y z' w)
      omega
/-! rows of one letter -/
def wayR (n m : Nat) : Nat := fact (n + m) / (fact n * fact m)
theorem fact_pos : ∀ n, 0 < fact n
  | 0 => by decide
  | n + 1 => Nat.mul_pos (by omega) (fact_pos n)
theorem ways_R (c n m : Nat) : ways (List.replicate n c) (List.replicate m c) (List.replicate (n + m) c) = wayR n m := by
  unfold wayR
  rw [← ways_rep c (n + m) n m rfl]
  exact (Nat.mul_div_cancel _ (Nat.mul_pos (fact_pos n) (fact_pos m))).symm
theorem place_zeros (c : Nat) : ∀ n z t, placeN (List.replicate n c) z t (List.replicate n 48) = 0
  | 0, z, t => by unfold placeN; split <;> first | rfl | (rename_i h; cases h)
  | n + 1, z, [] => by unfold placeN; rfl
  | n + 1, z, d :: t => by
    rw [List.replicate_succ, List.replicate_succ, placeN, if_pos rfl]
    exact place_zeros c n z t
def placeR (n : Nat) : Nat → Nat
  | 0 => 0
  | m + 1 => wayR n (m + 1) + placeR n m
theorem place_R (c n : Nat) : ∀ m, placeN (List.replicate (n + 1) c) (List.replicate m c) (List.replicate (n + 1 + m) c) (List.replicate m 49 ++ List.replicate (n + 1) 48) = placeR n m
  | 0 => place_zeros c (n + 1) _ _
  | m + 1 => by
    have ih := place_R c n m
    have e1 : List.replicate (n + 1 + (m + 1)) c = c :: List.replicate (n + 1 + m) c := rfl
    have e2 : List.replicate (m + 1) 49 ++ List.replicate (n + 1) 48 = 49 :: (List.replicate m 49 ++ List.replicate (n + 1) 48) := rfl
    rw [e1, e2, placeN, if_neg (by decide)]
    show aheadH (List.replicate (n + 1) c) (List.replicate (m + 1) c) c _ + placeN (List.replicate (n + 1) c) (List.replicate m c) _ _ = _
    rw [ih]
    unfold aheadH
    show _ = wayR n (m + 1) + placeR n m
    rw [show (List.replicate (n + 1) c).head? = some c from rfl, if_pos rfl, show (List.replicate (n + 1) c).tail = List.replicate n c from rfl, show n + 1 + m = n + (m + 1) by omega, ways_R]

end Law

namespace Law
open PySem PySem.Spec PyProof.Rows L2 Go
--# math ends
--# math allw
--# math weave
--# math wayn
--# math placew
theorem ways_comm : ∀ t y z : List Nat, ways y z t = ways z y t
  | [], y, z => by unfold ways; cases y <;> cases z <;> simp
  | c :: t, y, z => by unfold ways; rw [ways_comm t y.tail z, ways_comm t y z.tail, Nat.add_comm]
theorem waysW_comm (y z t : List Nat) : waysW y z t = waysW z y t := by unfold waysW; rw [ways_comm, Nat.add_comm y.length]
theorem canB_ways : ∀ t y z : List Nat, canB y z t = decide (0 < ways y z t)
  | [], y, z => by unfold canB ways; cases y <;> cases z <;> simp
  | c :: t, y, z => by
    unfold canB ways
    rw [canB_ways t y.tail z, canB_ways t y z.tail, Bool.eq_iff_iff]
    simp only [Bool.or_eq_true, Bool.and_eq_true, beq_iff_eq, decide_eq_true_eq]
    by_cases e1 : y.head? = some c <;> by_cases e2 : z.head? = some c <;> simp [e1, e2] <;> omega
theorem ways_len {y z t : List Nat} (h : 0 < ways y z t) : t.length = y.length + z.length := canB_len _ _ _ (by rw [canB_ways]; exact decide_eq_true h)
theorem waysW_B (y z t : List Nat) : waysW y z t = ways y z t := by
  unfold waysW
  split
  · rfl
  · rename_i h
    by_cases e : 0 < ways y z t
    · exact absurd (ways_len e) h
    · omega
theorem canW_ways (y z t : List Nat) : canW y z t = decide (0 < waysW y z t) := by rw [canW_B, canB_ways, waysW_B]
/-- by the last letter -/
def lastW (y z : List Nat) (c : Nat) (t : List Nat) : Nat := (if y.getLast? = some c then ways y.dropLast z t else 0) + (if z.getLast? = some c then ways y z.dropLast t else 0)
theorem ways_last : ∀ (t y z : List Nat) (c : Nat), ways y z (t ++ [c]) = lastW y z c t
  | [], y, z, c => by
    unfold lastW
    show ways y z [c] = _
    unfold ways
    cases y with
    | nil =>
      cases z with
      | nil => simp
      | cons b z => cases z <;> simp [ways]
    | cons a y =>
      cases y with
      | nil =>
        cases z with
        | nil => simp [ways]
        | cons b z => cases z <;> simp [ways]
      | cons a2 y =>
        cases z with
        | nil => simp [ways]
        | cons b z => cases z <;> simp [ways]
  | d :: t, y, z, c => by
    have h1 := ways_last t y.tail z c
    have h2 := ways_last t y z.tail c
    show ways y z (d :: (t ++ [c])) = _
    rw [ways, h1, h2]
    unfold lastW
    have ey : ∀ z' : List Nat, (if y.getLast? = some c then ways y.dropLast z' (d :: t) else 0) = (if y.head? = some d then (if y.tail.getLast? = some c then ways y.tail.dropLast z' t else 0) else 0) + (if z'.head? = some d then (if y.getLast? = some c then ways y.dropLast z'.tail t else 0) else 0) := by
      intro z'
      cases y with
      | nil => simp
      | cons a y =>
        cases y with
        | nil =>
          by_cases e : a = c <;> simp [ways, e]
        | cons a2 y =>
          have e1 : (a :: a2 :: y).getLast? = (a2 :: y).getLast? := by simp [List.getLast?_cons]
          by_cases e : (a2 :: y).getLast? = some c
          · rw [e1, if_pos e, List.dropLast_cons_of_ne_nil (by simp), ways]
            simp only [List.head?_cons, List.tail_cons, e, if_true]
            first | done | rfl | (congr 1)
          · simp only [e1, e, List.tail_cons, if_false, ite_self, Nat.add_zero]
    have ez : ∀ y' : List Nat, (if z.getLast? = some c then ways y' z.dropLast (d :: t) else 0) = (if y'.head? = some d then (if z.getLast? = some c then ways y'.tail z.dropLast t else 0) else 0) + (if z.head? = some d then (if z.tail.getLast? = some c then ways y' z.tail.dropLast t else 0) else 0) := by
      intro y'
      cases z with
      | nil => simp
      | cons a z =>
        cases z with
        | nil =>
          by_cases e : a = c <;> simp [ways, e]
        | cons a2 z =>
          have e1 : (a :: a2 :: z).getLast? = (a2 :: z).getLast? := by simp [List.getLast?_cons]
          by_cases e : (a2 :: z).getLast? = some c
          · rw [e1, if_pos e, List.dropLast_cons_of_ne_nil (by simp), ways]
            simp only [List.head?_cons, List.tail_cons, e, if_true]
            first | done | rfl | (congr 1)
          · simp only [e1, e, List.tail_cons, if_false, ite_self, Nat.add_zero]
    rw [ey z, ez y]
    by_cases d1 : y.head? = some d <;> by_cases d2 : z.head? = some d <;> simp only [d1, d2, if_true, if_false, Nat.add_zero, Nat.zero_add] <;> omega
theorem ways_rev : ∀ t y z : List Nat, ways y.reverse z.reverse t.reverse = ways y z t
  | [], y, z => by unfold ways; simp
  | c :: t, y, z => by
    rw [List.reverse_cons, ways_last]
    unfold lastW
    rw [List.getLast?_reverse, List.getLast?_reverse, List.dropLast_reverse, List.dropLast_reverse, ways_rev t y.tail z, ways_rev t y z.tail]
    show _ = ways y z (c :: t)
    rw [ways]
theorem waysW_rev (y z t : List Nat) : waysW y.reverse z.reverse t.reverse = waysW y z t := by rw [waysW_B, waysW_B, ways_rev]
theorem canW_rev (y z t : List Nat) : canW y.reverse z.reverse t.reverse = canW y z t := by rw [canW_ways, canW_ways, waysW_rev]
theorem canW_comm (y z t : List Nat) : canW y z t = canW z y t := by rw [canW_ways, canW_ways, waysW_comm]
/-! the signs exchanged -/
def flipW (w : List Nat) : List Nat := w.map fun c => 97 - c
theorem flip_flip {w : List Nat} (h : ∀ x ∈ w, x = 48 ∨ x = 49) : flipW (flipW w) = w := by
  unfold flipW
  rw [List.map_map]
  conv => rhs; rw [← List.map_id w]
  exact List.map_congr_left fun x hx => by rcases h x hx with rfl | rfl <;> rfl
theorem wayN_flip : ∀ (t y z : List Nat) (n : Nat), n < ways y z t → wayN z y t (ways y z t - 1 - n) = flipW (wayN y z t n)
  | [], y, z, n, h => by unfold wayN; rfl
  | c :: t, y, z, n, h => by
    have ew : ways y z (c :: t) = aheadH y z c t + aheadH z y c t := by
      unfold aheadH; rw [ways, ways_comm t y z.tail]
    rw [ew] at h ⊢
    unfold wayN
    by_cases hn : n < aheadH y z c t
    · rw [if_pos hn, if_neg (by omega)]
      have e1 : y.head? = some c := by
        unfold aheadH at hn
        by_cases e : y.head? = some c
        · exact e
        · rw [if_neg e] at hn; omega
      have e2 : aheadH y z c t = ways y.tail z t := by unfold aheadH; rw [if_pos e1]
      have ih := wayN_flip t y.tail z n (by omega)
      rw [show aheadH y z c t + aheadH z y c t - 1 - n - aheadH z y c t = ways y.tail z t - 1 - n by omega, ih]
      rfl
    · rw [if_neg hn, if_pos (by omega)]
      have e1 : z.head? = some c := by
        unfold aheadH at h hn
        by_cases e : z.head? = some c
        · exact e
        · rw [if_neg e] at h; omega
      have e2 : aheadH z y c t = ways z.tail y t := by unfold aheadH; rw [if_pos e1]
      have e3 := ways_comm t y z.tail
      have ih := wayN_flip t y z.tail (n - aheadH y z c t) (by omega)
      rw [show aheadH y z c t + aheadH z y c t - 1 - n = ways y z.tail t - 1 - (n - aheadH y z c t) by omega, ih]
      rfl
theorem wayN_lt : ∀ (t y z : List Nat) (n m : Nat), n < m → m < ways y z t → wayN y z t n < wayN y z t m
  | [], y, z, n, m, h1, h2 => by
    unfold ways at h2
    split at h2 <;> omega
  | c :: t, y, z, n, m, h1, h2 => by
    have ew : ways y z (c :: t) = aheadH y z c t + (if z.head? = some c then ways y z.tail t else 0) := by unfold aheadH; rw [ways]
    rw [ew] at h2
    unfold wayN
    by_cases hm : m < aheadH y z c t
    · rw [if_pos hm, if_pos (by omega)]
      have e2 : aheadH y z c t ≤ ways y.tail z t := by unfold aheadH; split <;> omega
      exact List.cons_lt_cons_self.mpr (wayN_lt t y.tail z n m h1 (by omega))
    · rw [if_neg hm]
      by_cases hn : n < aheadH y z c t
      · rw [if_pos hn]
        exact List.Lex.rel (by decide)
      · rw [if_neg hn]
        have e2 : (if z.head? = some c then ways y z.tail t else 0) ≤ ways y z.tail t := by split <;> omega
        exact List.cons_lt_cons_self.mpr (wayN_lt t y z.tail _ _ (by omega) (by omega))
theorem wayN_first : ∀ t y z : List Nat, 0 < ways y z t → wayN y z t 0 = greedy true y z t
  | [], y, z, h => by unfold wayN greedy; rfl
  | c :: t, y, z, h => by
    unfold wayN greedy
    rw [Bool.true_or, Bool.and_true, canB_ways]
    by_cases e : 0 < aheadH y z c t
    · rw [if_pos e]
      have e1 : y.head? = some c := by
        unfold aheadH at e
        by_cases q : y.head? = some c
        · exact q
        · rw [if_neg q] at e; omega
      have e2 : 0 < ways y.tail z t := by unfold aheadH at e; rwa [if_pos e1] at e
      rw [beq_iff_eq.mpr e1, decide_eq_true e2, Bool.true_and, if_pos rfl, wayN_first t y.tail z e2]
    · rw [if_neg e]
      have ea : aheadH y z c t = 0 := by omega
      have e2 : 0 < ways y z.tail t := by
        unfold ways at h
        unfold aheadH at ea
        rw [ea] at h
        split at h <;> omega
      have e3 : (y.head? == some c && decide (0 < ways y.tail z t)) = false := by
        unfold aheadH at ea
        rw [Bool.and_eq_false_iff]
        by_cases q : y.head? = some c
        · rw [if_pos q] at ea; right; rw [ea]; rfl
        · left; exact beq_eq_false_iff_ne.mpr q
      rw [e3, if_neg (by decide), ea, wayN_first t y z.tail e2]
theorem greedy_flip : ∀ t y z : List Nat, canB y z t = true → greedy false y z t = flipW (greedy true z y t)
  | [], y, z, h => by unfold greedy; rfl
  | c :: t, y, z, h => by
    unfold canB at h
    unfold greedy
    rw [Bool.true_or, Bool.and_true, Bool.false_or]
    have c1 : canB z y.tail t = canB y.tail z t := by rw [canB_ways, canB_ways, ways_comm]
    have c2 : canB z.tail y t = canB y z.tail t := by rw [canB_ways, canB_ways, ways_comm]
    rw [c2]
    by_cases e2 : (z.head? == some c && canB y z.tail t) = true
    · rw [e2]
      simp only [Bool.not_true, Bool.and_false, Bool.false_eq_true, if_false, if_true]
      rw [greedy_flip t y z.tail (by rw [Bool.and_eq_true] at e2; exact e2.2)]
      rfl
    · rw [Bool.not_eq_true] at e2
      rw [e2, Bool.or_false] at h
      rw [e2, h]
      simp only [Bool.not_false, Bool.and_true, if_true, Bool.false_eq_true, if_false]
      rw [greedy_flip t y.tail z (by rw [Bool.and_eq_true] at h; exact h.2)]
      rfl
theorem wayN_last {t y z : List Nat} (h : 0 < ways y z t) : wayN y z t (ways y z t - 1) = greedy false y z t := by
  have h2 : 0 < ways z y t := by rw [ways_comm]; exact h
  have e := wayN_flip t z y 0 h2
  rw [ways_comm t z y] at e
  rw [greedy_flip t y z (by rw [canB_ways]; exact decide_eq_true h), ← wayN_first t z y h2, ← e]
  rfl
/-! as many as the picks -/
theorem wayR_fact (n k : Nat) : wayR n k * (fact n * fact k) = fact (n + k) := by
  rw [← ways_R 97 n k]; exact ways_rep 97 (n + k) n k rfl
theorem wayR_next (n k : Nat) : wayR n k * (n + k + 1) = wayR n (k + 1) * (k + 1) := by
  have p : 0 < fact n * fact k := Nat.mul_pos (fact_pos n) (fact_pos k)
  refine Nat.eq_of_mul_eq_mul_right p ?_
  have h1 := wayR_fact n k
  have h2 := wayR_fact n (k + 1)
  have f1 : fact (k + 1) = (k + 1) * fact k := rfl
  have f2 : fact (n + (k + 1)) = (n + k + 1) * fact (n + k) := rfl
  rw [f1, f2] at h2
  rw [Nat.mul_right_comm, h1, Nat.mul_comm (fact (n + k)), ← h2, Nat.mul_assoc, Nat.mul_left_comm (fact n)]
theorem wayR_div (n k : Nat) : wayR n k * (n + k + 1) / (k + 1) = wayR n (k + 1) := by
  rw [wayR_next]; exact Nat.mul_div_cancel _ (by omega)
theorem wayR_zero (n : Nat) : wayR n 0 = 1 := by
  unfold wayR
  rw [Nat.add_zero, show fact 0 = 1 from rfl, Nat.mul_one]
  exact Nat.div_self (fact_pos n)
theorem cs_nil : cs "" = [] := by decide +kernel
theorem head_tk (y t : List Nat) : (!decide (y = cs "") && decide (t.take (Int.toNat 1) = y.take (Int.toNat 1))) = decide (y.head? = t.head? ∧ y ≠ []) := by
  rw [cs_nil, show Int.toNat 1 = 1 from rfl]
  cases y with
  | nil => simp
  | cons a y =>
    cases t with
    | nil => simp
    | cons b t => simp [eq_comm]
theorem parted_sum (y z t : List Nat) (ht : t ≠ []) : (if y.head? = t.head? ∧ y ≠ [] then ways y.tail z t.tail else 0) + (if z.head? = t.head? ∧ z ≠ [] then ways y z.tail t.tail else 0) = ways y z t := by
  cases t with
  | nil => exact absurd rfl ht
  | cons c t =>
    rw [ways]
    have e : ∀ w : List Nat, (w.head? = some c ∧ w ≠ []) ↔ w.head? = some c := fun w => ⟨fun h => h.1, fun h => ⟨h, fun e => by subst e; cases h⟩⟩
    simp only [List.head?_cons, List.tail_cons, e]
theorem endW_first {y z t : List Nat} (h : 0 < waysW y z t) : endW true y z t = some (wayN y z t 0) := by
  have h2 := h
  rw [waysW_B] at h2
  unfold endW
  rw [canW_ways, decide_eq_true h, if_pos rfl, wayN_first t y z h2]
theorem endW_last {y z t : List Nat} (h : 0 < waysW y z t) : endW false y z t = some (wayN y z t (waysW y z t - 1)) := by
  have h2 := h
  rw [waysW_B] at h2
  unfold endW
  rw [canW_ways, decide_eq_true h, if_pos rfl, waysW_B, wayN_last h2]

end Law

namespace Law
open PySem PySem.Spec PyProof.Rows L2 Go
--# math fstm
--# math tabt
--# math sym
/-! two rows as several -/
theorem wav_two : ∀ t y z : List Nat, wavN t [y, z] = ways y z t
  | [], y, z => by
    rw [wavN_nil, ways]
    by_cases h : y = [] ∧ z = []
    · rw [if_pos h, if_pos (by intro r hr; simp at hr; rcases hr with rfl | rfl <;> simp [h.1, h.2])]
    · rw [if_neg h, if_neg (fun q => h ⟨q y (by simp), q z (by simp)⟩)]
  | c :: t, y, z => by
    rw [wavN, ways]
    show sumR 2 _ = _
    rw [sumR_succ, sumR_succ]
    show 0 + (if y.head? = some c then wavN t [y.tail, z] else 0) + (if z.head? = some c then wavN t [y, z.tail] else 0) = _
    rw [wav_two t y.tail z, wav_two t y z.tail, Nat.zero_add]
theorem wav_twoW (t y z : List Nat) : wavN t [y, z] = waysW y z t := by rw [wav_two, waysW_B]
theorem fst_two : ∀ t y z : List Nat, 0 < wavN t [y, z] → (fstN t [y, z]).map (48 + ·) = greedy true y z t
  | [], y, z, _ => rfl
  | c :: t, y, z, h => by
    obtain ⟨i, hi, hs, hn, e⟩ := fst_some h
    have hi : i < 2 := hi
    have hc : ∀ a b : List Nat, canB a b t = decide (0 < wavN t [a, b]) := fun a b => by rw [canB_ways, wav_two]
    rw [e, greedy, List.map_cons]
    have h0 : stpB c t [y, z] 0 = (y.head? == some c && canB y.tail z t) := by
      unfold stpB
      show decide (y.head? = some c ∧ 0 < wavN t [y.tail, z]) = _
      rw [hc]
      by_cases q : y.head? = some c <;> simp [q]
    have h1 : stpB c t [y, z] 1 = (z.head? == some c && canB y z.tail t) := by
      unfold stpB
      show decide (z.head? = some c ∧ 0 < wavN t [y, z.tail]) = _
      rw [hc]
      by_cases q : z.head? = some c <;> simp [q]
    rcases (show i = 0 ∨ i = 1 by omega) with rfl | rfl
    · rw [h0] at hs
      have hp : 0 < wavN t [y.tail, z] := (of_decide_eq_true (show decide (y.head? = some c ∧ 0 < wavN t [y.tail, z]) = true by rw [← h0] at hs; exact hs)).2
      rw [if_pos (by rw [hs]; rfl)]
      show 48 :: (fstN t [y.tail, z]).map (48 + ·) = _
      rw [fst_two t y.tail z hp]
    · have hs0 := hn 0 (by omega)
      rw [h0] at hs0
      have hp : 0 < wavN t [y, z.tail] := (of_decide_eq_true (show decide (z.head? = some c ∧ 0 < wavN t [y, z.tail]) = true from hs)).2
      rw [if_neg (by rw [hs0]; simp)]
      show 49 :: (fstN t [y, z.tail]).map (48 + ·) = _
      rw [fst_two t y z.tail hp]
theorem end_two {y z t : List Nat} : endW true y z t = if 0 < wavN t [y, z] then some ((fstN t [y, z]).map (48 + ·)) else none := by
  unfold endW
  rw [canW_ways, ← wav_twoW]
  by_cases h : 0 < wavN t [y, z]
  · rw [if_pos (decide_eq_true h), if_pos h, fst_two t y z h]
  · rw [if_neg (by simpa using h), if_neg h]
theorem box_le9 : ∀ (rows : List (List Nat)), (∀ z ∈ rows, z.length ≤ 8) → boxN rows ≤ 9 ^ rows.length
  | [], _ => Nat.le_refl _
  | r :: rows, h => by
    have h1 := h r List.mem_cons_self
    have h2 := box_le9 rows fun z hz => h z (List.mem_cons_of_mem _ hz)
    rw [List.length_cons, Nat.pow_succ, boxN, Nat.mul_comm]
    exact Nat.mul_le_mul h2 (by omega)
theorem box_few6 {rows : List (List Nat)} (h : ∀ z ∈ rows, z.length ≤ 8) (hl : rows.length ≤ 6) : boxN rows < 900000 := by
  have h1 := box_le9 rows h
  have h2 : 9 ^ rows.length ≤ 9 ^ 6 := Nat.pow_le_pow_right (by decide) hl
  exact Nat.lt_of_le_of_lt (Nat.le_trans h1 h2) (by decide)
theorem rw_le {rows : List (List Nat)} {n : Nat} (h : ∀ z ∈ rows, z.length ≤ n) (i : Nat) (hi : i < rows.length) : (rw' rows i).length ≤ n := by
  unfold rw'
  rw [List.getD_eq_getElem?_getD, List.getElem?_eq_getElem hi]
  exact h _ (List.getElem_mem hi)
theorem erase_map {α β : Type} (f : α → β) : ∀ (l : List α) (n : Nat), (l.map f).eraseIdx n = (l.eraseIdx n).map f
  | [], _ => rfl
  | a :: l, 0 => rfl
  | a :: l, n + 1 => by rw [List.map_cons, List.eraseIdx_cons_succ, erase_map f l n, List.eraseIdx_cons_succ, List.map_cons]
theorem perm_erase {α : Type} {x : α} : ∀ {l : List α} {n : Nat}, l[n]? = some x → (x :: l.eraseIdx n).Perm l
  | [], _, h => by simp at h
  | a :: l, 0, h => by
    obtain rfl : a = x := Option.some.inj h
    exact List.Perm.refl _
  | a :: l, n + 1, h => by
    rw [List.eraseIdx_cons_succ]
    exact (List.Perm.swap a x _).trans ((perm_erase (by simpa using h)).cons a)
theorem txR_len (rows : List (List Nat)) : (txR rows).length = rows.length := by simp [txR]
theorem txR_get {rows : List (List Nat)} {i : Nat} {v : V} (h : (txR rows)[i]? = some v) : ∃ z, rows[i]? = some z ∧ v = .str (S z) := by
  unfold txR at h
  rw [List.getElem?_map] at h
  obtain ⟨z, hz, e⟩ := Option.map_eq_some_iff.mp h
  exact ⟨z, hz, e.symm⟩
theorem txR_at {rows : List (List Nat)} {i : Nat} (h : i < rows.length) : ∃ z, rows[i]? = some z ∧ (txR rows)[i]? = some (.str (S z)) := by
  refine ⟨rows[i], List.getElem?_eq_getElem h, ?_⟩
  unfold txR
  rw [List.getElem?_map, List.getElem?_eq_getElem h]
  rfl

end Law

namespace Law
open PySem PySem.Spec PyProof.Rows L2 Go
/-- layer by layer: by how many are taken of each row, in how many ways -/
inductive Sp_taken_so (K : PySem.W.Frag) : Sp
  | mk {G H : Hp} {C : List (Addr × HO)} {Q : VK} {E : XK} {p : Addr} {rows : List (List Nat)} {t : List Nat} (O : Own G C H) (hp : G p = some (.lst (txR rows))) (h1 : rows.length ≤ 10) (h2 : ∀ i, i < rows.length → (rw' rows i).length ≤ 60) (h3 : t.length ≤ 1000) (h4 : boxN rows < 900000)
      (q : ∀ (r : Addr) (ps : List Addr) (G' H' : Hp), Same G G' → Own G' C H' → G' r = some (.lst (ps.map V.ref)) → ps.length = t.length + 1 → (∀ k d, ps[k]? = some d → ∃ kvs, G' d = some (.dT kvs) ∧ TabT rows (wavM rows t k) kvs) → Q (.ref r) H') : Sp_taken_so K [.ref p, .str (S t)] H Q E
section
variable {P : Program} {w : World} {K : PySem.W.Frag} {mg : Str → Option Value} {base : Heap}
theorem ok_taken_so (T : Env K mg) {f : Addr} {fd : FuncData} (F : Fun K "taken_so" "taken_so" st_taken_so f fd) : FnOk P w K mg base CX0 1 f fd ["rows", "text"] (Sp_taken_so K) := by
  simp (disch := (with_unfolding_all (
    refine into (N := ["rows", "text", "found", "letter", "further", "taken", "count", "at", "row", "more"]) (nm := nm_taken_so) F sc_taken_so ne_taken_so (fun vs H Q E h => by cases h <;> rfl) (by decide) (fun X H vs Q E c h => ?_)
    have B_tuple := T.b_tuple
    have B_enumerate := T.b_enumerate
    have B_len := T.b_len
    cases h with
    | @mk G H C Q E p rows t O hp h1 h2 h3 h4 q =>
    have hpl : (txR rows).length = rows.length := by unfold txR; rw [List.length_map]
    walk_at "in"
    refine e_disp1T c fun d0 H1 n1 => ?_
    have O := O.more n1
    walk_at "au"
    intro z0 H_z0 n_z0
    obtain ⟨G_z0, s_z0, e_z0, O⟩ := Own.fix (by walk_at "as") n_z0
    walk_at "au"
    refine o_rep (hp_up O e_z0) (by omega) (by simp; omega) (by omega) ?_
    intro z1 H_z1 n_z1
    obtain ⟨G_z1, s_z1, e_z1, O⟩ := Own.fix (by walk_at "as") n_z1
    walk_at "au"
    rw [hpl, Int.toNat_natCast] at e_z1
    refine c_tupleL c (.of (hp_up O e_z1)) ?_
    intro kt H_kt n_kt
    obtain ⟨G_kt, s_kt, e_kt, O⟩ := Own.fix (by walk_at "as") n_kt
    walk_at "au"
    rw [rep_keyV] at e_kt
    refine ⟨kt, keyV (List.replicate rows.length 0), rfl, hp_up O e_kt, O.at, ?_⟩
    have O : Own G_kt ((d0, .dT [(keyV (List.replicate rows.length 0), .int 1)]) :: _) _ := O.write
    obtain ⟨G4, s4, e4, O⟩ := O.frz
    have hT := TabT.first rows t
    walk_at "au"
    intro fo H_fo n_fo
    have O := Own.more (by walk_at "as") n_fo
    walk_at "au"
    have hps0 : ∀ k d, [d0][k]? = some d → ∃ kvs, G4 d = some (.dT kvs) ∧ TabT rows (wavM rows t k) kvs := fun k d hd => by
      have : k = 0 := by have := (List.getElem?_eq_some_iff.mp hd).1; simpa using this
      subst this
      cases hd
      exact ⟨_, e4, hT⟩
    refine s_for c (fun _ => rfl) ?_
    refine i_str ?_
    walk_at "au"
    refine ⟨t, rfl, ?_⟩
    refine on_str (fun m σ H => ∃ (ps : List Addr) (b_letter b_further b_taken b_count b_at b_row b_more : Option V) (G_L : Hp), σ = [some (.ref p), some (.str (S t)), some (.ref fo), b_letter, b_further, b_taken, b_count, b_at, b_row, b_more] ∧ Own G_L ((fo, .lst (ps.map V.ref)) :: C) H ∧ Same G4 G_L ∧ ps.length = m + 1 ∧ ∀ k d, ps[k]? = some d → ∃ kvs, G_L d = some (.dT kvs) ∧ TabT rows (wavM rows t k) kvs) ⟨[d0], _, _, _, _, _, _, _, _, rfl, (by walk_at "ow"), (by walk_at "sm"), rfl, hps0⟩ ?_ ?_
    · rintro m ch σ H hm ⟨ps, b_letter, b_further, b_taken, b_count, b_at, b_row, b_more, G_L, rfl, O, s_L, hpl2, hps⟩
      have hmt := (List.getElem?_eq_some_iff.mp hm).1
      have hch : t.getD m 0 = ch := by rw [List.getD_eq_getElem?_getD, hm]; rfl
      obtain ⟨dm, hdm⟩ : ∃ d, ps[m]? = some d := ⟨_, List.getElem?_eq_getElem (by omega)⟩
      obtain ⟨kvs, ed, hTm⟩ := hps m dm hdm
      walk_at "au"
      refine e_dictT fun fu H6 n6 => ?_
      have O := O.more n6
      walk_at "st"
      walk_at "au"
      refine s_lockG O ed trivial fun od G1 H1 eG O eH eG1 same1 same2 => ?_
      have hp1 : G1 p = some (.lst (txR rows)) := same2 _ _ (fun _ _ z => nomatch z) (fun z => nomatch z) (by walk_at "gp")
      refine s_for c (fun _ => rfl) ?_
      refine i_itemsT rfl rfl ?_
      walk_at "au"
      refine x_lst c (by walk_at "sql") (atI_last (v := V.ref dm) (by rw [List.getLast?_map, List.getLast?_eq_getElem?, hpl2, Nat.add_sub_cancel, hdm]; rfl)) ?_
      refine ⟨dm, od, kvs, rfl, eH, ?_⟩
      refine on_itemsT (fun n σ H => ∃ (fk : List (List Key × V)) (b_taken b_count b_at b_row b_more : Option V) (G_R : Hp), σ = [some (.ref p), some (.str (S t)), some (.ref fo), some (.str (S [ch])), some (.ref fu), b_taken, b_count, b_at, b_row, b_more] ∧ Own G_R ((fu, .dT fk) :: (fo, .lst (ps.map V.ref)) :: C) H ∧ Same G1 G_R ∧ TabT rows (giveL rows ch (wavM rows t m) (kvs.take n)) fk) ⟨[], _, _, _, _, _, _, rfl, (by walk_at "ow"), (by walk_at "sm"), (TabT.nil rows).congr fun v _ => giveL_nil _ _ _ _⟩ ?_ ?_ ?_
      · rintro n σ H hn ⟨fk, b_taken, b_count, b_at, b_row, b_more, G_R, rfl, O, s_R, hF⟩
        exact O.same _ _ (s_R _ _ eG1)
      · rintro n k v kq σ H T2 H2 hn ⟨fk, b_taken, b_count, b_at, b_row, b_more, G_R, rfl, O, s_R, hF⟩ hq nT2
        obtain ⟨u, ek, hu, hup⟩ := hTm.key _ (List.mem_of_getElem? hn)
        obtain ⟨rfl, rfl⟩ := Prod.mk.inj ek
        obtain ⟨Ga, sa, O, kn⟩ := Own.learn O hq
        obtain ⟨Gb, sb, eb, O⟩ := Own.fix O nT2
        have kn := kn.up sb
        have hqt : SqT K H2 kq ((keyV u).map kV) := .of (kn.at O)
        repeat ((fail_if_success (with_reducible show Go.sS _ _ _ _ _)); walk_at "st")
        refine s_for c (fun _ => rfl) (i_enumL c (by walk_at "dk") (by walk_at "as") rfl ?_)
        walk_at "au"
        have hpb : Gb p = some (.lst (txR rows)) := by walk_at "gp"
        refine ⟨p, txR rows, rfl, .of (hp_up O hpb), ?_⟩
        refine on_enumL c (xs := txR rows) (fun i σ H => ∃ (fk : List (List Key × V)) (b_at b_row b_more : Option V) (G_I : Hp), σ = [some (.ref p), some (.str (S t)), some (.ref fo), some (.str (S [ch])), some (.ref fu), some (.ref kq), some (.int (wavM rows t m u : Nat)), b_at, b_row, b_more] ∧ Own G_I ((fu, .dT fk) :: (fo, .lst (ps.map V.ref)) :: C) H ∧ Same Gb G_I ∧ TabT rows (fun v => giveL rows ch (wavM rows t m) (kvs.take n) v + giveR rows ch u (wavM rows t m u) i v) fk ∧ Kn G_I ((fu, .dT fk) :: (fo, .lst (ps.map V.ref)) :: C) kq (.tup ((keyV u).map kV))) ⟨fk, _, _, _, _, rfl, (by walk_at "ow"), (by walk_at "sm"), hF.congr fun v _ => by show _ + giveR _ _ _ _ 0 v = _; rfl, kn⟩ ?_ ?_ ?_
        · rintro i σ H hi ⟨fk, b_at, b_row, b_more, G_I, rfl, O, s_I, hF, kn⟩
          exact .of (hp_up O (s_I _ _ hpb))
        · rintro i x σ H T3 H3 hx ⟨fk, b_at, b_row, b_more, G_I, rfl, O, s_I, hF, kn⟩ nT3
          have hx : (rows.map fun z => V.str (S z))[i]? = some x := hx
          rw [List.getElem?_map] at hx
          obtain ⟨row, hrow, rfl⟩ := Option.map_eq_some_iff.mp hx
          obtain ⟨Gc, sc, ec, O⟩ := Own.fix O nT3
          have kn := kn.up sc
          have hi : i < rows.length := (List.getElem?_eq_some_iff.mp hrow).1
          have hri : rw' rows i = row := by unfold rw'; rw [List.getD_eq_getElem?_getD, hrow]; rfl
          have hui : ((keyV u).map kV)[i]? = some (V.int (u.getD i 0 : Nat)) := by rw [keyV_map, List.getElem?_map, gd_get (by rw [hu.1]; exact hi)]; rfl
          have hrl : row.length ≤ 60 := by rw [← hri]; exact h2 i hi
          have hfl := hF.len
          walk_at "au"
          refine x_tup c (.of (kn.at O)) (atI_nat' rfl hui) ?_
          walk_at "au"
          refine i_dec (fun e => ?_) (fun e => ?_)
          · have e : u.getD i 0 < row.length := by omega
            walk_at "au"
            refine x_tup c (.of (kn.at O)) (atI_nat' rfl hui) ?_
            walk_at "au"
            refine i_dec (fun e2 => ?_) (fun e2 => ?_)
            · walk_at "au"
              refine l_tupK c O kn fun r1 Gd Hd sd O kn1 => ?_
              rw [cut_to _ _ (by omega), Int.toNat_natCast] at kn1
              have kn := kn.up sd
              walk_at "au"
              refine x_tup c (.of (kn.at O)) (atI_nat' rfl hui) ?_
              walk_at "au"
              rename_i o1 Ho no Ge se eo O
              have hkl : ((keyV u).map kV).length ≤ 10 := by rw [keyV_map, List.length_map, hu.1]; omega
              refine o_catK c O (kn1.up se) (.inl eo) (by rw [List.length_take]; simp only [List.length_cons, List.length_nil]; omega) fun r2 Gf Hf sf O kn2 => ?_
              have kn := (kn.up se).up sf
              walk_at "au"
              refine l_tupK c O kn fun r3 Gg Hg sg O kn3 => ?_
              rw [cut_from _ _ (by omega), show ((i : Int) + 1).toNat = i + 1 by omega] at kn3
              have kn := kn.up sg
              refine o_catK c O (kn2.up sg) kn3 (by rw [List.length_append, List.length_take, List.length_drop]; simp only [List.length_cons, List.length_nil]; omega) fun r4 Gh Hh sh O kn4 => ?_
              rw [more_keyV u (by rw [hu.1]; exact hi)] at kn4
              have kn := kn.up sh
              have hw : OkV rows (u.set i (u.getD i 0 + 1)) := hu.set hi (by rw [hri]; omega)
              have hput := hF.put hw hup
              have hg := hF.val hw
              walk_at "au"
              refine get_T (k := keyV (u.set i (u.getD i 0 + 1))) O.at (kn4.at O) ?_
              rw [hg]
              walk_at "au"
              refine p_dTL c O (kn4.at O) (by omega) fun Hz O => ?_
              walk_at "au"
              have hput2 : TabT rows (fun v => giveL rows ch (wavM rows t m) (kvs.take n) v + giveR rows ch u (wavM rows t m u) (i + 1) v) (putK fk (keyV (u.set i (u.getD i 0 + 1))) (.int (((giveL rows ch (wavM rows t m) (kvs.take n) (u.set i (u.getD i 0 + 1)) + giveR rows ch u (wavM rows t m u) i (u.set i (u.getD i 0 + 1)) : Nat) : Int) + ((wavM rows t m u : Nat) : Int)))) := hput.congr fun v _ => by
                show _ + giveR _ _ _ _ (i + 1) v = if v = _ then _ else _
                rw [giveR_succ, hri]
                by_cases z : v = u.set i (u.getD i 0 + 1)
                · rw [if_pos z, if_pos ⟨e, e2, z⟩]; omega
                · rw [if_neg z, if_neg fun y => z y.2.2]; rfl
              first | exact ⟨_, _, _, _, _, rfl, (by walk_at "ow"), (by walk_at "sm"), hput2, kn.head (fun ys z => nomatch z)⟩
            · walk_at "au"
              first | exact ⟨fk, _, _, _, _, rfl, (by walk_at "ow"), (by walk_at "sm"), hF.congr fun v _ => (by show _ + giveR _ _ _ _ (i + 1) v = _; rw [giveR_succ, hri, if_neg (fun z => e2 z.2.1)]; rfl), kn⟩
          · walk_at "au"
            first | exact ⟨fk, _, _, _, _, rfl, (by walk_at "ow"), (by walk_at "sm"), hF.congr fun v _ => (by show _ + giveR _ _ _ _ (i + 1) v = _; rw [giveR_succ, hri, if_neg (fun z => e (by omega))]; rfl), kn⟩
        · rintro σ H ⟨fk, b_at, b_row, b_more, G_I, rfl, O, s_I, hF, kn⟩
          rw [hpl] at hF
          walk_at "au"
          first | exact ⟨fk, _, _, _, _, _, _, rfl, (by walk_at "ow"), (by walk_at "sm"), hF.congr fun v _ => giveL_step hn v⟩
      · rintro σ H ⟨fk, b_taken, b_count, b_at, b_row, b_more, G_R, rfl, O, s_R, hF⟩
        obtain ⟨b1, O, s9⟩ := O.thaw ed eG s_R
        refine ⟨b1, ?_⟩
        generalize upd G_R dm (.dT kvs) = G6 at *
        obtain ⟨G8, s8, e9, O⟩ := O.frz
        have hlen : (ps.map V.ref).length ≤ 1001 := by rw [List.length_map]; omega
        walk_at "au"
        rename_i Hz O
        rw [show ps.map V.ref ++ [V.ref fu] = (ps ++ [fu]).map V.ref by simp] at O
        rw [List.take_length] at hF
        have hnew : ∀ k d, (ps ++ [fu])[k]? = some d → ∃ kvs, G8 d = some (.dT kvs) ∧ TabT rows (wavM rows t k) kvs := fun k d hd => by
          by_cases hk : k < ps.length
          · rw [List.getElem?_append_left hk] at hd
            obtain ⟨kvs, a, b⟩ := hps k d hd
            exact ⟨kvs, s8 _ _ (s9 _ _ a), b⟩
          · have hk2 := (List.getElem?_eq_some_iff.mp hd).1
            rw [List.length_append, List.length_singleton] at hk2
            obtain rfl : k = m + 1 := by omega
            rw [List.getElem?_append_right (by omega), hpl2, Nat.sub_self] at hd
            obtain rfl := Option.some.inj hd
            exact ⟨fk, e9, hF.congr fun v hv => giveL_all hTm hmt hch hv⟩
        first | exact ⟨ps ++ [fu], _, _, _, _, _, _, _, _, rfl, (by walk_at "ow"), (by walk_at "sm"), by simp [hpl2], hnew⟩
    · rintro σ H ⟨ps, b_letter, b_further, b_taken, b_count, b_at, b_row, b_more, G_L, rfl, O, s_L, hpl2, hps⟩
      obtain ⟨G9, s9, e9, O⟩ := O.frz
      walk_at "au"
      exact q fo ps _ _ (by walk_at "sm") O e9 hpl2 fun k d hd => by
        obtain ⟨kvs, a, b⟩ := hps k d hd
        exact ⟨kvs, s9 _ _ a, b⟩))) only [↓fn_ok]
theorem cal_taken_so (T : Env K mg) : Cal P w K mg base 1 "taken_so" (Sp_taken_so K) := cal_of T.d_taken_so fun F => ok_taken_so T F
end

end Law

namespace Law
open PySem PySem.Spec PyProof.Rows L2 Go
/-- the first way of the rows -/
inductive Sp_way_of (K : PySem.W.Frag) : Sp
  | mk {G H : Hp} {C : List (Addr × HO)} {Q : VK} {E : XK} {p : Addr} {rows : List (List Nat)} {t : List Nat} (O : Own G C H) (hp : G p = some (.lst (txR rows))) (h1 : rows.length ≤ 10) (h2 : ∀ i, i < rows.length → (rw' rows i).length ≤ 60) (h3 : t.length ≤ 1000) (h4 : boxN rows < 900000)
      (q0 : wavN t rows = 0 → ∀ (G' H' : Hp), Same G G' → Own G' C H' → Q .non H')
      (q : 0 < wavN t rows → ∀ (r : Addr) (G' H' : Hp), Same G G' → Own G' ((r, .lst ((fstN t rows).map fun (k : Nat) => V.int (k : Nat))) :: C) H' → Q (.ref r) H') : Sp_way_of K [.ref p, .str (S t)] H Q E
section
variable {P : Program} {w : World} {K : PySem.W.Frag} {mg : Str → Option Value} {base : Heap}
theorem ok_way_of (T : Env K mg) {f : Addr} {fd : FuncData} (F : Fun K "way_of" "way_of" st_way_of f fd) : FnOk P w K mg base CX0 2 f fd ["rows", "text"] (Sp_way_of K) := by
  simp (disch := (with_unfolding_all (
    refine into (N := ["rows", "text", "layers", "left", "found", "place", "at", "row", "fewer"]) (nm := nm_way_of) F sc_way_of ne_way_of (fun vs H Q E h => by cases h <;> rfl) (by decide) (fun X H vs Q E c h => ?_)
    have C_taken_so := cal_taken_so (P := P) (w := w) (base := base) T
    have B_tuple := T.b_tuple
    have B_range := T.b_range
    have B_len := T.b_len
    have B_enumerate := T.b_enumerate
    cases h with
    | @mk G H C Q E p rows t O hp h1 h2 h3 h4 q0 q =>
    have hpl : (txR rows).length = rows.length := by unfold txR; rw [List.length_map]
    obtain ⟨rR, hR⟩ : ∃ rR, rR = rows.map List.reverse := ⟨_, rfl⟩
    obtain ⟨tR, htR⟩ : ∃ tR, tR = t.reverse := ⟨_, rfl⟩
    have hR1 : rR.length ≤ 10 := by rw [hR, List.length_map]; exact h1
    have hR2 : ∀ i, i < rR.length → (rw' rR i).length ≤ 60 := fun i hi => by rw [hR, revR_rw, List.length_reverse]; rw [hR, List.length_map] at hi; exact h2 i hi
    have hR4 : boxN rR < 900000 := by rw [hR, boxN_rev]; exact h4
    have hR3 : tR.length ≤ 1000 := by rw [htR, List.length_reverse]; exact h3
    walk_at "in"
    refine i_listK c ?_
    walk_at "au"
    refine ⟨p, _, rfl, .of (hp_up O hp), ?_⟩
    refine lr_list (fun n acc _ C' => acc = (rows.take n).map (fun z => V.str (S z.reverse)) ∧ C = C') c (by walk_at "ix") (by walk_at "dk") rfl (.of hp) (by omega) O ⟨rfl, rfl⟩ ?_ ?_
    · rintro m x acc G2 C2 A H2 hx ⟨rfl, rfl⟩ O s2 X' c
      have hx : (rows.map fun z => V.str (S z))[m]? = some x := hx
      rw [List.getElem?_map] at hx
      obtain ⟨row, hrow, rfl⟩ := Option.map_eq_some_iff.mp hx
      have hi : m < rows.length := (List.getElem?_eq_some_iff.mp hrow).1
      have hri : rw' rows m = row := by unfold rw'; rw [List.getD_eq_getElem?_getD, hrow]; rfl
      have hrl : row.length ≤ 60 := by rw [← hri]; exact h2 m hi
      refine e_revS ?_
      walk_at "au"
      refine ⟨_, rfl, by omega, ?_⟩
      exact ⟨_, _, O, by walk_at "sm", by rw [List.take_add_one, hrow, List.map_append]; rfl, rfl⟩
    rintro acc G2 C2 A H2 hl ⟨rfl, rfl⟩ O s2
    obtain ⟨G3, s3, e3, O⟩ := O.frz
    rw [hpl, List.take_length] at e3
    have e3 : G3 A = some (.lst (txR rR)) := by rw [e3, hR]; unfold txR; rw [List.map_map]; rfl
    walk_at "au"
    refine e_revS ?_
    walk_at "au"
    refine ⟨_, rfl, by omega, ?_⟩
    rw [← htR]
    walk_at "au"
    refine' Sp_taken_so.mk ?O ?hp ?h1 ?h2 ?h3 ?h4 ?_
    (case O => walk_at "own")
    (case hp => walk_at "ar")
    (case h1 => walk_at "ar")
    (case h2 => walk_at "ar")
    (case h3 => walk_at "ar")
    (case h4 => walk_at "ar")
    intro r ps G_r H_r s_r O er hps hts
    have hpr : G_r p = some (.lst (txR rows)) := by walk_at "gp"
    have hRl : rR.length = rows.length := by rw [hR, List.length_map]
    have htl : tR.length = t.length := by rw [htR, List.length_reverse]
    walk_at "au"
    refine i_listK c ?_
    walk_at "au"
    refine ⟨p, _, rfl, .of (hp_up O hpr), ?_⟩
    refine lr_list (fun n acc _ C' => acc = (rows.take n).map (fun z => V.int (z.length : Nat)) ∧ C = C') c (by walk_at "ix") (by walk_at "dk") rfl (.of hpr) (by omega) O ⟨rfl, rfl⟩ ?_ ?_
    · rintro m x acc G2 C2 A H2 hx ⟨rfl, rfl⟩ O s2 X' c
      have hx : (rows.map fun z => V.str (S z))[m]? = some x := hx
      rw [List.getElem?_map] at hx
      obtain ⟨row, hrow, rfl⟩ := Option.map_eq_some_iff.mp hx
      have hi : m < rows.length := (List.getElem?_eq_some_iff.mp hrow).1
      have hri : rw' rows m = row := by unfold rw'; rw [List.getD_eq_getElem?_getD, hrow]; rfl
      have hrl : row.length ≤ 60 := by rw [← hri]; exact h2 m hi
      walk_at "au"
      exact ⟨_, _, O, by walk_at "sm", by rw [List.take_add_one, hrow, List.map_append]; rfl, rfl⟩
    rintro acc G4 C4 A4 H4 hl4 ⟨rfl, rfl⟩ O s4
    obtain ⟨G5, s5, e5, O⟩ := O.frz
    rw [hpl, List.take_length] at e5
    walk_at "au"
    refine c_tupleL c (.of (hp_up O e5)) ?_
    intro kt H_kt n_kt
    obtain ⟨G_kt, s_kt, e_kt, O⟩ := Own.fix (by walk_at "as") n_kt
    walk_at "au"
    have ek : G_kt kt = some (.tup ((keyV (lensR rows)).map kV)) := by
      rw [e_kt, keyV_map]
      unfold lensR
      rw [List.map_map]; rfl
    obtain ⟨dm, hdm⟩ : ∃ d, ps[t.length]? = some d := ⟨_, List.getElem?_eq_getElem (by omega)⟩
    obtain ⟨kvs, ed, hT⟩ := hts t.length dm hdm
    walk_at "au"
    have er2 : G_kt r = some (.lst (ps.map V.ref)) := by walk_at "gp"
    refine x_lst c (.of (hp_up O er2)) (atI_last (v := V.ref dm) (by rw [List.getLast?_map, List.getLast?_eq_getElem?, hps, htl, Nat.add_sub_cancel, hdm]; rfl)) ?_
    have ed2 : G_kt dm = some (.dT kvs) := by walk_at "gp"
    refine o_notInTL c (hp_up O ed2) (hp_up O ek) ?_
    have hk0 := hT.has (v := lensR rows) (by rw [hR]; exact okV_rev.mpr (okV_lens rows))
    rw [hR, htR, wavM_tails, Nat.sub_self, List.drop_zero, tails_all] at hk0
    rw [hk0]
    walk_at "au"
    refine i_decD (fun hw => ?_) (fun hw => ?_)
    case refine_2 =>
      walk_at "au"
      exact q0 (by omega) _ _ (by walk_at "sm") O
    · walk_at "au"
      intro fo H_fo n_fo
      have O := Own.more (by walk_at "as") n_fo
      walk_at "au"
      refine s_for c (fun _ => rfl) ?_
      walk_at "au"
      refine on_range (fun k σ H => ∃ (v fd : List Nat) (lf : Addr) (b_place b_at b_row b_fewer : Option V) (G_L : Hp), σ = [some (.ref p), some (.str (S t)), some (.ref r), some (.ref lf), some (.ref fo), b_place, b_at, b_row, b_fewer] ∧ Own G_L ((fo, .lst (fd.map fun (k : Nat) => V.int (k : Nat))) :: C) H ∧ Same G_kt G_L ∧ Fst rows t k v fd ∧ fd.length = k ∧ Kn G_L ((fo, .lst (fd.map fun (k : Nat) => V.int (k : Nat))) :: C) lf (.tup ((keyV v).map kV))) ⟨lensR rows, [], kt, _, _, _, _, _, rfl, (by walk_at "ow"), (by walk_at "sm"), Fst.first hw, rfl, .inl ek⟩ ?_ ?_
      · rintro k σ H hk ⟨v, fd, lf, b_place, b_at, b_row, b_fewer, G_L, rfl, O, s_L, hF, hfl, kn⟩
        have hk : k < t.length := by omega
        rw [Int.zero_add]
        walk_at "au"
        refine s_for c (fun _ => rfl) (i_enumL c (by walk_at "dk") (by walk_at "as") rfl ?_)
        walk_at "au"
        have hpb : G_L p = some (.lst (txR rows)) := by walk_at "gp"
        obtain ⟨dk, hdk⟩ : ∃ d, ps[t.length - 1 - k]? = some d := ⟨_, List.getElem?_eq_getElem (by omega)⟩
        obtain ⟨kvk, edk, hTk⟩ := hts (t.length - 1 - k) dk hdk
        have edk : G_L dk = some (.dT kvk) := by walk_at "gp"
        have er3 : G_L r = some (.lst (ps.map V.ref)) := by walk_at "gp"
        refine ⟨p, _, rfl, .of (hp_up O hpb), ?_⟩
        refine on_enumL c (xs := txR rows) (fun i σ H => ∃ (b_at b_row b_fewer : Option V) (G_I : Hp), σ = [some (.ref p), some (.str (S t)), some (.ref r), some (.ref lf), some (.ref fo), some (.int (k : Nat)), b_at, b_row, b_fewer] ∧ Own G_I ((fo, .lst (fd.map fun (k : Nat) => V.int (k : Nat))) :: C) H ∧ Same G_L G_I ∧ Kn G_I ((fo, .lst (fd.map fun (k : Nat) => V.int (k : Nat))) :: C) lf (.tup ((keyV v).map kV)) ∧ ∀ j, j < i → stpB (t.getD k 0) (t.drop (k + 1)) (tailsR rows v) j = false) ⟨_, _, _, _, rfl, (by walk_at "ow"), (by walk_at "sm"), kn, fun j h => by omega⟩ ?_ ?_ ?_
        · rintro i σ H hi ⟨b_at, b_row, b_fewer, G_I, rfl, O, s_I, kn, hn⟩
          exact .of (hp_up O (s_I _ _ hpb))
        · rintro i x σ H T3 H3 hx ⟨b_at, b_row, b_fewer, G_I, rfl, O, s_I, kn, hn⟩ nT3
          have hx : (rows.map fun z => V.str (S z))[i]? = some x := hx
          rw [List.getElem?_map] at hx
          obtain ⟨row, hrow, rfl⟩ := Option.map_eq_some_iff.mp hx
          obtain ⟨Gc, sc, ec, O⟩ := Own.fix O nT3
          have kn := kn.up sc
          have hi : i < rows.length := (List.getElem?_eq_some_iff.mp hrow).1
          have hri : rw' rows i = row := by unfold rw'; rw [List.getD_eq_getElem?_getD, hrow]; rfl
          have hui : ((keyV v).map kV)[i]? = some (V.int (v.getD i 0 : Nat)) := by rw [keyV_map, List.getElem?_map, gd_get (by rw [hF.ok.1]; exact hi)]; rfl
          have hrl : row.length ≤ 60 := by rw [← hri]; exact h2 i hi
          have hkl : ((keyV v).map kV).length ≤ 10 := by rw [keyV_map, List.length_map, hF.ok.1]; omega
          have hstp := stp_key hF.ok hi hk (m := t.length - 1 - k) rfl
          walk_at "au"
          refine l_tupK c O kn fun r1 Gd Hd sd O kn1 => ?_
          rw [cut_to _ _ (by omega), Int.toNat_natCast] at kn1
          have kn := kn.up sd
          walk_at "au"
          refine x_tup c (.of (kn.at O)) (atI_nat' rfl hui) ?_
          walk_at "au"
          rename_i o1 Ho no Ge se eo O
          refine o_catK c O (kn1.up se) (.inl eo) (by rw [List.length_take]; simp only [List.length_cons, List.length_nil]; omega) fun r2 Gf Hf sf O kn2 => ?_
          have kn := (kn.up se).up sf
          walk_at "au"
          refine l_tupK c O kn fun r3 Gg Hg sg O kn3 => ?_
          rw [cut_from _ _ (by omega), show ((i : Int) + 1).toNat = i + 1 by omega] at kn3
          have kn := kn.up sg
          refine o_catK c O (kn2.up sg) kn3 (by rw [List.length_append, List.length_take, List.length_drop]; simp only [List.length_cons, List.length_nil]; omega) fun r4 Gh Hh sh O kn4 => ?_
          rw [fewK_map] at kn4
          have kn := kn.up sh
          walk_at "au"
          have er4 : Gh r = some (.lst (ps.map V.ref)) := by walk_at "gp"
          have edk4 : Gh dk = some (.dT kvk) := by walk_at "gp"
          refine o_inTL c (hp_up O edk4) (kn4.at O) ?_
          rw [hTk.few (by rw [hR]; exact okV_rev.mpr hF.ok) (by omega)]
          have hvl : v.getD i 0 ≤ row.length := by rw [← hri]; exact hF.ok.2 i hi
          rw [hri, ← hR, ← htR] at hstp
          have hno : stpB (t.getD k 0) (t.drop (k + 1)) (tailsR rows v) i = false → ∀ j, j < i + 1 → stpB (t.getD k 0) (t.drop (k + 1)) (tailsR rows v) j = false := fun h j hj => by
            by_cases z : j = i
            · rw [z]; exact h
            · exact hn j (by omega)
          refine k_b ?_
          refine i_decD (fun e => ?_) (fun e => ?_)
          · obtain ⟨e1, e2⟩ := e
            walk_at "au"
            refine x_tup c (.of (kn.at O)) (atI_nat' rfl hui) ?_
            walk_at "au"
            refine i_decD (fun e3 => ?_) (fun e3 => ?_)
            · have hs : stpB (t.getD k 0) (t.drop (k + 1)) (tailsR rows v) i = true := by rw [hstp, decide_eq_true ⟨e1, e3, e2⟩]
              obtain ⟨_, hF2⟩ := hF.next hk hi hs hn
              walk_at "au"
              rename_i Hz O
              rw [show (fd.map fun (k : Nat) => V.int (k : Nat)) ++ [V.int (i : Nat)] = (fd ++ [i]).map fun (k : Nat) => V.int (k : Nat) by simp] at O
              rw [fewK_set (by rw [hF.ok.1]; exact hi) e1] at kn4
              first | exact ⟨_, (fd ++ [i]), r4, _, _, _, _, _, rfl, (by walk_at "ow"), (by walk_at "sm"), hF2, by rw [List.length_append, hfl]; rfl, kn4.head (fun ys z => nomatch z)⟩
            · walk_at "au"
              first | exact ⟨_, _, _, _, rfl, (by walk_at "ow"), (by walk_at "sm"), kn, hno (by rw [hstp]; exact decide_eq_false fun z => e3 z.2.1)⟩
          · walk_at "au"
            first | exact ⟨_, _, _, _, rfl, (by walk_at "ow"), (by walk_at "sm"), kn, hno (by rw [hstp]; exact decide_eq_false fun z => e ⟨z.1, z.2.2⟩)⟩
        · rintro σ H ⟨b_at, b_row, b_fewer, G_I, rfl, O, s_I, kn, hn⟩
          exfalso
          obtain ⟨i, hi, hs⟩ := hF.ex hk
          rw [hn i (by omega)] at hs
          cases hs
      · rintro σ H ⟨v, fd, lf, b_place, b_at, b_row, b_fewer, G_L, rfl, O, s_L, hF, hfl, kn⟩
        walk_at "au"
        rw [Int.toNat_natCast] at hF
        rw [hF.last] at O
        exact q hw fo _ _ (by walk_at "sm") O))) only [↓fn_ok]
theorem cal_way_of (T : Env K mg) : Cal P w K mg base 2 "way_of" (Sp_way_of K) := cal_of T.d_way_of fun F => ok_way_of T F
end

end Law

namespace Law
open PySem PySem.Spec PyProof.Rows L2 Go
/-- a new hand: a list of two numbers -/
inductive Sp_law_hand (K : PySem.W.Frag) : Sp
  | mk {G H : Hp} {C : List (Addr × HO)} {Q : VK} {E : XK} {cell k : Int} (O : Own G C H) (h1 : 0 ≤ k) (h2 : k ≤ 100)
      (q : ∀ (p : Addr) (o : HO) (H' : Hp), Own G ((p, o) :: C) H' → HandO o → Q (.ref p) H') : Sp_law_hand K [.int cell, .int k] H Q E
section
variable {P : Program} {w : World} {K : PySem.W.Frag} {mg : Str → Option Value} {base : Heap}
theorem ok_law_hand (T : Env K mg) {f : Addr} {fd : FuncData} (F : Fun K "_law_hand" "_law_hand" st_law_hand f fd) : FnOk P w K mg base CX0 1 f fd ["cell", "k"] (Sp_law_hand K) := by
  simp (disch := (with_unfolding_all (
    refine into (N := ["cell", "k", "digits"]) (nm := nm_law_hand) F sc_law_hand ne_law_hand (fun vs H Q E h => by cases h <;> rfl) (by decide) (fun X H vs Q E c h => ?_)
    cases h with
    | mk O h1 h2 q =>
    walk_at "in"
    refine i_dec (fun h => ?_) (fun h => ?_)
    · walk_at "go"
      exact fun p H' n => q _ _ _ (O.more n) ⟨_, _, rfl, Int.le_trans (by decide) h, by omega, by omega⟩
    · walk_at "go"
      exact fun p H' n => q _ _ _ (O.more n) ⟨_, _, rfl, by decide, by omega, by omega⟩))) only [↓fn_ok]
theorem cal_law_hand (T : Env K mg) : Cal P w K mg base 1 "_law_hand" (Sp_law_hand K) := cal_of T.d_law_hand fun F => ok_law_hand T F
end

end Law

namespace Law
open PySem PySem.Spec PyProof.Rows L2 Go
/-- a number below the limit is drawn of the hand -/
inductive Sp_law_draw (K : PySem.W.Frag) : Sp
  | mk {G H : Hp} {C : List (Addr × HO)} {Q : VK} {E : XK} {p : Addr} {o : HO} {l : Int} (O : Own G ((p, o) :: C) H) (hh : HandO o) (h3 : 0 < l) (h4 : l < 1000000000)
      (q : ∀ (r : Int) (o : HO) (H' : Hp), Own G ((p, o) :: C) H' → HandO o → 0 ≤ r → r < l → Q (.int r) H') : Sp_law_draw K [.ref p, .int l] H Q E
section
variable {P : Program} {w : World} {K : PySem.W.Frag} {mg : Str → Option Value} {base : Heap}
theorem ok_law_draw (T : Env K mg) {f : Addr} {fd : FuncData} (F : Fun K "_law_draw" "_law_draw" st_law_draw f fd) : FnOk P w K mg base CX0 1 f fd ["hand", "limit"] (Sp_law_draw K) := by
  simp (disch := (with_unfolding_all (
    refine into (N := ["hand", "limit", "got"]) (nm := nm_law_draw) F sc_law_draw ne_law_draw (fun vs H Q E h => by cases h <;> rfl) (by decide) (fun X H vs Q E c h => ?_)
    cases h with
    | mk O hh h3 h4 q =>
    obtain ⟨d, m, rfl, h0, h1, h2⟩ := hh
    walk_at "in"
    refine i_dec (fun h => ?_) (fun h => ?_)
    · walk_at "go"
      exact q _ _ _ (by assumption) ⟨_, _, rfl, Int.ediv_nonneg h0 (by omega), h1, h2⟩ (Int.emod_nonneg _ (by omega)) (Int.emod_lt_of_pos _ h3)
    · walk_at "go"
      rename_i O'
      exact q _ _ _ O' ⟨_, _, rfl, h0, by omega, by omega⟩ (Int.emod_nonneg _ (by omega)) (Int.emod_lt_of_pos _ h3)))) only [↓fn_ok]
theorem cal_law_draw (T : Env K mg) : Cal P w K mg base 1 "_law_draw" (Sp_law_draw K) := cal_of T.d_law_draw fun F => ok_law_draw T F
end

end Law

namespace Law
open PySem PySem.Spec PyProof.Rows L2 Go
/-- the script's first cells, each with its place: a list of pairs -/
inductive Sp_law_cells (K : PySem.W.Frag) : Sp
  | mk {G H : Hp} {C : List (Addr × HO)} {Q : VK} {E : XK} {a : Addr} {ns : List Int} {n : Int} (O : Own G C H) (hS : SqL K G a (ns.map V.int)) (hl : ns.length ≤ 63) (h0 : 1 ≤ n) (h1 : n ≤ 100)
      (q : ∀ (r : Addr) (ts : List Addr) (xs : List Int) (G' H' : Hp), Same G G' → Own G' C H' → xs.length ≤ 63 → ts.length = xs.length → G' r = some (.lst (ts.map V.ref)) → (∀ (i : Nat) (t : Addr), ts[i]? = some t → ∃ x : Int, G' t = some (.tup [.int (i : Nat), .int x])) → Q (.ref r) H') : Sp_law_cells K [.ref a, .int n] H Q E
section
variable {P : Program} {w : World} {K : PySem.W.Frag} {mg : Str → Option Value} {base : Heap}
theorem ok_law_cells (T : Env K mg) {f : Addr} {fd : FuncData} (F : Fun K "_law_cells" "_law_cells" st_law_cells f fd) : FnOk P w K mg base CX0 1 f fd ["script", "many"] (Sp_law_cells K) := by
  simp (disch := (with_unfolding_all (
    refine into (N := ["script", "many"]) (nm := nm_law_cells) F sc_law_cells ne_law_cells (fun vs H Q E h => by cases h <;> rfl) (by decide) (fun X H vs Q E c h => ?_)
    have B_list := T.b_list
    have B_enumerate := T.b_enumerate
    have B_int := T.b_int
    cases h with
    | @mk G H C Q E a ns n O hS hl h0 h1 q =>
    walk_at "in"
    refine l_lst c (by walk_at "sql") fun p1 H1 n1 => ?_
    obtain ⟨G1, s1, hp1, O1⟩ := O.fix n1
    walk_at "go"
    intro p2 H2 n2
    obtain ⟨G2, s2, hp2, O2⟩ := O1.fix n2
    walk_at "go"
    intro p3 H3 n3
    obtain ⟨G3, s3, hp3, O3⟩ := O2.fix n3
    refine o_eqLI c (ms := []) (by walk_at "sql") (show SqL K H3 p3 [] by walk_at "sql") ?_
    walk_at "go"
    refine o_rep (by walk_at "hp") (by split <;> decide) (by split <;> decide) (by split <;> decide) fun p4 H4 n4 => ?_
    obtain ⟨G4, s4, hp4, O4⟩ := O3.fix n4
    obtain ⟨xs, hx, hxl⟩ : ∃ xs : List Int, cut (List.map V.int ns) none (some n) ++ (List.replicate (if decide (ns = []) = true then (1 : Int) else 0).toNat [V.int 0]).flatten = xs.map V.int ∧ xs.length ≤ 63 := by
      refine ⟨ns.take n.toNat ++ (if ns = [] then [0] else []), ?_, ?_⟩
      · rw [cut_to _ _ (by omega), List.map_append, List.map_take]
        congr 1
        by_cases h : ns = []
        · rw [if_pos h, if_pos (decide_eq_true h)]; rfl
        · rw [if_neg h, if_neg (by simpa using h)]; rfl
      · rw [List.length_append, List.length_take]
        split
        · subst_vars; simp
        · simp only [List.length_nil]; omega
    refine o_cat (by walk_at "hp") (by walk_at "hp") (by rw [← List.length_append, hx, List.length_map]; omega) fun p5 H5 n5 => ?_
    rw [hx] at n5
    obtain ⟨G5, s5, hp5, O5⟩ := O4.fix n5
    refine ⟨p5, _, rfl, .of (hp_up O5 hp5), fun H6 r ts s l f1 f2 e1 e2 nr => ?_⟩
    obtain ⟨G6, s6, O6, k6⟩ := O5.all s
    walk_at "go"
    refine q r ts xs G6 H6 (fun b u e => s6 _ _ (s5 _ _ (s4 _ _ (s3 _ _ (s2 _ _ (s1 _ _ e)))))) O6 hxl (by rw [l, List.length_map]) (k6 _ _ f1 e1) fun i t ht => ?_
    have hi : i < xs.length := by
      have := (List.getElem?_eq_some_iff.mp ht).1
      rw [l, List.length_map] at this
      exact this
    exact ⟨xs[i], k6 _ _ (f2 _ (List.mem_of_getElem? ht)) (e2 i t _ ht (by rw [List.getElem?_map, List.getElem?_eq_getElem hi]; rfl))⟩))) only [↓fn_ok]
theorem cal_law_cells (T : Env K mg) : Cal P w K mg base 1 "_law_cells" (Sp_law_cells K) := cal_of T.d_law_cells fun F => ok_law_cells T F
end

end Law

namespace Law
open PySem PySem.Spec PyProof.Rows L2 Go
/-- letters to draw from -/
inductive Sp_law_pool (K : PySem.W.Frag) : Sp
  | mk {G H : Hp} {C : List (Addr × HO)} {Q : VK} {E : XK} {p : Addr} {o : HO} (O : Own G ((p, o) :: C) H) (hh : HandO o)
      (q : ∀ (r : Addr) (ls : List Nat) (o : HO) (G' H' : Hp), Same G G' → Own G' ((p, o) :: C) H' → HandO o → G' r = some (.lst (ls.map sgn)) → 1 ≤ ls.length → ls.length ≤ 26 → LetL ls → Q (.ref r) H') : Sp_law_pool K [.ref p] H Q E
section
variable {P : Program} {w : World} {K : PySem.W.Frag} {mg : Str → Option Value} {base : Heap}
theorem ok_law_pool (T : Env K mg) {f : Addr} {fd : FuncData} (F : Fun K "_law_pool" "_law_pool" st_law_pool f fd) : FnOk P w K mg base CX0 2 f fd ["hand"] (Sp_law_pool K) := by
  simp (disch := (with_unfolding_all (
    refine into (N := ["hand", "small", "many", "first", "step", "k"]) (nm := nm_law_pool) F sc_law_pool ne_law_pool (fun vs H Q E h => by cases h <;> rfl) (by decide) (fun X H vs Q E c h => ?_)
    have C_law_draw := cal_law_draw (P := P) (w := w) (base := base) T
    have B_range := T.b_range
    cases h with
    | @mk G H C Q E p o O hh q =>
    walk_at "in"
    walk_at "au"
    refine' Sp_law_draw.mk ?O ?hh ?h3 ?h4 ?_
    (case O => walk_at "own")
    (case hh => walk_at "as")
    (case h3 => walk_at "ar")
    (case h4 => walk_at "ar")
    intro r1 o H_r1 O hh r1_1 r1_2
    walk_at "au"
    obtain ⟨m, hm, m1, m2⟩ : ∃ m : Int, atI [V.int 1, V.int 2, V.int 3, V.int 26] r1 = some (.int m) ∧ 1 ≤ m ∧ m ≤ 26 := by
      have : r1 = 0 ∨ r1 = 1 ∨ r1 = 2 ∨ r1 = 3 := by omega
      rcases this with rfl | rfl | rfl | rfl <;> exact ⟨_, rfl, by decide, by decide⟩
    refine x_lst c (by walk_at "sql") hm ?_
    walk_at "au"
    refine' Sp_law_draw.mk ?O ?hh ?h3 ?h4 ?_
    (case O => walk_at "own")
    (case hh => walk_at "as")
    (case h3 => walk_at "ar")
    (case h4 => walk_at "ar")
    intro fi o H_fi O hh fi_1 fi_2
    walk_at "au"
    refine' Sp_law_draw.mk ?O ?hh ?h3 ?h4 ?_
    (case O => walk_at "own")
    (case hh => walk_at "as")
    (case h3 => walk_at "ar")
    (case h4 => walk_at "ar")
    intro r2 o H_r2 O hh r2_1 r2_2
    walk_at "au"
    obtain ⟨st, hs, s1, s2⟩ : ∃ m : Int, atI [V.int 1, V.int 3, V.int 5, V.int 7, V.int 9, V.int 11] r2 = some (.int m) ∧ 1 ≤ m ∧ m ≤ 11 := by
      have : r2 = 0 ∨ r2 = 1 ∨ r2 = 2 ∨ r2 = 3 ∨ r2 = 4 ∨ r2 = 5 := by omega
      rcases this with rfl | rfl | rfl | rfl | rfl | rfl <;> exact ⟨_, rfl, by decide, by decide⟩
    refine x_lst c (by walk_at "sql") hs ?_
    walk_at "au"
    rename_i O
    refine lr_range (fun n acc _ C' => ∃ ls : List Nat, acc = ls.map sgn ∧ ls.length = n ∧ LetL ls ∧ C' = (p, o) :: C) c (by walk_at "ix") (by walk_at "dk") rfl (by omega) O ⟨[], rfl, rfl, LetL.nil, rfl⟩ ?_ ?_
    · rintro n acc G2 C2 A H2 hn ⟨ls, rfl, hl, hL, rfl⟩ O s2 X' c
      walk_at "au"
      have e0 : 0 ≤ (fi + st * (0 + (n : Int))) % 26 := Int.emod_nonneg _ (by decide)
      have e1 : (fi + st * (0 + (n : Int))) % 26 < 26 := Int.emod_lt_of_pos _ (by decide)
      refine x_str (by decide) (abc_at _ e0 e1) ?_
      exact ⟨_, _, O, same_rfl, ls ++ [97 + ((fi + st * (0 + (n : Int))) % 26).toNat], by simp [sgn], by simp [hl], hL.app (.one (by omega)), rfl⟩
    · rintro acc G2 C2 A H2 hl ⟨ls, rfl, hl2, hL, rfl⟩ O s2
      obtain ⟨G3, s3, e3, O⟩ := O.frz
      refine' q _ _ _ _ _ ?s_k ?O ?hh ?k_1 ?k_2 ?k_3 ?k_4
      (case O => walk_at "own")
      (case s_k => walk_at "sm")
      (case hh => walk_at "as")
      (case k_1 => walk_at "ar")
      (case k_2 => walk_at "ar")
      (case k_3 => walk_at "ar")
      (case k_4 => walk_at "ar")))) only [↓fn_ok]
theorem cal_law_pool (T : Env K mg) : Cal P w K mg base 2 "_law_pool" (Sp_law_pool K) := cal_of T.d_law_pool fun F => ok_law_pool T F
end

end Law

namespace Law
open PySem PySem.Spec PyProof.Rows L2 Go
/-- a row of letters of the pool -/
inductive Sp_law_row (K : PySem.W.Frag) : Sp
  | mk {G H : Hp} {C : List (Addr × HO)} {Q : VK} {E : XK} {p r : Addr} {o : HO} {ls : List Nat} {n : Nat} (O : Own G ((p, o) :: C) H) (hh : HandO o) (er : G r = some (.lst (ls.map sgn))) (l1 : 1 ≤ ls.length) (l2 : ls.length ≤ 26) (hL : LetL ls) (hn : n ≤ 200)
      (q : ∀ (z : List Nat) (o : HO) (G' H' : Hp), Same G G' → Own G' ((p, o) :: C) H' → HandO o → z.length = n → LetL z → Q (.str (S z)) H') : Sp_law_row K [.ref p, .ref r, .int (n : Nat)] H Q E
section
variable {P : Program} {w : World} {K : PySem.W.Frag} {mg : Str → Option Value} {base : Heap}
theorem ok_law_row (T : Env K mg) {f : Addr} {fd : FuncData} (F : Fun K "_law_row" "_law_row" st_law_row f fd) : FnOk P w K mg base CX0 2 f fd ["hand", "pool", "many"] (Sp_law_row K) := by
  simp (disch := (with_unfolding_all (
    refine into (N := ["hand", "pool", "many", "way", "piece", "found", "turn", "k"]) (nm := nm_law_row) F sc_law_row ne_law_row (fun vs H Q E h => by cases h <;> rfl) (by decide) (fun X H vs Q E c h => ?_)
    have C_law_draw := cal_law_draw (P := P) (w := w) (base := base) T
    have B_range := T.b_range
    have B_int := T.b_int
    have B_len := T.b_len
    cases h with
    | @mk G H C Q E p r o ls n O hh er l1 l2 hL hn q =>
    walk_at "in"
    walk_at "au"
    refine' Sp_law_draw.mk ?O ?hh ?h3 ?h4 ?_
    (case O => walk_at "own")
    (case hh => walk_at "as")
    (case h3 => walk_at "ar")
    (case h4 => walk_at "ar")
    intro wy o H_wy O hh wy_1 wy_2
    walk_at "au"
    refine i_dec (fun h => ?_) (fun h => ?_)
    · walk_at "au"
      refine' Sp_law_draw.mk ?O ?hh ?h3 ?h4 ?_
      (case O => walk_at "own")
      (case hh => walk_at "as")
      (case h3 => walk_at "ar")
      (case h4 => walk_at "ar")
      intro bl o H_bl O hh bl_1 bl_2
      walk_at "au"
      refine lr_range (fun n acc _ C' => ∃ (zs : List Nat) (o : HO), acc = zs.map sgn ∧ zs.length = n ∧ LetL zs ∧ C' = (p, o) :: C ∧ HandO o) c (by walk_at "ix") (by walk_at "dk") rfl (by omega) O ⟨[], o, rfl, rfl, LetL.nil, rfl, hh⟩ ?_ ?_
      · rintro n acc G2 C2 A H2 hn ⟨zs, o, rfl, hl, hz, rfl, hh⟩ O s2 X' c
        walk_at "au"
        refine .mk O.swap hh (by rw [List.length_map]; omega) (by rw [List.length_map]; omega) fun lt o H6 O hh a5 b5 => ?_
        obtain ⟨x, hx, ax⟩ := atI_ls a5 (by rwa [List.length_map] at b5)
        refine x_lst c (by walk_at "sql") ax ?_
        exact ⟨_, _, O.swap, same_rfl, zs ++ [x], o, by simp [sgn], by simp [hl], hz.app (.one (hL x hx)), rfl, hh⟩
      · rintro acc G2 C2 A H2 hl ⟨pc, o, rfl, hl2, hz, rfl, hh⟩ O s2
        obtain ⟨G3, s3, e3, O⟩ := O.frz
        walk_at "au"
        refine lr_range (fun n acc _ C' => ∃ (zs : List Nat), acc = zs.map sgn ∧ zs.length = n ∧ LetL zs ∧ C' = (p, o) :: C) c (by walk_at "ix") (by walk_at "dk") rfl (by omega) O ⟨[], rfl, rfl, LetL.nil, rfl⟩ ?_ ?_
        · rintro n acc G4 C4 A H4 hn ⟨zs, rfl, hl3, hz3, rfl⟩ O s4 X' c
          walk_at "au"
          have lp : 0 < (pc.length : Int) := by omega
          rw [List.length_map]
          obtain ⟨x, hx, ax⟩ := atI_ls (ls := pc) (Int.emod_nonneg _ (by omega)) (Int.emod_lt_of_pos (0 + (n : Int)) lp)
          refine x_lst c (by walk_at "sql") ax ?_
          exact ⟨_, _, O, same_rfl, zs ++ [x], by simp [sgn], by simp [hl3], hz3.app (.one (hz x hx)), rfl⟩
        · rintro acc G4 C4 A H4 hl ⟨zs, rfl, hl3, hz3, rfl⟩ O s4
          obtain ⟨G5, s5, e5, O⟩ := O.frz
          refine m_joinC c (zs := zs) (by walk_at "sql") (by omega) ?_
          refine' q _ _ _ _ ?s_k ?O ?hh ?k_1 ?k_2
          (case O => walk_at "own")
          (case s_k => walk_at "sm")
          (case hh => walk_at "as")
          (case k_1 => walk_at "ar")
          (case k_2 => walk_at "ar")
    · walk_at "au"
      refine i_dec (fun h => ?_) (fun h => ?_)
      · walk_at "au"
        refine x_lst c (by walk_at "sql") (atI_get (i := 0) (by rw [List.getElem?_map, List.getElem?_eq_getElem (show 0 < ls.length by omega)]; rfl)) ?_
        walk_at "au"
        intro pl H_pl n_pl
        obtain ⟨G_pl, s_pl, e_pl, O⟩ := Own.fix (by walk_at "as") n_pl
        walk_at "au"
        refine o_rep (by walk_at "hp") (by omega) (by simp <;> omega) (by omega) fun pf Hf nf => ?_
        rw [List.flatten_replicate_singleton, Int.toNat_natCast, show List.replicate n (V.str (S [ls[0]])) = (List.replicate n ls[0]).map sgn by rw [List.map_replicate]] at nf
        have O := O.more2 nf
        walk_at "au"
        refine s_for c (fun _ => rfl) ?_
        walk_at "au"
        refine on_range (fun _ σ H => ∃ (zs : List Nat) (o : HO) (b_piece b_turn b_k : Option V) (G_A : Hp), σ = [some (.ref p), some (.ref r), some (.int (n : Nat)), some (.int wy), b_piece, some (.ref pf), b_turn, b_k] ∧ Own G_A ((p, o) :: (pf, .lst (zs.map sgn)) :: C) H ∧ Same G_pl G_A ∧ HandO o ∧ zs.length = n ∧ LetL zs) ⟨_, o, _, _, _, _, rfl, (by walk_at "ow"), (by walk_at "sm"), hh, List.length_replicate, LetL.rep (hL _ (List.getElem_mem _))⟩ ?_ ?_
        · rintro i σ H hi ⟨zs, o, b_piece, b_turn, b_k, G_A, rfl, O, s_A, hh, hl, hz⟩
          have hn0 : 0 < n := by
            by_cases e : 0 < n
            · exact e
            · rw [decide_eq_false (by omega)] at hi
              simp at hi
          walk_at "au"
          refine' Sp_law_draw.mk ?O ?hh ?h3 ?h4 ?_
          (case O => walk_at "own")
          (case hh => walk_at "as")
          (case h3 => exact (by rw [List.length_map]; omega))
          (case h4 => exact (by rw [List.length_map]; omega))
          intro x1 o H_x1 O hh x1_1 x1_2
          walk_at "au"
          obtain ⟨x, hx, ax⟩ := atI_ls (ls := ls) x1_1 (by rwa [List.length_map] at x1_2)
          refine x_lst c (by walk_at "sql") ax ?_
          walk_at "au"
          refine' Sp_law_draw.mk ?O ?hh ?h3 ?h4 ?_
          (case O => walk_at "own")
          (case hh => walk_at "as")
          (case h3 => walk_at "ar")
          (case h4 => walk_at "ar")
          intro x2 o H_x2 O hh x2_1 x2_2
          walk_at "au"
          have O := O.swap
          refine p_cellI O x2_1 (by rw [List.length_map]; omega) fun H7 O => ?_
          rw [← List.map_set] at O
          have O := O.swap
          walk_at "au"
          first | exact ⟨_, _, _, _, _, _, rfl, (by walk_at "ow"), (by walk_at "sm"), hh, by rw [List.length_set]; exact hl, hz.set (hL x hx)⟩
        · rintro σ H ⟨zs, o, b_piece, b_turn, b_k, G_A, rfl, O, s_A, hh, hl, hz⟩
          walk_at "au"
          have O := O.swap
          obtain ⟨G5, s5, e5, O⟩ := O.frz
          refine m_joinC c (zs := zs) (by walk_at "sql") (by omega) ?_
          refine' q _ _ _ _ ?s_k ?O ?hh ?k_1 ?k_2
          (case O => walk_at "own")
          (case s_k => walk_at "sm")
          (case hh => walk_at "as")
          (case k_1 => walk_at "ar")
          (case k_2 => walk_at "ar")
      · walk_at "au"
        refine lr_range (fun n acc _ C' => ∃ (zs : List Nat) (o : HO), acc = zs.map sgn ∧ zs.length = n ∧ LetL zs ∧ C' = (p, o) :: C ∧ HandO o) c (by walk_at "ix") (by walk_at "dk") rfl (by omega) O ⟨[], o, rfl, rfl, LetL.nil, rfl, hh⟩ ?_ ?_
        · rintro n acc G2 C2 A H2 hn ⟨zs, o, rfl, hl, hz, rfl, hh⟩ O s2 X' c
          walk_at "au"
          refine .mk O.swap hh (by rw [List.length_map]; omega) (by rw [List.length_map]; omega) fun lt o H6 O hh a5 b5 => ?_
          obtain ⟨x, hx, ax⟩ := atI_ls a5 (by rwa [List.length_map] at b5)
          refine x_lst c (by walk_at "sql") ax ?_
          exact ⟨_, _, O.swap, same_rfl, zs ++ [x], o, by simp [sgn], by simp [hl], hz.app (.one (hL x hx)), rfl, hh⟩
        · rintro acc G2 C2 A H2 hl ⟨zs, o, rfl, hl2, hz, rfl, hh⟩ O s2
          obtain ⟨G3, s3, e3, O⟩ := O.frz
          refine m_joinC c (zs := zs) (by walk_at "sql") (by omega) ?_
          refine' q _ _ _ _ ?s_k ?O ?hh ?k_1 ?k_2
          (case O => walk_at "own")
          (case s_k => walk_at "sm")
          (case hh => walk_at "as")
          (case k_1 => walk_at "ar")
          (case k_2 => walk_at "ar")))) only [↓fn_ok]
theorem cal_law_row (T : Env K mg) : Cal P w K mg base 2 "_law_row" (Sp_law_row K) := cal_of T.d_law_row fun F => ok_law_row T F
end

end Law

namespace Law
open PySem PySem.Spec PyProof.Rows L2 Go
/-- one to five rows of none to eight letters -/
inductive Sp_law_rows (K : PySem.W.Frag) : Sp
  | mk {G H : Hp} {C : List (Addr × HO)} {Q : VK} {E : XK} {p : Addr} {o : HO} {k : Int} (O : Own G ((p, o) :: C) H) (hh : HandO o)
      (q : ∀ (r : Addr) (rows : List (List Nat)) (o : HO) (G' H' : Hp), Same G G' → Own G' ((p, o) :: C) H' → HandO o → G' r = some (.lst (rows.map fun z => V.str (S z))) → 1 ≤ rows.length → rows.length ≤ 5 → (∀ z ∈ rows, z.length ≤ 8 ∧ LetL z) → Q (.ref r) H') : Sp_law_rows K [.ref p, .int k] H Q E
section
variable {P : Program} {w : World} {K : PySem.W.Frag} {mg : Str → Option Value} {base : Heap}
theorem ok_law_rows (T : Env K mg) {f : Addr} {fd : FuncData} (F : Fun K "_law_rows" "_law_rows" st_law_rows f fd) : FnOk P w K mg base CX0 3 f fd ["hand", "k"] (Sp_law_rows K) := by
  simp (disch := (with_unfolding_all (
    refine into (N := ["hand", "k", "pool", "great", "found", "at", "row"]) (nm := nm_law_rows) F sc_law_rows ne_law_rows (fun vs H Q E h => by cases h <;> rfl) (by decide) (fun X H vs Q E c h => ?_)
    have C_law_pool := cal_law_pool (P := P) (w := w) (base := base) T
    have C_law_row := cal_law_row (P := P) (w := w) (base := base) T
    have C_law_draw := cal_law_draw (P := P) (w := w) (base := base) T
    have B_int := T.b_int
    have B_range := T.b_range
    have B_len := T.b_len
    cases h with
    | @mk G H C Q E p o k O hh q =>
    walk_at "in"
    refine' Sp_law_pool.mk ?O ?hh ?_
    (case O => walk_at "own")
    (case hh => walk_at "as")
    intro r ls o G_r H_r s_r O hh er l1 l2 hL
    walk_at "ay"
    refine ea_join (fun v H' => ∃ (b : Bool) (o : HO), v = .bl b ∧ Own G_r ((p, o) :: C) H' ∧ HandO o) (fun _ => ?_) (fun _ => ⟨_, _, rfl, O, hh⟩) ?_
    · walk_at "ay"
      refine' Sp_law_draw.mk ?O ?hh ?h3 ?h4 ?_
      (case O => walk_at "own")
      (case hh => walk_at "as")
      (case h3 => walk_at "ar")
      (case h4 => walk_at "ar")
      intro g1 o H_g1 O hh g1_1 g1_2
      walk_at "ay"
      exact ⟨_, _, rfl, O, hh⟩
    rintro v H5 ⟨b, o5, rfl, O, hh⟩
    walk_at "ay"
    obtain ⟨gr, hgr, hg01⟩ : ∃ gr : Int, (if b = true then (1 : Int) else 0) = gr ∧ (gr = 0 ∨ gr = 1) := ⟨_, rfl, by cases b <;> simp⟩
    rw [hgr]
    intro fo H_fo n_fo
    have O := Own.more (by walk_at "as") n_fo
    walk_at "ay"
    refine s_for c (fun _ => rfl) ?_
    walk_at "ay"
    refine' Sp_law_draw.mk ?O ?hh ?h3 ?h4 ?_
    (case O => walk_at "own")
    (case hh => walk_at "as")
    (case h3 => walk_at "ar")
    (case h4 => walk_at "ar")
    intro many o H_many O hh many_1 many_2
    walk_at "ay"
    refine on_range (fun i σ H => ∃ (rows : List (List Nat)) (o : HO) (b_at b_row : Option V) (G_A : Hp), σ = [some (.ref p), some (.int k), some (.ref r), some (.int gr), some (.ref fo), b_at, b_row] ∧ Own G_A ((p, o) :: (fo, .lst (rows.map fun z => V.str (S z))) :: C) H ∧ Same G_r G_A ∧ HandO o ∧ rows.length = i ∧ (∀ z ∈ rows, z.length ≤ 8 ∧ LetL z)) ⟨[], _, _, _, _, rfl, (by walk_at "ow"), (by walk_at "sm"), hh, rfl, fun z h => nomatch h⟩ ?_ ?_
    · rintro i σ H hi ⟨rows, o, b_at, b_row, G_A, rfl, O, s_A, hh, hl, hz⟩
      have hi5 : i < 5 := by omega
      walk_at "ay"
      refine' Sp_law_draw.mk ?O ?hh ?h3 ?h4 ?_
      (case O => walk_at "own")
      (case hh => walk_at "as")
      (case h3 => walk_at "ar")
      (case h4 => walk_at "ar")
      intro sz o H_sz O hh sz_1 sz_2
      walk_at "ay"
      rename_i l9 Hl nl G_l9 sl el O
      refine ea_join (fun v H' => ∃ (b : Bool) (o : HO), v = .bl b ∧ Own G_l9 ((p, o) :: (fo, .lst (rows.map fun z => V.str (S z))) :: C) H' ∧ HandO o) (fun _ => ?_) (fun _ => ⟨_, _, rfl, O, hh⟩) ?_
      · walk_at "ay"
        refine' Sp_law_draw.mk ?O ?hh ?h3 ?h4 ?_
        (case O => walk_at "own")
        (case hh => walk_at "as")
        (case h3 => walk_at "ar")
        (case h4 => walk_at "ar")
        intro g3 o H_g3 O hh g3_1 g3_2
        walk_at "ay"
        exact ⟨_, _, rfl, O, hh⟩
      rintro v H7 ⟨b7, o7, rfl, O, hh⟩
      walk_at "ay"
      obtain ⟨mo, hmo, hm8⟩ : ∃ mo : Nat, atI [V.int sz, V.int 8] (if b7 = true then (1 : Int) else 0) = some (.int (mo : Nat)) ∧ mo ≤ 8 := by
        cases b7
        · exact ⟨sz.toNat, by show some (V.int sz) = _; rw [show ((sz.toNat : Nat) : Int) = sz by omega], by omega⟩
        · exact ⟨8, rfl, Nat.le_refl _⟩
      refine x_lst c (by walk_at "sql") hmo ?_
      walk_at "ay"
      refine' Sp_law_row.mk ?O ?hh ?er ?l1 ?l2 ?hL ?hn ?_
      (case O => walk_at "own")
      (case hh => walk_at "as")
      (case er => walk_at "ar")
      (case l1 => walk_at "ar")
      (case l2 => walk_at "ar")
      (case hL => walk_at "ar")
      (case hn => walk_at "ar")
      intro ro o G_ro H_ro s_ro O hh hro hLr
      walk_at "ay"
      intro nl2 H_nl2 n_nl2
      obtain ⟨G_nl2, s_nl2, e_nl2, O⟩ := Own.fix (by walk_at "as") n_nl2
      walk_at "ay"
      refine o_neSL c (xs := rows) (ys := []) (.of O.at2) (.of ((hp_up O e_nl2).trans rfl)) ?_
      walk_at "ay"
      refine i_dec (fun e => ?_) (fun e => ?_)
      · walk_at "ay"
        rename_i Hz O
        have O := O.swap
        rw [show (rows.map fun z => V.str (S z)) ++ [V.str (S ro)] = (rows ++ [ro]).map fun z => V.str (S z) by simp] at O
        have hzz : ∀ z ∈ rows ++ [ro], z.length ≤ 8 ∧ LetL z := fun z hm => by
          rcases List.mem_append.mp hm with hm | hm
          · exact hz z hm
          · rw [List.mem_singleton.mp hm]; exact ⟨by omega, hLr⟩
        first | exact ⟨rows ++ [ro], _, _, _, _, rfl, (by walk_at "ow"), (by walk_at "sm"), hh, by simp [hl], hzz⟩
      · have hpos : 0 < rows.length := List.length_pos_iff.mpr e
        have hlm : (rows.map fun z => V.str (S z)).length = rows.length := List.length_map _
        walk_at "ay"
        refine' Sp_law_draw.mk ?O ?hh ?h3 ?h4 ?_
        (case O => walk_at "own")
        (case hh => walk_at "as")
        (case h3 => walk_at "ar")
        (case h4 => walk_at "ar")
        intro g4 o H_g4 O hh g4_1 g4_2
        walk_at "ay"
        refine i_dec (fun e4 => ?_) (fun e4 => ?_)
        · walk_at "ay"
          refine' Sp_law_draw.mk ?O ?hh ?h3 ?h4 ?_
          (case O => walk_at "own")
          (case hh => walk_at "as")
          (case h3 => walk_at "ar")
          (case h4 => walk_at "ar")
          intro ix o H_ix O hh ix_1 ix_2
          walk_at "ay"
          obtain ⟨iz, rfl⟩ : ∃ n : Nat, ix = (n : Int) := ⟨ix.toNat, by omega⟩
          obtain ⟨rz, hrz⟩ : ∃ rz, rows[iz]? = some rz := ⟨_, List.getElem?_eq_getElem (by omega)⟩
          refine x_lst c (.of O.at2) (atI_nat' rfl (show (rows.map fun z => V.str (S z))[iz]? = some (V.str (S rz)) by rw [List.getElem?_map, hrz]; rfl)) ?_
          walk_at "ay"
          rename_i Hz O
          have O := O.swap
          rw [show (rows.map fun z => V.str (S z)) ++ [V.str (S rz)] = (rows ++ [rz]).map fun z => V.str (S z) by simp] at O
          have hzz : ∀ z ∈ rows ++ [rz], z.length ≤ 8 ∧ LetL z := fun z hm => by
            rcases List.mem_append.mp hm with hm | hm
            · exact hz z hm
            · rw [List.mem_singleton.mp hm]; exact hz rz (List.mem_of_getElem? hrz)
          first | exact ⟨rows ++ [rz], _, _, _, _, rfl, (by walk_at "ow"), (by walk_at "sm"), hh, by simp [hl], hzz⟩
        · walk_at "ay"
          rename_i Hz O
          have O := O.swap
          rw [show (rows.map fun z => V.str (S z)) ++ [V.str (S ro)] = (rows ++ [ro]).map fun z => V.str (S z) by simp] at O
          have hzz : ∀ z ∈ rows ++ [ro], z.length ≤ 8 ∧ LetL z := fun z hm => by
            rcases List.mem_append.mp hm with hm | hm
            · exact hz z hm
            · rw [List.mem_singleton.mp hm]; exact ⟨by omega, hLr⟩
          first | exact ⟨rows ++ [ro], _, _, _, _, rfl, (by walk_at "ow"), (by walk_at "sm"), hh, by simp [hl], hzz⟩
    · rintro σ H ⟨rows, o, b_at, b_row, G_A, rfl, O, s_A, hh, hl, hz⟩
      have O := O.swap
      obtain ⟨G9, s9, e9, O⟩ := O.frz
      walk_at "ay"
      exact q fo rows _ _ _ (by walk_at "sm") O hh e9 (by omega) (by omega) hz))) only [↓fn_ok]
theorem cal_law_rows (T : Env K mg) : Cal P w K mg base 3 "_law_rows" (Sp_law_rows K) := cal_of T.d_law_rows fun F => ok_law_rows T F
end

end Law

namespace Law
open PySem PySem.Spec PyProof.Rows L2 Go
/-- a text woven of the rows, or nearly -/
inductive Sp_law_text (K : PySem.W.Frag) : Sp
  | mk {G H : Hp} {C : List (Addr × HO)} {Q : VK} {E : XK} {p r : Addr} {o : HO} {rows : List (List Nat)} (O : Own G ((p, o) :: C) H) (hh : HandO o) (er : G r = some (.lst (txR rows))) (l2 : rows.length ≤ 5) (hz : ∀ z ∈ rows, z.length ≤ 8 ∧ LetL z)
      (q : ∀ (t : List Nat) (o : HO) (G' H' : Hp), Same G G' → Own G' ((p, o) :: C) H' → HandO o → t.length ≤ 40 → LetL t → Q (.str (S t)) H') : Sp_law_text K [.ref p, .ref r] H Q E
theorem flat_le8 : ∀ (rows : List (List Nat)), (∀ z ∈ rows, z.length ≤ 8 ∧ LetL z) → (rows.map List.length).sum ≤ 8 * rows.length
  | [], _ => Nat.zero_le _
  | r :: rows, h => by
    have h1 := (h r List.mem_cons_self).1
    have h2 := flat_le8 rows fun z hz => h z (List.mem_cons_of_mem _ hz)
    rw [List.map_cons, List.sum_cons, List.length_cons]
    omega
theorem sum_set : ∀ (ls : List (List Nat)) (i : Nat) (a : Nat) (u : List Nat), ls[i]? = some (a :: u) → ((ls.set i u).map List.length).sum + 1 = (ls.map List.length).sum
  | [], i, a, u, h => by simp at h
  | r :: ls, 0, a, u, h => by
    have h : r = a :: u := by simpa using h
    subst h
    simp only [List.set_cons_zero, List.map_cons, List.sum_cons, List.length_cons]
    omega
  | r :: ls, i + 1, a, u, h => by
    have h : ls[i]? = some (a :: u) := by simpa using h
    have := sum_set ls i a u h
    simp only [List.set_cons_succ, List.map_cons, List.sum_cons]
    omega
section
variable {P : Program} {w : World} {K : PySem.W.Frag} {mg : Str → Option Value} {base : Heap}
theorem ok_law_text (T : Env K mg) {f : Addr} {fd : FuncData} (F : Fun K "_law_text" "_law_text" st_law_text f fd) : FnOk P w K mg base CX0 2 f fd ["hand", "rows"] (Sp_law_text K) := by
  simp (disch := (with_unfolding_all (
    refine into (N := ["hand", "rows", "left", "text", "some", "at", "way", "letter", "spoilt"]) (nm := nm_law_text) F sc_law_text ne_law_text (fun vs H Q E h => by cases h <;> rfl) (by decide) (fun X H vs Q E c h => ?_)
    have C_law_draw := cal_law_draw (P := P) (w := w) (base := base) T
    have B_list := T.b_list
    have B_len := T.b_len
    have B_range := T.b_range
    cases h with
    | @mk G H C Q E p r o rows O hh er l2 hz q =>
    have hpl : (txR rows).length = rows.length := by unfold txR; rw [List.length_map]
    walk_at "in"
    refine c_listL c (by walk_at "sql") ?_
    intro lf H_lf n_lf
    have O := Own.more (by walk_at "as") n_lf
    walk_at "ax"
    walk_at "ax"
    have O := O.swap
    have hS := flat_le8 rows hz
    refine s_while c (fun m σ H => ∃ (ls : List (List Nat)) (t : List Nat) (o : HO) (b_some b_at b_way b_letter b_spoilt : Option V) (G_W : Hp), σ = [some (.ref p), some (.ref r), some (.ref lf), some (.str (S t)), b_some, b_at, b_way, b_letter, b_spoilt] ∧ Own G_W ((p, o) :: (lf, .lst (txR ls)) :: C) H ∧ Same G G_W ∧ HandO o ∧ ls.length = rows.length ∧ (∀ z ∈ ls, z.length ≤ 8 ∧ LetL z) ∧ LetL t ∧ t.length + (ls.map List.length).sum ≤ 40 ∧ m = (ls.map List.length).sum) ((rows.map List.length).sum) ⟨rows, (cs ""), o, _, _, _, _, _, _, rfl, (by walk_at "ow"), (by walk_at "sm"), hh, rfl, hz, LetL.nil, (by show ([] : List Nat).length + _ ≤ _; rw [List.length_nil]; omega), rfl⟩ ?_
    rintro m σ H ⟨ls, t, o, b_some, b_at, b_way, b_letter, b_spoilt, G_W, rfl, O, s_W, hh, hll, hzl, hLt, hlen, rfl⟩
    have e0 : cs "" = [] := by decide +kernel
    walk_at "ax"
    refine m_join c (ls := ls) (.of O.at2) (by rw [e0]; show (ls.map List.length).sum + _ * 0 ≤ _; omega) ?_
    rw [e0, joinL_nil]
    walk_at "ax"
    refine i_dec (fun e => ?_) (fun e => ?_)
    · walk_at "ax"
      refine' Sp_law_draw.mk ?O ?hh ?h3 ?h4 ?_
      (case O => walk_at "own")
      (case hh => walk_at "as")
      (case h3 => walk_at "ar")
      (case h4 => walk_at "ar")
      intro wy o H_wy O hh wy_1 wy_2
      walk_at "ax"
      refine' Sp_law_draw.mk ?O ?hh ?h3 ?h4 ?_
      (case O => walk_at "own")
      (case hh => walk_at "as")
      (case h3 => walk_at "ar")
      (case h4 => walk_at "ar")
      intro ap o H_ap O hh ap_1 ap_2
      walk_at "ax"
      refine' Sp_law_draw.mk ?O ?hh ?h3 ?h4 ?_
      (case O => walk_at "own")
      (case hh => walk_at "as")
      (case h3 => walk_at "ar")
      (case h4 => walk_at "ar")
      intro lp o H_lp O hh lp_1 lp_2
      walk_at "ax"
      refine x_str (by decide) (abc_at _ (by omega) (by omega)) ?_
      walk_at "ax"
      have hab : LetL [97 + lp.toNat] := .one (by omega)
      have ha : LetL (t.take ap.toNat) := fun x hx => hLt x (List.mem_of_mem_take hx)
      have hb : ∀ n, LetL (t.drop n) := fun n x hx => hLt x (List.mem_of_mem_drop hx)
      have hrv : LetL (t.take ap.toNat).reverse := fun x hx => ha x (List.mem_reverse.mp hx)
      intro so H_so n_so
      have O := Own.more (by walk_at "as") n_so
      walk_at "ax"
      walk_at "ax"
      refine e_revS ?_
      walk_at "ax"
      refine ⟨_, rfl, (by rw [List.length_take]; omega), ?_⟩
      walk_at "ax"
      intro tl H_tl n_tl
      obtain ⟨G_tl, s_tl, e_tl, O⟩ := Own.fix (by walk_at "as") n_tl
      walk_at "ax"
      refine o_rep (hp_up O e_tl) (by decide) (by simp) (by decide) ?_
      intro tr H_tr n_tr
      obtain ⟨G_tr, s_tr, e_tr, O⟩ := Own.fix (by walk_at "as") n_tr
      walk_at "ax"
      refine o_cat (hp_up O e_tr) O.at (by simp) ?_
      intro tb H_tb n_tb
      obtain ⟨G_tb, s_tb, e_tb, O⟩ := Own.fix (by walk_at "as") n_tb
      walk_at "ax"
      have hln : ∀ n, (t.take n).length ≤ t.length := fun n => by rw [List.length_take]; omega
      have hld : ∀ n, (t.drop n).length ≤ t.length := fun n => by rw [List.length_drop]; omega
      obtain ⟨u, hu, hLu, hul⟩ : ∃ u : List Nat, atI ((List.replicate (Int.toNat 4) [V.str (S t)]).flatten ++ ([V.str (S (t.take ap.toNat ++ [97 + lp.toNat] ++ t.drop (ap + 1).toNat)), V.str (S (t.take ap.toNat ++ t.drop (ap + 1).toNat)), V.str (S (t.take ap.toNat ++ [97 + lp.toNat] ++ t.drop ap.toNat))] ++ [V.str (S ((t.take ap.toNat).reverse ++ t.drop ap.toNat))])) wy = some (.str (S u)) ∧ LetL u ∧ u.length ≤ 100 := by
        have : wy = 0 ∨ wy = 1 ∨ wy = 2 ∨ wy = 3 ∨ wy = 4 ∨ wy = 5 ∨ wy = 6 ∨ wy = 7 := by omega
        rcases this with rfl | rfl | rfl | rfl | rfl | rfl | rfl | rfl
        · exact ⟨_, rfl, hLt, by omega⟩
        · exact ⟨_, rfl, hLt, by omega⟩
        · exact ⟨_, rfl, hLt, by omega⟩
        · exact ⟨_, rfl, hLt, by omega⟩
        · exact ⟨_, rfl, (ha.app hab).app (hb _), by simp only [List.length_append, List.length_reverse, List.length_singleton]; have := hln ap.toNat; have := hld ap.toNat; have := hld (ap + 1).toNat; omega⟩
        · exact ⟨_, rfl, ha.app (hb _), by simp only [List.length_append, List.length_reverse, List.length_singleton]; have := hln ap.toNat; have := hld ap.toNat; have := hld (ap + 1).toNat; omega⟩
        · exact ⟨_, rfl, (ha.app hab).app (hb _), by simp only [List.length_append, List.length_reverse, List.length_singleton]; have := hln ap.toNat; have := hld ap.toNat; have := hld (ap + 1).toNat; omega⟩
        · exact ⟨_, rfl, hrv.app (hb _), by simp only [List.length_append, List.length_reverse, List.length_singleton]; have := hln ap.toNat; have := hld ap.toNat; have := hld (ap + 1).toNat; omega⟩
      refine x_lst c (.of (hp_up O e_tb)) hu ?_
      walk_at "ax"
      refine q _ _ G_tb _ (by walk_at "sm") (Own.drop (a := (lf, .lst (txR ls))) (Own.swap (Own.drop O))) hh ?_ ?_
      · rw [List.length_take]; exact Nat.min_le_left _ _
      · exact fun x hx => hLu x (List.mem_of_mem_take hx)
    · walk_at "ax"
      have hpl2 : (txR ls).length = ls.length := by unfold txR; rw [List.length_map]
      refine ⟨by omega, by omega, ?_⟩
      refine lc_cell (G := G_W) (C := (p, o) :: (lf, .lst (txR ls)) :: C) (fun n acc G' C' => ∃ is : List Nat, acc = is.map (fun (k : Nat) => V.int (k : Nat)) ∧ (∀ k, k ∈ is → k < n ∧ rw' ls k ≠ []) ∧ (∀ k, k < n → rw' ls k ≠ [] → k ∈ is) ∧ C' = (p, o) :: (lf, .lst (txR ls)) :: C) c rfl walk_range (by omega) O ⟨[], rfl, (fun _ h => nomatch h), (fun k h => by omega), rfl⟩ (fun _ _ _ _ _ _ _ _ _ => trivial) ?_ ?_
      · rintro m x acc G2 C2 A H2 H3 hm ⟨is, rfl, hi1, hi2, rfl⟩ ⟨rfl, hv⟩ O s2 X' c
        have hv : x = V.int (0 + (m : Int)) := hv
        subst hv
        rw [Int.zero_add]
        simp only [wipe, List.set]
        walk_at "ax"
        refine ⟨rfl, fun X' c => ?_⟩
        refine ts_one ?_
        obtain ⟨rm, hrm⟩ : ∃ rm, ls[m]? = some rm := ⟨_, List.getElem?_eq_getElem (by omega)⟩
        have hri : rw' ls m = rm := by unfold rw'; rw [List.getD_eq_getElem?_getD, hrm]; rfl
        walk_at "ax"
        refine x_lst c (.of O.at3) (atI_nat' rfl (show (txR ls)[m]? = some (V.str (S rm)) by unfold txR; rw [List.getElem?_map, hrm]; rfl)) ?_
        walk_at "ax"
        rw [show ((cs "") : List Nat) = [] from e0]
        by_cases hq : rm = []
        · rw [decide_eq_true hq]
          exact ⟨_, _, O, by walk_at "sm", is, rfl, (fun k hk => ⟨by have := (hi1 k hk).1; omega, (hi1 k hk).2⟩), (fun k hk hne => by
            by_cases z : k = m
            · subst z; rw [hri] at hne; exact absurd hq hne
            · exact hi2 k (by omega) hne), rfl⟩
        · rw [decide_eq_false hq]
          intro X' c
          walk_at "ax"
          exact ⟨_, _, O, by walk_at "sm", is ++ [m], by simp, (fun k hk => by
            rcases List.mem_append.mp hk with hk | hk
            · exact ⟨by have := (hi1 k hk).1; omega, (hi1 k hk).2⟩
            · rw [List.mem_singleton.mp hk, hri]; exact ⟨by omega, hq⟩), (fun k hk hne => by
            by_cases z : k = m
            · rw [z]; simp
            · exact List.mem_append_left _ (hi2 k (by omega) hne)), rfl⟩
      · rintro acc G2 C2 A H2 hacc ⟨is, rfl, hi1, hi2, rfl⟩ O s2
        obtain ⟨G3, s3, e3, O⟩ := O.frz
        have his : 0 < is.length := by
          cases is with
          | cons a b => simp
          | nil =>
            refine absurd ?_ e
            rw [e0, List.flatten_eq_nil_iff]
            intro l hl
            obtain ⟨k, hk, rfl⟩ := List.mem_iff_getElem.mp hl
            by_cases z : ls[k] = []
            · exact z
            · refine absurd (hi2 k (by omega) ?_) (fun h => nomatch h)
              unfold rw'
              rw [List.getD_eq_getElem?_getD, List.getElem?_eq_getElem hk]; exact z
        have hisl : is.length ≤ 5 := by rw [List.length_map] at hacc; omega
        walk_at "ax"
        rw [List.length_map]
        refine' Sp_law_draw.mk ?O ?hh ?h3 ?h4 ?_
        (case O => walk_at "own")
        (case hh => walk_at "as")
        (case h3 => walk_at "ar")
        (case h4 => walk_at "ar")
        intro pk o H_pk O hh pk_1 pk_2
        walk_at "ax"
        obtain ⟨k, hk⟩ : ∃ k, is[pk.toNat]? = some k := ⟨_, List.getElem?_eq_getElem (by omega)⟩
        obtain ⟨hk1, hk2⟩ := hi1 k (List.mem_of_getElem? hk)
        refine x_lst c (by walk_at "sql") (atI_nat' (n := pk.toNat) (by omega) (show (is.map fun (k : Nat) => V.int (k : Nat))[pk.toNat]? = some (V.int (k : Nat)) by rw [List.getElem?_map, hk]; rfl)) ?_
        walk_at "ax"
        obtain ⟨a, u, hau⟩ : ∃ a u, ls[k]? = some (a :: u) := by
          have hkl : k < ls.length := by omega
          have hkk : rw' ls k = ls[k] := by unfold rw'; rw [List.getD_eq_getElem?_getD, List.getElem?_eq_getElem hkl]; rfl
          rw [List.getElem?_eq_getElem hkl]
          rw [hkk] at hk2
          cases hl : ls[k] with
          | nil => exact absurd hl hk2
          | cons a u => exact ⟨a, u, rfl⟩
        have hz2 := hzl _ (List.mem_of_getElem? hau)
        have hga : (txR ls)[k]? = some (V.str (S (a :: u))) := by unfold txR; rw [List.getElem?_map, hau]; rfl
        have hul := hz2.1
        refine x_lst c (.of O.at2) (atI_nat' rfl hga) ?_
        walk_at "ax"
        refine x_lst c (.of O.at2) (atI_nat' rfl hga) ?_
        walk_at "ax"
        have O := O.swap
        refine p_cellN O rfl (by omega) fun Hy O => ?_
        have O := O.swap
        rw [show (txR ls).set k (V.str (S (List.drop (Int.toNat 1) (a :: u)))) = txR (ls.set k u) by unfold txR; rw [List.map_set]; rfl] at O
        have hs := sum_set ls k a u hau
        have hzs : ∀ z ∈ ls.set k u, z.length ≤ 8 ∧ LetL z := fun z hz => by
          rcases List.mem_or_eq_of_mem_set hz with h1 | rfl
          · exact hzl z h1
          · exact ⟨by rw [List.length_cons] at hul; omega, fun x hx => hz2.2 x (List.mem_cons_of_mem _ hx)⟩
        walk_at "ax"
        first | exact ⟨((ls.set k u).map List.length).sum, by omega, ⟨(ls.set k u), _, o, _, _, _, _, _, _, rfl, (by walk_at "ow"), (by walk_at "sm"), hh, by rw [List.length_set]; exact hll, hzs, hLt.app (.one (hz2.2 a List.mem_cons_self)), by rw [List.length_append]; show _ + 1 + _ ≤ _; omega, rfl⟩⟩))) only [↓fn_ok]
theorem cal_law_text (T : Env K mg) : Cal P w K mg base 2 "_law_text" (Sp_law_text K) := cal_of T.d_law_text fun F => ok_law_text T F
end

end Law

namespace Law
open PySem PySem.Spec PyProof.Rows L2 Go
/-- layer by layer, from behind: from which letters left the rest is woven -/
inductive Sp_law_layers (K : PySem.W.Frag) : Sp
  | mk {G H : Hp} {C : List (Addr × HO)} {Q : VK} {E : XK} {p : Addr} {rows : List (List Nat)} {t : List Nat} (O : Own G C H) (hp : G p = some (.lst (txR rows))) (h1 : rows.length ≤ 10) (h2 : ∀ i, i < rows.length → (rw' rows i).length ≤ 60) (h3 : t.length ≤ 1000) (h4 : boxN rows < 900000)
      (q : ∀ (r : Addr) (ps : List Addr) (G' H' : Hp), Same G G' → Own G' C H' → G' r = some (.lst (ps.map V.ref)) → ps.length = t.length + 1 → (∀ k d, ps[k]? = some d → ∃ kvs, G' d = some (.dT kvs) ∧ TabB (rows.map List.reverse) (fun v => 0 < wavM (rows.map List.reverse) t.reverse (t.length - k) v) kvs) → Q (.ref r) H') : Sp_law_layers K [.ref p, .str (S t)] H Q E
section
variable {P : Program} {w : World} {K : PySem.W.Frag} {mg : Str → Option Value} {base : Heap}
theorem ok_law_layers (T : Env K mg) {f : Addr} {fd : FuncData} (F : Fun K "_law_layers" "_law_layers" st_law_layers f fd) : FnOk P w K mg base CX0 1 f fd ["rows", "text"] (Sp_law_layers K) := by
  simp (disch := (with_unfolding_all (
    refine into (N := ["rows", "text", "found", "place", "here", "left", "at", "row", "more"]) (nm := nm_law_layers) F sc_law_layers ne_law_layers (fun vs H Q E h => by cases h <;> rfl) (by decide) (fun X H vs Q E c h => ?_)
    have B_range := T.b_range
    have B_tuple := T.b_tuple
    have B_len := T.b_len
    have B_enumerate := T.b_enumerate
    have B_list := T.b_list
    cases h with
    | @mk G H C Q E p rows t O hp h1 h2 h3 h4 q =>
    have hpl : (txR rows).length = rows.length := by unfold txR; rw [List.length_map]
    obtain ⟨rR, hR⟩ : ∃ rR, rR = rows.map List.reverse := ⟨_, rfl⟩
    obtain ⟨tR, htR⟩ : ∃ tR, tR = t.reverse := ⟨_, rfl⟩
    have hRl : rR.length = rows.length := by rw [hR, List.length_map]
    have htl : tR.length = t.length := by rw [htR, List.length_reverse]
    have hrw : ∀ i, rw' rR i = (rw' rows i).reverse := fun i => by rw [hR, revR_rw]
    have hR4 : boxN rR < 900000 := by rw [hR, boxN_rev]; exact h4
    rw [← hR, ← htR] at q
    walk_at "in"
    refine e_disp1T c fun d0 H1 n1 => ?_
    have O := O.more n1
    walk_at "au"
    intro z0 H_z0 n_z0
    obtain ⟨G_z0, s_z0, e_z0, O⟩ := Own.fix (by walk_at "as") n_z0
    walk_at "au"
    refine o_rep (hp_up O e_z0) (by omega) (by simp; omega) (by omega) ?_
    intro z1 H_z1 n_z1
    obtain ⟨G_z1, s_z1, e_z1, O⟩ := Own.fix (by walk_at "as") n_z1
    walk_at "au"
    rw [hpl, Int.toNat_natCast] at e_z1
    refine c_tupleL c (.of (hp_up O e_z1)) ?_
    intro kt H_kt n_kt
    obtain ⟨G_kt, s_kt, e_kt, O⟩ := Own.fix (by walk_at "as") n_kt
    walk_at "au"
    rw [rep_keyV, ← hRl] at e_kt
    refine ⟨kt, keyV (List.replicate rR.length 0), rfl, hp_up O e_kt, O.at, ?_⟩
    have O : Own G_kt ((d0, .dT [(keyV (List.replicate rR.length 0), .bl true)]) :: _) _ := O.write
    obtain ⟨G4, s4, e4, O⟩ := O.frz
    have hT := TabB.first rR tR
    walk_at "au"
    intro fo H_fo n_fo
    have O := Own.more (by walk_at "as") n_fo
    walk_at "au"
    have hps0 : ∀ k d, [d0][k]? = some d → ∃ kvs, G4 d = some (.dT kvs) ∧ TabB rR (fun v => 0 < wavM rR tR k v) kvs := fun k d hd => by
      have : k = 0 := by have := (List.getElem?_eq_some_iff.mp hd).1; simpa using this
      subst this
      cases hd
      exact ⟨_, e4, hT⟩
    refine s_for c (fun _ => rfl) ?_
    walk_at "au"
    refine on_down (fun m σ H => ∃ (ps : List Addr) (b_place b_here b_left b_at b_row b_more : Option V) (G_L : Hp), σ = [some (.ref p), some (.str (S t)), some (.ref fo), b_place, b_here, b_left, b_at, b_row, b_more] ∧ Own G_L ((fo, .lst (ps.map V.ref)) :: C) H ∧ Same G4 G_L ∧ ps.length = m + 1 ∧ ∀ k d, ps[k]? = some d → ∃ kvs, G_L d = some (.dT kvs) ∧ TabB rR (fun v => 0 < wavM rR tR k v) kvs) ⟨[d0], _, _, _, _, _, _, _, rfl, (by walk_at "ow"), (by walk_at "sm"), rfl, hps0⟩ ?_ ?_
    · rintro m σ H hm ⟨ps, b_place, b_here, b_left, b_at, b_row, b_more, G_L, rfl, O, s_L, hpl2, hps⟩
      have hmt : m < t.length := by omega
      have hgt : tR.getD m 0 = t.getD (t.length - 1 - m) 0 := by
        rw [htR, List.getD_eq_getElem?_getD, List.getElem?_reverse hmt, List.getD_eq_getElem?_getD]
      obtain ⟨dm, hdm⟩ : ∃ d, ps[m]? = some d := ⟨_, List.getElem?_eq_getElem (by omega)⟩
      obtain ⟨kvs, ed, hTm⟩ := hps m dm hdm
      walk_at "au"
      refine e_dictT fun fu H6 n6 => ?_
      have O := O.more n6
      walk_at "st"
      walk_at "au"
      refine s_lockG O ed trivial fun od G1 H1 eG O eH eG1 same1 same2 => ?_
      have hp1 : G1 p = some (.lst (txR rows)) := same2 _ _ (fun _ _ z => nomatch z) (fun z => nomatch z) (by walk_at "gp")
      refine s_for c (fun _ => rfl) ?_
      refine i_keysT ?_
      walk_at "au"
      refine x_lst c (by walk_at "sql") (atI_last (v := V.ref dm) (by rw [List.getLast?_map, List.getLast?_eq_getElem?, hpl2, Nat.add_sub_cancel, hdm]; rfl)) ?_
      refine ⟨dm, od, kvs, rfl, eH, ?_⟩
      refine on_keysT (fun n σ H => ∃ (fk : List (List Key × V)) (b_left b_at b_row b_more : Option V) (G_R : Hp), σ = [some (.ref p), some (.str (S t)), some (.ref fo), some (.int ((t.length : Int) - 1 - (m : Nat))), some (.ref fu), b_left, b_at, b_row, b_more] ∧ Own G_R ((fu, .dT fk) :: (fo, .lst (ps.map V.ref)) :: C) H ∧ Same G1 G_R ∧ TabB rR (fun v => 0 < giveL rR (tR.getD m 0) (wavM rR tR m) (kvs.take n) v) fk) ⟨[], _, _, _, _, _, rfl, (by walk_at "ow"), (by walk_at "sm"), (TabB.nil rR).congr fun v _ => by rw [List.take_zero, giveL_nil]; exact ⟨fun h => absurd h (by decide), False.elim⟩⟩ ?_ ?_ ?_
      · rintro n σ H hn ⟨fk, b_left, b_at, b_row, b_more, G_R, rfl, O, s_R, hF⟩
        exact O.same _ _ (s_R _ _ eG1)
      · rintro n k v kq σ H hn ⟨fk, b_left, b_at, b_row, b_more, G_R, rfl, O, s_R, hF⟩ hq
        obtain ⟨u, ek, hu, hup⟩ := hTm.key _ (List.mem_of_getElem? hn)
        obtain ⟨rfl, rfl⟩ := Prod.mk.inj ek
        obtain ⟨Ga, sa, O, kn⟩ := Own.learn O hq
        repeat ((fail_if_success (with_reducible show Go.sS _ _ _ _ _)); walk_at "st")
        refine s_for c (fun _ => rfl) (i_enumL c (by walk_at "dk") (by walk_at "as") rfl ?_)
        walk_at "au"
        have hpb : Ga p = some (.lst (txR rows)) := by walk_at "gp"
        refine ⟨p, txR rows, rfl, .of (hp_up O hpb), ?_⟩
        refine on_enumL c (xs := txR rows) (fun i σ H => ∃ (fk : List (List Key × V)) (b_at b_row b_more : Option V) (G_I : Hp), σ = [some (.ref p), some (.str (S t)), some (.ref fo), some (.int ((t.length : Int) - 1 - (m : Nat))), some (.ref fu), some (.ref kq), b_at, b_row, b_more] ∧ Own G_I ((fu, .dT fk) :: (fo, .lst (ps.map V.ref)) :: C) H ∧ Same Ga G_I ∧ TabB rR (fun v => 0 < giveL rR (tR.getD m 0) (wavM rR tR m) (kvs.take n) v + giveR rR (tR.getD m 0) u (wavM rR tR m u) i v) fk ∧ Kn G_I ((fu, .dT fk) :: (fo, .lst (ps.map V.ref)) :: C) kq (.tup ((keyV u).map kV))) ⟨fk, _, _, _, _, rfl, (by walk_at "ow"), (by walk_at "sm"), hF.congr fun v _ => by show 0 < _ + giveR _ _ _ _ 0 v ↔ _; exact Iff.rfl, kn⟩ ?_ ?_ ?_
        · rintro i σ H hi ⟨fk, b_at, b_row, b_more, G_I, rfl, O, s_I, hF, kn⟩
          exact .of (hp_up O (s_I _ _ hpb))
        · rintro i x σ H T3 H3 hx ⟨fk, b_at, b_row, b_more, G_I, rfl, O, s_I, hF, kn⟩ nT3
          have hx : (rows.map fun z => V.str (S z))[i]? = some x := hx
          rw [List.getElem?_map] at hx
          obtain ⟨row, hrow, rfl⟩ := Option.map_eq_some_iff.mp hx
          obtain ⟨Gc, sc, ec, O⟩ := Own.fix O nT3
          have kn := kn.up sc
          have hi : i < rows.length := (List.getElem?_eq_some_iff.mp hrow).1
          have hri : rw' rows i = row := by unfold rw'; rw [List.getD_eq_getElem?_getD, hrow]; rfl
          have hrr : rw' rR i = row.reverse := by rw [hrw, hri]
          have hui : ((keyV u).map kV)[i]? = some (V.int (u.getD i 0 : Nat)) := by rw [keyV_map, List.getElem?_map, gd_get (by rw [hu.1]; omega)]; rfl
          have hrl : row.length ≤ 60 := by rw [← hri]; exact h2 i hi
          have hno : ¬ (u.getD i 0 < row.length ∧ row.getD (row.length - 1 - u.getD i 0) 0 = t.getD (t.length - 1 - m) 0) → TabB rR (fun v => 0 < giveL rR (tR.getD m 0) (wavM rR tR m) (kvs.take n) v + giveR rR (tR.getD m 0) u (wavM rR tR m u) (i + 1) v) fk := fun hn => hF.congr fun v _ => by
            rw [giveR_succ, if_neg, Nat.add_zero]
            rintro ⟨z1, z2, _⟩
            rw [hrr, List.length_reverse] at z1
            refine hn ⟨z1, ?_⟩
            rw [hrr, List.getD_eq_getElem?_getD, List.getElem?_reverse z1, ← List.getD_eq_getElem?_getD] at z2
            rw [z2, hgt]
          walk_at "au"
          refine x_tup c (.of (kn.at O)) (atI_nat' rfl hui) ?_
          walk_at "au"
          refine i_dec (fun e => ?_) (fun e => ?_)
          · have e : u.getD i 0 < row.length := by omega
            walk_at "au"
            refine x_tup c (.of (kn.at O)) (atI_nat' rfl hui) ?_
            walk_at "au"
            refine i_decD (fun e2 => ?_) (fun e2 => ?_)
            · have hkl : ((keyV u).map kV).length ≤ 10 := by rw [keyV_map, List.length_map, hu.1]; omega
              walk_at "au"
              refine c_listT c (.of (kn.at O)) ?_
              intro mo H_mo n_mo
              have O := Own.more (by walk_at "as") n_mo
              walk_at "au"
              refine x_lst c (.of O.at) (atI_nat' rfl hui) ?_
              walk_at "au"
              refine p_cellN (n := i) O rfl (by rw [keyV_map, List.length_map, hu.1]; omega) fun Hm O => ?_
              rw [show ((keyV u).map kV).set i (V.int ((u.getD i 0 : Nat) + 1)) = (keyV (u.set i (u.getD i 0 + 1))).map kV by rw [keyV_map, keyV_map, List.map_set]; rfl] at O
              have hw : OkV rR (u.set i (u.getD i 0 + 1)) := hu.set (by omega) (by rw [hrr, List.length_reverse]; omega)
              have hput := hF.put hw
              have hfl := hF.box hR4
              walk_at "au"
              refine c_tupleL c (.of O.at) ?_
              intro k2 H_k2 n_k2
              obtain ⟨G_k2, s_k2, e_k2, O⟩ := Own.fix (by walk_at "as") n_k2
              walk_at "au"
              have O := O.swap
              refine p_dTL c O (hp_up O e_k2) hfl fun Hz O => ?_
              have O := O.swap.drop
              walk_at "au"
              have hput2 : TabB rR (fun v => 0 < giveL rR (tR.getD m 0) (wavM rR tR m) (kvs.take n) v + giveR rR (tR.getD m 0) u (wavM rR tR m u) (i + 1) v) (putK fk (keyV (u.set i (u.getD i 0 + 1))) (.bl true)) := hput.congr fun v _ => by
                rw [giveR_succ]
                by_cases z : v = u.set i (u.getD i 0 + 1)
                · rw [if_pos ⟨by rw [hrr, List.length_reverse]; exact e, by rw [hrr, List.getD_eq_getElem?_getD, List.getElem?_reverse e, ← List.getD_eq_getElem?_getD, e2, hgt], z⟩]
                  exact ⟨fun _ => .inr z, fun _ => by omega⟩
                · rw [if_neg fun y => z y.2.2, Nat.add_zero]
                  exact ⟨.inl, fun h => h.elim id fun y => absurd y z⟩
              first | exact ⟨_, _, _, _, _, rfl, (by walk_at "ow"), (by walk_at "sm"), hput2, (kn.up s_k2).head (fun ys z => nomatch z)⟩
            · walk_at "au"
              first | exact ⟨fk, _, _, _, _, rfl, (by walk_at "ow"), (by walk_at "sm"), hno (fun z => e2 z.2), kn⟩
          · walk_at "au"
            first | exact ⟨fk, _, _, _, _, rfl, (by walk_at "ow"), (by walk_at "sm"), hno (fun z => e (by omega)), kn⟩
        · rintro σ H ⟨fk, b_at, b_row, b_more, G_I, rfl, O, s_I, hF, kn⟩
          rw [hpl, ← hRl] at hF
          walk_at "au"
          first | exact ⟨fk, _, _, _, _, _, rfl, (by walk_at "ow"), (by walk_at "sm"), hF.congr fun v _ => by rw [giveL_step hn v]⟩
      · rintro σ H ⟨fk, b_left, b_at, b_row, b_more, G_R, rfl, O, s_R, hF⟩
        obtain ⟨b1, O, s9⟩ := O.thaw ed eG s_R
        refine ⟨b1, ?_⟩
        generalize upd G_R dm (.dT kvs) = G6 at *
        obtain ⟨G8, s8, e9, O⟩ := O.frz
        have hlen : (ps.map V.ref).length ≤ 1001 := by rw [List.length_map]; omega
        walk_at "au"
        rename_i Hz O
        rw [show ps.map V.ref ++ [V.ref fu] = (ps ++ [fu]).map V.ref by simp] at O
        rw [List.take_length] at hF
        have hnew : ∀ k d, (ps ++ [fu])[k]? = some d → ∃ kvs, G8 d = some (.dT kvs) ∧ TabB rR (fun v => 0 < wavM rR tR k v) kvs := fun k d hd => by
          by_cases hk : k < ps.length
          · rw [List.getElem?_append_left hk] at hd
            obtain ⟨kvs, a, b⟩ := hps k d hd
            exact ⟨kvs, s8 _ _ (s9 _ _ a), b⟩
          · have hk2 := (List.getElem?_eq_some_iff.mp hd).1
            rw [List.length_append, List.length_singleton] at hk2
            obtain rfl : k = m + 1 := by omega
            rw [List.getElem?_append_right (by omega), hpl2, Nat.sub_self] at hd
            obtain rfl := Option.some.inj hd
            exact ⟨fk, e9, hF.congr fun v hv => by rw [hTm.all (by omega) rfl hv]⟩
        first | exact ⟨ps ++ [fu], _, _, _, _, _, _, _, rfl, (by walk_at "ow"), (by walk_at "sm"), by simp [hpl2], hnew⟩
    · rintro σ H ⟨ps, b_place, b_here, b_left, b_at, b_row, b_more, G_L, rfl, O, s_L, hpl2, hps⟩
      obtain ⟨G9, s9, e9, O⟩ := O.frz
      have hlen : (ps.map V.ref).length ≤ 1001 := by rw [List.length_map]; omega
      walk_at "au"
      refine e_revL c ?_
      walk_at "au"
      refine ⟨fo, _, rfl, .of (hp_up O e9), ?_⟩
      intro rv H_rv n_rv
      obtain ⟨G_rv, s_rv, e_rv, O⟩ := Own.fix (by walk_at "as") n_rv
      walk_at "au"
      exact q rv ps.reverse _ _ (by walk_at "sm") O (by rw [e_rv, List.map_reverse]) (by rw [List.length_reverse, hpl2]; omega) fun k d hd => by
        have hk := (List.getElem?_eq_some_iff.mp hd).1
        rw [List.length_reverse] at hk
        rw [List.getElem?_reverse hk] at hd
        obtain ⟨kvs, a, b⟩ := hps _ d hd
        rw [show ps.length - 1 - k = t.length - k by omega] at b
        exact ⟨kvs, s_rv _ _ (s9 _ _ a), b⟩))) only [↓fn_ok]
theorem cal_law_layers (T : Env K mg) : Cal P w K mg base 1 "_law_layers" (Sp_law_layers K) := cal_of T.d_law_layers fun F => ok_law_layers T F
end

end Law

namespace Law
open PySem PySem.Spec PyProof.Rows L2 Go
/-- the lowest row that goes on, of those from lo on -/
inductive Best (rows : List (List Nat)) (t v : List Nat) (k lo : Nat) : V → Prop
  | non (h : ∀ j, lo ≤ j → j < rows.length → stpB (t.getD k 0) (t.drop (k + 1)) (tailsR rows v) j = false) : Best rows t v k lo .non
  | so {b : Nat} (h1 : b < rows.length) (hs : stpB (t.getD k 0) (t.drop (k + 1)) (tailsR rows v) b = true) (h : ∀ j, lo ≤ j → j < b → stpB (t.getD k 0) (t.drop (k + 1)) (tailsR rows v) j = false) : Best rows t v k lo (.int (b : Nat))
theorem Best.skip {rows : List (List Nat)} {t v : List Nat} {k lo : Nat} {x : V} (h : Best rows t v k (lo + 1) x) (hf : stpB (t.getD k 0) (t.drop (k + 1)) (tailsR rows v) lo = false) : Best rows t v k lo x := by
  cases h with
  | non h =>
    refine .non fun j h1 h2 => ?_
    by_cases e : j = lo
    · rw [e]; exact hf
    · exact h j (by omega) h2
  | so h1 hs h =>
    refine .so h1 hs fun j h2 h3 => ?_
    by_cases e : j = lo
    · rw [e]; exact hf
    · exact h j (by omega) h3
/-- the first way, by the law's own going -/
inductive Sp_law_due (K : PySem.W.Frag) : Sp
  | mk {G H : Hp} {C : List (Addr × HO)} {Q : VK} {E : XK} {p : Addr} {rows : List (List Nat)} {t : List Nat} (O : Own G C H) (hp : G p = some (.lst (txR rows))) (h1 : rows.length ≤ 10) (h2 : ∀ i, i < rows.length → (rw' rows i).length ≤ 60) (h3 : t.length ≤ 1000) (h4 : boxN rows < 900000)
      (q0 : wavN t rows = 0 → ∀ (G' H' : Hp), Same G G' → Own G' C H' → Q .non H')
      (q : 0 < wavN t rows → ∀ (r : Addr) (G' H' : Hp), Same G G' → Own G' C H' → G' r = some (.lst ((fstN t rows).map fun (k : Nat) => V.int (k : Nat))) → Q (.ref r) H') : Sp_law_due K [.ref p, .str (S t)] H Q E
section
variable {P : Program} {w : World} {K : PySem.W.Frag} {mg : Str → Option Value} {base : Heap}
theorem ok_law_due (T : Env K mg) {f : Addr} {fd : FuncData} (F : Fun K "_law_due" "_law_due" st_law_due f fd) : FnOk P w K mg base CX0 2 f fd ["rows", "text"] (Sp_law_due K) := by
  simp (disch := (with_unfolding_all (
    refine into (N := ["rows", "text", "layers", "left", "found", "place", "letter", "best", "at", "fewer", "here", "row"]) (nm := nm_law_due) F sc_law_due ne_law_due (fun vs H Q E h => by cases h <;> rfl) (by decide) (fun X H vs Q E c h => ?_)
    have C_law_layers := cal_law_layers (P := P) (w := w) (base := base) T
    have B_enumerate := T.b_enumerate
    have B_len := T.b_len
    have B_tuple := T.b_tuple
    have B_range := T.b_range
    cases h with
    | @mk G H C Q E p rows t O hp h1 h2 h3 h4 q0 q =>
    have hpl : (txR rows).length = rows.length := by unfold txR; rw [List.length_map]
    obtain ⟨rR, hR⟩ : ∃ rR, rR = rows.map List.reverse := ⟨_, rfl⟩
    obtain ⟨tR, htR⟩ : ∃ tR, tR = t.reverse := ⟨_, rfl⟩
    walk_at "in"
    walk_at "ax"
    refine .mk O hp h1 h2 h3 h4 fun r ps G1 H1 s1 O er hps hts => ?_
    rw [← hR, ← htR] at hts
    have hp1 : G1 p = some (.lst (txR rows)) := s1 _ _ hp
    walk_at "ax"
    refine i_listK c ?_
    walk_at "ax"
    refine ⟨p, _, rfl, .of (hp_up O hp1), ?_⟩
    refine lr_list (fun n acc _ C' => acc = (rows.take n).map (fun z => V.int (z.length : Nat)) ∧ C = C') c (by walk_at "ix") (by walk_at "dk") rfl (.of hp1) (by omega) O ⟨rfl, rfl⟩ ?_ ?_
    · rintro m x acc G2 C2 A H2 hx ⟨rfl, rfl⟩ O s2 X' c
      have hx : (rows.map fun z => V.str (S z))[m]? = some x := hx
      rw [List.getElem?_map] at hx
      obtain ⟨row, hrow, rfl⟩ := Option.map_eq_some_iff.mp hx
      have hi : m < rows.length := (List.getElem?_eq_some_iff.mp hrow).1
      have hri : rw' rows m = row := by unfold rw'; rw [List.getD_eq_getElem?_getD, hrow]; rfl
      have hrl : row.length ≤ 60 := by rw [← hri]; exact h2 m hi
      walk_at "ax"
      exact ⟨_, _, O, by walk_at "sm", by rw [List.take_add_one, hrow, List.map_append]; rfl, rfl⟩
    rintro acc G4 C4 lf H4 hl4 ⟨rfl, rfl⟩ O s4
    rw [hpl, List.take_length] at O
    have eL : rows.map (fun z => V.int (z.length : Nat)) = (keyV (lensR rows)).map kV := by
      rw [keyV_map]
      unfold lensR
      rw [List.map_map]; rfl
    rw [eL] at O
    walk_at "ax"
    refine c_tupleL c (.of O.at) ?_
    intro kt H_kt n_kt
    obtain ⟨G_kt, s_kt, e_kt, O⟩ := Own.fix (by walk_at "as") n_kt
    walk_at "ax"
    obtain ⟨d0, hd0⟩ : ∃ d, ps[0]? = some d := ⟨_, List.getElem?_eq_getElem (by omega)⟩
    obtain ⟨kvs, ed, hT⟩ := hts 0 d0 hd0
    have er2 : G_kt r = some (.lst (ps.map V.ref)) := by walk_at "gp"
    have ed2 : G_kt d0 = some (.dT kvs) := by walk_at "gp"
    refine x_lst c (.of (hp_up O er2)) (atI_get (i := 0) (v := V.ref d0) (by rw [List.getElem?_map, hd0]; rfl)) ?_
    refine o_notInTL c (hp_up O ed2) (hp_up O e_kt) ?_
    have hk0 := hT.has (v := lensR rows) (by rw [hR]; exact okV_rev.mpr (okV_lens rows))
    rw [hR, htR, wavM_tails, Nat.sub_zero, Nat.sub_self, List.drop_zero, tails_all] at hk0
    rw [hk0]
    walk_at "ax"
    refine i_decD (fun hw => ?_) (fun hw => ?_)
    case refine_2 =>
      walk_at "ax"
      have O := O.drop
      exact q0 (by omega) _ _ (by walk_at "sm") O
    walk_at "ax"
    intro fo H_fo n_fo
    have O := Own.more (by walk_at "as") n_fo
    walk_at "ax"
    have O := O.swap
    refine s_for c (fun _ => rfl) ?_
    walk_at "ax"
    refine ⟨t, rfl, ?_⟩
    refine on_enumS (fun k σ H => ∃ (v fd : List Nat) (b_place b_letter b_best b_at b_fewer b_here b_row : Option V) (G_L : Hp), σ = [some (.ref p), some (.str (S t)), some (.ref r), some (.ref lf), some (.ref fo), b_place, b_letter, b_best, b_at, b_fewer, b_here, b_row] ∧ Own G_L ((lf, .lst ((keyV v).map kV)) :: (fo, .lst (fd.map fun (k : Nat) => V.int (k : Nat))) :: C) H ∧ Same G_kt G_L ∧ Fst rows t k v fd ∧ fd.length = k) ⟨lensR rows, [], _, _, _, _, _, _, _, _, rfl, (by walk_at "ow"), (by walk_at "sm"), Fst.first hw, rfl⟩ ?_ ?_
    · rintro k ch σ H T3 H3 hch ⟨v, fd, b_place, b_letter, b_best, b_at, b_fewer, b_here, b_row, G_L, rfl, O, s_L, hF, hfl⟩ nT3
      obtain ⟨Gc, sc, ec, O⟩ := Own.fix O nT3
      have hk : k < t.length := (List.getElem?_eq_some_iff.mp hch).1
      have hgt : t.getD k 0 = ch := by rw [List.getD_eq_getElem?_getD, hch]; rfl
      have hpb : Gc p = some (.lst (txR rows)) := by walk_at "gp"
      have erb : Gc r = some (.lst (ps.map V.ref)) := by walk_at "gp"
      have hvl : ((keyV v).map kV).length = rows.length := by rw [keyV_map, List.length_map, hF.ok.1]
      obtain ⟨dk, hdk⟩ : ∃ d, ps[k + 1]? = some d := ⟨_, List.getElem?_eq_getElem (by omega)⟩
      obtain ⟨kvk, edk, hTk⟩ := hts (k + 1) dk hdk
      have edk : Gc dk = some (.dT kvk) := by walk_at "gp"
      walk_at "ax"
      refine s_for c (fun _ => rfl) ?_
      walk_at "ax"
      refine on_down (fun i σ H => ∃ (x : V) (b_at b_fewer b_here b_row : Option V) (G_I : Hp), σ = [some (.ref p), some (.str (S t)), some (.ref r), some (.ref lf), some (.ref fo), some (.int (k : Nat)), some (.str (S [ch])), some (x), b_at, b_fewer, b_here, b_row] ∧ Own G_I ((lf, .lst ((keyV v).map kV)) :: (fo, .lst (fd.map fun (k : Nat) => V.int (k : Nat))) :: C) H ∧ Same Gc G_I ∧ Best rows t v k (rows.length - i) x) ⟨.non, _, _, _, _, _, rfl, (by walk_at "ow"), (by walk_at "sm"), .non fun j a b => by omega⟩ ?_ ?_
      · rintro i σ H hi ⟨x, b_at, b_fewer, b_here, b_row, G_I, rfl, O, s_I, hB⟩
        obtain ⟨at', hat⟩ : ∃ a, a = rows.length - 1 - i := ⟨_, rfl⟩
        have hal : at' < rows.length := by omega
        rw [hpl]
        rw [show ((rows.length : Nat) : Int) - 1 - (i : Int) = ((at' : Nat) : Int) by omega]
        obtain ⟨row, hrow⟩ : ∃ row, rows[at']? = some row := ⟨_, List.getElem?_eq_getElem hal⟩
        have hri : rw' rows at' = row := by unfold rw'; rw [List.getD_eq_getElem?_getD, hrow]; rfl
        have hui : ((keyV v).map kV)[at']? = some (V.int (v.getD at' 0 : Nat)) := by rw [keyV_map, List.getElem?_map, gd_get (by rw [hF.ok.1]; exact hal)]; rfl
        have hxr : (txR rows)[at']? = some (.str (S row)) := by unfold txR; rw [List.getElem?_map, hrow]; rfl
        have hrl : row.length ≤ 60 := by rw [← hri]; exact h2 at' hal
        have hvle : v.getD at' 0 ≤ row.length := by rw [← hri]; exact hF.ok.2 at' hal
        have hstp := stp_key hF.ok hal hk (m := t.length - (k + 1)) (by omega)
        rw [hri, ← hR, ← htR, hgt] at hstp
        walk_at "ax"
        refine l_lst c (.of O.at) ?_
        intro fa H_fa n_fa
        obtain ⟨G_fa, s_fa, e_fa, O⟩ := Own.fix (by walk_at "as") n_fa
        walk_at "ax"
        rw [cut_to _ _ (by omega), Int.toNat_natCast] at e_fa
        refine x_lst c (.of O.at) (atI_nat' rfl hui) ?_
        walk_at "ax"
        intro fb H_fb n_fb
        obtain ⟨G_fb, s_fb, e_fb, O⟩ := Own.fix (by walk_at "as") n_fb
        walk_at "ax"
        refine o_cat (hp_up O (show G_fb fa = _ by walk_at "gp")) (hp_up O e_fb) (by rw [List.length_take]; simp only [List.length_singleton]; omega) ?_
        intro fc H_fc n_fc
        obtain ⟨G_fc, s_fc, e_fc, O⟩ := Own.fix (by walk_at "as") n_fc
        walk_at "ax"
        refine l_lst c (.of O.at) ?_
        intro fe H_fe n_fe
        obtain ⟨G_fe, s_fe, e_fe, O⟩ := Own.fix (by walk_at "as") n_fe
        walk_at "ax"
        rw [cut_from _ _ (by omega), show ((at' : Int) + 1).toNat = at' + 1 by omega] at e_fe
        refine o_cat (hp_up O (show G_fe fc = _ by walk_at "gp")) (hp_up O e_fe) (by simp only [List.length_append, List.length_take, List.length_drop, List.length_singleton]; omega) ?_
        intro ff H_ff n_ff
        obtain ⟨G_ff, s_ff, e_ff, O⟩ := Own.fix (by walk_at "as") n_ff
        walk_at "ax"
        rw [fewK_map] at e_ff
        refine x_lst c (.of O.at) (atI_nat' rfl hui) ?_
        have hlo : rows.length - (i + 1) = at' := by omega
        rw [show rows.length - i = at' + 1 by omega] at hB
        by_cases hz : 0 < v.getD at' 0
        · walk_at "ax"
          refine x_lst c (.of (hp_up O (show G_ff p = some (.lst (txR rows)) by walk_at "gp"))) (atI_nat' rfl hxr) ?_
          walk_at "ax"
          refine x_lst c (.of (hp_up O (show G_ff p = some (.lst (txR rows)) by walk_at "gp"))) (atI_nat' rfl hxr) ?_
          walk_at "ax"
          refine x_lst c (.of O.at) (atI_nat' rfl hui) ?_
          walk_at "ax"
          refine i_decD (fun he => ?_) (fun he => ?_)
          · walk_at "ax"
            refine c_tupleL c (.of (hp_up O e_ff)) ?_
            intro kt2 H_kt2 n_kt2
            obtain ⟨G_kt2, s_kt2, e_kt2, O⟩ := Own.fix (by walk_at "as") n_kt2
            walk_at "ax"
            rw [fewK_set (by rw [hF.ok.1]; exact hal) hz] at e_kt2
            refine o_inTL c (hp_up O (show G_kt2 dk = some (.dT kvk) by walk_at "gp")) (hp_up O e_kt2) ?_
            rw [hTk.has (by rw [hR]; exact okV_rev.mpr (hF.ok.set hal (by rw [hri]; omega)))]
            walk_at "ax"
            refine i_decD (fun hw2 => ?_) (fun hw2 => ?_)
            · walk_at "ax"
              first | exact ⟨(.int (at' : Nat)), _, _, _, _, _, rfl, (by walk_at "ow"), (by walk_at "sm"), by rw [hlo]; exact .so hal (by rw [hgt, hstp]; exact decide_eq_true ⟨hz, he, hw2⟩) fun j a b => by omega⟩
            · walk_at "ax"
              first | exact ⟨x, _, _, _, _, _, rfl, (by walk_at "ow"), (by walk_at "sm"), by rw [hlo]; exact hB.skip (by rw [hgt, hstp]; exact decide_eq_false fun z => hw2 z.2.2)⟩
          · walk_at "ax"
            first | exact ⟨x, _, _, _, _, _, rfl, (by walk_at "ow"), (by walk_at "sm"), by rw [hlo]; exact hB.skip (by rw [hgt, hstp]; exact decide_eq_false fun z => he z.2.1)⟩
        · walk_at "ax"
          first | exact ⟨x, _, _, _, _, _, rfl, (by walk_at "ow"), (by walk_at "sm"), by rw [hlo]; exact hB.skip (by rw [hgt, hstp]; exact decide_eq_false fun z => hz z.1)⟩
      · rintro σ H ⟨x, b_at, b_fewer, b_here, b_row, G_I, rfl, O, s_I, hB⟩
        rw [show rows.length - _ = 0 from Nat.sub_eq_zero_of_le (by omega)] at hB
        cases hB with
        | non h =>
          exfalso
          obtain ⟨i, hi, hs⟩ := hF.ex hk
          rw [h i (by omega) hi] at hs
          cases hs
        | @so b b1 hs h =>
          obtain ⟨b2, hF2⟩ := hF.next hk b1 hs fun j hj => h j (Nat.zero_le _) hj
          have hub : ((keyV v).map kV)[b]? = some (V.int (v.getD b 0 : Nat)) := by rw [keyV_map, List.getElem?_map, gd_get (by rw [hF.ok.1]; exact b1)]; rfl
          have hfdl : (fd.map fun (k : Nat) => V.int (k : Nat)).length ≤ 1001 := by rw [List.length_map]; omega
          have O := O.swap
          walk_at "ax"
          rename_i Hy O
          rw [show (fd.map fun (k : Nat) => V.int (k : Nat)) ++ [V.int (b : Nat)] = (fd ++ [b]).map fun (k : Nat) => V.int (k : Nat) by simp] at O
          have O := O.swap
          refine x_lst c (.of O.at) (atI_nat' rfl hub) ?_
          walk_at "ax"
          refine p_cellN (n := b) O rfl (by omega) fun Hm O => ?_
          rw [show ((keyV v).map kV).set b (V.int ((v.getD b 0 : Nat) - 1)) = (keyV (v.set b (v.getD b 0 - 1))).map kV by rw [keyV_map, keyV_map, List.map_set, Int.natCast_sub (by omega)]; rfl] at O
          walk_at "ax"
          first | exact ⟨_, (fd ++ [b]), _, _, _, _, _, _, _, _, rfl, (by walk_at "ow"), (by walk_at "sm"), hF2, by rw [List.length_append, hfl]; rfl⟩
    · rintro σ H ⟨v, fd, b_place, b_letter, b_best, b_at, b_fewer, b_here, b_row, G_L, rfl, O, s_L, hF, hfl⟩
      rw [hF.last] at O
      have O := O.drop
      obtain ⟨G9, s9, e9, O⟩ := O.frz
      walk_at "ax"
      exact q hw fo _ _ (by walk_at "sm") O e9))) only [↓fn_ok]
theorem cal_law_due (T : Env K mg) : Cal P w K mg base 2 "_law_due" (Sp_law_due K) := cal_of T.d_law_due fun F => ok_law_due T F
end

end Law

namespace Law
open PySem PySem.Spec PyProof.Rows L2 Go
theorem txR_eq (rows : List (List Nat)) : txR rows = rows.map fun z => V.str (S z) := rfl
/-- what is held: the told way, and what is due -/
def HeldO (G : Hp) (q : Addr) : Prop := ∃ a b : Addr, ∃ ns : List Nat, G q = some (.tup [.ref a, .ref b]) ∧ G a = some (.lst (ns.map fun (k : Nat) => V.int (k : Nat))) ∧ G b = some (.lst (ns.map fun (k : Nat) => V.int (k : Nat))) ∧ ns.length ≤ 1000
theorem HeldO.up {G G' : Hp} {q : Addr} (h : HeldO G q) (s : Same G G') : HeldO G' q := by
  obtain ⟨a, b, ns, h1, h2, h3, h4⟩ := h
  exact ⟨a, b, ns, s _ _ h1, s _ _ h2, s _ _ h3, h4⟩
theorem ne_list {G : Hp} {a b : Addr} {ns : List Nat} {rows : List (List Nat)} (h1 : G a = some (.lst (ns.map fun (k : Nat) => V.int (k : Nat)))) (h2 : G b = some (.lst (txR rows))) (hr : 1 ≤ rows.length) : a ≠ b := by
  rintro rfl
  rw [h1] at h2
  have e : (ns.map fun (k : Nat) => V.int (k : Nat)) = rows.map fun z => V.str (S z) := by injection (Option.some.inj h2)
  cases rows with
  | nil => simp at hr
  | cons z zs =>
    cases ns with
    | nil => cases e
    | cons n ns => cases e
/-- the first way is told -/
inductive Sp_law_right (K : PySem.W.Frag) : Sp
  | mk {G H : Hp} {C : List (Addr × HO)} {Q : VK} {E : XK} {p hd : Addr} {rows : List (List Nat)} {t : List Nat} {hs : List Addr} (O : Own G ((hd, .lst (hs.map V.ref)) :: C) H) (hp : G p = some (.lst (txR rows))) (hr : 1 ≤ rows.length) (h1 : rows.length ≤ 5) (h2 : ∀ i, i < rows.length → (rw' rows i).length ≤ 60) (h3 : t.length ≤ 1000) (h4 : boxN rows < 900000) (hh : ∀ q ∈ hs, HeldO G q) (hl : hs.length ≤ 900)
      (q : ∀ (hs' : List Addr) (G' H' : Hp), Same G G' → Own G' ((hd, .lst (hs'.map V.ref)) :: C) H' → (∀ q ∈ hs', HeldO G' q) → hs'.length ≤ hs.length + 1 → Q (.bl true) H') : Sp_law_right K [.ref p, .str (S t), .ref hd] H Q E
section
variable {P : Program} {w : World} {K : PySem.W.Frag} {mg : Str → Option Value} {base : Heap}
theorem ok_law_right (T : Env K mg) {f : Addr} {fd : FuncData} (F : Fun K "_law_right" "_law_right" st_law_right f fd) : FnOk P w K mg base CX0 3 f fd ["rows", "text", "held"] (Sp_law_right K) := by
  simp (disch := (with_unfolding_all (
    refine into (N := ["rows", "text", "held", "due", "handed", "found", "one"]) (nm := nm_law_right) F sc_law_right ne_law_right (fun vs H Q E h => by cases h <;> rfl) (by decide) (fun X H vs Q E c h => ?_)
    have C_law_due := cal_law_due (P := P) (w := w) (base := base) T
    have C_way_of := cal_way_of (P := P) (w := w) (base := base) T
    have B_list := T.b_list
    have B_isinstance := T.b_isinstance
    have B_bool := T.b_bool
    cases h with
    | @mk G H C Q E p hd rows t hs O hp hr h1 h2 h3 h4 hh hl q =>
    have hpl : (txR rows).length = rows.length := by unfold txR; rw [List.length_map]
    walk_at "in"
    walk_at "ax"
    refine .mk O hp (by omega) h2 h3 h4 (fun hw G1 H1 s1 O => ?_) (fun hw r G1 H1 s1 O er => ?_)
    · have hp1 : G1 p = some (.lst (txR rows)) := s1 _ _ hp
      walk_at "ax"
      refine c_listL c (.of (hp_up O hp1)) ?_
      intro ha H_ha n_ha
      obtain ⟨G_ha, s_ha, e_ha, O⟩ := Own.fix (by walk_at "as") n_ha
      walk_at "ax"
      walk_at "ax"
      refine .mk O e_ha (by omega) h2 h3 h4 (fun _ G2 H2 s2 O => ?_) (fun hw2 => absurd hw2 (by omega))
      walk_at "ax"
      refine o_neSL c (xs := rows) (ys := rows) (.of (hp_up O (show G2 ha = some (.lst (txR rows)) by walk_at "gp"))) (.of (hp_up O (show G2 p = some (.lst (txR rows)) by walk_at "gp"))) ?_
      rw [decide_eq_true rfl]
      walk_at "ax"
      rename_i Hj Gj sj O
      rw [if_neg (by simp)]
      walk_at "ax"
      exact q hs Gj _ (by walk_at "sm") O (fun q hq => (hh q hq).up (by walk_at "sm")) (by omega)
    · have hp1 : G1 p = some (.lst (txR rows)) := s1 _ _ hp
      have hfl := (fst_len t rows hw).1
      have hO1 := O
      have hpH := hp_up O hp1
      walk_at "ax"
      refine c_listL c (.of (hp_up O hp1)) ?_
      intro ha H_ha n_ha
      obtain ⟨G_ha, s_ha, e_ha, O⟩ := Own.fix (by walk_at "as") n_ha
      walk_at "ax"
      have hns : ((fstN t rows).map fun (k : Nat) => ((k : Nat) : Int)).map V.int = (fstN t rows).map fun (k : Nat) => V.int (k : Nat) := by rw [List.map_map]; rfl
      refine .mk O e_ha (by omega) h2 h3 h4 (fun hw2 => absurd hw2 (by omega)) (fun _ rf G2 H2 s2 O => ?_)
      walk_at "ax"
      refine o_neSL c (xs := rows) (ys := rows) (.of (hp_up O (show G2 ha = some (.lst (txR rows)) by walk_at "gp"))) (.of (hp_up O (show G2 p = some (.lst (txR rows)) by walk_at "gp"))) ?_
      rw [decide_eq_true rfl]
      walk_at "ax"
      rename_i Hj Gj sj O
      rw [if_neg (by simp)]
      walk_at "ax"
      refine o_neLI c (ns := (fstN t rows).map fun (k : Nat) => ((k : Nat) : Int)) (ms := (fstN t rows).map fun (k : Nat) => ((k : Nat) : Int)) (.of (by rw [hns]; exact O.at)) (.of (by rw [hns]; exact hp_up O (show Gj r = some (.lst ((fstN t rows).map fun (k : Nat) => V.int (k : Nat))) by walk_at "gp"))) ?_
      rw [decide_eq_true rfl]
      walk_at "ax"
      refine i_listK c ?_
      walk_at "ax"
      refine ⟨rf, _, rfl, .of O.at, ?_⟩
      refine lc_cell (G := Gj) (C := (rf, .lst ((fstN t rows).map fun (k : Nat) => V.int (k : Nat))) :: (hd, .lst (hs.map V.ref)) :: C) (fun _ acc _ C' => acc = [] ∧ (rf, .lst ((fstN t rows).map fun (k : Nat) => V.int (k : Nat))) :: (hd, .lst (hs.map V.ref)) :: C = C') c rfl (walk_list (xs := (fstN t rows).map fun (k : Nat) => V.int (k : Nat))) (by rw [List.length_map]; omega) O ⟨rfl, rfl⟩ ?_ ?_ ?_
      · rintro m acc G5 C5 A H5 ⟨rfl, rfl⟩ O s5
        exact .of (by walk_at "hp")
      · rintro m v acc G5 C5 A H5 H6 hm ⟨rfl, rfl⟩ ⟨rfl, hv⟩ O s5 X' c
        rw [List.getElem?_map] at hv
        obtain ⟨n, _, rfl⟩ := Option.map_eq_some_iff.mp hv
        simp only [wipe, List.set]
        walk_at "ax"
        refine ⟨rfl, fun X' c => ?_⟩
        refine ts_one ?_
        walk_at "ax"
        exact ⟨_, _, O, same_rfl, by simp, rfl⟩
      rintro acc G5 C5 A H5 hl9 ⟨rfl, rfl⟩ O s5
      obtain ⟨G6, s6, e6, O⟩ := O.frz
      walk_at "ax"
      intro n1 H_n1 n_n1
      obtain ⟨G_n1, s_n1, e_n1, O⟩ := Own.fix (by walk_at "as") n_n1
      walk_at "ax"
      refine o_neLI c (ns := []) (ms := []) (.of (hp_up O (show G_n1 A = some (.lst []) by walk_at "gp"))) (.of (hp_up O e_n1)) ?_
      rw [decide_eq_true rfl]
      walk_at "ax"
      refine .mk O (show G_n1 ha = some (.lst (txR rows)) by walk_at "gp") (by omega) h2 h3 h4 (fun hw2 => absurd hw2 (by omega)) (fun _ r2 G7 H7 s7 O => ?_)
      obtain ⟨G8, s8, e8, O⟩ := O.frz
      walk_at "ax"
      refine c_listL c (.of (hp_up O (show G8 r = some (.lst ((fstN t rows).map fun (k : Nat) => V.int (k : Nat))) by walk_at "gp"))) ?_
      intro r3 H_r3 n_r3
      obtain ⟨G_r3, s_r3, e_r3, O⟩ := Own.fix (by walk_at "as") n_r3
      walk_at "ax"
      rename_i tq Hq nq Gq sq eq O
      have hlh : (hs.map V.ref).length ≤ 901 := by rw [List.length_map]; omega
      have hlf : ((fstN t rows).map fun (k : Nat) => V.int (k : Nat)).length ≤ 1001 := by rw [List.length_map]; omega
      have O := O.swap
      walk_at "ax"
      rename_i Hx O
      rw [show hs.map V.ref ++ [V.ref tq] = (hs ++ [tq]).map V.ref by simp] at O
      have O := O.swap
      walk_at "ax"
      rename_i Hy O
      refine m_reverse O.at ?_
      have O := O.write (o' := .lst ((fstN t rows).map (fun (k : Nat) => V.int (k : Nat)) ++ [V.int 0]).reverse)
      have O := O.drop
      have gha : Gq ha = some (.lst (txR rows)) := by walk_at "gp"
      have gp1 : Gq p = some (.lst (txR rows)) := by walk_at "gp"
      have g2 : Gq r2 = some (.lst ((fstN t rows).map fun (k : Nat) => V.int (k : Nat))) := by walk_at "gp"
      have g3 : Gq r3 = some (.lst ((fstN t rows).map fun (k : Nat) => V.int (k : Nat))) := by walk_at "gp"
      have hnp : p ≠ ha := fun z => by
        rw [z, n_ha.1] at hpH; cases hpH
      have hnq : tq ≠ ha := fun z => by
        rw [z, gha] at eq; cases eq
      have hn2 := ne_list g2 gha hr
      have hn3 := ne_list g3 gha hr
      have O := Law.Own.melt O gha
      have hheld : HeldO (dropG Gq ha) tq := ⟨r2, r3, _, dropG_ne hnq eq, dropG_ne hn2 g2, dropG_ne hn3 g3, by omega⟩
      have gp2 := dropG_ne hnp gp1
      walk_at "ax"
      rename_i Hz O
      have O := O.drop
      have sD : Same G (dropG Gq ha) := same_melt hO1 n_ha s1 (by walk_at "sm")
      refine .mk O gp2 (by omega) h2 h3 h4 (fun hw2 => absurd hw2 (by omega)) (fun _ r9 G9 H9 s9 O => ?_)
      obtain ⟨Ga, sa, ea, O⟩ := O.frz
      walk_at "ax"
      have gr : Ga r = some (.lst ((fstN t rows).map fun (k : Nat) => V.int (k : Nat))) := by
        have hnr := ne_list (show Gq r = some (.lst ((fstN t rows).map fun (k : Nat) => V.int (k : Nat))) by walk_at "gp") gha hr
        exact sa _ _ (s9 _ _ (dropG_ne hnr (by walk_at "gp")))
      refine o_eqLI c (ns := (fstN t rows).map fun (k : Nat) => ((k : Nat) : Int)) (ms := (fstN t rows).map fun (k : Nat) => ((k : Nat) : Int)) (.of (by rw [hns]; exact hp_up O ea)) (.of (by rw [hns]; exact hp_up O gr)) ?_
      rw [decide_eq_true rfl]
      refine q (hs ++ [tq]) Ga _ (by walk_at "sm") O (fun q hq => ?_) (by simp)
      rcases List.mem_append.mp hq with hq | hq
      · exact (hh q hq).up (by walk_at "sm")
      · rw [List.mem_singleton.mp hq]
        exact (hheld.up s9).up sa))) only [↓fn_ok]
theorem cal_law_right (T : Env K mg) : Cal P w K mg base 3 "_law_right" (Sp_law_right K) := cal_of T.d_law_right fun F => ok_law_right T F
end

end Law

namespace Law
open PySem PySem.Spec PyProof.Rows L2 Go
/-- true of any list of ints -/
inductive Sp_law (K : PySem.W.Frag) : Sp
  | mk {H : Hp} {Q : VK} {E : XK} {a : Addr} {ns : List Int} (hS : SqL K H a (ns.map V.int)) (hl : ns.length ≤ 63) (q : ∀ H', Q (.bl true) H') : Sp_law K [.ref a] H Q E
section
variable {P : Program} {w : World} {K : PySem.W.Frag} {mg : Str → Option Value} {base : Heap}
theorem ok_law (T : Env K mg) {f : Addr} {fd : FuncData} (F : Fun K "law" "law" st_law f fd) : FnOk P w K mg base CX0 4 f fd ["script"] (Sp_law K) := by
  simp (disch := (with_unfolding_all (
    refine into (N := ["script", "held", "k", "cell", "hand", "rows", "turn", "one"]) (nm := nm_law) F sc_law ne_law (fun vs H Q E h => by cases h <;> rfl) (by decide) (fun X H vs Q E c h => ?_)
    have C_law_cells := cal_law_cells (P := P) (w := w) (base := base) T
    have C_law_hand := cal_law_hand (P := P) (w := w) (base := base) T
    have C_law_rows := cal_law_rows (P := P) (w := w) (base := base) T
    have C_way_of := cal_way_of (P := P) (w := w) (base := base) T
    have C_law_right := cal_law_right (P := P) (w := w) (base := base) T
    have C_law_text := cal_law_text (P := P) (w := w) (base := base) T
    have B_range := T.b_range
    cases h with
    | @mk H Q E a ns hS hl q =>
    have O : Own H [] H := ⟨same_rfl, fun _ h => (by simp at h), (by simp)⟩
    walk_at "in"
    walk_at "ax"
    intro hd H_hd n_hd
    have O := Own.more (by walk_at "as") n_hd
    walk_at "ax"
    have O : Own H ((hd, .lst (([] : List Addr).map V.ref)) :: []) H_hd := O
    have hS : SqL K H a (ns.map V.int) := by walk_at "gsl"
    refine s_for c (fun _ => rfl) (i_listK c ?_)
    walk_at "go"
    refine .mk O hS hl (by decide) (by decide) fun r ts xs G1 H1 s1 O hx hl1 e1 e2 => ?_
    refine ⟨r, _, rfl, by walk_at "sql", ?_⟩
    refine on_listK c (xs := ts.map V.ref) (fun i σ H => ∃ (hs : List Addr) (b_k b_cell b_hand b_rows b_turn b_one : Option V) (G_L : Hp), σ = [some (.ref a), some (.ref hd), b_k, b_cell, b_hand, b_rows, b_turn, b_one] ∧ Own G_L ([(hd, .lst (hs.map V.ref))]) H ∧ Same G1 G_L ∧ (∀ q ∈ hs, HeldO G_L q) ∧ hs.length ≤ 3 * i) ⟨[], _, _, _, _, _, _, _, rfl, (by walk_at "ow"), (by walk_at "sm"), by simp, by simp⟩ ?_ ?_ ?_
    · rintro i σ H hi ⟨hs, b_k, b_cell, b_hand, b_rows, b_turn, b_one, G_L, rfl, O, s_L, hh1, hh2⟩
      walk_at "sql"
    · rintro i x σ H hx ⟨hs, b_k, b_cell, b_hand, b_rows, b_turn, b_one, G_L, rfl, O, s_L, hh1, hh2⟩
      obtain ⟨t, ht, rfl⟩ := map_ref hx
      have hi : i < 63 := by
        have := (List.getElem?_eq_some_iff.mp ht).1
        omega
      obtain ⟨x, ex⟩ := e2 i t ht
      walk_at "ax"
      refine' Sp_law_hand.mk ?O ?h1 ?h2 ?_
      (case O => walk_at "own")
      (case h1 => walk_at "ar")
      (case h2 => walk_at "ar")
      intro p o H_p O hh
      walk_at "ax"
      refine' Sp_law_rows.mk ?O ?hh ?_
      (case O => walk_at "own")
      (case hh => walk_at "as")
      intro rp rows o G_rp H_rp s_rp O hh er hr1 hr5 hz
      walk_at "ax"
      have er : G_rp rp = some (.lst (txR rows)) := er
      have hbx := box_few6 (fun z h => (hz z h).1) (show rows.length ≤ 6 by omega)
      have hrl := rw_le (n := 60) fun z h => Nat.le_trans (hz z h).1 (by decide)
      refine s_for c (fun _ => rfl) ?_
      walk_at "ax"
      refine on_range (fun m σ H => ∃ (o : HO) (hs : List Addr) (b_turn b_one : Option V) (G_T : Hp), σ = [some (.ref a), some (.ref hd), some (.int (i : Nat)), some (.int x), some (.ref p), some (.ref rp), b_turn, b_one] ∧ Own G_T ([(p, o), (hd, .lst (hs.map V.ref))]) H ∧ Same G_rp G_T ∧ HandO o ∧ (∀ q ∈ hs, HeldO G_T q) ∧ hs.length ≤ 3 * i + m) ⟨_, hs, _, _, _, rfl, (by walk_at "ow"), (by walk_at "sm"), hh, fun q hq => (hh1 q hq).up (by walk_at "sm"), by omega⟩ ?_ ?_
      · rintro m σ H hm ⟨o, hs, b_turn, b_one, G_T, rfl, O, s_T, hh, hh1, hh2⟩
        walk_at "ax"
        refine' Sp_law_text.mk ?O ?hh ?er ?l2 ?hz ?_
        (case O => walk_at "own")
        (case hh => walk_at "as")
        (case er => walk_at "ar")
        (case l2 => walk_at "ar")
        (case hz => walk_at "ar")
        intro t2 o G_t2 H_t2 s_t2 O hh lt2 hLt2
        walk_at "ax"
        have O := O.swap
        refine .mk O (by walk_at "gp") hr1 hr5 hrl (by omega) (by omega) (fun q hq => (hh1 q hq).up (by walk_at "sm")) (by omega) fun hs2 G9 H9 s9 O hh3 hh4 => ?_
        have O := O.swap
        walk_at "ax"
        first | exact ⟨_, hs2, _, _, _, rfl, (by walk_at "ow"), (by walk_at "sm"), hh, hh3, by omega⟩
      · rintro σ H ⟨o, hs, b_turn, b_one, G_T, rfl, O, s_T, hh, hh1, hh2⟩
        walk_at "ax"
        have O := O.drop
        first | exact ⟨hs, _, _, _, _, _, _, _, rfl, (by walk_at "ow"), (by walk_at "sm"), hh1, by omega⟩
    · rintro σ H ⟨hs, b_k, b_cell, b_hand, b_rows, b_turn, b_one, G_L, rfl, O, s_L, hh1, hh2⟩
      walk_at "ax"
      intro c1 H_c1 n_c1
      obtain ⟨G_c1, s_c1, e_c1, O⟩ := Own.fix (by walk_at "as") n_c1
      walk_at "ax"
      have g1 : G_c1 c1 = some (.lst (txR [cs "ab", cs "ab"])) := e_c1
      have f1 : fstN (cs "abab") [cs "ab", cs "ab"] = [0, 0, 1, 1] := by decide +kernel
      have w1 : 0 < wavN (cs "abab") [cs "ab", cs "ab"] := by decide +kernel
      refine .mk O g1 (by decide) (by decide +kernel) (by decide +kernel) (by decide +kernel) (fun h => absurd h (by omega)) fun _ r1 G2 H2 s2 O => ?_
      rw [f1] at O
      walk_at "ax"
      intro c2 H_c2 n_c2
      obtain ⟨G_c2, s_c2, e_c2, O⟩ := Own.fix (by walk_at "as") n_c2
      walk_at "ax"
      refine o_neLI c (ns := [0, 0, 1, 1]) (ms := [0, 0, 1, 1]) (.of O.at) (.of (hp_up O e_c2)) ?_
      rw [decide_eq_true rfl]
      have O := O.drop
      walk_at "ax"
      intro c3 H_c3 n_c3
      obtain ⟨G_c3, s_c3, e_c3, O⟩ := Own.fix (by walk_at "as") n_c3
      walk_at "ax"
      have g3 : G_c3 c3 = some (.lst (txR [cs "", cs ""])) := e_c3
      have f3 : fstN (cs "") [cs "", cs ""] = [] := by decide +kernel
      have w3 : 0 < wavN (cs "") [cs "", cs ""] := by decide +kernel
      refine .mk O g3 (by decide) (by decide +kernel) (by decide +kernel) (by decide +kernel) (fun h => absurd h (by omega)) fun _ r3 G4 H4 s4 O => ?_
      rw [f3] at O
      walk_at "ax"
      intro c4 H_c4 n_c4
      obtain ⟨G_c4, s_c4, e_c4, O⟩ := Own.fix (by walk_at "as") n_c4
      walk_at "ax"
      refine o_neLI c (ns := []) (ms := []) (.of O.at) (.of (hp_up O e_c4)) ?_
      rw [decide_eq_true rfl]
      have O := O.drop
      walk_at "ax"
      intro c5 H_c5 n_c5
      obtain ⟨G_c5, s_c5, e_c5, O⟩ := Own.fix (by walk_at "as") n_c5
      walk_at "ax"
      have g5 : G_c5 c5 = some (.lst (txR [cs "a"])) := e_c5
      have w5 : wavN (cs "b") [cs "a"] = 0 := by decide +kernel
      refine .mk O g5 (by decide) (by decide +kernel) (by decide +kernel) (by decide +kernel) (fun _ G6 H6 s6 O => ?_) (fun h => absurd h (by omega))
      have hhs : ∀ q ∈ hs, HeldO G6 q := fun q hq => (hh1 q hq).up (by walk_at "sm")
      obtain ⟨G7, s7, e7, O⟩ := O.frz
      walk_at "ax"
      refine i_listK c ?_
      walk_at "ax"
      refine ⟨hd, _, rfl, .of (hp_up O e7), ?_⟩
      refine lc_list (xs := hs.map V.ref) (fun _ acc _ C' => acc = [] ∧ [] = C') c rfl (.of e7) (by rw [List.length_map]; have := List.length_map (as := ts) V.ref; omega) O ⟨rfl, rfl⟩ ?_ ?_
      · rintro m v acc G8 C8 B H8 hv ⟨rfl, rfl⟩ O s8 X' c
        obtain ⟨q9, hq9, rfl⟩ := map_ref hv
        obtain ⟨a1, b1, ns1, k1, k2, k3, k4⟩ := ((hhs q9 (List.mem_of_getElem? hq9)).up s7).up s8
        simp only [wipe, List.set]
        walk_at "ax"
        refine ⟨rfl, fun X' c => ?_⟩
        refine ts_one ?_
        walk_at "ax"
        refine o_neLI c (ns := ns1.map fun (k : Nat) => ((k : Nat) : Int)) (ms := ns1.map fun (k : Nat) => ((k : Nat) : Int)) (.of (by rw [List.map_map]; exact hp_up O k2)) (.of (by rw [List.map_map]; exact hp_up O k3)) ?_
        rw [decide_eq_true rfl]
        walk_at "ax"
        exact ⟨_, _, O, same_rfl, by simp, rfl⟩
      rintro acc G8 C8 B H8 hl9 ⟨rfl, rfl⟩ O s8
      obtain ⟨G9, s9, eB, O⟩ := O.frz
      walk_at "ax"
      intro p9 H_p9 n_p9
      obtain ⟨G_p9, s_p9, e_p9, O⟩ := Own.fix (by walk_at "as") n_p9
      walk_at "ax"
      refine o_eqLI c (ns := []) (ms := []) (.of (hp_up O (show G_p9 B = some (.lst []) by walk_at "gp"))) (.of (hp_up O e_p9)) ?_
      rw [decide_eq_true rfl]
      walk_at "ax"
      exact q _))) only [↓fn_ok]
theorem cal_law (T : Env K mg) : Cal P w K mg base 4 "law" (Sp_law K) := cal_of T.d_law fun F => ok_law T F
end

end Law

namespace Law
open PySem PySem.Spec PyProof.Rows L2 Go
theorem env_mk {K : PySem.W.Frag} {h : Heap} {mg : Str → Option Value} {f0 f1 f2 f3 f4 f5 f6 f7 f8 f9 f10 f11 f12 : Addr} (X : K.In h) (G : h.Ns mainGlobals mg)
    {od0 an0 : Option Addr} {sl0 : Array (Option Value)} {oc0 kV0 dc0 pm0 cd0 ct0 : Value}
    (a0 : PySem.W.nsIn K mainGlobals "taken_so" = some (some (.ref f0))) (l0 : K.lookup f0 = some ⟨oc0, od0, .func (PySem.W.fnOf "taken_so" "taken_so" (defArgs st_taken_so) (defBody st_taken_so) (defScope st_taken_so) .none kV0 dc0 pm0 an0 cd0 ct0), sl0⟩) (c0 : PySem.W.codeIn K cd0 "taken_so" = true) (k0 : PySem.W.keepIn K (.ref f0) = true)
    {od1 an1 : Option Addr} {sl1 : Array (Option Value)} {oc1 kV1 dc1 pm1 cd1 ct1 : Value}
    (a1 : PySem.W.nsIn K mainGlobals "way_of" = some (some (.ref f1))) (l1 : K.lookup f1 = some ⟨oc1, od1, .func (PySem.W.fnOf "way_of" "way_of" (defArgs st_way_of) (defBody st_way_of) (defScope st_way_of) .none kV1 dc1 pm1 an1 cd1 ct1), sl1⟩) (c1 : PySem.W.codeIn K cd1 "way_of" = true) (k1 : PySem.W.keepIn K (.ref f1) = true)
    {od2 an2 : Option Addr} {sl2 : Array (Option Value)} {oc2 kV2 dc2 pm2 cd2 ct2 : Value}
    (a2 : PySem.W.nsIn K mainGlobals "_law_hand" = some (some (.ref f2))) (l2 : K.lookup f2 = some ⟨oc2, od2, .func (PySem.W.fnOf "_law_hand" "_law_hand" (defArgs st_law_hand) (defBody st_law_hand) (defScope st_law_hand) .none kV2 dc2 pm2 an2 cd2 ct2), sl2⟩) (c2 : PySem.W.codeIn K cd2 "_law_hand" = true) (k2 : PySem.W.keepIn K (.ref f2) = true)
    {od3 an3 : Option Addr} {sl3 : Array (Option Value)} {oc3 kV3 dc3 pm3 cd3 ct3 : Value}
    (a3 : PySem.W.nsIn K mainGlobals "_law_draw" = some (some (.ref f3))) (l3 : K.lookup f3 = some ⟨oc3, od3, .func (PySem.W.fnOf "_law_draw" "_law_draw" (defArgs st_law_draw) (defBody st_law_draw) (defScope st_law_draw) .none kV3 dc3 pm3 an3 cd3 ct3), sl3⟩) (c3 : PySem.W.codeIn K cd3 "_law_draw" = true) (k3 : PySem.W.keepIn K (.ref f3) = true)
    {od4 an4 : Option Addr} {sl4 : Array (Option Value)} {oc4 kV4 dc4 pm4 cd4 ct4 : Value}
    (a4 : PySem.W.nsIn K mainGlobals "_law_cells" = some (some (.ref f4))) (l4 : K.lookup f4 = some ⟨oc4, od4, .func (PySem.W.fnOf "_law_cells" "_law_cells" (defArgs st_law_cells) (defBody st_law_cells) (defScope st_law_cells) .none kV4 dc4 pm4 an4 cd4 ct4), sl4⟩) (c4 : PySem.W.codeIn K cd4 "_law_cells" = true) (k4 : PySem.W.keepIn K (.ref f4) = true)
    {od5 an5 : Option Addr} {sl5 : Array (Option Value)} {oc5 kV5 dc5 pm5 cd5 ct5 : Value}
    (a5 : PySem.W.nsIn K mainGlobals "_law_pool" = some (some (.ref f5))) (l5 : K.lookup f5 = some ⟨oc5, od5, .func (PySem.W.fnOf "_law_pool" "_law_pool" (defArgs st_law_pool) (defBody st_law_pool) (defScope st_law_pool) .none kV5 dc5 pm5 an5 cd5 ct5), sl5⟩) (c5 : PySem.W.codeIn K cd5 "_law_pool" = true) (k5 : PySem.W.keepIn K (.ref f5) = true)
    {od6 an6 : Option Addr} {sl6 : Array (Option Value)} {oc6 kV6 dc6 pm6 cd6 ct6 : Value}
    (a6 : PySem.W.nsIn K mainGlobals "_law_row" = some (some (.ref f6))) (l6 : K.lookup f6 = some ⟨oc6, od6, .func (PySem.W.fnOf "_law_row" "_law_row" (defArgs st_law_row) (defBody st_law_row) (defScope st_law_row) .none kV6 dc6 pm6 an6 cd6 ct6), sl6⟩) (c6 : PySem.W.codeIn K cd6 "_law_row" = true) (k6 : PySem.W.keepIn K (.ref f6) = true)
    {od7 an7 : Option Addr} {sl7 : Array (Option Value)} {oc7 kV7 dc7 pm7 cd7 ct7 : Value}
    (a7 : PySem.W.nsIn K mainGlobals "_law_rows" = some (some (.ref f7))) (l7 : K.lookup f7 = some ⟨oc7, od7, .func (PySem.W.fnOf "_law_rows" "_law_rows" (defArgs st_law_rows) (defBody st_law_rows) (defScope st_law_rows) .none kV7 dc7 pm7 an7 cd7 ct7), sl7⟩) (c7 : PySem.W.codeIn K cd7 "_law_rows" = true) (k7 : PySem.W.keepIn K (.ref f7) = true)
    {od8 an8 : Option Addr} {sl8 : Array (Option Value)} {oc8 kV8 dc8 pm8 cd8 ct8 : Value}
    (a8 : PySem.W.nsIn K mainGlobals "_law_text" = some (some (.ref f8))) (l8 : K.lookup f8 = some ⟨oc8, od8, .func (PySem.W.fnOf "_law_text" "_law_text" (defArgs st_law_text) (defBody st_law_text) (defScope st_law_text) .none kV8 dc8 pm8 an8 cd8 ct8), sl8⟩) (c8 : PySem.W.codeIn K cd8 "_law_text" = true) (k8 : PySem.W.keepIn K (.ref f8) = true)
    {od9 an9 : Option Addr} {sl9 : Array (Option Value)} {oc9 kV9 dc9 pm9 cd9 ct9 : Value}
    (a9 : PySem.W.nsIn K mainGlobals "_law_layers" = some (some (.ref f9))) (l9 : K.lookup f9 = some ⟨oc9, od9, .func (PySem.W.fnOf "_law_layers" "_law_layers" (defArgs st_law_layers) (defBody st_law_layers) (defScope st_law_layers) .none kV9 dc9 pm9 an9 cd9 ct9), sl9⟩) (c9 : PySem.W.codeIn K cd9 "_law_layers" = true) (k9 : PySem.W.keepIn K (.ref f9) = true)
    {od10 an10 : Option Addr} {sl10 : Array (Option Value)} {oc10 kV10 dc10 pm10 cd10 ct10 : Value}
    (a10 : PySem.W.nsIn K mainGlobals "_law_due" = some (some (.ref f10))) (l10 : K.lookup f10 = some ⟨oc10, od10, .func (PySem.W.fnOf "_law_due" "_law_due" (defArgs st_law_due) (defBody st_law_due) (defScope st_law_due) .none kV10 dc10 pm10 an10 cd10 ct10), sl10⟩) (c10 : PySem.W.codeIn K cd10 "_law_due" = true) (k10 : PySem.W.keepIn K (.ref f10) = true)
    {od11 an11 : Option Addr} {sl11 : Array (Option Value)} {oc11 kV11 dc11 pm11 cd11 ct11 : Value}
    (a11 : PySem.W.nsIn K mainGlobals "_law_right" = some (some (.ref f11))) (l11 : K.lookup f11 = some ⟨oc11, od11, .func (PySem.W.fnOf "_law_right" "_law_right" (defArgs st_law_right) (defBody st_law_right) (defScope st_law_right) .none kV11 dc11 pm11 an11 cd11 ct11), sl11⟩) (c11 : PySem.W.codeIn K cd11 "_law_right" = true) (k11 : PySem.W.keepIn K (.ref f11) = true)
    {od12 an12 : Option Addr} {sl12 : Array (Option Value)} {oc12 kV12 dc12 pm12 cd12 ct12 : Value}
    (a12 : PySem.W.nsIn K mainGlobals "law" = some (some (.ref f12))) (l12 : K.lookup f12 = some ⟨oc12, od12, .func (PySem.W.fnOf "law" "law" (defArgs st_law) (defBody st_law) (defScope st_law) .none kV12 dc12 pm12 an12 cd12 ct12), sl12⟩) (c12 : PySem.W.codeIn K cd12 "law" = true) (k12 : PySem.W.keepIn K (.ref f12) = true)
    (z_bool : PySem.W.nsIn K mainGlobals "bool" = some none)
    (z_enumerate : PySem.W.nsIn K mainGlobals "enumerate" = some none)
    (z_int : PySem.W.nsIn K mainGlobals "int" = some none)
    (z_isinstance : PySem.W.nsIn K mainGlobals "isinstance" = some none)
    (z_len : PySem.W.nsIn K mainGlobals "len" = some none)
    (z_list : PySem.W.nsIn K mainGlobals "list" = some none)
    (z_range : PySem.W.nsIn K mainGlobals "range" = some none)
    (z_tuple : PySem.W.nsIn K mainGlobals "tuple" = some none)
    : Env K mg :=
  { d_taken_so := df_mk X G a0 l0 c0 k0 (fun _ _ _ _ _ _ us hl => match us, hl with | [_, _], _ => rfl),
    d_way_of := df_mk X G a1 l1 c1 k1 (fun _ _ _ _ _ _ us hl => match us, hl with | [_, _], _ => rfl),
    d_law_hand := df_mk X G a2 l2 c2 k2 (fun _ _ _ _ _ _ us hl => match us, hl with | [_, _], _ => rfl),
    d_law_draw := df_mk X G a3 l3 c3 k3 (fun _ _ _ _ _ _ us hl => match us, hl with | [_, _], _ => rfl),
    d_law_cells := df_mk X G a4 l4 c4 k4 (fun _ _ _ _ _ _ us hl => match us, hl with | [_, _], _ => rfl),
    d_law_pool := df_mk X G a5 l5 c5 k5 (fun _ _ _ _ _ _ us hl => match us, hl with | [_], _ => rfl),
    d_law_row := df_mk X G a6 l6 c6 k6 (fun _ _ _ _ _ _ us hl => match us, hl with | [_, _, _], _ => rfl),
    d_law_rows := df_mk X G a7 l7 c7 k7 (fun _ _ _ _ _ _ us hl => match us, hl with | [_, _], _ => rfl),
    d_law_text := df_mk X G a8 l8 c8 k8 (fun _ _ _ _ _ _ us hl => match us, hl with | [_, _], _ => rfl),
    d_law_layers := df_mk X G a9 l9 c9 k9 (fun _ _ _ _ _ _ us hl => match us, hl with | [_, _], _ => rfl),
    d_law_due := df_mk X G a10 l10 c10 k10 (fun _ _ _ _ _ _ us hl => match us, hl with | [_, _], _ => rfl),
    d_law_right := df_mk X G a11 l11 c11 k11 (fun _ _ _ _ _ _ us hl => match us, hl with | [_, _, _], _ => rfl),
    d_law := df_mk X G a12 l12 c12 k12 (fun _ _ _ _ _ _ us hl => match us, hl with | [_], _ => rfl),
    b_bool := PySem.W.mg_none_of X G z_bool,
    b_enumerate := PySem.W.mg_none_of X G z_enumerate,
    b_int := PySem.W.mg_none_of X G z_int,
    b_isinstance := PySem.W.mg_none_of X G z_isinstance,
    b_len := PySem.W.mg_none_of X G z_len,
    b_list := PySem.W.mg_none_of X G z_list,
    b_range := PySem.W.mg_none_of X G z_range,
    b_tuple := PySem.W.mg_none_of X G z_tuple }
theorem walk {l : PySem.W.OpenLaw} {q : Program} {loose : List Str} {XP : (Str → Option Value) → Heap → Prop} {YP : World → Heap → Prop} {d : DefRec} {K : Params → PySem.W.Frag} (hn : l.most = some 63) (hdf : d.params.defaults = [])
    (hY : ∀ (w : World) (h : Heap), YP w h → (K w.params).In h) (F : ∀ (w : World) (mg : Str → Option Value) (fa : Addr) (h : Heap), (K w.params).In h → h.Ns mainGlobals mg → mg d.name = some (.ref fa) → d.name = "law" ∧ Env (K w.params) mg) :
    PySem.W.WalkO q loose XP YP l.row.toRowW d [] (fun f vs => PySem.call f vs) :=
  L2.walk_of (n := 63) (k := 4) (x := "script") (CX := fun _ => CX0) (sp := fun w => Sp_law (K w.params)) hn (by decide) hdf ⟨rfl, by decide, by decide⟩ hY
    (fun w mg fa h KX G hf => by
      obtain ⟨e, T⟩ := F w mg fa h KX G hf
      rw [e] at hf
      exact law_fn T.d_law hf (fun F => ok_law T F))
    (fun _ _ a ns hl _ hS => Sp_law.mk hS hl fun _ => rfl) fun _ _ _ _ _ z => z
end Law
open PySem PySem.W PyProof.Rows in
set_option maxRecDepth 100000 in
set_option maxHeartbeats 0 in
theorem PySem.Challenge.cw_wovenword_k23_first_ways_of_several_holds : PySem.Challenge.rw_wovenword_k23_first_ways_of_several.Holds := by
  w_on; o_law; k_head; (case hw => w_witness2)
  k_fill
  refine Law.walk (l := PySem.Challenge.rw_wovenword_k23_first_ways_of_several) rfl rfl (fun w h Y => PySem.W.kIn_of Y) ?F
  case F =>
    intro w mg fa h KX G hmg
    refine ⟨rfl, ?_⟩
    refine' Law.env_mk KX G (a0 := ?a0) (l0 := ?l0) (c0 := ?c0) (k0 := ?k0) (a1 := ?a1) (l1 := ?l1) (c1 := ?c1) (k1 := ?k1) (a2 := ?a2) (l2 := ?l2) (c2 := ?c2) (k2 := ?k2) (a3 := ?a3) (l3 := ?l3) (c3 := ?c3) (k3 := ?k3) (a4 := ?a4) (l4 := ?l4) (c4 := ?c4) (k4 := ?k4) (a5 := ?a5) (l5 := ?l5) (c5 := ?c5) (k5 := ?k5) (a6 := ?a6) (l6 := ?l6) (c6 := ?c6) (k6 := ?k6) (a7 := ?a7) (l7 := ?l7) (c7 := ?c7) (k7 := ?k7) (a8 := ?a8) (l8 := ?l8) (c8 := ?c8) (k8 := ?k8) (a9 := ?a9) (l9 := ?l9) (c9 := ?c9) (k9 := ?k9) (a10 := ?a10) (l10 := ?l10) (c10 := ?c10) (k10 := ?k10) (a11 := ?a11) (l11 := ?l11) (c11 := ?c11) (k11 := ?k11) (a12 := ?a12) (l12 := ?l12) (c12 := ?c12) (k12 := ?k12) (z_bool := ?z_bool) (z_enumerate := ?z_enumerate) (z_int := ?z_int) (z_isinstance := ?z_isinstance) (z_len := ?z_len) (z_list := ?z_list) (z_range := ?z_range) (z_tuple := ?z_tuple)
    (case a0 => k_is)
    (case l0 => k_is)
    (case c0 => k_is)
    (case k0 => k_is)
    (case a1 => k_is)
    (case l1 => k_is)
    (case c1 => k_is)
    (case k1 => k_is)
    (case a2 => k_is)
    (case l2 => k_is)
    (case c2 => k_is)
    (case k2 => k_is)
    (case a3 => k_is)
    (case l3 => k_is)
    (case c3 => k_is)
    (case k3 => k_is)
    (case a4 => k_is)
    (case l4 => k_is)
    (case c4 => k_is)
    (case k4 => k_is)
    (case a5 => k_is)
    (case l5 => k_is)
    (case c5 => k_is)
    (case k5 => k_is)
    (case a6 => k_is)
    (case l6 => k_is)
    (case c6 => k_is)
    (case k6 => k_is)
    (case a7 => k_is)
    (case l7 => k_is)
    (case c7 => k_is)
    (case k7 => k_is)
    (case a8 => k_is)
    (case l8 => k_is)
    (case c8 => k_is)
    (case k8 => k_is)
    (case a9 => k_is)
    (case l9 => k_is)
    (case c9 => k_is)
    (case k9 => k_is)
    (case a10 => k_is)
    (case l10 => k_is)
    (case c10 => k_is)
    (case k10 => k_is)
    (case a11 => k_is)
    (case l11 => k_is)
    (case c11 => k_is)
    (case k11 => k_is)
    (case a12 => k_is)
    (case l12 => k_is)
    (case c12 => k_is)
    (case k12 => k_is)
    (case z_bool => k_is)
    (case z_enumerate => k_is)
    (case z_int => k_is)
    (case z_isinstance => k_is)
    (case z_len => k_is)
    (case z_list => k_is)
    (case z_range => k_is)
    (case z_tuple => k_is)
