import PyProof.Rows.All
import Wide.All
import OpenK.AllK
import Wide.FinOn
import PyProof.EqAt
import PyProof.EqKinds
import PyProof.TupleCall
import PyProof.ListStr
import PyProof.StrOps2
import KE.KItemsList
import KE.KDictItemsList
import KE.KRevSl
import KE.KEqSeq
import HandS.Base
import HandS.Call
import HandS.List
import HandS.Comp
import HandS.Ends
import HandS.Dict
import HandS.Iter
import HandS.Text
import HandS.Words
import HandS.WordsList
import HandS.Codes
import HandS.Walk
import HandS.Style
import HandS.IsInst
import HandS.SortInts
import HandS.Conv
import HandS.ListItems
import KE.KDictDisplayH
import HandS.TupLen
import PyProof.Draws
import PyProof.EnumMake
import PyProof.EnumFor
import KE.GoesMore
import KE.DataEq
import PyProof.StrLawsIn
import HandS.Replace
import KE.GoesZip
import KE.DatumOrd
import PyProof.Claim2Refuses
import HandS.NoneIn
import HandS.SetFor
import HandS.Strs
import HandS.More
import HandS.Exc
import HandS.TryOnly
import HandS.ExcOwn
import HandS.WordsExc
import HandS.ExcIs
import HandS.ExcValue
import PyProof.ReprRoads
import PyProof.ReprBulk
import KE.GoesRaise
import HandS.ReplaceLit
import PyProof.Rows.StrStrike
import PySem.Challenge.RW_wovenword_k48_texts_of_no_paper
set_option Elab.async false
set_option linter.all false
set_option maxRecDepth 100000
set_option autoImplicit false
set_option maxHeartbeats 4000000

namespace Go
open PySem PySem.Spec PyProof.Rows L2

/-! judgements with their reading found on the way -/
structure eS (X : Cx) (e : Expr) (σ : L2.St) (H : Hp) (Q : VK) : Prop where
  ex : ∃ t, PE X e t ∧ t σ H Q
structure qS (X : Cx) (e : Expr) (σ : L2.St) (H : Hp) (Q : Bool → Hp → Prop) : Prop where
  ex : ∃ t, PT X e t ∧ t σ H Q
structure wS (X : Cx) (e : Expr) (σ : L2.St) (H : Hp) (Q : Bool → Hp → Prop) : Prop where
  ex : ∃ t, PW X e t ∧ t σ H Q
structure aS (X : Cx) (es : List Expr) (σ : L2.St) (H : Hp) (Q : List V → Hp → Prop) : Prop where
  ex : ∃ t, PA X es t ∧ t σ H Q
structure sS (X : Cx) (st : Stmt) (D : Ends) (σ : L2.St) (H : Hp) : Prop where
  ex : ∃ t, PS X st t ∧ t D σ H
structure bS (X : Cx) (sts : List Stmt) (D : Ends) (σ : L2.St) (H : Hp) : Prop where
  ex : ∃ t, PSs X sts t ∧ t D σ H
structure gS (X : Cx) (tg : Expr) (v : V) (σ : L2.St) (H : Hp) (Q : L2.St → Hp → Prop) : Prop where
  ex : ∃ t, PG X tg t ∧ t v σ H Q
structure gsS (X : Cx) (tg : List Expr) (v : List V) (σ : L2.St) (H : Hp) (Q : L2.St → Hp → Prop) : Prop where
  ex : ∃ t, PGs X tg t ∧ t v σ H Q
structure iS (X : Cx) (tg iter : Expr) (σ : L2.St) (H : Hp) (R : It → Hp → Prop) : Prop where
  ex : ∃ t, PI X tg iter t ∧ t σ H R
structure oS (X : Cx) (f : Value → Value → Sem Value) (x y : V) (H : Hp) (Q : VK) : Prop where
  ex : ∃ r, OpR X f r ∧ r x y H Q
structure uS (X : Cx) (f : Value → Sem Value) (x : V) (H : Hp) (Q : VK) : Prop where
  ex : ∃ r, UnR X f r ∧ r x H Q
structure cS (X : Cx) (f : Value) (vs : List V) (H : Hp) (Q : VK) : Prop where
  ex : ∃ r, CallR X f r ∧ r vs H Q
structure mS (X : Cx) (id : String) (x : V) (vs : List V) (H : Hp) (Q : VK) : Prop where
  ex : ∃ r, MtR X id r ∧ r x vs H Q
structure xS (X : Cx) (x y : V) (H : Hp) (Q : VK) : Prop where
  ex : ∃ r, IxR X r ∧ r x y H Q
structure lS (X : Cx) (x : V) (lo hi : Option Int) (H : Hp) (Q : VK) : Prop where
  ex : ∃ r, SlR X r ∧ r x lo hi H Q
structure tS (X : Cx) (x : V) (H : Hp) (Q : Bool → Hp → Prop) : Prop where
  ex : ∃ r, TruR X r ∧ r x H Q
structure pS (X : Cx) (o i v : V) (H : Hp) (Q : Hp → Prop) : Prop where
  ex : ∃ t, PSet X t ∧ t o i v H Q
structure poS (X : Cx) (e : Option Expr) (σ : L2.St) (H : Hp) (Q : Option Int → Hp → Prop) : Prop where
  ex : ∃ t, PO X e t ∧ t σ H Q

section
variable {X : Cx}
theorem eS_is {e : Expr} : PE X e (eS X e) := ⟨fun pins s σ H Q I ⟨_, p, h⟩ => p.run pins s σ H Q I h⟩
theorem qS_is {e : Expr} : PT X e (qS X e) := ⟨fun pins s σ H Q I ⟨_, p, h⟩ => p.run pins s σ H Q I h⟩
theorem wS_is {e : Expr} : PW X e (wS X e) := ⟨fun wh pins s σ H Q I ⟨_, p, h⟩ => p.run wh pins s σ H Q I h⟩
theorem aS_is {es : List Expr} : PA X es (aS X es) := ⟨fun pos pins s σ H Q I ⟨_, p, h⟩ => p.run pos pins s σ H Q I h⟩
theorem sS_is {st : Stmt} : PS X st (sS X st) := ⟨fun pins s σ H D I ⟨_, p, h⟩ => p.run pins s σ H D I h⟩
theorem bS_is {sts : List Stmt} : PSs X sts (bS X sts) := ⟨fun pins s σ H D I ⟨_, p, h⟩ => p.run pins s σ H D I h⟩
theorem gS_is {tg : Expr} : PG X tg (gS X tg) := ⟨fun pins s σ H v u Q I r ⟨_, p, h⟩ => p.run pins s σ H v u Q I r h⟩
theorem gsS_is {tg : List Expr} : PGs X tg (gsS X tg) := ⟨fun pins s σ H v u Q I r ⟨_, p, h⟩ => p.run pins s σ H v u Q I r h⟩
theorem iS_is {tg it : Expr} : PI X tg it (iS X tg it) := ⟨fun pins s σ H R I ⟨_, p, h⟩ => p.run pins s σ H R I h⟩
theorem oS_is {f : Value → Value → Sem Value} : OpR X f (oS X f) := fun pins s σ H x y v u Q I rx ry ⟨_, p, h⟩ => p pins s σ H x y v u Q I rx ry h
theorem uS_is {f : Value → Sem Value} : UnR X f (uS X f) := fun pins s σ H x v Q I rx ⟨_, p, h⟩ => p pins s σ H x v Q I rx h
theorem cS_is {f : Value} : CallR X f (cS X f) := fun pins s σ H xs us Q I r ⟨_, p, h⟩ => p pins s σ H xs us Q I r h
theorem mS_is {id : String} : MtR X id (mS X id) := fun pins s σ H x xs v us Q I r rs ⟨_, p, h⟩ => p pins s σ H x xs v us Q I r rs h
theorem xS_is : IxR X (xS X) := fun va sl pins s σ H x y v u Q I r rs ⟨_, p, h⟩ e => p va sl pins s σ H x y v u Q I r rs h e
theorem lS_is : SlR X (lS X) := fun pins s σ H x v vl vu lo hi sl Q I r a b c ⟨_, p, h⟩ => p pins s σ H x v vl vu lo hi sl Q I r a b c h
theorem tS_is : TruR X (tS X) := fun pins s σ H x v Q I r ⟨_, p, h⟩ => p pins s σ H x v Q I r h
theorem pS_is : PSet X (pS X) := fun pins s σ H o i v ov iv u Q I a b c ⟨_, p, h⟩ => p pins s σ H o i v ov iv u Q I a b c h
theorem poS_is {e : Option Expr} : PO X e (poS X e) := ⟨fun pins s σ H Q I ⟨_, p, h⟩ => p.run pins s σ H Q I h⟩
end

theorem eS_mono {X : Cx} {e : Expr} {σ : L2.St} {H : Hp} {Q Q' : VK} (h : eS X e σ H Q) (m : ∀ v H, Q v H → Q' v H) : eS X e σ H Q' := by
  obtain ⟨t, p, h⟩ := h
  exact ⟨fun σ H R => ∃ Q, t σ H Q ∧ ∀ v H, Q v H → R v H, ⟨fun pins s σ H R I ⟨Q, h, m⟩ => thn (p.run pins s σ H Q I h) fun u s' ⟨v, H', I', r, q⟩ => ⟨v, H', I', r, m v H' q⟩⟩, Q, h, m⟩
theorem aS_mono {X : Cx} {es : List Expr} {σ : L2.St} {H : Hp} {T T' : List V → Hp → Prop} (h : aS X es σ H T) (m : ∀ v H, T v H → T' v H) : aS X es σ H T' := by
  obtain ⟨t, p, h⟩ := h
  exact ⟨fun σ H R => ∃ Q, t σ H Q ∧ ∀ v H, Q v H → R v H, ⟨fun pos pins s σ H R I ⟨Q, h, m⟩ => thn (p.run pos pins s σ H Q I h) fun u s' ⟨v, H', I', r, q⟩ => ⟨v, H', I', r, m v H' q⟩⟩, T, h, m⟩
theorem qS_mono {X : Cx} {e : Expr} {σ : L2.St} {H : Hp} {R R' : Bool → Hp → Prop} (h : qS X e σ H R) (m : ∀ v H, R v H → R' v H) : qS X e σ H R' := by
  obtain ⟨t, p, h⟩ := h
  exact ⟨fun σ H R => ∃ Q, t σ H Q ∧ ∀ v H, Q v H → R v H, ⟨fun pins s σ H R I ⟨Q, h, m⟩ => thn (p.run pins s σ H Q I h) fun u s' ⟨H', I', q⟩ => ⟨H', I', m u H' q⟩⟩, R, h, m⟩
/-- H' is H with a new object o at p -/
structure New (H : Hp) (p : Addr) (o : HO) (H' : Hp) : Prop where
  nw : H p = none
  eq : H' = upd H p o
/-- a name's place -/
inductive Ix : List Str → Str → Nat → Prop
  | here {x : Str} {l : List Str} : Ix (x :: l) x 0
  | there {x y : Str} {l : List Str} {i : Nat} : Ix l x i → Ix (y :: l) x (i + 1)
theorem Ix.get : ∀ {l : List Str} {x : Str} {i : Nat}, Ix l x i → l[i]? = some x
  | _, _, _, .here => rfl
  | _, _, _, .there h => by simpa using h.get

def visB (nm : List (Str × NameKind)) (x : Str) : Bool := (nm.lookup x == some .local || nm.lookup x == some .cell || nm.lookup x == some .free) && !(x == "__debug__") && !(x == "__classdict__")
def locB (nm : List (Str × NameKind)) (x : Str) : Bool := nm.lookup x == some .local || nm.lookup x == some .cell
def glB (nm : List (Str × NameKind)) (x : Str) : Bool := nm.lookup x == some .globalImplicit && !(x == "__debug__") && !(x == "__name__")

def scOf (nm : List (Str × NameKind)) : Scope := { kind := .function, names := nm, isGenerator := false, isCoroutine := false }
/-- the place where one stands: nm tells the kinds of the names of the def or block -/
structure CI (X : Cx) (P : Program) (w : World) (K : PySem.W.Frag) (mg : Str → Option Value) (base : Heap) (N : List Str) (nm : List (Str × NameKind)) (j : Nat) : Prop where
  nd : N.Nodup
  lo : ∀ x, nm.lookup x = some NameKind.local → X.env.scope.names.lookup x = some NameKind.local
  ce : ∀ x, nm.lookup x = some NameKind.cell → X.env.scope.names.lookup x = some NameKind.cell ∧ X.fn x = true
  fr : ∀ x, nm.lookup x = some NameKind.free → X.env.scope.names.lookup x = some NameKind.cell ∨ X.env.scope.names.lookup x = some NameKind.free
  go : ∀ x, nm.lookup x = some NameKind.globalImplicit → X.env.scope.names.lookup x = some NameKind.globalImplicit
  N : X.N = N
  prog : X.prog = P
  w : X.w = w
  K : X.K = K
  mg : X.mg = mg
  base : X.base = base
  kind : X.env.scope.kind = ScopeKind.function
  calm : X.calm = true
  room : Room j X.A
  pass : PassesOwn (model X.prog X.w) X.A X.env X.xe

section
variable {X : Cx} {P : Program} {w : World} {K : PySem.W.Frag} {mg : Str → Option Value} {base : Heap} {N : List Str} {nm : List (Str × NameKind)} {j : Nat} {σ : L2.St} {H : Hp} {Q : VK} {D : Ends} {pos : Pos}

theorem CI.vis (c : CI X P w K mg base N nm j) {x : Str} (h : visB nm x = true) : Vis X.env.scope x := by
  unfold visB at h
  simp only [Bool.and_eq_true, Bool.or_eq_true, beq_iff_eq] at h
  rcases h with ⟨⟨(h | h) | h, _⟩, _⟩
  · exact .inl (c.lo x h)
  · exact .inr (.inl (c.ce x h).1)
  · exact .inr (c.fr x h)
theorem visB_d {x : Str} (h : visB nm x = true) : (x == ("__debug__" : Str)) = false := by
  unfold visB at h
  simp only [Bool.and_eq_true, Bool.not_eq_true'] at h
  exact h.1.2
theorem visB_c {x : Str} (h : visB nm x = true) : (x == ("__classdict__" : Str)) = false := by
  unfold visB at h
  simp only [Bool.and_eq_true, Bool.not_eq_true'] at h
  exact h.2
theorem CI.loc (c : CI X P w K mg base N nm j) {x : Str} (h : locB nm x = true) : L2.Loc X.env.scope x := by
  unfold locB at h
  simp only [Bool.or_eq_true, beq_iff_eq] at h
  rcases h with h | h
  · exact .inl (c.lo x h)
  · exact .inr (c.ce x h).1
theorem CI.fn (c : CI X P w K mg base N nm j) {x : Str} (h : locB nm x = true) : X.fn x = true ∨ X.env.scope.names.lookup x = some NameKind.local := by
  unfold locB at h
  simp only [Bool.or_eq_true, beq_iff_eq] at h
  rcases h with h | h
  · exact .inr (c.lo x h)
  · exact .inl (c.ce x h).2
theorem CI.gl (c : CI X P w K mg base N nm j) {x : Str} (h : glB nm x = true) : Gl X x := by
  unfold glB at h
  simp only [Bool.and_eq_true, beq_iff_eq] at h
  exact c.go x h.1.1
theorem CI.bok (c : CI X P w K mg base N nm j) {scope : Scope} {own : List (Str × Nat)} (h : BlkOk N (scOf nm) scope own) : BlkOk N X.env.scope scope own :=
  ⟨h.kind, h.uniq, h.ix, fun y hy e => (h.free y hy e).elim (fun q => .inl (c.ce _ q).1) fun q => c.fr _ q, h.own⟩
theorem glB_d {x : Str} (h : glB nm x = true) : (x == ("__debug__" : Str)) = false := by
  unfold glB at h
  simp only [Bool.and_eq_true, Bool.not_eq_true'] at h
  exact h.1.2
theorem glB_n {x : Str} (h : glB nm x = true) : x ≠ ("__name__" : Str) := by
  unfold glB at h
  simp only [Bool.and_eq_true, Bool.not_eq_true'] at h
  intro e
  subst e
  simp at h

/-! expressions -/
theorem g_name (c : CI X P w K mg base N nm j) {x : Str} {i : Nat} {v : V} (hi : Ix N x i) (hv : visB nm x = true) (hσ : σ[i]? = some (some v)) (h : Q v H) : eS X (.Name x pos) σ H Q :=
  ⟨_, pe_var (i := i) (by rw [c.N]; exact hi.get) (c.vis hv) (visB_d hv) (visB_c hv), v, hσ, h⟩
theorem g_int {i : Int} {k : Tok} (h : Q (.int i) H) : eS X (.Constant (.int i) k pos) σ H Q := ⟨_, pe_int, h⟩
theorem g_bool {b : Bool} {k} (h : Q (.bl b) H) : eS X (.Constant (.bool b) k pos) σ H Q := ⟨_, pe_bl, h⟩
theorem g_none {k} (h : Q .non H) : eS X (.Constant .none k pos) σ H Q := ⟨_, pe_non, h⟩
theorem g_str {x : Str} {k} (h : Q (.str x) H) : eS X (.Constant (.str x) k pos) σ H Q := ⟨_, pe_str, h⟩
theorem g_bin {a b : Expr} {op : Operator} (h : eS X a σ H fun x H1 => eS X b σ H1 fun y H2 => oS X (binaryOp op) x y H2 Q) : eS X (.BinOp a op b pos) σ H Q :=
  ⟨_, pe_op oS_is eS_is eS_is, h⟩
theorem g_cmp {a b : Expr} {op : CmpOp} (hm : behindInMarks op b = false) (h : eS X a σ H fun x H1 => eS X b σ H1 fun y H2 => oS X (compareOp op) x y H2 Q) : eS X (.Compare a [op] [b] pos) σ H Q :=
  ⟨_, pe_cmpR oS_is eS_is eS_is hm, h⟩
theorem g_ix {a b : Expr} (hs : PlainIx b) (h : eS X a σ H fun x H1 => eS X b σ H1 fun y H2 => xS X x y H2 Q) : eS X (.Subscript a b pos) σ H Q :=
  ⟨_, pe_ix xS_is eS_is eS_is hs, h⟩
theorem g_lst {es : List Expr} (h : aS X es σ H fun xs H1 => xs.length ≤ sizeLine ∧ ∀ p H2, New H1 p (.lst xs) H2 → Q (.ref p) H2) : eS X (.List es pos) σ H Q := ⟨_, pe_lst aS_is, aS_mono h fun xs H1 ⟨l, q⟩ => ⟨l, fun p hp => q p _ ⟨hp, rfl⟩⟩⟩
theorem g_tup {es : List Expr} {k} (h : aS X es σ H fun xs H1 => xs.length ≤ sizeLine ∧ ∀ p H2, New H1 p (.tup xs) H2 → Q (.ref p) H2) : eS X (.Tuple es k pos) σ H Q := ⟨_, pe_tup aS_is, aS_mono h fun xs H1 ⟨l, q⟩ => ⟨l, fun p hp => q p _ ⟨hp, rfl⟩⟩⟩
theorem g_nil {R : List V → Hp → Prop} (h : R [] H) : aS X [] σ H R := ⟨_, pa_nil, h⟩
theorem g_cons {R : List V → Hp → Prop} {e : Expr} {es : List Expr} (he : starEach (e :: es) X.env = (false, eval e X.env) :: starEach es X.env) (h : eS X e σ H fun x H1 => aS X es σ H1 fun xs H2 => R (x :: xs) H2) : aS X (e :: es) σ H R := ⟨_, pa_cons eS_is aS_is he, h⟩
/-! statements -/
theorem g_nx (h : D.nx σ H) : bS X [] D σ H := ⟨_, pss_nil, h⟩
theorem g_st {st : Stmt} {rest : List Stmt} (h : sS X st { D with nx := fun σ' H' => bS X rest D σ' H' } σ H) : bS X (st :: rest) D σ H := ⟨_, pss_cons sS_is bS_is, h⟩
theorem g_ret {e : Expr} (h : eS X e σ H D.rt) : sS X (.Return (some e) pos) D σ H := ⟨_, ps_ret eS_is, h⟩
theorem g_set (c : CI X P w K mg base N nm j) {x : Str} {i : Nat} {e : Expr} {pos' : Pos} (hs : swapsWith e (some (.Name x pos')) pos.line X.env = pure false) (hi : Ix N x i) (hl : locB nm x = true) (h : eS X e σ H fun v H1 => D.nx (σ.set i (some v)) H1) : sS X (.Assign [.Name x pos'] e pos) D σ H :=
  ⟨_, ps_set (i := i) (by rw [c.N]; exact c.nd) (by rw [c.N]; exact hi.get) (c.loc hl) eS_is hs (c.fn hl), h⟩
theorem g_asg {e tg : Expr} (h1 : List.map (fun x => x.snd) (assignEach [tg] X.env) = [assign tg X.env]) (hs : swapsWithSole [tg] e pos.line X.env = pure false) (hw : swappedStores [tg] e X.env = pure none) (h : eS X e σ H fun v H1 => gS X tg v σ H1 D.nx) : sS X (.Assign [tg] e pos) D σ H :=
  ⟨_, ps_asg eS_is gS_is hs hw h1, h⟩
def SubOk (X : Cx) (o i : Expr) (pos : Pos) : Prop := ∀ v, assign (.Subscript o i pos) X.env v = (do let ov ← holding [v] (eval o X.env); let iv ← holding [v, ov] (eval i X.env); standAt pos; holding [v, ov, iv] (setItem ov iv v); release [v, ov, iv] [])
theorem g_sub {o i : Expr} {v : V} {R : L2.St → Hp → Prop} (ha : SubOk X o i pos) (h : eS X o σ H fun x H1 => eS X i σ H1 fun y H2 => pS X x y v H2 fun H3 => R σ H3) : gS X (.Subscript o i pos) v σ H R :=
  ⟨_, pg_sub eS_is eS_is pS_is ha, h⟩
theorem g_if {t : Expr} {a b : List Stmt} (h : qS X t σ H fun k H1 => if k = true then bS X a D σ H1 else bS X b D σ H1) : sS X (.If t a b pos) D σ H := ⟨_, ps_if qS_is bS_is bS_is, h⟩
theorem g_qcmp {a b : Expr} {op : CmpOp} {R : Bool → Hp → Prop} (hm : behindInMarks op b = false) (h : eS X a σ H fun x H1 => eS X b σ H1 fun y H2 => oS X (compareOp op) x y H2 fun z H3 => ∃ k, z = .bl k ∧ R k H3) : qS X (.Compare a [op] [b] pos) σ H R :=
  ⟨_, pt_cmpR oS_is eS_is eS_is hm, h⟩
/-! operators by values -/
theorem o_add {i k : Int} (h : Q (.int (i + k)) H) : oS X (binaryOp .Add) (.int i) (.int k) H Q := ⟨_, op_add, _, _, rfl, rfl, h⟩
theorem o_sub {i k : Int} (h : Q (.int (i - k)) H) : oS X (binaryOp .Sub) (.int i) (.int k) H Q := ⟨_, op_sub, _, _, rfl, rfl, h⟩
theorem o_mulR {i k : Int} (hb : -(2 ^ 64) < k ∧ k < 2 ^ 64) (h : Q (.int (i * k)) H) : oS X (binaryOp .Mult) (.int i) (.int k) H Q := ⟨_, op_mul, _, _, rfl, rfl, .inr hb, h⟩
theorem o_mulL {i k : Int} (hb : -(2 ^ 64) < i ∧ i < 2 ^ 64) (h : Q (.int (i * k)) H) : oS X (binaryOp .Mult) (.int i) (.int k) H Q := ⟨_, op_mul, _, _, rfl, rfl, .inl hb, h⟩
theorem o_mod {i k : Int} (hk : 0 < k) (h : Q (.int (i % k)) H) : oS X (binaryOp .Mod) (.int i) (.int k) H Q := ⟨_, op_mod, _, _, rfl, rfl, hk, h⟩
theorem o_div {i k : Int} (h1 : 0 < k) (h2 : k < 1073741824) (h : Q (.int (i / k)) H) : oS X (binaryOp .FloorDiv) (.int i) (.int k) H Q := ⟨_, op_fdiv, _, _, rfl, rfl, ⟨h1, h2⟩, h⟩
theorem o_pow {i k : Int} (h1 : 0 ≤ k ∧ k ≤ 1000000 ∧ i.natAbs < 2 ^ 64) (h : Q (.int (i ^ k.toNat)) H) : oS X (binaryOp .Pow) (.int i) (.int k) H Q := ⟨_, op_pow, _, _, rfl, rfl, h1, h⟩
theorem o_lt {i k : Int} (h : Q (.bl (decide (i < k))) H) : oS X (compareOp .Lt) (.int i) (.int k) H Q := ⟨_, op_lt, _, _, rfl, rfl, h⟩
theorem o_gt {i k : Int} (h : Q (.bl (decide (k < i))) H) : oS X (compareOp .Gt) (.int i) (.int k) H Q := ⟨_, op_gt, _, _, rfl, rfl, h⟩
theorem o_le {i k : Int} (h : Q (.bl (decide (i ≤ k))) H) : oS X (compareOp .LtE) (.int i) (.int k) H Q := ⟨_, op_le, _, _, rfl, rfl, h⟩
theorem o_ge {i k : Int} (h : Q (.bl (decide (k ≤ i))) H) : oS X (compareOp .GtE) (.int i) (.int k) H Q := ⟨_, op_ge, _, _, rfl, rfl, h⟩
theorem k_bl {k : Bool} {R : Bool → Hp → Prop} (h : R k H) : ∃ k', V.bl k = .bl k' ∧ R k' H := ⟨k, rfl, h⟩
/-- a test that is open -/
theorem i_dec {p : Prop} [Decidable p] {A B : Prop} (h1 : p → A) (h2 : ¬ p → B) : if decide p = true then A else B := by
  by_cases h : p
  · rw [if_pos (decide_eq_true h)]; exact h1 h
  · rw [if_neg (by simpa using h)]; exact h2 h
theorem x_lst (c : CI X P w K mg base N nm j) {p : Addr} {xs : List V} {i : Int} {v : V} (hp : SqL K H p xs) (ha : atI xs i = some v) (h : Q v H) : xS X (.ref p) (.int i) H Q := by
  have e := c.K
  subst e
  exact ⟨_, ix_list, _, _, _, _, rfl, rfl, hp, ha, h⟩
theorem p_lst {p : Addr} {xs : List V} {i : Int} {v : V} {R : Hp → Prop} {m : Nat} (hp : H p = some (.lst xs)) (hm : ixN xs.length i = some m) (h : R (upd H p (.lst (xs.set m v)))) : pS X (.ref p) (.int i) v H R := by
  exact ⟨_, set_list, _, _, _, _, rfl, rfl, hp, hm, h⟩
end
end Go

namespace Go
open PySem PySem.Spec PyProof.Rows L2

/-- the value that a name holds -/
inductive Get : List Str → L2.St → Str → V → Prop
  | here {x : Str} {l : List Str} {v : V} {s : L2.St} : Get (x :: l) (some v :: s) x v
  | there {x y : Str} {l : List Str} {o : Option V} {v : V} {s : L2.St} : Get l s x v → Get (y :: l) (o :: s) x v
/-- the i-th place is given a value -/
inductive Put : L2.St → Nat → V → L2.St → Prop
  | here {v : V} {o : Option V} {s : L2.St} : Put (o :: s) 0 v (some v :: s)
  | there {o : Option V} {i : Nat} {v : V} {s s' : L2.St} : Put s i v s' → Put (o :: s) (i + 1) v (o :: s')
theorem Get.ix : ∀ {l : List Str} {s : L2.St} {x : Str} {v : V}, Get l s x v → ∃ i : Nat, l[i]? = some x ∧ s[i]? = some (some v)
  | _, _, _, _, .here => ⟨0, rfl, rfl⟩
  | _, _, _, _, .there h => by obtain ⟨i, a, b⟩ := h.ix; exact ⟨i + 1, by simpa using a, by simpa using b⟩
theorem Put.eq : ∀ {s s' : L2.St} {i : Nat} {v : V}, Put s i v s' → s.set i (some v) = s'
  | _, _, _, _, .here => rfl
  | _, _, _, _, .there h => by rw [List.set_cons_succ, h.eq]

/-- what stands: G, for ever; the cells C, which may be written -/
structure Own (G : Hp) (C : List (Addr × HO)) (H : Hp) : Prop where
  same : Same G H
  own : ∀ p ∈ C, H p.1 = some p.2 ∧ G p.1 = none
  nd : (C.map (·.1)).Nodup

section
variable {G H : Hp} {C : List (Addr × HO)} {p : Addr} {o o' : HO} {Q : VK}
theorem Own.frees (O : Own G C H) (h : H p = none) : G p = none ∧ p ∉ C.map (·.1) := by
  refine ⟨O.same.free h, fun hp => ?_⟩
  obtain ⟨q, hq, e⟩ := List.mem_map.mp hp
  have z := (O.own q hq).1
  rw [e, h] at z
  cases z
theorem same_new (h : G p = none) : Same G (upd G p o) := fun b u e => by rw [upd_ne (ne_of_none e h)]; exact e
theorem Own.fz (O : Own G C H) (h : H p = none) : Own (upd G p o) C (upd H p o) := by
  obtain ⟨g, nc⟩ := O.frees h
  refine ⟨fun b u e => ?_, fun q hq => ?_, O.nd⟩
  · by_cases hb : b = p
    · subst hb; rw [upd_same] at e ⊢; exact e
    · rw [upd_ne hb] at e ⊢; exact O.same b u e
  · have hne : q.1 ≠ p := fun e => nc (List.mem_map.mpr ⟨q, hq, e⟩)
    rw [upd_ne hne, upd_ne hne]; exact O.own q hq
theorem Own.cell (O : Own G C H) (h : H p = none) : Own G ((p, o) :: C) (upd H p o) := by
  obtain ⟨g, nc⟩ := O.frees h
  refine ⟨fun b u e => by rw [upd_ne (ne_of_none e g)]; exact O.same b u e, fun q hq => ?_, List.nodup_cons.mpr ⟨nc, O.nd⟩⟩
  rcases List.mem_cons.mp hq with rfl | hq
  · exact ⟨upd_same, g⟩
  · have hne : q.1 ≠ p := fun e => nc (List.mem_map.mpr ⟨q, hq, e⟩)
    rw [upd_ne hne]; exact O.own q hq
theorem Own.write (O : Own G ((p, o) :: C) H) : Own G ((p, o') :: C) (upd H p o') := by
  have g := (O.own _ List.mem_cons_self).2
  have nc : p ∉ C.map (·.1) := (List.nodup_cons.mp O.nd).1
  refine ⟨fun b u e => by rw [upd_ne (ne_of_none e g)]; exact O.same b u e, fun q hq => ?_, O.nd⟩
  rcases List.mem_cons.mp hq with rfl | hq
  · exact ⟨upd_same, g⟩
  · have hne : q.1 ≠ p := fun e => nc (List.mem_map.mpr ⟨q, hq, e⟩)
    rw [upd_ne hne]; exact O.own q (List.mem_cons_of_mem _ hq)
theorem Own.at (O : Own G ((p, o) :: C) H) : H p = some o := (O.own _ List.mem_cons_self).1
theorem Own.swap {a b : Addr × HO} (O : Own G (a :: b :: C) H) : Own G (b :: a :: C) H :=
  ⟨O.same, fun q hq => O.own q (by simp only [List.mem_cons] at hq ⊢; rcases hq with h | h | h <;> simp [h]), by
    have n := O.nd
    simp only [List.map_cons, List.nodup_cons, List.mem_cons, not_or] at n ⊢
    exact ⟨⟨fun e => n.1.1 e.symm, n.2.1⟩, n.1.2, n.2.2⟩⟩
theorem Own.drop {a : Addr × HO} (O : Own G (a :: C) H) : Own G C H :=
  ⟨O.same, fun q hq => O.own q (List.mem_cons_of_mem _ hq), (List.nodup_cons.mp (by simpa using O.nd)).2⟩
theorem Own.freeze (O : Own G ((p, o) :: C) H) : Own (upd G p o) C H ∧ Same G (upd G p o) := by
  have g := (O.own _ List.mem_cons_self).2
  have nc : p ∉ C.map (·.1) := (List.nodup_cons.mp O.nd).1
  refine ⟨⟨fun b u e => ?_, fun q hq => ?_, (List.nodup_cons.mp O.nd).2⟩, same_new g⟩
  · by_cases hb : b = p
    · subst hb; rw [upd_same] at e; rw [← e]; exact O.at
    · rw [upd_ne hb] at e; exact O.same b u e
  · have hne : q.1 ≠ p := fun e => nc (List.mem_map.mpr ⟨q, hq, e⟩)
    rw [upd_ne hne]; exact O.own q (List.mem_cons_of_mem _ hq)
/-- a new object for good | a new cell | .. behind the first one -/
theorem Own.fix {H' : Hp} (O : Own G C H) (n : New H p o H') : ∃ G', Same G G' ∧ G' p = some o ∧ Own G' C H' := by
  obtain ⟨h, rfl⟩ := n
  exact ⟨_, same_new (O.frees h).1, upd_same, O.fz h⟩
/-- many new objects for good -/
theorem Own.all {H' : Hp} (O : Own G C H) (s : Same H H') : ∃ G', Same G G' ∧ Own G' C H' ∧ ∀ b u, H b = none → H' b = some u → G' b = some u := by
  refine ⟨fun b => if b ∈ C.map (·.1) then none else H' b, fun b u e => ?_, ⟨fun b u e => ?_, fun q hq => ?_, O.nd⟩, fun b u e1 e2 => ?_⟩
  · have hn : b ∉ C.map (·.1) := fun h => by
      obtain ⟨q, hq, e1⟩ := List.mem_map.mp h
      have z := (O.own q hq).2
      rw [e1, e] at z
      cases z
    show (if b ∈ C.map (·.1) then none else H' b) = some u
    rw [if_neg hn]
    exact s _ _ (O.same _ _ e)
  · have e : (if b ∈ C.map (·.1) then none else H' b) = some u := e
    by_cases hb : b ∈ C.map (·.1)
    · rw [if_pos hb] at e; cases e
    · rw [if_neg hb] at e; exact e
  · refine ⟨s _ _ (O.own q hq).1, ?_⟩
    show (if q.1 ∈ C.map (·.1) then none else H' q.1) = none
    rw [if_pos (List.mem_map.mpr ⟨q, hq, rfl⟩)]
  · have hn : b ∉ C.map (·.1) := (O.frees e1).2
    show (if b ∈ C.map (·.1) then none else H' b) = some u
    rw [if_neg hn]
    exact e2
theorem Own.more {H' : Hp} (O : Own G C H) (n : New H p o H') : Own G ((p, o) :: C) H' := by
  obtain ⟨h, rfl⟩ := n
  exact O.cell h
theorem Own.more2 {H' : Hp} {a : Addr × HO} (O : Own G (a :: C) H) (n : New H p o H') : Own G (a :: (p, o) :: C) H' := (O.more n).swap
end

section
variable {X : Cx} {P : Program} {w : World} {K : PySem.W.Frag} {mg : Str → Option Value} {base : Heap} {N : List Str} {nm : List (Str × NameKind)} {j : Nat} {σ σ' : L2.St} {H : Hp} {Q : VK} {D : Ends} {pos : Pos}
theorem e_name (c : CI X P w K mg base N nm j) {x : Str} {v : V} (hv : visB nm x = true) (hg : Get N σ x v) (h : Q v H) : eS X (.Name x pos) σ H Q := by
  obtain ⟨i, a, b⟩ := hg.ix
  exact ⟨_, pe_var (i := i) (by rw [c.N]; exact a) (c.vis hv) (visB_d hv) (visB_c hv), v, b, h⟩
theorem s_set (c : CI X P w K mg base N nm j) {x : Str} {i : Nat} {e : Expr} {pos' : Pos} (hs : swapsWith e (some (.Name x pos')) pos.line X.env = pure false) (hi : Ix N x i) (hl : locB nm x = true) (h : eS X e σ H fun v H1 => D.nx (σ.set i (some v)) H1) : sS X (.Assign [.Name x pos'] e pos) D σ H :=
  ⟨_, ps_set (i := i) (by rw [c.N]; exact c.nd) (by rw [c.N]; exact hi.get) (c.loc hl) eS_is hs (c.fn hl), h⟩
theorem n_put {i : Nat} {v : V} {sts : List Stmt} (h : Put σ i v σ') (k : bS X sts D σ' H) : bS X sts D (σ.set i (some v)) H := by rw [h.eq]; exact k
/-- into a def -/
theorem enter {x qual : Str} {st : Stmt} {f : Addr} {fd : FuncData} {ps : List Str} {sp : Sp} {k : Nat} (F : Fun K x qual st f fd) (S : FnScope N ps (defScope st)) (hnm : (defScope st).names = nm) (len : ∀ vs H Q E, sp vs H Q E → vs.length = ps.length)
    (body : ∀ (X : Cx) (H : Hp) (vs : List V) (Q : VK) (E : XK), CI X P w K mg base N nm k → sp vs H Q E → bS X (defBody st) { nx := fun _ H' => Q .non H', rt := Q } (start N vs) H) : FnOk P w K mg base CX0 (k + 1) f fd ps sp :=
  F.ok S len fun cdv A outer s H vs Q E hr h => ⟨_, bS_is, body _ H vs Q E ⟨S.nd, fun _ h => by rw [← hnm] at h; exact h, fun _ h => ⟨by rw [← hnm] at h; exact h, rfl⟩, fun _ h => .inr (by rw [← hnm] at h; exact h), fun _ h => by rw [← hnm] at h; exact h, rfl, rfl, rfl, rfl, rfl, rfl, S.kind, rfl, hr, PassesOwn.never⟩ h⟩
end
end Go

namespace Go
open PySem PySem.Spec PyProof.Rows L2

/-- a text by its codes -/
def S (l : List Nat) : Str := ⟨l.toArray⟩
def cs (x : Str) : List Nat := x.cps.toList
theorem S_cs (x : Str) : S (cs x) = x := by cases x; simp [S, cs]
theorem cs_S (l : List Nat) : cs (S l) = l := by simp [S, cs]
theorem S_len (l : List Nat) : (S l).length = l.length := by simp [S, Str.length]
theorem S_inj {a b : List Nat} : S a = S b ↔ a = b := ⟨fun h => by have := congrArg cs h; rwa [cs_S, cs_S] at this, fun h => by rw [h]⟩
theorem S_app (a b : List Nat) : S a ++ S b = S (a ++ b) := by
  show (⟨a.toArray ++ b.toArray⟩ : Str) = ⟨(a ++ b).toArray⟩
  simp

section
variable {X : Cx} {P : Program} {w : World} {K : PySem.W.Frag} {mg : Str → Option Value} {base : Heap} {N : List Str} {nm : List (Str × NameKind)} {j : Nat} {σ σ' : L2.St} {H : Hp} {Q : VK} {D : Ends} {pos p p2 apos : Pos} {a b e : Expr} {es : List Expr} {R : Bool → Hp → Prop}

theorem CI.hu (c : CI X P w K mg base N nm j) : X.A.units + 1 < cLine := hu_of c.room
theorem CI.u0 (c : CI X P w K mg base N nm j) : X.A.units < cLine := Nat.lt_of_succ_lt c.hu
theorem CI.u64 (c : CI X P w K mg base N nm j) : X.A.units + 64 < cLine := by have := c.room.un; omega

/-! constants, names -/
theorem e_str {x : Str} {k} (h : Q (.str (S (cs x))) H) : eS X (.Constant (.str x) k pos) σ H Q := ⟨_, pe_str, by rw [← S_cs x]; exact h⟩
theorem e_bltn (c : CI X P w K mg base N nm j) {x : Str} {v : V} {u : Value} (hg : glB nm x = true) (hm : mg x = none) (hv : bootBuiltins x = some u) (r : RelV v u) (h : Q v H) : eS X (.Name x pos) σ H Q :=
  ⟨_, pe_bltn (c.gl hg) (by rw [c.mg]; exact hm) hv r (glB_n hg) (glB_d hg), h⟩
theorem e_glob (c : CI X P w K mg base N nm j) {x : Str} {v : V} {u : Value} (hg : glB nm x = true) (hm : mg x = some u) (r : RelV v u) (h : Q v H) : eS X (.Name x pos) σ H Q :=
  ⟨_, ⟨fun _ _ _ H _ I h => ld_glob I (c.gl hg) (by rw [c.mg]; exact hm) ⟨v, H, I, r, h⟩ (glB_d hg)⟩, h⟩
theorem e_neg (h : eS X a σ H fun x H1 => uS X (unaryOp .USub) x H1 Q) : eS X (.UnaryOp .USub a pos) σ H Q := ⟨_, pe_un uS_is eS_is, h⟩
theorem u_neg {i : Int} (h : Q (.int (-i)) H) : uS X (unaryOp .USub) (.int i) H Q := ⟨_, un_neg, _, rfl, h⟩
/-! and, or, not -/
theorem e_not (h : eS X a σ H fun x H1 => ∃ c, x = .bl c ∧ Q (.bl (!c)) H1) : eS X (.UnaryOp .Not a pos) σ H Q := ⟨_, pe_not eS_is, h⟩
theorem e_one {op} (h : eS X a σ H Q) : eS X (.BoolOp op [a] pos) σ H Q := ⟨_, pe_one eS_is, h⟩
theorem e_and (h : eS X a σ H fun x H1 => ∃ c, x = .bl c ∧ if c = true then eS X (.BoolOp .And (b :: es) pos) σ H1 Q else Q (.bl false) H1) : eS X (.BoolOp .And (a :: b :: es) pos) σ H Q := ⟨_, pe_and eS_is eS_is, h⟩
theorem e_or (h : eS X a σ H fun x H1 => ∃ c, x = .bl c ∧ if c = true then Q (.bl true) H1 else eS X (.BoolOp .Or (b :: es) pos) σ H1 Q) : eS X (.BoolOp .Or (a :: b :: es) pos) σ H Q := ⟨_, pe_or eS_is eS_is, h⟩
theorem q_w (h : wS X a σ H R) : qS X a σ H R := by obtain ⟨t, p, h⟩ := h; exact ⟨t, p.pt, h⟩
theorem w_and1 (h : qS X a σ H R) : wS X (.BoolOp .And [a] pos) σ H R := ⟨_, pw_and1 qS_is, h⟩
theorem w_or1 (h : qS X a σ H R) : wS X (.BoolOp .Or [a] pos) σ H R := ⟨_, pw_or1 qS_is, h⟩
theorem w_and (h : qS X a σ H fun c H1 => if c = true then wS X (.BoolOp .And (b :: es) pos) σ H1 R else R false H1) : wS X (.BoolOp .And (a :: b :: es) pos) σ H R := ⟨_, pw_and qS_is wS_is, h⟩
theorem w_or (h : qS X a σ H fun c H1 => if c = true then R true H1 else wS X (.BoolOp .Or (b :: es) pos) σ H1 R) : wS X (.BoolOp .Or (a :: b :: es) pos) σ H R := ⟨_, pw_or qS_is wS_is, h⟩
theorem q_not (h : qS X a σ H fun c H1 => R (!c) H1) : qS X (.UnaryOp .Not a pos) σ H R := ⟨_, pt_not qS_is, h⟩
def TruOk (X : Cx) (e : Expr) : Prop := ∀ whole, isTrue e X.env whole = (do let v ← whole; standAt e.pos; holding [v] (truthy v))
theorem q_val (he : TruOk X e) (h : eS X e σ H fun x H1 => ∃ c, x = .bl c ∧ R c H1) : qS X e σ H R := ⟨_, pt_val eS_is he, h⟩
theorem e_if {t : Expr} (h : qS X t σ H fun c H1 => if c = true then eS X a σ H1 Q else eS X b σ H1 Q) : eS X (.IfExp t a b pos) σ H Q := ⟨_, pe_ifExp qS_is eS_is eS_is, h⟩
/-! comparisons -/
theorem q_cmp {op : CmpOp} (hm : behindInMarks op b = false) (h : eS X a σ H fun x H1 => eS X b σ H1 fun y H2 => oS X (compareOp op) x y H2 fun z H3 => ∃ k, z = .bl k ∧ R k H3) : qS X (.Compare a [op] [b] pos) σ H R := g_qcmp hm h
theorem e_cmp {op : CmpOp} (hm : behindInMarks op b = false) (h : eS X a σ H fun x H1 => eS X b σ H1 fun y H2 => oS X (compareOp op) x y H2 Q) : eS X (.Compare a [op] [b] pos) σ H Q := g_cmp hm h
theorem e_chain {d : Expr} {op op' : CmpOp} (hm : lastMarks [op, op'] [b, d] = false) (h : eS X a σ H fun x H1 => eS X b σ H1 fun y H2 => oS X (compareOp op) x y H2 fun z H3 => ∃ k, z = .bl k ∧ if k = true then eS X d σ H3 fun w' H4 => oS X (compareOp op') y w' H4 Q else Q (.bl false) H3) :
    eS X (.Compare a [op, op'] [b, d] pos) σ H Q := ⟨_, pe_chain oS_is oS_is eS_is eS_is eS_is hm, h⟩
theorem q_chain {d : Expr} {op op' : CmpOp} (hm : lastMarks [op, op'] [b, d] = false) (h : eS X a σ H fun x H1 => eS X b σ H1 fun y H2 => oS X (compareOp op) x y H2 fun z H3 => ∃ k, z = .bl k ∧ if k = true then eS X d σ H3 fun w' H4 => oS X (compareOp op') y w' H4 fun z H3 => ∃ k, z = .bl k ∧ R k H3 else ∃ k', V.bl false = .bl k' ∧ R k' H3) :
    qS X (.Compare a [op, op'] [b, d] pos) σ H R := ⟨_, pt_chain oS_is oS_is eS_is eS_is eS_is hm, h⟩
/-! displays, subscripts, slices -/
theorem e_slice {lo hi : Option Expr} (h : eS X a σ H fun x H1 => poS X lo σ H1 fun l H2 => poS X hi σ H2 fun u H3 => lS X x l u H3 Q) : eS X (.Subscript a (.Slice lo hi none p2) pos) σ H Q := ⟨_, pe_slice lS_is eS_is poS_is poS_is, h⟩
theorem po_no {R : Option Int → Hp → Prop} (h : R none H) : poS X none σ H R := ⟨_, po_none, h⟩
theorem po_so {R : Option Int → Hp → Prop} (h : eS X e σ H fun x H1 => ∃ i, x = .int i ∧ R (some i) H1) : poS X (some e) σ H R := ⟨_, po_some eS_is, h⟩
theorem k_int {i : Int} {R : Int → Hp → Prop} (h : R i H) : ∃ i', V.int i = .int i' ∧ R i' H := ⟨i, rfl, h⟩
/-! calls -/
/-- a def of the module that may be called by its name, with its promise -/
structure Cal (P : Program) (w : World) (K : PySem.W.Frag) (mg : Str → Option Value) (base : Heap) (k : Nat) (x : Str) (sp : Sp) : Prop where
  ex : ∃ (f : Addr) (fd : FuncData) (ps : List Str), FnOk P w K mg base CX0 k f fd ps sp ∧ mg x = some (.ref f) ∧ PySem.W.keepIn K (.ref f) = true ∧ Binds K fd ps []
theorem e_call (c : CI X P w K mg base N nm j) {x : Str} {k : Nat} {sp : Sp} (C : Cal P w K mg base k x sp) (hk : k ≤ j) (hg : glB nm x = true) (he : starEach (e :: es) X.env = (false, eval e X.env) :: starEach es X.env) (hpl : (backTo pos (starEach es X.env)).any (·.1) = false)
    (h : aS X (e :: es) σ H fun vs H1 => sp vs H1 Q E0) : eS X (.Call (.Name x p) (e :: es) [] pos) σ H Q := by
  have h1 := c.prog; have h2 := c.w; have h3 := c.K; have h4 := c.mg; have h5 := c.base
  subst h1 h2 h3 h4 h5
  obtain ⟨f, fd, ps, F, h1, h2, h3⟩ := C.ex
  exact ⟨_, pe_call F (c.room.mono hk) (c.gl hg) h1 h2 h3 .nil pass0 aS_is (glB_d hg) he hpl, aS_mono h fun vs H1 q => by rw [List.append_nil]; exact q⟩
theorem e_callB (c : CI X P w K mg base N nm j) {x : Str} {id : String} (hg : glB nm x = true) (hm : mg x = none) (hv : bootBuiltins x = some (.builtin id)) (he : starEach (e :: es) X.env = (false, eval e X.env) :: starEach es X.env) (hpl : (backTo pos (starEach es X.env)).any (·.1) = false)
    (h : aS X (e :: es) σ H fun vs H1 => cS X (.builtin id) vs H1 Q) : eS X (.Call (.Name x p) (e :: es) [] pos) σ H Q :=
  ⟨_, pe_callB cS_is (c.gl hg) (by rw [c.mg]; exact hm) hv aS_is (glB_n hg) (glB_d hg) he hpl, h⟩
theorem e_callTy (c : CI X P w K mg base N nm j) {x : Str} {T : String} (hg : glB nm x = true) (hm : mg x = none) (hv : bootBuiltins x = some (.type T)) (he : starEach (e :: es) X.env = (false, eval e X.env) :: starEach es X.env) (hpl : (backTo pos (starEach es X.env)).any (·.1) = false)
    (h : aS X (e :: es) σ H fun vs H1 => cS X (.type T) vs H1 Q) : eS X (.Call (.Name x p) (e :: es) [] pos) σ H Q :=
  ⟨_, pe_callTy cS_is (c.gl hg) (by rw [c.mg]; exact hm) hv aS_is (glB_n hg) (glB_d hg) he hpl, h⟩
theorem e_meth (c : CI X P w K mg base N nm j) {T id : String} {name : Str} (pa : PlainAttrs T) (slot : Slot T name id) (hty : typeOf (.builtin id) = pure (.type "method_descriptor")) (hbase : attributeBase a name X.env (eval a X.env) = eval a X.env) (hline : (apos.endLine == pos.line) = true)
    (hs : starEach (e :: es) X.env = (false, eval e X.env) :: starEach es X.env) (hp : (backTo pos (starEach es X.env)).any (·.1) = false)
    (hf : ((backTo pos (starEach (e :: es) X.env)).all (fun x => !x.1) && (backToKw pos (keywordEach [] X.env)).all (fun x => x.1.isSome) && decide ((e :: es).length + ([] : List Keyword).length + (if ([] : List Keyword).isEmpty then 0 else 1) < 30)) = true)
    (h : eS X a σ H fun x H1 => tyV K T x H1 ∧ aS X (e :: es) σ H1 fun xs H2 => mS X id x xs H2 Q) : eS X (.Call (.Attribute a name apos) (e :: es) [] pos) σ H Q := by
  have h3 := c.K
  subst h3
  exact ⟨_, pe_bm pa slot hty mS_is eS_is aS_is hbase hf hline hs hp, h⟩
theorem e_meth0 (c : CI X P w K mg base N nm j) {T id : String} {name : Str} (pa : PlainAttrs T) (slot : Slot T name id) (hty : typeOf (.builtin id) = pure (.type "method_descriptor")) (hbase : attributeBase a name X.env (eval a X.env) = eval a X.env) (hline : (apos.endLine == pos.line) = true)
    (h : eS X a σ H fun x H1 => tyV K T x H1 ∧ mS X id x [] H1 Q) : eS X (.Call (.Attribute a name apos) [] [] pos) σ H Q := by
  have h3 := c.K
  subst h3
  exact ⟨_, pe_bm0 pa slot hty mS_is eS_is hbase hline, h⟩
theorem e_sm1 {id : String} {name : Str} (slot : Slot "str" name id) (ty : typeOf (.builtin id) = pure (.type "method_descriptor")) (hs : starEach [e] X.env = [(false, eval e X.env)]) (hbase : attributeBase a name X.env (eval a X.env) = eval a X.env) (hline : (apos.endLine == pos.line) = true)
    (h : eS X a σ H fun x H1 => (∃ z, x = .str z) ∧ eS X e σ H1 fun y H2 => mS X id x [y] H2 Q) : eS X (.Call (.Attribute a name apos) [e] [] pos) σ H Q := ⟨_, pe_m1 slot ty mS_is eS_is eS_is hs hbase hline, h⟩
theorem e_sm0 {id : String} {name : Str} (slot : Slot "str" name id) (ty : typeOf (.builtin id) = pure (.type "method_descriptor")) (hbase : attributeBase a name X.env (eval a X.env) = eval a X.env) (hline : (apos.endLine == pos.line) = true)
    (h : eS X a σ H fun x H1 => (∃ z, x = .str z) ∧ mS X id x [] H1 Q) : eS X (.Call (.Attribute a name apos) [] [] pos) σ H Q := ⟨_, pe_m0 slot ty mS_is eS_is hbase hline, h⟩
/-! statements -/
theorem s_expr (hs : swapsWith e none pos.line X.env = pure false) (h : eS X e σ H fun _ H1 => D.nx σ H1) : sS X (.Expr e pos) D σ H := ⟨_, ps_expr eS_is hs, h⟩
theorem s_retN (h : D.rt .non H) : sS X (.Return none pos) D σ H := ⟨_, ps_retN, h⟩
theorem s_pass (h : D.nx σ H) : sS X (.Pass pos) D σ H := ⟨_, ps_pass, h⟩
theorem s_break (h : D.bk σ H) : sS X (.Break pos) D σ H := ⟨_, ps_break, h⟩
theorem s_doc {x : Str} {k} (h : D.nx σ H) : sS X (.Expr (.Constant (.str x) k p) pos) D σ H := ⟨_, ps_doc, h⟩
theorem s_aug (c : CI X P w K mg base N nm j) {x : Str} {i : Nat} {v : V} {op : Operator} (hi : Ix N x i) (hl : locB nm x = true) (hg : Get N σ x v) (h : eS X e σ H fun y H1 => oS X (inplaceOp op) v y H1 fun z H2 => D.nx (σ.set i (some z)) H2) : sS X (.AugAssign (.Name x p) op e pos) D σ H := by
  obtain ⟨i', a, b⟩ := hg.ix
  have e1 : i' = i := nodup_ix c.nd a hi.get
  subst e1
  exact ⟨_, ps_aug (i := i') (by rw [c.N]; exact c.nd) (by rw [c.N]; exact a) (c.loc hl) eS_is (fun pins s σ H x y v u Q => oS_is pins s σ H x y v u Q) (c.fn hl), v, b, h⟩
/-! targets -/
theorem g_tgt (c : CI X P w K mg base N nm j) {x : Str} {i : Nat} {v : V} {R : L2.St → Hp → Prop} (hi : Ix N x i) (hl : locB nm x = true) (h : R (σ.set i (some v)) H) : gS X (.Name x pos) v σ H R :=
  ⟨_, pg_name (i := i) (by rw [c.N]; exact c.nd) (by rw [c.N]; exact hi.get) (c.loc hl) (c.fn hl), h⟩
theorem g_tgts (c : CI X P w K mg base N nm j) {k} {q : Addr} {vs : List V} {R : L2.St → Hp → Prop} (h1 : (assignEach es X.env).length = vs.length) (h2 : (assignEach es X.env).findIdx? (·.1) = none) (hq : SqT K H q vs) (h : gsS X es vs σ H R) : gS X (.Tuple es k pos) (.ref q) σ H R := by
  have e3 := c.K
  subst e3
  exact ⟨_, pg_tup c.calm gsS_is h1 h2, q, _, rfl, hq, rfl, h⟩
theorem gs_nil {R : L2.St → Hp → Prop} (h : R σ H) : gsS X [] [] σ H R := ⟨_, pgs_nil, rfl, h⟩
theorem gs_cons {v : V} {vs : List V} {R : L2.St → Hp → Prop} (hs : (assignEach (e :: es) X.env).map (·.2) = assign e X.env :: (assignEach es X.env).map (·.2)) (h : gS X e v σ H fun σ1 H1 => gsS X es vs σ1 H1 R) : gsS X (e :: es) (v :: vs) σ H R :=
  ⟨_, pgs_cons gS_is gsS_is hs, _, _, rfl, h⟩
end
end Go

namespace Go
open PySem PySem.Spec PyProof.Rows L2

structure tsS (X : Cx) (es : List Expr) (σ : L2.St) (H : Hp) (Q : Bool → Hp → Prop) : Prop where
  ex : ∃ t, PTs X es t ∧ t σ H Q
theorem tsS_is {X : Cx} {es : List Expr} : PTs X es (tsS X es) := ⟨fun pins s σ H Q I ⟨_, p, h⟩ => p.run pins s σ H Q I h⟩

theorem tsS_mono {X : Cx} {es : List Expr} {σ : L2.St} {H : Hp} {R R' : Bool → Hp → Prop} (h : tsS X es σ H R) (m : ∀ v H, R v H → R' v H) : tsS X es σ H R' := by
  obtain ⟨t, p, h⟩ := h
  exact ⟨fun σ H R => ∃ Q, t σ H Q ∧ ∀ v H, Q v H → R v H, ⟨fun pins s σ H R I ⟨Q, h, m⟩ => thn (p.run pins s σ H Q I h) fun u s' ⟨H', I', q⟩ => ⟨H', I', m u H' q⟩⟩, R, h, m⟩
/-- a loop over what J gives -/
def ForOn (X : Cx) (tg : Expr) (body : List Stmt) (D : Ends) (J : It) (σ : L2.St) (H : Hp) : Prop :=
  ∃ (n : Nat) (G : Hp → Prop) (Y : Nat → Hp → V → Hp → Prop), Walk J n G Y ∧ ∃ Pv : Nat → L2.St → Hp → Prop, Pv 0 σ H ∧ (∀ i σ H, i ≤ n → Pv i σ H → G H) ∧
    (∀ i x σ H H', i < n → Pv i σ H → Y i H x H' → gS X tg x σ H' fun σ2 H2 => bS X body { D with nx := Pv (i + 1), ct := Pv (i + 1), bk := D.nx } σ2 H2) ∧ ∀ σ H, Pv n σ H → D.nx σ H
/-- a block of a comprehension -/
def IsBlk (X X' : Cx) (scope : Scope) : Prop := ∃ s H C cl fp, X' = X.blk s H scope (compEnvC scope cl C X.env) fp
def LcOn (X : Cx) (scope : Scope) (tg : Expr) (ifs : List Expr) (elt : Expr) (vs : List Nat) (Qd : Addr → Hp → Prop) (J : It) (σ : L2.St) (H : Hp) : Prop := ∀ D, H D = none →
  ∃ (n : Nat) (G : Hp → Prop) (Y : Nat → Hp → V → Hp → Prop), Walk J n G Y ∧ ∃ Pv : Nat → Hp → Prop, Pv 0 (upd H D (.lst [])) ∧ (∀ i H, i ≤ n → Pv i H → G H) ∧
    (∀ i x H H', i < n → Pv i H → Y i H x H' → ∀ X', IsBlk X X' scope → gS X' tg x (wipe σ vs) H' fun σ2 H2 => wipe σ2 vs = wipe σ vs ∧ ∀ X', IsBlk X X' scope → tsS X' ifs σ2 H2 fun b H3 =>
      if b = true then ∀ X', IsBlk X X' scope → eS X' elt σ2 H3 fun y H4 => ∃ acc, H4 D = some (.lst acc) ∧ acc.length < sizeLine ∧ Pv (i + 1) (upd H4 D (.lst (acc ++ [y]))) else Pv (i + 1) H3) ∧ ∀ H, Pv n H → Qd D H

section
variable {X : Cx} {P : Program} {w : World} {K : PySem.W.Frag} {mg : Str → Option Value} {base : Heap} {N : List Str} {nm : List (Str × NameKind)} {j : Nat} {σ σ' : L2.St} {H : Hp} {Q : VK} {D : Ends} {pos p p2 apos : Pos} {a b e tg iter elt : Expr} {es ifs : List Expr} {body : List Stmt} {R : It → Hp → Prop} {scope : Scope}

theorem look_map {f : Str × NameKind → Bool} (hf : ∀ p, f p = true → p.2 = NameKind.free) : ∀ {l : List (Str × NameKind)} {x : Str} {k : NameKind}, l.lookup x = some k → (k ≠ NameKind.free → (l.map fun p => if f p = true then (p.1, NameKind.cell) else p).lookup x = some k) ∧ (k = NameKind.free → (l.map fun p => if f p = true then (p.1, NameKind.cell) else p).lookup x = some NameKind.cell ∨ (l.map fun p => if f p = true then (p.1, NameKind.cell) else p).lookup x = some NameKind.free)
  | [], x, k, h => by simp at h
  | (n, q) :: l, x, k, h => by
    have e1 : (if f (n, q) = true then (n, NameKind.cell) else (n, q)) = (n, if f (n, q) = true then NameKind.cell else q) := by split <;> rfl
    rw [List.map_cons, e1]
    simp only [List.lookup_cons] at h ⊢
    cases hx : x == n with
    | true =>
      rw [hx] at h
      simp only [Option.some.injEq] at h ⊢
      subst h
      refine ⟨fun hk => ?_, fun hk => ?_⟩
      · rw [if_neg (fun z => hk (hf _ z))]
      · by_cases hz : f (n, q) = true
        · rw [if_pos hz]; exact .inl rfl
        · rw [if_neg hz]; exact .inr hk
    | false =>
      rw [hx] at h
      simp only at h ⊢
      exact look_map hf h
theorem CI.blk (c : CI X P w K mg base N nm j) {X' : Cx} (h : IsBlk X X' scope) (hk : scope.kind = .function) : CI X' P w K mg base N scope.names j := by
  obtain ⟨s, H, C, cl, fp, rfl⟩ := h
  have q : ∀ {x : Str} {k : NameKind}, scope.names.lookup x = some k → (k ≠ NameKind.free → (relabel scope X.env).names.lookup x = some k) ∧ (k = NameKind.free → (relabel scope X.env).names.lookup x = some NameKind.cell ∨ (relabel scope X.env).names.lookup x = some NameKind.free) :=
    fun {x k} h => look_map (f := fun p => p.2 == NameKind.free && X.env.scope.kind == .function && X.env.kindOf p.1 == some NameKind.cell) (fun p hp => by simp only [Bool.and_eq_true, beq_iff_eq] at hp; exact hp.1.1) h
  exact ⟨c.nd, fun x h => (q h).1 (by decide), fun x h => ⟨(q h).1 (by decide), by show (scope.names.lookup x == some NameKind.cell) = true; rw [h]; rfl⟩, fun x h => (q h).2 rfl, fun x h => (q h).1 (by decide), c.N, c.prog, c.w, c.K, c.mg, c.base, hk, c.calm, c.room, PassesOwn.never⟩
theorem s_for (c : CI X P w K mg base N nm j) (hs : ∀ x, foldedSetIterable iter X.env x = pure x) (h : iS X tg iter σ H fun J H1 => ForOn X tg body D J σ H1) : sS X (.For tg iter body [] pos) D σ H := by
  obtain ⟨t, pi, h⟩ := h
  refine ⟨_, ps_for c.pass c.calm (wi := fun σ H R => ∃ R', t σ H R' ∧ ∀ J H, R' J H → R J H) ⟨fun pins s σ H R I ⟨R', h, m⟩ => thn (pi.run pins s σ H R' I h) fun v s1 q => thn q fun u s2 ⟨it, fp, tn, J, H', e, I2, T, t0, f, r⟩ => ⟨it, fp, tn, J, H', e, I2, T, t0, f, m J H' r⟩⟩ gS_is bS_is hs, _, h, ?_⟩
  rintro J H ⟨n, G, Y, W, Pv, h0, hG, hs, hd⟩
  exact for_it W Pv h0 hG hs hd
theorem e_lc (c : CI X P w K mg base N nm j) (own : List (Str × Nat)) (ok : BlkOk N (scOf nm) scope own) (hs : ∀ x, foldedSetIterable iter X.env x = pure x) (h : iS X tg iter σ H fun J H1 => LcOn X scope tg ifs elt (own.map (·.2)) (fun D H => Q (.ref D) H) J σ H1) : eS X (.ListComp elt [⟨tg, iter, ifs, 0⟩] scope pos) σ H Q := by
  obtain ⟨t, pi, h⟩ := h
  have eN := c.N
  refine ⟨_, pe_lc c.calm (by rw [eN]; exact c.nd) (wi := fun σ H R => ∃ R', t σ H R' ∧ ∀ J H, R' J H → R J H) ⟨fun pins s σ H R I ⟨R', h, m⟩ => thn (pi.run pins s σ H R' I h) fun v s1 q => thn q fun u s2 ⟨it, fp, tn, J, H', e, I2, T, t0, f, r⟩ => ⟨it, fp, tn, J, H', e, I2, T, t0, f, m J H' r⟩⟩ (by rw [eN]; exact c.bok ok)
    (g := fun v σ H R => ∀ X', IsBlk X X' scope → gS X' tg v σ H R) (tt := fun σ H R => ∀ X', IsBlk X X' scope → tsS X' ifs σ H R) (te := fun σ H R => ∀ X', IsBlk X X' scope → eS X' elt σ H R)
    (fun s H C cl fp => ⟨fun pins s1 σ1 H1 v u Q1 I r h => gS_is.run pins s1 σ1 H1 v u Q1 I r (h _ ⟨s, H, C, cl, fp, rfl⟩)⟩) (fun s H C cl fp => ⟨fun pins s1 σ1 H1 Q1 I h => tsS_is.run pins s1 σ1 H1 Q1 I (h _ ⟨s, H, C, cl, fp, rfl⟩)⟩) (fun s H C cl fp => ⟨fun pins s1 σ1 H1 Q1 I h => eS_is.run pins s1 σ1 H1 Q1 I (h _ ⟨s, H, C, cl, fp, rfl⟩)⟩) hs, _, h, ?_⟩
  intro J H q D hD
  obtain ⟨n, G, Y, W, Pv, h0, hG, hs, hd⟩ := q D hD
  exact lc_it (g := fun v σ H R => ∀ X', IsBlk X X' scope → gS X' tg v σ H R) (tt := fun σ H R => ∀ X', IsBlk X X' scope → tsS X' ifs σ H R) (te := fun σ H R => ∀ X', IsBlk X X' scope → eS X' elt σ H R) (σ := σ) (vs := own.map (·.2)) W Pv h0 hG hs hd
theorem s_setLc (c : CI X P w K mg base N nm j) {y : Str} {i : Nat} {spos : Pos} (own : List (Str × Nat)) (hi : Ix N y i) (hy : nm.lookup y = some NameKind.local) (hsw : swapsWith (.ListComp elt [⟨tg, iter, ifs, 0⟩] scope pos) (some (.Name y p)) spos.line X.env = pure true) (ok : BlkOk N (scOf nm) scope own) (hs : ∀ x, foldedSetIterable iter X.env x = pure x)
    (h : iS X tg iter σ H fun J H1 => LcOn X scope tg ifs elt (own.map (·.2)) (fun q H => D.nx (σ.set i (some (.ref q))) H) J σ H1) : sS X (.Assign [.Name y p] (.ListComp elt [⟨tg, iter, ifs, 0⟩] scope pos) spos) D σ H := by
  obtain ⟨t, pi, h⟩ := h
  have eN := c.N
  refine ⟨_, ps_setLc (i := i) c.calm (by rw [eN]; exact c.nd) (by rw [eN]; exact hi.get) (c.lo _ hy) hsw (wi := fun σ H R => ∃ R', t σ H R' ∧ ∀ J H, R' J H → R J H) ⟨fun pins s σ H R I ⟨R', h, m⟩ => thn (pi.run pins s σ H R' I h) fun v s1 q => thn q fun u s2 ⟨it, fp, tn, J, H', e, I2, T, t0, f, r⟩ => ⟨it, fp, tn, J, H', e, I2, T, t0, f, m J H' r⟩⟩ (by rw [eN]; exact c.bok ok)
    (g := fun v σ H R => ∀ X', IsBlk X X' scope → gS X' tg v σ H R) (tt := fun σ H R => ∀ X', IsBlk X X' scope → tsS X' ifs σ H R) (te := fun σ H R => ∀ X', IsBlk X X' scope → eS X' elt σ H R)
    (fun s H C cl fp => ⟨fun pins s1 σ1 H1 v u Q1 I r h => gS_is.run pins s1 σ1 H1 v u Q1 I r (h _ ⟨s, H, C, cl, fp, rfl⟩)⟩) (fun s H C cl fp => ⟨fun pins s1 σ1 H1 Q1 I h => tsS_is.run pins s1 σ1 H1 Q1 I (h _ ⟨s, H, C, cl, fp, rfl⟩)⟩) (fun s H C cl fp => ⟨fun pins s1 σ1 H1 Q1 I h => eS_is.run pins s1 σ1 H1 Q1 I (h _ ⟨s, H, C, cl, fp, rfl⟩)⟩) hs, _, h, ?_⟩
  intro J H q D' hD
  obtain ⟨n, G, Y, W, Pv, h0, hG, hs, hd⟩ := q D' hD
  exact lc_it (g := fun v σ H R => ∀ X', IsBlk X X' scope → gS X' tg v σ H R) (tt := fun σ H R => ∀ X', IsBlk X X' scope → tsS X' ifs σ H R) (te := fun σ H R => ∀ X', IsBlk X X' scope → eS X' elt σ H R) (σ := σ) (vs := own.map (·.2)) W Pv h0 hG hs hd
theorem ts_nil {R : Bool → Hp → Prop} (h : R true H) : tsS X [] σ H R := ⟨_, pts_nil, h⟩
theorem ts_one {R : Bool → Hp → Prop} (h : qS X e σ H R) : tsS X [e] σ H R := ⟨_, pts_one qS_is, h⟩

/-! what is walked -/
theorem i_list (h : eS X e σ H fun x H1 => ∃ p xs, x = .ref p ∧ SqL X.K H1 p xs ∧ R (Itl X.K p) H1) : iS X tg e σ H R :=
  ⟨_, pi_list eS_is, eS_mono h fun _ _ ⟨p, xs, e, hq, r⟩ => ⟨p, e, ⟨xs, hq⟩, r⟩⟩
theorem i_tup (h : eS X e σ H fun x H1 => ∃ p xs, x = .ref p ∧ SqT X.K H1 p xs ∧ R (Itt X.K p) H1) : iS X tg e σ H R :=
  ⟨_, pi_tup eS_is, eS_mono h fun _ _ ⟨p, xs, e, hq, r⟩ => ⟨p, e, ⟨xs, hq⟩, r⟩⟩
theorem i_str (h : eS X e σ H fun x H1 => ∃ z, x = .str (S z) ∧ R (Its (S z)) H1) : iS X tg e σ H R :=
  ⟨_, pi_str eS_is, eS_mono h fun _ _ ⟨z, e, r⟩ => ⟨_, e, r⟩⟩
theorem i_range1 (c : CI X P w K mg base N nm j) (hg : glB nm "range" = true) (hm : mg "range" = none) (hs : starEach [a] X.env = [(false, eval a X.env)]) (h : eS X a σ H fun x H1 => ∃ n : Int, x = .int n ∧ -(2 ^ 62) ≤ n ∧ n < 2 ^ 62 ∧ R (Itr 0 n.toNat) H1) :
    iS X tg (.Call (.Name "range" p) [a] [] pos) σ H R :=
  ⟨_, pi_range1 (c.gl hg) (by rw [c.mg]; exact hm) (pa_cons eS_is pa_nil hs) hs, eS_mono h fun _ _ ⟨n, e, h1, h2, r⟩ => ⟨n, by rw [e], h1, h2, r⟩⟩
theorem i_range2 (c : CI X P w K mg base N nm j) (hg : glB nm "range" = true) (hm : mg "range" = none) (hs : starEach [a, b] X.env = [(false, eval a X.env), (false, eval b X.env)]) (hs2 : starEach [b] X.env = [(false, eval b X.env)])
    (h : eS X a σ H fun x H1 => eS X b σ H1 fun y H2 => ∃ i k : Int, x = .int i ∧ y = .int k ∧ (-(2 ^ 62) ≤ i ∧ i < 2 ^ 62 ∧ -(2 ^ 62) ≤ k ∧ k < 2 ^ 62) ∧ R (Itr i (k - i).toNat) H2) : iS X tg (.Call (.Name "range" p) [a, b] [] pos) σ H R :=
  ⟨_, pi_range2 (c.gl hg) (by rw [c.mg]; exact hm) (pa_cons eS_is (pa_cons eS_is pa_nil hs2) (by rw [hs2]; exact hs)) hs hs2, eS_mono h fun _ _ h => eS_mono h fun _ _ ⟨i, k, e1, e2, h1, r⟩ => ⟨i, k, by rw [e1, e2], h1, r⟩⟩
theorem i_down (c : CI X P w K mg base N nm j) {d : Expr} (hg : glB nm "range" = true) (hm : mg "range" = none) (hs : starEach [a, b, d] X.env = (false, eval a X.env) :: starEach [b, d] X.env) (hpl : (backTo pos (starEach [b, d] X.env)).any (·.1) = false) (hs1 : starEach [b, d] X.env = (false, eval b X.env) :: starEach [d] X.env) (hs2 : starEach [d] X.env = (false, eval d X.env) :: starEach [] X.env)
    (h : eS X a σ H fun x H1 => eS X b σ H1 fun y H2 => eS X d σ H2 fun z H3 => z = .int (-1) ∧ ∃ i k : Int, x = .int i ∧ y = .int k ∧ (-(2 ^ 62) ≤ i ∧ i < 2 ^ 62 ∧ -(2 ^ 62) ≤ k ∧ k < 2 ^ 62) ∧ R (Itc i (-1) (i - k).toNat) H3) : iS X tg (.Call (.Name "range" p) [a, b, d] [] pos) σ H R :=
  ⟨_, pi_range3 (c.gl hg) (by rw [c.mg]; exact hm) (pa_cons eS_is (pa_cons eS_is (pa_cons eS_is pa_nil hs2) hs1) hs) hs hpl, eS_mono h fun _ _ h => eS_mono h fun _ _ h => eS_mono h fun _ _ ⟨e, i, k, e1, e2, ⟨h1, h2, h3, h4⟩, r⟩ => ⟨i, k, -1, _, by rw [e, e1, e2], RgC.neg h1 h2 h3 h4, r⟩⟩
/-! loops by what is walked -/
theorem on_list {q : Addr} {xs : List V} (Pv : Nat → L2.St → Hp → Prop) (h0 : Pv 0 σ H) (hl : ∀ i σ H, i ≤ xs.length → Pv i σ H → SqL X.K H q xs) (hs : ∀ i x σ H, xs[i]? = some x → Pv i σ H → gS X tg x σ H fun σ2 H2 => bS X body { D with nx := Pv (i + 1), ct := Pv (i + 1), bk := D.nx } σ2 H2) (hd : ∀ σ H, Pv xs.length σ H → D.nx σ H) :
    ForOn X tg body D (Itl X.K q) σ H := ⟨_, _, _, walk_list (xs := xs), Pv, h0, hl, fun i x σ H H' _ p ⟨e, hx⟩ => by subst e; exact hs i x σ _ hx p, hd⟩
theorem on_tup {q : Addr} {xs : List V} (Pv : Nat → L2.St → Hp → Prop) (h0 : Pv 0 σ H) (hl : ∀ i σ H, i ≤ xs.length → Pv i σ H → SqT X.K H q xs) (hs : ∀ i x σ H, xs[i]? = some x → Pv i σ H → gS X tg x σ H fun σ2 H2 => bS X body { D with nx := Pv (i + 1), ct := Pv (i + 1), bk := D.nx } σ2 H2) (hd : ∀ σ H, Pv xs.length σ H → D.nx σ H) :
    ForOn X tg body D (Itt X.K q) σ H := ⟨_, _, _, walk_tup (xs := xs), Pv, h0, hl, fun i x σ H H' _ p ⟨e, hx⟩ => by subst e; exact hs i x σ _ hx p, hd⟩
theorem on_range {lo : Int} {n : Nat} (Pv : Nat → L2.St → Hp → Prop) (h0 : Pv 0 σ H) (hs : ∀ i σ H, i < n → Pv i σ H → gS X tg (.int (lo + i)) σ H fun σ2 H2 => bS X body { D with nx := Pv (i + 1), ct := Pv (i + 1), bk := D.nx } σ2 H2) (hd : ∀ σ H, Pv n σ H → D.nx σ H) :
    ForOn X tg body D (Itr lo n) σ H := ⟨_, _, _, walk_range, Pv, h0, fun _ _ _ _ _ => True.intro, fun i x σ H H' hi p ⟨e, hx⟩ => by subst e hx; exact hs i σ _ hi p, hd⟩
theorem on_down {lo : Int} {n : Nat} (Pv : Nat → L2.St → Hp → Prop) (h0 : Pv 0 σ H) (hs : ∀ i σ H, i < n → Pv i σ H → gS X tg (.int (lo - i)) σ H fun σ2 H2 => bS X body { D with nx := Pv (i + 1), ct := Pv (i + 1), bk := D.nx } σ2 H2) (hd : ∀ σ H, Pv n σ H → D.nx σ H) :
    ForOn X tg body D (Itc lo (-1) n) σ H := ⟨_, _, _, walk_rangeC, Pv, h0, fun _ _ _ _ _ => True.intro, fun i x σ H H' hi p ⟨e, hx⟩ => by
      subst e
      have e2 : lo + (i : Int) * -1 = lo - i := by omega
      have hx' : x = V.int (lo + (i : Int) * -1) := hx
      rw [e2] at hx'
      subst hx'
      exact hs i σ _ hi p, hd⟩
theorem on_str {z : List Nat} (Pv : Nat → L2.St → Hp → Prop) (h0 : Pv 0 σ H) (hs : ∀ i x σ H, z[i]? = some x → Pv i σ H → gS X tg (.str (S [x])) σ H fun σ2 H2 => bS X body { D with nx := Pv (i + 1), ct := Pv (i + 1), bk := D.nx } σ2 H2) (hd : ∀ σ H, Pv z.length σ H → D.nx σ H) :
    ForOn X tg body D (Its (S z)) σ H := ⟨_, _, _, walk_str, Pv, h0, fun _ _ _ _ _ => True.intro, fun i x σ H H' hi p ⟨e, y, hy, hx⟩ => by
      subst e hx
      exact hs i y σ _ (by simpa [S] using hy) p, fun σ H p => hd σ H (by simpa [S] using p)⟩
/-! comprehensions by what is walked: the target one name (slot i); no tests or one -/
theorem lc_name {y : Str} {i n : Nat} {G : Hp → Prop} {Y : Nat → Hp → V → Hp → Prop} {J : It} {Qd : Addr → Hp → Prop} (c : CI X P w K mg base N nm j) (hi : Ix N y i) (hl : locB scope.names y = true) (hk : scope.kind = .function) (W : Walk J n G Y)
    (k : ∀ D, H D = none → ∃ Pv : Nat → Hp → Prop, Pv 0 (upd H D (.lst [])) ∧ (∀ m H, m ≤ n → Pv m H → G H) ∧ (∀ m x H H', m < n → Pv m H → Y m H x H' → ∀ X', IsBlk X X' scope → CI X' P w K mg base N scope.names j → tsS X' ifs (σ.set i (some x)) H' fun b H3 =>
      if b = true then ∀ X', IsBlk X X' scope → CI X' P w K mg base N scope.names j → eS X' elt (σ.set i (some x)) H3 fun y H4 => ∃ acc, H4 D = some (.lst acc) ∧ acc.length < sizeLine ∧ Pv (m + 1) (upd H4 D (.lst (acc ++ [y]))) else Pv (m + 1) H3) ∧ ∀ H, Pv n H → Qd D H) :
    LcOn X scope (.Name y p) ifs elt [i] Qd J σ H := by
  intro D hD
  obtain ⟨Pv, h0, hG, hs, hd⟩ := k D hD
  refine ⟨n, G, Y, W, Pv, h0, hG, fun m x H H' hm pv y X' hb => ?_, hd⟩
  refine g_tgt (c.blk hb hk) hi hl ?_
  have e1 : (wipe σ [i]).set i (some x) = σ.set i (some x) := by show (σ.set i none).set i (some x) = _; rw [List.set_set]
  rw [e1]
  refine ⟨by show (σ.set i (some x)).set i none = σ.set i none; rw [List.set_set], fun X' hb => ?_⟩
  refine tsS_mono (hs m x H H' hm pv y X' hb (c.blk hb hk)) fun b H q => ?_
  cases b with
  | true => exact fun X' hb => q X' hb (c.blk hb hk)
  | false => exact q
end
end Go

namespace Go
open PySem PySem.Spec PyProof.Rows L2

theorem sz_le {n : Nat} (h : n ≤ 1000000) : n ≤ sizeLine := Nat.le_trans h (by decide)
theorem sz_lt {n : Nat} (h : n < 1000000) : n < sizeLine := Nat.lt_of_lt_of_le h (by decide)

section
variable {X : Cx} {P : Program} {w : World} {K : PySem.W.Frag} {mg : Str → Option Value} {base : Heap} {N : List Str} {nm : List (Str × NameKind)} {j : Nat} {σ σ' : L2.St} {H G : Hp} {Q : VK} {C : List (Addr × HO)}

/-! operators by values -/
theorem o_addS {a b : List Nat} (hl : a.length + b.length ≤ 1000000) (h : Q (.str (S (a ++ b))) H) : oS X (binaryOp .Add) (.str (S a)) (.str (S b)) H Q := ⟨_, op_add_str, _, _, rfl, rfl, by rw [S_len, S_len]; exact sz_le hl, by rw [S_app]; exact h⟩
theorem o_iaddS {a b : List Nat} (hl : a.length + b.length ≤ 1000000) (h : Q (.str (S (a ++ b))) H) : oS X (inplaceOp .Add) (.str (S a)) (.str (S b)) H Q := ⟨_, iop_add_str, _, _, rfl, rfl, by rw [S_len, S_len]; exact sz_le hl, by rw [S_app]; exact h⟩
theorem o_iadd {a b : Int} (h : Q (.int (a + b)) H) : oS X (inplaceOp .Add) (.int a) (.int b) H Q := ⟨_, iop_add, _, _, rfl, rfl, h⟩
theorem o_isub {a b : Int} (h : Q (.int (a - b)) H) : oS X (inplaceOp .Sub) (.int a) (.int b) H Q := ⟨_, iop_sub, _, _, rfl, rfl, h⟩
theorem o_addB {a : Int} {b : Bool} (h : Q (.int (a + b2i b)) H) : oS X (binaryOp .Add) (.int a) (.bl b) H Q := ⟨_, op_add_ib, _, _, rfl, rfl, h⟩
theorem o_cat {p q : Addr} {xs ys : List V} (hp : H p = some (.lst xs)) (hq : H q = some (.lst ys)) (hl : xs.length + ys.length ≤ 1000000) (h : ∀ r H', New H r (.lst (xs ++ ys)) H' → Q (.ref r) H') : oS X (binaryOp .Add) (.ref p) (.ref q) H Q := ⟨_, op_cat, _, _, _, _, rfl, rfl, hp, hq, sz_le hl, fun r hr => h r _ ⟨hr, rfl⟩⟩
theorem o_rep {p : Addr} {xs : List V} {n : Int} (hp : H p = some (.lst xs)) (h1 : 0 ≤ n) (h2 : xs.length * n.toNat ≤ 1000000) (h3 : n ≤ 1000000) (h : ∀ r H', New H r (.lst (List.replicate n.toNat xs).flatten) H' → Q (.ref r) H') : oS X (binaryOp .Mult) (.ref p) (.int n) H Q :=
  ⟨_, op_rep, _, _, _, rfl, rfl, hp, by omega, by omega, sz_le h2, fun r hr => h r _ ⟨hr, rfl⟩⟩
theorem o_eqI {a b : Int} (h : Q (.bl (decide (a = b))) H) : oS X (compareOp .Eq) (.int a) (.int b) H Q := ⟨_, op_eq, rfl, by rw [show decide (V.int a = V.int b) = decide (a = b) by simp]; exact h⟩
theorem o_neI {a b : Int} (h : Q (.bl (!decide (a = b))) H) : oS X (compareOp .NotEq) (.int a) (.int b) H Q := ⟨_, op_ne, rfl, by rw [show decide (V.int a = V.int b) = decide (a = b) by simp]; exact h⟩
theorem o_eqS {a b : List Nat} (h : Q (.bl (decide (a = b))) H) : oS X (compareOp .Eq) (.str (S a)) (.str (S b)) H Q := ⟨_, op_eq, rfl, by rw [show decide (V.str (S a) = V.str (S b)) = decide (a = b) by simp [S_inj]]; exact h⟩
theorem o_neS {a b : List Nat} (h : Q (.bl (!decide (a = b))) H) : oS X (compareOp .NotEq) (.str (S a)) (.str (S b)) H Q := ⟨_, op_ne, rfl, by rw [show decide (V.str (S a) = V.str (S b)) = decide (a = b) by simp [S_inj]]; exact h⟩
theorem o_eqB {a b : Bool} (h : Q (.bl (decide (a = b))) H) : oS X (compareOp .Eq) (.bl a) (.bl b) H Q := ⟨_, op_eq, rfl, by rw [show decide (V.bl a = V.bl b) = decide (a = b) by simp]; exact h⟩
theorem o_neB {a b : Bool} (h : Q (.bl (!decide (a = b))) H) : oS X (compareOp .NotEq) (.bl a) (.bl b) H Q := ⟨_, op_ne, rfl, by rw [show decide (V.bl a = V.bl b) = decide (a = b) by simp]; exact h⟩
theorem o_ltS {a b : List Nat} (h : Q (.bl (decide (a < b))) H) : oS X (compareOp .Lt) (.str (S a)) (.str (S b)) H Q := ⟨_, op_lt_str, _, _, rfl, rfl, by refine cast (congrArg (fun b => Q (V.bl b) H) ?_) h; exact decide_eq_decide.mpr (by simp [S])⟩
theorem o_leS {a b : List Nat} (h : Q (.bl (!decide (b < a))) H) : oS X (compareOp .LtE) (.str (S a)) (.str (S b)) H Q := ⟨_, op_le_str, _, _, rfl, rfl, by refine cast (congrArg (fun b => Q (V.bl !b) H) ?_) h; exact decide_eq_decide.mpr (by simp [S])⟩
theorem o_gtS {a b : List Nat} (h : Q (.bl (decide (b < a))) H) : oS X (compareOp .Gt) (.str (S a)) (.str (S b)) H Q := ⟨_, op_gt_str, _, _, rfl, rfl, by refine cast (congrArg (fun b => Q (V.bl b) H) ?_) h; exact decide_eq_decide.mpr (by simp [S])⟩
theorem o_isN {x : V} (h : Q (.bl (decide (x = .non))) H) : oS X (compareOp .Is) x .non H Q := ⟨_, op_isN, rfl, h⟩
theorem o_notN {x : V} (h : Q (.bl (!decide (x = .non))) H) : oS X (compareOp .IsNot) x .non H Q := ⟨_, op_notN, rfl, h⟩
theorem o_isB {a b : Bool} (h : Q (.bl (decide (a = b))) H) : oS X (compareOp .Is) (.bl a) (.bl b) H Q := ⟨_, op_isBl, _, _, rfl, rfl, h⟩
theorem o_notB {a b : Bool} (h : Q (.bl (!decide (a = b))) H) : oS X (compareOp .IsNot) (.bl a) (.bl b) H Q := ⟨_, op_notBl, _, _, rfl, rfl, h⟩
theorem o_in1 {c : Nat} {z : List Nat} (h : Q (.bl (decide (c ∈ z))) H) : oS X (compareOp .In) (.str (S [c])) (.str (S z)) H Q := ⟨_, op_in_sign, c, _, rfl, rfl, by refine cast (congrArg (fun b => Q (V.bl b) H) ?_) h; exact decide_eq_decide.mpr (by simp [S])⟩
theorem o_notIn1 {c : Nat} {z : List Nat} (h : Q (.bl (!decide (c ∈ z))) H) : oS X (compareOp .NotIn) (.str (S [c])) (.str (S z)) H Q := ⟨_, op_notIn_sign, c, _, rfl, rfl, by refine cast (congrArg (fun b => Q (V.bl !b) H) ?_) h; exact decide_eq_decide.mpr (by simp [S])⟩
theorem o_inQ (c : CI X P w K mg base N nm j) {x : V} {p : Addr} {xs : List V} (hp : SqL K H p xs ∨ SqT K H p xs) (h1 : flatV x = true) (h2 : xs.all flatV = true) (h : Q (.bl (inV x xs)) H) : oS X (compareOp .In) x (.ref p) H Q := by
  have e := c.K
  subst e
  exact ⟨_, op_in_seq, _, _, rfl, hp, h1, h2, h⟩
theorem o_notInQ (c : CI X P w K mg base N nm j) {x : V} {p : Addr} {xs : List V} (hp : SqL K H p xs ∨ SqT K H p xs) (h1 : flatV x = true) (h2 : xs.all flatV = true) (h : Q (.bl (!inV x xs)) H) : oS X (compareOp .NotIn) x (.ref p) H Q := by
  have e := c.K
  subst e
  exact ⟨_, op_notIn_seq, _, _, rfl, hp, h1, h2, h⟩
theorem o_eqD (c : CI X P w K mg base N nm j) {x y : V} {d e : PyData} (hx : Dp K H x d) (hy : Dp K H y e) (h1 : SeqAt.shaped d = true) (h2 : SeqAt.shaped e = true) (h : Q (.bl (PyData.eqv d e)) H) : oS X (compareOp .Eq) x y H Q := by
  have e := c.K
  subst e
  exact ⟨_, op_eqD c.u64, _, _, hx, hy, h1, h2, h⟩
theorem o_neD (c : CI X P w K mg base N nm j) {x y : V} {d e : PyData} (hx : Dp K H x d) (hy : Dp K H y e) (h1 : SeqAt.shaped d = true) (h2 : SeqAt.shaped e = true) (h : Q (.bl (!PyData.eqv d e)) H) : oS X (compareOp .NotEq) x y H Q := by
  have e := c.K
  subst e
  exact ⟨_, op_neD c.u64, _, _, hx, hy, h1, h2, h⟩
/-! subscripts -/
theorem x_tup (c : CI X P w K mg base N nm j) {p : Addr} {xs : List V} {i : Int} {v : V} (hp : SqT K H p xs) (ha : atI xs i = some v) (h : Q v H) : xS X (.ref p) (.int i) H Q := by
  have e := c.K
  subst e
  exact ⟨_, ix_tup, _, _, _, _, rfl, rfl, hp, ha, h⟩
theorem x_str {z : List Nat} {i : Int} {y : Nat} (hz : z.length ≤ 1000000) (ha : atI z i = some y) (h : Q (.str (S [y])) H) : xS X (.str (S z)) (.int i) H Q :=
  ⟨_, ix_str, _, _, _, rfl, rfl, by rw [S_len]; exact sz_le hz, by simpa [S] using ha, h⟩
theorem x_dict (c : CI X P w K mg base N nm j) {p : Addr} {y v : V} (g : DGet H p y (some v)) (h : Q v H) : xS X (.ref p) y H Q := by
  refine ⟨fun x y H Q => ∃ a v, x = .ref a ∧ DGet H a y (some v) ∧ Q v H, ?_, _, _, rfl, g, h⟩
  intro va sl pins s σ H x y v u Q I rx ry h hs
  obtain ⟨a, z, rfl, g, q⟩ := h
  obtain rfl : v = Value.ref a := rx
  have T := dict_typeIs I g
  unfold subscriptTail
  refine wpAny_bind ?_
  rw [getitemInPython_of_ne T.not_modules]
  refine wpAny_bind (wpAny_specialOf T PySem.F.slot_dict_getitem.lookup ?_)
  have fin : wpAny (model X.prog X.w) X.A (subscripted sl false (.ref a) u) (fun r s₃ => wpAny (model X.prog X.w) X.A (letTemporaryGo va (.ref a) r >>= fun _ => pure r) (EP X pins σ Q) X.xe s₃) X.xe s := by
    rw [hs]
    exact wpAny_operating (d_getItem c.hu I g ry fun w' s3 I3 rw' => wpAny_bind (wpAny_letTemporaryGo (wpAny_pure ⟨z, H, I3, rw', q⟩)))
  first
    | exact wpAny_pure (wpAny_bind fin)
    | exact wpAny_bind (wpAny_pure (wpAny_bind fin))
    | exact wpAny_bind fin
theorem p_dict (c : CI X P w K mg base N nm j) {p : Addr} {y v : V} {H' : Hp} {R : Hp → Prop} (g : DPut H p y v H') (h : R H') : pS X (.ref p) y v H R := by
  refine ⟨fun o i v H R => ∃ a H', o = .ref a ∧ DPut H a i v H' ∧ R H', ?_, _, _, rfl, g, h⟩
  intro pins s σ H o i v ov iv u R I r1 r2 r3 h
  obtain ⟨a, H', rfl, g, q⟩ := h
  obtain rfl : ov = Value.ref a := r1
  exact d_setItem c.hu I g r2 r3 fun s4 I4 => ⟨H', I4, q⟩
theorem o_inD (c : CI X P w K mg base N nm j) {p : Addr} {y : V} {r : Option V} (g : DGet H p y r) (h : Q (.bl r.isSome) H) : oS X (compareOp .In) y (.ref p) H Q := by
  refine ⟨fun y x H Q => ∃ a o, x = .ref a ∧ DGet H a y o ∧ Q (.bl o.isSome) H, ?_, _, _, rfl, g, h⟩
  intro pins s σ H y x v u Q I ry rx h
  obtain ⟨a, o, rfl, g, q⟩ := h
  obtain rfl : u = Value.ref a := rx
  exact d_in c.hu I g ry fun s3 I3 => ⟨.bl o.isSome, H, I3, rfl, q⟩
theorem o_notInD (c : CI X P w K mg base N nm j) {p : Addr} {y : V} {r : Option V} (g : DGet H p y r) (h : Q (.bl (!r.isSome)) H) : oS X (compareOp .NotIn) y (.ref p) H Q := by
  refine ⟨fun y x H Q => ∃ a o, x = .ref a ∧ DGet H a y o ∧ Q (.bl (!o.isSome)) H, ?_, _, _, rfl, g, h⟩
  intro pins s σ H y x v u Q I ry rx h
  obtain ⟨a, o, rfl, g, q⟩ := h
  obtain rfl : u = Value.ref a := rx
  exact d_notIn c.hu I g ry fun s3 I3 => ⟨.bl (!o.isSome), H, I3, rfl, q⟩
/-! slices -/
def cut {α : Type} (z : List α) (lo hi : Option Int) : List α := (z.drop (HT.sIx z.length 0 lo)).take (HT.sIx z.length z.length hi - HT.sIx z.length 0 lo)
theorem l_lst (c : CI X P w K mg base N nm j) {p : Addr} {xs : List V} {lo hi : Option Int} (hp : SqL K H p xs) (h : ∀ r H', New H r (.lst (cut xs lo hi)) H' → Q (.ref r) H') : lS X (.ref p) lo hi H Q := by
  have e := c.K
  subst e
  exact ⟨_, sl_list, _, _, rfl, hp, fun r hr => h r _ ⟨hr, rfl⟩⟩
theorem l_str {z : List Nat} {lo hi : Option Int} (hz : z.length ≤ 1000000) (h : Q (.str (S (cut z lo hi))) H) : lS X (.str (S z)) lo hi H Q :=
  ⟨_, sl_str, _, rfl, by rw [S_len]; exact sz_le hz, by
    have e : cutS (S z) lo hi = S (cut z lo hi) := by simp [cutS, S, cut, Str.length]
    rw [e]; exact h⟩
theorem e_revL (c : CI X P w K mg base N nm j) {e : Expr} {k : Nat} {p1 p2 p3 pos : Pos} (h : eS X e σ H fun x H1 => ∃ a xs, x = .ref a ∧ SqL K H1 a xs ∧ ∀ p H2, New H1 p (.lst xs.reverse) H2 → Q (.ref p) H2) : eS X (.Subscript e (.Slice none none (some (.UnaryOp .USub (.Constant (.int 1) k p1) p2)) p3) pos) σ H Q := by
  have e := c.K
  subst e
  exact ⟨_, pe_revL eS_is, eS_mono h fun x H1 ⟨a, xs, e, hq, k⟩ => ⟨a, xs, e, hq, fun p hp => k p _ ⟨hp, rfl⟩⟩⟩
/-! built-ins -/
theorem c_lenL (c : CI X P w K mg base N nm j) {p : Addr} {xs : List V} (hp : SqL K H p xs) (h : Q (.int xs.length) H) : cS X (.builtin "len") [.ref p] H Q := by
  have e := c.K
  subst e
  exact ⟨_, call_len, _, _, rfl, .inl ⟨_, hp, rfl⟩, h⟩
theorem c_lenT (c : CI X P w K mg base N nm j) {p : Addr} {xs : List V} (hp : SqT K H p xs) (h : Q (.int xs.length) H) : cS X (.builtin "len") [.ref p] H Q := by
  have e := c.K
  subst e
  exact ⟨_, call_len, _, _, rfl, .inr ⟨_, hp, rfl⟩, h⟩
theorem c_lenS {z : List Nat} (hz : z.length ≤ 1000000) (h : Q (.int z.length) H) : cS X (.builtin "len") [.str (S z)] H Q := ⟨_, call_len, _, _, rfl, ⟨by rw [S_len]; exact sz_le hz, rfl⟩, by rw [S_len]; exact h⟩
theorem c_intI {i : Int} (h : Q (.int i) H) : cS X (.type "int") [.int i] H Q := ⟨_, call_int1, .inl ⟨_, rfl, h⟩⟩
theorem c_intB {b : Bool} (h : Q (.int (if b then 1 else 0)) H) : cS X (.type "int") [.bl b] H Q := ⟨_, call_int1, .inr ⟨_, rfl, h⟩⟩
theorem c_intS {z : List Nat} {n : Int} (hn : PySem.intText? (S z) = some n) (hl : z.length ≤ 640) (h : Q (.int n) H) : cS X (.type "int") [.str (S z)] H Q := ⟨_, call_int_str, _, _, rfl, hn, by rw [S_len]; exact hl, h⟩
theorem c_strI {i : Int} (hz : i.natAbs.log2 < 1920) (h : Q (.str (S (cs (toString i : String)))) H) : cS X (.type "str") [.int i] H Q := ⟨_, call_str_int, _, rfl, hz, by rw [← S_cs ((toString i : String) : Str)]; exact h⟩
theorem c_sum (c : CI X P w K mg base N nm j) {p : Addr} {ns : List Int} (hp : SqL K H p (ns.map V.int)) (h : Q (.int ns.sum) H) : cS X (.builtin "sum") [.ref p] H Q := by
  have e := c.K
  subst e
  exact ⟨_, cr_sum c.calm, _, _, rfl, hp, h⟩
theorem c_max2 (c : CI X P w K mg base N nm j) {a b : Int} (h : Q (.int (max a b)) H) : cS X (.builtin "max") [.int a, .int b] H Q := ⟨_, call_max2 c.calm, _, _, rfl, by rw [show (if b > a then b else a) = max a b by omega]; exact h⟩
theorem c_min2 (c : CI X P w K mg base N nm j) {a b : Int} (h : Q (.int (min a b)) H) : cS X (.builtin "min") [.int a, .int b] H Q := ⟨_, call_min2 c.calm, _, _, rfl, by rw [show (if b < a then b else a) = min a b by omega]; exact h⟩
theorem c_abs {a : Int} (h : Q (.int (if a < 0 then -a else a)) H) : cS X (.builtin "abs") [.int a] H Q := ⟨_, call_abs, _, rfl, h⟩
theorem c_listL (c : CI X P w K mg base N nm j) {p : Addr} {xs : List V} (hp : SqL K H p xs) (h : ∀ r H', New H r (.lst xs) H' → Q (.ref r) H') : cS X (.type "list") [.ref p] H Q := by
  have e := c.K
  subst e
  exact ⟨_, call_list_of, _, _, rfl, .inl hp, fun r hr => h r _ ⟨hr, rfl⟩⟩
theorem c_listT (c : CI X P w K mg base N nm j) {p : Addr} {xs : List V} (hp : SqT K H p xs) (h : ∀ r H', New H r (.lst xs) H' → Q (.ref r) H') : cS X (.type "list") [.ref p] H Q := by
  have e := c.K
  subst e
  exact ⟨_, call_list_of, _, _, rfl, .inr hp, fun r hr => h r _ ⟨hr, rfl⟩⟩
theorem c_tupleL (c : CI X P w K mg base N nm j) {p : Addr} {xs : List V} (hp : SqL K H p xs) (h : ∀ r H', New H r (.tup xs) H' → Q (.ref r) H') : cS X (.type "tuple") [.ref p] H Q := by
  have e := c.K
  subst e
  exact ⟨_, call_tuple_of, _, _, rfl, .inl ⟨hp, fun r hr => h r _ ⟨hr, rfl⟩⟩⟩
/-! methods -/
theorem ty_lst {p : Addr} {xs : List V} (hp : SqL K H p xs) : tyV K "list" (.ref p) H := .inl ⟨rfl, _, hp⟩
theorem m_append {p : Addr} {xs : List V} {y : V} (hp : H p = some (.lst xs)) (hl : xs.length < 1000000) (h : Q .non (upd H p (.lst (xs ++ [y])))) : mS X "list.append" (.ref p) [y] H Q := ⟨_, mt_append, _, _, _, rfl, rfl, hp, sz_lt hl, h⟩
theorem m_pop {p : Addr} {xs : List V} {y : V} (hp : H p = some (.lst xs)) (hy : xs[xs.length - 1]? = some y) (h : Q y (upd H p (.lst xs.dropLast))) : mS X "list.pop" (.ref p) [] H Q := ⟨_, mt_pop, _, _, _, rfl, rfl, hp, hy, h⟩
theorem m_reverse {p : Addr} {xs : List V} (hp : H p = some (.lst xs)) (h : Q .non (upd H p (.lst xs.reverse))) : mS X "list.reverse" (.ref p) [] H Q := ⟨_, mt_reverse, _, _, rfl, rfl, hp, h⟩
end
end Go

namespace Enu
open PySem PySem.Spec PyProof.Rows L2 PySem.W

theorem no_len : typeLookup (.type "enumerate") "__len__" = pure none := by rw [typeLookup_type, builtinLookup_eq_fast]; kernel_rfl
theorem no_hint : typeLookup (.type "enumerate") "__length_hint__" = pure none := by rw [typeLookup_type, builtinLookup_eq_fast]; kernel_rfl

/-- an enumerate that has handed out a tuple which still lives, or none yet -/
def EnG (h : Heap) (e it : Addr) (i : Int) (old o0 : Value) (f : Bool) : Prop :=
  h.get? e = some { cls := .type "enumerate", dict := none, data := .fields #[o0, .bool f, .ref it, rawInt i, .none, old], slots := #[] }
def EnSt (h : Heap) (e it l : Addr) (S : Addr) (i : Nat) : Prop :=
  h.IsListIter it l i ∧ (IsEnum h e it i .none ∨ ∃ (x : Value) (T : Addr) (f : Bool) (oT : Obj), EnG h e it i x (rawInt T) f ∧ h.get? T = some oT ∧ T ≠ e ∧ T ≠ it ∧ T ≠ S)

section
variable {prog : Program} {w : World} {A : Around} {E : Value → Shared → Prop} {s : Shared}

theorem next_out {e it l T : Addr} {i : Nat} {items : Array Value} {x old : Value} {f : Bool} {oT : Obj} {Q : Value → Shared → Prop} (he : EnG s.heap e it i old (rawInt T) f) (hit : s.heap.IsListIter it l i) (hl : s.heap.IsList l items) (hx : items[i]? = some x) (hne : e ≠ it)
    (hT : s.heap.get? T = some oT) (hTe : T ≠ e) (hTi : T ≠ it)
    (hQ : ∀ h', EnG h' e it ((i : Int) + 1) old (rawInt T) true → h'.IsListIter it l (i + 1) → h'.get? s.heap.objs.size = some { cls := .type "tuple", data := .seq #[.int i s.toks, x] } → h'.objs.size = s.heap.objs.size + 1 →
      (∀ b o, b ≠ e → b ≠ it → s.heap.get? b = some o → h'.get? b = some o) → Q (.ref s.heap.objs.size) { s with heap := h', toks := s.toks + 1 }) :
    wpAny (model prog w) A (Builtin.«enumerate.__next__» ⟨[.ref e], []⟩) (fun fin s' => ∃ v, fin = .done (.ret v) ∧ Q v s') E s := by
  obtain ⟨hp, g, d, tk, os⟩ := s
  show wpAny _ _ (field (.ref e) 2 >>= _) _ _ _
  refine wpAny_bind (wpAny_field he rfl (x := .ref it) rfl ?_)
  refine wpAny_bind (wpAny_nextOf_list_item hit hl hx fun h1 hit1 hs1 => ?_)
  replace hs1 : Heap.SameBut it hp h1 := hs1
  have he1 : EnG h1 e it i old (rawInt T) f := (hs1.2 e hne).trans he
  have hT1 : h1.get? T = some oT := (hs1.2 T hTi).trans hT
  show wpAny _ _ (field (.ref e) 3 >>= _) _ _ ⟨h1, g, d, tk, os⟩
  refine wpAny_bind (wpAny_field he1 rfl (x := rawInt i) rfl ?_)
  show wpAny _ _ (field (.ref e) 4 >>= _) _ _ ⟨h1, g, d, tk, os⟩
  refine wpAny_bind (wpAny_field he1 rfl (x := .none) rfl ?_)
  show wpAny _ _ (mkInt i >>= _) _ _ ⟨h1, g, d, tk, os⟩
  refine wpAny_bind (wpAny_mkInt ?_)
  show wpAny _ _ (setField (.ref e) 3 (rawInt ((i : Int) + 1)) >>= _) _ _ ⟨h1, g, d, tk + 1, os⟩
  refine wpAny_bind (wpAny_setField_rec he1 (by simp) fun h2 he2 hs2 => ?_)
  replace hs2 : Heap.SameBut e h1 h2 := hs2
  replace he2 : EnG h2 e it ((i : Int) + 1) old (rawInt T) f := he2
  show wpAny _ _ (setField (.ref e) 4 .none >>= _) _ _ ⟨h2, g, d, tk + 1, os⟩
  refine wpAny_bind (wpAny_setField_rec he2 (by simp) fun h3 he3 hs3 => ?_)
  replace hs3 : Heap.SameBut e h2 h3 := hs3
  replace he3 : EnG h3 e it ((i : Int) + 1) old (rawInt T) f := he3
  have hT3 : h3.get? T = some oT := (hs3.2 T hTe).trans ((hs2.2 T hTe).trans hT1)
  show wpAny _ _ (newTuple [.int i tk, x] >>= _) _ _ ⟨h3, g, d, tk + 1, os⟩
  refine wpAny_bind (wpAny_newTuple ?_)
  have he4 : EnG (h3.push { cls := .type "tuple", data := .seq #[.int i tk, x] }) e it ((i : Int) + 1) old (rawInt T) f := Heap.get?_push_of_some _ he3
  have hT4 : (h3.push { cls := .type "tuple", data := .seq #[.int i tk, x] }).get? T = some oT := Heap.get?_push_of_some _ hT3
  generalize hh4 : h3.push { cls := .type "tuple", data := .seq #[.int i tk, x] } = h4 at he4 hT4
  have hsz : h3.objs.size = hp.objs.size := by rw [hs3.1, hs2.1, hs1.1]
  have hel : e < hp.objs.size := Heap.lt_size he
  have ht4 : h4.get? hp.objs.size = some { cls := .type "tuple", data := .seq #[.int i tk, x] } := by rw [← hh4, ← hsz]; exact Heap.get?_push_size _ rfl
  have hz4 : h4.objs.size = hp.objs.size + 1 := by rw [← hh4, Heap.size_push, hsz]
  have hk4 : ∀ b o, b ≠ e → b ≠ it → hp.get? b = some o → h4.get? b = some o := fun b o hbe hbi hb => by
    rw [← hh4]; exact Heap.get?_push_of_some _ (hs3.extBut b o hbe (hs2.extBut b o hbe (hs1.extBut b o hbi hb)))
  have hit4 : h4.IsListIter it l (i + 1) := by
    rw [← hh4]; obtain ⟨o, ho, r⟩ := (hit1.extBut hs2.extBut (Ne.symm hne)).extBut hs3.extBut (Ne.symm hne); exact ⟨o, Heap.get?_push_of_some _ ho, r⟩
  show wpAny _ _ (Builtin.SmallTypes.ownedTupleIsFree (.ref e) >>= _) _ _ ⟨h4, g, d, tk + 1, os⟩
  rw [hsz]
  clear hh4 he3 hs3 he2 hs2 he1 hs1 hit1 hsz hT3 hT1
  refine wpAny_bind ?_
  unfold Builtin.SmallTypes.ownedTupleIsFree
  refine wpAny_bind (wpAny_field he4 rfl (x := rawInt T) rfl ?_)
  show wpAny _ _ (loadIfAlive ((T : Int).toNat) >>= _) _ _ _
  rw [Int.toNat_natCast]
  refine wpAny_bind (kdx_alive hT4 ?_)
  simp only [Option.isNone_some, Bool.false_eq_true, if_false]
  refine wpAny_bind (wpAny_field he4 rfl (x := .bool f) rfl ?_)
  cases f with
  | true =>
    rw [if_neg (show ¬ ((Value.bool true != Value.bool true) = true) from Bool.false_ne_true)]
    refine wpAny_pure ?_
    simp only [Bool.false_eq_true, if_false]
    exact wpAny_pure (⟨_, rfl, hQ h4 he4 hit4 ht4 hz4 hk4⟩)
  | false =>
    rw [if_pos (show (Value.bool false != Value.bool true) = true from rfl)]
    refine wpAny_bind (wpAny_setField_rec he4 (by simp) fun h5 he5 hs5 => ?_)
    replace hs5 : Heap.SameBut e h4 h5 := hs5
    replace he5 : EnG h5 e it ((i : Int) + 1) old (rawInt T) true := he5
    refine wpAny_pure ?_
    simp only [Bool.false_eq_true, if_false]
    exact wpAny_pure (⟨_, rfl, hQ h5 he5 (hit4.extBut hs5.extBut (Ne.symm hne)) (hs5.extBut _ _ (Nat.ne_of_gt hel) ht4) (by rw [hs5.1, hz4]) fun b o hbe hbi hb => hs5.extBut b o hbe (hk4 b o hbe hbi hb)⟩)
theorem pn_out {e it l T : Addr} {i : Nat} {items : Array Value} {x old : Value} {f : Bool} {oT : Obj} {Q : Option Value → Shared → Prop} (he : EnG s.heap e it i old (rawInt T) f) (hit : s.heap.IsListIter it l i) (hl : s.heap.IsList l items) (hx : items[i]? = some x) (hne : e ≠ it)
    (hT : s.heap.get? T = some oT) (hTe : T ≠ e) (hTi : T ≠ it)
    (hQ : ∀ h', EnG h' e it ((i : Int) + 1) old (rawInt T) true → h'.IsListIter it l (i + 1) → h'.get? s.heap.objs.size = some { cls := .type "tuple", data := .seq #[.int i s.toks, x] } → h'.objs.size = s.heap.objs.size + 1 →
      (∀ b o, b ≠ e → b ≠ it → s.heap.get? b = some o → h'.get? b = some o) → Q (some (.ref s.heap.objs.size)) { s with heap := h', toks := s.toks + 1 }) :
    wpAny (model prog w) A (pyNext (.ref e)) Q E s := by
  have hTy : s.TypeIs (.ref e) "enumerate" := ⟨_, he, rfl⟩
  unfold pyNext
  exact wpAny_bind (wpAny_attempt (wpAny_callSpecial?_slot (name := Str.ofString "__next__") hTy F.slot_enumerate_next
    (wpAny_call_entry F.slot_enumerate_next hTy F.entry_enumerate_next (next_out he hit hl hx hne hT hTe hTi fun h' a b c d k => wpAny_pure (hQ h' a b c d k)) (F.args_enumerate_next_1 _))))
theorem pn_end {e it l : Addr} {i : Nat} {items : Array Value} {o0 old : Value} {f : Bool} {Q : Option Value → Shared → Prop} (hh : A.handled = none) (he : EnG s.heap e it i old o0 f) (hit : s.heap.IsListIter it l i) (hl : s.heap.IsList l items) (hx : items[i]? = none)
    (hQ : ∀ h', Heap.ExtBut it s.heap h' → Q none { s with heap := h' }) : wpAny (model prog w) A (pyNext (.ref e)) Q E s := by
  have hT : s.TypeIs (.ref e) "enumerate" := ⟨_, he, rfl⟩
  unfold pyNext
  refine wpAny_bind (wpAny_attempt (wpAny_callSpecial?_slot (name := Str.ofString "__next__") hT F.slot_enumerate_next (wpAny_call_entry F.slot_enumerate_next hT F.entry_enumerate_next ?_ (F.args_enumerate_next_1 _))))
  show wpAny _ _ (field (.ref e) 2 >>= _) _ _ _
  refine wpAny_bind (wpAny_field he rfl (x := .ref it) rfl ?_)
  refine wpAny_bind (wpAny_nextOf_list_end hh hit hl hx fun h' x he' hx' => ?_)
  obtain ⟨o, ho, hc⟩ := hx'
  refine wpAny_bind (wpAny_isInstance (T := "StopIteration") (b := true) ⟨o, ho, hc⟩ isSubtype_stop ?_)
  exact wpAny_pure (hQ _ he')
theorem st_item {e it l S : Addr} {i : Nat} {items : Array Value} {x : Value} {Q : Option Value → Shared → Prop} (hst : EnSt s.heap e it l S i) (hl : s.heap.IsList l items) (hx : items[i]? = some x) (hne : e ≠ it) (hS : S < s.heap.objs.size)
    (hQ : ∀ h' tk, EnSt h' e it l S (i + 1) → (∃ t, h'.get? s.heap.objs.size = some { cls := .type "tuple", data := .seq #[.int i t, x] }) → h'.objs.size = s.heap.objs.size + 1 →
      (∀ b o, b ≠ e → b ≠ it → s.heap.get? b = some o → h'.get? b = some o) → Q (some (.ref s.heap.objs.size)) { s with heap := h', toks := tk }) :
    wpAny (model prog w) A (pyNext (.ref e)) Q E s := by
  have c1 : ((i + 1 : Nat) : Int) = (i : Int) + 1 := by omega
  obtain ⟨hit, he | ⟨y, T, f, oT, he, hT, hTe, hTi, hTS⟩⟩ := hst
  · have hel : e < s.heap.objs.size := Heap.lt_size he
    have hil : it < s.heap.objs.size := by obtain ⟨_, q, _⟩ := hit; exact Heap.lt_size q
    refine wpAny_pyNext_enum_item he hit hl hx hne fun h' ho hit' ht hz hk => hQ h' _ ⟨hit', .inr ⟨x, s.heap.objs.size, false, _, ?_, ht, Nat.ne_of_gt hel, Nat.ne_of_gt hil, Nat.ne_of_gt hS⟩⟩ ⟨_, ht⟩ hz hk
    unfold EnG; rw [c1]; exact ho
  · refine pn_out he hit hl hx hne hT hTe hTi fun h' ho hit' ht hz hk => hQ h' _ ⟨hit', .inr ⟨y, T, true, oT, ?_, hk T oT hTe hTi hT, hTe, hTi, hTS⟩⟩ ⟨_, ht⟩ hz hk
    unfold EnG; rw [c1]; exact ho
theorem st_done {e it l S : Addr} {i : Nat} {items : Array Value} {Q : Option Value → Shared → Prop} (hh : A.handled = none) (hst : EnSt s.heap e it l S i) (hl : s.heap.IsList l items) (hx : items[i]? = none)
    (hQ : ∀ h', Heap.ExtBut it s.heap h' → Q none { s with heap := h' }) : wpAny (model prog w) A (pyNext (.ref e)) Q E s := by
  obtain ⟨hit, he | ⟨y, T, f, oT, he, hT, hTe, hTi, hTS⟩⟩ := hst
  · exact wpAny_pyNext_enum_end hh he hit hl hx hQ
  · exact pn_end hh he hit hl hx hQ
theorem EnSt.keep {h h' : Heap} {e it l S : Addr} {i : Nat} (hst : EnSt h e it l S i) (k : ∀ b o, b ≠ S → h.get? b = some o → h'.get? b = some o) (hne : e ≠ S) (hni : it ≠ S) : EnSt h' e it l S i := by
  obtain ⟨hit, he | ⟨y, T, f, oT, he, hT, hTe, hTi, hTS⟩⟩ := hst
  · exact ⟨hit.at fun o q => k it o hni q, .inl (k e _ hne he)⟩
  · exact ⟨hit.at fun o q => k it o hni q, .inr ⟨y, T, f, oT, k e _ hne he, k T _ hTS hT, hTe, hTi, hTS⟩⟩
end

/-- the pairs (0, x0), (1, x1) .. at the addresses as, which lie above lo and rise -/
structure EnL (items : Array Value) (lo : Addr) (h : Heap) (as : List Addr) : Prop where
  rise : as.Pairwise (· < ·)
  above : ∀ a ∈ as, lo < a
  pairs : ∀ (j : Nat) (a : Addr), as[j]? = some a → ∃ (hj : j < items.size) (t : Tok), h.get? a = some { cls := .type "tuple", data := .seq #[.int j t, items[j]] }
theorem EnL.there {items : Array Value} {lo : Addr} {h : Heap} {as : List Addr} (g : EnL items lo h as) {a : Addr} (ha : a ∈ as) : a < h.objs.size := by
  obtain ⟨j, hj⟩ := List.mem_iff_getElem?.mp ha
  obtain ⟨_, _, e⟩ := g.pairs j a hj
  exact Heap.lt_size e

section
variable {prog : Program} {w : World} {A : Around} {s : Shared} {R : Result → Shared → Prop} {items : Array Value}
theorem loop {S e it l : Addr} (hh : A.handled = none) (hSe : e ≠ S) (hSi : it ≠ S) (hSl : l ≠ S) (hle : l ≠ e) (hli : l ≠ it) (hne : e ≠ it) (hn : items.size ≤ sizeLine) (res : Value) {h1 : Heap} (lo : Addr) (hloS : S ≤ lo) (hloe : e ≤ lo) (hloi : it ≤ lo)
    (hR : ∀ h' tk acc c as, (∀ b o, b ≠ S → b ≠ e → b ≠ it → h1.get? b = some o → h'.get? b = some o) → h'.get? S = some { cls := .type "list", dict := none, data := .seq acc c, slots := #[] } → as.length = items.size → EnL items lo h' as →
      acc.toList = as.map Value.ref → R (.ok (.ret res)) { s with heap := h', toks := tk }) :
    ∀ (k i : Nat) (h : Heap) (tk c : Nat) (acc : Array Value) (as : List Addr), items.size - i = k → i ≤ items.size → EnSt h e it l S i → h.IsList l items → (∀ b o, b ≠ S → b ≠ e → b ≠ it → h1.get? b = some o → h.get? b = some o) →
      h.get? S = some { cls := .type "list", dict := none, data := .seq acc c, slots := #[] } → acc.toList = as.map Value.ref → as.length = i → EnL items lo h as → lo < h.objs.size →
      codeAny (model prog w) A (.builtin "list.extend.loop" ⟨[.ref S, .ref e, res], []⟩) R { s with heap := h, toks := tk } := by
  intro k
  induction k with
  | zero =>
    intro i h tk c acc as hk hi hst hL hkeep hS hacc hal hG hIs
    refine codeAny_builtin PySem.F.entry_extend_loop ?_
    rw [Around.under_plainId PySem.F.plain_extend_loop _]
    show wpAny _ A.in1 (pyNext (.ref e) >>= _) _ _ _
    refine wpAny_bind (st_done (s := { s with heap := h, toks := tk }) (A := A.in1) hh hst hL (Array.getElem?_eq_none (by omega)) fun h' he => ?_)
    refine wpAny_pure (hR h' tk acc c as (fun b o h1 h2 h3 e => he b o h3 (hkeep b o h1 h2 h3 e)) (he S _ (Ne.symm hSi) hS) (by omega) ⟨hG.rise, hG.above, fun j a hj => ?_⟩ hacc)
    obtain ⟨hj', t, e3⟩ := hG.pairs j a hj
    exact ⟨hj', t, he a _ (Nat.ne_of_gt (Nat.lt_of_le_of_lt hloi (hG.above a (List.mem_of_getElem? hj)))) e3⟩
  | succ k ih =>
    intro i h tk c acc as hk hi hst hL hkeep hS hacc hal hG hIs
    have hlt : i < items.size := by omega
    have hsz : acc.size = i := by rw [← Array.length_toList, hacc, List.length_map, hal]
    refine codeAny_builtin PySem.F.entry_extend_loop ?_
    rw [Around.under_plainId PySem.F.plain_extend_loop _]
    show wpAny _ A.in1 (pyNext (.ref e) >>= _) _ _ _
    refine wpAny_bind (st_item (s := { s with heap := h, toks := tk }) (S := S) hst hL (Array.getElem?_eq_getElem hlt) hne (Heap.lt_size hS) fun h' tk' hst' ht hz hkp => ?_)
    obtain ⟨t, ht⟩ := ht
    dsimp only at ht hz hkp ⊢
    have hS' := hkp S _ (Ne.symm hSe) (Ne.symm hSi) hS
    have up : ∀ b o, b ≠ S → h'.get? b = some o → (h'.update S (Obj.mapSeq (·.push (Value.ref h.objs.size)))).get? b = some o := fun b o hb e => (Heap.get?_update_other _ _ (Ne.symm hb)).trans e
    have hSlt : S < h.objs.size := Heap.lt_size hS
    show wpAny _ A.in1 (updateSeq S (·.push (Value.ref h.objs.size)) >>= _) _ _ _
    refine wpAny_bind ?_
    refine wpAny_updateSeq hS' rfl (wpAny_pure ⟨plainId_quiet PySem.F.plain_extend_loop _, ih (i + 1) _ tk' _ (acc.push (Value.ref h.objs.size)) (as ++ [h.objs.size]) (by omega) hlt (hst'.keep up hSe hSi) (hL.at fun o q => up l o hSl (hkp l o hle hli q))
      (fun b o h1 h2 h3 q => up b o h1 (hkp b o h2 h3 (hkeep b o h1 h2 h3 q))) (Heap.get?_update_self _ hS' rfl) (by rw [Array.toList_push, hacc, List.map_append]; rfl) (by rw [List.length_append, hal]; rfl) ⟨?_, ?_, ?_⟩ ?_⟩) (by rw [hsz]; omega) (by show (acc.push (Value.ref h.objs.size)).size ≤ sizeLine + 1; rw [Array.size_push, hsz]; omega)
    · refine List.pairwise_append.mpr ⟨hG.rise, List.pairwise_singleton _ _, fun a ha b hb => ?_⟩
      rw [List.mem_singleton.mp hb]
      exact hG.there ha
    · intro a ha
      rcases List.mem_append.mp ha with ha | ha
      · exact hG.above a ha
      · rw [List.mem_singleton.mp ha]; exact hIs
    · intro j b hj
      rcases Nat.lt_trichotomy j as.length with h1 | h1 | h1
      · rw [List.getElem?_append_left h1] at hj
        obtain ⟨hj', t', e3⟩ := hG.pairs j b hj
        have hb := hG.above b (List.mem_of_getElem? hj)
        exact ⟨hj', t', up b _ (Nat.ne_of_gt (Nat.lt_of_le_of_lt hloS hb)) (hkp b _ (Nat.ne_of_gt (Nat.lt_of_le_of_lt hloe hb)) (Nat.ne_of_gt (Nat.lt_of_le_of_lt hloi hb)) e3)⟩
      · subst h1
        have hb : h.objs.size = b := by simpa using hj
        subst hb
        exact ⟨by omega, t, by subst hal; exact up _ _ (Nat.ne_of_gt hSlt) ht⟩
      · have hnone : (as ++ [h.objs.size])[j]? = none := List.getElem?_eq_none (by rw [List.length_append, List.length_singleton]; omega)
        rw [hnone] at hj; cases hj
    · have e : (h'.update S (Obj.mapSeq (·.push (Value.ref h.objs.size)))).get? h.objs.size = _ := up _ _ (Nat.ne_of_gt hSlt) ht
      exact Nat.lt_trans hIs (Heap.lt_size e)
end
section
variable {prog : Program} {w : World} {A : Around} {E : Value → Shared → Prop} {s : Shared} {e it l : Addr} {items : Array Value}
theorem extend {R : Result → Shared → Prop} (hh : A.handled = none) (he : IsEnum s.heap e it 0 .none) (hit : s.heap.IsListIter it l 0) (hl : s.heap.IsList l items) (hne : e ≠ it) (hle : l ≠ e) (hli : l ≠ it) (S : Addr) (hSe : e ≠ S) (hSi : it ≠ S) (hSl : l ≠ S) (heS : e < S) (hiS : it < S) (hS : s.heap.get? S = some { cls := .type "list", data := .seq #[] })
    (hR : ∀ h' tk acc c as, (∀ b o, b ≠ S → b ≠ e → b ≠ it → s.heap.get? b = some o → h'.get? b = some o) → h'.get? S = some { cls := .type "list", dict := none, data := .seq acc c, slots := #[] } → as.length = items.size → EnL items S h' as →
      acc.toList = as.map Value.ref → R (.ok (.ret .none)) { s with heap := h', toks := tk }) (hn : items.size ≤ sizeLine) (c0 : Nat) (hS : s.heap.get? S = some { cls := .type "list", data := .seq #[] c0 }) :
    wpAny (model prog w) A.in1 (Builtin.List.listExtendWith (.ref S) (.ref e) .none)
      (fun fin s' => match fin with | .done f => R (.ok f) s' | .again c' => c'.quiet = true ∧ codeAny (model prog w) A c' R s') (fun e s' => R (.error e) s') s := by
  have hT : s.TypeIs (.ref e) "enumerate" := ⟨_, he, rfl⟩
  unfold Builtin.List.listExtendWith
  refine wpAny_bind (wpAny_typeOf hT ?_)
  have h1 : Builtin.List.listSameRef (.ref S) (.ref e) = false := by simp [Builtin.List.listSameRef, Ne.symm hSe]
  have h2 : (Value.type "enumerate" == Value.type "list") = false := by decide
  have h3 : (Value.type "enumerate" == Value.type "tuple") = false := by decide
  simp only [h1, h2, h3, Bool.or_false, Bool.false_eq_true, if_false]
  refine wpAny_bind (wpAny_pyIter_enum he ?_)
  refine wpAny_bind (wpAny_holding ?_)
  unfold Builtin.List.listLengthHint
  refine wpAny_bind (wpAny_specialOf hT no_len ?_)
  show wpAny _ A.in1 (specialOf (Value.ref e) (Str.ofString "__length_hint__") >>= _) _ _ _
  refine wpAny_bind (wpAny_specialOf hT no_hint ?_)
  refine wpAny_pure ?_
  show wpAny _ A.in1 (rule "list.extend.makes-room" >>= fun _ => Builtin.List.listTouch (.ref S) >>= fun _ => again (.builtin "list.extend.loop" ⟨[.ref S, .ref e, .none], []⟩)) _ _ _
  refine wpAny_bind (wpAny_rule ?_)
  refine wpAny_bind ?_
  show wpAny _ A.in1 (updateSeq S (·.push .none) >>= fun _ => updateSeq S (·.pop)) _ _ _
  refine wpAny_bind (wpAny_updateSeq hS rfl ?_)
  have hS2 := Heap.get?_update_self (Obj.mapSeq (·.push Value.none)) hS rfl
  refine wpAny_updateSeq (hz := by seq_fits) hS2 rfl ?_
  have hS3 := Heap.get?_update_self (Obj.mapSeq (·.pop)) hS2 rfl
  have oth : ∀ b o, b ≠ S → s.heap.get? b = some o → ((s.heap.update S (Obj.mapSeq (·.push Value.none))).update S (Obj.mapSeq (·.pop))).get? b = some o :=
    fun b o hb e => (Heap.get?_update_other _ _ (Ne.symm hb)).trans ((Heap.get?_update_other _ _ (Ne.symm hb)).trans e)
  refine wpAny_pure ⟨plainId_quiet F.plain_extend_loop _, loop (s := s) (h1 := s.heap) (items := items) hh hSe hSi hSl hle hli hne hn .none S (Nat.le_refl _) (Nat.le_of_lt heS) (Nat.le_of_lt hiS) hR items.size 0 _ _ _ #[] [] (Nat.sub_zero _) (Nat.zero_le _) ?_ (hl.at fun o q => oth l o hSl q)
    (fun b o hb _ _ q => oth b o hb q) hS3 rfl rfl ⟨List.Pairwise.nil, (fun _ ha => nomatch ha), (fun j a hj => by simp at hj)⟩ (Heap.lt_size hS3)⟩
  exact EnSt.keep (h := s.heap) ⟨hit, .inl he⟩ oth hSe hSi
theorem init {R : Result → Shared → Prop} (hh : A.handled = none) (he : IsEnum s.heap e it 0 .none) (hit : s.heap.IsListIter it l 0) (hl : s.heap.IsList l items) (hne : e ≠ it) (hle : l ≠ e) (hli : l ≠ it) (S : Addr) (hSe : e ≠ S) (hSi : it ≠ S) (hSl : l ≠ S) (heS : e < S) (hiS : it < S) (hS : s.heap.get? S = some { cls := .type "list", data := .seq #[] })
    (hR : ∀ h' tk acc c as, (∀ b o, b ≠ S → b ≠ e → b ≠ it → s.heap.get? b = some o → h'.get? b = some o) → h'.get? S = some { cls := .type "list", dict := none, data := .seq acc c, slots := #[] } → as.length = items.size → EnL items S h' as →
      acc.toList = as.map Value.ref → R (.ok (.ret .none)) { s with heap := h', toks := tk }) (hn : items.size ≤ sizeLine) :
    wpAny (model prog w) A.in1 (Builtin.«list.__init__» ⟨[.ref S, .ref e], []⟩)
      (fun fin s' => match fin with | .done f => R (.ok f) s' | .again c' => c'.quiet = true ∧ codeAny (model prog w) A c' R s') (fun e s' => R (.error e) s') s := by
  show wpAny _ _ (do let old ← Builtin.List.listItems (.ref S); Builtin.List.listUpdate (.ref S) (fun _ => #[]); letGo old.toList.reverse; Builtin.List.listExtendWith (.ref S) (.ref e) .none) _ _ s
  refine wpAny_bind ?_
  unfold Builtin.List.listItems
  refine wpAny_bind (wpAny_seqItems hS rfl (wpAny_pure ?_))
  show wpAny _ _ (updateSeq S (fun _ => #[]) >>= fun _ => letGo (#[] : Array Value).toList.reverse >>= fun _ => Builtin.List.listExtendWith (.ref S) (.ref e) .none) _ _ s
  refine wpAny_bind (wpAny_updateSeq hS rfl ?_)
  have hS2 := Heap.get?_update_self (Obj.mapSeq (fun _ => (#[] : Array Value))) hS rfl
  have oth : ∀ b o, b ≠ S → s.heap.get? b = some o → (s.heap.update S (Obj.mapSeq (fun _ => (#[] : Array Value)))).get? b = some o :=
    fun b o hb e => (Heap.get?_update_other _ _ (Ne.symm hb)).trans e
  refine wpAny_bind (wpAny_letGo ?_)
  exact extend hh (oth e _ hSe he) (hit.at fun o q => oth it o hSi q) (hl.at fun o q => oth l o hSl q) hne hle hli S hSe hSi hSl heS hiS hS2 (fun h' tk acc c as hk hS' hl hG hacc => hR h' tk acc c as (fun b o hb h2 h3 e => hk b o hb h2 h3 (oth b o hb e)) hS' hl hG hacc) hn _ hS2
/-- list(enumerate(l)), the enumerate object just made -/
theorem call_list {Q : Value → Shared → Prop} (hh : A.handled = none) (he : IsEnum s.heap e it 0 .none) (hit : s.heap.IsListIter it l 0) (hl : s.heap.IsList l items) (hne : e ≠ it) (hle : l ≠ e) (hli : l ≠ it) (hn : items.size ≤ sizeLine)
    (hQ : ∀ h' tk acc c as, (∀ b o, b ≠ e → b ≠ it → s.heap.get? b = some o → h'.get? b = some o) → h'.get? s.heap.objs.size = some { cls := .type "list", dict := none, data := .seq acc c, slots := #[] } → as.length = items.size → EnL items s.heap.objs.size h' as →
      acc.toList = as.map Value.ref → Q (.ref s.heap.objs.size) { s with heap := h', toks := tk }) :
    wpAny (model prog w) A (call (.type "list") [.ref e]) Q E s := by
  refine callType_codes (Q₁ := fun obj s₁ => obj = .ref s.heap.objs.size ∧ s₁ = { s with heap := s.heap.push { cls := .type "list", data := .seq #[] } }) PySem.F.called_list (PySem.F.typeCall_list_1 _) PySem.F.entry_list_init
    (code_list_new _ ⟨rfl, rfl⟩) fun obj s₁ h₁ => ?_
  obtain ⟨rfl, rfl⟩ := h₁
  have hS : (s.heap.push { cls := .type "list", data := .seq #[] }).get? s.heap.objs.size = some { cls := .type "list", data := .seq #[] } := Heap.get?_push_size _ rfl
  have h1 : e < s.heap.objs.size := Heap.lt_size he
  have h2 : it < s.heap.objs.size := let ⟨_, ho, _⟩ := hit; Heap.lt_size ho
  have h3 : l < s.heap.objs.size := let ⟨_, ho, _⟩ := hl; Heap.lt_size ho
  refine ⟨⟨_, hS, rfl⟩, PySem.F.args_list_init_2 _ _, init (items := items) (A := A.in1) hh (Heap.get?_push_of_some _ he) (hit.at fun o q => Heap.get?_push_of_some _ q) (hl.at fun o q => Heap.get?_push_of_some _ q) hne hle hli _ (Nat.ne_of_lt h1) (Nat.ne_of_lt h2) (Nat.ne_of_lt h3) h1 h2 hS (fun h' tk acc c as hk hS' hl hG hacc => ?_) hn⟩
  exact ⟨rfl, hQ h' tk acc c as (fun b o g1 g2 e => hk b o (Nat.ne_of_lt (Heap.lt_size e)) g1 g2 (Heap.get?_push_of_some _ e)) hS' hl hG hacc⟩
end
end Enu

namespace Go
open PySem PySem.Spec PyProof.Rows L2

theorem strs_vals (l : List Nat) {acc : Array Value} (h : ItemsOf (SignAt (S l)) acc l.length) : Vals (l.map fun c => V.str (S [c])) acc.toList := by
  have key : ∀ (n : Nat) (l : List Nat) (vs : List Value), vs.length = l.length → (∀ (j : Nat) v, vs[j]? = some v → ∃ c u, l[j]? = some c ∧ v = Value.str ⟨#[c]⟩ u) → l.length = n → Vals (l.map fun c => V.str (S [c])) vs := by
    intro n
    induction n with
    | zero =>
      intro l vs h1 h2 h3
      cases l with
      | nil =>
        cases vs with
        | nil => exact .nil
        | cons a b => simp at h1
      | cons a b => simp at h3
    | succ n ih =>
      intro l vs h1 h2 h3
      cases l with
      | nil => simp at h3
      | cons c l =>
        cases vs with
        | nil => simp at h1
        | cons v vs =>
          obtain ⟨c', u, e1, e2⟩ := h2 0 v rfl
          have e1 : c = c' := Option.some.inj e1
          subst e1
          refine .cons ⟨u, e2⟩ (ih l vs (by simpa using h1) (fun j v hv => h2 (j + 1) v hv) (by simpa using h3))
  refine key l.length l acc.toList (by rw [Array.length_toList]; exact h.1) (fun j v hv => ?_) rfl
  obtain ⟨c, u, e1, e2⟩ := h.2 j v (by simpa using hv)
  exact ⟨c, u, by simpa [S] using e1, e2⟩
theorem S_size (l : List Nat) : (S l).cps.size = l.length := by simp [S]
theorem repFold (n : Nat) (l : List Nat) : (List.replicate n (S l).cps).foldl (· ++ ·) #[] = (List.replicate n l).flatten.toArray := by
  have key : ∀ (n : Nat) (a : List Nat), (List.replicate n (S l).cps).foldl (· ++ ·) a.toArray = (a ++ (List.replicate n l).flatten).toArray := by
    intro n
    induction n with
    | zero => intro a; simp
    | succ n ih =>
      intro a
      rw [List.replicate_succ, List.foldl_cons]
      have e : (a.toArray ++ (S l).cps) = (a ++ l).toArray := by simp [S]
      rw [e, ih (a ++ l), List.replicate_succ, List.flatten_cons, List.append_assoc]
  simpa using key n []

section
variable {X : Cx} {P : Program} {w : World} {K : PySem.W.Frag} {mg : Str → Option Value} {base : Heap} {N : List Str} {nm : List (Str × NameKind)} {j : Nat} {σ σ' : L2.St} {H G : Hp} {Q : VK} {C : List (Addr × HO)} {pos p p2 : Pos} {e : Expr}

/-- list of a text -/
theorem c_listS (c : CI X P w K mg base N nm j) {z : List Nat} (hz : z.length ≤ 1000000) (h : ∀ r H', New H r (.lst (z.map fun c => V.str (S [c]))) H' → Q (.ref r) H') : cS X (.type "list") [.str (S z)] H Q := by
  refine ⟨fun vs H Q => ∃ z : List Nat, z.length ≤ 1000000 ∧ vs = [.str (S z)] ∧ ∀ r, H r = none → Q (.ref r) (upd H r (.lst (z.map fun c => V.str (S [c])))), ?_, z, hz, rfl, fun r hr => h r _ ⟨hr, rfl⟩⟩
  intro pins s σ H xs us Q I r h
  obtain ⟨z, hz, rfl, q⟩ := h
  cases r with
  | cons r rr =>
    cases rr
    obtain ⟨t, rfl⟩ := r
    have hs : (S z).cps.size ≤ sizeLine := by rw [S_size]; exact sz_le hz
    refine call_list_str (hn := hs) (I.ok.hd c.calm) (S z) t fun h' tk acc c' hk hS hacc => ?_
    rw [S_size] at hacc
    have v := strs_vals z hacc
    refine ⟨.ref _, _, I.laid (t' := tk) (o := .lst (z.map fun c => V.str (S [c]))) hk (Nat.le_refl _) ⟨?_, acc.toList, c', v, ?_⟩, rfl, q _ (I.hok.fresh (Nat.le_refl _))⟩
    · rw [List.length_map]; exact sz_le hz
    · rw [Array.toArray_toList]; exact hS
/-- a text so many times -/
theorem o_repS {z : List Nat} {n : Int} (h1 : 0 ≤ n) (h2 : z.length * n.toNat ≤ 1000000) (h3 : n ≤ 1000000) (h : Q (.str (S (List.replicate n.toNat z).flatten)) H) : oS X (binaryOp .Mult) (.str (S z)) (.int n) H Q := by
  refine ⟨fun x y H Q => ∃ (z : List Nat) (n : Int), x = .str (S z) ∧ y = .int n ∧ 0 ≤ n ∧ z.length * n.toNat ≤ 1000000 ∧ n ≤ 1000000 ∧ Q (.str (S (List.replicate n.toNat z).flatten)) H, ?_, z, n, rfl, rfl, h1, h2, h3, h⟩
  intro pins s σ H x y v u Q I rx ry h
  obtain ⟨z, n, rfl, rfl, h1, h2, h3, q⟩ := h
  obtain ⟨t, rfl⟩ := rx
  obtain ⟨t', rfl⟩ := ry
  have hlen : (S z).length = z.length := S_len z
  have fin : ∀ (y : Str) t' s', y = S (List.replicate n.toNat z).flatten → Inv X pins σ H s' → EP X pins σ Q (.str y t') s' := fun y t' s' e I' => ⟨.str _, H, I', ⟨t', by rw [e]⟩, q⟩
  refine P.mul_str ?_ (fun a b => ?_) (fun a b => ?_) ?_
  · rw [decide_eq_false (by omega), decide_eq_false (by omega)]; rfl
  · rw [hlen]
    have hn : 0 < n := by omega
    intro hgt
    have h4 : ((2 ^ 63 - 1 : Int)) / n < (z.length : Int) := hgt
    have h5 := (Int.ediv_lt_iff_lt_mul hn).mp h4
    have h6 : (z.length : Int) * n ≤ 1000000 := by
      have : ((z.length * n.toNat : Nat) : Int) ≤ 1000000 := by omega
      rw [Int.natCast_mul, Int.toNat_of_nonneg h1] at this
      exact this
    omega
  · rw [hlen]
    have : ¬ (z.length * n.toNat > sizeLine) := by have := sz_le h2; omega
    exact decide_eq_false this
  · by_cases hn : n < 1
    · rw [if_pos hn]
      have e : n = 0 := by omega
      subst e
      exact ⟨by decide, fin _ _ _ (by rfl) (I.tok _)⟩
    · rw [if_neg hn]
      by_cases hc : (n == 1 || (S z).length == 0) = true
      · rw [if_pos hc]
        refine fin _ _ _ ?_ I
        simp only [Bool.or_eq_true, beq_iff_eq] at hc
        rcases hc with hc | hc
        · subst hc; simp
        · rw [hlen] at hc
          have : z = [] := List.length_eq_zero_iff.mp hc
          subst this
          simp
      · rw [if_neg hc, repFold]
        exact ⟨by
          show (S ((List.replicate n.toNat z).flatten)).length ≤ sizeLine
          rw [S_len, List.length_flatten, List.map_replicate, List.sum_replicate_nat, Nat.mul_comm]
          exact sz_le h2, fin _ _ _ rfl (I.tok _)⟩
/-- what list(enumerate(x)) asks: a new list at r of new pairs at ts -/
def EnumK (K : PySem.W.Frag) (H1 : Hp) (x : V) (Q : VK) : Prop := ∃ q xs, x = .ref q ∧ SqL K H1 q xs ∧ ∀ (H' : Hp) (r : Addr) (ts : List Addr), Same H1 H' → ts.length = xs.length → H1 r = none → (∀ t ∈ ts, H1 t = none) → H' r = some (.lst (ts.map V.ref)) → (∀ (i : Nat) (t : Addr) (x : V), ts[i]? = some t → xs[i]? = some x → H' t = some (.tup [.int (i : Nat), x])) → r ∉ ts → Q (.ref r) H'
/-- tuples laid at their addresses -/
def putE : Hp → List Addr → List V → Nat → Hp
  | H, a :: as, x :: xs, i => putE (upd H a (.tup [.int (i : Nat), x])) as xs (i + 1)
  | H, _, _, _ => H
theorem putE_off {b : Addr} : ∀ (as : List Addr) (xs : List V) (i : Nat) (H : Hp), b ∉ as → putE H as xs i b = H b
  | [], _, _, _, _ => rfl
  | _ :: _, [], _, _, _ => rfl
  | a :: as, x :: xs, i, H, h => by
    show putE (upd H a (.tup [.int (i : Nat), x])) as xs (i + 1) b = H b
    rw [putE_off as xs _ _ (fun z => h (List.mem_cons_of_mem _ z)), upd_ne (fun z => h (by rw [z]; exact List.mem_cons_self))]
theorem putE_at : ∀ (as : List Addr) (xs : List V) (i : Nat) (H : Hp), as.Nodup → ∀ (k : Nat) (t : Addr) (x : V), as[k]? = some t → xs[k]? = some x → putE H as xs i t = some (.tup [.int ((i + k : Nat) : Int), x])
  | [], _, _, _, _, k, t, x, h, _ => by simp at h
  | _ :: _, [], _, _, _, k, t, x, _, h => by simp at h
  | a :: as, y :: xs, i, H, hn, 0, t, x, h1, h2 => by
    have e1 : a = t := Option.some.inj h1
    have e2 : y = x := Option.some.inj h2
    subst e1 e2
    show putE (upd H a (.tup [.int (i : Nat), y])) as xs (i + 1) a = _
    rw [putE_off as xs _ _ (List.nodup_cons.mp hn).1, upd_same]
    rfl
  | a :: as, y :: xs, i, H, hn, k + 1, t, x, h1, h2 => by
    show putE (upd H a (.tup [.int (i : Nat), y])) as xs (i + 1) t = _
    rw [putE_at as xs (i + 1) _ (List.nodup_cons.mp hn).2 k t x h1 h2, show i + 1 + k = i + (k + 1) by omega]
theorem vals_refs : ∀ as : List Addr, Vals (as.map V.ref) (as.map Value.ref)
  | [] => .nil
  | _ :: as => .cons rfl (vals_refs as)
/-- list(enumerate(l)) -/
theorem e_listEnum (c : CI X P w K mg base N nm j) {pe : Pos} (g1 : glB nm "list" = true) (m1 : mg "list" = none) (g2 : glB nm "enumerate" = true) (m2 : mg "enumerate" = none) (hs : starEach [e] X.env = [(false, eval e X.env)])
    (hs2 : starEach [.Call (.Name "enumerate" p2) [e] [] pe] X.env = (false, eval (.Call (.Name "enumerate" p2) [e] [] pe) X.env) :: starEach [] X.env)
    (h : eS X e σ H fun x H1 => EnumK K H1 x Q) : eS X (.Call (.Name "list" p) [.Call (.Name "enumerate" p2) [e] [] pe] [] pos) σ H Q := by
  refine ⟨fun σ H Q => eS X e σ H fun x H1 => EnumK K H1 x Q, ⟨fun pins s σ H Q I hq => ?_⟩, h⟩
  have eK := c.K
  subst eK
  refine wpAny_Call_Name_kw (ld_blt I (c.gl g1) (by rw [c.mg]; exact m1) (u := .type "list") (by decide +kernel) ?_)
  refine PyProof.Rows.callWith_type1 ?_ hs2 rfl
  rw [hs2]
  show wpAny _ _ (spliced ((false, eval (.Call (.Name "enumerate" p2) [e] [] pe) X.env) :: backTo pos (starEach [] X.env))) _ _ s
  refine Calls.spliced_cons ?_
  refine Call_ (ld_blt I (c.gl g2) (by rw [c.mg]; exact m2) boot_enumerate (PyProof.Rows.callWith_type1 (thn ((pa_cons eS_is pa_nil hs).run pe pins s σ H (fun vs H1 => ∃ x, vs = [x] ∧ EnumK X.K H1 x Q) I (eS_mono hq fun x H1 q => ⟨x, rfl, q⟩)) fun us s1 q1 => ?_) hs rfl))
  obtain ⟨vs, H1, I1, r1, x, rfl, q, xs, rfl, hqx, k⟩ := q1
  cases r1 with
  | cons r rr =>
    cases rr
    cases r
    obtain ⟨its, rv, pl, hz⟩ := I1.list hqx
    have lx := rv.length
    refine call_enumerate_list pl.isList fun h' he hit hsz hk => ?_
    refine Calls.spliced_nil ?_
    have I2 : Inv X pins σ H1 { s1 with heap := h' } := I1.kept (t' := s1.toks) hk
    have ql : q < s1.heap.objs.size := by obtain ⟨_, e, _⟩ := pl.isList; exact Heap.lt_size e
    refine Enu.call_list (s := { s1 with heap := h' }) (I2.ok.hd c.calm) (by simpa using he) (by simpa using hit) (pl.isList.at fun o z => hk q o z) (Nat.succ_ne_self _) (Nat.ne_of_lt (Nat.lt_succ_of_lt ql)) (Nat.ne_of_lt ql) (by rw [List.size_toArray, ← lx]; exact hz) fun h2 tk acc c2 as hk2 hS hl hG hacc => ?_
    have hS0 : h'.objs.size = s1.heap.objs.size + 2 := hsz
    have hl' : as.length = xs.length := by rw [hl, List.size_toArray, lx]
    have hSn : h'.objs.size ∉ as := fun z => Nat.lt_irrefl _ (hG.above _ z)
    have nd : as.Nodup := List.Pairwise.imp (fun {a b} (h : a < b) => Nat.ne_of_lt h) hG.rise
    have hk3 : ∀ b o, s1.heap.get? b = some o → h2.get? b = some o := fun b o z => hk2 b o (Nat.ne_of_lt (Nat.lt_succ_of_lt (Heap.lt_size z))) (Nat.ne_of_lt (Heap.lt_size z)) (hk b o z)
    have hle : s1.heap.objs.size ≤ h'.objs.size := by omega
    have new : ∀ t ∈ as, H1 t = none := fun t ht => I1.hok.fresh (Nat.le_of_lt (Nat.lt_of_le_of_lt hle (hG.above t ht)))
    have newS : H1 h'.objs.size = none := I1.hok.fresh (by omega)
    have atP := putE_at as xs 0 (upd H1 h'.objs.size (.lst (as.map V.ref))) nd
    have off : ∀ b, b ∉ as → b ≠ h'.objs.size → putE (upd H1 h'.objs.size (.lst (as.map V.ref))) as xs 0 b = H1 b := fun b h1 h2 => by rw [putE_off as xs _ _ h1, upd_ne h2]
    have kp : ∀ b u, H1 b = some u → (putE (upd H1 h'.objs.size (.lst (as.map V.ref))) as xs 0) b = some u := fun b u e => by
      rw [off b (fun z => by rw [new b z] at e; cases e) (fun z => by rw [z, newS] at e; cases e)]
      exact e
    have eS' : putE (upd H1 h'.objs.size (.lst (as.map V.ref))) as xs 0 h'.objs.size = some (.lst (as.map V.ref)) := by rw [putE_off as xs _ _ hSn, upd_same]
    refine ⟨.ref _, putE (upd H1 h'.objs.size (.lst (as.map V.ref))) as xs 0, ?_, rfl, k _ _ as kp hl' newS new eS' (fun i t x h1 h2 => by have := atP i t x h1 h2; rwa [Nat.zero_add] at this) hSn⟩
    refine I1.call' (ch := []) rfl ⟨fun b o q _ _ _ => hk3 b o q, fun b o q _ _ _ => ⟨o.slots, hk3 b o q⟩, fun b o q n _ => ?_, fun b o q _ => ⟨o, hk3 b o q⟩, fun b xs q => kp b _ q, fun b o u q => kp b _ q, fun b ps q => ⟨#[], by rw [kp b _ q]; simp⟩⟩ (fun b u q => ?_) I1.bare fun b z => by simp at z
    · have z1 : b ∉ as := fun z => absurd (Nat.lt_trans (Heap.lt_size q) (Nat.lt_of_le_of_lt hle (hG.above b z))) (Nat.lt_irrefl _)
      have z2 : b ≠ h'.objs.size := fun z => absurd (Nat.lt_of_lt_of_le (Heap.lt_size q) hle) (by rw [z]; exact Nat.lt_irrefl _)
      rw [off b z1 z2]
      exact n
    · by_cases hb : b ∈ as
      · obtain ⟨jx, hj⟩ := List.mem_iff_getElem?.mp hb
        obtain ⟨hj', t, f1⟩ := hG.pairs jx b hj
        have hjx : jx < xs.length := by rw [← hl']; exact (List.getElem?_eq_some_iff.mp hj).1
        have e3 := atP jx b xs[jx] hj (List.getElem?_eq_getElem hjx)
        rw [e3] at q
        cases q
        obtain ⟨qv, g1, g2⟩ := rv.get (List.getElem?_eq_getElem hjx)
        have g3 : its.toArray[jx] = qv := by
          have := List.getElem?_eq_some_iff.mp g1
          simpa using this.2
        rw [g3] at f1
        refine ⟨by show 2 ≤ sizeLine; decide, [.int jx t, qv], .cons ⟨t, by rw [Nat.zero_add]⟩ (.cons g2 .nil), ⟨_, f1, rfl, _, rfl⟩⟩
      · by_cases hb2 : b = h'.objs.size
        · rw [hb2] at q ⊢
          rw [eS'] at q
          cases q
          refine ⟨by rw [List.length_map]; omega, acc.toList, c2, by rw [hacc]; exact vals_refs as, ?_⟩
          rw [Array.toArray_toList]
          exact hS
        · rw [off b hb hb2] at q
          exact (I1.hok b u q).stay (fun d v _ y => hk3 d v y) (fun d y => kp d _ y) fun d xs y => kp d _ y
end
end Go

namespace Go
open PySem PySem.Spec PyProof.Rows L2

/-- texts put one behind another with sep between -/
def joinL (sep : List Nat) : List (List Nat) → List Nat
  | [] => []
  | [x] => x
  | x :: y :: r => x ++ sep ++ joinL sep (y :: r)
theorem joinL_nil : ∀ l : List (List Nat), joinL [] l = l.flatten
  | [] => rfl
  | [x] => by simp [joinL]
  | x :: y :: r => by rw [joinL, joinL_nil (y :: r)]; simp
theorem join_S (sep : List Nat) : ∀ l : List (List Nat), Str.join (S sep) (l.map S) = S (joinL sep l)
  | [] => by rfl
  | [x] => by rfl
  | x :: y :: r => by
    show S x ++ S sep ++ Str.join (S sep) ((y :: r).map S) = S (joinL sep (x :: y :: r))
    rw [join_S sep (y :: r), S_app, S_app]
    rfl
theorem glued_S (sep : List Nat) (l : List (List Nat)) : Txt.join (S sep) (l.map S) = S (joinL sep l) := by
  have e : Txt.join (S sep) (l.map S) = Str.join (S sep) (l.map S) := by
    first
    | rfl
    | exact PySem.StrLaws.glued_eq_join _ _
    | exact PySem.glued_eq_join _ _
  rw [e, join_S]

section
variable {X : Cx} {P : Program} {w : World} {K : PySem.W.Frag} {mg : Str → Option Value} {base : Heap} {N : List Str} {nm : List (Str × NameKind)} {j : Nat} {σ σ' : L2.St} {H G : Hp} {Q : VK} {C : List (Addr × HO)} {pos p p2 : Pos} {e : Expr}
theorem m_join (c : CI X P w K mg base N nm j) {sep : List Nat} {ls : List (List Nat)} {q : Addr} (hq : SqL K H q (ls.map fun l => V.str (S l))) (hl : (ls.map (·.length)).sum + ls.length * sep.length ≤ 1000000) (h : Q (.str (S (joinL sep ls))) H) : mS X "str.join" (.str (S sep)) [.ref q] H Q := by
  have eK := c.K
  subst eK
  refine ⟨_, mt_join, S sep, q, ls.map S, rfl, rfl, .inl (by rw [List.map_map]; exact hq), ?_, by rw [glued_S]; exact h⟩
  have e : (ls.map S).map (·.length) = ls.map (·.length) := by rw [List.map_map]; exact List.map_congr_left fun x _ => S_len x
  rw [e, List.length_map, S_len]
  exact Nat.le_trans hl (by decide)
theorem pick_rev (z : List Nat) : (Builtin.Str.strSliceIndices none none (-1) (S z).length).filterMap ((S z).cps[·]?) = z.reverse := by
  have e1 : Builtin.Str.strSliceIndices none none (-1) (S z).length = sliceRange (((S z).length : Int) - 1) (-1) (-1) := rfl
  rw [e1, PySem.W.krv_sliceRange, S_len]
  have h := PySem.W.krv_all (S z).cps
  have h2 := PySem.W.krv_range z.length
  rw [S_size] at h
  rw [h2, List.filterMap_reverse, h]
  simp [S]
/-- e[::-1], a list or a text -/
def RevK (K : PySem.W.Frag) (H1 : Hp) (x : V) (Q : VK) : Prop := (∃ a xs, x = .ref a ∧ SqL K H1 a xs ∧ ∀ p, H1 p = none → Q (.ref p) (upd H1 p (.lst xs.reverse))) ∨ ∃ z : List Nat, x = .str (S z) ∧ z.length ≤ 1000000 ∧ Q (.str (S z.reverse)) H1
theorem e_revS {k : Nat} {p1 p2 p3 pos : Pos} (h : eS X e σ H fun x H1 => ∃ z : List Nat, x = .str (S z) ∧ z.length ≤ 1000000 ∧ Q (.str (S z.reverse)) H1) : eS X (.Subscript e (.Slice none none (some (.UnaryOp .USub (.Constant (.int 1) k p1) p2)) p3) pos) σ H Q := by
  refine ⟨fun σ H Q => eS X e σ H fun x H1 => ∃ z : List Nat, x = .str (S z) ∧ z.length ≤ 1000000 ∧ Q (.str (S z.reverse)) H1, ⟨fun pins s σ H Q I h => ?_⟩, h⟩
  refine Subscript_ (thn (eS_is.run pins s σ H _ I h) fun v s1 ⟨x, H1, I1, r1, z, ex, hz, q⟩ => ?_)
  subst ex
  obtain ⟨t, rfl⟩ := r1
  have hst : PO X (some (.UnaryOp .USub (.Constant (.int 1) k p1) p2)) (tPart (tUn (rU fun i => .int (-i)) (tC (.int 1)))) := po_some (pe_un un_neg pe_int)
  refine wpAny_Slice (thn (po_none.run pins s1 σ H1 (fun o H2 => o = none ∧ H2 = H1) I1 ⟨rfl, rfl⟩) fun vl s2 ⟨l, H2, I2, pl, el, e2⟩ => ?_)
  subst el e2
  refine thn (po_none.run pins s2 σ H2 (fun o H3 => o = none ∧ H3 = H2) I2 ⟨rfl, rfl⟩) fun vu s3 ⟨u, H3, I3, pu, eu, e3⟩ => ?_
  subst eu e3
  refine thn (hst.run pins s3 σ H3 (fun o H4 => o = some (-1) ∧ H4 = H3) I3 ⟨1, rfl, -1, rfl, rfl, rfl⟩) fun vs s4 ⟨o, H4, I4, ps, eo, e4⟩ => ?_
  subst eo e4
  have I5 : Inv X pins σ H4 { s4 with heap := s4.heap.push { cls := .type "slice", data := .fields #[vl, vu, vs] } } := I4.kept (t' := s4.toks) fun b ob q => Heap.get?_push_of_some _ q
  show wpAny (model X.prog X.w) X.A (subscriptTail e (.Slice none none (some (.UnaryOp .USub (.Constant (.int 1) k p1) p2)) p3) (.str (S z) t) (.ref s4.heap.objs.size)) (EP X pins σ Q) X.xe { s4 with heap := s4.heap.push { cls := .type "slice", data := .fields #[vl, vu, vs] } }
  refine tail_any (ops := [.ref s4.heap.objs.size, .str (S z) t]) (typeIs_str _ _ _) PySem.F.slot_str_getitem.lookup ?_ (by with_unfolding_all rfl)
  obtain ⟨l', rfl, hl'⟩ := IsPart.raw pl
  obtain ⟨u', rfl, hu'⟩ := IsPart.raw pu
  obtain ⟨s', rfl, hs'⟩ := IsPart.raw ps
  cases l' with
  | some a => cases hl'
  | none =>
    cases u' with
    | some a => cases hu'
    | none =>
      cases s' with
      | none => cases hs'
      | some a =>
        have ha : a.1 = -1 := Option.some.inj hs'
        refine wpAny_getItem_str_slice (l := none) (u := none) (st := some a) ⟨_, Heap.get?_push_size _ rfl, rfl, rfl⟩ (by show (a.1 == 0) = false; rw [ha]; rfl) ?_
        show Made.post (if (a.1 == 1 && (Builtin.Str.strSliceIndices none none a.1 (S z).length).length == (S z).length) = true then Made.val (.str (S z) t) else Made.str ⟨((Builtin.Str.strSliceIndices none none a.1 (S z).length).filterMap ((S z).cps[·]?)).toArray⟩) (EP X pins σ Q) _
        rw [ha, if_neg (by simp), pick_rev]
        refine ⟨?_, .str _, H4, I5.tok _, ⟨_, rfl⟩, q⟩
        show (S z.reverse).length ≤ sizeLine
        rw [S_len, List.length_reverse]
        exact sz_le hz
end
end Go

namespace Go
open PySem PySem.Spec PyProof.Rows L2

section
variable {G H : Hp} {C : List (Addr × HO)} {p : Addr} {o : HO} {a b : Addr × HO} {K : PySem.W.Frag} {xs : List V}
theorem Own.at2 (O : Own G (a :: (p, o) :: C) H) : H p = some o := (O.own _ (List.mem_cons_of_mem _ List.mem_cons_self)).1
theorem Own.at3 (O : Own G (a :: b :: (p, o) :: C) H) : H p = some o := (O.own _ (List.mem_cons_of_mem _ (List.mem_cons_of_mem _ List.mem_cons_self))).1
theorem same_sqt {G H : Hp} (s : Same G H) (h : SqT K G p xs) : SqT K H p xs := by
  rcases h with (h | ⟨o, h⟩) | h
  · exact .inl (.inl (s _ _ h))
  · exact .inl (.inr ⟨o, s _ _ h⟩)
  · exact .inr h
theorem k_b {k : Bool} {R : Bool → Prop} (h : R k) : ∃ k', V.bl k = .bl k' ∧ R k' := ⟨k, rfl, h⟩
theorem k_i {i : Int} {R : Int → Prop} (h : R i) : ∃ i', V.int i = .int i' ∧ R i' := ⟨i, rfl, h⟩
theorem k_s {z : List Nat} {R : Prop} (h : R) : (∃ z', V.str (S z) = .str z') ∧ R := ⟨⟨_, rfl⟩, h⟩
/-- an item of a list is changed -/
inductive SetV : List V → Nat → V → List V → Prop
  | here {x v : V} {s : List V} : SetV (x :: s) 0 v (v :: s)
  | there {x v : V} {i : Nat} {s s' : List V} : SetV s i v s' → SetV (x :: s) (i + 1) v (x :: s')
theorem SetV.eq : ∀ {s s' : List V} {i : Nat} {v : V}, SetV s i v s' → s.set i v = s'
  | _, _, _, _, .here => rfl
  | _, _, _, _, .there h => by rw [List.set_cons_succ, h.eq]
theorem p_cell {X : Cx} {ys : List V} {i : Int} {v : V} {R : Hp → Prop} {m : Nat} (O : Own G ((p, .lst xs) :: C) H) (hm : ixN xs.length i = some m) (hs : SetV xs m v ys) (h : ∀ H', Own G ((p, .lst ys) :: C) H' → R H') : pS X (.ref p) (.int i) v H R :=
  p_lst O.at hm (by rw [hs.eq]; exact h _ O.write)
theorem p_cell0 {X : Cx} {x v : V} {R : Hp → Prop} (O : Own G ((p, .lst (x :: xs)) :: C) H) (h : ∀ H', Own G ((p, .lst (v :: xs)) :: C) H' → R H') : pS X (.ref p) (.int 0) v H R :=
  p_cell O (m := 0) (by simp [ixN]) .here h
theorem p_cell1 {X : Cx} {x y v : V} {R : Hp → Prop} (O : Own G ((p, .lst (x :: y :: xs)) :: C) H) (h : ∀ H', Own G ((p, .lst (x :: v :: xs)) :: C) H' → R H') : pS X (.ref p) (.int 1) v H R :=
  p_cell O (m := 1) (by simp [ixN]; omega) (.there .here) h
theorem gp_up {G0 : Hp} (s : Same G0 G) (h : G0 p = some o) : G p = some o := s _ _ h
theorem hp_up (O : Own G C H) (h : G p = some o) : H p = some o := O.same _ _ h
theorem sql_up (O : Own G C H) (h : SqL K G p xs) : SqL K H p xs := O.same.seq h
theorem sqt_up (O : Own G C H) (h : SqT K G p xs) : SqT K H p xs := same_sqt O.same h
theorem i_not {k : Bool} {A B : Prop} (h : if k = true then B else A) : if (!k) = true then A else B := by cases k <;> exact h
theorem i_cases {k : Bool} {A B : Prop} (h1 : k = true → A) (h2 : k = false → B) : if k = true then A else B := by
  cases k
  · exact h2 rfl
  · exact h1 rfl
end
def startL : List Str → List V → L2.St
  | [], _ => []
  | _ :: N, [] => none :: startL N []
  | _ :: N, v :: vs => some v :: startL N vs
theorem startL_eq : ∀ (N : List Str) (vs : List V), vs.length ≤ N.length → start N vs = startL N vs
  | [], [], _ => rfl
  | [], _ :: _, h => by simp at h
  | _ :: N, [], _ => by
    have e := startL_eq N [] (Nat.zero_le _)
    show [] ++ List.replicate (N.length + 1) none = none :: startL N []
    rw [← e]
    simp [L2.start, List.replicate_succ]
  | _ :: N, v :: vs, h => by
    have e := startL_eq N vs (by simpa using h)
    show some v :: (vs.map some ++ List.replicate (N.length + 1 - (vs.length + 1)) none) = some v :: startL N vs
    rw [← e, Nat.add_sub_add_right]
    rfl

/-- a def of the module -/
def Df (K : PySem.W.Frag) (mg : Str → Option Value) (x : Str) (st : Stmt) (ps : List Str) : Prop := ∃ (f : Addr) (fd : FuncData), Fun K x x st f fd ∧ mg x = some (.ref f) ∧ Binds K fd ps [] ∧ ∀ (s : Shared) (us : List Value), us.length = ps.length → BindsTo s fd ⟨us, []⟩ (ps.zip us)
theorem df_mk {K : PySem.W.Frag} {h : Heap} {mg : Str → Option Value} {f : Addr} {x : Str} {st : Stmt} {ps : List Str} {od an : Option Addr} {sl : Array (Option Value)} {oc kV dc pm cd ct : Value} (X : K.In h) (G : h.Ns mainGlobals mg)
    (a : PySem.W.nsIn K mainGlobals x = some (some (.ref f))) (l : K.lookup f = some ⟨oc, od, .func (PySem.W.fnOf x x (defArgs st) (defBody st) (defScope st) .none kV dc pm an cd ct), sl⟩) (c : PySem.W.codeIn K cd x = true) (k : PySem.W.keepIn K (.ref f) = true)
    (b : ∀ (kV doc pm : Value) (an : Option Addr) (cdv ct : Value) (us : List Value), us.length = ps.length → bindArgs (PySem.W.fnOf x x (defArgs st) (defBody st) (defScope st) .none kV doc pm an cdv ct) ⟨us, []⟩ = pure (ps.zip us)) : Df K mg x st ps :=
  ⟨f, _, fun_mk l c k, PySem.W.mg_of X G a, (fun_mk l c k).binds b, fun s us hu => .of_eq (b _ _ _ _ _ _ us hu)⟩

section
variable {P : Program} {w : World} {K : PySem.W.Frag} {mg : Str → Option Value} {base : Heap} {N : List Str}
theorem into {x : Str} {st : Stmt} {f : Addr} {fd : FuncData} {ps : List Str} {sp : Sp} {k : Nat} (F : Fun K x x st f fd) {nm : List (Str × NameKind)} (S : FnScope N ps (defScope st)) (hnm : (defScope st).names = nm) (len : ∀ vs H Q E, sp vs H Q E → vs.length = ps.length) (hl : ps.length ≤ N.length)
    (body : ∀ (X : Cx) (H : Hp) (vs : List V) (Q : VK) (E : XK), CI X P w K mg base N nm k → sp vs H Q E → bS X (defBody st) { nx := fun _ H' => Q .non H', rt := Q } (startL N vs) H) : FnOk P w K mg base CX0 (k + 1) f fd ps sp :=
  enter F S hnm len fun X H vs Q E c h => by
    rw [startL_eq N vs (by rw [len vs H Q E h]; exact hl)]
    exact body X H vs Q E c h
theorem cal_of {x : Str} {st : Stmt} {ps : List Str} {sp : Sp} {k : Nat} (D : Df K mg x st ps) (h : ∀ {f : Addr} {fd : FuncData}, Fun K x x st f fd → FnOk P w K mg base CX0 k f fd ps sp) : Cal P w K mg base k x sp := by
  obtain ⟨f, fd, F, m, b, _⟩ := D
  exact ⟨f, fd, ps, h F, m, F.kp, b⟩
theorem law_fn {x : Str} {st : Stmt} {y : Str} {sp : Sp} {k : Nat} {fa : Addr} (D : Df K mg x st [y]) (hf : mg x = some (.ref fa)) (h : ∀ {base : Heap} {f : Addr} {fd : FuncData}, Fun K x x st f fd → FnOk P w K mg base CX0 k f fd [y] sp) :
    ∃ fd : FuncData, (∀ (s : Shared) (u : Value), BindsTo s fd ⟨[u], []⟩ [(y, u)]) ∧ ∀ base : Heap, K.In base → base.Ns mainGlobals mg → FnOk P w K mg base CX0 k fa fd [y] sp := by
  obtain ⟨f, fd, F, m, b, b2⟩ := D
  rw [m] at hf
  cases hf
  exact ⟨fd, fun s u => b2 s [u] rfl, fun base _ _ => h F⟩
end
end Go

namespace Go
open PySem PySem.Spec PyProof.Rows L2

theorem dp_ints {K : PySem.W.Frag} {H : Hp} : ∀ ns : List Int, DpAll K H (ns.map V.int) (ns.map PyData.int)
  | [] => .nil
  | n :: ns => .cons (.int n) (dp_ints ns)
theorem eqv_ints : ∀ ns ms : List Int, PyData.eqvAll (ns.map PyData.int) (ms.map PyData.int) = decide (ns = ms)
  | [], [] => by simp [PyData.eqvAll]
  | [], _ :: _ => by simp [PyData.eqvAll]
  | _ :: _, [] => by simp [PyData.eqvAll]
  | n :: ns, m :: ms => by
    show (PyData.eqv (.int n) (.int m) && PyData.eqvAll (ns.map PyData.int) (ms.map PyData.int)) = _
    rw [eqv_ints ns ms]
    show ((n == m) && decide (ns = ms)) = _
    by_cases h1 : n = m <;> by_cases h2 : ns = ms <;> simp [h1, h2]
section
variable {X : Cx} {P : Program} {w : World} {K : PySem.W.Frag} {mg : Str → Option Value} {base : Heap} {N : List Str} {nm : List (Str × NameKind)} {j : Nat} {σ σ' : L2.St} {H G : Hp} {Q : VK}
theorem o_eqLI (c : CI X P w K mg base N nm j) {p q : Addr} {ns ms : List Int} (hp : SqL K H p (ns.map V.int)) (hq : SqL K H q (ms.map V.int)) (h : Q (.bl (decide (ns = ms))) H) : oS X (compareOp .Eq) (.ref p) (.ref q) H Q :=
  o_eqD c (.lst hp (dp_ints ns)) (.lst hq (dp_ints ms)) (PySem.W.ke_shaped_ints ns) (PySem.W.ke_shaped_ints ms) (by
    show Q (.bl (PyData.eqvAll (ns.map PyData.int) (ms.map PyData.int))) H
    rw [eqv_ints]; exact h)
theorem o_neLI (c : CI X P w K mg base N nm j) {p q : Addr} {ns ms : List Int} (hp : SqL K H p (ns.map V.int)) (hq : SqL K H q (ms.map V.int)) (h : Q (.bl (!decide (ns = ms))) H) : oS X (compareOp .NotEq) (.ref p) (.ref q) H Q :=
  o_neD c (.lst hp (dp_ints ns)) (.lst hq (dp_ints ms)) (PySem.W.ke_shaped_ints ns) (PySem.W.ke_shaped_ints ms) (by
    show Q (.bl (!PyData.eqvAll (ns.map PyData.int) (ms.map PyData.int))) H
    rw [eqv_ints]; exact h)
theorem cut_to {α : Type} (z : List α) (n : Int) (h : 0 ≤ n) : cut z none (some n) = z.take n.toNat := by
  unfold cut
  obtain ⟨k, rfl⟩ := Int.eq_ofNat_of_zero_le h
  rw [HT.sIx_none, HT.sIx_nat]
  simp only [List.drop_zero, Nat.sub_zero, Int.toNat_natCast]
  rcases Nat.le_total k z.length with h | h
  · rw [Nat.min_eq_left h]
  · rw [Nat.min_eq_right h, List.take_of_length_le (Nat.le_refl _), List.take_of_length_le h]
theorem cut_from {α : Type} (z : List α) (n : Int) (h : 0 ≤ n) : cut z (some n) none = z.drop n.toNat := by
  unfold cut
  obtain ⟨k, rfl⟩ := Int.eq_ofNat_of_zero_le h
  rw [HT.sIx_none, HT.sIx_nat]
  rcases Nat.le_total k z.length with h | h
  · rw [Nat.min_eq_left h, Int.toNat_natCast, List.take_of_length_le (by rw [List.length_drop]; exact Nat.le_refl _)]
  · rw [Nat.min_eq_right h, Int.toNat_natCast, List.drop_of_length_le (Nat.le_refl _), List.drop_of_length_le h]; simp
theorem map_cut {α β : Type} (f : α → β) (z : List α) (lo hi : Option Int) : cut (z.map f) lo hi = (cut z lo hi).map f := by
  unfold cut
  rw [List.length_map, List.map_take, List.map_drop]
end
end Go

namespace Go
open PySem PySem.Spec PyProof.Rows L2

/-- a hand: two numbers -/
def HandO (o : HO) : Prop := ∃ d m : Int, o = .lst [.int d, .int m] ∧ 0 ≤ d ∧ 0 ≤ m ∧ m < 2147483587
theorem abc_at (i : Int) (h0 : 0 ≤ i) (h1 : i < 26) : atI (cs "abcdefghijklmnopqrstuvwxyz") i = some (97 + i.toNat) := by
  obtain ⟨k, rfl⟩ := Int.eq_ofNat_of_zero_le h0
  have h : ∀ k : Fin 26, atI (cs "abcdefghijklmnopqrstuvwxyz") (k.val : Int) = some (97 + k.val) := by decide +kernel
  exact h ⟨k, by omega⟩
theorem Own.frz {G H : Hp} {C : List (Addr × HO)} {p : Addr} {o : HO} (O : Own G ((p, o) :: C) H) : ∃ G', Same G G' ∧ G' p = some o ∧ Own G' C H := ⟨_, O.freeze.2, upd_same, O.freeze.1⟩
theorem atI_get {α : Type} {z : List α} {i : Nat} {v : α} (e : z[i]? = some v) : atI z (i : Int) = some v := by
  have hi : i < z.length := (List.getElem?_eq_some_iff.mp e).1
  unfold atI ixN
  rw [if_pos (by omega), if_pos (by omega)]
  simpa using e
theorem atI_drop {α : Type} {z r : List α} {i : Nat} {v : α} (h : z.drop i = v :: r) : atI z (i : Int) = some v := by
  have e : z[i]? = some v := by
    have := congrArg (fun l : List α => l[0]?) h
    simpa using this
  have hi : i < z.length := (List.getElem?_eq_some_iff.mp e).1
  unfold atI ixN
  rw [if_pos (by omega), if_pos (by omega)]
  simpa using e
theorem drop_succ {α : Type} {z r : List α} {i : Nat} {v : α} (h : z.drop i = v :: r) : z.drop (i + 1) = r := by
  rw [← List.drop_drop, h]; rfl
theorem same_rfl {G : Hp} : Same G G := fun _ _ e => e
theorem same_tr {A B C : Hp} (h : Same A B) (s : Same B C) : Same A C := fun _ _ e => s _ _ (h _ _ e)
section
variable {X : Cx} {P : Program} {w : World} {K : PySem.W.Frag} {mg : Str → Option Value} {base : Heap} {N : List Str} {nm : List (Str × NameKind)} {j : Nat} {σ σ' : L2.St} {H G : Hp} {Q : VK} {D : Ends} {pos p : Pos} {C : List (Addr × HO)} {scope : Scope} {elt tg : Expr} {ifs : List Expr}
theorem bS_join {sts : List Stmt} (Iv : L2.St → Hp → Prop) (h : bS X sts { D with nx := Iv } σ H) (k : ∀ σ' H', Iv σ' H' → D.nx σ' H') : bS X sts D σ H := by
  obtain ⟨t, p, h⟩ := h
  exact ⟨fun D' σ H => ∃ Iv, t { D' with nx := Iv } σ H ∧ ∀ σ' H', Iv σ' H' → D'.nx σ' H', ⟨fun pins s σ H D' I ⟨Iv, h, m⟩ => thn (p.run pins s σ H _ I h) fun f s' q => by
    cases f with
    | next =>
      obtain ⟨σ', H', I', q⟩ := q
      exact ⟨σ', H', I', m _ _ q⟩
    | _ => exact q⟩, Iv, h, k⟩
/-- a branch whose ends meet -/
theorem i_join {q : Bool} {a b : List Stmt} (Iv : L2.St → Hp → Prop) (h1 : q = true → bS X a { D with nx := Iv } σ H) (h2 : q = false → bS X b { D with nx := Iv } σ H) (k : ∀ σ' H', Iv σ' H' → D.nx σ' H') : if q = true then bS X a D σ H else bS X b D σ H := by
  cases q with
  | true => exact bS_join Iv (h1 rfl) k
  | false => exact bS_join Iv (h2 rfl) k
theorem i_joinD {q : Prop} [Decidable q] {a b : List Stmt} (Iv : L2.St → Hp → Prop) (h1 : q → bS X a { D with nx := Iv } σ H) (h2 : ¬ q → bS X b { D with nx := Iv } σ H) (k : ∀ σ' H', Iv σ' H' → D.nx σ' H') : if decide q = true then bS X a D σ H else bS X b D σ H :=
  i_join Iv (fun e => h1 (of_decide_eq_true e)) (fun e => h2 (of_decide_eq_false e)) k
theorem e_join {q : Bool} {a b : Expr} (Iv : VK) (h1 : q = true → eS X a σ H Iv) (h2 : q = false → eS X b σ H Iv) (k : ∀ v H', Iv v H' → Q v H') : if q = true then eS X a σ H Q else eS X b σ H Q := by
  cases q with
  | true => exact eS_mono (h1 rfl) k
  | false => exact eS_mono (h2 rfl) k
theorem Own.swap2 {a b e : Addr × HO} (O : Own G (a :: b :: e :: C) H) : Own G (a :: e :: b :: C) H :=
  ⟨O.same, fun q hq => O.own q (by simp only [List.mem_cons] at hq ⊢; rcases hq with h | h | h | h <;> simp [h]), by
    have n := O.nd
    simp only [List.map_cons, List.nodup_cons, List.mem_cons, not_or] at n ⊢
    exact ⟨⟨n.1.2.1, n.1.1, n.1.2.2⟩, ⟨fun e => n.2.1.1 e.symm, n.2.2.1⟩, n.2.1.2, n.2.2.2⟩⟩
theorem s_while (c : CI X P w K mg base N nm j) {t : Expr} {body : List Stmt} (W : Nat → L2.St → Hp → Prop) (m : Nat) (h0 : W m σ H)
    (h : ∀ m σ H, W m σ H → qS X t σ H fun b H1 => if b = true then bS X body { D with nx := fun σ' H' => ∃ m', m' < m ∧ W m' σ' H', ct := fun σ' H' => ∃ m', m' < m ∧ W m' σ' H', bk := D.nx } σ H1 else D.nx σ H1) : sS X (.While t body [] pos) D σ H :=
  ⟨_, ps_while c.pass qS_is bS_is, W, ⟨m, h0⟩, fun m σ H v => qS_mono (h m σ H v) fun b H1 q => by
    cases b with
    | true => exact ⟨_, fun _ _ z => z, q⟩
    | false => exact q⟩
theorem e_lc1 (c : CI X P w K mg base N nm j) {y : Str} {i : Nat} {iter : Expr} (hi : Ix N y i) (ok : blkC N (scOf nm) scope [(y, i)] = true) (hs : ∀ x, foldedSetIterable iter X.env x = pure x) (h : iS X (.Name y p) iter σ H fun J H1 => LcOn X scope (.Name y p) ifs elt [i] (fun D H => Q (.ref D) H) J σ H1) : eS X (.ListComp elt [⟨.Name y p, iter, ifs, 0⟩] scope pos) σ H Q :=
  e_lc c [(y, i)] (blkOk_by ok) hs h
theorem s_setLc1 (c : CI X P w K mg base N nm j) {y z : Str} {i k : Nat} {p2 spos : Pos} {iter : Expr} (hz : Ix N z k) (hzl : nm.lookup z = some NameKind.local) (hline : (p2.line == pos.line) = true) (ha : (scope.names.any fun (n, k) => n == z && (k == .local || k == .cell)) = false) (hi : Ix N y i) (ok : blkC N (scOf nm) scope [(y, i)] = true) (hs : ∀ x, foldedSetIterable iter X.env x = pure x)
    (h : iS X (.Name y p) iter σ H fun J H1 => LcOn X scope (.Name y p) ifs elt [i] (fun q H => D.nx (σ.set k (some (.ref q))) H) J σ H1) : sS X (.Assign [.Name z p2] (.ListComp elt [⟨.Name y p, iter, ifs, 0⟩] scope pos) spos) D σ H :=
  s_setLc c [(y, i)] hz hzl (sw_true c.kind (c.lo _ hzl) hline ha) (blkOk_by ok) hs h
theorem k_r {i : Int} {R : Int → Prop} (h1 : -(2 ^ 62) ≤ i) (h2 : i < 2 ^ 62) (h : R i) : ∃ n : Int, V.int i = .int n ∧ -(2 ^ 62) ≤ n ∧ n < 2 ^ 62 ∧ R n := ⟨i, rfl, h1, h2, h⟩
theorem i_listK (c : CI X P w K mg base N nm j) {e : Expr} {R : It → Hp → Prop} (h : eS X e σ H fun x H1 => ∃ p xs, x = .ref p ∧ SqL K H1 p xs ∧ R (Itl X.K p) H1) : iS X tg e σ H R := by
  have e := c.K
  subst e
  exact i_list h
theorem i_tupK (c : CI X P w K mg base N nm j) {e : Expr} {R : It → Hp → Prop} (h : eS X e σ H fun x H1 => ∃ p xs, x = .ref p ∧ SqT K H1 p xs ∧ R (Itt X.K p) H1) : iS X tg e σ H R := by
  have e := c.K
  subst e
  exact i_tup h
theorem m_joinC (c : CI X P w K mg base N nm j) {zs : List Nat} {q : Addr} (hq : SqL K H q (zs.map fun x => V.str (S [x]))) (hl : zs.length ≤ 1000000) (h : Q (.str (S zs)) H) : mS X "str.join" (.str (S (cs ""))) [.ref q] H Q := by
  have e : ∀ zs : List Nat, (zs.map fun x => [x]).flatten = zs ∧ (zs.map fun _ => 1).sum = zs.length := fun zs => by
    induction zs with
    | nil => exact ⟨rfl, rfl⟩
    | cons x zs ih => exact ⟨by rw [List.map_cons, List.flatten_cons, ih.1]; rfl, by rw [List.map_cons, List.sum_cons, ih.2, List.length_cons]; omega⟩
  refine m_join c (ls := zs.map fun x => [x]) (by rw [List.map_map]; exact hq) ?_ (by rw [show joinL (cs "") (zs.map fun x => [x]) = zs from (joinL_nil _).trans (e zs).1]; exact h)
  rw [List.map_map, show ((fun l : List Nat => l.length) ∘ fun x => [x]) = fun _ => 1 from rfl, (e zs).2]
  show _ + _ * 0 ≤ _
  omega
theorem rep_len {α : Type} (n : Nat) (z : List α) : (List.replicate n z).flatten.length = n * z.length := by
  induction n with
  | zero => simp
  | succ n ih => rw [List.replicate_succ, List.flatten_cons, List.length_append, ih, Nat.succ_mul]; omega
theorem rep_mem {α : Type} {n : Nat} {z : List α} {x : α} (h : x ∈ (List.replicate n z).flatten) : x ∈ z := by
  obtain ⟨l, hl, hx⟩ := List.mem_flatten.mp h
  rw [(List.mem_replicate.mp hl).2] at hx
  exact hx
theorem o_repT {z : List Nat} {n : Int} (h1 : 0 ≤ n) (h2 : z.length ≤ 1000) (h3 : n ≤ 1000) (h : (List.replicate n.toNat z).flatten.length = n.toNat * z.length → n.toNat * z.length ≤ 1000000 → Q (.str (S (List.replicate n.toNat z).flatten)) H) : oS X (binaryOp .Mult) (.str (S z)) (.int n) H Q := by
  have e : n.toNat * z.length ≤ 1000 * 1000 := Nat.mul_le_mul (by omega) h2
  exact o_repS h1 (by rw [Nat.mul_comm]; omega) (by omega) (h (rep_len _ _) (by omega))
theorem c_int0 (h : Q (.int 0) H) : cS X (.type "int") [.str (S [48])] H Q := c_intS (by decide +kernel) (by decide) h
theorem c_int1 (h : Q (.int 1) H) : cS X (.type "int") [.str (S [49])] H Q := c_intS (by decide +kernel) (by decide) h
theorem c_str0 (h : Q (.str (S [48])) H) : cS X (.type "str") [.int 0] H Q := by
  have e : cs (toString (0 : Int) : String) = [48] := by decide +kernel
  exact c_strI (by decide) (by rw [e]; exact h)
theorem c_str1 (h : Q (.str (S [49])) H) : cS X (.type "str") [.int 1] H Q := by
  have e : cs (toString (1 : Int) : String) = [49] := by decide +kernel
  exact c_strI (by decide +kernel) (by rw [e]; exact h)
theorem p_cell02 {C : List (Addr × HO)} {q : Addr × HO} {x v : V} {xs : List V} {p : Addr} {R : Hp → Prop} (O : Own G (q :: (p, .lst (x :: xs)) :: C) H) (h : ∀ H', Own G (q :: (p, .lst (v :: xs)) :: C) H' → R H') : pS X (.ref p) (.int 0) v H R :=
  p_cell0 O.swap fun H' O' => h H' O'.swap
theorem p_cell12 {C : List (Addr × HO)} {q : Addr × HO} {x y v : V} {xs : List V} {p : Addr} {R : Hp → Prop} (O : Own G (q :: (p, .lst (x :: y :: xs)) :: C) H) (h : ∀ H', Own G (q :: (p, .lst (x :: v :: xs)) :: C) H' → R H') : pS X (.ref p) (.int 1) v H R :=
  p_cell1 O.swap fun H' O' => h H' O'.swap
theorem m_popR {C : List (Addr × HO)} {f : Nat → V} {x : Nat} {r : List Nat} {p : Addr} (O : Own G ((p, .lst (((x :: r).map f).reverse)) :: C) H) (h : ∀ H', Own G ((p, .lst ((r.map f).reverse)) :: C) H' → Q (f x) H') : mS X "list.pop" (.ref p) [] H Q := by
  refine m_pop (y := f x) O.at ?_ ?_
  · simp
  · have e : (((x :: r).map f).reverse).dropLast = (r.map f).reverse := by simp
    rw [e]
    exact h _ O.write
theorem c_isi (c : CI X P w K mg base N nm j) {x : V} {T n : String} {b : Bool} (t : TyX K H x (.type T)) (e : PySem.W.kitOne K (.type T) (.type n) = some b) (h : Q (.bl b) H) : cS X (.builtin "isinstance") [x, .ty n] H Q := by
  have eK := c.K
  subst eK
  exact ⟨_, call_isi, x, .ty n, _, _, b, rfl, .ty n, t, e, h⟩
theorem c_isS (c : CI X P w K mg base N nm j) {z : Str} (h : Q (.bl true) H) : cS X (.builtin "isinstance") [.str z, .ty "str"] H Q := c_isi c (.base (.str z)) rfl h
/-- a branch of an and, whose ends meet -/
theorem ea_join {q : Bool} {e : Expr} {v0 : V} (Iv : VK) (h1 : q = true → eS X e σ H Iv) (h2 : q = false → Iv v0 H) (k : ∀ v H', Iv v H' → Q v H') : if q = true then eS X e σ H Q else Q v0 H := by
  cases q with
  | true => exact eS_mono (h1 rfl) k
  | false => exact k _ _ (h2 rfl)
theorem on_listK (c : CI X P w K mg base N nm j) {body : List Stmt} {q : Addr} {xs : List V} (Pv : Nat → L2.St → Hp → Prop) (h0 : Pv 0 σ H) (hl : ∀ i σ H, i ≤ xs.length → Pv i σ H → SqL K H q xs) (hs : ∀ i x σ H, xs[i]? = some x → Pv i σ H → gS X tg x σ H fun σ2 H2 => bS X body { D with nx := Pv (i + 1), ct := Pv (i + 1), bk := D.nx } σ2 H2) (hd : ∀ σ H, Pv xs.length σ H → D.nx σ H) : ForOn X tg body D (Itl X.K q) σ H := by
  have eK := c.K
  subst eK
  exact on_list Pv h0 hl hs hd
theorem on_tupK (c : CI X P w K mg base N nm j) {body : List Stmt} {q : Addr} {xs : List V} (Pv : Nat → L2.St → Hp → Prop) (h0 : Pv 0 σ H) (hl : ∀ i σ H, i ≤ xs.length → Pv i σ H → SqT K H q xs) (hs : ∀ i x σ H, xs[i]? = some x → Pv i σ H → gS X tg x σ H fun σ2 H2 => bS X body { D with nx := Pv (i + 1), ct := Pv (i + 1), bk := D.nx } σ2 H2) (hd : ∀ σ H, Pv xs.length σ H → D.nx σ H) : ForOn X tg body D (Itt X.K q) σ H := by
  have eK := c.K
  subst eK
  exact on_tup Pv h0 hl hs hd
theorem rep_one (n c : Nat) : (List.replicate n [c]).flatten = List.replicate n c := by
  induction n with
  | zero => rfl
  | succ n ih => rw [List.replicate_succ, List.flatten_cons, ih]; rfl
theorem o_rep0 {n : Nat} (hn : n ≤ 1000) (h : Q (.str (S (List.replicate n 48))) H) : oS X (binaryOp .Mult) (.str (S (cs "0"))) (.int (n : Nat)) H Q :=
  o_repT (by omega) (by decide) (by omega) fun _ _ => by
    rw [show cs "0" = [48] by decide +kernel, Int.toNat_natCast, rep_one]; exact h
theorem o_rep1 {n : Nat} (hn : n ≤ 1000) (h : Q (.str (S (List.replicate n 49))) H) : oS X (binaryOp .Mult) (.str (S (cs "1"))) (.int (n : Nat)) H Q :=
  o_repT (by omega) (by decide) (by omega) fun _ _ => by
    rw [show cs "1" = [49] by decide +kernel, Int.toNat_natCast, rep_one]; exact h
def ixB : Expr → Bool
  | .Slice .. => false
  | _ => true
theorem e_ix {a b : Expr} (hn : ixB b = true) (hs : PlainIx b) (h : eS X a σ H fun x H1 => eS X b σ H1 fun y H2 => xS X x y H2 Q) : eS X (.Subscript a b pos) σ H Q := g_ix hs h
theorem gs_put {i : Nat} {v : V} {es : List Expr} {vs : List V} {R : L2.St → Hp → Prop} (h : Put σ i v σ') (k : gsS X es vs σ' H R) : gsS X es vs (σ.set i (some v)) H R := by rw [h.eq]; exact k
theorem e_put {i : Nat} {v : V} {e : Expr} (h : Put σ i v σ') (k : eS X e σ' H Q) : eS X e (σ.set i (some v)) H Q := by rw [h.eq]; exact k
/-- a comprehension that may write its own cells: Inv by the turn, the list so far, what is frozen, what is owned -/
theorem lr_own {y : Str} {i n : Nat} {Gw : Hp → Prop} {Y : Nat → Hp → V → Hp → Prop} {J : It} {Qd : Addr → Hp → Prop} (Inv : Nat → List V → Hp → List (Addr × HO) → Prop) (c : CI X P w K mg base N nm j) (hi : Ix N y i) (hl : locB scope.names y = true) (hk : scope.kind = .function) (W : Walk J n Gw Y) (hn : n ≤ 1000000) (O : Own G C H) (h0 : Inv 0 [] G C)
    (hG : ∀ G' C' H', Same G G' → Own G' C' H' → Gw H') (hY : ∀ m H x H', Y m H x H' → H' = H)
    (hs : ∀ m x acc G' C' A H', m < n → Inv m acc G' C' → Y m H' x H' → Own G' ((A, .lst acc) :: C') H' → Same G G' → ∀ X', CI X' P w K mg base N scope.names j → eS X' elt (σ.set i (some x)) H' fun y H4 => ∃ G4 C4, Own G4 ((A, .lst acc) :: C4) H4 ∧ Same G' G4 ∧ Inv (m + 1) (acc ++ [y]) G4 C4)
    (hd : ∀ acc G' C' A H', acc.length = n → Inv n acc G' C' → Own G' ((A, .lst acc) :: C') H' → Same G G' → Qd A H') : LcOn X scope (.Name y p) [] elt [i] Qd J σ H := by
  refine lc_name c hi hl hk W fun A hA => ⟨fun m H => ∃ acc G' C', acc.length = m ∧ Inv m acc G' C' ∧ Own G' ((A, .lst acc) :: C') H ∧ Same G G', ⟨[], G, C, rfl, h0, O.cell hA, same_rfl⟩, ?_, ?_, ?_⟩
  · rintro m H' hm ⟨acc, G', C', _, _, O', s⟩
    exact hG _ _ _ s O'
  · rintro m x H1 H2 hm ⟨acc, G', C', hl, iv, O', s⟩ hy X' _ _
    refine ts_nil ?_
    rw [if_pos rfl]
    intro X2 _ c2
    have e := hY _ _ _ _ hy
    subst e
    refine eS_mono (hs m x acc G' C' A H2 hm iv hy O' s X2 c2) fun y H4 ⟨G4, C4, O4, s4, iv4⟩ => ?_
    exact ⟨acc, O4.at, sz_lt (by omega), acc ++ [y], G4, C4, by simp [hl], iv4, O4.write, same_tr s s4⟩
  · rintro H' ⟨acc, G', C', hl, iv, O', s⟩
    exact hd _ _ _ _ _ hl iv O' s
section
variable {y : Str} {i : Nat} {Qd : Addr → Hp → Prop} (Inv : Nat → List V → Hp → List (Addr × HO) → Prop) (c : CI X P w K mg base N nm j) (hi : Ix N y i) (hl : locB scope.names y = true) (hk : scope.kind = .function)
include c hi hl hk
theorem lr_range {lo : Int} {n : Nat} (hn : n ≤ 1000000) (O : Own G C H) (h0 : Inv 0 [] G C)
    (hs : ∀ m acc G' C' A H', m < n → Inv m acc G' C' → Own G' ((A, .lst acc) :: C') H' → Same G G' → ∀ X', CI X' P w K mg base N scope.names j → eS X' elt (σ.set i (some (.int (lo + m)))) H' fun y H4 => ∃ G4 C4, Own G4 ((A, .lst acc) :: C4) H4 ∧ Same G' G4 ∧ Inv (m + 1) (acc ++ [y]) G4 C4)
    (hd : ∀ acc G' C' A H', acc.length = n → Inv n acc G' C' → Own G' ((A, .lst acc) :: C') H' → Same G G' → Qd A H') : LcOn X scope (.Name y p) [] elt [i] Qd (Itr lo n) σ H :=
  lr_own Inv c hi hl hk walk_range hn O h0 (fun _ _ _ _ _ => True.intro) (fun _ _ _ _ h => h.1) (fun m x acc G' C' A H' hm iv hy O' s X' c' => by
    obtain ⟨_, rfl⟩ := hy
    exact hs m acc G' C' A H' hm iv O' s X' c') hd
theorem lr_str {z : List Nat} (hn : z.length ≤ 1000000) (O : Own G C H) (h0 : Inv 0 [] G C)
    (hs : ∀ m ch acc G' C' A H', z[m]? = some ch → Inv m acc G' C' → Own G' ((A, .lst acc) :: C') H' → Same G G' → ∀ X', CI X' P w K mg base N scope.names j → eS X' elt (σ.set i (some (.str (S [ch])))) H' fun y H4 => ∃ G4 C4, Own G4 ((A, .lst acc) :: C4) H4 ∧ Same G' G4 ∧ Inv (m + 1) (acc ++ [y]) G4 C4)
    (hd : ∀ acc G' C' A H', acc.length = z.length → Inv z.length acc G' C' → Own G' ((A, .lst acc) :: C') H' → Same G G' → Qd A H') : LcOn X scope (.Name y p) [] elt [i] Qd (Its (S z)) σ H := by
  have e : (S z).cps.size = z.length := by simp [S]
  refine lr_own Inv c hi hl hk walk_str (by rw [e]; exact hn) O h0 (fun _ _ _ _ _ => True.intro) (fun _ _ _ _ h => h.1) (fun m x acc G' C' A H' hm iv hy O' s X' c' => ?_) (fun acc G' C' A H' h1 h2 => hd acc G' C' A H' (by rw [h1, e]) (by rw [← e]; exact h2))
  obtain ⟨_, ch, hc, rfl⟩ := hy
  exact hs m ch acc G' C' A H' (by simpa [S] using hc) iv O' s X' c'
theorem lr_list {a : Addr} {xs : List V} (hq : SqL K G a xs) (hn : xs.length ≤ 1000000) (O : Own G C H) (h0 : Inv 0 [] G C)
    (hs : ∀ m x acc G' C' A H', xs[m]? = some x → Inv m acc G' C' → Own G' ((A, .lst acc) :: C') H' → Same G G' → ∀ X', CI X' P w K mg base N scope.names j → eS X' elt (σ.set i (some x)) H' fun y H4 => ∃ G4 C4, Own G4 ((A, .lst acc) :: C4) H4 ∧ Same G' G4 ∧ Inv (m + 1) (acc ++ [y]) G4 C4)
    (hd : ∀ acc G' C' A H', acc.length = xs.length → Inv xs.length acc G' C' → Own G' ((A, .lst acc) :: C') H' → Same G G' → Qd A H') : LcOn X scope (.Name y p) [] elt [i] Qd (Itl X.K a) σ H := by
  rw [c.K]
  exact lr_own Inv c hi hl hk (walk_list (xs := xs)) hn O h0 (fun G' C' H' s O' => sql_up O' (s.seq hq)) (fun _ _ _ _ h => h.1) (fun m x acc G' C' A H' hm iv hy O' s X' c' => hs m x acc G' C' A H' hy.2 iv O' s X' c') hd
theorem lr_tup {a : Addr} {xs : List V} (hq : SqT K G a xs) (hn : xs.length ≤ 1000000) (O : Own G C H) (h0 : Inv 0 [] G C)
    (hs : ∀ m x acc G' C' A H', xs[m]? = some x → Inv m acc G' C' → Own G' ((A, .lst acc) :: C') H' → Same G G' → ∀ X', CI X' P w K mg base N scope.names j → eS X' elt (σ.set i (some x)) H' fun y H4 => ∃ G4 C4, Own G4 ((A, .lst acc) :: C4) H4 ∧ Same G' G4 ∧ Inv (m + 1) (acc ++ [y]) G4 C4)
    (hd : ∀ acc G' C' A H', acc.length = xs.length → Inv xs.length acc G' C' → Own G' ((A, .lst acc) :: C') H' → Same G G' → Qd A H') : LcOn X scope (.Name y p) [] elt [i] Qd (Itt X.K a) σ H := by
  rw [c.K]
  exact lr_own Inv c hi hl hk (walk_tup (xs := xs)) hn O h0 (fun G' C' H' s O' => sqt_up O' (same_sqt s hq)) (fun _ _ _ _ h => h.1) (fun m x acc G' C' A H' hm iv hy O' s X' c' => hs m x acc G' C' A H' hy.2 iv O' s X' c') hd
end
end
end Go

namespace Go
open PySem PySem.Spec PyProof.Rows L2

section
variable {X : Cx} {P : Program} {w : World} {K : PySem.W.Frag} {mg : Str → Option Value} {base : Heap} {N : List Str} {nm : List (Str × NameKind)} {j : Nat} {σ σ' : L2.St} {H G : Hp} {Q : VK} {D : Ends} {pos p : Pos} {C : List (Addr × HO)} {tk tv : TE}
/-- {k: v}, the key a tuple -/
def tDisp1T (tk tv : TE) : TE := fun σ H Q => ∀ p, H p = none → tk σ (upd H p (.dT [])) fun x H1 => tv σ H1 fun y H2 => ∃ (b : Addr) (ks : List Key), x = .ref b ∧ H2 b = some (.tup (ks.map kV)) ∧ H2 p = some (.dT []) ∧ Q (.ref p) (upd H2 p (.dT [(ks, y)]))
theorem pe_disp1T {k v : Expr} (hu : X.A.units + 1 < cLine) (hk : PE X k tk) (hv : PE X v tv) : PE X (.Dict [some k] [v] pos) (tDisp1T tk tv) := by
  refine ⟨fun pins s σ H Q I q => ?_⟩
  have hn := I.hok.fresh (Nat.le_refl s.heap.objs.size)
  have I1 := I.laid (a := s.heap.objs.size) (o := .dT []) (h' := s.heap.push { cls := .type "dict", data := .dict #[] }) (t' := s.toks) (fun _ _ q => Heap.get?_push_of_some _ q) (Nat.le_refl _) (dt_empty s.heap I.big)
  rw [arm_eval_Dict, zip_pairTrees [some k] [v] X.env pos rfl rfl, dictDisplay_pairs (pairTrees [some k] [v] X.env pos) (fun z => nomatch z) (show (1 : Nat) < 17 by omega)]
  refine wpAny_bind (wpAny_standAt (wpAny_bind (wpAny_subDictH (knd := tupleKind (mixKind X.prog X.w)) (show X.A.units < cLine from Nat.lt_of_succ_lt hu) (show (1 : Nat) ≤ 15 by omega) ?_)))
  refine pairTrees_cons_walk (thn (hk.run pins _ σ _ _ I1 (q _ hn)) fun u s1 ⟨x, H1, I1, rx, q1⟩ => thn (hv.run pins s1 σ H1 _ I1 q1) fun w2 s2 ⟨y, H2, I2, ry, b, ks, ex, eb, ep, q2⟩ => ?_)
  refine pairTrees_nil_walk ?_
  subst ex
  obtain rfl : u = Value.ref b := rx
  obtain ⟨z, hd, xs, rel, dd⟩ := dt_of I2.hok ep
  cases rel
  refine ⟨[(ks, b, w2)], ⟨rfl, rfl, key_of I2.hok eb, True.intro⟩, dd, fun h' t' dd' hs => ?_⟩
  refine wpAny_pure ⟨.ref s.heap.objs.size, _, ?_, rfl, q2⟩
  obtain ⟨q, es, ep', hq, h2, h3, h4, _, h5⟩ := dd'
  refine d_write I2 (by rw [ep]; exact True.intro) hs ⟨q, hq⟩ ⟨by rw [sizeLine_eq]; show (1 : Nat) ≤ _; omega, hd, _, .cons ⟨rfl, ?_, ry⟩ .nil, q, es, ep', hq, h2, h3, h4, h5⟩
  rw [upd_ne (ne_of eb ep (fun z => nomatch z))]
  exact eb
theorem e_disp1T (c : CI X P w K mg base N nm j) {k v : Expr} (h : ∀ p H0, New H p (.dT []) H0 → eS X k σ H0 fun x H1 => eS X v σ H1 fun y H2 => ∃ (b : Addr) (ks : List Key), x = .ref b ∧ H2 b = some (.tup (ks.map kV)) ∧ H2 p = some (.dT []) ∧ Q (.ref p) (upd H2 p (.dT [(ks, y)]))) : eS X (.Dict [some k] [v] pos) σ H Q :=
  ⟨_, pe_disp1T c.hu eS_is eS_is, fun p hp => h p _ ⟨hp, rfl⟩⟩
theorem e_dictT (h : ∀ p H2, New H p (.dT []) H2 → Q (.ref p) H2) : eS X (.Dict [] [] pos) σ H Q := ⟨_, pe_dnewT, fun p hp => h p _ ⟨hp, rfl⟩⟩
theorem e_dictK (h : ∀ p H2, New H p (.dK []) H2 → Q (.ref p) H2) : eS X (.Dict [] [] pos) σ H Q := ⟨_, pe_dnewK, fun p hp => h p _ ⟨hp, rfl⟩⟩
theorem o_inT (c : CI X P w K mg base N nm j) {p b : Addr} {kvs : List (List Key × V)} {i k : Int} (hp : H p = some (.dT kvs)) (hb : H b = some (.tup [.int i, .int k])) (h : Q (.bl (valV kvs [.inl i, .inl k]).isSome) H) : oS X (compareOp .In) (.ref b) (.ref p) H Q :=
  o_inD c (DGet.t (k := [.inl i, .inl k]) hp hb) h
theorem o_notInT (c : CI X P w K mg base N nm j) {p b : Addr} {kvs : List (List Key × V)} {i k : Int} (hp : H p = some (.dT kvs)) (hb : H b = some (.tup [.int i, .int k])) (h : Q (.bl (!(valV kvs [.inl i, .inl k]).isSome)) H) : oS X (compareOp .NotIn) (.ref b) (.ref p) H Q :=
  o_notInD c (DGet.t (k := [.inl i, .inl k]) hp hb) h
theorem x_dT (c : CI X P w K mg base N nm j) {p b : Addr} {kvs : List (List Key × V)} {i k : Int} {v : V} (hp : H p = some (.dT kvs)) (hb : H b = some (.tup [.int i, .int k])) (hv : valV kvs [.inl i, .inl k] = some v) (h : Q v H) : xS X (.ref p) (.ref b) H Q :=
  x_dict c (by rw [← hv]; exact DGet.t (k := [.inl i, .inl k]) hp hb) h
theorem p_dT (c : CI X P w K mg base N nm j) {p b : Addr} {kvs : List (List Key × V)} {i k : Int} {v : V} {R : Hp → Prop} (O : Own G ((p, .dT kvs) :: C) H) (hb : H b = some (.tup [.int i, .int k])) (hl : kvs.length < 1000000) (h : ∀ H', Own G ((p, .dT (putK kvs [.inl i, .inl k] v)) :: C) H' → R H') : pS X (.ref p) (.ref b) v H R :=
  p_dict c (DPut.t (k := [.inl i, .inl k]) O.at hb (sz_lt hl)) (h _ O.write)
theorem wS_mono {e : Expr} {R R' : Bool → Hp → Prop} (h : wS X e σ H R) (m : ∀ v H, R v H → R' v H) : wS X e σ H R' := by
  obtain ⟨t, p, h⟩ := h
  exact ⟨fun σ H R => ∃ Q, t σ H Q ∧ ∀ v H, Q v H → R v H, ⟨fun wh pins s σ H R I ⟨Q, h, m⟩ => thn (p.run wh pins s σ H Q I h) fun u s' ⟨H', I', q⟩ => ⟨H', I', m u H' q⟩⟩, R, h, m⟩
/-- a branch within an and / an or of a test, whose ends meet -/
theorem wa_join {q : Bool} {e : Expr} {b0 : Bool} {R : Bool → Hp → Prop} (Iv : Bool → Hp → Prop) (h1 : q = true → wS X e σ H Iv) (h2 : q = false → Iv b0 H) (k : ∀ v H', Iv v H' → R v H') : if q = true then wS X e σ H R else R b0 H := by
  cases q with
  | true => exact wS_mono (h1 rfl) k
  | false => exact k _ _ (h2 rfl)
theorem k_r2 {a b : Int} {R : Int → Int → Prop} (h1 : -(2 ^ 62) ≤ a ∧ a < 2 ^ 62 ∧ -(2 ^ 62) ≤ b ∧ b < 2 ^ 62) (h : R a b) : ∃ i k : Int, V.int a = .int i ∧ V.int b = .int k ∧ (-(2 ^ 62) ≤ i ∧ i < 2 ^ 62 ∧ -(2 ^ 62) ≤ k ∧ k < 2 ^ 62) ∧ R i k := ⟨a, b, rfl, rfl, h1, h⟩
theorem k_r3 {a b : Int} {R : Int → Int → Prop} (h1 : -(2 ^ 62) ≤ a ∧ a < 2 ^ 62 ∧ -(2 ^ 62) ≤ b ∧ b < 2 ^ 62) (h : R a b) : V.int (-1) = .int (-1) ∧ ∃ i k : Int, V.int a = .int i ∧ V.int b = .int k ∧ (-(2 ^ 62) ≤ i ∧ i < 2 ^ 62 ∧ -(2 ^ 62) ≤ k ∧ k < 2 ^ 62) ∧ R i k := ⟨rfl, a, b, rfl, rfl, h1, h⟩
theorem if_pair {q r : Bool} {α : Type} {a b : α} : (if q = true then (if r = true then a else b) else b) = if (q && r) = true then a else b := by cases q <;> rfl
theorem cut_mid {α : Type} (z : List α) (a b : Int) (ha : 0 ≤ a) (hb : 0 ≤ b) : cut z (some a) (some b) = (z.drop a.toNat).take (b.toNat - a.toNat) := by
  obtain ⟨a, rfl⟩ := Int.eq_ofNat_of_zero_le ha
  obtain ⟨b, rfl⟩ := Int.eq_ofNat_of_zero_le hb
  have e : ∀ (d k : Nat), HT.sIx z.length d (some (k : Int)) = min k z.length := fun d k => by
    unfold HT.sIx
    first | (simp only []; split <;> omega) | (split <;> omega) | omega | (simp; omega)
  unfold cut
  rw [e, e, Int.toNat_natCast, Int.toNat_natCast]
  apply List.ext_getElem?
  intro i
  rw [List.getElem?_take, List.getElem?_take, List.getElem?_drop, List.getElem?_drop]
  by_cases h : i < b - a
  · rw [if_pos h]
    by_cases h2 : i < min b z.length - min a z.length
    · rw [if_pos h2, show min a z.length = a by omega]
    · rw [if_neg h2, List.getElem?_eq_none (by omega)]
  · rw [if_neg h, if_neg (by omega)]
theorem l_to {z : List Nat} {n : Int} (h0 : 0 ≤ n) (hz : z.length ≤ 1000000) (h : Q (.str (S (z.take n.toNat))) H) : lS X (.str (S z)) none (some n) H Q := l_str hz (by rw [cut_to _ _ h0]; exact h)
theorem l_from {z : List Nat} {n : Int} (h0 : 0 ≤ n) (hz : z.length ≤ 1000000) (h : Q (.str (S (z.drop n.toNat))) H) : lS X (.str (S z)) (some n) none H Q := l_str hz (by rw [cut_from _ _ h0]; exact h)
theorem l_mid {z : List Nat} {a b : Int} (ha : 0 ≤ a) (hb : 0 ≤ b) (hz : z.length ≤ 1000000) (h : Q (.str (S ((z.drop a.toNat).take (b.toNat - a.toNat)))) H) : lS X (.str (S z)) (some a) (some b) H Q := l_str hz (by rw [cut_mid _ _ _ ha hb]; exact h)
theorem c_listI (c : CI X P w K mg base N nm j) {p : Addr} {xs : List V} (hp : SqL K H p xs) (h : ∀ r H', New H r (.lst xs) H' → Q (.ref r) H') : cS X (.type "list") [.ref p] H Q := c_listL c hp h
theorem inV_int (i : Int) : ∀ xs : List Int, inV (.int i) (xs.map V.int) = decide (i ∈ xs)
  | [] => by simp [inV]
  | x :: xs => by
    have ih := inV_int i xs
    have e : eqV (.int x) (.int i) = decide (x = i) := by show (x == i) = _; rw [Bool.eq_iff_iff]; simp
    show (eqV (.int x) (.int i) || inV (.int i) (xs.map V.int)) = _
    rw [ih, e]
    by_cases q : x = i
    · subst q; simp
    · have q' : ¬ i = x := fun z => q z.symm
      simp [q, q']
theorem o_inI (c : CI X P w K mg base N nm j) {i : Int} {p : Addr} {xs : List Int} (hp : SqL K H p (xs.map V.int)) (h : Q (.bl (decide (i ∈ xs))) H) : oS X (compareOp .In) (.int i) (.ref p) H Q :=
  o_inQ c (.inl hp) rfl (by simp [flatV]) (by rw [inV_int]; exact h)
theorem m_appendC {p : Addr} {xs : List V} {y : V} (O : Own G ((p, .lst xs) :: C) H) (hl : xs.length < 1000000) (h : ∀ H', Own G ((p, .lst (xs ++ [y])) :: C) H' → Q .non H') : mS X "list.append" (.ref p) [y] H Q :=
  m_append O.at hl (h _ O.write)
theorem o_addSl {a : List Nat} {x : Str} (h0 : (cs x).length ≤ 1000) (hl : a.length ≤ 900000) (h : Q (.str (S (a ++ cs x))) H) : oS X (binaryOp .Add) (.str (S a)) (.str (S (cs x))) H Q := o_addS (by omega) h
theorem o_addSr {a : List Nat} {x : Str} (h0 : (cs x).length ≤ 1000) (hl : a.length ≤ 900000) (h : Q (.str (S (cs x ++ a))) H) : oS X (binaryOp .Add) (.str (S (cs x))) (.str (S a)) H Q := o_addS (by omega) h
theorem o_iaddSl {a : List Nat} {x : Str} (h0 : (cs x).length ≤ 1000) (hl : a.length ≤ 900000) (h : Q (.str (S (a ++ cs x))) H) : oS X (inplaceOp .Add) (.str (S a)) (.str (S (cs x))) H Q := o_iaddS (by omega) h
theorem Own.frzAll : ∀ (L : List (Addr × HO)) {G : Hp}, Own G (L ++ C) H → ∃ G', Same G G' ∧ (∀ e ∈ L, G' e.1 = some e.2) ∧ Own G' C H
  | [], G, O => ⟨G, same_rfl, by simp, O⟩
  | e :: L, G, O => by
    obtain ⟨G1, s1, e1, O1⟩ := Own.frz (p := e.1) (o := e.2) O
    obtain ⟨G2, s2, e2, O2⟩ := Own.frzAll L O1
    refine ⟨G2, same_tr s1 s2, fun x hx => ?_, O2⟩
    rcases List.mem_cons.mp hx with rfl | hx
    · exact s2 _ _ e1
    · exact e2 x hx
theorem Own.dropAll : ∀ (L : List (Addr × HO)), Own G (L ++ C) H → Own G C H
  | [], O => O
  | _ :: L, O => Own.dropAll L O.drop
theorem k_ty {p : Addr} {xs : List V} {B : Prop} (hp : SqL K H p xs) (h : B) : tyV K "list" (.ref p) H ∧ B := ⟨ty_lst hp, h⟩
theorem take_succ_map {α β : Type} {ps : List α} {k : Nat} {x : α} (f : α → β) (h : ps[k]? = some x) : ((ps.take (k + 1)).map f).reverse = f x :: ((ps.take k).map f).reverse := by
  rw [List.take_add_one, h]; simp
/-- a text, once or not at all -/
theorem o_repB {z : List Nat} {b : Bool} (hz : z.length ≤ 1000) (h : Q (.str (S (if b = true then z else []))) H) : oS X (binaryOp .Mult) (.str (S z)) (.int (if b = true then 1 else 0)) H Q := by
  cases b with
  | true =>
    refine o_repT (by decide) hz (by decide) fun _ _ => ?_
    have e : (List.replicate (if true = true then (1 : Int) else 0).toNat z).flatten = z := by simp
    rw [e]; exact h
  | false => exact o_repT (by decide) hz (by decide) fun _ _ => h
theorem c_isB (c : CI X P w K mg base N nm j) {b : Bool} (h : Q (.bl true) H) : cS X (.builtin "isinstance") [.bl b, .ty "bool"] H Q := c_isi c (.base (.bl b)) rfl h
theorem c_isI (c : CI X P w K mg base N nm j) {i : Int} (h : Q (.bl true) H) : cS X (.builtin "isinstance") [.int i, .ty "int"] H Q := c_isi c (.base (.int i)) rfl h
theorem c_isIB (c : CI X P w K mg base N nm j) {i : Int} (h : Q (.bl false) H) : cS X (.builtin "isinstance") [.int i, .ty "bool"] H Q := c_isi c (.base (.int i)) rfl h
theorem p_dK {p : Addr} {kvs : List (Key × V)} {i : Int} {v : V} {R : Hp → Prop} (c : CI X P w K mg base N nm j) (O : Own G ((p, .dK kvs) :: C) H) (hl : kvs.length < 1000000) (h : ∀ H', Own G ((p, .dK (putK kvs (.inl i) v)) :: C) H' → R H') : pS X (.ref p) (.int i) v H R :=
  p_dict c (DPut.k (k := .inl i) O.at (sz_lt hl)) (h _ O.write)
theorem x_dK (c : CI X P w K mg base N nm j) {p : Addr} {kvs : List (Key × V)} {i : Int} {v : V} (hp : H p = some (.dK kvs)) (hv : valV kvs (.inl i) = some v) (h : Q v H) : xS X (.ref p) (.int i) H Q :=
  x_dict c (by rw [← hv]; exact DGet.k (k := .inl i) hp) h
/-- d.get(y, z): the dict, the key, the other value -/
structure getS (H : Hp) (x y z : V) (Q : VK) : Prop where
  ex : ∃ a o, x = .ref a ∧ DGet H a y o ∧ Q (o.getD z) H
theorem e_get2 (c : CI X P w K mg base N nm j) {o e f : Expr} {apos cpos : Pos} (m : M2 X o "get" apos e f cpos) (h : eS X o σ H fun x H1 => (∃ a, x = .ref a ∧ IsD H1 a) ∧ eS X e σ H1 fun y H2 => eS X f σ H2 fun z H3 => getS H3 x y z Q) : eS X (.Call (.Attribute o "get" apos) [e, f] [] cpos) σ H Q :=
  ⟨_, pe_dget2 c.hu eS_is eS_is eS_is m, eS_mono h fun x H1 ⟨⟨a, ea, d⟩, q⟩ => ⟨a, ea, d, eS_mono q fun y H2 q => eS_mono q fun z H3 ⟨a', o, e1, g, q⟩ => by
    rw [ea] at e1
    cases e1
    exact ⟨o, g, q⟩⟩⟩
theorem k_isK {p : Addr} {kvs : List (Key × V)} {B : Prop} (hp : H p = some (.dK kvs)) (h : B) : (∃ a, V.ref p = .ref a ∧ IsD H a) ∧ B := ⟨⟨p, rfl, .inl ⟨kvs, .inl hp⟩⟩, h⟩
theorem k_isT {p : Addr} {kvs : List (List Key × V)} {B : Prop} (hp : H p = some (.dT kvs)) (h : B) : (∃ a, V.ref p = .ref a ∧ IsD H a) ∧ B := ⟨⟨p, rfl, .inr ⟨kvs, .inl hp⟩⟩, h⟩
theorem get_K {p : Addr} {kvs : List (Key × V)} {i : Int} {z : V} (hp : H p = some (.dK kvs)) (h : Q ((valV kvs (.inl i)).getD z) H) : getS H (.ref p) (.int i) z Q := ⟨p, _, rfl, DGet.k (k := .inl i) hp, h⟩
theorem e_disp1K (c : CI X P w K mg base N nm j) {k v : Expr} (h : ∀ p H0, New H p (.dK []) H0 → eS X k σ H0 fun x H1 => eS X v σ H1 fun y H2 => ∃ (i : Int), x = .int i ∧ H2 p = some (.dK []) ∧ Q (.ref p) (upd H2 p (.dK [(.inl i, y)]))) : eS X (.Dict [some k] [v] pos) σ H Q :=
  ⟨_, pe_disp (pps_cons eS_is eS_is pps_nil) rfl rfl (fun z => nomatch z) (show (1 : Nat) ≤ 15 by decide), fun p hp => eS_mono (h p _ ⟨hp, rfl⟩) fun x H1 q => eS_mono q fun y H2 ⟨i, e1, e2, q⟩ => ⟨e2, [(.inl i, y)], by rw [e1]; rfl, (show (1 : Nat) ≤ 15 by decide), q⟩⟩
end
end Go

namespace Go
open PySem PySem.Spec PyProof.Rows L2

/-- the signs of a text with their places, each in a new pair -/
def Itn (z : Str) : It := ⟨fun i _ => i < z.cps.size, fun i H v H' => ∃ T c, v = .ref T ∧ H T = none ∧ H' = upd H T (.tup [.int (i : Nat), .str ⟨#[c]⟩]) ∧ z.cps[i]? = some c, fun i _ => z.cps.size ≤ i⟩
theorem turn_enumS {P : Program} {w : World} {K : PySem.W.Frag} {elts : List Expr} {kk : Nat} {tpos : Pos} (e it : Addr) (x : Str) (t : Tok) :
    Turn P w K (.Tuple elts kk tpos) (Itn x) [e, it] e (fun i h => i ≤ x.cps.size ∧ (∃ old, IsEnum h e it ((i : Nat) : Int) old) ∧ h.IsStrIter it (strIterType x) x t i ∧ e ≠ it) where
  mem := by simp
  obj := fun i h st b hb => by
    obtain ⟨_, ⟨old, he⟩, ⟨o, ho, hc, hd⟩, _⟩ := st
    have e' : b = e ∨ b = it := by simpa using hb
    rcases e' with z | z
    · rw [z]; exact ⟨_, he, fun v q => nomatch q⟩
    · rw [z]; exact ⟨o, ho, fun v q => by rw [hd] at q; cases q⟩
  keep := fun i h h' st k => let ⟨hl, ⟨old, he⟩, ⟨o, ho, r⟩, hne⟩ := st; ⟨hl, ⟨old, k e (by simp) _ he⟩, ⟨o, k it (by simp) o ho, r⟩, hne⟩
  item := by
    intro X hP hw hK hc i pins s σ H E I hf st hg
    subst hP hw hK
    obtain ⟨hl, ⟨old, he⟩, hit, hne⟩ := st
    have hel : e < s.heap.objs.size := Heap.lt_size he
    have hil : it < s.heap.objs.size := by obtain ⟨_, q, _⟩ := hit; exact Heap.lt_size q
    have D : Draws X.prog X.w X.A.in1 it [it] x.cps.size (fun i v => ∃ c u, x.cps[i]? = some c ∧ v = .str ⟨#[c]⟩ u) (fun i h => h.IsStrIter it (strIterType x) x t i) := Draws.text (show X.A.in1.handled = none from I.ok.hd hc) it x t
    refine wpAny_pyNext_enum_itemD (St := fun i h => h.IsStrIter it (strIterType x) x t i) D he hit hg hne (by simpa using hne) fun u h' tk hP ho hit' hT hsz hk => ?_
    obtain ⟨ch, tu, hch, rfl⟩ := hP
    refine ⟨_, rfl, wpAny_letOwnedTupleGo_enum (s := { s with heap := h', toks := tk + 1 }) ho fun h'' he' sb => ?_⟩
    have hT2 : h''.get? s.heap.objs.size = some { cls := .type "tuple", data := .seq #[.int i tk, .str ⟨#[ch]⟩ tu] } := (sb.2 _ (Nat.ne_of_gt hel)).trans hT
    have new : ObjOk X.prog X.w (upd H s.heap.objs.size (.tup [.int (i : Nat), .str ⟨#[ch]⟩])) h'' s.heap.objs.size (.tup [.int (i : Nat), .str ⟨#[ch]⟩]) :=
      ⟨by show 2 ≤ sizeLine; decide, [.int i tk, .str ⟨#[ch]⟩ tu], .cons ⟨_, rfl⟩ (.cons ⟨_, rfl⟩ .nil), ⟨_, hT2, rfl, _, rfl⟩⟩
    have I1 : Inv X pins σ (upd H s.heap.objs.size (.tup [.int (i : Nat), .str ⟨#[ch]⟩])) { s with heap := h'', toks := tk + 1 } :=
      I.turnedNew (ch := [e, it]) (fun b ob hb q => (sb.2 b (fun z => hb (by simp [z]))).trans (hk b ob (fun z => hb (by simp [z])) (fun z => hb (by simp [z])) q)) hf (Nat.le_refl _) new
    refine ⟨.ref s.heap.objs.size, _, I1, rfl, ⟨_, ch, rfl, I.hok.fresh (Nat.le_refl _), rfl, hch⟩, ⟨hg, ⟨.str ⟨#[ch]⟩ tu, ?_⟩, ?_, hne⟩, fun b hb => ?_⟩
    · have e1 : ((i + 1 : Nat) : Int) = (i : Int) + 1 := by omega
      rw [e1]; exact he'
    · obtain ⟨o, ho2, r⟩ := hit'
      exact ⟨o, (sb.2 it (Ne.symm hne)).trans ho2, r⟩
    · have hb' : b < s.heap.objs.size := by
        have e' : b = e ∨ b = it := by simpa using hb
        rcases e' with z | z
        · rw [z]; exact hel
        · rw [z]; exact hil
      rw [upd_ne (Nat.ne_of_lt hb')]
      exact (hf b hb).1
  done := by
    intro X hP hw hK hc i pins s σ H E I hf st hg
    subst hP hw hK
    obtain ⟨hl, ⟨old, he⟩, hit, hne⟩ := st
    have ei : i = x.cps.size := Nat.le_antisymm hl hg
    subst ei
    obtain ⟨f0, f1, f2, f3, f4, f5⟩ := hf it (by simp)
    have D : Draws X.prog X.w X.A.in1 it [it] x.cps.size (fun i v => ∃ c u, x.cps[i]? = some c ∧ v = .str ⟨#[c]⟩ u) (fun i h => h.IsStrIter it (strIterType x) x t i) := Draws.text (show X.A.in1.handled = none from I.ok.hd hc) it x t
    exact wpAny_pyNext_enum_endD (St := fun i h => h.IsStrIter it (strIterType x) x t i) D he hit fun h' eb => ⟨rfl, I.turned (t' := s.toks) (fun b o hb q => eb b o hb q) f0 f1 f3 f4 f5⟩
  self := fun A i s Q E st h => let ⟨_, ⟨_, he⟩, _⟩ := st; wpAny_pyIter_enum he h
def iEnumS (ta : TA) : TI := fun σ H R => ta σ H fun vs H1 => ∃ z, vs = [.str z] ∧ R (Itn z) H1
theorem pi_enumS {X : Cx} {e : Expr} {ta : TA} {p pos tpos : Pos} {elts : List Expr} {kk : Nat} (hg : Gl X "enumerate") (hm : X.mg "enumerate" = none) (ha : PA X [e] ta) (hs : starEach [e] X.env = [(false, eval e X.env)] := by rfl) :
    PI X (.Tuple elts kk tpos) (.Call (.Name "enumerate" p) [e] [] pos) (iEnumS ta) := by
  refine ⟨fun pins s σ H R I h => ?_⟩
  refine Call_ (ld_blt I hg hm boot_enumerate (PyProof.Rows.callWith_type1 (thn (ha.run pos pins s σ H _ I h) fun us s1 ⟨vs, H1, I1, r1, q1⟩ => ?_) hs rfl))
  obtain ⟨z, ex, q⟩ := q1
  subst ex
  cases r1 with
  | cons r rr =>
    cases rr
    obtain ⟨t, rfl⟩ := r
    refine call_enumerate_str fun h' he hit hsz hk => wpAny_pyIter_enum he ?_
    have I2 : Inv X pins σ H1 { s1 with heap := h' } := I1.kept (t' := s1.toks) hk
    refine ⟨s1.heap.objs.size + 1, [s1.heap.objs.size + 1, s1.heap.objs.size], _, _, H1, rfl, I2, turn_enumS (s1.heap.objs.size + 1) s1.heap.objs.size z t, ⟨Nat.zero_le _, ⟨.none, he⟩, hit, Nat.succ_ne_self _⟩, fun b hb => ?_, q⟩
    have e' : b = s1.heap.objs.size + 1 ∨ b = s1.heap.objs.size := by simpa using hb
    have hle : s1.heap.objs.size ≤ b := by
      rcases e' with z | z
      · rw [z]; exact Nat.le_add_right _ _
      · rw [z]; exact Nat.le_refl _
    exact I1.fpOk hle (I1.hok.fresh hle)
theorem walk_enumS {z : Str} : Walk (Itn z) z.cps.size (fun _ => True) (fun i H v H' => ∃ T c, v = .ref T ∧ H T = none ∧ H' = upd H T (.tup [.int (i : Nat), .str ⟨#[c]⟩]) ∧ z.cps[i]? = some c) :=
  ⟨fun _ _ h _ => h, fun _ _ => Nat.le_refl _, fun _ _ _ _ _ _ y => y⟩
section
variable {X : Cx} {P : Program} {w : World} {K : PySem.W.Frag} {mg : Str → Option Value} {base : Heap} {N : List Str} {nm : List (Str × NameKind)} {j : Nat} {σ σ' : L2.St} {H G : Hp} {Q : VK} {D : Ends} {pos p tpos : Pos} {C : List (Addr × HO)} {elts : List Expr} {kk : Nat} {a : Expr} {body : List Stmt}
theorem i_enumS (c : CI X P w K mg base N nm j) {R : It → Hp → Prop} (hg : glB nm "enumerate" = true) (hm : mg "enumerate" = none) (hs : starEach [a] X.env = [(false, eval a X.env)]) (h : eS X a σ H fun x H1 => ∃ z, x = .str (S z) ∧ R (Itn (S z)) H1) :
    iS X (.Tuple elts kk tpos) (.Call (.Name "enumerate" p) [a] [] pos) σ H R :=
  ⟨_, pi_enumS (c.gl hg) (by rw [c.mg]; exact hm) (pa_cons eS_is pa_nil hs) hs, eS_mono h fun _ _ ⟨z, e, r⟩ => ⟨_, by rw [e], r⟩⟩
/-- for (k, sign) in enumerate(text): each turn a new pair, frozen -/
theorem on_enumS {z : List Nat} (Pv : Nat → L2.St → Hp → Prop) (h0 : Pv 0 σ H)
    (hs : ∀ i x σ H T H', z[i]? = some x → Pv i σ H → New H T (.tup [.int (i : Nat), .str (S [x])]) H' → gS X (.Tuple elts kk tpos) (.ref T) σ H' fun σ2 H2 => bS X body { D with nx := Pv (i + 1), ct := Pv (i + 1), bk := D.nx } σ2 H2) (hd : ∀ σ H, Pv z.length σ H → D.nx σ H) :
    ForOn X (.Tuple elts kk tpos) body D (Itn (S z)) σ H := ⟨_, _, _, walk_enumS, Pv, h0, fun _ _ _ _ _ => True.intro, fun i x σ H H' hi p ⟨T, ch, e1, e2, e3, hc⟩ => by
      subst e1
      exact hs i ch σ _ T H' (by simpa [S] using hc) p ⟨e2, e3⟩, fun σ H p => hd σ H (by simpa [S] using p)⟩
theorem swapped_folded {ts vs : List Expr} {k k' : Nat} {q q' : Pos} {env : Env} (h : vs.all (foldedForSure 8) = true) : swappedStores [.Tuple ts k q] (.Tuple vs k' q') env = pure none := by
  unfold swappedStores
  simp only [h, if_true]
  repeat (first | rfl | split)
/-- i, j = 0, 0: constants to names -/
theorem g_asgF {ts vs : List Expr} {k k' : Nat} {q q' : Pos} (h1 : List.map (fun x => x.snd) (assignEach [.Tuple ts k q] X.env) = [assign (.Tuple ts k q) X.env]) (hs : swapsWithSole [.Tuple ts k q] (.Tuple vs k' q') pos.line X.env = pure false) (h : vs.all (foldedForSure 8) = true) (hh : eS X (.Tuple vs k' q') σ H fun v H1 => gS X (.Tuple ts k q) v σ H1 D.nx) : sS X (.Assign [.Tuple ts k q] (.Tuple vs k' q') pos) D σ H :=
  g_asg h1 hs (swapped_folded h) hh
end
end Go

namespace Go
open PySem PySem.Spec PyProof.Rows L2

/-! an Int is a Nat -/
theorem nat_id (n : Nat) : (n : Int) = (n : Int) := rfl
theorem nat_0 : (0 : Int) = ((0 : Nat) : Int) := rfl
theorem nat_1 : (1 : Int) = ((1 : Nat) : Int) := rfl
theorem nat_2 : (2 : Int) = ((2 : Nat) : Int) := rfl
theorem nat_add {a b : Int} {n m : Nat} (h1 : a = n) (h2 : b = m) : a + b = ((n + m : Nat) : Int) := by omega
theorem nat_sub {a b : Int} {n m : Nat} (h1 : a = n) (h2 : b = m) (h : m ≤ n) : a - b = ((n - m : Nat) : Int) := by omega
theorem nat_any {a : Int} (h : 0 ≤ a) : a = ((a.toNat : Nat) : Int) := by omega
section
variable {X : Cx} {P : Program} {w : World} {K : PySem.W.Frag} {mg : Str → Option Value} {base : Heap} {N : List Str} {nm : List (Str × NameKind)} {j : Nat} {σ σ' : L2.St} {H G : Hp} {Q : VK} {D : Ends} {pos p tpos : Pos} {C : List (Addr × HO)} {e : Expr} {R : Bool → Hp → Prop}
theorem gd_get {z : List Nat} {n : Nat} (h : n < z.length) : z[n]? = some (z.getD n 0) := by
  rw [List.getElem?_eq_getElem h, List.getD_eq_getElem?_getD, List.getElem?_eq_getElem h]; rfl
theorem x_strN {z : List Nat} {i : Int} {n : Nat} (hi : i = n) (hn : n < z.length) (hz : z.length ≤ 1000000) (h : Q (.str (S [z.getD n 0])) H) : xS X (.str (S z)) (.int i) H Q := by
  subst hi
  exact x_str hz (atI_get (gd_get hn)) h
theorem o_eqS1 {a b : Nat} (h : Q (.bl (decide (a = b))) H) : oS X (compareOp .Eq) (.str (S [a])) (.str (S [b])) H Q := o_eqS (by rw [decide_eq_decide.mpr (show [a] = [b] ↔ a = b from List.singleton_inj)]; exact h)
theorem o_neS1 {a b : Nat} (h : Q (.bl (!decide (a = b))) H) : oS X (compareOp .NotEq) (.str (S [a])) (.str (S [b])) H Q := o_neS (by rw [decide_eq_decide.mpr (show [a] = [b] ↔ a = b from List.singleton_inj)]; exact h)
/-- i is a place of y and its sign there is that of t at k -/
theorem gd_and {y t : List Nat} {i k : Nat} (hk : k < t.length) : (decide ((i : Int) < (y.length : Int)) && decide (y.getD i 0 = t.getD k 0)) = decide (y[i]? = t[k]?) := by
  rw [gd_get hk]
  by_cases h : i < y.length
  · rw [decide_eq_true (show (i : Int) < (y.length : Int) by omega), Bool.true_and, gd_get h]
    exact decide_eq_decide.mpr ⟨fun e => by rw [e], fun e => Option.some.inj e⟩
  · rw [decide_eq_false (show ¬ (i : Int) < (y.length : Int) by omega), Bool.false_and, List.getElem?_eq_none (by omega)]
    exact (decide_eq_false (fun z => nomatch z)).symm
theorem gd_some {y : List Nat} {i x : Nat} : (decide ((i : Int) < (y.length : Int)) && decide (y.getD i 0 = x)) = decide (y[i]? = some x) := by
  by_cases h : i < y.length
  · rw [decide_eq_true (show (i : Int) < (y.length : Int) by omega), Bool.true_and, gd_get h]
    exact decide_eq_decide.mpr ⟨fun e => by rw [e], fun e => Option.some.inj e⟩
  · rw [decide_eq_false (show ¬ (i : Int) < (y.length : Int) by omega), Bool.false_and, List.getElem?_eq_none (by omega)]
    exact (decide_eq_false (fun z => nomatch z)).symm
/-! and, or whose ends meet: what they give is a Bool -/
theorem e_andJ {q r : Bool} (O : Own G C H) (h1 : q = true → eS X e σ H fun v H' => v = .bl r ∧ ∃ G', Own G' C H' ∧ Same G G') (k : ∀ H' G', Same G G' → Own G' C H' → Q (.bl (q && r)) H') : if q = true then eS X e σ H Q else Q (.bl false) H := by
  cases q with
  | true => exact eS_mono (h1 rfl) fun v H' ⟨e, G', O', s⟩ => by subst e; exact k H' G' s O'
  | false => exact k H G same_rfl O
theorem e_orJ {q r : Bool} {T : Prop} (O : Own G C H) (h1 : q = false → eS X e σ H fun v H' => v = .bl r ∧ ∃ G', Own G' C H' ∧ Same G G') (eT : Q (.bl true) H = T) (k : ∀ H' G', Same G G' → Own G' C H' → Q (.bl (q || r)) H') : if q = true then T else eS X e σ H Q := by
  subst eT
  cases q with
  | false => exact eS_mono (h1 rfl) fun v H' ⟨e, G', O', s⟩ => by subst e; exact k H' G' s O'
  | true => exact k H G same_rfl O
theorem w_andJ {q r : Bool} (O : Own G C H) (h1 : q = true → wS X e σ H fun v H' => v = r ∧ ∃ G', Own G' C H' ∧ Same G G') (k : ∀ H' G', Same G G' → Own G' C H' → R (q && r) H') : if q = true then wS X e σ H R else R false H := by
  cases q with
  | true => exact wS_mono (h1 rfl) fun v H' ⟨e, G', O', s⟩ => by subst e; exact k H' G' s O'
  | false => exact k H G same_rfl O
theorem w_orJ {q r : Bool} {T : Prop} (O : Own G C H) (h1 : q = false → wS X e σ H fun v H' => v = r ∧ ∃ G', Own G' C H' ∧ Same G G') (eT : R true H = T) (k : ∀ H' G', Same G G' → Own G' C H' → R (q || r) H') : if q = true then T else wS X e σ H R := by
  subst eT
  cases q with
  | false => exact wS_mono (h1 rfl) fun v H' ⟨e, G', O', s⟩ => by subst e; exact k H' G' s O'
  | true => exact k H G same_rfl O
theorem o_notInI (c : CI X P w K mg base N nm j) {i : Int} {p : Addr} {xs : List Int} (hp : SqL K H p (xs.map V.int)) (h : Q (.bl (!decide (i ∈ xs))) H) : oS X (compareOp .NotIn) (.int i) (.ref p) H Q :=
  o_notInQ c (.inl hp) rfl (by simp [flatV]) (by rw [inV_int]; exact h)
theorem c_isiT (c : CI X P w K mg base N nm j) {x : V} {T n : String} {b : Bool} (t : TyOf K H x (.type T)) (e : PySem.W.kitOne K (.type T) (.type n) = some b) (h : Q (.bl b) H) : cS X (.builtin "isinstance") [x, .ty n] H Q := c_isi c (.base t) e h
theorem x_lstR (c : CI X P w K mg base N nm j) {r p : Addr} {ps : List Addr} {i : Int} {k : Nat} (hr : SqL K H r (ps.map V.ref)) (hi : i = k) (hp : ps[k]? = some p) (h : Q (.ref p) H) : xS X (.ref r) (.int i) H Q := by
  subst hi
  exact x_lst c hr (atI_get (by rw [List.getElem?_map, hp]; rfl)) h
/-! objects by what they are of -/
/-- at ts stand the objects f x of the xs -/
def Rp {α : Type} (f : α → HO) (G : Hp) (ts : List Addr) (xs : List α) : Prop := ts.map G = xs.map fun x => some (f x)
section
variable {α : Type} {f : α → HO} {G' : Hp} {ts : List Addr} {xs : List α}
theorem Rp.len (h : Rp f G ts xs) : ts.length = xs.length := by have := congrArg List.length h; simpa using this
theorem Rp.nil : Rp f G [] [] := rfl
theorem Rp.up (h : Rp f G ts xs) (s : Same G G') : Rp f G' ts xs := by
  unfold Rp at h ⊢
  induction ts generalizing xs with
  | nil => cases xs with
    | nil => rfl
    | cons _ _ => simp at h
  | cons t ts ih =>
    cases xs with
    | nil => simp at h
    | cons x xs =>
      simp only [List.map_cons, List.cons.injEq] at h ⊢
      exact ⟨s _ _ h.1, ih h.2⟩
theorem Rp.app {ts' : List Addr} {xs' : List α} (h : Rp f G ts xs) (h' : Rp f G ts' xs') : Rp f G (ts ++ ts') (xs ++ xs') := by
  unfold Rp at h h' ⊢
  rw [List.map_append, List.map_append, h, h']
theorem Rp.one {t : Addr} {x : α} (h : G t = some (f x)) : Rp f G [t] [x] := by unfold Rp; simp [h]
theorem Rp.get (h : Rp f G ts xs) {i : Nat} {t : Addr} (ht : ts[i]? = some t) : ∃ x, xs[i]? = some x ∧ G t = some (f x) := by
  unfold Rp at h
  have e := congrArg (fun l : List (Option HO) => l[i]?) h
  simp only [List.getElem?_map, ht, Option.map_some] at e
  cases hx : xs[i]? with
  | none => rw [hx] at e; cases e
  | some x => rw [hx] at e; exact ⟨x, rfl, Option.some.inj e⟩
end
theorem map_ref {ts : List Addr} {i : Nat} {x : V} (h : (ts.map V.ref)[i]? = some x) : ∃ t, ts[i]? = some t ∧ x = .ref t := by
  rw [List.getElem?_map] at h
  obtain ⟨t, h1, h2⟩ := Option.map_eq_some_iff.mp h
  exact ⟨t, h1, h2.symm⟩
/-! comprehensions whose target is a pair of names -/
theorem e_lc2 (c : CI X P w K mg base N nm j) {y1 y2 : Str} {i1 i2 : Nat} {p1 p2 tp : Pos} {kk : Nat} {iter elt : Expr} {ifs : List Expr} {scope : Scope} (h1 : Ix N y1 i1) (h2 : Ix N y2 i2) (ok : blkC N (scOf nm) scope [(y1, i1), (y2, i2)] = true) (hs : ∀ x, foldedSetIterable iter X.env x = pure x)
    (h : iS X (.Tuple [.Name y1 p1, .Name y2 p2] kk tp) iter σ H fun J H1 => LcOn X scope (.Tuple [.Name y1 p1, .Name y2 p2] kk tp) ifs elt [i1, i2] (fun D H => Q (.ref D) H) J σ H1) : eS X (.ListComp elt [⟨.Tuple [.Name y1 p1, .Name y2 p2] kk tp, iter, ifs, 0⟩] scope pos) σ H Q :=
  e_lc c [(y1, i1), (y2, i2)] (blkOk_by ok) hs h
/-- a comprehension of any target and tests, that may write its own cells -/
theorem lc_own {tg elt : Expr} {ifs : List Expr} {scope : Scope} {vs : List Nat} {n : Nat} {Gw : Hp → Prop} {Y : Nat → Hp → V → Hp → Prop} {J : It} {Qd : Addr → Hp → Prop} (Inv : Nat → List V → Hp → List (Addr × HO) → Prop) (c : CI X P w K mg base N nm j) (hk : scope.kind = .function) (W : Walk J n Gw Y) (hn : n ≤ 1000000) (O : Own G C H) (h0 : Inv 0 [] G C)
    (hG : ∀ G' C' H', Same G G' → Own G' C' H' → Gw H')
    (hs : ∀ m x acc G' C' A H1 H2, m < n → Inv m acc G' C' → Y m H1 x H2 → Own G' ((A, .lst acc) :: C') H1 → Same G G' → ∀ X', CI X' P w K mg base N scope.names j → gS X' tg x (wipe σ vs) H2 fun σ2 H3 => wipe σ2 vs = wipe σ vs ∧ ∀ X', CI X' P w K mg base N scope.names j → tsS X' ifs σ2 H3 fun b H4 =>
      if b = true then ∀ X', CI X' P w K mg base N scope.names j → eS X' elt σ2 H4 fun y H5 => ∃ G4 C4, Own G4 ((A, .lst acc) :: C4) H5 ∧ Same G' G4 ∧ Inv (m + 1) (acc ++ [y]) G4 C4 else ∃ G4 C4, Own G4 ((A, .lst acc) :: C4) H4 ∧ Same G' G4 ∧ Inv (m + 1) acc G4 C4)
    (hd : ∀ acc G' C' A H', acc.length ≤ n → Inv n acc G' C' → Own G' ((A, .lst acc) :: C') H' → Same G G' → Qd A H') : LcOn X scope tg ifs elt vs Qd J σ H := by
  intro A hA
  refine ⟨n, Gw, Y, W, fun m H => ∃ acc G' C', acc.length ≤ m ∧ Inv m acc G' C' ∧ Own G' ((A, .lst acc) :: C') H ∧ Same G G', ⟨[], G, C, Nat.le_refl _, h0, O.cell hA, same_rfl⟩, ?_, ?_, ?_⟩
  · rintro m H' hm ⟨acc, G', C', _, _, O', s⟩
    exact hG _ _ _ s O'
  · rintro m x H1 H2 hm ⟨acc, G', C', hl, iv, O', s⟩ hy X' hb
    obtain ⟨t, p, q⟩ := hs m x acc G' C' A H1 H2 hm iv hy O' s X' (c.blk hb hk)
    refine ⟨fun v σ H R => ∃ Q, t v σ H Q ∧ ∀ σ H, Q σ H → R σ H, ⟨fun pins s σ H v u Q I r ⟨Q', h, m⟩ => thn (p.run pins s σ H v u Q' I r h) fun _ s' q => ?_⟩, _, q, ?_⟩
    · obtain ⟨σ', H', I', q⟩ := q
      exact ⟨σ', H', I', m σ' H' q⟩
    · rintro σ2 H3 ⟨hw, q⟩
      refine ⟨hw, fun X2 hb2 => tsS_mono (q X2 (c.blk hb2 hk)) fun b H4 q => ?_⟩
      cases b with
      | false =>
        obtain ⟨G4, C4, O4, s4, iv4⟩ := q
        exact ⟨acc, G4, C4, by omega, iv4, O4, same_tr s s4⟩
      | true =>
        intro X3 hb3
        refine eS_mono (q X3 (c.blk hb3 hk)) fun y H5 ⟨G4, C4, O4, s4, iv4⟩ => ?_
        exact ⟨acc, O4.at, sz_lt (by omega), acc ++ [y], G4, C4, by simp [hl], iv4, O4.write, same_tr s s4⟩
  · rintro H' ⟨acc, G', C', hl, iv, O', s⟩
    exact hd _ _ _ _ _ hl iv O' s
/-- .. over a frozen list -/
theorem lc_list {tg elt : Expr} {ifs : List Expr} {scope : Scope} {vs : List Nat} {a : Addr} {xs : List V} {Qd : Addr → Hp → Prop} (Inv : Nat → List V → Hp → List (Addr × HO) → Prop) (c : CI X P w K mg base N nm j) (hk : scope.kind = .function) (hq : SqL K G a xs) (hn : xs.length ≤ 1000000) (O : Own G C H) (h0 : Inv 0 [] G C)
    (hs : ∀ m x acc G' C' A H1, xs[m]? = some x → Inv m acc G' C' → Own G' ((A, .lst acc) :: C') H1 → Same G G' → ∀ X', CI X' P w K mg base N scope.names j → gS X' tg x (wipe σ vs) H1 fun σ2 H3 => wipe σ2 vs = wipe σ vs ∧ ∀ X', CI X' P w K mg base N scope.names j → tsS X' ifs σ2 H3 fun b H4 =>
      if b = true then ∀ X', CI X' P w K mg base N scope.names j → eS X' elt σ2 H4 fun y H5 => ∃ G4 C4, Own G4 ((A, .lst acc) :: C4) H5 ∧ Same G' G4 ∧ Inv (m + 1) (acc ++ [y]) G4 C4 else ∃ G4 C4, Own G4 ((A, .lst acc) :: C4) H4 ∧ Same G' G4 ∧ Inv (m + 1) acc G4 C4)
    (hd : ∀ acc G' C' A H', acc.length ≤ xs.length → Inv xs.length acc G' C' → Own G' ((A, .lst acc) :: C') H' → Same G G' → Qd A H') : LcOn X scope tg ifs elt vs Qd (Itl X.K a) σ H := by
  rw [c.K]
  exact lc_own Inv c hk (walk_list (xs := xs)) hn O h0 (fun G' C' H' s O' => sql_up O' (s.seq hq)) (fun m x acc G' C' A H1 H2 hm iv hy O' s X' c' => by
    obtain ⟨rfl, hx⟩ := hy
    exact hs m x acc G' C' A _ hx iv O' s X' c') hd
theorem take_flat {α β : Type} {f : α → List β} {ws : List α} {m : Nat} {p : α} (h : ws[m]? = some p) : (ws.take (m + 1)).flatMap f = (ws.take m).flatMap f ++ f p := by
  rw [List.take_add_one, h, List.flatMap_append]; simp
theorem take_filt {α : Type} {P : α → Bool} {ws : List α} {m : Nat} {p : α} (h : ws[m]? = some p) : (ws.take (m + 1)).filter P = (ws.take m).filter P ++ (if P p = true then [p] else []) := by
  rw [List.take_add_one, h, List.filter_append]
  cases e : P p <;> simp [e]
theorem take_map {α β : Type} {f : α → β} {ws : List α} {m : Nat} {p : α} (h : ws[m]? = some p) : (ws.take (m + 1)).map f = (ws.take m).map f ++ [f p] := by
  rw [List.take_add_one, h, List.map_append]; rfl
theorem own_now (O : Own G C H) {G0 : Hp} (s : Same G0 G) : ∃ G', Own G' C H ∧ Same G0 G' := ⟨G, O, s⟩
end
end Go

namespace Go
open PySem PySem.Spec PyProof.Rows L2

/-! data: what is equal -/
def Shal (n : Nat) (d : PyData) : Prop := d.plain = true ∧ d.depth ≤ n
theorem shal_non {n : Nat} : Shal (n + 1) .none := ⟨rfl, by simp [PyData.depth]⟩
theorem shal_bl {n : Nat} {b : Bool} : Shal (n + 1) (.bool b) := ⟨rfl, by simp [PyData.depth]⟩
theorem shal_int {n : Nat} {i : Int} : Shal (n + 1) (.int i) := ⟨rfl, by simp [PyData.depth]⟩
theorem shal_str {n : Nat} {x : Str} : Shal (n + 1) (.str x) := ⟨rfl, by simp [PyData.depth]⟩
theorem shal_all {n : Nat} : ∀ {xs : List PyData}, (∀ x ∈ xs, Shal n x) → PyData.plainAll xs = true ∧ PyData.depthAll xs ≤ n
  | [], _ => ⟨rfl, by simp [PyData.depthAll]⟩
  | x :: xs, h => by
    obtain ⟨h1, h2⟩ := h x List.mem_cons_self
    obtain ⟨h3, h4⟩ := shal_all (xs := xs) fun y hy => h y (List.mem_cons_of_mem _ hy)
    exact ⟨by rw [PyData.plainAll, h1, h3]; rfl, by rw [PyData.depthAll]; omega⟩
theorem shal_list {n : Nat} {xs : List PyData} (h : ∀ x ∈ xs, Shal n x) : Shal (n + 1) (.list xs) := by
  obtain ⟨h1, h2⟩ := shal_all h
  exact ⟨h1, by rw [PyData.depth]; omega⟩
theorem shal_tup {n : Nat} {xs : List PyData} (h : ∀ x ∈ xs, Shal n x) : Shal (n + 1) (.tuple xs) := by
  obtain ⟨h1, h2⟩ := shal_all h
  exact ⟨h1, by rw [PyData.depth]; omega⟩
theorem Shal.up {n m : Nat} {d : PyData} (h : Shal n d) (k : n ≤ m) : Shal m d := ⟨h.1, Nat.le_trans h.2 k⟩
theorem all_nil {p : PyData → Prop} : ∀ x ∈ ([] : List PyData), p x := fun _ h => nomatch h
theorem all_cons {p : PyData → Prop} {d : PyData} {ds : List PyData} (h : p d) (t : ∀ x ∈ ds, p x) : ∀ x ∈ d :: ds, p x := fun x hx => by
  rcases List.mem_cons.mp hx with rfl | hx
  · exact h
  · exact t x hx
theorem all_map {α : Type} {p : PyData → Prop} {f : α → PyData} (h : ∀ a, p (f a)) (l : List α) : ∀ x ∈ l.map f, p x := fun x hx => by
  obtain ⟨a, _, rfl⟩ := List.mem_map.mp hx
  exact h a
theorem dp_map {α : Type} {K : PySem.W.Frag} {H : Hp} {f : α → V} {g : α → PyData} (h : ∀ a, Dp K H (f a) (g a)) : ∀ l : List α, DpAll K H (l.map f) (l.map g)
  | [] => .nil
  | a :: l => .cons (h a) (dp_map h l)
section
variable {X : Cx} {P : Program} {w : World} {K : PySem.W.Frag} {mg : Str → Option Value} {base : Heap} {N : List Str} {nm : List (Str × NameKind)} {j : Nat} {σ σ' : L2.St} {H G : Hp} {Q : VK}
theorem o_eqP (c : CI X P w K mg base N nm j) {x y : V} {d e : PyData} (hx : Dp K H x d) (hy : Dp K H y e) (h1 : Shal 64 d) (h2 : Shal 64 e) (h : Q (.bl (PyData.eqv d e)) H) : oS X (compareOp .Eq) x y H Q := by
  refine ⟨fun x y H Q => ∃ d e, Dp X.K H x d ∧ Dp X.K H y e ∧ Shal 64 d ∧ Shal 64 e ∧ Q (.bl (PyData.eqv d e)) H, ?_, d, e, by rw [c.K]; exact hx, by rw [c.K]; exact hy, h1, h2, h⟩
  intro pins s σ H x y v u Q I rx ry h
  obtain ⟨d, e, hd, he, sd, se, q⟩ := h
  obtain ⟨as, r1⟩ := Dp.reads I d x v hd rx
  obtain ⟨bs, r2⟩ := Dp.reads I e y u he ry
  have := c.u64
  have := sd.2
  exact PySem.SeqAt.eq_plain r1 r2 sd.1 se.1 (by omega) ⟨.bl _, H, I, rfl, q⟩
theorem o_neP (c : CI X P w K mg base N nm j) {x y : V} {d e : PyData} (hx : Dp K H x d) (hy : Dp K H y e) (h1 : Shal 64 d) (h2 : Shal 64 e) (h : Q (.bl (!PyData.eqv d e)) H) : oS X (compareOp .NotEq) x y H Q := by
  refine ⟨fun x y H Q => ∃ d e, Dp X.K H x d ∧ Dp X.K H y e ∧ Shal 64 d ∧ Shal 64 e ∧ Q (.bl (!PyData.eqv d e)) H, ?_, d, e, by rw [c.K]; exact hx, by rw [c.K]; exact hy, h1, h2, h⟩
  intro pins s σ H x y v u Q I rx ry h
  obtain ⟨d, e, hd, he, sd, se, q⟩ := h
  obtain ⟨as, r1⟩ := Dp.reads I d x v hd rx
  obtain ⟨bs, r2⟩ := Dp.reads I e y u he ry
  have := c.u64
  have := sd.2
  exact PySem.SeqAt.ne_plain r1 r2 sd.1 se.1 (by omega) ⟨.bl _, H, I, rfl, q⟩
theorem o_eqSame (c : CI X P w K mg base N nm j) {x y : V} {d : PyData} (hx : Dp K H x d) (hy : Dp K H y d) (h1 : Shal 64 d) (h : Q (.bl true) H) : oS X (compareOp .Eq) x y H Q :=
  o_eqP c hx hy h1 h1 (by rw [PySem.SeqAt.eqv_refl_plain _ h1.1]; exact h)
theorem o_neSame (c : CI X P w K mg base N nm j) {x y : V} {d : PyData} (hx : Dp K H x d) (hy : Dp K H y d) (h1 : Shal 64 d) (h : Q (.bl false) H) : oS X (compareOp .NotEq) x y H Q :=
  o_neP c hx hy h1 h1 (by rw [PySem.SeqAt.eqv_refl_plain _ h1.1]; exact h)
end
end Go

namespace Go
open PySem PySem.Spec PyProof.Rows L2

theorem i_true {p : Prop} [Decidable p] {A B : Prop} (h : p) (k : A) : if decide p = true then A else B := by rw [if_pos (decide_eq_true h)]; exact k
theorem i_false {p : Prop} [Decidable p] {A B : Prop} (h : ¬ p) (k : B) : if decide p = true then A else B := by rw [if_neg (by simpa using h)]; exact k
/-! how often a sign is in a text -/
theorem sub_one (w : List Nat) (c i : Nat) : Builtin.Str.subAt (S w) (S [c]) i = decide (w[i]? = some c) := by
  have e1 : (S w).cps = w.toArray := rfl
  have e2 : (S [c]).cps = #[c] := rfl
  have e3 : (S [c]).length = 1 := rfl
  unfold Builtin.Str.subAt
  rw [e1, e2, e3, Bool.eq_iff_iff, beq_iff_eq, decide_eq_true_eq]
  have e4 : (w.toArray.extract i (i + 1)) = ((w.drop i).take 1).toArray := by
    simp [List.extract_toArray, List.extract_eq_drop_take]
  rw [e4]
  constructor
  · intro h
    have h : (w.drop i).take 1 = [c] := by simpa using congrArg Array.toList h
    have := congrArg (fun l : List Nat => l[0]?) h
    simpa [List.getElem?_take, List.getElem?_drop] using this
  · intro h
    have hi := (List.getElem?_eq_some_iff.mp h)
    obtain ⟨hl, hv⟩ := hi
    rw [List.drop_eq_getElem_cons hl, hv]; rfl
theorem occ_cnt (w : List Nat) (c : Nat) : ∀ (k i : Nat) (st : Array Nat × Nat), i + k = w.length + 1 → st.2 ≤ i → st.1.size ≤ i → (forIn (List.range' i k) st (StrLaws.occBody (S w) (S [c]) w.length (w.length + 1))).run.fst.size = st.1.size + (w.drop i).count c
  | 0, i, st, h, _, _ => by
    rw [List.drop_eq_nil_of_le (by omega)]
    show st.1.size = _
    simp
  | k + 1, i, st, h, h1, h2 => by
    rw [List.range'_succ, List.forIn_cons]
    unfold StrLaws.occBody
    rw [sub_one, show (S [c]).length = 1 from rfl]
    by_cases e : w[i]? = some c
    · obtain ⟨hl, hv⟩ := List.getElem?_eq_some_iff.mp e
      rw [if_pos ⟨⟨⟨by omega, h1⟩, by omega⟩, decide_eq_true e⟩]
      have ih := occ_cnt w c k (i + 1) (st.1.push i, i + 1) (by omega) (Nat.le_refl _) (by simp; omega)
      refine Eq.trans ih ?_
      rw [List.drop_eq_getElem_cons hl, hv]
      simp; omega
    · rw [if_neg (fun q => e (of_decide_eq_true q.2))]
      have ih := occ_cnt w c k (i + 1) (st.1, st.2) (by omega) (by simp; omega) (by simp; omega)
      refine Eq.trans ih ?_
      by_cases hl : i < w.length
      · rw [List.drop_eq_getElem_cons hl]
        have hv : w[i] ≠ c := fun q => e (by rw [List.getElem?_eq_getElem hl, q])
        rw [List.count_cons_of_ne hv]
      · rw [List.drop_eq_nil_of_le (by omega), List.drop_eq_nil_of_le (by omega)]
theorem txt_count (w : List Nat) (c : Nat) : Txt.count (S w) (S [c]) = ((w.count c : Nat) : Int) := by
  unfold Txt.count
  rw [StrLaws.occ_eq, S_len]
  have := occ_cnt w c (w.length + 1) 0 (#[], 0) (by omega) (Nat.le_refl _) (Nat.le_refl _)
  rw [Array.length_toList, show w.length + 1 - 0 = w.length + 1 by omega, this]
  simp
theorem occ_abc : ∀ k : Fin 26, Builtin.Str.occurrences (S (cs "abcdefghijklmnopqrstuvwxyza")) (S [97 + k.val]) 0 (S (cs "abcdefghijklmnopqrstuvwxyza")).length 1 = [k.val] := by decide +kernel
section
variable {X : Cx} {P : Program} {w : World} {K : PySem.W.Frag} {mg : Str → Option Value} {base : Heap} {N : List Str} {nm : List (Str × NameKind)} {j : Nat} {σ σ' : L2.St} {H G : Hp} {Q : VK} {pos p p2 pe : Pos} {a b e : Expr}
theorem m_count1 {w : List Nat} {c : Nat} (h : Q (.int (w.count c : Nat)) H) : mS X "str.count" (.str (S w)) [.str (S [c])] H Q := ⟨_, mt_count, _, _, rfl, rfl, by rw [txt_count]; exact h⟩
theorem m_count0 {w : List Nat} (h : Q (.int (w.count 48 : Nat)) H) : mS X "str.count" (.str (S w)) [.str (S (cs "0"))] H Q := by rw [show cs "0" = [48] by decide +kernel]; exact m_count1 h
theorem m_countI {w : List Nat} (h : Q (.int (w.count 49 : Nat)) H) : mS X "str.count" (.str (S w)) [.str (S (cs "1"))] H Q := by rw [show cs "1" = [49] by decide +kernel]; exact m_count1 h
theorem m_indexA {x : Nat} (h1 : 97 ≤ x ∧ x ≤ 122) (h : Q (.int (x - 97 : Nat)) H) : mS X "str.index" (.str (S (cs "abcdefghijklmnopqrstuvwxyza"))) [.str (S [x])] H Q := by
  have e := occ_abc ⟨x - 97, by omega⟩
  simp only [show 97 + (x - 97) = x by omega] at e
  exact ⟨_, mt_sindex, _, _, _, _, rfl, rfl, e, h⟩
theorem sw_cell {elt : Expr} {gs : List Comprehension} {scope : Scope} {pos py : Pos} {y : Str} {l : Nat} {env : Env} (hy : env.scope.names.lookup y = some .cell) : swapsWith (.ListComp elt gs scope pos) (some (.Name y py)) l env = pure false := by
  have ky : env.kindOf y = some .cell := hy
  unfold swapsWith
  simp only [ky, show (some NameKind.cell == some NameKind.local) = false from rfl, Bool.and_false, Bool.false_and]
theorem s_setC {D : Ends} {elt : Expr} {gs : List Comprehension} {scope : Scope} {spos : Pos} (c : CI X P w K mg base N nm j) {y : Str} {i : Nat} (hi : Ix N y i) (hy : nm.lookup y = some NameKind.cell) (h : eS X (.ListComp elt gs scope pos) σ H fun v H1 => D.nx (σ.set i (some v)) H1) : sS X (.Assign [.Name y p] (.ListComp elt gs scope pos) spos) D σ H :=
  s_set c (sw_cell (c.ce _ hy).1) hi (by unfold locB; rw [hy]; rfl) h
/-- list(range(a)) -/
def rgL (n : Nat) : List Int := (List.range n).map fun i => ((i : Nat) : Int)
theorem e_listRg1 (c : CI X P w K mg base N nm j) (g1 : glB nm "list" = true) (m1 : mg "list" = none) (g2 : glB nm "range" = true) (m2 : mg "range" = none) (hs : starEach [a] X.env = [(false, eval a X.env)])
    (hs2 : starEach [.Call (.Name "range" p2) [a] [] pe] X.env = (false, eval (.Call (.Name "range" p2) [a] [] pe) X.env) :: starEach [] X.env)
    (h : eS X a σ H fun x H1 => ∃ n : Int, x = .int n ∧ 0 ≤ n ∧ n ≤ 1000000 ∧ ∀ q H', New H1 q (.lst ((rgL n.toNat).map V.int)) H' → Q (.ref q) H') : eS X (.Call (.Name "list" p) [.Call (.Name "range" p2) [a] [] pe] [] pos) σ H Q :=
  ⟨_, pe_listRg c.calm (c.gl g1) (by rw [c.mg]; exact m1) (prg_1 (c.gl g2) (by rw [c.mg]; exact m2) eS_is hs) hs2, eS_mono h fun x H1 ⟨n, e, h0, h1, q⟩ => ⟨n, e, RgOk.of_le (by omega) (by omega) (by omega) (by omega), fun q' hq => q q' _ ⟨hq, by
    have e : rgV 0 n = (rgL n.toNat).map V.int := by
      unfold rgV rgL
      rw [List.map_map, show (n - 0).toNat = n.toNat by omega]
      exact List.map_congr_left fun i _ => by show V.int (0 + (i : Int)) = V.int i; rw [Int.zero_add]
    rw [e]⟩⟩⟩
end
end Go

namespace Go
open PySem PySem.Spec PyProof.Rows L2

/-- the signs of two texts side by side, in new pairs -/
def Itzs (x y : Str) : It := ⟨fun i _ => i < x.cps.size ∧ i < y.cps.size, fun i H v H' => ∃ T c d, v = .ref T ∧ H T = none ∧ H' = upd H T (.tup [.str ⟨#[c]⟩, .str ⟨#[d]⟩]) ∧ x.cps[i]? = some c ∧ y.cps[i]? = some d, fun i _ => x.cps.size ≤ i ∨ y.cps.size ≤ i⟩
theorem turn_zipS {P : Program} {w : World} {K : PySem.W.Frag} {elts : List Expr} {kk : Nat} {tpos : Pos} (z TI TO i1 i2 : Addr) (x y : Str) (t u : Tok) (S : ZipSep2 z TI TO i1 i2 [i1] [i2]) :
    Turn P w K (.Tuple elts kk tpos) (Itzs x y) [z, TI, TO, i1, i2] z (fun i h => (i ≤ x.cps.size ∧ i ≤ y.cps.size) ∧ IsZip h z TI TO .none ∧ IsTupOf2 h TI (.ref i1) (.ref i2) ∧ (∃ a b, IsTupOf2 h TO a b) ∧ h.IsStrIter i1 (strIterType x) x t i ∧ h.IsStrIter i2 (strIterType y) y u i) where
  mem := by simp
  obj := fun i h st c hc => by
    obtain ⟨_, hz, hTI, ⟨a, b, hTO⟩, ⟨o1, e1, _, d1⟩, ⟨o2, e2, _, d2⟩⟩ := st
    have e' : c = z ∨ c = TI ∨ c = TO ∨ c = i1 ∨ c = i2 := by simpa using hc
    rcases e' with q | q | q | q | q
    · rw [q]; exact ⟨_, hz, fun v q => nomatch q⟩
    · rw [q]; exact ⟨_, hTI, fun v q => nomatch q⟩
    · rw [q]; exact ⟨_, hTO, fun v q => nomatch q⟩
    · rw [q]; exact ⟨o1, e1, fun v q => by rw [d1] at q; cases q⟩
    · rw [q]; exact ⟨o2, e2, fun v q => by rw [d2] at q; cases q⟩
  keep := fun i h h' st k => by
    obtain ⟨hl, hz, hTI, ⟨a, b, hTO⟩, ⟨o1, e1, r1⟩, ⟨o2, e2, r2⟩⟩ := st
    exact ⟨hl, k z (by simp) _ hz, k TI (by simp) _ hTI, ⟨a, b, k TO (by simp) _ hTO⟩, ⟨o1, k i1 (by simp) _ e1, r1⟩, ⟨o2, k i2 (by simp) _ e2, r2⟩⟩
  item := by
    intro X hP hw hK hc i pins s σ H E I hf st hg
    subst hP hw hK
    obtain ⟨hl, hz, hTI, ⟨a0, b0, hTO⟩, h1, h2⟩ := st
    have D1 : Draws X.prog X.w X.A.in1 i1 [i1] x.cps.size (fun i v => ∃ c u, x.cps[i]? = some c ∧ v = .str ⟨#[c]⟩ u) (fun i h => h.IsStrIter i1 (strIterType x) x t i) := Draws.text (show X.A.in1.handled = none from I.ok.hd hc) i1 x t
    have D2 : Draws X.prog X.w X.A.in1 i2 [i2] y.cps.size (fun i v => ∃ c u, y.cps[i]? = some c ∧ v = .str ⟨#[c]⟩ u) (fun i h => h.IsStrIter i2 (strIterType y) y u i) := Draws.text (show X.A.in1.handled = none from I.ok.hd hc) i2 y u
    have hzl : z < s.heap.objs.size := Heap.lt_size hz
    refine wpAny_pyNext_zipD2_item S D1 D2 hz hTI hTO h1 h2 hg.1 hg.2 fun x1 x2 h' tk p1 p2 z' TO' h1' h2' hT hsz hk => ?_
    obtain ⟨c1, u1, hc1, rfl⟩ := p1
    obtain ⟨c2, u2, hc2, rfl⟩ := p2
    refine ⟨_, rfl, wpAny_letOwnedTupleGo_zip (s := { s with heap := h', toks := tk }) z' fun h'' z'' sb => ?_⟩
    have hT2 : h''.get? s.heap.objs.size = some { cls := .type "tuple", data := .seq #[.str ⟨#[c1]⟩ u1, .str ⟨#[c2]⟩ u2] } := (sb.2 _ (Nat.ne_of_gt hzl)).trans hT
    have new : ObjOk X.prog X.w (upd H s.heap.objs.size (.tup [.str ⟨#[c1]⟩, .str ⟨#[c2]⟩])) h'' s.heap.objs.size (.tup [.str ⟨#[c1]⟩, .str ⟨#[c2]⟩]) :=
      ⟨by show 2 ≤ sizeLine; decide, [.str ⟨#[c1]⟩ u1, .str ⟨#[c2]⟩ u2], .cons ⟨_, rfl⟩ (.cons ⟨_, rfl⟩ .nil), ⟨_, hT2, rfl, _, rfl⟩⟩
    have I1 : Inv X pins σ (upd H s.heap.objs.size (.tup [.str ⟨#[c1]⟩, .str ⟨#[c2]⟩])) { s with heap := h'', toks := tk } :=
      I.turnedNew (ch := [z, TI, TO, i1, i2]) (fun c o hb q => (sb.2 c (fun q' => hb (by simp [q']))).trans (hk c o (fun q' => hb (by simp [q'])) (fun q' => hb (by simp [q'])) (fun q' => hb (by simp [q'])) (fun q' => hb (by simp [q'])) q)) hf (Nat.le_refl _) new
    refine ⟨.ref s.heap.objs.size, _, I1, rfl, ⟨_, c1, c2, rfl, I.hok.fresh (Nat.le_refl _), rfl, hc1, hc2⟩, ⟨hg, z'', ?_, ⟨.str ⟨#[c1]⟩ u1, .str ⟨#[c2]⟩ u2, ?_⟩, ?_, ?_⟩, fun c hcm => ?_⟩
    · exact (sb.2 _ S.TIz).trans (hk _ _ S.TIz S.TITO S.TIi1 S.TIi2 hTI)
    · exact (sb.2 _ S.TOz).trans TO'
    · obtain ⟨o, ho, r⟩ := h1'
      exact ⟨o, (sb.2 _ S.zi1.symm).trans ho, r⟩
    · obtain ⟨o, ho, r⟩ := h2'
      exact ⟨o, (sb.2 _ S.zi2.symm).trans ho, r⟩
    · have hlt : c < s.heap.objs.size := by
        have e' : c = z ∨ c = TI ∨ c = TO ∨ c = i1 ∨ c = i2 := by simpa using hcm
        rcases e' with q | q | q | q | q
        · rw [q]; exact hzl
        · rw [q]; exact Heap.lt_size hTI
        · rw [q]; exact Heap.lt_size hTO
        · rw [q]; obtain ⟨_, e1, _⟩ := h1; exact Heap.lt_size e1
        · rw [q]; obtain ⟨_, e2, _⟩ := h2; exact Heap.lt_size e2
      rw [upd_ne (Nat.ne_of_lt hlt)]
      exact (hf c hcm).1
  done := by
    intro X hP hw hK hc i pins s σ H E I hf st hg
    subst hP hw hK
    obtain ⟨hl, hz, hTI, ⟨a0, b0, hTO⟩, h1, h2⟩ := st
    have D1 : Draws X.prog X.w X.A.in1 i1 [i1] x.cps.size (fun i v => ∃ c u, x.cps[i]? = some c ∧ v = .str ⟨#[c]⟩ u) (fun i h => h.IsStrIter i1 (strIterType x) x t i) := Draws.text (show X.A.in1.handled = none from I.ok.hd hc) i1 x t
    have D2 : Draws X.prog X.w X.A.in1 i2 [i2] y.cps.size (fun i v => ∃ c u, y.cps[i]? = some c ∧ v = .str ⟨#[c]⟩ u) (fun i h => h.IsStrIter i2 (strIterType y) y u i) := Draws.text (show X.A.in1.handled = none from I.ok.hd hc) i2 y u
    have he : i = x.cps.size ∨ i = y.cps.size := by
      have hg : x.cps.size ≤ i ∨ y.cps.size ≤ i := hg
      omega
    exact wpAny_pyNext_zipD2_end S D1 D2 hz hTI hTO h1 h2 hl.1 hl.2 he fun h' tk hk => ⟨rfl, I.turnedL (ch := [z, TI, TO, i1, i2]) (fun c o hb q =>
      hk c o (fun q' => hb (by simp [q'])) (fun q' => hb (by simp [q'])) (fun q' => hb (by simp [q'])) (fun q' => hb (by simp [q'])) q) hf⟩
  self := fun A i s Q E st h => wpAny_pyIter_zip st.2.1 h
def iZipS (ta : TA) : TI := fun σ H R => ta σ H fun vs H1 => ∃ x y, vs = [.str x, .str y] ∧ R (Itzs x y) H1
theorem pi_zipS {X : Cx} {e e2 : Expr} {ta : TA} {p pos tpos : Pos} {elts : List Expr} {kk : Nat} (hg : Gl X "zip") (hm : X.mg "zip" = none) (ha : PA X [e, e2] ta)
    (hs : starEach [e, e2] X.env = (false, eval e X.env) :: starEach [e2] X.env := by rfl) (hpl : (backTo pos (starEach [e2] X.env)).any (·.1) = false := by rfl) :
    PI X (.Tuple elts kk tpos) (.Call (.Name "zip" p) [e, e2] [] pos) (iZipS ta) := by
  refine ⟨fun pins s σ H R I h => ?_⟩
  refine Call_ (ld_blt I hg hm PyProof.Rows.boot_zip (PyProof.Rows.callWith_type1 (thn (ha.run pos pins s σ H _ I h) fun us s1 ⟨vs, H1, I1, r1, q1⟩ => ?_) hs hpl))
  obtain ⟨x, y, ex, q⟩ := q1
  subst ex
  cases r1 with
  | cons r rr =>
    cases rr with
    | cons r' rr =>
      cases rr
      obtain ⟨t, rfl⟩ := r
      obtain ⟨u, rfl⟩ := r'
      refine zip_begins2 (begins_text x t) (begins_text y u) trivial trivial fun h' hz hTI hTO h1 h2 hsz hk => wpAny_pyIter_zip hz ?_
      have I2 : Inv X pins σ H1 { s1 with heap := h' } := I1.kept (t' := s1.toks) hk
      have S : ZipSep2 (s1.heap.objs.size + 4) (s1.heap.objs.size + 2) (s1.heap.objs.size + 3) s1.heap.objs.size (s1.heap.objs.size + 1) [s1.heap.objs.size] [s1.heap.objs.size + 1] := by
        constructor <;> (first | simp | omega | (simp; omega))
      refine ⟨s1.heap.objs.size + 4, [s1.heap.objs.size + 4, s1.heap.objs.size + 2, s1.heap.objs.size + 3, s1.heap.objs.size, s1.heap.objs.size + 1], _, _, H1, rfl, I2, turn_zipS _ _ _ _ _ x y t u S, ⟨⟨Nat.zero_le _, Nat.zero_le _⟩, hz, hTI, ⟨_, _, hTO⟩, ⟨_, h1, rfl, rfl⟩, ⟨_, h2, rfl, rfl⟩⟩, fun c hcm => ?_, q⟩
      have e' : c = s1.heap.objs.size + 4 ∨ c = s1.heap.objs.size + 2 ∨ c = s1.heap.objs.size + 3 ∨ c = s1.heap.objs.size ∨ c = s1.heap.objs.size + 1 := by simpa using hcm
      have hle : s1.heap.objs.size ≤ c := by
        rcases e' with z | z | z | z | z
        · rw [z]; exact Nat.le_add_right _ _
        · rw [z]; exact Nat.le_add_right _ _
        · rw [z]; exact Nat.le_add_right _ _
        · rw [z]; exact Nat.le_refl _
        · rw [z]; exact Nat.le_add_right _ _
      exact I1.fpOk hle (I1.hok.fresh hle)
theorem walk_zipS {x y : Str} : Walk (Itzs x y) (min x.cps.size y.cps.size) (fun _ => True) (fun i H v H' => ∃ T c d, v = .ref T ∧ H T = none ∧ H' = upd H T (.tup [.str ⟨#[c]⟩, .str ⟨#[d]⟩]) ∧ x.cps[i]? = some c ∧ y.cps[i]? = some d) :=
  ⟨fun _ _ h _ => ⟨by omega, by omega⟩, fun _ _ => by show _ ≤ _ ∨ _ ≤ _; omega, fun _ _ _ _ _ _ y => y⟩
section
variable {X : Cx} {P : Program} {w : World} {K : PySem.W.Frag} {mg : Str → Option Value} {base : Heap} {N : List Str} {nm : List (Str × NameKind)} {j : Nat} {σ σ' : L2.St} {H G : Hp} {Q : VK} {D : Ends} {pos p tpos : Pos} {C : List (Addr × HO)} {elts : List Expr} {kk : Nat} {a b : Expr} {body : List Stmt}
theorem i_zipS (c : CI X P w K mg base N nm j) {R : It → Hp → Prop} (hg : glB nm "zip" = true) (hm : mg "zip" = none) (hs : starEach [a, b] X.env = (false, eval a X.env) :: starEach [b] X.env) (hpl : (backTo pos (starEach [b] X.env)).any (·.1) = false) (hs2 : starEach [b] X.env = (false, eval b X.env) :: starEach [] X.env)
    (h : eS X a σ H fun x H1 => eS X b σ H1 fun y H2 => ∃ z1 z2, x = .str (S z1) ∧ y = .str (S z2) ∧ R (Itzs (S z1) (S z2)) H2) :
    iS X (.Tuple elts kk tpos) (.Call (.Name "zip" p) [a, b] [] pos) σ H R :=
  ⟨_, pi_zipS (c.gl hg) (by rw [c.mg]; exact hm) (pa_cons eS_is (pa_cons eS_is pa_nil hs2) hs) hs hpl, eS_mono h fun _ _ h => eS_mono h fun _ _ ⟨z1, z2, e1, e2, r⟩ => ⟨_, _, by rw [e1, e2], r⟩⟩
/-- for (x, y) in zip(text, text): each turn a new pair -/
theorem on_zipS {z1 z2 : List Nat} (Pv : Nat → L2.St → Hp → Prop) (h0 : Pv 0 σ H)
    (hs : ∀ i x y σ H T H', z1[i]? = some x → z2[i]? = some y → Pv i σ H → New H T (.tup [.str (S [x]), .str (S [y])]) H' → gS X (.Tuple elts kk tpos) (.ref T) σ H' fun σ2 H2 => bS X body { D with nx := Pv (i + 1), ct := Pv (i + 1), bk := D.nx } σ2 H2) (hd : ∀ σ H, Pv (min z1.length z2.length) σ H → D.nx σ H) :
    ForOn X (.Tuple elts kk tpos) body D (Itzs (S z1) (S z2)) σ H := ⟨_, _, _, walk_zipS, Pv, h0, fun _ _ _ _ _ => True.intro, fun i x σ H H' hi p ⟨T, c1, c2, e1, e2, e3, hc1, hc2⟩ => by
      subst e1
      exact hs i c1 c2 σ _ T H' (by simpa [S] using hc1) (by simpa [S] using hc2) p ⟨e2, e3⟩, fun σ H p => hd σ H (by simpa [S] using p)⟩
/-- a comprehension over zip(text, text) -/
theorem lc_zipS {tg elt : Expr} {ifs : List Expr} {scope : Scope} {vs : List Nat} {z1 z2 : List Nat} {Qd : Addr → Hp → Prop} (Inv : Nat → List V → Hp → List (Addr × HO) → Prop) (c : CI X P w K mg base N nm j) (hk : scope.kind = .function) (hn : z1.length ≤ 1000000) (O : Own G C H) (h0 : Inv 0 [] G C)
    (hs : ∀ m x y acc G' C' A H1 T H2, z1[m]? = some x → z2[m]? = some y → Inv m acc G' C' → Own G' ((A, .lst acc) :: C') H1 → New H1 T (.tup [.str (S [x]), .str (S [y])]) H2 → Same G G' → ∀ X', CI X' P w K mg base N scope.names j → gS X' tg (.ref T) (wipe σ vs) H2 fun σ2 H3 => wipe σ2 vs = wipe σ vs ∧ ∀ X', CI X' P w K mg base N scope.names j → tsS X' ifs σ2 H3 fun b H4 =>
      if b = true then ∀ X', CI X' P w K mg base N scope.names j → eS X' elt σ2 H4 fun y H5 => ∃ G4 C4, Own G4 ((A, .lst acc) :: C4) H5 ∧ Same G' G4 ∧ Inv (m + 1) (acc ++ [y]) G4 C4 else ∃ G4 C4, Own G4 ((A, .lst acc) :: C4) H4 ∧ Same G' G4 ∧ Inv (m + 1) acc G4 C4)
    (hd : ∀ acc G' C' A H', acc.length ≤ min z1.length z2.length → Inv (min z1.length z2.length) acc G' C' → Own G' ((A, .lst acc) :: C') H' → Same G G' → Qd A H') : LcOn X scope tg ifs elt vs Qd (Itzs (S z1) (S z2)) σ H := by
  have e1 : (S z1).cps.size = z1.length := by simp [S]
  have e2 : (S z2).cps.size = z2.length := by simp [S]
  refine lc_own Inv c hk walk_zipS (by rw [e1, e2]; omega) O h0 (fun _ _ _ _ _ => True.intro) (fun m x acc G' C' A H1 H2 hm iv hy O' s X' c' => ?_) (fun acc G' C' A H' h1 h2 => hd acc G' C' A H' (by rw [← e1, ← e2]; exact h1) (by rw [← e1, ← e2]; exact h2))
  obtain ⟨T, c1, c2, rfl, f1, f2, hc1, hc2⟩ := hy
  exact hs m c1 c2 acc G' C' A H1 T H2 (by simpa [S] using hc1) (by simpa [S] using hc2) iv O' ⟨f1, f2⟩ s X' c'
/-- .. over a text -/
theorem lc_str {tg elt : Expr} {ifs : List Expr} {scope : Scope} {vs : List Nat} {z : List Nat} {Qd : Addr → Hp → Prop} (Inv : Nat → List V → Hp → List (Addr × HO) → Prop) (c : CI X P w K mg base N nm j) (hk : scope.kind = .function) (hn : z.length ≤ 1000000) (O : Own G C H) (h0 : Inv 0 [] G C)
    (hs : ∀ m x acc G' C' A H1, z[m]? = some x → Inv m acc G' C' → Own G' ((A, .lst acc) :: C') H1 → Same G G' → ∀ X', CI X' P w K mg base N scope.names j → gS X' tg (.str (S [x])) (wipe σ vs) H1 fun σ2 H3 => wipe σ2 vs = wipe σ vs ∧ ∀ X', CI X' P w K mg base N scope.names j → tsS X' ifs σ2 H3 fun b H4 =>
      if b = true then ∀ X', CI X' P w K mg base N scope.names j → eS X' elt σ2 H4 fun y H5 => ∃ G4 C4, Own G4 ((A, .lst acc) :: C4) H5 ∧ Same G' G4 ∧ Inv (m + 1) (acc ++ [y]) G4 C4 else ∃ G4 C4, Own G4 ((A, .lst acc) :: C4) H4 ∧ Same G' G4 ∧ Inv (m + 1) acc G4 C4)
    (hd : ∀ acc G' C' A H', acc.length ≤ z.length → Inv z.length acc G' C' → Own G' ((A, .lst acc) :: C') H' → Same G G' → Qd A H') : LcOn X scope tg ifs elt vs Qd (Its (S z)) σ H := by
  have e1 : (S z).cps.size = z.length := by simp [S]
  refine lc_own Inv c hk walk_str (by rw [e1]; exact hn) O h0 (fun _ _ _ _ _ => True.intro) (fun m x acc G' C' A H1 H2 hm iv hy O' s X' c' => ?_) (fun acc G' C' A H' h1 h2 => hd acc G' C' A H' (by rw [← e1]; exact h1) (by rw [← e1]; exact h2))
  obtain ⟨rfl, ch, hc, rfl⟩ := hy
  exact hs m ch acc G' C' A _ (by simpa [S] using hc) iv O' s X' c'
theorem o_eqNil (c : CI X P w K mg base N nm j) {p q : Addr} {zs : List Nat} (hp : SqL K H p (zs.map fun x => V.str (S [x]))) (hq : SqL K H q []) (h : Q (.bl (decide (zs = []))) H) : oS X (compareOp .Eq) (.ref p) (.ref q) H Q :=
  o_eqP c (.lst hp (dp_map (g := fun x => PyData.str (S [x])) (fun _ => .str _) zs)) (.lst hq .nil) (shal_list (all_map (fun _ => shal_str) zs)) (shal_list all_nil) (by
    have e : PyData.eqv (.list (zs.map fun x => PyData.str (S [x]))) (.list []) = decide (zs = []) := by cases zs <;> simp [PyData.eqv, PyData.eqvAll]
    rw [e]; exact h)
end
end Go

namespace Go
open PySem PySem.Spec PyProof.Rows L2

section
variable {X : Cx} {P : Program} {w : World} {K : PySem.W.Frag} {mg : Str → Option Value} {base : Heap} {N : List Str} {nm : List (Str × NameKind)} {j : Nat} {σ σ' : L2.St} {H G : Hp} {Q : VK} {pos p : Pos}
/-! a module's constants -/
theorem e_gstr {x : Str} {z : List Nat} {t : Tok} (c : CI X P w K mg base N nm j) (hm : mg x = some (.str (S z) t)) (hg : glB nm x = true) (h : Q (.str (S z)) H) : eS X (.Name x pos) σ H Q :=
  ⟨_, pe_glob (c.gl hg) (by rw [c.mg]; exact hm) (show RelV (.str (S z)) _ from ⟨t, rfl⟩) (glB_d hg), h⟩
theorem e_gint {x : Str} {i : Int} {t : Tok} (c : CI X P w K mg base N nm j) (hm : mg x = some (.int i t)) (hg : glB nm x = true) (h : Q (.int i) H) : eS X (.Name x pos) σ H Q :=
  ⟨_, pe_glob (c.gl hg) (by rw [c.mg]; exact hm) (show RelV (.int i) _ from ⟨t, rfl⟩) (glB_d hg), h⟩
/-! the least, the greatest of data -/
theorem vals_get {xs : List V} {us : List Value} (r : Vals xs us) : ∀ (i : Nat) (u : Value), us[i]? = some u → ∃ x, xs[i]? = some x ∧ RelV x u := by
  induction r with
  | nil => intro i u h; simp at h
  | cons r rs ih =>
    intro i u h
    cases i with
    | zero => exact ⟨_, rfl, by have e := Option.some.inj h; rw [← e]; exact r⟩
    | succ i => exact ih i u h
theorem reads_get {h : Heap} {us : List Value} {ds : List PyData} {as : List Addr} (r : ReadsAll h us ds as) : ∀ (i : Nat) (u : Value), us[i]? = some u → ∃ d bs, ds[i]? = some d ∧ Reads h u d bs := by
  induction us generalizing ds as with
  | nil => intro i u h; simp at h
  | cons v vs ih =>
    intro i u h
    cases r with
    | cons r rs =>
      cases i with
      | zero => exact ⟨_, _, rfl, by have e := Option.some.inj h; rw [← e]; exact r⟩
      | succ i => exact ih rs i u h
theorem c_minP (c : CI X P w K mg base N nm j) {p : Addr} {xs : List V} {d : PyData} {ds : List PyData} (hp : SqL K H p xs) (hd : DpAll K H xs (d :: ds)) (ha : PySem.W.AlikeAll (d :: ds)) (hs : ∀ e ∈ d :: ds, Shal 16 e)
    (h : ∀ (i : Nat) (x : V), xs[i]? = some x → (d :: ds)[i]? = some (PySem.W.minD d ds) → Q x H) : cS X (.builtin "min") [.ref p] H Q := by
  refine ⟨fun vs H Q => ∃ (p : Addr) (xs : List V) (d : PyData) (ds : List PyData), vs = [.ref p] ∧ SqL X.K H p xs ∧ DpAll X.K H xs (d :: ds) ∧ PySem.W.AlikeAll (d :: ds) ∧ (∀ e ∈ d :: ds, Shal 16 e) ∧ ∀ (i : Nat) (x : V), xs[i]? = some x → (d :: ds)[i]? = some (PySem.W.minD d ds) → Q x H, ?_, p, xs, d, ds, rfl, by rw [c.K]; exact hp, by rw [c.K]; exact hd, ha, hs, h⟩
  intro pins s σ H vs us Q I r h
  obtain ⟨p, xs, d, ds, rfl, hp, hd, ha, hs, q⟩ := h
  obtain ⟨its, rv, hl, _⟩ := I.list hp
  rw [Vals.ref1 r]
  obtain ⟨as, rs⟩ := Dp.readsAll I _ _ _ hd rv
  have hu := c.u64
  have hdep := (shal_all hs).2
  refine PySem.W.min_list_data (I.ok.hd c.calm) hl.isList (by simpa using rs) ha (by omega) fun i v h' tk bs hi r2 hk => ?_
  have hi : its[i]? = some v := by simpa using hi
  obtain ⟨x, hx, rx⟩ := vals_get rv i v hi
  obtain ⟨e, cs, he, r3⟩ := reads_get rs i v hi
  have r4 := PyProof.Rows.Reads.keeps hk r3
  obtain ⟨e2, _⟩ := r4.unique _ _ r2
  exact ⟨x, H, I.kept (t' := tk) hk, rx, q i x hx (by rw [he, e2])⟩
theorem c_maxP (c : CI X P w K mg base N nm j) {p : Addr} {xs : List V} {d : PyData} {ds : List PyData} (hp : SqL K H p xs) (hd : DpAll K H xs (d :: ds)) (ha : PySem.W.AlikeAll (d :: ds)) (hs : ∀ e ∈ d :: ds, Shal 16 e)
    (h : ∀ (i : Nat) (x : V), xs[i]? = some x → (d :: ds)[i]? = some (PySem.W.maxD d ds) → Q x H) : cS X (.builtin "max") [.ref p] H Q := by
  refine ⟨fun vs H Q => ∃ (p : Addr) (xs : List V) (d : PyData) (ds : List PyData), vs = [.ref p] ∧ SqL X.K H p xs ∧ DpAll X.K H xs (d :: ds) ∧ PySem.W.AlikeAll (d :: ds) ∧ (∀ e ∈ d :: ds, Shal 16 e) ∧ ∀ (i : Nat) (x : V), xs[i]? = some x → (d :: ds)[i]? = some (PySem.W.maxD d ds) → Q x H, ?_, p, xs, d, ds, rfl, by rw [c.K]; exact hp, by rw [c.K]; exact hd, ha, hs, h⟩
  intro pins s σ H vs us Q I r h
  obtain ⟨p, xs, d, ds, rfl, hp, hd, ha, hs, q⟩ := h
  obtain ⟨its, rv, hl, _⟩ := I.list hp
  rw [Vals.ref1 r]
  obtain ⟨as, rs⟩ := Dp.readsAll I _ _ _ hd rv
  have hu := c.u64
  have hdep := (shal_all hs).2
  refine PySem.W.max_list_data (I.ok.hd c.calm) hl.isList (by simpa using rs) ha (by omega) fun i v h' tk bs hi r2 hk => ?_
  have hi : its[i]? = some v := by simpa using hi
  obtain ⟨x, hx, rx⟩ := vals_get rv i v hi
  obtain ⟨e, cs, he, r3⟩ := reads_get rs i v hi
  have r4 := PyProof.Rows.Reads.keeps hk r3
  obtain ⟨e2, _⟩ := r4.unique _ _ r2
  exact ⟨x, H, I.kept (t' := tk) hk, rx, q i x hx (by rw [he, e2])⟩
theorem S_list (z : List Nat) : (S z).cps.toList = z := by simp [S]
theorem alike_strs (zs : List Str) : PySem.W.AlikeAll (zs.map PyData.str) := PySem.W.alikeAll_datum zs
theorem lt_strs (a b : List Nat) : PySem.W.dataLt (.str (S a)) (.str (S b)) = decide (a < b) := by
  rw [PySem.W.dataLt_str, S_list, S_list]
/-- .. of one text, of two -/
theorem c_minS1 (c : CI X P w K mg base N nm j) {p : Addr} {a : List Nat} (hp : SqL K H p [.str (S a)]) (h : Q (.str (S a)) H) : cS X (.builtin "min") [.ref p] H Q :=
  c_minP c hp (.cons (.str _) .nil) (alike_strs [S a]) (all_cons shal_str all_nil) fun i x hx _ => by
    cases i with
    | zero => have e := Option.some.inj hx; rw [← e]; exact h
    | succ i => simp at hx
theorem c_maxS1 (c : CI X P w K mg base N nm j) {p : Addr} {a : List Nat} (hp : SqL K H p [.str (S a)]) (h : Q (.str (S a)) H) : cS X (.builtin "max") [.ref p] H Q :=
  c_maxP c hp (.cons (.str _) .nil) (alike_strs [S a]) (all_cons shal_str all_nil) fun i x hx _ => by
    cases i with
    | zero => have e := Option.some.inj hx; rw [← e]; exact h
    | succ i => simp at hx
theorem c_minS2 (c : CI X P w K mg base N nm j) {p : Addr} {a b : List Nat} (hp : SqL K H p [.str (S a), .str (S b)]) (h : Q (.str (S (if b < a then b else a))) H) : cS X (.builtin "min") [.ref p] H Q :=
  c_minP c hp (.cons (.str _) (.cons (.str _) .nil)) (alike_strs [S a, S b]) (all_cons shal_str (all_cons shal_str all_nil)) fun i x hx he => by
    have em : PySem.W.minD (.str (S a)) [.str (S b)] = .str (S (if b < a then b else a)) := by
      show (if PySem.W.dataLt (.str (S b)) (.str (S a)) = true then PyData.str (S b) else PyData.str (S a)) = _
      rw [lt_strs]
      by_cases q : b < a
      · rw [if_pos (decide_eq_true q), if_pos q]
      · rw [if_neg (by simpa using q), if_neg q]
    rw [em] at he
    match i, hx, he with
    | 0, hx, he =>
      have e1 := Option.some.inj hx
      have e2 : PyData.str (S a) = _ := Option.some.inj he
      rw [← e1, PyData.str.inj e2]; exact h
    | 1, hx, he =>
      have e1 := Option.some.inj hx
      have e2 : PyData.str (S b) = _ := Option.some.inj he
      rw [← e1, PyData.str.inj e2]; exact h
    | i + 2, hx, _ => simp at hx
theorem c_maxS2 (c : CI X P w K mg base N nm j) {p : Addr} {a b : List Nat} (hp : SqL K H p [.str (S a), .str (S b)]) (h : Q (.str (S (if a < b then b else a))) H) : cS X (.builtin "max") [.ref p] H Q :=
  c_maxP c hp (.cons (.str _) (.cons (.str _) .nil)) (alike_strs [S a, S b]) (all_cons shal_str (all_cons shal_str all_nil)) fun i x hx he => by
    have em : PySem.W.maxD (.str (S a)) [.str (S b)] = .str (S (if a < b then b else a)) := by
      show (if PySem.W.dataLt (.str (S a)) (.str (S b)) = true then PyData.str (S b) else PyData.str (S a)) = _
      rw [lt_strs]
      by_cases q : a < b
      · rw [if_pos (decide_eq_true q), if_pos q]
      · rw [if_neg (by simpa using q), if_neg q]
    rw [em] at he
    match i, hx, he with
    | 0, hx, he =>
      have e1 := Option.some.inj hx
      have e2 : PyData.str (S a) = _ := Option.some.inj he
      rw [← e1, PyData.str.inj e2]; exact h
    | 1, hx, he =>
      have e1 := Option.some.inj hx
      have e2 : PyData.str (S b) = _ := Option.some.inj he
      rw [← e1, PyData.str.inj e2]; exact h
    | i + 2, hx, _ => simp at hx
/-- .. of one pair of a number and a text, of two -/
def pairD (a : Int × List Nat) : PyData := .tuple [.int a.1, .str (S a.2)]
def pairO (a : Int × List Nat) : HO := .tup [.int a.1, .str (S a.2)]
theorem pairD_inj {a b : Int × List Nat} (h : pairD a = pairD b) : a = b := by
  unfold pairD at h
  simp only [PyData.tuple.injEq, List.cons.injEq, PyData.int.injEq, PyData.str.injEq, and_true] at h
  exact Prod.ext h.1 (S_inj.mp h.2)
theorem dp_pair {p : Addr} {a : Int × List Nat} (h : SqT K H p [.int a.1, .str (S a.2)]) : Dp K H (.ref p) (pairD a) := .tup h (.cons (.int _) (.cons (.str _) .nil))
theorem shal_pair {a : Int × List Nat} : Shal 16 (pairD a) := shal_tup (all_cons shal_int (all_cons shal_str all_nil))
def toTS (a : Int × List Nat) : Int × Str := (a.1, S a.2)
theorem alike_pairs (l : List (Int × List Nat)) : PySem.W.AlikeAll (l.map pairD) := by
  have h := PySem.W.alikeAll_datum (l.map toTS)
  rw [List.map_map] at h
  exact h
theorem lt_pairs (a b : Int × List Nat) : PySem.W.dataLt (pairD a) (pairD b) = decide (a.1 < b.1 ∨ (a.1 = b.1 ∧ a.2 < b.2)) := by
  have h := PySem.W.DatumOrd.lt_eq (toTS a) (toTS b)
  refine Eq.trans h ?_
  show (if a.1 = b.1 then decide ((S a.2).cps.toList < (S b.2).cps.toList) else decide (a.1 < b.1)) = _
  rw [S_list, S_list]
  by_cases e : a.1 = b.1
  · rw [if_pos e]; exact decide_eq_decide.mpr ⟨fun q => .inr ⟨e, q⟩, fun q => q.elim (fun z => by omega) fun z => z.2⟩
  · rw [if_neg e]; exact decide_eq_decide.mpr ⟨.inl, fun q => q.elim id fun z => absurd z.1 e⟩
theorem c_minT1 (c : CI X P w K mg base N nm j) {p t : Addr} (hp : SqL K H p [.ref t]) {a : Int × List Nat} (ha : SqT K H t [.int a.1, .str (S a.2)]) (h : Q (.ref t) H) : cS X (.builtin "min") [.ref p] H Q :=
  c_minP c hp (.cons (dp_pair ha) .nil) (alike_pairs [a]) (all_cons shal_pair all_nil) fun i x hx _ => by
    cases i with
    | zero => have e := Option.some.inj hx; rw [← e]; exact h
    | succ i => simp at hx
theorem c_minT2 (c : CI X P w K mg base N nm j) {p t u : Addr} (hp : SqL K H p [.ref t, .ref u]) {a b : Int × List Nat} (ha : SqT K H t [.int a.1, .str (S a.2)]) (hb : SqT K H u [.int b.1, .str (S b.2)])
    (h1 : a = (if b.1 < a.1 ∨ (b.1 = a.1 ∧ b.2 < a.2) then b else a) → Q (.ref t) H) (h2 : b = (if b.1 < a.1 ∨ (b.1 = a.1 ∧ b.2 < a.2) then b else a) → Q (.ref u) H) : cS X (.builtin "min") [.ref p] H Q :=
  c_minP c hp (.cons (dp_pair ha) (.cons (dp_pair hb) .nil)) (alike_pairs [a, b]) (all_cons shal_pair (all_cons shal_pair all_nil)) fun i x hx he => by
    have em : PySem.W.minD (pairD a) [pairD b] = pairD (if b.1 < a.1 ∨ (b.1 = a.1 ∧ b.2 < a.2) then b else a) := by
      show (if PySem.W.dataLt (pairD b) (pairD a) = true then pairD b else pairD a) = _
      rw [lt_pairs]
      by_cases q : b.1 < a.1 ∨ (b.1 = a.1 ∧ b.2 < a.2)
      · rw [if_pos (decide_eq_true q), if_pos q]
      · rw [if_neg (by rw [decide_eq_true_eq]; exact q), if_neg q]
    rw [em] at he
    match i, hx, he with
    | 0, hx, he =>
      have e1 := Option.some.inj hx
      have e2 : pairD a = _ := Option.some.inj he
      rw [← e1]; exact h1 (pairD_inj e2)
    | 1, hx, he =>
      have e1 := Option.some.inj hx
      have e2 : pairD b = _ := Option.some.inj he
      rw [← e1]; exact h2 (pairD_inj e2)
    | i + 2, hx, _ => simp at hx
/-! lists of texts -/
theorem eqv_strs : ∀ xs ys : List (List Nat), PyData.eqvAll (xs.map fun z => PyData.str (S z)) (ys.map fun z => PyData.str (S z)) = decide (xs = ys)
  | [], [] => by simp [PyData.eqvAll]
  | [], _ :: _ => by simp [PyData.eqvAll]
  | _ :: _, [] => by simp [PyData.eqvAll]
  | x :: xs, y :: ys => by
    show (PyData.eqv (.str (S x)) (.str (S y)) && PyData.eqvAll (xs.map fun z => PyData.str (S z)) (ys.map fun z => PyData.str (S z))) = _
    rw [eqv_strs xs ys]
    show ((S x == S y) && decide (xs = ys)) = _
    have e : (S x == S y) = decide (x = y) := by rw [Bool.eq_iff_iff, beq_iff_eq, decide_eq_true_eq]; exact S_inj
    rw [e]
    by_cases h1 : x = y <;> by_cases h2 : xs = ys <;> simp [h1, h2]
theorem dp_strs {K : PySem.W.Frag} {H : Hp} (xs : List (List Nat)) : DpAll K H (xs.map fun z => V.str (S z)) (xs.map fun z => PyData.str (S z)) := dp_map (f := fun z => V.str (S z)) (fun z => .str (S z)) xs
theorem o_eqSL (c : CI X P w K mg base N nm j) {p q : Addr} {xs ys : List (List Nat)} (hp : SqL K H p (xs.map fun z => V.str (S z))) (hq : SqL K H q (ys.map fun z => V.str (S z))) (h : Q (.bl (decide (xs = ys))) H) : oS X (compareOp .Eq) (.ref p) (.ref q) H Q :=
  o_eqP c (.lst hp (dp_strs xs)) (.lst hq (dp_strs ys)) (shal_list (all_map (fun _ => shal_str) xs)) (shal_list (all_map (fun _ => shal_str) ys)) (by
    show Q (.bl (PyData.eqvAll (xs.map fun z => PyData.str (S z)) (ys.map fun z => PyData.str (S z)))) H
    rw [eqv_strs]; exact h)
theorem o_neSL (c : CI X P w K mg base N nm j) {p q : Addr} {xs ys : List (List Nat)} (hp : SqL K H p (xs.map fun z => V.str (S z))) (hq : SqL K H q (ys.map fun z => V.str (S z))) (h : Q (.bl (!decide (xs = ys))) H) : oS X (compareOp .NotEq) (.ref p) (.ref q) H Q :=
  o_neP c (.lst hp (dp_strs xs)) (.lst hq (dp_strs ys)) (shal_list (all_map (fun _ => shal_str) xs)) (shal_list (all_map (fun _ => shal_str) ys)) (by
    show Q (.bl (!PyData.eqvAll (xs.map fun z => PyData.str (S z)) (ys.map fun z => PyData.str (S z)))) H
    rw [eqv_strs]; exact h)
/-- the last item -/
theorem atI_last {α : Type} {z : List α} {v : α} (h : z.getLast? = some v) : atI z (-1) = some v := by
  rw [List.getLast?_eq_getElem?] at h
  have hl := (List.getElem?_eq_some_iff.mp h).1
  show (ixN z.length (-1)).bind _ = _
  unfold ixN
  rw [if_neg (by omega), if_pos (by omega), Option.bind_some, show (-1 + (z.length : Int)).toNat = z.length - 1 by omega]
  exact h
/-- a, b = a list -/
theorem g_tgtsL {es : List Expr} (c : CI X P w K mg base N nm j) {k} {q : Addr} {vs : List V} {R : L2.St → Hp → Prop} (h1 : (assignEach es X.env).length = vs.length) (h2 : (assignEach es X.env).findIdx? (·.1) = none) (hq : SqL K H q vs) (h : gsS X es vs σ H R) : gS X (.Tuple es k pos) (.ref q) σ H R := by
  have e3 := c.K
  subst e3
  exact ⟨_, pg_unl c.calm gsS_is h1 h2, q, _, rfl, hq, rfl, h⟩
end
end Go

namespace Go
open PySem PySem.Spec PyProof.Rows L2

/-! a table of cells: at ps the objects f 0, f 1, .. -/
def tabC (ps : List Addr) (f : Nat → HO) : List (Addr × HO) := ps.mapIdx fun i p => (p, f i)
theorem tabC_get {ps : List Addr} {f : Nat → HO} {i : Nat} {p : Addr} (h : ps[i]? = some p) : (p, f i) ∈ tabC ps f := by
  unfold tabC
  obtain ⟨hl, e⟩ := List.getElem?_eq_some_iff.mp h
  exact List.mem_of_getElem? (i := i) (by rw [List.getElem?_mapIdx, h]; rfl)
theorem tabC_mem {ps : List Addr} {f : Nat → HO} {e : Addr × HO} (h : e ∈ tabC ps f) : ∃ i, ps[i]? = some e.1 ∧ e.2 = f i := by
  unfold tabC at h
  obtain ⟨i, hi⟩ := List.mem_iff_getElem?.mp h
  rw [List.getElem?_mapIdx] at hi
  obtain ⟨p, hp, rfl⟩ := Option.map_eq_some_iff.mp hi
  exact ⟨i, hp, rfl⟩
theorem tabC_fst (ps : List Addr) (f : Nat → HO) : (tabC ps f).map (·.1) = ps := by
  unfold tabC
  apply List.ext_getElem?
  intro i
  rw [List.getElem?_map, List.getElem?_mapIdx]
  cases ps[i]? <;> rfl
theorem tabC_snoc (ps : List Addr) (p : Addr) (f : Nat → HO) : tabC (ps ++ [p]) f = tabC ps f ++ [(p, f ps.length)] := by
  unfold tabC
  rw [List.mapIdx_append]
  simp
theorem tabC_congr {ps : List Addr} {f g : Nat → HO} (h : ∀ i, i < ps.length → f i = g i) : tabC ps f = tabC ps g := by
  unfold tabC
  apply List.ext_getElem?
  intro i
  rw [List.getElem?_mapIdx, List.getElem?_mapIdx]
  cases hp : ps[i]? with
  | none => rfl
  | some p => rw [Option.map_some, Option.map_some, h i (List.getElem?_eq_some_iff.mp hp).1]
section
variable {X : Cx} {P : Program} {w : World} {K : PySem.W.Frag} {mg : Str → Option Value} {base : Heap} {N : List Str} {nm : List (Str × NameKind)} {j : Nat} {σ σ' : L2.St} {H G : Hp} {Q : VK} {pos p : Pos} {C : List (Addr × HO)} {ps : List Addr} {f g : Nat → HO}
/-- the cells in another order -/
theorem Own.perm {C' : List (Addr × HO)} (O : Own G C H) (h : C'.Perm C) : Own G C' H :=
  ⟨O.same, fun q hq => O.own q (h.mem_iff.mp hq), (h.map (·.1)).nodup_iff.mpr O.nd⟩
theorem Own.tabG (O : Own G (tabC ps f ++ C) H) {i : Nat} {p : Addr} (h : ps[i]? = some p) : H p = some (f i) := (O.own _ (List.mem_append_left _ (tabC_get h))).1
theorem Own.tabW (O : Own G (tabC ps f ++ C) H) {i : Nat} {p : Addr} (h : ps[i]? = some p) (hg : ∀ k, k ≠ i → g k = f k) : Own G (tabC ps g ++ C) (upd H p (g i)) := by
  have nd := O.nd
  rw [List.map_append, tabC_fst] at nd
  obtain ⟨n1, n2, n3⟩ := List.nodup_append.mp nd
  have pm : p ∈ ps := List.mem_of_getElem? h
  have hn : G p = none := (O.own _ (List.mem_append_left _ (tabC_get h))).2
  refine ⟨fun b u e => by rw [upd_ne (ne_of_none e hn)]; exact O.same b u e, fun q hq => ?_, by rw [List.map_append, tabC_fst]; exact nd⟩
  rcases List.mem_append.mp hq with hq | hq
  · obtain ⟨k, hk, e⟩ := tabC_mem hq
    have hn2 := (O.own _ (List.mem_append_left _ (tabC_get (f := f) hk))).2
    refine ⟨?_, hn2⟩
    by_cases e1 : k = i
    · subst e1
      rw [h] at hk
      cases hk
      rw [upd_same, e]
    · have hne : q.1 ≠ p := fun z => by
        rw [z] at hk
        exact e1 ((List.getElem?_inj (List.getElem?_eq_some_iff.mp hk).1 n1).mp (hk.trans h.symm))
      rw [upd_ne hne, e, hg k e1]
      exact O.tabG hk
  · have hne : q.1 ≠ p := fun z => n3 _ pm _ (List.mem_map.mpr ⟨q, hq, rfl⟩) z.symm
    rw [upd_ne hne]
    exact O.own q (List.mem_append_right _ hq)
/-- .. all frozen -/
theorem Own.tabF (O : Own G (tabC ps f ++ C) H) : ∃ G', Same G G' ∧ (∀ i p, ps[i]? = some p → G' p = some (f i)) ∧ Own G' C H := by
  obtain ⟨G', s, e, O'⟩ := Own.frzAll (tabC ps f) O
  exact ⟨G', s, fun i p h => e _ (tabC_get h), O'⟩
theorem c_minI (c : CI X P w K mg base N nm j) {p : Addr} {ns : List Int} (hp : SqL K H p (ns.map V.int)) (hn : 0 < ns.length) (h : ∀ m, m ∈ ns → (∀ y ∈ ns, m ≤ y) → Q (.int m) H) : cS X (.builtin "min") [.ref p] H Q := by
  have eK := c.K
  subst eK
  exact ⟨_, cr_min c.calm, _, _, rfl, hp, hn, h⟩
theorem c_maxI (c : CI X P w K mg base N nm j) {p : Addr} {ns : List Int} (hp : SqL K H p (ns.map V.int)) (hn : 0 < ns.length) (h : ∀ m, m ∈ ns → (∀ y ∈ ns, y ≤ m) → Q (.int m) H) : cS X (.builtin "max") [.ref p] H Q := by
  have eK := c.K
  subst eK
  exact ⟨_, cr_max c.calm, _, _, rfl, hp, hn, h⟩
/-- a list is [] -/
theorem eqv_nil (ds : List PyData) : PyData.eqv (.list ds) (.list []) = decide (ds = []) := by cases ds <;> simp [PyData.eqv, PyData.eqvAll]
theorem o_eqNilP (c : CI X P w K mg base N nm j) {p q : Addr} {xs : List V} {ds : List PyData} (hp : SqL K H p xs) (hd : DpAll K H xs ds) (hs : ∀ e ∈ ds, Shal 63 e) (hq : SqL K H q []) (h : Q (.bl (decide (ds = []))) H) : oS X (compareOp .Eq) (.ref p) (.ref q) H Q :=
  o_eqP c (.lst hp hd) (.lst hq .nil) (shal_list hs) (shal_list all_nil) (by rw [eqv_nil]; exact h)
theorem o_neNilP (c : CI X P w K mg base N nm j) {p q : Addr} {xs : List V} {ds : List PyData} (hp : SqL K H p xs) (hd : DpAll K H xs ds) (hs : ∀ e ∈ ds, Shal 63 e) (hq : SqL K H q []) (h : Q (.bl (!decide (ds = []))) H) : oS X (compareOp .NotEq) (.ref p) (.ref q) H Q :=
  o_neP c (.lst hp hd) (.lst hq .nil) (shal_list hs) (shal_list all_nil) (by rw [eqv_nil]; exact h)
/-- an item of a row of a table of cells -/
theorem p_tab {xs : List V} {i j : Nat} {p : Addr} {v : V} {R : Hp → Prop} (O : Own G (tabC ps f ++ C) H) (hp : ps[i]? = some p) (hf : f i = .lst xs) (hj : j < xs.length) (hg : g i = .lst (xs.set j v)) (hk : ∀ k, k ≠ i → g k = f k) (h : ∀ H', Own G (tabC ps g ++ C) H' → R H') : pS X (.ref p) (.int (j : Nat)) v H R :=
  p_lst (by rw [O.tabG hp, hf]) (m := j) (by unfold ixN; rw [if_pos (by omega), if_pos (by omega)]; simp) (by have := h _ (O.tabW hp hk); rw [hg] at this; exact this)
end
end Go

namespace Go
open PySem PySem.Spec PyProof.Rows L2

/-! set(l), l a list of ints -/
/-- a new set, as the model makes it -/
def seO (w : World) : Obj := { cls := .type "set", dict := none, data := .set #[] 0 (.fresh 0 0 (!w.params.followText "set-order")) }
section
variable {P : Program} {w : World} {A : Around} {E : Value → Shared → Prop}
set_option maxHeartbeats 4000000 in
theorem set_of_ints {s : Shared} {l : Addr} {us : Array Value} (ns : List Int) {Q : Value → Shared → Prop} (noH : A.handled = none) (L : s.heap.IsList l us) (iA : IntsAre us.toList ns) (few : ns.length + 1 < scanBound)
    (k : ∀ (h2 : Heap) (tk c : Nat), SetR w h2 s.heap.objs.size (fun j => decide (j ∈ ns)) c → c ≤ ns.length → (∀ b o, s.heap.get? b = some o → h2.get? b = some o) → Q (.ref s.heap.objs.size) { s with heap := h2, toks := tk }) :
    wpAny (model P w) A (call (.type "set") [.ref l]) Q E s := by
  have sz : us.size = ns.length := by have q := IntsAre.length iA; rwa [Array.length_toList] at q
  obtain ⟨mc, mt, mro⟩ := F.called_set.mro
  have r1 := F.called_set.made
  have r2 := F.called_set.sub
  have r3 := F.called_set.notType
  have r4 := F.called_set.canCreate
  have r5 := F.typeCall_set_1 (.ref l)
  refine wpAny_call (codeAny_of_tree (show wpAny _ _ (callAny (.type "set") _) _ _ _ from wpAny_pure ⟨Code.quiet_builtin _ (by decide +kernel), codeAny_builtin F.entry_type_call ?_⟩))
  rw [Around.under_plain (weight_type_call_type "set" [.ref l] []) rfl]
  repeat (any_goals (first | assumption | wp_step))
  refine codeAny_mono (code_set_led1 (w := w) (.ref l) (E := E) (Q₁ := fun ob s1 => ob = .ref s.heap.objs.size ∧ s1 = { s with heap := s.heap.push (seO w) }) ⟨rfl, rfl⟩) fun res s1 hres => ?_
  match res, hres with
  | .error e, hres => exact hres
  | .ok (.ret ob), hres =>
    obtain ⟨rfl, rfl⟩ := hres
    have atS : (s.heap.push (seO w)).get? s.heap.objs.size = some (seO w) := Heap.get?_push_size _ rfl
    have tyS : Shared.TypeIs { s with heap := s.heap.push (seO w) } (.ref s.heap.objs.size) "set" := ⟨_, atS, rfl⟩
    have r6 := F.called_set.init.lookup
    have r7 := F.called_set.init.bind (.ref s.heap.objs.size)
    repeat (any_goals (first | assumption | wp_step))
    refine codeAny_mono (codeAny_call_builtin (R := wants (fun r s2 => r = .none ∧ ∃ h2 tk c, s2 = { s with heap := h2, toks := tk } ∧ SetR w h2 s.heap.objs.size (fun j => decide (j ∈ ns)) c ∧ c ≤ ns.length ∧ ∀ b o, s.heap.get? b = some o → h2.get? b = some o) E) F.called_set.init.plain F.entry_set_init (check_set_init_1 tyS ?_)) fun res2 s2 hres2 => ?_
    · obtain ⟨⟨oc, od, oda, osl⟩, gl, ec, m, ed⟩ := L
      simp only at ec ed
      subst ec ed
      have gl' : (s.heap.push (seO w)).get? l = some { cls := .type "list", dict := od, data := .seq us m, slots := osl } := Heap.get?_push_of_some _ gl
      have L1 : (s.heap.push (seO w)).IsList l us := ⟨_, gl', rfl, m, rfl⟩
      have q1 := F.sub_list_set
      have q2 := F.sub_list_frozenset
      have q3 : (Value.type "list" == Value.type "dict") = false := by decide
      have lt : l < s.heap.objs.size := Heap.lt_size gl
      have noH3 : A.in1.in1.in1.handled = none := by simp [noH]
      have psz : (s.heap.push (seO w)).objs.size = s.heap.objs.size + 1 := Heap.size_push ..
      unfold Builtin.«set.__init__» noKeywords Builtin.Frozenset.updateFrom
      generalize hpi : pyIter = it
      wp_walk
      subst hpi
      refine wpAny_pyIter_list L1 (wpAny_bind (wpAny_runValue ?_))
      have lI : l ≠ (s.heap.push (seO w)).objs.size := Nat.ne_of_lt (by rw [psz]; exact Nat.lt_succ_of_lt lt)
      have off : s.heap.objs.size ∉ [(s.heap.push (seO w)).objs.size, l] := by
        rw [psz]
        simp only [List.mem_cons, List.not_mem_nil, or_false, not_or]
        exact ⟨Nat.ne_of_lt (Nat.lt_succ_self _), Nat.ne_of_gt lt⟩
      have val : ∀ (i : Nat) (v : Value), us[i]? = some v → ∃ z t, ns[i]? = some z ∧ v = .int z t := fun i v hv => by
        have hi : i < ns.length := by rw [← sz]; exact (Array.getElem?_eq_some_iff.mp hv).1
        obtain ⟨t, e⟩ := PyProof.Rows.IntsAre.int_at iA i v (by rw [Array.getElem?_toList]; exact hv)
        exact ⟨ns[i], t, List.getElem?_eq_getElem hi, by rw [e, List.getD_eq_getElem?_getD, List.getElem?_eq_getElem hi]; rfl⟩
      refine set_update_ints (Walks.list noH3 _ l lI us).toS s.heap.objs.size off ns sz few val us.size 0 _ (by omega) (Nat.zero_le _) ⟨⟨_, Heap.get?_push_size _ rfl, rfl, rfl⟩, L1.push _⟩ ⟨0, Nat.le_refl 0, setR_new_at (Heap.get?_push_of_some _ atS)⟩ fun s3 c mv hc R3 => ?_
      obtain ⟨h3, g3, d3, tk3, os3⟩ := s3
      have z1 : g3 = s.gens := mv.gens
      have z2 : d3 = s.drawn := mv.drawn
      have z3 : os3 = s.os := mv.os
      subst z1 z2 z3
      refine wpAny_pure (show wpAny _ _ (ret Value.none) _ _ _ from wpAny_pure ⟨rfl, h3, tk3, c, rfl, R3, by omega, fun b o e => ?_⟩)
      have hb := Heap.lt_size e
      refine mv.heap b o ?_ (Heap.get?_push_of_some _ (Heap.get?_push_of_some _ e))
      rw [psz]
      simp only [List.mem_cons, List.not_mem_nil, or_false, not_or]
      exact ⟨Nat.ne_of_lt hb, Nat.ne_of_lt (Nat.lt_succ_of_lt hb)⟩
    · match res2, hres2 with
      | .error e, hres2 => exact hres2
      | .ok (.ret r), hres2 =>
        obtain ⟨rfl, h2, tk, c, rfl, R2, hc, kp⟩ := hres2
        repeat (any_goals (first | assumption | wp_step))
        exact k _ _ _ R2 hc kp
end
section
variable {X : Cx} {P : Program} {w : World} {K : PySem.W.Frag} {mg : Str → Option Value} {base : Heap} {N : List Str} {nm : List (Str × NameKind)} {j : Nat} {σ σ' : L2.St} {H G : Hp} {Q : VK} {C : List (Addr × HO)}
theorem setR_keys {w : World} {h : Heap} {a : Addr} {S : Int → Bool} {n : Nat} (R : SetR w h a S n) : ∃ ks : List Int, ks.Nodup ∧ ks.length = n ∧ ∀ k, S k = true ↔ k ∈ ks := by
  obtain ⟨o, es, ep, t, _, _, _, _, nd, hS, _, _, hn, _⟩ := R
  exact ⟨_, nd, by rw [List.length_map, Array.length_toList]; exact hn, hS⟩
theorem c_setL (c : CI X P w K mg base N nm j) {p : Addr} {ns : List Int} (hp : SqL K H p (ns.map V.int)) (hl : ns.length ≤ 200) (h : ∀ q n H' (ks : List Int), ks.Nodup → ks.length = n → (∀ k, k ∈ ks ↔ k ∈ ns) → New H q (SetO w q (fun j => decide (j ∈ ns)) n) H' → Q (.ref q) H') : cS X (.type "set") [.ref p] H Q := by
  refine ⟨fun vs H Q => ∃ (p : Addr) (ns : List Int), vs = [.ref p] ∧ SqL X.K H p (ns.map V.int) ∧ ns.length ≤ 200 ∧ ∀ q n H' (ks : List Int), ks.Nodup → ks.length = n → (∀ k, k ∈ ks ↔ k ∈ ns) → New H q (SetO X.w q (fun j => decide (j ∈ ns)) n) H' → Q (.ref q) H', ?_, p, ns, rfl, by rw [c.K]; exact hp, hl, by rw [c.w]; exact h⟩
  intro pins s σ H vs us Q I r h
  obtain ⟨p, ns, rfl, hp, hl, q⟩ := h
  obtain ⟨its, rv, hl2, _⟩ := I.list hp
  rw [Vals.ref1 r]
  refine set_of_ints ns (I.ok.hd c.calm) hl2.isList (by simpa using rv.ints) (by have : (300 : Nat) < scanBound := by decide +kernel
                                                                                 omega) fun h2 tk cn R hc kp => ?_
  obtain ⟨ks, k1, k2, k3⟩ := setR_keys R
  exact ⟨.ref _, upd H s.heap.objs.size (SetO X.w s.heap.objs.size (fun j => decide (j ∈ ns)) cn), I.laid (t' := tk) kp (Nat.le_refl _) (setO_new R), rfl, q _ cn _ ks k1 k2 (fun k => by rw [← k3, decide_eq_true_eq]) ⟨I.hok.fresh (Nat.le_refl _), rfl⟩⟩
theorem c_sortedSet (c : CI X P w K mg base N nm j) {p : Addr} {S : Int → Bool} {n : Nat} (hp : H p = some (SetO w p S n)) (hl : n < 64) (h : ∀ (ns : List Int) q H', ns.Pairwise (· < ·) → (∀ k : Int, k ∈ ns ↔ S k = true) → New H q (.lst (ns.map V.int)) H' → Q (.ref q) H') : cS X (.builtin "sorted") [.ref p] H Q := by
  have ew := c.w
  subst ew
  exact ⟨_, cr_sortedSet c.calm, p, S, n, rfl, hp, hl, fun ns q h1 h2 _ hn => h ns q _ h1 h2 ⟨hn, rfl⟩⟩
theorem m_pop0 {p : Addr} {x : V} {xs : List V} (O : Own G ((p, .lst (x :: xs)) :: C) H) (h : ∀ H', Own G ((p, .lst xs) :: C) H' → Q x H') : mS X "list.pop" (.ref p) [.int 0] H Q :=
  ⟨_, mt_popAt, p, x :: xs, 0, 0, x, rfl, rfl, O.at, by decide, by decide, by unfold seqIndex?; simp <;> omega, rfl, h _ O.write⟩
theorem i_trueD {p : Prop} {d : Decidable p} {A B : Prop} (h : p) (k : A) : if decide p = true then A else B := by rw [if_pos (decide_eq_true h)]; exact k
theorem i_falseD {p : Prop} {d : Decidable p} {A B : Prop} (h : ¬ p) (k : B) : if decide p = true then A else B := by rw [if_neg (by rw [decide_eq_true_eq]; exact h)]; exact k
theorem i_decD {p : Prop} {d : Decidable p} {A B : Prop} (h1 : p → A) (h2 : ¬ p → B) : if decide p = true then A else B := by
  by_cases h : p
  · exact i_trueD h (h1 h)
  · exact i_falseD h (h2 h)
end
end Go

namespace Go
open PySem PySem.Spec PyProof.Rows L2
section
variable {X : Cx} {P : Program} {w : World} {K : PySem.W.Frag} {mg : Str → Option Value} {base : Heap} {N : List Str} {nm : List (Str × NameKind)} {j : Nat} {σ σ' : L2.St} {H G : Hp} {Q : VK} {D : Ends} {pos p tpos : Pos} {C : List (Addr × HO)} {elts : List Expr} {kk : Nat} {a : Expr} {body : List Stmt}
/-! enumerate(list) -/
theorem i_enumL (c : CI X P w K mg base N nm j) {R : It → Hp → Prop} (hg : glB nm "enumerate" = true) (hm : mg "enumerate" = none) (hs : starEach [a] X.env = [(false, eval a X.env)]) (h : eS X a σ H fun x H1 => ∃ q xs, x = .ref q ∧ SqL K H1 q xs ∧ R (Ite K q) H1) :
    iS X (.Tuple elts kk tpos) (.Call (.Name "enumerate" p) [a] [] pos) σ H R := by
  have e := c.K
  subst e
  exact ⟨_, pi_enum (c.gl hg) (by rw [c.mg]; exact hm) (pa_cons eS_is pa_nil hs) hs, eS_mono h fun _ _ ⟨q, xs, e, hq, r⟩ => ⟨q, xs, by rw [e], hq, r⟩⟩
/-- for (k, item) in enumerate(list): each turn a new pair -/
theorem on_enumL (c : CI X P w K mg base N nm j) {q : Addr} {xs : List V} (Pv : Nat → L2.St → Hp → Prop) (h0 : Pv 0 σ H) (hl : ∀ i σ H, i ≤ xs.length → Pv i σ H → SqL K H q xs)
    (hs : ∀ i x σ H T H', xs[i]? = some x → Pv i σ H → New H T (.tup [.int (i : Nat), x]) H' → gS X (.Tuple elts kk tpos) (.ref T) σ H' fun σ2 H2 => bS X body { D with nx := Pv (i + 1), ct := Pv (i + 1), bk := D.nx } σ2 H2) (hd : ∀ σ H, Pv xs.length σ H → D.nx σ H) :
    ForOn X (.Tuple elts kk tpos) body D (Ite K q) σ H := ⟨_, _, _, walk_enum (xs := xs), Pv, h0, hl, fun i x σ H H' hi p ⟨T, u, v, e1, e2, e3, hu, hv⟩ => by
      subst e1
      cases hu
      exact hs i v σ _ T H' hv p ⟨e2, e3⟩, hd⟩
/-- a comprehension over enumerate(list) -/
theorem lc_enumL {tg elt : Expr} {ifs : List Expr} {scope : Scope} {vs : List Nat} {a : Addr} {xs : List V} {Qd : Addr → Hp → Prop} (Inv : Nat → List V → Hp → List (Addr × HO) → Prop) (c : CI X P w K mg base N nm j) (hk : scope.kind = .function) (hq : SqL K G a xs) (hn : xs.length ≤ 1000000) (O : Own G C H) (h0 : Inv 0 [] G C)
    (hs : ∀ m x acc G' C' A H1 T H2, xs[m]? = some x → Inv m acc G' C' → Own G' ((A, .lst acc) :: C') H1 → New H1 T (.tup [.int (m : Nat), x]) H2 → Same G G' → ∀ X', CI X' P w K mg base N scope.names j → gS X' tg (.ref T) (wipe σ vs) H2 fun σ2 H3 => wipe σ2 vs = wipe σ vs ∧ ∀ X', CI X' P w K mg base N scope.names j → tsS X' ifs σ2 H3 fun b H4 =>
      if b = true then ∀ X', CI X' P w K mg base N scope.names j → eS X' elt σ2 H4 fun y H5 => ∃ G4 C4, Own G4 ((A, .lst acc) :: C4) H5 ∧ Same G' G4 ∧ Inv (m + 1) (acc ++ [y]) G4 C4 else ∃ G4 C4, Own G4 ((A, .lst acc) :: C4) H4 ∧ Same G' G4 ∧ Inv (m + 1) acc G4 C4)
    (hd : ∀ acc G' C' A H', acc.length ≤ xs.length → Inv xs.length acc G' C' → Own G' ((A, .lst acc) :: C') H' → Same G G' → Qd A H') : LcOn X scope tg ifs elt vs Qd (Ite K a) σ H :=
  lc_own Inv c hk (walk_enum (xs := xs)) hn O h0 (fun G' C' H' s O' => sql_up O' (s.seq hq)) (fun m x acc G' C' A H1 H2 hm iv hy O' s X' c' => by
    obtain ⟨T, u, v, rfl, f1, f2, hu, hv⟩ := hy
    cases hu
    exact hs m v acc G' C' A H1 T H2 hv iv O' ⟨f1, f2⟩ s X' c') hd
theorem s_setLc2 (c : CI X P w K mg base N nm j) {y1 y2 z : Str} {i1 i2 k : Nat} {p1 p2 p3 tp spos pos : Pos} {kk : Nat} {iter elt : Expr} {ifs : List Expr} {scope : Scope} (hz : Ix N z k) (hzl : nm.lookup z = some NameKind.local) (hline : (p3.line == pos.line) = true) (ha : (scope.names.any fun (n, k) => n == z && (k == .local || k == .cell)) = false) (h1 : Ix N y1 i1) (h2 : Ix N y2 i2) (ok : blkC N (scOf nm) scope [(y1, i1), (y2, i2)] = true) (hs : ∀ x, foldedSetIterable iter X.env x = pure x)
    (h : iS X (.Tuple [.Name y1 p1, .Name y2 p2] kk tp) iter σ H fun J H1 => LcOn X scope (.Tuple [.Name y1 p1, .Name y2 p2] kk tp) ifs elt [i1, i2] (fun q H => D.nx (σ.set k (some (.ref q))) H) J σ H1) : sS X (.Assign [.Name z p3] (.ListComp elt [⟨.Tuple [.Name y1 p1, .Name y2 p2] kk tp, iter, ifs, 0⟩] scope pos) spos) D σ H :=
  s_setLc c [(y1, i1), (y2, i2)] hz hzl (sw_true c.kind (c.lo _ hzl) hline ha) (blkOk_by ok) hs h
/-- sorted(dict) of a dict with whole numbers as keys -/
theorem c_sortedDI (c : CI X P w K mg base N nm j) {p : Addr} {kvs : List (Key × V)} {ks : List Int} (hp : H p = some (.dK kvs)) (hk : kvs.map (·.1) = ks.map Sum.inl) (hl : ks.length < 64) (h : ∀ (ys : List Int) q H', ys.Perm ks → ys.Pairwise (· ≤ ·) → New H q (.lst (ys.map V.int)) H' → Q (.ref q) H') : cS X (.builtin "sorted") [.ref p] H Q :=
  ⟨_, call_sortedDI c.calm, p, kvs, ks, rfl, .of hp, hk, hl, fun ys q h1 h2 hq => h ys q _ h1 h2 ⟨hq, rfl⟩⟩
/-! zip(list, list) -/
theorem i_zipL (c : CI X P w K mg base N nm j) {b : Expr} {R : It → Hp → Prop} (hg : glB nm "zip" = true) (hm : mg "zip" = none) (hs : starEach [a, b] X.env = (false, eval a X.env) :: starEach [b] X.env) (hpl : (backTo pos (starEach [b] X.env)).any (·.1) = false) (hs2 : starEach [b] X.env = (false, eval b X.env) :: starEach [] X.env)
    (h : eS X a σ H fun x H1 => eS X b σ H1 fun y H2 => ∃ q1 q2 xs ys, x = .ref q1 ∧ y = .ref q2 ∧ SqL K H2 q1 xs ∧ SqL K H2 q2 ys ∧ R (Itz K q1 q2) H2) :
    iS X (.Tuple elts kk tpos) (.Call (.Name "zip" p) [a, b] [] pos) σ H R := by
  have e := c.K
  subst e
  exact ⟨_, pi_zip (c.gl hg) (by rw [c.mg]; exact hm) (pa_cons eS_is (pa_cons eS_is pa_nil hs2) hs) hs hpl, eS_mono h fun _ _ h => eS_mono h fun _ _ ⟨q1, q2, xs, ys, e1, e2, h1, h2, r⟩ => ⟨q1, q2, xs, ys, by rw [e1, e2], h1, h2, r⟩⟩
theorem on_zipL (c : CI X P w K mg base N nm j) {q1 q2 : Addr} {xs ys : List V} (Pv : Nat → L2.St → Hp → Prop) (h0 : Pv 0 σ H) (hl : ∀ i σ H, i ≤ min xs.length ys.length → Pv i σ H → SqL K H q1 xs ∧ SqL K H q2 ys)
    (hs : ∀ i x y σ H T H', xs[i]? = some x → ys[i]? = some y → Pv i σ H → New H T (.tup [x, y]) H' → gS X (.Tuple elts kk tpos) (.ref T) σ H' fun σ2 H2 => bS X body { D with nx := Pv (i + 1), ct := Pv (i + 1), bk := D.nx } σ2 H2) (hd : ∀ σ H, Pv (min xs.length ys.length) σ H → D.nx σ H) :
    ForOn X (.Tuple elts kk tpos) body D (Itz K q1 q2) σ H := ⟨_, _, _, walk_zip rfl, Pv, h0, hl, fun i x σ H H' hi p ⟨T, u, v, e1, e2, e3, hu, hv⟩ => by
      subst e1
      exact hs i u v σ _ T H' hu hv p ⟨e2, e3⟩, hd⟩
/-- a comprehension of any target and tests; what is walked may be a cell, by what Inv says -/
theorem lc_cell {tg elt : Expr} {ifs : List Expr} {scope : Scope} {vs : List Nat} {n : Nat} {Gw : Hp → Prop} {Y : Nat → Hp → V → Hp → Prop} {J : It} {Qd : Addr → Hp → Prop} (Inv : Nat → List V → Hp → List (Addr × HO) → Prop) (c : CI X P w K mg base N nm j) (hk : scope.kind = .function) (W : Walk J n Gw Y) (hn : n ≤ 1000000) (O : Own G C H) (h0 : Inv 0 [] G C)
    (hG : ∀ m acc G' C' A H', Inv m acc G' C' → Own G' ((A, .lst acc) :: C') H' → Same G G' → Gw H')
    (hs : ∀ m x acc G' C' A H1 H2, m < n → Inv m acc G' C' → Y m H1 x H2 → Own G' ((A, .lst acc) :: C') H1 → Same G G' → ∀ X', CI X' P w K mg base N scope.names j → gS X' tg x (wipe σ vs) H2 fun σ2 H3 => wipe σ2 vs = wipe σ vs ∧ ∀ X', CI X' P w K mg base N scope.names j → tsS X' ifs σ2 H3 fun b H4 =>
      if b = true then ∀ X', CI X' P w K mg base N scope.names j → eS X' elt σ2 H4 fun y H5 => ∃ G4 C4, Own G4 ((A, .lst acc) :: C4) H5 ∧ Same G' G4 ∧ Inv (m + 1) (acc ++ [y]) G4 C4 else ∃ G4 C4, Own G4 ((A, .lst acc) :: C4) H4 ∧ Same G' G4 ∧ Inv (m + 1) acc G4 C4)
    (hd : ∀ acc G' C' A H', acc.length ≤ n → Inv n acc G' C' → Own G' ((A, .lst acc) :: C') H' → Same G G' → Qd A H') : LcOn X scope tg ifs elt vs Qd J σ H := by
  intro A hA
  refine ⟨n, Gw, Y, W, fun m H => ∃ acc G' C', acc.length ≤ m ∧ Inv m acc G' C' ∧ Own G' ((A, .lst acc) :: C') H ∧ Same G G', ⟨[], G, C, Nat.le_refl _, h0, O.cell hA, same_rfl⟩, ?_, ?_, ?_⟩
  · rintro m H' hm ⟨acc, G', C', _, iv, O', s⟩
    exact hG _ _ _ _ _ _ iv O' s
  · rintro m x H1 H2 hm ⟨acc, G', C', hl, iv, O', s⟩ hy X' hb
    obtain ⟨t, p, q⟩ := hs m x acc G' C' A H1 H2 hm iv hy O' s X' (c.blk hb hk)
    refine ⟨fun v σ H R => ∃ Q, t v σ H Q ∧ ∀ σ H, Q σ H → R σ H, ⟨fun pins s σ H v u R I r ⟨Q', h, m⟩ => thn (p.run pins s σ H v u Q' I r h) fun _ s' q => ?_⟩, _, q, ?_⟩
    · obtain ⟨σ', H', I', q⟩ := q
      exact ⟨σ', H', I', m σ' H' q⟩
    · rintro σ2 H3 ⟨hw, q⟩
      refine ⟨hw, fun X2 hb2 => tsS_mono (q X2 (c.blk hb2 hk)) fun b H4 q => ?_⟩
      cases b with
      | false =>
        obtain ⟨G4, C4, O4, s4, iv4⟩ := q
        exact ⟨acc, G4, C4, by omega, iv4, O4, same_tr s s4⟩
      | true =>
        intro X3 hb3
        refine eS_mono (q X3 (c.blk hb3 hk)) fun y H5 ⟨G4, C4, O4, s4, iv4⟩ => ?_
        exact ⟨acc, O4.at, sz_lt (by omega), acc ++ [y], G4, C4, by simp [hl], iv4, O4.write, same_tr s s4⟩
  · rintro H' ⟨acc, G', C', hl, iv, O', s⟩
    exact hd _ _ _ _ _ hl iv O' s
/-- a list of lists of numbers -/
structure LL (H : Hp) (p : Addr) (qs : List Addr) (ls : List (List Int)) : Prop where
  lst : H p = some (.lst (qs.map V.ref))
  len : qs.length = ls.length
  it : ∀ (i : Nat) q ns, qs[i]? = some q → ls[i]? = some ns → H q = some (.lst (ns.map V.int))
end
end Go

namespace Go
open PySem PySem.Spec PyProof.Rows L2
/-! cells brought to the front -/
section
variable {G H : Hp} {C : List (Addr × HO)} {a b d e f g x y z : Addr × HO}
theorem Own.front (A B : List (Addr × HO)) (O : Own G (A ++ (B ++ C)) H) : Own G (B ++ (A ++ C)) H := O.perm (by
  rw [← List.append_assoc, ← List.append_assoc]
  exact List.Perm.append_right C List.perm_append_comm)
theorem Own.f1 (O : Own G (a :: x :: C) H) : Own G (x :: a :: C) H := Own.front [a] [x] O
theorem Own.f2 (O : Own G (a :: b :: x :: C) H) : Own G (x :: a :: b :: C) H := Own.front [a, b] [x] O
theorem Own.f3 (O : Own G (a :: b :: d :: x :: C) H) : Own G (x :: a :: b :: d :: C) H := Own.front [a, b, d] [x] O
theorem Own.f4 (O : Own G (a :: b :: d :: e :: x :: C) H) : Own G (x :: a :: b :: d :: e :: C) H := Own.front [a, b, d, e] [x] O
theorem Own.f5 (O : Own G (a :: b :: d :: e :: f :: x :: C) H) : Own G (x :: a :: b :: d :: e :: f :: C) H := Own.front [a, b, d, e, f] [x] O
theorem Own.f6 (O : Own G (a :: b :: d :: e :: f :: g :: x :: C) H) : Own G (x :: a :: b :: d :: e :: f :: g :: C) H := Own.front [a, b, d, e, f, g] [x] O
theorem Own.t1 (O : Own G (a :: x :: y :: z :: C) H) : Own G (x :: y :: z :: a :: C) H := Own.front [a] [x, y, z] O
theorem Own.t2 (O : Own G (a :: b :: x :: y :: z :: C) H) : Own G (x :: y :: z :: a :: b :: C) H := Own.front [a, b] [x, y, z] O
theorem Own.t3 (O : Own G (a :: b :: d :: x :: y :: z :: C) H) : Own G (x :: y :: z :: a :: b :: d :: C) H := Own.front [a, b, d] [x, y, z] O
theorem Own.t4 (O : Own G (a :: b :: d :: e :: x :: y :: z :: C) H) : Own G (x :: y :: z :: a :: b :: d :: e :: C) H := Own.front [a, b, d, e] [x, y, z] O
theorem Own.t5 (O : Own G (a :: b :: d :: e :: f :: x :: y :: z :: C) H) : Own G (x :: y :: z :: a :: b :: d :: e :: f :: C) H := Own.front [a, b, d, e, f] [x, y, z] O
theorem Own.t6 (O : Own G (a :: b :: d :: e :: f :: g :: x :: y :: z :: C) H) : Own G (x :: y :: z :: a :: b :: d :: e :: f :: g :: C) H := Own.front [a, b, d, e, f, g] [x, y, z] O
theorem Own.r3 (O : Own G (a :: b :: d :: C) H) : Own G (b :: d :: a :: C) H := Own.front [a] [b, d] O
theorem Own.v3 (O : Own G (a :: b :: d :: C) H) : Own G (d :: b :: a :: C) H := O.swap.f2
theorem Own.at4 {p : Addr} {o : HO} (O : Own G (a :: b :: d :: (p, o) :: C) H) : H p = some o := (O.own (p, o) (by simp)).1
theorem Own.at5 {p : Addr} {o : HO} (O : Own G (a :: b :: d :: e :: (p, o) :: C) H) : H p = some o := (O.own (p, o) (by simp)).1
theorem Own.at6 {p : Addr} {o : HO} (O : Own G (a :: b :: d :: e :: f :: (p, o) :: C) H) : H p = some o := (O.own (p, o) (by simp)).1
theorem Own.at7 {p : Addr} {o : HO} (O : Own G (a :: b :: d :: e :: f :: g :: (p, o) :: C) H) : H p = some o := (O.own (p, o) (by simp)).1
end
/-! the attributes of an instance -/
inductive Fld : List (Str × V) → Str → V → Prop
  | here {f : Str} {v : V} {r : List (Str × V)} : Fld ((f, v) :: r) f v
  | there {f g : Str} {v u : V} {r : List (Str × V)} (h : Fld r f v) (n : (f == g) = false) : Fld ((g, u) :: r) f v
theorem Fld.look : ∀ {fs : List (Str × V)} {f : Str} {v : V}, Fld fs f v → fs.lookup f = some v
  | _, f, _, .here => by simp [List.lookup]
  | _, _, _, .there h n => by rw [List.lookup, n]; exact h.look
inductive NoFld : List (Str × V) → Str → Prop
  | nil {f : Str} : NoFld [] f
  | cons {f g : Str} {u : V} {r : List (Str × V)} (n : (f == g) = false) (h : NoFld r f) : NoFld ((g, u) :: r) f
theorem NoFld.look : ∀ {fs : List (Str × V)} {f : Str}, NoFld fs f → fs.lookup f = none
  | _, _, .nil => rfl
  | _, _, .cons n h => by rw [List.lookup, n]; exact h.look
inductive FPut : List (Str × V) → Str → V → List (Str × V) → Prop
  | new {f : Str} {v : V} : FPut [] f v [(f, v)]
  | here {f : Str} {v u : V} {r : List (Str × V)} : FPut ((f, u) :: r) f v ((f, v) :: r)
  | there {f g : Str} {v u : V} {r r' : List (Str × V)} (h : FPut r f v r') (n : (g == f) = false) : FPut ((g, u) :: r) f v ((g, u) :: r')
theorem FPut.eq : ∀ {fs : List (Str × V)} {f : Str} {v : V} {fs' : List (Str × V)}, FPut fs f v fs' → putF f v fs = fs'
  | _, _, _, _, .new => rfl
  | _, _, _, _, .here => by unfold putF; rw [if_pos rfl]
  | _, _, _, _, .there h n => by
    unfold putF
    rw [if_neg (fun e => by rw [e] at n; simp at n), h.eq]
/-- a class of the module, by its name -/
def clsK (K : PySem.W.Frag) (x : Str) : Addr := match PySem.W.nsIn K mainGlobals x with | some (some (.ref C)) => C | _ => 0
theorem clsK_of {K : PySem.W.Frag} {x : Str} {C : Addr} (h : PySem.W.nsIn K mainGlobals x = some (some (.ref C))) : clsK K x = C := by unfold clsK; rw [h]
/-- a method that may be called -/
structure MCal (P : Program) (w : World) (K : PySem.W.Frag) (mg : Str → Option Value) (base : Heap) (k : Nat) (x m : Str) (sp : Sp) : Prop where
  ex : ∃ (f : Addr) (fd : FuncData) (ps : List Str), FnOk P w K mg base CX0 k f fd ps sp ∧ Meth K (clsK K x) m f ∧ Binds K fd ps []
/-- a class that may be called -/
structure MkCal (P : Program) (w : World) (K : PySem.W.Frag) (mg : Str → Option Value) (base : Heap) (k : Nat) (x : Str) (sp : Sp) : Prop where
  ex : ∃ (f : Addr) (fd : FuncData) (ps : List Str), FnOk P w K mg base CX0 k f fd ps sp ∧ Mk K (clsK K x) f ∧ mg x = some (.ref (clsK K x)) ∧ Binds K fd ps []
/-- a method of a class of the module -/
structure Mf (K : PySem.W.Frag) (cl m qual : Str) (st : Stmt) (ps : List Str) : Prop where
  ex : ∃ (f : Addr) (fd : FuncData), Fun K m qual st f fd ∧ Meth K (clsK K cl) m f ∧ Binds K fd ps []
theorem mcal_of {P : Program} {w : World} {K : PySem.W.Frag} {mg : Str → Option Value} {base : Heap} {cl m qual : Str} {st : Stmt} {ps : List Str} {sp : Sp} {k : Nat} (D : Mf K cl m qual st ps) (h : ∀ {f : Addr} {fd : FuncData}, Fun K m qual st f fd → FnOk P w K mg base CX0 k f fd ps sp) : MCal P w K mg base k cl m sp := by
  obtain ⟨f, fd, F, M, b⟩ := D.ex
  exact ⟨f, fd, ps, h F, M, b⟩
theorem mkcal_of {P : Program} {w : World} {K : PySem.W.Frag} {mg : Str → Option Value} {base : Heap} {cl qual : Str} {st : Stmt} {ps : List Str} {sp : Sp} {k : Nat} (D : Mf K cl "__init__" qual st ps) (h : ∀ {f : Addr} {fd : FuncData}, Fun K "__init__" qual st f fd → FnOk P w K mg base CX0 k f fd ps sp)
    (hm : PySem.W.makesIn K (clsK K cl) = true) (hk : PySem.W.keepIn K (.ref (clsK K cl)) = true) (hg : mg cl = some (.ref (clsK K cl))) : MkCal P w K mg base k cl sp := by
  obtain ⟨f, fd, F, M, b⟩ := D.ex
  exact ⟨f, fd, ps, h F, ⟨hm, M.at_, M.fn, hk⟩, hg, b⟩
theorem mf_mk {K : PySem.W.Frag} {cl m qual : Str} {C f : Addr} {st : Stmt} {ps : List Str} {od an : Option Addr} {sl : Array (Option Value)} {oc kV dc pm cd ct : Value} (aC : PySem.W.nsIn K mainGlobals cl = some (some (.ref C)))
    (a : PySem.W.findIn K (.ref C) m = some (some (.ref f))) (i : PySem.W.isFn K (.ref f) = true) (l : K.lookup f = some ⟨oc, od, .func (PySem.W.fnOf m qual (defArgs st) (defBody st) (defScope st) .none kV dc pm an cd ct), sl⟩) (c : PySem.W.codeIn K cd qual = true) (k : PySem.W.keepIn K (.ref f) = true)
    (hb : ∀ (us : List Value), us.length = ps.length → bindArgs (PySem.W.fnOf m qual (defArgs st) (defBody st) (defScope st) .none kV dc pm an cd ct) ⟨us, []⟩ = pure (ps.zip us)) : Mf K cl m qual st ps := by
  refine ⟨f, _, fun_mk (st := st) l c k, ⟨by rw [clsK_of aC]; exact a, i, k⟩, Binds.all hb⟩
section
variable {X : Cx} {P : Program} {w : World} {K : PySem.W.Frag} {mg : Str → Option Value} {base : Heap} {N : List Str} {nm : List (Str × NameKind)} {j : Nat} {σ σ' : L2.St} {H G : Hp} {Q : VK} {D : Ends} {pos pos' p tpos apos : Pos} {C : List (Addr × HO)} {e o i value : Expr} {es : List Expr}
/-- o.f -/
theorem e_fld (c : CI X P w K mg base N nm j) {f : Str} (hb : attributeBase e f X.env (eval e X.env) = eval e X.env) (h : eS X e σ H fun x H1 => ∃ a C dx fs v, x = .ref a ∧ H1 a = some (.ins C dx fs) ∧ Cls K C ∧ NoAttr K C f ∧ Fld fs f v ∧ Q v H1) : eS X (.Attribute e f pos) σ H Q := by
  have eK := c.K
  subst eK
  exact ⟨_, pe_fld eS_is hb, eS_mono h fun x H1 ⟨a, C, dx, fs, v, h1, h2, h3, h4, h5, q⟩ => ⟨a, C, dx, fs, v, h1, h2, h3, h4, h5.look, q⟩⟩
theorem k_fld {a C0 dx : Addr} {fs : List (Str × V)} {v : V} {f : Str} {R : V → Prop} (h1 : H a = some (.ins C0 dx fs)) (h2 : Cls K C0) (h3 : NoAttr K C0 f) (h4 : Fld fs f v) (h : R v) : ∃ a' C dx fs v, V.ref a = .ref a' ∧ H a' = some (.ins C dx fs) ∧ Cls K C ∧ NoAttr K C f ∧ Fld fs f v ∧ R v :=
  ⟨a, C0, dx, fs, v, rfl, h1, h2, h3, h4, h⟩
/-- o.f = value -/
theorem s_fld (c : CI X P w K mg base N nm j) {f : Str} (hs : swapsWith value (some (.Attribute o f pos')) pos.line X.env = pure false)
    (h : eS X value σ H fun y H1 => eS X o σ H1 fun x H2 => ∃ a C dx fs fs', x = .ref a ∧ H2 a = some (.ins C dx fs) ∧ Cls K C ∧ NoAttr K C f ∧ fs.length < 1000 ∧ FPut fs f y fs' ∧ D.nx σ (upd H2 a (.ins C dx fs'))) : sS X (.Assign [.Attribute o f pos'] value pos) D σ H := by
  have eK := c.K
  subst eK
  exact ⟨_, ps_fld eS_is eS_is hs, eS_mono h fun y H1 h => eS_mono h fun x H2 ⟨a, C, dx, fs, fs', h1, h2, h3, h4, h5, h6, q⟩ => ⟨a, C, dx, fs, h1, h2, h3, h4, h5, by rw [h6.eq]; exact q⟩⟩
theorem k_fput {a C0 dx : Addr} {fs fs' : List (Str × V)} {y : V} {f : Str} {R : Hp → Prop} (O : Own G ((a, .ins C0 dx fs) :: C) H) (h2 : Cls K C0) (h3 : NoAttr K C0 f) (h5 : fs.length < 1000) (h4 : FPut fs f y fs') (h : ∀ H', Own G ((a, .ins C0 dx fs') :: C) H' → R H') : ∃ a' C dx fs fs', V.ref a = .ref a' ∧ H a' = some (.ins C dx fs) ∧ Cls K C ∧ NoAttr K C f ∧ fs.length < 1000 ∧ FPut fs f y fs' ∧ R (upd H a' (.ins C dx fs')) :=
  ⟨a, C0, dx, fs, fs', rfl, O.at, h2, h3, h5, h4, h _ O.write⟩
/-- o.m(e, ..), o an instance of a class of the module -/
theorem e_mth (c : CI X P w K mg base N nm j) {k : Nat} {cl m : Str} {sp : Sp} {pl : Sem Bool} (M : MCal P w K mg base k cl m sp) (T : Cls K (clsK K cl)) (hk : k ≤ j) (hst : starEach (e :: es) X.env = (false, eval e X.env) :: starEach es X.env) (hpl : (backTo pos (starEach es X.env)).any (·.1) = false)
    (ht : eval (.Call (.Attribute o m apos) (e :: es) [] pos) X.env = (do
      let ov ← eval o X.env
      standAt apos.atName
      let (f, first) ← holding [ov] (getMethod ov m pl)
      callWith pos f first (backTo pos (starEach (e :: es) X.env)) (backToKw pos (keywordEach [] X.env))))
    (h : eS X o σ H fun x H1 => ∃ a dx fs, x = .ref a ∧ H1 a = some (.ins (clsK K cl) dx fs) ∧ NoFld fs m ∧ aS X (e :: es) σ H1 fun vs H2 => sp (x :: vs) H2 Q E0) : eS X (.Call (.Attribute o m apos) (e :: es) [] pos) σ H Q := by
  have h1 := c.prog; have h2 := c.w; have h3 := c.K; have h4 := c.mg; have h5 := c.base
  subst h1 h2 h3 h4 h5
  obtain ⟨f, fd, ps, F, M, b⟩ := M.ex
  exact ⟨_, pe_meth eS_is T M F (c.room.mono hk) b .nil pass0 aS_is hst hpl ht, eS_mono h fun x H1 ⟨a, dx, fs, g1, g2, g3, q⟩ => ⟨a, dx, fs, g1, g2, g3.look, aS_mono q fun vs H2 q => by rw [List.append_nil]; exact q⟩⟩
theorem e_mth0 (c : CI X P w K mg base N nm j) {k : Nat} {cl m : Str} {sp : Sp} {pl : Sem Bool} (M : MCal P w K mg base k cl m sp) (T : Cls K (clsK K cl)) (hk : k ≤ j)
    (ht : eval (.Call (.Attribute o m apos) [] [] pos) X.env = (do
      let ov ← eval o X.env
      standAt apos.atName
      let (f, first) ← holding [ov] (getMethod ov m pl)
      callWith pos f first (backTo pos (starEach [] X.env)) (backToKw pos (keywordEach [] X.env))))
    (h : eS X o σ H fun x H1 => ∃ a dx fs, x = .ref a ∧ H1 a = some (.ins (clsK K cl) dx fs) ∧ NoFld fs m ∧ sp [x] H1 Q E0) : eS X (.Call (.Attribute o m apos) [] [] pos) σ H Q := by
  have h1 := c.prog; have h2 := c.w; have h3 := c.K; have h4 := c.mg; have h5 := c.base
  subst h1 h2 h3 h4 h5
  obtain ⟨f, fd, ps, F, M, b⟩ := M.ex
  exact ⟨_, pe_meth0 eS_is T M F (c.room.mono hk) b .nil pass0 ht, eS_mono h fun x H1 ⟨a, dx, fs, g1, g2, g3, q⟩ => ⟨a, dx, fs, g1, g2, g3.look, q⟩⟩
theorem k_mth {a dx : Addr} {C0 : Addr} {fs : List (Str × V)} {m : Str} {R : Prop} (h1 : H a = some (.ins C0 dx fs)) (h4 : NoFld fs m) (h : R) : ∃ a' dx fs, V.ref a = .ref a' ∧ H a' = some (.ins C0 dx fs) ∧ NoFld fs m ∧ R := ⟨a, dx, fs, rfl, h1, h4, h⟩
/-- x(), x a class of the module -/
theorem e_make0 (c : CI X P w K mg base N nm j) {k : Nat} {x : Str} {sp : Sp} (M : MkCal P w K mg base k x sp) (hk : k + 1 ≤ j) (hg : glB nm x = true)
    (O : Own G C H) (h : ∀ q dx G' H', Same G G' → G' dx = some (.own q) → Own G' ((q, .ins (clsK K x) dx []) :: C) H' → sp [.ref q] H' (fun v H2 => v = .non ∧ Q (.ref q) H2) E0) : eS X (.Call (.Name x p) [] [] pos) σ H Q := by
  have h1 := c.prog; have h2 := c.w; have h3 := c.K; have h4 := c.mg; have h5 := c.base
  subst h1 h2 h3 h4 h5
  obtain ⟨f, fd, ps, F, M, hm, b⟩ := M.ex
  refine ⟨_, pe_make0 M F (c.room.mono hk) (c.gl hg) hm b .nil pass0 (glB_d hg), fun q dx n1 n2 ne => ?_⟩
  have O1 := O.fz (o := .own q) n2
  have O2 := O1.cell (o := .ins (clsK X.K x) dx []) (by rw [upd_ne ne.symm]; exact n1)
  exact h q dx _ _ (same_new (O.frees n2).1) upd_same O2
/-- a list's item, as a value -/
theorem get_list : PGet X (rIxL X.K) := by
  intro pins s σ H x y v u Q I rx ry h
  obtain ⟨p, xs, i, z, rfl, rfl, hq, he, q⟩ := h
  cases rx
  obtain ⟨t, rfl⟩ := ry
  obtain ⟨its, r, pl, hz⟩ := I.list hq
  obtain ⟨j, h1, h2, h3, h4, h5⟩ := L2.atI_get he
  obtain ⟨w, ew, rw'⟩ := r.get h2
  have hl := r.length
  have hn := line63
  have fin : EP X pins σ Q w s := ⟨z, H, I, rw', q⟩
  by_cases h0 : 0 ≤ i
  · have hj : i.toNat = j := by
      rw [seqIndex_of h0 h5] at h1
      exact Option.some.inj h1
    exact wpAny_getItem_list pl.isList h0 (by omega) (by rw [hj]; simpa using ew) fin
  · have hj : (i + (its.toArray.size : Int)).toNat = j := by
      rw [seqIndex_neg (by omega) h4] at h1
      rw [List.size_toArray, ← hl]
      exact Option.some.inj h1
    exact wpAny_getItem_list_neg pl.isList (by omega) (by rw [List.size_toArray] <;> omega) (by omega) (by rw [hj]; simpa using ew) fin
/-- xs[i] op= e -/
theorem s_augL (c : CI X P w K mg base N nm j) {op : Operator} (ha : ∀ ov iv new, augStore i ov iv new = (do holding [new, ov, iv] (setItem ov iv new); release [new, ov, iv] []; pure .next))
    (h : eS X o σ H fun x H1 => eS X i σ H1 fun y H2 => ∃ p xs k v, x = .ref p ∧ y = .int k ∧ SqL K H2 p xs ∧ atI xs k = some v ∧ eS X e σ H2 fun z H3 => oS X (inplaceOp op) v z H3 fun r H4 => pS X x y r H4 fun H5 => D.nx σ H5) : sS X (.AugAssign (.Subscript o i tpos) op e pos) D σ H := by
  have eK := c.K
  subst eK
  exact ⟨_, ps_augS eS_is eS_is get_list eS_is (fun pins s σ H x y v u Q => oS_is pins s σ H x y v u Q) pS_is ha, h⟩
/-- a cell that is a list, written at a place -/
theorem e_gref {x : Str} {q : Addr} (c : CI X P w K mg base N nm j) (hm : mg x = some (.ref q)) (hg : glB nm x = true) (h : Q (.ref q) H) : eS X (.Name x pos) σ H Q := e_glob c hg hm (show L2.RelV (.ref q) (.ref q) from rfl) h
theorem i_falseB {b : Bool} {A B : Prop} (h : b = false) (k : B) : if b = true then A else B := by rw [h]; exact k
theorem i_trueB {b : Bool} {A B : Prop} (h : b = true) (k : A) : if b = true then A else B := by rw [h]; exact k
/-- xs.pop() of a cell that is a mapped list -/
theorem m_popC {α : Type} {f : α → V} {a : α} {l : List α} {q : Addr} (O : Own G ((q, .lst ((l ++ [a]).map f)) :: C) H) (h : ∀ H', Own G ((q, .lst (l.map f)) :: C) H' → Q (f a) H') : mS X "list.pop" (.ref q) [] H Q :=
  m_pop (y := f a) O.at (by simp) (by
    have e : ((l ++ [a]).map f).dropLast = l.map f := by rw [List.map_append]; simp
    rw [e]
    exact h _ O.write)
theorem p_cellN {xs : List V} {k : Int} {n : Nat} {q : Addr} {v : V} {R : Hp → Prop} (O : Own G ((q, .lst xs) :: C) H) (hk : k = n) (hn : n < xs.length) (h : ∀ H', Own G ((q, .lst (xs.set n v)) :: C) H' → R H') : pS X (.ref q) (.int k) v H R := by
  subst hk
  refine p_lst O.at ?_ (h _ O.write)
  unfold ixN
  rw [if_pos (Int.natCast_nonneg _), if_pos (by omega)]
  simp
theorem atI_nat' {α : Type} {z : List α} {k : Int} {n : Nat} {v : α} (hk : k = n) (e : z[n]? = some v) : atI z k = some v := by
  subst hk; exact Go.atI_get e
end
section
variable {P : Program} {w : World} {K : PySem.W.Frag} {mg : Str → Option Value} {base : Heap} {N : List Str}
theorem intoQ {x qual : Str} {st : Stmt} {f : Addr} {fd : FuncData} {ps : List Str} {sp : Sp} {k : Nat} (F : Fun K x qual st f fd) {nm : List (Str × NameKind)} (S : FnScope N ps (defScope st)) (hnm : (defScope st).names = nm) (len : ∀ vs H Q E, sp vs H Q E → vs.length = ps.length) (hl : ps.length ≤ N.length)
    (body : ∀ (X : Cx) (H : Hp) (vs : List V) (Q : VK) (E : XK), CI X P w K mg base N nm k → sp vs H Q E → bS X (defBody st) { nx := fun _ H' => Q .non H', rt := Q } (startL N vs) H) : FnOk P w K mg base CX0 (k + 1) f fd ps sp :=
  enter F S hnm len fun X H vs Q E c h => by
    rw [startL_eq N vs (by rw [len vs H Q E h]; exact hl)]
    exact body X H vs Q E c h
end
end Go

namespace Go
open PySem PySem.Spec PyProof.Rows L2
/-! cells in another order -/
inductive Pull {α : Type} (x : α) : List α → List α → Prop
  | here {L : List α} : Pull x (x :: L) L
  | there {y : α} {L L' : List α} (h : Pull x L L') : Pull x (y :: L) (y :: L')
inductive Pl {α : Type} : List α → List α → Prop
  | refl {L : List α} : Pl L L
  | cons {x : α} {L L' A : List α} (h : Pull x L L') (k : Pl L' A) : Pl L (x :: A)
theorem Pull.perm {α : Type} {x : α} : ∀ {L L' : List α}, Pull x L L' → L.Perm (x :: L')
  | _, _, .here => List.Perm.refl _
  | _, _, .there h => (List.Perm.cons _ h.perm).trans (List.Perm.swap _ _ _)
theorem Pl.perm {α : Type} : ∀ {L A : List α}, Pl L A → L.Perm A
  | _, _, .refl => List.Perm.refl _
  | _, _, .cons h k => h.perm.trans (List.Perm.cons _ k.perm)
theorem Own.pl {G H : Hp} {C D : List (Addr × HO)} (O : Own G C H) (h : Pl C D) : Own G D H := O.perm h.perm.symm
/-- what is frozen, or one of the cells -/
theorem sq_or {K : PySem.W.Frag} {G G' H' : Hp} {C0 C : List (Addr × HO)} {p : Addr} {xs : List V} (h : G p = some (.lst xs) ∨ (p, HO.lst xs) ∈ C) (O : Own G' C0 H') (hs : ∀ z ∈ C, z ∈ C0) (s : Same G G') : SqL K H' p xs :=
  h.elim (fun h => .of (hp_up O (s _ _ h))) (fun h => .of (O.own _ (hs _ h)).1)
section
variable {X : Cx} {G H : Hp} {C : List (Addr × HO)} {Q : VK}
/-- xs.pop(k) of a cell -/
theorem m_popI {p : Addr} {xs : List V} {k : Int} {n : Nat} (O : Own G ((p, .lst xs) :: C) H) (hk : k = (n : Nat)) (hn : n < xs.length) (hm : xs.length ≤ 1000000) (h : ∀ x H', xs[n]? = some x → Own G ((p, .lst (xs.eraseIdx n)) :: C) H' → Q x H') : mS X "list.pop" (.ref p) [.int k] H Q := by
  subst hk
  exact ⟨_, mt_popAt, p, xs, (n : Int), n, xs[n], rfl, rfl, O.at, by omega, by omega, by
    unfold seqIndex?
    show (if (decide (0 ≤ (if (n : Int) < 0 then (n : Int) + (xs.length : Int) else (n : Int))) && decide ((if (n : Int) < 0 then (n : Int) + (xs.length : Int) else (n : Int)) < (xs.length : Int))) = true then some (if (n : Int) < 0 then (n : Int) + (xs.length : Int) else (n : Int)).toNat else none) = some n
    rw [if_neg (show ¬ (n : Int) < 0 by omega), decide_eq_true (show (0 : Int) ≤ (n : Int) by omega), decide_eq_true (show (n : Int) < (xs.length : Int) by omega)]
    rfl, List.getElem?_eq_getElem hn, h _ _ (List.getElem?_eq_getElem hn) O.write⟩
end
end Go

namespace Go
open PySem PySem.Spec PyProof.Rows L2

/-! exceptions of the module's own classes, over ValueError -/
/-- one that was caught and is kept -/
def ExcO (cls : Value) (a : Addr) : HO := .ext fun h => ∃ (oe : Obj) (vs : Array Value), h.get? a = some oe ∧ Zc cls none oe ∧ oe.data = .fields vs
theorem excO_ok {P : Program} {w : World} {H : Hp} {h : Heap} {a : Addr} {cls : Value} {oe : Obj} {vs : Array Value} (e : h.get? a = some oe) (z : Zc cls none oe) (d : oe.data = .fields vs) : ObjOk P w H h a (ExcO cls a) :=
  ⟨⟨oe, vs, e, z, d⟩, ⟨oe, e⟩, fun _ _ ⟨o, v, q, r⟩ k => ⟨o, v, k o q, r⟩⟩
/-- what was pinned in a suite is tracked from now on -/
theorem adopt {X : Cx} {pins : List (Addr × Obj)} {σ : L2.St} {H : Hp} {s : Shared} {a : Addr} {oe : Obj} {o : HO} (I : Inv X ((a, oe) :: pins) σ H s) (n0 : X.s_0.heap.get? a = none) (hp : ∀ p ∈ X.pn ++ pins, p.1 ≠ a) (new : ObjOk X.prog X.w (upd H a o) s.heap a o) : Inv X pins σ (upd H a o) s := by
  obtain ⟨ha, na, nL, nF, nc⟩ := I.pin (a, oe) (List.mem_append_right _ List.mem_cons_self)
  have off : ∀ {b : Addr}, b ≠ a → upd H a o b = H b := fun h => upd_ne h
  refine ⟨I.ok, I.os, I.bare, ⟨I.base.keep, I.base.slot, fun b u e n hx => ?_, I.base.there, fun b xs e => ?_, fun b u xs e => ?_, fun b ps e => ?_⟩, I.loc, I.cell, (off (Ne.symm nL)).trans I.free, fun x c e => ?_, fun p hm => ?_, I.hok.laidN (fun _ _ q => q) na new, I.len⟩
  · exact (off (fun z => by rw [z, n0] at e; cases e)).trans (I.base.free b u e n hx)
  · have q := I.base.tups b xs e
    exact (off (ne_of_none q na)).trans q
  · have q := I.base.frzs b u xs e
    exact (off (ne_of_none q na)).trans q
  · obtain ⟨more, q⟩ := I.base.tbls b ps e
    exact ⟨more, (off (ne_of_none q na)).trans q⟩
  · refine (off (fun z => ?_)).trans (I.freeC x c e)
    obtain ⟨v, ob, h1, h2⟩ := I.cell x c e
    rw [z] at h1
    have h3 : s.heap.get? a = some oe := ha
    rw [h3] at h1
    cases h1
    exact nc _ h2
  · have hm' : p ∈ X.pn ++ (a, oe) :: pins := by
      rcases List.mem_append.mp hm with h | h
      · exact List.mem_append_left _ h
      · exact List.mem_append_right _ (List.mem_cons_of_mem _ h)
    obtain ⟨h1, h2, h3⟩ := I.pin p hm'
    exact ⟨h1, (off (hp p hm)).trans h2, h3⟩
/-- what a try wishes whose one clause is 'except W as n: y = n', the slots i of n, k of y -/
abbrev wKept (K : PySem.W.Frag) (c : Value) (i k : Nat) (D : Ends) : WX := fun cls d σ H => d = none ∧ PySem.W.exmOne K cls c = some true ∧ ∀ a, H a = none → D.nx (((σ.set i (some (.ref a))).set k (some (.ref a))).set i none) (upd H a (ExcO cls a))
section
variable {X : Cx} {x n y : Str} {c : Value} {i k : Nat} {body : List Stmt} {np np2 yp ap hp pos : Pos} {tb : WX → TS}
/-- the clause at work -/
theorem kept_catch {pins : List (Addr × Obj)} {D : Ends} {xe : Value → Shared → Prop} {u : Value} {s' : Shared} (ok : X.Ok) (hs : X.stack = X.env :: X.outer) (hf : X.env.frame = some X.env.locals) (hx : X.ex = []) (hN : X.N.Nodup) (hi : X.N[i]? = some n) (hln : X.env.kindOf n = some .local) (hk : X.N[k]? = some y) (hlk : X.env.kindOf y = some .local)
    (hd : (n == ("__debug__" : Str)) = false) (hcd : (n == ("__classdict__" : Str)) = false) (hc : Names X x c) (hsw : swapsWith (.Name n np2) (some (.Name y yp)) ap.line X.env = pure false) (xx : XE (X.tr (X.pn ++ pins) xe) (wKept X.K c i k D) u s') :
    wpAny (model X.prog X.w) X.A (noteFrame u X.env) (fun _ s₂ => wpAny (model X.prog X.w) X.A (setFlight u none) (fun _ s₃ => wpAny (model X.prog X.w) X.A (handleBy u X.env [.ExceptHandler (some (.Name x np)) (some n) [.Assign [.Name y yp] (.Name n np2) ap] hp]) (SP X pins D) X.xe s₃) X.xe s₂) X.xe s' := by
  obtain ⟨a, B, sI, pins', σ', H', cls, d, rfl, J', nb, up, sky, na, os, ag, rfl, hm, hq⟩ := xx
  have J : Inv X pins σ' H' sI := J'.ofTry ok
  have fr : X.A.frames = some (X.env :: X.outer) := ok.frames.trans (by rw [hs])
  have sky' : Sky B (X.env :: X.outer) a (Zc cls none) X.env.locals s'.heap := hs ▸ sky
  refine Sky.land Zc.steady fr hf sky' fun g fl upg => ?_
  have J3 : Inv X pins σ' H' { s' with heap := g } := J.landed nb fl.1 (up.trans upg) os ag
  obtain ⟨oe, vs, he, hz, hv⟩ := fl.there
  have nB : B.get? a = none := fl.2.1
  have nS : a ∉ frs (X.env :: X.outer) := fun hm => by
    obtain ⟨_, o', e', hnf⟩ := fl.2.2.1.mem hm
    have he' := he
    rw [e'] at he'
    cases he'
    exact hnf _ hv
  have nL : a ≠ X.env.locals := fun z => nS (List.mem_filterMap.mpr ⟨X.env, List.mem_cons_self, by rw [hf, z]⟩)
  have nF : a ∉ X.fs := fun hm => by
    obtain ⟨e, h1, h2⟩ := List.mem_filterMap.mp hm
    exact nS (List.mem_filterMap.mpr ⟨e, List.mem_cons_of_mem _ h1, h2⟩)
  have sub : ∀ {b : Addr} {o : Obj}, sI.heap.get? b = some o → b ∉ frs (X.env :: X.outer) → b ≠ a := fun {b o} e hb z => by
    have := nb b o e (by rw [show (X.tr (X.pn ++ pins) xe).stack = X.stack from rfl, hs]; exact hb)
    rw [z, nB] at this
    cases this
  have n0 : X.s_0.heap.get? a = none := by
    cases e : X.s_0.heap.get? a with
    | none => rfl
    | some o =>
      obtain ⟨o', e'⟩ := J.base.there a o e (by rw [hx]; exact List.not_mem_nil)
      exact absurd rfl (sub e' nS)
  have hpn : ∀ p ∈ X.pn ++ pins, p.1 ≠ a := fun p hp => by
    obtain ⟨h1, _, h3, h4, _⟩ := J.pin p hp
    refine sub h1 fun hm => ?_
    obtain ⟨e, h5, h6⟩ := List.mem_filterMap.mp hm
    rcases List.mem_cons.mp h5 with rfl | h5
    · rw [hf] at h6
      exact h3 (Option.some.inj h6).symm
    · exact h4 (List.mem_filterMap.mpr ⟨e, h5, h6⟩)
  have S3 := J3.suite he hv na nL nF
  refine wpAny_handleBy_cons (codeAny_handlers_test ?_) (fun q => nomatch q)
  have LT : PySem.W.Looks (model X.prog X.w) g (typeOf (.ref a)) cls := fun _ _ _ _ st q => wpAny_typeOf_ref (st _ _ he) (by rw [hz.1]; exact q)
  have LM := PySem.W.exm_one (M := model X.prog X.w) J3.kIn LT hm
  have named : ∀ {Q E : Value → Shared → Prop}, Q c { s' with heap := g } → wpAny (model X.prog X.w) (X.A.mark (some (.ref a))) (eval (.Name x np) X.env) Q E { s' with heap := g } := fun {Q E} q => by
    obtain ⟨hg, hdb, hm | ⟨hm, hv, hnn⟩⟩ := hc
    · exact ld_glob S3 hg hm q hdb
    · exact ld_blt S3 hg hm hv q hnn hdb
  refine named (LM.here (codeAny_handlers_suite_as (HandSPX.lands_againZ fl fun g4 fl4 up4 => ?_)))
  have J4 : Inv X pins σ' H' { s' with heap := g4 } := J.landed nb fl4.1 ((up.trans upg).trans up4) os ag
  obtain ⟨oe4, vs4, he4, hz4, hv4⟩ := fl4.there
  have S4 := J4.suite he4 hv4 na nL nF
  have one : PSs (X.suite a ((a, oe4) :: (X.pn ++ pins))) [.Assign [.Name y yp] (.Name n np2) ap] _ := pss_one (ps_set (i := k) hN hk (.inl hlk) (pe_var (i := i) hi (.inl hln) hd hcd) hsw (.inr hlk))
  refine store_ok (X := X.suite a ((a, oe4) :: (X.pn ++ pins))) (v := .ref a) S4 hN hi (.inl hln) rfl (fun s5 S5 => ?_) (.inr hln)
  have hlt : i < σ'.length := by
    have h1 : σ'.length = X.N.length := S4.len
    rw [h1]
    exact (List.getElem?_eq_some_iff.mp hi).1
  refine wpAny_mono (one.run [] s5 _ H' ⟨fun σ6 H6 => σ6 = (σ'.set i (some (.ref a))).set k (some (.ref a)) ∧ H6 = H', fun _ _ => False, fun _ _ => False, fun _ _ => False⟩ S5 ⟨.ref a, by rw [List.getElem?_set_self hlt], rfl, rfl⟩) (fun f s6 hsp => ?_) fun _ _ z => False.elim z
  cases f with
  | next =>
    obtain ⟨σ6, H6, S6, rfl, rfl⟩ := hsp
    have J6 : Inv X ((a, oe4) :: pins) ((σ'.set i (some (.ref a))).set k (some (.ref a))) H6 s6 := ⟨ok, S6.os, S6.bare, S6.base, S6.loc, S6.cell, S6.free, S6.freeC, fun p hp => S6.pin p (List.mem_append_left _ (by
      rcases List.mem_append.mp hp with h | h
      · exact List.mem_cons_of_mem _ (List.mem_append_left _ h)
      · rcases List.mem_cons.mp h with h | h
        · rw [h]; exact List.mem_cons_self
        · exact List.mem_cons_of_mem _ (List.mem_append_right _ h))), S6.hok, S6.len⟩
    exact gone_ok J6 hN hi hln fun s7 J7 => ⟨_, _, adopt J7 n0 hpn (excO_ok (J7.pin (a, oe4) (List.mem_append_right _ List.mem_cons_self)).1 hz4 hv4), hq a na⟩
  | ret v => obtain ⟨_, _, _, _, _, z⟩ := hsp; exact z.elim
  | brk => obtain ⟨_, _, _, z⟩ := hsp; exact z.elim
  | cont => obtain ⟨_, _, _, z⟩ := hsp; exact z.elim
theorem ps_kept (hs : X.stack = X.env :: X.outer) (hf : X.env.frame = some X.env.locals) (hx : X.ex = []) (hN : X.N.Nodup) (hi : X.N[i]? = some n) (hln : X.env.kindOf n = some .local) (hk : X.N[k]? = some y) (hlk : X.env.kindOf y = some .local)
    (hd : (n == ("__debug__" : Str)) = false) (hcd : (n == ("__classdict__" : Str)) = false) (hc : Names X x c) (hsw : swapsWith (.Name n np2) (some (.Name y yp)) ap.line X.env = pure false)
    (hb : ∀ (W : WX) (pn : List (Addr × Obj)) (xe : Value → Shared → Prop), Takes (X.tr pn xe) W → PassesOwn (model X.prog X.w) X.A X.env xe → PSs (X.tr pn xe) body (tb W)) :
    PS X (.Try body [.ExceptHandler (some (.Name x np)) (some n) [.Assign [.Name y yp] (.Name n np2) ap] hp] [] [] pos) (fun D σ H => tb (wKept X.K c i k D) D σ H) := by
  refine ⟨fun pins s σ H D I h => wpAny_Try_except (wpAny_mono ((hb (wKept X.K c i k D) (X.pn ++ pins) _ (fun u s' xx => ?_) PassesOwn.looking).run [] s σ H D (I.toTry _) h) (fun f s1 hsp => ?_) fun _ _ z => z)⟩
  · exact kept_catch (np := np) (hp := hp) I.ok hs hf hx hN hi hln hk hlk hd hcd hc hsw xx
  · cases f with
    | next => obtain ⟨σ1, H1, J, q⟩ := hsp; exact wpAny_execs_nil ⟨σ1, H1, J.ofTry I.ok, q⟩
    | ret v => obtain ⟨x, σ1, H1, J, r, q⟩ := hsp; exact ⟨x, σ1, H1, J.ofTry I.ok, r, q⟩
    | brk => obtain ⟨σ1, H1, J, q⟩ := hsp; exact ⟨σ1, H1, J.ofTry I.ok, q⟩
    | cont => obtain ⟨σ1, H1, J, q⟩ := hsp; exact ⟨σ1, H1, J.ofTry I.ok, q⟩
end

/-- a def's own frame, no comprehension's -/
structure Top (X : Cx) : Prop where
  hs : X.stack = X.env :: X.outer
  hf : X.env.frame = some X.env.locals
  hx : X.ex = []
/-- what leaves a def -/
abbrev outE (E : XK) : WX := fun cls d _ H => E cls d H
/-- a class of exceptions of the module, over ValueError, without own __init__ -/
structure ExcK (K : PySem.W.Frag) (mg : Str → Option Value) (x : Str) : Prop where
  mg : mg x = some (.ref (clsK K x))
  ex : PySem.W.excIn K (clsK K x) PySem.HandSPX.veTail "ValueError.__new__" = true
  kp : PySem.W.keepIn K (.ref (clsK K x)) = true
  sb : PySem.W.subIn K (.ref (clsK K x)) (.type "BaseException") = some true
  ty : PySem.W.typeIn K (.ref (clsK K x)) = some (.type "type")
  ec : ExcC K (clsK K x)
/-- a def that may raise -/
structure CalX (P : Program) (w : World) (K : PySem.W.Frag) (mg : Str → Option Value) (base : Heap) (k : Nat) (x : Str) (sp : Sp) : Prop where
  ex : ∃ (f : Addr) (fd : FuncData) (ps : List Str), FnOk P w K mg base (L2.CX P w) k f fd ps sp ∧ mg x = some (.ref f) ∧ PySem.W.keepIn K (.ref f) = true ∧ Binds K fd ps []
/-- a method that may raise -/
structure MCalX (P : Program) (w : World) (K : PySem.W.Frag) (mg : Str → Option Value) (base : Heap) (k : Nat) (x m : Str) (sp : Sp) : Prop where
  ex : ∃ (f : Addr) (fd : FuncData) (ps : List Str), FnOk P w K mg base (L2.CX P w) k f fd ps sp ∧ Meth K (clsK K x) m f ∧ Binds K fd ps []
section
variable {P : Program} {w : World} {K : PySem.W.Frag} {mg : Str → Option Value} {base : Heap} {N : List Str} {k : Nat} {sp : Sp}
/-- where it raises nothing -/
theorem fn_calm {f : Addr} {fd : FuncData} {ps : List Str} (F : FnOk P w K mg base (L2.CX P w) k f fd ps sp) : FnOk P w K mg base CX0 k f fd ps (fun vs H Q _ => sp vs H Q E0) :=
  ⟨fun vs H Q _ h => F.len vs H Q E0 h, fun A outer s H args us vs Q E hr he hb hv hsp => codeAny_mono (F.run A outer s H args us vs Q E0 hr he hb hv hsp) fun r s' hq => by
    cases r with
    | ok fl => cases fl <;> exact hq
    | error e =>
      obtain ⟨_, _, _, _, _, _, _, _, _, _, _, _, z⟩ := hq
      exact z.elim⟩
theorem CalX.cal {x : Str} (C : CalX P w K mg base k x sp) : Cal P w K mg base k x (fun vs H Q _ => sp vs H Q E0) := by
  obtain ⟨f, fd, ps, F, h⟩ := C.ex
  exact ⟨f, fd, ps, fn_calm F, h⟩
theorem MCalX.cal {x m : Str} (C : MCalX P w K mg base k x m sp) : MCal P w K mg base k x m (fun vs H Q _ => sp vs H Q E0) := by
  obtain ⟨f, fd, ps, F, h⟩ := C.ex
  exact ⟨f, fd, ps, fn_calm F, h⟩
theorem calX_of {x : Str} {st : Stmt} {ps : List Str} (D : Df K mg x st ps) (h : ∀ {f : Addr} {fd : FuncData}, Fun K x x st f fd → FnOk P w K mg base (L2.CX P w) k f fd ps sp) : CalX P w K mg base k x sp := by
  obtain ⟨f, fd, F, m, b, _⟩ := D
  exact ⟨f, fd, ps, h F, m, F.kp, b⟩
theorem mcalX_of {cl m qual : Str} {st : Stmt} {ps : List Str} (D : Mf K cl m qual st ps) (h : ∀ {f : Addr} {fd : FuncData}, Fun K m qual st f fd → FnOk P w K mg base (L2.CX P w) k f fd ps sp) : MCalX P w K mg base k cl m sp := by
  obtain ⟨f, fd, F, M, b⟩ := D.ex
  exact ⟨f, fd, ps, h F, M, b⟩
/-- into a def that has a try -/
theorem intoT {x qual : Str} {st : Stmt} {f : Addr} {fd : FuncData} {ps : List Str} (F : Fun K x qual st f fd) {nm : List (Str × NameKind)} (S : FnScope N ps (defScope st)) (hnm : (defScope st).names = nm) (len : ∀ vs H Q E, sp vs H Q E → vs.length = ps.length) (hl : ps.length ≤ N.length)
    (body : ∀ (X : Cx) (H : Hp) (vs : List V) (Q : VK) (E : XK), CI X P w K mg base N nm k → Top X → sp vs H Q E → bS X (defBody st) { nx := fun _ H' => Q .non H', rt := Q } (startL N vs) H) : FnOk P w K mg base CX0 (k + 1) f fd ps sp :=
  F.ok S len fun cdv A outer s H vs Q E hr h => ⟨_, bS_is, by
    rw [startL_eq N vs (by rw [len vs H Q E h]; exact hl)]
    exact body _ H vs Q E ⟨S.nd, fun _ h => by rw [← hnm] at h; exact h, fun _ h => ⟨by rw [← hnm] at h; exact h, rfl⟩, fun _ h => .inr (by rw [← hnm] at h; exact h), fun _ h => by rw [← hnm] at h; exact h, rfl, rfl, rfl, rfl, rfl, rfl, S.kind, rfl, hr, PassesOwn.never⟩ ⟨rfl, rfl, rfl⟩ h⟩
/-- into a def that may raise -/
theorem intoX {x qual : Str} {st : Stmt} {f : Addr} {fd : FuncData} {ps : List Str} (F : Fun K x qual st f fd) {nm : List (Str × NameKind)} (S : FnScope N ps (defScope st)) (hnm : (defScope st).names = nm) (len : ∀ vs H Q E, sp vs H Q E → vs.length = ps.length) (hl : ps.length ≤ N.length)
    (body : ∀ (X : Cx) (H : Hp) (vs : List V) (Q : VK) (E : XK), CI X P w K mg base N nm k → Takes X (outE E) → sp vs H Q E → bS X (defBody st) { nx := fun _ H' => Q .non H', rt := Q } (startL N vs) H) : FnOk P w K mg base (L2.CX P w) (k + 1) f fd ps sp :=
  F.okX S len fun cdv A outer s H vs Q E hr h => ⟨_, bS_is, by
    rw [startL_eq N vs (by rw [len vs H Q E h]; exact hl)]
    exact body _ H vs Q E ⟨S.nd, fun _ h => by rw [← hnm] at h; exact h, fun _ h => ⟨by rw [← hnm] at h; exact h, rfl⟩, fun _ h => .inr (by rw [← hnm] at h; exact h), fun _ h => by rw [← hnm] at h; exact h, rfl, rfl, rfl, rfl, rfl, rfl, S.kind, rfl, hr, passes_of rfl⟩ (takes_of rfl rfl rfl rfl) h⟩
end
section
variable {X : Cx} {P : Program} {w : World} {K : PySem.W.Frag} {mg : Str → Option Value} {base : Heap} {N : List Str} {nm : List (Str × NameKind)} {j : Nat} {σ σ' : L2.St} {H G : Hp} {Q : VK} {D : Ends} {pos pos' p p2 apos np np2 yp ap hp : Pos} {C : List (Addr × HO)} {e o : Expr} {es : List Expr} {W : WX} {body : List Stmt}
theorem CI.tr (c : CI X P w K mg base N nm j) {pn : List (Addr × Obj)} {xe : Value → Shared → Prop} (h : PassesOwn (model X.prog X.w) X.A X.env xe) : CI (X.tr pn xe) P w K mg base N nm j :=
  ⟨c.nd, c.lo, c.ce, c.fr, c.go, c.N, c.prog, c.w, c.K, c.mg, c.base, c.kind, c.calm, c.room, h⟩
/-- try: body / except W as n: y = n -/
theorem s_try (c : CI X P w K mg base N nm j) (tp : Top X) {wn n y : Str} {cv : Value} {i k : Nat} (hi : Ix N n i) (hn : nm.lookup n = some .local) (hk : Ix N y k) (hy : nm.lookup y = some .local) (hW : glB nm wn = true) (hm : mg wn = some cv) (hd : (n == ("__debug__" : Str)) = false) (hcd : (n == ("__classdict__" : Str)) = false)
    (hsw : swapsWith (.Name n np2) (some (.Name y yp)) ap.line X.env = pure false) (h : ∀ X', CI X' P w K mg base N nm j → Takes X' (wKept K cv i k D) → bS X' body D σ H) :
    sS X (.Try body [.ExceptHandler (some (.Name wn np)) (some n) [.Assign [.Name y yp] (.Name n np2) ap] hp] [] [] pos) D σ H := by
  have h1 := c.K
  subst h1
  refine ⟨_, ps_kept (tb := fun W D σ H => ∀ pn xe, Takes (X.tr pn xe) W → PassesOwn (model X.prog X.w) X.A X.env xe → bS (X.tr pn xe) body D σ H) tp.hs tp.hf tp.hx (by rw [c.N]; exact c.nd) (by rw [c.N]; exact hi.get) (c.lo _ hn) (by rw [c.N]; exact hk.get) (c.lo _ hy) hd hcd ⟨c.gl hW, glB_d hW, .inl (by rw [c.mg]; exact hm)⟩ hsw (fun W pn xe tk ps => ⟨fun pins s σ H D I h => bS_is.run pins s σ H D I (h pn xe tk ps)⟩), fun pn xe tk ps => h _ (c.tr ps) tk⟩
/-- raise x('m') -/
theorem s_raise (c : CI X P w K mg base N nm j) (tk : Takes X W) {x m : Str} {t : Nat} (e : ExcK K mg x) (hg : glB nm x = true) (h : W (.ref (clsK K x)) none σ H) : sS X (.Raise (some (.Call (.Name x p) [.Constant (.str m) t p2] [] pos)) none pos') D σ H := by
  have h1 := c.K
  subst h1
  exact ⟨_, ps_raise c.calm tk (pmk_own PySem.F.excBase_ValueError e.ex (by rw [c.mg]; exact e.mg) e.kp (raises_own e.sb e.ty) (c.gl hg) (glB_d hg)), h⟩
theorem e_callX (c : CI X P w K mg base N nm j) {x : Str} {k : Nat} {sp : Sp} (R : CalX P w K mg base k x sp) (tk : Takes X W) (hk : k ≤ j) (hg : glB nm x = true) (he : starEach (e :: es) X.env = (false, eval e X.env) :: starEach es X.env) (hpl : (backTo pos (starEach es X.env)).any (·.1) = false)
    (h : aS X (e :: es) σ H fun vs H1 => sp vs H1 Q (fun cls d H' => W cls d σ H')) : eS X (.Call (.Name x p) (e :: es) [] pos) σ H Q := by
  have h1 := c.prog; have h2 := c.w; have h3 := c.K; have h4 := c.mg; have h5 := c.base
  subst h1 h2 h3 h4 h5
  obtain ⟨f, fd, ps, F, h1, h2, h3⟩ := R.ex
  exact ⟨_, pe_callS F (c.room.mono hk) (c.gl hg) h1 h2 h3 (passAt tk) aS_is (glB_d hg) he hpl, h⟩
/-- o.m(e, ..) that may raise: what the caller wishes hangs on its slots -/
theorem e_mthX (c : CI X P w K mg base N nm j) {k : Nat} {cl m : Str} {sp : Sp} {pl : Sem Bool} (R : MCalX P w K mg base k cl m sp) (T : Cls K (clsK K cl)) (tk : Takes X W) (hk : k ≤ j) (hst : starEach (e :: es) X.env = (false, eval e X.env) :: starEach es X.env) (hpl : (backTo pos (starEach es X.env)).any (·.1) = false)
    (ht : eval (.Call (.Attribute o m apos) (e :: es) [] pos) X.env = (do
      let ov ← eval o X.env
      standAt apos.atName
      let (f, first) ← holding [ov] (getMethod ov m pl)
      callWith pos f first (backTo pos (starEach (e :: es) X.env)) (backToKw pos (keywordEach [] X.env))))
    (h : eS X o σ H fun x H1 => ∃ a dx fs, x = .ref a ∧ H1 a = some (.ins (clsK K cl) dx fs) ∧ NoFld fs m ∧ aS X (e :: es) σ H1 fun vs H2 => sp (x :: vs) H2 Q (fun cls d H' => W cls d σ H')) : eS X (.Call (.Attribute o m apos) (e :: es) [] pos) σ H Q := by
  have h1 := c.prog; have h2 := c.w; have h3 := c.K; have h4 := c.mg; have h5 := c.base
  subst h1 h2 h3 h4 h5
  obtain ⟨f, fd, ps, F, M, b⟩ := R.ex
  refine ⟨fun σ H Q => eS X o σ H fun x H1 => ∃ a dx fs, x = .ref a ∧ H1 a = some (.ins (clsK X.K cl) dx fs) ∧ NoFld fs m ∧ aS X (e :: es) σ H1 fun vs H2 => sp (x :: vs) H2 Q (fun cls d H' => W cls d σ H'), ⟨fun pins s σ H Q I hq => ?_⟩, h⟩
  refine PySem.W.methodCall_KW (pl := pl) (thn (eS_is.run pins s σ H _ I hq) fun u s1 ⟨x, H1, I1, rx, a, dx, fs, ex, ea, nf, q⟩ => ?_) ht
  subst ex
  obtain rfl : u = Value.ref a := rx
  refine getmeth_ok I1 ea T M nf.look (PySem.W.callWith_K (first := [.ref a]) (h₀ := X.base) I.ok.mod.kin M.kp (thn (aS_is.run pos pins s1 σ H1 _ I1 q) fun us s2 ⟨vs, H2, I2, r, q2⟩ => ⟨I2.kIn, ?_⟩) hst hpl)
  exact run_fnS (E := WE W) (us := .ref a :: us) (vs := .ref a :: vs) F (c.room.mono hk) b (passAt tk σ) I2 (.cons rfl r) q2
/-- isinstance of a kept exception -/
theorem c_isE (c : CI X P w K mg base N nm j) {a D0 : Addr} {v : V} {cv : Value} {b : Bool} (h1 : H a = some (ExcO (.ref D0) a)) (h2 : ExcC K D0) (h3 : ClsV v cv) (h4 : PySem.W.kitOne K (.ref D0) cv = some b) (h : Q (.bl b) H) : cS X (.builtin "isinstance") [.ref a, v] H Q := by
  have eK := c.K
  subst eK
  refine ⟨fun vs H Q => ∃ (a D0 : Addr) (v : V) (cv : Value) (b : Bool), vs = [.ref a, v] ∧ H a = some (ExcO (.ref D0) a) ∧ ExcC X.K D0 ∧ ClsV v cv ∧ PySem.W.kitOne X.K (.ref D0) cv = some b ∧ Q (.bl b) H, ?_, a, D0, v, cv, b, rfl, h1, h2, h3, h4, h⟩
  intro pins s σ H xs us Q I r h
  obtain ⟨a, D0, v, cv, b, rfl, e, C, hv, hk, q⟩ := h
  obtain ⟨u1, u2, rfl, r1, r2⟩ := vals2 r
  have e2 := hv.eq r2
  subst e2
  cases (show u1 = Value.ref a from r1)
  obtain ⟨⟨oe, vs, hget, hz, hd⟩, _⟩ := (show ObjOk X.prog X.w H s.heap a (ExcO (.ref D0) a) from I.hok a _ e)
  have J : PySem.W.InstAt s.heap a oe D0 none := by
    obtain ⟨oc, od, oda, osl⟩ := oe
    obtain ⟨h1, h2⟩ := hz
    dsimp only at h1 h2 hd
    subst h1 h2 hd
    exact ⟨hget, rfl, rfl, trivial⟩
  exact PySem.W.kia_one (PySem.W.handS_kitx_exc C.hg C.hk C.hs C.hd C.ha C.hn C.ht C.hm) I.kIn J hk (fun z => nomatch z) fun tk => ⟨.bl b, H, I.tok tk, rfl, q⟩
/-- .. by a tuple of classes -/
theorem c_isET (c : CI X P w K mg base N nm j) {a D0 tp : Addr} {cs : List V} {ws : List Value} {b : Bool} (h1 : H a = some (ExcO (.ref D0) a)) (h2 : ExcC K D0) (ht : H tp = some (.tup cs)) (h3 : Paired ClsV cs ws) (h4 : PySem.W.kitAny K (.ref D0) ws = some b) (h : Q (.bl b) H) : cS X (.builtin "isinstance") [.ref a, .ref tp] H Q := by
  have eK := c.K
  subst eK
  refine ⟨fun vs H Q => ∃ (a D0 tp : Addr) (cs : List V) (ws : List Value) (b : Bool), vs = [.ref a, .ref tp] ∧ H a = some (ExcO (.ref D0) a) ∧ ExcC X.K D0 ∧ H tp = some (.tup cs) ∧ Paired ClsV cs ws ∧ PySem.W.kitAny X.K (.ref D0) ws = some b ∧ Q (.bl b) H, ?_, a, D0, tp, cs, ws, b, rfl, h1, h2, ht, h3, h4, h⟩
  intro pins s σ H xs us Q I r h
  obtain ⟨a, D0, tp, cs, ws, b, rfl, e, C, ht, hp, hk, q⟩ := h
  obtain ⟨u1, u2, rfl, r1, r2⟩ := vals2 r
  cases (show u1 = Value.ref a from r1)
  cases (show u2 = Value.ref tp from r2)
  obtain ⟨⟨oe, vs, hget, hz, hd⟩, _⟩ := (show ObjOk X.prog X.w H s.heap a (ExcO (.ref D0) a) from I.hok a _ e)
  have J : PySem.W.InstAt s.heap a oe D0 none := by
    obtain ⟨oc, od, oda, osl⟩ := oe
    obtain ⟨h1, h2⟩ := hz
    dsimp only at h1 h2 hd
    subst h1 h2 hd
    exact ⟨hget, rfl, rfl, trivial⟩
  obtain ⟨_, its, rv, o, h1, h2, n, h3⟩ := (show ObjOk X.prog X.w H s.heap tp (.tup cs) from I.hok tp _ ht)
  have e3 := ClsV.all hp rv
  subst e3
  obtain ⟨oc, od, dt, sl⟩ := o
  simp only at h2 h3
  subst h2 h3
  exact PySem.W.kia_tup (PySem.W.handS_kitx_exc C.hg C.hk C.hs C.hd C.ha C.hn C.ht C.hm) I.kIn J h1 hk (fun z => nomatch z) fun tk => ⟨.bl b, H, I.tok tk, rfl, q⟩
/-- isinstance of a plain value by an own class -/
theorem c_isR (c : CI X P w K mg base N nm j) {x : V} {T : String} {C0 : Addr} {b : Bool} (t : TyOf K H x (.type T)) (e : PySem.W.kitOne K (.type T) (.ref C0) = some b) (h : Q (.bl b) H) : cS X (.builtin "isinstance") [x, .ref C0] H Q := by
  have eK := c.K
  subst eK
  exact ⟨_, call_isi, x, .ref C0, _, _, b, rfl, .own C0, .base t, e, h⟩
theorem kit_ref {A B : Addr} {b : Bool} (hd : PySem.W.hasDictIn K B = true) (ht : PySem.W.typeIn K (.ref B) = some (.type "type")) (hs : PySem.W.subIn K (.ref A) (.ref B) = some b) (ha : PySem.W.subIn K (.ref A) (.ref A) = some true) : PySem.W.kitOne K (.ref A) (.ref B) = some b := by
  obtain ⟨cd, hc, _⟩ := PySem.W.any_some hd
  unfold PySem.W.kitOne
  by_cases e : A = B
  · subst e
    rw [hs] at ha
    rw [if_pos (by simp), ha]
  · rw [if_neg (by simp [e])]
    unfold PySem.W.kitCls
    show (if ((PySem.W.clsIn K B).isSome && PySem.W.typeIn K (.ref B) == some (.type "type")) = true then PySem.W.subIn K (.ref A) (.ref B) else none) = some b
    rw [if_pos (by rw [hc, ht]; rfl), hs]
theorem kit_ve {A : Addr} {b : Bool} (hs : PySem.W.subIn K (.ref A) (.type "ValueError") = some b) : PySem.W.kitOne K (.ref A) (.type "ValueError") = some b := by
  unfold PySem.W.kitOne
  rw [if_neg (by simp)]
  unfold PySem.W.kitCls
  show (if PySem.W.kitMeta "ValueError" = true then PySem.W.subIn K (.ref A) (.type "ValueError") else none) = some b
  rw [if_pos (by decide +kernel), hs]
theorem kit_any {t c0 : Value} {cs : List Value} {b r : Bool} (h : PySem.W.kitOne K t c0 = some b) (hr : PySem.W.kitAny K t cs = some r) : PySem.W.kitAny K t (c0 :: cs) = some (b || r) := by
  cases b with
  | true => exact kitAny_cons h (fun z => nomatch z) fun _ => rfl
  | false => exact kitAny_cons h (fun _ => hr) fun z => nomatch z
end
end Go

namespace Go
open PySem PySem.Spec PyProof.Rows L2
/-! defs that ask repr: what is known of the guards -/
/-- a def's promise where no guard stands around -/
structure FnG (P : Program) (w : World) (K : PySem.W.Frag) (mg : Str → Option Value) (base : Heap) (ct : CXT) (k : Nat) (f : Addr) (fd : FuncData) (ps : List Str) (sp : Sp) : Prop where
  many : ∀ {vs H Q E}, sp vs H Q E → vs.length = ps.length
  runs : ∀ {A : Around} {outer : List Env} {s : Shared} {H : Hp} {args : Args} {us : List Value} {vs : List V} {Q : VK} {E : XK}, A.guards = some [] → Room k A →
    Env0 P w K mg base A outer s H → BindsTo s fd args (ps.zip us) → Vals vs us → sp vs H Q E → codeAny (model P w) A (.call (.ref f) args) (CR ct outer P w H s Q E) s
section
variable {P : Program} {w : World} {K : PySem.W.Frag} {mg : Str → Option Value} {base : Heap} {N ps : List Str} {k : Nat} {sp : Sp} {x qual : Str} {st : Stmt} {f : Addr} {fd : FuncData}
theorem FnG.more {ct : CXT} {j : Nat} (F : FnG P w K mg base ct j f fd ps sp) (h : j ≤ k) : FnG P w K mg base ct k f fd ps sp := ⟨F.many, fun g r => F.runs g (r.mono h)⟩
/-- a body stood up, the guards known -/
theorem fnG_of {ct : CXT} (F : Fun K x qual st f fd) (S : FnScope N ps (defScope st)) (hm : ∀ {vs H Q E}, sp vs H Q E → vs.length = ps.length)
    (hb : ∀ (cdv : Value) (A : Around) (outer : List Env) (s : Shared) (H : Hp) (vs : List V) (Q : VK) (E : XK), (A.deeper (envOfC qual (defScope st) s.heap.objs.size f cdv)).guards = some [] → Room k (A.deeper (envOfC qual (defScope st) s.heap.objs.size f cdv)) → sp vs H Q E →
      ∃ t, PSs (cxOf ct P w K mg base N qual (defScope st) f cdv A outer s H E) (defBody st) t ∧ t ⟨fun _ H' => Q .non H', Q, fun _ _ => False, fun _ _ => False⟩ (start N vs) H) : FnG P w K mg base ct (k + 1) f fd ps sp := by
  obtain ⟨oc, od, kV, doc, pm, an, cdv, tt, osl, rfl, lk, hcd⟩ := F.ex
  constructor
  · exact hm
  · intro A outer s H args us vs Q E hg room env bind rel want
    have kept : ∀ b o, base.get? b = some o → s.heap.get? b = some o := fun b o z => (env.bs b o z).1
    have inK : K.In s.heap := env.mod.kin.keeps kept
    have places : ∀ y ∈ ps.zip us, (defScope st).names.lookup y.1 = some .local ∨ ((defScope st).names.lookup y.1 = some .cell ∧ ((cellsFrom (s.heap.objs.size + 1) (defScope st).names []).lookup y.1).isSome = true) := by
      rintro ⟨n, v⟩ hy
      exact (S.par n (List.of_mem_zip hy).1).imp id fun z => ⟨z, PySem.W.cellsFrom_some _ _ _ (.inl z)⟩
    refine codeAny_call_function room.depth (inK _ _ lk) rfl S.co S.gen rfl (PySem.W.codeRec_of inK hcd) (bind _ _ _ _ (wpAny_newFunctionEnv_cells S.kind places ?_))
    rintro env1 rfl s1 inside
    refine ⟨(env.mod.nolimit.keeps kept).keeps inside.toInCall.keep, codeAny_func ?_⟩
    obtain ⟨t, body, so⟩ := hb cdv A outer s H vs Q E hg (room.deeper _) want
    have I0 : Inv (cxOf ct P w K mg base N qual (defScope st) f cdv A outer s H E) [] (start N vs) H s1 := inv_start S room.hd env (hm want) rel inside
    refine wpAny_mono (body.run [] s1 (start N vs) H _ I0 so) ?_ (fun _ _ z => z)
    rintro (u | _ | _ | _) s' out
    all_goals first
      | (obtain ⟨v, σ', H', J, rv, q⟩ := out; exact ⟨v, H', J.os, J.bare, J.base, J.hok, rv, q⟩)
      | (obtain ⟨σ', H', J, q⟩ := out; exact ⟨V.non, H', J.os, J.bare, J.base, J.hok, rfl, q⟩)
      | (obtain ⟨_, _, _, q⟩ := out; exact q.elim)
/-- into a def that asks repr -/
theorem intoG (F : Fun K x qual st f fd) {nm : List (Str × NameKind)} (S : FnScope N ps (defScope st)) (hnm : (defScope st).names = nm) (len : ∀ vs H Q E, sp vs H Q E → vs.length = ps.length) (hl : ps.length ≤ N.length)
    (body : ∀ (X : Cx) (H : Hp) (vs : List V) (Q : VK) (E : XK), CI X P w K mg base N nm k → X.A.guards = some [] → sp vs H Q E → bS X (defBody st) { nx := fun _ H' => Q .non H', rt := Q } (startL N vs) H) : FnG P w K mg base CX0 (k + 1) f fd ps sp :=
  fnG_of F S (fun {vs H Q E} z => len vs H Q E z) fun cdv A outer s H vs Q E hg hr h => by
    have b := body (cxOf CX0 P w K mg base N qual (defScope st) f cdv A outer s H E).nox H vs Q E ⟨S.nd, fun _ h => by rw [← hnm] at h; exact h, fun _ h => ⟨by rw [← hnm] at h; exact h, rfl⟩, fun _ h => .inr (by rw [← hnm] at h; exact h), fun _ h => by rw [← hnm] at h; exact h, rfl, rfl, rfl, rfl, rfl, rfl, S.kind, rfl, hr, PassesOwn.never⟩ hg h
    rw [← startL_eq N vs (by rw [len vs H Q E h]; exact hl)] at b
    exact ⟨_, bS_is.nox, b⟩
/-- .. that has a try, too -/
theorem intoTG (F : Fun K x qual st f fd) {nm : List (Str × NameKind)} (S : FnScope N ps (defScope st)) (hnm : (defScope st).names = nm) (len : ∀ vs H Q E, sp vs H Q E → vs.length = ps.length) (hl : ps.length ≤ N.length)
    (body : ∀ (X : Cx) (H : Hp) (vs : List V) (Q : VK) (E : XK), CI X P w K mg base N nm k → Top X → X.A.guards = some [] → sp vs H Q E → bS X (defBody st) { nx := fun _ H' => Q .non H', rt := Q } (startL N vs) H) : FnG P w K mg base CX0 (k + 1) f fd ps sp :=
  fnG_of F S (fun {vs H Q E} z => len vs H Q E z) fun cdv A outer s H vs Q E hg hr h => by
    have b := body (cxOf CX0 P w K mg base N qual (defScope st) f cdv A outer s H E).nox H vs Q E ⟨S.nd, fun _ h => by rw [← hnm] at h; exact h, fun _ h => ⟨by rw [← hnm] at h; exact h, rfl⟩, fun _ h => .inr (by rw [← hnm] at h; exact h), fun _ h => by rw [← hnm] at h; exact h, rfl, rfl, rfl, rfl, rfl, rfl, S.kind, rfl, hr, PassesOwn.never⟩ ⟨rfl, rfl, rfl⟩ hg h
    rw [← startL_eq N vs (by rw [len vs H Q E h]; exact hl)] at b
    exact ⟨_, bS_is.nox, b⟩
/-- a def that asks repr, called by its name -/
structure CalG (P : Program) (w : World) (K : PySem.W.Frag) (mg : Str → Option Value) (base : Heap) (k : Nat) (x : Str) (sp : Sp) : Prop where
  ex : ∃ (f : Addr) (fd : FuncData) (ps : List Str), FnG P w K mg base CX0 k f fd ps sp ∧ mg x = some (.ref f) ∧ PySem.W.keepIn K (.ref f) = true ∧ Binds K fd ps []
theorem calG_of {x : Str} {st : Stmt} {ps : List Str} (D : Df K mg x st ps) (h : ∀ {f : Addr} {fd : FuncData}, Fun K x x st f fd → FnG P w K mg base CX0 k f fd ps sp) : CalG P w K mg base k x sp := by
  obtain ⟨f, fd, F, m, b, _⟩ := D
  exact ⟨f, fd, ps, h F, m, F.kp, b⟩
end
section
variable {X : Cx} {P : Program} {w : World} {K : PySem.W.Frag} {mg : Str → Option Value} {base : Heap} {N : List Str} {nm : List (Str × NameKind)} {j : Nat} {σ : L2.St} {H : Hp} {Q : VK} {pos p : Pos} {e : Expr} {es : List Expr}
theorem e_callG (c : CI X P w K mg base N nm j) (hg : X.A.guards = some []) {x : Str} {k : Nat} {sp : Sp} (C : CalG P w K mg base k x sp) (hk : k ≤ j) (hn : glB nm x = true) (he : starEach (e :: es) X.env = (false, eval e X.env) :: starEach es X.env) (hpl : (backTo pos (starEach es X.env)).any (·.1) = false)
    (h : aS X (e :: es) σ H fun vs H1 => sp vs H1 Q E0) : eS X (.Call (.Name x p) (e :: es) [] pos) σ H Q := by
  have h1 := c.prog; have h2 := c.w; have h3 := c.K; have h4 := c.mg; have h5 := c.base
  subst h1 h2 h3 h4 h5
  obtain ⟨f, fd, ps, F, m1, m2, m3⟩ := C.ex
  refine ⟨fun σ H Q => aS X (e :: es) σ H fun vs H1 => sp vs H1 Q E0, ⟨?_⟩, h⟩
  intro pins s σ H Q I want
  refine wpAny_Call_Name_kw (ld_glob I (c.gl hn) m1 ?_ (glB_d hn))
  refine PySem.W.callWith_K (h₀ := X.base) I.ok.mod.kin m2 (thn (aS_is.run pos pins s σ H _ I want) ?_) he hpl
  rintro us s1 ⟨vs, H1, I1, r, q⟩
  refine ⟨I1.kIn, ?_⟩
  have hl : us.length = ps.length := by rw [← r.length]; exact F.many q
  have bound := m3 s1 us I1.kIn (by rw [List.append_nil]; exact hl)
  rw [List.append_nil] at bound
  refine wpAny_call (codeAny_mono (F.runs (outer := X.stack) hg (c.room.mono hk) I1.env0 bound r q) ?_)
  rintro (err | fl) s' out
  · exact out.elim
  · cases fl with
    | ret u => exact I1.after out
    | next => exact out.elim
    | brk => exact out.elim
    | cont => exact out.elim
/-- data that repr takes -/
structure Rpr (n : Nat) (d : PyData) : Prop where
  sh : d.showable = true
  nd : d.hasDict = false
  dp : d.depth ≤ n
  sz : d.shown.length ≤ sizeLine
/-- its text -/
def shT (d : PyData) : List Nat := cs d.shown
/-- repr of data -/
theorem c_repr (c : CI X P w K mg base N nm j) (hg : X.A.guards = some []) {a : Addr} {d : PyData} {n : Nat} (hd : Dp K H (.ref a) d) (hr : Rpr n d) (hn : n + 1 ≤ 16 * j + 200) (h : Q (.str (S (shT d))) H) : cS X (.builtin "repr") [.ref a] H Q := by
  have e := c.K
  subst e
  unfold shT at h
  rw [S_cs] at h
  refine ⟨fun vs H Q => ∃ a, vs = [.ref a] ∧ Dp X.K H (.ref a) d ∧ Q (.str d.shown) H, ?_, a, rfl, hd, h⟩
  rintro pins s σ H xs us Q I r ⟨a, rfl, hd, h⟩
  obtain ⟨u, rfl, ru⟩ := vals1 r
  obtain rfl : u = Value.ref a := ru
  obtain ⟨as, hrd⟩ := Dp.reads I d _ _ hd rfl
  have un := c.room.un
  have dp := hr.dp
  have nd := hr.nd
  exact repr_of_reads' hrd hr.sh (fun z => by rw [nd] at z; cases z) hg (by omega) (fun b o e => e) (fun h' u tk hk => ⟨.str d.shown, H, I.kept hk, ⟨u, rfl⟩, h⟩) hr.sz
end
/-! the law's own call -/
section
variable {P : Program} {w : World} {K : PySem.W.Frag} {mg : Str → Option Value} {k : Nat} {fa a : Addr} {fd : FuncData} {x : Str} {sp : Sp} {s1 : Shared} {oa : Obj} {xs : List V} {H : Hp}
/-- nothing but the script is tracked -/
structure Alone (K : PySem.W.Frag) (a : Addr) (oa : Obj) (xs : List V) (H : Hp) : Prop where
  one : ∀ {b u}, H b = some u → b = a ∧ K.lookup a = none ∧ u = .frz oa (.lst xs)
theorem Alone.but (L : Alone K a oa xs H) {b : Addr} {o : Obj} (e : K.lookup b = some o) : H b = none := by
  match q : H b with
  | none => rfl
  | some u =>
    obtain ⟨rfl, z, _⟩ := L.one q
    rw [z] at e; cases e
theorem Alone.dict (L : Alone K a oa xs H) {vs : Array Value} {n : Nat} {h : Heap} (ha : h.get? a = some oa) (hd : oa.data = .seq vs n) {b : Addr} {o : Obj} {es : Array DictEntry} {ep : Nat} (e : h.get? b = some o) (d : o.data = .dict es ep) : H b = none := by
  match q : H b with
  | none => rfl
  | some u =>
    obtain ⟨rfl, _, _⟩ := L.one q
    rw [ha] at e
    cases e
    rw [hd] at d; cases d
theorem law_callG {mb : Str → Option Value} {vs : Array Value} {n : Nat} (L : Alone K a oa xs H) (KX : K.In s1.heap) (hns : s1.heap.Ns mainGlobals mg) (hb : s1.heap.Ns builtinsNs mb) (hbb : ∀ x : Str, x ≠ "__name__" → mb x = bootBuiltins x) (hlim : s1.heap.NoLimit) (hg : s1.gens = #[])
    (ha : s1.heap.get? a = some oa) (hd : oa.data = .seq vs n) (hok : HOk P w H s1.heap) (hr : Room k callerA) (F : ∀ base : Heap, FnG P w K mg base CX0 k fa fd [x] sp) (hbind : ∀ (s : Shared) (u : Value), BindsTo s fd ⟨[u], []⟩ [(x, u)])
    (hsp : sp [.ref a] H (fun v _ => v = .bl true) fun _ _ _ => False) :
    codeAny (model P w) callerA (.call (.ref fa) ⟨[.ref a], []⟩) (fun r s' => r = .ok (.ret (.bool true)) ∧ OldK s1.heap s'.heap ∧ s'.os = s1.os ∧ AllBare s'.gens) s1 := by
  have names : ∀ {b : Addr} {m : Str → Option Value}, s1.heap.Ns b m → (hidT s1.heap H).Ns b m := by
    rintro b m ⟨o, es, ep, e, d, r⟩
    exact ⟨o, es, ep, hidT_get e (L.dict ha hd e d), d, r⟩
  have part : K.In (hidT s1.heap H) := fun b o e => hidT_get (KX b o e) (L.but e)
  have env : Env0 P w K mg (hidT s1.heap H) callerA [] s1 H := by
    refine ⟨rfl, ⟨part, names hns, ⟨mb, names hb, hbb⟩, ?_⟩, fun b o z => of_hidT z, by rw [hidT_size]; exact Nat.le_refl _, trivial, fun b z => ?_, hok, .of_eq hg⟩
    · obtain ⟨mc, h1, h2⟩ := hlim
      exact ⟨mc, names h1, h2⟩
    · cases (show b ∈ ([] : List Addr) from z)
  refine codeAny_mono ((F _).runs (us := [.ref a]) (vs := [.ref a]) rfl hr env (hbind s1 (.ref a)) (.cons rfl .nil) hsp) ?_
  rintro (err | fl) s' out
  · exact out.elim
  · cases fl with
    | next => exact out.elim
    | brk => exact out.elim
    | cont => exact out.elim
    | ret u =>
      obtain ⟨v, H', os, bare, un, hok', r', rfl⟩ := out
      obtain rfl : u = Value.bool true := r'
      refine ⟨rfl, OldK.of_keep fun b o e => ?_, os, bare⟩
      match q : H b with
      | none => exact un.keep b o e q (fun z => by cases (show b ∈ ([] : List Addr) from z)) (by simp)
      | some u =>
        obtain ⟨_, _, rfl⟩ := L.one q
        have e1 := (hok b _ q).1
        rw [e] at e1; cases e1
        exact (hok' b _ (un.frzs b oa _ q)).1
end
/-- the law's walk where its def asks repr -/
theorem walkG {l : PySem.W.OpenLaw} {n k : Nat} {q : Program} {loose : List Str} {XP : (Str → Option Value) → Heap → Prop} {YP : World → Heap → Prop} {d : DefRec} {K : Params → PySem.W.Frag} {sp : World → Sp} {x : Str} (hn : l.most = some n) (hn2 : n ≤ sizeLine) (hdf : d.params.defaults = []) (hr : Room k callerA)
    (hY : ∀ (w : World) (h : Heap), YP w h → (K w.params).In h)
    (F : ∀ (w : World) (mg : Str → Option Value) (fa : Addr) (h : Heap), (K w.params).In h → h.Ns mainGlobals mg → mg d.name = some (.ref fa) →
      ∃ fd : FuncData, (∀ (s : Shared) (u : Value), BindsTo s fd ⟨[u], []⟩ [(x, u)]) ∧ ∀ base : Heap, FnG l.prog w (K w.params) mg base CX0 k fa fd [x] (sp w))
    (hsp : ∀ (w : World) (H : Hp) (a : Addr) (ns : List Int), ns.length ≤ n → SqL (K w.params) H a (ns.map V.int) → sp w [.ref a] H (fun v _ => v = .bl true) fun _ _ _ => False) :
    PySem.W.WalkO q loose XP YP l.row.toRowW d [] (fun f vs => PySem.call f vs) := by
  refine Att.attach_call hn hdf fun w s0 s1 mg mb fa o pm cd doc a vs ns G Y ho hd hcd hmg hobj hints hlen hg => ?_
  have KX := hY w _ Y
  obtain ⟨fd, hb, hF⟩ := F w mg fa _ KX G.T.g hmg
  have rv := vals_ints hints
  have len : (ns.map V.int).length ≤ sizeLine := by rw [List.length_map]; omega
  match hk : (K w.params).lookup a with
  | some o2 =>
    have e := KX a o2 hk
    rw [hobj] at e
    cases e
    refine law_callG (xs := []) (H := fun _ => none) ⟨fun {b u} z => by cases (show (none : Option HO) = some u from z)⟩ KX G.T.g G.T.b G.T.builtins G.T.nolimit hg hobj rfl (fun b u z => by cases (show (none : Option HO) = some u from z)) hr hF hb (hsp w _ a ns hlen (.inr ⟨_, vs.toArray, _, hk, rfl, rfl, rfl, ?_, by simpa using rv⟩))
    rw [List.size_toArray, hints.length]; omega
  | none =>
    have one : ∀ {b : Addr} {u : HO}, (if b = a then some (HO.frz { cls := .type "list", data := .seq vs.toArray } (.lst (ns.map V.int))) else none) = some u → b = a ∧ u = .frz { cls := .type "list", data := .seq vs.toArray } (.lst (ns.map V.int)) := by
      intro b u z
      split at z
      · rename_i hb
        exact ⟨hb, (Option.some.inj z).symm⟩
      · cases z
    refine law_callG (H := fun b => if b = a then some (.frz { cls := .type "list", data := .seq vs.toArray } (.lst (ns.map V.int))) else none) ⟨fun {b u} z => ⟨(one z).1, hk, (one z).2⟩⟩ KX G.T.g G.T.b G.T.builtins G.T.nolimit hg hobj rfl (fun b u z => ?_) hr hF hb (hsp w _ a ns hlen (.inl (.inr ⟨_, if_pos rfl⟩)))
    obtain ⟨rfl, rfl⟩ := one z
    exact ⟨hobj, len, vs, _, rv, hobj⟩
/-- .. of a def of the module -/
theorem law_fnG {P : Program} {w : World} {K : PySem.W.Frag} {mg : Str → Option Value} {x : Str} {st : Stmt} {y : Str} {sp : Sp} {k : Nat} {fa : Addr} (D : Df K mg x st [y]) (hf : mg x = some (.ref fa)) (h : ∀ {base : Heap} {f : Addr} {fd : FuncData}, Fun K x x st f fd → FnG P w K mg base CX0 k f fd [y] sp) :
    ∃ fd : FuncData, (∀ (s : Shared) (u : Value), BindsTo s fd ⟨[u], []⟩ [(y, u)]) ∧ ∀ base : Heap, FnG P w K mg base CX0 k fa fd [y] sp := by
  obtain ⟨f, fd, F, m, b, b2⟩ := D
  obtain rfl : f = fa := by rw [m] at hf; cases hf; rfl
  exact ⟨fd, fun s u => b2 s [u] rfl, fun base => h F⟩
end Go

namespace Go
open PySem PySem.Spec PyProof.Rows L2
/-! a joined text, split -/
theorem split_joinL {c : Nat} (hc : c < 256) {ls : List (List Nat)} (hne : ls ≠ []) (hf : ∀ l ∈ ls, c ∉ l) : Txt.split (S (joinL [c] ls)) (S [c]) = ls.map S := by
  rw [← glued_S [c] ls]
  refine TL.split_join (s := c) (S := []) rfl (by simp [S, hc]) (fun e => hne (List.map_eq_nil_iff.mp e)) fun p hp => ?_
  obtain ⟨l, hl, rfl⟩ := List.mem_map.mp hp
  exact fun h => hf l hl (by simpa [TL.tl, S] using h)
section
variable {X : Cx} {H : Hp} {Q : VK}
theorem m_split {c : Nat} {ls : List (List Nat)} (hc : c < 256) (hne : ls ≠ []) (hf : ∀ l ∈ ls, c ∉ l) (hz : (joinL [c] ls).length ≤ 1000000) (h : ∀ p H', New H p (.lst (ls.map fun z => V.str (S z))) H' → Q (.ref p) H') : mS X "str.split" (.str (S (joinL [c] ls))) [.str (S [c])] H Q :=
  ⟨_, mt_split, S (joinL [c] ls), S [c], rfl, rfl, rfl, by rw [S_len]; have : sizeLine = 2 ^ 24 := rfl; omega, fun p hp => by
    rw [split_joinL hc hne hf, List.map_map]
    exact h p _ ⟨hp, rfl⟩⟩
end
end Go

namespace Go
open PySem PySem.Spec PyProof.Rows L2
/-! a comprehension whose element may raise -/
section
variable {M : Model} {A : Around} {E₁ : Value → Shared → Prop} {env : Env} {outer : List Env} {L C a : Addr} {Z : Obj → Prop} {B : Heap} {s : Shared}
/-- a frame notes what is in the air, be it held by another block -/
theorem note_sky {Q : Unit → Shared → Prop} (hZ : HandSPX.Steady Z) (hfr : A.frames = some (env :: outer)) (hf : env.frame = some L) (hC : C ≠ L) (x : Sky B (env :: outer) a Z C s.heap)
    (hQ : ∀ h', HandSPX.HeldZ B (env :: outer) a Z L h' → s.heap.UpToSlots h' → Q () { s with heap := h' }) : wpAny M A (noteFrame (.ref a) env) Q E₁ s := by
  rcases x with ⟨hB, hn, hl, oe, vs, he, hz, hd, h1⟩ | fl | hh
  · exact HandSPX.look_newZ hZ hfr hl hf he hB hn hd h1 hz hQ
  · exact HandSPX.looks_onZ hZ hfr hf fl hQ
  · obtain ⟨hkb, hen, hl, oe, vs, T, oT, ts, he, hz, hd, h1, hnT, hTe, hT, hdT, h3⟩ := hh
    unfold noteFrame
    simp only [hf]
    refine wpAny_bind (wpAny_field he hd h1 ?_)
    rw [if_pos (show (Value.ref T != Value.none) = true from by simp)]
    refine wpAny_bind (wpAny_field hT hdT h3 ?_)
    rw [if_neg (show ¬ ((rawInt C == rawInt L) = true) from by simp only [rawInt, beq_iff_eq, Value.int.injEq]; exact fun e => hC (Int.ofNat.inj e.1))]
    refine wpAny_bind (wpAny_setField hT hdT (Array.getElem?_eq_some_iff.mp h3).1 ?_)
    have off : ∀ b, b ≠ T → (s.heap.update T (Obj.mapFields (·.setIfInBounds 3 Value.none))).get? b = s.heap.get? b := fun b hb => Heap.get?_update_other _ _ (Ne.symm hb)
    have noT : ∀ b o, s.heap.get? b = some o → (∀ vs, o.data ≠ .fields vs) → b ≠ T := fun b o hb hnf q => by
      rw [q, hT] at hb; injection hb with hb; subst hb; exact hnf ts hdT
    refine HandSPX.wpAny_entryZ hZ hfr (hl.of_keeps fun b o hb hnf => ⟨o, (off b (noT b o hb hnf)).trans hb, rfl⟩) hf ((off a (Ne.symm hTe)).trans he)
      (fun b o hbo => (off b fun q => by rw [q, hnT] at hbo; cases hbo).trans (hkb b o hbo)) hen hd (Array.getElem?_eq_some_iff.mp h1).1 hz fun h' hN => ?_
    obtain ⟨x1, x2, x3, x4⟩ := hN
    exact hQ h' ⟨x1, hen, x2, x3⟩ fun b o hb hnf => x4 b o ((off b (noT b o hb hnf)).trans hb) hnf
end
theorem ns_up {h h' : Heap} {L : Addr} {m : Str → Option Value} (hn : h.Ns L m) (up : h.UpToSlots h') : h'.Ns L m := by
  obtain ⟨o, es, ep, e, d, r⟩ := hn
  obtain ⟨sl, e'⟩ := up L o e fun vs q => by rw [d] at q; cases q
  exact ⟨_, es, ep, e', d, r⟩
/-- a block's context, with what it does about exceptions -/
abbrev blkX (X : Cx) (s : Shared) (H : Hp) (scope : Scope) (cenv : Env) (fp : List Addr) (xe : Value → Shared → Prop) : Cx := { X.blk s H scope cenv fp with xe := xe }
section
variable {X : Cx} {W : WX} {pins : List (Addr × Obj)} {σ : L2.St} {H H3 : Hp} {s s3 s' : Shared} {scope : Scope} {ce : Env} {fp : List Addr}
/-- the wish of the element, by the slots around -/
abbrev outW (W : WX) (σ : L2.St) : WX := fun cls d _ H => W cls d σ H
theorem comp_fails (tp : Top X) (tk : Takes X W) (I3 : Inv X pins σ H3 s3) (f3 : ∀ b ∈ fp, FpOk X pins H3 b) (hcf : ce.frame = X.env.frame) (hcl : ce.locals = s3.heap.objs.size) {xe : Value → Shared → Prop} {u : Value} (x : XE (blkX X s3 H3 scope ce fp xe) (outW W σ) u s') :
    notedBy (model X.prog X.w) X.A ce (CompFails (model X.prog X.w) X.A X.xe ce) u s' := by
  obtain ⟨a, B, sI, pn, σ', H', cls, d, rfl, I6, nb, up, sky, na, os, ag, w⟩ := x
  have hfr : X.A.frames = some (X.env :: X.outer) := I3.ok.frames.trans (by rw [tp.hs])
  have hst : (blkX X s3 H3 scope ce fp xe).stack = X.env :: X.outer := tp.hs
  have sky' : Sky B (X.env :: X.outer) a (Zc cls d) ce.locals s'.heap := by
    have := sky
    rw [hst] at this
    exact this
  have hne : ce.locals ≠ X.env.locals := by
    rw [hcl]
    exact Nat.ne_of_gt I3.lt
  show wpAny _ X.A (noteFrame (.ref a) ce) _ _ s'
  rw [noteFrame_env _ hcf]
  refine note_sky Zc.steady hfr tp.hf hne sky' fun h1 hh up1 => ?_
  have I7 : Inv X pins σ H' sI := I3.call' (ch := fp) I6.os I6.base I6.hok I6.bare fun b hb => ⟨(f3 b hb).2.2.2.1, (f3 b hb).2.1, (f3 b hb).2.2.2.2.1, (f3 b hb).2.2.2.2.2⟩
  obtain ⟨m, hn, _⟩ := I6.loc
  have hn : sI.heap.Ns ce.locals m := hn
  have hn1 : h1.Ns ce.locals m := ns_up (ns_up hn up) up1
  refine ⟨m, hn1, fun h2 m2 hn2 sb => ?_⟩
  have nC : H' ce.locals = none := I6.free
  obtain ⟨f0, f1, f2, f4, f5, f6⟩ := I3.fpOk (b := ce.locals) (H' := H') (by rw [hcl]; exact Nat.le_refl _) nC
  have I8 : Inv X pins σ H' { sI with heap := PySem.W.hideAll sI.heap [ce.locals], toks := sI.toks } := I7.turned (it := ce.locals) (fun b o hb e => PySem.W.hideAll_get _ e (by simpa using hb)) f0 f1 f4 f5 f6
  obtain ⟨hB1, hB2, hB3, oe, vs, T, oT, ts, he, hz, hd, h1', hnT, hTe, hT, hdT, h3⟩ := hh
  have ndict : ∀ {b : Addr} {o : Obj} {vs : Array Value}, h1.get? b = some o → o.data = .fields vs → b ≠ ce.locals := fun {b o vs} e q z => by
    obtain ⟨o', es, ep, e', d', _⟩ := hn1
    rw [z, e'] at e
    cases e
    rw [d'] at q
    cases q
  have he2 := (sb.2 a (ndict he hd)).trans he
  have hT2 := (sb.2 T (ndict hT hdT)).trans hT
  have nB : ∀ b o, (PySem.W.hideAll B [ce.locals]).get? b = some o → b ≠ ce.locals ∧ B.get? b = some o := fun b o e => by
    refine ⟨fun z => ?_, PySem.W.of_hideAll _ e⟩
    rw [z, PySem.W.hideAll_none _ (by simp)] at e
    cases e
  have none2 : ∀ {b : Addr}, B.get? b = none → (PySem.W.hideAll B [ce.locals]).get? b = none := fun {b} q => by
    cases e : (PySem.W.hideAll B [ce.locals]).get? b with
    | none => rfl
    | some o => rw [(nB b o e).2] at q; cases q
  have held2 : HandSPX.HeldZ (PySem.W.hideAll B [ce.locals]) (X.env :: X.outer) a (Zc cls d) X.env.locals h2 := by
    refine ⟨fun b o e => ?_, none2 hB2, ?_, oe, vs, T, oT, ts, he2, hz, hd, h1', none2 hnT, hTe, hT2, hdT, h3⟩
    · obtain ⟨q1, q2⟩ := nB b o e
      exact (sb.2 b q1).trans (hB1 b o q2)
    · refine Heap.FunFrames.sameBut sb hn2 (funFrames_none hB3 fun b hb => none2 ?_)
      obtain ⟨e, h5, h6⟩ := List.mem_filterMap.mp hb
      have : ∀ {l : List Env}, h1.FunFrames B l → ∀ e ∈ l, ∀ b, e.frame = some b → B.get? b = none := by
        intro l
        induction l with
        | nil => intro _ e he; cases he
        | cons e0 l ih =>
          rintro ⟨_, ⟨L', o', hf', hb', _⟩, hr⟩ e he b eb
          rcases List.mem_cons.mp he with rfl | he
          · rw [hf'] at eb; cases eb; exact hb'
          · exact ih hr e he b eb
      exact this hB3 e h5 b h6
  unfold PySem.passOn
  refine wpAny_bind (wpAny_field he2 hd h1' ?_)
  rw [if_neg (show ¬ ((Value.ref T == Value.none) = true) from by simp), hcf, tp.hf]
  refine wpAny_bind (HandSPX.setFlight_onZ (s := { s' with heap := h2 }) held2 fun h3' held3 up3 => wpAny_throw ?_)
  refine tk _ _ ⟨a, PySem.W.hideAll B [ce.locals], _, pins, σ, H', cls, d, rfl, I8, fun b o e hb => ?_, fun b o e hnf => ?_, .inr (.inr (by rw [tp.hs]; exact held3)), na, os, ag, w⟩
  · have e1 := PySem.W.of_hideAll _ e
    have e2 : b ≠ ce.locals := fun z => by
      rw [show (PySem.W.hideAll sI.heap [ce.locals]).get? b = none from PySem.W.hideAll_none _ (by simp [z])] at e
      cases e
    exact PySem.W.hideAll_get _ (nb b o e1 hb) (by simpa using e2)
  · have e1 := PySem.W.of_hideAll _ e
    have e2 : b ≠ ce.locals := fun z => by
      rw [show (PySem.W.hideAll sI.heap [ce.locals]).get? b = none from PySem.W.hideAll_none _ (by simp [z])] at e
      cases e
    obtain ⟨l1, q1⟩ := up b o e1 hnf
    obtain ⟨l2, q2⟩ := up1 b _ q1 hnf
    have q3 := (sb.2 b e2).trans q2
    obtain ⟨l3, q4⟩ := up3 b { o with slots := l2 } q3 hnf
    exact ⟨l3, q4⟩
/-- a block of X that hands on what its element raises -/
def IsBlkX (X X' : Cx) (scope : Scope) (W : WX) (σ : L2.St) : Prop := ∃ s H C cl fp xe, X' = blkX X s H scope (compEnvC scope cl C X.env) fp xe ∧ Takes X' (outW W σ) ∧ PassesOwn (model X'.prog X'.w) X'.A X'.env X'.xe
theorem run_lcX {elt tg iter : Expr} {ifs : List Expr} {own : List (Str × Nat)} {pos : Pos} {wi : TI} {g : TG} {tt : TT} {te : TE} {Q : VK} (tp : Top X) (tk : Takes X W) (hc : X.calm = true) (hN : X.N.Nodup) (hi : PI X tg iter wi) (ok : BlkOk X.N X.env.scope scope own) (I : Inv X pins σ H s)
    (hg : ∀ X', IsBlkX X X' scope W σ → PG X' tg g) (ht : ∀ X', IsBlkX X X' scope W σ → PTs X' ifs tt) (he : ∀ X', IsBlkX X X' scope W σ → PE X' elt te) (hs : ∀ x, foldedSetIterable iter X.env x = pure x) (h : tLc wi g tt te (own.map (·.2)) σ H Q) :
    wpAny (model X.prog X.w) X.A (eval (.ListComp elt [⟨tg, iter, ifs, 0⟩] scope pos) X.env) (fun u s' => ∃ v H', Inv X pins σ H' s' ∧ RelV v u ∧ Q v H') X.xe s := by
  have frees : ∀ y ∈ scope.names, y.2 = .free → ∃ c, X.env.cells.lookup y.1 = some c := fun y hy e => (ok.free y hy e).elim (fun k => I.ok.has _ (.inl k)) fun k => I.ok.has _ (.inr k)
  rw [eval_ListComp]
  refine comprehension_at (use := none) rfl hs (closure_ok frees) ok.kind (fun y hy e => by rw [ok.uniq y hy, e]) (thn (hi.run pins s σ H _ I h) fun xv s1 hx => thn hx fun itv s2 ⟨it, fp, tn, J, H2, e, I2, T, st2, f2, q⟩ => ?_)
  subst e
  refine wpAny_newObj_type (newEnv_comp ?_) (by show 0 ≤ sizeLine; decide)
  -- the new list at D, the block's names at C
  generalize hD : s2.heap.objs.size = D
  obtain ⟨Wm, ⟨m0, w0⟩, turn⟩ := q D (I2.hok.fresh (Nat.le_of_eq hD))
  generalize hs3 : ({ s2 with heap := s2.heap.push { cls := .type "list", data := .seq ([] : List Value).toArray } } : Shared) = s3
  have e3 : s3.heap = s2.heap.push { cls := .type "list", data := .seq ([] : List Value).toArray } := by rw [← hs3]
  have old3 : ∀ b o, s2.heap.get? b = some o → s3.heap.get? b = some o := fun b o e => by rw [e3]; exact Heap.get?_push_of_some _ e
  have I3 : Inv X pins σ (upd H2 D (.lst [])) s3 := by
    rw [← hs3]
    refine I2.laid (t' := s2.toks) (fun b o e => Heap.get?_push_of_some _ e) (Nat.le_of_eq hD) ⟨Nat.zero_le _, [], 0, .nil, ?_⟩
    rw [← hD]
    exact Heap.get?_push_size _ rfl
  have f3 : ∀ b ∈ fp, FpOk X pins (upd H2 D (.lst [])) b ∧ b < s3.heap.objs.size := fun b hb => by
    obtain ⟨o, e, _⟩ := T.obj _ _ st2 b hb
    have lt : b < s2.heap.objs.size := Heap.lt_size e
    refine ⟨⟨?_, (f2 b hb).2⟩, by rw [e3, Heap.size_push]; exact Nat.lt_succ_of_lt lt⟩
    rw [upd_ne (by rw [← hD]; exact Nat.ne_of_lt lt)]
    exact (f2 b hb).1
  have I4' := block_start I3 ok hN f3
  show codeAny _ _ (.compStart (.ListComp elt [⟨tg, iter, ifs, 0⟩] scope pos) 0 (.ref it) (.ref D) (compEnvC scope (cellsFrom (s3.heap.objs.size + 1) scope.names (cloFrom X.env.cells scope.names [])) s3.heap.objs.size X.env)) (compEnds (model X.prog X.w) X.A X.xe none _ (.ref D) (compEnvC scope (cellsFrom (s3.heap.objs.size + 1) scope.names (cloFrom X.env.cells scope.names [])) s3.heap.objs.size X.env)) { s3 with heap := pushCells (s3.heap.push { cls := .type "dict", data := .dict #[] }) scope.names }
  obtain ⟨cl, hcl⟩ : ∃ cl, cellsFrom (s3.heap.objs.size + 1) scope.names (cloFrom X.env.cells scope.names []) = cl := ⟨_, rfl⟩
  rw [hcl] at I4' ⊢
  obtain ⟨ce, hce⟩ : ∃ ce, compEnvC scope cl s3.heap.objs.size X.env = ce := ⟨_, rfl⟩
  have cC : ce.locals = s3.heap.objs.size := by rw [← hce]; rfl
  have cF : ce.frame = X.env.frame := by rw [← hce]; rfl
  obtain ⟨H3, hH3⟩ : ∃ H3, upd H2 D (.lst []) = H3 := ⟨_, rfl⟩
  rw [hH3] at I3 f3 I4' w0
  -- what the block does about exceptions
  obtain ⟨Xb, hXb⟩ : ∃ Xb, blkX X s3 H3 scope ce fp (notedBy (model X.prog X.w) X.A ce (CompFails (model X.prog X.w) X.A X.xe ce)) = Xb := ⟨_, rfl⟩
  have blk : IsBlkX X Xb scope W σ := by
    refine ⟨s3, H3, s3.heap.objs.size, cl, fp, _, by rw [hce]; exact hXb.symm, ?_, ?_⟩
    · rw [← hXb]
      exact fun u s' x => comp_fails tp tk I3 (fun b hb => (f3 b hb).1) cF cC x
    · rw [← hXb]
      exact PassesOwn.looking
  obtain ⟨s4, hs4⟩ : ∃ s4 : Shared, ({ s3 with heap := pushCells (s3.heap.push { cls := .type "dict", data := .dict #[] }) scope.names } : Shared) = s4 := ⟨_, rfl⟩
  rw [hce] at I4' ⊢
  rw [hs4] at I4' ⊢
  have I4 : Inv Xb [] (wipe σ (own.map (·.2))) H3 s4 := by rw [← hXb]; exact I4'.toTry _
  have st4 : tn 0 s4.heap := T.keep _ _ _ st2 fun b _ o e => by rw [← hs4]; exact pushCells_keeps _ _ _ _ (Heap.get?_push_of_some _ (old3 b o e))
  have xA : Xb.A = X.A := by rw [← hXb]
  have xp : Xb.prog = X.prog := by rw [← hXb]
  have xw : Xb.w = X.w := by rw [← hXb]
  have xK : Xb.K = X.K := by rw [← hXb]
  have xE : Xb.env = ce := by rw [← hXb]
  have xx : Xb.xe = notedBy (model X.prog X.w) X.A ce (CompFails (model X.prog X.w) X.A X.xe ce) := by rw [← hXb]
  have xpn : Xb.pn = [] := by rw [← hXb]
  have xex : Xb.ex = fp := by rw [← hXb]
  have stat : ∀ {σ' : L2.St} {H' : Hp} {s' : Shared}, Inv Xb [] σ' H' s' → (∀ b ∈ fp, H' b = none) → ∀ b ∈ fp, FpOk Xb [] H' b := fun {σ' H' s'} I' hn b hb => by
    have hb' : b ∈ Xb.ex := by rw [xex]; exact hb
    exact ⟨hn b hb, (I'.ok.exf b hb').1, I'.ok.exfs b hb', .inl hb', fun x c e => (I'.ok.exf b hb').2 x c e, fun p hp => by rw [xpn] at hp; cases hp⟩
  subst hXb
  have loop : codeAny (model X.prog X.w) X.A (.compLoop (.ListComp elt [⟨tg, iter, ifs, 0⟩] scope pos) 0 (.ref it) (.ref D) ce) (compEnds (model X.prog X.w) X.A X.xe none (fun u s' => ∃ v H', Inv X pins σ H' s' ∧ RelV v u ∧ Q v H') (.ref D) ce) s4 := by
    refine compLoop_any (fun n s' => ∃ i H', Inv (blkX X s3 H3 scope ce fp (notedBy (model X.prog X.w) X.A ce (CompFails (model X.prog X.w) X.A X.xe ce))) [] (wipe σ (own.map (·.2))) H' s' ∧ tn i s'.heap ∧ (∀ b ∈ fp, H' b = none) ∧ Wm i n H') ?_ m0 ⟨0, H3, I4, st4, fun b hb => (f3 b hb).1.1, w0⟩
    rintro n s5 ⟨i, H5, I5, st5, n5, w5⟩
    rcases turn i n H5 w5 with ⟨stop, qq⟩ | ⟨go, Nx, hNx, step⟩
    · refine thnF (T.done (blkX X s3 H3 scope ce fp _) rfl rfl rfl hc i [] s5 _ H5 (fun _ _ => False) I5 (stat I5 n5) st5 stop) fun r s6 ⟨hr, I6⟩ => ?_
      subst hr
      have I7 : Inv X pins σ H5 s6 := I3.call' (ch := fp) I6.os I6.base I6.hok I6.bare fun b hb => ⟨(f3 b hb).1.2.2.2.1, (f3 b hb).1.2.1, (f3 b hb).1.2.2.2.2.1, (f3 b hb).1.2.2.2.2.2⟩
      have nC : H5 ce.locals = none := I6.free
      obtain ⟨m, hn, _⟩ := I6.loc
      obtain ⟨f0, f1, f2, f4, f5, f6⟩ := I3.fpOk (b := ce.locals) (H' := H5) (by rw [cC]; exact Nat.le_refl _) nC
      exact ⟨m, hn, fun h'' sb => ⟨.ref D, H5, I7.turned (t' := s6.toks) (fun b o hb e => (sb.2 b hb).trans e) f0 f1 f4 f5 f6, rfl, qq⟩⟩
    · refine thnF (T.item (blkX X s3 H3 scope ce fp _) rfl rfl rfl hc i [] s5 _ H5 (fun _ _ => False) I5 (stat I5 n5) st5 go) fun r s6 ⟨u, hr, h6⟩ => ?_
      subst hr
      refine thnF h6 fun _ s7 ⟨x, H7, I7, r7, y7, st7, n7⟩ => ?_
      have I7' := I7.pinned (stat I7 n7) (T.obj _ _ st7)
      refine wpAny_mono ((hg _ blk).run _ s7 _ H7 x u _ I7' r7 (step x H7 y7)) (fun _ s8 ⟨σ8, H8, I8, hw8, q8⟩ => ?_) fun _ _ z => z
      refine wpAny_mono ((ht _ blk).run _ s8 σ8 H8 _ I8 q8) (fun b s9 ⟨H9, I9, q9⟩ => ?_) fun _ _ z => z
      have fin : ∀ {s' : Shared} {H' : Hp}, Inv (blkX X s3 H3 scope ce fp (notedBy (model X.prog X.w) X.A ce (CompFails (model X.prog X.w) X.A X.xe ce))) ([] ++ pinsAt fp s7.heap) σ8 H' s' → Nx H' → ∃ m, m < n ∧ ∃ i H', Inv (blkX X s3 H3 scope ce fp (notedBy (model X.prog X.w) X.A ce (CompFails (model X.prog X.w) X.A X.xe ce))) [] (wipe σ (own.map (·.2))) H' s' ∧ tn i s'.heap ∧ (∀ b ∈ fp, H' b = none) ∧ Wm i m H' := fun {s' H'} I' nx => by
        obtain ⟨m', hm, w'⟩ := hNx H' nx
        have pinned : ∀ b ∈ fp, ∀ o, s7.heap.get? b = some o → s'.heap.get? b = some o ∧ H' b = none := fun b hb o e =>
          let z := I'.pin (b, o) (List.mem_append_right _ (List.mem_append_right _ (mem_pinsAt hb e)))
          ⟨z.1, z.2.1⟩
        refine ⟨m', hm, i + 1, H', (I'.unpinned (pins := [])).weak (by rw [← hw8, wipe_length]) (fun j v e => (wipe_some (by rw [← hw8] at e; exact e)).1), T.keep _ _ _ st7 fun b hb o e => (pinned b hb o e).1, fun b hb => ?_, w'⟩
        obtain ⟨o, e, _⟩ := T.obj _ _ st7 b hb
        exact (pinned b hb o e).2
      cases b with
      | false =>
        simp only [Bool.false_eq_true, if_false] at q9 ⊢
        exact fin I9 q9
      | true =>
        simp only [if_true] at q9 ⊢
        refine wpAny_mono ((he _ blk).run _ s9 σ8 H9 _ I9 q9) (fun z s10 ⟨yv, H10, I10, r10, acc, hD10, hz10, nx⟩ => ?_) fun _ _ z => z
        exact app_ok (X := blkX X s3 H3 scope ce fp _) I10 hD10 hz10 r10 fun s11 I11 => fin I11 nx
  exact codeAny_compStart_list loop (T.self X.A 0 _ _ _ st4 loop)
/-- a loop of a comprehension whose element may raise -/
def LcOnX (X : Cx) (W : WX) (scope : Scope) (tg : Expr) (ifs : List Expr) (elt : Expr) (vs : List Nat) (Qd : Addr → Hp → Prop) (J : It) (σ : L2.St) (H : Hp) : Prop := ∀ D, H D = none →
  ∃ (n : Nat) (G : Hp → Prop) (Y : Nat → Hp → V → Hp → Prop), Walk J n G Y ∧ ∃ Pv : Nat → Hp → Prop, Pv 0 (upd H D (.lst [])) ∧ (∀ i H, i ≤ n → Pv i H → G H) ∧
    (∀ i x H H', i < n → Pv i H → Y i H x H' → ∀ X', IsBlkX X X' scope W σ → gS X' tg x (wipe σ vs) H' fun σ2 H2 => wipe σ2 vs = wipe σ vs ∧ ∀ X', IsBlkX X X' scope W σ → tsS X' ifs σ2 H2 fun b H3 =>
      if b = true then ∀ X', IsBlkX X X' scope W σ → eS X' elt σ2 H3 fun y H4 => ∃ acc, H4 D = some (.lst acc) ∧ acc.length < sizeLine ∧ Pv (i + 1) (upd H4 D (.lst (acc ++ [y]))) else Pv (i + 1) H3) ∧ ∀ H, Pv n H → Qd D H
end
section
variable {X : Cx} {P : Program} {w : World} {K : PySem.W.Frag} {mg : Str → Option Value} {base : Heap} {N : List Str} {nm : List (Str × NameKind)} {j : Nat} {σ : L2.St} {H G : Hp} {Q : VK} {p pos : Pos} {elt iter tg : Expr} {ifs : List Expr} {scope : Scope} {W : WX} {C : List (Addr × HO)}
theorem CI.blkX (c : CI X P w K mg base N nm j) {X' : Cx} (h : IsBlkX X X' scope W σ) (hk : scope.kind = .function) : CI X' P w K mg base N scope.names j := by
  obtain ⟨s, H, C, cl, fp, xe, rfl, tk, ps⟩ := h
  have b := c.blk (X' := X.blk s H scope (compEnvC scope cl C X.env) fp) ⟨s, H, C, cl, fp, rfl⟩ hk
  exact ⟨b.nd, b.lo, b.ce, b.fr, b.go, b.N, b.prog, b.w, b.K, b.mg, b.base, b.kind, b.calm, b.room, ps⟩
theorem e_lcX (c : CI X P w K mg base N nm j) (tp : Top X) (tk : Takes X W) (own : List (Str × Nat)) (ok : BlkOk N (scOf nm) scope own) (hs : ∀ x, foldedSetIterable iter X.env x = pure x) (h : iS X tg iter σ H fun J H1 => LcOnX X W scope tg ifs elt (own.map (·.2)) (fun D H => Q (.ref D) H) J σ H1) : eS X (.ListComp elt [⟨tg, iter, ifs, 0⟩] scope pos) σ H Q := by
  have eN := c.N
  refine ⟨fun σ H Q => iS X tg iter σ H fun J H1 => LcOnX X W scope tg ifs elt (own.map (·.2)) (fun D H => Q (.ref D) H) J σ H1, ⟨fun pins s σ H Q I h => ?_⟩, h⟩
  obtain ⟨t, pi, h⟩ := h
  refine run_lcX (g := fun v σ2 H R => ∀ X', IsBlkX X X' scope W σ → gS X' tg v σ2 H R) (tt := fun σ2 H R => ∀ X', IsBlkX X X' scope W σ → tsS X' ifs σ2 H R) (te := fun σ2 H R => ∀ X', IsBlkX X X' scope W σ → eS X' elt σ2 H R)
    (wi := fun σ H R => ∃ R', t σ H R' ∧ ∀ J H, R' J H → R J H) tp tk c.calm (by rw [eN]; exact c.nd) ⟨fun pins s σ H R I ⟨R', h, m⟩ => thn (pi.run pins s σ H R' I h) fun v s1 q => thn q fun u s2 ⟨it, fp, tn, J, H', e, I2, T, t0, f, r⟩ => ⟨it, fp, tn, J, H', e, I2, T, t0, f, m J H' r⟩⟩ (by rw [eN]; exact c.bok ok) I
    (fun X' b => ⟨fun pins s1 σ1 H1 v u Q1 I r h => gS_is.run pins s1 σ1 H1 v u Q1 I r (h _ b)⟩) (fun X' b => ⟨fun pins s1 σ1 H1 Q1 I h => tsS_is.run pins s1 σ1 H1 Q1 I (h _ b)⟩) (fun X' b => ⟨fun pins s1 σ1 H1 Q1 I h => eS_is.run pins s1 σ1 H1 Q1 I (h _ b)⟩) hs ⟨_, h, fun J H q D hD => ?_⟩
  obtain ⟨n, G, Y, W', Pv, h0, hG, hs, hd⟩ := q D hD
  exact lc_it (g := fun v σ2 H R => ∀ X', IsBlkX X X' scope W σ → gS X' tg v σ2 H R) (tt := fun σ2 H R => ∀ X', IsBlkX X X' scope W σ → tsS X' ifs σ2 H R) (te := fun σ2 H R => ∀ X', IsBlkX X X' scope W σ → eS X' elt σ2 H R) (σ := σ) (vs := own.map (·.2)) W' Pv h0 hG hs hd
theorem e_lcX1 (c : CI X P w K mg base N nm j) (tp : Top X) (tk : Takes X W) {y : Str} {i : Nat} (ok : blkC N (scOf nm) scope [(y, i)] = true) (hs : ∀ x, foldedSetIterable iter X.env x = pure x) (h : iS X (.Name y p) iter σ H fun J H1 => LcOnX X W scope (.Name y p) ifs elt [i] (fun D H => Q (.ref D) H) J σ H1) : eS X (.ListComp elt [⟨.Name y p, iter, ifs, 0⟩] scope pos) σ H Q :=
  e_lcX c tp tk [(y, i)] (blkOk_by ok) hs h
/-- over a known list -/
theorem lrX_list {y : Str} {i : Nat} {Qd : Addr → Hp → Prop} (Inv : Nat → List V → Hp → List (Addr × HO) → Prop) (c : CI X P w K mg base N nm j) (hi : Ix N y i) (hl : locB scope.names y = true) (hk : scope.kind = .function) {a : Addr} {xs : List V} (hq : SqL K G a xs) (hn : xs.length ≤ 1000000) (O : Own G C H) (h0 : Inv 0 [] G C)
    (hs : ∀ m x acc G' C' A H', xs[m]? = some x → Inv m acc G' C' → Own G' ((A, .lst acc) :: C') H' → Same G G' → ∀ X', CI X' P w K mg base N scope.names j → Takes X' (outW W σ) → eS X' elt (σ.set i (some x)) H' fun y H4 => ∃ G4 C4, Own G4 ((A, .lst acc) :: C4) H4 ∧ Same G' G4 ∧ Inv (m + 1) (acc ++ [y]) G4 C4)
    (hd : ∀ acc G' C' A H', acc.length = xs.length → Inv xs.length acc G' C' → Own G' ((A, .lst acc) :: C') H' → Same G G' → Qd A H') : LcOnX X W scope (.Name y p) [] elt [i] Qd (Itl X.K a) σ H := by
  have eK := c.K
  subst eK
  intro A hA
  refine ⟨xs.length, _, _, walk_list (xs := xs), fun m H => ∃ acc G' C', acc.length = m ∧ Inv m acc G' C' ∧ Own G' ((A, .lst acc) :: C') H ∧ Same G G', ⟨[], G, C, rfl, h0, O.cell hA, same_rfl⟩, ?_, ?_, ?_⟩
  · rintro m H' hm ⟨acc, G', C', _, _, O', s⟩
    exact sql_up O' (s.seq hq)
  · rintro m x H1 H2 hm ⟨acc, G', C', hl2, iv, O', s⟩ ⟨e, hx⟩ X' hb
    subst e
    refine g_tgt (c.blkX hb hk) hi hl ?_
    have e1 : (wipe σ [i]).set i (some x) = σ.set i (some x) := by show (σ.set i none).set i (some x) = _; rw [List.set_set]
    rw [e1]
    refine ⟨by show (σ.set i (some x)).set i none = σ.set i none; rw [List.set_set], fun X' hb => ?_⟩
    refine ts_nil ?_
    rw [if_pos rfl]
    intro X2 hb2
    refine eS_mono (hs m x acc G' C' A H2 hx iv O' s X2 (c.blkX hb2 hk) (by obtain ⟨_, _, _, _, _, _, rfl, tk, _⟩ := hb2; exact tk)) fun y H4 ⟨G4, C4, O4, s4, iv4⟩ => ?_
    exact ⟨acc, O4.at, sz_lt (by omega), acc ++ [y], G4, C4, by simp [hl2], iv4, O4.write, same_tr s s4⟩
  · rintro H' ⟨acc, G', C', hl2, iv, O', s⟩
    exact hd _ _ _ _ _ hl2 iv O' s
/-- into a def that may raise, out of a comprehension, too -/
theorem intoXT {k : Nat} {sp : Sp} {x qual : Str} {st : Stmt} {f : Addr} {fd : FuncData} {ps : List Str} (F : Fun K x qual st f fd) {nm : List (Str × NameKind)} (S : FnScope N ps (defScope st)) (hnm : (defScope st).names = nm) (len : ∀ vs H Q E, sp vs H Q E → vs.length = ps.length) (hl : ps.length ≤ N.length)
    (body : ∀ (X : Cx) (H : Hp) (vs : List V) (Q : VK) (E : XK), CI X P w K mg base N nm k → Top X → Takes X (outE E) → sp vs H Q E → bS X (defBody st) { nx := fun _ H' => Q .non H', rt := Q } (startL N vs) H) : FnOk P w K mg base (L2.CX P w) (k + 1) f fd ps sp :=
  F.okX S len fun cdv A outer s H vs Q E hr h => ⟨_, bS_is, by
    rw [startL_eq N vs (by rw [len vs H Q E h]; exact hl)]
    exact body _ H vs Q E ⟨S.nd, fun _ h => by rw [← hnm] at h; exact h, fun _ h => ⟨by rw [← hnm] at h; exact h, rfl⟩, fun _ h => .inr (by rw [← hnm] at h; exact h), fun _ h => by rw [← hnm] at h; exact h, rfl, rfl, rfl, rfl, rfl, rfl, S.kind, rfl, hr, passes_of rfl⟩ ⟨rfl, rfl, rfl⟩ (takes_of rfl rfl rfl rfl) h⟩
end
end Go

namespace Go
open PySem PySem.Spec PyProof.Rows L2
/-! an except suite of any statements -/
/-- the place where one stands in an except suite -/
structure CS (X : Cx) (P : Program) (w : World) (K : PySem.W.Frag) (mg : Str → Option Value) (base : Heap) (N : List Str) (nm : List (Str × NameKind)) : Prop where
  nd : N.Nodup
  lo : ∀ x, nm.lookup x = some NameKind.local → X.env.scope.names.lookup x = some NameKind.local
  go : ∀ x, nm.lookup x = some NameKind.globalImplicit → X.env.scope.names.lookup x = some NameKind.globalImplicit
  N : X.N = N
  K : X.K = K
  mg : X.mg = mg
/-- an exception at hand -/
def Pin (X : Cx) (cls : Value) (a : Addr) : Prop := ∃ oe vs, (a, oe) ∈ X.pn ∧ Zc cls none oe ∧ oe.data = .fields vs
section
variable {X : Cx} {P : Program} {w : World} {K : PySem.W.Frag} {mg : Str → Option Value} {base : Heap} {N : List Str} {nm : List (Str × NameKind)} {j : Nat} {σ : L2.St} {H : Hp} {Q : VK} {D : Ends} {p pos apos np hp : Pos} {e a : Expr} {es : List Expr} {body suite : List Stmt} {b₀ : Stmt}
theorem CS.gl (c : CS X P w K mg base N nm) {x : Str} (h : glB nm x = true) : Gl X x := by
  unfold glB at h
  simp only [Bool.and_eq_true, beq_iff_eq] at h
  exact c.go x h.1.1
theorem eS_var (c : CS X P w K mg base N nm) {x : Str} {i : Nat} {v : V} (hi : Ix N x i) (hl : nm.lookup x = some .local) (hv : visB nm x = true) (hσ : σ[i]? = some (some v)) (h : Q v H) : eS X (.Name x pos) σ H Q :=
  ⟨_, pe_var (i := i) (by rw [c.N]; exact hi.get) (.inl (c.lo _ hl)) (visB_d hv) (visB_c hv), v, hσ, h⟩
theorem eS_bltn (c : CS X P w K mg base N nm) {x : Str} {v : V} {u : Value} (hg : glB nm x = true) (hm : mg x = none) (hv : bootBuiltins x = some u) (r : RelV v u) (h : Q v H) : eS X (.Name x pos) σ H Q :=
  ⟨_, pe_bltn (c.gl hg) (by rw [c.mg]; exact hm) hv r (glB_n hg) (glB_d hg), h⟩
theorem eS_glob (c : CS X P w K mg base N nm) {x : Str} {v : V} {u : Value} (hg : glB nm x = true) (hm : mg x = some u) (r : RelV v u) (h : Q v H) : eS X (.Name x pos) σ H Q :=
  ⟨_, ⟨fun _ _ _ H _ I h => ld_glob I (c.gl hg) (by rw [c.mg]; exact hm) ⟨v, H, I, r, h⟩ (glB_d hg)⟩, h⟩
theorem eS_gref (c : CS X P w K mg base N nm) {x : Str} {a : Addr} (hg : glB nm x = true) (hm : mg x = some (.ref a)) (h : Q (.ref a) H) : eS X (.Name x pos) σ H Q := eS_glob (v := .ref a) c hg hm rfl h
theorem eS_callB (c : CS X P w K mg base N nm) {x : Str} {id : String} (hg : glB nm x = true) (hm : mg x = none) (hv : bootBuiltins x = some (.builtin id)) (he : starEach (e :: es) X.env = (false, eval e X.env) :: starEach es X.env) (hpl : (backTo pos (starEach es X.env)).any (·.1) = false)
    (h : aS X (e :: es) σ H fun vs H1 => cS X (.builtin id) vs H1 Q) : eS X (.Call (.Name x p) (e :: es) [] pos) σ H Q :=
  ⟨_, pe_callB cS_is (c.gl hg) (by rw [c.mg]; exact hm) hv aS_is (glB_n hg) (glB_d hg) he hpl, h⟩
theorem eS_meth (c : CS X P w K mg base N nm) {T id : String} {name : Str} (pa : PlainAttrs T) (slot : Slot T name id) (hty : typeOf (.builtin id) = pure (.type "method_descriptor")) (hbase : attributeBase a name X.env (eval a X.env) = eval a X.env) (hline : (apos.endLine == pos.line) = true)
    (hs : starEach (e :: es) X.env = (false, eval e X.env) :: starEach es X.env) (hp : (backTo pos (starEach es X.env)).any (·.1) = false)
    (hf : ((backTo pos (starEach (e :: es) X.env)).all (fun x => !x.1) && (backToKw pos (keywordEach [] X.env)).all (fun x => x.1.isSome) && decide ((e :: es).length + ([] : List Keyword).length + (if ([] : List Keyword).isEmpty then 0 else 1) < 30)) = true)
    (h : eS X a σ H fun x H1 => tyV K T x H1 ∧ aS X (e :: es) σ H1 fun xs H2 => mS X id x xs H2 Q) : eS X (.Call (.Attribute a name apos) (e :: es) [] pos) σ H Q := by
  have h3 := c.K
  subst h3
  exact ⟨_, pe_bm pa slot hty mS_is eS_is aS_is hbase hf hline hs hp, h⟩
theorem sS_set (c : CS X P w K mg base N nm) {x : Str} {i : Nat} {pos' : Pos} (hs : swapsWith e (some (.Name x pos')) pos.line X.env = pure false) (hi : Ix N x i) (hl : nm.lookup x = some .local) (h : eS X e σ H fun v H1 => D.nx (σ.set i (some v)) H1) : sS X (.Assign [.Name x pos'] e pos) D σ H :=
  ⟨_, ps_set (i := i) (by rw [c.N]; exact c.nd) (by rw [c.N]; exact hi.get) (.inl (c.lo _ hl)) eS_is hs (.inr (c.lo _ hl)), h⟩
/-- isinstance of the exception at hand -/
theorem cS_is1 (c : CS X P w K mg base N nm) {a D0 : Addr} {v : V} {cv : Value} {b : Bool} (h1 : Pin X (.ref D0) a) (h2 : ExcC K D0) (h3 : ClsV v cv) (h4 : PySem.W.kitOne K (.ref D0) cv = some b) (h : Q (.bl b) H) : cS X (.builtin "isinstance") [.ref a, v] H Q := by
  have eK := c.K
  subst eK
  refine ⟨fun vs H Q => ∃ (a D0 : Addr) (v : V) (cv : Value) (b : Bool), vs = [.ref a, v] ∧ Pin X (.ref D0) a ∧ ExcC X.K D0 ∧ ClsV v cv ∧ PySem.W.kitOne X.K (.ref D0) cv = some b ∧ Q (.bl b) H, ?_, a, D0, v, cv, b, rfl, h1, h2, h3, h4, h⟩
  intro pins s σ H xs us Q I r h
  obtain ⟨a, D0, v, cv, b, rfl, ⟨oe, vs, hm, hz, hd⟩, C, hv, hk, q⟩ := h
  obtain ⟨u1, u2, rfl, r1, r2⟩ := vals2 r
  have e2 := hv.eq r2
  subst e2
  cases (show u1 = Value.ref a from r1)
  have hget := (I.pin (a, oe) (List.mem_append_left _ hm)).1
  have J : PySem.W.InstAt s.heap a oe D0 none := by
    obtain ⟨oc, od, oda, osl⟩ := oe
    obtain ⟨h1, h2⟩ := hz
    dsimp only at h1 h2 hd
    subst h1 h2 hd
    exact ⟨hget, rfl, rfl, trivial⟩
  exact PySem.W.kia_one (PySem.W.handS_kitx_exc C.hg C.hk C.hs C.hd C.ha C.hn C.ht C.hm) I.kIn J hk (fun z => nomatch z) fun tk => ⟨.bl b, H, I.tok tk, rfl, q⟩
/-- .. by a tuple of classes -/
theorem cS_isT (c : CS X P w K mg base N nm) {a D0 tp : Addr} {cs : List V} {ws : List Value} {b : Bool} (h1 : Pin X (.ref D0) a) (h2 : ExcC K D0) (ht : H tp = some (.tup cs)) (h3 : Paired ClsV cs ws) (h4 : PySem.W.kitAny K (.ref D0) ws = some b) (h : Q (.bl b) H) : cS X (.builtin "isinstance") [.ref a, .ref tp] H Q := by
  have eK := c.K
  subst eK
  refine ⟨fun vs H Q => ∃ (a D0 tp : Addr) (cs : List V) (ws : List Value) (b : Bool), vs = [.ref a, .ref tp] ∧ Pin X (.ref D0) a ∧ ExcC X.K D0 ∧ H tp = some (.tup cs) ∧ Paired ClsV cs ws ∧ PySem.W.kitAny X.K (.ref D0) ws = some b ∧ Q (.bl b) H, ?_, a, D0, tp, cs, ws, b, rfl, h1, h2, ht, h3, h4, h⟩
  intro pins s σ H xs us Q I r h
  obtain ⟨a, D0, tp, cs, ws, b, rfl, ⟨oe, vs, hm, hz, hd⟩, C, ht, hp, hk, q⟩ := h
  obtain ⟨u1, u2, rfl, r1, r2⟩ := vals2 r
  cases (show u1 = Value.ref a from r1)
  cases (show u2 = Value.ref tp from r2)
  have hget := (I.pin (a, oe) (List.mem_append_left _ hm)).1
  have J : PySem.W.InstAt s.heap a oe D0 none := by
    obtain ⟨oc, od, oda, osl⟩ := oe
    obtain ⟨h1, h2⟩ := hz
    dsimp only at h1 h2 hd
    subst h1 h2 hd
    exact ⟨hget, rfl, rfl, trivial⟩
  obtain ⟨_, its, rv, o, h1, h2, n, h3⟩ := (show ObjOk X.prog X.w H s.heap tp (.tup cs) from I.hok tp _ ht)
  have e3 := ClsV.all hp rv
  subst e3
  obtain ⟨oc, od, dt, sl⟩ := o
  simp only at h2 h3
  subst h2 h3
  exact PySem.W.kia_tup (PySem.W.handS_kitx_exc C.hg C.hk C.hs C.hd C.ha C.hn C.ht C.hm) I.kIn J h1 hk (fun z => nomatch z) fun tk => ⟨.bl b, H, I.tok tk, rfl, q⟩
/-- what a try wishes whose one clause is 'except W as n: suite', the slot i of n -/
def wSui (K : PySem.W.Frag) (P : Program) (w : World) (mg : Str → Option Value) (base : Heap) (N : List Str) (nm : List (Str × NameKind)) (cv : Value) (i : Nat) (suite : List Stmt) (D : Ends) : WX := fun cls d σ H => d = none ∧ PySem.W.exmOne K cls cv = some true ∧
  ∀ a, H a = none → ∀ Xs, CS Xs P w K mg base N nm → Pin Xs cls a → bS Xs suite { nx := fun σ' H' => D.nx (σ'.set i none) H', rt := D.rt, bk := fun σ' H' => D.bk (σ'.set i none) H', ct := fun σ' H' => D.ct (σ'.set i none) H' } (σ.set i (some (.ref a))) H
theorem s_tryS (c : CI X P w K mg base N nm j) (tp : Top X) {wn n : Str} {cv : Value} {i : Nat} (hi : Ix N n i) (hn : nm.lookup n = some .local) (hW : glB nm wn = true) (hm : mg wn = some cv)
    (h : ∀ X', CI X' P w K mg base N nm j → Takes X' (wSui K P w mg base N nm cv i (b₀ :: suite) D) → bS X' body D σ H) :
    sS X (.Try body [.ExceptHandler (some (.Name wn np)) (some n) (b₀ :: suite) hp] [] [] pos) D σ H := by
  have h1 := c.K
  subst h1
  refine ⟨_, ps_try_as (i := i) (c := cv) (Wout := fun _ _ _ _ => False) (tb := fun W D σ H => ∀ pn xe, Takes (X.tr pn xe) W → PassesOwn (model X.prog X.w) X.A X.env xe → bS (X.tr pn xe) body D σ H)
    (ts := fun a cls d D σ H => d = none ∧ ∀ Xs, CS Xs P w X.K mg base N nm → Pin Xs cls a → bS Xs (b₀ :: suite) D σ H)
    tp.hs tp.hf (by rw [c.N]; exact c.nd) (by rw [c.N]; exact hi.get) (c.lo _ hn) ⟨c.gl hW, glB_d hW, .inl (by rw [c.mg]; exact hm)⟩ takes0
    (fun W pn xe tk ps => ⟨fun pins s σ H D I h => bS_is.run pins s σ H D I (h pn xe tk ps)⟩)
    (fun a oe cls d pn hz hd => ⟨fun pins s σ H D I h => bS_is.run pins s σ H D I (h.2 _ ⟨c.nd, c.lo, c.go, c.N, rfl, c.mg⟩ (by
      obtain ⟨vs, hd⟩ := hd
      obtain ⟨rfl, h⟩ := h
      exact ⟨oe, vs, List.mem_cons_self, hz, hd⟩))⟩), fun pn xe tk ps => h _ (c.tr ps) (tk.imp fun cls d σ H ⟨hd, e, q⟩ => ⟨true, e, fun _ a na => ⟨hd, q a na⟩, fun z => by cases z⟩)⟩
end
end Go

namespace Go
open PySem PySem.Spec PyProof.Rows L2
/-! a sign struck out of a text, behind a written text; all of truths -/
theorem strike (c : Nat) (z : List Nat) : Txt.replace (S z) (S [c]) (S []) = S (z.filter (· != c)) := by
  have h := replace_strikes (S z) c
  have : ∀ x : Str, x = S x.cps.toList := fun x => by simp [S]
  rw [this (Txt.replace (S z) (S [c]) (S [])), show S [c] = ⟨#[c]⟩ from rfl, show S [] = ⟨#[]⟩ from rfl, h]
  simp [S]
section
variable {X : Cx} {P : Program} {w : World} {K : PySem.W.Frag} {mg : Str → Option Value} {base : Heap} {N : List Str} {nm : List (Str × NameKind)} {j : Nat} {σ : L2.St} {H : Hp} {Q : VK} {o : Expr} {pos apos p0 c0 c1 : Pos} {j0 j1 j2 : Nat} {y0 y z : Str}
theorem a_strike {c : Nat} {R : List V → Hp → Prop} (hy : y = S [c]) (hz : z = S []) (hst : starEach [.Constant (.str y) j1 c0, .Constant (.str z) j2 c1] X.env = [(false, eval (.Constant (.str y) j1 c0) X.env), (false, eval (.Constant (.str z) j2 c1) X.env)])
    (hbase : attributeBase o "replace" X.env (eval o X.env) = eval o X.env) (hline : (apos.endLine == pos.line) = true)
    (hs0 : starEach [.Constant (.str y0) j0 p0, .Call (.Attribute o "replace" apos) [.Constant (.str y) j1 c0, .Constant (.str z) j2 c1] [] pos] X.env = (false, eval (.Constant (.str y0) j0 p0) X.env) :: starEach [.Call (.Attribute o "replace" apos) [.Constant (.str y) j1 c0, .Constant (.str z) j2 c1] [] pos] X.env)
    (hs1 : starEach [.Call (.Attribute o "replace" apos) [.Constant (.str y) j1 c0, .Constant (.str z) j2 c1] [] pos] X.env = (false, eval (.Call (.Attribute o "replace" apos) [.Constant (.str y) j1 c0, .Constant (.str z) j2 c1] [] pos) X.env) :: starEach [] X.env)
    (h : eS X o σ H fun v H1 => ∃ x, v = .str (S x) ∧ x.length ≤ 1000000 ∧ R [.str y0, .str (S (x.filter (· != c)))] H1) :
    aS X [.Constant (.str y0) j0 p0, .Call (.Attribute o "replace" apos) [.Constant (.str y) j1 c0, .Constant (.str z) j2 c1] [] pos] σ H R := by
  subst hy hz
  have pt : PAT X [.Call (.Attribute o "replace" apos) [.Constant (.str (S [c])) j1 c0, .Constant (.str (S [])) j2 c1] [] pos] _ := pat_cons (CwR.pet_replC (to := eS X o) eS_is (by show decide (S [c] = S []) = false; exact decide_eq_false (fun e => by have := congrArg (fun x => x.cps.size) e; simp [S] at this)) hst hbase hline) pat_nil hs1
  refine ⟨fun σ H R => eS X o σ H fun v H1 => ∃ x, v = .str (S x) ∧ x.length ≤ 1000000 ∧ R [.str y0, .str (S (x.filter (· != c)))] H1, ⟨fun pos pins s σ H R I h => ?_⟩, h⟩
  rw [hs0]
  show wpAny _ _ (spliced ((false, eval (.Constant (.str y0) j0 p0) X.env) :: backTo pos (starEach [.Call (.Attribute o "replace" apos) [.Constant (.str (S [c])) j1 c0, .Constant (.str (S [])) j2 c1] [] _] X.env))) _ _ s
  refine Calls.spliced_cons (Calls.Constant_str ?_)
  refine thn (pt pos pins { s with toks := s.toks + 1 } σ H (fun xs H1 => R (.str y0 :: xs) H1) (by show 1 ≤ s.toks + 1; omega) (I.tok _) (eS_mono h fun v H1 ⟨x, e, hl, r⟩ => ⟨S x, e, ?_, ?_⟩)) fun us s2 ⟨xs, H2, I2, r2, q2⟩ => ⟨.str y0 :: xs, H2, I2, .cons ⟨s.toks, rfl⟩ r2, q2⟩
  · rw [S_len, S_len]
    simp
    omega
  · rw [strike]
    exact r
theorem c_all (c : CI X P w K mg base N nm j) {p : Addr} {bs : List Bool} (hp : SqL K H p (bs.map V.bl)) (h : Q (.bl (bs.all id)) H) : cS X (.builtin "all") [.ref p] H Q := by
  have h3 := c.K
  subst h3
  exact ⟨_, cr_all c.calm, p, bs, rfl, hp, h⟩
end
end Go

local macro_rules | `(tactic| walk_at "get") => `(tactic| repeat (first | with_reducible exact Go.Get.here | with_reducible apply Go.Get.there))
local macro_rules | `(tactic| walk_at "ix") => `(tactic| repeat (first | with_reducible exact Go.Ix.here | with_reducible apply Go.Ix.there))
local macro_rules | `(tactic| walk_at "put") => `(tactic| repeat (first | with_reducible exact Go.Put.here | with_reducible apply Go.Put.there))
local macro_rules | `(tactic| walk_at "putv") => `(tactic| repeat (first | with_reducible exact Go.SetV.here | with_reducible apply Go.SetV.there))
local macro_rules | `(tactic| walk_at "bm") => `(tactic| first | exact L2.nobehind _ (by decide) (by decide) | rfl | with_unfolding_all rfl)
local macro_rules | `(tactic| walk_at "dk") => `(tactic| decide +kernel)
local macro_rules | `(tactic| walk_at "as") => `(tactic| with_reducible assumption)
local macro_rules | `(tactic| walk_at "gp") => `(tactic| ((repeat (first | (with_reducible assumption) | (refine' Go.gp_up ?s ?_; (case s => (with_reducible assumption)); (first | with_reducible show (_ : Option L2.HO) = _ | (rotate_left; with_reducible show (_ : Option L2.HO) = _) | (rotate_left; rotate_left; with_reducible show (_ : Option L2.HO) = _))) | fail)); done))
local macro_rules | `(tactic| walk_at "hp") => `(tactic| first | (refine' Go.Own.at ?s; (case s => (with_reducible assumption))) | (refine' Go.Own.at2 ?s; (case s => (with_reducible assumption))) | (refine' Go.Own.at3 ?s; (case s => (with_reducible assumption))) | (refine' Go.Own.at4 ?s; (case s => (with_reducible assumption))) | (refine' Go.Own.at5 ?s; (case s => (with_reducible assumption))) | (refine' Go.Own.at6 ?s; (case s => (with_reducible assumption))) | (refine' Go.Own.at7 ?s; (case s => (with_reducible assumption))) | (refine' Go.hp_up ?s ?h; (case s => (with_reducible assumption)); (case h => (((repeat (first | (with_reducible assumption) | (refine' Go.gp_up ?s ?_; (case s => (with_reducible assumption)); (first | with_reducible show (_ : Option L2.HO) = _ | (rotate_left; with_reducible show (_ : Option L2.HO) = _) | (rotate_left; rotate_left; with_reducible show (_ : Option L2.HO) = _))) | fail)); done)))) | (with_reducible assumption) | fail)
local macro_rules | `(tactic| walk_at "pu") => `(tactic| ((repeat (first | with_reducible exact Go.Pull.here | with_reducible apply Go.Pull.there | fail)); done))
local macro_rules | `(tactic| walk_at "pc") => `(tactic| ((repeat (first | with_reducible exact Go.Pl.refl | ((with_reducible refine' Go.Pl.cons ?p ?_); (case p => (((repeat (first | with_reducible exact Go.Pull.here | with_reducible apply Go.Pull.there | fail)); done))); (first | with_reducible show Go.Pl _ _ | (rotate_left; with_reducible show Go.Pl _ _) | (rotate_left; rotate_left; with_reducible show Go.Pl _ _))) | fail)); done))
local macro_rules | `(tactic| walk_at "pl") => `(tactic| ((with_reducible refine' Go.Own.pl ?O ?h); (case O => (with_reducible assumption)); (case h => (((repeat (first | with_reducible exact Go.Pl.refl | ((with_reducible refine' Go.Pl.cons ?p ?_); (case p => (((repeat (first | with_reducible exact Go.Pull.here | with_reducible apply Go.Pull.there | fail)); done))); (first | with_reducible show Go.Pl _ _ | (rotate_left; with_reducible show Go.Pl _ _) | (rotate_left; rotate_left; with_reducible show Go.Pl _ _))) | fail)); done)))))
local macro_rules | `(tactic| walk_at "own") => `(tactic| first | (with_reducible assumption) | ((with_reducible refine' Go.Own.f1 ?s); (case s => (with_reducible assumption))) | ((with_reducible refine' Go.Own.f2 ?s); (case s => (with_reducible assumption))) | ((with_reducible refine' Go.Own.swap2 ?s); (case s => (with_reducible assumption))) | ((with_reducible refine' Go.Own.r3 ?s); (case s => (with_reducible assumption))) | ((with_reducible refine' Go.Own.v3 ?s); (case s => (with_reducible assumption))) | ((with_reducible refine' Go.Own.f3 ?s); (case s => (with_reducible assumption))) | ((with_reducible refine' Go.Own.t1 ?s); (case s => (with_reducible assumption))) | ((with_reducible refine' Go.Own.t2 ?s); (case s => (with_reducible assumption))) | ((with_reducible refine' Go.Own.t3 ?s); (case s => (with_reducible assumption))) | ((with_reducible refine' Go.Own.f4 ?s); (case s => (with_reducible assumption))) | ((with_reducible refine' Go.Own.f5 ?s); (case s => (with_reducible assumption))) | ((with_reducible refine' Go.Own.f6 ?s); (case s => (with_reducible assumption))) | ((with_reducible refine' Go.Own.t4 ?s); (case s => (with_reducible assumption))) | ((with_reducible refine' Go.Own.t5 ?s); (case s => (with_reducible assumption))) | ((with_reducible refine' Go.Own.t6 ?s); (case s => (with_reducible assumption))) | (((with_reducible refine' Go.Own.pl ?O ?h); (case O => (with_reducible assumption)); (case h => (((repeat (first | with_reducible exact Go.Pl.refl | ((with_reducible refine' Go.Pl.cons ?p ?_); (case p => (((repeat (first | with_reducible exact Go.Pull.here | with_reducible apply Go.Pull.there | fail)); done))); (first | with_reducible show Go.Pl _ _ | (rotate_left; with_reducible show Go.Pl _ _) | (rotate_left; rotate_left; with_reducible show Go.Pl _ _))) | fail)); done))))) | fail)
local macro_rules | `(tactic| walk_at "fld") => `(tactic| ((repeat (first | with_reducible exact Go.Fld.here | ((with_reducible refine' Go.Fld.there ?_ ?n); (case n => decide +kernel); (first | with_reducible show Go.Fld _ _ _ | (rotate_left; with_reducible show Go.Fld _ _ _) | (rotate_left; rotate_left; with_reducible show Go.Fld _ _ _))) | fail)); done))
local macro_rules | `(tactic| walk_at "nofld") => `(tactic| ((repeat (first | with_reducible exact Go.NoFld.nil | ((with_reducible refine' Go.NoFld.cons ?n ?_); (case n => decide +kernel)) | fail)); done))
local macro_rules | `(tactic| walk_at "fput") => `(tactic| ((repeat (first | with_reducible exact Go.FPut.new | with_reducible exact Go.FPut.here | ((with_reducible refine' Go.FPut.there ?_ ?n); (case n => decide +kernel); (first | with_reducible show Go.FPut _ _ _ _ | (rotate_left; with_reducible show Go.FPut _ _ _ _) | (rotate_left; rotate_left; with_reducible show Go.FPut _ _ _ _))) | fail)); done))
local macro_rules | `(tactic| walk_at "gsl") => `(tactic| ((repeat (first | (with_reducible assumption) | (refine' L2.Same.seq ?s ?_; (case s => (with_reducible assumption)); (first | with_reducible show L2.SqL _ _ _ _ | (rotate_left; with_reducible show L2.SqL _ _ _ _) | (rotate_left; rotate_left; with_reducible show L2.SqL _ _ _ _))) | fail)); done))
local macro_rules | `(tactic| walk_at "gst") => `(tactic| ((repeat (first | (with_reducible assumption) | (refine' Go.same_sqt ?s ?_; (case s => (with_reducible assumption)); (first | with_reducible show L2.SqT _ _ _ _ | (rotate_left; with_reducible show L2.SqT _ _ _ _) | (rotate_left; rotate_left; with_reducible show L2.SqT _ _ _ _))) | fail)); done))
local macro_rules | `(tactic| walk_at "sql") => `(tactic| first | (with_reducible assumption) | (refine' L2.SqL.of ?h; (case h => walk_at "hp")) | (refine' Go.sql_up ?s ?h; (case s => (with_reducible assumption)); (case h => (((repeat (first | (with_reducible assumption) | (refine' L2.Same.seq ?s ?_; (case s => (with_reducible assumption)); (first | with_reducible show L2.SqL _ _ _ _ | (rotate_left; with_reducible show L2.SqL _ _ _ _) | (rotate_left; rotate_left; with_reducible show L2.SqL _ _ _ _))) | fail)); done)))) | (((repeat (first | (with_reducible assumption) | (refine' L2.Same.seq ?s ?_; (case s => (with_reducible assumption)); (first | with_reducible show L2.SqL _ _ _ _ | (rotate_left; with_reducible show L2.SqL _ _ _ _) | (rotate_left; rotate_left; with_reducible show L2.SqL _ _ _ _))) | fail)); done)) | fail)
local macro_rules | `(tactic| walk_at "sqt") => `(tactic| first | (with_reducible assumption) | (refine' L2.SqT.of ?h; (case h => walk_at "hp")) | (refine' Go.sqt_up ?s ?h; (case s => (with_reducible assumption)); (case h => (((repeat (first | (with_reducible assumption) | (refine' Go.same_sqt ?s ?_; (case s => (with_reducible assumption)); (first | with_reducible show L2.SqT _ _ _ _ | (rotate_left; with_reducible show L2.SqT _ _ _ _) | (rotate_left; rotate_left; with_reducible show L2.SqT _ _ _ _))) | fail)); done)))) | (((repeat (first | (with_reducible assumption) | (refine' Go.same_sqt ?s ?_; (case s => (with_reducible assumption)); (first | with_reducible show L2.SqT _ _ _ _ | (rotate_left; with_reducible show L2.SqT _ _ _ _) | (rotate_left; rotate_left; with_reducible show L2.SqT _ _ _ _))) | fail)); done)) | fail)
local macro_rules | `(tactic| walk_at "num") => `(tactic| first | omega | (simp only [List.length_append, List.length_cons, List.length_nil, List.length_reverse, List.length_map, List.length_replicate, List.length_take, List.length_drop] at *; omega) | fail)
local macro_rules | `(tactic| walk_at "few") => `(tactic| exact Go.sz_le (by simp only [List.length_cons, List.length_nil]; decide))
local macro_rules | `(tactic| walk_at "sm") => `(tactic| ((repeat (first | (with_reducible assumption) | exact Go.same_rfl | (refine' Go.same_tr ?_ ?s; (case s => (with_reducible assumption)); (first | with_reducible show L2.Same _ _ | (rotate_left; with_reducible show L2.Same _ _) | (rotate_left; rotate_left; with_reducible show L2.Same _ _))) | fail)); done))
local macro_rules | `(tactic| walk_at "st") => `(tactic| first | ((with_reducible refine' Go.e_put ?k1 ?_); (case k1 => (repeat (first | with_reducible exact Go.Put.here | with_reducible apply Go.Put.there)))) | ((with_reducible show Go.eS _ _ _ _ _); (first | ((with_reducible show Go.eS _ (PySem.Expr.Name _ _) _ _ _); (first | ((with_reducible refine' Go.e_name ?k1 ?vis ?k2 ?_); (case k1 => (with_reducible assumption)); (case k2 => (repeat (first | with_reducible exact Go.Get.here | with_reducible apply Go.Get.there))); (case vis => (decide +kernel))) | ((with_reducible refine' Go.e_gstr ?k1 ?k2 ?hg ?_); (case k1 => (with_reducible assumption)); (case k2 => (with_reducible assumption)); (case hg => (decide +kernel))) | ((with_reducible refine' Go.e_gint ?k1 ?k2 ?hg ?_); (case k1 => (with_reducible assumption)); (case k2 => (with_reducible assumption)); (case hg => (decide +kernel))) | ((with_reducible refine' Go.e_gref ?k1 ?k2 ?hg ?_); (case k1 => (with_reducible assumption)); (case k2 => (with_reducible assumption)); (case hg => (decide +kernel))) | ((with_reducible refine' Go.e_bltn (x := "ValueError") (u := .type "ValueError") (v := .ty "ValueError") ?k1 ?hg ?k2 ?hv ?r ?_); (case k1 => (with_reducible assumption)); (case k2 => (with_reducible assumption)); (case hg => (decide +kernel)); (case hv => (decide +kernel)); (case r => rfl)) | ((with_reducible refine' Go.e_bltn (x := "str") (u := .type "str") (v := .ty "str") ?k1 ?hg ?k2 ?hv ?r ?_); (case k1 => (with_reducible assumption)); (case k2 => (with_reducible assumption)); (case hg => (decide +kernel)); (case hv => (decide +kernel)); (case r => rfl)) | ((with_reducible refine' Go.e_bltn (x := "int") (u := .type "int") (v := .ty "int") ?k1 ?hg ?k2 ?hv ?r ?_); (case k1 => (with_reducible assumption)); (case k2 => (with_reducible assumption)); (case hg => (decide +kernel)); (case hv => (decide +kernel)); (case r => rfl)) | ((with_reducible refine' Go.e_bltn (x := "bool") (u := .type "bool") (v := .ty "bool") ?k1 ?hg ?k2 ?hv ?r ?_); (case k1 => (with_reducible assumption)); (case k2 => (with_reducible assumption)); (case hg => (decide +kernel)); (case hv => (decide +kernel)); (case r => rfl)) | ((with_reducible refine' Go.e_bltn (x := "list") (u := .type "list") (v := .ty "list") ?k1 ?hg ?k2 ?hv ?r ?_); (case k1 => (with_reducible assumption)); (case k2 => (with_reducible assumption)); (case hg => (decide +kernel)); (case hv => (decide +kernel)); (case r => rfl)) | ((with_reducible refine' Go.e_bltn (x := "tuple") (u := .type "tuple") (v := .ty "tuple") ?k1 ?hg ?k2 ?hv ?r ?_); (case k1 => (with_reducible assumption)); (case k2 => (with_reducible assumption)); (case hg => (decide +kernel)); (case hv => (decide +kernel)); (case r => rfl)) | fail)) | with_reducible refine Go.g_int ?_ | with_reducible refine Go.e_str ?_ | with_reducible refine Go.g_bin ?_ | ((with_reducible refine Go.e_cmp ?hm ?_); (case hm => (first | exact L2.nobehind _ (by decide) (by decide) | rfl | with_unfolding_all rfl))) | ((with_reducible show Go.eS _ (PySem.Expr.Call (PySem.Expr.Name _ _) _ _ _) _ _ _); (first | ((with_reducible refine' Go.e_listRg1 ?k1 ?g1 ?k2 ?g2 ?k3 ?h1 ?h2 ?_); (case k1 => (with_reducible assumption)); (case k2 => (with_reducible assumption)); (case k3 => (with_reducible assumption)); (case g1 => (decide +kernel)); (case g2 => (decide +kernel)); (case h1 => rfl); (case h2 => rfl)) | ((with_reducible refine' Go.e_listEnum ?k1 ?g1 ?k2 ?g2 ?k3 ?h1 ?h2 ?_); (case k1 => (with_reducible assumption)); (case k2 => (with_reducible assumption)); (case k3 => (with_reducible assumption)); (case g1 => (decide +kernel)); (case g2 => (decide +kernel)); (case h1 => rfl); (case h2 => rfl)) | ((with_reducible refine' Go.e_call ?k1 ?k2 ?hk ?hg ?he ?hp ?_); (case k1 => (with_reducible assumption)); (case k2 => (with_reducible assumption)); (case hk => decide); (case hg => (decide +kernel)); (case he => rfl); (case hp => rfl)) | ((with_reducible refine' Go.e_callX ?k1 ?k2 ?k3 ?hk ?hg ?he ?hp ?_); (case k1 => (with_reducible assumption)); (case k2 => (with_reducible assumption)); (case k3 => (with_reducible assumption)); (case hk => decide); (case hg => (decide +kernel)); (case he => rfl); (case hp => rfl)) | ((with_reducible refine' Go.e_callB (x := "len") (id := "len") ?k1 ?hg ?k2 ?hv ?he ?hp ?_); (case k1 => (with_reducible assumption)); (case k2 => (with_reducible assumption)); (case hg => (decide +kernel)); (case hv => (decide +kernel)); (case he => rfl); (case hp => rfl)) | ((with_reducible refine' Go.e_callB (x := "sum") (id := "sum") ?k1 ?hg ?k2 ?hv ?he ?hp ?_); (case k1 => (with_reducible assumption)); (case k2 => (with_reducible assumption)); (case hg => (decide +kernel)); (case hv => (decide +kernel)); (case he => rfl); (case hp => rfl)) | ((with_reducible refine' Go.e_callB (x := "isinstance") (id := "isinstance") ?k1 ?hg ?k2 ?hv ?he ?hp ?_); (case k1 => (with_reducible assumption)); (case k2 => (with_reducible assumption)); (case hg => (decide +kernel)); (case hv => (decide +kernel)); (case he => rfl); (case hp => rfl)) | ((with_reducible refine' Go.e_callB (x := "max") (id := "max") ?k1 ?hg ?k2 ?hv ?he ?hp ?_); (case k1 => (with_reducible assumption)); (case k2 => (with_reducible assumption)); (case hg => (decide +kernel)); (case hv => (decide +kernel)); (case he => rfl); (case hp => rfl)) | ((with_reducible refine' Go.e_callB (x := "min") (id := "min") ?k1 ?hg ?k2 ?hv ?he ?hp ?_); (case k1 => (with_reducible assumption)); (case k2 => (with_reducible assumption)); (case hg => (decide +kernel)); (case hv => (decide +kernel)); (case he => rfl); (case hp => rfl)) | ((with_reducible refine' Go.e_callB (x := "abs") (id := "abs") ?k1 ?hg ?k2 ?hv ?he ?hp ?_); (case k1 => (with_reducible assumption)); (case k2 => (with_reducible assumption)); (case hg => (decide +kernel)); (case hv => (decide +kernel)); (case he => rfl); (case hp => rfl)) | ((with_reducible refine' Go.e_callB (x := "sorted") (id := "sorted") ?k1 ?hg ?k2 ?hv ?he ?hp ?_); (case k1 => (with_reducible assumption)); (case k2 => (with_reducible assumption)); (case hg => (decide +kernel)); (case hv => (decide +kernel)); (case he => rfl); (case hp => rfl)) | ((with_reducible refine' Go.e_callB (x := "repr") (id := "repr") ?k1 ?hg ?k2 ?hv ?he ?hp ?_); (case k1 => (with_reducible assumption)); (case k2 => (with_reducible assumption)); (case hg => (decide +kernel)); (case hv => (decide +kernel)); (case he => rfl); (case hp => rfl)) | ((with_reducible refine' Go.e_callB (x := "all") (id := "all") ?k1 ?hg ?k2 ?hv ?he ?hp ?_); (case k1 => (with_reducible assumption)); (case k2 => (with_reducible assumption)); (case hg => (decide +kernel)); (case hv => (decide +kernel)); (case he => rfl); (case hp => rfl)) | ((with_reducible refine' Go.e_callTy (x := "int") (T := "int") ?k1 ?hg ?k2 ?hv ?he ?hp ?_); (case k1 => (with_reducible assumption)); (case k2 => (with_reducible assumption)); (case hg => (decide +kernel)); (case hv => (decide +kernel)); (case he => rfl); (case hp => rfl)) | ((with_reducible refine' Go.e_callTy (x := "str") (T := "str") ?k1 ?hg ?k2 ?hv ?he ?hp ?_); (case k1 => (with_reducible assumption)); (case k2 => (with_reducible assumption)); (case hg => (decide +kernel)); (case hv => (decide +kernel)); (case he => rfl); (case hp => rfl)) | ((with_reducible refine' Go.e_callTy (x := "list") (T := "list") ?k1 ?hg ?k2 ?hv ?he ?hp ?_); (case k1 => (with_reducible assumption)); (case k2 => (with_reducible assumption)); (case hg => (decide +kernel)); (case hv => (decide +kernel)); (case he => rfl); (case hp => rfl)) | ((with_reducible refine' Go.e_callTy (x := "tuple") (T := "tuple") ?k1 ?hg ?k2 ?hv ?he ?hp ?_); (case k1 => (with_reducible assumption)); (case k2 => (with_reducible assumption)); (case hg => (decide +kernel)); (case hv => (decide +kernel)); (case he => rfl); (case hp => rfl)) | ((with_reducible refine' Go.e_callTy (x := "set") (T := "set") ?k1 ?hg ?k2 ?hv ?he ?hp ?_); (case k1 => (with_reducible assumption)); (case k2 => (with_reducible assumption)); (case hg => (decide +kernel)); (case hv => (decide +kernel)); (case he => rfl); (case hp => rfl)) | ((with_reducible refine' Go.e_make0 ?k1 ?k2 ?hk ?hg ?O ?_); (case k1 => (with_reducible assumption)); (case k2 => (with_reducible assumption)); (case hk => decide); (case hg => (decide +kernel)); (case O => (with_reducible assumption))) | fail)) | ((with_reducible show Go.eS _ (PySem.Expr.Call (PySem.Expr.Attribute _ _ _) _ _ _) _ _ _); (first | ((with_reducible refine' Go.e_get2 ?k1 ⟨?a1, ?a2, ?a3, ?a4⟩ ?_); (case k1 => (with_reducible assumption)); (case a1 => rfl); (case a2 => rfl); (case a3 => rfl); (case a4 => rfl)) | ((with_reducible refine' Go.e_meth (T := "list") (id := "list.append") (name := "append") ?k1 PySem.F.plainAttrs_list PySem.F.slot_list_append PySem.F.type_list_append ?a1 ?a2 ?a3 ?a4 ?a5 ?_); (case k1 => (with_reducible assumption)); (case a1 => rfl); (case a2 => rfl); (case a3 => rfl); (case a4 => rfl); (case a5 => rfl)) | ((with_reducible refine' Go.e_meth (T := "list") (id := "list.pop") (name := "pop") ?k1 PySem.F.plainAttrs_list PySem.F.slot_list_pop PySem.F.type_list_pop ?a1 ?a2 ?a3 ?a4 ?a5 ?_); (case k1 => (with_reducible assumption)); (case a1 => rfl); (case a2 => rfl); (case a3 => rfl); (case a4 => rfl); (case a5 => rfl)) | ((with_reducible refine' Go.e_meth0 (T := "list") (id := "list.pop") (name := "pop") ?k1 PySem.F.plainAttrs_list PySem.F.slot_list_pop PySem.F.type_list_pop ?a1 ?a2 ?_); (case k1 => (with_reducible assumption)); (case a1 => rfl); (case a2 => rfl)) | ((with_reducible refine' Go.e_meth0 (T := "list") (id := "list.reverse") (name := "reverse") ?k1 PySem.F.plainAttrs_list PySem.F.slot_list_reverse PySem.F.type_list_reverse ?a1 ?a2 ?_); (case k1 => (with_reducible assumption)); (case a1 => rfl); (case a2 => rfl)) | ((with_reducible refine Go.e_sm1 (id := "str.count") (name := "count") PySem.F.slot_str_count PySem.F.type_str_count ?a1 ?a2 ?a3 ?_); (case a1 => rfl); (case a2 => rfl); (case a3 => rfl)) | ((with_reducible refine Go.e_sm1 (id := "str.index") (name := "index") PySem.F.slot_str_index PySem.F.type_str_index ?a1 ?a2 ?a3 ?_); (case a1 => rfl); (case a2 => rfl); (case a3 => rfl)) | ((with_reducible refine Go.e_sm1 (id := "str.join") (name := "join") PySem.F.slot_str_join PySem.F.type_str_join ?a1 ?a2 ?a3 ?_); (case a1 => rfl); (case a2 => rfl); (case a3 => rfl)) | ((with_reducible refine' Go.e_mthX ?k1 ?k2 ?k3 ?k4 ?hk ?h1 ?h2 ?h3 ?_); (case k1 => (with_reducible assumption)); (case k2 => (with_reducible assumption)); (case k3 => (with_reducible assumption)); (case k4 => (with_reducible assumption)); (case hk => decide); (case h1 => rfl); (case h2 => rfl); (case h3 => rfl)) | ((with_reducible refine' Go.e_mth ?k1 ?k2 ?k3 ?hk ?h1 ?h2 ?h3 ?_); (case k1 => (with_reducible assumption)); (case k2 => (with_reducible assumption)); (case k3 => (with_reducible assumption)); (case hk => decide); (case h1 => rfl); (case h2 => rfl); (case h3 => rfl)) | ((with_reducible refine' Go.e_mth0 ?k1 ?k2 ?k3 ?hk ?h3 ?_); (case k1 => (with_reducible assumption)); (case k2 => (with_reducible assumption)); (case k3 => (with_reducible assumption)); (case hk => decide); (case h3 => rfl)) | fail)) | ((with_reducible show Go.eS _ (PySem.Expr.Attribute _ _ _) _ _ _); (with_reducible refine' Go.e_fld ?k1 ?hb ?_); (case k1 => (with_reducible assumption)); (case hb => rfl)) | with_reducible refine Go.e_slice ?_ | ((with_reducible refine Go.e_ix ?hn ?hs ?_); (case hn => rfl); (case hs => exact fun _ _ => rfl)) | ((with_reducible refine' Go.e_lc1 ?k1 ?k2 ?k3 ?hs ?_); (case k1 => (with_reducible assumption)); (case k2 => (repeat (first | with_reducible exact Go.Ix.here | with_reducible apply Go.Ix.there))); (case k3 => (decide +kernel)); (case hs => exact fun _ => rfl)) | ((with_reducible refine' Go.e_lc2 ?k1 ?k2 ?k3 ?k4 ?hs ?_); (case k1 => (with_reducible assumption)); (case k2 => (repeat (first | with_reducible exact Go.Ix.here | with_reducible apply Go.Ix.there))); (case k3 => (repeat (first | with_reducible exact Go.Ix.here | with_reducible apply Go.Ix.there))); (case k4 => (decide +kernel)); (case hs => exact fun _ => rfl)) | with_reducible refine Go.g_lst ?_ | with_reducible refine Go.g_tup ?_ | with_reducible refine Go.e_and ?_ | with_reducible refine Go.e_or ?_ | with_reducible refine Go.e_one ?_ | with_reducible refine Go.e_not ?_ | with_reducible refine Go.e_neg ?_ | with_reducible refine Go.e_if ?_ | with_reducible refine Go.g_bool ?_ | with_reducible refine Go.g_none ?_ | ((with_reducible refine Go.e_chain ?hm ?_); (case hm => with_unfolding_all rfl)) | fail)) | ((with_reducible show Go.oS _ _ _ _ _ _); (first | with_reducible refine Go.o_add ?_ | with_reducible refine Go.o_sub ?_ | with_reducible refine Go.o_lt ?_ | with_reducible refine Go.o_eqI ?_ | with_reducible refine Go.o_eqS ?_ | with_reducible refine Go.o_neI ?_ | with_reducible refine Go.o_neS ?_ | with_reducible refine Go.o_gt ?_ | with_reducible refine Go.o_le ?_ | with_reducible refine Go.o_ge ?_ | ((with_reducible refine Go.o_mod ?hk ?_); (case hk => first | decide | omega)) | ((with_reducible refine Go.o_div ?h1 ?h2 ?_); (case h1 => first | decide | omega); (case h2 => first | decide | omega)) | ((with_reducible refine Go.o_rep0 ?hk ?_); (case hk => walk_at "num")) | ((with_reducible refine Go.o_rep1 ?hk ?_); (case hk => walk_at "num")) | ((with_reducible refine Go.o_mulR ?hk ?_); (case hk => first | decide | omega)) | ((with_reducible refine Go.o_mulL ?hk ?_); (case hk => first | decide | omega)) | ((with_reducible refine Go.o_pow ?hk ?_); (case hk => first | decide | omega)) | ((with_reducible refine Go.o_addSl ?h0 ?hl ?_); (case h0 => decide +kernel); (case hl => walk_at "num")) | ((with_reducible refine Go.o_addSr ?h0 ?hl ?_); (case h0 => decide +kernel); (case hl => walk_at "num")) | ((with_reducible refine Go.o_iaddSl ?h0 ?hl ?_); (case h0 => decide +kernel); (case hl => walk_at "num")) | ((with_reducible refine Go.o_addS ?hl ?_); (case hl => walk_at "num")) | ((with_reducible refine Go.o_iaddS ?hl ?_); (case hl => walk_at "num")) | with_reducible refine Go.o_iadd ?_ | with_reducible refine Go.o_isub ?_ | with_reducible refine Go.o_eqB ?_ | with_reducible refine Go.o_neB ?_ | with_reducible refine Go.o_ltS ?_ | with_reducible refine Go.o_leS ?_ | with_reducible refine Go.o_gtS ?_ | with_reducible refine Go.o_isN ?_ | with_reducible refine Go.o_notN ?_ | with_reducible refine Go.o_isB ?_ | with_reducible refine Go.o_notB ?_ | with_reducible refine Go.o_in1 ?_ | ((with_reducible refine' Go.o_inT ?k1 ?k2 ?k3 ?_); (case k1 => (with_reducible assumption)); (case k2 => walk_at "hp"); (case k3 => walk_at "hp")) | ((with_reducible refine' Go.o_notInT ?k1 ?k2 ?k3 ?_); (case k1 => (with_reducible assumption)); (case k2 => walk_at "hp"); (case k3 => walk_at "hp")) | with_reducible refine Go.o_notIn1 ?_ | fail)) | ((with_reducible show Go.bS _ _ _ _ _); (first | ((with_reducible refine' Go.n_put ?k1 ?_); (case k1 => (repeat (first | with_reducible exact Go.Put.here | with_reducible apply Go.Put.there)))) | with_reducible refine Go.g_st ?_ | with_reducible refine Go.g_nx ?_ | fail)) | ((with_reducible show Go.sS _ _ _ _ _); (first | ((with_reducible refine' Go.s_setLc1 ?k1 ?k2 ?hl ?hs ?ha ?k3 ?k4 ?hf ?_); (case k1 => (with_reducible assumption)); (case k2 => (repeat (first | with_reducible exact Go.Ix.here | with_reducible apply Go.Ix.there))); (case hl => rfl); (case hs => rfl); (case ha => (decide +kernel)); (case k3 => (repeat (first | with_reducible exact Go.Ix.here | with_reducible apply Go.Ix.there))); (case k4 => (decide +kernel)); (case hf => exact fun _ => rfl)) | ((with_reducible refine' Go.s_setLc2 ?k1 ?k2 ?hl ?hs ?ha ?k3 ?k5 ?k4 ?hf ?_); (case k1 => (with_reducible assumption)); (case k2 => (repeat (first | with_reducible exact Go.Ix.here | with_reducible apply Go.Ix.there))); (case hl => rfl); (case hs => rfl); (case ha => (decide +kernel)); (case k3 => (repeat (first | with_reducible exact Go.Ix.here | with_reducible apply Go.Ix.there))); (case k5 => (repeat (first | with_reducible exact Go.Ix.here | with_reducible apply Go.Ix.there))); (case k4 => (decide +kernel)); (case hf => exact fun _ => rfl)) | ((with_reducible refine' Go.s_setC ?k1 ?k2 ?hl ?_); (case k1 => (with_reducible assumption)); (case k2 => (repeat (first | with_reducible exact Go.Ix.here | with_reducible apply Go.Ix.there))); (case hl => rfl)) | ((with_reducible refine' Go.s_set ?k1 ?hs ?k2 ?hl ?_); (case k1 => (with_reducible assumption)); (case k2 => (repeat (first | with_reducible exact Go.Ix.here | with_reducible apply Go.Ix.there))); (case hs => rfl); (case hl => (decide +kernel))) | with_reducible refine Go.g_ret ?_ | with_reducible refine Go.g_if ?_ | ((with_reducible refine' Go.s_aug ?k1 ?k2 ?hl ?k3 ?_); (case k1 => (with_reducible assumption)); (case k2 => (repeat (first | with_reducible exact Go.Ix.here | with_reducible apply Go.Ix.there))); (case k3 => (repeat (first | with_reducible exact Go.Get.here | with_reducible apply Go.Get.there))); (case hl => (decide +kernel))) | with_reducible refine Go.s_doc ?_ | ((with_reducible refine Go.s_expr ?hs ?_); (case hs => rfl)) | ((with_reducible refine' Go.s_raise ?k1 ?k2 ?k3 ?hg ?_); (case k1 => (with_reducible assumption)); (case k2 => (with_reducible assumption)); (case k3 => (with_reducible assumption)); (case hg => (decide +kernel))) | with_reducible refine Go.s_break ?_ | with_reducible refine Go.s_pass ?_ | with_reducible refine Go.s_retN ?_ | ((with_reducible refine' Go.s_fld ?k1 ?hs ?_); (case k1 => (with_reducible assumption)); (case hs => rfl)) | ((with_reducible refine' Go.s_augL ?k1 ?hs ?_); (case k1 => (with_reducible assumption)); (case hs => exact fun _ _ _ => rfl)) | ((with_reducible refine Go.g_asgF ?h1 ?h2 ?h3 ?_); (case h1 => rfl); (case h2 => rfl); (case h3 => (decide +kernel))) | ((with_reducible refine Go.g_asg ?h1 ?h2 ?h3 ?_); (case h1 => rfl); (case h2 => rfl); (case h3 => rfl)) | fail)) | ((with_reducible show Go.qS _ _ _ _ _); (first | ((with_reducible refine Go.q_cmp ?hm ?_); (case hm => (first | exact L2.nobehind _ (by decide) (by decide) | rfl | with_unfolding_all rfl))) | with_reducible refine Go.q_not ?_ | with_reducible refine Go.q_w (Go.w_and ?_) | with_reducible refine Go.q_w (Go.w_or ?_) | ((with_reducible refine Go.q_chain ?hm ?_); (case hm => with_unfolding_all rfl)) | ((with_reducible refine Go.q_val ?hs ?_); (case hs => exact fun _ => rfl)) | fail)) | ((with_reducible show Go.wS _ _ _ _ _); (first | with_reducible refine Go.w_and1 ?_ | with_reducible refine Go.w_or1 ?_ | with_reducible refine Go.w_and ?_ | with_reducible refine Go.w_or ?_ | fail)) | ((with_reducible show Go.aS _ _ _ _ _); first | with_reducible refine Go.g_nil ?_ | ((with_reducible refine Go.g_cons ?he ?_); (case he => rfl))) | ((with_reducible show Go.xS _ _ _ _ _); (first | ((refine' Go.x_lst ?k1 ?k2 ?k3 ?_); (case k1 => (with_reducible assumption)); (case k2 => walk_at "sql"); (case k3 => rfl)) | ((refine' Go.x_tup ?k1 ?k2 ?k3 ?_); (case k1 => (with_reducible assumption)); (case k2 => walk_at "sqt"); (case k3 => rfl)) | fail)) | ((with_reducible show Go.cS _ _ _ _ _); (first | ((with_reducible refine Go.c_lenS ?hl ?_); (case hl => walk_at "num")) | ((refine' Go.c_lenL ?k1 ?k2 ?_); (case k1 => (with_reducible assumption)); (case k2 => walk_at "sql")) | ((refine' Go.c_lenT ?k1 ?k2 ?_); (case k1 => (with_reducible assumption)); (case k2 => walk_at "sqt")) | ((with_reducible refine' Go.c_isS ?k1 ?_); (case k1 => (with_reducible assumption))) | ((with_reducible refine' Go.c_isB ?k1 ?_); (case k1 => (with_reducible assumption))) | ((with_reducible refine' Go.c_isI ?k1 ?_); (case k1 => (with_reducible assumption))) | ((with_reducible refine' Go.c_isIB ?k1 ?_); (case k1 => (with_reducible assumption))) | ((with_reducible refine' Go.c_isE ?k1 ?k2 ?k3 ?k4 ?k5 ?_); (case k1 => (with_reducible assumption)); (case k2 => walk_at "hp"); (case k3 => (with_reducible assumption)); (case k4 => first | exact L2.ClsV.ty _ | exact L2.ClsV.own _); (case k5 => (with_reducible assumption))) | with_reducible refine Go.c_intI ?_ | with_reducible refine Go.c_int0 ?_ | with_reducible refine Go.c_int1 ?_ | with_reducible refine Go.c_str0 ?_ | with_reducible refine Go.c_str1 ?_ | ((refine' Go.c_sum ?k1 ?k2 ?_); (case k1 => (with_reducible assumption)); (case k2 => walk_at "sql")) | with_reducible refine Go.c_intB ?_ | ((with_reducible refine' Go.c_max2 ?k1 ?_); (case k1 => (with_reducible assumption))) | ((with_reducible refine' Go.c_min2 ?k1 ?_); (case k1 => (with_reducible assumption))) | fail)) | ((with_reducible show Go.poS _ _ _ _ _); first | with_reducible refine Go.po_no ?_ | with_reducible refine Go.po_so ?_) | ((with_reducible show Go.gS _ _ _ _ _ _); (first | ((with_reducible refine' Go.g_tgt ?k1 ?k2 ?hl ?_); (case k1 => (with_reducible assumption)); (case k2 => (repeat (first | with_reducible exact Go.Ix.here | with_reducible apply Go.Ix.there))); (case hl => (decide +kernel))) | ((with_reducible refine Go.g_sub ?hs ?_); (case hs => exact fun _ => rfl)) | ((refine' Go.g_tgts ?k1 ?h1 ?h2 ?k2 ?_); (case k1 => (with_reducible assumption)); (case k2 => walk_at "sqt"); (case h1 => rfl); (case h2 => rfl)) | ((refine' Go.g_tgtsL ?k1 ?h1 ?h2 ?k2 ?_); (case k1 => (with_reducible assumption)); (case k2 => walk_at "sql"); (case h1 => rfl); (case h2 => rfl)) | fail)) | ((with_reducible show Go.gsS _ _ _ _ _ _); (first | ((with_reducible refine' Go.gs_put ?k1 ?_); (case k1 => (repeat (first | with_reducible exact Go.Put.here | with_reducible apply Go.Put.there)))) | with_reducible refine Go.gs_nil ?_ | ((with_reducible refine Go.gs_cons ?hs ?_); (case hs => rfl)) | fail)) | ((with_reducible show Go.lS _ _ _ _ _ _); first | ((with_reducible refine Go.l_to ?h0 ?hz ?_); (case h0 => omega); (case hz => walk_at "num")) | ((with_reducible refine Go.l_from ?h0 ?hz ?_); (case h0 => omega); (case hz => walk_at "num")) | ((with_reducible refine Go.l_mid ?h0 ?h1 ?hz ?_); (case h0 => omega); (case h1 => omega); (case hz => walk_at "num"))) | ((with_reducible show Go.pS _ _ _ _ _ _); (first | ((refine' Go.p_cell0 ?k1 (fun _ _ => ?_)); (case k1 => (with_reducible assumption))) | ((refine' Go.p_cell1 ?k2 (fun _ _ => ?_)); (case k2 => (with_reducible assumption))) | ((refine' Go.p_cell02 ?k2 (fun _ _ => ?_)); (case k2 => (with_reducible assumption))) | ((refine' Go.p_cell12 ?k2 (fun _ _ => ?_)); (case k2 => (with_reducible assumption))) | ((refine' Go.p_dK ?k1 ?k2 ?k4 (fun _ _ => ?_)); (case k1 => (with_reducible assumption)); (case k2 => (with_reducible assumption)); (case k4 => walk_at "num")) | ((refine' Go.p_dT ?k1 ?k2 ?k3 ?k4 (fun _ _ => ?_)); (case k1 => (with_reducible assumption)); (case k2 => (with_reducible assumption)); (case k3 => walk_at "hp"); (case k4 => walk_at "num")))) | ((with_reducible show Go.uS _ _ _ _ _); with_reducible refine Go.u_neg ?_) | ((with_reducible show Go.getS _ _ _ _ _); (with_reducible refine' Go.get_K ?k1 ?_); (case k1 => walk_at "hp")) | ((with_reducible show Go.iS _ _ _ _ _ _); ((with_reducible refine' Go.i_range1 ?k1 ?hg ?k2 ?hs ?_); (case k1 => (with_reducible assumption)); (case k2 => (with_reducible assumption)); (case hg => (decide +kernel)); (case hs => rfl))) | ((with_reducible show Go.iS _ _ (PySem.Expr.Call _ [PySem.Expr.Name _ _] _ _) _ _ _); ((with_reducible refine' Go.i_enumS ?k1 ?hg ?k2 ?hs ?_); (case k1 => (with_reducible assumption)); (case k2 => (with_reducible assumption)); (case hg => (decide +kernel)); (case hs => rfl))) | ((with_reducible show Go.iS _ _ _ _ _ _); ((with_reducible refine' Go.i_range2 ?k1 ?hg ?k2 ?hs ?hs2 ?_); (case k1 => (with_reducible assumption)); (case k2 => (with_reducible assumption)); (case hg => (decide +kernel)); (case hs => rfl); (case hs2 => rfl))) | ((with_reducible show Go.iS _ _ _ _ _ _); ((with_reducible refine' Go.i_down ?k1 ?hg ?k2 ?hs ?h1 ?h2 ?h3 ?_); (case k1 => (with_reducible assumption)); (case k2 => (with_reducible assumption)); (case hg => (decide +kernel)); (case hs => rfl); (case h1 => rfl); (case h2 => rfl); (case h3 => rfl))) | (first | with_reducible refine Go.k_b ?_ | ((with_reducible refine' Go.k_isK ?k1 ?_); (case k1 => walk_at "hp")) | ((with_reducible refine' Go.k_isT ?k1 ?_); (case k1 => walk_at "hp")) | ((with_reducible refine' Go.k_ty ?k1 ?_); (case k1 => walk_at "sql")) | ((with_reducible refine' Go.k_fld ?h1 ?h2 ?h3 ?h4 ?_); (case h1 => walk_at "hp"); (case h2 => (with_reducible assumption)); (case h3 => (with_reducible assumption)); (case h4 => (((repeat (first | with_reducible exact Go.Fld.here | ((with_reducible refine' Go.Fld.there ?_ ?n); (case n => decide +kernel); (first | with_reducible show Go.Fld _ _ _ | (rotate_left; with_reducible show Go.Fld _ _ _) | (rotate_left; rotate_left; with_reducible show Go.Fld _ _ _))) | fail)); done)))) | ((with_reducible refine' Go.k_fput ?O ?h2 ?h3 ?h5 ?h4 (fun H' O' => ?_)); (case O => walk_at "own"); (case h2 => (with_reducible assumption)); (case h3 => (with_reducible assumption)); (case h5 => exact of_decide_eq_true rfl); (case h4 => (((repeat (first | with_reducible exact Go.FPut.new | with_reducible exact Go.FPut.here | ((with_reducible refine' Go.FPut.there ?_ ?n); (case n => decide +kernel); (first | with_reducible show Go.FPut _ _ _ _ | (rotate_left; with_reducible show Go.FPut _ _ _ _) | (rotate_left; rotate_left; with_reducible show Go.FPut _ _ _ _))) | fail)); done)))) | ((with_reducible refine' Go.k_mth ?h1 ?h4 ?_); (case h1 => walk_at "hp"); (case h4 => (((repeat (first | with_reducible exact Go.NoFld.nil | ((with_reducible refine' Go.NoFld.cons ?n ?_); (case n => decide +kernel)) | fail)); done)))) | ((with_reducible refine Go.k_r2 ?h1 ?_); (case h1 => walk_at "num")) | ((with_reducible refine Go.k_r3 ?h1 ?_); (case h1 => walk_at "num")) | ((with_reducible refine Go.k_r ?h1 ?h2 ?_); (case h1 => walk_at "num"); (case h2 => walk_at "num")) | with_reducible refine Go.k_i ?_ | with_reducible refine Go.k_s ?_ | with_reducible refine Go.i_not ?_ | with_reducible refine L2.iteT ?_ | with_reducible refine L2.iteF ?_ | ((refine' And.intro ?k1 ?_); (case k1 => (exact Go.sz_le (by simp only [List.length_cons, List.length_nil]; decide)))) | fail) | fail)
local macro_rules | `(tactic| walk_at "go") => `(tactic| repeat walk_at "st")
local macro_rules | `(tactic| walk_at "in") => `(tactic| (dsimp only [Go.startL]; refine Go.g_st ?_; walk_at "go"))
local macro_rules | `(tactic| walk_at "ar") => `(tactic| first | (with_reducible assumption) | omega | (((repeat (first | (with_reducible assumption) | (refine' Go.gp_up ?s ?_; (case s => (with_reducible assumption)); (first | with_reducible show (_ : Option L2.HO) = _ | (rotate_left; with_reducible show (_ : Option L2.HO) = _) | (rotate_left; rotate_left; with_reducible show (_ : Option L2.HO) = _))) | fail)); done)) | (simp only [List.length_append, List.length_cons, List.length_nil, List.length_reverse, List.length_map, List.length_replicate, List.length_take, List.length_drop]; omega) | walk_at "sql" | walk_at "sqt" | walk_at "hp" | walk_at "num" | decide | fail)
local macro_rules | `(tactic| walk_at "ow") => `(tactic| first | (with_reducible assumption) | (((with_reducible refine' Go.Own.pl ?O ?h); (case O => (with_reducible assumption)); (case h => (((repeat (first | with_reducible exact Go.Pl.refl | ((with_reducible refine' Go.Pl.cons ?p ?_); (case p => (((repeat (first | with_reducible exact Go.Pull.here | with_reducible apply Go.Pull.there | fail)); done))); (first | with_reducible show Go.Pl _ _ | (rotate_left; with_reducible show Go.Pl _ _) | (rotate_left; rotate_left; with_reducible show Go.Pl _ _))) | fail)); done))))) | (simp only [List.map_append, List.map_cons, List.map_nil, List.append_nil, List.append_assoc, List.cons_append, List.nil_append]; (with_reducible assumption)) | (simp only [List.map_append, List.map_cons, List.map_nil, List.append_nil, List.append_assoc, List.cons_append, List.nil_append] at *; (with_reducible assumption)) | assumption | fail)
local macro_rules | `(tactic| walk_at "nat") => `(tactic| first | with_reducible exact Go.nat_id _ | with_reducible exact Go.nat_0 | with_reducible exact Go.nat_1 | with_reducible exact Go.nat_2 | ((with_reducible refine' Go.nat_add ?a ?b); (case a => walk_at "nat"); (case b => walk_at "nat")) | ((with_reducible refine' Go.nat_sub ?a ?b ?h); (case a => walk_at "nat"); (case b => walk_at "nat"); (case h => omega)) | ((with_reducible refine' Go.nat_any ?h); (case h => omega)) | fail)
local macro_rules | `(tactic| walk_at "dp") => `(tactic| first | exact L2.Dp.non | exact L2.Dp.bl _ | exact L2.Dp.int _ | exact L2.Dp.str _ | ((refine' L2.Dp.lst ?h ?k); (case h => walk_at "sql"); (case k => walk_at "da")) | ((refine' L2.Dp.tup ?h ?k); (case h => walk_at "sqt"); (case k => walk_at "da")) | (with_reducible assumption) | fail)
local macro_rules | `(tactic| walk_at "da") => `(tactic| first | exact L2.DpAll.nil | ((refine' L2.DpAll.cons ?h ?k); (case h => walk_at "dp"); (case k => walk_at "da")) | (with_reducible assumption) | fail)
local macro_rules | `(tactic| walk_at "sh") => `(tactic| first | exact Go.shal_non | exact Go.shal_bl | exact Go.shal_int | exact Go.shal_str | ((refine' Go.shal_list ?h); (case h => walk_at "sl")) | ((refine' Go.shal_tup ?h); (case h => walk_at "sl")) | (with_reducible assumption) | fail)
local macro_rules | `(tactic| walk_at "sl") => `(tactic| first | exact Go.all_nil | ((refine' Go.all_cons ?h ?k); (case h => walk_at "sh"); (case k => walk_at "sl")) | (with_reducible assumption) | fail)
local macro_rules | `(tactic| walk_at "au") => `(tactic| repeat (first | (first | ((with_reducible show Go.xS _ (L2.V.str _) _ _ _); (with_reducible refine' Go.x_strN ?hi ?hn ?hz ?_); (case hi => walk_at "nat"); (case hn => walk_at "num"); (case hz => walk_at "num")) | with_reducible refine Go.o_eqS1 ?_ | with_reducible refine Go.o_neS1 ?_ | ((with_reducible show Go.cS _ (PySem.Value.builtin "isinstance") _ _ _); (with_reducible refine' Go.c_isiT (b := true) ?c ?t ?e ?_); (case c => (with_reducible assumption)); (case t => (first | exact L2.TyOf.non | exact L2.TyOf.str _ | exact L2.TyOf.int _ | exact L2.TyOf.bl _ | ((refine' L2.TyOf.lst ?h); (case h => walk_at "hp")) | ((refine' L2.TyOf.tup ?h); (case h => walk_at "hp")) | ((refine' L2.TyOf.dK ?h); (case h => walk_at "hp")) | ((refine' L2.TyOf.dT ?h); (case h => walk_at "hp")) | fail)); (case e => rfl)) | ((with_reducible show Go.cS _ (PySem.Value.builtin "isinstance") _ _ _); (with_reducible refine' Go.c_isiT (b := false) ?c ?t ?e ?_); (case c => (with_reducible assumption)); (case t => (first | exact L2.TyOf.non | exact L2.TyOf.str _ | exact L2.TyOf.int _ | exact L2.TyOf.bl _ | ((refine' L2.TyOf.lst ?h); (case h => walk_at "hp")) | ((refine' L2.TyOf.tup ?h); (case h => walk_at "hp")) | ((refine' L2.TyOf.dK ?h); (case h => walk_at "hp")) | ((refine' L2.TyOf.dT ?h); (case h => walk_at "hp")) | fail)); (case e => rfl)) | ((with_reducible refine' Go.x_lstR ?c ?hr ?hi ?hp ?_); (case c => (with_reducible assumption)); (case hr => walk_at "sql"); (case hi => walk_at "nat"); (case hp => (with_reducible assumption))) | ((with_reducible refine' Go.o_inI ?c ?hp ?_); (case c => (with_reducible assumption)); (case hp => walk_at "sql")) | ((with_reducible refine' Go.o_notInI ?c ?hp ?_); (case c => (with_reducible assumption)); (case hp => walk_at "sql")) | ((with_reducible refine' Go.x_dK ?c ?hp ?hv ?_); (case c => (with_reducible assumption)); (case hv => (with_reducible assumption)); (case hp => walk_at "hp")) | ((with_reducible refine' Go.x_dT ?c ?hp ?hb ?hv ?_); (case c => (with_reducible assumption)); (case hv => (with_reducible assumption)); (case hp => walk_at "hp"); (case hb => walk_at "hp")) | ((with_reducible refine' Go.m_indexA ?h1 ?_); (case h1 => first | (with_reducible assumption) | omega)) | with_reducible refine Go.m_count0 ?_ | with_reducible refine Go.m_countI ?_ | with_reducible refine Go.m_count1 ?_ | ((with_reducible refine' Go.m_appendC ?O ?hl (fun H' O' => ?_)); (case O => (with_reducible assumption)); (case hl => walk_at "num")) | (first | ((with_reducible refine' Go.e_andJ ?O ?h1 (fun H' G' s' O' => ?_)); (case O => (with_reducible assumption)); (case h1 => (intro hq; (try replace hq := of_decide_eq_true hq); walk_at "au"))) | ((with_reducible refine' Go.e_orJ ?O ?h1 ?eT (fun H' G' s' O' => ?_)); (case O => (with_reducible assumption)); (case eT => rfl); (case h1 => (intro hq; (try replace hq := of_decide_eq_false hq); walk_at "au"))) | ((with_reducible refine' Go.w_andJ ?O ?h1 (fun H' G' s' O' => ?_)); (case O => (with_reducible assumption)); (case h1 => (intro hq; (try replace hq := of_decide_eq_true hq); walk_at "au"))) | ((with_reducible refine' Go.w_orJ ?O ?h1 ?eT (fun H' G' s' O' => ?_)); (case O => (with_reducible assumption)); (case eT => rfl); (case h1 => (intro hq; (try replace hq := of_decide_eq_false hq); walk_at "au"))) | fail) | (first | ((with_reducible show ∀ (p : _) (H' : _), Go.New _ p (L2.HO.tup _) H' → _); intro p H' n'; obtain ⟨G', s', e', O'⟩ := Go.Own.fix (by (with_reducible assumption)) n') | ((with_reducible show ∀ (p : _) (H' : _), Go.New _ p (L2.HO.lst _) H' → _); intro p H' n'; (with_reducible show Go.eS _ _ _ _ (fun y H => Go.xS _ _ y H _)); obtain ⟨G', s', e', O'⟩ := Go.Own.fix (by (with_reducible assumption)) n') | fail) | (((refine' ⟨rfl, _, ?o, ?s⟩); (case o => (with_reducible assumption)); (case s => walk_at "sm"))) | ((with_reducible refine' Go.i_true ?h ?_); (case h => first | with_reducible rfl | omega)) | ((with_reducible refine' Go.i_false ?h ?_); (case h => first | omega | (intro hf; cases hf; done))) | fail) | walk_at "st"))
local macro_rules | `(tactic| walk_at "ax") => `(tactic| repeat (first | (first | ((with_reducible refine' Go.i_trueD ?h ?_); (case h => (with_reducible assumption))) | ((with_reducible refine' Go.i_falseD ?h ?_); (case h => (with_reducible assumption))) | ((with_reducible refine' Go.i_trueD ?h ?_); (case h => first | with_reducible rfl | omega)) | ((with_reducible refine' Go.i_falseD ?h ?_); (case h => first | omega | (intro hf; cases hf; done))) | fail) | (first | ((with_reducible show Go.xS _ (L2.V.str _) _ _ _); (with_reducible refine' Go.x_strN ?hi ?hn ?hz ?_); (case hi => walk_at "nat"); (case hn => walk_at "num"); (case hz => walk_at "num")) | with_reducible refine Go.o_eqS1 ?_ | with_reducible refine Go.o_neS1 ?_ | ((with_reducible show Go.cS _ (PySem.Value.builtin "isinstance") _ _ _); (with_reducible refine' Go.c_isiT (b := true) ?c ?t ?e ?_); (case c => (with_reducible assumption)); (case t => (first | exact L2.TyOf.non | exact L2.TyOf.str _ | exact L2.TyOf.int _ | exact L2.TyOf.bl _ | ((refine' L2.TyOf.lst ?h); (case h => walk_at "hp")) | ((refine' L2.TyOf.tup ?h); (case h => walk_at "hp")) | ((refine' L2.TyOf.dK ?h); (case h => walk_at "hp")) | ((refine' L2.TyOf.dT ?h); (case h => walk_at "hp")) | fail)); (case e => rfl)) | ((with_reducible show Go.cS _ (PySem.Value.builtin "isinstance") _ _ _); (with_reducible refine' Go.c_isiT (b := false) ?c ?t ?e ?_); (case c => (with_reducible assumption)); (case t => (first | exact L2.TyOf.non | exact L2.TyOf.str _ | exact L2.TyOf.int _ | exact L2.TyOf.bl _ | ((refine' L2.TyOf.lst ?h); (case h => walk_at "hp")) | ((refine' L2.TyOf.tup ?h); (case h => walk_at "hp")) | ((refine' L2.TyOf.dK ?h); (case h => walk_at "hp")) | ((refine' L2.TyOf.dT ?h); (case h => walk_at "hp")) | fail)); (case e => rfl)) | ((with_reducible refine' Go.x_lstR ?c ?hr ?hi ?hp ?_); (case c => (with_reducible assumption)); (case hr => walk_at "sql"); (case hi => walk_at "nat"); (case hp => (with_reducible assumption))) | ((with_reducible refine' Go.o_inI ?c ?hp ?_); (case c => (with_reducible assumption)); (case hp => walk_at "sql")) | ((with_reducible refine' Go.o_notInI ?c ?hp ?_); (case c => (with_reducible assumption)); (case hp => walk_at "sql")) | ((with_reducible refine' Go.x_dK ?c ?hp ?hv ?_); (case c => (with_reducible assumption)); (case hv => (with_reducible assumption)); (case hp => walk_at "hp")) | ((with_reducible refine' Go.x_dT ?c ?hp ?hb ?hv ?_); (case c => (with_reducible assumption)); (case hv => (with_reducible assumption)); (case hp => walk_at "hp"); (case hb => walk_at "hp")) | ((with_reducible refine' Go.m_indexA ?h1 ?_); (case h1 => first | (with_reducible assumption) | omega)) | with_reducible refine Go.m_count0 ?_ | with_reducible refine Go.m_countI ?_ | with_reducible refine Go.m_count1 ?_ | ((with_reducible refine' Go.m_appendC ?O ?hl (fun H' O' => ?_)); (case O => (with_reducible assumption)); (case hl => walk_at "num")) | (first | ((with_reducible refine' Go.e_andJ ?O ?h1 (fun H' G' s' O' => ?_)); (case O => (with_reducible assumption)); (case h1 => (intro hq; (try replace hq := of_decide_eq_true hq); walk_at "au"))) | ((with_reducible refine' Go.e_orJ ?O ?h1 ?eT (fun H' G' s' O' => ?_)); (case O => (with_reducible assumption)); (case eT => rfl); (case h1 => (intro hq; (try replace hq := of_decide_eq_false hq); walk_at "au"))) | ((with_reducible refine' Go.w_andJ ?O ?h1 (fun H' G' s' O' => ?_)); (case O => (with_reducible assumption)); (case h1 => (intro hq; (try replace hq := of_decide_eq_true hq); walk_at "au"))) | ((with_reducible refine' Go.w_orJ ?O ?h1 ?eT (fun H' G' s' O' => ?_)); (case O => (with_reducible assumption)); (case eT => rfl); (case h1 => (intro hq; (try replace hq := of_decide_eq_false hq); walk_at "au"))) | fail) | (first | ((with_reducible show ∀ (p : _) (H' : _), Go.New _ p (L2.HO.tup _) H' → _); intro p H' n'; obtain ⟨G', s', e', O'⟩ := Go.Own.fix (by (with_reducible assumption)) n') | ((with_reducible show ∀ (p : _) (H' : _), Go.New _ p (L2.HO.lst _) H' → _); intro p H' n'; (with_reducible show Go.eS _ _ _ _ (fun y H => Go.xS _ _ y H _)); obtain ⟨G', s', e', O'⟩ := Go.Own.fix (by (with_reducible assumption)) n') | fail) | (((refine' ⟨rfl, _, ?o, ?s⟩); (case o => (with_reducible assumption)); (case s => walk_at "sm"))) | ((with_reducible refine' Go.i_true ?h ?_); (case h => first | with_reducible rfl | omega)) | ((with_reducible refine' Go.i_false ?h ?_); (case h => first | omega | (intro hf; cases hf; done))) | fail) | walk_at "st"))
local macro_rules | `(tactic| walk_at "ay") => `(tactic| repeat (first | (first | ((with_reducible refine' Go.m_appendC ?O ?hl (fun H' O' => ?_)); (case O => walk_at "own"); (case hl => walk_at "num")) | fail) | (first | ((with_reducible refine' Go.i_trueD ?h ?_); (case h => (with_reducible assumption))) | ((with_reducible refine' Go.i_falseD ?h ?_); (case h => (with_reducible assumption))) | ((with_reducible refine' Go.i_trueD ?h ?_); (case h => first | with_reducible rfl | omega)) | ((with_reducible refine' Go.i_falseD ?h ?_); (case h => first | omega | (intro hf; cases hf; done))) | fail) | (first | ((with_reducible show Go.xS _ (L2.V.str _) _ _ _); (with_reducible refine' Go.x_strN ?hi ?hn ?hz ?_); (case hi => walk_at "nat"); (case hn => walk_at "num"); (case hz => walk_at "num")) | with_reducible refine Go.o_eqS1 ?_ | with_reducible refine Go.o_neS1 ?_ | ((with_reducible show Go.cS _ (PySem.Value.builtin "isinstance") _ _ _); (with_reducible refine' Go.c_isiT (b := true) ?c ?t ?e ?_); (case c => (with_reducible assumption)); (case t => (first | exact L2.TyOf.non | exact L2.TyOf.str _ | exact L2.TyOf.int _ | exact L2.TyOf.bl _ | ((refine' L2.TyOf.lst ?h); (case h => walk_at "hp")) | ((refine' L2.TyOf.tup ?h); (case h => walk_at "hp")) | ((refine' L2.TyOf.dK ?h); (case h => walk_at "hp")) | ((refine' L2.TyOf.dT ?h); (case h => walk_at "hp")) | fail)); (case e => rfl)) | ((with_reducible show Go.cS _ (PySem.Value.builtin "isinstance") _ _ _); (with_reducible refine' Go.c_isiT (b := false) ?c ?t ?e ?_); (case c => (with_reducible assumption)); (case t => (first | exact L2.TyOf.non | exact L2.TyOf.str _ | exact L2.TyOf.int _ | exact L2.TyOf.bl _ | ((refine' L2.TyOf.lst ?h); (case h => walk_at "hp")) | ((refine' L2.TyOf.tup ?h); (case h => walk_at "hp")) | ((refine' L2.TyOf.dK ?h); (case h => walk_at "hp")) | ((refine' L2.TyOf.dT ?h); (case h => walk_at "hp")) | fail)); (case e => rfl)) | ((with_reducible refine' Go.x_lstR ?c ?hr ?hi ?hp ?_); (case c => (with_reducible assumption)); (case hr => walk_at "sql"); (case hi => walk_at "nat"); (case hp => (with_reducible assumption))) | ((with_reducible refine' Go.o_inI ?c ?hp ?_); (case c => (with_reducible assumption)); (case hp => walk_at "sql")) | ((with_reducible refine' Go.o_notInI ?c ?hp ?_); (case c => (with_reducible assumption)); (case hp => walk_at "sql")) | ((with_reducible refine' Go.x_dK ?c ?hp ?hv ?_); (case c => (with_reducible assumption)); (case hv => (with_reducible assumption)); (case hp => walk_at "hp")) | ((with_reducible refine' Go.x_dT ?c ?hp ?hb ?hv ?_); (case c => (with_reducible assumption)); (case hv => (with_reducible assumption)); (case hp => walk_at "hp"); (case hb => walk_at "hp")) | ((with_reducible refine' Go.m_indexA ?h1 ?_); (case h1 => first | (with_reducible assumption) | omega)) | with_reducible refine Go.m_count0 ?_ | with_reducible refine Go.m_countI ?_ | with_reducible refine Go.m_count1 ?_ | ((with_reducible refine' Go.m_appendC ?O ?hl (fun H' O' => ?_)); (case O => (with_reducible assumption)); (case hl => walk_at "num")) | (first | ((with_reducible refine' Go.e_andJ ?O ?h1 (fun H' G' s' O' => ?_)); (case O => (with_reducible assumption)); (case h1 => (intro hq; (try replace hq := of_decide_eq_true hq); walk_at "au"))) | ((with_reducible refine' Go.e_orJ ?O ?h1 ?eT (fun H' G' s' O' => ?_)); (case O => (with_reducible assumption)); (case eT => rfl); (case h1 => (intro hq; (try replace hq := of_decide_eq_false hq); walk_at "au"))) | ((with_reducible refine' Go.w_andJ ?O ?h1 (fun H' G' s' O' => ?_)); (case O => (with_reducible assumption)); (case h1 => (intro hq; (try replace hq := of_decide_eq_true hq); walk_at "au"))) | ((with_reducible refine' Go.w_orJ ?O ?h1 ?eT (fun H' G' s' O' => ?_)); (case O => (with_reducible assumption)); (case eT => rfl); (case h1 => (intro hq; (try replace hq := of_decide_eq_false hq); walk_at "au"))) | fail) | (first | ((with_reducible show ∀ (p : _) (H' : _), Go.New _ p (L2.HO.tup _) H' → _); intro p H' n'; obtain ⟨G', s', e', O'⟩ := Go.Own.fix (by (with_reducible assumption)) n') | ((with_reducible show ∀ (p : _) (H' : _), Go.New _ p (L2.HO.lst _) H' → _); intro p H' n'; (with_reducible show Go.eS _ _ _ _ (fun y H => Go.xS _ _ y H _)); obtain ⟨G', s', e', O'⟩ := Go.Own.fix (by (with_reducible assumption)) n') | fail) | (((refine' ⟨rfl, _, ?o, ?s⟩); (case o => (with_reducible assumption)); (case s => walk_at "sm"))) | ((with_reducible refine' Go.i_true ?h ?_); (case h => first | with_reducible rfl | omega)) | ((with_reducible refine' Go.i_false ?h ?_); (case h => first | omega | (intro hf; cases hf; done))) | fail) | walk_at "st"))

/-! the defs of the text, by their places -/
namespace Law
open PySem PySem.Spec PyProof.Rows L2 Go
def top (i : Nat) : Stmt := PySem.Challenge.pw_wovenword_k48_texts_of_no_paper.main.body.getD i (.Pass ⟨0, 0, 0, 0⟩)
abbrev st_read_number : Stmt := top 12
def nm_read_number : List (Str × NameKind) := [("word", .local), ("figure", .local), ("len", .globalImplicit), ("MOST_FIGURES", .globalImplicit), ("NoText", .globalImplicit), ("FIGURES", .globalImplicit), ("int", .globalImplicit)]
theorem ne_read_number : (defScope st_read_number).names = nm_read_number := rfl
theorem sc_read_number : FnScope ["word", "figure"] ["word"] (defScope st_read_number) := ⟨rfl, rfl, rfl, by decide +kernel, rfl, by decide +kernel, by decide +kernel⟩
abbrev st_read_list : Stmt := top 13
def nm_read_list : List (Str × NameKind) := [("line", .local)]
theorem ne_read_list : (defScope st_read_list).names = nm_read_list := rfl
theorem sc_read_list : FnScope ["line", "word"] ["line"] (defScope st_read_list) := ⟨rfl, rfl, rfl, by decide +kernel, rfl, by decide +kernel, by decide +kernel⟩
abbrev st_read_way : Stmt := top 14
def nm_read_way : List (Str × NameKind) := [("text", .local), ("sign", .local), ("NoText", .globalImplicit)]
theorem ne_read_way : (defScope st_read_way).names = nm_read_way := rfl
theorem sc_read_way : FnScope ["text", "sign"] ["text"] (defScope st_read_way) := ⟨rfl, rfl, rfl, by decide +kernel, rfl, by decide +kernel, by decide +kernel⟩
abbrev st_read_paper : Stmt := top 15
def nm_read_paper : List (Str × NameKind) := [("text", .local), ("lines", .local), ("read_way", .globalImplicit), ("len", .globalImplicit), ("NoText", .globalImplicit)]
theorem ne_read_paper : (defScope st_read_paper).names = nm_read_paper := rfl
theorem sc_read_paper : FnScope ["text", "lines", "line"] ["text"] (defScope st_read_paper) := ⟨rfl, rfl, rfl, by decide +kernel, rfl, by decide +kernel, by decide +kernel⟩
abbrev st_law_take : Stmt := top 18
def nm_law_take : List (Str × NameKind) := [("deck", .local), ("many", .local), ("come", .local), ("number", .local)]
theorem ne_law_take : (defScope st_law_take).names = nm_law_take := rfl
theorem sc_law_take : FnScope ["deck", "many", "come", "number"] ["deck", "many"] (defScope st_law_take) := ⟨rfl, rfl, rfl, by decide +kernel, rfl, by decide +kernel, by decide +kernel⟩
abbrev st_law_deck : Stmt := top 19
def nm_law_deck : List (Str × NameKind) := [("cell", .local), ("k", .local)]
theorem ne_law_deck : (defScope st_law_deck).names = nm_law_deck := rfl
theorem sc_law_deck : FnScope ["cell", "k"] ["cell", "k"] (defScope st_law_deck) := ⟨rfl, rfl, rfl, by decide +kernel, rfl, by decide +kernel, by decide +kernel⟩
abbrev st_law_text : Stmt := top 20
def nm_law_text : List (Str × NameKind) := [("deck", .cell), ("way", .local), ("k", .local), ("text", .local), ("most", .cell), ("words", .local), ("_law_take", .globalImplicit), ("range", .globalImplicit), ("int", .globalImplicit)]
theorem ne_law_text : (defScope st_law_text).names = nm_law_text := rfl
theorem sc_law_text : FnScope ["deck", "way", "k", "text", "most", "words", "j"] ["deck"] (defScope st_law_text) := ⟨rfl, rfl, rfl, by decide +kernel, rfl, by decide +kernel, by decide +kernel⟩
abbrev st_law_bad : Stmt := top 21
def nm_law_bad : List (Str × NameKind) := [("deck", .local), ("some", .local), ("odd", .local), ("sign", .local), ("_law_take", .globalImplicit), ("len", .globalImplicit)]
theorem ne_law_bad : (defScope st_law_bad).names = nm_law_bad := rfl
theorem sc_law_bad : FnScope ["deck", "some", "odd", "sign"] ["deck"] (defScope st_law_bad) := ⟨rfl, rfl, rfl, by decide +kernel, rfl, by decide +kernel, by decide +kernel⟩
abbrev st_law_spoilt : Stmt := top 22
def nm_law_spoilt : List (Str × NameKind) := [("deck", .local), ("text", .local), ("way", .local), ("at", .local), ("sign", .local), ("parting", .local), ("words", .local), ("_law_take", .globalImplicit), ("len", .globalImplicit), ("_law_bad", .globalImplicit)]
theorem ne_law_spoilt : (defScope st_law_spoilt).names = nm_law_spoilt := rfl
theorem sc_law_spoilt : FnScope ["deck", "text", "way", "at", "sign", "parting", "words"] ["deck", "text"] (defScope st_law_spoilt) := ⟨rfl, rfl, rfl, by decide +kernel, rfl, by decide +kernel, by decide +kernel⟩
abbrev st_law_number_in : Stmt := top 23
def nm_law_number_in : List (Str × NameKind) := [("word", .local), ("len", .globalImplicit), ("all", .globalImplicit), ("int", .globalImplicit)]
theorem ne_law_number_in : (defScope st_law_number_in).names = nm_law_number_in := rfl
theorem sc_law_number_in : FnScope ["word", "figure"] ["word"] (defScope st_law_number_in) := ⟨rfl, rfl, rfl, by decide +kernel, rfl, by decide +kernel, by decide +kernel⟩
abbrev st_law_paper_in : Stmt := top 24
def nm_law_paper_in : List (Str × NameKind) := [("text", .local), ("way", .local), ("good", .local), ("lines", .local), ("lists", .local), ("line", .local), ("numbers", .local), ("len", .globalImplicit)]
theorem ne_law_paper_in : (defScope st_law_paper_in).names = nm_law_paper_in := rfl
theorem sc_law_paper_in : FnScope ["text", "way", "good", "lines", "lists", "line", "numbers", "word", "sign"] ["text"] (defScope st_law_paper_in) := ⟨rfl, rfl, rfl, by decide +kernel, rfl, by decide +kernel, by decide +kernel⟩
abbrev st_law_right : Stmt := top 25
def nm_law_right : List (Str × NameKind) := [("text", .local), ("found", .local), ("kinds", .local), ("e", .local), ("due", .local), ("read_paper", .globalImplicit), ("WeaveError", .globalImplicit), ("isinstance", .globalImplicit), ("NoText", .globalImplicit), ("ValueError", .globalImplicit), ("NoCommand", .globalImplicit), ("NoLength", .globalImplicit), ("NoLetter", .globalImplicit), ("NoPlace", .globalImplicit), ("NoSide", .globalImplicit), ("NoWay", .globalImplicit), ("_law_paper_in", .globalImplicit), ("repr", .globalImplicit)]
theorem ne_law_right : (defScope st_law_right).names = nm_law_right := rfl
theorem sc_law_right : FnScope ["text", "found", "kinds", "e", "due"] ["text"] (defScope st_law_right) := ⟨rfl, rfl, rfl, by decide +kernel, rfl, by decide +kernel, by decide +kernel⟩
abbrev st_law : Stmt := top 26
def nm_law : List (Str × NameKind) := [("script", .local), ("cell", .local), ("deck", .local), ("text", .local), ("_law_deck", .globalImplicit), ("_law_text", .globalImplicit), ("_law_right", .globalImplicit), ("_law_spoilt", .globalImplicit)]
theorem ne_law : (defScope st_law).names = nm_law := rfl
theorem sc_law : FnScope ["script", "cell", "deck", "text"] ["script"] (defScope st_law) := ⟨rfl, rfl, rfl, by decide +kernel, rfl, by decide +kernel, by decide +kernel⟩
structure Env (K : PySem.W.Frag) (mg : Str → Option Value) : Prop where
  d_read_number : Df K mg "read_number" st_read_number ["word"]
  d_read_list : Df K mg "read_list" st_read_list ["line"]
  d_read_way : Df K mg "read_way" st_read_way ["text"]
  d_read_paper : Df K mg "read_paper" st_read_paper ["text"]
  d_law_take : Df K mg "_law_take" st_law_take ["deck", "many"]
  d_law_deck : Df K mg "_law_deck" st_law_deck ["cell", "k"]
  d_law_text : Df K mg "_law_text" st_law_text ["deck"]
  d_law_bad : Df K mg "_law_bad" st_law_bad ["deck"]
  d_law_spoilt : Df K mg "_law_spoilt" st_law_spoilt ["deck", "text"]
  d_law_number_in : Df K mg "_law_number_in" st_law_number_in ["word"]
  d_law_paper_in : Df K mg "_law_paper_in" st_law_paper_in ["text"]
  d_law_right : Df K mg "_law_right" st_law_right ["text"]
  d_law : Df K mg "law" st_law ["script"]
  b_ValueError : mg "ValueError" = none
  b_all : mg "all" = none
  b_int : mg "int" = none
  b_isinstance : mg "isinstance" = none
  b_len : mg "len" = none
  b_range : mg "range" = none
  b_repr : mg "repr" = none
  b_str : mg "str" = none
  x_NoCommand : ExcK K mg "NoCommand"
  x_NoLength : ExcK K mg "NoLength"
  x_NoLetter : ExcK K mg "NoLetter"
  x_NoPlace : ExcK K mg "NoPlace"
  x_NoSide : ExcK K mg "NoSide"
  x_NoText : ExcK K mg "NoText"
  x_NoWay : ExcK K mg "NoWay"
  x_WeaveError : ExcK K mg "WeaveError"
  ss_NoText_NoText : PySem.W.subIn K (.ref (clsK K "NoText")) (.ref (clsK K "NoText")) = some true
  ss_NoText_NoCommand : PySem.W.subIn K (.ref (clsK K "NoText")) (.ref (clsK K "NoCommand")) = some false
  ss_NoText_NoLength : PySem.W.subIn K (.ref (clsK K "NoText")) (.ref (clsK K "NoLength")) = some false
  ss_NoText_NoLetter : PySem.W.subIn K (.ref (clsK K "NoText")) (.ref (clsK K "NoLetter")) = some false
  ss_NoText_NoPlace : PySem.W.subIn K (.ref (clsK K "NoText")) (.ref (clsK K "NoPlace")) = some false
  ss_NoText_NoSide : PySem.W.subIn K (.ref (clsK K "NoText")) (.ref (clsK K "NoSide")) = some false
  ss_NoText_NoWay : PySem.W.subIn K (.ref (clsK K "NoText")) (.ref (clsK K "NoWay")) = some false
  ss_NoText_WeaveError : PySem.W.subIn K (.ref (clsK K "NoText")) (.ref (clsK K "WeaveError")) = some true
  sv_NoText : PySem.W.subIn K (.ref (clsK K "NoText")) (.type "ValueError") = some true
  g_FIGURES : ∃ t, mg "FIGURES" = some (.str (S (cs "0123456789")) t)
  g_MOST_FIGURES : ∃ t, mg "MOST_FIGURES" = some (.int 2 t)
/-! an ok_ theorem by way of a discharger: what its steps leave behind is dropped at its end (memory) -/
theorem fnG_ok {P : Program} {w : World} {K : PySem.W.Frag} {mg : Str → Option Value} {base : Heap} {CX k f fd xs} {sp} (fnOkProof : FnG P w K mg base CX k f fd xs sp) : FnG P w K mg base CX k f fd xs sp = True := eq_true fnOkProof
theorem fn_ok {P : Program} {w : World} {K : PySem.W.Frag} {mg : Str → Option Value} {base : Heap} {CX k f fd xs} {sp} (fnOkProof : FnOk P w K mg base CX k f fd xs sp) : FnOk P w K mg base CX k f fd xs sp = True := eq_true fnOkProof
end Law

namespace Law
open PySem PySem.Spec PyProof.Rows L2 Go
/-! lists of lists of small numbers, as repr writes them -/
def nlD (ls : List (List Int)) : PyData := .list (ls.map fun ns => .list (ns.map PyData.int))
theorem dp_ints2 {K : PySem.W.Frag} {H : Hp} : ∀ ns : List Int, DpAll K H (ns.map V.int) (ns.map PyData.int)
  | [] => .nil
  | _ :: ns => .cons (.int _) (dp_ints2 ns)
theorem nl_dp {K : PySem.W.Frag} {H : Hp} {l : Addr} {ps : List Addr} {ls : List (List Int)} (L : LL H l ps ls) : Dp K H (.ref l) (nlD ls) := by
  refine .lst (.of L.lst) ?_
  have : ∀ (ps : List Addr) (ls : List (List Int)), ps.length = ls.length → (∀ (i : Nat) (p : Addr) (ns : List Int), ps[i]? = some p → ls[i]? = some ns → H p = some (.lst (ns.map V.int))) → DpAll K H (ps.map V.ref) (ls.map fun ns => PyData.list (ns.map PyData.int)) := by
    intro ps
    induction ps with
    | nil => intro ls h _; obtain rfl : ls = [] := List.length_eq_zero_iff.mp h.symm; exact .nil
    | cons p ps ih =>
      intro ls h he
      match ls, h, he with
      | ns :: ls, h, he => exact .cons (.lst (.of (he 0 p ns rfl rfl)) (dp_ints2 ns)) (ih ls (by simpa using h) fun i q ms h1 h2 => he (i + 1) q ms (by simpa using h1) (by simpa using h2))
  exact this ps ls L.len L.it
theorem small_show : ∀ n : Nat, n < 200 → (PyData.shown (.int (n : Nat))).length ≤ 8 := by decide +kernel
theorem small_log : ∀ n : Nat, n < 200 → n.log2 < 1920 := by decide +kernel
def Sm2 (ns : List Int) : Prop := ∀ n ∈ ns, 0 ≤ n ∧ n < 200
theorem sm_one {ns : List Int} (h : Sm2 ns) : PyData.showableAll (ns.map PyData.int) = true ∧ PyData.hasDictAll (ns.map PyData.int) = false ∧ PyData.depthAll (ns.map PyData.int) = 0 ∧ PyData.leavesShortAll 8 (ns.map PyData.int) = true ∧ PyData.bulkAll (ns.map PyData.int) = ns.length := by
  induction ns with
  | nil => exact ⟨rfl, rfl, rfl, rfl, rfl⟩
  | cons n ns ih =>
    obtain ⟨a, b, c, d, e⟩ := ih fun x hx => h x (List.mem_cons_of_mem _ hx)
    obtain ⟨m, rfl⟩ := Int.eq_ofNat_of_zero_le (h n List.mem_cons_self).1
    have hm : m < 200 := by have := (h _ List.mem_cons_self).2; omega
    refine ⟨?_, ?_, ?_, ?_, ?_⟩
    · rw [List.map_cons, PyData.showableAll, a, PyData.showable, Bool.and_true]
      exact decide_eq_true (small_log m hm)
    · rw [List.map_cons, PyData.hasDictAll, b]; rfl
    · rw [List.map_cons, PyData.depthAll, c]; rfl
    · rw [List.map_cons, PyData.leavesShortAll, d, PyData.leavesShort, Bool.and_true]
      exact decide_eq_true (small_show m hm)
    · rw [List.map_cons, PyData.bulkAll, e, List.length_cons, PyData.bulk]; omega
theorem nl_rpr {ls : List (List Int)} (h : ∀ ns ∈ ls, ns.length ≤ 1000 ∧ Sm2 ns) (hl : ls.length ≤ 1000) : Rpr 2 (nlD ls) := by
  have : ∀ ls : List (List Int), (∀ ns ∈ ls, ns.length ≤ 1000 ∧ Sm2 ns) → PyData.showableAll (ls.map fun ns => PyData.list (ns.map PyData.int)) = true ∧ PyData.hasDictAll (ls.map fun ns => PyData.list (ns.map PyData.int)) = false ∧ PyData.depthAll (ls.map fun ns => PyData.list (ns.map PyData.int)) ≤ 1 ∧ PyData.leavesShortAll 8 (ls.map fun ns => PyData.list (ns.map PyData.int)) = true ∧ PyData.bulkAll (ls.map fun ns => PyData.list (ns.map PyData.int)) ≤ 1001 * ls.length := by
    intro ls
    induction ls with
    | nil => intro _; exact ⟨rfl, rfl, Nat.zero_le _, rfl, Nat.le_refl _⟩
    | cons ns ls ih =>
      intro h
      obtain ⟨a, b, c, d, e⟩ := ih fun x hx => h x (List.mem_cons_of_mem _ hx)
      obtain ⟨h1, h2⟩ := h ns List.mem_cons_self
      obtain ⟨a1, b1, c1, d1, e1⟩ := sm_one h2
      refine ⟨?_, ?_, ?_, ?_, ?_⟩
      · rw [List.map_cons, PyData.showableAll, a, PyData.showable, a1]; rfl
      · rw [List.map_cons, PyData.hasDictAll, b, PyData.hasDict, b1]; rfl
      · rw [List.map_cons, PyData.depthAll, PyData.depth, c1]; omega
      · rw [List.map_cons, PyData.leavesShortAll, d, PyData.leavesShort, d1]; rfl
      · rw [List.map_cons, PyData.bulkAll, PyData.bulk, e1, List.length_cons]; omega
  obtain ⟨a, b, c, d, e⟩ := this ls h
  refine ⟨?_, ?_, ?_, ?_⟩
  · unfold nlD; rw [PyData.showable]; exact a
  · unfold nlD; rw [PyData.hasDict]; exact b
  · unfold nlD; rw [PyData.depth]; omega
  · refine PyData.shown_fits_bulk (B := 8) (by decide) (by decide) ?_ ?_
    · unfold nlD; rw [PyData.leavesShort]; exact d
    · unfold nlD; rw [PyData.bulk]; omega

end Law

namespace Law
open PySem PySem.Spec PyProof.Rows L2 Go
--# math reprd
/-! papers as texts -/
/-- a number, written -/
def numI (n : Int) : List Nat := cs (toString n)
/-- a list as a line -/
def lineI (ns : List Int) : List Nat := if ns = [] then [45] else joinL [32] (ns.map numI)
def Sm99 (ns : List Int) : Prop := ∀ n ∈ ns, 0 ≤ n ∧ n < 100
theorem num_facts : ∀ n : Nat, n < 100 → (1 ≤ (numI (n : Nat)).length ∧ (numI (n : Nat)).length ≤ 2) ∧ ((numI (n : Nat)).getD 0 0 = 48 → numI (n : Nat) = [48]) ∧ (∀ x ∈ numI (n : Nat), 48 ≤ x ∧ x ≤ 57) ∧ intText? (S (numI (n : Nat))) = some ((n : Nat) : Int) := by decide +kernel
theorem num_of {n : Int} (h : 0 ≤ n ∧ n < 100) : (1 ≤ (numI n).length ∧ (numI n).length ≤ 2) ∧ ((numI n).getD 0 0 = 48 → numI n = [48]) ∧ (∀ x ∈ numI n, 48 ≤ x ∧ x ≤ 57) ∧ intText? (S (numI n)) = some n := by
  obtain ⟨k, rfl⟩ := Int.eq_ofNat_of_zero_le h.1
  exact num_facts k (by omega)
theorem joinL_len (c : Nat) : ∀ ls : List (List Nat), (joinL [c] ls).length ≤ (ls.map (·.length)).sum + ls.length
  | [] => by simp [joinL]
  | [x] => by simp [joinL]
  | x :: y :: r => by
    have h := joinL_len c (y :: r)
    have e1 : (joinL [c] (x :: y :: r)).length = x.length + 1 + (joinL [c] (y :: r)).length := by rw [joinL, List.length_append, List.length_append]; rfl
    have e2 : ((x :: y :: r).map (·.length)).sum = x.length + ((y :: r).map (·.length)).sum := rfl
    have e3 : (x :: y :: r).length = (y :: r).length + 1 := rfl
    omega
theorem joinL_in {c : Nat} : ∀ {ls : List (List Nat)} {x : Nat}, x ∈ joinL [c] ls → x = c ∨ ∃ z ∈ ls, x ∈ z
  | [], x, h => by simp [joinL] at h
  | [a], x, h => .inr ⟨a, List.mem_cons_self, by simpa [joinL] using h⟩
  | a :: b :: r, x, h => by
    rw [joinL] at h
    rcases List.mem_append.mp h with h | h
    · rcases List.mem_append.mp h with h | h
      · exact .inr ⟨a, List.mem_cons_self, h⟩
      · exact .inl (List.mem_singleton.mp h)
    · rcases joinL_in h with h | ⟨z, hz, hx⟩
      · exact .inl h
      · exact .inr ⟨z, List.mem_cons_of_mem _ hz, hx⟩
theorem nums_len {ns : List Int} (h : Sm99 ns) : ((ns.map numI).map (·.length)).sum ≤ 2 * ns.length := by
  induction ns with
  | nil => simp
  | cons n ns ih =>
    rw [List.map_cons, List.map_cons, List.sum_cons, List.length_cons]
    have h1 := ih fun x hx => h x (List.mem_cons_of_mem _ hx)
    have h2 := (num_of (h n List.mem_cons_self)).1
    omega
theorem line_len {ns : List Int} (h : Sm99 ns) : (lineI ns).length ≤ 3 * ns.length + 1 := by
  unfold lineI
  split
  · simp
  · have h1 := joinL_len 32 (ns.map numI)
    have h2 := nums_len h
    rw [List.length_map] at h1
    omega
theorem line_mem {ns : List Int} (h : Sm99 ns) {x : Nat} (hx : x ∈ lineI ns) : x = 45 ∨ x = 32 ∨ (48 ≤ x ∧ x ≤ 57) := by
  unfold lineI at hx
  split at hx
  · exact .inl (List.mem_singleton.mp hx)
  · rcases joinL_in hx with rfl | ⟨z, hz, hx⟩
    · exact .inr (.inl rfl)
    · obtain ⟨n, hn, rfl⟩ := List.mem_map.mp hz
      exact .inr (.inr ((num_of (h n hn)).2.2.1 x hx))
/-- a line that is not - -/
theorem line_ne {ns : List Int} (h : Sm99 ns) : lineI ns = [45] ↔ ns = [] := by
  unfold lineI
  constructor
  · intro e
    split at e
    · assumption
    · rename_i hne
      exfalso
      cases ns with
      | nil => exact hne rfl
      | cons n ns =>
        have h45 : 45 ∈ joinL [32] ((n :: ns).map numI) := by rw [e]; exact List.mem_singleton.mpr rfl
        rcases joinL_in h45 with z | ⟨z, hz, hx⟩
        · omega
        · obtain ⟨m, hm, rfl⟩ := List.mem_map.mp hz
          have := (num_of (h m hm)).2.2.1 45 hx
          omega
  · intro e; rw [if_pos e]
/-- the text of lists -/
def notT (ls : List (List Int)) : List Nat := cs "not" ++ (ls.map fun ns => 10 :: lineI ns).flatten
theorem not_join (ls : List (List Int)) : notT ls = joinL [10] (cs "not" :: ls.map lineI) := by
  unfold notT
  have : ∀ (a : List Nat) (ls : List (List Int)), a ++ (ls.map fun ns => 10 :: lineI ns).flatten = joinL [10] (a :: ls.map lineI) := by
    intro a ls
    induction ls generalizing a with
    | nil => simp [joinL]
    | cons n ls ih =>
      rw [List.map_cons, List.flatten_cons, List.map_cons, joinL, ← ih (lineI n)]
      simp
  exact this _ ls
theorem lines_free {ls : List (List Int)} (h : ∀ ns ∈ ls, Sm99 ns) : ∀ l ∈ cs "not" :: ls.map lineI, 10 ∉ l := fun l hl => by
  rcases List.mem_cons.mp hl with rfl | hl
  · decide +kernel
  · obtain ⟨ns, hns, rfl⟩ := List.mem_map.mp hl
    intro hx
    rcases line_mem (h ns hns) hx with e | e | e <;> omega
theorem words_free {ns : List Int} (h : Sm99 ns) : ∀ l ∈ ns.map numI, 32 ∉ l := fun l hl => by
  obtain ⟨n, hn, rfl⟩ := List.mem_map.mp hl
  intro hx
  have := (num_of (h n hn)).2.2.1 32 hx
  omega
theorem lines_len {ls : List (List Int)} (h : ∀ ns ∈ ls, Sm99 ns ∧ ns.length ≤ 62) : ((ls.map lineI).map (·.length)).sum ≤ 187 * ls.length := by
  induction ls with
  | nil => simp
  | cons n ls ih =>
    rw [List.map_cons, List.map_cons, List.sum_cons, List.length_cons]
    have h1 := ih fun x hx => h x (List.mem_cons_of_mem _ hx)
    have h2 := line_len (h n List.mem_cons_self).1
    have h3 := (h n List.mem_cons_self).2
    omega
theorem not_len {ls : List (List Int)} (h : ∀ ns ∈ ls, Sm99 ns ∧ ns.length ≤ 62) : (notT ls).length ≤ 200 * ls.length + 10 := by
  rw [not_join]
  have h1 := joinL_len 10 (cs "not" :: ls.map lineI)
  have h2 := lines_len h
  have e3 : (cs "not").length = 3 := by decide +kernel
  rw [List.map_cons, List.sum_cons, List.length_cons, List.length_map, e3] at h1
  omega
def wayT (w : List Nat) : List Nat := cs "way " ++ if w = [] then [45] else w
theorem lines2_len : ∀ {ls : List (List Int)}, (∀ ns ∈ ls, Sm99 ns ∧ ns.length ≤ 62) → ((ls.map fun ns => 10 :: lineI ns).map (·.length)).sum ≤ 200 * ls.length
  | [], _ => by simp
  | n :: ls, h => by
    have h1 := lines2_len fun x hx => h x (List.mem_cons_of_mem _ hx)
    have h2 := line_len (h n List.mem_cons_self).1
    have h3 := (h n List.mem_cons_self).2
    have e1 : (((n :: ls).map fun ns => 10 :: lineI ns).map (·.length)).sum = ((lineI n).length + 1) + ((ls.map fun ns => 10 :: lineI ns).map (·.length)).sum := rfl
    have e2 : (n :: ls).length = ls.length + 1 := rfl
    omega
/-- lists of lists, written: plain, short -/
theorem nl_all : ∀ {ls : List (List Int)}, (∀ ns ∈ ls, ns.length ≤ 1000 ∧ Sm2 ns) → PyData.showableAll (ls.map fun ns => PyData.list (ns.map PyData.int)) = true ∧ PyData.hasDictAll (ls.map fun ns => PyData.list (ns.map PyData.int)) = false ∧ PyData.depthAll (ls.map fun ns => PyData.list (ns.map PyData.int)) ≤ 1 ∧ PyData.leavesShortAll 8 (ls.map fun ns => PyData.list (ns.map PyData.int)) = true ∧ PyData.bulkAll (ls.map fun ns => PyData.list (ns.map PyData.int)) ≤ 1001 * ls.length
  | [], _ => ⟨rfl, rfl, Nat.zero_le _, rfl, Nat.le_refl _⟩
  | ns :: ls, h => by
    obtain ⟨a, b, c, d, e⟩ := nl_all (ls := ls) fun x hx => h x (List.mem_cons_of_mem _ hx)
    obtain ⟨h1, h2⟩ := h ns List.mem_cons_self
    obtain ⟨a1, b1, c1, d1, e1⟩ := sm_one h2
    refine ⟨?_, ?_, ?_, ?_, ?_⟩
    · rw [List.map_cons, PyData.showableAll, a, PyData.showable, a1]; rfl
    · rw [List.map_cons, PyData.hasDictAll, b, PyData.hasDict, b1]; rfl
    · rw [List.map_cons, PyData.depthAll, PyData.depth, c1]; omega
    · rw [List.map_cons, PyData.leavesShortAll, d, PyData.leavesShort, d1]; rfl
    · rw [List.map_cons, PyData.bulkAll, PyData.bulk, e1, List.length_cons]; omega
def papN (ls : List (List Int)) : PyData := .tuple [.str (S (cs "not")), nlD ls]
def papW (w : List Nat) : PyData := .tuple [.str (S (cs "way")), .str (S w)]
theorem leaf_sm {z : List Nat} (h : ∀ x ∈ z, x < 128) : PyData.leavesShort 8 (.str (S z)) = true := by
  simp only [PyData.leavesShort, List.all_eq_true, decide_eq_true_eq]
  intro c hc
  have := h c (by simpa [S] using hc)
  omega
theorem bulk_sm (z : List Nat) : PyData.bulk (.str (S z)) = z.length := by simp [PyData.bulk, S]
theorem papN_rpr {ls : List (List Int)} (h : ∀ ns ∈ ls, Sm99 ns ∧ ns.length ≤ 62) (hl : ls.length ≤ 130) : Rpr 3 (papN ls) := by
  obtain ⟨a, b, c, d, e⟩ := nl_all (ls := ls) fun ns hns => ⟨by have := (h ns hns).2; omega, fun n hn => by have := (h ns hns).1 n hn; omega⟩
  have hc : ∀ x ∈ cs "not", x < 128 := by decide +kernel
  refine ⟨?_, ?_, ?_, ?_⟩
  · unfold papN nlD; rw [PyData.showable, PyData.showableAll, PyData.showable, PyData.showableAll, PyData.showable, a]; rfl
  · unfold papN nlD; rw [PyData.hasDict, PyData.hasDictAll, PyData.hasDict, PyData.hasDictAll, PyData.hasDict, b]; rfl
  · unfold papN nlD; rw [PyData.depth, PyData.depthAll, PyData.depth, PyData.depthAll, PyData.depth, PyData.depthAll]; omega
  · refine PyData.shown_fits_bulk (B := 8) (by decide) (by decide) ?_ ?_
    · unfold papN nlD; rw [PyData.leavesShort, PyData.leavesShortAll, leaf_sm hc, PyData.leavesShortAll, PyData.leavesShort, d]; rfl
    · unfold papN nlD; rw [PyData.bulk, PyData.bulkAll, bulk_sm, PyData.bulkAll, PyData.bulk, PyData.bulkAll, show (cs "not").length = 3 by decide +kernel]; omega
theorem papW_rpr {w : List Nat} (h : ∀ x ∈ w, x = 48 ∨ x = 49) (hl : w.length ≤ 121) : Rpr 3 (papW w) := by
  have hc : ∀ x ∈ cs "way", x < 128 := by decide +kernel
  have hw : ∀ x ∈ w, x < 128 := fun x hx => by have := h x hx; omega
  refine ⟨rfl, rfl, by simp [papW, PyData.depth, PyData.depthAll], ?_⟩
  refine PyData.shown_fits_bulk (B := 8) (by decide) (by decide) ?_ ?_
  · unfold papW; rw [PyData.leavesShort, PyData.leavesShortAll, leaf_sm hc, PyData.leavesShortAll, leaf_sm hw]; rfl
  · unfold papW; rw [PyData.bulk, PyData.bulkAll, bulk_sm, PyData.bulkAll, bulk_sm, PyData.bulkAll, show (cs "way").length = 3 by decide +kernel]; omega
theorem shal_ints2 (ns : List Int) : ∀ d ∈ ns.map PyData.int, Shal 61 d := fun d hd => by
  obtain ⟨n, _, rfl⟩ := List.mem_map.mp hd
  exact shal_int
theorem nlD_shal (ls : List (List Int)) : Shal 63 (nlD ls) := shal_list fun d hd => by
  obtain ⟨ns, _, rfl⟩ := List.mem_map.mp hd
  exact shal_list (shal_ints2 ns)
theorem papN_shal (ls : List (List Int)) : Shal 64 (papN ls) := shal_tup (all_cons shal_str (all_cons (nlD_shal ls) all_nil))
theorem papW_shal (w : List Nat) : Shal 64 (papW w) := shal_tup (all_cons shal_str (all_cons shal_str all_nil))
/-- a paper that stands, its text -/
inductive PapO (G : Hp) (p : Addr) : List Nat → PyData → Prop
  | way {w : List Nat} (hp : G p = some (.tup [.str (S (cs "way")), .str (S w)])) (h1 : ∀ x ∈ w, x = 48 ∨ x = 49) (h2 : w.length ≤ 121) : PapO G p (wayT w) (papW w)
  | nots {l : Addr} {ps : List Addr} {ls : List (List Int)} (hp : G p = some (.tup [.str (S (cs "not")), .ref l])) (hL : LL G l ps ls) (h1 : ∀ ns ∈ ls, Sm99 ns ∧ ns.length ≤ 62) (h2 : ls.length ≤ 130) (h3 : ls ≠ []) : PapO G p (notT ls) (papN ls)
theorem ll_up2 {G G' : Hp} {l : Addr} {ps : List Addr} {ls : List (List Int)} (h : LL G l ps ls) (s : Same G G') : LL G' l ps ls := ⟨s _ _ h.lst, h.len, fun i p ns h1 h2 => s _ _ (h.it i p ns h1 h2)⟩
theorem ll_own2 {G H : Hp} {C : List (Addr × HO)} {l : Addr} {ps : List Addr} {ls : List (List Int)} (h : LL G l ps ls) (O : Own G C H) : LL H l ps ls := ⟨hp_up O h.lst, h.len, fun i p ns h1 h2 => hp_up O (h.it i p ns h1 h2)⟩
theorem PapO.up {G G' : Hp} {p : Addr} {z : List Nat} {d : PyData} (h : PapO G p z d) (s : Same G G') : PapO G' p z d := by
  cases h with
  | way hp h1 h2 => exact .way (s _ _ hp) h1 h2
  | nots hp hL h1 h2 h3 => exact .nots (s _ _ hp) (ll_up2 hL s) h1 h2 h3
theorem PapO.dp {K : PySem.W.Frag} {G H : Hp} {C : List (Addr × HO)} {p : Addr} {z : List Nat} {d : PyData} (h : PapO G p z d) (O : Own G C H) : Dp K H (.ref p) d ∧ Rpr 3 d ∧ Shal 64 d := by
  cases h with
  | way hp h1 h2 => exact ⟨.tup (.of (hp_up O hp)) (.cons (.str _) (.cons (.str _) .nil)), papW_rpr h1 h2, papW_shal _⟩
  | nots hp hL h1 h2 h3 => exact ⟨.tup (.of (hp_up O hp)) (.cons (.str _) (.cons (nl_dp (ll_own2 hL O)) .nil)), papN_rpr h1 h2, papN_shal _⟩

end Law

namespace Law
open PySem PySem.Spec PyProof.Rows L2 Go
--# math notes
/-! texts, read as papers -/
def splitL (c : Nat) : List Nat → List (List Nat)
  | [] => [[]]
  | x :: xs => if x = c then [] :: splitL c xs else match splitL c xs with
    | [] => [[x]]
    | h :: t => (x :: h) :: t
theorem splitL_cons (c x : Nat) (xs : List Nat) : ∃ h t, splitL c xs = h :: t ∧ splitL c (x :: xs) = if x = c then [] :: h :: t else (x :: h) :: t := by
  have ne : ∀ l : List Nat, splitL c l ≠ [] := by
    intro l
    cases l with
    | nil => simp [splitL]
    | cons x xs =>
      rw [splitL]
      split
      · simp
      · split <;> simp
  cases e : splitL c xs with
  | nil => exact absurd e (ne xs)
  | cons h t => exact ⟨h, t, rfl, by rw [splitL, e]⟩
theorem splitL_ne (c : Nat) (l : List Nat) : splitL c l ≠ [] := by
  cases l with
  | nil => simp [splitL]
  | cons x xs =>
    obtain ⟨h, t, _, e⟩ := splitL_cons c x xs
    rw [e]
    split <;> simp
theorem splitL_all (c : Nat) : ∀ l : List Nat, joinL [c] (splitL c l) = l ∧ (∀ p ∈ splitL c l, c ∉ p) ∧ ((splitL c l).map (·.length)).sum + (splitL c l).length = l.length + 1
  | [] => ⟨rfl, fun p hp => by simp [splitL] at hp; simp [hp], rfl⟩
  | x :: xs => by
    obtain ⟨a, b, d⟩ := splitL_all c xs
    obtain ⟨h, t, e1, e2⟩ := splitL_cons c x xs
    rw [e1] at a b d
    rw [e2]
    by_cases hx : x = c
    · rw [if_pos hx]
      refine ⟨?_, fun p hp => ?_, ?_⟩
      · rw [joinL, a, hx]; rfl
      · rcases List.mem_cons.mp hp with rfl | hp
        · simp
        · exact b p hp
      · simp only [List.map_cons, List.sum_cons, List.length_cons, List.length_nil] at d ⊢
        omega
    · rw [if_neg hx]
      refine ⟨?_, fun p hp => ?_, ?_⟩
      · cases t with
        | nil => rw [joinL] at a ⊢; rw [a]
        | cons y r => rw [joinL] at a ⊢; rw [List.cons_append, List.cons_append, a]
      · rcases List.mem_cons.mp hp with rfl | hp
        · intro hm
          rcases List.mem_cons.mp hm with e | hm
          · exact hx e.symm
          · exact b h List.mem_cons_self hm
        · exact b p (List.mem_cons_of_mem _ hp)
      · simp only [List.map_cons, List.sum_cons, List.length_cons] at d ⊢
        omega
theorem splitL_len {c : Nat} {l : List Nat} : (splitL c l).length ≤ l.length + 1 := by have := (splitL_all c l).2.2; omega
theorem sum_mem {ls : List (List Nat)} {p : List Nat} (h : p ∈ ls) : p.length ≤ (ls.map (·.length)).sum := by
  induction ls with
  | nil => cases h
  | cons a ls ih =>
    rw [List.map_cons, List.sum_cons]
    rcases List.mem_cons.mp h with rfl | h
    · omega
    · have := ih h; omega
theorem splitL_mem {c : Nat} {l p : List Nat} (h : p ∈ splitL c l) : p.length ≤ l.length := by
  have h1 := (splitL_all c l).2.2
  have h2 := sum_mem h
  have h3 : 0 < (splitL c l).length := List.length_pos_iff.mpr (splitL_ne c l)
  omega
/-- a word that is a number -/
def NumOk (w : List Nat) : Prop := (1 ≤ w.length ∧ w.length ≤ 2) ∧ ¬ (w.getD 0 0 = 48 ∧ w ≠ [48]) ∧ ∀ x ∈ w, 48 ≤ x ∧ x ≤ 57
instance (w : List Nat) : Decidable (NumOk w) := by unfold NumOk; infer_instance
def numR (w : List Nat) : Option Int := if NumOk w then some ((intText? (S w)).getD 0) else none
theorem dig1 : ∀ a : Nat, a < 10 → intText? (S [48 + a]) = some (a : Int) := by decide +kernel
theorem dig2 : ∀ a : Nat, a < 10 → ∀ b : Nat, b < 10 → intText? (S [48 + a, 48 + b]) = some ((10 * a + b : Nat) : Int) := by decide +kernel
theorem numR_ok {w : List Nat} (h : NumOk w) : ∃ n, numR w = some n ∧ intText? (S w) = some n ∧ 0 ≤ n ∧ n < 100 := by
  obtain ⟨⟨h1, h2⟩, h3, h4⟩ := id h
  have : ∃ n, intText? (S w) = some n ∧ 0 ≤ n ∧ n < 100 := by
    match w, h1, h2, h4 with
    | [a], _, _, h4 =>
      have ha := h4 a List.mem_cons_self
      have e := dig1 (a - 48) (by omega)
      rw [show 48 + (a - 48) = a by omega] at e
      exact ⟨_, e, by omega, by omega⟩
    | [a, b], _, _, h4 =>
      have ha := h4 a List.mem_cons_self
      have hb := h4 b (List.mem_cons_of_mem _ List.mem_cons_self)
      have e := dig2 (a - 48) (by omega) (b - 48) (by omega)
      rw [show 48 + (a - 48) = a by omega, show 48 + (b - 48) = b by omega] at e
      exact ⟨_, e, by omega, by omega⟩
  obtain ⟨n, e, b1, b2⟩ := this
  exact ⟨n, by unfold numR; rw [if_pos h, e]; rfl, e, b1, b2⟩
theorem numR_no {w : List Nat} (h : ¬ NumOk w) : numR w = none := by unfold numR; rw [if_neg h]
theorem numR_some {w : List Nat} {n : Int} (h : numR w = some n) : NumOk w ∧ intText? (S w) = some n ∧ 0 ≤ n ∧ n < 100 := by
  by_cases c : NumOk w
  · obtain ⟨m, e, r⟩ := numR_ok c
    rw [e] at h
    cases h
    exact ⟨c, r⟩
  · rw [numR_no c] at h; cases h
/-- all of a list, read -/
def manyR {α β : Type} (f : α → Option β) : List α → Option (List β)
  | [] => some []
  | x :: xs => match f x, manyR f xs with
    | some y, some ys => some (y :: ys)
    | _, _ => none
theorem manyR_of {α β : Type} {f : α → Option β} : ∀ {xs : List α} {ys : List β}, xs.map f = ys.map some → manyR f xs = some ys
  | [], [], _ => rfl
  | [], _ :: _, h => by simp at h
  | _ :: _, [], h => by simp at h
  | x :: xs, y :: ys, h => by
    rw [List.map_cons, List.map_cons, List.cons.injEq] at h
    rw [manyR, h.1, manyR_of h.2]
theorem manyR_map {α β : Type} {f : α → Option β} : ∀ {xs : List α} {ys : List β}, manyR f xs = some ys → xs.map f = ys.map some
  | [], ys, h => by rw [manyR] at h; cases h; rfl
  | x :: xs, ys, h => by
    rw [manyR] at h
    split at h
    · rename_i y ys' e1 e2
      cases h
      rw [List.map_cons, List.map_cons, e1, manyR_map e2]
    · cases h
theorem manyR_bad {α β : Type} {f : α → Option β} {xs : List α} {x : α} (hx : x ∈ xs) (h : f x = none) : manyR f xs = none := by
  cases e : manyR f xs with
  | none => rfl
  | some ys =>
    have h1 := manyR_map e
    have h2 : f x ∈ xs.map f := List.mem_map_of_mem hx
    rw [h1, h] at h2
    obtain ⟨y, _, e⟩ := List.mem_map.mp h2
    cases e
theorem manyR_len {α β : Type} {f : α → Option β} {xs : List α} {ys : List β} (h : manyR f xs = some ys) : ys.length = xs.length := by
  have := congrArg List.length (manyR_map h)
  rw [List.length_map, List.length_map] at this
  exact this.symm
theorem manyR_mem {α β : Type} {f : α → Option β} {xs : List α} {ys : List β} (h : manyR f xs = some ys) {y : β} (hy : y ∈ ys) : ∃ x ∈ xs, f x = some y := by
  have h1 := manyR_map h
  have h2 : some y ∈ ys.map some := List.mem_map_of_mem hy
  rw [← h1] at h2
  obtain ⟨x, hx, e⟩ := List.mem_map.mp h2
  exact ⟨x, hx, e⟩
/-- a line that is a list -/
def listR (z : List Nat) : Option (List Int) := if z = [45] then some [] else manyR numR (splitL 32 z)
/-- a text that is a way -/
def wayR (z : List Nat) : Option (List Nat) := if z = [45] then some [] else if z ≠ [] ∧ ∀ x ∈ z, x = 48 ∨ x = 49 then some z else none
/-- a text that is a paper -/
inductive Pap
  | way (w : List Nat)
  | nots (ls : List (List Int))
def Pap.d : Pap → PyData
  | .way w => papW w
  | .nots ls => papN ls
def papR (z : List Nat) : Option Pap := if z.take 4 = cs "way " then (wayR (z.drop 4)).map .way else if (splitL 10 z).getD 0 [] ≠ cs "not" ∨ (splitL 10 z).length < 2 then none else (manyR listR ((splitL 10 z).drop 1)).map .nots
theorem listR_ok {z : List Nat} {ns : List Int} (h : listR z = some ns) : Sm99 ns ∧ ns.length ≤ z.length + 1 := by
  unfold listR at h
  split at h
  · cases h
    exact ⟨fun x hx => (by cases hx), by simp⟩
  · refine ⟨fun n hn => ?_, ?_⟩
    · obtain ⟨w, _, e⟩ := manyR_mem h hn
      exact (numR_some e).2.2
    · rw [manyR_len h]
      exact splitL_len
theorem wayR_ok {z w : List Nat} (h : wayR z = some w) : (∀ x ∈ w, x = 48 ∨ x = 49) ∧ w.length ≤ z.length := by
  unfold wayR at h
  split at h
  · cases h
    exact ⟨fun x hx => (by cases hx), by simp⟩
  · split at h
    · rename_i h2
      cases h
      exact ⟨h2.2, Nat.le_refl _⟩
    · cases h
/-- bulk of lists -/
theorem lists_bulk : ∀ {ls : List (List Int)}, (∀ ns ∈ ls, Sm99 ns) → PyData.bulkAll (ls.map fun ns => PyData.list (ns.map PyData.int)) ≤ (ls.map (·.length)).sum + 2 * ls.length
  | [], _ => Nat.le_refl _
  | ns :: ls, h => by
    have e := lists_bulk (ls := ls) fun x hx => h x (List.mem_cons_of_mem _ hx)
    have e1 := (sm_one (ns := ns) fun n hn => by have := h ns List.mem_cons_self n hn; omega).2.2.2.2
    rw [List.map_cons, PyData.bulkAll, PyData.bulk, e1, List.map_cons, List.sum_cons, List.length_cons]
    omega
theorem lists_all : ∀ {ls : List (List Int)}, (∀ ns ∈ ls, Sm99 ns) → PyData.showableAll (ls.map fun ns => PyData.list (ns.map PyData.int)) = true ∧ PyData.hasDictAll (ls.map fun ns => PyData.list (ns.map PyData.int)) = false ∧ PyData.depthAll (ls.map fun ns => PyData.list (ns.map PyData.int)) ≤ 1 ∧ PyData.leavesShortAll 8 (ls.map fun ns => PyData.list (ns.map PyData.int)) = true
  | [], _ => ⟨rfl, rfl, Nat.zero_le _, rfl⟩
  | ns :: ls, h => by
    obtain ⟨a, b, c, d⟩ := lists_all (ls := ls) fun x hx => h x (List.mem_cons_of_mem _ hx)
    obtain ⟨a1, b1, c1, d1, e1⟩ := sm_one (ns := ns) fun n hn => by have := h ns List.mem_cons_self n hn; omega
    refine ⟨?_, ?_, ?_, ?_⟩
    · rw [List.map_cons, PyData.showableAll, a, PyData.showable, a1]; rfl
    · rw [List.map_cons, PyData.hasDictAll, b, PyData.hasDict, b1]; rfl
    · rw [List.map_cons, PyData.depthAll, PyData.depth, c1]; omega
    · rw [List.map_cons, PyData.leavesShortAll, d, PyData.leavesShort, d1]; rfl
theorem lists_sum {lns : List (List Nat)} : ∀ {ls : List (List Int)}, lns.map listR = ls.map some → (ls.map (·.length)).sum ≤ (lns.map (·.length)).sum + lns.length := by
  induction lns with
  | nil => intro ls h; cases ls with
    | nil => simp
    | cons => simp at h
  | cons z lns ih =>
    intro ls h
    cases ls with
    | nil => simp at h
    | cons ns ls =>
      rw [List.map_cons, List.map_cons, List.cons.injEq] at h
      have h1 := ih h.2
      have h2 := (listR_ok h.1).2
      rw [List.map_cons, List.map_cons, List.sum_cons, List.sum_cons, List.length_cons]
      omega
theorem papR_nots {z : List Nat} {ls : List (List Int)} (h : manyR listR ((splitL 10 z).drop 1) = some ls) (hz : z.length ≤ 10000) : Rpr 3 (papN ls) := by
  have h99 : ∀ ns ∈ ls, Sm99 ns := fun ns hns => by
    obtain ⟨l, _, e⟩ := manyR_mem h hns
    exact (listR_ok e).1
  have hs := lists_sum (manyR_map h)
  have hlen : ls.length ≤ z.length + 1 := by
    rw [manyR_len h, List.length_drop]
    have := splitL_len (c := 10) (l := z)
    omega
  have hall := (splitL_all 10 z).2.2
  have hd : (((splitL 10 z).drop 1).map (·.length)).sum ≤ ((splitL 10 z).map (·.length)).sum := by
    cases e : splitL 10 z with
    | nil => simp
    | cons a b => rw [List.drop_one, List.tail_cons, List.map_cons, List.sum_cons]; omega
  have hl1 : ((splitL 10 z).drop 1).length ≤ (splitL 10 z).length := by rw [List.length_drop]; omega
  obtain ⟨a, b, c, d⟩ := lists_all h99
  have e := lists_bulk h99
  have hc : ∀ x ∈ cs "not", x < 128 := by decide +kernel
  refine ⟨?_, ?_, ?_, ?_⟩
  · unfold papN nlD; rw [PyData.showable, PyData.showableAll, PyData.showable, PyData.showableAll, PyData.showable, a]; rfl
  · unfold papN nlD; rw [PyData.hasDict, PyData.hasDictAll, PyData.hasDict, PyData.hasDictAll, PyData.hasDict, b]; rfl
  · unfold papN nlD; rw [PyData.depth, PyData.depthAll, PyData.depth, PyData.depthAll, PyData.depth, PyData.depthAll]; omega
  · refine PyData.shown_fits_bulk (B := 8) (by decide) (by decide) ?_ ?_
    · unfold papN nlD; rw [PyData.leavesShort, PyData.leavesShortAll, leaf_sm hc, PyData.leavesShortAll, PyData.leavesShort, d]; rfl
    · unfold papN nlD; rw [PyData.bulk, PyData.bulkAll, bulk_sm, PyData.bulkAll, PyData.bulk, PyData.bulkAll, show (cs "not").length = 3 by decide +kernel]; omega
theorem papR_way {w : List Nat} (h : ∀ x ∈ w, x = 48 ∨ x = 49) (hl : w.length ≤ 10000) : Rpr 3 (papW w) := by
  have hc : ∀ x ∈ cs "way", x < 128 := by decide +kernel
  have hw : ∀ x ∈ w, x < 128 := fun x hx => by have := h x hx; omega
  refine ⟨rfl, rfl, by simp [papW, PyData.depth, PyData.depthAll], ?_⟩
  refine PyData.shown_fits_bulk (B := 8) (by decide) (by decide) ?_ ?_
  · unfold papW; rw [PyData.leavesShort, PyData.leavesShortAll, leaf_sm hc, PyData.leavesShortAll, leaf_sm hw]; rfl
  · unfold papW; rw [PyData.bulk, PyData.bulkAll, bulk_sm, PyData.bulkAll, bulk_sm, PyData.bulkAll, show (cs "way").length = 3 by decide +kernel]; omega
def optV : Option Int → V
  | some n => .int n
  | none => .non
theorem opt_flat (os : List (Option Int)) : (os.map optV).all flatV = true := by
  rw [List.all_map, List.all_eq_true]
  intro o _
  cases o <;> rfl
theorem opt_in : ∀ os : List (Option Int), inV .non (os.map optV) = decide (none ∈ os)
  | [] => rfl
  | o :: os => by
    have ih := opt_in os
    unfold inV at ih ⊢
    rw [List.map_cons, List.any_cons, ih]
    cases o with
    | none => simp [optV, eqV]
    | some n => simp [optV, eqV]
theorem opt_all : ∀ {os : List (Option Int)}, none ∉ os → ∃ ns : List Int, os = ns.map some
  | [], _ => ⟨[], rfl⟩
  | none :: os, h => absurd List.mem_cons_self h
  | some n :: os, h => by
    obtain ⟨ns, e⟩ := opt_all (os := os) fun z => h (List.mem_cons_of_mem _ z)
    exact ⟨n :: ns, by rw [e]; rfl⟩
theorem opt_V (ns : List Int) : (ns.map some).map optV = ns.map V.int := by rw [List.map_map]; rfl
theorem papR_rpr {z : List Nat} {d : Pap} (h : papR z = some d) (hz : z.length ≤ 10000) : Rpr 3 d.d := by
  unfold papR at h
  split at h
  · cases e : wayR (z.drop 4) with
    | none => rw [e] at h; cases h
    | some w =>
      rw [e] at h
      cases h
      obtain ⟨a, b⟩ := wayR_ok e
      exact papR_way a (by rw [List.length_drop] at b; omega)
  · split at h
    · cases h
    · cases e : manyR listR ((splitL 10 z).drop 1) with
      | none => rw [e] at h; cases h
      | some ls =>
        rw [e] at h
        cases h
        exact papR_nots e hz

end Law

namespace Law
open PySem PySem.Spec PyProof.Rows L2 Go
/-- a deck: three numbers, the last not above N -/
def DeckO (N : Nat) (o : HO) : Prop := ∃ a b k : Int, o = .lst [.int a, .int b, .int k] ∧ 0 ≤ k ∧ k ≤ N
theorem DeckO.mono {N M : Nat} {o : HO} (h : DeckO N o) (hm : N ≤ M) : DeckO M o := by
  obtain ⟨a, b, k, e, h1, h2⟩ := h
  exact ⟨a, b, k, e, h1, by omega⟩

end Law

namespace Law
open PySem PySem.Spec PyProof.Rows L2 Go
/-- the number that a word writes, or none -/
inductive Sp_read_number (K : PySem.W.Frag) : Sp
  | mk {H : Hp} {Q : VK} {E : XK} {w : List Nat} (hl : w.length ≤ 1000000) (q : ∀ n, numR w = some n → Q (.int n) H) (qx : numR w = none → E (.ref (clsK K "NoText")) none H) : Sp_read_number K [.str (S w)] H Q E
theorem figs_in {x : Nat} : x ∈ cs "0123456789" ↔ 48 ≤ x ∧ x ≤ 57 := by
  rw [show cs "0123456789" = (List.range 10).map (48 + ·) by decide +kernel, List.mem_map]
  constructor
  · rintro ⟨a, ha, rfl⟩
    have := List.mem_range.mp ha
    omega
  · intro h
    exact ⟨x - 48, List.mem_range.mpr (by omega), by omega⟩
section
variable {P : Program} {w : World} {K : PySem.W.Frag} {mg : Str → Option Value} {base : Heap}
theorem ok_read_number (T : Env K mg) {f : Addr} {fd : FuncData} (F : Fun K "read_number" "read_number" st_read_number f fd) : FnOk P w K mg base (L2.CX P w) 1 f fd ["word"] (Sp_read_number K) := by
  simp (disch := (with_unfolding_all (
    refine intoX (N := ["word", "figure"]) (nm := nm_read_number) F sc_read_number ne_read_number (fun vs H Q E h => by cases h <;> rfl) (by decide) (fun X H vs Q E c tk h => ?_)
    have B_int := T.b_int
    have B_len := T.b_len
    have E_NoText := T.x_NoText
    have M_NoText := T.x_NoText.mg
    obtain ⟨_, V_FIGURES⟩ := T.g_FIGURES
    obtain ⟨_, V_MOST_FIGURES⟩ := T.g_MOST_FIGURES
    cases h with
    | @mk H Q E w hl q qx =>
    walk_at "in"
    by_cases l1 : 1 ≤ w.length
    · by_cases l2 : w.length ≤ 2
      · walk_at "ax"
        rw [show cs "0" = [48] by decide +kernel]
        refine i_decD (fun e => ?_) (fun e => ?_)
        · have e : w.getD 0 0 = 48 := by simpa using e
          walk_at "ax"
          refine i_decD (fun e2 => ?_) (fun e2 => ?_)
          · have hz : ¬ (w.getD 0 0 = 48 ∧ w ≠ [48]) := fun z => z.2 (by rw [e2]; decide +kernel)
            walk_at "ax"
            refine s_for c (fun _ => rfl) (i_str ?_)
            walk_at "ax"
            refine ⟨w, rfl, ?_⟩
            refine on_str (fun m σ H' => (∃ (b_f : Option V), σ = [some (V.str (S w)), b_f] ∧ H' = H) ∧ ∀ x ∈ w.take m, 48 ≤ x ∧ x ≤ 57) ⟨⟨_, rfl, rfl⟩, fun x hx => by simp at hx⟩ ?_ ?_
            · rintro m ch σ H2 hch ⟨⟨b_f, rfl, rfl⟩, hm⟩
              by_cases hin : ch ∈ cs "0123456789"
              · walk_at "ax"
                refine ⟨⟨_, rfl, rfl⟩, fun x hx => ?_⟩
                rw [List.take_add_one, hch] at hx
                rcases List.mem_append.mp hx with hx | hx
                · exact hm x hx
                · obtain rfl := List.mem_singleton.mp hx
                  exact figs_in.mp hin
              · walk_at "ax"
                exact qx (numR_no fun z => hin (figs_in.mpr (z.2.2 ch (List.mem_of_getElem? hch))))
            · rintro σ H2 ⟨⟨b_f, rfl, rfl⟩, hm⟩
              rw [List.take_length] at hm
              have ok : NumOk w := ⟨⟨l1, l2⟩, hz, hm⟩
              obtain ⟨n, e1, e2, _⟩ := numR_ok ok
              walk_at "ax"
              refine c_intS e2 (by omega) ?_
              walk_at "ax"
              exact q n e1
          · walk_at "ax"
            exact qx (numR_no fun z => z.2.1 ⟨e, fun e3 => e2 (by rw [e3]; decide +kernel)⟩)
        · have hz : ¬ (w.getD 0 0 = 48 ∧ w ≠ [48]) := fun z => e (by simpa using z.1)
          walk_at "ax"
          refine s_for c (fun _ => rfl) (i_str ?_)
          walk_at "ax"
          refine ⟨w, rfl, ?_⟩
          refine on_str (fun m σ H' => (∃ (b_f : Option V), σ = [some (V.str (S w)), b_f] ∧ H' = H) ∧ ∀ x ∈ w.take m, 48 ≤ x ∧ x ≤ 57) ⟨⟨_, rfl, rfl⟩, fun x hx => by simp at hx⟩ ?_ ?_
          · rintro m ch σ H2 hch ⟨⟨b_f, rfl, rfl⟩, hm⟩
            by_cases hin : ch ∈ cs "0123456789"
            · walk_at "ax"
              refine ⟨⟨_, rfl, rfl⟩, fun x hx => ?_⟩
              rw [List.take_add_one, hch] at hx
              rcases List.mem_append.mp hx with hx | hx
              · exact hm x hx
              · obtain rfl := List.mem_singleton.mp hx
                exact figs_in.mp hin
            · walk_at "ax"
              exact qx (numR_no fun z => hin (figs_in.mpr (z.2.2 ch (List.mem_of_getElem? hch))))
          · rintro σ H2 ⟨⟨b_f, rfl, rfl⟩, hm⟩
            rw [List.take_length] at hm
            have ok : NumOk w := ⟨⟨l1, l2⟩, hz, hm⟩
            obtain ⟨n, e1, e2, _⟩ := numR_ok ok
            walk_at "ax"
            refine c_intS e2 (by omega) ?_
            walk_at "ax"
            exact q n e1
      · walk_at "ax"
        exact qx (numR_no fun z => l2 z.1.2)
    · walk_at "ax"
      exact qx (numR_no fun z => l1 z.1.1)))) only [↓fn_ok]
theorem calX_read_number (T : Env K mg) : CalX P w K mg base 1 "read_number" (Sp_read_number K) := calX_of T.d_read_number fun F => ok_read_number T F
end

end Law

namespace Law
open PySem PySem.Spec PyProof.Rows L2 Go
/-- the list that a line writes, or none -/
inductive Sp_read_list (K : PySem.W.Frag) : Sp
  | mk {G H : Hp} {C : List (Addr × HO)} {Q : VK} {E : XK} {z : List Nat} (O : Own G C H) (hl : z.length ≤ 10000)
      (q : ∀ ns, listR z = some ns → ∀ (r : Addr) (G' H' : Hp), Same G G' → Own G' C H' → G' r = some (.lst (ns.map V.int)) → Q (.ref r) H')
      (qx : listR z = none → ∀ (G' H' : Hp), Same G G' → Own G' C H' → E (.ref (clsK K "NoText")) none H') : Sp_read_list K [.str (S z)] H Q E
section
variable {P : Program} {w : World} {K : PySem.W.Frag} {mg : Str → Option Value} {base : Heap}
theorem ok_read_list (T : Env K mg) {f : Addr} {fd : FuncData} (F : Fun K "read_list" "read_list" st_read_list f fd) : FnOk P w K mg base (L2.CX P w) 2 f fd ["line"] (Sp_read_list K) := by
  simp (disch := (with_unfolding_all (
    refine intoXT (N := ["line", "word"]) (nm := nm_read_list) F sc_read_list ne_read_list (fun vs H Q E h => by cases h <;> rfl) (by decide) (fun X H vs Q E c tp tk h => ?_)
    have R_read_number := calX_read_number (P := P) (w := w) (base := base) T
    cases h with
    | @mk G H C Q E z O hl q qx =>
    have e45 : cs "-" = [45] := by decide +kernel
    have e32 : cs " " = [32] := by decide +kernel
    walk_at "in"
    walk_at "ax"
    rw [e45]
    refine i_decD (fun e => ?_) (fun e => ?_)
    · walk_at "ax"
      intro rr H_rr n_rr
      obtain ⟨G_rr, s_rr, e_rr, O⟩ := Own.fix (by walk_at "as") n_rr
      walk_at "ax"
      exact q [] (by unfold listR; rw [if_pos e]) rr _ _ (by walk_at "sm") O e_rr
    · refine g_nx (g_st (g_ret ?_))
      refine e_lcX1 c tp tk (i := 1) (by walk_at "dk") (fun _ => rfl) ?_
      refine i_listK c ?_
      refine e_sm1 (id := "str.split") (name := "split") PySem.F.slot_str_split PySem.F.type_str_split rfl rfl rfl ?_
      walk_at "ax"
      obtain ⟨j1, j2, j3⟩ := splitL_all 32 z
      have hnw := splitL_len (c := 32) (l := z)
      rw [e32, ← j1]
      refine m_split (by decide) (splitL_ne 32 z) j2 (by rw [j1]; omega) fun wp Hw nw => ?_
      obtain ⟨Gw, sw, ew, O⟩ := O.fix nw
      refine ⟨wp, _, rfl, .of (hp_up O ew), ?_⟩
      refine lrX_list (fun m acc _ C' => ∃ ys : List Int, acc = ys.map V.int ∧ ((splitL 32 z).take m).map numR = ys.map some ∧ C' = C) c (by walk_at "ix") (by walk_at "dk") rfl (.of ew) (by rw [List.length_map]; omega) O ⟨[], rfl, rfl, rfl⟩ ?_ ?_
      · rintro m x acc G2 C2 A H2 hx ⟨ys, rfl, hys, rfl⟩ O s2 X' c tk'
        rw [List.getElem?_map] at hx
        obtain ⟨u, hu, rfl⟩ := Option.map_eq_some_iff.mp hx
        have hum := splitL_mem (List.mem_of_getElem? hu)
        walk_at "ax"
        refine .mk (by omega) (fun n hn => ?_) (fun hn => ?_)
        · exact ⟨G2, _, O, same_rfl, ys ++ [n], by simp, by rw [List.take_add_one, hu, List.map_append, hys, List.map_append]; show _ ++ [numR u] = _; rw [hn]; rfl, rfl⟩
        · refine qx ?_ _ _ (by walk_at "sm") O.drop
          unfold listR
          rw [if_neg e]
          exact manyR_bad (List.mem_of_getElem? hu) hn
      rintro acc G2 C2 A H2 hl ⟨ys, rfl, hys, rfl⟩ O s2
      rw [List.length_map, List.take_length] at hys
      have e2 : listR z = some ys := by unfold listR; rw [if_neg e]; exact manyR_of hys
      obtain ⟨G3, s3, e3, O⟩ := O.frz
      exact q ys e2 A _ _ (by walk_at "sm") O e3))) only [↓fn_ok]
theorem calX_read_list (T : Env K mg) : CalX P w K mg base 2 "read_list" (Sp_read_list K) := calX_of T.d_read_list fun F => ok_read_list T F
end

end Law

namespace Law
open PySem PySem.Spec PyProof.Rows L2 Go
/-- the way that a text writes, or none -/
inductive Sp_read_way (K : PySem.W.Frag) : Sp
  | mk {H : Hp} {Q : VK} {E : XK} {z : List Nat} (hl : z.length ≤ 1000000) (q : ∀ w, wayR z = some w → Q (.str (S w)) H) (qx : wayR z = none → E (.ref (clsK K "NoText")) none H) : Sp_read_way K [.str (S z)] H Q E
theorem bits_in {x : Nat} : x ∈ cs "01" ↔ x = 48 ∨ x = 49 := by
  rw [show cs "01" = [48, 49] by decide +kernel]
  simp
section
variable {P : Program} {w : World} {K : PySem.W.Frag} {mg : Str → Option Value} {base : Heap}
theorem ok_read_way (T : Env K mg) {f : Addr} {fd : FuncData} (F : Fun K "read_way" "read_way" st_read_way f fd) : FnOk P w K mg base (L2.CX P w) 1 f fd ["text"] (Sp_read_way K) := by
  simp (disch := (with_unfolding_all (
    refine intoX (N := ["text", "sign"]) (nm := nm_read_way) F sc_read_way ne_read_way (fun vs H Q E h => by cases h <;> rfl) (by decide) (fun X H vs Q E c tk h => ?_)
    have E_NoText := T.x_NoText
    have M_NoText := T.x_NoText.mg
    cases h with
    | @mk H Q E z hl q qx =>
    have e45 : cs "-" = [45] := by decide +kernel
    have e0 : cs "" = [] := by decide +kernel
    walk_at "in"
    by_cases e : z = [45]
    · walk_at "ax"
      rw [e45]
      refine i_trueD e ?_
      walk_at "ax"
      rw [e0]
      exact q [] (by unfold wayR; rw [if_pos e])
    · walk_at "ax"
      rw [e45]
      refine i_falseD e ?_
      walk_at "ax"
      refine s_for c (fun _ => rfl) (i_str ?_)
      walk_at "ax"
      refine ⟨z, rfl, ?_⟩
      refine on_str (fun m σ H' => (∃ (b_f : Option V), σ = [some (V.str (S z)), b_f] ∧ H' = H) ∧ ∀ x ∈ z.take m, x = 48 ∨ x = 49) ⟨⟨_, rfl, rfl⟩, fun x hx => by simp at hx⟩ ?_ ?_
      · rintro m ch σ H2 hch ⟨⟨b_f, rfl, rfl⟩, hm⟩
        by_cases hin : ch ∈ cs "01"
        · walk_at "ax"
          refine ⟨⟨_, rfl, rfl⟩, fun x hx => ?_⟩
          rw [List.take_add_one, hch] at hx
          rcases List.mem_append.mp hx with hx | hx
          · exact hm x hx
          · obtain rfl := List.mem_singleton.mp hx
            exact bits_in.mp hin
        · walk_at "ax"
          exact qx (by unfold wayR; rw [if_neg e, if_neg fun y => hin (bits_in.mpr (y.2 ch (List.mem_of_getElem? hch)))])
      · rintro σ H2 ⟨⟨b_f, rfl, rfl⟩, hm⟩
        rw [List.take_length] at hm
        walk_at "ax"
        rw [e0]
        refine i_decD (fun e2 => ?_) (fun e2 => ?_)
        · walk_at "ax"
          exact qx (by unfold wayR; rw [if_neg e, if_neg fun y => y.1 e2])
        · walk_at "ax"
          exact q z (by unfold wayR; rw [if_neg e, if_pos ⟨e2, hm⟩])))) only [↓fn_ok]
theorem calX_read_way (T : Env K mg) : CalX P w K mg base 1 "read_way" (Sp_read_way K) := calX_of T.d_read_way fun F => ok_read_way T F
end

end Law

namespace Law
open PySem PySem.Spec PyProof.Rows L2 Go
/-- the tuple that a text writes, or none -/
inductive Sp_read_paper (K : PySem.W.Frag) : Sp
  | mk {G H : Hp} {C : List (Addr × HO)} {Q : VK} {E : XK} {z : List Nat} (O : Own G C H) (hl : z.length ≤ 9000)
      (q : ∀ (d : Pap) (r : Addr) (G' H' : Hp), papR z = some d → Same G G' → Own G' C H' → (∀ (G2 H2 : Hp) (C2 : List (Addr × HO)), Same G' G2 → Own G2 C2 H2 → Dp K H2 (.ref r) d.d) → Q (.ref r) H')
      (qx : papR z = none → ∀ (G' H' : Hp), Same G G' → Own G' C H' → E (.ref (clsK K "NoText")) none H') : Sp_read_paper K [.str (S z)] H Q E
section
variable {P : Program} {w : World} {K : PySem.W.Frag} {mg : Str → Option Value} {base : Heap}
theorem ok_read_paper (T : Env K mg) {f : Addr} {fd : FuncData} (F : Fun K "read_paper" "read_paper" st_read_paper f fd) : FnOk P w K mg base (L2.CX P w) 3 f fd ["text"] (Sp_read_paper K) := by
  simp (disch := (with_unfolding_all (
    refine intoXT (N := ["text", "lines", "line"]) (nm := nm_read_paper) F sc_read_paper ne_read_paper (fun vs H Q E h => by cases h <;> rfl) (by decide) (fun X H vs Q E c tp tk h => ?_)
    have R_read_way := calX_read_way (P := P) (w := w) (base := base) T
    have R_read_list := calX_read_list (P := P) (w := w) (base := base) T
    have B_len := T.b_len
    have E_NoText := T.x_NoText
    have M_NoText := T.x_NoText.mg
    cases h with
    | @mk G H C Q E z O hl q qx =>
    have en : cs "\n" = [10] := by decide +kernel
    walk_at "in"
    walk_at "ax"
    refine i_decD (fun e => ?_) (fun e => ?_)
    · walk_at "ax"
      have e : z.take 4 = cs "way " := e
      refine .mk (by rw [List.length_drop]; omega) (fun w hw => ?_) (fun hw => ?_)
      · have hw : wayR (z.drop 4) = some w := hw
        walk_at "ax"
        rename_i rr Hr nr Gr sr er O
        exact q (.way w) rr _ _ (by unfold papR; rw [if_pos e, hw]; rfl) (by walk_at "sm") O fun G2 H2 C2 s2 O2 => .tup (.of (hp_up O2 (s2 _ _ er))) (.cons (.str _) (.cons (.str _) .nil))
      · have hw : wayR (z.drop 4) = none := hw
        exact qx (by unfold papR; rw [if_pos e, hw]; rfl) _ _ same_rfl O
    · have e : ¬ z.take 4 = cs "way " := e
      walk_at "ax"
      refine e_sm1 (id := "str.split") (name := "split") PySem.F.slot_str_split PySem.F.type_str_split rfl rfl rfl ?_
      walk_at "ax"
      obtain ⟨j1, j2, j3⟩ := splitL_all 10 z
      have hnw := splitL_len (c := 10) (l := z)
      rw [en, ← j1]
      refine m_split (by decide) (splitL_ne 10 z) j2 (by rw [j1]; omega) fun lp Hl nl => ?_
      rw [j1]
      obtain ⟨Gl, sl, el, O⟩ := O.fix nl
      obtain ⟨l0, lt, hsp⟩ : ∃ l0 lt, splitL 10 z = l0 :: lt := by
        cases h : splitL 10 z with
        | nil => exact absurd h (splitL_ne 10 z)
        | cons a b => exact ⟨a, b, rfl⟩
      have hpr : papR z = if l0 ≠ cs "not" ∨ lt.length + 1 < 2 then none else (manyR listR lt).map .nots := by
        unfold papR
        rw [if_neg e, hsp]
        rfl
      rw [hsp] at el
      have hL1 : ((l0 :: lt).map fun z => V.str (S z)).length = lt.length + 1 := by rw [List.length_map, List.length_cons]
      walk_at "ax"
      refine x_lst c (.of (hp_up O el)) (show atI ((l0 :: lt).map fun z => V.str (S z)) 0 = some (V.str (S l0)) from atI_get (i := 0) rfl) ?_
      walk_at "ax"
      rename_i Hj Gj sj O
      rw [hL1]
      by_cases hb : l0 ≠ cs "not" ∨ lt.length + 1 < 2
      · rw [if_pos (by
          simp only [Bool.or_eq_true, Bool.not_eq_true', decide_eq_true_eq, decide_eq_false_iff_not]
          exact hb.imp id fun h => by omega)]
        walk_at "ax"
        exact qx (by rw [hpr, if_pos hb]) _ _ (by walk_at "sm") O
      · rw [if_neg (by
          simp only [Bool.or_eq_true, Bool.not_eq_true', decide_eq_true_eq, decide_eq_false_iff_not]
          exact fun h => hb (h.imp id fun h => by omega))]
        rw [if_neg hb] at hpr
        refine g_nx (g_st (g_ret (g_tup (g_cons rfl (e_str (g_cons rfl ?_))))))
        refine e_lcX1 c tp tk (i := 2) (by walk_at "dk") (fun _ => rfl) ?_
        refine i_listK c ?_
        walk_at "ax"
        refine l_lst c (.of (hp_up O (sj _ _ el))) fun li H6 n6 => ?_
        rw [cut_from _ _ (by decide)] at n6
        have n6 : New Hj li (.lst (lt.map fun z => V.str (S z))) H6 := n6
        obtain ⟨G6, s6, e6, O⟩ := O.fix n6
        refine ⟨li, _, rfl, .of (hp_up O e6), ?_⟩
        refine lrX_list (fun m acc G' C' => ∃ (ps : List Addr) (ys : List (List Int)), acc = ps.map V.ref ∧ C' = C ∧ ps.length = m ∧ ys.length = m ∧ (lt.take m).map listR = ys.map some ∧ (∀ (i : Nat) (p : Addr) (ns : List Int), ps[i]? = some p → ys[i]? = some ns → G' p = some (.lst (ns.map V.int)))) c (by walk_at "ix") (by walk_at "dk") rfl (.of e6) (by rw [List.length_map]; rw [hsp, List.length_cons] at hnw; omega) O ⟨[], [], rfl, rfl, rfl, rfl, rfl, (fun i p ns h => by simp at h)⟩ ?_ ?_
        · rintro m x acc G2 C2 A H2 hx ⟨ps, ys, rfl, rfl, hpl, hyl, hys, hps⟩ O s2 X' c tk'
          rw [List.getElem?_map] at hx
          obtain ⟨u, hu, rfl⟩ := Option.map_eq_some_iff.mp hx
          have hum : u.length ≤ z.length := splitL_mem (c := 10) (by rw [hsp]; exact List.mem_cons_of_mem _ (List.mem_of_getElem? hu))
          walk_at "ax"
          refine .mk O (by omega) (fun ns hns r G3 H3 s3 O er => ?_) (fun hns G3 H3 s3 O => ?_)
          · refine ⟨G3, _, O, s3, ps ++ [r], ys ++ [ns], by simp, rfl, by simp [hpl], by simp [hyl], by rw [List.take_add_one, hu, List.map_append, hys, List.map_append]; show _ ++ [listR u] = _; rw [hns]; rfl, fun i p ms hp hm => ?_⟩
            by_cases e : i < ps.length
            · rw [List.getElem?_append_left e] at hp
              rw [List.getElem?_append_left (by omega)] at hm
              exact s3 _ _ (hps i p ms hp hm)
            · have h2 := (List.getElem?_eq_some_iff.mp hp).1
              rw [List.length_append, List.length_singleton] at h2
              obtain rfl : i = m := by omega
              rw [List.getElem?_append_right (by omega), hpl, Nat.sub_self] at hp
              obtain rfl := Option.some.inj hp
              rw [List.getElem?_append_right (by omega), hyl, Nat.sub_self] at hm
              obtain rfl := Option.some.inj hm
              exact er
          · refine qx ?_ _ _ (by walk_at "sm") O.drop
            rw [hpr, manyR_bad (List.mem_of_getElem? hu) hns]
            rfl
        rintro acc G2 C2 A H2 hl9 ⟨ps, ys, rfl, rfl, hpl, hyl, hys, hps⟩ O s2
        rw [List.length_map] at hpl hyl hys
        rw [List.take_length] at hys
        rw [manyR_of hys] at hpr
        obtain ⟨G3, s3, e3, O⟩ := O.frz
        have hL : LL G3 A ps ys := ⟨e3, by rw [hpl, hyl], fun i p ns hp hn => s3 _ _ (hps i p ns hp hn)⟩
        walk_at "ax"
        rename_i rr Hr nr Gr sr er O
        exact q (.nots ys) rr _ _ hpr (by walk_at "sm") O fun G2 H2 C2 s2 O2 => .tup (.of (hp_up O2 (s2 _ _ er))) (.cons (.str _) (.cons (nl_dp (ll_own2 (ll_up2 (ll_up2 hL sr) s2) O2)) .nil))))) only [↓fn_ok]
theorem calX_read_paper (T : Env K mg) : CalX P w K mg base 3 "read_paper" (Sp_read_paper K) := calX_of T.d_read_paper fun F => ok_read_paper T F
end

end Law

namespace Law
open PySem PySem.Spec PyProof.Rows L2 Go
/-- a number below so many is taken of the deck -/
inductive Sp_law_take (K : PySem.W.Frag) : Sp
  | mk {G H : Hp} {C : List (Addr × HO)} {Q : VK} {E : XK} {p : Addr} {o : HO} {l : Int} {N : Nat} (O : Own G ((p, o) :: C) H) (hd : DeckO N o) (hN : N < 100000000) (h3 : 0 < l) (h4 : l < 1000000000)
      (q : ∀ (r : Int) (o : HO) (H' : Hp), Own G ((p, o) :: C) H' → DeckO (N + 1) o → 0 ≤ r → r < l → Q (.int r) H') : Sp_law_take K [.ref p, .int l] H Q E
section
variable {P : Program} {w : World} {K : PySem.W.Frag} {mg : Str → Option Value} {base : Heap}
theorem ok_law_take (T : Env K mg) {f : Addr} {fd : FuncData} (F : Fun K "_law_take" "_law_take" st_law_take f fd) : FnOk P w K mg base CX0 1 f fd ["deck", "many"] (Sp_law_take K) := by
  simp (disch := (with_unfolding_all (
    refine into (N := ["deck", "many", "come", "number"]) (nm := nm_law_take) F sc_law_take ne_law_take (fun vs H Q E h => by cases h <;> rfl) (by decide) (fun X H vs Q E c h => ?_)
    cases h with
    | @mk G H C Q E p o l N O hd hN h3 h4 q =>
    obtain ⟨a, b, k, rfl, k0, k1⟩ := hd
    walk_at "in"
    walk_at "au"
    refine i_dec (fun h => ?_) (fun h => ?_)
    · walk_at "au"
      exact q _ _ _ (by assumption) ⟨_, _, _, rfl, k0, by omega⟩ (Int.emod_nonneg _ (by omega)) (Int.emod_lt_of_pos _ h3)
    · walk_at "au"
      refine p_cellN (n := 2) O rfl (by simp) fun H' O => ?_
      have O : Own G ((p, .lst [.int a, .int b, .int (k + 1)]) :: C) H' := O
      walk_at "au"
      exact q _ _ _ (by assumption) ⟨_, _, _, rfl, by omega, by omega⟩ (Int.emod_nonneg _ (by omega)) (Int.emod_lt_of_pos _ h3)))) only [↓fn_ok]
theorem cal_law_take (T : Env K mg) : Cal P w K mg base 1 "_law_take" (Sp_law_take K) := cal_of T.d_law_take fun F => ok_law_take T F
end

end Law

namespace Law
open PySem PySem.Spec PyProof.Rows L2 Go
/-- a deck of a cell -/
inductive Sp_law_deck (K : PySem.W.Frag) : Sp
  | mk {G H : Hp} {C : List (Addr × HO)} {Q : VK} {E : XK} {cell k : Int} (O : Own G C H) (h0 : 0 ≤ k) (h1 : k ≤ 100)
      (q : ∀ (p : Addr) (o : HO) (H' : Hp), Own G ((p, o) :: C) H' → DeckO 100 o → Q (.ref p) H') : Sp_law_deck K [.int cell, .int k] H Q E
section
variable {P : Program} {w : World} {K : PySem.W.Frag} {mg : Str → Option Value} {base : Heap}
theorem ok_law_deck (T : Env K mg) {f : Addr} {fd : FuncData} (F : Fun K "_law_deck" "_law_deck" st_law_deck f fd) : FnOk P w K mg base CX0 1 f fd ["cell", "k"] (Sp_law_deck K) := by
  simp (disch := (with_unfolding_all (
    refine into (N := ["cell", "k"]) (nm := nm_law_deck) F sc_law_deck ne_law_deck (fun vs H Q E h => by cases h <;> rfl) (by decide) (fun X H vs Q E c h => ?_)
    cases h with
    | @mk G H C Q E cell k O h0 h1 q =>
    walk_at "in"
    walk_at "au"
    refine i_dec (fun h => ?_) (fun h => ?_)
    · walk_at "au"
      intro p H_p n_p
      have O := Own.more (by walk_at "as") n_p
      walk_at "au"
      exact q p _ _ O ⟨_, _, _, rfl, h0, by omega⟩
    · walk_at "au"
      intro p H_p n_p
      have O := Own.more (by walk_at "as") n_p
      walk_at "au"
      exact q p _ _ O ⟨_, _, _, rfl, h0, by omega⟩))) only [↓fn_ok]
theorem cal_law_deck (T : Env K mg) : Cal P w K mg base 1 "_law_deck" (Sp_law_deck K) := cal_of T.d_law_deck fun F => ok_law_deck T F
end

end Law

namespace Law
open PySem PySem.Spec PyProof.Rows L2 Go
/-- the text of a drawn paper -/
inductive Sp_law_text (K : PySem.W.Frag) : Sp
  | mk {G H : Hp} {C : List (Addr × HO)} {Q : VK} {E : XK} {p : Addr} {o : HO} (O : Own G ((p, o) :: C) H) (hd : DeckO 100 o)
      (q : ∀ (z : List Nat) (o : HO) (G' H' : Hp), Same G G' → Own G' ((p, o) :: C) H' → DeckO 2000 o → z.length ≤ 1000 → Q (.str (S z)) H') : Sp_law_text K [.ref p] H Q E
theorem logT : ∀ n : Nat, n < 100 → n.log2 < 1920 := by decide +kernel
theorem sum_two {ws : List (List Nat)} (h : ∀ w ∈ ws, w.length ≤ 2) : (ws.map (·.length)).sum ≤ 2 * ws.length := by
  induction ws with
  | nil => simp
  | cons w ws ih =>
    have h1 := ih fun x hx => h x (List.mem_cons_of_mem _ hx)
    have h2 := h w List.mem_cons_self
    rw [List.map_cons, List.sum_cons, List.length_cons]
    omega
section
variable {P : Program} {w : World} {K : PySem.W.Frag} {mg : Str → Option Value} {base : Heap}
theorem ok_law_text (T : Env K mg) {f : Addr} {fd : FuncData} (F : Fun K "_law_text" "_law_text" st_law_text f fd) : FnOk P w K mg base CX0 2 f fd ["deck"] (Sp_law_text K) := by
  simp (disch := (with_unfolding_all (
    refine into (N := ["deck", "way", "k", "text", "most", "words", "j"]) (nm := nm_law_text) F sc_law_text ne_law_text (fun vs H Q E h => by cases h <;> rfl) (by decide) (fun X H vs Q E c h => ?_)
    have C_law_take := cal_law_take (P := P) (w := w) (base := base) T
    have B_range := T.b_range
    have B_str := T.b_str
    have B_int := T.b_int
    cases h with
    | @mk G H C Q E p o O hd q =>
    have e0 : cs "" = [] := by decide +kernel
    have e01 : cs "01" = [48, 49] := by decide +kernel
    have e32 : cs " " = [32] := by decide +kernel
    have l4 : (cs "way ").length = 4 := by decide +kernel
    have l1 : (cs "-").length = 1 := by decide +kernel
    have l3 : (cs "not").length = 3 := by decide +kernel
    have ln : (cs "\n").length = 1 := by decide +kernel
    have l01 : (cs "01").length = 2 := by decide +kernel
    walk_at "in"
    walk_at "ax"
    refine .mk O hd (by decide) (by decide) (by decide) fun t1 o H1 O hd t10 t11 => ?_
    walk_at "ax"
    refine i_decD (fun e => ?_) (fun e => ?_)
    · walk_at "ax"
      refine s_for c (fun _ => rfl) ?_
      walk_at "ax"
      rename_i pl Hl nl Gl sl el O
      refine .mk O hd (by decide) (by decide) (by decide) fun t2 o H2 O hd t20 t21 => ?_
      walk_at "ax"
      obtain ⟨mo, hm, m0, m1⟩ : ∃ mo : Int, atI [V.int 20, V.int 121] t2 = some (.int mo) ∧ 1 ≤ mo ∧ mo ≤ 121 := by
        have : t2 = 0 ∨ t2 = 1 := by omega
        rcases this with rfl | rfl <;> exact ⟨_, rfl, by decide, by decide⟩
      refine x_lst c (by walk_at "sql") hm ?_
      walk_at "ax"
      refine .mk O hd (by decide) (by omega) (by omega) fun rg o H3 O hd r0 r1 => ?_
      walk_at "ax"
      rw [e0]
      refine on_range (fun m σ H => ∃ (w : List Nat) (o : HO) (b_k b_text b_most b_words b_j : Option V) (G_W : Hp), σ = [some (.ref p), some (.str (S w)), b_k, b_text, b_most, b_words, b_j] ∧ Own G_W ((p, o) :: C) H ∧ Same Gl G_W ∧ w.length = m ∧ DeckO (200 + m) o) ⟨[], _, _, _, _, _, _, _, rfl, (by walk_at "ow"), (by walk_at "sm"), rfl, hd.mono (by omega)⟩ ?_ ?_
      · rintro m σ H hmr ⟨w, o, b_k, b_text, b_most, b_words, b_j, G_W, rfl, O, s_W, hwl, hd⟩
        walk_at "ax"
        refine .mk O hd (by omega) (by decide) (by decide) fun ib o H4 O hd i0 i1 => ?_
        walk_at "ax"
        first | exact ⟨(w ++ [(cs "01").getD ib.toNat 0]), o, _, _, _, _, _, _, rfl, (by walk_at "ow"), (by walk_at "sm"), by simp [hwl], hd⟩
      · rintro σ H ⟨w, o, b_k, b_text, b_most, b_words, b_j, G_W, rfl, O, s_W, hwl, hd⟩
        walk_at "ax"
        refine i_decD (fun e => ?_) (fun e => ?_)
        · walk_at "ax"
          refine q _ o _ _ (by walk_at "sm") O (hd.mono (by omega)) (by rw [List.length_append]; omega)
        · walk_at "ax"
          refine q _ o _ _ (by walk_at "sm") O (hd.mono (by omega)) (by rw [List.length_append]; omega)
    · walk_at "ax"
      refine s_for c (fun _ => rfl) ?_
      walk_at "ax"
      rename_i pl Hl nl Gl sl el O
      refine .mk O hd (by decide) (by decide) (by decide) fun t2 o H2 O hd t20 t21 => ?_
      walk_at "ax"
      obtain ⟨mo, hm, m0, m1⟩ : ∃ mo : Int, atI [V.int 5, V.int 40] (if decide (t2 = 0) = true then 1 else 0) = some (.int mo) ∧ 1 ≤ mo ∧ mo ≤ 40 := by
        by_cases h : t2 = 0
        · rw [if_pos (decide_eq_true h)]
          exact ⟨_, rfl, by decide, by decide⟩
        · rw [if_neg (by simpa using h)]
          exact ⟨_, rfl, by decide, by decide⟩
      refine x_lst c (by walk_at "sql") hm ?_
      walk_at "ax"
      refine .mk O hd (by decide) (by omega) (by omega) fun rg o H3 O hd r0 r1 => ?_
      walk_at "ax"
      refine on_range (fun m σ H => ∃ (z : List Nat) (o : HO) (b_way b_k b_most b_words b_j : Option V) (G_T : Hp), σ = [some (.ref p), b_way, b_k, some (.str (S z)), b_most, b_words, b_j] ∧ Own G_T ((p, o) :: C) H ∧ Same Gl G_T ∧ z.length ≤ 3 + 20 * m ∧ DeckO (200 + 20 * m) o) ⟨(cs "not"), _, _, _, _, _, _, _, rfl, (by walk_at "ow"), (by walk_at "sm"), by omega, hd.mono (by omega)⟩ ?_ ?_
      · rintro m σ H hmr ⟨z, o, b_way, b_k, b_most, b_words, b_j, G_T, rfl, O, s_T, hzl, hd⟩
        walk_at "ax"
        rename_i pq Hq nq Gq sq eq O
        refine .mk O hd (by omega) (by decide) (by decide) fun t3 o H4 O hd t30 t31 => ?_
        walk_at "ax"
        obtain ⟨mw, hmw, w0, w1⟩ : ∃ mw : Int, atI [V.int 3, V.int 100] t3 = some (.int mw) ∧ 1 ≤ mw ∧ mw ≤ 100 := by
          have : t3 = 0 ∨ t3 = 1 := by omega
          rcases this with rfl | rfl <;> exact ⟨_, rfl, by decide, by decide⟩
        refine x_lst c (by walk_at "sql") hmw ?_
        walk_at "ax"
        refine .mk O hd (by omega) (by decide) (by decide) fun rn o H5 O hd rn0 rn1 => ?_
        refine ⟨rn, rfl, by omega, by omega, ?_⟩
        refine lr_range (fun j acc _ C' => ∃ (ws : List (List Nat)) (o : HO), acc = ws.map (fun z => V.str (S z)) ∧ ws.length = j ∧ (∀ w ∈ ws, w.length ≤ 2) ∧ C' = (p, o) :: C ∧ DeckO (202 + 20 * m + j) o) c (by walk_at "ix") (by walk_at "dk") rfl (by omega) O ⟨[], _, rfl, rfl, (fun n h => by cases h), rfl, hd.mono (by omega)⟩ ?_ ?_
        · rintro j acc G2 C2 A H2 hj ⟨ws, o, rfl, hl, h2, rfl, hd⟩ O s2 X' c
          walk_at "ax"
          refine .mk O.swap hd (by omega) (by omega) (by omega) fun n o H3 O hd n0 n1 => ?_
          obtain ⟨k, rfl⟩ := Int.eq_ofNat_of_zero_le n0
          have hk : k < 100 := by omega
          walk_at "ax"
          refine c_strI (logT k hk) ?_
          walk_at "ax"
          have hnl := (num_of (n := (k : Int)) ⟨by omega, by omega⟩).1.2
          exact ⟨G2, _, O.swap, same_rfl, ws ++ [numI (k : Nat)], o, by simp [numI], by simp [hl], fun w hw => (List.mem_append.mp hw).elim (h2 w) fun hw => by rw [List.mem_singleton.mp hw]; exact hnl, rfl, hd⟩
        rintro acc G2 C2 A H2 hl9 ⟨ws, o, rfl, hl, h2, rfl, hd⟩ O s2
        obtain ⟨G3, s3, e3, O⟩ := O.frz
        have hsum := sum_two h2
        walk_at "ax"
        intro nz H_nz n_nz
        obtain ⟨G_nz, s_nz, e_nz, O⟩ := Own.fix (by walk_at "as") n_nz
        walk_at "ax"
        refine o_eqSL c (xs := ws) (ys := []) (.of (hp_up O (s_nz _ _ e3))) (.of ((hp_up O e_nz).trans rfl)) ?_
        refine k_b ?_
        refine i_decD (fun e => ?_) (fun e => ?_)
        · walk_at "ax"
          first | exact ⟨_, o, _, _, _, _, _, _, rfl, (by walk_at "ow"), (by walk_at "sm"), by rw [List.length_append, List.length_append]; omega, hd.mono (by omega)⟩
        · walk_at "ax"
          rw [e32]
          refine m_join c (sep := [32]) (.of (hp_up O (s_nz _ _ e3))) (by simp only [List.length_singleton]; omega) ?_
          have hj := joinL_len 32 ws
          walk_at "ax"
          first | exact ⟨_, o, _, _, _, _, _, _, rfl, (by walk_at "ow"), (by walk_at "sm"), by rw [List.length_append, List.length_append]; omega, hd.mono (by omega)⟩
      · rintro σ H ⟨z, o, b_way, b_k, b_most, b_words, b_j, G_T, rfl, O, s_T, hzl, hd⟩
        walk_at "ax"
        exact q _ o _ _ (by walk_at "sm") O (hd.mono (by omega)) (by omega)))) only [↓fn_ok]
theorem cal_law_text (T : Env K mg) : Cal P w K mg base 2 "_law_text" (Sp_law_text K) := cal_of T.d_law_text fun F => ok_law_text T F
end

end Law

namespace Law
open PySem PySem.Spec PyProof.Rows L2 Go
/-- something that is nearly good -/
inductive Sp_law_bad (K : PySem.W.Frag) : Sp
  | mk {G H : Hp} {C : List (Addr × HO)} {Q : VK} {E : XK} {p : Addr} {o : HO} {N : Nat} (O : Own G ((p, o) :: C) H) (hd : DeckO N o) (hN : N ≤ 10000)
      (q : ∀ (z : List Nat) (o : HO) (G' H' : Hp), Same G G' → Own G' ((p, o) :: C) H' → DeckO (N + 2) o → z.length ≤ 900 → Q (.str (S z)) H') : Sp_law_bad K [.ref p] H Q E
def Txts (xs : List V) : Prop := ∀ v ∈ xs, ∃ z : List Nat, v = V.str (S z) ∧ z.length ≤ 900
theorem txts_nil : Txts [] := fun v h => by cases h
theorem txts_cons {z : List Nat} {xs : List V} (h : z.length ≤ 900) (k : Txts xs) : Txts (V.str (S z) :: xs) := fun v hv => by
  rcases List.mem_cons.mp hv with rfl | hv
  · exact ⟨z, rfl, h⟩
  · exact k v hv
theorem txts_app {xs ys : List V} (h : Txts xs) (k : Txts ys) : Txts (xs ++ ys) := fun v hv => (List.mem_append.mp hv).elim (h v) (k v)
section
variable {P : Program} {w : World} {K : PySem.W.Frag} {mg : Str → Option Value} {base : Heap}
theorem ok_law_bad (T : Env K mg) {f : Addr} {fd : FuncData} (F : Fun K "_law_bad" "_law_bad" st_law_bad f fd) : FnOk P w K mg base CX0 2 f fd ["deck"] (Sp_law_bad K) := by
  simp (disch := (with_unfolding_all (
    refine into (N := ["deck", "some", "odd", "sign"]) (nm := nm_law_bad) F sc_law_bad ne_law_bad (fun vs H Q E h => by cases h <;> rfl) (by decide) (fun X H vs Q E c h => ?_)
    have C_law_take := cal_law_take (P := P) (w := w) (base := base) T
    have B_len := T.b_len
    cases h with
    | @mk G H C Q E p o N O hd hN q =>
    have lo : (cs "!#$'()*./:;<=>?@BMXY[]^`{|}~abz").length = 31 := by decide +kernel
    walk_at "in"
    walk_at "ax"
    intro s1 H_s1 n_s1
    obtain ⟨G_s1, s_s1, e_s1, O⟩ := Own.fix (by walk_at "as") n_s1
    walk_at "ax"
    have t1 : Txts _ := show Txts [V.str (S (cs "")), V.str (S (cs "-")), V.str (S (cs "--")), V.str (S (cs "00")), V.str (S (cs "01")), V.str (S (cs "-1")), V.str (S (cs "+1")), V.str (S (cs "1.0")), V.str (S (cs "100")), V.str (S (cs "99")), V.str (S (cs "x")), V.str (S (cs "0x1")), V.str (S (cs "way")), V.str (S (cs "not"))] by
      repeat (first | exact txts_nil | refine txts_cons (by decide +kernel) ?_)
    walk_at "ax"
    intro s2 H_s2 n_s2
    obtain ⟨G_s2, s_s2, e_s2, O⟩ := Own.fix (by walk_at "as") n_s2
    walk_at "ax"
    have t2 : Txts _ := show Txts [V.str (S (cs "way ")), V.str (S (cs "not ")), V.str (S (cs "2")), V.str (S (cs "way 2")), V.str (S (cs "way 01 ")), V.str (S (cs "way  1")), V.str (S (cs "Way 1")), V.str (S (cs "not\n")), V.str (S (cs "not\n0"))] by
      repeat (first | exact txts_nil | refine txts_cons (by decide +kernel) ?_)
    refine o_cat (hp_up O (s_s2 _ _ e_s1)) (hp_up O e_s2) (by simp) ?_
    intro c1 H_c1 n_c1
    obtain ⟨G_c1, s_c1, e_c1, O⟩ := Own.fix (by walk_at "as") n_c1
    walk_at "ax"
    have t3 := txts_app t1 t2
    walk_at "ax"
    intro s3 H_s3 n_s3
    obtain ⟨G_s3, s_s3, e_s3, O⟩ := Own.fix (by walk_at "as") n_s3
    walk_at "ax"
    have t4 : Txts _ := show Txts [V.str (S (cs "1 -")), V.str (S (cs "- 1")), V.str (S (cs "1\n")), V.str (S (cs "\n")), V.str (S (cs "0 "))] by
      repeat (first | exact txts_nil | refine txts_cons (by decide +kernel) ?_)
    refine o_cat (hp_up O (s_s3 _ _ e_c1)) (hp_up O e_s3) (by simp) ?_
    intro c2 H_c2 n_c2
    obtain ⟨G_c2, s_c2, e_c2, O⟩ := Own.fix (by walk_at "as") n_c2
    walk_at "ax"
    have t5 := txts_app t3 t4
    walk_at "ax"
    refine .mk O hd (by omega) (by rw [lo]; decide) (by rw [lo]; decide) fun r1 o H1 O hd r10 r11 => ?_
    have l7 : (cs "7").length = 1 := by decide +kernel
    have l71 : (cs "1").length = 1 := by decide +kernel
    have l72 : (cs "way 0").length = 5 := by decide +kernel
    have l73 : (cs "not\n").length = 4 := by decide +kernel
    walk_at "ax"
    refine o_repS (by decide) (by rw [l7]; decide) (by decide) ?_
    have l9 : (List.replicate (Int.toNat 900) (cs "7")).flatten.length = 900 := by decide +kernel
    walk_at "ax"
    intro s4 H_s4 n_s4
    obtain ⟨G_s4, s_s4, e_s4, O⟩ := Own.fix (by walk_at "as") n_s4
    walk_at "ax"
    have t6 : Txts _ := show Txts [V.str (S [(cs "!#$'()*./:;<=>?@BMXY[]^`{|}~abz").getD r1.toNat 0]), V.str (S (cs "1" ++ [(cs "!#$'()*./:;<=>?@BMXY[]^`{|}~abz").getD r1.toNat 0])), V.str (S (cs "way 0" ++ [(cs "!#$'()*./:;<=>?@BMXY[]^`{|}~abz").getD r1.toNat 0])), V.str (S (cs "not\n" ++ [(cs "!#$'()*./:;<=>?@BMXY[]^`{|}~abz").getD r1.toNat 0])), V.str (S (List.replicate (Int.toNat 900) (cs "7")).flatten)] from
      txts_cons (by simp) (txts_cons (by rw [List.length_append, l71]; simp) (txts_cons (by rw [List.length_append, l72]; simp) (txts_cons (by rw [List.length_append, l73]; simp) (txts_cons (by omega) txts_nil))))
    refine o_cat (hp_up O (s_s4 _ _ (show G_c2 c2 = _ from e_c2))) (hp_up O e_s4) (by simp) ?_
    intro c3 H_c3 n_c3
    obtain ⟨G_c3, s_c3, e_c3, O⟩ := Own.fix (by walk_at "as") n_c3
    walk_at "ax"
    obtain ⟨xs, ex, t7, x0⟩ : ∃ xs : List V, G_c3 c3 = some (.lst xs) ∧ Txts xs ∧ xs.length = 33 := ⟨_, e_c3, txts_app t5 t6, by simp⟩
    refine .mk O hd (by omega) (by simp) (by simp) fun r2 o H2 O hd r20 r21 => ?_
    have r21 : r2 < 33 := by simpa using r21
    obtain ⟨k, rfl⟩ := Int.eq_ofNat_of_zero_le r20
    have hk : k < xs.length := by omega
    obtain ⟨z, hz, hzl⟩ := t7 _ (List.getElem_mem hk)
    refine x_lst c (.of (hp_up O ex)) (atI_get (i := k) (v := V.str (S z)) (by rw [List.getElem?_eq_getElem hk, hz])) ?_
    walk_at "ax"
    exact q z o _ _ (by walk_at "sm") O hd hzl))) only [↓fn_ok]
theorem cal_law_bad (T : Env K mg) : Cal P w K mg base 2 "_law_bad" (Sp_law_bad K) := cal_of T.d_law_bad fun F => ok_law_bad T F
end

end Law

namespace Law
open PySem PySem.Spec PyProof.Rows L2 Go
/-- a text with something otherwise -/
inductive Sp_law_spoilt (K : PySem.W.Frag) : Sp
  | mk {G H : Hp} {C : List (Addr × HO)} {Q : VK} {E : XK} {p : Addr} {o : HO} {z : List Nat} (O : Own G ((p, o) :: C) H) (hd : DeckO 2000 o) (hl : z.length ≤ 1000)
      (q : ∀ (z : List Nat) (G' H' : Hp), Same G G' → Own G' C H' → z.length ≤ 4000 → Q (.str (S z)) H') : Sp_law_spoilt K [.ref p, .str (S z)] H Q E
section
variable {P : Program} {w : World} {K : PySem.W.Frag} {mg : Str → Option Value} {base : Heap}
theorem ok_law_spoilt (T : Env K mg) {f : Addr} {fd : FuncData} (F : Fun K "_law_spoilt" "_law_spoilt" st_law_spoilt f fd) : FnOk P w K mg base CX0 3 f fd ["deck", "text"] (Sp_law_spoilt K) := by
  simp (disch := (with_unfolding_all (
    refine into (N := ["deck", "text", "way", "at", "sign", "parting", "words"]) (nm := nm_law_spoilt) F sc_law_spoilt ne_law_spoilt (fun vs H Q E h => by cases h <;> rfl) (by decide) (fun X H vs Q E c h => ?_)
    have C_law_take := cal_law_take (P := P) (w := w) (base := base) T
    have C_law_bad := cal_law_bad (P := P) (w := w) (base := base) T
    have B_len := T.b_len
    cases h with
    | @mk G H C Q E p o z O hd hl q =>
    have lo : (cs " 0129-wn\n").length = 9 := by decide +kernel
    have e32 : cs " " = [32] := by decide +kernel
    have en : cs "\n" = [10] := by decide +kernel
    walk_at "in"
    walk_at "ax"
    refine .mk O hd (by decide) (by decide) (by decide) fun t1 o H1 O hd t10 t11 => ?_
    walk_at "ax"
    refine .mk O hd (by decide) (by omega) (by omega) fun at1 o H2 O hd a0 a1 => ?_
    walk_at "ax"
    refine .mk O hd (by decide) (by decide) (by decide) fun sg o H3 O hd s0 s1 => ?_
    walk_at "ax"
    have hcase : t1 = 0 ∨ (¬ t1 = 0 ∧ t1 < 3) ∨ t1 = 3 ∨ (¬ t1 = 0 ∧ ¬ t1 < 3 ∧ ¬ t1 = 3) := by omega
    rcases hcase with h1 | ⟨h1, h2⟩ | h1 | ⟨h1, h2, h3⟩
    · walk_at "ax"
      refine q _ _ _ (by walk_at "sm") O.drop ?_
      simp only [List.length_append, List.length_take, List.length_drop]
      omega
    · walk_at "ax"
      refine q _ _ _ (by walk_at "sm") O.drop ?_
      simp only [List.length_append, List.length_take, List.length_drop, List.length_singleton]
      omega
    · have h2 : ¬ t1 = 0 := by omega
      have h3 : ¬ t1 < 3 := by omega
      walk_at "ax"
      refine .mk O hd (by omega) fun b o G4 H4 s4 O hd hb => ?_
      exact q b _ _ (by walk_at "sm") O.drop (by omega)
    · walk_at "ax"
      rename_i pt Hp nt Gp sp ep O
      refine .mk O hd (by omega) (by decide) (by decide) fun t2 o H4 O hd t20 t21 => ?_
      obtain ⟨cc, hc2, hc⟩ : ∃ cc : Nat, atI [V.str (S (cs " ")), V.str (S (cs "\n"))] t2 = some (.str (S [cc])) ∧ cc < 256 := by
        have : t2 = 0 ∨ t2 = 1 := by omega
        rcases this with rfl | rfl
        · exact ⟨32, by rw [e32]; rfl, by decide⟩
        · exact ⟨10, by rw [en]; rfl, by decide⟩
      refine x_lst c (by walk_at "sql") hc2 ?_
      walk_at "ax"
      refine e_sm1 (id := "str.split") (name := "split") PySem.F.slot_str_split PySem.F.type_str_split rfl rfl rfl ?_
      walk_at "ax"
      obtain ⟨k1, k2, k3⟩ := splitL_all cc z
      rw [← k1]
      refine m_split hc (splitL_ne cc z) k2 (by rw [k1]; omega) fun wp Hw nw => ?_
      rw [k1]
      obtain ⟨Gw, sw, ew, O⟩ := O.fix nw
      obtain ⟨ws, hws⟩ : ∃ ws, ws = splitL cc z := ⟨_, rfl⟩
      rw [← hws] at ew k3
      have hwl : ws.length ≤ 1001 := by omega
      walk_at "ax"
      refine .mk O hd (by omega) (by rw [List.length_map]; omega) (by rw [List.length_map]; omega) fun at2 o H5 O hd b0 b1 => ?_
      rw [List.length_map] at b1
      walk_at "ax"
      refine l_lst c (.of (hp_up O ew)) fun l1 Ha na => ?_
      rw [cut_to _ _ b0, ← List.map_take] at na
      obtain ⟨Ga, sa, ea, O⟩ := O.fix na
      walk_at "ax"
      refine .mk O hd (by omega) fun b o G6 H6 s6 O hd hb => ?_
      walk_at "ax"
      intro l2 H_l2 n_l2
      obtain ⟨G_l2, s_l2, e_l2, O⟩ := Own.fix (by walk_at "as") n_l2
      walk_at "ax"
      refine o_cat (hp_up O (s_l2 _ _ (s6 _ _ ea))) (hp_up O e_l2) (by simp only [List.length_map, List.length_take, List.length_singleton]; omega) ?_
      intro l3 H_l3 n_l3
      obtain ⟨G_l3, s_l3, e_l3, O⟩ := Own.fix (by walk_at "as") n_l3
      walk_at "ax"
      have e_l3' : G_l3 l3 = some (.lst ((ws.take at2.toNat ++ [b]).map fun z => V.str (S z))) := by rw [e_l3, List.map_append]; rfl
      refine l_lst c (.of (hp_up O (show G_l3 wp = _ by walk_at "gp"))) fun l4 Hb nb => ?_
      rw [cut_from _ _ (by omega), ← List.map_drop] at nb
      obtain ⟨Gb, sb, eb, O⟩ := O.fix nb
      walk_at "ax"
      refine o_cat (hp_up O (sb _ _ e_l3')) (hp_up O eb) (by simp only [List.length_map, List.length_append, List.length_take, List.length_drop, List.length_singleton]; omega) ?_
      intro l5 H_l5 n_l5
      obtain ⟨G_l5, s_l5, e_l5, O⟩ := Own.fix (by walk_at "as") n_l5
      walk_at "ax"
      obtain ⟨ls, hls⟩ : ∃ ls, ls = ws.take at2.toNat ++ [b] ++ ws.drop (at2 + t1 - 4).toNat := ⟨_, rfl⟩
      have e_l5' : G_l5 l5 = some (.lst (ls.map fun z => V.str (S z))) := by rw [e_l5, hls, ← List.map_append]
      have hsum : (ls.map (·.length)).sum + ls.length ≤ 3000 := by
        have tk1 : ∀ (ws : List (List Nat)) (n : Nat), ((ws.take n).map (·.length)).sum ≤ (ws.map (·.length)).sum := fun ws n => by
          have h := congrArg (fun l : List (List Nat) => (l.map (·.length)).sum) (List.take_append_drop n ws)
          simp only [List.map_append, List.sum_append] at h
          omega
        have tk2 : ∀ (ws : List (List Nat)) (n : Nat), ((ws.drop n).map (·.length)).sum ≤ (ws.map (·.length)).sum := fun ws n => by
          have h := congrArg (fun l : List (List Nat) => (l.map (·.length)).sum) (List.take_append_drop n ws)
          simp only [List.map_append, List.sum_append] at h
          omega
        have h1 := tk1 ws at2.toNat
        have h2 := tk2 ws (at2 + t1 - 4).toNat
        rw [hls]
        simp only [List.map_append, List.sum_append, List.map_cons, List.map_nil, List.sum_cons, List.sum_nil, List.length_append, List.length_take, List.length_drop, List.length_singleton]
        omega
      refine m_join c (sep := [cc]) (.of (hp_up O e_l5')) (by simp only [List.length_singleton]; omega) ?_
      have hj := joinL_len cc ls
      walk_at "ax"
      exact q _ _ _ (by walk_at "sm") O.drop (by omega)))) only [↓fn_ok]
theorem cal_law_spoilt (T : Env K mg) : Cal P w K mg base 3 "_law_spoilt" (Sp_law_spoilt K) := cal_of T.d_law_spoilt fun F => ok_law_spoilt T F
end

end Law

namespace Law
open PySem PySem.Spec PyProof.Rows L2 Go
/-- the number in a word, or None -/
inductive Sp_law_number_in (K : PySem.W.Frag) : Sp
  | mk {G H : Hp} {C : List (Addr × HO)} {Q : VK} {E : XK} {w : List Nat} (O : Own G C H) (hl : w.length ≤ 10000) (q : ∀ (G' H' : Hp), Same G G' → Own G' C H' → Q (optV (numR w)) H') : Sp_law_number_in K [.str (S w)] H Q E
theorem law_figs_in {x : Nat} : x ∈ cs "0123456789" ↔ 48 ≤ x ∧ x ≤ 57 := by
  rw [show cs "0123456789" = (List.range 10).map (48 + ·) by decide +kernel, List.mem_map]
  constructor
  · rintro ⟨a, ha, rfl⟩
    have := List.mem_range.mp ha
    omega
  · intro h
    exact ⟨x - 48, List.mem_range.mpr (by omega), by omega⟩
section
variable {P : Program} {w : World} {K : PySem.W.Frag} {mg : Str → Option Value} {base : Heap}
theorem ok_law_number_in (T : Env K mg) {f : Addr} {fd : FuncData} (F : Fun K "_law_number_in" "_law_number_in" st_law_number_in f fd) : FnOk P w K mg base CX0 1 f fd ["word"] (Sp_law_number_in K) := by
  simp (disch := (with_unfolding_all (
    refine into (N := ["word", "figure"]) (nm := nm_law_number_in) F sc_law_number_in ne_law_number_in (fun vs H Q E h => by cases h <;> rfl) (by decide) (fun X H vs Q E c h => ?_)
    have B_all := T.b_all
    have B_int := T.b_int
    have B_len := T.b_len
    cases h with
    | @mk G H C Q E w O hl q =>
    walk_at "in"
    by_cases l1 : 1 ≤ w.length
    · walk_at "ax"
      rw [show cs "0" = [48] by decide +kernel]
      by_cases hb : w.length ≤ 2 ∧ ¬ (w.getD 0 0 = 48 ∧ w ≠ [48])
      · rw [if_neg (by
          simp only [Bool.or_eq_true, Bool.and_eq_true, Bool.not_eq_true', decide_eq_true_eq, decide_eq_false_iff_not, List.cons.injEq, and_true]
          rintro (h | h)
          · exact h (by omega)
          · exact hb.2 ⟨h.1, h.2⟩)]
        walk_at "ax"
        rename_i Hj Gj sj O
        refine i_str ?_
        walk_at "ax"
        refine ⟨w, rfl, ?_⟩
        refine lr_str (fun m acc _ C' => acc = ((w.take m).map fun x => decide (48 ≤ x ∧ x ≤ 57)).map V.bl ∧ C = C') c (by walk_at "ix") (by walk_at "dk") rfl (by omega) O ⟨rfl, rfl⟩ ?_ ?_
        · rintro m ch acc G2 C2 A H2 hch ⟨rfl, rfl⟩ O s2 X' c
          walk_at "ax"
          refine ⟨G2, _, O, same_rfl, ?_, rfl⟩
          rw [List.take_add_one, hch, List.map_append, List.map_append]
          refine congrArg (_ ++ ·) ?_
          show [V.bl (decide (ch ∈ cs "0123456789"))] = [V.bl (decide (48 ≤ ch ∧ ch ≤ 57))]
          rw [decide_eq_decide.mpr law_figs_in]
        rintro acc G2 C2 A H2 hl9 ⟨rfl, rfl⟩ O s2
        rw [List.take_length] at O
        obtain ⟨G3, s3, e3, O⟩ := O.frz
        have s9 : Same G G3 := by walk_at "sm"
        walk_at "ax"
        refine c_all c (.of (hp_up O e3)) ?_
        have hq := q G3 H2 s9 O
        by_cases hd : ∀ x ∈ w, 48 ≤ x ∧ x ≤ 57
        · obtain ⟨n, e1, e2, _⟩ := numR_ok ⟨⟨l1, hb.1⟩, hb.2, hd⟩
          have ha : ((w.map fun x => decide (48 ≤ x ∧ x ≤ 57)).all id) = true := by
            rw [List.all_map, List.all_eq_true]
            exact fun x hx => decide_eq_true (hd x hx)
          rw [ha]
          rw [e1] at hq
          walk_at "ax"
          refine c_intS e2 (by omega) ?_
          walk_at "ax"
          exact hq
        · have ha : ((w.map fun x => decide (48 ≤ x ∧ x ≤ 57)).all id) = false := by
            rw [Bool.eq_false_iff]
            intro z
            rw [List.all_map, List.all_eq_true] at z
            exact hd fun x hx => of_decide_eq_true (z x hx)
          rw [ha]
          rw [numR_no fun z => hd z.2.2] at hq
          walk_at "ax"
          exact hq
      · rw [if_pos (by
          simp only [Bool.or_eq_true, Bool.and_eq_true, Bool.not_eq_true', decide_eq_true_eq, decide_eq_false_iff_not, List.cons.injEq, and_true]
          by_cases h : w.length ≤ 2
          · exact .inr (by
              by_cases h2 : w.getD 0 0 = 48 ∧ w ≠ [48]
              · exact h2
              · exact absurd ⟨h, h2⟩ hb)
          · exact .inl (by omega))]
        walk_at "ax"
        rename_i Hj Gj sj O
        have := q Gj Hj (by walk_at "sm") O
        rw [numR_no fun z => hb ⟨z.1.2, z.2.1⟩] at this
        exact this
    · walk_at "ax"
      have := q G H same_rfl O
      rw [numR_no fun z => l1 z.1.1] at this
      exact this))) only [↓fn_ok]
theorem cal_law_number_in (T : Env K mg) : Cal P w K mg base 1 "_law_number_in" (Sp_law_number_in K) := cal_of T.d_law_number_in fun F => ok_law_number_in T F
end

end Law

namespace Law
open PySem PySem.Spec PyProof.Rows L2 Go
/-- the paper in a text, or None -/
inductive Sp_law_paper_in (K : PySem.W.Frag) : Sp
  | mk {G H : Hp} {C : List (Addr × HO)} {Q : VK} {E : XK} {z : List Nat} (O : Own G C H) (hl : z.length ≤ 9000)
      (q : ∀ (d : Pap) (r : Addr) (G' H' : Hp), papR z = some d → Same G G' → Own G' C H' → (∀ (G2 H2 : Hp) (C2 : List (Addr × HO)), Same G' G2 → Own G2 C2 H2 → Dp K H2 (.ref r) d.d) → Q (.ref r) H')
      (qn : papR z = none → ∀ (G' H' : Hp), Same G G' → Own G' C H' → Q .non H') : Sp_law_paper_in K [.str (S z)] H Q E
section
variable {P : Program} {w : World} {K : PySem.W.Frag} {mg : Str → Option Value} {base : Heap}
theorem ok_law_paper_in (T : Env K mg) {f : Addr} {fd : FuncData} (F : Fun K "_law_paper_in" "_law_paper_in" st_law_paper_in f fd) : FnOk P w K mg base CX0 2 f fd ["text"] (Sp_law_paper_in K) := by
  simp (disch := (with_unfolding_all (
    refine into (N := ["text", "way", "good", "lines", "lists", "line", "numbers", "word", "sign"]) (nm := nm_law_paper_in) F sc_law_paper_in ne_law_paper_in (fun vs H Q E h => by cases h <;> rfl) (by decide) (fun X H vs Q E c h => ?_)
    have C_law_number_in := cal_law_number_in (P := P) (w := w) (base := base) T
    have B_len := T.b_len
    cases h with
    | @mk G H C Q E z O hl q qn =>
    have en : cs "\n" = [10] := by decide +kernel
    have e45 : cs "-" = [45] := by decide +kernel
    have e32 : cs " " = [32] := by decide +kernel
    have e0 : cs "" = [] := by decide +kernel
    have e01 : cs "01" = [48, 49] := by decide +kernel
    walk_at "in"
    walk_at "ax"
    refine i_decD (fun e => ?_) (fun e => ?_)
    · have e : z.take 4 = cs "way " := e
      walk_at "ax"
      rw [e45]
      have hd4 : z.drop (Int.toNat 4) = z.drop 4 := rfl
      rw [hd4]
      obtain ⟨y, hy⟩ : ∃ y, y = z.drop 4 := ⟨_, rfl⟩
      have hyl : y.length ≤ z.length := by rw [hy, List.length_drop]; omega
      have hpr : papR z = (wayR y).map .way := by unfold papR; rw [if_pos e, hy]
      rw [← hy]
      refine i_decD (fun e2 => ?_) (fun e2 => ?_)
      · have hwy : wayR y = some [] := by unfold wayR; rw [if_pos e2]
        have hfy : y.filter (fun x => x != 45) = [] := by rw [e2]; rfl
        refine g_st (g_ret (e_if ?_))
        walk_at "st"
        simp only [List.set]
        walk_at "st"
        refine ⟨true, rfl, ?_⟩
        rw [if_pos rfl]
        refine g_tup (a_strike (c := 45) (by decide +kernel) (by decide +kernel) rfl rfl rfl rfl rfl ?_)
        walk_at "ax"
        refine ⟨y, rfl, by omega, ?_⟩
        walk_at "ax"
        rename_i rr Hr nr Gr sr er O
        have er' : Gr rr = some (.tup [.str (S (cs "way")), .str (S [])]) := by rw [er, hfy, S_cs]
        exact q (.way []) rr _ _ (by rw [hpr, hwy]; rfl) (by walk_at "sm") O fun G2 H2 C2 s2 O2 => .tup (.of (hp_up O2 (s2 _ _ er'))) (.cons (.str _) (.cons (.str _) .nil))
      · by_cases e3 : y = []
        · have e3' : y = cs "" := by rw [e0]; exact e3
          walk_at "ax"
          exact qn (by rw [hpr]; unfold wayR; rw [if_neg e2, if_neg fun h => h.1 e3]; rfl) _ _ same_rfl O
        · have e3' : ¬ y = cs "" := by rw [e0]; exact e3
          walk_at "ax"
          refine i_str ?_
          walk_at "ax"
          refine ⟨y, rfl, ?_⟩
          refine lc_str (fun m acc _ C' => acc = ((y.take m).filter (fun x => !decide (x ∈ cs "01"))).map (fun x => V.str (S [x])) ∧ C = C') c rfl (show y.length ≤ 1000000 by omega) O ⟨rfl, rfl⟩ ?_ ?_
          · rintro m x acc G2 C2 A H2 hx ⟨rfl, rfl⟩ O s2 X' c
            simp only [wipe, List.set]
            walk_at "ax"
            refine ⟨rfl, fun X' c => ?_⟩
            refine ts_one ?_
            walk_at "ax"
            by_cases hxz : x ∈ cs "01"
            · simp only [decide_eq_true hxz, Bool.not_true]
              exact ⟨_, _, by walk_at "as", by walk_at "sm", by rw [List.take_add_one, hx]; simp [hxz], rfl⟩
            · simp only [decide_eq_false hxz, Bool.not_false]
              intro X' c
              walk_at "ax"
              exact ⟨_, _, by walk_at "as", by walk_at "sm", by rw [List.take_add_one, hx]; simp [hxz], rfl⟩
          rintro acc G2 C2 A H2 hl2 ⟨rfl, rfl⟩ O s2
          rw [List.take_length] at O
          obtain ⟨G3, s3, e3, O⟩ := O.frz
          walk_at "ax"
          intro p7 H_p7 n_p7
          obtain ⟨G_p7, s_p7, e_p7, O⟩ := Own.fix (by walk_at "as") n_p7
          walk_at "ax"
          refine o_eqNil c (.of (hp_up O (s_p7 _ _ e3))) (.of (hp_up O e_p7)) ?_
          have hiff : y.filter (fun x => !decide (x ∈ cs "01")) = [] ↔ ∀ x ∈ y, x = 48 ∨ x = 49 := by
            rw [List.filter_eq_nil_iff, e01]
            simp
            constructor
            · intro h x hx
              by_cases h48 : x = 48
              · exact .inl h48
              · exact .inr (h x hx h48)
            · intro h x hx h48
              exact (h x hx).resolve_left h48
          by_cases hf : ∀ x ∈ y, x = 48 ∨ x = 49
          · rw [decide_eq_true (hiff.mpr hf)]
            have hwy : wayR y = some y := by unfold wayR; rw [if_neg e2, if_pos ⟨‹_›, hf⟩]
            have hfy : y.filter (fun x => x != 45) = y := List.filter_eq_self.mpr fun x hx => by
              have := hf x hx
              simp; omega
            refine g_st (g_ret (e_if ?_))
            walk_at "st"
            simp only [List.set]
            walk_at "st"
            refine ⟨true, rfl, ?_⟩
            rw [if_pos rfl]
            refine g_tup (a_strike (c := 45) (by decide +kernel) (by decide +kernel) rfl rfl rfl rfl rfl ?_)
            walk_at "ax"
            refine ⟨y, rfl, by omega, ?_⟩
            walk_at "ax"
            rename_i rr Hr nr Gr sr er O
            have er' : Gr rr = some (.tup [.str (S (cs "way")), .str (S y)]) := by rw [er, hfy, S_cs]
            exact q (.way y) rr _ _ (by rw [hpr, hwy]; rfl) (by walk_at "sm") O fun G2 H2 C2 s2 O2 => .tup (.of (hp_up O2 (s2 _ _ er'))) (.cons (.str _) (.cons (.str _) .nil))
          · rw [decide_eq_false fun h => hf (hiff.mp h)]
            walk_at "ax"
            exact qn (by rw [hpr]; unfold wayR; rw [if_neg e2, if_neg fun h => hf h.2]; rfl) _ _ (by walk_at "sm") O
    · have e : ¬ z.take 4 = cs "way " := e
      walk_at "ax"
      refine e_sm1 (id := "str.split") (name := "split") PySem.F.slot_str_split PySem.F.type_str_split rfl rfl rfl ?_
      walk_at "ax"
      obtain ⟨j1, j2, j3⟩ := splitL_all 10 z
      have hnw := splitL_len (c := 10) (l := z)
      rw [en, ← j1]
      refine m_split (by decide) (splitL_ne 10 z) j2 (by rw [j1]; omega) fun lp Hl nl => ?_
      rw [j1]
      obtain ⟨Gl, sl, el, O⟩ := O.fix nl
      obtain ⟨l0, lt, hsp⟩ : ∃ l0 lt, splitL 10 z = l0 :: lt := by
        cases h : splitL 10 z with
        | nil => exact absurd h (splitL_ne 10 z)
        | cons a b => exact ⟨a, b, rfl⟩
      have hpr : papR z = if l0 ≠ cs "not" ∨ lt.length + 1 < 2 then none else (manyR listR lt).map .nots := by
        unfold papR
        rw [if_neg e, hsp]
        rfl
      rw [hsp] at el
      have hL1 : ((l0 :: lt).map fun z => V.str (S z)).length = lt.length + 1 := by rw [List.length_map, List.length_cons]
      walk_at "ax"
      refine x_lst c (.of (hp_up O el)) (show atI ((l0 :: lt).map fun z => V.str (S z)) 0 = some (V.str (S l0)) from atI_get (i := 0) rfl) ?_
      walk_at "ax"
      rename_i Hj Gj sj O
      rw [hL1]
      by_cases hb : l0 ≠ cs "not" ∨ lt.length + 1 < 2
      · rw [if_pos (by
          simp only [Bool.or_eq_true, Bool.not_eq_true', decide_eq_true_eq, decide_eq_false_iff_not]
          exact hb.imp id fun h => by omega)]
        walk_at "ax"
        exact qn (by rw [hpr, if_pos hb]) _ _ (by walk_at "sm") O
      · rw [if_neg (by
          simp only [Bool.or_eq_true, Bool.not_eq_true', decide_eq_true_eq, decide_eq_false_iff_not]
          exact fun h => hb (h.imp id fun h => by omega))]
        rw [if_neg hb] at hpr
        walk_at "ax"
        intro la H_la n_la
        have O := Own.more (by walk_at "as") n_la
        walk_at "ax"
        refine s_for c (fun _ => rfl) (i_listK c ?_)
        walk_at "ax"
        refine l_lst c (.of (hp_up O (sj _ _ el))) fun li H6 n6 => ?_
        rw [cut_from _ _ (by decide)] at n6
        have n6 : New _ li (.lst (lt.map fun z => V.str (S z))) H6 := n6
        obtain ⟨G6, s6, e6, O⟩ := O.fix n6
        refine ⟨li, _, rfl, .of (hp_up O e6), ?_⟩
        refine on_listK c (xs := lt.map fun z => V.str (S z)) (fun m σ H => ∃ (ps : List Addr) (ys : List (List Int)) (b_way b_good b_lines b_line b_numbers b_word b_sign : Option V) (G_L : Hp), σ = [some (.str (S z)), b_way, b_good, b_lines, some (.ref la), b_line, b_numbers, b_word, b_sign] ∧ Own G_L ((la, .lst (ps.map V.ref)) :: C) H ∧ Same G6 G_L ∧ ps.length = m ∧ ys.length = m ∧ (lt.take m).map listR = ys.map some ∧ (∀ (i : Nat) (p : Addr) (ns : List Int), ps[i]? = some p → ys[i]? = some ns → G_L p = some (.lst (ns.map V.int)))) ⟨[], [], _, _, _, _, _, _, _, _, rfl, (by walk_at "ow"), (by walk_at "sm"), rfl, rfl, rfl, fun i p ns h => by simp at h⟩ ?_ ?_ ?_
        · rintro m σ H hm ⟨ps, ys, b_way, b_good, b_lines, b_line, b_numbers, b_word, b_sign, G_L, rfl, O, s_L, hpl, hyl, hys, hps⟩
          exact .of (hp_up O (s_L _ _ e6))
        · rintro m x σ H hx ⟨ps, ys, b_way, b_good, b_lines, b_line, b_numbers, b_word, b_sign, G_L, rfl, O, s_L, hpl, hyl, hys, hps⟩
          rw [List.getElem?_map] at hx
          obtain ⟨u, hu, rfl⟩ := Option.map_eq_some_iff.mp hx
          have hum : u.length ≤ z.length := splitL_mem (c := 10) (by rw [hsp]; exact List.mem_cons_of_mem _ (List.mem_of_getElem? hu))
          have hml : m < lt.length := (List.getElem?_eq_some_iff.mp hu).1
          have hltl : lt.length ≤ z.length := by rw [hsp, List.length_cons] at hnw; omega
          walk_at "ax"
          rw [e45]
          refine i_decD (fun e4 => ?_) (fun e4 => ?_)
          · have hlr : listR u = some [] := by unfold listR; rw [if_pos e4]
            walk_at "ax"
            intro nn H_nn n_nn
            obtain ⟨G_nn, s_nn, e_nn, O⟩ := Own.fix (by walk_at "as") n_nn
            walk_at "ax"
            obtain ⟨os, hos⟩ : ∃ os : List (Option Int), os = [] := ⟨_, rfl⟩
            have e_os : G_nn nn = some (.lst (os.map optV)) := by rw [hos]; exact e_nn
            have hA : none ∈ os → listR u = none := fun h => by rw [hos] at h; cases h
            have hB : ∀ ns : List Int, os = ns.map some → listR u = some ns := fun ns h => by
              rw [hos] at h
              rw [List.map_eq_nil_iff.mp h.symm]
              exact hlr
            walk_at "ax"
            refine o_inQ c (.inl (.of (hp_up O e_os))) rfl (opt_flat os) ?_
            rw [opt_in]
            refine ⟨_, rfl, ?_⟩
            refine i_decD (fun hno => ?_) (fun hno => ?_)
            · walk_at "ax"
              refine qn ?_ _ _ (by walk_at "sm") O.drop
              rw [hpr, manyR_bad (List.mem_of_getElem? hu) (hA hno)]
              rfl
            · obtain ⟨ns, hns⟩ := opt_all hno
              have hlr2 := hB ns hns
              rw [hns, opt_V] at e_os
              walk_at "ax"
              rename_i Hx O
              rw [show ps.map V.ref ++ [V.ref nn] = (ps ++ [nn]).map V.ref by simp] at O
              have sLn : Same G_L G_nn := by walk_at "sm"
              have hmap : (lt.take (m + 1)).map listR = (ys ++ [ns]).map some := by
                rw [List.take_add_one, hu, List.map_append, hys, List.map_append]
                show _ ++ [listR u] = _
                rw [hlr2]
                rfl
              have hfin : ∀ (i : Nat) (p : Addr) (ms : List Int), (ps ++ [nn])[i]? = some p → (ys ++ [ns])[i]? = some ms → G_nn p = some (.lst (ms.map V.int)) := fun i p ms hp hm => by
                by_cases e : i < ps.length
                · rw [List.getElem?_append_left e] at hp
                  rw [List.getElem?_append_left (by omega)] at hm
                  exact sLn _ _ (hps i p ms hp hm)
                · have h2 := (List.getElem?_eq_some_iff.mp hp).1
                  rw [List.length_append, List.length_singleton] at h2
                  obtain rfl : i = m := by omega
                  rw [List.getElem?_append_right (by omega), hpl, Nat.sub_self] at hp
                  obtain rfl := Option.some.inj hp
                  rw [List.getElem?_append_right (by omega), hyl, Nat.sub_self] at hm
                  obtain rfl := Option.some.inj hm
                  exact e_os
              first | exact ⟨(ps ++ [nn]), (ys ++ [ns]), _, _, _, _, _, _, _, _, rfl, (by walk_at "ow"), (by walk_at "sm"), by simp [hpl], by simp [hyl], hmap, hfin⟩
          · walk_at "ax"
            refine i_listK c ?_
            refine e_sm1 (id := "str.split") (name := "split") PySem.F.slot_str_split PySem.F.type_str_split rfl rfl rfl ?_
            walk_at "ax"
            obtain ⟨k1, k2, k3⟩ := splitL_all 32 u
            have hnu := splitL_len (c := 32) (l := u)
            rw [e32, ← k1]
            refine m_split (by decide) (splitL_ne 32 u) k2 (by rw [k1]; omega) fun wp Hw nw => ?_
            obtain ⟨Gw, sw, ew, O⟩ := O.fix nw
            refine ⟨wp, _, rfl, .of (hp_up O ew), ?_⟩
            refine lr_list (fun m acc _ C' => acc = (((splitL 32 u).take m).map numR).map optV ∧ C' = (la, .lst (ps.map V.ref)) :: C) c (by walk_at "ix") (by walk_at "dk") rfl (.of ew) (by rw [List.length_map]; omega) O ⟨rfl, rfl⟩ ?_ ?_
            · rintro m x acc G2 C2 A H2 hx ⟨rfl, rfl⟩ O s2 X' c
              rw [List.getElem?_map] at hx
              obtain ⟨v, hv, rfl⟩ := Option.map_eq_some_iff.mp hx
              have hvm := splitL_mem (List.mem_of_getElem? hv)
              walk_at "ax"
              refine .mk O (by omega) fun G3 H3 s3 O => ?_
              exact ⟨G3, _, O, s3, by rw [List.take_add_one, hv, List.map_append, List.map_append]; rfl, rfl⟩
            rintro acc G2 C2 nn H2 hl9 ⟨rfl, rfl⟩ O s2
            rw [List.length_map, List.take_length] at O
            obtain ⟨os, hos⟩ : ∃ os : List (Option Int), os = (splitL 32 u).map numR := ⟨_, rfl⟩
            rw [← hos] at O
            obtain ⟨G_nn, s_nn, e_os, O⟩ := O.frz
            have hA : none ∈ os → listR u = none := fun h => by
              rw [hos] at h
              obtain ⟨v, hv, e⟩ := List.mem_map.mp h
              unfold listR
              rw [if_neg e4]
              exact manyR_bad hv e
            have hB : ∀ ns : List Int, os = ns.map some → listR u = some ns := fun ns h => by
              unfold listR
              rw [if_neg e4]
              exact manyR_of (hos.symm.trans h)
            walk_at "ax"
            refine o_inQ c (.inl (.of (hp_up O e_os))) rfl (opt_flat os) ?_
            rw [opt_in]
            refine ⟨_, rfl, ?_⟩
            refine i_decD (fun hno => ?_) (fun hno => ?_)
            · walk_at "ax"
              refine qn ?_ _ _ (by walk_at "sm") O.drop
              rw [hpr, manyR_bad (List.mem_of_getElem? hu) (hA hno)]
              rfl
            · obtain ⟨ns, hns⟩ := opt_all hno
              have hlr2 := hB ns hns
              rw [hns, opt_V] at e_os
              walk_at "ax"
              rename_i Hx O
              rw [show ps.map V.ref ++ [V.ref nn] = (ps ++ [nn]).map V.ref by simp] at O
              have sLn : Same G_L G_nn := by walk_at "sm"
              have hmap : (lt.take (m + 1)).map listR = (ys ++ [ns]).map some := by
                rw [List.take_add_one, hu, List.map_append, hys, List.map_append]
                show _ ++ [listR u] = _
                rw [hlr2]
                rfl
              have hfin : ∀ (i : Nat) (p : Addr) (ms : List Int), (ps ++ [nn])[i]? = some p → (ys ++ [ns])[i]? = some ms → G_nn p = some (.lst (ms.map V.int)) := fun i p ms hp hm => by
                by_cases e : i < ps.length
                · rw [List.getElem?_append_left e] at hp
                  rw [List.getElem?_append_left (by omega)] at hm
                  exact sLn _ _ (hps i p ms hp hm)
                · have h2 := (List.getElem?_eq_some_iff.mp hp).1
                  rw [List.length_append, List.length_singleton] at h2
                  obtain rfl : i = m := by omega
                  rw [List.getElem?_append_right (by omega), hpl, Nat.sub_self] at hp
                  obtain rfl := Option.some.inj hp
                  rw [List.getElem?_append_right (by omega), hyl, Nat.sub_self] at hm
                  obtain rfl := Option.some.inj hm
                  exact e_os
              first | exact ⟨(ps ++ [nn]), (ys ++ [ns]), _, _, _, _, _, _, _, _, rfl, (by walk_at "ow"), (by walk_at "sm"), by simp [hpl], by simp [hyl], hmap, hfin⟩
        · rintro σ H ⟨ps, ys, b_way, b_good, b_lines, b_line, b_numbers, b_word, b_sign, G_L, rfl, O, s_L, hpl, hyl, hys, hps⟩
          rw [List.length_map] at hpl hyl hys
          rw [List.take_length] at hys
          rw [manyR_of hys] at hpr
          walk_at "ax"
          rename_i rr Hr nr Gr sr er O
          obtain ⟨Gz, sz, ez, O⟩ := O.frz
          have hL : LL Gz la ps ys := ⟨ez, by rw [hpl, hyl], fun i p ns hp hn => sz _ _ (sr _ _ (hps i p ns hp hn))⟩
          exact q (.nots ys) rr _ _ hpr (by walk_at "sm") O fun G2 H2 C2 s2 O2 => .tup (.of (hp_up O2 (s2 _ _ (sz _ _ er)))) (.cons (.str _) (.cons (nl_dp (ll_own2 (ll_up2 hL s2) O2)) .nil))))) only [↓fn_ok]
theorem cal_law_paper_in (T : Env K mg) : Cal P w K mg base 2 "_law_paper_in" (Sp_law_paper_in K) := cal_of T.d_law_paper_in fun F => ok_law_paper_in T F
end

end Law

namespace Law
open PySem PySem.Spec PyProof.Rows L2 Go
/-- a text is read just where it is a paper -/
inductive Sp_law_right (K : PySem.W.Frag) : Sp
  | mk {G H : Hp} {C : List (Addr × HO)} {Q : VK} {E : XK} {z : List Nat} (O : Own G C H) (hl : z.length ≤ 5000) (q : ∀ (G' H' : Hp), Same G G' → Own G' C H' → Q (.bl true) H') : Sp_law_right K [.str (S z)] H Q E
section
variable {P : Program} {w : World} {K : PySem.W.Frag} {mg : Str → Option Value} {base : Heap}
theorem ok_law_right (T : Env K mg) {f : Addr} {fd : FuncData} (F : Fun K "_law_right" "_law_right" st_law_right f fd) : FnG P w K mg base CX0 4 f fd ["text"] (Sp_law_right K) := by
  simp (disch := (with_unfolding_all (
    refine intoTG (N := ["text", "found", "kinds", "e", "due"]) (nm := nm_law_right) F sc_law_right ne_law_right (fun vs H Q E h => by cases h <;> rfl) (by decide) (fun X H vs Q E c tp hG h => ?_)
    have C_law_paper_in := cal_law_paper_in (P := P) (w := w) (base := base) T
    have R_read_paper := calX_read_paper (P := P) (w := w) (base := base) T
    have B_repr := T.b_repr
    have B_isinstance := T.b_isinstance
    have B_ValueError := T.b_ValueError
    have E_WeaveError := T.x_WeaveError
    have M_WeaveError := T.x_WeaveError.mg
    have E_NoText := T.x_NoText
    have M_NoText := T.x_NoText.mg
    have E_NoCommand := T.x_NoCommand
    have M_NoCommand := T.x_NoCommand.mg
    have E_NoLength := T.x_NoLength
    have M_NoLength := T.x_NoLength.mg
    have E_NoLetter := T.x_NoLetter
    have M_NoLetter := T.x_NoLetter.mg
    have E_NoPlace := T.x_NoPlace
    have M_NoPlace := T.x_NoPlace.mg
    have E_NoSide := T.x_NoSide
    have M_NoSide := T.x_NoSide.mg
    have E_NoWay := T.x_NoWay
    have M_NoWay := T.x_NoWay.mg
    have KK_NoText_NoText := kit_ref T.x_NoText.ec.hd T.x_NoText.ty T.ss_NoText_NoText T.ss_NoText_NoText
    have KK_NoText_NoCommand := kit_ref T.x_NoCommand.ec.hd T.x_NoCommand.ty T.ss_NoText_NoCommand T.ss_NoText_NoText
    have KK_NoText_NoLength := kit_ref T.x_NoLength.ec.hd T.x_NoLength.ty T.ss_NoText_NoLength T.ss_NoText_NoText
    have KK_NoText_NoLetter := kit_ref T.x_NoLetter.ec.hd T.x_NoLetter.ty T.ss_NoText_NoLetter T.ss_NoText_NoText
    have KK_NoText_NoPlace := kit_ref T.x_NoPlace.ec.hd T.x_NoPlace.ty T.ss_NoText_NoPlace T.ss_NoText_NoText
    have KK_NoText_NoSide := kit_ref T.x_NoSide.ec.hd T.x_NoSide.ty T.ss_NoText_NoSide T.ss_NoText_NoText
    have KK_NoText_NoWay := kit_ref T.x_NoWay.ec.hd T.x_NoWay.ty T.ss_NoText_NoWay T.ss_NoText_NoText
    have EM_NoText_WeaveError := PySem.W.exm_ref T.x_WeaveError.sb T.x_WeaveError.ec.hd T.x_WeaveError.ty T.ss_NoText_WeaveError
    have KV_NoText := kit_ve T.sv_NoText
    have XC_NoText := T.x_NoText.ec
    cases h with
    | @mk G H C Q E z O hl q =>
    walk_at "in"
    walk_at "ay"
    intro k0 H_k0 n_k0
    obtain ⟨G_k0, s_k0, e_k0, O⟩ := Own.fix (by walk_at "as") n_k0
    walk_at "ay"
    refine s_tryS c tp (by walk_at "ix") (by walk_at "dk") (by walk_at "dk") M_WeaveError (fun X1 c1 tk => ?_)
    walk_at "ay"
    refine .mk O (by omega) (fun d r G1 H1 hd s1 O hdp => ?_) (fun hn G1 H1 s1 O => ?_)
    · walk_at "ay"
      refine .mk O (by omega) (fun d2 r2 G2 H2 hd2 s2 O hdp2 => ?_) (fun hn _ _ _ _ => by rw [hd] at hn; cases hn)
      obtain rfl : d = d2 := Option.some.inj (hd.symm.trans hd2)
      have hR := papR_rpr hd (by omega)
      walk_at "ay"
      intro l2 H_l2 n_l2
      obtain ⟨G_l2, s_l2, e_l2, O⟩ := Own.fix (by walk_at "as") n_l2
      walk_at "ay"
      refine o_eqSame c (d := .list []) (by walk_at "dp") (by walk_at "dp") (by walk_at "sh") ?_
      walk_at "ay"
      refine c_repr c hG (hdp _ _ _ (show Same G1 G_l2 by walk_at "sm") O) hR (by omega) ?_
      walk_at "ay"
      refine c_repr c hG (hdp2 _ _ _ (show Same G2 G_l2 by walk_at "sm") O) hR (by omega) ?_
      walk_at "ay"
      rw [decide_eq_true rfl]
      refine' q _ _ ?s_k ?O
      (case O => walk_at "own")
      (case s_k => walk_at "sm")
    · refine ⟨rfl, EM_NoText_WeaveError, fun a na Xs cs pin => ?_⟩
      simp only [List.set]
      repeat (first | (with_reducible refine g_st ?_) | (with_reducible refine g_nx ?_) | (with_reducible refine sS_set cs rfl (by walk_at "ix") (by walk_at "dk") ?_) | (with_reducible refine s_expr rfl ?_) | (with_reducible refine g_lst ?_) | (with_reducible refine g_tup ?_) | (with_reducible refine g_cons rfl ?_) | (with_reducible refine g_nil ?_) | (with_reducible refine ⟨by walk_at "few", ?_⟩) | (with_reducible refine eS_callB (id := "isinstance") cs (by walk_at "dk") B_isinstance (by walk_at "dk") rfl rfl ?_) | (with_reducible refine eS_var cs (by walk_at "ix") (by walk_at "dk") (by walk_at "dk") rfl ?_) | (with_reducible refine eS_gref cs (by walk_at "dk") (by assumption) ?_) | ((with_reducible refine' eS_bltn (x := "ValueError") (u := .type "ValueError") (v := .ty "ValueError") cs ?hg ?k2 ?hv ?r ?_); (case hg => walk_at "dk"); (case k2 => walk_at "as"); (case hv => walk_at "dk"); (case r => rfl)) | (with_reducible refine cS_is1 cs pin (by assumption) (.own _) (by assumption) ?_) | (with_reducible refine cS_is1 cs pin (by assumption) (.ty _) (by assumption) ?_) | (with_reducible refine eS_meth (T := "list") (id := "list.append") (name := "append") cs PySem.F.plainAttrs_list PySem.F.slot_list_append PySem.F.type_list_append rfl rfl rfl rfl rfl ?_))
      intro kk Hk nk
      have O := O.more nk
      show bS Xs _ _ _ _
      simp only [List.set]
      repeat (first | (with_reducible refine g_st ?_) | (with_reducible refine g_nx ?_) | (with_reducible refine sS_set cs rfl (by walk_at "ix") (by walk_at "dk") ?_) | (with_reducible refine s_expr rfl ?_) | (with_reducible refine g_lst ?_) | (with_reducible refine g_tup ?_) | (with_reducible refine g_cons rfl ?_) | (with_reducible refine g_nil ?_) | (with_reducible refine ⟨by walk_at "few", ?_⟩) | (with_reducible refine eS_callB (id := "isinstance") cs (by walk_at "dk") B_isinstance (by walk_at "dk") rfl rfl ?_) | (with_reducible refine eS_var cs (by walk_at "ix") (by walk_at "dk") (by walk_at "dk") rfl ?_) | (with_reducible refine eS_gref cs (by walk_at "dk") (by assumption) ?_) | ((with_reducible refine' eS_bltn (x := "ValueError") (u := .type "ValueError") (v := .ty "ValueError") cs ?hg ?k2 ?hv ?r ?_); (case hg => walk_at "dk"); (case k2 => walk_at "as"); (case hv => walk_at "dk"); (case r => rfl)) | (with_reducible refine cS_is1 cs pin (by assumption) (.own _) (by assumption) ?_) | (with_reducible refine cS_is1 cs pin (by assumption) (.ty _) (by assumption) ?_) | (with_reducible refine eS_meth (T := "list") (id := "list.append") (name := "append") cs PySem.F.plainAttrs_list PySem.F.slot_list_append PySem.F.type_list_append rfl rfl rfl rfl rfl ?_))
      refine k_ty (.of O.at) ?_
      repeat (first | (with_reducible refine g_st ?_) | (with_reducible refine g_nx ?_) | (with_reducible refine sS_set cs rfl (by walk_at "ix") (by walk_at "dk") ?_) | (with_reducible refine s_expr rfl ?_) | (with_reducible refine g_lst ?_) | (with_reducible refine g_tup ?_) | (with_reducible refine g_cons rfl ?_) | (with_reducible refine g_nil ?_) | (with_reducible refine ⟨by walk_at "few", ?_⟩) | (with_reducible refine eS_callB (id := "isinstance") cs (by walk_at "dk") B_isinstance (by walk_at "dk") rfl rfl ?_) | (with_reducible refine eS_var cs (by walk_at "ix") (by walk_at "dk") (by walk_at "dk") rfl ?_) | (with_reducible refine eS_gref cs (by walk_at "dk") (by assumption) ?_) | ((with_reducible refine' eS_bltn (x := "ValueError") (u := .type "ValueError") (v := .ty "ValueError") cs ?hg ?k2 ?hv ?r ?_); (case hg => walk_at "dk"); (case k2 => walk_at "as"); (case hv => walk_at "dk"); (case r => rfl)) | (with_reducible refine cS_is1 cs pin (by assumption) (.own _) (by assumption) ?_) | (with_reducible refine cS_is1 cs pin (by assumption) (.ty _) (by assumption) ?_) | (with_reducible refine eS_meth (T := "list") (id := "list.append") (name := "append") cs PySem.F.plainAttrs_list PySem.F.slot_list_append PySem.F.type_list_append rfl rfl rfl rfl rfl ?_))
      intro tp2 Ht nt
      obtain ⟨Gt, st, et, O⟩ := O.fix nt
      repeat (first | (with_reducible refine g_st ?_) | (with_reducible refine g_nx ?_) | (with_reducible refine sS_set cs rfl (by walk_at "ix") (by walk_at "dk") ?_) | (with_reducible refine s_expr rfl ?_) | (with_reducible refine g_lst ?_) | (with_reducible refine g_tup ?_) | (with_reducible refine g_cons rfl ?_) | (with_reducible refine g_nil ?_) | (with_reducible refine ⟨by walk_at "few", ?_⟩) | (with_reducible refine eS_callB (id := "isinstance") cs (by walk_at "dk") B_isinstance (by walk_at "dk") rfl rfl ?_) | (with_reducible refine eS_var cs (by walk_at "ix") (by walk_at "dk") (by walk_at "dk") rfl ?_) | (with_reducible refine eS_gref cs (by walk_at "dk") (by assumption) ?_) | ((with_reducible refine' eS_bltn (x := "ValueError") (u := .type "ValueError") (v := .ty "ValueError") cs ?hg ?k2 ?hv ?r ?_); (case hg => walk_at "dk"); (case k2 => walk_at "as"); (case hv => walk_at "dk"); (case r => rfl)) | (with_reducible refine cS_is1 cs pin (by assumption) (.own _) (by assumption) ?_) | (with_reducible refine cS_is1 cs pin (by assumption) (.ty _) (by assumption) ?_) | (with_reducible refine eS_meth (T := "list") (id := "list.append") (name := "append") cs PySem.F.plainAttrs_list PySem.F.slot_list_append PySem.F.type_list_append rfl rfl rfl rfl rfl ?_))
      refine cS_isT cs pin XC_NoText (hp_up O et) (.cons (.own _) (.cons (.own _) (.cons (.own _) (.cons (.own _) (.cons (.own _) (.cons (.own _) .nil)))))) (kit_any KK_NoText_NoCommand (kit_any KK_NoText_NoLength (kit_any KK_NoText_NoLetter (kit_any KK_NoText_NoPlace (kit_any KK_NoText_NoSide (kit_any KK_NoText_NoWay rfl)))))) ?_
      repeat (first | (with_reducible refine g_st ?_) | (with_reducible refine g_nx ?_) | (with_reducible refine sS_set cs rfl (by walk_at "ix") (by walk_at "dk") ?_) | (with_reducible refine s_expr rfl ?_) | (with_reducible refine g_lst ?_) | (with_reducible refine g_tup ?_) | (with_reducible refine g_cons rfl ?_) | (with_reducible refine g_nil ?_) | (with_reducible refine ⟨by walk_at "few", ?_⟩) | (with_reducible refine eS_callB (id := "isinstance") cs (by walk_at "dk") B_isinstance (by walk_at "dk") rfl rfl ?_) | (with_reducible refine eS_var cs (by walk_at "ix") (by walk_at "dk") (by walk_at "dk") rfl ?_) | (with_reducible refine eS_gref cs (by walk_at "dk") (by assumption) ?_) | ((with_reducible refine' eS_bltn (x := "ValueError") (u := .type "ValueError") (v := .ty "ValueError") cs ?hg ?k2 ?hv ?r ?_); (case hg => walk_at "dk"); (case k2 => walk_at "as"); (case hv => walk_at "dk"); (case r => rfl)) | (with_reducible refine cS_is1 cs pin (by assumption) (.own _) (by assumption) ?_) | (with_reducible refine cS_is1 cs pin (by assumption) (.ty _) (by assumption) ?_) | (with_reducible refine eS_meth (T := "list") (id := "list.append") (name := "append") cs PySem.F.plainAttrs_list PySem.F.slot_list_append PySem.F.type_list_append rfl rfl rfl rfl rfl ?_))
      refine m_appendC O (by simp) fun H5 O => ?_
      obtain ⟨G5, s5, e5, O⟩ := O.frz
      repeat (first | (with_reducible refine g_st ?_) | (with_reducible refine g_nx ?_) | (with_reducible refine sS_set cs rfl (by walk_at "ix") (by walk_at "dk") ?_) | (with_reducible refine s_expr rfl ?_) | (with_reducible refine g_lst ?_) | (with_reducible refine g_tup ?_) | (with_reducible refine g_cons rfl ?_) | (with_reducible refine g_nil ?_) | (with_reducible refine ⟨by walk_at "few", ?_⟩) | (with_reducible refine eS_callB (id := "isinstance") cs (by walk_at "dk") B_isinstance (by walk_at "dk") rfl rfl ?_) | (with_reducible refine eS_var cs (by walk_at "ix") (by walk_at "dk") (by walk_at "dk") rfl ?_) | (with_reducible refine eS_gref cs (by walk_at "dk") (by assumption) ?_) | ((with_reducible refine' eS_bltn (x := "ValueError") (u := .type "ValueError") (v := .ty "ValueError") cs ?hg ?k2 ?hv ?r ?_); (case hg => walk_at "dk"); (case k2 => walk_at "as"); (case hv => walk_at "dk"); (case r => rfl)) | (with_reducible refine cS_is1 cs pin (by assumption) (.own _) (by assumption) ?_) | (with_reducible refine cS_is1 cs pin (by assumption) (.ty _) (by assumption) ?_) | (with_reducible refine eS_meth (T := "list") (id := "list.append") (name := "append") cs PySem.F.plainAttrs_list PySem.F.slot_list_append PySem.F.type_list_append rfl rfl rfl rfl rfl ?_))
      simp only [List.set]
      walk_at "ay"
      refine .mk O (by omega) (fun d r _ _ hd _ _ _ => by rw [hd] at hn; cases hn) (fun _ G6 H6 s6 O => ?_)
      have e6 : G6 kk = some (.lst [V.bl true, V.bl true, V.bl false]) := s6 _ _ e5
      walk_at "ay"
      intro l2 H_l2 n_l2
      obtain ⟨G_l2, s_l2, e_l2, O⟩ := Own.fix (by walk_at "as") n_l2
      walk_at "ay"
      refine o_eqSame c (d := .list [.bool _, .bool _, .bool _]) (by walk_at "dp") (by walk_at "dp") (by walk_at "sh") ?_
      walk_at "ay"
      refine' q _ _ ?s_k ?O
      (case O => walk_at "own")
      (case s_k => walk_at "sm")))) only [↓fnG_ok]
theorem calG_law_right (T : Env K mg) : CalG P w K mg base 4 "_law_right" (Sp_law_right K) := calG_of T.d_law_right fun F => ok_law_right T F
end

end Law

namespace Law
open PySem PySem.Spec PyProof.Rows L2 Go
/-- true of any list of ints -/
inductive Sp_law (K : PySem.W.Frag) : Sp
  | mk {H : Hp} {Q : VK} {E : XK} {a : Addr} {ns : List Int} (hS : SqL K H a (ns.map V.int)) (hl : ns.length ≤ 63) (q : ∀ H', Q (.bl true) H') : Sp_law K [.ref a] H Q E
section
variable {P : Program} {w : World} {K : PySem.W.Frag} {mg : Str → Option Value} {base : Heap}
theorem ok_law (T : Env K mg) {f : Addr} {fd : FuncData} (F : Fun K "law" "law" st_law f fd) : FnG P w K mg base CX0 5 f fd ["script"] (Sp_law K) := by
  simp (disch := (with_unfolding_all (
    refine intoG (N := ["script", "cell", "deck", "text"]) (nm := nm_law) F sc_law ne_law (fun vs H Q E h => by cases h <;> rfl) (by decide) (fun X H vs Q E c hG h => ?_)
    have C_law_deck := cal_law_deck (P := P) (w := w) (base := base) T
    have C_law_text := cal_law_text (P := P) (w := w) (base := base) T
    have C_law_right := calG_law_right (P := P) (w := w) (base := base) T
    have C_law_spoilt := cal_law_spoilt (P := P) (w := w) (base := base) T
    cases h with
    | @mk H Q E a ns hS hl q =>
    have l0 : (cs "").length = 0 := by decide +kernel
    have l1 : (cs "way").length = 3 := by decide +kernel
    have l2 : (cs "not").length = 3 := by decide +kernel
    have l3 : (cs "way -").length = 5 := by decide +kernel
    have O : Own H [] H := ⟨same_rfl, fun _ h => (by simp at h), (by simp)⟩
    walk_at "in"
    refine s_for c (fun _ => rfl) (i_listK c ?_)
    walk_at "ax"
    refine l_lst c (sql_up O hS) fun sc H1 n1 => ?_
    rw [cut_to _ _ (by decide), ← List.map_take] at n1
    obtain ⟨G1, s1, e1, O⟩ := O.fix n1
    walk_at "ax"
    intro lz H_lz n_lz
    obtain ⟨G_lz, s_lz, e_lz, O⟩ := Own.fix (by walk_at "as") n_lz
    walk_at "ax"
    refine o_cat (hp_up O (show G_lz sc = _ by walk_at "gp")) (hp_up O e_lz) (by rw [List.length_map, List.length_take]; simp; omega) ?_
    intro cl H_cl n_cl
    obtain ⟨G_cl, s_cl, e_cl, O⟩ := Own.fix (by walk_at "as") n_cl
    walk_at "ax"
    rw [show (ns.take (Int.toNat 40)).map V.int ++ [V.int 0, V.int 1] = (ns.take 40 ++ [0, 1]).map V.int by rw [List.map_append]; rfl] at e_cl
    refine ⟨cl, _, rfl, .of (hp_up O e_cl), ?_⟩
    refine on_listK c (xs := (ns.take 40 ++ [0, 1]).map V.int) (fun m σ H => ∃ (b_cell b_deck b_text : Option V) (G_L : Hp), σ = [some (.ref a), b_cell, b_deck, b_text] ∧ Own G_L ([]) H ∧ Same G_cl G_L ∧ True) ⟨_, _, _, _, rfl, (by walk_at "ow"), (by walk_at "sm"), trivial⟩ ?_ ?_ ?_
    · rintro m σ H hm ⟨b_cell, b_deck, b_text, G_L, rfl, O, s_L, -⟩
      exact .of (hp_up O (s_L _ _ e_cl))
    · rintro m x σ H hx ⟨b_cell, b_deck, b_text, G_L, rfl, O, s_L, -⟩
      rw [List.getElem?_map] at hx
      obtain ⟨cell, hcell, rfl⟩ := Option.map_eq_some_iff.mp hx
      walk_at "ax"
      refine .mk O (by decide) (by decide) fun dk o H2 O hd => ?_
      walk_at "ax"
      refine .mk O hd fun z o G3 H3 s3 O hd hz => ?_
      walk_at "ax"
      refine e_callG c hG C_law_right (by decide) (by walk_at "dk") rfl rfl ?_
      walk_at "ax"
      refine .mk O (by omega) fun G4 H4 s4 O => ?_
      walk_at "ax"
      refine e_callG c hG C_law_right (by decide) (by walk_at "dk") rfl rfl ?_
      walk_at "ax"
      refine .mk O hd (by omega) fun z2 G5 H5 s5 O hz2 => ?_
      walk_at "ax"
      refine .mk O (by omega) fun G6 H6 s6 O => ?_
      walk_at "ax"
      first | exact ⟨_, _, _, _, rfl, (by walk_at "ow"), (by walk_at "sm"), trivial⟩
    · rintro σ H ⟨b_cell, b_deck, b_text, G_L, rfl, O, s_L, -⟩
      walk_at "ax"
      refine e_callG c hG C_law_right (by decide) (by walk_at "dk") rfl rfl ?_
      walk_at "ax"
      refine .mk O (by omega) fun G2 H2 s2 O => ?_
      walk_at "ax"
      refine e_callG c hG C_law_right (by decide) (by walk_at "dk") rfl rfl ?_
      walk_at "ax"
      refine .mk O (by omega) fun G3 H3 s3 O => ?_
      walk_at "ax"
      refine e_callG c hG C_law_right (by decide) (by walk_at "dk") rfl rfl ?_
      walk_at "ax"
      refine .mk O (by omega) fun G4 H4 s4 O => ?_
      walk_at "ax"
      refine e_callG c hG C_law_right (by decide) (by walk_at "dk") rfl rfl ?_
      walk_at "ax"
      refine .mk O (by omega) fun G5 H5 s5 O => ?_
      walk_at "ax"
      exact q _))) only [↓fnG_ok]
theorem calG_law (T : Env K mg) : CalG P w K mg base 5 "law" (Sp_law K) := calG_of T.d_law fun F => ok_law T F
end

end Law

namespace Law
open PySem PySem.Spec PyProof.Rows L2 Go
theorem env_mk {K : PySem.W.Frag} {h : Heap} {mg : Str → Option Value} {f0 f1 f2 f3 f4 f5 f6 f7 f8 f9 f10 f11 f12 A_NoCommand A_NoLength A_NoLetter A_NoPlace A_NoSide A_NoText A_NoWay A_WeaveError : Addr} (X : K.In h) (G : h.Ns mainGlobals mg)
    (xa_NoCommand : PySem.W.nsIn K mainGlobals "NoCommand" = some (some (.ref A_NoCommand))) (xe_NoCommand : PySem.W.excIn K A_NoCommand PySem.HandSPX.veTail "ValueError.__new__" = true) (xk_NoCommand : PySem.W.keepIn K (.ref A_NoCommand) = true) (xs_NoCommand : PySem.W.subIn K (.ref A_NoCommand) (.type "BaseException") = some true) (xt_NoCommand : PySem.W.typeIn K (.ref A_NoCommand) = some (.type "type"))
    (xg_NoCommand : PySem.W.findIn K (.ref A_NoCommand) "__getattribute__" = some (some (.builtin "BaseException.__getattribute__"))) (xh_NoCommand : PySem.W.findIn K (.ref A_NoCommand) "__getattr__" = some none) (xd_NoCommand : PySem.W.hasDictIn K A_NoCommand = true) (xc_NoCommand : PySem.W.findIn K (.ref A_NoCommand) "__class__" = some (some (.builtin "object.__class__"))) (xm_NoCommand : PySem.W.mroIn K A_NoCommand (.type "object") = some true)
    (xa_NoLength : PySem.W.nsIn K mainGlobals "NoLength" = some (some (.ref A_NoLength))) (xe_NoLength : PySem.W.excIn K A_NoLength PySem.HandSPX.veTail "ValueError.__new__" = true) (xk_NoLength : PySem.W.keepIn K (.ref A_NoLength) = true) (xs_NoLength : PySem.W.subIn K (.ref A_NoLength) (.type "BaseException") = some true) (xt_NoLength : PySem.W.typeIn K (.ref A_NoLength) = some (.type "type"))
    (xg_NoLength : PySem.W.findIn K (.ref A_NoLength) "__getattribute__" = some (some (.builtin "BaseException.__getattribute__"))) (xh_NoLength : PySem.W.findIn K (.ref A_NoLength) "__getattr__" = some none) (xd_NoLength : PySem.W.hasDictIn K A_NoLength = true) (xc_NoLength : PySem.W.findIn K (.ref A_NoLength) "__class__" = some (some (.builtin "object.__class__"))) (xm_NoLength : PySem.W.mroIn K A_NoLength (.type "object") = some true)
    (xa_NoLetter : PySem.W.nsIn K mainGlobals "NoLetter" = some (some (.ref A_NoLetter))) (xe_NoLetter : PySem.W.excIn K A_NoLetter PySem.HandSPX.veTail "ValueError.__new__" = true) (xk_NoLetter : PySem.W.keepIn K (.ref A_NoLetter) = true) (xs_NoLetter : PySem.W.subIn K (.ref A_NoLetter) (.type "BaseException") = some true) (xt_NoLetter : PySem.W.typeIn K (.ref A_NoLetter) = some (.type "type"))
    (xg_NoLetter : PySem.W.findIn K (.ref A_NoLetter) "__getattribute__" = some (some (.builtin "BaseException.__getattribute__"))) (xh_NoLetter : PySem.W.findIn K (.ref A_NoLetter) "__getattr__" = some none) (xd_NoLetter : PySem.W.hasDictIn K A_NoLetter = true) (xc_NoLetter : PySem.W.findIn K (.ref A_NoLetter) "__class__" = some (some (.builtin "object.__class__"))) (xm_NoLetter : PySem.W.mroIn K A_NoLetter (.type "object") = some true)
    (xa_NoPlace : PySem.W.nsIn K mainGlobals "NoPlace" = some (some (.ref A_NoPlace))) (xe_NoPlace : PySem.W.excIn K A_NoPlace PySem.HandSPX.veTail "ValueError.__new__" = true) (xk_NoPlace : PySem.W.keepIn K (.ref A_NoPlace) = true) (xs_NoPlace : PySem.W.subIn K (.ref A_NoPlace) (.type "BaseException") = some true) (xt_NoPlace : PySem.W.typeIn K (.ref A_NoPlace) = some (.type "type"))
    (xg_NoPlace : PySem.W.findIn K (.ref A_NoPlace) "__getattribute__" = some (some (.builtin "BaseException.__getattribute__"))) (xh_NoPlace : PySem.W.findIn K (.ref A_NoPlace) "__getattr__" = some none) (xd_NoPlace : PySem.W.hasDictIn K A_NoPlace = true) (xc_NoPlace : PySem.W.findIn K (.ref A_NoPlace) "__class__" = some (some (.builtin "object.__class__"))) (xm_NoPlace : PySem.W.mroIn K A_NoPlace (.type "object") = some true)
    (xa_NoSide : PySem.W.nsIn K mainGlobals "NoSide" = some (some (.ref A_NoSide))) (xe_NoSide : PySem.W.excIn K A_NoSide PySem.HandSPX.veTail "ValueError.__new__" = true) (xk_NoSide : PySem.W.keepIn K (.ref A_NoSide) = true) (xs_NoSide : PySem.W.subIn K (.ref A_NoSide) (.type "BaseException") = some true) (xt_NoSide : PySem.W.typeIn K (.ref A_NoSide) = some (.type "type"))
    (xg_NoSide : PySem.W.findIn K (.ref A_NoSide) "__getattribute__" = some (some (.builtin "BaseException.__getattribute__"))) (xh_NoSide : PySem.W.findIn K (.ref A_NoSide) "__getattr__" = some none) (xd_NoSide : PySem.W.hasDictIn K A_NoSide = true) (xc_NoSide : PySem.W.findIn K (.ref A_NoSide) "__class__" = some (some (.builtin "object.__class__"))) (xm_NoSide : PySem.W.mroIn K A_NoSide (.type "object") = some true)
    (xa_NoText : PySem.W.nsIn K mainGlobals "NoText" = some (some (.ref A_NoText))) (xe_NoText : PySem.W.excIn K A_NoText PySem.HandSPX.veTail "ValueError.__new__" = true) (xk_NoText : PySem.W.keepIn K (.ref A_NoText) = true) (xs_NoText : PySem.W.subIn K (.ref A_NoText) (.type "BaseException") = some true) (xt_NoText : PySem.W.typeIn K (.ref A_NoText) = some (.type "type"))
    (xg_NoText : PySem.W.findIn K (.ref A_NoText) "__getattribute__" = some (some (.builtin "BaseException.__getattribute__"))) (xh_NoText : PySem.W.findIn K (.ref A_NoText) "__getattr__" = some none) (xd_NoText : PySem.W.hasDictIn K A_NoText = true) (xc_NoText : PySem.W.findIn K (.ref A_NoText) "__class__" = some (some (.builtin "object.__class__"))) (xm_NoText : PySem.W.mroIn K A_NoText (.type "object") = some true)
    (xa_NoWay : PySem.W.nsIn K mainGlobals "NoWay" = some (some (.ref A_NoWay))) (xe_NoWay : PySem.W.excIn K A_NoWay PySem.HandSPX.veTail "ValueError.__new__" = true) (xk_NoWay : PySem.W.keepIn K (.ref A_NoWay) = true) (xs_NoWay : PySem.W.subIn K (.ref A_NoWay) (.type "BaseException") = some true) (xt_NoWay : PySem.W.typeIn K (.ref A_NoWay) = some (.type "type"))
    (xg_NoWay : PySem.W.findIn K (.ref A_NoWay) "__getattribute__" = some (some (.builtin "BaseException.__getattribute__"))) (xh_NoWay : PySem.W.findIn K (.ref A_NoWay) "__getattr__" = some none) (xd_NoWay : PySem.W.hasDictIn K A_NoWay = true) (xc_NoWay : PySem.W.findIn K (.ref A_NoWay) "__class__" = some (some (.builtin "object.__class__"))) (xm_NoWay : PySem.W.mroIn K A_NoWay (.type "object") = some true)
    (xa_WeaveError : PySem.W.nsIn K mainGlobals "WeaveError" = some (some (.ref A_WeaveError))) (xe_WeaveError : PySem.W.excIn K A_WeaveError PySem.HandSPX.veTail "ValueError.__new__" = true) (xk_WeaveError : PySem.W.keepIn K (.ref A_WeaveError) = true) (xs_WeaveError : PySem.W.subIn K (.ref A_WeaveError) (.type "BaseException") = some true) (xt_WeaveError : PySem.W.typeIn K (.ref A_WeaveError) = some (.type "type"))
    (xg_WeaveError : PySem.W.findIn K (.ref A_WeaveError) "__getattribute__" = some (some (.builtin "BaseException.__getattribute__"))) (xh_WeaveError : PySem.W.findIn K (.ref A_WeaveError) "__getattr__" = some none) (xd_WeaveError : PySem.W.hasDictIn K A_WeaveError = true) (xc_WeaveError : PySem.W.findIn K (.ref A_WeaveError) "__class__" = some (some (.builtin "object.__class__"))) (xm_WeaveError : PySem.W.mroIn K A_WeaveError (.type "object") = some true)
    (xn : PySem.W.specialIn K (.builtin "object.__class__") "__get__" = some (some (.builtin "getset_descriptor.__get__"))) (xw : PySem.W.takesIn K (.builtin "object.__class__") = some true)
    (ss_NoText_NoText : PySem.W.subIn K (.ref A_NoText) (.ref A_NoText) = some true)
    (ss_NoText_NoCommand : PySem.W.subIn K (.ref A_NoText) (.ref A_NoCommand) = some false)
    (ss_NoText_NoLength : PySem.W.subIn K (.ref A_NoText) (.ref A_NoLength) = some false)
    (ss_NoText_NoLetter : PySem.W.subIn K (.ref A_NoText) (.ref A_NoLetter) = some false)
    (ss_NoText_NoPlace : PySem.W.subIn K (.ref A_NoText) (.ref A_NoPlace) = some false)
    (ss_NoText_NoSide : PySem.W.subIn K (.ref A_NoText) (.ref A_NoSide) = some false)
    (ss_NoText_NoWay : PySem.W.subIn K (.ref A_NoText) (.ref A_NoWay) = some false)
    (ss_NoText_WeaveError : PySem.W.subIn K (.ref A_NoText) (.ref A_WeaveError) = some true)
    (sv_NoText : PySem.W.subIn K (.ref A_NoText) (.type "ValueError") = some true)
    {od0 an0 : Option Addr} {sl0 : Array (Option Value)} {oc0 kV0 dc0 pm0 cd0 ct0 : Value}
    (a0 : PySem.W.nsIn K mainGlobals "read_number" = some (some (.ref f0))) (l0 : K.lookup f0 = some ⟨oc0, od0, .func (PySem.W.fnOf "read_number" "read_number" (defArgs st_read_number) (defBody st_read_number) (defScope st_read_number) .none kV0 dc0 pm0 an0 cd0 ct0), sl0⟩) (c0 : PySem.W.codeIn K cd0 "read_number" = true) (k0 : PySem.W.keepIn K (.ref f0) = true)
    {od1 an1 : Option Addr} {sl1 : Array (Option Value)} {oc1 kV1 dc1 pm1 cd1 ct1 : Value}
    (a1 : PySem.W.nsIn K mainGlobals "read_list" = some (some (.ref f1))) (l1 : K.lookup f1 = some ⟨oc1, od1, .func (PySem.W.fnOf "read_list" "read_list" (defArgs st_read_list) (defBody st_read_list) (defScope st_read_list) .none kV1 dc1 pm1 an1 cd1 ct1), sl1⟩) (c1 : PySem.W.codeIn K cd1 "read_list" = true) (k1 : PySem.W.keepIn K (.ref f1) = true)
    {od2 an2 : Option Addr} {sl2 : Array (Option Value)} {oc2 kV2 dc2 pm2 cd2 ct2 : Value}
    (a2 : PySem.W.nsIn K mainGlobals "read_way" = some (some (.ref f2))) (l2 : K.lookup f2 = some ⟨oc2, od2, .func (PySem.W.fnOf "read_way" "read_way" (defArgs st_read_way) (defBody st_read_way) (defScope st_read_way) .none kV2 dc2 pm2 an2 cd2 ct2), sl2⟩) (c2 : PySem.W.codeIn K cd2 "read_way" = true) (k2 : PySem.W.keepIn K (.ref f2) = true)
    {od3 an3 : Option Addr} {sl3 : Array (Option Value)} {oc3 kV3 dc3 pm3 cd3 ct3 : Value}
    (a3 : PySem.W.nsIn K mainGlobals "read_paper" = some (some (.ref f3))) (l3 : K.lookup f3 = some ⟨oc3, od3, .func (PySem.W.fnOf "read_paper" "read_paper" (defArgs st_read_paper) (defBody st_read_paper) (defScope st_read_paper) .none kV3 dc3 pm3 an3 cd3 ct3), sl3⟩) (c3 : PySem.W.codeIn K cd3 "read_paper" = true) (k3 : PySem.W.keepIn K (.ref f3) = true)
    {od4 an4 : Option Addr} {sl4 : Array (Option Value)} {oc4 kV4 dc4 pm4 cd4 ct4 : Value}
    (a4 : PySem.W.nsIn K mainGlobals "_law_take" = some (some (.ref f4))) (l4 : K.lookup f4 = some ⟨oc4, od4, .func (PySem.W.fnOf "_law_take" "_law_take" (defArgs st_law_take) (defBody st_law_take) (defScope st_law_take) .none kV4 dc4 pm4 an4 cd4 ct4), sl4⟩) (c4 : PySem.W.codeIn K cd4 "_law_take" = true) (k4 : PySem.W.keepIn K (.ref f4) = true)
    {od5 an5 : Option Addr} {sl5 : Array (Option Value)} {oc5 kV5 dc5 pm5 cd5 ct5 : Value}
    (a5 : PySem.W.nsIn K mainGlobals "_law_deck" = some (some (.ref f5))) (l5 : K.lookup f5 = some ⟨oc5, od5, .func (PySem.W.fnOf "_law_deck" "_law_deck" (defArgs st_law_deck) (defBody st_law_deck) (defScope st_law_deck) .none kV5 dc5 pm5 an5 cd5 ct5), sl5⟩) (c5 : PySem.W.codeIn K cd5 "_law_deck" = true) (k5 : PySem.W.keepIn K (.ref f5) = true)
    {od6 an6 : Option Addr} {sl6 : Array (Option Value)} {oc6 kV6 dc6 pm6 cd6 ct6 : Value}
    (a6 : PySem.W.nsIn K mainGlobals "_law_text" = some (some (.ref f6))) (l6 : K.lookup f6 = some ⟨oc6, od6, .func (PySem.W.fnOf "_law_text" "_law_text" (defArgs st_law_text) (defBody st_law_text) (defScope st_law_text) .none kV6 dc6 pm6 an6 cd6 ct6), sl6⟩) (c6 : PySem.W.codeIn K cd6 "_law_text" = true) (k6 : PySem.W.keepIn K (.ref f6) = true)
    {od7 an7 : Option Addr} {sl7 : Array (Option Value)} {oc7 kV7 dc7 pm7 cd7 ct7 : Value}
    (a7 : PySem.W.nsIn K mainGlobals "_law_bad" = some (some (.ref f7))) (l7 : K.lookup f7 = some ⟨oc7, od7, .func (PySem.W.fnOf "_law_bad" "_law_bad" (defArgs st_law_bad) (defBody st_law_bad) (defScope st_law_bad) .none kV7 dc7 pm7 an7 cd7 ct7), sl7⟩) (c7 : PySem.W.codeIn K cd7 "_law_bad" = true) (k7 : PySem.W.keepIn K (.ref f7) = true)
    {od8 an8 : Option Addr} {sl8 : Array (Option Value)} {oc8 kV8 dc8 pm8 cd8 ct8 : Value}
    (a8 : PySem.W.nsIn K mainGlobals "_law_spoilt" = some (some (.ref f8))) (l8 : K.lookup f8 = some ⟨oc8, od8, .func (PySem.W.fnOf "_law_spoilt" "_law_spoilt" (defArgs st_law_spoilt) (defBody st_law_spoilt) (defScope st_law_spoilt) .none kV8 dc8 pm8 an8 cd8 ct8), sl8⟩) (c8 : PySem.W.codeIn K cd8 "_law_spoilt" = true) (k8 : PySem.W.keepIn K (.ref f8) = true)
    {od9 an9 : Option Addr} {sl9 : Array (Option Value)} {oc9 kV9 dc9 pm9 cd9 ct9 : Value}
    (a9 : PySem.W.nsIn K mainGlobals "_law_number_in" = some (some (.ref f9))) (l9 : K.lookup f9 = some ⟨oc9, od9, .func (PySem.W.fnOf "_law_number_in" "_law_number_in" (defArgs st_law_number_in) (defBody st_law_number_in) (defScope st_law_number_in) .none kV9 dc9 pm9 an9 cd9 ct9), sl9⟩) (c9 : PySem.W.codeIn K cd9 "_law_number_in" = true) (k9 : PySem.W.keepIn K (.ref f9) = true)
    {od10 an10 : Option Addr} {sl10 : Array (Option Value)} {oc10 kV10 dc10 pm10 cd10 ct10 : Value}
    (a10 : PySem.W.nsIn K mainGlobals "_law_paper_in" = some (some (.ref f10))) (l10 : K.lookup f10 = some ⟨oc10, od10, .func (PySem.W.fnOf "_law_paper_in" "_law_paper_in" (defArgs st_law_paper_in) (defBody st_law_paper_in) (defScope st_law_paper_in) .none kV10 dc10 pm10 an10 cd10 ct10), sl10⟩) (c10 : PySem.W.codeIn K cd10 "_law_paper_in" = true) (k10 : PySem.W.keepIn K (.ref f10) = true)
    {od11 an11 : Option Addr} {sl11 : Array (Option Value)} {oc11 kV11 dc11 pm11 cd11 ct11 : Value}
    (a11 : PySem.W.nsIn K mainGlobals "_law_right" = some (some (.ref f11))) (l11 : K.lookup f11 = some ⟨oc11, od11, .func (PySem.W.fnOf "_law_right" "_law_right" (defArgs st_law_right) (defBody st_law_right) (defScope st_law_right) .none kV11 dc11 pm11 an11 cd11 ct11), sl11⟩) (c11 : PySem.W.codeIn K cd11 "_law_right" = true) (k11 : PySem.W.keepIn K (.ref f11) = true)
    {od12 an12 : Option Addr} {sl12 : Array (Option Value)} {oc12 kV12 dc12 pm12 cd12 ct12 : Value}
    (a12 : PySem.W.nsIn K mainGlobals "law" = some (some (.ref f12))) (l12 : K.lookup f12 = some ⟨oc12, od12, .func (PySem.W.fnOf "law" "law" (defArgs st_law) (defBody st_law) (defScope st_law) .none kV12 dc12 pm12 an12 cd12 ct12), sl12⟩) (c12 : PySem.W.codeIn K cd12 "law" = true) (k12 : PySem.W.keepIn K (.ref f12) = true)
    (z_ValueError : PySem.W.nsIn K mainGlobals "ValueError" = some none)
    (z_all : PySem.W.nsIn K mainGlobals "all" = some none)
    (z_int : PySem.W.nsIn K mainGlobals "int" = some none)
    (z_isinstance : PySem.W.nsIn K mainGlobals "isinstance" = some none)
    (z_len : PySem.W.nsIn K mainGlobals "len" = some none)
    (z_range : PySem.W.nsIn K mainGlobals "range" = some none)
    (z_repr : PySem.W.nsIn K mainGlobals "repr" = some none)
    (z_str : PySem.W.nsIn K mainGlobals "str" = some none)
    {tk_FIGURES : Tok} (y_FIGURES : PySem.W.nsIn K mainGlobals "FIGURES" = some (some (.str ("0123456789" : Str) tk_FIGURES)))
    {tk_MOST_FIGURES : Tok} (y_MOST_FIGURES : PySem.W.nsIn K mainGlobals "MOST_FIGURES" = some (some (.int 2 tk_MOST_FIGURES)))
    : Env K mg :=
  { d_read_number := df_mk X G a0 l0 c0 k0 (fun _ _ _ _ _ _ us hl => match us, hl with | [_], _ => rfl),
    d_read_list := df_mk X G a1 l1 c1 k1 (fun _ _ _ _ _ _ us hl => match us, hl with | [_], _ => rfl),
    d_read_way := df_mk X G a2 l2 c2 k2 (fun _ _ _ _ _ _ us hl => match us, hl with | [_], _ => rfl),
    d_read_paper := df_mk X G a3 l3 c3 k3 (fun _ _ _ _ _ _ us hl => match us, hl with | [_], _ => rfl),
    d_law_take := df_mk X G a4 l4 c4 k4 (fun _ _ _ _ _ _ us hl => match us, hl with | [_, _], _ => rfl),
    d_law_deck := df_mk X G a5 l5 c5 k5 (fun _ _ _ _ _ _ us hl => match us, hl with | [_, _], _ => rfl),
    d_law_text := df_mk X G a6 l6 c6 k6 (fun _ _ _ _ _ _ us hl => match us, hl with | [_], _ => rfl),
    d_law_bad := df_mk X G a7 l7 c7 k7 (fun _ _ _ _ _ _ us hl => match us, hl with | [_], _ => rfl),
    d_law_spoilt := df_mk X G a8 l8 c8 k8 (fun _ _ _ _ _ _ us hl => match us, hl with | [_, _], _ => rfl),
    d_law_number_in := df_mk X G a9 l9 c9 k9 (fun _ _ _ _ _ _ us hl => match us, hl with | [_], _ => rfl),
    d_law_paper_in := df_mk X G a10 l10 c10 k10 (fun _ _ _ _ _ _ us hl => match us, hl with | [_], _ => rfl),
    d_law_right := df_mk X G a11 l11 c11 k11 (fun _ _ _ _ _ _ us hl => match us, hl with | [_], _ => rfl),
    d_law := df_mk X G a12 l12 c12 k12 (fun _ _ _ _ _ _ us hl => match us, hl with | [_], _ => rfl),
    b_ValueError := PySem.W.mg_none_of X G z_ValueError,
    b_all := PySem.W.mg_none_of X G z_all,
    b_int := PySem.W.mg_none_of X G z_int,
    b_isinstance := PySem.W.mg_none_of X G z_isinstance,
    b_len := PySem.W.mg_none_of X G z_len,
    b_range := PySem.W.mg_none_of X G z_range,
    b_repr := PySem.W.mg_none_of X G z_repr,
    b_str := PySem.W.mg_none_of X G z_str,
    x_NoCommand := by have e := clsK_of xa_NoCommand; exact ⟨by rw [e]; exact PySem.W.mg_of X G xa_NoCommand, by rw [e]; exact xe_NoCommand, by rw [e]; exact xk_NoCommand, by rw [e]; exact xs_NoCommand, by rw [e]; exact xt_NoCommand, by rw [e]; exact ⟨xg_NoCommand, xh_NoCommand, xs_NoCommand, xd_NoCommand, xc_NoCommand, xn, xw, xm_NoCommand⟩⟩,
    x_NoLength := by have e := clsK_of xa_NoLength; exact ⟨by rw [e]; exact PySem.W.mg_of X G xa_NoLength, by rw [e]; exact xe_NoLength, by rw [e]; exact xk_NoLength, by rw [e]; exact xs_NoLength, by rw [e]; exact xt_NoLength, by rw [e]; exact ⟨xg_NoLength, xh_NoLength, xs_NoLength, xd_NoLength, xc_NoLength, xn, xw, xm_NoLength⟩⟩,
    x_NoLetter := by have e := clsK_of xa_NoLetter; exact ⟨by rw [e]; exact PySem.W.mg_of X G xa_NoLetter, by rw [e]; exact xe_NoLetter, by rw [e]; exact xk_NoLetter, by rw [e]; exact xs_NoLetter, by rw [e]; exact xt_NoLetter, by rw [e]; exact ⟨xg_NoLetter, xh_NoLetter, xs_NoLetter, xd_NoLetter, xc_NoLetter, xn, xw, xm_NoLetter⟩⟩,
    x_NoPlace := by have e := clsK_of xa_NoPlace; exact ⟨by rw [e]; exact PySem.W.mg_of X G xa_NoPlace, by rw [e]; exact xe_NoPlace, by rw [e]; exact xk_NoPlace, by rw [e]; exact xs_NoPlace, by rw [e]; exact xt_NoPlace, by rw [e]; exact ⟨xg_NoPlace, xh_NoPlace, xs_NoPlace, xd_NoPlace, xc_NoPlace, xn, xw, xm_NoPlace⟩⟩,
    x_NoSide := by have e := clsK_of xa_NoSide; exact ⟨by rw [e]; exact PySem.W.mg_of X G xa_NoSide, by rw [e]; exact xe_NoSide, by rw [e]; exact xk_NoSide, by rw [e]; exact xs_NoSide, by rw [e]; exact xt_NoSide, by rw [e]; exact ⟨xg_NoSide, xh_NoSide, xs_NoSide, xd_NoSide, xc_NoSide, xn, xw, xm_NoSide⟩⟩,
    x_NoText := by have e := clsK_of xa_NoText; exact ⟨by rw [e]; exact PySem.W.mg_of X G xa_NoText, by rw [e]; exact xe_NoText, by rw [e]; exact xk_NoText, by rw [e]; exact xs_NoText, by rw [e]; exact xt_NoText, by rw [e]; exact ⟨xg_NoText, xh_NoText, xs_NoText, xd_NoText, xc_NoText, xn, xw, xm_NoText⟩⟩,
    x_NoWay := by have e := clsK_of xa_NoWay; exact ⟨by rw [e]; exact PySem.W.mg_of X G xa_NoWay, by rw [e]; exact xe_NoWay, by rw [e]; exact xk_NoWay, by rw [e]; exact xs_NoWay, by rw [e]; exact xt_NoWay, by rw [e]; exact ⟨xg_NoWay, xh_NoWay, xs_NoWay, xd_NoWay, xc_NoWay, xn, xw, xm_NoWay⟩⟩,
    x_WeaveError := by have e := clsK_of xa_WeaveError; exact ⟨by rw [e]; exact PySem.W.mg_of X G xa_WeaveError, by rw [e]; exact xe_WeaveError, by rw [e]; exact xk_WeaveError, by rw [e]; exact xs_WeaveError, by rw [e]; exact xt_WeaveError, by rw [e]; exact ⟨xg_WeaveError, xh_WeaveError, xs_WeaveError, xd_WeaveError, xc_WeaveError, xn, xw, xm_WeaveError⟩⟩,
    ss_NoText_NoText := by rw [clsK_of xa_NoText]; exact ss_NoText_NoText,
    ss_NoText_NoCommand := by rw [clsK_of xa_NoText, clsK_of xa_NoCommand]; exact ss_NoText_NoCommand,
    ss_NoText_NoLength := by rw [clsK_of xa_NoText, clsK_of xa_NoLength]; exact ss_NoText_NoLength,
    ss_NoText_NoLetter := by rw [clsK_of xa_NoText, clsK_of xa_NoLetter]; exact ss_NoText_NoLetter,
    ss_NoText_NoPlace := by rw [clsK_of xa_NoText, clsK_of xa_NoPlace]; exact ss_NoText_NoPlace,
    ss_NoText_NoSide := by rw [clsK_of xa_NoText, clsK_of xa_NoSide]; exact ss_NoText_NoSide,
    ss_NoText_NoWay := by rw [clsK_of xa_NoText, clsK_of xa_NoWay]; exact ss_NoText_NoWay,
    ss_NoText_WeaveError := by rw [clsK_of xa_NoText, clsK_of xa_WeaveError]; exact ss_NoText_WeaveError,
    sv_NoText := by rw [clsK_of xa_NoText]; exact sv_NoText,
    g_FIGURES := ⟨_, by rw [S_cs]; exact PySem.W.mg_of X G y_FIGURES⟩,
    g_MOST_FIGURES := ⟨_, by exact PySem.W.mg_of X G y_MOST_FIGURES⟩ }
theorem walk {l : PySem.W.OpenLaw} {q : Program} {loose : List Str} {XP : (Str → Option Value) → Heap → Prop} {YP : World → Heap → Prop} {d : DefRec} {K : Params → PySem.W.Frag} (hn : l.most = some 63) (hdf : d.params.defaults = [])
    (hY : ∀ (w : World) (h : Heap), YP w h → (K w.params).In h) (F : ∀ (w : World) (mg : Str → Option Value) (fa : Addr) (h : Heap), (K w.params).In h → h.Ns mainGlobals mg → mg d.name = some (.ref fa) → d.name = "law" ∧ Env (K w.params) mg) :
    PySem.W.WalkO q loose XP YP l.row.toRowW d [] (fun f vs => PySem.call f vs) :=
  walkG (n := 63) (k := 5) (x := "script") (sp := fun w => Sp_law (K w.params)) hn (by decide) hdf ⟨rfl, by decide, by decide⟩ hY
    (fun w mg fa h KX G hf => by
      obtain ⟨e, T⟩ := F w mg fa h KX G hf
      rw [e] at hf
      exact law_fnG T.d_law hf (fun F => ok_law T F))
    (fun _ _ a ns hl hS => Sp_law.mk hS hl fun _ => rfl)
end Law
open PySem PySem.W PyProof.Rows in
set_option maxRecDepth 100000 in
set_option maxHeartbeats 0 in
theorem PySem.Challenge.cw_wovenword_k48_texts_of_no_paper_holds : PySem.Challenge.rw_wovenword_k48_texts_of_no_paper.Holds := by
  w_on; o_law; k_head; (case hw => w_witness2)
  k_fill
  refine Law.walk (l := PySem.Challenge.rw_wovenword_k48_texts_of_no_paper) rfl rfl (fun w h Y => PySem.W.kIn_of Y) ?F
  case F =>
    intro w mg fa h KX G hmg
    refine ⟨rfl, ?_⟩
    refine' Law.env_mk KX G (xa_NoCommand := ?xa_NoCommand) (xk_NoCommand := ?xk_NoCommand) (xs_NoCommand := ?xs_NoCommand) (xt_NoCommand := ?xt_NoCommand) (xg_NoCommand := ?xg_NoCommand) (xh_NoCommand := ?xh_NoCommand) (xd_NoCommand := ?xd_NoCommand) (xc_NoCommand := ?xc_NoCommand) (xm_NoCommand := ?xm_NoCommand) (xa_NoLength := ?xa_NoLength) (xk_NoLength := ?xk_NoLength) (xs_NoLength := ?xs_NoLength) (xt_NoLength := ?xt_NoLength) (xg_NoLength := ?xg_NoLength) (xh_NoLength := ?xh_NoLength) (xd_NoLength := ?xd_NoLength) (xc_NoLength := ?xc_NoLength) (xm_NoLength := ?xm_NoLength) (xa_NoLetter := ?xa_NoLetter) (xk_NoLetter := ?xk_NoLetter) (xs_NoLetter := ?xs_NoLetter) (xt_NoLetter := ?xt_NoLetter) (xg_NoLetter := ?xg_NoLetter) (xh_NoLetter := ?xh_NoLetter) (xd_NoLetter := ?xd_NoLetter) (xc_NoLetter := ?xc_NoLetter) (xm_NoLetter := ?xm_NoLetter) (xa_NoPlace := ?xa_NoPlace) (xk_NoPlace := ?xk_NoPlace) (xs_NoPlace := ?xs_NoPlace) (xt_NoPlace := ?xt_NoPlace) (xg_NoPlace := ?xg_NoPlace) (xh_NoPlace := ?xh_NoPlace) (xd_NoPlace := ?xd_NoPlace) (xc_NoPlace := ?xc_NoPlace) (xm_NoPlace := ?xm_NoPlace) (xa_NoSide := ?xa_NoSide) (xk_NoSide := ?xk_NoSide) (xs_NoSide := ?xs_NoSide) (xt_NoSide := ?xt_NoSide) (xg_NoSide := ?xg_NoSide) (xh_NoSide := ?xh_NoSide) (xd_NoSide := ?xd_NoSide) (xc_NoSide := ?xc_NoSide) (xm_NoSide := ?xm_NoSide) (xa_NoText := ?xa_NoText) (xk_NoText := ?xk_NoText) (xs_NoText := ?xs_NoText) (xt_NoText := ?xt_NoText) (xg_NoText := ?xg_NoText) (xh_NoText := ?xh_NoText) (xd_NoText := ?xd_NoText) (xc_NoText := ?xc_NoText) (xm_NoText := ?xm_NoText) (xa_NoWay := ?xa_NoWay) (xk_NoWay := ?xk_NoWay) (xs_NoWay := ?xs_NoWay) (xt_NoWay := ?xt_NoWay) (xg_NoWay := ?xg_NoWay) (xh_NoWay := ?xh_NoWay) (xd_NoWay := ?xd_NoWay) (xc_NoWay := ?xc_NoWay) (xm_NoWay := ?xm_NoWay) (xa_WeaveError := ?xa_WeaveError) (xk_WeaveError := ?xk_WeaveError) (xs_WeaveError := ?xs_WeaveError) (xt_WeaveError := ?xt_WeaveError) (xg_WeaveError := ?xg_WeaveError) (xh_WeaveError := ?xh_WeaveError) (xd_WeaveError := ?xd_WeaveError) (xc_WeaveError := ?xc_WeaveError) (xm_WeaveError := ?xm_WeaveError) (xn := ?xn) (xw := ?xw) (ss_NoText_NoText := ?ss_NoText_NoText) (ss_NoText_NoCommand := ?ss_NoText_NoCommand) (ss_NoText_NoLength := ?ss_NoText_NoLength) (ss_NoText_NoLetter := ?ss_NoText_NoLetter) (ss_NoText_NoPlace := ?ss_NoText_NoPlace) (ss_NoText_NoSide := ?ss_NoText_NoSide) (ss_NoText_NoWay := ?ss_NoText_NoWay) (ss_NoText_WeaveError := ?ss_NoText_WeaveError) (sv_NoText := ?sv_NoText) (a0 := ?a0) (l0 := ?l0) (c0 := ?c0) (k0 := ?k0) (a1 := ?a1) (l1 := ?l1) (c1 := ?c1) (k1 := ?k1) (a2 := ?a2) (l2 := ?l2) (c2 := ?c2) (k2 := ?k2) (a3 := ?a3) (l3 := ?l3) (c3 := ?c3) (k3 := ?k3) (a4 := ?a4) (l4 := ?l4) (c4 := ?c4) (k4 := ?k4) (a5 := ?a5) (l5 := ?l5) (c5 := ?c5) (k5 := ?k5) (a6 := ?a6) (l6 := ?l6) (c6 := ?c6) (k6 := ?k6) (a7 := ?a7) (l7 := ?l7) (c7 := ?c7) (k7 := ?k7) (a8 := ?a8) (l8 := ?l8) (c8 := ?c8) (k8 := ?k8) (a9 := ?a9) (l9 := ?l9) (c9 := ?c9) (k9 := ?k9) (a10 := ?a10) (l10 := ?l10) (c10 := ?c10) (k10 := ?k10) (a11 := ?a11) (l11 := ?l11) (c11 := ?c11) (k11 := ?k11) (a12 := ?a12) (l12 := ?l12) (c12 := ?c12) (k12 := ?k12) (z_ValueError := ?z_ValueError) (z_all := ?z_all) (z_int := ?z_int) (z_isinstance := ?z_isinstance) (z_len := ?z_len) (z_range := ?z_range) (z_repr := ?z_repr) (z_str := ?z_str) (y_FIGURES := ?y_FIGURES) (y_MOST_FIGURES := ?y_MOST_FIGURES) (xe_NoCommand := ?xe_NoCommand) (xe_NoLength := ?xe_NoLength) (xe_NoLetter := ?xe_NoLetter) (xe_NoPlace := ?xe_NoPlace) (xe_NoSide := ?xe_NoSide) (xe_NoText := ?xe_NoText) (xe_NoWay := ?xe_NoWay) (xe_WeaveError := ?xe_WeaveError)
    (case xa_NoCommand => k_is)
    (case xk_NoCommand => k_is)
    (case xs_NoCommand => k_is)
    (case xt_NoCommand => k_is)
    (case xg_NoCommand => k_is)
    (case xh_NoCommand => k_is)
    (case xd_NoCommand => k_is)
    (case xc_NoCommand => k_is)
    (case xm_NoCommand => k_is)
    (case xa_NoLength => k_is)
    (case xk_NoLength => k_is)
    (case xs_NoLength => k_is)
    (case xt_NoLength => k_is)
    (case xg_NoLength => k_is)
    (case xh_NoLength => k_is)
    (case xd_NoLength => k_is)
    (case xc_NoLength => k_is)
    (case xm_NoLength => k_is)
    (case xa_NoLetter => k_is)
    (case xk_NoLetter => k_is)
    (case xs_NoLetter => k_is)
    (case xt_NoLetter => k_is)
    (case xg_NoLetter => k_is)
    (case xh_NoLetter => k_is)
    (case xd_NoLetter => k_is)
    (case xc_NoLetter => k_is)
    (case xm_NoLetter => k_is)
    (case xa_NoPlace => k_is)
    (case xk_NoPlace => k_is)
    (case xs_NoPlace => k_is)
    (case xt_NoPlace => k_is)
    (case xg_NoPlace => k_is)
    (case xh_NoPlace => k_is)
    (case xd_NoPlace => k_is)
    (case xc_NoPlace => k_is)
    (case xm_NoPlace => k_is)
    (case xa_NoSide => k_is)
    (case xk_NoSide => k_is)
    (case xs_NoSide => k_is)
    (case xt_NoSide => k_is)
    (case xg_NoSide => k_is)
    (case xh_NoSide => k_is)
    (case xd_NoSide => k_is)
    (case xc_NoSide => k_is)
    (case xm_NoSide => k_is)
    (case xa_NoText => k_is)
    (case xk_NoText => k_is)
    (case xs_NoText => k_is)
    (case xt_NoText => k_is)
    (case xg_NoText => k_is)
    (case xh_NoText => k_is)
    (case xd_NoText => k_is)
    (case xc_NoText => k_is)
    (case xm_NoText => k_is)
    (case xa_NoWay => k_is)
    (case xk_NoWay => k_is)
    (case xs_NoWay => k_is)
    (case xt_NoWay => k_is)
    (case xg_NoWay => k_is)
    (case xh_NoWay => k_is)
    (case xd_NoWay => k_is)
    (case xc_NoWay => k_is)
    (case xm_NoWay => k_is)
    (case xa_WeaveError => k_is)
    (case xk_WeaveError => k_is)
    (case xs_WeaveError => k_is)
    (case xt_WeaveError => k_is)
    (case xg_WeaveError => k_is)
    (case xh_WeaveError => k_is)
    (case xd_WeaveError => k_is)
    (case xc_WeaveError => k_is)
    (case xm_WeaveError => k_is)
    (case xn => k_is)
    (case xw => k_is)
    (case ss_NoText_NoText => k_is)
    (case ss_NoText_NoCommand => k_is)
    (case ss_NoText_NoLength => k_is)
    (case ss_NoText_NoLetter => k_is)
    (case ss_NoText_NoPlace => k_is)
    (case ss_NoText_NoSide => k_is)
    (case ss_NoText_NoWay => k_is)
    (case ss_NoText_WeaveError => k_is)
    (case sv_NoText => k_is)
    (case a0 => k_is)
    (case l0 => k_is)
    (case c0 => k_is)
    (case k0 => k_is)
    (case a1 => k_is)
    (case l1 => k_is)
    (case c1 => k_is)
    (case k1 => k_is)
    (case a2 => k_is)
    (case l2 => k_is)
    (case c2 => k_is)
    (case k2 => k_is)
    (case a3 => k_is)
    (case l3 => k_is)
    (case c3 => k_is)
    (case k3 => k_is)
    (case a4 => k_is)
    (case l4 => k_is)
    (case c4 => k_is)
    (case k4 => k_is)
    (case a5 => k_is)
    (case l5 => k_is)
    (case c5 => k_is)
    (case k5 => k_is)
    (case a6 => k_is)
    (case l6 => k_is)
    (case c6 => k_is)
    (case k6 => k_is)
    (case a7 => k_is)
    (case l7 => k_is)
    (case c7 => k_is)
    (case k7 => k_is)
    (case a8 => k_is)
    (case l8 => k_is)
    (case c8 => k_is)
    (case k8 => k_is)
    (case a9 => k_is)
    (case l9 => k_is)
    (case c9 => k_is)
    (case k9 => k_is)
    (case a10 => k_is)
    (case l10 => k_is)
    (case c10 => k_is)
    (case k10 => k_is)
    (case a11 => k_is)
    (case l11 => k_is)
    (case c11 => k_is)
    (case k11 => k_is)
    (case a12 => k_is)
    (case l12 => k_is)
    (case c12 => k_is)
    (case k12 => k_is)
    (case z_ValueError => k_is)
    (case z_all => k_is)
    (case z_int => k_is)
    (case z_isinstance => k_is)
    (case z_len => k_is)
    (case z_range => k_is)
    (case z_repr => k_is)
    (case z_str => k_is)
    (case y_FIGURES => k_is)
    (case y_MOST_FIGURES => k_is)
    (case xe_NoCommand => k_exc)
    (case xe_NoLength => k_exc)
    (case xe_NoLetter => k_exc)
    (case xe_NoPlace => k_exc)
    (case xe_NoSide => k_exc)
    (case xe_NoText => k_exc)
    (case xe_NoWay => k_exc)
    (case xe_WeaveError => k_exc)
