import PyProof.Rows.All
import Wide.All
import OpenK.AllK
import Wide.FinOn
import PyProof.EqAt
import PyProof.EqKinds
import PyProof.TupleCall
import PyProof.ListStr
import PyProof.StrOps2
import KE.KItemsList
import KE.KDictItemsList
import KE.KRevSl
import KE.KEqSeq
import HandS.Base
import HandS.Call
import HandS.List
import HandS.Comp
import HandS.Ends
import HandS.Dict
import HandS.Iter
import HandS.Text
import HandS.Words
import HandS.WordsList
import HandS.Codes
import HandS.Walk
import HandS.Style
import HandS.IsInst
import HandS.SortInts
import HandS.Conv
import HandS.ListItems
import KE.KDictDisplayH
import HandS.TupLen
import PyProof.Draws
import PyProof.EnumMake
import PyProof.EnumFor
import KE.GoesMore
import KE.DataEq
import PyProof.StrLawsIn
import HandS.Replace
import KE.GoesZip
import KE.DatumOrd
import PyProof.Claim2Refuses
import HandS.NoneIn
import HandS.SetFor
import HandS.Strs
import HandS.More
import HandS.Exc
import HandS.TryOnly
import HandS.ExcOwn
import HandS.WordsExc
import HandS.ExcIs
import HandS.ExcValue
import HandS.DictTup
import PyProof.ReprRoads
import PyProof.ReprBulk
import KE.KeyNested
import PyProof.DictRoadsH
import HandS.ExcBuiltin
import KE.KExcIs
import PyProof.CollectStr
import PyProof.TupleOfGen
import PyProof.RowDictHeap
import PyProof.ReprRoads
import PyProof.ReprBulk
import PyProof.RowDictHeap
import PyProof.EqKinds
import PyProof.NeKinds
import PyProof.FactsAll.dict_1
import PyProof.FactsAll.subtypes_1
import PySem.Challenge.RW_wovenword_k02_what_is_a_way
set_option Elab.async false
set_option linter.all false
set_option maxRecDepth 100000
set_option autoImplicit false
set_option maxHeartbeats 4000000

namespace Go
open PySem PySem.Spec PyProof.Rows L2

/-! judgements with their reading found on the way -/
structure eS (X : Cx) (e : Expr) (σ : L2.St) (H : Hp) (Q : VK) : Prop where
  ex : ∃ t, PE X e t ∧ t σ H Q
structure qS (X : Cx) (e : Expr) (σ : L2.St) (H : Hp) (Q : Bool → Hp → Prop) : Prop where
  ex : ∃ t, PT X e t ∧ t σ H Q
structure wS (X : Cx) (e : Expr) (σ : L2.St) (H : Hp) (Q : Bool → Hp → Prop) : Prop where
  ex : ∃ t, PW X e t ∧ t σ H Q
structure aS (X : Cx) (es : List Expr) (σ : L2.St) (H : Hp) (Q : List V → Hp → Prop) : Prop where
  ex : ∃ t, PA X es t ∧ t σ H Q
structure sS (X : Cx) (st : Stmt) (D : Ends) (σ : L2.St) (H : Hp) : Prop where
  ex : ∃ t, PS X st t ∧ t D σ H
structure bS (X : Cx) (sts : List Stmt) (D : Ends) (σ : L2.St) (H : Hp) : Prop where
  ex : ∃ t, PSs X sts t ∧ t D σ H
structure gS (X : Cx) (tg : Expr) (v : V) (σ : L2.St) (H : Hp) (Q : L2.St → Hp → Prop) : Prop where
  ex : ∃ t, PG X tg t ∧ t v σ H Q
structure gsS (X : Cx) (tg : List Expr) (v : List V) (σ : L2.St) (H : Hp) (Q : L2.St → Hp → Prop) : Prop where
  ex : ∃ t, PGs X tg t ∧ t v σ H Q
structure iS (X : Cx) (tg iter : Expr) (σ : L2.St) (H : Hp) (R : It → Hp → Prop) : Prop where
  ex : ∃ t, PI X tg iter t ∧ t σ H R
structure oS (X : Cx) (f : Value → Value → Sem Value) (x y : V) (H : Hp) (Q : VK) : Prop where
  ex : ∃ r, OpR X f r ∧ r x y H Q
structure uS (X : Cx) (f : Value → Sem Value) (x : V) (H : Hp) (Q : VK) : Prop where
  ex : ∃ r, UnR X f r ∧ r x H Q
structure cS (X : Cx) (f : Value) (vs : List V) (H : Hp) (Q : VK) : Prop where
  ex : ∃ r, CallR X f r ∧ r vs H Q
structure mS (X : Cx) (id : String) (x : V) (vs : List V) (H : Hp) (Q : VK) : Prop where
  ex : ∃ r, MtR X id r ∧ r x vs H Q
structure xS (X : Cx) (x y : V) (H : Hp) (Q : VK) : Prop where
  ex : ∃ r, IxR X r ∧ r x y H Q
structure lS (X : Cx) (x : V) (lo hi : Option Int) (H : Hp) (Q : VK) : Prop where
  ex : ∃ r, SlR X r ∧ r x lo hi H Q
structure tS (X : Cx) (x : V) (H : Hp) (Q : Bool → Hp → Prop) : Prop where
  ex : ∃ r, TruR X r ∧ r x H Q
structure pS (X : Cx) (o i v : V) (H : Hp) (Q : Hp → Prop) : Prop where
  ex : ∃ t, PSet X t ∧ t o i v H Q
structure poS (X : Cx) (e : Option Expr) (σ : L2.St) (H : Hp) (Q : Option Int → Hp → Prop) : Prop where
  ex : ∃ t, PO X e t ∧ t σ H Q

section
variable {X : Cx}
theorem eS_is {e : Expr} : PE X e (eS X e) := ⟨fun pins s σ H Q I ⟨_, p, h⟩ => p.run pins s σ H Q I h⟩
theorem qS_is {e : Expr} : PT X e (qS X e) := ⟨fun pins s σ H Q I ⟨_, p, h⟩ => p.run pins s σ H Q I h⟩
theorem wS_is {e : Expr} : PW X e (wS X e) := ⟨fun wh pins s σ H Q I ⟨_, p, h⟩ => p.run wh pins s σ H Q I h⟩
theorem aS_is {es : List Expr} : PA X es (aS X es) := ⟨fun pos pins s σ H Q I ⟨_, p, h⟩ => p.run pos pins s σ H Q I h⟩
theorem sS_is {st : Stmt} : PS X st (sS X st) := ⟨fun pins s σ H D I ⟨_, p, h⟩ => p.run pins s σ H D I h⟩
theorem bS_is {sts : List Stmt} : PSs X sts (bS X sts) := ⟨fun pins s σ H D I ⟨_, p, h⟩ => p.run pins s σ H D I h⟩
theorem gS_is {tg : Expr} : PG X tg (gS X tg) := ⟨fun pins s σ H v u Q I r ⟨_, p, h⟩ => p.run pins s σ H v u Q I r h⟩
theorem gsS_is {tg : List Expr} : PGs X tg (gsS X tg) := ⟨fun pins s σ H v u Q I r ⟨_, p, h⟩ => p.run pins s σ H v u Q I r h⟩
theorem iS_is {tg it : Expr} : PI X tg it (iS X tg it) := ⟨fun pins s σ H R I ⟨_, p, h⟩ => p.run pins s σ H R I h⟩
theorem oS_is {f : Value → Value → Sem Value} : OpR X f (oS X f) := fun pins s σ H x y v u Q I rx ry ⟨_, p, h⟩ => p pins s σ H x y v u Q I rx ry h
theorem uS_is {f : Value → Sem Value} : UnR X f (uS X f) := fun pins s σ H x v Q I rx ⟨_, p, h⟩ => p pins s σ H x v Q I rx h
theorem cS_is {f : Value} : CallR X f (cS X f) := fun pins s σ H xs us Q I r ⟨_, p, h⟩ => p pins s σ H xs us Q I r h
theorem mS_is {id : String} : MtR X id (mS X id) := fun pins s σ H x xs v us Q I r rs ⟨_, p, h⟩ => p pins s σ H x xs v us Q I r rs h
theorem xS_is : IxR X (xS X) := fun va sl pins s σ H x y v u Q I r rs ⟨_, p, h⟩ e => p va sl pins s σ H x y v u Q I r rs h e
theorem lS_is : SlR X (lS X) := fun pins s σ H x v vl vu lo hi sl Q I r a b c ⟨_, p, h⟩ => p pins s σ H x v vl vu lo hi sl Q I r a b c h
theorem tS_is : TruR X (tS X) := fun pins s σ H x v Q I r ⟨_, p, h⟩ => p pins s σ H x v Q I r h
theorem pS_is : PSet X (pS X) := fun pins s σ H o i v ov iv u Q I a b c ⟨_, p, h⟩ => p pins s σ H o i v ov iv u Q I a b c h
theorem poS_is {e : Option Expr} : PO X e (poS X e) := ⟨fun pins s σ H Q I ⟨_, p, h⟩ => p.run pins s σ H Q I h⟩
end

theorem eS_mono {X : Cx} {e : Expr} {σ : L2.St} {H : Hp} {Q Q' : VK} (h : eS X e σ H Q) (m : ∀ v H, Q v H → Q' v H) : eS X e σ H Q' := by
  obtain ⟨t, p, h⟩ := h
  exact ⟨fun σ H R => ∃ Q, t σ H Q ∧ ∀ v H, Q v H → R v H, ⟨fun pins s σ H R I ⟨Q, h, m⟩ => thn (p.run pins s σ H Q I h) fun u s' ⟨v, H', I', r, q⟩ => ⟨v, H', I', r, m v H' q⟩⟩, Q, h, m⟩
theorem aS_mono {X : Cx} {es : List Expr} {σ : L2.St} {H : Hp} {T T' : List V → Hp → Prop} (h : aS X es σ H T) (m : ∀ v H, T v H → T' v H) : aS X es σ H T' := by
  obtain ⟨t, p, h⟩ := h
  exact ⟨fun σ H R => ∃ Q, t σ H Q ∧ ∀ v H, Q v H → R v H, ⟨fun pos pins s σ H R I ⟨Q, h, m⟩ => thn (p.run pos pins s σ H Q I h) fun u s' ⟨v, H', I', r, q⟩ => ⟨v, H', I', r, m v H' q⟩⟩, T, h, m⟩
theorem qS_mono {X : Cx} {e : Expr} {σ : L2.St} {H : Hp} {R R' : Bool → Hp → Prop} (h : qS X e σ H R) (m : ∀ v H, R v H → R' v H) : qS X e σ H R' := by
  obtain ⟨t, p, h⟩ := h
  exact ⟨fun σ H R => ∃ Q, t σ H Q ∧ ∀ v H, Q v H → R v H, ⟨fun pins s σ H R I ⟨Q, h, m⟩ => thn (p.run pins s σ H Q I h) fun u s' ⟨H', I', q⟩ => ⟨H', I', m u H' q⟩⟩, R, h, m⟩
/-- H' is H with a new object o at p -/
structure New (H : Hp) (p : Addr) (o : HO) (H' : Hp) : Prop where
  nw : H p = none
  eq : H' = upd H p o
/-- a name's place -/
inductive Ix : List Str → Str → Nat → Prop
  | here {x : Str} {l : List Str} : Ix (x :: l) x 0
  | there {x y : Str} {l : List Str} {i : Nat} : Ix l x i → Ix (y :: l) x (i + 1)
theorem Ix.get : ∀ {l : List Str} {x : Str} {i : Nat}, Ix l x i → l[i]? = some x
  | _, _, _, .here => rfl
  | _, _, _, .there h => by simpa using h.get

def visB (nm : List (Str × NameKind)) (x : Str) : Bool := (nm.lookup x == some .local || nm.lookup x == some .cell || nm.lookup x == some .free) && !(x == "__debug__") && !(x == "__classdict__")
def locB (nm : List (Str × NameKind)) (x : Str) : Bool := nm.lookup x == some .local || nm.lookup x == some .cell
def glB (nm : List (Str × NameKind)) (x : Str) : Bool := nm.lookup x == some .globalImplicit && !(x == "__debug__") && !(x == "__name__")

def scOf (nm : List (Str × NameKind)) : Scope := { kind := .function, names := nm, isGenerator := false, isCoroutine := false }
/-- the place where one stands: nm tells the kinds of the names of the def or block -/
structure CI (X : Cx) (P : Program) (w : World) (K : PySem.W.Frag) (mg : Str → Option Value) (base : Heap) (N : List Str) (nm : List (Str × NameKind)) (j : Nat) : Prop where
  nd : N.Nodup
  lo : ∀ x, nm.lookup x = some NameKind.local → X.env.scope.names.lookup x = some NameKind.local
  ce : ∀ x, nm.lookup x = some NameKind.cell → X.env.scope.names.lookup x = some NameKind.cell ∧ X.fn x = true
  fr : ∀ x, nm.lookup x = some NameKind.free → X.env.scope.names.lookup x = some NameKind.cell ∨ X.env.scope.names.lookup x = some NameKind.free
  go : ∀ x, nm.lookup x = some NameKind.globalImplicit → X.env.scope.names.lookup x = some NameKind.globalImplicit
  N : X.N = N
  prog : X.prog = P
  w : X.w = w
  K : X.K = K
  mg : X.mg = mg
  base : X.base = base
  kind : X.env.scope.kind = ScopeKind.function
  calm : X.calm = true
  room : Room j X.A
  pass : PassesOwn (model X.prog X.w) X.A X.env X.xe

section
variable {X : Cx} {P : Program} {w : World} {K : PySem.W.Frag} {mg : Str → Option Value} {base : Heap} {N : List Str} {nm : List (Str × NameKind)} {j : Nat} {σ : L2.St} {H : Hp} {Q : VK} {D : Ends} {pos : Pos}

theorem CI.vis (c : CI X P w K mg base N nm j) {x : Str} (h : visB nm x = true) : Vis X.env.scope x := by
  unfold visB at h
  simp only [Bool.and_eq_true, Bool.or_eq_true, beq_iff_eq] at h
  rcases h with ⟨⟨(h | h) | h, _⟩, _⟩
  · exact .inl (c.lo x h)
  · exact .inr (.inl (c.ce x h).1)
  · exact .inr (c.fr x h)
theorem visB_d {x : Str} (h : visB nm x = true) : (x == ("__debug__" : Str)) = false := by
  unfold visB at h
  simp only [Bool.and_eq_true, Bool.not_eq_true'] at h
  exact h.1.2
theorem visB_c {x : Str} (h : visB nm x = true) : (x == ("__classdict__" : Str)) = false := by
  unfold visB at h
  simp only [Bool.and_eq_true, Bool.not_eq_true'] at h
  exact h.2
theorem CI.loc (c : CI X P w K mg base N nm j) {x : Str} (h : locB nm x = true) : L2.Loc X.env.scope x := by
  unfold locB at h
  simp only [Bool.or_eq_true, beq_iff_eq] at h
  rcases h with h | h
  · exact .inl (c.lo x h)
  · exact .inr (c.ce x h).1
theorem CI.fn (c : CI X P w K mg base N nm j) {x : Str} (h : locB nm x = true) : X.fn x = true ∨ X.env.scope.names.lookup x = some NameKind.local := by
  unfold locB at h
  simp only [Bool.or_eq_true, beq_iff_eq] at h
  rcases h with h | h
  · exact .inr (c.lo x h)
  · exact .inl (c.ce x h).2
theorem CI.gl (c : CI X P w K mg base N nm j) {x : Str} (h : glB nm x = true) : Gl X x := by
  unfold glB at h
  simp only [Bool.and_eq_true, beq_iff_eq] at h
  exact c.go x h.1.1
theorem CI.bok (c : CI X P w K mg base N nm j) {scope : Scope} {own : List (Str × Nat)} (h : BlkOk N (scOf nm) scope own) : BlkOk N X.env.scope scope own :=
  ⟨h.kind, h.uniq, h.ix, fun y hy e => (h.free y hy e).elim (fun q => .inl (c.ce _ q).1) fun q => c.fr _ q, h.own⟩
theorem glB_d {x : Str} (h : glB nm x = true) : (x == ("__debug__" : Str)) = false := by
  unfold glB at h
  simp only [Bool.and_eq_true, Bool.not_eq_true'] at h
  exact h.1.2
theorem glB_n {x : Str} (h : glB nm x = true) : x ≠ ("__name__" : Str) := by
  unfold glB at h
  simp only [Bool.and_eq_true, Bool.not_eq_true'] at h
  intro e
  subst e
  simp at h

/-! expressions -/
theorem g_name (c : CI X P w K mg base N nm j) {x : Str} {i : Nat} {v : V} (hi : Ix N x i) (hv : visB nm x = true) (hσ : σ[i]? = some (some v)) (h : Q v H) : eS X (.Name x pos) σ H Q :=
  ⟨_, pe_var (i := i) (by rw [c.N]; exact hi.get) (c.vis hv) (visB_d hv) (visB_c hv), v, hσ, h⟩
theorem g_int {i : Int} {k : Tok} (h : Q (.int i) H) : eS X (.Constant (.int i) k pos) σ H Q := ⟨_, pe_int, h⟩
theorem g_bool {b : Bool} {k} (h : Q (.bl b) H) : eS X (.Constant (.bool b) k pos) σ H Q := ⟨_, pe_bl, h⟩
theorem g_none {k} (h : Q .non H) : eS X (.Constant .none k pos) σ H Q := ⟨_, pe_non, h⟩
theorem g_str {x : Str} {k} (h : Q (.str x) H) : eS X (.Constant (.str x) k pos) σ H Q := ⟨_, pe_str, h⟩
theorem g_bin {a b : Expr} {op : Operator} (h : eS X a σ H fun x H1 => eS X b σ H1 fun y H2 => oS X (binaryOp op) x y H2 Q) : eS X (.BinOp a op b pos) σ H Q :=
  ⟨_, pe_op oS_is eS_is eS_is, h⟩
theorem g_cmp {a b : Expr} {op : CmpOp} (hm : behindInMarks op b = false) (h : eS X a σ H fun x H1 => eS X b σ H1 fun y H2 => oS X (compareOp op) x y H2 Q) : eS X (.Compare a [op] [b] pos) σ H Q :=
  ⟨_, pe_cmpR oS_is eS_is eS_is hm, h⟩
theorem g_ix {a b : Expr} (hs : PlainIx b) (h : eS X a σ H fun x H1 => eS X b σ H1 fun y H2 => xS X x y H2 Q) : eS X (.Subscript a b pos) σ H Q :=
  ⟨_, pe_ix xS_is eS_is eS_is hs, h⟩
theorem g_lst {es : List Expr} (h : aS X es σ H fun xs H1 => xs.length ≤ sizeLine ∧ ∀ p H2, New H1 p (.lst xs) H2 → Q (.ref p) H2) : eS X (.List es pos) σ H Q := ⟨_, pe_lst aS_is, aS_mono h fun xs H1 ⟨l, q⟩ => ⟨l, fun p hp => q p _ ⟨hp, rfl⟩⟩⟩
theorem g_tup {es : List Expr} {k} (h : aS X es σ H fun xs H1 => xs.length ≤ sizeLine ∧ ∀ p H2, New H1 p (.tup xs) H2 → Q (.ref p) H2) : eS X (.Tuple es k pos) σ H Q := ⟨_, pe_tup aS_is, aS_mono h fun xs H1 ⟨l, q⟩ => ⟨l, fun p hp => q p _ ⟨hp, rfl⟩⟩⟩
theorem g_nil {R : List V → Hp → Prop} (h : R [] H) : aS X [] σ H R := ⟨_, pa_nil, h⟩
theorem g_cons {R : List V → Hp → Prop} {e : Expr} {es : List Expr} (he : starEach (e :: es) X.env = (false, eval e X.env) :: starEach es X.env) (h : eS X e σ H fun x H1 => aS X es σ H1 fun xs H2 => R (x :: xs) H2) : aS X (e :: es) σ H R := ⟨_, pa_cons eS_is aS_is he, h⟩
/-! statements -/
theorem g_nx (h : D.nx σ H) : bS X [] D σ H := ⟨_, pss_nil, h⟩
theorem g_st {st : Stmt} {rest : List Stmt} (h : sS X st { D with nx := fun σ' H' => bS X rest D σ' H' } σ H) : bS X (st :: rest) D σ H := ⟨_, pss_cons sS_is bS_is, h⟩
theorem g_ret {e : Expr} (h : eS X e σ H D.rt) : sS X (.Return (some e) pos) D σ H := ⟨_, ps_ret eS_is, h⟩
theorem g_set (c : CI X P w K mg base N nm j) {x : Str} {i : Nat} {e : Expr} {pos' : Pos} (hs : swapsWith e (some (.Name x pos')) pos.line X.env = pure false) (hi : Ix N x i) (hl : locB nm x = true) (h : eS X e σ H fun v H1 => D.nx (σ.set i (some v)) H1) : sS X (.Assign [.Name x pos'] e pos) D σ H :=
  ⟨_, ps_set (i := i) (by rw [c.N]; exact c.nd) (by rw [c.N]; exact hi.get) (c.loc hl) eS_is hs (c.fn hl), h⟩
theorem g_asg {e tg : Expr} (h1 : List.map (fun x => x.snd) (assignEach [tg] X.env) = [assign tg X.env]) (hs : swapsWithSole [tg] e pos.line X.env = pure false) (hw : swappedStores [tg] e X.env = pure none) (h : eS X e σ H fun v H1 => gS X tg v σ H1 D.nx) : sS X (.Assign [tg] e pos) D σ H :=
  ⟨_, ps_asg eS_is gS_is hs hw h1, h⟩
def SubOk (X : Cx) (o i : Expr) (pos : Pos) : Prop := ∀ v, assign (.Subscript o i pos) X.env v = (do let ov ← holding [v] (eval o X.env); let iv ← holding [v, ov] (eval i X.env); standAt pos; holding [v, ov, iv] (setItem ov iv v); release [v, ov, iv] [])
theorem g_sub {o i : Expr} {v : V} {R : L2.St → Hp → Prop} (ha : SubOk X o i pos) (h : eS X o σ H fun x H1 => eS X i σ H1 fun y H2 => pS X x y v H2 fun H3 => R σ H3) : gS X (.Subscript o i pos) v σ H R :=
  ⟨_, pg_sub eS_is eS_is pS_is ha, h⟩
theorem g_if {t : Expr} {a b : List Stmt} (h : qS X t σ H fun k H1 => if k = true then bS X a D σ H1 else bS X b D σ H1) : sS X (.If t a b pos) D σ H := ⟨_, ps_if qS_is bS_is bS_is, h⟩
theorem g_qcmp {a b : Expr} {op : CmpOp} {R : Bool → Hp → Prop} (hm : behindInMarks op b = false) (h : eS X a σ H fun x H1 => eS X b σ H1 fun y H2 => oS X (compareOp op) x y H2 fun z H3 => ∃ k, z = .bl k ∧ R k H3) : qS X (.Compare a [op] [b] pos) σ H R :=
  ⟨_, pt_cmpR oS_is eS_is eS_is hm, h⟩
/-! operators by values -/
theorem o_add {i k : Int} (h : Q (.int (i + k)) H) : oS X (binaryOp .Add) (.int i) (.int k) H Q := ⟨_, op_add, _, _, rfl, rfl, h⟩
theorem o_sub {i k : Int} (h : Q (.int (i - k)) H) : oS X (binaryOp .Sub) (.int i) (.int k) H Q := ⟨_, op_sub, _, _, rfl, rfl, h⟩
theorem o_mulR {i k : Int} (hb : -(2 ^ 64) < k ∧ k < 2 ^ 64) (h : Q (.int (i * k)) H) : oS X (binaryOp .Mult) (.int i) (.int k) H Q := ⟨_, op_mul, _, _, rfl, rfl, .inr hb, h⟩
theorem o_mulL {i k : Int} (hb : -(2 ^ 64) < i ∧ i < 2 ^ 64) (h : Q (.int (i * k)) H) : oS X (binaryOp .Mult) (.int i) (.int k) H Q := ⟨_, op_mul, _, _, rfl, rfl, .inl hb, h⟩
theorem o_mod {i k : Int} (hk : 0 < k) (h : Q (.int (i % k)) H) : oS X (binaryOp .Mod) (.int i) (.int k) H Q := ⟨_, op_mod, _, _, rfl, rfl, hk, h⟩
theorem o_div {i k : Int} (h1 : 0 < k) (h2 : k < 1073741824) (h : Q (.int (i / k)) H) : oS X (binaryOp .FloorDiv) (.int i) (.int k) H Q := ⟨_, op_fdiv, _, _, rfl, rfl, ⟨h1, h2⟩, h⟩
theorem o_pow {i k : Int} (h1 : 0 ≤ k ∧ k ≤ 1000000 ∧ i.natAbs < 2 ^ 64) (h : Q (.int (i ^ k.toNat)) H) : oS X (binaryOp .Pow) (.int i) (.int k) H Q := ⟨_, op_pow, _, _, rfl, rfl, h1, h⟩
theorem o_lt {i k : Int} (h : Q (.bl (decide (i < k))) H) : oS X (compareOp .Lt) (.int i) (.int k) H Q := ⟨_, op_lt, _, _, rfl, rfl, h⟩
theorem o_gt {i k : Int} (h : Q (.bl (decide (k < i))) H) : oS X (compareOp .Gt) (.int i) (.int k) H Q := ⟨_, op_gt, _, _, rfl, rfl, h⟩
theorem o_le {i k : Int} (h : Q (.bl (decide (i ≤ k))) H) : oS X (compareOp .LtE) (.int i) (.int k) H Q := ⟨_, op_le, _, _, rfl, rfl, h⟩
theorem o_ge {i k : Int} (h : Q (.bl (decide (k ≤ i))) H) : oS X (compareOp .GtE) (.int i) (.int k) H Q := ⟨_, op_ge, _, _, rfl, rfl, h⟩
theorem k_bl {k : Bool} {R : Bool → Hp → Prop} (h : R k H) : ∃ k', V.bl k = .bl k' ∧ R k' H := ⟨k, rfl, h⟩
/-- a test that is open -/
theorem i_dec {p : Prop} [Decidable p] {A B : Prop} (h1 : p → A) (h2 : ¬ p → B) : if decide p = true then A else B := by
  by_cases h : p
  · rw [if_pos (decide_eq_true h)]; exact h1 h
  · rw [if_neg (by simpa using h)]; exact h2 h
theorem x_lst (c : CI X P w K mg base N nm j) {p : Addr} {xs : List V} {i : Int} {v : V} (hp : SqL K H p xs) (ha : atI xs i = some v) (h : Q v H) : xS X (.ref p) (.int i) H Q := by
  have e := c.K
  subst e
  exact ⟨_, ix_list, _, _, _, _, rfl, rfl, hp, ha, h⟩
theorem p_lst {p : Addr} {xs : List V} {i : Int} {v : V} {R : Hp → Prop} {m : Nat} (hp : H p = some (.lst xs)) (hm : ixN xs.length i = some m) (h : R (upd H p (.lst (xs.set m v)))) : pS X (.ref p) (.int i) v H R := by
  exact ⟨_, set_list, _, _, _, _, rfl, rfl, hp, hm, h⟩
end
end Go

namespace Go
open PySem PySem.Spec PyProof.Rows L2

/-- the value that a name holds -/
inductive Get : List Str → L2.St → Str → V → Prop
  | here {x : Str} {l : List Str} {v : V} {s : L2.St} : Get (x :: l) (some v :: s) x v
  | there {x y : Str} {l : List Str} {o : Option V} {v : V} {s : L2.St} : Get l s x v → Get (y :: l) (o :: s) x v
/-- the i-th place is given a value -/
inductive Put : L2.St → Nat → V → L2.St → Prop
  | here {v : V} {o : Option V} {s : L2.St} : Put (o :: s) 0 v (some v :: s)
  | there {o : Option V} {i : Nat} {v : V} {s s' : L2.St} : Put s i v s' → Put (o :: s) (i + 1) v (o :: s')
theorem Get.ix : ∀ {l : List Str} {s : L2.St} {x : Str} {v : V}, Get l s x v → ∃ i : Nat, l[i]? = some x ∧ s[i]? = some (some v)
  | _, _, _, _, .here => ⟨0, rfl, rfl⟩
  | _, _, _, _, .there h => by obtain ⟨i, a, b⟩ := h.ix; exact ⟨i + 1, by simpa using a, by simpa using b⟩
theorem Put.eq : ∀ {s s' : L2.St} {i : Nat} {v : V}, Put s i v s' → s.set i (some v) = s'
  | _, _, _, _, .here => rfl
  | _, _, _, _, .there h => by rw [List.set_cons_succ, h.eq]

/-- what stands: G, for ever; the cells C, which may be written -/
structure Own (G : Hp) (C : List (Addr × HO)) (H : Hp) : Prop where
  same : Same G H
  own : ∀ p ∈ C, H p.1 = some p.2 ∧ G p.1 = none
  nd : (C.map (·.1)).Nodup

section
variable {G H : Hp} {C : List (Addr × HO)} {p : Addr} {o o' : HO} {Q : VK}
theorem Own.frees (O : Own G C H) (h : H p = none) : G p = none ∧ p ∉ C.map (·.1) := by
  refine ⟨O.same.free h, fun hp => ?_⟩
  obtain ⟨q, hq, e⟩ := List.mem_map.mp hp
  have z := (O.own q hq).1
  rw [e, h] at z
  cases z
theorem same_new (h : G p = none) : Same G (upd G p o) := fun b u e => by rw [upd_ne (ne_of_none e h)]; exact e
theorem Own.fz (O : Own G C H) (h : H p = none) : Own (upd G p o) C (upd H p o) := by
  obtain ⟨g, nc⟩ := O.frees h
  refine ⟨fun b u e => ?_, fun q hq => ?_, O.nd⟩
  · by_cases hb : b = p
    · subst hb; rw [upd_same] at e ⊢; exact e
    · rw [upd_ne hb] at e ⊢; exact O.same b u e
  · have hne : q.1 ≠ p := fun e => nc (List.mem_map.mpr ⟨q, hq, e⟩)
    rw [upd_ne hne, upd_ne hne]; exact O.own q hq
theorem Own.cell (O : Own G C H) (h : H p = none) : Own G ((p, o) :: C) (upd H p o) := by
  obtain ⟨g, nc⟩ := O.frees h
  refine ⟨fun b u e => by rw [upd_ne (ne_of_none e g)]; exact O.same b u e, fun q hq => ?_, List.nodup_cons.mpr ⟨nc, O.nd⟩⟩
  rcases List.mem_cons.mp hq with rfl | hq
  · exact ⟨upd_same, g⟩
  · have hne : q.1 ≠ p := fun e => nc (List.mem_map.mpr ⟨q, hq, e⟩)
    rw [upd_ne hne]; exact O.own q hq
theorem Own.write (O : Own G ((p, o) :: C) H) : Own G ((p, o') :: C) (upd H p o') := by
  have g := (O.own _ List.mem_cons_self).2
  have nc : p ∉ C.map (·.1) := (List.nodup_cons.mp O.nd).1
  refine ⟨fun b u e => by rw [upd_ne (ne_of_none e g)]; exact O.same b u e, fun q hq => ?_, O.nd⟩
  rcases List.mem_cons.mp hq with rfl | hq
  · exact ⟨upd_same, g⟩
  · have hne : q.1 ≠ p := fun e => nc (List.mem_map.mpr ⟨q, hq, e⟩)
    rw [upd_ne hne]; exact O.own q (List.mem_cons_of_mem _ hq)
theorem Own.at (O : Own G ((p, o) :: C) H) : H p = some o := (O.own _ List.mem_cons_self).1
theorem Own.swap {a b : Addr × HO} (O : Own G (a :: b :: C) H) : Own G (b :: a :: C) H :=
  ⟨O.same, fun q hq => O.own q (by simp only [List.mem_cons] at hq ⊢; rcases hq with h | h | h <;> simp [h]), by
    have n := O.nd
    simp only [List.map_cons, List.nodup_cons, List.mem_cons, not_or] at n ⊢
    exact ⟨⟨fun e => n.1.1 e.symm, n.2.1⟩, n.1.2, n.2.2⟩⟩
theorem Own.drop {a : Addr × HO} (O : Own G (a :: C) H) : Own G C H :=
  ⟨O.same, fun q hq => O.own q (List.mem_cons_of_mem _ hq), (List.nodup_cons.mp (by simpa using O.nd)).2⟩
theorem Own.freeze (O : Own G ((p, o) :: C) H) : Own (upd G p o) C H ∧ Same G (upd G p o) := by
  have g := (O.own _ List.mem_cons_self).2
  have nc : p ∉ C.map (·.1) := (List.nodup_cons.mp O.nd).1
  refine ⟨⟨fun b u e => ?_, fun q hq => ?_, (List.nodup_cons.mp O.nd).2⟩, same_new g⟩
  · by_cases hb : b = p
    · subst hb; rw [upd_same] at e; rw [← e]; exact O.at
    · rw [upd_ne hb] at e; exact O.same b u e
  · have hne : q.1 ≠ p := fun e => nc (List.mem_map.mpr ⟨q, hq, e⟩)
    rw [upd_ne hne]; exact O.own q (List.mem_cons_of_mem _ hq)
/-- a new object for good | a new cell | .. behind the first one -/
theorem Own.fix {H' : Hp} (O : Own G C H) (n : New H p o H') : ∃ G', Same G G' ∧ G' p = some o ∧ Own G' C H' := by
  obtain ⟨h, rfl⟩ := n
  exact ⟨_, same_new (O.frees h).1, upd_same, O.fz h⟩
/-- many new objects for good -/
theorem Own.all {H' : Hp} (O : Own G C H) (s : Same H H') : ∃ G', Same G G' ∧ Own G' C H' ∧ ∀ b u, H b = none → H' b = some u → G' b = some u := by
  refine ⟨fun b => if b ∈ C.map (·.1) then none else H' b, fun b u e => ?_, ⟨fun b u e => ?_, fun q hq => ?_, O.nd⟩, fun b u e1 e2 => ?_⟩
  · have hn : b ∉ C.map (·.1) := fun h => by
      obtain ⟨q, hq, e1⟩ := List.mem_map.mp h
      have z := (O.own q hq).2
      rw [e1, e] at z
      cases z
    show (if b ∈ C.map (·.1) then none else H' b) = some u
    rw [if_neg hn]
    exact s _ _ (O.same _ _ e)
  · have e : (if b ∈ C.map (·.1) then none else H' b) = some u := e
    by_cases hb : b ∈ C.map (·.1)
    · rw [if_pos hb] at e; cases e
    · rw [if_neg hb] at e; exact e
  · refine ⟨s _ _ (O.own q hq).1, ?_⟩
    show (if q.1 ∈ C.map (·.1) then none else H' q.1) = none
    rw [if_pos (List.mem_map.mpr ⟨q, hq, rfl⟩)]
  · have hn : b ∉ C.map (·.1) := (O.frees e1).2
    show (if b ∈ C.map (·.1) then none else H' b) = some u
    rw [if_neg hn]
    exact e2
theorem Own.more {H' : Hp} (O : Own G C H) (n : New H p o H') : Own G ((p, o) :: C) H' := by
  obtain ⟨h, rfl⟩ := n
  exact O.cell h
theorem Own.more2 {H' : Hp} {a : Addr × HO} (O : Own G (a :: C) H) (n : New H p o H') : Own G (a :: (p, o) :: C) H' := (O.more n).swap
end

section
variable {X : Cx} {P : Program} {w : World} {K : PySem.W.Frag} {mg : Str → Option Value} {base : Heap} {N : List Str} {nm : List (Str × NameKind)} {j : Nat} {σ σ' : L2.St} {H : Hp} {Q : VK} {D : Ends} {pos : Pos}
theorem e_name (c : CI X P w K mg base N nm j) {x : Str} {v : V} (hv : visB nm x = true) (hg : Get N σ x v) (h : Q v H) : eS X (.Name x pos) σ H Q := by
  obtain ⟨i, a, b⟩ := hg.ix
  exact ⟨_, pe_var (i := i) (by rw [c.N]; exact a) (c.vis hv) (visB_d hv) (visB_c hv), v, b, h⟩
theorem s_set (c : CI X P w K mg base N nm j) {x : Str} {i : Nat} {e : Expr} {pos' : Pos} (hs : swapsWith e (some (.Name x pos')) pos.line X.env = pure false) (hi : Ix N x i) (hl : locB nm x = true) (h : eS X e σ H fun v H1 => D.nx (σ.set i (some v)) H1) : sS X (.Assign [.Name x pos'] e pos) D σ H :=
  ⟨_, ps_set (i := i) (by rw [c.N]; exact c.nd) (by rw [c.N]; exact hi.get) (c.loc hl) eS_is hs (c.fn hl), h⟩
theorem n_put {i : Nat} {v : V} {sts : List Stmt} (h : Put σ i v σ') (k : bS X sts D σ' H) : bS X sts D (σ.set i (some v)) H := by rw [h.eq]; exact k
/-- into a def -/
theorem enter {x qual : Str} {st : Stmt} {f : Addr} {fd : FuncData} {ps : List Str} {sp : Sp} {k : Nat} (F : Fun K x qual st f fd) (S : FnScope N ps (defScope st)) (hnm : (defScope st).names = nm) (len : ∀ vs H Q E, sp vs H Q E → vs.length = ps.length)
    (body : ∀ (X : Cx) (H : Hp) (vs : List V) (Q : VK) (E : XK), CI X P w K mg base N nm k → sp vs H Q E → bS X (defBody st) { nx := fun _ H' => Q .non H', rt := Q } (start N vs) H) : FnOk P w K mg base CX0 (k + 1) f fd ps sp :=
  F.ok S len fun cdv A outer s H vs Q E hr h => ⟨_, bS_is, body _ H vs Q E ⟨S.nd, fun _ h => by rw [← hnm] at h; exact h, fun _ h => ⟨by rw [← hnm] at h; exact h, rfl⟩, fun _ h => .inr (by rw [← hnm] at h; exact h), fun _ h => by rw [← hnm] at h; exact h, rfl, rfl, rfl, rfl, rfl, rfl, S.kind, rfl, hr, PassesOwn.never⟩ h⟩
end
end Go

namespace Go
open PySem PySem.Spec PyProof.Rows L2

/-- a text by its codes -/
def S (l : List Nat) : Str := ⟨l.toArray⟩
def cs (x : Str) : List Nat := x.cps.toList
theorem S_cs (x : Str) : S (cs x) = x := by cases x; simp [S, cs]
theorem cs_S (l : List Nat) : cs (S l) = l := by simp [S, cs]
theorem S_len (l : List Nat) : (S l).length = l.length := by simp [S, Str.length]
theorem S_inj {a b : List Nat} : S a = S b ↔ a = b := ⟨fun h => by have := congrArg cs h; rwa [cs_S, cs_S] at this, fun h => by rw [h]⟩
theorem S_app (a b : List Nat) : S a ++ S b = S (a ++ b) := by
  show (⟨a.toArray ++ b.toArray⟩ : Str) = ⟨(a ++ b).toArray⟩
  simp

section
variable {X : Cx} {P : Program} {w : World} {K : PySem.W.Frag} {mg : Str → Option Value} {base : Heap} {N : List Str} {nm : List (Str × NameKind)} {j : Nat} {σ σ' : L2.St} {H : Hp} {Q : VK} {D : Ends} {pos p p2 apos : Pos} {a b e : Expr} {es : List Expr} {R : Bool → Hp → Prop}

theorem CI.hu (c : CI X P w K mg base N nm j) : X.A.units + 1 < cLine := hu_of c.room
theorem CI.u0 (c : CI X P w K mg base N nm j) : X.A.units < cLine := Nat.lt_of_succ_lt c.hu
theorem CI.u64 (c : CI X P w K mg base N nm j) : X.A.units + 64 < cLine := by have := c.room.un; omega

/-! constants, names -/
theorem e_str {x : Str} {k} (h : Q (.str (S (cs x))) H) : eS X (.Constant (.str x) k pos) σ H Q := ⟨_, pe_str, by rw [← S_cs x]; exact h⟩
theorem e_bltn (c : CI X P w K mg base N nm j) {x : Str} {v : V} {u : Value} (hg : glB nm x = true) (hm : mg x = none) (hv : bootBuiltins x = some u) (r : RelV v u) (h : Q v H) : eS X (.Name x pos) σ H Q :=
  ⟨_, pe_bltn (c.gl hg) (by rw [c.mg]; exact hm) hv r (glB_n hg) (glB_d hg), h⟩
theorem e_glob (c : CI X P w K mg base N nm j) {x : Str} {v : V} {u : Value} (hg : glB nm x = true) (hm : mg x = some u) (r : RelV v u) (h : Q v H) : eS X (.Name x pos) σ H Q :=
  ⟨_, ⟨fun _ _ _ H _ I h => ld_glob I (c.gl hg) (by rw [c.mg]; exact hm) ⟨v, H, I, r, h⟩ (glB_d hg)⟩, h⟩
theorem e_neg (h : eS X a σ H fun x H1 => uS X (unaryOp .USub) x H1 Q) : eS X (.UnaryOp .USub a pos) σ H Q := ⟨_, pe_un uS_is eS_is, h⟩
theorem u_neg {i : Int} (h : Q (.int (-i)) H) : uS X (unaryOp .USub) (.int i) H Q := ⟨_, un_neg, _, rfl, h⟩
/-! and, or, not -/
theorem e_not (h : eS X a σ H fun x H1 => ∃ c, x = .bl c ∧ Q (.bl (!c)) H1) : eS X (.UnaryOp .Not a pos) σ H Q := ⟨_, pe_not eS_is, h⟩
theorem e_one {op} (h : eS X a σ H Q) : eS X (.BoolOp op [a] pos) σ H Q := ⟨_, pe_one eS_is, h⟩
theorem e_and (h : eS X a σ H fun x H1 => ∃ c, x = .bl c ∧ if c = true then eS X (.BoolOp .And (b :: es) pos) σ H1 Q else Q (.bl false) H1) : eS X (.BoolOp .And (a :: b :: es) pos) σ H Q := ⟨_, pe_and eS_is eS_is, h⟩
theorem e_or (h : eS X a σ H fun x H1 => ∃ c, x = .bl c ∧ if c = true then Q (.bl true) H1 else eS X (.BoolOp .Or (b :: es) pos) σ H1 Q) : eS X (.BoolOp .Or (a :: b :: es) pos) σ H Q := ⟨_, pe_or eS_is eS_is, h⟩
theorem q_w (h : wS X a σ H R) : qS X a σ H R := by obtain ⟨t, p, h⟩ := h; exact ⟨t, p.pt, h⟩
theorem w_and1 (h : qS X a σ H R) : wS X (.BoolOp .And [a] pos) σ H R := ⟨_, pw_and1 qS_is, h⟩
theorem w_or1 (h : qS X a σ H R) : wS X (.BoolOp .Or [a] pos) σ H R := ⟨_, pw_or1 qS_is, h⟩
theorem w_and (h : qS X a σ H fun c H1 => if c = true then wS X (.BoolOp .And (b :: es) pos) σ H1 R else R false H1) : wS X (.BoolOp .And (a :: b :: es) pos) σ H R := ⟨_, pw_and qS_is wS_is, h⟩
theorem w_or (h : qS X a σ H fun c H1 => if c = true then R true H1 else wS X (.BoolOp .Or (b :: es) pos) σ H1 R) : wS X (.BoolOp .Or (a :: b :: es) pos) σ H R := ⟨_, pw_or qS_is wS_is, h⟩
theorem q_not (h : qS X a σ H fun c H1 => R (!c) H1) : qS X (.UnaryOp .Not a pos) σ H R := ⟨_, pt_not qS_is, h⟩
def TruOk (X : Cx) (e : Expr) : Prop := ∀ whole, isTrue e X.env whole = (do let v ← whole; standAt e.pos; holding [v] (truthy v))
theorem q_val (he : TruOk X e) (h : eS X e σ H fun x H1 => ∃ c, x = .bl c ∧ R c H1) : qS X e σ H R := ⟨_, pt_val eS_is he, h⟩
theorem e_if {t : Expr} (h : qS X t σ H fun c H1 => if c = true then eS X a σ H1 Q else eS X b σ H1 Q) : eS X (.IfExp t a b pos) σ H Q := ⟨_, pe_ifExp qS_is eS_is eS_is, h⟩
/-! comparisons -/
theorem q_cmp {op : CmpOp} (hm : behindInMarks op b = false) (h : eS X a σ H fun x H1 => eS X b σ H1 fun y H2 => oS X (compareOp op) x y H2 fun z H3 => ∃ k, z = .bl k ∧ R k H3) : qS X (.Compare a [op] [b] pos) σ H R := g_qcmp hm h
theorem e_cmp {op : CmpOp} (hm : behindInMarks op b = false) (h : eS X a σ H fun x H1 => eS X b σ H1 fun y H2 => oS X (compareOp op) x y H2 Q) : eS X (.Compare a [op] [b] pos) σ H Q := g_cmp hm h
theorem e_chain {d : Expr} {op op' : CmpOp} (hm : lastMarks [op, op'] [b, d] = false) (h : eS X a σ H fun x H1 => eS X b σ H1 fun y H2 => oS X (compareOp op) x y H2 fun z H3 => ∃ k, z = .bl k ∧ if k = true then eS X d σ H3 fun w' H4 => oS X (compareOp op') y w' H4 Q else Q (.bl false) H3) :
    eS X (.Compare a [op, op'] [b, d] pos) σ H Q := ⟨_, pe_chain oS_is oS_is eS_is eS_is eS_is hm, h⟩
theorem q_chain {d : Expr} {op op' : CmpOp} (hm : lastMarks [op, op'] [b, d] = false) (h : eS X a σ H fun x H1 => eS X b σ H1 fun y H2 => oS X (compareOp op) x y H2 fun z H3 => ∃ k, z = .bl k ∧ if k = true then eS X d σ H3 fun w' H4 => oS X (compareOp op') y w' H4 fun z H3 => ∃ k, z = .bl k ∧ R k H3 else ∃ k', V.bl false = .bl k' ∧ R k' H3) :
    qS X (.Compare a [op, op'] [b, d] pos) σ H R := ⟨_, pt_chain oS_is oS_is eS_is eS_is eS_is hm, h⟩
/-! displays, subscripts, slices -/
theorem e_slice {lo hi : Option Expr} (h : eS X a σ H fun x H1 => poS X lo σ H1 fun l H2 => poS X hi σ H2 fun u H3 => lS X x l u H3 Q) : eS X (.Subscript a (.Slice lo hi none p2) pos) σ H Q := ⟨_, pe_slice lS_is eS_is poS_is poS_is, h⟩
theorem po_no {R : Option Int → Hp → Prop} (h : R none H) : poS X none σ H R := ⟨_, po_none, h⟩
theorem po_so {R : Option Int → Hp → Prop} (h : eS X e σ H fun x H1 => ∃ i, x = .int i ∧ R (some i) H1) : poS X (some e) σ H R := ⟨_, po_some eS_is, h⟩
theorem k_int {i : Int} {R : Int → Hp → Prop} (h : R i H) : ∃ i', V.int i = .int i' ∧ R i' H := ⟨i, rfl, h⟩
/-! calls -/
/-- a def of the module that may be called by its name, with its promise -/
structure Cal (P : Program) (w : World) (K : PySem.W.Frag) (mg : Str → Option Value) (base : Heap) (k : Nat) (x : Str) (sp : Sp) : Prop where
  ex : ∃ (f : Addr) (fd : FuncData) (ps : List Str), FnOk P w K mg base CX0 k f fd ps sp ∧ mg x = some (.ref f) ∧ PySem.W.keepIn K (.ref f) = true ∧ Binds K fd ps []
theorem e_call (c : CI X P w K mg base N nm j) {x : Str} {k : Nat} {sp : Sp} (C : Cal P w K mg base k x sp) (hk : k ≤ j) (hg : glB nm x = true) (he : starEach (e :: es) X.env = (false, eval e X.env) :: starEach es X.env) (hpl : (backTo pos (starEach es X.env)).any (·.1) = false)
    (h : aS X (e :: es) σ H fun vs H1 => sp vs H1 Q E0) : eS X (.Call (.Name x p) (e :: es) [] pos) σ H Q := by
  have h1 := c.prog; have h2 := c.w; have h3 := c.K; have h4 := c.mg; have h5 := c.base
  subst h1 h2 h3 h4 h5
  obtain ⟨f, fd, ps, F, h1, h2, h3⟩ := C.ex
  exact ⟨_, pe_call F (c.room.mono hk) (c.gl hg) h1 h2 h3 .nil pass0 aS_is (glB_d hg) he hpl, aS_mono h fun vs H1 q => by rw [List.append_nil]; exact q⟩
theorem e_callB (c : CI X P w K mg base N nm j) {x : Str} {id : String} (hg : glB nm x = true) (hm : mg x = none) (hv : bootBuiltins x = some (.builtin id)) (he : starEach (e :: es) X.env = (false, eval e X.env) :: starEach es X.env) (hpl : (backTo pos (starEach es X.env)).any (·.1) = false)
    (h : aS X (e :: es) σ H fun vs H1 => cS X (.builtin id) vs H1 Q) : eS X (.Call (.Name x p) (e :: es) [] pos) σ H Q :=
  ⟨_, pe_callB cS_is (c.gl hg) (by rw [c.mg]; exact hm) hv aS_is (glB_n hg) (glB_d hg) he hpl, h⟩
theorem e_callTy (c : CI X P w K mg base N nm j) {x : Str} {T : String} (hg : glB nm x = true) (hm : mg x = none) (hv : bootBuiltins x = some (.type T)) (he : starEach (e :: es) X.env = (false, eval e X.env) :: starEach es X.env) (hpl : (backTo pos (starEach es X.env)).any (·.1) = false)
    (h : aS X (e :: es) σ H fun vs H1 => cS X (.type T) vs H1 Q) : eS X (.Call (.Name x p) (e :: es) [] pos) σ H Q :=
  ⟨_, pe_callTy cS_is (c.gl hg) (by rw [c.mg]; exact hm) hv aS_is (glB_n hg) (glB_d hg) he hpl, h⟩
theorem e_meth (c : CI X P w K mg base N nm j) {T id : String} {name : Str} (pa : PlainAttrs T) (slot : Slot T name id) (hty : typeOf (.builtin id) = pure (.type "method_descriptor")) (hbase : attributeBase a name X.env (eval a X.env) = eval a X.env) (hline : (apos.endLine == pos.line) = true)
    (hs : starEach (e :: es) X.env = (false, eval e X.env) :: starEach es X.env) (hp : (backTo pos (starEach es X.env)).any (·.1) = false)
    (hf : ((backTo pos (starEach (e :: es) X.env)).all (fun x => !x.1) && (backToKw pos (keywordEach [] X.env)).all (fun x => x.1.isSome) && decide ((e :: es).length + ([] : List Keyword).length + (if ([] : List Keyword).isEmpty then 0 else 1) < 30)) = true)
    (h : eS X a σ H fun x H1 => tyV K T x H1 ∧ aS X (e :: es) σ H1 fun xs H2 => mS X id x xs H2 Q) : eS X (.Call (.Attribute a name apos) (e :: es) [] pos) σ H Q := by
  have h3 := c.K
  subst h3
  exact ⟨_, pe_bm pa slot hty mS_is eS_is aS_is hbase hf hline hs hp, h⟩
theorem e_meth0 (c : CI X P w K mg base N nm j) {T id : String} {name : Str} (pa : PlainAttrs T) (slot : Slot T name id) (hty : typeOf (.builtin id) = pure (.type "method_descriptor")) (hbase : attributeBase a name X.env (eval a X.env) = eval a X.env) (hline : (apos.endLine == pos.line) = true)
    (h : eS X a σ H fun x H1 => tyV K T x H1 ∧ mS X id x [] H1 Q) : eS X (.Call (.Attribute a name apos) [] [] pos) σ H Q := by
  have h3 := c.K
  subst h3
  exact ⟨_, pe_bm0 pa slot hty mS_is eS_is hbase hline, h⟩
theorem e_sm1 {id : String} {name : Str} (slot : Slot "str" name id) (ty : typeOf (.builtin id) = pure (.type "method_descriptor")) (hs : starEach [e] X.env = [(false, eval e X.env)]) (hbase : attributeBase a name X.env (eval a X.env) = eval a X.env) (hline : (apos.endLine == pos.line) = true)
    (h : eS X a σ H fun x H1 => (∃ z, x = .str z) ∧ eS X e σ H1 fun y H2 => mS X id x [y] H2 Q) : eS X (.Call (.Attribute a name apos) [e] [] pos) σ H Q := ⟨_, pe_m1 slot ty mS_is eS_is eS_is hs hbase hline, h⟩
theorem e_sm0 {id : String} {name : Str} (slot : Slot "str" name id) (ty : typeOf (.builtin id) = pure (.type "method_descriptor")) (hbase : attributeBase a name X.env (eval a X.env) = eval a X.env) (hline : (apos.endLine == pos.line) = true)
    (h : eS X a σ H fun x H1 => (∃ z, x = .str z) ∧ mS X id x [] H1 Q) : eS X (.Call (.Attribute a name apos) [] [] pos) σ H Q := ⟨_, pe_m0 slot ty mS_is eS_is hbase hline, h⟩
/-! statements -/
theorem s_expr (hs : swapsWith e none pos.line X.env = pure false) (h : eS X e σ H fun _ H1 => D.nx σ H1) : sS X (.Expr e pos) D σ H := ⟨_, ps_expr eS_is hs, h⟩
theorem s_retN (h : D.rt .non H) : sS X (.Return none pos) D σ H := ⟨_, ps_retN, h⟩
theorem s_pass (h : D.nx σ H) : sS X (.Pass pos) D σ H := ⟨_, ps_pass, h⟩
theorem s_break (h : D.bk σ H) : sS X (.Break pos) D σ H := ⟨_, ps_break, h⟩
theorem s_doc {x : Str} {k} (h : D.nx σ H) : sS X (.Expr (.Constant (.str x) k p) pos) D σ H := ⟨_, ps_doc, h⟩
theorem s_aug (c : CI X P w K mg base N nm j) {x : Str} {i : Nat} {v : V} {op : Operator} (hi : Ix N x i) (hl : locB nm x = true) (hg : Get N σ x v) (h : eS X e σ H fun y H1 => oS X (inplaceOp op) v y H1 fun z H2 => D.nx (σ.set i (some z)) H2) : sS X (.AugAssign (.Name x p) op e pos) D σ H := by
  obtain ⟨i', a, b⟩ := hg.ix
  have e1 : i' = i := nodup_ix c.nd a hi.get
  subst e1
  exact ⟨_, ps_aug (i := i') (by rw [c.N]; exact c.nd) (by rw [c.N]; exact a) (c.loc hl) eS_is (fun pins s σ H x y v u Q => oS_is pins s σ H x y v u Q) (c.fn hl), v, b, h⟩
/-! targets -/
theorem g_tgt (c : CI X P w K mg base N nm j) {x : Str} {i : Nat} {v : V} {R : L2.St → Hp → Prop} (hi : Ix N x i) (hl : locB nm x = true) (h : R (σ.set i (some v)) H) : gS X (.Name x pos) v σ H R :=
  ⟨_, pg_name (i := i) (by rw [c.N]; exact c.nd) (by rw [c.N]; exact hi.get) (c.loc hl) (c.fn hl), h⟩
theorem g_tgts (c : CI X P w K mg base N nm j) {k} {q : Addr} {vs : List V} {R : L2.St → Hp → Prop} (h1 : (assignEach es X.env).length = vs.length) (h2 : (assignEach es X.env).findIdx? (·.1) = none) (hq : SqT K H q vs) (h : gsS X es vs σ H R) : gS X (.Tuple es k pos) (.ref q) σ H R := by
  have e3 := c.K
  subst e3
  exact ⟨_, pg_tup c.calm gsS_is h1 h2, q, _, rfl, hq, rfl, h⟩
theorem gs_nil {R : L2.St → Hp → Prop} (h : R σ H) : gsS X [] [] σ H R := ⟨_, pgs_nil, rfl, h⟩
theorem gs_cons {v : V} {vs : List V} {R : L2.St → Hp → Prop} (hs : (assignEach (e :: es) X.env).map (·.2) = assign e X.env :: (assignEach es X.env).map (·.2)) (h : gS X e v σ H fun σ1 H1 => gsS X es vs σ1 H1 R) : gsS X (e :: es) (v :: vs) σ H R :=
  ⟨_, pgs_cons gS_is gsS_is hs, _, _, rfl, h⟩
end
end Go

namespace Go
open PySem PySem.Spec PyProof.Rows L2

structure tsS (X : Cx) (es : List Expr) (σ : L2.St) (H : Hp) (Q : Bool → Hp → Prop) : Prop where
  ex : ∃ t, PTs X es t ∧ t σ H Q
theorem tsS_is {X : Cx} {es : List Expr} : PTs X es (tsS X es) := ⟨fun pins s σ H Q I ⟨_, p, h⟩ => p.run pins s σ H Q I h⟩

theorem tsS_mono {X : Cx} {es : List Expr} {σ : L2.St} {H : Hp} {R R' : Bool → Hp → Prop} (h : tsS X es σ H R) (m : ∀ v H, R v H → R' v H) : tsS X es σ H R' := by
  obtain ⟨t, p, h⟩ := h
  exact ⟨fun σ H R => ∃ Q, t σ H Q ∧ ∀ v H, Q v H → R v H, ⟨fun pins s σ H R I ⟨Q, h, m⟩ => thn (p.run pins s σ H Q I h) fun u s' ⟨H', I', q⟩ => ⟨H', I', m u H' q⟩⟩, R, h, m⟩
/-- a loop over what J gives -/
def ForOn (X : Cx) (tg : Expr) (body : List Stmt) (D : Ends) (J : It) (σ : L2.St) (H : Hp) : Prop :=
  ∃ (n : Nat) (G : Hp → Prop) (Y : Nat → Hp → V → Hp → Prop), Walk J n G Y ∧ ∃ Pv : Nat → L2.St → Hp → Prop, Pv 0 σ H ∧ (∀ i σ H, i ≤ n → Pv i σ H → G H) ∧
    (∀ i x σ H H', i < n → Pv i σ H → Y i H x H' → gS X tg x σ H' fun σ2 H2 => bS X body { D with nx := Pv (i + 1), ct := Pv (i + 1), bk := D.nx } σ2 H2) ∧ ∀ σ H, Pv n σ H → D.nx σ H
/-- a block of a comprehension -/
def IsBlk (X X' : Cx) (scope : Scope) : Prop := ∃ s H C cl fp, X' = X.blk s H scope (compEnvC scope cl C X.env) fp
def LcOn (X : Cx) (scope : Scope) (tg : Expr) (ifs : List Expr) (elt : Expr) (vs : List Nat) (Qd : Addr → Hp → Prop) (J : It) (σ : L2.St) (H : Hp) : Prop := ∀ D, H D = none →
  ∃ (n : Nat) (G : Hp → Prop) (Y : Nat → Hp → V → Hp → Prop), Walk J n G Y ∧ ∃ Pv : Nat → Hp → Prop, Pv 0 (upd H D (.lst [])) ∧ (∀ i H, i ≤ n → Pv i H → G H) ∧
    (∀ i x H H', i < n → Pv i H → Y i H x H' → ∀ X', IsBlk X X' scope → gS X' tg x (wipe σ vs) H' fun σ2 H2 => wipe σ2 vs = wipe σ vs ∧ ∀ X', IsBlk X X' scope → tsS X' ifs σ2 H2 fun b H3 =>
      if b = true then ∀ X', IsBlk X X' scope → eS X' elt σ2 H3 fun y H4 => ∃ acc, H4 D = some (.lst acc) ∧ acc.length < sizeLine ∧ Pv (i + 1) (upd H4 D (.lst (acc ++ [y]))) else Pv (i + 1) H3) ∧ ∀ H, Pv n H → Qd D H

section
variable {X : Cx} {P : Program} {w : World} {K : PySem.W.Frag} {mg : Str → Option Value} {base : Heap} {N : List Str} {nm : List (Str × NameKind)} {j : Nat} {σ σ' : L2.St} {H : Hp} {Q : VK} {D : Ends} {pos p p2 apos : Pos} {a b e tg iter elt : Expr} {es ifs : List Expr} {body : List Stmt} {R : It → Hp → Prop} {scope : Scope}

theorem look_map {f : Str × NameKind → Bool} (hf : ∀ p, f p = true → p.2 = NameKind.free) : ∀ {l : List (Str × NameKind)} {x : Str} {k : NameKind}, l.lookup x = some k → (k ≠ NameKind.free → (l.map fun p => if f p = true then (p.1, NameKind.cell) else p).lookup x = some k) ∧ (k = NameKind.free → (l.map fun p => if f p = true then (p.1, NameKind.cell) else p).lookup x = some NameKind.cell ∨ (l.map fun p => if f p = true then (p.1, NameKind.cell) else p).lookup x = some NameKind.free)
  | [], x, k, h => by simp at h
  | (n, q) :: l, x, k, h => by
    have e1 : (if f (n, q) = true then (n, NameKind.cell) else (n, q)) = (n, if f (n, q) = true then NameKind.cell else q) := by split <;> rfl
    rw [List.map_cons, e1]
    simp only [List.lookup_cons] at h ⊢
    cases hx : x == n with
    | true =>
      rw [hx] at h
      simp only [Option.some.injEq] at h ⊢
      subst h
      refine ⟨fun hk => ?_, fun hk => ?_⟩
      · rw [if_neg (fun z => hk (hf _ z))]
      · by_cases hz : f (n, q) = true
        · rw [if_pos hz]; exact .inl rfl
        · rw [if_neg hz]; exact .inr hk
    | false =>
      rw [hx] at h
      simp only at h ⊢
      exact look_map hf h
theorem CI.blk (c : CI X P w K mg base N nm j) {X' : Cx} (h : IsBlk X X' scope) (hk : scope.kind = .function) : CI X' P w K mg base N scope.names j := by
  obtain ⟨s, H, C, cl, fp, rfl⟩ := h
  have q : ∀ {x : Str} {k : NameKind}, scope.names.lookup x = some k → (k ≠ NameKind.free → (relabel scope X.env).names.lookup x = some k) ∧ (k = NameKind.free → (relabel scope X.env).names.lookup x = some NameKind.cell ∨ (relabel scope X.env).names.lookup x = some NameKind.free) :=
    fun {x k} h => look_map (f := fun p => p.2 == NameKind.free && X.env.scope.kind == .function && X.env.kindOf p.1 == some NameKind.cell) (fun p hp => by simp only [Bool.and_eq_true, beq_iff_eq] at hp; exact hp.1.1) h
  exact ⟨c.nd, fun x h => (q h).1 (by decide), fun x h => ⟨(q h).1 (by decide), by show (scope.names.lookup x == some NameKind.cell) = true; rw [h]; rfl⟩, fun x h => (q h).2 rfl, fun x h => (q h).1 (by decide), c.N, c.prog, c.w, c.K, c.mg, c.base, hk, c.calm, c.room, PassesOwn.never⟩
theorem s_for (c : CI X P w K mg base N nm j) (hs : ∀ x, foldedSetIterable iter X.env x = pure x) (h : iS X tg iter σ H fun J H1 => ForOn X tg body D J σ H1) : sS X (.For tg iter body [] pos) D σ H := by
  obtain ⟨t, pi, h⟩ := h
  refine ⟨_, ps_for c.pass c.calm (wi := fun σ H R => ∃ R', t σ H R' ∧ ∀ J H, R' J H → R J H) ⟨fun pins s σ H R I ⟨R', h, m⟩ => thn (pi.run pins s σ H R' I h) fun v s1 q => thn q fun u s2 ⟨it, fp, tn, J, H', e, I2, T, t0, f, r⟩ => ⟨it, fp, tn, J, H', e, I2, T, t0, f, m J H' r⟩⟩ gS_is bS_is hs, _, h, ?_⟩
  rintro J H ⟨n, G, Y, W, Pv, h0, hG, hs, hd⟩
  exact for_it W Pv h0 hG hs hd
theorem e_lc (c : CI X P w K mg base N nm j) (own : List (Str × Nat)) (ok : BlkOk N (scOf nm) scope own) (hs : ∀ x, foldedSetIterable iter X.env x = pure x) (h : iS X tg iter σ H fun J H1 => LcOn X scope tg ifs elt (own.map (·.2)) (fun D H => Q (.ref D) H) J σ H1) : eS X (.ListComp elt [⟨tg, iter, ifs, 0⟩] scope pos) σ H Q := by
  obtain ⟨t, pi, h⟩ := h
  have eN := c.N
  refine ⟨_, pe_lc c.calm (by rw [eN]; exact c.nd) (wi := fun σ H R => ∃ R', t σ H R' ∧ ∀ J H, R' J H → R J H) ⟨fun pins s σ H R I ⟨R', h, m⟩ => thn (pi.run pins s σ H R' I h) fun v s1 q => thn q fun u s2 ⟨it, fp, tn, J, H', e, I2, T, t0, f, r⟩ => ⟨it, fp, tn, J, H', e, I2, T, t0, f, m J H' r⟩⟩ (by rw [eN]; exact c.bok ok)
    (g := fun v σ H R => ∀ X', IsBlk X X' scope → gS X' tg v σ H R) (tt := fun σ H R => ∀ X', IsBlk X X' scope → tsS X' ifs σ H R) (te := fun σ H R => ∀ X', IsBlk X X' scope → eS X' elt σ H R)
    (fun s H C cl fp => ⟨fun pins s1 σ1 H1 v u Q1 I r h => gS_is.run pins s1 σ1 H1 v u Q1 I r (h _ ⟨s, H, C, cl, fp, rfl⟩)⟩) (fun s H C cl fp => ⟨fun pins s1 σ1 H1 Q1 I h => tsS_is.run pins s1 σ1 H1 Q1 I (h _ ⟨s, H, C, cl, fp, rfl⟩)⟩) (fun s H C cl fp => ⟨fun pins s1 σ1 H1 Q1 I h => eS_is.run pins s1 σ1 H1 Q1 I (h _ ⟨s, H, C, cl, fp, rfl⟩)⟩) hs, _, h, ?_⟩
  intro J H q D hD
  obtain ⟨n, G, Y, W, Pv, h0, hG, hs, hd⟩ := q D hD
  exact lc_it (g := fun v σ H R => ∀ X', IsBlk X X' scope → gS X' tg v σ H R) (tt := fun σ H R => ∀ X', IsBlk X X' scope → tsS X' ifs σ H R) (te := fun σ H R => ∀ X', IsBlk X X' scope → eS X' elt σ H R) (σ := σ) (vs := own.map (·.2)) W Pv h0 hG hs hd
theorem s_setLc (c : CI X P w K mg base N nm j) {y : Str} {i : Nat} {spos : Pos} (own : List (Str × Nat)) (hi : Ix N y i) (hy : nm.lookup y = some NameKind.local) (hsw : swapsWith (.ListComp elt [⟨tg, iter, ifs, 0⟩] scope pos) (some (.Name y p)) spos.line X.env = pure true) (ok : BlkOk N (scOf nm) scope own) (hs : ∀ x, foldedSetIterable iter X.env x = pure x)
    (h : iS X tg iter σ H fun J H1 => LcOn X scope tg ifs elt (own.map (·.2)) (fun q H => D.nx (σ.set i (some (.ref q))) H) J σ H1) : sS X (.Assign [.Name y p] (.ListComp elt [⟨tg, iter, ifs, 0⟩] scope pos) spos) D σ H := by
  obtain ⟨t, pi, h⟩ := h
  have eN := c.N
  refine ⟨_, ps_setLc (i := i) c.calm (by rw [eN]; exact c.nd) (by rw [eN]; exact hi.get) (c.lo _ hy) hsw (wi := fun σ H R => ∃ R', t σ H R' ∧ ∀ J H, R' J H → R J H) ⟨fun pins s σ H R I ⟨R', h, m⟩ => thn (pi.run pins s σ H R' I h) fun v s1 q => thn q fun u s2 ⟨it, fp, tn, J, H', e, I2, T, t0, f, r⟩ => ⟨it, fp, tn, J, H', e, I2, T, t0, f, m J H' r⟩⟩ (by rw [eN]; exact c.bok ok)
    (g := fun v σ H R => ∀ X', IsBlk X X' scope → gS X' tg v σ H R) (tt := fun σ H R => ∀ X', IsBlk X X' scope → tsS X' ifs σ H R) (te := fun σ H R => ∀ X', IsBlk X X' scope → eS X' elt σ H R)
    (fun s H C cl fp => ⟨fun pins s1 σ1 H1 v u Q1 I r h => gS_is.run pins s1 σ1 H1 v u Q1 I r (h _ ⟨s, H, C, cl, fp, rfl⟩)⟩) (fun s H C cl fp => ⟨fun pins s1 σ1 H1 Q1 I h => tsS_is.run pins s1 σ1 H1 Q1 I (h _ ⟨s, H, C, cl, fp, rfl⟩)⟩) (fun s H C cl fp => ⟨fun pins s1 σ1 H1 Q1 I h => eS_is.run pins s1 σ1 H1 Q1 I (h _ ⟨s, H, C, cl, fp, rfl⟩)⟩) hs, _, h, ?_⟩
  intro J H q D' hD
  obtain ⟨n, G, Y, W, Pv, h0, hG, hs, hd⟩ := q D' hD
  exact lc_it (g := fun v σ H R => ∀ X', IsBlk X X' scope → gS X' tg v σ H R) (tt := fun σ H R => ∀ X', IsBlk X X' scope → tsS X' ifs σ H R) (te := fun σ H R => ∀ X', IsBlk X X' scope → eS X' elt σ H R) (σ := σ) (vs := own.map (·.2)) W Pv h0 hG hs hd
theorem ts_nil {R : Bool → Hp → Prop} (h : R true H) : tsS X [] σ H R := ⟨_, pts_nil, h⟩
theorem ts_one {R : Bool → Hp → Prop} (h : qS X e σ H R) : tsS X [e] σ H R := ⟨_, pts_one qS_is, h⟩

/-! what is walked -/
theorem i_list (h : eS X e σ H fun x H1 => ∃ p xs, x = .ref p ∧ SqL X.K H1 p xs ∧ R (Itl X.K p) H1) : iS X tg e σ H R :=
  ⟨_, pi_list eS_is, eS_mono h fun _ _ ⟨p, xs, e, hq, r⟩ => ⟨p, e, ⟨xs, hq⟩, r⟩⟩
theorem i_tup (h : eS X e σ H fun x H1 => ∃ p xs, x = .ref p ∧ SqT X.K H1 p xs ∧ R (Itt X.K p) H1) : iS X tg e σ H R :=
  ⟨_, pi_tup eS_is, eS_mono h fun _ _ ⟨p, xs, e, hq, r⟩ => ⟨p, e, ⟨xs, hq⟩, r⟩⟩
theorem i_str (h : eS X e σ H fun x H1 => ∃ z, x = .str (S z) ∧ R (Its (S z)) H1) : iS X tg e σ H R :=
  ⟨_, pi_str eS_is, eS_mono h fun _ _ ⟨z, e, r⟩ => ⟨_, e, r⟩⟩
theorem i_range1 (c : CI X P w K mg base N nm j) (hg : glB nm "range" = true) (hm : mg "range" = none) (hs : starEach [a] X.env = [(false, eval a X.env)]) (h : eS X a σ H fun x H1 => ∃ n : Int, x = .int n ∧ -(2 ^ 62) ≤ n ∧ n < 2 ^ 62 ∧ R (Itr 0 n.toNat) H1) :
    iS X tg (.Call (.Name "range" p) [a] [] pos) σ H R :=
  ⟨_, pi_range1 (c.gl hg) (by rw [c.mg]; exact hm) (pa_cons eS_is pa_nil hs) hs, eS_mono h fun _ _ ⟨n, e, h1, h2, r⟩ => ⟨n, by rw [e], h1, h2, r⟩⟩
theorem i_range2 (c : CI X P w K mg base N nm j) (hg : glB nm "range" = true) (hm : mg "range" = none) (hs : starEach [a, b] X.env = [(false, eval a X.env), (false, eval b X.env)]) (hs2 : starEach [b] X.env = [(false, eval b X.env)])
    (h : eS X a σ H fun x H1 => eS X b σ H1 fun y H2 => ∃ i k : Int, x = .int i ∧ y = .int k ∧ (-(2 ^ 62) ≤ i ∧ i < 2 ^ 62 ∧ -(2 ^ 62) ≤ k ∧ k < 2 ^ 62) ∧ R (Itr i (k - i).toNat) H2) : iS X tg (.Call (.Name "range" p) [a, b] [] pos) σ H R :=
  ⟨_, pi_range2 (c.gl hg) (by rw [c.mg]; exact hm) (pa_cons eS_is (pa_cons eS_is pa_nil hs2) (by rw [hs2]; exact hs)) hs hs2, eS_mono h fun _ _ h => eS_mono h fun _ _ ⟨i, k, e1, e2, h1, r⟩ => ⟨i, k, by rw [e1, e2], h1, r⟩⟩
theorem i_down (c : CI X P w K mg base N nm j) {d : Expr} (hg : glB nm "range" = true) (hm : mg "range" = none) (hs : starEach [a, b, d] X.env = (false, eval a X.env) :: starEach [b, d] X.env) (hpl : (backTo pos (starEach [b, d] X.env)).any (·.1) = false) (hs1 : starEach [b, d] X.env = (false, eval b X.env) :: starEach [d] X.env) (hs2 : starEach [d] X.env = (false, eval d X.env) :: starEach [] X.env)
    (h : eS X a σ H fun x H1 => eS X b σ H1 fun y H2 => eS X d σ H2 fun z H3 => z = .int (-1) ∧ ∃ i k : Int, x = .int i ∧ y = .int k ∧ (-(2 ^ 62) ≤ i ∧ i < 2 ^ 62 ∧ -(2 ^ 62) ≤ k ∧ k < 2 ^ 62) ∧ R (Itc i (-1) (i - k).toNat) H3) : iS X tg (.Call (.Name "range" p) [a, b, d] [] pos) σ H R :=
  ⟨_, pi_range3 (c.gl hg) (by rw [c.mg]; exact hm) (pa_cons eS_is (pa_cons eS_is (pa_cons eS_is pa_nil hs2) hs1) hs) hs hpl, eS_mono h fun _ _ h => eS_mono h fun _ _ h => eS_mono h fun _ _ ⟨e, i, k, e1, e2, ⟨h1, h2, h3, h4⟩, r⟩ => ⟨i, k, -1, _, by rw [e, e1, e2], RgC.neg h1 h2 h3 h4, r⟩⟩
/-! loops by what is walked -/
theorem on_list {q : Addr} {xs : List V} (Pv : Nat → L2.St → Hp → Prop) (h0 : Pv 0 σ H) (hl : ∀ i σ H, i ≤ xs.length → Pv i σ H → SqL X.K H q xs) (hs : ∀ i x σ H, xs[i]? = some x → Pv i σ H → gS X tg x σ H fun σ2 H2 => bS X body { D with nx := Pv (i + 1), ct := Pv (i + 1), bk := D.nx } σ2 H2) (hd : ∀ σ H, Pv xs.length σ H → D.nx σ H) :
    ForOn X tg body D (Itl X.K q) σ H := ⟨_, _, _, walk_list (xs := xs), Pv, h0, hl, fun i x σ H H' _ p ⟨e, hx⟩ => by subst e; exact hs i x σ _ hx p, hd⟩
theorem on_tup {q : Addr} {xs : List V} (Pv : Nat → L2.St → Hp → Prop) (h0 : Pv 0 σ H) (hl : ∀ i σ H, i ≤ xs.length → Pv i σ H → SqT X.K H q xs) (hs : ∀ i x σ H, xs[i]? = some x → Pv i σ H → gS X tg x σ H fun σ2 H2 => bS X body { D with nx := Pv (i + 1), ct := Pv (i + 1), bk := D.nx } σ2 H2) (hd : ∀ σ H, Pv xs.length σ H → D.nx σ H) :
    ForOn X tg body D (Itt X.K q) σ H := ⟨_, _, _, walk_tup (xs := xs), Pv, h0, hl, fun i x σ H H' _ p ⟨e, hx⟩ => by subst e; exact hs i x σ _ hx p, hd⟩
theorem on_range {lo : Int} {n : Nat} (Pv : Nat → L2.St → Hp → Prop) (h0 : Pv 0 σ H) (hs : ∀ i σ H, i < n → Pv i σ H → gS X tg (.int (lo + i)) σ H fun σ2 H2 => bS X body { D with nx := Pv (i + 1), ct := Pv (i + 1), bk := D.nx } σ2 H2) (hd : ∀ σ H, Pv n σ H → D.nx σ H) :
    ForOn X tg body D (Itr lo n) σ H := ⟨_, _, _, walk_range, Pv, h0, fun _ _ _ _ _ => True.intro, fun i x σ H H' hi p ⟨e, hx⟩ => by subst e hx; exact hs i σ _ hi p, hd⟩
theorem on_down {lo : Int} {n : Nat} (Pv : Nat → L2.St → Hp → Prop) (h0 : Pv 0 σ H) (hs : ∀ i σ H, i < n → Pv i σ H → gS X tg (.int (lo - i)) σ H fun σ2 H2 => bS X body { D with nx := Pv (i + 1), ct := Pv (i + 1), bk := D.nx } σ2 H2) (hd : ∀ σ H, Pv n σ H → D.nx σ H) :
    ForOn X tg body D (Itc lo (-1) n) σ H := ⟨_, _, _, walk_rangeC, Pv, h0, fun _ _ _ _ _ => True.intro, fun i x σ H H' hi p ⟨e, hx⟩ => by
      subst e
      have e2 : lo + (i : Int) * -1 = lo - i := by omega
      have hx' : x = V.int (lo + (i : Int) * -1) := hx
      rw [e2] at hx'
      subst hx'
      exact hs i σ _ hi p, hd⟩
theorem on_str {z : List Nat} (Pv : Nat → L2.St → Hp → Prop) (h0 : Pv 0 σ H) (hs : ∀ i x σ H, z[i]? = some x → Pv i σ H → gS X tg (.str (S [x])) σ H fun σ2 H2 => bS X body { D with nx := Pv (i + 1), ct := Pv (i + 1), bk := D.nx } σ2 H2) (hd : ∀ σ H, Pv z.length σ H → D.nx σ H) :
    ForOn X tg body D (Its (S z)) σ H := ⟨_, _, _, walk_str, Pv, h0, fun _ _ _ _ _ => True.intro, fun i x σ H H' hi p ⟨e, y, hy, hx⟩ => by
      subst e hx
      exact hs i y σ _ (by simpa [S] using hy) p, fun σ H p => hd σ H (by simpa [S] using p)⟩
/-! comprehensions by what is walked: the target one name (slot i); no tests or one -/
theorem lc_name {y : Str} {i n : Nat} {G : Hp → Prop} {Y : Nat → Hp → V → Hp → Prop} {J : It} {Qd : Addr → Hp → Prop} (c : CI X P w K mg base N nm j) (hi : Ix N y i) (hl : locB scope.names y = true) (hk : scope.kind = .function) (W : Walk J n G Y)
    (k : ∀ D, H D = none → ∃ Pv : Nat → Hp → Prop, Pv 0 (upd H D (.lst [])) ∧ (∀ m H, m ≤ n → Pv m H → G H) ∧ (∀ m x H H', m < n → Pv m H → Y m H x H' → ∀ X', IsBlk X X' scope → CI X' P w K mg base N scope.names j → tsS X' ifs (σ.set i (some x)) H' fun b H3 =>
      if b = true then ∀ X', IsBlk X X' scope → CI X' P w K mg base N scope.names j → eS X' elt (σ.set i (some x)) H3 fun y H4 => ∃ acc, H4 D = some (.lst acc) ∧ acc.length < sizeLine ∧ Pv (m + 1) (upd H4 D (.lst (acc ++ [y]))) else Pv (m + 1) H3) ∧ ∀ H, Pv n H → Qd D H) :
    LcOn X scope (.Name y p) ifs elt [i] Qd J σ H := by
  intro D hD
  obtain ⟨Pv, h0, hG, hs, hd⟩ := k D hD
  refine ⟨n, G, Y, W, Pv, h0, hG, fun m x H H' hm pv y X' hb => ?_, hd⟩
  refine g_tgt (c.blk hb hk) hi hl ?_
  have e1 : (wipe σ [i]).set i (some x) = σ.set i (some x) := by show (σ.set i none).set i (some x) = _; rw [List.set_set]
  rw [e1]
  refine ⟨by show (σ.set i (some x)).set i none = σ.set i none; rw [List.set_set], fun X' hb => ?_⟩
  refine tsS_mono (hs m x H H' hm pv y X' hb (c.blk hb hk)) fun b H q => ?_
  cases b with
  | true => exact fun X' hb => q X' hb (c.blk hb hk)
  | false => exact q
end
end Go

namespace Go
open PySem PySem.Spec PyProof.Rows L2

theorem sz_le {n : Nat} (h : n ≤ 1000000) : n ≤ sizeLine := Nat.le_trans h (by decide)
theorem sz_lt {n : Nat} (h : n < 1000000) : n < sizeLine := Nat.lt_of_lt_of_le h (by decide)

section
variable {X : Cx} {P : Program} {w : World} {K : PySem.W.Frag} {mg : Str → Option Value} {base : Heap} {N : List Str} {nm : List (Str × NameKind)} {j : Nat} {σ σ' : L2.St} {H G : Hp} {Q : VK} {C : List (Addr × HO)}

/-! operators by values -/
theorem o_addS {a b : List Nat} (hl : a.length + b.length ≤ 1000000) (h : Q (.str (S (a ++ b))) H) : oS X (binaryOp .Add) (.str (S a)) (.str (S b)) H Q := ⟨_, op_add_str, _, _, rfl, rfl, by rw [S_len, S_len]; exact sz_le hl, by rw [S_app]; exact h⟩
theorem o_iaddS {a b : List Nat} (hl : a.length + b.length ≤ 1000000) (h : Q (.str (S (a ++ b))) H) : oS X (inplaceOp .Add) (.str (S a)) (.str (S b)) H Q := ⟨_, iop_add_str, _, _, rfl, rfl, by rw [S_len, S_len]; exact sz_le hl, by rw [S_app]; exact h⟩
theorem o_iadd {a b : Int} (h : Q (.int (a + b)) H) : oS X (inplaceOp .Add) (.int a) (.int b) H Q := ⟨_, iop_add, _, _, rfl, rfl, h⟩
theorem o_isub {a b : Int} (h : Q (.int (a - b)) H) : oS X (inplaceOp .Sub) (.int a) (.int b) H Q := ⟨_, iop_sub, _, _, rfl, rfl, h⟩
theorem o_addB {a : Int} {b : Bool} (h : Q (.int (a + b2i b)) H) : oS X (binaryOp .Add) (.int a) (.bl b) H Q := ⟨_, op_add_ib, _, _, rfl, rfl, h⟩
theorem o_cat {p q : Addr} {xs ys : List V} (hp : H p = some (.lst xs)) (hq : H q = some (.lst ys)) (hl : xs.length + ys.length ≤ 1000000) (h : ∀ r H', New H r (.lst (xs ++ ys)) H' → Q (.ref r) H') : oS X (binaryOp .Add) (.ref p) (.ref q) H Q := ⟨_, op_cat, _, _, _, _, rfl, rfl, hp, hq, sz_le hl, fun r hr => h r _ ⟨hr, rfl⟩⟩
theorem o_rep {p : Addr} {xs : List V} {n : Int} (hp : H p = some (.lst xs)) (h1 : 0 ≤ n) (h2 : xs.length * n.toNat ≤ 1000000) (h3 : n ≤ 1000000) (h : ∀ r H', New H r (.lst (List.replicate n.toNat xs).flatten) H' → Q (.ref r) H') : oS X (binaryOp .Mult) (.ref p) (.int n) H Q :=
  ⟨_, op_rep, _, _, _, rfl, rfl, hp, by omega, by omega, sz_le h2, fun r hr => h r _ ⟨hr, rfl⟩⟩
theorem o_eqI {a b : Int} (h : Q (.bl (decide (a = b))) H) : oS X (compareOp .Eq) (.int a) (.int b) H Q := ⟨_, op_eq, rfl, by rw [show decide (V.int a = V.int b) = decide (a = b) by simp]; exact h⟩
theorem o_neI {a b : Int} (h : Q (.bl (!decide (a = b))) H) : oS X (compareOp .NotEq) (.int a) (.int b) H Q := ⟨_, op_ne, rfl, by rw [show decide (V.int a = V.int b) = decide (a = b) by simp]; exact h⟩
theorem o_eqS {a b : List Nat} (h : Q (.bl (decide (a = b))) H) : oS X (compareOp .Eq) (.str (S a)) (.str (S b)) H Q := ⟨_, op_eq, rfl, by rw [show decide (V.str (S a) = V.str (S b)) = decide (a = b) by simp [S_inj]]; exact h⟩
theorem o_neS {a b : List Nat} (h : Q (.bl (!decide (a = b))) H) : oS X (compareOp .NotEq) (.str (S a)) (.str (S b)) H Q := ⟨_, op_ne, rfl, by rw [show decide (V.str (S a) = V.str (S b)) = decide (a = b) by simp [S_inj]]; exact h⟩
theorem o_eqB {a b : Bool} (h : Q (.bl (decide (a = b))) H) : oS X (compareOp .Eq) (.bl a) (.bl b) H Q := ⟨_, op_eq, rfl, by rw [show decide (V.bl a = V.bl b) = decide (a = b) by simp]; exact h⟩
theorem o_neB {a b : Bool} (h : Q (.bl (!decide (a = b))) H) : oS X (compareOp .NotEq) (.bl a) (.bl b) H Q := ⟨_, op_ne, rfl, by rw [show decide (V.bl a = V.bl b) = decide (a = b) by simp]; exact h⟩
theorem o_ltS {a b : List Nat} (h : Q (.bl (decide (a < b))) H) : oS X (compareOp .Lt) (.str (S a)) (.str (S b)) H Q := ⟨_, op_lt_str, _, _, rfl, rfl, by refine cast (congrArg (fun b => Q (V.bl b) H) ?_) h; exact decide_eq_decide.mpr (by simp [S])⟩
theorem o_leS {a b : List Nat} (h : Q (.bl (!decide (b < a))) H) : oS X (compareOp .LtE) (.str (S a)) (.str (S b)) H Q := ⟨_, op_le_str, _, _, rfl, rfl, by refine cast (congrArg (fun b => Q (V.bl !b) H) ?_) h; exact decide_eq_decide.mpr (by simp [S])⟩
theorem o_gtS {a b : List Nat} (h : Q (.bl (decide (b < a))) H) : oS X (compareOp .Gt) (.str (S a)) (.str (S b)) H Q := ⟨_, op_gt_str, _, _, rfl, rfl, by refine cast (congrArg (fun b => Q (V.bl b) H) ?_) h; exact decide_eq_decide.mpr (by simp [S])⟩
theorem o_isN {x : V} (h : Q (.bl (decide (x = .non))) H) : oS X (compareOp .Is) x .non H Q := ⟨_, op_isN, rfl, h⟩
theorem o_notN {x : V} (h : Q (.bl (!decide (x = .non))) H) : oS X (compareOp .IsNot) x .non H Q := ⟨_, op_notN, rfl, h⟩
theorem o_isB {a b : Bool} (h : Q (.bl (decide (a = b))) H) : oS X (compareOp .Is) (.bl a) (.bl b) H Q := ⟨_, op_isBl, _, _, rfl, rfl, h⟩
theorem o_notB {a b : Bool} (h : Q (.bl (!decide (a = b))) H) : oS X (compareOp .IsNot) (.bl a) (.bl b) H Q := ⟨_, op_notBl, _, _, rfl, rfl, h⟩
theorem o_in1 {c : Nat} {z : List Nat} (h : Q (.bl (decide (c ∈ z))) H) : oS X (compareOp .In) (.str (S [c])) (.str (S z)) H Q := ⟨_, op_in_sign, c, _, rfl, rfl, by refine cast (congrArg (fun b => Q (V.bl b) H) ?_) h; exact decide_eq_decide.mpr (by simp [S])⟩
theorem o_notIn1 {c : Nat} {z : List Nat} (h : Q (.bl (!decide (c ∈ z))) H) : oS X (compareOp .NotIn) (.str (S [c])) (.str (S z)) H Q := ⟨_, op_notIn_sign, c, _, rfl, rfl, by refine cast (congrArg (fun b => Q (V.bl !b) H) ?_) h; exact decide_eq_decide.mpr (by simp [S])⟩
theorem o_inQ (c : CI X P w K mg base N nm j) {x : V} {p : Addr} {xs : List V} (hp : SqL K H p xs ∨ SqT K H p xs) (h1 : flatV x = true) (h2 : xs.all flatV = true) (h : Q (.bl (inV x xs)) H) : oS X (compareOp .In) x (.ref p) H Q := by
  have e := c.K
  subst e
  exact ⟨_, op_in_seq, _, _, rfl, hp, h1, h2, h⟩
theorem o_notInQ (c : CI X P w K mg base N nm j) {x : V} {p : Addr} {xs : List V} (hp : SqL K H p xs ∨ SqT K H p xs) (h1 : flatV x = true) (h2 : xs.all flatV = true) (h : Q (.bl (!inV x xs)) H) : oS X (compareOp .NotIn) x (.ref p) H Q := by
  have e := c.K
  subst e
  exact ⟨_, op_notIn_seq, _, _, rfl, hp, h1, h2, h⟩
theorem o_eqD (c : CI X P w K mg base N nm j) {x y : V} {d e : PyData} (hx : Dp K H x d) (hy : Dp K H y e) (h1 : SeqAt.shaped d = true) (h2 : SeqAt.shaped e = true) (h : Q (.bl (PyData.eqv d e)) H) : oS X (compareOp .Eq) x y H Q := by
  have e := c.K
  subst e
  exact ⟨_, op_eqD c.u64, _, _, hx, hy, h1, h2, h⟩
theorem o_neD (c : CI X P w K mg base N nm j) {x y : V} {d e : PyData} (hx : Dp K H x d) (hy : Dp K H y e) (h1 : SeqAt.shaped d = true) (h2 : SeqAt.shaped e = true) (h : Q (.bl (!PyData.eqv d e)) H) : oS X (compareOp .NotEq) x y H Q := by
  have e := c.K
  subst e
  exact ⟨_, op_neD c.u64, _, _, hx, hy, h1, h2, h⟩
/-! subscripts -/
theorem x_tup (c : CI X P w K mg base N nm j) {p : Addr} {xs : List V} {i : Int} {v : V} (hp : SqT K H p xs) (ha : atI xs i = some v) (h : Q v H) : xS X (.ref p) (.int i) H Q := by
  have e := c.K
  subst e
  exact ⟨_, ix_tup, _, _, _, _, rfl, rfl, hp, ha, h⟩
theorem x_str {z : List Nat} {i : Int} {y : Nat} (hz : z.length ≤ 1000000) (ha : atI z i = some y) (h : Q (.str (S [y])) H) : xS X (.str (S z)) (.int i) H Q :=
  ⟨_, ix_str, _, _, _, rfl, rfl, by rw [S_len]; exact sz_le hz, by simpa [S] using ha, h⟩
theorem x_dict (c : CI X P w K mg base N nm j) {p : Addr} {y v : V} (g : DGet H p y (some v)) (h : Q v H) : xS X (.ref p) y H Q := by
  refine ⟨fun x y H Q => ∃ a v, x = .ref a ∧ DGet H a y (some v) ∧ Q v H, ?_, _, _, rfl, g, h⟩
  intro va sl pins s σ H x y v u Q I rx ry h hs
  obtain ⟨a, z, rfl, g, q⟩ := h
  obtain rfl : v = Value.ref a := rx
  have T := dict_typeIs I g
  unfold subscriptTail
  refine wpAny_bind ?_
  rw [getitemInPython_of_ne T.not_modules]
  refine wpAny_bind (wpAny_specialOf T PySem.F.slot_dict_getitem.lookup ?_)
  have fin : wpAny (model X.prog X.w) X.A (subscripted sl false (.ref a) u) (fun r s₃ => wpAny (model X.prog X.w) X.A (letTemporaryGo va (.ref a) r >>= fun _ => pure r) (EP X pins σ Q) X.xe s₃) X.xe s := by
    rw [hs]
    exact wpAny_operating (d_getItem c.hu I g ry fun w' s3 I3 rw' => wpAny_bind (wpAny_letTemporaryGo (wpAny_pure ⟨z, H, I3, rw', q⟩)))
  first
    | exact wpAny_pure (wpAny_bind fin)
    | exact wpAny_bind (wpAny_pure (wpAny_bind fin))
    | exact wpAny_bind fin
theorem p_dict (c : CI X P w K mg base N nm j) {p : Addr} {y v : V} {H' : Hp} {R : Hp → Prop} (g : DPut H p y v H') (h : R H') : pS X (.ref p) y v H R := by
  refine ⟨fun o i v H R => ∃ a H', o = .ref a ∧ DPut H a i v H' ∧ R H', ?_, _, _, rfl, g, h⟩
  intro pins s σ H o i v ov iv u R I r1 r2 r3 h
  obtain ⟨a, H', rfl, g, q⟩ := h
  obtain rfl : ov = Value.ref a := r1
  exact d_setItem c.hu I g r2 r3 fun s4 I4 => ⟨H', I4, q⟩
theorem o_inD (c : CI X P w K mg base N nm j) {p : Addr} {y : V} {r : Option V} (g : DGet H p y r) (h : Q (.bl r.isSome) H) : oS X (compareOp .In) y (.ref p) H Q := by
  refine ⟨fun y x H Q => ∃ a o, x = .ref a ∧ DGet H a y o ∧ Q (.bl o.isSome) H, ?_, _, _, rfl, g, h⟩
  intro pins s σ H y x v u Q I ry rx h
  obtain ⟨a, o, rfl, g, q⟩ := h
  obtain rfl : u = Value.ref a := rx
  exact d_in c.hu I g ry fun s3 I3 => ⟨.bl o.isSome, H, I3, rfl, q⟩
theorem o_notInD (c : CI X P w K mg base N nm j) {p : Addr} {y : V} {r : Option V} (g : DGet H p y r) (h : Q (.bl (!r.isSome)) H) : oS X (compareOp .NotIn) y (.ref p) H Q := by
  refine ⟨fun y x H Q => ∃ a o, x = .ref a ∧ DGet H a y o ∧ Q (.bl (!o.isSome)) H, ?_, _, _, rfl, g, h⟩
  intro pins s σ H y x v u Q I ry rx h
  obtain ⟨a, o, rfl, g, q⟩ := h
  obtain rfl : u = Value.ref a := rx
  exact d_notIn c.hu I g ry fun s3 I3 => ⟨.bl (!o.isSome), H, I3, rfl, q⟩
/-! slices -/
def cut {α : Type} (z : List α) (lo hi : Option Int) : List α := (z.drop (HT.sIx z.length 0 lo)).take (HT.sIx z.length z.length hi - HT.sIx z.length 0 lo)
theorem l_lst (c : CI X P w K mg base N nm j) {p : Addr} {xs : List V} {lo hi : Option Int} (hp : SqL K H p xs) (h : ∀ r H', New H r (.lst (cut xs lo hi)) H' → Q (.ref r) H') : lS X (.ref p) lo hi H Q := by
  have e := c.K
  subst e
  exact ⟨_, sl_list, _, _, rfl, hp, fun r hr => h r _ ⟨hr, rfl⟩⟩
theorem l_str {z : List Nat} {lo hi : Option Int} (hz : z.length ≤ 1000000) (h : Q (.str (S (cut z lo hi))) H) : lS X (.str (S z)) lo hi H Q :=
  ⟨_, sl_str, _, rfl, by rw [S_len]; exact sz_le hz, by
    have e : cutS (S z) lo hi = S (cut z lo hi) := by simp [cutS, S, cut, Str.length]
    rw [e]; exact h⟩
theorem e_revL (c : CI X P w K mg base N nm j) {e : Expr} {k : Nat} {p1 p2 p3 pos : Pos} (h : eS X e σ H fun x H1 => ∃ a xs, x = .ref a ∧ SqL K H1 a xs ∧ ∀ p H2, New H1 p (.lst xs.reverse) H2 → Q (.ref p) H2) : eS X (.Subscript e (.Slice none none (some (.UnaryOp .USub (.Constant (.int 1) k p1) p2)) p3) pos) σ H Q := by
  have e := c.K
  subst e
  exact ⟨_, pe_revL eS_is, eS_mono h fun x H1 ⟨a, xs, e, hq, k⟩ => ⟨a, xs, e, hq, fun p hp => k p _ ⟨hp, rfl⟩⟩⟩
/-! built-ins -/
theorem c_lenL (c : CI X P w K mg base N nm j) {p : Addr} {xs : List V} (hp : SqL K H p xs) (h : Q (.int xs.length) H) : cS X (.builtin "len") [.ref p] H Q := by
  have e := c.K
  subst e
  exact ⟨_, call_len, _, _, rfl, .inl ⟨_, hp, rfl⟩, h⟩
theorem c_lenT (c : CI X P w K mg base N nm j) {p : Addr} {xs : List V} (hp : SqT K H p xs) (h : Q (.int xs.length) H) : cS X (.builtin "len") [.ref p] H Q := by
  have e := c.K
  subst e
  exact ⟨_, call_len, _, _, rfl, .inr ⟨_, hp, rfl⟩, h⟩
theorem c_lenS {z : List Nat} (hz : z.length ≤ 1000000) (h : Q (.int z.length) H) : cS X (.builtin "len") [.str (S z)] H Q := ⟨_, call_len, _, _, rfl, ⟨by rw [S_len]; exact sz_le hz, rfl⟩, by rw [S_len]; exact h⟩
theorem c_intI {i : Int} (h : Q (.int i) H) : cS X (.type "int") [.int i] H Q := ⟨_, call_int1, .inl ⟨_, rfl, h⟩⟩
theorem c_intB {b : Bool} (h : Q (.int (if b then 1 else 0)) H) : cS X (.type "int") [.bl b] H Q := ⟨_, call_int1, .inr ⟨_, rfl, h⟩⟩
theorem c_intS {z : List Nat} {n : Int} (hn : PySem.intText? (S z) = some n) (hl : z.length ≤ 640) (h : Q (.int n) H) : cS X (.type "int") [.str (S z)] H Q := ⟨_, call_int_str, _, _, rfl, hn, by rw [S_len]; exact hl, h⟩
theorem c_strI {i : Int} (hz : i.natAbs.log2 < 1920) (h : Q (.str (S (cs (toString i : String)))) H) : cS X (.type "str") [.int i] H Q := ⟨_, call_str_int, _, rfl, hz, by rw [← S_cs ((toString i : String) : Str)]; exact h⟩
theorem c_sum (c : CI X P w K mg base N nm j) {p : Addr} {ns : List Int} (hp : SqL K H p (ns.map V.int)) (h : Q (.int ns.sum) H) : cS X (.builtin "sum") [.ref p] H Q := by
  have e := c.K
  subst e
  exact ⟨_, cr_sum c.calm, _, _, rfl, hp, h⟩
theorem c_max2 (c : CI X P w K mg base N nm j) {a b : Int} (h : Q (.int (max a b)) H) : cS X (.builtin "max") [.int a, .int b] H Q := ⟨_, call_max2 c.calm, _, _, rfl, by rw [show (if b > a then b else a) = max a b by omega]; exact h⟩
theorem c_min2 (c : CI X P w K mg base N nm j) {a b : Int} (h : Q (.int (min a b)) H) : cS X (.builtin "min") [.int a, .int b] H Q := ⟨_, call_min2 c.calm, _, _, rfl, by rw [show (if b < a then b else a) = min a b by omega]; exact h⟩
theorem c_abs {a : Int} (h : Q (.int (if a < 0 then -a else a)) H) : cS X (.builtin "abs") [.int a] H Q := ⟨_, call_abs, _, rfl, h⟩
theorem c_listL (c : CI X P w K mg base N nm j) {p : Addr} {xs : List V} (hp : SqL K H p xs) (h : ∀ r H', New H r (.lst xs) H' → Q (.ref r) H') : cS X (.type "list") [.ref p] H Q := by
  have e := c.K
  subst e
  exact ⟨_, call_list_of, _, _, rfl, .inl hp, fun r hr => h r _ ⟨hr, rfl⟩⟩
theorem c_listT (c : CI X P w K mg base N nm j) {p : Addr} {xs : List V} (hp : SqT K H p xs) (h : ∀ r H', New H r (.lst xs) H' → Q (.ref r) H') : cS X (.type "list") [.ref p] H Q := by
  have e := c.K
  subst e
  exact ⟨_, call_list_of, _, _, rfl, .inr hp, fun r hr => h r _ ⟨hr, rfl⟩⟩
theorem c_tupleL (c : CI X P w K mg base N nm j) {p : Addr} {xs : List V} (hp : SqL K H p xs) (h : ∀ r H', New H r (.tup xs) H' → Q (.ref r) H') : cS X (.type "tuple") [.ref p] H Q := by
  have e := c.K
  subst e
  exact ⟨_, call_tuple_of, _, _, rfl, .inl ⟨hp, fun r hr => h r _ ⟨hr, rfl⟩⟩⟩
/-! methods -/
theorem ty_lst {p : Addr} {xs : List V} (hp : SqL K H p xs) : tyV K "list" (.ref p) H := .inl ⟨rfl, _, hp⟩
theorem m_append {p : Addr} {xs : List V} {y : V} (hp : H p = some (.lst xs)) (hl : xs.length < 1000000) (h : Q .non (upd H p (.lst (xs ++ [y])))) : mS X "list.append" (.ref p) [y] H Q := ⟨_, mt_append, _, _, _, rfl, rfl, hp, sz_lt hl, h⟩
theorem m_pop {p : Addr} {xs : List V} {y : V} (hp : H p = some (.lst xs)) (hy : xs[xs.length - 1]? = some y) (h : Q y (upd H p (.lst xs.dropLast))) : mS X "list.pop" (.ref p) [] H Q := ⟨_, mt_pop, _, _, _, rfl, rfl, hp, hy, h⟩
theorem m_reverse {p : Addr} {xs : List V} (hp : H p = some (.lst xs)) (h : Q .non (upd H p (.lst xs.reverse))) : mS X "list.reverse" (.ref p) [] H Q := ⟨_, mt_reverse, _, _, rfl, rfl, hp, h⟩
end
end Go

namespace Enu
open PySem PySem.Spec PyProof.Rows L2 PySem.W

theorem no_len : typeLookup (.type "enumerate") "__len__" = pure none := by rw [typeLookup_type, builtinLookup_eq_fast]; kernel_rfl
theorem no_hint : typeLookup (.type "enumerate") "__length_hint__" = pure none := by rw [typeLookup_type, builtinLookup_eq_fast]; kernel_rfl

/-- an enumerate that has handed out a tuple which still lives, or none yet -/
def EnG (h : Heap) (e it : Addr) (i : Int) (old o0 : Value) (f : Bool) : Prop :=
  h.get? e = some { cls := .type "enumerate", dict := none, data := .fields #[o0, .bool f, .ref it, rawInt i, .none, old], slots := #[] }
def EnSt (h : Heap) (e it l : Addr) (S : Addr) (i : Nat) : Prop :=
  h.IsListIter it l i ∧ (IsEnum h e it i .none ∨ ∃ (x : Value) (T : Addr) (f : Bool) (oT : Obj), EnG h e it i x (rawInt T) f ∧ h.get? T = some oT ∧ T ≠ e ∧ T ≠ it ∧ T ≠ S)

section
variable {prog : Program} {w : World} {A : Around} {E : Value → Shared → Prop} {s : Shared}

theorem next_out {e it l T : Addr} {i : Nat} {items : Array Value} {x old : Value} {f : Bool} {oT : Obj} {Q : Value → Shared → Prop} (he : EnG s.heap e it i old (rawInt T) f) (hit : s.heap.IsListIter it l i) (hl : s.heap.IsList l items) (hx : items[i]? = some x) (hne : e ≠ it)
    (hT : s.heap.get? T = some oT) (hTe : T ≠ e) (hTi : T ≠ it)
    (hQ : ∀ h', EnG h' e it ((i : Int) + 1) old (rawInt T) true → h'.IsListIter it l (i + 1) → h'.get? s.heap.objs.size = some { cls := .type "tuple", data := .seq #[.int i s.toks, x] } → h'.objs.size = s.heap.objs.size + 1 →
      (∀ b o, b ≠ e → b ≠ it → s.heap.get? b = some o → h'.get? b = some o) → Q (.ref s.heap.objs.size) { s with heap := h', toks := s.toks + 1 }) :
    wpAny (model prog w) A (Builtin.«enumerate.__next__» ⟨[.ref e], []⟩) (fun fin s' => ∃ v, fin = .done (.ret v) ∧ Q v s') E s := by
  obtain ⟨hp, g, d, tk, os⟩ := s
  show wpAny _ _ (field (.ref e) 2 >>= _) _ _ _
  refine wpAny_bind (wpAny_field he rfl (x := .ref it) rfl ?_)
  refine wpAny_bind (wpAny_nextOf_list_item hit hl hx fun h1 hit1 hs1 => ?_)
  replace hs1 : Heap.SameBut it hp h1 := hs1
  have he1 : EnG h1 e it i old (rawInt T) f := (hs1.2 e hne).trans he
  have hT1 : h1.get? T = some oT := (hs1.2 T hTi).trans hT
  show wpAny _ _ (field (.ref e) 3 >>= _) _ _ ⟨h1, g, d, tk, os⟩
  refine wpAny_bind (wpAny_field he1 rfl (x := rawInt i) rfl ?_)
  show wpAny _ _ (field (.ref e) 4 >>= _) _ _ ⟨h1, g, d, tk, os⟩
  refine wpAny_bind (wpAny_field he1 rfl (x := .none) rfl ?_)
  show wpAny _ _ (mkInt i >>= _) _ _ ⟨h1, g, d, tk, os⟩
  refine wpAny_bind (wpAny_mkInt ?_)
  show wpAny _ _ (setField (.ref e) 3 (rawInt ((i : Int) + 1)) >>= _) _ _ ⟨h1, g, d, tk + 1, os⟩
  refine wpAny_bind (wpAny_setField_rec he1 (by simp) fun h2 he2 hs2 => ?_)
  replace hs2 : Heap.SameBut e h1 h2 := hs2
  replace he2 : EnG h2 e it ((i : Int) + 1) old (rawInt T) f := he2
  show wpAny _ _ (setField (.ref e) 4 .none >>= _) _ _ ⟨h2, g, d, tk + 1, os⟩
  refine wpAny_bind (wpAny_setField_rec he2 (by simp) fun h3 he3 hs3 => ?_)
  replace hs3 : Heap.SameBut e h2 h3 := hs3
  replace he3 : EnG h3 e it ((i : Int) + 1) old (rawInt T) f := he3
  have hT3 : h3.get? T = some oT := (hs3.2 T hTe).trans ((hs2.2 T hTe).trans hT1)
  show wpAny _ _ (newTuple [.int i tk, x] >>= _) _ _ ⟨h3, g, d, tk + 1, os⟩
  refine wpAny_bind (wpAny_newTuple ?_)
  have he4 : EnG (h3.push { cls := .type "tuple", data := .seq #[.int i tk, x] }) e it ((i : Int) + 1) old (rawInt T) f := Heap.get?_push_of_some _ he3
  have hT4 : (h3.push { cls := .type "tuple", data := .seq #[.int i tk, x] }).get? T = some oT := Heap.get?_push_of_some _ hT3
  generalize hh4 : h3.push { cls := .type "tuple", data := .seq #[.int i tk, x] } = h4 at he4 hT4
  have hsz : h3.objs.size = hp.objs.size := by rw [hs3.1, hs2.1, hs1.1]
  have hel : e < hp.objs.size := Heap.lt_size he
  have ht4 : h4.get? hp.objs.size = some { cls := .type "tuple", data := .seq #[.int i tk, x] } := by rw [← hh4, ← hsz]; exact Heap.get?_push_size _ rfl
  have hz4 : h4.objs.size = hp.objs.size + 1 := by rw [← hh4, Heap.size_push, hsz]
  have hk4 : ∀ b o, b ≠ e → b ≠ it → hp.get? b = some o → h4.get? b = some o := fun b o hbe hbi hb => by
    rw [← hh4]; exact Heap.get?_push_of_some _ (hs3.extBut b o hbe (hs2.extBut b o hbe (hs1.extBut b o hbi hb)))
  have hit4 : h4.IsListIter it l (i + 1) := by
    rw [← hh4]; obtain ⟨o, ho, r⟩ := (hit1.extBut hs2.extBut (Ne.symm hne)).extBut hs3.extBut (Ne.symm hne); exact ⟨o, Heap.get?_push_of_some _ ho, r⟩
  show wpAny _ _ (Builtin.SmallTypes.ownedTupleIsFree (.ref e) >>= _) _ _ ⟨h4, g, d, tk + 1, os⟩
  rw [hsz]
  clear hh4 he3 hs3 he2 hs2 he1 hs1 hit1 hsz hT3 hT1
  refine wpAny_bind ?_
  unfold Builtin.SmallTypes.ownedTupleIsFree
  refine wpAny_bind (wpAny_field he4 rfl (x := rawInt T) rfl ?_)
  show wpAny _ _ (loadIfAlive ((T : Int).toNat) >>= _) _ _ _
  rw [Int.toNat_natCast]
  refine wpAny_bind (kdx_alive hT4 ?_)
  simp only [Option.isNone_some, Bool.false_eq_true, if_false]
  refine wpAny_bind (wpAny_field he4 rfl (x := .bool f) rfl ?_)
  cases f with
  | true =>
    rw [if_neg (show ¬ ((Value.bool true != Value.bool true) = true) from Bool.false_ne_true)]
    refine wpAny_pure ?_
    simp only [Bool.false_eq_true, if_false]
    exact wpAny_pure (⟨_, rfl, hQ h4 he4 hit4 ht4 hz4 hk4⟩)
  | false =>
    rw [if_pos (show (Value.bool false != Value.bool true) = true from rfl)]
    refine wpAny_bind (wpAny_setField_rec he4 (by simp) fun h5 he5 hs5 => ?_)
    replace hs5 : Heap.SameBut e h4 h5 := hs5
    replace he5 : EnG h5 e it ((i : Int) + 1) old (rawInt T) true := he5
    refine wpAny_pure ?_
    simp only [Bool.false_eq_true, if_false]
    exact wpAny_pure (⟨_, rfl, hQ h5 he5 (hit4.extBut hs5.extBut (Ne.symm hne)) (hs5.extBut _ _ (Nat.ne_of_gt hel) ht4) (by rw [hs5.1, hz4]) fun b o hbe hbi hb => hs5.extBut b o hbe (hk4 b o hbe hbi hb)⟩)
theorem pn_out {e it l T : Addr} {i : Nat} {items : Array Value} {x old : Value} {f : Bool} {oT : Obj} {Q : Option Value → Shared → Prop} (he : EnG s.heap e it i old (rawInt T) f) (hit : s.heap.IsListIter it l i) (hl : s.heap.IsList l items) (hx : items[i]? = some x) (hne : e ≠ it)
    (hT : s.heap.get? T = some oT) (hTe : T ≠ e) (hTi : T ≠ it)
    (hQ : ∀ h', EnG h' e it ((i : Int) + 1) old (rawInt T) true → h'.IsListIter it l (i + 1) → h'.get? s.heap.objs.size = some { cls := .type "tuple", data := .seq #[.int i s.toks, x] } → h'.objs.size = s.heap.objs.size + 1 →
      (∀ b o, b ≠ e → b ≠ it → s.heap.get? b = some o → h'.get? b = some o) → Q (some (.ref s.heap.objs.size)) { s with heap := h', toks := s.toks + 1 }) :
    wpAny (model prog w) A (pyNext (.ref e)) Q E s := by
  have hTy : s.TypeIs (.ref e) "enumerate" := ⟨_, he, rfl⟩
  unfold pyNext
  exact wpAny_bind (wpAny_attempt (wpAny_callSpecial?_slot (name := Str.ofString "__next__") hTy F.slot_enumerate_next
    (wpAny_call_entry F.slot_enumerate_next hTy F.entry_enumerate_next (next_out he hit hl hx hne hT hTe hTi fun h' a b c d k => wpAny_pure (hQ h' a b c d k)) (F.args_enumerate_next_1 _))))
theorem pn_end {e it l : Addr} {i : Nat} {items : Array Value} {o0 old : Value} {f : Bool} {Q : Option Value → Shared → Prop} (hh : A.handled = none) (he : EnG s.heap e it i old o0 f) (hit : s.heap.IsListIter it l i) (hl : s.heap.IsList l items) (hx : items[i]? = none)
    (hQ : ∀ h', Heap.ExtBut it s.heap h' → Q none { s with heap := h' }) : wpAny (model prog w) A (pyNext (.ref e)) Q E s := by
  have hT : s.TypeIs (.ref e) "enumerate" := ⟨_, he, rfl⟩
  unfold pyNext
  refine wpAny_bind (wpAny_attempt (wpAny_callSpecial?_slot (name := Str.ofString "__next__") hT F.slot_enumerate_next (wpAny_call_entry F.slot_enumerate_next hT F.entry_enumerate_next ?_ (F.args_enumerate_next_1 _))))
  show wpAny _ _ (field (.ref e) 2 >>= _) _ _ _
  refine wpAny_bind (wpAny_field he rfl (x := .ref it) rfl ?_)
  refine wpAny_bind (wpAny_nextOf_list_end hh hit hl hx fun h' x he' hx' => ?_)
  obtain ⟨o, ho, hc⟩ := hx'
  refine wpAny_bind (wpAny_isInstance (T := "StopIteration") (b := true) ⟨o, ho, hc⟩ isSubtype_stop ?_)
  exact wpAny_pure (hQ _ he')
theorem st_item {e it l S : Addr} {i : Nat} {items : Array Value} {x : Value} {Q : Option Value → Shared → Prop} (hst : EnSt s.heap e it l S i) (hl : s.heap.IsList l items) (hx : items[i]? = some x) (hne : e ≠ it) (hS : S < s.heap.objs.size)
    (hQ : ∀ h' tk, EnSt h' e it l S (i + 1) → (∃ t, h'.get? s.heap.objs.size = some { cls := .type "tuple", data := .seq #[.int i t, x] }) → h'.objs.size = s.heap.objs.size + 1 →
      (∀ b o, b ≠ e → b ≠ it → s.heap.get? b = some o → h'.get? b = some o) → Q (some (.ref s.heap.objs.size)) { s with heap := h', toks := tk }) :
    wpAny (model prog w) A (pyNext (.ref e)) Q E s := by
  have c1 : ((i + 1 : Nat) : Int) = (i : Int) + 1 := by omega
  obtain ⟨hit, he | ⟨y, T, f, oT, he, hT, hTe, hTi, hTS⟩⟩ := hst
  · have hel : e < s.heap.objs.size := Heap.lt_size he
    have hil : it < s.heap.objs.size := by obtain ⟨_, q, _⟩ := hit; exact Heap.lt_size q
    refine wpAny_pyNext_enum_item he hit hl hx hne fun h' ho hit' ht hz hk => hQ h' _ ⟨hit', .inr ⟨x, s.heap.objs.size, false, _, ?_, ht, Nat.ne_of_gt hel, Nat.ne_of_gt hil, Nat.ne_of_gt hS⟩⟩ ⟨_, ht⟩ hz hk
    unfold EnG; rw [c1]; exact ho
  · refine pn_out he hit hl hx hne hT hTe hTi fun h' ho hit' ht hz hk => hQ h' _ ⟨hit', .inr ⟨y, T, true, oT, ?_, hk T oT hTe hTi hT, hTe, hTi, hTS⟩⟩ ⟨_, ht⟩ hz hk
    unfold EnG; rw [c1]; exact ho
theorem st_done {e it l S : Addr} {i : Nat} {items : Array Value} {Q : Option Value → Shared → Prop} (hh : A.handled = none) (hst : EnSt s.heap e it l S i) (hl : s.heap.IsList l items) (hx : items[i]? = none)
    (hQ : ∀ h', Heap.ExtBut it s.heap h' → Q none { s with heap := h' }) : wpAny (model prog w) A (pyNext (.ref e)) Q E s := by
  obtain ⟨hit, he | ⟨y, T, f, oT, he, hT, hTe, hTi, hTS⟩⟩ := hst
  · exact wpAny_pyNext_enum_end hh he hit hl hx hQ
  · exact pn_end hh he hit hl hx hQ
theorem EnSt.keep {h h' : Heap} {e it l S : Addr} {i : Nat} (hst : EnSt h e it l S i) (k : ∀ b o, b ≠ S → h.get? b = some o → h'.get? b = some o) (hne : e ≠ S) (hni : it ≠ S) : EnSt h' e it l S i := by
  obtain ⟨hit, he | ⟨y, T, f, oT, he, hT, hTe, hTi, hTS⟩⟩ := hst
  · exact ⟨hit.at fun o q => k it o hni q, .inl (k e _ hne he)⟩
  · exact ⟨hit.at fun o q => k it o hni q, .inr ⟨y, T, f, oT, k e _ hne he, k T _ hTS hT, hTe, hTi, hTS⟩⟩
end

/-- the pairs (0, x0), (1, x1) .. at the addresses as, which lie above lo and rise -/
structure EnL (items : Array Value) (lo : Addr) (h : Heap) (as : List Addr) : Prop where
  rise : as.Pairwise (· < ·)
  above : ∀ a ∈ as, lo < a
  pairs : ∀ (j : Nat) (a : Addr), as[j]? = some a → ∃ (hj : j < items.size) (t : Tok), h.get? a = some { cls := .type "tuple", data := .seq #[.int j t, items[j]] }
theorem EnL.there {items : Array Value} {lo : Addr} {h : Heap} {as : List Addr} (g : EnL items lo h as) {a : Addr} (ha : a ∈ as) : a < h.objs.size := by
  obtain ⟨j, hj⟩ := List.mem_iff_getElem?.mp ha
  obtain ⟨_, _, e⟩ := g.pairs j a hj
  exact Heap.lt_size e

section
variable {prog : Program} {w : World} {A : Around} {s : Shared} {R : Result → Shared → Prop} {items : Array Value}
theorem loop {S e it l : Addr} (hh : A.handled = none) (hSe : e ≠ S) (hSi : it ≠ S) (hSl : l ≠ S) (hle : l ≠ e) (hli : l ≠ it) (hne : e ≠ it) (hn : items.size ≤ sizeLine) (res : Value) {h1 : Heap} (lo : Addr) (hloS : S ≤ lo) (hloe : e ≤ lo) (hloi : it ≤ lo)
    (hR : ∀ h' tk acc c as, (∀ b o, b ≠ S → b ≠ e → b ≠ it → h1.get? b = some o → h'.get? b = some o) → h'.get? S = some { cls := .type "list", dict := none, data := .seq acc c, slots := #[] } → as.length = items.size → EnL items lo h' as →
      acc.toList = as.map Value.ref → R (.ok (.ret res)) { s with heap := h', toks := tk }) :
    ∀ (k i : Nat) (h : Heap) (tk c : Nat) (acc : Array Value) (as : List Addr), items.size - i = k → i ≤ items.size → EnSt h e it l S i → h.IsList l items → (∀ b o, b ≠ S → b ≠ e → b ≠ it → h1.get? b = some o → h.get? b = some o) →
      h.get? S = some { cls := .type "list", dict := none, data := .seq acc c, slots := #[] } → acc.toList = as.map Value.ref → as.length = i → EnL items lo h as → lo < h.objs.size →
      codeAny (model prog w) A (.builtin "list.extend.loop" ⟨[.ref S, .ref e, res], []⟩) R { s with heap := h, toks := tk } := by
  intro k
  induction k with
  | zero =>
    intro i h tk c acc as hk hi hst hL hkeep hS hacc hal hG hIs
    refine codeAny_builtin PySem.F.entry_extend_loop ?_
    rw [Around.under_plainId PySem.F.plain_extend_loop _]
    show wpAny _ A.in1 (pyNext (.ref e) >>= _) _ _ _
    refine wpAny_bind (st_done (s := { s with heap := h, toks := tk }) (A := A.in1) hh hst hL (Array.getElem?_eq_none (by omega)) fun h' he => ?_)
    refine wpAny_pure (hR h' tk acc c as (fun b o h1 h2 h3 e => he b o h3 (hkeep b o h1 h2 h3 e)) (he S _ (Ne.symm hSi) hS) (by omega) ⟨hG.rise, hG.above, fun j a hj => ?_⟩ hacc)
    obtain ⟨hj', t, e3⟩ := hG.pairs j a hj
    exact ⟨hj', t, he a _ (Nat.ne_of_gt (Nat.lt_of_le_of_lt hloi (hG.above a (List.mem_of_getElem? hj)))) e3⟩
  | succ k ih =>
    intro i h tk c acc as hk hi hst hL hkeep hS hacc hal hG hIs
    have hlt : i < items.size := by omega
    have hsz : acc.size = i := by rw [← Array.length_toList, hacc, List.length_map, hal]
    refine codeAny_builtin PySem.F.entry_extend_loop ?_
    rw [Around.under_plainId PySem.F.plain_extend_loop _]
    show wpAny _ A.in1 (pyNext (.ref e) >>= _) _ _ _
    refine wpAny_bind (st_item (s := { s with heap := h, toks := tk }) (S := S) hst hL (Array.getElem?_eq_getElem hlt) hne (Heap.lt_size hS) fun h' tk' hst' ht hz hkp => ?_)
    obtain ⟨t, ht⟩ := ht
    dsimp only at ht hz hkp ⊢
    have hS' := hkp S _ (Ne.symm hSe) (Ne.symm hSi) hS
    have up : ∀ b o, b ≠ S → h'.get? b = some o → (h'.update S (Obj.mapSeq (·.push (Value.ref h.objs.size)))).get? b = some o := fun b o hb e => (Heap.get?_update_other _ _ (Ne.symm hb)).trans e
    have hSlt : S < h.objs.size := Heap.lt_size hS
    show wpAny _ A.in1 (updateSeq S (·.push (Value.ref h.objs.size)) >>= _) _ _ _
    refine wpAny_bind ?_
    refine wpAny_updateSeq hS' rfl (wpAny_pure ⟨plainId_quiet PySem.F.plain_extend_loop _, ih (i + 1) _ tk' _ (acc.push (Value.ref h.objs.size)) (as ++ [h.objs.size]) (by omega) hlt (hst'.keep up hSe hSi) (hL.at fun o q => up l o hSl (hkp l o hle hli q))
      (fun b o h1 h2 h3 q => up b o h1 (hkp b o h2 h3 (hkeep b o h1 h2 h3 q))) (Heap.get?_update_self _ hS' rfl) (by rw [Array.toList_push, hacc, List.map_append]; rfl) (by rw [List.length_append, hal]; rfl) ⟨?_, ?_, ?_⟩ ?_⟩) (by rw [hsz]; omega) (by show (acc.push (Value.ref h.objs.size)).size ≤ sizeLine + 1; rw [Array.size_push, hsz]; omega)
    · refine List.pairwise_append.mpr ⟨hG.rise, List.pairwise_singleton _ _, fun a ha b hb => ?_⟩
      rw [List.mem_singleton.mp hb]
      exact hG.there ha
    · intro a ha
      rcases List.mem_append.mp ha with ha | ha
      · exact hG.above a ha
      · rw [List.mem_singleton.mp ha]; exact hIs
    · intro j b hj
      rcases Nat.lt_trichotomy j as.length with h1 | h1 | h1
      · rw [List.getElem?_append_left h1] at hj
        obtain ⟨hj', t', e3⟩ := hG.pairs j b hj
        have hb := hG.above b (List.mem_of_getElem? hj)
        exact ⟨hj', t', up b _ (Nat.ne_of_gt (Nat.lt_of_le_of_lt hloS hb)) (hkp b _ (Nat.ne_of_gt (Nat.lt_of_le_of_lt hloe hb)) (Nat.ne_of_gt (Nat.lt_of_le_of_lt hloi hb)) e3)⟩
      · subst h1
        have hb : h.objs.size = b := by simpa using hj
        subst hb
        exact ⟨by omega, t, by subst hal; exact up _ _ (Nat.ne_of_gt hSlt) ht⟩
      · have hnone : (as ++ [h.objs.size])[j]? = none := List.getElem?_eq_none (by rw [List.length_append, List.length_singleton]; omega)
        rw [hnone] at hj; cases hj
    · have e : (h'.update S (Obj.mapSeq (·.push (Value.ref h.objs.size)))).get? h.objs.size = _ := up _ _ (Nat.ne_of_gt hSlt) ht
      exact Nat.lt_trans hIs (Heap.lt_size e)
end
section
variable {prog : Program} {w : World} {A : Around} {E : Value → Shared → Prop} {s : Shared} {e it l : Addr} {items : Array Value}
theorem extend {R : Result → Shared → Prop} (hh : A.handled = none) (he : IsEnum s.heap e it 0 .none) (hit : s.heap.IsListIter it l 0) (hl : s.heap.IsList l items) (hne : e ≠ it) (hle : l ≠ e) (hli : l ≠ it) (S : Addr) (hSe : e ≠ S) (hSi : it ≠ S) (hSl : l ≠ S) (heS : e < S) (hiS : it < S) (hS : s.heap.get? S = some { cls := .type "list", data := .seq #[] })
    (hR : ∀ h' tk acc c as, (∀ b o, b ≠ S → b ≠ e → b ≠ it → s.heap.get? b = some o → h'.get? b = some o) → h'.get? S = some { cls := .type "list", dict := none, data := .seq acc c, slots := #[] } → as.length = items.size → EnL items S h' as →
      acc.toList = as.map Value.ref → R (.ok (.ret .none)) { s with heap := h', toks := tk }) (hn : items.size ≤ sizeLine) (c0 : Nat) (hS : s.heap.get? S = some { cls := .type "list", data := .seq #[] c0 }) :
    wpAny (model prog w) A.in1 (Builtin.List.listExtendWith (.ref S) (.ref e) .none)
      (fun fin s' => match fin with | .done f => R (.ok f) s' | .again c' => c'.quiet = true ∧ codeAny (model prog w) A c' R s') (fun e s' => R (.error e) s') s := by
  have hT : s.TypeIs (.ref e) "enumerate" := ⟨_, he, rfl⟩
  unfold Builtin.List.listExtendWith
  refine wpAny_bind (wpAny_typeOf hT ?_)
  have h1 : Builtin.List.listSameRef (.ref S) (.ref e) = false := by simp [Builtin.List.listSameRef, Ne.symm hSe]
  have h2 : (Value.type "enumerate" == Value.type "list") = false := by decide
  have h3 : (Value.type "enumerate" == Value.type "tuple") = false := by decide
  simp only [h1, h2, h3, Bool.or_false, Bool.false_eq_true, if_false]
  refine wpAny_bind (wpAny_pyIter_enum he ?_)
  refine wpAny_bind (wpAny_holding ?_)
  unfold Builtin.List.listLengthHint
  refine wpAny_bind (wpAny_specialOf hT no_len ?_)
  show wpAny _ A.in1 (specialOf (Value.ref e) (Str.ofString "__length_hint__") >>= _) _ _ _
  refine wpAny_bind (wpAny_specialOf hT no_hint ?_)
  refine wpAny_pure ?_
  show wpAny _ A.in1 (rule "list.extend.makes-room" >>= fun _ => Builtin.List.listTouch (.ref S) >>= fun _ => again (.builtin "list.extend.loop" ⟨[.ref S, .ref e, .none], []⟩)) _ _ _
  refine wpAny_bind (wpAny_rule ?_)
  refine wpAny_bind ?_
  show wpAny _ A.in1 (updateSeq S (·.push .none) >>= fun _ => updateSeq S (·.pop)) _ _ _
  refine wpAny_bind (wpAny_updateSeq hS rfl ?_)
  have hS2 := Heap.get?_update_self (Obj.mapSeq (·.push Value.none)) hS rfl
  refine wpAny_updateSeq (hz := by seq_fits) hS2 rfl ?_
  have hS3 := Heap.get?_update_self (Obj.mapSeq (·.pop)) hS2 rfl
  have oth : ∀ b o, b ≠ S → s.heap.get? b = some o → ((s.heap.update S (Obj.mapSeq (·.push Value.none))).update S (Obj.mapSeq (·.pop))).get? b = some o :=
    fun b o hb e => (Heap.get?_update_other _ _ (Ne.symm hb)).trans ((Heap.get?_update_other _ _ (Ne.symm hb)).trans e)
  refine wpAny_pure ⟨plainId_quiet F.plain_extend_loop _, loop (s := s) (h1 := s.heap) (items := items) hh hSe hSi hSl hle hli hne hn .none S (Nat.le_refl _) (Nat.le_of_lt heS) (Nat.le_of_lt hiS) hR items.size 0 _ _ _ #[] [] (Nat.sub_zero _) (Nat.zero_le _) ?_ (hl.at fun o q => oth l o hSl q)
    (fun b o hb _ _ q => oth b o hb q) hS3 rfl rfl ⟨List.Pairwise.nil, (fun _ ha => nomatch ha), (fun j a hj => by simp at hj)⟩ (Heap.lt_size hS3)⟩
  exact EnSt.keep (h := s.heap) ⟨hit, .inl he⟩ oth hSe hSi
theorem init {R : Result → Shared → Prop} (hh : A.handled = none) (he : IsEnum s.heap e it 0 .none) (hit : s.heap.IsListIter it l 0) (hl : s.heap.IsList l items) (hne : e ≠ it) (hle : l ≠ e) (hli : l ≠ it) (S : Addr) (hSe : e ≠ S) (hSi : it ≠ S) (hSl : l ≠ S) (heS : e < S) (hiS : it < S) (hS : s.heap.get? S = some { cls := .type "list", data := .seq #[] })
    (hR : ∀ h' tk acc c as, (∀ b o, b ≠ S → b ≠ e → b ≠ it → s.heap.get? b = some o → h'.get? b = some o) → h'.get? S = some { cls := .type "list", dict := none, data := .seq acc c, slots := #[] } → as.length = items.size → EnL items S h' as →
      acc.toList = as.map Value.ref → R (.ok (.ret .none)) { s with heap := h', toks := tk }) (hn : items.size ≤ sizeLine) :
    wpAny (model prog w) A.in1 (Builtin.«list.__init__» ⟨[.ref S, .ref e], []⟩)
      (fun fin s' => match fin with | .done f => R (.ok f) s' | .again c' => c'.quiet = true ∧ codeAny (model prog w) A c' R s') (fun e s' => R (.error e) s') s := by
  show wpAny _ _ (do let old ← Builtin.List.listItems (.ref S); Builtin.List.listUpdate (.ref S) (fun _ => #[]); letGo old.toList.reverse; Builtin.List.listExtendWith (.ref S) (.ref e) .none) _ _ s
  refine wpAny_bind ?_
  unfold Builtin.List.listItems
  refine wpAny_bind (wpAny_seqItems hS rfl (wpAny_pure ?_))
  show wpAny _ _ (updateSeq S (fun _ => #[]) >>= fun _ => letGo (#[] : Array Value).toList.reverse >>= fun _ => Builtin.List.listExtendWith (.ref S) (.ref e) .none) _ _ s
  refine wpAny_bind (wpAny_updateSeq hS rfl ?_)
  have hS2 := Heap.get?_update_self (Obj.mapSeq (fun _ => (#[] : Array Value))) hS rfl
  have oth : ∀ b o, b ≠ S → s.heap.get? b = some o → (s.heap.update S (Obj.mapSeq (fun _ => (#[] : Array Value)))).get? b = some o :=
    fun b o hb e => (Heap.get?_update_other _ _ (Ne.symm hb)).trans e
  refine wpAny_bind (wpAny_letGo ?_)
  exact extend hh (oth e _ hSe he) (hit.at fun o q => oth it o hSi q) (hl.at fun o q => oth l o hSl q) hne hle hli S hSe hSi hSl heS hiS hS2 (fun h' tk acc c as hk hS' hl hG hacc => hR h' tk acc c as (fun b o hb h2 h3 e => hk b o hb h2 h3 (oth b o hb e)) hS' hl hG hacc) hn _ hS2
/-- list(enumerate(l)), the enumerate object just made -/
theorem call_list {Q : Value → Shared → Prop} (hh : A.handled = none) (he : IsEnum s.heap e it 0 .none) (hit : s.heap.IsListIter it l 0) (hl : s.heap.IsList l items) (hne : e ≠ it) (hle : l ≠ e) (hli : l ≠ it) (hn : items.size ≤ sizeLine)
    (hQ : ∀ h' tk acc c as, (∀ b o, b ≠ e → b ≠ it → s.heap.get? b = some o → h'.get? b = some o) → h'.get? s.heap.objs.size = some { cls := .type "list", dict := none, data := .seq acc c, slots := #[] } → as.length = items.size → EnL items s.heap.objs.size h' as →
      acc.toList = as.map Value.ref → Q (.ref s.heap.objs.size) { s with heap := h', toks := tk }) :
    wpAny (model prog w) A (call (.type "list") [.ref e]) Q E s := by
  refine callType_codes (Q₁ := fun obj s₁ => obj = .ref s.heap.objs.size ∧ s₁ = { s with heap := s.heap.push { cls := .type "list", data := .seq #[] } }) PySem.F.called_list (PySem.F.typeCall_list_1 _) PySem.F.entry_list_init
    (code_list_new _ ⟨rfl, rfl⟩) fun obj s₁ h₁ => ?_
  obtain ⟨rfl, rfl⟩ := h₁
  have hS : (s.heap.push { cls := .type "list", data := .seq #[] }).get? s.heap.objs.size = some { cls := .type "list", data := .seq #[] } := Heap.get?_push_size _ rfl
  have h1 : e < s.heap.objs.size := Heap.lt_size he
  have h2 : it < s.heap.objs.size := let ⟨_, ho, _⟩ := hit; Heap.lt_size ho
  have h3 : l < s.heap.objs.size := let ⟨_, ho, _⟩ := hl; Heap.lt_size ho
  refine ⟨⟨_, hS, rfl⟩, PySem.F.args_list_init_2 _ _, init (items := items) (A := A.in1) hh (Heap.get?_push_of_some _ he) (hit.at fun o q => Heap.get?_push_of_some _ q) (hl.at fun o q => Heap.get?_push_of_some _ q) hne hle hli _ (Nat.ne_of_lt h1) (Nat.ne_of_lt h2) (Nat.ne_of_lt h3) h1 h2 hS (fun h' tk acc c as hk hS' hl hG hacc => ?_) hn⟩
  exact ⟨rfl, hQ h' tk acc c as (fun b o g1 g2 e => hk b o (Nat.ne_of_lt (Heap.lt_size e)) g1 g2 (Heap.get?_push_of_some _ e)) hS' hl hG hacc⟩
end
end Enu

namespace Go
open PySem PySem.Spec PyProof.Rows L2

theorem strs_vals (l : List Nat) {acc : Array Value} (h : ItemsOf (SignAt (S l)) acc l.length) : Vals (l.map fun c => V.str (S [c])) acc.toList := by
  have key : ∀ (n : Nat) (l : List Nat) (vs : List Value), vs.length = l.length → (∀ (j : Nat) v, vs[j]? = some v → ∃ c u, l[j]? = some c ∧ v = Value.str ⟨#[c]⟩ u) → l.length = n → Vals (l.map fun c => V.str (S [c])) vs := by
    intro n
    induction n with
    | zero =>
      intro l vs h1 h2 h3
      cases l with
      | nil =>
        cases vs with
        | nil => exact .nil
        | cons a b => simp at h1
      | cons a b => simp at h3
    | succ n ih =>
      intro l vs h1 h2 h3
      cases l with
      | nil => simp at h3
      | cons c l =>
        cases vs with
        | nil => simp at h1
        | cons v vs =>
          obtain ⟨c', u, e1, e2⟩ := h2 0 v rfl
          have e1 : c = c' := Option.some.inj e1
          subst e1
          refine .cons ⟨u, e2⟩ (ih l vs (by simpa using h1) (fun j v hv => h2 (j + 1) v hv) (by simpa using h3))
  refine key l.length l acc.toList (by rw [Array.length_toList]; exact h.1) (fun j v hv => ?_) rfl
  obtain ⟨c, u, e1, e2⟩ := h.2 j v (by simpa using hv)
  exact ⟨c, u, by simpa [S] using e1, e2⟩
theorem S_size (l : List Nat) : (S l).cps.size = l.length := by simp [S]
theorem repFold (n : Nat) (l : List Nat) : (List.replicate n (S l).cps).foldl (· ++ ·) #[] = (List.replicate n l).flatten.toArray := by
  have key : ∀ (n : Nat) (a : List Nat), (List.replicate n (S l).cps).foldl (· ++ ·) a.toArray = (a ++ (List.replicate n l).flatten).toArray := by
    intro n
    induction n with
    | zero => intro a; simp
    | succ n ih =>
      intro a
      rw [List.replicate_succ, List.foldl_cons]
      have e : (a.toArray ++ (S l).cps) = (a ++ l).toArray := by simp [S]
      rw [e, ih (a ++ l), List.replicate_succ, List.flatten_cons, List.append_assoc]
  simpa using key n []

section
variable {X : Cx} {P : Program} {w : World} {K : PySem.W.Frag} {mg : Str → Option Value} {base : Heap} {N : List Str} {nm : List (Str × NameKind)} {j : Nat} {σ σ' : L2.St} {H G : Hp} {Q : VK} {C : List (Addr × HO)} {pos p p2 : Pos} {e : Expr}

/-- list of a text -/
theorem c_listS (c : CI X P w K mg base N nm j) {z : List Nat} (hz : z.length ≤ 1000000) (h : ∀ r H', New H r (.lst (z.map fun c => V.str (S [c]))) H' → Q (.ref r) H') : cS X (.type "list") [.str (S z)] H Q := by
  refine ⟨fun vs H Q => ∃ z : List Nat, z.length ≤ 1000000 ∧ vs = [.str (S z)] ∧ ∀ r, H r = none → Q (.ref r) (upd H r (.lst (z.map fun c => V.str (S [c])))), ?_, z, hz, rfl, fun r hr => h r _ ⟨hr, rfl⟩⟩
  intro pins s σ H xs us Q I r h
  obtain ⟨z, hz, rfl, q⟩ := h
  cases r with
  | cons r rr =>
    cases rr
    obtain ⟨t, rfl⟩ := r
    have hs : (S z).cps.size ≤ sizeLine := by rw [S_size]; exact sz_le hz
    refine call_list_str (hn := hs) (I.ok.hd c.calm) (S z) t fun h' tk acc c' hk hS hacc => ?_
    rw [S_size] at hacc
    have v := strs_vals z hacc
    refine ⟨.ref _, _, I.laid (t' := tk) (o := .lst (z.map fun c => V.str (S [c]))) hk (Nat.le_refl _) ⟨?_, acc.toList, c', v, ?_⟩, rfl, q _ (I.hok.fresh (Nat.le_refl _))⟩
    · rw [List.length_map]; exact sz_le hz
    · rw [Array.toArray_toList]; exact hS
/-- a text so many times -/
theorem o_repS {z : List Nat} {n : Int} (h1 : 0 ≤ n) (h2 : z.length * n.toNat ≤ 1000000) (h3 : n ≤ 1000000) (h : Q (.str (S (List.replicate n.toNat z).flatten)) H) : oS X (binaryOp .Mult) (.str (S z)) (.int n) H Q := by
  refine ⟨fun x y H Q => ∃ (z : List Nat) (n : Int), x = .str (S z) ∧ y = .int n ∧ 0 ≤ n ∧ z.length * n.toNat ≤ 1000000 ∧ n ≤ 1000000 ∧ Q (.str (S (List.replicate n.toNat z).flatten)) H, ?_, z, n, rfl, rfl, h1, h2, h3, h⟩
  intro pins s σ H x y v u Q I rx ry h
  obtain ⟨z, n, rfl, rfl, h1, h2, h3, q⟩ := h
  obtain ⟨t, rfl⟩ := rx
  obtain ⟨t', rfl⟩ := ry
  have hlen : (S z).length = z.length := S_len z
  have fin : ∀ (y : Str) t' s', y = S (List.replicate n.toNat z).flatten → Inv X pins σ H s' → EP X pins σ Q (.str y t') s' := fun y t' s' e I' => ⟨.str _, H, I', ⟨t', by rw [e]⟩, q⟩
  refine P.mul_str ?_ (fun a b => ?_) (fun a b => ?_) ?_
  · rw [decide_eq_false (by omega), decide_eq_false (by omega)]; rfl
  · rw [hlen]
    have hn : 0 < n := by omega
    intro hgt
    have h4 : ((2 ^ 63 - 1 : Int)) / n < (z.length : Int) := hgt
    have h5 := (Int.ediv_lt_iff_lt_mul hn).mp h4
    have h6 : (z.length : Int) * n ≤ 1000000 := by
      have : ((z.length * n.toNat : Nat) : Int) ≤ 1000000 := by omega
      rw [Int.natCast_mul, Int.toNat_of_nonneg h1] at this
      exact this
    omega
  · rw [hlen]
    have : ¬ (z.length * n.toNat > sizeLine) := by have := sz_le h2; omega
    exact decide_eq_false this
  · by_cases hn : n < 1
    · rw [if_pos hn]
      have e : n = 0 := by omega
      subst e
      exact ⟨by decide, fin _ _ _ (by rfl) (I.tok _)⟩
    · rw [if_neg hn]
      by_cases hc : (n == 1 || (S z).length == 0) = true
      · rw [if_pos hc]
        refine fin _ _ _ ?_ I
        simp only [Bool.or_eq_true, beq_iff_eq] at hc
        rcases hc with hc | hc
        · subst hc; simp
        · rw [hlen] at hc
          have : z = [] := List.length_eq_zero_iff.mp hc
          subst this
          simp
      · rw [if_neg hc, repFold]
        exact ⟨by
          show (S ((List.replicate n.toNat z).flatten)).length ≤ sizeLine
          rw [S_len, List.length_flatten, List.map_replicate, List.sum_replicate_nat, Nat.mul_comm]
          exact sz_le h2, fin _ _ _ rfl (I.tok _)⟩
/-- what list(enumerate(x)) asks: a new list at r of new pairs at ts -/
def EnumK (K : PySem.W.Frag) (H1 : Hp) (x : V) (Q : VK) : Prop := ∃ q xs, x = .ref q ∧ SqL K H1 q xs ∧ ∀ (H' : Hp) (r : Addr) (ts : List Addr), Same H1 H' → ts.length = xs.length → H1 r = none → (∀ t ∈ ts, H1 t = none) → H' r = some (.lst (ts.map V.ref)) → (∀ (i : Nat) (t : Addr) (x : V), ts[i]? = some t → xs[i]? = some x → H' t = some (.tup [.int (i : Nat), x])) → r ∉ ts → Q (.ref r) H'
/-- tuples laid at their addresses -/
def putE : Hp → List Addr → List V → Nat → Hp
  | H, a :: as, x :: xs, i => putE (upd H a (.tup [.int (i : Nat), x])) as xs (i + 1)
  | H, _, _, _ => H
theorem putE_off {b : Addr} : ∀ (as : List Addr) (xs : List V) (i : Nat) (H : Hp), b ∉ as → putE H as xs i b = H b
  | [], _, _, _, _ => rfl
  | _ :: _, [], _, _, _ => rfl
  | a :: as, x :: xs, i, H, h => by
    show putE (upd H a (.tup [.int (i : Nat), x])) as xs (i + 1) b = H b
    rw [putE_off as xs _ _ (fun z => h (List.mem_cons_of_mem _ z)), upd_ne (fun z => h (by rw [z]; exact List.mem_cons_self))]
theorem putE_at : ∀ (as : List Addr) (xs : List V) (i : Nat) (H : Hp), as.Nodup → ∀ (k : Nat) (t : Addr) (x : V), as[k]? = some t → xs[k]? = some x → putE H as xs i t = some (.tup [.int ((i + k : Nat) : Int), x])
  | [], _, _, _, _, k, t, x, h, _ => by simp at h
  | _ :: _, [], _, _, _, k, t, x, _, h => by simp at h
  | a :: as, y :: xs, i, H, hn, 0, t, x, h1, h2 => by
    have e1 : a = t := Option.some.inj h1
    have e2 : y = x := Option.some.inj h2
    subst e1 e2
    show putE (upd H a (.tup [.int (i : Nat), y])) as xs (i + 1) a = _
    rw [putE_off as xs _ _ (List.nodup_cons.mp hn).1, upd_same]
    rfl
  | a :: as, y :: xs, i, H, hn, k + 1, t, x, h1, h2 => by
    show putE (upd H a (.tup [.int (i : Nat), y])) as xs (i + 1) t = _
    rw [putE_at as xs (i + 1) _ (List.nodup_cons.mp hn).2 k t x h1 h2, show i + 1 + k = i + (k + 1) by omega]
theorem vals_refs : ∀ as : List Addr, Vals (as.map V.ref) (as.map Value.ref)
  | [] => .nil
  | _ :: as => .cons rfl (vals_refs as)
/-- list(enumerate(l)) -/
theorem e_listEnum (c : CI X P w K mg base N nm j) {pe : Pos} (g1 : glB nm "list" = true) (m1 : mg "list" = none) (g2 : glB nm "enumerate" = true) (m2 : mg "enumerate" = none) (hs : starEach [e] X.env = [(false, eval e X.env)])
    (hs2 : starEach [.Call (.Name "enumerate" p2) [e] [] pe] X.env = (false, eval (.Call (.Name "enumerate" p2) [e] [] pe) X.env) :: starEach [] X.env)
    (h : eS X e σ H fun x H1 => EnumK K H1 x Q) : eS X (.Call (.Name "list" p) [.Call (.Name "enumerate" p2) [e] [] pe] [] pos) σ H Q := by
  refine ⟨fun σ H Q => eS X e σ H fun x H1 => EnumK K H1 x Q, ⟨fun pins s σ H Q I hq => ?_⟩, h⟩
  have eK := c.K
  subst eK
  refine wpAny_Call_Name_kw (ld_blt I (c.gl g1) (by rw [c.mg]; exact m1) (u := .type "list") (by decide +kernel) ?_)
  refine PyProof.Rows.callWith_type1 ?_ hs2 rfl
  rw [hs2]
  show wpAny _ _ (spliced ((false, eval (.Call (.Name "enumerate" p2) [e] [] pe) X.env) :: backTo pos (starEach [] X.env))) _ _ s
  refine Calls.spliced_cons ?_
  refine Call_ (ld_blt I (c.gl g2) (by rw [c.mg]; exact m2) boot_enumerate (PyProof.Rows.callWith_type1 (thn ((pa_cons eS_is pa_nil hs).run pe pins s σ H (fun vs H1 => ∃ x, vs = [x] ∧ EnumK X.K H1 x Q) I (eS_mono hq fun x H1 q => ⟨x, rfl, q⟩)) fun us s1 q1 => ?_) hs rfl))
  obtain ⟨vs, H1, I1, r1, x, rfl, q, xs, rfl, hqx, k⟩ := q1
  cases r1 with
  | cons r rr =>
    cases rr
    cases r
    obtain ⟨its, rv, pl, hz⟩ := I1.list hqx
    have lx := rv.length
    refine call_enumerate_list pl.isList fun h' he hit hsz hk => ?_
    refine Calls.spliced_nil ?_
    have I2 : Inv X pins σ H1 { s1 with heap := h' } := I1.kept (t' := s1.toks) hk
    have ql : q < s1.heap.objs.size := by obtain ⟨_, e, _⟩ := pl.isList; exact Heap.lt_size e
    refine Enu.call_list (s := { s1 with heap := h' }) (I2.ok.hd c.calm) (by simpa using he) (by simpa using hit) (pl.isList.at fun o z => hk q o z) (Nat.succ_ne_self _) (Nat.ne_of_lt (Nat.lt_succ_of_lt ql)) (Nat.ne_of_lt ql) (by rw [List.size_toArray, ← lx]; exact hz) fun h2 tk acc c2 as hk2 hS hl hG hacc => ?_
    have hS0 : h'.objs.size = s1.heap.objs.size + 2 := hsz
    have hl' : as.length = xs.length := by rw [hl, List.size_toArray, lx]
    have hSn : h'.objs.size ∉ as := fun z => Nat.lt_irrefl _ (hG.above _ z)
    have nd : as.Nodup := List.Pairwise.imp (fun {a b} (h : a < b) => Nat.ne_of_lt h) hG.rise
    have hk3 : ∀ b o, s1.heap.get? b = some o → h2.get? b = some o := fun b o z => hk2 b o (Nat.ne_of_lt (Nat.lt_succ_of_lt (Heap.lt_size z))) (Nat.ne_of_lt (Heap.lt_size z)) (hk b o z)
    have hle : s1.heap.objs.size ≤ h'.objs.size := by omega
    have new : ∀ t ∈ as, H1 t = none := fun t ht => I1.hok.fresh (Nat.le_of_lt (Nat.lt_of_le_of_lt hle (hG.above t ht)))
    have newS : H1 h'.objs.size = none := I1.hok.fresh (by omega)
    have atP := putE_at as xs 0 (upd H1 h'.objs.size (.lst (as.map V.ref))) nd
    have off : ∀ b, b ∉ as → b ≠ h'.objs.size → putE (upd H1 h'.objs.size (.lst (as.map V.ref))) as xs 0 b = H1 b := fun b h1 h2 => by rw [putE_off as xs _ _ h1, upd_ne h2]
    have kp : ∀ b u, H1 b = some u → (putE (upd H1 h'.objs.size (.lst (as.map V.ref))) as xs 0) b = some u := fun b u e => by
      rw [off b (fun z => by rw [new b z] at e; cases e) (fun z => by rw [z, newS] at e; cases e)]
      exact e
    have eS' : putE (upd H1 h'.objs.size (.lst (as.map V.ref))) as xs 0 h'.objs.size = some (.lst (as.map V.ref)) := by rw [putE_off as xs _ _ hSn, upd_same]
    refine ⟨.ref _, putE (upd H1 h'.objs.size (.lst (as.map V.ref))) as xs 0, ?_, rfl, k _ _ as kp hl' newS new eS' (fun i t x h1 h2 => by have := atP i t x h1 h2; rwa [Nat.zero_add] at this) hSn⟩
    refine I1.call' (ch := []) rfl ⟨fun b o q _ _ _ => hk3 b o q, fun b o q _ _ _ => ⟨o.slots, hk3 b o q⟩, fun b o q n _ => ?_, fun b o q _ => ⟨o, hk3 b o q⟩, fun b xs q => kp b _ q, fun b o u q => kp b _ q, fun b ps q => ⟨#[], by rw [kp b _ q]; simp⟩⟩ (fun b u q => ?_) I1.bare fun b z => by simp at z
    · have z1 : b ∉ as := fun z => absurd (Nat.lt_trans (Heap.lt_size q) (Nat.lt_of_le_of_lt hle (hG.above b z))) (Nat.lt_irrefl _)
      have z2 : b ≠ h'.objs.size := fun z => absurd (Nat.lt_of_lt_of_le (Heap.lt_size q) hle) (by rw [z]; exact Nat.lt_irrefl _)
      rw [off b z1 z2]
      exact n
    · by_cases hb : b ∈ as
      · obtain ⟨jx, hj⟩ := List.mem_iff_getElem?.mp hb
        obtain ⟨hj', t, f1⟩ := hG.pairs jx b hj
        have hjx : jx < xs.length := by rw [← hl']; exact (List.getElem?_eq_some_iff.mp hj).1
        have e3 := atP jx b xs[jx] hj (List.getElem?_eq_getElem hjx)
        rw [e3] at q
        cases q
        obtain ⟨qv, g1, g2⟩ := rv.get (List.getElem?_eq_getElem hjx)
        have g3 : its.toArray[jx] = qv := by
          have := List.getElem?_eq_some_iff.mp g1
          simpa using this.2
        rw [g3] at f1
        refine ⟨by show 2 ≤ sizeLine; decide, [.int jx t, qv], .cons ⟨t, by rw [Nat.zero_add]⟩ (.cons g2 .nil), ⟨_, f1, rfl, _, rfl⟩⟩
      · by_cases hb2 : b = h'.objs.size
        · rw [hb2] at q ⊢
          rw [eS'] at q
          cases q
          refine ⟨by rw [List.length_map]; omega, acc.toList, c2, by rw [hacc]; exact vals_refs as, ?_⟩
          rw [Array.toArray_toList]
          exact hS
        · rw [off b hb hb2] at q
          exact (I1.hok b u q).stay (fun d v _ y => hk3 d v y) (fun d y => kp d _ y) fun d xs y => kp d _ y
end
end Go

namespace Go
open PySem PySem.Spec PyProof.Rows L2

/-- texts put one behind another with sep between -/
def joinL (sep : List Nat) : List (List Nat) → List Nat
  | [] => []
  | [x] => x
  | x :: y :: r => x ++ sep ++ joinL sep (y :: r)
theorem joinL_nil : ∀ l : List (List Nat), joinL [] l = l.flatten
  | [] => rfl
  | [x] => by simp [joinL]
  | x :: y :: r => by rw [joinL, joinL_nil (y :: r)]; simp
theorem join_S (sep : List Nat) : ∀ l : List (List Nat), Str.join (S sep) (l.map S) = S (joinL sep l)
  | [] => by rfl
  | [x] => by rfl
  | x :: y :: r => by
    show S x ++ S sep ++ Str.join (S sep) ((y :: r).map S) = S (joinL sep (x :: y :: r))
    rw [join_S sep (y :: r), S_app, S_app]
    rfl
theorem glued_S (sep : List Nat) (l : List (List Nat)) : Txt.join (S sep) (l.map S) = S (joinL sep l) := by
  have e : Txt.join (S sep) (l.map S) = Str.join (S sep) (l.map S) := by
    first
    | rfl
    | exact PySem.StrLaws.glued_eq_join _ _
    | exact PySem.glued_eq_join _ _
  rw [e, join_S]

section
variable {X : Cx} {P : Program} {w : World} {K : PySem.W.Frag} {mg : Str → Option Value} {base : Heap} {N : List Str} {nm : List (Str × NameKind)} {j : Nat} {σ σ' : L2.St} {H G : Hp} {Q : VK} {C : List (Addr × HO)} {pos p p2 : Pos} {e : Expr}
theorem m_join (c : CI X P w K mg base N nm j) {sep : List Nat} {ls : List (List Nat)} {q : Addr} (hq : SqL K H q (ls.map fun l => V.str (S l))) (hl : (ls.map (·.length)).sum + ls.length * sep.length ≤ 1000000) (h : Q (.str (S (joinL sep ls))) H) : mS X "str.join" (.str (S sep)) [.ref q] H Q := by
  have eK := c.K
  subst eK
  refine ⟨_, mt_join, S sep, q, ls.map S, rfl, rfl, .inl (by rw [List.map_map]; exact hq), ?_, by rw [glued_S]; exact h⟩
  have e : (ls.map S).map (·.length) = ls.map (·.length) := by rw [List.map_map]; exact List.map_congr_left fun x _ => S_len x
  rw [e, List.length_map, S_len]
  exact Nat.le_trans hl (by decide)
theorem pick_rev (z : List Nat) : (Builtin.Str.strSliceIndices none none (-1) (S z).length).filterMap ((S z).cps[·]?) = z.reverse := by
  have e1 : Builtin.Str.strSliceIndices none none (-1) (S z).length = sliceRange (((S z).length : Int) - 1) (-1) (-1) := rfl
  rw [e1, PySem.W.krv_sliceRange, S_len]
  have h := PySem.W.krv_all (S z).cps
  have h2 := PySem.W.krv_range z.length
  rw [S_size] at h
  rw [h2, List.filterMap_reverse, h]
  simp [S]
/-- e[::-1], a list or a text -/
def RevK (K : PySem.W.Frag) (H1 : Hp) (x : V) (Q : VK) : Prop := (∃ a xs, x = .ref a ∧ SqL K H1 a xs ∧ ∀ p, H1 p = none → Q (.ref p) (upd H1 p (.lst xs.reverse))) ∨ ∃ z : List Nat, x = .str (S z) ∧ z.length ≤ 1000000 ∧ Q (.str (S z.reverse)) H1
theorem e_revS {k : Nat} {p1 p2 p3 pos : Pos} (h : eS X e σ H fun x H1 => ∃ z : List Nat, x = .str (S z) ∧ z.length ≤ 1000000 ∧ Q (.str (S z.reverse)) H1) : eS X (.Subscript e (.Slice none none (some (.UnaryOp .USub (.Constant (.int 1) k p1) p2)) p3) pos) σ H Q := by
  refine ⟨fun σ H Q => eS X e σ H fun x H1 => ∃ z : List Nat, x = .str (S z) ∧ z.length ≤ 1000000 ∧ Q (.str (S z.reverse)) H1, ⟨fun pins s σ H Q I h => ?_⟩, h⟩
  refine Subscript_ (thn (eS_is.run pins s σ H _ I h) fun v s1 ⟨x, H1, I1, r1, z, ex, hz, q⟩ => ?_)
  subst ex
  obtain ⟨t, rfl⟩ := r1
  have hst : PO X (some (.UnaryOp .USub (.Constant (.int 1) k p1) p2)) (tPart (tUn (rU fun i => .int (-i)) (tC (.int 1)))) := po_some (pe_un un_neg pe_int)
  refine wpAny_Slice (thn (po_none.run pins s1 σ H1 (fun o H2 => o = none ∧ H2 = H1) I1 ⟨rfl, rfl⟩) fun vl s2 ⟨l, H2, I2, pl, el, e2⟩ => ?_)
  subst el e2
  refine thn (po_none.run pins s2 σ H2 (fun o H3 => o = none ∧ H3 = H2) I2 ⟨rfl, rfl⟩) fun vu s3 ⟨u, H3, I3, pu, eu, e3⟩ => ?_
  subst eu e3
  refine thn (hst.run pins s3 σ H3 (fun o H4 => o = some (-1) ∧ H4 = H3) I3 ⟨1, rfl, -1, rfl, rfl, rfl⟩) fun vs s4 ⟨o, H4, I4, ps, eo, e4⟩ => ?_
  subst eo e4
  have I5 : Inv X pins σ H4 { s4 with heap := s4.heap.push { cls := .type "slice", data := .fields #[vl, vu, vs] } } := I4.kept (t' := s4.toks) fun b ob q => Heap.get?_push_of_some _ q
  show wpAny (model X.prog X.w) X.A (subscriptTail e (.Slice none none (some (.UnaryOp .USub (.Constant (.int 1) k p1) p2)) p3) (.str (S z) t) (.ref s4.heap.objs.size)) (EP X pins σ Q) X.xe { s4 with heap := s4.heap.push { cls := .type "slice", data := .fields #[vl, vu, vs] } }
  refine tail_any (ops := [.ref s4.heap.objs.size, .str (S z) t]) (typeIs_str _ _ _) PySem.F.slot_str_getitem.lookup ?_ (by with_unfolding_all rfl)
  obtain ⟨l', rfl, hl'⟩ := IsPart.raw pl
  obtain ⟨u', rfl, hu'⟩ := IsPart.raw pu
  obtain ⟨s', rfl, hs'⟩ := IsPart.raw ps
  cases l' with
  | some a => cases hl'
  | none =>
    cases u' with
    | some a => cases hu'
    | none =>
      cases s' with
      | none => cases hs'
      | some a =>
        have ha : a.1 = -1 := Option.some.inj hs'
        refine wpAny_getItem_str_slice (l := none) (u := none) (st := some a) ⟨_, Heap.get?_push_size _ rfl, rfl, rfl⟩ (by show (a.1 == 0) = false; rw [ha]; rfl) ?_
        show Made.post (if (a.1 == 1 && (Builtin.Str.strSliceIndices none none a.1 (S z).length).length == (S z).length) = true then Made.val (.str (S z) t) else Made.str ⟨((Builtin.Str.strSliceIndices none none a.1 (S z).length).filterMap ((S z).cps[·]?)).toArray⟩) (EP X pins σ Q) _
        rw [ha, if_neg (by simp), pick_rev]
        refine ⟨?_, .str _, H4, I5.tok _, ⟨_, rfl⟩, q⟩
        show (S z.reverse).length ≤ sizeLine
        rw [S_len, List.length_reverse]
        exact sz_le hz
end
end Go

namespace Go
open PySem PySem.Spec PyProof.Rows L2

section
variable {G H : Hp} {C : List (Addr × HO)} {p : Addr} {o : HO} {a b : Addr × HO} {K : PySem.W.Frag} {xs : List V}
theorem Own.at2 (O : Own G (a :: (p, o) :: C) H) : H p = some o := (O.own _ (List.mem_cons_of_mem _ List.mem_cons_self)).1
theorem Own.at3 (O : Own G (a :: b :: (p, o) :: C) H) : H p = some o := (O.own _ (List.mem_cons_of_mem _ (List.mem_cons_of_mem _ List.mem_cons_self))).1
theorem same_sqt {G H : Hp} (s : Same G H) (h : SqT K G p xs) : SqT K H p xs := by
  rcases h with (h | ⟨o, h⟩) | h
  · exact .inl (.inl (s _ _ h))
  · exact .inl (.inr ⟨o, s _ _ h⟩)
  · exact .inr h
theorem k_b {k : Bool} {R : Bool → Prop} (h : R k) : ∃ k', V.bl k = .bl k' ∧ R k' := ⟨k, rfl, h⟩
theorem k_i {i : Int} {R : Int → Prop} (h : R i) : ∃ i', V.int i = .int i' ∧ R i' := ⟨i, rfl, h⟩
theorem k_s {z : List Nat} {R : Prop} (h : R) : (∃ z', V.str (S z) = .str z') ∧ R := ⟨⟨_, rfl⟩, h⟩
/-- an item of a list is changed -/
inductive SetV : List V → Nat → V → List V → Prop
  | here {x v : V} {s : List V} : SetV (x :: s) 0 v (v :: s)
  | there {x v : V} {i : Nat} {s s' : List V} : SetV s i v s' → SetV (x :: s) (i + 1) v (x :: s')
theorem SetV.eq : ∀ {s s' : List V} {i : Nat} {v : V}, SetV s i v s' → s.set i v = s'
  | _, _, _, _, .here => rfl
  | _, _, _, _, .there h => by rw [List.set_cons_succ, h.eq]
theorem p_cell {X : Cx} {ys : List V} {i : Int} {v : V} {R : Hp → Prop} {m : Nat} (O : Own G ((p, .lst xs) :: C) H) (hm : ixN xs.length i = some m) (hs : SetV xs m v ys) (h : ∀ H', Own G ((p, .lst ys) :: C) H' → R H') : pS X (.ref p) (.int i) v H R :=
  p_lst O.at hm (by rw [hs.eq]; exact h _ O.write)
theorem p_cell0 {X : Cx} {x v : V} {R : Hp → Prop} (O : Own G ((p, .lst (x :: xs)) :: C) H) (h : ∀ H', Own G ((p, .lst (v :: xs)) :: C) H' → R H') : pS X (.ref p) (.int 0) v H R :=
  p_cell O (m := 0) (by simp [ixN]) .here h
theorem p_cell1 {X : Cx} {x y v : V} {R : Hp → Prop} (O : Own G ((p, .lst (x :: y :: xs)) :: C) H) (h : ∀ H', Own G ((p, .lst (x :: v :: xs)) :: C) H' → R H') : pS X (.ref p) (.int 1) v H R :=
  p_cell O (m := 1) (by simp [ixN]; omega) (.there .here) h
theorem gp_up {G0 : Hp} (s : Same G0 G) (h : G0 p = some o) : G p = some o := s _ _ h
theorem hp_up (O : Own G C H) (h : G p = some o) : H p = some o := O.same _ _ h
theorem sql_up (O : Own G C H) (h : SqL K G p xs) : SqL K H p xs := O.same.seq h
theorem sqt_up (O : Own G C H) (h : SqT K G p xs) : SqT K H p xs := same_sqt O.same h
theorem i_not {k : Bool} {A B : Prop} (h : if k = true then B else A) : if (!k) = true then A else B := by cases k <;> exact h
theorem i_cases {k : Bool} {A B : Prop} (h1 : k = true → A) (h2 : k = false → B) : if k = true then A else B := by
  cases k
  · exact h2 rfl
  · exact h1 rfl
end
def startL : List Str → List V → L2.St
  | [], _ => []
  | _ :: N, [] => none :: startL N []
  | _ :: N, v :: vs => some v :: startL N vs
theorem startL_eq : ∀ (N : List Str) (vs : List V), vs.length ≤ N.length → start N vs = startL N vs
  | [], [], _ => rfl
  | [], _ :: _, h => by simp at h
  | _ :: N, [], _ => by
    have e := startL_eq N [] (Nat.zero_le _)
    show [] ++ List.replicate (N.length + 1) none = none :: startL N []
    rw [← e]
    simp [L2.start, List.replicate_succ]
  | _ :: N, v :: vs, h => by
    have e := startL_eq N vs (by simpa using h)
    show some v :: (vs.map some ++ List.replicate (N.length + 1 - (vs.length + 1)) none) = some v :: startL N vs
    rw [← e, Nat.add_sub_add_right]
    rfl

/-- a def of the module -/
def Df (K : PySem.W.Frag) (mg : Str → Option Value) (x : Str) (st : Stmt) (ps : List Str) : Prop := ∃ (f : Addr) (fd : FuncData), Fun K x x st f fd ∧ mg x = some (.ref f) ∧ Binds K fd ps [] ∧ ∀ (s : Shared) (us : List Value), us.length = ps.length → BindsTo s fd ⟨us, []⟩ (ps.zip us)
theorem df_mk {K : PySem.W.Frag} {h : Heap} {mg : Str → Option Value} {f : Addr} {x : Str} {st : Stmt} {ps : List Str} {od an : Option Addr} {sl : Array (Option Value)} {oc kV dc pm cd ct : Value} (X : K.In h) (G : h.Ns mainGlobals mg)
    (a : PySem.W.nsIn K mainGlobals x = some (some (.ref f))) (l : K.lookup f = some ⟨oc, od, .func (PySem.W.fnOf x x (defArgs st) (defBody st) (defScope st) .none kV dc pm an cd ct), sl⟩) (c : PySem.W.codeIn K cd x = true) (k : PySem.W.keepIn K (.ref f) = true)
    (b : ∀ (kV doc pm : Value) (an : Option Addr) (cdv ct : Value) (us : List Value), us.length = ps.length → bindArgs (PySem.W.fnOf x x (defArgs st) (defBody st) (defScope st) .none kV doc pm an cdv ct) ⟨us, []⟩ = pure (ps.zip us)) : Df K mg x st ps :=
  ⟨f, _, fun_mk l c k, PySem.W.mg_of X G a, (fun_mk l c k).binds b, fun s us hu => .of_eq (b _ _ _ _ _ _ us hu)⟩

section
variable {P : Program} {w : World} {K : PySem.W.Frag} {mg : Str → Option Value} {base : Heap} {N : List Str}
theorem into {x : Str} {st : Stmt} {f : Addr} {fd : FuncData} {ps : List Str} {sp : Sp} {k : Nat} (F : Fun K x x st f fd) {nm : List (Str × NameKind)} (S : FnScope N ps (defScope st)) (hnm : (defScope st).names = nm) (len : ∀ vs H Q E, sp vs H Q E → vs.length = ps.length) (hl : ps.length ≤ N.length)
    (body : ∀ (X : Cx) (H : Hp) (vs : List V) (Q : VK) (E : XK), CI X P w K mg base N nm k → sp vs H Q E → bS X (defBody st) { nx := fun _ H' => Q .non H', rt := Q } (startL N vs) H) : FnOk P w K mg base CX0 (k + 1) f fd ps sp :=
  enter F S hnm len fun X H vs Q E c h => by
    rw [startL_eq N vs (by rw [len vs H Q E h]; exact hl)]
    exact body X H vs Q E c h
theorem cal_of {x : Str} {st : Stmt} {ps : List Str} {sp : Sp} {k : Nat} (D : Df K mg x st ps) (h : ∀ {f : Addr} {fd : FuncData}, Fun K x x st f fd → FnOk P w K mg base CX0 k f fd ps sp) : Cal P w K mg base k x sp := by
  obtain ⟨f, fd, F, m, b, _⟩ := D
  exact ⟨f, fd, ps, h F, m, F.kp, b⟩
theorem law_fn {x : Str} {st : Stmt} {y : Str} {sp : Sp} {k : Nat} {fa : Addr} (D : Df K mg x st [y]) (hf : mg x = some (.ref fa)) (h : ∀ {base : Heap} {f : Addr} {fd : FuncData}, Fun K x x st f fd → FnOk P w K mg base CX0 k f fd [y] sp) :
    ∃ fd : FuncData, (∀ (s : Shared) (u : Value), BindsTo s fd ⟨[u], []⟩ [(y, u)]) ∧ ∀ base : Heap, K.In base → base.Ns mainGlobals mg → FnOk P w K mg base CX0 k fa fd [y] sp := by
  obtain ⟨f, fd, F, m, b, b2⟩ := D
  rw [m] at hf
  cases hf
  exact ⟨fd, fun s u => b2 s [u] rfl, fun base _ _ => h F⟩
end
end Go

namespace Go
open PySem PySem.Spec PyProof.Rows L2

theorem dp_ints {K : PySem.W.Frag} {H : Hp} : ∀ ns : List Int, DpAll K H (ns.map V.int) (ns.map PyData.int)
  | [] => .nil
  | n :: ns => .cons (.int n) (dp_ints ns)
theorem eqv_ints : ∀ ns ms : List Int, PyData.eqvAll (ns.map PyData.int) (ms.map PyData.int) = decide (ns = ms)
  | [], [] => by simp [PyData.eqvAll]
  | [], _ :: _ => by simp [PyData.eqvAll]
  | _ :: _, [] => by simp [PyData.eqvAll]
  | n :: ns, m :: ms => by
    show (PyData.eqv (.int n) (.int m) && PyData.eqvAll (ns.map PyData.int) (ms.map PyData.int)) = _
    rw [eqv_ints ns ms]
    show ((n == m) && decide (ns = ms)) = _
    by_cases h1 : n = m <;> by_cases h2 : ns = ms <;> simp [h1, h2]
section
variable {X : Cx} {P : Program} {w : World} {K : PySem.W.Frag} {mg : Str → Option Value} {base : Heap} {N : List Str} {nm : List (Str × NameKind)} {j : Nat} {σ σ' : L2.St} {H G : Hp} {Q : VK}
theorem o_eqLI (c : CI X P w K mg base N nm j) {p q : Addr} {ns ms : List Int} (hp : SqL K H p (ns.map V.int)) (hq : SqL K H q (ms.map V.int)) (h : Q (.bl (decide (ns = ms))) H) : oS X (compareOp .Eq) (.ref p) (.ref q) H Q :=
  o_eqD c (.lst hp (dp_ints ns)) (.lst hq (dp_ints ms)) (PySem.W.ke_shaped_ints ns) (PySem.W.ke_shaped_ints ms) (by
    show Q (.bl (PyData.eqvAll (ns.map PyData.int) (ms.map PyData.int))) H
    rw [eqv_ints]; exact h)
theorem o_neLI (c : CI X P w K mg base N nm j) {p q : Addr} {ns ms : List Int} (hp : SqL K H p (ns.map V.int)) (hq : SqL K H q (ms.map V.int)) (h : Q (.bl (!decide (ns = ms))) H) : oS X (compareOp .NotEq) (.ref p) (.ref q) H Q :=
  o_neD c (.lst hp (dp_ints ns)) (.lst hq (dp_ints ms)) (PySem.W.ke_shaped_ints ns) (PySem.W.ke_shaped_ints ms) (by
    show Q (.bl (!PyData.eqvAll (ns.map PyData.int) (ms.map PyData.int))) H
    rw [eqv_ints]; exact h)
theorem cut_to {α : Type} (z : List α) (n : Int) (h : 0 ≤ n) : cut z none (some n) = z.take n.toNat := by
  unfold cut
  obtain ⟨k, rfl⟩ := Int.eq_ofNat_of_zero_le h
  rw [HT.sIx_none, HT.sIx_nat]
  simp only [List.drop_zero, Nat.sub_zero, Int.toNat_natCast]
  rcases Nat.le_total k z.length with h | h
  · rw [Nat.min_eq_left h]
  · rw [Nat.min_eq_right h, List.take_of_length_le (Nat.le_refl _), List.take_of_length_le h]
theorem cut_from {α : Type} (z : List α) (n : Int) (h : 0 ≤ n) : cut z (some n) none = z.drop n.toNat := by
  unfold cut
  obtain ⟨k, rfl⟩ := Int.eq_ofNat_of_zero_le h
  rw [HT.sIx_none, HT.sIx_nat]
  rcases Nat.le_total k z.length with h | h
  · rw [Nat.min_eq_left h, Int.toNat_natCast, List.take_of_length_le (by rw [List.length_drop]; exact Nat.le_refl _)]
  · rw [Nat.min_eq_right h, Int.toNat_natCast, List.drop_of_length_le (Nat.le_refl _), List.drop_of_length_le h]; simp
theorem map_cut {α β : Type} (f : α → β) (z : List α) (lo hi : Option Int) : cut (z.map f) lo hi = (cut z lo hi).map f := by
  unfold cut
  rw [List.length_map, List.map_take, List.map_drop]
end
end Go

namespace Go
open PySem PySem.Spec PyProof.Rows L2

/-- a hand: two numbers -/
def HandO (o : HO) : Prop := ∃ d m : Int, o = .lst [.int d, .int m] ∧ 0 ≤ d ∧ 0 ≤ m ∧ m < 2147483587
theorem abc_at (i : Int) (h0 : 0 ≤ i) (h1 : i < 26) : atI (cs "abcdefghijklmnopqrstuvwxyz") i = some (97 + i.toNat) := by
  obtain ⟨k, rfl⟩ := Int.eq_ofNat_of_zero_le h0
  have h : ∀ k : Fin 26, atI (cs "abcdefghijklmnopqrstuvwxyz") (k.val : Int) = some (97 + k.val) := by decide +kernel
  exact h ⟨k, by omega⟩
theorem Own.frz {G H : Hp} {C : List (Addr × HO)} {p : Addr} {o : HO} (O : Own G ((p, o) :: C) H) : ∃ G', Same G G' ∧ G' p = some o ∧ Own G' C H := ⟨_, O.freeze.2, upd_same, O.freeze.1⟩
theorem atI_get {α : Type} {z : List α} {i : Nat} {v : α} (e : z[i]? = some v) : atI z (i : Int) = some v := by
  have hi : i < z.length := (List.getElem?_eq_some_iff.mp e).1
  unfold atI ixN
  rw [if_pos (by omega), if_pos (by omega)]
  simpa using e
theorem atI_drop {α : Type} {z r : List α} {i : Nat} {v : α} (h : z.drop i = v :: r) : atI z (i : Int) = some v := by
  have e : z[i]? = some v := by
    have := congrArg (fun l : List α => l[0]?) h
    simpa using this
  have hi : i < z.length := (List.getElem?_eq_some_iff.mp e).1
  unfold atI ixN
  rw [if_pos (by omega), if_pos (by omega)]
  simpa using e
theorem drop_succ {α : Type} {z r : List α} {i : Nat} {v : α} (h : z.drop i = v :: r) : z.drop (i + 1) = r := by
  rw [← List.drop_drop, h]; rfl
theorem same_rfl {G : Hp} : Same G G := fun _ _ e => e
theorem same_tr {A B C : Hp} (h : Same A B) (s : Same B C) : Same A C := fun _ _ e => s _ _ (h _ _ e)
section
variable {X : Cx} {P : Program} {w : World} {K : PySem.W.Frag} {mg : Str → Option Value} {base : Heap} {N : List Str} {nm : List (Str × NameKind)} {j : Nat} {σ σ' : L2.St} {H G : Hp} {Q : VK} {D : Ends} {pos p : Pos} {C : List (Addr × HO)} {scope : Scope} {elt tg : Expr} {ifs : List Expr}
theorem bS_join {sts : List Stmt} (Iv : L2.St → Hp → Prop) (h : bS X sts { D with nx := Iv } σ H) (k : ∀ σ' H', Iv σ' H' → D.nx σ' H') : bS X sts D σ H := by
  obtain ⟨t, p, h⟩ := h
  exact ⟨fun D' σ H => ∃ Iv, t { D' with nx := Iv } σ H ∧ ∀ σ' H', Iv σ' H' → D'.nx σ' H', ⟨fun pins s σ H D' I ⟨Iv, h, m⟩ => thn (p.run pins s σ H _ I h) fun f s' q => by
    cases f with
    | next =>
      obtain ⟨σ', H', I', q⟩ := q
      exact ⟨σ', H', I', m _ _ q⟩
    | _ => exact q⟩, Iv, h, k⟩
/-- a branch whose ends meet -/
theorem i_join {q : Bool} {a b : List Stmt} (Iv : L2.St → Hp → Prop) (h1 : q = true → bS X a { D with nx := Iv } σ H) (h2 : q = false → bS X b { D with nx := Iv } σ H) (k : ∀ σ' H', Iv σ' H' → D.nx σ' H') : if q = true then bS X a D σ H else bS X b D σ H := by
  cases q with
  | true => exact bS_join Iv (h1 rfl) k
  | false => exact bS_join Iv (h2 rfl) k
theorem i_joinD {q : Prop} [Decidable q] {a b : List Stmt} (Iv : L2.St → Hp → Prop) (h1 : q → bS X a { D with nx := Iv } σ H) (h2 : ¬ q → bS X b { D with nx := Iv } σ H) (k : ∀ σ' H', Iv σ' H' → D.nx σ' H') : if decide q = true then bS X a D σ H else bS X b D σ H :=
  i_join Iv (fun e => h1 (of_decide_eq_true e)) (fun e => h2 (of_decide_eq_false e)) k
theorem e_join {q : Bool} {a b : Expr} (Iv : VK) (h1 : q = true → eS X a σ H Iv) (h2 : q = false → eS X b σ H Iv) (k : ∀ v H', Iv v H' → Q v H') : if q = true then eS X a σ H Q else eS X b σ H Q := by
  cases q with
  | true => exact eS_mono (h1 rfl) k
  | false => exact eS_mono (h2 rfl) k
theorem Own.swap2 {a b e : Addr × HO} (O : Own G (a :: b :: e :: C) H) : Own G (a :: e :: b :: C) H :=
  ⟨O.same, fun q hq => O.own q (by simp only [List.mem_cons] at hq ⊢; rcases hq with h | h | h | h <;> simp [h]), by
    have n := O.nd
    simp only [List.map_cons, List.nodup_cons, List.mem_cons, not_or] at n ⊢
    exact ⟨⟨n.1.2.1, n.1.1, n.1.2.2⟩, ⟨fun e => n.2.1.1 e.symm, n.2.2.1⟩, n.2.1.2, n.2.2.2⟩⟩
theorem s_while (c : CI X P w K mg base N nm j) {t : Expr} {body : List Stmt} (W : Nat → L2.St → Hp → Prop) (m : Nat) (h0 : W m σ H)
    (h : ∀ m σ H, W m σ H → qS X t σ H fun b H1 => if b = true then bS X body { D with nx := fun σ' H' => ∃ m', m' < m ∧ W m' σ' H', ct := fun σ' H' => ∃ m', m' < m ∧ W m' σ' H', bk := D.nx } σ H1 else D.nx σ H1) : sS X (.While t body [] pos) D σ H :=
  ⟨_, ps_while c.pass qS_is bS_is, W, ⟨m, h0⟩, fun m σ H v => qS_mono (h m σ H v) fun b H1 q => by
    cases b with
    | true => exact ⟨_, fun _ _ z => z, q⟩
    | false => exact q⟩
theorem e_lc1 (c : CI X P w K mg base N nm j) {y : Str} {i : Nat} {iter : Expr} (hi : Ix N y i) (ok : blkC N (scOf nm) scope [(y, i)] = true) (hs : ∀ x, foldedSetIterable iter X.env x = pure x) (h : iS X (.Name y p) iter σ H fun J H1 => LcOn X scope (.Name y p) ifs elt [i] (fun D H => Q (.ref D) H) J σ H1) : eS X (.ListComp elt [⟨.Name y p, iter, ifs, 0⟩] scope pos) σ H Q :=
  e_lc c [(y, i)] (blkOk_by ok) hs h
theorem s_setLc1 (c : CI X P w K mg base N nm j) {y z : Str} {i k : Nat} {p2 spos : Pos} {iter : Expr} (hz : Ix N z k) (hzl : nm.lookup z = some NameKind.local) (hline : (p2.line == pos.line) = true) (ha : (scope.names.any fun (n, k) => n == z && (k == .local || k == .cell)) = false) (hi : Ix N y i) (ok : blkC N (scOf nm) scope [(y, i)] = true) (hs : ∀ x, foldedSetIterable iter X.env x = pure x)
    (h : iS X (.Name y p) iter σ H fun J H1 => LcOn X scope (.Name y p) ifs elt [i] (fun q H => D.nx (σ.set k (some (.ref q))) H) J σ H1) : sS X (.Assign [.Name z p2] (.ListComp elt [⟨.Name y p, iter, ifs, 0⟩] scope pos) spos) D σ H :=
  s_setLc c [(y, i)] hz hzl (sw_true c.kind (c.lo _ hzl) hline ha) (blkOk_by ok) hs h
theorem k_r {i : Int} {R : Int → Prop} (h1 : -(2 ^ 62) ≤ i) (h2 : i < 2 ^ 62) (h : R i) : ∃ n : Int, V.int i = .int n ∧ -(2 ^ 62) ≤ n ∧ n < 2 ^ 62 ∧ R n := ⟨i, rfl, h1, h2, h⟩
theorem i_listK (c : CI X P w K mg base N nm j) {e : Expr} {R : It → Hp → Prop} (h : eS X e σ H fun x H1 => ∃ p xs, x = .ref p ∧ SqL K H1 p xs ∧ R (Itl X.K p) H1) : iS X tg e σ H R := by
  have e := c.K
  subst e
  exact i_list h
theorem i_tupK (c : CI X P w K mg base N nm j) {e : Expr} {R : It → Hp → Prop} (h : eS X e σ H fun x H1 => ∃ p xs, x = .ref p ∧ SqT K H1 p xs ∧ R (Itt X.K p) H1) : iS X tg e σ H R := by
  have e := c.K
  subst e
  exact i_tup h
theorem m_joinC (c : CI X P w K mg base N nm j) {zs : List Nat} {q : Addr} (hq : SqL K H q (zs.map fun x => V.str (S [x]))) (hl : zs.length ≤ 1000000) (h : Q (.str (S zs)) H) : mS X "str.join" (.str (S (cs ""))) [.ref q] H Q := by
  have e : ∀ zs : List Nat, (zs.map fun x => [x]).flatten = zs ∧ (zs.map fun _ => 1).sum = zs.length := fun zs => by
    induction zs with
    | nil => exact ⟨rfl, rfl⟩
    | cons x zs ih => exact ⟨by rw [List.map_cons, List.flatten_cons, ih.1]; rfl, by rw [List.map_cons, List.sum_cons, ih.2, List.length_cons]; omega⟩
  refine m_join c (ls := zs.map fun x => [x]) (by rw [List.map_map]; exact hq) ?_ (by rw [show joinL (cs "") (zs.map fun x => [x]) = zs from (joinL_nil _).trans (e zs).1]; exact h)
  rw [List.map_map, show ((fun l : List Nat => l.length) ∘ fun x => [x]) = fun _ => 1 from rfl, (e zs).2]
  show _ + _ * 0 ≤ _
  omega
theorem rep_len {α : Type} (n : Nat) (z : List α) : (List.replicate n z).flatten.length = n * z.length := by
  induction n with
  | zero => simp
  | succ n ih => rw [List.replicate_succ, List.flatten_cons, List.length_append, ih, Nat.succ_mul]; omega
theorem rep_mem {α : Type} {n : Nat} {z : List α} {x : α} (h : x ∈ (List.replicate n z).flatten) : x ∈ z := by
  obtain ⟨l, hl, hx⟩ := List.mem_flatten.mp h
  rw [(List.mem_replicate.mp hl).2] at hx
  exact hx
theorem o_repT {z : List Nat} {n : Int} (h1 : 0 ≤ n) (h2 : z.length ≤ 1000) (h3 : n ≤ 1000) (h : (List.replicate n.toNat z).flatten.length = n.toNat * z.length → n.toNat * z.length ≤ 1000000 → Q (.str (S (List.replicate n.toNat z).flatten)) H) : oS X (binaryOp .Mult) (.str (S z)) (.int n) H Q := by
  have e : n.toNat * z.length ≤ 1000 * 1000 := Nat.mul_le_mul (by omega) h2
  exact o_repS h1 (by rw [Nat.mul_comm]; omega) (by omega) (h (rep_len _ _) (by omega))
theorem c_int0 (h : Q (.int 0) H) : cS X (.type "int") [.str (S [48])] H Q := c_intS (by decide +kernel) (by decide) h
theorem c_int1 (h : Q (.int 1) H) : cS X (.type "int") [.str (S [49])] H Q := c_intS (by decide +kernel) (by decide) h
theorem c_str0 (h : Q (.str (S [48])) H) : cS X (.type "str") [.int 0] H Q := by
  have e : cs (toString (0 : Int) : String) = [48] := by decide +kernel
  exact c_strI (by decide) (by rw [e]; exact h)
theorem c_str1 (h : Q (.str (S [49])) H) : cS X (.type "str") [.int 1] H Q := by
  have e : cs (toString (1 : Int) : String) = [49] := by decide +kernel
  exact c_strI (by decide +kernel) (by rw [e]; exact h)
theorem p_cell02 {C : List (Addr × HO)} {q : Addr × HO} {x v : V} {xs : List V} {p : Addr} {R : Hp → Prop} (O : Own G (q :: (p, .lst (x :: xs)) :: C) H) (h : ∀ H', Own G (q :: (p, .lst (v :: xs)) :: C) H' → R H') : pS X (.ref p) (.int 0) v H R :=
  p_cell0 O.swap fun H' O' => h H' O'.swap
theorem p_cell12 {C : List (Addr × HO)} {q : Addr × HO} {x y v : V} {xs : List V} {p : Addr} {R : Hp → Prop} (O : Own G (q :: (p, .lst (x :: y :: xs)) :: C) H) (h : ∀ H', Own G (q :: (p, .lst (x :: v :: xs)) :: C) H' → R H') : pS X (.ref p) (.int 1) v H R :=
  p_cell1 O.swap fun H' O' => h H' O'.swap
theorem m_popR {C : List (Addr × HO)} {f : Nat → V} {x : Nat} {r : List Nat} {p : Addr} (O : Own G ((p, .lst (((x :: r).map f).reverse)) :: C) H) (h : ∀ H', Own G ((p, .lst ((r.map f).reverse)) :: C) H' → Q (f x) H') : mS X "list.pop" (.ref p) [] H Q := by
  refine m_pop (y := f x) O.at ?_ ?_
  · simp
  · have e : (((x :: r).map f).reverse).dropLast = (r.map f).reverse := by simp
    rw [e]
    exact h _ O.write
theorem c_isi (c : CI X P w K mg base N nm j) {x : V} {T n : String} {b : Bool} (t : TyX K H x (.type T)) (e : PySem.W.kitOne K (.type T) (.type n) = some b) (h : Q (.bl b) H) : cS X (.builtin "isinstance") [x, .ty n] H Q := by
  have eK := c.K
  subst eK
  exact ⟨_, call_isi, x, .ty n, _, _, b, rfl, .ty n, t, e, h⟩
theorem c_isS (c : CI X P w K mg base N nm j) {z : Str} (h : Q (.bl true) H) : cS X (.builtin "isinstance") [.str z, .ty "str"] H Q := c_isi c (.base (.str z)) rfl h
/-- a branch of an and, whose ends meet -/
theorem ea_join {q : Bool} {e : Expr} {v0 : V} (Iv : VK) (h1 : q = true → eS X e σ H Iv) (h2 : q = false → Iv v0 H) (k : ∀ v H', Iv v H' → Q v H') : if q = true then eS X e σ H Q else Q v0 H := by
  cases q with
  | true => exact eS_mono (h1 rfl) k
  | false => exact k _ _ (h2 rfl)
theorem on_listK (c : CI X P w K mg base N nm j) {body : List Stmt} {q : Addr} {xs : List V} (Pv : Nat → L2.St → Hp → Prop) (h0 : Pv 0 σ H) (hl : ∀ i σ H, i ≤ xs.length → Pv i σ H → SqL K H q xs) (hs : ∀ i x σ H, xs[i]? = some x → Pv i σ H → gS X tg x σ H fun σ2 H2 => bS X body { D with nx := Pv (i + 1), ct := Pv (i + 1), bk := D.nx } σ2 H2) (hd : ∀ σ H, Pv xs.length σ H → D.nx σ H) : ForOn X tg body D (Itl X.K q) σ H := by
  have eK := c.K
  subst eK
  exact on_list Pv h0 hl hs hd
theorem on_tupK (c : CI X P w K mg base N nm j) {body : List Stmt} {q : Addr} {xs : List V} (Pv : Nat → L2.St → Hp → Prop) (h0 : Pv 0 σ H) (hl : ∀ i σ H, i ≤ xs.length → Pv i σ H → SqT K H q xs) (hs : ∀ i x σ H, xs[i]? = some x → Pv i σ H → gS X tg x σ H fun σ2 H2 => bS X body { D with nx := Pv (i + 1), ct := Pv (i + 1), bk := D.nx } σ2 H2) (hd : ∀ σ H, Pv xs.length σ H → D.nx σ H) : ForOn X tg body D (Itt X.K q) σ H := by
  have eK := c.K
  subst eK
  exact on_tup Pv h0 hl hs hd
theorem rep_one (n c : Nat) : (List.replicate n [c]).flatten = List.replicate n c := by
  induction n with
  | zero => rfl
  | succ n ih => rw [List.replicate_succ, List.flatten_cons, ih]; rfl
theorem o_rep0 {n : Nat} (hn : n ≤ 1000) (h : Q (.str (S (List.replicate n 48))) H) : oS X (binaryOp .Mult) (.str (S (cs "0"))) (.int (n : Nat)) H Q :=
  o_repT (by omega) (by decide) (by omega) fun _ _ => by
    rw [show cs "0" = [48] by decide +kernel, Int.toNat_natCast, rep_one]; exact h
theorem o_rep1 {n : Nat} (hn : n ≤ 1000) (h : Q (.str (S (List.replicate n 49))) H) : oS X (binaryOp .Mult) (.str (S (cs "1"))) (.int (n : Nat)) H Q :=
  o_repT (by omega) (by decide) (by omega) fun _ _ => by
    rw [show cs "1" = [49] by decide +kernel, Int.toNat_natCast, rep_one]; exact h
def ixB : Expr → Bool
  | .Slice .. => false
  | _ => true
theorem e_ix {a b : Expr} (hn : ixB b = true) (hs : PlainIx b) (h : eS X a σ H fun x H1 => eS X b σ H1 fun y H2 => xS X x y H2 Q) : eS X (.Subscript a b pos) σ H Q := g_ix hs h
theorem gs_put {i : Nat} {v : V} {es : List Expr} {vs : List V} {R : L2.St → Hp → Prop} (h : Put σ i v σ') (k : gsS X es vs σ' H R) : gsS X es vs (σ.set i (some v)) H R := by rw [h.eq]; exact k
theorem e_put {i : Nat} {v : V} {e : Expr} (h : Put σ i v σ') (k : eS X e σ' H Q) : eS X e (σ.set i (some v)) H Q := by rw [h.eq]; exact k
/-- a comprehension that may write its own cells: Inv by the turn, the list so far, what is frozen, what is owned -/
theorem lr_own {y : Str} {i n : Nat} {Gw : Hp → Prop} {Y : Nat → Hp → V → Hp → Prop} {J : It} {Qd : Addr → Hp → Prop} (Inv : Nat → List V → Hp → List (Addr × HO) → Prop) (c : CI X P w K mg base N nm j) (hi : Ix N y i) (hl : locB scope.names y = true) (hk : scope.kind = .function) (W : Walk J n Gw Y) (hn : n ≤ 1000000) (O : Own G C H) (h0 : Inv 0 [] G C)
    (hG : ∀ G' C' H', Same G G' → Own G' C' H' → Gw H') (hY : ∀ m H x H', Y m H x H' → H' = H)
    (hs : ∀ m x acc G' C' A H', m < n → Inv m acc G' C' → Y m H' x H' → Own G' ((A, .lst acc) :: C') H' → Same G G' → ∀ X', CI X' P w K mg base N scope.names j → eS X' elt (σ.set i (some x)) H' fun y H4 => ∃ G4 C4, Own G4 ((A, .lst acc) :: C4) H4 ∧ Same G' G4 ∧ Inv (m + 1) (acc ++ [y]) G4 C4)
    (hd : ∀ acc G' C' A H', acc.length = n → Inv n acc G' C' → Own G' ((A, .lst acc) :: C') H' → Same G G' → Qd A H') : LcOn X scope (.Name y p) [] elt [i] Qd J σ H := by
  refine lc_name c hi hl hk W fun A hA => ⟨fun m H => ∃ acc G' C', acc.length = m ∧ Inv m acc G' C' ∧ Own G' ((A, .lst acc) :: C') H ∧ Same G G', ⟨[], G, C, rfl, h0, O.cell hA, same_rfl⟩, ?_, ?_, ?_⟩
  · rintro m H' hm ⟨acc, G', C', _, _, O', s⟩
    exact hG _ _ _ s O'
  · rintro m x H1 H2 hm ⟨acc, G', C', hl, iv, O', s⟩ hy X' _ _
    refine ts_nil ?_
    rw [if_pos rfl]
    intro X2 _ c2
    have e := hY _ _ _ _ hy
    subst e
    refine eS_mono (hs m x acc G' C' A H2 hm iv hy O' s X2 c2) fun y H4 ⟨G4, C4, O4, s4, iv4⟩ => ?_
    exact ⟨acc, O4.at, sz_lt (by omega), acc ++ [y], G4, C4, by simp [hl], iv4, O4.write, same_tr s s4⟩
  · rintro H' ⟨acc, G', C', hl, iv, O', s⟩
    exact hd _ _ _ _ _ hl iv O' s
section
variable {y : Str} {i : Nat} {Qd : Addr → Hp → Prop} (Inv : Nat → List V → Hp → List (Addr × HO) → Prop) (c : CI X P w K mg base N nm j) (hi : Ix N y i) (hl : locB scope.names y = true) (hk : scope.kind = .function)
include c hi hl hk
theorem lr_range {lo : Int} {n : Nat} (hn : n ≤ 1000000) (O : Own G C H) (h0 : Inv 0 [] G C)
    (hs : ∀ m acc G' C' A H', m < n → Inv m acc G' C' → Own G' ((A, .lst acc) :: C') H' → Same G G' → ∀ X', CI X' P w K mg base N scope.names j → eS X' elt (σ.set i (some (.int (lo + m)))) H' fun y H4 => ∃ G4 C4, Own G4 ((A, .lst acc) :: C4) H4 ∧ Same G' G4 ∧ Inv (m + 1) (acc ++ [y]) G4 C4)
    (hd : ∀ acc G' C' A H', acc.length = n → Inv n acc G' C' → Own G' ((A, .lst acc) :: C') H' → Same G G' → Qd A H') : LcOn X scope (.Name y p) [] elt [i] Qd (Itr lo n) σ H :=
  lr_own Inv c hi hl hk walk_range hn O h0 (fun _ _ _ _ _ => True.intro) (fun _ _ _ _ h => h.1) (fun m x acc G' C' A H' hm iv hy O' s X' c' => by
    obtain ⟨_, rfl⟩ := hy
    exact hs m acc G' C' A H' hm iv O' s X' c') hd
theorem lr_str {z : List Nat} (hn : z.length ≤ 1000000) (O : Own G C H) (h0 : Inv 0 [] G C)
    (hs : ∀ m ch acc G' C' A H', z[m]? = some ch → Inv m acc G' C' → Own G' ((A, .lst acc) :: C') H' → Same G G' → ∀ X', CI X' P w K mg base N scope.names j → eS X' elt (σ.set i (some (.str (S [ch])))) H' fun y H4 => ∃ G4 C4, Own G4 ((A, .lst acc) :: C4) H4 ∧ Same G' G4 ∧ Inv (m + 1) (acc ++ [y]) G4 C4)
    (hd : ∀ acc G' C' A H', acc.length = z.length → Inv z.length acc G' C' → Own G' ((A, .lst acc) :: C') H' → Same G G' → Qd A H') : LcOn X scope (.Name y p) [] elt [i] Qd (Its (S z)) σ H := by
  have e : (S z).cps.size = z.length := by simp [S]
  refine lr_own Inv c hi hl hk walk_str (by rw [e]; exact hn) O h0 (fun _ _ _ _ _ => True.intro) (fun _ _ _ _ h => h.1) (fun m x acc G' C' A H' hm iv hy O' s X' c' => ?_) (fun acc G' C' A H' h1 h2 => hd acc G' C' A H' (by rw [h1, e]) (by rw [← e]; exact h2))
  obtain ⟨_, ch, hc, rfl⟩ := hy
  exact hs m ch acc G' C' A H' (by simpa [S] using hc) iv O' s X' c'
theorem lr_list {a : Addr} {xs : List V} (hq : SqL K G a xs) (hn : xs.length ≤ 1000000) (O : Own G C H) (h0 : Inv 0 [] G C)
    (hs : ∀ m x acc G' C' A H', xs[m]? = some x → Inv m acc G' C' → Own G' ((A, .lst acc) :: C') H' → Same G G' → ∀ X', CI X' P w K mg base N scope.names j → eS X' elt (σ.set i (some x)) H' fun y H4 => ∃ G4 C4, Own G4 ((A, .lst acc) :: C4) H4 ∧ Same G' G4 ∧ Inv (m + 1) (acc ++ [y]) G4 C4)
    (hd : ∀ acc G' C' A H', acc.length = xs.length → Inv xs.length acc G' C' → Own G' ((A, .lst acc) :: C') H' → Same G G' → Qd A H') : LcOn X scope (.Name y p) [] elt [i] Qd (Itl X.K a) σ H := by
  rw [c.K]
  exact lr_own Inv c hi hl hk (walk_list (xs := xs)) hn O h0 (fun G' C' H' s O' => sql_up O' (s.seq hq)) (fun _ _ _ _ h => h.1) (fun m x acc G' C' A H' hm iv hy O' s X' c' => hs m x acc G' C' A H' hy.2 iv O' s X' c') hd
theorem lr_tup {a : Addr} {xs : List V} (hq : SqT K G a xs) (hn : xs.length ≤ 1000000) (O : Own G C H) (h0 : Inv 0 [] G C)
    (hs : ∀ m x acc G' C' A H', xs[m]? = some x → Inv m acc G' C' → Own G' ((A, .lst acc) :: C') H' → Same G G' → ∀ X', CI X' P w K mg base N scope.names j → eS X' elt (σ.set i (some x)) H' fun y H4 => ∃ G4 C4, Own G4 ((A, .lst acc) :: C4) H4 ∧ Same G' G4 ∧ Inv (m + 1) (acc ++ [y]) G4 C4)
    (hd : ∀ acc G' C' A H', acc.length = xs.length → Inv xs.length acc G' C' → Own G' ((A, .lst acc) :: C') H' → Same G G' → Qd A H') : LcOn X scope (.Name y p) [] elt [i] Qd (Itt X.K a) σ H := by
  rw [c.K]
  exact lr_own Inv c hi hl hk (walk_tup (xs := xs)) hn O h0 (fun G' C' H' s O' => sqt_up O' (same_sqt s hq)) (fun _ _ _ _ h => h.1) (fun m x acc G' C' A H' hm iv hy O' s X' c' => hs m x acc G' C' A H' hy.2 iv O' s X' c') hd
end
end
end Go

namespace Go
open PySem PySem.Spec PyProof.Rows L2

section
variable {X : Cx} {P : Program} {w : World} {K : PySem.W.Frag} {mg : Str → Option Value} {base : Heap} {N : List Str} {nm : List (Str × NameKind)} {j : Nat} {σ σ' : L2.St} {H G : Hp} {Q : VK} {D : Ends} {pos p : Pos} {C : List (Addr × HO)} {tk tv : TE}
/-- {k: v}, the key a tuple -/
def tDisp1T (tk tv : TE) : TE := fun σ H Q => ∀ p, H p = none → tk σ (upd H p (.dT [])) fun x H1 => tv σ H1 fun y H2 => ∃ (b : Addr) (ks : List Key), x = .ref b ∧ H2 b = some (.tup (ks.map kV)) ∧ H2 p = some (.dT []) ∧ Q (.ref p) (upd H2 p (.dT [(ks, y)]))
theorem pe_disp1T {k v : Expr} (hu : X.A.units + 1 < cLine) (hk : PE X k tk) (hv : PE X v tv) : PE X (.Dict [some k] [v] pos) (tDisp1T tk tv) := by
  refine ⟨fun pins s σ H Q I q => ?_⟩
  have hn := I.hok.fresh (Nat.le_refl s.heap.objs.size)
  have I1 := I.laid (a := s.heap.objs.size) (o := .dT []) (h' := s.heap.push { cls := .type "dict", data := .dict #[] }) (t' := s.toks) (fun _ _ q => Heap.get?_push_of_some _ q) (Nat.le_refl _) (dt_empty s.heap I.big)
  rw [arm_eval_Dict, zip_pairTrees [some k] [v] X.env pos rfl rfl, dictDisplay_pairs (pairTrees [some k] [v] X.env pos) (fun z => nomatch z) (show (1 : Nat) < 17 by omega)]
  refine wpAny_bind (wpAny_standAt (wpAny_bind (wpAny_subDictH (knd := tupleKind (mixKind X.prog X.w)) (show X.A.units < cLine from Nat.lt_of_succ_lt hu) (show (1 : Nat) ≤ 15 by omega) ?_)))
  refine pairTrees_cons_walk (thn (hk.run pins _ σ _ _ I1 (q _ hn)) fun u s1 ⟨x, H1, I1, rx, q1⟩ => thn (hv.run pins s1 σ H1 _ I1 q1) fun w2 s2 ⟨y, H2, I2, ry, b, ks, ex, eb, ep, q2⟩ => ?_)
  refine pairTrees_nil_walk ?_
  subst ex
  obtain rfl : u = Value.ref b := rx
  obtain ⟨z, hd, xs, rel, dd⟩ := dt_of I2.hok ep
  cases rel
  refine ⟨[(ks, b, w2)], ⟨rfl, rfl, key_of I2.hok eb, True.intro⟩, dd, fun h' t' dd' hs => ?_⟩
  refine wpAny_pure ⟨.ref s.heap.objs.size, _, ?_, rfl, q2⟩
  obtain ⟨q, es, ep', hq, h2, h3, h4, _, h5⟩ := dd'
  refine d_write I2 (by rw [ep]; exact True.intro) hs ⟨q, hq⟩ ⟨by rw [sizeLine_eq]; show (1 : Nat) ≤ _; omega, hd, _, .cons ⟨rfl, ?_, ry⟩ .nil, q, es, ep', hq, h2, h3, h4, h5⟩
  rw [upd_ne (ne_of eb ep (fun z => nomatch z))]
  exact eb
theorem e_disp1T (c : CI X P w K mg base N nm j) {k v : Expr} (h : ∀ p H0, New H p (.dT []) H0 → eS X k σ H0 fun x H1 => eS X v σ H1 fun y H2 => ∃ (b : Addr) (ks : List Key), x = .ref b ∧ H2 b = some (.tup (ks.map kV)) ∧ H2 p = some (.dT []) ∧ Q (.ref p) (upd H2 p (.dT [(ks, y)]))) : eS X (.Dict [some k] [v] pos) σ H Q :=
  ⟨_, pe_disp1T c.hu eS_is eS_is, fun p hp => h p _ ⟨hp, rfl⟩⟩
theorem e_dictT (h : ∀ p H2, New H p (.dT []) H2 → Q (.ref p) H2) : eS X (.Dict [] [] pos) σ H Q := ⟨_, pe_dnewT, fun p hp => h p _ ⟨hp, rfl⟩⟩
theorem e_dictK (h : ∀ p H2, New H p (.dK []) H2 → Q (.ref p) H2) : eS X (.Dict [] [] pos) σ H Q := ⟨_, pe_dnewK, fun p hp => h p _ ⟨hp, rfl⟩⟩
theorem o_inT (c : CI X P w K mg base N nm j) {p b : Addr} {kvs : List (List Key × V)} {i k : Int} (hp : H p = some (.dT kvs)) (hb : H b = some (.tup [.int i, .int k])) (h : Q (.bl (valV kvs [.inl i, .inl k]).isSome) H) : oS X (compareOp .In) (.ref b) (.ref p) H Q :=
  o_inD c (DGet.t (k := [.inl i, .inl k]) hp hb) h
theorem o_notInT (c : CI X P w K mg base N nm j) {p b : Addr} {kvs : List (List Key × V)} {i k : Int} (hp : H p = some (.dT kvs)) (hb : H b = some (.tup [.int i, .int k])) (h : Q (.bl (!(valV kvs [.inl i, .inl k]).isSome)) H) : oS X (compareOp .NotIn) (.ref b) (.ref p) H Q :=
  o_notInD c (DGet.t (k := [.inl i, .inl k]) hp hb) h
theorem x_dT (c : CI X P w K mg base N nm j) {p b : Addr} {kvs : List (List Key × V)} {i k : Int} {v : V} (hp : H p = some (.dT kvs)) (hb : H b = some (.tup [.int i, .int k])) (hv : valV kvs [.inl i, .inl k] = some v) (h : Q v H) : xS X (.ref p) (.ref b) H Q :=
  x_dict c (by rw [← hv]; exact DGet.t (k := [.inl i, .inl k]) hp hb) h
theorem p_dT (c : CI X P w K mg base N nm j) {p b : Addr} {kvs : List (List Key × V)} {i k : Int} {v : V} {R : Hp → Prop} (O : Own G ((p, .dT kvs) :: C) H) (hb : H b = some (.tup [.int i, .int k])) (hl : kvs.length < 1000000) (h : ∀ H', Own G ((p, .dT (putK kvs [.inl i, .inl k] v)) :: C) H' → R H') : pS X (.ref p) (.ref b) v H R :=
  p_dict c (DPut.t (k := [.inl i, .inl k]) O.at hb (sz_lt hl)) (h _ O.write)
theorem wS_mono {e : Expr} {R R' : Bool → Hp → Prop} (h : wS X e σ H R) (m : ∀ v H, R v H → R' v H) : wS X e σ H R' := by
  obtain ⟨t, p, h⟩ := h
  exact ⟨fun σ H R => ∃ Q, t σ H Q ∧ ∀ v H, Q v H → R v H, ⟨fun wh pins s σ H R I ⟨Q, h, m⟩ => thn (p.run wh pins s σ H Q I h) fun u s' ⟨H', I', q⟩ => ⟨H', I', m u H' q⟩⟩, R, h, m⟩
/-- a branch within an and / an or of a test, whose ends meet -/
theorem wa_join {q : Bool} {e : Expr} {b0 : Bool} {R : Bool → Hp → Prop} (Iv : Bool → Hp → Prop) (h1 : q = true → wS X e σ H Iv) (h2 : q = false → Iv b0 H) (k : ∀ v H', Iv v H' → R v H') : if q = true then wS X e σ H R else R b0 H := by
  cases q with
  | true => exact wS_mono (h1 rfl) k
  | false => exact k _ _ (h2 rfl)
theorem k_r2 {a b : Int} {R : Int → Int → Prop} (h1 : -(2 ^ 62) ≤ a ∧ a < 2 ^ 62 ∧ -(2 ^ 62) ≤ b ∧ b < 2 ^ 62) (h : R a b) : ∃ i k : Int, V.int a = .int i ∧ V.int b = .int k ∧ (-(2 ^ 62) ≤ i ∧ i < 2 ^ 62 ∧ -(2 ^ 62) ≤ k ∧ k < 2 ^ 62) ∧ R i k := ⟨a, b, rfl, rfl, h1, h⟩
theorem k_r3 {a b : Int} {R : Int → Int → Prop} (h1 : -(2 ^ 62) ≤ a ∧ a < 2 ^ 62 ∧ -(2 ^ 62) ≤ b ∧ b < 2 ^ 62) (h : R a b) : V.int (-1) = .int (-1) ∧ ∃ i k : Int, V.int a = .int i ∧ V.int b = .int k ∧ (-(2 ^ 62) ≤ i ∧ i < 2 ^ 62 ∧ -(2 ^ 62) ≤ k ∧ k < 2 ^ 62) ∧ R i k := ⟨rfl, a, b, rfl, rfl, h1, h⟩
theorem if_pair {q r : Bool} {α : Type} {a b : α} : (if q = true then (if r = true then a else b) else b) = if (q && r) = true then a else b := by cases q <;> rfl
theorem cut_mid {α : Type} (z : List α) (a b : Int) (ha : 0 ≤ a) (hb : 0 ≤ b) : cut z (some a) (some b) = (z.drop a.toNat).take (b.toNat - a.toNat) := by
  obtain ⟨a, rfl⟩ := Int.eq_ofNat_of_zero_le ha
  obtain ⟨b, rfl⟩ := Int.eq_ofNat_of_zero_le hb
  have e : ∀ (d k : Nat), HT.sIx z.length d (some (k : Int)) = min k z.length := fun d k => by
    unfold HT.sIx
    first | (simp only []; split <;> omega) | (split <;> omega) | omega | (simp; omega)
  unfold cut
  rw [e, e, Int.toNat_natCast, Int.toNat_natCast]
  apply List.ext_getElem?
  intro i
  rw [List.getElem?_take, List.getElem?_take, List.getElem?_drop, List.getElem?_drop]
  by_cases h : i < b - a
  · rw [if_pos h]
    by_cases h2 : i < min b z.length - min a z.length
    · rw [if_pos h2, show min a z.length = a by omega]
    · rw [if_neg h2, List.getElem?_eq_none (by omega)]
  · rw [if_neg h, if_neg (by omega)]
theorem l_to {z : List Nat} {n : Int} (h0 : 0 ≤ n) (hz : z.length ≤ 1000000) (h : Q (.str (S (z.take n.toNat))) H) : lS X (.str (S z)) none (some n) H Q := l_str hz (by rw [cut_to _ _ h0]; exact h)
theorem l_from {z : List Nat} {n : Int} (h0 : 0 ≤ n) (hz : z.length ≤ 1000000) (h : Q (.str (S (z.drop n.toNat))) H) : lS X (.str (S z)) (some n) none H Q := l_str hz (by rw [cut_from _ _ h0]; exact h)
theorem l_mid {z : List Nat} {a b : Int} (ha : 0 ≤ a) (hb : 0 ≤ b) (hz : z.length ≤ 1000000) (h : Q (.str (S ((z.drop a.toNat).take (b.toNat - a.toNat)))) H) : lS X (.str (S z)) (some a) (some b) H Q := l_str hz (by rw [cut_mid _ _ _ ha hb]; exact h)
theorem c_listI (c : CI X P w K mg base N nm j) {p : Addr} {xs : List V} (hp : SqL K H p xs) (h : ∀ r H', New H r (.lst xs) H' → Q (.ref r) H') : cS X (.type "list") [.ref p] H Q := c_listL c hp h
theorem inV_int (i : Int) : ∀ xs : List Int, inV (.int i) (xs.map V.int) = decide (i ∈ xs)
  | [] => by simp [inV]
  | x :: xs => by
    have ih := inV_int i xs
    have e : eqV (.int x) (.int i) = decide (x = i) := by show (x == i) = _; rw [Bool.eq_iff_iff]; simp
    show (eqV (.int x) (.int i) || inV (.int i) (xs.map V.int)) = _
    rw [ih, e]
    by_cases q : x = i
    · subst q; simp
    · have q' : ¬ i = x := fun z => q z.symm
      simp [q, q']
theorem o_inI (c : CI X P w K mg base N nm j) {i : Int} {p : Addr} {xs : List Int} (hp : SqL K H p (xs.map V.int)) (h : Q (.bl (decide (i ∈ xs))) H) : oS X (compareOp .In) (.int i) (.ref p) H Q :=
  o_inQ c (.inl hp) rfl (by simp [flatV]) (by rw [inV_int]; exact h)
theorem m_appendC {p : Addr} {xs : List V} {y : V} (O : Own G ((p, .lst xs) :: C) H) (hl : xs.length < 1000000) (h : ∀ H', Own G ((p, .lst (xs ++ [y])) :: C) H' → Q .non H') : mS X "list.append" (.ref p) [y] H Q :=
  m_append O.at hl (h _ O.write)
theorem o_addSl {a : List Nat} {x : Str} (h0 : (cs x).length ≤ 1000) (hl : a.length ≤ 900000) (h : Q (.str (S (a ++ cs x))) H) : oS X (binaryOp .Add) (.str (S a)) (.str (S (cs x))) H Q := o_addS (by omega) h
theorem o_addSr {a : List Nat} {x : Str} (h0 : (cs x).length ≤ 1000) (hl : a.length ≤ 900000) (h : Q (.str (S (cs x ++ a))) H) : oS X (binaryOp .Add) (.str (S (cs x))) (.str (S a)) H Q := o_addS (by omega) h
theorem o_iaddSl {a : List Nat} {x : Str} (h0 : (cs x).length ≤ 1000) (hl : a.length ≤ 900000) (h : Q (.str (S (a ++ cs x))) H) : oS X (inplaceOp .Add) (.str (S a)) (.str (S (cs x))) H Q := o_iaddS (by omega) h
theorem Own.frzAll : ∀ (L : List (Addr × HO)) {G : Hp}, Own G (L ++ C) H → ∃ G', Same G G' ∧ (∀ e ∈ L, G' e.1 = some e.2) ∧ Own G' C H
  | [], G, O => ⟨G, same_rfl, by simp, O⟩
  | e :: L, G, O => by
    obtain ⟨G1, s1, e1, O1⟩ := Own.frz (p := e.1) (o := e.2) O
    obtain ⟨G2, s2, e2, O2⟩ := Own.frzAll L O1
    refine ⟨G2, same_tr s1 s2, fun x hx => ?_, O2⟩
    rcases List.mem_cons.mp hx with rfl | hx
    · exact s2 _ _ e1
    · exact e2 x hx
theorem Own.dropAll : ∀ (L : List (Addr × HO)), Own G (L ++ C) H → Own G C H
  | [], O => O
  | _ :: L, O => Own.dropAll L O.drop
theorem k_ty {p : Addr} {xs : List V} {B : Prop} (hp : SqL K H p xs) (h : B) : tyV K "list" (.ref p) H ∧ B := ⟨ty_lst hp, h⟩
theorem take_succ_map {α β : Type} {ps : List α} {k : Nat} {x : α} (f : α → β) (h : ps[k]? = some x) : ((ps.take (k + 1)).map f).reverse = f x :: ((ps.take k).map f).reverse := by
  rw [List.take_add_one, h]; simp
/-- a text, once or not at all -/
theorem o_repB {z : List Nat} {b : Bool} (hz : z.length ≤ 1000) (h : Q (.str (S (if b = true then z else []))) H) : oS X (binaryOp .Mult) (.str (S z)) (.int (if b = true then 1 else 0)) H Q := by
  cases b with
  | true =>
    refine o_repT (by decide) hz (by decide) fun _ _ => ?_
    have e : (List.replicate (if true = true then (1 : Int) else 0).toNat z).flatten = z := by simp
    rw [e]; exact h
  | false => exact o_repT (by decide) hz (by decide) fun _ _ => h
theorem c_isB (c : CI X P w K mg base N nm j) {b : Bool} (h : Q (.bl true) H) : cS X (.builtin "isinstance") [.bl b, .ty "bool"] H Q := c_isi c (.base (.bl b)) rfl h
theorem c_isI (c : CI X P w K mg base N nm j) {i : Int} (h : Q (.bl true) H) : cS X (.builtin "isinstance") [.int i, .ty "int"] H Q := c_isi c (.base (.int i)) rfl h
theorem c_isIB (c : CI X P w K mg base N nm j) {i : Int} (h : Q (.bl false) H) : cS X (.builtin "isinstance") [.int i, .ty "bool"] H Q := c_isi c (.base (.int i)) rfl h
theorem p_dK {p : Addr} {kvs : List (Key × V)} {i : Int} {v : V} {R : Hp → Prop} (c : CI X P w K mg base N nm j) (O : Own G ((p, .dK kvs) :: C) H) (hl : kvs.length < 1000000) (h : ∀ H', Own G ((p, .dK (putK kvs (.inl i) v)) :: C) H' → R H') : pS X (.ref p) (.int i) v H R :=
  p_dict c (DPut.k (k := .inl i) O.at (sz_lt hl)) (h _ O.write)
theorem x_dK (c : CI X P w K mg base N nm j) {p : Addr} {kvs : List (Key × V)} {i : Int} {v : V} (hp : H p = some (.dK kvs)) (hv : valV kvs (.inl i) = some v) (h : Q v H) : xS X (.ref p) (.int i) H Q :=
  x_dict c (by rw [← hv]; exact DGet.k (k := .inl i) hp) h
/-- d.get(y, z): the dict, the key, the other value -/
structure getS (H : Hp) (x y z : V) (Q : VK) : Prop where
  ex : ∃ a o, x = .ref a ∧ DGet H a y o ∧ Q (o.getD z) H
theorem e_get2 (c : CI X P w K mg base N nm j) {o e f : Expr} {apos cpos : Pos} (m : M2 X o "get" apos e f cpos) (h : eS X o σ H fun x H1 => (∃ a, x = .ref a ∧ IsD H1 a) ∧ eS X e σ H1 fun y H2 => eS X f σ H2 fun z H3 => getS H3 x y z Q) : eS X (.Call (.Attribute o "get" apos) [e, f] [] cpos) σ H Q :=
  ⟨_, pe_dget2 c.hu eS_is eS_is eS_is m, eS_mono h fun x H1 ⟨⟨a, ea, d⟩, q⟩ => ⟨a, ea, d, eS_mono q fun y H2 q => eS_mono q fun z H3 ⟨a', o, e1, g, q⟩ => by
    rw [ea] at e1
    cases e1
    exact ⟨o, g, q⟩⟩⟩
theorem k_isK {p : Addr} {kvs : List (Key × V)} {B : Prop} (hp : H p = some (.dK kvs)) (h : B) : (∃ a, V.ref p = .ref a ∧ IsD H a) ∧ B := ⟨⟨p, rfl, .inl ⟨kvs, .inl hp⟩⟩, h⟩
theorem k_isT {p : Addr} {kvs : List (List Key × V)} {B : Prop} (hp : H p = some (.dT kvs)) (h : B) : (∃ a, V.ref p = .ref a ∧ IsD H a) ∧ B := ⟨⟨p, rfl, .inr ⟨kvs, .inl hp⟩⟩, h⟩
theorem get_K {p : Addr} {kvs : List (Key × V)} {i : Int} {z : V} (hp : H p = some (.dK kvs)) (h : Q ((valV kvs (.inl i)).getD z) H) : getS H (.ref p) (.int i) z Q := ⟨p, _, rfl, DGet.k (k := .inl i) hp, h⟩
theorem e_disp1K (c : CI X P w K mg base N nm j) {k v : Expr} (h : ∀ p H0, New H p (.dK []) H0 → eS X k σ H0 fun x H1 => eS X v σ H1 fun y H2 => ∃ (i : Int), x = .int i ∧ H2 p = some (.dK []) ∧ Q (.ref p) (upd H2 p (.dK [(.inl i, y)]))) : eS X (.Dict [some k] [v] pos) σ H Q :=
  ⟨_, pe_disp (pps_cons eS_is eS_is pps_nil) rfl rfl (fun z => nomatch z) (show (1 : Nat) ≤ 15 by decide), fun p hp => eS_mono (h p _ ⟨hp, rfl⟩) fun x H1 q => eS_mono q fun y H2 ⟨i, e1, e2, q⟩ => ⟨e2, [(.inl i, y)], by rw [e1]; rfl, (show (1 : Nat) ≤ 15 by decide), q⟩⟩
end
end Go

namespace Go
open PySem PySem.Spec PyProof.Rows L2

/-- the signs of a text with their places, each in a new pair -/
def Itn (z : Str) : It := ⟨fun i _ => i < z.cps.size, fun i H v H' => ∃ T c, v = .ref T ∧ H T = none ∧ H' = upd H T (.tup [.int (i : Nat), .str ⟨#[c]⟩]) ∧ z.cps[i]? = some c, fun i _ => z.cps.size ≤ i⟩
theorem turn_enumS {P : Program} {w : World} {K : PySem.W.Frag} {elts : List Expr} {kk : Nat} {tpos : Pos} (e it : Addr) (x : Str) (t : Tok) :
    Turn P w K (.Tuple elts kk tpos) (Itn x) [e, it] e (fun i h => i ≤ x.cps.size ∧ (∃ old, IsEnum h e it ((i : Nat) : Int) old) ∧ h.IsStrIter it (strIterType x) x t i ∧ e ≠ it) where
  mem := by simp
  obj := fun i h st b hb => by
    obtain ⟨_, ⟨old, he⟩, ⟨o, ho, hc, hd⟩, _⟩ := st
    have e' : b = e ∨ b = it := by simpa using hb
    rcases e' with z | z
    · rw [z]; exact ⟨_, he, fun v q => nomatch q⟩
    · rw [z]; exact ⟨o, ho, fun v q => by rw [hd] at q; cases q⟩
  keep := fun i h h' st k => let ⟨hl, ⟨old, he⟩, ⟨o, ho, r⟩, hne⟩ := st; ⟨hl, ⟨old, k e (by simp) _ he⟩, ⟨o, k it (by simp) o ho, r⟩, hne⟩
  item := by
    intro X hP hw hK hc i pins s σ H E I hf st hg
    subst hP hw hK
    obtain ⟨hl, ⟨old, he⟩, hit, hne⟩ := st
    have hel : e < s.heap.objs.size := Heap.lt_size he
    have hil : it < s.heap.objs.size := by obtain ⟨_, q, _⟩ := hit; exact Heap.lt_size q
    have D : Draws X.prog X.w X.A.in1 it [it] x.cps.size (fun i v => ∃ c u, x.cps[i]? = some c ∧ v = .str ⟨#[c]⟩ u) (fun i h => h.IsStrIter it (strIterType x) x t i) := Draws.text (show X.A.in1.handled = none from I.ok.hd hc) it x t
    refine wpAny_pyNext_enum_itemD (St := fun i h => h.IsStrIter it (strIterType x) x t i) D he hit hg hne (by simpa using hne) fun u h' tk hP ho hit' hT hsz hk => ?_
    obtain ⟨ch, tu, hch, rfl⟩ := hP
    refine ⟨_, rfl, wpAny_letOwnedTupleGo_enum (s := { s with heap := h', toks := tk + 1 }) ho fun h'' he' sb => ?_⟩
    have hT2 : h''.get? s.heap.objs.size = some { cls := .type "tuple", data := .seq #[.int i tk, .str ⟨#[ch]⟩ tu] } := (sb.2 _ (Nat.ne_of_gt hel)).trans hT
    have new : ObjOk X.prog X.w (upd H s.heap.objs.size (.tup [.int (i : Nat), .str ⟨#[ch]⟩])) h'' s.heap.objs.size (.tup [.int (i : Nat), .str ⟨#[ch]⟩]) :=
      ⟨by show 2 ≤ sizeLine; decide, [.int i tk, .str ⟨#[ch]⟩ tu], .cons ⟨_, rfl⟩ (.cons ⟨_, rfl⟩ .nil), ⟨_, hT2, rfl, _, rfl⟩⟩
    have I1 : Inv X pins σ (upd H s.heap.objs.size (.tup [.int (i : Nat), .str ⟨#[ch]⟩])) { s with heap := h'', toks := tk + 1 } :=
      I.turnedNew (ch := [e, it]) (fun b ob hb q => (sb.2 b (fun z => hb (by simp [z]))).trans (hk b ob (fun z => hb (by simp [z])) (fun z => hb (by simp [z])) q)) hf (Nat.le_refl _) new
    refine ⟨.ref s.heap.objs.size, _, I1, rfl, ⟨_, ch, rfl, I.hok.fresh (Nat.le_refl _), rfl, hch⟩, ⟨hg, ⟨.str ⟨#[ch]⟩ tu, ?_⟩, ?_, hne⟩, fun b hb => ?_⟩
    · have e1 : ((i + 1 : Nat) : Int) = (i : Int) + 1 := by omega
      rw [e1]; exact he'
    · obtain ⟨o, ho2, r⟩ := hit'
      exact ⟨o, (sb.2 it (Ne.symm hne)).trans ho2, r⟩
    · have hb' : b < s.heap.objs.size := by
        have e' : b = e ∨ b = it := by simpa using hb
        rcases e' with z | z
        · rw [z]; exact hel
        · rw [z]; exact hil
      rw [upd_ne (Nat.ne_of_lt hb')]
      exact (hf b hb).1
  done := by
    intro X hP hw hK hc i pins s σ H E I hf st hg
    subst hP hw hK
    obtain ⟨hl, ⟨old, he⟩, hit, hne⟩ := st
    have ei : i = x.cps.size := Nat.le_antisymm hl hg
    subst ei
    obtain ⟨f0, f1, f2, f3, f4, f5⟩ := hf it (by simp)
    have D : Draws X.prog X.w X.A.in1 it [it] x.cps.size (fun i v => ∃ c u, x.cps[i]? = some c ∧ v = .str ⟨#[c]⟩ u) (fun i h => h.IsStrIter it (strIterType x) x t i) := Draws.text (show X.A.in1.handled = none from I.ok.hd hc) it x t
    exact wpAny_pyNext_enum_endD (St := fun i h => h.IsStrIter it (strIterType x) x t i) D he hit fun h' eb => ⟨rfl, I.turned (t' := s.toks) (fun b o hb q => eb b o hb q) f0 f1 f3 f4 f5⟩
  self := fun A i s Q E st h => let ⟨_, ⟨_, he⟩, _⟩ := st; wpAny_pyIter_enum he h
def iEnumS (ta : TA) : TI := fun σ H R => ta σ H fun vs H1 => ∃ z, vs = [.str z] ∧ R (Itn z) H1
theorem pi_enumS {X : Cx} {e : Expr} {ta : TA} {p pos tpos : Pos} {elts : List Expr} {kk : Nat} (hg : Gl X "enumerate") (hm : X.mg "enumerate" = none) (ha : PA X [e] ta) (hs : starEach [e] X.env = [(false, eval e X.env)] := by rfl) :
    PI X (.Tuple elts kk tpos) (.Call (.Name "enumerate" p) [e] [] pos) (iEnumS ta) := by
  refine ⟨fun pins s σ H R I h => ?_⟩
  refine Call_ (ld_blt I hg hm boot_enumerate (PyProof.Rows.callWith_type1 (thn (ha.run pos pins s σ H _ I h) fun us s1 ⟨vs, H1, I1, r1, q1⟩ => ?_) hs rfl))
  obtain ⟨z, ex, q⟩ := q1
  subst ex
  cases r1 with
  | cons r rr =>
    cases rr
    obtain ⟨t, rfl⟩ := r
    refine call_enumerate_str fun h' he hit hsz hk => wpAny_pyIter_enum he ?_
    have I2 : Inv X pins σ H1 { s1 with heap := h' } := I1.kept (t' := s1.toks) hk
    refine ⟨s1.heap.objs.size + 1, [s1.heap.objs.size + 1, s1.heap.objs.size], _, _, H1, rfl, I2, turn_enumS (s1.heap.objs.size + 1) s1.heap.objs.size z t, ⟨Nat.zero_le _, ⟨.none, he⟩, hit, Nat.succ_ne_self _⟩, fun b hb => ?_, q⟩
    have e' : b = s1.heap.objs.size + 1 ∨ b = s1.heap.objs.size := by simpa using hb
    have hle : s1.heap.objs.size ≤ b := by
      rcases e' with z | z
      · rw [z]; exact Nat.le_add_right _ _
      · rw [z]; exact Nat.le_refl _
    exact I1.fpOk hle (I1.hok.fresh hle)
theorem walk_enumS {z : Str} : Walk (Itn z) z.cps.size (fun _ => True) (fun i H v H' => ∃ T c, v = .ref T ∧ H T = none ∧ H' = upd H T (.tup [.int (i : Nat), .str ⟨#[c]⟩]) ∧ z.cps[i]? = some c) :=
  ⟨fun _ _ h _ => h, fun _ _ => Nat.le_refl _, fun _ _ _ _ _ _ y => y⟩
section
variable {X : Cx} {P : Program} {w : World} {K : PySem.W.Frag} {mg : Str → Option Value} {base : Heap} {N : List Str} {nm : List (Str × NameKind)} {j : Nat} {σ σ' : L2.St} {H G : Hp} {Q : VK} {D : Ends} {pos p tpos : Pos} {C : List (Addr × HO)} {elts : List Expr} {kk : Nat} {a : Expr} {body : List Stmt}
theorem i_enumS (c : CI X P w K mg base N nm j) {R : It → Hp → Prop} (hg : glB nm "enumerate" = true) (hm : mg "enumerate" = none) (hs : starEach [a] X.env = [(false, eval a X.env)]) (h : eS X a σ H fun x H1 => ∃ z, x = .str (S z) ∧ R (Itn (S z)) H1) :
    iS X (.Tuple elts kk tpos) (.Call (.Name "enumerate" p) [a] [] pos) σ H R :=
  ⟨_, pi_enumS (c.gl hg) (by rw [c.mg]; exact hm) (pa_cons eS_is pa_nil hs) hs, eS_mono h fun _ _ ⟨z, e, r⟩ => ⟨_, by rw [e], r⟩⟩
/-- for (k, sign) in enumerate(text): each turn a new pair, frozen -/
theorem on_enumS {z : List Nat} (Pv : Nat → L2.St → Hp → Prop) (h0 : Pv 0 σ H)
    (hs : ∀ i x σ H T H', z[i]? = some x → Pv i σ H → New H T (.tup [.int (i : Nat), .str (S [x])]) H' → gS X (.Tuple elts kk tpos) (.ref T) σ H' fun σ2 H2 => bS X body { D with nx := Pv (i + 1), ct := Pv (i + 1), bk := D.nx } σ2 H2) (hd : ∀ σ H, Pv z.length σ H → D.nx σ H) :
    ForOn X (.Tuple elts kk tpos) body D (Itn (S z)) σ H := ⟨_, _, _, walk_enumS, Pv, h0, fun _ _ _ _ _ => True.intro, fun i x σ H H' hi p ⟨T, ch, e1, e2, e3, hc⟩ => by
      subst e1
      exact hs i ch σ _ T H' (by simpa [S] using hc) p ⟨e2, e3⟩, fun σ H p => hd σ H (by simpa [S] using p)⟩
theorem swapped_folded {ts vs : List Expr} {k k' : Nat} {q q' : Pos} {env : Env} (h : vs.all (foldedForSure 8) = true) : swappedStores [.Tuple ts k q] (.Tuple vs k' q') env = pure none := by
  unfold swappedStores
  simp only [h, if_true]
  repeat (first | rfl | split)
/-- i, j = 0, 0: constants to names -/
theorem g_asgF {ts vs : List Expr} {k k' : Nat} {q q' : Pos} (h1 : List.map (fun x => x.snd) (assignEach [.Tuple ts k q] X.env) = [assign (.Tuple ts k q) X.env]) (hs : swapsWithSole [.Tuple ts k q] (.Tuple vs k' q') pos.line X.env = pure false) (h : vs.all (foldedForSure 8) = true) (hh : eS X (.Tuple vs k' q') σ H fun v H1 => gS X (.Tuple ts k q) v σ H1 D.nx) : sS X (.Assign [.Tuple ts k q] (.Tuple vs k' q') pos) D σ H :=
  g_asg h1 hs (swapped_folded h) hh
end
end Go

namespace Go
open PySem PySem.Spec PyProof.Rows L2

/-! an Int is a Nat -/
theorem nat_id (n : Nat) : (n : Int) = (n : Int) := rfl
theorem nat_0 : (0 : Int) = ((0 : Nat) : Int) := rfl
theorem nat_1 : (1 : Int) = ((1 : Nat) : Int) := rfl
theorem nat_2 : (2 : Int) = ((2 : Nat) : Int) := rfl
theorem nat_add {a b : Int} {n m : Nat} (h1 : a = n) (h2 : b = m) : a + b = ((n + m : Nat) : Int) := by omega
theorem nat_sub {a b : Int} {n m : Nat} (h1 : a = n) (h2 : b = m) (h : m ≤ n) : a - b = ((n - m : Nat) : Int) := by omega
theorem nat_any {a : Int} (h : 0 ≤ a) : a = ((a.toNat : Nat) : Int) := by omega
section
variable {X : Cx} {P : Program} {w : World} {K : PySem.W.Frag} {mg : Str → Option Value} {base : Heap} {N : List Str} {nm : List (Str × NameKind)} {j : Nat} {σ σ' : L2.St} {H G : Hp} {Q : VK} {D : Ends} {pos p tpos : Pos} {C : List (Addr × HO)} {e : Expr} {R : Bool → Hp → Prop}
theorem gd_get {z : List Nat} {n : Nat} (h : n < z.length) : z[n]? = some (z.getD n 0) := by
  rw [List.getElem?_eq_getElem h, List.getD_eq_getElem?_getD, List.getElem?_eq_getElem h]; rfl
theorem x_strN {z : List Nat} {i : Int} {n : Nat} (hi : i = n) (hn : n < z.length) (hz : z.length ≤ 1000000) (h : Q (.str (S [z.getD n 0])) H) : xS X (.str (S z)) (.int i) H Q := by
  subst hi
  exact x_str hz (atI_get (gd_get hn)) h
theorem o_eqS1 {a b : Nat} (h : Q (.bl (decide (a = b))) H) : oS X (compareOp .Eq) (.str (S [a])) (.str (S [b])) H Q := o_eqS (by rw [decide_eq_decide.mpr (show [a] = [b] ↔ a = b from List.singleton_inj)]; exact h)
theorem o_neS1 {a b : Nat} (h : Q (.bl (!decide (a = b))) H) : oS X (compareOp .NotEq) (.str (S [a])) (.str (S [b])) H Q := o_neS (by rw [decide_eq_decide.mpr (show [a] = [b] ↔ a = b from List.singleton_inj)]; exact h)
/-- i is a place of y and its sign there is that of t at k -/
theorem gd_and {y t : List Nat} {i k : Nat} (hk : k < t.length) : (decide ((i : Int) < (y.length : Int)) && decide (y.getD i 0 = t.getD k 0)) = decide (y[i]? = t[k]?) := by
  rw [gd_get hk]
  by_cases h : i < y.length
  · rw [decide_eq_true (show (i : Int) < (y.length : Int) by omega), Bool.true_and, gd_get h]
    exact decide_eq_decide.mpr ⟨fun e => by rw [e], fun e => Option.some.inj e⟩
  · rw [decide_eq_false (show ¬ (i : Int) < (y.length : Int) by omega), Bool.false_and, List.getElem?_eq_none (by omega)]
    exact (decide_eq_false (fun z => nomatch z)).symm
theorem gd_some {y : List Nat} {i x : Nat} : (decide ((i : Int) < (y.length : Int)) && decide (y.getD i 0 = x)) = decide (y[i]? = some x) := by
  by_cases h : i < y.length
  · rw [decide_eq_true (show (i : Int) < (y.length : Int) by omega), Bool.true_and, gd_get h]
    exact decide_eq_decide.mpr ⟨fun e => by rw [e], fun e => Option.some.inj e⟩
  · rw [decide_eq_false (show ¬ (i : Int) < (y.length : Int) by omega), Bool.false_and, List.getElem?_eq_none (by omega)]
    exact (decide_eq_false (fun z => nomatch z)).symm
/-! and, or whose ends meet: what they give is a Bool -/
theorem e_andJ {q r : Bool} (O : Own G C H) (h1 : q = true → eS X e σ H fun v H' => v = .bl r ∧ ∃ G', Own G' C H' ∧ Same G G') (k : ∀ H' G', Same G G' → Own G' C H' → Q (.bl (q && r)) H') : if q = true then eS X e σ H Q else Q (.bl false) H := by
  cases q with
  | true => exact eS_mono (h1 rfl) fun v H' ⟨e, G', O', s⟩ => by subst e; exact k H' G' s O'
  | false => exact k H G same_rfl O
theorem e_orJ {q r : Bool} {T : Prop} (O : Own G C H) (h1 : q = false → eS X e σ H fun v H' => v = .bl r ∧ ∃ G', Own G' C H' ∧ Same G G') (eT : Q (.bl true) H = T) (k : ∀ H' G', Same G G' → Own G' C H' → Q (.bl (q || r)) H') : if q = true then T else eS X e σ H Q := by
  subst eT
  cases q with
  | false => exact eS_mono (h1 rfl) fun v H' ⟨e, G', O', s⟩ => by subst e; exact k H' G' s O'
  | true => exact k H G same_rfl O
theorem w_andJ {q r : Bool} (O : Own G C H) (h1 : q = true → wS X e σ H fun v H' => v = r ∧ ∃ G', Own G' C H' ∧ Same G G') (k : ∀ H' G', Same G G' → Own G' C H' → R (q && r) H') : if q = true then wS X e σ H R else R false H := by
  cases q with
  | true => exact wS_mono (h1 rfl) fun v H' ⟨e, G', O', s⟩ => by subst e; exact k H' G' s O'
  | false => exact k H G same_rfl O
theorem w_orJ {q r : Bool} {T : Prop} (O : Own G C H) (h1 : q = false → wS X e σ H fun v H' => v = r ∧ ∃ G', Own G' C H' ∧ Same G G') (eT : R true H = T) (k : ∀ H' G', Same G G' → Own G' C H' → R (q || r) H') : if q = true then T else wS X e σ H R := by
  subst eT
  cases q with
  | false => exact wS_mono (h1 rfl) fun v H' ⟨e, G', O', s⟩ => by subst e; exact k H' G' s O'
  | true => exact k H G same_rfl O
theorem o_notInI (c : CI X P w K mg base N nm j) {i : Int} {p : Addr} {xs : List Int} (hp : SqL K H p (xs.map V.int)) (h : Q (.bl (!decide (i ∈ xs))) H) : oS X (compareOp .NotIn) (.int i) (.ref p) H Q :=
  o_notInQ c (.inl hp) rfl (by simp [flatV]) (by rw [inV_int]; exact h)
theorem c_isiT (c : CI X P w K mg base N nm j) {x : V} {T n : String} {b : Bool} (t : TyOf K H x (.type T)) (e : PySem.W.kitOne K (.type T) (.type n) = some b) (h : Q (.bl b) H) : cS X (.builtin "isinstance") [x, .ty n] H Q := c_isi c (.base t) e h
theorem x_lstR (c : CI X P w K mg base N nm j) {r p : Addr} {ps : List Addr} {i : Int} {k : Nat} (hr : SqL K H r (ps.map V.ref)) (hi : i = k) (hp : ps[k]? = some p) (h : Q (.ref p) H) : xS X (.ref r) (.int i) H Q := by
  subst hi
  exact x_lst c hr (atI_get (by rw [List.getElem?_map, hp]; rfl)) h
/-! objects by what they are of -/
/-- at ts stand the objects f x of the xs -/
def Rp {α : Type} (f : α → HO) (G : Hp) (ts : List Addr) (xs : List α) : Prop := ts.map G = xs.map fun x => some (f x)
section
variable {α : Type} {f : α → HO} {G' : Hp} {ts : List Addr} {xs : List α}
theorem Rp.len (h : Rp f G ts xs) : ts.length = xs.length := by have := congrArg List.length h; simpa using this
theorem Rp.nil : Rp f G [] [] := rfl
theorem Rp.up (h : Rp f G ts xs) (s : Same G G') : Rp f G' ts xs := by
  unfold Rp at h ⊢
  induction ts generalizing xs with
  | nil => cases xs with
    | nil => rfl
    | cons _ _ => simp at h
  | cons t ts ih =>
    cases xs with
    | nil => simp at h
    | cons x xs =>
      simp only [List.map_cons, List.cons.injEq] at h ⊢
      exact ⟨s _ _ h.1, ih h.2⟩
theorem Rp.app {ts' : List Addr} {xs' : List α} (h : Rp f G ts xs) (h' : Rp f G ts' xs') : Rp f G (ts ++ ts') (xs ++ xs') := by
  unfold Rp at h h' ⊢
  rw [List.map_append, List.map_append, h, h']
theorem Rp.one {t : Addr} {x : α} (h : G t = some (f x)) : Rp f G [t] [x] := by unfold Rp; simp [h]
theorem Rp.get (h : Rp f G ts xs) {i : Nat} {t : Addr} (ht : ts[i]? = some t) : ∃ x, xs[i]? = some x ∧ G t = some (f x) := by
  unfold Rp at h
  have e := congrArg (fun l : List (Option HO) => l[i]?) h
  simp only [List.getElem?_map, ht, Option.map_some] at e
  cases hx : xs[i]? with
  | none => rw [hx] at e; cases e
  | some x => rw [hx] at e; exact ⟨x, rfl, Option.some.inj e⟩
end
theorem map_ref {ts : List Addr} {i : Nat} {x : V} (h : (ts.map V.ref)[i]? = some x) : ∃ t, ts[i]? = some t ∧ x = .ref t := by
  rw [List.getElem?_map] at h
  obtain ⟨t, h1, h2⟩ := Option.map_eq_some_iff.mp h
  exact ⟨t, h1, h2.symm⟩
/-! comprehensions whose target is a pair of names -/
theorem e_lc2 (c : CI X P w K mg base N nm j) {y1 y2 : Str} {i1 i2 : Nat} {p1 p2 tp : Pos} {kk : Nat} {iter elt : Expr} {ifs : List Expr} {scope : Scope} (h1 : Ix N y1 i1) (h2 : Ix N y2 i2) (ok : blkC N (scOf nm) scope [(y1, i1), (y2, i2)] = true) (hs : ∀ x, foldedSetIterable iter X.env x = pure x)
    (h : iS X (.Tuple [.Name y1 p1, .Name y2 p2] kk tp) iter σ H fun J H1 => LcOn X scope (.Tuple [.Name y1 p1, .Name y2 p2] kk tp) ifs elt [i1, i2] (fun D H => Q (.ref D) H) J σ H1) : eS X (.ListComp elt [⟨.Tuple [.Name y1 p1, .Name y2 p2] kk tp, iter, ifs, 0⟩] scope pos) σ H Q :=
  e_lc c [(y1, i1), (y2, i2)] (blkOk_by ok) hs h
/-- a comprehension of any target and tests, that may write its own cells -/
theorem lc_own {tg elt : Expr} {ifs : List Expr} {scope : Scope} {vs : List Nat} {n : Nat} {Gw : Hp → Prop} {Y : Nat → Hp → V → Hp → Prop} {J : It} {Qd : Addr → Hp → Prop} (Inv : Nat → List V → Hp → List (Addr × HO) → Prop) (c : CI X P w K mg base N nm j) (hk : scope.kind = .function) (W : Walk J n Gw Y) (hn : n ≤ 1000000) (O : Own G C H) (h0 : Inv 0 [] G C)
    (hG : ∀ G' C' H', Same G G' → Own G' C' H' → Gw H')
    (hs : ∀ m x acc G' C' A H1 H2, m < n → Inv m acc G' C' → Y m H1 x H2 → Own G' ((A, .lst acc) :: C') H1 → Same G G' → ∀ X', CI X' P w K mg base N scope.names j → gS X' tg x (wipe σ vs) H2 fun σ2 H3 => wipe σ2 vs = wipe σ vs ∧ ∀ X', CI X' P w K mg base N scope.names j → tsS X' ifs σ2 H3 fun b H4 =>
      if b = true then ∀ X', CI X' P w K mg base N scope.names j → eS X' elt σ2 H4 fun y H5 => ∃ G4 C4, Own G4 ((A, .lst acc) :: C4) H5 ∧ Same G' G4 ∧ Inv (m + 1) (acc ++ [y]) G4 C4 else ∃ G4 C4, Own G4 ((A, .lst acc) :: C4) H4 ∧ Same G' G4 ∧ Inv (m + 1) acc G4 C4)
    (hd : ∀ acc G' C' A H', acc.length ≤ n → Inv n acc G' C' → Own G' ((A, .lst acc) :: C') H' → Same G G' → Qd A H') : LcOn X scope tg ifs elt vs Qd J σ H := by
  intro A hA
  refine ⟨n, Gw, Y, W, fun m H => ∃ acc G' C', acc.length ≤ m ∧ Inv m acc G' C' ∧ Own G' ((A, .lst acc) :: C') H ∧ Same G G', ⟨[], G, C, Nat.le_refl _, h0, O.cell hA, same_rfl⟩, ?_, ?_, ?_⟩
  · rintro m H' hm ⟨acc, G', C', _, _, O', s⟩
    exact hG _ _ _ s O'
  · rintro m x H1 H2 hm ⟨acc, G', C', hl, iv, O', s⟩ hy X' hb
    obtain ⟨t, p, q⟩ := hs m x acc G' C' A H1 H2 hm iv hy O' s X' (c.blk hb hk)
    refine ⟨fun v σ H R => ∃ Q, t v σ H Q ∧ ∀ σ H, Q σ H → R σ H, ⟨fun pins s σ H v u Q I r ⟨Q', h, m⟩ => thn (p.run pins s σ H v u Q' I r h) fun _ s' q => ?_⟩, _, q, ?_⟩
    · obtain ⟨σ', H', I', q⟩ := q
      exact ⟨σ', H', I', m σ' H' q⟩
    · rintro σ2 H3 ⟨hw, q⟩
      refine ⟨hw, fun X2 hb2 => tsS_mono (q X2 (c.blk hb2 hk)) fun b H4 q => ?_⟩
      cases b with
      | false =>
        obtain ⟨G4, C4, O4, s4, iv4⟩ := q
        exact ⟨acc, G4, C4, by omega, iv4, O4, same_tr s s4⟩
      | true =>
        intro X3 hb3
        refine eS_mono (q X3 (c.blk hb3 hk)) fun y H5 ⟨G4, C4, O4, s4, iv4⟩ => ?_
        exact ⟨acc, O4.at, sz_lt (by omega), acc ++ [y], G4, C4, by simp [hl], iv4, O4.write, same_tr s s4⟩
  · rintro H' ⟨acc, G', C', hl, iv, O', s⟩
    exact hd _ _ _ _ _ hl iv O' s
/-- .. over a frozen list -/
theorem lc_list {tg elt : Expr} {ifs : List Expr} {scope : Scope} {vs : List Nat} {a : Addr} {xs : List V} {Qd : Addr → Hp → Prop} (Inv : Nat → List V → Hp → List (Addr × HO) → Prop) (c : CI X P w K mg base N nm j) (hk : scope.kind = .function) (hq : SqL K G a xs) (hn : xs.length ≤ 1000000) (O : Own G C H) (h0 : Inv 0 [] G C)
    (hs : ∀ m x acc G' C' A H1, xs[m]? = some x → Inv m acc G' C' → Own G' ((A, .lst acc) :: C') H1 → Same G G' → ∀ X', CI X' P w K mg base N scope.names j → gS X' tg x (wipe σ vs) H1 fun σ2 H3 => wipe σ2 vs = wipe σ vs ∧ ∀ X', CI X' P w K mg base N scope.names j → tsS X' ifs σ2 H3 fun b H4 =>
      if b = true then ∀ X', CI X' P w K mg base N scope.names j → eS X' elt σ2 H4 fun y H5 => ∃ G4 C4, Own G4 ((A, .lst acc) :: C4) H5 ∧ Same G' G4 ∧ Inv (m + 1) (acc ++ [y]) G4 C4 else ∃ G4 C4, Own G4 ((A, .lst acc) :: C4) H4 ∧ Same G' G4 ∧ Inv (m + 1) acc G4 C4)
    (hd : ∀ acc G' C' A H', acc.length ≤ xs.length → Inv xs.length acc G' C' → Own G' ((A, .lst acc) :: C') H' → Same G G' → Qd A H') : LcOn X scope tg ifs elt vs Qd (Itl X.K a) σ H := by
  rw [c.K]
  exact lc_own Inv c hk (walk_list (xs := xs)) hn O h0 (fun G' C' H' s O' => sql_up O' (s.seq hq)) (fun m x acc G' C' A H1 H2 hm iv hy O' s X' c' => by
    obtain ⟨rfl, hx⟩ := hy
    exact hs m x acc G' C' A _ hx iv O' s X' c') hd
theorem take_flat {α β : Type} {f : α → List β} {ws : List α} {m : Nat} {p : α} (h : ws[m]? = some p) : (ws.take (m + 1)).flatMap f = (ws.take m).flatMap f ++ f p := by
  rw [List.take_add_one, h, List.flatMap_append]; simp
theorem take_filt {α : Type} {P : α → Bool} {ws : List α} {m : Nat} {p : α} (h : ws[m]? = some p) : (ws.take (m + 1)).filter P = (ws.take m).filter P ++ (if P p = true then [p] else []) := by
  rw [List.take_add_one, h, List.filter_append]
  cases e : P p <;> simp [e]
theorem take_map {α β : Type} {f : α → β} {ws : List α} {m : Nat} {p : α} (h : ws[m]? = some p) : (ws.take (m + 1)).map f = (ws.take m).map f ++ [f p] := by
  rw [List.take_add_one, h, List.map_append]; rfl
theorem own_now (O : Own G C H) {G0 : Hp} (s : Same G0 G) : ∃ G', Own G' C H ∧ Same G0 G' := ⟨G, O, s⟩
end
end Go

namespace Go
open PySem PySem.Spec PyProof.Rows L2

/-! data: what is equal -/
def Shal (n : Nat) (d : PyData) : Prop := d.plain = true ∧ d.depth ≤ n
theorem shal_non {n : Nat} : Shal (n + 1) .none := ⟨rfl, by simp [PyData.depth]⟩
theorem shal_bl {n : Nat} {b : Bool} : Shal (n + 1) (.bool b) := ⟨rfl, by simp [PyData.depth]⟩
theorem shal_int {n : Nat} {i : Int} : Shal (n + 1) (.int i) := ⟨rfl, by simp [PyData.depth]⟩
theorem shal_str {n : Nat} {x : Str} : Shal (n + 1) (.str x) := ⟨rfl, by simp [PyData.depth]⟩
theorem shal_all {n : Nat} : ∀ {xs : List PyData}, (∀ x ∈ xs, Shal n x) → PyData.plainAll xs = true ∧ PyData.depthAll xs ≤ n
  | [], _ => ⟨rfl, by simp [PyData.depthAll]⟩
  | x :: xs, h => by
    obtain ⟨h1, h2⟩ := h x List.mem_cons_self
    obtain ⟨h3, h4⟩ := shal_all (xs := xs) fun y hy => h y (List.mem_cons_of_mem _ hy)
    exact ⟨by rw [PyData.plainAll, h1, h3]; rfl, by rw [PyData.depthAll]; omega⟩
theorem shal_list {n : Nat} {xs : List PyData} (h : ∀ x ∈ xs, Shal n x) : Shal (n + 1) (.list xs) := by
  obtain ⟨h1, h2⟩ := shal_all h
  exact ⟨h1, by rw [PyData.depth]; omega⟩
theorem shal_tup {n : Nat} {xs : List PyData} (h : ∀ x ∈ xs, Shal n x) : Shal (n + 1) (.tuple xs) := by
  obtain ⟨h1, h2⟩ := shal_all h
  exact ⟨h1, by rw [PyData.depth]; omega⟩
theorem Shal.up {n m : Nat} {d : PyData} (h : Shal n d) (k : n ≤ m) : Shal m d := ⟨h.1, Nat.le_trans h.2 k⟩
theorem all_nil {p : PyData → Prop} : ∀ x ∈ ([] : List PyData), p x := fun _ h => nomatch h
theorem all_cons {p : PyData → Prop} {d : PyData} {ds : List PyData} (h : p d) (t : ∀ x ∈ ds, p x) : ∀ x ∈ d :: ds, p x := fun x hx => by
  rcases List.mem_cons.mp hx with rfl | hx
  · exact h
  · exact t x hx
theorem all_map {α : Type} {p : PyData → Prop} {f : α → PyData} (h : ∀ a, p (f a)) (l : List α) : ∀ x ∈ l.map f, p x := fun x hx => by
  obtain ⟨a, _, rfl⟩ := List.mem_map.mp hx
  exact h a
theorem dp_map {α : Type} {K : PySem.W.Frag} {H : Hp} {f : α → V} {g : α → PyData} (h : ∀ a, Dp K H (f a) (g a)) : ∀ l : List α, DpAll K H (l.map f) (l.map g)
  | [] => .nil
  | a :: l => .cons (h a) (dp_map h l)
section
variable {X : Cx} {P : Program} {w : World} {K : PySem.W.Frag} {mg : Str → Option Value} {base : Heap} {N : List Str} {nm : List (Str × NameKind)} {j : Nat} {σ σ' : L2.St} {H G : Hp} {Q : VK}
theorem o_eqP (c : CI X P w K mg base N nm j) {x y : V} {d e : PyData} (hx : Dp K H x d) (hy : Dp K H y e) (h1 : Shal 64 d) (h2 : Shal 64 e) (h : Q (.bl (PyData.eqv d e)) H) : oS X (compareOp .Eq) x y H Q := by
  refine ⟨fun x y H Q => ∃ d e, Dp X.K H x d ∧ Dp X.K H y e ∧ Shal 64 d ∧ Shal 64 e ∧ Q (.bl (PyData.eqv d e)) H, ?_, d, e, by rw [c.K]; exact hx, by rw [c.K]; exact hy, h1, h2, h⟩
  intro pins s σ H x y v u Q I rx ry h
  obtain ⟨d, e, hd, he, sd, se, q⟩ := h
  obtain ⟨as, r1⟩ := Dp.reads I d x v hd rx
  obtain ⟨bs, r2⟩ := Dp.reads I e y u he ry
  have := c.u64
  have := sd.2
  exact PySem.SeqAt.eq_plain r1 r2 sd.1 se.1 (by omega) ⟨.bl _, H, I, rfl, q⟩
theorem o_neP (c : CI X P w K mg base N nm j) {x y : V} {d e : PyData} (hx : Dp K H x d) (hy : Dp K H y e) (h1 : Shal 64 d) (h2 : Shal 64 e) (h : Q (.bl (!PyData.eqv d e)) H) : oS X (compareOp .NotEq) x y H Q := by
  refine ⟨fun x y H Q => ∃ d e, Dp X.K H x d ∧ Dp X.K H y e ∧ Shal 64 d ∧ Shal 64 e ∧ Q (.bl (!PyData.eqv d e)) H, ?_, d, e, by rw [c.K]; exact hx, by rw [c.K]; exact hy, h1, h2, h⟩
  intro pins s σ H x y v u Q I rx ry h
  obtain ⟨d, e, hd, he, sd, se, q⟩ := h
  obtain ⟨as, r1⟩ := Dp.reads I d x v hd rx
  obtain ⟨bs, r2⟩ := Dp.reads I e y u he ry
  have := c.u64
  have := sd.2
  exact PySem.SeqAt.ne_plain r1 r2 sd.1 se.1 (by omega) ⟨.bl _, H, I, rfl, q⟩
theorem o_eqSame (c : CI X P w K mg base N nm j) {x y : V} {d : PyData} (hx : Dp K H x d) (hy : Dp K H y d) (h1 : Shal 64 d) (h : Q (.bl true) H) : oS X (compareOp .Eq) x y H Q :=
  o_eqP c hx hy h1 h1 (by rw [PySem.SeqAt.eqv_refl_plain _ h1.1]; exact h)
theorem o_neSame (c : CI X P w K mg base N nm j) {x y : V} {d : PyData} (hx : Dp K H x d) (hy : Dp K H y d) (h1 : Shal 64 d) (h : Q (.bl false) H) : oS X (compareOp .NotEq) x y H Q :=
  o_neP c hx hy h1 h1 (by rw [PySem.SeqAt.eqv_refl_plain _ h1.1]; exact h)
end
end Go

namespace Go
open PySem PySem.Spec PyProof.Rows L2

theorem i_true {p : Prop} [Decidable p] {A B : Prop} (h : p) (k : A) : if decide p = true then A else B := by rw [if_pos (decide_eq_true h)]; exact k
theorem i_false {p : Prop} [Decidable p] {A B : Prop} (h : ¬ p) (k : B) : if decide p = true then A else B := by rw [if_neg (by simpa using h)]; exact k
/-! how often a sign is in a text -/
theorem sub_one (w : List Nat) (c i : Nat) : Builtin.Str.subAt (S w) (S [c]) i = decide (w[i]? = some c) := by
  have e1 : (S w).cps = w.toArray := rfl
  have e2 : (S [c]).cps = #[c] := rfl
  have e3 : (S [c]).length = 1 := rfl
  unfold Builtin.Str.subAt
  rw [e1, e2, e3, Bool.eq_iff_iff, beq_iff_eq, decide_eq_true_eq]
  have e4 : (w.toArray.extract i (i + 1)) = ((w.drop i).take 1).toArray := by
    simp [List.extract_toArray, List.extract_eq_drop_take]
  rw [e4]
  constructor
  · intro h
    have h : (w.drop i).take 1 = [c] := by simpa using congrArg Array.toList h
    have := congrArg (fun l : List Nat => l[0]?) h
    simpa [List.getElem?_take, List.getElem?_drop] using this
  · intro h
    have hi := (List.getElem?_eq_some_iff.mp h)
    obtain ⟨hl, hv⟩ := hi
    rw [List.drop_eq_getElem_cons hl, hv]; rfl
theorem occ_cnt (w : List Nat) (c : Nat) : ∀ (k i : Nat) (st : Array Nat × Nat), i + k = w.length + 1 → st.2 ≤ i → st.1.size ≤ i → (forIn (List.range' i k) st (StrLaws.occBody (S w) (S [c]) w.length (w.length + 1))).run.fst.size = st.1.size + (w.drop i).count c
  | 0, i, st, h, _, _ => by
    rw [List.drop_eq_nil_of_le (by omega)]
    show st.1.size = _
    simp
  | k + 1, i, st, h, h1, h2 => by
    rw [List.range'_succ, List.forIn_cons]
    unfold StrLaws.occBody
    rw [sub_one, show (S [c]).length = 1 from rfl]
    by_cases e : w[i]? = some c
    · obtain ⟨hl, hv⟩ := List.getElem?_eq_some_iff.mp e
      rw [if_pos ⟨⟨⟨by omega, h1⟩, by omega⟩, decide_eq_true e⟩]
      have ih := occ_cnt w c k (i + 1) (st.1.push i, i + 1) (by omega) (Nat.le_refl _) (by simp; omega)
      refine Eq.trans ih ?_
      rw [List.drop_eq_getElem_cons hl, hv]
      simp; omega
    · rw [if_neg (fun q => e (of_decide_eq_true q.2))]
      have ih := occ_cnt w c k (i + 1) (st.1, st.2) (by omega) (by simp; omega) (by simp; omega)
      refine Eq.trans ih ?_
      by_cases hl : i < w.length
      · rw [List.drop_eq_getElem_cons hl]
        have hv : w[i] ≠ c := fun q => e (by rw [List.getElem?_eq_getElem hl, q])
        rw [List.count_cons_of_ne hv]
      · rw [List.drop_eq_nil_of_le (by omega), List.drop_eq_nil_of_le (by omega)]
theorem txt_count (w : List Nat) (c : Nat) : Txt.count (S w) (S [c]) = ((w.count c : Nat) : Int) := by
  unfold Txt.count
  rw [StrLaws.occ_eq, S_len]
  have := occ_cnt w c (w.length + 1) 0 (#[], 0) (by omega) (Nat.le_refl _) (Nat.le_refl _)
  rw [Array.length_toList, show w.length + 1 - 0 = w.length + 1 by omega, this]
  simp
theorem occ_abc : ∀ k : Fin 26, Builtin.Str.occurrences (S (cs "abcdefghijklmnopqrstuvwxyza")) (S [97 + k.val]) 0 (S (cs "abcdefghijklmnopqrstuvwxyza")).length 1 = [k.val] := by decide +kernel
section
variable {X : Cx} {P : Program} {w : World} {K : PySem.W.Frag} {mg : Str → Option Value} {base : Heap} {N : List Str} {nm : List (Str × NameKind)} {j : Nat} {σ σ' : L2.St} {H G : Hp} {Q : VK} {pos p p2 pe : Pos} {a b e : Expr}
theorem m_count1 {w : List Nat} {c : Nat} (h : Q (.int (w.count c : Nat)) H) : mS X "str.count" (.str (S w)) [.str (S [c])] H Q := ⟨_, mt_count, _, _, rfl, rfl, by rw [txt_count]; exact h⟩
theorem m_count0 {w : List Nat} (h : Q (.int (w.count 48 : Nat)) H) : mS X "str.count" (.str (S w)) [.str (S (cs "0"))] H Q := by rw [show cs "0" = [48] by decide +kernel]; exact m_count1 h
theorem m_countI {w : List Nat} (h : Q (.int (w.count 49 : Nat)) H) : mS X "str.count" (.str (S w)) [.str (S (cs "1"))] H Q := by rw [show cs "1" = [49] by decide +kernel]; exact m_count1 h
theorem m_indexA {x : Nat} (h1 : 97 ≤ x ∧ x ≤ 122) (h : Q (.int (x - 97 : Nat)) H) : mS X "str.index" (.str (S (cs "abcdefghijklmnopqrstuvwxyza"))) [.str (S [x])] H Q := by
  have e := occ_abc ⟨x - 97, by omega⟩
  simp only [show 97 + (x - 97) = x by omega] at e
  exact ⟨_, mt_sindex, _, _, _, _, rfl, rfl, e, h⟩
theorem sw_cell {elt : Expr} {gs : List Comprehension} {scope : Scope} {pos py : Pos} {y : Str} {l : Nat} {env : Env} (hy : env.scope.names.lookup y = some .cell) : swapsWith (.ListComp elt gs scope pos) (some (.Name y py)) l env = pure false := by
  have ky : env.kindOf y = some .cell := hy
  unfold swapsWith
  simp only [ky, show (some NameKind.cell == some NameKind.local) = false from rfl, Bool.and_false, Bool.false_and]
theorem s_setC {D : Ends} {elt : Expr} {gs : List Comprehension} {scope : Scope} {spos : Pos} (c : CI X P w K mg base N nm j) {y : Str} {i : Nat} (hi : Ix N y i) (hy : nm.lookup y = some NameKind.cell) (h : eS X (.ListComp elt gs scope pos) σ H fun v H1 => D.nx (σ.set i (some v)) H1) : sS X (.Assign [.Name y p] (.ListComp elt gs scope pos) spos) D σ H :=
  s_set c (sw_cell (c.ce _ hy).1) hi (by unfold locB; rw [hy]; rfl) h
/-- list(range(a)) -/
def rgL (n : Nat) : List Int := (List.range n).map fun i => ((i : Nat) : Int)
theorem e_listRg1 (c : CI X P w K mg base N nm j) (g1 : glB nm "list" = true) (m1 : mg "list" = none) (g2 : glB nm "range" = true) (m2 : mg "range" = none) (hs : starEach [a] X.env = [(false, eval a X.env)])
    (hs2 : starEach [.Call (.Name "range" p2) [a] [] pe] X.env = (false, eval (.Call (.Name "range" p2) [a] [] pe) X.env) :: starEach [] X.env)
    (h : eS X a σ H fun x H1 => ∃ n : Int, x = .int n ∧ 0 ≤ n ∧ n ≤ 1000000 ∧ ∀ q H', New H1 q (.lst ((rgL n.toNat).map V.int)) H' → Q (.ref q) H') : eS X (.Call (.Name "list" p) [.Call (.Name "range" p2) [a] [] pe] [] pos) σ H Q :=
  ⟨_, pe_listRg c.calm (c.gl g1) (by rw [c.mg]; exact m1) (prg_1 (c.gl g2) (by rw [c.mg]; exact m2) eS_is hs) hs2, eS_mono h fun x H1 ⟨n, e, h0, h1, q⟩ => ⟨n, e, RgOk.of_le (by omega) (by omega) (by omega) (by omega), fun q' hq => q q' _ ⟨hq, by
    have e : rgV 0 n = (rgL n.toNat).map V.int := by
      unfold rgV rgL
      rw [List.map_map, show (n - 0).toNat = n.toNat by omega]
      exact List.map_congr_left fun i _ => by show V.int (0 + (i : Int)) = V.int i; rw [Int.zero_add]
    rw [e]⟩⟩⟩
end
end Go

namespace Go
open PySem PySem.Spec PyProof.Rows L2

/-- the signs of two texts side by side, in new pairs -/
def Itzs (x y : Str) : It := ⟨fun i _ => i < x.cps.size ∧ i < y.cps.size, fun i H v H' => ∃ T c d, v = .ref T ∧ H T = none ∧ H' = upd H T (.tup [.str ⟨#[c]⟩, .str ⟨#[d]⟩]) ∧ x.cps[i]? = some c ∧ y.cps[i]? = some d, fun i _ => x.cps.size ≤ i ∨ y.cps.size ≤ i⟩
theorem turn_zipS {P : Program} {w : World} {K : PySem.W.Frag} {elts : List Expr} {kk : Nat} {tpos : Pos} (z TI TO i1 i2 : Addr) (x y : Str) (t u : Tok) (S : ZipSep2 z TI TO i1 i2 [i1] [i2]) :
    Turn P w K (.Tuple elts kk tpos) (Itzs x y) [z, TI, TO, i1, i2] z (fun i h => (i ≤ x.cps.size ∧ i ≤ y.cps.size) ∧ IsZip h z TI TO .none ∧ IsTupOf2 h TI (.ref i1) (.ref i2) ∧ (∃ a b, IsTupOf2 h TO a b) ∧ h.IsStrIter i1 (strIterType x) x t i ∧ h.IsStrIter i2 (strIterType y) y u i) where
  mem := by simp
  obj := fun i h st c hc => by
    obtain ⟨_, hz, hTI, ⟨a, b, hTO⟩, ⟨o1, e1, _, d1⟩, ⟨o2, e2, _, d2⟩⟩ := st
    have e' : c = z ∨ c = TI ∨ c = TO ∨ c = i1 ∨ c = i2 := by simpa using hc
    rcases e' with q | q | q | q | q
    · rw [q]; exact ⟨_, hz, fun v q => nomatch q⟩
    · rw [q]; exact ⟨_, hTI, fun v q => nomatch q⟩
    · rw [q]; exact ⟨_, hTO, fun v q => nomatch q⟩
    · rw [q]; exact ⟨o1, e1, fun v q => by rw [d1] at q; cases q⟩
    · rw [q]; exact ⟨o2, e2, fun v q => by rw [d2] at q; cases q⟩
  keep := fun i h h' st k => by
    obtain ⟨hl, hz, hTI, ⟨a, b, hTO⟩, ⟨o1, e1, r1⟩, ⟨o2, e2, r2⟩⟩ := st
    exact ⟨hl, k z (by simp) _ hz, k TI (by simp) _ hTI, ⟨a, b, k TO (by simp) _ hTO⟩, ⟨o1, k i1 (by simp) _ e1, r1⟩, ⟨o2, k i2 (by simp) _ e2, r2⟩⟩
  item := by
    intro X hP hw hK hc i pins s σ H E I hf st hg
    subst hP hw hK
    obtain ⟨hl, hz, hTI, ⟨a0, b0, hTO⟩, h1, h2⟩ := st
    have D1 : Draws X.prog X.w X.A.in1 i1 [i1] x.cps.size (fun i v => ∃ c u, x.cps[i]? = some c ∧ v = .str ⟨#[c]⟩ u) (fun i h => h.IsStrIter i1 (strIterType x) x t i) := Draws.text (show X.A.in1.handled = none from I.ok.hd hc) i1 x t
    have D2 : Draws X.prog X.w X.A.in1 i2 [i2] y.cps.size (fun i v => ∃ c u, y.cps[i]? = some c ∧ v = .str ⟨#[c]⟩ u) (fun i h => h.IsStrIter i2 (strIterType y) y u i) := Draws.text (show X.A.in1.handled = none from I.ok.hd hc) i2 y u
    have hzl : z < s.heap.objs.size := Heap.lt_size hz
    refine wpAny_pyNext_zipD2_item S D1 D2 hz hTI hTO h1 h2 hg.1 hg.2 fun x1 x2 h' tk p1 p2 z' TO' h1' h2' hT hsz hk => ?_
    obtain ⟨c1, u1, hc1, rfl⟩ := p1
    obtain ⟨c2, u2, hc2, rfl⟩ := p2
    refine ⟨_, rfl, wpAny_letOwnedTupleGo_zip (s := { s with heap := h', toks := tk }) z' fun h'' z'' sb => ?_⟩
    have hT2 : h''.get? s.heap.objs.size = some { cls := .type "tuple", data := .seq #[.str ⟨#[c1]⟩ u1, .str ⟨#[c2]⟩ u2] } := (sb.2 _ (Nat.ne_of_gt hzl)).trans hT
    have new : ObjOk X.prog X.w (upd H s.heap.objs.size (.tup [.str ⟨#[c1]⟩, .str ⟨#[c2]⟩])) h'' s.heap.objs.size (.tup [.str ⟨#[c1]⟩, .str ⟨#[c2]⟩]) :=
      ⟨by show 2 ≤ sizeLine; decide, [.str ⟨#[c1]⟩ u1, .str ⟨#[c2]⟩ u2], .cons ⟨_, rfl⟩ (.cons ⟨_, rfl⟩ .nil), ⟨_, hT2, rfl, _, rfl⟩⟩
    have I1 : Inv X pins σ (upd H s.heap.objs.size (.tup [.str ⟨#[c1]⟩, .str ⟨#[c2]⟩])) { s with heap := h'', toks := tk } :=
      I.turnedNew (ch := [z, TI, TO, i1, i2]) (fun c o hb q => (sb.2 c (fun q' => hb (by simp [q']))).trans (hk c o (fun q' => hb (by simp [q'])) (fun q' => hb (by simp [q'])) (fun q' => hb (by simp [q'])) (fun q' => hb (by simp [q'])) q)) hf (Nat.le_refl _) new
    refine ⟨.ref s.heap.objs.size, _, I1, rfl, ⟨_, c1, c2, rfl, I.hok.fresh (Nat.le_refl _), rfl, hc1, hc2⟩, ⟨hg, z'', ?_, ⟨.str ⟨#[c1]⟩ u1, .str ⟨#[c2]⟩ u2, ?_⟩, ?_, ?_⟩, fun c hcm => ?_⟩
    · exact (sb.2 _ S.TIz).trans (hk _ _ S.TIz S.TITO S.TIi1 S.TIi2 hTI)
    · exact (sb.2 _ S.TOz).trans TO'
    · obtain ⟨o, ho, r⟩ := h1'
      exact ⟨o, (sb.2 _ S.zi1.symm).trans ho, r⟩
    · obtain ⟨o, ho, r⟩ := h2'
      exact ⟨o, (sb.2 _ S.zi2.symm).trans ho, r⟩
    · have hlt : c < s.heap.objs.size := by
        have e' : c = z ∨ c = TI ∨ c = TO ∨ c = i1 ∨ c = i2 := by simpa using hcm
        rcases e' with q | q | q | q | q
        · rw [q]; exact hzl
        · rw [q]; exact Heap.lt_size hTI
        · rw [q]; exact Heap.lt_size hTO
        · rw [q]; obtain ⟨_, e1, _⟩ := h1; exact Heap.lt_size e1
        · rw [q]; obtain ⟨_, e2, _⟩ := h2; exact Heap.lt_size e2
      rw [upd_ne (Nat.ne_of_lt hlt)]
      exact (hf c hcm).1
  done := by
    intro X hP hw hK hc i pins s σ H E I hf st hg
    subst hP hw hK
    obtain ⟨hl, hz, hTI, ⟨a0, b0, hTO⟩, h1, h2⟩ := st
    have D1 : Draws X.prog X.w X.A.in1 i1 [i1] x.cps.size (fun i v => ∃ c u, x.cps[i]? = some c ∧ v = .str ⟨#[c]⟩ u) (fun i h => h.IsStrIter i1 (strIterType x) x t i) := Draws.text (show X.A.in1.handled = none from I.ok.hd hc) i1 x t
    have D2 : Draws X.prog X.w X.A.in1 i2 [i2] y.cps.size (fun i v => ∃ c u, y.cps[i]? = some c ∧ v = .str ⟨#[c]⟩ u) (fun i h => h.IsStrIter i2 (strIterType y) y u i) := Draws.text (show X.A.in1.handled = none from I.ok.hd hc) i2 y u
    have he : i = x.cps.size ∨ i = y.cps.size := by
      have hg : x.cps.size ≤ i ∨ y.cps.size ≤ i := hg
      omega
    exact wpAny_pyNext_zipD2_end S D1 D2 hz hTI hTO h1 h2 hl.1 hl.2 he fun h' tk hk => ⟨rfl, I.turnedL (ch := [z, TI, TO, i1, i2]) (fun c o hb q =>
      hk c o (fun q' => hb (by simp [q'])) (fun q' => hb (by simp [q'])) (fun q' => hb (by simp [q'])) (fun q' => hb (by simp [q'])) q) hf⟩
  self := fun A i s Q E st h => wpAny_pyIter_zip st.2.1 h
def iZipS (ta : TA) : TI := fun σ H R => ta σ H fun vs H1 => ∃ x y, vs = [.str x, .str y] ∧ R (Itzs x y) H1
theorem pi_zipS {X : Cx} {e e2 : Expr} {ta : TA} {p pos tpos : Pos} {elts : List Expr} {kk : Nat} (hg : Gl X "zip") (hm : X.mg "zip" = none) (ha : PA X [e, e2] ta)
    (hs : starEach [e, e2] X.env = (false, eval e X.env) :: starEach [e2] X.env := by rfl) (hpl : (backTo pos (starEach [e2] X.env)).any (·.1) = false := by rfl) :
    PI X (.Tuple elts kk tpos) (.Call (.Name "zip" p) [e, e2] [] pos) (iZipS ta) := by
  refine ⟨fun pins s σ H R I h => ?_⟩
  refine Call_ (ld_blt I hg hm PyProof.Rows.boot_zip (PyProof.Rows.callWith_type1 (thn (ha.run pos pins s σ H _ I h) fun us s1 ⟨vs, H1, I1, r1, q1⟩ => ?_) hs hpl))
  obtain ⟨x, y, ex, q⟩ := q1
  subst ex
  cases r1 with
  | cons r rr =>
    cases rr with
    | cons r' rr =>
      cases rr
      obtain ⟨t, rfl⟩ := r
      obtain ⟨u, rfl⟩ := r'
      refine zip_begins2 (begins_text x t) (begins_text y u) trivial trivial fun h' hz hTI hTO h1 h2 hsz hk => wpAny_pyIter_zip hz ?_
      have I2 : Inv X pins σ H1 { s1 with heap := h' } := I1.kept (t' := s1.toks) hk
      have S : ZipSep2 (s1.heap.objs.size + 4) (s1.heap.objs.size + 2) (s1.heap.objs.size + 3) s1.heap.objs.size (s1.heap.objs.size + 1) [s1.heap.objs.size] [s1.heap.objs.size + 1] := by
        constructor <;> (first | simp | omega | (simp; omega))
      refine ⟨s1.heap.objs.size + 4, [s1.heap.objs.size + 4, s1.heap.objs.size + 2, s1.heap.objs.size + 3, s1.heap.objs.size, s1.heap.objs.size + 1], _, _, H1, rfl, I2, turn_zipS _ _ _ _ _ x y t u S, ⟨⟨Nat.zero_le _, Nat.zero_le _⟩, hz, hTI, ⟨_, _, hTO⟩, ⟨_, h1, rfl, rfl⟩, ⟨_, h2, rfl, rfl⟩⟩, fun c hcm => ?_, q⟩
      have e' : c = s1.heap.objs.size + 4 ∨ c = s1.heap.objs.size + 2 ∨ c = s1.heap.objs.size + 3 ∨ c = s1.heap.objs.size ∨ c = s1.heap.objs.size + 1 := by simpa using hcm
      have hle : s1.heap.objs.size ≤ c := by
        rcases e' with z | z | z | z | z
        · rw [z]; exact Nat.le_add_right _ _
        · rw [z]; exact Nat.le_add_right _ _
        · rw [z]; exact Nat.le_add_right _ _
        · rw [z]; exact Nat.le_refl _
        · rw [z]; exact Nat.le_add_right _ _
      exact I1.fpOk hle (I1.hok.fresh hle)
theorem walk_zipS {x y : Str} : Walk (Itzs x y) (min x.cps.size y.cps.size) (fun _ => True) (fun i H v H' => ∃ T c d, v = .ref T ∧ H T = none ∧ H' = upd H T (.tup [.str ⟨#[c]⟩, .str ⟨#[d]⟩]) ∧ x.cps[i]? = some c ∧ y.cps[i]? = some d) :=
  ⟨fun _ _ h _ => ⟨by omega, by omega⟩, fun _ _ => by show _ ≤ _ ∨ _ ≤ _; omega, fun _ _ _ _ _ _ y => y⟩
section
variable {X : Cx} {P : Program} {w : World} {K : PySem.W.Frag} {mg : Str → Option Value} {base : Heap} {N : List Str} {nm : List (Str × NameKind)} {j : Nat} {σ σ' : L2.St} {H G : Hp} {Q : VK} {D : Ends} {pos p tpos : Pos} {C : List (Addr × HO)} {elts : List Expr} {kk : Nat} {a b : Expr} {body : List Stmt}
theorem i_zipS (c : CI X P w K mg base N nm j) {R : It → Hp → Prop} (hg : glB nm "zip" = true) (hm : mg "zip" = none) (hs : starEach [a, b] X.env = (false, eval a X.env) :: starEach [b] X.env) (hpl : (backTo pos (starEach [b] X.env)).any (·.1) = false) (hs2 : starEach [b] X.env = (false, eval b X.env) :: starEach [] X.env)
    (h : eS X a σ H fun x H1 => eS X b σ H1 fun y H2 => ∃ z1 z2, x = .str (S z1) ∧ y = .str (S z2) ∧ R (Itzs (S z1) (S z2)) H2) :
    iS X (.Tuple elts kk tpos) (.Call (.Name "zip" p) [a, b] [] pos) σ H R :=
  ⟨_, pi_zipS (c.gl hg) (by rw [c.mg]; exact hm) (pa_cons eS_is (pa_cons eS_is pa_nil hs2) hs) hs hpl, eS_mono h fun _ _ h => eS_mono h fun _ _ ⟨z1, z2, e1, e2, r⟩ => ⟨_, _, by rw [e1, e2], r⟩⟩
/-- for (x, y) in zip(text, text): each turn a new pair -/
theorem on_zipS {z1 z2 : List Nat} (Pv : Nat → L2.St → Hp → Prop) (h0 : Pv 0 σ H)
    (hs : ∀ i x y σ H T H', z1[i]? = some x → z2[i]? = some y → Pv i σ H → New H T (.tup [.str (S [x]), .str (S [y])]) H' → gS X (.Tuple elts kk tpos) (.ref T) σ H' fun σ2 H2 => bS X body { D with nx := Pv (i + 1), ct := Pv (i + 1), bk := D.nx } σ2 H2) (hd : ∀ σ H, Pv (min z1.length z2.length) σ H → D.nx σ H) :
    ForOn X (.Tuple elts kk tpos) body D (Itzs (S z1) (S z2)) σ H := ⟨_, _, _, walk_zipS, Pv, h0, fun _ _ _ _ _ => True.intro, fun i x σ H H' hi p ⟨T, c1, c2, e1, e2, e3, hc1, hc2⟩ => by
      subst e1
      exact hs i c1 c2 σ _ T H' (by simpa [S] using hc1) (by simpa [S] using hc2) p ⟨e2, e3⟩, fun σ H p => hd σ H (by simpa [S] using p)⟩
/-- a comprehension over zip(text, text) -/
theorem lc_zipS {tg elt : Expr} {ifs : List Expr} {scope : Scope} {vs : List Nat} {z1 z2 : List Nat} {Qd : Addr → Hp → Prop} (Inv : Nat → List V → Hp → List (Addr × HO) → Prop) (c : CI X P w K mg base N nm j) (hk : scope.kind = .function) (hn : z1.length ≤ 1000000) (O : Own G C H) (h0 : Inv 0 [] G C)
    (hs : ∀ m x y acc G' C' A H1 T H2, z1[m]? = some x → z2[m]? = some y → Inv m acc G' C' → Own G' ((A, .lst acc) :: C') H1 → New H1 T (.tup [.str (S [x]), .str (S [y])]) H2 → Same G G' → ∀ X', CI X' P w K mg base N scope.names j → gS X' tg (.ref T) (wipe σ vs) H2 fun σ2 H3 => wipe σ2 vs = wipe σ vs ∧ ∀ X', CI X' P w K mg base N scope.names j → tsS X' ifs σ2 H3 fun b H4 =>
      if b = true then ∀ X', CI X' P w K mg base N scope.names j → eS X' elt σ2 H4 fun y H5 => ∃ G4 C4, Own G4 ((A, .lst acc) :: C4) H5 ∧ Same G' G4 ∧ Inv (m + 1) (acc ++ [y]) G4 C4 else ∃ G4 C4, Own G4 ((A, .lst acc) :: C4) H4 ∧ Same G' G4 ∧ Inv (m + 1) acc G4 C4)
    (hd : ∀ acc G' C' A H', acc.length ≤ min z1.length z2.length → Inv (min z1.length z2.length) acc G' C' → Own G' ((A, .lst acc) :: C') H' → Same G G' → Qd A H') : LcOn X scope tg ifs elt vs Qd (Itzs (S z1) (S z2)) σ H := by
  have e1 : (S z1).cps.size = z1.length := by simp [S]
  have e2 : (S z2).cps.size = z2.length := by simp [S]
  refine lc_own Inv c hk walk_zipS (by rw [e1, e2]; omega) O h0 (fun _ _ _ _ _ => True.intro) (fun m x acc G' C' A H1 H2 hm iv hy O' s X' c' => ?_) (fun acc G' C' A H' h1 h2 => hd acc G' C' A H' (by rw [← e1, ← e2]; exact h1) (by rw [← e1, ← e2]; exact h2))
  obtain ⟨T, c1, c2, rfl, f1, f2, hc1, hc2⟩ := hy
  exact hs m c1 c2 acc G' C' A H1 T H2 (by simpa [S] using hc1) (by simpa [S] using hc2) iv O' ⟨f1, f2⟩ s X' c'
/-- .. over a text -/
theorem lc_str {tg elt : Expr} {ifs : List Expr} {scope : Scope} {vs : List Nat} {z : List Nat} {Qd : Addr → Hp → Prop} (Inv : Nat → List V → Hp → List (Addr × HO) → Prop) (c : CI X P w K mg base N nm j) (hk : scope.kind = .function) (hn : z.length ≤ 1000000) (O : Own G C H) (h0 : Inv 0 [] G C)
    (hs : ∀ m x acc G' C' A H1, z[m]? = some x → Inv m acc G' C' → Own G' ((A, .lst acc) :: C') H1 → Same G G' → ∀ X', CI X' P w K mg base N scope.names j → gS X' tg (.str (S [x])) (wipe σ vs) H1 fun σ2 H3 => wipe σ2 vs = wipe σ vs ∧ ∀ X', CI X' P w K mg base N scope.names j → tsS X' ifs σ2 H3 fun b H4 =>
      if b = true then ∀ X', CI X' P w K mg base N scope.names j → eS X' elt σ2 H4 fun y H5 => ∃ G4 C4, Own G4 ((A, .lst acc) :: C4) H5 ∧ Same G' G4 ∧ Inv (m + 1) (acc ++ [y]) G4 C4 else ∃ G4 C4, Own G4 ((A, .lst acc) :: C4) H4 ∧ Same G' G4 ∧ Inv (m + 1) acc G4 C4)
    (hd : ∀ acc G' C' A H', acc.length ≤ z.length → Inv z.length acc G' C' → Own G' ((A, .lst acc) :: C') H' → Same G G' → Qd A H') : LcOn X scope tg ifs elt vs Qd (Its (S z)) σ H := by
  have e1 : (S z).cps.size = z.length := by simp [S]
  refine lc_own Inv c hk walk_str (by rw [e1]; exact hn) O h0 (fun _ _ _ _ _ => True.intro) (fun m x acc G' C' A H1 H2 hm iv hy O' s X' c' => ?_) (fun acc G' C' A H' h1 h2 => hd acc G' C' A H' (by rw [← e1]; exact h1) (by rw [← e1]; exact h2))
  obtain ⟨rfl, ch, hc, rfl⟩ := hy
  exact hs m ch acc G' C' A _ (by simpa [S] using hc) iv O' s X' c'
theorem o_eqNil (c : CI X P w K mg base N nm j) {p q : Addr} {zs : List Nat} (hp : SqL K H p (zs.map fun x => V.str (S [x]))) (hq : SqL K H q []) (h : Q (.bl (decide (zs = []))) H) : oS X (compareOp .Eq) (.ref p) (.ref q) H Q :=
  o_eqP c (.lst hp (dp_map (g := fun x => PyData.str (S [x])) (fun _ => .str _) zs)) (.lst hq .nil) (shal_list (all_map (fun _ => shal_str) zs)) (shal_list all_nil) (by
    have e : PyData.eqv (.list (zs.map fun x => PyData.str (S [x]))) (.list []) = decide (zs = []) := by cases zs <;> simp [PyData.eqv, PyData.eqvAll]
    rw [e]; exact h)
end
end Go

namespace Go
open PySem PySem.Spec PyProof.Rows L2

section
variable {X : Cx} {P : Program} {w : World} {K : PySem.W.Frag} {mg : Str → Option Value} {base : Heap} {N : List Str} {nm : List (Str × NameKind)} {j : Nat} {σ σ' : L2.St} {H G : Hp} {Q : VK} {pos p : Pos}
/-! a module's constants -/
theorem e_gstr {x : Str} {z : List Nat} {t : Tok} (c : CI X P w K mg base N nm j) (hm : mg x = some (.str (S z) t)) (hg : glB nm x = true) (h : Q (.str (S z)) H) : eS X (.Name x pos) σ H Q :=
  ⟨_, pe_glob (c.gl hg) (by rw [c.mg]; exact hm) (show RelV (.str (S z)) _ from ⟨t, rfl⟩) (glB_d hg), h⟩
theorem e_gint {x : Str} {i : Int} {t : Tok} (c : CI X P w K mg base N nm j) (hm : mg x = some (.int i t)) (hg : glB nm x = true) (h : Q (.int i) H) : eS X (.Name x pos) σ H Q :=
  ⟨_, pe_glob (c.gl hg) (by rw [c.mg]; exact hm) (show RelV (.int i) _ from ⟨t, rfl⟩) (glB_d hg), h⟩
/-! the least, the greatest of data -/
theorem vals_get {xs : List V} {us : List Value} (r : Vals xs us) : ∀ (i : Nat) (u : Value), us[i]? = some u → ∃ x, xs[i]? = some x ∧ RelV x u := by
  induction r with
  | nil => intro i u h; simp at h
  | cons r rs ih =>
    intro i u h
    cases i with
    | zero => exact ⟨_, rfl, by have e := Option.some.inj h; rw [← e]; exact r⟩
    | succ i => exact ih i u h
theorem reads_get {h : Heap} {us : List Value} {ds : List PyData} {as : List Addr} (r : ReadsAll h us ds as) : ∀ (i : Nat) (u : Value), us[i]? = some u → ∃ d bs, ds[i]? = some d ∧ Reads h u d bs := by
  induction us generalizing ds as with
  | nil => intro i u h; simp at h
  | cons v vs ih =>
    intro i u h
    cases r with
    | cons r rs =>
      cases i with
      | zero => exact ⟨_, _, rfl, by have e := Option.some.inj h; rw [← e]; exact r⟩
      | succ i => exact ih rs i u h
theorem c_minP (c : CI X P w K mg base N nm j) {p : Addr} {xs : List V} {d : PyData} {ds : List PyData} (hp : SqL K H p xs) (hd : DpAll K H xs (d :: ds)) (ha : PySem.W.AlikeAll (d :: ds)) (hs : ∀ e ∈ d :: ds, Shal 16 e)
    (h : ∀ (i : Nat) (x : V), xs[i]? = some x → (d :: ds)[i]? = some (PySem.W.minD d ds) → Q x H) : cS X (.builtin "min") [.ref p] H Q := by
  refine ⟨fun vs H Q => ∃ (p : Addr) (xs : List V) (d : PyData) (ds : List PyData), vs = [.ref p] ∧ SqL X.K H p xs ∧ DpAll X.K H xs (d :: ds) ∧ PySem.W.AlikeAll (d :: ds) ∧ (∀ e ∈ d :: ds, Shal 16 e) ∧ ∀ (i : Nat) (x : V), xs[i]? = some x → (d :: ds)[i]? = some (PySem.W.minD d ds) → Q x H, ?_, p, xs, d, ds, rfl, by rw [c.K]; exact hp, by rw [c.K]; exact hd, ha, hs, h⟩
  intro pins s σ H vs us Q I r h
  obtain ⟨p, xs, d, ds, rfl, hp, hd, ha, hs, q⟩ := h
  obtain ⟨its, rv, hl, _⟩ := I.list hp
  rw [Vals.ref1 r]
  obtain ⟨as, rs⟩ := Dp.readsAll I _ _ _ hd rv
  have hu := c.u64
  have hdep := (shal_all hs).2
  refine PySem.W.min_list_data (I.ok.hd c.calm) hl.isList (by simpa using rs) ha (by omega) fun i v h' tk bs hi r2 hk => ?_
  have hi : its[i]? = some v := by simpa using hi
  obtain ⟨x, hx, rx⟩ := vals_get rv i v hi
  obtain ⟨e, cs, he, r3⟩ := reads_get rs i v hi
  have r4 := PyProof.Rows.Reads.keeps hk r3
  obtain ⟨e2, _⟩ := r4.unique _ _ r2
  exact ⟨x, H, I.kept (t' := tk) hk, rx, q i x hx (by rw [he, e2])⟩
theorem c_maxP (c : CI X P w K mg base N nm j) {p : Addr} {xs : List V} {d : PyData} {ds : List PyData} (hp : SqL K H p xs) (hd : DpAll K H xs (d :: ds)) (ha : PySem.W.AlikeAll (d :: ds)) (hs : ∀ e ∈ d :: ds, Shal 16 e)
    (h : ∀ (i : Nat) (x : V), xs[i]? = some x → (d :: ds)[i]? = some (PySem.W.maxD d ds) → Q x H) : cS X (.builtin "max") [.ref p] H Q := by
  refine ⟨fun vs H Q => ∃ (p : Addr) (xs : List V) (d : PyData) (ds : List PyData), vs = [.ref p] ∧ SqL X.K H p xs ∧ DpAll X.K H xs (d :: ds) ∧ PySem.W.AlikeAll (d :: ds) ∧ (∀ e ∈ d :: ds, Shal 16 e) ∧ ∀ (i : Nat) (x : V), xs[i]? = some x → (d :: ds)[i]? = some (PySem.W.maxD d ds) → Q x H, ?_, p, xs, d, ds, rfl, by rw [c.K]; exact hp, by rw [c.K]; exact hd, ha, hs, h⟩
  intro pins s σ H vs us Q I r h
  obtain ⟨p, xs, d, ds, rfl, hp, hd, ha, hs, q⟩ := h
  obtain ⟨its, rv, hl, _⟩ := I.list hp
  rw [Vals.ref1 r]
  obtain ⟨as, rs⟩ := Dp.readsAll I _ _ _ hd rv
  have hu := c.u64
  have hdep := (shal_all hs).2
  refine PySem.W.max_list_data (I.ok.hd c.calm) hl.isList (by simpa using rs) ha (by omega) fun i v h' tk bs hi r2 hk => ?_
  have hi : its[i]? = some v := by simpa using hi
  obtain ⟨x, hx, rx⟩ := vals_get rv i v hi
  obtain ⟨e, cs, he, r3⟩ := reads_get rs i v hi
  have r4 := PyProof.Rows.Reads.keeps hk r3
  obtain ⟨e2, _⟩ := r4.unique _ _ r2
  exact ⟨x, H, I.kept (t' := tk) hk, rx, q i x hx (by rw [he, e2])⟩
theorem S_list (z : List Nat) : (S z).cps.toList = z := by simp [S]
theorem alike_strs (zs : List Str) : PySem.W.AlikeAll (zs.map PyData.str) := PySem.W.alikeAll_datum zs
theorem lt_strs (a b : List Nat) : PySem.W.dataLt (.str (S a)) (.str (S b)) = decide (a < b) := by
  rw [PySem.W.dataLt_str, S_list, S_list]
/-- .. of one text, of two -/
theorem c_minS1 (c : CI X P w K mg base N nm j) {p : Addr} {a : List Nat} (hp : SqL K H p [.str (S a)]) (h : Q (.str (S a)) H) : cS X (.builtin "min") [.ref p] H Q :=
  c_minP c hp (.cons (.str _) .nil) (alike_strs [S a]) (all_cons shal_str all_nil) fun i x hx _ => by
    cases i with
    | zero => have e := Option.some.inj hx; rw [← e]; exact h
    | succ i => simp at hx
theorem c_maxS1 (c : CI X P w K mg base N nm j) {p : Addr} {a : List Nat} (hp : SqL K H p [.str (S a)]) (h : Q (.str (S a)) H) : cS X (.builtin "max") [.ref p] H Q :=
  c_maxP c hp (.cons (.str _) .nil) (alike_strs [S a]) (all_cons shal_str all_nil) fun i x hx _ => by
    cases i with
    | zero => have e := Option.some.inj hx; rw [← e]; exact h
    | succ i => simp at hx
theorem c_minS2 (c : CI X P w K mg base N nm j) {p : Addr} {a b : List Nat} (hp : SqL K H p [.str (S a), .str (S b)]) (h : Q (.str (S (if b < a then b else a))) H) : cS X (.builtin "min") [.ref p] H Q :=
  c_minP c hp (.cons (.str _) (.cons (.str _) .nil)) (alike_strs [S a, S b]) (all_cons shal_str (all_cons shal_str all_nil)) fun i x hx he => by
    have em : PySem.W.minD (.str (S a)) [.str (S b)] = .str (S (if b < a then b else a)) := by
      show (if PySem.W.dataLt (.str (S b)) (.str (S a)) = true then PyData.str (S b) else PyData.str (S a)) = _
      rw [lt_strs]
      by_cases q : b < a
      · rw [if_pos (decide_eq_true q), if_pos q]
      · rw [if_neg (by simpa using q), if_neg q]
    rw [em] at he
    match i, hx, he with
    | 0, hx, he =>
      have e1 := Option.some.inj hx
      have e2 : PyData.str (S a) = _ := Option.some.inj he
      rw [← e1, PyData.str.inj e2]; exact h
    | 1, hx, he =>
      have e1 := Option.some.inj hx
      have e2 : PyData.str (S b) = _ := Option.some.inj he
      rw [← e1, PyData.str.inj e2]; exact h
    | i + 2, hx, _ => simp at hx
theorem c_maxS2 (c : CI X P w K mg base N nm j) {p : Addr} {a b : List Nat} (hp : SqL K H p [.str (S a), .str (S b)]) (h : Q (.str (S (if a < b then b else a))) H) : cS X (.builtin "max") [.ref p] H Q :=
  c_maxP c hp (.cons (.str _) (.cons (.str _) .nil)) (alike_strs [S a, S b]) (all_cons shal_str (all_cons shal_str all_nil)) fun i x hx he => by
    have em : PySem.W.maxD (.str (S a)) [.str (S b)] = .str (S (if a < b then b else a)) := by
      show (if PySem.W.dataLt (.str (S a)) (.str (S b)) = true then PyData.str (S b) else PyData.str (S a)) = _
      rw [lt_strs]
      by_cases q : a < b
      · rw [if_pos (decide_eq_true q), if_pos q]
      · rw [if_neg (by simpa using q), if_neg q]
    rw [em] at he
    match i, hx, he with
    | 0, hx, he =>
      have e1 := Option.some.inj hx
      have e2 : PyData.str (S a) = _ := Option.some.inj he
      rw [← e1, PyData.str.inj e2]; exact h
    | 1, hx, he =>
      have e1 := Option.some.inj hx
      have e2 : PyData.str (S b) = _ := Option.some.inj he
      rw [← e1, PyData.str.inj e2]; exact h
    | i + 2, hx, _ => simp at hx
/-- .. of one pair of a number and a text, of two -/
def pairD (a : Int × List Nat) : PyData := .tuple [.int a.1, .str (S a.2)]
def pairO (a : Int × List Nat) : HO := .tup [.int a.1, .str (S a.2)]
theorem pairD_inj {a b : Int × List Nat} (h : pairD a = pairD b) : a = b := by
  unfold pairD at h
  simp only [PyData.tuple.injEq, List.cons.injEq, PyData.int.injEq, PyData.str.injEq, and_true] at h
  exact Prod.ext h.1 (S_inj.mp h.2)
theorem dp_pair {p : Addr} {a : Int × List Nat} (h : SqT K H p [.int a.1, .str (S a.2)]) : Dp K H (.ref p) (pairD a) := .tup h (.cons (.int _) (.cons (.str _) .nil))
theorem shal_pair {a : Int × List Nat} : Shal 16 (pairD a) := shal_tup (all_cons shal_int (all_cons shal_str all_nil))
def toTS (a : Int × List Nat) : Int × Str := (a.1, S a.2)
theorem alike_pairs (l : List (Int × List Nat)) : PySem.W.AlikeAll (l.map pairD) := by
  have h := PySem.W.alikeAll_datum (l.map toTS)
  rw [List.map_map] at h
  exact h
theorem lt_pairs (a b : Int × List Nat) : PySem.W.dataLt (pairD a) (pairD b) = decide (a.1 < b.1 ∨ (a.1 = b.1 ∧ a.2 < b.2)) := by
  have h := PySem.W.DatumOrd.lt_eq (toTS a) (toTS b)
  refine Eq.trans h ?_
  show (if a.1 = b.1 then decide ((S a.2).cps.toList < (S b.2).cps.toList) else decide (a.1 < b.1)) = _
  rw [S_list, S_list]
  by_cases e : a.1 = b.1
  · rw [if_pos e]; exact decide_eq_decide.mpr ⟨fun q => .inr ⟨e, q⟩, fun q => q.elim (fun z => by omega) fun z => z.2⟩
  · rw [if_neg e]; exact decide_eq_decide.mpr ⟨.inl, fun q => q.elim id fun z => absurd z.1 e⟩
theorem c_minT1 (c : CI X P w K mg base N nm j) {p t : Addr} (hp : SqL K H p [.ref t]) {a : Int × List Nat} (ha : SqT K H t [.int a.1, .str (S a.2)]) (h : Q (.ref t) H) : cS X (.builtin "min") [.ref p] H Q :=
  c_minP c hp (.cons (dp_pair ha) .nil) (alike_pairs [a]) (all_cons shal_pair all_nil) fun i x hx _ => by
    cases i with
    | zero => have e := Option.some.inj hx; rw [← e]; exact h
    | succ i => simp at hx
theorem c_minT2 (c : CI X P w K mg base N nm j) {p t u : Addr} (hp : SqL K H p [.ref t, .ref u]) {a b : Int × List Nat} (ha : SqT K H t [.int a.1, .str (S a.2)]) (hb : SqT K H u [.int b.1, .str (S b.2)])
    (h1 : a = (if b.1 < a.1 ∨ (b.1 = a.1 ∧ b.2 < a.2) then b else a) → Q (.ref t) H) (h2 : b = (if b.1 < a.1 ∨ (b.1 = a.1 ∧ b.2 < a.2) then b else a) → Q (.ref u) H) : cS X (.builtin "min") [.ref p] H Q :=
  c_minP c hp (.cons (dp_pair ha) (.cons (dp_pair hb) .nil)) (alike_pairs [a, b]) (all_cons shal_pair (all_cons shal_pair all_nil)) fun i x hx he => by
    have em : PySem.W.minD (pairD a) [pairD b] = pairD (if b.1 < a.1 ∨ (b.1 = a.1 ∧ b.2 < a.2) then b else a) := by
      show (if PySem.W.dataLt (pairD b) (pairD a) = true then pairD b else pairD a) = _
      rw [lt_pairs]
      by_cases q : b.1 < a.1 ∨ (b.1 = a.1 ∧ b.2 < a.2)
      · rw [if_pos (decide_eq_true q), if_pos q]
      · rw [if_neg (by rw [decide_eq_true_eq]; exact q), if_neg q]
    rw [em] at he
    match i, hx, he with
    | 0, hx, he =>
      have e1 := Option.some.inj hx
      have e2 : pairD a = _ := Option.some.inj he
      rw [← e1]; exact h1 (pairD_inj e2)
    | 1, hx, he =>
      have e1 := Option.some.inj hx
      have e2 : pairD b = _ := Option.some.inj he
      rw [← e1]; exact h2 (pairD_inj e2)
    | i + 2, hx, _ => simp at hx
/-! lists of texts -/
theorem eqv_strs : ∀ xs ys : List (List Nat), PyData.eqvAll (xs.map fun z => PyData.str (S z)) (ys.map fun z => PyData.str (S z)) = decide (xs = ys)
  | [], [] => by simp [PyData.eqvAll]
  | [], _ :: _ => by simp [PyData.eqvAll]
  | _ :: _, [] => by simp [PyData.eqvAll]
  | x :: xs, y :: ys => by
    show (PyData.eqv (.str (S x)) (.str (S y)) && PyData.eqvAll (xs.map fun z => PyData.str (S z)) (ys.map fun z => PyData.str (S z))) = _
    rw [eqv_strs xs ys]
    show ((S x == S y) && decide (xs = ys)) = _
    have e : (S x == S y) = decide (x = y) := by rw [Bool.eq_iff_iff, beq_iff_eq, decide_eq_true_eq]; exact S_inj
    rw [e]
    by_cases h1 : x = y <;> by_cases h2 : xs = ys <;> simp [h1, h2]
theorem dp_strs {K : PySem.W.Frag} {H : Hp} (xs : List (List Nat)) : DpAll K H (xs.map fun z => V.str (S z)) (xs.map fun z => PyData.str (S z)) := dp_map (f := fun z => V.str (S z)) (fun z => .str (S z)) xs
theorem o_eqSL (c : CI X P w K mg base N nm j) {p q : Addr} {xs ys : List (List Nat)} (hp : SqL K H p (xs.map fun z => V.str (S z))) (hq : SqL K H q (ys.map fun z => V.str (S z))) (h : Q (.bl (decide (xs = ys))) H) : oS X (compareOp .Eq) (.ref p) (.ref q) H Q :=
  o_eqP c (.lst hp (dp_strs xs)) (.lst hq (dp_strs ys)) (shal_list (all_map (fun _ => shal_str) xs)) (shal_list (all_map (fun _ => shal_str) ys)) (by
    show Q (.bl (PyData.eqvAll (xs.map fun z => PyData.str (S z)) (ys.map fun z => PyData.str (S z)))) H
    rw [eqv_strs]; exact h)
theorem o_neSL (c : CI X P w K mg base N nm j) {p q : Addr} {xs ys : List (List Nat)} (hp : SqL K H p (xs.map fun z => V.str (S z))) (hq : SqL K H q (ys.map fun z => V.str (S z))) (h : Q (.bl (!decide (xs = ys))) H) : oS X (compareOp .NotEq) (.ref p) (.ref q) H Q :=
  o_neP c (.lst hp (dp_strs xs)) (.lst hq (dp_strs ys)) (shal_list (all_map (fun _ => shal_str) xs)) (shal_list (all_map (fun _ => shal_str) ys)) (by
    show Q (.bl (!PyData.eqvAll (xs.map fun z => PyData.str (S z)) (ys.map fun z => PyData.str (S z)))) H
    rw [eqv_strs]; exact h)
/-- the last item -/
theorem atI_last {α : Type} {z : List α} {v : α} (h : z.getLast? = some v) : atI z (-1) = some v := by
  rw [List.getLast?_eq_getElem?] at h
  have hl := (List.getElem?_eq_some_iff.mp h).1
  show (ixN z.length (-1)).bind _ = _
  unfold ixN
  rw [if_neg (by omega), if_pos (by omega), Option.bind_some, show (-1 + (z.length : Int)).toNat = z.length - 1 by omega]
  exact h
/-- a, b = a list -/
theorem g_tgtsL {es : List Expr} (c : CI X P w K mg base N nm j) {k} {q : Addr} {vs : List V} {R : L2.St → Hp → Prop} (h1 : (assignEach es X.env).length = vs.length) (h2 : (assignEach es X.env).findIdx? (·.1) = none) (hq : SqL K H q vs) (h : gsS X es vs σ H R) : gS X (.Tuple es k pos) (.ref q) σ H R := by
  have e3 := c.K
  subst e3
  exact ⟨_, pg_unl c.calm gsS_is h1 h2, q, _, rfl, hq, rfl, h⟩
end
end Go

namespace Go
open PySem PySem.Spec PyProof.Rows L2

/-! a table of cells: at ps the objects f 0, f 1, .. -/
def tabC (ps : List Addr) (f : Nat → HO) : List (Addr × HO) := ps.mapIdx fun i p => (p, f i)
theorem tabC_get {ps : List Addr} {f : Nat → HO} {i : Nat} {p : Addr} (h : ps[i]? = some p) : (p, f i) ∈ tabC ps f := by
  unfold tabC
  obtain ⟨hl, e⟩ := List.getElem?_eq_some_iff.mp h
  exact List.mem_of_getElem? (i := i) (by rw [List.getElem?_mapIdx, h]; rfl)
theorem tabC_mem {ps : List Addr} {f : Nat → HO} {e : Addr × HO} (h : e ∈ tabC ps f) : ∃ i, ps[i]? = some e.1 ∧ e.2 = f i := by
  unfold tabC at h
  obtain ⟨i, hi⟩ := List.mem_iff_getElem?.mp h
  rw [List.getElem?_mapIdx] at hi
  obtain ⟨p, hp, rfl⟩ := Option.map_eq_some_iff.mp hi
  exact ⟨i, hp, rfl⟩
theorem tabC_fst (ps : List Addr) (f : Nat → HO) : (tabC ps f).map (·.1) = ps := by
  unfold tabC
  apply List.ext_getElem?
  intro i
  rw [List.getElem?_map, List.getElem?_mapIdx]
  cases ps[i]? <;> rfl
theorem tabC_snoc (ps : List Addr) (p : Addr) (f : Nat → HO) : tabC (ps ++ [p]) f = tabC ps f ++ [(p, f ps.length)] := by
  unfold tabC
  rw [List.mapIdx_append]
  simp
theorem tabC_congr {ps : List Addr} {f g : Nat → HO} (h : ∀ i, i < ps.length → f i = g i) : tabC ps f = tabC ps g := by
  unfold tabC
  apply List.ext_getElem?
  intro i
  rw [List.getElem?_mapIdx, List.getElem?_mapIdx]
  cases hp : ps[i]? with
  | none => rfl
  | some p => rw [Option.map_some, Option.map_some, h i (List.getElem?_eq_some_iff.mp hp).1]
section
variable {X : Cx} {P : Program} {w : World} {K : PySem.W.Frag} {mg : Str → Option Value} {base : Heap} {N : List Str} {nm : List (Str × NameKind)} {j : Nat} {σ σ' : L2.St} {H G : Hp} {Q : VK} {pos p : Pos} {C : List (Addr × HO)} {ps : List Addr} {f g : Nat → HO}
/-- the cells in another order -/
theorem Own.perm {C' : List (Addr × HO)} (O : Own G C H) (h : C'.Perm C) : Own G C' H :=
  ⟨O.same, fun q hq => O.own q (h.mem_iff.mp hq), (h.map (·.1)).nodup_iff.mpr O.nd⟩
theorem Own.tabG (O : Own G (tabC ps f ++ C) H) {i : Nat} {p : Addr} (h : ps[i]? = some p) : H p = some (f i) := (O.own _ (List.mem_append_left _ (tabC_get h))).1
theorem Own.tabW (O : Own G (tabC ps f ++ C) H) {i : Nat} {p : Addr} (h : ps[i]? = some p) (hg : ∀ k, k ≠ i → g k = f k) : Own G (tabC ps g ++ C) (upd H p (g i)) := by
  have nd := O.nd
  rw [List.map_append, tabC_fst] at nd
  obtain ⟨n1, n2, n3⟩ := List.nodup_append.mp nd
  have pm : p ∈ ps := List.mem_of_getElem? h
  have hn : G p = none := (O.own _ (List.mem_append_left _ (tabC_get h))).2
  refine ⟨fun b u e => by rw [upd_ne (ne_of_none e hn)]; exact O.same b u e, fun q hq => ?_, by rw [List.map_append, tabC_fst]; exact nd⟩
  rcases List.mem_append.mp hq with hq | hq
  · obtain ⟨k, hk, e⟩ := tabC_mem hq
    have hn2 := (O.own _ (List.mem_append_left _ (tabC_get (f := f) hk))).2
    refine ⟨?_, hn2⟩
    by_cases e1 : k = i
    · subst e1
      rw [h] at hk
      cases hk
      rw [upd_same, e]
    · have hne : q.1 ≠ p := fun z => by
        rw [z] at hk
        exact e1 ((List.getElem?_inj (List.getElem?_eq_some_iff.mp hk).1 n1).mp (hk.trans h.symm))
      rw [upd_ne hne, e, hg k e1]
      exact O.tabG hk
  · have hne : q.1 ≠ p := fun z => n3 _ pm _ (List.mem_map.mpr ⟨q, hq, rfl⟩) z.symm
    rw [upd_ne hne]
    exact O.own q (List.mem_append_right _ hq)
/-- .. all frozen -/
theorem Own.tabF (O : Own G (tabC ps f ++ C) H) : ∃ G', Same G G' ∧ (∀ i p, ps[i]? = some p → G' p = some (f i)) ∧ Own G' C H := by
  obtain ⟨G', s, e, O'⟩ := Own.frzAll (tabC ps f) O
  exact ⟨G', s, fun i p h => e _ (tabC_get h), O'⟩
theorem c_minI (c : CI X P w K mg base N nm j) {p : Addr} {ns : List Int} (hp : SqL K H p (ns.map V.int)) (hn : 0 < ns.length) (h : ∀ m, m ∈ ns → (∀ y ∈ ns, m ≤ y) → Q (.int m) H) : cS X (.builtin "min") [.ref p] H Q := by
  have eK := c.K
  subst eK
  exact ⟨_, cr_min c.calm, _, _, rfl, hp, hn, h⟩
theorem c_maxI (c : CI X P w K mg base N nm j) {p : Addr} {ns : List Int} (hp : SqL K H p (ns.map V.int)) (hn : 0 < ns.length) (h : ∀ m, m ∈ ns → (∀ y ∈ ns, y ≤ m) → Q (.int m) H) : cS X (.builtin "max") [.ref p] H Q := by
  have eK := c.K
  subst eK
  exact ⟨_, cr_max c.calm, _, _, rfl, hp, hn, h⟩
/-- a list is [] -/
theorem eqv_nil (ds : List PyData) : PyData.eqv (.list ds) (.list []) = decide (ds = []) := by cases ds <;> simp [PyData.eqv, PyData.eqvAll]
theorem o_eqNilP (c : CI X P w K mg base N nm j) {p q : Addr} {xs : List V} {ds : List PyData} (hp : SqL K H p xs) (hd : DpAll K H xs ds) (hs : ∀ e ∈ ds, Shal 63 e) (hq : SqL K H q []) (h : Q (.bl (decide (ds = []))) H) : oS X (compareOp .Eq) (.ref p) (.ref q) H Q :=
  o_eqP c (.lst hp hd) (.lst hq .nil) (shal_list hs) (shal_list all_nil) (by rw [eqv_nil]; exact h)
theorem o_neNilP (c : CI X P w K mg base N nm j) {p q : Addr} {xs : List V} {ds : List PyData} (hp : SqL K H p xs) (hd : DpAll K H xs ds) (hs : ∀ e ∈ ds, Shal 63 e) (hq : SqL K H q []) (h : Q (.bl (!decide (ds = []))) H) : oS X (compareOp .NotEq) (.ref p) (.ref q) H Q :=
  o_neP c (.lst hp hd) (.lst hq .nil) (shal_list hs) (shal_list all_nil) (by rw [eqv_nil]; exact h)
/-- an item of a row of a table of cells -/
theorem p_tab {xs : List V} {i j : Nat} {p : Addr} {v : V} {R : Hp → Prop} (O : Own G (tabC ps f ++ C) H) (hp : ps[i]? = some p) (hf : f i = .lst xs) (hj : j < xs.length) (hg : g i = .lst (xs.set j v)) (hk : ∀ k, k ≠ i → g k = f k) (h : ∀ H', Own G (tabC ps g ++ C) H' → R H') : pS X (.ref p) (.int (j : Nat)) v H R :=
  p_lst (by rw [O.tabG hp, hf]) (m := j) (by unfold ixN; rw [if_pos (by omega), if_pos (by omega)]; simp) (by have := h _ (O.tabW hp hk); rw [hg] at this; exact this)
end
end Go

namespace Go
open PySem PySem.Spec PyProof.Rows L2

/-! set(l), l a list of ints -/
/-- a new set, as the model makes it -/
def seO (w : World) : Obj := { cls := .type "set", dict := none, data := .set #[] 0 (.fresh 0 0 (!w.params.followText "set-order")) }
section
variable {P : Program} {w : World} {A : Around} {E : Value → Shared → Prop}
set_option maxHeartbeats 4000000 in
theorem set_of_ints {s : Shared} {l : Addr} {us : Array Value} (ns : List Int) {Q : Value → Shared → Prop} (noH : A.handled = none) (L : s.heap.IsList l us) (iA : IntsAre us.toList ns) (few : ns.length + 1 < scanBound)
    (k : ∀ (h2 : Heap) (tk c : Nat), SetR w h2 s.heap.objs.size (fun j => decide (j ∈ ns)) c → c ≤ ns.length → (∀ b o, s.heap.get? b = some o → h2.get? b = some o) → Q (.ref s.heap.objs.size) { s with heap := h2, toks := tk }) :
    wpAny (model P w) A (call (.type "set") [.ref l]) Q E s := by
  have sz : us.size = ns.length := by have q := IntsAre.length iA; rwa [Array.length_toList] at q
  obtain ⟨mc, mt, mro⟩ := F.called_set.mro
  have r1 := F.called_set.made
  have r2 := F.called_set.sub
  have r3 := F.called_set.notType
  have r4 := F.called_set.canCreate
  have r5 := F.typeCall_set_1 (.ref l)
  refine wpAny_call (codeAny_of_tree (show wpAny _ _ (callAny (.type "set") _) _ _ _ from wpAny_pure ⟨Code.quiet_builtin _ (by decide +kernel), codeAny_builtin F.entry_type_call ?_⟩))
  rw [Around.under_plain (weight_type_call_type "set" [.ref l] []) rfl]
  repeat (any_goals (first | assumption | wp_step))
  refine codeAny_mono (code_set_led1 (w := w) (.ref l) (E := E) (Q₁ := fun ob s1 => ob = .ref s.heap.objs.size ∧ s1 = { s with heap := s.heap.push (seO w) }) ⟨rfl, rfl⟩) fun res s1 hres => ?_
  match res, hres with
  | .error e, hres => exact hres
  | .ok (.ret ob), hres =>
    obtain ⟨rfl, rfl⟩ := hres
    have atS : (s.heap.push (seO w)).get? s.heap.objs.size = some (seO w) := Heap.get?_push_size _ rfl
    have tyS : Shared.TypeIs { s with heap := s.heap.push (seO w) } (.ref s.heap.objs.size) "set" := ⟨_, atS, rfl⟩
    have r6 := F.called_set.init.lookup
    have r7 := F.called_set.init.bind (.ref s.heap.objs.size)
    repeat (any_goals (first | assumption | wp_step))
    refine codeAny_mono (codeAny_call_builtin (R := wants (fun r s2 => r = .none ∧ ∃ h2 tk c, s2 = { s with heap := h2, toks := tk } ∧ SetR w h2 s.heap.objs.size (fun j => decide (j ∈ ns)) c ∧ c ≤ ns.length ∧ ∀ b o, s.heap.get? b = some o → h2.get? b = some o) E) F.called_set.init.plain F.entry_set_init (check_set_init_1 tyS ?_)) fun res2 s2 hres2 => ?_
    · obtain ⟨⟨oc, od, oda, osl⟩, gl, ec, m, ed⟩ := L
      simp only at ec ed
      subst ec ed
      have gl' : (s.heap.push (seO w)).get? l = some { cls := .type "list", dict := od, data := .seq us m, slots := osl } := Heap.get?_push_of_some _ gl
      have L1 : (s.heap.push (seO w)).IsList l us := ⟨_, gl', rfl, m, rfl⟩
      have q1 := F.sub_list_set
      have q2 := F.sub_list_frozenset
      have q3 : (Value.type "list" == Value.type "dict") = false := by decide
      have lt : l < s.heap.objs.size := Heap.lt_size gl
      have noH3 : A.in1.in1.in1.handled = none := by simp [noH]
      have psz : (s.heap.push (seO w)).objs.size = s.heap.objs.size + 1 := Heap.size_push ..
      unfold Builtin.«set.__init__» noKeywords Builtin.Frozenset.updateFrom
      generalize hpi : pyIter = it
      wp_walk
      subst hpi
      refine wpAny_pyIter_list L1 (wpAny_bind (wpAny_runValue ?_))
      have lI : l ≠ (s.heap.push (seO w)).objs.size := Nat.ne_of_lt (by rw [psz]; exact Nat.lt_succ_of_lt lt)
      have off : s.heap.objs.size ∉ [(s.heap.push (seO w)).objs.size, l] := by
        rw [psz]
        simp only [List.mem_cons, List.not_mem_nil, or_false, not_or]
        exact ⟨Nat.ne_of_lt (Nat.lt_succ_self _), Nat.ne_of_gt lt⟩
      have val : ∀ (i : Nat) (v : Value), us[i]? = some v → ∃ z t, ns[i]? = some z ∧ v = .int z t := fun i v hv => by
        have hi : i < ns.length := by rw [← sz]; exact (Array.getElem?_eq_some_iff.mp hv).1
        obtain ⟨t, e⟩ := PyProof.Rows.IntsAre.int_at iA i v (by rw [Array.getElem?_toList]; exact hv)
        exact ⟨ns[i], t, List.getElem?_eq_getElem hi, by rw [e, List.getD_eq_getElem?_getD, List.getElem?_eq_getElem hi]; rfl⟩
      refine set_update_ints (Walks.list noH3 _ l lI us).toS s.heap.objs.size off ns sz few val us.size 0 _ (by omega) (Nat.zero_le _) ⟨⟨_, Heap.get?_push_size _ rfl, rfl, rfl⟩, L1.push _⟩ ⟨0, Nat.le_refl 0, setR_new_at (Heap.get?_push_of_some _ atS)⟩ fun s3 c mv hc R3 => ?_
      obtain ⟨h3, g3, d3, tk3, os3⟩ := s3
      have z1 : g3 = s.gens := mv.gens
      have z2 : d3 = s.drawn := mv.drawn
      have z3 : os3 = s.os := mv.os
      subst z1 z2 z3
      refine wpAny_pure (show wpAny _ _ (ret Value.none) _ _ _ from wpAny_pure ⟨rfl, h3, tk3, c, rfl, R3, by omega, fun b o e => ?_⟩)
      have hb := Heap.lt_size e
      refine mv.heap b o ?_ (Heap.get?_push_of_some _ (Heap.get?_push_of_some _ e))
      rw [psz]
      simp only [List.mem_cons, List.not_mem_nil, or_false, not_or]
      exact ⟨Nat.ne_of_lt hb, Nat.ne_of_lt (Nat.lt_succ_of_lt hb)⟩
    · match res2, hres2 with
      | .error e, hres2 => exact hres2
      | .ok (.ret r), hres2 =>
        obtain ⟨rfl, h2, tk, c, rfl, R2, hc, kp⟩ := hres2
        repeat (any_goals (first | assumption | wp_step))
        exact k _ _ _ R2 hc kp
end
section
variable {X : Cx} {P : Program} {w : World} {K : PySem.W.Frag} {mg : Str → Option Value} {base : Heap} {N : List Str} {nm : List (Str × NameKind)} {j : Nat} {σ σ' : L2.St} {H G : Hp} {Q : VK} {C : List (Addr × HO)}
theorem setR_keys {w : World} {h : Heap} {a : Addr} {S : Int → Bool} {n : Nat} (R : SetR w h a S n) : ∃ ks : List Int, ks.Nodup ∧ ks.length = n ∧ ∀ k, S k = true ↔ k ∈ ks := by
  obtain ⟨o, es, ep, t, _, _, _, _, nd, hS, _, _, hn, _⟩ := R
  exact ⟨_, nd, by rw [List.length_map, Array.length_toList]; exact hn, hS⟩
theorem c_setL (c : CI X P w K mg base N nm j) {p : Addr} {ns : List Int} (hp : SqL K H p (ns.map V.int)) (hl : ns.length ≤ 200) (h : ∀ q n H' (ks : List Int), ks.Nodup → ks.length = n → (∀ k, k ∈ ks ↔ k ∈ ns) → New H q (SetO w q (fun j => decide (j ∈ ns)) n) H' → Q (.ref q) H') : cS X (.type "set") [.ref p] H Q := by
  refine ⟨fun vs H Q => ∃ (p : Addr) (ns : List Int), vs = [.ref p] ∧ SqL X.K H p (ns.map V.int) ∧ ns.length ≤ 200 ∧ ∀ q n H' (ks : List Int), ks.Nodup → ks.length = n → (∀ k, k ∈ ks ↔ k ∈ ns) → New H q (SetO X.w q (fun j => decide (j ∈ ns)) n) H' → Q (.ref q) H', ?_, p, ns, rfl, by rw [c.K]; exact hp, hl, by rw [c.w]; exact h⟩
  intro pins s σ H vs us Q I r h
  obtain ⟨p, ns, rfl, hp, hl, q⟩ := h
  obtain ⟨its, rv, hl2, _⟩ := I.list hp
  rw [Vals.ref1 r]
  refine set_of_ints ns (I.ok.hd c.calm) hl2.isList (by simpa using rv.ints) (by have : (300 : Nat) < scanBound := by decide +kernel
                                                                                 omega) fun h2 tk cn R hc kp => ?_
  obtain ⟨ks, k1, k2, k3⟩ := setR_keys R
  exact ⟨.ref _, upd H s.heap.objs.size (SetO X.w s.heap.objs.size (fun j => decide (j ∈ ns)) cn), I.laid (t' := tk) kp (Nat.le_refl _) (setO_new R), rfl, q _ cn _ ks k1 k2 (fun k => by rw [← k3, decide_eq_true_eq]) ⟨I.hok.fresh (Nat.le_refl _), rfl⟩⟩
theorem c_sortedSet (c : CI X P w K mg base N nm j) {p : Addr} {S : Int → Bool} {n : Nat} (hp : H p = some (SetO w p S n)) (hl : n < 64) (h : ∀ (ns : List Int) q H', ns.Pairwise (· < ·) → (∀ k : Int, k ∈ ns ↔ S k = true) → New H q (.lst (ns.map V.int)) H' → Q (.ref q) H') : cS X (.builtin "sorted") [.ref p] H Q := by
  have ew := c.w
  subst ew
  exact ⟨_, cr_sortedSet c.calm, p, S, n, rfl, hp, hl, fun ns q h1 h2 _ hn => h ns q _ h1 h2 ⟨hn, rfl⟩⟩
theorem m_pop0 {p : Addr} {x : V} {xs : List V} (O : Own G ((p, .lst (x :: xs)) :: C) H) (h : ∀ H', Own G ((p, .lst xs) :: C) H' → Q x H') : mS X "list.pop" (.ref p) [.int 0] H Q :=
  ⟨_, mt_popAt, p, x :: xs, 0, 0, x, rfl, rfl, O.at, by decide, by decide, by unfold seqIndex?; simp <;> omega, rfl, h _ O.write⟩
theorem i_trueD {p : Prop} {d : Decidable p} {A B : Prop} (h : p) (k : A) : if decide p = true then A else B := by rw [if_pos (decide_eq_true h)]; exact k
theorem i_falseD {p : Prop} {d : Decidable p} {A B : Prop} (h : ¬ p) (k : B) : if decide p = true then A else B := by rw [if_neg (by rw [decide_eq_true_eq]; exact h)]; exact k
theorem i_decD {p : Prop} {d : Decidable p} {A B : Prop} (h1 : p → A) (h2 : ¬ p → B) : if decide p = true then A else B := by
  by_cases h : p
  · exact i_trueD h (h1 h)
  · exact i_falseD h (h2 h)
end
end Go

namespace Go
open PySem PySem.Spec PyProof.Rows L2
section
variable {X : Cx} {P : Program} {w : World} {K : PySem.W.Frag} {mg : Str → Option Value} {base : Heap} {N : List Str} {nm : List (Str × NameKind)} {j : Nat} {σ σ' : L2.St} {H G : Hp} {Q : VK} {D : Ends} {pos p tpos : Pos} {C : List (Addr × HO)} {elts : List Expr} {kk : Nat} {a : Expr} {body : List Stmt}
/-! enumerate(list) -/
theorem i_enumL (c : CI X P w K mg base N nm j) {R : It → Hp → Prop} (hg : glB nm "enumerate" = true) (hm : mg "enumerate" = none) (hs : starEach [a] X.env = [(false, eval a X.env)]) (h : eS X a σ H fun x H1 => ∃ q xs, x = .ref q ∧ SqL K H1 q xs ∧ R (Ite K q) H1) :
    iS X (.Tuple elts kk tpos) (.Call (.Name "enumerate" p) [a] [] pos) σ H R := by
  have e := c.K
  subst e
  exact ⟨_, pi_enum (c.gl hg) (by rw [c.mg]; exact hm) (pa_cons eS_is pa_nil hs) hs, eS_mono h fun _ _ ⟨q, xs, e, hq, r⟩ => ⟨q, xs, by rw [e], hq, r⟩⟩
/-- for (k, item) in enumerate(list): each turn a new pair -/
theorem on_enumL (c : CI X P w K mg base N nm j) {q : Addr} {xs : List V} (Pv : Nat → L2.St → Hp → Prop) (h0 : Pv 0 σ H) (hl : ∀ i σ H, i ≤ xs.length → Pv i σ H → SqL K H q xs)
    (hs : ∀ i x σ H T H', xs[i]? = some x → Pv i σ H → New H T (.tup [.int (i : Nat), x]) H' → gS X (.Tuple elts kk tpos) (.ref T) σ H' fun σ2 H2 => bS X body { D with nx := Pv (i + 1), ct := Pv (i + 1), bk := D.nx } σ2 H2) (hd : ∀ σ H, Pv xs.length σ H → D.nx σ H) :
    ForOn X (.Tuple elts kk tpos) body D (Ite K q) σ H := ⟨_, _, _, walk_enum (xs := xs), Pv, h0, hl, fun i x σ H H' hi p ⟨T, u, v, e1, e2, e3, hu, hv⟩ => by
      subst e1
      cases hu
      exact hs i v σ _ T H' hv p ⟨e2, e3⟩, hd⟩
/-- a comprehension over enumerate(list) -/
theorem lc_enumL {tg elt : Expr} {ifs : List Expr} {scope : Scope} {vs : List Nat} {a : Addr} {xs : List V} {Qd : Addr → Hp → Prop} (Inv : Nat → List V → Hp → List (Addr × HO) → Prop) (c : CI X P w K mg base N nm j) (hk : scope.kind = .function) (hq : SqL K G a xs) (hn : xs.length ≤ 1000000) (O : Own G C H) (h0 : Inv 0 [] G C)
    (hs : ∀ m x acc G' C' A H1 T H2, xs[m]? = some x → Inv m acc G' C' → Own G' ((A, .lst acc) :: C') H1 → New H1 T (.tup [.int (m : Nat), x]) H2 → Same G G' → ∀ X', CI X' P w K mg base N scope.names j → gS X' tg (.ref T) (wipe σ vs) H2 fun σ2 H3 => wipe σ2 vs = wipe σ vs ∧ ∀ X', CI X' P w K mg base N scope.names j → tsS X' ifs σ2 H3 fun b H4 =>
      if b = true then ∀ X', CI X' P w K mg base N scope.names j → eS X' elt σ2 H4 fun y H5 => ∃ G4 C4, Own G4 ((A, .lst acc) :: C4) H5 ∧ Same G' G4 ∧ Inv (m + 1) (acc ++ [y]) G4 C4 else ∃ G4 C4, Own G4 ((A, .lst acc) :: C4) H4 ∧ Same G' G4 ∧ Inv (m + 1) acc G4 C4)
    (hd : ∀ acc G' C' A H', acc.length ≤ xs.length → Inv xs.length acc G' C' → Own G' ((A, .lst acc) :: C') H' → Same G G' → Qd A H') : LcOn X scope tg ifs elt vs Qd (Ite K a) σ H :=
  lc_own Inv c hk (walk_enum (xs := xs)) hn O h0 (fun G' C' H' s O' => sql_up O' (s.seq hq)) (fun m x acc G' C' A H1 H2 hm iv hy O' s X' c' => by
    obtain ⟨T, u, v, rfl, f1, f2, hu, hv⟩ := hy
    cases hu
    exact hs m v acc G' C' A H1 T H2 hv iv O' ⟨f1, f2⟩ s X' c') hd
theorem s_setLc2 (c : CI X P w K mg base N nm j) {y1 y2 z : Str} {i1 i2 k : Nat} {p1 p2 p3 tp spos pos : Pos} {kk : Nat} {iter elt : Expr} {ifs : List Expr} {scope : Scope} (hz : Ix N z k) (hzl : nm.lookup z = some NameKind.local) (hline : (p3.line == pos.line) = true) (ha : (scope.names.any fun (n, k) => n == z && (k == .local || k == .cell)) = false) (h1 : Ix N y1 i1) (h2 : Ix N y2 i2) (ok : blkC N (scOf nm) scope [(y1, i1), (y2, i2)] = true) (hs : ∀ x, foldedSetIterable iter X.env x = pure x)
    (h : iS X (.Tuple [.Name y1 p1, .Name y2 p2] kk tp) iter σ H fun J H1 => LcOn X scope (.Tuple [.Name y1 p1, .Name y2 p2] kk tp) ifs elt [i1, i2] (fun q H => D.nx (σ.set k (some (.ref q))) H) J σ H1) : sS X (.Assign [.Name z p3] (.ListComp elt [⟨.Tuple [.Name y1 p1, .Name y2 p2] kk tp, iter, ifs, 0⟩] scope pos) spos) D σ H :=
  s_setLc c [(y1, i1), (y2, i2)] hz hzl (sw_true c.kind (c.lo _ hzl) hline ha) (blkOk_by ok) hs h
/-- sorted(dict) of a dict with whole numbers as keys -/
theorem c_sortedDI (c : CI X P w K mg base N nm j) {p : Addr} {kvs : List (Key × V)} {ks : List Int} (hp : H p = some (.dK kvs)) (hk : kvs.map (·.1) = ks.map Sum.inl) (hl : ks.length < 64) (h : ∀ (ys : List Int) q H', ys.Perm ks → ys.Pairwise (· ≤ ·) → New H q (.lst (ys.map V.int)) H' → Q (.ref q) H') : cS X (.builtin "sorted") [.ref p] H Q :=
  ⟨_, call_sortedDI c.calm, p, kvs, ks, rfl, .of hp, hk, hl, fun ys q h1 h2 hq => h ys q _ h1 h2 ⟨hq, rfl⟩⟩
/-! zip(list, list) -/
theorem i_zipL (c : CI X P w K mg base N nm j) {b : Expr} {R : It → Hp → Prop} (hg : glB nm "zip" = true) (hm : mg "zip" = none) (hs : starEach [a, b] X.env = (false, eval a X.env) :: starEach [b] X.env) (hpl : (backTo pos (starEach [b] X.env)).any (·.1) = false) (hs2 : starEach [b] X.env = (false, eval b X.env) :: starEach [] X.env)
    (h : eS X a σ H fun x H1 => eS X b σ H1 fun y H2 => ∃ q1 q2 xs ys, x = .ref q1 ∧ y = .ref q2 ∧ SqL K H2 q1 xs ∧ SqL K H2 q2 ys ∧ R (Itz K q1 q2) H2) :
    iS X (.Tuple elts kk tpos) (.Call (.Name "zip" p) [a, b] [] pos) σ H R := by
  have e := c.K
  subst e
  exact ⟨_, pi_zip (c.gl hg) (by rw [c.mg]; exact hm) (pa_cons eS_is (pa_cons eS_is pa_nil hs2) hs) hs hpl, eS_mono h fun _ _ h => eS_mono h fun _ _ ⟨q1, q2, xs, ys, e1, e2, h1, h2, r⟩ => ⟨q1, q2, xs, ys, by rw [e1, e2], h1, h2, r⟩⟩
theorem on_zipL (c : CI X P w K mg base N nm j) {q1 q2 : Addr} {xs ys : List V} (Pv : Nat → L2.St → Hp → Prop) (h0 : Pv 0 σ H) (hl : ∀ i σ H, i ≤ min xs.length ys.length → Pv i σ H → SqL K H q1 xs ∧ SqL K H q2 ys)
    (hs : ∀ i x y σ H T H', xs[i]? = some x → ys[i]? = some y → Pv i σ H → New H T (.tup [x, y]) H' → gS X (.Tuple elts kk tpos) (.ref T) σ H' fun σ2 H2 => bS X body { D with nx := Pv (i + 1), ct := Pv (i + 1), bk := D.nx } σ2 H2) (hd : ∀ σ H, Pv (min xs.length ys.length) σ H → D.nx σ H) :
    ForOn X (.Tuple elts kk tpos) body D (Itz K q1 q2) σ H := ⟨_, _, _, walk_zip rfl, Pv, h0, hl, fun i x σ H H' hi p ⟨T, u, v, e1, e2, e3, hu, hv⟩ => by
      subst e1
      exact hs i u v σ _ T H' hu hv p ⟨e2, e3⟩, hd⟩
/-- a comprehension of any target and tests; what is walked may be a cell, by what Inv says -/
theorem lc_cell {tg elt : Expr} {ifs : List Expr} {scope : Scope} {vs : List Nat} {n : Nat} {Gw : Hp → Prop} {Y : Nat → Hp → V → Hp → Prop} {J : It} {Qd : Addr → Hp → Prop} (Inv : Nat → List V → Hp → List (Addr × HO) → Prop) (c : CI X P w K mg base N nm j) (hk : scope.kind = .function) (W : Walk J n Gw Y) (hn : n ≤ 1000000) (O : Own G C H) (h0 : Inv 0 [] G C)
    (hG : ∀ m acc G' C' A H', Inv m acc G' C' → Own G' ((A, .lst acc) :: C') H' → Same G G' → Gw H')
    (hs : ∀ m x acc G' C' A H1 H2, m < n → Inv m acc G' C' → Y m H1 x H2 → Own G' ((A, .lst acc) :: C') H1 → Same G G' → ∀ X', CI X' P w K mg base N scope.names j → gS X' tg x (wipe σ vs) H2 fun σ2 H3 => wipe σ2 vs = wipe σ vs ∧ ∀ X', CI X' P w K mg base N scope.names j → tsS X' ifs σ2 H3 fun b H4 =>
      if b = true then ∀ X', CI X' P w K mg base N scope.names j → eS X' elt σ2 H4 fun y H5 => ∃ G4 C4, Own G4 ((A, .lst acc) :: C4) H5 ∧ Same G' G4 ∧ Inv (m + 1) (acc ++ [y]) G4 C4 else ∃ G4 C4, Own G4 ((A, .lst acc) :: C4) H4 ∧ Same G' G4 ∧ Inv (m + 1) acc G4 C4)
    (hd : ∀ acc G' C' A H', acc.length ≤ n → Inv n acc G' C' → Own G' ((A, .lst acc) :: C') H' → Same G G' → Qd A H') : LcOn X scope tg ifs elt vs Qd J σ H := by
  intro A hA
  refine ⟨n, Gw, Y, W, fun m H => ∃ acc G' C', acc.length ≤ m ∧ Inv m acc G' C' ∧ Own G' ((A, .lst acc) :: C') H ∧ Same G G', ⟨[], G, C, Nat.le_refl _, h0, O.cell hA, same_rfl⟩, ?_, ?_, ?_⟩
  · rintro m H' hm ⟨acc, G', C', _, iv, O', s⟩
    exact hG _ _ _ _ _ _ iv O' s
  · rintro m x H1 H2 hm ⟨acc, G', C', hl, iv, O', s⟩ hy X' hb
    obtain ⟨t, p, q⟩ := hs m x acc G' C' A H1 H2 hm iv hy O' s X' (c.blk hb hk)
    refine ⟨fun v σ H R => ∃ Q, t v σ H Q ∧ ∀ σ H, Q σ H → R σ H, ⟨fun pins s σ H v u R I r ⟨Q', h, m⟩ => thn (p.run pins s σ H v u Q' I r h) fun _ s' q => ?_⟩, _, q, ?_⟩
    · obtain ⟨σ', H', I', q⟩ := q
      exact ⟨σ', H', I', m σ' H' q⟩
    · rintro σ2 H3 ⟨hw, q⟩
      refine ⟨hw, fun X2 hb2 => tsS_mono (q X2 (c.blk hb2 hk)) fun b H4 q => ?_⟩
      cases b with
      | false =>
        obtain ⟨G4, C4, O4, s4, iv4⟩ := q
        exact ⟨acc, G4, C4, by omega, iv4, O4, same_tr s s4⟩
      | true =>
        intro X3 hb3
        refine eS_mono (q X3 (c.blk hb3 hk)) fun y H5 ⟨G4, C4, O4, s4, iv4⟩ => ?_
        exact ⟨acc, O4.at, sz_lt (by omega), acc ++ [y], G4, C4, by simp [hl], iv4, O4.write, same_tr s s4⟩
  · rintro H' ⟨acc, G', C', hl, iv, O', s⟩
    exact hd _ _ _ _ _ hl iv O' s
/-- a list of lists of numbers -/
structure LL (H : Hp) (p : Addr) (qs : List Addr) (ls : List (List Int)) : Prop where
  lst : H p = some (.lst (qs.map V.ref))
  len : qs.length = ls.length
  it : ∀ (i : Nat) q ns, qs[i]? = some q → ls[i]? = some ns → H q = some (.lst (ns.map V.int))
end
end Go

namespace Go
open PySem PySem.Spec PyProof.Rows L2
/-! cells brought to the front -/
section
variable {G H : Hp} {C : List (Addr × HO)} {a b d e f g x y z : Addr × HO}
theorem Own.front (A B : List (Addr × HO)) (O : Own G (A ++ (B ++ C)) H) : Own G (B ++ (A ++ C)) H := O.perm (by
  rw [← List.append_assoc, ← List.append_assoc]
  exact List.Perm.append_right C List.perm_append_comm)
theorem Own.f1 (O : Own G (a :: x :: C) H) : Own G (x :: a :: C) H := Own.front [a] [x] O
theorem Own.f2 (O : Own G (a :: b :: x :: C) H) : Own G (x :: a :: b :: C) H := Own.front [a, b] [x] O
theorem Own.f3 (O : Own G (a :: b :: d :: x :: C) H) : Own G (x :: a :: b :: d :: C) H := Own.front [a, b, d] [x] O
theorem Own.f4 (O : Own G (a :: b :: d :: e :: x :: C) H) : Own G (x :: a :: b :: d :: e :: C) H := Own.front [a, b, d, e] [x] O
theorem Own.f5 (O : Own G (a :: b :: d :: e :: f :: x :: C) H) : Own G (x :: a :: b :: d :: e :: f :: C) H := Own.front [a, b, d, e, f] [x] O
theorem Own.f6 (O : Own G (a :: b :: d :: e :: f :: g :: x :: C) H) : Own G (x :: a :: b :: d :: e :: f :: g :: C) H := Own.front [a, b, d, e, f, g] [x] O
theorem Own.t1 (O : Own G (a :: x :: y :: z :: C) H) : Own G (x :: y :: z :: a :: C) H := Own.front [a] [x, y, z] O
theorem Own.t2 (O : Own G (a :: b :: x :: y :: z :: C) H) : Own G (x :: y :: z :: a :: b :: C) H := Own.front [a, b] [x, y, z] O
theorem Own.t3 (O : Own G (a :: b :: d :: x :: y :: z :: C) H) : Own G (x :: y :: z :: a :: b :: d :: C) H := Own.front [a, b, d] [x, y, z] O
theorem Own.t4 (O : Own G (a :: b :: d :: e :: x :: y :: z :: C) H) : Own G (x :: y :: z :: a :: b :: d :: e :: C) H := Own.front [a, b, d, e] [x, y, z] O
theorem Own.t5 (O : Own G (a :: b :: d :: e :: f :: x :: y :: z :: C) H) : Own G (x :: y :: z :: a :: b :: d :: e :: f :: C) H := Own.front [a, b, d, e, f] [x, y, z] O
theorem Own.t6 (O : Own G (a :: b :: d :: e :: f :: g :: x :: y :: z :: C) H) : Own G (x :: y :: z :: a :: b :: d :: e :: f :: g :: C) H := Own.front [a, b, d, e, f, g] [x, y, z] O
theorem Own.r3 (O : Own G (a :: b :: d :: C) H) : Own G (b :: d :: a :: C) H := Own.front [a] [b, d] O
theorem Own.v3 (O : Own G (a :: b :: d :: C) H) : Own G (d :: b :: a :: C) H := O.swap.f2
theorem Own.at4 {p : Addr} {o : HO} (O : Own G (a :: b :: d :: (p, o) :: C) H) : H p = some o := (O.own (p, o) (by simp)).1
theorem Own.at5 {p : Addr} {o : HO} (O : Own G (a :: b :: d :: e :: (p, o) :: C) H) : H p = some o := (O.own (p, o) (by simp)).1
theorem Own.at6 {p : Addr} {o : HO} (O : Own G (a :: b :: d :: e :: f :: (p, o) :: C) H) : H p = some o := (O.own (p, o) (by simp)).1
theorem Own.at7 {p : Addr} {o : HO} (O : Own G (a :: b :: d :: e :: f :: g :: (p, o) :: C) H) : H p = some o := (O.own (p, o) (by simp)).1
end
/-! the attributes of an instance -/
inductive Fld : List (Str × V) → Str → V → Prop
  | here {f : Str} {v : V} {r : List (Str × V)} : Fld ((f, v) :: r) f v
  | there {f g : Str} {v u : V} {r : List (Str × V)} (h : Fld r f v) (n : (f == g) = false) : Fld ((g, u) :: r) f v
theorem Fld.look : ∀ {fs : List (Str × V)} {f : Str} {v : V}, Fld fs f v → fs.lookup f = some v
  | _, f, _, .here => by simp [List.lookup]
  | _, _, _, .there h n => by rw [List.lookup, n]; exact h.look
inductive NoFld : List (Str × V) → Str → Prop
  | nil {f : Str} : NoFld [] f
  | cons {f g : Str} {u : V} {r : List (Str × V)} (n : (f == g) = false) (h : NoFld r f) : NoFld ((g, u) :: r) f
theorem NoFld.look : ∀ {fs : List (Str × V)} {f : Str}, NoFld fs f → fs.lookup f = none
  | _, _, .nil => rfl
  | _, _, .cons n h => by rw [List.lookup, n]; exact h.look
inductive FPut : List (Str × V) → Str → V → List (Str × V) → Prop
  | new {f : Str} {v : V} : FPut [] f v [(f, v)]
  | here {f : Str} {v u : V} {r : List (Str × V)} : FPut ((f, u) :: r) f v ((f, v) :: r)
  | there {f g : Str} {v u : V} {r r' : List (Str × V)} (h : FPut r f v r') (n : (g == f) = false) : FPut ((g, u) :: r) f v ((g, u) :: r')
theorem FPut.eq : ∀ {fs : List (Str × V)} {f : Str} {v : V} {fs' : List (Str × V)}, FPut fs f v fs' → putF f v fs = fs'
  | _, _, _, _, .new => rfl
  | _, _, _, _, .here => by unfold putF; rw [if_pos rfl]
  | _, _, _, _, .there h n => by
    unfold putF
    rw [if_neg (fun e => by rw [e] at n; simp at n), h.eq]
/-- a class of the module, by its name -/
def clsK (K : PySem.W.Frag) (x : Str) : Addr := match PySem.W.nsIn K mainGlobals x with | some (some (.ref C)) => C | _ => 0
theorem clsK_of {K : PySem.W.Frag} {x : Str} {C : Addr} (h : PySem.W.nsIn K mainGlobals x = some (some (.ref C))) : clsK K x = C := by unfold clsK; rw [h]
/-- a method that may be called -/
structure MCal (P : Program) (w : World) (K : PySem.W.Frag) (mg : Str → Option Value) (base : Heap) (k : Nat) (x m : Str) (sp : Sp) : Prop where
  ex : ∃ (f : Addr) (fd : FuncData) (ps : List Str), FnOk P w K mg base CX0 k f fd ps sp ∧ Meth K (clsK K x) m f ∧ Binds K fd ps []
/-- a class that may be called -/
structure MkCal (P : Program) (w : World) (K : PySem.W.Frag) (mg : Str → Option Value) (base : Heap) (k : Nat) (x : Str) (sp : Sp) : Prop where
  ex : ∃ (f : Addr) (fd : FuncData) (ps : List Str), FnOk P w K mg base CX0 k f fd ps sp ∧ Mk K (clsK K x) f ∧ mg x = some (.ref (clsK K x)) ∧ Binds K fd ps []
/-- a method of a class of the module -/
structure Mf (K : PySem.W.Frag) (cl m qual : Str) (st : Stmt) (ps : List Str) : Prop where
  ex : ∃ (f : Addr) (fd : FuncData), Fun K m qual st f fd ∧ Meth K (clsK K cl) m f ∧ Binds K fd ps []
theorem mcal_of {P : Program} {w : World} {K : PySem.W.Frag} {mg : Str → Option Value} {base : Heap} {cl m qual : Str} {st : Stmt} {ps : List Str} {sp : Sp} {k : Nat} (D : Mf K cl m qual st ps) (h : ∀ {f : Addr} {fd : FuncData}, Fun K m qual st f fd → FnOk P w K mg base CX0 k f fd ps sp) : MCal P w K mg base k cl m sp := by
  obtain ⟨f, fd, F, M, b⟩ := D.ex
  exact ⟨f, fd, ps, h F, M, b⟩
theorem mkcal_of {P : Program} {w : World} {K : PySem.W.Frag} {mg : Str → Option Value} {base : Heap} {cl qual : Str} {st : Stmt} {ps : List Str} {sp : Sp} {k : Nat} (D : Mf K cl "__init__" qual st ps) (h : ∀ {f : Addr} {fd : FuncData}, Fun K "__init__" qual st f fd → FnOk P w K mg base CX0 k f fd ps sp)
    (hm : PySem.W.makesIn K (clsK K cl) = true) (hk : PySem.W.keepIn K (.ref (clsK K cl)) = true) (hg : mg cl = some (.ref (clsK K cl))) : MkCal P w K mg base k cl sp := by
  obtain ⟨f, fd, F, M, b⟩ := D.ex
  exact ⟨f, fd, ps, h F, ⟨hm, M.at_, M.fn, hk⟩, hg, b⟩
theorem mf_mk {K : PySem.W.Frag} {cl m qual : Str} {C f : Addr} {st : Stmt} {ps : List Str} {od an : Option Addr} {sl : Array (Option Value)} {oc kV dc pm cd ct : Value} (aC : PySem.W.nsIn K mainGlobals cl = some (some (.ref C)))
    (a : PySem.W.findIn K (.ref C) m = some (some (.ref f))) (i : PySem.W.isFn K (.ref f) = true) (l : K.lookup f = some ⟨oc, od, .func (PySem.W.fnOf m qual (defArgs st) (defBody st) (defScope st) .none kV dc pm an cd ct), sl⟩) (c : PySem.W.codeIn K cd qual = true) (k : PySem.W.keepIn K (.ref f) = true)
    (hb : ∀ (us : List Value), us.length = ps.length → bindArgs (PySem.W.fnOf m qual (defArgs st) (defBody st) (defScope st) .none kV dc pm an cd ct) ⟨us, []⟩ = pure (ps.zip us)) : Mf K cl m qual st ps := by
  refine ⟨f, _, fun_mk (st := st) l c k, ⟨by rw [clsK_of aC]; exact a, i, k⟩, Binds.all hb⟩
section
variable {X : Cx} {P : Program} {w : World} {K : PySem.W.Frag} {mg : Str → Option Value} {base : Heap} {N : List Str} {nm : List (Str × NameKind)} {j : Nat} {σ σ' : L2.St} {H G : Hp} {Q : VK} {D : Ends} {pos pos' p tpos apos : Pos} {C : List (Addr × HO)} {e o i value : Expr} {es : List Expr}
/-- o.f -/
theorem e_fld (c : CI X P w K mg base N nm j) {f : Str} (hb : attributeBase e f X.env (eval e X.env) = eval e X.env) (h : eS X e σ H fun x H1 => ∃ a C dx fs v, x = .ref a ∧ H1 a = some (.ins C dx fs) ∧ Cls K C ∧ NoAttr K C f ∧ Fld fs f v ∧ Q v H1) : eS X (.Attribute e f pos) σ H Q := by
  have eK := c.K
  subst eK
  exact ⟨_, pe_fld eS_is hb, eS_mono h fun x H1 ⟨a, C, dx, fs, v, h1, h2, h3, h4, h5, q⟩ => ⟨a, C, dx, fs, v, h1, h2, h3, h4, h5.look, q⟩⟩
theorem k_fld {a C0 dx : Addr} {fs : List (Str × V)} {v : V} {f : Str} {R : V → Prop} (h1 : H a = some (.ins C0 dx fs)) (h2 : Cls K C0) (h3 : NoAttr K C0 f) (h4 : Fld fs f v) (h : R v) : ∃ a' C dx fs v, V.ref a = .ref a' ∧ H a' = some (.ins C dx fs) ∧ Cls K C ∧ NoAttr K C f ∧ Fld fs f v ∧ R v :=
  ⟨a, C0, dx, fs, v, rfl, h1, h2, h3, h4, h⟩
/-- o.f = value -/
theorem s_fld (c : CI X P w K mg base N nm j) {f : Str} (hs : swapsWith value (some (.Attribute o f pos')) pos.line X.env = pure false)
    (h : eS X value σ H fun y H1 => eS X o σ H1 fun x H2 => ∃ a C dx fs fs', x = .ref a ∧ H2 a = some (.ins C dx fs) ∧ Cls K C ∧ NoAttr K C f ∧ fs.length < 1000 ∧ FPut fs f y fs' ∧ D.nx σ (upd H2 a (.ins C dx fs'))) : sS X (.Assign [.Attribute o f pos'] value pos) D σ H := by
  have eK := c.K
  subst eK
  exact ⟨_, ps_fld eS_is eS_is hs, eS_mono h fun y H1 h => eS_mono h fun x H2 ⟨a, C, dx, fs, fs', h1, h2, h3, h4, h5, h6, q⟩ => ⟨a, C, dx, fs, h1, h2, h3, h4, h5, by rw [h6.eq]; exact q⟩⟩
theorem k_fput {a C0 dx : Addr} {fs fs' : List (Str × V)} {y : V} {f : Str} {R : Hp → Prop} (O : Own G ((a, .ins C0 dx fs) :: C) H) (h2 : Cls K C0) (h3 : NoAttr K C0 f) (h5 : fs.length < 1000) (h4 : FPut fs f y fs') (h : ∀ H', Own G ((a, .ins C0 dx fs') :: C) H' → R H') : ∃ a' C dx fs fs', V.ref a = .ref a' ∧ H a' = some (.ins C dx fs) ∧ Cls K C ∧ NoAttr K C f ∧ fs.length < 1000 ∧ FPut fs f y fs' ∧ R (upd H a' (.ins C dx fs')) :=
  ⟨a, C0, dx, fs, fs', rfl, O.at, h2, h3, h5, h4, h _ O.write⟩
/-- o.m(e, ..), o an instance of a class of the module -/
theorem e_mth (c : CI X P w K mg base N nm j) {k : Nat} {cl m : Str} {sp : Sp} {pl : Sem Bool} (M : MCal P w K mg base k cl m sp) (T : Cls K (clsK K cl)) (hk : k ≤ j) (hst : starEach (e :: es) X.env = (false, eval e X.env) :: starEach es X.env) (hpl : (backTo pos (starEach es X.env)).any (·.1) = false)
    (ht : eval (.Call (.Attribute o m apos) (e :: es) [] pos) X.env = (do
      let ov ← eval o X.env
      standAt apos.atName
      let (f, first) ← holding [ov] (getMethod ov m pl)
      callWith pos f first (backTo pos (starEach (e :: es) X.env)) (backToKw pos (keywordEach [] X.env))))
    (h : eS X o σ H fun x H1 => ∃ a dx fs, x = .ref a ∧ H1 a = some (.ins (clsK K cl) dx fs) ∧ NoFld fs m ∧ aS X (e :: es) σ H1 fun vs H2 => sp (x :: vs) H2 Q E0) : eS X (.Call (.Attribute o m apos) (e :: es) [] pos) σ H Q := by
  have h1 := c.prog; have h2 := c.w; have h3 := c.K; have h4 := c.mg; have h5 := c.base
  subst h1 h2 h3 h4 h5
  obtain ⟨f, fd, ps, F, M, b⟩ := M.ex
  exact ⟨_, pe_meth eS_is T M F (c.room.mono hk) b .nil pass0 aS_is hst hpl ht, eS_mono h fun x H1 ⟨a, dx, fs, g1, g2, g3, q⟩ => ⟨a, dx, fs, g1, g2, g3.look, aS_mono q fun vs H2 q => by rw [List.append_nil]; exact q⟩⟩
theorem e_mth0 (c : CI X P w K mg base N nm j) {k : Nat} {cl m : Str} {sp : Sp} {pl : Sem Bool} (M : MCal P w K mg base k cl m sp) (T : Cls K (clsK K cl)) (hk : k ≤ j)
    (ht : eval (.Call (.Attribute o m apos) [] [] pos) X.env = (do
      let ov ← eval o X.env
      standAt apos.atName
      let (f, first) ← holding [ov] (getMethod ov m pl)
      callWith pos f first (backTo pos (starEach [] X.env)) (backToKw pos (keywordEach [] X.env))))
    (h : eS X o σ H fun x H1 => ∃ a dx fs, x = .ref a ∧ H1 a = some (.ins (clsK K cl) dx fs) ∧ NoFld fs m ∧ sp [x] H1 Q E0) : eS X (.Call (.Attribute o m apos) [] [] pos) σ H Q := by
  have h1 := c.prog; have h2 := c.w; have h3 := c.K; have h4 := c.mg; have h5 := c.base
  subst h1 h2 h3 h4 h5
  obtain ⟨f, fd, ps, F, M, b⟩ := M.ex
  exact ⟨_, pe_meth0 eS_is T M F (c.room.mono hk) b .nil pass0 ht, eS_mono h fun x H1 ⟨a, dx, fs, g1, g2, g3, q⟩ => ⟨a, dx, fs, g1, g2, g3.look, q⟩⟩
theorem k_mth {a dx : Addr} {C0 : Addr} {fs : List (Str × V)} {m : Str} {R : Prop} (h1 : H a = some (.ins C0 dx fs)) (h4 : NoFld fs m) (h : R) : ∃ a' dx fs, V.ref a = .ref a' ∧ H a' = some (.ins C0 dx fs) ∧ NoFld fs m ∧ R := ⟨a, dx, fs, rfl, h1, h4, h⟩
/-- x(), x a class of the module -/
theorem e_make0 (c : CI X P w K mg base N nm j) {k : Nat} {x : Str} {sp : Sp} (M : MkCal P w K mg base k x sp) (hk : k + 1 ≤ j) (hg : glB nm x = true)
    (O : Own G C H) (h : ∀ q dx G' H', Same G G' → G' dx = some (.own q) → Own G' ((q, .ins (clsK K x) dx []) :: C) H' → sp [.ref q] H' (fun v H2 => v = .non ∧ Q (.ref q) H2) E0) : eS X (.Call (.Name x p) [] [] pos) σ H Q := by
  have h1 := c.prog; have h2 := c.w; have h3 := c.K; have h4 := c.mg; have h5 := c.base
  subst h1 h2 h3 h4 h5
  obtain ⟨f, fd, ps, F, M, hm, b⟩ := M.ex
  refine ⟨_, pe_make0 M F (c.room.mono hk) (c.gl hg) hm b .nil pass0 (glB_d hg), fun q dx n1 n2 ne => ?_⟩
  have O1 := O.fz (o := .own q) n2
  have O2 := O1.cell (o := .ins (clsK X.K x) dx []) (by rw [upd_ne ne.symm]; exact n1)
  exact h q dx _ _ (same_new (O.frees n2).1) upd_same O2
/-- a list's item, as a value -/
theorem get_list : PGet X (rIxL X.K) := by
  intro pins s σ H x y v u Q I rx ry h
  obtain ⟨p, xs, i, z, rfl, rfl, hq, he, q⟩ := h
  cases rx
  obtain ⟨t, rfl⟩ := ry
  obtain ⟨its, r, pl, hz⟩ := I.list hq
  obtain ⟨j, h1, h2, h3, h4, h5⟩ := L2.atI_get he
  obtain ⟨w, ew, rw'⟩ := r.get h2
  have hl := r.length
  have hn := line63
  have fin : EP X pins σ Q w s := ⟨z, H, I, rw', q⟩
  by_cases h0 : 0 ≤ i
  · have hj : i.toNat = j := by
      rw [seqIndex_of h0 h5] at h1
      exact Option.some.inj h1
    exact wpAny_getItem_list pl.isList h0 (by omega) (by rw [hj]; simpa using ew) fin
  · have hj : (i + (its.toArray.size : Int)).toNat = j := by
      rw [seqIndex_neg (by omega) h4] at h1
      rw [List.size_toArray, ← hl]
      exact Option.some.inj h1
    exact wpAny_getItem_list_neg pl.isList (by omega) (by rw [List.size_toArray] <;> omega) (by omega) (by rw [hj]; simpa using ew) fin
/-- xs[i] op= e -/
theorem s_augL (c : CI X P w K mg base N nm j) {op : Operator} (ha : ∀ ov iv new, augStore i ov iv new = (do holding [new, ov, iv] (setItem ov iv new); release [new, ov, iv] []; pure .next))
    (h : eS X o σ H fun x H1 => eS X i σ H1 fun y H2 => ∃ p xs k v, x = .ref p ∧ y = .int k ∧ SqL K H2 p xs ∧ atI xs k = some v ∧ eS X e σ H2 fun z H3 => oS X (inplaceOp op) v z H3 fun r H4 => pS X x y r H4 fun H5 => D.nx σ H5) : sS X (.AugAssign (.Subscript o i tpos) op e pos) D σ H := by
  have eK := c.K
  subst eK
  exact ⟨_, ps_augS eS_is eS_is get_list eS_is (fun pins s σ H x y v u Q => oS_is pins s σ H x y v u Q) pS_is ha, h⟩
/-- a cell that is a list, written at a place -/
theorem e_gref {x : Str} {q : Addr} (c : CI X P w K mg base N nm j) (hm : mg x = some (.ref q)) (hg : glB nm x = true) (h : Q (.ref q) H) : eS X (.Name x pos) σ H Q := e_glob c hg hm (show L2.RelV (.ref q) (.ref q) from rfl) h
theorem i_falseB {b : Bool} {A B : Prop} (h : b = false) (k : B) : if b = true then A else B := by rw [h]; exact k
theorem i_trueB {b : Bool} {A B : Prop} (h : b = true) (k : A) : if b = true then A else B := by rw [h]; exact k
/-- xs.pop() of a cell that is a mapped list -/
theorem m_popC {α : Type} {f : α → V} {a : α} {l : List α} {q : Addr} (O : Own G ((q, .lst ((l ++ [a]).map f)) :: C) H) (h : ∀ H', Own G ((q, .lst (l.map f)) :: C) H' → Q (f a) H') : mS X "list.pop" (.ref q) [] H Q :=
  m_pop (y := f a) O.at (by simp) (by
    have e : ((l ++ [a]).map f).dropLast = l.map f := by rw [List.map_append]; simp
    rw [e]
    exact h _ O.write)
theorem p_cellN {xs : List V} {k : Int} {n : Nat} {q : Addr} {v : V} {R : Hp → Prop} (O : Own G ((q, .lst xs) :: C) H) (hk : k = n) (hn : n < xs.length) (h : ∀ H', Own G ((q, .lst (xs.set n v)) :: C) H' → R H') : pS X (.ref q) (.int k) v H R := by
  subst hk
  refine p_lst O.at ?_ (h _ O.write)
  unfold ixN
  rw [if_pos (Int.natCast_nonneg _), if_pos (by omega)]
  simp
theorem atI_nat' {α : Type} {z : List α} {k : Int} {n : Nat} {v : α} (hk : k = n) (e : z[n]? = some v) : atI z k = some v := by
  subst hk; exact Go.atI_get e
end
section
variable {P : Program} {w : World} {K : PySem.W.Frag} {mg : Str → Option Value} {base : Heap} {N : List Str}
theorem intoQ {x qual : Str} {st : Stmt} {f : Addr} {fd : FuncData} {ps : List Str} {sp : Sp} {k : Nat} (F : Fun K x qual st f fd) {nm : List (Str × NameKind)} (S : FnScope N ps (defScope st)) (hnm : (defScope st).names = nm) (len : ∀ vs H Q E, sp vs H Q E → vs.length = ps.length) (hl : ps.length ≤ N.length)
    (body : ∀ (X : Cx) (H : Hp) (vs : List V) (Q : VK) (E : XK), CI X P w K mg base N nm k → sp vs H Q E → bS X (defBody st) { nx := fun _ H' => Q .non H', rt := Q } (startL N vs) H) : FnOk P w K mg base CX0 (k + 1) f fd ps sp :=
  enter F S hnm len fun X H vs Q E c h => by
    rw [startL_eq N vs (by rw [len vs H Q E h]; exact hl)]
    exact body X H vs Q E c h
end
end Go

namespace Go
open PySem PySem.Spec PyProof.Rows L2
/-! cells in another order -/
inductive Pull {α : Type} (x : α) : List α → List α → Prop
  | here {L : List α} : Pull x (x :: L) L
  | there {y : α} {L L' : List α} (h : Pull x L L') : Pull x (y :: L) (y :: L')
inductive Pl {α : Type} : List α → List α → Prop
  | refl {L : List α} : Pl L L
  | cons {x : α} {L L' A : List α} (h : Pull x L L') (k : Pl L' A) : Pl L (x :: A)
theorem Pull.perm {α : Type} {x : α} : ∀ {L L' : List α}, Pull x L L' → L.Perm (x :: L')
  | _, _, .here => List.Perm.refl _
  | _, _, .there h => (List.Perm.cons _ h.perm).trans (List.Perm.swap _ _ _)
theorem Pl.perm {α : Type} : ∀ {L A : List α}, Pl L A → L.Perm A
  | _, _, .refl => List.Perm.refl _
  | _, _, .cons h k => h.perm.trans (List.Perm.cons _ k.perm)
theorem Own.pl {G H : Hp} {C D : List (Addr × HO)} (O : Own G C H) (h : Pl C D) : Own G D H := O.perm h.perm.symm
/-- what is frozen, or one of the cells -/
theorem sq_or {K : PySem.W.Frag} {G G' H' : Hp} {C0 C : List (Addr × HO)} {p : Addr} {xs : List V} (h : G p = some (.lst xs) ∨ (p, HO.lst xs) ∈ C) (O : Own G' C0 H') (hs : ∀ z ∈ C, z ∈ C0) (s : Same G G') : SqL K H' p xs :=
  h.elim (fun h => .of (hp_up O (s _ _ h))) (fun h => .of (O.own _ (hs _ h)).1)
section
variable {X : Cx} {G H : Hp} {C : List (Addr × HO)} {Q : VK}
/-- xs.pop(k) of a cell -/
theorem m_popI {p : Addr} {xs : List V} {k : Int} {n : Nat} (O : Own G ((p, .lst xs) :: C) H) (hk : k = (n : Nat)) (hn : n < xs.length) (hm : xs.length ≤ 1000000) (h : ∀ x H', xs[n]? = some x → Own G ((p, .lst (xs.eraseIdx n)) :: C) H' → Q x H') : mS X "list.pop" (.ref p) [.int k] H Q := by
  subst hk
  exact ⟨_, mt_popAt, p, xs, (n : Int), n, xs[n], rfl, rfl, O.at, by omega, by omega, by
    unfold seqIndex?
    show (if (decide (0 ≤ (if (n : Int) < 0 then (n : Int) + (xs.length : Int) else (n : Int))) && decide ((if (n : Int) < 0 then (n : Int) + (xs.length : Int) else (n : Int)) < (xs.length : Int))) = true then some (if (n : Int) < 0 then (n : Int) + (xs.length : Int) else (n : Int)).toNat else none) = some n
    rw [if_neg (show ¬ (n : Int) < 0 by omega), decide_eq_true (show (0 : Int) ≤ (n : Int) by omega), decide_eq_true (show (n : Int) < (xs.length : Int) by omega)]
    rfl, List.getElem?_eq_getElem hn, h _ _ (List.getElem?_eq_getElem hn) O.write⟩
end
end Go

namespace Go
open PySem PySem.Spec PyProof.Rows L2

/-! exceptions of the module's own classes, over ValueError -/
/-- one that was caught and is kept -/
def ExcO (cls : Value) (a : Addr) : HO := .ext fun h => ∃ (oe : Obj) (vs : Array Value), h.get? a = some oe ∧ Zc cls none oe ∧ oe.data = .fields vs
theorem excO_ok {P : Program} {w : World} {H : Hp} {h : Heap} {a : Addr} {cls : Value} {oe : Obj} {vs : Array Value} (e : h.get? a = some oe) (z : Zc cls none oe) (d : oe.data = .fields vs) : ObjOk P w H h a (ExcO cls a) :=
  ⟨⟨oe, vs, e, z, d⟩, ⟨oe, e⟩, fun _ _ ⟨o, v, q, r⟩ k => ⟨o, v, k o q, r⟩⟩
/-- what was pinned in a suite is tracked from now on -/
theorem adopt {X : Cx} {pins : List (Addr × Obj)} {σ : L2.St} {H : Hp} {s : Shared} {a : Addr} {oe : Obj} {o : HO} (I : Inv X ((a, oe) :: pins) σ H s) (n0 : X.s_0.heap.get? a = none) (hp : ∀ p ∈ X.pn ++ pins, p.1 ≠ a) (new : ObjOk X.prog X.w (upd H a o) s.heap a o) : Inv X pins σ (upd H a o) s := by
  obtain ⟨ha, na, nL, nF, nc⟩ := I.pin (a, oe) (List.mem_append_right _ List.mem_cons_self)
  have off : ∀ {b : Addr}, b ≠ a → upd H a o b = H b := fun h => upd_ne h
  refine ⟨I.ok, I.os, I.bare, ⟨I.base.keep, I.base.slot, fun b u e n hx => ?_, I.base.there, fun b xs e => ?_, fun b u xs e => ?_, fun b ps e => ?_⟩, I.loc, I.cell, (off (Ne.symm nL)).trans I.free, fun x c e => ?_, fun p hm => ?_, I.hok.laidN (fun _ _ q => q) na new, I.len⟩
  · exact (off (fun z => by rw [z, n0] at e; cases e)).trans (I.base.free b u e n hx)
  · have q := I.base.tups b xs e
    exact (off (ne_of_none q na)).trans q
  · have q := I.base.frzs b u xs e
    exact (off (ne_of_none q na)).trans q
  · obtain ⟨more, q⟩ := I.base.tbls b ps e
    exact ⟨more, (off (ne_of_none q na)).trans q⟩
  · refine (off (fun z => ?_)).trans (I.freeC x c e)
    obtain ⟨v, ob, h1, h2⟩ := I.cell x c e
    rw [z] at h1
    have h3 : s.heap.get? a = some oe := ha
    rw [h3] at h1
    cases h1
    exact nc _ h2
  · have hm' : p ∈ X.pn ++ (a, oe) :: pins := by
      rcases List.mem_append.mp hm with h | h
      · exact List.mem_append_left _ h
      · exact List.mem_append_right _ (List.mem_cons_of_mem _ h)
    obtain ⟨h1, h2, h3⟩ := I.pin p hm'
    exact ⟨h1, (off (hp p hm)).trans h2, h3⟩
/-- what a try wishes whose one clause is 'except W as n: y = n', the slots i of n, k of y -/
abbrev wKept (K : PySem.W.Frag) (c : Value) (i k : Nat) (D : Ends) : WX := fun cls d σ H => d = none ∧ PySem.W.exmOne K cls c = some true ∧ ∀ a, H a = none → D.nx (((σ.set i (some (.ref a))).set k (some (.ref a))).set i none) (upd H a (ExcO cls a))
section
variable {X : Cx} {x n y : Str} {c : Value} {i k : Nat} {body : List Stmt} {np np2 yp ap hp pos : Pos} {tb : WX → TS}
/-- the clause at work -/
theorem kept_catch {pins : List (Addr × Obj)} {D : Ends} {xe : Value → Shared → Prop} {u : Value} {s' : Shared} (ok : X.Ok) (hs : X.stack = X.env :: X.outer) (hf : X.env.frame = some X.env.locals) (hx : X.ex = []) (hN : X.N.Nodup) (hi : X.N[i]? = some n) (hln : X.env.kindOf n = some .local) (hk : X.N[k]? = some y) (hlk : X.env.kindOf y = some .local)
    (hd : (n == ("__debug__" : Str)) = false) (hcd : (n == ("__classdict__" : Str)) = false) (hc : Names X x c) (hsw : swapsWith (.Name n np2) (some (.Name y yp)) ap.line X.env = pure false) (xx : XE (X.tr (X.pn ++ pins) xe) (wKept X.K c i k D) u s') :
    wpAny (model X.prog X.w) X.A (noteFrame u X.env) (fun _ s₂ => wpAny (model X.prog X.w) X.A (setFlight u none) (fun _ s₃ => wpAny (model X.prog X.w) X.A (handleBy u X.env [.ExceptHandler (some (.Name x np)) (some n) [.Assign [.Name y yp] (.Name n np2) ap] hp]) (SP X pins D) X.xe s₃) X.xe s₂) X.xe s' := by
  obtain ⟨a, B, sI, pins', σ', H', cls, d, rfl, J', nb, up, sky, na, os, ag, rfl, hm, hq⟩ := xx
  have J : Inv X pins σ' H' sI := J'.ofTry ok
  have fr : X.A.frames = some (X.env :: X.outer) := ok.frames.trans (by rw [hs])
  have sky' : Sky B (X.env :: X.outer) a (Zc cls none) X.env.locals s'.heap := hs ▸ sky
  refine Sky.land Zc.steady fr hf sky' fun g fl upg => ?_
  have J3 : Inv X pins σ' H' { s' with heap := g } := J.landed nb fl.1 (up.trans upg) os ag
  obtain ⟨oe, vs, he, hz, hv⟩ := fl.there
  have nB : B.get? a = none := fl.2.1
  have nS : a ∉ frs (X.env :: X.outer) := fun hm => by
    obtain ⟨_, o', e', hnf⟩ := fl.2.2.1.mem hm
    have he' := he
    rw [e'] at he'
    cases he'
    exact hnf _ hv
  have nL : a ≠ X.env.locals := fun z => nS (List.mem_filterMap.mpr ⟨X.env, List.mem_cons_self, by rw [hf, z]⟩)
  have nF : a ∉ X.fs := fun hm => by
    obtain ⟨e, h1, h2⟩ := List.mem_filterMap.mp hm
    exact nS (List.mem_filterMap.mpr ⟨e, List.mem_cons_of_mem _ h1, h2⟩)
  have sub : ∀ {b : Addr} {o : Obj}, sI.heap.get? b = some o → b ∉ frs (X.env :: X.outer) → b ≠ a := fun {b o} e hb z => by
    have := nb b o e (by rw [show (X.tr (X.pn ++ pins) xe).stack = X.stack from rfl, hs]; exact hb)
    rw [z, nB] at this
    cases this
  have n0 : X.s_0.heap.get? a = none := by
    cases e : X.s_0.heap.get? a with
    | none => rfl
    | some o =>
      obtain ⟨o', e'⟩ := J.base.there a o e (by rw [hx]; exact List.not_mem_nil)
      exact absurd rfl (sub e' nS)
  have hpn : ∀ p ∈ X.pn ++ pins, p.1 ≠ a := fun p hp => by
    obtain ⟨h1, _, h3, h4, _⟩ := J.pin p hp
    refine sub h1 fun hm => ?_
    obtain ⟨e, h5, h6⟩ := List.mem_filterMap.mp hm
    rcases List.mem_cons.mp h5 with rfl | h5
    · rw [hf] at h6
      exact h3 (Option.some.inj h6).symm
    · exact h4 (List.mem_filterMap.mpr ⟨e, h5, h6⟩)
  have S3 := J3.suite he hv na nL nF
  refine wpAny_handleBy_cons (codeAny_handlers_test ?_) (fun q => nomatch q)
  have LT : PySem.W.Looks (model X.prog X.w) g (typeOf (.ref a)) cls := fun _ _ _ _ st q => wpAny_typeOf_ref (st _ _ he) (by rw [hz.1]; exact q)
  have LM := PySem.W.exm_one (M := model X.prog X.w) J3.kIn LT hm
  have named : ∀ {Q E : Value → Shared → Prop}, Q c { s' with heap := g } → wpAny (model X.prog X.w) (X.A.mark (some (.ref a))) (eval (.Name x np) X.env) Q E { s' with heap := g } := fun {Q E} q => by
    obtain ⟨hg, hdb, hm | ⟨hm, hv, hnn⟩⟩ := hc
    · exact ld_glob S3 hg hm q hdb
    · exact ld_blt S3 hg hm hv q hnn hdb
  refine named (LM.here (codeAny_handlers_suite_as (HandSPX.lands_againZ fl fun g4 fl4 up4 => ?_)))
  have J4 : Inv X pins σ' H' { s' with heap := g4 } := J.landed nb fl4.1 ((up.trans upg).trans up4) os ag
  obtain ⟨oe4, vs4, he4, hz4, hv4⟩ := fl4.there
  have S4 := J4.suite he4 hv4 na nL nF
  have one : PSs (X.suite a ((a, oe4) :: (X.pn ++ pins))) [.Assign [.Name y yp] (.Name n np2) ap] _ := pss_one (ps_set (i := k) hN hk (.inl hlk) (pe_var (i := i) hi (.inl hln) hd hcd) hsw (.inr hlk))
  refine store_ok (X := X.suite a ((a, oe4) :: (X.pn ++ pins))) (v := .ref a) S4 hN hi (.inl hln) rfl (fun s5 S5 => ?_) (.inr hln)
  have hlt : i < σ'.length := by
    have h1 : σ'.length = X.N.length := S4.len
    rw [h1]
    exact (List.getElem?_eq_some_iff.mp hi).1
  refine wpAny_mono (one.run [] s5 _ H' ⟨fun σ6 H6 => σ6 = (σ'.set i (some (.ref a))).set k (some (.ref a)) ∧ H6 = H', fun _ _ => False, fun _ _ => False, fun _ _ => False⟩ S5 ⟨.ref a, by rw [List.getElem?_set_self hlt], rfl, rfl⟩) (fun f s6 hsp => ?_) fun _ _ z => False.elim z
  cases f with
  | next =>
    obtain ⟨σ6, H6, S6, rfl, rfl⟩ := hsp
    have J6 : Inv X ((a, oe4) :: pins) ((σ'.set i (some (.ref a))).set k (some (.ref a))) H6 s6 := ⟨ok, S6.os, S6.bare, S6.base, S6.loc, S6.cell, S6.free, S6.freeC, fun p hp => S6.pin p (List.mem_append_left _ (by
      rcases List.mem_append.mp hp with h | h
      · exact List.mem_cons_of_mem _ (List.mem_append_left _ h)
      · rcases List.mem_cons.mp h with h | h
        · rw [h]; exact List.mem_cons_self
        · exact List.mem_cons_of_mem _ (List.mem_append_right _ h))), S6.hok, S6.len⟩
    exact gone_ok J6 hN hi hln fun s7 J7 => ⟨_, _, adopt J7 n0 hpn (excO_ok (J7.pin (a, oe4) (List.mem_append_right _ List.mem_cons_self)).1 hz4 hv4), hq a na⟩
  | ret v => obtain ⟨_, _, _, _, _, z⟩ := hsp; exact z.elim
  | brk => obtain ⟨_, _, _, z⟩ := hsp; exact z.elim
  | cont => obtain ⟨_, _, _, z⟩ := hsp; exact z.elim
theorem ps_kept (hs : X.stack = X.env :: X.outer) (hf : X.env.frame = some X.env.locals) (hx : X.ex = []) (hN : X.N.Nodup) (hi : X.N[i]? = some n) (hln : X.env.kindOf n = some .local) (hk : X.N[k]? = some y) (hlk : X.env.kindOf y = some .local)
    (hd : (n == ("__debug__" : Str)) = false) (hcd : (n == ("__classdict__" : Str)) = false) (hc : Names X x c) (hsw : swapsWith (.Name n np2) (some (.Name y yp)) ap.line X.env = pure false)
    (hb : ∀ (W : WX) (pn : List (Addr × Obj)) (xe : Value → Shared → Prop), Takes (X.tr pn xe) W → PassesOwn (model X.prog X.w) X.A X.env xe → PSs (X.tr pn xe) body (tb W)) :
    PS X (.Try body [.ExceptHandler (some (.Name x np)) (some n) [.Assign [.Name y yp] (.Name n np2) ap] hp] [] [] pos) (fun D σ H => tb (wKept X.K c i k D) D σ H) := by
  refine ⟨fun pins s σ H D I h => wpAny_Try_except (wpAny_mono ((hb (wKept X.K c i k D) (X.pn ++ pins) _ (fun u s' xx => ?_) PassesOwn.looking).run [] s σ H D (I.toTry _) h) (fun f s1 hsp => ?_) fun _ _ z => z)⟩
  · exact kept_catch (np := np) (hp := hp) I.ok hs hf hx hN hi hln hk hlk hd hcd hc hsw xx
  · cases f with
    | next => obtain ⟨σ1, H1, J, q⟩ := hsp; exact wpAny_execs_nil ⟨σ1, H1, J.ofTry I.ok, q⟩
    | ret v => obtain ⟨x, σ1, H1, J, r, q⟩ := hsp; exact ⟨x, σ1, H1, J.ofTry I.ok, r, q⟩
    | brk => obtain ⟨σ1, H1, J, q⟩ := hsp; exact ⟨σ1, H1, J.ofTry I.ok, q⟩
    | cont => obtain ⟨σ1, H1, J, q⟩ := hsp; exact ⟨σ1, H1, J.ofTry I.ok, q⟩
end

/-- a def's own frame, no comprehension's -/
structure Top (X : Cx) : Prop where
  hs : X.stack = X.env :: X.outer
  hf : X.env.frame = some X.env.locals
  hx : X.ex = []
/-- what leaves a def -/
abbrev outE (E : XK) : WX := fun cls d _ H => E cls d H
/-- a class of exceptions of the module, over ValueError, without own __init__ -/
structure ExcK (K : PySem.W.Frag) (mg : Str → Option Value) (x : Str) : Prop where
  mg : mg x = some (.ref (clsK K x))
  ex : PySem.W.excIn K (clsK K x) PySem.HandSPX.veTail "ValueError.__new__" = true
  kp : PySem.W.keepIn K (.ref (clsK K x)) = true
  sb : PySem.W.subIn K (.ref (clsK K x)) (.type "BaseException") = some true
  ty : PySem.W.typeIn K (.ref (clsK K x)) = some (.type "type")
  ec : ExcC K (clsK K x)
/-- a def that may raise -/
structure CalX (P : Program) (w : World) (K : PySem.W.Frag) (mg : Str → Option Value) (base : Heap) (k : Nat) (x : Str) (sp : Sp) : Prop where
  ex : ∃ (f : Addr) (fd : FuncData) (ps : List Str), FnOk P w K mg base (L2.CX P w) k f fd ps sp ∧ mg x = some (.ref f) ∧ PySem.W.keepIn K (.ref f) = true ∧ Binds K fd ps []
/-- a method that may raise -/
structure MCalX (P : Program) (w : World) (K : PySem.W.Frag) (mg : Str → Option Value) (base : Heap) (k : Nat) (x m : Str) (sp : Sp) : Prop where
  ex : ∃ (f : Addr) (fd : FuncData) (ps : List Str), FnOk P w K mg base (L2.CX P w) k f fd ps sp ∧ Meth K (clsK K x) m f ∧ Binds K fd ps []
section
variable {P : Program} {w : World} {K : PySem.W.Frag} {mg : Str → Option Value} {base : Heap} {N : List Str} {k : Nat} {sp : Sp}
/-- where it raises nothing -/
theorem fn_calm {f : Addr} {fd : FuncData} {ps : List Str} (F : FnOk P w K mg base (L2.CX P w) k f fd ps sp) : FnOk P w K mg base CX0 k f fd ps (fun vs H Q _ => sp vs H Q E0) :=
  ⟨fun vs H Q _ h => F.len vs H Q E0 h, fun A outer s H args us vs Q E hr he hb hv hsp => codeAny_mono (F.run A outer s H args us vs Q E0 hr he hb hv hsp) fun r s' hq => by
    cases r with
    | ok fl => cases fl <;> exact hq
    | error e =>
      obtain ⟨_, _, _, _, _, _, _, _, _, _, _, _, z⟩ := hq
      exact z.elim⟩
theorem CalX.cal {x : Str} (C : CalX P w K mg base k x sp) : Cal P w K mg base k x (fun vs H Q _ => sp vs H Q E0) := by
  obtain ⟨f, fd, ps, F, h⟩ := C.ex
  exact ⟨f, fd, ps, fn_calm F, h⟩
theorem MCalX.cal {x m : Str} (C : MCalX P w K mg base k x m sp) : MCal P w K mg base k x m (fun vs H Q _ => sp vs H Q E0) := by
  obtain ⟨f, fd, ps, F, h⟩ := C.ex
  exact ⟨f, fd, ps, fn_calm F, h⟩
theorem calX_of {x : Str} {st : Stmt} {ps : List Str} (D : Df K mg x st ps) (h : ∀ {f : Addr} {fd : FuncData}, Fun K x x st f fd → FnOk P w K mg base (L2.CX P w) k f fd ps sp) : CalX P w K mg base k x sp := by
  obtain ⟨f, fd, F, m, b, _⟩ := D
  exact ⟨f, fd, ps, h F, m, F.kp, b⟩
theorem mcalX_of {cl m qual : Str} {st : Stmt} {ps : List Str} (D : Mf K cl m qual st ps) (h : ∀ {f : Addr} {fd : FuncData}, Fun K m qual st f fd → FnOk P w K mg base (L2.CX P w) k f fd ps sp) : MCalX P w K mg base k cl m sp := by
  obtain ⟨f, fd, F, M, b⟩ := D.ex
  exact ⟨f, fd, ps, h F, M, b⟩
/-- into a def that has a try -/
theorem intoT {x qual : Str} {st : Stmt} {f : Addr} {fd : FuncData} {ps : List Str} (F : Fun K x qual st f fd) {nm : List (Str × NameKind)} (S : FnScope N ps (defScope st)) (hnm : (defScope st).names = nm) (len : ∀ vs H Q E, sp vs H Q E → vs.length = ps.length) (hl : ps.length ≤ N.length)
    (body : ∀ (X : Cx) (H : Hp) (vs : List V) (Q : VK) (E : XK), CI X P w K mg base N nm k → Top X → sp vs H Q E → bS X (defBody st) { nx := fun _ H' => Q .non H', rt := Q } (startL N vs) H) : FnOk P w K mg base CX0 (k + 1) f fd ps sp :=
  F.ok S len fun cdv A outer s H vs Q E hr h => ⟨_, bS_is, by
    rw [startL_eq N vs (by rw [len vs H Q E h]; exact hl)]
    exact body _ H vs Q E ⟨S.nd, fun _ h => by rw [← hnm] at h; exact h, fun _ h => ⟨by rw [← hnm] at h; exact h, rfl⟩, fun _ h => .inr (by rw [← hnm] at h; exact h), fun _ h => by rw [← hnm] at h; exact h, rfl, rfl, rfl, rfl, rfl, rfl, S.kind, rfl, hr, PassesOwn.never⟩ ⟨rfl, rfl, rfl⟩ h⟩
/-- into a def that may raise -/
theorem intoX {x qual : Str} {st : Stmt} {f : Addr} {fd : FuncData} {ps : List Str} (F : Fun K x qual st f fd) {nm : List (Str × NameKind)} (S : FnScope N ps (defScope st)) (hnm : (defScope st).names = nm) (len : ∀ vs H Q E, sp vs H Q E → vs.length = ps.length) (hl : ps.length ≤ N.length)
    (body : ∀ (X : Cx) (H : Hp) (vs : List V) (Q : VK) (E : XK), CI X P w K mg base N nm k → Takes X (outE E) → sp vs H Q E → bS X (defBody st) { nx := fun _ H' => Q .non H', rt := Q } (startL N vs) H) : FnOk P w K mg base (L2.CX P w) (k + 1) f fd ps sp :=
  F.okX S len fun cdv A outer s H vs Q E hr h => ⟨_, bS_is, by
    rw [startL_eq N vs (by rw [len vs H Q E h]; exact hl)]
    exact body _ H vs Q E ⟨S.nd, fun _ h => by rw [← hnm] at h; exact h, fun _ h => ⟨by rw [← hnm] at h; exact h, rfl⟩, fun _ h => .inr (by rw [← hnm] at h; exact h), fun _ h => by rw [← hnm] at h; exact h, rfl, rfl, rfl, rfl, rfl, rfl, S.kind, rfl, hr, passes_of rfl⟩ (takes_of rfl rfl rfl rfl) h⟩
end
section
variable {X : Cx} {P : Program} {w : World} {K : PySem.W.Frag} {mg : Str → Option Value} {base : Heap} {N : List Str} {nm : List (Str × NameKind)} {j : Nat} {σ σ' : L2.St} {H G : Hp} {Q : VK} {D : Ends} {pos pos' p p2 apos np np2 yp ap hp : Pos} {C : List (Addr × HO)} {e o : Expr} {es : List Expr} {W : WX} {body : List Stmt}
theorem CI.tr (c : CI X P w K mg base N nm j) {pn : List (Addr × Obj)} {xe : Value → Shared → Prop} (h : PassesOwn (model X.prog X.w) X.A X.env xe) : CI (X.tr pn xe) P w K mg base N nm j :=
  ⟨c.nd, c.lo, c.ce, c.fr, c.go, c.N, c.prog, c.w, c.K, c.mg, c.base, c.kind, c.calm, c.room, h⟩
/-- try: body / except W as n: y = n -/
theorem s_try (c : CI X P w K mg base N nm j) (tp : Top X) {wn n y : Str} {cv : Value} {i k : Nat} (hi : Ix N n i) (hn : nm.lookup n = some .local) (hk : Ix N y k) (hy : nm.lookup y = some .local) (hW : glB nm wn = true) (hm : mg wn = some cv) (hd : (n == ("__debug__" : Str)) = false) (hcd : (n == ("__classdict__" : Str)) = false)
    (hsw : swapsWith (.Name n np2) (some (.Name y yp)) ap.line X.env = pure false) (h : ∀ X', CI X' P w K mg base N nm j → Takes X' (wKept K cv i k D) → bS X' body D σ H) :
    sS X (.Try body [.ExceptHandler (some (.Name wn np)) (some n) [.Assign [.Name y yp] (.Name n np2) ap] hp] [] [] pos) D σ H := by
  have h1 := c.K
  subst h1
  refine ⟨_, ps_kept (tb := fun W D σ H => ∀ pn xe, Takes (X.tr pn xe) W → PassesOwn (model X.prog X.w) X.A X.env xe → bS (X.tr pn xe) body D σ H) tp.hs tp.hf tp.hx (by rw [c.N]; exact c.nd) (by rw [c.N]; exact hi.get) (c.lo _ hn) (by rw [c.N]; exact hk.get) (c.lo _ hy) hd hcd ⟨c.gl hW, glB_d hW, .inl (by rw [c.mg]; exact hm)⟩ hsw (fun W pn xe tk ps => ⟨fun pins s σ H D I h => bS_is.run pins s σ H D I (h pn xe tk ps)⟩), fun pn xe tk ps => h _ (c.tr ps) tk⟩
/-- raise x('m') -/
theorem s_raise (c : CI X P w K mg base N nm j) (tk : Takes X W) {x m : Str} {t : Nat} (e : ExcK K mg x) (hg : glB nm x = true) (h : W (.ref (clsK K x)) none σ H) : sS X (.Raise (some (.Call (.Name x p) [.Constant (.str m) t p2] [] pos)) none pos') D σ H := by
  have h1 := c.K
  subst h1
  exact ⟨_, ps_raise c.calm tk (pmk_own PySem.F.excBase_ValueError e.ex (by rw [c.mg]; exact e.mg) e.kp (raises_own e.sb e.ty) (c.gl hg) (glB_d hg)), h⟩
theorem e_callX (c : CI X P w K mg base N nm j) {x : Str} {k : Nat} {sp : Sp} (R : CalX P w K mg base k x sp) (tk : Takes X W) (hk : k ≤ j) (hg : glB nm x = true) (he : starEach (e :: es) X.env = (false, eval e X.env) :: starEach es X.env) (hpl : (backTo pos (starEach es X.env)).any (·.1) = false)
    (h : aS X (e :: es) σ H fun vs H1 => sp vs H1 Q (fun cls d H' => W cls d σ H')) : eS X (.Call (.Name x p) (e :: es) [] pos) σ H Q := by
  have h1 := c.prog; have h2 := c.w; have h3 := c.K; have h4 := c.mg; have h5 := c.base
  subst h1 h2 h3 h4 h5
  obtain ⟨f, fd, ps, F, h1, h2, h3⟩ := R.ex
  exact ⟨_, pe_callS F (c.room.mono hk) (c.gl hg) h1 h2 h3 (passAt tk) aS_is (glB_d hg) he hpl, h⟩
/-- o.m(e, ..) that may raise: what the caller wishes hangs on its slots -/
theorem e_mthX (c : CI X P w K mg base N nm j) {k : Nat} {cl m : Str} {sp : Sp} {pl : Sem Bool} (R : MCalX P w K mg base k cl m sp) (T : Cls K (clsK K cl)) (tk : Takes X W) (hk : k ≤ j) (hst : starEach (e :: es) X.env = (false, eval e X.env) :: starEach es X.env) (hpl : (backTo pos (starEach es X.env)).any (·.1) = false)
    (ht : eval (.Call (.Attribute o m apos) (e :: es) [] pos) X.env = (do
      let ov ← eval o X.env
      standAt apos.atName
      let (f, first) ← holding [ov] (getMethod ov m pl)
      callWith pos f first (backTo pos (starEach (e :: es) X.env)) (backToKw pos (keywordEach [] X.env))))
    (h : eS X o σ H fun x H1 => ∃ a dx fs, x = .ref a ∧ H1 a = some (.ins (clsK K cl) dx fs) ∧ NoFld fs m ∧ aS X (e :: es) σ H1 fun vs H2 => sp (x :: vs) H2 Q (fun cls d H' => W cls d σ H')) : eS X (.Call (.Attribute o m apos) (e :: es) [] pos) σ H Q := by
  have h1 := c.prog; have h2 := c.w; have h3 := c.K; have h4 := c.mg; have h5 := c.base
  subst h1 h2 h3 h4 h5
  obtain ⟨f, fd, ps, F, M, b⟩ := R.ex
  refine ⟨fun σ H Q => eS X o σ H fun x H1 => ∃ a dx fs, x = .ref a ∧ H1 a = some (.ins (clsK X.K cl) dx fs) ∧ NoFld fs m ∧ aS X (e :: es) σ H1 fun vs H2 => sp (x :: vs) H2 Q (fun cls d H' => W cls d σ H'), ⟨fun pins s σ H Q I hq => ?_⟩, h⟩
  refine PySem.W.methodCall_KW (pl := pl) (thn (eS_is.run pins s σ H _ I hq) fun u s1 ⟨x, H1, I1, rx, a, dx, fs, ex, ea, nf, q⟩ => ?_) ht
  subst ex
  obtain rfl : u = Value.ref a := rx
  refine getmeth_ok I1 ea T M nf.look (PySem.W.callWith_K (first := [.ref a]) (h₀ := X.base) I.ok.mod.kin M.kp (thn (aS_is.run pos pins s1 σ H1 _ I1 q) fun us s2 ⟨vs, H2, I2, r, q2⟩ => ⟨I2.kIn, ?_⟩) hst hpl)
  exact run_fnS (E := WE W) (us := .ref a :: us) (vs := .ref a :: vs) F (c.room.mono hk) b (passAt tk σ) I2 (.cons rfl r) q2
/-- isinstance of a kept exception -/
theorem c_isE (c : CI X P w K mg base N nm j) {a D0 : Addr} {v : V} {cv : Value} {b : Bool} (h1 : H a = some (ExcO (.ref D0) a)) (h2 : ExcC K D0) (h3 : ClsV v cv) (h4 : PySem.W.kitOne K (.ref D0) cv = some b) (h : Q (.bl b) H) : cS X (.builtin "isinstance") [.ref a, v] H Q := by
  have eK := c.K
  subst eK
  refine ⟨fun vs H Q => ∃ (a D0 : Addr) (v : V) (cv : Value) (b : Bool), vs = [.ref a, v] ∧ H a = some (ExcO (.ref D0) a) ∧ ExcC X.K D0 ∧ ClsV v cv ∧ PySem.W.kitOne X.K (.ref D0) cv = some b ∧ Q (.bl b) H, ?_, a, D0, v, cv, b, rfl, h1, h2, h3, h4, h⟩
  intro pins s σ H xs us Q I r h
  obtain ⟨a, D0, v, cv, b, rfl, e, C, hv, hk, q⟩ := h
  obtain ⟨u1, u2, rfl, r1, r2⟩ := vals2 r
  have e2 := hv.eq r2
  subst e2
  cases (show u1 = Value.ref a from r1)
  obtain ⟨⟨oe, vs, hget, hz, hd⟩, _⟩ := (show ObjOk X.prog X.w H s.heap a (ExcO (.ref D0) a) from I.hok a _ e)
  have J : PySem.W.InstAt s.heap a oe D0 none := by
    obtain ⟨oc, od, oda, osl⟩ := oe
    obtain ⟨h1, h2⟩ := hz
    dsimp only at h1 h2 hd
    subst h1 h2 hd
    exact ⟨hget, rfl, rfl, trivial⟩
  exact PySem.W.kia_one (PySem.W.handS_kitx_exc C.hg C.hk C.hs C.hd C.ha C.hn C.ht C.hm) I.kIn J hk (fun z => nomatch z) fun tk => ⟨.bl b, H, I.tok tk, rfl, q⟩
/-- .. by a tuple of classes -/
theorem c_isET (c : CI X P w K mg base N nm j) {a D0 tp : Addr} {cs : List V} {ws : List Value} {b : Bool} (h1 : H a = some (ExcO (.ref D0) a)) (h2 : ExcC K D0) (ht : H tp = some (.tup cs)) (h3 : Paired ClsV cs ws) (h4 : PySem.W.kitAny K (.ref D0) ws = some b) (h : Q (.bl b) H) : cS X (.builtin "isinstance") [.ref a, .ref tp] H Q := by
  have eK := c.K
  subst eK
  refine ⟨fun vs H Q => ∃ (a D0 tp : Addr) (cs : List V) (ws : List Value) (b : Bool), vs = [.ref a, .ref tp] ∧ H a = some (ExcO (.ref D0) a) ∧ ExcC X.K D0 ∧ H tp = some (.tup cs) ∧ Paired ClsV cs ws ∧ PySem.W.kitAny X.K (.ref D0) ws = some b ∧ Q (.bl b) H, ?_, a, D0, tp, cs, ws, b, rfl, h1, h2, ht, h3, h4, h⟩
  intro pins s σ H xs us Q I r h
  obtain ⟨a, D0, tp, cs, ws, b, rfl, e, C, ht, hp, hk, q⟩ := h
  obtain ⟨u1, u2, rfl, r1, r2⟩ := vals2 r
  cases (show u1 = Value.ref a from r1)
  cases (show u2 = Value.ref tp from r2)
  obtain ⟨⟨oe, vs, hget, hz, hd⟩, _⟩ := (show ObjOk X.prog X.w H s.heap a (ExcO (.ref D0) a) from I.hok a _ e)
  have J : PySem.W.InstAt s.heap a oe D0 none := by
    obtain ⟨oc, od, oda, osl⟩ := oe
    obtain ⟨h1, h2⟩ := hz
    dsimp only at h1 h2 hd
    subst h1 h2 hd
    exact ⟨hget, rfl, rfl, trivial⟩
  obtain ⟨_, its, rv, o, h1, h2, n, h3⟩ := (show ObjOk X.prog X.w H s.heap tp (.tup cs) from I.hok tp _ ht)
  have e3 := ClsV.all hp rv
  subst e3
  obtain ⟨oc, od, dt, sl⟩ := o
  simp only at h2 h3
  subst h2 h3
  exact PySem.W.kia_tup (PySem.W.handS_kitx_exc C.hg C.hk C.hs C.hd C.ha C.hn C.ht C.hm) I.kIn J h1 hk (fun z => nomatch z) fun tk => ⟨.bl b, H, I.tok tk, rfl, q⟩
/-- isinstance of a plain value by an own class -/
theorem c_isR (c : CI X P w K mg base N nm j) {x : V} {T : String} {C0 : Addr} {b : Bool} (t : TyOf K H x (.type T)) (e : PySem.W.kitOne K (.type T) (.ref C0) = some b) (h : Q (.bl b) H) : cS X (.builtin "isinstance") [x, .ref C0] H Q := by
  have eK := c.K
  subst eK
  exact ⟨_, call_isi, x, .ref C0, _, _, b, rfl, .own C0, .base t, e, h⟩
theorem kit_ref {A B : Addr} {b : Bool} (hd : PySem.W.hasDictIn K B = true) (ht : PySem.W.typeIn K (.ref B) = some (.type "type")) (hs : PySem.W.subIn K (.ref A) (.ref B) = some b) (ha : PySem.W.subIn K (.ref A) (.ref A) = some true) : PySem.W.kitOne K (.ref A) (.ref B) = some b := by
  obtain ⟨cd, hc, _⟩ := PySem.W.any_some hd
  unfold PySem.W.kitOne
  by_cases e : A = B
  · subst e
    rw [hs] at ha
    rw [if_pos (by simp), ha]
  · rw [if_neg (by simp [e])]
    unfold PySem.W.kitCls
    show (if ((PySem.W.clsIn K B).isSome && PySem.W.typeIn K (.ref B) == some (.type "type")) = true then PySem.W.subIn K (.ref A) (.ref B) else none) = some b
    rw [if_pos (by rw [hc, ht]; rfl), hs]
theorem kit_ve {A : Addr} {b : Bool} (hs : PySem.W.subIn K (.ref A) (.type "ValueError") = some b) : PySem.W.kitOne K (.ref A) (.type "ValueError") = some b := by
  unfold PySem.W.kitOne
  rw [if_neg (by simp)]
  unfold PySem.W.kitCls
  show (if PySem.W.kitMeta "ValueError" = true then PySem.W.subIn K (.ref A) (.type "ValueError") else none) = some b
  rw [if_pos (by decide +kernel), hs]
theorem kit_any {t c0 : Value} {cs : List Value} {b r : Bool} (h : PySem.W.kitOne K t c0 = some b) (hr : PySem.W.kitAny K t cs = some r) : PySem.W.kitAny K t (c0 :: cs) = some (b || r) := by
  cases b with
  | true => exact kitAny_cons h (fun z => nomatch z) fun _ => rfl
  | false => exact kitAny_cons h (fun _ => hr) fun z => nomatch z
end
end Go

namespace Go
open PySem PySem.Spec PyProof.Rows L2
/-! for k, v in d.items(), the keys of d tuples -/
/-- the pairs, each a new tuple -/
def ItiT (d : Addr) (o : Obj) (kvs : List (List Key × V)) : It :=
  ⟨fun i H => H d = some (.frz o (.dT kvs)) ∧ i < kvs.length, fun i H x H' => ∃ T k v q, kvs[i]? = some (k, v) ∧ x = .ref T ∧ H q = some (.tup (k.map kV)) ∧ H T = none ∧ H' = upd H T (.tup [.ref q, v]), fun i H => H d = some (.frz o (.dT kvs)) ∧ kvs.length ≤ i⟩
section
variable {X : Cx} {pins : List (Addr × Obj)} {σ : L2.St} {H : Hp} {s : Shared} {d : Addr} {o : Obj}
theorem frzT2 {kvs : List (List Key × V)} (I : Inv X pins σ H s) (h : H d = some (.frz o (.dT kvs))) :
    (d == sysModules) = false ∧ s.heap.get? d = some o ∧ o.ExactDict ∧ ∃ (es : Array DictEntry) (ep : Nat), o.data = .dict es ep ∧ es.size = kvs.length ∧
      ∀ (i : Nat) (k : List Key) (v : V), kvs[i]? = some (k, v) → ∃ (en : DictEntry) (q : Addr), es[i]? = some en ∧ en.key = .ref q ∧ H q = some (.tup (k.map kV)) ∧ RelV v en.val := by
  obtain ⟨hd, z, hs, xs, pr, o', es, ep, ho, hx, hdt, he, _⟩ := I.hok d _ h
  rw [hd] at ho
  cases ho
  refine ⟨hs, hd, hx, es, ep, hdt, ?_, fun i k v e => ?_⟩
  · have l1 : es.size = xs.length := size_of_entries he
    have l2 : kvs.length = xs.length := Paired.length pr
    omega
  · obtain ⟨b, hb, e1, e2, e3⟩ := paired_get pr e
    have q := entry_at he i
    rw [hb] at q
    exact ⟨_, b.2.1, q, rfl, e2, e3⟩
end
section
variable {P : Program} {w : World} {K : PySem.W.Frag} {d : Addr} {o : Obj} {es : Array DictEntry} {ep : Nat}
theorem turn_itemsT {kvs : List (List Key × V)} {elts : List Expr} {kk : Nat} {tpos : Pos} (it : Addr) (hod : o.data = .dict es ep) :
    Turn P w K (.Tuple elts kk tpos) (ItiT d o kvs) [it] it (fun i h => ∃ ok ov, IsItemIter h it d i kvs.length ep ok ov) where
  mem := by simp
  obj := fun i h st b hb => by
    have e : b = it := by simpa using hb
    subst e
    obtain ⟨ok, ov, e⟩ := st
    exact ⟨_, e, fun v z => nomatch z⟩
  keep := fun i h h' st k => let ⟨ok, ov, e⟩ := st; ⟨ok, ov, k it (by simp) _ e⟩
  item := by
    intro X hP hw hK hc i pins s σ H E I hf st hg
    subst hP hw hK
    obtain ⟨hd, hi⟩ := hg
    obtain ⟨hs, hgd, hx, es', ep', hdt, hsz, ent⟩ := frzT2 I hd
    obtain ⟨rfl, rfl⟩ := dict_ep hod hdt
    obtain ⟨⟨k, v⟩, hkv⟩ : ∃ p, kvs[i]? = some p := ⟨kvs[i], List.getElem?_eq_getElem hi⟩
    obtain ⟨en, q, hen, hkey, hq, hval⟩ := ent i k v hkv
    obtain ⟨ok, ov, he⟩ := st
    rw [← hsz] at he
    have hlt : it < s.heap.objs.size := Heap.lt_size he
    have hi2 : i < es'.size := by omega
    have hen2 : es'[i] = en := by rw [Array.getElem?_eq_getElem hi2] at hen; exact Option.some.inj hen
    refine DT.nextI he ⟨o, hgd, hx, hdt⟩ hi2 fun h' ho hT hz hk => ?_
    rw [hen2] at ho hT
    refine ⟨_, rfl, PySem.wpAny_letOwnedTupleGo_items (s := { s with heap := h' }) ho fun h'' he' sb => ?_⟩
    have hT2 : h''.get? s.heap.objs.size = some { cls := .type "tuple", data := .seq #[en.key, en.val] } := (sb.2 _ (Nat.ne_of_gt hlt)).trans hT
    have new : ObjOk X.prog X.w (upd H s.heap.objs.size (.tup [.ref q, v])) h'' s.heap.objs.size (.tup [.ref q, v]) :=
      ⟨by show 2 ≤ sizeLine; decide, [en.key, en.val], .cons hkey (.cons hval .nil), ⟨_, hT2, rfl, _, rfl⟩⟩
    have I1 : Inv X pins σ (upd H s.heap.objs.size (.tup [.ref q, v])) { s with heap := h'' } :=
      I.turnedNew (t' := s.toks) (ch := [it]) (fun b ob hb e => (sb.2 b (by simpa using hb)).trans (hk b ob (by simpa using hb) e)) hf (Nat.le_refl _) new
    refine ⟨.ref s.heap.objs.size, _, I1, rfl, ⟨_, k, v, q, hkv, rfl, hq, I.hok.fresh (Nat.le_refl _), rfl⟩, ⟨en.key, en.val, ?_⟩, fun b hb => ?_⟩
    · rw [← hsz]; exact he'
    · have e : b = it := by simpa using hb
      rw [e, upd_ne (Nat.ne_of_lt hlt)]
      exact (hf it (by simp)).1
  done := by
    intro X hP hw hK hc i pins s σ H E I hf st hg
    subst hP hw hK
    obtain ⟨hd, hi⟩ := hg
    obtain ⟨f0, f1, f2, f3, f4, f5⟩ := hf it (by simp)
    obtain ⟨hs, hgd, hx, es', ep', hdt, hsz, ent⟩ := frzT2 I hd
    obtain ⟨rfl, rfl⟩ := dict_ep hod hdt
    obtain ⟨ok, ov, he⟩ := st
    rw [← hsz] at he
    exact DT.endI (I.ok.hd hc) he ⟨o, hgd, hx, hdt⟩ (by omega) fun h' eb => ⟨rfl, I.turned (t' := s.toks) (fun b ob hb e => eb b ob hb e) f0 f1 f3 f4 f5⟩
  self := fun A i s Q E st h => let ⟨_, _, e⟩ := st; PySem.W.kcp_self e h
end
def iItemsT (td : TE) : TI := fun σ H R => td σ H fun x H1 => ∃ d o kvs, x = .ref d ∧ H1 d = some (.frz o (.dT kvs)) ∧ R (ItiT d o kvs) H1
theorem pi_itemsT {X : Cx} {e : Expr} {td : TE} {apos cpos : Pos} {elts : List Expr} {kk : Nat} {tpos : Pos} (he : PE X e td) (hbase : attributeBase e "items" X.env (eval e X.env) = eval e X.env := by rfl) (hline : (apos.endLine == cpos.line) = true := by rfl) :
    PI X (.Tuple elts kk tpos) (.Call (.Attribute e "items" apos) [] [] cpos) (iItemsT td) := by
  refine ⟨fun pins s σ H R I h => ?_⟩
  refine wpAny_Call_method (T := "dict") (id := "dict.items") hbase rfl hline F.plainAttrs_dict F.slot_dict_items F.type_dict_items (thn (he.run pins s σ H _ I h) fun u s1 ⟨x, H1, I1, rx, d, o, kvs, ex, hd, q⟩ => ?_)
  subst ex
  obtain rfl : u = Value.ref d := rx
  obtain ⟨hs, hgd, hx, es, ep, hdt, hsz, ent⟩ := frzT2 I1 hd
  have raw : DT.Raw s1.heap d es ep := ⟨o, hgd, hx, hdt⟩
  refine ⟨raw.typeIs, ?_, ?_⟩
  · exact fun a e => by cases e; exact ⟨o, hgd, hx.2.1⟩
  have I2 : Inv X pins σ H1 { s1 with heap := s1.heap.push { cls := .type "dict_items", data := .fields #[.ref d] } } := I1.kept (t' := s1.toks) fun b ob q => Heap.get?_push_of_some _ q
  have fin : wpAny (model X.prog X.w) X.A (pyIter (.ref s1.heap.objs.size)) (PIE X pins σ (.Tuple elts kk tpos) R) X.xe { s1 with heap := s1.heap.push { cls := .type "dict_items", data := .fields #[.ref d] } } := by
    refine DT.iterI (d := d) ⟨_, Heap.get?_push_size _ rfl, rfl, rfl⟩ (raw.push _) (pi_one (tk := s1.toks) I2 _ (turn_itemsT _ hdt) ⟨.none, .none, ?_⟩ q)
    rw [← hsz]
    exact Heap.get?_push_size _ rfl
  show wpAny _ _ (callWith cpos (.builtin "dict.items") [.ref d] [] []) _ X.xe s1
  exact method_meetsIn F.slot_dict_items F.entry_dict_items rfl (PySem.evalArgs_none ⟨rfl, raw.typeIs, F.args_dict_items_1 _, _, DT.meetsItems (es := es) (ep := ep) hs, ⟨raw, fin⟩⟩)
section
variable {X : Cx} {P : Program} {w : World} {K : PySem.W.Frag} {mg : Str → Option Value} {base : Heap} {N : List Str} {nm : List (Str × NameKind)} {j : Nat} {σ σ' : L2.St} {H G : Hp} {Q : VK} {D : Ends} {pos p tpos apos cpos : Pos} {C : List (Addr × HO)} {elts : List Expr} {kk : Nat} {e : Expr} {body : List Stmt} {d : Addr} {o : Obj}
theorem walk_itemsT {kvs : List (List Key × V)} : Walk (ItiT d o kvs) kvs.length (fun H => H d = some (.frz o (.dT kvs))) (fun i H x H' => ∃ T k v q, kvs[i]? = some (k, v) ∧ x = .ref T ∧ H q = some (.tup (k.map kV)) ∧ H T = none ∧ H' = upd H T (.tup [.ref q, v])) :=
  ⟨fun _ _ hi q => ⟨q, hi⟩, fun _ q => ⟨q, Nat.le_refl _⟩, fun _ _ _ _ _ _ y => y⟩
theorem walk_itemsK {kvs : List (Key × V)} : Walk (Iti d o kvs) kvs.length (fun H => H d = some (.frz o (.dK kvs))) (fun i H x H' => ∃ T k v, kvs[i]? = some (k, v) ∧ x = .ref T ∧ H T = none ∧ H' = upd H T (.tup [kV k, v])) :=
  ⟨fun _ _ hi q => ⟨q, hi⟩, fun _ q => ⟨q, Nat.le_refl _⟩, fun _ _ _ _ _ _ y => y⟩
theorem i_itemsT (hbase : attributeBase e "items" X.env (eval e X.env) = eval e X.env) (hline : (apos.endLine == cpos.line) = true) {R : It → Hp → Prop} (h : eS X e σ H fun x H1 => ∃ d o kvs, x = .ref d ∧ H1 d = some (.frz o (.dT kvs)) ∧ R (ItiT d o kvs) H1) :
    iS X (.Tuple elts kk tpos) (.Call (.Attribute e "items" apos) [] [] cpos) σ H R := ⟨_, pi_itemsT eS_is hbase hline, h⟩
theorem i_itemsK (hbase : attributeBase e "items" X.env (eval e X.env) = eval e X.env) (hline : (apos.endLine == cpos.line) = true) {R : It → Hp → Prop} (h : eS X e σ H fun x H1 => ∃ d o kvs, x = .ref d ∧ H1 d = some (.frz o (.dK kvs)) ∧ R (Iti d o kvs) H1) :
    iS X (.Tuple elts kk tpos) (.Call (.Attribute e "items" apos) [] [] cpos) σ H R := ⟨_, pi_items eS_is hbase hline, h⟩
theorem on_itemsT {kvs : List (List Key × V)} (Pv : Nat → L2.St → Hp → Prop) (h0 : Pv 0 σ H) (hl : ∀ i σ H, i ≤ kvs.length → Pv i σ H → H d = some (.frz o (.dT kvs)))
    (hs : ∀ i k v q σ H T H', kvs[i]? = some (k, v) → Pv i σ H → H q = some (.tup (k.map kV)) → New H T (.tup [.ref q, v]) H' → gS X (.Tuple elts kk tpos) (.ref T) σ H' fun σ2 H2 => bS X body { D with nx := Pv (i + 1), ct := Pv (i + 1), bk := D.nx } σ2 H2) (hd : ∀ σ H, Pv kvs.length σ H → D.nx σ H) :
    ForOn X (.Tuple elts kk tpos) body D (ItiT d o kvs) σ H := ⟨_, _, _, walk_itemsT, Pv, h0, hl, fun i x σ H H' hi p ⟨T, k, v, q, e0, e1, e2, e3, e4⟩ => by
      subst e1
      exact hs i k v q σ _ T H' e0 p e2 ⟨e3, e4⟩, hd⟩
theorem on_itemsK {kvs : List (Key × V)} (Pv : Nat → L2.St → Hp → Prop) (h0 : Pv 0 σ H) (hl : ∀ i σ H, i ≤ kvs.length → Pv i σ H → H d = some (.frz o (.dK kvs)))
    (hs : ∀ i k v σ H T H', kvs[i]? = some (k, v) → Pv i σ H → New H T (.tup [kV k, v]) H' → gS X (.Tuple elts kk tpos) (.ref T) σ H' fun σ2 H2 => bS X body { D with nx := Pv (i + 1), ct := Pv (i + 1), bk := D.nx } σ2 H2) (hd : ∀ σ H, Pv kvs.length σ H → D.nx σ H) :
    ForOn X (.Tuple elts kk tpos) body D (Iti d o kvs) σ H := ⟨_, _, _, walk_itemsK, Pv, h0, hl, fun i x σ H H' hi p ⟨T, k, v, e0, e1, e3, e4⟩ => by
      subst e1
      exact hs i k v σ _ T H' e0 p ⟨e3, e4⟩, hd⟩
theorem Own.relock {u v : HO} (O : Own G C H) (hd : G d = some u) : Own (upd G d v) C (upd H d v) := by
  refine ⟨fun b x e => ?_, fun q hq => ?_, O.nd⟩
  · by_cases hb : b = d
    · subst hb; rw [upd_same] at e ⊢; exact e
    · rw [upd_ne hb] at e ⊢; exact O.same b x e
  · have h := O.own q hq
    have hb : q.1 ≠ d := fun z => by rw [z, hd] at h; cases h.2
    rw [upd_ne hb, upd_ne hb]; exact h
/-- what is known stands in a loop over d locked -/
theorem s_lockG {st : Stmt} (O : Own G C H) {u : HO} (hd : G d = some u) (mu : Mut (some u)) (h : ∀ od G1 H1, G1 = upd G d (.frz od u) → Own G1 C H1 → H1 d = some (.frz od u) → G1 d = some (.frz od u) → (∀ b x, b ≠ d → G b = some x → G1 b = some x) →
      (∀ b x, (∀ od u, x ≠ .frz od u) → x ≠ u → G b = some x → G1 b = some x) →
      sS X st ⟨fun σ' H' => H' d = some (.frz od u) ∧ D.nx σ' (upd H' d u), fun v H' => H' d = some (.frz od u) ∧ D.rt v (upd H' d u), fun σ' H' => H' d = some (.frz od u) ∧ D.bk σ' (upd H' d u), fun σ' H' => H' d = some (.frz od u) ∧ D.ct σ' (upd H' d u)⟩ σ H1) : sS X st D σ H :=
  ⟨tLock (sS X st), ps_lock sS_is, d, u, O.same _ _ hd, mu, fun od => h od _ _ rfl (O.relock hd) upd_same upd_same (fun b x hb e => by rw [upd_ne hb]; exact e) fun b x _ hu e => by
    have hb : b ≠ d := fun z => by rw [z, hd] at e; exact hu (Option.some.inj e).symm
    rw [upd_ne hb]; exact e⟩
/-- .. behind it -/
theorem Own.thaw {G1 G' H' : Hp} {C' : List (Addr × HO)} {u : HO} {od : Obj} (O : Own G' C' H') (hd : G d = some u) (e : G1 = upd G d (.frz od u)) (s : Same G1 G') : H' d = some (.frz od u) ∧ Own (upd G' d u) C' (upd H' d u) ∧ Same G (upd G' d u) := by
  subst e
  have h1 : G' d = some (.frz od u) := s _ _ upd_same
  refine ⟨O.same _ _ h1, O.relock h1, fun b x e => ?_⟩
  by_cases hb : b = d
  · subst hb; rw [hd] at e; rw [upd_same]; exact e
  · rw [upd_ne hb]; exact s _ _ (by rw [upd_ne hb]; exact e)
theorem get_T {q b : Addr} {kvs : List (List Key × V)} {k : List Key} {z : V} (hp : H q = some (.dT kvs)) (hb : H b = some (.tup (k.map kV))) (h : Q ((valV kvs k).getD z) H) : getS H (.ref q) (.ref b) z Q := ⟨q, _, rfl, DGet.t hp hb, h⟩
theorem x_dKL (c : CI X P w K mg base N nm j) {q : Addr} {kvs : List (Key × V)} {i : Int} {v : V} (hp : Rd H q (.dK kvs)) (hv : valV kvs (.inl i) = some v) (h : Q v H) : xS X (.ref q) (.int i) H Q :=
  x_dict c (by rw [← hv]; exact .inl ⟨kvs, .inl i, hp, rfl, rfl⟩) h
theorem i_keysK {tg : Expr} {R : It → Hp → Prop} (h : eS X e σ H fun x H1 => ∃ d o kvs, x = .ref d ∧ H1 d = some (.frz o (.dK kvs)) ∧ R (Itk d o kvs) H1) : iS X tg e σ H R :=
  ⟨_, pi_keys eS_is, eS_mono h fun _ _ ⟨d, o, kvs, e, h1, r⟩ => ⟨d, o, e, .inl ⟨kvs, h1, r⟩⟩⟩
end
end Go

namespace Go
open PySem PySem.Spec PyProof.Rows L2
/-! defs that ask repr: what is known of the guards -/
/-- a def's promise where no guard stands around -/
structure FnG (P : Program) (w : World) (K : PySem.W.Frag) (mg : Str → Option Value) (base : Heap) (ct : CXT) (k : Nat) (f : Addr) (fd : FuncData) (ps : List Str) (sp : Sp) : Prop where
  many : ∀ {vs H Q E}, sp vs H Q E → vs.length = ps.length
  runs : ∀ {A : Around} {outer : List Env} {s : Shared} {H : Hp} {args : Args} {us : List Value} {vs : List V} {Q : VK} {E : XK}, A.guards = some [] → Room k A →
    Env0 P w K mg base A outer s H → BindsTo s fd args (ps.zip us) → Vals vs us → sp vs H Q E → codeAny (model P w) A (.call (.ref f) args) (CR ct outer P w H s Q E) s
section
variable {P : Program} {w : World} {K : PySem.W.Frag} {mg : Str → Option Value} {base : Heap} {N ps : List Str} {k : Nat} {sp : Sp} {x qual : Str} {st : Stmt} {f : Addr} {fd : FuncData}
theorem FnG.more {ct : CXT} {j : Nat} (F : FnG P w K mg base ct j f fd ps sp) (h : j ≤ k) : FnG P w K mg base ct k f fd ps sp := ⟨F.many, fun g r => F.runs g (r.mono h)⟩
/-- a body stood up, the guards known -/
theorem fnG_of {ct : CXT} (F : Fun K x qual st f fd) (S : FnScope N ps (defScope st)) (hm : ∀ {vs H Q E}, sp vs H Q E → vs.length = ps.length)
    (hb : ∀ (cdv : Value) (A : Around) (outer : List Env) (s : Shared) (H : Hp) (vs : List V) (Q : VK) (E : XK), (A.deeper (envOfC qual (defScope st) s.heap.objs.size f cdv)).guards = some [] → Room k (A.deeper (envOfC qual (defScope st) s.heap.objs.size f cdv)) → sp vs H Q E →
      ∃ t, PSs (cxOf ct P w K mg base N qual (defScope st) f cdv A outer s H E) (defBody st) t ∧ t ⟨fun _ H' => Q .non H', Q, fun _ _ => False, fun _ _ => False⟩ (start N vs) H) : FnG P w K mg base ct (k + 1) f fd ps sp := by
  obtain ⟨oc, od, kV, doc, pm, an, cdv, tt, osl, rfl, lk, hcd⟩ := F.ex
  constructor
  · exact hm
  · intro A outer s H args us vs Q E hg room env bind rel want
    have kept : ∀ b o, base.get? b = some o → s.heap.get? b = some o := fun b o z => (env.bs b o z).1
    have inK : K.In s.heap := env.mod.kin.keeps kept
    have places : ∀ y ∈ ps.zip us, (defScope st).names.lookup y.1 = some .local ∨ ((defScope st).names.lookup y.1 = some .cell ∧ ((cellsFrom (s.heap.objs.size + 1) (defScope st).names []).lookup y.1).isSome = true) := by
      rintro ⟨n, v⟩ hy
      exact (S.par n (List.of_mem_zip hy).1).imp id fun z => ⟨z, PySem.W.cellsFrom_some _ _ _ (.inl z)⟩
    refine codeAny_call_function room.depth (inK _ _ lk) rfl S.co S.gen rfl (PySem.W.codeRec_of inK hcd) (bind _ _ _ _ (wpAny_newFunctionEnv_cells S.kind places ?_))
    rintro env1 rfl s1 inside
    refine ⟨(env.mod.nolimit.keeps kept).keeps inside.toInCall.keep, codeAny_func ?_⟩
    obtain ⟨t, body, so⟩ := hb cdv A outer s H vs Q E hg (room.deeper _) want
    have I0 : Inv (cxOf ct P w K mg base N qual (defScope st) f cdv A outer s H E) [] (start N vs) H s1 := inv_start S room.hd env (hm want) rel inside
    refine wpAny_mono (body.run [] s1 (start N vs) H _ I0 so) ?_ (fun _ _ z => z)
    rintro (u | _ | _ | _) s' out
    all_goals first
      | (obtain ⟨v, σ', H', J, rv, q⟩ := out; exact ⟨v, H', J.os, J.bare, J.base, J.hok, rv, q⟩)
      | (obtain ⟨σ', H', J, q⟩ := out; exact ⟨V.non, H', J.os, J.bare, J.base, J.hok, rfl, q⟩)
      | (obtain ⟨_, _, _, q⟩ := out; exact q.elim)
/-- into a def that asks repr -/
theorem intoG (F : Fun K x qual st f fd) {nm : List (Str × NameKind)} (S : FnScope N ps (defScope st)) (hnm : (defScope st).names = nm) (len : ∀ vs H Q E, sp vs H Q E → vs.length = ps.length) (hl : ps.length ≤ N.length)
    (body : ∀ (X : Cx) (H : Hp) (vs : List V) (Q : VK) (E : XK), CI X P w K mg base N nm k → X.A.guards = some [] → sp vs H Q E → bS X (defBody st) { nx := fun _ H' => Q .non H', rt := Q } (startL N vs) H) : FnG P w K mg base CX0 (k + 1) f fd ps sp :=
  fnG_of F S (fun {vs H Q E} z => len vs H Q E z) fun cdv A outer s H vs Q E hg hr h => by
    have b := body (cxOf CX0 P w K mg base N qual (defScope st) f cdv A outer s H E).nox H vs Q E ⟨S.nd, fun _ h => by rw [← hnm] at h; exact h, fun _ h => ⟨by rw [← hnm] at h; exact h, rfl⟩, fun _ h => .inr (by rw [← hnm] at h; exact h), fun _ h => by rw [← hnm] at h; exact h, rfl, rfl, rfl, rfl, rfl, rfl, S.kind, rfl, hr, PassesOwn.never⟩ hg h
    rw [← startL_eq N vs (by rw [len vs H Q E h]; exact hl)] at b
    exact ⟨_, bS_is.nox, b⟩
/-- .. that has a try, too -/
theorem intoTG (F : Fun K x qual st f fd) {nm : List (Str × NameKind)} (S : FnScope N ps (defScope st)) (hnm : (defScope st).names = nm) (len : ∀ vs H Q E, sp vs H Q E → vs.length = ps.length) (hl : ps.length ≤ N.length)
    (body : ∀ (X : Cx) (H : Hp) (vs : List V) (Q : VK) (E : XK), CI X P w K mg base N nm k → Top X → X.A.guards = some [] → sp vs H Q E → bS X (defBody st) { nx := fun _ H' => Q .non H', rt := Q } (startL N vs) H) : FnG P w K mg base CX0 (k + 1) f fd ps sp :=
  fnG_of F S (fun {vs H Q E} z => len vs H Q E z) fun cdv A outer s H vs Q E hg hr h => by
    have b := body (cxOf CX0 P w K mg base N qual (defScope st) f cdv A outer s H E).nox H vs Q E ⟨S.nd, fun _ h => by rw [← hnm] at h; exact h, fun _ h => ⟨by rw [← hnm] at h; exact h, rfl⟩, fun _ h => .inr (by rw [← hnm] at h; exact h), fun _ h => by rw [← hnm] at h; exact h, rfl, rfl, rfl, rfl, rfl, rfl, S.kind, rfl, hr, PassesOwn.never⟩ ⟨rfl, rfl, rfl⟩ hg h
    rw [← startL_eq N vs (by rw [len vs H Q E h]; exact hl)] at b
    exact ⟨_, bS_is.nox, b⟩
/-- a def that asks repr, called by its name -/
structure CalG (P : Program) (w : World) (K : PySem.W.Frag) (mg : Str → Option Value) (base : Heap) (k : Nat) (x : Str) (sp : Sp) : Prop where
  ex : ∃ (f : Addr) (fd : FuncData) (ps : List Str), FnG P w K mg base CX0 k f fd ps sp ∧ mg x = some (.ref f) ∧ PySem.W.keepIn K (.ref f) = true ∧ Binds K fd ps []
theorem calG_of {x : Str} {st : Stmt} {ps : List Str} (D : Df K mg x st ps) (h : ∀ {f : Addr} {fd : FuncData}, Fun K x x st f fd → FnG P w K mg base CX0 k f fd ps sp) : CalG P w K mg base k x sp := by
  obtain ⟨f, fd, F, m, b, _⟩ := D
  exact ⟨f, fd, ps, h F, m, F.kp, b⟩
end
section
variable {X : Cx} {P : Program} {w : World} {K : PySem.W.Frag} {mg : Str → Option Value} {base : Heap} {N : List Str} {nm : List (Str × NameKind)} {j : Nat} {σ : L2.St} {H : Hp} {Q : VK} {pos p : Pos} {e : Expr} {es : List Expr}
theorem e_callG (c : CI X P w K mg base N nm j) (hg : X.A.guards = some []) {x : Str} {k : Nat} {sp : Sp} (C : CalG P w K mg base k x sp) (hk : k ≤ j) (hn : glB nm x = true) (he : starEach (e :: es) X.env = (false, eval e X.env) :: starEach es X.env) (hpl : (backTo pos (starEach es X.env)).any (·.1) = false)
    (h : aS X (e :: es) σ H fun vs H1 => sp vs H1 Q E0) : eS X (.Call (.Name x p) (e :: es) [] pos) σ H Q := by
  have h1 := c.prog; have h2 := c.w; have h3 := c.K; have h4 := c.mg; have h5 := c.base
  subst h1 h2 h3 h4 h5
  obtain ⟨f, fd, ps, F, m1, m2, m3⟩ := C.ex
  refine ⟨fun σ H Q => aS X (e :: es) σ H fun vs H1 => sp vs H1 Q E0, ⟨?_⟩, h⟩
  intro pins s σ H Q I want
  refine wpAny_Call_Name_kw (ld_glob I (c.gl hn) m1 ?_ (glB_d hn))
  refine PySem.W.callWith_K (h₀ := X.base) I.ok.mod.kin m2 (thn (aS_is.run pos pins s σ H _ I want) ?_) he hpl
  rintro us s1 ⟨vs, H1, I1, r, q⟩
  refine ⟨I1.kIn, ?_⟩
  have hl : us.length = ps.length := by rw [← r.length]; exact F.many q
  have bound := m3 s1 us I1.kIn (by rw [List.append_nil]; exact hl)
  rw [List.append_nil] at bound
  refine wpAny_call (codeAny_mono (F.runs (outer := X.stack) hg (c.room.mono hk) I1.env0 bound r q) ?_)
  rintro (err | fl) s' out
  · exact out.elim
  · cases fl with
    | ret u => exact I1.after out
    | next => exact out.elim
    | brk => exact out.elim
    | cont => exact out.elim
/-- data that repr takes -/
structure Rpr (n : Nat) (d : PyData) : Prop where
  sh : d.showable = true
  nd : d.hasDict = false
  dp : d.depth ≤ n
  sz : d.shown.length ≤ sizeLine
/-- its text -/
def shT (d : PyData) : List Nat := cs d.shown
/-- repr of data -/
theorem c_repr (c : CI X P w K mg base N nm j) (hg : X.A.guards = some []) {a : Addr} {d : PyData} {n : Nat} (hd : Dp K H (.ref a) d) (hr : Rpr n d) (hn : n + 1 ≤ 16 * j + 200) (h : Q (.str (S (shT d))) H) : cS X (.builtin "repr") [.ref a] H Q := by
  have e := c.K
  subst e
  unfold shT at h
  rw [S_cs] at h
  refine ⟨fun vs H Q => ∃ a, vs = [.ref a] ∧ Dp X.K H (.ref a) d ∧ Q (.str d.shown) H, ?_, a, rfl, hd, h⟩
  rintro pins s σ H xs us Q I r ⟨a, rfl, hd, h⟩
  obtain ⟨u, rfl, ru⟩ := vals1 r
  obtain rfl : u = Value.ref a := ru
  obtain ⟨as, hrd⟩ := Dp.reads I d _ _ hd rfl
  have un := c.room.un
  have dp := hr.dp
  have nd := hr.nd
  exact repr_of_reads' hrd hr.sh (fun z => by rw [nd] at z; cases z) hg (by omega) (fun b o e => e) (fun h' u tk hk => ⟨.str d.shown, H, I.kept hk, ⟨u, rfl⟩, h⟩) hr.sz
end
/-! the law's own call -/
section
variable {P : Program} {w : World} {K : PySem.W.Frag} {mg : Str → Option Value} {k : Nat} {fa a : Addr} {fd : FuncData} {x : Str} {sp : Sp} {s1 : Shared} {oa : Obj} {xs : List V} {H : Hp}
/-- nothing but the script is tracked -/
structure Alone (K : PySem.W.Frag) (a : Addr) (oa : Obj) (xs : List V) (H : Hp) : Prop where
  one : ∀ {b u}, H b = some u → b = a ∧ K.lookup a = none ∧ u = .frz oa (.lst xs)
theorem Alone.but (L : Alone K a oa xs H) {b : Addr} {o : Obj} (e : K.lookup b = some o) : H b = none := by
  match q : H b with
  | none => rfl
  | some u =>
    obtain ⟨rfl, z, _⟩ := L.one q
    rw [z] at e; cases e
theorem Alone.dict (L : Alone K a oa xs H) {vs : Array Value} {n : Nat} {h : Heap} (ha : h.get? a = some oa) (hd : oa.data = .seq vs n) {b : Addr} {o : Obj} {es : Array DictEntry} {ep : Nat} (e : h.get? b = some o) (d : o.data = .dict es ep) : H b = none := by
  match q : H b with
  | none => rfl
  | some u =>
    obtain ⟨rfl, _, _⟩ := L.one q
    rw [ha] at e
    cases e
    rw [hd] at d; cases d
theorem law_callG {mb : Str → Option Value} {vs : Array Value} {n : Nat} (L : Alone K a oa xs H) (KX : K.In s1.heap) (hns : s1.heap.Ns mainGlobals mg) (hb : s1.heap.Ns builtinsNs mb) (hbb : ∀ x : Str, x ≠ "__name__" → mb x = bootBuiltins x) (hlim : s1.heap.NoLimit) (hg : s1.gens = #[])
    (ha : s1.heap.get? a = some oa) (hd : oa.data = .seq vs n) (hok : HOk P w H s1.heap) (hr : Room k callerA) (F : ∀ base : Heap, FnG P w K mg base CX0 k fa fd [x] sp) (hbind : ∀ (s : Shared) (u : Value), BindsTo s fd ⟨[u], []⟩ [(x, u)])
    (hsp : sp [.ref a] H (fun v _ => v = .bl true) fun _ _ _ => False) :
    codeAny (model P w) callerA (.call (.ref fa) ⟨[.ref a], []⟩) (fun r s' => r = .ok (.ret (.bool true)) ∧ OldK s1.heap s'.heap ∧ s'.os = s1.os ∧ AllBare s'.gens) s1 := by
  have names : ∀ {b : Addr} {m : Str → Option Value}, s1.heap.Ns b m → (hidT s1.heap H).Ns b m := by
    rintro b m ⟨o, es, ep, e, d, r⟩
    exact ⟨o, es, ep, hidT_get e (L.dict ha hd e d), d, r⟩
  have part : K.In (hidT s1.heap H) := fun b o e => hidT_get (KX b o e) (L.but e)
  have env : Env0 P w K mg (hidT s1.heap H) callerA [] s1 H := by
    refine ⟨rfl, ⟨part, names hns, ⟨mb, names hb, hbb⟩, ?_⟩, fun b o z => of_hidT z, by rw [hidT_size]; exact Nat.le_refl _, trivial, fun b z => ?_, hok, .of_eq hg⟩
    · obtain ⟨mc, h1, h2⟩ := hlim
      exact ⟨mc, names h1, h2⟩
    · cases (show b ∈ ([] : List Addr) from z)
  refine codeAny_mono ((F _).runs (us := [.ref a]) (vs := [.ref a]) rfl hr env (hbind s1 (.ref a)) (.cons rfl .nil) hsp) ?_
  rintro (err | fl) s' out
  · exact out.elim
  · cases fl with
    | next => exact out.elim
    | brk => exact out.elim
    | cont => exact out.elim
    | ret u =>
      obtain ⟨v, H', os, bare, un, hok', r', rfl⟩ := out
      obtain rfl : u = Value.bool true := r'
      refine ⟨rfl, OldK.of_keep fun b o e => ?_, os, bare⟩
      match q : H b with
      | none => exact un.keep b o e q (fun z => by cases (show b ∈ ([] : List Addr) from z)) (by simp)
      | some u =>
        obtain ⟨_, _, rfl⟩ := L.one q
        have e1 := (hok b _ q).1
        rw [e] at e1; cases e1
        exact (hok' b _ (un.frzs b oa _ q)).1
end
/-- the law's walk where its def asks repr -/
theorem walkG {l : PySem.W.OpenLaw} {n k : Nat} {q : Program} {loose : List Str} {XP : (Str → Option Value) → Heap → Prop} {YP : World → Heap → Prop} {d : DefRec} {K : Params → PySem.W.Frag} {sp : World → Sp} {x : Str} (hn : l.most = some n) (hn2 : n ≤ sizeLine) (hdf : d.params.defaults = []) (hr : Room k callerA)
    (hY : ∀ (w : World) (h : Heap), YP w h → (K w.params).In h)
    (F : ∀ (w : World) (mg : Str → Option Value) (fa : Addr) (h : Heap), (K w.params).In h → h.Ns mainGlobals mg → mg d.name = some (.ref fa) →
      ∃ fd : FuncData, (∀ (s : Shared) (u : Value), BindsTo s fd ⟨[u], []⟩ [(x, u)]) ∧ ∀ base : Heap, FnG l.prog w (K w.params) mg base CX0 k fa fd [x] (sp w))
    (hsp : ∀ (w : World) (H : Hp) (a : Addr) (ns : List Int), ns.length ≤ n → SqL (K w.params) H a (ns.map V.int) → sp w [.ref a] H (fun v _ => v = .bl true) fun _ _ _ => False) :
    PySem.W.WalkO q loose XP YP l.row.toRowW d [] (fun f vs => PySem.call f vs) := by
  refine Att.attach_call hn hdf fun w s0 s1 mg mb fa o pm cd doc a vs ns G Y ho hd hcd hmg hobj hints hlen hg => ?_
  have KX := hY w _ Y
  obtain ⟨fd, hb, hF⟩ := F w mg fa _ KX G.T.g hmg
  have rv := vals_ints hints
  have len : (ns.map V.int).length ≤ sizeLine := by rw [List.length_map]; omega
  match hk : (K w.params).lookup a with
  | some o2 =>
    have e := KX a o2 hk
    rw [hobj] at e
    cases e
    refine law_callG (xs := []) (H := fun _ => none) ⟨fun {b u} z => by cases (show (none : Option HO) = some u from z)⟩ KX G.T.g G.T.b G.T.builtins G.T.nolimit hg hobj rfl (fun b u z => by cases (show (none : Option HO) = some u from z)) hr hF hb (hsp w _ a ns hlen (.inr ⟨_, vs.toArray, _, hk, rfl, rfl, rfl, ?_, by simpa using rv⟩))
    rw [List.size_toArray, hints.length]; omega
  | none =>
    have one : ∀ {b : Addr} {u : HO}, (if b = a then some (HO.frz { cls := .type "list", data := .seq vs.toArray } (.lst (ns.map V.int))) else none) = some u → b = a ∧ u = .frz { cls := .type "list", data := .seq vs.toArray } (.lst (ns.map V.int)) := by
      intro b u z
      split at z
      · rename_i hb
        exact ⟨hb, (Option.some.inj z).symm⟩
      · cases z
    refine law_callG (H := fun b => if b = a then some (.frz { cls := .type "list", data := .seq vs.toArray } (.lst (ns.map V.int))) else none) ⟨fun {b u} z => ⟨(one z).1, hk, (one z).2⟩⟩ KX G.T.g G.T.b G.T.builtins G.T.nolimit hg hobj rfl (fun b u z => ?_) hr hF hb (hsp w _ a ns hlen (.inl (.inr ⟨_, if_pos rfl⟩)))
    obtain ⟨rfl, rfl⟩ := one z
    exact ⟨hobj, len, vs, _, rv, hobj⟩
/-- .. of a def of the module -/
theorem law_fnG {P : Program} {w : World} {K : PySem.W.Frag} {mg : Str → Option Value} {x : Str} {st : Stmt} {y : Str} {sp : Sp} {k : Nat} {fa : Addr} (D : Df K mg x st [y]) (hf : mg x = some (.ref fa)) (h : ∀ {base : Heap} {f : Addr} {fd : FuncData}, Fun K x x st f fd → FnG P w K mg base CX0 k f fd [y] sp) :
    ∃ fd : FuncData, (∀ (s : Shared) (u : Value), BindsTo s fd ⟨[u], []⟩ [(y, u)]) ∧ ∀ base : Heap, FnG P w K mg base CX0 k fa fd [y] sp := by
  obtain ⟨f, fd, F, m, b, b2⟩ := D
  obtain rfl : f = fa := by rw [m] at hf; cases hf; rfl
  exact ⟨fd, fun s u => b2 s [u] rfl, fun base => h F⟩
end Go

namespace Go
open PySem PySem.Spec PyProof.Rows L2
/-! a dict whose keys are pairs of a number and a tuple of numbers -/
abbrev NK := Nat × List Nat
def nkK (s : NK) : NestedKey := .tup [.num (s.1 : Nat), .tup (s.2.map fun (n : Nat) => .num (n : Nat))]
theorem nums_inj : ∀ {a b : List Nat}, (a.map fun (n : Nat) => NestedKey.num (n : Nat)) = (b.map fun (n : Nat) => NestedKey.num (n : Nat)) → a = b
  | [], [], _ => rfl
  | [], _ :: _, h => by cases h
  | _ :: _, [], h => by cases h
  | x :: a, y :: b, h => by
    simp only [List.map_cons, List.cons.injEq, NestedKey.num.injEq] at h
    rw [nums_inj h.2, show x = y by omega]
theorem nkK_inj {s t : NK} (h : nkK s = nkK t) : s = t := by
  unfold nkK at h
  simp only [NestedKey.tup.injEq, List.cons.injEq, NestedKey.num.injEq, and_true] at h
  exact Prod.ext (by omega) (nums_inj h.2)
/-- the tuple at p is the pair s -/
def StA (H : Hp) (p : Addr) (s : NK) : Prop := ∃ r, H p = some (.tup [.int (s.1 : Nat), .ref r]) ∧ H r = some (.tup (s.2.map fun (n : Nat) => V.int (n : Nat)))
theorem StA.up {H H' : Hp} {p : Addr} {s : NK} (h : StA H p s) (t : ∀ b xs, H b = some (.tup xs) → H' b = some (.tup xs)) : StA H' p s := by
  obtain ⟨r, h1, h2⟩ := h
  exact ⟨r, t _ _ h1, t _ _ h2⟩
section
variable {P : Program} {w : World} {H : Hp} {h : Heap} {a : Addr}
theorem nums_is : ∀ {ns : List Nat} {its : List Value}, Vals (ns.map fun (n : Nat) => V.int (n : Nat)) its → NestedAll h (ns.map fun (n : Nat) => NestedKey.num (n : Nat)) its
  | [], _, .nil => .nil
  | _ :: _, _, .cons r t => by
    obtain ⟨u, rfl⟩ := r
    exact .cons (.int _ _) (nums_is t)
theorem nums_dp : ∀ ns : List Nat, NestedKey.depthAll (ns.map fun (n : Nat) => NestedKey.num (n : Nat)) = 0
  | [] => rfl
  | n :: ns => by rw [List.map_cons, NestedKey.depthAll, nums_dp ns]; rfl
theorem st_is {s : NK} (ok : HOk P w H h) (e : StA H a s) : (nestedKind P w).is h (nkK s) a := by
  obtain ⟨r, e1, e2⟩ := e
  obtain ⟨_, its, ri, o, h1, h2, n, h3⟩ := (show ObjOk P w H h a (.tup _) from ok a _ e1)
  obtain ⟨_, jts, rj, o', h1', h2', n', h3'⟩ := (show ObjOk P w H h r (.tup _) from ok r _ e2)
  constructor
  · refine .tup h1 h2 h3 ?_
    match its, ri with
    | [_, _], .cons ⟨t, rfl⟩ (.cons r2 .nil) =>
      obtain rfl := (show _ = Value.ref r from r2)
      exact .cons (.int _ _) (.cons (.tup h1' h2' h3' (nums_is rj)) .nil)
  · unfold nkK
    simp only [NestedKey.depth, NestedKey.depthAll, nums_dp]
    decide
end
/-- what the entries are -/
abbrev NP (kvs : List (NK × Addr × V)) (xs : List (NestedKey × Addr × Value)) : Prop := Paired (fun p q => q.1 = nkK p.1 ∧ q.2.1 = p.2.1 ∧ RelV p.2.2 q.2.2) kvs xs
theorem nums_hash (w w' : World) : ∀ ns : List Nat, NestedKey.hashes w (ns.map fun (n : Nat) => NestedKey.num (n : Nat)) = NestedKey.hashes w' (ns.map fun (n : Nat) => NestedKey.num (n : Nat))
  | [] => rfl
  | n :: ns => by rw [List.map_cons, NestedKey.hashes, NestedKey.hashes, nums_hash w w' ns]; rfl
theorem nk_hash (w w' : World) (s : NK) : (nkK s).hash w = (nkK s).hash w' := by
  unfold nkK
  simp only [NestedKey.hash, NestedKey.hashes, nums_hash w w']
def entW (w : World) (x : NestedKey × Addr × Value) : DictEntry := ⟨x.1.hash w, .ref x.2.1, x.2.2⟩
theorem np_hash (w w' : World) {kvs : List (NK × Addr × V)} {xs : List (NestedKey × Addr × Value)} (r : NP kvs xs) : xs.map (entW w) = xs.map (entW w') := by
  induction r with
  | nil => rfl
  | @cons p q ps qs h t ih =>
    rw [List.map_cons, List.map_cons, ih]
    unfold entW
    rw [h.1, nk_hash w w']
def DN (d : Addr) (kvs : List (NK × Addr × V)) : HO := .ext fun h => (d == sysModules) = false ∧ kvs.length ≤ sizeLine ∧ ∃ (w : World) (xs : List (NestedKey × Addr × Value)) (o : Obj) (es : Array DictEntry) (ep : Nat), NP kvs xs ∧ h.get? d = some o ∧ o.ExactDict ∧ o.data = .dict es ep ∧ es.toList = xs.map (entW w) ∧ (xs.map (·.1)).Nodup
def valN (kvs : List (NK × Addr × V)) (s : NK) : Option V := (kvs.find? fun x => decide (x.1 = s)).map (·.2.2)
theorem np_val {kvs : List (NK × Addr × V)} {xs : List (NestedKey × Addr × Value)} (r : NP kvs xs) (s : NK) : RelO (valN kvs s) ((atKey xs (nkK s)).map (·.2)) := by
  unfold valN atKey
  induction r with
  | nil => exact True.intro
  | @cons p q ps qs h t ih =>
    obtain ⟨h1, _, h2⟩ := h
    rw [List.find?_cons, List.find?_cons]
    by_cases e : p.1 = s
    · rw [decide_eq_true e, decide_eq_true (show q.1 = nkK s by rw [h1, e])]
      exact h2
    · rw [decide_eq_false e, decide_eq_false (fun z => e (nkK_inj (h1.symm.trans z)))]
      exact ih
/-- the keys' tuples stand -/
def KeysN (G : Hp) (kvs : List (NK × Addr × V)) : Prop := ∀ x ∈ kvs, StA G x.2.1 x.1
section
variable {X : Cx} {pins : List (Addr × Obj)} {σ : L2.St} {H : Hp} {s : Shared} {d b : Addr} {k : NK} {kvs : List (NK × Addr × V)} {A : Around} {E : Value → Shared → Prop}
theorem dn_is (I : Inv X pins σ H s) (e : H d = some (DN d kvs)) (hk : KeysN H kvs) : (d == sysModules) = false ∧ kvs.length ≤ sizeLine ∧ ∃ xs, NP kvs xs ∧ s.heap.DictOfH (nestedKind X.prog X.w) d xs := by
  obtain ⟨⟨hd, hl, w0, xs, o, es, ep, np, h1, h2, h3, h4, h5⟩, _⟩ := I.hok d _ e
  rw [np_hash w0 X.w np] at h4
  refine ⟨hd, hl, xs, np, o, es, ep, h1, h2, h3, h4, ?_, h5⟩
  have all : ∀ {l : List (NK × Addr × V)} {m : List (NestedKey × Addr × Value)}, NP l m → (∀ x ∈ l, StA H x.2.1 x.1) → ∀ x ∈ m, (nestedKind X.prog X.w).is s.heap x.1 x.2.1 := by
    intro l m q
    induction q with
    | nil => intro _ x hx; cases hx
    | @cons p q ps qs hq t ih =>
      intro hs x hx
      rcases List.mem_cons.mp hx with rfl | hx
      · rw [hq.1, hq.2.1]
        exact st_is I.hok (hs p List.mem_cons_self)
      · exact ih (fun y hy => hs y (List.mem_cons_of_mem _ hy)) x hx
  exact all np hk
theorem dn_get {v : V} {Q : Value → Shared → Prop} (hu : A.units + 9 < cLine) (I : Inv X pins σ H s) (e : H d = some (DN d kvs)) (hk : KeysN H kvs) (hb : StA H b k) (hv : valN kvs k = some v) (h : ∀ w' s', Inv X pins σ H s' → RelV v w' → Q w' s') :
    wpAny (model X.prog X.w) A (getItem (.ref d) (.ref b)) Q E s := by
  obtain ⟨hd, hl, xs, np, dd⟩ := dn_is I e hk
  obtain ⟨w', hw, rw'⟩ := RelO.some_of (v := v) (o := (atKey xs (nkK k)).map (·.2)) (by rw [← hv]; exact np_val np k)
  obtain ⟨p, hp, hp2⟩ := Option.map_eq_some_iff.mp hw
  refine wpAny_getItem_heap (knd := nestedKind X.prog X.w) (show A.units + 1 + 8 < cLine by omega) (st_is I.hok hb) dd hp ?_
  rw [hp2]
  exact h w' _ (I.tok _) rw'
theorem dn_notIn {Q : Value → Shared → Prop} (hu : A.units + 9 < cLine) (I : Inv X pins σ H s) (e : H d = some (DN d kvs)) (hk : KeysN H kvs) (hb : StA H b k) (h : ∀ s', Inv X pins σ H s' → Q (.bool (!(valN kvs k).isSome)) s') :
    wpAny (model X.prog X.w) A (compareOp .NotIn (.ref b) (.ref d)) Q E s := by
  obtain ⟨hd, hl, xs, np, dd⟩ := dn_is I e hk
  refine wpAny_notIn_heap (knd := nestedKind X.prog X.w) (show A.units + 1 + 8 < cLine by omega) (st_is I.hok hb) hd dd ?_
  have q := (np_val np k).isSome_eq
  rw [Option.isSome_map] at q
  rw [← q]
  exact h _ (I.tok _)
theorem np_snoc {xs : List (NestedKey × Addr × Value)} (np : NP kvs xs) {v : V} {u : Value} (rv : RelV v u) (hv : valN kvs k = none) : NP (kvs ++ [(k, b, v)]) (storedH xs (nkK k) b u) := by
  have q := (np_val np k).isSome_eq
  rw [hv, Option.isSome_map] at q
  have : atKey xs (nkK k) = none := by
    cases z : atKey xs (nkK k) with
    | none => rfl
    | some p => rw [z] at q; cases q
  rw [storedH_new this]
  exact Paired.snoc np ⟨rfl, rfl, rv⟩
theorem dn_set {v : V} {r : Value} {Q : Unit → Shared → Prop} (hu : A.units + 9 < cLine) (I : Inv X pins σ H s) (e : H d = some (DN d kvs)) (hk : KeysN H kvs) (hb : StA H b k) (hv : valN kvs k = none) (hl2 : kvs.length < sizeLine) (rv : RelV v r)
    (h : ∀ s', Inv X pins σ (upd H d (DN d (kvs ++ [(k, b, v)]))) s' → Q () s') : wpAny (model X.prog X.w) A (setItem (.ref d) (.ref b) r) Q E s := by
  obtain ⟨hd, hl, xs, np, dd⟩ := dn_is I e hk
  have hz : xs.length ≤ sizeLine := by rw [← Paired.length np]; exact hl
  refine wpAny_setItem_heap (knd := nestedKind X.prog X.w) (hsz := hz) (show A.units + 1 + 8 < cLine by omega) (st_is I.hok hb) dd fun h' dd' hs => h _ ?_
  obtain ⟨q, es, ep, hq, h2, h3, h4, _, h5⟩ := dd'
  refine d_write I (by rw [e]; exact True.intro) hs ⟨q, hq⟩ ⟨⟨hd, ?_, X.w, _, q, es, ep, np_snoc np rv hv, hq, h2, h3, h4, h5⟩, ⟨q, hq⟩, ?_⟩
  · rw [List.length_append, List.length_singleton]; omega
  · rintro g1 g2 ⟨z1, z2, w0, ys, o2, es2, ep2, n1, n2, n3⟩ st
    exact ⟨z1, z2, w0, ys, o2, es2, ep2, n1, st _ n2, n3⟩
end
section
variable {X : Cx} {P : Program} {w : World} {K : PySem.W.Frag} {mg : Str → Option Value} {base : Heap} {N : List Str} {nm : List (Str × NameKind)} {j : Nat} {σ : L2.St} {G H : Hp} {C : List (Addr × HO)} {Q : VK} {pos : Pos} {d b : Addr} {k : NK} {kvs : List (NK × Addr × V)}
theorem CI.hu9 (c : CI X P w K mg base N nm j) : X.A.units + 9 < cLine := by have := c.room.un; omega
/-- a new one -/
theorem e_dictN (c : CI X P w K mg base N nm j) (h : ∀ p H2, New H p (DN p []) H2 → Q (.ref p) H2) : eS X (.Dict [] [] pos) σ H Q := by
  have h1 := c.prog; have h2 := c.w
  subst h1 h2
  refine ⟨fun σ H Q => ∀ p H2, New H p (DN p []) H2 → Q (.ref p) H2, ⟨fun pins s σ H Q I h => ?_⟩, h⟩
  refine wpAny_Dict_empty ⟨.ref s.heap.objs.size, _, I.laid (a := s.heap.objs.size) (o := DN s.heap.objs.size []) (t' := s.toks) (fun _ _ q => Heap.get?_push_of_some _ q) (Nat.le_refl _) ?_, rfl, h _ _ ⟨I.hok.fresh (Nat.le_refl _), rfl⟩⟩
  obtain ⟨_, hd, _⟩ := dt_empty (P := X.prog) (w := X.w) (H := H) s.heap I.big
  refine ⟨⟨hd, Nat.zero_le _, X.w, [], _, #[], 0, .nil, Heap.get?_push_size _ rfl, ⟨rfl, rfl, rfl⟩, rfl, rfl, List.nodup_nil⟩, ⟨_, Heap.get?_push_size _ rfl⟩, ?_⟩
  rintro g1 g2 ⟨z1, z2, w0, ys, o2, es2, ep2, n1, n2, n3⟩ st
  exact ⟨z1, z2, w0, ys, o2, es2, ep2, n1, st _ n2, n3⟩
theorem x_dN (c : CI X P w K mg base N nm j) {v : V} (e : H d = some (DN d kvs)) (hk : KeysN H kvs) (hb : StA H b k) (hv : valN kvs k = some v) (h : Q v H) : xS X (.ref d) (.ref b) H Q := by
  have h1 := c.prog; have h2 := c.w
  subst h1 h2
  refine ⟨fun x y H Q => ∃ d b kvs k v, x = .ref d ∧ y = .ref b ∧ H d = some (DN d kvs) ∧ KeysN H kvs ∧ StA H b k ∧ valN kvs k = some v ∧ Q v H, ?_, d, b, kvs, k, v, rfl, rfl, e, hk, hb, hv, h⟩
  rintro va sl pins s σ H x y v u Q I rx ry ⟨d, b, kvs, k, z, rfl, rfl, e, hk, hb, hv, q⟩ hs
  obtain rfl : v = Value.ref d := rx
  obtain rfl : u = Value.ref b := ry
  obtain ⟨hd, hl, xs, np, dd⟩ := dn_is I e hk
  have T := dd.typeIs
  unfold subscriptTail
  refine wpAny_bind ?_
  rw [getitemInPython_of_ne T.not_modules]
  refine wpAny_bind (wpAny_specialOf T PySem.F.slot_dict_getitem.lookup ?_)
  have fin : wpAny (model X.prog X.w) X.A (subscripted sl false (.ref d) (.ref b)) (fun r s₃ => wpAny (model X.prog X.w) X.A (letTemporaryGo va (.ref d) r >>= fun _ => pure r) (EP X pins σ Q) X.xe s₃) X.xe s := by
    rw [hs]
    exact wpAny_operating (dn_get c.hu9 I e hk hb hv fun w' s3 I3 rw' => wpAny_bind (wpAny_letTemporaryGo (wpAny_pure ⟨z, H, I3, rw', q⟩)))
  first
    | exact wpAny_pure (wpAny_bind fin)
    | exact wpAny_bind (wpAny_pure (wpAny_bind fin))
    | exact wpAny_bind fin
theorem o_notInN (c : CI X P w K mg base N nm j) (e : H d = some (DN d kvs)) (hk : KeysN H kvs) (hb : StA H b k) (h : Q (.bl (!(valN kvs k).isSome)) H) : oS X (compareOp .NotIn) (.ref b) (.ref d) H Q := by
  have h1 := c.prog; have h2 := c.w
  subst h1 h2
  refine ⟨fun y x H Q => ∃ d b kvs k, x = .ref d ∧ y = .ref b ∧ H d = some (DN d kvs) ∧ KeysN H kvs ∧ StA H b k ∧ Q (.bl (!(valN kvs k).isSome)) H, ?_, d, b, kvs, k, rfl, rfl, e, hk, hb, h⟩
  rintro pins s σ H y x v u Q I ry rx ⟨d, b, kvs, k, rfl, rfl, e, hk, hb, q⟩
  obtain rfl : u = Value.ref d := rx
  obtain rfl : v = Value.ref b := ry
  exact dn_notIn c.hu9 I e hk hb fun s3 I3 => ⟨.bl _, H, I3, rfl, q⟩
theorem p_dN (c : CI X P w K mg base N nm j) {v : V} {R : Hp → Prop} (O : Own G ((d, DN d kvs) :: C) H) (hk : KeysN G kvs) (hb : StA G b k) (hv : valN kvs k = none) (hl : kvs.length < sizeLine) (h : ∀ H', Own G ((d, DN d (kvs ++ [(k, b, v)])) :: C) H' → R H') : pS X (.ref d) (.ref b) v H R := by
  have h1 := c.prog; have h2 := c.w
  subst h1 h2
  have up : ∀ {p s}, StA G p s → StA H p s := fun z => z.up fun _ _ e => hp_up O e
  refine ⟨fun o i v H R => ∃ d b kvs k, o = .ref d ∧ i = .ref b ∧ H d = some (DN d kvs) ∧ KeysN H kvs ∧ StA H b k ∧ valN kvs k = none ∧ kvs.length < sizeLine ∧ R (upd H d (DN d (kvs ++ [(k, b, v)]))), ?_, d, b, kvs, k, rfl, rfl, O.at, fun x hx => up (hk x hx), up hb, hv, hl, h _ O.write⟩
  rintro pins s σ H o i v ov iv u R I r1 r2 r3 ⟨d, b, kvs, k, rfl, rfl, e, hk, hb, hv, hl, q⟩
  obtain rfl : ov = Value.ref d := r1
  obtain rfl : iv = Value.ref b := r2
  exact dn_set c.hu9 I e hk hb hv hl r3 fun s4 I4 => ⟨_, I4, q⟩
end
end Go

namespace Go
open PySem PySem.Spec PyProof.Rows L2
/-! dicts with single signs as keys -/
theorem S1_inj {a b : Nat} (h : S [a] = S [b]) : a = b := by have := S_inj.mp h; simpa using this
def kS (c : Nat) : Key := .inr (S [c])
theorem kS_inj {a b : Nat} : kS a = kS b ↔ a = b := ⟨fun h => S1_inj (Sum.inr.inj h), fun h => by rw [h]⟩
/-- the sign's code -/
def unS (x : Str) : Nat := x.cps.toList.headD 0
theorem unS_S (c : Nat) : unS (S [c]) = c := by simp [unS, S]
theorem perm_S {ks : List Nat} {ys : List Str} (h : ys.Perm (ks.map fun c => S [c])) : ∃ zs : List Nat, zs.Perm ks ∧ ys = zs.map fun c => S [c] := by
  refine ⟨ys.map unS, ?_, ?_⟩
  · have := h.map unS
    rw [List.map_map] at this
    rwa [show (unS ∘ fun c => S [c]) = id from funext unS_S, List.map_id] at this
  · rw [List.map_map]
    refine ((List.map_congr_left fun x hx => ?_).trans (List.map_id' ys)).symm
    obtain ⟨c, _, rfl⟩ := List.mem_map.mp (h.mem_iff.mp hx)
    show S [unS (S [c])] = S [c]
    rw [unS_S]
theorem lt_one {a b : Nat} : ltCps (S [b]).cps.toList (S [a]).cps.toList = decide (b < a) := by
  by_cases h : b < a
  · rw [decide_eq_true h]; simp [S, ltCps, h]
  · rw [decide_eq_false h]
    by_cases e : b = a <;> simp [S, ltCps, h, e]
theorem rising_le : ∀ (a : Nat) {zs : List Nat}, risingS (S [a]) (zs.map fun c => S [c]) = true → (∀ x ∈ zs, a ≤ x) ∧ zs.Pairwise (· ≤ ·)
  | a, [], _ => ⟨(fun _ h => nomatch h), .nil⟩
  | a, b :: zs, h => by
    rw [List.map_cons, risingS, lt_one, Bool.and_eq_true, Bool.not_eq_true', decide_eq_false_iff_not] at h
    obtain ⟨h1, h2⟩ := rising_le b h.2
    refine ⟨fun x hx => ?_, .cons h1 h2⟩
    rcases List.mem_cons.mp hx with rfl | hx
    · omega
    · have := h1 x hx; omega
theorem sortedS_le : ∀ {zs : List Nat}, sortedS (zs.map fun c => S [c]) = true → zs.Pairwise (· ≤ ·)
  | [], _ => .nil
  | a :: zs, h => by
    obtain ⟨h1, h2⟩ := rising_le a (show risingS (S [a]) (zs.map fun c => S [c]) = true from h)
    exact .cons h1 h2
section
variable {X : Cx} {P : Program} {w : World} {K : PySem.W.Frag} {mg : Str → Option Value} {base : Heap} {N : List Str} {nm : List (Str × NameKind)} {j : Nat} {σ : L2.St} {G H : Hp} {C : List (Addr × HO)} {Q : VK} {p : Addr} {kvs : List (Key × V)} {z : Nat}
theorem x_dS (c : CI X P w K mg base N nm j) {v : V} (hp : H p = some (.dK kvs)) (hv : valV kvs (kS z) = some v) (h : Q v H) : xS X (.ref p) (.str (S [z])) H Q :=
  x_dict c (by rw [← hv]; exact DGet.k (k := kS z) hp) h
theorem o_notInS (c : CI X P w K mg base N nm j) (hp : H p = some (.dK kvs)) (h : Q (.bl (!(valV kvs (kS z)).isSome)) H) : oS X (compareOp .NotIn) (.str (S [z])) (.ref p) H Q := o_notInD c (DGet.k (k := kS z) hp) h
theorem p_dS (c : CI X P w K mg base N nm j) {v : V} {R : Hp → Prop} (O : Own G ((p, .dK kvs) :: C) H) (hl : kvs.length < 1000000) (h : ∀ H', Own G ((p, .dK (putK kvs (kS z) v)) :: C) H' → R H') : pS X (.ref p) (.str (S [z])) v H R :=
  p_dict c (DPut.k (k := kS z) O.at (sz_lt hl)) (h _ O.write)
theorem c_sortedDS (c : CI X P w K mg base N nm j) {ks : List Nat} (hp : H p = some (.dK kvs)) (hk : kvs.map (·.1) = ks.map kS) (hl : ks.length < 64) (h : ∀ (ys : List Nat) q H', ys.Perm ks → ys.Pairwise (· ≤ ·) → New H q (.lst (ys.map fun c => V.str (S [c]))) H' → Q (.ref q) H') : cS X (.builtin "sorted") [.ref p] H Q :=
  ⟨_, call_sortedD c.calm, p, kvs, ks.map (fun c => S [c]), rfl, .of hp, by rw [hk, List.map_map]; rfl, by rw [List.length_map]; exact hl, fun ys q h1 h2 hq => by
    obtain ⟨zs, hz, rfl⟩ := perm_S h1
    exact h zs q _ hz (sortedS_le h2) ⟨hq, by rw [List.map_map]; rfl⟩⟩
theorem minD_signs : ∀ (zs : List Nat) (a : Nat), ∃ m, m ∈ a :: zs ∧ (∀ x ∈ a :: zs, m ≤ x) ∧ PySem.W.minD (.str (S [a])) (zs.map fun x => PyData.str (S [x])) = .str (S [m])
  | [], a => ⟨a, List.mem_cons_self, fun x hx => by rw [List.mem_singleton.mp hx]; exact Nat.le_refl _, rfl⟩
  | b :: zs, a => by
    obtain ⟨m, h1, h2, h3⟩ := minD_signs zs (if b < a then b else a)
    refine ⟨m, ?_, fun x hx => ?_, ?_⟩
    · rcases List.mem_cons.mp h1 with h | h
      · rw [h]; split <;> simp
      · exact List.mem_cons_of_mem _ (List.mem_cons_of_mem _ h)
    · have hm := h2 _ List.mem_cons_self
      rcases List.mem_cons.mp hx with rfl | hx
      · split at hm <;> omega
      · rcases List.mem_cons.mp hx with rfl | hx
        · split at hm <;> omega
        · exact h2 x (List.mem_cons_of_mem _ hx)
    · rw [← h3]
      show PySem.W.minD (if PySem.W.dataLt (.str (S [b])) (.str (S [a])) = true then PyData.str (S [b]) else PyData.str (S [a])) _ = _
      rw [lt_strs]
      by_cases q : b < a
      · rw [if_pos (by simp [List.cons_lt_cons_iff, q]), if_pos q]
      · rw [if_neg (by simp [List.cons_lt_cons_iff]; omega), if_neg q]
theorem maxD_signs : ∀ (zs : List Nat) (a : Nat), ∃ m, m ∈ a :: zs ∧ (∀ x ∈ a :: zs, x ≤ m) ∧ PySem.W.maxD (.str (S [a])) (zs.map fun x => PyData.str (S [x])) = .str (S [m])
  | [], a => ⟨a, List.mem_cons_self, fun x hx => by rw [List.mem_singleton.mp hx]; exact Nat.le_refl _, rfl⟩
  | b :: zs, a => by
    obtain ⟨m, h1, h2, h3⟩ := maxD_signs zs (if a < b then b else a)
    refine ⟨m, ?_, fun x hx => ?_, ?_⟩
    · rcases List.mem_cons.mp h1 with h | h
      · rw [h]; split <;> simp
      · exact List.mem_cons_of_mem _ (List.mem_cons_of_mem _ h)
    · have hm := h2 _ List.mem_cons_self
      rcases List.mem_cons.mp hx with rfl | hx
      · split at hm <;> omega
      · rcases List.mem_cons.mp hx with rfl | hx
        · split at hm <;> omega
        · exact h2 x (List.mem_cons_of_mem _ hx)
    · rw [← h3]
      show PySem.W.maxD (if PySem.W.dataLt (.str (S [a])) (.str (S [b])) = true then PyData.str (S [b]) else PyData.str (S [a])) _ = _
      rw [lt_strs]
      by_cases q : a < b
      · rw [if_pos (by simp [List.cons_lt_cons_iff, q]), if_pos q]
      · rw [if_neg (by simp [List.cons_lt_cons_iff]; omega), if_neg q]
theorem dp_signs : ∀ zs : List Nat, DpAll K H (zs.map fun x => V.str (S [x])) (zs.map fun x => PyData.str (S [x]))
  | [] => .nil
  | _ :: zs => .cons (.str _) (dp_signs zs)
theorem at_sign {zs : List Nat} {i m : Nat} {x : V} (hx : (zs.map fun x => V.str (S [x]))[i]? = some x) (he : (zs.map fun x => PyData.str (S [x]))[i]? = some (.str (S [m]))) : x = .str (S [m]) := by
  rw [List.getElem?_map] at hx he
  obtain ⟨a, ha, rfl⟩ := Option.map_eq_some_iff.mp hx
  rw [ha] at he
  have e : PyData.str (S [a]) = .str (S [m]) := Option.some.inj he
  rw [S1_inj (PyData.str.inj e)]
/-- min, max of signs -/
theorem c_minSg (c : CI X P w K mg base N nm j) {a : Nat} {zs : List Nat} (hp : SqL K H p ((a :: zs).map fun x => V.str (S [x]))) (h : ∀ m, m ∈ a :: zs → (∀ x ∈ a :: zs, m ≤ x) → Q (.str (S [m])) H) : cS X (.builtin "min") [.ref p] H Q := by
  obtain ⟨m, h1, h2, h3⟩ := minD_signs zs a
  refine c_minP c (d := .str (S [a])) (ds := zs.map fun x => PyData.str (S [x])) hp (dp_signs (a :: zs)) (by have := alike_strs ((a :: zs).map fun x => S [x]); rwa [List.map_map] at this) (fun e he => ?_) fun i x hx he => ?_
  · obtain ⟨b, _, rfl⟩ := List.mem_map.mp (show e ∈ (a :: zs).map fun x => PyData.str (S [x]) from he)
    exact shal_str
  · rw [h3] at he
    rw [at_sign hx he]
    exact h m h1 h2
theorem c_maxSg (c : CI X P w K mg base N nm j) {a : Nat} {zs : List Nat} (hp : SqL K H p ((a :: zs).map fun x => V.str (S [x]))) (h : ∀ m, m ∈ a :: zs → (∀ x ∈ a :: zs, x ≤ m) → Q (.str (S [m])) H) : cS X (.builtin "max") [.ref p] H Q := by
  obtain ⟨m, h1, h2, h3⟩ := maxD_signs zs a
  refine c_maxP c (d := .str (S [a])) (ds := zs.map fun x => PyData.str (S [x])) hp (dp_signs (a :: zs)) (by have := alike_strs ((a :: zs).map fun x => S [x]); rwa [List.map_map] at this) (fun e he => ?_) fun i x hx he => ?_
  · obtain ⟨b, _, rfl⟩ := List.mem_map.mp (show e ∈ (a :: zs).map fun x => PyData.str (S [x]) from he)
    exact shal_str
  · rw [h3] at he
    rw [at_sign hx he]
    exact h m h1 h2
end
end Go

namespace Go
open PySem PySem.Spec PyProof.Rows L2

/-! a ValueError of the built-in class, as a thing -/
def veO (a : Addr) : HO := ExcO (.type "ValueError") a
/-- ValueError('m') -/
theorem pe_ve {X : Cx} {m : Str} {j : Nat} {p2 p pos : Pos} (hg : Gl X "ValueError") (hm : X.mg "ValueError" = none) :
    PE X (.Call (.Name "ValueError" p) [.Constant (.str m) j p2] [] pos) (fun _ H Q => ∀ a, H a = none → Q (.ref a) (upd H a (veO a))) := by
  refine ⟨fun pins s σ H Q J h => ?_⟩
  refine wpAny_Call_Name_kw (ld_blt J hg hm boot_ValueError ?_ (by decide) (by decide))
  have ha : PA X [.Constant (.str m) j p2] _ := pa_cons pe_str pa_nil
  refine PyProof.Rows.callWith_type1 (thn (ha.run pos pins s σ H (fun vs H1 => vs.length ≤ sizeLine ∧ ∀ a, H1 a = none → Q (.ref a) (upd H1 a (veO a))) J ⟨(by show 1 ≤ sizeLine; rw [sizeLine_eq]; omega), h⟩) fun us s1 hh => ?_) rfl rfl
  obtain ⟨vs, H1, I1, r1, q0, q1⟩ := hh
  obtain ⟨hp1, g1, d1, tk1, os1⟩ := s1
  refine wpAny_call_exc exb_ValueError.call (fun h' a mk => ?_) (Nat.le_trans (Nat.le_of_eq r1.length.symm) q0)
  have mk := PySem.Heap.MadeExc.of mk
  have hn : H1 a = none := I1.hok.gone mk.new
  obtain ⟨t, ht, _, _⟩ := mk.there
  exact ⟨.ref a, upd H1 a (veO a), I1.laidN mk.keeps mk.new hn (excO_ok ht ⟨rfl, rfl⟩ rfl), rfl, q1 a hn⟩
section
variable {prog : Program} {w : World} {A : Around} {E : Value → Shared → Prop} {s : Shared}
theorem code_tuple_new_str {Q₁ : Value → Shared → Prop} (hh : A.handled = none) (x : Str) (t : Tok)
    (h : ∀ (s' : Shared) (acc : Array Value), (∀ b o, s.heap.get? b = some o → s'.heap.get? b = some o) → s'.gens = s.gens → s'.drawn = s.drawn → s'.os = s.os → ItemsOf (SignAt x) acc x.cps.size → Q₁ (.ref s'.heap.objs.size) { s' with heap := s'.heap.push { cls := .type "tuple", data := .seq acc } }) (hsz : x.cps.size ≤ sizeLine) :
    codeAny (model prog w) A (.call (.builtin "tuple.__new__") ⟨[.type "tuple", .str x t], []⟩) (wants Q₁ E) s := by
  refine codeAny_of_tree ?_
  show wpAny _ A.in1 (do checkBuiltinCall "tuple.__new__" ⟨[.type "tuple", .str x t], []⟩; again (.builtin "tuple.__new__" ⟨[.type "tuple", .str x t], []⟩)) _ _ s
  refine wpAny_bind (wpAny_of_eq (F.newCall_tuple_1 _) (wpAny_pure ⟨plainId_quiet F.plain_tuple_new _, codeAny_builtin F.entry_tuple_new ?_⟩))
  rw [Around.under_plainId F.plain_tuple_new _]
  have hsub := sub_tuple_self
  have hinit := init_tuple_lookup
  have hmh := madeHere_tuple
  have hTI : s.TypeIs (.str x t) "str" := rfl
  wp_walk using wpAny_typeOf hTI, wpAny_collect_str (A := A.in1) (hn := hsz) (show A.in1.handled = none from hh) x t
  intro s' acc hk hg hd ho hacc
  show wpAny _ _ (Builtin.Tuple.tupleExact acc.toList.toArray >>= fun v => ret v) _ _ _
  unfold Builtin.Tuple.tupleExact
  refine wpAny_bind (wpAny_newObj_type ?_ (by show acc.toList.toArray.size ≤ sizeLine; simp only [Array.toArray_toList]; rw [hacc.1]; exact hsz))
  refine wpAny_pure ?_
  have e : acc.toList.toArray = acc := by simp
  rw [e]
  exact h s' acc hk hg hd ho hacc
theorem call_tuple_str {Q : Value → Shared → Prop} (hh : A.handled = none) (x : Str) (t : Tok)
    (hQ : ∀ (s' : Shared) (acc : Array Value), (∀ b o, s.heap.get? b = some o → s'.heap.get? b = some o) → s'.gens = s.gens → s'.drawn = s.drawn → s'.os = s.os → ItemsOf (SignAt x) acc x.cps.size → Q (.ref s'.heap.objs.size) { s' with heap := s'.heap.push { cls := .type "tuple", data := .seq acc } }) (hsz : x.cps.size ≤ sizeLine) :
    wpAny (model prog w) A (call (.type "tuple") [.str x t]) Q E s := by
  refine callType_codes (Q₁ := fun obj s₁ => s₁.TypeIs obj "tuple" ∧ Q obj s₁) F.called_tuple (F.typeCall_tuple_1 _) F.entry_object_init
    (code_tuple_new_str (A := A.in1) (show A.in1.handled = none from hh) x t (hsz := hsz) fun s' acc hk hg hd ho hacc => ⟨⟨_, Heap.get?_push_size _ rfl, rfl⟩, hQ s' acc hk hg hd ho hacc⟩) fun obj s₁ h₁ => ?_
  exact ⟨h₁.1, F.args_object_init_2 obj _, object_init_meets F.called_tuple.init.lookup F.called_tuple.made (by decide) prog w A.in1 _ s₁ ⟨h₁.1, rfl, h₁.2⟩⟩
end
section
variable {X : Cx}
/-- a, b = x, y with plain local names: stored from the right -/
theorem ps_par2 {i j : Nat} {x y : Str} {a b : Expr} {ta : TA} {px py pt pos : Pos} {kt k2 pt2} (hc : X.calm = true) (hN : X.N.Nodup) (hi : X.N[i]? = some x) (hj : X.N[j]? = some y) (hij : i ≠ j)
    (hx : X.env.scope.names.lookup x = some .local) (hy : X.env.scope.names.lookup y = some .local) (ha : PA X [a, b] ta)
    (hw : swappedStores [.Tuple [.Name x px, .Name y py] kt pt] (.Tuple [a, b] k2 pt2) X.env = pure (some [x, y]))
    (hs : swapsWithSole [.Tuple [.Name x px, .Name y py] kt pt] (.Tuple [a, b] k2 pt2) pos.line X.env = pure false) :
    PS X (.Assign [.Tuple [.Name x px, .Name y py] kt pt] (.Tuple [a, b] k2 pt2) pos) (fun D σ H => ta σ H fun vs H1 => ∃ u v, vs = [u, v] ∧ D.nx ((σ.set i (some u)).set j (some v)) H1) := by
  refine ⟨fun pins s σ H D I h => ?_⟩
  rw [exec_Assign_arm]
  refine wpAny_bind (wpAny_standAt ?_)
  rw [hs]
  refine wpAny_bind (wpAny_pure ?_)
  rw [if_neg (by decide)]
  refine wpAny_bind (Tuple_ (thn (ha.run _ pins s σ H _ I h) fun us s1 ⟨vs, H1, I1, r1, q1⟩ => ?_))
  obtain ⟨v1, v2, e1, q1⟩ := q1
  subst e1
  obtain ⟨u1, u2, rfl, r1', r2'⟩ : ∃ u1 u2, us = [u1, u2] ∧ RelV v1 u1 ∧ RelV v2 u2 := by
    cases r1 with
    | cons p q =>
      cases q with
      | cons p' q' =>
        cases q'
        exact ⟨_, _, rfl, p, p'⟩
  refine wpAny_newObj_type ?_ (by show 2 ≤ sizeLine; decide)
  have I2 : Inv X pins σ H1 { s1 with heap := s1.heap.push { cls := .type "tuple", data := .seq [u1, u2].toArray } } := I1.kept (t' := s1.toks) fun b o e => Heap.get?_push_of_some _ e
  rw [hw]
  refine wpAny_bind (wpAny_pure ?_)
  show wpAny (model X.prog X.w) X.A (do rule "assign.swapped-stores"; let items ← unpackItems (.ref s1.heap.objs.size) 2 none; assignInOrder [fun v => bindName X.env y v, fun v => bindName X.env x v] items.reverse; pure Flow.next) _ _ _
  refine wpAny_bind (wpAny_rule (wpAny_bind (unpackItems_tuple (items := #[u1, u2]) (I.ok.hd hc) (IsTup.new s1.heap _) fun h' hx' => ?_)))
  have I3 := I2.kept (h' := h') (t' := s1.toks) fun b o e => hx' b o (Nat.ne_of_lt (Heap.lt_size e)) e
  show wpAny _ _ (assignInOrder [fun v => bindName X.env y v, fun v => bindName X.env x v] [u2, u1] >>= fun _ => pure Flow.next) _ _ _
  refine wpAny_bind (assignInOrder_cons (wpAny_bindName (store_ok I3 hN hj (.inl hy) r2' (fun s2 I4 => ?_) (.inr hy))))
  refine assignInOrder_cons (wpAny_bindName (store_ok I4 hN hi (.inl hx) r1' (fun s4 I6 => assignInOrder_nil (wpAny_pure ?_)) (.inr hx)))
  rw [List.set_comm _ _ (Ne.symm hij)] at I6
  exact ⟨_, H1, I6, q1⟩
def isStar : Expr → Bool
  | .Starred .. => true
  | _ => false
theorem sw_two {x y : Str} {a b : Expr} {px py pt : Pos} {kt k2 pt2} (hk : X.env.blockKind = .function) (hx : X.env.kindOf x = some .local) (hy : X.env.kindOf y = some .local) (hl : (py.line == px.line) = true) (hne : (y == x) = false)
    (hsa : isStar a = false) (hsb : isStar b = false) (hf : foldedForSure 8 a = false) (hcc : constantsAlone 8 a = false) :
    swappedStores [.Tuple [.Name x px, .Name y py] kt pt] (.Tuple [a, b] k2 pt2) X.env = pure (some [x, y]) := by
  have hl' : py.line = px.line := by simpa using hl
  have e2 : [x, y].eraseDups = [x, y] := by simp [List.eraseDups_cons, hne]
  have e1 : [Expr.Name x px, Expr.Name y py].filterMap (fun | .Name id pos => if X.env.kindOf id == some .local && pos.line == px.line then some id else none | _ => none) = [x, y] := by
    simp [List.filterMap_cons, hx, hy, hl']
  unfold swappedStores
  rw [hk]
  refine Eq.trans (if_neg (show ¬ _ from Bool.false_ne_true)) ?_
  refine Eq.trans (if_neg (show ¬ ((isStar a || (isStar b || false)) = true) by rw [hsa, hsb]; decide)) ?_
  show (fun names : List Str => if (names.length != 2 || names.eraseDups.length != names.length) = true then (pure none : Sem (Option (List Str))) else if (foldedForSure 8 a && (foldedForSure 8 b && true)) = true then pure none else if (constantsAlone 8 a && (constantsAlone 8 b && true)) = true then (do (unsupported "assign.tuple-of-constant-expressions:order-of-the-stores" : Sem PUnit); pure (some names)) else pure (some names)) ([Expr.Name x px, Expr.Name y py].filterMap (fun | .Name id pos => if X.env.kindOf id == some .local && pos.line == px.line then some id else none | _ => none)) = _
  rw [e1, hf, hcc]
  show (if ((2 : Nat) != 2 || [x, y].eraseDups.length != 2) = true then (pure none : Sem (Option (List Str))) else pure (some [x, y])) = _
  rw [e2]
  rfl
end
section
variable {X : Cx} {P : Program} {w : World} {K : PySem.W.Frag} {mg : Str → Option Value} {base : Heap} {N : List Str} {nm : List (Str × NameKind)} {j : Nat} {σ : L2.St} {H : Hp} {Q : VK} {pos p : Pos}
theorem e_ve (c : CI X P w K mg base N nm j) {m : Str} {k : Nat} {p2 : Pos} (hg : glB nm "ValueError" = true) (hm : mg "ValueError" = none) (h : ∀ a H2, New H a (veO a) H2 → Q (.ref a) H2) : eS X (.Call (.Name "ValueError" p) [.Constant (.str m) k p2] [] pos) σ H Q :=
  ⟨_, pe_ve (c.gl hg) (by rw [c.mg]; exact hm), fun a hn => h a _ ⟨hn, rfl⟩⟩
/-- text.upper() -/
theorem m_upper {z : List Nat} (h1 : z.length ≤ 1000) (h2 : z.all (· < 128) = true) (h : Q (.str (S (z.map PyProof.Rows.up1))) H) : mS X "str.upper" (.str (S z)) [] H Q :=
  ⟨_, mt_upper, S z, rfl, rfl, by rw [S_len]; omega, by rw [show Txt.upper (S z) = S (z.map PyProof.Rows.up1) from SX.upper_S h2]; exact h⟩
/-- {text: v} -/
theorem e_disp1S (c : CI X P w K mg base N nm j) {k v : Expr} (h : ∀ p H0, New H p (.dK []) H0 → eS X k σ H0 fun x H1 => eS X v σ H1 fun y H2 => ∃ (z : Str), x = .str z ∧ H2 p = some (.dK []) ∧ Q (.ref p) (upd H2 p (.dK [(.inr z, y)]))) : eS X (.Dict [some k] [v] pos) σ H Q :=
  ⟨_, pe_disp (pps_cons eS_is eS_is pps_nil) rfl rfl (fun z => nomatch z) (show (1 : Nat) ≤ 15 by decide), fun p hp => eS_mono (h p _ ⟨hp, rfl⟩) fun x H1 q => eS_mono q fun y H2 ⟨i, e1, e2, q⟩ => ⟨e2, [(.inr i, y)], by rw [e1]; rfl, (show (1 : Nat) ≤ 15 by decide), q⟩⟩
/-- tuple of a text -/
theorem c_tupS (c : CI X P w K mg base N nm j) {z : List Nat} (hz : z.length ≤ 1000000) (h : ∀ r H', New H r (.tup (z.map fun c => V.str (S [c]))) H' → Q (.ref r) H') : cS X (.type "tuple") [.str (S z)] H Q := by
  refine ⟨fun vs H Q => ∃ z : List Nat, z.length ≤ 1000000 ∧ vs = [.str (S z)] ∧ ∀ r, H r = none → Q (.ref r) (upd H r (.tup (z.map fun c => V.str (S [c])))), ?_, z, hz, rfl, fun r hr => h r _ ⟨hr, rfl⟩⟩
  intro pins s σ H xs us Q I r h
  obtain ⟨z, hz, rfl, q⟩ := h
  cases r with
  | cons r rr =>
    cases rr
    obtain ⟨t, rfl⟩ := r
    have hs : (S z).cps.size ≤ sizeLine := by rw [S_size]; exact sz_le hz
    refine call_tuple_str (hsz := hs) (I.ok.hd c.calm) (S z) t fun s' acc hk hg hd ho hacc => ?_
    rw [S_size] at hacc
    have v := strs_vals z hacc
    obtain ⟨hp1, g1, d1, t1, os1⟩ := s
    obtain ⟨hp2, g2, d2, t2, os2⟩ := s'
    dsimp only at hk hg hd ho
    subst hg hd ho
    have I1 : Inv X pins σ H ⟨hp2, g2, d2, t2, os2⟩ := I.kept (t' := t2) hk
    have I2 := I1.laid (h' := hp2.push { cls := .type "tuple", data := .seq acc }) (t' := t2) (fun b o e => Heap.get?_push_of_some _ e) (Nat.le_refl _) (show ObjOk X.prog X.w _ _ _ (.tup (z.map fun c => V.str (S [c]))) from ⟨by rw [List.length_map]; exact sz_le hz, acc.toList, v, by rw [Array.toArray_toList]; exact IsTup.new _ _⟩)
    exact ⟨.ref hp2.objs.size, _, I2, rfl, q _ (I1.hok.fresh (Nat.le_refl _))⟩
/-- a, b = x, y for local names -/
theorem s_par2 {D : Ends} (c : CI X P w K mg base N nm j) {x y : Str} {i k : Nat} {a b : Expr} {px py pt spos : Pos} {kt k2 : Nat} {pt2 : Pos} (hx : Ix N x i) (hy : Ix N y k) (hik : i ≠ k) (lx : nm.lookup x = some NameKind.local) (ly : nm.lookup y = some NameKind.local) (hl : (py.line == px.line) = true) (hne : (y == x) = false) (hsa : isStar a = false) (hsb : isStar b = false) (hf : foldedForSure 8 a = false) (hcc : constantsAlone 8 a = false)
    (hs : swapsWithSole [.Tuple [.Name x px, .Name y py] kt pt] (.Tuple [a, b] k2 pt2) spos.line X.env = pure false)
    (h : aS X [a, b] σ H fun vs H1 => ∃ u v, vs = [u, v] ∧ D.nx ((σ.set i (some u)).set k (some v)) H1) : sS X (.Assign [.Tuple [.Name x px, .Name y py] kt pt] (.Tuple [a, b] k2 pt2) spos) D σ H :=
  ⟨_, ps_par2 c.calm (by rw [c.N]; exact c.nd) (by rw [c.N]; exact hx.get) (by rw [c.N]; exact hy.get) hik (c.lo _ lx) (c.lo _ ly) aS_is (sw_two (by unfold Env.blockKind; rw [c.kind]; rfl) (c.lo _ lx) (c.lo _ ly) hl hne hsa hsb hf hcc) hs, h⟩
/-- isinstance of such a thing -/
theorem c_isVE (c : CI X P w K mg base N nm j) {a : Addr} {n : String} {b : Bool} (h1 : H a = some (veO a)) (h4 : PySem.W.kitOne K (.type "ValueError") (.type n) = some b) (h : Q (.bl b) H) : cS X (.builtin "isinstance") [.ref a, .ty n] H Q := by
  have eK := c.K
  subst eK
  refine ⟨fun vs H Q => ∃ (a : Addr) (n : String) (b : Bool), vs = [.ref a, .ty n] ∧ H a = some (veO a) ∧ PySem.W.kitOne X.K (.type "ValueError") (.type n) = some b ∧ Q (.bl b) H, ?_, a, n, b, rfl, h1, h4, h⟩
  intro pins s σ H xs us Q I r h
  obtain ⟨a, n, b, rfl, e, hk, q⟩ := h
  obtain ⟨u1, u2, rfl, r1, r2⟩ := vals2 r
  have e2 := (ClsV.ty n).eq r2
  subst e2
  cases (show u1 = Value.ref a from r1)
  obtain ⟨⟨oe, vs, hget, hz, hd⟩, _⟩ := (show ObjOk X.prog X.w H s.heap a (ExcO (.type "ValueError") a) from I.hok a _ e)
  exact PySem.W.kia_one (PySem.W.kitx_bexc PySem.F.excAttr_ValueError PySem.F.lkClass_ValueError PySem.F.soClass_ValueError (by decide +kernel)) I.kIn ⟨oe, hget, hz.1⟩ hk (fun z => nomatch z) fun tk => ⟨.bl b, H, I.tok tk, rfl, q⟩
end
end Go

namespace Go
open PySem PySem.Spec PyProof.Rows L2
/-! repr of things of any kind -/
def encK : Key → PyData
  | .inl i => .int i
  | .inr x => .str x
inductive Shw (K : PySem.W.Frag) (H : Hp) : V → PyData → Prop
  | non : Shw K H .non .none
  | bl (b : Bool) : Shw K H (.bl b) (.bool b)
  | int {i : Int} (h : i.natAbs.log2 < 1920) : Shw K H (.int i) (.int i)
  | str (x : Str) : Shw K H (.str x) (.str x)
  | ref {a : Addr} {d : PyData} (hd : Dp K H (.ref a) d) (hs : d.showable = true) (hn : d.hasDict = false) : Shw K H (.ref a) d
  | dK {a : Addr} {ps : List (Key × Int)} (h : H a = some (.dK (ps.map fun p => (p.1, V.int p.2)))) (hs : (PyData.dict (ps.map fun p => (encK p.1, PyData.int p.2))).showable = true) : Shw K H (.ref a) (.dict (ps.map fun p => (encK p.1, PyData.int p.2)))
theorem pairs_read {h : Heap} : ∀ {ps : List (Key × Int)} {vs : List (Key × Value)}, KV (ps.map fun p => (p.1, V.int p.2)) vs → PyProof.V.PairsRead h encK vs (ps.map fun p => (encK p.1, PyData.int p.2)) []
  | [], _, .nil => .nil
  | p :: ps, _, .cons (b := b) r t => by
    obtain ⟨k, v⟩ := b
    obtain ⟨e1, e2⟩ := r
    obtain rfl : p.1 = k := e1
    obtain ⟨tk, rfl⟩ := e2
    exact .cons (as := []) (.int _ _) (pairs_read t)
section
variable {X : Cx} {P : Program} {w : World} {K : PySem.W.Frag} {mg : Str → Option Value} {base : Heap} {N : List Str} {nm : List (Str × NameKind)} {j : Nat} {σ : L2.St} {H : Hp} {Q : VK}
theorem c_reprX (c : CI X P w K mg base N nm j) (hg : X.A.guards = some []) {x : V} {d : PyData} {n : Nat} (hx : Shw K H x d) (dp : d.depth ≤ n) (hn : n + 1 ≤ 16 * j + 200) (sz : d.shown.length ≤ sizeLine) (h : Q (.str (S (shT d))) H) : cS X (.builtin "repr") [x] H Q := by
  have e := c.K
  subst e
  unfold shT at h
  rw [S_cs] at h
  refine ⟨fun vs H Q => ∃ x, vs = [x] ∧ Shw X.K H x d ∧ Q (.str d.shown) H, ?_, x, rfl, hx, h⟩
  rintro pins s σ H xs us Q I r ⟨x, rfl, hd, h⟩
  obtain ⟨u, rfl, ru⟩ := vals1 r
  have un := c.room.un
  cases hd with
  | non =>
    obtain rfl : u = Value.none := ru
    exact PySem.P.repr_of_none ⟨.str _, H, I.tok _, ⟨_, rfl⟩, h⟩
  | bl b =>
    obtain rfl : u = Value.bool b := ru
    exact PySem.P.repr_of_bool ⟨.str _, H, I.tok _, ⟨_, rfl⟩, by rw [PyData.shown_bool] at h; exact h⟩
  | int hi =>
    obtain ⟨t, rfl⟩ := ru
    exact PySem.P.repr_of_int hi ⟨.str _, H, I.tok _, ⟨_, rfl⟩, by rw [PyData.shown_int] at h; exact h⟩
  | str y =>
    obtain ⟨t, rfl⟩ := ru
    rw [PyData.shown_str] at h sz
    exact PySem.P.repr_of_str ⟨.str _, H, I.tok _, ⟨_, rfl⟩, h⟩ sz
  | @ref a _ hd hs hnd =>
    obtain rfl : u = Value.ref a := ru
    obtain ⟨as, hrd⟩ := Dp.reads I d _ _ hd rfl
    exact repr_of_reads' hrd hs (fun z => by rw [hnd] at z; cases z) hg (by omega) (fun b o e => e) (fun h' u tk hk => ⟨.str d.shown, H, I.kept hk, ⟨u, rfl⟩, h⟩) sz
  | @dK a ps hH hs =>
    obtain rfl : u = Value.ref a := ru
    obtain ⟨z, hm, vs, rk, hd⟩ := (show ObjOk X.prog X.w H s.heap a (.dK _) from I.hok a _ hH)
    have hrd := PyProof.V.reads_dictOf (enc := encK) (fun k key hk => by
      rcases keyIs_shape hk with ⟨i, t, ek, ev⟩ | ⟨y, t, ek, ev⟩
      · subst ek ev; exact .int _ _
      · subst ek ev; exact .str _ _) hd (pairs_read rk)
    exact repr_of_reads' hrd hs (fun _ => by
      rw [List.mem_singleton]
      exact fun z' => by rw [← z'] at hm; simp at hm) hg (by omega) (fun b o e => e) (fun h' u tk hk => ⟨.str _, H, I.kept hk, ⟨u, rfl⟩, h⟩) sz
/-- text * n, to a million signs -/
theorem o_repM {z : List Nat} {n : Int} (h1 : 0 ≤ n) (h2 : z.length * n.toNat ≤ 1000000) (h3 : n ≤ 1000000) (h : (List.replicate n.toNat z).flatten.length = n.toNat * z.length → Q (.str (S (List.replicate n.toNat z).flatten)) H) : oS X (binaryOp .Mult) (.str (S z)) (.int n) H Q :=
  o_repS h1 h2 h3 (h (rep_len _ _))
theorem m_upperM {z : List Nat} (h1 : z.length ≤ 100000) (h2 : z.all (· < 128) = true) (h : Q (.str (S (z.map PyProof.Rows.up1))) H) : mS X "str.upper" (.str (S z)) [] H Q :=
  ⟨_, mt_upper, S z, rfl, rfl, by rw [S_len]; omega, by rw [show Txt.upper (S z) = S (z.map PyProof.Rows.up1) from SX.upper_S h2]; exact h⟩
end
end Go

namespace Go
open PySem PySem.Spec PyProof.Rows L2
/-! known trees of data, empty dicts too; repr of them -/
mutual
inductive Td (H : Hp) : V → PyData → Prop
  | non : Td H .non .none
  | bl (b : Bool) : Td H (.bl b) (.bool b)
  | int (i : Int) : Td H (.int i) (.int i)
  | str (x : Str) : Td H (.str x) (.str x)
  | lst {a : Addr} {xs : List V} {ds : List PyData} (h : H a = some (.lst xs)) (k : TdAll H xs ds) : Td H (.ref a) (.list ds)
  | tup {a : Addr} {xs : List V} {ds : List PyData} (h : H a = some (.tup xs)) (k : TdAll H xs ds) : Td H (.ref a) (.tuple ds)
  | dk {a : Addr} (h : H a = some (.dK [])) : Td H (.ref a) (.dict [])
  | dki {a : Addr} {kvs : List (Key × V)} {ds : List (PyData × PyData)} (h : H a = some (.dK kvs)) (k : TdKv H kvs ds) : Td H (.ref a) (.dict ds)
inductive TdKv (H : Hp) : List (Key × V) → List (PyData × PyData) → Prop
  | nil : TdKv H [] []
  | cons {i : Int} {v : V} {kvs : List (Key × V)} {d : PyData} {ds : List (PyData × PyData)} (h : Td H v d) (k : TdKv H kvs ds) : TdKv H ((.inl i, v) :: kvs) ((.int i, d) :: ds)
inductive TdAll (H : Hp) : List V → List PyData → Prop
  | nil : TdAll H [] []
  | cons {v : V} {vs : List V} {d : PyData} {ds : List PyData} (h : Td H v d) (k : TdAll H vs ds) : TdAll H (v :: vs) (d :: ds)
end
mutual
theorem Td.up {G H : Hp} (s : ∀ a u, G a = some u → H a = some u) : ∀ {v : V} {d : PyData}, Td G v d → Td H v d
  | _, _, .non => .non
  | _, _, .bl b => .bl b
  | _, _, .int i => .int i
  | _, _, .str x => .str x
  | _, _, .lst h k => .lst (s _ _ h) (TdAll.up s k)
  | _, _, .tup h k => .tup (s _ _ h) (TdAll.up s k)
  | _, _, .dk h => .dk (s _ _ h)
  | _, _, .dki h k => .dki (s _ _ h) (TdKv.up s k)
theorem TdKv.up {G H : Hp} (s : ∀ a u, G a = some u → H a = some u) : ∀ {kvs : List (Key × V)} {ds : List (PyData × PyData)}, TdKv G kvs ds → TdKv H kvs ds
  | _, _, .nil => .nil
  | _, _, .cons h k => .cons (Td.up s h) (TdKv.up s k)
theorem TdAll.up {G H : Hp} (s : ∀ a u, G a = some u → H a = some u) : ∀ {vs : List V} {ds : List PyData}, TdAll G vs ds → TdAll H vs ds
  | _, _, .nil => .nil
  | _, _, .cons h k => .cons (Td.up s h) (TdAll.up s k)
end
section
variable {X : Cx} {pins : List (Addr × Obj)} {σ : L2.St} {H : Hp} {s : Shared}
mutual
theorem Td.shows (I : Inv X pins σ H s) : ∀ (d : PyData) (v : V) (u : Value), Td H v d → RelV v u → d.showable = true → d.shown.length ≤ sizeLine → ∃ as bs, Reads s.heap u d as ∧ ReadAtMost s.heap d.depth bs ∧ ReprK X.prog X.w bs s.heap d.depth u d.shown
  | .none, _, _, h, r, _, _ => by
    cases h
    cases r
    exact ⟨_, [], Reads.none, (fun _ h => nomatch h), by simp only [PyData.shown]; exact .of_is ReprIs.none _ _ _⟩
  | .bool b, _, _, h, r, _, _ => by
    cases h
    cases r
    exact ⟨_, [], Reads.bool b, (fun _ h => nomatch h), by simp only [PyData.shown]; exact .of_is (ReprIs.bool b) _ _ _⟩
  | .int i, _, _, h, r, hs, _ => by
    cases h
    obtain ⟨t, rfl⟩ := r
    exact ⟨_, [], Reads.int i t, (fun _ h => nomatch h), by simp only [PyData.shown]; exact .of_is (ReprIs.int t (by simpa [PyData.showable] using hs)) _ _ _⟩
  | .str x, _, _, h, r, _, hz => by
    cases h
    obtain ⟨t, rfl⟩ := r
    exact ⟨_, [], Reads.str x t, (fun _ h => nomatch h), by simp only [PyData.shown]; exact .of_is (ReprIs.str x t (by simpa only [PyData.shown] using hz)) _ _ _⟩
  | .list ds, _, _, h, r, hs, hz => by
    cases h with
    | @lst a xs _ h k =>
      cases r
      have hz' : (listText (PyData.shownAll ds)).length ≤ sizeLine := by simpa only [PyData.shown] using hz
      obtain ⟨its, rv, ⟨o, n, h1, h2, _, h3⟩, _⟩ := I.list (.of (K := X.K) h)
      obtain ⟨as, bs, hr, hb, hk⟩ := TdAll.shows I ds xs its k rv (by simpa [PyData.showable] using hs) (fun t ht => Nat.le_trans (listText_mem_le ht) hz')
      have r : Reads s.heap (.ref a) (.list ds) _ := .list h1 h2 h3 hr
      have hna : a ∉ bs := not_mem_of_deeper r (by simp only [PyData.depth]; omega) hb
      refine ⟨_, a :: bs, r, ReadAtMost.cons r (by simp only [PyData.depth]; omega) hb, ?_⟩
      simp only [PyData.depth, PyData.shown]
      cases its with
      | nil =>
        cases hr
        simp only [PyData.shownAll, listText_nil]
        exact ReprK.listEmpty h1 h2 h3
      | cons x l => exact ReprK.list h1 h2 h3 hna (by simpa using hk.length_eq) (fun i y e => hk.item i y (by simpa using e))
  | .tuple ds, _, _, h, r, hs, hz => by
    cases h with
    | @tup a xs _ h k =>
      cases r
      have hz' : (tupleText (PyData.shownAll ds)).length ≤ sizeLine := by simpa only [PyData.shown] using hz
      obtain ⟨its, rv, ⟨o, h1, h2, n, h3⟩, _⟩ := I.tuple (.of (K := X.K) h)
      obtain ⟨as, bs, hr, hb, hk⟩ := TdAll.shows I ds xs its k rv (by simpa [PyData.showable] using hs) (fun t ht => Nat.le_trans (tupleText_mem_le ht) hz')
      have r : Reads s.heap (.ref a) (.tuple ds) _ := .tuple h1 h2 h3 hr
      have hna : a ∉ bs := not_mem_of_deeper r (by simp only [PyData.depth]; omega) hb
      refine ⟨_, a :: bs, r, ReadAtMost.cons r (by simp only [PyData.depth]; omega) hb, ?_⟩
      simp only [PyData.depth, PyData.shown]
      exact ReprK.tuple h1 h2 h3 hna hk
  | .dict ds, _, _, h, r, hs, hz => by
    have main : ∀ {a : Addr} {kvs : List (Key × V)}, H a = some (.dK kvs) → TdKv H kvs ds → ∃ as bs, Reads s.heap (.ref a) (.dict ds) as ∧ ReadAtMost s.heap (PyData.dict ds).depth bs ∧ ReprK X.prog X.w bs s.heap (PyData.dict ds).depth (.ref a) (PyData.dict ds).shown := fun {a kvs} h k => by
      have hz' : (dictText (PyData.shownKv ds)).length ≤ sizeLine := by simpa only [PyData.shown] using hz
      obtain ⟨z, hm, vs, rk, hd⟩ := (show ObjOk X.prog X.w H s.heap a (.dK kvs) from I.hok a _ h)
      obtain ⟨o, es, ep, ho, hx, hdat, _, hp, _⟩ := hd
      obtain ⟨as1, as2, bs, r1, r2, hb, k1, k2⟩ := TdKv.shows I ds kvs vs es.toList k rk hp (by simpa [PyData.showable] using hs) (fun t ht => Nat.le_trans (dictText_mem_le ht) hz')
      have r : Reads s.heap (.ref a) (.dict ds) _ := .dict ho hx.1 hdat r1 r2
      have hna : a ∉ bs := not_mem_of_deeper r (by simp only [PyData.depth]; omega) hb
      refine ⟨_, a :: bs, r, ReadAtMost.cons r (by simp only [PyData.depth]; omega) hb, ?_⟩
      simp only [PyData.depth, PyData.shown, PyData.shownKv_eq]
      exact ReprK.dict ho hx.1 hdat hm hna (ReprEntriesK.of_two es.toList _ _ k1 k2)
    cases h with
    | @dk a h =>
      cases r
      exact main h .nil
    | @dki a kvs ds h k =>
      cases r
      exact main h k
theorem TdKv.shows (I : Inv X pins σ H s) : ∀ (ds : List (PyData × PyData)) (kvs : List (Key × V)) (vs : List (Key × Value)) (es : List DictEntry), TdKv H kvs ds → KV kvs vs → Pairs (mixKind X.prog X.w) es vs → PyData.showableKv ds = true → (∀ t ∈ PyData.shownKv ds, t.length ≤ sizeLine) →
    ∃ as1 as2 bs, ReadsAll s.heap (es.map (·.key)) (ds.map (·.1)) as1 ∧ ReadsAll s.heap (es.map (·.val)) (ds.map (·.2)) as2 ∧ ReadAtMost s.heap (PyData.depthKv ds) bs ∧ ReprAllK X.prog X.w bs s.heap (PyData.depthKv ds) (es.map (·.key)) (PyData.shownAll (ds.map (·.1))) ∧ ReprAllK X.prog X.w bs s.heap (PyData.depthKv ds) (es.map (·.val)) (PyData.shownAll (ds.map (·.2)))
  | [], _, _, _, h, r, p, _, _ => by
    cases h
    cases r
    cases p
    exact ⟨_, _, [], ReadsAll.nil, ReadsAll.nil, (fun _ h => nomatch h), .nil, .nil⟩
  | (kd, d) :: ds, _, _, _, h, r, p, hs, hz => by
    cases h with
    | @cons i v kvs _ _ h k =>
      cases r with
      | @cons _ q _ vs r1 r2 =>
        obtain ⟨kk, val⟩ := q
        obtain ⟨e1, rv⟩ := r1
        obtain rfl : Sum.inl i = kk := e1
        cases p with
        | @cons e _ es _ hk hv hp =>
          have hs' : (PyData.int i).showable = true ∧ d.showable = true ∧ PyData.showableKv ds = true := by simpa [PyData.showableKv, and_assoc] using hs
          have hz1 : d.shown.length ≤ sizeLine := by
            have := hz _ (by simp only [PyData.shownKv]; exact List.mem_cons_self ..)
            rw [strLen_append, strLen_append] at this
            omega
          obtain ⟨a1, b1, q1, hb1, k1⟩ := Td.shows I d _ _ h rv hs'.2.1 hz1
          obtain ⟨a2, a3, b2, q2, q3, hb2, k2, k3⟩ := TdKv.shows I ds _ _ _ k r2 hp hs'.2.2 (fun t ht => hz _ (by simp only [PyData.shownKv]; exact List.mem_cons_of_mem _ ht))
          rcases keyIs_shape (show keyIs (Sum.inl i) e.key = true from hk) with ⟨i', t, ek, ev⟩ | ⟨y, t, ek, ev⟩
          · cases ek
            obtain rfl : e.val = val := hv
            refine ⟨_, _, b1 ++ b2, by rw [List.map_cons, List.map_cons, ev]; exact ReadsAll.cons (Reads.int i t) q2, by rw [List.map_cons, List.map_cons]; exact ReadsAll.cons q1 q3, ?_, ?_, ?_⟩
            · simp only [PyData.depthKv]
              exact (hb1.mono (Nat.le_trans (Nat.le_max_right _ _) (Nat.le_max_left _ _))).append (hb2.mono (Nat.le_max_right _ _))
            · simp only [PyData.depthKv, List.map_cons, PyData.shownAll]
              refine .cons ?_ (k2.more_le (fun b hb => List.mem_append_right _ hb) (Nat.le_max_right _ _))
              rw [ev]
              simp only [PyData.shown]
              exact .of_is (ReprIs.int t (by simpa [PyData.showable] using hs'.1)) _ _ _
            · simp only [PyData.depthKv, List.map_cons, PyData.shownAll]
              exact .cons ((k1.more fun b hb => List.mem_append_left _ hb).level_le (Nat.le_trans (Nat.le_max_right _ _) (Nat.le_max_left _ _))) (k3.more_le (fun b hb => List.mem_append_right _ hb) (Nat.le_max_right _ _))
          · cases ek
theorem TdAll.shows (I : Inv X pins σ H s) : ∀ (ds : List PyData) (vs : List V) (us : List Value), TdAll H vs ds → Vals vs us → PyData.showableAll ds = true → (∀ t ∈ PyData.shownAll ds, t.length ≤ sizeLine) → ∃ as bs, ReadsAll s.heap us ds as ∧ ReadAtMost s.heap (PyData.depthAll ds) bs ∧ ReprAllK X.prog X.w bs s.heap (PyData.depthAll ds) us (PyData.shownAll ds)
  | [], _, _, h, r, _, _ => by
    cases h
    cases r
    exact ⟨_, [], ReadsAll.nil, (fun _ h => nomatch h), by simp only [PyData.shownAll]; exact .nil⟩
  | d :: ds, _, _, h, r, hs, hz => by
    cases h with
    | cons h k =>
      cases r with
      | cons r1 r2 =>
        have hs' : d.showable = true ∧ PyData.showableAll ds = true := by simpa [PyData.showableAll] using hs
        obtain ⟨a1, b1, q1, hb1, k1⟩ := Td.shows I d _ _ h r1 hs'.1 (hz _ (by simp only [PyData.shownAll]; exact List.mem_cons_self ..))
        obtain ⟨a2, b2, q2, hb2, k2⟩ := TdAll.shows I ds _ _ k r2 hs'.2 (fun t ht => hz t (by simp only [PyData.shownAll]; exact List.mem_cons_of_mem _ ht))
        refine ⟨_, b1 ++ b2, ReadsAll.cons q1 q2, ?_, ?_⟩
        · simp only [PyData.depthAll]
          exact (hb1.mono (Nat.le_max_left _ _)).append (hb2.mono (Nat.le_max_right _ _))
        · simp only [PyData.depthAll, PyData.shownAll]
          exact .cons ((k1.more fun b hb => List.mem_append_left _ hb).level_le (Nat.le_max_left _ _)) (k2.more_le (fun b hb => List.mem_append_right _ hb) (Nat.le_max_right _ _))
end
theorem Td.showsByD (I : Inv X pins σ H s) {a : Addr} {kvs : List (Key × V)} {ds : List (PyData × PyData)} (h : H a = some (.dK kvs)) (k : TdKv H kvs ds) (hs : (PyData.dict ds).showable = true) (hz : (PyData.dict ds).shown.length ≤ sizeLine) : ∃ T idr, ShowsBy X.prog X.w s.heap a (.dict ds) T idr := by
  have hz' : (dictText (PyData.shownKv ds)).length ≤ sizeLine := by simpa only [PyData.shown] using hz
  obtain ⟨z, hm, vs, rk, hd⟩ := (show ObjOk X.prog X.w H s.heap a (.dK kvs) from I.hok a _ h)
  obtain ⟨o, es, ep, ho, hx, hdat, _, hp, _⟩ := hd
  obtain ⟨as1, as2, bs, r1, r2, hb, k1, k2⟩ := TdKv.shows I ds kvs vs es.toList k rk hp (by simpa [PyData.showable] using hs) (fun t ht => Nat.le_trans (dictText_mem_le ht) hz')
  have r : Reads s.heap (.ref a) (.dict ds) _ := .dict ho hx.1 hdat r1 r2
  have hna : a ∉ bs := not_mem_of_deeper r (by simp only [PyData.depth]; omega) hb
  refine ⟨"dict", "dict.__repr__", F.slot_dict_repr, F.slot_dict_str, F.slot_dict_format, fun s' hk0 => ⟨o, hk0 _ _ ho, hx.1⟩, fun A E s' Q hg hu hk0 hQ => ?_⟩
  simp only [PyData.depth] at hu
  simp only [PyData.shown, PyData.shownKv_eq] at hQ
  exact call_dict_reprK ho hx.1 hdat hm hna (ReprEntriesK.of_two es.toList _ _ k1 k2) hg (fun b _ => Clear.nil b) hu hk0 hQ (by rw [← PyData.shownKv_eq]; exact hz')
theorem Td.showsBy (I : Inv X pins σ H s) {d : PyData} {a : Addr} (h : Td H (.ref a) d) (hs : d.showable = true) (hz : d.shown.length ≤ sizeLine) : ∃ T idr, ShowsBy X.prog X.w s.heap a d T idr := by
  cases h with
  | @lst _ xs ds h k =>
    have hz' : (listText (PyData.shownAll ds)).length ≤ sizeLine := by simpa only [PyData.shown] using hz
    obtain ⟨its, rv, ⟨o, n, h1, h2, _, h3⟩, _⟩ := I.list (.of (K := X.K) h)
    obtain ⟨as, bs, hr, hb, hk⟩ := TdAll.shows I ds xs its k rv (by simpa [PyData.showable] using hs) (fun t ht => Nat.le_trans (listText_mem_le ht) hz')
    have r : Reads s.heap (.ref a) (.list ds) _ := .list h1 h2 h3 hr
    have hna : a ∉ bs := not_mem_of_deeper r (by simp only [PyData.depth]; omega) hb
    refine ⟨"list", "list.__repr__", F.slot_list_repr.toG, F.slot_list_str, F.slot_list_format, fun s' hk0 => ⟨o, hk0 _ _ h1, h2⟩, fun A E s' Q hg hu hk0 hQ => ?_⟩
    simp only [PyData.depth] at hu
    simp only [PyData.shown] at hQ
    cases its with
    | nil =>
      cases hr
      simp only [PyData.shownAll, listText_nil] at hQ
      exact call_list_repr_empty ⟨o, hk0 _ _ h1, h2⟩ (hk0 _ _ h1) h3 (hQ s'.heap _ _ fun _ _ e => e)
    | cons x l => exact call_list_reprK h1 h2 h3 hna (by simpa using hk.length_eq) (fun i y e => hk.item i y (by simpa using e)) hg (fun b _ => Clear.nil b) hu hk0 hQ hz'
  | @tup _ xs ds h k =>
    have hz' : (tupleText (PyData.shownAll ds)).length ≤ sizeLine := by simpa only [PyData.shown] using hz
    obtain ⟨its, rv, ⟨o, h1, h2, n, h3⟩, _⟩ := I.tuple (.of (K := X.K) h)
    obtain ⟨as, bs, hr, hb, hk⟩ := TdAll.shows I ds xs its k rv (by simpa [PyData.showable] using hs) (fun t ht => Nat.le_trans (tupleText_mem_le ht) hz')
    have r : Reads s.heap (.ref a) (.tuple ds) _ := .tuple h1 h2 h3 hr
    have hna : a ∉ bs := not_mem_of_deeper r (by simp only [PyData.depth]; omega) hb
    refine ⟨"tuple", "tuple.__repr__", F.slot_tuple_repr, F.slot_tuple_str, F.slot_tuple_format, fun s' hk0 => ⟨o, hk0 _ _ h1, h2⟩, fun A E s' Q hg hu hk0 hQ => ?_⟩
    simp only [PyData.depth] at hu
    simp only [PyData.shown] at hQ
    exact call_tuple_reprK h1 h2 h3 hna hk hg (fun b _ => Clear.nil b) hu hk0 hQ hz'
  | @dk _ h => exact Td.showsByD I h .nil hs hz
  | @dki _ _ _ h k => exact Td.showsByD I h k hs hz
end
section
variable {X : Cx} {P : Program} {w : World} {K : PySem.W.Frag} {mg : Str → Option Value} {base : Heap} {N : List Str} {nm : List (Str × NameKind)} {j : Nat} {σ : L2.St} {H : Hp} {Q : VK}
theorem c_reprT (c : CI X P w K mg base N nm j) (hg : X.A.guards = some []) {x : V} {d : PyData} {n : Nat} (hx : Td H x d) (hs : d.showable = true) (dp : d.depth ≤ n) (hn : n + 1 ≤ 16 * j + 200) (sz : d.shown.length ≤ sizeLine) (h : Q (.str (S (cs d.shown))) H) : cS X (.builtin "repr") [x] H Q := by
  rw [S_cs] at h
  refine ⟨fun vs H Q => ∃ x, vs = [x] ∧ Td H x d ∧ Q (.str d.shown) H, ?_, x, rfl, hx, h⟩
  rintro pins s σ H xs us Q I r ⟨x, rfl, hd, h⟩
  obtain ⟨u, rfl, ru⟩ := vals1 r
  have un := c.room.un
  have top : ∀ {a : Addr}, Td H (.ref a) d → u = Value.ref a → wpAny (model X.prog X.w) X.A (call (.builtin "repr") [u]) (fun v s' => ∃ x' H', Inv X pins σ H' s' ∧ RelV x' v ∧ Q x' H') X.xe s := fun {a} hd eu => by
    subst eu
    obtain ⟨T, idr, S⟩ := Td.showsBy I hd hs sz
    exact call_repr_slot (by omega) (S.typeIs s fun _ _ e => e) S.slotRepr (S.call X.A.in1 _ s _ hg (by show X.A.units + 1 + d.depth < cLine; omega) (fun _ _ e => e) fun h' u tk hk => ⟨_, _, rfl, .str d.shown, H, I.kept hk, ⟨u, rfl⟩, h⟩)
  cases hd with
  | non =>
    obtain rfl : u = Value.none := ru
    exact PySem.P.repr_of_none ⟨.str _, H, I.tok _, ⟨_, rfl⟩, h⟩
  | bl b =>
    obtain rfl : u = Value.bool b := ru
    exact PySem.P.repr_of_bool ⟨.str _, H, I.tok _, ⟨_, rfl⟩, by rw [PyData.shown_bool] at h; exact h⟩
  | int i =>
    obtain ⟨t, rfl⟩ := ru
    exact PySem.P.repr_of_int (by simpa [PyData.showable] using hs) ⟨.str _, H, I.tok _, ⟨_, rfl⟩, by rw [PyData.shown_int] at h; exact h⟩
  | str y =>
    obtain ⟨t, rfl⟩ := ru
    rw [PyData.shown_str] at h sz
    exact PySem.P.repr_of_str ⟨.str _, H, I.tok _, ⟨_, rfl⟩, h⟩ sz
  | lst h1 k => exact top (.lst h1 k) ru
  | tup h1 k => exact top (.tup h1 k) ru
  | dk h1 => exact top (.dk h1) ru
  | dki h1 k => exact top (.dki h1 k) ru
end
section
open PySem.SeqAt
theorem dict_eq_declines_int (l : Addr) (es : Array DictEntry) (ep : Nat) (dd : Option Addr) (sl : Array (Option Value)) (b : Int) (u : Tok) :
    Meets (Builtin.«dict.__eq__» ⟨[.ref l, .int b u], []⟩) (fun _ R s => s.heap.get? l = some { cls := .type "dict", dict := dd, data := .dict es ep, slots := sl } ∧ R (.ok (.ret .notImplemented)) s) :=
  .of_wp fun prog w A R s h => by
    obtain ⟨hp, g, d, tk, os⟩ := s; obtain ⟨hl, h⟩ := h
    have f1 := F.sub_int_dict
    wp_walk using wpAny_loadPart' hl
    exact ⟨_, rfl, h⟩
theorem int_eq_declines_dict (b : Int) (u : Tok) (l : Addr) (es : Array DictEntry) (ep : Nat) (dd : Option Addr) (sl : Array (Option Value)) :
    Meets (Builtin.«int.__eq__» ⟨[.int b u, .ref l], []⟩) (fun _ R s => s.heap.get? l = some { cls := .type "dict", dict := dd, data := .dict es ep, slots := sl } ∧ R (.ok (.ret .notImplemented)) s) :=
  .of_wp fun prog w A R s h => by obtain ⟨hp, g, d, tk, os⟩ := s; obtain ⟨hl, h⟩ := h; wp_walk using wpAny_loadPart' hl, wpAny_load hl; exact ⟨_, rfl, h⟩
theorem rc_dict_int {A : Around} {s : Shared} {l : Addr} {o : Obj} {es : Array DictEntry} {ep : Nat} (b : Int) (u : Tok) (ho : s.heap.get? l = some o) (hc : o.cls = .type "dict") (hd : o.data = .dict es ep) (hu : A.units < cLine) : RcAt A s (.ref l) (.int b u) false := fun prog w E Q h => by
  obtain ⟨cls, dd, data, sl⟩ := o
  simp only at hc hd
  subst hc hd
  exact rc_eq_decline_or (k := false) ⟨_, ho, rfl⟩ (typeIs_int s b u) (by decide) F.sub_int_dict F.slot_dict_eq F.slot_int_eq_refl
    (fun _ hq => call_meets F.slot_dict_eq ⟨_, ho, rfl⟩ F.entry_dict_eq (F.args_dict_eq_2 _ _) (dict_eq_declines_int l es ep dd sl b u) ⟨ho, hq⟩)
    (fun _ hq => call_meets F.slot_int_eq_refl (typeIs_int s b u) F.entry_int_eq (F.args_int_eq_2 _ _) (int_eq_declines_dict b u l es ep dd sl) ⟨ho, hq⟩)
    (fun _ hq => wpAny_of_eq (rfl : isSame (.ref l) (.int b u) = pure false) hq) (.inr hu) h
def eqI : PyData → Int → Bool
  | .int i, n => i == n
  | .bool b, n => (if b then 1 else 0) == n
  | _, _ => false
variable {X : Cx} {P : Program} {w : World} {K : PySem.W.Frag} {mg : Str → Option Value} {base : Heap} {N : List Str} {nm : List (Str × NameKind)} {j : Nat} {σ : L2.St} {H : Hp} {Q : VK}
/-- a known tree == a number -/
theorem o_eqIntT (c : CI X P w K mg base N nm j) {v : V} {d : PyData} {n : Int} (hv : Td H v d) (h : Q (.bl (eqI d n)) H) : oS X (compareOp .Eq) v (.int n) H Q := by
  have hu := c.u0
  refine ⟨fun x y H Q => ∃ d n, Td H x d ∧ y = .int n ∧ Q (.bl (eqI d n)) H, ?_, d, n, hv, rfl, h⟩
  rintro pins s σ H x y v u Q I rx ry ⟨d, n, hd, rfl, q⟩
  obtain ⟨t, rfl⟩ := ry
  cases hd with
  | non =>
    obtain rfl : v = Value.none := rx
    exact RcAt.none_int n t _ _ _ _ ⟨.bl _, H, I, rfl, q⟩
  | bl b =>
    obtain rfl : v = Value.bool b := rx
    exact RcAt.bool_int b n t _ _ _ _ ⟨.bl _, H, I, rfl, q⟩
  | int i =>
    obtain ⟨t', rfl⟩ := rx
    exact RcAt.int_int i t' n t _ _ _ _ ⟨.bl _, H, I, rfl, q⟩
  | str z =>
    obtain ⟨t', rfl⟩ := rx
    exact RcAt.str_int z t' n t _ _ _ _ ⟨.bl _, H, I, rfl, q⟩
  | @lst a xs _ h k =>
    obtain rfl : v = Value.ref a := rx
    obtain ⟨its, rv, ⟨o, m, h1, h2, _, h3⟩, _⟩ := I.list (.of (K := X.K) h)
    exact RcAt.list_int n t ⟨o, h1, h2, m, h3⟩ hu _ _ _ _ ⟨.bl _, H, I, rfl, q⟩
  | @tup a xs _ h k =>
    obtain rfl : v = Value.ref a := rx
    obtain ⟨its, rv, ⟨o, h1, h2, m, h3⟩, _⟩ := I.tuple (.of (K := X.K) h)
    exact RcAt.tuple_int n t ⟨o, h1, h2, m, h3⟩ hu _ _ _ _ ⟨.bl _, H, I, rfl, q⟩
  | @dk a h =>
    obtain rfl : v = Value.ref a := rx
    obtain ⟨z, hm, vs, rk, hd⟩ := (show ObjOk X.prog X.w H s.heap a (.dK []) from I.hok a _ h)
    obtain ⟨o, es, ep, ho, hx, hdat, _⟩ := hd
    exact rc_dict_int n t ho hx.1 hdat hu _ _ _ _ ⟨.bl _, H, I, rfl, q⟩
  | @dki a kvs _ h k =>
    obtain rfl : v = Value.ref a := rx
    obtain ⟨z, hm, vs, rk, hd⟩ := (show ObjOk X.prog X.w H s.heap a (.dK kvs) from I.hok a _ h)
    obtain ⟨o, es, ep, ho, hx, hdat, _⟩ := hd
    exact rc_dict_int n t ho hx.1 hdat hu _ _ _ _ ⟨.bl _, H, I, rfl, q⟩
/-- a list of anything != [] -/
theorem o_neNilA (c : CI X P w K mg base N nm j) {p q : Addr} {xs : List V} (hp : SqL K H p xs) (hq : SqL K H q []) (h : Q (.bl (!decide (xs = []))) H) : oS X (compareOp .NotEq) (.ref p) (.ref q) H Q := by
  have hu := c.u0
  have eK := c.K
  subst eK
  refine ⟨fun x y H Q => ∃ p q xs, x = .ref p ∧ y = .ref q ∧ SqL X.K H p xs ∧ SqL X.K H q [] ∧ Q (.bl (!decide (xs = []))) H, ?_, p, q, xs, rfl, rfl, hp, hq, h⟩
  rintro pins s σ H x y v u Q I rx ry ⟨p, q, xs, rfl, rfl, hp, hq, h⟩
  obtain rfl : v = Value.ref p := rx
  obtain rfl : u = Value.ref q := ry
  obtain ⟨its, rv, ⟨o, m, h1, h2, _, h3⟩, _⟩ := I.list hp
  obtain ⟨its2, rv2, ⟨o2, m2, k1, k2, _, k3⟩, _⟩ := I.list hq
  cases rv2
  cases rv with
  | nil =>
    have z := RcNeAt.lists (A := X.A) (e := fun _ => true) (s := s) (l := p) (b := q) ⟨o, h1, h2, m, h3⟩ ⟨o2, k1, k2, m2, k3⟩ rfl hu (fun j h1 _ => by simp at h1)
    exact z _ _ _ _ ⟨.bl _, H, I, rfl, h⟩
  | cons r1 r2 =>
    have z := RcNeAt.lists_lengths (A := X.A) (s := s) (l := p) (b := q) ⟨o, h1, h2, m, h3⟩ ⟨o2, k1, k2, m2, k3⟩ (by simp) hu
    exact z _ _ _ _ ⟨.bl _, H, I, rfl, by simpa using h⟩
end
end Go

namespace Go
open PySem PySem.Spec PyProof.Rows L2
section
open PySem.SeqAt
variable {X : Cx} {P : Program} {w : World} {K : PySem.W.Frag} {mg : Str → Option Value} {base : Heap} {N : List Str} {nm : List (Str × NameKind)} {j : Nat} {σ : L2.St} {H : Hp} {Q : VK}
/-- a list of anything == [] -/
theorem o_eqNilA (c : CI X P w K mg base N nm j) {p q : Addr} {xs : List V} (hp : SqL K H p xs) (hq : SqL K H q []) (h : Q (.bl (decide (xs = []))) H) : oS X (compareOp .Eq) (.ref p) (.ref q) H Q := by
  have hu := c.u0
  have eK := c.K
  subst eK
  refine ⟨fun x y H Q => ∃ p q xs, x = .ref p ∧ y = .ref q ∧ SqL X.K H p xs ∧ SqL X.K H q [] ∧ Q (.bl (decide (xs = []))) H, ?_, p, q, xs, rfl, rfl, hp, hq, h⟩
  rintro pins s σ H x y v u Q I rx ry ⟨p, q, xs, rfl, rfl, hp, hq, h⟩
  obtain rfl : v = Value.ref p := rx
  obtain rfl : u = Value.ref q := ry
  obtain ⟨its, rv, ⟨o, m, h1, h2, _, h3⟩, _⟩ := I.list hp
  obtain ⟨its2, rv2, ⟨o2, m2, k1, k2, _, k3⟩, _⟩ := I.list hq
  cases rv2
  cases rv with
  | nil =>
    have z := RcAt.lists (A := X.A) (e := fun _ => true) (s := s) (l := p) (b := q) ⟨o, h1, h2, m, h3⟩ ⟨o2, k1, k2, m2, k3⟩ rfl hu (fun j h1 _ => by simp at h1)
    exact z _ _ _ _ ⟨.bl _, H, I, rfl, h⟩
  | cons r1 r2 =>
    have z := RcAt.lists_lengths (A := X.A) (s := s) (l := p) (b := q) ⟨o, h1, h2, m, h3⟩ ⟨o2, k1, k2, m2, k3⟩ (by simp) hu
    exact z _ _ _ _ ⟨.bl _, H, I, rfl, by simpa using h⟩
theorem c_tupleT (c : CI X P w K mg base N nm j) {p : Addr} {xs : List V} (hp : SqT K H p xs) (h : Q (.ref p) H) : cS X (.type "tuple") [.ref p] H Q := by
  have e := c.K
  subst e
  exact ⟨_, call_tuple_of, _, _, rfl, .inr ⟨hp, h⟩⟩
/-- what a known tree is of -/
def tyD : PyData → String
  | .none => "NoneType"
  | .bool _ => "bool"
  | .int _ => "int"
  | .str _ => "str"
  | .list _ => "list"
  | .tuple _ => "tuple"
  | .dict _ => "dict"
theorem Td.ty {v : V} {d : PyData} (h : Td H v d) : TyOf K H v (.type (tyD d)) := by
  cases h with
  | non => exact .non
  | bl b => exact .bl b
  | int i => exact .int i
  | str x => exact .str x
  | lst h k => exact .lst h
  | tup h k => exact .tup h
  | dk h => exact .dK h
  | dki h k => exact .dK h
theorem c_isD (c : CI X P w K mg base N nm j) {v : V} {d : PyData} {n : String} {b : Bool} (hv : Td H v d) (e : PySem.W.kitOne K (.type (tyD d)) (.type n) = some b) (h : Q (.bl b) H) : cS X (.builtin "isinstance") [v, .ty n] H Q := c_isiT c hv.ty e h
def isLd : PyData → Bool
  | .list _ => true
  | _ => false
def isTd : PyData → Bool
  | .tuple _ => true
  | _ => false
def isSd : PyData → Bool
  | .str _ => true
  | _ => false
theorem kit_list (d : PyData) : PySem.W.kitOne K (.type (tyD d)) (.type "list") = some (isLd d) := by cases d <;> rfl
theorem kit_tup (d : PyData) : PySem.W.kitOne K (.type (tyD d)) (.type "tuple") = some (isTd d) := by cases d <;> rfl
theorem kit_str (d : PyData) : PySem.W.kitOne K (.type (tyD d)) (.type "str") = some (isSd d) := by cases d <;> rfl
end
end Go

local macro_rules | `(tactic| walk_at "get") => `(tactic| repeat (first | with_reducible exact Go.Get.here | with_reducible apply Go.Get.there))
local macro_rules | `(tactic| walk_at "ix") => `(tactic| repeat (first | with_reducible exact Go.Ix.here | with_reducible apply Go.Ix.there))
local macro_rules | `(tactic| walk_at "put") => `(tactic| repeat (first | with_reducible exact Go.Put.here | with_reducible apply Go.Put.there))
local macro_rules | `(tactic| walk_at "putv") => `(tactic| repeat (first | with_reducible exact Go.SetV.here | with_reducible apply Go.SetV.there))
local macro_rules | `(tactic| walk_at "bm") => `(tactic| first | exact L2.nobehind _ (by decide) (by decide) | rfl | with_unfolding_all rfl)
local macro_rules | `(tactic| walk_at "dk") => `(tactic| decide +kernel)
local macro_rules | `(tactic| walk_at "as") => `(tactic| with_reducible assumption)
local macro_rules | `(tactic| walk_at "gp") => `(tactic| ((repeat (first | (with_reducible assumption) | (refine' Go.gp_up ?s ?_; (case s => (with_reducible assumption)); (first | with_reducible show (_ : Option L2.HO) = _ | (rotate_left; with_reducible show (_ : Option L2.HO) = _) | (rotate_left; rotate_left; with_reducible show (_ : Option L2.HO) = _))) | fail)); done))
local macro_rules | `(tactic| walk_at "hp") => `(tactic| first | (refine' Go.Own.at ?s; (case s => (with_reducible assumption))) | (refine' Go.Own.at2 ?s; (case s => (with_reducible assumption))) | (refine' Go.Own.at3 ?s; (case s => (with_reducible assumption))) | (refine' Go.Own.at4 ?s; (case s => (with_reducible assumption))) | (refine' Go.Own.at5 ?s; (case s => (with_reducible assumption))) | (refine' Go.Own.at6 ?s; (case s => (with_reducible assumption))) | (refine' Go.Own.at7 ?s; (case s => (with_reducible assumption))) | (refine' Go.hp_up ?s ?h; (case s => (with_reducible assumption)); (case h => (((repeat (first | (with_reducible assumption) | (refine' Go.gp_up ?s ?_; (case s => (with_reducible assumption)); (first | with_reducible show (_ : Option L2.HO) = _ | (rotate_left; with_reducible show (_ : Option L2.HO) = _) | (rotate_left; rotate_left; with_reducible show (_ : Option L2.HO) = _))) | fail)); done)))) | (with_reducible assumption) | fail)
local macro_rules | `(tactic| walk_at "pu") => `(tactic| ((repeat (first | with_reducible exact Go.Pull.here | with_reducible apply Go.Pull.there | fail)); done))
local macro_rules | `(tactic| walk_at "pc") => `(tactic| ((repeat (first | with_reducible exact Go.Pl.refl | ((with_reducible refine' Go.Pl.cons ?p ?_); (case p => (((repeat (first | with_reducible exact Go.Pull.here | with_reducible apply Go.Pull.there | fail)); done))); (first | with_reducible show Go.Pl _ _ | (rotate_left; with_reducible show Go.Pl _ _) | (rotate_left; rotate_left; with_reducible show Go.Pl _ _))) | fail)); done))
local macro_rules | `(tactic| walk_at "pl") => `(tactic| ((with_reducible refine' Go.Own.pl ?O ?h); (case O => (with_reducible assumption)); (case h => (((repeat (first | with_reducible exact Go.Pl.refl | ((with_reducible refine' Go.Pl.cons ?p ?_); (case p => (((repeat (first | with_reducible exact Go.Pull.here | with_reducible apply Go.Pull.there | fail)); done))); (first | with_reducible show Go.Pl _ _ | (rotate_left; with_reducible show Go.Pl _ _) | (rotate_left; rotate_left; with_reducible show Go.Pl _ _))) | fail)); done)))))
local macro_rules | `(tactic| walk_at "own") => `(tactic| first | (with_reducible assumption) | ((with_reducible refine' Go.Own.f1 ?s); (case s => (with_reducible assumption))) | ((with_reducible refine' Go.Own.f2 ?s); (case s => (with_reducible assumption))) | ((with_reducible refine' Go.Own.swap2 ?s); (case s => (with_reducible assumption))) | ((with_reducible refine' Go.Own.r3 ?s); (case s => (with_reducible assumption))) | ((with_reducible refine' Go.Own.v3 ?s); (case s => (with_reducible assumption))) | ((with_reducible refine' Go.Own.f3 ?s); (case s => (with_reducible assumption))) | ((with_reducible refine' Go.Own.t1 ?s); (case s => (with_reducible assumption))) | ((with_reducible refine' Go.Own.t2 ?s); (case s => (with_reducible assumption))) | ((with_reducible refine' Go.Own.t3 ?s); (case s => (with_reducible assumption))) | ((with_reducible refine' Go.Own.f4 ?s); (case s => (with_reducible assumption))) | ((with_reducible refine' Go.Own.f5 ?s); (case s => (with_reducible assumption))) | ((with_reducible refine' Go.Own.f6 ?s); (case s => (with_reducible assumption))) | ((with_reducible refine' Go.Own.t4 ?s); (case s => (with_reducible assumption))) | ((with_reducible refine' Go.Own.t5 ?s); (case s => (with_reducible assumption))) | ((with_reducible refine' Go.Own.t6 ?s); (case s => (with_reducible assumption))) | (((with_reducible refine' Go.Own.pl ?O ?h); (case O => (with_reducible assumption)); (case h => (((repeat (first | with_reducible exact Go.Pl.refl | ((with_reducible refine' Go.Pl.cons ?p ?_); (case p => (((repeat (first | with_reducible exact Go.Pull.here | with_reducible apply Go.Pull.there | fail)); done))); (first | with_reducible show Go.Pl _ _ | (rotate_left; with_reducible show Go.Pl _ _) | (rotate_left; rotate_left; with_reducible show Go.Pl _ _))) | fail)); done))))) | fail)
local macro_rules | `(tactic| walk_at "fld") => `(tactic| ((repeat (first | with_reducible exact Go.Fld.here | ((with_reducible refine' Go.Fld.there ?_ ?n); (case n => decide +kernel); (first | with_reducible show Go.Fld _ _ _ | (rotate_left; with_reducible show Go.Fld _ _ _) | (rotate_left; rotate_left; with_reducible show Go.Fld _ _ _))) | fail)); done))
local macro_rules | `(tactic| walk_at "nofld") => `(tactic| ((repeat (first | with_reducible exact Go.NoFld.nil | ((with_reducible refine' Go.NoFld.cons ?n ?_); (case n => decide +kernel)) | fail)); done))
local macro_rules | `(tactic| walk_at "fput") => `(tactic| ((repeat (first | with_reducible exact Go.FPut.new | with_reducible exact Go.FPut.here | ((with_reducible refine' Go.FPut.there ?_ ?n); (case n => decide +kernel); (first | with_reducible show Go.FPut _ _ _ _ | (rotate_left; with_reducible show Go.FPut _ _ _ _) | (rotate_left; rotate_left; with_reducible show Go.FPut _ _ _ _))) | fail)); done))
local macro_rules | `(tactic| walk_at "gsl") => `(tactic| ((repeat (first | (with_reducible assumption) | (refine' L2.Same.seq ?s ?_; (case s => (with_reducible assumption)); (first | with_reducible show L2.SqL _ _ _ _ | (rotate_left; with_reducible show L2.SqL _ _ _ _) | (rotate_left; rotate_left; with_reducible show L2.SqL _ _ _ _))) | fail)); done))
local macro_rules | `(tactic| walk_at "gst") => `(tactic| ((repeat (first | (with_reducible assumption) | (refine' Go.same_sqt ?s ?_; (case s => (with_reducible assumption)); (first | with_reducible show L2.SqT _ _ _ _ | (rotate_left; with_reducible show L2.SqT _ _ _ _) | (rotate_left; rotate_left; with_reducible show L2.SqT _ _ _ _))) | fail)); done))
local macro_rules | `(tactic| walk_at "sql") => `(tactic| first | (with_reducible assumption) | (refine' L2.SqL.of ?h; (case h => walk_at "hp")) | (refine' Go.sql_up ?s ?h; (case s => (with_reducible assumption)); (case h => (((repeat (first | (with_reducible assumption) | (refine' L2.Same.seq ?s ?_; (case s => (with_reducible assumption)); (first | with_reducible show L2.SqL _ _ _ _ | (rotate_left; with_reducible show L2.SqL _ _ _ _) | (rotate_left; rotate_left; with_reducible show L2.SqL _ _ _ _))) | fail)); done)))) | (((repeat (first | (with_reducible assumption) | (refine' L2.Same.seq ?s ?_; (case s => (with_reducible assumption)); (first | with_reducible show L2.SqL _ _ _ _ | (rotate_left; with_reducible show L2.SqL _ _ _ _) | (rotate_left; rotate_left; with_reducible show L2.SqL _ _ _ _))) | fail)); done)) | fail)
local macro_rules | `(tactic| walk_at "sqt") => `(tactic| first | (with_reducible assumption) | (refine' L2.SqT.of ?h; (case h => walk_at "hp")) | (refine' Go.sqt_up ?s ?h; (case s => (with_reducible assumption)); (case h => (((repeat (first | (with_reducible assumption) | (refine' Go.same_sqt ?s ?_; (case s => (with_reducible assumption)); (first | with_reducible show L2.SqT _ _ _ _ | (rotate_left; with_reducible show L2.SqT _ _ _ _) | (rotate_left; rotate_left; with_reducible show L2.SqT _ _ _ _))) | fail)); done)))) | (((repeat (first | (with_reducible assumption) | (refine' Go.same_sqt ?s ?_; (case s => (with_reducible assumption)); (first | with_reducible show L2.SqT _ _ _ _ | (rotate_left; with_reducible show L2.SqT _ _ _ _) | (rotate_left; rotate_left; with_reducible show L2.SqT _ _ _ _))) | fail)); done)) | fail)
local macro_rules | `(tactic| walk_at "num") => `(tactic| first | omega | (simp only [List.length_append, List.length_cons, List.length_nil, List.length_reverse, List.length_map, List.length_replicate, List.length_take, List.length_drop] at *; omega) | fail)
local macro_rules | `(tactic| walk_at "few") => `(tactic| exact Go.sz_le (by simp only [List.length_cons, List.length_nil]; decide))
local macro_rules | `(tactic| walk_at "sm") => `(tactic| ((repeat (first | (with_reducible assumption) | exact Go.same_rfl | (refine' Go.same_tr ?_ ?s; (case s => (with_reducible assumption)); (first | with_reducible show L2.Same _ _ | (rotate_left; with_reducible show L2.Same _ _) | (rotate_left; rotate_left; with_reducible show L2.Same _ _))) | fail)); done))
local macro_rules | `(tactic| walk_at "st") => `(tactic| first | ((with_reducible refine' Go.e_put ?k1 ?_); (case k1 => (repeat (first | with_reducible exact Go.Put.here | with_reducible apply Go.Put.there)))) | ((with_reducible show Go.eS _ _ _ _ _); (first | ((with_reducible show Go.eS _ (PySem.Expr.Name _ _) _ _ _); (first | ((with_reducible refine' Go.e_name ?k1 ?vis ?k2 ?_); (case k1 => (with_reducible assumption)); (case k2 => (repeat (first | with_reducible exact Go.Get.here | with_reducible apply Go.Get.there))); (case vis => (decide +kernel))) | ((with_reducible refine' Go.e_gstr ?k1 ?k2 ?hg ?_); (case k1 => (with_reducible assumption)); (case k2 => (with_reducible assumption)); (case hg => (decide +kernel))) | ((with_reducible refine' Go.e_gint ?k1 ?k2 ?hg ?_); (case k1 => (with_reducible assumption)); (case k2 => (with_reducible assumption)); (case hg => (decide +kernel))) | ((with_reducible refine' Go.e_gref ?k1 ?k2 ?hg ?_); (case k1 => (with_reducible assumption)); (case k2 => (with_reducible assumption)); (case hg => (decide +kernel))) | ((with_reducible refine' Go.e_bltn (x := "ValueError") (u := .type "ValueError") (v := .ty "ValueError") ?k1 ?hg ?k2 ?hv ?r ?_); (case k1 => (with_reducible assumption)); (case k2 => (with_reducible assumption)); (case hg => (decide +kernel)); (case hv => (decide +kernel)); (case r => rfl)) | ((with_reducible refine' Go.e_bltn (x := "str") (u := .type "str") (v := .ty "str") ?k1 ?hg ?k2 ?hv ?r ?_); (case k1 => (with_reducible assumption)); (case k2 => (with_reducible assumption)); (case hg => (decide +kernel)); (case hv => (decide +kernel)); (case r => rfl)) | ((with_reducible refine' Go.e_bltn (x := "int") (u := .type "int") (v := .ty "int") ?k1 ?hg ?k2 ?hv ?r ?_); (case k1 => (with_reducible assumption)); (case k2 => (with_reducible assumption)); (case hg => (decide +kernel)); (case hv => (decide +kernel)); (case r => rfl)) | ((with_reducible refine' Go.e_bltn (x := "bool") (u := .type "bool") (v := .ty "bool") ?k1 ?hg ?k2 ?hv ?r ?_); (case k1 => (with_reducible assumption)); (case k2 => (with_reducible assumption)); (case hg => (decide +kernel)); (case hv => (decide +kernel)); (case r => rfl)) | ((with_reducible refine' Go.e_bltn (x := "list") (u := .type "list") (v := .ty "list") ?k1 ?hg ?k2 ?hv ?r ?_); (case k1 => (with_reducible assumption)); (case k2 => (with_reducible assumption)); (case hg => (decide +kernel)); (case hv => (decide +kernel)); (case r => rfl)) | ((with_reducible refine' Go.e_bltn (x := "tuple") (u := .type "tuple") (v := .ty "tuple") ?k1 ?hg ?k2 ?hv ?r ?_); (case k1 => (with_reducible assumption)); (case k2 => (with_reducible assumption)); (case hg => (decide +kernel)); (case hv => (decide +kernel)); (case r => rfl)) | fail)) | with_reducible refine Go.g_int ?_ | with_reducible refine Go.e_str ?_ | with_reducible refine Go.g_bin ?_ | ((with_reducible refine Go.e_cmp ?hm ?_); (case hm => (first | exact L2.nobehind _ (by decide) (by decide) | rfl | with_unfolding_all rfl))) | ((with_reducible show Go.eS _ (PySem.Expr.Call (PySem.Expr.Name _ _) _ _ _) _ _ _); (first | ((with_reducible refine' Go.e_listRg1 ?k1 ?g1 ?k2 ?g2 ?k3 ?h1 ?h2 ?_); (case k1 => (with_reducible assumption)); (case k2 => (with_reducible assumption)); (case k3 => (with_reducible assumption)); (case g1 => (decide +kernel)); (case g2 => (decide +kernel)); (case h1 => rfl); (case h2 => rfl)) | ((with_reducible refine' Go.e_listEnum ?k1 ?g1 ?k2 ?g2 ?k3 ?h1 ?h2 ?_); (case k1 => (with_reducible assumption)); (case k2 => (with_reducible assumption)); (case k3 => (with_reducible assumption)); (case g1 => (decide +kernel)); (case g2 => (decide +kernel)); (case h1 => rfl); (case h2 => rfl)) | ((with_reducible refine' Go.e_call ?k1 ?k2 ?hk ?hg ?he ?hp ?_); (case k1 => (with_reducible assumption)); (case k2 => (with_reducible assumption)); (case hk => decide); (case hg => (decide +kernel)); (case he => rfl); (case hp => rfl)) | ((with_reducible refine' Go.e_callX ?k1 ?k2 ?k3 ?hk ?hg ?he ?hp ?_); (case k1 => (with_reducible assumption)); (case k2 => (with_reducible assumption)); (case k3 => (with_reducible assumption)); (case hk => decide); (case hg => (decide +kernel)); (case he => rfl); (case hp => rfl)) | ((with_reducible refine' Go.e_callB (x := "len") (id := "len") ?k1 ?hg ?k2 ?hv ?he ?hp ?_); (case k1 => (with_reducible assumption)); (case k2 => (with_reducible assumption)); (case hg => (decide +kernel)); (case hv => (decide +kernel)); (case he => rfl); (case hp => rfl)) | ((with_reducible refine' Go.e_callB (x := "sum") (id := "sum") ?k1 ?hg ?k2 ?hv ?he ?hp ?_); (case k1 => (with_reducible assumption)); (case k2 => (with_reducible assumption)); (case hg => (decide +kernel)); (case hv => (decide +kernel)); (case he => rfl); (case hp => rfl)) | ((with_reducible refine' Go.e_callB (x := "isinstance") (id := "isinstance") ?k1 ?hg ?k2 ?hv ?he ?hp ?_); (case k1 => (with_reducible assumption)); (case k2 => (with_reducible assumption)); (case hg => (decide +kernel)); (case hv => (decide +kernel)); (case he => rfl); (case hp => rfl)) | ((with_reducible refine' Go.e_callB (x := "max") (id := "max") ?k1 ?hg ?k2 ?hv ?he ?hp ?_); (case k1 => (with_reducible assumption)); (case k2 => (with_reducible assumption)); (case hg => (decide +kernel)); (case hv => (decide +kernel)); (case he => rfl); (case hp => rfl)) | ((with_reducible refine' Go.e_callB (x := "min") (id := "min") ?k1 ?hg ?k2 ?hv ?he ?hp ?_); (case k1 => (with_reducible assumption)); (case k2 => (with_reducible assumption)); (case hg => (decide +kernel)); (case hv => (decide +kernel)); (case he => rfl); (case hp => rfl)) | ((with_reducible refine' Go.e_callB (x := "abs") (id := "abs") ?k1 ?hg ?k2 ?hv ?he ?hp ?_); (case k1 => (with_reducible assumption)); (case k2 => (with_reducible assumption)); (case hg => (decide +kernel)); (case hv => (decide +kernel)); (case he => rfl); (case hp => rfl)) | ((with_reducible refine' Go.e_callB (x := "sorted") (id := "sorted") ?k1 ?hg ?k2 ?hv ?he ?hp ?_); (case k1 => (with_reducible assumption)); (case k2 => (with_reducible assumption)); (case hg => (decide +kernel)); (case hv => (decide +kernel)); (case he => rfl); (case hp => rfl)) | ((with_reducible refine' Go.e_callB (x := "repr") (id := "repr") ?k1 ?hg ?k2 ?hv ?he ?hp ?_); (case k1 => (with_reducible assumption)); (case k2 => (with_reducible assumption)); (case hg => (decide +kernel)); (case hv => (decide +kernel)); (case he => rfl); (case hp => rfl)) | ((with_reducible refine' Go.e_callB (x := "all") (id := "all") ?k1 ?hg ?k2 ?hv ?he ?hp ?_); (case k1 => (with_reducible assumption)); (case k2 => (with_reducible assumption)); (case hg => (decide +kernel)); (case hv => (decide +kernel)); (case he => rfl); (case hp => rfl)) | ((with_reducible refine' Go.e_callTy (x := "int") (T := "int") ?k1 ?hg ?k2 ?hv ?he ?hp ?_); (case k1 => (with_reducible assumption)); (case k2 => (with_reducible assumption)); (case hg => (decide +kernel)); (case hv => (decide +kernel)); (case he => rfl); (case hp => rfl)) | ((with_reducible refine' Go.e_callTy (x := "str") (T := "str") ?k1 ?hg ?k2 ?hv ?he ?hp ?_); (case k1 => (with_reducible assumption)); (case k2 => (with_reducible assumption)); (case hg => (decide +kernel)); (case hv => (decide +kernel)); (case he => rfl); (case hp => rfl)) | ((with_reducible refine' Go.e_callTy (x := "list") (T := "list") ?k1 ?hg ?k2 ?hv ?he ?hp ?_); (case k1 => (with_reducible assumption)); (case k2 => (with_reducible assumption)); (case hg => (decide +kernel)); (case hv => (decide +kernel)); (case he => rfl); (case hp => rfl)) | ((with_reducible refine' Go.e_callTy (x := "tuple") (T := "tuple") ?k1 ?hg ?k2 ?hv ?he ?hp ?_); (case k1 => (with_reducible assumption)); (case k2 => (with_reducible assumption)); (case hg => (decide +kernel)); (case hv => (decide +kernel)); (case he => rfl); (case hp => rfl)) | ((with_reducible refine' Go.e_callTy (x := "set") (T := "set") ?k1 ?hg ?k2 ?hv ?he ?hp ?_); (case k1 => (with_reducible assumption)); (case k2 => (with_reducible assumption)); (case hg => (decide +kernel)); (case hv => (decide +kernel)); (case he => rfl); (case hp => rfl)) | ((with_reducible refine' Go.e_make0 ?k1 ?k2 ?hk ?hg ?O ?_); (case k1 => (with_reducible assumption)); (case k2 => (with_reducible assumption)); (case hk => decide); (case hg => (decide +kernel)); (case O => (with_reducible assumption))) | fail)) | ((with_reducible show Go.eS _ (PySem.Expr.Call (PySem.Expr.Attribute _ _ _) _ _ _) _ _ _); (first | ((with_reducible refine' Go.e_get2 ?k1 ⟨?a1, ?a2, ?a3, ?a4⟩ ?_); (case k1 => (with_reducible assumption)); (case a1 => rfl); (case a2 => rfl); (case a3 => rfl); (case a4 => rfl)) | ((with_reducible refine' Go.e_meth (T := "list") (id := "list.append") (name := "append") ?k1 PySem.F.plainAttrs_list PySem.F.slot_list_append PySem.F.type_list_append ?a1 ?a2 ?a3 ?a4 ?a5 ?_); (case k1 => (with_reducible assumption)); (case a1 => rfl); (case a2 => rfl); (case a3 => rfl); (case a4 => rfl); (case a5 => rfl)) | ((with_reducible refine' Go.e_meth (T := "list") (id := "list.pop") (name := "pop") ?k1 PySem.F.plainAttrs_list PySem.F.slot_list_pop PySem.F.type_list_pop ?a1 ?a2 ?a3 ?a4 ?a5 ?_); (case k1 => (with_reducible assumption)); (case a1 => rfl); (case a2 => rfl); (case a3 => rfl); (case a4 => rfl); (case a5 => rfl)) | ((with_reducible refine' Go.e_meth0 (T := "list") (id := "list.pop") (name := "pop") ?k1 PySem.F.plainAttrs_list PySem.F.slot_list_pop PySem.F.type_list_pop ?a1 ?a2 ?_); (case k1 => (with_reducible assumption)); (case a1 => rfl); (case a2 => rfl)) | ((with_reducible refine' Go.e_meth0 (T := "list") (id := "list.reverse") (name := "reverse") ?k1 PySem.F.plainAttrs_list PySem.F.slot_list_reverse PySem.F.type_list_reverse ?a1 ?a2 ?_); (case k1 => (with_reducible assumption)); (case a1 => rfl); (case a2 => rfl)) | ((with_reducible refine Go.e_sm1 (id := "str.count") (name := "count") PySem.F.slot_str_count PySem.F.type_str_count ?a1 ?a2 ?a3 ?_); (case a1 => rfl); (case a2 => rfl); (case a3 => rfl)) | ((with_reducible refine Go.e_sm1 (id := "str.index") (name := "index") PySem.F.slot_str_index PySem.F.type_str_index ?a1 ?a2 ?a3 ?_); (case a1 => rfl); (case a2 => rfl); (case a3 => rfl)) | ((with_reducible refine Go.e_sm1 (id := "str.join") (name := "join") PySem.F.slot_str_join PySem.F.type_str_join ?a1 ?a2 ?a3 ?_); (case a1 => rfl); (case a2 => rfl); (case a3 => rfl)) | ((with_reducible refine' Go.e_mthX ?k1 ?k2 ?k3 ?k4 ?hk ?h1 ?h2 ?h3 ?_); (case k1 => (with_reducible assumption)); (case k2 => (with_reducible assumption)); (case k3 => (with_reducible assumption)); (case k4 => (with_reducible assumption)); (case hk => decide); (case h1 => rfl); (case h2 => rfl); (case h3 => rfl)) | ((with_reducible refine' Go.e_mth ?k1 ?k2 ?k3 ?hk ?h1 ?h2 ?h3 ?_); (case k1 => (with_reducible assumption)); (case k2 => (with_reducible assumption)); (case k3 => (with_reducible assumption)); (case hk => decide); (case h1 => rfl); (case h2 => rfl); (case h3 => rfl)) | ((with_reducible refine' Go.e_mth0 ?k1 ?k2 ?k3 ?hk ?h3 ?_); (case k1 => (with_reducible assumption)); (case k2 => (with_reducible assumption)); (case k3 => (with_reducible assumption)); (case hk => decide); (case h3 => rfl)) | fail)) | ((with_reducible show Go.eS _ (PySem.Expr.Attribute _ _ _) _ _ _); (with_reducible refine' Go.e_fld ?k1 ?hb ?_); (case k1 => (with_reducible assumption)); (case hb => rfl)) | with_reducible refine Go.e_slice ?_ | ((with_reducible refine Go.e_ix ?hn ?hs ?_); (case hn => rfl); (case hs => exact fun _ _ => rfl)) | ((with_reducible refine' Go.e_lc1 ?k1 ?k2 ?k3 ?hs ?_); (case k1 => (with_reducible assumption)); (case k2 => (repeat (first | with_reducible exact Go.Ix.here | with_reducible apply Go.Ix.there))); (case k3 => (decide +kernel)); (case hs => exact fun _ => rfl)) | ((with_reducible refine' Go.e_lc2 ?k1 ?k2 ?k3 ?k4 ?hs ?_); (case k1 => (with_reducible assumption)); (case k2 => (repeat (first | with_reducible exact Go.Ix.here | with_reducible apply Go.Ix.there))); (case k3 => (repeat (first | with_reducible exact Go.Ix.here | with_reducible apply Go.Ix.there))); (case k4 => (decide +kernel)); (case hs => exact fun _ => rfl)) | with_reducible refine Go.g_lst ?_ | with_reducible refine Go.g_tup ?_ | with_reducible refine Go.e_and ?_ | with_reducible refine Go.e_or ?_ | with_reducible refine Go.e_one ?_ | with_reducible refine Go.e_not ?_ | with_reducible refine Go.e_neg ?_ | with_reducible refine Go.e_if ?_ | with_reducible refine Go.g_bool ?_ | with_reducible refine Go.g_none ?_ | ((with_reducible refine Go.e_chain ?hm ?_); (case hm => with_unfolding_all rfl)) | fail)) | ((with_reducible show Go.oS _ _ _ _ _ _); (first | with_reducible refine Go.o_add ?_ | with_reducible refine Go.o_sub ?_ | with_reducible refine Go.o_lt ?_ | with_reducible refine Go.o_eqI ?_ | with_reducible refine Go.o_eqS ?_ | with_reducible refine Go.o_neI ?_ | with_reducible refine Go.o_neS ?_ | with_reducible refine Go.o_gt ?_ | with_reducible refine Go.o_le ?_ | with_reducible refine Go.o_ge ?_ | ((with_reducible refine Go.o_mod ?hk ?_); (case hk => first | decide | omega)) | ((with_reducible refine Go.o_div ?h1 ?h2 ?_); (case h1 => first | decide | omega); (case h2 => first | decide | omega)) | ((with_reducible refine Go.o_rep0 ?hk ?_); (case hk => walk_at "num")) | ((with_reducible refine Go.o_rep1 ?hk ?_); (case hk => walk_at "num")) | ((with_reducible refine Go.o_mulR ?hk ?_); (case hk => first | decide | omega)) | ((with_reducible refine Go.o_mulL ?hk ?_); (case hk => first | decide | omega)) | ((with_reducible refine Go.o_pow ?hk ?_); (case hk => first | decide | omega)) | ((with_reducible refine Go.o_addSl ?h0 ?hl ?_); (case h0 => decide +kernel); (case hl => walk_at "num")) | ((with_reducible refine Go.o_addSr ?h0 ?hl ?_); (case h0 => decide +kernel); (case hl => walk_at "num")) | ((with_reducible refine Go.o_iaddSl ?h0 ?hl ?_); (case h0 => decide +kernel); (case hl => walk_at "num")) | ((with_reducible refine Go.o_addS ?hl ?_); (case hl => walk_at "num")) | ((with_reducible refine Go.o_iaddS ?hl ?_); (case hl => walk_at "num")) | with_reducible refine Go.o_iadd ?_ | with_reducible refine Go.o_isub ?_ | with_reducible refine Go.o_eqB ?_ | with_reducible refine Go.o_neB ?_ | with_reducible refine Go.o_ltS ?_ | with_reducible refine Go.o_leS ?_ | with_reducible refine Go.o_gtS ?_ | with_reducible refine Go.o_isN ?_ | with_reducible refine Go.o_notN ?_ | with_reducible refine Go.o_isB ?_ | with_reducible refine Go.o_notB ?_ | with_reducible refine Go.o_in1 ?_ | ((with_reducible refine' Go.o_inT ?k1 ?k2 ?k3 ?_); (case k1 => (with_reducible assumption)); (case k2 => walk_at "hp"); (case k3 => walk_at "hp")) | ((with_reducible refine' Go.o_notInT ?k1 ?k2 ?k3 ?_); (case k1 => (with_reducible assumption)); (case k2 => walk_at "hp"); (case k3 => walk_at "hp")) | with_reducible refine Go.o_notIn1 ?_ | fail)) | ((with_reducible show Go.bS _ _ _ _ _); (first | ((with_reducible refine' Go.n_put ?k1 ?_); (case k1 => (repeat (first | with_reducible exact Go.Put.here | with_reducible apply Go.Put.there)))) | with_reducible refine Go.g_st ?_ | with_reducible refine Go.g_nx ?_ | fail)) | ((with_reducible show Go.sS _ _ _ _ _); (first | ((with_reducible refine' Go.s_setLc1 ?k1 ?k2 ?hl ?hs ?ha ?k3 ?k4 ?hf ?_); (case k1 => (with_reducible assumption)); (case k2 => (repeat (first | with_reducible exact Go.Ix.here | with_reducible apply Go.Ix.there))); (case hl => rfl); (case hs => rfl); (case ha => (decide +kernel)); (case k3 => (repeat (first | with_reducible exact Go.Ix.here | with_reducible apply Go.Ix.there))); (case k4 => (decide +kernel)); (case hf => exact fun _ => rfl)) | ((with_reducible refine' Go.s_setLc2 ?k1 ?k2 ?hl ?hs ?ha ?k3 ?k5 ?k4 ?hf ?_); (case k1 => (with_reducible assumption)); (case k2 => (repeat (first | with_reducible exact Go.Ix.here | with_reducible apply Go.Ix.there))); (case hl => rfl); (case hs => rfl); (case ha => (decide +kernel)); (case k3 => (repeat (first | with_reducible exact Go.Ix.here | with_reducible apply Go.Ix.there))); (case k5 => (repeat (first | with_reducible exact Go.Ix.here | with_reducible apply Go.Ix.there))); (case k4 => (decide +kernel)); (case hf => exact fun _ => rfl)) | ((with_reducible refine' Go.s_setC ?k1 ?k2 ?hl ?_); (case k1 => (with_reducible assumption)); (case k2 => (repeat (first | with_reducible exact Go.Ix.here | with_reducible apply Go.Ix.there))); (case hl => rfl)) | ((with_reducible refine' Go.s_set ?k1 ?hs ?k2 ?hl ?_); (case k1 => (with_reducible assumption)); (case k2 => (repeat (first | with_reducible exact Go.Ix.here | with_reducible apply Go.Ix.there))); (case hs => rfl); (case hl => (decide +kernel))) | with_reducible refine Go.g_ret ?_ | with_reducible refine Go.g_if ?_ | ((with_reducible refine' Go.s_aug ?k1 ?k2 ?hl ?k3 ?_); (case k1 => (with_reducible assumption)); (case k2 => (repeat (first | with_reducible exact Go.Ix.here | with_reducible apply Go.Ix.there))); (case k3 => (repeat (first | with_reducible exact Go.Get.here | with_reducible apply Go.Get.there))); (case hl => (decide +kernel))) | with_reducible refine Go.s_doc ?_ | ((with_reducible refine Go.s_expr ?hs ?_); (case hs => rfl)) | ((with_reducible refine' Go.s_raise ?k1 ?k2 ?k3 ?hg ?_); (case k1 => (with_reducible assumption)); (case k2 => (with_reducible assumption)); (case k3 => (with_reducible assumption)); (case hg => (decide +kernel))) | with_reducible refine Go.s_break ?_ | with_reducible refine Go.s_pass ?_ | with_reducible refine Go.s_retN ?_ | ((with_reducible refine' Go.s_fld ?k1 ?hs ?_); (case k1 => (with_reducible assumption)); (case hs => rfl)) | ((with_reducible refine' Go.s_augL ?k1 ?hs ?_); (case k1 => (with_reducible assumption)); (case hs => exact fun _ _ _ => rfl)) | ((with_reducible refine Go.g_asgF ?h1 ?h2 ?h3 ?_); (case h1 => rfl); (case h2 => rfl); (case h3 => (decide +kernel))) | ((with_reducible refine Go.g_asg ?h1 ?h2 ?h3 ?_); (case h1 => rfl); (case h2 => rfl); (case h3 => rfl)) | fail)) | ((with_reducible show Go.qS _ _ _ _ _); (first | ((with_reducible refine Go.q_cmp ?hm ?_); (case hm => (first | exact L2.nobehind _ (by decide) (by decide) | rfl | with_unfolding_all rfl))) | with_reducible refine Go.q_not ?_ | with_reducible refine Go.q_w (Go.w_and ?_) | with_reducible refine Go.q_w (Go.w_or ?_) | ((with_reducible refine Go.q_chain ?hm ?_); (case hm => with_unfolding_all rfl)) | ((with_reducible refine Go.q_val ?hs ?_); (case hs => exact fun _ => rfl)) | fail)) | ((with_reducible show Go.wS _ _ _ _ _); (first | with_reducible refine Go.w_and1 ?_ | with_reducible refine Go.w_or1 ?_ | with_reducible refine Go.w_and ?_ | with_reducible refine Go.w_or ?_ | fail)) | ((with_reducible show Go.aS _ _ _ _ _); first | with_reducible refine Go.g_nil ?_ | ((with_reducible refine Go.g_cons ?he ?_); (case he => rfl))) | ((with_reducible show Go.xS _ _ _ _ _); (first | ((refine' Go.x_lst ?k1 ?k2 ?k3 ?_); (case k1 => (with_reducible assumption)); (case k2 => walk_at "sql"); (case k3 => rfl)) | ((refine' Go.x_tup ?k1 ?k2 ?k3 ?_); (case k1 => (with_reducible assumption)); (case k2 => walk_at "sqt"); (case k3 => rfl)) | fail)) | ((with_reducible show Go.cS _ _ _ _ _); (first | ((with_reducible refine Go.c_lenS ?hl ?_); (case hl => walk_at "num")) | ((refine' Go.c_lenL ?k1 ?k2 ?_); (case k1 => (with_reducible assumption)); (case k2 => walk_at "sql")) | ((refine' Go.c_lenT ?k1 ?k2 ?_); (case k1 => (with_reducible assumption)); (case k2 => walk_at "sqt")) | ((with_reducible refine' Go.c_isS ?k1 ?_); (case k1 => (with_reducible assumption))) | ((with_reducible refine' Go.c_isB ?k1 ?_); (case k1 => (with_reducible assumption))) | ((with_reducible refine' Go.c_isI ?k1 ?_); (case k1 => (with_reducible assumption))) | ((with_reducible refine' Go.c_isIB ?k1 ?_); (case k1 => (with_reducible assumption))) | ((with_reducible refine' Go.c_isE ?k1 ?k2 ?k3 ?k4 ?k5 ?_); (case k1 => (with_reducible assumption)); (case k2 => walk_at "hp"); (case k3 => (with_reducible assumption)); (case k4 => first | exact L2.ClsV.ty _ | exact L2.ClsV.own _); (case k5 => (with_reducible assumption))) | with_reducible refine Go.c_intI ?_ | with_reducible refine Go.c_int0 ?_ | with_reducible refine Go.c_int1 ?_ | with_reducible refine Go.c_str0 ?_ | with_reducible refine Go.c_str1 ?_ | ((refine' Go.c_sum ?k1 ?k2 ?_); (case k1 => (with_reducible assumption)); (case k2 => walk_at "sql")) | with_reducible refine Go.c_intB ?_ | ((with_reducible refine' Go.c_max2 ?k1 ?_); (case k1 => (with_reducible assumption))) | ((with_reducible refine' Go.c_min2 ?k1 ?_); (case k1 => (with_reducible assumption))) | fail)) | ((with_reducible show Go.poS _ _ _ _ _); first | with_reducible refine Go.po_no ?_ | with_reducible refine Go.po_so ?_) | ((with_reducible show Go.gS _ _ _ _ _ _); (first | ((with_reducible refine' Go.g_tgt ?k1 ?k2 ?hl ?_); (case k1 => (with_reducible assumption)); (case k2 => (repeat (first | with_reducible exact Go.Ix.here | with_reducible apply Go.Ix.there))); (case hl => (decide +kernel))) | ((with_reducible refine Go.g_sub ?hs ?_); (case hs => exact fun _ => rfl)) | ((refine' Go.g_tgts ?k1 ?h1 ?h2 ?k2 ?_); (case k1 => (with_reducible assumption)); (case k2 => walk_at "sqt"); (case h1 => rfl); (case h2 => rfl)) | ((refine' Go.g_tgtsL ?k1 ?h1 ?h2 ?k2 ?_); (case k1 => (with_reducible assumption)); (case k2 => walk_at "sql"); (case h1 => rfl); (case h2 => rfl)) | fail)) | ((with_reducible show Go.gsS _ _ _ _ _ _); (first | ((with_reducible refine' Go.gs_put ?k1 ?_); (case k1 => (repeat (first | with_reducible exact Go.Put.here | with_reducible apply Go.Put.there)))) | with_reducible refine Go.gs_nil ?_ | ((with_reducible refine Go.gs_cons ?hs ?_); (case hs => rfl)) | fail)) | ((with_reducible show Go.lS _ _ _ _ _ _); first | ((with_reducible refine Go.l_to ?h0 ?hz ?_); (case h0 => omega); (case hz => walk_at "num")) | ((with_reducible refine Go.l_from ?h0 ?hz ?_); (case h0 => omega); (case hz => walk_at "num")) | ((with_reducible refine Go.l_mid ?h0 ?h1 ?hz ?_); (case h0 => omega); (case h1 => omega); (case hz => walk_at "num"))) | ((with_reducible show Go.pS _ _ _ _ _ _); (first | ((refine' Go.p_cell0 ?k1 (fun _ _ => ?_)); (case k1 => (with_reducible assumption))) | ((refine' Go.p_cell1 ?k2 (fun _ _ => ?_)); (case k2 => (with_reducible assumption))) | ((refine' Go.p_cell02 ?k2 (fun _ _ => ?_)); (case k2 => (with_reducible assumption))) | ((refine' Go.p_cell12 ?k2 (fun _ _ => ?_)); (case k2 => (with_reducible assumption))) | ((refine' Go.p_dK ?k1 ?k2 ?k4 (fun _ _ => ?_)); (case k1 => (with_reducible assumption)); (case k2 => (with_reducible assumption)); (case k4 => walk_at "num")) | ((refine' Go.p_dT ?k1 ?k2 ?k3 ?k4 (fun _ _ => ?_)); (case k1 => (with_reducible assumption)); (case k2 => (with_reducible assumption)); (case k3 => walk_at "hp"); (case k4 => walk_at "num")))) | ((with_reducible show Go.uS _ _ _ _ _); with_reducible refine Go.u_neg ?_) | ((with_reducible show Go.getS _ _ _ _ _); (with_reducible refine' Go.get_K ?k1 ?_); (case k1 => walk_at "hp")) | ((with_reducible show Go.iS _ _ _ _ _ _); ((with_reducible refine' Go.i_range1 ?k1 ?hg ?k2 ?hs ?_); (case k1 => (with_reducible assumption)); (case k2 => (with_reducible assumption)); (case hg => (decide +kernel)); (case hs => rfl))) | ((with_reducible show Go.iS _ _ (PySem.Expr.Call _ [PySem.Expr.Name _ _] _ _) _ _ _); ((with_reducible refine' Go.i_enumS ?k1 ?hg ?k2 ?hs ?_); (case k1 => (with_reducible assumption)); (case k2 => (with_reducible assumption)); (case hg => (decide +kernel)); (case hs => rfl))) | ((with_reducible show Go.iS _ _ _ _ _ _); ((with_reducible refine' Go.i_range2 ?k1 ?hg ?k2 ?hs ?hs2 ?_); (case k1 => (with_reducible assumption)); (case k2 => (with_reducible assumption)); (case hg => (decide +kernel)); (case hs => rfl); (case hs2 => rfl))) | ((with_reducible show Go.iS _ _ _ _ _ _); ((with_reducible refine' Go.i_down ?k1 ?hg ?k2 ?hs ?h1 ?h2 ?h3 ?_); (case k1 => (with_reducible assumption)); (case k2 => (with_reducible assumption)); (case hg => (decide +kernel)); (case hs => rfl); (case h1 => rfl); (case h2 => rfl); (case h3 => rfl))) | (first | with_reducible refine Go.k_b ?_ | ((with_reducible refine' Go.k_isK ?k1 ?_); (case k1 => walk_at "hp")) | ((with_reducible refine' Go.k_isT ?k1 ?_); (case k1 => walk_at "hp")) | ((with_reducible refine' Go.k_ty ?k1 ?_); (case k1 => walk_at "sql")) | ((with_reducible refine' Go.k_fld ?h1 ?h2 ?h3 ?h4 ?_); (case h1 => walk_at "hp"); (case h2 => (with_reducible assumption)); (case h3 => (with_reducible assumption)); (case h4 => (((repeat (first | with_reducible exact Go.Fld.here | ((with_reducible refine' Go.Fld.there ?_ ?n); (case n => decide +kernel); (first | with_reducible show Go.Fld _ _ _ | (rotate_left; with_reducible show Go.Fld _ _ _) | (rotate_left; rotate_left; with_reducible show Go.Fld _ _ _))) | fail)); done)))) | ((with_reducible refine' Go.k_fput ?O ?h2 ?h3 ?h5 ?h4 (fun H' O' => ?_)); (case O => walk_at "own"); (case h2 => (with_reducible assumption)); (case h3 => (with_reducible assumption)); (case h5 => exact of_decide_eq_true rfl); (case h4 => (((repeat (first | with_reducible exact Go.FPut.new | with_reducible exact Go.FPut.here | ((with_reducible refine' Go.FPut.there ?_ ?n); (case n => decide +kernel); (first | with_reducible show Go.FPut _ _ _ _ | (rotate_left; with_reducible show Go.FPut _ _ _ _) | (rotate_left; rotate_left; with_reducible show Go.FPut _ _ _ _))) | fail)); done)))) | ((with_reducible refine' Go.k_mth ?h1 ?h4 ?_); (case h1 => walk_at "hp"); (case h4 => (((repeat (first | with_reducible exact Go.NoFld.nil | ((with_reducible refine' Go.NoFld.cons ?n ?_); (case n => decide +kernel)) | fail)); done)))) | ((with_reducible refine Go.k_r2 ?h1 ?_); (case h1 => walk_at "num")) | ((with_reducible refine Go.k_r3 ?h1 ?_); (case h1 => walk_at "num")) | ((with_reducible refine Go.k_r ?h1 ?h2 ?_); (case h1 => walk_at "num"); (case h2 => walk_at "num")) | with_reducible refine Go.k_i ?_ | with_reducible refine Go.k_s ?_ | with_reducible refine Go.i_not ?_ | with_reducible refine L2.iteT ?_ | with_reducible refine L2.iteF ?_ | ((refine' And.intro ?k1 ?_); (case k1 => (exact Go.sz_le (by simp only [List.length_cons, List.length_nil]; decide)))) | fail) | fail)
local macro_rules | `(tactic| walk_at "go") => `(tactic| repeat walk_at "st")
local macro_rules | `(tactic| walk_at "in") => `(tactic| (dsimp only [Go.startL]; refine Go.g_st ?_; walk_at "go"))
local macro_rules | `(tactic| walk_at "ar") => `(tactic| first | (with_reducible assumption) | omega | (((repeat (first | (with_reducible assumption) | (refine' Go.gp_up ?s ?_; (case s => (with_reducible assumption)); (first | with_reducible show (_ : Option L2.HO) = _ | (rotate_left; with_reducible show (_ : Option L2.HO) = _) | (rotate_left; rotate_left; with_reducible show (_ : Option L2.HO) = _))) | fail)); done)) | (simp only [List.length_append, List.length_cons, List.length_nil, List.length_reverse, List.length_map, List.length_replicate, List.length_take, List.length_drop]; omega) | walk_at "sql" | walk_at "sqt" | walk_at "hp" | walk_at "num" | decide | fail)
local macro_rules | `(tactic| walk_at "ow") => `(tactic| first | (with_reducible assumption) | (((with_reducible refine' Go.Own.pl ?O ?h); (case O => (with_reducible assumption)); (case h => (((repeat (first | with_reducible exact Go.Pl.refl | ((with_reducible refine' Go.Pl.cons ?p ?_); (case p => (((repeat (first | with_reducible exact Go.Pull.here | with_reducible apply Go.Pull.there | fail)); done))); (first | with_reducible show Go.Pl _ _ | (rotate_left; with_reducible show Go.Pl _ _) | (rotate_left; rotate_left; with_reducible show Go.Pl _ _))) | fail)); done))))) | (simp only [List.map_append, List.map_cons, List.map_nil, List.append_nil, List.append_assoc, List.cons_append, List.nil_append]; (with_reducible assumption)) | (simp only [List.map_append, List.map_cons, List.map_nil, List.append_nil, List.append_assoc, List.cons_append, List.nil_append] at *; (with_reducible assumption)) | assumption | fail)
local macro_rules | `(tactic| walk_at "nat") => `(tactic| first | with_reducible exact Go.nat_id _ | with_reducible exact Go.nat_0 | with_reducible exact Go.nat_1 | with_reducible exact Go.nat_2 | ((with_reducible refine' Go.nat_add ?a ?b); (case a => walk_at "nat"); (case b => walk_at "nat")) | ((with_reducible refine' Go.nat_sub ?a ?b ?h); (case a => walk_at "nat"); (case b => walk_at "nat"); (case h => omega)) | ((with_reducible refine' Go.nat_any ?h); (case h => omega)) | fail)
local macro_rules | `(tactic| walk_at "dp") => `(tactic| first | exact L2.Dp.non | exact L2.Dp.bl _ | exact L2.Dp.int _ | exact L2.Dp.str _ | ((refine' L2.Dp.lst ?h ?k); (case h => walk_at "sql"); (case k => walk_at "da")) | ((refine' L2.Dp.tup ?h ?k); (case h => walk_at "sqt"); (case k => walk_at "da")) | (with_reducible assumption) | fail)
local macro_rules | `(tactic| walk_at "da") => `(tactic| first | exact L2.DpAll.nil | ((refine' L2.DpAll.cons ?h ?k); (case h => walk_at "dp"); (case k => walk_at "da")) | (with_reducible assumption) | fail)
local macro_rules | `(tactic| walk_at "sh") => `(tactic| first | exact Go.shal_non | exact Go.shal_bl | exact Go.shal_int | exact Go.shal_str | ((refine' Go.shal_list ?h); (case h => walk_at "sl")) | ((refine' Go.shal_tup ?h); (case h => walk_at "sl")) | (with_reducible assumption) | fail)
local macro_rules | `(tactic| walk_at "sl") => `(tactic| first | exact Go.all_nil | ((refine' Go.all_cons ?h ?k); (case h => walk_at "sh"); (case k => walk_at "sl")) | (with_reducible assumption) | fail)
local macro_rules | `(tactic| walk_at "au") => `(tactic| repeat (first | (first | ((with_reducible show Go.xS _ (L2.V.str _) _ _ _); (with_reducible refine' Go.x_strN ?hi ?hn ?hz ?_); (case hi => walk_at "nat"); (case hn => walk_at "num"); (case hz => walk_at "num")) | with_reducible refine Go.o_eqS1 ?_ | with_reducible refine Go.o_neS1 ?_ | ((with_reducible show Go.cS _ (PySem.Value.builtin "isinstance") _ _ _); (with_reducible refine' Go.c_isiT (b := true) ?c ?t ?e ?_); (case c => (with_reducible assumption)); (case t => (first | exact L2.TyOf.non | exact L2.TyOf.str _ | exact L2.TyOf.int _ | exact L2.TyOf.bl _ | ((refine' L2.TyOf.lst ?h); (case h => walk_at "hp")) | ((refine' L2.TyOf.tup ?h); (case h => walk_at "hp")) | ((refine' L2.TyOf.dK ?h); (case h => walk_at "hp")) | ((refine' L2.TyOf.dT ?h); (case h => walk_at "hp")) | fail)); (case e => rfl)) | ((with_reducible show Go.cS _ (PySem.Value.builtin "isinstance") _ _ _); (with_reducible refine' Go.c_isiT (b := false) ?c ?t ?e ?_); (case c => (with_reducible assumption)); (case t => (first | exact L2.TyOf.non | exact L2.TyOf.str _ | exact L2.TyOf.int _ | exact L2.TyOf.bl _ | ((refine' L2.TyOf.lst ?h); (case h => walk_at "hp")) | ((refine' L2.TyOf.tup ?h); (case h => walk_at "hp")) | ((refine' L2.TyOf.dK ?h); (case h => walk_at "hp")) | ((refine' L2.TyOf.dT ?h); (case h => walk_at "hp")) | fail)); (case e => rfl)) | ((with_reducible refine' Go.x_lstR ?c ?hr ?hi ?hp ?_); (case c => (with_reducible assumption)); (case hr => walk_at "sql"); (case hi => walk_at "nat"); (case hp => (with_reducible assumption))) | ((with_reducible refine' Go.o_inI ?c ?hp ?_); (case c => (with_reducible assumption)); (case hp => walk_at "sql")) | ((with_reducible refine' Go.o_notInI ?c ?hp ?_); (case c => (with_reducible assumption)); (case hp => walk_at "sql")) | ((with_reducible refine' Go.x_dK ?c ?hp ?hv ?_); (case c => (with_reducible assumption)); (case hv => (with_reducible assumption)); (case hp => walk_at "hp")) | ((with_reducible refine' Go.x_dT ?c ?hp ?hb ?hv ?_); (case c => (with_reducible assumption)); (case hv => (with_reducible assumption)); (case hp => walk_at "hp"); (case hb => walk_at "hp")) | ((with_reducible refine' Go.m_indexA ?h1 ?_); (case h1 => first | (with_reducible assumption) | omega)) | with_reducible refine Go.m_count0 ?_ | with_reducible refine Go.m_countI ?_ | with_reducible refine Go.m_count1 ?_ | ((with_reducible refine' Go.m_appendC ?O ?hl (fun H' O' => ?_)); (case O => (with_reducible assumption)); (case hl => walk_at "num")) | (first | ((with_reducible refine' Go.e_andJ ?O ?h1 (fun H' G' s' O' => ?_)); (case O => (with_reducible assumption)); (case h1 => (intro hq; (try replace hq := of_decide_eq_true hq); walk_at "au"))) | ((with_reducible refine' Go.e_orJ ?O ?h1 ?eT (fun H' G' s' O' => ?_)); (case O => (with_reducible assumption)); (case eT => rfl); (case h1 => (intro hq; (try replace hq := of_decide_eq_false hq); walk_at "au"))) | ((with_reducible refine' Go.w_andJ ?O ?h1 (fun H' G' s' O' => ?_)); (case O => (with_reducible assumption)); (case h1 => (intro hq; (try replace hq := of_decide_eq_true hq); walk_at "au"))) | ((with_reducible refine' Go.w_orJ ?O ?h1 ?eT (fun H' G' s' O' => ?_)); (case O => (with_reducible assumption)); (case eT => rfl); (case h1 => (intro hq; (try replace hq := of_decide_eq_false hq); walk_at "au"))) | fail) | (first | ((with_reducible show ∀ (p : _) (H' : _), Go.New _ p (L2.HO.tup _) H' → _); intro p H' n'; obtain ⟨G', s', e', O'⟩ := Go.Own.fix (by (with_reducible assumption)) n') | ((with_reducible show ∀ (p : _) (H' : _), Go.New _ p (L2.HO.lst _) H' → _); intro p H' n'; (with_reducible show Go.eS _ _ _ _ (fun y H => Go.xS _ _ y H _)); obtain ⟨G', s', e', O'⟩ := Go.Own.fix (by (with_reducible assumption)) n') | fail) | (((refine' ⟨rfl, _, ?o, ?s⟩); (case o => (with_reducible assumption)); (case s => walk_at "sm"))) | ((with_reducible refine' Go.i_true ?h ?_); (case h => first | with_reducible rfl | omega)) | ((with_reducible refine' Go.i_false ?h ?_); (case h => first | omega | (intro hf; cases hf; done))) | fail) | walk_at "st"))
local macro_rules | `(tactic| walk_at "ax") => `(tactic| repeat (first | (first | ((with_reducible refine' Go.i_trueD ?h ?_); (case h => (with_reducible assumption))) | ((with_reducible refine' Go.i_falseD ?h ?_); (case h => (with_reducible assumption))) | ((with_reducible refine' Go.i_trueD ?h ?_); (case h => first | with_reducible rfl | omega)) | ((with_reducible refine' Go.i_falseD ?h ?_); (case h => first | omega | (intro hf; cases hf; done))) | fail) | (first | ((with_reducible show Go.xS _ (L2.V.str _) _ _ _); (with_reducible refine' Go.x_strN ?hi ?hn ?hz ?_); (case hi => walk_at "nat"); (case hn => walk_at "num"); (case hz => walk_at "num")) | with_reducible refine Go.o_eqS1 ?_ | with_reducible refine Go.o_neS1 ?_ | ((with_reducible show Go.cS _ (PySem.Value.builtin "isinstance") _ _ _); (with_reducible refine' Go.c_isiT (b := true) ?c ?t ?e ?_); (case c => (with_reducible assumption)); (case t => (first | exact L2.TyOf.non | exact L2.TyOf.str _ | exact L2.TyOf.int _ | exact L2.TyOf.bl _ | ((refine' L2.TyOf.lst ?h); (case h => walk_at "hp")) | ((refine' L2.TyOf.tup ?h); (case h => walk_at "hp")) | ((refine' L2.TyOf.dK ?h); (case h => walk_at "hp")) | ((refine' L2.TyOf.dT ?h); (case h => walk_at "hp")) | fail)); (case e => rfl)) | ((with_reducible show Go.cS _ (PySem.Value.builtin "isinstance") _ _ _); (with_reducible refine' Go.c_isiT (b := false) ?c ?t ?e ?_); (case c => (with_reducible assumption)); (case t => (first | exact L2.TyOf.non | exact L2.TyOf.str _ | exact L2.TyOf.int _ | exact L2.TyOf.bl _ | ((refine' L2.TyOf.lst ?h); (case h => walk_at "hp")) | ((refine' L2.TyOf.tup ?h); (case h => walk_at "hp")) | ((refine' L2.TyOf.dK ?h); (case h => walk_at "hp")) | ((refine' L2.TyOf.dT ?h); (case h => walk_at "hp")) | fail)); (case e => rfl)) | ((with_reducible refine' Go.x_lstR ?c ?hr ?hi ?hp ?_); (case c => (with_reducible assumption)); (case hr => walk_at "sql"); (case hi => walk_at "nat"); (case hp => (with_reducible assumption))) | ((with_reducible refine' Go.o_inI ?c ?hp ?_); (case c => (with_reducible assumption)); (case hp => walk_at "sql")) | ((with_reducible refine' Go.o_notInI ?c ?hp ?_); (case c => (with_reducible assumption)); (case hp => walk_at "sql")) | ((with_reducible refine' Go.x_dK ?c ?hp ?hv ?_); (case c => (with_reducible assumption)); (case hv => (with_reducible assumption)); (case hp => walk_at "hp")) | ((with_reducible refine' Go.x_dT ?c ?hp ?hb ?hv ?_); (case c => (with_reducible assumption)); (case hv => (with_reducible assumption)); (case hp => walk_at "hp"); (case hb => walk_at "hp")) | ((with_reducible refine' Go.m_indexA ?h1 ?_); (case h1 => first | (with_reducible assumption) | omega)) | with_reducible refine Go.m_count0 ?_ | with_reducible refine Go.m_countI ?_ | with_reducible refine Go.m_count1 ?_ | ((with_reducible refine' Go.m_appendC ?O ?hl (fun H' O' => ?_)); (case O => (with_reducible assumption)); (case hl => walk_at "num")) | (first | ((with_reducible refine' Go.e_andJ ?O ?h1 (fun H' G' s' O' => ?_)); (case O => (with_reducible assumption)); (case h1 => (intro hq; (try replace hq := of_decide_eq_true hq); walk_at "au"))) | ((with_reducible refine' Go.e_orJ ?O ?h1 ?eT (fun H' G' s' O' => ?_)); (case O => (with_reducible assumption)); (case eT => rfl); (case h1 => (intro hq; (try replace hq := of_decide_eq_false hq); walk_at "au"))) | ((with_reducible refine' Go.w_andJ ?O ?h1 (fun H' G' s' O' => ?_)); (case O => (with_reducible assumption)); (case h1 => (intro hq; (try replace hq := of_decide_eq_true hq); walk_at "au"))) | ((with_reducible refine' Go.w_orJ ?O ?h1 ?eT (fun H' G' s' O' => ?_)); (case O => (with_reducible assumption)); (case eT => rfl); (case h1 => (intro hq; (try replace hq := of_decide_eq_false hq); walk_at "au"))) | fail) | (first | ((with_reducible show ∀ (p : _) (H' : _), Go.New _ p (L2.HO.tup _) H' → _); intro p H' n'; obtain ⟨G', s', e', O'⟩ := Go.Own.fix (by (with_reducible assumption)) n') | ((with_reducible show ∀ (p : _) (H' : _), Go.New _ p (L2.HO.lst _) H' → _); intro p H' n'; (with_reducible show Go.eS _ _ _ _ (fun y H => Go.xS _ _ y H _)); obtain ⟨G', s', e', O'⟩ := Go.Own.fix (by (with_reducible assumption)) n') | fail) | (((refine' ⟨rfl, _, ?o, ?s⟩); (case o => (with_reducible assumption)); (case s => walk_at "sm"))) | ((with_reducible refine' Go.i_true ?h ?_); (case h => first | with_reducible rfl | omega)) | ((with_reducible refine' Go.i_false ?h ?_); (case h => first | omega | (intro hf; cases hf; done))) | fail) | walk_at "st"))
local macro_rules | `(tactic| walk_at "ay") => `(tactic| repeat (first | (first | ((with_reducible refine' Go.m_appendC ?O ?hl (fun H' O' => ?_)); (case O => walk_at "own"); (case hl => walk_at "num")) | fail) | (first | ((with_reducible refine' Go.i_trueD ?h ?_); (case h => (with_reducible assumption))) | ((with_reducible refine' Go.i_falseD ?h ?_); (case h => (with_reducible assumption))) | ((with_reducible refine' Go.i_trueD ?h ?_); (case h => first | with_reducible rfl | omega)) | ((with_reducible refine' Go.i_falseD ?h ?_); (case h => first | omega | (intro hf; cases hf; done))) | fail) | (first | ((with_reducible show Go.xS _ (L2.V.str _) _ _ _); (with_reducible refine' Go.x_strN ?hi ?hn ?hz ?_); (case hi => walk_at "nat"); (case hn => walk_at "num"); (case hz => walk_at "num")) | with_reducible refine Go.o_eqS1 ?_ | with_reducible refine Go.o_neS1 ?_ | ((with_reducible show Go.cS _ (PySem.Value.builtin "isinstance") _ _ _); (with_reducible refine' Go.c_isiT (b := true) ?c ?t ?e ?_); (case c => (with_reducible assumption)); (case t => (first | exact L2.TyOf.non | exact L2.TyOf.str _ | exact L2.TyOf.int _ | exact L2.TyOf.bl _ | ((refine' L2.TyOf.lst ?h); (case h => walk_at "hp")) | ((refine' L2.TyOf.tup ?h); (case h => walk_at "hp")) | ((refine' L2.TyOf.dK ?h); (case h => walk_at "hp")) | ((refine' L2.TyOf.dT ?h); (case h => walk_at "hp")) | fail)); (case e => rfl)) | ((with_reducible show Go.cS _ (PySem.Value.builtin "isinstance") _ _ _); (with_reducible refine' Go.c_isiT (b := false) ?c ?t ?e ?_); (case c => (with_reducible assumption)); (case t => (first | exact L2.TyOf.non | exact L2.TyOf.str _ | exact L2.TyOf.int _ | exact L2.TyOf.bl _ | ((refine' L2.TyOf.lst ?h); (case h => walk_at "hp")) | ((refine' L2.TyOf.tup ?h); (case h => walk_at "hp")) | ((refine' L2.TyOf.dK ?h); (case h => walk_at "hp")) | ((refine' L2.TyOf.dT ?h); (case h => walk_at "hp")) | fail)); (case e => rfl)) | ((with_reducible refine' Go.x_lstR ?c ?hr ?hi ?hp ?_); (case c => (with_reducible assumption)); (case hr => walk_at "sql"); (case hi => walk_at "nat"); (case hp => (with_reducible assumption))) | ((with_reducible refine' Go.o_inI ?c ?hp ?_); (case c => (with_reducible assumption)); (case hp => walk_at "sql")) | ((with_reducible refine' Go.o_notInI ?c ?hp ?_); (case c => (with_reducible assumption)); (case hp => walk_at "sql")) | ((with_reducible refine' Go.x_dK ?c ?hp ?hv ?_); (case c => (with_reducible assumption)); (case hv => (with_reducible assumption)); (case hp => walk_at "hp")) | ((with_reducible refine' Go.x_dT ?c ?hp ?hb ?hv ?_); (case c => (with_reducible assumption)); (case hv => (with_reducible assumption)); (case hp => walk_at "hp"); (case hb => walk_at "hp")) | ((with_reducible refine' Go.m_indexA ?h1 ?_); (case h1 => first | (with_reducible assumption) | omega)) | with_reducible refine Go.m_count0 ?_ | with_reducible refine Go.m_countI ?_ | with_reducible refine Go.m_count1 ?_ | ((with_reducible refine' Go.m_appendC ?O ?hl (fun H' O' => ?_)); (case O => (with_reducible assumption)); (case hl => walk_at "num")) | (first | ((with_reducible refine' Go.e_andJ ?O ?h1 (fun H' G' s' O' => ?_)); (case O => (with_reducible assumption)); (case h1 => (intro hq; (try replace hq := of_decide_eq_true hq); walk_at "au"))) | ((with_reducible refine' Go.e_orJ ?O ?h1 ?eT (fun H' G' s' O' => ?_)); (case O => (with_reducible assumption)); (case eT => rfl); (case h1 => (intro hq; (try replace hq := of_decide_eq_false hq); walk_at "au"))) | ((with_reducible refine' Go.w_andJ ?O ?h1 (fun H' G' s' O' => ?_)); (case O => (with_reducible assumption)); (case h1 => (intro hq; (try replace hq := of_decide_eq_true hq); walk_at "au"))) | ((with_reducible refine' Go.w_orJ ?O ?h1 ?eT (fun H' G' s' O' => ?_)); (case O => (with_reducible assumption)); (case eT => rfl); (case h1 => (intro hq; (try replace hq := of_decide_eq_false hq); walk_at "au"))) | fail) | (first | ((with_reducible show ∀ (p : _) (H' : _), Go.New _ p (L2.HO.tup _) H' → _); intro p H' n'; obtain ⟨G', s', e', O'⟩ := Go.Own.fix (by (with_reducible assumption)) n') | ((with_reducible show ∀ (p : _) (H' : _), Go.New _ p (L2.HO.lst _) H' → _); intro p H' n'; (with_reducible show Go.eS _ _ _ _ (fun y H => Go.xS _ _ y H _)); obtain ⟨G', s', e', O'⟩ := Go.Own.fix (by (with_reducible assumption)) n') | fail) | (((refine' ⟨rfl, _, ?o, ?s⟩); (case o => (with_reducible assumption)); (case s => walk_at "sm"))) | ((with_reducible refine' Go.i_true ?h ?_); (case h => first | with_reducible rfl | omega)) | ((with_reducible refine' Go.i_false ?h ?_); (case h => first | omega | (intro hf; cases hf; done))) | fail) | walk_at "st"))

/-! the defs of the text, by their places -/
namespace Law
open PySem PySem.Spec PyProof.Rows L2 Go
def top (i : Nat) : Stmt := PySem.Challenge.pw_wovenword_k02_what_is_a_way.main.body.getD i (.Pass ⟨0, 0, 0, 0⟩)
abbrev st_is_way : Stmt := top 1
def nm_is_way : List (Str × NameKind) := [("one", .local), ("other", .local), ("thing", .local), ("isinstance", .globalImplicit), ("str", .globalImplicit), ("len", .globalImplicit)]
theorem ne_is_way : (defScope st_is_way).names = nm_is_way := rfl
theorem sc_is_way : FnScope ["one", "other", "thing"] ["one", "other", "thing"] (defScope st_is_way) := ⟨rfl, rfl, rfl, by decide +kernel, rfl, by decide +kernel, by decide +kernel⟩
abbrev st_law_hand : Stmt := top 3
def nm_law_hand : List (Str × NameKind) := [("cell", .local), ("k", .local), ("digits", .local)]
theorem ne_law_hand : (defScope st_law_hand).names = nm_law_hand := rfl
theorem sc_law_hand : FnScope ["cell", "k", "digits"] ["cell", "k"] (defScope st_law_hand) := ⟨rfl, rfl, rfl, by decide +kernel, rfl, by decide +kernel, by decide +kernel⟩
abbrev st_law_draw : Stmt := top 4
def nm_law_draw : List (Str × NameKind) := [("hand", .local), ("limit", .local), ("got", .local)]
theorem ne_law_draw : (defScope st_law_draw).names = nm_law_draw := rfl
theorem sc_law_draw : FnScope ["hand", "limit", "got"] ["hand", "limit"] (defScope st_law_draw) := ⟨rfl, rfl, rfl, by decide +kernel, rfl, by decide +kernel, by decide +kernel⟩
abbrev st_law_cells : Stmt := top 5
def nm_law_cells : List (Str × NameKind) := [("script", .local), ("many", .local), ("list", .globalImplicit), ("enumerate", .globalImplicit), ("int", .globalImplicit)]
theorem ne_law_cells : (defScope st_law_cells).names = nm_law_cells := rfl
theorem sc_law_cells : FnScope ["script", "many"] ["script", "many"] (defScope st_law_cells) := ⟨rfl, rfl, rfl, by decide +kernel, rfl, by decide +kernel, by decide +kernel⟩
abbrev st_law_great : Stmt := top 6
def nm_law_great : List (Str × NameKind) := [("script", .local), ("sum", .globalImplicit)]
theorem ne_law_great : (defScope st_law_great).names = nm_law_great := rfl
theorem sc_law_great : FnScope ["script"] ["script"] (defScope st_law_great) := ⟨rfl, rfl, rfl, by decide +kernel, rfl, by decide +kernel, by decide +kernel⟩
abbrev st_law_row : Stmt := top 7
def nm_law_row : List (Str × NameKind) := [("hand", .cell), ("many", .local), ("letters", .cell), ("wide", .cell), ("base", .cell), ("kind", .local), ("block", .local), ("row", .local), ("_law_draw", .globalImplicit), ("range", .globalImplicit)]
theorem ne_law_row : (defScope st_law_row).names = nm_law_row := rfl
theorem sc_law_row : FnScope ["hand", "many", "letters", "wide", "base", "kind", "block", "row", "k"] ["hand", "many"] (defScope st_law_row) := ⟨rfl, rfl, rfl, by decide +kernel, rfl, by decide +kernel, by decide +kernel⟩
abbrev st_law_two : Stmt := top 8
def nm_law_two : List (Str × NameKind) := [("hand", .cell), ("most", .local), ("long", .local), ("many", .local), ("one", .cell), ("other", .local), ("kind", .local), ("_law_draw", .globalImplicit), ("range", .globalImplicit), ("_law_row", .globalImplicit)]
theorem ne_law_two : (defScope st_law_two).names = nm_law_two := rfl
theorem sc_law_two : FnScope ["hand", "most", "long", "many", "one", "other", "kind", "side", "k"] ["hand", "most", "long"] (defScope st_law_two) := ⟨rfl, rfl, rfl, by decide +kernel, rfl, by decide +kernel, by decide +kernel⟩
abbrev st_law_way : Stmt := top 9
def nm_law_way : List (Str × NameKind) := [("hand", .local), ("one", .local), ("other", .local), ("left", .local), ("kind", .local), ("way", .local), ("side", .local), ("len", .globalImplicit), ("_law_draw", .globalImplicit), ("int", .globalImplicit), ("str", .globalImplicit)]
theorem ne_law_way : (defScope st_law_way).names = nm_law_way := rfl
theorem sc_law_way : FnScope ["hand", "one", "other", "left", "kind", "way", "side"] ["hand", "one", "other"] (defScope st_law_way) := ⟨rfl, rfl, rfl, by decide +kernel, rfl, by decide +kernel, by decide +kernel⟩
abbrev st_law_spoilt : Stmt := top 10
def nm_law_spoilt : List (Str × NameKind) := [("hand", .local), ("way", .local), ("at", .local), ("signs", .local), ("sign", .local), ("kind", .local), ("some", .local), ("_law_draw", .globalImplicit), ("len", .globalImplicit), ("list", .globalImplicit), ("tuple", .globalImplicit), ("int", .globalImplicit)]
theorem ne_law_spoilt : (defScope st_law_spoilt).names = nm_law_spoilt := rfl
theorem sc_law_spoilt : FnScope ["hand", "way", "at", "signs", "sign", "kind", "some", "one"] ["hand", "way"] (defScope st_law_spoilt) := ⟨rfl, rfl, rfl, by decide +kernel, rfl, by decide +kernel, by decide +kernel⟩
abbrev st_law_is : Stmt := top 11
def nm_law_is : List (Str × NameKind) := [("one", .local), ("other", .local), ("thing", .local), ("left", .local), ("sign", .local), ("isinstance", .globalImplicit), ("str", .globalImplicit), ("len", .globalImplicit), ("int", .globalImplicit)]
theorem ne_law_is : (defScope st_law_is).names = nm_law_is := rfl
theorem sc_law_is : FnScope ["one", "other", "thing", "left", "sign"] ["one", "other", "thing"] (defScope st_law_is) := ⟨rfl, rfl, rfl, by decide +kernel, rfl, by decide +kernel, by decide +kernel⟩
abbrev st_law : Stmt := top 12
def nm_law : List (Str × NameKind) := [("script", .local), ("deep", .local), ("k", .local), ("thing", .local), ("refusal", .local), ("cell", .local), ("hand", .local), ("one", .local), ("other", .local), ("way", .local), ("spoilt", .local), ("once", .local), ("some", .local), ("kept", .local), ("turn", .local), ("told", .local), ("range", .globalImplicit), ("ValueError", .globalImplicit), ("is_way", .globalImplicit), ("_law_cells", .globalImplicit), ("_law_hand", .globalImplicit), ("_law_two", .globalImplicit), ("_law_draw", .globalImplicit), ("_law_great", .globalImplicit), ("_law_way", .globalImplicit), ("_law_spoilt", .globalImplicit), ("isinstance", .globalImplicit), ("str", .globalImplicit), ("repr", .globalImplicit), ("bool", .globalImplicit), ("_law_is", .globalImplicit)]
theorem ne_law : (defScope st_law).names = nm_law := rfl
theorem sc_law : FnScope ["script", "deep", "k", "refusal", "cell", "hand", "one", "other", "way", "spoilt", "once", "some", "thing", "kept", "turn", "told"] ["script"] (defScope st_law) := ⟨rfl, rfl, rfl, by decide +kernel, rfl, by decide +kernel, by decide +kernel⟩
structure Env (K : PySem.W.Frag) (mg : Str → Option Value) : Prop where
  d_is_way : Df K mg "is_way" st_is_way ["one", "other", "thing"]
  d_law_hand : Df K mg "_law_hand" st_law_hand ["cell", "k"]
  d_law_draw : Df K mg "_law_draw" st_law_draw ["hand", "limit"]
  d_law_cells : Df K mg "_law_cells" st_law_cells ["script", "many"]
  d_law_great : Df K mg "_law_great" st_law_great ["script"]
  d_law_row : Df K mg "_law_row" st_law_row ["hand", "many"]
  d_law_two : Df K mg "_law_two" st_law_two ["hand", "most", "long"]
  d_law_way : Df K mg "_law_way" st_law_way ["hand", "one", "other"]
  d_law_spoilt : Df K mg "_law_spoilt" st_law_spoilt ["hand", "way"]
  d_law_is : Df K mg "_law_is" st_law_is ["one", "other", "thing"]
  d_law : Df K mg "law" st_law ["script"]
  b_ValueError : mg "ValueError" = none
  b_bool : mg "bool" = none
  b_enumerate : mg "enumerate" = none
  b_int : mg "int" = none
  b_isinstance : mg "isinstance" = none
  b_len : mg "len" = none
  b_list : mg "list" = none
  b_range : mg "range" = none
  b_repr : mg "repr" = none
  b_str : mg "str" = none
  b_sum : mg "sum" = none
  b_tuple : mg "tuple" = none
/-! an ok_ theorem by way of a discharger: what its steps leave behind is dropped at its end (memory) -/
theorem fnG_ok {P : Program} {w : World} {K : PySem.W.Frag} {mg : Str → Option Value} {base : Heap} {CX k f fd xs} {sp} (fnOkProof : FnG P w K mg base CX k f fd xs sp) : FnG P w K mg base CX k f fd xs sp = True := eq_true fnOkProof
theorem fn_ok {P : Program} {w : World} {K : PySem.W.Frag} {mg : Str → Option Value} {base : Heap} {CX k f fd xs} {sp} (fnOkProof : FnOk P w K mg base CX k f fd xs sp) : FnOk P w K mg base CX k f fd xs sp = True := eq_true fnOkProof
end Law

namespace Law
open PySem PySem.Spec PyProof.Rows L2 Go
/-! things of any kind -/
/-- neither a whole number nor a text -/
inductive OddT (G : Hp) : V → Prop
  | non : OddT G .non
  | bl (b : Bool) : OddT G (.bl b)
  | lst {p : Addr} {xs : List V} (h : G p = some (.lst xs)) : OddT G (.ref p)
  | tup {p : Addr} {xs : List V} (h : G p = some (.tup xs)) : OddT G (.ref p)
  | dK {p : Addr} {kvs : List (Key × V)} (h : G p = some (.dK kvs)) : OddT G (.ref p)
  | ve {p : Addr} (h : G p = some (veO p)) : OddT G (.ref p)
theorem OddT.up {G G' : Hp} {v : V} (h : OddT G v) (s : Same G G') : OddT G' v := by
  cases h with
  | non => exact .non
  | bl b => exact .bl b
  | lst h => exact .lst (s _ _ h)
  | tup h => exact .tup (s _ _ h)
  | dK h => exact .dK (s _ _ h)
  | ve h => exact .ve (s _ _ h)
theorem OddT.own {G H : Hp} {C : List (Addr × HO)} {v : V} (h : OddT G v) (O : Own G C H) : OddT H v := by
  cases h with
  | non => exact .non
  | bl b => exact .bl b
  | lst h => exact .lst (hp_up O h)
  | tup h => exact .tup (hp_up O h)
  | dK h => exact .dK (hp_up O h)
  | ve h => exact .ve (hp_up O h)
/-- any thing -/
inductive AnyT (G : Hp) : V → Prop
  | odd {v : V} (h : OddT G v) : AnyT G v
  | int (i : Int) : AnyT G (.int i)
  | str {z : List Nat} (h : z.length ≤ 1000) : AnyT G (.str (S z))
theorem AnyT.up {G G' : Hp} {v : V} (h : AnyT G v) (s : Same G G') : AnyT G' v := by
  cases h with
  | odd h => exact .odd (h.up s)
  | int i => exact .int i
  | str h => exact .str h
/-- no number below so many -/
inductive NoNum (G : Hp) (n : Nat) : V → Prop
  | odd {v : V} (h : OddT G v) : NoNum G n v
  | int {i : Int} (h : ¬ (0 ≤ i ∧ i < (n : Int))) : NoNum G n (.int i)
  | str (z : List Nat) : NoNum G n (.str (S z))
theorem NoNum.up {G G' : Hp} {n : Nat} {v : V} (h : NoNum G n v) (s : Same G G') : NoNum G' n v := by
  cases h with
  | odd h => exact .odd (h.up s)
  | int h => exact .int h
  | str z => exact .str z

end Law

namespace Law
open PySem PySem.Spec PyProof.Rows L2 Go
/-- the two woven by the way: at a 0 the next of the first, at a 1 the next of the second -/
def weave : List Nat → List Nat → List Nat → List Nat
  | _, _, [] => []
  | y, z, c :: t => if c = 48 then y.take 1 ++ weave (y.drop 1) z t else z.take 1 ++ weave y (z.drop 1) t
/-- the way is of signs 0 and 1, as many as the two are long -/
def Fits (y z t : List Nat) : Prop := (∀ x ∈ t, x = 48 ∨ x = 49) ∧ t.count 48 = y.length ∧ t.count 49 = z.length
theorem Fits.zero {y z t : List Nat} (h : Fits y z (48 :: t)) : ∃ a y', y = a :: y' ∧ Fits y' z t ∧ weave y z (48 :: t) = a :: weave y' z t := by
  obtain ⟨h1, h2, h3⟩ := h
  cases y with
  | nil => simp at h2
  | cons a y => exact ⟨a, y, rfl, ⟨fun x hx => h1 x (List.mem_cons_of_mem _ hx), by simpa using h2, by simpa using h3⟩, rfl⟩
theorem Fits.one {y z t : List Nat} (h : Fits y z (49 :: t)) : ∃ a z', z = a :: z' ∧ Fits y z' t ∧ weave y z (49 :: t) = a :: weave y z' t := by
  obtain ⟨h1, h2, h3⟩ := h
  cases z with
  | nil => simp at h3
  | cons a z => exact ⟨a, z, rfl, ⟨fun x hx => h1 x (List.mem_cons_of_mem _ hx), by simpa using h2, by simpa using h3⟩, rfl⟩
theorem Fits.len {y z t : List Nat} (h : Fits y z t) : t.length = y.length + z.length := by
  obtain ⟨h1, h2, h3⟩ := h
  rw [← h2, ← h3]
  clear h2 h3
  induction t with
  | nil => rfl
  | cons c t ih =>
    have := ih fun x hx => h1 x (List.mem_cons_of_mem _ hx)
    rcases h1 c List.mem_cons_self with rfl | rfl
    · simp; omega
    · simp; omega
theorem Fits.weave_len : ∀ {t y z : List Nat}, Fits y z t → (weave y z t).length = t.length
  | [], y, z, h => by unfold weave; rfl
  | c :: t, y, z, h => by
    rcases h.1 c List.mem_cons_self with rfl | rfl
    · obtain ⟨a, y', _, g, e⟩ := h.zero
      rw [e, List.length_cons, List.length_cons, g.weave_len]
    · obtain ⟨a, z', _, g, e⟩ := h.one
      rw [e, List.length_cons, List.length_cons, g.weave_len]
theorem Fits.ends (y z : List Nat) : Fits y z (List.replicate y.length 48 ++ List.replicate z.length 49) := by
  refine ⟨fun x hx => ?_, by simp [List.count_append, List.count_replicate], by simp [List.count_append, List.count_replicate]⟩
  rcases List.mem_append.mp hx with h | h
  · exact .inl (List.mem_replicate.mp h).2
  · exact .inr (List.mem_replicate.mp h).2
theorem Fits.ends2 (y z : List Nat) : Fits y z (List.replicate z.length 49 ++ List.replicate y.length 48) := by
  refine ⟨fun x hx => ?_, by simp [List.count_append, List.count_replicate], by simp [List.count_append, List.count_replicate]⟩
  rcases List.mem_append.mp hx with h | h
  · exact .inr (List.mem_replicate.mp h).2
  · exact .inl (List.mem_replicate.mp h).2
theorem weave_mem {x : Nat} : ∀ (t y z : List Nat), x ∈ weave y z t → x ∈ y ∨ x ∈ z
  | [], _, _, h => by unfold weave at h; simp at h
  | c :: t, y, z, h => by
    unfold weave at h
    split at h
    · rcases List.mem_append.mp h with h | h
      · exact .inl (List.mem_of_mem_take h)
      · rcases weave_mem t _ _ h with h | h
        · exact .inl (List.mem_of_mem_drop h)
        · exact .inr h
    · rcases List.mem_append.mp h with h | h
      · exact .inr (List.mem_of_mem_take h)
      · rcases weave_mem t _ _ h with h | h
        · exact .inl h
        · exact .inr (List.mem_of_mem_drop h)
/-- at a 0 the first row goes on, at a 1 the second -/
theorem Fits.drop0 {y z w : List Nat} {i j k : Nat} (h : Fits (y.drop i) (z.drop j) (w.drop k)) (hk : w[k]? = some 48) : i < y.length ∧ Fits (y.drop (i + 1)) (z.drop j) (w.drop (k + 1)) := by
  obtain ⟨hl, e⟩ := List.getElem?_eq_some_iff.mp hk
  rw [List.drop_eq_getElem_cons hl, e] at h
  obtain ⟨a, y', ey, g, _⟩ := h.zero
  have hi : i < y.length := by
    by_cases hi : i < y.length
    · exact hi
    · rw [List.drop_eq_nil_of_le (by omega)] at ey; cases ey
  rw [List.drop_eq_getElem_cons hi, List.cons.injEq] at ey
  exact ⟨hi, by rw [ey.2]; exact g⟩
theorem Fits.drop1 {y z w : List Nat} {i j k : Nat} (h : Fits (y.drop i) (z.drop j) (w.drop k)) (hk : w[k]? = some 49) : j < z.length ∧ Fits (y.drop i) (z.drop (j + 1)) (w.drop (k + 1)) := by
  obtain ⟨hl, e⟩ := List.getElem?_eq_some_iff.mp hk
  rw [List.drop_eq_getElem_cons hl, e] at h
  obtain ⟨a, z', ez, g, _⟩ := h.one
  have hj : j < z.length := by
    by_cases hj : j < z.length
    · exact hj
    · rw [List.drop_eq_nil_of_le (by omega)] at ez; cases ez
  rw [List.drop_eq_getElem_cons hj, List.cons.injEq] at ez
  exact ⟨hj, by rw [ez.2]; exact g⟩

end Law

namespace Law
open PySem PySem.Spec PyProof.Rows L2 Go
/-- whether t is woven of y and z -/
def canB : List Nat → List Nat → List Nat → Bool
  | y, z, [] => y.isEmpty && z.isEmpty
  | y, z, c :: t => (y.head? == some c && canB y.tail z t) || (z.head? == some c && canB y z.tail t)
/-- .. of the rests behind i and j letters -/
def canT (y z t : List Nat) (i j : Nat) : Bool := canB (y.drop i) (z.drop j) (t.drop (i + j))
theorem canT_end {y z t : List Nat} (h : t.length = y.length + z.length) : canT y z t y.length z.length = true := by
  unfold canT
  rw [List.drop_length, List.drop_length, ← h, List.drop_length]
  rfl
theorem canT_step {y z t : List Nat} {i j : Nat} (h : t.length = y.length + z.length) (hi : i ≤ y.length) (hj : j ≤ z.length) (hn : ¬ (i = y.length ∧ j = z.length)) :
    canT y z t i j = ((decide (i < y.length) && decide (y[i]? = t[i + j]?) && canT y z t (i + 1) j) || (decide (j < z.length) && decide (z[j]? = t[i + j]?) && canT y z t i (j + 1))) := by
  have hk : i + j < t.length := by omega
  unfold canT
  rw [List.drop_eq_getElem_cons hk, canB, List.head?_drop, List.head?_drop, List.tail_drop, List.tail_drop, List.getElem?_eq_getElem hk, show i + 1 + j = i + j + 1 by omega, show i + (j + 1) = i + j + 1 by omega]
  have be : ∀ a b : Option Nat, (a == b) = decide (a = b) := fun a b => by rw [Bool.eq_iff_iff]; simp
  have e1 : (y[i]? == some t[i + j]) = (decide (i < y.length) && decide (y[i]? = some t[i + j])) := by
    by_cases hl : i < y.length
    · rw [decide_eq_true hl, Bool.true_and, be]
    · rw [decide_eq_false hl, List.getElem?_eq_none (by omega)]; rfl
  have e2 : (z[j]? == some t[i + j]) = (decide (j < z.length) && decide (z[j]? = some t[i + j])) := by
    by_cases hl : j < z.length
    · rw [decide_eq_true hl, Bool.true_and, be]
    · rw [decide_eq_false hl, List.getElem?_eq_none (by omega)]; rfl
  rw [e1, e2]
/-- the key of a table -/
abbrev ij (i j : Nat) : List Key := [.inl (i : Int), .inl (j : Int)]
theorem ij_inj {i j i' j' : Nat} : ij i j = ij i' j' ↔ i = i' ∧ j = j' := by
  constructor
  · intro h
    simp only [ij, List.cons.injEq, Sum.inl.injEq, and_true] at h
    omega
  · rintro ⟨rfl, rfl⟩; rfl
/-- what a table holds when a whole rows, from behind, and b places of the next are done -/
def Done (n m a b i j : Nat) : Prop := n < i + a ∨ (i + a = n ∧ m < j + b)
instance {n m a b i j : Nat} : Decidable (Done n m a b i j) := inferInstanceAs (Decidable (_ ∨ _))
def CanTab (y z t : List Nat) (kvs : List (List Key × V)) (a b : Nat) : Prop := ∀ i j, i ≤ y.length → j ≤ z.length →
  (valV kvs (ij i j)).isSome = if Done y.length z.length a b i j then canT y z t i j else decide (i = y.length ∧ j = z.length)
theorem CanTab.first (y z t : List Nat) (v : V) : CanTab y z t [(ij y.length z.length, v)] 0 0 := by
  intro i j hi hj
  rw [if_neg (by unfold Done; omega)]
  by_cases h : i = y.length ∧ j = z.length
  · obtain ⟨rfl, rfl⟩ := h
    rw [valV_pos rfl]; simp
  · rw [valV_neg (fun e => h (by have := ij_inj.mp e; exact ⟨this.1.symm, this.2.symm⟩)), decide_eq_false h]; rfl
theorem CanTab.row {y z t : List Nat} {kvs : List (List Key × V)} {a : Nat} (h : CanTab y z t kvs a (z.length + 1)) : CanTab y z t kvs (a + 1) 0 := by
  intro i j hi hj
  rw [h i j hi hj]
  have e : Done y.length z.length a (z.length + 1) i j ↔ Done y.length z.length (a + 1) 0 i j := by unfold Done; omega
  simp only [e]
theorem CanTab.all {y z t : List Nat} {kvs : List (List Key × V)} (h : CanTab y z t kvs (y.length + 1) 0) : ∀ i j, i ≤ y.length → j ≤ z.length → (valV kvs (ij i j)).isSome = canT y z t i j := by
  intro i j hi hj
  rw [h i j hi hj, if_pos (by unfold Done; omega)]
theorem CanTab.step {y z t : List Nat} {kvs k1 k2 : List (List Key × V)} {a b : Nat} {v1 v2 : V} (ht : t.length = y.length + z.length) (h : CanTab y z t kvs a b) (ha : a ≤ y.length) (hb : b ≤ z.length)
    (h1 : k1 = if (decide (y.length - a < y.length) && decide (y[y.length - a]? = t[y.length - a + (z.length - b)]?) && (valV kvs (ij (y.length - a + 1) (z.length - b))).isSome) = true then putK kvs (ij (y.length - a) (z.length - b)) v1 else kvs)
    (h2 : k2 = if (decide (z.length - b < z.length) && decide (z[z.length - b]? = t[y.length - a + (z.length - b)]?) && (valV k1 (ij (y.length - a) (z.length - b + 1))).isSome) = true then putK k1 (ij (y.length - a) (z.length - b)) v2 else k1) :
    CanTab y z t k2 a (b + 1) := by
  generalize hi : y.length - a = i at *
  generalize hj : z.length - b = j at *
  have o1 : ∀ k v i' j', (valV (putK k (ij i j) v) (ij i' j')).isSome = if i' = i ∧ j' = j then true else (valV k (ij i' j')).isSome := by
    intro k v i' j'
    rw [valV_put]
    by_cases e : i' = i ∧ j' = j
    · rw [if_pos (ij_inj.mpr e), if_pos e]; rfl
    · rw [if_neg (fun z => e (ij_inj.mp z)), if_neg e]
  have v1e : ∀ i' j', (valV k1 (ij i' j')).isSome = if i' = i ∧ j' = j then ((decide (i < y.length) && decide (y[i]? = t[i + j]?) && (valV kvs (ij (i + 1) j)).isSome) || (valV kvs (ij i j)).isSome) else (valV kvs (ij i' j')).isSome := by
    intro i' j'
    rw [h1]
    split
    · rename_i hc
      rw [o1 kvs v1, hc]; rfl
    · rename_i hc
      rw [Bool.not_eq_true] at hc
      rw [hc]
      split
      · rename_i e; rw [e.1, e.2]; rfl
      · rfl
  have v2e : ∀ i' j', (valV k2 (ij i' j')).isSome = if i' = i ∧ j' = j then ((decide (j < z.length) && decide (z[j]? = t[i + j]?) && (valV k1 (ij i (j + 1))).isSome) || (valV k1 (ij i j)).isSome) else (valV k1 (ij i' j')).isSome := by
    intro i' j'
    rw [h2]
    split
    · rename_i hc
      rw [o1 k1 v2, hc]; rfl
    · rename_i hc
      rw [Bool.not_eq_true] at hc
      rw [hc]
      split
      · rename_i e; rw [e.1, e.2]; rfl
      · rfl
  intro i' j' hi' hj'
  rw [v2e]
  by_cases e : i' = i ∧ j' = j
  · obtain ⟨rfl, rfl⟩ := e
    rw [if_pos ⟨rfl, rfl⟩, if_pos (by unfold Done; omega), v1e, if_neg (by omega), v1e, if_pos ⟨rfl, rfl⟩, h i' j' hi' hj', if_neg (by unfold Done; omega)]
    by_cases q : i' = y.length ∧ j' = z.length
    · rw [q.1, q.2, canT_end ht]; simp
    · rw [canT_step ht hi' hj' q, decide_eq_false q]
      have e1 : (decide (i' < y.length) && decide (y[i']? = t[i' + j']?) && (valV kvs (ij (i' + 1) j')).isSome) = (decide (i' < y.length) && decide (y[i']? = t[i' + j']?) && canT y z t (i' + 1) j') := by
        by_cases hl : i' < y.length
        · rw [h (i' + 1) j' (by omega) hj', if_pos (by unfold Done; omega)]
        · rw [decide_eq_false hl]; rfl
      have e2 : (decide (j' < z.length) && decide (z[j']? = t[i' + j']?) && (valV kvs (ij i' (j' + 1))).isSome) = (decide (j' < z.length) && decide (z[j']? = t[i' + j']?) && canT y z t i' (j' + 1)) := by
        by_cases hl : j' < z.length
        · rw [h i' (j' + 1) hi' (by omega), if_pos (by unfold Done; omega)]
        · rw [decide_eq_false hl]; rfl
      rw [e1, e2, Bool.or_false, Bool.or_comm]
  · rw [if_neg e, v1e, if_neg e, h i' j' hi' hj']
    have e3 : Done y.length z.length a b i' j' ↔ Done y.length z.length a (b + 1) i' j' := by unfold Done; omega
    simp only [e3]
/-- is_woven -/
def canW (y z t : List Nat) : Bool := decide (t.length = y.length + z.length) && canB y z t
theorem canW_zero {y z t : List Nat} (h : t.length = y.length + z.length) : canW y z t = canT y z t 0 0 := by
  unfold canW canT
  rw [decide_eq_true h, Bool.true_and]
  rfl
theorem canW_no {y z t : List Nat} (h : ¬ t.length = y.length + z.length) : canW y z t = false := by
  unfold canW
  rw [decide_eq_false h]; rfl
/-- a letters of y, k - a of z are taken behind k signs of the text -/
def Back (y z t : List Nat) (k a : Nat) : Prop := t.length = y.length + z.length ∧ a ≤ y.length ∧ a ≤ k ∧ k - a ≤ z.length ∧ canT y z t a (k - a) = true
theorem Back.zero {y z t : List Nat} : Back y z t 0 0 ↔ canW y z t = true := by
  unfold Back canW
  rw [Bool.and_eq_true, decide_eq_true_eq]
  constructor
  · rintro ⟨h, _, _, _, e⟩; exact ⟨h, e⟩
  · rintro ⟨h, e⟩; exact ⟨h, Nat.zero_le _, Nat.le_refl _, Nat.zero_le _, e⟩
theorem Back.last {y z t : List Nat} (h : t.length = y.length + z.length) (a : Nat) : Back y z t t.length a ↔ a = y.length := by
  unfold Back
  constructor
  · rintro ⟨_, h1, h2, h3, _⟩; omega
  · rintro rfl
    refine ⟨h, Nat.le_refl _, by omega, by omega, ?_⟩
    rw [show t.length - y.length = z.length by omega]; exact canT_end h
theorem Back.step {y z t : List Nat} {k a : Nat} (h : t.length = y.length + z.length) (hk : k < t.length) (h1 : a ≤ y.length) (h2 : a ≤ k) (h3 : k - a ≤ z.length) :
    Back y z t k a ↔ ((a < y.length ∧ y[a]? = t[k]? ∧ Back y z t (k + 1) (a + 1)) ∨ (k - a < z.length ∧ z[k - a]? = t[k]? ∧ Back y z t (k + 1) a)) := by
  have e0 : Back y z t k a ↔ canT y z t a (k - a) = true := ⟨fun z => z.2.2.2.2, fun z => ⟨h, h1, h2, h3, z⟩⟩
  rw [e0, canT_step h h1 h3 (by omega), show a + (k - a) = k by omega]
  simp only [Bool.or_eq_true, Bool.and_eq_true, decide_eq_true_eq]
  constructor
  · rintro (⟨⟨p, q⟩, r⟩ | ⟨⟨p, q⟩, r⟩)
    · exact .inl ⟨p, q, h, by omega, by omega, by omega, by rw [show k + 1 - (a + 1) = k - a by omega]; exact r⟩
    · exact .inr ⟨p, q, h, by omega, by omega, by omega, by rw [show k + 1 - a = k - a + 1 by omega]; exact r⟩
  · rintro (⟨p, q, r⟩ | ⟨p, q, r⟩)
    · have r := r.2.2.2.2
      rw [show k + 1 - (a + 1) = k - a by omega] at r
      exact .inl ⟨⟨p, q⟩, r⟩
    · have r := r.2.2.2.2
      rw [show k + 1 - a = k - a + 1 by omega] at r
      exact .inr ⟨⟨p, q⟩, r⟩
/-- a list of the places of the first row, behind k signs -/
def BackL (y z t : List Nat) (k : Nat) (xs : List Int) : Prop := ∀ i : Int, i ∈ xs ↔ ∃ a : Nat, i = (a : Int) ∧ Back y z t k a
theorem BackL.zero {y z t : List Nat} {xs : List Int} (h : BackL y z t 0 xs) : decide ((0 : Int) ∈ xs) = canW y z t := by
  rw [Bool.eq_iff_iff, decide_eq_true_eq, h, ← Back.zero]
  constructor
  · rintro ⟨a, e, b⟩
    rw [show a = 0 by omega] at b
    exact b
  · intro b; exact ⟨0, rfl, b⟩

end Law

namespace Law
open PySem PySem.Spec PyProof.Rows L2 Go
--# math can
/-- the way that takes of the row that goes ahead wherever it can -/
def greedy (a0 : Bool) : List Nat → List Nat → List Nat → List Nat
  | _, _, [] => []
  | y, z, c :: t => if ((y.head? == some c && canB y.tail z t) && (a0 || !(z.head? == some c && canB y z.tail t))) = true then 48 :: greedy a0 y.tail z t else 49 :: greedy a0 y z.tail t
def greedT (a0 : Bool) (y z t : List Nat) (i j : Nat) : List Nat := greedy a0 (y.drop i) (z.drop j) (t.drop (i + j))
/-- a text or None -/
def optV : Option (List Nat) → V
  | none => .non
  | some z => .str (S z)
def endW (a0 : Bool) (y z t : List Nat) : Option (List Nat) := if canW y z t = true then some (greedy a0 y z t) else none
theorem greedT_step {a0 : Bool} {y z t : List Nat} {i j : Nat} (h : t.length = y.length + z.length) (hi : i ≤ y.length) (hj : j ≤ z.length) (hk : i + j < t.length) :
    greedT a0 y z t i j = if ((decide (i < y.length) && decide (y[i]? = t[i + j]?) && canT y z t (i + 1) j) && (a0 || !(decide (j < z.length) && decide (z[j]? = t[i + j]?) && canT y z t i (j + 1)))) = true then 48 :: greedT a0 y z t (i + 1) j else 49 :: greedT a0 y z t i (j + 1) := by
  unfold greedT canT
  rw [List.drop_eq_getElem_cons hk, greedy, List.head?_drop, List.head?_drop, List.tail_drop, List.tail_drop, List.getElem?_eq_getElem hk, show i + 1 + j = i + j + 1 by omega, show i + (j + 1) = i + j + 1 by omega]
  have be : ∀ a b : Option Nat, (a == b) = decide (a = b) := fun a b => by rw [Bool.eq_iff_iff]; simp
  have e1 : (y[i]? == some t[i + j]) = (decide (i < y.length) && decide (y[i]? = some t[i + j])) := by
    by_cases hl : i < y.length
    · rw [decide_eq_true hl, Bool.true_and, be]
    · rw [decide_eq_false hl, List.getElem?_eq_none (by omega)]; rfl
  have e2 : (z[j]? == some t[i + j]) = (decide (j < z.length) && decide (z[j]? = some t[i + j])) := by
    by_cases hl : j < z.length
    · rw [decide_eq_true hl, Bool.true_and, be]
    · rw [decide_eq_false hl, List.getElem?_eq_none (by omega)]; rfl
  rw [e1, e2]
theorem greedT_end {a0 : Bool} {y z t : List Nat} {i j : Nat} (hk : t.length ≤ i + j) : greedT a0 y z t i j = [] := by
  unfold greedT
  rw [List.drop_eq_nil_of_le hk]
  unfold greedy; rfl
/-- by the places that go: the tests of a turn -/
theorem back_one {y z t : List Nat} {i j : Nat} {xn : List Int} (h : t.length = y.length + z.length) (hx : BackL y z t (i + j + 1) xn) (hj : j ≤ z.length) (hk : i + j < t.length) :
    (decide ((i : Int) < (y.length : Int)) && (decide (y.getD i 0 = t.getD (i + j) 0) && decide ((i : Int) + 1 ∈ xn))) = (decide (i < y.length) && decide (y[i]? = t[i + j]?) && canT y z t (i + 1) j) := by
  rw [← Bool.and_assoc, gd_and hk]
  by_cases hi : i < y.length
  · rw [decide_eq_true hi, Bool.true_and]
    congr 1
    rw [Bool.eq_iff_iff, decide_eq_true_eq, hx]
    constructor
    · rintro ⟨a, e, b⟩
      have e : a = i + 1 := by omega
      subst e
      have := b.2.2.2.2
      rwa [show i + j + 1 - (i + 1) = j by omega] at this
    · intro e
      exact ⟨i + 1, by omega, h, by omega, by omega, by omega, by rwa [show i + j + 1 - (i + 1) = j by omega]⟩
  · rw [decide_eq_false hi, List.getElem?_eq_none (by omega), List.getElem?_eq_getElem hk]; rfl
theorem back_two {y z t : List Nat} {i j : Nat} {xn : List Int} (h : t.length = y.length + z.length) (hx : BackL y z t (i + j + 1) xn) (hi : i ≤ y.length) (hk : i + j < t.length) :
    (decide ((j : Int) < (z.length : Int)) && (decide (z.getD j 0 = t.getD (i + j) 0) && decide ((i : Int) ∈ xn))) = (decide (j < z.length) && decide (z[j]? = t[i + j]?) && canT y z t i (j + 1)) := by
  rw [← Bool.and_assoc, gd_and hk]
  by_cases hj : j < z.length
  · rw [decide_eq_true hj, Bool.true_and]
    congr 1
    rw [Bool.eq_iff_iff, decide_eq_true_eq, hx]
    constructor
    · rintro ⟨a, e, b⟩
      have e : a = i := by omega
      subst e
      have := b.2.2.2.2
      rwa [show a + j + 1 - a = j + 1 by omega] at this
    · intro e
      exact ⟨i, rfl, h, by omega, by omega, by omega, by rwa [show i + j + 1 - i = j + 1 by omega]⟩
  · rw [decide_eq_false hj, List.getElem?_eq_none (by omega), List.getElem?_eq_getElem hk]; rfl

end Law

namespace Law
open PySem PySem.Spec PyProof.Rows L2 Go
--# math ends
/-- all ways that weave, in order -/
def allA : List Nat → List Nat → List Nat → List (List Nat)
  | y, z, [] => if y = [] ∧ z = [] then [[]] else []
  | y, z, c :: t => (if y.head? = some c then (allA y.tail z t).map (48 :: ·) else []) ++ (if z.head? = some c then (allA y z.tail t).map (49 :: ·) else [])
theorem canB_all : ∀ (t y z : List Nat), canB y z t = true ↔ allA y z t ≠ []
  | [], y, z => by unfold canB allA; cases y <;> cases z <;> simp
  | c :: t, y, z => by
    have h1 := canB_all t y.tail z
    have h2 := canB_all t y z.tail
    unfold canB allA
    rw [Bool.or_eq_true, Bool.and_eq_true, Bool.and_eq_true, h1, h2, beq_iff_eq, beq_iff_eq]
    by_cases e1 : y.head? = some c <;> by_cases e2 : z.head? = some c <;> simp [e1, e2]
    constructor
    · rintro (h | h) <;> intro h' <;> first | exact absurd h' h | (intro h2; exact h h2)
    · intro h
      by_cases q : allA y.tail z t = []
      · exact .inr (h q)
      · exact .inl q
theorem all_head : ∀ (t y z : List Nat), (allA y z t).head? = if canB y z t = true then some (greedy true y z t) else none
  | [], y, z => by unfold canB allA greedy; cases y <;> cases z <;> simp
  | c :: t, y, z => by
    have h1 := all_head t y.tail z
    have h2 := all_head t y z.tail
    unfold canB allA greedy
    by_cases e1 : y.head? = some c
    · by_cases k1 : canB y.tail z t = true
      · rw [if_pos k1] at h1
        have g : (y.head? == some c && canB y.tail z t) = true := by rw [beq_iff_eq.mpr e1, k1]; rfl
        rw [g, if_pos e1, List.head?_append, List.head?_map, h1]
        rfl
      · have n1 : allA y.tail z t = [] := by
          have := mt (canB_all t y.tail z).mpr k1
          simpa using this
        have g : (y.head? == some c && canB y.tail z t) = false := by rw [Bool.eq_false_iff.mpr k1, Bool.and_false]
        rw [g, if_pos e1, n1, List.map_nil, List.nil_append]
        by_cases e2 : z.head? = some c
        · rw [if_pos e2, List.head?_map, h2, beq_iff_eq.mpr e2]
          cases canB y z.tail t <;> simp
        · rw [if_neg e2, beq_eq_false_iff_ne.mpr e2]; rfl
    · have g : (y.head? == some c && canB y.tail z t) = false := by rw [beq_eq_false_iff_ne.mpr e1, Bool.false_and]
      rw [g, if_neg e1, List.nil_append]
      by_cases e2 : z.head? = some c
      · rw [if_pos e2, List.head?_map, h2, beq_iff_eq.mpr e2]
        cases canB y z.tail t <;> simp
      · rw [if_neg e2, beq_eq_false_iff_ne.mpr e2]; rfl
theorem all_last : ∀ (t y z : List Nat), (allA y z t).getLast? = if canB y z t = true then some (greedy false y z t) else none
  | [], y, z => by unfold canB allA greedy; cases y <;> cases z <;> simp
  | c :: t, y, z => by
    have h1 := all_last t y.tail z
    have h2 := all_last t y z.tail
    unfold canB allA greedy
    by_cases e2 : z.head? = some c
    · by_cases k2 : canB y z.tail t = true
      · rw [if_pos k2] at h2
        have g : (z.head? == some c && canB y z.tail t) = true := by rw [beq_iff_eq.mpr e2, k2]; rfl
        rw [g, if_pos e2, List.getLast?_append, List.getLast?_map, h2, Bool.or_true, if_pos rfl]
        simp
      · have n1 : allA y z.tail t = [] := by
          have := mt (canB_all t y z.tail).mpr k2
          simpa using this
        have g : (z.head? == some c && canB y z.tail t) = false := by rw [Bool.eq_false_iff.mpr k2, Bool.and_false]
        rw [g, if_pos e2, n1, List.map_nil, List.append_nil, Bool.or_false]
        by_cases e1 : y.head? = some c
        · rw [if_pos e1, List.getLast?_map, h1, beq_iff_eq.mpr e1]
          cases canB y.tail z t <;> simp
        · rw [if_neg e1, beq_eq_false_iff_ne.mpr e1]; rfl
    · have g : (z.head? == some c && canB y z.tail t) = false := by rw [beq_eq_false_iff_ne.mpr e2, Bool.false_and]
      rw [g, if_neg e2, List.append_nil, Bool.or_false]
      by_cases e1 : y.head? = some c
      · rw [if_pos e1, List.getLast?_map, h1, beq_iff_eq.mpr e1]
        cases canB y.tail z t <;> simp
      · rw [if_neg e1, beq_eq_false_iff_ne.mpr e1]; rfl
theorem canB_len : ∀ (t y z : List Nat), canB y z t = true → t.length = y.length + z.length
  | [], y, z => by unfold canB; cases y <;> cases z <;> simp
  | c :: t, y, z => by
    intro h
    unfold canB at h
    rw [Bool.or_eq_true, Bool.and_eq_true, Bool.and_eq_true, beq_iff_eq, beq_iff_eq] at h
    rcases h with ⟨e, h⟩ | ⟨e, h⟩
    · have := canB_len _ _ _ h
      cases y with
      | nil => cases e
      | cons a y => simp at this ⊢; omega
    · have := canB_len _ _ _ h
      cases z with
      | nil => cases e
      | cons a z => simp at this ⊢; omega
theorem canW_B {y z t : List Nat} : canW y z t = canB y z t := by
  unfold canW
  by_cases h : canB y z t = true
  · rw [h, decide_eq_true (canB_len _ _ _ h)]; rfl
  · rw [Bool.eq_false_iff.mpr h, Bool.and_false]
theorem all_first {y z t : List Nat} : (allA y z t).head? = endW true y z t := by unfold endW; rw [all_head, canW_B]
theorem all_end {y z t : List Nat} : (allA y z t).getLast? = endW false y z t := by unfold endW; rw [all_last, canW_B]
/-! the ways by layers -/
def stepA (y z : List Nat) (k c : Nat) (p : List Nat × Nat) : List (List Nat × Nat) := (if y[p.2]? = some c then [(p.1 ++ [48], p.2 + 1)] else []) ++ (if z[k - p.2]? = some c then [(p.1 ++ [49], p.2)] else [])
def restA (y z t : List Nat) (k : Nat) (p : List Nat × Nat) : List (List Nat) := (allA (y.drop p.2) (z.drop (k - p.2)) (t.drop k)).map (p.1 ++ ·)
theorem rest_step {y z t : List Nat} {k c : Nat} {p : List Nat × Nat} (h : p.2 ≤ k) (hc : t[k]? = some c) : restA y z t k p = (stepA y z k c p).flatMap (restA y z t (k + 1)) := by
  obtain ⟨w, i⟩ := p
  have hk : k < t.length := (List.getElem?_eq_some_iff.mp hc).1
  have e : t[k] = c := (List.getElem?_eq_some_iff.mp hc).2
  unfold restA stepA
  simp only at h ⊢
  rw [List.drop_eq_getElem_cons hk, e, allA, List.head?_drop, List.head?_drop, List.tail_drop, List.tail_drop, show k - i + 1 = k + 1 - i by omega]
  by_cases e1 : y[i]? = some c <;> by_cases e2 : z[k - i]? = some c <;> simp [e1, e2, List.map_map, Function.comp_def]
structure LayA (y z t : List Nat) (k : Nat) (ws : List (List Nat × Nat)) : Prop where
  tot : ws.flatMap (restA y z t k) = allA y z t
  sz : ws.length ≤ 2 ^ k
  mem : ∀ p ∈ ws, p.2 ≤ k ∧ p.2 ≤ y.length ∧ k - p.2 ≤ z.length ∧ p.1.length = k
theorem LayA.first (y z t : List Nat) : LayA y z t 0 [([], 0)] := ⟨by simp [restA], by simp, by simp⟩
theorem stepA_len {y z : List Nat} {k c : Nat} (p : List Nat × Nat) : (stepA y z k c p).length ≤ 2 := by
  unfold stepA
  split <;> split <;> simp
theorem flatMap_len {α β : Type} {f : α → List β} {m : Nat} (h : ∀ a, (f a).length ≤ m) : ∀ l : List α, (l.flatMap f).length ≤ m * l.length
  | [] => by simp
  | a :: l => by
    have := flatMap_len h l
    have := h a
    rw [List.flatMap_cons, List.length_append, List.length_cons, Nat.mul_succ]; omega
theorem LayA.step {y z t : List Nat} {k c : Nat} {ws : List (List Nat × Nat)} (h : LayA y z t k ws) (hc : t[k]? = some c) : LayA y z t (k + 1) (ws.flatMap (stepA y z k c)) := by
  refine ⟨?_, ?_, ?_⟩
  · rw [← h.tot, List.flatMap_assoc]
    have : ∀ l : List (List Nat × Nat), (∀ p ∈ l, p ∈ ws) → (l.flatMap fun p => (stepA y z k c p).flatMap (restA y z t (k + 1))) = l.flatMap (restA y z t k) := by
      intro l
      induction l with
      | nil => intro _; rfl
      | cons p l ih =>
        intro hl
        rw [List.flatMap_cons, List.flatMap_cons, ih fun q hq => hl q (List.mem_cons_of_mem _ hq), ← rest_step (h.mem p (hl p List.mem_cons_self)).1 hc]
    exact this ws fun _ h => h
  · have := flatMap_len (stepA_len (y := y) (z := z) (k := k) (c := c)) ws
    have := h.sz
    rw [Nat.pow_succ]; omega
  · intro p hp
    obtain ⟨q, hq, hp⟩ := List.mem_flatMap.mp hp
    obtain ⟨m1, m2, m3, m4⟩ := h.mem q hq
    unfold stepA at hp
    rcases List.mem_append.mp hp with hp | hp
    · split at hp
      · rename_i e
        have := (List.getElem?_eq_some_iff.mp e).1
        rw [List.mem_singleton.mp hp]
        simp; omega
      · simp at hp
    · split at hp
      · rename_i e
        have := (List.getElem?_eq_some_iff.mp e).1
        rw [List.mem_singleton.mp hp]
        simp; omega
      · simp at hp
theorem LayA.few {y z t : List Nat} {k : Nat} {ws : List (List Nat × Nat)} (h : LayA y z t k ws) (hy : y.length ≤ 5) (hz : z.length ≤ 5) : ws.length ≤ 1024 := by
  by_cases hk : k ≤ 10
  · exact Nat.le_trans h.sz (Nat.pow_le_pow_right (by decide) hk)
  · cases ws with
    | nil => simp
    | cons p ws =>
      obtain ⟨m1, m2, m3, m4⟩ := h.mem p List.mem_cons_self
      omega
theorem LayA.done {y z t : List Nat} {ws : List (List Nat × Nat)} (h : LayA y z t t.length ws) : (ws.filter fun p => decide (p.2 = y.length) && decide (t.length = y.length + z.length)).map (·.1) = allA y z t := by
  rw [← h.tot]
  have er : restA y z t t.length = fun p => (allA (y.drop p.2) (z.drop (t.length - p.2)) []).map (p.1 ++ ·) := by funext p; unfold restA; rw [List.drop_length]
  rw [er]
  have : ∀ l : List (List Nat × Nat), (∀ p ∈ l, p ∈ ws) → (l.filter fun p => decide (p.2 = y.length) && decide (t.length = y.length + z.length)).map (·.1) = l.flatMap (fun p => (allA (y.drop p.2) (z.drop (t.length - p.2)) []).map (p.1 ++ ·)) := by
    intro l
    induction l with
    | nil => intro _; rfl
    | cons p l ih =>
      intro hl
      obtain ⟨m1, m2, m3, m4⟩ := h.mem p (hl p List.mem_cons_self)
      have ih := ih fun q hq => hl q (List.mem_cons_of_mem _ hq)
      rw [List.flatMap_cons, List.filter_cons]
      show _ = (allA (y.drop p.2) (z.drop (t.length - p.2)) []).map (p.1 ++ ·) ++ _
      rw [allA]
      have iff : (List.drop p.2 y = [] ∧ List.drop (t.length - p.2) z = []) ↔ (p.2 = y.length ∧ t.length = y.length + z.length) := by
        rw [List.drop_eq_nil_iff, List.drop_eq_nil_iff]; omega
      by_cases e : p.2 = y.length ∧ t.length = y.length + z.length
      · rw [if_pos (by simp [e.1, e.2]), if_pos (iff.mpr e), List.map_cons, ih]
        simp
      · rw [if_neg (by simp; omega), if_neg (fun q => e (iff.mp q)), ih]
        simp
  exact this ws fun _ h => h
theorem all_pow : ∀ t y z : List Nat, (allA y z t).length ≤ 2 ^ t.length
  | [], y, z => by unfold allA; split <;> simp
  | c :: t, y, z => by
    have h1 := all_pow t y.tail z
    have h2 := all_pow t y z.tail
    unfold allA
    rw [List.length_append, List.length_cons, Nat.pow_succ]
    have a1 : (if y.head? = some c then (allA y.tail z t).map (48 :: ·) else []).length ≤ 2 ^ t.length := by
      split
      · rw [List.length_map]; exact h1
      · simp
    have a2 : (if z.head? = some c then (allA y z.tail t).map (49 :: ·) else []).length ≤ 2 ^ t.length := by
      split
      · rw [List.length_map]; exact h2
      · simp
    omega
theorem all_few {y z t : List Nat} (hy : y.length ≤ 5) (hz : z.length ≤ 5) : (allA y z t).length ≤ 1024 := by
  by_cases h : allA y z t = []
  · rw [h]; simp
  · have := canB_len _ _ _ ((canB_all t y z).mpr h)
    exact Nat.le_trans (all_pow t y z) (Nat.pow_le_pow_right (by decide) (show t.length ≤ 10 by omega))
theorem at_head (l : List (List Nat)) : atI ((l.map fun w => V.str (S w)) ++ [V.non]) 0 = some (optV l.head?) := by
  cases l with
  | nil => rfl
  | cons a l => exact atI_get (i := 0) rfl
theorem at_last (l : List (List Nat)) : atI ([V.non] ++ (l.map fun w => V.str (S w))) (-1) = some (optV l.getLast?) := by
  rcases List.eq_nil_or_concat l with rfl | ⟨r, a, rfl⟩
  · rfl
  · unfold atI ixN
    rw [if_neg (by omega), if_pos (by simp; omega)]
    simp only [List.singleton_append, List.length_cons, List.length_map, List.length_append, List.length_nil]
    rw [show ((-1 : Int) + (((r.concat a).length + 1 : Nat) : Int)).toNat = r.length + 1 by rw [List.length_concat]; omega]
    simp [optV]

end Law

namespace Law
open PySem PySem.Spec PyProof.Rows L2 Go
--# math can
/-- how many ways weave t of y and z -/
def ways : List Nat → List Nat → List Nat → Nat
  | y, z, [] => if y = [] ∧ z = [] then 1 else 0
  | y, z, c :: t => (if y.head? = some c then ways y.tail z t else 0) + (if z.head? = some c then ways y z.tail t else 0)
def wayT (y z t : List Nat) (i j : Nat) : Nat := ways (y.drop i) (z.drop j) (t.drop (i + j))
def waysW (y z t : List Nat) : Nat := if t.length = y.length + z.length then ways y z t else 0
theorem wayT_end {y z t : List Nat} (h : t.length = y.length + z.length) : wayT y z t y.length z.length = 1 := by
  unfold wayT
  rw [List.drop_length, List.drop_length, ← h, List.drop_length]
  rfl
theorem wayT_step {y z t : List Nat} {i j : Nat} (h : t.length = y.length + z.length) (hi : i ≤ y.length) (hj : j ≤ z.length) (hn : ¬ (i = y.length ∧ j = z.length)) :
    wayT y z t i j = (if i < y.length ∧ y[i]? = t[i + j]? then wayT y z t (i + 1) j else 0) + (if j < z.length ∧ z[j]? = t[i + j]? then wayT y z t i (j + 1) else 0) := by
  have hk : i + j < t.length := by omega
  unfold wayT
  rw [List.drop_eq_getElem_cons hk, ways, List.head?_drop, List.head?_drop, List.tail_drop, List.tail_drop, List.getElem?_eq_getElem hk, show i + 1 + j = i + j + 1 by omega, show i + (j + 1) = i + j + 1 by omega]
  have e1 : (y[i]? = some t[i + j]) ↔ (i < y.length ∧ y[i]? = some t[i + j]) := ⟨fun e => ⟨(List.getElem?_eq_some_iff.mp e).1, e⟩, fun e => e.2⟩
  have e2 : (z[j]? = some t[i + j]) ↔ (j < z.length ∧ z[j]? = some t[i + j]) := ⟨fun e => ⟨(List.getElem?_eq_some_iff.mp e).1, e⟩, fun e => e.2⟩
  simp only [← e1, ← e2]
/-- a whole rows from behind and b places of the next are told -/
def WaysTab (y z t : List Nat) (kvs : List (List Key × V)) (a b : Nat) : Prop := ∀ i j, i ≤ y.length → j ≤ z.length → Done y.length z.length a b i j → valV kvs (ij i j) = some (.int (wayT y z t i j : Nat))
theorem WaysTab.first (y z t : List Nat) : WaysTab y z t [] 0 0 := fun i j hi hj d => by unfold Done at d; omega
theorem WaysTab.row {y z t : List Nat} {kvs : List (List Key × V)} {a : Nat} (h : WaysTab y z t kvs a (z.length + 1)) : WaysTab y z t kvs (a + 1) 0 := fun i j hi hj d => h i j hi hj (by unfold Done at d ⊢; omega)
theorem WaysTab.all {y z t : List Nat} {kvs : List (List Key × V)} (h : WaysTab y z t kvs (y.length + 1) 0) : ∀ i j, i ≤ y.length → j ≤ z.length → valV kvs (ij i j) = some (.int (wayT y z t i j : Nat)) := fun i j hi hj => h i j hi hj (by unfold Done; omega)
theorem WaysTab.step {y z t : List Nat} {kvs : List (List Key × V)} {a b : Nat} (h : WaysTab y z t kvs a b) (ha : a ≤ y.length) (hb : b ≤ z.length) : WaysTab y z t (putK kvs (ij (y.length - a) (z.length - b)) (.int (wayT y z t (y.length - a) (z.length - b) : Nat))) a (b + 1) := by
  intro i j hi hj d
  rw [valV_put]
  by_cases e : i = y.length - a ∧ j = z.length - b
  · rw [if_pos (ij_inj.mpr e), e.1, e.2]
  · rw [if_neg (fun z => e (ij_inj.mp z))]
    exact h i j hi hj (by unfold Done at d ⊢; omega)
theorem waysW_zero {y z t : List Nat} (h : t.length = y.length + z.length) : wayT y z t 0 0 = waysW y z t := by
  unfold waysW; rw [if_pos h]; rfl
theorem waysW_no {y z t : List Nat} (h : ¬ t.length = y.length + z.length) : waysW y z t = 0 := by
  unfold waysW; rw [if_neg h]
/-- behind k signs: by how many letters of the first row are taken, how many ways -/
def CntL (y z t : List Nat) (k : Nat) (kvs : List (Key × V)) : Prop := if t.length = y.length + z.length then ∀ a : Nat, a ≤ y.length → a ≤ k → k - a ≤ z.length → valV kvs (.inl (a : Int)) = some (.int (wayT y z t a (k - a) : Nat)) else kvs = []
theorem CntL.zero {y z t : List Nat} {kvs : List (Key × V)} (h : CntL y z t 0 kvs) : (valV kvs (.inl (0 : Int))).getD (.int 0) = .int (waysW y z t : Nat) := by
  unfold CntL at h
  split at h
  · rename_i e
    have := h 0 (Nat.zero_le _) (Nat.le_refl _) (Nat.zero_le _)
    rw [show (.inl (0 : Int) : Key) = .inl ((0 : Nat) : Int) from rfl, this, waysW_zero e]; rfl
  · rename_i e
    rw [h, waysW_no e]; rfl

end Law

namespace Law
open PySem PySem.Spec PyProof.Rows L2 Go
--# math ways
/-- the so-manieth way -/
def aheadH (y z : List Nat) (c : Nat) (t : List Nat) : Nat := if y.head? = some c then ways y.tail z t else 0
def wayN : List Nat → List Nat → List Nat → Nat → List Nat
  | _, _, [], _ => []
  | y, z, c :: t, n => if n < aheadH y z c t then 48 :: wayN y.tail z t n else 49 :: wayN y z.tail t (n - aheadH y z c t)
def wayNT (y z t : List Nat) (i j n : Nat) : List Nat := wayN (y.drop i) (z.drop j) (t.drop (i + j)) n
def aheadT (y z t : List Nat) (i j : Nat) : Nat := if y[i]? = t[i + j]? then wayT y z t (i + 1) j else 0
theorem aheadT_H {y z t : List Nat} {i j : Nat} (hk : i + j < t.length) : aheadH (y.drop i) (z.drop j) t[i + j] (t.drop (i + j + 1)) = aheadT y z t i j := by
  unfold aheadH aheadT wayT
  rw [List.head?_drop, List.tail_drop, List.getElem?_eq_getElem hk, show i + 1 + j = i + j + 1 by omega]
theorem wayNT_step {y z t : List Nat} {i j n : Nat} (hk : i + j < t.length) : wayNT y z t i j n = if n < aheadT y z t i j then 48 :: wayNT y z t (i + 1) j n else 49 :: wayNT y z t i (j + 1) (n - aheadT y z t i j) := by
  rw [← aheadT_H hk]
  unfold wayNT
  rw [List.drop_eq_getElem_cons hk, wayN, List.tail_drop, List.tail_drop, show i + 1 + j = i + j + 1 by omega, show i + (j + 1) = i + j + 1 by omega]
theorem wayNT_end {y z t : List Nat} {i j n : Nat} (hk : t.length ≤ i + j) : wayNT y z t i j n = [] := by
  unfold wayNT
  rw [List.drop_eq_nil_of_le hk]; unfold wayN; rfl
theorem wayT_split {y z t : List Nat} {i j : Nat} (h : t.length = y.length + z.length) (hi : i ≤ y.length) (hj : j ≤ z.length) (hk : i + j < t.length) :
    wayT y z t i j = aheadT y z t i j + (if z[j]? = t[i + j]? then wayT y z t i (j + 1) else 0) := by
  rw [wayT_step h hi hj (by omega)]
  unfold aheadT
  rw [List.getElem?_eq_getElem hk]
  congr 1
  · by_cases e : y[i]? = some t[i + j]
    · rw [if_pos e, if_pos ⟨(List.getElem?_eq_some_iff.mp e).1, e⟩]
    · rw [if_neg e, if_neg (fun z => e z.2)]
  · by_cases e : z[j]? = some t[i + j]
    · rw [if_pos e, if_pos ⟨(List.getElem?_eq_some_iff.mp e).1, e⟩]
    · rw [if_neg e, if_neg (fun z => e z.2)]
theorem ahead_lt {y z t : List Nat} {i j n : Nat} (hk : i + j < t.length) (hn : n < aheadT y z t i j) : i < y.length ∧ n < wayT y z t (i + 1) j := by
  unfold aheadT at hn
  rw [List.getElem?_eq_getElem hk] at hn
  split at hn
  · rename_i e
    exact ⟨(List.getElem?_eq_some_iff.mp e).1, hn⟩
  · omega
theorem ahead_ge {y z t : List Nat} {i j n : Nat} (h : t.length = y.length + z.length) (hi : i ≤ y.length) (hj : j ≤ z.length) (hk : i + j < t.length) (hw : n < wayT y z t i j) (hn : ¬ n < aheadT y z t i j) : j < z.length ∧ n - aheadT y z t i j < wayT y z t i (j + 1) := by
  rw [wayT_split h hi hj hk] at hw
  rw [List.getElem?_eq_getElem hk] at hw
  split at hw
  · rename_i e
    exact ⟨(List.getElem?_eq_some_iff.mp e).1, by omega⟩
  · omega
/-- the place of a way -/
def placeN : List Nat → List Nat → List Nat → List Nat → Nat
  | y, z, c :: t, d :: w => if d = 48 then placeN y.tail z t w else aheadH y z c t + placeN y z.tail t w
  | _, _, _, _ => 0
def placeT (y z t w : List Nat) (i j : Nat) : Nat := placeN (y.drop i) (z.drop j) (t.drop (i + j)) (w.drop (i + j))
theorem placeT_step {y z t w : List Nat} {i j d : Nat} (hk : i + j < t.length) (hd : w[i + j]? = some d) : placeT y z t w i j = if d = 48 then placeT y z t w (i + 1) j else aheadT y z t i j + placeT y z t w i (j + 1) := by
  obtain ⟨hl, e⟩ := List.getElem?_eq_some_iff.mp hd
  rw [← aheadT_H hk]
  unfold placeT
  rw [List.drop_eq_getElem_cons hk, List.drop_eq_getElem_cons hl, e, placeN, List.tail_drop, List.tail_drop, show i + 1 + j = i + j + 1 by omega, show i + (j + 1) = i + j + 1 by omega]
theorem placeT_end {y z t w : List Nat} {i j : Nat} (hk : w.length ≤ i + j) : placeT y z t w i j = 0 := by
  unfold placeT
  rw [List.drop_eq_nil_of_le (as := w) hk]
  unfold placeN
  split
  · rename_i h; cases h
  · rfl

end Law

namespace Law
open PySem PySem.Spec PyProof.Rows L2 Go
--# math ways
def fact : Nat → Nat
  | 0 => 1
  | n + 1 => (n + 1) * fact n
theorem ways_l (y z t : List Nat) (c : Nat) (hz : z.head? ≠ some c) : ways (c :: y) z (c :: t) = ways y z t := by
  rw [ways, if_neg hz, List.head?_cons, if_pos rfl]; rfl
theorem ways_r (y z t : List Nat) (c : Nat) (hy : y.head? ≠ some c) : ways y (c :: z) (c :: t) = ways y z t := by
  rw [ways, if_neg hy, List.head?_cons, if_pos rfl, Nat.zero_add]; rfl
theorem ways_b (y z t : List Nat) (c : Nat) : ways (c :: y) (c :: z) (c :: t) = ways y (c :: z) t + ways (c :: y) z t := by
  rw [ways, List.head?_cons, List.head?_cons, if_pos rfl, if_pos rfl]; rfl
/-- rows of one letter: the ways are as many as the picks -/
theorem ways_rep (c : Nat) : ∀ k n m, n + m = k → ways (List.replicate n c) (List.replicate m c) (List.replicate k c) * (fact n * fact m) = fact k
  | 0, n, m, h => by
    have e1 : n = 0 := by omega
    have e2 : m = 0 := by omega
    subst e1 e2
    rfl
  | k + 1, 0, m, h => by
    have e : m = k + 1 := by omega
    subst e
    have ih := ways_rep c k 0 k (by omega)
    show ways [] (c :: List.replicate k c) (c :: List.replicate k c) * (1 * ((k + 1) * fact k)) = (k + 1) * fact k
    rw [ways_r _ _ _ _ (by simp)]
    have ih : ways [] (List.replicate k c) (List.replicate k c) * (1 * fact k) = fact k := ih
    rw [Nat.one_mul] at ih ⊢
    rw [Nat.mul_left_comm, ih]
  | k + 1, n + 1, 0, h => by
    have e : n = k := by omega
    subst e
    have ih := ways_rep c n n 0 (by omega)
    show ways (c :: List.replicate n c) [] (c :: List.replicate n c) * (((n + 1) * fact n) * 1) = (n + 1) * fact n
    rw [ways_l _ _ _ _ (by simp)]
    have ih : ways (List.replicate n c) [] (List.replicate n c) * (fact n * 1) = fact n := ih
    rw [Nat.mul_one] at ih ⊢
    rw [Nat.mul_left_comm, ih]
  | k + 1, n + 1, m + 1, h => by
    have ih1 := ways_rep c k n (m + 1) (by omega)
    have ih2 := ways_rep c k (n + 1) m (by omega)
    have e1 : ways (List.replicate (n + 1) c) (List.replicate (m + 1) c) (List.replicate (k + 1) c) = ways (List.replicate n c) (List.replicate (m + 1) c) (List.replicate k c) + ways (List.replicate (n + 1) c) (List.replicate m c) (List.replicate k c) := ways_b _ _ _ _
    rw [e1, Nat.add_mul]
    generalize ways (List.replicate n c) (List.replicate (m + 1) c) (List.replicate k c) = u at *
    generalize ways (List.replicate (n + 1) c) (List.replicate m c) (List.replicate k c) = v at *
    have f1 : fact (n + 1) = (n + 1) * fact n := rfl
    have f2 : fact (m + 1) = (m + 1) * fact m := rfl
    have f3 : fact (k + 1) = (k + 1) * fact k := rfl
    have a1 : u * (fact (n + 1) * fact (m + 1)) = (n + 1) * fact k := by
      rw [f1, Nat.mul_assoc (n + 1), Nat.mul_left_comm, ih1]
    have a2 : v * (fact (n + 1) * fact (m + 1)) = (m + 1) * fact k := by
      rw [f2, Nat.mul_left_comm (fact (n + 1)), Nat.mul_left_comm, ih2]
    rw [a1, a2, f3, ← Nat.add_mul, show n + 1 + (m + 1) = k + 1 by omega]
theorem ways_60 (c : Nat) : waysW (List.replicate 60 c) (List.replicate 60 c) (List.replicate 120 c) = 96614908840363322603893139521372656 := by
  unfold waysW
  rw [List.length_replicate, List.length_replicate, if_pos rfl]
  have h := ways_rep c 120 60 60 rfl
  have p : 0 < fact 60 * fact 60 := by decide +kernel
  refine Nat.eq_of_mul_eq_mul_right p (h.trans ?_)
  decide +kernel

end Law

namespace Law
open PySem PySem.Spec PyProof.Rows L2 Go
--# math weave
--# math wayn
--# math fact
theorem Fits.nil : Fits [] [] [] := ⟨by simp, rfl, rfl⟩
theorem Fits.cons0 {y z w : List Nat} {c : Nat} (h : Fits y z w) : Fits (c :: y) z (48 :: w) := by
  obtain ⟨h1, h2, h3⟩ := h
  refine ⟨fun x hx => ?_, by simp [h2], by simp [h3]⟩
  rcases List.mem_cons.mp hx with rfl | hx
  · exact .inl rfl
  · exact h1 x hx
theorem Fits.cons1 {y z w : List Nat} {c : Nat} (h : Fits y z w) : Fits y (c :: z) (49 :: w) := by
  obtain ⟨h1, h2, h3⟩ := h
  refine ⟨fun x hx => ?_, by simp [h2], by simp [h3]⟩
  rcases List.mem_cons.mp hx with rfl | hx
  · exact .inr rfl
  · exact h1 x hx
theorem head_cons {y : List Nat} {c : Nat} (h : y.head? = some c) : y = c :: y.tail := by
  cases y with
  | nil => cases h
  | cons a y => rw [show a = c from Option.some.inj h]; rfl
theorem way_num : ∀ (t y z : List Nat) (n : Nat), n < ways y z t → Fits y z (wayN y z t n) ∧ weave y z (wayN y z t n) = t ∧ placeN y z t (wayN y z t n) = n
  | [], y, z, n, h => by
    unfold ways at h
    split at h
    · rename_i e
      obtain ⟨rfl, rfl⟩ := e
      unfold wayN
      refine ⟨Fits.nil, by unfold weave; rfl, ?_⟩
      unfold placeN
      omega
    · omega
  | c :: t, y, z, n, h => by
    unfold ways at h
    unfold wayN
    unfold aheadH
    by_cases hn : n < (if y.head? = some c then ways y.tail z t else 0)
    · rw [if_pos hn]
      split at hn
      · rename_i e
        obtain ⟨f, g, k⟩ := way_num t y.tail z n hn
        have ey := head_cons e
        generalize wayN y.tail z t n = w at f g k
        refine ⟨by rw [ey]; exact f.cons0, ?_, ?_⟩
        · rw [ey]
          unfold weave
          rw [if_pos rfl]
          show c :: weave y.tail z w = _
          rw [g]
        · unfold placeN
          rw [if_pos rfl]; exact k
      · omega
    · rw [if_neg hn]
      have hz : z.head? = some c := by
        by_cases e : z.head? = some c
        · exact e
        · rw [if_neg e] at h; omega
      rw [if_pos hz] at h
      have h2 : n - (if y.head? = some c then ways y.tail z t else 0) < ways y z.tail t := by omega
      obtain ⟨f, g, k⟩ := way_num t y z.tail _ h2
      have ez := head_cons hz
      generalize ea : (if y.head? = some c then ways y.tail z t else 0) = a at *
      generalize wayN y z.tail t (n - a) = w at f g k
      refine ⟨by rw [ez]; exact f.cons1, ?_, ?_⟩
      · rw [ez]
        unfold weave
        rw [if_neg (by decide)]
        show c :: weave y z.tail w = _
        rw [g]
      · unfold placeN aheadH
        rw [if_neg (by decide), k, ea]
        omega
theorem ways_pos : ∀ (w y z : List Nat), Fits y z w → 0 < ways y z (weave y z w)
  | [], y, z, h => by
    obtain ⟨_, h2, h3⟩ := h
    have e1 : y = [] := List.length_eq_zero_iff.mp (by rw [← h2]; rfl)
    have e2 : z = [] := List.length_eq_zero_iff.mp (by rw [← h3]; rfl)
    subst e1 e2
    decide
  | c :: w, y, z, h => by
    rcases h.1 c List.mem_cons_self with rfl | rfl
    · obtain ⟨a, y', rfl, g, e⟩ := h.zero
      have := ways_pos w y' z g
      rw [e, ways, List.head?_cons, if_pos rfl]
      show 0 < ways y' z (weave y' z w) + _
      omega
    · obtain ⟨a, z', rfl, g, e⟩ := h.one
      have := ways_pos w y z' g
      rw [e, ways, List.head?_cons (a := a) (l := z'), if_pos (rfl : some a = some a)]
      show 0 < _ + ways y z' (weave y z' w)
      omega
/-! rows of one letter -/
def wayR (n m : Nat) : Nat := fact (n + m) / (fact n * fact m)
theorem fact_pos : ∀ n, 0 < fact n
  | 0 => by decide
  | n + 1 => Nat.mul_pos (by omega) (fact_pos n)
theorem ways_R (c n m : Nat) : ways (List.replicate n c) (List.replicate m c) (List.replicate (n + m) c) = wayR n m := by
  unfold wayR
  rw [← ways_rep c (n + m) n m rfl]
  exact (Nat.mul_div_cancel _ (Nat.mul_pos (fact_pos n) (fact_pos m))).symm
theorem place_zeros (c : Nat) : ∀ n z t, placeN (List.replicate n c) z t (List.replicate n 48) = 0
  | 0, z, t => by unfold placeN; split <;> first | rfl | (rename_i h; cases h)
  | n + 1, z, [] => by unfold placeN; rfl
  | n + 1, z, d :: t => by
    rw [List.replicate_succ, List.replicate_succ, placeN, if_pos rfl]
    exact place_zeros c n z t
def placeR (n : Nat) : Nat → Nat
  | 0 => 0
  | m + 1 => wayR n (m + 1) + placeR n m
theorem place_R (c n : Nat) : ∀ m, placeN (List.replicate (n + 1) c) (List.replicate m c) (List.replicate (n + 1 + m) c) (List.replicate m 49 ++ List.replicate (n + 1) 48) = placeR n m
  | 0 => place_zeros c (n + 1) _ _
  | m + 1 => by
    have ih := place_R c n m
    have e1 : List.replicate (n + 1 + (m + 1)) c = c :: List.replicate (n + 1 + m) c := rfl
    have e2 : List.replicate (m + 1) 49 ++ List.replicate (n + 1) 48 = 49 :: (List.replicate m 49 ++ List.replicate (n + 1) 48) := rfl
    rw [e1, e2, placeN, if_neg (by decide)]
    show aheadH (List.replicate (n + 1) c) (List.replicate (m + 1) c) c _ + placeN (List.replicate (n + 1) c) (List.replicate m c) _ _ = _
    rw [ih]
    unfold aheadH
    show _ = wayR n (m + 1) + placeR n m
    rw [show (List.replicate (n + 1) c).head? = some c from rfl, if_pos rfl, show (List.replicate (n + 1) c).tail = List.replicate n c from rfl, show n + 1 + m = n + (m + 1) by omega, ways_R]

end Law

namespace Law
open PySem PySem.Spec PyProof.Rows L2 Go
--# math ends
--# math allw
--# math weave
--# math wayn
--# math placew
theorem ways_comm : ∀ t y z : List Nat, ways y z t = ways z y t
  | [], y, z => by unfold ways; cases y <;> cases z <;> simp
  | c :: t, y, z => by unfold ways; rw [ways_comm t y.tail z, ways_comm t y z.tail, Nat.add_comm]
theorem waysW_comm (y z t : List Nat) : waysW y z t = waysW z y t := by unfold waysW; rw [ways_comm, Nat.add_comm y.length]
theorem canB_ways : ∀ t y z : List Nat, canB y z t = decide (0 < ways y z t)
  | [], y, z => by unfold canB ways; cases y <;> cases z <;> simp
  | c :: t, y, z => by
    unfold canB ways
    rw [canB_ways t y.tail z, canB_ways t y z.tail, Bool.eq_iff_iff]
    simp only [Bool.or_eq_true, Bool.and_eq_true, beq_iff_eq, decide_eq_true_eq]
    by_cases e1 : y.head? = some c <;> by_cases e2 : z.head? = some c <;> simp [e1, e2] <;> omega
theorem ways_len {y z t : List Nat} (h : 0 < ways y z t) : t.length = y.length + z.length := canB_len _ _ _ (by rw [canB_ways]; exact decide_eq_true h)
theorem waysW_B (y z t : List Nat) : waysW y z t = ways y z t := by
  unfold waysW
  split
  · rfl
  · rename_i h
    by_cases e : 0 < ways y z t
    · exact absurd (ways_len e) h
    · omega
theorem canW_ways (y z t : List Nat) : canW y z t = decide (0 < waysW y z t) := by rw [canW_B, canB_ways, waysW_B]
/-- by the last letter -/
def lastW (y z : List Nat) (c : Nat) (t : List Nat) : Nat := (if y.getLast? = some c then ways y.dropLast z t else 0) + (if z.getLast? = some c then ways y z.dropLast t else 0)
theorem ways_last : ∀ (t y z : List Nat) (c : Nat), ways y z (t ++ [c]) = lastW y z c t
  | [], y, z, c => by
    unfold lastW
    show ways y z [c] = _
    unfold ways
    cases y with
    | nil =>
      cases z with
      | nil => simp
      | cons b z => cases z <;> simp [ways]
    | cons a y =>
      cases y with
      | nil =>
        cases z with
        | nil => simp [ways]
        | cons b z => cases z <;> simp [ways]
      | cons a2 y =>
        cases z with
        | nil => simp [ways]
        | cons b z => cases z <;> simp [ways]
  | d :: t, y, z, c => by
    have h1 := ways_last t y.tail z c
    have h2 := ways_last t y z.tail c
    show ways y z (d :: (t ++ [c])) = _
    rw [ways, h1, h2]
    unfold lastW
    have ey : ∀ z' : List Nat, (if y.getLast? = some c then ways y.dropLast z' (d :: t) else 0) = (if y.head? = some d then (if y.tail.getLast? = some c then ways y.tail.dropLast z' t else 0) else 0) + (if z'.head? = some d then (if y.getLast? = some c then ways y.dropLast z'.tail t else 0) else 0) := by
      intro z'
      cases y with
      | nil => simp
      | cons a y =>
        cases y with
        | nil =>
          by_cases e : a = c <;> simp [ways, e]
        | cons a2 y =>
          have e1 : (a :: a2 :: y).getLast? = (a2 :: y).getLast? := by simp [List.getLast?_cons]
          by_cases e : (a2 :: y).getLast? = some c
          · rw [e1, if_pos e, List.dropLast_cons_of_ne_nil (by simp), ways]
            simp only [List.head?_cons, List.tail_cons, e, if_true]
            first | done | rfl | (congr 1)
          · simp only [e1, e, List.tail_cons, if_false, ite_self, Nat.add_zero]
    have ez : ∀ y' : List Nat, (if z.getLast? = some c then ways y' z.dropLast (d :: t) else 0) = (if y'.head? = some d then (if z.getLast? = some c then ways y'.tail z.dropLast t else 0) else 0) + (if z.head? = some d then (if z.tail.getLast? = some c then ways y' z.tail.dropLast t else 0) else 0) := by
      intro y'
      cases z with
      | nil => simp
      | cons a z =>
        cases z with
        | nil =>
          by_cases e : a = c <;> simp [ways, e]
        | cons a2 z =>
          have e1 : (a :: a2 :: z).getLast? = (a2 :: z).getLast? := by simp [List.getLast?_cons]
          by_cases e : (a2 :: z).getLast? = some c
          · rw [e1, if_pos e, List.dropLast_cons_of_ne_nil (by simp), ways]
            simp only [List.head?_cons, List.tail_cons, e, if_true]
            first | done | rfl | (congr 1)
          · simp only [e1, e, List.tail_cons, if_false, ite_self, Nat.add_zero]
    rw [ey z, ez y]
    by_cases d1 : y.head? = some d <;> by_cases d2 : z.head? = some d <;> simp only [d1, d2, if_true, if_false, Nat.add_zero, Nat.zero_add] <;> omega
theorem ways_rev : ∀ t y z : List Nat, ways y.reverse z.reverse t.reverse = ways y z t
  | [], y, z => by unfold ways; simp
  | c :: t, y, z => by
    rw [List.reverse_cons, ways_last]
    unfold lastW
    rw [List.getLast?_reverse, List.getLast?_reverse, List.dropLast_reverse, List.dropLast_reverse, ways_rev t y.tail z, ways_rev t y z.tail]
    show _ = ways y z (c :: t)
    rw [ways]
theorem waysW_rev (y z t : List Nat) : waysW y.reverse z.reverse t.reverse = waysW y z t := by rw [waysW_B, waysW_B, ways_rev]
theorem canW_rev (y z t : List Nat) : canW y.reverse z.reverse t.reverse = canW y z t := by rw [canW_ways, canW_ways, waysW_rev]
theorem canW_comm (y z t : List Nat) : canW y z t = canW z y t := by rw [canW_ways, canW_ways, waysW_comm]
/-! the signs exchanged -/
def flipW (w : List Nat) : List Nat := w.map fun c => 97 - c
theorem flip_flip {w : List Nat} (h : ∀ x ∈ w, x = 48 ∨ x = 49) : flipW (flipW w) = w := by
  unfold flipW
  rw [List.map_map]
  conv => rhs; rw [← List.map_id w]
  exact List.map_congr_left fun x hx => by rcases h x hx with rfl | rfl <;> rfl
theorem wayN_flip : ∀ (t y z : List Nat) (n : Nat), n < ways y z t → wayN z y t (ways y z t - 1 - n) = flipW (wayN y z t n)
  | [], y, z, n, h => by unfold wayN; rfl
  | c :: t, y, z, n, h => by
    have ew : ways y z (c :: t) = aheadH y z c t + aheadH z y c t := by
      unfold aheadH; rw [ways, ways_comm t y z.tail]
    rw [ew] at h ⊢
    unfold wayN
    by_cases hn : n < aheadH y z c t
    · rw [if_pos hn, if_neg (by omega)]
      have e1 : y.head? = some c := by
        unfold aheadH at hn
        by_cases e : y.head? = some c
        · exact e
        · rw [if_neg e] at hn; omega
      have e2 : aheadH y z c t = ways y.tail z t := by unfold aheadH; rw [if_pos e1]
      have ih := wayN_flip t y.tail z n (by omega)
      rw [show aheadH y z c t + aheadH z y c t - 1 - n - aheadH z y c t = ways y.tail z t - 1 - n by omega, ih]
      rfl
    · rw [if_neg hn, if_pos (by omega)]
      have e1 : z.head? = some c := by
        unfold aheadH at h hn
        by_cases e : z.head? = some c
        · exact e
        · rw [if_neg e] at h; omega
      have e2 : aheadH z y c t = ways z.tail y t := by unfold aheadH; rw [if_pos e1]
      have e3 := ways_comm t y z.tail
      have ih := wayN_flip t y z.tail (n - aheadH y z c t) (by omega)
      rw [show aheadH y z c t + aheadH z y c t - 1 - n = ways y z.tail t - 1 - (n - aheadH y z c t) by omega, ih]
      rfl
theorem wayN_lt : ∀ (t y z : List Nat) (n m : Nat), n < m → m < ways y z t → wayN y z t n < wayN y z t m
  | [], y, z, n, m, h1, h2 => by
    unfold ways at h2
    split at h2 <;> omega
  | c :: t, y, z, n, m, h1, h2 => by
    have ew : ways y z (c :: t) = aheadH y z c t + (if z.head? = some c then ways y z.tail t else 0) := by unfold aheadH; rw [ways]
    rw [ew] at h2
    unfold wayN
    by_cases hm : m < aheadH y z c t
    · rw [if_pos hm, if_pos (by omega)]
      have e2 : aheadH y z c t ≤ ways y.tail z t := by unfold aheadH; split <;> omega
      exact List.cons_lt_cons_self.mpr (wayN_lt t y.tail z n m h1 (by omega))
    · rw [if_neg hm]
      by_cases hn : n < aheadH y z c t
      · rw [if_pos hn]
        exact List.Lex.rel (by decide)
      · rw [if_neg hn]
        have e2 : (if z.head? = some c then ways y z.tail t else 0) ≤ ways y z.tail t := by split <;> omega
        exact List.cons_lt_cons_self.mpr (wayN_lt t y z.tail _ _ (by omega) (by omega))
theorem wayN_first : ∀ t y z : List Nat, 0 < ways y z t → wayN y z t 0 = greedy true y z t
  | [], y, z, h => by unfold wayN greedy; rfl
  | c :: t, y, z, h => by
    unfold wayN greedy
    rw [Bool.true_or, Bool.and_true, canB_ways]
    by_cases e : 0 < aheadH y z c t
    · rw [if_pos e]
      have e1 : y.head? = some c := by
        unfold aheadH at e
        by_cases q : y.head? = some c
        · exact q
        · rw [if_neg q] at e; omega
      have e2 : 0 < ways y.tail z t := by unfold aheadH at e; rwa [if_pos e1] at e
      rw [beq_iff_eq.mpr e1, decide_eq_true e2, Bool.true_and, if_pos rfl, wayN_first t y.tail z e2]
    · rw [if_neg e]
      have ea : aheadH y z c t = 0 := by omega
      have e2 : 0 < ways y z.tail t := by
        unfold ways at h
        unfold aheadH at ea
        rw [ea] at h
        split at h <;> omega
      have e3 : (y.head? == some c && decide (0 < ways y.tail z t)) = false := by
        unfold aheadH at ea
        rw [Bool.and_eq_false_iff]
        by_cases q : y.head? = some c
        · rw [if_pos q] at ea; right; rw [ea]; rfl
        · left; exact beq_eq_false_iff_ne.mpr q
      rw [e3, if_neg (by decide), ea, wayN_first t y z.tail e2]
theorem greedy_flip : ∀ t y z : List Nat, canB y z t = true → greedy false y z t = flipW (greedy true z y t)
  | [], y, z, h => by unfold greedy; rfl
  | c :: t, y, z, h => by
    unfold canB at h
    unfold greedy
    rw [Bool.true_or, Bool.and_true, Bool.false_or]
    have c1 : canB z y.tail t = canB y.tail z t := by rw [canB_ways, canB_ways, ways_comm]
    have c2 : canB z.tail y t = canB y z.tail t := by rw [canB_ways, canB_ways, ways_comm]
    rw [c2]
    by_cases e2 : (z.head? == some c && canB y z.tail t) = true
    · rw [e2]
      simp only [Bool.not_true, Bool.and_false, Bool.false_eq_true, if_false, if_true]
      rw [greedy_flip t y z.tail (by rw [Bool.and_eq_true] at e2; exact e2.2)]
      rfl
    · rw [Bool.not_eq_true] at e2
      rw [e2, Bool.or_false] at h
      rw [e2, h]
      simp only [Bool.not_false, Bool.and_true, if_true, Bool.false_eq_true, if_false]
      rw [greedy_flip t y.tail z (by rw [Bool.and_eq_true] at h; exact h.2)]
      rfl
theorem wayN_last {t y z : List Nat} (h : 0 < ways y z t) : wayN y z t (ways y z t - 1) = greedy false y z t := by
  have h2 : 0 < ways z y t := by rw [ways_comm]; exact h
  have e := wayN_flip t z y 0 h2
  rw [ways_comm t z y] at e
  rw [greedy_flip t y z (by rw [canB_ways]; exact decide_eq_true h), ← wayN_first t z y h2, ← e]
  rfl
/-! as many as the picks -/
theorem wayR_fact (n k : Nat) : wayR n k * (fact n * fact k) = fact (n + k) := by
  rw [← ways_R 97 n k]; exact ways_rep 97 (n + k) n k rfl
theorem wayR_next (n k : Nat) : wayR n k * (n + k + 1) = wayR n (k + 1) * (k + 1) := by
  have p : 0 < fact n * fact k := Nat.mul_pos (fact_pos n) (fact_pos k)
  refine Nat.eq_of_mul_eq_mul_right p ?_
  have h1 := wayR_fact n k
  have h2 := wayR_fact n (k + 1)
  have f1 : fact (k + 1) = (k + 1) * fact k := rfl
  have f2 : fact (n + (k + 1)) = (n + k + 1) * fact (n + k) := rfl
  rw [f1, f2] at h2
  rw [Nat.mul_right_comm, h1, Nat.mul_comm (fact (n + k)), ← h2, Nat.mul_assoc, Nat.mul_left_comm (fact n)]
theorem wayR_div (n k : Nat) : wayR n k * (n + k + 1) / (k + 1) = wayR n (k + 1) := by
  rw [wayR_next]; exact Nat.mul_div_cancel _ (by omega)
theorem wayR_zero (n : Nat) : wayR n 0 = 1 := by
  unfold wayR
  rw [Nat.add_zero, show fact 0 = 1 from rfl, Nat.mul_one]
  exact Nat.div_self (fact_pos n)
theorem cs_nil : cs "" = [] := by decide +kernel
theorem head_tk (y t : List Nat) : (!decide (y = cs "") && decide (t.take (Int.toNat 1) = y.take (Int.toNat 1))) = decide (y.head? = t.head? ∧ y ≠ []) := by
  rw [cs_nil, show Int.toNat 1 = 1 from rfl]
  cases y with
  | nil => simp
  | cons a y =>
    cases t with
    | nil => simp
    | cons b t => simp [eq_comm]
theorem parted_sum (y z t : List Nat) (ht : t ≠ []) : (if y.head? = t.head? ∧ y ≠ [] then ways y.tail z t.tail else 0) + (if z.head? = t.head? ∧ z ≠ [] then ways y z.tail t.tail else 0) = ways y z t := by
  cases t with
  | nil => exact absurd rfl ht
  | cons c t =>
    rw [ways]
    have e : ∀ w : List Nat, (w.head? = some c ∧ w ≠ []) ↔ w.head? = some c := fun w => ⟨fun h => h.1, fun h => ⟨h, fun e => by subst e; cases h⟩⟩
    simp only [List.head?_cons, List.tail_cons, e]
theorem endW_first {y z t : List Nat} (h : 0 < waysW y z t) : endW true y z t = some (wayN y z t 0) := by
  have h2 := h
  rw [waysW_B] at h2
  unfold endW
  rw [canW_ways, decide_eq_true h, if_pos rfl, wayN_first t y z h2]
theorem endW_last {y z t : List Nat} (h : 0 < waysW y z t) : endW false y z t = some (wayN y z t (waysW y z t - 1)) := by
  have h2 := h
  rw [waysW_B] at h2
  unfold endW
  rw [canW_ways, decide_eq_true h, if_pos rfl, waysW_B, wayN_last h2]

end Law

namespace Law
open PySem PySem.Spec PyProof.Rows L2 Go
/-- after one letter more: so many of the first row may be taken -/
def tkP (y z : List Nat) (c k : Nat) (l : Nat → Bool) (a : Nat) : Bool := (decide (0 < a) && l (a - 1) && decide (y[a - 1]? = some c)) || (l a && decide (a ≤ k) && decide (z[k - a]? = some c))
def tk (y z t : List Nat) : Nat → Nat → Bool
  | 0, a => decide (a = 0)
  | k + 1, a => tkP y z (t.getD k 0) k (tk y z t k) a
theorem tk_le {y z t : List Nat} : ∀ {k a : Nat}, tk y z t k a = true → a ≤ k ∧ a ≤ y.length ∧ k - a ≤ z.length
  | 0, a, h => by
    have e : a = 0 := of_decide_eq_true h
    subst e; omega
  | k + 1, a, h => by
    unfold tk tkP at h
    simp only [Bool.or_eq_true, Bool.and_eq_true, decide_eq_true_eq] at h
    rcases h with ⟨⟨h1, h2⟩, h3⟩ | ⟨⟨h1, h2⟩, h3⟩
    · have := tk_le h2
      have := (List.getElem?_eq_some_iff.mp h3).1
      omega
    · have := tk_le h1
      have := (List.getElem?_eq_some_iff.mp h3).1
      omega
def tkL (y z t : List Nat) (k : Nat) : List Nat := (List.range (k + 1)).filter (tk y z t k)
def tkV (y z t : List Nat) (k : Nat) : List Int := (tkL y z t k).map fun (a : Nat) => ((a : Nat) : Int)
theorem tkL_mem {y z t : List Nat} {k a : Nat} : a ∈ tkL y z t k ↔ tk y z t k a = true := by
  unfold tkL
  rw [List.mem_filter, List.mem_range]
  exact ⟨fun h => h.2, fun h => ⟨by have := tk_le h; omega, h⟩⟩
theorem tkV_mem {y z t : List Nat} {k a : Nat} : (a : Int) ∈ tkV y z t k ↔ tk y z t k a = true := by
  unfold tkV
  rw [List.mem_map]
  constructor
  · rintro ⟨b, hb, e⟩
    have e : b = a := by omega
    subst e
    exact tkL_mem.mp hb
  · exact fun h => ⟨a, tkL_mem.mpr h, rfl⟩
theorem tkV_pos {y z t : List Nat} {k : Nat} {i : Int} (h : i ∈ tkV y z t k) : ∃ a : Nat, i = a ∧ tk y z t k a = true := by
  unfold tkV at h
  obtain ⟨a, ha, rfl⟩ := List.mem_map.mp h
  exact ⟨a, rfl, tkL_mem.mp ha⟩
theorem tkL_sorted (y z t : List Nat) (k : Nat) : (tkL y z t k).Pairwise (· < ·) := List.Pairwise.filter _ List.pairwise_lt_range
theorem tkV_sorted (y z t : List Nat) (k : Nat) : (tkV y z t k).Pairwise (· < ·) := by
  unfold tkV
  rw [List.pairwise_map]
  exact List.Pairwise.imp (fun h => by omega) (tkL_sorted y z t k)
theorem tkL_zero (y z t : List Nat) : tkL y z t 0 = [0] := rfl
theorem tkV_zero (y z t : List Nat) : tkV y z t 0 = [0] := rfl
theorem sorted_ext : ∀ (a b : List Int), a.Pairwise (· < ·) → b.Pairwise (· < ·) → (∀ x, x ∈ a ↔ x ∈ b) → a = b
  | [], [], _, _, _ => rfl
  | [], y :: b, _, _, h => absurd ((h y).mpr List.mem_cons_self) (by simp)
  | x :: a, [], _, _, h => absurd ((h x).mp List.mem_cons_self) (by simp)
  | x :: a, y :: b, ha, hb, h => by
    obtain ⟨a1, a2⟩ := List.pairwise_cons.mp ha
    obtain ⟨b1, b2⟩ := List.pairwise_cons.mp hb
    have e : x = y := by
      rcases List.mem_cons.mp ((h x).mp List.mem_cons_self) with e | e
      · exact e
      · rcases List.mem_cons.mp ((h y).mpr List.mem_cons_self) with e2 | e2
        · exact e2.symm
        · have := b1 x e; have := a1 y e2; omega
    subst e
    congr 1
    refine sorted_ext a b a2 b2 fun v => ?_
    constructor
    · intro hv
      rcases List.mem_cons.mp ((h v).mp (List.mem_cons_of_mem _ hv)) with e | e
      · have := a1 v hv; omega
      · exact e
    · intro hv
      rcases List.mem_cons.mp ((h v).mpr (List.mem_cons_of_mem _ hv)) with e | e
      · have := b1 v hv; omega
      · exact e
theorem nodup_len : ∀ (n : Nat) (l : List Int), l.Nodup → (∀ x ∈ l, 0 ≤ x ∧ x < (n : Int)) → l.length ≤ n
  | 0, l, _, h => by
    cases l with
    | nil => exact Nat.le_refl _
    | cons x l => have := h x List.mem_cons_self; omega
  | n + 1, l, nd, h => by
    have ih := nodup_len n (l.erase (n : Int)) (nd.erase _) fun x hx => by
      have h1 := h x (List.mem_of_mem_erase hx)
      have h2 : x ≠ (n : Int) := fun e => by
        rw [e] at hx
        exact (List.Nodup.mem_erase_iff nd).mp hx |>.1 rfl
      omega
    have := List.length_erase (a := (n : Int)) (l := l)
    split at this <;> omega
theorem tkL_len {y z t : List Nat} {k : Nat} (h : y.length ≤ 60) : (tkL y z t k).length ≤ 61 := by
  have e := nodup_len 61 (tkV y z t k) ((tkV_sorted y z t k).imp (fun h => by omega)) fun x hx => by
    obtain ⟨a, rfl, ha⟩ := tkV_pos hx
    have := tk_le ha
    omega
  unfold tkV at e
  rwa [List.length_map] at e
/-- what a turn of the program puts in -/
def stepL (y z : List Nat) (c k a : Nat) : List Int := (if z[k - a]? = some c then [(a : Int)] else []) ++ (if y[a]? = some c then [(a : Int) + 1] else [])
theorem step_mem {y z t : List Nat} {k : Nat} {i : Int} : i ∈ (tkL y z t k).flatMap (stepL y z (t.getD k 0) k) ↔ i ∈ tkV y z t (k + 1) := by
  rw [List.mem_flatMap]
  constructor
  · rintro ⟨a, ha, hi⟩
    have ha := tkL_mem.mp ha
    unfold stepL at hi
    rcases List.mem_append.mp hi with h | h
    · split at h
      · rename_i e
        rw [List.mem_singleton.mp h, tkV_mem]
        unfold tk tkP
        simp [ha, e, (tk_le ha).1]
      · simp at h
    · split at h
      · rename_i e
        rw [List.mem_singleton.mp h, show (a : Int) + 1 = ((a + 1 : Nat) : Int) from rfl, tkV_mem]
        unfold tk tkP
        simp [ha, e]
      · simp at h
  · intro h
    obtain ⟨a, rfl, ha⟩ := tkV_pos h
    unfold tk tkP at ha
    simp only [Bool.or_eq_true, Bool.and_eq_true, decide_eq_true_eq] at ha
    rcases ha with ⟨⟨h1, h2⟩, h3⟩ | ⟨⟨h1, h2⟩, h3⟩
    · refine ⟨a - 1, tkL_mem.mpr h2, ?_⟩
      unfold stepL
      rw [if_pos h3]
      exact List.mem_append_right _ (by simp; omega)
    · refine ⟨a, tkL_mem.mpr h1, ?_⟩
      unfold stepL
      rw [if_pos h3]
      exact List.mem_append_left _ (by simp)
theorem step_nil {y z t : List Nat} {k : Nat} : (tkL y z t k).flatMap (stepL y z (t.getD k 0) k) = [] ↔ tkL y z t (k + 1) = [] := by
  constructor
  · intro h
    refine List.eq_nil_iff_forall_not_mem.mpr fun a ha => ?_
    have := step_mem.mpr (tkV_mem.mpr (tkL_mem.mp ha))
    rw [h] at this
    simp at this
  · intro h
    refine List.eq_nil_iff_forall_not_mem.mpr fun i hi => ?_
    obtain ⟨a, rfl, ha⟩ := tkV_pos (step_mem.mp hi)
    have := tkL_mem.mpr ha
    rw [h] at this
    simp at this
theorem tkL_down {y z t : List Nat} {k : Nat} (h : tkL y z t k = []) : tkL y z t (k + 1) = [] := step_nil.mp (by rw [h]; rfl)
theorem tkL_down2 {y z t : List Nat} {m : Nat} (h : tkL y z t m = []) : ∀ d, tkL y z t (m + d) = []
  | 0 => h
  | d + 1 => tkL_down (tkL_down2 h d)
/-- how far -/
def Far (y z t : List Nat) (m : Nat) : Prop := m ≤ t.length ∧ tkL y z t m ≠ [] ∧ (m = t.length ∨ tkL y z t (m + 1) = [])
theorem far_filt {y z t : List Nat} {m : Nat} (h : Far y z t m) : ((List.range (t.length + 1)).filter fun k => !decide (tkL y z t k = [])) = List.range (m + 1) := by
  obtain ⟨h1, h2, h3⟩ := h
  have e1 : ∀ k, k ≤ m → tkL y z t k ≠ [] := fun k hk q => h2 (by have := tkL_down2 q (m - k); rwa [show k + (m - k) = m by omega] at this)
  have e2 : ∀ k, m < k → k ≤ t.length → tkL y z t k = [] := fun k hk hl => by
    rcases h3 with h3 | h3
    · omega
    · have := tkL_down2 h3 (k - (m + 1)); rwa [show m + 1 + (k - (m + 1)) = k by omega] at this
  have key : ∀ n, n ≤ t.length + 1 → (List.range n).filter (fun k => !decide (tkL y z t k = [])) = List.range (min n (m + 1)) := by
    intro n
    induction n with
    | zero => intro _; simp
    | succ n ih =>
      intro hn
      rw [List.range_succ, List.filter_append, ih (by omega)]
      by_cases hk : n ≤ m
      · rw [show min n (m + 1) = n by omega, show min (n + 1) (m + 1) = n + 1 by omega, List.range_succ]
        simp [e1 n hk]
      · rw [show min n (m + 1) = m + 1 by omega, show min (n + 1) (m + 1) = m + 1 by omega]
        simp [e2 n (by omega) (by omega)]
  rw [key _ (Nat.le_refl _), Nat.min_eq_right (by omega)]
theorem far_uniq {y z t : List Nat} {m m' : Nat} (h : Far y z t m) (h' : Far y z t m') : m = m' := by
  have := (far_filt h).symm.trans (far_filt h')
  have := congrArg List.length this
  simpa using this
theorem slice_one (z : List Nat) (c : Nat) {i : Int} {n : Nat} (hi : i = n) : ((z.drop i.toNat).take ((i + 1).toNat - i.toNat) = [c]) ↔ z[n]? = some c := by
  subst hi
  rw [show ((n : Int) + 1).toNat - ((n : Int)).toNat = 1 by omega, Int.toNat_natCast]
  constructor
  · intro h
    have := congrArg (fun l : List Nat => l[0]?) h
    simpa [List.getElem?_take, List.getElem?_drop] using this
  · intro h
    obtain ⟨hl, e⟩ := List.getElem?_eq_some_iff.mp h
    rw [List.drop_eq_getElem_cons hl, e]; rfl
theorem far_ex (y z t : List Nat) : ∃ m, Far y z t m := by
  have key : ∀ d m, m ≤ t.length → t.length - m = d → tkL y z t m ≠ [] → ∃ m, Far y z t m := by
    intro d
    induction d with
    | zero => intro m h1 h2 h3; exact ⟨m, h1, h3, .inl (by omega)⟩
    | succ d ih =>
      intro m h1 h2 h3
      by_cases h : tkL y z t (m + 1) = []
      · exact ⟨m, h1, h3, .inr h⟩
      · exact ih (m + 1) (by omega) (by omega) h
  exact key t.length 0 (by omega) (by omega) (by rw [tkL_zero]; simp)
theorem tkV_len {y z t : List Nat} {k : Nat} (h : y.length ≤ 60) : (tkV y z t k).length ≤ 61 := by unfold tkV; rw [List.length_map]; exact tkL_len h
theorem far_cons {y z t : List Nat} {m : Nat} (h : Far y z t m) : ∃ a as, tkV y z t m = a :: as := by
  have h2 := h.2.1
  cases e : tkV y z t m with
  | nil => unfold tkV at e; exact absurd (List.map_eq_nil_iff.mp e) h2
  | cons a as => exact ⟨a, as, rfl⟩

end Law

namespace Law
open PySem PySem.Spec PyProof.Rows L2 Go
--# math taken
/-- where all of the first row may be taken, of the first n -/
def WL (y z t : List Nat) (n : Nat) : List Nat := (List.range n).filter fun k => tk y z t k y.length
def optI : Option Nat → V
  | none => .non
  | some k => .int (k : Nat)
theorem WL_succ (y z t : List Nat) (n : Nat) : WL y z t (n + 1) = WL y z t n ++ (if tk y z t n y.length = true then [n] else []) := by
  unfold WL
  rw [List.range_succ, List.filter_append]
  by_cases h : tk y z t n y.length = true <;> simp [h]
theorem WL_last (y z t : List Nat) (n : Nat) : (WL y z t (n + 1)).getLast? = if tk y z t n y.length = true then some n else (WL y z t n).getLast? := by
  rw [WL_succ]
  by_cases h : tk y z t n y.length = true <;> simp [h]
theorem far_WL {y z t : List Nat} {m : Nat} (h : Far y z t m) : WL y z t (m + 1) = WL y z t (t.length + 1) := by
  have key : ∀ d, m + d ≤ t.length → WL y z t (m + 1 + d) = WL y z t (m + 1) := by
    intro d
    induction d with
    | zero => intro _; rfl
    | succ d ih =>
      intro hd
      rw [show m + 1 + (d + 1) = m + 1 + d + 1 by omega, WL_succ, ih (by omega)]
      have e : tkL y z t (m + 1 + d) = [] := by
        rcases h.2.2 with h3 | h3
        · omega
        · exact tkL_down2 h3 d
      have : ¬ tk y z t (m + 1 + d) y.length = true := fun q => by
        have := tkL_mem.mpr q
        rw [e] at this
        simp at this
      rw [if_neg this, List.append_nil]
  have := key (t.length - m) (by have := h.1; omega)
  rw [show m + 1 + (t.length - m) = t.length + 1 by have := h.1; omega] at this
  exact this.symm

end Law

namespace Law
open PySem PySem.Spec PyProof.Rows L2 Go
--# math sym
--# math whole
theorem canW_end (y z t : List Nat) (c : Nat) : canW y z (t ++ [c]) = ((y.getLast? == some c && canW y.dropLast z t) || (z.getLast? == some c && canW y z.dropLast t)) := by
  rw [← canW_rev y z (t ++ [c]), List.reverse_append, List.reverse_singleton, canW_B]
  show ((y.reverse.head? == some c && canB y.reverse.tail z.reverse t.reverse) || (z.reverse.head? == some c && canB y.reverse z.reverse.tail t.reverse)) = _
  rw [← canW_B, ← canW_B, List.head?_reverse, List.head?_reverse, List.tail_reverse, List.tail_reverse, canW_rev, canW_rev]
theorem take_last {z : List Nat} {n : Nat} (h : n < z.length) : (z.take (n + 1)).getLast? = z[n]? := by
  rw [List.getLast?_eq_getElem?, List.length_take, show min (n + 1) z.length - 1 = n by omega, List.getElem?_take, if_pos (by omega)]
theorem take_dropLast {z : List Nat} {n : Nat} (h : n < z.length) : (z.take (n + 1)).dropLast = z.take n := by
  rw [List.dropLast_eq_take, List.length_take, List.take_take]
  congr 1
  omega
theorem tk_can {y z t : List Nat} : ∀ {k a : Nat}, k ≤ t.length → a ≤ y.length → a ≤ k → k - a ≤ z.length → tk y z t k a = canW (y.take a) (z.take (k - a)) (t.take k)
  | 0, a, _, _, h, _ => by
    have e : a = 0 := by omega
    subst e; rfl
  | k + 1, a, h1, h2, h3, h4 => by
    have et : t.take (k + 1) = t.take k ++ [t.getD k 0] := by rw [List.take_add_one, gd_get (by omega)]; rfl
    have be : ∀ a b : Option Nat, (a == b) = decide (a = b) := fun a b => by rw [Bool.eq_iff_iff]; simp
    rw [et, canW_end]
    unfold tk tkP
    congr 1
    · cases a with
      | zero => rfl
      | succ b =>
        rw [take_last h2, take_dropLast h2, Nat.add_sub_cancel, tk_can (k := k) (a := b) (by omega) (by omega) (by omega) (by omega), show k + 1 - (b + 1) = k - b by omega, be, decide_eq_true (Nat.succ_pos b), Bool.true_and, Bool.and_comm]
    · by_cases e : a = k + 1
      · subst e
        rw [Nat.sub_self, decide_eq_false (show ¬ k + 1 ≤ k by omega), Bool.and_false, Bool.false_and]
        rfl
      · rw [show k + 1 - a = k - a + 1 by omega, take_last (by omega), take_dropLast (by omega), tk_can (k := k) (a := a) (by omega) (by omega) (by omega) (by omega), be, decide_eq_true (show a ≤ k by omega), Bool.and_true, Bool.and_comm]
theorem far_max {y z t : List Nat} {m k a : Nat} (hf : Far y z t m) (hk : k ≤ t.length) (h : tk y z t k a = true) : k ≤ m := by
  by_cases hm : k ≤ m
  · exact hm
  · rcases hf.2.2 with h3 | h3
    · omega
    · have e := tkL_down2 h3 (k - (m + 1))
      rw [show m + 1 + (k - (m + 1)) = k by omega] at e
      have := tkL_mem.mpr h
      rw [e] at this
      simp at this
theorem can_tk (y z t : List Nat) (h : t.length = y.length + z.length) : tk y z t t.length y.length = canW y z t := by
  rw [tk_can (Nat.le_refl _) (Nat.le_refl _) (by omega) (by omega), List.take_length, List.take_length, show t.length - y.length = z.length by omega, List.take_length]
theorem far_can {y z t : List Nat} {m : Nat} (hf : Far y z t m) : canW y z t = decide (m = t.length ∧ t.length = y.length + z.length) := by
  by_cases hl : t.length = y.length + z.length
  · rw [← can_tk y z t hl]
    cases hb : tk y z t t.length y.length with
    | true =>
      have := far_max hf (Nat.le_refl _) hb
      exact (decide_eq_true ⟨by have := hf.1; omega, hl⟩).symm
    | false =>
      refine (decide_eq_false ?_).symm
      rintro ⟨rfl, _⟩
      obtain ⟨a, ha⟩ := List.exists_mem_of_ne_nil _ hf.2.1
      have ha := tkL_mem.mp ha
      have := tk_le ha
      rw [show a = y.length by omega, hb] at ha
      cases ha
  · rw [canW_no hl, decide_eq_false (fun h => hl h.2)]
theorem far_one {y z t : List Nat} {m : Nat} (hf : Far y z t m) (h : canW y z t = true) : tkV y z t m = [(y.length : Int)] := by
  rw [far_can hf, decide_eq_true_eq] at h
  refine sorted_ext _ _ (tkV_sorted y z t m) (by simp) fun x => ?_
  constructor
  · intro hx
    obtain ⟨a, rfl, ha⟩ := tkV_pos hx
    have := tk_le ha
    rw [List.mem_singleton]; omega
  · intro hx
    rw [List.mem_singleton.mp hx, tkV_mem]
    obtain ⟨a, ha⟩ := List.exists_mem_of_ne_nil _ hf.2.1
    have ha := tkL_mem.mp ha
    have := tk_le ha
    rwa [show y.length = a by omega]
/-- so many of the second row behind all of the first -/
def dueL (y z t : List Nat) (n : Nat) : List Nat := (List.range n).filter fun k => canW y (z.take k) (t.take (y.length + k))
theorem due_can {y z t : List Nat} {k : Nat} (hk : k ≤ z.length) : canW y (z.take k) (t.take (y.length + k)) = (decide (y.length + k ≤ t.length) && tk y z t (y.length + k) y.length) := by
  by_cases h : y.length + k ≤ t.length
  · rw [tk_can h (Nat.le_refl _) (by omega) (by omega), List.take_length, show y.length + k - y.length = k by omega, decide_eq_true h, Bool.true_and]
  · rw [decide_eq_false h, Bool.false_and]
    refine canW_no ?_
    rw [List.length_take, List.length_take]; omega
theorem filt_ext : ∀ (a b : List Nat), a.Pairwise (· < ·) → b.Pairwise (· < ·) → (∀ x, x ∈ a ↔ x ∈ b) → a = b := by
  intro a b ha hb h
  have e := sorted_ext (a.map fun (x : Nat) => (x : Int)) (b.map fun (x : Nat) => (x : Int)) (by rw [List.pairwise_map]; exact ha.imp (fun h => by omega)) (by rw [List.pairwise_map]; exact hb.imp (fun h => by omega)) fun x => by
    simp only [List.mem_map]
    constructor
    · rintro ⟨u, hu, rfl⟩; exact ⟨u, (h u).mp hu, rfl⟩
    · rintro ⟨u, hu, rfl⟩; exact ⟨u, (h u).mpr hu, rfl⟩
  exact (List.map_inj_right (fun x y h => by omega)).mp e
theorem due_WL (y z t : List Nat) : WL y z t (t.length + 1) = (dueL y z t (z.length + 1)).map (y.length + ·) := by
  refine filt_ext _ _ (List.Pairwise.filter _ List.pairwise_lt_range) (by rw [List.pairwise_map]; exact (List.Pairwise.filter _ List.pairwise_lt_range).imp (fun h => by omega)) fun x => ?_
  unfold WL dueL
  rw [List.mem_filter, List.mem_range, List.mem_map]
  constructor
  · rintro ⟨h1, h2⟩
    have h3 := tk_le h2
    refine ⟨x - y.length, ?_, by omega⟩
    rw [List.mem_filter, List.mem_range, due_can (by omega), show y.length + (x - y.length) = x by omega, h2, decide_eq_true (by omega)]
    exact ⟨by omega, rfl⟩
  · rintro ⟨k, hk, rfl⟩
    rw [List.mem_filter, List.mem_range] at hk
    obtain ⟨h1, h2⟩ := hk
    rw [due_can (by omega)] at h2
    simp only [Bool.and_eq_true, decide_eq_true_eq] at h2
    exact ⟨by omega, h2.2⟩
theorem dueL_succ (y z t : List Nat) (n : Nat) : dueL y z t (n + 1) = dueL y z t n ++ (if canW y (z.take n) (t.take (y.length + n)) = true then [n] else []) := by
  unfold dueL
  rw [List.range_succ, List.filter_append]
  by_cases h : canW y (z.take n) (t.take (y.length + n)) = true <;> simp [h]

end Law

namespace Law
open PySem PySem.Spec PyProof.Rows L2 Go
--# math far
--# math weave
def isWayB (y z w : List Nat) : Bool := decide (w.length = y.length + z.length ∧ w.count 48 = y.length ∧ w.count 49 = z.length)
theorem signs_of : ∀ w : List Nat, w.count 48 + w.count 49 = w.length → ∀ x ∈ w, x = 48 ∨ x = 49
  | [], _, x, h => nomatch h
  | c :: w, e, x, h => by
    have le : ∀ l : List Nat, l.count 48 + l.count 49 ≤ l.length := by
      intro l
      induction l with
      | nil => simp
      | cons a l ih =>
        rw [List.count_cons, List.count_cons, List.length_cons]
        by_cases h1 : a = 48
        · subst h1; simp; omega
        · by_cases h2 : a = 49
          · subst h2; simp; omega
          · simp [h1, h2]; omega
    have := le w
    rw [List.count_cons, List.count_cons, List.length_cons] at e
    by_cases h1 : c = 48
    · subst h1
      simp at e
      rcases List.mem_cons.mp h with h | h
      · exact .inl h
      · exact signs_of w (by omega) x h
    · by_cases h2 : c = 49
      · subst h2
        simp at e
        rcases List.mem_cons.mp h with h | h
        · exact .inr h
        · exact signs_of w (by omega) x h
      · simp [h1, h2] at e; omega
theorem fits_B {y z w : List Nat} (h : w.length = y.length + z.length ∧ w.count 48 = y.length ∧ w.count 49 = z.length) : Fits y z w := ⟨signs_of w (by omega), h.2.1, h.2.2⟩
theorem B_fits {y z w : List Nat} (h : Fits y z w) : isWayB y z w = true := by
  unfold isWayB
  exact decide_eq_true ⟨h.len, h.2.1, h.2.2⟩
/-- the last list -/
theorem last_can {y z t : List Nat} (h : t.length = y.length + z.length) : tkV y z t t.length = [(y.length : Int)] ↔ canW y z t = true := by
  rw [← can_tk y z t h, ← tkV_mem]
  constructor
  · intro e; rw [e]; exact List.mem_cons_self
  · intro e
    refine sorted_ext _ _ (tkV_sorted _ _ _ _) (by simp) fun x => ?_
    rw [List.mem_singleton]
    constructor
    · intro hx
      obtain ⟨a, rfl, ha⟩ := tkV_pos hx
      have := tk_le ha
      omega
    · rintro rfl; exact e

end Law

namespace Law
open PySem PySem.Spec PyProof.Rows L2 Go
/-! lists of lists of small numbers, as repr writes them -/
def nlD (ls : List (List Int)) : PyData := .list (ls.map fun ns => .list (ns.map PyData.int))
theorem dp_ints2 {K : PySem.W.Frag} {H : Hp} : ∀ ns : List Int, DpAll K H (ns.map V.int) (ns.map PyData.int)
  | [] => .nil
  | _ :: ns => .cons (.int _) (dp_ints2 ns)
theorem nl_dp {K : PySem.W.Frag} {H : Hp} {l : Addr} {ps : List Addr} {ls : List (List Int)} (L : LL H l ps ls) : Dp K H (.ref l) (nlD ls) := by
  refine .lst (.of L.lst) ?_
  have : ∀ (ps : List Addr) (ls : List (List Int)), ps.length = ls.length → (∀ (i : Nat) (p : Addr) (ns : List Int), ps[i]? = some p → ls[i]? = some ns → H p = some (.lst (ns.map V.int))) → DpAll K H (ps.map V.ref) (ls.map fun ns => PyData.list (ns.map PyData.int)) := by
    intro ps
    induction ps with
    | nil => intro ls h _; obtain rfl : ls = [] := List.length_eq_zero_iff.mp h.symm; exact .nil
    | cons p ps ih =>
      intro ls h he
      match ls, h, he with
      | ns :: ls, h, he => exact .cons (.lst (.of (he 0 p ns rfl rfl)) (dp_ints2 ns)) (ih ls (by simpa using h) fun i q ms h1 h2 => he (i + 1) q ms (by simpa using h1) (by simpa using h2))
  exact this ps ls L.len L.it
theorem small_show : ∀ n : Nat, n < 200 → (PyData.shown (.int (n : Nat))).length ≤ 8 := by decide +kernel
theorem small_log : ∀ n : Nat, n < 200 → n.log2 < 1920 := by decide +kernel
def Sm2 (ns : List Int) : Prop := ∀ n ∈ ns, 0 ≤ n ∧ n < 200
theorem sm_one {ns : List Int} (h : Sm2 ns) : PyData.showableAll (ns.map PyData.int) = true ∧ PyData.hasDictAll (ns.map PyData.int) = false ∧ PyData.depthAll (ns.map PyData.int) = 0 ∧ PyData.leavesShortAll 8 (ns.map PyData.int) = true ∧ PyData.bulkAll (ns.map PyData.int) = ns.length := by
  induction ns with
  | nil => exact ⟨rfl, rfl, rfl, rfl, rfl⟩
  | cons n ns ih =>
    obtain ⟨a, b, c, d, e⟩ := ih fun x hx => h x (List.mem_cons_of_mem _ hx)
    obtain ⟨m, rfl⟩ := Int.eq_ofNat_of_zero_le (h n List.mem_cons_self).1
    have hm : m < 200 := by have := (h _ List.mem_cons_self).2; omega
    refine ⟨?_, ?_, ?_, ?_, ?_⟩
    · rw [List.map_cons, PyData.showableAll, a, PyData.showable, Bool.and_true]
      exact decide_eq_true (small_log m hm)
    · rw [List.map_cons, PyData.hasDictAll, b]; rfl
    · rw [List.map_cons, PyData.depthAll, c]; rfl
    · rw [List.map_cons, PyData.leavesShortAll, d, PyData.leavesShort, Bool.and_true]
      exact decide_eq_true (small_show m hm)
    · rw [List.map_cons, PyData.bulkAll, e, List.length_cons, PyData.bulk]; omega
theorem nl_rpr {ls : List (List Int)} (h : ∀ ns ∈ ls, ns.length ≤ 1000 ∧ Sm2 ns) (hl : ls.length ≤ 1000) : Rpr 2 (nlD ls) := by
  have : ∀ ls : List (List Int), (∀ ns ∈ ls, ns.length ≤ 1000 ∧ Sm2 ns) → PyData.showableAll (ls.map fun ns => PyData.list (ns.map PyData.int)) = true ∧ PyData.hasDictAll (ls.map fun ns => PyData.list (ns.map PyData.int)) = false ∧ PyData.depthAll (ls.map fun ns => PyData.list (ns.map PyData.int)) ≤ 1 ∧ PyData.leavesShortAll 8 (ls.map fun ns => PyData.list (ns.map PyData.int)) = true ∧ PyData.bulkAll (ls.map fun ns => PyData.list (ns.map PyData.int)) ≤ 1001 * ls.length := by
    intro ls
    induction ls with
    | nil => intro _; exact ⟨rfl, rfl, Nat.zero_le _, rfl, Nat.le_refl _⟩
    | cons ns ls ih =>
      intro h
      obtain ⟨a, b, c, d, e⟩ := ih fun x hx => h x (List.mem_cons_of_mem _ hx)
      obtain ⟨h1, h2⟩ := h ns List.mem_cons_self
      obtain ⟨a1, b1, c1, d1, e1⟩ := sm_one h2
      refine ⟨?_, ?_, ?_, ?_, ?_⟩
      · rw [List.map_cons, PyData.showableAll, a, PyData.showable, a1]; rfl
      · rw [List.map_cons, PyData.hasDictAll, b, PyData.hasDict, b1]; rfl
      · rw [List.map_cons, PyData.depthAll, PyData.depth, c1]; omega
      · rw [List.map_cons, PyData.leavesShortAll, d, PyData.leavesShort, d1]; rfl
      · rw [List.map_cons, PyData.bulkAll, PyData.bulk, e1, List.length_cons]; omega
  obtain ⟨a, b, c, d, e⟩ := this ls h
  refine ⟨?_, ?_, ?_, ?_⟩
  · unfold nlD; rw [PyData.showable]; exact a
  · unfold nlD; rw [PyData.hasDict]; exact b
  · unfold nlD; rw [PyData.depth]; omega
  · refine PyData.shown_fits_bulk (B := 8) (by decide) (by decide) ?_ ?_
    · unfold nlD; rw [PyData.leavesShort]; exact d
    · unfold nlD; rw [PyData.bulk]; omega

end Law

namespace Law
open PySem PySem.Spec PyProof.Rows L2 Go
--# over39
--# math reprd
/-! what repr writes tells lists of lists of numbers -/
def tailL : List (List Nat) → List Nat
  | [] => [93]
  | t :: ts => 44 :: 32 :: (t ++ tailL ts)
def bodyL : List (List Nat) → List Nat
  | [] => [93]
  | t :: ts => t ++ tailL ts
theorem cs_app (a b : Str) : cs (a ++ b) = cs a ++ cs b := by
  show (a ++ b).cps.toList = a.cps.toList ++ b.cps.toList
  simp [Str.cps_append]
theorem textFrom_L : ∀ (ts : List Str) (k : Nat) (acc : Str), cs (textFrom k acc ts) ++ [93] = cs acc ++ if k > 0 then tailL (ts.map cs) else bodyL (ts.map cs)
  | [], k, acc => by
    show cs acc ++ [93] = _
    split <;> rfl
  | t :: ts, k, acc => by
    rw [textFrom, textFrom_L ts (k + 1), if_pos (Nat.succ_pos k), cs_app, cs_app, List.append_assoc, List.append_assoc]
    congr 1
    by_cases h : k > 0
    · rw [if_pos h, if_pos h, show cs (((", " : String)) : Str) = [44, 32] by decide +kernel]
      rfl
    · rw [if_neg h, if_neg h, show cs ((("" : String)) : Str) = [] by decide +kernel]
      rfl
theorem shownAll_map : ∀ ds : List PyData, PyData.shownAll ds = ds.map PyData.shown
  | [] => rfl
  | d :: ds => by rw [PyData.shownAll, shownAll_map ds, List.map_cons]
theorem sh_list (ds : List PyData) : shT (.list ds) = 91 :: bodyL (ds.map shT) := by
  unfold shT
  rw [PyData.shown, listText, cs_app, show cs ((("]" : String)) : Str) = [93] by decide +kernel, textFrom_L, if_neg (by decide), shownAll_map, List.map_map, show cs ((("[" : String)) : Str) = [91] by decide +kernel]
  rfl
theorem sh_nat (n : Nat) : shT (.int (n : Int)) = TL.numL n := by
  unfold shT
  rw [PyData.shown]
  exact TL.tl_num n
theorem cs_of (s : String) : cs (Str.ofString s) = s.toList.map Char.toNat := by
  rw [Str.ofString_eq_toList]
  rfl
theorem sh_neg (k : Nat) : ∃ r, shT (.int (Int.negSucc k)) = 45 :: r := by
  unfold shT
  rw [PyData.shown]
  refine ⟨(toString (k + 1)).toList.map Char.toNat, ?_⟩
  rw [cs_of]
  show (("-" : String) ++ toString (k + 1)).toList.map Char.toNat = _
  rw [String.toList_append, List.map_append]
  rfl
theorem fold_head (g : Nat → List Nat) : ∀ (l : List Nat) (acc : Array Nat), ∃ r, (l.foldl (fun out c => out ++ (g c).toArray) acc).toList = acc.toList ++ r
  | [], acc => ⟨[], by simp⟩
  | c :: l, acc => by
    obtain ⟨r, e⟩ := fold_head g l (acc ++ (g c).toArray)
    exact ⟨g c ++ r, by rw [List.foldl_cons, e]; simp⟩
theorem sh_str (x : Str) : ∃ q r, shT (.str x) = q :: r ∧ (q = 34 ∨ q = 39) := by
  unfold shT
  rw [PyData.shown]
  unfold reprText
  obtain ⟨r, e⟩ := fold_head (fun c => Builtin.Str.reprChar (reprQuote x) c) x.cps.toList #[reprQuote x]
  refine ⟨reprQuote x, r ++ [reprQuote x], ?_, ?_⟩
  · show ((x.cps.foldl (fun out c => out ++ (Builtin.Str.reprChar (reprQuote x) c).toArray) #[reprQuote x]).push (reprQuote x)).toList = _
    rw [Array.toList_push, ← Array.foldl_toList, e]
    rfl
  · unfold reprQuote
    split
    · exact .inl rfl
    · exact .inr rfl
/-- what a list's text begins with -/
theorem head_91 {d : PyData} {r : List Nat} (h : shT d = 91 :: r) : ∃ ds, d = .list ds := by
  cases d with
  | list ds => exact ⟨ds, rfl⟩
  | none => exact absurd h (by rw [show shT .none = cs "None" from rfl, show cs "None" = [78, 111, 110, 101] by decide +kernel]; simp)
  | bool b => cases b with
    | true => exact absurd h (by rw [show shT (.bool true) = cs "True" from rfl, show cs "True" = [84, 114, 117, 101] by decide +kernel]; simp)
    | false => exact absurd h (by rw [show shT (.bool false) = cs "False" from rfl, show cs "False" = [70, 97, 108, 115, 101] by decide +kernel]; simp)
  | int i =>
    cases i with
    | ofNat n =>
      rw [show shT (.int (Int.ofNat n)) = TL.numL n from sh_nat n] at h
      have := TL.numL_digits n 91 (by rw [h]; exact List.mem_cons_self)
      omega
    | negSucc k =>
      obtain ⟨r', e⟩ := sh_neg k
      rw [e] at h
      simp at h
  | str x =>
    obtain ⟨q, r', e, hq⟩ := sh_str x
    rw [e] at h
    have : q = 91 := by injection h
    omega
  | tuple ds =>
    unfold shT at h
    rw [PyData.shown, tupleText, cs_app, cs_app, show cs ((("(" : String)) : Str) = [40] by decide +kernel] at h
    simp at h
  | dict kvs =>
    unfold shT at h
    rw [PyData.shown, dictText, cs_app, cs_app, show cs ((("{" : String)) : Str) = [123] by decide +kernel] at h
    simp at h
/-- what a number's text begins with -/
theorem head_dig {d : PyData} {c : Nat} {r : List Nat} (hc : 48 ≤ c ∧ c ≤ 57) (h : shT d = c :: r) : ∃ n : Nat, d = .int (n : Int) := by
  have ne : ∀ {a : Nat} {u : List Nat}, shT d = a :: u → a = c := fun {a u} e => by rw [e] at h; injection h
  cases d with
  | list ds => exact absurd (ne (sh_list ds)) (by omega)
  | none => exact absurd (ne (show shT .none = 78 :: [111, 110, 101] by show cs "None" = _; decide +kernel)) (by omega)
  | bool b => cases b with
    | true => exact absurd (ne (show shT (.bool true) = 84 :: [114, 117, 101] by show cs "True" = _; decide +kernel)) (by omega)
    | false => exact absurd (ne (show shT (.bool false) = 70 :: [97, 108, 115, 101] by show cs "False" = _; decide +kernel)) (by omega)
  | int i =>
    cases i with
    | ofNat n => exact ⟨n, rfl⟩
    | negSucc k =>
      obtain ⟨r', e⟩ := sh_neg k
      exact absurd (ne e) (by omega)
  | str x =>
    obtain ⟨q, r', e, hq⟩ := sh_str x
    exact absurd (ne e) (by omega)
  | tuple ds =>
    have e : ∃ u, shT (.tuple ds) = 40 :: u := by
      unfold shT
      rw [PyData.shown, tupleText, cs_app, cs_app, show cs ((("(" : String)) : Str) = [40] by decide +kernel]
      exact ⟨_, rfl⟩
    obtain ⟨u, e⟩ := e
    exact absurd (ne e) (by omega)
  | dict kvs =>
    have e : ∃ u, shT (.dict kvs) = 123 :: u := by
      unfold shT
      rw [PyData.shown, dictText, cs_app, cs_app, show cs ((("{" : String)) : Str) = [123] by decide +kernel]
      exact ⟨_, rfl⟩
    obtain ⟨u, e⟩ := e
    exact absurd (ne e) (by omega)
/-- behind an item: a comma or the list's end -/
def Ends (r : List Nat) : Prop := ∃ c u, r = c :: u ∧ (c = 44 ∨ c = 93)
theorem ends_tail (ts : List (List Nat)) (r : List Nat) : Ends (tailL ts ++ r) := by
  cases ts with
  | nil => exact ⟨93, r, rfl, .inr rfl⟩
  | cons t ts => exact ⟨44, _, rfl, .inl rfl⟩
/-- d's text tells e -/
def Tells (e : PyData) : Prop := ∀ (d : PyData) (r1 r2 : List Nat), Ends r1 → Ends r2 → shT d ++ r1 = shT e ++ r2 → d = e ∧ r1 = r2
theorem dig_split : ∀ {a b u v : List Nat}, (∀ c ∈ a, 48 ≤ c ∧ c ≤ 57) → (∀ c ∈ b, 48 ≤ c ∧ c ≤ 57) → Ends u → Ends v → a ++ u = b ++ v → a = b ∧ u = v
  | [], [], _, _, _, _, _, _, h => ⟨rfl, h⟩
  | [], y :: b, u, v, _, hb, ⟨c, w, e, hc⟩, _, h => by
    have := hb y List.mem_cons_self
    rw [e] at h
    have : c = y := by injection h
    omega
  | x :: a, [], u, v, ha, _, _, ⟨c, w, e, hc⟩, h => by
    have := ha x List.mem_cons_self
    rw [e] at h
    have : x = c := by injection h
    omega
  | x :: a, y :: b, u, v, ha, hb, hu, hv, h => by
    rw [List.cons_append, List.cons_append, List.cons.injEq] at h
    obtain ⟨e1, e2⟩ := dig_split (fun c hc => ha c (List.mem_cons_of_mem _ hc)) (fun c hc => hb c (List.mem_cons_of_mem _ hc)) hu hv h.2
    exact ⟨by rw [h.1, e1], e2⟩
theorem tells_nat (n : Nat) : Tells (.int (n : Int)) := fun d r1 r2 h1 h2 h => by
  rw [sh_nat] at h
  have hd := TL.numL_digits n
  have hh : ∃ m : Nat, d = .int (m : Int) := by
    cases e : shT d with
    | nil =>
      rw [e] at h
      obtain ⟨c, u, e1, hc⟩ := h1
      cases e2 : TL.numL n with
      | nil => exact absurd e2 (TL.numL_ne n)
      | cons a b =>
        have := hd a (by rw [e2]; exact List.mem_cons_self)
        rw [e1, e2] at h
        have : c = a := by injection h
        omega
    | cons c u =>
      rw [e] at h
      cases e2 : TL.numL n with
      | nil => exact absurd e2 (TL.numL_ne n)
      | cons a b =>
        have ha := hd a (by rw [e2]; exact List.mem_cons_self)
        rw [e2] at h
        have : c = a := by injection h
        exact head_dig (by rw [this]; exact ha) e
  obtain ⟨m, rfl⟩ := hh
  rw [sh_nat] at h
  obtain ⟨e1, e2⟩ := dig_split (TL.numL_digits m) hd h1 h2 h
  exact ⟨by rw [TL.numL_inj e1], e2⟩
theorem tells_tail : ∀ {es : List PyData}, (∀ e ∈ es, Tells e) → ∀ (ds : List PyData) (r1 r2 : List Nat), tailL (ds.map shT) ++ r1 = tailL (es.map shT) ++ r2 → ds = es ∧ r1 = r2
  | [], _, [], r1, r2, h => ⟨rfl, by simpa [tailL] using h⟩
  | [], _, d :: ds, r1, r2, h => by simp [tailL] at h
  | e :: es, _, [], r1, r2, h => by simp [tailL] at h
  | e :: es, he, d :: ds, r1, r2, h => by
    simp only [List.map_cons, tailL, List.cons_append, List.cons.injEq, true_and, List.append_assoc] at h
    obtain ⟨rfl, h2⟩ := he e List.mem_cons_self d _ _ (ends_tail _ _) (ends_tail _ _) h
    obtain ⟨rfl, h3⟩ := tells_tail (fun x hx => he x (List.mem_cons_of_mem _ hx)) ds r1 r2 h2
    exact ⟨rfl, h3⟩
theorem sh_head (d : PyData) : ∃ c r, shT d = c :: r ∧ c ≠ 93 := by
  cases d with
  | list ds => exact ⟨_, _, sh_list ds, by decide⟩
  | none => exact ⟨_, _, show shT .none = 78 :: [111, 110, 101] by (show cs "None" = _; decide +kernel), by decide⟩
  | bool b => cases b with
    | true => exact ⟨_, _, show shT (.bool true) = 84 :: [114, 117, 101] by (show cs "True" = _; decide +kernel), by decide⟩
    | false => exact ⟨_, _, show shT (.bool false) = 70 :: [97, 108, 115, 101] by (show cs "False" = _; decide +kernel), by decide⟩
  | int i =>
    cases i with
    | ofNat n =>
      cases e : TL.numL n with
      | nil => exact absurd e (TL.numL_ne n)
      | cons a b =>
        have := TL.numL_digits n a (by rw [e]; exact List.mem_cons_self)
        exact ⟨a, b, (sh_nat n).trans e, by omega⟩
    | negSucc k =>
      obtain ⟨r', e⟩ := sh_neg k
      exact ⟨_, _, e, by decide⟩
  | str x =>
    obtain ⟨q, r', e, hq⟩ := sh_str x
    exact ⟨_, _, e, by omega⟩
  | tuple ds =>
    unfold shT
    rw [PyData.shown, tupleText, cs_app, cs_app, show cs ((("(" : String)) : Str) = [40] by decide +kernel]
    exact ⟨40, _, rfl, by decide⟩
  | dict kvs =>
    unfold shT
    rw [PyData.shown, dictText, cs_app, cs_app, show cs ((("{" : String)) : Str) = [123] by decide +kernel]
    exact ⟨123, _, rfl, by decide⟩
theorem tells_list {es : List PyData} (he : ∀ e ∈ es, Tells e) : Tells (.list es) := fun d r1 r2 h1 h2 h => by
  rw [sh_list] at h
  obtain ⟨c, u, e, _⟩ := sh_head d
  have e91 : c = 91 := by rw [e] at h; injection h
  subst e91
  obtain ⟨ds, rfl⟩ := head_91 e
  rw [sh_list, List.cons_append, List.cons_append, List.cons.injEq] at h
  have h := h.2
  cases ds with
  | nil =>
    cases es with
    | nil => exact ⟨rfl, by simpa [bodyL] using h⟩
    | cons x es =>
      obtain ⟨c, u, e, ne⟩ := sh_head x
      simp only [List.map_cons, List.map_nil, bodyL, e, List.cons_append, List.cons.injEq] at h
      exact absurd h.1.symm ne
  | cons y ds =>
    cases es with
    | nil =>
      obtain ⟨c, u, e, ne⟩ := sh_head y
      simp only [List.map_cons, List.map_nil, bodyL, e, List.cons_append, List.cons.injEq] at h
      exact absurd h.1 ne
    | cons x es =>
      simp only [List.map_cons, bodyL, List.append_assoc] at h
      obtain ⟨e3, h3⟩ := he x List.mem_cons_self y _ _ (ends_tail _ _) (ends_tail _ _) h
      obtain ⟨e4, h4⟩ := tells_tail (fun z hz => he z (List.mem_cons_of_mem _ hz)) ds r1 r2 h3
      exact ⟨by rw [e3, e4], h4⟩
/-- the text of lists of numbers tells them -/
theorem nl_tells {L : List (List Int)} (h : ∀ ns ∈ L, ∀ n ∈ ns, (0 : Int) ≤ n) {d : PyData} : shT d = shT (nlD L) ↔ d = nlD L := by
  refine ⟨fun e => ?_, fun e => by rw [e]⟩
  have ht : Tells (nlD L) := tells_list fun x hx => by
    obtain ⟨ns, hns, rfl⟩ := List.mem_map.mp hx
    refine tells_list fun y hy => ?_
    obtain ⟨n, hn, rfl⟩ := List.mem_map.mp hy
    obtain ⟨m, rfl⟩ := Int.eq_ofNat_of_zero_le (h ns hns n hn)
    exact tells_nat m
  exact (ht d [93] [93] ⟨93, [], rfl, .inr rfl⟩ ⟨93, [], rfl, .inr rfl⟩ (by rw [e])).1

end Law

namespace Law
open PySem PySem.Spec PyProof.Rows L2 Go
--# over39
--# math thing0
--# math shown
--# math reprj
/-! shapes of told things -/
theorem bulk_St (z : List Nat) : PyData.bulk (.str (S z)) = z.length := by simp [PyData.bulk, S]
/-- one item: a whole number, or another thing -/
inductive It1 (G : Hp) : V → Option Int → Prop
  | int (i : Int) : It1 G (.int i) (some i)
  | str (z : List Nat) : It1 G (.str (S z)) none
  | odd {v : V} (h : OddT G v) : It1 G v none
/-- neither a list nor .. -/
inductive NoL (G : Hp) : V → Prop
  | non : NoL G .non
  | bl (b : Bool) : NoL G (.bl b)
  | int (i : Int) : NoL G (.int i)
  | str (z : List Nat) : NoL G (.str (S z))
  | tup {p : Addr} {xs : List V} (h : G p = some (.tup xs)) : NoL G (.ref p)
  | dK {p : Addr} {kvs : List (Key × V)} (h : G p = some (.dK kvs)) : NoL G (.ref p)
  | ve {p : Addr} (h : G p = some (veO p)) : NoL G (.ref p)
/-- items side by side -/
inductive All2 {α β : Type} (R : α → β → Prop) : List α → List β → Prop
  | nil : All2 R [] []
  | cons {a : α} {b : β} {as : List α} {bs : List β} (h : R a b) (k : All2 R as bs) : All2 R (a :: as) (b :: bs)
theorem All2.len {α β : Type} {R : α → β → Prop} : ∀ {as : List α} {bs : List β}, All2 R as bs → as.length = bs.length
  | _, _, .nil => rfl
  | _, _, .cons _ k => by rw [List.length_cons, List.length_cons, k.len]
theorem All2.get {α β : Type} {R : α → β → Prop} : ∀ {as : List α} {bs : List β} {i : Nat} {a : α}, All2 R as bs → as[i]? = some a → ∃ b, bs[i]? = some b ∧ R a b
  | _, _, i, a, .nil, h => by simp at h
  | _, _, 0, a, .cons (b := b) r _, h => ⟨b, rfl, by simp at h; rw [← h]; exact r⟩
  | _, _, i + 1, a, .cons _ k, h => by
    obtain ⟨b, e, r⟩ := k.get (i := i) (by simpa using h)
    exact ⟨b, by simpa using e, r⟩
theorem All2.imp {α β : Type} {R R' : α → β → Prop} (f : ∀ a b, R a b → R' a b) : ∀ {as : List α} {bs : List β}, All2 R as bs → All2 R' as bs
  | _, _, .nil => .nil
  | _, _, .cons r k => .cons (f _ _ r) (k.imp f)
inductive It2 (G : Hp) : V → Option (List (Option Int)) → Prop
  | lst {p : Addr} {xs : List V} {os : List (Option Int)} (h : G p = some (.lst xs)) (k : All2 (It1 G) xs os) : It2 G (.ref p) (some os)
  | no {v : V} (h : NoL G v) : It2 G v none
inductive It3 (G : Hp) : V → Option (List (Option (List (Option Int)))) → Prop
  | lst {p : Addr} {xs : List V} {os : List (Option (List (Option Int)))} (h : G p = some (.lst xs)) (k : All2 (It2 G) xs os) : It3 G (.ref p) (some os)
  | no {v : V} (h : NoL G v) : It3 G v none
theorem It1.up {G G' : Hp} (s : Same G G') {v : V} {o : Option Int} (h : It1 G v o) : It1 G' v o := by
  cases h with
  | int i => exact .int i
  | str z => exact .str z
  | odd h => exact .odd (h.up s)
theorem NoL.up {G G' : Hp} (s : Same G G') {v : V} (h : NoL G v) : NoL G' v := by
  cases h with
  | non => exact .non
  | bl b => exact .bl b
  | int i => exact .int i
  | str z => exact .str z
  | tup h => exact .tup (s _ _ h)
  | dK h => exact .dK (s _ _ h)
  | ve h => exact .ve (s _ _ h)
theorem NoL.own {G H : Hp} {C : List (Addr × HO)} (O : Own G C H) {v : V} (h : NoL G v) : NoL H v := by
  cases h with
  | non => exact .non
  | bl b => exact .bl b
  | int i => exact .int i
  | str z => exact .str z
  | tup h => exact .tup (hp_up O h)
  | dK h => exact .dK (hp_up O h)
  | ve h => exact .ve (hp_up O h)
theorem It2.up {G G' : Hp} (s : Same G G') {v : V} {o : Option (List (Option Int))} (h : It2 G v o) : It2 G' v o := by
  cases h with
  | lst h k => exact .lst (s _ _ h) (k.imp fun _ _ => It1.up s)
  | no h => exact .no (h.up s)
theorem It3.up {G G' : Hp} (s : Same G G') {v : V} {o : Option (List (Option (List (Option Int))))} (h : It3 G v o) : It3 G' v o := by
  cases h with
  | lst h k => exact .lst (s _ _ h) (k.imp fun _ _ => It2.up s)
  | no h => exact .no (h.up s)
/-- the shapes of data -/
def sh1 : PyData → Option Int
  | .int i => some i
  | _ => none
def sh2 : PyData → Option (List (Option Int))
  | .list ds => some (ds.map sh1)
  | _ => none
def sh3 : PyData → Option (List (Option (List (Option Int))))
  | .list ds => some (ds.map sh2)
  | _ => none
theorem Td.odd {G : Hp} {v : V} {d : PyData} (h : Td G v d) : OddT G v ∨ (∃ i, v = .int i ∧ d = .int i) ∨ ∃ z : List Nat, v = .str (S z) ∧ d = .str (S z) := by
  cases h with
  | non => exact .inl .non
  | bl b => exact .inl (.bl b)
  | int i => exact .inr (.inl ⟨i, rfl, rfl⟩)
  | str x => exact .inr (.inr ⟨cs x, by rw [S_cs], by rw [S_cs]⟩)
  | lst h k => exact .inl (.lst h)
  | tup h k => exact .inl (.tup h)
  | dk h => exact .inl (.dK h)
  | dki h k => exact .inl (.dK h)
theorem Td.it1 {G : Hp} {v : V} {d : PyData} (h : Td G v d) : It1 G v (sh1 d) := by
  cases h with
  | non => exact .odd .non
  | bl b => exact .odd (.bl b)
  | int i => exact .int i
  | str x => have := It1.str (G := G) (cs x); rw [S_cs] at this; exact this
  | lst h k => exact .odd (.lst h)
  | tup h k => exact .odd (.tup h)
  | dk h => exact .odd (.dK h)
  | dki h k => exact .odd (.dK h)
theorem TdAll.all {G : Hp} {β : Type} {R : V → β → Prop} {f : PyData → β} (hf : ∀ v d, Td G v d → R v (f d)) : ∀ {vs : List V} {ds : List PyData}, TdAll G vs ds → All2 R vs (ds.map f)
  | _, _, .nil => .nil
  | _, _, .cons h k => .cons (hf _ _ h) (TdAll.all hf k)
theorem Td.nol {G : Hp} {v : V} {d : PyData} (h : Td G v d) (n : ∀ ds, d ≠ .list ds) : NoL G v := by
  cases h with
  | non => exact .non
  | bl b => exact .bl b
  | int i => exact .int i
  | str x => have := NoL.str (G := G) (cs x); rw [S_cs] at this; exact this
  | lst h k => exact absurd rfl (n _)
  | tup h k => exact .tup h
  | dk h => exact .dK h
  | dki h k => exact .dK h
theorem Td.it2 {G : Hp} {v : V} {d : PyData} (h : Td G v d) : It2 G v (sh2 d) := by
  cases h with
  | lst h k => exact .lst h (TdAll.all (fun _ _ => Td.it1) k)
  | non => exact .no .non
  | bl b => exact .no (.bl b)
  | int i => exact .no (.int i)
  | str x => have := NoL.str (G := G) (cs x); rw [S_cs] at this; exact .no this
  | tup h k => exact .no (.tup h)
  | dk h => exact .no (.dK h)
  | dki h k => exact .no (.dK h)
theorem Td.it3 {G : Hp} {v : V} {d : PyData} (h : Td G v d) : It3 G v (sh3 d) := by
  cases h with
  | lst h k => exact .lst h (TdAll.all (fun _ _ => Td.it2) k)
  | non => exact .no .non
  | bl b => exact .no (.bl b)
  | int i => exact .no (.int i)
  | str x => have := NoL.str (G := G) (cs x); rw [S_cs] at this; exact .no this
  | tup h k => exact .no (.tup h)
  | dk h => exact .no (.dK h)
  | dki h k => exact .no (.dK h)
/-- the shape that lists of numbers have -/
def nlS (L : List (List Int)) : Option (List (Option (List (Option Int)))) := some (L.map fun ns => some (ns.map some))
theorem sh1_some {d : PyData} {i : Int} (h : sh1 d = some i) : d = .int i := by
  cases d <;> simp [sh1] at h
  rw [h]
theorem sh1_map : ∀ {ds : List PyData} {ns : List Int}, ds.map sh1 = ns.map some → ds = ns.map PyData.int
  | [], [], _ => rfl
  | [], _ :: _, h => by simp at h
  | _ :: _, [], h => by simp at h
  | d :: ds, n :: ns, h => by
    rw [List.map_cons, List.map_cons, List.cons.injEq] at h
    rw [List.map_cons, sh1_some h.1, sh1_map h.2]
theorem sh2_some {d : PyData} {ns : List Int} (h : sh2 d = some (ns.map some)) : d = .list (ns.map PyData.int) := by
  cases d <;> simp [sh2] at h
  rw [sh1_map h]
theorem sh2_map : ∀ {ds : List PyData} {L : List (List Int)}, ds.map sh2 = L.map (fun ns => some (ns.map some)) → ds = L.map fun ns => PyData.list (ns.map PyData.int)
  | [], [], _ => rfl
  | [], _ :: _, h => by simp at h
  | _ :: _, [], h => by simp at h
  | d :: ds, n :: ns, h => by
    rw [List.map_cons, List.map_cons, List.cons.injEq] at h
    rw [List.map_cons, sh2_some h.1, sh2_map h.2]
theorem sh3_nl {d : PyData} {L : List (List Int)} : sh3 d = nlS L ↔ d = nlD L := by
  constructor
  · intro h
    cases d with
    | list ds =>
      have h : ds.map sh2 = L.map (fun ns => some (ns.map some)) := Option.some.inj h
      rw [sh2_map h]
      rfl
    | _ => exact absurd h (by simp [sh3, nlS])
  · rintro rfl
    unfold nlD nlS sh3
    simp only [List.map_map, Function.comp_def, sh2, sh1]
/-- the lists of the text -/
def takL (y z t : List Nat) : List (List Int) := (List.range (t.length + 1)).map (tkV y z t)
theorem td_len' {G : Hp} : ∀ {xs : List V} {ds : List PyData}, TdAll G xs ds → xs.length = ds.length
  | _, _, .nil => rfl
  | _, _, .cons _ k => by rw [List.length_cons, List.length_cons, td_len' k]
/-- whether the way weaves, letter by letter -/
def wvR : List Nat → List Nat → List Nat → List Nat → Bool
  | u, v, [], [] => decide (u = [] ∧ v = [])
  | u, v, c :: w, a :: t => if c = 49 then decide (v.take 1 = [a]) && wvR u v.tail w t else decide (u.take 1 = [a]) && wvR u.tail v w t
  | _, _, _, _ => false
theorem wvR_ok : ∀ {w t u v : List Nat}, (∀ x ∈ w, x = 48 ∨ x = 49) → (wvR u v w t = true ↔ Fits u v w ∧ weave u v w = t)
  | [], [], u, v, h => by
    unfold wvR
    rw [decide_eq_true_eq]
    constructor
    · rintro ⟨rfl, rfl⟩
      exact ⟨⟨(fun x hx => nomatch hx), rfl, rfl⟩, rfl⟩
    · rintro ⟨⟨-, h1, h2⟩, -⟩
      exact ⟨List.length_eq_zero_iff.mp (by simpa using h1.symm), List.length_eq_zero_iff.mp (by simpa using h2.symm)⟩
  | [], a :: t, u, v, h => by
    unfold wvR
    constructor
    · intro h; cases h
    · rintro ⟨-, h2⟩
      unfold weave at h2
      cases h2
  | c :: w, [], u, v, h => by
    unfold wvR
    constructor
    · intro h; cases h
    · rintro ⟨h1, h2⟩
      have := h1.weave_len
      rw [h2] at this
      simp at this
  | c :: w, a :: t, u, v, h => by
    have hw : ∀ x ∈ w, x = 48 ∨ x = 49 := fun x hx => h x (List.mem_cons_of_mem _ hx)
    unfold wvR
    rcases h c List.mem_cons_self with rfl | rfl
    · rw [if_neg (by decide), Bool.and_eq_true, decide_eq_true_eq, wvR_ok hw]
      cases u with
      | nil =>
        constructor
        · rintro ⟨h1, -⟩; cases h1
        · rintro ⟨h1, -⟩
          obtain ⟨_, _, e, _⟩ := h1.zero
          cases e
      | cons b u =>
        constructor
        · rintro ⟨h1, hf, hv⟩
          obtain rfl : b = a := by simpa using h1
          have hf' : Fits (b :: u) v (48 :: w) := ⟨h, by rw [List.count_cons_self, List.length_cons, hf.2.1]; rfl, by rw [List.count_cons_of_ne (by decide)]; exact hf.2.2⟩
          refine ⟨hf', ?_⟩
          obtain ⟨_, _, e, _, e2⟩ := hf'.zero
          cases e
          rw [e2]
          exact congrArg _ hv
        · rintro ⟨hf, hv⟩
          obtain ⟨b', u', e, hf2, e2⟩ := hf.zero
          cases e
          rw [e2, List.cons.injEq] at hv
          exact ⟨by simp [hv.1], hf2, hv.2⟩
    · rw [if_pos rfl, Bool.and_eq_true, decide_eq_true_eq, wvR_ok hw]
      cases v with
      | nil =>
        constructor
        · rintro ⟨h1, -⟩; cases h1
        · rintro ⟨h1, -⟩
          obtain ⟨_, _, e, _⟩ := h1.one
          cases e
      | cons b v =>
        constructor
        · rintro ⟨h1, hf, hv⟩
          obtain rfl : b = a := by simpa using h1
          have hf' : Fits u (b :: v) (49 :: w) := ⟨h, by rw [List.count_cons_of_ne (by decide)]; exact hf.2.1, by rw [List.count_cons_self, List.length_cons, hf.2.2]; rfl⟩
          refine ⟨hf', ?_⟩
          obtain ⟨_, _, e, _, e2⟩ := hf'.one
          cases e
          rw [e2]
          exact congrArg _ hv
        · rintro ⟨hf, hv⟩
          obtain ⟨b', u', e, hf2, e2⟩ := hf.one
          cases e
          rw [e2, List.cons.injEq] at hv
          exact ⟨by simp [hv.1], hf2, hv.2⟩
def okW (y z t w : List Nat) : Bool := isWayB y z w && decide (weave y z w = t)
theorem okW_iff {y z t w : List Nat} : okW y z t w = true ↔ Fits y z w ∧ weave y z w = t := by
  unfold okW
  rw [Bool.and_eq_true, decide_eq_true_eq]
  refine ⟨fun ⟨a, b⟩ => ⟨fits_B (of_decide_eq_true a), b⟩, fun ⟨a, b⟩ => ⟨B_fits a, b⟩⟩
theorem okW_no {y z t w : List Nat} (h : ¬ ∀ x ∈ w, x = 48 ∨ x = 49) : okW y z t w = false := by
  cases e : okW y z t w with
  | false => rfl
  | true => exact absurd (okW_iff.mp e).1.1 h
theorem okW_len {y z t w : List Nat} (h : ¬ w.length = t.length) : okW y z t w = false := by
  cases e : okW y z t w with
  | false => rfl
  | true =>
    obtain ⟨a, b⟩ := okW_iff.mp e
    exact absurd (by rw [← b, a.weave_len]) h
theorem okW_R {y z t w : List Nat} (h : ∀ x ∈ w, x = 48 ∨ x = 49) : okW y z t w = wvR y z w t := by
  rw [Bool.eq_iff_iff, okW_iff, wvR_ok h]
/-- whether data is a way that weaves -/
def wvB (y z t : List Nat) : PyData → Bool
  | .str x => okW y z t (cs x)
  | _ => false
/-- what a paper shows, by its data -/
noncomputable def dueD (y z t : List Nat) (d : PyData) : Option Bool := by
  classical
  exact if ∃ x, d = .tuple [.str (S (cs "way")), x] ∧ wvB y z t x = true then some true else if d = .tuple [.str (S (cs "not")), nlD (takL y z t)] ∧ canW y z t = false then some false else none
def dueV : Option Bool → V
  | none => .non
  | some b => .bl b
/-- no text -/
def NoTx (G : Hp) (v : V) : Prop := OddT G v ∨ ∃ i, v = .int i
/-- no tuple -/
inductive NoTu (G : Hp) : V → Prop
  | non : NoTu G .non
  | bl (b : Bool) : NoTu G (.bl b)
  | int (i : Int) : NoTu G (.int i)
  | str (z : List Nat) : NoTu G (.str (S z))
  | lst {p : Addr} {xs : List V} (h : G p = some (.lst xs)) : NoTu G (.ref p)
  | dK {p : Addr} {kvs : List (Key × V)} (h : G p = some (.dK kvs)) : NoTu G (.ref p)
  | ve {p : Addr} (h : G p = some (veO p)) : NoTu G (.ref p)
/-- a thing of any kind, and what it shows -/
inductive Pap (G : Hp) (y z t : List Nat) : V → Option Bool → Prop
  | no {v : V} (h : NoTu G v) : Pap G y z t v none
  | len {p : Addr} {xs : List V} (h : G p = some (.tup xs)) (hl : ¬ xs.length = 2) (hl2 : xs.length ≤ 1000000) : Pap G y z t (.ref p) none
  | nost {p : Addr} {a b : V} (h : G p = some (.tup [a, b])) (ha : NoTx G a) : Pap G y z t (.ref p) none
  | way {p : Addr} {w : List Nat} (h : G p = some (.tup [.str (S (cs "way")), .str (S w)])) (hw : w.length ≤ 200000) : Pap G y z t (.ref p) (if okW y z t w = true then some true else none)
  | wayno {p : Addr} {b : V} (h : G p = some (.tup [.str (S (cs "way")), b])) (hb : NoTx G b) : Pap G y z t (.ref p) none
  | nt {p : Addr} {b : V} {o : Option (List (Option (List (Option Int))))} (h : G p = some (.tup [.str (S (cs "not")), b])) (hb : It3 G b o) : Pap G y z t (.ref p) (if o = nlS (takL y z t) ∧ canW y z t = false then some false else none)
  | word {p : Addr} {x : List Nat} {b : V} (h : G p = some (.tup [.str (S x), b])) (h1 : ¬ x = cs "way") (h2 : ¬ x = cs "not") : Pap G y z t (.ref p) none
theorem Td.notx {G : Hp} {v : V} {d : PyData} (h : Td G v d) (n : ∀ x, d ≠ .str x) : NoTx G v := by
  cases h with
  | non => exact .inl .non
  | bl b => exact .inl (.bl b)
  | int i => exact .inr ⟨i, rfl⟩
  | str x => exact absurd rfl (n x)
  | lst h k => exact .inl (.lst h)
  | tup h k => exact .inl (.tup h)
  | dk h => exact .inl (.dK h)
  | dki h k => exact .inl (.dK h)
theorem due_no {y z t : List Nat} {d : PyData} (h : ∀ x r, d ≠ .tuple [.str x, r]) : dueD y z t d = none := by
  unfold dueD
  rw [if_neg (fun ⟨x, e, _⟩ => h _ _ e), if_neg (fun e => h _ _ e.1)]
theorem S_in {a b : List Nat} (h : S a = S b) : a = b := by
  have := congrArg cs h
  rwa [cs_S, cs_S] at this
/-- the data of a thing tells what it shows -/
theorem Td.pap {G : Hp} {y z t : List Nat} {v : V} {d : PyData} (h : Td G v d) (hb : d.bulk ≤ 200000) (hl : ∀ ds, d = .tuple ds → ds.length ≤ 1000000) : Pap G y z t v (dueD y z t d) := by
  have ew : ¬ cs "way" = cs "not" := by decide +kernel
  cases h with
  | non => rw [due_no (by simp)]; exact .no .non
  | bl b => rw [due_no (by simp)]; exact .no (.bl b)
  | int i => rw [due_no (by simp)]; exact .no (.int i)
  | str x => rw [due_no (by simp)]; have := NoTu.str (G := G) (cs x); rw [S_cs] at this; exact .no this
  | lst h k => rw [due_no (by simp)]; exact .no (.lst h)
  | dk h => rw [due_no (by simp)]; exact .no (.dK h)
  | dki h k => rw [due_no (by simp)]; exact .no (.dK h)
  | @tup p xs ds h k =>
    match xs, ds, k with
    | [], _, .nil => rw [due_no (by simp)]; exact .len h (by simp) (by simp)
    | [_], _, .cons _ .nil => rw [due_no (by simp)]; exact .len h (by simp) (by simp)
    | a :: b :: c :: xs, d1 :: d2 :: d3 :: ds, k' =>
      rw [due_no (by simp)]
      have e := td_len' k'
      have := hl _ rfl
      exact .len h (by simp) (by rw [e]; exact this)
    | [a, b], [d1, d2], .cons k1 (.cons k2 .nil) =>
      by_cases hs : ∃ x, d1 = .str x
      · obtain ⟨x, rfl⟩ := hs
        cases k1
        by_cases e1 : cs x = cs "way"
        · have ex : x = S (cs "way") := by rw [← e1, S_cs]
          subst ex
          by_cases h2 : ∃ x, d2 = .str x
          · obtain ⟨x, rfl⟩ := h2
            cases k2
            have hx : (cs x).length ≤ 200000 := by
              rw [PyData.bulk, PyData.bulkAll, PyData.bulkAll, PyData.bulkAll] at hb
              have : (PyData.str x).bulk = (cs x).length := by rw [← S_cs x, bulk_St, S_cs]
              omega
            have e : dueD y z t (.tuple [.str (S (cs "way")), .str x]) = if okW y z t (cs x) = true then some true else none := by
              unfold dueD
              by_cases q : okW y z t (cs x) = true
              · rw [if_pos ⟨.str x, rfl, q⟩, if_pos q]
              · rw [if_neg q, if_neg (by rintro ⟨r, e, h⟩; simp at e; rw [← e] at h; exact q h), if_neg (by rintro ⟨e, -⟩; simp at e; exact ew (S_in e.1))]
            rw [e]
            have := Pap.way (G := G) (y := y) (z := z) (t := t) (p := p) (w := cs x) (by rw [S_cs]; exact h) hx
            exact this
          · have e : dueD y z t (.tuple [.str (S (cs "way")), d2]) = none := by
              unfold dueD
              rw [if_neg (by
                rintro ⟨r, e, h⟩
                simp at e
                rw [← e] at h
                cases d2 <;> simp [wvB] at h
                exact h2 ⟨_, rfl⟩), if_neg (by rintro ⟨e, -⟩; simp at e; exact ew (S_in e.1))]
            rw [e]
            exact .wayno h (Td.notx k2 fun x e => h2 ⟨x, e⟩)
        · by_cases e2 : cs x = cs "not"
          · have ex : x = S (cs "not") := by rw [← e2, S_cs]
            subst ex
            have e : dueD y z t (.tuple [.str (S (cs "not")), d2]) = if sh3 d2 = nlS (takL y z t) ∧ canW y z t = false then some false else none := by
              unfold dueD
              rw [if_neg (by rintro ⟨r, e, h⟩; simp at e; exact ew (S_in e.1).symm)]
              by_cases q : sh3 d2 = nlS (takL y z t) ∧ canW y z t = false
              · rw [if_pos q, if_pos ⟨by rw [sh3_nl.mp q.1], q.2⟩]
              · rw [if_neg q, if_neg (by rintro ⟨e, h⟩; simp at e; exact q ⟨sh3_nl.mpr e, h⟩)]
            rw [e]
            exact .nt h (Td.it3 k2)
          · have e : dueD y z t (.tuple [.str x, d2]) = none := by
              unfold dueD
              rw [if_neg (by rintro ⟨r, e, h⟩; simp at e; exact e1 (by rw [e.1, cs_S])), if_neg (by rintro ⟨e, h⟩; simp at e; exact e2 (by rw [e.1, cs_S]))]
            rw [e]
            have := Pap.word (G := G) (y := y) (z := z) (t := t) (p := p) (x := cs x) (b := b) (by rw [S_cs]; exact h) e1 e2
            exact this
      · rw [due_no (by rintro x r e; simp at e; exact hs ⟨_, e.1⟩)]
        exact .nost h (Td.notx k1 fun x e => hs ⟨x, e⟩)

end Law

namespace Law
open PySem PySem.Spec PyProof.Rows L2 Go
--# over40
--# math shape
/-! data that repr takes: how much of it -/
structure Fit (k b : Nat) (d : PyData) : Prop where
  sh : d.showable = true
  lv : d.leavesShort 64 = true
  bk : d.bulk ≤ b
  dp : d.depth ≤ k
theorem Fit.mono {k b k' b' : Nat} {d : PyData} (h : Fit k b d) (hk : k ≤ k') (hb : b ≤ b') : Fit k' b' d := ⟨h.sh, h.lv, Nat.le_trans h.bk hb, Nat.le_trans h.dp hk⟩
theorem Fit.all {k b : Nat} : ∀ {ds : List PyData}, (∀ d ∈ ds, Fit k b d) → PyData.showableAll ds = true ∧ PyData.leavesShortAll 64 ds = true ∧ PyData.bulkAll ds ≤ (b + 1) * ds.length ∧ PyData.depthAll ds ≤ k
  | [], _ => ⟨rfl, rfl, Nat.zero_le _, Nat.zero_le _⟩
  | d :: ds, h => by
    obtain ⟨a1, a2, a3, a4⟩ := Fit.all fun x hx => h x (List.mem_cons_of_mem _ hx)
    have q := h d List.mem_cons_self
    refine ⟨by rw [PyData.showableAll, q.sh, a1]; rfl, by rw [PyData.leavesShortAll, q.lv, a2]; rfl, ?_, ?_⟩
    · rw [PyData.bulkAll, List.length_cons, Nat.mul_succ]
      have := q.bk
      omega
    · rw [PyData.depthAll]
      exact Nat.max_le.mpr ⟨q.dp, a4⟩
theorem Fit.list {k b n : Nat} {ds : List PyData} (h : ∀ d ∈ ds, Fit k b d) (hl : ds.length ≤ n) : Fit (k + 1) ((b + 1) * n) (.list ds) := by
  obtain ⟨a1, a2, a3, a4⟩ := Fit.all h
  refine ⟨by rw [PyData.showable]; exact a1, by rw [PyData.leavesShort]; exact a2, ?_, by rw [PyData.depth]; omega⟩
  rw [PyData.bulk]
  exact Nat.le_trans a3 (Nat.mul_le_mul_left _ hl)
theorem Fit.tuple {k b n : Nat} {ds : List PyData} (h : ∀ d ∈ ds, Fit k b d) (hl : ds.length ≤ n) : Fit (k + 1) ((b + 1) * n) (.tuple ds) := by
  obtain ⟨a1, a2, a3, a4⟩ := Fit.all h
  refine ⟨by rw [PyData.showable]; exact a1, by rw [PyData.leavesShort]; exact a2, ?_, by rw [PyData.depth]; omega⟩
  rw [PyData.bulk]
  exact Nat.le_trans a3 (Nat.mul_le_mul_left _ hl)
theorem Fit.non : Fit 0 0 .none := ⟨rfl, rfl, Nat.le_refl _, Nat.le_refl _⟩
theorem Fit.bl (b : Bool) : Fit 0 0 (.bool b) := ⟨rfl, rfl, Nat.le_refl _, Nat.le_refl _⟩
theorem Fit.dk : Fit 1 0 (.dict []) := ⟨rfl, rfl, Nat.le_refl _, by rw [PyData.depth]; decide⟩
theorem Fit.int {i : Int} (h : i.natAbs < 10 ^ 40) : Fit 0 0 (.int i) := by
  refine ⟨?_, ?_, Nat.le_refl _, Nat.le_refl _⟩
  · rw [PyData.showable]
    refine decide_eq_true ?_
    by_cases e : i.natAbs = 0
    · rw [e]; decide
    · exact (Nat.log2_lt e).mpr (Nat.lt_of_lt_of_le h (Nat.le_trans (show 10 ^ 40 ≤ 2 ^ 200 by decide) (Nat.pow_le_pow_right (by decide) (by decide))))
  · rw [PyData.leavesShort]
    refine decide_eq_true ?_
    rw [PyData.shown_int, PySem.ofString_length]
    exact Nat.le_trans (PySem.int_text_length_le10 (k := 40) (by decide) h) (by decide)
theorem Fit.str {z : List Nat} {n : Nat} (h : ∀ x ∈ z, x < 128) (hl : z.length ≤ n) : Fit 0 n (.str (S z)) := by
  refine ⟨rfl, ?_, by rw [bulk_St]; exact hl, Nat.le_refl _⟩
  simp only [PyData.leavesShort, List.all_eq_true, decide_eq_true_eq]
  intro c hc
  have := h c (by simpa [S] using hc)
  omega
theorem Fit.size {k b : Nat} {d : PyData} (h : Fit k b d) (hb : b ≤ 200000) : d.shown.length ≤ sizeLine := by
  have := PyData.shown_le_bulk 64 (by decide) d h.lv
  have := h.bk
  rw [show sizeLine = 2 ^ 24 from rfl]
  omega
/-! spoilt lists -/
/-- a thing in a list of numbers, spoilt or not -/
inductive Itm (m : Nat) : PyData → Prop
  | non : Itm m .none
  | bl (b : Bool) : Itm m (.bool b)
  | int {i : Int} (h : i.natAbs ≤ m) : Itm m (.int i)
  | zer : Itm m (.str (S (cs "0")))
  | lst : Itm m (.list [.int 0])
  | tup : Itm m (.tuple [.int 0])
  | dk : Itm m (.dict [])
theorem Itm.mono {m m' : Nat} (hm : m ≤ m') {d : PyData} (h : Itm m d) : Itm m' d := by
  cases h with
  | non => exact .non
  | bl b => exact .bl b
  | int h => exact .int (Nat.le_trans h hm)
  | zer => exact .zer
  | lst => exact .lst
  | tup => exact .tup
  | dk => exact .dk
theorem one_item {α : Type} {P : α → Prop} {a : α} (h : P a) : ∀ x ∈ [a], P x := fun x hx => by rw [List.mem_singleton] at hx; rw [hx]; exact h
theorem Itm.fit {m : Nat} (hm : m < 10 ^ 40) {d : PyData} (h : Itm m d) : Fit 1 1 d := by
  cases h with
  | non => exact Fit.non.mono (by decide) (by decide)
  | bl b => exact (Fit.bl b).mono (by decide) (by decide)
  | int h => exact (Fit.int (Nat.lt_of_le_of_lt h hm)).mono (by decide) (by decide)
  | zer => exact (Fit.str (z := cs "0") (n := 1) (by decide +kernel) (by decide +kernel)).mono (by decide) (by decide)
  | lst => exact (Fit.list (n := 1) (one_item (Fit.int (by decide))) (by decide)).mono (by decide) (by decide)
  | tup => exact (Fit.tuple (n := 1) (one_item (Fit.int (by decide))) (by decide)).mono (by decide) (by decide)
  | dk => exact Fit.dk.mono (by decide) (by decide)
/-- a thing in a list of lists of numbers, spoilt or not -/
inductive Otm (m w : Nat) : PyData → Prop
  | lst {ds : List PyData} (h : ∀ d ∈ ds, Itm m d) (hl : ds.length ≤ w) : Otm m w (.list ds)
  | tup {ds : List PyData} (h : ∀ d ∈ ds, Itm m d) (hl : ds.length ≤ w) : Otm m w (.tuple ds)
  | itm {d : PyData} (h : Itm m d) : Otm m w d
  | emp : Otm m w (.str (S (cs "")))
theorem Otm.mono {m m' w w' : Nat} (hm : m ≤ m') (hw : w ≤ w') {d : PyData} (h : Otm m w d) : Otm m' w' d := by
  cases h with
  | lst h hl => exact .lst (fun d hd => (h d hd).mono hm) (Nat.le_trans hl hw)
  | tup h hl => exact .tup (fun d hd => (h d hd).mono hm) (Nat.le_trans hl hw)
  | itm h => exact .itm (h.mono hm)
  | emp => exact .emp
theorem Otm.fit {m w : Nat} (hm : m < 10 ^ 40) {d : PyData} (h : Otm m w d) : Fit 2 (2 * w + 1) d := by
  cases h with
  | lst h hl => exact (Fit.list (fun d hd => (h d hd).fit hm) hl).mono (by decide) (by omega)
  | tup h hl => exact (Fit.tuple (fun d hd => (h d hd).fit hm) hl).mono (by decide) (by omega)
  | itm h => exact (h.fit hm).mono (by decide) (by omega)
  | emp => exact (Fit.str (z := cs "") (n := 1) (by decide +kernel) (by decide +kernel)).mono (by decide) (by omega)
/-- the same of what stands in a heap -/
def ItV (G : Hp) (m : Nat) (v : V) : Prop := ∃ d, Td G v d ∧ Itm m d
def OtV (G : Hp) (m w : Nat) (v : V) : Prop := ∃ d, Td G v d ∧ Otm m w d
theorem ItV.up {G G' : Hp} (s : Same G G') {m m' : Nat} (hm : m ≤ m') {v : V} (h : ItV G m v) : ItV G' m' v := by
  obtain ⟨d, h, k⟩ := h
  exact ⟨d, h.up s, k.mono hm⟩
theorem OtV.up {G G' : Hp} (s : Same G G') {m m' w w' : Nat} (hm : m ≤ m') (hw : w ≤ w') {v : V} (h : OtV G m w v) : OtV G' m' w' v := by
  obtain ⟨d, h, k⟩ := h
  exact ⟨d, h.up s, k.mono hm hw⟩
theorem td_list {G : Hp} {P : PyData → Prop} : ∀ {xs : List V}, (∀ v ∈ xs, ∃ d, Td G v d ∧ P d) → ∃ ds, TdAll G xs ds ∧ (∀ d ∈ ds, P d) ∧ ds.length = xs.length
  | [], _ => ⟨[], .nil, (by simp), rfl⟩
  | x :: xs, h => by
    obtain ⟨d, h1, p1⟩ := h x List.mem_cons_self
    obtain ⟨ds, h2, p2, e⟩ := td_list fun v hv => h v (List.mem_cons_of_mem _ hv)
    refine ⟨d :: ds, .cons h1 h2, ?_, by rw [List.length_cons, List.length_cons, e]⟩
    intro y hy
    rcases List.mem_cons.mp hy with rfl | hy
    · exact p1
    · exact p2 y hy
theorem td_mem {G : Hp} : ∀ {xs : List V} {ds : List PyData}, TdAll G xs ds → ∀ v ∈ xs, ∃ d, Td G v d ∧ d ∈ ds
  | _, _, .nil, v, hv => nomatch hv
  | _, _, .cons (d := d) h k, v, hv => by
    rcases List.mem_cons.mp hv with rfl | hv
    · exact ⟨d, h, List.mem_cons_self⟩
    · obtain ⟨e, he, hm⟩ := td_mem k v hv
      exact ⟨e, he, List.mem_cons_of_mem _ hm⟩
theorem td_len {G : Hp} : ∀ {xs : List V} {ds : List PyData}, TdAll G xs ds → xs.length = ds.length
  | _, _, .nil => rfl
  | _, _, .cons _ k => by rw [List.length_cons, List.length_cons, td_len k]
theorem OtV.lst {G : Hp} {m w : Nat} {p : Addr} {xs : List V} (e : G p = some (.lst xs)) (h : ∀ v ∈ xs, ItV G m v) (hl : xs.length ≤ w) : OtV G m w (.ref p) := by
  obtain ⟨ds, k, p, e2⟩ := td_list h
  exact ⟨.list ds, .lst e k, .lst p (by omega)⟩
theorem OtV.tup {G : Hp} {m w : Nat} {p : Addr} {xs : List V} (e : G p = some (.tup xs)) (h : ∀ v ∈ xs, ItV G m v) (hl : xs.length ≤ w) : OtV G m w (.ref p) := by
  obtain ⟨ds, k, p, e2⟩ := td_list h
  exact ⟨.tuple ds, .tup e k, .tup p (by omega)⟩
/-- a thing in the outer list that is a list is one of items -/
theorem otm_list {G : Hp} {m w : Nat} {v : V} {d : PyData} (h : Td G v d) (k : Otm m w d) (hw : 1 ≤ w) (hl : isLd d = true) : ∃ p xs, v = .ref p ∧ G p = some (.lst xs) ∧ (∀ x ∈ xs, ItV G m x) ∧ xs.length ≤ w := by
  cases h with
  | @lst a xs ds h j =>
    refine ⟨a, xs, rfl, h, ?_⟩
    have hd : (∀ d ∈ ds, Itm m d) ∧ ds.length ≤ w := by
      cases k with
      | lst h hl => exact ⟨h, hl⟩
      | itm h =>
        cases h
        exact ⟨one_item (.int (Nat.zero_le _)), hw⟩
    refine ⟨fun x hx => ?_, by rw [td_len j]; exact hd.2⟩
    obtain ⟨d, t, hm⟩ := td_mem j x hx
    exact ⟨d, t, hd.1 d hm⟩
  | non => cases hl
  | bl b => cases hl
  | int i => cases hl
  | str x => cases hl
  | tup h k => cases hl
  | dk h => cases hl
  | dki h k => cases hl
theorem cut_mem {α : Type} {z : List α} {lo hi : Option Int} {x : α} (h : x ∈ cut z lo hi) : x ∈ z := by
  unfold cut at h
  exact List.mem_of_mem_drop (List.mem_of_mem_take h)
theorem cut_len {α : Type} (z : List α) (lo hi : Option Int) : (cut z lo hi).length ≤ z.length := by
  unfold cut
  rw [List.length_take, List.length_drop]
  omega
theorem it_app {α : Type} {P : α → Prop} {a b : List α} (h1 : ∀ y ∈ a, P y) (h2 : ∀ y ∈ b, P y) : ∀ y ∈ a ++ b, P y := fun y hy => by
  rcases List.mem_append.mp hy with h | h
  · exact h1 y h
  · exact h2 y h
theorem it_cut {α : Type} {P : α → Prop} {a : List α} {lo hi : Option Int} (h1 : ∀ y ∈ a, P y) : ∀ y ∈ cut a lo hi, P y := fun y hy => h1 y (cut_mem hy)
theorem it_rev {α : Type} {P : α → Prop} {a : List α} (h1 : ∀ y ∈ a, P y) : ∀ y ∈ a.reverse, P y := fun y hy => h1 y (List.mem_reverse.mp hy)
theorem it_up {G G' : Hp} (s : Same G G') {m m' : Nat} (hm : m ≤ m') {xs : List V} (h : ∀ x ∈ xs, ItV G m x) : ∀ x ∈ xs, ItV G' m' x := fun x hx => (h x hx).up s hm
theorem ot_up {G G' : Hp} (s : Same G G') {m m' w w' : Nat} (hm : m ≤ m') (hw : w ≤ w') {xs : List V} (h : ∀ x ∈ xs, OtV G m w x) : ∀ x ∈ xs, OtV G' m' w' x := fun x hx => (h x hx).up s hm hw
theorem len_to {α : Type} (z : List α) {n : Int} (h : 0 ≤ n) : (cut z none (some n)).length = min n.toNat z.length := by rw [cut_to _ _ h, List.length_take]
theorem len_fr {α : Type} (z : List α) {n : Int} (h : 0 ≤ n) : (cut z (some n) none).length = z.length - n.toNat := by rw [cut_from _ _ h, List.length_drop]
theorem len_mid {α : Type} (z : List α) {a b : Int} (ha : 0 ≤ a) (hb : 0 ≤ b) : (cut z (some a) (some b)).length = min (b.toNat - a.toNat) (z.length - a.toNat) := by rw [cut_mid _ _ _ ha hb, List.length_take, List.length_drop]
theorem atI_mem {α : Type} {z : List α} {i : Int} (h0 : 0 ≤ i) (h1 : i < z.length) : ∃ v, atI z i = some v ∧ v ∈ z := by
  obtain ⟨n, rfl⟩ := Int.eq_ofNat_of_zero_le h0
  have hn : n < z.length := by omega
  exact ⟨z[n], atI_get (List.getElem?_eq_getElem hn), List.getElem_mem hn⟩
def isI : PyData → Bool
  | .int _ => true
  | _ => false
theorem isI_int {d : PyData} (h : isI d = true) : ∃ i, d = .int i := by
  cases d <;> simp [isI] at h
  exact ⟨_, rfl⟩
theorem td_ints : ∀ {xs : List V}, (∀ v ∈ xs, ∃ i, v = .int i) → ∃ ns : List Int, xs = ns.map V.int
  | [], _ => ⟨[], rfl⟩
  | x :: xs, h => by
    obtain ⟨i, rfl⟩ := h x List.mem_cons_self
    obtain ⟨ns, rfl⟩ := td_ints fun v hv => h v (List.mem_cons_of_mem _ hv)
    exact ⟨i :: ns, rfl⟩

theorem sorted_nodup {ns : List Int} (h : ns.Pairwise (· < ·)) : ns.Nodup := h.imp (fun {a b} h => by omega)
theorem nd_leC : ∀ (a b : List Int), a.Nodup → (∀ x ∈ a, x ∈ b) → a.length ≤ b.length
  | [], b, _, _ => Nat.zero_le _
  | x :: a, b, h, m => by
    obtain ⟨h1, h2⟩ := List.nodup_cons.mp h
    have ih := nd_leC a (b.erase x) h2 fun y hy => (List.mem_erase_of_ne (fun e => h1 (by rw [← e]; exact hy))).mpr (m y (List.mem_cons_of_mem _ hy))
    have hx := m x List.mem_cons_self
    have := List.length_pos_of_mem hx
    rw [List.length_erase_of_mem hx] at ih
    rw [List.length_cons]; omega
theorem nn_yes {α : Type} {os : List (Option Int)} {m : Nat} {i : Int} {acc : List α} (h : acc = [] ↔ ∀ i, i < m → ∃ n : Int, os[i]? = some (some n)) (e : os[m]? = some (some i)) : acc = [] ↔ ∀ i, i < m + 1 → ∃ n : Int, os[i]? = some (some n) := by
  rw [h]
  refine ⟨fun h j hj => ?_, fun h j hj => h j (by omega)⟩
  by_cases q : j = m
  · rw [q]; exact ⟨i, e⟩
  · exact h j (by omega)
theorem nn_no {α : Type} {os : List (Option Int)} {m : Nat} {v : α} {acc : List α} (e : os[m]? = some none) : acc ++ [v] = [] ↔ ∀ i, i < m + 1 → ∃ n : Int, os[i]? = some (some n) := by
  refine ⟨fun h => by simp at h, fun h => ?_⟩
  obtain ⟨n, q⟩ := h m (by omega)
  rw [e] at q
  cases q
theorem nn_all : ∀ {os : List (Option Int)}, (∀ i, i < os.length → ∃ n : Int, os[i]? = some (some n)) → ∃ ns : List Int, os = ns.map some
  | [], _ => ⟨[], rfl⟩
  | o :: os, h => by
    obtain ⟨n, e⟩ := h 0 (by simp)
    obtain rfl : o = some n := Option.some.inj e
    obtain ⟨ns, rfl⟩ := nn_all (os := os) fun i hi => h (i + 1) (by rw [List.length_cons]; omega)
    exact ⟨n :: ns, rfl⟩
theorem nn_vals {G : Hp} : ∀ {xs : List V} {ns : List Int}, All2 (It1 G) xs (ns.map some) → xs = ns.map V.int
  | _, [], .nil => rfl
  | _, n :: ns, .cons h k => by
    cases h
    rw [nn_vals k]
    rfl
theorem mapsome_inj {a b : List Int} (h : a.map some = b.map some) : a = b := List.map_inj_right (fun _ _ e => Option.some.inj e) |>.mp h
theorem Fit.two {k b : Nat} {d1 d2 : PyData} (h : Fit k b (.tuple [d1, d2])) : Fit k b d2 := by
  obtain ⟨a1, a2, a3, a4⟩ := h
  simp only [PyData.showable, PyData.showableAll, Bool.and_eq_true] at a1
  simp only [PyData.leavesShort, PyData.leavesShortAll, Bool.and_eq_true] at a2
  simp only [PyData.bulk, PyData.bulkAll] at a3
  simp only [PyData.depth, PyData.depthAll] at a4
  exact ⟨a1.2.1, a2.2.1, by omega, by omega⟩
theorem LL_td {G : Hp} {l : Addr} {ps : List Addr} {L : List (List Int)} (h : LL G l ps L) : Td G (.ref l) (nlD L) := by
  have one : ∀ ns : List Int, TdAll G (ns.map V.int) (ns.map PyData.int) := fun ns => by
    induction ns with
    | nil => exact .nil
    | cons n ns ih => exact .cons (.int n) ih
  have all : ∀ (ps : List Addr) (L : List (List Int)), ps.length = L.length → (∀ (i : Nat) (q : Addr) (ns : List Int), ps[i]? = some q → L[i]? = some ns → G q = some (.lst (ns.map V.int))) → TdAll G (ps.map V.ref) (L.map fun ns => PyData.list (ns.map PyData.int)) := by
    intro ps
    induction ps with
    | nil =>
      intro L hl _
      obtain rfl : L = [] := List.length_eq_zero_iff.mp hl.symm
      exact .nil
    | cons p ps ih =>
      intro L hl h
      match L, hl with
      | ns :: L, hl =>
        refine .cons (.lst (h 0 p ns rfl rfl) (one ns)) (ih L (by simpa using hl) fun i q ns h1 h2 => h (i + 1) q ns (by simpa using h1) (by simpa using h2))
  exact Td.lst h.lst (all ps L h.len h.it)
theorem LL_tkG {G : Hp} {l : Addr} {ps : List Addr} {y z t : List Nat} (el : G l = some (.lst (ps.map V.ref))) (hp : ps.length = t.length + 1) (hi : ∀ i p, ps[i]? = some p → G p = some (.lst ((tkV y z t i).map V.int))) : LL G l ps (takL y z t) := by
  refine ⟨el, by simp [takL, hp], fun i q ns h1 h2 => ?_⟩
  have hi' : i < t.length + 1 := by have := (List.getElem?_eq_some_iff.mp h1).1; omega
  unfold takL at h2
  rw [List.getElem?_map, List.getElem?_range hi'] at h2
  obtain rfl := Option.some.inj h2
  exact hi i q h1
theorem nlD_fit {L : List (List Int)} {n m : Nat} (h : ∀ ns ∈ L, ns.length ≤ m ∧ ∀ i ∈ ns, (0 : Int) ≤ i ∧ i < 1000) (hl : L.length ≤ n) : Fit 2 ((m + 1) * n) (nlD L) := by
  unfold nlD
  refine (Fit.list (k := 1) (b := m) (n := n) ?_ (by rw [List.length_map]; exact hl))
  intro d hd
  obtain ⟨ns, hns, rfl⟩ := List.mem_map.mp hd
  obtain ⟨h1, h2⟩ := h ns hns
  refine (Fit.list (k := 0) (b := 0) (n := m) ?_ (by rw [List.length_map]; exact h1)).mono (by omega) (by omega)
  intro x hx
  obtain ⟨i, hi, rfl⟩ := List.mem_map.mp hx
  have := h2 i hi
  have q : (1000 : Nat) < 10 ^ 40 := by decide
  exact Fit.int (by omega)
theorem takL_sm {y z t : List Nat} (h : y.length ≤ 60) : ∀ ns ∈ takL y z t, ns.length ≤ 61 ∧ ∀ i ∈ ns, (0 : Int) ≤ i ∧ i < 1000 := fun ns hn => by
  obtain ⟨k, -, rfl⟩ := List.mem_map.mp hn
  refine ⟨Nat.le_trans (tkV_len (y := y) (z := z) (t := t) (k := k) h) (by decide), fun i hi => ?_⟩
  obtain ⟨a, rfl, ha⟩ := tkV_pos hi
  have := tk_le ha
  omega
theorem takL_fit {y z t : List Nat} (h : y.length ≤ 60) (ht : t.length ≤ 130) : Fit 2 8200 (nlD (takL y z t)) := (nlD_fit (m := 61) (n := 131) (takL_sm h) (by simp [takL]; omega)).mono (by decide) (by decide)
theorem tells_tak {y z t : List Nat} {d : PyData} : cs d.shown = cs (nlD (takL y z t)).shown ↔ d = nlD (takL y z t) := by
  refine nl_tells fun ns hn n hnn => ?_
  obtain ⟨k, -, rfl⟩ := List.mem_map.mp hn
  obtain ⟨a, rfl, ha⟩ := tkV_pos hnn
  omega
theorem due_way {y z t : List Nat} {d : PyData} : dueD y z t (.tuple [.str (S (cs "way")), d]) = if wvB y z t d = true then some true else none := by
  have ew : ¬ cs "way" = cs "not" := by decide +kernel
  unfold dueD
  by_cases h : wvB y z t d = true
  · rw [if_pos ⟨d, rfl, h⟩, if_pos h]
  · rw [if_neg h, if_neg (by rintro ⟨r, e, q⟩; simp at e; rw [← e] at q; exact h q), if_neg (by rintro ⟨e, -⟩; simp at e; exact ew (S_in e.1))]
open Classical in
theorem due_not {y z t : List Nat} {d : PyData} : dueD y z t (.tuple [.str (S (cs "not")), d]) = if d = nlD (takL y z t) ∧ canW y z t = false then some false else none := by
  classical
  have ew : ¬ cs "way" = cs "not" := by decide +kernel
  unfold dueD
  rw [if_neg (by rintro ⟨r, e, h⟩; simp at e; exact ew (S_in e.1).symm)]
  by_cases h : d = nlD (takL y z t) ∧ canW y z t = false
  · rw [if_pos h, if_pos ⟨by rw [h.1], h.2⟩]
  · rw [if_neg h, if_neg (by rintro ⟨e, q⟩; simp at e; exact h ⟨e, q⟩)]
theorem due_word {y z t w : List Nat} {d : PyData} (h1 : ¬ w = cs "way") (h2 : ¬ w = cs "not") : dueD y z t (.tuple [.str (S w), d]) = none := by
  unfold dueD
  rw [if_neg (by rintro ⟨r, e, h⟩; simp at e; exact h1 (S_in e.1)), if_neg (by rintro ⟨e, h⟩; simp at e; exact h2 (S_in e.1))]
theorem it3_last {G : Hp} {y z t : List Nat} {b : V} (h : It3 G b (nlS (takL y z t))) : ∃ p xs ql, b = .ref p ∧ G p = some (.lst xs) ∧ xs.getLast? = some (.ref ql) ∧ G ql = some (.lst ((tkV y z t t.length).map V.int)) := by
  generalize e : nlS (takL y z t) = o at h
  cases h with
  | no h => cases e
  | @lst p xs os hx hk =>
    have e : (takL y z t).map (fun ns => some (ns.map some)) = os := Option.some.inj e
    subst e
    have hl := hk.len
    rw [List.length_map] at hl
    have hl2 : (takL y z t).length = t.length + 1 := by simp [takL]
    obtain ⟨v, hv⟩ : ∃ v, xs[t.length]? = some v := ⟨_, List.getElem?_eq_getElem (by omega)⟩
    obtain ⟨o2, h1, h2⟩ := hk.get hv
    rw [List.getElem?_map] at h1
    unfold takL at h1
    rw [List.getElem?_map, List.getElem?_range (by omega)] at h1
    have h1 : some ((tkV y z t t.length).map some) = o2 := Option.some.inj h1
    subst h1
    cases h2 with
    | @lst q ys os hq hk2 =>
      refine ⟨p, xs, q, rfl, hx, ?_, by rw [← nn_vals hk2]; exact hq⟩
      rw [List.getLast?_eq_getElem?, show xs.length - 1 = t.length by omega, hv]
theorem bulk_len : ∀ ds : List PyData, ds.length ≤ PyData.bulkAll ds
  | [] => Nat.zero_le _
  | d :: ds => by rw [PyData.bulkAll, List.length_cons]; have := bulk_len ds; omega
theorem Fit.tupLen {k b : Nat} {d : PyData} (h : Fit k b d) (hb : b ≤ 1000000) : ∀ ds, d = .tuple ds → ds.length ≤ 1000000 := fun ds e => by
  have := h.bk
  rw [e, PyData.bulk] at this
  have := bulk_len ds
  omega
/-- a text of plain signs -/
def Asc (z : List Nat) : Prop := ∀ x ∈ z, x < 128
theorem asc_td {G : Hp} {z : List Nat} (h : Asc z) (hl : z.length ≤ 1000) : ∃ d, Td G (.str (S z)) d ∧ Fit 1 1000 d := ⟨_, .str _, (Fit.str h hl).mono (by decide) (Nat.le_refl _)⟩
theorem asc_app {a b : List Nat} (ha : Asc a) (hb : Asc b) : Asc (a ++ b) := it_app ha hb
theorem asc_take {a : List Nat} (h : Asc a) (n : Nat) : Asc (a.take n) := fun x hx => h x (List.mem_of_mem_take hx)
theorem asc_drop {a : List Nat} (h : Asc a) (n : Nat) : Asc (a.drop n) := fun x hx => h x (List.mem_of_mem_drop hx)
theorem asc_rev {a : List Nat} (h : Asc a) : Asc a.reverse := fun x hx => h x (List.mem_reverse.mp hx)
theorem asc_01 {a : List Nat} (h : ∀ x ∈ a, x = 48 ∨ x = 49) : Asc a := fun x hx => by have := h x hx; omega
theorem asc_rep {n x : Nat} (h : x < 128) : Asc (List.replicate n x) := fun y hy => by rw [(List.mem_replicate.mp hy).2]; exact h
theorem td_signs {G : Hp} : ∀ u : List Nat, TdAll G (u.map fun c => V.str (S [c])) (u.map fun c => PyData.str (S [c]))
  | [] => .nil
  | _ :: u => .cons (.str _) (td_signs u)
theorem td_ints2 {G : Hp} : ∀ u : List Int, TdAll G (u.map V.int) (u.map PyData.int)
  | [] => .nil
  | _ :: u => .cons (.int _) (td_ints2 u)
theorem signs_td {G : Hp} {p : Addr} {u : List Nat} (e : G p = some (.lst (u.map fun c => V.str (S [c])))) (h : Asc u) (hl : u.length ≤ 200) : ∃ d, Td G (.ref p) d ∧ Fit 1 1000 d := by
  refine ⟨_, .lst e (td_signs u), (Fit.list (k := 0) (b := 1) (n := 200) (fun d hd => ?_) (by rw [List.length_map]; exact hl)).mono (by decide) (by decide)⟩
  obtain ⟨c, hc, rfl⟩ := List.mem_map.mp hd
  exact Fit.str (one_item (h c hc)) (by simp)
theorem ints_td {G : Hp} {p : Addr} {u : List Int} (e : G p = some (.lst (u.map V.int))) (h : ∀ i ∈ u, i.natAbs < 1000) (hl : u.length ≤ 200) : ∃ d, Td G (.ref p) d ∧ Fit 1 1000 d := by
  refine ⟨_, .lst e (td_ints2 u), (Fit.list (k := 0) (b := 0) (n := 200) (fun d hd => ?_) (by rw [List.length_map]; exact hl)).mono (by decide) (by decide)⟩
  obtain ⟨i, hi, rfl⟩ := List.mem_map.mp hd
  have := h i hi
  have q : (1000 : Nat) < 10 ^ 40 := by decide
  exact Fit.int (by omega)
/-- a thing that is asked -/
def ThV (G : Hp) (v : V) : Prop := ∃ d, Td G v d ∧ Fit 8 190000 d
theorem ThV.up {G G' : Hp} (s : Same G G') {v : V} (h : ThV G v) : ThV G' v := by
  obtain ⟨d, h, k⟩ := h
  exact ⟨d, h.up s, k⟩
theorem th_up {G G' : Hp} (s : Same G G') {xs : List V} (h : ∀ x ∈ xs, ThV G x) : ∀ x ∈ xs, ThV G' x := fun x hx => (h x hx).up s
theorem ot_td {G : Hp} {p : Addr} {xs : List V} {m w n : Nat} (e : G p = some (.lst xs)) (h : ∀ v ∈ xs, OtV G m w v) (hm : m < 10 ^ 40) (hl : xs.length ≤ n) : ∃ d, Td G (.ref p) d ∧ Fit 3 ((2 * w + 2) * n) d := by
  obtain ⟨ds, k, hd, e2⟩ := td_list h
  exact ⟨.list ds, .lst e k, Fit.list (fun d hx => (hd d hx).fit hm) (by omega)⟩
theorem th_tup {G : Hp} {q : Addr} {w : List Nat} {v : V} (e : G q = some (.tup [.str (S w), v])) (hw : Asc w) (hl : w.length ≤ 100) (h : ∃ d, Td G v d ∧ Fit 7 90000 d) : ThV G (.ref q) := by
  obtain ⟨d, hd, hf⟩ := h
  refine ⟨_, .tup e (.cons (.str _) (.cons hd .nil)), (Fit.tuple (k := 7) (b := 90000) (n := 2) ?_ (by simp)).mono (by decide) (by decide)⟩
  intro x hx
  simp only [List.mem_cons, List.not_mem_nil, or_false] at hx
  rcases hx with rfl | rfl
  · exact (Fit.str hw hl).mono (by decide) (by decide)
  · exact hf
theorem fit_ex {G : Hp} {v : V} {k b : Nat} (h : ∃ d, Td G v d ∧ Fit k b d) (hk : k ≤ 7) (hb : b ≤ 90000) : ∃ d, Td G v d ∧ Fit 7 90000 d := by
  obtain ⟨d, h1, h2⟩ := h
  exact ⟨d, h1, h2.mono hk hb⟩
theorem ex_up {G G' : Hp} (s : Same G G') {v : V} {k b : Nat} (h : ∃ d, Td G v d ∧ Fit k b d) : ∃ d, Td G' v d ∧ Fit k b d := by
  obtain ⟨d, h1, h2⟩ := h
  exact ⟨d, h1.up s, h2⟩
theorem asc_way : Asc (cs "way") := by unfold Asc; decide +kernel
theorem asc_not : Asc (cs "not") := by unfold Asc; decide +kernel
theorem len_way : (cs "way").length ≤ 100 := by decide +kernel
theorem len_not : (cs "not").length ≤ 100 := by decide +kernel
theorem lists_ot {G : Hp} {ps : List Addr} {y z t : List Nat} (h1 : y.length ≤ 60) (hi : ∀ i p, ps[i]? = some p → G p = some (.lst ((tkV y z t i).map V.int))) : ∀ v ∈ ps.map V.ref, OtV G (10 ^ 20) 61 v := fun v hv => by
  obtain ⟨p, hp, rfl⟩ := List.mem_map.mp hv
  obtain ⟨i, hi', e⟩ := List.getElem_of_mem hp
  refine OtV.lst (hi i p (by rw [← e]; exact List.getElem?_eq_getElem hi')) (fun x hx => ?_) (by rw [List.length_map]; exact Nat.le_trans (tkV_len (y := y) (z := z) (t := t) (k := i) h1) (by decide))
  obtain ⟨n, hn, rfl⟩ := List.mem_map.mp hx
  obtain ⟨a, rfl, ha⟩ := tkV_pos hn
  have := tk_le ha
  exact ⟨_, .int _, .int (by omega)⟩

end Law

namespace Law
open PySem PySem.Spec PyProof.Rows L2 Go
--# over40
--# math spoilt
/-! things of any kind for papers -/
theorem th_pair {G : Hp} {q : Addr} {a b : V} (e : G q = some (.tup [a, b])) (ha : ∃ d, Td G a d ∧ Fit 7 90000 d) (hb : ∃ d, Td G b d ∧ Fit 7 90000 d) : ThV G (.ref q) := by
  obtain ⟨d1, h1, f1⟩ := ha
  obtain ⟨d2, h2, f2⟩ := hb
  refine ⟨_, .tup e (.cons h1 (.cons h2 .nil)), (Fit.tuple (k := 7) (b := 90000) (n := 2) ?_ (by simp)).mono (by decide) (by decide)⟩
  intro x hx
  simp only [List.mem_cons, List.not_mem_nil, or_false] at hx
  rcases hx with rfl | rfl
  · exact f1
  · exact f2
theorem th_of {G : Hp} {v : V} (h : ∃ d, Td G v d ∧ Fit 7 90000 d) : ThV G v := by
  obtain ⟨d, h1, f1⟩ := h
  exact ⟨d, h1, f1.mono (by decide) (by decide)⟩
theorem fit_text {G : Hp} {z : List Nat} (h : Asc z) (hl : z.length ≤ 90000) : ∃ d, Td G (.str (S z)) d ∧ Fit 7 90000 d := ⟨_, .str _, (Fit.str h hl).mono (by decide) (Nat.le_refl _)⟩
theorem fit_tup1 {G : Hp} {q : Addr} {a : V} {b : Nat} (e : G q = some (.tup [a])) (ha : ∃ d, Td G a d ∧ Fit 6 b d) (hb : b < 90000) : ∃ d, Td G (.ref q) d ∧ Fit 7 90000 d := by
  obtain ⟨d1, h1, f1⟩ := ha
  exact ⟨_, .tup e (.cons h1 .nil), (Fit.tuple (k := 6) (b := b) (n := 1) (one_item f1) (by simp)).mono (by decide) (by omega)⟩
theorem fit_lst2 {G : Hp} {q : Addr} {a c : V} {b : Nat} (e : G q = some (.lst [a, c])) (ha : ∃ d, Td G a d ∧ Fit 6 b d) (hc : ∃ d, Td G c d ∧ Fit 6 b d) (hb : b < 44000) : ∃ d, Td G (.ref q) d ∧ Fit 7 90000 d := by
  obtain ⟨d1, h1, f1⟩ := ha
  obtain ⟨d2, h2, f2⟩ := hc
  refine ⟨_, .lst e (.cons h1 (.cons h2 .nil)), (Fit.list (k := 6) (b := b) (n := 2) ?_ (by simp)).mono (by decide) (by omega)⟩
  intro x hx
  simp only [List.mem_cons, List.not_mem_nil, or_false] at hx
  rcases hx with rfl | rfl
  · exact f1
  · exact f2
theorem fit_tup3 {G : Hp} {q : Addr} {a c e' : V} {b : Nat} (e : G q = some (.tup [a, c, e'])) (ha : ∃ d, Td G a d ∧ Fit 6 b d) (hc : ∃ d, Td G c d ∧ Fit 6 b d) (hd : ∃ d, Td G e' d ∧ Fit 6 b d) (hb : b < 29000) : ∃ d, Td G (.ref q) d ∧ Fit 7 90000 d := by
  obtain ⟨d1, h1, f1⟩ := ha
  obtain ⟨d2, h2, f2⟩ := hc
  obtain ⟨d3, h3, f3⟩ := hd
  refine ⟨_, .tup e (.cons h1 (.cons h2 (.cons h3 .nil))), (Fit.tuple (k := 6) (b := b) (n := 3) ?_ (by simp)).mono (by decide) (by omega)⟩
  intro x hx
  simp only [List.mem_cons, List.not_mem_nil, or_false] at hx
  rcases hx with rfl | rfl | rfl
  · exact f1
  · exact f2
  · exact f3
theorem ex_mono {G : Hp} {v : V} {k b k' b' : Nat} (h : ∃ d, Td G v d ∧ Fit k b d) (hk : k ≤ k') (hb : b ≤ b') : ∃ d, Td G v d ∧ Fit k' b' d := by
  obtain ⟨d, h1, h2⟩ := h
  exact ⟨d, h1, h2.mono hk hb⟩
theorem ot_tup {G : Hp} {p : Addr} {xs : List V} {m w n : Nat} (e : G p = some (.tup xs)) (h : ∀ v ∈ xs, OtV G m w v) (hm : m < 10 ^ 40) (hl : xs.length ≤ n) : ∃ d, Td G (.ref p) d ∧ Fit 3 ((2 * w + 2) * n) d := by
  obtain ⟨ds, k, hd, e2⟩ := td_list h
  exact ⟨.tuple ds, .tup e k, Fit.tuple (fun d hx => (hd d hx).fit hm) (by omega)⟩
/-- a list of numbers among lists -/
theorem ot_ints {G : Hp} {p : Addr} {ns : List Int} {w : Nat} (e : G p = some (.lst (ns.map V.int))) (h : ∀ i ∈ ns, i.natAbs ≤ 10 ^ 20) (hl : ns.length ≤ w) : OtV G (10 ^ 20) w (.ref p) := by
  refine OtV.lst e (fun x hx => ?_) (by rw [List.length_map]; exact hl)
  obtain ⟨i, hi, rfl⟩ := List.mem_map.mp hx
  exact ⟨_, .int i, .int (h i hi)⟩
/-- numbers as keys -/
theorem kv_td {G : Hp} {m w : Nat} : ∀ {kvs : List (Key × V)} {n : Nat}, (∀ kv ∈ kvs, (∃ i : Nat, kv.1 = .inl (i : Int) ∧ i < n) ∧ OtV G m w kv.2) → n ≤ 1000 → m < 10 ^ 40 → ∃ ds, TdKv G kvs ds ∧ PyData.showableKv ds = true ∧ PyData.leavesShortKv 64 ds = true ∧ PyData.bulkKv ds ≤ (2 * w + 3) * kvs.length ∧ PyData.depthKv ds ≤ 2
  | [], _, _, _, _ => ⟨[], .nil, rfl, rfl, Nat.zero_le _, Nat.zero_le _⟩
  | (k, v) :: kvs, n, h, hn, hm => by
    obtain ⟨⟨i, e, hi⟩, d, hd, ho⟩ := h (k, v) List.mem_cons_self
    obtain rfl : k = .inl (i : Int) := e
    obtain ⟨ds, t, s1, s2, s3, s4⟩ := kv_td (kvs := kvs) (n := n) (fun x hx => h x (List.mem_cons_of_mem _ hx)) hn hm
    have f := ho.fit hm
    have fi : Fit 0 0 (.int (i : Int)) := Fit.int (by
      have q : (1000 : Nat) < 10 ^ 40 := by decide
      show i < _
      omega)
    refine ⟨(.int (i : Int), d) :: ds, .cons hd t, ?_, ?_, ?_, ?_⟩
    · rw [PyData.showableKv, fi.sh, f.sh, s1]; rfl
    · rw [PyData.leavesShortKv, fi.lv, f.lv, s2]; rfl
    · rw [PyData.bulkKv, List.length_cons, Nat.mul_succ]
      have := f.bk
      have := fi.bk
      omega
    · rw [PyData.depthKv]
      exact Nat.max_le.mpr ⟨Nat.max_le.mpr ⟨Nat.le_trans fi.dp (by decide), f.dp⟩, s4⟩
theorem dict_td {G : Hp} {p : Addr} {kvs : List (Key × V)} {m w n : Nat} (e : G p = some (.dK kvs)) (h : ∀ kv ∈ kvs, (∃ i : Nat, kv.1 = .inl (i : Int) ∧ i < n) ∧ OtV G m w kv.2) (hn : n ≤ 1000) (hm : m < 10 ^ 40) (hl : kvs.length ≤ n) : ∃ d, Td G (.ref p) d ∧ Fit 3 ((2 * w + 3) * n) d := by
  obtain ⟨ds, t, s1, s2, s3, s4⟩ := kv_td h hn hm
  refine ⟨.dict ds, .dki e t, by rw [PyData.showable]; exact s1, by rw [PyData.leavesShort]; exact s2, ?_, by rw [PyData.depth]; omega⟩
  rw [PyData.bulk]
  exact Nat.le_trans s3 (Nat.mul_le_mul_left _ hl)
/-! the text of lists of numbers -/
theorem tailL_mem {x : Nat} : ∀ {ts : List (List Nat)}, x ∈ tailL ts → x = 93 ∨ x = 44 ∨ x = 32 ∨ ∃ t ∈ ts, x ∈ t
  | [], h => .inl (by simpa [tailL] using h)
  | t :: ts, h => by
    simp only [tailL, List.mem_cons, List.mem_append] at h
    rcases h with h | h | h | h
    · exact .inr (.inl h)
    · exact .inr (.inr (.inl h))
    · exact .inr (.inr (.inr ⟨t, List.mem_cons_self, h⟩))
    · rcases tailL_mem h with h | h | h | ⟨u, hu, h⟩
      · exact .inl h
      · exact .inr (.inl h)
      · exact .inr (.inr (.inl h))
      · exact .inr (.inr (.inr ⟨u, List.mem_cons_of_mem _ hu, h⟩))
theorem bodyL_mem {x : Nat} {ts : List (List Nat)} (h : x ∈ bodyL ts) : x = 93 ∨ x = 44 ∨ x = 32 ∨ ∃ t ∈ ts, x ∈ t := by
  cases ts with
  | nil => exact .inl (by simpa [bodyL] using h)
  | cons t ts =>
    simp only [bodyL, List.mem_append] at h
    rcases h with h | h
    · exact .inr (.inr (.inr ⟨t, List.mem_cons_self, h⟩))
    · rcases tailL_mem h with h | h | h | ⟨u, hu, h⟩
      · exact .inl h
      · exact .inr (.inl h)
      · exact .inr (.inr (.inl h))
      · exact .inr (.inr (.inr ⟨u, List.mem_cons_of_mem _ hu, h⟩))
theorem list_asc {ds : List PyData} (h : ∀ d ∈ ds, Asc (shT d)) : Asc (shT (.list ds)) := fun x hx => by
  rw [sh_list] at hx
  rcases List.mem_cons.mp hx with rfl | hx
  · decide
  · rcases bodyL_mem hx with rfl | rfl | rfl | ⟨t, ht, hx⟩
    · decide
    · decide
    · decide
    · obtain ⟨d, hd, rfl⟩ := List.mem_map.mp ht
      exact h d hd x hx
theorem tak_asc {y z t : List Nat} : Asc (shT (nlD (takL y z t))) := by
  unfold nlD
  refine list_asc fun d hd => ?_
  obtain ⟨ns, hns, rfl⟩ := List.mem_map.mp hd
  refine list_asc fun d hd => ?_
  obtain ⟨i, hi, rfl⟩ := List.mem_map.mp hd
  obtain ⟨k, -, rfl⟩ := List.mem_map.mp hns
  obtain ⟨a, rfl, -⟩ := tkV_pos hi
  rw [sh_nat]
  intro x hx
  have := TL.numL_digits a x hx
  omega
theorem tak_len {y z t : List Nat} (h : y.length ≤ 60) (ht : t.length ≤ 120) : (shT (nlD (takL y z t))).length ≤ 80000 ∧ Rpr 2 (nlD (takL y z t)) := by
  have hR : Rpr 2 (nlD (takL y z t)) := nl_rpr (fun ns hn => ⟨Nat.le_trans (takL_sm h ns hn).1 (by decide), fun i hi => by
    obtain ⟨k, -, rfl⟩ := List.mem_map.mp hn
    obtain ⟨a, rfl, ha⟩ := tkV_pos hi
    have := tk_le ha
    omega⟩) (by simp [takL]; omega)
  refine ⟨?_, hR⟩
  have hf := nlD_fit (L := takL y z t) (n := 121) (m := 61) (takL_sm h) (by simp [takL]; omega)
  have lv : PyData.leavesShort 8 (nlD (takL y z t)) = true := by
    have one : ∀ ns : List Int, (∀ i ∈ ns, (0 : Int) ≤ i ∧ i < 200) → PyData.leavesShortAll 8 (ns.map PyData.int) = true := fun ns hs => (sm_one (fun i hi => hs i hi)).2.2.2.1
    have all : ∀ L : List (List Int), (∀ ns ∈ L, ∀ i ∈ ns, (0 : Int) ≤ i ∧ i < 200) → PyData.leavesShortAll 8 (L.map fun ns => PyData.list (ns.map PyData.int)) = true := by
      intro L
      induction L with
      | nil => intro _; rfl
      | cons ns L ih =>
        intro hs
        rw [List.map_cons, PyData.leavesShortAll, PyData.leavesShort, one ns (hs ns List.mem_cons_self), ih fun n hn => hs n (List.mem_cons_of_mem _ hn)]
        rfl
    unfold nlD
    rw [PyData.leavesShort]
    refine all _ fun ns hn i hi => ?_
    obtain ⟨k, -, rfl⟩ := List.mem_map.mp hn
    obtain ⟨a, rfl, ha⟩ := tkV_pos hi
    have := tk_le ha
    omega
  have := PyData.shown_le_bulk 8 (by decide) _ lv
  have := hf.bk
  have e : (shT (nlD (takL y z t))).length = (nlD (takL y z t)).shown.length := by
    unfold shT
    rw [← S_len, S_cs]
  rw [e]
  omega
/-! shapes that are no lists of numbers -/
theorem nlS_each {L : List (List Int)} {os : List (Option (List (Option Int)))} (h : some os = nlS L) : ∀ o ∈ os, ∃ ns : List Int, o = some (ns.map some) := fun o ho => by
  have e : os = L.map fun ns => some (ns.map some) := Option.some.inj h
  rw [e] at ho
  obtain ⟨ns, -, rfl⟩ := List.mem_map.mp ho
  exact ⟨ns, rfl⟩
/-- no list of numbers -/
def BadO (o : Option (List (Option Int))) : Prop := o = none ∨ o = some [none]
theorem bad_no {o : Option (List (Option Int))} (h : BadO o) : ¬ ∃ ns : List Int, o = some (ns.map some) := by
  rintro ⟨ns, rfl⟩
  rcases h with h | h
  · cases h
  · have := Option.some.inj h
    cases ns with
    | nil => cases this
    | cons n ns =>
      rw [List.map_cons, List.cons.injEq] at this
      cases this.1
theorem All2.app {α β : Type} {R : α → β → Prop} : ∀ {as : List α} {bs : List β} {cs : List α} {ds : List β}, All2 R as bs → All2 R cs ds → All2 R (as ++ cs) (bs ++ ds)
  | _, _, _, _, .nil, h => h
  | _, _, _, _, .cons r k, h => .cons r (k.app h)
theorem all2_ex {α β : Type} {R : α → β → Prop} : ∀ {as : List α}, (∀ a ∈ as, ∃ b, R a b) → ∃ bs, All2 R as bs
  | [], _ => ⟨[], .nil⟩
  | a :: as, h => by
    obtain ⟨b, r⟩ := h a List.mem_cons_self
    obtain ⟨bs, k⟩ := all2_ex fun x hx => h x (List.mem_cons_of_mem _ hx)
    exact ⟨b :: bs, .cons r k⟩
/-- the lists of the text with a bad one among them show nothing -/
theorem pap_bad {G : Hp} {y z t : List Nat} {q p : Addr} {xs ys : List V} {v : V} {o : Option (List (Option Int))} (e : G q = some (.tup [.str (S (cs "not")), .ref p])) (e2 : G p = some (.lst (xs ++ [v] ++ ys))) (hx : ∀ x ∈ xs, OtV G (10 ^ 20) 61 x) (hy : ∀ x ∈ ys, OtV G (10 ^ 20) 61 x) (hv : It2 G v o) (hb : BadO o) : Pap G y z t (.ref q) none := by
  obtain ⟨os1, k1⟩ := all2_ex (R := It2 G) (as := xs) fun x hx' => by obtain ⟨d, hd, -⟩ := hx x hx'; exact ⟨_, Td.it2 hd⟩
  obtain ⟨os2, k2⟩ := all2_ex (R := It2 G) (as := ys) fun x hx' => by obtain ⟨d, hd, -⟩ := hy x hx'; exact ⟨_, Td.it2 hd⟩
  have h := Pap.nt (G := G) (y := y) (z := z) (t := t) (p := q) (b := .ref p) e (.lst e2 ((k1.app (.cons hv .nil)).app k2))
  rw [if_neg (fun h => bad_no hb (nlS_each h.1 o (by simp)))] at h
  exact h
theorem NoTu.up {G G' : Hp} (s : Same G G') {v : V} (h : NoTu G v) : NoTu G' v := by
  cases h with
  | non => exact .non
  | bl b => exact .bl b
  | int i => exact .int i
  | str z => exact .str z
  | lst h => exact .lst (s _ _ h)
  | dK h => exact .dK (s _ _ h)
  | ve h => exact .ve (s _ _ h)
theorem NoTx.up {G G' : Hp} (s : Same G G') {v : V} (h : NoTx G v) : NoTx G' v := by
  rcases h with h | h
  · exact .inl (h.up s)
  · exact .inr h
theorem Pap.up {G G' : Hp} (s : Same G G') {y z t : List Nat} {v : V} {r : Option Bool} (h : Pap G y z t v r) : Pap G' y z t v r := by
  cases h with
  | no h => exact .no (h.up s)
  | len h hl hl2 => exact .len (s _ _ h) hl hl2
  | nost h ha => exact .nost (s _ _ h) (ha.up s)
  | way h hw => exact .way (s _ _ h) hw
  | wayno h hb => exact .wayno (s _ _ h) (hb.up s)
  | nt h hb => exact .nt (s _ _ h) (hb.up s)
  | word h h1 h2 => exact .word (s _ _ h) h1 h2
/-- a list in a list in a list .. -/
def Deep (G : Hp) : Nat → Addr → Prop
  | 0, p => G p = some (.lst [])
  | n + 1, p => ∃ p1, G p = some (.lst [.ref p1]) ∧ Deep G n p1
theorem Deep.up {G G' : Hp} (s : Same G G') : ∀ {n : Nat} {p : Addr}, Deep G n p → Deep G' n p
  | 0, _, h => s _ _ h
  | _ + 1, _, ⟨p1, h, k⟩ => ⟨p1, s _ _ h, k.up s⟩
theorem Deep.lst {G : Hp} {n : Nat} {p : Addr} (h : Deep G n p) : ∃ xs, G p = some (.lst xs) := by
  cases n with
  | zero => exact ⟨_, h⟩
  | succ n => obtain ⟨p1, h, -⟩ := h; exact ⟨_, h⟩
theorem Deep.it2 {G : Hp} {n : Nat} {p : Addr} (h : Deep G (n + 1) p) : It2 G (.ref p) (some [none]) := by
  obtain ⟨p1, h, k⟩ := h
  obtain ⟨xs, e⟩ := k.lst
  exact .lst h (.cons (.odd (.lst e)) .nil)
theorem Deep.it3 {G : Hp} {n : Nat} {p : Addr} (h : Deep G (n + 2) p) : It3 G (.ref p) (some [some [none]]) := by
  obtain ⟨p1, h, k⟩ := h
  exact .lst h (.cons k.it2 .nil)
theorem pap_deep {G : Hp} {y z t : List Nat} {q p : Addr} {n : Nat} (e : G q = some (.tup [.str (S (cs "not")), .ref p])) (h : Deep G (n + 2) p) : Pap G y z t (.ref q) none := by
  have k := Pap.nt (G := G) (y := y) (z := z) (t := t) (p := q) (b := .ref p) e h.it3
  rw [if_neg (fun h => bad_no (.inr rfl) (nlS_each h.1 (some [none]) (by simp)))] at k
  exact k

end Law

namespace Law
open PySem PySem.Spec PyProof.Rows L2 Go
--# over40
--# math spoilt
--# math things37
/-! things that may be ways -/
/-- a thing that may be a way: its data, how much of it; of a text: its signs -/
def WyT (G : Hp) (n : Nat) (v : V) (d : PyData) : Prop := Td G v d ∧ Fit 3 4000 d ∧ ∀ u : List Nat, d = .str (S u) → Asc u ∧ u.length ≤ n
theorem WyT.up {G G' : Hp} (s : Same G G') {n : Nat} {v : V} {d : PyData} (h : WyT G n v d) : WyT G' n v d := ⟨h.1.up s, h.2⟩
theorem wy_text {G : Hp} {n : Nat} {u : List Nat} (h : Asc u) (hl : u.length ≤ n) (hn : n ≤ 4000) : WyT G n (.str (S u)) (.str (S u)) :=
  ⟨.str _, (Fit.str h (Nat.le_trans hl hn)).mono (by decide) (Nat.le_refl _), fun w e => by
    have : S u = S w := by injection e
    rw [← S_in this]; exact ⟨h, hl⟩⟩
theorem wy_of {G : Hp} {n : Nat} {v : V} (h : ∃ d, Td G v d ∧ Fit 3 4000 d ∧ ∀ x, d ≠ .str x) : ∃ d, WyT G n v d := by
  obtain ⟨d, h1, h2, h3⟩ := h
  exact ⟨d, h1, h2, fun u e => absurd e (h3 _)⟩
def isWD (y z : List Nat) : PyData → Bool
  | .str x => isWayB y z (cs x)
  | _ => false
theorem isWayB_no {y z w : List Nat} (h : ¬ ∀ x ∈ w, x = 48 ∨ x = 49) : isWayB y z w = false := by
  cases e : isWayB y z w with
  | false => rfl
  | true => exact absurd (fits_B (of_decide_eq_true e)).1 h
theorem cnt_len : ∀ {w : List Nat}, (∀ x ∈ w, x = 48 ∨ x = 49) → w.count 48 + w.count 49 = w.length
  | [], _ => rfl
  | c :: w, h => by
    have := cnt_len fun x hx => h x (List.mem_cons_of_mem _ hx)
    rcases h c List.mem_cons_self with rfl | rfl
    · rw [List.count_cons_self, List.count_cons_of_ne (by decide), List.length_cons]; omega
    · rw [List.count_cons_self, List.count_cons_of_ne (by decide), List.length_cons]; omega
theorem isWayB_iff {y z w : List Nat} (h : ∀ x ∈ w, x = 48 ∨ x = 49) : isWayB y z w = decide (((y.length : Int) - (w.count 48 : Nat)) = 0 ∧ ((z.length : Int) - (w.count 49 : Nat)) = 0) := by
  unfold isWayB
  have := cnt_len h
  exact decide_eq_decide.mpr (by omega)
theorem fit_signs {u : List Nat} (h : Asc u) (hl : u.length ≤ 200) : ∀ d ∈ u.map fun c => PyData.str (S [c]), Fit 0 1 d := fun d hd => by
  obtain ⟨c, hc, rfl⟩ := List.mem_map.mp hd
  exact Fit.str (one_item (h c hc)) (by simp)
theorem wy_signs {G : Hp} {n : Nat} {p : Addr} {u : List Nat} (e : G p = some (.lst (u.map fun c => V.str (S [c])))) (h : Asc u) (hl : u.length ≤ 200) : ∃ d, WyT G n (.ref p) d :=
  wy_of ⟨_, .lst e (td_signs u), (Fit.list (n := 200) (fit_signs h hl) (by rw [List.length_map]; exact hl)).mono (by decide) (by decide), by simp⟩
theorem wy_tsigns {G : Hp} {n : Nat} {p : Addr} {u : List Nat} (e : G p = some (.tup (u.map fun c => V.str (S [c])))) (h : Asc u) (hl : u.length ≤ 200) : ∃ d, WyT G n (.ref p) d :=
  wy_of ⟨_, .tup e (td_signs u), (Fit.tuple (n := 200) (fit_signs h hl) (by rw [List.length_map]; exact hl)).mono (by decide) (by decide), by simp⟩
theorem wy_one {G : Hp} {n : Nat} {p : Addr} {u : List Nat} (e : G p = some (.lst [.str (S u)])) (h : Asc u) (hl : u.length ≤ 200) : ∃ d, WyT G n (.ref p) d :=
  wy_of ⟨_, .lst e (.cons (.str _) .nil), (Fit.list (n := 1) (one_item (Fit.str h hl)) (by simp)).mono (by decide) (by decide), by simp⟩
theorem wy_ints {G : Hp} {n : Nat} {p : Addr} {u : List Int} (e : G p = some (.lst (u.map V.int))) (h : ∀ i ∈ u, i.natAbs < 1000) (hl : u.length ≤ 200) : ∃ d, WyT G n (.ref p) d := by
  refine wy_of ⟨_, .lst e (td_ints2 u), (Fit.list (k := 0) (b := 0) (n := 200) (fun d hd => ?_) (by rw [List.length_map]; exact hl)).mono (by decide) (by decide), by simp⟩
  obtain ⟨i, hi, rfl⟩ := List.mem_map.mp hd
  have := h i hi
  have q : (1000 : Nat) < 10 ^ 40 := by decide
  exact Fit.int (by omega)

end Law

namespace Law
open PySem PySem.Spec PyProof.Rows L2 Go
/-- what is no side of a loom -/
inductive SideBad (G : Hp) : V → Prop
  | non : SideBad G .non
  | bl (b : Bool) : SideBad G (.bl b)
  | int {i : Int} (h : ¬ (0 ≤ i ∧ i ≤ 2)) : SideBad G (.int i)
  | str (z : List Nat) : SideBad G (.str (S z))
  | lst {p : Addr} {xs : List V} (h : G p = some (.lst xs)) : SideBad G (.ref p)
  | tup {p : Addr} {xs : List V} (h : G p = some (.tup xs)) : SideBad G (.ref p)
  | dK {p : Addr} {kvs : List (Key × V)} (h : G p = some (.dK kvs)) : SideBad G (.ref p)
theorem SideBad.up {G G' : Hp} {v : V} (h : SideBad G v) (s : Same G G') : SideBad G' v := by
  cases h with
  | non => exact .non
  | bl b => exact .bl b
  | int h => exact .int h
  | str z => exact .str z
  | lst h => exact .lst (s _ _ h)
  | tup h => exact .tup (s _ _ h)
  | dK h => exact .dK (s _ _ h)
/-- what is no small letter -/
inductive LetBad (G : Hp) : V → Prop
  | non : LetBad G .non
  | bl (b : Bool) : LetBad G (.bl b)
  | int (i : Int) : LetBad G (.int i)
  | str {z : List Nat} (h : ¬ z.length = 1) (hl : z.length ≤ 1000) : LetBad G (.str (S z))
  | one {x : Nat} (h : ¬ (97 ≤ x ∧ x ≤ 122)) : LetBad G (.str (S [x]))
  | lst {p : Addr} {xs : List V} (h : G p = some (.lst xs)) : LetBad G (.ref p)
  | tup {p : Addr} {xs : List V} (h : G p = some (.tup xs)) : LetBad G (.ref p)
  | dK {p : Addr} {kvs : List (Key × V)} (h : G p = some (.dK kvs)) : LetBad G (.ref p)
theorem LetBad.up {G G' : Hp} {v : V} (h : LetBad G v) (s : Same G G') : LetBad G' v := by
  cases h with
  | non => exact .non
  | bl b => exact .bl b
  | int i => exact .int i
  | str h hl => exact .str h hl
  | one h => exact .one h
  | lst h => exact .lst (s _ _ h)
  | tup h => exact .tup (s _ _ h)
  | dK h => exact .dK (s _ _ h)
theorem atI_all {p : V → Prop} {xs : List V} {k : Int} (h : ∀ v ∈ xs, p v) (h0 : 0 ≤ k) (h1 : k < xs.length) : ∃ v, atI xs k = some v ∧ p v := by
  obtain ⟨n, rfl⟩ := Int.eq_ofNat_of_zero_le h0
  have hn : n < xs.length := by omega
  exact ⟨xs[n], atI_get (List.getElem?_eq_getElem hn), h _ (List.getElem_mem hn)⟩
def badB (z : List Nat) : Bool := decide (z.length ≤ 1000) && (!decide (z.length = 1) || z.all fun x => !(decide (97 ≤ x) && decide (x ≤ 122)))
theorem LetBad.ofB {G : Hp} {z : List Nat} (h : badB z = true) : LetBad G (.str (S z)) := by
  unfold badB at h
  simp only [Bool.and_eq_true, Bool.or_eq_true, Bool.not_eq_true', decide_eq_true_eq, decide_eq_false_iff_not] at h
  obtain ⟨h1, h2⟩ := h
  by_cases e : z.length = 1
  · obtain ⟨x, rfl⟩ := List.length_eq_one_iff.mp e
    rcases h2 with h2 | h2
    · exact absurd e h2
    · exact .one (by simp at h2; omega)
  · exact .str e h1

end Law

namespace Law
open PySem PySem.Spec PyProof.Rows L2 Go
/-- signs of letters -/
abbrev sgn (x : Nat) : V := .str (S [x])
def LetL (l : List Nat) : Prop := ∀ x ∈ l, 97 ≤ x ∧ x ≤ 122
theorem LetL.app {a b : List Nat} (h : LetL a) (k : LetL b) : LetL (a ++ b) := fun x hx => (List.mem_append.mp hx).elim (h x) (k x)
theorem LetL.one {x : Nat} (h : 97 ≤ x ∧ x ≤ 122) : LetL [x] := fun y hy => by rw [List.mem_singleton.mp hy]; exact h
theorem LetL.nil : LetL [] := fun _ h => nomatch h
theorem atI_ls {ls : List Nat} {i : Int} (h0 : 0 ≤ i) (h1 : i < (ls.length : Int)) : ∃ x, x ∈ ls ∧ atI (ls.map sgn) i = some (sgn x) := by
  obtain ⟨k, rfl⟩ := Int.eq_ofNat_of_zero_le h0
  have hk : k < ls.length := by omega
  exact ⟨ls[k], List.getElem_mem hk, atI_get (by rw [List.getElem?_map, List.getElem?_eq_getElem hk]; rfl)⟩
theorem p_cellI {X : Cx} {G H : Hp} {C : List (Addr × HO)} {p : Addr} {xs : List V} {i : Int} {v : V} {R : Hp → Prop} (O : Own G ((p, .lst xs) :: C) H) (h0 : 0 ≤ i) (h1 : i < (xs.length : Int)) (h : ∀ H', Own G ((p, .lst (xs.set i.toNat v)) :: C) H' → R H') : pS X (.ref p) (.int i) v H R :=
  p_lst O.at (m := i.toNat) (by unfold ixN; rw [if_pos h0, if_pos (by omega)]) (h _ O.write)
theorem LetL.set {zs : List Nat} {i x : Nat} (h : LetL zs) (hx : 97 ≤ x ∧ x ≤ 122) : LetL (zs.set i x) := fun y hy => by
  rcases List.mem_or_eq_of_mem_set hy with h1 | rfl
  · exact h y h1
  · exact hx
theorem LetL.rep {n x : Nat} (hx : 97 ≤ x ∧ x ≤ 122) : LetL (List.replicate n x) := fun y hy => by rw [(List.mem_replicate.mp hy).2]; exact hx

end Law

namespace Law
open PySem PySem.Spec PyProof.Rows L2 Go
/-- a text of as many 0 and 1 as two rows have letters -/
inductive Sp_is_way (K : PySem.W.Frag) : Sp
  | mk {H : Hp} {Q : VK} {E : XK} {y z w : List Nat} (h1 : y.length ≤ 1000) (h2 : z.length ≤ 1000) (h3 : w.length ≤ 300000) (q : Q (.bl (decide (w.length = y.length + z.length ∧ w.count 48 = y.length ∧ w.count 49 = z.length))) H) : Sp_is_way K [.str (S y), .str (S z), .str (S w)] H Q E
  | int {H : Hp} {Q : VK} {E : XK} {y z : List Nat} {i : Int} (q : Q (.bl false) H) : Sp_is_way K [.str (S y), .str (S z), .int i] H Q E
  | odd {G H : Hp} {C : List (Addr × HO)} {Q : VK} {E : XK} {y z : List Nat} {v : V} (O : Own G C H) (h1 : y.length ≤ 1000) (h2 : z.length ≤ 1000) (h : OddT G v) (q : ∀ (G' H' : Hp), Same G G' → Own G' C H' → Q (.bl false) H') : Sp_is_way K [.str (S y), .str (S z), v] H Q E
section
variable {P : Program} {w : World} {K : PySem.W.Frag} {mg : Str → Option Value} {base : Heap}
theorem ok_is_way (T : Env K mg) {f : Addr} {fd : FuncData} (F : Fun K "is_way" "is_way" st_is_way f fd) : FnOk P w K mg base CX0 1 f fd ["one", "other", "thing"] (Sp_is_way K) := by
  simp (disch := (with_unfolding_all (
    refine into (N := ["one", "other", "thing"]) (nm := nm_is_way) F sc_is_way ne_is_way (fun vs H Q E h => by cases h <;> rfl) (by decide) (fun X H vs Q E c h => ?_)
    have B_isinstance := T.b_isinstance
    have B_str := T.b_str
    have B_len := T.b_len
    cases h with
    | @mk H Q E y z w h1 h2 h3 q =>
    walk_at "in"
    walk_at "au"
    refine i_dec (fun e => ?_) (fun e => ?_)
    · walk_at "au"
      refine i_dec (fun e2 => ?_) (fun e2 => ?_)
      · walk_at "au"
        rw [decide_eq_decide.mpr (show (w.length = y.length + z.length ∧ w.count 48 = y.length ∧ w.count 49 = z.length) ↔ (w.count 49 : Int) = (z.length : Int) by omega)] at q
        exact q
      · walk_at "au"
        rw [decide_eq_false (fun z => e2 (by omega))] at q
        exact q
    · walk_at "au"
      rw [decide_eq_false (fun z => e (by omega))] at q
      exact q
    | @int H Q E y z i q =>
      walk_at "in"
      walk_at "au"
      exact q
    | @odd G H C Q E y z v O h1 h2 h q =>
      walk_at "in"
      have h' := h.own O
      clear h
      cases h' with
      | non =>
        walk_at "au"
        exact q _ _ same_rfl O
      | bl b =>
        walk_at "au"
        exact q _ _ same_rfl O
      | lst h =>
        walk_at "au"
        rename_i O
        refine i_trueB (by simp) ?_
        walk_at "au"
        exact q _ _ (by walk_at "sm") O
      | tup h =>
        walk_at "au"
        rename_i O
        refine i_trueB (by simp) ?_
        walk_at "au"
        exact q _ _ (by walk_at "sm") O
      | dK h =>
        walk_at "au"
        exact q _ _ same_rfl O
      | ve h =>
        walk_at "au"
        refine c_isVE (b := false) c h (kit_ty (by decide +kernel)) ?_
        walk_at "au"
        exact q _ _ same_rfl O))) only [↓fn_ok]
theorem cal_is_way (T : Env K mg) : Cal P w K mg base 1 "is_way" (Sp_is_way K) := cal_of T.d_is_way fun F => ok_is_way T F
end

end Law

namespace Law
open PySem PySem.Spec PyProof.Rows L2 Go
/-- a new hand: a list of two numbers -/
inductive Sp_law_hand (K : PySem.W.Frag) : Sp
  | mk {G H : Hp} {C : List (Addr × HO)} {Q : VK} {E : XK} {cell k : Int} (O : Own G C H) (h1 : 0 ≤ k) (h2 : k ≤ 100)
      (q : ∀ (p : Addr) (o : HO) (H' : Hp), Own G ((p, o) :: C) H' → HandO o → Q (.ref p) H') : Sp_law_hand K [.int cell, .int k] H Q E
section
variable {P : Program} {w : World} {K : PySem.W.Frag} {mg : Str → Option Value} {base : Heap}
theorem ok_law_hand (T : Env K mg) {f : Addr} {fd : FuncData} (F : Fun K "_law_hand" "_law_hand" st_law_hand f fd) : FnOk P w K mg base CX0 1 f fd ["cell", "k"] (Sp_law_hand K) := by
  simp (disch := (with_unfolding_all (
    refine into (N := ["cell", "k", "digits"]) (nm := nm_law_hand) F sc_law_hand ne_law_hand (fun vs H Q E h => by cases h <;> rfl) (by decide) (fun X H vs Q E c h => ?_)
    cases h with
    | mk O h1 h2 q =>
    walk_at "in"
    refine i_dec (fun h => ?_) (fun h => ?_)
    · walk_at "go"
      exact fun p H' n => q _ _ _ (O.more n) ⟨_, _, rfl, Int.le_trans (by decide) h, Int.emod_nonneg _ (by decide), Int.emod_lt_of_pos _ (by decide)⟩
    · walk_at "go"
      exact fun p H' n => q _ _ _ (O.more n) ⟨_, _, rfl, by decide, Int.emod_nonneg _ (by decide), Int.emod_lt_of_pos _ (by decide)⟩))) only [↓fn_ok]
theorem cal_law_hand (T : Env K mg) : Cal P w K mg base 1 "_law_hand" (Sp_law_hand K) := cal_of T.d_law_hand fun F => ok_law_hand T F
end

end Law

namespace Law
open PySem PySem.Spec PyProof.Rows L2 Go
/-- a number below the limit is drawn of the hand -/
inductive Sp_law_draw (K : PySem.W.Frag) : Sp
  | mk {G H : Hp} {C : List (Addr × HO)} {Q : VK} {E : XK} {p : Addr} {o : HO} {l : Int} (O : Own G ((p, o) :: C) H) (hh : HandO o) (h3 : 0 < l) (h4 : l < 1000000000)
      (q : ∀ (r : Int) (o : HO) (H' : Hp), Own G ((p, o) :: C) H' → HandO o → 0 ≤ r → r < l → Q (.int r) H') : Sp_law_draw K [.ref p, .int l] H Q E
section
variable {P : Program} {w : World} {K : PySem.W.Frag} {mg : Str → Option Value} {base : Heap}
theorem ok_law_draw (T : Env K mg) {f : Addr} {fd : FuncData} (F : Fun K "_law_draw" "_law_draw" st_law_draw f fd) : FnOk P w K mg base CX0 1 f fd ["hand", "limit"] (Sp_law_draw K) := by
  simp (disch := (with_unfolding_all (
    refine into (N := ["hand", "limit", "got"]) (nm := nm_law_draw) F sc_law_draw ne_law_draw (fun vs H Q E h => by cases h <;> rfl) (by decide) (fun X H vs Q E c h => ?_)
    cases h with
    | mk O hh h3 h4 q =>
    obtain ⟨d, m, rfl, h0, h1, h2⟩ := hh
    walk_at "in"
    refine i_dec (fun h => ?_) (fun h => ?_)
    · walk_at "go"
      exact q _ _ _ (by assumption) ⟨_, _, rfl, Int.ediv_nonneg h0 (by omega), h1, h2⟩ (Int.emod_nonneg _ (by omega)) (Int.emod_lt_of_pos _ h3)
    · walk_at "go"
      exact q _ _ _ (by assumption) ⟨_, _, rfl, h0, Int.emod_nonneg _ (by decide), Int.emod_lt_of_pos _ (by decide)⟩ (Int.emod_nonneg _ (by omega)) (Int.emod_lt_of_pos _ h3)))) only [↓fn_ok]
theorem cal_law_draw (T : Env K mg) : Cal P w K mg base 1 "_law_draw" (Sp_law_draw K) := cal_of T.d_law_draw fun F => ok_law_draw T F
end

end Law

namespace Law
open PySem PySem.Spec PyProof.Rows L2 Go
/-- the script's first cells, each with its place: a list of pairs -/
inductive Sp_law_cells (K : PySem.W.Frag) : Sp
  | mk {G H : Hp} {C : List (Addr × HO)} {Q : VK} {E : XK} {a : Addr} {ns : List Int} {n : Int} (O : Own G C H) (hS : SqL K G a (ns.map V.int)) (hl : ns.length ≤ 63) (h0 : 1 ≤ n) (h1 : n ≤ 100)
      (q : ∀ (r : Addr) (ts : List Addr) (xs : List Int) (G' H' : Hp), Same G G' → Own G' C H' → xs.length ≤ 63 → ts.length = xs.length → G' r = some (.lst (ts.map V.ref)) → (∀ (i : Nat) (t : Addr), ts[i]? = some t → ∃ x : Int, G' t = some (.tup [.int (i : Nat), .int x])) → Q (.ref r) H') : Sp_law_cells K [.ref a, .int n] H Q E
section
variable {P : Program} {w : World} {K : PySem.W.Frag} {mg : Str → Option Value} {base : Heap}
theorem ok_law_cells (T : Env K mg) {f : Addr} {fd : FuncData} (F : Fun K "_law_cells" "_law_cells" st_law_cells f fd) : FnOk P w K mg base CX0 1 f fd ["script", "many"] (Sp_law_cells K) := by
  simp (disch := (with_unfolding_all (
    refine into (N := ["script", "many"]) (nm := nm_law_cells) F sc_law_cells ne_law_cells (fun vs H Q E h => by cases h <;> rfl) (by decide) (fun X H vs Q E c h => ?_)
    have B_list := T.b_list
    have B_enumerate := T.b_enumerate
    have B_int := T.b_int
    cases h with
    | @mk G H C Q E a ns n O hS hl h0 h1 q =>
    walk_at "in"
    refine l_lst c (by walk_at "sql") fun p1 H1 n1 => ?_
    obtain ⟨G1, s1, hp1, O1⟩ := O.fix n1
    walk_at "go"
    intro p2 H2 n2
    obtain ⟨G2, s2, hp2, O2⟩ := O1.fix n2
    walk_at "go"
    intro p3 H3 n3
    obtain ⟨G3, s3, hp3, O3⟩ := O2.fix n3
    refine o_eqLI c (ms := []) (by walk_at "sql") (show SqL K H3 p3 [] by walk_at "sql") ?_
    walk_at "go"
    refine o_rep (by walk_at "hp") (by split <;> decide) (by split <;> decide) (by split <;> decide) fun p4 H4 n4 => ?_
    obtain ⟨G4, s4, hp4, O4⟩ := O3.fix n4
    obtain ⟨xs, hx, hxl⟩ : ∃ xs : List Int, cut (List.map V.int ns) none (some n) ++ (List.replicate (if decide (ns = []) = true then (1 : Int) else 0).toNat [V.int 0]).flatten = xs.map V.int ∧ xs.length ≤ 63 := by
      refine ⟨ns.take n.toNat ++ (if ns = [] then [0] else []), ?_, ?_⟩
      · rw [cut_to _ _ (by omega), List.map_append, List.map_take]
        congr 1
        by_cases h : ns = []
        · rw [if_pos h, if_pos (decide_eq_true h)]; rfl
        · rw [if_neg h, if_neg (by simpa using h)]; rfl
      · rw [List.length_append, List.length_take]
        split
        · subst_vars; simp
        · simp only [List.length_nil]; omega
    refine o_cat (by walk_at "hp") (by walk_at "hp") (by rw [← List.length_append, hx, List.length_map]; omega) fun p5 H5 n5 => ?_
    rw [hx] at n5
    obtain ⟨G5, s5, hp5, O5⟩ := O4.fix n5
    refine ⟨p5, _, rfl, .of (hp_up O5 hp5), fun H6 r ts s l f1 f2 e1 e2 nr => ?_⟩
    obtain ⟨G6, s6, O6, k6⟩ := O5.all s
    walk_at "go"
    refine q r ts xs G6 H6 (fun b u e => s6 _ _ (s5 _ _ (s4 _ _ (s3 _ _ (s2 _ _ (s1 _ _ e)))))) O6 hxl (by rw [l, List.length_map]) (k6 _ _ f1 e1) fun i t ht => ?_
    have hi : i < xs.length := by
      have := (List.getElem?_eq_some_iff.mp ht).1
      rw [l, List.length_map] at this
      exact this
    exact ⟨xs[i], k6 _ _ (f2 _ (List.mem_of_getElem? ht)) (e2 i t _ ht (by rw [List.getElem?_map, List.getElem?_eq_getElem hi]; rfl))⟩))) only [↓fn_ok]
theorem cal_law_cells (T : Env K mg) : Cal P w K mg base 1 "_law_cells" (Sp_law_cells K) := cal_of T.d_law_cells fun F => ok_law_cells T F
end

end Law

namespace Law
open PySem PySem.Spec PyProof.Rows L2 Go
inductive Sp_law_great (K : PySem.W.Frag) : Sp
  | mk {G H : Hp} {C : List (Addr × HO)} {Q : VK} {E : XK} {a : Addr} {ns : List Int} (O : Own G C H) (hS : SqL K G a (ns.map V.int))
      (q : ∀ b : Bool, Q (.bl b) H) : Sp_law_great K [.ref a] H Q E
section
variable {P : Program} {w : World} {K : PySem.W.Frag} {mg : Str → Option Value} {base : Heap}
theorem ok_law_great (T : Env K mg) {f : Addr} {fd : FuncData} (F : Fun K "_law_great" "_law_great" st_law_great f fd) : FnOk P w K mg base CX0 1 f fd ["script"] (Sp_law_great K) := by
  simp (disch := (with_unfolding_all (
    refine into (N := ["script"]) (nm := nm_law_great) F sc_law_great ne_law_great (fun vs H Q E h => by cases h <;> rfl) (by decide) (fun X H vs Q E c h => ?_)
    have B_sum := T.b_sum
    cases h with
    | mk O hS q =>
    walk_at "in"
    exact q _))) only [↓fn_ok]
theorem cal_law_great (T : Env K mg) : Cal P w K mg base 1 "_law_great" (Sp_law_great K) := cal_of T.d_law_great fun F => ok_law_great T F
end

end Law

namespace Law
open PySem PySem.Spec PyProof.Rows L2 Go
/-- a row of letters -/
inductive Sp_law_row (K : PySem.W.Frag) : Sp
  | mk {G H : Hp} {C : List (Addr × HO)} {Q : VK} {E : XK} {p : Addr} {o : HO} {n : Int} (O : Own G ((p, o) :: C) H) (hh : HandO o) (h3 : 0 ≤ n) (h4 : n ≤ 200)
      (q : ∀ (z : List Nat) (o : HO) (G' H' : Hp), Same G G' → Own G' ((p, o) :: C) H' → HandO o → z.length = n.toNat → (∀ x ∈ z, 97 ≤ x ∧ x ≤ 122) → Q (.str (S z)) H') : Sp_law_row K [.ref p, .int n] H Q E
section
variable {P : Program} {w : World} {K : PySem.W.Frag} {mg : Str → Option Value} {base : Heap}
theorem ok_law_row (T : Env K mg) {f : Addr} {fd : FuncData} (F : Fun K "_law_row" "_law_row" st_law_row f fd) : FnOk P w K mg base CX0 2 f fd ["hand", "many"] (Sp_law_row K) := by
  simp (disch := (with_unfolding_all (
    refine into (N := ["hand", "many", "letters", "wide", "base", "kind", "block", "row", "k"]) (nm := nm_law_row) F sc_law_row ne_law_row (fun vs H Q E h => by cases h <;> rfl) (by decide) (fun X H vs Q E c h => ?_)
    have C_law_draw := cal_law_draw (P := P) (w := w) (base := base) T
    have B_range := T.b_range
    cases h with
    | @mk G H C Q E p o n O hh h3 h4 q =>
    walk_at "in"
    intro pw Hw nw
    obtain ⟨G1, s1, e1, O⟩ := O.fix nw
    walk_at "go"
    refine .mk O hh (by omega) (by omega) fun r1 o H1 O hh a1 b1 => ?_
    obtain ⟨wd, hw, w1, w26⟩ : ∃ wd : Int, atI [V.int 1, V.int 2, V.int 2, V.int 3, V.int 26] r1 = some (.int wd) ∧ 1 ≤ wd ∧ wd ≤ 26 := by
      have : r1 = 0 ∨ r1 = 1 ∨ r1 = 2 ∨ r1 = 3 ∨ r1 = 4 := by omega
      rcases this with rfl | rfl | rfl | rfl | rfl <;> exact ⟨_, rfl, by decide, by decide⟩
    refine x_lst c (by walk_at "sql") hw ?_
    walk_at "go"
    refine .mk O hh (by omega) (by omega) fun bs o H2 O hh a2 b2 => ?_
    walk_at "go"
    refine .mk O hh (by omega) (by omega) fun kd o H3 O hh a3 b3 => ?_
    walk_at "go"
    refine .mk O hh (by omega) (by omega) fun bk o H4 O hh a4 b4 => ?_
    walk_at "go"
    refine lr_range (fun i acc _ C' => ∃ (zs : List Nat) (o : HO), acc = zs.map (fun x => V.str (S [x])) ∧ zs.length = i ∧ (∀ x ∈ zs, 97 ≤ x ∧ x ≤ 122) ∧ C' = (p, o) :: C ∧ HandO o) c (by walk_at "ix") (by walk_at "dk") rfl (by omega) O ⟨[], o, rfl, rfl, by simp, rfl, hh⟩ ?_ ?_
    · rintro i acc G2 C2 A H5 hi ⟨zs, o, rfl, hz, hl, rfl, hh⟩ O s2 X' c
      walk_at "go"
      refine .mk O.swap hh (by omega) (by omega) fun lt o H6 O hh a5 b5 => ?_
      walk_at "go"
      refine x_str (by decide) (abc_at _ (by omega) (by omega)) ⟨G2, (p, o) :: C, O.swap, same_rfl, zs ++ [97 + (bs + lt).toNat], o, by simp, by simp [hz], fun x hx => ?_, rfl, hh⟩
      rcases List.mem_append.mp hx with h | h
      · exact hl x h
      · have := List.mem_singleton.mp h
        omega
    · rintro acc G2 C2 A H5 hn ⟨zs, o, rfl, hz, hl, rfl, hh⟩ O s2
      obtain ⟨G3, s3, hA, O⟩ := O.frz
      refine m_joinC c (by walk_at "sql") (by omega) ?_
      walk_at "go"
      refine i_dec (fun h => ?_) (fun h => ?_)
      · walk_at "go"
        refine o_repT (by omega) (by rw [List.length_take]; omega) (by omega) fun rl rb => ?_
        walk_at "go"
        refine q _ o G3 _ (by walk_at "sm") O hh ?_ fun x hx => hl x (List.mem_of_mem_take (rep_mem (List.mem_of_mem_take hx)))
        rw [List.length_take, rl, List.length_take]
        rcases Nat.eq_zero_or_pos n.toNat with e | e
        · rw [e]; simp
        · exact Nat.min_eq_left (Nat.le_mul_of_pos_right _ (by omega))
      · walk_at "go"
        exact q zs o G3 _ (by walk_at "sm") O hh hz hl))) only [↓fn_ok]
theorem cal_law_row (T : Env K mg) : Cal P w K mg base 2 "_law_row" (Sp_law_row K) := cal_of T.d_law_row fun F => ok_law_row T F
end

end Law

namespace Law
open PySem PySem.Spec PyProof.Rows L2 Go
/-- a pair of rows -/
inductive Sp_law_two (K : PySem.W.Frag) : Sp
  | mk {G H : Hp} {C : List (Addr × HO)} {Q : VK} {E : XK} {p : Addr} {o : HO} {n : Int} {b : Bool} (O : Own G ((p, o) :: C) H) (hh : HandO o) (h3 : 0 ≤ n) (h4 : n ≤ 60)
      (q : ∀ (r : Addr) (y z : List Nat) (o : HO) (G' H' : Hp), Same G G' → Own G' ((p, o) :: C) H' → HandO o → y.length ≤ 60 → z.length ≤ 60 → (b = false → y.length ≤ n.toNat ∧ z.length ≤ n.toNat) → (∀ x ∈ y, 97 ≤ x ∧ x ≤ 122) → (∀ x ∈ z, 97 ≤ x ∧ x ≤ 122) → G' r = some (.tup [.str (S y), .str (S z)]) → Q (.ref r) H') : Sp_law_two K [.ref p, .int n, .bl b] H Q E
section
variable {P : Program} {w : World} {K : PySem.W.Frag} {mg : Str → Option Value} {base : Heap}
theorem ok_law_two (T : Env K mg) {f : Addr} {fd : FuncData} (F : Fun K "_law_two" "_law_two" st_law_two f fd) : FnOk P w K mg base CX0 3 f fd ["hand", "most", "long"] (Sp_law_two K) := by
  simp (disch := (with_unfolding_all (
    refine into (N := ["hand", "most", "long", "many", "one", "other", "kind", "side", "k"]) (nm := nm_law_two) F sc_law_two ne_law_two (fun vs H Q E h => by cases h <;> rfl) (by decide) (fun X H vs Q E c h => ?_)
    have C_law_row := cal_law_row (P := P) (w := w) (base := base) T
    have C_law_draw := cal_law_draw (P := P) (w := w) (base := base) T
    have B_range := T.b_range
    have B_len := T.b_len
    cases h with
    | @mk G H C Q E p o n b O hh h3 h4 q =>
    walk_at "in"
    refine .mk O hh (by omega) (by omega) fun m1 o H1 O hh a1 b1 => ?_
    walk_at "go"
    refine .mk O hh (by omega) (by omega) fun m2 o H2 O hh a2 b2 => ?_
    walk_at "go"
    intro pm H3 n3
    obtain ⟨G1, s1, e1, O⟩ := O.fix n3
    walk_at "go"
    refine i_join (fun σ' H' => ∃ (pm : Addr) (m1 m2 : Int) (o : HO) (G1 : Hp), σ' = [some (.ref p), some (.int n), some (.bl b), some (.ref pm), none, none, none, none, none] ∧ Same G G1 ∧ Own G1 ((p, o) :: C) H' ∧ HandO o ∧ G1 pm = some (.lst [.int m1, .int m2]) ∧ 0 ≤ m1 ∧ m1 ≤ 60 ∧ 0 ≤ m2 ∧ m2 ≤ 60 ∧ (b = false → m1 ≤ n ∧ m2 ≤ n)) (fun hb => ?_) (fun hb => ?_) ?_
    · walk_at "go"
      refine lr_range (fun i acc _ C' => ∃ (ms : List Int) (o : HO), acc = ms.map V.int ∧ ms.length = i ∧ (∀ x ∈ ms, 0 ≤ x ∧ x ≤ 60) ∧ C' = (p, o) :: C ∧ HandO o) c (by walk_at "ix") (by walk_at "dk") rfl (by decide) O ⟨[], o, rfl, rfl, by simp, rfl, hh⟩ ?_ ?_
      · rintro i acc G2 C2 A H5 hi ⟨ms, o, rfl, hz, hl, rfl, hh⟩ O s2 X' c
        walk_at "go"
        refine .mk O.swap hh (by omega) (by omega) fun l1 o H6 O hh a5 b5 => ?_
        walk_at "go"
        refine .mk O hh (by omega) (by omega) fun l2 o H7 O hh a6 b6 => ?_
        walk_at "go"
        intro pz H8 n8
        obtain ⟨G3, s3, e3, O⟩ := O.fix n8
        walk_at "go"
        refine .mk O hh (by omega) (by omega) fun l3 o H9 O hh a7 b7 => ?_
        obtain ⟨mx, hm, m0, m1⟩ : ∃ mx : Int, atI [V.int (50 + l1), V.int l2] l3 = some (.int mx) ∧ 0 ≤ mx ∧ mx ≤ 60 := by
          have : l3 = 0 ∨ l3 = 1 := by omega
          rcases this with rfl | rfl
          · exact ⟨_, rfl, by omega, by omega⟩
          · exact ⟨_, rfl, by omega, by omega⟩
        refine x_lst c (by walk_at "sql") hm ⟨G3, (p, o) :: C, O.swap, s3, ms ++ [mx], o, by simp, by simp [hz], fun x hx => ?_, rfl, hh⟩
        rcases List.mem_append.mp hx with h | h
        · exact hl x h
        · have := List.mem_singleton.mp h
          omega
      · rintro acc G2 C2 A H5 hn ⟨ms, o, rfl, hz, hl, rfl, hh⟩ O s2
        obtain ⟨x1, x2, rfl⟩ : ∃ x1 x2, ms = [x1, x2] := by
          rcases ms with _ | ⟨x1, _ | ⟨x2, _ | ⟨x3, r⟩⟩⟩ <;> simp at hz
          exact ⟨x1, x2, rfl⟩
        obtain ⟨G3, s3, hA, O⟩ := O.frz
        walk_at "go"
        have k1 := hl x1 (by simp)
        have k2 := hl x2 (by simp)
        exact ⟨A, x1, x2, o, G3, rfl, by walk_at "sm", O, hh, hA, k1.1, k1.2, k2.1, k2.2, fun e => by rw [hb] at e; cases e⟩
    · walk_at "go"
      exact ⟨pm, m1, m2, o, G1, rfl, s1, O, hh, e1, a1, by omega, a2, by omega, fun _ => by omega⟩
    · rintro σ' H' ⟨pm, m1, m2, o, G1, rfl, s1, O, hh, e1, a1, b1, a2, b2, hm⟩
      walk_at "go"
      refine .mk O hh a1 (by omega) fun y o G2 H2 s2 O hh ly ay => ?_
      walk_at "go"
      refine .mk O hh a2 (by omega) fun z o G3 H3 s3 O hh lz az => ?_
      walk_at "go"
      refine .mk O hh (by omega) (by omega) fun kd o H4 O hh a3 b3 => ?_
      walk_at "go"
      refine i_joinD (fun σ' H' => ∃ (z : List Nat), σ' = [some (.ref p), some (.int n), some (.bl b), some (.ref pm), some (.str (S y)), some (.str (S z)), some (.int kd), none, none] ∧ H' = H4 ∧ z.length ≤ m2.toNat ∧ (∀ x ∈ z, 97 ≤ x ∧ x ≤ 122)) (fun hk => ?_) (fun hk => ?_) ?_
      · walk_at "go"
        refine ⟨_, rfl, rfl, by rw [List.length_take]; omega, fun x hx => ?_⟩
        rcases List.mem_append.mp (List.mem_of_mem_take hx) with h | h
        · exact ay x h
        · exact az x h
      · walk_at "go"
        exact ⟨z, rfl, rfl, by omega, az⟩
      · rintro σ' H4 ⟨z, rfl, rfl, lz, az⟩
        walk_at "go"
        refine i_joinD (fun σ' H' => ∃ (z : List Nat), σ' = [some (.ref p), some (.int n), some (.bl b), some (.ref pm), some (.str (S y)), some (.str (S z)), some (.int kd), none, none] ∧ H' = H4 ∧ z.length ≤ m2.toNat ∧ (∀ x ∈ z, 97 ≤ x ∧ x ≤ 122)) (fun hk => ?_) (fun hk => ?_) ?_
        · walk_at "go"
          refine e_revS ?_
          walk_at "go"
          refine ⟨y, rfl, by omega, ?_⟩
          walk_at "go"
          refine ⟨_, rfl, rfl, by rw [List.length_take]; omega, fun x hx => ?_⟩
          rcases List.mem_append.mp (List.mem_of_mem_take hx) with h | h
          · exact ay x (List.mem_reverse.mp h)
          · exact az x h
        · walk_at "go"
          exact ⟨z, rfl, rfl, by omega, az⟩
        · rintro σ' H4 ⟨z, rfl, rfl, lz, az⟩
          walk_at "go"
          have fin : ∀ (z : List Nat) (o : HO) (G4 H5 : Hp), Same G G4 → Own G4 ((p, o) :: C) H5 → HandO o → z.length ≤ m2.toNat → (∀ x ∈ z, 97 ≤ x ∧ x ≤ 122) → ∀ (r : Addr) (H6 : Hp), New H5 r (.tup [.str (S y), .str (S z)]) H6 → Q (.ref r) H6 := by
            intro z o G4 H5 s4 O hh lz az r H6 n6
            obtain ⟨G5, s5, e5, O⟩ := O.fix n6
            exact q r y z o G5 H6 (by walk_at "sm") O hh (by omega) (by omega) (fun hb => by have := hm hb; omega) ay az e5
          refine i_dec (fun hk => ?_) (fun hk => ?_)
          · walk_at "go"
            refine i_dec (fun hy => ?_) (fun hy => ?_)
            · walk_at "go"
              exact fin z o _ _ (by walk_at "sm") O hh lz az
            · walk_at "go"
              have ypos : 0 < y.length := List.length_pos_iff.mpr hy
              refine lr_range (fun i acc _ C' => ∃ (zs : List Nat) (o : HO), acc = zs.map (fun x => V.str (S [x])) ∧ zs.length = i ∧ (∀ x ∈ zs, 97 ≤ x ∧ x ≤ 122) ∧ C' = (p, o) :: C ∧ HandO o) c (by walk_at "ix") (by walk_at "dk") rfl (by omega) O ⟨[], o, rfl, rfl, by simp, rfl, hh⟩ ?_ ?_
              · rintro i acc G6 C2 A H5 hi ⟨zs, o, rfl, hz, hl, rfl, hh⟩ O s6 X' c
                walk_at "go"
                refine .mk O.swap hh (by omega) (by omega) fun lt o H6 O hh a5 b5 => ?_
                obtain ⟨v, hv⟩ : ∃ v, y[lt.toNat]? = some v := ⟨_, List.getElem?_eq_getElem (by omega)⟩
                refine x_str (by omega) (show atI y lt = some v by rw [show lt = (lt.toNat : Int) by omega, atI_get hv]) ⟨G6, (p, o) :: C, O.swap, same_rfl, zs ++ [v], o, by simp, by simp [hz], fun x hx => ?_, rfl, hh⟩
                rcases List.mem_append.mp hx with h | h
                · exact hl x h
                · rw [List.mem_singleton.mp h]; exact ay v (List.mem_of_getElem? hv)
              · rintro acc G6 C2 A H5 hn ⟨zs, o, rfl, hz, hl, rfl, hh⟩ O s6
                obtain ⟨G7, s7, hA, O⟩ := O.frz
                refine m_joinC c (by walk_at "sql") (by omega) ?_
                walk_at "go"
                exact fin zs o _ _ (by walk_at "sm") O hh (by omega) hl
          · walk_at "go"
            exact fin z o _ _ (by walk_at "sm") O hh lz az))) only [↓fn_ok]
theorem cal_law_two (T : Env K mg) : Cal P w K mg base 3 "_law_two" (Sp_law_two K) := cal_of T.d_law_two fun F => ok_law_two T F
end

end Law

namespace Law
open PySem PySem.Spec PyProof.Rows L2 Go
/-- a way of the two: a text of 0s and 1s -/
inductive Sp_law_way (K : PySem.W.Frag) : Sp
  | mk {G H : Hp} {C : List (Addr × HO)} {Q : VK} {E : XK} {p : Addr} {o : HO} {y z : List Nat} (O : Own G ((p, o) :: C) H) (hh : HandO o) (h3 : y.length ≤ 60) (h4 : z.length ≤ 60)
      (q : ∀ (t : List Nat) (o : HO) (G' H' : Hp), Same G G' → Own G' ((p, o) :: C) H' → HandO o → (∀ x ∈ t, x = 48 ∨ x = 49) → t.count 48 = y.length → t.count 49 = z.length → Q (.str (S t)) H') : Sp_law_way K [.ref p, .str (S y), .str (S z)] H Q E
section
variable {P : Program} {w : World} {K : PySem.W.Frag} {mg : Str → Option Value} {base : Heap}
theorem ok_law_way (T : Env K mg) {f : Addr} {fd : FuncData} (F : Fun K "_law_way" "_law_way" st_law_way f fd) : FnOk P w K mg base CX0 2 f fd ["hand", "one", "other"] (Sp_law_way K) := by
  simp (disch := (with_unfolding_all (
    refine into (N := ["hand", "one", "other", "left", "kind", "way", "side"]) (nm := nm_law_way) F sc_law_way ne_law_way (fun vs H Q E h => by cases h <;> rfl) (by decide) (fun X H vs Q E c h => ?_)
    have C_law_draw := cal_law_draw (P := P) (w := w) (base := base) T
    have B_len := T.b_len
    have B_int := T.b_int
    have B_str := T.b_str
    cases h with
    | @mk G H C Q E p o y z O hh h3 h4 q =>
    walk_at "in"
    intro pl H1 n1
    have O := O.more2 n1
    walk_at "go"
    refine .mk O hh (by omega) (by omega) fun kd o H2 O hh a1 b1 => ?_
    walk_at "go"
    refine s_while c (fun m σ H => ∃ (i j : Nat) (u : List Nat) (o : HO) (a : Option V) (G1 : Hp), σ = [some (.ref p), some (.str (S y)), some (.str (S z)), some (.ref pl), some (.int kd), some (.str (S u)), a] ∧ Same G G1 ∧ Own G1 ((p, o) :: (pl, .lst [.int i, .int j]) :: C) H ∧ HandO o ∧ m = i + j ∧ (∀ x ∈ u, x = 48 ∨ x = 49) ∧ u.count 48 + i = y.length ∧ u.count 49 + j = z.length ∧ u.length + i + j = y.length + z.length) (y.length + z.length) ⟨_, _, [], o, _, G, rfl, same_rfl, O, hh, rfl, by simp, by simp, by simp, by simp⟩ ?_
    rintro m σ H ⟨i, j, u, o, a, G1, rfl, s1, O, hh, rfl, k0, k1, k2, k3⟩
    walk_at "go"
    refine i_dec (fun h => ?_) (fun h => ?_)
    · walk_at "go"
      refine .mk O hh (by omega) (by omega) fun dr o H2 O hh a2 b2 => ?_
      walk_at "go"
      intro pk H3 n3
      obtain ⟨G2, s2, e2, O⟩ := O.fix n3
      walk_at "go"
      obtain ⟨sd, hs, hsd⟩ : ∃ sd : Int, atI [V.int (if decide ((i : Int) ≤ dr) = true then 1 else 0), V.int ((u.length : Int) % 2), V.int 0, V.int 1] kd = some (.int sd) ∧ (sd = 0 ∨ sd = 1) := by
        have : kd = 0 ∨ kd = 1 ∨ kd = 2 ∨ kd = 3 := by omega
        rcases this with rfl | rfl | rfl | rfl
        · exact ⟨_, rfl, by split <;> simp⟩
        · exact ⟨_, rfl, by omega⟩
        · exact ⟨_, rfl, .inl rfl⟩
        · exact ⟨_, rfl, .inr rfl⟩
      refine x_lst c (by walk_at "sql") hs ?_
      walk_at "go"
      intro ps H4 n4
      obtain ⟨G3, s3, e3, O⟩ := O.fix n4
      walk_at "go"
      have pick : ∃ s : Int, (s = 0 ∧ i ≠ 0 ∨ s = 1 ∧ j ≠ 0) ∧ atI [V.int sd, V.int (1 - sd)] (if decide ((if sd = 0 then (i : Int) else j) = 0) = true then 1 else 0) = some (.int s) := by
        rcases hsd with rfl | rfl
        · by_cases hi : i = 0
          · exact ⟨1, .inr ⟨rfl, by omega⟩, by subst hi; rfl⟩
          · exact ⟨0, .inl ⟨rfl, hi⟩, by rw [show (if (0 : Int) = 0 then (i : Int) else j) = i from rfl, if_neg (by simpa using hi)]; rfl⟩
        · by_cases hj : j = 0
          · exact ⟨0, .inl ⟨rfl, by omega⟩, by subst hj; rfl⟩
          · exact ⟨1, .inr ⟨rfl, hj⟩, by rw [show (if (1 : Int) = 0 then (i : Int) else j) = j from rfl, if_neg (by simpa using hj)]; rfl⟩
      obtain ⟨s, hs2, hat⟩ := pick
      refine x_lst c (v := .int (if sd = 0 then (i : Int) else j)) (by walk_at "sql") (by rcases hsd with rfl | rfl <;> rfl) ?_
      walk_at "go"
      refine x_lst c (by walk_at "sql") hat ?_
      walk_at "go"
      rcases hs2 with ⟨rfl, hi⟩ | ⟨rfl, hj⟩
      · walk_at "go"
        rename_i O
        refine ⟨i - 1 + j, by omega, i - 1, j, u ++ [48], o, _, G3, rfl, by walk_at "sm", by rw [show ((i - 1 : Nat) : Int) = i - 1 by omega]; exact O, hh, rfl, fun x hx => ?_, by simp [List.count_append]; omega, by simp [List.count_append]; omega, by simp; omega⟩
        rcases List.mem_append.mp hx with h | h
        · exact k0 x h
        · exact .inl (List.mem_singleton.mp h)
      · walk_at "go"
        rename_i O
        refine ⟨i + (j - 1), by omega, i, j - 1, u ++ [49], o, _, G3, rfl, by walk_at "sm", by rw [show ((j - 1 : Nat) : Int) = j - 1 by omega]; exact O, hh, rfl, fun x hx => ?_, by simp [List.count_append]; omega, by simp [List.count_append]; omega, by simp; omega⟩
        rcases List.mem_append.mp hx with h | h
        · exact k0 x h
        · exact .inr (List.mem_singleton.mp h)
    · walk_at "go"
      exact q u o G1 _ s1 O.swap.drop hh k0 (by omega) (by omega)))) only [↓fn_ok]
theorem cal_law_way (T : Env K mg) : Cal P w K mg base 2 "_law_way" (Sp_law_way K) := cal_of T.d_law_way fun F => ok_law_way T F
end

end Law

namespace Law
open PySem PySem.Spec PyProof.Rows L2 Go
/-- a thing that may be no way -/
inductive Sp_law_spoilt (K : PySem.W.Frag) : Sp
  | mk {G H : Hp} {C : List (Addr × HO)} {Q : VK} {E : XK} {p : Addr} {o : HO} {t : List Nat} (O : Own G ((p, o) :: C) H) (hh : HandO o) (hl : t.length ≤ 140) (ha : Asc t)
      (q : ∀ (v : V) (o : HO) (G' H' : Hp), Same G G' → Own G' ((p, o) :: C) H' → HandO o → (∃ d, WyT G' (t.length + 1) v d) → Q v H') : Sp_law_spoilt K [.ref p, .str (S t)] H Q E
def sgsW : List Nat := cs "0101 !#$&'()*+,-./23456789:;<=>?@ABCDEFGHIJKLMNOPQRSTUVWXYZ[]^_`abyz{|}~\n\"\\"
theorem sgsW_eq : cs "0101 !#$&'()*+,-./23456789:;<=>?@ABCDEFGHIJKLMNOPQRSTUVWXYZ[]^_`abyz{|}~\n\"\\" = sgsW := rfl
theorem sgsW_len : sgsW.length ≤ 100 ∧ 0 < sgsW.length ∧ sgsW.all (· < 128) = true := by decide +kernel
section
variable {P : Program} {w : World} {K : PySem.W.Frag} {mg : Str → Option Value} {base : Heap}
theorem ok_law_spoilt (T : Env K mg) {f : Addr} {fd : FuncData} (F : Fun K "_law_spoilt" "_law_spoilt" st_law_spoilt f fd) : FnOk P w K mg base CX0 2 f fd ["hand", "way"] (Sp_law_spoilt K) := by
  simp (disch := (with_unfolding_all (
    refine into (N := ["hand", "way", "at", "signs", "sign", "kind", "some", "one"]) (nm := nm_law_spoilt) F sc_law_spoilt ne_law_spoilt (fun vs H Q E h => by cases h <;> rfl) (by decide) (fun X H vs Q E c h => ?_)
    have C_law_draw := cal_law_draw (P := P) (w := w) (base := base) T
    have B_len := T.b_len
    have B_list := T.b_list
    have B_tuple := T.b_tuple
    have B_int := T.b_int
    cases h with
    | @mk G H C Q E p o t O hh hl ha q =>
    walk_at "in"
    refine' Sp_law_draw.mk ?O ?hh ?h3 ?h4 ?_
    (case O => walk_at "own")
    (case hh => walk_at "as")
    (case h3 => walk_at "ar")
    (case h4 => walk_at "ar")
    intro aa o H_aa O hh aa_1 aa_2
    walk_at "ay"
    rw [sgsW_eq]
    obtain ⟨z1, z2, z3⟩ := sgsW_len
    walk_at "ay"
    refine' Sp_law_draw.mk ?O ?hh ?h3 ?h4 ?_
    (case O => walk_at "own")
    (case hh => walk_at "as")
    (case h3 => walk_at "ar")
    (case h4 => walk_at "ar")
    intro k1 o H_k1 O hh k1_1 k1_2
    walk_at "ay"
    obtain ⟨sg, hsg⟩ : ∃ sg, sg = sgsW.getD k1.toNat 0 := ⟨_, rfl⟩
    have hsa : sg < 128 := by
      have hk : k1.toNat < sgsW.length := by omega
      rw [hsg, List.getD_eq_getElem?_getD, List.getElem?_eq_getElem hk]
      exact of_decide_eq_true (List.all_eq_true.mp z3 _ (List.getElem_mem hk))
    walk_at "ay"
    rw [← hsg]
    refine' Sp_law_draw.mk ?O ?hh ?h3 ?h4 ?_
    (case O => walk_at "own")
    (case hh => walk_at "as")
    (case h3 => walk_at "ar")
    (case h4 => walk_at "ar")
    intro ki o H_ki O hh ki_1 ki_2
    walk_at "ay"
    have at' : Asc [sg] := one_item hsa
    by_cases w1 : ki = 1
    · walk_at "ay"
      refine q _ _ _ _ (by walk_at "sm") (by walk_at "as") (by walk_at "as") ⟨_, wy_text (asc_app (asc_app (asc_take ha _) at') (asc_drop ha _)) (by (simp; omega)) (by omega)⟩
    by_cases w2 : ki = 2
    · walk_at "ay"
      refine q _ _ _ _ (by walk_at "sm") (by walk_at "as") (by walk_at "as") ⟨_, wy_text (asc_app (asc_take ha _) (asc_drop ha _)) (by (simp; omega)) (by omega)⟩
    by_cases w3 : ki = 3
    · walk_at "ay"
      refine e_revS ?_
      walk_at "ay"
      refine ⟨_, rfl, by walk_at "num", ?_⟩
      walk_at "ay"
      refine q _ _ _ _ (by walk_at "sm") (by walk_at "as") (by walk_at "as") ⟨_, wy_text (asc_rev ha) (by (simp)) (by omega)⟩
    by_cases w0 : ki = 0
    · walk_at "ay"
      intro m1 H_m1 n_m1
      obtain ⟨G_m1, s_m1, e_m1, O⟩ := Own.fix (by walk_at "as") n_m1
      walk_at "ay"
      rename_i u1 H_u1 n_u1 G_u1 s_u1 e_u1 O
      refine e_dictK ?_
      intro m2 H_m2 n_m2
      obtain ⟨G_m2, s_m2, e_m2, O⟩ := Own.fix (by walk_at "as") n_m2
      walk_at "ay"
      refine c_listS c (by omega) ?_
      intro m3 H_m3 n_m3
      obtain ⟨G_m3, s_m3, e_m3, O⟩ := Own.fix (by walk_at "as") n_m3
      walk_at "ay"
      refine c_tupS c (by omega) ?_
      intro m4 H_m4 n_m4
      obtain ⟨G_m4, s_m4, e_m4, O⟩ := Own.fix (by walk_at "as") n_m4
      walk_at "ay"
      intro m5 H_m5 n_m5
      obtain ⟨G_m5, s_m5, e_m5, O⟩ := Own.fix (by walk_at "as") n_m5
      walk_at "ay"
      refine i_str ?_
      walk_at "ay"
      refine ⟨t, rfl, ?_⟩
      refine lr_str (fun m acc _ C' => ∃ ns : List Int, acc = ns.map V.int ∧ ns.length = m ∧ C' = (p, o) :: C ∧ ∀ i ∈ ns, i.natAbs < 1000) c (by walk_at "ix") (by walk_at "dk") rfl (by omega) O ⟨[], rfl, rfl, rfl, by simp⟩ ?_ ?_
      · rintro k x acc G6 C6 A H6 hx ⟨ns, rfl, hn1, rfl, hn2⟩ O s6 X' c
        walk_at "ay"
        exact ⟨_, _, O, same_rfl, ns ++ [if decide (x ∈ cs "1") = true then 1 else 0], by rw [List.map_append]; rfl, by simp [hn1], rfl, it_app hn2 (one_item (by split <;> decide))⟩
      rintro acc G8 C8 A2 H8 hl8 ⟨ns, rfl, hn1, rfl, hn2⟩ O s8
      obtain ⟨G9, s9, hA9, O⟩ := O.frz
      walk_at "ay"
      intro m6 H_m6 n_m6
      obtain ⟨G_m6, s_m6, e_m6, O⟩ := Own.fix (by walk_at "as") n_m6
      walk_at "ay"
      intro m7 H_m7 n_m7
      obtain ⟨G_m7, s_m7, e_m7, O⟩ := Own.fix (by walk_at "as") n_m7
      walk_at "ay"
      refine o_cat (hp_up O (by walk_at "gp")) (hp_up O e_m7) (by simp) ?_
      intro m8 H_m8 n_m8
      obtain ⟨G_m8, s_m8, e_m8, O⟩ := Own.fix (by walk_at "as") n_m8
      walk_at "ay"
      refine' Sp_law_draw.mk ?O ?hh ?h3 ?h4 ?_
      (case O => walk_at "own")
      (case hh => walk_at "as")
      (case h3 => walk_at "ar")
      (case h4 => walk_at "ar")
      intro kk o H_kk O hh kk_1 kk_2
      walk_at "ay"
      have la : (cs "\n").length = 1 := by decide +kernel
      have lb : (cs "0").length = 1 := by decide +kernel
      have lc' : (cs "1").length = 1 := by decide +kernel
      have ld : (cs "").length = 0 := by decide +kernel
      obtain ⟨v2, ev2, mv2⟩ := atI_mem (z := [V.non, .int 0, .bl true, .ref m1, .ref u1, .ref m2, .ref m3, .ref m4, .ref m5, .ref A2, .str (S (t ++ cs "\n"))] ++ [V.str (S (cs "0")), .str (S (cs "1")), .str (S (cs ""))]) (i := kk) (by omega) (by simp; omega)
      refine x_lst c (.of (hp_up O e_m8)) ev2 ?_
      have f1 : G_m8 m1 = some (.lst []) := by walk_at "gp"
      have f2 : G_m8 u1 = some (.tup []) := by walk_at "gp"
      have f3 : G_m8 m2 = some (.dK []) := by walk_at "gp"
      have f4 : G_m8 m3 = some (.lst (t.map fun c => V.str (S [c]))) := by walk_at "gp"
      have f5 : G_m8 m4 = some (.tup (t.map fun c => V.str (S [c]))) := by walk_at "gp"
      have f6 : G_m8 m5 = some (.lst [.str (S t)]) := by walk_at "gp"
      have f7 : G_m8 A2 = some (.lst (ns.map V.int)) := by walk_at "gp"
      have hv2 : ∃ d, WyT G_m8 (t.length + 1) v2 d := by
        simp only [List.mem_append, List.mem_cons, List.not_mem_nil, or_false] at mv2
        rcases mv2 with (rfl | rfl | rfl | rfl | rfl | rfl | rfl | rfl | rfl | rfl | rfl) | (rfl | rfl | rfl)
        · exact wy_of ⟨_, .non, Fit.non.mono (by decide) (by decide), by simp⟩
        · exact wy_of ⟨_, .int 0, (Fit.int (by decide)).mono (by decide) (by decide), by simp⟩
        · exact wy_of ⟨_, .bl true, (Fit.bl true).mono (by decide) (by decide), by simp⟩
        · exact wy_of ⟨_, .lst f1 .nil, (Fit.list (k := 0) (b := 0) (n := 0) (by simp) (by simp)).mono (by decide) (by decide), by simp⟩
        · exact wy_of ⟨_, .tup f2 .nil, (Fit.tuple (k := 0) (b := 0) (n := 0) (by simp) (by simp)).mono (by decide) (by decide), by simp⟩
        · exact wy_of ⟨_, .dk f3, Fit.dk.mono (by decide) (by decide), by simp⟩
        · exact wy_signs f4 ha (by omega)
        · exact wy_tsigns f5 ha (by omega)
        · exact wy_one f6 ha (by omega)
        · exact wy_ints f7 hn2 (by omega)
        · exact ⟨_, wy_text (asc_app ha (by unfold Asc; decide +kernel)) (by rw [List.length_append, la]; exact Nat.le_refl _) (by omega)⟩
        · exact ⟨_, wy_text (by unfold Asc; decide +kernel) (by rw [lb]; omega) (by omega)⟩
        · exact ⟨_, wy_text (by unfold Asc; decide +kernel) (by rw [lc']; omega) (by omega)⟩
        · exact ⟨_, wy_text (by unfold Asc; decide +kernel) (by rw [ld]; omega) (by omega)⟩
      refine q _ _ _ _ (by walk_at "sm") (by walk_at "as") (by walk_at "as") hv2
    by_cases hl2 : aa < (t.length : Int)
    · walk_at "ay"
      rw [decide_eq_true hl2]
      refine o_repS (n := 1) (by decide) (by simp) (by decide) ?_
      rw [show (List.replicate (Int.toNat 1) [sg]).flatten = [sg] from rfl]
      walk_at "ay"
      refine q _ _ _ _ (by walk_at "sm") (by walk_at "as") (by walk_at "as") ⟨_, wy_text (asc_app (asc_app (asc_take ha _) at') (asc_drop ha _)) (by (simp; omega)) (by omega)⟩
    · walk_at "ay"
      rw [decide_eq_false hl2]
      refine o_repS (n := 0) (by decide) (by simp) (by decide) ?_
      rw [show (List.replicate (Int.toNat 0) [sg]).flatten = [] from rfl]
      walk_at "ay"
      refine q _ _ _ _ (by walk_at "sm") (by walk_at "as") (by walk_at "as") ⟨_, wy_text (asc_app (asc_app (asc_take ha _) (fun x hx => nomatch hx)) (asc_drop ha _)) (by (simp; omega)) (by omega)⟩))) only [↓fn_ok]
theorem cal_law_spoilt (T : Env K mg) : Cal P w K mg base 2 "_law_spoilt" (Sp_law_spoilt K) := cal_of T.d_law_spoilt fun F => ok_law_spoilt T F
end

end Law

namespace Law
open PySem PySem.Spec PyProof.Rows L2 Go
/-- whether a thing is a way, by the words here -/
inductive Sp_law_is (K : PySem.W.Frag) : Sp
  | mk {G H : Hp} {C : List (Addr × HO)} {Q : VK} {E : XK} {y z : List Nat} {v : V} {d : PyData} {n : Nat} (O : Own G C H) (h1 : y.length ≤ 60) (h2 : z.length ≤ 60) (hv : WyT G n v d) (hn : n ≤ 4000)
      (q : ∀ (G' H' : Hp), Same G G' → Own G' C H' → Q (.bl (isWD y z d)) H') : Sp_law_is K [.str (S y), .str (S z), v] H Q E
section
variable {P : Program} {w : World} {K : PySem.W.Frag} {mg : Str → Option Value} {base : Heap}
theorem ok_law_is (T : Env K mg) {f : Addr} {fd : FuncData} (F : Fun K "_law_is" "_law_is" st_law_is f fd) : FnOk P w K mg base CX0 1 f fd ["one", "other", "thing"] (Sp_law_is K) := by
  simp (disch := (with_unfolding_all (
    refine into (N := ["one", "other", "thing", "left", "sign"]) (nm := nm_law_is) F sc_law_is ne_law_is (fun vs H Q E h => by cases h <;> rfl) (by decide) (fun X H vs Q E c h => ?_)
    have B_isinstance := T.b_isinstance
    have B_str := T.b_str
    have B_len := T.b_len
    have B_int := T.b_int
    have e0 : cs "0" = [48] := by decide +kernel
    have e1 : cs "1" = [49] := by decide +kernel
    cases h with
    | @mk G H C Q E y z v d n O h1 h2 hv hn q =>
    obtain ⟨hv, hf, hu⟩ := hv
    cases hv with
    | non =>
      walk_at "in"
      walk_at "ay"
      refine' q _ _ ?fS ?fO
      (case fO => walk_at "own")
      (case fS => walk_at "sm")
    | bl x =>
      walk_at "in"
      walk_at "ay"
      refine' q _ _ ?fS ?fO
      (case fO => walk_at "own")
      (case fS => walk_at "sm")
    | int i =>
      walk_at "in"
      walk_at "ay"
      refine' q _ _ ?fS ?fO
      (case fO => walk_at "own")
      (case fS => walk_at "sm")
    | lst h k =>
      walk_at "in"
      walk_at "ay"
      refine' q _ _ ?fS ?fO
      (case fO => walk_at "own")
      (case fS => walk_at "sm")
    | tup h k =>
      walk_at "in"
      walk_at "ay"
      refine' q _ _ ?fS ?fO
      (case fO => walk_at "own")
      (case fS => walk_at "sm")
    | dk h =>
      walk_at "in"
      walk_at "ay"
      refine' q _ _ ?fS ?fO
      (case fO => walk_at "own")
      (case fS => walk_at "sm")
    | dki h k =>
      walk_at "in"
      walk_at "ay"
      refine' q _ _ ?fS ?fO
      (case fO => walk_at "own")
      (case fS => walk_at "sm")
    | str x =>
      obtain ⟨w, rfl⟩ : ∃ w, x = S w := ⟨cs x, (S_cs x).symm⟩
      obtain ⟨ha, hl⟩ := hu w rfl
      have eq : isWD y z (.str (S w)) = isWayB y z w := by
        show isWayB y z (cs (S w)) = _
        rw [cs_S]
      rw [eq] at q
      walk_at "in"
      walk_at "ay"
      intro lf H_lf n_lf
      have O := Own.more (by walk_at "as") n_lf
      walk_at "ay"
      refine s_for c (fun _ => rfl) (i_str ?_)
      walk_at "ay"
      refine ⟨w, rfl, ?_⟩
      refine on_str (fun k σ H => ∃ (b_sign : Option V) (G_L : Hp), σ = [some (.str (S y)), some (.str (S z)), some (.str (S w)), some (.ref lf), b_sign] ∧ Own G_L ((lf, .lst [.int ((y.length : Int) - ((w.take k).count 48 : Nat)), .int ((z.length : Int) - ((w.take k).count 49 : Nat))]) :: C) H ∧ Same G G_L ∧ ∀ x ∈ w.take k, x = 48 ∨ x = 49) ⟨_, _, rfl, (by walk_at "ow"), (by walk_at "sm"), by simp⟩ ?_ ?_
      · rintro k x σ H hx ⟨b_sign, G_L, rfl, O, s_L, h01⟩
        have hk : k < w.length := (List.getElem?_eq_some_iff.mp hx).1
        have ht : w.take (k + 1) = w.take k ++ [x] := by rw [List.take_add_one, hx]; rfl
        walk_at "ay"
        rename_i u1 H_u1 n_u1 G_u1 s_u1 e_u1 O
        refine o_notInQ c (.inr (.of (hp_up O e_u1))) rfl rfl ?_
        by_cases h48 : x = 48
        · subst h48
          rw [show inV (.str (S [48])) [V.str (S (cs "0")), .str (S (cs "1"))] = true by rw [e0, e1]; rfl]
          walk_at "ay"
          rename_i O
          rw [show ((y.length : Int) - ((w.take k).count 48 : Nat)) - 1 = (y.length : Int) - ((w.take (k + 1)).count 48 : Nat) by rw [ht, List.count_append]; simp; omega, show (w.take k).count 49 = (w.take (k + 1)).count 49 by rw [ht, List.count_append]; simp] at O
          first | exact ⟨_, _, rfl, (by walk_at "ow"), (by walk_at "sm"), by rw [ht]; exact it_app h01 (one_item (.inl rfl))⟩
        · by_cases h49 : x = 49
          · subst h49
            rw [show inV (.str (S [49])) [V.str (S (cs "0")), .str (S (cs "1"))] = true by rw [e0, e1]; rfl]
            walk_at "ay"
            rename_i O
            rw [show ((z.length : Int) - ((w.take k).count 49 : Nat)) - 1 = (z.length : Int) - ((w.take (k + 1)).count 49 : Nat) by rw [ht, List.count_append]; simp; omega, show (w.take k).count 48 = (w.take (k + 1)).count 48 by rw [ht, List.count_append]; simp] at O
            first | exact ⟨_, _, rfl, (by walk_at "ow"), (by walk_at "sm"), by rw [ht]; exact it_app h01 (one_item (.inr rfl))⟩
          · rw [show inV (.str (S [x])) [V.str (S (cs "0")), .str (S (cs "1"))] = false by rw [e0, e1]; simp [inV, eqV, S_inj]; omega]
            rw [isWayB_no (fun h => by have := h x (List.mem_of_getElem? hx); omega)] at q
            walk_at "ay"
            have O := O.drop
            refine' q _ _ ?fS ?fO
            (case fO => walk_at "own")
            (case fS => walk_at "sm")
      · rintro σ H ⟨b_sign, G_L, rfl, O, s_L, h01⟩
        rw [List.take_length] at h01 O
        obtain ⟨G9, s9, e9, O⟩ := O.frz
        walk_at "ay"
        intro p8 H_p8 n_p8
        obtain ⟨G_p8, s_p8, e_p8, O⟩ := Own.fix (by walk_at "as") n_p8
        walk_at "ay"
        refine o_eqLI c (ns := [(y.length : Int) - (w.count 48 : Nat), (z.length : Int) - (w.count 49 : Nat)]) (ms := [0, 0]) (.of ((hp_up O (s_p8 _ _ e9)).trans rfl)) (.of ((hp_up O e_p8).trans rfl)) ?_
        rw [isWayB_iff h01] at q
        rw [show decide ([(y.length : Int) - (w.count 48 : Nat), (z.length : Int) - (w.count 49 : Nat)] = [0, 0]) = decide (((y.length : Int) - (w.count 48 : Nat)) = 0 ∧ ((z.length : Int) - (w.count 49 : Nat)) = 0) from decide_eq_decide.mpr (by simp)]
        refine' q _ _ ?fS ?fO
        (case fO => walk_at "own")
        (case fS => walk_at "sm")))) only [↓fn_ok]
theorem cal_law_is (T : Env K mg) : Cal P w K mg base 1 "_law_is" (Sp_law_is K) := cal_of T.d_law_is fun F => ok_law_is T F
end

end Law

namespace Law
open PySem PySem.Spec PyProof.Rows L2 Go
theorem WyT.mono {G : Hp} {n m : Nat} {v : V} {d : PyData} (h : WyT G n v d) (hn : n ≤ m) : WyT G m v d :=
  ⟨h.1, h.2.1, fun u e => ⟨(h.2.2 u e).1, Nat.le_trans (h.2.2 u e).2 hn⟩⟩
/-- true of any list of ints -/
inductive Sp_law (K : PySem.W.Frag) : Sp
  | mk {H : Hp} {Q : VK} {E : XK} {a : Addr} {ns : List Int} (hS : SqL K H a (ns.map V.int)) (hl : ns.length ≤ 63) (q : ∀ H', Q (.bl true) H') : Sp_law K [.ref a] H Q E
section
variable {P : Program} {w : World} {K : PySem.W.Frag} {mg : Str → Option Value} {base : Heap}
theorem ok_law (T : Env K mg) {f : Addr} {fd : FuncData} (F : Fun K "law" "law" st_law f fd) : FnG P w K mg base CX0 4 f fd ["script"] (Sp_law K) := by
  simp (disch := (with_unfolding_all (
    refine intoG (N := ["script", "deep", "k", "refusal", "cell", "hand", "one", "other", "way", "spoilt", "once", "some", "thing", "kept", "turn", "told"]) (nm := nm_law) F sc_law ne_law (fun vs H Q E h => by cases h <;> rfl) (by decide) (fun X H vs Q E c hG h => ?_)
    have C_law_cells := cal_law_cells (P := P) (w := w) (base := base) T
    have C_is_way := cal_is_way (P := P) (w := w) (base := base) T
    have C_law_hand := cal_law_hand (P := P) (w := w) (base := base) T
    have C_law_two := cal_law_two (P := P) (w := w) (base := base) T
    have C_law_way := cal_law_way (P := P) (w := w) (base := base) T
    have C_law_spoilt := cal_law_spoilt (P := P) (w := w) (base := base) T
    have C_law_draw := cal_law_draw (P := P) (w := w) (base := base) T
    have C_law_great := cal_law_great (P := P) (w := w) (base := base) T
    have C_law_is := cal_law_is (P := P) (w := w) (base := base) T
    have B_range := T.b_range
    have B_ValueError := T.b_ValueError
    have B_isinstance := T.b_isinstance
    have B_str := T.b_str
    have B_repr := T.b_repr
    have B_bool := T.b_bool
    cases h with
    | @mk H Q E a ns hS hl q =>
    have O : Own H [] H := ⟨same_rfl, fun _ h => (by simp at h), (by simp)⟩
    walk_at "in"
    walk_at "ax"
    intro l1 H_l1 n_l1
    obtain ⟨G_l1, s_l1, e_l1, O⟩ := Own.fix (by walk_at "as") n_l1
    walk_at "ax"
    rename_i t1 H_t1 n_t1 G_t1 s_t1 e_t1 O
    intro d0 H_d0 n_d0
    obtain ⟨G_d0, s_d0, e_d0, O⟩ := Own.fix (by walk_at "as") n_d0
    walk_at "ax"
    refine s_for c (fun _ => rfl) ?_
    walk_at "ax"
    refine on_range (fun k σ H => ∃ (d a1 b1 : Addr) (xs ys : List V) (b_k b_refusal b_cell b_hand b_one b_other b_way b_spoilt b_once b_some b_thing b_kept b_turn b_told : Option V) (G_D : Hp), σ = [some (.ref a), some (.ref d), b_k, b_refusal, b_cell, b_hand, b_one, b_other, b_way, b_spoilt, b_once, b_some, b_thing, b_kept, b_turn, b_told] ∧ Own G_D ([]) H ∧ Same G_d0 G_D ∧ G_D d = some (.lst [.ref a1, .ref b1]) ∧ G_D a1 = some (.lst xs) ∧ G_D b1 = some (.tup ys)) ⟨d0, l1, t1, [], [], _, _, _, _, _, _, _, _, _, _, _, _, _, _, _, rfl, (by walk_at "ow"), (by walk_at "sm"), e_d0, (by walk_at "gp"), (by walk_at "gp")⟩ ?_ ?_
    · rintro k σ H hk ⟨d, a1, b1, xs, ys, b_k, b_refusal, b_cell, b_hand, b_one, b_other, b_way, b_spoilt, b_once, b_some, b_thing, b_kept, b_turn, b_told, G_D, rfl, O, s_D, ed, ea, eb⟩
      walk_at "ax"
      intro m1 H_m1 n_m1
      obtain ⟨G_m1, s_m1, e_m1, O⟩ := Own.fix (by walk_at "as") n_m1
      walk_at "ax"
      rename_i t2 H_t2 n_t2 G_t2 s_t2 e_t2 O
      intro m2 H_m2 n_m2
      obtain ⟨G_m2, s_m2, e_m2, O⟩ := Own.fix (by walk_at "as") n_m2
      walk_at "ax"
      first | exact ⟨m2, m1, t2, [V.ref a1], [V.ref b1], _, _, _, _, _, _, _, _, _, _, _, _, _, _, _, rfl, (by walk_at "ow"), (by walk_at "sm"), e_m2, (by walk_at "gp"), (by walk_at "gp")⟩
    rintro σ H ⟨dp, a1, b1, xs, ys, b_k, b_refusal, b_cell, b_hand, b_one, b_other, b_way, b_spoilt, b_once, b_some, b_thing, b_kept, b_turn, b_told, G_D, rfl, O, s_D, ed, ea, eb⟩
    have hS : SqL K G_D a (ns.map V.int) := by walk_at "gsl"
    walk_at "ax"
    refine i_listK c ?_
    walk_at "ax"
    refine ⟨dp, _, rfl, by walk_at "sql", ?_⟩
    refine lc_cell (G := G_D) (fun _ acc _ C' => acc = [] ∧ C' = []) c rfl (walk_list (xs := [V.ref a1, V.ref b1])) (by simp) O ⟨rfl, rfl⟩ ?_ ?_ ?_
    · rintro m acc G5 C5 A H5 ⟨rfl, rfl⟩ O s5
      exact .of (hp_up O (s5 _ _ (by walk_at "gp")))
    · rintro m v acc G5 C5 A H5 H6 hm ⟨rfl, rfl⟩ ⟨rfl, hv⟩ O s5 X' c
      have hb : OddT G5 v := by
        have := List.mem_of_getElem? hv
        simp only [List.mem_cons, List.not_mem_nil, or_false] at this
        rcases this with rfl | rfl
        · exact .lst (s5 _ _ (show G_D a1 = some (.lst xs) by walk_at "gp"))
        · exact .tup (s5 _ _ (show G_D b1 = some (.tup ys) by walk_at "gp"))
      simp only [wipe, List.set]
      walk_at "ax"
      refine ⟨rfl, fun X' c => ?_⟩
      refine ts_one ?_
      walk_at "ax"
      refine .odd O (by decide +kernel) (by decide +kernel) hb fun G7 H7 s7 O => ?_
      walk_at "ax"
      exact ⟨_, _, O, s7, by simp, rfl⟩
    rintro acc G5 C5 A H5 hl9 ⟨rfl, rfl⟩ O s5
    obtain ⟨G6, s6, e6, O⟩ := O.frz
    walk_at "ax"
    intro q1 H_q1 n_q1
    obtain ⟨G_q1, s_q1, e_q1, O⟩ := Own.fix (by walk_at "as") n_q1
    walk_at "ax"
    refine o_neNilA c (.of (hp_up O (by walk_at "gp"))) (.of (hp_up O e_q1)) ?_
    rw [decide_eq_true rfl]
    walk_at "ax"
    refine i_listK c ?_
    walk_at "ax"
    refine ⟨dp, _, rfl, by walk_at "sql", ?_⟩
    refine lc_cell (G := G_q1) (fun _ acc _ C' => acc = [] ∧ C' = []) c rfl (walk_list (xs := [V.ref a1, V.ref b1])) (by simp) O ⟨rfl, rfl⟩ ?_ ?_ ?_
    · rintro m acc G5 C5 A H5 ⟨rfl, rfl⟩ O s5
      exact .of (hp_up O (s5 _ _ (by walk_at "gp")))
    · rintro m v acc G5 C5 A H5 H6 hm ⟨rfl, rfl⟩ ⟨rfl, hv⟩ O s5 X' c
      have hb : OddT G5 v := by
        have := List.mem_of_getElem? hv
        simp only [List.mem_cons, List.not_mem_nil, or_false] at this
        rcases this with rfl | rfl
        · exact .lst (s5 _ _ (show G_q1 a1 = some (.lst xs) by walk_at "gp"))
        · exact .tup (s5 _ _ (show G_q1 b1 = some (.tup ys) by walk_at "gp"))
      simp only [wipe, List.set]
      walk_at "ax"
      refine ⟨rfl, fun X' c => ?_⟩
      refine ts_one ?_
      walk_at "ax"
      refine .odd O (by decide +kernel) (by decide +kernel) hb fun G7 H7 s7 O => ?_
      walk_at "ax"
      exact ⟨_, _, O, s7, by simp, rfl⟩
    rintro acc G5 C5 A H5 hl9 ⟨rfl, rfl⟩ O s5
    obtain ⟨G6, s6, e6, O⟩ := O.frz
    walk_at "ax"
    intro q2 H_q2 n_q2
    obtain ⟨G_q2, s_q2, e_q2, O⟩ := Own.fix (by walk_at "as") n_q2
    walk_at "ax"
    refine o_neNilA c (.of (hp_up O (by walk_at "gp"))) (.of (hp_up O e_q2)) ?_
    rw [decide_eq_true rfl]
    walk_at "ax"
    refine e_ve c (by walk_at "dk") (by walk_at "as") fun va Hv nv => ?_
    obtain ⟨G_va, s_va, e_va, O⟩ := O.fix nv
    walk_at "ax"
    refine .odd O (by decide +kernel) (by decide +kernel) (OddT.ve e_va) fun G_o1 H_o1 s_o1 O => ?_
    walk_at "ax"
    refine .odd O (by decide +kernel) (by decide +kernel) (OddT.ve (s_o1 _ _ e_va)) fun G_o2 H_o2 s_o2 O => ?_
    walk_at "ax"
    have hS : SqL K G_o2 a (ns.map V.int) := by walk_at "gsl"
    refine s_for c (fun _ => rfl) (i_listK c ?_)
    walk_at "go"
    refine .mk O hS hl (by decide) (by decide) fun r ts xs G1 H1 s1 O hx hl1 e1 e2 => ?_
    refine ⟨r, _, rfl, by walk_at "sql", ?_⟩
    refine on_listK c (xs := ts.map V.ref) (fun _ σ H => ∃ (b_k b_cell b_hand b_one b_other b_way b_spoilt b_once b_some b_thing b_kept b_turn b_told : Option V) (G_L : Hp), σ = [some (.ref a), some (.ref dp), b_k, some (.ref va), b_cell, b_hand, b_one, b_other, b_way, b_spoilt, b_once, b_some, b_thing, b_kept, b_turn, b_told] ∧ Own G_L ([]) H ∧ Same G1 G_L ∧ True) ⟨_, _, _, _, _, _, _, _, _, _, _, _, _, _, rfl, (by walk_at "ow"), (by walk_at "sm"), trivial⟩ ?_ ?_ ?_
    · rintro i σ H hi ⟨b_k, b_cell, b_hand, b_one, b_other, b_way, b_spoilt, b_once, b_some, b_thing, b_kept, b_turn, b_told, G_L, rfl, O, s_L, -⟩
      walk_at "sql"
    · rintro i x σ H hx ⟨b_k, b_cell, b_hand, b_one, b_other, b_way, b_spoilt, b_once, b_some, b_thing, b_kept, b_turn, b_told, G_L, rfl, O, s_L, -⟩
      obtain ⟨t, ht, rfl⟩ := map_ref hx
      have hi : i < 63 := by
        have := (List.getElem?_eq_some_iff.mp ht).1
        omega
      obtain ⟨x, ex⟩ := e2 i t ht
      walk_at "ax"
      refine' Sp_law_hand.mk ?O ?h1 ?h2 ?_
      (case O => walk_at "own")
      (case h1 => walk_at "ar")
      (case h2 => walk_at "ar")
      intro p o H_p O hh
      walk_at "ax"
      refine' Sp_law_draw.mk ?O ?hh ?h3 ?h4 ?_
      (case O => walk_at "own")
      (case hh => walk_at "as")
      (case h3 => walk_at "ar")
      (case h4 => walk_at "ar")
      intro mi o H_mi O hh mi_1 mi_2
      walk_at "ax"
      obtain ⟨mo, hm, m0, m1⟩ : ∃ mo : Int, atI [V.int 6, V.int 14] mi = some (.int mo) ∧ 0 ≤ mo ∧ mo ≤ 60 := by
        have : mi = 0 ∨ mi = 1 := by omega
        rcases this with rfl | rfl <;> exact ⟨_, rfl, by decide, by decide⟩
      refine x_lst c (by walk_at "sql") hm ?_
      walk_at "go"
      refine ea_join (fun v H' => ∃ b : Bool, v = .bl b ∧ H' = H_mi) (fun _ => ?_) (fun _ => ⟨_, rfl, rfl⟩) ?_
      · walk_at "go"
        exact .mk O (by walk_at "sql") fun b => ⟨b, rfl, rfl⟩
      rintro v H5 ⟨b, rfl, rfl⟩
      walk_at "go"
      refine .mk O hh m0 m1 fun r2 y z o G6 H6 s6 O hh ly lz hsm ay az er => ?_
      walk_at "ax"
      refine' Sp_law_way.mk ?O ?hh ?h3 ?h4 ?_
      (case O => walk_at "own")
      (case hh => walk_at "as")
      (case h3 => walk_at "ar")
      (case h4 => walk_at "ar")
      intro t o G_t H_t s_t O hh t48 tc0 tc1
      walk_at "ax"
      have lt : t.length ≤ 120 := by have := cnt_len t48; omega
      have at' : Asc t := fun x hx => by have := t48 x hx; omega
      refine .mk O hh (by omega) at' fun v1 o G7 H7 s7 O hh h1 => ?_
      obtain ⟨d1, h1⟩ := h1
      walk_at "ax"
      have key : ∀ {Q' : VK}, (∀ bb : Bool, (bb = true → ∃ u, v1 = V.str (S u) ∧ Asc u ∧ u.length ≤ t.length + 1) → Q' (.bl bb) H7) → cS X (.builtin "isinstance") [v1, V.ty "str"] H7 Q' := fun {Q'} hq => by
        obtain ⟨t2, _, f2⟩ := h1
        cases t2 with
        | non =>
          walk_at "ax"
          exact hq _ (fun e => by cases e)
        | bl b =>
          walk_at "ax"
          exact hq _ (fun e => by cases e)
        | int h =>
          walk_at "ax"
          exact hq _ (fun e => by cases e)
        | str x =>
          obtain ⟨w, rfl⟩ : ∃ w, x = S w := ⟨cs x, (S_cs x).symm⟩
          walk_at "ax"
          exact hq _ (fun _ => ⟨w, rfl, f2 w rfl⟩)
        | lst h k =>
          walk_at "ax"
          exact hq _ (fun e => by cases e)
        | tup h k =>
          walk_at "ax"
          exact hq _ (fun e => by cases e)
        | dk h =>
          walk_at "ax"
          exact hq _ (fun e => by cases e)
        | dki h k =>
          walk_at "ax"
          exact hq _ (fun e => by cases e)
      refine key fun bb hbb => ?_
      walk_at "ax"
      refine i_join (fun σ H => ∃ (u : List Nat) (b_some b_thing b_kept b_turn b_told : Option V) (G_W : Hp), σ = [some (.ref a), some (.ref dp), some (.int (i : Nat)), some (.ref va), some (.int x), some (.ref p), some (.str (S y)), some (.str (S z)), some (.str (S t)), some (v1), some (.str (S u)), b_some, b_thing, b_kept, b_turn, b_told] ∧ Own G_W ([(p, o)]) H ∧ Same G7 G_W ∧ u.length ≤ 121 ∧ Asc u) (fun e => ?_) (fun _ => ?_) ?_
      · obtain ⟨u, rfl, hu1, hu2⟩ := hbb e
        walk_at "ax"
        first | exact ⟨u, _, _, _, _, _, _, rfl, (by walk_at "ow"), (by walk_at "sm"), by omega, hu1⟩
      · walk_at "ax"
        first | exact ⟨t, _, _, _, _, _, _, rfl, (by walk_at "ow"), (by walk_at "sm"), by omega, at'⟩
      rintro σ H ⟨u, b_some, b_thing, b_kept, b_turn, b_told, G_W, rfl, O, s_W, hu1, hu2⟩
      walk_at "ax"
      refine .mk O hh (by omega) hu2 fun v2 o G9 H9 s9 O hh h2 => ?_
      obtain ⟨d2, h2⟩ := h2
      walk_at "ax"
      refine .mk O hh (by omega) at' fun v3 o Ga Ha sa O hh h3 => ?_
      obtain ⟨d3, h3⟩ := h3
      walk_at "ax"
      refine l_str (z := t) (Nat.le_trans lt (by decide)) ?_
      have l5 : (cut t none (some (-1))).length ≤ 120 := Nat.le_trans (cut_len _ _ _) lt
      have a5 : Asc (cut t none (some (-1))) := fun x hx => at' x (cut_mem hx)
      walk_at "ax"
      intro m1 H_m1 n_m1
      obtain ⟨G_m1, s_m1, e_m1, O⟩ := Own.fix (by walk_at "as") n_m1
      walk_at "ax"
      refine s_for c (fun _ => rfl) (i_listK c ?_)
      walk_at "ax"
      refine o_repM (by omega) (by decide +kernel) (by omega) fun _ => ?_
      have l15 : (List.replicate (Int.toNat 1500) (cs "01")).flatten.length ≤ 4000 := by decide +kernel
      have a15 : Asc (List.replicate (Int.toNat 1500) (cs "01")).flatten := by unfold Asc; decide +kernel
      generalize (List.replicate (Int.toNat 1500) (cs "01")).flatten = t15 at *
      walk_at "ax"
      intro m2 H_m2 n_m2
      obtain ⟨G_m2, s_m2, e_m2, O⟩ := Own.fix (by walk_at "as") n_m2
      walk_at "ax"
      refine o_cat (hp_up O (by walk_at "gp")) (hp_up O e_m2) (by simp) ?_
      intro th H_th n_th
      obtain ⟨G_th, s_th, e_th, O⟩ := Own.fix (by walk_at "as") n_th
      walk_at "ax"
      refine ⟨th, _, rfl, by walk_at "sql", ?_⟩
      have hall : ∀ v ∈ [V.str (S t), v1, v2, v3, V.str (S (cut t none (some (-1))))] ++ [V.str (S (t ++ t)), V.str (S (t ++ cs "01")), V.str (S t15)], ∃ d, WyT G_th 4000 v d := fun v hv => by
        have l01 : (cs "01").length = 2 := by decide +kernel
        have a01 : Asc (cs "01") := by unfold Asc; decide +kernel
        simp only [List.mem_append, List.mem_cons, List.not_mem_nil, or_false] at hv
        rcases hv with (rfl | rfl | rfl | rfl | rfl) | (rfl | rfl | rfl)
        · exact ⟨_, wy_text at' (by omega) (by omega)⟩
        · exact ⟨_, (h1.up (by walk_at "sm")).mono (by omega)⟩
        · exact ⟨_, (h2.up (by walk_at "sm")).mono (by omega)⟩
        · exact ⟨_, (h3.up (by walk_at "sm")).mono (by omega)⟩
        · exact ⟨_, wy_text a5 (by omega) (by omega)⟩
        · exact ⟨_, wy_text (asc_app at' at') (by rw [List.length_append]; omega) (by omega)⟩
        · exact ⟨_, wy_text (asc_app at' a01) (by rw [List.length_append, l01]; omega) (by omega)⟩
        · exact ⟨_, wy_text a15 l15 (by omega)⟩
      refine on_listK c (xs := [V.str (S t), v1, v2, v3, V.str (S (cut t none (some (-1))))] ++ [V.str (S (t ++ t)), V.str (S (t ++ cs "01")), V.str (S t15)]) (fun _ σ H => ∃ (b_some b_thing b_kept b_turn b_told : Option V) (G_U : Hp), σ = [some (.ref a), some (.ref dp), some (.int (i : Nat)), some (.ref va), some (.int x), some (.ref p), some (.str (S y)), some (.str (S z)), some (.str (S t)), some (v1), some (.str (S u)), b_some, b_thing, b_kept, b_turn, b_told] ∧ Own G_U ([(p, o)]) H ∧ Same G_th G_U ∧ True) ⟨_, _, _, _, _, _, rfl, (by walk_at "ow"), (by walk_at "sm"), trivial⟩ ?_ ?_ ?_
      · rintro i2 σ H hi2 ⟨b_some, b_thing, b_kept, b_turn, b_told, G_U, rfl, O, s_U, -⟩
        walk_at "sql"
      · rintro i2 v σ H hv2 ⟨b_some, b_thing, b_kept, b_turn, b_told, G_U, rfl, O, s_U, -⟩
        obtain ⟨d, hT⟩ := hall v (List.mem_of_getElem? hv2)
        have k1 : ∀ {G1 H1 : Hp} {Q' : VK} {E' : XK}, Own G1 [(p, o)] H1 → Same G_th G1 → (∀ G' H', Same G1 G' → Own G' [(p, o)] H' → Q' (.bl (isWD y z d)) H') → Sp_is_way K [.str (S y), .str (S z), v] H1 Q' E' := fun {G1 H1 Q' E'} O1 s1 hq => by
          rcases Td.odd (hT.1.up s1) with h | ⟨i, rfl, rfl⟩ | ⟨w, rfl, rfl⟩
          · have hd : isWD y z d = false := by
              have hn : ∀ x, d ≠ .str x := by
                rintro x rfl
                have h9 := hT.1
                cases h9
                cases h
              cases d with
              | str x => exact absurd rfl (hn x)
              | _ => rfl
            rw [hd] at hq
            exact .odd O1 (by omega) (by omega) h hq
          · exact .int (hq _ _ same_rfl O1)
          · have hw := (hT.2.2 w rfl).2
            have eq : isWD y z (.str (S w)) = isWayB y z w := by
              show isWayB y z (cs (S w)) = _
              rw [cs_S]
            rw [eq] at hq
            exact .mk (by omega) (by omega) (by omega) (hq _ _ same_rfl O1)
        walk_at "ax"
        refine c_reprT c hG (hT.1.up fun a u e => hp_up O (s_U _ _ e)) hT.2.1.sh (n := 3) hT.2.1.dp (by omega) (hT.2.1.size (by omega)) ?_
        walk_at "ax"
        refine s_for c (fun _ => rfl) ?_
        walk_at "ax"
        refine on_range (fun _ σ H => ∃ (b_some b_turn b_told : Option V) (G_T : Hp), σ = [some (.ref a), some (.ref dp), some (.int (i : Nat)), some (.ref va), some (.int x), some (.ref p), some (.str (S y)), some (.str (S z)), some (.str (S t)), some (v1), some (.str (S u)), b_some, some (v), some (.str (S (cs d.shown))), b_turn, b_told] ∧ Own G_T ([(p, o)]) H ∧ Same G_th G_T ∧ True) ⟨_, _, _, _, rfl, (by walk_at "ow"), (by walk_at "sm"), trivial⟩ ?_ ?_
        · rintro i3 σ H hi3 ⟨b_some, b_turn, b_told, G_T, rfl, O, s_T, -⟩
          walk_at "ax"
          refine k1 O s_T fun Gb Hb sb O => ?_
          walk_at "ax"
          refine .mk O (by omega) (by omega) (hT.up (by walk_at "sm")) (by omega) fun Gc Hc sc O => ?_
          walk_at "ax"
          refine c_reprT c hG (hT.1.up fun a u e => hp_up O ((show Same G_th Gc by walk_at "sm") _ _ e)) hT.2.1.sh (n := 3) hT.2.1.dp (by omega) (hT.2.1.size (by omega)) ?_
          walk_at "ax"
          first | exact ⟨_, _, _, _, rfl, (by walk_at "ow"), (by walk_at "sm"), trivial⟩
        · rintro σ H ⟨b_some, b_turn, b_told, G_T, rfl, O, s_T, -⟩
          walk_at "ax"
          first | exact ⟨_, _, _, _, _, _, rfl, (by walk_at "ow"), (by walk_at "sm"), trivial⟩
      · rintro σ H ⟨b_some, b_thing, b_kept, b_turn, b_told, G_U, rfl, O, s_U, -⟩
        walk_at "ax"
        have O := O.drop
        first | exact ⟨_, _, _, _, _, _, _, _, _, _, _, _, _, _, rfl, (by walk_at "ow"), (by walk_at "sm"), trivial⟩
    · rintro σ H ⟨b_k, b_cell, b_hand, b_one, b_other, b_way, b_spoilt, b_once, b_some, b_thing, b_kept, b_turn, b_told, G_L, rfl, O, s_L, -⟩
      walk_at "ax"
      refine .mk (by decide +kernel) (by decide +kernel) (by decide +kernel) ?_
      rw [decide_eq_true (by decide +kernel)]
      walk_at "ax"
      refine .mk (by decide +kernel) (by decide +kernel) (by decide +kernel) ?_
      rw [decide_eq_true (by decide +kernel)]
      walk_at "ax"
      refine .mk (by decide +kernel) (by decide +kernel) (by decide +kernel) ?_
      rw [decide_eq_false (by decide +kernel)]
      walk_at "ax"
      exact q _))) only [↓fnG_ok]
theorem calG_law (T : Env K mg) : CalG P w K mg base 4 "law" (Sp_law K) := calG_of T.d_law fun F => ok_law T F
end

end Law

namespace Law
open PySem PySem.Spec PyProof.Rows L2 Go
theorem env_mk {K : PySem.W.Frag} {h : Heap} {mg : Str → Option Value} {f0 f1 f2 f3 f4 f5 f6 f7 f8 f9 f10 : Addr} (X : K.In h) (G : h.Ns mainGlobals mg)
    {od0 an0 : Option Addr} {sl0 : Array (Option Value)} {oc0 kV0 dc0 pm0 cd0 ct0 : Value}
    (a0 : PySem.W.nsIn K mainGlobals "is_way" = some (some (.ref f0))) (l0 : K.lookup f0 = some ⟨oc0, od0, .func (PySem.W.fnOf "is_way" "is_way" (defArgs st_is_way) (defBody st_is_way) (defScope st_is_way) .none kV0 dc0 pm0 an0 cd0 ct0), sl0⟩) (c0 : PySem.W.codeIn K cd0 "is_way" = true) (k0 : PySem.W.keepIn K (.ref f0) = true)
    {od1 an1 : Option Addr} {sl1 : Array (Option Value)} {oc1 kV1 dc1 pm1 cd1 ct1 : Value}
    (a1 : PySem.W.nsIn K mainGlobals "_law_hand" = some (some (.ref f1))) (l1 : K.lookup f1 = some ⟨oc1, od1, .func (PySem.W.fnOf "_law_hand" "_law_hand" (defArgs st_law_hand) (defBody st_law_hand) (defScope st_law_hand) .none kV1 dc1 pm1 an1 cd1 ct1), sl1⟩) (c1 : PySem.W.codeIn K cd1 "_law_hand" = true) (k1 : PySem.W.keepIn K (.ref f1) = true)
    {od2 an2 : Option Addr} {sl2 : Array (Option Value)} {oc2 kV2 dc2 pm2 cd2 ct2 : Value}
    (a2 : PySem.W.nsIn K mainGlobals "_law_draw" = some (some (.ref f2))) (l2 : K.lookup f2 = some ⟨oc2, od2, .func (PySem.W.fnOf "_law_draw" "_law_draw" (defArgs st_law_draw) (defBody st_law_draw) (defScope st_law_draw) .none kV2 dc2 pm2 an2 cd2 ct2), sl2⟩) (c2 : PySem.W.codeIn K cd2 "_law_draw" = true) (k2 : PySem.W.keepIn K (.ref f2) = true)
    {od3 an3 : Option Addr} {sl3 : Array (Option Value)} {oc3 kV3 dc3 pm3 cd3 ct3 : Value}
    (a3 : PySem.W.nsIn K mainGlobals "_law_cells" = some (some (.ref f3))) (l3 : K.lookup f3 = some ⟨oc3, od3, .func (PySem.W.fnOf "_law_cells" "_law_cells" (defArgs st_law_cells) (defBody st_law_cells) (defScope st_law_cells) .none kV3 dc3 pm3 an3 cd3 ct3), sl3⟩) (c3 : PySem.W.codeIn K cd3 "_law_cells" = true) (k3 : PySem.W.keepIn K (.ref f3) = true)
    {od4 an4 : Option Addr} {sl4 : Array (Option Value)} {oc4 kV4 dc4 pm4 cd4 ct4 : Value}
    (a4 : PySem.W.nsIn K mainGlobals "_law_great" = some (some (.ref f4))) (l4 : K.lookup f4 = some ⟨oc4, od4, .func (PySem.W.fnOf "_law_great" "_law_great" (defArgs st_law_great) (defBody st_law_great) (defScope st_law_great) .none kV4 dc4 pm4 an4 cd4 ct4), sl4⟩) (c4 : PySem.W.codeIn K cd4 "_law_great" = true) (k4 : PySem.W.keepIn K (.ref f4) = true)
    {od5 an5 : Option Addr} {sl5 : Array (Option Value)} {oc5 kV5 dc5 pm5 cd5 ct5 : Value}
    (a5 : PySem.W.nsIn K mainGlobals "_law_row" = some (some (.ref f5))) (l5 : K.lookup f5 = some ⟨oc5, od5, .func (PySem.W.fnOf "_law_row" "_law_row" (defArgs st_law_row) (defBody st_law_row) (defScope st_law_row) .none kV5 dc5 pm5 an5 cd5 ct5), sl5⟩) (c5 : PySem.W.codeIn K cd5 "_law_row" = true) (k5 : PySem.W.keepIn K (.ref f5) = true)
    {od6 an6 : Option Addr} {sl6 : Array (Option Value)} {oc6 kV6 dc6 pm6 cd6 ct6 : Value}
    (a6 : PySem.W.nsIn K mainGlobals "_law_two" = some (some (.ref f6))) (l6 : K.lookup f6 = some ⟨oc6, od6, .func (PySem.W.fnOf "_law_two" "_law_two" (defArgs st_law_two) (defBody st_law_two) (defScope st_law_two) .none kV6 dc6 pm6 an6 cd6 ct6), sl6⟩) (c6 : PySem.W.codeIn K cd6 "_law_two" = true) (k6 : PySem.W.keepIn K (.ref f6) = true)
    {od7 an7 : Option Addr} {sl7 : Array (Option Value)} {oc7 kV7 dc7 pm7 cd7 ct7 : Value}
    (a7 : PySem.W.nsIn K mainGlobals "_law_way" = some (some (.ref f7))) (l7 : K.lookup f7 = some ⟨oc7, od7, .func (PySem.W.fnOf "_law_way" "_law_way" (defArgs st_law_way) (defBody st_law_way) (defScope st_law_way) .none kV7 dc7 pm7 an7 cd7 ct7), sl7⟩) (c7 : PySem.W.codeIn K cd7 "_law_way" = true) (k7 : PySem.W.keepIn K (.ref f7) = true)
    {od8 an8 : Option Addr} {sl8 : Array (Option Value)} {oc8 kV8 dc8 pm8 cd8 ct8 : Value}
    (a8 : PySem.W.nsIn K mainGlobals "_law_spoilt" = some (some (.ref f8))) (l8 : K.lookup f8 = some ⟨oc8, od8, .func (PySem.W.fnOf "_law_spoilt" "_law_spoilt" (defArgs st_law_spoilt) (defBody st_law_spoilt) (defScope st_law_spoilt) .none kV8 dc8 pm8 an8 cd8 ct8), sl8⟩) (c8 : PySem.W.codeIn K cd8 "_law_spoilt" = true) (k8 : PySem.W.keepIn K (.ref f8) = true)
    {od9 an9 : Option Addr} {sl9 : Array (Option Value)} {oc9 kV9 dc9 pm9 cd9 ct9 : Value}
    (a9 : PySem.W.nsIn K mainGlobals "_law_is" = some (some (.ref f9))) (l9 : K.lookup f9 = some ⟨oc9, od9, .func (PySem.W.fnOf "_law_is" "_law_is" (defArgs st_law_is) (defBody st_law_is) (defScope st_law_is) .none kV9 dc9 pm9 an9 cd9 ct9), sl9⟩) (c9 : PySem.W.codeIn K cd9 "_law_is" = true) (k9 : PySem.W.keepIn K (.ref f9) = true)
    {od10 an10 : Option Addr} {sl10 : Array (Option Value)} {oc10 kV10 dc10 pm10 cd10 ct10 : Value}
    (a10 : PySem.W.nsIn K mainGlobals "law" = some (some (.ref f10))) (l10 : K.lookup f10 = some ⟨oc10, od10, .func (PySem.W.fnOf "law" "law" (defArgs st_law) (defBody st_law) (defScope st_law) .none kV10 dc10 pm10 an10 cd10 ct10), sl10⟩) (c10 : PySem.W.codeIn K cd10 "law" = true) (k10 : PySem.W.keepIn K (.ref f10) = true)
    (z_ValueError : PySem.W.nsIn K mainGlobals "ValueError" = some none)
    (z_bool : PySem.W.nsIn K mainGlobals "bool" = some none)
    (z_enumerate : PySem.W.nsIn K mainGlobals "enumerate" = some none)
    (z_int : PySem.W.nsIn K mainGlobals "int" = some none)
    (z_isinstance : PySem.W.nsIn K mainGlobals "isinstance" = some none)
    (z_len : PySem.W.nsIn K mainGlobals "len" = some none)
    (z_list : PySem.W.nsIn K mainGlobals "list" = some none)
    (z_range : PySem.W.nsIn K mainGlobals "range" = some none)
    (z_repr : PySem.W.nsIn K mainGlobals "repr" = some none)
    (z_str : PySem.W.nsIn K mainGlobals "str" = some none)
    (z_sum : PySem.W.nsIn K mainGlobals "sum" = some none)
    (z_tuple : PySem.W.nsIn K mainGlobals "tuple" = some none)
    : Env K mg :=
  { d_is_way := df_mk X G a0 l0 c0 k0 (fun _ _ _ _ _ _ us hl => match us, hl with | [_, _, _], _ => rfl),
    d_law_hand := df_mk X G a1 l1 c1 k1 (fun _ _ _ _ _ _ us hl => match us, hl with | [_, _], _ => rfl),
    d_law_draw := df_mk X G a2 l2 c2 k2 (fun _ _ _ _ _ _ us hl => match us, hl with | [_, _], _ => rfl),
    d_law_cells := df_mk X G a3 l3 c3 k3 (fun _ _ _ _ _ _ us hl => match us, hl with | [_, _], _ => rfl),
    d_law_great := df_mk X G a4 l4 c4 k4 (fun _ _ _ _ _ _ us hl => match us, hl with | [_], _ => rfl),
    d_law_row := df_mk X G a5 l5 c5 k5 (fun _ _ _ _ _ _ us hl => match us, hl with | [_, _], _ => rfl),
    d_law_two := df_mk X G a6 l6 c6 k6 (fun _ _ _ _ _ _ us hl => match us, hl with | [_, _, _], _ => rfl),
    d_law_way := df_mk X G a7 l7 c7 k7 (fun _ _ _ _ _ _ us hl => match us, hl with | [_, _, _], _ => rfl),
    d_law_spoilt := df_mk X G a8 l8 c8 k8 (fun _ _ _ _ _ _ us hl => match us, hl with | [_, _], _ => rfl),
    d_law_is := df_mk X G a9 l9 c9 k9 (fun _ _ _ _ _ _ us hl => match us, hl with | [_, _, _], _ => rfl),
    d_law := df_mk X G a10 l10 c10 k10 (fun _ _ _ _ _ _ us hl => match us, hl with | [_], _ => rfl),
    b_ValueError := PySem.W.mg_none_of X G z_ValueError,
    b_bool := PySem.W.mg_none_of X G z_bool,
    b_enumerate := PySem.W.mg_none_of X G z_enumerate,
    b_int := PySem.W.mg_none_of X G z_int,
    b_isinstance := PySem.W.mg_none_of X G z_isinstance,
    b_len := PySem.W.mg_none_of X G z_len,
    b_list := PySem.W.mg_none_of X G z_list,
    b_range := PySem.W.mg_none_of X G z_range,
    b_repr := PySem.W.mg_none_of X G z_repr,
    b_str := PySem.W.mg_none_of X G z_str,
    b_sum := PySem.W.mg_none_of X G z_sum,
    b_tuple := PySem.W.mg_none_of X G z_tuple }
theorem walk {l : PySem.W.OpenLaw} {q : Program} {loose : List Str} {XP : (Str → Option Value) → Heap → Prop} {YP : World → Heap → Prop} {d : DefRec} {K : Params → PySem.W.Frag} (hn : l.most = some 63) (hdf : d.params.defaults = [])
    (hY : ∀ (w : World) (h : Heap), YP w h → (K w.params).In h) (F : ∀ (w : World) (mg : Str → Option Value) (fa : Addr) (h : Heap), (K w.params).In h → h.Ns mainGlobals mg → mg d.name = some (.ref fa) → d.name = "law" ∧ Env (K w.params) mg) :
    PySem.W.WalkO q loose XP YP l.row.toRowW d [] (fun f vs => PySem.call f vs) :=
  walkG (n := 63) (k := 4) (x := "script") (sp := fun w => Sp_law (K w.params)) hn (by decide) hdf ⟨rfl, by decide, by decide⟩ hY
    (fun w mg fa h KX G hf => by
      obtain ⟨e, T⟩ := F w mg fa h KX G hf
      rw [e] at hf
      exact law_fnG T.d_law hf (fun F => ok_law T F))
    (fun _ _ a ns hl hS => Sp_law.mk hS hl fun _ => rfl)
end Law
open PySem PySem.W PyProof.Rows in
set_option maxRecDepth 100000 in
set_option maxHeartbeats 0 in
theorem PySem.Challenge.cw_wovenword_k02_what_is_a_way_holds : PySem.Challenge.rw_wovenword_k02_what_is_a_way.Holds := by
  w_on; o_law; k_head; (case hw => w_witness2)
  k_fill
  refine Law.walk (l := PySem.Challenge.rw_wovenword_k02_what_is_a_way) rfl rfl (fun w h Y => PySem.W.kIn_of Y) ?F
  case F =>
    intro w mg fa h KX G hmg
    refine ⟨rfl, ?_⟩
    refine' Law.env_mk KX G (a0 := ?a0) (l0 := ?l0) (c0 := ?c0) (k0 := ?k0) (a1 := ?a1) (l1 := ?l1) (c1 := ?c1) (k1 := ?k1) (a2 := ?a2) (l2 := ?l2) (c2 := ?c2) (k2 := ?k2) (a3 := ?a3) (l3 := ?l3) (c3 := ?c3) (k3 := ?k3) (a4 := ?a4) (l4 := ?l4) (c4 := ?c4) (k4 := ?k4) (a5 := ?a5) (l5 := ?l5) (c5 := ?c5) (k5 := ?k5) (a6 := ?a6) (l6 := ?l6) (c6 := ?c6) (k6 := ?k6) (a7 := ?a7) (l7 := ?l7) (c7 := ?c7) (k7 := ?k7) (a8 := ?a8) (l8 := ?l8) (c8 := ?c8) (k8 := ?k8) (a9 := ?a9) (l9 := ?l9) (c9 := ?c9) (k9 := ?k9) (a10 := ?a10) (l10 := ?l10) (c10 := ?c10) (k10 := ?k10) (z_ValueError := ?z_ValueError) (z_bool := ?z_bool) (z_enumerate := ?z_enumerate) (z_int := ?z_int) (z_isinstance := ?z_isinstance) (z_len := ?z_len) (z_list := ?z_list) (z_range := ?z_range) (z_repr := ?z_repr) (z_str := ?z_str) (z_sum := ?z_sum) (z_tuple := ?z_tuple)
    (case a0 => k_is)
    (case l0 => k_is)
    (case c0 => k_is)
    (case k0 => k_is)
    (case a1 => k_is)
    (case l1 => k_is)
    (case c1 => k_is)
    (case k1 => k_is)
    (case a2 => k_is)
    (case l2 => k_is)
    (case c2 => k_is)
    (case k2 => k_is)
    (case a3 => k_is)
    (case l3 => k_is)
    (case c3 => k_is)
    (case k3 => k_is)
    (case a4 => k_is)
    (case l4 => k_is)
    (case c4 => k_is)
    (case k4 => k_is)
    (case a5 => k_is)
    (case l5 => k_is)
    (case c5 => k_is)
    (case k5 => k_is)
    (case a6 => k_is)
    (case l6 => k_is)
    (case c6 => k_is)
    (case k6 => k_is)
    (case a7 => k_is)
    (case l7 => k_is)
    (case c7 => k_is)
    (case k7 => k_is)
    (case a8 => k_is)
    (case l8 => k_is)
    (case c8 => k_is)
    (case k8 => k_is)
    (case a9 => k_is)
    (case l9 => k_is)
    (case c9 => k_is)
    (case k9 => k_is)
    (case a10 => k_is)
    (case l10 => k_is)
    (case c10 => k_is)
    (case k10 => k_is)
    (case z_ValueError => k_is)
    (case z_bool => k_is)
    (case z_enumerate => k_is)
    (case z_int => k_is)
    (case z_isinstance => k_is)
    (case z_len => k_is)
    (case z_list => k_is)
    (case z_range => k_is)
    (case z_repr => k_is)
    (case z_str => k_is)
    (case z_sum => k_is)
    (case z_tuple => k_is)
